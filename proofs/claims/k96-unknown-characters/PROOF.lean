import PyProof.Rows.All
import Wide.All
import OpenK.AllK
import Wide.FinOn
import PyProof.EqAt
import PyProof.EqKinds
import PyProof.TupleCall
import PyProof.ReprRoads
import HandS.ForMost
import HandS.More
import HandS.IsInst
import HandS.Defaults
import HandS.DictComp
import HandS.ListItems
import HandS.Star
import HandS.Style
import HandS.TupAny
import HandS.TupMul
import HandS.Wide
import HandS.Exc
import HandS.TryOnly
import HandS.TryMany
import HandS.WordsExc
import HandS.Evl
import HandS.Head0
import HandS.Head1
import HandS.Head2
import HandS.HeadEnd
import HandS.HeadHook1
import HandS.HeadHook2
import HandS.DictEq
import HandS.DeepEq
import HandS.OwnEq
import HandS.Ends
import HandS.ExcInit
import HandS.ExcField
import HandS.ExcOwn
import HandS.HeadHook4
import HandS.Iter
import HandS.HotCalls
import HandS.ExcIs
import HandS.ExcInitHot
import HandS.HeadNt
import KE.KDictZip
import HandS.Zip
import HandS.Strs
import PyProof.Rows.SetFrom
import KE.KDictList
import HandS.Zip0
import PyProof.WalkInts
import PySem.Challenge.RW_scanbars_k96_whole_unknown_characters_pu
set_option Elab.async false
set_option autoImplicit false
set_option linter.all false
set_option maxRecDepth 100000
set_option maxHeartbeats 0
namespace Sb
open PySem PySem.Spec PyProof.Rows L2

/-! ### heaps: G what never changes any more, M what is still written -/
def Ex (H H' : Hp) : Prop := ∀ a o, H a = some o → H' a = some o
section
variable {G G' G1 G2 M M' H H' H1 : Hp} {p r : Addr} {o u : HO} {K : PySem.W.Frag}
theorem Ex.refl (H : Hp) : Ex H H := fun _ _ h => h
theorem Ex.trans (a : Ex H H1) (b : Ex H1 H') : Ex H H' := fun x o h => b x o (a x o h)
theorem Ex.new (h : H p = none) : Ex H (upd H p o) := fun a u e => by
  rw [upd_ne (ne_of_none e h)]
  exact e
theorem Ex.none (e : Ex H H') (h : H' p = Option.none) : H p = Option.none := by
  cases q : H p with
  | none => rfl
  | some o =>
    rw [e p o q] at h
    cases h
theorem Ex.rd (e : Ex H H') (h : Rd H p u) : Rd H' p u := by
  rcases h with h | ⟨o, h⟩
  · exact Or.inl (e _ _ h)
  · exact Or.inr ⟨o, e _ _ h⟩
theorem Ex.sl {xs : List V} (e : Ex H H') (h : SqL K H p xs) : SqL K H' p xs := by
  rcases h with h | h
  · exact Or.inl (e.rd h)
  · exact Or.inr h
theorem Ex.stt {xs : List V} (e : Ex H H') (h : SqT K H p xs) : SqT K H' p xs := by
  rcases h with h | h
  · exact Or.inl (e.rd h)
  · exact Or.inr h
theorem none_upd {a : Addr} (h : H a = none) (n : a ≠ p) : upd H p o a = none := by
  rw [upd_ne n]
  exact h
structure At (G M H : Hp) : Prop where
  g : Ex G H
  m : Ex M H
  d : ∀ a o, M a = some o → G a = none
theorem At.ng (A : At G M H) (h : H p = none) : At (upd G p o) M (upd H p o) where
  g := fun a u e => by
    by_cases q : a = p
    · subst q
      rw [upd_same] at e ⊢
      exact e
    · rw [upd_ne q] at e ⊢
      exact A.g _ _ e
  m := fun a u e => by
    have q : a ≠ p := fun z => by
      subst z
      rw [A.m _ _ e] at h
      cases h
    rw [upd_ne q]
    exact A.m _ _ e
  d := fun a u e => by
    have q : a ≠ p := fun z => by
      subst z
      rw [A.m _ _ e] at h
      cases h
    rw [upd_ne q]
    exact A.d _ _ e
theorem At.nm (A : At G M H) (h : H p = none) : At G (upd M p o) (upd H p o) where
  g := fun a u e => by
    have q : a ≠ p := fun z => by
      subst z
      rw [A.g _ _ e] at h
      cases h
    rw [upd_ne q]
    exact A.g _ _ e
  m := fun a u e => by
    by_cases q : a = p
    · subst q
      rw [upd_same] at e ⊢
      exact e
    · rw [upd_ne q] at e ⊢
      exact A.m _ _ e
  d := fun a u e => by
    by_cases q : a = p
    · subst q
      exact A.g.none h
    · rw [upd_ne q] at e
      exact A.d _ _ e
theorem At.wr (A : At G M H) (h : M p = some u) : At G (upd M p o) (upd H p o) where
  g := fun a v e => by
    have q : a ≠ p := fun z => by
      subst z
      rw [A.d _ _ h] at e
      cases e
    rw [upd_ne q]
    exact A.g _ _ e
  m := fun a v e => by
    by_cases q : a = p
    · subst q
      rw [upd_same] at e ⊢
      exact e
    · rw [upd_ne q] at e ⊢
      exact A.m _ _ e
  d := fun a v e => by
    by_cases q : a = p
    · subst q
      exact A.d _ _ h
    · rw [upd_ne q] at e
      exact A.d _ _ e
theorem At.drop (A : At G M H) (e : Ex M' M) : At G M' H := ⟨A.g, e.trans A.m, fun a o h => A.d a o (e a o h)⟩
theorem At.frz (A : At G M H) (h : M p = some o) (e : Ex M' M) (n : M' p = none) : At (upd G p o) M' H where
  g := fun a v q => by
    by_cases z : a = p
    · subst z
      rw [upd_same] at q
      cases q
      exact A.m _ _ h
    · rw [upd_ne z] at q
      exact A.g _ _ q
  m := e.trans A.m
  d := fun a v q => by
    have z : a ≠ p := fun z => by
      subst z
      rw [n] at q
      cases q
    rw [upd_ne z]
    exact A.d _ _ (e _ _ q)
theorem At.frzG (A : At G M H) (h : M p = some o) : Ex G (upd G p o) := Ex.new (A.d _ _ h)
theorem At.ne (A : At G M H) (h : M r = some u) (n : H p = none) : r ≠ p := fun z => by
  subst z
  rw [A.m _ _ h] at n
  cases n
theorem At.mNone (A : At G M H) (n : H p = none) : M p = none := A.m.none n
theorem At.gNone (A : At G M H) (n : H p = none) : G p = none := A.g.none n
end

/-! ### data in the heap -/
def kD : Key → PyData
  | .inl i => .int i
  | .inr x => .str x
mutual
def Rp (K : PySem.W.Frag) (G : Hp) : PyData → V → Prop
  | .none, v => v = .non
  | .bool b, v => v = .bl b
  | .int i, v => v = .int i
  | .str x, v => v = .str x
  | .list ds, v => ∃ a xs, v = .ref a ∧ G a = some (.lst xs) ∧ RpL K G ds xs
  | .tuple ds, v => ∃ a xs, v = .ref a ∧ SqT K G a xs ∧ RpL K G ds xs
  | .dict kvs, v => ∃ a es, v = .ref a ∧ G a = some (.dK es) ∧ RpD K G kvs es
def RpL (K : PySem.W.Frag) (G : Hp) : List PyData → List V → Prop
  | [], xs => xs = []
  | d :: ds, xs => ∃ x r, xs = x :: r ∧ Rp K G d x ∧ RpL K G ds r
def RpD (K : PySem.W.Frag) (G : Hp) : List (PyData × PyData) → List (Key × V) → Prop
  | [], es => es = []
  | (k, d) :: ds, es => ∃ x y r, es = (x, y) :: r ∧ kD x = k ∧ Rp K G d y ∧ RpD K G ds r
end
section
variable {K : PySem.W.Frag} {G G' : Hp}
mutual
theorem Rp.mono (e : Ex G G') : ∀ (d : PyData) {v : V}, Rp K G d v → Rp K G' d v
  | .none, _, h => h
  | .bool _, _, h => h
  | .int _, _, h => h
  | .str _, _, h => h
  | .list ds, _, ⟨a, xs, h1, h2, h3⟩ => ⟨a, xs, h1, e _ _ h2, RpL.mono e ds h3⟩
  | .tuple ds, _, ⟨a, xs, h1, h2, h3⟩ => ⟨a, xs, h1, e.stt h2, RpL.mono e ds h3⟩
  | .dict kvs, _, ⟨a, es, h1, h2, h3⟩ => ⟨a, es, h1, e _ _ h2, RpD.mono e kvs h3⟩
theorem RpL.mono (e : Ex G G') : ∀ (ds : List PyData) {xs : List V}, RpL K G ds xs → RpL K G' ds xs
  | [], _, h => h
  | d :: ds, _, ⟨x, r, h1, h2, h3⟩ => ⟨x, r, h1, Rp.mono e d h2, RpL.mono e ds h3⟩
theorem RpD.mono (e : Ex G G') : ∀ (ds : List (PyData × PyData)) {es : List (Key × V)}, RpD K G ds es → RpD K G' ds es
  | [], _, h => h
  | (k, d) :: ds, _, ⟨x, y, r, h1, h2, h3, h4⟩ => ⟨x, y, r, h1, h2, Rp.mono e d h3, RpD.mono e ds h4⟩
end
theorem Rp.up (e : Ex G G') {d : PyData} {v : V} (h : Rp K G d v) : Rp K G' d v := Rp.mono e d h
theorem RpL.up (e : Ex G G') {ds : List PyData} {xs : List V} (h : RpL K G ds xs) : RpL K G' ds xs := RpL.mono e ds h
theorem RpD.up (e : Ex G G') {ds : List (PyData × PyData)} {xs : List (Key × V)} (h : RpD K G ds xs) : RpD K G' ds xs := RpD.mono e ds h
theorem RpL.nil : RpL K G [] [] := rfl
theorem RpL.cons {d : PyData} {ds : List PyData} {x : V} {xs : List V} (h : Rp K G d x) (t : RpL K G ds xs) : RpL K G (d :: ds) (x :: xs) := ⟨x, xs, rfl, h, t⟩
theorem RpL.len : ∀ {ds : List PyData} {xs : List V}, RpL K G ds xs → xs.length = ds.length
  | [], _, h => by rw [show _ = [] from h]; rfl
  | _ :: ds, _, ⟨x, r, h1, _, h3⟩ => by rw [h1, List.length_cons, List.length_cons, RpL.len h3]
theorem RpL.app : ∀ {ds es : List PyData} {xs ys : List V}, RpL K G ds xs → RpL K G es ys → RpL K G (ds ++ es) (xs ++ ys)
  | [], _, xs, _, h, t => by
    rw [show xs = [] from h]
    exact t
  | _ :: ds, _, _, _, ⟨x, r, h1, h2, h3⟩, t => by
    rw [h1]
    exact ⟨x, _, rfl, h2, RpL.app h3 t⟩
theorem RpL.snoc {ds : List PyData} {d : PyData} {xs : List V} {x : V} (h : RpL K G ds xs) (t : Rp K G d x) : RpL K G (ds ++ [d]) (xs ++ [x]) := h.app (.cons t .nil)
theorem RpL.get : ∀ {ds : List PyData} {xs : List V} {i : Nat} {x : V}, RpL K G ds xs → xs[i]? = some x → ∃ d, ds[i]? = some d ∧ Rp K G d x
  | [], xs, i, x, h, e => by
    rw [show xs = [] from h] at e
    simp at e
  | d :: ds, _, 0, x, ⟨y, r, h1, h2, _⟩, e => by
    rw [h1] at e
    have e1 : y = x := by simpa using e
    subst e1
    exact ⟨d, rfl, h2⟩
  | d :: ds, _, i + 1, x, ⟨y, r, h1, _, h3⟩, e => by
    rw [h1] at e
    obtain ⟨d', q1, q2⟩ := RpL.get (i := i) (x := x) h3 (by simpa using e)
    exact ⟨d', by simpa using q1, q2⟩
theorem RpL.at : ∀ {ds : List PyData} {xs : List V} {i : Nat} {d : PyData}, RpL K G ds xs → ds[i]? = some d → ∃ x, xs[i]? = some x ∧ Rp K G d x
  | [], xs, i, x, h, e => by simp at e
  | d :: ds, _, 0, x, ⟨y, r, h1, h2, _⟩, e => by
    have e1 : d = x := by simpa using e
    subst e1
    exact ⟨y, by rw [h1]; rfl, h2⟩
  | d :: ds, _, i + 1, x, ⟨y, r, h1, _, h3⟩, e => by
    obtain ⟨d', q1, q2⟩ := RpL.at (i := i) (d := x) h3 (by simpa using e)
    exact ⟨d', by rw [h1]; simpa using q1, q2⟩
theorem RpL.take : ∀ {ds : List PyData} {xs : List V} (n : Nat), RpL K G ds xs → RpL K G (ds.take n) (xs.take n)
  | [], xs, n, h => by
    rw [show xs = [] from h, List.take_nil, List.take_nil]
    rfl
  | _ :: _, _, 0, _ => rfl
  | _ :: _, _, n + 1, ⟨x, r, h1, h2, h3⟩ => by
    rw [h1]
    exact ⟨x, _, rfl, h2, RpL.take n h3⟩
theorem RpL.drop : ∀ {ds : List PyData} {xs : List V} (n : Nat), RpL K G ds xs → RpL K G (ds.drop n) (xs.drop n)
  | [], xs, n, h => by
    rw [show xs = [] from h, List.drop_nil, List.drop_nil]
    rfl
  | _ :: _, xs, 0, h => h
  | _ :: _, _, n + 1, ⟨x, r, h1, h2, h3⟩ => by
    rw [h1]
    exact RpL.drop n h3
theorem RpL.rev : ∀ {ds : List PyData} {xs : List V}, RpL K G ds xs → RpL K G ds.reverse xs.reverse
  | [], xs, h => by
    rw [show xs = [] from h]
    rfl
  | d :: ds, _, ⟨x, r, h1, h2, h3⟩ => by
    rw [h1, List.reverse_cons, List.reverse_cons]
    exact (RpL.rev h3).snoc h2
def dInts (ns : List Int) : List PyData := ns.map PyData.int
def dStrs (ss : List Str) : List PyData := ss.map PyData.str
theorem rpL_ints : ∀ (ns : List Int) {xs : List V}, RpL K G (dInts ns) xs ↔ xs = ns.map V.int
  | [], xs => Iff.rfl
  | n :: ns, xs => by
    constructor
    · rintro ⟨x, r, h1, h2, h3⟩
      rw [h1, show x = V.int n from h2, (rpL_ints ns).mp h3]
      rfl
    · intro h
      rw [h]
      exact ⟨_, _, rfl, rfl, (rpL_ints ns).mpr rfl⟩
theorem rpL_strs : ∀ (ns : List Str) {xs : List V}, RpL K G (dStrs ns) xs ↔ xs = ns.map V.str
  | [], xs => Iff.rfl
  | n :: ns, xs => by
    constructor
    · rintro ⟨x, r, h1, h2, h3⟩
      rw [h1, show x = V.str n from h2, (rpL_strs ns).mp h3]
      rfl
    · intro h
      rw [h]
      exact ⟨_, _, rfl, rfl, (rpL_strs ns).mpr rfl⟩
theorem Rp.ti {ns : List Int} {v : V} (h : Rp K G (.tuple (dInts ns)) v) : ∃ a, v = .ref a ∧ SqT K G a (ns.map V.int) := by
  obtain ⟨a, xs, h1, h2, h3⟩ := h
  rw [(rpL_ints ns).mp h3] at h2
  exact ⟨a, h1, h2⟩
theorem Rp.li {ns : List Int} {v : V} (h : Rp K G (.list (dInts ns)) v) : ∃ a, v = .ref a ∧ G a = some (.lst (ns.map V.int)) := by
  obtain ⟨a, xs, h1, h2, h3⟩ := h
  rw [(rpL_ints ns).mp h3] at h2
  exact ⟨a, h1, h2⟩
theorem Rp.ls {ns : List Str} {v : V} (h : Rp K G (.list (dStrs ns)) v) : ∃ a, v = .ref a ∧ G a = some (.lst (ns.map V.str)) := by
  obtain ⟨a, xs, h1, h2, h3⟩ := h
  rw [(rpL_strs ns).mp h3] at h2
  exact ⟨a, h1, h2⟩
end

/-! ### what a reading gives, as data -/
section
variable (K : PySem.W.Frag)
def Res (G M : Hp) (d : PyData) (Q : VK) : Prop := ∀ v G' H', Ex G G' → At G' M H' → Rp K G' d v → Q v H'
def TrD (te : TE) (σ : L2.St) (G : Hp) (d : PyData) : Prop := ∀ G1 M H, Ex G G1 → At G1 M H → ∀ Q : VK, Res K G1 M d Q → te σ H Q
def TrA (ta : TA) (σ : L2.St) (G : Hp) (ds : List PyData) : Prop := ∀ G1 M H, Ex G G1 → At G1 M H → ∀ Q : List V → Hp → Prop, (∀ xs G' H', Ex G1 G' → At G' M H' → RpL K G' ds xs → Q xs H') → ta σ H Q
def TrB (tt : TT) (σ : L2.St) (G : Hp) (b : Bool) : Prop := ∀ G1 M H, Ex G G1 → At G1 M H → ∀ Q : Bool → Hp → Prop, (∀ G' H', Ex G1 G' → At G' M H' → Q b H') → tt σ H Q
def RD (r : R2) (d1 d2 d3 : PyData) : Prop := ∀ G M H x y, At G M H → Rp K G d1 x → Rp K G d2 y → ∀ Q : VK, Res K G M d3 Q → r x y H Q
def RC (r : List V → Hp → VK → Prop) (ds : List PyData) (d : PyData) : Prop := ∀ G M H xs, At G M H → RpL K G ds xs → ∀ Q : VK, Res K G M d Q → r xs H Q
def RU (r : V → Hp → VK → Prop) (d1 d : PyData) : Prop := ∀ G M H x, At G M H → Rp K G d1 x → ∀ Q : VK, Res K G M d Q → r x H Q
/-- a promise: data in, data out, nothing else is touched -/
def PSp (R : List PyData → PyData → Prop) : Sp := fun vs H Q _ => ∃ G M ds r, At G M H ∧ RpL K G ds vs ∧ R ds r ∧ Res K G M r Q
end
section
variable {K : PySem.W.Frag} {σ : L2.St} {G G' M H : Hp} {ta tb te : TE} {d d1 d2 d3 : PyData} {tt t u : TT} {ts : TA} {ds es : List PyData} {Q : VK}
theorem Res.mono (e : Ex G G') (q : Res K G M d Q) : Res K G' M d Q := fun v G2 H2 e2 A r => q v G2 H2 (e.trans e2) A r
theorem Res.here (q : Res K G M d Q) (A : At G M H) {v : V} (r : Rp K G d v) : Q v H := q v G H (Ex.refl G) A r
theorem Res.newG {p : Addr} {o : HO} (q : Res K G M d Q) (A : At G M H) (n : H p = none) {v : V} (r : Rp K (upd G p o) d v) : Q v (upd H p o) := q v _ _ (Ex.new (A.gNone n)) (A.ng n) r
theorem TrD.up (e : Ex G G') (h : TrD K te σ G d) : TrD K te σ G' d := fun G1 M H e1 A Q q => h G1 M H (e.trans e1) A Q q
theorem TrB.up {b : Bool} (e : Ex G G') (h : TrB t σ G b) : TrB t σ G' b := fun G1 M H e1 A Q q => h G1 M H (e.trans e1) A Q q
theorem TrA.up (e : Ex G G') (h : TrA K ts σ G ds) : TrA K ts σ G' ds := fun G1 M H e1 A Q q => h G1 M H (e.trans e1) A Q q
theorem w_D (h : TrD K te σ G d) (A : At G M H) (k : Res K G M d Q) : te σ H Q := h G M H (Ex.refl G) A Q k
theorem w_B {b : Bool} {Q : Bool → Hp → Prop} (h : TrB t σ G b) (A : At G M H) (k : ∀ G' H', Ex G G' → At G' M H' → Q b H') : t σ H Q := h G M H (Ex.refl G) A Q k
theorem w_A {Q : List V → Hp → Prop} (h : TrA K ts σ G ds) (A : At G M H) (k : ∀ xs G' H', Ex G G' → At G' M H' → RpL K G' ds xs → Q xs H') : ts σ H Q := h G M H (Ex.refl G) A Q k
theorem TrD.to (h : TrD K te σ G d1) (e : d1 = d2) : TrD K te σ G d2 := e ▸ h
theorem TrB.to {b c : Bool} (h : TrB t σ G b) (e : b = c) : TrB t σ G c := e ▸ h
/-! values -/
theorem d_var {i : Nat} {v : V} (h : σ[i]? = some (some v)) (r : Rp K G d v) : TrD K (tVar i) σ G d := fun G1 M H e A Q q => ⟨v, h, q.here A (r.up e)⟩
theorem d_c {v : V} (r : Rp K G d v) : TrD K (tC v) σ G d := fun G1 M H e A Q q => q.here A (r.up e)
theorem d_int {i : Int} : TrD K (tC (.int i)) σ G (.int i) := d_c rfl
theorem d_str {x : Str} : TrD K (tC (.str x)) σ G (.str x) := d_c rfl
theorem d_bl {b : Bool} : TrD K (tC (.bl b)) σ G (.bool b) := d_c rfl
theorem d_non : TrD K (tC .non) σ G .none := d_c rfl
theorem d_op {r : R2} (ha : TrD K ta σ G d1) (hb : TrD K tb σ G d2) (hr : RD K r d1 d2 d3) : TrD K (tOp r ta tb) σ G d3 := fun G1 M H e A Q q => by
  refine ha G1 M H e A _ fun v G2 H2 e2 A2 r1 => ?_
  refine hb G2 M H2 (e.trans e2) A2 _ fun w G3 H3 e3 A3 r2 => ?_
  exact hr G3 M H3 v w A3 (r1.up e3) r2 Q (q.mono (e2.trans e3))
theorem d_un {r : V → Hp → VK → Prop} (ha : TrD K ta σ G d1) (hr : RU K r d1 d2) : TrD K (tUn r ta) σ G d2 := fun G1 M H e A Q q => by
  refine ha G1 M H e A _ fun v G2 H2 e2 A2 r1 => ?_
  exact hr G2 M H2 v A2 r1 Q (q.mono e2)
theorem a_nil : TrA K tNil σ G [] := fun G1 M H e A Q q => q [] G1 H (Ex.refl _) A rfl
theorem a_cons (ha : TrD K ta σ G d) (hr : TrA K ts σ G ds) : TrA K (tCons ta ts) σ G (d :: ds) := fun G1 M H e A Q q => by
  refine ha G1 M H e A _ fun v G2 H2 e2 A2 r1 => ?_
  refine hr G2 M H2 (e.trans e2) A2 _ fun xs G3 H3 e3 A3 r2 => ?_
  exact q _ G3 H3 (e2.trans e3) A3 (.cons (r1.up e3) r2)
theorem a_star (ha : TrD K ta σ G (.list es)) (hr : TrA K ts σ G ds) : TrA K (StX.tStar K ta ts) σ G (es ++ ds) := fun G1 M H e A Q q => by
  refine ha G1 M H e A _ fun v G2 H2 e2 A2 r1 => ?_
  obtain ⟨a, xs, rfl, hs, hx⟩ := r1
  refine ⟨a, xs, rfl, .inr (SqL.of (A2.g _ _ hs)), ?_⟩
  refine hr G2 M H2 (e.trans e2) A2 _ fun ys G3 H3 e3 A3 r2 => ?_
  exact q _ G3 H3 (e2.trans e3) A3 ((hx.up e3).app r2)
theorem sz_of {n : Nat} (h : n ≤ 100000) : n ≤ sizeLine := Nat.le_trans h (by decide)
theorem sz_lt {n : Nat} (h : n < 100000) : n < sizeLine := Nat.lt_of_lt_of_le h (by decide)
theorem d_tup (h : TrA K ts σ G ds) (hn : ds.length ≤ 100000 := by decide) : TrD K (tTup ts) σ G (.tuple ds) := fun G1 M H e A Q q => by
  refine h G1 M H e A _ fun xs G2 H2 e2 A2 r => ?_
  refine ⟨by rw [r.len]; exact sz_of hn, fun p hp => ?_⟩
  exact (q.mono e2).newG A2 hp ⟨p, xs, rfl, SqT.of upd_same, r.up (Ex.new (A2.gNone hp))⟩
theorem d_lst (h : TrA K ts σ G ds) (hn : ds.length ≤ 100000 := by decide) : TrD K (tLst ts) σ G (.list ds) := fun G1 M H e A Q q => by
  refine h G1 M H e A _ fun xs G2 H2 e2 A2 r => ?_
  refine ⟨by rw [r.len]; exact sz_of hn, fun p hp => ?_⟩
  exact (q.mono e2).newG A2 hp ⟨p, xs, rfl, upd_same, r.up (Ex.new (A2.gNone hp))⟩
theorem d_cb {r : List V → Hp → VK → Prop} (h : TrA K ts σ G ds) (hr : RC K r ds d) : TrD K (tCB r ts) σ G d := fun G1 M H e A Q q => by
  refine h G1 M H e A _ fun xs G2 H2 e2 A2 r1 => ?_
  exact hr G2 M H2 xs A2 r1 Q (q.mono e2)
theorem d_call {R : List PyData → PyData → Prop} {dvs : List V} {E : XK} (h : TrA K ts σ G ds) (hd : RpL K G es dvs) (hr : R (ds ++ es) d) : TrD K (tCall (PSp K R) dvs E ts) σ G d := fun G1 M H e A Q q => by
  refine h G1 M H e A _ fun xs G2 H2 e2 A2 r1 => ?_
  exact ⟨G2, M, ds ++ es, d, A2, r1.app (hd.up (e.trans e2)), hr, q.mono e2⟩
theorem d_call0 {R : List PyData → PyData → Prop} {E : XK} (h : TrA K ts σ G ds) (hr : R ds d) : TrD K (tCall (PSp K R) [] E ts) σ G d := d_call h (es := []) rfl (by rw [List.append_nil]; exact hr)
theorem d_if {b : Bool} (hc : TrB t σ G b) (h1 : b = true → TrD K ta σ G d) (h2 : b = false → TrD K tb σ G d) : TrD K (tIf t ta tb) σ G d := fun G1 M H e A Q q => by
  refine hc G1 M H e A _ fun G2 H2 e2 A2 => ?_
  cases b with
  | true => exact h1 rfl G2 M H2 (e.trans e2) A2 Q (q.mono e2)
  | false => exact h2 rfl G2 M H2 (e.trans e2) A2 Q (q.mono e2)
/-! tests -/
theorem b_B {b : Bool} (h : TrD K te σ G (.bool b)) : TrB (tB te) σ G b := fun G1 M H e A Q q => by
  refine h G1 M H e A _ fun v G2 H2 e2 A2 r => ?_
  exact ⟨b, r, q G2 H2 e2 A2⟩
theorem b_T {b : Bool} (h : TrD K te σ G (.bool b)) : TrB (tTest te) σ G b := fun G1 M H e A Q q => by
  refine h G1 M H e A _ fun v G2 H2 e2 A2 r => ?_
  exact ⟨b, r, q G2 H2 e2 A2⟩
theorem b_not {b : Bool} (h : TrB t σ G b) : TrB (tNot t) σ G (!b) := fun G1 M H e A Q q => h G1 M H e A _ q
theorem b_yes : TrB tYes σ G true := fun G1 M H e A Q q => q G1 H (Ex.refl _) A
theorem b_and {a b : Bool} (h1 : TrB t σ G a) (h2 : a = true → TrB u σ G b) : TrB (tAnd t u) σ G (a && b) := fun G1 M H e A Q q => by
  refine h1 G1 M H e A _ fun G2 H2 e2 A2 => ?_
  cases a with
  | true => exact h2 rfl G2 M H2 (e.trans e2) A2 Q fun G3 H3 e3 A3 => q G3 H3 (e2.trans e3) A3
  | false => exact q G2 H2 e2 A2
theorem b_or {a b : Bool} (h1 : TrB t σ G a) (h2 : a = false → TrB u σ G b) : TrB (tOr t u) σ G (a || b) := fun G1 M H e A Q q => by
  refine h1 G1 M H e A _ fun G2 H2 e2 A2 => ?_
  cases a with
  | false => exact h2 rfl G2 M H2 (e.trans e2) A2 Q fun G3 H3 e3 A3 => q G3 H3 (e2.trans e3) A3
  | true => exact q G2 H2 e2 A2
theorem v_and {a b : Bool} (h1 : TrD K ta σ G (.bool a)) (h2 : a = true → TrD K tb σ G (.bool b)) : TrD K (tAndV ta tb) σ G (.bool (a && b)) := fun G1 M H e A Q q => by
  refine h1 G1 M H e A _ fun v G2 H2 e2 A2 r => ?_
  refine ⟨a, r, ?_⟩
  cases a with
  | true => exact h2 rfl G2 M H2 (e.trans e2) A2 Q (q.mono e2)
  | false => exact (q.mono e2).here A2 rfl
theorem v_or {a b : Bool} (h1 : TrD K ta σ G (.bool a)) (h2 : a = false → TrD K tb σ G (.bool b)) : TrD K (tOrV ta tb) σ G (.bool (a || b)) := fun G1 M H e A Q q => by
  refine h1 G1 M H e A _ fun v G2 H2 e2 A2 r => ?_
  refine ⟨a, r, ?_⟩
  cases a with
  | false => exact h2 rfl G2 M H2 (e.trans e2) A2 Q (q.mono e2)
  | true => exact (q.mono e2).here A2 rfl
theorem v_not {b : Bool} (h : TrD K ta σ G (.bool b)) : TrD K (tNotV ta) σ G (.bool (!b)) := fun G1 M H e A Q q => by
  refine h G1 M H e A _ fun v G2 H2 e2 A2 r => ?_
  exact ⟨b, r, (q.mono e2).here A2 rfl⟩
/-! operators -/
theorem rd_I0 {g : Int → Int → V} {i j : Int} (h : ∀ G, Rp K G d (g i j)) : RD K (rI0 g) (.int i) (.int j) d := fun G M H x y A h1 h2 Q q => ⟨i, j, h1, h2, q.here A (h G)⟩
theorem rd_I {C : Int → Int → Prop} {g : Int → Int → V} {i j : Int} (hc : C i j) (h : ∀ G, Rp K G d (g i j)) : RD K (rI C g) (.int i) (.int j) d := fun G M H x y A h1 h2 Q q => ⟨i, j, h1, h2, hc, q.here A (h G)⟩
theorem rd_add {i j : Int} : RD K (rI0 fun i j => .int (i + j)) (.int i) (.int j) (.int (i + j)) := rd_I0 fun _ => rfl
theorem rd_sub {i j : Int} : RD K (rI0 fun i j => .int (i - j)) (.int i) (.int j) (.int (i - j)) := rd_I0 fun _ => rfl
theorem rd_lt {i j : Int} : RD K (rI0 fun i j => .bl (decide (i < j))) (.int i) (.int j) (.bool (decide (i < j))) := rd_I0 fun _ => rfl
theorem rd_le {i j : Int} : RD K (rI0 fun i j => .bl (decide (i ≤ j))) (.int i) (.int j) (.bool (decide (i ≤ j))) := rd_I0 fun _ => rfl
theorem rd_gt {i j : Int} : RD K (rI0 fun i j => .bl (decide (j < i))) (.int i) (.int j) (.bool (decide (j < i))) := rd_I0 fun _ => rfl
theorem rd_ge {i j : Int} : RD K (rI0 fun i j => .bl (decide (j ≤ i))) (.int i) (.int j) (.bool (decide (j ≤ i))) := rd_I0 fun _ => rfl
theorem rd_eqI {i j : Int} : RD K rEq (.int i) (.int j) (.bool (decide (i = j))) := fun G M H x y A h1 h2 Q q => by
  rw [show x = V.int i from h1, show y = V.int j from h2]
  exact ⟨rfl, q.here A (show V.bl _ = V.bl _ by rw [dec_int]; simp [Bool.beq_eq_decide_eq])⟩
theorem rd_neI {i j : Int} : RD K rNe (.int i) (.int j) (.bool (!decide (i = j))) := fun G M H x y A h1 h2 Q q => by
  rw [show x = V.int i from h1, show y = V.int j from h2]
  exact ⟨rfl, q.here A (show V.bl _ = V.bl _ by rw [dec_int]; simp [Bool.beq_eq_decide_eq])⟩
theorem rd_eqS {i j : Str} : RD K rEq (.str i) (.str j) (.bool (decide (i = j))) := fun G M H x y A h1 h2 Q q => by
  rw [show x = V.str i from h1, show y = V.str j from h2]
  exact ⟨rfl, q.here A (show V.bl _ = V.bl _ by rw [dec_str]; simp [Bool.beq_eq_decide_eq])⟩
theorem rd_neS {i j : Str} : RD K rNe (.str i) (.str j) (.bool (!decide (i = j))) := fun G M H x y A h1 h2 Q q => by
  rw [show x = V.str i from h1, show y = V.str j from h2]
  exact ⟨rfl, q.here A (show V.bl _ = V.bl _ by rw [dec_str]; simp [Bool.beq_eq_decide_eq])⟩
end
/-! ### statements -/
section
variable {K : PySem.W.Frag} {σ : L2.St} {G G' M H : Hp} {ta tb te : TE} {d d1 d2 d3 : PyData} {tc : TT} {ts : TA} {ds es : List PyData} {D : Ends} {s1 s2 : TS} {i : Nat}
theorem s_set (h : TrD K te σ G d) (A : At G M H) (k : ∀ v G' H', Ex G G' → At G' M H' → Rp K G' d v → D.nx (σ.set i (some v)) H') : tAsg te (gName i) D σ H := w_D h A k
theorem s_ret (h : TrD K te σ G d) (A : At G M H) (k : Res K G M d D.rt) : tRet te D σ H := w_D h A k
theorem s_if {b : Bool} (h : TrB tc σ G b) (A : At G M H) (k1 : b = true → ∀ G' H', Ex G G' → At G' M H' → s1 D σ H') (k2 : b = false → ∀ G' H', Ex G G' → At G' M H' → s2 D σ H') : tIfS tc s1 s2 D σ H := by
  refine w_B h A fun G' H' e A' => ?_
  cases b with
  | true => exact k1 rfl G' H' e A'
  | false => exact k2 rfl G' H' e A'
theorem s_ifT (h : TrB tc σ G true) (A : At G M H) (k : ∀ G' H', Ex G G' → At G' M H' → s1 D σ H') : tIfS tc s1 s2 D σ H := s_if h A (fun _ => k) (fun z => nomatch z)
theorem s_ifF (h : TrB tc σ G false) (A : At G M H) (k : ∀ G' H', Ex G G' → At G' M H' → s2 D σ H') : tIfS tc s1 s2 D σ H := s_if h A (fun z => nomatch z) (fun _ => k)
theorem g_tup {t : TGs} {v : V} {n : Nat} {Q : L2.St → Hp → Prop} (A : At G M H) (h : Rp K G (.tuple ds) v) (hn : ds.length = n) (k : ∀ xs, RpL K G ds xs → t xs σ H Q) : gTup K n t v σ H Q := by
  obtain ⟨a, xs, e, hs, hx⟩ := h
  exact ⟨a, xs, e, A.g.stt hs, by rw [hx.len, hn], k xs hx⟩
theorem wipe_set {i : Nat} {x : Option V} : wipe ((wipe σ [i]).set i x) [i] = wipe σ [i] := by
  show (((σ.set i none).set i x).set i none) = σ.set i none
  rw [List.set_set, List.set_set]
/-! comprehensions over data -/
theorem d_lcL {tl : TE} {tt : TT} {p : PyData → Bool} {f : PyData → PyData} (hl : TrD K tl σ G (.list ds)) (hn : ds.length < 100000)
    (ht : ∀ d ∈ ds, ∀ x G1, Ex G G1 → Rp K G1 d x → TrB tt ((wipe σ [i]).set i (some x)) G1 (p d))
    (he : ∀ d ∈ ds, p d = true → ∀ x G1, Ex G G1 → Rp K G1 d x → TrD K te ((wipe σ [i]).set i (some x)) G1 (f d)) :
    TrD K (tLc (iList K tl) (gName i) tt te [i]) σ G (.list ((ds.filter p).map f)) := fun G1 M H e A Q q => by
  refine hl G1 M H e A _ fun v G2 H2 e2 A2 r => ?_
  obtain ⟨a, xs, rfl, hs, hx⟩ := r
  refine ⟨a, rfl, ⟨xs, SqL.of (A2.g _ _ hs)⟩, fun D hD => ?_⟩
  refine lc_list (K := K) (a := a) (xs := xs) (fun j H => ∃ Gj acc, Ex G2 Gj ∧ At Gj (upd M D (.lst acc)) H ∧ RpL K Gj (((ds.take j).filter p).map f) acc) ⟨G2, [], Ex.refl _, A2.nm hD, rfl⟩ ?_ ?_ ?_
  · rintro j H3 _ ⟨Gj, acc, ej, Aj, _⟩
    exact SqL.of ((ej.trans Aj.g) _ _ hs)
  · rintro j x H3 hj ⟨Gj, acc, ej, Aj, rj⟩
    obtain ⟨d, hd, rd⟩ := hx.get hj
    have hm : d ∈ ds := List.mem_of_getElem? hd
    have hk : ds.take (j + 1) = ds.take j ++ [d] := by rw [List.take_add_one, hd]; rfl
    show wipe _ _ = wipe _ _ ∧ _
    refine ⟨wipe_set, ?_⟩
    refine ht d hm x Gj ((e.trans e2).trans ej) (rd.up ej) Gj _ H3 (Ex.refl _) Aj _ fun G4 H4 e4 A4 => ?_
    cases hp : p d with
    | false =>
      refine ⟨G4, acc, ej.trans e4, A4, ?_⟩
      rw [hk, List.filter_append, List.filter_cons, hp]
      simpa using rj.up e4
    | true =>
      refine he d hm hp x G4 ((e.trans e2).trans (ej.trans e4)) (rd.up (ej.trans e4)) G4 _ H4 (Ex.refl _) A4 _ fun v5 G5 H5 e5 A5 r5 => ?_
      refine ⟨acc, A5.m _ _ upd_same, ?_, G5, acc ++ [v5], ej.trans (e4.trans e5), ?_, ?_⟩
      · rw [rj.len, List.length_map]
        refine sz_lt (Nat.lt_of_le_of_lt (Nat.le_trans (List.length_filter_le _ _) ?_) hn)
        rw [List.length_take]
        exact Nat.min_le_right _ _
      · have z := A5.wr (o := .lst (acc ++ [v5])) (upd_same (H := M) (a := D) (o := .lst acc))
        rw [upd_upd] at z
        exact z
      · rw [hk, List.filter_append, List.filter_cons, hp, List.map_append]
        exact (rj.up (e4.trans e5)).snoc r5
  · rintro H3 ⟨Gj, acc, ej, Aj, rj⟩
    have hM : M D = none := A2.mNone hD
    have hl2 : ds.take xs.length = ds := by rw [hx.len, List.take_length]
    rw [hl2] at rj
    have hm := upd_same (H := M) (a := D) (o := HO.lst acc)
    refine q _ _ _ ((e2.trans ej).trans (Aj.frzG hm)) (Aj.frz hm (Ex.new hM) hM) ⟨D, acc, rfl, upd_same, rj.up (Aj.frzG hm)⟩
theorem d_lcT {tl : TE} {tt : TT} {p : PyData → Bool} {f : PyData → PyData} (hl : TrD K tl σ G (.tuple ds)) (hn : ds.length < 100000)
    (ht : ∀ d ∈ ds, ∀ x G1, Ex G G1 → Rp K G1 d x → TrB tt ((wipe σ [i]).set i (some x)) G1 (p d))
    (he : ∀ d ∈ ds, p d = true → ∀ x G1, Ex G G1 → Rp K G1 d x → TrD K te ((wipe σ [i]).set i (some x)) G1 (f d)) :
    TrD K (tLc (iTup K tl) (gName i) tt te [i]) σ G (.list ((ds.filter p).map f)) := fun G1 M H e A Q q => by
  refine hl G1 M H e A _ fun v G2 H2 e2 A2 r => ?_
  obtain ⟨a, xs, rfl, hs, hx⟩ := r
  refine ⟨a, rfl, ⟨xs, A2.g.stt hs⟩, fun D hD => ?_⟩
  refine lc_tup (K := K) (a := a) (xs := xs) (fun j H => ∃ Gj acc, Ex G2 Gj ∧ At Gj (upd M D (.lst acc)) H ∧ RpL K Gj (((ds.take j).filter p).map f) acc) ⟨G2, [], Ex.refl _, A2.nm hD, rfl⟩ ?_ ?_ ?_
  · rintro j H3 _ ⟨Gj, acc, ej, Aj, _⟩
    exact (ej.trans Aj.g).stt hs
  · rintro j x H3 hj ⟨Gj, acc, ej, Aj, rj⟩
    obtain ⟨d, hd, rd⟩ := hx.get hj
    have hm : d ∈ ds := List.mem_of_getElem? hd
    have hk : ds.take (j + 1) = ds.take j ++ [d] := by rw [List.take_add_one, hd]; rfl
    show wipe _ _ = wipe _ _ ∧ _
    refine ⟨wipe_set, ?_⟩
    refine ht d hm x Gj ((e.trans e2).trans ej) (rd.up ej) Gj _ H3 (Ex.refl _) Aj _ fun G4 H4 e4 A4 => ?_
    cases hp : p d with
    | false =>
      refine ⟨G4, acc, ej.trans e4, A4, ?_⟩
      rw [hk, List.filter_append, List.filter_cons, hp]
      simpa using rj.up e4
    | true =>
      refine he d hm hp x G4 ((e.trans e2).trans (ej.trans e4)) (rd.up (ej.trans e4)) G4 _ H4 (Ex.refl _) A4 _ fun v5 G5 H5 e5 A5 r5 => ?_
      refine ⟨acc, A5.m _ _ upd_same, ?_, G5, acc ++ [v5], ej.trans (e4.trans e5), ?_, ?_⟩
      · rw [rj.len, List.length_map]
        refine sz_lt (Nat.lt_of_le_of_lt (Nat.le_trans (List.length_filter_le _ _) ?_) hn)
        rw [List.length_take]
        exact Nat.min_le_right _ _
      · have z := A5.wr (o := .lst (acc ++ [v5])) (upd_same (H := M) (a := D) (o := .lst acc))
        rw [upd_upd] at z
        exact z
      · rw [hk, List.filter_append, List.filter_cons, hp, List.map_append]
        exact (rj.up (e4.trans e5)).snoc r5
  · rintro H3 ⟨Gj, acc, ej, Aj, rj⟩
    have hM : M D = none := A2.mNone hD
    have hl2 : ds.take xs.length = ds := by rw [hx.len, List.take_length]
    rw [hl2] at rj
    have hm := upd_same (H := M) (a := D) (o := HO.lst acc)
    refine q _ _ _ ((e2.trans ej).trans (Aj.frzG hm)) (Aj.frz hm (Ex.new hM) hM) ⟨D, acc, rfl, upd_same, rj.up (Aj.frzG hm)⟩
end
end Sb

namespace Sb
open PySem PySem.Spec PyProof.Rows L2

/-! ### defs that may be called where no repr is running -/
structure FnG (P : Program) (w : World) (K : PySem.W.Frag) (mg : Str → Option Value) (base : Heap) (CX : CXT) (k : Nat) (f : Addr) (fd : FuncData) (ps : List Str) (sp : Sp) : Prop where
  len : ∀ vs H Q E, sp vs H Q E → vs.length = ps.length
  run : ∀ (A : Around) (outer : List Env) (s : Shared) (H : Hp) (args : Args) (us : List Value) (vs : List V) (Q : VK) (E : XK), A.guards = some [] → Room k A → Env0 P w K mg base A outer s H →
    BindsTo s fd args (ps.zip us) → Vals vs us → sp vs H Q E → codeAny (model P w) A (.call (.ref f) args) (CR CX outer P w H s Q E) s
/-- a def of the module, as its callers see it -/
def Fd (P : Program) (w : World) (K : PySem.W.Frag) (mg : Str → Option Value) (base : Heap) (CX : CXT) (k : Nat) (x : Str) (sp : Sp) (dvs : List V) : Prop :=
  ∃ (f : Addr) (fd : FuncData) (ps : List Str) (ds : List Value), mg x = some (.ref f) ∧ PySem.W.keepIn K (.ref f) = true ∧ Binds K fd ps ds ∧ Vals dvs ds ∧ FnG P w K mg base CX k f fd ps sp
section
variable {P : Program} {w : World} {K : PySem.W.Frag} {mg : Str → Option Value} {base : Heap} {x qual : Str} {params : Arguments} {body : List Stmt} {scope : Scope} {dvs : List V} {kws : List (Str × V)} {f : Addr} {fd : FuncData}
theorem fnG_of {CX : CXT} {N ps : List Str} {k : Nat} {sp : Sp} (F : FunD K x qual params body scope dvs kws f fd) (S : FnScope N ps scope) (len : ∀ vs H Q E, sp vs H Q E → vs.length = ps.length)
    (hbody : ∀ (cdv : Value) (A : Around) (outer : List Env) (s : Shared) (H : Hp) (vs : List V) (Q : VK) (E : XK), A.guards = some [] → Room k (A.deeper (envOfC qual scope s.heap.objs.size f cdv)) → sp vs H Q E →
      ∃ t, PSs (cxOf CX P w K mg base N qual scope f cdv A outer s H E) body t ∧ t { nx := fun _ H' => Q .non H', rt := Q } (start N vs) H) : FnG P w K mg base CX (k + 1) f fd ps sp := by
  obtain ⟨oc, od, dV, kV, doc, pm, an, cdv, ct, osl, rfl, lk, hcd, _, _⟩ := F.ex
  refine { len := len, run := fun A outer s H args us vs Q E hg hr e0 hb r hsp => ?_ }
  have hlen := len vs H Q E hsp
  have old : ∀ b o, base.get? b = some o → s.heap.get? b = some o := fun b o e => (e0.bs b o e).1
  have kin := e0.mod.kin.keeps old
  have kinds : ∀ y ∈ ps.zip us, scope.names.lookup y.1 = some .local ∨ (scope.names.lookup y.1 = some .cell ∧ ((cellsFrom (s.heap.objs.size + 1) scope.names []).lookup y.1).isSome = true) := by
    rintro ⟨n, v⟩ hy
    exact (S.par n (List.of_mem_zip hy).1).imp id fun q => ⟨q, PySem.W.cellsFrom_some _ _ _ (.inl q)⟩
  apply codeAny_call_function hr.depth (kin _ _ lk) rfl S.co S.gen rfl (PySem.W.codeRec_of kin hcd)
  apply hb
  apply wpAny_newFunctionEnv_cells S.kind kinds
  intro env he s1 ic
  subst he
  obtain ⟨t, ht, hq⟩ := hbody cdv A outer s H vs Q E hg (hr.deeper _) hsp
  have inv := inv_start (CX := CX) (E := E) S hr.hd e0 hlen r ic
  refine ⟨(e0.mod.nolimit.keeps old).keeps ic.toInCall.keep, codeAny_func (wpAny_mono (ht.run [] s1 (start N vs) H _ inv hq) ?_ fun _ _ z => z)⟩
  rintro (_ | _ | _ | u) s' hs
  · obtain ⟨σ', H', J, q⟩ := hs
    exact ⟨V.non, H', J.os, J.bare, J.base, J.hok, rfl, q⟩
  · obtain ⟨_, _, _, q⟩ := hs
    exact q.elim
  · obtain ⟨_, _, _, q⟩ := hs
    exact q.elim
  · obtain ⟨v, σ', H', J, rv, q⟩ := hs
    exact ⟨v, H', J.os, J.bare, J.base, J.hok, rv, q⟩
end
section
variable {X : Cx} {CX : CXT} {k : Nat} {x : Str} {sp : Sp} {dvs : List V} {E : XK} {p pos : Pos} {e : Expr} {es : List Expr} {t : TA}
theorem run_fd {pins : List (Addr × Obj)} {σ : L2.St} {H : Hp} {s : Shared} {Q : VK} {us : List Value} {vs : List V} {f : Addr} {fd : FuncData} {ps : List Str} {ds : List Value} (F : FnG X.prog X.w X.K X.mg X.base CX k f fd ps sp) (hg : X.A.guards = some []) (hr : Room k X.A)
    (hb : Binds X.K fd ps ds) (hd : Vals dvs ds) (hx : Passes CX X E) (I : Inv X pins σ H s) (r : Vals vs us) (h : sp (vs ++ dvs) H Q E) : wpAny (model X.prog X.w) X.A (call (.ref f) us) (EP X pins σ Q) X.xe s := by
  have r' := r.append hd
  have l' : (us ++ ds).length = ps.length := r'.length.symm.trans (F.len _ _ _ _ h)
  apply wpAny_call
  refine codeAny_mono (F.run X.A X.stack s H ⟨us, []⟩ _ _ Q E hg hr I.env0 (hb s us I.kIn l') r' h) ?_
  rintro (e | (_ | _ | _ | u)) s' hq
  · exact hx pins σ H s e s' I hq
  · exact hq.elim
  · exact hq.elim
  · exact hq.elim
  · exact I.after hq
theorem pe_fd (F : Fd X.prog X.w X.K X.mg X.base CX k x sp dvs) (hg : X.A.guards = some []) (hr : Room k X.A) (hx : Passes CX X E) (ha : PA X (e :: es) t) (hgl : Gl X x := by rfl)
    (hdb : (x == ("__debug__" : Str)) = false := by decide) (he : starEach (e :: es) X.env = (false, eval e X.env) :: starEach es X.env := by rfl) (hpl : (backTo pos (starEach es X.env)).any (·.1) = false := by rfl) :
    PE X (.Call (.Name x p) (e :: es) [] pos) (tCall sp dvs E t) := by
  obtain ⟨f, fd, ps, ds, hm, hk, hb, hd, F⟩ := F
  constructor
  intro pins s σ H Q I h
  apply wpAny_Call_Name_kw
  refine ld_glob I hgl hm ?_ hdb
  refine PySem.W.callWith_K (h₀ := X.base) I.ok.mod.kin hk (thn (ha.run pos pins s σ H _ I h) ?_) he hpl
  rintro us s1 ⟨vs, H1, I1, r, q⟩
  exact ⟨I1.kIn, run_fd F hg hr hb hd hx I1 r q⟩
theorem Fd.mono {P : Program} {w : World} {K : PySem.W.Frag} {mg : Str → Option Value} {base : Heap} {j : Nat} (F : Fd P w K mg base CX j x sp dvs) (h : j ≤ k) : Fd P w K mg base CX k x sp dvs := by
  obtain ⟨f, fd, ps, ds, hm, hk, hb, hd, F⟩ := F
  exact ⟨f, fd, ps, ds, hm, hk, hb, hd, F.len, fun A outer s H args us vs Q E g hr => F.run A outer s H args us vs Q E g (hr.mono h)⟩
end
theorem PSp.len {K : PySem.W.Frag} {R : List PyData → PyData → Prop} {n : Nat} (h : ∀ ds r, R ds r → ds.length = n) {vs : List V} {H : Hp} {Q : VK} {E : XK} (q : PSp K R vs H Q E) : vs.length = n := by
  obtain ⟨G, M, ds, r, _, rl, hr, _⟩ := q
  rw [rl.len, h _ _ hr]

/-! ### data read off a heap; repr; == -/
mutual
def noDic : PyData → Bool
  | .none | .bool _ | .int _ => true
  | .str _ => true
  | .list xs | .tuple xs => noDics xs
  | .dict _ => false
def noDics : List PyData → Bool
  | [] => true
  | x :: xs => noDic x && noDics xs
end
mutual
def noLst : PyData → Bool
  | .none | .bool _ | .int _ => true
  | .str _ => true
  | .list _ => false
  | .tuple xs => noLsts xs
  | .dict kvs => noLstD kvs
def noLsts : List PyData → Bool
  | [] => true
  | x :: xs => noLst x && noLsts xs
def noLstD : List (PyData × PyData) → Bool
  | [] => true
  | (_, y) :: xs => noLst y && noLstD xs
end
section
variable {K : PySem.W.Frag} {H : Hp}
mutual
theorem dp_of : ∀ (d : PyData) {v : V}, noDic d = true → Rp K H d v → Dp K H v d
  | .none, v, _, h => by rw [show v = V.non from h]; exact .non
  | .bool b, v, _, h => by rw [show v = V.bl b from h]; exact .bl b
  | .int b, v, _, h => by rw [show v = V.int b from h]; exact .int b
  | .str b, v, _, h => by rw [show v = V.str b from h]; exact .str b
  | .list ds, v, n, ⟨a, xs, e, h1, h2⟩ => by rw [e]; exact .lst (SqL.of h1) (dpL_of ds (by simpa [noDic] using n) h2)
  | .tuple ds, v, n, ⟨a, xs, e, h1, h2⟩ => by rw [e]; exact .tup h1 (dpL_of ds (by simpa [noDic] using n) h2)
  | .dict ds, v, n, _ => by simp [noDic] at n
theorem dpL_of : ∀ (ds : List PyData) {vs : List V}, noDics ds = true → RpL K H ds vs → DpAll K H vs ds
  | [], vs, _, h => by rw [show vs = [] from h]; exact .nil
  | d :: ds, vs, n, ⟨x, r, e, h1, h2⟩ => by
    have n' : noDic d = true ∧ noDics ds = true := by simpa [noDics] using n
    rw [e]
    exact .cons (dp_of d n'.1 h1) (dpL_of ds n'.2 h2)
end
end
theorem noDic_of_canLay {d : PyData} (h : SeqAt.shaped d = true) : noDic d = true := go d (SeqAt.canLay_of_shaped h)
where
  go : ∀ (d : PyData), d.canLay0 = true → noDic d = true
    | .none, _ => by simp [noDic]
    | .bool _, _ => by simp [noDic]
    | .int _, _ => by simp [noDic]
    | .str _, _ => by simp [noDic]
    | .list ds, h => by simp only [noDic]; exact goL ds (by simpa [PyData.canLay0] using h)
    | .tuple ds, h => by simp only [noDic]; exact goL ds (by simpa [PyData.canLay0] using h)
    | .dict ds, h => by simp [PyData.canLay0] at h
  goL : ∀ (ds : List PyData), PyData.canLayAll0 ds = true → noDics ds = true
    | [], _ => by simp [noDics]
    | d :: ds, h => by
      have h' : d.canLay0 = true ∧ PyData.canLayAll0 ds = true := by simpa [PyData.canLayAll0] using h
      simp only [noDics, Bool.and_eq_true]
      exact ⟨go d h'.1, goL ds h'.2⟩
section
variable {X : Cx}
def rEqR (K : PySem.W.Frag) : R2 := fun x y H Q => ∃ G d e, Ex G H ∧ Rp K G d x ∧ Rp K G e y ∧ SeqAt.shaped d = true ∧ SeqAt.shaped e = true ∧ Q (.bl (PyData.eqv d e)) H
def rNeR (K : PySem.W.Frag) : R2 := fun x y H Q => ∃ G d e, Ex G H ∧ Rp K G d x ∧ Rp K G e y ∧ SeqAt.shaped d = true ∧ SeqAt.shaped e = true ∧ Q (.bl (!PyData.eqv d e)) H
theorem op_eqR (hu : X.A.units + 64 < cLine) : OpR X (compareOp .Eq) (rEqR X.K) := by
  intro pins s σ H x y v u Q I rx ry h
  obtain ⟨G, d, e, g, h1, h2, s1, s2, q⟩ := h
  exact op_eqD hu pins s σ H x y v u Q I rx ry ⟨d, e, dp_of d (noDic_of_canLay s1) (h1.up g), dp_of e (noDic_of_canLay s2) (h2.up g), s1, s2, q⟩
theorem op_neR (hu : X.A.units + 64 < cLine) : OpR X (compareOp .NotEq) (rNeR X.K) := by
  intro pins s σ H x y v u Q I rx ry h
  obtain ⟨G, d, e, g, h1, h2, s1, s2, q⟩ := h
  exact op_neD hu pins s σ H x y v u Q I rx ry ⟨d, e, dp_of d (noDic_of_canLay s1) (h1.up g), dp_of e (noDic_of_canLay s2) (h2.up g), s1, s2, q⟩
end
theorem rd_eqR {K : PySem.W.Frag} {d e : PyData} (s1 : SeqAt.shaped d = true) (s2 : SeqAt.shaped e = true) : RD K (rEqR K) d e (.bool (PyData.eqv d e)) := fun G M H x y A h1 h2 Q q => ⟨G, d, e, A.g, h1, h2, s1, s2, q.here A rfl⟩
theorem rd_neR {K : PySem.W.Frag} {d e : PyData} (s1 : SeqAt.shaped d = true) (s2 : SeqAt.shaped e = true) : RD K (rNeR K) d e (.bool (!PyData.eqv d e)) := fun G M H x y A h1 h2 Q q => ⟨G, d, e, A.g, h1, h2, s1, s2, q.here A rfl⟩

/-! what stands in the model's heap -/
theorem noDic_hasDict : ∀ (d : PyData), noDic d = true → d.hasDict = false
  | .none, _ => by simp [PyData.hasDict]
  | .bool _, _ => by simp [PyData.hasDict]
  | .int _, _ => by simp [PyData.hasDict]
  | .str _, _ => by simp [PyData.hasDict]
  | .list ds, h => by simp only [PyData.hasDict]; exact go ds (by simpa [noDic] using h)
  | .tuple ds, h => by simp only [PyData.hasDict]; exact go ds (by simpa [noDic] using h)
  | .dict ds, h => by simp [noDic] at h
where
  go : ∀ (ds : List PyData), noDics ds = true → PyData.hasDictAll ds = false
    | [], _ => by simp [PyData.hasDictAll]
    | d :: ds, h => by
      have h' : noDic d = true ∧ noDics ds = true := by simpa [noDics] using h
      simp only [PyData.hasDictAll, Bool.or_eq_false_iff]
      exact ⟨noDic_hasDict d h'.1, go ds h'.2⟩
section
variable {X : Cx} {pins : List (Addr × Obj)} {σ : L2.St} {H : Hp} {s : Shared}
theorem key_reads {k : Key} {v : Value} (h : keyIs k v = true) : Reads s.heap v (kD k) [] := by
  rcases keyIs_shape h with ⟨i, t, rfl, rfl⟩ | ⟨x, t, rfl, rfl⟩
  · exact .int i t
  · exact .str x t
theorem keys_reads : ∀ (ds : List (PyData × PyData)) {K : PySem.W.Frag} {es : List (Key × V)} {us : List (Key × Value)} {xs : List DictEntry}, RpD K H ds es → KV es us → Pairs (mixKind X.prog X.w) xs us →
    ReadsAll s.heap (xs.map (·.key)) (ds.map (·.1)) []
  | [], K, es, us, xs, h, r, p => by
    rw [show es = [] from h] at r
    cases r
    cases p
    exact .nil
  | (k, d) :: ds, K, es, us, xs, ⟨x, y, t, e, h0, h1, h2⟩, r, p => by
    rw [e] at r
    cases r with
    | cons r1 r2 =>
      cases p with
      | cons p0 p1 p2 =>
        have a := keys_reads ds h2 r2 p2
        have q := p0
        rw [← r1.1] at q
        have b := key_reads (s := s) q
        rw [h0] at b
        exact .cons b a
mutual
theorem Rp.reads (I : Inv X pins σ H s) : ∀ (d : PyData) {v : V} {u : Value}, Rp X.K H d v → RelV v u → ∃ as, Reads s.heap u d as ∧ (noLst d = true → sysModules ∉ as)
  | .none, v, u, h, r => by
    rw [show v = V.non from h] at r
    rw [show u = Value.none from r]
    exact ⟨_, .none, fun _ => by simp⟩
  | .bool b, v, u, h, r => by
    rw [show v = V.bl b from h] at r
    rw [show u = Value.bool b from r]
    exact ⟨_, .bool b, fun _ => by simp⟩
  | .int b, v, u, h, r => by
    rw [show v = V.int b from h] at r
    obtain ⟨t, e⟩ := r
    rw [e]
    exact ⟨_, .int b t, fun _ => by simp⟩
  | .str b, v, u, h, r => by
    rw [show v = V.str b from h] at r
    obtain ⟨t, e⟩ := r
    rw [e]
    exact ⟨_, .str b t, fun _ => by simp⟩
  | .list ds, v, u, ⟨a, xs, e, h1, h2⟩, r => by
    rw [e] at r
    rw [show u = Value.ref a from r]
    obtain ⟨its, rv, pl, _⟩ := I.list (SqL.of h1)
    obtain ⟨o, n, g1, g2, _, g3⟩ := pl
    obtain ⟨as, k1, _⟩ := RpL.reads I ds h2 rv
    exact ⟨_, .list g1 g2 g3 (by simpa using k1), fun z => by simp [noLst] at z⟩
  | .tuple ds, v, u, ⟨a, xs, e, h1, h2⟩, r => by
    rw [e] at r
    rw [show u = Value.ref a from r]
    obtain ⟨its, rv, ⟨o, g1, g2, n, g3⟩, _⟩ := I.tuple h1
    obtain ⟨as, k1, k2⟩ := RpL.reads I ds h2 rv
    exact ⟨as, .tuple g1 g2 g3 (by simpa using k1), fun z => k2 (by simpa [noLst] using z)⟩
  | .dict kvs, v, u, ⟨a, es, e, h1, h2⟩, r => by
    rw [e] at r
    rw [show u = Value.ref a from r]
    obtain ⟨_, hs, vs, kv, o, xs, ep, g1, g2, g3, _, g4, _⟩ := I.hok a _ h1
    have hs' : a ≠ sysModules := by simpa using hs
    obtain ⟨bs, k1, k2⟩ := RpD.reads I kvs h2 kv g4
    have k3 := keys_reads (X := X) (s := s) kvs h2 kv g4
    refine ⟨_, .dict g1 g2.1 g3 k3 k1, fun n z => ?_⟩
    rcases List.mem_cons.mp z with z | z
    · exact hs' z.symm
    · exact k2 (by simpa [noLst] using n) (by simpa using z)
theorem RpL.reads (I : Inv X pins σ H s) : ∀ (ds : List PyData) {vs : List V} {us : List Value}, RpL X.K H ds vs → Vals vs us → ∃ as, ReadsAll s.heap us ds as ∧ (noLsts ds = true → sysModules ∉ as)
  | [], vs, us, h, r => by
    rw [show vs = [] from h] at r
    cases r
    exact ⟨_, .nil, fun _ => by simp⟩
  | d :: ds, vs, us, ⟨x, xs, e, h1, h2⟩, r => by
    rw [e] at r
    cases r with
    | cons r1 r2 =>
      obtain ⟨as, k1, k2⟩ := Rp.reads I d h1 r1
      obtain ⟨bs, k3, k4⟩ := RpL.reads I ds h2 r2
      refine ⟨_, .cons k1 k3, fun n w => ?_⟩
      have n' : noLst d = true ∧ noLsts ds = true := by simpa [noLsts] using n
      rcases List.mem_append.mp w with w | w
      · exact k2 n'.1 w
      · exact k4 n'.2 w
theorem RpD.reads (I : Inv X pins σ H s) : ∀ (ds : List (PyData × PyData)) {es : List (Key × V)} {us : List (Key × Value)} {xs : List DictEntry}, RpD X.K H ds es → KV es us → Pairs (mixKind X.prog X.w) xs us →
    ∃ as, ReadsAll s.heap (xs.map (·.val)) (ds.map (·.2)) as ∧ (noLstD ds = true → sysModules ∉ as)
  | [], es, us, xs, h, r, p => by
    rw [show es = [] from h] at r
    cases r
    cases p
    exact ⟨_, .nil, fun _ => by simp⟩
  | (k, d) :: ds, es, us, xs, ⟨x, y, t, e, h0, h1, h2⟩, r, p => by
    rw [e] at r
    cases r with
    | cons r1 r2 =>
      cases p with
      | cons p0 p1' p2 =>
        have r1' := r1.2
        obtain ⟨as, k1, k2⟩ := Rp.reads I d h1 r1'
        obtain ⟨bs, k3, k4⟩ := RpD.reads I ds h2 r2 p2
        refine ⟨as ++ bs, .cons (cast (by show Reads s.heap _ d as = Reads s.heap _ d as; exact congrArg (fun z => Reads s.heap z d as) p1'.symm) k1) k3, fun n w => ?_⟩
        have n' : noLst d = true ∧ noLstD ds = true := by simpa [noLstD] using n
        rcases List.mem_append.mp w with w | w
        · exact k2 n'.1 w
        · exact k4 n'.2 w
end
def rRepr (K : PySem.W.Frag) : List V → Hp → VK → Prop := fun xs H Q => ∃ G d v, Ex G H ∧ xs = [v] ∧ Rp K G d v ∧ (noLst d = true ∨ noDic d = true) ∧ isDisplay d = true ∧ d.showable = true ∧ d.depth ≤ 60 ∧ d.shown.length ≤ sizeLine ∧ Q (.str d.shown) H
theorem call_reprR (hg : X.A.guards = some []) (hu : X.A.units + 64 < cLine) : CallR X (.builtin "repr") (rRepr X.K) := by
  intro pins s σ H xs us Q I r h
  obtain ⟨G, d, v, g, rfl, h1, h2, h3, h4, h5, h6, q⟩ := h
  cases r with
  | cons r1 r2 =>
    cases r2
    obtain ⟨as, k1, k2⟩ := Rp.reads I d (h1.up g) r1
    have k3 : d.hasDict = true → sysModules ∉ as := fun z => by
      rcases h2 with n | n
      · exact k2 n
      · rw [noDic_hasDict d n] at z
        cases z
    obtain ⟨a, rfl⟩ := isRef_of_reads k1 h3
    exact repr_of_reads' k1 h4 k3 hg (by omega) (fun _ _ e => e) (fun h' u tk hk => ⟨.str d.shown, H, I.kept hk, ⟨u, rfl⟩, q⟩) h6
end
theorem rc_repr {K : PySem.W.Frag} {d : PyData} (h2 : noLst d = true ∨ noDic d = true) (h3 : isDisplay d = true) (h4 : d.showable = true) (h5 : d.depth ≤ 60) (h6 : d.shown.length ≤ sizeLine) : RC K (rRepr K) [d] (.str d.shown) :=
  fun G M H xs A ⟨x, r, e, h, h'⟩ Q q => by
    rw [e, show r = [] from h']
    exact ⟨G, d, x, A.g, rfl, h, h2, h3, h4, h5, h6, q.here A rfl⟩
end Sb

namespace Sb
open PySem PySem.Spec PyProof.Rows L2

/-! ### rules that the layer lacks -/
section
variable {X : Cx}
def CPowW (i j : Int) : Prop := 0 ≤ j ∧ (Builtin.Int.intBits i : Int) * j ≤ 2 ^ 27
theorem op_powW : OpR X (binaryOp .Pow) (rI CPowW fun i j => .int (i ^ j.toNat)) := opI fun _ _ _ _ _ _ _ hc q => pow_int hc.1 hc.2 q
def rMulS : R2 := fun x y H Q => ∃ z n, x = .str z ∧ y = .int n ∧ MulOk z n ∧ Q (.str (Txt.mul z n)) H
theorem op_mulS : OpR X (binaryOp .Mult) rMulS := by
  intro pins s σ H x y v u Q I rx ry h
  obtain ⟨z, n, rfl, rfl, ok, q⟩ := h
  obtain ⟨t, rfl⟩ := rx
  obtain ⟨t', rfl⟩ := ry
  exact SB.mul ok fun t2 k => ⟨.str _, H, I.tok k, ⟨t2, rfl⟩, q⟩
def signs (z : Str) : List V := z.cps.toList.map fun c => V.str ⟨#[c]⟩
def rListS : List V → Hp → VK → Prop := fun xs H Q => ∃ z, xs = [.str z] ∧ z.cps.size ≤ sizeLine ∧ ∀ p, H p = none → Q (.ref p) (upd H p (.lst (signs z)))
theorem call_listS (hc : X.calm = true) : CallR X (.type "list") rListS := by
  intro pins s σ H xs us Q I r h
  obtain ⟨z, rfl, hz, q⟩ := h
  cases r with
  | cons r1 r2 =>
    cases r2
    obtain ⟨t, rfl⟩ := r1
    refine call_list_str (I.ok.hd hc) z t (fun h' tk acc c' hk hl hi => ?_) hz
    have rv : Vals (signs z) acc.toList := by
      have size : acc.toList.length = z.cps.toList.length := by simpa using hi.1
      have at_ : ∀ (j : Nat) v, acc.toList[j]? = some v → ∃ c u, z.cps.toList[j]? = some c ∧ v = .str ⟨#[c]⟩ u := fun j v e => by
        obtain ⟨c, u, e1, e2⟩ := hi.2 j v (by simpa using e)
        exact ⟨c, u, by simpa using e1, e2⟩
      revert size at_
      show ∀ (size : acc.toList.length = z.cps.toList.length) (at_ : ∀ (j : Nat) v, acc.toList[j]? = some v → ∃ c u, z.cps.toList[j]? = some c ∧ v = .str ⟨#[c]⟩ u), Vals (z.cps.toList.map fun c => V.str ⟨#[c]⟩) acc.toList
      generalize acc.toList = us
      generalize z.cps.toList = cs
      intro size at_
      induction cs generalizing us with
      | nil =>
        cases us with
        | nil => exact .nil
        | cons _ _ => simp at size
      | cons c cs ih =>
        cases us with
        | nil => simp at size
        | cons v us =>
          obtain ⟨c', u, e1, e2⟩ := at_ 0 v rfl
          have e3 : c = c' := by simpa using e1
          rw [e2, ← e3]
          exact .cons ⟨u, rfl⟩ (ih us (by simpa using size) fun j v e => by simpa using at_ (j + 1) v (by simpa using e))
    refine ⟨.ref s.heap.objs.size, _, I.laid (t' := tk) (o := .lst (signs z)) hk (Nat.le_refl _) ?_, rfl, q _ (I.hok.fresh (Nat.le_refl _))⟩
    refine ⟨by unfold signs; simpa using hz, acc.toList, c', rv, ?_⟩
    rw [hl]
/-- a dict and an empty one -/
def rEqE : R2 := fun x y H Q => ∃ a b kvs, x = .ref a ∧ y = .ref b ∧ H a = some (.dK kvs) ∧ H b = some (.dK []) ∧ Q (.bl kvs.isEmpty) H
theorem op_eqE (hu : X.A.units + 64 < cLine) : OpR X (compareOp .Eq) rEqE := by
  intro pins s σ H x y v u Q I rx ry h
  obtain ⟨a, b, kvs, rfl, rfl, h1, h2, q⟩ := h
  cases (show v = Value.ref a from rx)
  cases (show u = Value.ref b from ry)
  obtain ⟨_, ya, va, ra, da⟩ := I.hok a _ h1
  obtain ⟨_, yb, vb, rb, db⟩ := I.hok b _ h2
  cases rb
  have la := ra.length
  refine PySem.W.rcP_dicts (knd := mixKind X.prog X.w) (r := true) ya yb da db (by omega) (fun z => ?_) _ _ ?_
  · cases va with
    | nil => exact .nil
    | cons _ _ => simp at z
  · have e : (va.length == ([] : List (Key × Value)).length && true) = kvs.isEmpty := by
      cases kvs with
      | nil =>
        cases va with
        | nil => rfl
        | cons _ _ => simp at la
      | cons _ _ =>
        cases va with
        | nil => simp at la
        | cons _ _ => rfl
    rw [e]
    exact ⟨.bl _, H, I, rfl, q⟩
end

/-! ### isinstance -/
def kindOf : PyData → String
  | .none => "NoneType"
  | .bool _ => "bool"
  | .int _ => "int"
  | .str _ => "str"
  | .list _ => "list"
  | .tuple _ => "tuple"
  | .dict _ => "dict"
def isA (n : String) (d : PyData) : Bool := kindOf d == n || (n == "int" && kindOf d == "bool")
section
variable {K : PySem.W.Frag} {σ : L2.St} {G G' M H : Hp} {ta tb te : TE} {d d1 d2 d3 : PyData} {tt t u : TT} {ts : TA} {ds es : List PyData} {Q : VK}
theorem tyx_of {v : V} (h : Rp K G d v) : TyX K G v (.type (kindOf d)) := by
  cases d with
  | none => rw [show v = V.non from h]; exact .base .non
  | bool b => rw [show v = V.bl b from h]; exact .base (.bl b)
  | int b => rw [show v = V.int b from h]; exact .base (.int b)
  | str b => rw [show v = V.str b from h]; exact .base (.str b)
  | list ds => obtain ⟨a, xs, rfl, h1, _⟩ := h; exact .base (.lst h1)
  | dict ds => obtain ⟨a, xs, rfl, h1, _⟩ := h; exact .base (.dK h1)
  | tuple ds =>
    obtain ⟨a, xs, rfl, h1, _⟩ := h
    rcases h1 with (h1 | ⟨o, h1⟩) | h1
    · exact .base (.tup h1)
    · exact .fTuple h1
    · obtain ⟨o, its, n, e, c, _⟩ := h1
      exact .kTuple e c
theorem kit_all : ∀ n ∈ ["int", "bool", "str", "list", "tuple", "dict"], ∀ k ∈ ["NoneType", "bool", "int", "str", "list", "tuple", "dict"], kitB k n = some (k == n || (n == "int" && k == "bool")) := by decide +kernel
theorem kind_mem (d : PyData) : kindOf d ∈ ["NoneType", "bool", "int", "str", "list", "tuple", "dict"] := by cases d <;> simp [kindOf]
theorem d_isi {n : String} (h : TrD K ta σ G d) (hn : n ∈ ["int", "bool", "str", "list", "tuple", "dict"] := by decide) : TrD K (tCB (rIsi K) (tCons ta (tCons (tC (.ty n)) tNil))) σ G (.bool (isA n d)) := fun G1 M H e A Q q => by
  refine h G1 M H e A _ fun v G2 H2 e2 A2 r => ?_
  refine ⟨v, .ty n, .type (kindOf d), .type n, isA n d, rfl, .ty n, ?_, kit_ty (kit_all n hn _ (kind_mem d)), (q.mono e2).here A2 rfl⟩
  exact tyx_of (r.up A2.g)

/-! ### ints -/
theorem rd_mul {i j : Int} (h : CMulW i j) : RD K (rI CMulW fun i j => .int (i * j)) (.int i) (.int j) (.int (i * j)) := rd_I h fun _ => rfl
theorem rd_mod {i j : Int} (h : 0 < j) : RD K (rI (fun _ j => 0 < j) fun i j => .int (i % j)) (.int i) (.int j) (.int (i % j)) := rd_I h fun _ => rfl
theorem rd_fdiv {i j : Int} (h : CDivW i j) : RD K (rI CDivW fun i j => .int (i / j)) (.int i) (.int j) (.int (i / j)) := rd_I h fun _ => rfl
theorem rd_pow {i j : Int} (h : CPow i j) : RD K (rI CPow fun i j => .int (i ^ j.toNat)) (.int i) (.int j) (.int (i ^ j.toNat)) := rd_I h fun _ => rfl
theorem rd_powW {i j : Int} (h : CPowW i j) : RD K (rI CPowW fun i j => .int (i ^ j.toNat)) (.int i) (.int j) (.int (i ^ j.toNat)) := rd_I h fun _ => rfl
def rInt1 : List V → Hp → VK → Prop := fun xs H Q => (∃ i, xs = [.int i] ∧ Q (.int i) H) ∨ ∃ k, xs = [.bl k] ∧ Q (.int (if k then 1 else 0)) H
theorem call_int1' {X : Cx} : CallR X (.type "int") rInt1 := call_int1
theorem rc_int1 {i : Int} : RC K rInt1 [.int i] (.int i) := fun G M H xs A ⟨x, r, e, h, h'⟩ Q q => by
  rw [e, show r = [] from h', show x = V.int i from h]
  exact .inl ⟨i, rfl, q.here A rfl⟩
def rStrI : List V → Hp → VK → Prop := fun xs H Q => ∃ i, xs = [.int i] ∧ i.natAbs.log2 < 1920 ∧ Q (.str (toString i)) H
theorem call_strI {X : Cx} : CallR X (.type "str") rStrI := call_str_int
theorem rc_strI {i : Int} (h0 : i.natAbs.log2 < 1920) : RC K rStrI [.int i] (.str (toString i)) := fun G M H xs A ⟨x, r, e, h, h'⟩ Q q => by
  rw [e, show r = [] from h', show x = V.int i from h]
  exact ⟨i, rfl, h0, q.here A rfl⟩
def rIntS : List V → Hp → VK → Prop := fun xs H Q => ∃ a n, xs = [.str a] ∧ PySem.intText? a = some n ∧ a.length ≤ 640 ∧ Q (.int n) H
theorem call_intS {X : Cx} : CallR X (.type "int") rIntS := call_int_str
theorem rc_intS {a : Str} {n : Int} (h0 : PySem.intText? a = some n) (h1 : a.length ≤ 640) : RC K rIntS [.str a] (.int n) := fun G M H xs A ⟨x, r, e, h, h'⟩ Q q => by
  rw [e, show r = [] from h', show x = V.str a from h]
  exact ⟨a, n, rfl, h0, h1, q.here A rfl⟩
def rMax2 : List V → Hp → VK → Prop := fun xs H Q => ∃ i j, xs = [.int i, .int j] ∧ Q (.int (if j > i then j else i)) H
def rMin2 : List V → Hp → VK → Prop := fun xs H Q => ∃ i j, xs = [.int i, .int j] ∧ Q (.int (if j < i then j else i)) H
def rAbs : List V → Hp → VK → Prop := fun xs H Q => ∃ i, xs = [.int i] ∧ Q (.int (if i < 0 then -i else i)) H
theorem call_max2' {X : Cx} (hc : X.calm = true) : CallR X (.builtin "max") rMax2 := call_max2 hc
theorem call_min2' {X : Cx} (hc : X.calm = true) : CallR X (.builtin "min") rMin2 := call_min2 hc
theorem call_abs' {X : Cx} : CallR X (.builtin "abs") rAbs := call_abs
theorem rc_max2 {i j : Int} : RC K rMax2 [.int i, .int j] (.int (if j > i then j else i)) := fun G M H xs A ⟨x, r, e, h, ⟨y, r', e', h', h''⟩⟩ Q q => by
  rw [e, e', show r' = [] from h'', show x = V.int i from h, show y = V.int j from h']
  exact ⟨i, j, rfl, q.here A rfl⟩
theorem rc_min2 {i j : Int} : RC K rMin2 [.int i, .int j] (.int (if j < i then j else i)) := fun G M H xs A ⟨x, r, e, h, ⟨y, r', e', h', h''⟩⟩ Q q => by
  rw [e, e', show r' = [] from h'', show x = V.int i from h, show y = V.int j from h']
  exact ⟨i, j, rfl, q.here A rfl⟩
theorem rc_abs {i : Int} : RC K rAbs [.int i] (.int (if i < 0 then -i else i)) := fun G M H xs A ⟨x, r, e, h, h'⟩ Q q => by
  rw [e, show r = [] from h', show x = V.int i from h]
  exact ⟨i, rfl, q.here A rfl⟩

/-! ### sequences -/
def sizeD : PyData → Nat
  | .str x => x.length
  | .list ds => ds.length
  | .tuple ds => ds.length
  | .dict ds => ds.length
  | _ => 0
def rLen (K : PySem.W.Frag) : List V → Hp → VK → Prop := fun xs H Q => ∃ x n, xs = [x] ∧ LenV K x H n ∧ Q (.int n) H
theorem call_len' {X : Cx} : CallR X (.builtin "len") (rLen X.K) := call_len
theorem rc_lenT : RC K (rLen K) [.tuple ds] (.int ds.length) := fun G M H xs A ⟨x, r, e, ⟨a, ys, h1, h2, h3⟩, h'⟩ Q q => by
  rw [e, show r = [] from h', h1]
  exact ⟨_, ds.length, rfl, .inr ⟨ys, A.g.stt h2, h3.len.symm⟩, q.here A rfl⟩
theorem rc_lenL : RC K (rLen K) [.list ds] (.int ds.length) := fun G M H xs A ⟨x, r, e, ⟨a, ys, h1, h2, h3⟩, h'⟩ Q q => by
  rw [e, show r = [] from h', h1]
  exact ⟨_, ds.length, rfl, .inl ⟨ys, SqL.of (A.g _ _ h2), h3.len.symm⟩, q.here A rfl⟩
theorem rc_lenS {z : Str} (hz : z.length ≤ sizeLine) : RC K (rLen K) [.str z] (.int z.length) := fun G M H xs A ⟨x, r, e, h, h'⟩ Q q => by
  rw [e, show r = [] from h', show x = V.str z from h]
  exact ⟨_, z.length, rfl, ⟨hz, rfl⟩, q.here A rfl⟩
def rLenD : List V → Hp → VK → Prop := fun xs H Q => ∃ a kvs, xs = [V.ref a] ∧ H a = some (.dK kvs) ∧ Q (.int kvs.length) H
theorem call_lenD' {X : Cx} : CallR X (.builtin "len") rLenD := call_lenD
theorem RpD.len : ∀ {ds : List (PyData × PyData)} {xs : List (Key × V)}, RpD K G ds xs → xs.length = ds.length
  | [], _, h => by rw [show _ = [] from h]; rfl
  | (_, _) :: ds, _, ⟨_, _, r, h1, _, _, h3⟩ => by rw [h1, List.length_cons, List.length_cons, RpD.len h3]
theorem rc_lenD {kvs : List (PyData × PyData)} : RC K rLenD [.dict kvs] (.int kvs.length) := fun G M H xs A ⟨x, r, e, ⟨a, ys, h1, h2, h3⟩, h'⟩ Q q => by
  rw [e, show r = [] from h', h1]
  exact ⟨a, ys, rfl, A.g _ _ h2, q.here A (show V.int _ = V.int _ by rw [h3.len])⟩
theorem RpL.atI {xs : List V} {i : Int} (h : RpL K G ds xs) (e : atI ds i = some d) : ∃ x, L2.atI xs i = some x ∧ Rp K G d x := by
  unfold L2.atI at e ⊢
  rw [h.len]
  cases q : ixN ds.length i with
  | none =>
    rw [q] at e
    cases e
  | some j =>
    rw [q] at e
    exact h.at e
theorem rd_ixT {i : Int} (h : atI ds i = some d) : RD K (rIxT K) (.tuple ds) (.int i) d := fun G M H x y A ⟨a, xs, h1, h2, h3⟩ h4 Q q => by
  obtain ⟨z, e, r⟩ := h3.atI h
  exact ⟨a, xs, i, z, h1, h4, A.g.stt h2, e, q.here A r⟩
theorem rd_ixL {i : Int} (h : atI ds i = some d) : RD K (rIxL K) (.list ds) (.int i) d := fun G M H x y A ⟨a, xs, h1, h2, h3⟩ h4 Q q => by
  obtain ⟨z, e, r⟩ := h3.atI h
  exact ⟨a, xs, i, z, h1, h4, SqL.of (A.g _ _ h2), e, q.here A r⟩
theorem rd_ixS {z : Str} {i : Int} {c : Nat} (hz : z.length ≤ sizeLine) (h : atI z.cps.toList i = some c) : RD K rIxS (.str z) (.int i) (.str ⟨#[c]⟩) := fun G M H x y A h1 h2 Q q => ⟨z, i, c, h1, h2, hz, h, q.here A rfl⟩
theorem rd_cat (hn : ds.length + es.length ≤ 100000) : RD K rCat (.list ds) (.list es) (.list (ds ++ es)) := fun G M H x y A ⟨a, xs, h1, h2, h3⟩ ⟨b, ys, k1, k2, k3⟩ Q q =>
  ⟨a, b, xs, ys, h1, k1, A.g _ _ h2, A.g _ _ k2, by rw [h3.len, k3.len]; exact sz_of hn, fun p hp => q.newG A hp ⟨p, _, rfl, upd_same, (h3.app k3).up (Ex.new (A.gNone hp))⟩⟩
theorem rd_addS {x y : Str} (h : x.length + y.length ≤ sizeLine) : RD K (fun x y H Q => ∃ i j, x = .str i ∧ y = .str j ∧ i.length + j.length ≤ sizeLine ∧ Q (.str (i ++ j)) H) (.str x) (.str y) (.str (x ++ y)) :=
  fun G M H v u A h1 h2 Q q => ⟨x, y, h1, h2, h, q.here A rfl⟩
def cutD (ds : List PyData) (lo hi : Option Int) : List PyData := (ds.drop (HT.sIx ds.length 0 lo)).take (HT.sIx ds.length ds.length hi - HT.sIx ds.length 0 lo)
theorem RpL.cut {xs : List V} {lo hi : Option Int} (h : RpL K G ds xs) : RpL K G (cutD ds lo hi) (cutV xs lo hi) := by
  unfold cutD cutV
  rw [h.len]
  exact (h.drop _).take _
def TrO (to : TO) (σ : L2.St) (G : Hp) (o : Option Int) : Prop := ∀ G1 M H, Ex G G1 → At G1 M H → ∀ Q : Option Int → Hp → Prop, (∀ G' H', Ex G1 G' → At G' M H' → Q o H') → to σ H Q
theorem o_none : TrO tNoPart σ G none := fun G1 M H e A Q q => q G1 H (Ex.refl _) A
theorem o_some {i : Int} (h : TrD K te σ G (.int i)) : TrO (tPart te) σ G (some i) := fun G1 M H e A Q q => by
  refine h G1 M H e A _ fun v G2 H2 e2 A2 r => ?_
  exact ⟨i, r, q G2 H2 e2 A2⟩
theorem d_slL {tl th : TO} {lo hi : Option Int} (h : TrD K te σ G (.list ds)) (h1 : TrO tl σ G lo) (h2 : TrO th σ G hi) : TrD K (tSl (rSlL K) te tl th) σ G (.list (cutD ds lo hi)) := fun G1 M H e A Q q => by
  refine h G1 M H e A _ fun v G2 H2 e2 A2 r => ?_
  refine h1 G2 M H2 (e.trans e2) A2 _ fun G3 H3 e3 A3 => ?_
  refine h2 G3 M H3 ((e.trans e2).trans e3) A3 _ fun G4 H4 e4 A4 => ?_
  obtain ⟨a, xs, rfl, k1, k2⟩ := r.up (e3.trans e4)
  refine ⟨a, xs, rfl, SqL.of (A4.g _ _ k1), fun p hp => ?_⟩
  exact ((q.mono ((e2.trans e3).trans e4))).newG A4 hp ⟨p, _, rfl, upd_same, k2.cut.up (Ex.new (A4.gNone hp))⟩
def rTupOf (K : PySem.W.Frag) : List V → Hp → VK → Prop := fun xs H Q => ∃ p ys, xs = [.ref p] ∧ ((SqL K H p ys ∧ ∀ l, H l = none → Q (.ref l) (upd H l (.tup ys))) ∨ (SqT K H p ys ∧ Q (.ref p) H))
theorem call_tupOf {X : Cx} : CallR X (.type "tuple") (rTupOf X.K) := call_tuple_of
theorem rc_tupL : RC K (rTupOf K) [.list ds] (.tuple ds) := fun G M H xs A ⟨x, r, e, ⟨a, ys, h1, h2, h3⟩, h'⟩ Q q => by
  rw [e, show r = [] from h', h1]
  exact ⟨a, ys, rfl, .inl ⟨SqL.of (A.g _ _ h2), fun p hp => q.newG A hp ⟨p, ys, rfl, SqT.of upd_same, h3.up (Ex.new (A.gNone hp))⟩⟩⟩
def rListOf (K : PySem.W.Frag) : List V → Hp → VK → Prop := fun xs H Q => ∃ p ys, xs = [.ref p] ∧ (SqL K H p ys ∨ SqT K H p ys) ∧ ∀ l, H l = none → Q (.ref l) (upd H l (.lst ys))
theorem call_listOf {X : Cx} : CallR X (.type "list") (rListOf X.K) := call_list_of
theorem rc_listT : RC K (rListOf K) [.tuple ds] (.list ds) := fun G M H xs A ⟨x, r, e, ⟨a, ys, h1, h2, h3⟩, h'⟩ Q q => by
  rw [e, show r = [] from h', h1]
  exact ⟨a, ys, rfl, .inr (A.g.stt h2), fun p hp => q.newG A hp ⟨p, ys, rfl, upd_same, h3.up (Ex.new (A.gNone hp))⟩⟩
theorem rpL_bools : ∀ (bs : List Bool) {xs : List V}, RpL K G (bs.map PyData.bool) xs → xs = bs.map V.bl
  | [], xs, h => h
  | b :: bs, xs, ⟨x, r, h1, h2, h3⟩ => by
    rw [h1, show x = V.bl b from h2, rpL_bools bs h3]
    rfl
theorem rc_all {bs : List Bool} : RC K (rAll K) [.list (bs.map .bool)] (.bool (bs.all id)) := fun G M H xs A ⟨x, r, e, ⟨a, ys, h1, h2, h3⟩, h'⟩ Q q => by
  rw [e, show r = [] from h', h1]
  rw [rpL_bools bs h3] at h2
  exact ⟨a, bs, rfl, SqL.of (A.g _ _ h2), q.here A rfl⟩
theorem d_revL (h : TrD K te σ G (.list ds)) : TrD K (tRevL K te) σ G (.list ds.reverse) := fun G1 M H e A Q q => by
  refine h G1 M H e A _ fun v G2 H2 e2 A2 r => ?_
  obtain ⟨a, xs, rfl, k1, k2⟩ := r
  exact ⟨a, xs, rfl, SqL.of (A2.g _ _ k1), fun p hp => (q.mono e2).newG A2 hp ⟨p, _, rfl, upd_same, k2.rev.up (Ex.new (A2.gNone hp))⟩⟩
/-! ### texts -/
theorem d_join {to : TE} {a : Str} {ys : List Str} (ho : TrD K to σ G (.str a)) (h : TrD K te σ G (.list (dStrs ys))) (hz : (ys.map (·.length)).sum + ys.length * a.length ≤ 16777216) :
    TrD K (tM1 (fun x xs H Q => ∃ a p, ∃ ys : List Str, x = .str a ∧ xs = [.ref p] ∧ (SqL K H p (ys.map V.str) ∨ SqT K H p (ys.map V.str)) ∧ (ys.map (·.length)).sum + ys.length * a.length ≤ 16777216 ∧ Q (.str (Txt.join a ys)) H) to te) σ G (.str (Txt.join a ys)) := fun G1 M H e A Q q => by
  refine ho G1 M H e A _ fun v G2 H2 e2 A2 r => ⟨⟨a, r⟩, ?_⟩
  refine h G2 M H2 (e.trans e2) A2 _ fun v3 G3 H3 e3 A3 r3 => ?_
  obtain ⟨p, rfl, hp⟩ := r3.ls
  exact ⟨a, p, ys, r, rfl, .inl (SqL.of (A3.g _ _ hp)), hz, (q.mono (e2.trans e3)).here A3 rfl⟩
theorem d_split {to : TE} {a b : Str} (ho : TrD K to σ G (.str a)) (h : TrD K te σ G (.str b)) (hb : (b.length == 0) = false) (hz : a.length + 2 ≤ sizeLine) :
    TrD K (tM1 (fun x xs H Q => ∃ a b, x = .str a ∧ xs = [.str b] ∧ (b.length == 0) = false ∧ a.length + 2 ≤ sizeLine ∧ rNewStrs (Txt.split a b) H Q) to te) σ G (.list (dStrs (Txt.split a b))) := fun G1 M H e A Q q => by
  refine ho G1 M H e A _ fun v G2 H2 e2 A2 r => ⟨⟨a, r⟩, ?_⟩
  refine h G2 M H2 (e.trans e2) A2 _ fun v3 G3 H3 e3 A3 r3 => ?_
  refine ⟨a, b, r, by rw [show v3 = V.str b from r3], hb, hz, fun p hp => ?_⟩
  exact (q.mono (e2.trans e3)).newG A3 hp ⟨p, _, rfl, upd_same, (rpL_strs _).mpr rfl⟩
theorem rd_inSign {c : Nat} {z : Str} : RD K (fun x y H Q => ∃ (c : Nat) (z : Str), x = .str ⟨#[c]⟩ ∧ y = .str z ∧ Q (.bl (decide (c ∈ z.cps.toList))) H) (.str ⟨#[c]⟩) (.str z) (.bool (decide (c ∈ z.cps.toList))) :=
  fun G M H v u A h1 h2 Q q => ⟨c, z, h1, h2, q.here A rfl⟩
theorem rd_ltS {x y : Str} : RD K (fun x y H Q => ∃ i j, x = .str i ∧ y = .str j ∧ Q (.bl (decide (i.cps.toList < j.cps.toList))) H) (.str x) (.str y) (.bool (decide (x.cps.toList < y.cps.toList))) :=
  fun G M H v u A h1 h2 Q q => ⟨x, y, h1, h2, q.here A rfl⟩
def flatD : PyData → V
  | .bool b => .bl b
  | .int i => .int i
  | .str x => .str x
  | _ => .non
def isFlat : PyData → Bool
  | .none => true
  | .bool _ => true
  | .int _ => true
  | .str _ => true
  | _ => false
theorem rp_flat {v : V} (hf : isFlat d = true) (h : Rp K G d v) : v = flatD d ∧ flatV v = true := by
  cases d with
  | none => rw [show v = V.non from h]; exact ⟨rfl, rfl⟩
  | bool b => rw [show v = V.bl b from h]; exact ⟨rfl, rfl⟩
  | int b => rw [show v = V.int b from h]; exact ⟨rfl, rfl⟩
  | str b => rw [show v = V.str b from h]; exact ⟨rfl, rfl⟩
  | list ds => cases hf
  | dict ds => cases hf
  | tuple ds => cases hf
theorem rpL_flat : ∀ {ds : List PyData} {xs : List V}, ds.all isFlat = true → RpL K G ds xs → xs = ds.map flatD ∧ xs.all flatV = true
  | [], xs, _, h => by rw [show xs = [] from h]; exact ⟨rfl, rfl⟩
  | d :: ds, xs, hf, ⟨x, r, h1, h2, h3⟩ => by
    have hf' : isFlat d = true ∧ ds.all isFlat = true := by simpa using hf
    obtain ⟨e1, e2⟩ := rp_flat hf'.1 h2
    obtain ⟨e3, e4⟩ := rpL_flat hf'.2 h3
    rw [h1, e1, e3]
    rw [e1] at e2
    rw [e3] at e4
    refine ⟨rfl, ?_⟩
    rw [List.all_cons, e2, e4]
    rfl
def inD (d : PyData) (ds : List PyData) : Bool := inV (flatD d) (ds.map flatD)
theorem rd_inT {neg : Bool} (hf : isFlat d = true) (hs : ds.all isFlat = true) : RD K (rIn K neg) d (.tuple ds) (.bool (if neg then !inD d ds else inD d ds)) := fun G M H x y A h1 ⟨a, xs, k1, k2, k3⟩ Q q => by
  obtain ⟨e1, e2⟩ := rp_flat hf h1
  obtain ⟨e3, e4⟩ := rpL_flat hs k3
  refine ⟨a, xs, k1, .inr (A.g.stt k2), e2, e4, q.here A ?_⟩
  rw [e1, e3]
  rfl
theorem rd_inL {neg : Bool} (hf : isFlat d = true) (hs : ds.all isFlat = true) : RD K (rIn K neg) d (.list ds) (.bool (if neg then !inD d ds else inD d ds)) := fun G M H x y A h1 ⟨a, xs, k1, k2, k3⟩ Q q => by
  obtain ⟨e1, e2⟩ := rp_flat hf h1
  obtain ⟨e3, e4⟩ := rpL_flat hs k3
  refine ⟨a, xs, k1, .inl (SqL.of (A.g _ _ k2)), e2, e4, q.here A ?_⟩
  rw [e1, e3]
  rfl
end
end Sb

namespace Sb
open PySem PySem.Spec PyProof.Rows L2
section
variable {K : PySem.W.Frag} {σ : L2.St} {G G' M H : Hp} {ta tb te : TE} {d d1 d2 d3 : PyData} {tt t u : TT} {ts : TA} {ds es : List PyData} {Q : VK} {D : Ends} {s1 s2 : TS}
theorem s_seq (h : s1 { D with nx := s2 D } σ H) : tSeq s1 s2 D σ H := h
theorem s_next (h : D.nx σ H) : tNext D σ H := h
def isNoneD : PyData → Bool
  | .none => true
  | _ => false
theorem rd_isN : RD K (fun x y H Q => y = V.non ∧ Q (V.bl (decide (x = V.non))) H) d .none (.bool (isNoneD d)) := fun G M H x y A h1 h2 Q q => by
  refine ⟨h2, q.here A ?_⟩
  cases d with
  | none => rw [show x = V.non from h1]; rfl
  | bool b => rw [show x = V.bl b from h1]; rfl
  | int b => rw [show x = V.int b from h1]; rfl
  | str b => rw [show x = V.str b from h1]; rfl
  | list ds => obtain ⟨a, xs, rfl, _⟩ := h1; rfl
  | dict ds => obtain ⟨a, xs, rfl, _⟩ := h1; rfl
  | tuple ds => obtain ⟨a, xs, rfl, _⟩ := h1; rfl
theorem v_andT (h1 : TrD K ta σ G (.bool true)) (h2 : TrD K tb σ G d) : TrD K (tAndV ta tb) σ G d := fun G1 M H e A Q q => by
  refine h1 G1 M H e A _ fun v G2 H2 e2 A2 r => ?_
  exact ⟨true, r, h2 G2 M H2 (e.trans e2) A2 Q (q.mono e2)⟩
theorem v_andF (h1 : TrD K ta σ G (.bool false)) : TrD K (tAndV ta tb) σ G (.bool false) := fun G1 M H e A Q q => by
  refine h1 G1 M H e A _ fun v G2 H2 e2 A2 r => ?_
  exact ⟨false, r, (q.mono e2).here A2 rfl⟩
theorem v_orF (h1 : TrD K ta σ G (.bool false)) (h2 : TrD K tb σ G d) : TrD K (tOrV ta tb) σ G d := fun G1 M H e A Q q => by
  refine h1 G1 M H e A _ fun v G2 H2 e2 A2 r => ?_
  exact ⟨false, r, h2 G2 M H2 (e.trans e2) A2 Q (q.mono e2)⟩
theorem v_orT (h1 : TrD K ta σ G (.bool true)) : TrD K (tOrV ta tb) σ G (.bool true) := fun G1 M H e A Q q => by
  refine h1 G1 M H e A _ fun v G2 H2 e2 A2 r => ?_
  exact ⟨true, r, (q.mono e2).here A2 rfl⟩
theorem b_orT (h1 : TrB t σ G true) : TrB (tOr t u) σ G true := fun G1 M H e A Q q => h1 G1 M H e A _ q
theorem b_orF {b : Bool} (h1 : TrB t σ G false) (h2 : TrB u σ G b) : TrB (tOr t u) σ G b := fun G1 M H e A Q q =>
  h1 G1 M H e A _ fun G2 H2 e2 A2 => h2 G2 M H2 (e.trans e2) A2 _ fun G3 H3 e3 A3 => q G3 H3 (e2.trans e3) A3
theorem b_andF (h1 : TrB t σ G false) : TrB (tAnd t u) σ G false := fun G1 M H e A Q q => h1 G1 M H e A _ q
theorem b_andT {b : Bool} (h1 : TrB t σ G true) (h2 : TrB u σ G b) : TrB (tAnd t u) σ G b := fun G1 M H e A Q q =>
  h1 G1 M H e A _ fun G2 H2 e2 A2 => h2 G2 M H2 (e.trans e2) A2 _ fun G3 H3 e3 A3 => q G3 H3 (e2.trans e3) A3
/-! chains -/
theorem d_chain {r r' : R2} {tc : TE} {x y z : PyData} {a b : Bool} (ha : TrD K ta σ G x) (hb : TrD K tb σ G y) (hr : RD K r x y (.bool a)) (hc : a = true → TrD K tc σ G z) (hr' : a = true → RD K r' y z (.bool b)) : TrD K (tChain r r' ta tb tc) σ G (.bool (a && b)) := fun G1 M H e A Q q => by
  refine ha G1 M H e A _ fun v G2 H2 e2 A2 r2 => ?_
  refine hb G2 M H2 (e.trans e2) A2 _ fun w G3 H3 e3 A3 r3 => ?_
  refine hr G3 M H3 v w A3 (r2.up e3) r3 _ fun k G4 H4 e4 A4 r4 => ⟨a, r4, ?_⟩
  cases a with
  | false => exact (q.mono ((e2.trans e3).trans e4)).here A4 rfl
  | true =>
    refine hc rfl G4 M H4 (((e.trans e2).trans e3).trans e4) A4 _ fun k5 G5 H5 e5 A5 r5 => ?_
    exact hr' rfl G5 M H5 _ _ A5 (r3.up (e4.trans e5)) r5 Q (q.mono (((e2.trans e3).trans e4).trans e5))
/-! dicts whose keys are texts -/
def keysD (kvs : List (Str × PyData)) : List (PyData × PyData) := kvs.map fun p => (.str p.1, p.2)
theorem RpD.keys : ∀ {kvs : List (Str × PyData)} {xs : List (Key × V)}, RpD K G (keysD kvs) xs → xs.map (·.1) = (kvs.map (·.1)).map Sum.inr
  | [], xs, h => by rw [show xs = [] from h]; rfl
  | (k, d) :: r, _, ⟨x, y, t, h1, h2, _, h3⟩ => by
    rw [h1, List.map_cons, List.map_cons, List.map_cons, RpD.keys h3]
    cases x with
    | inl i => cases h2
    | inr z =>
      have e : z = k := by simpa [kD] using h2
      rw [e]
def lookD (kvs : List (Str × PyData)) (x : Str) : Option PyData := (kvs.find? fun p => decide (p.1 = x)).map (·.2)
theorem RpD.val {x : Str} : ∀ {kvs : List (Str × PyData)} {xs : List (Key × V)}, RpD K G (keysD kvs) xs → (∀ d, lookD kvs x = some d → ∃ v, valV xs (Sum.inr x) = some v ∧ Rp K G d v) ∧ (lookD kvs x = none → valV xs (Sum.inr x) = none)
  | [], xs, h => by
    rw [show xs = [] from h]
    exact ⟨fun d z => by simp [lookD] at z, fun _ => rfl⟩
  | (k, d) :: r, _, ⟨z, y, t, h1, h2, h4, h3⟩ => by
    rw [h1]
    have ih := RpD.val (x := x) h3
    cases z with
    | inl i => cases h2
    | inr w =>
      have e : w = k := by simpa [kD] using h2
      subst e
      unfold lookD valV at ih ⊢
      simp only [List.find?_cons]
      rw [key_rr]
      by_cases q : w = x
      · subst q
        simp only [decide_true, Option.map_some]
        exact ⟨fun d' z => ⟨y, rfl, by cases z; exact h4⟩, fun z => by cases z⟩
      · simp only [decide_eq_false q]
        exact ih
theorem d_dget {x : Str} {kvs : List (Str × PyData)} {tx : TE} (h : TrD K te σ G (.dict (keysD kvs))) (hx : TrD K tx σ G (.str x)) (hl : lookD kvs x = some d) : TrD K (tDGet te tx) σ G d := fun G1 M H e A Q q => by
  refine h G1 M H e A _ fun v G2 H2 e2 A2 r => ?_
  refine hx G2 M H2 (e.trans e2) A2 _ fun w G3 H3 e3 A3 r3 => ?_
  obtain ⟨a, xs, rfl, k1, k2⟩ := r.up e3
  obtain ⟨z, e4, r4⟩ := (RpD.val k2).1 d hl
  refine ⟨a, z, rfl, ?_, (q.mono (e2.trans e3)).here A3 r4⟩
  rw [← e4, show w = kV (Sum.inr x) from r3]
  exact DGet.k (A3.g _ _ k1)
theorem b_din {x : Str} {kvs : List (Str × PyData)} {tx : TE} (hx : TrD K tx σ G (.str x)) (h : TrD K te σ G (.dict (keysD kvs))) : TrB (tB (tDIn tx te)) σ G (lookD kvs x).isSome := fun G1 M H e A Q q => by
  refine hx G1 M H e A _ fun w G2 H2 e2 A2 r2 => ?_
  refine h G2 M H2 (e.trans e2) A2 _ fun v G3 H3 e3 A3 r3 => ?_
  obtain ⟨a, xs, rfl, k1, k2⟩ := r3
  have hv := RpD.val (x := x) k2
  refine ⟨a, valV xs (Sum.inr x), rfl, ?_, (lookD kvs x).isSome, ?_, q G3 H3 (e2.trans e3) A3⟩
  · rw [show w = kV (Sum.inr x) from r2]
    exact DGet.k (A3.g _ _ k1)
  · cases z : lookD kvs x with
    | none => rw [hv.2 z]; rfl
    | some d =>
      obtain ⟨y, e4, _⟩ := hv.1 d z
      rw [e4]
      rfl
theorem v_din {x : Str} {kvs : List (Str × PyData)} {tx : TE} (hx : TrD K tx σ G (.str x)) (h : TrD K te σ G (.dict (keysD kvs))) : TrD K (tDIn tx te) σ G (.bool (lookD kvs x).isSome) := fun G1 M H e A Q q => by
  have z := b_din hx h G1 M H e A (fun b H => Q (.bl b) H) fun G' H' e' A' => (q.mono e').here A' rfl
  refine hx G1 M H e A _ fun w G2 H2 e2 A2 r2 => ?_
  refine h G2 M H2 (e.trans e2) A2 _ fun v G3 H3 e3 A3 r3 => ?_
  obtain ⟨a, xs, rfl, k1, k2⟩ := r3
  have hv := RpD.val (x := x) k2
  refine ⟨a, valV xs (Sum.inr x), rfl, ?_, (q.mono (e2.trans e3)).here A3 ?_⟩
  · rw [show w = kV (Sum.inr x) from r2]
    exact DGet.k (A3.g _ _ k1)
  · show V.bl _ = V.bl _
    cases z : lookD kvs x with
    | none => rw [hv.2 z]; rfl
    | some d =>
      obtain ⟨y, e4, _⟩ := hv.1 d z
      rw [e4]
      rfl
theorem v_dnin {x : Str} {kvs : List (Str × PyData)} {tx : TE} (hx : TrD K tx σ G (.str x)) (h : TrD K te σ G (.dict (keysD kvs))) : TrD K (tDNotIn tx te) σ G (.bool (!(lookD kvs x).isSome)) := fun G1 M H e A Q q => by
  refine hx G1 M H e A _ fun w G2 H2 e2 A2 r2 => ?_
  refine h G2 M H2 (e.trans e2) A2 _ fun v G3 H3 e3 A3 r3 => ?_
  obtain ⟨a, xs, rfl, k1, k2⟩ := r3
  have hv := RpD.val (x := x) k2
  refine ⟨a, valV xs (Sum.inr x), rfl, ?_, (q.mono (e2.trans e3)).here A3 ?_⟩
  · rw [show w = kV (Sum.inr x) from r2]
    exact DGet.k (A3.g _ _ k1)
  · show V.bl _ = V.bl _
    cases z : lookD kvs x with
    | none => rw [hv.2 z]; rfl
    | some d =>
      obtain ⟨y, e4, _⟩ := hv.1 d z
      rw [e4]
      rfl
/-! sorted texts -/
def leS (x y : Str) : Bool := decide (x.cps.toList ≤ y.cps.toList)
def srt (ss : List Str) : List Str := ss.mergeSort leS
theorem leS_trans (a b c : Str) (h1 : leS a b = true) (h2 : leS b c = true) : leS a c = true := decide_eq_true (List.le_trans (of_decide_eq_true h1) (of_decide_eq_true h2))
theorem leS_total (a b : Str) : (leS a b || leS b a) = true := by
  rcases List.le_total a.cps.toList b.cps.toList with h | h
  · rw [show leS a b = true from decide_eq_true h]; rfl
  · rw [show leS b a = true from decide_eq_true h, Bool.or_true]
theorem str_ext {a b : Str} (h : a.cps.toList = b.cps.toList) : a = b := by
  cases a
  cases b
  simp only [Str.mk.injEq]
  exact Array.toList_inj.mp h
theorem leS_anti {a b : Str} (h1 : leS a b = true) (h2 : leS b a = true) : a = b := str_ext (List.le_antisymm (of_decide_eq_true h1) (of_decide_eq_true h2))
theorem srt_perm (ss : List Str) : (srt ss).Perm ss := List.mergeSort_perm ss leS
theorem srt_pw (ss : List Str) : (srt ss).Pairwise fun a b => leS a b = true := List.pairwise_mergeSort leS_trans leS_total ss
theorem rising_pw : ∀ (r : List Str) (p : Str), risingS p r = true → (p :: r).Pairwise fun a b => leS a b = true
  | [], p, _ => List.pairwise_singleton _ _
  | x :: r, p, h => by
    have h' : (!ltCps x.cps.toList p.cps.toList && risingS x r) = true := h
    obtain ⟨h1, h2⟩ := Bool.and_eq_true_iff.mp h'
    have ih := rising_pw r x h2
    have px : leS p x = true := by
      rw [ltCps_eq] at h1
      have h3 : ¬ x.cps.toList < p.cps.toList := by simpa using h1
      exact decide_eq_true (List.not_lt.mp h3)
    refine List.pairwise_cons.mpr ⟨fun y hy => ?_, ih⟩
    rcases List.mem_cons.mp hy with rfl | hy
    · exact px
    · exact leS_trans _ _ _ px ((List.pairwise_cons.mp ih).1 y hy)
theorem sorted_pw (ss : List Str) (h : sortedS ss = true) : ss.Pairwise fun a b => leS a b = true := by
  cases ss with
  | nil => exact .nil
  | cons x r => exact rising_pw r x h
theorem srt_of {ys ss : List Str} (p : ys.Perm ss) (h : sortedS ys = true) : ys = srt ss :=
  List.Perm.eq_of_pairwise (fun a b _ _ => leS_anti) (sorted_pw ys h) (srt_pw ss) (p.trans (srt_perm ss).symm)
theorem srt_congr {xs ys : List Str} (p : xs.Perm ys) : srt xs = srt ys :=
  List.Perm.eq_of_pairwise (fun a b _ _ => leS_anti) (srt_pw xs) (srt_pw ys) ((srt_perm xs).trans (p.trans (srt_perm ys).symm))
theorem srt_id {xs : List Str} (p : xs.Pairwise fun a b => leS a b = true) : srt xs = xs :=
  List.Perm.eq_of_pairwise (fun a b _ _ => leS_anti) (srt_pw xs) p (srt_perm xs)
def rSortD : List V → Hp → VK → Prop := fun xs H Q => ∃ (a : Addr) (kvs : List (Key × V)) (ks : List Str), xs = [.ref a] ∧ Rd H a (.dK kvs) ∧ kvs.map (·.1) = ks.map Sum.inr ∧ ks.length < 64 ∧
    ∀ ys p, ys.Perm ks → sortedS ys = true → H p = none → Q (.ref p) (upd H p (.lst (ys.map V.str)))
theorem call_sortedD' {X : Cx} (hc : X.calm = true) : CallR X (.builtin "sorted") rSortD := call_sortedD hc
theorem rc_sortD {kvs : List (Str × PyData)} (hn : kvs.length < 64) : RC K rSortD [.dict (keysD kvs)] (.list (dStrs (srt (kvs.map (·.1))))) := fun G M H xs A ⟨x, r, e, ⟨a, ys, h1, h2, h3⟩, h'⟩ Q q => by
  rw [e, show r = [] from h', h1]
  refine ⟨a, ys, kvs.map (·.1), rfl, .inl (A.g _ _ h2), h3.keys, by rw [List.length_map]; exact hn, fun zs p pm so hp => ?_⟩
  rw [srt_of pm so]
  exact q.newG A hp ⟨p, _, rfl, upd_same, (rpL_strs _).mpr rfl⟩
/-! [e for k in d], d a dict: the element and the test look at the key alone -/
theorem d_lcK {tt : TT} {i j : Nat} {v : V} {kvs : List (Str × PyData)} {p : Str → Bool} {f : Str → PyData} (hv : σ[j]? = some (some v)) (hd : Rp K G (.dict (keysD kvs)) v) (hn : kvs.length < 100000)
    (hw : (wipe σ [i])[j]? = some (some v))
    (ht : ∀ k, k ∈ kvs.map (·.1) → ∀ G1, TrB tt ((wipe σ [i]).set i (some (V.str k))) G1 (p k))
    (he : ∀ k, k ∈ kvs.map (·.1) → ∀ G1, TrD K te ((wipe σ [i]).set i (some (V.str k))) G1 (f k)) :
    TrD K (tLockE (tLc (iKeys (tVar j)) (gName i) tt te [i])) σ G (.list (((kvs.map (·.1)).filter p).map f)) := fun G1 M H e A Q q => by
  obtain ⟨a, xs, rfl, k1, k2⟩ := hd.up e
  have hH := A.g _ _ k1
  refine ⟨a, .dK xs, hH, trivial, fun od => ?_⟩
  -- within: the dict is locked, all the rest of G stands
  have A0 : At (fun b => if b = a then none else G1 b) (upd M a (.frz od (.dK xs))) (upd H a (.frz od (.dK xs))) := by
    have hMa : M a = none := by
      cases z : M a with
      | none => rfl
      | some o =>
        rw [A.d _ _ z] at k1
        cases k1
    refine ⟨fun b o z => ?_, fun b o z => ?_, fun b o z => ?_⟩
    · by_cases hb : b = a
      · rw [if_pos hb] at z; cases z
      · rw [if_neg hb] at z
        rw [upd_ne hb]
        exact A.g _ _ z
    · by_cases hb : b = a
      · subst hb
        rw [upd_same] at z ⊢
        exact z
      · rw [upd_ne hb] at z ⊢
        exact A.m _ _ z
    · by_cases hb : b = a
      · exact if_pos hb
      · rw [if_neg hb]
        rw [upd_ne hb] at z
        exact A.d _ _ z
  have hMa : M a = none := by
    cases z : M a with
    | none => rfl
    | some o =>
      rw [A.d _ _ z] at k1
      cases k1
  generalize hM1 : upd M a (.frz od (.dK xs)) = M1 at A0
  generalize hG0 : (fun b => if b = a then none else G1 b : Hp) = G0 at A0
  have hMla : M1 a = some (.frz od (.dK xs)) := by rw [← hM1]; exact upd_same
  refine ⟨.ref a, hv, a, od, rfl, .inl ⟨xs, upd_same, fun D hD => ?_⟩⟩
  have hDa : D ≠ a := fun z => by
    subst z
    rw [upd_same] at hD
    cases hD
  have keys := k2.keys
  refine ⟨fun t m H3 => m = xs.length - t ∧ t ≤ xs.length ∧ ∃ Gj acc, Ex G0 Gj ∧ At Gj (upd M1 D (.lst acc)) H3 ∧ RpL K Gj ((((kvs.map (·.1)).take t).filter p).map f) acc, ⟨xs.length, by simp, Nat.zero_le _, G0, [], Ex.refl _, A0.nm hD, rfl⟩, ?_⟩
  rintro t m H3 ⟨rfl, ht', Gj, acc, ej, Aj, rj⟩
  have hfr : H3 a = some (.frz od (.dK xs)) := Aj.m _ _ (by rw [upd_ne hDa.symm]; exact hMla)
  by_cases hlt : t < xs.length
  · refine .inr ⟨⟨hfr, hlt⟩, fun H4 => ∃ Gj acc, Ex G0 Gj ∧ At Gj (upd M1 D (.lst acc)) H4 ∧ RpL K Gj ((((kvs.map (·.1)).take (t + 1)).filter p).map f) acc, fun H4 z => ⟨xs.length - (t + 1), by omega, rfl, hlt, z⟩, ?_⟩
    rintro x H4 ⟨rfl, k, w, hk, rfl⟩
    have hk2 : (xs.map (·.1))[t]? = some k := by rw [List.getElem?_map, hk]; rfl
    rw [keys, List.getElem?_map] at hk2
    obtain ⟨kk, hk3, rfl⟩ : ∃ kk, (kvs.map (·.1))[t]? = some kk ∧ k = Sum.inr kk := by
      cases z : (kvs.map (·.1))[t]? with
      | none => rw [z] at hk2; cases hk2
      | some kk => rw [z] at hk2; exact ⟨kk, rfl, (Option.some.inj hk2).symm⟩
    have hm := List.mem_of_getElem? hk3
    have htk : (kvs.map (·.1)).take (t + 1) = (kvs.map (·.1)).take t ++ [kk] := by rw [List.take_add_one, hk3]; rfl
    show wipe _ _ = wipe _ _ ∧ _
    refine ⟨wipe_set, ?_⟩
    refine ht kk hm Gj Gj _ H4 (Ex.refl _) Aj _ fun G4 H4 e4 A4 => ?_
    cases hp : p kk with
    | false =>
      refine ⟨G4, acc, ej.trans e4, A4, ?_⟩
      rw [htk, List.filter_append, List.filter_cons, hp]
      simpa using rj.up e4
    | true =>
      refine he kk hm G4 G4 _ H4 (Ex.refl _) A4 _ fun v5 G5 H5 e5 A5 r5 => ?_
      refine ⟨acc, A5.m _ _ upd_same, ?_, G5, acc ++ [v5], ej.trans (e4.trans e5), ?_, ?_⟩
      · rw [rj.len, List.length_map]
        refine sz_lt (Nat.lt_of_le_of_lt (Nat.le_trans (List.length_filter_le _ _) ?_) hn)
        rw [List.length_take, List.length_map]
        exact Nat.min_le_right _ _
      · have z := A5.wr (o := .lst (acc ++ [v5])) (upd_same (H := M1) (a := D) (o := .lst acc))
        rw [upd_upd] at z
        exact z
      · rw [htk, List.filter_append, List.filter_cons, hp, List.map_append]
        exact (rj.up (e4.trans e5)).snoc r5
  · have e1 : t = xs.length := by omega
    subst e1
    have hl2 : (kvs.map (·.1)).take xs.length = kvs.map (·.1) := by
      have z := congrArg List.length keys
      simp only [List.length_map] at z
      rw [z]
      exact List.take_of_length_le (by rw [List.length_map]; exact Nat.le_refl _)
    rw [hl2] at rj
    refine .inl ⟨⟨hfr, Nat.le_refl _⟩, hfr, ?_⟩
    have hDM : M D = none := by
      have z := hD
      rw [upd_ne hDa] at z
      exact A.mNone z
    have hGD : G1 D = none := by
      have z := hD
      rw [upd_ne hDa] at z
      exact A.gNone z
    have hGjD : Gj D = none := Aj.d _ _ upd_same
    have hGja : Gj a = none := Aj.d _ _ (by rw [upd_ne hDa.symm]; exact hMla)
    -- behind: the dict and the new list belong to G again
    refine q (.ref D) (upd (upd Gj a (.dK xs)) D (.lst acc)) _ (fun b o z => ?_) ⟨fun b o z => ?_, fun b o z => ?_, fun b o z => ?_⟩ ⟨D, acc, rfl, upd_same, rj.up (Ex.trans (Ex.new hGja) (Ex.new (none_upd hGjD hDa)))⟩
    · have hb : b ≠ D := fun y => by
        subst y
        rw [hGD] at z
        cases z
      rw [upd_ne hb]
      by_cases ha : b = a
      · subst ha
        rw [upd_same]
        rw [k1] at z
        exact z
      · rw [upd_ne ha]
        refine ej _ _ ?_
        rw [← hG0]
        show (if b = a then none else G1 b) = some o
        rw [if_neg ha]
        exact z
    · by_cases hb : b = D
      · subst hb
        rw [upd_same] at z
        rw [upd_ne hDa]
        cases z
        exact Aj.m _ _ upd_same
      · rw [upd_ne hb] at z
        by_cases ha : b = a
        · subst ha
          rw [upd_same] at z ⊢
          exact z
        · rw [upd_ne ha] at z ⊢
          exact Aj.g _ _ z
    · have hb : b ≠ a := fun y => by
        subst y
        rw [hMa] at z
        cases z
      have hb2 : b ≠ D := fun y => by
        subst y
        rw [hDM] at z
        cases z
      rw [upd_ne hb]
      refine Aj.m _ _ ?_
      rw [upd_ne hb2, ← hM1, upd_ne hb]
      exact z
    · have hb : b ≠ a := fun y => by
        subst y
        rw [hMa] at z
        cases z
      have hb2 : b ≠ D := fun y => by
        subst y
        rw [hDM] at z
        cases z
      rw [upd_ne hb2, upd_ne hb]
      refine Aj.d b o ?_
      rw [upd_ne hb2, ← hM1, upd_ne hb]
      exact z
end
end Sb

namespace Sb
open PySem PySem.Spec PyProof.Rows L2
section
variable {K : PySem.W.Frag} {σ : L2.St} {G G' M H : Hp} {ta tb te : TE} {d d1 d2 d3 : PyData} {tt t u : TT} {ts : TA} {ds es : List PyData} {Q : VK} {D : Ends} {s1 s2 : TS} {i j : Nat}
/-! ### statements over what is still written -/
theorem s_setK (h : TrD K (tLockE te) σ G d) (A : At G M H) (k : ∀ v G' H', Ex G G' → At G' M H' → Rp K G' d v → D.nx (σ.set i (some v)) H') : tLock (tAsg te (gName i)) D σ H := w_D h A k
theorem s_drop (h : TrD K te σ G d) (A : At G M H) (k : ∀ G' H', Ex G G' → At G' M H' → D.nx σ H') : tDrop te D σ H := w_D h A fun _ G' H' e A' _ => k G' H' e A'
/-- x = [..]: the new list is still to be written -/
theorem s_newL (h : TrA K ts σ G ds) (hn : ds.length ≤ 100000) (A : At G M H) (k : ∀ p xs G' H', Ex G G' → M p = none → G' p = none → At G' (upd M p (.lst xs)) H' → RpL K G' ds xs → D.nx (σ.set i (some (.ref p))) H') : tAsg (tLst ts) (gName i) D σ H := by
  refine w_A h A fun xs G2 H2 e2 A2 r => ?_
  exact ⟨by rw [r.len]; exact sz_of hn, fun p hp => k p xs G2 _ e2 (A2.mNone hp) (A2.gNone hp) (A2.nm hp) r⟩
theorem s_newD (A : At G M H) (k : ∀ p H', M p = none → G p = none → At G (upd M p (.dK [])) H' → D.nx (σ.set i (some (.ref p))) H') : tAsg tDNewK (gName i) D σ H := fun p hp => k p _ (A.mNone hp) (A.gNone hp) (A.nm hp)
theorem s_append {p : Addr} {xs : List V} (hi : σ[i]? = some (some (.ref p))) (hp : M p = some (.lst xs)) (h : TrD K te σ G d) (hn : xs.length < 100000) (A : At G M H)
    (k : ∀ v G' H', Ex G G' → At G' (upd M p (.lst (xs ++ [v]))) H' → Rp K G' d v → D.nx σ H') : tDrop (tBM K "list" rAppend (tVar i) (tCons te tNil)) D σ H := by
  refine ⟨.ref p, hi, Or.inl ⟨rfl, _, Or.inl (Or.inl (A.m _ _ hp))⟩, ?_⟩
  refine w_D h A fun v G2 H2 e2 A2 r => ?_
  exact ⟨p, xs, v, rfl, rfl, A2.m _ _ hp, sz_lt hn, k v G2 _ e2 (A2.wr hp) r⟩
/-- what is no longer written becomes data -/
theorem At.done {p : Addr} {xs : List V} (A : At G (upd M p (.lst xs)) H) (hM : M p = none) (r : RpL K G ds xs) : ∃ G', Ex G G' ∧ At G' M H ∧ Rp K G' (.list ds) (.ref p) :=
  have hm := upd_same (H := M) (a := p) (o := HO.lst xs)
  ⟨_, A.frzG hm, A.frz hm (Ex.new hM) hM, p, xs, rfl, upd_same, r.up (A.frzG hm)⟩
/-! ### loops that write nothing but their own names -/
theorem s_forE {tb : TS} (h : TrD K te σ G (.list ds)) (A : At G M H) (hs0 : ∃ a b, σ = (σ.set i a).set j b) (hij : i ≠ j)
    (hb : ∀ (k : Nat) d, ds[k]? = some d → ∀ x G1 H1, Ex G G1 → At G1 M H1 → Rp K G1 d x → ∀ Nx : L2.St → Hp → Prop, (∀ G2 H2, Ex G1 G2 → At G2 M H2 → Nx ((σ.set i (some (.int k))).set j (some x)) H2) →
      tb { D with nx := Nx, ct := Nx, bk := D.nx } ((σ.set i (some (.int k))).set j (some x)) H1)
    (hd : ∀ a b G1 H1, Ex G G1 → At G1 M H1 → D.nx ((σ.set i a).set j b) H1) :
    tFor (iEnum K (tCons te tNil)) (gTup K 2 (gCons (gName i) (gCons (gName j) gNil))) tb D σ H := by
  refine w_D h A fun v G2 H2 e2 A2 r => ?_
  obtain ⟨a, xs, rfl, k1, k2⟩ := r
  refine ⟨a, xs, rfl, SqL.of (A2.g _ _ k1), ?_⟩
  obtain ⟨a0, b0, h0⟩ := hs0
  refine ⟨fun t m σ' H' => m = xs.length - t ∧ t ≤ xs.length ∧ ∃ G3 a b, Ex G2 G3 ∧ At G3 M H' ∧ σ' = (σ.set i a).set j b, ⟨xs.length, by simp, Nat.zero_le _, G2, a0, b0, Ex.refl _, A2, h0⟩, ?_⟩
  rintro t m σ' H' ⟨rfl, ht, G3, a', b', e3, A3, rfl⟩
  have hsq : SqL K H' a xs := SqL.of (A3.g _ _ (e3 _ _ k1))
  by_cases hlt : t < xs.length
  · have hx : xs[t]? = some xs[t] := List.getElem?_eq_getElem hlt
    obtain ⟨d, hd1, rd⟩ := k2.get hx
    refine .inr ⟨⟨xs, xs[t], hsq, hx⟩, fun σ' H' => ∃ G3 a b, Ex G2 G3 ∧ At G3 M H' ∧ σ' = (σ.set i a).set j b, fun σ2 H3 z => ⟨xs.length - (t + 1), by omega, rfl, hlt, z⟩, ?_⟩
    rintro x H4 ⟨T, y, rfl, hT, rfl, hy⟩
    have ey : y = xs[t] := Option.some.inj ((hy xs hsq).symm.trans hx)
    subst ey
    have A4 := A3.ng (o := HO.tup [.int t, xs[t]]) hT
    have e4 : Ex G3 (upd G3 T (.tup [.int t, xs[t]])) := Ex.new (A3.gNone hT)
    refine ⟨T, [.int t, xs[t]], rfl, SqT.of upd_same, rfl, .int t, [xs[t]], rfl, xs[t], [], rfl, rfl, ?_⟩
    have es : (((σ.set i a').set j b').set i (some (V.int t))).set j (some xs[t]) = (σ.set i (some (V.int t))).set j (some xs[t]) := by
      rw [List.set_comm _ _ hij.symm, List.set_set, List.set_set]
    rw [es]
    refine hb t d hd1 _ _ _ ((e2.trans e3).trans e4) A4 (rd.up (e3.trans e4)) _ fun G5 H5 e5 A5 => ?_
    exact ⟨G5, _, _, (e3.trans e4).trans e5, A5, rfl⟩
  · refine .inl ⟨⟨xs, hsq, by omega⟩, ?_⟩
    exact hd a' b' G3 H' (e2.trans e3) A3
/-! ### a statement and what follows it -/
theorem q_set (h : TrD K te σ G d) (A : At G M H) (k : ∀ v G' H', Ex G G' → At G' M H' → Rp K G' d v → s2 D (σ.set i (some v)) H') : tSeq (tAsg te (gName i)) s2 D σ H := s_set h A k
theorem q_setK (h : TrD K (tLockE te) σ G d) (A : At G M H) (k : ∀ v G' H', Ex G G' → At G' M H' → Rp K G' d v → s2 D (σ.set i (some v)) H') : tSeq (tLock (tAsg te (gName i))) s2 D σ H := s_setK h A k
theorem q_drop (h : TrD K te σ G d) (A : At G M H) (k : ∀ G' H', Ex G G' → At G' M H' → s2 D σ H') : tSeq (tDrop te) s2 D σ H := s_drop h A k
theorem q_guardF {tc : TT} (h : TrB tc σ G false) (A : At G M H) (k : ∀ G' H', Ex G G' → At G' M H' → s2 D σ H') : tSeq (tIfS tc s1 tNext) s2 D σ H := s_ifF h A k
theorem q_guardT {tc : TT} {s3 : TS} (h : TrB tc σ G true) (A : At G M H) (k : ∀ G' H', Ex G G' → At G' M H' → s1 { D with nx := s2 D } σ H') : tSeq (tIfS tc s1 s3) s2 D σ H := s_ifT h A k
theorem q_guardR {tc : TT} (h : TrB tc σ G true) (A : At G M H) (k : ∀ G' H', Ex G G' → At G' M H' → tRet te D σ H') : tSeq (tIfS tc (tRet te) tNext) s2 D σ H := s_ifT h A k
theorem q_guardO {tc : TT} {s3 : TS} (h : TrB tc σ G false) (A : At G M H) (k : ∀ G' H', Ex G G' → At G' M H' → s3 { D with nx := s2 D } σ H') : tSeq (tIfS tc s1 s3) s2 D σ H := s_ifF h A k
theorem q_unpack {n : Nat} {g : TGs} (h : TrD K te σ G (.tuple ds)) (hn : ds.length = n) (A : At G M H) (k : ∀ xs G' H', Ex G G' → At G' M H' → RpL K G' ds xs → g xs σ H' (s2 D)) : tSeq (tAsg te (gTup K n g)) s2 D σ H :=
  w_D h A fun v G2 H2 e2 A2 r => g_tup A2 r hn fun xs rx => k xs G2 H2 e2 A2 rx
theorem q_newL (h : TrA K ts σ G ds) (hn : ds.length ≤ 100000) (A : At G M H) (k : ∀ p xs G' H', Ex G G' → M p = none → G' p = none → At G' (upd M p (.lst xs)) H' → RpL K G' ds xs → s2 D (σ.set i (some (.ref p))) H') : tSeq (tAsg (tLst ts) (gName i)) s2 D σ H := s_newL h hn A k
theorem q_newD (A : At G M H) (k : ∀ p H', M p = none → G p = none → At G (upd M p (.dK [])) H' → s2 D (σ.set i (some (.ref p))) H') : tSeq (tAsg tDNewK (gName i)) s2 D σ H := s_newD A k
theorem q_append {p : Addr} {xs : List V} (hi : σ[i]? = some (some (.ref p))) (hp : M p = some (.lst xs)) (h : TrD K te σ G d) (hn : xs.length < 100000) (A : At G M H)
    (k : ∀ v G' H', Ex G G' → At G' (upd M p (.lst (xs ++ [v]))) H' → Rp K G' d v → s2 D σ H') : tSeq (tDrop (tBM K "list" rAppend (tVar i) (tCons te tNil))) s2 D σ H := s_append hi hp h hn A k
theorem q_forE {tb : TS} (h : TrD K te σ G (.list ds)) (A : At G M H) (hs0 : ∃ a b, σ = (σ.set i a).set j b) (hij : i ≠ j)
    (hb : ∀ (k : Nat) d, ds[k]? = some d → ∀ x G1 H1, Ex G G1 → At G1 M H1 → Rp K G1 d x → ∀ Nx : L2.St → Hp → Prop, (∀ G2 H2, Ex G1 G2 → At G2 M H2 → Nx ((σ.set i (some (.int k))).set j (some x)) H2) →
      tb { D with nx := Nx, ct := Nx, bk := s2 D } ((σ.set i (some (.int k))).set j (some x)) H1)
    (hd : ∀ a b G1 H1, Ex G G1 → At G1 M H1 → s2 D ((σ.set i a).set j b) H1) :
    tSeq (tFor (iEnum K (tCons te tNil)) (gTup K 2 (gCons (gName i) (gCons (gName j) gNil))) tb) s2 D σ H := s_forE h A hs0 hij hb hd
/-! ### more data -/
theorem d_newD : TrD K tDNewK σ G (.dict (keysD [])) := fun G1 M H e A Q q p hp => q.newG A hp ⟨p, [], rfl, upd_same, rfl⟩
theorem keysD_len (kvs : List (Str × PyData)) : (keysD kvs).length = kvs.length := by simp [keysD]
theorem rd_eqE {kvs : List (Str × PyData)} : RD K rEqE (.dict (keysD kvs)) (.dict (keysD [])) (.bool kvs.isEmpty) := fun G M H x y A ⟨a, xs, h1, h2, h3⟩ ⟨b, ys, k1, k2, k3⟩ Q q => by
  refine ⟨a, b, xs, h1, k1, A.g _ _ h2, ?_, q.here A ?_⟩
  · have e : ys = [] := k3
    subst e
    exact A.g _ _ k2
  · show V.bl _ = V.bl _
    have z := h3.len
    rw [keysD_len] at z
    cases xs with
    | nil =>
      cases kvs with
      | nil => rfl
      | cons _ _ => simp at z
    | cons _ _ =>
      cases kvs with
      | nil => simp at z
      | cons _ _ => rfl
theorem v_call1 {R : List PyData → PyData → Prop} {E : XK} (h : TrD K ta σ G d1) (hr : R [d1] d) : TrD K (tCall (PSp K R) [] E (tCons ta tNil)) σ G d := d_call0 (a_cons h a_nil) hr
theorem filt_true {α : Type} (l : List α) : l.filter (fun _ => true) = l := List.filter_eq_self.mpr fun _ _ => rfl
theorem eqv_nil (ds : List PyData) : PyData.eqv (.list ds) (.list []) = ds.isEmpty := by
  cases ds <;> simp [PyData.eqv, PyData.eqvAll]
theorem eqv_nilT (ds : List PyData) : PyData.eqv (.tuple ds) (.tuple []) = ds.isEmpty := by
  cases ds <;> simp [PyData.eqv, PyData.eqvAll]
theorem shaped_ints (ns : List Int) : SeqAt.shaped (.tuple (dInts ns)) = true := by
  have h1 : ∀ ns : List Int, PyData.canLayAll0 (dInts ns) = true := fun ns => by
    induction ns with
    | nil => simp [dInts, PyData.canLayAll0]
    | cons n ns ih =>
      show PyData.canLayAll0 (.int n :: dInts ns) = true
      simp only [PyData.canLayAll0, PyData.canLay0, Bool.true_and]
      exact ih
  have h2 : ∀ ns : List Int, PyData.depthAll (dInts ns) = 0 := fun ns => by
    induction ns with
    | nil => simp [dInts, PyData.depthAll]
    | cons n ns ih =>
      show PyData.depthAll (.int n :: dInts ns) = 0
      simp only [PyData.depthAll, PyData.depth, Nat.zero_max]
      exact ih
  unfold SeqAt.shaped
  simp [PyData.canLay0, PyData.depth, h1, h2]
end
end Sb

namespace Sb
open PySem PySem.Spec PyProof.Rows L2
section
variable {K : PySem.W.Frag} {σ : L2.St} {G G' M H : Hp} {ta tb te td ty : TE} {d d1 d2 d3 : PyData} {tt t u : TT} {ts : TA} {ds es : List PyData} {Q : VK} {D : Ends} {s1 s2 tbd : TS} {i j : Nat} {p : Addr} {o : HO}
/-! ### a cell that is still written, looked at as data -/
def cutG (G : Hp) (p : Addr) : Hp := fun b => if b = p then none else G b
theorem At.fz (A : At G (upd M p o) H) (hM : M p = none) : At (upd G p o) M H := A.frz upd_same (Ex.new hM) hM
theorem At.thaw {G1 : Hp} (e : Ex (upd G p o) G1) (hG : G p = none) (hM : M p = none) (A : At G1 M H) : Ex G (cutG G1 p) ∧ At (cutG G1 p) (upd M p o) H := by
  have hp : G1 p = some o := e _ _ upd_same
  refine ⟨fun b u z => ?_, fun b u z => ?_, fun b u z => ?_, fun b u z => ?_⟩
  · have hb : b ≠ p := fun y => by
      subst y
      rw [hG] at z
      cases z
    show (if b = p then none else G1 b) = some u
    rw [if_neg hb]
    exact e _ _ (by rw [upd_ne hb]; exact z)
  · have z' : (if b = p then none else G1 b) = some u := z
    by_cases hb : b = p
    · rw [if_pos hb] at z'
      cases z'
    · rw [if_neg hb] at z'
      exact A.g _ _ z'
  · by_cases hb : b = p
    · subst hb
      rw [upd_same] at z
      cases z
      exact A.g _ _ hp
    · rw [upd_ne hb] at z
      exact A.m _ _ z
  · show (if b = p then none else G1 b) = none
    by_cases hb : b = p
    · exact if_pos hb
    · rw [if_neg hb]
      rw [upd_ne hb] at z
      exact A.d _ _ z
theorem rp_any {G1 G2 : Hp} {v : V} (hf : isFlat d = true) (h : Rp K G1 d v) : Rp K G2 d v := by
  cases d with
  | none => exact h
  | bool b => exact h
  | int b => exact h
  | str b => exact h
  | list ds => cases hf
  | dict ds => cases hf
  | tuple ds => cases hf
theorem w_Dfz (h : TrD K te σ (upd G p o) d) (hf : isFlat d = true) (hG : G p = none) (hM : M p = none) (A : At G (upd M p o) H) (k : Res K G (upd M p o) d Q) : te σ H Q := by
  refine w_D h (A.fz hM) fun v G1 H1 e1 A1 r1 => ?_
  obtain ⟨e2, A2⟩ := At.thaw e1 hG hM A1
  exact k v _ H1 e2 A2 (rp_any hf r1)
theorem w_Bfz {b : Bool} {Q : Bool → Hp → Prop} (h : TrB t σ (upd G p o) b) (hG : G p = none) (hM : M p = none) (A : At G (upd M p o) H) (k : ∀ G' H', Ex G G' → At G' (upd M p o) H' → Q b H') : t σ H Q := by
  refine w_B h (A.fz hM) fun G1 H1 e1 A1 => ?_
  obtain ⟨e2, A2⟩ := At.thaw e1 hG hM A1
  exact k _ H1 e2 A2
theorem q_guardFfz (h : TrB t σ (upd G p o) false) (hG : G p = none) (hM : M p = none) (A : At G (upd M p o) H) (k : ∀ G' H', Ex G G' → At G' (upd M p o) H' → s2 D σ H') : tSeq (tIfS t s1 tNext) s2 D σ H :=
  w_Bfz (Q := fun b H1 => if b = true then s1 { D with nx := s2 D } σ H1 else tNext { D with nx := s2 D } σ H1) h hG hM A k
/-! ### dicts that are written -/
theorem RpD.snoc : ∀ {ds : List (PyData × PyData)} {es : List (Key × V)} {k d : PyData} {x : Key} {v : V}, RpD K G ds es → kD x = k → Rp K G d v → RpD K G (ds ++ [(k, d)]) (es ++ [(x, v)])
  | [], es, k, d, x, v, h, hk, r => by
    rw [show es = [] from h]
    exact ⟨x, v, [], rfl, hk, r, rfl⟩
  | (k', d') :: ds, _, k, d, x, v, ⟨x', y', t, h1, h2, h3, h4⟩, hk, r => by
    rw [h1]
    exact ⟨x', y', _, rfl, h2, h3, h4.snoc hk r⟩
theorem s_dput {es : List (Key × V)} {x : Str} (hi : σ[i]? = some (some (.ref p))) (hp : M p = some (.dK es)) (hv : TrD K te σ G d) (hx : TrD K ty σ G (.str x)) (hn : es.length < 100000) (A : At G M H)
    (k : ∀ v G' H', Ex G G' → At G' (upd M p (.dK (putK es (Sum.inr x) v))) H' → Rp K G' d v → D.nx σ H') : sDPut (tVar i) ty te D σ H := by
  refine w_D hv A fun v G1 H1 e1 A1 r1 => ⟨.ref p, hi, ?_⟩
  refine w_D (hx.up e1) A1 fun y G2 H2 e2 A2 r2 => ?_
  refine ⟨p, _, rfl, ?_, k v G2 _ (e1.trans e2) (A2.wr hp) (r1.up e2)⟩
  rw [show y = kV (Sum.inr x) from r2]
  exact DPut.k (A2.m _ _ hp) (sz_lt hn)
/-! ### loops by an invariant over slots, G and M -/
theorem s_forEI (Inv : Nat → L2.St → Hp → Hp → Prop) (h : TrD K te σ G (.list ds)) (A : At G M H) (mono : ∀ {k : Nat} {σ1 : L2.St} {G1 G2 M1 : Hp}, Ex G1 G2 → Inv k σ1 G1 M1 → Inv k σ1 G2 M1)
    (h0 : Inv 0 σ G M)
    (hb : ∀ (k : Nat) d, ds[k]? = some d → ∀ x σ1 G1 M1 H1, Ex G G1 → At G1 M1 H1 → Inv k σ1 G1 M1 → Rp K G1 d x → ∀ Nx : L2.St → Hp → Prop, (∀ σ2 G2 M2 H2, Ex G1 G2 → At G2 M2 H2 → Inv (k + 1) σ2 G2 M2 → Nx σ2 H2) →
      tbd { D with nx := Nx, ct := Nx, bk := D.nx } ((σ1.set i (some (.int k))).set j (some x)) H1)
    (hd : ∀ σ1 G1 M1 H1, Ex G G1 → At G1 M1 H1 → Inv ds.length σ1 G1 M1 → D.nx σ1 H1) :
    tFor (iEnum K (tCons te tNil)) (gTup K 2 (gCons (gName i) (gCons (gName j) gNil))) tbd D σ H := by
  refine w_D h A fun v G2 H2 e2 A2 r => ?_
  obtain ⟨a, xs, rfl, k1, k2⟩ := r
  refine ⟨a, xs, rfl, SqL.of (A2.g _ _ k1), ?_⟩
  refine ⟨fun t m σ' H' => m = xs.length - t ∧ t ≤ xs.length ∧ ∃ G3 M3, Ex G2 G3 ∧ At G3 M3 H' ∧ Inv t σ' G3 M3, ⟨xs.length, by simp, Nat.zero_le _, G2, M, Ex.refl _, A2, mono e2 h0⟩, ?_⟩
  rintro t m σ' H' ⟨rfl, ht, G3, M3, e3, A3, hI⟩
  have hsq : SqL K H' a xs := SqL.of (A3.g _ _ (e3 _ _ k1))
  by_cases hlt : t < xs.length
  · have hx : xs[t]? = some xs[t] := List.getElem?_eq_getElem hlt
    obtain ⟨d, hd1, rd⟩ := k2.get hx
    refine .inr ⟨⟨xs, xs[t], hsq, hx⟩, fun σ' H' => ∃ G3 M3, Ex G2 G3 ∧ At G3 M3 H' ∧ Inv (t + 1) σ' G3 M3, fun σ2 H3 z => ⟨xs.length - (t + 1), by omega, rfl, hlt, z⟩, ?_⟩
    rintro x H4 ⟨T, y, rfl, hT, rfl, hy⟩
    have ey : y = xs[t] := Option.some.inj ((hy xs hsq).symm.trans hx)
    subst ey
    have A4 := A3.ng (o := HO.tup [.int t, xs[t]]) hT
    have e4 : Ex G3 (upd G3 T (.tup [.int t, xs[t]])) := Ex.new (A3.gNone hT)
    refine ⟨T, [.int t, xs[t]], rfl, SqT.of upd_same, rfl, .int t, [xs[t]], rfl, xs[t], [], rfl, rfl, ?_⟩
    refine hb t d hd1 _ _ _ _ _ ((e2.trans e3).trans e4) A4 (mono e4 hI) (rd.up (e3.trans e4)) _ fun σ5 G5 M5 H5 e5 A5 i5 => ?_
    exact ⟨G5, M5, (e3.trans e4).trans e5, A5, i5⟩
  · have et : t = ds.length := by have := k2.len; omega
    subst et
    refine .inl ⟨⟨xs, hsq, by omega⟩, ?_⟩
    exact hd σ' G3 M3 H' (e2.trans e3) A3 hI
theorem s_forLI (Inv : Nat → L2.St → Hp → Hp → Prop) (h : TrD K te σ G (.list ds)) (A : At G M H) (mono : ∀ {k : Nat} {σ1 : L2.St} {G1 G2 M1 : Hp}, Ex G1 G2 → Inv k σ1 G1 M1 → Inv k σ1 G2 M1)
    (h0 : Inv 0 σ G M)
    (hb : ∀ (k : Nat) d, ds[k]? = some d → ∀ x σ1 G1 M1 H1, Ex G G1 → At G1 M1 H1 → Inv k σ1 G1 M1 → Rp K G1 d x → ∀ Nx : L2.St → Hp → Prop, (∀ σ2 G2 M2 H2, Ex G1 G2 → At G2 M2 H2 → Inv (k + 1) σ2 G2 M2 → Nx σ2 H2) →
      tbd { D with nx := Nx, ct := Nx, bk := D.nx } (σ1.set i (some x)) H1)
    (hd : ∀ σ1 G1 M1 H1, Ex G G1 → At G1 M1 H1 → Inv ds.length σ1 G1 M1 → D.nx σ1 H1) :
    tFor (iList K te) (gName i) tbd D σ H := by
  refine w_D h A fun v G2 H2 e2 A2 r => ?_
  obtain ⟨a, xs, rfl, k1, k2⟩ := r
  refine ⟨a, rfl, ⟨xs, SqL.of (A2.g _ _ k1)⟩, ?_⟩
  refine for_list (K := K) (a := a) (xs := xs) (fun t σ' H' => ∃ G3 M3, Ex G2 G3 ∧ At G3 M3 H' ∧ Inv t σ' G3 M3) ⟨G2, M, Ex.refl _, A2, mono e2 h0⟩ ?_ ?_ ?_
  · rintro t σ' H' _ ⟨G3, M3, e3, A3, _⟩
    exact SqL.of (A3.g _ _ (e3 _ _ k1))
  · rintro t x σ' H' hx ⟨G3, M3, e3, A3, hI⟩
    obtain ⟨d, hd1, rd⟩ := k2.get hx
    exact hb t d hd1 _ _ _ _ _ (e2.trans e3) A3 hI (rd.up e3) _ fun σ5 G5 M5 H5 e5 A5 i5 => ⟨G5, M5, e3.trans e5, A5, i5⟩
  · rintro σ' H' ⟨G3, M3, e3, A3, hI⟩
    rw [k2.len] at hI
    exact hd σ' G3 M3 H' (e2.trans e3) A3 hI
theorem s_forRI (Inv : Nat → L2.St → Hp → Hp → Prop) {n : Int} (h : TrD K te σ G (.int n)) (hn : n < 2 ^ 62) (hn0 : -(2 ^ 62) ≤ n) (A : At G M H) (mono : ∀ {k : Nat} {σ1 : L2.St} {G1 G2 M1 : Hp}, Ex G1 G2 → Inv k σ1 G1 M1 → Inv k σ1 G2 M1)
    (h0 : Inv 0 σ G M)
    (hb : ∀ (k : Nat), (k : Int) < n → ∀ σ1 G1 M1 H1, Ex G G1 → At G1 M1 H1 → Inv k σ1 G1 M1 → ∀ Nx : L2.St → Hp → Prop, (∀ σ2 G2 M2 H2, Ex G1 G2 → At G2 M2 H2 → Inv (k + 1) σ2 G2 M2 → Nx σ2 H2) →
      tbd { D with nx := Nx, ct := Nx, bk := D.nx } (σ1.set i (some (.int k))) H1)
    (hd : ∀ σ1 G1 M1 H1, Ex G G1 → At G1 M1 H1 → Inv n.toNat σ1 G1 M1 → D.nx σ1 H1) :
    tFor (iRng1 (tCons te tNil)) (gName i) tbd D σ H := by
  refine w_D h A fun v G2 H2 e2 A2 r => ?_
  refine ⟨n, by rw [show v = V.int n from r], hn0, hn, ?_⟩
  refine for_range (lo := 0) (n := n.toNat) (fun t σ' H' => ∃ G3 M3, Ex G2 G3 ∧ At G3 M3 H' ∧ Inv t σ' G3 M3) ⟨G2, M, Ex.refl _, A2, mono e2 h0⟩ ?_ ?_
  · rintro t σ' H' hx ⟨G3, M3, e3, A3, hI⟩
    rw [Int.zero_add]
    exact hb t (by omega) _ _ _ _ (e2.trans e3) A3 hI _ fun σ5 G5 M5 H5 e5 A5 i5 => ⟨G5, M5, e3.trans e5, A5, i5⟩
  · rintro σ' H' ⟨G3, M3, e3, A3, hI⟩
    exact hd σ' G3 M3 H' (e2.trans e3) A3 hI
/-! ### dict comprehensions over data -/
theorem d_dcL {tl tk tv : TE} {p : PyData → Bool} {kf : PyData → Str} {f : PyData → PyData} (hl : TrD K te σ G (.list ds)) (hn : ds.length < 100000) (hnd : ((ds.filter p).map kf).Nodup)
    (ht : ∀ d ∈ ds, ∀ x G1, Ex G G1 → Rp K G1 d x → TrB tt ((wipe σ [i]).set i (some x)) G1 (p d))
    (hk : ∀ d ∈ ds, p d = true → ∀ x G1, Ex G G1 → Rp K G1 d x → TrD K tk ((wipe σ [i]).set i (some x)) G1 (.str (kf d)))
    (he : ∀ d ∈ ds, p d = true → ∀ x G1, Ex G G1 → Rp K G1 d x → TrD K tv ((wipe σ [i]).set i (some x)) G1 (f d)) :
    TrD K (tDc (iList K te) (gName i) tt tk tv [i]) σ G (.dict (keysD ((ds.filter p).map fun d => (kf d, f d)))) := fun G1 M H e A Q q => by
  refine hl G1 M H e A _ fun v G2 H2 e2 A2 r => ?_
  obtain ⟨a, xs, rfl, hs, hx⟩ := r
  refine ⟨a, rfl, ⟨xs, SqL.of (A2.g _ _ hs)⟩, fun D hD => ?_⟩
  refine ⟨fun t m H3 => m = xs.length - t ∧ t ≤ xs.length ∧ ∃ Gj acc, Ex G2 Gj ∧ At Gj (upd M D (.dK acc)) H3 ∧ RpD K Gj (keysD (((ds.take t).filter p).map fun d => (kf d, f d))) acc, ⟨xs.length, by simp, Nat.zero_le _, G2, [], Ex.refl _, A2.nm hD, rfl⟩, ?_⟩
  rintro t m H3 ⟨rfl, ht', Gj, acc, ej, Aj, rj⟩
  have hsq : SqL K H3 a xs := SqL.of (Aj.g _ _ (ej _ _ hs))
  by_cases hlt : t < xs.length
  · have hxt : xs[t]? = some xs[t] := List.getElem?_eq_getElem hlt
    obtain ⟨d, hd, rd⟩ := hx.get hxt
    have hm : d ∈ ds := List.mem_of_getElem? hd
    have htk : ds.take (t + 1) = ds.take t ++ [d] := by rw [List.take_add_one, hd]; rfl
    refine .inr ⟨⟨xs, xs[t], hsq, hxt⟩, fun H4 => ∃ Gj acc, Ex G2 Gj ∧ At Gj (upd M D (.dK acc)) H4 ∧ RpD K Gj (keysD (((ds.take (t + 1)).filter p).map fun d => (kf d, f d))) acc, fun H4 z => ⟨xs.length - (t + 1), by omega, rfl, hlt, z⟩, ?_⟩
    rintro y H4 ⟨e4', hy⟩
    subst e4'
    have ey : y = xs[t] := Option.some.inj ((hy xs hsq).symm.trans hxt)
    subst ey
    show wipe _ _ = wipe _ _ ∧ _
    refine ⟨wipe_set, ?_⟩
    refine ht d hm _ Gj ((e.trans e2).trans ej) (rd.up ej) Gj _ _ (Ex.refl _) Aj _ fun G4 H4 e4 A4 => ?_
    cases hp : p d with
    | false =>
      refine ⟨G4, acc, ej.trans e4, A4, ?_⟩
      rw [htk, List.filter_append, List.filter_cons, hp]
      simpa using rj.up e4
    | true =>
      refine hk d hm hp _ G4 ((e.trans e2).trans (ej.trans e4)) (rd.up (ej.trans e4)) G4 _ H4 (Ex.refl _) A4 _ fun v5 G5 H5 e5 A5 r5 => ?_
      refine he d hm hp _ G5 ((e.trans e2).trans ((ej.trans e4).trans e5)) (rd.up ((ej.trans e4).trans e5)) G5 _ H5 (Ex.refl _) A5 _ fun v6 G6 H6 e6 A6 r6 => ?_
      have hln : acc.length < 100000 := by
        rw [rj.len, keysD_len, List.length_map]
        refine Nat.lt_of_le_of_lt (Nat.le_trans (List.length_filter_le _ _) ?_) hn
        rw [List.length_take]
        exact Nat.min_le_right _ _
      have hfresh : valV acc (Sum.inr (kf d)) = none := by
        refine (RpD.val (x := kf d) rj).2 ?_
        unfold lookD
        rw [Option.map_eq_none_iff, List.find?_eq_none]
        intro q hq hqd
        obtain ⟨d2, hd2, rfl⟩ := List.mem_map.mp hq
        have hqe : kf d2 = kf d := of_decide_eq_true hqd
        have split : (ds.filter p).map kf = ((ds.take t).filter p).map kf ++ kf d :: ((ds.drop (t + 1)).filter p).map kf := by
          have e1 : ds = ds.take t ++ d :: ds.drop (t + 1) := by
            have z := List.take_append_drop (t + 1) ds
            rw [htk, List.append_assoc] at z
            exact z.symm
          conv => lhs; rw [e1]
          rw [List.filter_append, List.filter_cons, if_pos hp, List.map_append, List.map_cons]
        rw [split] at hnd
        have z := (List.nodup_append.mp hnd).2.2 (kf d2) (List.mem_map.mpr ⟨d2, hd2, rfl⟩) (kf d) (List.mem_cons_self ..)
        exact z hqe
      refine ⟨acc, Sum.inr (kf d), r5, A6.m _ _ upd_same, sz_lt hln, G6, acc ++ [(Sum.inr (kf d), v6)], ((ej.trans e4).trans e5).trans e6, ?_, ?_⟩
      · have z := A6.wr (o := .dK (putK acc (Sum.inr (kf d)) v6)) (upd_same (H := M) (a := D) (o := .dK acc))
        rw [upd_upd, putK_new _ hfresh] at z
        rw [putK_new _ hfresh]
        exact z
      · rw [htk, List.filter_append, List.filter_cons, hp, List.map_append]
        unfold keysD
        rw [List.map_append]
        exact (rj.up ((e4.trans e5).trans e6)).snoc rfl r6
  · have e1 : t = xs.length := by omega
    subst e1
    have hl2 : ds.take xs.length = ds := by rw [hx.len, List.take_length]
    rw [hl2] at rj
    have hM : M D = none := A2.mNone hD
    have hm := upd_same (H := M) (a := D) (o := HO.dK acc)
    exact .inl ⟨⟨xs, hsq, Nat.le_refl _⟩, q _ _ _ ((e2.trans ej).trans (Aj.frzG hm)) (Aj.frz hm (Ex.new hM) hM) ⟨D, acc, rfl, upd_same, rj.up (Aj.frzG hm)⟩⟩
/-- a dict that is no longer written -/
theorem At.doneD {es : List (Key × V)} {kvs : List (PyData × PyData)} (A : At G (upd M p (.dK es)) H) (hM : M p = none) (r : RpD K G kvs es) : ∃ G', Ex G G' ∧ At G' M H ∧ Rp K G' (.dict kvs) (.ref p) :=
  have hm := upd_same (H := M) (a := p) (o := HO.dK es)
  ⟨_, A.frzG hm, A.frz hm (Ex.new hM) hM, p, es, rfl, upd_same, r.up (A.frzG hm)⟩
theorem d_get2 {tx ty2 : TE} {x : Str} {kvs : List (Str × PyData)} (h : TrD K te σ G (.dict (keysD kvs))) (hx : TrD K tx σ G (.str x)) (hy : TrD K ty2 σ G d1) (hl : lookD kvs x = some d ∨ (lookD kvs x = none ∧ d = d1)) : TrD K (tDGet2 te tx ty2) σ G d := fun G1 M H e A Q q => by
  refine h G1 M H e A _ fun v G2 H2 e2 A2 r => ?_
  obtain ⟨a, xs, rfl, k1, k2⟩ := r
  refine ⟨a, rfl, .inl ⟨xs, .inl (A2.g _ _ k1)⟩, ?_⟩
  refine hx G2 M H2 (e.trans e2) A2 _ fun w G3 H3 e3 A3 r3 => ?_
  refine hy G3 M H3 ((e.trans e2).trans e3) A3 _ fun z G4 H4 e4 A4 r4 => ?_
  have hv := RpD.val (x := x) k2
  refine ⟨valV xs (Sum.inr x), ?_, ?_⟩
  · rw [show w = kV (Sum.inr x) from r3]
    exact DGet.k (A4.g _ _ ((e3.trans e4) _ _ k1))
  · rcases hl with hl | ⟨hl, rfl⟩
    · obtain ⟨y, e5, r5⟩ := hv.1 d hl
      rw [e5]
      exact (q.mono ((e2.trans e3).trans e4)).here A4 (r5.up (e3.trans e4))
    · rw [hv.2 hl]
      exact (q.mono ((e2.trans e3).trans e4)).here A4 r4
end
end Sb

namespace Sb
open PySem PySem.Spec PyProof.Rows L2
section
variable {X : Cx}
/-- name = {k: v for ..} on one line, the name a local of the def -/
theorem ps_setDc {i : Nat} {y : Str} {py : Pos} {kx vx tg iter : Expr} {ifs : List Expr} {scope : Scope} {own : List (Str × Nat)} {pos spos : Pos} {wi : TI} {g : TG} {tt : TT} {tk tv : TE}
    (hc : X.calm = true) (hN : X.N.Nodup) (hy : X.N[i]? = some y) (hyl : X.env.scope.names.lookup y = some .local)
    (hsw : swapsWith (.DictComp kx vx [⟨tg, iter, ifs, 0⟩] scope pos) (some (.Name y py)) spos.line X.env = pure true) (hi : PI X tg iter wi) (ok : BlkOk X.N X.env.scope scope own)
    (hg : ∀ s H C cl fp, PG (X.blk s H scope (compEnvC scope cl C X.env) fp) tg g) (ht : ∀ s H C cl fp, PTs (X.blk s H scope (compEnvC scope cl C X.env) fp) ifs tt)
    (hk : ∀ s H C cl fp, PE (X.blk s H scope (compEnvC scope cl C X.env) fp) kx tk) (he : ∀ s H C cl fp, PE (X.blk s H scope (compEnvC scope cl C X.env) fp) vx tv)
    (hs : ∀ x, foldedSetIterable iter X.env x = pure x := by intro _; rfl) :
    PS X (.Assign [.Name y py] (.DictComp kx vx [⟨tg, iter, ifs, 0⟩] scope pos) spos) (tAsg (tDc wi g tt tk tv (own.map (·.2))) (gName i)) := by
  constructor
  intro pins s σ H D I h
  have h' : tDc wi g tt tk tv (own.map (·.2)) σ H (fun x H1 => gName i x σ H1 D.nx) := h
  rw [exec_Assign_Name_used _ _ _ _ hsw]
  apply wpAny_bind
  apply wpAny_standAt
  apply wpAny_bind
  show wpAny _ X.A (do let _ ← comprehension (.DictComp kx vx [⟨tg, iter, ifs, 0⟩] scope pos) scope X.env (firstIterPos [⟨tg, iter, ifs, 0⟩] pos) newDict false (eval iter X.env) (some (assign (.Name y py) X.env))) _ _ s
  apply wpAny_bind
  refine thn (dc_core (Qf := fun _ s' => SP X pins D .next s') hc hN I hi ok hg ht hk he hs h' ?_) fun _ s' hq => wpAny_pure (wpAny_pure hq)
  rintro L C s' m H' I' q hn ⟨f0, f1, f2, f3, f4, f5⟩
  show wpAny _ _ (assign (.Name y py) X.env (.ref L)) _ _ _
  apply wpAny_assign_Name
  refine store_ok2 (v := V.ref L) I' hN hy (.inl hyl) rfl ?_ (.inr hyl)
  rintro s2 I2 ⟨a, sb, ha⟩
  have hne : C ≠ a := by
    rcases ha with z | z
    · rw [z]; exact f1
    · exact fun e => f4 y a z e.symm
  refine ⟨m, hn.sameBut sb hne, ?_⟩
  intro h3 sb3
  exact ⟨_, H', I2.turned (t' := s2.toks) (fun b o hb e => (sb3.2 b hb).trans e) f0 f1 f3 f4 f5, q⟩
theorem sw_trueD {kx vx : Expr} {gs : List Comprehension} {scope : Scope} {pos py : Pos} {y : Str} {l : Nat} {env : Env} (hk : env.scope.kind = .function) (hy : env.scope.names.lookup y = some .local) (hl : (py.line == pos.line) = true)
    (ha : (scope.names.any fun (n, k) => n == y && (k == .local || k == .cell)) = false) : swapsWith (.DictComp kx vx gs scope pos) (some (.Name y py)) l env = pure true := by
  have k1 : env.kindOf y = some .local := hy
  have k2 : env.blockKind = .function := by
    unfold Env.blockKind
    rw [hk]
    rfl
  unfold swapsWith
  simp only [k2, k1, ha, Expr.pos, hl]
  rfl
end
end Sb

namespace Sb
open PySem PySem.Spec PyProof.Rows L2
section
variable {K : PySem.W.Frag} {σ : L2.St} {G G' M M0 M1 H : Hp} {ta tb te tc : TE} {d d1 d2 d3 : PyData} {tt t u : TT} {ts : TA} {ds es : List PyData} {Q : VK} {D : Ends} {s1 s2 : TS} {i j n m n' : Nat} {r p : Addr} {o : HO}
/-! ### a reel: a list of three numbers that draws write -/
def Same (r : Addr) (M M' : Hp) : Prop := ∀ x, x ≠ r → M' x = M x
theorem Same.refl : Same r M M := fun _ _ => rfl
theorem Same.trans (a : Same r M M0) (b : Same r M0 M1) : Same r M M1 := fun x h => (b x h).trans (a x h)
def RL (r : Addr) (n : Nat) (M : Hp) : Prop := ∃ a b : Int, ∃ c : Nat, M r = some (.lst [.int a, .int b, .int c]) ∧ 0 ≤ b ∧ b < 10 ^ 43 ∧ c ≤ n
theorem RL.le (h : RL r n M) (e : n ≤ m) : RL r m M := by
  obtain ⟨a, b, c, h1, h2, h3, h4⟩ := h
  exact ⟨a, b, c, h1, h2, h3, Nat.le_trans h4 e⟩
theorem RL.ne (h : RL r n M) (e : M p = none) : p ≠ r := fun z => by
  obtain ⟨a, b, c, h1, _⟩ := h
  rw [← z, e] at h1
  cases h1
theorem RL.upd (h : RL r n M) (e : p ≠ r) : RL r n (L2.upd M p o) := by
  obtain ⟨a, b, c, h1, h2⟩ := h
  exact ⟨a, b, c, by rw [upd_ne (Ne.symm e)]; exact h1, h2⟩
theorem cut_eq (h : M p = some o) : upd (cutG M p) p o = M := by
  funext x
  by_cases e : x = p
  · subst e
    rw [upd_same, h]
  · rw [upd_ne e]
    exact if_neg e
theorem cut_none : cutG M p p = none := if_pos rfl
theorem same_cut : Same r (cutG M r) M := fun x h => (if_neg h).symm
theorem same_upd : Same r M (upd M r o) := fun x h => upd_ne h
def TrE (K : PySem.W.Frag) (r : Addr) (M0 : Hp) (te : TE) (σ : L2.St) (G : Hp) (n n' : Nat) (Φ : PyData → Prop) : Prop := ∀ G1 M H, Ex G G1 → At G1 M H → Same r M0 M → RL r n M → ∀ Q : VK,
  (∀ d v G' M' H', Ex G1 G' → At G' M' H' → Same r M0 M' → RL r n' M' → Φ d → Rp K G' d v → Q v H') → te σ H Q
def TrEA (K : PySem.W.Frag) (r : Addr) (M0 : Hp) (ts : TA) (σ : L2.St) (G : Hp) (n n' : Nat) (Φ : List PyData → Prop) : Prop := ∀ G1 M H, Ex G G1 → At G1 M H → Same r M0 M → RL r n M → ∀ Q : List V → Hp → Prop,
  (∀ ds vs G' M' H', Ex G1 G' → At G' M' H' → Same r M0 M' → RL r n' M' → Φ ds → RpL K G' ds vs → Q vs H') → ts σ H Q
variable {Φ Φ1 Φ2 Φ3 : PyData → Prop} {Ψ Ψ1 : List PyData → Prop}
theorem e_D (h : TrD K te σ G d) (hd : Φ d) : TrE K r M0 te σ G n n Φ := fun G1 M H e A S R Q q => h G1 M H e A Q fun v G2 H2 e2 A2 rv => q d v G2 M H2 e2 A2 S R hd rv
theorem TrE.up (e : Ex G G') (h : TrE K r M0 te σ G n n' Φ) : TrE K r M0 te σ G' n n' Φ := fun G1 M H e1 A S R Q q => h G1 M H (e.trans e1) A S R Q q
theorem TrE.imp (h : TrE K r M0 te σ G n n' Φ) (hi : ∀ d, Φ d → Φ1 d) : TrE K r M0 te σ G n n' Φ1 := fun G1 M H e1 A S R Q q => h G1 M H e1 A S R Q fun d v G' M' H' e A S R hd => q d v G' M' H' e A S R (hi d hd)
theorem TrE.le (h : TrE K r M0 te σ G n n' Φ) (hi : n' ≤ m) : TrE K r M0 te σ G n m Φ := fun G1 M H e1 A S R Q q => h G1 M H e1 A S R Q fun d v G' M' H' e A S R hd => q d v G' M' H' e A S (R.le hi) hd
theorem ea_nil (h : Ψ []) : TrEA K r M0 tNil σ G n n Ψ := fun G1 M H e A S R Q q => q [] [] G1 M H (Ex.refl _) A S R h rfl
theorem ea_cons (ha : TrE K r M0 ta σ G n m Φ) (hr : ∀ d, Φ d → TrEA K r M0 ts σ G m n' fun ds => Ψ (d :: ds)) : TrEA K r M0 (tCons ta ts) σ G n n' Ψ := fun G1 M H e A S R Q q => by
  refine ha G1 M H e A S R _ fun d v G2 M2 H2 e2 A2 S2 R2 hd rv => ?_
  refine hr d hd G2 M2 H2 (e.trans e2) A2 S2 R2 _ fun ds vs G3 M3 H3 e3 A3 S3 R3 hds rvs => ?_
  exact q (d :: ds) (v :: vs) G3 M3 H3 (e2.trans e3) A3 S3 R3 hds ⟨v, vs, rfl, rv.up e3, rvs⟩
theorem ea_A (h : TrA K ts σ G ds) (hd : Ψ ds) : TrEA K r M0 ts σ G n n Ψ := fun G1 M H e A S R Q q => h G1 M H e A Q fun vs G2 H2 e2 A2 rv => q ds vs G2 M H2 e2 A2 S R hd rv
theorem e_op {rr : R2} (ha : TrE K r M0 ta σ G n m Φ1) (hb : ∀ d1, Φ1 d1 → TrE K r M0 tb σ G m n' Φ2) (hr : ∀ d1 d2, Φ1 d1 → Φ2 d2 → ∃ d3, RD K rr d1 d2 d3 ∧ Φ d3) : TrE K r M0 (tOp rr ta tb) σ G n n' Φ := fun G1 M H e A S R Q q => by
  refine ha G1 M H e A S R _ fun d v G2 M2 H2 e2 A2 S2 R2 hd rv => ?_
  refine hb d hd G2 M2 H2 (e.trans e2) A2 S2 R2 _ fun d2 v2 G3 M3 H3 e3 A3 S3 R3 hd2 rv2 => ?_
  obtain ⟨d3, h3, p3⟩ := hr d d2 hd hd2
  exact h3 G3 M3 H3 v v2 A3 (rv.up e3) rv2 Q fun v4 G4 H4 e4 A4 r4 => q d3 v4 G4 M3 H4 ((e2.trans e3).trans e4) A4 S3 R3 p3 r4
theorem e_cb {rr : List V → Hp → VK → Prop} (h : TrEA K r M0 ts σ G n n' Ψ) (hr : ∀ ds, Ψ ds → ∃ d, RC K rr ds d ∧ Φ d) : TrE K r M0 (tCB rr ts) σ G n n' Φ := fun G1 M H e A S R Q q => by
  refine h G1 M H e A S R _ fun ds vs G2 M2 H2 e2 A2 S2 R2 hd rv => ?_
  obtain ⟨d, h3, p3⟩ := hr ds hd
  exact h3 G2 M2 H2 vs A2 rv Q fun v4 G4 H4 e4 A4 r4 => q d v4 G4 M2 H4 (e2.trans e4) A4 S2 R2 p3 r4
theorem e_tup (h : TrEA K r M0 ts σ G n n' Ψ) (hr : ∀ ds, Ψ ds → ds.length ≤ 100000 ∧ Φ (.tuple ds)) : TrE K r M0 (tTup ts) σ G n n' Φ := fun G1 M H e A S R Q q => by
  refine h G1 M H e A S R _ fun ds vs G2 M2 H2 e2 A2 S2 R2 hd rv => ?_
  exact (d_tup (ts := fun σ H Q => Q vs H) (σ := σ) (fun G3 M3 H3 e3 A3 Q3 q3 => q3 vs G3 H3 (Ex.refl _) A3 (rv.up e3)) (hr ds hd).1) G2 M2 H2 (Ex.refl _) A2 Q fun v4 G4 H4 e4 A4 r4 => q _ v4 G4 M2 H4 (e2.trans e4) A4 S2 R2 (hr ds hd).2 r4
theorem e_lst (h : TrEA K r M0 ts σ G n n' Ψ) (hr : ∀ ds, Ψ ds → ds.length ≤ 100000 ∧ Φ (.list ds)) : TrE K r M0 (tLst ts) σ G n n' Φ := fun G1 M H e A S R Q q => by
  refine h G1 M H e A S R _ fun ds vs G2 M2 H2 e2 A2 S2 R2 hd rv => ?_
  exact (d_lst (ts := fun σ H Q => Q vs H) (σ := σ) (fun G3 M3 H3 e3 A3 Q3 q3 => q3 vs G3 H3 (Ex.refl _) A3 (rv.up e3)) (hr ds hd).1) G2 M2 H2 (Ex.refl _) A2 Q fun v4 G4 H4 e4 A4 r4 => q _ v4 G4 M2 H4 (e2.trans e4) A4 S2 R2 (hr ds hd).2 r4
theorem e_if {b : Bool} (hc : TrB t σ G b) (h1 : b = true → TrE K r M0 ta σ G n n' Φ) (h2 : b = false → TrE K r M0 tb σ G n n' Φ) : TrE K r M0 (tIf t ta tb) σ G n n' Φ := fun G1 M H e A S R Q q => by
  refine hc G1 M H e A _ fun G2 H2 e2 A2 => ?_
  cases b with
  | true => exact h1 rfl G2 M H2 (e.trans e2) A2 S R Q fun d v G' M' H' e' => q d v G' M' H' (e2.trans e')
  | false => exact h2 rfl G2 M H2 (e.trans e2) A2 S R Q fun d v G' M' H' e' => q d v G' M' H' (e2.trans e')
/-- len(x), x a list that is still written -/
theorem e_len {xs : List V} (hi : σ[i]? = some (some (.ref p))) (hp : M0 p = some (.lst xs)) (hn : p ≠ r) (hd : Φ (.int xs.length)) : TrE K r M0 (tCB (rLen K) (tCons (tVar i) tNil)) σ G n n Φ := fun G1 M H e A S R Q q =>
  ⟨.ref p, hi, V.ref p, xs.length, rfl, .inl ⟨xs, SqL.of (A.m _ _ ((S p hn).trans hp)), rfl⟩, q (.int xs.length) (V.int xs.length) G1 M H (Ex.refl _) A S R hd rfl⟩
/-- x[i], x a list that is still written -/
theorem e_ixM {xs : List V} (hi : σ[i]? = some (some (.ref p))) (hp : M0 p = some (.lst xs)) (hn : p ≠ r) (rx : RpL K G ds xs) (hb : TrE K r M0 tb σ G n n' Φ1) (hr : ∀ d, Φ1 d → ∃ k d', d = .int k ∧ L2.atI ds k = some d' ∧ Φ d') : TrE K r M0 (tOp (rIxL K) (tVar i) tb) σ G n n' Φ := fun G1 M H e A S R Q q => by
  refine ⟨.ref p, hi, ?_⟩
  refine hb G1 M H e A S R _ fun d v G2 M2 H2 e2 A2 S2 R2 hd rv => ?_
  obtain ⟨k, d', rfl, hk, hd'⟩ := hr d hd
  obtain ⟨z, e1, rz⟩ := (rx.up (e.trans e2)).atI hk
  exact ⟨p, xs, k, z, rfl, rv, SqL.of (A2.m _ _ ((S2 p hn).trans hp)), e1, q d' z G2 M2 H2 e2 A2 S2 R2 hd' rz⟩
/-- a def that draws from the reel: the reel its first argument -/
def ESp (K : PySem.W.Frag) (R : List PyData → Nat → (PyData → Prop) → Prop) : Sp := fun vs H Q _ => ∃ r ws G M n k ds Φ, vs = .ref r :: ws ∧ At G M H ∧ RL r n M ∧ RpL K G ds ws ∧ R ds k Φ ∧ n + k ≤ 1000000 ∧
  ∀ d v G' M' H', Ex G G' → At G' M' H' → Same r M M' → RL r (n + k) M' → Φ d → Rp K G' d v → Q v H'
theorem ESp.len {R : List PyData → Nat → (PyData → Prop) → Prop} {n : Nat} (h : ∀ ds k Φ, R ds k Φ → ds.length = n) {vs : List V} {H : Hp} {Q : VK} {E : XK} (hs : ESp K R vs H Q E) : vs.length = n + 1 := by
  obtain ⟨r, ws, G, M, n2, k, ds, Φ, rfl, _, _, hr, hR, _⟩ := hs
  rw [List.length_cons, hr.len, h _ _ _ hR]
theorem e_call {R : List PyData → Nat → (PyData → Prop) → Prop} {E : XK} {k : Nat} (hi : σ[i]? = some (some (.ref r))) (h : TrEA K r M0 ts σ G n m Ψ) (hR : ∀ ds, Ψ ds → R ds k Φ) (hm : m + k ≤ 1000000) : TrE K r M0 (tCall (ESp K R) [] E (tCons (tVar i) ts)) σ G n (m + k) Φ := fun G1 M H e A S Rr Q q => by
  refine ⟨.ref r, hi, ?_⟩
  refine h G1 M H e A S Rr _ fun ds vs G2 M2 H2 e2 A2 S2 R2 hd rv => ?_
  refine ⟨r, vs, G2, M2, m, k, ds, Φ, by rw [List.append_nil], A2, R2, rv, hR ds hd, hm, fun d v G' M' H' e' A' S' R' hd' rv' => ?_⟩
  exact q d v G' M' H' (e2.trans e') A' (S2.trans S') R' hd' rv'
theorem upd_cut : upd (cutG M p) p o = upd M p o := by
  funext x
  by_cases e : x = p
  · subst e
    rw [upd_same, upd_same]
  · rw [upd_ne e, upd_ne e]
    exact if_neg e
/-- [e for x in range(n)], the element draws -/
theorem e_lcR {c : Nat} {step : Nat} {Φ0 : Int → Prop} (hl : TrE K r M0 ta σ G n m fun d => ∃ z : Int, d = .int z ∧ Φ0 z ∧ 0 ≤ z ∧ z ≤ c) (hc : c ≤ 10000)
    (he : ∀ M1 (x : Int) (t : Nat), t < c → TrE K r M1 te ((wipe σ [i]).set i (some (.int x))) G (m + t * step) (m + t * step + step) Φ1)
    (hΦ : ∀ z ds, Φ0 z → (ds.length : Int) = z → (∀ d ∈ ds, Φ1 d) → Φ (.list ds)) :
    TrE K r M0 (tLc (iRng1 (tCons ta tNil)) (gName i) tYes te [i]) σ G n (m + c * step) Φ := fun G1 M H e A S R Q q => by
  refine hl G1 M H e A S R _ fun d v G2 M2 H2 e2 A2 S2 R2 hd rv => ?_
  obtain ⟨z, rfl, hz0, hz1, hz2⟩ := hd
  refine ⟨z, by rw [show v = V.int z from rv], by omega, by omega, fun D hD => ?_⟩
  have hMD : M2 D = none := A2.mNone hD
  refine lc_range (lo := 0) (n := z.toNat) (fun t H3 => ∃ Gj Mj acc dj, Ex G2 Gj ∧ At Gj (upd Mj D (.lst acc)) H3 ∧ Same r M0 Mj ∧ Mj D = none ∧ RL r (m + t * step) Mj ∧ RpL K Gj dj acc ∧ dj.length = t ∧ ∀ d ∈ dj, Φ1 d)
    ⟨G2, M2, [], [], Ex.refl _, A2.nm hD, S2, hMD, by rw [Nat.zero_mul]; exact R2, rfl, rfl, fun _ h => by cases h⟩ ?_ ?_
  · rintro t H3 ht ⟨Gj, Mj, acc, dj, ej, Aj, Sj, hj, Rj, rj, hl2, hall⟩
    have hDr : D ≠ r := Rj.ne hj
    refine ⟨wipe_set, ?_⟩
    refine he (upd Mj D (.lst acc)) (0 + (t : Int)) t (by omega) Gj (upd Mj D (.lst acc)) H3 ((e.trans e2).trans ej) Aj .refl (Rj.upd hDr) _ fun d5 y G5 M5 H5 e5 A5 S5 R5 h5 r5 => ?_
    have hD5 : M5 D = some (.lst acc) := (S5 D hDr).trans upd_same
    refine ⟨acc, A5.m _ _ hD5, ?_, G5, cutG M5 D, acc ++ [y], dj ++ [d5], ej.trans e5, ?_, ?_, cut_none, ?_, (rj.up e5).snoc r5, by rw [List.length_append, hl2]; rfl, ?_⟩
    · rw [rj.len, hl2]
      exact sz_lt (by omega)
    · rw [upd_cut]
      exact A5.wr hD5
    · intro x hx
      by_cases hxD : x = D
      · subst hxD
        rw [cut_none, ← Sj x hx, hj]
      · show (if x = D then none else M5 x) = M0 x
        rw [if_neg hxD, S5 x hx, upd_ne hxD]
        exact Sj x hx
    · obtain ⟨a, b, cc, k1, k2⟩ := R5
      rw [Nat.succ_mul, ← Nat.add_assoc]
      exact ⟨a, b, cc, by show (if r = D then none else M5 r) = _; rw [if_neg (Ne.symm hDr)]; exact k1, k2⟩
    · intro d6 h6
      rcases List.mem_append.mp h6 with h6 | h6
      · exact hall _ h6
      · rw [List.mem_singleton.mp h6]
        exact h5
  · rintro H3 ⟨Gj, Mj, acc, dj, ej, Aj, Sj, hj, Rj, rj, hl2, hall⟩
    have hm := upd_same (H := Mj) (a := D) (o := HO.lst acc)
    refine q (.list dj) (.ref D) _ Mj H3 ((e2.trans ej).trans (Aj.frzG hm)) (Aj.frz hm (Ex.new hj) hj) Sj (Rj.le ?_) (hΦ z dj hz0 (by omega) hall) ⟨D, acc, rfl, upd_same, rj.up (Aj.frzG hm)⟩
    have : z.toNat ≤ c := by omega
    exact Nat.add_le_add_left (Nat.mul_le_mul_right _ this) _
/-! ### statements -/
theorem s_setE (h : TrE K r M0 te σ G n n' Φ) (A : At G M H) (S : Same r M0 M) (R : RL r n M) (k : ∀ d v G' M' H', Ex G G' → At G' M' H' → Same r M0 M' → RL r n' M' → Φ d → Rp K G' d v → D.nx (σ.set i (some v)) H') : tAsg te (gName i) D σ H := h G M H (Ex.refl _) A S R _ k
theorem q_setE (h : TrE K r M0 te σ G n n' Φ) (A : At G M H) (S : Same r M0 M) (R : RL r n M) (k : ∀ d v G' M' H', Ex G G' → At G' M' H' → Same r M0 M' → RL r n' M' → Φ d → Rp K G' d v → s2 D (σ.set i (some v)) H') : tSeq (tAsg te (gName i)) s2 D σ H := h G M H (Ex.refl _) A S R _ k
theorem s_retE (h : TrE K r M0 te σ G n n' Φ) (A : At G M H) (S : Same r M0 M) (R : RL r n M) (k : ∀ d v G' M' H', Ex G G' → At G' M' H' → Same r M0 M' → RL r n' M' → Φ d → Rp K G' d v → D.rt v H') : tRet te D σ H := h G M H (Ex.refl _) A S R _ k
/-! ### a written cell, looked at as data -/
theorem q_setfz (h : TrD K te σ (upd G p o) d) (hf : isFlat d = true) (hG : G p = none) (hM : M p = none) (A : At G (upd M p o) H) (k : ∀ v G' H', Ex G G' → At G' (upd M p o) H' → Rp K G' d v → s2 D (σ.set i (some v)) H') : tSeq (tAsg te (gName i)) s2 D σ H := w_Dfz h hf hG hM A k
theorem s_iffz {b : Bool} (h : TrB t σ (upd G p o) b) (hG : G p = none) (hM : M p = none) (A : At G (upd M p o) H) (k1 : b = true → ∀ G' H', Ex G G' → At G' (upd M p o) H' → s1 D σ H') (k2 : b = false → ∀ G' H', Ex G G' → At G' (upd M p o) H' → s2 D σ H') : tIfS t s1 s2 D σ H := by
  refine w_Bfz h hG hM A fun G' H' e A' => ?_
  cases b with
  | true => exact k1 rfl G' H' e A'
  | false => exact k2 rfl G' H' e A'
theorem q_setIxfz {xs : List V} {j : Nat} {kk : Int} (h : TrD K te σ (upd G p (.lst xs)) d) (hf : isFlat d = true) (hG : G p = none) (hM : M p = none) (A : At G (upd M p (.lst xs)) H) (hi : σ[i]? = some (some (.ref p))) (hj : ixN xs.length kk = some j)
    (k : ∀ v G' H', Ex G G' → At G' (upd M p (.lst (xs.set j v))) H' → Rp K G' d v → s2 D σ H') : tSeq (tAsg te (gSub (tVar i) (tC (.int kk)) rSetL)) s2 D σ H := by
  refine w_Dfz (M := M) h hf hG hM A fun v G1 H1 e1 A1 r1 => ?_
  refine ⟨.ref p, hi, p, xs, kk, j, rfl, rfl, A1.m _ _ upd_same, hj, ?_⟩
  have z := A1.wr (o := .lst (xs.set j v)) (upd_same (H := M) (a := p) (o := .lst xs))
  rw [upd_upd] at z
  exact k v G1 _ e1 z r1
theorem rd_catA {es : List PyData} (hn : ds.length + es.length ≤ 100000) : RD K (rCatA K) (.tuple ds) (.tuple es) (.tuple (ds ++ es)) := fun G M H x y A ⟨a, xs, h1, h2, h3⟩ ⟨b, ys, k1, k2, k3⟩ Q q => by
  refine ⟨a, b, xs, ys, h1, k1, A.g.stt h2, A.g.stt k2, by rw [h3.len, k3.len]; exact sz_of hn, fun hx => ?_, fun hx hy => ?_, fun hx hy p hp => ?_⟩
  · subst hx
    have e : ds = [] := by have := h3.len; cases ds with | nil => rfl | cons _ _ => simp at this
    subst e
    exact q.here A ⟨b, ys, rfl, k2, k3⟩
  · subst hy
    have e : es = [] := by have := k3.len; cases es with | nil => rfl | cons _ _ => simp at this
    subst e
    rw [List.append_nil] at q
    exact q.here A ⟨a, xs, rfl, h2, h3⟩
  · exact q.newG A hp ⟨p, _, rfl, SqT.of upd_same, (h3.app k3).up (Ex.new (A.gNone hp))⟩
theorem d_slA {tl th : TO} {lo hi : Option Int} (h : TrD K te σ G (.tuple ds)) (h1 : TrO tl σ G lo) (h2 : TrO th σ G hi) : TrD K (tSl (rSlA K) te tl th) σ G (.tuple (Sb.cutD ds lo hi)) := fun G1 M H e A Q q => by
  refine h G1 M H e A _ fun v G2 H2 e2 A2 r => ?_
  refine h1 G2 M H2 (e.trans e2) A2 _ fun G3 H3 e3 A3 => ?_
  refine h2 G3 M H3 ((e.trans e2).trans e3) A3 _ fun G4 H4 e4 A4 => ?_
  obtain ⟨a, xs, rfl, k1, k2⟩ := r.up (e3.trans e4)
  refine ⟨a, xs, rfl, A4.g.stt k1, fun hw => ?_, fun hw p hp => ?_⟩
  · refine (q.mono ((e2.trans e3).trans e4)).here A4 ⟨a, xs, rfl, k1, ?_⟩
    rw [k2.len] at hw
    unfold Sb.cutD
    rw [hw.1, hw.2, List.drop_zero, Nat.sub_zero, List.take_length]
    exact k2
  · exact ((q.mono ((e2.trans e3).trans e4))).newG A4 hp ⟨p, _, rfl, SqT.of upd_same, k2.cut.up (Ex.new (A4.gNone hp))⟩
end
end Sb

namespace Sb
open PySem PySem.Spec PyProof.Rows L2
/-! ### == of one and the same data, dicts within -/
def keyS : PyData → Option Str
  | .str x => some x
  | _ => none
def okQ : Nat → PyData → Bool
  | _, .none => true
  | _, .bool _ => true
  | _, .int _ => true
  | _, .str _ => true
  | n + 1, .list ds => ds.all (okQ n)
  | n + 1, .tuple ds => ds.all (okQ n)
  | n + 1, .dict kvs => kvs.all (fun p => okQ n p.2) && kvs.all (fun p => (keyS p.1).isSome) && decide (kvs.map fun p => keyS p.1).Nodup
  | 0, _ => false
def SameD (K : PySem.W.Frag) (G : Hp) (n : Nat) (x y : V) : Prop := ∃ d, okQ n d = true ∧ Rp K G d x ∧ Rp K G d y
theorem same_list {K : PySem.W.Frag} {G : Hp} {n : Nat} : ∀ {ds : List PyData} {xs ys : List V}, ds.all (okQ n) = true → RpL K G ds xs → RpL K G ds ys → Paired (SameD K G n) xs ys
  | [], xs, ys, _, h1, h2 => by
    rw [show xs = [] from h1, show ys = [] from h2]
    exact .nil
  | d :: ds, _, _, ho, ⟨x, r, e1, h1, h2⟩, ⟨y, r', e2, h3, h4⟩ => by
    have ho' := Bool.and_eq_true_iff.mp (by rw [List.all_cons] at ho; exact ho)
    rw [e1, e2]
    exact .cons ⟨d, ho'.1, h1, h3⟩ (same_list ho'.2 h2 h4)
theorem kD_keyS {k : Key} {x : Str} (h : keyS (kD k) = some x) : k = Sum.inr x := by
  cases k with
  | inl i => cases h
  | inr z => cases h; rfl
theorem val_at {K : PySem.W.Frag} {G : Hp} : ∀ {kvs : List (PyData × PyData)} {es : List (Key × V)} {p : PyData × PyData} {x : Str}, RpD K G kvs es → (kvs.map fun p => keyS p.1).Nodup → p ∈ kvs → keyS p.1 = some x → ∃ u, valV es (Sum.inr x) = some u ∧ Rp K G p.2 u
  | [], _, _, _, _, _, h, _ => by cases h
  | (k, d) :: r, _, p, x, ⟨k', y, t, e1, h1, h2, h3⟩, nd, hp, hx => by
    rw [e1]
    have nd' := List.nodup_cons.mp (by rw [List.map_cons] at nd; exact nd)
    rcases List.mem_cons.mp hp with e | hp
    · subst e
      rw [← h1] at hx
      have hk := kD_keyS hx
      subst hk
      refine ⟨y, ?_, h2⟩
      unfold valV
      rw [List.find?_cons]
      simp
    · obtain ⟨u, hu, ru⟩ := val_at h3 nd'.2 hp hx
      refine ⟨u, ?_, ru⟩
      have hne : ¬ k' = Sum.inr x := fun z => by
        subst z
        refine nd'.1 (List.mem_map.mpr ⟨p, hp, ?_⟩)
        rw [hx, ← h1]
        rfl
      unfold valV at hu ⊢
      rw [List.find?_cons, decide_eq_false hne]
      exact hu
theorem ent_of {K : PySem.W.Frag} {G : Hp} : ∀ {kvs : List (PyData × PyData)} {es : List (Key × V)} {q : Key × V}, RpD K G kvs es → q ∈ es → ∃ p ∈ kvs, kD q.1 = p.1 ∧ Rp K G p.2 q.2
  | [], es, q, h, hq => by
    rw [show es = [] from h] at hq
    cases hq
  | (k, d) :: r, _, q, ⟨k', y, t, e1, h1, h2, h3⟩, hq => by
    rw [e1] at hq
    rcases List.mem_cons.mp hq with e | hq
    · subst e
      exact ⟨_, List.mem_cons_self .., h1, h2⟩
    · obtain ⟨p, hp, z⟩ := ent_of h3 hq
      exact ⟨p, List.mem_cons_of_mem _ hp, z⟩
section
variable {X : Cx} {pins : List (Addr × Obj)} {σ : L2.St} {H G : Hp} {s : Shared}
theorem sameD_step (I : Inv X pins σ H s) (g : Ex G H) {n : Nat} {A : Around} (hu : A.units < cLine) (ih : ∀ x y v u, SameD X.K G n x y → RelV x v → RelV y u → SeqAt.EqP X.prog X.w A.in1 s v u true)
    {d : PyData} {x y : V} {v u : Value} (hf : isFlat d = false) (ho : okQ (n + 1) d = true) (h1 : Rp X.K G d x) (h2 : Rp X.K G d y) (rx : RelV x v) (ry : RelV y u) (E Q : Value → Shared → Prop) (q : Q (.bool true) s) : wpAny (model X.prog X.w) A (richCompare .Eq v u) Q E s := by
  cases d with
  | none => cases hf
  | bool _ => cases hf
  | int _ => cases hf
  | str _ => cases hf
  | list ds =>
    obtain ⟨a, xs, rfl, a1, a2⟩ := h1
    obtain ⟨b, ys, rfl, b1, b2⟩ := h2
    have hp := same_list (show ds.all (okQ n) = true from ho) a2 b2
    cases (show v = Value.ref a from rx)
    cases (show u = Value.ref b from ry)
    obtain ⟨us, r1, p1, _⟩ := I.list (SqL.of (g _ _ a1))
    obtain ⟨ws, r2, p2, _⟩ := I.list (SqL.of (g _ _ b1))
    have hsz : us.toArray.size = ws.toArray.size := by
      rw [List.size_toArray, List.size_toArray, ← r1.length, ← r2.length, a2.len, b2.len]
    refine SeqAt.rcP_lists (e := fun _ => true) p1.isList p2.isList hsz hu (fun j k1 k2 => ?_) E Q ?_
    · exact by simpa using items_run ih hp r1 r2 j (by simpa using k1) (by simpa using k2)
    · have e : (List.range us.toArray.size).all (fun _ => true) = true := List.all_eq_true.mpr fun _ _ => rfl
      rw [e]
      exact q
  | tuple ds =>
    obtain ⟨a, xs, rfl, a1, a2⟩ := h1
    obtain ⟨b, ys, rfl, b1, b2⟩ := h2
    have hp := same_list (show ds.all (okQ n) = true from ho) a2 b2
    cases (show v = Value.ref a from rx)
    cases (show u = Value.ref b from ry)
    obtain ⟨us, r1, p1, _⟩ := I.tuple (g.stt a1)
    obtain ⟨ws, r2, p2, _⟩ := I.tuple (g.stt b1)
    have hsz : us.toArray.size = ws.toArray.size := by
      rw [List.size_toArray, List.size_toArray, ← r1.length, ← r2.length, a2.len, b2.len]
    refine GQ.rc_tupG hsz hu (fun _ s' => s' = s) p1 p2 (fun i k1 k2 s' hs => ?_) (fun s' hs => by rw [hs]; exact q) rfl
    subst hs
    have z := items_run ih hp r1 r2 i (by simpa using k1) (by simpa using k2)
    exact (by simpa using z : SeqAt.EqP X.prog X.w A.in1 s' us.toArray[i] ws.toArray[i] true) E _ ⟨rfl, rfl⟩
  | dict kvs =>
    obtain ⟨a, ks, rfl, a1, a2⟩ := h1
    obtain ⟨b, ls, rfl, b1, b2⟩ := h2
    have ho1 : (kvs.all (fun p => okQ n p.2) && kvs.all (fun p => (keyS p.1).isSome) && decide (kvs.map fun p => keyS p.1).Nodup) = true := ho
    obtain ⟨ho2, ho3⟩ := Bool.and_eq_true_iff.mp ho1
    obtain ⟨ho4, ho5⟩ := Bool.and_eq_true_iff.mp ho2
    have nd := of_decide_eq_true ho3
    cases (show v = Value.ref a from rx)
    cases (show u = Value.ref b from ry)
    obtain ⟨_, ya, va, ra, da⟩ := (show ObjOk X.prog X.w H s.heap a (.dK ks) from I.hok a _ (g _ _ a1))
    obtain ⟨_, yb, vb, rb, db⟩ := (show ObjOk X.prog X.w H s.heap b (.dK ls) from I.hok b _ (g _ _ b1))
    refine PySem.W.rcP_dicts (knd := mixKind X.prog X.w) (r := true) ya yb da db hu (fun _ => hits_run ih rb ra fun p hm => ?_) E Q ?_
    · obtain ⟨kv, hkv, e1, r1⟩ := ent_of a2 hm
      have hs := List.all_eq_true.mp ho5 kv hkv
      obtain ⟨x, hx⟩ := Option.isSome_iff_exists.mp hs
      obtain ⟨z, hz, rz⟩ := val_at b2 nd hkv hx
      rw [← e1] at hx
      rw [kD_keyS hx]
      exact ⟨z, hz, kv.2, List.all_eq_true.mp ho4 kv hkv, r1, rz⟩
    · have e : va.length = vb.length := by rw [← ra.length, ← rb.length, a2.len, b2.len]
      rw [show (va.length == vb.length && true) = true from by rw [e]; simp]
      exact q
theorem sameD_run (I : Inv X pins σ H s) (g : Ex G H) : ∀ (n : Nat) (A : Around), A.units + n < cLine → ∀ (x y : V) (v u : Value), SameD X.K G n x y → RelV x v → RelV y u → SeqAt.EqP X.prog X.w A s v u true := by
  intro n
  induction n with
  | zero =>
    rintro A hu x y v u ⟨d, ho, h1, h2⟩ rx ry
    have hf : isFlat d = true := by cases d <;> first | rfl | cases ho
    have e1 := rp_flat hf h1
    have e2 := rp_flat hf h2
    rw [e1.1] at rx
    rw [e2.1] at ry
    exact (eqAt_same rx ry (by cases d <;> first | rfl | cases hf)).eqP
  | succ n ih =>
    rintro A hu x y v u ⟨d, ho, h1, h2⟩ rx ry
    cases hf : isFlat d with
    | true =>
      have e1 := rp_flat hf h1
      have e2 := rp_flat hf h2
      rw [e1.1] at rx
      rw [e2.1] at ry
      exact (eqAt_same rx ry (by cases d <;> first | rfl | cases hf)).eqP
    | false =>
      have step := fun E Q q => sameD_step I g (n := n) (A := A) (by omega) (ih A.in1 (by show A.units + 1 + n < cLine; omega)) hf ho h1 h2 rx ry E Q q
      obtain ⟨a, ea⟩ : ∃ a, x = V.ref a := by
        cases d with
        | none => cases hf
        | bool _ => cases hf
        | int _ => cases hf
        | str _ => cases hf
        | list ds => obtain ⟨a, _, e, _⟩ := h1; exact ⟨a, e⟩
        | tuple ds => obtain ⟨a, _, e, _⟩ := h1; exact ⟨a, e⟩
        | dict ds => obtain ⟨a, _, e, _⟩ := h1; exact ⟨a, e⟩
      obtain ⟨b, eb⟩ : ∃ a, y = V.ref a := by
        cases d with
        | none => cases hf
        | bool _ => cases hf
        | int _ => cases hf
        | str _ => cases hf
        | list ds => obtain ⟨a, _, e, _⟩ := h2; exact ⟨a, e⟩
        | tuple ds => obtain ⟨a, _, e, _⟩ := h2; exact ⟨a, e⟩
        | dict ds => obtain ⟨a, _, e, _⟩ := h2; exact ⟨a, e⟩
      subst ea eb
      cases (show v = Value.ref a from rx)
      cases (show u = Value.ref b from ry)
      by_cases e : a = b
      · subst e
        exact (SeqAt.EqAt.same _).eqP
      · exact SeqAt.eqP_refs e step
end
section
variable {X : Cx}
/-- a == b, both hold the same data -/
def rEqS (K : PySem.W.Frag) : R2 := fun x y H Q => ∃ G d, Ex G H ∧ okQ 60 d = true ∧ isFlat d = false ∧ Rp K G d x ∧ Rp K G d y ∧ Q (.bl true) H
theorem op_eqS (hu : X.A.units + 64 < cLine) : OpR X (compareOp .Eq) (rEqS X.K) := by
  intro pins s σ H x y v u Q I rx ry h
  obtain ⟨G, d, g, ho, hf, h1, h2, q⟩ := h
  exact sameD_step I g (n := 59) (A := X.A) (by omega) (sameD_run I g 59 X.A.in1 (by show X.A.units + 1 + 59 < cLine; omega)) hf ho h1 h2 rx ry _ _ ⟨.bl true, H, I, rfl, q⟩
end
section
variable {K : PySem.W.Frag} {σ : L2.St} {G G' M H : Hp} {ta tb te : TE} {d d1 d2 d3 : PyData} {ds es : List PyData}
theorem rd_eqSame (ho : okQ 60 d = true) (hf : isFlat d = false) : RD K (rEqS K) d d (.bool true) := fun G M H x y A h1 h2 Q q => ⟨G, d, A.g, ho, hf, h1, h2, q.here A rfl⟩
theorem rd_repT {k : Int} (h0 : ds ≠ []) (h1 : 2 ≤ k) (h2 : k ≤ 1000) (h3 : ds.length ≤ 1000) : RD K (rRepT K) (.tuple ds) (.int k) (.tuple (List.replicate k.toNat ds).flatten) := fun G M H x y A ⟨a, xs, e1, r1, r2⟩ hy Q q => by
  refine ⟨a, k, xs, e1, hy, A.g.stt r1, fun z => h0 ?_, h1, h2, by rw [r2.len]; exact h3, fun p hp => q.newG A hp ⟨p, _, rfl, SqT.of upd_same, ?_⟩⟩
  · have := r2.len
    rw [z] at this
    cases ds with
    | nil => rfl
    | cons _ _ => simp at this
  · have r3 := r2.up (Ex.new (A.gNone hp) (o := .tup (List.replicate k.toNat xs).flatten))
    have all : ∀ n, RpL K (upd G p (.tup (List.replicate k.toNat xs).flatten)) (List.replicate n ds).flatten (List.replicate n xs).flatten := fun n => by
      induction n with
      | zero => exact rfl
      | succ n ih =>
        rw [List.replicate_succ, List.replicate_succ, List.flatten_cons, List.flatten_cons]
        exact r3.app ih
    exact all _
/-! ### dict displays -/
def TrP (K : PySem.W.Frag) (trs : List (TE × TE)) (σ : L2.St) (G : Hp) (kvs : List (Str × PyData)) : Prop := ∀ G1 M H, Ex G G1 → At G1 M H → ∀ Q : List (V × V) → Hp → Prop,
  (∀ es G' H', Ex G1 G' → At G' M H' → RpD K G' (keysD kvs) es → Q (es.map fun kv => (kV kv.1, kv.2)) H') → tPairs trs σ H Q
theorem p_nil : TrP K [] σ G [] := fun G1 M H e A Q q => q [] G1 H (Ex.refl _) A rfl
theorem p_cons {x : Str} {kvs : List (Str × PyData)} {trs : List (TE × TE)} (hk : TrD K ta σ G (.str x)) (hv : TrD K tb σ G d) (hr : TrP K trs σ G kvs) : TrP K ((ta, tb) :: trs) σ G ((x, d) :: kvs) := fun G1 M H e A Q q => by
  refine hk G1 M H e A _ fun v G2 H2 e2 A2 r2 => ?_
  refine hv G2 M H2 (e.trans e2) A2 _ fun w G3 H3 e3 A3 r3 => ?_
  refine hr G3 M H3 ((e.trans e2).trans e3) A3 _ fun es G4 H4 e4 A4 r4 => ?_
  have z := q ((Sum.inr x, w) :: es) G4 H4 ((e2.trans e3).trans e4) A4 ⟨Sum.inr x, w, es, rfl, rfl, r3.up e4, r4⟩
  rw [show v = V.str x from r2]
  exact z
theorem merge_new : ∀ {es acc : List (Key × V)}, ((acc ++ es).map (·.1)).Nodup → mergeK acc es = acc ++ es
  | [], acc, _ => (List.append_nil acc).symm
  | (k, v) :: es, acc, h => by
    have hn : valV acc k = none := by
      unfold valV
      rw [Option.map_eq_none_iff, List.find?_eq_none]
      intro q hq hqk
      have e : q.1 = k := of_decide_eq_true hqk
      rw [List.map_append, List.map_cons] at h
      exact (List.nodup_append.mp h).2.2 q.1 (List.mem_map.mpr ⟨q, hq, rfl⟩) k (List.mem_cons_self ..) e
    show mergeK (putK acc k v) es = _
    rw [putK_new _ hn, merge_new (by rw [List.append_assoc]; exact h), List.append_assoc]
    rfl
theorem keys_nodup {kvs : List (Str × PyData)} {es : List (Key × V)} (r : RpD K G (keysD kvs) es) (h : (kvs.map (·.1)).Nodup) : (es.map (·.1)).Nodup := by
  rw [r.keys]
  exact h.map _ (fun a b hab => fun e => hab (Sum.inr.inj e))
theorem d_disp {kvs : List (Str × PyData)} {trs : List (TE × TE)} (h : TrP K trs σ G kvs) (hl : kvs.length ≤ 15) (nd : (kvs.map (·.1)).Nodup) : TrD K (tDisp trs) σ G (.dict (keysD kvs)) := fun G1 M H e A Q q p hp => by
  refine h G1 (upd M p (.dK [])) (upd H p (.dK [])) e (A.nm hp) _ fun es G2 H2 e2 A2 r2 => ?_
  refine ⟨A2.m _ _ upd_same, es, rfl, ?_, ?_⟩
  · rw [r2.len, keysD_len]
    exact hl
  · rw [merge_new (by rw [List.nil_append]; exact keys_nodup r2 nd), List.nil_append]
    have A3 := A2.wr (o := .dK es) (upd_same (H := M) (a := p) (o := .dK []))
    rw [upd_upd] at A3
    have hm := upd_same (H := M) (a := p) (o := HO.dK es)
    have hM : M p = none := A.mNone hp
    exact q _ _ _ (e2.trans (A3.frzG hm)) (A3.frz hm (Ex.new hM) hM) ⟨p, es, rfl, upd_same, r2.up (A3.frzG hm)⟩
/-! ### list(d.items()), dict(pairs) -/
def pairD (p : PyData × PyData) : PyData := .tuple [p.1, p.2]
theorem kV_rp {k : Key} : Rp K G (kD k) (kV k) := by cases k <;> exact rfl
theorem items_rp {G3 H' : Hp} : ∀ {kvs : List (PyData × PyData)} {ts : List Addr} {es : List (Key × V)}, Paired (fun (t : Addr) (q : Key × V) => H' t = some (.tup [kV q.1, q.2])) ts es → RpD K G3 kvs es → (∀ t ∈ ts, G3 t = H' t) → RpL K G3 (kvs.map pairD) (ts.map V.ref)
  | [], _, _, hp, h, _ => by
    rw [show _ = [] from h] at hp
    cases hp
    exact rfl
  | (k, d) :: r, _, _, hp, ⟨k', y, t', e, h4, h5, h6⟩, hm => by
    rw [e] at hp
    cases hp with
    | @cons t _ ts _ hk hr =>
      refine ⟨V.ref t, ts.map V.ref, rfl, ⟨t, [kV k', y], rfl, SqT.of ?_, kV k', [y], rfl, ?_, y, [], rfl, h5, rfl⟩, items_rp hr h6 fun u hu => hm u (List.mem_cons_of_mem _ hu)⟩
      · rw [hm t (List.mem_cons_self ..)]
        exact hk
      · show Rp K G3 k (kV k')
        rw [← h4]
        exact kV_rp
theorem d_items {kvs : List (PyData × PyData)} (h : TrD K te σ G (.dict kvs)) : TrD K (LiI.tListItems te) σ G (.list (kvs.map pairD)) := fun G1 M H e A Q q => by
  refine h G1 M H e A _ fun v G2 H2 e2 A2 r => ?_
  obtain ⟨a, es, rfl, h1, h2⟩ := r
  refine ⟨a, es, rfl, A2.g _ _ h1, fun H' p ts hx hp hts hpt hH hpr => ?_⟩
  have inG : Ex G2 (fun b => if b = p ∨ b ∈ ts then H' b else G2 b) := fun b o z => by
    have hb : ¬ (b = p ∨ b ∈ ts) := fun y => by
      have zz := A2.g _ _ z
      rcases y with y | y
      · rw [y, hp] at zz; cases zz
      · rw [hts b y] at zz; cases zz
    show (if b = p ∨ b ∈ ts then H' b else G2 b) = some o
    rw [if_neg hb]
    exact z
  have A3 : At (fun b => if b = p ∨ b ∈ ts then H' b else G2 b) M H' := by
    refine ⟨fun b o z => ?_, fun b o z => hx _ _ (A2.m _ _ z), fun b o z => ?_⟩
    · have z' : (if b = p ∨ b ∈ ts then H' b else G2 b) = some o := z
      by_cases hb : b = p ∨ b ∈ ts
      · rw [if_pos hb] at z'; exact z'
      · rw [if_neg hb] at z'; exact hx _ _ (A2.g _ _ z')
    · have hb : ¬ (b = p ∨ b ∈ ts) := fun y => by
        have zz := A2.m _ _ z
        rcases y with y | y
        · rw [y, hp] at zz; cases zz
        · rw [hts b y] at zz; cases zz
      show (if b = p ∨ b ∈ ts then H' b else G2 b) = none
      rw [if_neg hb]
      exact A2.d _ _ z
  refine q (.ref p) _ H' (e2.trans inG) A3 ⟨p, ts.map V.ref, rfl, by show (if p = p ∨ p ∈ ts then H' p else G2 p) = _; rw [if_pos (.inl rfl)]; exact hH, ?_⟩
  exact items_rp hpr (h2.up inG) fun t ht => if_pos (.inr ht)
theorem pairs_of : ∀ {kvs : List (Str × PyData)} {xs : List V}, RpL K G ((keysD kvs).map pairD) xs → ∃ (ps : List Addr) (es : List (Key × V)), xs = ps.map V.ref ∧ Paired (fun p kv => SqT K G p [kV kv.1, kv.2]) ps es ∧ RpD K G (keysD kvs) es
  | [], xs, h => ⟨[], [], h, .nil, rfl⟩
  | (k, d) :: r, _, ⟨x, xs, e, ⟨a, ys, h1, h2, h3⟩, h4⟩ => by
    obtain ⟨ps, es, h5, h6, h7⟩ := pairs_of h4
    obtain ⟨y, _, rfl, h8, z, _, rfl, h9, rfl⟩ := h3
    rw [e, h1, h5]
    refine ⟨a :: ps, (Sum.inr k, z) :: es, rfl, .cons ?_ h6, ⟨Sum.inr k, z, es, rfl, rfl, h9, h7⟩⟩
    rw [show y = V.str k from h8] at h2
    exact h2
theorem rc_dictP {kvs : List (Str × PyData)} (nd : (kvs.map (·.1)).Nodup) : RC K (fun xs H Q => ∃ (a : Addr) (ps : List Addr) (kvs : List (Key × V)), xs = [.ref a] ∧ SqL K H a (ps.map V.ref) ∧ Paired (fun p kv => SqT K H p [kV kv.1, kv.2]) ps kvs ∧
    ∀ p, H p = none → Q (.ref p) (upd H p (.dK (mergeK [] kvs)))) [.list ((keysD kvs).map pairD)] (.dict (keysD kvs)) := fun G M H xs A ⟨x, r, e, ⟨a, ys, h1, h2, h3⟩, h'⟩ Q q => by
  rw [e, show r = [] from h', h1]
  obtain ⟨ps, es, rfl, h5, h6⟩ := pairs_of h3
  refine ⟨a, ps, es, rfl, SqL.of (A.g _ _ h2), Paired.mono (fun _ _ h => A.g.stt h) h5, fun p hp => ?_⟩
  rw [merge_new (by rw [List.nil_append]; exact keys_nodup h6 nd), List.nil_append]
  exact q.newG A hp ⟨p, es, rfl, upd_same, h6.up (Ex.new (A.gNone hp))⟩
end
end Sb

namespace Sb
open PySem PySem.Spec PyProof.Rows L2
/-! ### how long a repr is -/
mutual
def wS : PyData → Nat
  | .none => 4
  | .bool _ => 5
  | .int _ => 18
  | .str x => 10 * x.length + 2
  | .list xs => 2 + wSA xs
  | .tuple xs => 3 + wSA xs
  | .dict xs => 2 + wSK xs
def wSA : List PyData → Nat
  | [] => 0
  | x :: xs => wS x + 2 + wSA xs
def wSK : List (PyData × PyData) → Nat
  | [] => 0
  | (k, v) :: r => wS k + wS v + 4 + wSK r
end
mutual
def fiS : PyData → Bool
  | .none => true
  | .bool _ => true
  | .int i => decide (0 ≤ i) && decide (i < 1000000000000000000)
  | .str x => x.cps.toList.all (· < 4294967296)
  | .list xs => fiSA xs
  | .tuple xs => fiSA xs
  | .dict xs => fiSK xs
def fiSA : List PyData → Bool
  | [] => true
  | x :: xs => fiS x && fiSA xs
def fiSK : List (PyData × PyData) → Bool
  | [] => true
  | (k, v) :: r => fiS k && fiS v && fiSK r
end
def pil (ts : List Str) : Nat := (ts.map fun t => t.length + 2).sum
theorem join_pil (ts : List Str) : (Str.join ", " ts).length ≤ pil ts := by
  refine Nat.le_trans (StrLaws.join_length_le _ _) ?_
  unfold pil
  induction ts with
  | nil => simp
  | cons t ts ih =>
    rw [List.map_cons, List.map_cons, List.sum_cons, List.sum_cons, List.length_cons, Nat.succ_mul]
    have h : (", " : Str).length = 2 := rfl
    rw [h] at ih ⊢
    omega
theorem from_pil : ∀ (ts : List Str) (k : Nat) (acc : Str), (textFrom k acc ts).length ≤ acc.length + pil ts
  | [], k, acc => by show acc.length ≤ acc.length + 0; omega
  | t :: r, k, acc => by
    have h := from_pil r (k + 1) (acc ++ (if k > 0 then ", " else "" : String) ++ t)
    have h2 : (acc ++ (if k > 0 then ", " else "" : String) ++ t : Str).length ≤ acc.length + 2 + t.length := by
      rw [strLen_append, strLen_append]
      have : (Str.ofString (if k > 0 then ", " else "" : String)).length ≤ 2 := by split <;> decide
      omega
    show (textFrom (k + 1) (acc ++ (if k > 0 then ", " else "" : String) ++ t) r).length ≤ _
    unfold pil at h ⊢
    rw [List.map_cons, List.sum_cons]
    omega
theorem int_len {i : Int} (h0 : 0 ≤ i) (h1 : i < 1000000000000000000) : (Str.ofString (toString i)).length ≤ 18 := by
  obtain ⟨n, rfl⟩ := Int.eq_ofNat_of_zero_le h0
  rw [TL.len_tl, show TL.tl (Str.ofString (toString ((n : Nat) : Int))) = TL.numL n from TL.tl_num n]
  exact TL.numL_len (by decide) (by have : (n : Int) < 1000000000000000000 := h1; omega)
mutual
theorem shown_le : ∀ d : PyData, fiS d = true → d.shown.length ≤ wS d
  | .none, _ => by simp only [PyData.shown, wS]; decide
  | .bool b, _ => by simp only [PyData.shown, wS]; cases b <;> decide
  | .int i, h => by
    simp only [PyData.shown, wS]
    simp only [fiS, Bool.and_eq_true] at h
    exact int_len (of_decide_eq_true h.1) (of_decide_eq_true h.2)
  | .str x, h => by
    simp only [PyData.shown, wS]
    simp only [fiS] at h
    exact StrLaws.reprText_len x fun c hc => of_decide_eq_true (List.all_eq_true.mp h c hc)
  | .list xs, h => by
    simp only [PyData.shown, wS]
    simp only [fiS] at h
    have h1 := shownA_le xs h
    have h2 := from_pil (PyData.shownAll xs) 0 "["
    unfold listText
    rw [strLen_append]
    have h3 : ("[" : Str).length = 1 := rfl
    have h4 : ("]" : Str).length = 1 := rfl
    omega
  | .tuple xs, h => by
    simp only [PyData.shown, wS]
    simp only [fiS] at h
    have h1 := shownA_le xs h
    have h2 := join_pil (PyData.shownAll xs)
    unfold tupleText
    rw [strLen_append, strLen_append]
    have h3 : ("(" : Str).length = 1 := rfl
    have h4 : (Str.ofString (if (PyData.shownAll xs).length == 1 then ",)" else ")" : String)).length ≤ 2 := by split <;> decide
    omega
  | .dict xs, h => by
    simp only [PyData.shown, wS]
    simp only [fiS] at h
    have h1 := shownK_le xs h
    have h2 := join_pil (PyData.shownKv xs)
    unfold dictText
    rw [strLen_append, strLen_append]
    have h3 : ("{" : Str).length = 1 := rfl
    have h4 : ("}" : Str).length = 1 := rfl
    omega
theorem shownA_le : ∀ ds : List PyData, fiSA ds = true → pil (PyData.shownAll ds) ≤ wSA ds
  | [], _ => by simp [PyData.shownAll, wSA, pil]
  | x :: xs, h => by
    simp only [fiSA, Bool.and_eq_true] at h
    have h1 := shown_le x h.1
    have h2 := shownA_le xs h.2
    unfold pil at h2 ⊢
    simp only [PyData.shownAll, wSA, List.map_cons, List.sum_cons]
    omega
theorem shownK_le : ∀ ds : List (PyData × PyData), fiSK ds = true → pil (PyData.shownKv ds) ≤ wSK ds
  | [], _ => by simp [PyData.shownKv, wSK, pil]
  | (k, v) :: xs, h => by
    simp only [fiSK, Bool.and_eq_true] at h
    have h1 := shown_le k h.1.1
    have h0 := shown_le v h.1.2
    have h2 := shownK_le xs h.2
    unfold pil at h2 ⊢
    simp only [PyData.shownKv, wSK, List.map_cons, List.sum_cons]
    rw [strLen_append, strLen_append]
    have h3 : (": " : Str).length = 2 := rfl
    omega
end
section
variable {K : PySem.W.Frag} {σ : L2.St} {G G' M H : Hp} {ta tb te : TE} {d d1 d2 d3 : PyData} {ds es : List PyData} {D : Ends} {s2 : TS} {i j : Nat}
/-- x = a + b of lists: the new list is still to be written -/
theorem q_newCat (ha : TrD K ta σ G (.list ds)) (hb : TrD K tb σ G (.list es)) (hn : ds.length + es.length ≤ 100000) (A : At G M H) (k : ∀ p xs G' H', Ex G G' → M p = none → G' p = none → At G' (upd M p (.lst xs)) H' → RpL K G' (ds ++ es) xs → s2 D (σ.set i (some (.ref p))) H') : tSeq (tAsg (tOp rCat ta tb) (gName i)) s2 D σ H := by
  refine ha G M H (Ex.refl _) A _ fun v G1 H1 e1 A1 r1 => ?_
  refine hb G1 M H1 e1 A1 _ fun w G2 H2 e2 A2 r2 => ?_
  obtain ⟨a, xs, rfl, h1, h2⟩ := r1.up e2
  obtain ⟨b, ys, rfl, k1, k2⟩ := r2
  exact ⟨a, b, xs, ys, rfl, rfl, A2.g _ _ h1, A2.g _ _ k1, by rw [h2.len, k2.len]; exact sz_of hn, fun p hp => k p (xs ++ ys) G2 _ (e1.trans e2) (A2.mNone hp) (A2.gNone hp) (A2.nm hp) (h2.app k2)⟩
theorem q_par (ha : TrD K ta σ G d1) (hb : TrD K tb σ G d2) (A : At G M H) (k : ∀ v w G' H', Ex G G' → At G' M H' → Rp K G' d1 v → Rp K G' d2 w → s2 D ((σ.set i (some v)).set j (some w)) H') : tSeq (tPar i j (tCons ta (tCons tb tNil))) s2 D σ H := by
  refine w_A (a_cons ha (a_cons hb a_nil)) A fun vs G1 H1 e1 A1 r1 => ?_
  obtain ⟨v, _, rfl, h1, w, _, rfl, h2, rfl⟩ := r1
  exact ⟨v, w, rfl, k v w G1 H1 e1 A1 h1 h2⟩
/-- if test: xs.append(e) -/
theorem q_ifAppend {b : Bool} {tc : TT} {p : Addr} {xs : List V} (hc : TrB tc σ G b) (hv : b = true → TrD K te σ G d) (hi : σ[i]? = some (some (.ref p))) (rx : RpL K G ds xs) (hn : ds.length < 100000) (A : At G (upd M p (.lst xs)) H)
    (k : ∀ xs' G' H', Ex G G' → At G' (upd M p (.lst xs')) H' → RpL K G' (if b = true then ds ++ [d] else ds) xs' → s2 D σ H') : tSeq (tIfS tc (tDrop (tBM K "list" rAppend (tVar i) (tCons te tNil))) tNext) s2 D σ H := by
  refine s_seq (s_if hc A (fun hb G1 H1 e1 A1 => ?_) fun hb G1 H1 e1 A1 => ?_)
  · refine s_append hi upd_same ((hv hb).up e1) (by rw [rx.len]; exact hn) A1 fun v G2 H2 e2 A2 r2 => ?_
    rw [upd_upd] at A2
    refine k _ G2 H2 (e1.trans e2) A2 ?_
    rw [if_pos hb]
    exact (rx.up (e1.trans e2)).snoc r2
  · refine k _ G1 H1 e1 A1 ?_
    rw [if_neg (by rw [hb]; decide)]
    exact rx.up e1
end
end Sb

namespace Sb
open PySem PySem.Spec PyProof.Rows L2
section
variable {K : PySem.W.Frag} {σ : L2.St} {G G' M M0 M1 H : Hp} {ta tb te tc : TE} {d d1 d2 d3 : PyData} {tt t u : TT} {ts : TA} {ds es : List PyData} {Q : VK} {D : Ends} {s1 s2 tbd : TS} {i j n m n' : Nat} {r p a : Addr} {o : HO} {Φ Φ1 : PyData → Prop}
/-- what is seen of a statement's end, for all its ways at once -/
theorem q_cut (Post : L2.St → Hp → Prop) (k : ∀ σ H, Post σ H → s2 D σ H) (h : (∀ σ H, Post σ H → s2 D σ H) → s1 { D with nx := s2 D } σ H) : tSeq s1 s2 D σ H := h k
/-! ### the script: a list that the program does not write -/
theorem d_lenQ {xs : List V} (hi : σ[i]? = some (some (.ref a))) (hs : SqL K G a xs) : TrD K (tCB (rLen K) (tCons (tVar i) tNil)) σ G (.int xs.length) := fun G1 M H e A Q q =>
  ⟨.ref a, hi, V.ref a, xs.length, rfl, .inl ⟨xs, (e.trans A.g).sl hs, rfl⟩, q.here A rfl⟩
theorem d_ixQ {ns : List Int} {k z : Int} (hi : σ[i]? = some (some (.ref a))) (hs : SqL K G a (ns.map V.int)) (hb : TrD K tb σ G (.int k)) (hk : L2.atI ns k = some z) : TrD K (tOp (rIxL K) (tVar i) tb) σ G (.int z) := fun G1 M H e A Q q => by
  refine ⟨.ref a, hi, ?_⟩
  refine hb G1 M H e A _ fun v G2 H2 e2 A2 r2 => ?_
  refine ⟨a, ns.map V.int, k, V.int z, rfl, r2, ((e.trans e2).trans A2.g).sl hs, ?_, (q.mono e2).here A2 rfl⟩
  unfold L2.atI at hk ⊢
  rw [List.length_map]
  cases h : ixN ns.length k with
  | none => rw [h] at hk; cases hk
  | some j =>
    rw [h] at hk
    show (ns.map V.int)[j]? = _
    rw [List.getElem?_map, show ns[j]? = some z from hk]
    rfl
theorem d_slQ {ns : List Int} {tl th : TO} {lo hi : Option Int} (hσ : σ[i]? = some (some (.ref a))) (hs : SqL K G a (ns.map V.int)) (h1 : TrO tl σ G lo) (h2 : TrO th σ G hi) : TrD K (tSl (rSlL K) (tVar i) tl th) σ G (.list (Sb.cutD (dInts ns) lo hi)) := fun G1 M H e A Q q => by
  refine ⟨.ref a, hσ, ?_⟩
  refine h1 G1 M H e A _ fun G3 H3 e3 A3 => ?_
  refine h2 G3 M H3 (e.trans e3) A3 _ fun G4 H4 e4 A4 => ?_
  refine ⟨a, ns.map V.int, rfl, (((e.trans e3).trans e4).trans A4.g).sl hs, fun p hp => ?_⟩
  exact ((q.mono (e3.trans e4))).newG A4 hp ⟨p, _, rfl, upd_same, RpL.cut ((rpL_ints ns).mpr rfl)⟩
/-! ### for over a list of data, any target -/
theorem s_forLG {g : TG} (Inv : Nat → L2.St → Hp → Hp → Prop) (h : TrD K te σ G (.list ds)) (A : At G M H) (mono : ∀ {k : Nat} {σ1 : L2.St} {G1 G2 M1 : Hp}, Ex G1 G2 → Inv k σ1 G1 M1 → Inv k σ1 G2 M1)
    (h0 : Inv 0 σ G M)
    (hb : ∀ (k : Nat) d, ds[k]? = some d → ∀ x σ1 G1 M1 H1, Ex G G1 → At G1 M1 H1 → Inv k σ1 G1 M1 → Rp K G1 d x → ∀ Nx : L2.St → Hp → Prop, (∀ σ2 G2 M2 H2, Ex G1 G2 → At G2 M2 H2 → Inv (k + 1) σ2 G2 M2 → Nx σ2 H2) →
      g x σ1 H1 fun σ2 H2 => tbd { D with nx := Nx, ct := Nx, bk := D.nx } σ2 H2)
    (hd : ∀ σ1 G1 M1 H1, Ex G G1 → At G1 M1 H1 → Inv ds.length σ1 G1 M1 → D.nx σ1 H1) :
    tFor (iList K te) g tbd D σ H := by
  refine h G M H (Ex.refl _) A _ fun v G2 H2 e2 A2 r => ?_
  obtain ⟨a, xs, rfl, k1, k2⟩ := r
  refine ⟨a, rfl, ⟨xs, SqL.of (A2.g _ _ k1)⟩, ?_⟩
  refine for_list (K := K) (a := a) (xs := xs) (fun t σ' H' => ∃ G3 M3, Ex G2 G3 ∧ At G3 M3 H' ∧ Inv t σ' G3 M3) ⟨G2, M, Ex.refl _, A2, mono e2 h0⟩ ?_ ?_ ?_
  · rintro t σ' H' _ ⟨G3, M3, e3, A3, _⟩
    exact SqL.of (A3.g _ _ (e3 _ _ k1))
  · rintro t x σ' H' hx ⟨G3, M3, e3, A3, hI⟩
    obtain ⟨d, hd1, rd⟩ := k2.get hx
    exact hb t d hd1 _ _ _ _ _ (e2.trans e3) A3 hI (rd.up e3) _ fun σ5 G5 M5 H5 e5 A5 i5 => ⟨G5, M5, e3.trans e5, A5, i5⟩
  · rintro σ' H' ⟨G3, M3, e3, A3, hI⟩
    rw [k2.len] at hI
    exact hd σ' G3 M3 H' (e2.trans e3) A3 hI
/-! ### x.pop(i), x a list that is written, i drawn -/
theorem w_pop {xs : List V} (hi : σ[i]? = some (some (.ref p))) (hp : M0 p = some (.lst xs)) (hn : p ≠ r) (hl : xs.length ≤ 100000) (h : TrE K r M0 te σ G n n' fun d => ∃ k : Nat, d = .int k ∧ k < xs.length) (A : At G M H) (S : Same r M0 M) (R : RL r n M)
    (k : ∀ (k : Nat) y G' M' H', xs[k]? = some y → Ex G G' → At G' M' H' → Same r (upd M0 p (.lst (xs.eraseIdx k))) M' → RL r n' M' → Q y H') : tBM K "list" rPopAt (tVar i) (tCons te tNil) σ H Q := by
  refine ⟨.ref p, hi, Or.inl ⟨rfl, _, Or.inl (Or.inl (A.m _ _ ((S p hn).trans hp)))⟩, ?_⟩
  refine h G M H (Ex.refl _) A S R _ fun d v G2 M2 H2 e2 A2 S2 R2 hd rv => ?_
  obtain ⟨kk, rfl, hk⟩ := hd
  have hM2 : M2 p = some (.lst xs) := (S2 p hn).trans hp
  have hx : xs[kk]? = some xs[kk] := List.getElem?_eq_getElem hk
  refine ⟨p, xs, (kk : Int), kk, xs[kk], rfl, by rw [show v = V.int _ from rv], A2.m _ _ hM2, ?_, ?_, ?_, hx, ?_⟩
  · have h63 : (2 : Int) ^ 63 = 9223372036854775808 := rfl
    omega
  · have h63 : (2 : Int) ^ 63 = 9223372036854775808 := rfl
    omega
  · unfold seqIndex?
    have e1 : ¬ ((kk : Int) < 0) := by omega
    have e2 : (decide (0 ≤ (kk : Int)) && decide ((kk : Int) < (xs.length : Int))) = true := by rw [decide_eq_true (by omega), decide_eq_true (by omega)]; rfl
    simp only [if_neg e1, e2, if_true, Int.toNat_natCast]
  · refine k kk _ G2 (upd M2 p (.lst (xs.eraseIdx kk))) _ hx e2 (A2.wr hM2) (fun x hx => ?_) (R2.upd hn)
    by_cases e : x = p
    · subst e
      rw [upd_same, upd_same]
    · rw [upd_ne e, upd_ne e]
      exact S2 x hx
/-- what was made on the way is let go -/
theorem At.back (A : At G M H) (h : ∀ x, x ≠ r → ∀ o, M0 x = some o → M x = some o) : ∃ M', At G M' H ∧ Same r M0 M' ∧ M' r = M r := by
  refine ⟨fun x => if x = r then M r else M0 x, A.drop fun x o z => ?_, fun x hx => if_neg hx, if_pos rfl⟩
  have z' : (if x = r then M r else M0 x) = some o := z
  by_cases hx : x = r
  · rw [if_pos hx] at z'
    rw [hx]
    exact z'
  · rw [if_neg hx] at z'
    exact h x hx o z'
theorem q_parE {Ψ : List PyData → Prop} (h : TrEA K r M0 (tCons ta (tCons tb tNil)) σ G n n' Ψ) (hl : ∀ ds, Ψ ds → ds.length = 2) (A : At G M H) (S : Same r M0 M) (R : RL r n M)
    (k : ∀ ds v w G' M' H', Ex G G' → At G' M' H' → Same r M0 M' → RL r n' M' → Ψ ds → RpL K G' ds [v, w] → s2 D ((σ.set i (some v)).set j (some w)) H') : tSeq (tPar i j (tCons ta (tCons tb tNil))) s2 D σ H := by
  show tCons ta (tCons tb tNil) σ H (fun vs H1 => ∃ v w, vs = [v, w] ∧ s2 D ((σ.set i (some v)).set j (some w)) H1)
  refine h G M H (Ex.refl G) A S R _ fun ds vs G' M' H' e A' S' R' hd rv => ?_
  have z := rv.len
  rw [hl ds hd] at z
  match vs, z, rv with
  | [v, w], _, rv => exact ⟨v, w, rfl, k ds v w G' M' H' e A' S' R' hd rv⟩
theorem d_val {v : V} (h : Rp K G d v) : TrD K (fun _ H Q => Q v H) σ G d := fun G1 M H e A Q q => q.here A (h.up e)
/-- for over a list whose making draws -/
theorem s_forLE {g : TG} (h : TrE K r M0 te σ G n n' Φ) (hΦ : ∀ d, Φ d → ∃ ds, d = .list ds) (A : At G M H) (S : Same r M0 M) (R : RL r n M)
    (k : ∀ ds v G' M' H', Ex G G' → At G' M' H' → Same r M0 M' → RL r n' M' → Φ (.list ds) → Rp K G' (.list ds) v → tFor (iList K (fun _ H Q => Q v H)) g tbd D σ H') : tFor (iList K te) g tbd D σ H := by
  refine h G M H (Ex.refl G) A S R _ fun d v G' M' H' e A' S' R' hd rv => ?_
  obtain ⟨ds, rfl⟩ := hΦ d hd
  exact k ds v G' M' H' e A' S' R' hd rv
end
end Sb

namespace Sb
open PySem PySem.Spec PyProof.Rows L2
/-! ### the end of a law whose def asks that no repr is running -/
theorem law_goes {P : Program} {w : World} {K : PySem.W.Frag} {mg mb : Str → Option Value} {CX : CXT} {k : Nat} {fn a : Addr} {fd : FuncData} {x : Str} {sp : Sp} {t : Shared} {us : List Value} {ns : List Int}
    (inK : K.In t.heap) (gs : t.heap.Ns mainGlobals mg) (bs : t.heap.Ns builtinsNs mb) (bb : ∀ y : Str, y ≠ "__name__" → mb y = bootBuiltins y) (nl : t.heap.NoLimit) (ng : t.gens = #[])
    (la : t.heap.get? a = some { cls := .type "list", data := .seq us.toArray }) (iu : IntsAre us ns) (sz : ns.length ≤ sizeLine) (rm : Room k callerA)
    (F : ∀ bh : Heap, K.In bh → bh.Ns mainGlobals mg → FnG P w K mg bh CX k fn fd [x] sp) (bnd : ∀ (s : Shared) (u : Value), BindsTo s fd ⟨[u], []⟩ [(x, u)])
    (pr : ∀ H : Hp, Only H → SqL K H a (ns.map V.int) → sp [.ref a] H (fun v _ => v = .bl true) fun _ _ _ => False)
    (hx : ∀ H e s', CX [] H t (fun _ _ _ => False) e s' → False) :
    codeAny (model P w) callerA (.call (.ref fn) ⟨[.ref a], []⟩) (fun o s' => o = .ok (.ret (.bool true)) ∧ OldK t.heap s'.heap ∧ s'.os = t.os ∧ AllBare s'.gens) t := by
  have rel := vals_ints iu
  have eqn := iu.length
  have main : ∀ H : Hp, Only H → SqL K H a (ns.map V.int) → HOk P w H t.heap → (∀ b, H b ≠ none → b = a) → (H a ≠ none → K.lookup a = none) → codeAny (model P w) callerA (.call (.ref fn) ⟨[.ref a], []⟩) (fun o s' => o = .ok (.ret (.bool true)) ∧ OldK t.heap s'.heap ∧ s'.os = t.os ∧ AllBare s'.gens) t := by
    intro H oH sH okH onA outK
    have inBase : ∀ {b : Addr} {o : Obj}, t.heap.get? b = some o → H b = none → (hidT t.heap H).get? b = some o := fun g0 g1 => hidT_get g0 g1
    have notA : ∀ {b : Addr} {o : Obj} {es : Array DictEntry} {ep : Nat}, t.heap.get? b = some o → o.data = .dict es ep → H b = none := fun {b o es ep} g0 g1 => by
      cases hb : H b with
      | none => rfl
      | some u =>
        have z : b = a := onA b (by rw [hb]; intro y; cases y)
        rw [z, la] at g0
        cases g0
        cases (show Data.seq us.toArray _ = Data.dict es ep from g1)
    have nsOf : ∀ {b : Addr} {m : Str → Option Value}, t.heap.Ns b m → (hidT t.heap H).Ns b m := fun {b m} ⟨o, es, ep, g0, g1, g2⟩ => ⟨o, es, ep, inBase g0 (notA g0 g1), g1, g2⟩
    have inHid : K.In (hidT t.heap H) := fun b o g0 => inBase (inK b o g0) (by
      cases hb : H b with
      | none => rfl
      | some u =>
        have z : b = a := onA b (by rw [hb]; intro y; cases y)
        rw [z, outK (by rw [← z, hb]; intro y; cases y)] at g0
        cases g0)
    have modH : Mod K mg (hidT t.heap H) := ⟨inHid, nsOf gs, ⟨mb, nsOf bs, bb⟩, by obtain ⟨mc, y1, y2⟩ := nl; exact ⟨mc, nsOf y1, y2⟩⟩
    have env : Env0 P w K mg (hidT t.heap H) callerA [] t H := ⟨rfl, modH, fun _ _ g0 => of_hidT g0, Nat.le_of_eq (hidT_size _ _), trivial, fun b hb => (by cases (show b ∈ ([] : List Addr) from hb)), okH, .of_eq ng⟩
    have go := (F _ inHid (nsOf gs)).run callerA [] t H ⟨[.ref a], []⟩ [.ref a] [.ref a] _ _ rfl rm env (bnd t (.ref a)) (.cons rfl .nil) (pr H oH sH)
    refine codeAny_mono go fun o s' h => ?_
    match o, h with
    | .error e, h => exact (hx H e s' h).elim
    | .ok .next, h => exact False.elim h
    | .ok .brk, h => exact False.elim h
    | .ok .cont, h => exact False.elim h
    | .ok (.ret u), h =>
      obtain ⟨v, H', os, br, un, okH', rv, hv⟩ := h
      rw [show v = V.bl true from hv] at rv
      cases (show u = Value.bool true from rv)
      refine ⟨rfl, OldK.of_keep fun b o g0 => ?_, os, br⟩
      cases hb : H b with
      | none => exact un.keep b o g0 hb (fun y => by cases (show b ∈ ([] : List Addr) from y)) (by simp)
      | some u =>
        obtain y | ⟨ob, xs, y⟩ := oH b
        · rw [hb] at y; cases y
        · obtain ⟨y1, _⟩ := okH b _ y
          obtain ⟨y2, _⟩ := okH' b _ (un.frzs b ob _ y)
          rw [g0] at y1
          cases y1
          exact y2
  cases ka : K.lookup a with
  | some o =>
    have g0 := inK a o ka
    rw [la] at g0
    cases g0
    exact main (fun _ => none) (fun _ => .inl rfl) (.inr ⟨_, us.toArray, _, ka, rfl, rfl, rfl, by rw [List.size_toArray, eqn]; exact sz, by simpa using rel⟩) (fun _ _ y => by cases (show (none : Option HO) = some _ from y)) (fun _ y => absurd rfl y) fun y => absurd rfl y
  | none =>
    let H0 : Hp := fun b => if b = a then some (.frz { cls := .type "list", data := .seq us.toArray } (.lst (ns.map V.int))) else none
    have at_ : H0 a = some (.frz { cls := .type "list", data := .seq us.toArray } (.lst (ns.map V.int))) := if_pos rfl
    have off : ∀ {b}, b ≠ a → H0 b = none := fun h => if_neg h
    refine main H0 (fun b => ?_) (.inl (.inr ⟨_, at_⟩)) (fun b u y => ?_) (fun b y => ?_) fun _ => ka
    · by_cases hb : b = a
      · rw [hb]; exact .inr ⟨_, _, at_⟩
      · exact .inl (off hb)
    · by_cases hb : b = a
      · rw [hb, at_] at y
        cases y
        rw [hb]
        exact ⟨la, by rw [List.length_map]; exact sz, us, _, rel, la⟩
      · rw [off hb] at y
        cases y
    · exact Decidable.byContradiction fun hb => y (off hb)
theorem law_walks {l : PySem.W.OpenLaw} {n k : Nat} {q : Program} {loose : List Str} {XP : (Str → Option Value) → Heap → Prop} {YP : World → Heap → Prop} {d : DefRec} {CX : CXT} {x : Str} (h1 : l.most = some n) (h2 : n ≤ sizeLine) (h3 : d.params.defaults = []) (h4 : Room k callerA)
    (F : ∀ (w : World) (mg : Str → Option Value) (fn : Addr) (h : Heap), YP w h → h.Ns mainGlobals mg → mg d.name = some (.ref fn) → ∃ (K : PySem.W.Frag) (fd : FuncData) (sp : Sp), K.In h ∧ (∀ (s : Shared) (u : Value), BindsTo s fd ⟨[u], []⟩ [(x, u)]) ∧
        (∀ (H : Hp) (a : Addr) (ns : List Int), ns.length ≤ n → Only H → SqL K H a (ns.map V.int) → sp [.ref a] H (fun v _ => v = .bl true) fun _ _ _ => False) ∧ ∀ bh : Heap, K.In bh → bh.Ns mainGlobals mg → FnG l.prog w K mg bh CX k fn fd [x] sp)
    (hx : ∀ (H : Hp) (s : Shared) (e : Value) (s' : Shared), CX [] H s (fun _ _ _ => False) e s' → False) : PySem.W.WalkO q loose XP YP l.row.toRowW d [] (fun f vs => PySem.call f vs) := by
  refine Att.attach_call h1 h3 fun w s₀ t mg mb fn o pm cd doc a us ns G Y ho hd hcd em eo ei el eg => ?_
  obtain ⟨K, fd, sp, inK, bnd, pr, go⟩ := F w mg fn _ Y G.T.g em
  exact law_goes inK G.T.g G.T.b G.T.builtins G.T.nolimit eg eo ei (Nat.le_trans el h2) h4 go bnd (fun H u v => pr H a ns el u v) fun H e s' => hx H t e s'
end Sb

namespace Sb
open PySem PySem.Spec PyProof.Rows L2
/-! ### what the top leaves of the classes -/
def clsOk (K : PySem.W.Frag) (C : Addr) : Bool := match K.lookup C with
  | some ⟨.type "type", _, .cls cd, sl⟩ => (match cd.mro, sl.toList with
    | .ref C' :: bm, [_, _, _, _, some (.builtin n), _] => C' == C && (n == "ValueError.__new__" && (!cd.hasDel && (cd.hasDict && PySem.HandSPX.refsVE bm)))
    | _, _ => false)
  | _ => false
def initIs (K : PySem.W.Frag) (C : Addr) : Bool := match PySem.W.findCls K (.ref C) (.type "type") "__init__" with
  | some (.val (.builtin n)) => n == "ValueError.__init__"
  | _ => false
/-- an own exception class with its own __init__ -/
def ownX (K : PySem.W.Frag) (x : Str) : Bool := clsOk K (He.ga K x) && (decide (PySem.W.findIn K (.ref (He.ga K x)) "__setattr__" = some (some (.builtin "object.__setattr__"))) && (decide (PySem.W.subIn K (.ref (He.ga K x)) (.type "BaseException") = some true) &&
  (decide (PySem.W.typeIn K (.ref (He.ga K x)) = some (.type "type")) && (PySem.W.keepIn K (.ref (He.ga K x)) && (decide (PySem.W.findIn K (.ref (He.ga K x)) "__init__" = some (some (.ref (He.ma K (He.ga K x) "__init__")))) &&
  (decide (PySem.W.typeIn K (.ref (He.ma K (He.ga K x) "__init__")) = some (.type "function")) && L2.xfB K (He.ga K x)))))))
/-- its parent, which has none -/
def parX (K : PySem.W.Frag) (x : Str) : Bool := decide (PySem.W.specialIn K (.ref (He.ga K x)) "__getattribute__" = some (some (.builtin "type.__getattribute__"))) && (PySem.W.readsIn K (He.ga K x) (.type "type") && initIs K (He.ga K x))
structure OwnX (K : PySem.W.Frag) (x : Str) : Prop where
  o : OexC K (He.ga K x)
  i : PySem.W.findIn K (.ref (He.ga K x)) "__init__" = some (some (.ref (He.ma K (He.ga K x) "__init__")))
  t : PySem.W.typeIn K (.ref (He.ma K (He.ga K x) "__init__")) = some (.type "function")
  f : XfC K (He.ga K x)
structure ParX (K : PySem.W.Frag) (x : Str) : Prop where
  g : PySem.W.specialIn K (.ref (He.ga K x)) "__getattribute__" = some (some (.builtin "type.__getattribute__"))
  r : PySem.W.readsIn K (He.ga K x) (.type "type") = true
  v : PySem.W.findCls K (.ref (He.ga K x)) (.type "type") "__init__" = some (.val (.builtin "ValueError.__init__"))
theorem clsOk_ok {K : PySem.W.Frag} {C : Addr} (h : clsOk K C = true) : ∃ nm q N bs bm sn sub ab col dd k0 k1 k2 k3 k5, K.lookup C = some (excClassObj nm q C N bs bm true sn sub ab col dd k0 k1 k2 k3 k5 "ValueError.__new__") ∧ PySem.HandSPX.refsVE bm = true := by
  unfold clsOk at h
  split at h
  case h_1 dd cd sl e0 =>
    split at h
    case h_1 C' bm k0 k1 k2 k3 n k5 e1 e2 =>
      obtain ⟨h1, h⟩ := Bool.and_eq_true_iff.mp h
      obtain ⟨h2, h⟩ := Bool.and_eq_true_iff.mp h
      obtain ⟨h3, h⟩ := Bool.and_eq_true_iff.mp h
      obtain ⟨h4, h5⟩ := Bool.and_eq_true_iff.mp h
      have g1 := eq_of_beq h1
      have g2 := eq_of_beq h2
      subst g1 g2
      obtain ⟨f1, f2, f3, f4, f5, f6, f7, f8, f9, f10, f11⟩ := cd
      obtain ⟨sl⟩ := sl
      have g5 : sl = [k0, k1, k2, k3, some (.builtin "ValueError.__new__"), k5] := e2
      have g6 : f3 = .ref C' :: bm := e1
      have g4 : f6 = true := h4
      have g3 : f11 = false := by
        have h3' : (!f11) = true := h3
        cases f11 with
        | true => cases h3'
        | false => rfl
      subst g5 g6 g3 g4
      exact ⟨_, _, _, _, _, _, _, _, _, _, _, _, _, _, _, e0, h5⟩
    case h_2 => cases h
  case h_2 => cases h
theorem ownX_ok {K : PySem.W.Frag} {x : Str} (h : ownX K x = true) : OwnX K x := by
  obtain ⟨h1, h⟩ := Bool.and_eq_true_iff.mp h
  obtain ⟨h2, h⟩ := Bool.and_eq_true_iff.mp h
  obtain ⟨h3, h⟩ := Bool.and_eq_true_iff.mp h
  obtain ⟨h4, h⟩ := Bool.and_eq_true_iff.mp h
  obtain ⟨h5, h⟩ := Bool.and_eq_true_iff.mp h
  obtain ⟨h6, h⟩ := Bool.and_eq_true_iff.mp h
  obtain ⟨h7, h8⟩ := Bool.and_eq_true_iff.mp h
  exact ⟨⟨clsOk_ok h1, of_decide_eq_true h2, of_decide_eq_true h3, of_decide_eq_true h4, h5⟩, of_decide_eq_true h6, of_decide_eq_true h7, xfB_ok h8⟩
theorem parX_ok {K : PySem.W.Frag} {x : Str} (h : parX K x = true) : ParX K x := by
  obtain ⟨h1, h⟩ := Bool.and_eq_true_iff.mp h
  obtain ⟨h2, h3⟩ := Bool.and_eq_true_iff.mp h
  refine ⟨of_decide_eq_true h1, h2, ?_⟩
  unfold initIs at h3
  split at h3
  case h_1 n e => rw [e, eq_of_beq h3]
  case h_2 => cases h3
/-! ### Parent.__init__(self, ..) -/
section
variable {X : Cx} {e : Expr} {es : List Expr} {ta : TA} {x : Str} {p1 p2 pos : Pos}
theorem pe_ceinit {pl : Sem Bool} (hg : Gl X x) (hm : X.mg x = some (.ref (He.ga X.K x))) (T : ParX X.K x) (ha : PA X (e :: es) ta) (hdb : (x == ("__debug__" : Str)) = false := by decide)
    (hc : eval (.Call (.Attribute (.Name x p1) "__init__" p2) (e :: es) [] pos) X.env = (do
      let f0 ← eval (.Name x p1) X.env
      standAt p2.atName
      let (g, hd) ← holding [f0] (getMethod f0 "__init__" pl)
      callWith pos g hd (backTo pos (starEach (e :: es) X.env)) (backToKw pos (keywordEach [] X.env))) := by rfl)
    (he : starEach (e :: es) X.env = (false, eval e X.env) :: starEach es X.env := by rfl) (hpl : (backTo pos (starEach es X.env)).any (·.1) = false := by rfl) :
    PE X (.Call (.Attribute (.Name x p1) "__init__" p2) (e :: es) [] pos) (tVeI X.K ta) := by
  constructor
  intro pins s σ H Q I h
  refine PySem.W.methodCall_KW (ld_glob I hg hm ?_ hdb) hc
  refine PySem.W.method_cls I.kIn T.g (PySem.W.cls_value I.kIn T.r T.v rfl ?_)
  show wpAny _ _ (callWith pos (Value.builtin "ValueError.__init__") [] (backTo pos (starEach (e :: es) X.env)) []) _ _ _
  refine PyProof.Rows.callWith_method1 (thn (ha.run pos pins _ σ H _ (I.tok _) h) ?_) he hpl
  rintro us s1 ⟨vs, H1, I1, r1, a, C, ws, rfl, hl, T1, ea, q⟩
  cases r1 with
  | @cons _ u0 _ ur ra rw' =>
    cases (show u0 = Value.ref a from ra)
    have hz : ur.length ≤ sizeLine := by
      rw [← Paired.length rw']
      exact Nat.le_trans hl (by decide)
    exact oinit_ok T1 I1 ea hz fun s' J => ⟨.non, H1, J, rfl, q⟩
end
/-! ### own exceptions with two fields, with one -/
def spIni2 (C : Addr) (f1 f2 : Str) : Sp := fun vs H Q _ => ∃ a v1 v2, vs = [.ref a, v1, v2] ∧ H a = some (exo a C none) ∧ ∀ d, H d = none → d ≠ a → Q .non (upd (upd (upd H d (exd d [(f1, v1)])) a (exo a C (some d))) d (exd d [(f2, v2), (f1, v1)]))
def spIni1 (C : Addr) (f1 : Str) : Sp := fun vs H Q _ => ∃ a v1, vs = [.ref a, v1] ∧ H a = some (exo a C none) ∧ ∀ d, H d = none → d ≠ a → Q .non (upd (upd H d (exd d [(f1, v1)])) a (exo a C (some d)))
section
variable {K : PySem.W.Frag} {σ : L2.St} {G G' M H : Hp} {ts : TA} {C a : Addr} {f1 f2 msg : Str} {d1 d2 : PyData} {v1 v2 : V} {Q : VK} {E : XK}
theorem ini2 (T : OexC K C) (n1 : PySem.W.findIn K (.ref C) f1 = some none) (n2 : PySem.W.findIn K (.ref C) f2 = some none) {D : Ends} (h : H a = some (exo a C none)) (k : ∀ d, H d = none → d ≠ a → D.nx [some (.ref a), some v1, some v2] (upd (upd (upd H d (exd d [(f1, v1)])) a (exo a C (some d))) d (exd d [(f2, v2), (f1, v1)]))) :
    tSeq (tDrop (tVeI K (tCons (tVar 0) (tCons (tC (.str msg)) tNil)))) (tSeq (tOst K f1 (tVar 0) (tVar 1)) (tOst K f2 (tVar 0) (tVar 2))) D [some (.ref a), some v1, some v2] H := by
  refine ⟨_, rfl, a, C, [.str msg], rfl, Nat.le_of_ble_eq_true rfl, T, h, ?_⟩
  refine ⟨v1, rfl, .ref a, rfl, a, C, rfl, T, n1, .inl ⟨h, fun d hd hda => ?_⟩⟩
  refine ⟨v2, rfl, .ref a, rfl, a, C, rfl, T, n2, .inr ⟨d, [(f1, v1)], upd_same, ?_, Nat.le_of_ble_eq_true rfl, k d hd hda⟩⟩
  rw [upd_ne hda, upd_same]
theorem ini1 (T : OexC K C) (n1 : PySem.W.findIn K (.ref C) f1 = some none) {D : Ends} (h : H a = some (exo a C none)) (k : ∀ d, H d = none → d ≠ a → D.nx [some (.ref a), some v1] (upd (upd H d (exd d [(f1, v1)])) a (exo a C (some d)))) :
    tSeq (tDrop (tVeI K (tCons (tVar 0) (tCons (tC (.str msg)) tNil)))) (tOst K f1 (tVar 0) (tVar 1)) D [some (.ref a), some v1] H := by
  refine ⟨_, rfl, a, C, [.str msg], rfl, Nat.le_of_ble_eq_true rfl, T, h, ?_⟩
  exact ⟨v1, rfl, .ref a, rfl, a, C, rfl, T, n1, .inl ⟨h, fun d hd hda => k d hd hda⟩⟩
/-- what is wanted of an exception of the class x with these fields -/
def ResX (K : PySem.W.Frag) (G M : Hp) (x : Str) (fs : List (Str × PyData)) (E : XK) : Prop := ∀ d gs G' H', Ex G G' → At G' M H' → G' d = some (.xd gs) → (∀ f r, (f, r) ∈ fs → ∃ v, gs.lookup f = some v ∧ Rp K G' r v) → E (.ref (He.ga K x)) (some d) H'
theorem ResX.mono {x : Str} {fs : List (Str × PyData)} (e : Ex G G') (h : ResX K G M x fs E) : ResX K G' M x fs E := fun d gs G2 H2 e2 A => h d gs G2 H2 (e.trans e2) A
theorem s_raise2 {x : Str} (h : TrA K ts σ G [d1, d2]) (hf : f1 ≠ f2) (A : At G M H) (k : ResX K G M x [(f1, d1), (f2, d2)] E) : tMkO (He.ga K x) (spIni2 (He.ga K x) f1 f2) [] ts σ H fun cls d H' => E cls d H' := by
  refine w_A h A fun vs G1 H1 e1 A1 r => ?_
  obtain ⟨v1, _, rfl, r1, v2, _, rfl, r2, rfl⟩ := r
  refine ⟨Nat.le_of_ble_eq_true rfl, fun a ha => ⟨a, v1, v2, rfl, upd_same, fun d hd hda => ⟨rfl, d, [(f2, v2), (f1, v1)], ?_, upd_same, ?_, ?_⟩⟩⟩
  · rw [upd_ne (Ne.symm hda), upd_same]
  · rw [upd_ne hda] at hd
    exact hd
  · rw [upd_ne hda] at hd
    have hH : upd (del (upd (upd (upd (upd H1 a (exo a (He.ga K x) none)) d (exd d [(f1, v1)])) a (exo a (He.ga K x) (some d))) d (exd d [(f2, v2), (f1, v1)])) a) d (.xd [(f2, v2), (f1, v1)]) = upd H1 d (.xd [(f2, v2), (f1, v1)]) := by
      funext y
      by_cases hy : y = d
      · subst hy
        rw [upd_same, upd_same]
      · rw [upd_ne hy, upd_ne hy]
        by_cases hya : y = a
        · subst hya
          rw [del_same, ha]
        · rw [del_ne hya, upd_ne hy, upd_ne hya, upd_ne hy, upd_ne hya]
    rw [hH]
    have eN : Ex G1 (upd G1 d (.xd [(f2, v2), (f1, v1)])) := Ex.new (A1.gNone hd)
    refine k d _ _ _ (e1.trans eN) (A1.ng hd) upd_same fun f r hm => ?_
    rcases List.mem_cons.mp hm with e | hm
    · cases e
      refine ⟨v1, ?_, r1.up eN⟩
      rw [L2.lookup_put, if_neg hf, L2.lookup_put, if_pos rfl]
    · cases List.mem_singleton.mp hm
      exact ⟨v2, by rw [L2.lookup_put, if_pos rfl], r2.up eN⟩
theorem s_raise1 {x : Str} (h : TrA K ts σ G [d1]) (A : At G M H) (k : ResX K G M x [(f1, d1)] E) : tMkO (He.ga K x) (spIni1 (He.ga K x) f1) [] ts σ H fun cls d H' => E cls d H' := by
  refine w_A h A fun vs G1 H1 e1 A1 r => ?_
  obtain ⟨v1, _, rfl, r1, rfl⟩ := r
  refine ⟨Nat.le_of_ble_eq_true rfl, fun a ha => ⟨a, v1, rfl, upd_same, fun d hd hda => ⟨rfl, d, [(f1, v1)], upd_same, ?_, ?_, ?_⟩⟩⟩
  · rw [upd_ne hda, upd_same]
  · rw [upd_ne hda] at hd
    exact hd
  · rw [upd_ne hda] at hd
    have hH : upd (del (upd (upd (upd H1 a (exo a (He.ga K x) none)) d (exd d [(f1, v1)])) a (exo a (He.ga K x) (some d))) a) d (.xd [(f1, v1)]) = upd H1 d (.xd [(f1, v1)]) := by
      funext y
      by_cases hy : y = d
      · subst hy
        rw [upd_same, upd_same]
      · rw [upd_ne hy, upd_ne hy]
        by_cases hya : y = a
        · subst hya
          rw [del_same, ha]
        · rw [del_ne hya, upd_ne hya, upd_ne hy, upd_ne hya]
    rw [hH]
    have eN : Ex G1 (upd G1 d (.xd [(f1, v1)])) := Ex.new (A1.gNone hd)
    refine k d _ _ _ (e1.trans eN) (A1.ng hd) upd_same fun f r hm => ?_
    cases List.mem_singleton.mp hm
    exact ⟨v1, by rw [L2.lookup_put, if_pos rfl], r1.up eN⟩
/-! ### a def that gives a datum or raises -/
inductive Out where
  | val (d : PyData)
  | exc (x : Str) (fs : List (Str × PyData))
def Out.ok (K : PySem.W.Frag) (G M : Hp) (Q : VK) (E : XK) : Out → Prop
  | .val d => Res K G M d Q
  | .exc x fs => ResX K G M x fs E
def XSp (K : PySem.W.Frag) (R : List PyData → Out → Prop) : Sp := fun vs H Q E => ∃ G M ds o, At G M H ∧ RpL K G ds vs ∧ R ds o ∧ Out.ok K G M Q E o
theorem XSp.len {R : List PyData → Out → Prop} {n : Nat} (hR : ∀ ds o, R ds o → ds.length = n) {vs : List V} (h : XSp K R vs H Q E) : vs.length = n := by
  obtain ⟨G, M, ds, o, _, hr, h2, _⟩ := h
  rw [hr.len, hR _ _ h2]
theorem d_callX {R : List PyData → Out → Prop} {ds : List PyData} {d : PyData} {E : XK} (h : TrA K ts σ G ds) (hr : R ds (.val d)) : TrD K (tCall (XSp K R) [] E ts) σ G d := fun G1 M H e A Q q => by
  refine h G1 M H e A _ fun vs G2 H2 e2 A2 r2 => ?_
  exact ⟨G2, M, ds, .val d, A2, by rw [List.append_nil]; exact r2, hr, q.mono e2⟩
theorem w_callX {R : List PyData → Out → Prop} {ds : List PyData} {x : Str} {fs : List (Str × PyData)} (h : TrA K ts σ G ds) (hr : R ds (.exc x fs)) (A : At G M H) (k : ResX K G M x fs E) : tCall (XSp K R) [] E ts σ H Q := by
  refine w_A h A fun vs G2 H2 e2 A2 r2 => ?_
  exact ⟨G2, M, ds, .exc x fs, A2, by rw [List.append_nil]; exact r2, hr, k.mono e2⟩
theorem d_callS {R : List PyData → Out → Prop} {ds : List PyData} {d : PyData} {E : L2.St → XK} (h : TrA K ts σ G ds) (hr : R ds (.val d)) : TrD K (tCallS (XSp K R) E ts) σ G d := fun G1 M H e A Q q => by
  refine h G1 M H e A _ fun vs G2 H2 e2 A2 r2 => ?_
  exact ⟨G2, M, ds, .val d, A2, r2, hr, q.mono e2⟩
theorem w_callS {R : List PyData → Out → Prop} {ds : List PyData} {x : Str} {fs : List (Str × PyData)} {E : L2.St → XK} (h : TrA K ts σ G ds) (hr : R ds (.exc x fs)) (A : At G M H) (k : ResX K G M x fs (E σ)) : tCallS (XSp K R) E ts σ H Q := by
  refine w_A h A fun vs G2 H2 e2 A2 r2 => ?_
  exact ⟨G2, M, ds, .exc x fs, A2, r2, hr, k.mono e2⟩
/-- e.f of the exception that is caught -/
theorem d_xf {a : Addr} {d : Addr} {C : Addr} {f : Str} {gs : List (Str × V)} {v : V} {i : Nat} {r : PyData} (hi : σ[i]? = some (some (.ref a))) (hd : G d = some (.xd gs)) (hl : gs.lookup f = some v) (hr : Rp K G r v) : TrD K (tXf a (.ref C) (some d) C f (tVar i)) σ G r := fun G1 M H e A Q q =>
  ⟨.ref a, hi, rfl, rfl, d, gs, v, rfl, A.g _ _ (e _ _ hd), hl, q.here A (hr.up e)⟩
end
/-! ### calls in a try, the try itself -/
section
variable {X : Cx} {CX : CXT} {k : Nat} {x : Str} {sp : Sp} {E : L2.St → XK} {p pos : Pos} {e : Expr} {es : List Expr} {t : TA}
theorem pe_fdS (F : Fd X.prog X.w X.K X.mg X.base CX k x sp []) (hg : X.A.guards = some []) (hr : Room k X.A) (hx : ∀ σ, PassesAt CX X σ (E σ)) (ha : PA X (e :: es) t) (hgl : Gl X x := by rfl)
    (hdb : (x == ("__debug__" : Str)) = false := by decide) (he : starEach (e :: es) X.env = (false, eval e X.env) :: starEach es X.env := by rfl) (hpl : (backTo pos (starEach es X.env)).any (·.1) = false := by rfl) :
    PE X (.Call (.Name x p) (e :: es) [] pos) (tCallS sp E t) := by
  obtain ⟨f, fd, ps, ds, hm, hk, hb, hd, F⟩ := F
  cases hd
  constructor
  intro pins s σ H Q I h
  apply wpAny_Call_Name_kw
  refine ld_glob I hgl hm ?_ hdb
  refine PySem.W.callWith_K (h₀ := X.base) I.ok.mod.kin hk (thn (ha.run pos pins s σ H _ I h) ?_) he hpl
  rintro us s1 ⟨vs, H1, I1, r, q⟩
  refine ⟨I1.kIn, ?_⟩
  have q' : sp vs H1 Q (E σ) := q
  have l' : us.length = ps.length := r.length.symm.trans (F.len _ _ _ _ q')
  have b := hb s1 us I1.kIn (by rw [List.append_nil]; exact l')
  rw [List.append_nil] at b
  apply wpAny_call
  refine codeAny_mono (F.run X.A X.stack s1 H1 ⟨us, []⟩ us vs Q (E σ) hg hr I1.env0 b r q') ?_
  rintro (e | (_ | _ | _ | u)) s' hq
  · exact hx σ pins H1 s1 e s' I1 hq
  · exact hq.elim
  · exact hq.elim
  · exact hq.elim
  · exact I1.after hq
end
end Sb

namespace Sb
open PySem PySem.Spec PyProof.Rows L2
/-! ### try with «except x as n» first, further clauses that are not come to -/
def wFst (K : PySem.W.Frag) (c : Value) (i : Nat) (ts : Addr → Value → Option Addr → TS) (D : Ends) : WX := fun cls d σ H => PySem.W.exmOne K cls c = some true ∧
  ∀ a, H a = none → ts a cls d { nx := fun τ J => D.nx (τ.set i none) J, rt := D.rt, bk := fun τ J => D.bk (τ.set i none) J, ct := fun τ J => D.ct (τ.set i none) J } (σ.set i (some (.ref a))) H
section
variable {X : Cx} {x n : Str} {c : Value} {i : Nat} {body suite : List Stmt} {b₀ : Stmt} {np pos pos' : Pos} {more : List ExceptHandler} {tb : WX → TS} {ts : Addr → Value → Option Addr → TS}
theorem ps_try_fst (h1 : X.stack = X.env :: X.outer) (h2 : X.env.frame = some X.env.locals) (h3 : X.N.Nodup) (h4 : X.N[i]? = some n) (h5 : X.env.kindOf n = some .local) (hc : Names X x c)
    (hb : ∀ (W : WX) (pn : List (Addr × Obj)) (xe : Value → Shared → Prop), Takes (X.tr pn xe) W → PassesOwn (model X.prog X.w) X.A X.env xe → PSs (X.tr pn xe) body (tb W))
    (ho : ∀ (a : Addr) (oe : Obj) (cls : Value) (d : Option Addr) (pn : List (Addr × Obj)), Zc cls d oe → (∃ vs, oe.data = .fields vs) → PSs (X.suite a ((a, oe) :: pn)) (b₀ :: suite) (ts a cls d)) :
    PS X (.Try body (.ExceptHandler (some (.Name x np)) (some n) (b₀ :: suite) pos' :: more) [] [] pos) (fun D σ H => tb (wFst X.K c i ts D) D σ H) := by
  constructor
  intro pins s σ H D I h
  have ok0 := I.ok
  have fr0 : X.A.frames = some (X.env :: X.outer) := by
    rw [ok0.frames, h1]
  refine wpAny_Try_except ?_
  have hT := hb (wFst X.K c i ts D) (X.pn ++ pins) (fun e t1 => wpAny (model X.prog X.w) X.A (noteFrame e X.env) (fun _ t2 => wpAny (model X.prog X.w) X.A (setFlight e none) (fun _ t3 => wpAny (model X.prog X.w) X.A (handleBy e X.env (.ExceptHandler (some (.Name x np)) (some n) (b₀ :: suite) pos' :: more)) (SP X pins D) X.xe t3) X.xe t2) X.xe t1) ?_ PassesOwn.looking
  · refine wpAny_mono (hT.run [] s σ H D (I.toTry _) h) ?_ fun _ _ z => z
    rintro (_ | _ | _ | u) t1 hq
    · obtain ⟨τ, J, K1, q⟩ := hq
      exact wpAny_execs_nil ⟨τ, J, K1.ofTry ok0, q⟩
    · obtain ⟨τ, J, K1, q⟩ := hq
      exact ⟨τ, J, K1.ofTry ok0, q⟩
    · obtain ⟨τ, J, K1, q⟩ := hq
      exact ⟨τ, J, K1.ofTry ok0, q⟩
    · obtain ⟨v, τ, J, K1, r, q⟩ := hq
      exact ⟨v, τ, J, K1.ofTry ok0, r, q⟩
  intro u t1 xx
  obtain ⟨a, B, t0, pins1, τ, J, cls, d, rfl, I1, nb, up, sky, na, os, ag, hm, go⟩ := xx
  have I2 : Inv X pins τ J t0 := I1.ofTry ok0
  rw [show (X.tr (X.pn ++ pins) _).stack = X.env :: X.outer from h1] at sky
  show wpAny (model X.prog X.w) X.A (noteFrame (.ref a) X.env) _ _ _
  refine Sky.land Zc.steady fr0 h2 sky fun m3 fl3 up3 => ?_
  have I3 : Inv X pins τ J { t1 with heap := m3 } := I2.landed nb fl3.1 (up.trans up3) os ag
  obtain ⟨o3, vs3, g3, z3, d3⟩ := fl3.there
  have off : a ∉ frs (X.env :: X.outer) := fun hin => by
    obtain ⟨_, o', g', hnf⟩ := fl3.2.2.1.mem hin
    rw [g3] at g'
    cases g'
    exact hnf _ d3
  have offL : a ≠ X.env.locals := fun z => off (List.mem_filterMap.mpr ⟨X.env, List.mem_cons_self, by rw [h2, z]⟩)
  have offF : a ∉ X.fs := fun hin => by
    obtain ⟨e, he, q⟩ := List.mem_filterMap.mp hin
    exact off (List.mem_filterMap.mpr ⟨e, List.mem_cons_of_mem _ he, q⟩)
  have S3 := I3.suite g3 d3 na offL offF
  refine wpAny_handleBy_cons (codeAny_handlers_test ?_) (by intro z; cases z)
  have lookT : PySem.W.Looks (model X.prog X.w) m3 (typeOf (.ref a)) cls := fun A Q E s k q => wpAny_typeOf_ref (k _ _ g3) (by rw [z3.1]; exact q)
  have lookM := PySem.W.exm_one (M := model X.prog X.w) I3.kIn lookT hm
  have nameIs : ∀ {Q E : Value → Shared → Prop}, Q c { t1 with heap := m3 } → wpAny (model X.prog X.w) (X.A.mark (some (.ref a))) (eval (.Name x np) X.env) Q E { t1 with heap := m3 } := fun {Q E} q => by
    obtain ⟨y1, y2, y3 | ⟨y3, y4, y5⟩⟩ := hc
    · exact ld_glob (X := X.suite a ((a, o3) :: (X.pn ++ pins))) S3 y1 y3 q y2
    · exact ld_blt (X := X.suite a ((a, o3) :: (X.pn ++ pins))) S3 y1 y3 y4 q y5 y2
  refine nameIs (lookM.here ?_)
  refine codeAny_handlers_suite_as ?_
  refine HandSPX.lands_againZ fl3 fun m4 fl4 up4 => ?_
  have I4 : Inv X pins τ J { t1 with heap := m4 } := I2.landed nb fl4.1 ((up.trans up3).trans up4) os ag
  obtain ⟨o4, vs4, g4, z4, d4⟩ := fl4.there
  have S4 := I4.suite g4 d4 na offL offF
  refine store_ok (X := X.suite a ((a, o4) :: (X.pn ++ pins))) (v := .ref a) S4 h3 h4 (.inl h5) rfl (fun t5 S5 => ?_) (.inr h5)
  have end_ : ∀ {σ6 : L2.St} {H6 : Hp} {t6 : Shared} {Q : Shared → Prop}, Inv (X.suite a ((a, o4) :: (X.pn ++ pins))) [] σ6 H6 t6 → (∀ t7, Inv X pins (σ6.set i none) H6 t7 → Q t7) → wpAny (model X.prog X.w) X.A (do bindName X.env n .none; unbindBehindTheSuite X.env n pos') (fun _ t7 => Q t7) X.xe t6 := fun {σ6 H6 t6 Q} S6 hq => gone_ok (S6.unsuite ok0) h3 h4 h5 hq
  refine wpAny_mono ((ho a o4 cls d (X.pn ++ pins) z4 ⟨_, d4⟩).run [] t5 _ J _ S5 (go a na)) ?_ fun _ _ z => False.elim z
  rintro (_ | _ | _ | u) t6 hq
  · obtain ⟨σ6, H6, S6, q6⟩ := hq
    exact end_ S6 fun _ J7 => ⟨_, _, J7, q6⟩
  · obtain ⟨σ6, H6, S6, q6⟩ := hq
    exact end_ S6 fun _ J7 => ⟨_, _, J7, q6⟩
  · obtain ⟨σ6, H6, S6, q6⟩ := hq
    exact end_ S6 fun _ J7 => ⟨_, _, J7, q6⟩
  · obtain ⟨v6, σ6, H6, S6, r6, q6⟩ := hq
    exact end_ S6 fun _ J7 => ⟨_, _, _, J7, r6, q6⟩
end
end Sb
namespace Sb
open PySem PySem.Spec PyProof.Rows L2
section
variable {X : Cx} {x f1 f2 : Str} {p pos : Pos} {e : Expr} {es : List Expr} {ta : TA}
theorem pmk_own2 (T : OwnX X.K x) (F : ∃ fd ps, FnOk X.prog X.w X.K X.mg X.base CX0 1 (He.ma X.K (He.ga X.K x) "__init__") fd ps (spIni2 (He.ga X.K x) f1 f2) ∧ Binds X.K fd ps []) (hr : Room 2 X.A) (hg : Gl X x) (hm : X.mg x = some (.ref (He.ga X.K x))) (ha : PA X (e :: es) ta)
    (hdb : (x == ("__debug__" : Str)) = false := by decide) (he : starEach (e :: es) X.env = (false, eval e X.env) :: starEach es X.env := by rfl) (hpl : (backTo pos (starEach es X.env)).any (·.1) = false := by rfl) :
    PMk X (.Call (.Name x p) (e :: es) [] pos) (tMkO (He.ga X.K x) (spIni2 (He.ga X.K x) f1 f2) [] ta) := by
  obtain ⟨fd, ps, F1, hb⟩ := F
  exact pmk_oex T.o T.i T.t F1 hr hb .nil pass0 hg hm ha hdb he hpl
theorem pmk_own1 (T : OwnX X.K x) (F : ∃ fd ps, FnOk X.prog X.w X.K X.mg X.base CX0 1 (He.ma X.K (He.ga X.K x) "__init__") fd ps (spIni1 (He.ga X.K x) f1) ∧ Binds X.K fd ps []) (hr : Room 2 X.A) (hg : Gl X x) (hm : X.mg x = some (.ref (He.ga X.K x))) (ha : PA X (e :: es) ta)
    (hdb : (x == ("__debug__" : Str)) = false := by decide) (he : starEach (e :: es) X.env = (false, eval e X.env) :: starEach es X.env := by rfl) (hpl : (backTo pos (starEach es X.env)).any (·.1) = false := by rfl) :
    PMk X (.Call (.Name x p) (e :: es) [] pos) (tMkO (He.ga X.K x) (spIni1 (He.ga X.K x) f1) [] ta) := by
  obtain ⟨fd, ps, F1, hb⟩ := F
  exact pmk_oex T.o T.i T.t F1 hr hb .nil pass0 hg hm ha hdb he hpl
end
end Sb

namespace Sb
section
open PySem PySem.AutoSeq1
theorem ext_tup (l : Addr) (xs : Array Value) (n : Nat) (b : Addr) (ys : Array Value) (m : Nat) (dd : Option Addr) (sl : Array (Option Value)) (h0 : ¬(!xs.isEmpty && Builtin.List.listTooLong (xs.size + ys.size)) = true) (h1 : xs.size ≤ sizeLine) (h2 : xs.size + ys.size ≤ sizeLine + 1) :
    Meets (Builtin.«list.extend» ⟨[.ref l, .ref b], []⟩) (fun _ R s => s.heap.get? l = some { cls := .type "list", dict := none, data := .seq xs n, slots := #[] } ∧ s.heap.get? b = some { cls := .type "tuple", dict := dd, data := .seq ys m, slots := sl } ∧ R (.ok (.ret Value.none)) { s with heap := s.heap.update l (Obj.mapSeq fun x => x ++ ys), toks := s.toks }) :=
  .of_wp fun prog w A R s h => by
    obtain ⟨hp, g, d, tk, os⟩ := s
    obtain ⟨hl, hb, h⟩ := h
    have f1 := idx_int
    have f2 := sub_tuple_tuple
    have f3 := sub_list_list
    have f4 := sub_tuple_list
    have f5 := sub_list_tuple
    have hz' : (xs ++ ys).size ≤ sizeLine + 1 := by rw [Array.size_append]; exact h2
    wp_walk using (wpAny_updateSeq hl rfl (hz := h1) (_hz' := hz')), wpAny_loadPart' hl, wpAny_loadPart' hb
    exact ⟨_, rfl, h⟩
end
open PySem PySem.Spec PyProof.Rows L2
def rExtT (K : PySem.W.Frag) : V → List V → Hp → VK → Prop := fun x vs H Q => ∃ l b xs zs, x = .ref l ∧ vs = [.ref b] ∧ H l = some (.lst xs) ∧ SqT K H b zs ∧ xs.length + zs.length ≤ sizeLine ∧ Q .non (upd H l (.lst (xs ++ zs)))
theorem mt_extT {X : Cx} : MtM X "list.extend" (rExtT X.K) := by
  intro pins s σ H x vs v us Q I rx rv h
  obtain ⟨l, b, xs, zs, rfl, rfl, hH, hB, hz, q⟩ := h
  cases rx
  obtain ⟨u, rfl, ru⟩ := rv.one
  cases ru
  obtain ⟨z, its, n, r, hl, e⟩ := I.lstM hH
  obtain ⟨its2, r2, ⟨⟨oc, od, dt, osl⟩, e2, ec, m, ed⟩, z2⟩ := I.tuple hB
  simp only at ec ed
  subst ec ed
  have hl2 : its2.length = zs.length := r2.length.symm
  have hsz : its.toArray.size + its2.toArray.size ≤ sizeLine := by rw [List.size_toArray, List.size_toArray]; omega
  have hlong : ¬ (!its.toArray.isEmpty && Builtin.List.listTooLong (its.toArray.size + its2.toArray.size)) = true := by
    rw [notLongL hsz, Bool.and_false]
    exact Bool.false_ne_true
  refine call_meets F.slot_list_extend ⟨_, e, rfl⟩ F.entry_list_extend (F.args_list_extend_2 _ _) (ext_tup l its.toArray n b its2.toArray m od osl hlong (by rw [List.size_toArray]; omega) (by omega)) ⟨e, e2, ?_⟩
  refine ⟨.non, _, I.lset (its' := its ++ its2) hH e (by simp) (r.append r2) ?_, rfl, q⟩
  rw [List.length_append]
  omega
section
variable {K : PySem.W.Frag} {σ : L2.St} {G G' M M0 M1 H : Hp} {ta tb te tc : TE} {d d1 d2 d3 : PyData} {tt t u : TT} {ts : TA} {ds es : List PyData} {Q : VK} {D : Ends} {s1 s2 tbd : TS} {i j n m n' : Nat} {r p a : Addr} {o : HO} {Φ Φ1 : PyData → Prop}
def chrs (z : Str) : List Str := z.cps.toList.map fun c => ⟨#[c]⟩
theorem chrs_len (z : Str) : (chrs z).length = z.cps.size := by unfold chrs; rw [List.length_map, Array.length_toList]
theorem chrs_get {z : Str} {k c : Nat} (h : z.cps[k]? = some c) : (chrs z)[k]? = some ⟨#[c]⟩ := by
  unfold chrs
  rw [List.getElem?_map, Array.getElem?_toList, h]
  rfl
/-! ### over the signs of a text -/
theorem d_lcS {tl : TE} {z : Str} {p : Str → Bool} {f : Str → PyData} (hl : TrD K tl σ G (.str z)) (hn : z.cps.size < 100000)
    (ht : ∀ c ∈ chrs z, ∀ G1, Ex G G1 → TrB tt ((wipe σ [i]).set i (some (.str c))) G1 (p c))
    (he : ∀ c ∈ chrs z, p c = true → ∀ G1, Ex G G1 → TrD K te ((wipe σ [i]).set i (some (.str c))) G1 (f c)) :
    TrD K (tLc (iStr tl) (gName i) tt te [i]) σ G (.list (((chrs z).filter p).map f)) := fun G1 M H e A Q q => by
  refine hl G1 M H e A _ fun v G2 H2 e2 A2 rv => ?_
  refine ⟨z, rv, fun D hD => ?_⟩
  refine ⟨fun t m H3 => m = z.cps.size - t ∧ t ≤ z.cps.size ∧ ∃ Gj acc, Ex G2 Gj ∧ At Gj (upd M D (.lst acc)) H3 ∧ RpL K Gj ((((chrs z).take t).filter p).map f) acc, ⟨z.cps.size, by simp, Nat.zero_le _, G2, [], Ex.refl _, A2.nm hD, rfl⟩, ?_⟩
  rintro t m H3 ⟨rfl, ht', Gj, acc, ej, Aj, rj⟩
  by_cases hlt : t < z.cps.size
  · refine .inr ⟨hlt, fun H4 => ∃ Gj acc, Ex G2 Gj ∧ At Gj (upd M D (.lst acc)) H4 ∧ RpL K Gj ((((chrs z).take (t + 1)).filter p).map f) acc, fun H4 w => ⟨z.cps.size - (t + 1), by omega, rfl, hlt, w⟩, ?_⟩
    rintro y H4 ⟨rfl, c, hc, rfl⟩
    have hk := chrs_get hc
    have hm := List.mem_of_getElem? hk
    have htk : (chrs z).take (t + 1) = (chrs z).take t ++ [⟨#[c]⟩] := by rw [List.take_add_one, hk]; rfl
    show wipe _ _ = wipe _ _ ∧ _
    refine ⟨wipe_set, ?_⟩
    refine ht _ hm Gj ((e.trans e2).trans ej) Gj _ H4 (Ex.refl _) Aj _ fun G4 H4 e4 A4 => ?_
    cases hp : p ⟨#[c]⟩ with
    | false =>
      refine ⟨G4, acc, ej.trans e4, A4, ?_⟩
      rw [htk, List.filter_append, List.filter_cons, hp]
      simpa using rj.up e4
    | true =>
      refine he _ hm hp G4 ((e.trans e2).trans (ej.trans e4)) G4 _ H4 (Ex.refl _) A4 _ fun v5 G5 H5 e5 A5 r5 => ?_
      refine ⟨acc, A5.m _ _ upd_same, ?_, G5, acc ++ [v5], ej.trans (e4.trans e5), ?_, ?_⟩
      · rw [rj.len, List.length_map]
        refine sz_lt (Nat.lt_of_le_of_lt (Nat.le_trans (List.length_filter_le _ _) ?_) hn)
        rw [List.length_take, chrs_len]
        exact Nat.min_le_right _ _
      · have w := A5.wr (o := .lst (acc ++ [v5])) (upd_same (H := M) (a := D) (o := .lst acc))
        rw [upd_upd] at w
        exact w
      · rw [htk, List.filter_append, List.filter_cons, hp, List.map_append]
        exact (rj.up (e4.trans e5)).snoc r5
  · have e1 : t = z.cps.size := by omega
    subst e1
    have hl2 : (chrs z).take z.cps.size = chrs z := by rw [← chrs_len, List.take_length]
    rw [hl2] at rj
    have hM : M D = none := A2.mNone hD
    have hm := upd_same (H := M) (a := D) (o := HO.lst acc)
    exact .inl ⟨Nat.le_refl _, q _ _ _ ((e2.trans ej).trans (Aj.frzG hm)) (Aj.frz hm (Ex.new hM) hM) ⟨D, acc, rfl, upd_same, rj.up (Aj.frzG hm)⟩⟩
theorem s_forSI {z : Str} (Inv : Nat → L2.St → Hp → Hp → Prop) (h : TrD K te σ G (.str z)) (A : At G M H) (mono : ∀ {k : Nat} {σ1 : L2.St} {G1 G2 M1 : Hp}, Ex G1 G2 → Inv k σ1 G1 M1 → Inv k σ1 G2 M1)
    (h0 : Inv 0 σ G M)
    (hb : ∀ (k : Nat) c, (chrs z)[k]? = some c → ∀ σ1 G1 M1 H1, Ex G G1 → At G1 M1 H1 → Inv k σ1 G1 M1 → ∀ Nx : L2.St → Hp → Prop, (∀ σ2 G2 M2 H2, Ex G1 G2 → At G2 M2 H2 → Inv (k + 1) σ2 G2 M2 → Nx σ2 H2) →
      tbd { D with nx := Nx, ct := Nx, bk := D.nx } (σ1.set i (some (.str c))) H1)
    (hd : ∀ σ1 G1 M1 H1, Ex G G1 → At G1 M1 H1 → Inv (chrs z).length σ1 G1 M1 → D.nx σ1 H1) :
    tFor (iStr te) (gName i) tbd D σ H := by
  refine w_D h A fun v G2 H2 e2 A2 rv => ?_
  refine ⟨z, rv, ?_⟩
  refine ⟨fun t m σ' H' => m = z.cps.size - t ∧ t ≤ z.cps.size ∧ ∃ G3 M3, Ex G2 G3 ∧ At G3 M3 H' ∧ Inv t σ' G3 M3, ⟨z.cps.size, by simp, Nat.zero_le _, G2, M, Ex.refl _, A2, mono e2 h0⟩, ?_⟩
  rintro t m σ' H' ⟨rfl, ht, G3, M3, e3, A3, hI⟩
  by_cases hlt : t < z.cps.size
  · refine .inr ⟨hlt, fun σ' H' => ∃ G3 M3, Ex G2 G3 ∧ At G3 M3 H' ∧ Inv (t + 1) σ' G3 M3, fun σ2 H3 w => ⟨z.cps.size - (t + 1), by omega, rfl, hlt, w⟩, ?_⟩
    rintro x H4 ⟨rfl, c, hc, rfl⟩
    exact hb t _ (chrs_get hc) _ _ _ _ (e2.trans e3) A3 hI _ fun σ5 G5 M5 H5 e5 A5 i5 => ⟨G5, M5, e3.trans e5, A5, i5⟩
  · have e1 : t = (chrs z).length := by rw [chrs_len]; omega
    subst e1
    exact .inl ⟨by show z.cps.size ≤ _; rw [chrs_len]; exact Nat.le_refl _, hd σ' G3 M3 H' (e2.trans e3) A3 hI⟩
/-! ### [e for i, x in enumerate(list)] -/
theorem d_lcE {tl : TE} {p : Nat → PyData → Bool} {f : Nat → PyData → PyData} {g : TG} (hij : i ≠ j) (hl : TrD K tl σ G (.list ds)) (hn : ds.length < 100000) (hg : g = gTup K 2 (gCons (gName i) (gCons (gName j) gNil)))
    (ht : ∀ (k : Nat) d, ds[k]? = some d → ∀ x G1, Ex G G1 → Rp K G1 d x → TrB tt (((wipe σ [i, j]).set i (some (.int k))).set j (some x)) G1 (p k d))
    (he : ∀ (k : Nat) d, ds[k]? = some d → p k d = true → ∀ x G1, Ex G G1 → Rp K G1 d x → TrD K te (((wipe σ [i, j]).set i (some (.int k))).set j (some x)) G1 (f k d)) :
    TrD K (tLc (iEnum K (tCons tl tNil)) g tt te [i, j]) σ G (.list ((ds.zipIdx.filter fun q => p q.2 q.1).map fun q => f q.2 q.1)) := fun G1 M H e A Q q => by
  subst hg
  refine hl G1 M H e A _ fun v G2 H2 e2 A2 rv => ?_
  obtain ⟨a, xs, rfl, k1, k2⟩ := rv
  refine ⟨a, xs, rfl, SqL.of (A2.g _ _ k1), fun D hD => ?_⟩
  have hMD : M D = none := A2.mNone hD
  refine ⟨fun t m H3 => m = xs.length - t ∧ t ≤ xs.length ∧ ∃ Gj acc, Ex G2 Gj ∧ At Gj (upd M D (.lst acc)) H3 ∧ RpL K Gj (((ds.zipIdx.take t).filter fun q => p q.2 q.1).map fun q => f q.2 q.1) acc, ⟨xs.length, by simp, Nat.zero_le _, G2, [], Ex.refl _, A2.nm hD, rfl⟩, ?_⟩
  rintro t m H3 ⟨rfl, ht', Gj, acc, ej, Aj, rj⟩
  have hsq : SqL K H3 a xs := SqL.of (Aj.g _ _ (ej _ _ k1))
  by_cases hlt : t < xs.length
  · have hx : xs[t]? = some xs[t] := List.getElem?_eq_getElem hlt
    obtain ⟨d, hd, rd⟩ := k2.get hx
    refine .inr ⟨⟨xs, xs[t], hsq, hx⟩, fun H4 => ∃ Gj acc, Ex G2 Gj ∧ At Gj (upd M D (.lst acc)) H4 ∧ RpL K Gj (((ds.zipIdx.take (t + 1)).filter fun q => p q.2 q.1).map fun q => f q.2 q.1) acc, fun H4 w => ⟨xs.length - (t + 1), by omega, rfl, hlt, w⟩, ?_⟩
    rintro y H4 ⟨T, w, rfl, hT, rfl, hy⟩
    have ey : w = xs[t] := Option.some.inj ((hy xs hsq).symm.trans hx)
    subst ey
    have A4 := Aj.ng (o := HO.tup [.int t, xs[t]]) hT
    have e4 : Ex Gj (upd Gj T (.tup [.int t, xs[t]])) := Ex.new (Aj.gNone hT)
    have htk : ds.zipIdx.take (t + 1) = ds.zipIdx.take t ++ [(d, t)] := by
      rw [List.take_add_one]
      congr 1
      rw [List.getElem?_zipIdx, hd]
      simp
    refine ⟨T, [.int t, xs[t]], rfl, SqT.of upd_same, rfl, .int t, [xs[t]], rfl, xs[t], [], rfl, rfl, ?_⟩
    refine ⟨?_, ?_⟩
    · show (((((σ.set j none).set i none).set i (some (V.int t))).set j (some xs[t])).set j none).set i none = (σ.set j none).set i none
      rw [List.set_set, List.set_set, List.set_comm _ _ hij, List.set_set, List.set_set]
    refine ht t d hd _ _ ((e.trans e2).trans (ej.trans e4)) (rd.up (ej.trans e4)) _ _ _ (Ex.refl _) A4 _ fun G5 H5 e5 A5 => ?_
    cases hp : p t d with
    | false =>
      refine ⟨G5, acc, (ej.trans e4).trans e5, A5, ?_⟩
      rw [htk, List.filter_append, List.filter_cons, show p (d, t).2 (d, t).1 = false from hp]
      simpa using rj.up (e4.trans e5)
    | true =>
      refine he t d hd hp _ _ ((e.trans e2).trans ((ej.trans e4).trans e5)) (rd.up ((ej.trans e4).trans e5)) _ _ _ (Ex.refl _) A5 _ fun v6 G6 H6 e6 A6 r6 => ?_
      refine ⟨acc, A6.m _ _ upd_same, ?_, G6, acc ++ [v6], ((ej.trans e4).trans e5).trans e6, ?_, ?_⟩
      · rw [rj.len, List.length_map]
        refine sz_lt (Nat.lt_of_le_of_lt (Nat.le_trans (List.length_filter_le _ _) ?_) hn)
        rw [List.length_take, List.length_zipIdx]
        exact Nat.min_le_right _ _
      · have w := A6.wr (o := .lst (acc ++ [v6])) (upd_same (H := M) (a := D) (o := .lst acc))
        rw [upd_upd] at w
        exact w
      · rw [htk, List.filter_append, List.filter_cons, show p (d, t).2 (d, t).1 = true from hp, List.map_append]
        exact (rj.up ((e4.trans e5).trans e6)).snoc r6
  · have e1 : t = xs.length := by omega
    subst e1
    have hl2 : ds.zipIdx.take xs.length = ds.zipIdx := by rw [k2.len, ← List.length_zipIdx (i := 0), List.take_length]
    rw [hl2] at rj
    have hm := upd_same (H := M) (a := D) (o := HO.lst acc)
    exact .inl ⟨⟨xs, hsq, Nat.le_refl _⟩, q _ _ _ ((e2.trans ej).trans (Aj.frzG hm)) (Aj.frz hm (Ex.new hMD) hMD) ⟨D, acc, rfl, upd_same, rj.up (Aj.frzG hm)⟩⟩
/-! ### repeating, extending -/
theorem rd_rep {k : Int} (h0 : 0 ≤ k) (h1 : k ≤ 1000000) (h2 : ds.length * k.toNat ≤ 100000) : RD K rRep (.list ds) (.int k) (.list (List.replicate k.toNat ds).flatten) := fun G M H x y A ⟨a, xs, e1, r1, r2⟩ hy Q q => by
  have t63 : (2 : Int) ^ 63 = 9223372036854775808 := rfl
  refine ⟨a, k, xs, e1, hy, A.g _ _ r1, by omega, by omega, by rw [r2.len]; exact sz_of h2, fun p hp => q.newG A hp ⟨p, _, rfl, upd_same, ?_⟩⟩
  have r3 := r2.up (Ex.new (A.gNone hp) (o := .lst (List.replicate k.toNat xs).flatten))
  have all : ∀ n, RpL K (upd G p (.lst (List.replicate k.toNat xs).flatten)) (List.replicate n ds).flatten (List.replicate n xs).flatten := fun n => by
    induction n with
    | zero => exact rfl
    | succ n ih =>
      rw [List.replicate_succ, List.replicate_succ, List.flatten_cons, List.flatten_cons]
      exact r3.app ih
  exact all _
theorem rd_mulS {z : Str} {k : Int} (h : MulOk z k) : RD K rMulS (.str z) (.int k) (.str (Txt.mul z k)) := fun G M H x y A h1 h2 Q q => ⟨z, k, h1, h2, h, q.here A rfl⟩
theorem s_extT {xs : List V} (hi : σ[i]? = some (some (.ref p))) (hp : M p = some (.lst xs)) (h : TrD K te σ G (.tuple ds)) (hn : xs.length + ds.length ≤ 100000) (A : At G M H)
    (k : ∀ ys G' H', Ex G G' → At G' (upd M p (.lst (xs ++ ys))) H' → RpL K G' ds ys → D.nx σ H') : tDrop (tBM K "list" (rExtT K) (tVar i) (tCons te tNil)) D σ H := by
  refine ⟨.ref p, hi, Or.inl ⟨rfl, _, Or.inl (Or.inl (A.m _ _ hp))⟩, ?_⟩
  refine w_D h A fun v G2 H2 e2 A2 r => ?_
  obtain ⟨b, zs, rfl, h1, h2⟩ := r
  exact ⟨p, b, xs, zs, rfl, rfl, A2.m _ _ hp, A2.g.stt h1, by rw [h2.len]; exact sz_of hn, k zs G2 _ e2 (A2.wr hp) h2⟩
end
end Sb

namespace Sb
open PySem PySem.Spec PyProof.Rows L2
/-! ### what a split gives -/
theorem spl_bd (S : List Nat) : ∀ (l : List Nat) (k : Nat) (acc : List Nat), (TL.spl S k acc l).length ≤ l.length + 1 ∧ ∀ p ∈ TL.spl S k acc l, p.length ≤ acc.length + l.length ∧ ∀ c ∈ p, c ∈ acc ∨ c ∈ l
  | [], k, acc => by
    rw [TL.spl_nil]
    refine ⟨by simp, fun p hp => ?_⟩
    rw [List.mem_singleton.mp hp]
    exact ⟨by simp, fun c hc => .inl hc⟩
  | c :: r, 0, acc => by
    cases h : TL.pre S (c :: r) with
    | true =>
      rw [TL.spl_hit h]
      obtain ⟨h1, h2⟩ := spl_bd S r (S.length - 1) []
      refine ⟨by simp only [List.length_cons]; omega, fun p hp => ?_⟩
      rcases List.mem_cons.mp hp with rfl | hp
      · exact ⟨by omega, fun x hx => .inl hx⟩
      · obtain ⟨h3, h4⟩ := h2 p hp
        refine ⟨by simp only [List.length_cons, List.length_nil] at h3 ⊢; omega, fun x hx => .inr ?_⟩
        rcases h4 x hx with z | z
        · cases z
        · exact List.mem_cons_of_mem _ z
    | false =>
      rw [TL.spl_miss h]
      obtain ⟨h1, h2⟩ := spl_bd S r 0 (acc ++ [c])
      refine ⟨by simp only [List.length_cons]; omega, fun p hp => ?_⟩
      obtain ⟨h3, h4⟩ := h2 p hp
      rw [List.length_append, List.length_singleton] at h3
      refine ⟨by simp only [List.length_cons]; omega, fun x hx => ?_⟩
      rcases h4 x hx with z | z
      · rcases List.mem_append.mp z with z | z
        · exact .inl z
        · rw [List.mem_singleton.mp z]
          exact .inr (List.mem_cons_self ..)
      · exact .inr (List.mem_cons_of_mem _ z)
  | c :: r, k + 1, acc => by
    show (TL.spl S k acc r).length ≤ _ ∧ ∀ p ∈ TL.spl S k acc r, _
    obtain ⟨h1, h2⟩ := spl_bd S r k acc
    refine ⟨by simp only [List.length_cons]; omega, fun p hp => ?_⟩
    obtain ⟨h3, h4⟩ := h2 p hp
    refine ⟨by simp only [List.length_cons]; omega, fun x hx => ?_⟩
    rcases h4 x hx with z | z
    · exact .inl z
    · exact .inr (List.mem_cons_of_mem _ z)
theorem split_bd (x y : Str) (hy : TL.tl y ≠ []) (hk : y.cps.all (· < 256) = true) : (Txt.split x y).length ≤ x.length + 1 ∧ ∀ p ∈ Txt.split x y, p.length ≤ x.length ∧ ∀ c ∈ p.cps.toList, c ∈ x.cps.toList := by
  have e := TL.split_spl x y hy (TL.kind_ok hk)
  obtain ⟨h1, h2⟩ := spl_bd (TL.tl y) (TL.tl x) 0 []
  rw [← e] at h1 h2
  rw [List.length_map] at h1
  refine ⟨by rw [TL.len_tl]; exact h1, fun p hp => ?_⟩
  obtain ⟨h3, h4⟩ := h2 (TL.tl p) (List.mem_map.mpr ⟨p, hp, rfl⟩)
  refine ⟨by rw [TL.len_tl, TL.len_tl x]; simpa using h3, fun c hc => ?_⟩
  rcases h4 c hc with z | z
  · cases z
  · exact z
theorem mem_join {S : List Nat} {c : Nat} : ∀ {ps : List (List Nat)}, c ∈ TL.joinL S ps → c ∈ S ∨ ∃ p ∈ ps, c ∈ p
  | [], h => by cases h
  | [p], h => .inr ⟨p, List.mem_cons_self .., h⟩
  | p :: q :: r, h => by
    rcases List.mem_append.mp (show c ∈ p ++ (S ++ TL.joinL S (q :: r)) from h) with h1 | h1
    · exact .inr ⟨p, List.mem_cons_self .., h1⟩
    rcases List.mem_append.mp h1 with h2 | h2
    · exact .inl h2
    rcases mem_join h2 with h3 | ⟨u, hu, h3⟩
    · exact .inl h3
    · exact .inr ⟨u, List.mem_cons_of_mem _ hu, h3⟩
/-! ### digits -/
theorem mulOk_of {z : Str} {n : Int} (h0 : 0 ≤ n) (h1 : n ≤ 1000) (h2 : z.length ≤ 10000) : MulOk z n := by
  have t63 : (2 : Int) ^ 63 = 9223372036854775808 := rfl
  refine ⟨?_, fun h3 _ => ?_, fun h3 _ => ?_⟩
  · rw [decide_eq_false (by omega), decide_eq_false (by omega)]
    rfl
  · rw [t63]
    have hq : (9223372036854775 : Int) ≤ (9223372036854775808 - 1) / n := by
      have : (9223372036854775 : Int) * n ≤ 9223372036854775808 - 1 := by
        have := Int.mul_le_mul_of_nonneg_left h1 (show (0 : Int) ≤ 9223372036854775 by decide)
        omega
      exact (Int.le_ediv_iff_mul_le (by omega)).mpr this
    omega
  · refine decide_eq_false ?_
    have h4 : z.length * n.toNat ≤ 10000 * 1000 := Nat.mul_le_mul h2 (by omega)
    have h5 : (10000 * 1000 : Nat) ≤ sizeLine := by decide
    omega
theorem fold_cps : ∀ (k : Nat) (x : Array Nat) (a : Array Nat), ((List.replicate k x).foldl (· ++ ·) a).toList = a.toList ++ (List.replicate k x.toList).flatten
  | 0, x, a => by simp
  | k + 1, x, a => by
    rw [List.replicate_succ, List.foldl_cons, fold_cps k, Array.toList_append, List.replicate_succ, List.flatten_cons, List.append_assoc]
theorem mul_tl {z : Str} {n : Int} (h : 2 ≤ n) (hz : 0 < z.length) : (Txt.mul z n).cps.toList = (List.replicate n.toNat z.cps.toList).flatten := by
  unfold Txt.mul
  have e1 : ¬ n < 1 := by omega
  have e2 : ¬ ((n == 1 || z.length == 0) = true) := by
    have a1 : (n == 1) = false := by simpa using (show n ≠ 1 by omega)
    have a2 : (z.length == 0) = false := by simpa using (show z.length ≠ 0 by omega)
    rw [a1, a2]
    decide
  rw [if_neg e1, if_neg e2]
  show ((List.replicate n.toNat z.cps).foldl (· ++ ·) #[]).toList = _
  rw [fold_cps]
  rfl
theorem fold_bd : ∀ (l : List Nat) (a : Nat), NumText.AllDigits l → a * 10 ^ l.length ≤ l.foldl (fun acc c => acc * 10 + (c - 48)) a ∧ l.foldl (fun acc c => acc * 10 + (c - 48)) a < (a + 1) * 10 ^ l.length
  | [], a, _ => by simp
  | c :: l, a, h => by
    obtain ⟨h1, h2⟩ := fold_bd l (a * 10 + (c - 48)) h.tail
    have hc := h.head
    rw [List.foldl_cons, List.length_cons, Nat.pow_succ]
    have e1 : a * (10 ^ l.length * 10) ≤ (a * 10 + (c - 48)) * 10 ^ l.length := by
      rw [Nat.mul_comm (10 ^ l.length) 10, ← Nat.mul_assoc]
      exact Nat.mul_le_mul_right _ (by omega)
    have e2 : (a * 10 + (c - 48) + 1) * 10 ^ l.length ≤ (a + 1) * (10 ^ l.length * 10) := by
      rw [Nat.mul_comm (10 ^ l.length) 10, ← Nat.mul_assoc]
      exact Nat.mul_le_mul_right _ (by omega)
    exact ⟨Nat.le_trans e1 h1, Nat.lt_of_lt_of_le h2 e2⟩
theorem val_bd {l : List Nat} (h : NumText.AllDigits l) : NumText.digitsVal l < 10 ^ l.length := by
  have z := (fold_bd l 0 h).2
  rw [Nat.zero_add, Nat.one_mul] at z
  exact z
theorem val_pos {c : Nat} {l : List Nat} (h : NumText.AllDigits (c :: l)) (hc : c ≠ 48) : 1 ≤ NumText.digitsVal (c :: l) := by
  have hd := h.head
  have z := (fold_bd l (0 * 10 + (c - 48)) h.tail).1
  have hp : 1 ≤ 10 ^ l.length := Nat.pow_pos (by decide)
  have : 1 * 1 ≤ (0 * 10 + (c - 48)) * 10 ^ l.length := Nat.mul_le_mul (by omega) hp
  exact Nat.le_trans this z
/-- a number above 0 does not begin with 0 -/
theorem num_head : ∀ n : Nat, 1 ≤ n → ∃ c l, TL.numL n = c :: l ∧ c ≠ 48 := by
  intro n
  induction n using Nat.strongRecOn with
  | _ n ih =>
    intro h
    by_cases h10 : n < 10
    · rw [TL.numL_lt h10]
      exact ⟨48 + n, [], rfl, by omega⟩
    · obtain ⟨c, l, e, hc⟩ := ih (n / 10) (by omega) (by omega)
      rw [TL.numL_step (by omega), e]
      exact ⟨c, l ++ [48 + n % 10], rfl, hc⟩
/-! ### lists of numbers are equal to themselves -/
theorem eqvA_ints : ∀ a b : List Int, PyData.eqvAll (dInts a) (dInts b) = decide (a = b)
  | [], [] => rfl
  | [], y :: b => by simp [dInts, PyData.eqvAll]
  | x :: a, [] => by simp [dInts, PyData.eqvAll]
  | x :: a, y :: b => by
    show (PyData.eqv (.int x) (.int y) && PyData.eqvAll (dInts a) (dInts b)) = _
    rw [eqvA_ints a b]
    have e : PyData.eqv (.int x) (.int y) = decide (x = y) := by
      simp only [PyData.eqv]
      by_cases h : x = y <;> simp [h]
    rw [e]
    by_cases h1 : x = y <;> by_cases h2 : a = b <;> simp [h1, h2]
theorem eqv_ints (a b : List Int) : PyData.eqv (.list (dInts a)) (.list (dInts b)) = decide (a = b) := by
  simp only [PyData.eqv]
  exact eqvA_ints a b
theorem shaped_intsL (ns : List Int) : SeqAt.shaped (.list (dInts ns)) = true := by
  have z := shaped_ints ns
  unfold SeqAt.shaped at z ⊢
  simpa [PyData.canLay0, PyData.depth] using z
section
variable {K : PySem.W.Frag} {σ : L2.St} {G : Hp} {M0 : Hp} {te : TE} {n n' : Nat} {r : Addr} {Φ Φ1 : PyData → Prop}
/-- a.join(xs), xs drawn -/
theorem e_join {a : Str} {Ψ : List Str → Prop} (h : TrE K r M0 te σ G n n' fun d => ∃ ys, d = .list (dStrs ys) ∧ Ψ ys) (hz : ∀ ys, Ψ ys → (ys.map (·.length)).sum + ys.length * a.length ≤ 16777216) (hΦ : ∀ ys, Ψ ys → Φ (.str (Txt.join a ys))) :
    TrE K r M0 (tM1 (fun x xs H Q => ∃ a p, ∃ ys : List Str, x = .str a ∧ xs = [.ref p] ∧ (SqL K H p (ys.map V.str) ∨ SqT K H p (ys.map V.str)) ∧ (ys.map (·.length)).sum + ys.length * a.length ≤ 16777216 ∧ Q (.str (Txt.join a ys)) H) (tC (.str a)) te) σ G n n' Φ := fun G1 M H e A S R Q q => by
  refine ⟨⟨a, rfl⟩, ?_⟩
  refine h G1 M H e A S R _ fun d v G2 M2 H2 e2 A2 S2 R2 hd rv => ?_
  obtain ⟨ys, rfl, hy⟩ := hd
  obtain ⟨p, rfl, hp⟩ := rv.ls
  exact ⟨a, p, ys, rfl, rfl, .inl (SqL.of (A2.g _ _ hp)), hz ys hy, q _ _ G2 M2 H2 e2 A2 S2 R2 (hΦ ys hy) rfl⟩
end
end Sb

namespace Sb
open PySem PySem.Spec PyProof.Rows L2
abbrev joinR {K : PySem.W.Frag} : V → List V → Hp → VK → Prop := fun x xs H Q => ∃ a p, ∃ ys : List Str, x = .str a ∧ xs = [.ref p] ∧ (SqL K H p (ys.map V.str) ∨ SqT K H p (ys.map V.str)) ∧ (ys.map (·.length)).sum + ys.length * a.length ≤ 16777216 ∧ Q (.str (Txt.join a ys)) H
section
variable {K : PySem.W.Frag} {σ : L2.St} {G G' M M0 M1 H : Hp} {ta tb te tc : TE} {d d1 d2 d3 : PyData} {tt t u : TT} {ts : TA} {ds es : List PyData} {Q : VK} {D : Ends} {s1 s2 tbd : TS} {i j l n m n' : Nat} {r p a : Addr} {o : HO} {Φ Φ1 : PyData → Prop}
/-! ### assignments of two and of three names -/
theorem s_par (ha : TrD K ta σ G d1) (hb : TrD K tb σ G d2) (A : At G M H) (k : ∀ v w G' H', Ex G G' → At G' M H' → Rp K G' d1 v → Rp K G' d2 w → D.nx ((σ.set i (some v)).set j (some w)) H') : tPar i j (tCons ta (tCons tb tNil)) D σ H := by
  refine w_A (a_cons ha (a_cons hb a_nil)) A fun vs G1 H1 e1 A1 r1 => ?_
  obtain ⟨v, _, rfl, h1, w, _, rfl, h2, rfl⟩ := r1
  exact ⟨v, w, rfl, k v w G1 H1 e1 A1 h1 h2⟩
theorem s_par3 (ha : TrD K ta σ G d1) (hb : TrD K tb σ G d2) (hc : TrD K tc σ G d3) (A : At G M H) (k : ∀ v w x G' H', Ex G G' → At G' M H' → Rp K G' d1 v → Rp K G' d2 w → Rp K G' d3 x → D.nx (((σ.set i (some v)).set j (some w)).set l (some x)) H') : tPar3 i j l (tCons ta (tCons tb (tCons tc tNil))) D σ H := by
  refine w_A (a_cons ha (a_cons hb (a_cons hc a_nil))) A fun vs G1 H1 e1 A1 r1 => ?_
  obtain ⟨v, _, rfl, h1, w, _, rfl, h2, x, _, rfl, h3, rfl⟩ := r1
  exact ⟨v, w, x, rfl, k v w x G1 H1 e1 A1 h1 h2 h3⟩
/-! ### comparisons of texts -/
theorem rd_geS {x y : Str} : RD K (fun x y H Q => ∃ i j, x = .str i ∧ y = .str j ∧ Q (.bl (!decide (i.cps.toList < j.cps.toList))) H) (.str x) (.str y) (.bool (!decide (x.cps.toList < y.cps.toList))) :=
  fun G M H v u A h1 h2 Q q => ⟨x, y, h1, h2, q.here A rfl⟩
/-! ### range(a, b) -/
theorem s_forR2 (Inv : Nat → L2.St → Hp → Hp → Prop) {lo hi : Int} (ha : TrD K ta σ G (.int lo)) (hb : TrD K tb σ G (.int hi)) (h1 : -(2 ^ 62) ≤ lo ∧ lo < 2 ^ 62) (h2 : -(2 ^ 62) ≤ hi ∧ hi < 2 ^ 62) (A : At G M H) (mono : ∀ {k : Nat} {σ1 : L2.St} {G1 G2 M1 : Hp}, Ex G1 G2 → Inv k σ1 G1 M1 → Inv k σ1 G2 M1)
    (h0 : Inv 0 σ G M)
    (hs : ∀ (k : Nat), lo + (k : Int) < hi → ∀ σ1 G1 M1 H1, Ex G G1 → At G1 M1 H1 → Inv k σ1 G1 M1 → ∀ Nx : L2.St → Hp → Prop, (∀ σ2 G2 M2 H2, Ex G1 G2 → At G2 M2 H2 → Inv (k + 1) σ2 G2 M2 → Nx σ2 H2) →
      tbd { D with nx := Nx, ct := Nx, bk := D.nx } (σ1.set i (some (.int (lo + (k : Int))))) H1)
    (hd : ∀ σ1 G1 M1 H1, Ex G G1 → At G1 M1 H1 → Inv (hi - lo).toNat σ1 G1 M1 → D.nx σ1 H1) :
    tFor (iRng2 (tCons ta (tCons tb tNil))) (gName i) tbd D σ H := by
  refine w_A (a_cons ha (a_cons hb a_nil)) A fun vs G2 H2 e2 A2 rv => ?_
  obtain ⟨v, _, rfl, h3, w, _, rfl, h4, rfl⟩ := rv
  refine ⟨lo, hi, by rw [show v = V.int lo from h3, show w = V.int hi from h4], ⟨h1.1, h1.2, h2.1, h2.2⟩, ?_⟩
  refine for_range (lo := lo) (n := (hi - lo).toNat) (fun t σ' H' => ∃ G3 M3, Ex G2 G3 ∧ At G3 M3 H' ∧ Inv t σ' G3 M3) ⟨G2, M, Ex.refl _, A2, mono e2 h0⟩ ?_ ?_
  · rintro t σ' H' hx ⟨G3, M3, e3, A3, hI⟩
    exact hs t (by omega) _ _ _ _ (e2.trans e3) A3 hI _ fun σ5 G5 M5 H5 e5 A5 i5 => ⟨G5, M5, e3.trans e5, A5, i5⟩
  · rintro σ' H' ⟨G3, M3, e3, A3, hI⟩
    exact hd σ' G3 M3 H' (e2.trans e3) A3 hI
end
end Sb

namespace Sb
open PySem PySem.Spec PyProof.Rows L2
section
variable (K : PySem.W.Frag)
/-! ### texts and lists of texts of which only bounds are known -/
def SS (te : TE) (σ : L2.St) (G : Hp) (m : Nat) : Prop := ∃ x : Str, TrD K te σ G (.str x) ∧ x.length ≤ m
def SL (te : TE) (σ : L2.St) (G : Hp) (n m : Nat) : Prop := ∃ ls : List Str, TrD K te σ G (.list (dStrs ls)) ∧ ls.length ≤ n ∧ ∀ w ∈ ls, w.length ≤ m
end
section
variable {K : PySem.W.Frag} {σ : L2.St} {G G' M M0 M1 H : Hp} {ta tb te tc : TE} {d d1 d2 d3 : PyData} {tt t u : TT} {ts : TA} {ds es : List PyData} {Q : VK} {D : Ends} {s1 s2 tbd : TS} {i j l n m n' m' n1 n2 : Nat} {r p a : Addr} {o : HO} {Φ Φ1 : PyData → Prop}
theorem dS_len (a : List Str) : (dStrs a).length = a.length := List.length_map ..
theorem dS_app (a b : List Str) : dStrs (a ++ b) = dStrs a ++ dStrs b := List.map_append ..
theorem SS.le (h : SS K te σ G m) (e : m ≤ m') : SS K te σ G m' := let ⟨x, h1, h2⟩ := h; ⟨x, h1, Nat.le_trans h2 e⟩
theorem SL.le (h : SL K te σ G n m) (e : n ≤ n') (e2 : m ≤ m') : SL K te σ G n' m' := let ⟨x, h1, h2, h3⟩ := h; ⟨x, h1, Nat.le_trans h2 e, fun w hw => Nat.le_trans (h3 w hw) e2⟩
theorem ss_str {x : Str} (h : x.length ≤ m) : SS K (tC (.str x)) σ G m := ⟨x, d_str, h⟩
theorem ss_var {x : Str} {v : V} (hi : σ[i]? = some (some v)) (r : Rp K G (.str x) v) (h : x.length ≤ m) : SS K (tVar i) σ G m := ⟨x, d_var hi r, h⟩
theorem sl_var {ls : List Str} {v : V} (hi : σ[i]? = some (some v)) (r : Rp K G (.list (dStrs ls)) v) (h : ls.length ≤ n) (h2 : ∀ w ∈ ls, w.length ≤ m) : SL K (tVar i) σ G n m := ⟨ls, d_var hi r, h, h2⟩
theorem sl_cat (ha : SL K ta σ G n1 m) (hb : SL K tb σ G n2 m) (hn : n1 + n2 ≤ 100000) : SL K (tOp rCat ta tb) σ G (n1 + n2) m := by
  obtain ⟨x, h1, h2, h3⟩ := ha
  obtain ⟨y, k1, k2, k3⟩ := hb
  refine ⟨x ++ y, TrD.to (d_op h1 k1 (rd_cat (by rw [dS_len, dS_len]; omega))) (by rw [dS_app]), by rw [List.length_append]; omega, fun w hw => ?_⟩
  rcases List.mem_append.mp hw with z | z
  · exact h3 w z
  · exact k3 w z
theorem sl_nil : SL K (tLst tNil) σ G 0 m := ⟨[], d_lst a_nil (Nat.zero_le _), Nat.le_refl _, fun w hw => (by cases hw)⟩
theorem sl_one (h : SS K te σ G m) : SL K (tLst (tCons te tNil)) σ G 1 m := by
  obtain ⟨x, h1, h2⟩ := h
  exact ⟨[x], d_lst (a_cons h1 a_nil) (Nat.le_of_ble_eq_true rfl), Nat.le_refl _, fun w hw => by rw [List.mem_singleton.mp hw]; exact h2⟩
theorem sl_cut {tl th : TO} {lo hi : Option Int} (h : SL K te σ G n m) (h1 : TrO tl σ G lo) (h2 : TrO th σ G hi) : SL K (tSl (rSlL K) te tl th) σ G n m := by
  obtain ⟨x, k1, k2, k3⟩ := h
  refine ⟨(x.drop (HT.sIx x.length 0 lo)).take (HT.sIx x.length x.length hi - HT.sIx x.length 0 lo), TrD.to (d_slL k1 h1 h2) ?_, ?_, fun w hw => k3 w (List.mem_of_mem_drop (List.mem_of_mem_take hw))⟩
  · unfold Sb.cutD
    rw [dS_len]
    unfold dStrs
    rw [List.map_take, List.map_drop]
  · rw [List.length_take, List.length_drop]
    omega
theorem ss_ix {ls : List Str} {v : V} {k : Nat} (hi : σ[i]? = some (some v)) (r : Rp K G (.list (dStrs ls)) v) (hb : TrD K tb σ G (.int (k : Int))) (hk : k < ls.length) (h2 : ∀ w ∈ ls, w.length ≤ m) : SS K (tOp (rIxL K) (tVar i) tb) σ G m := by
  refine ⟨ls[k], d_op (d_var hi r) hb (rd_ixL ?_), h2 _ (List.getElem_mem _)⟩
  unfold L2.atI ixN
  rw [if_pos (by omega), if_pos (by rw [dS_len]; omega)]
  show (dStrs ls)[(k : Int).toNat]? = _
  rw [Int.toNat_natCast]
  unfold dStrs
  rw [List.getElem?_map, List.getElem?_eq_getElem hk]
  rfl
theorem ss_add (ha : SS K ta σ G n1) (hb : SS K tb σ G n2) (hn : n1 + n2 ≤ 100000) : SS K (tOp (fun x y H Q => ∃ i j, x = V.str i ∧ y = V.str j ∧ i.length + j.length ≤ sizeLine ∧ Q (V.str (i ++ j)) H) ta tb) σ G (n1 + n2) := by
  obtain ⟨x, h1, h2⟩ := ha
  obtain ⟨y, k1, k2⟩ := hb
  refine ⟨x ++ y, d_op h1 k1 (rd_addS (sz_of (by omega))), ?_⟩
  rw [strLen_append]
  omega
theorem sum_bd {ls : List Str} {c : Nat} (h : ∀ s ∈ ls, s.length ≤ c) : (ls.map (·.length)).sum ≤ ls.length * c := by
  induction ls with
  | nil => simp
  | cons a l ih =>
    have h1 := h a (List.mem_cons_self ..)
    have h2 := ih fun s hs => h s (List.mem_cons_of_mem _ hs)
    rw [List.map_cons, List.sum_cons, List.length_cons, Nat.succ_mul]
    omega
theorem join_bd1 {a : Str} {ls : List Str} (ha : a.length = 1) (h2 : ls.length ≤ n) (h3 : ∀ w ∈ ls, w.length ≤ m) : (ls.map (·.length)).sum + ls.length * a.length ≤ n * (m + 1) := by
  have h4 := sum_bd h3
  rw [ha, Nat.mul_succ n m, Nat.mul_one]
  have h5 : ls.length * m ≤ n * m := Nat.mul_le_mul_right _ h2
  omega
theorem ss_join {a : Str} (ha : a.length = 1) (h : SL K te σ G n m) (hz : n * (m + 1) ≤ 16777216) : SS K (tM1 (fun x xs H Q => ∃ a p, ∃ ys : List Str, x = .str a ∧ xs = [.ref p] ∧ (SqL K H p (ys.map V.str) ∨ SqT K H p (ys.map V.str)) ∧ (ys.map (·.length)).sum + ys.length * a.length ≤ 16777216 ∧ Q (.str (Txt.join a ys)) H) (tC (.str a)) te) σ G (n * (m + 1)) := by
  obtain ⟨x, h1, h2, h3⟩ := h
  have hb := join_bd1 ha h2 h3
  refine ⟨Txt.join a x, d_join d_str h1 (Nat.le_trans hb hz), ?_⟩
  rw [TL.join_eq]
  exact Nat.le_trans (StrLaws.join_length_le _ _) hb
theorem sl_ins {k : Int} (h : SL K (tVar i) σ G n m) (hj : TrD K (tVar j) σ G (.int k)) (he : SS K te σ G m) (hn : n + 1 + n ≤ 100000) : SL K (tOp rCat (tOp rCat (tSl (rSlL K) (tVar i) tNoPart (tPart (tVar j))) (tLst (tCons te tNil))) (tSl (rSlL K) (tVar i) (tPart (tVar j)) tNoPart)) σ G (n + 1 + n) m :=
  sl_cat (sl_cat (sl_cut h o_none (o_some hj)) (sl_one he) (by omega)) (sl_cut h (o_some hj) o_none) hn
theorem sl_put {k : Int} (h : SL K (tVar i) σ G n m) (hj : TrD K (tVar j) σ G (.int k)) (he : SS K te σ G m) (hn : n + 1 + n ≤ 100000) : SL K (tOp rCat (tOp rCat (tSl (rSlL K) (tVar i) tNoPart (tPart (tVar j))) (tLst (tCons te tNil))) (tSl (rSlL K) (tVar i) (tPart (tOp (rI0 fun i j => V.int (i + j)) (tVar j) (tC (V.int 1)))) tNoPart)) σ G (n + 1 + n) m :=
  sl_cat (sl_cat (sl_cut h o_none (o_some hj)) (sl_one he) (by omega)) (sl_cut h (o_some (d_op hj d_int rd_add)) o_none) hn
theorem e_SL (h : SL K te σ G n1 m) : TrE K r M0 te σ G n n fun d => ∃ l, d = .list (dStrs l) ∧ l.length ≤ n1 ∧ ∀ w ∈ l, w.length ≤ m := let ⟨l, h1, h2, h3⟩ := h; e_D h1 ⟨l, rfl, h2, h3⟩
theorem e_SS (h : SS K te σ G m) : TrE K r M0 te σ G n n fun d => ∃ l, d = .str l ∧ l.length ≤ m := let ⟨l, h1, h2⟩ := h; e_D h1 ⟨l, rfl, h2⟩
/-! ### a written list of lists of texts -/
def dLL (lls : List (List Str)) : List PyData := lls.map fun l => .list (dStrs l)
def okLL (n m : Nat) (lls : List (List Str)) : Prop := ∀ l ∈ lls, l.length ≤ n ∧ ∀ w ∈ l, w.length ≤ m
theorem okLL.app {a b : List (List Str)} (h : okLL n m a) (k : okLL n m b) : okLL n m (a ++ b) := fun l hl => by
  rcases List.mem_append.mp hl with z | z
  · exact h l z
  · exact k l z
theorem okLL.nil : okLL n m [] := fun _ h => (by cases h)
theorem dLL_len (a : List (List Str)) : (dLL a).length = a.length := List.length_map ..
theorem dLL_app (a b : List (List Str)) : dLL (a ++ b) = dLL a ++ dLL b := List.map_append ..
def SLL (K : PySem.W.Frag) (ts : TA) (σ : L2.St) (G : Hp) (c n m : Nat) : Prop := ∃ lls : List (List Str), TrA K ts σ G (dLL lls) ∧ lls.length = c ∧ okLL n m lls
theorem sll_nil : SLL K tNil σ G 0 n m := ⟨[], a_nil, rfl, okLL.nil⟩
theorem sll_cons {c : Nat} (h : SL K te σ G n m) (k : SLL K ts σ G c n m) : SLL K (tCons te ts) σ G (c + 1) n m := by
  obtain ⟨l, h1, h2, h3⟩ := h
  obtain ⟨ls, k1, k2, k3⟩ := k
  refine ⟨l :: ls, a_cons h1 k1, by rw [List.length_cons, k2], fun x hx => ?_⟩
  rcases List.mem_cons.mp hx with rfl | hx
  · exact ⟨h2, h3⟩
  · exact k3 x hx
theorem cut_ex {xs : HO} : Ex (cutG M p) (upd M p xs) := fun a o h => by
  by_cases e : a = p
  · rw [e, cut_none] at h
    cases h
  · rw [upd_ne e]
    have h' : (if a = p then none else M a) = some o := h
    rw [if_neg e] at h'
    exact h'
theorem At.frzC {xs : List V} (A : At G (upd M p (.lst xs)) H) (r : RpL K G ds xs) : ∃ G', Ex G G' ∧ At G' (cutG M p) H ∧ Rp K G' (.list ds) (.ref p) :=
  have hm := upd_same (H := M) (a := p) (o := HO.lst xs)
  ⟨_, A.frzG hm, A.frz hm cut_ex cut_none, p, xs, rfl, upd_same, r.up (A.frzG hm)⟩
theorem RL.cut (h : RL r n M) (e : p ≠ r) : RL r n (cutG M p) := by
  obtain ⟨a, b, c, h1, h2⟩ := h
  exact ⟨a, b, c, by show (if r = p then none else M r) = _; rw [if_neg (Ne.symm e)]; exact h1, h2⟩
/-- what stood before stands, the reel apart -/
def Kp (r : Addr) (M M1 : Hp) : Prop := ∀ x, x ≠ r → ∀ o, M x = some o → M1 x = some o
theorem Kp.refl : Kp r M M := fun _ _ _ h => h
theorem Kp.same (h : Kp r M M1) (S : Same r M1 M0) : Kp r M M0 := fun x hx o e => (S x hx).trans (h x hx o e)
theorem Kp.none (h : Kp r M M1) (e : M1 p = none) (hp : p ≠ r) : M p = none := by
  cases z : M p with
  | none => rfl
  | some o =>
    rw [h p hp o z] at e
    cases e
theorem Kp.upd (h : Kp r M M1) (e : M p = Option.none) : Kp r M (L2.upd M1 p o) := fun x hx u z => by
  have hne : x ≠ p := fun y => by rw [y, e] at z; cases z
  rw [upd_ne hne]
  exact h x hx u z
theorem Kp.cut (h : Kp r M M1) (e : M p = Option.none) : Kp r M (cutG M1 p) := fun x hx u z => by
  have hne : x ≠ p := fun y => by rw [y, e] at z; cases z
  show (if x = p then Option.none else M1 x) = _
  rw [if_neg hne]
  exact h x hx u z
theorem upd_id (h : M p = some o) : L2.upd M p o = M := by
  funext x
  by_cases e : x = p
  · rw [e, upd_same, h]
  · rw [upd_ne e]
/-- x = x + [..], x a list that is written -/
theorem q_grow {xs : List V} (A : At G (upd M p (.lst xs)) H) (r : RpL K G ds xs) (hi : σ[i]? = some (some (.ref p))) (hb : ∀ G', Ex G G' → TrA K ts σ G' es) (hn : ds.length + es.length ≤ 100000)
    (k : ∀ p' xs' G' H', Ex G G' → cutG M p p' = none → At G' (upd (cutG M p) p' (.lst xs')) H' → RpL K G' (ds ++ es) xs' → s2 D (σ.set i (some (.ref p'))) H') : tSeq (tAsg (tOp rCat (tVar i) (tLst ts)) (gName i)) s2 D σ H := by
  obtain ⟨G1, e1, A1, r1⟩ := A.frzC r
  exact q_newCat (d_var hi r1) (d_lst (hb G1 e1) (by omega)) hn A1 fun p' xs' G' H' e' hM _ A' r' => k p' xs' G' H' (e1.trans e') hM A' r'
theorem q_app {xs : List V} (A : At G (upd M p (.lst xs)) H) (r : RpL K G ds xs) (hi : σ[i]? = some (some (.ref p))) (hb : TrD K te σ G d) (hn : ds.length < 100000)
    (k : ∀ xs' G' H', Ex G G' → At G' (upd M p (.lst xs')) H' → RpL K G' (ds ++ [d]) xs' → s2 D σ H') : tSeq (tDrop (tBM K "list" rAppend (tVar i) (tCons te tNil))) s2 D σ H := by
  refine q_append hi upd_same hb (by rw [r.len]; exact hn) A fun v G' H' e' A' r' => ?_
  rw [upd_upd] at A'
  exact k _ G' H' e' A' ((r.up e').snoc r')
theorem s_app {xs : List V} (A : At G (upd M p (.lst xs)) H) (r : RpL K G ds xs) (hi : σ[i]? = some (some (.ref p))) (hb : TrD K te σ G d) (hn : ds.length < 100000)
    (k : ∀ xs' G' H', Ex G G' → At G' (upd M p (.lst xs')) H' → RpL K G' (ds ++ [d]) xs' → D.nx σ H') : tDrop (tBM K "list" rAppend (tVar i) (tCons te tNil)) D σ H := by
  refine s_append hi upd_same hb (by rw [r.len]; exact hn) A fun v G' H' e' A' r' => ?_
  rw [upd_upd] at A'
  exact k _ G' H' e' A' ((r.up e').snoc r')
/-- x.append(e), e drawn -/
theorem q_appE {xs : List V} (hi : σ[i]? = some (some (.ref p))) (hp : M0 p = some (.lst xs)) (hn : p ≠ r) (hl : xs.length < 100000) (h : TrE K r M0 te σ G n n' Φ) (A : At G M H) (S : Same r M0 M) (R : RL r n M)
    (k : ∀ d v G' M' H', Ex G G' → At G' M' H' → Same r (upd M0 p (.lst (xs ++ [v]))) M' → RL r n' M' → Φ d → Rp K G' d v → s2 D σ H') : tSeq (tDrop (tBM K "list" rAppend (tVar i) (tCons te tNil))) s2 D σ H := by
  refine ⟨.ref p, hi, Or.inl ⟨rfl, _, Or.inl (Or.inl (A.m _ _ ((S p hn).trans hp)))⟩, ?_⟩
  refine h G M H (Ex.refl _) A S R _ fun d v G2 M2 H2 e2 A2 S2 R2 hd rv => ?_
  have hM2 : M2 p = some (.lst xs) := (S2 p hn).trans hp
  refine ⟨p, xs, v, rfl, rfl, A2.m _ _ hM2, sz_lt hl, k d v G2 _ _ e2 (A2.wr hM2) (fun x hx => ?_) (R2.upd hn) hd rv⟩
  by_cases e : x = p
  · subst e
    rw [upd_same, upd_same]
  · rw [upd_ne e, upd_ne e]
    exact S2 x hx
end
end Sb

namespace Sb
open PySem PySem.Spec PyProof.Rows L2
/-! ### repr of a list of small numbers -/
def smallI (n : Int) : Prop := 0 ≤ n ∧ n < 1000000000000000000
theorem small_log {n : Int} (h : smallI n) : n.natAbs.log2 < 64 := by
  obtain ⟨h0, h1⟩ := h
  by_cases z : n.natAbs = 0
  · rw [z]
    decide
  · exact (Nat.log2_lt z).mpr (by have : (2 : Nat) ^ 64 = 18446744073709551616 := rfl; omega)
theorem rc_ints {K : PySem.W.Frag} {ns : List Int} (h : ∀ n ∈ ns, smallI n) (hl : ns.length ≤ 1000) : RC K (rRepr K) [.list (dInts ns)] (.str (PyData.shown (.list (dInts ns)))) := by
  have h1 : ∀ ns : List Int, noDics (dInts ns) = true := fun ns => by
    induction ns with
    | nil => rfl
    | cons n ns ih => show (noDic (.int n) && noDics (dInts ns)) = true; rw [ih]; rfl
  have h2 : ∀ ns : List Int, (∀ n ∈ ns, smallI n) → PyData.showableAll (dInts ns) = true ∧ PyData.depthAll (dInts ns) = 0 ∧ fiSA (dInts ns) = true ∧ wSA (dInts ns) ≤ 20 * ns.length := fun ns => by
    induction ns with
    | nil => exact fun _ => ⟨rfl, rfl, rfl, Nat.le_refl _⟩
    | cons n ns ih =>
      intro h
      obtain ⟨a, b, c, d⟩ := ih fun x hx => h x (List.mem_cons_of_mem _ hx)
      have hn := h n (List.mem_cons_self ..)
      refine ⟨?_, ?_, ?_, ?_⟩
      · show (PyData.showable (.int n) && PyData.showableAll (dInts ns)) = true
        rw [a, Bool.and_true]
        exact decide_eq_true (Nat.lt_trans (small_log hn) (by decide))
      · show max (PyData.depth (.int n)) (PyData.depthAll (dInts ns)) = 0
        rw [b]
        rfl
      · show (fiS (.int n) && fiSA (dInts ns)) = true
        rw [c, Bool.and_true]
        show (decide (0 ≤ n) && decide (n < 1000000000000000000)) = true
        rw [decide_eq_true hn.1, decide_eq_true hn.2]
        rfl
      · show wS (.int n) + 2 + wSA (dInts ns) ≤ _
        rw [List.length_cons]
        show 18 + 2 + _ ≤ _
        omega
  obtain ⟨a, b, c, d⟩ := h2 ns h
  refine rc_repr (.inr (h1 ns)) rfl a ?_ ?_
  · show PyData.depthAll (dInts ns) + 1 ≤ 60
    rw [b]
    decide
  · refine Nat.le_trans (shown_le (.list (dInts ns)) ?_) ?_
    · show fiSA (dInts ns) = true
      exact c
    · show 2 + wSA (dInts ns) ≤ sizeLine
      have h7 : (20 * 1000 + 2 : Nat) ≤ sizeLine := by decide
      omega
end Sb
namespace Sb
open PySem PySem.Spec PyProof.Rows L2
section
variable {K : PySem.W.Frag} {σ : L2.St} {G G' M M0 M1 H : Hp} {ta tb te tc : TE} {ts : TA} {D : Ends} {s1 s2 : TS} {i n n' : Nat} {r : Addr} {Φ : PyData → Prop} {Ψ : List PyData → Prop}
theorem e_callP {R : List PyData → PyData → Prop} {E : XK} (h : TrEA K r M0 ts σ G n n' Ψ) (hr : ∀ ds, Ψ ds → ∃ d, R ds d ∧ Φ d) : TrE K r M0 (tCall (PSp K R) [] E ts) σ G n n' Φ := fun G1 M H e A S Rr Q q => by
  refine h G1 M H e A S Rr _ fun ds vs G2 M2 H2 e2 A2 S2 R2 hd rv => ?_
  obtain ⟨d, h1, h2⟩ := hr ds hd
  exact ⟨G2, M2, ds, d, A2, by rw [List.append_nil]; exact rv, h1, fun v G' H' e' A' r' => q d v G' M2 H' (e2.trans e') A' S2 R2 h2 r'⟩
theorem s_ifE (h : TrE K r M0 te σ G n n' fun d => d = .bool true) (A : At G M H) (S : Same r M0 M) (R : RL r n M) (k : ∀ G' M' H', Ex G G' → At G' M' H' → Same r M0 M' → RL r n' M' → s2 D σ H') : tIfS (tNot (tB te)) s1 s2 D σ H := by
  refine h G M H (Ex.refl _) A S R _ fun d v G' M' H' e A' S' R' hd rv => ?_
  subst hd
  exact ⟨true, rv, k G' M' H' e A' S' R'⟩
end
end Sb

namespace Sb
section
open PySem PySem.Spec PyProof.Rows HotX
variable {prog : Program} {w : World} {A : Around} {E : Value → Shared → Prop} {s : Shared}
/-! ### the end of a list, of a tuple, while an exception is handled -/
theorem list_end_hot {it l x1 : Addr} {i : Nat} {items : Array Value} {Q : Option Value → Shared → Prop} (hot : HotAt A x1 s.heap)
    (hit : s.heap.IsListIter it l i) (hl : s.heap.IsList l items) (hx : items[i]? = none)
    (hQ : ∀ h', Heap.ExtBut it s.heap h' → Q none { s with heap := h' }) : wpAny (model prog w) A (pyNext (.ref it)) Q E s := by
  obtain ⟨o, ho, hc, hd⟩ := id hit
  obtain ⟨ol, hol, _, nl, hdl⟩ := hl
  obtain ⟨hh, o1, vs1, h1, d1, c1⟩ := hot
  have hne : it ≠ x1 := fun z => by
    subst z
    rw [ho] at h1
    cases h1
    rw [hd] at d1
    cases d1
    simp at c1
  unfold pyNext
  refine wpAny_bind (wpAny_attempt (wpAny_callSpecial?_slot (name := Str.ofString "__next__") hit.typeIs slot_listiter_next
    (wpAny_call_entry slot_listiter_next hit.typeIs entry_listiter_next ?_ (args_listiter_next _))))
  show wpAny _ _ (field (.ref it) 0 >>= _) _ _ s
  refine wpAny_bind (wpAny_field ho hd (x := .ref l) rfl ?_)
  show wpAny _ _ (if (Value.ref l == Value.none) = true then _ else _) _ _ s
  rw [if_neg (show ¬ ((Value.ref l == Value.none) = true) from Bool.false_ne_true)]
  show wpAny _ _ (field (.ref it) 1 >>= _) _ _ s
  refine wpAny_bind (wpAny_field ho hd (x := .int i 0) rfl ?_)
  show wpAny _ _ (seqItems? (.ref l) >>= _) _ _ s
  refine wpAny_bind (wpAny_seqItems hol hdl ?_)
  simp only [Int.toNat_natCast, hx]
  refine wpAny_bind (wpAny_rule (wpAny_bind (wpAny_setField ho hd (by simp) ?_)))
  show wpAny _ _ (newExc (.type "StopIteration") [] >>= _) _ _ _
  refine wpAny_bind ?_
  simp only [newExc, newTuple]
  refine wpAny_bind (wpAny_newObj_type ?_ (by size_fits))
  refine wpAny_bind (m := firstArgMember _ _) (wpAny_of_eq (a := Value.none) (by first | rfl | (simp only [firstArgMember]; rfl)) ?_)
  refine wpAny_newObj_type ?_ (by size_fits)
  have h1' := (Heap.get?_update_other s.heap (Obj.mapFields (·.setIfInBounds 0 Value.none)) hne).trans h1
  refine raiseNew_hot ⟨hh, o1, vs1, Heap.get?_push_of_some _ (Heap.get?_push_of_some _ h1'), d1, c1⟩ (Nat.ne_of_lt (Heap.lt_size (Heap.get?_push_of_some _ h1'))) (Heap.get?_push_size _ rfl) rfl (by first | (simp; done) | (simp; omega) | (simp only [Array.size_append]; simp; omega)) ?_
  refine wpAny_bind (wpAny_isInstance (T := "StopIteration") (b := true) ⟨_, Heap.get?_update_self _ (Heap.get?_push_size _ rfl) rfl, rfl⟩ isSubtype_stop ?_)
  refine wpAny_pure (hQ _ fun b ob hb e => ?_)
  have e1 := (Heap.get?_update_other s.heap (Obj.mapFields (·.setIfInBounds 0 Value.none)) (Ne.symm hb)).trans e
  rw [Heap.get?_update_other _ _ (Nat.ne_of_gt (Heap.lt_size (Heap.get?_push_of_some _ e1)))]
  exact Heap.get?_push_of_some _ (Heap.get?_push_of_some _ e1)
theorem tuple_end_hot {it l x1 : Addr} {i : Nat} {items : Array Value} {Q : Option Value → Shared → Prop} (hot : HotAt A x1 s.heap)
    (hit : IsTupIter s.heap it l i) (hl : IsTup s.heap l items) (hx : items[i]? = none)
    (hQ : ∀ h', Heap.ExtBut it s.heap h' → Q none { s with heap := h' }) : wpAny (model prog w) A (pyNext (.ref it)) Q E s := by
  obtain ⟨o, ho, hc, hd⟩ := id hit
  obtain ⟨ol, hol, _, nl, hdl⟩ := hl
  obtain ⟨hh, o1, vs1, h1, d1, c1⟩ := hot
  have hne : it ≠ x1 := fun z => by
    subst z
    rw [ho] at h1
    cases h1
    rw [hd] at d1
    cases d1
    simp at c1
  unfold pyNext
  refine wpAny_bind (wpAny_attempt (wpAny_callSpecial?_slot (name := Str.ofString "__next__") hit.typeIs slot_tupleiter_next
    (wpAny_call_entry slot_tupleiter_next hit.typeIs entry_tupleiter_next ?_ (args_tupleiter_next _))))
  show wpAny _ _ (field (.ref it) 0 >>= _) _ _ s
  refine wpAny_bind (wpAny_field ho hd (x := .ref l) rfl ?_)
  show wpAny _ _ (if (Value.ref l == Value.none) = true then _ else _) _ _ s
  rw [if_neg (show ¬ ((Value.ref l == Value.none) = true) from Bool.false_ne_true)]
  show wpAny _ _ (field (.ref it) 1 >>= _) _ _ s
  refine wpAny_bind (wpAny_field ho hd (x := .int i 0) rfl ?_)
  show wpAny _ _ (seqItems? (.ref l) >>= _) _ _ s
  refine wpAny_bind (wpAny_seqItems hol hdl ?_)
  simp only [Int.toNat_natCast, hx]
  refine wpAny_bind (wpAny_rule (wpAny_bind (wpAny_setField ho hd (by simp) ?_)))
  show wpAny _ _ (newExc (.type "StopIteration") [] >>= _) _ _ _
  refine wpAny_bind ?_
  simp only [newExc, newTuple]
  refine wpAny_bind (wpAny_newObj_type ?_ (by size_fits))
  refine wpAny_bind (m := firstArgMember _ _) (wpAny_of_eq (a := Value.none) (by first | rfl | (simp only [firstArgMember]; rfl)) ?_)
  refine wpAny_newObj_type ?_ (by size_fits)
  have h1' := (Heap.get?_update_other s.heap (Obj.mapFields (·.setIfInBounds 0 Value.none)) hne).trans h1
  refine raiseNew_hot ⟨hh, o1, vs1, Heap.get?_push_of_some _ (Heap.get?_push_of_some _ h1'), d1, c1⟩ (Nat.ne_of_lt (Heap.lt_size (Heap.get?_push_of_some _ h1'))) (Heap.get?_push_size _ rfl) rfl (by first | (simp; done) | (simp; omega) | (simp only [Array.size_append]; simp; omega)) ?_
  refine wpAny_bind (wpAny_isInstance (T := "StopIteration") (b := true) ⟨_, Heap.get?_update_self _ (Heap.get?_push_size _ rfl) rfl, rfl⟩ isSubtype_stop ?_)
  refine wpAny_pure (hQ _ fun b ob hb e => ?_)
  have e1 := (Heap.get?_update_other s.heap (Obj.mapFields (·.setIfInBounds 0 Value.none)) (Ne.symm hb)).trans e
  rw [Heap.get?_update_other _ _ (Nat.ne_of_gt (Heap.lt_size (Heap.get?_push_of_some _ e1)))]
  exact Heap.get?_push_of_some _ (Heap.get?_push_of_some _ e1)

theorem unpackItems_hot {t x1 : Addr} {items : Array Value} {Q : List Value → Shared → Prop} (hot : HotAt A x1 s.heap) (ht : IsTup s.heap t items)
    (hQ : ∀ h', Heap.ExtBut s.heap.objs.size s.heap h' → Q items.toList { s with heap := h' }) : wpAny (model prog w) A (unpackItems (.ref t) items.size none) Q E s := by
  have hlt : t ≠ s.heap.objs.size := by obtain ⟨o, ho, _⟩ := ht; exact Nat.ne_of_lt (Heap.lt_size ho)
  unfold unpackItems
  refine wpAny_bind ?_
  · unfold notIterableAtAll
    refine wpAny_bind (wpAny_specialOf ht.typeIs slot_tuple_iter.lookup ?_)
    refine wpAny_pure ?_
    simp only [Bool.false_eq_true, if_false]
    refine wpAny_bind (wpAny_holding (iter_tuple ht ?_))
    refine wpAny_bind (wpAny_holding (draw_tuple hlt items.size 0 _ _ ⟨_, Heap.get?_push_size _ rfl, rfl, rfl⟩ (ht.push _) (by omega) fun h₁ hit₁ hs₁ => ?_))
    have hall : List.take items.size (List.drop 0 items.toList) = items.toList := by
      rw [List.drop_zero]; exact List.take_of_length_le (by simp)
    rw [hall]
    rw [if_neg (by simp)]
    have ht₁ : IsTup h₁ t items := (ht.push _).extBut hs₁.extBut hlt
    obtain ⟨hh, o1, vs1, h1, d1, c1⟩ := hot
    have hx1 : x1 ≠ s.heap.objs.size := Nat.ne_of_lt (Heap.lt_size h1)
    have hot₁ : HotAt A x1 h₁ := ⟨hh, o1, vs1, hs₁.extBut _ _ hx1 (Heap.get?_push_of_some _ h1), d1, c1⟩
    refine wpAny_bind (wpAny_holding (tuple_end_hot hot₁ hit₁ ht₁ (by simp) fun h₂ he₂ => ?_))
    simp only [Option.isSome_none, Bool.false_eq_true, if_false]
    refine wpAny_pure (hQ h₂ fun b o hb e => he₂ b o hb (hs₁.extBut b o hb (Heap.get?_push_of_some _ e)))
theorem assign_Tuple_hot {env : Env} {elts : List Expr} {k : Nat} {pos : Pos} {t x1 : Addr} {items : Array Value} {Q : Unit → Shared → Prop} (hot : HotAt A x1 s.heap) (ht : IsTup s.heap t items)
    (hn : (assignEach elts env).length = items.size) (hstar : (assignEach elts env).findIdx? (·.1) = none)
    (h : ∀ h', Heap.ExtBut s.heap.objs.size s.heap h' → wpAny (model prog w) A (assignInOrder ((assignEach elts env).map (·.2)) items.toList) Q E { s with heap := h' }) :
    wpAny (model prog w) A (assign (.Tuple elts k pos) env (.ref t)) Q E s := by
  rw [assign_Tuple]
  refine wpAny_bind (wpAny_standAt ?_)
  unfold unpack
  rw [hn, hstar]
  exact wpAny_bind (wpAny_holding (unpackItems_hot hot ht h))
end
section
open PySem PySem.Spec PyProof.Rows HotX L2 L2H
variable {X : Cx} {pos : Pos}
theorem pg_tupH {es : List Expr} {k : Nat} {t : TGs} {n : Nat} (hc : HotC X) (h : PGs X es t)
    (hn : (assignEach es X.env).length = n := by rfl) (hst : (assignEach es X.env).findIdx? (·.1) = none := by rfl) : PG X (.Tuple es k pos) (gTup X.K n t) := by
  refine ⟨fun pins s σ H v u Q I r hw => ?_⟩
  obtain ⟨a, xs, e1, hq, hl, hw⟩ := hw
  subst e1
  cases r
  obtain ⟨its, rv, ht, hz⟩ := I.tuple hq
  obtain ⟨x1, hot⟩ := hc.at I
  refine assign_Tuple_hot hot ht (by simp [hn, ← hl, rv.length]) hst fun h' hx => ?_
  have I1 : Inv X pins σ H { s with heap := h' } := I.kept (t' := s.toks) fun b o e => hx b o (Nat.ne_of_lt (Heap.lt_size e)) e
  exact h.run pins _ σ H xs _ Q I1 (by simpa using rv) hw
theorem turn_listH {P : Program} {w : World} {K : PySem.W.Frag} {tg : Expr} (a it : Addr) : TurnH P w K tg (Itl K a) [it] it (fun i h => h.IsListIter it a i) where
  mem := by simp
  obj := fun i h st b hb => by
    have e : b = it := by simpa using hb
    subst e
    obtain ⟨o, e, c, d⟩ := st
    exact ⟨o, e, fun v z => by rw [d] at z; cases z⟩
  keep := fun i h h' st k => st.at fun o e => k it (by simp) o e
  item := by
    intro X hP hw hK hc i pins s σ H E I hf st hg
    subst hP hw hK
    obtain ⟨xs, x, hq, hx⟩ := hg
    obtain ⟨its, rv, p, hz⟩ := I.list hq
    obtain ⟨u, hu, ru⟩ := rv.get hx
    obtain ⟨f0, f1, f2, f3, f4, f5⟩ := hf it (by simp)
    refine wpAny_pyNext_list_item st p.isList (x := u) (by simpa using hu) fun h' st' sb => ?_
    have I1 : Inv X pins σ H { s with heap := h' } := I.turned (t' := s.toks) (fun b o hb e => (sb.2 b hb).trans e) f0 f1 f3 f4 f5
    obtain ⟨o, e, c, d⟩ := id st'
    exact ⟨u, rfl, go_of (s := { s with heap := h' }) e c d (by decide) ⟨x, H, I1, ru, ⟨rfl, fun ys hy => by rw [I.list_inj hy hq]; exact hx⟩, st', fun b hb => (hf b hb).1⟩⟩
  done := by
    intro X hP hw hK hc i pins s σ H E I hf st hg
    subst hP hw hK
    obtain ⟨xs, hq, hx⟩ := hg
    obtain ⟨its, rv, p, hz⟩ := I.list hq
    obtain ⟨f0, f1, f2, f3, f4, f5⟩ := hf it (by simp)
    have hl := rv.length
    obtain ⟨x1, hot⟩ := hc.at I
    exact list_end_hot hot st p.isList (by simp; omega) fun h' eb => ⟨rfl, I.turned (t' := s.toks) (fun b o hb e => eb b o hb e) f0 f1 f3 f4 f5⟩
  self := fun _ _ _ _ _ st h => wpAny_pyIter_listiter st h
theorem pi_listH {tg l : Expr} {tl : TE} (hl : PE X l tl) : PIH X tg l (iList X.K tl) := by
  refine ⟨fun pins s σ H R I h => ?_⟩
  refine thn (hl.run pins s σ H _ I h) fun v s1 ⟨x, H1, I1, r1, q1⟩ => ?_
  obtain ⟨a, e, ⟨xs, hq⟩, q⟩ := q1
  subst e
  cases r1
  obtain ⟨its, rv, p, hz⟩ := I1.list hq
  refine wpAny_pyIter_list p.isList ?_
  refine ⟨s1.heap.objs.size, [s1.heap.objs.size], _, _, H1, rfl, I1.kept (t' := s1.toks) fun b o e => Heap.get?_push_of_some _ e, turn_listH a _, ⟨_, Heap.get?_push_size _ rfl, rfl, rfl⟩, fun b hb => ?_, q⟩
  have e : b = s1.heap.objs.size := by simpa using hb
  subst e
  exact I1.fpOk (Nat.le_refl _) (I1.hok.fresh (Nat.le_refl _))
/-! ### a comprehension's block there: the handled exception stays pinned -/
abbrev blkP (X : Cx) (s : Shared) (H : Hp) (scope : Scope) (cenv : Env) (fp : List Addr) (p : Addr × Obj) : Cx := { X.blk s H scope cenv fp with pn := [p] }
theorem inv_blkP {s0 s : Shared} {H0 H : Hp} {scope : Scope} {ce : Env} {fp : List Addr} {p : Addr × Obj} {σ : L2.St} (I : Inv (X.blk s0 H0 scope ce fp) [] σ H s) (hg : s.heap.get? p.1 = some p.2) (hn : H p.1 = none) (hL : p.1 ≠ ce.locals) (hF : p.1 ∉ frs X.stack) (hC : ∀ v, p.2.data ≠ .cell v) :
    Inv (blkP X s0 H0 scope ce fp p) [] σ H s := by
  obtain ⟨⟨a1, a2, a3, a4, a5, a6, a7, a8, a9, a10, a11, a12, a13, a14, a15, a16, a17, a18⟩, b2, b3, b4, b5, b6, b7, b8, b9, b10, b11⟩ := I
  exact ⟨⟨a1, a2, a3, a4, a5, a6, a7, a8, a9, a10, a11, a12, a13, a14, a15, a16, a17, a18⟩, b2, b3, b4, b5, b6, b7, b8, fun q hq => by
    have e : q = p := by simpa using (show q ∈ [p] ++ ([] : List (Addr × Obj)) from hq)
    rw [e]
    exact ⟨hg, hn, hL, hF, hC⟩, b10, b11⟩
end
end Sb

namespace Sb
open PySem PySem.Spec PyProof.Rows L2 L2H
section
variable {X : Cx}
theorem lc_coreH {p : Addr × Obj} {pins : List (Addr × Obj)} {s : Shared} {σ : L2.St} {H : Hp} {Q : VK} {elt tg iter : Expr} {ifs : List Expr} {scope : Scope} {own : List (Str × Nat)} {pos pos' : Pos} {wi : TI} {g : TG} {tt : TT} {te : TE} {use : Option (Value → Sem Unit)} {Qf : Value → Shared → Prop}
    (hot : Hot1 X.A p) (hp : p ∈ X.pn) (hN : X.N.Nodup) (I : Inv X pins σ H s) (hi : PIH X tg iter wi) (ok : BlkOk X.N X.env.scope scope own)
    (hg : ∀ (s : Shared) (H : Hp) (C : Addr) (cl : List (Str × Addr)) (fp : List Addr), PG (blkP X s H scope (compEnvC scope cl C X.env) fp p) tg g) (ht : ∀ (s : Shared) (H : Hp) (C : Addr) (cl : List (Str × Addr)) (fp : List Addr), PTs (blkP X s H scope (compEnvC scope cl C X.env) fp p) ifs tt)
    (he : ∀ (s : Shared) (H : Hp) (C : Addr) (cl : List (Str × Addr)) (fp : List Addr), PE (blkP X s H scope (compEnvC scope cl C X.env) fp p) elt te) (hs : ∀ x, foldedSetIterable iter X.env x = pure x)
    (h : tLc wi g tt te (own.map (·.2)) σ H Q)
    (hRR : ∀ D C s' m H', Inv X pins σ H' s' → Q (.ref D) H' → s'.heap.Ns C m → FpOk X pins H' C → compPost (model X.prog X.w) X.A X.xe use Qf (.ref D) C (.ok .next) s') :
    wpAny (model X.prog X.w) X.A (comprehension (.ListComp elt [⟨tg, iter, ifs, 0⟩] scope pos) scope X.env pos' (newList []) false (eval iter X.env) use) Qf X.xe s := by
  have hfree : ∀ y ∈ scope.names, y.2 = .free → ∃ c, X.env.cells.lookup y.1 = some c := fun y hy e => by
    rcases ok.free y hy e with k | k
    · exact I.ok.has _ (.inl k)
    · exact I.ok.has _ (.inr k)
  refine wpAny_comprehension_free (use := use) rfl hs (closure_ok hfree) ok.kind (fun y hy e => by rw [ok.uniq y hy, e])
    (thn (hi.run pins s σ H _ I h) fun xv s1 hx => thn hx fun itv s2 h2 => ?_)
  obtain ⟨it, fp, tn, J, H2, e, I2, T, st2, f2, q⟩ := h2
  subst e
  refine wpAny_newObj_type (newEnv_comp ?_) (by show 0 ≤ sizeLine; decide)
  generalize hD : s2.heap.objs.size = D
  have hDn : H2 D = none := I2.hok.fresh (Nat.le_of_eq hD)
  obtain ⟨W, ⟨m0, w0⟩, turn⟩ := q D hDn
  -- the new list
  generalize hs3 : ({ s2 with heap := s2.heap.push { cls := .type "list", data := .seq ([] : List Value).toArray } } : Shared) = s3
  have I3 : Inv X pins σ (upd H2 D (.lst [])) s3 := by
    rw [← hs3]
    refine I2.laid (t' := s2.toks) (fun b o e => Heap.get?_push_of_some _ e) (Nat.le_of_eq hD) ⟨Nat.zero_le _, [], 0, .nil, ?_⟩
    rw [← hD]
    exact Heap.get?_push_size _ rfl
  have h3 : s3.heap = s2.heap.push { cls := .type "list", data := .seq ([] : List Value).toArray } := by rw [← hs3]
  have sz : ∀ b ∈ fp, b < s2.heap.objs.size := fun b hb => by
    obtain ⟨o, e, _⟩ := T.obj _ _ st2 b hb
    exact Heap.lt_size e
  have f3 : ∀ b ∈ fp, FpOk X pins (upd H2 D (.lst [])) b ∧ b < s3.heap.objs.size := fun b hb => by
    have hlt := sz b hb
    refine ⟨⟨?_, (f2 b hb).2⟩, by rw [h3, Heap.size_push]; exact Nat.lt_succ_of_lt hlt⟩
    rw [upd_ne (by rw [← hD]; exact Nat.ne_of_lt hlt)]
    exact (f2 b hb).1
  have st3 : tn 0 s3.heap := T.keep _ _ _ st2 fun b _ o e => by rw [h3]; exact Heap.get?_push_of_some _ e
  have I4a := block_start I3 ok hN f3
  have P3 := I3.pin p (List.mem_append_left _ hp)
  have I4 := inv_blkP (p := p) I4a (pushCells_keeps _ _ _ _ (Heap.get?_push_of_some _ P3.1)) P3.2.1 (Nat.ne_of_lt (Heap.lt_size P3.1)) (fun hm => (List.mem_cons.mp (I3.stkSub p.1 hm)).elim P3.2.2.1 P3.2.2.2.1) P3.2.2.2.2
  clear I4a
  have pg := hg s3 (upd H2 D (.lst [])) s3.heap.objs.size (cellsFrom (s3.heap.objs.size + 1) scope.names (cloFrom X.env.cells scope.names [])) fp
  have pt := ht s3 (upd H2 D (.lst [])) s3.heap.objs.size (cellsFrom (s3.heap.objs.size + 1) scope.names (cloFrom X.env.cells scope.names [])) fp
  have pe := he s3 (upd H2 D (.lst [])) s3.heap.objs.size (cellsFrom (s3.heap.objs.size + 1) scope.names (cloFrom X.env.cells scope.names [])) fp
  show codeAny _ _ (.compStart (.ListComp elt [⟨tg, iter, ifs, 0⟩] scope pos) 0 (.ref it) (.ref D) (compEnvC scope (cellsFrom (s3.heap.objs.size + 1) scope.names (cloFrom X.env.cells scope.names [])) s3.heap.objs.size X.env)) (compPost (model X.prog X.w) X.A X.xe use Qf (.ref D) s3.heap.objs.size) { s3 with heap := pushCells (s3.heap.push { cls := .type "dict", data := .dict #[] }) scope.names }
  have nfp : ∀ b ∈ fp, (upd H2 D (.lst [])) b = none := fun b hb => (f3 b hb).1.1
  generalize hce : compEnvC scope (cellsFrom (s3.heap.objs.size + 1) scope.names (cloFrom X.env.cells scope.names [])) s3.heap.objs.size X.env = ce at I4 pg pt pe ⊢
  have cL : ce.locals = s3.heap.objs.size := by subst hce; rfl
  generalize hH3 : upd H2 D (.lst []) = H3 at I3 I4 pg pt pe w0 nfp f3
  generalize hs4 : ({ s3 with heap := pushCells (s3.heap.push { cls := .type "dict", data := .dict #[] }) scope.names } : Shared) = s4 at I4 ⊢
  have st4 : tn 0 s4.heap := T.keep _ _ _ st3 fun b _ o e => by rw [← hs4]; exact pushCells_keeps _ _ _ _ (Heap.get?_push_of_some _ e)
  have stat : ∀ {σ' : L2.St} {H' : Hp} {s' : Shared}, Inv (blkP X s3 H3 scope ce fp p) [] σ' H' s' → (∀ b ∈ fp, H' b = none) → ∀ b ∈ fp, FpOk (blkP X s3 H3 scope ce fp p) [] H' b := fun {σ' H' s'} I' hn b hb =>
    ⟨hn b hb, (I'.ok.exf b hb).1, I'.ok.exfs b hb, .inl hb, fun x c e => (I'.ok.exf b hb).2 x c e, fun q hq => by
      have e : q = p := by simpa using (show q ∈ [p] ++ ([] : List (Addr × Obj)) from hq)
      rw [e]
      exact (f3 b hb).1.2.2.2.2.2 p (List.mem_append_left _ hp)⟩
  have hcB : HotC (blkP X s3 H3 scope ce fp p) := ⟨p, hot, List.mem_cons_self⟩
  have loop : codeAny (model X.prog X.w) X.A (.compLoop (.ListComp elt [⟨tg, iter, ifs, 0⟩] scope pos) 0 (.ref it) (.ref D) ce) (compPost (model X.prog X.w) X.A X.xe use Qf (.ref D) s3.heap.objs.size) s4 := by
    refine compLoop_any (fun n s' => ∃ i H', Inv (blkP X s3 H3 scope ce fp p) [] (wipe σ (own.map (·.2))) H' s' ∧ tn i s'.heap ∧ (∀ b ∈ fp, H' b = none) ∧ W i n H') ?_ m0 ⟨0, H3, I4, st4, nfp, w0⟩
    rintro n s5 ⟨i, H5, I5, st5, n5, w5⟩
    rcases turn i n H5 w5 with ⟨stop, qq⟩ | ⟨go, Nx, hNx, step⟩
    · have td := T.done (blkP X s3 H3 scope ce fp p) rfl rfl rfl hcB i [] s5 _ H5 (fun _ _ => False) I5 (stat I5 n5) st5 stop
      refine thnF td fun r s6 ⟨hr, I6⟩ => ?_
      subst hr
      -- back in the def's context
      have I7 : Inv X pins σ H5 s6 := I3.call' (ch := fp) I6.os I6.base I6.hok I6.bare fun b hb => ⟨(f3 b hb).1.2.2.2.1, (f3 b hb).1.2.1, (f3 b hb).1.2.2.2.2.1, (f3 b hb).1.2.2.2.2.2⟩
      have nC : H5 s3.heap.objs.size = none := by
        have z : H5 ce.locals = none := I6.free
        rw [cL] at z
        exact z
      obtain ⟨m, hn, _⟩ := I6.loc
      have hn : s6.heap.Ns ce.locals m := hn
      rw [cL] at hn
      exact hRR D s3.heap.objs.size s6 m H5 I7 qq hn (I3.fpOk (Nat.le_refl _) nC)
    · have ti := T.item (blkP X s3 H3 scope ce fp p) rfl rfl rfl hcB i [] s5 _ H5 (fun _ _ => False) I5 (stat I5 n5) st5 go
      refine thnF ti fun r s6 ⟨u, hr, h6⟩ => ?_
      subst hr
      refine thnF h6 fun _ s7 ⟨x, H7, I7, r7, y7, st7, n7⟩ => ?_
      have I7' := I7.pinned (stat I7 n7) (T.obj _ _ st7)
      refine thnF (pg.run _ s7 _ H7 x u _ I7' r7 (step x H7 y7)) fun _ s8 ⟨σ8, H8, I8, hw8, q8⟩ => ?_
      refine thnF (pt.run _ s8 σ8 H8 _ I8 q8) fun b s9 ⟨H9, I9, q9⟩ => ?_
      -- the turn's end
      have fin : ∀ {s' : Shared} {H' : Hp}, Inv (blkP X s3 H3 scope ce fp p) ([] ++ pinsAt fp s7.heap) σ8 H' s' → Nx H' → ∃ m, m < n ∧ ∃ i H', Inv (blkP X s3 H3 scope ce fp p) [] (wipe σ (own.map (·.2))) H' s' ∧ tn i s'.heap ∧ (∀ b ∈ fp, H' b = none) ∧ W i m H' := fun {s' H'} I' nx => by
        obtain ⟨m', hm, w'⟩ := hNx H' nx
        have pin' : ∀ b ∈ fp, ∀ o, s7.heap.get? b = some o → s'.heap.get? b = some o ∧ H' b = none := fun b hb o e =>
          let z := I'.pin (b, o) (List.mem_append_right _ (List.mem_append_right _ (mem_pinsAt hb e)))
          ⟨z.1, z.2.1⟩
        have hl : (wipe σ (own.map (·.2))).length = σ8.length := by rw [← hw8, wipe_length]
        refine ⟨m', hm, i + 1, H', (I'.unpinned (pins := [])).weak hl (fun j v e => ?_), T.keep _ _ _ st7 fun b hb o e => (pin' b hb o e).1, fun b hb => ?_, w'⟩
        · rw [← hw8] at e
          exact (wipe_some e).1
        · obtain ⟨o, e, _⟩ := T.obj _ _ st7 b hb
          exact (pin' b hb o e).2
      cases b with
      | false =>
        simp only [Bool.false_eq_true, if_false] at q9 ⊢
        exact fin I9 q9
      | true =>
        simp only [if_true] at q9 ⊢
        refine thnF (pe.run _ s9 σ8 H9 _ I9 q9) fun z s10 ⟨yv, H10, I10, r10, acc, hD10, hz10, nx⟩ => ?_
        exact app_ok (X := blkP X s3 H3 scope ce fp p) I10 hD10 hz10 r10 fun s11 I11 => fin I11 nx
  exact codeAny_compStart_list loop (T.self X.A 0 _ _ _ st4 loop)
theorem pe_lcH {p : Addr × Obj} {elt tg iter : Expr} {ifs : List Expr} {scope : Scope} {own : List (Str × Nat)} {pos : Pos} {wi : TI} {g : TG} {tt : TT} {te : TE} (hot : Hot1 X.A p) (hp : p ∈ X.pn) (hN : X.N.Nodup) (hi : PIH X tg iter wi) (ok : BlkOk X.N X.env.scope scope own)
    (hg : ∀ (s : Shared) (H : Hp) (C : Addr) (cl : List (Str × Addr)) (fp : List Addr), PG (blkP X s H scope (compEnvC scope cl C X.env) fp p) tg g) (ht : ∀ (s : Shared) (H : Hp) (C : Addr) (cl : List (Str × Addr)) (fp : List Addr), PTs (blkP X s H scope (compEnvC scope cl C X.env) fp p) ifs tt)
    (he : ∀ (s : Shared) (H : Hp) (C : Addr) (cl : List (Str × Addr)) (fp : List Addr), PE (blkP X s H scope (compEnvC scope cl C X.env) fp p) elt te) (hs : ∀ x, foldedSetIterable iter X.env x = pure x := by intro _; rfl) :
    PE X (.ListComp elt [⟨tg, iter, ifs, 0⟩] scope pos) (tLc wi g tt te (own.map (·.2))) := by
  refine ⟨fun pins s σ H Q I h => ?_⟩
  rw [eval_ListComp]
  refine lc_coreH hot hp hN I hi ok hg ht he hs h fun D C s' m H' I' q hn f => ⟨m, hn, fun h'' sb => ?_⟩
  obtain ⟨f0, f1, f2, f3, f4, f5⟩ := f
  exact ⟨.ref D, H', I'.turned (t' := s'.toks) (fun b o hb e => (sb.2 b hb).trans e) f0 f1 f3 f4 f5, rfl, q⟩
theorem ps_setLcH {p : Addr × Obj} {i : Nat} {y : Str} {py : Pos} {elt tg iter : Expr} {ifs : List Expr} {scope : Scope} {own : List (Str × Nat)} {pos spos : Pos} {wi : TI} {g : TG} {tt : TT} {te : TE} (hot : Hot1 X.A p) (hp : p ∈ X.pn) (hN : X.N.Nodup) (hy : X.N[i]? = some y) (hyl : X.env.scope.names.lookup y = some .local)
    (hsw : swapsWith (.ListComp elt [⟨tg, iter, ifs, 0⟩] scope pos) (some (.Name y py)) spos.line X.env = pure true) (hi : PIH X tg iter wi) (ok : BlkOk X.N X.env.scope scope own)
    (hg : ∀ (s : Shared) (H : Hp) (C : Addr) (cl : List (Str × Addr)) (fp : List Addr), PG (blkP X s H scope (compEnvC scope cl C X.env) fp p) tg g) (ht : ∀ (s : Shared) (H : Hp) (C : Addr) (cl : List (Str × Addr)) (fp : List Addr), PTs (blkP X s H scope (compEnvC scope cl C X.env) fp p) ifs tt)
    (he : ∀ (s : Shared) (H : Hp) (C : Addr) (cl : List (Str × Addr)) (fp : List Addr), PE (blkP X s H scope (compEnvC scope cl C X.env) fp p) elt te) (hs : ∀ x, foldedSetIterable iter X.env x = pure x := by intro _; rfl) :
    PS X (.Assign [.Name y py] (.ListComp elt [⟨tg, iter, ifs, 0⟩] scope pos) spos) (tAsg (tLc wi g tt te (own.map (·.2))) (gName i)) := by
  refine ⟨fun pins s σ H D I h => ?_⟩
  rw [exec_Assign_Name_used _ _ _ _ hsw]
  refine wpAny_bind (wpAny_standAt (wpAny_bind ?_))
  show wpAny _ X.A (do let _ ← comprehension (.ListComp elt [⟨tg, iter, ifs, 0⟩] scope pos) scope X.env (firstIterPos [⟨tg, iter, ifs, 0⟩] pos) (newList []) false (eval iter X.env) (some (assign (.Name y py) X.env))) _ _ s
  have h : tLc wi g tt te (own.map (·.2)) σ H (fun x H1 => gName i x σ H1 D.nx) := h
  refine wpAny_bind (thn (lc_coreH (Qf := fun _ s' => SP X pins D .next s') hot hp hN I hi ok hg ht he hs h fun L C s' m H' I' q hn f => ?_) fun _ s' hq => wpAny_pure (wpAny_pure hq))
  show wpAny _ _ (assign (.Name y py) X.env (.ref L)) _ _ _
  refine wpAny_assign_Name (store_ok2 (v := V.ref L) I' hN hy (.inl hyl) rfl (fun s2 I2 ⟨a, sb, ha⟩ => ?_) (.inr hyl))
  obtain ⟨f0, f1, f2, f3, f4, f5⟩ := f
  have haC : C ≠ a := by
    rcases ha with z | z
    · rw [z]; exact f1
    · exact fun e => f4 y a z e.symm
  refine ⟨m, hn.sameBut sb haC, fun h3 sb3 => ?_⟩
  exact ⟨_, H', I2.turned (t' := s2.toks) (fun b o hb e => (sb3.2 b hb).trans e) f0 f1 f3 f4 f5, q⟩
end
end Sb

namespace Sb
open PySem PySem.Spec PyProof.Rows L2 L2H
/-! ### a def that is handed the exception which is handled -/
abbrev SpE := Addr → Value → Option Addr → Sp
/-- p is the exception that is handled: of this class, with this dict -/
def HotE (A : Around) (p : Addr × Obj) (cls : Value) (d : Option Addr) : Prop := Hot1 A p ∧ L2N.Zn cls d p.2
structure FnE (P : Program) (w : World) (K : PySem.W.Frag) (mg : Str → Option Value) (base : Heap) (k : Nat) (f : Addr) (fd : FuncData) (ps : List Str) (sp : SpE) : Prop where
  len : ∀ a cls d vs H Q E, sp a cls d vs H Q E → vs.length = ps.length
  run : ∀ (A : Around) (outer : List Env) (s : Shared) (H : Hp) (args : Args) (us : List Value) (vs : List V) (Q : VK) (E : XK) (p : Addr × Obj) (cls : Value) (d : Option Addr), RoomH k A → HotE A p cls d → PinOk outer H s p → Env0 P w K mg base A outer s H → BindsTo s fd args (ps.zip us) → Vals vs us →
    sp p.1 cls d vs H Q E → codeAny (model P w) A (.call (.ref f) args) (CR CX0 outer P w H s Q E) s
/-- such a def of the module -/
def FdE (P : Program) (w : World) (K : PySem.W.Frag) (mg : Str → Option Value) (base : Heap) (k : Nat) (x : Str) (sp : SpE) : Prop :=
  ∃ (f : Addr) (fd : FuncData) (ps : List Str), mg x = some (.ref f) ∧ PySem.W.keepIn K (.ref f) = true ∧ Binds K fd ps [] ∧ FnE P w K mg base k f fd ps sp
section
variable {P : Program} {w : World} {K : PySem.W.Frag} {mg : Str → Option Value} {base : Heap} {x qual : Str} {params : Arguments} {body : List Stmt} {scope : Scope} {dvs : List V} {kws : List (Str × V)} {f : Addr} {fd : FuncData}
theorem fnE_of {N ps : List Str} {k : Nat} {sp : SpE} (F : FunD K x qual params body scope dvs kws f fd) (S : FnScope N ps scope) (len : ∀ a cls d vs H Q E, sp a cls d vs H Q E → vs.length = ps.length)
    (hbody : ∀ (cdv : Value) (A : Around) (outer : List Env) (s : Shared) (H : Hp) (vs : List V) (Q : VK) (E : XK) (p : Addr × Obj) (cls : Value) (d : Option Addr), HotE A p cls d → sp p.1 cls d vs H Q E →
      ∃ t, PSs (cxH CX0 P w K mg base N qual scope f cdv A outer s H E p) body t ∧ t { nx := fun _ H' => Q .non H', rt := Q } (start N vs) H) : FnE P w K mg base (k + 1) f fd ps sp := by
  obtain ⟨oc, od, dV, kV, doc, pm, an, cdv, ct, osl, rfl, lk, hcd, _, _⟩ := F.ex
  refine { len := len, run := fun A outer s H args us vs Q E p cls d hr hot hpin e0 hb r hsp => ?_ }
  have hlen := len _ _ _ vs H Q E hsp
  have old : ∀ b o, base.get? b = some o → s.heap.get? b = some o := fun b o e => (e0.bs b o e).1
  have kin := e0.mod.kin.keeps old
  have kinds : ∀ y ∈ ps.zip us, scope.names.lookup y.1 = some .local ∨ (scope.names.lookup y.1 = some .cell ∧ ((cellsFrom (s.heap.objs.size + 1) scope.names []).lookup y.1).isSome = true) := by
    rintro ⟨n, v⟩ hy
    exact (S.par n (List.of_mem_zip hy).1).imp id fun q => ⟨q, PySem.W.cellsFrom_some _ _ _ (.inl q)⟩
  apply codeAny_call_function hr.depth (kin _ _ lk) rfl S.co S.gen rfl (PySem.W.codeRec_of kin hcd)
  apply hb
  apply wpAny_newFunctionEnv_cells S.kind kinds
  intro env he s1 ic
  subst he
  obtain ⟨t, ht, hq⟩ := hbody cdv A outer s H vs Q E p cls d hot hsp
  have inv := inv_startH (CX := CX0) (E := E) S hpin e0 hlen r ic
  refine ⟨(e0.mod.nolimit.keeps old).keeps ic.toInCall.keep, codeAny_func (wpAny_mono (ht.run [] s1 (start N vs) H _ inv hq) ?_ fun _ _ z => z)⟩
  rintro (_ | _ | _ | u) s' hs
  · obtain ⟨σ', H', J, q⟩ := hs
    exact ⟨V.non, H', J.os, J.bare, J.base, J.hok, rfl, q⟩
  · obtain ⟨_, _, _, q⟩ := hs
    exact q.elim
  · obtain ⟨_, _, _, q⟩ := hs
    exact q.elim
  · obtain ⟨v, σ', H', J, rv, q⟩ := hs
    exact ⟨v, H', J.os, J.bare, J.base, J.hok, rv, q⟩
end
section
variable {X : Cx} {k : Nat} {x : Str} {sp : SpE} {p pos : Pos} {e : Expr} {es : List Expr} {t : TA}
def tCallE (sp : SpE) (a : Addr) (cls : Value) (d : Option Addr) (t : TA) : TE := fun σ H Q => t σ H fun vs H1 => sp a cls d vs H1 Q fun _ _ _ => False
theorem hotE_suite {a : Addr} {oe : Obj} {cls : Value} {d : Option Addr} {pn : List (Addr × Obj)} (hz : L2N.Zn cls d oe) (hf : ∃ vs, oe.data = .fields vs) : HotE (X.suite a pn).A (a, oe) cls d := by
  obtain ⟨vs, hv⟩ := hf
  exact ⟨⟨rfl, vs, hv, hz.2.2 vs hv⟩, hz⟩
theorem pe_fdE {a : Addr} {oe : Obj} {cls : Value} {d : Option Addr} (F : FdE X.prog X.w X.K X.mg X.base k x sp) (hr : RoomH k X.A) (hot : HotE X.A (a, oe) cls d) (hp : (a, oe) ∈ X.pn) (ha : PA X (e :: es) t) (hgl : Gl X x := by rfl)
    (hdb : (x == ("__debug__" : Str)) = false := by decide) (he : starEach (e :: es) X.env = (false, eval e X.env) :: starEach es X.env := by rfl) (hpl : (backTo pos (starEach es X.env)).any (·.1) = false := by rfl) :
    PE X (.Call (.Name x p) (e :: es) [] pos) (tCallE sp a cls d t) := by
  obtain ⟨f, fd, ps, hm, hk, hb, F⟩ := F
  constructor
  intro pins s σ H Q I h
  apply wpAny_Call_Name_kw
  refine ld_glob I hgl hm ?_ hdb
  refine PySem.W.callWith_K (h₀ := X.base) I.ok.mod.kin hk (thn (ha.run pos pins s σ H _ I h) ?_) he hpl
  rintro us s1 ⟨vs, H1, I1, r, q⟩
  refine ⟨I1.kIn, ?_⟩
  have q' : sp a cls d vs H1 Q (fun _ _ _ => False) := q
  have l' : us.length = ps.length := r.length.symm.trans (F.len _ _ _ _ _ _ _ q')
  have b := hb s1 us I1.kIn (by rw [List.append_nil]; exact l')
  rw [List.append_nil] at b
  have P1 := I1.pin (a, oe) (List.mem_append_left _ hp)
  have hpin : PinOk X.stack H1 s1 (a, oe) := ⟨P1.1, P1.2.1, fun hm => (List.mem_cons.mp (I1.stkSub a hm)).elim P1.2.2.1 P1.2.2.2.1, P1.2.2.2.2⟩
  apply wpAny_call
  refine codeAny_mono (F.run X.A X.stack s1 H1 ⟨us, []⟩ us vs Q _ (a, oe) cls d hr hot hpin I1.env0 b r q') ?_
  rintro (e | (_ | _ | _ | u)) s' hq
  · exact (hq : False).elim
  · exact hq.elim
  · exact hq.elim
  · exact hq.elim
  · exact I1.after hq
end
/-! ### what such a def asks of the exception -/
section
variable {X : Cx} {a D : Addr} {oe : Obj} {d : Option Addr}
theorem class_of {prog : Program} {w : World} {A : Around} {E : Value → Shared → Prop} {s : Shared} {K : PySem.W.Frag} {x D : Addr} {ox : Obj} {od : Option Obj} {Q : Option Value → Shared → Prop} (C : ExcC K D) (X : K.In s.heap) (I : PySem.W.InstAt s.heap x ox D od) (h : Q (some (.ref D)) { s with toks := s.toks + 1 }) :
    wpAny (model prog w) A (getAttr? (.ref x) "__class__") Q E s := by
  have hcl : (PySem.W.clsIn K D).isSome = true := by obtain ⟨cd, hc, _⟩ := PySem.W.any_some C.hd; rw [hc]; rfl
  have hf : PySem.W.findObj K D od "__class__" = some (.bind (.builtin "getset_descriptor.__get__") (.builtin "object.__class__")) := by
    cases od with
    | none => exact PySem.W.findObj_dataN hcl C.ha C.hn C.ht
    | some o => exact PySem.W.findObj_data hcl C.ha C.hn C.ht
  obtain ⟨hp, g, d, t, os⟩ := s
  have L0 := I.type (M := model prog w)
  have L1 := PySem.W.looks_findIn (M := model prog w) X C.hg
  have L2 := PySem.W.looks_findIn (M := model prog w) X C.hk
  have L3 := PySem.W.looks_find (M := model prog w) X I hf
  have sub : PySem.W.Looks (model prog w) hp (isInstance (.ref x) (.type "BaseException")) true := L0.andThen (PySem.W.looks_subIn X C.hs)
  have hx0 : (false && onTheHeap (Value.builtin "BaseException.__getattribute__")) = false := rfl
  have hx2 : (Value.builtin "BaseException.__getattribute__" == Value.builtin "object.__getattribute__") = false := by decide +kernel
  have hx1 : (onTheHeap (Value.ref D) && Value.builtin "BaseException.__getattribute__" == Value.builtin "object.__getattribute__") = false := by rw [hx2]; rfl
  unfold getAttr? getAttrBy? getAttrBy
  refine wpAny_bind (wpAny_mkText (wpAny_bind (wpAny_attempt (wpAny_holding (wpAny_bind (L0.at (wpAny_bind (L1.at ?_))))))))
  show wpAny _ _ (if (onTheHeap (Value.ref D) && Value.builtin "BaseException.__getattribute__" == Value.builtin "object.__getattribute__") = true then _ else _) _ _ _
  rw [hx1, if_neg Bool.false_ne_true]
  unfold getAttrByItsOwn hookBefore
  refine wpAny_bind ?_
  rw [if_pos (show onTheHeap (Value.ref D) = true from rfl)]
  refine L2.at ?_
  refine wpAny_bind (wpAny_attempt (wpAny_holding ?_))
  unfold callGetattribute
  rw [hx0, if_neg Bool.false_ne_true]
  unfold boundAndCalled
  rw [PySem.F.excAttr_ValueError.ga.bind (.ref x)]
  refine wpAny_bind (wpAny_pure ?_)
  show wpAny _ _ (call (.builtin "BaseException.__getattribute__") [.ref x, .str "__class__" t]) _ _ _
  refine wpAny_call (codeAny_call_builtin PySem.F.excAttr_ValueError.ga.plain PySem.F.entry_bexc_ga ?_)
  refine @PySem.W.check_slot (model prog w) _ _ ⟨hp, g, d, t + 1, os⟩ "BaseException.__getattribute__" "BaseException" "__getattribute__" (.ref x) [.str "__class__" t] [] _ (by decide +kernel) (by decide +kernel) sub (PySem.F.args_bexc_ga (.ref x) (.str "__class__" t)) ?_
  unfold Builtin.«object.__getattribute__»
  refine wpAny_bind (wpAny_of_eq (a := ((Value.ref x : Value), [Value.str "__class__" t])) (by first | rfl | (simp only [slotArgs]; rfl)) ?_)
  refine wpAny_bind (wpAny_pure (wpAny_bind (L0.at (wpAny_bind (L3.at ?_)))))
  show wpAny _ _ (holding [Value.builtin "object.__class__"] (call (.builtin "getset_descriptor.__get__") [.builtin "object.__class__", .ref x, .ref D]) >>= ret) _ _ _
  refine wpAny_bind (wpAny_holding (wpAny_call (PySem.W.class_get (s := ⟨hp, g, d, t + 1, os⟩) (ox := ox) (od := od) X I C.hm ?_)))
  refine wpAny_pure ?_
  show wpAny _ _ (handedOut (.ref D)) _ _ _
  rw [PySem.W.handedOut_of (v := .ref D) rfl]
  first
    | exact wpAny_pure (wpAny_pure h)
    | exact wpAny_pure h
    | exact wpAny_pure (wpAny_bind (wpAny_pure (wpAny_pure h)))
theorem kitx_exc {K : PySem.W.Frag} {x D : Addr} {ox : Obj} (C : ExcC K D) : PySem.W.KitX K (.ref x) (.ref D) (fun h => ∃ od, PySem.W.InstAt h x ox D od) where
  ty := fun _ _ _ ⟨_, I⟩ => I.type
  it := fun _ _ X _ => by
    obtain ⟨cdD, hcD, _⟩ := PySem.W.any_some C.hd
    unfold PySem.W.clsIn at hcD
    split at hcD
    · rename_i c' d' cd' sl' ho
      intro A' Q' E' s' k q
      unfold isType loadHead
      exact wpAny_bind (wpAny_loadPart (k _ _ (X _ _ ho)) (wpAny_pure q))
    · cases hcD
  ne := fun h tp dd its n sl X htp => by
    obtain ⟨cdD, hcD, _⟩ := PySem.W.any_some C.hd
    refine Bool.eq_false_iff.mpr fun q => ?_
    have e : D = tp := Value.ref.inj (beq_iff_eq.mp q)
    subst e
    unfold PySem.W.clsIn at hcD
    split at hcD
    · rename_i c' d' cd' sl' ho
      have z := (X _ _ ho).symm.trans htp
      cases z
    · cases hcD
  ca := fun X ⟨_, I⟩ k => class_of C X I k
/-- its dict, where it has one, is at hand -/
def DictAt (d : Option Addr) (H : Hp) : Prop := d = none ∨ ∃ dd gs, d = some dd ∧ H dd = some (.xd gs)
theorem inst_at {pins : List (Addr × Obj)} {σ : L2.St} {H : Hp} {s : Shared} (I : Inv X pins σ H s) (hp : (a, oe) ∈ X.pn) (hz : L2N.Zn (.ref D) d oe) (hf : ∃ vs, oe.data = .fields vs) (hd : DictAt d H) : ∃ od, PySem.W.InstAt s.heap a oe D od := by
  have g := (I.pin (a, oe) (List.mem_append_left _ hp)).1
  obtain ⟨vs, hv⟩ := hf
  have hn : PySem.W.notCls oe = true := by unfold PySem.W.notCls; rw [hv] <;> rfl
  rcases hd with rfl | ⟨dd, gs, rfl, hg⟩
  · exact ⟨none, g, hz.1, hn, by rw [hz.2.1]; trivial⟩
  · obtain ⟨mA, ⟨o, _, _, ho, _⟩, _⟩ := (show ObjOk X.prog X.w H s.heap dd (.xd gs) from I.hok dd _ hg)
    exact ⟨some o, g, hz.1, hn, by rw [hz.2.1]; exact ho⟩
/-- isinstance(e, c) -/
def rIsD (K : PySem.W.Frag) (D a : Addr) (d : Option Addr) : List V → Hp → VK → Prop := fun xs H Q => ∃ (c : V) (cv : Value) (b : Bool), xs = [.ref a, c] ∧ (∀ u, RelV c u → u = cv) ∧ PySem.W.kitOne K (.ref D) cv = some b ∧ DictAt d H ∧ Q (.bl b) H
theorem call_isD (C : ExcC X.K D) (hp : (a, oe) ∈ X.pn) (hz : L2N.Zn (.ref D) d oe) (hf : ∃ vs, oe.data = .fields vs) : CallR X (.builtin "isinstance") (rIsD X.K D a d) := by
  intro pins s σ H xs us Q I r h
  obtain ⟨c, cv, b, rfl, hcv, e, hd, q⟩ := h
  obtain ⟨od, J⟩ := inst_at I hp hz hf hd
  cases r with
  | cons rx rr =>
    cases rr with
    | cons rt rr =>
      cases rr
      cases rx
      have ec := hcv _ rt
      subst ec
      exact PySem.W.kia_one (kitx_exc C) I.kIn ⟨od, J⟩ e (fun z => nomatch z) fun tk => ⟨.bl b, H, I.kept (t' := tk) fun _ _ z => z, rfl, q⟩
/-- e.f -/
theorem pe_xfP {C : Addr} {cls : Value} {e : Expr} {te : TE} {pos : Pos} {n : Str} (T : XfC X.K C) (hno : PySem.W.findIn X.K (.ref C) n = some none)
    (hp : (a, oe) ∈ X.pn) (hz : L2N.Zn cls d oe) (hf : ∃ vs, oe.data = .fields vs) (he : PE X e te) (hb : attributeBase e n X.env (eval e X.env) = eval e X.env := by rfl) :
    PE X (.Attribute e n pos) (tXf a cls d C n te) := by
  constructor
  intro pins s σ H Q I h
  refine attr_of hb (thn (he.run pins s σ H _ I h) ?_)
  rintro u s1 ⟨x, H1, I1, rx, rfl, rfl, dd, fs, v, rfl, ea, l, q⟩
  cases (show u = Value.ref a from rx)
  have g := (I1.pin (a, oe) (List.mem_append_left _ hp)).1
  obtain ⟨vs, hd⟩ := hf
  obtain ⟨mA, hns, hr⟩ := (show ObjOk X.prog X.w H1 s1.heap dd (.xd fs) from I1.hok dd _ ea)
  obtain ⟨od, ho, hl⟩ := lookIn_ns hns
  obtain ⟨w, hw, rw'⟩ := RelO.some_of (v := v) (o := mA n) (by rw [← l]; exact hr n)
  have J : PySem.W.InstAt s1.heap a oe C (some od) := ⟨g, hz.1, by unfold PySem.W.notCls; rw [hd] <;> rfl, by rw [hz.2.1]; exact ho⟩
  exact PySem.HandSPX.exc_get I1.kIn J T.ga T.gg T.exC (PySem.W.findObj_own T.hdC hno rfl (by rw [hl, hw])) (handed_of rw') ⟨v, H1, I1.tok _, rw', q⟩
end
end Sb

namespace Sb
open PySem PySem.Spec PyProof.Rows L2
/-! ### raising, the exception's context kept in sight -/
theorem pmk_oexN {X : Cx} {e : Expr} {es : List Expr} {ta : TA} {p pos : Pos} {CX : CXT} {x : Str} {C fI : Addr} {k : Nat} {fd : FuncData} {ps : List Str} {sp : Sp} {ds : List Value} {dvs : List V} (T : OexC X.K C) (iC : PySem.W.findIn X.K (.ref C) "__init__" = some (some (.ref fI))) (tI : PySem.W.typeIn X.K (.ref fI) = some (.type "function"))
    (F1 : FnOk X.prog X.w X.K X.mg X.base CX k fI fd ps sp) (hr : Room (k + 1) X.A) (hb : Binds X.K fd ps ds) (hd : Vals dvs ds) (hx : Passes CX X (fun _ _ _ => False)) (hg : Gl X x) (hm : X.mg x = some (.ref C)) (ha : PA X (e :: es) ta)
    (hdb : (x == ("__debug__" : Str)) = false := by decide) (he : starEach (e :: es) X.env = (false, eval e X.env) :: starEach es X.env := by rfl) (hpl : (backTo pos (starEach es X.env)).any (·.1) = false := by rfl) :
    L2N.PMk X (.Call (.Name x p) (e :: es) [] pos) (tMkO C sp dvs ta) := by
  intro pins s σ H Q I h
  obtain ⟨nm, q, N, bs, bm, sn, sub, ab, col, dd, k0, k1, k2, k3, k5, hC, hbm⟩ := T.cls
  refine wpAny_Call_Name_kw (ld_glob I hg hm ?_ hdb)
  refine PySem.W.callWith_K (h₀ := X.base) I.ok.mod.kin T.kC (thn (ha.run pos pins s σ H _ I h) fun us s1 ⟨vs, H1, I1, r1, hz, q1⟩ => ⟨I1.kIn, ?_⟩) he hpl
  show wpAny _ _ (call (.ref C) us) _ _ _
  obtain ⟨hp, g, dr, tk, os⟩ := s1
  have hsz : hp.objs.size ≤ hp.objs.size + 1 := Nat.le_succ _
  have hn : H1 (hp.objs.size + 1) = none := I1.hok.fresh hsz
  have hq := q1 (hp.objs.size + 1) hn
  have kk : ∀ b o, hp.get? b = some o → ((hp.push (PySem.W.kdv_tup us)).push (PySem.HandSPX.excO C hp.objs.size)).get? b = some o := fun b o e => Heap.get?_push_of_some _ (Heap.get?_push_of_some _ e)
  have hget : ((hp.push (PySem.W.kdv_tup us)).push (PySem.HandSPX.excO C hp.objs.size)).get? (hp.objs.size + 1) = some (PySem.HandSPX.excO C hp.objs.size) := by heap_get
  have I2 : Inv X pins σ (upd H1 (hp.objs.size + 1) (exo (hp.objs.size + 1) C none)) ⟨(hp.push (PySem.W.kdv_tup us)).push (PySem.HandSPX.excO C hp.objs.size), g, dr, tk, os⟩ :=
    I1.laid (t' := tk) (a := hp.objs.size + 1) (o := exo (hp.objs.size + 1) C none) (h' := (hp.push (PySem.W.kdv_tup us)).push (PySem.HandSPX.excO C hp.objs.size)) kk hsz (exo_ok hget)
  have r2 : Vals (V.ref (hp.objs.size + 1) :: (vs ++ dvs)) (Value.ref (hp.objs.size + 1) :: (us ++ ds)) := .cons rfl (r1.append hd)
  have hl : (Value.ref (hp.objs.size + 1) :: us ++ ds).length = ps.length := by
    have e := r2.length
    rw [F1.len _ _ _ _ hq] at e
    exact e.symm
  have hus : us.length ≤ sizeLine := by
    rw [← Paired.length r1, sizeLine_eq]
    omega
  refine wpAny_call (PySem.HandSPX.call_own F.excBase_ValueError (fun Y => PySem.HandSPX.refsVE_contains Y bm hbm) (I1.kIn _ _ hC) (PySem.W.looks_findIn I1.kIn iC) (fun self => PySem.W.bind_fn I1.kIn self tI) hus
    (codeAny_mono (F1.run _ X.stack _ _ ⟨Value.ref (hp.objs.size + 1) :: us, []⟩ (Value.ref (hp.objs.size + 1) :: (us ++ ds)) _ _ (fun _ _ _ => False) (hr.make C us []) (I2.env0.make C us []) (hb _ (Value.ref (hp.objs.size + 1) :: us) I2.kIn hl) r2 hq) fun r s' hq' => ?_))
  cases r with
  | error er => exact hx pins σ _ _ er s' I2 hq'
  | ok fl =>
    cases fl with
    | ret u =>
      obtain ⟨v, H2, os2, bare2, un2, hok2, rv, ev, d, fs, ea, ed, hd1, q2⟩ := hq'
      subst ev
      obtain ⟨h2, g2, d2, t2, os'⟩ := s'
      obtain ⟨t0, G, J, kG, ge, hoe, na⟩ := mk_end0 (d2 := d2) (t2 := t2) I1 hsz kk un2 hok2 os2 bare2 ea ed hd1
      exact ⟨rv, hp.objs.size + 1, _, _, ⟨G, g2, d2, t2, os'⟩, _, .ref C, some d, rfl, J, kG, ge, hoe, ⟨rfl, rfl, fun vs hv => by cases hv; rfl⟩, rfl, rfl, na, rfl, bare2, raises_own T.exC T.tyC, q2⟩
    | next => exact False.elim hq'
    | brk => exact False.elim hq'
    | cont => exact False.elim hq'

section
variable {X : Cx} {x f1 f2 : Str} {p pos : Pos} {e : Expr} {es : List Expr} {ta : TA}
theorem pmk_own2N (T : OwnX X.K x) (F : ∃ fd ps, FnOk X.prog X.w X.K X.mg X.base CX0 1 (He.ma X.K (He.ga X.K x) "__init__") fd ps (spIni2 (He.ga X.K x) f1 f2) ∧ Binds X.K fd ps []) (hr : Room 2 X.A) (hg : Gl X x) (hm : X.mg x = some (.ref (He.ga X.K x))) (ha : PA X (e :: es) ta)
    (hdb : (x == ("__debug__" : Str)) = false := by decide) (he : starEach (e :: es) X.env = (false, eval e X.env) :: starEach es X.env := by rfl) (hpl : (backTo pos (starEach es X.env)).any (·.1) = false := by rfl) :
    L2N.PMk X (.Call (.Name x p) (e :: es) [] pos) (tMkO (He.ga X.K x) (spIni2 (He.ga X.K x) f1 f2) [] ta) := by
  obtain ⟨fd, ps, F1, hb⟩ := F
  exact pmk_oexN T.o T.i T.t F1 hr hb .nil pass0 hg hm ha hdb he hpl
theorem pmk_own1N (T : OwnX X.K x) (F : ∃ fd ps, FnOk X.prog X.w X.K X.mg X.base CX0 1 (He.ma X.K (He.ga X.K x) "__init__") fd ps (spIni1 (He.ga X.K x) f1) ∧ Binds X.K fd ps []) (hr : Room 2 X.A) (hg : Gl X x) (hm : X.mg x = some (.ref (He.ga X.K x))) (ha : PA X (e :: es) ta)
    (hdb : (x == ("__debug__" : Str)) = false := by decide) (he : starEach (e :: es) X.env = (false, eval e X.env) :: starEach es X.env := by rfl) (hpl : (backTo pos (starEach es X.env)).any (·.1) = false := by rfl) :
    L2N.PMk X (.Call (.Name x p) (e :: es) [] pos) (tMkO (He.ga X.K x) (spIni1 (He.ga X.K x) f1) [] ta) := by
  obtain ⟨fd, ps, F1, hb⟩ := F
  exact pmk_oexN T.o T.i T.t F1 hr hb .nil pass0 hg hm ha hdb he hpl
end
/-- an own exception class with no __init__ of its own -/
structure Own0 (K : PySem.W.Frag) (x : Str) : Prop where
  q : PySem.W.excIn K (He.ga K x) He.veBase "ValueError.__new__" = true
  k : PySem.W.keepIn K (.ref (He.ga K x)) = true
  s : PySem.W.subIn K (.ref (He.ga K x)) (.type "BaseException") = some true
  t : PySem.W.typeIn K (.ref (He.ga K x)) = some (.type "type")
def own0 (K : PySem.W.Frag) (x : Str) : Bool := PySem.W.excIn K (He.ga K x) He.veBase "ValueError.__new__" && (PySem.W.keepIn K (.ref (He.ga K x)) && (decide (PySem.W.subIn K (.ref (He.ga K x)) (.type "BaseException") = some true) && decide (PySem.W.typeIn K (.ref (He.ga K x)) = some (.type "type"))))
theorem own0_ok {K : PySem.W.Frag} {x : Str} (h : own0 K x = true) : Own0 K x := by
  obtain ⟨h1, h⟩ := Bool.and_eq_true_iff.mp h
  obtain ⟨h2, h⟩ := Bool.and_eq_true_iff.mp h
  obtain ⟨h3, h4⟩ := Bool.and_eq_true_iff.mp h
  exact ⟨h1, h2, of_decide_eq_true h3, of_decide_eq_true h4⟩
theorem pmk_own0N {X : Cx} {x m : Str} {j : Nat} {p p2 pos : Pos} (T : Own0 X.K x) (hg : Gl X x) (hm : X.mg x = some (.ref (He.ga X.K x))) (hdb : (x == ("__debug__" : Str)) = false := by decide) :
    L2N.PMk X (.Call (.Name x p) [.Constant (.str m) j p2] [] pos) (fun _ H Q => Q (.ref (He.ga X.K x)) none H) :=
  L2N.pmk_own PySem.F.excBase_ValueError T.q hm T.k (raises_own T.s T.t) hg hdb
/-- what isinstance asks of a class -/
def excCB (K : PySem.W.Frag) (x : Str) : Bool := decide (PySem.W.findIn K (.ref (He.ga K x)) "__getattribute__" = some (some (.builtin "BaseException.__getattribute__"))) && (decide (PySem.W.findIn K (.ref (He.ga K x)) "__getattr__" = some none) && (decide (PySem.W.subIn K (.ref (He.ga K x)) (.type "BaseException") = some true) && (PySem.W.hasDictIn K (He.ga K x) &&
  (decide (PySem.W.findIn K (.ref (He.ga K x)) "__class__" = some (some (.builtin "object.__class__"))) && (decide (PySem.W.specialIn K (.builtin "object.__class__") "__get__" = some (some (.builtin "getset_descriptor.__get__"))) && (decide (PySem.W.takesIn K (.builtin "object.__class__") = some true) && decide (PySem.W.mroIn K (He.ga K x) (.type "object") = some true)))))))
theorem excCB_ok {K : PySem.W.Frag} {x : Str} (h : excCB K x = true) : ExcC K (He.ga K x) := by
  obtain ⟨h1, h⟩ := Bool.and_eq_true_iff.mp h
  obtain ⟨h2, h⟩ := Bool.and_eq_true_iff.mp h
  obtain ⟨h3, h⟩ := Bool.and_eq_true_iff.mp h
  obtain ⟨h4, h⟩ := Bool.and_eq_true_iff.mp h
  obtain ⟨h5, h⟩ := Bool.and_eq_true_iff.mp h
  obtain ⟨h6, h⟩ := Bool.and_eq_true_iff.mp h
  obtain ⟨h7, h8⟩ := Bool.and_eq_true_iff.mp h
  exact ⟨of_decide_eq_true h1, of_decide_eq_true h2, of_decide_eq_true h3, h4, of_decide_eq_true h5, of_decide_eq_true h6, of_decide_eq_true h7, of_decide_eq_true h8⟩
/-- which of the classes x's instances are -/
def kitB1 (K : PySem.W.Frag) (x : Str) (ys : List Str) : Bool := ys.all (fun y => decide (PySem.W.kitOne K (.ref (He.ga K x)) (.ref (He.ga K y)) = some (decide (x = y)))) && decide (PySem.W.kitOne K (.ref (He.ga K x)) (.type "ValueError") = some true)
theorem kitB1_ok {K : PySem.W.Frag} {x : Str} {ys : List Str} (h : kitB1 K x ys = true) {y : Str} (hy : y ∈ ys) : PySem.W.kitOne K (.ref (He.ga K x)) (.ref (He.ga K y)) = some (decide (x = y)) :=
  of_decide_eq_true (List.all_eq_true.mp (Bool.and_eq_true_iff.mp h).1 y hy)
theorem kitB1_ve {K : PySem.W.Frag} {x : Str} {ys : List Str} (h : kitB1 K x ys = true) : PySem.W.kitOne K (.ref (He.ga K x)) (.type "ValueError") = some true := of_decide_eq_true (Bool.and_eq_true_iff.mp h).2
/-! ### classes that are handed over as values -/
theorem passLN {X : Cx} : Passes (L2N.CX X.prog X.w) X E0 := fun _ _ _ _ _ _ _ h => by
  obtain ⟨_, _, _, _, _, _, _, _, _, _, _, _, q⟩ := h
  exact q.elim
theorem takesN {X : Cx} : L2N.Takes X (fun _ _ _ _ => False) := fun _ _ ⟨_, _, _, _, _, _, _, _, _, _, _, _, _, _, _, _, w⟩ => w.elim
section
variable {K : PySem.W.Frag} {σ : L2.St} {G G' M H : Hp} {ts : TA} {C a : Addr} {E : XK}
theorem s_raise0 {x : Str} (A : At G M H) (k : E (.ref (He.ga K x)) none H) : (fun (_ : L2.St) (H : Hp) (Q : XK) => Q (.ref (He.ga K x)) none H) σ H E := k
end
end Sb

namespace Sb
open PySem PySem.Spec PyProof.Rows L2
/-! ### repr of data that holds lists and dicts at once -/
def sysD (K : PySem.W.Frag) : Bool := match K.lookup sysModules with
  | some ⟨_, _, .dict _ _, _⟩ => true
  | _ => false
theorem sysD_ok {K : PySem.W.Frag} (h : sysD K = true) : ∃ o es ep, K.lookup sysModules = some o ∧ o.data = .dict es ep := by
  unfold sysD at h
  split at h
  · rename_i e
    exact ⟨_, _, _, e, rfl⟩
  · cases h
section
variable {X : Cx} {pins : List (Addr × Obj)} {σ : L2.St} {H : Hp} {s : Shared}
mutual
theorem Rp.readsX (hS : sysD X.K = true) (I : Inv X pins σ H s) : ∀ (d : PyData) {v : V} {u : Value}, Rp X.K H d v → RelV v u → ∃ as, Reads s.heap u d as ∧ sysModules ∉ as
  | .none, v, u, h, r => by
    rw [show v = V.non from h] at r
    rw [show u = Value.none from r]
    exact ⟨_, .none, by simp⟩
  | .bool b, v, u, h, r => by
    rw [show v = V.bl b from h] at r
    rw [show u = Value.bool b from r]
    exact ⟨_, .bool b, by simp⟩
  | .int b, v, u, h, r => by
    rw [show v = V.int b from h] at r
    obtain ⟨t, e⟩ := r
    rw [e]
    exact ⟨_, .int b t, by simp⟩
  | .str b, v, u, h, r => by
    rw [show v = V.str b from h] at r
    obtain ⟨t, e⟩ := r
    rw [e]
    exact ⟨_, .str b t, by simp⟩
  | .list ds, v, u, ⟨a, xs, e, h1, h2⟩, r => by
    rw [e] at r
    rw [show u = Value.ref a from r]
    obtain ⟨its, rv, pl, _⟩ := I.list (SqL.of h1)
    obtain ⟨o, n, g1, g2, _, g3⟩ := pl
    obtain ⟨as, k1, k2⟩ := RpL.readsX hS I ds h2 rv
    refine ⟨_, .list g1 g2 g3 (by simpa using k1), fun z => ?_⟩
    rcases List.mem_cons.mp z with z | z
    · obtain ⟨o', es, ep, z1, z2⟩ := sysD_ok hS
      have z3 := I.kIn _ _ z1
      rw [z] at z3
      have z4 := z3.symm.trans g1
      cases z4
      rw [z2] at g3
      cases g3
    · exact k2 z
  | .tuple ds, v, u, ⟨a, xs, e, h1, h2⟩, r => by
    rw [e] at r
    rw [show u = Value.ref a from r]
    obtain ⟨its, rv, ⟨o, g1, g2, n, g3⟩, _⟩ := I.tuple h1
    obtain ⟨as, k1, k2⟩ := RpL.readsX hS I ds h2 rv
    exact ⟨as, .tuple g1 g2 g3 (by simpa using k1), k2⟩
  | .dict kvs, v, u, ⟨a, es, e, h1, h2⟩, r => by
    rw [e] at r
    rw [show u = Value.ref a from r]
    obtain ⟨_, hs, vs, kv, o, xs, ep, g1, g2, g3, _, g4, _⟩ := I.hok a _ h1
    have hs' : a ≠ sysModules := by simpa using hs
    obtain ⟨bs, k1, k2⟩ := RpD.readsX hS I kvs h2 kv g4
    have k3 := keys_reads (X := X) (s := s) kvs h2 kv g4
    refine ⟨_, .dict g1 g2.1 g3 k3 k1, fun z => ?_⟩
    rcases List.mem_cons.mp z with z | z
    · exact hs' z.symm
    · exact k2 (by simpa using z)
theorem RpL.readsX (hS : sysD X.K = true) (I : Inv X pins σ H s) : ∀ (ds : List PyData) {vs : List V} {us : List Value}, RpL X.K H ds vs → Vals vs us → ∃ as, ReadsAll s.heap us ds as ∧ sysModules ∉ as
  | [], vs, us, h, r => by
    rw [show vs = [] from h] at r
    cases r
    exact ⟨_, .nil, by simp⟩
  | d :: ds, vs, us, ⟨x, xs, e, h1, h2⟩, r => by
    rw [e] at r
    cases r with
    | cons r1 r2 =>
      obtain ⟨as, k1, k2⟩ := Rp.readsX hS I d h1 r1
      obtain ⟨bs, k3, k4⟩ := RpL.readsX hS I ds h2 r2
      refine ⟨_, .cons k1 k3, fun w => ?_⟩
      rcases List.mem_append.mp w with w | w
      · exact k2 w
      · exact k4 w
theorem RpD.readsX (hS : sysD X.K = true) (I : Inv X pins σ H s) : ∀ (ds : List (PyData × PyData)) {es : List (Key × V)} {us : List (Key × Value)} {xs : List DictEntry}, RpD X.K H ds es → KV es us → Pairs (mixKind X.prog X.w) xs us →
    ∃ as, ReadsAll s.heap (xs.map (·.val)) (ds.map (·.2)) as ∧ sysModules ∉ as
  | [], es, us, xs, h, r, p => by
    rw [show es = [] from h] at r
    cases r
    cases p
    exact ⟨_, .nil, by simp⟩
  | (k, d) :: ds, es, us, xs, ⟨x, y, t, e, h0, h1, h2⟩, r, p => by
    rw [e] at r
    cases r with
    | cons r1 r2 =>
      cases p with
      | cons p0 p1' p2 =>
        have r1' := r1.2
        obtain ⟨as, k1, k2⟩ := Rp.readsX hS I d h1 r1'
        obtain ⟨bs, k3, k4⟩ := RpD.readsX hS I ds h2 r2 p2
        refine ⟨as ++ bs, .cons (cast (by show Reads s.heap _ d as = Reads s.heap _ d as; exact congrArg (fun z => Reads s.heap z d as) p1'.symm) k1) k3, fun w => ?_⟩
        rcases List.mem_append.mp w with w | w
        · exact k2 w
        · exact k4 w
end

def rReprX (K : PySem.W.Frag) : List V → Hp → VK → Prop := fun xs H Q => ∃ G d v, Ex G H ∧ xs = [v] ∧ Rp K G d v ∧ isDisplay d = true ∧ d.showable = true ∧ d.depth ≤ 60 ∧ d.shown.length ≤ sizeLine ∧ Q (.str d.shown) H
theorem call_reprX (hS : sysD X.K = true) (hg : X.A.guards = some []) (hu : X.A.units + 64 < cLine) : CallR X (.builtin "repr") (rReprX X.K) := by
  intro pins s σ H xs us Q I r h
  obtain ⟨G, d, v, g, rfl, h1, h3, h4, h5, h6, q⟩ := h
  cases r with
  | cons r1 r2 =>
    cases r2
    obtain ⟨as, k1, k2⟩ := Rp.readsX hS I d (h1.up g) r1
    obtain ⟨a, rfl⟩ := isRef_of_reads k1 h3
    exact repr_of_reads' k1 h4 (fun _ => k2) hg (by omega) (fun _ _ e => e) (fun h' u tk hk => ⟨.str d.shown, H, I.kept hk, ⟨u, rfl⟩, q⟩) h6
end
theorem rc_reprX {K : PySem.W.Frag} {d : PyData} (h3 : isDisplay d = true) (h4 : d.showable = true) (h5 : d.depth ≤ 60) (h6 : d.shown.length ≤ sizeLine) : RC K (rReprX K) [d] (.str d.shown) :=
  fun G M H xs A ⟨x, r, e, h, h'⟩ Q q => by
    rw [e, show r = [] from h']
    exact ⟨G, d, x, A.g, rfl, h, h3, h4, h5, h6, q.here A rfl⟩
/-! ### how long it is, some numbers below 0 -/
mutual
def wX : PyData → Nat
  | .none => 4
  | .bool _ => 5
  | .int _ => 40
  | .str x => 10 * x.length + 2
  | .list xs => 2 + wXA xs
  | .tuple xs => 3 + wXA xs
  | .dict xs => 2 + wXK xs
def wXA : List PyData → Nat
  | [] => 0
  | x :: xs => wX x + 2 + wXA xs
def wXK : List (PyData × PyData) → Nat
  | [] => 0
  | (k, v) :: r => wX k + wX v + 4 + wXK r
end
mutual
def fiX : PyData → Bool
  | .none => true
  | .bool _ => true
  | .int i => decide (0 ≤ i) && decide (i < 1000000000000000000) || decide (i = -1) || decide (i = -1000000000000000000000000000000)
  | .str x => x.cps.toList.all (· < 4294967296)
  | .list xs => fiXA xs
  | .tuple xs => fiXA xs
  | .dict xs => fiXK xs
def fiXA : List PyData → Bool
  | [] => true
  | x :: xs => fiX x && fiXA xs
def fiXK : List (PyData × PyData) → Bool
  | [] => true
  | (k, v) :: r => fiX k && fiX v && fiXK r
end
mutual
theorem shown_leX : ∀ d : PyData, fiX d = true → d.shown.length ≤ wX d
  | .none, _ => by simp only [PyData.shown, wX]; decide
  | .bool b, _ => by simp only [PyData.shown, wX]; cases b <;> decide
  | .int i, h => by
    simp only [PyData.shown, wX]
    simp only [fiX, Bool.or_eq_true, Bool.and_eq_true] at h
    rcases h with (h | h) | h
    · exact Nat.le_trans (int_len (of_decide_eq_true h.1) (of_decide_eq_true h.2)) (by decide)
    · rw [of_decide_eq_true h]
      decide +kernel
    · rw [of_decide_eq_true h]
      decide +kernel
  | .str x, h => by
    simp only [PyData.shown, wX]
    simp only [fiX] at h
    exact StrLaws.reprText_len x fun c hc => of_decide_eq_true (List.all_eq_true.mp h c hc)
  | .list xs, h => by
    simp only [PyData.shown, wX]
    simp only [fiX] at h
    have h1 := shownA_leX xs h
    have h2 := from_pil (PyData.shownAll xs) 0 "["
    unfold listText
    rw [strLen_append]
    have h3 : ("[" : Str).length = 1 := rfl
    have h4 : ("]" : Str).length = 1 := rfl
    omega
  | .tuple xs, h => by
    simp only [PyData.shown, wX]
    simp only [fiX] at h
    have h1 := shownA_leX xs h
    have h2 := join_pil (PyData.shownAll xs)
    unfold tupleText
    rw [strLen_append, strLen_append]
    have h3 : ("(" : Str).length = 1 := rfl
    have h4 : (Str.ofString (if (PyData.shownAll xs).length == 1 then ",)" else ")" : String)).length ≤ 2 := by split <;> decide
    omega
  | .dict xs, h => by
    simp only [PyData.shown, wX]
    simp only [fiX] at h
    have h1 := shownK_leX xs h
    have h2 := join_pil (PyData.shownKv xs)
    unfold dictText
    rw [strLen_append, strLen_append]
    have h3 : ("{" : Str).length = 1 := rfl
    have h4 : ("}" : Str).length = 1 := rfl
    omega
theorem shownA_leX : ∀ ds : List PyData, fiXA ds = true → pil (PyData.shownAll ds) ≤ wXA ds
  | [], _ => by simp [PyData.shownAll, wXA, pil]
  | x :: xs, h => by
    simp only [fiXA, Bool.and_eq_true] at h
    have h1 := shown_leX x h.1
    have h2 := shownA_leX xs h.2
    unfold pil at h2 ⊢
    simp only [PyData.shownAll, wXA, List.map_cons, List.sum_cons]
    omega
theorem shownK_leX : ∀ ds : List (PyData × PyData), fiXK ds = true → pil (PyData.shownKv ds) ≤ wXK ds
  | [], _ => by simp [PyData.shownKv, wXK, pil]
  | (k, v) :: xs, h => by
    simp only [fiXK, Bool.and_eq_true] at h
    have h1 := shown_leX k h.1.1
    have h0 := shown_leX v h.1.2
    have h2 := shownK_leX xs h.2
    unfold pil at h2 ⊢
    simp only [PyData.shownKv, wXK, List.map_cons, List.sum_cons]
    rw [strLen_append, strLen_append]
    have h3 : (": " : Str).length = 2 := rfl
    omega
end

end Sb
namespace Sb
open PySem PySem.Spec PyProof.Rows L2
/-! ### a Hook that also looks at sys.modules -/
def asT (g : Addr → Option Obj) (n : Nat) : List Addr := He.asD g n ++ [PySem.cStatics, PySem.sysModules]
def obsT (n : Nat) (fa : List He.Fa) (fn : List He.DefD) (ex : PySem.W.Frag → Bool) (g : Addr → Option Obj) : He.AlD × Bool := (He.obsD fa fn (He.frG g (asT g n)), ex (He.frG g (asT g n)))
def hookT (n : Nat) (fa : List He.Fa) (fn : List He.DefD) (ex : PySem.W.Frag → Bool) : PySem.W.Hook where
  α := He.AlD × Bool
  obs := fun s => obsT n fa fn ex s.heap.get?
  val := fun _ => (He.valD fn, true)
  says := fun _ h => ∃ K : PySem.W.Frag, K.In h ∧ He.SaysD fa fn K ∧ ex K = true
  of := fun _ _ e => ⟨_, He.frG_in, congrArg (fun z : He.AlD × Bool => z.1) e, congrArg (fun z : He.AlD × Bool => z.2) e⟩
  keeps := fun _ _ _ ⟨K, hK, c⟩ k => ⟨K, PySem.W.Frag.In.keeps hK k, c⟩
theorem obsT_eq {n : Nat} {fa : List He.Fa} {fn : List He.DefD} {ex : PySem.W.Frag → Bool} {g : Addr → Option Obj} {s : Shared} (h : ∀ a, g a = s.heap.get? a) : obsT n fa fn ex g = (hookT n fa fn ex).obs s := by
  have e : g = s.heap.get? := funext h
  rw [e] <;> rfl
end Sb

namespace Sb
open PySem PySem.Spec PyProof.Rows L2
section
variable {K : PySem.W.Frag} {σ : L2.St} {G G' M M0 M1 H : Hp} {ta tb te tc : TE} {d d1 d2 d3 : PyData} {tt t u : TT} {ts : TA} {ds es : List PyData} {Q : VK} {D : Ends} {s1 s2 tbd : TS} {i j n m n' : Nat} {r p a : Addr} {o : HO}
/-! ### the keys of a dict, of any kind -/
theorem RpD.keysG : ∀ {kvs : List (PyData × PyData)} {xs : List (Key × V)}, RpD K G kvs xs → xs.map (fun e => kD e.1) = kvs.map (·.1)
  | [], xs, h => by rw [show xs = [] from h]; rfl
  | (k, d) :: r, _, ⟨x, y, t, h1, h2, _, h3⟩ => by
    rw [h1, List.map_cons, List.map_cons, RpD.keysG h3, h2]
theorem d_lcG {tt : TT} {i j : Nat} {v : V} {kvs : List (PyData × PyData)} {p : PyData → Bool} {f : PyData → PyData} (hv : σ[j]? = some (some v)) (hd : Rp K G (.dict kvs) v) (hn : kvs.length < 100000)
    (hw : (wipe σ [i])[j]? = some (some v))
    (ht : ∀ k, k ∈ kvs.map (·.1) → ∀ x, (∀ G1, Rp K G1 k x) → ∀ G1, TrB tt ((wipe σ [i]).set i (some x)) G1 (p k))
    (he : ∀ k, k ∈ kvs.map (·.1) → ∀ x, (∀ G1, Rp K G1 k x) → ∀ G1, TrD K te ((wipe σ [i]).set i (some x)) G1 (f k)) :
    TrD K (tLockE (tLc (iKeys (tVar j)) (gName i) tt te [i])) σ G (.list (((kvs.map (·.1)).filter p).map f)) := fun G1 M H e A Q q => by
  obtain ⟨a, xs, rfl, k1, k2⟩ := hd.up e
  have hH := A.g _ _ k1
  refine ⟨a, .dK xs, hH, trivial, fun od => ?_⟩
  -- within: the dict is locked, all the rest of G stands
  have A0 : At (fun b => if b = a then none else G1 b) (upd M a (.frz od (.dK xs))) (upd H a (.frz od (.dK xs))) := by
    have hMa : M a = none := by
      cases z : M a with
      | none => rfl
      | some o =>
        rw [A.d _ _ z] at k1
        cases k1
    refine ⟨fun b o z => ?_, fun b o z => ?_, fun b o z => ?_⟩
    · by_cases hb : b = a
      · rw [if_pos hb] at z; cases z
      · rw [if_neg hb] at z
        rw [upd_ne hb]
        exact A.g _ _ z
    · by_cases hb : b = a
      · subst hb
        rw [upd_same] at z ⊢
        exact z
      · rw [upd_ne hb] at z ⊢
        exact A.m _ _ z
    · by_cases hb : b = a
      · exact if_pos hb
      · rw [if_neg hb]
        rw [upd_ne hb] at z
        exact A.d _ _ z
  have hMa : M a = none := by
    cases z : M a with
    | none => rfl
    | some o =>
      rw [A.d _ _ z] at k1
      cases k1
  generalize hM1 : upd M a (.frz od (.dK xs)) = M1 at A0
  generalize hG0 : (fun b => if b = a then none else G1 b : Hp) = G0 at A0
  have hMla : M1 a = some (.frz od (.dK xs)) := by rw [← hM1]; exact upd_same
  refine ⟨.ref a, hv, a, od, rfl, .inl ⟨xs, upd_same, fun D hD => ?_⟩⟩
  have hDa : D ≠ a := fun z => by
    subst z
    rw [upd_same] at hD
    cases hD
  have keys := k2.keysG
  refine ⟨fun t m H3 => m = xs.length - t ∧ t ≤ xs.length ∧ ∃ Gj acc, Ex G0 Gj ∧ At Gj (upd M1 D (.lst acc)) H3 ∧ RpL K Gj ((((kvs.map (·.1)).take t).filter p).map f) acc, ⟨xs.length, by simp, Nat.zero_le _, G0, [], Ex.refl _, A0.nm hD, rfl⟩, ?_⟩
  rintro t m H3 ⟨rfl, ht', Gj, acc, ej, Aj, rj⟩
  have hfr : H3 a = some (.frz od (.dK xs)) := Aj.m _ _ (by rw [upd_ne hDa.symm]; exact hMla)
  by_cases hlt : t < xs.length
  · refine .inr ⟨⟨hfr, hlt⟩, fun H4 => ∃ Gj acc, Ex G0 Gj ∧ At Gj (upd M1 D (.lst acc)) H4 ∧ RpL K Gj ((((kvs.map (·.1)).take (t + 1)).filter p).map f) acc, fun H4 z => ⟨xs.length - (t + 1), by omega, rfl, hlt, z⟩, ?_⟩
    rintro x H4 ⟨rfl, k, w, hk, rfl⟩
    have hk3 : (kvs.map (·.1))[t]? = some (kD k) := by
      rw [← keys, List.getElem?_map, hk]
      rfl
    have hm := List.mem_of_getElem? hk3
    have htk : (kvs.map (·.1)).take (t + 1) = (kvs.map (·.1)).take t ++ [kD k] := by rw [List.take_add_one, hk3]; rfl
    show wipe _ _ = wipe _ _ ∧ _
    refine ⟨wipe_set, ?_⟩
    refine ht (kD k) hm _ (fun _ => kV_rp) Gj Gj _ H4 (Ex.refl _) Aj _ fun G4 H4 e4 A4 => ?_
    cases hp : p (kD k) with
    | false =>
      refine ⟨G4, acc, ej.trans e4, A4, ?_⟩
      rw [htk, List.filter_append, List.filter_cons, hp]
      simpa using rj.up e4
    | true =>
      refine he (kD k) hm _ (fun _ => kV_rp) G4 G4 _ H4 (Ex.refl _) A4 _ fun v5 G5 H5 e5 A5 r5 => ?_
      refine ⟨acc, A5.m _ _ upd_same, ?_, G5, acc ++ [v5], ej.trans (e4.trans e5), ?_, ?_⟩
      · rw [rj.len, List.length_map]
        refine sz_lt (Nat.lt_of_le_of_lt (Nat.le_trans (List.length_filter_le _ _) ?_) hn)
        rw [List.length_take, List.length_map]
        exact Nat.min_le_right _ _
      · have z := A5.wr (o := .lst (acc ++ [v5])) (upd_same (H := M1) (a := D) (o := .lst acc))
        rw [upd_upd] at z
        exact z
      · rw [htk, List.filter_append, List.filter_cons, hp, List.map_append]
        exact (rj.up (e4.trans e5)).snoc r5
  · have e1 : t = xs.length := by omega
    subst e1
    have hl2 : (kvs.map (·.1)).take xs.length = kvs.map (·.1) := by
      have z := congrArg List.length keys
      simp only [List.length_map] at z
      rw [z]
      exact List.take_of_length_le (by rw [List.length_map]; exact Nat.le_refl _)
    rw [hl2] at rj
    refine .inl ⟨⟨hfr, Nat.le_refl _⟩, hfr, ?_⟩
    have hDM : M D = none := by
      have z := hD
      rw [upd_ne hDa] at z
      exact A.mNone z
    have hGD : G1 D = none := by
      have z := hD
      rw [upd_ne hDa] at z
      exact A.gNone z
    have hGjD : Gj D = none := Aj.d _ _ upd_same
    have hGja : Gj a = none := Aj.d _ _ (by rw [upd_ne hDa.symm]; exact hMla)
    -- behind: the dict and the new list belong to G again
    refine q (.ref D) (upd (upd Gj a (.dK xs)) D (.lst acc)) _ (fun b o z => ?_) ⟨fun b o z => ?_, fun b o z => ?_, fun b o z => ?_⟩ ⟨D, acc, rfl, upd_same, rj.up (Ex.trans (Ex.new hGja) (Ex.new (none_upd hGjD hDa)))⟩
    · have hb : b ≠ D := fun y => by
        subst y
        rw [hGD] at z
        cases z
      rw [upd_ne hb]
      by_cases ha : b = a
      · subst ha
        rw [upd_same]
        rw [k1] at z
        exact z
      · rw [upd_ne ha]
        refine ej _ _ ?_
        rw [← hG0]
        show (if b = a then none else G1 b) = some o
        rw [if_neg ha]
        exact z
    · by_cases hb : b = D
      · subst hb
        rw [upd_same] at z
        rw [upd_ne hDa]
        cases z
        exact Aj.m _ _ upd_same
      · rw [upd_ne hb] at z
        by_cases ha : b = a
        · subst ha
          rw [upd_same] at z ⊢
          exact z
        · rw [upd_ne ha] at z ⊢
          exact Aj.g _ _ z
    · have hb : b ≠ a := fun y => by
        subst y
        rw [hMa] at z
        cases z
      have hb2 : b ≠ D := fun y => by
        subst y
        rw [hDM] at z
        cases z
      rw [upd_ne hb]
      refine Aj.m _ _ ?_
      rw [upd_ne hb2, ← hM1, upd_ne hb]
      exact z
    · have hb : b ≠ a := fun y => by
        subst y
        rw [hMa] at z
        cases z
      have hb2 : b ≠ D := fun y => by
        subst y
        rw [hDM] at z
        cases z
      rw [upd_ne hb2, upd_ne hb]
      refine Aj.d b o ?_
      rw [upd_ne hb2, ← hM1, upd_ne hb]
      exact z

/-! ### [e for x, y in pairs if t] -/
def dPair (q : PyData × PyData) : PyData := .tuple [q.1, q.2]
theorem d_lcP {tl : TE} {qs : List (PyData × PyData)} {pp : PyData × PyData → Bool} {f : PyData × PyData → PyData} {g : TG} (hij : i ≠ j) (hl : TrD K tl σ G (.list (qs.map dPair))) (hn : qs.length < 100000) (hg : g = gTup K 2 (gCons (gName i) (gCons (gName j) gNil)))
    (ht : ∀ q ∈ qs, ∀ x y G1, Ex G G1 → Rp K G1 q.1 x → Rp K G1 q.2 y → TrB tt (((wipe σ [i, j]).set i (some x)).set j (some y)) G1 (pp q))
    (he : ∀ q ∈ qs, pp q = true → ∀ x y G1, Ex G G1 → Rp K G1 q.1 x → Rp K G1 q.2 y → TrD K te (((wipe σ [i, j]).set i (some x)).set j (some y)) G1 (f q)) :
    TrD K (tLc (iList K tl) g tt te [i, j]) σ G (.list ((qs.filter pp).map f)) := fun G1 M H e A Q q => by
  subst hg
  refine hl G1 M H e A _ fun v G2 H2 e2 A2 rv => ?_
  obtain ⟨a, xs, rfl, hs, hx⟩ := rv
  have hxl : xs.length = qs.length := by rw [hx.len, List.length_map]
  refine ⟨a, rfl, ⟨xs, SqL.of (A2.g _ _ hs)⟩, fun D hD => ?_⟩
  have hMD : M D = none := A2.mNone hD
  refine lc_list (K := K) (a := a) (xs := xs) (fun k H => ∃ Gj acc, Ex G2 Gj ∧ At Gj (upd M D (.lst acc)) H ∧ RpL K Gj (((qs.take k).filter pp).map f) acc) ⟨G2, [], Ex.refl _, A2.nm hD, rfl⟩ ?_ ?_ ?_
  · rintro k H3 _ ⟨Gj, acc, ej, Aj, _⟩
    exact SqL.of ((ej.trans Aj.g) _ _ hs)
  · rintro k x H3 hk ⟨Gj, acc, ej, Aj, rj⟩
    obtain ⟨d, hd, rd⟩ := hx.get hk
    rw [List.getElem?_map] at hd
    obtain ⟨w, hw, rfl⟩ : ∃ w, qs[k]? = some w ∧ dPair w = d := by
      cases z : qs[k]? with
      | none => rw [z] at hd; cases hd
      | some w => rw [z] at hd; exact ⟨w, rfl, Option.some.inj hd⟩
    have hm := List.mem_of_getElem? hw
    have hkk : qs.take (k + 1) = qs.take k ++ [w] := by rw [List.take_add_one, hw]; rfl
    refine g_tup Aj (rd.up ej) rfl fun ys ry => ?_
    obtain ⟨y1, _, rfl, h1, y2, _, rfl, h2, rfl⟩ := ry
    refine ⟨y1, [y2], rfl, y2, [], rfl, rfl, ?_⟩
    refine ⟨?_, ?_⟩
    · show (((((σ.set j none).set i none).set i (some y1)).set j (some y2)).set j none).set i none = (σ.set j none).set i none
      rw [List.set_set, List.set_set, List.set_comm _ _ hij, List.set_set, List.set_set]
    refine ht w hm y1 y2 Gj ((e.trans e2).trans ej) h1 h2 Gj _ H3 (Ex.refl _) Aj _ fun G4 H4 e4 A4 => ?_
    cases hp : pp w with
    | false =>
      refine ⟨G4, acc, ej.trans e4, A4, ?_⟩
      rw [hkk, List.filter_append, List.filter_cons, hp]
      simpa using rj.up e4
    | true =>
      refine he w hm hp y1 y2 G4 ((e.trans e2).trans (ej.trans e4)) (h1.up e4) (h2.up e4) G4 _ H4 (Ex.refl _) A4 _ fun v5 G5 H5 e5 A5 r5 => ?_
      refine ⟨acc, A5.m _ _ upd_same, ?_, G5, acc ++ [v5], ej.trans (e4.trans e5), ?_, ?_⟩
      · rw [rj.len, List.length_map]
        refine sz_lt (Nat.lt_of_le_of_lt (Nat.le_trans (List.length_filter_le _ _) ?_) hn)
        rw [List.length_take]
        exact Nat.min_le_right _ _
      · have z := A5.wr (o := .lst (acc ++ [v5])) (upd_same (H := M) (a := D) (o := .lst acc))
        rw [upd_upd] at z
        exact z
      · rw [hkk, List.filter_append, List.filter_cons, hp, List.map_append]
        exact (rj.up (e4.trans e5)).snoc r5
  · rintro H3 ⟨Gj, acc, ej, Aj, rj⟩
    have hl2 : qs.take xs.length = qs := by rw [hxl, List.take_length]
    rw [hl2] at rj
    have hm := upd_same (H := M) (a := D) (o := HO.lst acc)
    exact q _ _ _ ((e2.trans ej).trans (Aj.frzG hm)) (Aj.frz hm (Ex.new hMD) hMD) ⟨D, acc, rfl, upd_same, rj.up (Aj.frzG hm)⟩
/-! ### isinstance of the exception -/
theorem DictAt.up {d : Option Addr} (h : DictAt d G) (e : Ex G H) : DictAt d H := by
  rcases h with h | ⟨dd, gs, h1, h2⟩
  · exact .inl h
  · exact .inr ⟨dd, gs, h1, e _ _ h2⟩
theorem d_isD {C : Addr} {dd : Option Addr} {c : V} {cv : Value} {b : Bool} (hi : σ[i]? = some (some (.ref a))) (hc : ∀ u, RelV c u → u = cv) (hk : PySem.W.kitOne K (.ref C) cv = some b) (hd : DictAt dd G) : TrD K (tCB (rIsD K C a dd) (tCons (tVar i) (tCons (tC c) tNil))) σ G (.bool b) := fun G1 M H e A Q q =>
  ⟨.ref a, hi, c, cv, b, rfl, hc, hk, hd.up (e.trans A.g), q.here A rfl⟩
end
end Sb

namespace Sb
open PySem PySem.Spec PyProof.Rows L2
/-! ### a def that gives a datum or raises, with fields or without -/
inductive OutN where
  | val (d : PyData)
  | exc (x : Str) (fs : List (Str × PyData))
  | ex0 (x : Str)
def Res0 (K : PySem.W.Frag) (G M : Hp) (x : Str) (E : XK) : Prop := ∀ G' H', Ex G G' → At G' M H' → E (.ref (He.ga K x)) none H'
def OutN.ok (K : PySem.W.Frag) (G M : Hp) (Q : VK) (E : XK) : OutN → Prop
  | .val d => Res K G M d Q
  | .exc x fs => ResX K G M x fs E
  | .ex0 x => Res0 K G M x E
def XSpN (K : PySem.W.Frag) (R : List PyData → OutN → Prop) : Sp := fun vs H Q E => ∃ G M ds o, At G M H ∧ RpL K G ds vs ∧ R ds o ∧ OutN.ok K G M Q E o
section
variable {K : PySem.W.Frag} {σ : L2.St} {G G' M H : Hp} {ts : TA} {C a : Addr} {ds : List PyData} {d : PyData} {Q : VK} {E : XK} {x : Str} {fs : List (Str × PyData)} {R : List PyData → OutN → Prop} {o : OutN}
theorem Res0.mono (e : Ex G G') (h : Res0 K G M x E) : Res0 K G' M x E := fun G2 H2 e2 A => h G2 H2 (e.trans e2) A
theorem OutN.ok.mono (e : Ex G G') (h : OutN.ok K G M Q E o) : OutN.ok K G' M Q E o := by
  cases o with
  | val d => exact Res.mono e h
  | exc x fs => exact ResX.mono e h
  | ex0 x => exact Res0.mono e h
theorem XSpN.len {n : Nat} (hR : ∀ ds o, R ds o → ds.length = n) {vs : List V} (h : XSpN K R vs H Q E) : vs.length = n := by
  obtain ⟨G, M, ds, o, _, hr, h2, _⟩ := h
  rw [hr.len, hR _ _ h2]
theorem n_call (h : TrA K ts σ G ds) (hr : R ds (.val d)) : TrD K (tCall (XSpN K R) [] E ts) σ G d := fun G1 M H e A Q q => by
  refine h G1 M H e A _ fun vs G2 H2 e2 A2 r2 => ?_
  exact ⟨G2, M, ds, .val d, A2, by rw [List.append_nil]; exact r2, hr, q.mono e2⟩
/-- a call that raises: what is wanted of the exception is wanted of the caller -/
theorem w_raise (h : TrA K ts σ G ds) (hr : R ds o) (hn : ∀ d, o ≠ .val d) (A : At G M H) (k : ∀ Q : VK, OutN.ok K G M Q E o) : tCall (XSpN K R) [] E ts σ H Q := by
  refine w_A h A fun vs G2 H2 e2 A2 r2 => ?_
  exact ⟨G2, M, ds, o, A2, by rw [List.append_nil]; exact r2, hr, (k _).mono e2⟩
theorem n_callS {E : L2.St → XK} (h : TrA K ts σ G ds) (hr : R ds (.val d)) : TrD K (tCallS (XSpN K R) E ts) σ G d := fun G1 M H e A Q q => by
  refine h G1 M H e A _ fun vs G2 H2 e2 A2 r2 => ?_
  exact ⟨G2, M, ds, .val d, A2, r2, hr, q.mono e2⟩
theorem w_raiseS {E : L2.St → XK} (h : TrA K ts σ G ds) (hr : R ds o) (A : At G M H) (k : ∀ Q : VK, OutN.ok K G M Q (E σ) o) : tCallS (XSpN K R) E ts σ H Q := by
  refine w_A h A fun vs G2 H2 e2 A2 r2 => ?_
  exact ⟨G2, M, ds, o, A2, r2, hr, (k _).mono e2⟩
theorem ok_any {Q' : VK} (hn : ∀ d, o ≠ .val d) (h : OutN.ok K G M Q E o) : OutN.ok K G M Q' E o := by
  cases o with
  | val d => exact absurd rfl (hn d)
  | exc x fs => exact h
  | ex0 x => exact h
end
section
variable {K : PySem.W.Frag} {σ : L2.St} {G G' M H : Hp} {te : TE} {tc : TT} {f g : PyData} {D : Ends} {s2 : TS} {i : Nat} {v : V}
theorem set_self {σ : L2.St} {i : Nat} {v : V} (h : σ[i]? = some (some v)) : σ.set i (some v) = σ := by
  obtain ⟨h1, h2⟩ := List.getElem?_eq_some_iff.mp h
  rw [← h2]
  exact List.set_getElem_self h1
/-- if t: x = e -/
theorem q_ifSet {b : Bool} (hc : TrB tc σ G b) (he : b = true → TrD K te σ G g) (A : At G M H) (hi : σ[i]? = some (some v)) (rv : Rp K G f v) (k : ∀ v' G' H', Ex G G' → At G' M H' → Rp K G' (if b = true then g else f) v' → s2 D (σ.set i (some v')) H') :
    tSeq (tIfS tc (tAsg te (gName i)) tNext) s2 D σ H := by
  refine s_seq (s_if hc A (fun hb G1 H1 e1 A1 => ?_) fun hb G1 H1 e1 A1 => ?_)
  · refine s_set ((he hb).up e1) A1 fun v2 G2 H2 e2 A2 r2 => ?_
    exact k v2 G2 H2 (e1.trans e2) A2 (by rw [if_pos hb]; exact r2)
  · have z := k v G1 H1 e1 A1 (by rw [if_neg (by rw [hb]; decide)]; exact rv.up e1)
    rw [set_self hi] at z
    exact z
end
end Sb

namespace Sb
open PySem PySem.Spec PyProof.Rows L2
/-! ### dicts whose keys are told twice -/
def repD (l : List (Str × PyData)) (k : Str) (d : PyData) : List (Str × PyData) := l.map fun q => if q.1 = k then (q.1, d) else q
def hasD (l : List (Str × PyData)) (k : Str) : Bool := l.any fun q => decide (q.1 = k)
def putD (l : List (Str × PyData)) (k : Str) (d : PyData) : List (Str × PyData) := if hasD l k = true then repD l k d else l ++ [(k, d)]
def mergeD (acc : List (Str × PyData)) : List (Str × PyData) → List (Str × PyData)
  | [] => acc
  | (k, d) :: r => mergeD (putD acc k d) r
section
variable {K : PySem.W.Frag} {σ : L2.St} {G G' M H : Hp} {ta tb te : TE} {d : PyData}
theorem rp_key {k : Str} {x : Key} (h : kD x = .str k) : x = Sum.inr k := by
  cases x with
  | inl i => cases h
  | inr z => have : z = k := by simpa [kD] using h
             rw [this]
theorem rp_has : ∀ {l : List (Str × PyData)} {es : List (Key × V)} {k : Str}, RpD K G (keysD l) es → (es.any fun kv => decide (kv.1 = Sum.inr k)) = hasD l k
  | [], es, k, h => by
    rw [show es = [] from h]
    rfl
  | (k', d') :: l, _, k, ⟨x, y, t, e, h1, h2, h3⟩ => by
    have hx := rp_key h1
    subst hx
    rw [e]
    show (decide ((Sum.inr k' : Key) = Sum.inr k) || t.any _) = (decide (k' = k) || hasD l k)
    rw [rp_has h3]
    by_cases q : k' = k
    · subst q
      simp
    · have : ¬ (Sum.inr k' : Key) = Sum.inr k := fun z => q (Sum.inr.inj z)
      rw [decide_eq_false q, decide_eq_false this]
theorem rp_rep : ∀ {l : List (Str × PyData)} {es : List (Key × V)} {k : Str} {d : PyData} {v : V}, RpD K G (keysD l) es → Rp K G d v → RpD K G (keysD (repD l k d)) (es.map fun kv => if kv.1 = Sum.inr k then (kv.1, v) else kv)
  | [], es, k, d, v, h, r => by
    rw [show es = [] from h]
    exact rfl
  | (k', d') :: l, _, k, d, v, ⟨x, y, t, e, h1, h2, h3⟩, r => by
    have hx := rp_key h1
    subst hx
    rw [e, List.map_cons]
    by_cases q : k' = k
    · subst q
      rw [if_pos rfl]
      have e1 : repD ((k', d') :: l) k' d = (k', d) :: repD l k' d := by unfold repD; rw [List.map_cons, if_pos rfl]
      rw [e1]
      exact ⟨Sum.inr k', v, _, rfl, rfl, r, rp_rep h3 r⟩
    · have this : ¬ (Sum.inr k' : Key) = Sum.inr k := fun z => q (Sum.inr.inj z)
      rw [if_neg this]
      have e1 : repD ((k', d') :: l) k d = (k', d') :: repD l k d := by unfold repD; rw [List.map_cons, if_neg q]
      rw [e1]
      exact ⟨Sum.inr k', y, _, rfl, rfl, h2, rp_rep h3 r⟩
theorem rp_put {l : List (Str × PyData)} {es : List (Key × V)} {k : Str} {d : PyData} {v : V} (h : RpD K G (keysD l) es) (r : Rp K G d v) : RpD K G (keysD (putD l k d)) (putK es (Sum.inr k) v) := by
  unfold putK putD
  rw [rp_has h]
  split
  · exact rp_rep h r
  · unfold keysD
    rw [List.map_append]
    exact RpD.snoc h rfl r
theorem rp_merge : ∀ {l acc : List (Str × PyData)} {es fs : List (Key × V)}, RpD K G (keysD acc) fs → RpD K G (keysD l) es → RpD K G (keysD (mergeD acc l)) (mergeK fs es)
  | [], acc, es, fs, ha, h => by
    rw [show es = [] from h]
    exact ha
  | (k, d) :: l, acc, _, fs, ha, ⟨x, y, t, e, h1, h2, h3⟩ => by
    have hx := rp_key h1
    subst hx
    rw [e]
    show RpD K G (keysD (mergeD (putD acc k d) l)) (mergeK (putK fs (Sum.inr k) y) t)
    exact rp_merge (acc := putD acc k d) (fs := putK fs (Sum.inr k) y) (rp_put ha h2) h3
theorem rc_dictM {kvs : List (Str × PyData)} : RC K (fun xs H Q => ∃ (a : Addr) (ps : List Addr) (kvs : List (Key × V)), xs = [.ref a] ∧ SqL K H a (ps.map V.ref) ∧ Paired (fun p kv => SqT K H p [kV kv.1, kv.2]) ps kvs ∧
    ∀ p, H p = none → Q (.ref p) (upd H p (.dK (mergeK [] kvs)))) [.list ((keysD kvs).map pairD)] (.dict (keysD (mergeD [] kvs))) := fun G M H xs A ⟨x, r, e, ⟨a, ys, h1, h2, h3⟩, h'⟩ Q q => by
  rw [e, show r = [] from h', h1]
  obtain ⟨ps, es, rfl, h5, h6⟩ := pairs_of h3
  refine ⟨a, ps, es, rfl, SqL.of (A.g _ _ h2), Paired.mono (fun _ _ h => A.g.stt h) h5, fun p hp => ?_⟩
  exact q.newG A hp ⟨p, _, rfl, upd_same, (rp_merge (acc := []) (fs := []) rfl h6).up (Ex.new (A.gNone hp))⟩
theorem d_dispM {kvs : List (Str × PyData)} {trs : List (TE × TE)} (h : TrP K trs σ G kvs) (hl : kvs.length ≤ 15) : TrD K (tDisp trs) σ G (.dict (keysD (mergeD [] kvs))) := fun G1 M H e A Q q p hp => by
  refine h G1 (upd M p (.dK [])) (upd H p (.dK [])) e (A.nm hp) _ fun es G2 H2 e2 A2 r2 => ?_
  refine ⟨A2.m _ _ upd_same, es, rfl, ?_, ?_⟩
  · rw [r2.len, keysD_len]
    exact hl
  · have A3 := A2.wr (o := .dK (mergeK [] es)) (upd_same (H := M) (a := p) (o := .dK []))
    rw [upd_upd] at A3
    have hm := upd_same (H := M) (a := p) (o := HO.dK (mergeK [] es))
    have hM : M p = none := A.mNone hp
    exact q _ _ _ (e2.trans (A3.frzG hm)) (A3.frz hm (Ex.new hM) hM) ⟨p, _, rfl, upd_same, (rp_merge (acc := []) (fs := []) rfl r2).up (A3.frzG hm)⟩
/-- {n: d}, n an int -/
theorem d_dispI {n : Int} (hk : TrD K ta σ G (.int n)) (hv : TrD K tb σ G d) : TrD K (tDisp [(ta, tb)]) σ G (.dict [(.int n, d)]) := fun G1 M H e A Q q p hp => by
  refine hk G1 (upd M p (.dK [])) (upd H p (.dK [])) e (A.nm hp) _ fun v G2 H2 e2 A2 r2 => ?_
  refine hv G2 (upd M p (.dK [])) H2 (e.trans e2) A2 _ fun w G3 H3 e3 A3 r3 => ?_
  have e1 : v = V.int n := r2
  subst e1
  refine ⟨A3.m _ _ upd_same, [(Sum.inl n, w)], rfl, (by show 1 ≤ 15; decide), ?_⟩
  have A4 := A3.wr (o := .dK [(Sum.inl n, w)]) (upd_same (H := M) (a := p) (o := .dK []))
  rw [upd_upd] at A4
  have hm := upd_same (H := M) (a := p) (o := HO.dK [(Sum.inl n, w)])
  have hM : M p = none := A.mNone hp
  exact q _ _ _ ((e2.trans e3).trans (A4.frzG hm)) (A4.frz hm (Ex.new hM) hM) ⟨p, _, rfl, upd_same, ⟨Sum.inl n, w, [], rfl, rfl, r3.up (A4.frzG hm), rfl⟩⟩
end
theorem has_iff {l : List (Str × PyData)} {k : Str} : hasD l k = true ↔ k ∈ l.map (·.1) := by
  unfold hasD
  rw [List.any_eq_true]
  constructor
  · rintro ⟨q, hq, h⟩
    exact List.mem_map.mpr ⟨q, hq, of_decide_eq_true h⟩
  · intro h
    obtain ⟨q, hq, e⟩ := List.mem_map.mp h
    exact ⟨q, hq, decide_eq_true e⟩
theorem rep_keys {l : List (Str × PyData)} {k : Str} {d : PyData} : (repD l k d).map (·.1) = l.map (·.1) := by
  unfold repD
  rw [List.map_map]
  refine List.map_congr_left fun q _ => ?_
  show (if q.1 = k then (q.1, d) else q).1 = q.1
  split <;> rfl
theorem rep_look {l : List (Str × PyData)} {k x : Str} {d : PyData} (h : k ∈ l.map (·.1)) : lookD (repD l k d) x = if k = x then some d else lookD l x := by
  induction l with
  | nil => cases h
  | cons q l ih =>
    obtain ⟨k', d'⟩ := q
    by_cases e : k' = k
    · subst e
      have e1 : repD ((k', d') :: l) k' d = (k', d) :: repD l k' d := by unfold repD; rw [List.map_cons, if_pos rfl]
      rw [e1]
      by_cases z : k' = x
      · subst z
        unfold lookD
        simp
      · by_cases hm : k' ∈ l.map (·.1)
        · have := ih hm
          unfold lookD at this ⊢
          simp only [List.find?_cons, decide_eq_false z, if_neg z] at this ⊢
          exact this
        · have e2 : repD l k' d = l := by
            unfold repD
            conv => rhs; rw [← List.map_id l]
            refine List.map_congr_left fun q hq => ?_
            rw [if_neg fun z => hm (List.mem_map.mpr ⟨q, hq, z⟩)]
            rfl
          rw [e2]
          unfold lookD
          simp only [List.find?_cons, decide_eq_false z, if_neg z]
    · have hm : k ∈ l.map (·.1) := by
        rcases List.mem_cons.mp h with z | z
        · exact absurd z.symm e
        · exact z
      have e1 : repD ((k', d') :: l) k d = (k', d') :: repD l k d := by unfold repD; rw [List.map_cons, if_neg e]
      rw [e1]
      have := ih hm
      unfold lookD at this ⊢
      simp only [List.find?_cons]
      by_cases z : k' = x
      · subst z
        simp [Ne.symm e]
      · simp only [decide_eq_false z]
        exact this
theorem merge_app : ∀ {l acc r : List (Str × PyData)}, mergeD acc (l ++ r) = mergeD (mergeD acc l) r
  | [], _, _ => rfl
  | (k, d) :: l, acc, r => merge_app (l := l) (acc := putD acc k d) (r := r)
theorem put_new {l : List (Str × PyData)} {k : Str} {d : PyData} (h : k ∉ l.map (·.1)) : putD l k d = l ++ [(k, d)] := by
  unfold putD
  rw [if_neg fun z => h (has_iff.mp z)]
theorem put_old {l : List (Str × PyData)} {k : Str} {d : PyData} (h : k ∈ l.map (·.1)) : putD l k d = repD l k d := by
  unfold putD
  rw [if_pos (has_iff.mpr h)]
theorem merge_nd : ∀ {l acc : List (Str × PyData)}, ((acc ++ l).map (·.1)).Nodup → mergeD acc l = acc ++ l
  | [], acc, _ => (List.append_nil acc).symm
  | (k, d) :: l, acc, h => by
    have hk : k ∉ acc.map (·.1) := fun z => by
      rw [List.map_append, List.map_cons] at h
      exact (List.nodup_append.mp h).2.2 k z k (List.mem_cons_self ..) rfl
    show mergeD (putD acc k d) l = _
    rw [put_new hk, merge_nd (by rw [List.append_assoc]; exact h), List.append_assoc]
    rfl
theorem cut_id {M : Hp} {p : Addr} (h : M p = none) : cutG M p = M := by
  funext x
  by_cases e : x = p
  · rw [e, cut_none, h]
  · exact if_neg e
end Sb

namespace Sb
open PySem PySem.Spec PyProof.Rows L2
/-! ### {**d, k: v} -/
section
variable {prog : Program} {w : World} {A : Around} {E : Value → Shared → Prop} {s : Shared}
theorem put_pairs {d : Addr} {kvs : List (Key × Value)} {k : Key} {key v : Value} {Q : Unit → Shared → Prop} (hkey : (mixKind prog w).is k key = true) (hm : s.heap.DictOf (mixKind prog w) d kvs)
    (hsz : kvs.length ≤ sizeLine) (hQ : ∀ h', h'.DictOf (mixKind prog w) d (stored kvs k v) → Heap.SameBut d s.heap h' → Q () { s with heap := h' }) :
    wpAny (model prog w) A (dictPut d ((mixKind prog w).hash k) key v) Q E s := by
  obtain ⟨ob, ents, epo, g1, g2, g3, g4, g5, g6⟩ := hm
  have hlen : ents.size ≤ sizeLine := by
    have z1 := g5.length
    have z2 : ents.toList.length = ents.size := by simp
    omega
  have same : (ents.findIdx? fun e => (mixKind prog w).is k e.key) = kvs.findIdx? fun q => decide (q.1 = k) := by
    rw [← g5.findIdx k]
    obtain ⟨l⟩ := ents
    simp
  unfold dictPut
  refine wpAny_bind (wpAny_dictFind_of hkey g1 g3 g4 ?_)
  cases hf : ents.findIdx? fun e => (mixKind prog w).is k e.key with
  | none =>
    have fresh : k ∉ kvs.map (·.1) := not_mem_of_findIdx_none (same ▸ hf)
    have any0 : ¬ (kvs.any fun q => decide (q.1 = k)) = true := by
      intro z
      obtain ⟨q, hq, e⟩ := List.any_eq_true.mp z
      exact fresh (List.mem_map.mpr ⟨q, hq, of_decide_eq_true e⟩)
    refine wpAny_updateDictKeys (hz := hlen) g1 g3 (hQ _ ⟨_, _, epo + 1, Heap.get?_update_self _ g1 (Obj.isFreed_of_dict (Obj.data_mapDictKeys g3 _)), g2.mapDictKeys _, Obj.data_mapDictKeys g3 _, g4.push hkey _, ?_, ?_⟩ (Heap.SameBut.update ..))
    · rw [stored, if_neg any0]
      have z := g5.append hkey ((mixKind prog w).hash k) v
      obtain ⟨l⟩ := ents
      simpa using z
    · rw [stored, if_neg any0, List.map_append, List.nodup_append]
      refine ⟨g6, by simp, fun a ha b hb => ?_⟩
      simp only [List.map_cons, List.map_nil, List.mem_singleton] at hb
      subst hb
      exact fun e => fresh (e ▸ ha)
  | some j =>
    have any1 := any_of_findIdx_some (same ▸ hf)
    refine wpAny_updateDict g1 g3 (hQ _ ⟨_, _, epo, Heap.get?_update_self _ g1 (Obj.isFreed_of_dict (Obj.data_mapDict g3 _)), g2.mapDict _, Obj.data_mapDict g3 _, g4.modify _ _, ?_, ?_⟩ (Heap.SameBut.update ..))
    · rw [stored, if_pos any1]
      have hl : (ents.toList.findIdx? fun e => (mixKind prog w).is k e.key) = some j := by
        rw [← hf]
        obtain ⟨l⟩ := ents
        simp
      have z := g5.modify g6 hl v
      obtain ⟨l⟩ := ents
      simpa using z
    · rw [stored, if_pos any1, keys_map_store]
      exact g6
theorem not_ref {k : Key} {v : Value} (h : keyIs k v = true) : ∀ a, v ≠ .ref a := fun a z => by
  subst z
  cases k <;> cases h
theorem merge_pairs {d o : Addr} {kvs more : List (Key × Value)} {Q : Unit → Shared → Prop} (hdo : d ≠ o) (hoS : (o == sysModules) = false)
    (hd : s.heap.DictOf (mixKind prog w) d kvs) (ho : s.heap.DictOf (mixKind prog w) o more) (hsz : kvs.length + more.length ≤ sizeLine)
    (hQ : ∀ h', h'.DictOf (mixKind prog w) d (merged kvs more) → Heap.SameBut d s.heap h' → Q () { s with heap := h' }) :
    wpAny (model prog w) A (mergeMapping d (.ref o) false) Q E s := by
  obtain ⟨od, ed, pd, a1, a2, a3, a4, a5, a6⟩ := id hd
  obtain ⟨oo, eo, po, b1, b2, b3, b4, b5, b6⟩ := id ho
  unfold mergeMapping
  refine wpAny_bind (wpAny_isInstance ho.typeIs isSubtype_dict_dict ?_)
  rw [if_pos rfl]
  refine wpAny_bind (wpAny_specialOf ho.typeIs F.slot_dict_iter.lookup (wpAny_bind (wpAny_pure ?_)))
  simp only [beq_self_eq_true, hoS, Bool.false_eq_true, if_false]
  refine wpAny_bind (wpAny_dictEntries a1 a3 ?_)
  have rest : wpAny (model prog w) A (do
      let es ← dictEntries o
      have size : Nat := es.size
      let epoch ← dictEpoch o
      forIn (List.range size) PUnit.unit fun i _ => do
        let es' ← dictEntries o
        match es'[i]? with
          | some e => do
            holding [e.key, e.val] (dictPut d e.hash e.key e.val)
            let ep' ← dictEpoch o
            if (ep' != epoch) = true then do
                unsupported "dict.changed-during-merge"
                pure (ForInStep.yield PUnit.unit)
              else pure (ForInStep.yield PUnit.unit)
          | _ => do
            unsupported "dict.changed-during-merge"
            pure (ForInStep.yield PUnit.unit)
      pure ()) Q E s := by
    refine wpAny_bind (wpAny_dictEntries b1 b3 ?_)
    refine wpAny_bind (wpAny_dictEpoch b1 b3 ?_)
    refine wpAny_bind ?_
    have hml : more.length = eo.size := by rw [← b5.length]; simp
    refine wpAny_forIn_list _ (fun l _ s' => ∃ h' i, s' = { s with heap := h' } ∧ l = List.range' i (eo.size - i) ∧ i ≤ eo.size ∧ h'.DictOf (mixKind prog w) d (merged kvs (more.take i)) ∧ h'.get? o = some oo ∧ Heap.SameBut d s.heap h')
      _ ?_ ?_ _ _ ⟨s.heap, 0, rfl, by rw [List.range_eq_range']; rfl, Nat.zero_le _, by simpa [merged] using hd, b1, Heap.SameBut.refl _ _⟩
    · rintro x l _ s' ⟨h', i, rfl, hl, hi, c1, c2, c3⟩
      have hlt : i < eo.size := by
        rcases Nat.lt_or_ge i eo.size with z | z
        · exact z
        · rw [Nat.sub_eq_zero_of_le z] at hl
          cases hl
      rw [show eo.size - i = (eo.size - (i + 1)) + 1 by omega, List.range'_succ] at hl
      injection hl with hx hl
      subst hx
      refine wpAny_bind (wpAny_dictEntries c2 b3 ?_)
      rw [Array.getElem?_eq_getElem hlt]
      have hmx : ∃ kv, more[x]? = some kv := ⟨more[x]'(by rw [hml]; exact hlt), List.getElem?_eq_getElem _⟩
      obtain ⟨⟨k, v⟩, hkv⟩ := hmx
      obtain ⟨hkey, hval⟩ := b5.get? (e := eo[x]) (by simp [hlt]) hkv
      obtain ⟨k', hkey', hhash⟩ := b4 eo[x] (Array.getElem_mem hlt)
      obtain rfl : k' = k := (mixKind prog w).inj _ _ _ hkey' hkey
      show wpAny _ _ (holding [eo[x].key, eo[x].val] (dictPut d eo[x].hash eo[x].key eo[x].val) >>= _) _ _ _
      rw [hhash, hval]
      have hb : (merged kvs (more.take x)).length ≤ sizeLine := by
        have z1 := merged_length_le kvs (more.take x)
        have z2 : (more.take x).length ≤ more.length := by rw [List.length_take]; omega
        omega
      refine wpAny_bind (wpAny_holding (put_pairs hkey c1 hb fun h2 c4 c5 => ?_))
      have c6 : h2.get? o = some oo := (c5.2 o (Ne.symm hdo)).trans c2
      refine wpAny_bind (wpAny_dictEpoch c6 b3 ?_)
      rw [if_neg (by simp)]
      exact wpAny_pure ⟨h2, x + 1, rfl, hl, hlt, by rw [merged_take_succ kvs more x (k', v) hkv]; exact c4, c6, c3.trans c5⟩
    · rintro _ s' ⟨h', i, rfl, hl, hi, c1, c2, c3⟩
      have hin : i = eo.size := by
        rcases Nat.lt_or_ge i eo.size with z | z
        · rw [show eo.size - i = (eo.size - (i + 1)) + 1 by omega, List.range'_succ] at hl
          cases hl
        · omega
      rw [hin, ← hml, List.take_length] at c1
      exact wpAny_pure (hQ h' c1 c3)
  split
  · refine wpAny_bind (wpAny_dictEntries b1 b3 (wpAny_bind ?_))
    have keys : ∀ e ∈ eo.toList, ∀ a, e.key ≠ .ref a := fun e he => by
      obtain ⟨k, hk, _⟩ := b4 e (by simpa using he)
      exact not_ref hk
    rw [← Array.forIn_toList]
    refine wpAny_forIn_list _ (fun l _ s' => s' = s ∧ ∀ e ∈ l, ∀ a, e.key ≠ .ref a) _ ?_ ?_ _ _ ⟨rfl, keys⟩
    · rintro ⟨hh, kk, vv⟩ l _ s' ⟨rfl, hk⟩
      have hz : ∀ e ∈ l, ∀ a, e.key ≠ .ref a := fun e he => hk e (List.mem_cons_of_mem _ he)
      have h0 := hk _ (List.mem_cons_self ..)
      cases kk with
      | ref a => exact absurd rfl (h0 a)
      | _ => exact wpAny_pure ⟨rfl, hz⟩
    · rintro _ s' ⟨rfl, _⟩
      exact rest
  · exact rest
end
/-- {**d, k: v}: the pair stands first in a dict of its own -/
def tDMerge (td tk tv : TE) : TE := fun σ H Q => ∀ p, H p = none → td σ (upd H p (.dK [])) fun x H1 => ∃ (a : Addr) (kvs : List (Key × V)), x = .ref a ∧ Rd H1 a (.dK kvs) ∧ H1 p = some (.dK []) ∧ p ≠ a ∧ kvs.length ≤ 1000 ∧
  ∀ q, upd H1 p (.dK (mergeK [] kvs)) q = none → tk σ (upd (upd H1 p (.dK (mergeK [] kvs))) q (.dK [])) fun y H3 => tv σ H3 fun z H4 => ∃ k : Key, y = kV k ∧ q ≠ p ∧ H4 q = some (.dK []) ∧ H4 p = some (.dK (mergeK [] kvs)) ∧
    Q (.ref p) (upd (upd H4 q (.dK (mergeK [] [(k, z)]))) p (.dK (mergeK (mergeK [] kvs) (mergeK [] [(k, z)]))))
theorem pe_dmerge {X : Cx} {pos : Pos} {e ke ve : Expr} {td tk tv : TE} (he : PE X e td) (hk : PE X ke tk) (hv : PE X ve tv) : PE X (.Dict [none, some ke] [e, ve] pos) (tDMerge td tk tv) := by
  refine ⟨fun pins s σ H Q I h => ?_⟩
  rw [arm_eval_Dict]
  refine wpAny_bind (wpAny_standAt ?_)
  show wpAny _ _ (dictDisplay [(none, do let x ← eval e X.env; standAt pos; pure x), (some (eval ke X.env), do let x ← eval ve X.env; standAt pos; pure x)]) _ _ _
  unfold dictDisplay
  dsimp only
  rw [List.forIn_cons]
  refine wpAny_bind (wpAny_bind ?_)
  dsimp only [List.isEmpty_nil]
  rw [if_pos rfl]
  refine wpAny_bind (wpAny_pure ?_)
  dsimp only
  refine wpAny_bind (wpAny_alloc (wpAny_bind (wpAny_holding (wpAny_bind ?_))))
  have hn := I.hok.fresh (Nat.le_refl s.heap.objs.size)
  have I1 := I.laid (a := s.heap.objs.size) (o := .dK []) (h' := s.heap.push { cls := .type "dict", data := .dict #[] }) (t' := s.toks) (fun _ _ q => Heap.get?_push_of_some _ q) (Nat.le_refl _) (dk_empty s.heap I.big)
  refine thn (he.run pins _ σ _ _ I1 (h _ hn)) fun u s1 ⟨x, H1, I2, rx, a, kvs, ex, ra, e1, hpa, hlen, q1⟩ => ?_
  subst ex
  cases rx
  refine wpAny_bind (wpAny_standAt (wpAny_pure (wpAny_bind (wpAny_onRaise (wpAny_tryCatch (wpAny_onRaise (wpAny_holding ?_)))))))
  obtain ⟨z0, hd0, vs0, r0, dd0⟩ := dk_of I2.hok e1
  cases r0
  obtain ⟨z1, hd1, vs1, r1, dd1⟩ := dk_rd I2.hok ra
  refine merge_pairs hpa hd1 dd0 dd1 (by have := r1.length; rw [sizeLine_eq]; simp only [List.length_nil]; omega) fun h2 dd2 hs2 => ?_
  have he2 : ∃ q, h2.get? s.heap.objs.size = some q := let ⟨q, _, _, hq, _⟩ := dd2; ⟨q, hq⟩
  have hz2 : (mergeK [] kvs).length ≤ sizeLine := by
    have z := length_mergeK kvs []
    rw [List.length_nil] at z
    rw [sizeLine_eq]; omega
  have I3 : Inv X pins σ (upd H1 s.heap.objs.size (.dK (mergeK [] kvs))) { s1 with heap := h2 } := d_write (t' := s1.toks) I2 (by rw [e1]; exact True.intro) hs2 he2 (dk_new hz2 hd0 (r1.merge .nil) dd2)
  refine wpAny_pure ?_
  dsimp only
  rw [List.forIn_cons]
  refine wpAny_bind ?_
  dsimp only [List.nil_append]
  rw [if_neg (show ¬ ((([(eval ke X.env, do let x ← eval ve X.env; standAt pos; pure x)] : List (Sem Value × Sem Value)).length == 17) = true) by simp)]
  refine wpAny_pure ?_
  dsimp only
  rw [List.forIn_nil]
  refine wpAny_pure ?_
  dsimp only
  rw [if_neg (show ¬ ((([(eval ke X.env, do let x ← eval ve X.env; standAt pos; pure x)] : List (Sem Value × Sem Value)).isEmpty) = true) by simp)]
  refine wpAny_bind (wpAny_bind (wpAny_holding ?_))
  have hn2 := I3.hok.fresh (Nat.le_refl _)
  have I4 := I3.laid (a := h2.objs.size) (o := .dK []) (h' := h2.push { cls := .type "dict", data := .dict #[] }) (t' := s1.toks) (fun _ _ q => Heap.get?_push_of_some _ q) (Nat.le_refl _) (dk_empty h2 I3.big)
  have PP := (pps_cons (pos := pos) hk hv pps_nil).run pins _ σ _ (fun ps H4 => match ps with
    | [(y, z)] => ∃ k : Key, y = kV k ∧ h2.objs.size ≠ s.heap.objs.size ∧ H4 h2.objs.size = some (.dK []) ∧ H4 s.heap.objs.size = some (.dK (mergeK [] kvs)) ∧
      Q (.ref s.heap.objs.size) (upd (upd H4 h2.objs.size (.dK (mergeK [] [(k, z)]))) s.heap.objs.size (.dK (mergeK (mergeK [] kvs) (mergeK [] [(k, z)]))))
    | _ => False) I4 (q1 h2.objs.size hn2)
  · refine wpAny_subDict (knd := mixKind X.prog X.w) (Nat.le_of_ble_eq_true rfl) (thn PP fun ws s2 ⟨ps, H4, I5, rel, hps⟩ => ?_)
    match ps, hps with
    | [(y, z)], ⟨k, ek, hne, e2, e3, q4⟩ =>
    subst ek
    obtain ⟨rs, c, rk⟩ := carries_of (P := X.prog) (w := X.w) (kvs := [(k, z)]) rel
    obtain ⟨z3, hd3, vs3, r3, dd3⟩ := dk_of I5.hok e2
    cases r3
    refine ⟨rs, c, dd3, fun h3 dd4 hs3 => ?_⟩
    have hz3 : (mergeK [] [(k, z)]).length ≤ sizeLine := by
      have z := length_mergeK [(k, z)] []
      rw [sizeLine_eq]; simp only [List.length_nil, List.length_cons] at z; omega
    have he3 : ∃ q, h3.get? h2.objs.size = some q := let ⟨q, _, _, hq, _⟩ := dd4; ⟨q, hq⟩
    have I6 : Inv X pins σ (upd H4 h2.objs.size (.dK (mergeK [] [(k, z)]))) { s2 with heap := h3, toks := s2.toks + ws.length } := d_write (t' := s2.toks + ws.length) I5 (by rw [e2]; exact True.intro) hs3 he3 (dk_new hz3 hd3 (rk.merge .nil) dd4)
    have e4 : upd H4 h2.objs.size (.dK (mergeK [] [(k, z)])) s.heap.objs.size = some (.dK (mergeK [] kvs)) := by rw [upd_ne (Ne.symm hne)]; exact e3
    refine wpAny_bind (wpAny_onRaise (wpAny_holding ?_))
    obtain ⟨z5, hd5, vs5, r5, dd5⟩ := dk_of I6.hok e4
    obtain ⟨z6, hd6, vs6, r6, dd6⟩ := dk_of I6.hok (upd_same (H := H4) (a := h2.objs.size) (o := .dK (mergeK [] [(k, z)])))
    have l5 := r5.length
    have l6 := r6.length
    have lk1 := length_mergeK kvs []
    have lk2 := length_mergeK [(k, z)] []
    simp only [List.length_nil, List.length_cons] at lk1 lk2
    refine merge_pairs (Ne.symm hne) hd6 dd5 dd6 (by rw [sizeLine_eq]; omega) fun h4 dd7 hs4 => ?_
    have he4 : ∃ q, h4.get? s.heap.objs.size = some q := let ⟨q, _, _, hq, _⟩ := dd7; ⟨q, hq⟩
    have hz7 : (mergeK (mergeK [] kvs) (mergeK [] [(k, z)])).length ≤ sizeLine := by
      have z := length_mergeK (mergeK [] [(k, z)]) (mergeK [] kvs)
      rw [sizeLine_eq]; omega
    have I7 := d_write (t' := s2.toks + ws.length) I6 (by rw [e4]; exact True.intro) hs4 he4 (dk_new hz7 hd5 (r6.merge r5) dd7)
    refine wpAny_pure ?_
    dsimp only
    exact wpAny_pure ⟨.ref s.heap.objs.size, _, I7, rfl, q4⟩
section
variable {K : PySem.W.Frag} {σ : L2.St} {G M H : Hp} {td tk tv : TE} {d : PyData}
theorem d_dmerge {l : List (Str × PyData)} {x : Str} (hd : TrD K td σ G (.dict (keysD l))) (hk : TrD K tk σ G (.str x)) (hv : TrD K tv σ G d) (hn : (l.map (·.1)).Nodup) (hl : l.length ≤ 1000) :
    TrD K (tDMerge td tk tv) σ G (.dict (keysD (putD l x d))) := fun G1 M H e A Q q p hp => by
  have Mp : M p = none := A.mNone hp
  refine hd G1 (upd M p (.dK [])) (upd H p (.dK [])) e (A.nm hp) _ fun v G2 H2 e2 A2 r2 => ?_
  obtain ⟨a, es, rfl, ra, res⟩ := r2
  have G2p : G2 p = none := A2.d _ _ upd_same
  have hm0 : Sb.mergeD [] l = l := by
    have := merge_nd (l := l) (acc := []) (by simpa using hn)
    simpa using this
  have rm : RpD K G2 (keysD l) (mergeK [] es) := by
    have z := rp_merge (acc := []) (fs := []) rfl res
    rw [hm0] at z
    exact z
  refine ⟨a, es, rfl, .inl (A2.g _ _ ra), A2.m _ _ upd_same, fun z => (by rw [← z, G2p] at ra; cases ra), (by rw [res.len, keysD_len]; exact hl), fun c hc => ?_⟩
  have A3 := A2.wr (o := .dK (mergeK [] es)) (upd_same (H := M) (a := p) (o := .dK []))
  rw [upd_upd] at A3
  have hcp : c ≠ p := fun z => by rw [z, upd_same] at hc; cases hc
  have Mc : M c = none := by
    have := A3.mNone hc
    rw [upd_ne hcp] at this
    exact this
  refine hk G2 _ _ (e.trans e2) (A3.nm hc) _ fun y G3 H3 e3 A4 r3 => ?_
  refine hv G3 _ _ ((e.trans e2).trans e3) A4 _ fun z G4 H4 e4 A5 r4 => ?_
  have ey : y = V.str x := r3
  subst ey
  have m1 : upd (upd M p (.dK (mergeK [] es))) c (.dK []) c = some (.dK []) := upd_same
  have m2 : upd (upd M p (.dK (mergeK [] es))) c (.dK []) p = some (.dK (mergeK [] es)) := by rw [upd_ne (Ne.symm hcp), upd_same]
  refine ⟨Sum.inr x, rfl, hcp, A5.m _ _ m1, A5.m _ _ m2, ?_⟩
  have A6 := A5.wr (o := .dK (mergeK [] [(Sum.inr x, z)])) m1
  have A7 := A6.wr (p := p) (o := .dK (mergeK (mergeK [] es) (mergeK [] [(Sum.inr x, z)]))) (by rw [upd_ne (Ne.symm hcp)]; exact m2)
  have ex : Ex M (upd (upd (upd (upd M p (.dK (mergeK [] es))) c (.dK [])) c (.dK (mergeK [] [(Sum.inr x, z)]))) p (.dK (mergeK (mergeK [] es) (mergeK [] [(Sum.inr x, z)])))) := fun b u hb => by
    have b1 : b ≠ p := fun z => by rw [z, Mp] at hb; cases hb
    have b2 : b ≠ c := fun z => by rw [z, Mc] at hb; cases hb
    rw [upd_ne b1, upd_ne b2, upd_ne b2, upd_ne b1]
    exact hb
  have A8 := A7.frz upd_same ex Mp
  have E : Ex G4 (upd G4 p _) := A7.frzG upd_same
  refine q _ _ _ (((e2.trans e3).trans e4).trans E) A8 ⟨p, _, rfl, upd_same, ?_⟩
  exact (rp_put (d := d) (k := x) (v := z) (rm.up (e3.trans e4)) r4).up E
end
end Sb

namespace Sb
open PySem PySem.Spec PyProof.Rows L2
/-! ### list(zip(a, b)) -/
structure ZFix (h : Heap) (z TI TO i1 i2 l1 l2 : Addr) (xs ys : Array Value) (i : Nat) : Prop where
  ti : IsPair h TI (.ref i1) (.ref i2)
  a1 : h.IsListIter i1 l1 i
  a2 : h.IsListIter i2 l2 i
  b1 : h.IsList l1 xs
  b2 : h.IsList l2 ys
def ZOut (h : Heap) (z TI TO i1 i2 S : Addr) : Prop := (IsZip h z TI TO .none ∧ ∃ a b, IsPair h TO a b) ∨ ∃ T f oT, IsZipHeld h z TI TO T f ∧ h.get? T = some oT ∧ T ≠ z ∧ T ≠ i1 ∧ T ≠ i2 ∧ T ≠ S
structure ZOff (z TI TO i1 i2 l1 l2 S : Addr) : Prop where
  z : z ≠ S
  ti : TI ≠ S
  to : TO ≠ S
  i1 : i1 ≠ S
  i2 : i2 ≠ S
  l1 : l1 ≠ S
  l2 : l2 ≠ S
section
variable {prog : Program} {w : World} {A : Around} {E : Value → Shared → Prop} {s : Shared} {z TI TO i1 i2 l1 l2 S : Addr} {xs ys : Array Value} {i : Nat} {h h' : Heap}
theorem ZFix.keep (f : ZFix h z TI TO i1 i2 l1 l2 xs ys i) (O : ZOff z TI TO i1 i2 l1 l2 S) (k : ∀ b o, b ≠ S → h.get? b = some o → h'.get? b = some o) : ZFix h' z TI TO i1 i2 l1 l2 xs ys i :=
  ⟨k _ _ O.ti f.ti, f.a1.at fun o e => k _ o O.i1 e, f.a2.at fun o e => k _ o O.i2 e, f.b1.at fun o e => k _ o O.l1 e, f.b2.at fun o e => k _ o O.l2 e⟩
theorem ZOut.keep (f : ZOut h z TI TO i1 i2 S) (O : ZOff z TI TO i1 i2 l1 l2 S) (k : ∀ b o, b ≠ S → h.get? b = some o → h'.get? b = some o) : ZOut h' z TI TO i1 i2 S := by
  rcases f with ⟨g1, a, b, g2⟩ | ⟨T, f, oT, g1, g2, n1, n2, n3, n4⟩
  · exact .inl ⟨k _ _ O.z g1, a, b, k _ _ O.to g2⟩
  · exact .inr ⟨T, f, oT, k _ _ O.z g1, k _ _ n4 g2, n1, n2, n3, n4⟩
theorem z_item {x y : Value} {Q : Option Value → Shared → Prop} (D : ZipApart z TI TO i1 i2 l1 l2) (F : ZFix s.heap z TI TO i1 i2 l1 l2 xs ys i) (W : ZOut s.heap z TI TO i1 i2 S) (hS : S < s.heap.objs.size) (hx : xs[i]? = some x) (hy : ys[i]? = some y)
    (q : ∀ h', ZFix h' z TI TO i1 i2 l1 l2 xs ys (i + 1) → ZOut h' z TI TO i1 i2 S → IsPair h' s.heap.objs.size x y → (∀ c o, c ≠ z → c ≠ TO → c ≠ i1 → c ≠ i2 → s.heap.get? c = some o → h'.get? c = some o) → Q (some (.ref s.heap.objs.size)) { s with heap := h' }) :
    wpAny (model prog w) A (pyNext (.ref z)) Q E s := by
  have lt : ∀ {c o}, s.heap.get? c = some o → s.heap.objs.size ≠ c := fun e => Nat.ne_of_gt (Heap.lt_size e)
  have n1 : s.heap.objs.size ≠ i1 := let ⟨_, e, _⟩ := F.a1; lt e
  have n2 : s.heap.objs.size ≠ i2 := let ⟨_, e, _⟩ := F.a2; lt e
  rcases W with ⟨g1, a, b, g2⟩ | ⟨T, f, oT, g1, g2, m1, m2, m3, m4⟩
  · refine wpAny_pyNext_zip_item D g1 F.ti g2 F.a1 F.a2 F.b1 F.b2 hx hy fun h' c1 c2 c3 c4 c5 c6 hk => ?_
    exact q h' ⟨hk _ _ D.TIz D.TITO D.TIi1 D.TIi2 F.ti, c3, c4, F.b1.at fun o e => hk _ o D.l1z D.l1TO D.l1i1 D.l1i2 e, F.b2.at fun o e => hk _ o D.l2z D.l2TO D.l2i1 D.l2i2 e⟩
      (.inr ⟨_, false, _, c1, c5, lt g1, n1, n2, Nat.ne_of_gt hS⟩) c5 hk
  · refine wpAny_pyNext_zip_item_held D g1 g2 F.ti F.a1 F.a2 F.b1 F.b2 hx hy fun h' c1 c3 c4 c5 c6 hk => ?_
    exact q h' ⟨hk _ _ D.TIz D.TIi1 D.TIi2 F.ti, c3, c4, F.b1.at fun o e => hk _ o D.l1z D.l1i1 D.l1i2 e, F.b2.at fun o e => hk _ o D.l2z D.l2i1 D.l2i2 e⟩
      (.inr ⟨T, true, oT, c1, hk _ _ m1 m2 m3 g2, m1, m2, m3, m4⟩) c5 fun c o e1 _ e2 e3 e => hk c o e1 e2 e3 e
theorem z_end {Q : Option Value → Shared → Prop} (hh : A.handled = none) (D : ZipApart z TI TO i1 i2 l1 l2) (F : ZFix s.heap z TI TO i1 i2 l1 l2 xs ys i) (W : ZOut s.heap z TI TO i1 i2 S) (he : xs[i]? = none ∨ ys[i]? = none)
    (q : ∀ h', (∀ c o, c ≠ z → c ≠ TO → c ≠ i1 → c ≠ i2 → s.heap.get? c = some o → h'.get? c = some o) → Q none { s with heap := h' }) : wpAny (model prog w) A (pyNext (.ref z)) Q E s := by
  rcases W with ⟨g1, a, b, g2⟩ | ⟨T, f, oT, g1, g2, m1, m2, m3, m4⟩
  · exact wpAny_pyNext_zip_end hh D g1 F.ti g2 F.a1 F.a2 F.b1 F.b2 he q
  · exact wpAny_pyNext_zip_end_held hh D g1 g2 F.ti F.a1 F.a2 F.b1 F.b2 he fun h' hk => q h' fun c o e1 _ e2 e3 e => hk c o e1 e2 e3 e
/-- the tuples that came out -/
structure ZG (xs ys : Array Value) (lo : Addr) (h : Heap) (as : List Addr) : Prop where
  rise : as.Pairwise (· < ·)
  above : ∀ a ∈ as, lo < a
  pairs : ∀ (j : Nat) (a : Addr), as[j]? = some a → ∃ x y, xs[j]? = some x ∧ ys[j]? = some y ∧ IsPair h a x y
theorem ZG.there {lo : Addr} {as : List Addr} (g : ZG xs ys lo h as) {a : Addr} (ha : a ∈ as) : a < h.objs.size := by
  obtain ⟨j, hj⟩ := List.mem_iff_getElem?.mp ha
  obtain ⟨_, _, _, _, e⟩ := g.pairs j a hj
  exact Heap.lt_size e
theorem z_loop {R : Result → Shared → Prop} (hh : A.handled = none) (D : ZipApart z TI TO i1 i2 l1 l2) (O : ZOff z TI TO i1 i2 l1 l2 S) {lo : Addr} (hl : S ≤ lo ∧ z ≤ lo ∧ TO ≤ lo ∧ i1 ≤ lo ∧ i2 ≤ lo) {n : Nat} (hn : n = min xs.size ys.size) (hs : n ≤ sizeLine) (res : Value) {h₁ : Heap}
    (hR : ∀ h' tk acc c as, (∀ b o, b ≠ S → b ≠ z → b ≠ TO → b ≠ i1 → b ≠ i2 → h₁.get? b = some o → h'.get? b = some o) → h'.get? S = some { cls := .type "list", dict := none, data := .seq acc c, slots := #[] } → as.length = n → ZG xs ys lo h' as →
      acc.toList = as.map Value.ref → R (.ok (.ret res)) { s with heap := h', toks := tk }) :
    ∀ (k i : Nat) (h : Heap) (tk c : Nat) (acc : Array Value) (as : List Addr), n - i = k → i ≤ n → ZFix h z TI TO i1 i2 l1 l2 xs ys i → ZOut h z TI TO i1 i2 S → (∀ b o, b ≠ S → b ≠ z → b ≠ TO → b ≠ i1 → b ≠ i2 → h₁.get? b = some o → h.get? b = some o) →
      h.get? S = some { cls := .type "list", dict := none, data := .seq acc c, slots := #[] } → acc.toList = as.map Value.ref → as.length = i → ZG xs ys lo h as → lo < h.objs.size →
      codeAny (model prog w) A (.builtin "list.extend.loop" ⟨[.ref S, .ref z, res], []⟩) R { s with heap := h, toks := tk } := by
  intro k
  have far : ∀ a : Addr, lo < a → a ≠ z ∧ a ≠ TO ∧ a ≠ i1 ∧ a ≠ i2 ∧ a ≠ S := fun a ha =>
    ⟨Nat.ne_of_gt (Nat.lt_of_le_of_lt hl.2.1 ha), Nat.ne_of_gt (Nat.lt_of_le_of_lt hl.2.2.1 ha), Nat.ne_of_gt (Nat.lt_of_le_of_lt hl.2.2.2.1 ha), Nat.ne_of_gt (Nat.lt_of_le_of_lt hl.2.2.2.2 ha), Nat.ne_of_gt (Nat.lt_of_le_of_lt hl.1 ha)⟩
  induction k with
  | zero =>
    intro i h tk c acc as hk hi F W kp hS hacc hal hG hlo
    have hin : i = n := by omega
    refine codeAny_builtin PySem.F.entry_extend_loop ?_
    rw [Around.under_plainId PySem.F.plain_extend_loop _]
    show wpAny _ A.in1 (pyNext (.ref z) >>= _) _ _ _
    refine wpAny_bind (z_end (s := { s with heap := h, toks := tk }) (A := A.in1) hh D F W ?_ fun h' he => ?_)
    · rcases Nat.le_total xs.size ys.size with q | q
      · exact .inl (Array.getElem?_eq_none (by omega))
      · exact .inr (Array.getElem?_eq_none (by omega))
    · refine wpAny_pure (hR h' tk acc c as (fun b o n1 n2 n3 n4 n5 e => he b o n2 n3 n4 n5 (kp b o n1 n2 n3 n4 n5 e)) (he S _ O.z.symm O.to.symm O.i1.symm O.i2.symm hS) (by omega) ⟨hG.rise, hG.above, fun j a hj => ?_⟩ hacc)
      obtain ⟨x, y, e1, e2, e3⟩ := hG.pairs j a hj
      obtain ⟨f1, f2, f3, f4, f5⟩ := far a (hG.above a (List.mem_of_getElem? hj))
      exact ⟨x, y, e1, e2, he a _ f1 f2 f3 f4 e3⟩
  | succ k ih =>
    intro i h tk c acc as hk hi F W kp hS hacc hal hG hlo
    have hx : xs[i]? = some (xs[i]'(by omega)) := Array.getElem?_eq_getElem (by omega)
    have hy : ys[i]? = some (ys[i]'(by omega)) := Array.getElem?_eq_getElem (by omega)
    have hsz : acc.size = i := by rw [← Array.length_toList, hacc, List.length_map, hal]
    refine codeAny_builtin PySem.F.entry_extend_loop ?_
    rw [Around.under_plainId PySem.F.plain_extend_loop _]
    show wpAny _ A.in1 (pyNext (.ref z) >>= _) _ _ _
    refine wpAny_bind (z_item (s := { s with heap := h, toks := tk }) D F W (Heap.lt_size hS) hx hy fun h' F' W' ht hk' => ?_)
    dsimp only at ht hk' ⊢
    have hS' := hk' S _ O.z.symm O.to.symm O.i1.symm O.i2.symm hS
    have up : ∀ b o, b ≠ S → h'.get? b = some o → (h'.update S (Obj.mapSeq (·.push (Value.ref h.objs.size)))).get? b = some o := fun b o hb e => (Heap.get?_update_other _ _ (Ne.symm hb)).trans e
    have hSl : S < h.objs.size := Heap.lt_size hS
    show wpAny _ A.in1 (updateSeq S (·.push (Value.ref h.objs.size)) >>= _) _ _ _
    refine wpAny_bind ?_
    refine wpAny_updateSeq hS' rfl (wpAny_pure ⟨plainId_quiet PySem.F.plain_extend_loop _, ih (i + 1) _ tk _ (acc.push (Value.ref h.objs.size)) (as ++ [h.objs.size]) (by omega) (by omega) (F'.keep O up) (W'.keep O up)
      (fun b o n1 n2 n3 n4 n5 e => up b o n1 (hk' b o n2 n3 n4 n5 (kp b o n1 n2 n3 n4 n5 e))) (Heap.get?_update_self _ hS' rfl) (by rw [Array.toList_push, hacc, List.map_append]; rfl) (by rw [List.length_append, hal]; rfl) ⟨?_, ?_, ?_⟩ ?_⟩) (by rw [hsz]; omega) (by show (acc.push (Value.ref h.objs.size)).size ≤ sizeLine + 1; rw [Array.size_push, hsz]; omega)
    · refine List.pairwise_append.mpr ⟨hG.rise, List.pairwise_singleton _ _, fun a ha b hb => ?_⟩
      rw [List.mem_singleton.mp hb]
      exact hG.there ha
    · intro a ha
      rcases List.mem_append.mp ha with ha | ha
      · exact hG.above a ha
      · rw [List.mem_singleton.mp ha]; exact hlo
    · intro j b hj
      rcases Nat.lt_trichotomy j as.length with q | q | q
      · rw [List.getElem?_append_left q] at hj
        obtain ⟨x, y, e1, e2, e3⟩ := hG.pairs j b hj
        obtain ⟨f1, f2, f3, f4, f5⟩ := far b (hG.above b (List.mem_of_getElem? hj))
        exact ⟨x, y, e1, e2, up b _ f5 (hk' b _ f1 f2 f3 f4 e3)⟩
      · subst q
        have hb : h.objs.size = b := by simpa using hj
        subst hb
        exact ⟨_, _, by rw [hal]; exact hx, by rw [hal]; exact hy, up _ _ (Nat.ne_of_gt hSl) ht⟩
      · have hnone : (as ++ [h.objs.size])[j]? = none := List.getElem?_eq_none (by rw [List.length_append, List.length_singleton]; omega)
        rw [hnone] at hj; cases hj
    · have e : (h'.update S (Obj.mapSeq (·.push (Value.ref h.objs.size)))).get? h.objs.size = _ := up _ _ (Nat.ne_of_gt hSl) ht
      exact Nat.lt_trans hlo (Heap.lt_size e)
theorem zip_no_len : typeLookup (.type "zip") "__len__" = pure none := am_miss_of_fast (by decide +kernel)
theorem zip_no_hint : typeLookup (.type "zip") "__length_hint__" = pure none := am_miss_of_fast (by decide +kernel)
theorem z_call {Q : Value → Shared → Prop} (hh : A.handled = none) (D : ZipApart z TI TO i1 i2 l1 l2) (F : ZFix s.heap z TI TO i1 i2 l1 l2 xs ys 0) (hz : IsZip s.heap z TI TO .none) (hTO : ∃ a b, IsPair s.heap TO a b) {n : Nat} (hn : n = min xs.size ys.size) (hs : n ≤ sizeLine)
    (hQ : ∀ h' tk acc c as, (∀ b o, b ≠ z → b ≠ TO → b ≠ i1 → b ≠ i2 → s.heap.get? b = some o → h'.get? b = some o) → h'.get? s.heap.objs.size = some { cls := .type "list", dict := none, data := .seq acc c, slots := #[] } → as.length = n → ZG xs ys s.heap.objs.size h' as →
      acc.toList = as.map Value.ref → Q (.ref s.heap.objs.size) { s with heap := h', toks := tk }) :
    wpAny (model prog w) A (call (.type "list") [.ref z]) Q E s := by
  refine callType_codes (Q₁ := fun obj s₁ => obj = .ref s.heap.objs.size ∧ s₁ = { s with heap := s.heap.push { cls := .type "list", data := .seq #[] } }) PySem.F.called_list (PySem.F.typeCall_list_1 _) PySem.F.entry_list_init
    (code_list_new _ ⟨rfl, rfl⟩) fun obj s₁ h₁ => ?_
  obtain ⟨rfl, rfl⟩ := h₁
  have lt : ∀ {c o}, s.heap.get? c = some o → c < s.heap.objs.size := fun e => Heap.lt_size e
  have hlz := lt hz
  have hlTI := lt F.ti
  have hlTO : TO < s.heap.objs.size := let ⟨_, _, e⟩ := hTO; lt e
  have hl1 : i1 < s.heap.objs.size := let ⟨_, e, _⟩ := F.a1; lt e
  have hl2 : i2 < s.heap.objs.size := let ⟨_, e, _⟩ := F.a2; lt e
  have hl3 : l1 < s.heap.objs.size := let ⟨_, e, _⟩ := F.b1; lt e
  have hl4 : l2 < s.heap.objs.size := let ⟨_, e, _⟩ := F.b2; lt e
  have O : ZOff z TI TO i1 i2 l1 l2 s.heap.objs.size := ⟨Nat.ne_of_lt hlz, Nat.ne_of_lt hlTI, Nat.ne_of_lt hlTO, Nat.ne_of_lt hl1, Nat.ne_of_lt hl2, Nat.ne_of_lt hl3, Nat.ne_of_lt hl4⟩
  have hS : (s.heap.push { cls := .type "list", data := .seq #[] }).get? s.heap.objs.size = some { cls := .type "list", data := .seq #[] } := Heap.get?_push_size _ rfl
  have up : ∀ (h : Heap) (f : Obj → Obj), (∀ b o, s.heap.get? b = some o → h.get? b = some o) → ∀ b o, s.heap.get? b = some o → (h.update s.heap.objs.size f).get? b = some o := fun h f q b o e =>
    (Heap.get?_update_other _ _ (Ne.symm (Nat.ne_of_lt (Heap.lt_size e)))).trans (q b o e)
  have k1 : ∀ b o, s.heap.get? b = some o → (s.heap.push { cls := .type "list", data := .seq #[] }).get? b = some o := fun b o e => Heap.get?_push_of_some _ e
  have k2 := up _ (Obj.mapSeq (fun _ => (#[] : Array Value))) k1
  have hS2 := Heap.get?_update_self (Obj.mapSeq (fun _ => (#[] : Array Value))) hS rfl
  refine ⟨⟨_, hS, rfl⟩, PySem.F.args_list_init_2 _ _, ?_⟩
  show wpAny _ _ (do let old ← Builtin.List.listItems (.ref s.heap.objs.size); Builtin.List.listUpdate (.ref s.heap.objs.size) (fun _ => #[]); letGo old.toList.reverse; Builtin.List.listExtendWith (.ref s.heap.objs.size) (.ref z) .none) _ _ _
  refine wpAny_bind ?_
  unfold Builtin.List.listItems
  refine wpAny_bind (wpAny_seqItems hS rfl (wpAny_pure ?_))
  show wpAny _ _ (updateSeq s.heap.objs.size (fun _ => #[]) >>= fun _ => letGo (#[] : Array Value).toList.reverse >>= fun _ => Builtin.List.listExtendWith (.ref s.heap.objs.size) (.ref z) .none) _ _ _
  refine wpAny_bind (wpAny_updateSeq hS rfl ?_)
  refine wpAny_bind (wpAny_letGo ?_)
  unfold Builtin.List.listExtendWith
  refine wpAny_bind (wpAny_typeOf (T := "zip") ⟨_, k2 _ _ hz, rfl⟩ ?_)
  have h1 : Builtin.List.listSameRef (.ref s.heap.objs.size) (.ref z) = false := by simp [Builtin.List.listSameRef, O.z.symm]
  have h2 : (Value.type "zip" == Value.type "list") = false := by decide
  have h3 : (Value.type "zip" == Value.type "tuple") = false := by decide
  simp only [h1, h2, h3, Bool.or_false, Bool.false_eq_true, if_false]
  refine wpAny_bind (wpAny_pyIter_zip (k2 _ _ hz) ?_)
  refine wpAny_bind (wpAny_holding ?_)
  unfold Builtin.List.listLengthHint
  refine wpAny_bind (wpAny_specialOf (T := "zip") ⟨_, k2 _ _ hz, rfl⟩ zip_no_len ?_)
  show wpAny _ _ (specialOf (Value.ref z) (Str.ofString "__length_hint__") >>= _) _ _ _
  refine wpAny_bind (wpAny_specialOf (T := "zip") ⟨_, k2 _ _ hz, rfl⟩ zip_no_hint ?_)
  refine wpAny_pure ?_
  show wpAny _ _ (rule "list.extend.makes-room" >>= fun _ => Builtin.List.listTouch (.ref s.heap.objs.size) >>= fun _ =>
    again (.builtin "list.extend.loop" ⟨[.ref s.heap.objs.size, .ref z, .none], []⟩)) _ _ _
  refine wpAny_bind (wpAny_rule ?_)
  refine wpAny_bind ?_
  show wpAny _ _ (updateSeq s.heap.objs.size (·.push .none) >>= fun _ => updateSeq s.heap.objs.size (·.pop)) _ _ _
  refine wpAny_bind (wpAny_updateSeq hS2 rfl ?_)
  have hS3 := Heap.get?_update_self (Obj.mapSeq (·.push Value.none)) hS2 rfl
  refine wpAny_updateSeq (hz := by seq_fits) hS3 rfl ?_
  have hS4 := Heap.get?_update_self (Obj.mapSeq (·.pop)) hS3 rfl
  have k4 := up _ (Obj.mapSeq (·.pop)) (up _ (Obj.mapSeq (·.push Value.none)) k2)
  refine wpAny_pure ⟨plainId_quiet PySem.F.plain_extend_loop _, ?_⟩
  refine z_loop (A := A.in1) (prog := prog) (w := w) (s := s) (h₁ := s.heap) (lo := s.heap.objs.size) hh D O ⟨Nat.le_refl _, Nat.le_of_lt hlz, Nat.le_of_lt hlTO, Nat.le_of_lt hl1, Nat.le_of_lt hl2⟩ hn hs .none (fun h' tk acc c as hk hS' hl hG hacc => ?_)
    n 0 _ _ _ #[] [] (Nat.sub_zero _) (Nat.zero_le _) ⟨k4 _ _ F.ti, F.a1.at fun o e => k4 _ o e, F.a2.at fun o e => k4 _ o e, F.b1.at fun o e => k4 _ o e, F.b2.at fun o e => k4 _ o e⟩ (.inl ⟨k4 _ _ hz, let ⟨a, b, e⟩ := hTO; ⟨a, b, k4 _ _ e⟩⟩)
    (fun b o n1 n2 n3 n4 n5 e => k4 b o e) hS4 rfl rfl ⟨List.Pairwise.nil, (fun _ ha => nomatch ha), (fun j a hj => by simp at hj)⟩ (Heap.lt_size hS4)
  exact ⟨rfl, hQ h' tk acc c as (fun b o n1 n2 n3 n4 e => hk b o (Nat.ne_of_lt (Heap.lt_size e)) n1 n2 n3 n4 e) hS' hl hG hacc⟩
end
/-- pairs laid at their addresses -/
def layP : Hp → List Addr → List (V × V) → Hp
  | H, a :: as, p :: ps => layP (upd H a (.tup [p.1, p.2])) as ps
  | H, _, _ => H
theorem layP_off {b : Addr} : ∀ (as : List Addr) (ps : List (V × V)) (H : Hp), b ∉ as → layP H as ps b = H b
  | [], _, _, _ => rfl
  | _ :: _, [], _, _ => rfl
  | a :: as, p :: ps, H, h => by
    show layP (upd H a (.tup [p.1, p.2])) as ps b = H b
    rw [layP_off as ps _ (fun q => h (List.mem_cons_of_mem _ q)), upd_ne (fun q => h (by rw [q]; exact List.mem_cons_self))]
theorem layP_at : ∀ (as : List Addr) (ps : List (V × V)) (H : Hp), as.length = ps.length → as.Nodup → ∀ (j : Nat) (a : Addr) (p : V × V), as[j]? = some a → ps[j]? = some p → layP H as ps a = some (.tup [p.1, p.2])
  | [], _, _, _, _, j, a, p, h, _ => by cases h
  | b :: as, [], _, h, _, _, _, _, _, _ => by cases h
  | b :: as, q :: ps, H, h, hn, j, a, p, h1, h2 => by
    have hn' := List.nodup_cons.mp hn
    cases j with
    | zero =>
      cases h1
      cases h2
      show layP (upd H b (.tup [q.1, q.2])) as ps b = _
      rw [layP_off as ps _ hn'.1, upd_same]
    | succ j => exact layP_at as ps (upd H b (.tup [q.1, q.2])) (Nat.succ.inj h) hn'.2 j a p h1 h2
section
variable {X : Cx}
theorem zip_laid {pins : List (Addr × Obj)} {σ : L2.St} {H : Hp} {s : Shared} {h' : Heap} {tk : Nat} {ps : List (V × V)} {acc : Array Value} {c : Nat} {as : List Addr} {S : Addr} (I : Inv X pins σ H s)
    (hk : ∀ b o, s.heap.get? b = some o → h'.get? b = some o) (hp : s.heap.objs.size ≤ S) (hS : h'.get? S = some { cls := .type "list", dict := none, data := .seq acc c, slots := #[] }) (hl : as.length = ps.length) (hz : ps.length ≤ sizeLine)
    (rise : as.Pairwise (· < ·)) (above : ∀ a ∈ as, S < a) (hg : ∀ (j : Nat) (a : Addr) (p : V × V), as[j]? = some a → ps[j]? = some p → ∃ x y, RelV p.1 x ∧ RelV p.2 y ∧ IsPair h' a x y) (hacc : acc.toList = as.map Value.ref) :
    ∃ H' : Hp, Ex H H' ∧ (∀ b, H' b ≠ none → H b ≠ none ∨ b = S ∨ b ∈ as) ∧ H S = none ∧ (∀ t ∈ as, H t = none) ∧ S ∉ as ∧ as.Nodup ∧ H' S = some (.lst (as.map V.ref)) ∧ (∀ (j : Nat) (a : Addr) (p : V × V), as[j]? = some a → ps[j]? = some p → H' a = some (.tup [p.1, p.2])) ∧ Inv X pins σ H' { s with heap := h', toks := tk } := by
  have hSn : S ∉ as := fun q => Nat.lt_irrefl _ (above _ q)
  have nd : as.Nodup := List.Pairwise.imp (fun {a b} (h : a < b) => Nat.ne_of_lt h) rise
  have new : ∀ t ∈ as, H t = none := fun t ht => I.hok.fresh (Nat.le_trans hp (Nat.le_of_lt (above t ht)))
  have newS : H S = none := I.hok.fresh hp
  have atP := layP_at as ps (upd H S (.lst (as.map V.ref))) hl nd
  have off : ∀ b, b ∉ as → b ≠ S → layP (upd H S (.lst (as.map V.ref))) as ps b = H b := fun b h1 h2 => by rw [layP_off as ps _ h1, upd_ne h2]
  have low : ∀ b o, s.heap.get? b = some o → b ∉ as ∧ b ≠ S := fun b o e => ⟨fun q => absurd (Heap.lt_size e) (Nat.not_lt.mpr (Nat.le_trans hp (Nat.le_of_lt (above b q)))), Nat.ne_of_lt (Nat.lt_of_lt_of_le (Heap.lt_size e) hp)⟩
  have kp : ∀ b u, H b = some u → (layP (upd H S (.lst (as.map V.ref))) as ps) b = some u := fun b u e => by
    rw [off b (fun q => by rw [new b q] at e; cases e) (fun q => by rw [q, newS] at e; cases e)]
    exact e
  have eS : layP (upd H S (.lst (as.map V.ref))) as ps S = some (.lst (as.map V.ref)) := by rw [layP_off as ps _ hSn, upd_same]
  refine ⟨layP (upd H S (.lst (as.map V.ref))) as ps, kp, fun b hb => ?_, newS, new, hSn, nd, eS, atP, ?_⟩
  · by_cases b1 : b = S
    · exact .inr (.inl b1)
    · by_cases b2 : b ∈ as
      · exact .inr (.inr b2)
      · rw [off b b2 b1] at hb
        exact .inl hb
  refine I.call' (ch := []) rfl ⟨fun b o q _ _ _ => hk b o q, fun b o q _ _ _ => ⟨o.slots, hk b o q⟩, fun b o q n _ => ?_, fun b o q _ => ⟨o, hk b o q⟩, fun b xs q => kp b _ q, fun b o u q => kp b _ q, fun b ps q => ⟨#[], by rw [kp b _ q]; simp⟩⟩ (fun b u q => ?_) I.bare fun b q => by simp at q
  · obtain ⟨z1, z2⟩ := low b o q
    rw [off b z1 z2]
    exact n
  · by_cases hb : b ∈ as
    · obtain ⟨j, hj⟩ := List.mem_iff_getElem?.mp hb
      have hjl : j < ps.length := by rw [← hl]; exact (List.getElem?_eq_some_iff.mp hj).1
      have hpj : ps[j]? = some ps[j] := List.getElem?_eq_getElem hjl
      rw [atP j b _ hj hpj] at q
      cases q
      obtain ⟨x, y, r1, r2, e3⟩ := hg j b _ hj hpj
      exact ⟨by show 2 ≤ sizeLine; decide, [x, y], .cons r1 (.cons r2 .nil), ⟨_, e3, rfl, _, rfl⟩⟩
    · by_cases hb2 : b = S
      · rw [hb2] at q ⊢
        rw [eS] at q
        cases q
        refine ⟨by rw [List.length_map]; omega, acc.toList, c, by rw [hacc]; exact LiI.vals_refs as, ?_⟩
        rw [Array.toArray_toList]
        exact hS
      · rw [off b hb hb2] at q
        exact (I.hok b u q).stay (fun d v _ y => hk d v y) (fun d y => kp d _ y) fun d xs y => kp d _ y
/-- list(zip(e, e2)) -/
def tListZip (K : PySem.W.Frag) (ta : TA) : TE := fun σ H Q => ta σ H fun vs H1 => ∃ (a b : Addr) (xs ys : List V), vs = [.ref a, .ref b] ∧ SqL K H1 a xs ∧ SqL K H1 b ys ∧ xs.length ≤ sizeLine ∧
  ∀ (H' : Hp) (S : Addr) (as : List Addr), Ex H1 H' → (∀ c, H' c ≠ none → H1 c ≠ none ∨ c = S ∨ c ∈ as) → H1 S = none → (∀ t ∈ as, H1 t = none) → S ∉ as → as.Nodup → as.length = (xs.zip ys).length → H' S = some (.lst (as.map V.ref)) →
    (∀ (j : Nat) (c : Addr) (p : V × V), as[j]? = some c → (xs.zip ys)[j]? = some p → H' c = some (.tup [p.1, p.2])) → Q (.ref S) H'
theorem pe_listZip {e e2 : Expr} {ta : TA} {p p2 pos pos2 : Pos} (hc : X.calm = true) (hgl : Gl X "list") (hml : X.mg "list" = none) (hv : bootBuiltins "list" = some (.type "list")) (hg : Gl X "zip") (hm : X.mg "zip" = none) (ha : PA X [e, e2] ta)
    (hs1 : starEach [.Call (.Name "zip" p2) [e, e2] [] pos2] X.env = (false, eval (.Call (.Name "zip" p2) [e, e2] [] pos2) X.env) :: starEach [] X.env := by rfl)
    (hs : starEach [e, e2] X.env = (false, eval e X.env) :: starEach [e2] X.env := by rfl) (hpl : (backTo pos2 (starEach [e2] X.env)).any (·.1) = false := by rfl) :
    PE X (.Call (.Name "list" p) [.Call (.Name "zip" p2) [e, e2] [] pos2] [] pos) (tListZip X.K ta) := by
  refine ⟨fun pins s σ H Q I h => ?_⟩
  refine wpAny_Call_Name_kw (ld_blt I hgl hml hv ?_)
  refine PyProof.Rows.callWith_type1 ?_ hs1 rfl
  rw [hs1]
  show wpAny _ _ (spliced ((false, eval (.Call (.Name "zip" p2) [e, e2] [] pos2) X.env) :: backTo pos (starEach [] X.env))) _ _ s
  refine Calls.spliced_cons ?_
  refine Call_ (ld_blt I hg hm PyProof.Rows.boot_zip (PyProof.Rows.callWith_type1 (thn (ha.run pos2 pins s σ H _ I h) fun us s1 ⟨vs, H1, I1, r1, q1⟩ => ?_) hs hpl))
  obtain ⟨a, b, xs, ys, ex, hqx, hqy, hz, q⟩ := q1
  subst ex
  cases r1 with
  | cons r rr =>
    cases rr with
    | cons r' rr =>
      cases rr
      cases r
      cases r'
      obtain ⟨its, rv, p1, _⟩ := I1.list hqx
      obtain ⟨its2, rv2, p2, _⟩ := I1.list hqy
      have l1 := rv.length
      have l2 := rv2.length
      refine call_zip_2 p1.isList p2.isList fun h' hzz hTI hTO h1 h2 hsz hk => Calls.spliced_nil ?_
      have D := PySem.W.ktu_apart s1.heap.objs.size a b p1.lt p2.lt
      have hlen : (xs.zip ys).length = min its.toArray.size its2.toArray.size := by rw [List.length_zip, List.size_toArray, List.size_toArray, l1, l2]
      have hle : (xs.zip ys).length ≤ sizeLine := by rw [List.length_zip]; exact Nat.le_trans (Nat.min_le_left ..) hz
      refine z_call (s := { s1 with heap := h' }) (I1.ok.hd hc) D ⟨hTI, h1, h2, p1.isList.at fun o e => hk _ o e, p2.isList.at fun o e => hk _ o e⟩ hzz ⟨_, _, hTO⟩ hlen hle fun h3 tk acc c as hk3 hS hl hG hacc => ?_
      have far : ∀ c o, s1.heap.get? c = some o → h3.get? c = some o := fun c o e => by
        have hlt := Heap.lt_size e
        refine hk3 c o ?_ ?_ ?_ ?_ (hk c o e)
        · exact Nat.ne_of_lt (Nat.lt_of_lt_of_le hlt (Nat.le_add_right ..))
        · exact Nat.ne_of_lt (Nat.lt_of_lt_of_le hlt (Nat.le_add_right ..))
        · exact Nat.ne_of_lt hlt
        · exact Nat.ne_of_lt (Nat.lt_of_lt_of_le hlt (Nat.le_add_right ..))
      have hsz' : s1.heap.objs.size ≤ h'.objs.size := by rw [hsz]; exact Nat.le_add_right ..
      obtain ⟨H', k1, k2, k3, k4, k5, k6, k7, k8, J⟩ := zip_laid (tk := tk) (ps := xs.zip ys) I1 far hsz' hS hl hle hG.rise hG.above (fun j c p hj hp => by
        obtain ⟨x, y, e1, e2, e3⟩ := hG.pairs j c hj
        obtain ⟨f1, f2⟩ := List.getElem?_zip_eq_some.mp hp
        obtain ⟨u, g1, g2⟩ := rv.get f1
        obtain ⟨u2, g3, g4⟩ := rv2.get f2
        rw [List.getElem?_toArray] at e1 e2
        rw [g1] at e1
        rw [g3] at e2
        cases e1
        cases e2
        exact ⟨_, _, g2, g4, e3⟩) hacc
      exact ⟨.ref h'.objs.size, H', J, rfl, q H' _ as k1 k2 k3 k4 k5 k6 hl k7 k8⟩
end
section
variable {K : PySem.W.Frag} {σ : L2.St} {G M H : Hp} {ts : TA} {ds es : List PyData}
theorem rpl_pt : ∀ {ds : List PyData} {xs : List V}, ds.length = xs.length → (∀ (j : Nat) d x, ds[j]? = some d → xs[j]? = some x → Rp K G d x) → RpL K G ds xs
  | [], [], _, _ => rfl
  | [], _ :: _, h, _ => by cases h
  | _ :: _, [], h, _ => by cases h
  | d :: ds, x :: xs, h, hp => ⟨x, xs, rfl, hp 0 d x rfl rfl, rpl_pt (Nat.succ.inj h) fun j a b h1 h2 => hp (j + 1) a b h1 h2⟩
/-- the part of a heap that is not written -/
theorem At.rest {H' : Hp} (A : At G M H) (e : Ex H H') : Ex G (fun b => if M b = none then H' b else none) ∧ At (fun b => if M b = none then H' b else none) M H' := by
  refine ⟨fun b o h => ?_, ⟨fun b o h => ?_, A.m.trans e, fun b o h => ?_⟩⟩
  · have : M b = none := by
      cases z : M b with
      | none => rfl
      | some u => rw [A.d _ _ z] at h; cases h
    show (if M b = none then H' b else none) = some o
    rw [if_pos this]
    exact e _ _ (A.g _ _ h)
  · by_cases z : M b = none
    · rw [show (if M b = none then H' b else none) = H' b from if_pos z] at h
      exact h
    · rw [show (if M b = none then H' b else none) = none from if_neg z] at h
      cases h
  · show (if M b = none then H' b else none) = none
    rw [if_neg (by rw [h]; intro z; cases z)]
def pairsD (ds es : List PyData) : List PyData := (ds.zip es).map fun p => .tuple [p.1, p.2]
theorem d_listZip (h : TrA K ts σ G [.list ds, .list es]) (hn : ds.length ≤ 100000) : TrD K (tListZip K ts) σ G (.list (pairsD ds es)) := fun G1 M H e A Q q => by
  refine h G1 M H e A _ fun vs G2 H2 e2 A2 rvs => ?_
  obtain ⟨_, _, rfl, ⟨a, xs, rfl, ga, rx⟩, _, _, rfl, ⟨b, ys, rfl, gb, ry⟩, rfl⟩ := rvs
  refine ⟨a, b, xs, ys, rfl, SqL.of (A2.g _ _ ga), SqL.of (A2.g _ _ gb), by rw [rx.len]; exact sz_of hn, fun H' S as k1 k2 k3 k4 k5 k6 hl k7 k8 => ?_⟩
  obtain ⟨E, A3⟩ := A2.rest k1
  have MS : M S = none := A2.mNone k3
  have lz : (ds.zip es).length = (xs.zip ys).length := by rw [List.length_zip, List.length_zip, rx.len, ry.len]
  refine q (.ref S) _ H' (e2.trans E) A3 ⟨S, as.map V.ref, rfl, (if_pos MS).trans k7, rpl_pt ?_ fun j d x h1 h2 => ?_⟩
  · unfold pairsD
    rw [List.length_map, List.length_map, hl, lz]
  · unfold pairsD at h1
    rw [List.getElem?_map] at h1 h2
    obtain ⟨p, hp, rfl⟩ := Option.map_eq_some_iff.mp h1
    obtain ⟨c, hc, rfl⟩ := Option.map_eq_some_iff.mp h2
    obtain ⟨f1, f2⟩ := List.getElem?_zip_eq_some.mp hp
    obtain ⟨x, g1, r1⟩ := rx.at f1
    obtain ⟨y, g2, r2⟩ := ry.at f2
    have hz : (xs.zip ys)[j]? = some (x, y) := List.getElem?_zip_eq_some.mpr ⟨g1, g2⟩
    have Mc : M c = none := A2.mNone (k4 c (List.mem_of_getElem? hc))
    exact ⟨c, [x, y], rfl, SqT.of ((if_pos Mc).trans (k8 j c _ hc hz)), ⟨x, [y], rfl, r1.up E, y, [], rfl, r2.up E, rfl⟩⟩
end
end Sb

namespace Sb
open PySem PySem.Spec PyProof.Rows L2
section
variable {K : PySem.W.Frag} {σ : L2.St} {G M H : Hp} {ta : TA} {ds es : List PyData} {D : Ends} {g : TG} {tbd : TS} {td tk tv te : TE} {i j : Nat}
/-- for .. in zip(a, b), lists, the second one no longer -/
theorem s_forZI (Inv : Nat → L2.St → Hp → Hp → Prop) (h : TrA K ta σ G [.list ds, .list es]) (hl : es.length ≤ ds.length) (A : At G M H) (mono : ∀ {k : Nat} {σ1 : L2.St} {G1 G2 M1 : Hp}, Ex G1 G2 → Inv k σ1 G1 M1 → Inv k σ1 G2 M1)
    (h0 : Inv 0 σ G M)
    (hb : ∀ (k : Nat) d e, ds[k]? = some d → es[k]? = some e → ∀ T σ1 G1 M1 H1, Ex G G1 → At G1 M1 H1 → Inv k σ1 G1 M1 → Rp K G1 (.tuple [d, e]) (.ref T) → ∀ Nx : L2.St → Hp → Prop, (∀ σ2 G2 M2 H2, Ex G1 G2 → At G2 M2 H2 → Inv (k + 1) σ2 G2 M2 → Nx σ2 H2) →
      g (.ref T) σ1 H1 fun σ2 H2 => tbd { D with nx := Nx, ct := Nx, bk := D.nx } σ2 H2)
    (hd : ∀ σ1 G1 M1 H1, Ex G G1 → At G1 M1 H1 → Inv es.length σ1 G1 M1 → D.nx σ1 H1) :
    tFor (RZ.iZipA K ta) g tbd D σ H := by
  refine w_A h A fun vs G2 H2 e2 A2 rvs => ?_
  obtain ⟨_, _, rfl, ⟨a, xs, rfl, ga, rx⟩, _, _, rfl, ⟨b, ys, rfl, gb, ry⟩, rfl⟩ := rvs
  refine ⟨a, b, xs, ys, rfl, .inl ⟨SqL.of (A2.g _ _ ga), SqL.of (A2.g _ _ gb), ?_⟩⟩
  refine ⟨fun t m σ' H' => m = ys.length - t ∧ t ≤ ys.length ∧ ∃ G3 M3, Ex G2 G3 ∧ At G3 M3 H' ∧ Inv t σ' G3 M3, ⟨ys.length, by simp, Nat.zero_le _, G2, M, Ex.refl _, A2, mono e2 h0⟩, ?_⟩
  rintro t m σ' H' ⟨rfl, ht, G3, M3, e3, A3, hI⟩
  have hsx : SqL K H' a xs := SqL.of (A3.g _ _ (e3 _ _ ga))
  have hsy : SqL K H' b ys := SqL.of (A3.g _ _ (e3 _ _ gb))
  have lx := rx.len
  have ly := ry.len
  by_cases hlt : t < ys.length
  · have hy : ys[t]? = some ys[t] := List.getElem?_eq_getElem hlt
    have hx : xs[t]? = some (xs[t]'(by omega)) := List.getElem?_eq_getElem (by omega)
    obtain ⟨e, he1, re⟩ := ry.get hy
    obtain ⟨d, hd1, rd⟩ := rx.get hx
    refine .inr ⟨⟨xs, ys, _, _, hsx, hsy, hx, hy⟩, fun σ' H' => ∃ G3 M3, Ex G2 G3 ∧ At G3 M3 H' ∧ Inv (t + 1) σ' G3 M3, fun σ2 H3 z => ⟨ys.length - (t + 1), by omega, rfl, hlt, z⟩, ?_⟩
    rintro v H4 ⟨T, x, y, rfl, hT, rfl, fx, fy⟩
    have ex := Option.some.inj ((fx xs hsx).symm.trans hx)
    have ey := Option.some.inj ((fy ys hsy).symm.trans hy)
    subst ex ey
    have A4 := A3.ng (o := HO.tup [xs[t]'(by omega), ys[t]]) hT
    have e4 : Ex G3 (upd G3 T (.tup [xs[t]'(by omega), ys[t]])) := Ex.new (A3.gNone hT)
    refine hb t d e hd1 he1 T _ _ _ _ ((e2.trans e3).trans e4) A4 (mono e4 hI) ⟨T, _, rfl, SqT.of upd_same, ⟨_, _, rfl, rd.up (e3.trans e4), _, _, rfl, re.up (e3.trans e4), rfl⟩⟩ _ fun σ5 G5 M5 H5 e5 A5 i5 => ?_
    exact ⟨G5, M5, (e3.trans e4).trans e5, A5, i5⟩
  · have et : t = es.length := by omega
    subst et
    refine .inl ⟨⟨xs, ys, hsx, hsy, .inr (by omega)⟩, ?_⟩
    exact hd σ' G3 M3 H' (e2.trans e3) A3 hI
/-- a pair of pairs, unpacked -/
theorem g_pairs {T : Addr} {a b c d : PyData} {i j k l : Nat} {Q : L2.St → Hp → Prop} (A : At G M H) (h : Rp K G (.tuple [.tuple [a, b], .tuple [c, d]]) (.ref T))
    (q : ∀ x y z w, Rp K G a x → Rp K G b y → Rp K G c z → Rp K G d w → Q ((((σ.set i (some x)).set j (some y)).set k (some z)).set l (some w)) H) :
    gTup K 2 (gCons (gTup K 2 (gCons (gName i) (gCons (gName j) gNil))) (gCons (gTup K 2 (gCons (gName k) (gCons (gName l) gNil))) gNil)) (.ref T) σ H Q := by
  obtain ⟨T', xs, e, h1, ⟨p, _, rfl, ⟨P, ps, rfl, h2, ⟨x, _, rfl, rx, y, _, rfl, ry, rfl⟩⟩, p', _, rfl, ⟨P', ps', rfl, h3, ⟨z, _, rfl, rz, w, _, rfl, rw', rfl⟩⟩, rfl⟩⟩ := h
  refine ⟨T', _, e, A.g.stt h1, rfl, _, _, rfl, ⟨P, _, rfl, A.g.stt h2, rfl, x, _, rfl, y, _, rfl, rfl, ⟨_, _, rfl, ⟨P', _, rfl, A.g.stt h3, rfl, z, _, rfl, w, _, rfl, rfl, rfl, ?_⟩⟩⟩⟩
  exact q x y z w rx ry rz rw'
end
end Sb

namespace Sb
open PySem PySem.Spec PyProof.Rows L2
/-! ### set(list of ints), sorted(set(..)) -/
section
variable {prog : Program} {w : World} {A : Around} {E : Value → Shared → Prop} {s : Shared} {R : Result → Shared → Prop} {I : Addr} {fp wr : List Addr} {G : Array GenState → Array GenState → Prop} {n : Nat} {P : Nat → Value → Prop} {St : Nat → Shared → Prop}
theorem set_loopR (W : WalksS prog w A.in1 I fp wr G n P St) (S : Addr) (hSf : S ∉ fp) (val : Nat → Int) (hval : ∀ i v, P i v → ∃ t, v = .int (val i) t) (hb : n + 1 < scanBound) :
    ∀ (k i : Nat) (s : Shared), n - i = k → i ≤ n → St i s → SetR w s.heap S (fun j => (firstMet val i).any (· == j)) (firstMet val i).length →
      (∀ s', Moved (S :: wr) G s s' → SetR w s'.heap S (fun j => (firstMet val n).any (· == j)) (firstMet val n).length → R (.ok (.ret .none)) s') →
      codeAny (model prog w) A (.builtin "set.update.loop" ⟨[.ref S, .ref I], []⟩) R s := by
  have hSw : S ∉ wr := fun h => hSf (W.sub _ h)
  have hsub : ∀ b ∈ wr, b ∈ S :: wr := fun b hb => List.mem_cons_of_mem _ hb
  intro k
  induction k with
  | zero =>
    intro i s hk hi hst hS hR
    have hin : i = n := by omega
    subst hin
    refine codeAny_builtin PyProof.Rows.F.entry_set_update_loop ?_
    rw [Around.under_plainId PyProof.Rows.F.plain_set_update_loop _]
    show wpAny _ A.in1 (pyNext (.ref I) >>= _) _ _ s
    refine wpAny_bind (W.done s _ _ hst fun s' hm => ?_)
    show wpAny _ A.in1 (ret Value.none) _ _ s'
    exact wpAny_pure (hR s' (hm.mono hsub) (hS.at fun o e => hm.heap S o hSw e))
  | succ k ih =>
    intro i s hk hi hst hS hR
    have hlt : i < n := by omega
    refine codeAny_builtin PyProof.Rows.F.entry_set_update_loop ?_
    rw [Around.under_plainId PyProof.Rows.F.plain_set_update_loop _]
    show wpAny _ A.in1 (pyNext (.ref I) >>= _) _ _ s
    refine wpAny_bind (W.item i s _ _ hlt hst fun v s' hP hst' hm => ?_)
    obtain ⟨t, rfl⟩ := hval i v hP
    have hS' := hS.at (h' := s'.heap) fun o e => hm.heap S o hSw e
    show wpAny _ A.in1 (holding [Value.int (val i) t] (setAdd S (.int (val i) t)) >>= _) _ _ s'
    refine wpAny_bind (wpAny_holding ?_)
    unfold setAdd
    refine wpAny_holding ?_
    refine wpAny_bind ((intKind prog w).pyHash (k := val i) (intKind_is _ _ _ _) ?_)
    have hroom : (firstMet val i).length + 1 < scanBound := by have := firstMet_length_le val i; omega
    refine setR_add_hashed (s := { s' with toks := s'.toks + 1 }) hS' hroom fun h' hsb hS2 => ?_
    have hSi : SetR w h' S (fun j => (firstMet val (i + 1)).any (· == j)) (firstMet val (i + 1)).length := by
      rw [firstMet_succ, step_length]
      exact hS2.congr fun j => step_any _ _ _
    refine wpAny_pure ⟨plainId_quiet PyProof.Rows.F.plain_set_update_loop _, ih (i + 1) _ (by omega) hlt (W.frame _ s' _ _ hst' (Nat.le_succ _) fun b hb o e => ?_) hSi fun s'' hm'' hS'' => ?_⟩
    · rw [hsb.2 b (fun h : b = S => hSf (by rw [← h]; exact hb))]; exact e
    · refine hR s'' (Moved.trans W.gtrans ((hm.mono hsub).then_heap (Nat.le_succ _) fun b o hb e => ?_) hm'') hS''
      rw [hsb.2 b (fun h : b = S => hb (by rw [h]; exact List.mem_cons_self))]; exact e
theorem set_led1 (a : Value) {Q₁ : Value → Shared → Prop}
    (h : Q₁ (.ref s.heap.objs.size) { s with heap := s.heap.push { cls := .type "set", dict := none, data := .set #[] 0 (.fresh 0 0 (!w.params.followText "set-order")) } }) :
    codeAny (model prog w) A (.call (.builtin "set.__new__") ⟨[.type "set", a], []⟩) (wants Q₁ E) s := by
  refine codeAny_of_tree ?_
  show wpAny _ A.in1 (do checkBuiltinCall "set.__new__" ⟨[.type "set", a], []⟩; again (.builtin "set.__new__" ⟨[.type "set", a], []⟩)) _ _ s
  refine wpAny_bind (wpAny_of_eq (PySem.F.newCall_set_1 a) (wpAny_pure ⟨plainId_quiet PySem.F.plain_set_new _, codeAny_builtin PySem.F.entry_set_new ?_⟩))
  rw [Around.under_plainId PySem.F.plain_set_new _]
  unfold Builtin.«set.__new__» Builtin.Frozenset.newClass
  have hsub := sub_set_self
  obtain ⟨hp, g, d, tk, os⟩ := s
  dsimp only
  wp_walk
  refine wpAny_askSetting (wpAny_pure ?_)
  dsimp only
  simp only [newObj]
  refine wpAny_bind (wpAny_alloc (wpAny_pure ?_))
  exact wpAny_pure h
theorem set_list {l : Addr} {items : Array Value} {ns : List Int} {Q : Value → Shared → Prop}
    (hh : A.handled = none) (hl : s.heap.IsList l items) (hi : IntsAre items.toList ns) (hb : items.size + 1 < scanBound)
    (h : ∀ (h' : Heap) (tk : Nat), SetR w h' s.heap.objs.size (fun j => (firstMet (fun i => ns.getD i 0) items.size).any (· == j)) (firstMet (fun i => ns.getD i 0) items.size).length →
      (∀ b o, b < s.heap.objs.size → s.heap.get? b = some o → h'.get? b = some o) → Q (.ref s.heap.objs.size) { s with heap := h', toks := tk }) :
    wpAny (model prog w) A (call (.type "set") [.ref l]) Q E s := by
  obtain ⟨c, tl, hmro⟩ := PySem.F.called_set.mro
  have hmade := PySem.F.called_set.made
  have hsub := PySem.F.called_set.sub
  refine wpAny_call (codeAny_of_tree ?_)
  show wpAny _ _ (callAny (.type "set") _) _ _ _
  refine wpAny_pure ⟨Code.quiet_builtin _ (by decide +kernel), codeAny_builtin PySem.F.entry_type_call ?_⟩
  rw [Around.under_plain (weight_type_call_type "set" [.ref l] []) rfl]
  have h1 := PySem.F.called_set.notType
  have h2 := PySem.F.called_set.canCreate
  have hct := PySem.F.typeCall_set_1 (.ref l)
  repeat (any_goals (first | assumption | wp_step))
  refine codeAny_mono (set_led1 (.ref l) (E := E) (Q₁ := fun obj s₁ => obj = .ref s.heap.objs.size ∧ s₁ = { s with heap := s.heap.push { cls := .type "set", dict := none, data := .set #[] 0 (.fresh 0 0 (!w.params.followText "set-order")) } }) ⟨rfl, rfl⟩) fun r s₁ hr => ?_
  cases r with
  | error e => exact hr
  | ok fl =>
    cases fl with
    | ret obj =>
      obtain ⟨rfl, rfl⟩ := hr
      generalize hled : (!w.params.followText "set-order") = led
      have hS : (s.heap.push { cls := .type "set", dict := none, data := .set #[] 0 (.fresh 0 0 led) }).get? s.heap.objs.size = some { cls := .type "set", dict := none, data := .set #[] 0 (.fresh 0 0 led) } := Heap.get?_push_size _ rfl
      have hT : Shared.TypeIs { s with heap := s.heap.push { cls := .type "set", dict := none, data := .set #[] 0 (.fresh 0 0 led) } } (.ref s.heap.objs.size) "set" := ⟨_, hS, rfl⟩
      have hR0 : SetR w (s.heap.push { cls := .type "set", dict := none, data := .set #[] 0 (.fresh 0 0 led) }) s.heap.objs.size (fun _ => false) 0 := by rw [← hled]; exact setR_fresh w
      have hli := PySem.F.called_set.init.lookup
      have hbi := PySem.F.called_set.init.bind (.ref s.heap.objs.size)
      repeat (any_goals (first | assumption | wp_step))
      refine codeAny_mono (codeAny_call_builtin (R := wants (fun r s₂ => r = .none ∧ ∃ h' tk, s₂ = { s with heap := h', toks := tk } ∧
          SetR w h' s.heap.objs.size (fun j => (firstMet (fun i => ns.getD i 0) items.size).any (· == j)) (firstMet (fun i => ns.getD i 0) items.size).length ∧
          (∀ b o, b < s.heap.objs.size → s.heap.get? b = some o → h'.get? b = some o)) E) PySem.F.called_set.init.plain PySem.F.entry_set_init (check_set_init_1 hT ?_)) fun r₂ s₂ hr₂ => ?_
      · obtain ⟨ol, hol, hcl, nl, hdl⟩ := hl
        obtain ⟨ocls, odict, odata, oslots⟩ := ol
        simp only at hcl hdl
        subst hcl; subst hdl
        have hol' : (s.heap.push { cls := .type "set", dict := none, data := .set #[] 0 (.fresh 0 0 led) }).get? l = some { cls := .type "list", dict := odict, data := .seq items nl, slots := oslots } := Heap.get?_push_of_some _ hol
        have hsls := PySem.F.sub_list_set
        have hslf := PySem.F.sub_list_frozenset
        have hne : (Value.type "list" == Value.type "dict") = false := by decide
        have hl1 : (s.heap.push { cls := .type "set", dict := none, data := .set #[] 0 (.fresh 0 0 led) }).IsList l items := ⟨_, hol', rfl, nl, rfl⟩
        unfold Builtin.«set.__init__» noKeywords Builtin.Frozenset.updateFrom
        generalize hPI : pyIter = PI
        wp_walk
        subst hPI
        refine wpAny_pyIter_list hl1 ?_
        refine wpAny_bind (wpAny_runValue ?_)
        have hlS : l < s.heap.objs.size := Heap.lt_size hol
        have hh3 : A.in1.in1.in1.handled = none := by simp [hh]
        have hneI : l ≠ (s.heap.push { cls := .type "set", dict := none, data := .set #[] 0 (.fresh 0 0 led) }).objs.size := by
          rw [Heap.size_push]; exact Nat.ne_of_lt (Nat.lt_succ_of_lt hlS)
        have hSf : s.heap.objs.size ∉ [(s.heap.push { cls := .type "set", dict := none, data := .set #[] 0 (.fresh 0 0 led) }).objs.size, l] := by
          rw [Heap.size_push]; simp only [List.mem_cons, List.mem_singleton, List.not_mem_nil, or_false, not_or]
          exact ⟨Nat.ne_of_lt (Nat.lt_succ_self _), Nat.ne_of_gt hlS⟩
        have hval : ∀ (i : Nat) (v : Value), items[i]? = some v → ∃ t, v = .int ((fun i => ns.getD i 0) i) t := fun i v hv =>
          IntsAre.int_at hi i v (by rw [Array.getElem?_toList]; exact hv)
        refine set_loopR ((Walks.list hh3 _ l hneI items).toS) s.heap.objs.size hSf (fun i => ns.getD i 0) hval hb (items.size - 0) 0 _ (by omega) (Nat.zero_le _)
          ⟨⟨_, Heap.get?_push_size _ rfl, rfl, rfl⟩, (hl1.push _)⟩ ?hS0 ?hR
        case hS0 => exact hR0.at fun o e => Heap.get?_push_of_some _ e
        case hR =>
          intro s' hm hS'
          obtain ⟨h', g', d', tk', os'⟩ := s'
          have eg : g' = s.gens := hm.gens
          have ed : d' = s.drawn := hm.drawn
          have eo : os' = s.os := hm.os
          subst eg; subst ed; subst eo
          show wpAny _ _ _ _ _ _
          refine wpAny_pure ?_
          show wpAny _ _ (ret Value.none) _ _ _
          refine wpAny_pure ⟨rfl, h', tk', rfl, hS', fun b o hb e => ?_⟩
          have hb1 : b ≠ s.heap.objs.size := Nat.ne_of_lt hb
          have hb2 : b ≠ (s.heap.push { cls := .type "set", dict := none, data := .set #[] 0 (.fresh 0 0 led) }).objs.size := by
            rw [Heap.size_push]; exact Nat.ne_of_lt (Nat.lt_succ_of_lt hb)
          exact hm.heap b o (by simp only [List.mem_cons, List.mem_singleton, List.not_mem_nil, or_false, not_or]; exact ⟨hb1, hb2⟩) (Heap.get?_push_of_some _ (Heap.get?_push_of_some _ e))
      · cases r₂ with
        | error e => exact hr₂
        | ok fl₂ =>
          cases fl₂ with
          | ret r =>
            obtain ⟨rfl, h', tk, rfl, hS', hk'⟩ := hr₂
            repeat (any_goals (first | assumption | wp_step))
            exact h _ _ hS' hk'
          | _ => exact hr₂.elim
    | _ => exact hr.elim
end
end Sb

namespace Sb
open PySem PySem.Spec PyProof.Rows L2
def rSetLI (K : PySem.W.Frag) (w : World) : List V → Hp → VK → Prop := fun xs H Q => ∃ (a : Addr) (ns : List Int), xs = [.ref a] ∧ SqL K H a (ns.map V.int) ∧ ns.length + 1 < scanBound ∧
  ∀ (p : Addr) (S : Int → Bool) (n : Nat), H p = none → (∀ k, S k = true ↔ k ∈ ns) → n ≤ ns.length → (∀ ls : List Int, (∀ k ∈ ns, k ∈ ls) → n ≤ ls.length) → Q (.ref p) (upd H p (SetO w p S n))
theorem ints_vals : ∀ {ns : List Int} {its : List Value}, Vals (ns.map V.int) its → IntsAre its ns
  | [], _, h => by cases h; exact .nil
  | n :: ns, _, h => by
    cases h with
    | cons r t =>
      obtain ⟨tk, rfl⟩ := r
      exact .cons n tk (ints_vals t)
theorem getD_map : ∀ (ns : List Int), (List.range ns.length).map (fun i => ns.getD i 0) = ns := fun ns => by
  refine List.ext_getElem? fun i => ?_
  rw [List.getElem?_map]
  by_cases h : i < ns.length
  · rw [List.getElem?_range h, List.getElem?_eq_getElem h]
    show some (ns.getD i 0) = _
    rw [List.getD_eq_getElem?_getD, List.getElem?_eq_getElem h]
    rfl
  · rw [List.getElem?_eq_none (l := List.range ns.length) (by rw [List.length_range]; omega), List.getElem?_eq_none (l := ns) (by omega)]
    rfl
theorem nodup_le : ∀ {l m : List Int}, l.Nodup → (∀ k ∈ l, k ∈ m) → l.length ≤ m.length
  | [], _, _, _ => Nat.zero_le _
  | a :: l, m, h, hs => by
    obtain ⟨h1, h2⟩ := List.nodup_cons.mp h
    have ha := hs a (List.mem_cons_self ..)
    have ih := nodup_le (m := m.erase a) h2 fun k hk => (List.mem_erase_of_ne (fun e : k = a => h1 (by rw [← e]; exact hk))).mpr (hs k (List.mem_cons_of_mem _ hk))
    rw [List.length_erase_of_mem ha] at ih
    have : 0 < m.length := List.length_pos_of_mem ha
    rw [List.length_cons]
    omega
theorem firstMet_nd (val : Nat → Int) : ∀ i, (firstMet val i).Nodup
  | 0 => .nil
  | i + 1 => by
    rw [firstMet_succ]
    have ih := firstMet_nd val i
    unfold step_dedup
    split
    · exact ih
    · rename_i h
      refine List.nodup_append.mpr ⟨ih, List.nodup_cons.mpr ⟨fun z => (by cases z), .nil⟩, fun a ha b hb e => h ?_⟩
      rw [List.mem_singleton.mp hb] at e
      subst e
      exact List.any_eq_true.mpr ⟨_, ha, beq_self_eq_true _⟩
theorem firstMet_in (ns : List Int) {k : Int} (h : k ∈ firstMet (fun i => ns.getD i 0) ns.length) : k ∈ ns := by
  have z := firstMet_any (fun i => ns.getD i 0) ns.length k
  rw [getD_map] at z
  have z1 : (firstMet (fun i => ns.getD i 0) ns.length).any (· == k) = true := List.any_eq_true.mpr ⟨k, h, beq_self_eq_true k⟩
  rw [z1] at z
  obtain ⟨x, hx, e⟩ := List.any_eq_true.mp z.symm
  rw [← eq_of_beq e]
  exact hx
theorem call_setL {X : Cx} (hc : X.calm = true) : CallR X (.type "set") (rSetLI X.K X.w) := by
  intro pins s σ H xs us Q I r h
  obtain ⟨a, ns, rfl, hsq, hb, q⟩ := h
  rw [Vals.ref1 r]
  obtain ⟨its, rv, p1, _⟩ := I.list hsq
  have l1 := rv.length
  rw [List.length_map] at l1
  have hs : its.toArray.size = ns.length := by rw [List.size_toArray, ← l1]
  refine set_list (items := its.toArray) (ns := ns) (I.ok.hd hc) p1.isList (by simpa using ints_vals rv) (by rw [hs]; exact hb) fun h' tk hR hk => ?_
  rw [hs] at hR
  have J := I.laid (a := s.heap.objs.size) (t' := tk) (fun b o e => hk b o (Heap.lt_size e) e) (Nat.le_refl _) (setO_new (P := X.prog) hR (H := upd H s.heap.objs.size (SetO X.w s.heap.objs.size _ _)))
  refine ⟨.ref s.heap.objs.size, _, J, rfl, q _ _ _ (I.hok.fresh (Nat.le_refl _)) (fun k => ?_) (firstMet_length_le _ _) fun ls hls => nodup_le (firstMet_nd _ _) fun k hk => hls k (firstMet_in ns hk)⟩
  rw [firstMet_any, getD_map, List.any_eq_true]
  constructor
  · rintro ⟨x, hx, e⟩
    rw [← eq_of_beq e]
    exact hx
  · intro hk
    exact ⟨k, hk, beq_self_eq_true k⟩
theorem lt_uniq : ∀ {as bs : List Int}, as.Pairwise (· < ·) → bs.Pairwise (· < ·) → (∀ k, k ∈ as ↔ k ∈ bs) → as = bs
  | [], [], _, _, _ => rfl
  | [], b :: bs, _, _, h => absurd ((h b).mpr (List.mem_cons_self ..)) (by simp)
  | a :: as, [], _, _, h => absurd ((h a).mp (List.mem_cons_self ..)) (by simp)
  | a :: as, b :: bs, ha, hb, h => by
    obtain ⟨a1, a2⟩ := List.pairwise_cons.mp ha
    obtain ⟨b1, b2⟩ := List.pairwise_cons.mp hb
    have e : a = b := by
      rcases List.mem_cons.mp ((h a).mp (List.mem_cons_self ..)) with z | z
      · exact z
      · rcases List.mem_cons.mp ((h b).mpr (List.mem_cons_self ..)) with y | y
        · exact y.symm
        · have := a1 b y
          have := b1 a z
          omega
    subst e
    rw [lt_uniq a2 b2 fun k => ?_]
    constructor
    · intro hk
      rcases List.mem_cons.mp ((h k).mp (List.mem_cons_of_mem _ hk)) with z | z
      · subst z
        have := a1 k hk
        omega
      · exact z
    · intro hk
      rcases List.mem_cons.mp ((h k).mpr (List.mem_cons_of_mem _ hk)) with z | z
      · subst z
        have := b1 k hk
        omega
      · exact z
section
variable {K : PySem.W.Frag} {σ : L2.St} {G M H M0 : Hp} {w : World} {te : TE} {ns ms : List Int} {r : Addr} {n n' : Nat} {Φ : PyData → Prop}
theorem sortSet_run {v : V} {Q : VK} (A : At G M H) (rv : Rp K G (.list (dInts ns)) v) (hn : ns.length < 100 ∧ (ns.length < 64 ∨ ∃ ls : List Int, (∀ k ∈ ns, k ∈ ls) ∧ ls.length < 64)) (h1 : ms.Pairwise (· < ·)) (h2 : ∀ k, k ∈ ms ↔ k ∈ ns) (q : Res K G M (.list (dInts ms)) Q) :
    rSetLI K w [v] H fun x H1 => rSortedSet w [x] H1 Q := by
  obtain ⟨a, e, hv⟩ := Rp.li rv
  subst e
  refine ⟨a, ns, rfl, SqL.of (A.g _ _ hv), by have := hn.1; unfold scanBound; omega, fun p S m hp hS hm hm2 => ?_⟩
  have h64 : m < 64 := by
    rcases hn.2 with h | ⟨ls, h, h'⟩
    · omega
    · exact Nat.lt_of_le_of_lt (hm2 ls h) h'
  have A2 := A.ng (o := SetO w p S m) hp
  refine ⟨p, S, m, rfl, upd_same, h64, fun ls c l1 l2 l3 hc => ?_⟩
  have e : ls = ms := lt_uniq l1 h1 fun k => by rw [l2, hS, h2]
  subst e
  exact (q.mono (Ex.new (A.gNone hp))).newG A2 hc ⟨c, _, rfl, upd_same, (rpL_ints ls).mpr rfl⟩
theorem d_sortSet (h : TrD K te σ G (.list (dInts ns))) (hn : ns.length < 100 ∧ (ns.length < 64 ∨ ∃ ls : List Int, (∀ k ∈ ns, k ∈ ls) ∧ ls.length < 64)) (h1 : ms.Pairwise (· < ·)) (h2 : ∀ k, k ∈ ms ↔ k ∈ ns) :
    TrD K (tCB (rSortedSet w) (tCons (tCB (rSetLI K w) (tCons te tNil)) tNil)) σ G (.list (dInts ms)) := fun G1 M H e A Q q => by
  refine h G1 M H e A _ fun v G2 H2 e2 A2 rv => ?_
  exact sortSet_run A2 rv hn h1 h2 (q.mono e2)
theorem e_sortSet (h : TrE K r M0 te σ G n n' fun d => ∃ ns, d = .list (dInts ns) ∧ (ns.length < 100 ∧ (ns.length < 64 ∨ ∃ ls : List Int, (∀ k ∈ ns, k ∈ ls) ∧ ls.length < 64)) ∧ ∀ ms : List Int, ms.Pairwise (· < ·) → (∀ k, k ∈ ms ↔ k ∈ ns) → Φ (.list (dInts ms))) (hex : ∀ ns : List Int, ∃ ms : List Int, ms.Pairwise (· < ·) ∧ ∀ k, k ∈ ms ↔ k ∈ ns) :
    TrE K r M0 (tCB (rSortedSet w) (tCons (tCB (rSetLI K w) (tCons te tNil)) tNil)) σ G n n' Φ := fun G1 M H e A S R Q q => by
  refine h G1 M H e A S R _ fun d v G2 M2 H2 e2 A2 S2 R2 ⟨ns, hd, hn, hΦ⟩ rv => ?_
  subst hd
  obtain ⟨ms, h1, h2⟩ := hex ns
  exact sortSet_run A2 rv hn h1 h2 fun v4 G4 H4 e4 A4 r4 => q _ v4 G4 M2 H4 (e2.trans e4) A4 S2 R2 (hΦ ms h1 h2) r4
end
theorem ord_ex (ns : List Int) : ∃ ms : List Int, ms.Pairwise (· < ·) ∧ ∀ k, k ∈ ms ↔ k ∈ ns := by
  induction ns with
  | nil => exact ⟨[], .nil, fun k => Iff.rfl⟩
  | cons n ns ih =>
    obtain ⟨ms, h1, h2⟩ := ih
    refine ⟨ms.filter (· < n) ++ n :: ms.filter (n < ·), ?_, fun k => ?_⟩
    · refine List.pairwise_append.mpr ⟨h1.filter _, List.pairwise_cons.mpr ⟨fun a ha => ?_, h1.filter _⟩, fun a ha b hb => ?_⟩
      · simpa using (List.mem_filter.mp ha).2
      · have z1 : a < n := by simpa using (List.mem_filter.mp ha).2
        rcases List.mem_cons.mp hb with rfl | hb
        · exact z1
        · have z2 : n < b := by simpa using (List.mem_filter.mp hb).2
          omega
    · simp only [List.mem_append, List.mem_cons, List.mem_filter, h2, decide_eq_true_eq]
      constructor
      · rintro (⟨z, _⟩ | z | ⟨z, _⟩)
        · exact .inr z
        · exact .inl z
        · exact .inr z
      · rintro (z | z)
        · exact .inr (.inl z)
        · rcases Int.lt_trichotomy k n with y | y | y
          · exact .inl ⟨z, y⟩
          · exact .inr (.inl y)
          · exact .inr (.inr ⟨z, y⟩)
end Sb

namespace Sb
open PySem PySem.Spec PyProof.Rows L2
/-! ### a tuple of ints at the top -/
def intOf : Value → Option Int
  | .int i _ => some i
  | _ => none
def tupB (K : PySem.W.Frag) (x : Str) (ns : List Int) : Bool := match K.lookup (He.ga K x) with
  | some ⟨cls, _, .seq its _, _⟩ => decide (cls = .type "tuple") && (decide (its.toList.map intOf = ns.map some) && decide (ns.length ≤ 1000))
  | _ => false
theorem vals_intOf : ∀ {its : List Value} {ns : List Int}, its.map intOf = ns.map some → Vals (ns.map V.int) its
  | [], [], _ => .nil
  | [], _ :: _, h => by cases h
  | _ :: _, [], h => by cases h
  | v :: its, n :: ns, h => by
    rw [List.map_cons, List.map_cons] at h
    injection h with h1 h2
    refine .cons ?_ (vals_intOf h2)
    cases v <;> simp only [intOf] at h1 <;> first | cases h1; exact ⟨_, rfl⟩ | cases h1
theorem tupB_ok {K : PySem.W.Frag} {x : Str} {ns : List Int} (h : tupB K x ns = true) (H : Hp) : SqT K H (He.ga K x) (ns.map V.int) := by
  unfold tupB at h
  split at h
  · rename_i cls dct its n sl e
    obtain ⟨h1, h2⟩ := Bool.and_eq_true_iff.mp h
    obtain ⟨h2, h3⟩ := Bool.and_eq_true_iff.mp h2
    have hv := vals_intOf (of_decide_eq_true h2)
    have hl := hv.length
    rw [List.length_map] at hl
    have h3 := of_decide_eq_true h3
    refine .inr ⟨_, its, n, e, of_decide_eq_true h1, rfl, ?_, hv⟩
    have z : its.toList.length = its.size := Array.length_toList
    rw [sizeLine_eq]
    omega
  · cases h
theorem rp_tupB {K : PySem.W.Frag} {x : Str} {ns : List Int} (h : tupB K x ns = true) (G : Hp) : Rp K G (.tuple (dInts ns)) (.ref (He.ga K x)) := ⟨_, _, rfl, tupB_ok h G, (rpL_ints ns).mpr rfl⟩
/-! ### list(d.values()) -/
def tListVals (te : TE) : TE := fun σ H Q => te σ H fun x H1 => ∃ (d : Addr) (kvs : List (Key × V)), x = .ref d ∧ H1 d = some (.dK kvs) ∧ ∀ p, H1 p = none → Q (.ref p) (upd H1 p (.lst (kvs.map (·.2))))
section
variable {X : Cx} {e : Expr} {te : TE} {p apos cpos pos : Pos}
theorem kv_vals : ∀ {kvs : List (Key × V)} {vs : List (Key × Value)}, KV kvs vs → Vals (kvs.map (·.2)) (vs.map (·.2))
  | _, _, .nil => .nil
  | _, _, .cons h t => .cons h.2 (kv_vals t)
theorem pe_listVals (hc : X.calm = true) (he : PE X e te) (hg : Gl X "list") (hm : X.mg "list" = none) (hv : bootBuiltins "list" = some (.type "list")) (hbase : attributeBase e "values" X.env (eval e X.env) = eval e X.env := by rfl) (hline : (apos.endLine == cpos.line) = true := by rfl)
    (hs : starEach [.Call (.Attribute e "values" apos) [] [] cpos] X.env = (false, eval (.Call (.Attribute e "values" apos) [] [] cpos) X.env) :: starEach [] X.env := by rfl) :
    PE X (.Call (.Name "list" p) [.Call (.Attribute e "values" apos) [] [] cpos] [] pos) (tListVals te) := by
  refine ⟨fun pins s σ H Q I hq => ?_⟩
  refine wpAny_Call_Name_kw (ld_blt I hg hm hv ?_)
  refine PyProof.Rows.callWith_type1 ?_ hs rfl
  rw [hs]
  show wpAny _ _ (spliced ((false, eval (.Call (.Attribute e "values" apos) [] [] cpos) X.env) :: backTo pos (starEach [] X.env))) _ _ s
  refine Calls.spliced_cons ?_
  refine wpAny_Call_method (T := "dict") (id := "dict.values") hbase rfl hline PySem.F.plainAttrs_dict PySem.F.slot_dict_values PySem.F.type_dict_values (thn (he.run pins s σ H _ I hq) fun u s1 ⟨x, H1, I1, rx, d, kvs, ex, hd, q⟩ => ?_)
  subst ex
  obtain rfl : u = Value.ref d := rx
  obtain ⟨hz, hs0, vs, kv, hdo⟩ := I1.hok d _ hd
  obtain ⟨ep, hat⟩ := hdo.dictAt
  have lk : kvs.length = vs.length := Paired.length kv
  have I2 : Inv X pins σ H1 { s1 with heap := s1.heap.push { cls := .type "dict_values", data := .fields #[.ref d] } } := I1.kept (t' := s1.toks) fun b ob q => Heap.get?_push_of_some _ q
  refine ⟨hdo.typeIs, hdo.mapOf.noDict, ?_⟩
  show wpAny _ _ (callWith cpos (.builtin "dict.values") [.ref d] [] []) _ X.xe s1
  refine PySem.method_meetsIn PySem.F.slot_dict_values PySem.F.entry_dict_values rfl (PySem.evalArgs_none ⟨rfl, hdo.typeIs, PySem.F.args_dict_values_1 _, _, meets_dict_values (mixKind X.prog X.w) d hs0, ⟨vs, hdo⟩, ?_⟩)
  refine Calls.spliced_nil ?_
  refine PySem.W.kdl_call (PySem.W.kdl_values (knd := mixKind X.prog X.w) (kvs := vs) (ep := ep) (r := s1.heap.objs.size) (d := d)) (I1.ok.hd hc) ⟨⟨_, Heap.get?_push_size _ rfl, rfl, rfl⟩, hat.push _⟩ (by omega) fun h' tk acc c hk hS hit => ?_
  have hacc : acc.toList = vs.map (·.2) := PySem.W.kdl_vals_eq acc.toList (by rw [Array.length_toList]; exact hit.1) fun j v hj => hit.2 j v (by rw [← Array.getElem?_toList]; exact hj)
  have hvs : Vals (kvs.map (·.2)) acc.toList := by rw [hacc]; exact kv_vals kv
  have J := I2.laid (t' := tk) (a := (s1.heap.push { cls := .type "dict_values", data := .fields #[.ref d] }).objs.size) (o := .lst (kvs.map (·.2))) hk (Nat.le_refl _) ⟨by rw [List.length_map]; omega, acc.toList, c, hvs, by rw [Array.toArray_toList]; exact hS⟩
  exact ⟨.ref _, _, J, rfl, q _ (I2.hok.fresh (Nat.le_refl _))⟩
end
section
variable {K : PySem.W.Frag} {σ : L2.St} {G M H : Hp} {te : TE} {ds : List PyData} {D : Ends} {g : TG} {tbd : TS}
theorem rpd_vals : ∀ {l : List (PyData × PyData)} {es : List (Key × V)}, RpD K G l es → RpL K G (l.map (·.2)) (es.map (·.2))
  | [], es, h => by rw [show es = [] from h]; rfl
  | (k, d) :: l, _, ⟨x, y, t, e, h1, h2, h3⟩ => by
    rw [e]
    exact ⟨y, t.map (·.2), rfl, h2, rpd_vals h3⟩
theorem d_listVals {l : List (PyData × PyData)} (h : TrD K te σ G (.dict l)) : TrD K (tListVals te) σ G (.list (l.map (·.2))) := fun G1 M H e A Q q => by
  refine h G1 M H e A _ fun v G2 H2 e2 A2 r => ?_
  obtain ⟨a, es, rfl, ga, res⟩ := r
  refine ⟨a, es, rfl, A2.g _ _ ga, fun p hp => ?_⟩
  exact (q.mono e2).newG A2 hp ⟨p, _, rfl, upd_same, (rpd_vals res).up (Ex.new (A2.gNone hp))⟩
/-- for g in a list, g any target -/
theorem s_forG (Inv : Nat → L2.St → Hp → Hp → Prop) (h : TrD K te σ G (.list ds)) (A : At G M H) (mono : ∀ {k : Nat} {σ1 : L2.St} {G1 G2 M1 : Hp}, Ex G1 G2 → Inv k σ1 G1 M1 → Inv k σ1 G2 M1)
    (h0 : Inv 0 σ G M)
    (hb : ∀ (k : Nat) d, ds[k]? = some d → ∀ x σ1 G1 M1 H1, Ex G G1 → At G1 M1 H1 → Inv k σ1 G1 M1 → Rp K G1 d x → ∀ Nx : L2.St → Hp → Prop, (∀ σ2 G2 M2 H2, Ex G1 G2 → At G2 M2 H2 → Inv (k + 1) σ2 G2 M2 → Nx σ2 H2) →
      g x σ1 H1 fun σ2 H2 => tbd { D with nx := Nx, ct := Nx, bk := D.nx } σ2 H2)
    (hd : ∀ σ1 G1 M1 H1, Ex G G1 → At G1 M1 H1 → Inv ds.length σ1 G1 M1 → D.nx σ1 H1) :
    tFor (iList K te) g tbd D σ H := by
  refine w_D h A fun v G2 H2 e2 A2 r => ?_
  obtain ⟨a, xs, rfl, k1, k2⟩ := r
  refine ⟨a, rfl, ⟨xs, SqL.of (A2.g _ _ k1)⟩, ?_⟩
  refine for_list (K := K) (a := a) (xs := xs) (fun t σ' H' => ∃ G3 M3, Ex G2 G3 ∧ At G3 M3 H' ∧ Inv t σ' G3 M3) ⟨G2, M, Ex.refl _, A2, mono e2 h0⟩ ?_ ?_ ?_
  · rintro t σ' H' _ ⟨G3, M3, e3, A3, _⟩
    exact SqL.of (A3.g _ _ (e3 _ _ k1))
  · rintro t x σ' H' hx ⟨G3, M3, e3, A3, hI⟩
    obtain ⟨d, hd1, rd⟩ := k2.get hx
    exact hb t d hd1 _ _ _ _ _ (e2.trans e3) A3 hI (rd.up e3) _ fun σ5 G5 M5 H5 e5 A5 i5 => ⟨G5, M5, e3.trans e5, A5, i5⟩
  · rintro σ' H' ⟨G3, M3, e3, A3, hI⟩
    rw [k2.len] at hI
    exact hd σ' G3 M3 H' (e2.trans e3) A3 hI
end
end Sb

namespace Sb
open PySem PySem.Spec PyProof.Rows L2 RZ
/-! ### zip of a tuple and a list -/
section
variable {prog : Program} {w : World} {A : Around} {E : Value → Shared → Prop} {s : Shared}
theorem zipM_next_item {z TI TO i1 i2 l1 l2 : Addr} {k1 k2 : Nat} {xs ys : Array Value} {x y a b : Value} {Q : Value → Shared → Prop} (D : ZipApart z TI TO i1 i2 l1 l2)
    (hz : IsZip s.heap z TI TO .none) (hTI : IsPair s.heap TI (.ref i1) (.ref i2)) (hTO : IsPair s.heap TO a b)
    (h1 : s.heap.IsTupleIter i1 l1 k1) (h2 : s.heap.IsListIter i2 l2 k2) (hl1 : s.heap.IsTuple l1 xs) (hl2 : s.heap.IsList l2 ys) (hx : xs[k1]? = some x) (hy : ys[k2]? = some y)
    (hQ : ∀ h', IsZip h' z TI TO (rawInt s.heap.objs.size) → IsPair h' TO x y → h'.IsTupleIter i1 l1 (k1 + 1) → h'.IsListIter i2 l2 (k2 + 1) → IsPair h' s.heap.objs.size x y → h'.objs.size = s.heap.objs.size + 1 →
      (∀ c o, c ≠ z → c ≠ TO → c ≠ i1 → c ≠ i2 → s.heap.get? c = some o → h'.get? c = some o) → Q (.ref s.heap.objs.size) { s with heap := h' }) :
    wpAny (model prog w) A (Builtin.«zip.__next__» ⟨[.ref z], []⟩) (fun fin s' => ∃ v, fin = .done (.ret v) ∧ Q v s') E s := by
  show wpAny _ _ (field (.ref z) 2 >>= _) _ _ _
  refine wpAny_bind (wpAny_field hz rfl (x := .bool false) rfl ?_)
  show wpAny _ _ (field (.ref z) 3 >>= _) _ _ _
  refine wpAny_bind (wpAny_field hz rfl (x := .ref TI) rfl ?_)
  refine wpAny_bind (wpAny_seqItems hTI rfl ?_)
  show wpAny _ _ (Builtin.SmallTypes.ownedTupleIsFree (.ref z) >>= _) _ _ _
  refine wpAny_bind ?_
  unfold Builtin.SmallTypes.ownedTupleIsFree
  refine wpAny_bind (wpAny_field hz rfl (x := .none) rfl (wpAny_pure ?_))
  simp only [if_true]
  refine wpAny_bind (wpAny_rule ?_)
  refine wpAny_bind (wpAny_field hz rfl (x := .ref TO) rfl ?_)
  refine wpAny_bind (wpAny_setField_rec hz (by simp) fun h₁ hz₁ hs₁ => ?_)
  replace hz₁ : IsZip h₁ z TI TO .ellipsis := hz₁
  refine wpAny_bind ?_
  simp only [List.zipIdx_cons, List.zipIdx_nil, List.forIn_cons, List.forIn_nil]

  refine wpAny_bind (wpAny_bind (wpAny_onRaise ?_))
  show wpAny _ _ (Builtin.SmallTypes.nextOf (.ref i1) >>= _) _ _ _
  refine wpAny_bind (nextOf_tuple_item (h1.extBut hs₁.extBut D.i1z) (hl1.extBut hs₁.extBut D.l1z) hx fun h₂ h1₂ hs₂ => wpAny_pure ?_)
  have hTO₂ : IsPair h₂ TO a b := hs₂.extBut _ _ D.TOi1 (hs₁.extBut _ _ D.TOz hTO)
  refine wpAny_bind (wpAny_seqItems hTO₂ rfl ?_)
  refine wpAny_bind (wpAny_updateSeq_pair hTO₂ fun h₃ hTO₃ hs₃ => ?_)
  replace hTO₃ : IsPair h₃ TO x b := hTO₃
  refine wpAny_bind (wpAny_letGo (wpAny_pure ?_))

  refine wpAny_bind (wpAny_bind (wpAny_onRaise ?_))
  show wpAny _ _ (Builtin.SmallTypes.nextOf (.ref i2) >>= _) _ _ _
  refine wpAny_bind (wpAny_nextOf_list_item (s := { s with heap := h₃ }) (((h2.extBut hs₁.extBut D.i2z).extBut hs₂.extBut D.i12.symm).extBut hs₃.extBut D.TOi2.symm)
    (((hl2.extBut hs₁.extBut D.l2z).extBut hs₂.extBut D.l2i1).extBut hs₃.extBut D.l2TO) hy fun h₄ h2₄ hs₄ => wpAny_pure ?_)
  have hTO₄ : IsPair h₄ TO x b := hs₄.extBut _ _ D.TOi2 hTO₃
  refine wpAny_bind (wpAny_seqItems hTO₄ rfl ?_)
  refine wpAny_bind (wpAny_updateSeq_pair hTO₄ fun h₅ hTO₅ hs₅ => ?_)
  replace hTO₅ : IsPair h₅ TO x y := hTO₅
  refine wpAny_bind (wpAny_letGo (wpAny_pure (wpAny_pure ?_)))

  refine wpAny_bind (wpAny_seqItems hTO₅ rfl ?_)
  refine wpAny_bind (wpAny_newTuple ?_)
  have hsz : h₅.objs.size = s.heap.objs.size := by rw [hs₅.1, hs₄.1, hs₃.1, hs₂.1, hs₁.1]
  have hz₅ : IsZip h₅ z TI TO .ellipsis := hs₅.extBut _ _ D.TOz.symm (hs₄.extBut _ _ D.i2z.symm (hs₃.extBut _ _ D.TOz.symm (hs₂.extBut _ _ D.i1z.symm hz₁)))
  have hk₅ : ∀ c o, c ≠ z → c ≠ TO → c ≠ i1 → c ≠ i2 → s.heap.get? c = some o → h₅.get? c = some o := fun c o c1 c2 c3 c4 e =>
    hs₅.extBut _ _ c2 (hs₄.extBut _ _ c4 (hs₃.extBut _ _ c2 (hs₂.extBut _ _ c3 (hs₁.extBut _ _ c1 e))))
  have h1₅ : h₅.IsTupleIter i1 l1 (k1 + 1) := ((h1₂.extBut hs₃.extBut D.TOi1.symm).extBut hs₄.extBut D.i12).extBut hs₅.extBut D.TOi1.symm
  have h2₅ : h₅.IsListIter i2 l2 (k2 + 1) := h2₄.extBut hs₅.extBut D.TOi2.symm
  have hzlt : z < h₅.objs.size := Heap.lt_size hz₅
  have hTOlt : TO < h₅.objs.size := Heap.lt_size hTO₅
  have hi1lt : i1 < h₅.objs.size := by obtain ⟨_, e, _⟩ := h1₅; exact Heap.lt_size e
  have hi2lt : i2 < h₅.objs.size := by obtain ⟨_, e, _⟩ := h2₅; exact Heap.lt_size e
  show wpAny _ _ (Builtin.SmallTypes.ownedTupleHandOut (.ref z) (.ref h₅.objs.size) >>= _) _ _ _
  refine wpAny_bind ?_
  unfold Builtin.SmallTypes.ownedTupleHandOut
  have hz₆ : IsZip (h₅.push { cls := .type "tuple", data := .seq #[x, y] }) z TI TO .ellipsis := Heap.get?_push_of_some _ hz₅
  refine wpAny_bind (wpAny_setField_rec hz₆ (by simp) fun h₇ hz₇ hs₇ => ?_)
  replace hz₇ : IsZip h₇ z TI TO (rawInt h₅.objs.size) := hz₇
  refine wpAny_setField_rec hz₇ (by simp) fun h₈ hz₈ hs₈ => ?_
  replace hz₈ : IsZip h₈ z TI TO (rawInt h₅.objs.size) := hz₈
  have up : ∀ c o, c ≠ z → h₅.get? c = some o → h₈.get? c = some o := fun c o c1 e => hs₈.extBut _ _ c1 (hs₇.extBut _ _ c1 (Heap.get?_push_of_some _ e))
  have hT₈ : IsPair h₈ h₅.objs.size x y := hs₈.extBut _ _ (Nat.ne_of_gt hzlt) (hs₇.extBut _ _ (Nat.ne_of_gt hzlt) (Heap.get?_push_size _ rfl))
  have hz8 : h₈.objs.size = h₅.objs.size + 1 := by rw [hs₈.1, hs₇.1, Heap.size_push]
  rw [hsz] at hz₈ hT₈ hz8
  refine wpAny_pure ⟨_, rfl, ?_⟩
  show Q (.ref h₅.objs.size) _
  rw [hsz]
  exact hQ h₈ hz₈ (up _ _ D.TOz hTO₅) (h1₅.at fun o e => up _ o D.i1z e) (h2₅.at fun o e => up _ o D.i2z e) hT₈ hz8 fun c o c1 c2 c3 c4 e => up c o c1 (hk₅ c o c1 c2 c3 c4 e)

theorem zipM_next_end {z TI TO i1 i2 l1 l2 : Addr} {k1 k2 : Nat} {xs ys : Array Value} {a b : Value} {Q : Fin → Shared → Prop} (hh : A.handled = none) (D : ZipApart z TI TO i1 i2 l1 l2)
    (hz : IsZip s.heap z TI TO .none) (hTI : IsPair s.heap TI (.ref i1) (.ref i2)) (hTO : IsPair s.heap TO a b)
    (h1 : s.heap.IsTupleIter i1 l1 k1) (h2 : s.heap.IsListIter i2 l2 k2) (hl1 : s.heap.IsTuple l1 xs) (hl2 : s.heap.IsList l2 ys) (hend : xs[k1]? = none ∨ ys[k2]? = none)
    (hE : ∀ h' e, (∀ c o, c ≠ z → c ≠ TO → c ≠ i1 → c ≠ i2 → s.heap.get? c = some o → h'.get? c = some o) → (∃ o, h'.get? e = some o ∧ o.cls = .type "StopIteration") → E (.ref e) { s with heap := h' }) :
    wpAny (model prog w) A (Builtin.«zip.__next__» ⟨[.ref z], []⟩) Q E s := by
  show wpAny _ _ (field (.ref z) 2 >>= _) _ _ _
  refine wpAny_bind (wpAny_field hz rfl (x := .bool false) rfl ?_)
  show wpAny _ _ (field (.ref z) 3 >>= _) _ _ _
  refine wpAny_bind (wpAny_field hz rfl (x := .ref TI) rfl ?_)
  refine wpAny_bind (wpAny_seqItems hTI rfl ?_)
  show wpAny _ _ (Builtin.SmallTypes.ownedTupleIsFree (.ref z) >>= _) _ _ _
  refine wpAny_bind ?_
  unfold Builtin.SmallTypes.ownedTupleIsFree
  refine wpAny_bind (wpAny_field hz rfl (x := .none) rfl (wpAny_pure ?_))
  simp only [if_true]
  refine wpAny_bind (wpAny_rule ?_)
  refine wpAny_bind (wpAny_field hz rfl (x := .ref TO) rfl ?_)
  refine wpAny_bind (wpAny_setField_rec hz (by simp) fun h₁ hz₁ hs₁ => ?_)
  replace hz₁ : IsZip h₁ z TI TO .ellipsis := hz₁
  refine wpAny_bind ?_
  simp only [List.zipIdx_cons, List.zipIdx_nil, List.forIn_cons, List.forIn_nil]
  refine wpAny_bind (wpAny_bind (wpAny_onRaise ?_))
  show wpAny _ _ (Builtin.SmallTypes.nextOf (.ref i1) >>= _) _ _ _
  cases hx : xs[k1]? with
  | none =>
    refine wpAny_bind (nextOf_tuple_end hh (h1.extBut hs₁.extBut D.i1z) (hl1.extBut hs₁.extBut D.l1z) hx fun h₂ e hs₂ he => ?_)
    obtain ⟨oe, hoe, hce⟩ := he
    have hz₂ : IsZip h₂ z TI TO .ellipsis := hs₂ _ _ D.i1z.symm hz₁
    have hez : e ≠ z := fun x => by subst x; rw [hz₂] at hoe; cases hoe; simp at hce
    refine wpAny_setField_rec hz₂ (by simp) fun h₃ _ hs₃ => hE h₃ e (fun c o c1 _ c3 _ x => hs₃.extBut _ _ c1 (hs₂ _ _ c3 (hs₁.extBut _ _ c1 x))) ⟨oe, hs₃.extBut _ _ hez hoe, hce⟩
  | some x =>
    have hy : ys[k2]? = none := by rcases hend with h | h; rw [hx] at h; cases h; exact h
    refine wpAny_bind (nextOf_tuple_item (h1.extBut hs₁.extBut D.i1z) (hl1.extBut hs₁.extBut D.l1z) hx fun h₂ h1₂ hs₂ => wpAny_pure ?_)
    have hTO₂ : IsPair h₂ TO a b := hs₂.extBut _ _ D.TOi1 (hs₁.extBut _ _ D.TOz hTO)
    refine wpAny_bind (wpAny_seqItems hTO₂ rfl ?_)
    refine wpAny_bind (wpAny_updateSeq_pair hTO₂ fun h₃ hTO₃ hs₃ => ?_)
    refine wpAny_bind (wpAny_letGo (wpAny_pure ?_))
    refine wpAny_bind (wpAny_bind (wpAny_onRaise ?_))
    show wpAny _ _ (Builtin.SmallTypes.nextOf (.ref i2) >>= _) _ _ _
    refine wpAny_bind (wpAny_nextOf_list_end (s := { s with heap := h₃ }) hh (((h2.extBut hs₁.extBut D.i2z).extBut hs₂.extBut D.i12.symm).extBut hs₃.extBut D.TOi2.symm)
      (((hl2.extBut hs₁.extBut D.l2z).extBut hs₂.extBut D.l2i1).extBut hs₃.extBut D.l2TO) hy fun h₄ e hs₄ he => ?_)
    obtain ⟨oe, hoe, hce⟩ := he
    have hz₄ : IsZip h₄ z TI TO .ellipsis := hs₄ _ _ D.i2z.symm (hs₃.extBut _ _ D.TOz.symm (hs₂.extBut _ _ D.i1z.symm hz₁))
    have hez : e ≠ z := fun x => by subst x; rw [hz₄] at hoe; cases hoe; simp at hce
    refine wpAny_setField_rec hz₄ (by simp) fun h₅ _ hs₅ => hE h₅ e (fun c o c1 c2 c3 c4 x => hs₅.extBut _ _ c1 (hs₄ _ _ c4 (hs₃.extBut _ _ c2 (hs₂.extBut _ _ c3 (hs₁.extBut _ _ c1 x))))) ⟨oe, hs₅.extBut _ _ hez hoe, hce⟩

theorem pyNext_zipM_item {z TI TO i1 i2 l1 l2 : Addr} {k1 k2 : Nat} {xs ys : Array Value} {x y a b : Value} {Q : Option Value → Shared → Prop} (D : ZipApart z TI TO i1 i2 l1 l2)
    (hz : IsZip s.heap z TI TO .none) (hTI : IsPair s.heap TI (.ref i1) (.ref i2)) (hTO : IsPair s.heap TO a b)
    (h1 : s.heap.IsTupleIter i1 l1 k1) (h2 : s.heap.IsListIter i2 l2 k2) (hl1 : s.heap.IsTuple l1 xs) (hl2 : s.heap.IsList l2 ys) (hx : xs[k1]? = some x) (hy : ys[k2]? = some y)
    (hQ : ∀ h', IsZip h' z TI TO (rawInt s.heap.objs.size) → IsPair h' TO x y → h'.IsTupleIter i1 l1 (k1 + 1) → h'.IsListIter i2 l2 (k2 + 1) → IsPair h' s.heap.objs.size x y → h'.objs.size = s.heap.objs.size + 1 →
      (∀ c o, c ≠ z → c ≠ TO → c ≠ i1 → c ≠ i2 → s.heap.get? c = some o → h'.get? c = some o) → Q (some (.ref s.heap.objs.size)) { s with heap := h' }) :
    wpAny (model prog w) A (pyNext (.ref z)) Q E s := by
  have hT : s.TypeIs (.ref z) "zip" := ⟨_, hz, rfl⟩
  unfold pyNext
  exact wpAny_bind (wpAny_attempt (wpAny_callSpecial?_slot (name := Str.ofString "__next__") hT F.slot_zip_next
    (wpAny_call_entry F.slot_zip_next hT F.entry_zip_next
      (zipM_next_item D hz hTI hTO h1 h2 hl1 hl2 hx hy fun h' a1 a2 a3 a4 a5 a6 a7 => wpAny_pure (hQ h' a1 a2 a3 a4 a5 a6 a7)) (F.args_zip_next_1 _))))

theorem pyNext_zipM_end {z TI TO i1 i2 l1 l2 : Addr} {k1 k2 : Nat} {xs ys : Array Value} {a b : Value} {Q : Option Value → Shared → Prop} (hh : A.handled = none) (D : ZipApart z TI TO i1 i2 l1 l2)
    (hz : IsZip s.heap z TI TO .none) (hTI : IsPair s.heap TI (.ref i1) (.ref i2)) (hTO : IsPair s.heap TO a b)
    (h1 : s.heap.IsTupleIter i1 l1 k1) (h2 : s.heap.IsListIter i2 l2 k2) (hl1 : s.heap.IsTuple l1 xs) (hl2 : s.heap.IsList l2 ys) (hend : xs[k1]? = none ∨ ys[k2]? = none)
    (hQ : ∀ h', (∀ c o, c ≠ z → c ≠ TO → c ≠ i1 → c ≠ i2 → s.heap.get? c = some o → h'.get? c = some o) → Q none { s with heap := h' }) : wpAny (model prog w) A (pyNext (.ref z)) Q E s := by
  have hT : s.TypeIs (.ref z) "zip" := ⟨_, hz, rfl⟩
  unfold pyNext
  refine wpAny_bind (wpAny_attempt (wpAny_callSpecial?_slot (name := Str.ofString "__next__") hT F.slot_zip_next
    (wpAny_call_entry F.slot_zip_next hT F.entry_zip_next (zipM_next_end hh D hz hTI hTO h1 h2 hl1 hl2 hend fun h' e hk he => ?_) (F.args_zip_next_1 _))))
  obtain ⟨o, ho, hc⟩ := he
  refine wpAny_bind (wpAny_isInstance (T := "StopIteration") (b := true) ⟨o, ho, hc⟩ isSubtype_stop ?_)
  exact wpAny_pure (hQ _ hk)
end

abbrev zipMH1 (h : Heap) (l1 : Addr) : Heap := h.push { cls := .type "tuple_iterator", data := .fields #[.ref l1, .int 0 0] }
abbrev zipMH2 (h : Heap) (l1 l2 : Addr) : Heap := (zipMH1 h l1).push { cls := .type "list_iterator", data := .fields #[.ref l2, .int 0 0] }
abbrev zipMH3 (h : Heap) (l1 l2 : Addr) : Heap := (zipMH2 h l1 l2).push { cls := .type "tuple", data := .seq #[.ref h.objs.size, .ref (zipMH1 h l1).objs.size] }
abbrev zipMH4 (h : Heap) (l1 l2 : Addr) : Heap := (zipMH3 h l1 l2).push { cls := .type "tuple", data := .seq #[.none, .none] }
abbrev zipMH5 (h : Heap) (l1 l2 : Addr) : Heap := (zipMH4 h l1 l2).push { cls := .type "zip", data := .fields #[.none, .bool false, .bool false, .ref (zipMH2 h l1 l2).objs.size, .ref (zipMH3 h l1 l2).objs.size] }

theorem meets_zipM_new (l1 l2 : Addr) (xs ys : Array Value) :
    Meets (Builtin.«zip.__new__» ⟨[.type "zip", .ref l1, .ref l2], []⟩) (fun _ R s => s.heap.IsTuple l1 xs ∧ s.heap.IsList l2 ys ∧
      R (.ok (.ret (.ref (zipMH4 s.heap l1 l2).objs.size))) { s with heap := zipMH5 s.heap l1 l2 }) :=
  .of_wp fun prog w A R s h => by
    obtain ⟨hp, g, d, tk, os⟩ := s; obtain ⟨hl1, hl2, h⟩ := h
    have hsub := sub_zip
    have hL1 : Heap.IsTuple (Shared.heap ⟨hp, g, d, tk, os⟩) l1 xs := hl1
    have hL2 : Heap.IsList (Shared.heap ⟨hp.push { cls := .type "tuple_iterator", data := .fields #[.ref l1, .int 0 0] }, g, d, tk, os⟩) l2 ys := Heap.IsList.push hl2 _
    wp_walk using wpAny_pyIter_tuple hL1, wpAny_pyIter_list hL2
    exact ⟨_, rfl, h⟩

section
variable {prog : Program} {w : World} {A : Around} {E : Value → Shared → Prop} {s : Shared}

theorem call_zipM {l1 l2 : Addr} {xs ys : Array Value} {Q : Value → Shared → Prop} (hl1 : s.heap.IsTuple l1 xs) (hl2 : s.heap.IsList l2 ys)
    (h : ∀ h', IsZip h' (s.heap.objs.size + 4) (s.heap.objs.size + 2) (s.heap.objs.size + 3) .none → IsPair h' (s.heap.objs.size + 2) (.ref s.heap.objs.size) (.ref (s.heap.objs.size + 1)) →
      IsPair h' (s.heap.objs.size + 3) .none .none → h'.IsTupleIter s.heap.objs.size l1 0 → h'.IsListIter (s.heap.objs.size + 1) l2 0 → h'.objs.size = s.heap.objs.size + 5 →
      (∀ c o, s.heap.get? c = some o → h'.get? c = some o) → Q (.ref (s.heap.objs.size + 4)) { s with heap := h' }) :
    wpAny (model prog w) A (call (.type "zip") [.ref l1, .ref l2]) Q E s := by
  refine callType_new F.called_zip (by decide) (F.typeCall_zip_2 _ _) (F.newCall_zip_2 _ _) (fun obj => F.args_object_init_3 obj _ _) F.entry_zip_new
    (meets_zipM_new l1 l2 xs ys) ⟨hl1, hl2, ?_⟩
  have z1 : (zipMH1 s.heap l1).objs.size = s.heap.objs.size + 1 := Heap.size_push ..
  have z2 : (zipMH2 s.heap l1 l2).objs.size = s.heap.objs.size + 2 := by rw [Heap.size_push, z1]
  have z3 : (zipMH3 s.heap l1 l2).objs.size = s.heap.objs.size + 3 := by rw [Heap.size_push, z2]
  have z4 : (zipMH4 s.heap l1 l2).objs.size = s.heap.objs.size + 4 := by rw [Heap.size_push, z3]
  have z5 : (zipMH5 s.heap l1 l2).objs.size = s.heap.objs.size + 5 := by rw [Heap.size_push, z4]
  have g5 : (zipMH5 s.heap l1 l2).get? (zipMH4 s.heap l1 l2).objs.size = some _ := Heap.get?_push_size _ rfl
  have g4 : (zipMH5 s.heap l1 l2).get? (zipMH3 s.heap l1 l2).objs.size = some _ := Heap.get?_push_of_some _ (Heap.get?_push_size _ rfl)
  have g3 : (zipMH5 s.heap l1 l2).get? (zipMH2 s.heap l1 l2).objs.size = some _ := Heap.get?_push_of_some _ (Heap.get?_push_of_some _ (Heap.get?_push_size _ rfl))
  have g2 : (zipMH5 s.heap l1 l2).get? (zipMH1 s.heap l1).objs.size = some _ := Heap.get?_push_of_some _ (Heap.get?_push_of_some _ (Heap.get?_push_of_some _ (Heap.get?_push_size _ rfl)))
  have g1 : (zipMH5 s.heap l1 l2).get? s.heap.objs.size = some _ := Heap.get?_push_of_some _ (Heap.get?_push_of_some _ (Heap.get?_push_of_some _ (Heap.get?_push_of_some _ (Heap.get?_push_size _ rfl))))
  show _ ∧ _
  rw [z2, z3, z4] at g5
  rw [z1, z2] at g3
  rw [z3] at g4
  rw [z1] at g2
  rw [z4]
  exact ⟨⟨_, g5, rfl⟩, h _ g5 g3 g4 ⟨_, g1, rfl, rfl⟩ ⟨_, g2, rfl, rfl⟩ z5 fun c o x =>
    Heap.get?_push_of_some _ (Heap.get?_push_of_some _ (Heap.get?_push_of_some _ (Heap.get?_push_of_some _ (Heap.get?_push_of_some _ x))))⟩
end
def ItzM (K : PySem.W.Frag) (a b : Addr) : It :=
  ⟨fun i H => ∃ (xs ys : List V) (x y : V), SqT K H a xs ∧ SqL K H b ys ∧ xs[i]? = some x ∧ ys[i]? = some y,
    fun i H v H' => ∃ T x y, v = .ref T ∧ H T = none ∧ H' = upd H T (.tup [x, y]) ∧ (∀ xs, SqT K H a xs → xs[i]? = some x) ∧ ∀ ys, SqL K H b ys → ys[i]? = some y,
    fun i H => ∃ xs ys : List V, SqT K H a xs ∧ SqL K H b ys ∧ (xs.length ≤ i ∨ ys.length ≤ i)⟩
theorem turn_zipM {P : Program} {w : World} {K : PySem.W.Frag} {elts : List Expr} {kk : Nat} {tpos : Pos} {a b z TI TO i1 i2 : Addr} (D : ZipApart z TI TO i1 i2 a b) :
    Turn P w K (.Tuple elts kk tpos) (ItzM K a b) [z, TI, TO, i1, i2] z (fun i h => IsZip h z TI TO .none ∧ IsPair h TI (.ref i1) (.ref i2) ∧ (∃ x y, IsPair h TO x y) ∧ h.IsTupleIter i1 a i ∧ h.IsListIter i2 b i) where
  mem := by simp
  obj := fun i h st c hc => by
    obtain ⟨hz, hTI, ⟨x, y, hTO⟩, ⟨o1, e1, _, d1⟩, ⟨o2, e2, _, d2⟩⟩ := st
    have e' : c = z ∨ c = TI ∨ c = TO ∨ c = i1 ∨ c = i2 := by simpa using hc
    rcases e' with q | q | q | q | q
    · rw [q]; exact ⟨_, hz, fun v q => nomatch q⟩
    · rw [q]; exact ⟨_, hTI, fun v q => nomatch q⟩
    · rw [q]; exact ⟨_, hTO, fun v q => nomatch q⟩
    · rw [q]; exact ⟨o1, e1, fun v q => by rw [d1] at q; cases q⟩
    · rw [q]; exact ⟨o2, e2, fun v q => by rw [d2] at q; cases q⟩
  keep := fun i h h' st k => by
    obtain ⟨hz, hTI, ⟨x, y, hTO⟩, h1, h2⟩ := st
    exact ⟨k z (by simp) _ hz, k TI (by simp) _ hTI, ⟨x, y, k TO (by simp) _ hTO⟩, h1.at fun o q => k i1 (by simp) o q, h2.at fun o q => k i2 (by simp) o q⟩
  item := by
    intro X hP hw hK hc i pins s σ H E I hf st hg
    subst hP hw hK
    obtain ⟨hz, hTI, ⟨x0, y0, hTO⟩, h1, h2⟩ := st
    obtain ⟨xs, ys, x, y, hqx, hqy, hx, hy⟩ := hg
    obtain ⟨its, rv, p, _⟩ := I.tuple hqx
    obtain ⟨its2, rv2, p2, _⟩ := I.list hqy
    obtain ⟨u, hu, ru⟩ := rv.get hx
    obtain ⟨u2, hu2, ru2⟩ := rv2.get hy
    have hzl : z < s.heap.objs.size := Heap.lt_size hz
    refine pyNext_zipM_item D hz hTI hTO h1 h2 p p2.isList (x := u) (y := u2) (by simpa using hu) (by simpa using hu2) fun h' z' TO' h1' h2' hT hsz hk => ?_
    refine ⟨_, rfl, wpAny_letOwnedTupleGo_zip (s := { s with heap := h' }) z' fun h'' z'' sb => ?_⟩
    have hT2 : h''.get? s.heap.objs.size = some { cls := .type "tuple", data := .seq #[u, u2] } := (sb.2 _ (Nat.ne_of_gt hzl)).trans hT
    have new : ObjOk X.prog X.w (upd H s.heap.objs.size (.tup [x, y])) h'' s.heap.objs.size (.tup [x, y]) :=
      ⟨by show 2 ≤ sizeLine; decide, [u, u2], .cons ru (.cons ru2 .nil), ⟨_, hT2, rfl, _, rfl⟩⟩
    have I1 : Inv X pins σ (upd H s.heap.objs.size (.tup [x, y])) { s with heap := h'' } :=
      I.turnedNew (t' := s.toks) (ch := [z, TI, TO, i1, i2]) (fun c o hb q => (sb.2 c (fun q' => hb (by simp [q']))).trans (hk c o (fun q' => hb (by simp [q'])) (fun q' => hb (by simp [q'])) (fun q' => hb (by simp [q'])) (fun q' => hb (by simp [q'])) q)) hf (Nat.le_refl _) new
    refine ⟨.ref s.heap.objs.size, _, I1, rfl, ⟨_, x, y, rfl, I.hok.fresh (Nat.le_refl _), rfl, fun l hl => by rw [I.tuple_inj hl hqx]; exact hx, fun l hl => by rw [I.list_inj hl hqy]; exact hy⟩, ⟨z'', ?_, ⟨u, u2, ?_⟩, ?_, ?_⟩, fun c hcm => ?_⟩
    · exact (sb.2 _ D.TIz).trans (hk _ _ D.TIz D.TITO D.TIi1 D.TIi2 hTI)
    · exact (sb.2 _ D.TOz).trans TO'
    · exact h1'.at fun o q => (sb.2 _ D.i1z).trans q
    · exact h2'.at fun o q => (sb.2 _ D.i2z).trans q
    · have hlt : c < s.heap.objs.size := by
        have e' : c = z ∨ c = TI ∨ c = TO ∨ c = i1 ∨ c = i2 := by simpa using hcm
        rcases e' with q | q | q | q | q
        · rw [q]; exact hzl
        · rw [q]; exact Heap.lt_size hTI
        · rw [q]; exact Heap.lt_size hTO
        · rw [q]; obtain ⟨_, e1, _⟩ := h1; exact Heap.lt_size e1
        · rw [q]; obtain ⟨_, e2, _⟩ := h2; exact Heap.lt_size e2
      rw [upd_ne (Nat.ne_of_lt hlt)]
      exact (hf c hcm).1
  done := by
    intro X hP hw hK hc i pins s σ H E I hf st hg
    subst hP hw hK
    obtain ⟨hz, hTI, ⟨x0, y0, hTO⟩, h1, h2⟩ := st
    obtain ⟨xs, ys, hqx, hqy, hend⟩ := hg
    obtain ⟨its, rv, p, _⟩ := I.tuple hqx
    obtain ⟨its2, rv2, p2, _⟩ := I.list hqy
    have l1 := rv.length
    have l2 := rv2.length
    have he : its.toArray[i]? = none ∨ its2.toArray[i]? = none := by
      rcases hend with q | q
      · exact .inl (by simp; omega)
      · exact .inr (by simp; omega)
    exact pyNext_zipM_end (I.ok.hd hc) D hz hTI hTO h1 h2 p p2.isList he fun h' hk => ⟨rfl, I.turnedL (t' := s.toks) (ch := [z, TI, TO, i1, i2]) (fun c o hb q =>
      hk c o (fun q' => hb (by simp [q'])) (fun q' => hb (by simp [q'])) (fun q' => hb (by simp [q'])) (fun q' => hb (by simp [q'])) q) hf⟩
  self := fun A i s Q E st h => wpAny_pyIter_zip st.1 h

def iZipM (K : PySem.W.Frag) (ta : TA) : TI := fun σ H R => ta σ H fun vs H1 => ∃ (a b : Addr) (xs ys : List V), vs = [.ref a, .ref b] ∧ SqT K H1 a xs ∧ SqL K H1 b ys ∧ R (ItzM K a b) H1
theorem pi_zipM {X : Cx} {e e2 : Expr} {ta : TA} {p pos tpos : Pos} {elts : List Expr} {kk : Nat} (hg : Gl X "zip") (hm : X.mg "zip" = none) (ha : PA X [e, e2] ta)
    (hs : starEach [e, e2] X.env = (false, eval e X.env) :: starEach [e2] X.env := by rfl) (hpl : (backTo pos (starEach [e2] X.env)).any (·.1) = false := by rfl) :
    PI X (.Tuple elts kk tpos) (.Call (.Name "zip" p) [e, e2] [] pos) (iZipM X.K ta) := by
  refine ⟨fun pins s σ H R I h => ?_⟩
  refine Call_ (ld_blt I hg hm PyProof.Rows.boot_zip (PyProof.Rows.callWith_type1 (thn (ha.run pos pins s σ H _ I h) fun us s1 ⟨vs, H1, I1, r1, q1⟩ => ?_) hs hpl))
  obtain ⟨a, b, xs, ys, ex, hqx, hqy, q⟩ := q1
  subst ex
  cases r1 with
  | cons r rr =>
    cases rr with
    | cons r' rr =>
      cases rr
      cases r
      cases r'
      have fresh5 : ∀ c, c ∈ [s1.heap.objs.size + 4, s1.heap.objs.size + 2, s1.heap.objs.size + 3, s1.heap.objs.size, s1.heap.objs.size + 1] → FpOk X pins H1 c := fun c hcm => by
        have hle : s1.heap.objs.size ≤ c := by
          simp only [List.mem_cons, List.not_mem_nil, or_false] at hcm
          rcases hcm with z | z | z | z | z <;> subst z <;> first | exact Nat.le_add_right _ _ | exact Nat.le_refl _
        exact I1.fpOk hle (I1.hok.fresh hle)
      obtain ⟨its, rv, p1, _⟩ := I1.tuple hqx
      obtain ⟨its2, rv2, p2, _⟩ := I1.list hqy
      obtain ⟨o1, ho1, _⟩ := id p1
      refine call_zipM (show s1.heap.IsTuple a its.toArray from p1) p2.isList fun h' hz hTI hTO h1 h2 hsz hk => wpAny_pyIter_zip hz ?_
      have I2 : Inv X pins σ H1 { s1 with heap := h' } := I1.kept (t' := s1.toks) hk
      exact ⟨s1.heap.objs.size + 4, [s1.heap.objs.size + 4, s1.heap.objs.size + 2, s1.heap.objs.size + 3, s1.heap.objs.size, s1.heap.objs.size + 1], _, _, H1, rfl, I2, turn_zipM (PySem.W.ktu_apart s1.heap.objs.size a b (Heap.lt_size ho1) p2.lt), ⟨hz, hTI, ⟨_, _, hTO⟩, h1, h2⟩, fresh5, q⟩
section
variable {K : PySem.W.Frag} {σ : L2.St} {G M H : Hp} {ta : TA} {te : TE} {ds es : List PyData} {i j : Nat}
/-- [e for x, y in zip(tuple, list)], of one length -/
theorem d_lcZ {f : PyData × PyData → PyData} {g : TG} (hij : i ≠ j) (hl : TrA K ta σ G [.tuple ds, .list es]) (hle : ds.length = es.length) (hn : ds.length < 100000) (hg : g = gTup K 2 (gCons (gName i) (gCons (gName j) gNil)))
    (he : ∀ (k : Nat) d e, ds[k]? = some d → es[k]? = some e → ∀ x y G1, Ex G G1 → Rp K G1 d x → Rp K G1 e y → TrD K te (((wipe σ [i, j]).set i (some x)).set j (some y)) G1 (f (d, e))) :
    TrD K (tLc (iZipM K ta) g tYes te [i, j]) σ G (.list ((ds.zip es).map f)) := fun G1 M H e A Q q => by
  subst hg
  refine hl G1 M H e A _ fun vs G2 H2 e2 A2 rvs => ?_
  obtain ⟨_, _, rfl, ⟨a, xs, rfl, ga, rx⟩, _, _, rfl, ⟨b, ys, rfl, gb, ry⟩, rfl⟩ := rvs
  have lx := rx.len
  have ly := ry.len
  refine ⟨a, b, xs, ys, rfl, A2.g.stt ga, SqL.of (A2.g _ _ gb), fun D hD => ?_⟩
  have hMD : M D = none := A2.mNone hD
  refine ⟨fun t m H3 => m = xs.length - t ∧ t ≤ xs.length ∧ ∃ Gj acc, Ex G2 Gj ∧ At Gj (upd M D (.lst acc)) H3 ∧ RpL K Gj (((ds.zip es).take t).map f) acc, ⟨xs.length, by simp, Nat.zero_le _, G2, [], Ex.refl _, A2.nm hD, rfl⟩, ?_⟩
  rintro t m H3 ⟨rfl, ht', Gj, acc, ej, Aj, rj⟩
  have hsx : SqT K H3 a xs := Aj.g.stt (ej.stt ga)
  have hsy : SqL K H3 b ys := SqL.of (Aj.g _ _ (ej _ _ gb))
  by_cases hlt : t < xs.length
  · have hx : xs[t]? = some xs[t] := List.getElem?_eq_getElem hlt
    have hy : ys[t]? = some (ys[t]'(by omega)) := List.getElem?_eq_getElem (by omega)
    obtain ⟨d, hd, rd⟩ := rx.get hx
    obtain ⟨d2, hd2, rd2⟩ := ry.get hy
    refine .inr ⟨⟨xs, ys, _, _, hsx, hsy, hx, hy⟩, fun H4 => ∃ Gj acc, Ex G2 Gj ∧ At Gj (upd M D (.lst acc)) H4 ∧ RpL K Gj (((ds.zip es).take (t + 1)).map f) acc, fun H4 w => ⟨xs.length - (t + 1), by omega, rfl, hlt, w⟩, ?_⟩
    rintro y H4 ⟨T, x', y', rfl, hT, rfl, hx', hy'⟩
    have ex := Option.some.inj ((hx' xs hsx).symm.trans hx)
    have ey := Option.some.inj ((hy' ys hsy).symm.trans hy)
    subst ex ey
    have A4 := Aj.ng (o := HO.tup [xs[t], ys[t]'(by omega)]) hT
    have e4 : Ex Gj (upd Gj T (.tup [xs[t], ys[t]'(by omega)])) := Ex.new (Aj.gNone hT)
    have htk : (ds.zip es).take (t + 1) = (ds.zip es).take t ++ [(d, d2)] := by
      rw [List.take_add_one, List.getElem?_zip_eq_some.mpr (show ds[t]? = some (d, d2).1 ∧ es[t]? = some (d, d2).2 from ⟨hd, hd2⟩)]
      rfl
    refine ⟨T, _, rfl, SqT.of upd_same, rfl, _, _, rfl, _, _, rfl, rfl, ?_⟩
    refine ⟨?_, ?_⟩
    · show (((((σ.set j none).set i none).set i (some _)).set j (some _)).set j none).set i none = (σ.set j none).set i none
      rw [List.set_set, List.set_set, List.set_comm _ _ hij, List.set_set, List.set_set]
    refine he t d d2 hd hd2 _ _ _ ((e.trans e2).trans (ej.trans e4)) (rd.up (ej.trans e4)) (rd2.up (ej.trans e4)) _ _ _ (Ex.refl _) A4 _ fun v6 G6 H6 e6 A6 r6 => ?_
    refine ⟨acc, A6.m _ _ upd_same, ?_, G6, acc ++ [v6], (ej.trans e4).trans e6, ?_, ?_⟩
    · rw [rj.len, List.length_map, List.length_take, List.length_zip]
      exact sz_lt (by omega)
    · have w := A6.wr (o := .lst (acc ++ [v6])) (upd_same (H := M) (a := D) (o := .lst acc))
      rw [upd_upd] at w
      exact w
    · rw [htk, List.map_append]
      exact (rj.up (e4.trans e6)).snoc r6
  · have e1 : t = xs.length := by omega
    subst e1
    have hl2 : (ds.zip es).take xs.length = ds.zip es := List.take_of_length_le (by rw [List.length_zip]; omega)
    rw [hl2] at rj
    have hm := upd_same (H := M) (a := D) (o := HO.lst acc)
    exact .inl ⟨⟨xs, ys, hsx, hsy, .inl (Nat.le_refl _)⟩, q _ _ _ ((e2.trans ej).trans (Aj.frzG hm)) (Aj.frz hm (Ex.new hMD) hMD) ⟨D, acc, rfl, upd_same, rj.up (Aj.frzG hm)⟩⟩
end
end Sb

namespace Sb
open PySem PySem.Spec PyProof.Rows L2
section
variable {K : PySem.W.Frag} {σ : L2.St} {G M H : Hp} {ta : TA} {te tl tw : TE} {ds es : List PyData} {i j : Nat}
/-- [e for x in list for y in tuple] -/
theorem d_lc2 {f : PyData → PyData → PyData} (hij : i ≠ j) (hl : TrD K tl σ G (.list ds)) (hn : ds.length * es.length ≤ 100000)
    (hw : ∀ d ∈ ds, ∀ x G1, Ex G G1 → Rp K G1 d x → TrD K tw ((wipe σ [i, j]).set i (some x)) G1 (.tuple es))
    (he : ∀ d ∈ ds, ∀ e ∈ es, ∀ x y G1, Ex G G1 → Rp K G1 d x → Rp K G1 e y → TrD K te (((wipe σ [i, j]).set i (some x)).set j (some y)) G1 (f d e)) :
    TrD K (tLc2 (iList K tl) (gName i) tYes (iTup K tw) (gName j) tYes te [i, j] [j]) σ G (.list (ds.flatMap fun d => es.map (f d))) := fun G1 M H e A Q q => by
  refine hl G1 M H e A _ fun v G2 H2 e2 A2 rv => ?_
  obtain ⟨a, xs, rfl, ga, rx⟩ := rv
  have lx := rx.len
  refine ⟨a, rfl, ⟨xs, SqL.of (A2.g _ _ ga)⟩, fun D hD => ?_⟩
  have hMD : M D = none := A2.mNone hD
  have lenF : ∀ t u : Nat, t ≤ ds.length → u ≤ es.length → (((ds.take t).flatMap fun d => es.map (f d)).length + u) ≤ t * es.length + u := fun t u ht hu => by
    have : ∀ l : List PyData, (l.flatMap fun d => es.map (f d)).length = l.length * es.length := fun l => by
      induction l with
      | nil => simp
      | cons d l ih => rw [List.flatMap_cons, List.length_append, ih, List.length_map, List.length_cons, Nat.succ_mul, Nat.add_comm]
    rw [this, List.length_take, Nat.min_eq_left ht]
    exact Nat.le_refl _
  refine ⟨fun t m H3 => m = xs.length - t ∧ t ≤ xs.length ∧ ∃ Gj acc, Ex G2 Gj ∧ At Gj (upd M D (.lst acc)) H3 ∧ RpL K Gj ((ds.take t).flatMap fun d => es.map (f d)) acc, ⟨xs.length, by simp, Nat.zero_le _, G2, [], Ex.refl _, A2.nm hD, rfl⟩, ?_⟩
  rintro t m H3 ⟨rfl, ht', Gj, acc, ej, Aj, rj⟩
  have hsx : SqL K H3 a xs := SqL.of (Aj.g _ _ (ej _ _ ga))
  by_cases hlt : t < xs.length
  · have hx : xs[t]? = some xs[t] := List.getElem?_eq_getElem hlt
    obtain ⟨d, hd, rd⟩ := rx.get hx
    have hm := List.mem_of_getElem? hd
    have htk : ds.take (t + 1) = ds.take t ++ [d] := by rw [List.take_add_one, hd]; rfl
    refine .inr ⟨⟨xs, xs[t], hsx, hx⟩, fun H4 => ∃ Gj acc, Ex G2 Gj ∧ At Gj (upd M D (.lst acc)) H4 ∧ RpL K Gj ((ds.take (t + 1)).flatMap fun d => es.map (f d)) acc, fun H4 w => ⟨xs.length - (t + 1), by omega, rfl, hlt, w⟩, ?_⟩
    rintro x H4 ⟨rfl, hxx⟩
    have ex := Option.some.inj ((hxx xs hsx).symm.trans hx)
    subst ex
    refine ⟨?_, ?_⟩
    · show ((((σ.set j none).set i none).set i (some _)).set j none).set i none = (σ.set j none).set i none
      rw [List.set_set, List.set_comm _ _ hij, List.set_set, List.set_set]
    refine hw d hm _ Gj ((e.trans e2).trans ej) (rd.up ej) Gj _ _ (Ex.refl _) Aj _ fun w G3 H5 e3 A3 rw3 => ?_
    obtain ⟨b, ys, rfl, gb, ry⟩ := rw3
    have ly := ry.len
    refine ⟨b, rfl, ⟨ys, A3.g.stt gb⟩, ?_⟩
    refine ⟨fun u k H6 => k = ys.length - u ∧ u ≤ ys.length ∧ ∃ Gk acc, Ex G3 Gk ∧ At Gk (upd M D (.lst acc)) H6 ∧ RpL K Gk (((ds.take t).flatMap fun d => es.map (f d)) ++ (es.take u).map (f d)) acc, ⟨ys.length, by simp, Nat.zero_le _, G3, acc, Ex.refl _, A3, by simpa using rj.up e3⟩, ?_⟩
    rintro u k H6 ⟨rfl, hu', Gk, ac2, ek, Ak, rk⟩
    have hsy : SqT K H6 b ys := Ak.g.stt (ek.stt gb)
    by_cases hltu : u < ys.length
    · have hy : ys[u]? = some ys[u] := List.getElem?_eq_getElem hltu
      obtain ⟨d2, hd2, rd2⟩ := ry.get hy
      have hm2 := List.mem_of_getElem? hd2
      have htk2 : es.take (u + 1) = es.take u ++ [d2] := by rw [List.take_add_one, hd2]; rfl
      refine .inr ⟨⟨ys, ys[u], hsy, hy⟩, fun H7 => ∃ Gk acc, Ex G3 Gk ∧ At Gk (upd M D (.lst acc)) H7 ∧ RpL K Gk (((ds.take t).flatMap fun d => es.map (f d)) ++ (es.take (u + 1)).map (f d)) acc, fun H7 w => ⟨ys.length - (u + 1), by omega, rfl, hltu, w⟩, ?_⟩
      rintro y H7 ⟨rfl, hyy⟩
      have ey := Option.some.inj ((hyy ys hsy).symm.trans hy)
      subst ey
      refine ⟨?_, ?_⟩
      · show ((((((σ.set j none).set i none).set i (some _)).set j none).set j (some _)).set j none) = (((σ.set j none).set i none).set i (some _)).set j none
        rw [List.set_set, List.set_set]
      have hst : (((((σ.set j none).set i none).set i (some xs[t])).set j none).set j (some ys[u])) = (((σ.set j none).set i none).set i (some xs[t])).set j (some ys[u]) := List.set_set ..
      show te (((((σ.set j none).set i none).set i (some xs[t])).set j none).set j (some ys[u])) _ _
      rw [hst]
      refine he d hm d2 hm2 _ _ Gk ((e.trans e2).trans (ej.trans (e3.trans ek))) (rd.up (ej.trans (e3.trans ek))) (rd2.up ek) Gk _ _ (Ex.refl _) Ak _ fun v6 G6 H8 e6 A6 r6 => ?_
      refine ⟨ac2, A6.m _ _ upd_same, ?_, G6, ac2 ++ [v6], ek.trans e6, ?_, ?_⟩
      · rw [rk.len, List.length_append, List.length_map, List.length_take]
        have z := lenF t (min u es.length) (by omega) (Nat.min_le_right ..)
        have z2 : t * es.length + es.length ≤ ds.length * es.length := by
          rw [← Nat.succ_mul]
          exact Nat.mul_le_mul_right _ (by omega)
        exact sz_lt (by omega)
      · have w := A6.wr (o := .lst (ac2 ++ [v6])) (upd_same (H := M) (a := D) (o := .lst ac2))
        rw [upd_upd] at w
        exact w
      · rw [htk2, List.map_append, ← List.append_assoc]
        exact (rk.up e6).snoc r6
    · have e1 : u = ys.length := by omega
      subst e1
      refine .inl ⟨⟨ys, hsy, Nat.le_refl _⟩, Gk, ac2, (ej.trans e3).trans ek, Ak, ?_⟩
      rw [htk, List.flatMap_append]
      have : es.take ys.length = es := by rw [ly, List.take_length]
      rw [this] at rk
      simpa using rk
  · have e1 : t = xs.length := by omega
    subst e1
    have hl2 : ds.take xs.length = ds := by rw [lx, List.take_length]
    rw [hl2] at rj
    have hm := upd_same (H := M) (a := D) (o := HO.lst acc)
    exact .inl ⟨⟨xs, hsx, Nat.le_refl _⟩, q _ _ _ ((e2.trans ej).trans (Aj.frzG hm)) (Aj.frz hm (Ex.new hMD) hMD) ⟨D, acc, rfl, upd_same, rj.up (Aj.frzG hm)⟩⟩
end
end Sb

namespace Sb
open PySem PySem.Spec PyProof.Rows L2
/-! ### max(list of ints) -/
theorem vals_items : ∀ {ns : List Int} {its : List Value}, Vals (ns.map V.int) its → ∃ xs : List (Int × Tok), its = xs.map (fun p => Value.int p.1 p.2) ∧ xs.map (·.1) = ns
  | [], _, h => by cases h; exact ⟨[], rfl, rfl⟩
  | n :: ns, _, h => by
    cases h with
    | cons r t =>
      obtain ⟨tk, rfl⟩ := r
      obtain ⟨xs, e1, e2⟩ := vals_items t
      exact ⟨(n, tk) :: xs, by rw [e1]; rfl, by rw [← e2]; rfl⟩
theorem best_max (v : Nat → Int) : ∀ k, argBest (fun i j => decide (v i > v j)) k ≤ k ∧ ∀ j, j ≤ k → v j ≤ v (argBest (fun i j => decide (v i > v j)) k)
  | 0 => ⟨Nat.le_refl _, fun j hj => by rw [Nat.le_zero.mp hj]; exact Int.le_refl _⟩
  | k + 1 => by
    obtain ⟨h1, h2⟩ := best_max v k
    unfold argBest
    split
    · rename_i h
      have h := of_decide_eq_true h
      refine ⟨Nat.le_refl _, fun j hj => ?_⟩
      by_cases e : j = k + 1
      · rw [e]; exact Int.le_refl _
      · have := h2 j (by omega)
        omega
    · rename_i h
      have h : ¬ v (k + 1) > v (argBest (fun i j => decide (v i > v j)) k) := fun z => h (decide_eq_true z)
      refine ⟨by omega, fun j hj => ?_⟩
      by_cases e : j = k + 1
      · rw [e]; omega
      · exact h2 j (by omega)
def rMaxL (K : PySem.W.Frag) : List V → Hp → VK → Prop := fun xs H Q => ∃ (p : Addr) (ns : List Int), xs = [.ref p] ∧ SqL K H p (ns.map V.int) ∧ ns ≠ [] ∧ ∀ n, n ∈ ns → (∀ m ∈ ns, m ≤ n) → Q (.int n) H
theorem call_maxL {X : Cx} (hc : X.calm = true) : CallR X (.builtin "max") (rMaxL X.K) := by
  intro pins s σ H vs us Q I r h
  obtain ⟨p, ns, rfl, hs, hne, q⟩ := h
  rw [Vals.ref1 r]
  obtain ⟨its, rv, hl, _⟩ := I.list hs
  obtain ⟨xs, e1, e2⟩ := vals_items rv
  have hl' : s.heap.IsList p (intItems xs.toArray) := by
    have := hl.isList
    rw [e1] at this
    have e3 : intItems xs.toArray = (xs.map fun p => Value.int p.1 p.2).toArray := by simp [intItems]
    rw [e3]
    exact this
  have hlen : xs.length = ns.length := by rw [← e2, List.length_map]
  have hpos : 0 < ns.length := List.length_pos_iff.mpr hne
  refine max_intList (I.ok.hd hc) hl' (by rw [List.size_toArray]; omega) fun v h' tk hv k => ?_
  have hat : ∀ j, j < ns.length → some (numAt xs.toArray j) = ns[j]? := fun j hj => by
    unfold numAt
    rw [← e2, List.getElem?_map, List.getElem?_toArray, List.getElem?_eq_getElem (by omega)]
    rfl
  obtain ⟨b1, b2⟩ := best_max (numAt xs.toArray) (xs.toArray.size - 1)
  rw [List.size_toArray] at b1 b2 hv
  obtain ⟨t, e⟩ := intItems_at hv
  refine ⟨.int (numAt xs.toArray (argBest (fun i j => decide (numAt xs.toArray i > numAt xs.toArray j)) (xs.length - 1))), H, I.kept k, ⟨t, e⟩, q _ ?_ fun m hm => ?_⟩
  · have := hat _ (show argBest (fun i j => decide (numAt xs.toArray i > numAt xs.toArray j)) (xs.length - 1) < ns.length by omega)
    exact List.mem_of_getElem? this.symm
  · obtain ⟨j, hj⟩ := List.mem_iff_getElem?.mp hm
    have hjl := (List.getElem?_eq_some_iff.mp hj).1
    have := hat j hjl
    rw [hj] at this
    have := Option.some.inj this
    rw [← this]
    exact b2 j (by omega)
theorem rc_maxL {K : PySem.W.Frag} {ns : List Int} {n : Int} (h1 : n ∈ ns) (h2 : ∀ m ∈ ns, m ≤ n) : RC K (rMaxL K) [.list (dInts ns)] (.int n) := fun G M H xs A ⟨x, r, e, h, h'⟩ Q q => by
  obtain ⟨a, e2, ha⟩ := Rp.li h
  rw [e, show r = [] from h', e2]
  refine ⟨a, ns, rfl, SqL.of (A.g _ _ ha), fun z => (by rw [z] at h1; cases h1), fun m hm hall => ?_⟩
  have : m = n := by
    have := hall n h1
    have := h2 m hm
    omega
  subst this
  exact q.here A rfl
end Sb

namespace K96
open PySem PySem.Spec PyProof.Rows L2 Sb
local macro_rules | `(tactic| walk_at "ex") => `(tactic| first | exact Ex.refl _ | assumption | (refine' Ex.trans ?_ (by assumption); walk_at "ex"))
local macro_rules | `(tactic| walk_at "rp") => `(tactic| first | assumption | (refine' Rp.up ?e (by assumption); (case e => walk_at "ex")) | exact rfl)
local macro_rules | `(tactic| walk_at "rd") => `(tactic| with_reducible first | exact rd_add | exact rd_sub | exact rd_lt | exact rd_le | exact rd_gt | exact rd_ge | exact rd_eqI | exact rd_neI | exact rd_eqS | exact rd_neS | exact rd_isN | exact rd_ltS | exact rd_inSign | exact rd_eqE)
local macro_rules | `(tactic| walk_at "tr") => `(tactic| first
  | with_reducible exact d_int
  | with_reducible exact d_str
  | with_reducible exact d_bl
  | with_reducible exact d_non
  | with_reducible exact a_nil
  | with_reducible exact b_yes
  | with_reducible exact o_none
  | with_reducible exact d_newD
  | ((with_reducible refine' d_var ?i ?r); (case i => rfl); (case r => walk_at "rp"))
  | ((with_reducible refine' a_cons ?a ?b); (case a => walk_at "tr"); (case b => walk_at "tr"))
  | ((with_reducible refine' a_star ?a ?b); (case a => walk_at "tr"); (case b => walk_at "tr"))
  | ((with_reducible refine' d_isi ?a ?b); (case a => walk_at "tr"); (case b => decide))
  | ((with_reducible refine' d_op ?a ?b ?c); (case a => walk_at "tr"); (case b => walk_at "tr"); (case c => walk_at "rd"))
  | ((with_reducible refine' d_tup ?a ?b); (case a => walk_at "tr"); (case b => first | decide | (simp; done)))
  | ((with_reducible refine' d_lst ?a ?b); (case a => walk_at "tr"); (case b => first | decide | (simp; done)))
  | ((with_reducible refine' o_some ?a); (case a => walk_at "tr"))
  | ((with_reducible refine' b_B ?a); (case a => walk_at "tr"))
  | ((with_reducible refine' b_T ?a); (case a => walk_at "tr"))
  | ((with_reducible refine' b_not ?a); (case a => walk_at "tr"))
  | ((with_reducible refine' v_not ?a); (case a => walk_at "tr"))
  | ((with_reducible refine' b_or ?a ?b); (case a => walk_at "tr"); (case b => intro _; walk_at "tr"))
  | ((with_reducible refine' b_and ?a ?b); (case a => walk_at "tr"); (case b => intro _; walk_at "tr"))
  | ((with_reducible refine' v_or ?a ?b); (case a => walk_at "tr"); (case b => intro _; walk_at "tr"))
  | ((with_reducible refine' v_and ?a ?b); (case a => walk_at "tr"); (case b => intro _; walk_at "tr"))
  | assumption)


def top (i : Nat) : Stmt := PySem.Challenge.pw_scanbars_k96_whole_unknown_characters_pu.main.body.getD i (.Pass ⟨0, 0, 0, 0⟩)
abbrev s_is_integer : Stmt := top 15
theorem sc_is_integer : FnScope ["value", "least", "most"] ["value", "least", "most"] (defScope s_is_integer) := ⟨rfl, rfl, rfl, by decide +kernel, rfl, by decide +kernel, by decide +kernel⟩
def d_is_integer : He.DefD := ⟨("is_integer", none), "is_integer", "is_integer", defArgs s_is_integer, defBody s_is_integer, defScope s_is_integer, [.non, .non], []⟩
abbrev s_is_name : Stmt := top 16
theorem sc_is_name : FnScope ["value"] ["value"] (defScope s_is_name) := ⟨rfl, rfl, rfl, by decide +kernel, rfl, by decide +kernel, by decide +kernel⟩
def d_is_name : He.DefD := ⟨("is_name", none), "is_name", "is_name", defArgs s_is_name, defBody s_is_name, defScope s_is_name, [], []⟩
abbrev s_are_widths : Stmt := top 17
theorem sc_are_widths : FnScope ["value", "least", "most", "item"] ["value", "least", "most"] (defScope s_are_widths) := ⟨rfl, rfl, rfl, by decide +kernel, rfl, by decide +kernel, by decide +kernel⟩
def d_are_widths : He.DefD := ⟨("are_widths", none), "are_widths", "are_widths", defArgs s_are_widths, defBody s_are_widths, defScope s_are_widths, [], []⟩
abbrev s_is_widths : Stmt := top 18
theorem sc_is_widths : FnScope ["value"] ["value"] (defScope s_is_widths) := ⟨rfl, rfl, rfl, by decide +kernel, rfl, by decide +kernel, by decide +kernel⟩
def d_is_widths : He.DefD := ⟨("is_widths", none), "is_widths", "is_widths", defArgs s_is_widths, defBody s_is_widths, defScope s_is_widths, [], []⟩
abbrev s_fault_of_characters : Stmt := top 19
theorem sc_fault_of_characters : FnScope ["value", "name"] ["value"] (defScope s_fault_of_characters) := ⟨rfl, rfl, rfl, by decide +kernel, rfl, by decide +kernel, by decide +kernel⟩
def d_fault_of_characters : He.DefD := ⟨("fault_of_characters", none), "fault_of_characters", "fault_of_characters", defArgs s_fault_of_characters, defBody s_fault_of_characters, defScope s_fault_of_characters, [], []⟩
abbrev s_fault_of_code : Stmt := top 20
theorem sc_fault_of_code : FnScope ["value", "start", "characters", "between", "stop", "found", "name"] ["value"] (defScope s_fault_of_code) := ⟨rfl, rfl, rfl, by decide +kernel, rfl, by decide +kernel, by decide +kernel⟩
def d_fault_of_code : He.DefD := ⟨("fault_of_code", none), "fault_of_code", "fault_of_code", defArgs s_fault_of_code, defBody s_fault_of_code, defScope s_fault_of_code, [], []⟩
abbrev s_require_code : Stmt := top 21
theorem sc_require_code : FnScope ["value", "faults", "part", "name"] ["value"] (defScope s_require_code) := ⟨rfl, rfl, rfl, by decide +kernel, rfl, by decide +kernel, by decide +kernel⟩
def d_require_code : He.DefD := ⟨("require_code", none), "require_code", "require_code", defArgs s_require_code, defBody s_require_code, defScope s_require_code, [], []⟩
abbrev s_is_text : Stmt := top 22
theorem sc_is_text : FnScope ["code", "value", "name"] ["code", "value"] (defScope s_is_text) := ⟨rfl, rfl, rfl, by decide +kernel, rfl, by decide +kernel, by decide +kernel⟩
def d_is_text : He.DefD := ⟨("is_text", none), "is_text", "is_text", defArgs s_is_text, defBody s_is_text, defScope s_is_text, [], []⟩
abbrev s_require_text : Stmt := top 23
theorem sc_require_text : FnScope ["code", "value"] ["code", "value"] (defScope s_require_text) := ⟨rfl, rfl, rfl, by decide +kernel, rfl, by decide +kernel, by decide +kernel⟩
def d_require_text : He.DefD := ⟨("require_text", none), "require_text", "require_text", defArgs s_require_text, defBody s_require_text, defScope s_require_text, [], []⟩
abbrev s_fault_of_scan : Stmt := top 24
theorem sc_fault_of_scan : FnScope ["value", "index", "item"] ["value"] (defScope s_fault_of_scan) := ⟨rfl, rfl, rfl, by decide +kernel, rfl, by decide +kernel, by decide +kernel⟩
def d_fault_of_scan : He.DefD := ⟨("fault_of_scan", none), "fault_of_scan", "fault_of_scan", defArgs s_fault_of_scan, defBody s_fault_of_scan, defScope s_fault_of_scan, [], []⟩
abbrev s_require_scan : Stmt := top 25
theorem sc_require_scan : FnScope ["value", "faults"] ["value"] (defScope s_require_scan) := ⟨rfl, rfl, rfl, by decide +kernel, rfl, by decide +kernel, by decide +kernel⟩
def d_require_scan : He.DefD := ⟨("require_scan", none), "require_scan", "require_scan", defArgs s_require_scan, defBody s_require_scan, defScope s_require_scan, [], []⟩
abbrev s_divisor : Stmt := top 26
theorem sc_divisor : FnScope ["one", "other"] ["one", "other"] (defScope s_divisor) := ⟨rfl, rfl, rfl, by decide +kernel, rfl, by decide +kernel, by decide +kernel⟩
def d_divisor : He.DefD := ⟨("divisor", none), "divisor", "divisor", defArgs s_divisor, defBody s_divisor, defScope s_divisor, [], []⟩
abbrev s_lowest : Stmt := top 27
theorem sc_lowest : FnScope ["top", "bottom", "common"] ["top", "bottom"] (defScope s_lowest) := ⟨rfl, rfl, rfl, by decide +kernel, rfl, by decide +kernel, by decide +kernel⟩
def d_lowest : He.DefD := ⟨("lowest", none), "lowest", "lowest", defArgs s_lowest, defBody s_lowest, defScope s_lowest, [], []⟩
abbrev s_is_fraction : Stmt := top 28
theorem sc_is_fraction : FnScope ["value", "item"] ["value"] (defScope s_is_fraction) := ⟨rfl, rfl, rfl, by decide +kernel, rfl, by decide +kernel, by decide +kernel⟩
def d_is_fraction : He.DefD := ⟨("is_fraction", none), "is_fraction", "is_fraction", defArgs s_is_fraction, defBody s_is_fraction, defScope s_is_fraction, [], []⟩
abbrev s_is_factor : Stmt := top 29
theorem sc_is_factor : FnScope ["value"] ["value"] (defScope s_is_factor) := ⟨rfl, rfl, rfl, by decide +kernel, rfl, by decide +kernel, by decide +kernel⟩
def d_is_factor : He.DefD := ⟨("is_factor", none), "is_factor", "is_factor", defArgs s_is_factor, defBody s_is_factor, defScope s_is_factor, [], []⟩
abbrev s_require_factor : Stmt := top 30
theorem sc_require_factor : FnScope ["value"] ["value"] (defScope s_require_factor) := ⟨rfl, rfl, rfl, by decide +kernel, rfl, by decide +kernel, by decide +kernel⟩
def d_require_factor : He.DefD := ⟨("require_factor", none), "require_factor", "require_factor", defArgs s_require_factor, defBody s_require_factor, defScope s_require_factor, [], []⟩
abbrev s_require_index : Stmt := top 31
theorem sc_require_index : FnScope ["value", "many"] ["value", "many"] (defScope s_require_index) := ⟨rfl, rfl, rfl, by decide +kernel, rfl, by decide +kernel, by decide +kernel⟩
def d_require_index : He.DefD := ⟨("require_index", none), "require_index", "require_index", defArgs s_require_index, defBody s_require_index, defScope s_require_index, [], []⟩
abbrev s_is_above : Stmt := top 32
theorem sc_is_above : FnScope ["one", "other"] ["one", "other"] (defScope s_is_above) := ⟨rfl, rfl, rfl, by decide +kernel, rfl, by decide +kernel, by decide +kernel⟩
def d_is_above : He.DefD := ⟨("is_above", none), "is_above", "is_above", defArgs s_is_above, defBody s_is_above, defScope s_is_above, [], []⟩
abbrev s_step_of : Stmt := top 33
theorem sc_step_of : FnScope ["one", "other"] ["one", "other"] (defScope s_step_of) := ⟨rfl, rfl, rfl, by decide +kernel, rfl, by decide +kernel, by decide +kernel⟩
def d_step_of : He.DefD := ⟨("step_of", none), "step_of", "step_of", defArgs s_step_of, defBody s_step_of, defScope s_step_of, [], []⟩
abbrev s_row_by : Stmt := top 34
theorem sc_row_by : FnScope ["code", "text", "start", "characters", "between", "stop", "found", "name"] ["code", "text"] (defScope s_row_by) := ⟨rfl, rfl, rfl, by decide +kernel, rfl, by decide +kernel, by decide +kernel⟩
def d_row_by : He.DefD := ⟨("row_by", none), "row_by", "row_by", defArgs s_row_by, defBody s_row_by, defScope s_row_by, [], []⟩
abbrev s_greatest_step : Stmt := top 35
theorem sc_greatest_step : FnScope ["rows", "found", "one", "other", "later", "more", "step"] ["rows"] (defScope s_greatest_step) := ⟨rfl, rfl, rfl, by decide +kernel, rfl, by decide +kernel, by decide +kernel⟩
def d_greatest_step : He.DefD := ⟨("greatest_step", none), "greatest_step", "greatest_step", defArgs s_greatest_step, defBody s_greatest_step, defScope s_greatest_step, [], []⟩
abbrev s_strain_of : Stmt := top 36
theorem sc_strain_of : FnScope ["row", "scan"] ["row", "scan"] (defScope s_strain_of) := ⟨rfl, rfl, rfl, by decide +kernel, rfl, by decide +kernel, by decide +kernel⟩
def d_strain_of : He.DefD := ⟨("strain_of", none), "strain_of", "strain_of", defArgs s_strain_of, defBody s_strain_of, defScope s_strain_of, [], []⟩
abbrev s_is_within : Stmt := top 37
theorem sc_is_within : FnScope ["row", "scan", "factor", "strain"] ["row", "scan", "factor"] (defScope s_is_within) := ⟨rfl, rfl, rfl, by decide +kernel, rfl, by decide +kernel, by decide +kernel⟩
def d_is_within : He.DefD := ⟨("is_within", none), "is_within", "is_within", defArgs s_is_within, defBody s_is_within, defScope s_is_within, [], []⟩
abbrev s_code_with : Stmt := top 38
theorem sc_code_with : FnScope ["code", "name", "widths", "start", "characters", "between", "stop", "some", "other"] ["code", "name", "widths"] (defScope s_code_with) := ⟨rfl, rfl, rfl, by decide +kernel, rfl, by decide +kernel, by decide +kernel⟩
def d_code_with : He.DefD := ⟨("code_with", none), "code_with", "code_with", defArgs s_code_with, defBody s_code_with, defScope s_code_with, [], []⟩
abbrev s_is_evidence_item : Stmt := top 43
theorem sc_is_evidence_item : FnScope ["code", "name", "value", "sign"] ["code", "name", "value"] (defScope s_is_evidence_item) := ⟨rfl, rfl, rfl, by decide +kernel, rfl, by decide +kernel, by decide +kernel⟩
def d_is_evidence_item : He.DefD := ⟨("is_evidence_item", none), "is_evidence_item", "is_evidence_item", defArgs s_is_evidence_item, defBody s_is_evidence_item, defScope s_is_evidence_item, [], []⟩
abbrev s_require_evidence : Stmt := top 44
theorem sc_require_evidence : FnScope ["code", "name", "value", "index", "item"] ["code", "name", "value"] (defScope s_require_evidence) := ⟨rfl, rfl, rfl, by decide +kernel, rfl, by decide +kernel, by decide +kernel⟩
def d_require_evidence : He.DefD := ⟨("require_evidence", none), "require_evidence", "require_evidence", defArgs s_require_evidence, defBody s_require_evidence, defScope s_require_evidence, [], []⟩
abbrev s_require_asked : Stmt := top 45
theorem sc_require_asked : FnScope ["code", "name", "many", "evidence", "factor"] ["code", "name", "many", "evidence", "factor"] (defScope s_require_asked) := ⟨rfl, rfl, rfl, by decide +kernel, rfl, by decide +kernel, by decide +kernel⟩
def d_require_asked : He.DefD := ⟨("require_asked", none), "require_asked", "require_asked", defArgs s_require_asked, defBody s_require_asked, defScope s_require_asked, [], []⟩
abbrev s_cells_of : Stmt := top 46
theorem sc_cells_of : FnScope ["code", "many", "text", "start", "characters", "between", "stop", "found", "sign", "width", "index"] ["code", "many", "text"] (defScope s_cells_of) := ⟨rfl, rfl, rfl, by decide +kernel, rfl, by decide +kernel, by decide +kernel⟩
def d_cells_of : He.DefD := ⟨("cells_of", none), "cells_of", "cells_of", defArgs s_cells_of, defBody s_cells_of, defScope s_cells_of, [], []⟩
abbrev s_wrong_pairs : Stmt := top 47
theorem sc_wrong_pairs : FnScope ["code", "many", "item", "factor", "text", "scan", "cells", "found", "place", "before", "widths", "here", "others", "one", "other"] ["code", "many", "item", "factor"] (defScope s_wrong_pairs) := ⟨rfl, rfl, rfl, by decide +kernel, rfl, by decide +kernel, by decide +kernel⟩
def d_wrong_pairs : He.DefD := ⟨("wrong_pairs", none), "wrong_pairs", "wrong_pairs", defArgs s_wrong_pairs, defBody s_wrong_pairs, defScope s_wrong_pairs, [], []⟩
abbrev s_is_let : Stmt := top 48
theorem sc_is_let : FnScope ["widths", "wrong", "before", "one", "here", "other"] ["widths", "wrong"] (defScope s_is_let) := ⟨rfl, rfl, rfl, by decide +kernel, rfl, by decide +kernel, by decide +kernel⟩
def d_is_let : He.DefD := ⟨("is_let", none), "is_let", "is_let", defArgs s_is_let, defBody s_is_let, defScope s_is_let, [], []⟩
abbrev s_last_index : Stmt := top 49
theorem sc_last_index : FnScope ["row", "index"] ["row"] (defScope s_last_index) := ⟨rfl, rfl, rfl, by decide +kernel, rfl, by decide +kernel, by decide +kernel⟩
def d_last_index : He.DefD := ⟨("last_index", none), "last_index", "last_index", defArgs s_last_index, defBody s_last_index, defScope s_last_index, [], []⟩
abbrev s_all_widths : Stmt := top 50
theorem sc_all_widths : FnScope ["code", "many", "evidence", "factor", "wrong", "item", "rows", "row", "found", "index", "longer", "widths", "width"] ["code", "many", "evidence", "factor"] (defScope s_all_widths) := ⟨rfl, rfl, rfl, by decide +kernel, rfl, by decide +kernel, by decide +kernel⟩
def d_all_widths : He.DefD := ⟨("all_widths", none), "all_widths", "all_widths", defArgs s_all_widths, defBody s_all_widths, defScope s_all_widths, [], []⟩
abbrev s_count_widths : Stmt := top 51
theorem sc_count_widths : FnScope ["code", "name", "many", "evidence", "factor"] ["code", "name", "many", "evidence", "factor"] (defScope s_count_widths) := ⟨rfl, rfl, rfl, by decide +kernel, rfl, by decide +kernel, by decide +kernel⟩
def d_count_widths : He.DefD := ⟨("count_widths", none), "count_widths", "count_widths", defArgs s_count_widths, defBody s_count_widths, defScope s_count_widths, [], []⟩
abbrev s_nth_widths : Stmt := top 52
theorem sc_nth_widths : FnScope ["code", "name", "many", "evidence", "factor", "index", "found"] ["code", "name", "many", "evidence", "factor", "index"] (defScope s_nth_widths) := ⟨rfl, rfl, rfl, by decide +kernel, rfl, by decide +kernel, by decide +kernel⟩
def d_nth_widths : He.DefD := ⟨("nth_widths", none), "nth_widths", "nth_widths", defArgs s_nth_widths, defBody s_nth_widths, defScope s_nth_widths, [], []⟩
abbrev s_sure_widths : Stmt := top 53
theorem sc_sure_widths : FnScope ["code", "name", "many", "evidence", "factor", "found", "same", "index", "row", "width", "is_same"] ["code", "name", "many", "evidence", "factor"] (defScope s_sure_widths) := ⟨rfl, rfl, rfl, by decide +kernel, rfl, by decide +kernel, by decide +kernel⟩
def d_sure_widths : He.DefD := ⟨("sure_widths", none), "sure_widths", "sure_widths", defArgs s_sure_widths, defBody s_sure_widths, defScope s_sure_widths, [], []⟩
abbrev s_with_character : Stmt := top 55
theorem sc_with_character : FnScope ["code", "name", "widths"] ["code", "name", "widths"] (defScope s_with_character) := ⟨rfl, rfl, rfl, by decide +kernel, rfl, by decide +kernel, by decide +kernel⟩
def d_with_character : He.DefD := ⟨("with_character", none), "with_character", "with_character", defArgs s_with_character, defBody s_with_character, defScope s_with_character, [], []⟩
abbrev s_is_reading : Stmt := top 57
theorem sc_is_reading : FnScope ["code", "text", "scan", "factor"] ["code", "text", "scan", "factor"] (defScope s_is_reading) := ⟨rfl, rfl, rfl, by decide +kernel, rfl, by decide +kernel, by decide +kernel⟩
def d_is_reading : He.DefD := ⟨("is_reading", none), "is_reading", "is_reading", defArgs s_is_reading, defBody s_is_reading, defScope s_is_reading, [], []⟩
abbrev s__law_fount : Stmt := top 59
theorem sc__law_fount : FnScope ["script", "k", "cell"] ["script", "k"] (defScope s__law_fount) := ⟨rfl, rfl, rfl, by decide +kernel, rfl, by decide +kernel, by decide +kernel⟩
def d__law_fount : He.DefD := ⟨("_law_fount", none), "_law_fount", "_law_fount", defArgs s__law_fount, defBody s__law_fount, defScope s__law_fount, [], []⟩
abbrev s__law_dip : Stmt := top 60
theorem sc__law_dip : FnScope ["fount", "many", "digit", "mixed"] ["fount", "many"] (defScope s__law_dip) := ⟨rfl, rfl, rfl, by decide +kernel, rfl, by decide +kernel, by decide +kernel⟩
def d__law_dip : He.DefD := ⟨("_law_dip", none), "_law_dip", "_law_dip", defArgs s__law_dip, defBody s__law_dip, defScope s__law_dip, [], []⟩
abbrev s__law_widths : Stmt := top 61
theorem sc__law_widths : FnScope ["fount", "least", "most", "top", "turn"] ["fount", "least", "most"] (defScope s__law_widths) := ⟨rfl, rfl, rfl, by decide +kernel, rfl, by decide +kernel, by decide +kernel⟩
def d__law_widths : He.DefD := ⟨("_law_widths", none), "_law_widths", "_law_widths", defArgs s__law_widths, defBody s__law_widths, defScope s__law_widths, [], []⟩
abbrev s__law_characters : Stmt := top 62
theorem sc__law_characters : FnScope ["fount", "many", "most", "left", "found", "way", "size", "turn", "name", "known", "widths", "at"] ["fount", "many", "most"] (defScope s__law_characters) := ⟨rfl, rfl, rfl, by decide +kernel, rfl, by decide +kernel, by decide +kernel⟩
def d__law_characters : He.DefD := ⟨("_law_characters", none), "_law_characters", "_law_characters", defArgs s__law_characters, defBody s__law_characters, defScope s__law_characters, [], []⟩
abbrev s__law_code : Stmt := top 63
theorem sc__law_code : FnScope ["fount", "many", "most", "top", "start", "some", "between"] ["fount", "many", "most"] (defScope s__law_code) := ⟨rfl, rfl, rfl, by decide +kernel, rfl, by decide +kernel, by decide +kernel⟩
def d__law_code : He.DefD := ⟨("_law_code", none), "_law_code", "_law_code", defArgs s__law_code, defBody s__law_code, defScope s__law_code, [], []⟩
abbrev s__law_row : Stmt := top 64
theorem sc__law_row : FnScope ["code", "text", "found", "name"] ["code", "text"] (defScope s__law_row) := ⟨rfl, rfl, rfl, by decide +kernel, rfl, by decide +kernel, by decide +kernel⟩
def d__law_row : He.DefD := ⟨("_law_row", none), "_law_row", "_law_row", defArgs s__law_row, defBody s__law_row, defScope s__law_row, [], []⟩
abbrev s__law_factor : Stmt := top 65
theorem sc__law_factor : FnScope ["fount", "far", "low", "some"] ["fount"] (defScope s__law_factor) := ⟨rfl, rfl, rfl, by decide +kernel, rfl, by decide +kernel, by decide +kernel⟩
def d__law_factor : He.DefD := ⟨("_law_factor", none), "_law_factor", "_law_factor", defArgs s__law_factor, defBody s__law_factor, defScope s__law_factor, [], []⟩
abbrev s__law_scan : Stmt := top 66
theorem sc__law_scan : FnScope ["fount", "row", "factor", "ups", "downs", "turn", "at", "found", "size", "width", "spot", "unit", "one"] ["fount", "row", "factor"] (defScope s__law_scan) := ⟨rfl, rfl, rfl, by decide +kernel, rfl, by decide +kernel, by decide +kernel⟩
def d__law_scan : He.DefD := ⟨("_law_scan", none), "_law_scan", "_law_scan", defArgs s__law_scan, defBody s__law_scan, defScope s__law_scan, [], []⟩
abbrev s__law_tuples : Stmt := top 67
theorem sc__law_tuples : FnScope ["many", "found", "turn", "longer", "some", "width"] ["many"] (defScope s__law_tuples) := ⟨rfl, rfl, rfl, by decide +kernel, rfl, by decide +kernel, by decide +kernel⟩
def d__law_tuples : He.DefD := ⟨("_law_tuples", none), "_law_tuples", "_law_tuples", defArgs s__law_tuples, defBody s__law_tuples, defScope s__law_tuples, [], []⟩
abbrev s__law_explaining : Stmt := top 68
theorem sc__law_explaining : FnScope ["code", "name", "many", "evidence", "factor", "found", "widths", "wide", "text", "scan"] ["code", "name", "many", "evidence", "factor"] (defScope s__law_explaining) := ⟨rfl, rfl, rfl, by decide +kernel, rfl, by decide +kernel, by decide +kernel⟩
def d__law_explaining : He.DefD := ⟨("_law_explaining", none), "_law_explaining", "_law_explaining", defArgs s__law_explaining, defBody s__law_explaining, defScope s__law_explaining, [], []⟩
abbrev s__law_right : Stmt := top 69
theorem sc__law_right : FnScope ["fount", "code", "name", "widths", "evidence", "factor", "many", "due", "spots", "spot", "less", "sure", "rows", "at", "one", "row"] ["fount", "code", "name", "widths", "evidence", "factor"] (defScope s__law_right) := ⟨rfl, rfl, rfl, by decide +kernel, rfl, by decide +kernel, by decide +kernel⟩
def d__law_right : He.DefD := ⟨("_law_right", none), "_law_right", "_law_right", defArgs s__law_right, defBody s__law_right, defScope s__law_right, [], []⟩
abbrev s_law : Stmt := top 70
theorem sc_law : FnScope ["script", "k", "fount", "code", "widths", "factor", "evidence", "names_here", "wide", "lap", "size", "text", "part"] ["script"] (defScope s_law) := ⟨rfl, rfl, rfl, by decide +kernel, rfl, by decide +kernel, by decide +kernel⟩
def d_law : He.DefD := ⟨("law", none), "law", "law", defArgs s_law, defBody s_law, defScope s_law, [], []⟩
def inCls (s : Stmt) (j : Nat) : Stmt := match s with
  | .ClassDef _ _ _ body _ _ _ _ _ _ _ => body.getD j (.Pass ⟨0, 0, 0, 0⟩)
  | _ => .Pass ⟨0, 0, 0, 0⟩
abbrev si_InvalidCode : Stmt := inCls (top 7) 0
theorem sci_InvalidCode : FnScope ["self", "part", "name"] ["self", "part", "name"] (defScope si_InvalidCode) := ⟨rfl, rfl, rfl, by decide +kernel, rfl, by decide +kernel, by decide +kernel⟩
def di_InvalidCode : He.DefD := ⟨("InvalidCode", some "__init__"), "__init__", "InvalidCode.__init__", defArgs si_InvalidCode, defBody si_InvalidCode, defScope si_InvalidCode, [], []⟩
abbrev si_InvalidScan : Stmt := inCls (top 8) 0
theorem sci_InvalidScan : FnScope ["self", "index"] ["self", "index"] (defScope si_InvalidScan) := ⟨rfl, rfl, rfl, by decide +kernel, rfl, by decide +kernel, by decide +kernel⟩
def di_InvalidScan : He.DefD := ⟨("InvalidScan", some "__init__"), "__init__", "InvalidScan.__init__", defArgs si_InvalidScan, defBody si_InvalidScan, defScope si_InvalidScan, [], []⟩
abbrev si_InvalidEvidence : Stmt := inCls (top 9) 0
theorem sci_InvalidEvidence : FnScope ["self", "index"] ["self", "index"] (defScope si_InvalidEvidence) := ⟨rfl, rfl, rfl, by decide +kernel, rfl, by decide +kernel, by decide +kernel⟩
def di_InvalidEvidence : He.DefD := ⟨("InvalidEvidence", some "__init__"), "__init__", "InvalidEvidence.__init__", defArgs si_InvalidEvidence, defBody si_InvalidEvidence, defScope si_InvalidEvidence, [], []⟩
abbrev si_TooLarge : Stmt := inCls (top 10) 0
theorem sci_TooLarge : FnScope ["self", "limit"] ["self", "limit"] (defScope si_TooLarge) := ⟨rfl, rfl, rfl, by decide +kernel, rfl, by decide +kernel, by decide +kernel⟩
def di_TooLarge : He.DefD := ⟨("TooLarge", some "__init__"), "__init__", "TooLarge.__init__", defArgs si_TooLarge, defBody si_TooLarge, defScope si_TooLarge, [], []⟩
def exB (K : PySem.W.Frag) : Bool := ownX K "InvalidCode" && ownX K "InvalidScan" && ownX K "InvalidEvidence" && ownX K "TooLarge" && parX K "ScanError" && tupB K "WIDTHS" [1, 2, 3, 4]
def fn : List He.DefD := [d_is_integer, d_is_name, d_are_widths, d_is_widths, d_fault_of_characters, d_fault_of_code, d_require_code, d_is_text, d_require_text, d_fault_of_scan, d_require_scan, d_divisor, d_lowest, d_is_fraction, d_is_factor, d_require_factor, d_require_index, d_is_above, d_step_of, d_row_by, d_greatest_step, d_strain_of, d_is_within, d_code_with, d_is_evidence_item, d_require_evidence, d_require_asked, d_cells_of, d_wrong_pairs, d_is_let, d_last_index, d_all_widths, d_count_widths, d_nth_widths, d_sure_widths, d_with_character, d_is_reading, d__law_fount, d__law_dip, d__law_widths, d__law_characters, d__law_code, d__law_row, d__law_factor, d__law_scan, d__law_tuples, d__law_explaining, d__law_right, d_law, di_InvalidCode, di_InvalidScan, di_InvalidEvidence, di_TooLarge]
def fa : List He.Fa := [.glo "is_integer", .glo "is_name", .glo "are_widths", .glo "is_widths", .glo "fault_of_characters", .glo "fault_of_code", .glo "require_code", .glo "is_text", .glo "require_text", .glo "fault_of_scan", .glo "require_scan", .glo "divisor", .glo "lowest", .glo "is_fraction", .glo "is_factor", .glo "require_factor", .glo "require_index", .glo "is_above", .glo "step_of", .glo "row_by", .glo "greatest_step", .glo "strain_of", .glo "is_within", .glo "code_with", .glo "is_evidence_item", .glo "require_evidence", .glo "require_asked", .glo "cells_of", .glo "wrong_pairs", .glo "is_let", .glo "last_index", .glo "all_widths", .glo "count_widths", .glo "nth_widths", .glo "sure_widths", .glo "with_character", .glo "is_reading", .glo "_law_fount", .glo "_law_dip", .glo "_law_widths", .glo "_law_characters", .glo "_law_code", .glo "_law_row", .glo "_law_factor", .glo "_law_scan", .glo "_law_tuples", .glo "_law_explaining", .glo "_law_right", .glo "law", .str "NAMES" "0123456789abcdefghijklmnopqrstuvwxyz", .int "MOST_CHARACTERS" 10, .int "MOST_DURATIONS" 400, .int "MOST_EVIDENCE" 8, .int "MOST_WIDTHS" 6, .glo "WIDTHS", .glo "ScanError", .glo "InvalidText", .glo "InvalidFactor", .glo "InvalidNumber", .glo "InvalidName", .glo "InvalidWidths", .glo "InvalidCode", .glo "InvalidScan", .glo "InvalidEvidence", .glo "TooLarge", .noat "InvalidCode" "part", .noat "InvalidCode" "name", .exm "InvalidCode" "ScanError" true, .exm "InvalidCode" "InvalidText" false, .exm "InvalidCode" "InvalidFactor" false, .exm "InvalidCode" "InvalidNumber" false, .exm "InvalidCode" "InvalidName" false, .exm "InvalidCode" "InvalidWidths" false, .exm "InvalidCode" "InvalidCode" true, .exm "InvalidCode" "InvalidScan" false, .exm "InvalidCode" "InvalidEvidence" false, .exm "InvalidCode" "TooLarge" false, .noat "InvalidScan" "index", .exm "InvalidScan" "ScanError" true, .exm "InvalidScan" "InvalidText" false, .exm "InvalidScan" "InvalidFactor" false, .exm "InvalidScan" "InvalidNumber" false, .exm "InvalidScan" "InvalidName" false, .exm "InvalidScan" "InvalidWidths" false, .exm "InvalidScan" "InvalidCode" false, .exm "InvalidScan" "InvalidScan" true, .exm "InvalidScan" "InvalidEvidence" false, .exm "InvalidScan" "TooLarge" false, .noat "InvalidEvidence" "index", .exm "InvalidEvidence" "ScanError" true, .exm "InvalidEvidence" "InvalidText" false, .exm "InvalidEvidence" "InvalidFactor" false, .exm "InvalidEvidence" "InvalidNumber" false, .exm "InvalidEvidence" "InvalidName" false, .exm "InvalidEvidence" "InvalidWidths" false, .exm "InvalidEvidence" "InvalidCode" false, .exm "InvalidEvidence" "InvalidScan" false, .exm "InvalidEvidence" "InvalidEvidence" true, .exm "InvalidEvidence" "TooLarge" false, .noat "TooLarge" "limit", .exm "TooLarge" "ScanError" true, .exm "TooLarge" "InvalidText" false, .exm "TooLarge" "InvalidFactor" false, .exm "TooLarge" "InvalidNumber" false, .exm "TooLarge" "InvalidName" false, .exm "TooLarge" "InvalidWidths" false, .exm "TooLarge" "InvalidCode" false, .exm "TooLarge" "InvalidScan" false, .exm "TooLarge" "InvalidEvidence" false, .exm "TooLarge" "TooLarge" true, .free "abs", .free "all", .free "bool", .free "dict", .free "enumerate", .free "int", .free "isinstance", .free "len", .free "list", .free "max", .free "min", .free "range", .free "set", .free "sorted", .free "str", .free "tuple", .free "zip"]
/-- what the top has left -/
def Tx (K : PySem.W.Frag) (mg : Str → Option Value) : Prop := ∃ h : Heap, K.In h ∧ h.Ns mainGlobals mg ∧ He.SaysD fa fn K ∧ exB K = true
section
variable {K : PySem.W.Frag} {mg : Str → Option Value}
theorem Tx.g_is_integer (T : Tx K mg) : mg "is_integer" = some (.ref (He.ga K "is_integer")) := let ⟨_, X, G, c, _⟩ := T; He.glo_ok X G (c.fact 0 (f := .glo "is_integer") rfl)
theorem Tx.f_is_integer (T : Tx K mg) : ∃ fd, FunD K "is_integer" "is_integer" (defArgs s_is_integer) (defBody s_is_integer) (defScope s_is_integer) (d_is_integer.dvs K) (d_is_integer.kws K) (He.ga K "is_integer") fd := let ⟨_, X, G, c, _⟩ := T; c.def_ 0 (d := d_is_integer) rfl
theorem Tx.g_is_name (T : Tx K mg) : mg "is_name" = some (.ref (He.ga K "is_name")) := let ⟨_, X, G, c, _⟩ := T; He.glo_ok X G (c.fact 1 (f := .glo "is_name") rfl)
theorem Tx.f_is_name (T : Tx K mg) : ∃ fd, FunD K "is_name" "is_name" (defArgs s_is_name) (defBody s_is_name) (defScope s_is_name) (d_is_name.dvs K) (d_is_name.kws K) (He.ga K "is_name") fd := let ⟨_, X, G, c, _⟩ := T; c.def_ 1 (d := d_is_name) rfl
theorem Tx.g_are_widths (T : Tx K mg) : mg "are_widths" = some (.ref (He.ga K "are_widths")) := let ⟨_, X, G, c, _⟩ := T; He.glo_ok X G (c.fact 2 (f := .glo "are_widths") rfl)
theorem Tx.f_are_widths (T : Tx K mg) : ∃ fd, FunD K "are_widths" "are_widths" (defArgs s_are_widths) (defBody s_are_widths) (defScope s_are_widths) (d_are_widths.dvs K) (d_are_widths.kws K) (He.ga K "are_widths") fd := let ⟨_, X, G, c, _⟩ := T; c.def_ 2 (d := d_are_widths) rfl
theorem Tx.g_is_widths (T : Tx K mg) : mg "is_widths" = some (.ref (He.ga K "is_widths")) := let ⟨_, X, G, c, _⟩ := T; He.glo_ok X G (c.fact 3 (f := .glo "is_widths") rfl)
theorem Tx.f_is_widths (T : Tx K mg) : ∃ fd, FunD K "is_widths" "is_widths" (defArgs s_is_widths) (defBody s_is_widths) (defScope s_is_widths) (d_is_widths.dvs K) (d_is_widths.kws K) (He.ga K "is_widths") fd := let ⟨_, X, G, c, _⟩ := T; c.def_ 3 (d := d_is_widths) rfl
theorem Tx.g_fault_of_characters (T : Tx K mg) : mg "fault_of_characters" = some (.ref (He.ga K "fault_of_characters")) := let ⟨_, X, G, c, _⟩ := T; He.glo_ok X G (c.fact 4 (f := .glo "fault_of_characters") rfl)
theorem Tx.f_fault_of_characters (T : Tx K mg) : ∃ fd, FunD K "fault_of_characters" "fault_of_characters" (defArgs s_fault_of_characters) (defBody s_fault_of_characters) (defScope s_fault_of_characters) (d_fault_of_characters.dvs K) (d_fault_of_characters.kws K) (He.ga K "fault_of_characters") fd := let ⟨_, X, G, c, _⟩ := T; c.def_ 4 (d := d_fault_of_characters) rfl
theorem Tx.g_fault_of_code (T : Tx K mg) : mg "fault_of_code" = some (.ref (He.ga K "fault_of_code")) := let ⟨_, X, G, c, _⟩ := T; He.glo_ok X G (c.fact 5 (f := .glo "fault_of_code") rfl)
theorem Tx.f_fault_of_code (T : Tx K mg) : ∃ fd, FunD K "fault_of_code" "fault_of_code" (defArgs s_fault_of_code) (defBody s_fault_of_code) (defScope s_fault_of_code) (d_fault_of_code.dvs K) (d_fault_of_code.kws K) (He.ga K "fault_of_code") fd := let ⟨_, X, G, c, _⟩ := T; c.def_ 5 (d := d_fault_of_code) rfl
theorem Tx.g_require_code (T : Tx K mg) : mg "require_code" = some (.ref (He.ga K "require_code")) := let ⟨_, X, G, c, _⟩ := T; He.glo_ok X G (c.fact 6 (f := .glo "require_code") rfl)
theorem Tx.f_require_code (T : Tx K mg) : ∃ fd, FunD K "require_code" "require_code" (defArgs s_require_code) (defBody s_require_code) (defScope s_require_code) (d_require_code.dvs K) (d_require_code.kws K) (He.ga K "require_code") fd := let ⟨_, X, G, c, _⟩ := T; c.def_ 6 (d := d_require_code) rfl
theorem Tx.g_is_text (T : Tx K mg) : mg "is_text" = some (.ref (He.ga K "is_text")) := let ⟨_, X, G, c, _⟩ := T; He.glo_ok X G (c.fact 7 (f := .glo "is_text") rfl)
theorem Tx.f_is_text (T : Tx K mg) : ∃ fd, FunD K "is_text" "is_text" (defArgs s_is_text) (defBody s_is_text) (defScope s_is_text) (d_is_text.dvs K) (d_is_text.kws K) (He.ga K "is_text") fd := let ⟨_, X, G, c, _⟩ := T; c.def_ 7 (d := d_is_text) rfl
theorem Tx.g_require_text (T : Tx K mg) : mg "require_text" = some (.ref (He.ga K "require_text")) := let ⟨_, X, G, c, _⟩ := T; He.glo_ok X G (c.fact 8 (f := .glo "require_text") rfl)
theorem Tx.f_require_text (T : Tx K mg) : ∃ fd, FunD K "require_text" "require_text" (defArgs s_require_text) (defBody s_require_text) (defScope s_require_text) (d_require_text.dvs K) (d_require_text.kws K) (He.ga K "require_text") fd := let ⟨_, X, G, c, _⟩ := T; c.def_ 8 (d := d_require_text) rfl
theorem Tx.g_fault_of_scan (T : Tx K mg) : mg "fault_of_scan" = some (.ref (He.ga K "fault_of_scan")) := let ⟨_, X, G, c, _⟩ := T; He.glo_ok X G (c.fact 9 (f := .glo "fault_of_scan") rfl)
theorem Tx.f_fault_of_scan (T : Tx K mg) : ∃ fd, FunD K "fault_of_scan" "fault_of_scan" (defArgs s_fault_of_scan) (defBody s_fault_of_scan) (defScope s_fault_of_scan) (d_fault_of_scan.dvs K) (d_fault_of_scan.kws K) (He.ga K "fault_of_scan") fd := let ⟨_, X, G, c, _⟩ := T; c.def_ 9 (d := d_fault_of_scan) rfl
theorem Tx.g_require_scan (T : Tx K mg) : mg "require_scan" = some (.ref (He.ga K "require_scan")) := let ⟨_, X, G, c, _⟩ := T; He.glo_ok X G (c.fact 10 (f := .glo "require_scan") rfl)
theorem Tx.f_require_scan (T : Tx K mg) : ∃ fd, FunD K "require_scan" "require_scan" (defArgs s_require_scan) (defBody s_require_scan) (defScope s_require_scan) (d_require_scan.dvs K) (d_require_scan.kws K) (He.ga K "require_scan") fd := let ⟨_, X, G, c, _⟩ := T; c.def_ 10 (d := d_require_scan) rfl
theorem Tx.g_divisor (T : Tx K mg) : mg "divisor" = some (.ref (He.ga K "divisor")) := let ⟨_, X, G, c, _⟩ := T; He.glo_ok X G (c.fact 11 (f := .glo "divisor") rfl)
theorem Tx.f_divisor (T : Tx K mg) : ∃ fd, FunD K "divisor" "divisor" (defArgs s_divisor) (defBody s_divisor) (defScope s_divisor) (d_divisor.dvs K) (d_divisor.kws K) (He.ga K "divisor") fd := let ⟨_, X, G, c, _⟩ := T; c.def_ 11 (d := d_divisor) rfl
theorem Tx.g_lowest (T : Tx K mg) : mg "lowest" = some (.ref (He.ga K "lowest")) := let ⟨_, X, G, c, _⟩ := T; He.glo_ok X G (c.fact 12 (f := .glo "lowest") rfl)
theorem Tx.f_lowest (T : Tx K mg) : ∃ fd, FunD K "lowest" "lowest" (defArgs s_lowest) (defBody s_lowest) (defScope s_lowest) (d_lowest.dvs K) (d_lowest.kws K) (He.ga K "lowest") fd := let ⟨_, X, G, c, _⟩ := T; c.def_ 12 (d := d_lowest) rfl
theorem Tx.g_is_fraction (T : Tx K mg) : mg "is_fraction" = some (.ref (He.ga K "is_fraction")) := let ⟨_, X, G, c, _⟩ := T; He.glo_ok X G (c.fact 13 (f := .glo "is_fraction") rfl)
theorem Tx.f_is_fraction (T : Tx K mg) : ∃ fd, FunD K "is_fraction" "is_fraction" (defArgs s_is_fraction) (defBody s_is_fraction) (defScope s_is_fraction) (d_is_fraction.dvs K) (d_is_fraction.kws K) (He.ga K "is_fraction") fd := let ⟨_, X, G, c, _⟩ := T; c.def_ 13 (d := d_is_fraction) rfl
theorem Tx.g_is_factor (T : Tx K mg) : mg "is_factor" = some (.ref (He.ga K "is_factor")) := let ⟨_, X, G, c, _⟩ := T; He.glo_ok X G (c.fact 14 (f := .glo "is_factor") rfl)
theorem Tx.f_is_factor (T : Tx K mg) : ∃ fd, FunD K "is_factor" "is_factor" (defArgs s_is_factor) (defBody s_is_factor) (defScope s_is_factor) (d_is_factor.dvs K) (d_is_factor.kws K) (He.ga K "is_factor") fd := let ⟨_, X, G, c, _⟩ := T; c.def_ 14 (d := d_is_factor) rfl
theorem Tx.g_require_factor (T : Tx K mg) : mg "require_factor" = some (.ref (He.ga K "require_factor")) := let ⟨_, X, G, c, _⟩ := T; He.glo_ok X G (c.fact 15 (f := .glo "require_factor") rfl)
theorem Tx.f_require_factor (T : Tx K mg) : ∃ fd, FunD K "require_factor" "require_factor" (defArgs s_require_factor) (defBody s_require_factor) (defScope s_require_factor) (d_require_factor.dvs K) (d_require_factor.kws K) (He.ga K "require_factor") fd := let ⟨_, X, G, c, _⟩ := T; c.def_ 15 (d := d_require_factor) rfl
theorem Tx.g_require_index (T : Tx K mg) : mg "require_index" = some (.ref (He.ga K "require_index")) := let ⟨_, X, G, c, _⟩ := T; He.glo_ok X G (c.fact 16 (f := .glo "require_index") rfl)
theorem Tx.f_require_index (T : Tx K mg) : ∃ fd, FunD K "require_index" "require_index" (defArgs s_require_index) (defBody s_require_index) (defScope s_require_index) (d_require_index.dvs K) (d_require_index.kws K) (He.ga K "require_index") fd := let ⟨_, X, G, c, _⟩ := T; c.def_ 16 (d := d_require_index) rfl
theorem Tx.g_is_above (T : Tx K mg) : mg "is_above" = some (.ref (He.ga K "is_above")) := let ⟨_, X, G, c, _⟩ := T; He.glo_ok X G (c.fact 17 (f := .glo "is_above") rfl)
theorem Tx.f_is_above (T : Tx K mg) : ∃ fd, FunD K "is_above" "is_above" (defArgs s_is_above) (defBody s_is_above) (defScope s_is_above) (d_is_above.dvs K) (d_is_above.kws K) (He.ga K "is_above") fd := let ⟨_, X, G, c, _⟩ := T; c.def_ 17 (d := d_is_above) rfl
theorem Tx.g_step_of (T : Tx K mg) : mg "step_of" = some (.ref (He.ga K "step_of")) := let ⟨_, X, G, c, _⟩ := T; He.glo_ok X G (c.fact 18 (f := .glo "step_of") rfl)
theorem Tx.f_step_of (T : Tx K mg) : ∃ fd, FunD K "step_of" "step_of" (defArgs s_step_of) (defBody s_step_of) (defScope s_step_of) (d_step_of.dvs K) (d_step_of.kws K) (He.ga K "step_of") fd := let ⟨_, X, G, c, _⟩ := T; c.def_ 18 (d := d_step_of) rfl
theorem Tx.g_row_by (T : Tx K mg) : mg "row_by" = some (.ref (He.ga K "row_by")) := let ⟨_, X, G, c, _⟩ := T; He.glo_ok X G (c.fact 19 (f := .glo "row_by") rfl)
theorem Tx.f_row_by (T : Tx K mg) : ∃ fd, FunD K "row_by" "row_by" (defArgs s_row_by) (defBody s_row_by) (defScope s_row_by) (d_row_by.dvs K) (d_row_by.kws K) (He.ga K "row_by") fd := let ⟨_, X, G, c, _⟩ := T; c.def_ 19 (d := d_row_by) rfl
theorem Tx.g_greatest_step (T : Tx K mg) : mg "greatest_step" = some (.ref (He.ga K "greatest_step")) := let ⟨_, X, G, c, _⟩ := T; He.glo_ok X G (c.fact 20 (f := .glo "greatest_step") rfl)
theorem Tx.f_greatest_step (T : Tx K mg) : ∃ fd, FunD K "greatest_step" "greatest_step" (defArgs s_greatest_step) (defBody s_greatest_step) (defScope s_greatest_step) (d_greatest_step.dvs K) (d_greatest_step.kws K) (He.ga K "greatest_step") fd := let ⟨_, X, G, c, _⟩ := T; c.def_ 20 (d := d_greatest_step) rfl
theorem Tx.g_strain_of (T : Tx K mg) : mg "strain_of" = some (.ref (He.ga K "strain_of")) := let ⟨_, X, G, c, _⟩ := T; He.glo_ok X G (c.fact 21 (f := .glo "strain_of") rfl)
theorem Tx.f_strain_of (T : Tx K mg) : ∃ fd, FunD K "strain_of" "strain_of" (defArgs s_strain_of) (defBody s_strain_of) (defScope s_strain_of) (d_strain_of.dvs K) (d_strain_of.kws K) (He.ga K "strain_of") fd := let ⟨_, X, G, c, _⟩ := T; c.def_ 21 (d := d_strain_of) rfl
theorem Tx.g_is_within (T : Tx K mg) : mg "is_within" = some (.ref (He.ga K "is_within")) := let ⟨_, X, G, c, _⟩ := T; He.glo_ok X G (c.fact 22 (f := .glo "is_within") rfl)
theorem Tx.f_is_within (T : Tx K mg) : ∃ fd, FunD K "is_within" "is_within" (defArgs s_is_within) (defBody s_is_within) (defScope s_is_within) (d_is_within.dvs K) (d_is_within.kws K) (He.ga K "is_within") fd := let ⟨_, X, G, c, _⟩ := T; c.def_ 22 (d := d_is_within) rfl
theorem Tx.g_code_with (T : Tx K mg) : mg "code_with" = some (.ref (He.ga K "code_with")) := let ⟨_, X, G, c, _⟩ := T; He.glo_ok X G (c.fact 23 (f := .glo "code_with") rfl)
theorem Tx.f_code_with (T : Tx K mg) : ∃ fd, FunD K "code_with" "code_with" (defArgs s_code_with) (defBody s_code_with) (defScope s_code_with) (d_code_with.dvs K) (d_code_with.kws K) (He.ga K "code_with") fd := let ⟨_, X, G, c, _⟩ := T; c.def_ 23 (d := d_code_with) rfl
theorem Tx.g_is_evidence_item (T : Tx K mg) : mg "is_evidence_item" = some (.ref (He.ga K "is_evidence_item")) := let ⟨_, X, G, c, _⟩ := T; He.glo_ok X G (c.fact 24 (f := .glo "is_evidence_item") rfl)
theorem Tx.f_is_evidence_item (T : Tx K mg) : ∃ fd, FunD K "is_evidence_item" "is_evidence_item" (defArgs s_is_evidence_item) (defBody s_is_evidence_item) (defScope s_is_evidence_item) (d_is_evidence_item.dvs K) (d_is_evidence_item.kws K) (He.ga K "is_evidence_item") fd := let ⟨_, X, G, c, _⟩ := T; c.def_ 24 (d := d_is_evidence_item) rfl
theorem Tx.g_require_evidence (T : Tx K mg) : mg "require_evidence" = some (.ref (He.ga K "require_evidence")) := let ⟨_, X, G, c, _⟩ := T; He.glo_ok X G (c.fact 25 (f := .glo "require_evidence") rfl)
theorem Tx.f_require_evidence (T : Tx K mg) : ∃ fd, FunD K "require_evidence" "require_evidence" (defArgs s_require_evidence) (defBody s_require_evidence) (defScope s_require_evidence) (d_require_evidence.dvs K) (d_require_evidence.kws K) (He.ga K "require_evidence") fd := let ⟨_, X, G, c, _⟩ := T; c.def_ 25 (d := d_require_evidence) rfl
theorem Tx.g_require_asked (T : Tx K mg) : mg "require_asked" = some (.ref (He.ga K "require_asked")) := let ⟨_, X, G, c, _⟩ := T; He.glo_ok X G (c.fact 26 (f := .glo "require_asked") rfl)
theorem Tx.f_require_asked (T : Tx K mg) : ∃ fd, FunD K "require_asked" "require_asked" (defArgs s_require_asked) (defBody s_require_asked) (defScope s_require_asked) (d_require_asked.dvs K) (d_require_asked.kws K) (He.ga K "require_asked") fd := let ⟨_, X, G, c, _⟩ := T; c.def_ 26 (d := d_require_asked) rfl
theorem Tx.g_cells_of (T : Tx K mg) : mg "cells_of" = some (.ref (He.ga K "cells_of")) := let ⟨_, X, G, c, _⟩ := T; He.glo_ok X G (c.fact 27 (f := .glo "cells_of") rfl)
theorem Tx.f_cells_of (T : Tx K mg) : ∃ fd, FunD K "cells_of" "cells_of" (defArgs s_cells_of) (defBody s_cells_of) (defScope s_cells_of) (d_cells_of.dvs K) (d_cells_of.kws K) (He.ga K "cells_of") fd := let ⟨_, X, G, c, _⟩ := T; c.def_ 27 (d := d_cells_of) rfl
theorem Tx.g_wrong_pairs (T : Tx K mg) : mg "wrong_pairs" = some (.ref (He.ga K "wrong_pairs")) := let ⟨_, X, G, c, _⟩ := T; He.glo_ok X G (c.fact 28 (f := .glo "wrong_pairs") rfl)
theorem Tx.f_wrong_pairs (T : Tx K mg) : ∃ fd, FunD K "wrong_pairs" "wrong_pairs" (defArgs s_wrong_pairs) (defBody s_wrong_pairs) (defScope s_wrong_pairs) (d_wrong_pairs.dvs K) (d_wrong_pairs.kws K) (He.ga K "wrong_pairs") fd := let ⟨_, X, G, c, _⟩ := T; c.def_ 28 (d := d_wrong_pairs) rfl
theorem Tx.g_is_let (T : Tx K mg) : mg "is_let" = some (.ref (He.ga K "is_let")) := let ⟨_, X, G, c, _⟩ := T; He.glo_ok X G (c.fact 29 (f := .glo "is_let") rfl)
theorem Tx.f_is_let (T : Tx K mg) : ∃ fd, FunD K "is_let" "is_let" (defArgs s_is_let) (defBody s_is_let) (defScope s_is_let) (d_is_let.dvs K) (d_is_let.kws K) (He.ga K "is_let") fd := let ⟨_, X, G, c, _⟩ := T; c.def_ 29 (d := d_is_let) rfl
theorem Tx.g_last_index (T : Tx K mg) : mg "last_index" = some (.ref (He.ga K "last_index")) := let ⟨_, X, G, c, _⟩ := T; He.glo_ok X G (c.fact 30 (f := .glo "last_index") rfl)
theorem Tx.f_last_index (T : Tx K mg) : ∃ fd, FunD K "last_index" "last_index" (defArgs s_last_index) (defBody s_last_index) (defScope s_last_index) (d_last_index.dvs K) (d_last_index.kws K) (He.ga K "last_index") fd := let ⟨_, X, G, c, _⟩ := T; c.def_ 30 (d := d_last_index) rfl
theorem Tx.g_all_widths (T : Tx K mg) : mg "all_widths" = some (.ref (He.ga K "all_widths")) := let ⟨_, X, G, c, _⟩ := T; He.glo_ok X G (c.fact 31 (f := .glo "all_widths") rfl)
theorem Tx.f_all_widths (T : Tx K mg) : ∃ fd, FunD K "all_widths" "all_widths" (defArgs s_all_widths) (defBody s_all_widths) (defScope s_all_widths) (d_all_widths.dvs K) (d_all_widths.kws K) (He.ga K "all_widths") fd := let ⟨_, X, G, c, _⟩ := T; c.def_ 31 (d := d_all_widths) rfl
theorem Tx.g_count_widths (T : Tx K mg) : mg "count_widths" = some (.ref (He.ga K "count_widths")) := let ⟨_, X, G, c, _⟩ := T; He.glo_ok X G (c.fact 32 (f := .glo "count_widths") rfl)
theorem Tx.f_count_widths (T : Tx K mg) : ∃ fd, FunD K "count_widths" "count_widths" (defArgs s_count_widths) (defBody s_count_widths) (defScope s_count_widths) (d_count_widths.dvs K) (d_count_widths.kws K) (He.ga K "count_widths") fd := let ⟨_, X, G, c, _⟩ := T; c.def_ 32 (d := d_count_widths) rfl
theorem Tx.g_nth_widths (T : Tx K mg) : mg "nth_widths" = some (.ref (He.ga K "nth_widths")) := let ⟨_, X, G, c, _⟩ := T; He.glo_ok X G (c.fact 33 (f := .glo "nth_widths") rfl)
theorem Tx.f_nth_widths (T : Tx K mg) : ∃ fd, FunD K "nth_widths" "nth_widths" (defArgs s_nth_widths) (defBody s_nth_widths) (defScope s_nth_widths) (d_nth_widths.dvs K) (d_nth_widths.kws K) (He.ga K "nth_widths") fd := let ⟨_, X, G, c, _⟩ := T; c.def_ 33 (d := d_nth_widths) rfl
theorem Tx.g_sure_widths (T : Tx K mg) : mg "sure_widths" = some (.ref (He.ga K "sure_widths")) := let ⟨_, X, G, c, _⟩ := T; He.glo_ok X G (c.fact 34 (f := .glo "sure_widths") rfl)
theorem Tx.f_sure_widths (T : Tx K mg) : ∃ fd, FunD K "sure_widths" "sure_widths" (defArgs s_sure_widths) (defBody s_sure_widths) (defScope s_sure_widths) (d_sure_widths.dvs K) (d_sure_widths.kws K) (He.ga K "sure_widths") fd := let ⟨_, X, G, c, _⟩ := T; c.def_ 34 (d := d_sure_widths) rfl
theorem Tx.g_with_character (T : Tx K mg) : mg "with_character" = some (.ref (He.ga K "with_character")) := let ⟨_, X, G, c, _⟩ := T; He.glo_ok X G (c.fact 35 (f := .glo "with_character") rfl)
theorem Tx.f_with_character (T : Tx K mg) : ∃ fd, FunD K "with_character" "with_character" (defArgs s_with_character) (defBody s_with_character) (defScope s_with_character) (d_with_character.dvs K) (d_with_character.kws K) (He.ga K "with_character") fd := let ⟨_, X, G, c, _⟩ := T; c.def_ 35 (d := d_with_character) rfl
theorem Tx.g_is_reading (T : Tx K mg) : mg "is_reading" = some (.ref (He.ga K "is_reading")) := let ⟨_, X, G, c, _⟩ := T; He.glo_ok X G (c.fact 36 (f := .glo "is_reading") rfl)
theorem Tx.f_is_reading (T : Tx K mg) : ∃ fd, FunD K "is_reading" "is_reading" (defArgs s_is_reading) (defBody s_is_reading) (defScope s_is_reading) (d_is_reading.dvs K) (d_is_reading.kws K) (He.ga K "is_reading") fd := let ⟨_, X, G, c, _⟩ := T; c.def_ 36 (d := d_is_reading) rfl
theorem Tx.g__law_fount (T : Tx K mg) : mg "_law_fount" = some (.ref (He.ga K "_law_fount")) := let ⟨_, X, G, c, _⟩ := T; He.glo_ok X G (c.fact 37 (f := .glo "_law_fount") rfl)
theorem Tx.f__law_fount (T : Tx K mg) : ∃ fd, FunD K "_law_fount" "_law_fount" (defArgs s__law_fount) (defBody s__law_fount) (defScope s__law_fount) (d__law_fount.dvs K) (d__law_fount.kws K) (He.ga K "_law_fount") fd := let ⟨_, X, G, c, _⟩ := T; c.def_ 37 (d := d__law_fount) rfl
theorem Tx.g__law_dip (T : Tx K mg) : mg "_law_dip" = some (.ref (He.ga K "_law_dip")) := let ⟨_, X, G, c, _⟩ := T; He.glo_ok X G (c.fact 38 (f := .glo "_law_dip") rfl)
theorem Tx.f__law_dip (T : Tx K mg) : ∃ fd, FunD K "_law_dip" "_law_dip" (defArgs s__law_dip) (defBody s__law_dip) (defScope s__law_dip) (d__law_dip.dvs K) (d__law_dip.kws K) (He.ga K "_law_dip") fd := let ⟨_, X, G, c, _⟩ := T; c.def_ 38 (d := d__law_dip) rfl
theorem Tx.g__law_widths (T : Tx K mg) : mg "_law_widths" = some (.ref (He.ga K "_law_widths")) := let ⟨_, X, G, c, _⟩ := T; He.glo_ok X G (c.fact 39 (f := .glo "_law_widths") rfl)
theorem Tx.f__law_widths (T : Tx K mg) : ∃ fd, FunD K "_law_widths" "_law_widths" (defArgs s__law_widths) (defBody s__law_widths) (defScope s__law_widths) (d__law_widths.dvs K) (d__law_widths.kws K) (He.ga K "_law_widths") fd := let ⟨_, X, G, c, _⟩ := T; c.def_ 39 (d := d__law_widths) rfl
theorem Tx.g__law_characters (T : Tx K mg) : mg "_law_characters" = some (.ref (He.ga K "_law_characters")) := let ⟨_, X, G, c, _⟩ := T; He.glo_ok X G (c.fact 40 (f := .glo "_law_characters") rfl)
theorem Tx.f__law_characters (T : Tx K mg) : ∃ fd, FunD K "_law_characters" "_law_characters" (defArgs s__law_characters) (defBody s__law_characters) (defScope s__law_characters) (d__law_characters.dvs K) (d__law_characters.kws K) (He.ga K "_law_characters") fd := let ⟨_, X, G, c, _⟩ := T; c.def_ 40 (d := d__law_characters) rfl
theorem Tx.g__law_code (T : Tx K mg) : mg "_law_code" = some (.ref (He.ga K "_law_code")) := let ⟨_, X, G, c, _⟩ := T; He.glo_ok X G (c.fact 41 (f := .glo "_law_code") rfl)
theorem Tx.f__law_code (T : Tx K mg) : ∃ fd, FunD K "_law_code" "_law_code" (defArgs s__law_code) (defBody s__law_code) (defScope s__law_code) (d__law_code.dvs K) (d__law_code.kws K) (He.ga K "_law_code") fd := let ⟨_, X, G, c, _⟩ := T; c.def_ 41 (d := d__law_code) rfl
theorem Tx.g__law_row (T : Tx K mg) : mg "_law_row" = some (.ref (He.ga K "_law_row")) := let ⟨_, X, G, c, _⟩ := T; He.glo_ok X G (c.fact 42 (f := .glo "_law_row") rfl)
theorem Tx.f__law_row (T : Tx K mg) : ∃ fd, FunD K "_law_row" "_law_row" (defArgs s__law_row) (defBody s__law_row) (defScope s__law_row) (d__law_row.dvs K) (d__law_row.kws K) (He.ga K "_law_row") fd := let ⟨_, X, G, c, _⟩ := T; c.def_ 42 (d := d__law_row) rfl
theorem Tx.g__law_factor (T : Tx K mg) : mg "_law_factor" = some (.ref (He.ga K "_law_factor")) := let ⟨_, X, G, c, _⟩ := T; He.glo_ok X G (c.fact 43 (f := .glo "_law_factor") rfl)
theorem Tx.f__law_factor (T : Tx K mg) : ∃ fd, FunD K "_law_factor" "_law_factor" (defArgs s__law_factor) (defBody s__law_factor) (defScope s__law_factor) (d__law_factor.dvs K) (d__law_factor.kws K) (He.ga K "_law_factor") fd := let ⟨_, X, G, c, _⟩ := T; c.def_ 43 (d := d__law_factor) rfl
theorem Tx.g__law_scan (T : Tx K mg) : mg "_law_scan" = some (.ref (He.ga K "_law_scan")) := let ⟨_, X, G, c, _⟩ := T; He.glo_ok X G (c.fact 44 (f := .glo "_law_scan") rfl)
theorem Tx.f__law_scan (T : Tx K mg) : ∃ fd, FunD K "_law_scan" "_law_scan" (defArgs s__law_scan) (defBody s__law_scan) (defScope s__law_scan) (d__law_scan.dvs K) (d__law_scan.kws K) (He.ga K "_law_scan") fd := let ⟨_, X, G, c, _⟩ := T; c.def_ 44 (d := d__law_scan) rfl
theorem Tx.g__law_tuples (T : Tx K mg) : mg "_law_tuples" = some (.ref (He.ga K "_law_tuples")) := let ⟨_, X, G, c, _⟩ := T; He.glo_ok X G (c.fact 45 (f := .glo "_law_tuples") rfl)
theorem Tx.f__law_tuples (T : Tx K mg) : ∃ fd, FunD K "_law_tuples" "_law_tuples" (defArgs s__law_tuples) (defBody s__law_tuples) (defScope s__law_tuples) (d__law_tuples.dvs K) (d__law_tuples.kws K) (He.ga K "_law_tuples") fd := let ⟨_, X, G, c, _⟩ := T; c.def_ 45 (d := d__law_tuples) rfl
theorem Tx.g__law_explaining (T : Tx K mg) : mg "_law_explaining" = some (.ref (He.ga K "_law_explaining")) := let ⟨_, X, G, c, _⟩ := T; He.glo_ok X G (c.fact 46 (f := .glo "_law_explaining") rfl)
theorem Tx.f__law_explaining (T : Tx K mg) : ∃ fd, FunD K "_law_explaining" "_law_explaining" (defArgs s__law_explaining) (defBody s__law_explaining) (defScope s__law_explaining) (d__law_explaining.dvs K) (d__law_explaining.kws K) (He.ga K "_law_explaining") fd := let ⟨_, X, G, c, _⟩ := T; c.def_ 46 (d := d__law_explaining) rfl
theorem Tx.g__law_right (T : Tx K mg) : mg "_law_right" = some (.ref (He.ga K "_law_right")) := let ⟨_, X, G, c, _⟩ := T; He.glo_ok X G (c.fact 47 (f := .glo "_law_right") rfl)
theorem Tx.f__law_right (T : Tx K mg) : ∃ fd, FunD K "_law_right" "_law_right" (defArgs s__law_right) (defBody s__law_right) (defScope s__law_right) (d__law_right.dvs K) (d__law_right.kws K) (He.ga K "_law_right") fd := let ⟨_, X, G, c, _⟩ := T; c.def_ 47 (d := d__law_right) rfl
theorem Tx.g_law (T : Tx K mg) : mg "law" = some (.ref (He.ga K "law")) := let ⟨_, X, G, c, _⟩ := T; He.glo_ok X G (c.fact 48 (f := .glo "law") rfl)
theorem Tx.f_law (T : Tx K mg) : ∃ fd, FunD K "law" "law" (defArgs s_law) (defBody s_law) (defScope s_law) (d_law.dvs K) (d_law.kws K) (He.ga K "law") fd := let ⟨_, X, G, c, _⟩ := T; c.def_ 48 (d := d_law) rfl
theorem Tx.c_NAMES (T : Tx K mg) : ∃ t, mg "NAMES" = some (.str "0123456789abcdefghijklmnopqrstuvwxyz" t) := let ⟨_, X, G, c, _⟩ := T; He.str_ok X G (c.fact 49 (f := .str "NAMES" "0123456789abcdefghijklmnopqrstuvwxyz") rfl)
theorem Tx.c_MOST_CHARACTERS (T : Tx K mg) : ∃ t, mg "MOST_CHARACTERS" = some (.int 10 t) := let ⟨_, X, G, c, _⟩ := T; He.int_ok X G (c.fact 50 (f := .int "MOST_CHARACTERS" 10) rfl)
theorem Tx.c_MOST_DURATIONS (T : Tx K mg) : ∃ t, mg "MOST_DURATIONS" = some (.int 400 t) := let ⟨_, X, G, c, _⟩ := T; He.int_ok X G (c.fact 51 (f := .int "MOST_DURATIONS" 400) rfl)
theorem Tx.c_MOST_EVIDENCE (T : Tx K mg) : ∃ t, mg "MOST_EVIDENCE" = some (.int 8 t) := let ⟨_, X, G, c, _⟩ := T; He.int_ok X G (c.fact 52 (f := .int "MOST_EVIDENCE" 8) rfl)
theorem Tx.c_MOST_WIDTHS (T : Tx K mg) : ∃ t, mg "MOST_WIDTHS" = some (.int 6 t) := let ⟨_, X, G, c, _⟩ := T; He.int_ok X G (c.fact 53 (f := .int "MOST_WIDTHS" 6) rfl)
theorem Tx.gt_WIDTHS (T : Tx K mg) : mg "WIDTHS" = some (.ref (He.ga K "WIDTHS")) := let ⟨_, X, G, c, _⟩ := T; He.glo_ok X G (c.fact 54 (f := .glo "WIDTHS") rfl)
theorem Tx.gc_ScanError (T : Tx K mg) : mg "ScanError" = some (.ref (He.ga K "ScanError")) := let ⟨_, X, G, c, _⟩ := T; He.glo_ok X G (c.fact 55 (f := .glo "ScanError") rfl)
theorem Tx.gc_InvalidText (T : Tx K mg) : mg "InvalidText" = some (.ref (He.ga K "InvalidText")) := let ⟨_, X, G, c, _⟩ := T; He.glo_ok X G (c.fact 56 (f := .glo "InvalidText") rfl)
theorem Tx.gc_InvalidFactor (T : Tx K mg) : mg "InvalidFactor" = some (.ref (He.ga K "InvalidFactor")) := let ⟨_, X, G, c, _⟩ := T; He.glo_ok X G (c.fact 57 (f := .glo "InvalidFactor") rfl)
theorem Tx.gc_InvalidNumber (T : Tx K mg) : mg "InvalidNumber" = some (.ref (He.ga K "InvalidNumber")) := let ⟨_, X, G, c, _⟩ := T; He.glo_ok X G (c.fact 58 (f := .glo "InvalidNumber") rfl)
theorem Tx.gc_InvalidName (T : Tx K mg) : mg "InvalidName" = some (.ref (He.ga K "InvalidName")) := let ⟨_, X, G, c, _⟩ := T; He.glo_ok X G (c.fact 59 (f := .glo "InvalidName") rfl)
theorem Tx.gc_InvalidWidths (T : Tx K mg) : mg "InvalidWidths" = some (.ref (He.ga K "InvalidWidths")) := let ⟨_, X, G, c, _⟩ := T; He.glo_ok X G (c.fact 60 (f := .glo "InvalidWidths") rfl)
theorem Tx.gc_InvalidCode (T : Tx K mg) : mg "InvalidCode" = some (.ref (He.ga K "InvalidCode")) := let ⟨_, X, G, c, _⟩ := T; He.glo_ok X G (c.fact 61 (f := .glo "InvalidCode") rfl)
theorem Tx.gc_InvalidScan (T : Tx K mg) : mg "InvalidScan" = some (.ref (He.ga K "InvalidScan")) := let ⟨_, X, G, c, _⟩ := T; He.glo_ok X G (c.fact 62 (f := .glo "InvalidScan") rfl)
theorem Tx.gc_InvalidEvidence (T : Tx K mg) : mg "InvalidEvidence" = some (.ref (He.ga K "InvalidEvidence")) := let ⟨_, X, G, c, _⟩ := T; He.glo_ok X G (c.fact 63 (f := .glo "InvalidEvidence") rfl)
theorem Tx.gc_TooLarge (T : Tx K mg) : mg "TooLarge" = some (.ref (He.ga K "TooLarge")) := let ⟨_, X, G, c, _⟩ := T; He.glo_ok X G (c.fact 64 (f := .glo "TooLarge") rfl)
theorem Tx.na_InvalidCode_part (T : Tx K mg) : PySem.W.findIn K (.ref (He.ga K "InvalidCode")) "part" = some none := let ⟨_, X, G, c, _⟩ := T; He.noat_ok (c.fact 65 (f := .noat "InvalidCode" "part") rfl)
theorem Tx.na_InvalidCode_name (T : Tx K mg) : PySem.W.findIn K (.ref (He.ga K "InvalidCode")) "name" = some none := let ⟨_, X, G, c, _⟩ := T; He.noat_ok (c.fact 66 (f := .noat "InvalidCode" "name") rfl)
theorem Tx.x_InvalidCode_ScanError (T : Tx K mg) : PySem.W.exmOne K (.ref (He.ga K "InvalidCode")) (.ref (He.ga K "ScanError")) = some true := let ⟨_, X, G, c, _⟩ := T; He.exm_ok (c.fact 67 (f := .exm "InvalidCode" "ScanError" true) rfl)
theorem Tx.x_InvalidCode_InvalidText (T : Tx K mg) : PySem.W.exmOne K (.ref (He.ga K "InvalidCode")) (.ref (He.ga K "InvalidText")) = some false := let ⟨_, X, G, c, _⟩ := T; He.exm_ok (c.fact 68 (f := .exm "InvalidCode" "InvalidText" false) rfl)
theorem Tx.x_InvalidCode_InvalidFactor (T : Tx K mg) : PySem.W.exmOne K (.ref (He.ga K "InvalidCode")) (.ref (He.ga K "InvalidFactor")) = some false := let ⟨_, X, G, c, _⟩ := T; He.exm_ok (c.fact 69 (f := .exm "InvalidCode" "InvalidFactor" false) rfl)
theorem Tx.x_InvalidCode_InvalidNumber (T : Tx K mg) : PySem.W.exmOne K (.ref (He.ga K "InvalidCode")) (.ref (He.ga K "InvalidNumber")) = some false := let ⟨_, X, G, c, _⟩ := T; He.exm_ok (c.fact 70 (f := .exm "InvalidCode" "InvalidNumber" false) rfl)
theorem Tx.x_InvalidCode_InvalidName (T : Tx K mg) : PySem.W.exmOne K (.ref (He.ga K "InvalidCode")) (.ref (He.ga K "InvalidName")) = some false := let ⟨_, X, G, c, _⟩ := T; He.exm_ok (c.fact 71 (f := .exm "InvalidCode" "InvalidName" false) rfl)
theorem Tx.x_InvalidCode_InvalidWidths (T : Tx K mg) : PySem.W.exmOne K (.ref (He.ga K "InvalidCode")) (.ref (He.ga K "InvalidWidths")) = some false := let ⟨_, X, G, c, _⟩ := T; He.exm_ok (c.fact 72 (f := .exm "InvalidCode" "InvalidWidths" false) rfl)
theorem Tx.x_InvalidCode_InvalidCode (T : Tx K mg) : PySem.W.exmOne K (.ref (He.ga K "InvalidCode")) (.ref (He.ga K "InvalidCode")) = some true := let ⟨_, X, G, c, _⟩ := T; He.exm_ok (c.fact 73 (f := .exm "InvalidCode" "InvalidCode" true) rfl)
theorem Tx.x_InvalidCode_InvalidScan (T : Tx K mg) : PySem.W.exmOne K (.ref (He.ga K "InvalidCode")) (.ref (He.ga K "InvalidScan")) = some false := let ⟨_, X, G, c, _⟩ := T; He.exm_ok (c.fact 74 (f := .exm "InvalidCode" "InvalidScan" false) rfl)
theorem Tx.x_InvalidCode_InvalidEvidence (T : Tx K mg) : PySem.W.exmOne K (.ref (He.ga K "InvalidCode")) (.ref (He.ga K "InvalidEvidence")) = some false := let ⟨_, X, G, c, _⟩ := T; He.exm_ok (c.fact 75 (f := .exm "InvalidCode" "InvalidEvidence" false) rfl)
theorem Tx.x_InvalidCode_TooLarge (T : Tx K mg) : PySem.W.exmOne K (.ref (He.ga K "InvalidCode")) (.ref (He.ga K "TooLarge")) = some false := let ⟨_, X, G, c, _⟩ := T; He.exm_ok (c.fact 76 (f := .exm "InvalidCode" "TooLarge" false) rfl)
theorem Tx.na_InvalidScan_index (T : Tx K mg) : PySem.W.findIn K (.ref (He.ga K "InvalidScan")) "index" = some none := let ⟨_, X, G, c, _⟩ := T; He.noat_ok (c.fact 77 (f := .noat "InvalidScan" "index") rfl)
theorem Tx.x_InvalidScan_ScanError (T : Tx K mg) : PySem.W.exmOne K (.ref (He.ga K "InvalidScan")) (.ref (He.ga K "ScanError")) = some true := let ⟨_, X, G, c, _⟩ := T; He.exm_ok (c.fact 78 (f := .exm "InvalidScan" "ScanError" true) rfl)
theorem Tx.x_InvalidScan_InvalidText (T : Tx K mg) : PySem.W.exmOne K (.ref (He.ga K "InvalidScan")) (.ref (He.ga K "InvalidText")) = some false := let ⟨_, X, G, c, _⟩ := T; He.exm_ok (c.fact 79 (f := .exm "InvalidScan" "InvalidText" false) rfl)
theorem Tx.x_InvalidScan_InvalidFactor (T : Tx K mg) : PySem.W.exmOne K (.ref (He.ga K "InvalidScan")) (.ref (He.ga K "InvalidFactor")) = some false := let ⟨_, X, G, c, _⟩ := T; He.exm_ok (c.fact 80 (f := .exm "InvalidScan" "InvalidFactor" false) rfl)
theorem Tx.x_InvalidScan_InvalidNumber (T : Tx K mg) : PySem.W.exmOne K (.ref (He.ga K "InvalidScan")) (.ref (He.ga K "InvalidNumber")) = some false := let ⟨_, X, G, c, _⟩ := T; He.exm_ok (c.fact 81 (f := .exm "InvalidScan" "InvalidNumber" false) rfl)
theorem Tx.x_InvalidScan_InvalidName (T : Tx K mg) : PySem.W.exmOne K (.ref (He.ga K "InvalidScan")) (.ref (He.ga K "InvalidName")) = some false := let ⟨_, X, G, c, _⟩ := T; He.exm_ok (c.fact 82 (f := .exm "InvalidScan" "InvalidName" false) rfl)
theorem Tx.x_InvalidScan_InvalidWidths (T : Tx K mg) : PySem.W.exmOne K (.ref (He.ga K "InvalidScan")) (.ref (He.ga K "InvalidWidths")) = some false := let ⟨_, X, G, c, _⟩ := T; He.exm_ok (c.fact 83 (f := .exm "InvalidScan" "InvalidWidths" false) rfl)
theorem Tx.x_InvalidScan_InvalidCode (T : Tx K mg) : PySem.W.exmOne K (.ref (He.ga K "InvalidScan")) (.ref (He.ga K "InvalidCode")) = some false := let ⟨_, X, G, c, _⟩ := T; He.exm_ok (c.fact 84 (f := .exm "InvalidScan" "InvalidCode" false) rfl)
theorem Tx.x_InvalidScan_InvalidScan (T : Tx K mg) : PySem.W.exmOne K (.ref (He.ga K "InvalidScan")) (.ref (He.ga K "InvalidScan")) = some true := let ⟨_, X, G, c, _⟩ := T; He.exm_ok (c.fact 85 (f := .exm "InvalidScan" "InvalidScan" true) rfl)
theorem Tx.x_InvalidScan_InvalidEvidence (T : Tx K mg) : PySem.W.exmOne K (.ref (He.ga K "InvalidScan")) (.ref (He.ga K "InvalidEvidence")) = some false := let ⟨_, X, G, c, _⟩ := T; He.exm_ok (c.fact 86 (f := .exm "InvalidScan" "InvalidEvidence" false) rfl)
theorem Tx.x_InvalidScan_TooLarge (T : Tx K mg) : PySem.W.exmOne K (.ref (He.ga K "InvalidScan")) (.ref (He.ga K "TooLarge")) = some false := let ⟨_, X, G, c, _⟩ := T; He.exm_ok (c.fact 87 (f := .exm "InvalidScan" "TooLarge" false) rfl)
theorem Tx.na_InvalidEvidence_index (T : Tx K mg) : PySem.W.findIn K (.ref (He.ga K "InvalidEvidence")) "index" = some none := let ⟨_, X, G, c, _⟩ := T; He.noat_ok (c.fact 88 (f := .noat "InvalidEvidence" "index") rfl)
theorem Tx.x_InvalidEvidence_ScanError (T : Tx K mg) : PySem.W.exmOne K (.ref (He.ga K "InvalidEvidence")) (.ref (He.ga K "ScanError")) = some true := let ⟨_, X, G, c, _⟩ := T; He.exm_ok (c.fact 89 (f := .exm "InvalidEvidence" "ScanError" true) rfl)
theorem Tx.x_InvalidEvidence_InvalidText (T : Tx K mg) : PySem.W.exmOne K (.ref (He.ga K "InvalidEvidence")) (.ref (He.ga K "InvalidText")) = some false := let ⟨_, X, G, c, _⟩ := T; He.exm_ok (c.fact 90 (f := .exm "InvalidEvidence" "InvalidText" false) rfl)
theorem Tx.x_InvalidEvidence_InvalidFactor (T : Tx K mg) : PySem.W.exmOne K (.ref (He.ga K "InvalidEvidence")) (.ref (He.ga K "InvalidFactor")) = some false := let ⟨_, X, G, c, _⟩ := T; He.exm_ok (c.fact 91 (f := .exm "InvalidEvidence" "InvalidFactor" false) rfl)
theorem Tx.x_InvalidEvidence_InvalidNumber (T : Tx K mg) : PySem.W.exmOne K (.ref (He.ga K "InvalidEvidence")) (.ref (He.ga K "InvalidNumber")) = some false := let ⟨_, X, G, c, _⟩ := T; He.exm_ok (c.fact 92 (f := .exm "InvalidEvidence" "InvalidNumber" false) rfl)
theorem Tx.x_InvalidEvidence_InvalidName (T : Tx K mg) : PySem.W.exmOne K (.ref (He.ga K "InvalidEvidence")) (.ref (He.ga K "InvalidName")) = some false := let ⟨_, X, G, c, _⟩ := T; He.exm_ok (c.fact 93 (f := .exm "InvalidEvidence" "InvalidName" false) rfl)
theorem Tx.x_InvalidEvidence_InvalidWidths (T : Tx K mg) : PySem.W.exmOne K (.ref (He.ga K "InvalidEvidence")) (.ref (He.ga K "InvalidWidths")) = some false := let ⟨_, X, G, c, _⟩ := T; He.exm_ok (c.fact 94 (f := .exm "InvalidEvidence" "InvalidWidths" false) rfl)
theorem Tx.x_InvalidEvidence_InvalidCode (T : Tx K mg) : PySem.W.exmOne K (.ref (He.ga K "InvalidEvidence")) (.ref (He.ga K "InvalidCode")) = some false := let ⟨_, X, G, c, _⟩ := T; He.exm_ok (c.fact 95 (f := .exm "InvalidEvidence" "InvalidCode" false) rfl)
theorem Tx.x_InvalidEvidence_InvalidScan (T : Tx K mg) : PySem.W.exmOne K (.ref (He.ga K "InvalidEvidence")) (.ref (He.ga K "InvalidScan")) = some false := let ⟨_, X, G, c, _⟩ := T; He.exm_ok (c.fact 96 (f := .exm "InvalidEvidence" "InvalidScan" false) rfl)
theorem Tx.x_InvalidEvidence_InvalidEvidence (T : Tx K mg) : PySem.W.exmOne K (.ref (He.ga K "InvalidEvidence")) (.ref (He.ga K "InvalidEvidence")) = some true := let ⟨_, X, G, c, _⟩ := T; He.exm_ok (c.fact 97 (f := .exm "InvalidEvidence" "InvalidEvidence" true) rfl)
theorem Tx.x_InvalidEvidence_TooLarge (T : Tx K mg) : PySem.W.exmOne K (.ref (He.ga K "InvalidEvidence")) (.ref (He.ga K "TooLarge")) = some false := let ⟨_, X, G, c, _⟩ := T; He.exm_ok (c.fact 98 (f := .exm "InvalidEvidence" "TooLarge" false) rfl)
theorem Tx.na_TooLarge_limit (T : Tx K mg) : PySem.W.findIn K (.ref (He.ga K "TooLarge")) "limit" = some none := let ⟨_, X, G, c, _⟩ := T; He.noat_ok (c.fact 99 (f := .noat "TooLarge" "limit") rfl)
theorem Tx.x_TooLarge_ScanError (T : Tx K mg) : PySem.W.exmOne K (.ref (He.ga K "TooLarge")) (.ref (He.ga K "ScanError")) = some true := let ⟨_, X, G, c, _⟩ := T; He.exm_ok (c.fact 100 (f := .exm "TooLarge" "ScanError" true) rfl)
theorem Tx.x_TooLarge_InvalidText (T : Tx K mg) : PySem.W.exmOne K (.ref (He.ga K "TooLarge")) (.ref (He.ga K "InvalidText")) = some false := let ⟨_, X, G, c, _⟩ := T; He.exm_ok (c.fact 101 (f := .exm "TooLarge" "InvalidText" false) rfl)
theorem Tx.x_TooLarge_InvalidFactor (T : Tx K mg) : PySem.W.exmOne K (.ref (He.ga K "TooLarge")) (.ref (He.ga K "InvalidFactor")) = some false := let ⟨_, X, G, c, _⟩ := T; He.exm_ok (c.fact 102 (f := .exm "TooLarge" "InvalidFactor" false) rfl)
theorem Tx.x_TooLarge_InvalidNumber (T : Tx K mg) : PySem.W.exmOne K (.ref (He.ga K "TooLarge")) (.ref (He.ga K "InvalidNumber")) = some false := let ⟨_, X, G, c, _⟩ := T; He.exm_ok (c.fact 103 (f := .exm "TooLarge" "InvalidNumber" false) rfl)
theorem Tx.x_TooLarge_InvalidName (T : Tx K mg) : PySem.W.exmOne K (.ref (He.ga K "TooLarge")) (.ref (He.ga K "InvalidName")) = some false := let ⟨_, X, G, c, _⟩ := T; He.exm_ok (c.fact 104 (f := .exm "TooLarge" "InvalidName" false) rfl)
theorem Tx.x_TooLarge_InvalidWidths (T : Tx K mg) : PySem.W.exmOne K (.ref (He.ga K "TooLarge")) (.ref (He.ga K "InvalidWidths")) = some false := let ⟨_, X, G, c, _⟩ := T; He.exm_ok (c.fact 105 (f := .exm "TooLarge" "InvalidWidths" false) rfl)
theorem Tx.x_TooLarge_InvalidCode (T : Tx K mg) : PySem.W.exmOne K (.ref (He.ga K "TooLarge")) (.ref (He.ga K "InvalidCode")) = some false := let ⟨_, X, G, c, _⟩ := T; He.exm_ok (c.fact 106 (f := .exm "TooLarge" "InvalidCode" false) rfl)
theorem Tx.x_TooLarge_InvalidScan (T : Tx K mg) : PySem.W.exmOne K (.ref (He.ga K "TooLarge")) (.ref (He.ga K "InvalidScan")) = some false := let ⟨_, X, G, c, _⟩ := T; He.exm_ok (c.fact 107 (f := .exm "TooLarge" "InvalidScan" false) rfl)
theorem Tx.x_TooLarge_InvalidEvidence (T : Tx K mg) : PySem.W.exmOne K (.ref (He.ga K "TooLarge")) (.ref (He.ga K "InvalidEvidence")) = some false := let ⟨_, X, G, c, _⟩ := T; He.exm_ok (c.fact 108 (f := .exm "TooLarge" "InvalidEvidence" false) rfl)
theorem Tx.x_TooLarge_TooLarge (T : Tx K mg) : PySem.W.exmOne K (.ref (He.ga K "TooLarge")) (.ref (He.ga K "TooLarge")) = some true := let ⟨_, X, G, c, _⟩ := T; He.exm_ok (c.fact 109 (f := .exm "TooLarge" "TooLarge" true) rfl)
theorem Tx.fi_InvalidCode (T : Tx K mg) : ∃ fd, FunD K "__init__" "InvalidCode.__init__" (defArgs si_InvalidCode) (defBody si_InvalidCode) (defScope si_InvalidCode) (di_InvalidCode.dvs K) (di_InvalidCode.kws K) (He.ma K (He.ga K "InvalidCode") "__init__") fd := let ⟨_, X, G, c, _⟩ := T; c.def_ 49 (d := di_InvalidCode) rfl
theorem Tx.fi_InvalidScan (T : Tx K mg) : ∃ fd, FunD K "__init__" "InvalidScan.__init__" (defArgs si_InvalidScan) (defBody si_InvalidScan) (defScope si_InvalidScan) (di_InvalidScan.dvs K) (di_InvalidScan.kws K) (He.ma K (He.ga K "InvalidScan") "__init__") fd := let ⟨_, X, G, c, _⟩ := T; c.def_ 50 (d := di_InvalidScan) rfl
theorem Tx.fi_InvalidEvidence (T : Tx K mg) : ∃ fd, FunD K "__init__" "InvalidEvidence.__init__" (defArgs si_InvalidEvidence) (defBody si_InvalidEvidence) (defScope si_InvalidEvidence) (di_InvalidEvidence.dvs K) (di_InvalidEvidence.kws K) (He.ma K (He.ga K "InvalidEvidence") "__init__") fd := let ⟨_, X, G, c, _⟩ := T; c.def_ 51 (d := di_InvalidEvidence) rfl
theorem Tx.fi_TooLarge (T : Tx K mg) : ∃ fd, FunD K "__init__" "TooLarge.__init__" (defArgs si_TooLarge) (defBody si_TooLarge) (defScope si_TooLarge) (di_TooLarge.dvs K) (di_TooLarge.kws K) (He.ma K (He.ga K "TooLarge") "__init__") fd := let ⟨_, X, G, c, _⟩ := T; c.def_ 52 (d := di_TooLarge) rfl
theorem Tx.ex (T : Tx K mg) : exB K = true := let ⟨_, _, _, _, h⟩ := T; h
theorem Tx.o_InvalidCode (T : Tx K mg) : OwnX K "InvalidCode" := ownX_ok (Bool.and_eq_true_iff.mp (Bool.and_eq_true_iff.mp (Bool.and_eq_true_iff.mp (Bool.and_eq_true_iff.mp (Bool.and_eq_true_iff.mp T.ex).1).1).1).1).1
theorem Tx.o_InvalidScan (T : Tx K mg) : OwnX K "InvalidScan" := ownX_ok (Bool.and_eq_true_iff.mp (Bool.and_eq_true_iff.mp (Bool.and_eq_true_iff.mp (Bool.and_eq_true_iff.mp (Bool.and_eq_true_iff.mp T.ex).1).1).1).1).2
theorem Tx.o_InvalidEvidence (T : Tx K mg) : OwnX K "InvalidEvidence" := ownX_ok (Bool.and_eq_true_iff.mp (Bool.and_eq_true_iff.mp (Bool.and_eq_true_iff.mp (Bool.and_eq_true_iff.mp T.ex).1).1).1).2
theorem Tx.o_TooLarge (T : Tx K mg) : OwnX K "TooLarge" := ownX_ok (Bool.and_eq_true_iff.mp (Bool.and_eq_true_iff.mp (Bool.and_eq_true_iff.mp T.ex).1).1).2
theorem Tx.p_ScanError (T : Tx K mg) : ParX K "ScanError" := parX_ok (Bool.and_eq_true_iff.mp (Bool.and_eq_true_iff.mp T.ex).1).2
theorem Tx.tu_WIDTHS (T : Tx K mg) : tupB K "WIDTHS" [1, 2, 3, 4] = true := id (Bool.and_eq_true_iff.mp T.ex).2
theorem Tx.n_abs (T : Tx K mg) : mg "abs" = none := let ⟨_, X, G, c, _⟩ := T; He.free_ok X G (c.fact 110 (f := .free "abs") rfl)
theorem Tx.n_all (T : Tx K mg) : mg "all" = none := let ⟨_, X, G, c, _⟩ := T; He.free_ok X G (c.fact 111 (f := .free "all") rfl)
theorem Tx.n_bool (T : Tx K mg) : mg "bool" = none := let ⟨_, X, G, c, _⟩ := T; He.free_ok X G (c.fact 112 (f := .free "bool") rfl)
theorem Tx.n_dict (T : Tx K mg) : mg "dict" = none := let ⟨_, X, G, c, _⟩ := T; He.free_ok X G (c.fact 113 (f := .free "dict") rfl)
theorem Tx.n_enumerate (T : Tx K mg) : mg "enumerate" = none := let ⟨_, X, G, c, _⟩ := T; He.free_ok X G (c.fact 114 (f := .free "enumerate") rfl)
theorem Tx.n_int (T : Tx K mg) : mg "int" = none := let ⟨_, X, G, c, _⟩ := T; He.free_ok X G (c.fact 115 (f := .free "int") rfl)
theorem Tx.n_isinstance (T : Tx K mg) : mg "isinstance" = none := let ⟨_, X, G, c, _⟩ := T; He.free_ok X G (c.fact 116 (f := .free "isinstance") rfl)
theorem Tx.n_len (T : Tx K mg) : mg "len" = none := let ⟨_, X, G, c, _⟩ := T; He.free_ok X G (c.fact 117 (f := .free "len") rfl)
theorem Tx.n_list (T : Tx K mg) : mg "list" = none := let ⟨_, X, G, c, _⟩ := T; He.free_ok X G (c.fact 118 (f := .free "list") rfl)
theorem Tx.n_max (T : Tx K mg) : mg "max" = none := let ⟨_, X, G, c, _⟩ := T; He.free_ok X G (c.fact 119 (f := .free "max") rfl)
theorem Tx.n_min (T : Tx K mg) : mg "min" = none := let ⟨_, X, G, c, _⟩ := T; He.free_ok X G (c.fact 120 (f := .free "min") rfl)
theorem Tx.n_range (T : Tx K mg) : mg "range" = none := let ⟨_, X, G, c, _⟩ := T; He.free_ok X G (c.fact 121 (f := .free "range") rfl)
theorem Tx.n_set (T : Tx K mg) : mg "set" = none := let ⟨_, X, G, c, _⟩ := T; He.free_ok X G (c.fact 122 (f := .free "set") rfl)
theorem Tx.n_sorted (T : Tx K mg) : mg "sorted" = none := let ⟨_, X, G, c, _⟩ := T; He.free_ok X G (c.fact 123 (f := .free "sorted") rfl)
theorem Tx.n_str (T : Tx K mg) : mg "str" = none := let ⟨_, X, G, c, _⟩ := T; He.free_ok X G (c.fact 124 (f := .free "str") rfl)
theorem Tx.n_tuple (T : Tx K mg) : mg "tuple" = none := let ⟨_, X, G, c, _⟩ := T; He.free_ok X G (c.fact 125 (f := .free "tuple") rfl)
theorem Tx.n_zip (T : Tx K mg) : mg "zip" = none := let ⟨_, X, G, c, _⟩ := T; He.free_ok X G (c.fact 126 (f := .free "zip") rfl)
end
section
variable {P : Program} {w : World} {K : PySem.W.Frag} {mg : Str → Option Value} {base : Heap}
theorem I_InvalidCode (T : Tx K mg) : ∃ fd ps, FnOk P w K mg base CX0 1 (He.ma K (He.ga K "InvalidCode") "__init__") fd ps (spIni2 (He.ga K "InvalidCode") "part" "name") ∧ Binds K fd ps [] := by
  obtain ⟨fd, F⟩ := T.fi_InvalidCode
  refine ⟨fd, ["self", "part", "name"], F.ok sci_InvalidCode (fun vs H Q E h => ?_) (fun cdv A outer s H vs Q E hr h => ?_), F.bindsN fun _ _ _ _ _ _ us hl => match us, hl with | [_, _, _], _ => rfl⟩
  · obtain ⟨a, v1, v2, rfl, _⟩ := h
    rfl
  · obtain ⟨a, v1, v2, rfl, h1, h2⟩ := h
    exact ⟨_, PSs.nox (pss_cons (ps_expr (pe_ceinit (by rfl) T.gc_ScanError T.p_ScanError (pa_cons (pv 0) (pa_cons pe_str pa_nil)))) (pss_cons (ps_ost (pv 0) (pv 1)) (pss_one (ps_ost (pv 0) (pv 2))))), ini2 T.o_InvalidCode.o T.na_InvalidCode_part T.na_InvalidCode_name h1 h2⟩
theorem I_InvalidScan (T : Tx K mg) : ∃ fd ps, FnOk P w K mg base CX0 1 (He.ma K (He.ga K "InvalidScan") "__init__") fd ps (spIni1 (He.ga K "InvalidScan") "index") ∧ Binds K fd ps [] := by
  obtain ⟨fd, F⟩ := T.fi_InvalidScan
  refine ⟨fd, ["self", "index"], F.ok sci_InvalidScan (fun vs H Q E h => ?_) (fun cdv A outer s H vs Q E hr h => ?_), F.bindsN fun _ _ _ _ _ _ us hl => match us, hl with | [_, _], _ => rfl⟩
  · obtain ⟨a, v1, rfl, _⟩ := h
    rfl
  · obtain ⟨a, v1, rfl, h1, h2⟩ := h
    exact ⟨_, PSs.nox (pss_cons (ps_expr (pe_ceinit (by rfl) T.gc_ScanError T.p_ScanError (pa_cons (pv 0) (pa_cons pe_str pa_nil)))) (pss_one (ps_ost (pv 0) (pv 1)))), ini1 T.o_InvalidScan.o T.na_InvalidScan_index h1 h2⟩
theorem I_InvalidEvidence (T : Tx K mg) : ∃ fd ps, FnOk P w K mg base CX0 1 (He.ma K (He.ga K "InvalidEvidence") "__init__") fd ps (spIni1 (He.ga K "InvalidEvidence") "index") ∧ Binds K fd ps [] := by
  obtain ⟨fd, F⟩ := T.fi_InvalidEvidence
  refine ⟨fd, ["self", "index"], F.ok sci_InvalidEvidence (fun vs H Q E h => ?_) (fun cdv A outer s H vs Q E hr h => ?_), F.bindsN fun _ _ _ _ _ _ us hl => match us, hl with | [_, _], _ => rfl⟩
  · obtain ⟨a, v1, rfl, _⟩ := h
    rfl
  · obtain ⟨a, v1, rfl, h1, h2⟩ := h
    exact ⟨_, PSs.nox (pss_cons (ps_expr (pe_ceinit (by rfl) T.gc_ScanError T.p_ScanError (pa_cons (pv 0) (pa_cons pe_str pa_nil)))) (pss_one (ps_ost (pv 0) (pv 1)))), ini1 T.o_InvalidEvidence.o T.na_InvalidEvidence_index h1 h2⟩
theorem I_TooLarge (T : Tx K mg) : ∃ fd ps, FnOk P w K mg base CX0 1 (He.ma K (He.ga K "TooLarge") "__init__") fd ps (spIni1 (He.ga K "TooLarge") "limit") ∧ Binds K fd ps [] := by
  obtain ⟨fd, F⟩ := T.fi_TooLarge
  refine ⟨fd, ["self", "limit"], F.ok sci_TooLarge (fun vs H Q E h => ?_) (fun cdv A outer s H vs Q E hr h => ?_), F.bindsN fun _ _ _ _ _ _ us hl => match us, hl with | [_, _], _ => rfl⟩
  · obtain ⟨a, v1, rfl, _⟩ := h
    rfl
  · obtain ⟨a, v1, rfl, h1, h2⟩ := h
    exact ⟨_, PSs.nox (pss_cons (ps_expr (pe_ceinit (by rfl) T.gc_ScanError T.p_ScanError (pa_cons (pv 0) (pa_cons pe_str pa_nil)))) (pss_one (ps_ost (pv 0) (pv 1)))), ini1 T.o_TooLarge.o T.na_TooLarge_limit h1 h2⟩
end
section
variable {P : Program} {w : World} {K : PySem.W.Frag} {mg : Str → Option Value} {base : Heap}
theorem xK {CX : CXT} {N : List Str} {qual : Str} {scope : Scope} {f : Addr} {cd : Value} {A : Around} {outer : List Env} {s : Shared} {H : Hp} {E : XK} : (cxOf CX P w K mg base N qual scope f cd A outer s H E).nox.K = K := rfl

theorem xK2 {CX : CXT} {N : List Str} {qual : Str} {scope : Scope} {f : Addr} {cd : Value} {A : Around} {outer : List Env} {s : Shared} {H : Hp} {E : XK} : (cxOf CX P w K mg base N qual scope f cd A outer s H E).K = K := rfl
/-! ### values -/
def optI : Option Int → PyData
  | none => .none
  | some i => .int i
def isIntD (d : PyData) (lo hi : Option Int) : Bool := match d with
  | .int i => lo.all (fun z => decide (z ≤ i)) && hi.all (fun z => decide (i ≤ z))
  | _ => false
theorem isInt_no {d : PyData} {lo hi : Option Int} (h : ¬ ∃ i, d = .int i) : isIntD d lo hi = false := by
  cases d <;> first | rfl | exact absurd ⟨_, rfl⟩ h
def R_is_integer : List PyData → PyData → Prop := fun ds r => ∃ d lo hi, ds = [d, optI lo, optI hi] ∧ r = .bool (isIntD d lo hi)
theorem G_is_integer {f : Addr} {fd : FuncData} (T : Tx K mg) (F : FunD K "is_integer" "is_integer" (defArgs s_is_integer) (defBody s_is_integer) (defScope s_is_integer) (d_is_integer.dvs K) (d_is_integer.kws K) f fd) : FnG P w K mg base CX0 1 f fd ["value", "least", "most"] (PSp K R_is_integer) := by
  refine fnG_of F sc_is_integer (fun vs H Q E h => PSp.len (n := 3) (by rintro _ _ ⟨d, lo, hi, rfl, _⟩; rfl) h) (fun cdv A outer s H vs Q E hg hr h => ?_)
  obtain ⟨G, M, ds, r, hA, hR, ⟨d, lo, hi, rfl, rfl⟩, q⟩ := h
  obtain ⟨v0, _, rfl, r0, v1, _, rfl, r1, v2, _, rfl, r2, rfl⟩ := hR
  refine ⟨_, PSs.nox (pss_cons (ps_if (PW.pt (pw_or (pt_not (pt_val (pe_callB call_isi (by rfl) T.n_isinstance (by decide +kernel) (pa_cons (pv 0) (pa_cons (pe_bltn (v := .ty "int") (u := .type "int") (by rfl) T.n_int (by decide +kernel) rfl) pa_nil))))) (pw_or1 (pt_val (pe_callB call_isi (by rfl) T.n_isinstance (by decide +kernel) (pa_cons (pv 0) (pa_cons (pe_bltn (v := .ty "bool") (u := .type "bool") (by rfl) T.n_bool (by decide +kernel) rfl) pa_nil))))))) (pss_one (ps_ret pe_bl)) pss_nil)
    (pss_one (ps_ret (pe_and (pe_or (pe_cmpR op_isN (pv 1) pe_non (nomark _)) (pe_one (pe_cmpR op_ge (pv 0) (pv 1) (nomark _)))) (pe_one (pe_or (pe_cmpR op_isN (pv 2) pe_non (nomark _)) (pe_one (pe_cmpR op_le (pv 0) (pv 2) (nomark _))))))))), ?_⟩
  rw [show L2.start ["value", "least", "most"] [v0, v1, v2] = [some v0, some v1, some v2] from rfl]
  dsimp only [xK]
  by_cases hd : ∃ i, d = .int i
  · obtain ⟨i, rfl⟩ := hd
    refine (q_guardF ?_ hA fun G1 H1 e1 A1 => ?_)
    · exact TrB.to (b := !isA "int" (.int i) || isA "bool" (.int i)) (by walk_at "tr") rfl
    refine s_ret (d := .bool (isIntD (.int i) lo hi)) ?_ A1 (q.mono e1)
    have h1 : TrD K (tOrV (tOp (fun x y H Q => y = V.non ∧ Q (V.bl (decide (x = V.non))) H) (tVar 1) (tC V.non)) (tOp (rI0 fun i j => V.bl (decide (j ≤ i))) (tVar 0) (tVar 1)))
        [some v0, some v1, some v2] G1 (.bool (lo.all fun z => decide (z ≤ i))) := by
      cases lo with
      | none => exact v_orT (TrD.to (d_op (d_var rfl (r1.up e1)) d_non rd_isN) rfl)
      | some l => exact v_orF (TrD.to (d_op (d_var rfl (r1.up e1)) d_non rd_isN) rfl) (d_op (d_var rfl (r0.up e1)) (d_var rfl (r1.up e1)) rd_ge)
    have h2 : TrD K (tOrV (tOp (fun x y H Q => y = V.non ∧ Q (V.bl (decide (x = V.non))) H) (tVar 2) (tC V.non)) (tOp (rI0 fun i j => V.bl (decide (i ≤ j))) (tVar 0) (tVar 2)))
        [some v0, some v1, some v2] G1 (.bool (hi.all fun z => decide (i ≤ z))) := by
      cases hi with
      | none => exact v_orT (TrD.to (d_op (d_var rfl (r2.up e1)) d_non rd_isN) rfl)
      | some l => exact v_orF (TrD.to (d_op (d_var rfl (r2.up e1)) d_non rd_isN) rfl) (d_op (d_var rfl (r0.up e1)) (d_var rfl (r2.up e1)) rd_le)
    exact v_and h1 fun _ => h2
  · rw [isInt_no hd] at q
    refine (q_guardR ?_ hA fun G1 H1 e1 A1 => ?_)
    · exact TrB.to (b := !isA "int" d || isA "bool" d) (by walk_at "tr") (by cases d <;> first | rfl | exact absurd ⟨_, rfl⟩ hd)
    exact s_ret d_bl A1 (q.mono e1)
theorem F_is_integer3 (T : Tx K mg) : Fd P w K mg base CX0 1 "is_integer" (PSp K R_is_integer) [] := by
  obtain ⟨fd, F⟩ := T.f_is_integer
  obtain ⟨ds, hv, hb⟩ := F.binds1 (ps := ["value", "least", "most"]) 3 2 (by intro z; cases z) rfl fun _ _ _ _ _ _ _ us its h1 h2 => match us, its, h1, h2 with | [_, _, _], [_, _], _, _ => ⟨_, rfl, rfl⟩
  cases hv
  exact ⟨_, fd, _, [], T.g_is_integer, F.kp, hb, .nil, G_is_integer T F⟩

theorem F_is_integer2 (T : Tx K mg) : Fd P w K mg base CX0 1 "is_integer" (PSp K R_is_integer) [.non] := by
  obtain ⟨fd, F⟩ := T.f_is_integer
  obtain ⟨ds, hv, hb⟩ := F.binds1 (ps := ["value", "least", "most"]) 2 1 (by intro z; cases z) rfl fun _ _ _ _ _ _ _ us its h1 h2 => match us, its, h1, h2 with | [_, _], [_, _], _, _ => ⟨_, rfl, rfl⟩
  exact ⟨_, fd, _, ds, T.g_is_integer, F.kp, hb, hv, G_is_integer T F⟩
def NAMESs : Str := "0123456789abcdefghijklmnopqrstuvwxyz"
def isNameS (x : Str) : Bool := match x.cps.toList with
  | [c] => decide (c ∈ NAMESs.cps.toList)
  | _ => false
def isNameD (d : PyData) : Bool := match d with
  | .str x => isNameS x
  | _ => false
def R_is_name : List PyData → PyData → Prop := fun ds r => ∃ d, ds = [d] ∧ (∀ x, d = .str x → x.length ≤ 100000) ∧ r = .bool (isNameD d)
theorem one_sign {x : Str} (h : x.length = 1) : ∃ c, x = ⟨#[c]⟩ := by
  obtain ⟨⟨l⟩⟩ := x
  match l, h with
  | [c], _ => exact ⟨c, rfl⟩
theorem F_is_name (T : Tx K mg) : Fd P w K mg base CX0 1 "is_name" (PSp K R_is_name) [] := by
  obtain ⟨fd, F⟩ := T.f_is_name
  refine ⟨_, fd, ["value"], [], T.g_is_name, F.kp, F.bindsN fun _ _ _ _ _ _ us hl => match us, hl with | [_], _ => rfl, .nil, ?_⟩
  refine fnG_of F sc_is_name (fun vs H Q E h => PSp.len (n := 1) (by rintro _ _ ⟨d, rfl, _⟩; rfl) h) (fun cdv A outer s H vs Q E hg hr h => ?_)
  obtain ⟨G, M, ds, r, hA, hR, ⟨d, rfl, hz, rfl⟩, q⟩ := h
  obtain ⟨v0, _, rfl, r0, rfl⟩ := hR
  refine ⟨_, PSs.nox (pss_one (ps_ret (pe_and (pe_callB call_isi (by rfl) T.n_isinstance (by decide +kernel) (pa_cons (pv 0) (pa_cons (pe_bltn (v := .ty "str") (u := .type "str") (by rfl) T.n_str (by decide +kernel) rfl) pa_nil))) (pe_and (pe_cmpR op_eq (pe_callB call_len' (by rfl) T.n_len (by decide +kernel) (pa_cons (pv 0) pa_nil)) pe_int (nomark _)) (pe_one (pe_cmpR op_in_sign (pv 0) (pe_glob (v := .str "0123456789abcdefghijklmnopqrstuvwxyz") (by rfl) T.c_NAMES.choose_spec ⟨_, rfl⟩) (by rfl))))))), ?_⟩
  rw [show L2.start ["value"] [v0] = [some v0] from rfl]
  dsimp only [xK]
  refine s_ret (d := .bool (isNameD d)) ?_ hA q
  by_cases hd : ∃ x, d = .str x
  · obtain ⟨x, rfl⟩ := hd
    refine v_andT (TrD.to (d_isi (n := "str") (d_var rfl r0)) rfl) ?_
    have hl : TrD K _ [some v0] G (.bool (decide ((x.length : Int) = 1))) := d_op (d_cb (a_cons (d_var (i := 0) rfl r0) a_nil) (rc_lenS (K := K) (sz_of (hz x rfl)))) d_int rd_eqI
    by_cases h1 : x.length = 1
    · obtain ⟨c, rfl⟩ := one_sign h1
      refine v_andT (TrD.to hl rfl) ?_
      refine TrD.to (d_op (d_var rfl r0) d_str rd_inSign) ?_
      rfl
    · have e : isNameD (.str x) = false := by
        show isNameS x = false
        unfold isNameS
        split
        · rename_i c hc
          exact absurd (by rw [show x.length = x.cps.toList.length from rfl, hc]; rfl) h1
        · rfl
      rw [e]
      refine v_andF (TrD.to hl ?_)
      rw [decide_eq_false (by omega)]
  · have e : isNameD d = false := by cases d <;> first | rfl | exact absurd ⟨_, rfl⟩ hd
    rw [e]
    exact v_andF (TrD.to (d_isi (n := "str") (d_var rfl r0)) (by cases d <;> first | rfl | exact absurd ⟨_, rfl⟩ hd))

def areWD (d : PyData) (lo hi : Int) : Bool := match d with
  | .tuple ds => decide (lo ≤ (ds.length : Int)) && decide ((ds.length : Int) ≤ hi) && ds.all fun x => isIntD x (some 1) (some 4)
  | _ => false
def R_are_widths : List PyData → PyData → Prop := fun ds r => ∃ d lo hi, ds = [d, .int lo, .int hi] ∧ hi ≤ 1000 ∧ r = .bool (areWD d lo hi)
theorem F_are_widths (T : Tx K mg) : Fd P w K mg base CX0 2 "are_widths" (PSp K R_are_widths) [] := by
  obtain ⟨fd, F⟩ := T.f_are_widths
  refine ⟨_, fd, ["value", "least", "most"], [], T.g_are_widths, F.kp, F.bindsN fun _ _ _ _ _ _ us hl => match us, hl with | [_, _, _], _ => rfl, .nil, ?_⟩
  refine fnG_of F sc_are_widths (fun vs H Q E h => PSp.len (n := 3) (by rintro _ _ ⟨d, lo, hi, rfl, _⟩; rfl) h) (fun cdv A outer s H vs Q E hg hr h => ?_)
  obtain ⟨G, M, ds, r, hA, hR, ⟨d, lo, hi, rfl, hh, rfl⟩, q⟩ := h
  obtain ⟨v0, _, rfl, r0, v1, _, rfl, r1, v2, _, rfl, r2, rfl⟩ := hR
  refine ⟨_, PSs.nox (pss_cons (ps_if (PW.pt (pw_or (pt_not (pt_val (pe_callB call_isi (by rfl) T.n_isinstance (by decide +kernel) (pa_cons (pv 0) (pa_cons (pe_bltn (v := .ty "tuple") (u := .type "tuple") (by rfl) T.n_tuple (by decide +kernel) rfl) pa_nil))))) (pw_or1 (pt_not (pt_chain op_le op_le (pv 1) (pe_callB call_len' (by rfl) T.n_len (by decide +kernel) (pa_cons (pv 0) pa_nil)) (pv 2)))))) (pss_one (ps_ret pe_bl)) pss_nil)
    (pss_one (ps_ret (pe_callB (cr_all rfl) (by rfl) T.n_all (by decide +kernel) (pa_cons (pe_lc (own := [("item", 3)]) (g := gName 3) (by rfl) sc_are_widths.nd (pi_tup (pv 0)) (blkOk_by (own := [("item", 3)]) (N := ["value", "least", "most", "item"]) (sc := defScope s_are_widths) (by decide +kernel)) (fun _ _ _ _ _ => (pg_name (i := 3) sc_are_widths.nd rfl (by first | exact Or.inl rfl | exact Or.inr rfl))) (fun _ _ _ _ _ => pts_nil) (fun _ _ _ _ _ => (pe_fd (F_is_integer3 (P := P) (w := w) (base := base) T) hg (hr.mono (by decide)) pass0 (pa_cons (pv 3) (pa_cons pe_int (pa_cons pe_int pa_nil)))))) pa_nil))))), ?_⟩
  rw [show L2.start ["value", "least", "most", "item"] [v0, v1, v2] = [some v0, some v1, some v2, none] from rfl]
  dsimp only [xK]
  by_cases hd : ∃ ds, d = .tuple ds
  · obtain ⟨ds, rfl⟩ := hd
    have ht : TrB _ [some v0, some v1, some v2, none] G (!isA "tuple" (.tuple ds) || !(decide (lo ≤ (ds.length : Int)) && decide ((ds.length : Int) ≤ hi))) :=
      b_or (b_not (b_B (d_isi (d_var (i := 0) rfl r0)))) fun _ => b_not (b_T (d_chain (d_var (i := 1) rfl r1) (d_cb (a_cons (d_var (i := 0) rfl r0) a_nil) (rc_lenT (K := K))) rd_le (fun _ => d_var (i := 2) rfl r2) fun _ => rd_le))
    by_cases hl : lo ≤ (ds.length : Int) ∧ (ds.length : Int) ≤ hi
    · refine (q_guardF (TrB.to ht ?_) hA fun G1 H1 e1 A1 => ?_)
      · rw [decide_eq_true hl.1, decide_eq_true hl.2]; rfl
      refine s_ret (d := .bool (areWD (.tuple ds) lo hi)) ?_ A1 (q.mono e1)
      have e : areWD (.tuple ds) lo hi = (ds.map fun x => isIntD x (some 1) (some 4)).all id := by
        show (decide (lo ≤ (ds.length : Int)) && decide ((ds.length : Int) ≤ hi) && _) = _
        rw [decide_eq_true hl.1, decide_eq_true hl.2, List.all_map]
        rfl
      rw [e]
      refine d_cb (a_cons ?_ a_nil) rc_all
      refine TrD.to (d_lcT (p := fun _ => true) (f := fun x => .bool (isIntD x (some 1) (some 4))) (d_var rfl (r0.up e1)) (by omega) (fun _ _ _ _ _ _ => b_yes) fun x _ _ v G2 e2 rx => ?_) (by rw [filt_true, List.map_map]; rfl)
      exact d_call0 (a_cons (d_var rfl rx) (a_cons d_int (a_cons d_int a_nil))) ⟨x, some 1, some 4, rfl, rfl⟩
    · have e : areWD (.tuple ds) lo hi = false := by
        show (decide (lo ≤ (ds.length : Int)) && decide ((ds.length : Int) ≤ hi) && _) = false
        by_cases h1 : lo ≤ (ds.length : Int)
        · rw [decide_eq_false (fun z => hl ⟨h1, z⟩), Bool.and_false, Bool.false_and]
        · rw [decide_eq_false h1, Bool.false_and, Bool.false_and]
      rw [e] at q
      refine (q_guardR (TrB.to ht ?_) hA fun G1 H1 e1 A1 => ?_)
      · by_cases h1 : lo ≤ (ds.length : Int)
        · rw [decide_eq_false (fun z => hl ⟨h1, z⟩), Bool.and_false]; rfl
        · rw [decide_eq_false h1, Bool.false_and]; rfl
      exact s_ret d_bl A1 (q.mono e1)
  · have e : areWD d lo hi = false := by cases d <;> first | rfl | exact absurd ⟨_, rfl⟩ hd
    rw [e] at q
    refine (q_guardR (b_orT (TrB.to (b_not (b_B (d_isi (d_var rfl r0)))) ?_)) hA fun G1 H1 e1 A1 => ?_)
    · cases d <;> first | rfl | exact absurd ⟨_, rfl⟩ hd
    exact s_ret d_bl A1 (q.mono e1)
def R_is_widths : List PyData → PyData → Prop := fun ds r => ∃ d, ds = [d] ∧ r = .bool (areWD d 1 6)
theorem F_is_widths (T : Tx K mg) : Fd P w K mg base CX0 3 "is_widths" (PSp K R_is_widths) [] := by
  obtain ⟨fd, F⟩ := T.f_is_widths
  refine ⟨_, fd, ["value"], [], T.g_is_widths, F.kp, F.bindsN fun _ _ _ _ _ _ us hl => match us, hl with | [_], _ => rfl, .nil, ?_⟩
  refine fnG_of F sc_is_widths (fun vs H Q E h => PSp.len (n := 1) (by rintro _ _ ⟨d, rfl, _⟩; rfl) h) (fun cdv A outer s H vs Q E hg hr h => ?_)
  obtain ⟨G, M, ds, r, hA, hR, ⟨d, rfl, rfl⟩, q⟩ := h
  obtain ⟨v0, _, rfl, r0, rfl⟩ := hR
  refine ⟨_, PSs.nox (pss_one (ps_ret (pe_fd (F_are_widths (P := P) (w := w) (base := base) T) hg (hr.mono (by decide)) pass0 (pa_cons (pv 0) (pa_cons pe_int (pa_cons pe_int pa_nil)))))), ?_⟩
  rw [show L2.start ["value"] [v0] = [some v0] from rfl]
  exact s_ret (d_call0 (a_cons (d_var rfl r0) (a_cons d_int (a_cons d_int a_nil))) ⟨d, 1, 6, rfl, by decide, rfl⟩) hA q
end
end K96

namespace K96
open PySem PySem.Spec PyProof.Rows L2 Sb
local macro_rules | `(tactic| walk_at "ex") => `(tactic| first | exact Ex.refl _ | assumption | (refine' Ex.trans ?_ (by assumption); walk_at "ex"))
local macro_rules | `(tactic| walk_at "rp") => `(tactic| first | assumption | (refine' Rp.up ?e (by assumption); (case e => walk_at "ex")) | exact rfl)
local macro_rules | `(tactic| walk_at "rd") => `(tactic| with_reducible first | exact rd_add | exact rd_sub | exact rd_lt | exact rd_le | exact rd_gt | exact rd_ge | exact rd_eqI | exact rd_neI | exact rd_eqS | exact rd_neS | exact rd_isN | exact rd_ltS | exact rd_inSign | exact rd_eqE)
local macro_rules | `(tactic| walk_at "tr") => `(tactic| first
  | with_reducible exact d_int
  | with_reducible exact d_str
  | with_reducible exact d_bl
  | with_reducible exact d_non
  | with_reducible exact a_nil
  | with_reducible exact b_yes
  | with_reducible exact o_none
  | with_reducible exact d_newD
  | ((with_reducible refine' d_var ?i ?r); (case i => rfl); (case r => walk_at "rp"))
  | ((with_reducible refine' a_cons ?a ?b); (case a => walk_at "tr"); (case b => walk_at "tr"))
  | ((with_reducible refine' a_star ?a ?b); (case a => walk_at "tr"); (case b => walk_at "tr"))
  | ((with_reducible refine' d_isi ?a ?b); (case a => walk_at "tr"); (case b => decide))
  | ((with_reducible refine' d_op ?a ?b ?c); (case a => walk_at "tr"); (case b => walk_at "tr"); (case c => walk_at "rd"))
  | ((with_reducible refine' d_tup ?a ?b); (case a => walk_at "tr"); (case b => first | decide | (simp; done)))
  | ((with_reducible refine' d_lst ?a ?b); (case a => walk_at "tr"); (case b => first | decide | (simp; done)))
  | ((with_reducible refine' o_some ?a); (case a => walk_at "tr"))
  | ((with_reducible refine' b_B ?a); (case a => walk_at "tr"))
  | ((with_reducible refine' b_T ?a); (case a => walk_at "tr"))
  | ((with_reducible refine' b_not ?a); (case a => walk_at "tr"))
  | ((with_reducible refine' v_not ?a); (case a => walk_at "tr"))
  | ((with_reducible refine' b_or ?a ?b); (case a => walk_at "tr"); (case b => intro _; walk_at "tr"))
  | ((with_reducible refine' b_and ?a ?b); (case a => walk_at "tr"); (case b => intro _; walk_at "tr"))
  | ((with_reducible refine' v_or ?a ?b); (case a => walk_at "tr"); (case b => intro _; walk_at "tr"))
  | ((with_reducible refine' v_and ?a ?b); (case a => walk_at "tr"); (case b => intro _; walk_at "tr"))
  | assumption)


/-! ### codes -/
def okW (lo hi : Nat) (ns : List Int) : Prop := lo ≤ ns.length ∧ ns.length ≤ hi ∧ ∀ n ∈ ns, 1 ≤ n ∧ n ≤ 4
def chD (cs : List (Str × List Int)) : List (Str × PyData) := cs.map fun p => (p.1, .tuple (dInts p.2))
structure CodeD where
  st : List Int
  cs : List (Str × List Int)
  bt : List Int
  sp : List Int
def CodeD.d (c : CodeD) : PyData := .tuple [.tuple (dInts c.st), .dict (keysD (chD c.cs)), .tuple (dInts c.bt), .tuple (dInts c.sp)]
structure okCs (cs : List (Str × List Int)) : Prop where
  l1 : 1 ≤ cs.length
  l2 : cs.length ≤ 10
  nm : ∀ p ∈ cs, isNameS p.1 = true ∧ okW 1 6 p.2
  nd : (cs.map (·.1)).Nodup
structure CodeD.ok (c : CodeD) : Prop where
  st : okW 1 6 c.st
  cs : okCs c.cs
  bt : okW 0 2 c.bt
  sp : okW 1 6 c.sp
theorem dInts_len (ns : List Int) : (dInts ns).length = ns.length := by simp [dInts]
theorem areWD_ok {ns : List Int} {lo hi : Nat} (h : okW lo hi ns) : areWD (.tuple (dInts ns)) lo hi = true := by
  show (decide ((lo : Int) ≤ ((dInts ns).length : Int)) && decide (((dInts ns).length : Int) ≤ (hi : Int)) && (dInts ns).all _) = true
  rw [dInts_len, decide_eq_true (by have := h.1; omega), decide_eq_true (by have := h.2.1; omega), List.all_eq_true.mpr]
  · rfl
  · intro x hx
    obtain ⟨n, hn, rfl⟩ := List.mem_map.mp hx
    have z := h.2.2 n hn
    show (decide (1 ≤ n) && decide (n ≤ 4)) = true
    rw [decide_eq_true z.1, decide_eq_true z.2]
    rfl
theorem name_len {x : Str} (h : isNameS x = true) : x.length = 1 := by
  unfold isNameS at h
  split at h
  · rename_i c hc
    show x.cps.toList.length = 1
    rw [hc]
    rfl
  · cases h
theorem lookD_mem : ∀ {kvs : List (Str × PyData)} {k : Str} {d : PyData}, (kvs.map (·.1)).Nodup → (k, d) ∈ kvs → lookD kvs k = some d
  | [], _, _, _, h => by cases h
  | (k', d') :: r, k, d, nd, h => by
    unfold lookD
    rw [List.find?_cons]
    have nd' := List.nodup_cons.mp nd
    rcases List.mem_cons.mp h with e | h
    · cases e
      simp
    · have hne : k' ≠ k := fun e => nd'.1 (by rw [e]; exact List.mem_map.mpr ⟨_, h, rfl⟩)
      simp only [decide_eq_false hne]
      exact lookD_mem nd'.2 h
theorem chD_keys (cs : List (Str × List Int)) : (chD cs).map (·.1) = cs.map (·.1) := by unfold chD; rw [List.map_map]; rfl
theorem chD_look {cs : List (Str × List Int)} (h : (cs.map (·.1)).Nodup) {p : Str × List Int} (hp : p ∈ cs) : lookD (chD cs) p.1 = some (.tuple (dInts p.2)) :=
  lookD_mem (by rw [chD_keys]; exact h) (List.mem_map.mpr ⟨p, hp, rfl⟩)
section
variable {P : Program} {w : World} {K : PySem.W.Frag} {mg : Str → Option Value} {base : Heap}
def R_foc : List PyData → PyData → Prop := fun ds r => ∃ cs, ds = [.dict (keysD (chD cs))] ∧ okCs cs ∧ r = .list []
theorem F_fault_of_characters (T : Tx K mg) : Fd P w K mg base CX0 4 "fault_of_characters" (PSp K R_foc) [] := by
  obtain ⟨fd, F⟩ := T.f_fault_of_characters
  refine ⟨_, fd, ["value"], [], T.g_fault_of_characters, F.kp, F.bindsN fun _ _ _ _ _ _ us hl => match us, hl with | [_], _ => rfl, .nil, ?_⟩
  refine fnG_of F sc_fault_of_characters (fun vs H Q E h => PSp.len (n := 1) (by rintro _ _ ⟨d, rfl, _⟩; rfl) h) (fun cdv A outer s H vs Q E hg hr h => ?_)
  obtain ⟨G, M, ds, r, hA, hR, ⟨cs, rfl, ok, rfl⟩, q⟩ := h
  obtain ⟨v0, _, rfl, r0, rfl⟩ := hR
  refine ⟨_, PSs.nox (pss_cons (ps_if (PW.pt (pw_or (pt_not (pt_val (pe_callB call_isi (by rfl) T.n_isinstance (by decide +kernel) (pa_cons (pv 0) (pa_cons (pe_bltn (v := .ty "dict") (u := .type "dict") (by rfl) T.n_dict (by decide +kernel) rfl) pa_nil))))) (pw_or1 (pt_not (pt_chain op_le op_le pe_int (pe_callB call_lenD' (by rfl) T.n_len (by decide +kernel) (pa_cons (pv 0) pa_nil)) (pe_glob (v := .int 10) (by rfl) T.c_MOST_CHARACTERS.choose_spec ⟨_, rfl⟩)))))) (pss_one (ps_ret (pe_lst (pa_cons pe_non pa_nil)))) pss_nil)
    (pss_cons (ps_if (pt_not (pt_val (pe_callB (cr_all rfl) (by rfl) T.n_all (by decide +kernel) (pa_cons (pe_lock (pe_lc (own := [("name", 1)]) (g := gName 1) (by rfl) sc_fault_of_characters.nd (pi_keys (pv 0)) (blkOk_by (own := [("name", 1)]) (N := ["value", "name"]) (sc := defScope s_fault_of_characters) (by decide +kernel)) (fun _ _ _ _ _ => (pg_name (i := 1) sc_fault_of_characters.nd rfl (by first | exact Or.inl rfl | exact Or.inr rfl))) (fun _ _ _ _ _ => pts_nil) (fun _ _ _ _ _ => (pe_fd (F_is_name (P := P) (w := w) (base := base) T) hg (hr.mono (by decide)) pass0 (pa_cons (pv 1) pa_nil))))) pa_nil)))) (pss_one (ps_ret (pe_lst (pa_cons pe_non pa_nil)))) pss_nil)
    (pss_one (ps_ret (pe_slice sl_list (pe_lc (own := [("name", 1)]) (g := gName 1) (by rfl) sc_fault_of_characters.nd (pi_list (pe_callB (call_sortedD' rfl) (by rfl) T.n_sorted (by decide +kernel) (pa_cons (pv 0) pa_nil))) (blkOk_by (own := [("name", 1)]) (N := ["value", "name"]) (sc := defScope s_fault_of_characters) (by decide +kernel)) (fun _ _ _ _ _ => (pg_name (i := 1) sc_fault_of_characters.nd rfl (by first | exact Or.inl rfl | exact Or.inr rfl))) (fun _ _ _ _ _ => (pts_one (pt_not (pt_val (pe_fd (F_is_widths (P := P) (w := w) (base := base) T) hg (hr.mono (by decide)) pass0 (pa_cons (pe_dget (hu_of hr) (pv 0) (pv 1) (fun _ _ => rfl)) pa_nil)))))) (fun _ _ _ _ _ => (pv 1))) po_none (po_some pe_int)))))), ?_⟩
  rw [show L2.start ["value", "name"] [v0] = [some v0, none] from rfl]
  dsimp only [xK]
  have hlen : (keysD (chD cs)).length = cs.length := by rw [keysD_len]; simp [chD]
  have hlen2 : (chD cs).length = cs.length := by simp [chD]
  have hl1 := ok.l1
  have hl2 := ok.l2
  refine q_guardF (TrB.to (b_or (b_not (b_B (d_isi (d_var rfl r0)))) fun _ => b_not (b_T (d_chain d_int (d_cb (a_cons (d_var rfl r0) a_nil) rc_lenD) rd_le (fun _ => d_int) fun _ => rd_le))) ?_) hA fun G1 H1 e1 A1 => ?_
  · rw [hlen, decide_eq_true (show (1 : Int) ≤ (cs.length : Int) by omega), decide_eq_true (show (cs.length : Int) ≤ 10 by omega)]
    rfl
  refine q_guardF (TrB.to (b_not (b_B (d_cb (a_cons (TrD.to (d_lcK (p := fun _ => true) (f := fun k => .bool (isNameS k)) rfl (r0.up e1) (by omega) rfl (fun _ _ _ => b_yes) fun k hk G2 => ?_) ?_) a_nil) (rc_all (bs := (cs.map (·.1)).map isNameS))))) ?_) A1 fun G2 H2 e2 A2 => ?_
  · obtain ⟨p, hp, rfl⟩ := List.mem_map.mp (by rw [chD_keys] at hk; exact hk)
    exact d_call0 (a_cons (d_var (d := .str p.1) rfl rfl) a_nil) ⟨.str p.1, rfl, fun x hx => by cases hx; rw [name_len (ok.nm p hp).1]; decide, rfl⟩
  · rw [filt_true, chD_keys]
    simp only [List.map_map]
    rfl
  · have z : ((cs.map (·.1)).map isNameS).all id = true := by
      rw [List.all_eq_true]
      intro b hb
      obtain ⟨x, hx, rfl⟩ := List.mem_map.mp hb
      obtain ⟨p, hp, rfl⟩ := List.mem_map.mp hx
      exact (ok.nm p hp).1
    rw [z]
    rfl
  refine s_ret (TrD.to (d_slL (d_lcL (p := fun _ => false) (f := fun x => x) (d_cb (a_cons (d_var rfl (r0.up (e1.trans e2))) a_nil) (rc_sortD (by omega))) ?_ (fun d hd x G3 e3 rx => ?_) fun d hd hp => ?_) o_none (o_some (K := K) d_int)) ?_) A2 (q.mono (e1.trans e2))
  · unfold dStrs
    rw [List.length_map, (srt_perm _).length_eq, List.length_map]
    omega
  · obtain ⟨nm, hnm, rfl⟩ := List.mem_map.mp hd
    have hm := (srt_perm _).mem_iff.mp hnm
    rw [chD_keys] at hm
    obtain ⟨p, hp, rfl⟩ := List.mem_map.mp hm
    refine TrB.to (b_not (b_B (d_call0 (a_cons (d_dget (d_var rfl (r0.up ((e1.trans e2).trans e3))) (d_var rfl rx) (chD_look ok.nd hp)) a_nil) ⟨_, rfl, rfl⟩))) ?_
    rw [show areWD (.tuple (dInts p.2)) 1 6 = true from areWD_ok (ok.nm p hp).2]
    rfl
  · cases hp
  · rw [List.filter_eq_nil_iff.mpr (fun _ _ => Bool.false_ne_true)]
    rfl
def R_fc : List PyData → PyData → Prop := fun ds r => ∃ c : CodeD, ds = [c.d] ∧ c.ok ∧ r = .list []
theorem F_fault_of_code (T : Tx K mg) : Fd P w K mg base CX0 5 "fault_of_code" (PSp K R_fc) [] := by
  obtain ⟨fd, F⟩ := T.f_fault_of_code
  refine ⟨_, fd, ["value"], [], T.g_fault_of_code, F.kp, F.bindsN fun _ _ _ _ _ _ us hl => match us, hl with | [_], _ => rfl, .nil, ?_⟩
  refine fnG_of F sc_fault_of_code (fun vs H Q E h => PSp.len (n := 1) (by rintro _ _ ⟨d, rfl, _⟩; rfl) h) (fun cdv A outer s H vs Q E hg hr h => ?_)
  obtain ⟨G, M, ds, r, hA, hR, ⟨c, rfl, ok, rfl⟩, q⟩ := h
  obtain ⟨v0, _, rfl, r0, rfl⟩ := hR
  refine ⟨_, PSs.nox (pss_cons (ps_if (PW.pt (pw_or (pt_not (pt_val (pe_callB call_isi (by rfl) T.n_isinstance (by decide +kernel) (pa_cons (pv 0) (pa_cons (pe_bltn (v := .ty "tuple") (u := .type "tuple") (by rfl) T.n_tuple (by decide +kernel) rfl) pa_nil))))) (pw_or1 (pt_cmpR op_ne (pe_callB call_len' (by rfl) T.n_len (by decide +kernel) (pa_cons (pv 0) pa_nil)) pe_int (nomark _))))) (pss_one (ps_ret (pe_lst (pa_cons (pe_tup (pa_cons pe_non (pa_cons pe_non pa_nil))) pa_nil)))) pss_nil)
    (pss_cons (ps_asg (pv 0) (pg_tup (by rfl) (pgs_cons (pg_name (i := 1) sc_fault_of_code.nd rfl (by first | exact Or.inl rfl | exact Or.inr rfl)) (pgs_cons (pg_name (i := 2) sc_fault_of_code.nd rfl (by first | exact Or.inl rfl | exact Or.inr rfl)) (pgs_cons (pg_name (i := 3) sc_fault_of_code.nd rfl (by first | exact Or.inl rfl | exact Or.inr rfl)) (pgs_cons (pg_name (i := 4) sc_fault_of_code.nd rfl (by first | exact Or.inl rfl | exact Or.inr rfl)) pgs_nil))))))
    (pss_cons (ps_setLc (i := 5) (own := [("name", 6)]) (g := gName 6) (by rfl) sc_fault_of_code.nd rfl rfl (sw_true rfl rfl rfl (by decide +kernel)) (pi_list (pe_fd (F_fault_of_characters (P := P) (w := w) (base := base) T) hg (hr.mono (by decide)) pass0 (pa_cons (pv 2) pa_nil))) (blkOk_by (own := [("name", 6)]) (N := ["value", "start", "characters", "between", "stop", "found", "name"]) (sc := defScope s_fault_of_code) (by decide +kernel)) (fun _ _ _ _ _ => (pg_name (i := 6) sc_fault_of_code.nd rfl (by first | exact Or.inl rfl | exact Or.inr rfl))) (fun _ _ _ _ _ => pts_nil) (fun _ _ _ _ _ => (pe_tup (pa_cons pe_str (pa_cons (pv 6) pa_nil)))))
    (pss_cons (ps_if (pt_not (pt_val (pe_fd (F_is_widths (P := P) (w := w) (base := base) T) hg (hr.mono (by decide)) pass0 (pa_cons (pv 1) pa_nil)))) (pss_one (ps_set (i := 5) sc_fault_of_code.nd rfl (by first | exact Or.inl rfl | exact Or.inr rfl) (pe_lst (pa_cons (pe_tup (pa_cons pe_str (pa_cons pe_non pa_nil))) pa_nil)))) pss_nil)
    (pss_cons (ps_if (PW.pt (pw_and (pt_cmpR (op_eqR hr.units) (pv 5) (pe_lst pa_nil) (nomark _)) (pw_and1 (pt_not (pt_val (pe_fd (F_are_widths (P := P) (w := w) (base := base) T) hg (hr.mono (by decide)) pass0 (pa_cons (pv 3) (pa_cons pe_int (pa_cons pe_int pa_nil))))))))) (pss_one (ps_set (i := 5) sc_fault_of_code.nd rfl (by first | exact Or.inl rfl | exact Or.inr rfl) (pe_lst (pa_cons (pe_tup (pa_cons pe_str (pa_cons pe_non pa_nil))) pa_nil)))) pss_nil)
    (pss_cons (ps_if (PW.pt (pw_and (pt_cmpR (op_eqR hr.units) (pv 5) (pe_lst pa_nil) (nomark _)) (pw_and1 (pt_not (pt_val (pe_fd (F_is_widths (P := P) (w := w) (base := base) T) hg (hr.mono (by decide)) pass0 (pa_cons (pv 4) pa_nil))))))) (pss_one (ps_set (i := 5) sc_fault_of_code.nd rfl (by first | exact Or.inl rfl | exact Or.inr rfl) (pe_lst (pa_cons (pe_tup (pa_cons pe_str (pa_cons pe_non pa_nil))) pa_nil)))) pss_nil)
    (pss_one (ps_ret (pv 5))))))))), ?_⟩
  rw [show L2.start ["value", "start", "characters", "between", "stop", "found", "name"] [v0] = [some v0, none, none, none, none, none, none] from rfl]
  dsimp only [xK]
  refine q_guardF (TrB.to (b_or (b_not (b_B (d_isi (d_var rfl r0)))) fun _ => b_T (d_op (d_cb (a_cons (d_var rfl r0) a_nil) rc_lenT) d_int rd_neI)) rfl) hA fun G1 H1 e1 A1 => ?_
  refine q_unpack (d_var rfl (r0.up e1)) rfl A1 ?_
  rintro _ G2 H2 e2 A2 ⟨v1, _, rfl, r1, v2, _, rfl, r2, v3, _, rfl, r3, v4, _, rfl, r4, rfl⟩
  refine ⟨v1, _, rfl, v2, _, rfl, v3, _, rfl, v4, _, rfl, rfl, ?_⟩
  refine q_set (TrD.to (d_lcL (p := fun _ => true) (f := fun x => .tuple [.str "characters", x]) (d_call0 (a_cons (d_var rfl r2) a_nil) ⟨c.cs, rfl, ok.cs, rfl⟩) (by decide) (fun _ h => by cases h) fun _ h => by cases h) (d2 := .list []) rfl) A2 fun v5 G3 H3 e3 A3 r5 => ?_
  refine q_guardF (TrB.to (b_not (b_B (d_call0 (a_cons (d_var rfl (r1.up e3)) a_nil) ⟨_, rfl, rfl⟩))) (by rw [show areWD (.tuple (dInts c.st)) 1 6 = true from areWD_ok ok.st]; rfl)) A3 fun G4 H4 e4 A4 => ?_
  refine q_guardF (TrB.to (b_and (b_T (d_op (d_var rfl (r5.up e4)) (d_lst a_nil) (rd_eqR rfl rfl))) fun _ => b_not (b_B (d_call0 (a_cons (d_var rfl (r3.up (e3.trans e4))) (a_cons d_int (a_cons d_int a_nil))) ⟨_, 0, 2, rfl, by decide, rfl⟩))) (by rw [show areWD (.tuple (dInts c.bt)) 0 2 = true from areWD_ok ok.bt]; rfl)) A4 fun G5 H5 e5 A5 => ?_
  refine q_guardF (TrB.to (b_and (b_T (d_op (d_var rfl (r5.up (e4.trans e5))) (d_lst a_nil) (rd_eqR rfl rfl))) fun _ => b_not (b_B (d_call0 (a_cons (d_var rfl (r4.up ((e3.trans e4).trans e5))) a_nil) ⟨_, rfl, rfl⟩))) (by rw [show areWD (.tuple (dInts c.sp)) 1 6 = true from areWD_ok ok.sp]; rfl)) A5 fun G6 H6 e6 A6 => ?_
  exact s_ret (d_var rfl (r5.up ((e4.trans e5).trans e6))) A6 (q.mono (((((e1.trans e2).trans e3).trans e4).trans e5).trans e6))
def R_rc : List PyData → PyData → Prop := fun ds r => ∃ c : CodeD, ds = [c.d] ∧ c.ok ∧ r = .none
theorem F_require_code (T : Tx K mg) : Fd P w K mg base CX0 6 "require_code" (PSp K R_rc) [] := by
  obtain ⟨fd, F⟩ := T.f_require_code
  refine ⟨_, fd, ["value"], [], T.g_require_code, F.kp, F.bindsN fun _ _ _ _ _ _ us hl => match us, hl with | [_], _ => rfl, .nil, ?_⟩
  refine fnG_of F sc_require_code (fun vs H Q E h => PSp.len (n := 1) (by rintro _ _ ⟨d, rfl, _⟩; rfl) h) (fun cdv A outer s H vs Q E hg hr h => ?_)
  obtain ⟨G, M, ds, r, hA, hR, ⟨c, rfl, ok, rfl⟩, q⟩ := h
  obtain ⟨v0, _, rfl, r0, rfl⟩ := hR
  refine ⟨_, PSs.nox (pss_cons (ps_set (i := 1) sc_require_code.nd rfl (by first | exact Or.inl rfl | exact Or.inr rfl) (pe_fd (F_fault_of_code (P := P) (w := w) (base := base) T) hg (hr.mono (by decide)) pass0 (pa_cons (pv 0) pa_nil)))
    (pss_one (ps_if (pt_cmpR (op_neR hr.units) (pv 1) (pe_lst pa_nil) (nomark _)) (pss_cons (ps_asg (pe_ix ix_list (pv 1) pe_int (fun _ _ => rfl)) (pg_tup (by rfl) (pgs_cons (pg_name (i := 2) sc_require_code.nd rfl (by first | exact Or.inl rfl | exact Or.inr rfl)) (pgs_cons (pg_name (i := 3) sc_require_code.nd rfl (by first | exact Or.inl rfl | exact Or.inr rfl)) pgs_nil)))) (pss_one ps_never)) pss_nil))), ?_⟩
  rw [show L2.start ["value", "faults", "part", "name"] [v0] = [some v0, none, none, none] from rfl]
  dsimp only [xK]
  refine q_set (d_call0 (a_cons (d_var rfl r0) a_nil) ⟨c, rfl, ok, rfl⟩) hA fun v1 G1 H1 e1 A1 r1 => ?_
  refine s_ifF (TrB.to (b_T (d_op (d_var rfl r1) (d_lst a_nil) (rd_neR rfl rfl))) rfl) A1 fun G2 H2 e2 A2 => ?_
  exact (q.mono (e1.trans e2)).here A2 rfl
end
end K96

namespace K96
open PySem PySem.Spec PyProof.Rows L2 Sb
local macro_rules | `(tactic| walk_at "ex") => `(tactic| first | exact Ex.refl _ | assumption | (refine' Ex.trans ?_ (by assumption); walk_at "ex"))
local macro_rules | `(tactic| walk_at "rp") => `(tactic| first | assumption | (refine' Rp.up ?e (by assumption); (case e => walk_at "ex")) | exact rfl)
local macro_rules | `(tactic| walk_at "rd") => `(tactic| with_reducible first | exact rd_add | exact rd_sub | exact rd_lt | exact rd_le | exact rd_gt | exact rd_ge | exact rd_eqI | exact rd_neI | exact rd_eqS | exact rd_neS | exact rd_isN | exact rd_ltS | exact rd_inSign | exact rd_eqE)
local macro_rules | `(tactic| walk_at "tr") => `(tactic| first
  | with_reducible exact d_int
  | with_reducible exact d_str
  | with_reducible exact d_bl
  | with_reducible exact d_non
  | with_reducible exact a_nil
  | with_reducible exact b_yes
  | with_reducible exact o_none
  | with_reducible exact d_newD
  | ((with_reducible refine' d_var ?i ?r); (case i => rfl); (case r => walk_at "rp"))
  | ((with_reducible refine' a_cons ?a ?b); (case a => walk_at "tr"); (case b => walk_at "tr"))
  | ((with_reducible refine' a_star ?a ?b); (case a => walk_at "tr"); (case b => walk_at "tr"))
  | ((with_reducible refine' d_isi ?a ?b); (case a => walk_at "tr"); (case b => decide))
  | ((with_reducible refine' d_op ?a ?b ?c); (case a => walk_at "tr"); (case b => walk_at "tr"); (case c => walk_at "rd"))
  | ((with_reducible refine' d_tup ?a ?b); (case a => walk_at "tr"); (case b => first | decide | (simp; done)))
  | ((with_reducible refine' d_lst ?a ?b); (case a => walk_at "tr"); (case b => first | decide | (simp; done)))
  | ((with_reducible refine' o_some ?a); (case a => walk_at "tr"))
  | ((with_reducible refine' b_B ?a); (case a => walk_at "tr"))
  | ((with_reducible refine' b_T ?a); (case a => walk_at "tr"))
  | ((with_reducible refine' b_not ?a); (case a => walk_at "tr"))
  | ((with_reducible refine' v_not ?a); (case a => walk_at "tr"))
  | ((with_reducible refine' b_or ?a ?b); (case a => walk_at "tr"); (case b => intro _; walk_at "tr"))
  | ((with_reducible refine' b_and ?a ?b); (case a => walk_at "tr"); (case b => intro _; walk_at "tr"))
  | ((with_reducible refine' v_or ?a ?b); (case a => walk_at "tr"); (case b => intro _; walk_at "tr"))
  | ((with_reducible refine' v_and ?a ?b); (case a => walk_at "tr"); (case b => intro _; walk_at "tr"))
  | assumption)


/-! ### lines -/
def strI (n : Int) : Str := Str.ofString (toString n)
def lineT (w : Str) (ws : List Int) : Str := Txt.join " " (w :: ws.map strI)
theorem four {n : Int} (h : 1 ≤ n ∧ n ≤ 4) : n = 1 ∨ n = 2 ∨ n = 3 ∨ n = 4 := by omega
theorem strI_len {n : Int} (h : 1 ≤ n ∧ n ≤ 4) : (strI n).length = 1 := by rcases four h with rfl | rfl | rfl | rfl <;> decide
theorem log_ok {n : Int} (h : 1 ≤ n ∧ n ≤ 4) : n.natAbs.log2 < 1920 := by rcases four h with rfl | rfl | rfl | rfl <;> decide
theorem int_back {n : Int} (h : 1 ≤ n ∧ n ≤ 4) : PySem.intText? (strI n) = some n := by rcases four h with rfl | rfl | rfl | rfl <;> decide +kernel
theorem sum_len {ss : List Str} {c : Nat} (h : ∀ s ∈ ss, s.length ≤ c) : (ss.map (·.length)).sum ≤ ss.length * c := by
  induction ss with
  | nil => simp
  | cons s ss ih =>
    rw [List.map_cons, List.sum_cons, List.length_cons, Nat.add_mul, Nat.one_mul]
    have h1 := h s (List.mem_cons_self ..)
    have h2 := ih fun x hx => h x (List.mem_cons_of_mem _ hx)
    omega
theorem lineT_sum {w : Str} {ws : List Int} {hi : Nat} (hw : w.length ≤ 100) (h : okW 0 hi ws) : ((w :: ws.map strI).map (·.length)).sum + (w :: ws.map strI).length * (" " : Str).length ≤ 101 + 2 * hi := by
  have h1 : ((ws.map strI).map (·.length)).sum ≤ (ws.map strI).length * 1 := sum_len fun s hs => by
    obtain ⟨n, hn, rfl⟩ := List.mem_map.mp hs
    rw [strI_len (h.2.2 n hn)]
    exact Nat.le_refl _
  have h2 : (" " : Str).length = 1 := rfl
  rw [List.map_cons, List.sum_cons, List.length_cons, h2, List.length_map] at *
  have := h.2.1
  omega
theorem lineT_len {w : Str} {ws : List Int} {hi : Nat} (hw : w.length ≤ 100) (h : okW 0 hi ws) : (lineT w ws).length ≤ 101 + 2 * hi := by
  unfold lineT
  rw [TL.join_eq]
  exact Nat.le_trans (StrLaws.join_length_le _ _) (lineT_sum hw h)
def strD (d : PyData) : PyData := match d with
  | .int n => .str (strI n)
  | _ => .none
theorem mem_ints {ns : List Int} {d : PyData} (h : d ∈ dInts ns) : ∃ n ∈ ns, d = .int n := by
  obtain ⟨n, hn, e⟩ := List.mem_map.mp h
  exact ⟨n, hn, e.symm⟩
theorem mem_strs {ns : List Str} {d : PyData} (h : d ∈ dStrs ns) : ∃ n ∈ ns, d = .str n := by
  obtain ⟨n, hn, e⟩ := List.mem_map.mp h
  exact ⟨n, hn, e.symm⟩
section
variable {P : Program} {w : World} {K : PySem.W.Frag} {mg : Str → Option Value} {base : Heap}
def R_line_of : List PyData → PyData → Prop := fun ds r => ∃ w ws, ds = [.str w, .tuple (dInts ws)] ∧ w.length ≤ 100 ∧ okW 0 6 ws ∧ r = .str (lineT w ws)
def wsOf (cs : List (Str × List Int)) (x : Str) : List Int := ((cs.find? fun p => decide (p.1 = x)).map (·.2)).getD []
theorem wsOf_mem : ∀ {cs : List (Str × List Int)} {p : Str × List Int}, (cs.map (·.1)).Nodup → p ∈ cs → wsOf cs p.1 = p.2
  | [], _, _, h => by cases h
  | (k', d') :: r, p, nd, h => by
    unfold wsOf
    rw [List.find?_cons]
    have nd' := List.nodup_cons.mp nd
    rcases List.mem_cons.mp h with e | h
    · cases e
      simp
    · have hne : k' ≠ p.1 := fun e => nd'.1 (by rw [e]; exact List.mem_map.mpr ⟨_, h, rfl⟩)
      simp only [decide_eq_false hne]
      exact wsOf_mem nd'.2 h
theorem wsOf_of {c : CodeD} (ok : c.ok) {x : Str} (hx : x ∈ c.cs.map (·.1)) : isNameS x = true ∧ okW 1 6 (wsOf c.cs x) ∧ lookD (chD c.cs) x = some (.tuple (dInts (wsOf c.cs x))) := by
  obtain ⟨p, hp, rfl⟩ := List.mem_map.mp hx
  rw [wsOf_mem ok.cs.nd hp]
  exact ⟨(ok.cs.nm p hp).1, (ok.cs.nm p hp).2, chD_look ok.cs.nd hp⟩
def nmsT (c : CodeD) : List Str := srt (c.cs.map (·.1))
def linesT (c : CodeD) : List Str := lineT "start" c.st :: ((nmsT c).map (fun x => lineT x (wsOf c.cs x)) ++ ((if c.bt = [] then [] else [lineT "between" c.bt]) ++ [lineT "stop" c.sp]))
def codeT (c : CodeD) : Str := Txt.join "\n" (linesT c)
theorem nmsT_mem {c : CodeD} {x : Str} (h : x ∈ nmsT c) : x ∈ c.cs.map (·.1) := (srt_perm _).mem_iff.mp h
theorem nmsT_len (c : CodeD) : (nmsT c).length = c.cs.length := by unfold nmsT; rw [(srt_perm _).length_eq, List.length_map]
theorem okW.le {lo lo' hi hi' : Nat} {ws : List Int} (h : okW lo hi ws) (h1 : lo' ≤ lo) (h2 : hi ≤ hi') : okW lo' hi' ws := ⟨Nat.le_trans h1 h.1, Nat.le_trans h.2.1 h2, h.2.2⟩
theorem linesT_each {c : CodeD} (ok : c.ok) : ∀ l ∈ linesT c, l.length ≤ 113 := by
  intro l hl
  rcases List.mem_cons.mp hl with rfl | hl
  · exact lineT_len (by decide) (ok.st.le (by decide) (Nat.le_refl 6))
  · rcases List.mem_append.mp hl with hl | hl
    · obtain ⟨x, hx, rfl⟩ := List.mem_map.mp hl
      have z := wsOf_of ok (nmsT_mem hx)
      exact lineT_len (by rw [name_len z.1]; decide) (z.2.1.le (by decide) (Nat.le_refl 6))
    · rcases List.mem_append.mp hl with hl | hl
      · split at hl
        · cases hl
        · rw [List.mem_singleton.mp hl]
          exact lineT_len (by decide) (ok.bt.le (by decide) (by decide : 2 ≤ 6))
      · rw [List.mem_singleton.mp hl]
        exact lineT_len (by decide) (ok.sp.le (by decide) (Nat.le_refl 6))
theorem linesT_len {c : CodeD} (ok : c.ok) : (linesT c).length ≤ 13 := by
  have h1 := ok.cs.l2
  have h2 := nmsT_len c
  unfold linesT
  rw [List.length_cons, List.length_append, List.length_append, List.length_map, List.length_singleton]
  split <;> simp only [List.length_nil, List.length_singleton] <;> omega
theorem codeT_sum {c : CodeD} (ok : c.ok) : ((linesT c).map (·.length)).sum + (linesT c).length * ("\n" : Str).length ≤ 3000 := by
  have h1 := sum_len (linesT_each ok)
  have h2 := linesT_len ok
  have h3 : ("\n" : Str).length = 1 := rfl
  rw [h3]
  have h4 : (linesT c).length * 113 ≤ 13 * 113 := Nat.mul_le_mul_right _ h2
  omega
theorem codeT_len {c : CodeD} (ok : c.ok) : (codeT c).length ≤ 3000 := by
  unfold codeT
  rw [TL.join_eq]
  exact Nat.le_trans (StrLaws.join_length_le _ _) (codeT_sum ok)
def lineD (c : CodeD) (d : PyData) : PyData := match d with
  | .str x => .str (lineT x (wsOf c.cs x))
  | _ => .none
def R_format_code : List PyData → PyData → Prop := fun ds r => ∃ c : CodeD, ds = [c.d] ∧ c.ok ∧ r = .str (codeT c)
end
end K96

namespace K96
open PySem PySem.Spec PyProof.Rows L2 Sb

theorem cut_one (ds : List PyData) : Sb.cutD ds (some 1) none = ds.drop 1 := by
  unfold Sb.cutD HT.sIx
  cases ds with
  | nil => rfl
  | cons d ds =>
    have h : (max 0 (min (1 : Int) ((d :: ds).length : Int))).toNat = 1 := by rw [List.length_cons]; omega
    have h2 : (max 0 (min (((d :: ds).length : Nat) : Int) ((d :: ds).length : Int))).toNat = (d :: ds).length := by omega
    simp
theorem in_four {n : Int} (h : 1 ≤ n ∧ n ≤ 4) : inD (.str (strI n)) [.str "1", .str "2", .str "3", .str "4"] = true := by rcases four h with rfl | rfl | rfl | rfl <;> decide +kernel
def intD (d : PyData) : PyData := match d with
  | .str x => .int ((PySem.intText? x).getD 0)
  | _ => .none
def mayS (x : Str) (ks : List Str) : Bool :=
  let names := ks.filter isNameS
  if ("stop" : Str) ∈ ks then false
  else if x = "start" ∨ ks = [] then decide (x = "start") && ks.isEmpty
  else if x = "stop" then !names.isEmpty
  else if x = "between" then !names.isEmpty && !decide (("between" : Str) ∈ ks)
  else if isNameS x = false ∨ ("between" : Str) ∈ ks ∨ names.length = 10 then false
  else names.all fun z => decide (z.cps.toList < x.cps.toList)
theorem look_some {kvs : List (Str × PyData)} {x : Str} : (lookD kvs x).isSome = decide (x ∈ kvs.map (·.1)) := by
  induction kvs with
  | nil => rfl
  | cons p r ih =>
    unfold lookD at ih ⊢
    rw [List.find?_cons, List.map_cons]
    by_cases h : p.1 = x
    · rw [decide_eq_true h]
      simp [h]
    · simp only [decide_eq_false h]
      rw [ih]
      have h' : ¬ x = p.1 := fun z => h z.symm
      simp [h']
theorem shaped_strs {ss : List Str} (h : ∀ x ∈ ss, x.cps.all (· < 1114112) = true) : SeqAt.shaped (.list (dStrs ss)) = true := by
  have h1 : PyData.canLayAll0 (dStrs ss) = true := by
    induction ss with
    | nil => rfl
    | cons n ns ih =>
      show PyData.canLayAll0 (.str n :: dStrs ns) = true
      have hn := h n (List.mem_cons_self ..)
      simp only [PyData.canLayAll0, PyData.canLay0, ih fun x hx => h x (List.mem_cons_of_mem _ hx), Bool.and_true]
      exact hn
  have h2 : ∀ ns : List Str, PyData.depthAll (dStrs ns) = 0 := fun ns => by
    induction ns with
    | nil => simp [dStrs, PyData.depthAll]
    | cons n ns ih =>
      show PyData.depthAll (.str n :: dStrs ns) = 0
      simp only [PyData.depthAll, PyData.depth, Nat.zero_max]
      exact ih
  unfold SeqAt.shaped
  simp [PyData.canLay0, PyData.depth, h1, h2]
theorem name_cps {x : Str} (h : isNameS x = true) : x.cps.all (· < 1114112) = true := by
  unfold isNameS at h
  split at h
  · rename_i c hc
    have hm := of_decide_eq_true h
    have hlt : c < 1114112 := by
      have hall : ∀ c ∈ NAMESs.cps.toList, c < 1114112 := by decide +kernel
      exact hall c hm
    rw [← Array.all_toList, hc]
    simp [hlt]
  · cases h
end K96

namespace K96
open PySem PySem.Spec PyProof.Rows L2 Sb
local macro_rules | `(tactic| walk_at "ex") => `(tactic| first | exact Ex.refl _ | assumption | (refine' Ex.trans ?_ (by assumption); walk_at "ex"))
local macro_rules | `(tactic| walk_at "rp") => `(tactic| first | assumption | (refine' Rp.up ?e (by assumption); (case e => walk_at "ex")) | exact rfl)
local macro_rules | `(tactic| walk_at "rd") => `(tactic| with_reducible first | exact rd_add | exact rd_sub | exact rd_lt | exact rd_le | exact rd_gt | exact rd_ge | exact rd_eqI | exact rd_neI | exact rd_eqS | exact rd_neS | exact rd_isN | exact rd_ltS | exact rd_inSign | exact rd_eqE)
local macro_rules | `(tactic| walk_at "tr") => `(tactic| first
  | with_reducible exact d_int
  | with_reducible exact d_str
  | with_reducible exact d_bl
  | with_reducible exact d_non
  | with_reducible exact a_nil
  | with_reducible exact b_yes
  | with_reducible exact o_none
  | with_reducible exact d_newD
  | ((with_reducible refine' d_var ?i ?r); (case i => rfl); (case r => walk_at "rp"))
  | ((with_reducible refine' a_cons ?a ?b); (case a => walk_at "tr"); (case b => walk_at "tr"))
  | ((with_reducible refine' a_star ?a ?b); (case a => walk_at "tr"); (case b => walk_at "tr"))
  | ((with_reducible refine' d_isi ?a ?b); (case a => walk_at "tr"); (case b => decide))
  | ((with_reducible refine' d_op ?a ?b ?c); (case a => walk_at "tr"); (case b => walk_at "tr"); (case c => walk_at "rd"))
  | ((with_reducible refine' d_tup ?a ?b); (case a => walk_at "tr"); (case b => first | decide | (simp; done)))
  | ((with_reducible refine' d_lst ?a ?b); (case a => walk_at "tr"); (case b => first | decide | (simp; done)))
  | ((with_reducible refine' o_some ?a); (case a => walk_at "tr"))
  | ((with_reducible refine' b_B ?a); (case a => walk_at "tr"))
  | ((with_reducible refine' b_T ?a); (case a => walk_at "tr"))
  | ((with_reducible refine' b_not ?a); (case a => walk_at "tr"))
  | ((with_reducible refine' v_not ?a); (case a => walk_at "tr"))
  | ((with_reducible refine' b_or ?a ?b); (case a => walk_at "tr"); (case b => intro _; walk_at "tr"))
  | ((with_reducible refine' b_and ?a ?b); (case a => walk_at "tr"); (case b => intro _; walk_at "tr"))
  | ((with_reducible refine' v_or ?a ?b); (case a => walk_at "tr"); (case b => intro _; walk_at "tr"))
  | ((with_reducible refine' v_and ?a ?b); (case a => walk_at "tr"); (case b => intro _; walk_at "tr"))
  | assumption)


def RI (lo hi : Int) : PyData → Prop := fun d => ∃ i : Int, d = .int i ∧ lo ≤ i ∧ i ≤ hi
theorem mod_RI {x s : Int} (h : 0 < s) : RI 0 (s - 1) (.int (x % s)) := ⟨_, rfl, Int.emod_nonneg _ (by omega), by have := Int.emod_lt_of_pos x h; omega⟩
theorem bits_ok {i : Int} (h : i.natAbs < 2 ^ 200) {j : Int} (h0 : 0 ≤ j) (h1 : j ≤ 5) : CPowW i j := by
  have z : Builtin.Int.intBits i ≤ 200 := PySem.intBits_le_iff.mpr h
  refine ⟨h0, ?_⟩
  have z2 : (Builtin.Int.intBits i : Int) ≤ 200 := by omega
  have z3 : (Builtin.Int.intBits i : Int) * j ≤ 200 * j := Int.mul_le_mul_of_nonneg_right z2 h0
  have z4 : (2 : Int) ^ 27 = 134217728 := rfl
  rw [z4]
  omega
theorem log_lt {x : Nat} {k : Nat} (h : x < 2 ^ k) (hk : 0 < k) : x.log2 < k := by
  by_cases hx : x = 0
  · subst hx
    simpa using hk
  · exact (Nat.log2_lt hx).mpr h
theorem mul_ok {i j : Int} (h1 : i.natAbs < 2 ^ 200) (h2 : j.natAbs < 2 ^ 200) : CMulW i j := by
  have z1 := log_lt h1 (by decide)
  have z2 := log_lt h2 (by decide)
  show i.natAbs.log2 + j.natAbs.log2 < 1000000
  omega
section
variable {P : Program} {w : World} {K : PySem.W.Frag} {mg : Str → Option Value} {base : Heap}
def R_spin : List PyData → Nat → (PyData → Prop) → Prop := fun ds k Φ => ∃ size : Int, ds = [.int size] ∧ 0 < size ∧ size ≤ 1000000000000000000000000000000000 ∧ k = 1 ∧ Φ = RI 0 (size - 1)
theorem spin_call {r : Addr} {M0 : Hp} {σ : L2.St} {G : Hp} {n m : Nat} {i : Nat} {te : TE} {E : XK} {Φ : PyData → Prop} (hi : σ[i]? = some (some (.ref r))) (h : TrE K r M0 te σ G n m fun d => ∃ z : Int, d = .int z ∧ 0 < z ∧ z ≤ 1000000000000000000000000000000000 ∧ ∀ d, RI 0 (z - 1) d → Φ d) (hm : m + 1 ≤ 1000000) : TrE K r M0 (tCall (ESp K R_spin) [] E (tCons (tVar i) (tCons te tNil))) σ G n (m + 1) Φ := fun G1 M H e A S Rr Q q => by
  refine ⟨.ref r, hi, ?_⟩
  refine h G1 M H e A S Rr _ fun d v G2 M2 H2 e2 A2 S2 R2 hd rv => ?_
  obtain ⟨z, rfl, h0, h1, hz⟩ := hd
  refine ⟨r, [v], G2, M2, m, 1, [.int z], RI 0 (z - 1), rfl, A2, R2, ⟨v, [], rfl, rv, rfl⟩, ⟨z, rfl, h0, h1, rfl, rfl⟩, hm, fun d v G' M' H' e' A' S' R' hd' rv' => ?_⟩
  exact q d v G' M' H' (e2.trans e') A' (S2.trans S') R' (hz d hd') rv'
theorem spin_c {r : Addr} {M0 : Hp} {σ : L2.St} {G : Hp} {n : Nat} {i : Nat} {z : Int} {E : XK} (hi : σ[i]? = some (some (.ref r))) (h0 : 0 < z) (h1 : z ≤ 1000000000000000000000000000000000) (hm : n + 1 ≤ 1000000) : TrE K r M0 (tCall (ESp K R_spin) [] E (tCons (tVar i) (tCons (tC (.int z)) tNil))) σ G n (n + 1) (RI 0 (z - 1)) :=
  spin_call hi (e_D d_int ⟨z, rfl, h0, h1, fun _ h => h⟩) hm
def IsW (lo hi : Nat) : PyData → Prop := fun d => ∃ ws, d = .tuple (dInts ws) ∧ okW lo hi ws
def R_widths : List PyData → Nat → (PyData → Prop) → Prop := fun ds k Φ => ∃ lo hi : Nat, ds = [.int lo, .int hi] ∧ lo ≤ hi ∧ hi ≤ 100 ∧ k = hi + 1 ∧ Φ = IsW lo hi
theorem ints_of : ∀ {ds : List PyData} {lo hi : Int}, (∀ d ∈ ds, RI lo hi d) → ∃ ns : List Int, ds = dInts ns ∧ ∀ n ∈ ns, lo ≤ n ∧ n ≤ hi
  | [], _, _, _ => ⟨[], rfl, fun _ h => by cases h⟩
  | d :: ds, lo, hi, h => by
    obtain ⟨ns, e, hn⟩ := ints_of fun x hx => h x (List.mem_cons_of_mem _ hx)
    obtain ⟨i, rfl, h1, h2⟩ := h d (List.mem_cons_self ..)
    refine ⟨i :: ns, by rw [e]; rfl, fun n hn' => ?_⟩
    rcases List.mem_cons.mp hn' with rfl | hn'
    · exact ⟨h1, h2⟩
    · exact hn n hn'
end
end K96

namespace K96
open PySem PySem.Spec PyProof.Rows L2 Sb
local macro_rules | `(tactic| walk_at "ex") => `(tactic| first | exact Ex.refl _ | assumption | (refine' Ex.trans ?_ (by assumption); walk_at "ex"))
local macro_rules | `(tactic| walk_at "rp") => `(tactic| first | assumption | (refine' Rp.up ?e (by assumption); (case e => walk_at "ex")) | exact rfl)
local macro_rules | `(tactic| walk_at "rd") => `(tactic| with_reducible first | exact rd_add | exact rd_sub | exact rd_lt | exact rd_le | exact rd_gt | exact rd_ge | exact rd_eqI | exact rd_neI | exact rd_eqS | exact rd_neS | exact rd_isN | exact rd_ltS | exact rd_inSign | exact rd_eqE)
local macro_rules | `(tactic| walk_at "tr") => `(tactic| first
  | with_reducible exact d_int
  | with_reducible exact d_str
  | with_reducible exact d_bl
  | with_reducible exact d_non
  | with_reducible exact a_nil
  | with_reducible exact b_yes
  | with_reducible exact o_none
  | with_reducible exact d_newD
  | ((with_reducible refine' d_var ?i ?r); (case i => rfl); (case r => walk_at "rp"))
  | ((with_reducible refine' a_cons ?a ?b); (case a => walk_at "tr"); (case b => walk_at "tr"))
  | ((with_reducible refine' a_star ?a ?b); (case a => walk_at "tr"); (case b => walk_at "tr"))
  | ((with_reducible refine' d_isi ?a ?b); (case a => walk_at "tr"); (case b => decide))
  | ((with_reducible refine' d_op ?a ?b ?c); (case a => walk_at "tr"); (case b => walk_at "tr"); (case c => walk_at "rd"))
  | ((with_reducible refine' d_tup ?a ?b); (case a => walk_at "tr"); (case b => first | decide | (simp; done)))
  | ((with_reducible refine' d_lst ?a ?b); (case a => walk_at "tr"); (case b => first | decide | (simp; done)))
  | ((with_reducible refine' o_some ?a); (case a => walk_at "tr"))
  | ((with_reducible refine' b_B ?a); (case a => walk_at "tr"))
  | ((with_reducible refine' b_T ?a); (case a => walk_at "tr"))
  | ((with_reducible refine' b_not ?a); (case a => walk_at "tr"))
  | ((with_reducible refine' v_not ?a); (case a => walk_at "tr"))
  | ((with_reducible refine' b_or ?a ?b); (case a => walk_at "tr"); (case b => intro _; walk_at "tr"))
  | ((with_reducible refine' b_and ?a ?b); (case a => walk_at "tr"); (case b => intro _; walk_at "tr"))
  | ((with_reducible refine' v_or ?a ?b); (case a => walk_at "tr"); (case b => intro _; walk_at "tr"))
  | ((with_reducible refine' v_and ?a ?b); (case a => walk_at "tr"); (case b => intro _; walk_at "tr"))
  | assumption)


theorem at_int {ns : List Int} {k : Nat} (h : k < ns.length) : L2.atI ns (k : Int) = some ns[k] := by
  unfold L2.atI ixN
  have h0 : (0 : Int) ≤ (k : Int) := by omega
  have h1 : (k : Int) < (ns.length : Int) := by omega
  rw [if_pos h0, if_pos h1]
  show ns[(k : Int).toNat]? = _
  rw [Int.toNat_natCast]
  exact List.getElem?_eq_getElem h
theorem cut_mem {ns : List Int} {lo hi : Option Int} {d : PyData} (h : d ∈ Sb.cutD (dInts ns) lo hi) : ∃ n, d = .int n := by
  unfold Sb.cutD at h
  obtain ⟨n, _, e⟩ := mem_ints (List.mem_of_mem_drop (List.mem_of_mem_take h))
  exact ⟨n, e⟩
section
variable {P : Program} {w : World} {K : PySem.W.Frag} {mg : Str → Option Value} {base : Heap}
def S_reel (K : PySem.W.Frag) : Sp := fun vs H Q _ => ∃ (G M : Hp) (a : Addr) (sc : List Int) (ix : Nat), vs = [.ref a, .int ix] ∧ At G M H ∧ SqL K G a (sc.map V.int) ∧ sc.length ≤ 1000 ∧ ix ≤ 1000 ∧
  ∀ p (x b : Int) G' H', M p = none → G' p = none → Ex G G' → At G' (upd M p (.lst [.int x, .int b, .int 0])) H' → 0 ≤ b → b < 10 ^ 43 → Q (.ref p) H'
end
end K96

namespace K96
open PySem PySem.Spec PyProof.Rows L2 Sb
local macro_rules | `(tactic| walk_at "ex") => `(tactic| first | exact Ex.refl _ | assumption | (refine' Ex.trans ?_ (by assumption); walk_at "ex"))
local macro_rules | `(tactic| walk_at "rp") => `(tactic| first | assumption | (refine' Rp.up ?e (by assumption); (case e => walk_at "ex")) | exact rfl)
local macro_rules | `(tactic| walk_at "rd") => `(tactic| with_reducible first | exact rd_add | exact rd_sub | exact rd_lt | exact rd_le | exact rd_gt | exact rd_ge | exact rd_eqI | exact rd_neI | exact rd_eqS | exact rd_neS | exact rd_isN | exact rd_ltS | exact rd_inSign | exact rd_eqE)
local macro_rules | `(tactic| walk_at "tr") => `(tactic| first
  | with_reducible exact d_int
  | with_reducible exact d_str
  | with_reducible exact d_bl
  | with_reducible exact d_non
  | with_reducible exact a_nil
  | with_reducible exact b_yes
  | with_reducible exact o_none
  | with_reducible exact d_newD
  | ((with_reducible refine' d_var ?i ?r); (case i => rfl); (case r => walk_at "rp"))
  | ((with_reducible refine' a_cons ?a ?b); (case a => walk_at "tr"); (case b => walk_at "tr"))
  | ((with_reducible refine' a_star ?a ?b); (case a => walk_at "tr"); (case b => walk_at "tr"))
  | ((with_reducible refine' d_isi ?a ?b); (case a => walk_at "tr"); (case b => decide))
  | ((with_reducible refine' d_op ?a ?b ?c); (case a => walk_at "tr"); (case b => walk_at "tr"); (case c => walk_at "rd"))
  | ((with_reducible refine' d_tup ?a ?b); (case a => walk_at "tr"); (case b => first | decide | (simp; done)))
  | ((with_reducible refine' d_lst ?a ?b); (case a => walk_at "tr"); (case b => first | decide | (simp; done)))
  | ((with_reducible refine' o_some ?a); (case a => walk_at "tr"))
  | ((with_reducible refine' b_B ?a); (case a => walk_at "tr"))
  | ((with_reducible refine' b_T ?a); (case a => walk_at "tr"))
  | ((with_reducible refine' b_not ?a); (case a => walk_at "tr"))
  | ((with_reducible refine' v_not ?a); (case a => walk_at "tr"))
  | ((with_reducible refine' b_or ?a ?b); (case a => walk_at "tr"); (case b => intro _; walk_at "tr"))
  | ((with_reducible refine' b_and ?a ?b); (case a => walk_at "tr"); (case b => intro _; walk_at "tr"))
  | ((with_reducible refine' v_or ?a ?b); (case a => walk_at "tr"); (case b => intro _; walk_at "tr"))
  | ((with_reducible refine' v_and ?a ?b); (case a => walk_at "tr"); (case b => intro _; walk_at "tr"))
  | assumption)


def tD (ws : List Int) : PyData := .tuple (dInts ws)
def lettS : Str := "0123456789abcdefghijklmnoprstuvwxyz"
def L35 : List Str := lettS.cps.toList.map fun c => ⟨#[c]⟩
theorem L35_sign : Sb.signs lettS = L35.map V.str := by unfold Sb.signs L35; rw [List.map_map]; rfl
theorem L35_len : L35.length = 35 := by decide +kernel
theorem L35_nd : L35.Nodup := by
  have h : (lettS.cps.toList).Nodup := by decide +kernel
  exact h.map _ fun a b hab e => hab (by injection e with e; simpa using e)
theorem L35_nm : ∀ x ∈ L35, isNameS x = true := by
  intro x hx
  obtain ⟨c, hc, rfl⟩ := List.mem_map.mp hx
  have h : ∀ c ∈ lettS.cps.toList, isNameS ⟨#[c]⟩ = true := by decide +kernel
  exact h c hc
theorem shaped_rows (rows : List (List Int)) : SeqAt.shaped (.list (rows.map tD)) = true := by
  have h1 : PyData.canLayAll0 (rows.map tD) = true ∧ PyData.depthAll (rows.map tD) ≤ 1 := by
    induction rows with
    | nil => exact ⟨rfl, Nat.zero_le _⟩
    | cons r rs ih =>
      have z := shaped_ints r
      have z1 := SeqAt.canLay_of_shaped z
      refine ⟨?_, ?_⟩
      · show (PyData.canLay0 (tD r) && PyData.canLayAll0 (rs.map tD)) = true
        rw [ih.1, Bool.and_true]
        exact z1
      · show max (PyData.depth (tD r)) (PyData.depthAll (rs.map tD)) ≤ 1
        have e : PyData.depth (tD r) = 1 := by
          show PyData.depthAll (dInts r) + 1 = 1
          have : ∀ ns : List Int, PyData.depthAll (dInts ns) = 0 := fun ns => by
            induction ns with
            | nil => rfl
            | cons n ns ih =>
              show max (PyData.depth (.int n)) (PyData.depthAll (dInts ns)) = 0
              rw [ih]
              rfl
          rw [this]
        have := ih.2
        omega
  unfold SeqAt.shaped
  show (PyData.canLayAll0 (rows.map tD) && decide (PyData.depthAll (rows.map tD) + 1 ≤ 64)) = true
  rw [h1.1, decide_eq_true (by have := h1.2; omega)]
  rfl
theorem cut_to {ds : List PyData} {k : Nat} (h : k ≤ ds.length) : Sb.cutD ds none (some (k : Int)) = ds.take k := by
  unfold Sb.cutD
  rw [HT.sIx_nat, HT.sIx_none, List.drop_zero, Nat.sub_zero, Nat.min_eq_left h]
theorem cut_from {ds : List PyData} {k : Nat} (h : k ≤ ds.length) : Sb.cutD ds (some (k : Int)) none = ds.drop k := by
  unfold Sb.cutD
  rw [HT.sIx_nat, HT.sIx_none, Nat.min_eq_left h]
  exact List.take_of_length_le (by rw [List.length_drop]; exact Nat.le_refl _)
theorem at_dat {ds : List PyData} {k : Nat} (h : k < ds.length) : L2.atI ds (k : Int) = some ds[k] := by
  unfold L2.atI ixN
  have h0 : (0 : Int) ≤ (k : Int) := by omega
  have h1 : (k : Int) < (ds.length : Int) := by omega
  rw [if_pos h0, if_pos h1]
  show ds[(k : Int).toNat]? = _
  rw [Int.toNat_natCast]
  exact List.getElem?_eq_getElem h
theorem er_map {α β : Type} (f : α → β) (l : List α) (k : Nat) : (l.map f).eraseIdx k = (l.eraseIdx k).map f := by
  rw [List.eraseIdx_eq_take_drop_succ, List.eraseIdx_eq_take_drop_succ, List.map_append, List.map_take, List.map_drop]
theorem four_at {a b c d : PyData} {i : Int} (h0 : 0 ≤ i) (h1 : i ≤ 3) : ∃ e, L2.atI [a, b, c, d] i = some e ∧ (e = a ∨ e = b ∨ e = c ∨ e = d) := by
  have : i = 0 ∨ i = 1 ∨ i = 2 ∨ i = 3 := by omega
  rcases this with rfl | rfl | rfl | rfl
  · exact ⟨a, rfl, .inl rfl⟩
  · exact ⟨b, rfl, .inr (.inl rfl)⟩
  · exact ⟨c, rfl, .inr (.inr (.inl rfl))⟩
  · exact ⟨d, rfl, .inr (.inr (.inr rfl))⟩
theorem three_at {a b c : PyData} {i : Int} (h0 : 0 ≤ i) (h1 : i ≤ 2) : ∃ e, L2.atI [a, b, c] i = some e ∧ (e = a ∨ e = b ∨ e = c) := by
  have : i = 0 ∨ i = 1 ∨ i = 2 := by omega
  rcases this with rfl | rfl | rfl
  · exact ⟨a, rfl, .inl rfl⟩
  · exact ⟨b, rfl, .inr (.inl rfl)⟩
  · exact ⟨c, rfl, .inr (.inr rfl)⟩
theorem okW.app {a b c d : Nat} {xs ys : List Int} (h : okW a b xs) (k : okW c d ys) : okW (a + c) (b + d) (xs ++ ys) := by
  refine ⟨?_, ?_, fun n hn => ?_⟩
  · rw [List.length_append]; have := h.1; have := k.1; omega
  · rw [List.length_append]; have := h.2.1; have := k.2.1; omega
  · rcases List.mem_append.mp hn with z | z
    · exact h.2.2 n z
    · exact k.2.2 n z
/-- a row, one of its widths another -/
theorem okW.edit {a b : Nat} {xs : List Int} {k : Nat} {z : Int} (h : okW a b xs) (hk : k < xs.length) (h1 : 1 ≤ z) (h4 : z ≤ 4) : okW a b (xs.take k ++ [z] ++ xs.drop (k + 1)) := by
  refine ⟨?_, ?_, fun n hn => ?_⟩
  · have := h.1
    simp only [List.length_append, List.length_take, List.length_drop, List.length_singleton]
    omega
  · have := h.2.1
    simp only [List.length_append, List.length_take, List.length_drop, List.length_singleton]
    omega
  · rcases List.mem_append.mp hn with z' | z'
    · rcases List.mem_append.mp z' with z' | z'
      · exact h.2.2 n (List.mem_of_mem_take z')
      · rw [List.mem_singleton.mp z']; omega
    · exact h.2.2 n (List.mem_of_mem_drop z')
def nqS (x : Str) : Prop := isNameS x = true ∧ x ≠ "q"
theorem L35_nq : ∀ x ∈ L35, nqS x := by
  intro x hx
  refine ⟨L35_nm x hx, ?_⟩
  obtain ⟨c, hc, rfl⟩ := List.mem_map.mp hx
  have h : ∀ c ∈ lettS.cps.toList, c ≠ 113 := by decide +kernel
  intro e
  have e2 : (#[c] : Array Nat) = #[113] := congrArg Str.cps e
  exact h c hc (by simpa using e2)
def ch1 : List (List Int) := [[2, 1], [1, 2], [3, 2], [2, 3]]
def ch2 : List (List Int) := [[3, 2, 1], [1, 2, 3], [4, 3, 2], [2, 3, 4]]
def ch3 : List (List Int) := [[3, 2], [1, 1, 2, 3], [4, 3, 2], [2, 3, 4]]
def ch4 : List (List Int) := [[1], [2, 1], [1, 1], [2]]
def IsCh (d : PyData) : Prop := ∃ ch : List (List Int), d = .list (ch.map tD) ∧ ch.length = 4 ∧ ∀ x ∈ ch, okW 1 4 x
instance (lo hi : Nat) (ns : List Int) : Decidable (okW lo hi ns) := by unfold okW; infer_instance
section
variable {P : Program} {w : World} {K : PySem.W.Frag} {mg : Str → Option Value} {base : Heap}
def R_code : List PyData → Nat → (PyData → Prop) → Prop := fun ds k Φ => ∃ many most : Nat, ds = [.int many, .int most] ∧ 1 ≤ many ∧ many ≤ 10 ∧ 1 ≤ most ∧ most ≤ 6 ∧ k = 1000 ∧ Φ = fun d => ∃ c : CodeD, d = c.d ∧ c.ok ∧ ("q" : Str) ∉ c.cs.map (·.1)
abbrev slC (r pl pr : Addr) (v1 v2 v5 v6 v7 v8 v9 : V) (a10 a11 a12 a13 a14 a15 : Option V) : L2.St := [some (.ref r), some v1, some v2, some (.ref pl), some (.ref pr), some v5, some v6, some v7, some v8, some v9, a10, a11, a12, a13, a14, a15]
theorem widths_call {r : Addr} {M0 : Hp} {σ : L2.St} {G : Hp} {n : Nat} {ta tb : TE} {lo hi : Nat} {E : XK} (hi' : σ[0]? = some (some (.ref r))) (ha : TrD K ta σ G (.int lo)) (hb : TrD K tb σ G (.int hi)) (h0 : lo ≤ hi) (h1 : hi ≤ 100) (hm : n + (hi + 1) ≤ 1000000) : TrE K r M0 (tCall (ESp K R_widths) [] E (tCons (tVar 0) (tCons ta (tCons tb tNil)))) σ G n (n + (hi + 1)) (IsW lo hi) :=
  e_call (Ψ := fun ds => ds = [.int lo, .int hi]) hi' (ea_A (a_cons ha (a_cons hb a_nil)) rfl) (fun ds h => ⟨lo, hi, h, h0, h1, rfl, rfl⟩) hm
end
end K96

namespace K96
open PySem PySem.Spec PyProof.Rows L2 Sb
local macro_rules | `(tactic| walk_at "ex") => `(tactic| first | exact Ex.refl _ | assumption | (refine' Ex.trans ?_ (by assumption); walk_at "ex"))
local macro_rules | `(tactic| walk_at "rp") => `(tactic| first | assumption | (refine' Rp.up ?e (by assumption); (case e => walk_at "ex")) | exact rfl)
local macro_rules | `(tactic| walk_at "rd") => `(tactic| with_reducible first | exact rd_add | exact rd_sub | exact rd_lt | exact rd_le | exact rd_gt | exact rd_ge | exact rd_eqI | exact rd_neI | exact rd_eqS | exact rd_neS | exact rd_isN | exact rd_ltS | exact rd_inSign | exact rd_eqE)
local macro_rules | `(tactic| walk_at "tr") => `(tactic| first
  | with_reducible exact d_int
  | with_reducible exact d_str
  | with_reducible exact d_bl
  | with_reducible exact d_non
  | with_reducible exact a_nil
  | with_reducible exact b_yes
  | with_reducible exact o_none
  | with_reducible exact d_newD
  | ((with_reducible refine' d_var ?i ?r); (case i => rfl); (case r => walk_at "rp"))
  | ((with_reducible refine' a_cons ?a ?b); (case a => walk_at "tr"); (case b => walk_at "tr"))
  | ((with_reducible refine' a_star ?a ?b); (case a => walk_at "tr"); (case b => walk_at "tr"))
  | ((with_reducible refine' d_isi ?a ?b); (case a => walk_at "tr"); (case b => decide))
  | ((with_reducible refine' d_op ?a ?b ?c); (case a => walk_at "tr"); (case b => walk_at "tr"); (case c => walk_at "rd"))
  | ((with_reducible refine' d_tup ?a ?b); (case a => walk_at "tr"); (case b => first | decide | (simp; done)))
  | ((with_reducible refine' d_lst ?a ?b); (case a => walk_at "tr"); (case b => first | decide | (simp; done)))
  | ((with_reducible refine' o_some ?a); (case a => walk_at "tr"))
  | ((with_reducible refine' b_B ?a); (case a => walk_at "tr"))
  | ((with_reducible refine' b_T ?a); (case a => walk_at "tr"))
  | ((with_reducible refine' b_not ?a); (case a => walk_at "tr"))
  | ((with_reducible refine' v_not ?a); (case a => walk_at "tr"))
  | ((with_reducible refine' b_or ?a ?b); (case a => walk_at "tr"); (case b => intro _; walk_at "tr"))
  | ((with_reducible refine' b_and ?a ?b); (case a => walk_at "tr"); (case b => intro _; walk_at "tr"))
  | ((with_reducible refine' v_or ?a ?b); (case a => walk_at "tr"); (case b => intro _; walk_at "tr"))
  | ((with_reducible refine' v_and ?a ?b); (case a => walk_at "tr"); (case b => intro _; walk_at "tr"))
  | assumption)


/-! ### texts of a code -/
def isTextD (c : CodeD) (d : PyData) : Bool := match d with
  | .str t => (chrs t).all fun x => decide (x ∈ c.cs.map (·.1))
  | _ => false
def rowL (c : CodeD) (t : Str) : List Int := c.st ++ c.bt ++ ((chrs t).flatMap fun x => wsOf c.cs x ++ c.bt) ++ c.sp
theorem all_map {α : Type} (l : List α) (f : α → Bool) : (l.map f).all id = l.all f := by rw [List.all_map]; rfl
/-! ### decimal words -/
def digS : Str := "0123456789"
theorem dig_iff {c : Nat} : c ∈ digS.cps.toList ↔ 48 ≤ c ∧ c ≤ 57 := by
  have h : digS.cps.toList = [48, 49, 50, 51, 52, 53, 54, 55, 56, 57] := by decide +kernel
  rw [h]
  simp only [List.mem_cons, List.not_mem_nil, or_false]
  omega
def decB (w : Str) (most : Int) : Bool := decide (1 ≤ w.length) && decide ((w.length : Int) ≤ most) && (w.cps.toList.all fun c => decide (c ∈ digS.cps.toList)) && (decide (w = "0") || !decide (w.cps.toList[0]? = some 48))
def badW (p : Nat) (w : Str) : Bool := decide (400 ≤ p) || (!decB w 400 || decide (w = "0"))
def firstBad : List Str → Nat → Option Nat
  | [], _ => none
  | w :: ws, p => if badW p w = true then some p else firstBad ws (p + 1)
theorem firstBad_none : ∀ {ws : List Str} {p : Nat}, (∀ k w, ws[k]? = some w → badW (p + k) w = false) → firstBad ws p = none
  | [], _, _ => rfl
  | w :: ws, p, h => by
    have h0 := h 0 w rfl
    unfold firstBad
    rw [if_neg (by rw [show p = p + 0 from rfl, h0]; decide)]
    exact firstBad_none fun k x hk => by
      have := h (k + 1) x hk
      rw [show p + 1 + k = p + (k + 1) by omega]
      exact this
theorem firstBad_at : ∀ {ws : List Str} {p k : Nat} {w : Str}, ws[k]? = some w → badW (p + k) w = true → (∀ j, j < k → ∀ x, ws[j]? = some x → badW (p + j) x = false) → firstBad ws p = some (p + k)
  | [], _, _, _, h, _, _ => by cases h
  | y :: ws, p, 0, w, h, hb, _ => by
    cases h
    unfold firstBad
    rw [if_pos (show badW p y = true from hb)]
    rfl
  | y :: ws, p, k + 1, w, h, hb, hp => by
    have h0 := hp 0 (Nat.succ_pos _) y rfl
    unfold firstBad
    rw [if_neg (by rw [show p = p + 0 from rfl, h0]; decide)]
    rw [show p + (k + 1) = p + 1 + k by omega] at hb ⊢
    refine firstBad_at (by simpa using h) hb fun j hj x hx => ?_
    have := hp (j + 1) (by omega) x (by simpa using hx)
    rw [show p + 1 + j = p + (j + 1) by omega]
    exact this
theorem firstBad_ok : ∀ {ws : List Str} {p : Nat}, firstBad ws p = none → ∀ w ∈ ws, ∃ q, badW q w = false
  | w :: ws, p, h, x, hx => by
    unfold firstBad at h
    by_cases hb : badW p w = true
    · rw [if_pos hb] at h; cases h
    · rw [if_neg hb] at h
      rcases List.mem_cons.mp hx with rfl | hx
      · exact ⟨p, by cases z : badW p x with | true => exact absurd z hb | false => rfl⟩
      · exact firstBad_ok h x hx
theorem good_dec {q : Nat} {w : Str} (h : badW q w = false) : decB w 400 = true ∧ w ≠ "0" ∧ q < 400 := by
  unfold badW at h
  obtain ⟨h1, h2⟩ := Bool.or_eq_false_iff.mp h
  obtain ⟨h3, h4⟩ := Bool.or_eq_false_iff.mp h2
  exact ⟨by simpa using h3, of_decide_eq_false h4, by have := of_decide_eq_false h1; omega⟩
theorem dec_int {w : Str} (h : decB w 400 = true) : (∃ n : Nat, PySem.intText? w = some (n : Int)) ∧ w.length ≤ 400 := by
  unfold decB at h
  obtain ⟨h1, h2⟩ := Bool.and_eq_true_iff.mp h
  obtain ⟨h3, h4⟩ := Bool.and_eq_true_iff.mp h1
  obtain ⟨h5, h6⟩ := Bool.and_eq_true_iff.mp h3
  have l1 := of_decide_eq_true h5
  have l2 := of_decide_eq_true h6
  have hd : NumText.AllDigits w.cps.toList := fun c hc => dig_iff.mp (of_decide_eq_true (List.all_eq_true.mp h4 c hc))
  refine ⟨⟨_, intText_digits hd (fun z => ?_) (by omega)⟩, by omega⟩
  have : w.length = w.cps.toList.length := rfl
  rw [z] at this
  simp at this
  omega
section
variable {P : Program} {w : World} {K : PySem.W.Frag} {mg : Str → Option Value} {base : Heap}
def R_is_text : List PyData → PyData → Prop := fun ds r => ∃ (c : CodeD) (d : PyData), ds = [c.d, d] ∧ (∀ t, d = .str t → t.cps.size ≤ 10000) ∧ r = .bool (isTextD c d)
theorem F_is_text (T : Tx K mg) : Fd P w K mg base CX0 2 "is_text" (PSp K R_is_text) [] := by
  obtain ⟨fd, F⟩ := T.f_is_text
  refine ⟨_, fd, ["code", "value"], [], T.g_is_text, F.kp, F.bindsN fun _ _ _ _ _ _ us hl => match us, hl with | [_, _], _ => rfl, .nil, ?_⟩
  refine fnG_of F sc_is_text (fun vs H Q E h => PSp.len (n := 2) (by rintro _ _ ⟨d, e, rfl, _⟩; rfl) h) (fun cdv A outer s H vs Q E hg hr h => ?_)
  obtain ⟨G, M, ds, r, hA, hR, ⟨c, d, rfl, hz, rfl⟩, q⟩ := h
  obtain ⟨v0, _, rfl, r0, v1, _, rfl, r1, rfl⟩ := hR
  refine ⟨_, PSs.nox (pss_one (ps_ret (pe_and (pe_callB call_isi (by rfl) T.n_isinstance (by decide +kernel) (pa_cons (pv 1) (pa_cons (pe_bltn (v := .ty "str") (u := .type "str") (by rfl) T.n_str (by decide +kernel) rfl) pa_nil))) (pe_one (pe_callB (cr_all rfl) (by rfl) T.n_all (by decide +kernel) (pa_cons (pe_lc (own := [("name", 2)]) (g := gName 2) (by rfl) sc_is_text.nd (pi_str (pv 1)) (blkOk_by (own := [("name", 2)]) (N := ["code", "value", "name"]) (sc := defScope s_is_text) (by decide +kernel)) (fun _ _ _ _ _ => (pg_name (i := 2) sc_is_text.nd rfl (by first | exact Or.inl rfl | exact Or.inr rfl))) (fun _ _ _ _ _ => pts_nil) (fun _ _ _ _ _ => (pe_cmp (pc_din (hu_of hr) (pv 2) (pe_ix (show IxR _ (rIxT K) from ix_tup) (pv 0) pe_int (fun _ _ => rfl))) (by rfl)))) pa_nil)))))), ?_⟩
  rw [show L2.start ["code", "value", "name"] [v0, v1] = [some v0, some v1, none] from rfl]
  dsimp only [xK]
  refine s_ret (d := .bool (isTextD c d)) ?_ hA q
  by_cases hd : ∃ t, d = .str t
  · obtain ⟨t, rfl⟩ := hd
    refine v_andT (TrD.to (d_isi (n := "str") (d_var rfl r1)) rfl) (TrD.to (d_cb (a_cons (TrD.to (d_lcS (p := fun _ => true) (f := fun x => .bool (decide (x ∈ c.cs.map (·.1)))) (d_var rfl r1) (by have := hz t rfl; omega) (fun _ _ _ _ => b_yes) fun x hx _ G1 e1 => ?_) (d2 := .list (((chrs t).map fun x => decide (x ∈ c.cs.map (·.1))).map .bool)) (by rw [filt_true, List.map_map]; rfl)) a_nil) rc_all) ?_)
    · refine TrD.to (v_din (K := K) (kvs := chD c.cs) (x := x) (d_var rfl (d := .str x) rfl) (d_op (d_var rfl (r0.up e1)) d_int (rd_ixT rfl))) ?_
      rw [look_some, chD_keys]
    · rw [all_map]
      rfl
  · have e : isTextD c d = false := by cases d <;> first | rfl | exact absurd ⟨_, rfl⟩ hd
    rw [e]
    exact v_andF (TrD.to (d_isi (n := "str") (d_var rfl r1)) (by cases d <;> first | rfl | exact absurd ⟨_, rfl⟩ hd))
def R_require_text : List PyData → PyData → Prop := fun ds r => ∃ (c : CodeD) (t : Str), ds = [c.d, .str t] ∧ t.cps.size ≤ 10000 ∧ isTextD c (.str t) = true ∧ r = .none
theorem F_require_text (T : Tx K mg) : Fd P w K mg base CX0 3 "require_text" (PSp K R_require_text) [] := by
  obtain ⟨fd, F⟩ := T.f_require_text
  refine ⟨_, fd, ["code", "value"], [], T.g_require_text, F.kp, F.bindsN fun _ _ _ _ _ _ us hl => match us, hl with | [_, _], _ => rfl, .nil, ?_⟩
  refine fnG_of F sc_require_text (fun vs H Q E h => PSp.len (n := 2) (by rintro _ _ ⟨d, e, rfl, _⟩; rfl) h) (fun cdv A outer s H vs Q E hg hr h => ?_)
  obtain ⟨G, M, ds, r, hA, hR, ⟨c, t, rfl, hz, ht, rfl⟩, q⟩ := h
  obtain ⟨v0, _, rfl, r0, v1, _, rfl, r1, rfl⟩ := hR
  refine ⟨_, PSs.nox (pss_one (ps_if (pt_not (pt_val (pe_fd (F_is_text (P := P) (w := w) (base := base) T) hg (hr.mono (by decide)) pass0 (pa_cons (pv 0) (pa_cons (pv 1) pa_nil))))) (pss_one ps_never) pss_nil)), ?_⟩
  rw [show L2.start ["code", "value"] [v0, v1] = [some v0, some v1] from rfl]
  dsimp only [xK]
  refine s_ifF (TrB.to (b_not (b_B (d_call0 (a_cons (d_var rfl r0) (a_cons (d_var rfl r1) a_nil)) ⟨c, .str t, rfl, fun u hu => by cases hu; exact hz, rfl⟩))) (by rw [ht]; rfl)) hA fun G1 H1 e1 A1 => ?_
  exact s_next (q _ _ _ e1 A1 rfl)
def fScan (d : PyData) : List PyData := match d with
  | .list xs => if 1 ≤ xs.length ∧ xs.length ≤ 400 then ((xs.zipIdx.filter fun q => !isIntD q.1 (some 1) none).map fun q => PyData.int (q.2 : Int)).take 1 else [.none]
  | _ => [.none]
def R_fault_of_scan : List PyData → PyData → Prop := fun ds r => ∃ d, ds = [d] ∧ (∀ xs, d = .list xs → xs.length ≤ 10000) ∧ r = .list (fScan d)
theorem F_fault_of_scan (T : Tx K mg) : Fd P w K mg base CX0 2 "fault_of_scan" (PSp K R_fault_of_scan) [] := by
  obtain ⟨fd, F⟩ := T.f_fault_of_scan
  refine ⟨_, fd, ["value"], [], T.g_fault_of_scan, F.kp, F.bindsN fun _ _ _ _ _ _ us hl => match us, hl with | [_], _ => rfl, .nil, ?_⟩
  refine fnG_of F sc_fault_of_scan (fun vs H Q E h => PSp.len (n := 1) (by rintro _ _ ⟨d, rfl, _⟩; rfl) h) (fun cdv A outer s H vs Q E hg hr h => ?_)
  obtain ⟨G, M, ds, r, hA, hR, ⟨d, rfl, hz, rfl⟩, q⟩ := h
  obtain ⟨v0, _, rfl, r0, rfl⟩ := hR
  refine ⟨_, PSs.nox (pss_cons (ps_if (PW.pt (pw_or (pt_not (pt_val (pe_callB call_isi (by rfl) T.n_isinstance (by decide +kernel) (pa_cons (pv 0) (pa_cons (pe_bltn (v := .ty "list") (u := .type "list") (by rfl) T.n_list (by decide +kernel) rfl) pa_nil))))) (pw_or1 (pt_not (pt_chain op_le op_le pe_int (pe_callB call_len' (by rfl) T.n_len (by decide +kernel) (pa_cons (pv 0) pa_nil)) (pe_glob (v := .int 400) (by rfl) T.c_MOST_DURATIONS.choose_spec ⟨_, rfl⟩)))))) (pss_one (ps_ret (pe_lst (pa_cons pe_non pa_nil)))) pss_nil)
    (pss_one (ps_ret (pe_slice sl_list (pe_lc (own := [("index", 1), ("item", 2)]) (g := gTup K 2 (gCons (gName 1) (gCons (gName 2) gNil))) (by rfl) sc_fault_of_scan.nd (pi_enum (by rfl) T.n_enumerate (pa_cons (pv 0) pa_nil)) (blkOk_by (own := [("index", 1), ("item", 2)]) (N := ["value", "index", "item"]) (sc := defScope s_fault_of_scan) (by decide +kernel)) (fun _ _ _ _ _ => (pg_tup (by rfl) (pgs_cons (pg_name (i := 1) sc_fault_of_scan.nd rfl (by first | exact Or.inl rfl | exact Or.inr rfl)) (pgs_cons (pg_name (i := 2) sc_fault_of_scan.nd rfl (by first | exact Or.inl rfl | exact Or.inr rfl)) pgs_nil)))) (fun _ _ _ _ _ => (pts_one (pt_not (pt_val (pe_fd (F_is_integer2 (P := P) (w := w) (base := base) T) hg (hr.mono (by decide)) pass0 (pa_cons (pv 2) (pa_cons pe_int pa_nil))))))) (fun _ _ _ _ _ => (pv 1))) po_none (po_some pe_int))))), ?_⟩
  rw [show L2.start ["value", "index", "item"] [v0] = [some v0, none, none] from rfl]
  dsimp only [xK]
  by_cases hd : ∃ xs, d = .list xs
  · obtain ⟨xs, rfl⟩ := hd
    have hxs := hz xs rfl
    have ht : TrB _ [some v0, none, none] G (!isA "list" (.list xs) || !(decide ((1 : Int) ≤ (xs.length : Int)) && decide ((xs.length : Int) ≤ 400))) :=
      b_or (b_not (b_B (d_isi (d_var (i := 0) rfl r0)))) fun _ => b_not (b_T (d_chain d_int (d_cb (a_cons (d_var (i := 0) rfl r0) a_nil) (rc_lenL (K := K))) rd_le (fun _ => d_int) fun _ => rd_le))
    by_cases hl : 1 ≤ xs.length ∧ xs.length ≤ 400
    · refine q_guardF (TrB.to ht ?_) hA fun G1 H1 e1 A1 => ?_
      · rw [decide_eq_true (by omega), decide_eq_true (by omega)]; rfl
      refine s_ret (d := .list (fScan (.list xs))) (TrD.to (d_slL (d_lcE (p := fun _ x => !isIntD x (some 1) none) (f := fun k _ => .int (k : Int)) (by decide) (d_var rfl (r0.up e1)) (by omega) rfl (fun k d hk x G2 e2 rx => ?_) fun k d hk hp x G2 e2 rx => ?_) o_none (o_some (K := K) d_int)) ?_) A1 (q.mono e1)
      · exact b_not (b_B (d_call (a_cons (d_var rfl rx) (a_cons d_int a_nil)) (es := [.none]) ⟨.non, [], rfl, rfl, rfl⟩ ⟨d, some 1, none, rfl, rfl⟩))
      · exact d_var rfl (d := .int (k : Int)) rfl
      · unfold fScan
        simp only [if_pos hl]
        congr 1
        generalize (xs.zipIdx.filter fun q => !isIntD q.1 (some 1) none).map (fun q => PyData.int (q.2 : Int)) = ys
        unfold Sb.cutD
        cases ys with
        | nil => rfl
        | cons y ys =>
          have e : HT.sIx (y :: ys).length (y :: ys).length (some 1) = 1 := by
            have := HT.sIx_nat (y :: ys).length (y :: ys).length 1
            rw [List.length_cons] at this ⊢
            rw [show ((1 : Nat) : Int) = 1 from rfl] at this
            rw [this]
            omega
          rw [e, HT.sIx_none, List.drop_zero, Nat.sub_zero]
    · have e : fScan (.list xs) = [.none] := if_neg hl
      rw [e] at q
      refine q_guardR (TrB.to ht ?_) hA fun G1 H1 e1 A1 => s_ret (d_lst (a_cons d_non a_nil)) A1 (q.mono e1)
      have : (decide ((1 : Int) ≤ (xs.length : Int)) && decide ((xs.length : Int) ≤ 400)) = false := by
        by_cases h1 : 1 ≤ xs.length
        · rw [decide_eq_false (show ¬ ((xs.length : Int) ≤ 400) by omega), Bool.and_false]
        · rw [decide_eq_false (show ¬ ((1 : Int) ≤ (xs.length : Int)) by omega), Bool.false_and]
      rw [this]
      rfl
  · have e : fScan d = [.none] := by cases d <;> first | rfl | exact absurd ⟨_, rfl⟩ hd
    rw [e] at q
    refine q_guardR (b_orT (TrB.to (b_not (b_B (d_isi (n := "list") (d_var rfl r0)))) ?_)) hA fun G1 H1 e1 A1 => s_ret (d_lst (a_cons d_non a_nil)) A1 (q.mono e1)
    cases d <;> first | rfl | exact absurd ⟨_, rfl⟩ hd
def okScan (ns : List Int) : Prop := 1 ≤ ns.length ∧ ns.length ≤ 400 ∧ ∀ n ∈ ns, 1 ≤ n ∧ n.natAbs.log2 < 1900
theorem fScan_ok {ns : List Int} (h : okScan ns) : fScan (.list (dInts ns)) = [] := by
  unfold fScan
  simp only
  rw [if_pos ⟨by rw [dInts_len]; exact h.1, by rw [dInts_len]; exact h.2.1⟩]
  have e : ((dInts ns).zipIdx.filter fun q => !isIntD q.1 (some 1) none) = [] := by
    rw [List.filter_eq_nil_iff]
    rintro ⟨d, k⟩ hq
    have hd : d ∈ dInts ns := by
      have := List.mem_zipIdx hq
      rw [this.2.2]
      exact List.getElem_mem _
    obtain ⟨n, hn, rfl⟩ := mem_ints hd
    show ¬ (!(decide (1 ≤ n) && true)) = true
    rw [decide_eq_true (h.2.2 n hn).1]
    decide
  rw [e]
  rfl
def R_require_scan : List PyData → PyData → Prop := fun ds r => ∃ ns, ds = [.list (dInts ns)] ∧ okScan ns ∧ r = .none
theorem F_require_scan (T : Tx K mg) : Fd P w K mg base CX0 3 "require_scan" (PSp K R_require_scan) [] := by
  obtain ⟨fd, F⟩ := T.f_require_scan
  refine ⟨_, fd, ["value"], [], T.g_require_scan, F.kp, F.bindsN fun _ _ _ _ _ _ us hl => match us, hl with | [_], _ => rfl, .nil, ?_⟩
  refine fnG_of F sc_require_scan (fun vs H Q E h => PSp.len (n := 1) (by rintro _ _ ⟨d, rfl, _⟩; rfl) h) (fun cdv A outer s H vs Q E hg hr h => ?_)
  obtain ⟨G, M, ds, r, hA, hR, ⟨ns, rfl, ok, rfl⟩, q⟩ := h
  obtain ⟨v0, _, rfl, r0, rfl⟩ := hR
  refine ⟨_, PSs.nox (pss_cons (ps_set (i := 1) sc_require_scan.nd rfl (by first | exact Or.inl rfl | exact Or.inr rfl) (pe_fd (F_fault_of_scan (P := P) (w := w) (base := base) T) hg (hr.mono (by decide)) pass0 (pa_cons (pv 0) pa_nil)))
    (pss_one (ps_if (pt_cmpR (op_neR hr.units) (pv 1) (pe_lst pa_nil) (nomark _)) (pss_one ps_never) pss_nil))), ?_⟩
  rw [show L2.start ["value", "faults"] [v0] = [some v0, none] from rfl]
  dsimp only [xK]
  refine q_set (d_call0 (a_cons (d_var rfl r0) a_nil) ⟨_, rfl, fun xs hx => by cases hx; rw [dInts_len]; have := ok.2.1; omega, rfl⟩) hA fun v1 G1 H1 e1 A1 r1 => ?_
  rw [fScan_ok ok] at r1
  refine s_ifF (TrB.to (b_T (d_op (d_var rfl r1) (d_lst a_nil) (rd_neR rfl rfl))) (by rw [eqv_nil]; rfl)) A1 fun G2 H2 e2 A2 => s_next (q _ _ _ (e1.trans e2) A2 rfl)
def R_is_decimal : List PyData → PyData → Prop := fun ds r => ∃ (x : Str) (most : Int), ds = [.str x, .int most] ∧ x.length ≤ 90000 ∧ r = .bool (decB x most)
end
end K96

namespace K96
open PySem PySem.Spec PyProof.Rows L2 Sb
local macro_rules | `(tactic| walk_at "ex") => `(tactic| first | exact Ex.refl _ | assumption | (refine' Ex.trans ?_ (by assumption); walk_at "ex"))
local macro_rules | `(tactic| walk_at "rp") => `(tactic| first | assumption | (refine' Rp.up ?e (by assumption); (case e => walk_at "ex")) | exact rfl)
local macro_rules | `(tactic| walk_at "rd") => `(tactic| with_reducible first | exact rd_add | exact rd_sub | exact rd_lt | exact rd_le | exact rd_gt | exact rd_ge | exact rd_eqI | exact rd_neI | exact rd_eqS | exact rd_neS | exact rd_isN | exact rd_ltS | exact rd_inSign | exact rd_eqE)
local macro_rules | `(tactic| walk_at "tr") => `(tactic| first
  | with_reducible exact d_int
  | with_reducible exact d_str
  | with_reducible exact d_bl
  | with_reducible exact d_non
  | with_reducible exact a_nil
  | with_reducible exact b_yes
  | with_reducible exact o_none
  | with_reducible exact d_newD
  | ((with_reducible refine' d_var ?i ?r); (case i => rfl); (case r => walk_at "rp"))
  | ((with_reducible refine' a_cons ?a ?b); (case a => walk_at "tr"); (case b => walk_at "tr"))
  | ((with_reducible refine' a_star ?a ?b); (case a => walk_at "tr"); (case b => walk_at "tr"))
  | ((with_reducible refine' d_isi ?a ?b); (case a => walk_at "tr"); (case b => decide))
  | ((with_reducible refine' d_op ?a ?b ?c); (case a => walk_at "tr"); (case b => walk_at "tr"); (case c => walk_at "rd"))
  | ((with_reducible refine' d_tup ?a ?b); (case a => walk_at "tr"); (case b => first | decide | (simp; done)))
  | ((with_reducible refine' d_lst ?a ?b); (case a => walk_at "tr"); (case b => first | decide | (simp; done)))
  | ((with_reducible refine' o_some ?a); (case a => walk_at "tr"))
  | ((with_reducible refine' b_B ?a); (case a => walk_at "tr"))
  | ((with_reducible refine' b_T ?a); (case a => walk_at "tr"))
  | ((with_reducible refine' b_not ?a); (case a => walk_at "tr"))
  | ((with_reducible refine' v_not ?a); (case a => walk_at "tr"))
  | ((with_reducible refine' b_or ?a ?b); (case a => walk_at "tr"); (case b => intro _; walk_at "tr"))
  | ((with_reducible refine' b_and ?a ?b); (case a => walk_at "tr"); (case b => intro _; walk_at "tr"))
  | ((with_reducible refine' v_or ?a ?b); (case a => walk_at "tr"); (case b => intro _; walk_at "tr"))
  | ((with_reducible refine' v_and ?a ?b); (case a => walk_at "tr"); (case b => intro _; walk_at "tr"))
  | assumption)


def rowK (c : CodeD) (t : Str) (k : Nat) : List Int := c.st ++ c.bt ++ (((chrs t).take k).flatMap fun x => wsOf c.cs x ++ c.bt)
theorem rowK_len {c : CodeD} (ok : c.ok) {t : Str} (ht : isTextD c (.str t) = true) : ∀ k, (rowK c t k).length ≤ 8 + k * 8 := by
  intro k
  have h : ∀ l : List Str, (∀ x ∈ l, x ∈ c.cs.map (·.1)) → (l.flatMap fun x => wsOf c.cs x ++ c.bt).length ≤ l.length * 8 := fun l => by
    induction l with
    | nil => intro _; exact Nat.le_refl _
    | cons x l ih =>
      intro hl
      have z := (wsOf_of ok (hl x (List.mem_cons_self ..))).2.1
      have h1 := z.2.1
      have h2 := ok.bt.2.1
      have h3 := ih fun y hy => hl y (List.mem_cons_of_mem _ hy)
      rw [List.flatMap_cons, List.length_append, List.length_append, List.length_cons]
      omega
  have hin : ∀ x ∈ (chrs t).take k, x ∈ c.cs.map (·.1) := fun x hx => of_decide_eq_true (List.all_eq_true.mp ht x (List.mem_of_mem_take hx))
  have h1 := h _ hin
  have h2 := ok.st.2.1
  have h3 := ok.bt.2.1
  have h4 : ((chrs t).take k).length ≤ k := by rw [List.length_take]; exact Nat.min_le_left _ _
  unfold rowK
  rw [List.length_append, List.length_append]
  have : ((chrs t).take k).length * 8 ≤ k * 8 := Nat.mul_le_mul_right _ h4
  omega
theorem rowK_succ {c : CodeD} {t x : Str} {k : Nat} (h : (chrs t)[k]? = some x) : rowK c t (k + 1) = rowK c t k ++ wsOf c.cs x ++ c.bt := by
  unfold rowK
  rw [List.take_add_one, h]
  show _ ++ (((chrs t).take k ++ [x]).flatMap _) = _
  rw [List.flatMap_append, List.flatMap_cons, List.flatMap_nil, List.append_nil]
  simp only [List.append_assoc]
theorem rowK_all (c : CodeD) (t : Str) : rowK c t (chrs t).length ++ c.sp = rowL c t := by
  unfold rowK rowL
  rw [List.take_length]
theorem dInts_app (a b : List Int) : dInts (a ++ b) = dInts a ++ dInts b := List.map_append ..
theorem in_text {c : CodeD} {t x : Str} {k : Nat} (ht : isTextD c (.str t) = true) (h : (chrs t)[k]? = some x) : x ∈ c.cs.map (·.1) := of_decide_eq_true (List.all_eq_true.mp ht x (List.mem_of_getElem? h))
def faultL (t : Str) : List PyData := match firstBad (Txt.split t " ") 0 with
  | some p => [.int 0, .int (p : Int)]
  | none => []
def parseO (d : PyData) : Out := match d with
  | .str t => (match firstBad (Txt.split t " ") 0 with
    | some p => .exc "InvalidSyntax" [("line", .int 0), ("word", .int (p : Int))]
    | none => .val (.list ((dStrs (Txt.split t " ")).map intD)))
  | _ => .exc "InvalidSyntax" [("line", .none), ("word", .none)]
def toldD (d : PyData) : List PyData := match d with
  | .str t => faultL t
  | _ => [.none, .none]
section
variable {P : Program} {w : World} {K : PySem.W.Frag} {mg : Str → Option Value} {base : Heap}
def R_row_by : List PyData → PyData → Prop := fun ds r => ∃ (c : CodeD) (t : Str), ds = [c.d, .str t] ∧ c.ok ∧ t.cps.size ≤ 1000 ∧ isTextD c (.str t) = true ∧ r = .list (dInts (rowL c t))
theorem F_row_by (T : Tx K mg) : Fd P w K mg base CX0 1 "row_by" (PSp K R_row_by) [] := by
  obtain ⟨fd, F⟩ := T.f_row_by
  refine ⟨_, fd, ["code", "text"], [], T.g_row_by, F.kp, F.bindsN fun _ _ _ _ _ _ us hl => match us, hl with | [_, _], _ => rfl, .nil, ?_⟩
  refine fnG_of F sc_row_by (fun vs H Q E h => PSp.len (n := 2) (by rintro _ _ ⟨d, e, rfl, _⟩; rfl) h) (fun cdv A outer s H vs Q E hg hr h => ?_)
  obtain ⟨G, M, ds, r, hA, hR, ⟨c, t, rfl, ok, hz, ht, rfl⟩, q⟩ := h
  obtain ⟨v0, _, rfl, r0, v1, _, rfl, r1, rfl⟩ := hR
  refine ⟨_, PSs.nox (pss_cons (ps_asg (pv 0) (pg_tup (by rfl) (pgs_cons (pg_name (i := 2) sc_row_by.nd rfl (by first | exact Or.inl rfl | exact Or.inr rfl)) (pgs_cons (pg_name (i := 3) sc_row_by.nd rfl (by first | exact Or.inl rfl | exact Or.inr rfl)) (pgs_cons (pg_name (i := 4) sc_row_by.nd rfl (by first | exact Or.inl rfl | exact Or.inr rfl)) (pgs_cons (pg_name (i := 5) sc_row_by.nd rfl (by first | exact Or.inl rfl | exact Or.inr rfl)) pgs_nil))))))
    (pss_cons (ps_set (i := 6) sc_row_by.nd rfl (by first | exact Or.inl rfl | exact Or.inr rfl) (pe_op op_cat (pe_callTy call_listOf (by rfl) T.n_list (by decide +kernel) (pa_cons (pv 2) pa_nil)) (pe_callTy call_listOf (by rfl) T.n_list (by decide +kernel) (pa_cons (pv 4) pa_nil))))
    (pss_cons (ps_for PassesOwn.never rfl (pi_str (pv 1)) (pg_name (i := 7) sc_row_by.nd rfl (by first | exact Or.inl rfl | exact Or.inr rfl)) (pss_cons (ps_expr (pe_bm PySem.F.plainAttrs_list PySem.F.slot_list_extend PySem.F.type_list_extend mt_extT (pv 6) (pa_cons (pe_dget (hu_of hr) (pv 3) (pv 7) (fun _ _ => rfl)) pa_nil))) (pss_one (ps_expr (pe_bm PySem.F.plainAttrs_list PySem.F.slot_list_extend PySem.F.type_list_extend mt_extT (pv 6) (pa_cons (pv 4) pa_nil))))))
    (pss_one (ps_ret (pe_op op_cat (pv 6) (pe_callTy call_listOf (by rfl) T.n_list (by decide +kernel) (pa_cons (pv 5) pa_nil)))))))), ?_⟩
  rw [show L2.start ["code", "text", "start", "characters", "between", "stop", "found", "name"] [v0, v1] = [some v0, some v1, none, none, none, none, none, none] from rfl]
  dsimp only [xK]
  have l1 := ok.st.2.1
  have l2 := ok.bt.2.1
  have l3 := ok.sp.2.1
  have hcl : (chrs t).length ≤ 1000 := by rw [chrs_len]; exact hz
  refine q_unpack (d_var rfl r0) rfl hA ?_
  rintro _ G1 H1 e1 A1 ⟨v2, _, rfl, r2, v3, _, rfl, r3, v4, _, rfl, r4, v5, _, rfl, r5, rfl⟩
  refine ⟨v2, _, rfl, v3, _, rfl, v4, _, rfl, v5, _, rfl, rfl, ?_⟩
  refine q_newCat (d_cb (a_cons (d_var rfl r2) a_nil) rc_listT) (d_cb (a_cons (d_var rfl r4) a_nil) rc_listT) (by rw [dInts_len, dInts_len]; omega) A1 fun p xs G2 H2 e2 pM pG A2 rx => ?_
  refine s_seq (s_forSI (fun k σ G' M' => ∃ ys x7, σ = [some v0, some v1, some v2, some v3, some v4, some v5, some (.ref p), x7] ∧ M' = upd M p (.lst ys) ∧ RpL K G' (dInts (rowK c t k)) ys) (d_var rfl (r1.up (e1.trans e2))) A2 ?_ ⟨xs, none, rfl, rfl, ?_⟩ (fun k x hk σ1 G3 M1 H3 e3 A3 hI Nx hN => ?_) fun σ1 G3 M1 H3 e3 A3 hI => ?_)
  · rintro k σ1 Ga Gb M1 e ⟨ys, x7, h1, h2, h3⟩
    exact ⟨ys, x7, h1, h2, h3.up e⟩
  · rw [← dInts_app] at rx
    unfold rowK
    rw [List.take_zero, List.flatMap_nil, List.append_nil]
    exact rx
  · obtain ⟨ys, x7, rfl, rfl, ry⟩ := hI
    have hkl : k < (chrs t).length := (List.getElem?_eq_some_iff.mp hk).1
    have z := wsOf_of ok (in_text ht hk)
    have hys : ys.length ≤ 8 + k * 8 := by rw [ry.len, dInts_len]; exact rowK_len ok ht k
    have hw := z.2.1.2.1
    have r3' := r3.up (e2.trans e3)
    refine s_seq (s_extT (p := p) rfl upd_same (d_dget (d_var rfl r3') (d_var (K := K) rfl (d := .str x) rfl) z.2.2) (by rw [dInts_len]; omega) A3 fun y1 G4 H4 e4 A4 s1 => ?_)
    rw [upd_upd] at A4
    have hy1 : y1.length ≤ 6 := by rw [s1.len, dInts_len]; exact hw
    refine s_extT (p := p) rfl upd_same (d_var rfl (r4.up ((e2.trans e3).trans e4))) (by rw [dInts_len, List.length_append]; omega) A4 fun y2 G5 H5 e5 A5 s2 => ?_
    rw [upd_upd] at A5
    refine hN _ G5 _ H5 (e4.trans e5) A5 ⟨_, _, rfl, rfl, ?_⟩
    rw [rowK_succ hk, dInts_app, dInts_app]
    exact ((ry.up (e4.trans e5)).app (s1.up e5)).app s2
  · obtain ⟨ys, x7, rfl, rfl, ry⟩ := hI
    obtain ⟨G4, e4, A4, r6⟩ := At.done A3 pM ry
    have hl := rowK_len ok ht (chrs t).length
    refine s_ret (TrD.to (d_op (d_var rfl r6) (d_cb (a_cons (d_var rfl (r5.up ((e2.trans e3).trans e4))) a_nil) rc_listT) (rd_cat (by rw [dInts_len, dInts_len]; omega))) ?_) A4 (q.mono (((e1.trans e2).trans e3).trans e4))
    rw [← dInts_app, rowK_all]
def R_format_scan : List PyData → PyData → Prop := fun ds r => ∃ ns, ds = [.list (dInts ns)] ∧ okScan ns ∧ ((ns.map strI).map (·.length)).sum ≤ 1000000 ∧ r = .str (Txt.join " " (ns.map strI))
def R_parse_scan : List PyData → Out → Prop := fun ds o => ∃ d, ds = [d] ∧ (∀ t, d = .str t → t.length ≤ 80000 ∧ (Txt.split t " ").length ≤ 80000 ∧ ∀ x ∈ Txt.split t " ", x.length ≤ 80000) ∧ o = parseO d
def R_told : List PyData → PyData → Prop := fun ds r => ∃ d, ds = [d] ∧ (∀ t, d = .str t → t.length ≤ 80000 ∧ (Txt.split t " ").length ≤ 80000 ∧ ∀ x ∈ Txt.split t " ", x.length ≤ 80000) ∧ r = .list (toldD d)
end
end K96

namespace K96
open PySem PySem.Spec PyProof.Rows L2 Sb
local macro_rules | `(tactic| walk_at "ex") => `(tactic| first | exact Ex.refl _ | assumption | (refine' Ex.trans ?_ (by assumption); walk_at "ex"))
local macro_rules | `(tactic| walk_at "rp") => `(tactic| first | assumption | (refine' Rp.up ?e (by assumption); (case e => walk_at "ex")) | exact rfl)
local macro_rules | `(tactic| walk_at "rd") => `(tactic| with_reducible first | exact rd_add | exact rd_sub | exact rd_lt | exact rd_le | exact rd_gt | exact rd_ge | exact rd_eqI | exact rd_neI | exact rd_eqS | exact rd_neS | exact rd_isN | exact rd_ltS | exact rd_inSign | exact rd_eqE)
local macro_rules | `(tactic| walk_at "tr") => `(tactic| first
  | with_reducible exact d_int
  | with_reducible exact d_str
  | with_reducible exact d_bl
  | with_reducible exact d_non
  | with_reducible exact a_nil
  | with_reducible exact b_yes
  | with_reducible exact o_none
  | with_reducible exact d_newD
  | ((with_reducible refine' d_var ?i ?r); (case i => rfl); (case r => walk_at "rp"))
  | ((with_reducible refine' a_cons ?a ?b); (case a => walk_at "tr"); (case b => walk_at "tr"))
  | ((with_reducible refine' a_star ?a ?b); (case a => walk_at "tr"); (case b => walk_at "tr"))
  | ((with_reducible refine' d_isi ?a ?b); (case a => walk_at "tr"); (case b => decide))
  | ((with_reducible refine' d_op ?a ?b ?c); (case a => walk_at "tr"); (case b => walk_at "tr"); (case c => walk_at "rd"))
  | ((with_reducible refine' d_tup ?a ?b); (case a => walk_at "tr"); (case b => first | decide | (simp; done)))
  | ((with_reducible refine' d_lst ?a ?b); (case a => walk_at "tr"); (case b => first | decide | (simp; done)))
  | ((with_reducible refine' o_some ?a); (case a => walk_at "tr"))
  | ((with_reducible refine' b_B ?a); (case a => walk_at "tr"))
  | ((with_reducible refine' b_T ?a); (case a => walk_at "tr"))
  | ((with_reducible refine' b_not ?a); (case a => walk_at "tr"))
  | ((with_reducible refine' v_not ?a); (case a => walk_at "tr"))
  | ((with_reducible refine' b_or ?a ?b); (case a => walk_at "tr"); (case b => intro _; walk_at "tr"))
  | ((with_reducible refine' b_and ?a ?b); (case a => walk_at "tr"); (case b => intro _; walk_at "tr"))
  | ((with_reducible refine' v_or ?a ?b); (case a => walk_at "tr"); (case b => intro _; walk_at "tr"))
  | ((with_reducible refine' v_and ?a ?b); (case a => walk_at "tr"); (case b => intro _; walk_at "tr"))
  | assumption)


def bigN : Nat := 2 ^ 4000
theorem logN_ok {n : Nat} (h : n < bigN) : n.log2 < 4000 := by
  by_cases z : n = 0
  · rw [z]; decide
  · exact (Nat.log2_lt z).mpr h
theorem mul_okN {a b : Nat} (h1 : a < bigN) (h2 : b < bigN) : CMulW (a : Int) (b : Int) := by
  have z1 := logN_ok h1
  have z2 := logN_ok h2
  show (a : Int).natAbs.log2 + (b : Int).natAbs.log2 < 1000000
  rw [Int.natAbs_natCast, Int.natAbs_natCast]
  omega
theorem div_okN {a b : Nat} (h0 : 0 < b) (h : b < bigN) : CDivW (a : Int) (b : Int) := by
  have := logN_ok h
  refine ⟨by omega, ?_⟩
  show (b : Int).natAbs.log2 < 9000
  rw [Int.natAbs_natCast]
  omega
def dN (n : Nat) : PyData := .int (n : Int)
def dF (p q : Nat) : PyData := .tuple [dN p, dN q]
def ab (a b c d : Nat) : Bool := decide (c * b < a * d)
def lowF (a b : Nat) : Nat × Nat := (a / Nat.gcd a b, b / Nat.gcd a b)
def stepF (a b : Nat) : Nat × Nat := lowF (max a b) (min a b)
section
variable {P : Program} {w : World} {K : PySem.W.Frag} {mg : Str → Option Value} {base : Heap}
def R_divisor : List PyData → PyData → Prop := fun ds r => ∃ a b : Nat, ds = [dN a, dN b] ∧ r = dN (Nat.gcd a b)
theorem F_divisor (T : Tx K mg) : Fd P w K mg base CX0 1 "divisor" (PSp K R_divisor) [] := by
  obtain ⟨fd, F⟩ := T.f_divisor
  refine ⟨_, fd, ["one", "other"], [], T.g_divisor, F.kp, F.bindsN fun _ _ _ _ _ _ us hl => match us, hl with | [_, _], _ => rfl, .nil, ?_⟩
  refine fnG_of F sc_divisor (fun vs H Q E h => PSp.len (n := 2) (by rintro _ _ ⟨a, b, rfl, _⟩; rfl) h) (fun cdv A outer s H vs Q E hg hr h => ?_)
  obtain ⟨G, M, ds, r, hA, hR, ⟨a, b, rfl, rfl⟩, q⟩ := h
  obtain ⟨v0, _, rfl, r0, v1, _, rfl, r1, rfl⟩ := hR
  refine ⟨_, PSs.nox (pss_cons (ps_while PassesOwn.never (pt_cmpR op_ne (pv 1) pe_int (nomark _)) (pss_one (ps_par (i := 0) (j := 1) (by rfl) sc_divisor.nd rfl rfl (by decide) rfl rfl (pa_cons (pv 1) (pa_cons (pe_op op_mod (pv 0) (pv 1)) pa_nil)) (by rfl))))
    (pss_one (ps_ret (pv 0)))), ?_⟩
  rw [show L2.start ["one", "other"] [v0, v1] = [some v0, some v1] from rfl]
  try dsimp only [xK]
  refine s_seq ⟨fun m σ H => ∃ (G1 M1 : Hp) (x y : Nat), Ex G G1 ∧ At G1 M H ∧ σ = [some (.int (x : Int)), some (.int (y : Int))] ∧ Nat.gcd x y = Nat.gcd a b ∧ m = y, ⟨b, G, M, a, b, Ex.refl _, hA, by rw [show v0 = V.int (a : Int) from r0, show v1 = V.int (b : Int) from r1], rfl, rfl⟩, ?_⟩
  rintro y σ H1 ⟨G1, M1, x, _, e1, A1, rfl, hg', rfl⟩
  refine w_B (G := G1) (b := !decide ((y : Int) = 0)) (b_T (K := K) (d_op (d_var rfl (d := .int (y : Int)) rfl) d_int rd_neI)) A1 fun G2 H2 e2 A2 => ?_
  by_cases hy : (y : Int) = 0
  · rw [decide_eq_true hy]
    show tRet (tVar 0) _ _ _
    have hy' : y = 0 := by omega
    refine s_ret (d := dN (Nat.gcd a b)) (d_var rfl ?_) A2 (q.mono (e1.trans e2))
    rw [← hg', hy', Nat.gcd_zero_right]
    exact rfl
  · rw [decide_eq_false hy]
    show ∃ N : L2.St → Hp → Prop, _
    refine ⟨fun σ H => ∃ (G1 M1 : Hp) (x y' : Nat), Ex G G1 ∧ At G1 M H ∧ σ = [some (.int (x : Int)), some (.int (y' : Int))] ∧ Nat.gcd x y' = Nat.gcd a b ∧ y' < y, ?_, ?_⟩
    · rintro σ' H' ⟨Ga, Ma, xa, ya, z1, z2, z3, z4, z5⟩
      exact ⟨ya, z5, Ga, Ma, xa, ya, z1, z2, z3, z4, rfl⟩
    · refine s_par (K := K) (d_var rfl (d := .int (y : Int)) rfl) (d_op (d_var rfl (d := .int (x : Int)) rfl) (d_var rfl (d := .int (y : Int)) rfl) (rd_mod (by omega))) A2 fun v w G3 H3 e3 A3 rv rw' => ?_
      refine ⟨G3, M, y, x % y, (e1.trans e2).trans e3, A3, ?_, ?_, Nat.mod_lt _ (by omega)⟩
      · rw [show v = V.int (y : Int) from rv, show w = V.int ((x : Int) % (y : Int)) from rw']
        rfl
      · rw [← hg', Nat.gcd_comm y, ← Nat.gcd_rec, Nat.gcd_comm]
def R_lowest : List PyData → PyData → Prop := fun ds r => ∃ a b : Nat, ds = [dN a, dN b] ∧ 1 ≤ a ∧ a < bigN ∧ 1 ≤ b ∧ b < bigN ∧ r = dF (lowF a b).1 (lowF a b).2
theorem F_lowest (T : Tx K mg) : Fd P w K mg base CX0 2 "lowest" (PSp K R_lowest) [] := by
  obtain ⟨fd, F⟩ := T.f_lowest
  refine ⟨_, fd, ["top", "bottom"], [], T.g_lowest, F.kp, F.bindsN fun _ _ _ _ _ _ us hl => match us, hl with | [_, _], _ => rfl, .nil, ?_⟩
  refine fnG_of F sc_lowest (fun vs H Q E h => PSp.len (n := 2) (by rintro _ _ ⟨a, b, rfl, _⟩; rfl) h) (fun cdv A outer s H vs Q E hg hr h => ?_)
  obtain ⟨G, M, ds, r, hA, hR, ⟨a, b, rfl, ha, ha2, hb, hb2, rfl⟩, q⟩ := h
  obtain ⟨v0, _, rfl, r0, v1, _, rfl, r1, rfl⟩ := hR
  refine ⟨_, PSs.nox (pss_cons (ps_set (i := 2) sc_lowest.nd rfl (by first | exact Or.inl rfl | exact Or.inr rfl) (pe_fd (F_divisor (P := P) (w := w) (base := base) T) hg (hr.mono (by decide)) pass0 (pa_cons (pv 0) (pa_cons (pv 1) pa_nil))))
    (pss_one (ps_ret (pe_tup (pa_cons (pe_op op_fdivW (pv 0) (pv 2)) (pa_cons (pe_op op_fdivW (pv 1) (pv 2)) pa_nil)))))), ?_⟩
  rw [show L2.start ["top", "bottom", "common"] [v0, v1] = [some v0, some v1, none] from rfl]
  try dsimp only [xK]
  have hg0 : 0 < Nat.gcd a b := Nat.gcd_pos_of_pos_left _ ha
  have hg1 : Nat.gcd a b < bigN := Nat.lt_of_le_of_lt (Nat.gcd_le_left _ ha) ha2
  refine q_set (d := dN (Nat.gcd a b)) (d_call0 (a_cons (d_var rfl r0) (a_cons (d_var rfl r1) a_nil)) ⟨a, b, rfl, rfl⟩) hA fun v2 G1 H1 e1 A1 r2 => ?_
  exact s_ret (d := dF (lowF a b).1 (lowF a b).2) (d_tup (a_cons (d_op (d_var rfl (r0.up e1)) (d_var rfl r2) (rd_fdiv (div_okN hg0 hg1))) (a_cons (d_op (d_var rfl (r1.up e1)) (d_var rfl r2) (rd_fdiv (div_okN hg0 hg1))) a_nil)) (by show 2 ≤ 100000; decide)) A1 (q.mono e1)
def R_step_of : List PyData → PyData → Prop := fun ds r => ∃ a b : Nat, ds = [dN a, dN b] ∧ 1 ≤ a ∧ a < bigN ∧ 1 ≤ b ∧ b < bigN ∧ r = dF (stepF a b).1 (stepF a b).2
theorem F_step_of (T : Tx K mg) : Fd P w K mg base CX0 3 "step_of" (PSp K R_step_of) [] := by
  obtain ⟨fd, F⟩ := T.f_step_of
  refine ⟨_, fd, ["one", "other"], [], T.g_step_of, F.kp, F.bindsN fun _ _ _ _ _ _ us hl => match us, hl with | [_, _], _ => rfl, .nil, ?_⟩
  refine fnG_of F sc_step_of (fun vs H Q E h => PSp.len (n := 2) (by rintro _ _ ⟨a, b, rfl, _⟩; rfl) h) (fun cdv A outer s H vs Q E hg hr h => ?_)
  obtain ⟨G, M, ds, r, hA, hR, ⟨a, b, rfl, ha, ha2, hb, hb2, rfl⟩, q⟩ := h
  obtain ⟨v0, _, rfl, r0, v1, _, rfl, r1, rfl⟩ := hR
  refine ⟨_, PSs.nox (pss_one (ps_ret (pe_fd (F_lowest (P := P) (w := w) (base := base) T) hg (hr.mono (by decide)) pass0 (pa_cons (pe_callB (call_max2' rfl) (by rfl) T.n_max (by decide +kernel) (pa_cons (pv 0) (pa_cons (pv 1) pa_nil))) (pa_cons (pe_callB (call_min2' rfl) (by rfl) T.n_min (by decide +kernel) (pa_cons (pv 0) (pa_cons (pv 1) pa_nil))) pa_nil))))), ?_⟩
  rw [show L2.start ["one", "other"] [v0, v1] = [some v0, some v1] from rfl]
  try dsimp only [xK]
  have m1 : TrD K (tCB rMax2 (tCons (tVar 0) (tCons (tVar 1) tNil))) [some v0, some v1] G (dN (max a b)) := by
    refine TrD.to (d_cb (a_cons (d_var rfl r0) (a_cons (d_var rfl r1) a_nil)) rc_max2) ?_
    show PyData.int _ = PyData.int _
    congr 1
    split <;> omega
  have m2 : TrD K (tCB rMin2 (tCons (tVar 0) (tCons (tVar 1) tNil))) [some v0, some v1] G (dN (min a b)) := by
    refine TrD.to (d_cb (a_cons (d_var rfl r0) (a_cons (d_var rfl r1) a_nil)) rc_min2) ?_
    show PyData.int _ = PyData.int _
    congr 1
    split <;> omega
  have bx : max a b < bigN := by
    rcases Nat.le_total a b with z | z
    · rw [Nat.max_eq_right z]; exact hb2
    · rw [Nat.max_eq_left z]; exact ha2
  have bn : min a b < bigN := Nat.lt_of_le_of_lt (Nat.min_le_left ..) ha2
  exact s_ret (d := dF (stepF a b).1 (stepF a b).2) (d_call0 (a_cons m1 (a_cons m2 a_nil)) ⟨max a b, min a b, rfl, by omega, bx, by omega, bn, rfl⟩) hA q
def R_is_above : List PyData → PyData → Prop := fun ds r => ∃ a b c d : Nat, ds = [dF a b, dF c d] ∧ a < bigN ∧ b < bigN ∧ c < bigN ∧ d < bigN ∧ r = .bool (ab a b c d)
theorem F_is_above (T : Tx K mg) : Fd P w K mg base CX0 1 "is_above" (PSp K R_is_above) [] := by
  obtain ⟨fd, F⟩ := T.f_is_above
  refine ⟨_, fd, ["one", "other"], [], T.g_is_above, F.kp, F.bindsN fun _ _ _ _ _ _ us hl => match us, hl with | [_, _], _ => rfl, .nil, ?_⟩
  refine fnG_of F sc_is_above (fun vs H Q E h => PSp.len (n := 2) (by rintro _ _ ⟨a, b, c, d, rfl, _⟩; rfl) h) (fun cdv A outer s H vs Q E hg hr h => ?_)
  obtain ⟨G, M, ds, r, hA, hR, ⟨a, b, c, d, rfl, ha, hb, hc, hd, rfl⟩, q⟩ := h
  obtain ⟨v0, _, rfl, r0, v1, _, rfl, r1, rfl⟩ := hR
  refine ⟨_, PSs.nox (pss_one (ps_ret (pe_cmpR op_gt (pe_op op_mulW (pe_ix ix_tup (pv 0) pe_int (fun _ _ => rfl)) (pe_ix ix_tup (pv 1) pe_int (fun _ _ => rfl))) (pe_op op_mulW (pe_ix ix_tup (pv 1) pe_int (fun _ _ => rfl)) (pe_ix ix_tup (pv 0) pe_int (fun _ _ => rfl))) (nomark _)))), ?_⟩
  rw [show L2.start ["one", "other"] [v0, v1] = [some v0, some v1] from rfl]
  try dsimp only [xK]
  refine s_ret (d := .bool (ab a b c d)) (TrD.to (d_op (d_op (d_op (d_var rfl r0) d_int (rd_ixT (d := dN a) rfl)) (d_op (d_var rfl r1) d_int (rd_ixT (d := dN d) rfl)) (rd_mul (mul_okN ha hd))) (d_op (d_op (d_var rfl r1) d_int (rd_ixT (d := dN c) rfl)) (d_op (d_var rfl r0) d_int (rd_ixT (d := dN b) rfl)) (rd_mul (mul_okN hc hb))) rd_gt) ?_) hA q
  unfold ab
  congr 1
  rw [← Int.natCast_mul, ← Int.natCast_mul]
  exact decide_eq_decide.mpr Int.ofNat_lt
def okF (p q : Nat) : Prop := 1 ≤ q ∧ q ≤ p ∧ p < bigN ∧ Nat.gcd p q = 1
def R_is_fraction : List PyData → PyData → Prop := fun ds r => ∃ a b : Nat, ds = [dF a b] ∧ okF a b ∧ r = .bool true
theorem F_is_fraction (T : Tx K mg) : Fd P w K mg base CX0 2 "is_fraction" (PSp K R_is_fraction) [] := by
  obtain ⟨fd, F⟩ := T.f_is_fraction
  refine ⟨_, fd, ["value"], [], T.g_is_fraction, F.kp, F.bindsN fun _ _ _ _ _ _ us hl => match us, hl with | [_], _ => rfl, .nil, ?_⟩
  refine fnG_of F sc_is_fraction (fun vs H Q E h => PSp.len (n := 1) (by rintro _ _ ⟨a, b, rfl, _⟩; rfl) h) (fun cdv A outer s H vs Q E hg hr h => ?_)
  obtain ⟨G, M, ds, r, hA, hR, ⟨a, b, rfl, hf, rfl⟩, q⟩ := h
  obtain ⟨v0, _, rfl, r0, rfl⟩ := hR
  refine ⟨_, PSs.nox (pss_cons (ps_if (PW.pt (pw_or (pt_not (pt_val (pe_callB call_isi (by rfl) T.n_isinstance (by decide +kernel) (pa_cons (pv 0) (pa_cons (pe_bltn (v := .ty "tuple") (u := .type "tuple") (by rfl) T.n_tuple (by decide +kernel) rfl) pa_nil))))) (pw_or (pt_cmpR op_ne (pe_callB call_len' (by rfl) T.n_len (by decide +kernel) (pa_cons (pv 0) pa_nil)) pe_int (nomark _)) (pw_or1 (pt_not (pt_val (pe_callB (cr_all rfl) (by rfl) T.n_all (by decide +kernel) (pa_cons (pe_lc (own := [("item", 1)]) (g := gName 1) (by rfl) sc_is_fraction.nd (pi_tup (pv 0)) (blkOk_by (own := [("item", 1)]) (N := ["value", "item"]) (sc := defScope s_is_fraction) (by decide +kernel)) (fun _ _ _ _ _ => (pg_name (i := 1) sc_is_fraction.nd rfl (by first | exact Or.inl rfl | exact Or.inr rfl))) (fun _ _ _ _ _ => pts_nil) (fun _ _ _ _ _ => (pe_fd (F_is_integer2 (P := P) (w := w) (base := base) T) hg (hr.mono (by decide)) pass0 (pa_cons (pv 1) (pa_cons pe_int pa_nil))))) pa_nil)))))))) (pss_one (ps_ret pe_bl)) pss_nil)
    (pss_one (ps_ret (pe_cmpR op_eq (pe_fd (F_divisor (P := P) (w := w) (base := base) T) hg (hr.mono (by decide)) pass0 (pa_cons (pe_ix ix_tup (pv 0) pe_int (fun _ _ => rfl)) (pa_cons (pe_ix ix_tup (pv 0) pe_int (fun _ _ => rfl)) pa_nil))) pe_int (nomark _))))), ?_⟩
  rw [show L2.start ["value", "item"] [v0] = [some v0, none] from rfl]
  try dsimp only [xK]
  obtain ⟨h1, h2, h3, h4⟩ := hf
  have hall : TrD K (tLc (iTup K (tVar 0)) (gName 1) tYes (tCall (PSp K R_is_integer) [.non] E (tCons (tVar 1) (tCons (tC (.int 1)) tNil))) [1]) [some v0, none] G (.list ([true, true].map .bool)) := by
    refine TrD.to (d_lcT (p := fun _ => true) (f := fun _ => .bool true) (d_var rfl r0) (by show 2 < 100000; decide) (fun _ _ _ _ _ _ => b_yes) fun d hd _ x G1 e1 rx => ?_) (by rw [filt_true]; rfl)
    have hi : ∃ n : Nat, 1 ≤ n ∧ d = dN n := by
      rcases List.mem_cons.mp hd with z | z
      · exact ⟨a, by omega, z⟩
      · rcases List.mem_cons.mp z with z | z
        · exact ⟨b, h1, z⟩
        · cases z
    obtain ⟨n, hn, rfl⟩ := hi
    refine d_call (a_cons (d_var rfl rx) (a_cons d_int a_nil)) (es := [.none]) ⟨.non, [], rfl, rfl, rfl⟩ ⟨dN n, some 1, none, rfl, ?_⟩
    show PyData.bool true = PyData.bool (decide ((1 : Int) ≤ (n : Int)) && true)
    rw [decide_eq_true (by omega)]
    rfl
  refine q_guardF ?_ hA fun G1 H1 e1 A1 => ?_
  · refine b_orF (TrB.to (b_not (b_B (d_isi (n := "tuple") (d_var rfl r0)))) rfl) (b_orF (TrB.to (b_T (d_op (d_cb (a_cons (d_var rfl r0) a_nil) rc_lenT) d_int rd_neI)) rfl) (TrB.to (b_not (b_B (d_cb (a_cons hall a_nil) rc_all))) rfl))
  · refine s_ret (d := .bool true) (TrD.to (d_op (d_call0 (a_cons (d_op (d_var rfl (r0.up e1)) d_int (rd_ixT (d := dN a) rfl)) (a_cons (d_op (d_var rfl (r0.up e1)) d_int (rd_ixT (d := dN b) rfl)) a_nil)) ⟨a, b, rfl, rfl⟩) d_int rd_eqI) ?_) A1 (q.mono e1)
    rw [h4]
    rfl
theorem F_is_factor (T : Tx K mg) : Fd P w K mg base CX0 3 "is_factor" (PSp K R_is_fraction) [] := by
  obtain ⟨fd, F⟩ := T.f_is_factor
  refine ⟨_, fd, ["value"], [], T.g_is_factor, F.kp, F.bindsN fun _ _ _ _ _ _ us hl => match us, hl with | [_], _ => rfl, .nil, ?_⟩
  refine fnG_of F sc_is_factor (fun vs H Q E h => PSp.len (n := 1) (by rintro _ _ ⟨a, b, rfl, _⟩; rfl) h) (fun cdv A outer s H vs Q E hg hr h => ?_)
  obtain ⟨G, M, ds, r, hA, hR, ⟨a, b, rfl, hf, rfl⟩, q⟩ := h
  obtain ⟨v0, _, rfl, r0, rfl⟩ := hR
  refine ⟨_, PSs.nox (pss_one (ps_ret (pe_and (pe_fd (F_is_fraction (P := P) (w := w) (base := base) T) hg (hr.mono (by decide)) pass0 (pa_cons (pv 0) pa_nil)) (pe_one (pe_cmpR op_ge (pe_ix ix_tup (pv 0) pe_int (fun _ _ => rfl)) (pe_ix ix_tup (pv 0) pe_int (fun _ _ => rfl)) (nomark _)))))), ?_⟩
  rw [show L2.start ["value"] [v0] = [some v0] from rfl]
  try dsimp only [xK]
  have h2 := hf.2.1
  refine s_ret (d := .bool true) (v_andT (d_call0 (a_cons (d_var rfl r0) a_nil) ⟨a, b, rfl, hf, rfl⟩) (TrD.to (d_op (d_op (d_var rfl r0) d_int (rd_ixT (d := dN a) rfl)) (d_op (d_var rfl r0) d_int (rd_ixT (d := dN b) rfl)) rd_ge) ?_)) hA q
  rw [decide_eq_true (by omega)]
def R_require_factor : List PyData → PyData → Prop := fun ds r => ∃ a b : Nat, ds = [dF a b] ∧ okF a b ∧ r = .none
theorem F_require_factor (T : Tx K mg) : Fd P w K mg base CX0 4 "require_factor" (PSp K R_require_factor) [] := by
  obtain ⟨fd, F⟩ := T.f_require_factor
  refine ⟨_, fd, ["value"], [], T.g_require_factor, F.kp, F.bindsN fun _ _ _ _ _ _ us hl => match us, hl with | [_], _ => rfl, .nil, ?_⟩
  refine fnG_of F sc_require_factor (fun vs H Q E h => PSp.len (n := 1) (by rintro _ _ ⟨a, b, rfl, _⟩; rfl) h) (fun cdv A outer s H vs Q E hg hr h => ?_)
  obtain ⟨G, M, ds, r, hA, hR, ⟨a, b, rfl, hf, rfl⟩, q⟩ := h
  obtain ⟨v0, _, rfl, r0, rfl⟩ := hR
  refine ⟨_, PSs.nox (pss_one (ps_if (pt_not (pt_val (pe_fd (F_is_factor (P := P) (w := w) (base := base) T) hg (hr.mono (by decide)) pass0 (pa_cons (pv 0) pa_nil)))) (pss_one ps_never) pss_nil)), ?_⟩
  rw [show L2.start ["value"] [v0] = [some v0] from rfl]
  try dsimp only [xK]
  refine s_ifF (TrB.to (b_not (b_B (d_call0 (a_cons (d_var rfl r0) a_nil) ⟨a, b, rfl, hf, rfl⟩))) rfl) hA fun G1 H1 e1 A1 => ?_
  exact s_next (q _ _ _ e1 A1 rfl)
def R_require_index : List PyData → PyData → Prop := fun ds r => ∃ a b : Nat, ds = [dN a, dN b] ∧ a < b ∧ r = .none
theorem F_require_index (T : Tx K mg) : Fd P w K mg base CX0 2 "require_index" (PSp K R_require_index) [] := by
  obtain ⟨fd, F⟩ := T.f_require_index
  refine ⟨_, fd, ["value", "many"], [], T.g_require_index, F.kp, F.bindsN fun _ _ _ _ _ _ us hl => match us, hl with | [_, _], _ => rfl, .nil, ?_⟩
  refine fnG_of F sc_require_index (fun vs H Q E h => PSp.len (n := 2) (by rintro _ _ ⟨a, b, rfl, _⟩; rfl) h) (fun cdv A outer s H vs Q E hg hr h => ?_)
  obtain ⟨G, M, ds, r, hA, hR, ⟨a, b, rfl, hf, rfl⟩, q⟩ := h
  obtain ⟨v0, _, rfl, r0, v1, _, rfl, r1, rfl⟩ := hR
  refine ⟨_, PSs.nox (pss_one (ps_if (PW.pt (pw_or (pt_not (pt_val (pe_fd (F_is_integer2 (P := P) (w := w) (base := base) T) hg (hr.mono (by decide)) pass0 (pa_cons (pv 0) (pa_cons pe_int pa_nil))))) (pw_or1 (pt_cmpR op_ge (pv 0) (pv 1) (nomark _))))) (pss_one ps_never) pss_nil)), ?_⟩
  rw [show L2.start ["value", "many"] [v0, v1] = [some v0, some v1] from rfl]
  try dsimp only [xK]
  refine s_ifF (b_orF (TrB.to (b_not (b_B (d_call (a_cons (d_var rfl r0) (a_cons d_int a_nil)) (es := [.none]) ⟨.non, [], rfl, rfl, rfl⟩ ⟨dN a, some 0, none, rfl, rfl⟩))) ?_) (TrB.to (b_T (d_op (d_var rfl r0) (d_var rfl r1) rd_ge)) ?_)) hA fun G1 H1 e1 A1 => ?_
  · show (!(decide ((0 : Int) ≤ (a : Int)) && true)) = false
    rw [decide_eq_true (by omega)]
    rfl
  · rw [decide_eq_false (by omega)]
  · exact s_next (q _ _ _ e1 A1 rfl)
end
end K96

namespace K96
open PySem PySem.Spec PyProof.Rows L2 Sb
local macro_rules | `(tactic| walk_at "ex") => `(tactic| first | exact Ex.refl _ | assumption | (refine' Ex.trans ?_ (by assumption); walk_at "ex"))
local macro_rules | `(tactic| walk_at "rp") => `(tactic| first | assumption | (refine' Rp.up ?e (by assumption); (case e => walk_at "ex")) | exact rfl)
local macro_rules | `(tactic| walk_at "rd") => `(tactic| with_reducible first | exact rd_add | exact rd_sub | exact rd_lt | exact rd_le | exact rd_gt | exact rd_ge | exact rd_eqI | exact rd_neI | exact rd_eqS | exact rd_neS | exact rd_isN | exact rd_ltS | exact rd_inSign | exact rd_eqE)
local macro_rules | `(tactic| walk_at "tr") => `(tactic| first
  | with_reducible exact d_int
  | with_reducible exact d_str
  | with_reducible exact d_bl
  | with_reducible exact d_non
  | with_reducible exact a_nil
  | with_reducible exact b_yes
  | with_reducible exact o_none
  | with_reducible exact d_newD
  | ((with_reducible refine' d_var ?i ?r); (case i => rfl); (case r => walk_at "rp"))
  | ((with_reducible refine' a_cons ?a ?b); (case a => walk_at "tr"); (case b => walk_at "tr"))
  | ((with_reducible refine' a_star ?a ?b); (case a => walk_at "tr"); (case b => walk_at "tr"))
  | ((with_reducible refine' d_isi ?a ?b); (case a => walk_at "tr"); (case b => decide))
  | ((with_reducible refine' d_op ?a ?b ?c); (case a => walk_at "tr"); (case b => walk_at "tr"); (case c => walk_at "rd"))
  | ((with_reducible refine' d_tup ?a ?b); (case a => walk_at "tr"); (case b => first | decide | (simp; done)))
  | ((with_reducible refine' d_lst ?a ?b); (case a => walk_at "tr"); (case b => first | decide | (simp; done)))
  | ((with_reducible refine' o_some ?a); (case a => walk_at "tr"))
  | ((with_reducible refine' b_B ?a); (case a => walk_at "tr"))
  | ((with_reducible refine' b_T ?a); (case a => walk_at "tr"))
  | ((with_reducible refine' b_not ?a); (case a => walk_at "tr"))
  | ((with_reducible refine' v_not ?a); (case a => walk_at "tr"))
  | ((with_reducible refine' b_or ?a ?b); (case a => walk_at "tr"); (case b => intro _; walk_at "tr"))
  | ((with_reducible refine' b_and ?a ?b); (case a => walk_at "tr"); (case b => intro _; walk_at "tr"))
  | ((with_reducible refine' v_or ?a ?b); (case a => walk_at "tr"); (case b => intro _; walk_at "tr"))
  | ((with_reducible refine' v_and ?a ?b); (case a => walk_at "tr"); (case b => intro _; walk_at "tr"))
  | assumption)


def smN : Nat := 2 ^ 1500
theorem sm_mul {a b : Nat} (h1 : a < smN) (h2 : b < smN) : a * b < bigN := by
  have z : smN * smN ≤ bigN := by
    unfold smN bigN
    rw [← Nat.pow_add]
    exact Nat.pow_le_pow_right (by decide) (by decide)
  exact Nat.lt_of_lt_of_le (Nat.mul_lt_mul'' h1 h2) z
theorem sm_big {a : Nat} (h : a < smN) : a < bigN := by
  refine Nat.lt_of_lt_of_le h ?_
  unfold smN bigN
  exact Nat.pow_le_pow_right (by decide) (by decide)
def okP (p : Nat × Nat) : Prop := 1 ≤ p.1 ∧ p.1 < smN ∧ 1 ≤ p.2 ∧ p.2 < smN
def dP (p : Nat × Nat) : PyData := dF p.1 p.2
def dNs (ns : List Nat) : List PyData := ns.map dN
def st2 (p q : Nat × Nat) : Nat × Nat := stepF (q.1 * p.2) (p.1 * q.2)
def gst (acc : Nat × Nat) (pq : (Nat × Nat) × (Nat × Nat)) : Nat × Nat := if ab (st2 pq.1 pq.2).1 (st2 pq.1 pq.2).2 acc.1 acc.2 = true then st2 pq.1 pq.2 else acc
theorem gst_pos {acc x y : Nat × Nat} (h : ab (st2 x y).1 (st2 x y).2 acc.1 acc.2 = true) : gst acc (x, y) = st2 x y := if_pos h
theorem gst_neg {acc x y : Nat × Nat} (h : ab (st2 x y).1 (st2 x y).2 acc.1 acc.2 = false) : gst acc (x, y) = acc := if_neg (by rw [h]; decide)
def great (rs : List (Nat × Nat)) : Nat × Nat := (rs.zip rs.tail).foldl gst (1, 1)
theorem low_bd {a b : Nat} (ha : a < bigN) (hb : b < bigN) : (lowF a b).1 < bigN ∧ (lowF a b).2 < bigN :=
  ⟨Nat.lt_of_le_of_lt (Nat.div_le_self ..) ha, Nat.lt_of_le_of_lt (Nat.div_le_self ..) hb⟩
theorem step_bd {a b : Nat} (ha : a < bigN) (hb : b < bigN) : (stepF a b).1 < bigN ∧ (stepF a b).2 < bigN := by
  refine low_bd ?_ (Nat.lt_of_le_of_lt (Nat.min_le_left ..) ha)
  rcases Nat.le_total a b with z | z
  · rw [Nat.max_eq_right z]; exact hb
  · rw [Nat.max_eq_left z]; exact ha
theorem st2_bd {p q : Nat × Nat} (hp : okP p) (hq : okP q) : (st2 p q).1 < bigN ∧ (st2 p q).2 < bigN := step_bd (sm_mul hq.2.1 hp.2.2.2) (sm_mul hp.2.1 hq.2.2.2)
theorem one_bd : 1 < bigN := by unfold bigN; exact Nat.one_lt_pow (by decide) (by decide)
theorem fold_bdF : ∀ (l : List ((Nat × Nat) × (Nat × Nat))) (acc : Nat × Nat), (∀ x ∈ l, okP x.1 ∧ okP x.2) → acc.1 < bigN ∧ acc.2 < bigN → (l.foldl gst acc).1 < bigN ∧ (l.foldl gst acc).2 < bigN
  | [], _, _, h => h
  | x :: l, acc, h1, h => by
    refine fold_bdF l (gst acc x) (fun y hy => h1 y (List.mem_cons_of_mem _ hy)) ?_
    unfold gst
    split
    · exact st2_bd (h1 x (List.mem_cons_self ..)).1 (h1 x (List.mem_cons_self ..)).2
    · exact h
theorem zip_ok {rs : List (Nat × Nat)} (h : ∀ p ∈ rs, okP p) : ∀ x ∈ rs.zip rs.tail, okP x.1 ∧ okP x.2 := fun x hx =>
  ⟨h _ (List.of_mem_zip hx).1, h _ (List.mem_of_mem_tail (List.of_mem_zip hx).2)⟩
theorem great_bd {rs : List (Nat × Nat)} (h : ∀ p ∈ rs, okP p) : (great rs).1 < bigN ∧ (great rs).2 < bigN := fold_bdF _ _ (zip_ok h) ⟨one_bd, one_bd⟩
section
variable {P : Program} {w : World} {K : PySem.W.Frag} {mg : Str → Option Value} {base : Heap}
def R_greatest_step : List PyData → PyData → Prop := fun ds r => ∃ rs : List (Nat × Nat), ds = [.list (rs.map dP)] ∧ (∀ p ∈ rs, okP p) ∧ rs.length ≤ 10000 ∧ r = dP (great rs)
theorem F_greatest_step (T : Tx K mg) : Fd P w K mg base CX0 4 "greatest_step" (PSp K R_greatest_step) [] := by
  obtain ⟨fd, F⟩ := T.f_greatest_step
  refine ⟨_, fd, ["rows"], [], T.g_greatest_step, F.kp, F.bindsN fun _ _ _ _ _ _ us hl => match us, hl with | [_], _ => rfl, .nil, ?_⟩
  refine fnG_of F sc_greatest_step (fun vs H Q E h => PSp.len (n := 1) (by rintro _ _ ⟨d, rfl, _⟩; rfl) h) (fun cdv A outer s H vs Q E hg hr h => ?_)
  obtain ⟨G, M, ds, r, hA, hR, ⟨rs, rfl, hok, hlen, rfl⟩, q⟩ := h
  obtain ⟨v0, _, rfl, r0, rfl⟩ := hR
  refine ⟨_, PSs.nox (pss_cons (ps_set (i := 1) sc_greatest_step.nd rfl (by first | exact Or.inl rfl | exact Or.inr rfl) (pe_tup (pa_cons pe_int (pa_cons pe_int pa_nil))))
    (pss_cons (ps_for PassesOwn.never rfl (RZ.pi_zipA (by rfl) T.n_zip (pa_cons (pv 0) (pa_cons (pe_slice sl_list (pv 0) (po_some pe_int) po_none) pa_nil))) (pg_tup (by rfl) (pgs_cons (pg_tup (by rfl) (pgs_cons (pg_name (i := 2) sc_greatest_step.nd rfl (by first | exact Or.inl rfl | exact Or.inr rfl)) (pgs_cons (pg_name (i := 3) sc_greatest_step.nd rfl (by first | exact Or.inl rfl | exact Or.inr rfl)) pgs_nil))) (pgs_cons (pg_tup (by rfl) (pgs_cons (pg_name (i := 4) sc_greatest_step.nd rfl (by first | exact Or.inl rfl | exact Or.inr rfl)) (pgs_cons (pg_name (i := 5) sc_greatest_step.nd rfl (by first | exact Or.inl rfl | exact Or.inr rfl)) pgs_nil))) pgs_nil))) (pss_cons (ps_set (i := 6) sc_greatest_step.nd rfl (by first | exact Or.inl rfl | exact Or.inr rfl) (pe_fd (F_step_of (P := P) (w := w) (base := base) T) hg (hr.mono (by decide)) pass0 (pa_cons (pe_op op_mulW (pv 4) (pv 3)) (pa_cons (pe_op op_mulW (pv 2) (pv 5)) pa_nil)))) (pss_one (ps_if (pt_val (pe_fd (F_is_above (P := P) (w := w) (base := base) T) hg (hr.mono (by decide)) pass0 (pa_cons (pv 6) (pa_cons (pv 1) pa_nil)))) (pss_one (ps_set (i := 1) sc_greatest_step.nd rfl (by first | exact Or.inl rfl | exact Or.inr rfl) (pv 6))) pss_nil))))
    (pss_one (ps_ret (pv 1))))), ?_⟩
  rw [show L2.start ["rows", "found", "one", "other", "later", "more", "step"] [v0] = [some v0, none, none, none, none, none, none] from rfl]
  try dsimp only [xK]
  refine q_set (K := K) (d := dP (1, 1)) (d_tup (a_cons d_int (a_cons d_int a_nil))) hA fun v1 G1 H1 e1 A1 r1 => ?_
  have hsl : TrD K (tSl (rSlL K) (tVar 0) (tPart (tC (.int 1))) tNoPart) [some v0, some v1, none, none, none, none, none] G1 (.list (rs.tail.map dP)) := by
    refine TrD.to (d_slL (d_var rfl (r0.up e1)) (o_some (K := K) d_int) o_none) ?_
    rw [cut_one, List.drop_one, List.map_tail]
  have ztake : ∀ k (d e : PyData), (rs.map dP)[k]? = some d → (rs.tail.map dP)[k]? = some e → ∃ x y, d = dP x ∧ e = dP y ∧ okP x ∧ okP y ∧ (rs.zip rs.tail).take (k + 1) = (rs.zip rs.tail).take k ++ [(x, y)] := by
    intro k d e h1 h2
    rw [List.getElem?_map] at h1 h2
    obtain ⟨x, hx, rfl⟩ := Option.map_eq_some_iff.mp h1
    obtain ⟨y, hy, rfl⟩ := Option.map_eq_some_iff.mp h2
    refine ⟨x, y, rfl, rfl, hok _ (List.mem_of_getElem? hx), hok _ (List.mem_of_mem_tail (List.mem_of_getElem? hy)), ?_⟩
    rw [List.take_add_one, List.getElem?_zip_eq_some.mpr (show rs[k]? = some (x, y).1 ∧ rs.tail[k]? = some (x, y).2 from ⟨hx, hy⟩)]
    rfl
  have bdT : ∀ k, (((rs.zip rs.tail).take k).foldl gst (1, 1)).1 < bigN ∧ (((rs.zip rs.tail).take k).foldl gst (1, 1)).2 < bigN := fun k => fold_bdF _ _ (fun x hx => zip_ok hok x (List.mem_of_mem_take hx)) ⟨one_bd, one_bd⟩
  refine s_seq (s_forZI (ds := rs.map dP) (es := rs.tail.map dP) (fun k σ G2 M2 => ∃ (x2 x3 x4 x5 x6 : Option V) (v : V), M2 = M ∧ σ = [some v0, some v, x2, x3, x4, x5, x6] ∧ Rp K G2 (dP (((rs.zip rs.tail).take k).foldl gst (1, 1))) v) (a_cons (d_var rfl (r0.up e1)) (a_cons hsl a_nil)) (by rw [List.length_map, List.length_map, List.length_tail]; omega) A1 ?_ ⟨none, none, none, none, none, v1, rfl, rfl, r1⟩
    (fun k d e hd he T σ1 G2 M2 H2 e2 A2 hI rT Nx hN => ?_) fun σ1 G2 M2 H2 e2 A2 hI => ?_)
  · rintro k σ1 Ga Gb Mc e ⟨x2, x3, x4, x5, x6, v, h1, h2, h3⟩
    exact ⟨x2, x3, x4, x5, x6, v, h1, h2, h3.up e⟩
  · obtain ⟨x2, x3, x4, x5, x6, v, rfl, rfl, rv⟩ := hI
    obtain ⟨x, y, rfl, rfl, ox, oy, htk⟩ := ztake k d e hd he
    refine g_pairs (a := dN x.1) (b := dN x.2) (c := dN y.1) (d := dN y.2) A2 rT fun y1 y2 y3 y4 q1 q2 q3 q4 => ?_
    have b1 := sm_mul oy.2.1 ox.2.2.2
    have b2 := sm_mul ox.2.1 oy.2.2.2
    have p1 : 1 ≤ y.1 * x.2 := Nat.mul_pos oy.1 ox.2.2.1
    have p2 : 1 ≤ x.1 * y.2 := Nat.mul_pos ox.1 oy.2.2.1
    have sb := st2_bd ox oy
    have m1 : RD K (rI CMulW fun i j => .int (i * j)) (dN y.1) (dN x.2) (dN (y.1 * x.2)) := by
      have := rd_mul (K := K) (mul_okN (sm_big oy.2.1) (sm_big ox.2.2.2))
      rw [← Int.natCast_mul] at this
      exact this
    have m2 : RD K (rI CMulW fun i j => .int (i * j)) (dN x.1) (dN y.2) (dN (x.1 * y.2)) := by
      have := rd_mul (K := K) (mul_okN (sm_big ox.2.1) (sm_big oy.2.2.2))
      rw [← Int.natCast_mul] at this
      exact this
    refine q_set (d := dP (st2 x y)) (d_call0 (a_cons (d_op (d_var rfl q3) (d_var rfl q2) m1) (a_cons (d_op (d_var rfl q1) (d_var rfl q4) m2) a_nil)) ⟨y.1 * x.2, x.1 * y.2, rfl, p1, b1, p2, b2, rfl⟩) A2 fun v6 G3 H3 e3 A3 r6 => ?_
    have bt := bdT k
    refine s_if (b_B (d_call0 (a_cons (d_var rfl r6) (a_cons (d_var rfl (rv.up e3)) a_nil)) ⟨_, _, _, _, rfl, sb.1, sb.2, bt.1, bt.2, rfl⟩)) A3 (fun hb G4 H4 e4 A4 => ?_) fun hb G4 H4 e4 A4 => ?_
    · refine s_set (d_var rfl (r6.up e4)) A4 fun v7 G5 H5 e5 A5 r7 => ?_
      refine hN _ G5 _ H5 ((e3.trans e4).trans e5) A5 ⟨_, _, _, _, _, v7, rfl, rfl, ?_⟩
      rw [htk, List.foldl_append]
      show Rp K G5 (dP (gst _ (x, y))) v7
      rw [gst_pos hb]
      exact r7
    · refine s_next ?_
      refine hN _ G4 _ H4 (e3.trans e4) A4 ⟨_, _, _, _, _, v, rfl, rfl, ?_⟩
      rw [htk, List.foldl_append]
      show Rp K G4 (dP (gst _ (x, y))) v
      rw [gst_neg hb]
      exact rv.up (e3.trans e4)
  · obtain ⟨x2, x3, x4, x5, x6, v, rfl, rfl, rv⟩ := hI
    refine s_ret (d := dP (great rs)) (d_var rfl ?_) A2 (q.mono (e1.trans e2))
    have : (rs.zip rs.tail).take (rs.tail.map dP).length = rs.zip rs.tail := List.take_of_length_le (by rw [List.length_zip, List.length_map]; exact Nat.min_le_right ..)
    rw [this] at rv
    exact rv
theorem pairs_dP (ms ss : List Nat) : pairsD (dNs ms) (dNs ss) = (ms.zip ss).map dP := by
  unfold pairsD dNs
  rw [List.zip_map, List.map_map]
  rfl
def okR (ms : List Nat) : Prop := ms.length ≤ 5000 ∧ ∀ n ∈ ms, 1 ≤ n ∧ n < smN
theorem okR.zip {ms ss : List Nat} (h : okR ms) (k : okR ss) : ∀ p ∈ ms.zip ss, okP p := fun p hp =>
  ⟨(h.2 _ (List.of_mem_zip hp).1).1, (h.2 _ (List.of_mem_zip hp).1).2, (k.2 _ (List.of_mem_zip hp).2).1, (k.2 _ (List.of_mem_zip hp).2).2⟩
theorem dNs_len (ms : List Nat) : (dNs ms).length = ms.length := List.length_map ..
theorem rd_notN {d : PyData} : RD K (fun x y H Q => y = V.non ∧ Q (V.bl (!decide (x = V.non))) H) d .none (.bool (!isNoneD d)) := fun G M H x y A h1 h2 Q q => by
  refine ⟨h2, ?_⟩
  have e : decide (x = V.non) = isNoneD d := by
    cases d <;> first
      | (have e : x = V.non := h1; subst e; rfl)
      | (have e : x = _ := h1; subst e; rfl)
      | (obtain ⟨a, xs, e, _⟩ := h1; subst e; rfl)
  rw [e]
  exact q.here A rfl
def strD' (ms ss : List Nat) : PyData := if ms.length = ss.length then dP (great (ms.zip ss)) else .none
def R_strain_of : List PyData → PyData → Prop := fun ds r => ∃ ms ss : List Nat, ds = [.list (dNs ms), .list (dNs ss)] ∧ okR ms ∧ okR ss ∧ r = strD' ms ss
theorem F_strain_of (T : Tx K mg) : Fd P w K mg base CX0 5 "strain_of" (PSp K R_strain_of) [] := by
  obtain ⟨fd, F⟩ := T.f_strain_of
  refine ⟨_, fd, ["row", "scan"], [], T.g_strain_of, F.kp, F.bindsN fun _ _ _ _ _ _ us hl => match us, hl with | [_, _], _ => rfl, .nil, ?_⟩
  refine fnG_of F sc_strain_of (fun vs H Q E h => PSp.len (n := 2) (by rintro _ _ ⟨a, b, rfl, _⟩; rfl) h) (fun cdv A outer s H vs Q E hg hr h => ?_)
  obtain ⟨G, M, ds, r, hA, hR, ⟨ms, ss, rfl, o1, o2, rfl⟩, q⟩ := h
  obtain ⟨v0, _, rfl, r0, v1, _, rfl, r1, rfl⟩ := hR
  refine ⟨_, PSs.nox (pss_one (ps_ret (pe_ifExp (pt_cmpR op_eq (pe_callB call_len' (by rfl) T.n_len (by decide +kernel) (pa_cons (pv 0) pa_nil)) (pe_callB call_len' (by rfl) T.n_len (by decide +kernel) (pa_cons (pv 1) pa_nil)) (nomark _)) (pe_fd (F_greatest_step (P := P) (w := w) (base := base) T) hg (hr.mono (by decide)) pass0 (pa_cons (pe_listZip rfl (by rfl) T.n_list (by decide +kernel) (by rfl) T.n_zip (pa_cons (pv 0) (pa_cons (pv 1) pa_nil))) pa_nil)) pe_non))), ?_⟩
  rw [show L2.start ["row", "scan"] [v0, v1] = [some v0, some v1] from rfl]
  try dsimp only [xK]
  have l1 := o1.1
  refine s_ret (d := strD' ms ss) (d_if (b := decide (ms.length = ss.length)) (TrB.to (b_T (d_op (d_cb (a_cons (d_var rfl r0) a_nil) rc_lenL) (d_cb (a_cons (d_var rfl r1) a_nil) rc_lenL) rd_eqI)) ?_) (fun hb => ?_) fun hb => ?_) hA q
  · rw [dNs_len, dNs_len]
    exact decide_eq_decide.mpr Int.ofNat_inj
  · have hb := of_decide_eq_true hb
    unfold strD'
    rw [if_pos hb]
    refine d_call0 (a_cons (TrD.to (d_listZip (a_cons (d_var rfl r0) (a_cons (d_var rfl r1) a_nil)) (by rw [dNs_len]; omega)) (by rw [pairs_dP])) a_nil) ⟨ms.zip ss, rfl, o1.zip o2, by rw [List.length_zip]; omega, rfl⟩
  · have hb := of_decide_eq_false hb
    unfold strD'
    rw [if_neg hb]
    exact d_non
def within (ms ss : List Nat) (p q : Nat) : Bool := decide (ms.length = ss.length) && !ab (great (ms.zip ss)).1 (great (ms.zip ss)).2 p q
def R_is_within : List PyData → PyData → Prop := fun ds r => ∃ (ms ss : List Nat) (p q : Nat), ds = [.list (dNs ms), .list (dNs ss), dF p q] ∧ okR ms ∧ okR ss ∧ okF p q ∧ r = .bool (within ms ss p q)
theorem F_is_within (T : Tx K mg) : Fd P w K mg base CX0 6 "is_within" (PSp K R_is_within) [] := by
  obtain ⟨fd, F⟩ := T.f_is_within
  refine ⟨_, fd, ["row", "scan", "factor"], [], T.g_is_within, F.kp, F.bindsN fun _ _ _ _ _ _ us hl => match us, hl with | [_, _, _], _ => rfl, .nil, ?_⟩
  refine fnG_of F sc_is_within (fun vs H Q E h => PSp.len (n := 3) (by rintro _ _ ⟨a, b, c, d, rfl, _⟩; rfl) h) (fun cdv A outer s H vs Q E hg hr h => ?_)
  obtain ⟨G, M, ds, r, hA, hR, ⟨ms, ss, fp, fq, rfl, o1, o2, of, rfl⟩, q⟩ := h
  obtain ⟨v0, _, rfl, r0, v1, _, rfl, r1, v2, _, rfl, r2, rfl⟩ := hR
  refine ⟨_, PSs.nox (pss_cons (ps_set (i := 3) sc_is_within.nd rfl (by first | exact Or.inl rfl | exact Or.inr rfl) (pe_fd (F_strain_of (P := P) (w := w) (base := base) T) hg (hr.mono (by decide)) pass0 (pa_cons (pv 0) (pa_cons (pv 1) pa_nil))))
    (pss_one (ps_ret (pe_and (pe_cmpR op_notN (pv 3) pe_non (nomark _)) (pe_one (pe_not (pe_fd (F_is_above (P := P) (w := w) (base := base) T) hg (hr.mono (by decide)) pass0 (pa_cons (pv 3) (pa_cons (pv 2) pa_nil))))))))), ?_⟩
  rw [show L2.start ["row", "scan", "factor", "strain"] [v0, v1, v2] = [some v0, some v1, some v2, none] from rfl]
  try dsimp only [xK]
  refine q_set (d := strD' ms ss) (d_call0 (a_cons (d_var rfl r0) (a_cons (d_var rfl r1) a_nil)) ⟨ms, ss, rfl, o1, o2, rfl⟩) hA fun v3 G1 H1 e1 A1 r3 => ?_
  refine s_ret (d := .bool (within ms ss fp fq)) ?_ A1 (q.mono e1)
  obtain ⟨f1, f2, f3, f4⟩ := of
  by_cases hb : ms.length = ss.length
  · unfold strD' at r3
    rw [if_pos hb] at r3
    have bd := great_bd (o1.zip o2)
    unfold within
    rw [decide_eq_true hb]
    refine v_andT ?_ (v_not (d_call0 (a_cons (d_var rfl r3) (a_cons (d_var rfl (r2.up e1)) a_nil)) ⟨_, _, _, _, rfl, bd.1, bd.2, f3, Nat.lt_of_le_of_lt f2 f3, rfl⟩))
    exact TrD.to (d_op (d_var rfl r3) d_non rd_notN) rfl
  · unfold strD' at r3
    rw [if_neg hb] at r3
    unfold within
    rw [decide_eq_false hb]
    exact v_andF (TrD.to (d_op (d_var rfl r3) d_non rd_notN) rfl)
end
end K96

namespace K96
open PySem PySem.Spec PyProof.Rows L2 Sb
local macro_rules | `(tactic| walk_at "ex") => `(tactic| first | exact Ex.refl _ | assumption | (refine' Ex.trans ?_ (by assumption); walk_at "ex"))
local macro_rules | `(tactic| walk_at "rp") => `(tactic| first | assumption | (refine' Rp.up ?e (by assumption); (case e => walk_at "ex")) | exact rfl)
local macro_rules | `(tactic| walk_at "rd") => `(tactic| with_reducible first | exact rd_add | exact rd_sub | exact rd_lt | exact rd_le | exact rd_gt | exact rd_ge | exact rd_eqI | exact rd_neI | exact rd_eqS | exact rd_neS | exact rd_isN | exact rd_ltS | exact rd_inSign | exact rd_eqE)
local macro_rules | `(tactic| walk_at "tr") => `(tactic| first
  | with_reducible exact d_int
  | with_reducible exact d_str
  | with_reducible exact d_bl
  | with_reducible exact d_non
  | with_reducible exact a_nil
  | with_reducible exact b_yes
  | with_reducible exact o_none
  | with_reducible exact d_newD
  | ((with_reducible refine' d_var ?i ?r); (case i => rfl); (case r => walk_at "rp"))
  | ((with_reducible refine' a_cons ?a ?b); (case a => walk_at "tr"); (case b => walk_at "tr"))
  | ((with_reducible refine' a_star ?a ?b); (case a => walk_at "tr"); (case b => walk_at "tr"))
  | ((with_reducible refine' d_isi ?a ?b); (case a => walk_at "tr"); (case b => decide))
  | ((with_reducible refine' d_op ?a ?b ?c); (case a => walk_at "tr"); (case b => walk_at "tr"); (case c => walk_at "rd"))
  | ((with_reducible refine' d_tup ?a ?b); (case a => walk_at "tr"); (case b => first | decide | (simp; done)))
  | ((with_reducible refine' d_lst ?a ?b); (case a => walk_at "tr"); (case b => first | decide | (simp; done)))
  | ((with_reducible refine' o_some ?a); (case a => walk_at "tr"))
  | ((with_reducible refine' b_B ?a); (case a => walk_at "tr"))
  | ((with_reducible refine' b_T ?a); (case a => walk_at "tr"))
  | ((with_reducible refine' b_not ?a); (case a => walk_at "tr"))
  | ((with_reducible refine' v_not ?a); (case a => walk_at "tr"))
  | ((with_reducible refine' b_or ?a ?b); (case a => walk_at "tr"); (case b => intro _; walk_at "tr"))
  | ((with_reducible refine' b_and ?a ?b); (case a => walk_at "tr"); (case b => intro _; walk_at "tr"))
  | ((with_reducible refine' v_or ?a ?b); (case a => walk_at "tr"); (case b => intro _; walk_at "tr"))
  | ((with_reducible refine' v_and ?a ?b); (case a => walk_at "tr"); (case b => intro _; walk_at "tr"))
  | assumption)


def plusCs (cs : List (Str × List Int)) (x : Str) (ws : List Int) : List (Str × List Int) := cs ++ [(x, ws)]
def codeW (c : CodeD) (x : Str) (ws : List Int) : CodeD := ⟨c.st, (srt ((plusCs c.cs x ws).map (·.1))).map fun k => (k, wsOf (plusCs c.cs x ws) k), c.bt, c.sp⟩
structure okNew (c : CodeD) (x : Str) (ws : List Int) : Prop where
  ok : c.ok
  few : c.cs.length ≤ 9
  nm : isNameS x = true
  new : x ∉ c.cs.map (·.1)
  ws : okW 1 6 ws
theorem okNew.plus {c : CodeD} {x : Str} {ws : List Int} (h : okNew c x ws) : okCs (plusCs c.cs x ws) := by
  have h1 := h.ok.cs
  have h2 := h.few
  refine ⟨?_, ?_, fun p hp => ?_, ?_⟩
  · unfold plusCs
    rw [List.length_append, List.length_singleton]
    omega
  · unfold plusCs
    rw [List.length_append, List.length_singleton]
    omega
  · rcases List.mem_append.mp hp with hp | hp
    · exact h1.nm p hp
    · rw [List.mem_singleton.mp hp]
      exact ⟨h.nm, h.ws⟩
  · unfold plusCs
    rw [List.map_append]
    refine List.nodup_append.mpr ⟨h1.nd, by simp, fun a ha b hb e => ?_⟩
    simp only [List.map_cons, List.map_nil, List.mem_singleton] at hb
    subst hb
    subst e
    exact h.new ha
/-- the code with the further character last -/
def codeP (c : CodeD) (x : Str) (ws : List Int) : CodeD := ⟨c.st, plusCs c.cs x ws, c.bt, c.sp⟩
theorem okNew.okP {c : CodeD} {x : Str} {ws : List Int} (h : okNew c x ws) : (codeP c x ws).ok := ⟨h.ok.st, h.plus, h.ok.bt, h.ok.sp⟩
theorem codeW_keys {c : CodeD} {x : Str} {ws : List Int} : ((codeW c x ws).cs.map (·.1)) = srt ((plusCs c.cs x ws).map (·.1)) := by
  unfold codeW
  rw [List.map_map]
  conv => rhs; rw [← List.map_id (srt _)]
  rfl
theorem codeW_mem {c : CodeD} {x k : Str} {ws : List Int} : k ∈ (codeW c x ws).cs.map (·.1) ↔ k ∈ c.cs.map (·.1) ∨ k = x := by
  rw [codeW_keys, (srt_perm _).mem_iff]
  unfold plusCs
  rw [List.map_append, List.mem_append]
  simp
theorem codeW_nd {c : CodeD} {x : Str} {ws : List Int} (h : okNew c x ws) : ((codeW c x ws).cs.map (·.1)).Nodup := by
  rw [codeW_keys]
  exact (srt_perm _).nodup_iff.mpr h.plus.nd
theorem codeW_ok {c : CodeD} {x : Str} {ws : List Int} (h : okNew c x ws) : (codeW c x ws).ok := by
  refine ⟨h.ok.st, ⟨?_, ?_, fun p hp => ?_, codeW_nd h⟩, h.ok.bt, h.ok.sp⟩
  · show 1 ≤ ((srt ((plusCs c.cs x ws).map (·.1))).map _).length
    rw [List.length_map, (srt_perm _).length_eq, List.length_map]
    exact h.plus.l1
  · show ((srt ((plusCs c.cs x ws).map (·.1))).map _).length ≤ 10
    rw [List.length_map, (srt_perm _).length_eq, List.length_map]
    exact h.plus.l2
  · obtain ⟨k, hk, rfl⟩ := List.mem_map.mp hp
    have z := wsOf_of h.okP ((srt_perm _).mem_iff.mp hk)
    exact ⟨z.1, z.2.1⟩
theorem codeW_ws {c : CodeD} {x k : Str} {ws : List Int} (h : okNew c x ws) (hk : k ∈ (codeW c x ws).cs.map (·.1)) : wsOf (codeW c x ws).cs k = wsOf (plusCs c.cs x ws) k := by
  rw [codeW_keys] at hk
  exact wsOf_mem (cs := (codeW c x ws).cs) (p := (k, wsOf (plusCs c.cs x ws) k)) (codeW_nd h) (List.mem_map.mpr ⟨k, hk, rfl⟩)
def strOf (d : PyData) : Str := match d with
  | .str x => x
  | _ => ""
section
variable {P : Program} {w : World} {K : PySem.W.Frag} {mg : Str → Option Value} {base : Heap}
def R_code_with : List PyData → PyData → Prop := fun ds r => ∃ (c : CodeD) (x : Str) (ws : List Int), ds = [c.d, .str x, .tuple (dInts ws)] ∧ okNew c x ws ∧ r = (codeW c x ws).d
theorem F_code_with (T : Tx K mg) : Fd P w K mg base CX0 1 "code_with" (PSp K R_code_with) [] := by
  obtain ⟨fd, F⟩ := T.f_code_with
  refine ⟨_, fd, ["code", "name", "widths"], [], T.g_code_with, F.kp, F.bindsN fun _ _ _ _ _ _ us hl => match us, hl with | [_, _, _], _ => rfl, .nil, ?_⟩
  refine fnG_of F sc_code_with (fun vs H Q E h => PSp.len (n := 3) (by rintro _ _ ⟨d, e, f, rfl, _⟩; rfl) h) (fun cdv A outer s H vs Q E hg hr h => ?_)
  obtain ⟨G, M, ds, r, hA, hR, ⟨c, x, ws, rfl, ok, rfl⟩, q⟩ := h
  obtain ⟨v0, _, rfl, r0, v1, _, rfl, r1, v2, _, rfl, r2, rfl⟩ := hR
  refine ⟨_, PSs.nox (pss_cons (ps_asg (pv 0) (pg_tup (by rfl) (pgs_cons (pg_name (i := 3) sc_code_with.nd rfl (by first | exact Or.inl rfl | exact Or.inr rfl)) (pgs_cons (pg_name (i := 4) sc_code_with.nd rfl (by first | exact Or.inl rfl | exact Or.inr rfl)) (pgs_cons (pg_name (i := 5) sc_code_with.nd rfl (by first | exact Or.inl rfl | exact Or.inr rfl)) (pgs_cons (pg_name (i := 6) sc_code_with.nd rfl (by first | exact Or.inl rfl | exact Or.inr rfl)) pgs_nil))))))
    (pss_cons (ps_set (i := 7) sc_code_with.nd rfl (by first | exact Or.inl rfl | exact Or.inr rfl) (pe_dmerge (pv 4) (pv 1) (pv 2)))
    (pss_one (ps_ret (pe_tup (pa_cons (pv 3) (pa_cons (pe_dc (own := [("other", 8)]) (g := gName 8) (by rfl) sc_code_with.nd (pi_list (pe_callB (call_sortedD' rfl) (by rfl) T.n_sorted (by decide +kernel) (pa_cons (pv 7) pa_nil))) (blkOk_by (own := [("other", 8)]) (N := ["code", "name", "widths", "start", "characters", "between", "stop", "some", "other"]) (sc := defScope s_code_with) (by decide +kernel)) (fun _ _ _ _ _ => (pg_name (i := 8) sc_code_with.nd rfl (by first | exact Or.inl rfl | exact Or.inr rfl))) (fun _ _ _ _ _ => pts_nil) (fun _ _ _ _ _ => (pv 8)) (fun _ _ _ _ _ => (pe_dget (hu_of hr) (pv 7) (pv 8) (fun _ _ => rfl)))) (pa_cons (pv 5) (pa_cons (pv 6) pa_nil))))))))), ?_⟩
  rw [show L2.start ["code", "name", "widths", "start", "characters", "between", "stop", "some", "other"] [v0, v1, v2] = [some v0, some v1, some v2, none, none, none, none, none, none] from rfl]
  try dsimp only [xK]
  have hf := ok.few
  have hck : (chD c.cs).length = c.cs.length := by simp [chD]
  refine q_unpack (d_var rfl r0) rfl hA ?_
  rintro _ G1 H1 e1 A1 ⟨v3, _, rfl, r3, v4, _, rfl, r4, v5, _, rfl, r5, v6, _, rfl, r6, rfl⟩
  refine ⟨v3, _, rfl, v4, _, rfl, v5, _, rfl, v6, _, rfl, rfl, ?_⟩
  have hput : putD (chD c.cs) x (.tuple (dInts ws)) = chD (plusCs c.cs x ws) := by
    rw [put_new (by rw [chD_keys]; exact ok.new)]
    unfold chD plusCs
    rw [List.map_append]
    rfl
  refine q_set (K := K) (d := .dict (keysD (chD (plusCs c.cs x ws)))) (TrD.to (d_dmerge (d_var rfl r4) (d_var rfl (r1.up e1)) (d_var rfl (r2.up e1)) (by rw [chD_keys]; exact ok.ok.cs.nd) (by omega)) (by rw [hput])) A1 fun v7 G2 H2 e2 A2 r7 => ?_
  have hlen : (chD (plusCs c.cs x ws)).length ≤ 10 := by
    have := ok.plus.l2
    unfold chD
    rw [List.length_map]
    exact this
  have hdc : TrD K (tDc (iList K (tCB rSortD (tCons (tVar 7) tNil))) (gName 8) tYes (tVar 8) (tDGet (tVar 7) (tVar 8)) [8]) [some v0, some v1, some v2, some v3, some v4, some v5, some v6, some v7, none] G2 (.dict (keysD (chD (codeW c x ws).cs))) := by
    refine TrD.to (d_dcL (tl := tVar 0) (p := fun _ => true) (kf := strOf) (f := fun d => .tuple (dInts (wsOf (plusCs c.cs x ws) (strOf d)))) (d_cb (a_cons (d_var rfl r7) a_nil) (rc_sortD (by omega))) ?_ ?_ (fun _ _ _ _ _ _ => b_yes) (fun d hd _ y G3 e3 ry => ?_) fun d hd _ y G3 e3 ry => ?_) ?_
    · unfold dStrs
      rw [List.length_map, (srt_perm _).length_eq, List.length_map]
      omega
    · rw [filt_true]
      unfold dStrs
      rw [List.map_map, show (strOf ∘ PyData.str) = id from rfl, List.map_id, chD_keys]
      exact (srt_perm _).nodup_iff.mpr ok.plus.nd
    · obtain ⟨nm, hnm, rfl⟩ := mem_strs hd
      exact d_var rfl ry
    · obtain ⟨nm, hnm, rfl⟩ := mem_strs hd
      have hm := (srt_perm _).mem_iff.mp hnm
      rw [chD_keys] at hm
      have z := wsOf_of ok.okP hm
      exact d_dget (d_var rfl (r7.up e3)) (d_var rfl ry) z.2.2
    · rw [filt_true, chD_keys]
      unfold dStrs codeW chD
      rw [List.map_map, List.map_map]
      rfl
  exact s_ret (d := (codeW c x ws).d) (d_tup (a_cons (d_var rfl (r3.up e2)) (a_cons hdc (a_cons (d_var rfl (r5.up e2)) (a_cons (d_var rfl (r6.up e2)) a_nil)))) (by show 4 ≤ 100000; decide)) A2 (q.mono (e1.trans e2))
theorem F_with_character (T : Tx K mg) : Fd P w K mg base CX0 7 "with_character" (PSp K R_code_with) [] := by
  obtain ⟨fd, F⟩ := T.f_with_character
  refine ⟨_, fd, ["code", "name", "widths"], [], T.g_with_character, F.kp, F.bindsN fun _ _ _ _ _ _ us hl => match us, hl with | [_, _, _], _ => rfl, .nil, ?_⟩
  refine fnG_of F sc_with_character (fun vs H Q E h => PSp.len (n := 3) (by rintro _ _ ⟨d, e, f, rfl, _⟩; rfl) h) (fun cdv A outer s H vs Q E hg hr h => ?_)
  obtain ⟨G, M, ds, r, hA, hR, ⟨c, x, ws, rfl, ok, rfl⟩, q⟩ := h
  obtain ⟨v0, _, rfl, r0, v1, _, rfl, r1, v2, _, rfl, r2, rfl⟩ := hR
  refine ⟨_, PSs.nox (pss_cons (ps_expr (pe_fd (F_require_code (P := P) (w := w) (base := base) T) hg (hr.mono (by decide)) pass0 (pa_cons (pv 0) pa_nil)))
    (pss_cons (ps_if (pt_not (pt_val (pe_fd (F_is_name (P := P) (w := w) (base := base) T) hg (hr.mono (by decide)) pass0 (pa_cons (pv 1) pa_nil)))) (pss_one ps_never) pss_nil)
    (pss_cons (ps_if (pt_not (pt_val (pe_fd (F_is_widths (P := P) (w := w) (base := base) T) hg (hr.mono (by decide)) pass0 (pa_cons (pv 2) pa_nil)))) (pss_one ps_never) pss_nil)
    (pss_cons (ps_if (PW.pt (pw_and (pt_cmp (pc_dnotin (hu_of hr) (pv 1) (pe_ix ix_tup (pv 0) pe_int (fun _ _ => rfl))) (by rfl)) (pw_and1 (pt_cmpR op_eq (pe_callB call_lenD' (by rfl) T.n_len (by decide +kernel) (pa_cons (pe_ix ix_tup (pv 0) pe_int (fun _ _ => rfl)) pa_nil)) (pe_glob (v := .int 10) (by rfl) T.c_MOST_CHARACTERS.choose_spec ⟨_, rfl⟩) (nomark _))))) (pss_one ps_never) pss_nil)
    (pss_one (ps_ret (pe_fd (F_code_with (P := P) (w := w) (base := base) T) hg (hr.mono (by decide)) pass0 (pa_cons (pv 0) (pa_cons (pv 1) (pa_cons (pv 2) pa_nil)))))))))), ?_⟩
  rw [show L2.start ["code", "name", "widths"] [v0, v1, v2] = [some v0, some v1, some v2] from rfl]
  try dsimp only [xK]
  have hf := ok.few
  refine q_drop (d_call0 (a_cons (d_var rfl r0) a_nil) ⟨c, rfl, ok.ok, rfl⟩) hA fun G1 H1 e1 A1 => ?_
  refine q_guardF (TrB.to (b_not (b_B (d_call0 (a_cons (d_var rfl (r1.up e1)) a_nil) ⟨.str x, rfl, fun y hy => by cases hy; rw [name_len ok.nm]; decide, rfl⟩))) (by show (!isNameS x) = false; rw [ok.nm]; rfl)) A1 fun G2 H2 e2 A2 => ?_
  refine q_guardF (TrB.to (b_not (b_B (d_call0 (a_cons (d_var rfl (r2.up (e1.trans e2))) a_nil) ⟨.tuple (dInts ws), rfl, rfl⟩))) (by show (!areWD (.tuple (dInts ws)) ((1 : Nat) : Int) ((6 : Nat) : Int)) = false; rw [areWD_ok ok.ws]; rfl)) A2 fun G3 H3 e3 A3 => ?_
  have r0' := r0.up ((e1.trans e2).trans e3)
  refine q_guardF (b_andT (TrB.to (b_B (v_dnin (K := K) (kvs := chD c.cs) (x := x) (d_var rfl (r1.up ((e1.trans e2).trans e3))) (d_op (d_var rfl r0') d_int (rd_ixT rfl)))) (by rw [look_some, chD_keys, decide_eq_false ok.new]; rfl)) (TrB.to (b_T (d_op (d_cb (a_cons (d_op (d_var rfl r0') d_int (rd_ixT (d := .dict (keysD (chD c.cs))) rfl)) a_nil) rc_lenD) d_int rd_eqI)) (decide_eq_false ?_))) A3 fun G4 H4 e4 A4 => ?_
  · rw [keysD_len]
    show ¬ (((chD c.cs).length : Int) = 10)
    unfold chD
    rw [List.length_map]
    omega
  · exact s_ret (d := (codeW c x ws).d) (d_call0 (a_cons (d_var rfl (r0'.up e4)) (a_cons (d_var rfl (r1.up (((e1.trans e2).trans e3).trans e4))) (a_cons (d_var rfl (r2.up (((e1.trans e2).trans e3).trans e4))) a_nil))) ⟨c, x, ws, rfl, ok, rfl⟩) A4 (q.mono (((e1.trans e2).trans e3).trans e4))
def natsL (ns : List Int) : List Nat := ns.map Int.toNat
theorem natsL_d {ns : List Int} (h : ∀ n ∈ ns, 1 ≤ n) : dInts ns = dNs (natsL ns) := by
  unfold dInts dNs natsL
  rw [List.map_map]
  refine List.map_congr_left fun n hn => ?_
  show PyData.int n = PyData.int ((n.toNat : Nat) : Int)
  rw [Int.toNat_of_nonneg (by have := h n hn; omega)]
theorem dNs_ints (ss : List Nat) : dNs ss = dInts (ss.map Int.ofNat) := by
  unfold dInts dNs
  rw [List.map_map]
  rfl
theorem sm_4 : 4 < smN := by
  have : 4 ^ 1 < smN := by
    unfold smN
    exact Nat.lt_of_lt_of_le (by decide : 4 ^ 1 < 2 ^ 3) (Nat.pow_le_pow_right (by decide) (by decide))
  exact this
theorem rowL_w {c : CodeD} (ok : c.ok) {t : Str} (ht : isTextD c (.str t) = true) : ∀ n ∈ rowL c t, 1 ≤ n ∧ n ≤ 4 := by
  intro n hn
  unfold rowL at hn
  rcases List.mem_append.mp hn with hn | hn
  · rcases List.mem_append.mp hn with hn | hn
    · rcases List.mem_append.mp hn with hn | hn
      · exact ok.st.2.2 n hn
      · exact ok.bt.2.2 n hn
    · obtain ⟨x, hx, hn⟩ := List.mem_flatMap.mp hn
      rcases List.mem_append.mp hn with hn | hn
      · exact (wsOf_of ok (of_decide_eq_true (List.all_eq_true.mp ht x hx))).2.1.2.2 n hn
      · exact ok.bt.2.2 n hn
  · exact ok.sp.2.2 n hn
theorem rowL_len {c : CodeD} (ok : c.ok) {t : Str} (ht : isTextD c (.str t) = true) : (rowL c t).length ≤ 14 + t.cps.size * 8 := by
  have h := rowK_len ok ht (chrs t).length
  have h3 := ok.sp.2.1
  rw [← rowK_all, List.length_append, ← chrs_len]
  omega
theorem okR_row {c : CodeD} (ok : c.ok) {t : Str} (hz : t.cps.size ≤ 400) (ht : isTextD c (.str t) = true) : okR (natsL (rowL c t)) := by
  refine ⟨?_, fun n hn => ?_⟩
  · have := rowL_len ok ht
    unfold natsL
    rw [List.length_map]
    omega
  · obtain ⟨m, hm, rfl⟩ := List.mem_map.mp hn
    have := rowL_w ok ht m hm
    have := sm_4
    omega
def okS (ss : List Nat) : Prop := 1 ≤ ss.length ∧ ss.length ≤ 400 ∧ ∀ n ∈ ss, 1 ≤ n ∧ n < smN
theorem okS.r {ss : List Nat} (h : okS ss) : okR ss := ⟨by have := h.2.1; omega, h.2.2⟩
theorem okS.scan {ss : List Nat} (h : okS ss) : okScan (ss.map Int.ofNat) := by
  refine ⟨by rw [List.length_map]; exact h.1, by rw [List.length_map]; exact h.2.1, fun n hn => ?_⟩
  obtain ⟨m, hm, rfl⟩ := List.mem_map.mp hn
  obtain ⟨h1, h2⟩ := h.2.2 m hm
  refine ⟨show (1 : Int) ≤ (m : Int) by omega, ?_⟩
  show (m : Int).natAbs.log2 < 1900
  rw [Int.natAbs_natCast]
  exact Nat.lt_trans ((Nat.log2_lt (by omega)).mpr h2) (by decide)
def isRead (c : CodeD) (t : Str) (ss : List Nat) (p q : Nat) : Bool := within (natsL (rowL c t)) ss p q
def R_is_reading : List PyData → PyData → Prop := fun ds r => ∃ (c : CodeD) (t : Str) (ss : List Nat) (p q : Nat), ds = [c.d, .str t, .list (dNs ss), dF p q] ∧ c.ok ∧ t.cps.size ≤ 400 ∧ isTextD c (.str t) = true ∧ okS ss ∧ okF p q ∧ r = .bool (isRead c t ss p q)
theorem F_is_reading (T : Tx K mg) : Fd P w K mg base CX0 7 "is_reading" (PSp K R_is_reading) [] := by
  obtain ⟨fd, F⟩ := T.f_is_reading
  refine ⟨_, fd, ["code", "text", "scan", "factor"], [], T.g_is_reading, F.kp, F.bindsN fun _ _ _ _ _ _ us hl => match us, hl with | [_, _, _, _], _ => rfl, .nil, ?_⟩
  refine fnG_of F sc_is_reading (fun vs H Q E h => PSp.len (n := 4) (by rintro _ _ ⟨d, e, f, g, h, rfl, _⟩; rfl) h) (fun cdv A outer s H vs Q E hg hr h => ?_)
  obtain ⟨G, M, ds, r, hA, hR, ⟨c, t, ss, fp, fq, rfl, ok, hz, ht, os, of, rfl⟩, q⟩ := h
  obtain ⟨v0, _, rfl, r0, v1, _, rfl, r1, v2, _, rfl, r2, v3, _, rfl, r3, rfl⟩ := hR
  refine ⟨_, PSs.nox (pss_cons (ps_expr (pe_fd (F_require_code (P := P) (w := w) (base := base) T) hg (hr.mono (by decide)) pass0 (pa_cons (pv 0) pa_nil)))
    (pss_cons (ps_expr (pe_fd (F_require_text (P := P) (w := w) (base := base) T) hg (hr.mono (by decide)) pass0 (pa_cons (pv 0) (pa_cons (pv 1) pa_nil))))
    (pss_cons (ps_expr (pe_fd (F_require_scan (P := P) (w := w) (base := base) T) hg (hr.mono (by decide)) pass0 (pa_cons (pv 2) pa_nil)))
    (pss_cons (ps_expr (pe_fd (F_require_factor (P := P) (w := w) (base := base) T) hg (hr.mono (by decide)) pass0 (pa_cons (pv 3) pa_nil)))
    (pss_one (ps_ret (pe_fd (F_is_within (P := P) (w := w) (base := base) T) hg (hr.mono (by decide)) pass0 (pa_cons (pe_fd (F_row_by (P := P) (w := w) (base := base) T) hg (hr.mono (by decide)) pass0 (pa_cons (pv 0) (pa_cons (pv 1) pa_nil))) (pa_cons (pv 2) (pa_cons (pv 3) pa_nil)))))))))), ?_⟩
  rw [show L2.start ["code", "text", "scan", "factor"] [v0, v1, v2, v3] = [some v0, some v1, some v2, some v3] from rfl]
  try dsimp only [xK]
  refine q_drop (d_call0 (a_cons (d_var rfl r0) a_nil) ⟨c, rfl, ok, rfl⟩) hA fun G1 H1 e1 A1 => ?_
  refine q_drop (d_call0 (a_cons (d_var rfl (r0.up e1)) (a_cons (d_var rfl (r1.up e1)) a_nil)) ⟨c, t, rfl, by omega, ht, rfl⟩) A1 fun G2 H2 e2 A2 => ?_
  refine q_drop (d_call0 (a_cons (d_var rfl (r2.up (e1.trans e2))) a_nil) ⟨ss.map Int.ofNat, by rw [dNs_ints], os.scan, rfl⟩) A2 fun G3 H3 e3 A3 => ?_
  refine q_drop (d_call0 (a_cons (d_var rfl (r3.up ((e1.trans e2).trans e3))) a_nil) ⟨fp, fq, rfl, of, rfl⟩) A3 fun G4 H4 e4 A4 => ?_
  have e04 := ((e1.trans e2).trans e3).trans e4
  refine s_ret (d := .bool (isRead c t ss fp fq)) (d_call0 (a_cons (TrD.to (d_call0 (a_cons (d_var rfl (r0.up e04)) (a_cons (d_var rfl (r1.up e04)) a_nil)) ⟨c, t, rfl, ok, by omega, ht, rfl⟩) (by rw [natsL_d fun n hn => (rowL_w ok ht n hn).1])) (a_cons (d_var rfl (r2.up e04)) (a_cons (d_var rfl (r3.up e04)) a_nil))) ⟨natsL (rowL c t), ss, fp, fq, rfl, okR_row ok hz ht, os.r, of, rfl⟩) A4 (q.mono e04)
end
end K96

namespace Sb
open PySem PySem.Spec PyProof.Rows L2
/-! ### lists that are made by a comprehension and written behind it -/
def TrM (K : PySem.W.Frag) (te : TE) (σ : L2.St) (G : Hp) (ds : List PyData) : Prop := ∀ G1 M H, Ex G G1 → At G1 M H → ∀ Q : VK, (∀ (p : Addr) (xs : List V) (G' H' : Hp), Ex G1 G' → M p = none → G' p = none → At G' (upd M p (.lst xs)) H' → RpL K G' ds xs → Q (.ref p) H') → te σ H Q
section
variable {K : PySem.W.Frag} {σ : L2.St} {G M H : Hp} {te : TE} {ds : List PyData} {D : Ends} {i : Nat} {s2 : TS} {p : Addr}
theorem TrM.to {es : List PyData} (h : TrM K te σ G ds) (e : ds = es) : TrM K te σ G es := e ▸ h
theorem q_newM (h : TrM K te σ G ds) (A : At G M H) (k : ∀ (p : Addr) (xs : List V) (G' H' : Hp), Ex G G' → M p = none → G' p = none → At G' (upd M p (.lst xs)) H' → RpL K G' ds xs → s2 D (σ.set i (some (.ref p))) H') : tSeq (tAsg te (gName i)) s2 D σ H := h G M H (Ex.refl _) A _ k
theorem s_newM (h : TrM K te σ G ds) (A : At G M H) (k : ∀ (p : Addr) (xs : List V) (G' H' : Hp), Ex G G' → M p = none → G' p = none → At G' (upd M p (.lst xs)) H' → RpL K G' ds xs → D.nx (σ.set i (some (.ref p))) H') : tAsg te (gName i) D σ H := h G M H (Ex.refl _) A _ k
theorem s_extL {xs : List V} (hi : σ[i]? = some (some (.ref p))) (hp : M p = some (.lst xs)) (h : TrD K te σ G (.list ds)) (hn : xs.length + ds.length ≤ 100000) (A : At G M H)
    (k : ∀ ys G' H', Ex G G' → At G' (upd M p (.lst (xs ++ ys))) H' → RpL K G' ds ys → D.nx σ H') : tDrop (tBM K "list" rExtend (tVar i) (tCons te tNil)) D σ H := by
  refine ⟨.ref p, hi, Or.inl ⟨rfl, _, Or.inl (Or.inl (A.m _ _ hp))⟩, ?_⟩
  refine w_D h A fun v G2 H2 e2 A2 r => ?_
  obtain ⟨b, zs, rfl, h1, h2⟩ := r
  exact ⟨p, b, xs, zs, rfl, rfl, A2.m _ _ hp, A2.g _ _ h1, by rw [h2.len]; exact sz_of hn, k zs G2 _ e2 (A2.wr hp) h2⟩
theorem m_lcL {tl : TE} {tt : TT} {p : PyData → Bool} {f : PyData → PyData} (hl : TrD K tl σ G (.list ds)) (hn : ds.length < 100000)
    (ht : ∀ d ∈ ds, ∀ x G1, Ex G G1 → Rp K G1 d x → TrB tt ((wipe σ [i]).set i (some x)) G1 (p d))
    (he : ∀ d ∈ ds, p d = true → ∀ x G1, Ex G G1 → Rp K G1 d x → TrD K te ((wipe σ [i]).set i (some x)) G1 (f d)) :
    TrM K (tLc (iList K tl) (gName i) tt te [i]) σ G ((ds.filter p).map f) := fun G1 M H e A Q q => by
  refine hl G1 M H e A _ fun v G2 H2 e2 A2 r => ?_
  obtain ⟨a, xs, rfl, hs, hx⟩ := r
  refine ⟨a, rfl, ⟨xs, SqL.of (A2.g _ _ hs)⟩, fun D hD => ?_⟩
  refine lc_list (K := K) (a := a) (xs := xs) (fun j H => ∃ Gj acc, Ex G2 Gj ∧ At Gj (upd M D (.lst acc)) H ∧ RpL K Gj (((ds.take j).filter p).map f) acc) ⟨G2, [], Ex.refl _, A2.nm hD, rfl⟩ ?_ ?_ ?_
  · rintro j H3 _ ⟨Gj, acc, ej, Aj, _⟩
    exact SqL.of ((ej.trans Aj.g) _ _ hs)
  · rintro j x H3 hj ⟨Gj, acc, ej, Aj, rj⟩
    obtain ⟨d, hd, rd⟩ := hx.get hj
    have hm : d ∈ ds := List.mem_of_getElem? hd
    have hk : ds.take (j + 1) = ds.take j ++ [d] := by rw [List.take_add_one, hd]; rfl
    show wipe _ _ = wipe _ _ ∧ _
    refine ⟨wipe_set, ?_⟩
    refine ht d hm x Gj ((e.trans e2).trans ej) (rd.up ej) Gj _ H3 (Ex.refl _) Aj _ fun G4 H4 e4 A4 => ?_
    cases hp : p d with
    | false =>
      refine ⟨G4, acc, ej.trans e4, A4, ?_⟩
      rw [hk, List.filter_append, List.filter_cons, hp]
      simpa using rj.up e4
    | true =>
      refine he d hm hp x G4 ((e.trans e2).trans (ej.trans e4)) (rd.up (ej.trans e4)) G4 _ H4 (Ex.refl _) A4 _ fun v5 G5 H5 e5 A5 r5 => ?_
      refine ⟨acc, A5.m _ _ upd_same, ?_, G5, acc ++ [v5], ej.trans (e4.trans e5), ?_, ?_⟩
      · rw [rj.len, List.length_map]
        refine sz_lt (Nat.lt_of_le_of_lt (Nat.le_trans (List.length_filter_le _ _) ?_) hn)
        rw [List.length_take]
        exact Nat.min_le_right _ _
      · have z := A5.wr (o := .lst (acc ++ [v5])) (upd_same (H := M) (a := D) (o := .lst acc))
        rw [upd_upd] at z
        exact z
      · rw [hk, List.filter_append, List.filter_cons, hp, List.map_append]
        exact (rj.up (e4.trans e5)).snoc r5
  · rintro H3 ⟨Gj, acc, ej, Aj, rj⟩
    have hM : M D = none := A2.mNone hD
    have hl2 : ds.take xs.length = ds := by rw [hx.len, List.take_length]
    rw [hl2] at rj
    exact q D acc _ _ (e2.trans ej) hM (Aj.d _ _ upd_same) Aj rj
theorem m_lcT {tl : TE} {tt : TT} {p : PyData → Bool} {f : PyData → PyData} (hl : TrD K tl σ G (.tuple ds)) (hn : ds.length < 100000)
    (ht : ∀ d ∈ ds, ∀ x G1, Ex G G1 → Rp K G1 d x → TrB tt ((wipe σ [i]).set i (some x)) G1 (p d))
    (he : ∀ d ∈ ds, p d = true → ∀ x G1, Ex G G1 → Rp K G1 d x → TrD K te ((wipe σ [i]).set i (some x)) G1 (f d)) :
    TrM K (tLc (iTup K tl) (gName i) tt te [i]) σ G ((ds.filter p).map f) := fun G1 M H e A Q q => by
  refine hl G1 M H e A _ fun v G2 H2 e2 A2 r => ?_
  obtain ⟨a, xs, rfl, hs, hx⟩ := r
  refine ⟨a, rfl, ⟨xs, A2.g.stt hs⟩, fun D hD => ?_⟩
  refine lc_tup (K := K) (a := a) (xs := xs) (fun j H => ∃ Gj acc, Ex G2 Gj ∧ At Gj (upd M D (.lst acc)) H ∧ RpL K Gj (((ds.take j).filter p).map f) acc) ⟨G2, [], Ex.refl _, A2.nm hD, rfl⟩ ?_ ?_ ?_
  · rintro j H3 _ ⟨Gj, acc, ej, Aj, _⟩
    exact (ej.trans Aj.g).stt hs
  · rintro j x H3 hj ⟨Gj, acc, ej, Aj, rj⟩
    obtain ⟨d, hd, rd⟩ := hx.get hj
    have hm : d ∈ ds := List.mem_of_getElem? hd
    have hk : ds.take (j + 1) = ds.take j ++ [d] := by rw [List.take_add_one, hd]; rfl
    show wipe _ _ = wipe _ _ ∧ _
    refine ⟨wipe_set, ?_⟩
    refine ht d hm x Gj ((e.trans e2).trans ej) (rd.up ej) Gj _ H3 (Ex.refl _) Aj _ fun G4 H4 e4 A4 => ?_
    cases hp : p d with
    | false =>
      refine ⟨G4, acc, ej.trans e4, A4, ?_⟩
      rw [hk, List.filter_append, List.filter_cons, hp]
      simpa using rj.up e4
    | true =>
      refine he d hm hp x G4 ((e.trans e2).trans (ej.trans e4)) (rd.up (ej.trans e4)) G4 _ H4 (Ex.refl _) A4 _ fun v5 G5 H5 e5 A5 r5 => ?_
      refine ⟨acc, A5.m _ _ upd_same, ?_, G5, acc ++ [v5], ej.trans (e4.trans e5), ?_, ?_⟩
      · rw [rj.len, List.length_map]
        refine sz_lt (Nat.lt_of_le_of_lt (Nat.le_trans (List.length_filter_le _ _) ?_) hn)
        rw [List.length_take]
        exact Nat.min_le_right _ _
      · have z := A5.wr (o := .lst (acc ++ [v5])) (upd_same (H := M) (a := D) (o := .lst acc))
        rw [upd_upd] at z
        exact z
      · rw [hk, List.filter_append, List.filter_cons, hp, List.map_append]
        exact (rj.up (e4.trans e5)).snoc r5
  · rintro H3 ⟨Gj, acc, ej, Aj, rj⟩
    have hM : M D = none := A2.mNone hD
    have hl2 : ds.take xs.length = ds := by rw [hx.len, List.take_length]
    rw [hl2] at rj
    exact q D acc _ _ (e2.trans ej) hM (Aj.d _ _ upd_same) Aj rj
end
end Sb

namespace K96
open PySem PySem.Spec PyProof.Rows L2 Sb
local macro_rules | `(tactic| walk_at "ex") => `(tactic| first | exact Ex.refl _ | assumption | (refine' Ex.trans ?_ (by assumption); walk_at "ex"))
local macro_rules | `(tactic| walk_at "rp") => `(tactic| first | assumption | (refine' Rp.up ?e (by assumption); (case e => walk_at "ex")) | exact rfl)
local macro_rules | `(tactic| walk_at "rd") => `(tactic| with_reducible first | exact rd_add | exact rd_sub | exact rd_lt | exact rd_le | exact rd_gt | exact rd_ge | exact rd_eqI | exact rd_neI | exact rd_eqS | exact rd_neS | exact rd_isN | exact rd_ltS | exact rd_inSign | exact rd_eqE)
local macro_rules | `(tactic| walk_at "tr") => `(tactic| first
  | with_reducible exact d_int
  | with_reducible exact d_str
  | with_reducible exact d_bl
  | with_reducible exact d_non
  | with_reducible exact a_nil
  | with_reducible exact b_yes
  | with_reducible exact o_none
  | with_reducible exact d_newD
  | ((with_reducible refine' d_var ?i ?r); (case i => rfl); (case r => walk_at "rp"))
  | ((with_reducible refine' a_cons ?a ?b); (case a => walk_at "tr"); (case b => walk_at "tr"))
  | ((with_reducible refine' a_star ?a ?b); (case a => walk_at "tr"); (case b => walk_at "tr"))
  | ((with_reducible refine' d_isi ?a ?b); (case a => walk_at "tr"); (case b => decide))
  | ((with_reducible refine' d_op ?a ?b ?c); (case a => walk_at "tr"); (case b => walk_at "tr"); (case c => walk_at "rd"))
  | ((with_reducible refine' d_tup ?a ?b); (case a => walk_at "tr"); (case b => first | decide | (simp; done)))
  | ((with_reducible refine' d_lst ?a ?b); (case a => walk_at "tr"); (case b => first | decide | (simp; done)))
  | ((with_reducible refine' o_some ?a); (case a => walk_at "tr"))
  | ((with_reducible refine' b_B ?a); (case a => walk_at "tr"))
  | ((with_reducible refine' b_T ?a); (case a => walk_at "tr"))
  | ((with_reducible refine' b_not ?a); (case a => walk_at "tr"))
  | ((with_reducible refine' v_not ?a); (case a => walk_at "tr"))
  | ((with_reducible refine' b_or ?a ?b); (case a => walk_at "tr"); (case b => intro _; walk_at "tr"))
  | ((with_reducible refine' b_and ?a ?b); (case a => walk_at "tr"); (case b => intro _; walk_at "tr"))
  | ((with_reducible refine' v_or ?a ?b); (case a => walk_at "tr"); (case b => intro _; walk_at "tr"))
  | ((with_reducible refine' v_and ?a ?b); (case a => walk_at "tr"); (case b => intro _; walk_at "tr"))
  | assumption)


def textW (c : CodeD) (x t : Str) : Bool := (chrs t).all fun y => decide (y = x) || decide (y ∈ c.cs.map (·.1))
def dItem (e : Str × List Nat) : PyData := .tuple [.str e.1, .list (dNs e.2)]
structure okItem (c : CodeD) (x : Str) (e : Str × List Nat) : Prop where
  t : textW c x e.1 = true
  sz : e.1.cps.size ≤ 40
  s : okS e.2
structure okEv (c : CodeD) (x : Str) (ev : List (Str × List Nat)) : Prop where
  l1 : 1 ≤ ev.length
  l2 : ev.length ≤ 8
  i : ∀ e ∈ ev, okItem c x e
section
variable {P : Program} {w : World} {K : PySem.W.Frag} {mg : Str → Option Value} {base : Heap}
def R_item : List PyData → PyData → Prop := fun ds r => ∃ (c : CodeD) (x : Str) (e : Str × List Nat), ds = [c.d, .str x, dItem e] ∧ okItem c x e ∧ r = .bool true
theorem F_is_evidence_item (T : Tx K mg) : Fd P w K mg base CX0 3 "is_evidence_item" (PSp K R_item) [] := by
  obtain ⟨fd, F⟩ := T.f_is_evidence_item
  refine ⟨_, fd, ["code", "name", "value"], [], T.g_is_evidence_item, F.kp, F.bindsN fun _ _ _ _ _ _ us hl => match us, hl with | [_, _, _], _ => rfl, .nil, ?_⟩
  refine fnG_of F sc_is_evidence_item (fun vs H Q E h => PSp.len (n := 3) (by rintro _ _ ⟨d, e, f, rfl, _⟩; rfl) h) (fun cdv A outer s H vs Q E hg hr h => ?_)
  obtain ⟨G, M, ds, r, hA, hR, ⟨c, x, e, rfl, ok, rfl⟩, q⟩ := h
  obtain ⟨v0, _, rfl, r0, v1, _, rfl, r1, v2, _, rfl, r2, rfl⟩ := hR
  refine ⟨_, PSs.nox (pss_cons (ps_if (PW.pt (pw_or (pt_not (pt_val (pe_callB call_isi (by rfl) T.n_isinstance (by decide +kernel) (pa_cons (pv 2) (pa_cons (pe_bltn (v := .ty "tuple") (u := .type "tuple") (by rfl) T.n_tuple (by decide +kernel) rfl) pa_nil))))) (pw_or (pt_cmpR op_ne (pe_callB call_len' (by rfl) T.n_len (by decide +kernel) (pa_cons (pv 2) pa_nil)) pe_int (nomark _)) (pw_or1 (pt_not (pt_val (pe_callB call_isi (by rfl) T.n_isinstance (by decide +kernel) (pa_cons (pe_ix ix_tup (pv 2) pe_int (fun _ _ => rfl)) (pa_cons (pe_bltn (v := .ty "str") (u := .type "str") (by rfl) T.n_str (by decide +kernel) rfl) pa_nil))))))))) (pss_one (ps_ret pe_bl)) pss_nil)
    (pss_one (ps_ret (pe_and (pe_callB (cr_all rfl) (by rfl) T.n_all (by decide +kernel) (pa_cons (pe_lc (own := [("sign", 3)]) (g := gName 3) (by rfl) sc_is_evidence_item.nd (pi_str (pe_ix ix_tup (pv 2) pe_int (fun _ _ => rfl))) (blkOk_by (own := [("sign", 3)]) (N := ["code", "name", "value", "sign"]) (sc := defScope s_is_evidence_item) (by decide +kernel)) (fun _ _ _ _ _ => (pg_name (i := 3) sc_is_evidence_item.nd rfl (by first | exact Or.inl rfl | exact Or.inr rfl))) (fun _ _ _ _ _ => pts_nil) (fun _ _ _ _ _ => (pe_or (pe_cmpR op_eq (pv 3) (pv 1) (nomark _)) (pe_one (pe_cmp (pc_din (hu_of hr) (pv 3) (pe_ix (show IxR _ (rIxT K) from ix_tup) (pv 0) pe_int (fun _ _ => rfl))) (by rfl)))))) pa_nil)) (pe_one (pe_cmpR (op_eqR hr.units) (pe_fd (F_fault_of_scan (P := P) (w := w) (base := base) T) hg (hr.mono (by decide)) pass0 (pa_cons (pe_ix ix_tup (pv 2) pe_int (fun _ _ => rfl)) pa_nil)) (pe_lst pa_nil) (nomark _))))))), ?_⟩
  rw [show L2.start ["code", "name", "value", "sign"] [v0, v1, v2] = [some v0, some v1, some v2, none] from rfl]
  try dsimp only [xK]
  refine q_guardF (b_orF (TrB.to (b_not (b_B (d_isi (n := "tuple") (d_var rfl r2)))) rfl) (b_orF (TrB.to (b_T (d_op (d_cb (a_cons (d_var rfl r2) a_nil) rc_lenT) d_int rd_neI)) rfl) (TrB.to (b_not (b_B (d_isi (n := "str") (d_op (d_var rfl r2) d_int (rd_ixT (d := .str e.1) rfl))))) rfl))) hA fun G1 H1 e1 A1 => ?_
  have hsz := ok.sz
  refine s_ret (d := .bool true) (v_andT (TrD.to (d_cb (a_cons (TrD.to (d_lcS (z := e.1) (p := fun _ => true) (f := fun y => .bool (decide (y = x) || decide (y ∈ c.cs.map (·.1)))) (d_op (d_var rfl (r2.up e1)) d_int (rd_ixT (d := .str e.1) rfl)) (by omega) (fun _ _ _ _ => b_yes) fun y hy _ G2 e2 => ?_) (d2 := .list (((chrs e.1).map fun y => decide (y = x) || decide (y ∈ c.cs.map (·.1))).map .bool)) (by rw [filt_true, List.map_map]; rfl)) a_nil) rc_all) ?_) ?_) A1 (q.mono e1)
  · refine v_or (d_op (d_var rfl (d := .str y) rfl) (d_var rfl (r1.up (e1.trans e2))) rd_eqS) fun _ => ?_
    refine TrD.to (v_din (K := K) (kvs := chD c.cs) (x := y) (d_var rfl (d := .str y) rfl) (d_op (d_var rfl (r0.up (e1.trans e2))) d_int (rd_ixT rfl))) ?_
    rw [look_some, chD_keys]
  · rw [all_map]
    have := ok.t
    unfold textW at this
    rw [this]
  · refine TrD.to (d_op (d_call0 (a_cons (d_op (d_var rfl (r2.up e1)) d_int (rd_ixT (d := .list (dNs e.2)) rfl)) a_nil) ⟨.list (dNs e.2), rfl, fun ys hy => by cases hy; rw [dNs_len]; have := ok.s.2.1; omega, rfl⟩) (d_lst a_nil) (rd_eqR ?_ rfl)) ?_
    · rw [dNs_ints, fScan_ok ok.s.scan]
      rfl
    · rw [dNs_ints, fScan_ok ok.s.scan, eqv_nil]
      rfl
def dEv (ev : List (Str × List Nat)) : PyData := .list (ev.map dItem)
def R_evidence : List PyData → PyData → Prop := fun ds r => ∃ (c : CodeD) (x : Str) (ev : List (Str × List Nat)), ds = [c.d, .str x, dEv ev] ∧ okEv c x ev ∧ r = .none
theorem F_require_evidence (T : Tx K mg) : Fd P w K mg base CX0 4 "require_evidence" (PSp K R_evidence) [] := by
  obtain ⟨fd, F⟩ := T.f_require_evidence
  refine ⟨_, fd, ["code", "name", "value"], [], T.g_require_evidence, F.kp, F.bindsN fun _ _ _ _ _ _ us hl => match us, hl with | [_, _, _], _ => rfl, .nil, ?_⟩
  refine fnG_of F sc_require_evidence (fun vs H Q E h => PSp.len (n := 3) (by rintro _ _ ⟨d, e, f, rfl, _⟩; rfl) h) (fun cdv A outer s H vs Q E hg hr h => ?_)
  obtain ⟨G, M, ds, r, hA, hR, ⟨c, x, ev, rfl, ok, rfl⟩, q⟩ := h
  obtain ⟨v0, _, rfl, r0, v1, _, rfl, r1, v2, _, rfl, r2, rfl⟩ := hR
  refine ⟨_, PSs.nox (pss_cons (ps_if (PW.pt (pw_or (pt_not (pt_val (pe_callB call_isi (by rfl) T.n_isinstance (by decide +kernel) (pa_cons (pv 2) (pa_cons (pe_bltn (v := .ty "list") (u := .type "list") (by rfl) T.n_list (by decide +kernel) rfl) pa_nil))))) (pw_or1 (pt_not (pt_chain op_le op_le pe_int (pe_callB call_len' (by rfl) T.n_len (by decide +kernel) (pa_cons (pv 2) pa_nil)) (pe_glob (v := .int 8) (by rfl) T.c_MOST_EVIDENCE.choose_spec ⟨_, rfl⟩)))))) (pss_one ps_never) pss_nil)
    (pss_one (ps_for PassesOwn.never rfl (pi_enum (by rfl) T.n_enumerate (pa_cons (pv 2) pa_nil)) (pg_tup (by rfl) (pgs_cons (pg_name (i := 3) sc_require_evidence.nd rfl (by first | exact Or.inl rfl | exact Or.inr rfl)) (pgs_cons (pg_name (i := 4) sc_require_evidence.nd rfl (by first | exact Or.inl rfl | exact Or.inr rfl)) pgs_nil))) (pss_one (ps_if (pt_not (pt_val (pe_fd (F_is_evidence_item (P := P) (w := w) (base := base) T) hg (hr.mono (by decide)) pass0 (pa_cons (pv 0) (pa_cons (pv 1) (pa_cons (pv 4) pa_nil)))))) (pss_one ps_never) pss_nil))))), ?_⟩
  rw [show L2.start ["code", "name", "value", "index", "item"] [v0, v1, v2] = [some v0, some v1, some v2, none, none] from rfl]
  try dsimp only [xK]
  have l1 := ok.l1
  have l2 := ok.l2
  refine q_guardF (b_orF (TrB.to (b_not (b_B (d_isi (n := "list") (d_var rfl r2)))) rfl) (TrB.to (b_not (b_B (d_chain d_int (d_cb (a_cons (d_var rfl r2) a_nil) rc_lenL) rd_le (fun _ => d_int) fun _ => rd_le))) ?_)) hA fun G1 H1 e1 A1 => ?_
  · show (!(decide ((1 : Int) ≤ ((ev.map dItem).length : Int)) && decide (((ev.map dItem).length : Int) ≤ 8))) = false
    rw [List.length_map, decide_eq_true (by omega), decide_eq_true (by omega)]
    rfl
  refine s_forEI (fun k σ G2 M2 => ∃ x3 x4, M2 = M ∧ σ = [some v0, some v1, some v2, x3, x4]) (d_var rfl (r2.up e1)) A1 (fun e h => h) ⟨none, none, rfl, rfl⟩ (fun k d hd y σ1 G2 M2 H2 e2 A2 hI ry Nx hN => ?_) fun σ1 G2 M2 H2 e2 A2 hI => ?_
  · obtain ⟨x3, x4, rfl, rfl⟩ := hI
    rw [List.getElem?_map] at hd
    obtain ⟨it, hit, rfl⟩ := Option.map_eq_some_iff.mp hd
    refine s_ifF (TrB.to (b_not (b_B (d_call0 (a_cons (d_var rfl (r0.up (e1.trans e2))) (a_cons (d_var rfl (r1.up (e1.trans e2))) (a_cons (d_var rfl ry) a_nil))) ⟨c, x, it, rfl, ok.i it (List.mem_of_getElem? hit), rfl⟩))) rfl) A2 fun G3 H3 e3 A3 => ?_
    exact s_next (hN _ G3 _ H3 e3 A3 ⟨_, _, rfl, rfl⟩)
  · obtain ⟨x3, x4, rfl, rfl⟩ := hI
    exact q _ _ _ (e1.trans e2) A2 rfl
structure okAsk (c : CodeD) (x : Str) (m : Nat) (ev : List (Str × List Nat)) (p q : Nat) : Prop where
  cd : c.ok
  nm : isNameS x = true
  new : x ∉ c.cs.map (·.1)
  few : c.cs.length ≤ 9
  m1 : 1 ≤ m
  m3 : m ≤ 3
  evd : okEv c x ev
  f : okF p q
def R_asked : List PyData → PyData → Prop := fun ds r => ∃ (c : CodeD) (x : Str) (m : Nat) (ev : List (Str × List Nat)) (p q : Nat), ds = [c.d, .str x, dN m, dEv ev, dF p q] ∧ okAsk c x m ev p q ∧ r = .none
theorem F_require_asked (T : Tx K mg) : Fd P w K mg base CX0 7 "require_asked" (PSp K R_asked) [] := by
  obtain ⟨fd, F⟩ := T.f_require_asked
  refine ⟨_, fd, ["code", "name", "many", "evidence", "factor"], [], T.g_require_asked, F.kp, F.bindsN fun _ _ _ _ _ _ us hl => match us, hl with | [_, _, _, _, _], _ => rfl, .nil, ?_⟩
  refine fnG_of F sc_require_asked (fun vs H Q E h => PSp.len (n := 5) (by rintro _ _ ⟨d, e, f, g, h, i, rfl, _⟩; rfl) h) (fun cdv A outer s H vs Q E hg hr h => ?_)
  obtain ⟨G, M, ds, r, hA, hR, ⟨c, x, m, ev, fp, fq, rfl, ok, rfl⟩, q⟩ := h
  obtain ⟨v0, _, rfl, r0, v1, _, rfl, r1, v2, _, rfl, r2, v3, _, rfl, r3, v4, _, rfl, r4, rfl⟩ := hR
  refine ⟨_, PSs.nox (pss_cons (ps_expr (pe_fd (F_require_code (P := P) (w := w) (base := base) T) hg (hr.mono (by decide)) pass0 (pa_cons (pv 0) pa_nil)))
    (pss_cons (ps_if (PW.pt (pw_or (pt_not (pt_val (pe_fd (F_is_name (P := P) (w := w) (base := base) T) hg (hr.mono (by decide)) pass0 (pa_cons (pv 1) pa_nil)))) (pw_or1 (pt_cmp (pc_din (hu_of hr) (pv 1) (pe_ix ix_tup (pv 0) pe_int (fun _ _ => rfl))) (by rfl))))) (pss_one ps_never) pss_nil)
    (pss_cons (ps_if (pt_not (pt_val (pe_fd (F_is_integer3 (P := P) (w := w) (base := base) T) hg (hr.mono (by decide)) pass0 (pa_cons (pv 2) (pa_cons pe_int (pa_cons (pe_glob (v := .int 6) (by rfl) T.c_MOST_WIDTHS.choose_spec ⟨_, rfl⟩) pa_nil)))))) (pss_one ps_never) pss_nil)
    (pss_cons (ps_expr (pe_fd (F_require_evidence (P := P) (w := w) (base := base) T) hg (hr.mono (by decide)) pass0 (pa_cons (pv 0) (pa_cons (pv 1) (pa_cons (pv 3) pa_nil)))))
    (pss_one (ps_expr (pe_fd (F_require_factor (P := P) (w := w) (base := base) T) hg (hr.mono (by decide)) pass0 (pa_cons (pv 4) pa_nil)))))))), ?_⟩
  rw [show L2.start ["code", "name", "many", "evidence", "factor"] [v0, v1, v2, v3, v4] = [some v0, some v1, some v2, some v3, some v4] from rfl]
  try dsimp only [xK]
  have m1 := ok.m1
  have m3 := ok.m3
  refine q_drop (d_call0 (a_cons (d_var rfl r0) a_nil) ⟨c, rfl, ok.cd, rfl⟩) hA fun G1 H1 e1 A1 => ?_
  refine q_guardF (b_orF (TrB.to (b_not (b_B (d_call0 (a_cons (d_var rfl (r1.up e1)) a_nil) ⟨.str x, rfl, fun y hy => by cases hy; rw [name_len ok.nm]; decide, rfl⟩))) (by show (!isNameS x) = false; rw [ok.nm]; rfl)) (TrB.to (b_din (K := K) (kvs := chD c.cs) (x := x) (d_var rfl (r1.up e1)) (d_op (d_var rfl (r0.up e1)) d_int (rd_ixT rfl))) (by rw [look_some, chD_keys, decide_eq_false ok.new]))) A1 fun G2 H2 e2 A2 => ?_
  refine q_guardF (TrB.to (b_not (b_B (d_call0 (a_cons (d_var rfl (r2.up (e1.trans e2))) (a_cons d_int (a_cons d_int a_nil))) ⟨dN m, some 1, some 6, rfl, rfl⟩))) ?_) A2 fun G3 H3 e3 A3 => ?_
  · show (!(decide ((1 : Int) ≤ (m : Int)) && decide ((m : Int) ≤ 6))) = false
    rw [decide_eq_true (by omega), decide_eq_true (by omega)]
    rfl
  have e03 := (e1.trans e2).trans e3
  refine q_drop (d_call0 (a_cons (d_var rfl (r0.up e03)) (a_cons (d_var rfl (r1.up e03)) (a_cons (d_var rfl (r3.up e03)) a_nil))) ⟨c, x, ev, rfl, ok.evd, rfl⟩) A3 fun G4 H4 e4 A4 => ?_
  refine s_drop (d_call0 (a_cons (d_var rfl (r4.up (e03.trans e4))) a_nil) ⟨fp, fq, rfl, ok.f, rfl⟩) A4 fun G5 H5 e5 A5 => ?_
  exact q _ _ _ ((e03.trans e4).trans e5) A5 rfl
end
end K96

namespace Sb
open PySem PySem.Spec PyProof.Rows L2
section
variable {K : PySem.W.Frag} {σ : L2.St} {G M H : Hp} {ta te : TE} {i : Nat}
/-- [e for i in range(n)] -/
theorem d_lcR {n : Nat} {f : Nat → PyData} (h : TrD K ta σ G (.int (n : Int))) (hn : n < 100000) (he : ∀ k, k < n → ∀ G1, Ex G G1 → TrD K te ((wipe σ [i]).set i (some (.int (k : Int)))) G1 (f k)) :
    TrD K (tLc (iRng1 (tCons ta tNil)) (gName i) tYes te [i]) σ G (.list ((List.range n).map f)) := fun G1 M H e A Q q => by
  refine h G1 M H e A _ fun v G2 H2 e2 A2 rv => ?_
  refine ⟨(n : Int), by rw [show v = V.int n from rv], by omega, by omega, fun D hD => ?_⟩
  have hMD : M D = none := A2.mNone hD
  rw [Int.toNat_natCast]
  refine lc_range (lo := 0) (n := n) (fun t H3 => ∃ Gj acc, Ex G2 Gj ∧ At Gj (upd M D (.lst acc)) H3 ∧ RpL K Gj ((List.range t).map f) acc) ⟨G2, [], Ex.refl _, A2.nm hD, rfl⟩ ?_ ?_
  · rintro t H3 ht ⟨Gj, acc, ej, Aj, rj⟩
    refine ⟨wipe_set, ?_⟩
    have e0 : (0 : Int) + (t : Int) = t := Int.zero_add _
    rw [e0]
    refine he t ht Gj ((e.trans e2).trans ej) Gj _ H3 (Ex.refl _) Aj _ fun v5 G5 H5 e5 A5 r5 => ?_
    refine ⟨acc, A5.m _ _ upd_same, ?_, G5, acc ++ [v5], ej.trans e5, ?_, ?_⟩
    · rw [rj.len, List.length_map, List.length_range]
      exact sz_lt (by omega)
    · have z := A5.wr (o := .lst (acc ++ [v5])) (upd_same (H := M) (a := D) (o := .lst acc))
      rw [upd_upd] at z
      exact z
    · rw [List.range_succ, List.map_append]
      exact (rj.up e5).snoc r5
  · rintro H3 ⟨Gj, acc, ej, Aj, rj⟩
    have hm := upd_same (H := M) (a := D) (o := HO.lst acc)
    exact q _ _ _ ((e2.trans ej).trans (Aj.frzG hm)) (Aj.frz hm (Ex.new hMD) hMD) ⟨D, acc, rfl, upd_same, rj.up (Aj.frzG hm)⟩
end
end Sb

namespace K96
open PySem PySem.Spec PyProof.Rows L2 Sb
local macro_rules | `(tactic| walk_at "ex") => `(tactic| first | exact Ex.refl _ | assumption | (refine' Ex.trans ?_ (by assumption); walk_at "ex"))
local macro_rules | `(tactic| walk_at "rp") => `(tactic| first | assumption | (refine' Rp.up ?e (by assumption); (case e => walk_at "ex")) | exact rfl)
local macro_rules | `(tactic| walk_at "rd") => `(tactic| with_reducible first | exact rd_add | exact rd_sub | exact rd_lt | exact rd_le | exact rd_gt | exact rd_ge | exact rd_eqI | exact rd_neI | exact rd_eqS | exact rd_neS | exact rd_isN | exact rd_ltS | exact rd_inSign | exact rd_eqE)
local macro_rules | `(tactic| walk_at "tr") => `(tactic| first
  | with_reducible exact d_int
  | with_reducible exact d_str
  | with_reducible exact d_bl
  | with_reducible exact d_non
  | with_reducible exact a_nil
  | with_reducible exact b_yes
  | with_reducible exact o_none
  | with_reducible exact d_newD
  | ((with_reducible refine' d_var ?i ?r); (case i => rfl); (case r => walk_at "rp"))
  | ((with_reducible refine' a_cons ?a ?b); (case a => walk_at "tr"); (case b => walk_at "tr"))
  | ((with_reducible refine' a_star ?a ?b); (case a => walk_at "tr"); (case b => walk_at "tr"))
  | ((with_reducible refine' d_isi ?a ?b); (case a => walk_at "tr"); (case b => decide))
  | ((with_reducible refine' d_op ?a ?b ?c); (case a => walk_at "tr"); (case b => walk_at "tr"); (case c => walk_at "rd"))
  | ((with_reducible refine' d_tup ?a ?b); (case a => walk_at "tr"); (case b => first | decide | (simp; done)))
  | ((with_reducible refine' d_lst ?a ?b); (case a => walk_at "tr"); (case b => first | decide | (simp; done)))
  | ((with_reducible refine' o_some ?a); (case a => walk_at "tr"))
  | ((with_reducible refine' b_B ?a); (case a => walk_at "tr"))
  | ((with_reducible refine' b_T ?a); (case a => walk_at "tr"))
  | ((with_reducible refine' b_not ?a); (case a => walk_at "tr"))
  | ((with_reducible refine' v_not ?a); (case a => walk_at "tr"))
  | ((with_reducible refine' b_or ?a ?b); (case a => walk_at "tr"); (case b => intro _; walk_at "tr"))
  | ((with_reducible refine' b_and ?a ?b); (case a => walk_at "tr"); (case b => intro _; walk_at "tr"))
  | ((with_reducible refine' v_or ?a ?b); (case a => walk_at "tr"); (case b => intro _; walk_at "tr"))
  | ((with_reducible refine' v_and ?a ?b); (case a => walk_at "tr"); (case b => intro _; walk_at "tr"))
  | assumption)


def wL : List Nat := [1, 2, 3, 4]
abbrev Cell := Option Nat × List Nat
def dO (o : Option Nat) : PyData := match o with
  | some i => dN i
  | none => .none
def dCell (e : Cell) : PyData := .tuple [dO e.1, .list (dNs e.2)]
def knownC (ws : List Int) : List Cell := (natsL ws).map fun n => (none, [n])
def freeC (m : Nat) : List Cell := (List.range m).map fun i => (some i, wL)
def signC (c : CodeD) (m : Nat) (y : Str) : List Cell := (if y ∈ c.cs.map (·.1) then knownC (wsOf c.cs y) else freeC m) ++ knownC c.bt
def cellsK (c : CodeD) (m : Nat) (t : Str) (k : Nat) : List Cell := knownC (c.st ++ c.bt) ++ ((chrs t).take k).flatMap (signC c m)
def cellsL (c : CodeD) (m : Nat) (t : Str) : List Cell := knownC (c.st ++ c.bt) ++ (chrs t).flatMap (signC c m) ++ knownC c.sp
section
variable {P : Program} {w : World} {K : PySem.W.Frag} {mg : Str → Option Value} {base : Heap}
def R_cells : List PyData → PyData → Prop := fun ds r => ∃ (c : CodeD) (m : Nat) (t : Str), ds = [c.d, dN m, .str t] ∧ c.ok ∧ m ≤ 3 ∧ t.cps.size ≤ 40 ∧ r = .list ((cellsL c m t).map dCell)
theorem F_cells_of (T : Tx K mg) : Fd P w K mg base CX0 1 "cells_of" (PSp K R_cells) [] := by
  obtain ⟨fd, F⟩ := T.f_cells_of
  refine ⟨_, fd, ["code", "many", "text"], [], T.g_cells_of, F.kp, F.bindsN fun _ _ _ _ _ _ us hl => match us, hl with | [_, _, _], _ => rfl, .nil, ?_⟩
  refine fnG_of F sc_cells_of (fun vs H Q E h => PSp.len (n := 3) (by rintro _ _ ⟨d, e, f, rfl, _⟩; rfl) h) (fun cdv A outer s H vs Q E hg hr h => ?_)
  obtain ⟨G, M, ds, r, hA, hR, ⟨c, m, t, rfl, ok, hm, hz, rfl⟩, q⟩ := h
  obtain ⟨v0, _, rfl, r0, v1, _, rfl, r1, v2, _, rfl, r2, rfl⟩ := hR
  refine ⟨_, PSs.nox (pss_cons (ps_asg (pv 0) (pg_tup (by rfl) (pgs_cons (pg_name (i := 3) sc_cells_of.nd rfl (by first | exact Or.inl rfl | exact Or.inr rfl)) (pgs_cons (pg_name (i := 4) sc_cells_of.nd rfl (by first | exact Or.inl rfl | exact Or.inr rfl)) (pgs_cons (pg_name (i := 5) sc_cells_of.nd rfl (by first | exact Or.inl rfl | exact Or.inr rfl)) (pgs_cons (pg_name (i := 6) sc_cells_of.nd rfl (by first | exact Or.inl rfl | exact Or.inr rfl)) pgs_nil))))))
    (pss_cons (ps_setLc (i := 7) (own := [("width", 9)]) (g := gName 9) (by rfl) sc_cells_of.nd rfl rfl (sw_true rfl rfl rfl (by decide +kernel)) (pi_tup (pe_op op_catA (pv 3) (pv 5))) (blkOk_by (own := [("width", 9)]) (N := ["code", "many", "text", "start", "characters", "between", "stop", "found", "sign", "width", "index"]) (sc := defScope s_cells_of) (by decide +kernel)) (fun _ _ _ _ _ => (pg_name (i := 9) sc_cells_of.nd rfl (by first | exact Or.inl rfl | exact Or.inr rfl))) (fun _ _ _ _ _ => pts_nil) (fun _ _ _ _ _ => (pe_tup (pa_cons pe_non (pa_cons (pe_lst (pa_cons (pv 9) pa_nil)) pa_nil)))))
    (pss_cons (ps_for PassesOwn.never rfl (pi_str (pv 2)) (pg_name (i := 8) sc_cells_of.nd rfl (by first | exact Or.inl rfl | exact Or.inr rfl)) (pss_cons (ps_if (pt_cmp (pc_din (hu_of hr) (pv 8) (pv 4)) (by rfl)) (pss_one (ps_expr (pe_bm PySem.F.plainAttrs_list PySem.F.slot_list_extend PySem.F.type_list_extend mt_extend (pv 7) (pa_cons (pe_lc (own := [("width", 9)]) (g := gName 9) (by rfl) sc_cells_of.nd (pi_tup (pe_dget (hu_of hr) (pv 4) (pv 8) (fun _ _ => rfl))) (blkOk_by (own := [("width", 9)]) (N := ["code", "many", "text", "start", "characters", "between", "stop", "found", "sign", "width", "index"]) (sc := defScope s_cells_of) (by decide +kernel)) (fun _ _ _ _ _ => (pg_name (i := 9) sc_cells_of.nd rfl (by first | exact Or.inl rfl | exact Or.inr rfl))) (fun _ _ _ _ _ => pts_nil) (fun _ _ _ _ _ => (pe_tup (pa_cons pe_non (pa_cons (pe_lst (pa_cons (pv 9) pa_nil)) pa_nil))))) pa_nil)))) (pss_one (ps_expr (pe_bm PySem.F.plainAttrs_list PySem.F.slot_list_extend PySem.F.type_list_extend mt_extend (pv 7) (pa_cons (pe_lc (own := [("index", 10)]) (g := gName 10) (by rfl) sc_cells_of.nd (pi_range1 (by rfl) T.n_range (pa_cons (pv 1) pa_nil)) (blkOk_by (own := [("index", 10)]) (N := ["code", "many", "text", "start", "characters", "between", "stop", "found", "sign", "width", "index"]) (sc := defScope s_cells_of) (by decide +kernel)) (fun _ _ _ _ _ => (pg_name (i := 10) sc_cells_of.nd rfl (by first | exact Or.inl rfl | exact Or.inr rfl))) (fun _ _ _ _ _ => pts_nil) (fun _ _ _ _ _ => (pe_tup (pa_cons (pv 10) (pa_cons (pe_callTy (show CallR _ (.type "list") (Sb.rListOf K) from call_listOf) (by rfl) T.n_list (by decide +kernel) (pa_cons (pe_glob (v := .ref (He.ga K "WIDTHS")) (by rfl) T.gt_WIDTHS rfl) pa_nil)) pa_nil))))) pa_nil))))) (pss_one (ps_expr (pe_bm PySem.F.plainAttrs_list PySem.F.slot_list_extend PySem.F.type_list_extend mt_extend (pv 7) (pa_cons (pe_lc (own := [("width", 9)]) (g := gName 9) (by rfl) sc_cells_of.nd (pi_tup (pv 5)) (blkOk_by (own := [("width", 9)]) (N := ["code", "many", "text", "start", "characters", "between", "stop", "found", "sign", "width", "index"]) (sc := defScope s_cells_of) (by decide +kernel)) (fun _ _ _ _ _ => (pg_name (i := 9) sc_cells_of.nd rfl (by first | exact Or.inl rfl | exact Or.inr rfl))) (fun _ _ _ _ _ => pts_nil) (fun _ _ _ _ _ => (pe_tup (pa_cons pe_non (pa_cons (pe_lst (pa_cons (pv 9) pa_nil)) pa_nil))))) pa_nil))))))
    (pss_one (ps_ret (pe_op op_cat (pv 7) (pe_lc (own := [("width", 9)]) (g := gName 9) (by rfl) sc_cells_of.nd (pi_tup (pv 6)) (blkOk_by (own := [("width", 9)]) (N := ["code", "many", "text", "start", "characters", "between", "stop", "found", "sign", "width", "index"]) (sc := defScope s_cells_of) (by decide +kernel)) (fun _ _ _ _ _ => (pg_name (i := 9) sc_cells_of.nd rfl (by first | exact Or.inl rfl | exact Or.inr rfl))) (fun _ _ _ _ _ => pts_nil) (fun _ _ _ _ _ => (pe_tup (pa_cons pe_non (pa_cons (pe_lst (pa_cons (pv 9) pa_nil)) pa_nil))))))))))), ?_⟩
  rw [show L2.start ["code", "many", "text", "start", "characters", "between", "stop", "found", "sign", "width", "index"] [v0, v1, v2] = [some v0, some v1, some v2, none, none, none, none, none, none, none, none] from rfl]
  try dsimp only [xK]
  have l1 := ok.st.2.1
  have l2 := ok.bt.2.1
  have l3 := ok.sp.2.1
  have hcl : (chrs t).length ≤ 40 := by rw [chrs_len]; exact hz
  -- [(None, [width]) for width in a tuple]
  have known : ∀ {σ : L2.St} {G1 : Hp} {tl : TE} {ws : List Int}, (∀ n ∈ ws, 1 ≤ n) → ws.length < 100000 → 9 < σ.length → TrD K tl σ G1 (.tuple (dInts ws)) →
      TrM K (tLc (iTup K tl) (gName 9) tYes (tTup (tCons (tC V.non) (tCons (tLst (tCons (tVar 9) tNil)) tNil))) [9]) σ G1 ((knownC ws).map dCell) ∧
      TrD K (tLc (iTup K tl) (gName 9) tYes (tTup (tCons (tC V.non) (tCons (tLst (tCons (tVar 9) tNil)) tNil))) [9]) σ G1 (.list ((knownC ws).map dCell)) := by
    intro σ G1 tl ws h1 h2 h9 hl
    have e : ((dInts ws).filter fun _ => true).map (fun d => PyData.tuple [.none, .list [d]]) = (knownC ws).map dCell := by
      rw [filt_true, natsL_d h1]
      unfold knownC dNs
      rw [List.map_map, List.map_map]
      rfl
    have he : ∀ d ∈ dInts ws, (fun _ : PyData => true) d = true → ∀ (x : V) G2, Ex G1 G2 → Rp K G2 d x → TrD K (tTup (tCons (tC V.non) (tCons (tLst (tCons (tVar 9) tNil)) tNil))) ((wipe σ [9]).set 9 (some x)) G2 (.tuple [.none, .list [d]]) := fun d _ _ x G2 _ rx => by
      have hi : ((wipe σ [9]).set 9 (some x))[9]? = some (some x) := by
        show ((σ.set 9 none).set 9 (some x))[9]? = _
        rw [List.set_set, List.getElem?_set_self h9]
      exact d_tup (a_cons d_non (a_cons (d_lst (a_cons (d_var hi rx) a_nil) (by show 1 ≤ 100000; decide)) a_nil)) (by show 2 ≤ 100000; decide)
    refine ⟨TrM.to (m_lcT (p := fun _ => true) hl (by rw [dInts_len]; exact h2) (fun _ _ _ _ _ _ => b_yes) he) e, TrD.to (d_lcT (p := fun _ => true) hl (by rw [dInts_len]; exact h2) (fun _ _ _ _ _ _ => b_yes) he) (by rw [e])⟩
  have klen : ∀ ws : List Int, ((knownC ws).map dCell).length = ws.length := fun ws => by unfold knownC natsL; rw [List.length_map, List.length_map, List.length_map]
  refine q_unpack (d_var rfl r0) rfl hA ?_
  rintro _ G1 H1 e1 A1 ⟨v3, _, rfl, r3, v4, _, rfl, r4, v5, _, rfl, r5, v6, _, rfl, r6, rfl⟩
  refine ⟨v3, _, rfl, v4, _, rfl, v5, _, rfl, v6, _, rfl, rfl, ?_⟩
  have hsb : ∀ n ∈ c.st ++ c.bt, 1 ≤ n := fun n hn => by
    rcases List.mem_append.mp hn with z | z
    · exact (ok.st.2.2 n z).1
    · exact (ok.bt.2.2 n z).1
  refine q_newM (known hsb (by rw [List.length_append]; omega) (by show 9 < 11; decide) (TrD.to (d_op (d_var rfl r3) (d_var rfl r5) (rd_catA (by rw [dInts_len, dInts_len]; omega))) (by rw [dInts_app]))).1 A1 fun p xs G2 H2 e2 pM pG A2 rx => ?_
  have slen : ∀ y ∈ chrs t, ((signC c m y).map dCell).length ≤ 8 := fun y hy => by
    unfold signC
    rw [List.map_append, List.length_append, klen]
    split
    · rename_i h
      rw [klen]
      have := (wsOf_of ok h).2.1.2.1
      omega
    · unfold freeC
      rw [List.length_map, List.length_map, List.length_range]
      omega
  have clen : ∀ k, ((cellsK c m t k).map dCell).length ≤ 8 + k * 8 := by
    intro k
    have h : ∀ l : List Str, (∀ y ∈ l, y ∈ chrs t) → ((l.flatMap (signC c m)).map dCell).length ≤ l.length * 8 := fun l => by
      induction l with
      | nil => intro _; exact Nat.le_refl _
      | cons y l ih =>
        intro hl
        have z1 := slen y (hl y (List.mem_cons_self ..))
        have z2 := ih fun z hz => hl z (List.mem_cons_of_mem _ hz)
        rw [List.flatMap_cons, List.map_append, List.length_append, List.length_cons]
        omega
    have h1 := h _ fun y hy => List.mem_of_mem_take (i := k) hy
    unfold cellsK
    rw [List.map_append, List.length_append, klen, List.length_append]
    have h4 : ((chrs t).take k).length ≤ k := by rw [List.length_take]; exact Nat.min_le_left _ _
    have : ((chrs t).take k).length * 8 ≤ k * 8 := Nat.mul_le_mul_right _ h4
    omega
  refine s_seq (s_forSI (fun k σ G' M' => ∃ ys x8, σ = [some v0, some v1, some v2, some v3, some v4, some v5, some v6, some (.ref p), x8, none, none] ∧ M' = upd M p (.lst ys) ∧ RpL K G' ((cellsK c m t k).map dCell) ys) (d_var rfl (r2.up (e1.trans e2))) A2 ?_ ⟨xs, none, rfl, rfl, ?_⟩ (fun k x hk σ1 G3 M1 H3 e3 A3 hI Nx hN => ?_) fun σ1 G3 M1 H3 e3 A3 hI => ?_)
  · rintro k σ1 Ga Gb M1 e ⟨ys, x8, h1, h2, h3⟩
    exact ⟨ys, x8, h1, h2, h3.up e⟩
  · unfold cellsK
    rw [List.take_zero, List.flatMap_nil, List.append_nil]
    exact rx
  · obtain ⟨ys, x8, rfl, rfl, ry⟩ := hI
    have hkl : k < (chrs t).length := (List.getElem?_eq_some_iff.mp hk).1
    have hys : ys.length ≤ 8 + k * 8 := by rw [ry.len]; exact clen k
    have r4' := r4.up (e2.trans e3)
    have r5' := r5.up (e2.trans e3)
    have r1' := r1.up ((e1.trans e2).trans e3)
    have hsucc : cellsK c m t (k + 1) = cellsK c m t k ++ signC c m x := by
      unfold cellsK
      rw [List.take_add_one, hk]
      show _ ++ (((chrs t).take k ++ [x]).flatMap _) = _
      rw [List.flatMap_append, List.flatMap_cons, List.flatMap_nil, List.append_nil, List.append_assoc]
    have fin : ∀ (G4 H4 : Hp) (y1 : List V) (cs1 : List Cell), Ex G3 G4 → At G4 (upd M p (.lst (ys ++ y1))) H4 → RpL K G4 (cs1.map dCell) y1 → cs1.length ≤ 6 → signC c m x = cs1 ++ knownC c.bt →
        tDrop (tBM K "list" rExtend (tVar 7) (tCons (tLc (iTup K (tVar 5)) (gName 9) tYes (tTup (tCons (tC V.non) (tCons (tLst (tCons (tVar 9) tNil)) tNil))) [9]) tNil)) { nx := Nx, ct := Nx, bk := (fun σ H => tRet (tOp rCat (tVar 7) (tLc (iTup K (tVar 6)) (gName 9) tYes (tTup (tCons (tC V.non) (tCons (tLst (tCons (tVar 9) tNil)) tNil))) [9])) { nx := fun x H' => Q V.non H', rt := Q } σ H), rt := Q }
          [some v0, some v1, some v2, some v3, some v4, some v5, some v6, some (.ref p), some (.str x), none, none] H4 := by
      intro G4 H4 y1 cs1 e4 A4 s1 hc1 hsg
      have hy1 : y1.length = cs1.length := by rw [s1.len, List.length_map]
      refine s_extL (p := p) rfl upd_same (known (fun n hn => (ok.bt.2.2 n hn).1) (by omega) (by show 9 < 11; decide) (d_var rfl (r5'.up e4))).2 (by rw [klen, List.length_append]; omega) A4 fun y2 G5 H5 e5 A5 s2 => ?_
      rw [upd_upd] at A5
      refine hN _ G5 _ H5 (e4.trans e5) A5 ⟨_, _, rfl, rfl, ?_⟩
      rw [hsucc, hsg, List.map_append, List.map_append, ← List.append_assoc]
      exact ((ry.up (e4.trans e5)).app (s1.up e5)).app s2
    refine s_seq (s_if (b_din (K := K) (kvs := chD c.cs) (x := x) (d_var rfl (d := .str x) rfl) (d_var rfl r4')) A3 (fun hb G4 H4 e4 A4 => ?_) fun hb G4 H4 e4 A4 => ?_)
    · rw [look_some, chD_keys] at hb
      have hb := of_decide_eq_true hb
      have z := wsOf_of ok hb
      have zl := z.2.1.2.1
      refine s_extL (p := p) rfl upd_same (known (fun n hn => (z.2.1.2.2 n hn).1) (by omega) (by show 9 < 11; decide) (d_dget (d_var rfl (r4'.up e4)) (d_var (K := K) rfl (d := .str x) rfl) z.2.2)).2 (by rw [klen]; omega) A4 fun y1 G5 H5 e5 A5 s1 => ?_
      rw [upd_upd] at A5
      refine fin G5 H5 y1 (knownC (wsOf c.cs x)) (e4.trans e5) A5 s1 (by have := klen (wsOf c.cs x); rw [List.length_map] at this; omega) ?_
      unfold signC
      rw [if_pos hb]
    · rw [look_some, chD_keys] at hb
      have hb := of_decide_eq_false hb
      have hfree : TrD K (tLc (iRng1 (tCons (tVar 1) tNil)) (gName 10) tYes (tTup (tCons (tVar 10) (tCons (tCB (rListOf K) (tCons (tC (V.ref (He.ga K "WIDTHS"))) tNil)) tNil))) [10]) [some v0, some v1, some v2, some v3, some v4, some v5, some v6, some (.ref p), some (.str x), none, none] G4 (.list ((freeC m).map dCell)) := by
        refine TrD.to (d_lcR (n := m) (f := fun i => .tuple [dN i, .list (dNs wL)]) (d_var rfl (r1'.up e4)) (by omega) fun j hj G5 e5 => ?_) ?_
        · exact d_tup (a_cons (d_var rfl (d := dN j) rfl) (a_cons (TrD.to (d_cb (a_cons (d_c (rp_tupB T.tu_WIDTHS G5)) a_nil) rc_listT) rfl) a_nil)) (by show 2 ≤ 100000; decide)
        · unfold freeC
          rw [List.map_map]
          rfl
      refine s_extL (p := p) rfl upd_same hfree (by unfold freeC; rw [List.length_map, List.length_map, List.length_range]; omega) A4 fun y1 G5 H5 e5 A5 s1 => ?_
      rw [upd_upd] at A5
      refine fin G5 H5 y1 (freeC m) (e4.trans e5) A5 s1 (by unfold freeC; rw [List.length_map, List.length_range]; omega) ?_
      unfold signC
      rw [if_neg hb]
  · obtain ⟨ys, x8, rfl, rfl, ry⟩ := hI
    obtain ⟨G4, e4, A4, r7⟩ := At.done A3 pM ry
    have hl := clen (chrs t).length
    refine s_ret (TrD.to (d_op (d_var rfl r7) (known (fun n hn => (ok.sp.2.2 n hn).1) (by omega) (by show 9 < 11; decide) (d_var rfl (r6.up ((e2.trans e3).trans e4)))).2 (rd_cat (by rw [klen]; omega))) ?_) A4 (q.mono (((e1.trans e2).trans e3).trans e4))
    rw [← List.map_append]
    unfold cellsK cellsL
    rw [List.take_length]
theorem ru_neg {K : PySem.W.Frag} {i : Int} : RU K (rU fun i => V.int (-i)) (.int i) (.int (-i)) := fun G M H x A h Q q => ⟨i, h, q.here A rfl⟩
def lastI (a c : Option Nat) : Int := match a, c with
  | some i, some j => max (i : Int) (j : Int)
  | some i, none => i
  | none, some j => j
  | none, none => -1
structure Wr where
  a : Option Nat
  b : Nat
  c : Option Nat
  d : Nat
def dW (x : Wr) : PyData := .tuple [dO x.a, dN x.b, dO x.c, dN x.d]
def R_last : List PyData → PyData → Prop := fun ds r => ∃ x : Wr, ds = [dW x] ∧ r = .int (lastI x.a x.c)
theorem F_last_index (T : Tx K mg) : Fd P w K mg base CX0 1 "last_index" (PSp K R_last) [] := by
  obtain ⟨fd, F⟩ := T.f_last_index
  refine ⟨_, fd, ["row"], [], T.g_last_index, F.kp, F.bindsN fun _ _ _ _ _ _ us hl => match us, hl with | [_], _ => rfl, .nil, ?_⟩
  refine fnG_of F sc_last_index (fun vs H Q E h => PSp.len (n := 1) (by rintro _ _ ⟨d, rfl, _⟩; rfl) h) (fun cdv A outer s H vs Q E hg hr h => ?_)
  obtain ⟨G, M, ds, r, hA, hR, ⟨x, rfl, rfl⟩, q⟩ := h
  obtain ⟨v0, _, rfl, r0, rfl⟩ := hR
  refine ⟨_, PSs.nox (pss_one (ps_ret (pe_callB (call_maxL rfl) (by rfl) T.n_max (by decide +kernel) (pa_cons (pe_op op_cat (pe_lst (pa_cons (pe_un un_neg pe_int) pa_nil)) (pe_lc (own := [("index", 1)]) (g := gName 1) (by rfl) sc_last_index.nd (pi_tup (pe_tup (pa_cons (pe_ix ix_tup (pv 0) pe_int (fun _ _ => rfl)) (pa_cons (pe_ix ix_tup (pv 0) pe_int (fun _ _ => rfl)) pa_nil)))) (blkOk_by (own := [("index", 1)]) (N := ["row", "index"]) (sc := defScope s_last_index) (by decide +kernel)) (fun _ _ _ _ _ => (pg_name (i := 1) sc_last_index.nd rfl (by first | exact Or.inl rfl | exact Or.inr rfl))) (fun _ _ _ _ _ => (pts_one (pt_cmpR op_notN (pv 1) pe_non (nomark _)))) (fun _ _ _ _ _ => (pv 1)))) pa_nil)))), ?_⟩
  rw [show L2.start ["row", "index"] [v0] = [some v0, none] from rfl]
  try dsimp only [xK]
  have hl : TrD K (tLc (iTup K (tTup (tCons (tOp (rIxT K) (tVar 0) (tC (V.int 0))) (tCons (tOp (rIxT K) (tVar 0) (tC (V.int 2))) tNil)))) (gName 1) (tTest (tOp (fun x y H Q => y = V.non ∧ Q (V.bl !decide (x = V.non)) H) (tVar 1) (tC V.non))) (tVar 1) [1])
      [some v0, none] G (.list (([dO x.a, dO x.c].filter fun d => !isNoneD d).map id)) :=
    d_lcT (d_tup (a_cons (d_op (d_var rfl r0) d_int (rd_ixT (d := dO x.a) rfl)) (a_cons (d_op (d_var rfl r0) d_int (rd_ixT (d := dO x.c) rfl)) a_nil)) (by show 2 ≤ 100000; decide)) (by show 2 < 100000; decide) (fun d hd y G1 e1 ry => b_T (d_op (d_var rfl ry) d_non rd_notN)) fun d hd _ y G1 e1 ry => d_var rfl ry
  have hint : ∃ ns : List Int, PyData.list ([.int (-1)] ++ (([dO x.a, dO x.c].filter fun d => !isNoneD d).map id)) = .list (dInts ns) ∧ lastI x.a x.c ∈ ns ∧ ∀ m ∈ ns, m ≤ lastI x.a x.c := by
    obtain ⟨a, b, c, d⟩ := x
    cases a with
    | none =>
      cases c with
      | none => exact ⟨[-1], rfl, by simp [lastI], by simp [lastI]⟩
      | some j => exact ⟨[-1, j], rfl, by simp [lastI], fun m hm => by simp [lastI] at hm ⊢; omega⟩
    | some i =>
      cases c with
      | none => exact ⟨[-1, i], rfl, by simp [lastI], fun m hm => by simp [lastI] at hm ⊢; omega⟩
      | some j =>
        refine ⟨[-1, i, j], rfl, ?_, fun m hm => ?_⟩
        · simp only [lastI, List.mem_cons, List.not_mem_nil, or_false]
          omega
        · simp only [lastI, List.mem_cons, List.not_mem_nil, or_false] at hm ⊢
          omega
  obtain ⟨ns, e, h1, h2⟩ := hint
  refine s_ret (d := .int (lastI x.a x.c)) (d_cb (a_cons (TrD.to (d_op (d_lst (a_cons (d_un d_int (ru_neg (i := 1))) a_nil)) hl (rd_cat ?_)) e) a_nil) (rc_maxL h1 h2)) hA q
  rw [List.length_map]
  have := List.length_filter_le (fun d => !isNoneD d) [dO x.a, dO x.c]
  simp only [List.length_cons, List.length_nil] at this ⊢
  omega
def atW (ws : List Nat) (o : Option Nat) (n : Nat) : Bool := match o with
  | none => true
  | some i => decide (ws[i]? = some n)
def hitW (ws : List Nat) (x : Wr) : Bool := atW ws x.a x.b && atW ws x.c x.d
def isLet (ws : List Nat) (wr : List Wr) : Bool := !wr.any (hitW ws)
def inW (n : Nat) (o : Option Nat) : Prop := ∀ i, o = some i → i < n
def R_is_let : List PyData → PyData → Prop := fun ds r => ∃ (ws : List Nat) (wr : List Wr), ds = [.tuple (dNs ws), .list (wr.map dW)] ∧ (∀ x ∈ wr, inW ws.length x.a ∧ inW ws.length x.c) ∧ r = .bool (isLet ws wr)
theorem F_is_let (T : Tx K mg) : Fd P w K mg base CX0 1 "is_let" (PSp K R_is_let) [] := by
  obtain ⟨fd, F⟩ := T.f_is_let
  refine ⟨_, fd, ["widths", "wrong"], [], T.g_is_let, F.kp, F.bindsN fun _ _ _ _ _ _ us hl => match us, hl with | [_, _], _ => rfl, .nil, ?_⟩
  refine fnG_of F sc_is_let (fun vs H Q E h => PSp.len (n := 2) (by rintro _ _ ⟨d, e, rfl, _⟩; rfl) h) (fun cdv A outer s H vs Q E hg hr h => ?_)
  obtain ⟨G, M, ds, r, hA, hR, ⟨ws, wr, rfl, hin, rfl⟩, q⟩ := h
  obtain ⟨v0, _, rfl, r0, v1, _, rfl, r1, rfl⟩ := hR
  refine ⟨_, PSs.nox (pss_cons (ps_for PassesOwn.never rfl (pi_list (pv 1)) (pg_tup (by rfl) (pgs_cons (pg_name (i := 2) sc_is_let.nd rfl (by first | exact Or.inl rfl | exact Or.inr rfl)) (pgs_cons (pg_name (i := 3) sc_is_let.nd rfl (by first | exact Or.inl rfl | exact Or.inr rfl)) (pgs_cons (pg_name (i := 4) sc_is_let.nd rfl (by first | exact Or.inl rfl | exact Or.inr rfl)) (pgs_cons (pg_name (i := 5) sc_is_let.nd rfl (by first | exact Or.inl rfl | exact Or.inr rfl)) pgs_nil))))) (pss_one (ps_if (PW.pt (pw_and (PW.pt (pw_or (pt_cmpR op_isN (pv 2) pe_non (nomark _)) (pw_or1 (pt_cmpR op_eq (pe_ix ix_tup (pv 0) (pv 2) (fun _ _ => rfl)) (pv 3) (nomark _))))) (pw_and1 (PW.pt (pw_or (pt_cmpR op_isN (pv 4) pe_non (nomark _)) (pw_or1 (pt_cmpR op_eq (pe_ix ix_tup (pv 0) (pv 4) (fun _ _ => rfl)) (pv 5) (nomark _)))))))) (pss_one (ps_ret pe_bl)) pss_nil)))
    (pss_one (ps_ret pe_bl))), ?_⟩
  rw [show L2.start ["widths", "wrong", "before", "one", "here", "other"] [v0, v1] = [some v0, some v1, none, none, none, none] from rfl]
  try dsimp only [xK]
  refine s_seq (s_forG (fun k σ G2 M2 => ∃ x2 x3 x4 x5, M2 = M ∧ σ = [some v0, some v1, x2, x3, x4, x5] ∧ (wr.take k).any (hitW ws) = false) (d_var rfl r1) hA (fun e h => h) ⟨none, none, none, none, rfl, rfl, rfl⟩
    (fun k d hd y σ1 G2 M2 H2 e2 A2 hI ry Nx hN => ?_) fun σ1 G2 M2 H2 e2 A2 hI => ?_)
  · obtain ⟨x2, x3, x4, x5, rfl, rfl, hk⟩ := hI
    rw [List.getElem?_map] at hd
    obtain ⟨x, hx, rfl⟩ := Option.map_eq_some_iff.mp hd
    have hm := List.mem_of_getElem? hx
    have htk : wr.take (k + 1) = wr.take k ++ [x] := by rw [List.take_add_one, hx]; rfl
    refine g_tup A2 ry rfl fun xs rx => ?_
    obtain ⟨y1, _, rfl, q1, y2, _, rfl, q2, y3, _, rfl, q3, y4, _, rfl, q4, rfl⟩ := rx
    refine ⟨y1, _, rfl, y2, _, rfl, y3, _, rfl, y4, _, rfl, rfl, ?_⟩
    have part : ∀ (o : Option Nat) (n : Nat) (i j : Nat) (vo vn : V), inW ws.length o → [some v0, some v1, some y1, some y2, some y3, some y4][i]? = some (some vo) → [some v0, some v1, some y1, some y2, some y3, some y4][j]? = some (some vn) → Rp K G2 (dO o) vo → Rp K G2 (dN n) vn →
        TrB (tOr (tTest (tOp (fun x y H Q => y = V.non ∧ Q (V.bl (decide (x = V.non))) H) (tVar i) (tC V.non))) (tTest (tOp rEq (tOp (rIxT K) (tVar 0) (tVar i)) (tVar j)))) [some v0, some v1, some y1, some y2, some y3, some y4] G2 (atW ws o n) := by
      intro o n i j vo vn hi h1 h2 p1 p2
      cases o with
      | none => exact b_orT (TrB.to (b_T (d_op (d_var h1 p1) d_non rd_isN)) rfl)
      | some a =>
        have ha := hi a rfl
        refine b_orF (TrB.to (b_T (d_op (d_var h1 p1) d_non rd_isN)) rfl) (TrB.to (b_T (d_op (d_op (d_var rfl (r0.up e2)) (d_var h1 p1) (rd_ixT (d := dN ws[a]) ?_)) (d_var h2 p2) rd_eqI)) ?_)
        · unfold dNs
          rw [at_dat (by rw [List.length_map]; exact ha), List.getElem_map]
        · show decide (((ws[a] : Nat) : Int) = (n : Int)) = decide (ws[a]? = some n)
          refine decide_eq_decide.mpr ?_
          rw [List.getElem?_eq_getElem ha, Int.ofNat_inj]
          exact ⟨fun z => by rw [z], fun z => Option.some.inj z⟩
    refine s_if (b_and (part x.a x.b 2 3 y1 y2 (hin x hm).1 rfl rfl q1 q2) fun _ => part x.c x.d 4 5 y3 y4 (hin x hm).2 rfl rfl q3 q4) A2 (fun hb G3 H3 e3 A3 => ?_) fun hb G3 H3 e3 A3 => ?_
    · refine s_ret (d := .bool (isLet ws wr)) (TrD.to d_bl ?_) A3 (q.mono (e2.trans e3))
      unfold isLet
      rw [List.any_eq_true.mpr ⟨x, hm, hb⟩]
      rfl
    · refine s_next (hN _ G3 _ H3 e3 A3 ⟨_, _, _, _, rfl, rfl, ?_⟩)
      rw [htk, List.any_append, hk]
      show (false || (hitW ws x || false)) = false
      unfold hitW
      rw [hb]
      rfl
  · obtain ⟨x2, x3, x4, x5, rfl, rfl, hk⟩ := hI
    show tRet (tC (.bl true)) { nx := fun _ H' => Q .non H', rt := Q } [some v0, some v1, x2, x3, x4, x5] H2
    refine s_ret (K := K) (d := .bool (isLet ws wr)) (TrD.to d_bl ?_) A2 (q.mono e2)
    rw [List.length_map, List.take_length] at hk
    unfold isLet
    rw [hk]
    rfl
end
end K96

namespace K96
open PySem PySem.Spec PyProof.Rows L2 Sb
local macro_rules | `(tactic| walk_at "ex") => `(tactic| first | exact Ex.refl _ | assumption | (refine' Ex.trans ?_ (by assumption); walk_at "ex"))
local macro_rules | `(tactic| walk_at "rp") => `(tactic| first | assumption | (refine' Rp.up ?e (by assumption); (case e => walk_at "ex")) | exact rfl)
local macro_rules | `(tactic| walk_at "rd") => `(tactic| with_reducible first | exact rd_add | exact rd_sub | exact rd_lt | exact rd_le | exact rd_gt | exact rd_ge | exact rd_eqI | exact rd_neI | exact rd_eqS | exact rd_neS | exact rd_isN | exact rd_ltS | exact rd_inSign | exact rd_eqE)
local macro_rules | `(tactic| walk_at "tr") => `(tactic| first
  | with_reducible exact d_int
  | with_reducible exact d_str
  | with_reducible exact d_bl
  | with_reducible exact d_non
  | with_reducible exact a_nil
  | with_reducible exact b_yes
  | with_reducible exact o_none
  | with_reducible exact d_newD
  | ((with_reducible refine' d_var ?i ?r); (case i => rfl); (case r => walk_at "rp"))
  | ((with_reducible refine' a_cons ?a ?b); (case a => walk_at "tr"); (case b => walk_at "tr"))
  | ((with_reducible refine' a_star ?a ?b); (case a => walk_at "tr"); (case b => walk_at "tr"))
  | ((with_reducible refine' d_isi ?a ?b); (case a => walk_at "tr"); (case b => decide))
  | ((with_reducible refine' d_op ?a ?b ?c); (case a => walk_at "tr"); (case b => walk_at "tr"); (case c => walk_at "rd"))
  | ((with_reducible refine' d_tup ?a ?b); (case a => walk_at "tr"); (case b => first | decide | (simp; done)))
  | ((with_reducible refine' d_lst ?a ?b); (case a => walk_at "tr"); (case b => first | decide | (simp; done)))
  | ((with_reducible refine' o_some ?a); (case a => walk_at "tr"))
  | ((with_reducible refine' b_B ?a); (case a => walk_at "tr"))
  | ((with_reducible refine' b_T ?a); (case a => walk_at "tr"))
  | ((with_reducible refine' b_not ?a); (case a => walk_at "tr"))
  | ((with_reducible refine' v_not ?a); (case a => walk_at "tr"))
  | ((with_reducible refine' b_or ?a ?b); (case a => walk_at "tr"); (case b => intro _; walk_at "tr"))
  | ((with_reducible refine' b_and ?a ?b); (case a => walk_at "tr"); (case b => intro _; walk_at "tr"))
  | ((with_reducible refine' v_or ?a ?b); (case a => walk_at "tr"); (case b => intro _; walk_at "tr"))
  | ((with_reducible refine' v_and ?a ?b); (case a => walk_at "tr"); (case b => intro _; walk_at "tr"))
  | assumption)


def farB (p q one other sa sb : Nat) : Bool := ab (stepF (other * sa) (one * sb)).1 (stepF (other * sa) (one * sb)).2 p q
def rowW (p q : Nat) (a b : Cell) (sa sb one : Nat) : List Wr := (b.2.filter fun other => farB p q one other sa sb).map fun other => ⟨a.1, one, b.1, other⟩
def pairW (p q : Nat) (a b : Cell) (sa sb : Nat) : List Wr := a.2.flatMap (rowW p q a b sa sb)
def placeW (p q : Nat) (cells : List Cell) (ss : List Nat) (i : Nat) : List Wr := pairW p q (cells.getD i (none, [])) (cells.getD (i + 1) (none, [])) (ss.getD i 0) (ss.getD (i + 1) 0)
def wrongK (p q : Nat) (cells : List Cell) (ss : List Nat) (k : Nat) : List Wr := (List.range k).flatMap (placeW p q cells ss)
def wrongL (p q : Nat) (cells : List Cell) (ss : List Nat) : List Wr := wrongK p q cells ss (cells.length - 1)
def okCell (e : Cell) : Prop := e.2.length ≤ 4 ∧ ∀ n ∈ e.2, 1 ≤ n ∧ n ≤ 4
theorem known_ok {ws : List Int} (h : ∀ n ∈ ws, 1 ≤ n ∧ n ≤ 4) : ∀ e ∈ knownC ws, okCell e := fun e he => by
  obtain ⟨n, hn, rfl⟩ := List.mem_map.mp he
  obtain ⟨m, hm, rfl⟩ := List.mem_map.mp hn
  refine ⟨by show 1 ≤ 4; decide, fun k hk => ?_⟩
  rw [List.mem_singleton.mp hk]
  have := h m hm
  omega
theorem cells_ok {c : CodeD} (ok : c.ok) {m : Nat} {t : Str} : ∀ e ∈ cellsL c m t, okCell e := fun e he => by
  unfold cellsL at he
  rcases List.mem_append.mp he with he | he
  · rcases List.mem_append.mp he with he | he
    · refine known_ok (fun n hn => ?_) e he
      rcases List.mem_append.mp hn with z | z
      · exact ok.st.2.2 n z
      · exact ok.bt.2.2 n z
    · obtain ⟨y, hy, he⟩ := List.mem_flatMap.mp he
      unfold signC at he
      rcases List.mem_append.mp he with he | he
      · split at he
        · rename_i h
          exact known_ok (wsOf_of ok h).2.1.2.2 e he
        · obtain ⟨i, hi, rfl⟩ := List.mem_map.mp he
          refine ⟨by show 4 ≤ 4; decide, fun k hk => ?_⟩
          have : ∀ k ∈ wL, 1 ≤ k ∧ k ≤ 4 := by decide
          exact this k hk
      · exact known_ok ok.bt.2.2 e he
  · exact known_ok ok.sp.2.2 e he
theorem pairW_len {p q sa sb : Nat} {a b : Cell} (ha : okCell a) (hb : okCell b) : (pairW p q a b sa sb).length ≤ 16 := by
  have h : ∀ l : List Nat, (l.flatMap (rowW p q a b sa sb)).length ≤ l.length * 4 := fun l => by
    induction l with
    | nil => exact Nat.le_refl _
    | cons n l ih =>
      rw [List.flatMap_cons, List.length_append, List.length_cons]
      have : (rowW p q a b sa sb n).length ≤ 4 := by
        unfold rowW
        rw [List.length_map]
        exact Nat.le_trans (List.length_filter_le _ _) hb.1
      omega
  have h1 := h a.2
  have := ha.1
  unfold pairW
  omega
section
variable {P : Program} {w : World} {K : PySem.W.Frag} {mg : Str → Option Value} {base : Heap}
def wrongD (p q : Nat) (cells : List Cell) (ss : List Nat) : PyData := if cells.length = ss.length then .list ((wrongL p q cells ss).map dW) else .none
def R_wrong : List PyData → PyData → Prop := fun ds r => ∃ (c : CodeD) (m : Nat) (e : Str × List Nat) (p q : Nat), ds = [c.d, dN m, dItem e, dF p q] ∧ c.ok ∧ m ≤ 3 ∧ e.1.cps.size ≤ 40 ∧ okS e.2 ∧ okF p q ∧ r = wrongD p q (cellsL c m e.1) e.2
theorem F_wrong_pairs (T : Tx K mg) : Fd P w K mg base CX0 4 "wrong_pairs" (PSp K R_wrong) [] := by
  obtain ⟨fd, F⟩ := T.f_wrong_pairs
  refine ⟨_, fd, ["code", "many", "item", "factor"], [], T.g_wrong_pairs, F.kp, F.bindsN fun _ _ _ _ _ _ us hl => match us, hl with | [_, _, _, _], _ => rfl, .nil, ?_⟩
  refine fnG_of F sc_wrong_pairs (fun vs H Q E h => PSp.len (n := 4) (by rintro _ _ ⟨d, e, f, g, h, rfl, _⟩; rfl) h) (fun cdv A outer s H vs Q E hg hr h => ?_)
  obtain ⟨G, M, ds, r, hA, hR, ⟨c, m, e, fp, fq, rfl, ok, hm, hz, os, of, rfl⟩, q⟩ := h
  obtain ⟨v0, _, rfl, r0, v1, _, rfl, r1, v2, _, rfl, r2, v3, _, rfl, r3, rfl⟩ := hR
  refine ⟨_, PSs.nox (pss_cons (ps_asg (pv 2) (pg_tup (by rfl) (pgs_cons (pg_name (i := 4) sc_wrong_pairs.nd rfl (by first | exact Or.inl rfl | exact Or.inr rfl)) (pgs_cons (pg_name (i := 5) sc_wrong_pairs.nd rfl (by first | exact Or.inl rfl | exact Or.inr rfl)) pgs_nil))))
    (pss_cons (ps_par (i := 6) (j := 7) (by rfl) sc_wrong_pairs.nd rfl rfl (by decide) rfl rfl (pa_cons (pe_fd (F_cells_of (P := P) (w := w) (base := base) T) hg (hr.mono (by decide)) pass0 (pa_cons (pv 0) (pa_cons (pv 1) (pa_cons (pv 4) pa_nil)))) (pa_cons (pe_lst pa_nil) pa_nil)) (by rfl))
    (pss_cons (ps_if (pt_cmpR op_ne (pe_callB call_len' (by rfl) T.n_len (by decide +kernel) (pa_cons (pv 6) pa_nil)) (pe_callB call_len' (by rfl) T.n_len (by decide +kernel) (pa_cons (pv 5) pa_nil)) (nomark _)) (pss_one (ps_ret pe_non)) pss_nil)
    (pss_cons (ps_for PassesOwn.never rfl (pi_range2 (by rfl) T.n_range (pa_cons pe_int (pa_cons (pe_callB call_len' (by rfl) T.n_len (by decide +kernel) (pa_cons (pv 6) pa_nil)) pa_nil))) (pg_name (i := 8) sc_wrong_pairs.nd rfl (by first | exact Or.inl rfl | exact Or.inr rfl)) (pss_cons (ps_asg (pe_tup (pa_cons (pe_ix ix_list (pv 6) (pe_op op_sub (pv 8) pe_int) (fun _ _ => rfl)) (pa_cons (pe_ix ix_list (pv 6) (pv 8) (fun _ _ => rfl)) pa_nil))) (pg_tup (by rfl) (pgs_cons (pg_tup (by rfl) (pgs_cons (pg_name (i := 9) sc_wrong_pairs.nd rfl (by first | exact Or.inl rfl | exact Or.inr rfl)) (pgs_cons (pg_name (i := 10) sc_wrong_pairs.nd rfl (by first | exact Or.inl rfl | exact Or.inr rfl)) pgs_nil))) (pgs_cons (pg_tup (by rfl) (pgs_cons (pg_name (i := 11) sc_wrong_pairs.nd rfl (by first | exact Or.inl rfl | exact Or.inr rfl)) (pgs_cons (pg_name (i := 12) sc_wrong_pairs.nd rfl (by first | exact Or.inl rfl | exact Or.inr rfl)) pgs_nil))) pgs_nil)))) (pss_one (ps_for PassesOwn.never rfl (pi_list (pv 10)) (pg_name (i := 13) sc_wrong_pairs.nd rfl (by first | exact Or.inl rfl | exact Or.inr rfl)) (pss_one (ps_for PassesOwn.never rfl (pi_list (pv 12)) (pg_name (i := 14) sc_wrong_pairs.nd rfl (by first | exact Or.inl rfl | exact Or.inr rfl)) (pss_one (ps_if (pt_val (pe_fd (F_is_above (P := P) (w := w) (base := base) T) hg (hr.mono (by decide)) pass0 (pa_cons (pe_fd (F_step_of (P := P) (w := w) (base := base) T) hg (hr.mono (by decide)) pass0 (pa_cons (pe_op op_mulW (pv 14) (pe_ix ix_list (pv 5) (pe_op op_sub (pv 8) pe_int) (fun _ _ => rfl))) (pa_cons (pe_op op_mulW (pv 13) (pe_ix ix_list (pv 5) (pv 8) (fun _ _ => rfl))) pa_nil))) (pa_cons (pv 3) pa_nil)))) (pss_one (ps_expr (pe_bm PySem.F.plainAttrs_list PySem.F.slot_list_append PySem.F.type_list_append mt_append (pv 7) (pa_cons (pe_tup (pa_cons (pv 9) (pa_cons (pv 13) (pa_cons (pv 11) (pa_cons (pv 14) pa_nil))))) pa_nil)))) pss_nil))))))))
    (pss_one (ps_ret (pv 7))))))), ?_⟩
  rw [show L2.start ["code", "many", "item", "factor", "text", "scan", "cells", "found", "place", "before", "widths", "here", "others", "one", "other"] [v0, v1, v2, v3] = [some v0, some v1, some v2, some v3, none, none, none, none, none, none, none, none, none, none, none] from rfl]
  try dsimp only [xK]
  refine q_unpack (d_var rfl r2) rfl hA ?_
  rintro _ G1 H1 e1 A1 ⟨v4, _, rfl, r4, v5, _, rfl, r5, rfl⟩
  refine ⟨v4, _, rfl, v5, _, rfl, rfl, ?_⟩
  have hcs := cells_ok ok (m := m) (t := e.1)
  generalize hcd : cellsL c m e.1 = cells at q hcs
  refine w_D (d := .list (cells.map dCell)) (d_call0 (a_cons (d_var rfl (r0.up e1)) (a_cons (d_var rfl (r1.up e1)) (a_cons (d_var rfl r4) a_nil))) ⟨c, m, e.1, rfl, ok, hm, hz, by rw [hcd]⟩) A1 fun v6 G2 H2 e2 A2 r6 => ?_
  refine ⟨show (0 : Nat) ≤ sizeLine from Nat.zero_le _, fun p hp => ⟨_, _, rfl, ?_⟩⟩
  have pM := A2.mNone hp
  have pG := A2.gNone hp
  have A2' := A2.nm (o := .lst []) hp
  have hl2 := os.2.1
  have r5' := r5.up e2
  obtain ⟨f1, f2, f3, f4⟩ := of
  have r3' := r3.up (e1.trans e2)
  refine s_seq (s_if (b := decide (cells.length ≠ e.2.length)) (TrB.to (b_T (d_op (d_cb (a_cons (d_var rfl r6) a_nil) rc_lenL) (d_cb (a_cons (d_var rfl r5') a_nil) rc_lenL) rd_neI)) ?_) A2' (fun hb G3 H3 e3 A3 => ?_) fun hb G3 H3 e3 A3 => ?_)
  · rw [List.length_map, dNs_len]
    by_cases z : cells.length = e.2.length
    · rw [z]; simp
    · have : ¬ ((cells.length : Int) = (e.2.length : Int)) := by omega
      rw [decide_eq_false this, decide_eq_true (by exact z)]
      rfl
  · have hb := of_decide_eq_true hb
    have A3' : At G3 M H3 := A3.drop (Ex.new pM)
    refine s_ret (d := wrongD fp fq cells e.2) (TrD.to d_non ?_) A3' (q.mono ((e1.trans e2).trans e3))
    unfold wrongD
    rw [if_neg hb]
  · have hb : cells.length = e.2.length := Classical.not_not.mp (of_decide_eq_false hb)
    refine s_next ?_
    have L2' : ∀ k, (wrongK fp fq cells e.2 k).length ≤ k * 16 := by
      intro k
      have h : ∀ l : List Nat, (l.flatMap (placeW fp fq cells e.2)).length ≤ l.length * 16 := fun l => by
        induction l with
        | nil => exact Nat.le_refl _
        | cons i l ih =>
          have okd : ∀ i, okCell (cells.getD i (none, [])) := fun i => by
            rw [List.getD_eq_getElem?_getD]
            cases z : cells[i]? with
            | none => exact ⟨by show 0 ≤ 4; decide, fun k hk => by cases hk⟩
            | some x => exact hcs x (List.mem_of_getElem? z)
          have : (placeW fp fq cells e.2 i).length ≤ 16 := pairW_len (p := fp) (q := fq) (sa := e.2.getD i 0) (sb := e.2.getD (i + 1) 0) (okd i) (okd (i + 1))
          rw [List.flatMap_cons, List.length_append, List.length_cons]
          omega
      have := h (List.range k)
      rw [List.length_range] at this
      exact this
    refine s_seq (s_forR2 (lo := 1) (hi := (cells.length : Int)) (fun k σ G' M' => ∃ xs x8 x9 x10 x11 x12 x13 x14, M' = upd M p (.lst xs) ∧ σ = [some v0, some v1, some v2, some v3, some v4, some v5, some v6, some (.ref p), x8, x9, x10, x11, x12, x13, x14] ∧ RpL K G' ((wrongK fp fq cells e.2 k).map dW) xs)
      d_int (TrD.to (d_cb (a_cons (d_var rfl (r6.up e3)) a_nil) rc_lenL) (by rw [List.length_map])) (by decide) (by omega) A3 ?_ ⟨[], _, _, _, _, _, _, _, rfl, rfl, rfl⟩ (fun k hk σ1 G4 M1 H4 e4 A4 hI Nx hN => ?_) fun σ1 G4 M1 H4 e4 A4 hI => ?_)
    · rintro k σ1 Ga Gb Mc ex ⟨xs, x8, x9, x10, x11, x12, x13, x14, h1, h2, h3⟩
      exact ⟨xs, x8, x9, x10, x11, x12, x13, x14, h1, h2, h3.up ex⟩
    · obtain ⟨xs, x8, x9, x10, x11, x12, x13, x14, rfl, rfl, rx⟩ := hI
      have hk1 : k + 1 < cells.length := by omega
      have hk2 : k + 1 < e.2.length := by omega
      have ga : cells[k]? = some (cells[k]'(by omega)) := List.getElem?_eq_getElem (by omega)
      have gb : cells[k + 1]? = some cells[k + 1] := List.getElem?_eq_getElem hk1
      generalize hca : cells[k]'(by omega) = ca at ga
      generalize hcb : cells[k + 1] = cb at gb
      have gsa : e.2[k]? = some (e.2[k]'(by omega)) := List.getElem?_eq_getElem (by omega)
      have gsb : e.2[k + 1]? = some e.2[k + 1] := List.getElem?_eq_getElem hk2
      generalize hsa : e.2[k]'(by omega) = sa at gsa
      generalize hsb : e.2[k + 1] = sb at gsb
      have oa := hcs ca (List.mem_of_getElem? ga)
      have ob := hcs cb (List.mem_of_getElem? gb)
      have osa := os.2.2 sa (List.mem_of_getElem? gsa)
      have osb := os.2.2 sb (List.mem_of_getElem? gsb)
      have r6' := r6.up (e3.trans e4)
      have r5'' := r5'.up (e3.trans e4)
      have hone : ((1 : Int) + (k : Int)) - 1 = (k : Int) := by omega
      have hpl : (1 : Int) + (k : Int) = ((k + 1 : Nat) : Int) := by omega
      have hplace : wrongK fp fq cells e.2 (k + 1) = wrongK fp fq cells e.2 k ++ pairW fp fq ca cb sa sb := by
        unfold wrongK
        rw [List.range_succ, List.flatMap_append, List.flatMap_cons, List.flatMap_nil, List.append_nil]
        unfold placeW
        rw [List.getD_eq_getElem?_getD, List.getD_eq_getElem?_getD, List.getD_eq_getElem?_getD, List.getD_eq_getElem?_getD, ga, gb, gsa, gsb]
        rfl
      have at1 : ∀ {i : Nat} {x : Cell}, cells[i]? = some x → L2.atI (cells.map dCell) (i : Int) = some (dCell x) := fun {i x} h => by
        have hl := (List.getElem?_eq_some_iff.mp h).1
        rw [at_dat (by rw [List.length_map]; exact hl), List.getElem_map]
        rw [List.getElem?_eq_getElem hl] at h
        rw [Option.some.inj h]
      have at2 : ∀ {i x : Nat}, e.2[i]? = some x → L2.atI (dNs e.2) (i : Int) = some (dN x) := fun {i x} h => by
        have hl := (List.getElem?_eq_some_iff.mp h).1
        unfold dNs
        rw [at_dat (by rw [List.length_map]; exact hl), List.getElem_map]
        rw [List.getElem?_eq_getElem hl] at h
        rw [Option.some.inj h]
      refine s_seq ?_
      refine w_D (d := .tuple [dCell ca, dCell cb]) (d_tup (a_cons (d_op (d_var rfl r6') (d_op (d_var rfl (d := .int (1 + (k : Int))) rfl) d_int rd_sub) (rd_ixL (by rw [hone]; exact at1 ga))) (a_cons (d_op (d_var rfl r6') (d_var rfl (d := .int (1 + (k : Int))) rfl) (rd_ixL (by rw [hpl]; exact at1 gb))) a_nil)) (by show 2 ≤ 100000; decide)) A4 fun vT G5 H5 e5 A5 rT => ?_
      obtain ⟨T', xsT, rfl, _⟩ := id rT
      refine g_pairs (a := dO ca.1) (b := .list (dNs ca.2)) (c := dO cb.1) (d := .list (dNs cb.2)) A5 rT fun w9 w10 w11 w12 q9 q10 q11 q12 => ?_
      refine s_forLI (ds := dNs ca.2) (fun u σ G' M' => ∃ xs x13 x14, M' = upd M p (.lst xs) ∧ σ = [some v0, some v1, some v2, some v3, some v4, some v5, some v6, some (.ref p), some (.int (1 + (k : Int))), some w9, some w10, some w11, some w12, x13, x14] ∧ RpL K G' ((wrongK fp fq cells e.2 k ++ (ca.2.take u).flatMap (rowW fp fq ca cb sa sb)).map dW) xs)
        (d_var rfl q10) A5 ?_ ⟨xs, x13, x14, rfl, rfl, ?_⟩ (fun u d hd x σ1 G6 M1 H6 e6 A6 hI ry Nx2 hN2 => ?_) fun σ1 G6 M1 H6 e6 A6 hI => ?_
      · rintro u σ1 Ga Gb Mc ex ⟨xs, x13, x14, h1, h2, h3⟩
        exact ⟨xs, x13, x14, h1, h2, h3.up ex⟩
      · rw [List.take_zero, List.flatMap_nil, List.append_nil]
        exact rx.up e5
      · obtain ⟨xs2, y13, y14, rfl, rfl, rx2⟩ := hI
        obtain ⟨one, hone', rfl⟩ : ∃ one, ca.2[u]? = some one ∧ dN one = d := by
          unfold dNs at hd
          rw [List.getElem?_map] at hd
          exact Option.map_eq_some_iff.mp hd
        have o1 := oa.2 one (List.mem_of_getElem? hone')
        have ul : u < 4 := by
          have := (List.getElem?_eq_some_iff.mp hone').1
          have := oa.1
          omega
        have htk : ca.2.take (u + 1) = ca.2.take u ++ [one] := by rw [List.take_add_one, hone']; rfl
        refine s_forLI (ds := dNs cb.2) (fun z σ G' M' => ∃ xs x14, M' = upd M p (.lst xs) ∧ σ = [some v0, some v1, some v2, some v3, some v4, some v5, some v6, some (.ref p), some (.int (1 + (k : Int))), some w9, some w10, some w11, some w12, some x, x14] ∧
            RpL K G' ((wrongK fp fq cells e.2 k ++ (ca.2.take u).flatMap (rowW fp fq ca cb sa sb) ++ ((cb.2.take z).filter fun other => farB fp fq one other sa sb).map fun other => (⟨ca.1, one, cb.1, other⟩ : Wr)).map dW) xs)
          (d_var rfl (q12.up e6)) A6 ?_ ⟨xs2, y14, rfl, rfl, ?_⟩ (fun z d hd x2 σ1 G7 M1 H7 e7 A7 hI ry2 Nx3 hN3 => ?_) fun σ1 G7 M1 H7 e7 A7 hI => ?_
        · rintro u σ1 Ga Gb Mc ex ⟨xs, x14, h1, h2, h3⟩
          exact ⟨xs, x14, h1, h2, h3.up ex⟩
        · rw [List.take_zero, List.filter_nil, List.map_nil, List.append_nil]
          exact rx2
        · obtain ⟨xs3, z14, rfl, rfl, rx3⟩ := hI
          obtain ⟨other, hoth, rfl⟩ : ∃ other, cb.2[z]? = some other ∧ dN other = d := by
            unfold dNs at hd
            rw [List.getElem?_map] at hd
            exact Option.map_eq_some_iff.mp hd
          have o2 := ob.2 other (List.mem_of_getElem? hoth)
          have zl : z < 4 := by
            have := (List.getElem?_eq_some_iff.mp hoth).1
            have := ob.1
            omega
          have htk2 : cb.2.take (z + 1) = cb.2.take z ++ [other] := by rw [List.take_add_one, hoth]; rfl
          have s4 := sm_4
          have b1 : other * sa < bigN := sm_mul (by omega) osa.2
          have b2 : one * sb < bigN := sm_mul (by omega) osb.2
          have p1 : 1 ≤ other * sa := Nat.mul_pos o2.1 osa.1
          have p2 : 1 ≤ one * sb := Nat.mul_pos o1.1 osb.1
          have m1 : RD K (rI CMulW fun i j => .int (i * j)) (dN other) (dN sa) (dN (other * sa)) := by
            have := rd_mul (K := K) (mul_okN (sm_big (show other < smN by omega)) (sm_big osa.2))
            rw [← Int.natCast_mul] at this
            exact this
          have m2 : RD K (rI CMulW fun i j => .int (i * j)) (dN one) (dN sb) (dN (one * sb)) := by
            have := rd_mul (K := K) (mul_okN (sm_big (show one < smN by omega)) (sm_big osb.2))
            rw [← Int.natCast_mul] at this
            exact this
          have sbd := step_bd b1 b2
          have r5a := r5''.up ((e5.trans e6).trans e7)
          have r3a := r3'.up ((((e3.trans e4).trans e5).trans e6).trans e7)
          refine s_if (b := farB fp fq one other sa sb) (b_B (d_call0 (a_cons (d_call0 (a_cons (d_op (d_var rfl ry2) (d_op (d_var rfl r5a) (d_op (d_var rfl (d := .int (1 + (k : Int))) rfl) d_int rd_sub) (rd_ixL (by rw [hone]; exact at2 gsa))) m1) (a_cons (d_op (d_var rfl (ry.up e7)) (d_op (d_var rfl r5a) (d_var rfl (d := .int (1 + (k : Int))) rfl) (rd_ixL (by rw [hpl]; exact at2 gsb))) m2) a_nil)) ⟨other * sa, one * sb, rfl, p1, b1, p2, b2, rfl⟩) (a_cons (d_var rfl r3a) a_nil)) ⟨_, _, fp, fq, rfl, sbd.1, sbd.2, f3, Nat.lt_of_le_of_lt f2 f3, rfl⟩)) A7 (fun hb G8 H8 e8 A8 => ?_) fun hb G8 H8 e8 A8 => ?_
          · have hlx : xs3.length < 100000 := by
              rw [rx3.len, List.length_map, List.length_append, List.length_append, List.length_map]
              have t1 := L2' k
              have t2 : ((cb.2.take z).filter fun other => farB fp fq one other sa sb).length ≤ 4 := by
                refine Nat.le_trans (List.length_filter_le _ _) ?_
                rw [List.length_take]
                exact Nat.le_trans (Nat.min_le_left ..) (by omega)
              have t3 : ((ca.2.take u).flatMap (rowW fp fq ca cb sa sb)).length ≤ 16 := by
                have := pairW_len (p := fp) (q := fq) (sa := sa) (sb := sb) (a := (ca.1, ca.2.take u)) (b := cb) ⟨by show (ca.2.take u).length ≤ 4; rw [List.length_take]; exact Nat.le_trans (Nat.min_le_left ..) (by omega), fun n hn => oa.2 n (List.mem_of_mem_take hn)⟩ ob
                exact this
              omega
            refine s_append (p := p) rfl upd_same (d_tup (a_cons (d_var rfl (q9.up ((e6.trans e7).trans e8))) (a_cons (d_var rfl (ry.up (e7.trans e8))) (a_cons (d_var rfl (q11.up ((e6.trans e7).trans e8))) (a_cons (d_var rfl (ry2.up e8)) a_nil)))) (by show 4 ≤ 100000; decide)) hlx A8 fun vv G9 H9 e9 A9 r9 => ?_
            rw [upd_upd] at A9
            refine hN3 _ G9 _ H9 (e8.trans e9) A9 ⟨_, _, rfl, rfl, ?_⟩
            have heq : ((cb.2.take (z + 1)).filter fun other => farB fp fq one other sa sb).map (fun other => (⟨ca.1, one, cb.1, other⟩ : Wr)) = ((cb.2.take z).filter fun other => farB fp fq one other sa sb).map (fun other => (⟨ca.1, one, cb.1, other⟩ : Wr)) ++ [⟨ca.1, one, cb.1, other⟩] := by
              rw [htk2, List.filter_append, List.map_append, List.filter_cons, show farB fp fq one other sa sb = true from hb]
              rfl
            rw [heq, ← List.append_assoc, List.map_append]
            exact (rx3.up (e8.trans e9)).snoc r9
          · refine s_next (hN3 _ G8 _ H8 e8 A8 ⟨_, _, rfl, rfl, ?_⟩)
            rw [htk2, List.filter_append, List.filter_cons, show farB fp fq one other sa sb = false from hb]
            simpa using rx3.up e8
        · obtain ⟨xs3, z14, rfl, rfl, rx3⟩ := hI
          refine hN2 _ G7 _ H7 e7 A7 ⟨_, _, _, rfl, rfl, ?_⟩
          rw [htk, List.flatMap_append, List.flatMap_cons, List.flatMap_nil, List.append_nil, ← List.append_assoc]
          rw [dNs_len, List.take_length] at rx3
          exact rx3
      · obtain ⟨xs2, y13, y14, rfl, rfl, rx2⟩ := hI
        refine hN _ G6 _ H6 (e5.trans e6) A6 ⟨_, _, _, _, _, _, _, _, rfl, rfl, ?_⟩
        rw [dNs_len, List.take_length] at rx2
        rw [hplace]
        exact rx2
    · obtain ⟨xs, x8, x9, x10, x11, x12, x13, x14, rfl, rfl, rx⟩ := hI
      obtain ⟨G5, e5, A5, r7⟩ := At.done A4 pM rx
      refine s_ret (d := wrongD fp fq cells e.2) (d_var rfl ?_) A5 (q.mono (((((e1.trans e2).trans e3).trans e4).trans e5)))
      unfold wrongD wrongL
      rw [if_pos hb]
      have : ((cells.length : Int) - 1).toNat = cells.length - 1 := by omega
      rw [this] at r7
      exact r7
end
end K96

namespace Sb
open PySem PySem.Spec PyProof.Rows L2
/-! ### {i: [] for i in range(lo, hi)}, its lists written behind -/
def kvsD : Int → List Addr → List (Key × V)
  | _, [] => []
  | lo, a :: as => (Sum.inl lo, V.ref a) :: kvsD (lo + 1) as
theorem kvsD_len : ∀ (lo : Int) (as : List Addr), (kvsD lo as).length = as.length
  | _, [] => rfl
  | lo, _ :: as => by show (kvsD (lo + 1) as).length + 1 = _; rw [kvsD_len]; rfl
theorem kvsD_snoc : ∀ (lo : Int) (as : List Addr) (c : Addr), kvsD lo (as ++ [c]) = kvsD lo as ++ [(Sum.inl (lo + (as.length : Int)), V.ref c)]
  | lo, [], c => by simp [kvsD]
  | lo, a :: as, c => by
    show (Sum.inl lo, V.ref a) :: kvsD (lo + 1) (as ++ [c]) = _
    rw [kvsD_snoc (lo + 1) as c]
    have : lo + 1 + (as.length : Int) = lo + ((a :: as).length : Int) := by rw [List.length_cons]; omega
    rw [this]
    rfl
theorem kvsD_at : ∀ (lo : Int) (as : List Addr) (j : Nat), valV (kvsD lo as) (Sum.inl (lo + (j : Int))) = (as[j]?).map V.ref
  | lo, [], j => rfl
  | lo, a :: as, 0 => by
    have : lo + ((0 : Nat) : Int) = lo := by omega
    rw [this]
    exact valV_pos rfl
  | lo, a :: as, j + 1 => by
    have h := kvsD_at (lo + 1) as j
    have e : lo + 1 + (j : Int) = lo + ((j + 1 : Nat) : Int) := by omega
    rw [e] at h
    show valV ((Sum.inl lo, V.ref a) :: kvsD (lo + 1) as) _ = _
    unfold valV at h ⊢
    have hne : ¬ ((Sum.inl lo : Key) = Sum.inl (lo + ((j + 1 : Nat) : Int))) := fun z => by
      have := Sum.inl.inj z
      omega
    rw [List.find?_cons, decide_eq_false hne]
    exact h
/-- the dict at D, its lists at as -/
def mD (lo : Int) (M : Hp) (D : Addr) (as : List Addr) (Ls : Addr → List V) : Hp := fun b => if b = D then some (.dK (kvsD lo as)) else if b ∈ as then some (.lst (Ls b)) else M b
section
variable {lo : Int} {M G H : Hp} {D : Addr} {as : List Addr} {Ls : Addr → List V}
theorem mD_D : mD lo M D as Ls D = some (.dK (kvsD lo as)) := if_pos rfl
theorem mD_a {a : Addr} (h : a ∈ as) (hD : D ∉ as) : mD lo M D as Ls a = some (.lst (Ls a)) := by
  have hn : a ≠ D := fun z => hD (by rw [← z]; exact h)
  unfold mD
  rw [if_neg hn, if_pos h]
theorem mD_o {b : Addr} (h : b ∉ as) (hD : b ≠ D) : mD lo M D as Ls b = M b := by
  unfold mD
  rw [if_neg hD, if_neg h]
theorem mD_nil : upd M D (.dK []) = mD lo M D [] Ls := by
  funext b
  by_cases h : b = D
  · rw [h, upd_same, mD_D]; rfl
  · rw [upd_ne h, mD_o (by simp) h]
theorem mD_new {c : Addr} (h : c ≠ D) (hc : c ∉ as) : upd (upd (mD lo M D as Ls) c (.lst [])) D (.dK (kvsD lo (as ++ [c]))) = mD lo M D (as ++ [c]) (fun b => if b = c then [] else Ls b) := by
  funext b
  by_cases hb : b = D
  · rw [hb, upd_same, mD_D]
  · rw [upd_ne hb]
    by_cases hbc : b = c
    · rw [hbc, upd_same]
      unfold mD
      rw [if_neg h, if_pos (by simp)]
      exact congrArg (fun x => some (HO.lst x)) (if_pos rfl).symm
    · rw [upd_ne hbc]
      unfold mD
      rw [if_neg hb, if_neg hb]
      by_cases hm : b ∈ as
      · rw [if_pos hm, if_pos (by simp [hm])]
        exact congrArg (fun x => some (HO.lst x)) (if_neg hbc).symm
      · rw [if_neg hm, if_neg (by simp [hm, hbc])]
theorem mD_put {a : Addr} {xs : List V} (h : a ∈ as) (hD : D ∉ as) : upd (mD lo M D as Ls) a (.lst xs) = mD lo M D as (fun b => if b = a then xs else Ls b) := by
  funext b
  by_cases hb : b = a
  · rw [hb, upd_same]
    have hn : a ≠ D := fun z => hD (by rw [← z]; exact h)
    unfold mD
    rw [if_neg hn, if_pos h]
    exact congrArg (fun x => some (HO.lst x)) (if_pos rfl).symm
  · rw [upd_ne hb]
    unfold mD
    by_cases hbD : b = D
    · rw [if_pos hbD, if_pos hbD]
    · rw [if_neg hbD, if_neg hbD]
      by_cases hm : b ∈ as
      · rw [if_pos hm, if_pos hm]
        exact congrArg (fun x => some (HO.lst x)) (if_neg hb).symm
      · rw [if_neg hm, if_neg hm]
def dictI : Int → List (List PyData) → List (PyData × PyData)
  | _, [] => []
  | lo, ds :: r => (.int lo, .list ds) :: dictI (lo + 1) r
variable {K : PySem.W.Frag}
theorem rp_dictI {G' : Hp} : ∀ (as : List Addr) (dss : List (List PyData)) (lo : Int), as.length = dss.length → (∀ (j : Nat) a ds, as[j]? = some a → dss[j]? = some ds → Rp K G' (.list ds) (.ref a)) → RpD K G' (dictI lo dss) (kvsD lo as)
  | [], [], _, _, _ => rfl
  | [], _ :: _, _, h, _ => by cases h
  | _ :: _, [], _, h, _ => by cases h
  | a :: as, ds :: dss, lo, h, hp => ⟨Sum.inl lo, .ref a, kvsD (lo + 1) as, rfl, rfl, hp 0 a ds rfl rfl, rp_dictI as dss (lo + 1) (Nat.succ.inj h) fun j a' ds' h1 h2 => hp (j + 1) a' ds' h1 h2⟩
/-- the whole becomes data -/
theorem At.frzD {dss : List (List PyData)} (A : At G (mD lo M D as Ls) H) (hM : M D = none) (ha : ∀ a ∈ as, M a = none) (hD : D ∉ as) (hl : as.length = dss.length)
    (r : ∀ (j : Nat) a ds, as[j]? = some a → dss[j]? = some ds → RpL K G ds (Ls a)) : ∃ G', Ex G G' ∧ At G' M H ∧ Rp K G' (.dict (dictI lo dss)) (.ref D) := by
  have hs : ∀ b, (b = D ∨ b ∈ as) → ∃ o, mD lo M D as Ls b = some o := fun b hb => by
    rcases hb with rfl | hb
    · exact ⟨_, mD_D⟩
    · exact ⟨_, mD_a hb hD⟩
  have hsM : ∀ b, (b = D ∨ b ∈ as) → M b = none := fun b hb => by
    rcases hb with rfl | hb
    · exact hM
    · exact ha b hb
  have E : Ex G (fun b => if b = D ∨ b ∈ as then mD lo M D as Ls b else G b) := fun b o hb => by
    have : ¬ (b = D ∨ b ∈ as) := fun z => by
      obtain ⟨u, hu⟩ := hs b z
      rw [A.d _ _ hu] at hb
      cases hb
    show (if b = D ∨ b ∈ as then _ else G b) = some o
    rw [if_neg this]
    exact hb
  refine ⟨fun b => if b = D ∨ b ∈ as then mD lo M D as Ls b else G b, E, ⟨fun b o hb => ?_, fun b o hb => ?_, fun b o hb => ?_⟩, ⟨D, kvsD lo as, rfl, (if_pos (Or.inl rfl)).trans mD_D, rp_dictI as dss lo hl fun j a ds h1 h2 => ?_⟩⟩
  · by_cases z : b = D ∨ b ∈ as
    · rw [show (if b = D ∨ b ∈ as then mD lo M D as Ls b else G b) = mD lo M D as Ls b from if_pos z] at hb
      exact A.m _ _ hb
    · rw [show (if b = D ∨ b ∈ as then mD lo M D as Ls b else G b) = G b from if_neg z] at hb
      exact A.g _ _ hb
  · have z : ¬ (b = D ∨ b ∈ as) := fun z => by rw [hsM b z] at hb; cases hb
    refine A.m _ _ ?_
    rw [mD_o (fun y => z (.inr y)) (fun y => z (.inl y))]
    exact hb
  · have z : ¬ (b = D ∨ b ∈ as) := fun z => by rw [hsM b z] at hb; cases hb
    show (if b = D ∨ b ∈ as then _ else G b) = none
    rw [if_neg z]
    refine A.d b o ?_
    rw [mD_o (fun y => z (.inr y)) (fun y => z (.inl y))]
    exact hb
  · have hm := List.mem_of_getElem? h1
    exact ⟨a, Ls a, rfl, (if_pos (Or.inr hm)).trans (mD_a hm hD), (r j a ds h1 h2).up E⟩
end
section
variable {K : PySem.W.Frag} {σ : L2.St} {G M H : Hp} {ta tb te tj : TE} {i j : Nat} {D : Ends} {d : PyData}
theorem s_newDL {lo hi : Int} (hil : i < σ.length) (ha : TrD K ta σ G (.int lo)) (hb : TrD K tb σ G (.int hi)) (h1 : -1000 ≤ lo ∧ lo ≤ hi ∧ hi ≤ 1000) (A : At G M H)
    (k : ∀ (p : Addr) (as : List Addr) (G' H' : Hp), Ex G G' → M p = none → (∀ a ∈ as, M a = none) → as.Nodup → p ∉ as → as.length = (hi - lo).toNat → At G' (mD lo M p as fun _ => []) H' → D.nx (σ.set j (some (.ref p))) H') :
    tAsg (tDc (iRng2 (tCons ta (tCons tb tNil))) (gName i) tYes (tVar i) (tLst tNil) [i]) (gName j) D σ H := by
  refine w_A (a_cons ha (a_cons hb a_nil)) A fun vs G2 H2 e2 A2 rv => ?_
  obtain ⟨v, _, rfl, h3, w, _, rfl, h4, rfl⟩ := rv
  refine ⟨lo, hi, by rw [show v = V.int lo from h3, show w = V.int hi from h4], ⟨by omega, by omega, by omega, by omega⟩, fun p hp => ?_⟩
  have Mp : M p = none := A2.mNone hp
  refine ⟨fun t m H3 => m = (hi - lo).toNat - t ∧ t ≤ (hi - lo).toNat ∧ ∃ (as : List Addr) (Gj : Hp), Ex G2 Gj ∧ At Gj (mD lo M p as fun _ => []) H3 ∧ (∀ a ∈ as, M a = none) ∧ as.Nodup ∧ p ∉ as ∧ as.length = t, ⟨(hi - lo).toNat, by simp, Nat.zero_le _, [], G2, Ex.refl _, ?_, (fun _ h => by cases h), List.nodup_nil, by simp, rfl⟩, ?_⟩
  · rw [← mD_nil]
    exact A2.nm hp
  rintro t m H3 ⟨rfl, ht, as, Gj, ej, Aj, hma, hnd, hpa, hlen⟩
  by_cases hlt : t < (hi - lo).toNat
  · refine .inr ⟨hlt, fun H4 => ∃ (as : List Addr) (Gj : Hp), Ex G2 Gj ∧ At Gj (mD lo M p as fun _ => []) H4 ∧ (∀ a ∈ as, M a = none) ∧ as.Nodup ∧ p ∉ as ∧ as.length = t + 1, fun H4 z => ⟨(hi - lo).toNat - (t + 1), by omega, rfl, hlt, z⟩, ?_⟩
    rintro x H4 ⟨rfl, rfl⟩
    show wipe _ _ = wipe _ _ ∧ _
    refine ⟨wipe_set, ?_⟩
    have hget : ((wipe σ [i]).set i (some (V.int (lo + (t : Int)))))[i]? = some (some (V.int (lo + (t : Int)))) := by
      show ((σ.set i none).set i _)[i]? = _
      rw [List.set_set, List.getElem?_set_self hil]
    refine ⟨.int (lo + (t : Int)), hget, ?_⟩
    refine ⟨show (0 : Nat) ≤ sizeLine from Nat.zero_le _, fun c hc => ?_⟩
    have hmc := Aj.mNone hc
    have hcp : c ≠ p := fun z => by rw [z, mD_D] at hmc; cases hmc
    have hca : c ∉ as := fun z => by rw [mD_a z hpa] at hmc; cases hmc
    have Mc : M c = none := by rw [mD_o hca hcp] at hmc; exact hmc
    have A1 := Aj.nm (o := .lst []) hc
    have m1 : upd (mD lo M p as fun _ => []) c (.lst []) p = some (.dK (kvsD lo as)) := by rw [upd_ne (Ne.symm hcp)]; exact mD_D
    have A3 := A1.wr (o := .dK (kvsD lo (as ++ [c]))) m1
    rw [mD_new hcp hca] at A3
    have hfresh : valV (kvsD lo as) (Sum.inl (lo + (t : Int))) = none := by rw [kvsD_at, List.getElem?_eq_none (by omega)]; rfl
    have hput : putK (kvsD lo as) (Sum.inl (lo + (t : Int))) (V.ref c) = kvsD lo (as ++ [c]) := by rw [putK_new _ hfresh, kvsD_snoc, hlen]
    have hempty : (fun b => if b = c then [] else (fun _ => ([] : List V)) b) = fun _ => [] := by
      funext b
      by_cases z : b = c
      · exact if_pos z
      · exact if_neg z
    rw [hempty] at A3
    refine ⟨kvsD lo as, Sum.inl (lo + (t : Int)), rfl, A1.m _ _ m1, by rw [kvsD_len]; exact sz_lt (by omega), as ++ [c], Gj, ej, ?_, fun a ha => ?_, ?_, ?_, by rw [List.length_append, hlen]; rfl⟩
    · rw [hput]
      exact A3
    · rcases List.mem_append.mp ha with z | z
      · exact hma a z
      · rw [List.mem_singleton.mp z]; exact Mc
    · exact List.nodup_append.mpr ⟨hnd, by simp, fun a ha b hb e => hca (by rw [← List.mem_singleton.mp hb, ← e]; exact ha)⟩
    · intro z
      rcases List.mem_append.mp z with z | z
      · exact hpa z
      · exact hcp (List.mem_singleton.mp z).symm
  · have e1 : t = (hi - lo).toNat := by omega
    exact .inl ⟨by show (hi - lo).toNat ≤ t; omega, k p as Gj H3 (e2.trans ej) Mp hma hnd hpa (by omega) Aj⟩
theorem s_appD {lo : Int} {p : Addr} {as : List Addr} {Ls : Addr → List V} {n : Nat} {a : Addr} (hi : σ[i]? = some (some (.ref p))) (hj : TrD K tj σ G (.int (lo + (n : Int)))) (hn : as[n]? = some a) (hD : p ∉ as) (h : TrD K te σ G d) (hl : (Ls a).length < 100000) (A : At G (mD lo M p as Ls) H)
    (k : ∀ v G' H', Ex G G' → At G' (mD lo M p as fun b => if b = a then Ls a ++ [v] else Ls b) H' → Rp K G' d v → D.nx σ H') : tDrop (tBM K "list" rAppend (tDGet (tVar i) tj) (tCons te tNil)) D σ H := by
  refine ⟨.ref p, hi, ?_⟩
  refine w_D hj A fun y G2 H2 e2 A2 ry => ?_
  have hm := List.mem_of_getElem? hn
  have hg := DGet.k (k := Sum.inl (lo + (n : Int))) (A2.m _ _ mD_D)
  rw [kvsD_at, hn] at hg
  refine ⟨p, .ref a, rfl, by rw [show y = V.int _ from ry]; exact hg, Or.inl ⟨rfl, _, Or.inl (Or.inl (A2.m _ _ (mD_a hm hD)))⟩, ?_⟩
  refine h G2 _ H2 e2 A2 _ fun v G3 H3 e3 A3 r => ?_
  refine ⟨a, Ls a, v, rfl, rfl, A3.m _ _ (mD_a hm hD), sz_lt hl, ?_⟩
  have A4 := A3.wr (o := .lst (Ls a ++ [v])) (mD_a (lo := lo) (M := M) (Ls := Ls) hm hD)
  rw [mD_put hm hD] at A4
  exact k v G3 _ (e2.trans e3) A4 r
theorem dictI_at : ∀ {dss : List (List PyData)} {lo : Int} {es : List (Key × V)} {n : Nat} {ds : List PyData}, RpD K G (dictI lo dss) es → dss[n]? = some ds → ∃ v, valV es (Sum.inl (lo + (n : Int))) = some v ∧ Rp K G (.list ds) v
  | [], _, _, _, _, _, h => by cases h
  | d0 :: dss, lo, _, n, ds, ⟨x, y, r, e, hk, hy, hr⟩, h => by
    have hx : x = Sum.inl lo := by
      cases x with
      | inl i =>
        have : i = lo := by simpa [kD] using hk
        rw [this]
      | inr z => cases hk
    subst hx
    rw [e]
    cases n with
    | zero =>
      cases h
      have : lo + ((0 : Nat) : Int) = lo := by omega
      rw [this]
      exact ⟨y, valV_pos rfl, hy⟩
    | succ n =>
      obtain ⟨v, h1, h2⟩ := dictI_at (n := n) hr h
      have e1 : lo + 1 + (n : Int) = lo + ((n + 1 : Nat) : Int) := by omega
      rw [e1] at h1
      have hne : ¬ ((Sum.inl lo : Key) = Sum.inl (lo + ((n + 1 : Nat) : Int))) := fun z => by
        have := Sum.inl.inj z
        omega
      refine ⟨v, ?_, h2⟩
      unfold valV at h1 ⊢
      rw [List.find?_cons, decide_eq_false hne]
      exact h1
theorem d_dgetI {tx : TE} {lo : Int} {n : Nat} {dss : List (List PyData)} {ds : List PyData} (h : TrD K te σ G (.dict (dictI lo dss))) (hx : TrD K tx σ G (.int (lo + (n : Int)))) (hn : dss[n]? = some ds) : TrD K (tDGet te tx) σ G (.list ds) := fun G1 M H e A Q q => by
  refine h G1 M H e A _ fun v G2 H2 e2 A2 r => ?_
  refine hx G2 M H2 (e.trans e2) A2 _ fun w G3 H3 e3 A3 r3 => ?_
  obtain ⟨a, xs, rfl, k1, k2⟩ := r.up e3
  obtain ⟨z, e4, r4⟩ := dictI_at k2 hn
  refine ⟨a, z, rfl, ?_, (q.mono (e2.trans e3)).here A3 r4⟩
  rw [← e4, show w = kV (Sum.inl (lo + (n : Int))) from r3]
  exact DGet.k (A3.g _ _ k1)
end
end Sb

namespace K96
open PySem PySem.Spec PyProof.Rows L2 Sb
local macro_rules | `(tactic| walk_at "ex") => `(tactic| first | exact Ex.refl _ | assumption | (refine' Ex.trans ?_ (by assumption); walk_at "ex"))
local macro_rules | `(tactic| walk_at "rp") => `(tactic| first | assumption | (refine' Rp.up ?e (by assumption); (case e => walk_at "ex")) | exact rfl)
local macro_rules | `(tactic| walk_at "rd") => `(tactic| with_reducible first | exact rd_add | exact rd_sub | exact rd_lt | exact rd_le | exact rd_gt | exact rd_ge | exact rd_eqI | exact rd_neI | exact rd_eqS | exact rd_neS | exact rd_isN | exact rd_ltS | exact rd_inSign | exact rd_eqE)
local macro_rules | `(tactic| walk_at "tr") => `(tactic| first
  | with_reducible exact d_int
  | with_reducible exact d_str
  | with_reducible exact d_bl
  | with_reducible exact d_non
  | with_reducible exact a_nil
  | with_reducible exact b_yes
  | with_reducible exact o_none
  | with_reducible exact d_newD
  | ((with_reducible refine' d_var ?i ?r); (case i => rfl); (case r => walk_at "rp"))
  | ((with_reducible refine' a_cons ?a ?b); (case a => walk_at "tr"); (case b => walk_at "tr"))
  | ((with_reducible refine' a_star ?a ?b); (case a => walk_at "tr"); (case b => walk_at "tr"))
  | ((with_reducible refine' d_isi ?a ?b); (case a => walk_at "tr"); (case b => decide))
  | ((with_reducible refine' d_op ?a ?b ?c); (case a => walk_at "tr"); (case b => walk_at "tr"); (case c => walk_at "rd"))
  | ((with_reducible refine' d_tup ?a ?b); (case a => walk_at "tr"); (case b => first | decide | (simp; done)))
  | ((with_reducible refine' d_lst ?a ?b); (case a => walk_at "tr"); (case b => first | decide | (simp; done)))
  | ((with_reducible refine' o_some ?a); (case a => walk_at "tr"))
  | ((with_reducible refine' b_B ?a); (case a => walk_at "tr"))
  | ((with_reducible refine' b_T ?a); (case a => walk_at "tr"))
  | ((with_reducible refine' b_not ?a); (case a => walk_at "tr"))
  | ((with_reducible refine' v_not ?a); (case a => walk_at "tr"))
  | ((with_reducible refine' b_or ?a ?b); (case a => walk_at "tr"); (case b => intro _; walk_at "tr"))
  | ((with_reducible refine' b_and ?a ?b); (case a => walk_at "tr"); (case b => intro _; walk_at "tr"))
  | ((with_reducible refine' v_or ?a ?b); (case a => walk_at "tr"); (case b => intro _; walk_at "tr"))
  | ((with_reducible refine' v_and ?a ?b); (case a => walk_at "tr"); (case b => intro _; walk_at "tr"))
  | assumption)


def wrongE (c : CodeD) (m p q : Nat) (e : Str × List Nat) : List Wr := wrongL p q (cellsL c m e.1) e.2
def wrongA (c : CodeD) (m p q : Nat) (ev : List (Str × List Nat)) : List Wr := ev.flatMap (wrongE c m p q)
def bucket (W : List Wr) (j : Nat) : List Wr := W.filter fun x => decide (lastI x.a x.c = (j : Int) - 1)
def foundK (W : List Wr) : Nat → List (List Nat)
  | 0 => if (bucket W 0).isEmpty = true then [[]] else []
  | k + 1 => ((foundK W k).flatMap fun ws => wL.map fun n => ws ++ [n]).filter fun ws => isLet ws (bucket W (k + 1))
def fitsE (c : CodeD) (m : Nat) (e : Str × List Nat) : Bool := decide ((cellsL c m e.1).length = e.2.length)
def allW (c : CodeD) (m p q : Nat) (ev : List (Str × List Nat)) : List (List Nat) := if ev.all (fitsE c m) = true then foundK (wrongA c m p q ev) m else []
def dT (ws : List Nat) : PyData := .tuple (dNs ws)
theorem foundK_len (W : List Wr) : ∀ k, ∀ ws ∈ foundK W k, ws.length = k
  | 0, ws, h => by
    unfold foundK at h
    split at h
    · rw [List.mem_singleton.mp h]; rfl
    · cases h
  | k + 1, ws, h => by
    obtain ⟨h1, _⟩ := List.mem_filter.mp h
    obtain ⟨v, hv, h2⟩ := List.mem_flatMap.mp h1
    obtain ⟨n, _, rfl⟩ := List.mem_map.mp h2
    rw [List.length_append, foundK_len W k v hv]
    rfl
theorem foundK_few (W : List Wr) : ∀ k, (foundK W k).length ≤ 4 ^ k
  | 0 => by
    unfold foundK
    split <;> decide
  | k + 1 => by
    have h : ∀ l : List (List Nat), (l.flatMap fun ws => wL.map fun n => ws ++ [n]).length = l.length * 4 := fun l => by
      induction l with
      | nil => rfl
      | cons a l ih => rw [List.flatMap_cons, List.length_append, ih, List.length_map, List.length_cons]; show 4 + _ = _; omega
    refine Nat.le_trans (List.length_filter_le _ _) ?_
    rw [h, Nat.pow_succ]
    exact Nat.mul_le_mul_right _ (foundK_few W k)
theorem cell_in {c : CodeD} {m : Nat} {t : Str} : ∀ e ∈ cellsL c m t, inW m e.1 := fun e he i hi => by
  have hk : ∀ ws, e ∉ knownC ws := fun ws h => by
    obtain ⟨n, _, rfl⟩ := List.mem_map.mp h
    cases hi
  unfold cellsL at he
  rcases List.mem_append.mp he with he | he
  · rcases List.mem_append.mp he with he | he
    · exact absurd he (hk _)
    · obtain ⟨y, _, he⟩ := List.mem_flatMap.mp he
      unfold signC at he
      rcases List.mem_append.mp he with he | he
      · split at he
        · exact absurd he (hk _)
        · obtain ⟨j, hj, rfl⟩ := List.mem_map.mp he
          cases hi
          exact List.mem_range.mp hj
      · exact absurd he (hk _)
  · exact absurd he (hk _)
theorem wrong_in {c : CodeD} {m p q : Nat} {e : Str × List Nat} : ∀ x ∈ wrongE c m p q e, inW m x.a ∧ inW m x.c := fun x hx => by
  obtain ⟨i, _, hx⟩ := List.mem_flatMap.mp hx
  obtain ⟨n, _, hx⟩ := List.mem_flatMap.mp hx
  obtain ⟨o, _, rfl⟩ := List.mem_map.mp hx
  have hd : ∀ i, inW m ((cellsL c m e.1).getD i (none, [])).1 := fun i => by
    rw [List.getD_eq_getElem?_getD]
    cases z : (cellsL c m e.1)[i]? with
    | none => intro j hj; cases hj
    | some y => exact cell_in y (List.mem_of_getElem? z)
  exact ⟨hd i, hd (i + 1)⟩
theorem last_bd {m : Nat} {x : Wr} (h : inW m x.a ∧ inW m x.c) : -1 ≤ lastI x.a x.c ∧ lastI x.a x.c < m := by
  obtain ⟨a, b, c, d⟩ := x
  obtain ⟨h1, h2⟩ := h
  cases a with
  | none =>
    cases c with
    | none => simp only [lastI]; omega
    | some j => have := h2 j rfl; simp only [lastI]; omega
  | some i =>
    have := h1 i rfl
    cases c with
    | none => simp only [lastI]; omega
    | some j => have := h2 j rfl; simp only [lastI]; omega
theorem last_in {k : Nat} {x : Wr} (h : lastI x.a x.c = (k : Int)) : inW (k + 1) x.a ∧ inW (k + 1) x.c := by
  obtain ⟨a, b, c, d⟩ := x
  cases a with
  | none =>
    cases c with
    | none => exact ⟨(fun i z => by cases z), fun i z => by cases z⟩
    | some j => simp only [lastI] at h; exact ⟨(fun i z => by cases z), fun i z => by cases z; omega⟩
  | some i =>
    cases c with
    | none => simp only [lastI] at h; exact ⟨(fun i z => by cases z; omega), fun i z => by cases z⟩
    | some j => simp only [lastI] at h; exact ⟨(fun i z => by cases z; omega), fun i z => by cases z; omega⟩
theorem shaped_W (W : List Wr) : SeqAt.shaped (.list (W.map dW)) = true := by
  have h1 : PyData.canLayAll0 (W.map dW) = true ∧ PyData.depthAll (W.map dW) ≤ 1 := by
    induction W with
    | nil => exact ⟨rfl, Nat.zero_le _⟩
    | cons x W ih =>
      obtain ⟨a, b, c, d⟩ := x
      refine ⟨?_, ?_⟩
      · show (PyData.canLay0 (dW ⟨a, b, c, d⟩) && PyData.canLayAll0 (W.map dW)) = true
        rw [ih.1, Bool.and_true]
        cases a <;> cases c <;> rfl
      · show max (PyData.depth (dW ⟨a, b, c, d⟩)) (PyData.depthAll (W.map dW)) ≤ 1
        have e : PyData.depth (dW ⟨a, b, c, d⟩) = 1 := by cases a <;> cases c <;> rfl
        have := ih.2
        omega
  unfold SeqAt.shaped
  show (PyData.canLayAll0 (W.map dW) && decide (PyData.depthAll (W.map dW) + 1 ≤ 64)) = true
  rw [h1.1, decide_eq_true (by have := h1.2; omega)]
  rfl
section
variable {P : Program} {w : World} {K : PySem.W.Frag} {mg : Str → Option Value} {base : Heap}
theorem bucket_snoc {W : List Wr} {x : Wr} {j : Nat} : bucket (W ++ [x]) j = bucket W j ++ (if lastI x.a x.c = (j : Int) - 1 then [x] else []) := by
  unfold bucket
  rw [List.filter_append, List.filter_cons]
  by_cases h : lastI x.a x.c = (j : Int) - 1
  · rw [if_pos h, decide_eq_true h]; rfl
  · rw [if_neg h, decide_eq_false h]; rfl
theorem wrongE_len {c : CodeD} (ok : c.ok) {m p q : Nat} {e : Str × List Nat} (h : (cellsL c m e.1).length ≤ 400) : (wrongE c m p q e).length ≤ 6400 := by
  have okd : ∀ i, okCell ((cellsL c m e.1).getD i (none, [])) := fun i => by
    rw [List.getD_eq_getElem?_getD]
    cases z : (cellsL c m e.1)[i]? with
    | none => exact ⟨by show 0 ≤ 4; decide, fun k hk => by cases hk⟩
    | some x => exact cells_ok ok x (List.mem_of_getElem? z)
  have h2 : ∀ l : List Nat, (l.flatMap (placeW p q (cellsL c m e.1) e.2)).length ≤ l.length * 16 := fun l => by
    induction l with
    | nil => exact Nat.le_refl _
    | cons i l ih =>
      have : (placeW p q (cellsL c m e.1) e.2 i).length ≤ 16 := pairW_len (okd i) (okd (i + 1))
      rw [List.flatMap_cons, List.length_append, List.length_cons]
      omega
  have := h2 (List.range ((cellsL c m e.1).length - 1))
  rw [List.length_range] at this
  have h3 : ((cellsL c m e.1).length - 1) * 16 ≤ 400 * 16 := Nat.mul_le_mul_right _ (by omega)
  exact Nat.le_trans this h3
def natOf (ds : List PyData) : List Nat := ds.map fun d => match d with
  | .int n => n.toNat
  | _ => 0
theorem natOf_d (ws : List Nat) : natOf (dNs ws) = ws := by
  unfold natOf dNs
  rw [List.map_map]
  conv => rhs; rw [← List.map_id ws]
  rfl
def R_all : List PyData → PyData → Prop := fun ds r => ∃ (c : CodeD) (x : Str) (m : Nat) (ev : List (Str × List Nat)) (p q : Nat), ds = [c.d, dN m, dEv ev, dF p q] ∧ okAsk c x m ev p q ∧ r = .list ((allW c m p q ev).map dT)
theorem F_all_widths (T : Tx K mg) : Fd P w K mg base CX0 5 "all_widths" (PSp K R_all) [] := by
  obtain ⟨fd, F⟩ := T.f_all_widths
  refine ⟨_, fd, ["code", "many", "evidence", "factor"], [], T.g_all_widths, F.kp, F.bindsN fun _ _ _ _ _ _ us hl => match us, hl with | [_, _, _, _], _ => rfl, .nil, ?_⟩
  refine fnG_of F sc_all_widths (fun vs H Q E h => PSp.len (n := 4) (by rintro _ _ ⟨d, e, f, g, h, i, rfl, _⟩; rfl) h) (fun cdv A outer s H vs Q E hg hr h => ?_)
  obtain ⟨G, M, ds, r, hA, hR, ⟨c, x, m, ev, fp, fq, rfl, ok, rfl⟩, q⟩ := h
  obtain ⟨v0, _, rfl, r0, v1, _, rfl, r1, v2, _, rfl, r2, v3, _, rfl, r3, rfl⟩ := hR
  refine ⟨_, PSs.nox (pss_cons (ps_set (i := 4) sc_all_widths.nd rfl (by first | exact Or.inl rfl | exact Or.inr rfl) (pe_dc (own := [("index", 9)]) (g := gName 9) (by rfl) sc_all_widths.nd (pi_range2 (by rfl) T.n_range (pa_cons (pe_un un_neg pe_int) (pa_cons (pv 1) pa_nil))) (blkOk_by (own := [("index", 9)]) (N := ["code", "many", "evidence", "factor", "wrong", "item", "rows", "row", "found", "index", "longer", "widths", "width"]) (sc := defScope s_all_widths) (by decide +kernel)) (fun _ _ _ _ _ => (pg_name (i := 9) sc_all_widths.nd rfl (by first | exact Or.inl rfl | exact Or.inr rfl))) (fun _ _ _ _ _ => pts_nil) (fun _ _ _ _ _ => (pv 9)) (fun _ _ _ _ _ => (pe_lst pa_nil))))
    (pss_cons (ps_for PassesOwn.never rfl (pi_list (pv 2)) (pg_name (i := 5) sc_all_widths.nd rfl (by first | exact Or.inl rfl | exact Or.inr rfl)) (pss_cons (ps_set (i := 6) sc_all_widths.nd rfl (by first | exact Or.inl rfl | exact Or.inr rfl) (pe_fd (F_wrong_pairs (P := P) (w := w) (base := base) T) hg (hr.mono (by decide)) pass0 (pa_cons (pv 0) (pa_cons (pv 1) (pa_cons (pv 5) (pa_cons (pv 3) pa_nil)))))) (pss_cons (ps_if (pt_cmpR op_isN (pv 6) pe_non (nomark _)) (pss_one (ps_ret (pe_lst pa_nil))) pss_nil) (pss_one (ps_for PassesOwn.never rfl (pi_list (pv 6)) (pg_name (i := 7) sc_all_widths.nd rfl (by first | exact Or.inl rfl | exact Or.inr rfl)) (pss_one (ps_expr (pe_bm PySem.F.plainAttrs_list PySem.F.slot_list_append PySem.F.type_list_append mt_append (pe_dget (hu_of hr) (pv 4) (pe_fd (F_last_index (P := P) (w := w) (base := base) T) hg (hr.mono (by decide)) pass0 (pa_cons (pv 7) pa_nil)) (fun _ _ => rfl)) (pa_cons (pv 7) pa_nil)))))))))
    (pss_cons (ps_set (i := 8) sc_all_widths.nd rfl (by first | exact Or.inl rfl | exact Or.inr rfl) (pe_ifExp (pt_cmpR (op_eqR hr.units) (pe_dget (hu_of hr) (pv 4) (pe_un un_neg pe_int) (fun _ _ => rfl)) (pe_lst pa_nil) (nomark _)) (pe_lst (pa_cons (pe_tup pa_nil) pa_nil)) (pe_lst pa_nil)))
    (pss_cons (ps_for PassesOwn.never rfl (pi_range1 (by rfl) T.n_range (pa_cons (pv 1) pa_nil)) (pg_name (i := 9) sc_all_widths.nd rfl (by first | exact Or.inl rfl | exact Or.inr rfl)) (pss_cons (ps_setLc2 (i := 10) (wi1 := iTup K _) (own := [("widths", 11), ("width", 12)]) (vs1 := [12]) (g := gName 11) (g1 := gName 12) rfl sc_all_widths.nd rfl rfl (sw_true rfl rfl rfl (by decide +kernel)) (pi_list (pv 8)) (blkOk_by (own := [("widths", 11), ("width", 12)]) (N := ["code", "many", "evidence", "factor", "wrong", "item", "rows", "row", "found", "index", "longer", "widths", "width"]) (sc := defScope s_all_widths) (by decide +kernel)) (by decide) (fun _ _ _ _ _ => (pg_name (i := 11) sc_all_widths.nd rfl (by first | exact Or.inl rfl | exact Or.inr rfl))) (fun _ _ _ _ _ => pts_nil) (fun _ _ _ _ _ => (pi_tup (pe_glob (v := .ref (He.ga K "WIDTHS")) (by rfl) T.gt_WIDTHS rfl))) (fun _ _ _ _ _ => (pg_name (i := 12) sc_all_widths.nd rfl (by first | exact Or.inl rfl | exact Or.inr rfl))) (fun _ _ _ _ _ => pts_nil) (fun _ _ _ _ _ => (pe_op (show OpR _ _ (rCatA K) from op_catA) (pv 11) (pe_tup (pa_cons (pv 12) pa_nil))))) (pss_one (ps_setLc (i := 8) (own := [("widths", 11)]) (g := gName 11) (by rfl) sc_all_widths.nd rfl rfl (sw_true rfl rfl rfl (by decide +kernel)) (pi_list (pv 10)) (blkOk_by (own := [("widths", 11)]) (N := ["code", "many", "evidence", "factor", "wrong", "item", "rows", "row", "found", "index", "longer", "widths", "width"]) (sc := defScope s_all_widths) (by decide +kernel)) (fun _ _ _ _ _ => (pg_name (i := 11) sc_all_widths.nd rfl (by first | exact Or.inl rfl | exact Or.inr rfl))) (fun _ _ _ _ _ => (pts_one (pt_val (pe_fd (F_is_let (P := P) (w := w) (base := base) T) hg (hr.mono (by decide)) pass0 (pa_cons (pv 11) (pa_cons (pe_dget (hu_of hr) (pv 4) (pv 9) (fun _ _ => rfl)) pa_nil)))))) (fun _ _ _ _ _ => (pv 11))))))
    (pss_one (ps_ret (pv 8))))))), ?_⟩
  rw [show L2.start ["code", "many", "evidence", "factor", "wrong", "item", "rows", "row", "found", "index", "longer", "widths", "width"] [v0, v1, v2, v3] = [some v0, some v1, some v2, some v3, none, none, none, none, none, none, none, none, none] from rfl]
  try dsimp only [xK]
  have m1 := ok.m1
  have m3 := ok.m3
  have l2 := ok.evd.l2
  refine s_seq (s_newDL (lo := -1) (hi := (m : Int)) (by show 9 < 13; decide) (d_un d_int (ru_neg (i := 1))) (d_var rfl r1) (by omega) hA fun p as G1 H1 e1 pM aM nd pas alen A1 => ?_)
  have hal : as.length = m + 1 := by omega
  have hml : ∀ k : Nat, (wrongA c m fp fq (ev.take k)).length ≤ (ev.take k).length * 6400 ∨ (ev.take k).all (fitsE c m) = false := fun k => by
    by_cases hf : (ev.take k).all (fitsE c m) = true
    · refine .inl ?_
      have h : ∀ l : List (Str × List Nat), (∀ e ∈ l, fitsE c m e = true ∧ okS e.2) → (wrongA c m fp fq l).length ≤ l.length * 6400 := fun l => by
        induction l with
        | nil => intro _; exact Nat.le_refl _
        | cons e l ih =>
          intro hl
          have z1 := of_decide_eq_true (hl e (List.mem_cons_self ..)).1
          have z2 := (hl e (List.mem_cons_self ..)).2.2.1
          have z3 := wrongE_len ok.cd (m := m) (p := fp) (q := fq) (e := e) (by omega)
          have z4 := ih fun e he => hl e (List.mem_cons_of_mem _ he)
          show ((wrongE c m fp fq e) ++ wrongA c m fp fq l).length ≤ _
          rw [List.length_append, List.length_cons]
          omega
      exact h _ fun e he => ⟨List.all_eq_true.mp hf e he, (ok.evd.i e (List.mem_of_mem_take he)).s⟩
    · exact .inr (by simpa using hf)
  refine s_seq (s_forLI (ds := ev.map dItem) (fun k σ G' M' => ∃ (Ls : Addr → List V) (x5 x6 x7 : Option V), M' = mD (-1) M p as Ls ∧ σ = [some v0, some v1, some v2, some v3, some (.ref p), x5, x6, x7, none, none, none, none, none] ∧ (ev.take k).all (fitsE c m) = true ∧
      ∀ (j : Nat) a, as[j]? = some a → RpL K G' ((bucket (wrongA c m fp fq (ev.take k)) j).map dW) (Ls a)) (d_var rfl (r2.up e1)) A1 ?_ ⟨fun _ => [], none, none, none, rfl, rfl, rfl, fun j a _ => rfl⟩ (fun k d hd y σ1 G2 M1 H2 e2 A2 hI ry Nx hN => ?_) fun σ1 G2 M1 H2 e2 A2 hI => ?_)
  · rintro k σ1 Ga Gb Mc ex ⟨Ls, x5, x6, x7, h1, h2, h3, h4⟩
    exact ⟨Ls, x5, x6, x7, h1, h2, h3, fun j a ha => (h4 j a ha).up ex⟩
  · obtain ⟨Ls, x5, x6, x7, rfl, rfl, hfit, hb⟩ := hI
    rw [List.getElem?_map] at hd
    obtain ⟨e, he, rfl⟩ := Option.map_eq_some_iff.mp hd
    have hmem := List.mem_of_getElem? he
    have oe := ok.evd.i e hmem
    have htk : ev.take (k + 1) = ev.take k ++ [e] := by rw [List.take_add_one, he]; rfl
    have e02 := e1.trans e2
    refine s_seq (s_set (d := wrongD fp fq (cellsL c m e.1) e.2) (d_call0 (a_cons (d_var rfl (r0.up e02)) (a_cons (d_var rfl (r1.up e02)) (a_cons (d_var rfl ry) (a_cons (d_var rfl (r3.up e02)) a_nil)))) ⟨c, m, e, fp, fq, rfl, ok.cd, m3, oe.sz, oe.s, ok.f, rfl⟩) A2 fun v6 G3 H3 e3 A3 r6 => ?_)
    by_cases hlen : (cellsL c m e.1).length = e.2.length
    · have r6' : Rp K G3 (.list ((wrongE c m fp fq e).map dW)) v6 := by
        unfold wrongD at r6
        rw [if_pos hlen] at r6
        exact r6
      refine s_seq (s_ifF (TrB.to (b_T (d_op (d_var rfl r6') d_non rd_isN)) rfl) A3 fun G4 H4 e4 A4 => s_next ?_)
      have hwl := wrongE_len ok.cd (m := m) (p := fp) (q := fq) (e := e) (by have := oe.s.2.1; omega)
      have hsum : wrongA c m fp fq (ev.take (k + 1)) = wrongA c m fp fq (ev.take k) ++ wrongE c m fp fq e := by
        unfold wrongA
        rw [htk, List.flatMap_append, List.flatMap_cons, List.flatMap_nil, List.append_nil]
      have hwk : (wrongA c m fp fq (ev.take k)).length ≤ 51200 := by
        rcases hml k with z | z
        · have : (ev.take k).length ≤ 8 := by rw [List.length_take]; omega
          have : (ev.take k).length * 6400 ≤ 8 * 6400 := Nat.mul_le_mul_right _ this
          omega
        · rw [hfit] at z; cases z
      refine s_forLI (ds := (wrongE c m fp fq e).map dW) (fun u σ G' M' => ∃ (Ls : Addr → List V) (x7 : Option V), M' = mD (-1) M p as Ls ∧ σ = [some v0, some v1, some v2, some v3, some (.ref p), some y, some v6, x7, none, none, none, none, none] ∧
          ∀ (j : Nat) a, as[j]? = some a → RpL K G' ((bucket (wrongA c m fp fq (ev.take k) ++ (wrongE c m fp fq e).take u) j).map dW) (Ls a)) (d_var rfl (r6'.up e4)) A4 ?_ ⟨Ls, x7, rfl, rfl, fun j a ha => ?_⟩ (fun u d hd x8 σ1 G5 M1 H5 e5 A5 hI ry2 Nx2 hN2 => ?_) fun σ1 G5 M1 H5 e5 A5 hI => ?_
      · rintro u σ1 Ga Gb Mc ex ⟨Ls, x7, h1, h2, h4⟩
        exact ⟨Ls, x7, h1, h2, fun j a ha => (h4 j a ha).up ex⟩
      · rw [List.take_zero, List.append_nil]
        exact (hb j a ha).up (e3.trans e4)
      · obtain ⟨Ls2, y7, rfl, rfl, hb2⟩ := hI
        rw [List.getElem?_map] at hd
        obtain ⟨wx, hwx, rfl⟩ := Option.map_eq_some_iff.mp hd
        have hwm := List.mem_of_getElem? hwx
        have lb := last_bd (wrong_in wx hwm)
        have htk2 : (wrongE c m fp fq e).take (u + 1) = (wrongE c m fp fq e).take u ++ [wx] := by rw [List.take_add_one, hwx]; rfl
        obtain ⟨n, hn⟩ : ∃ n : Nat, lastI wx.a wx.c = -1 + (n : Int) := ⟨(lastI wx.a wx.c + 1).toNat, by omega⟩
        have hnm : n < as.length := by omega
        have hna : as[n]? = some as[n] := List.getElem?_eq_getElem hnm
        have hlen2 : (Ls2 as[n]).length < 100000 := by
          rw [(hb2 n _ hna).len, List.length_map]
          refine Nat.lt_of_le_of_lt (List.length_filter_le _ _) ?_
          rw [List.length_append, List.length_take]
          omega
        refine s_appD (lo := -1) (n := n) (a := as[n]) rfl (d_call0 (a_cons (d_var rfl ry2) a_nil) ⟨wx, rfl, by rw [hn]⟩) hna pas (d_var rfl ry2) hlen2 A5 fun vv G6 H6 e6 A6 r9 => ?_
        refine hN2 _ G6 _ H6 e6 A6 ⟨_, _, rfl, rfl, fun j a ha => ?_⟩
        rw [htk2, ← List.append_assoc, bucket_snoc]
        by_cases hj : j = n
        · subst hj
          have haa : a = as[j] := Option.some.inj (ha.symm.trans hna)
          rw [if_pos (by omega), List.map_append, show (if a = as[j] then Ls2 as[j] ++ [vv] else Ls2 a) = Ls2 as[j] ++ [vv] from if_pos haa]
          exact ((hb2 j _ hna).up e6).snoc r9
        · have hne : a ≠ as[n] := fun z => by
            have hjl := (List.getElem?_eq_some_iff.mp ha).1
            have h5 : as[j] = as[n] := by rw [← z]; exact (List.getElem?_eq_some_iff.mp ha).2
            rcases Nat.lt_or_gt_of_ne hj with z1 | z1
            · exact List.pairwise_iff_getElem.mp nd j n hjl hnm z1 h5
            · exact List.pairwise_iff_getElem.mp nd n j hnm hjl z1 h5.symm
          rw [if_neg (by omega), List.append_nil, show (if a = as[n] then Ls2 as[n] ++ [vv] else Ls2 a) = Ls2 a from if_neg hne]
          exact (hb2 j a ha).up e6
      · obtain ⟨Ls2, y7, rfl, rfl, hb2⟩ := hI
        refine hN _ G5 _ H5 ((e3.trans e4).trans e5) A5 ⟨Ls2, _, _, _, rfl, rfl, ?_, fun j a ha => ?_⟩
        · rw [htk, List.all_append, hfit]
          show (true && (fitsE c m e && true)) = true
          unfold fitsE
          rw [decide_eq_true hlen]
          rfl
        · rw [hsum]
          have := hb2 j a ha
          rw [List.length_map, List.take_length] at this
          exact this
    · have r6' : Rp K G3 .none v6 := by
        unfold wrongD at r6
        rw [if_neg hlen] at r6
        exact r6
      refine s_seq (s_ifT (TrB.to (b_T (d_op (d_var rfl r6') d_non rd_isN)) rfl) A3 fun G4 H4 e4 A4 => ?_)
      obtain ⟨G5, e5, A5, _⟩ := A4.frzD (dss := (List.range (m + 1)).map fun j => (bucket (wrongA c m fp fq (ev.take k)) j).map dW) pM aM pas (by rw [hal, List.length_map, List.length_range]) (fun j a ds h1 h2 => by
        rw [List.getElem?_map] at h2
        obtain ⟨j', hj', rfl⟩ := Option.map_eq_some_iff.mp h2
        have : j' = j := by
          have z := List.getElem?_eq_some_iff.mp hj'
          obtain ⟨z1, z2⟩ := z
          rw [List.getElem_range] at z2
          exact z2.symm
        subst this
        exact (hb j' a h1).up (e3.trans e4))
      refine s_ret (d := .list ((allW c m fp fq ev).map dT)) (TrD.to (d_lst a_nil) ?_) A5 (q.mono (((e02.trans e3).trans e4).trans e5))
      unfold allW
      rw [if_neg (fun z => hlen (of_decide_eq_true (List.all_eq_true.mp z e hmem)))]
      rfl
  · obtain ⟨Ls, x5, x6, x7, rfl, rfl, hfit, hb⟩ := hI
    rw [List.length_map, List.take_length] at hfit hb
    generalize hW : wrongA c m fp fq ev = W at hb
    obtain ⟨G3, e3, A3, r4⟩ := A2.frzD (dss := (List.range (m + 1)).map fun j => (bucket W j).map dW) pM aM pas (by rw [hal, List.length_map, List.length_range]) (fun j a ds h1 h2 => by
      rw [List.getElem?_map] at h2
      obtain ⟨j', hj', rfl⟩ := Option.map_eq_some_iff.mp h2
      have : j' = j := by
        have z := List.getElem?_eq_some_iff.mp hj'
        obtain ⟨z1, z2⟩ := z
        rw [List.getElem_range] at z2
        exact z2.symm
      subst this
      exact hb j' a h1)
    have hat : ∀ j, j ≤ m → ((List.range (m + 1)).map fun j => (bucket W j).map dW)[j]? = some ((bucket W j).map dW) := fun j hj => by
      rw [List.getElem?_map, List.getElem?_range (by omega)]
      rfl
    have e03 := (e1.trans e2).trans e3
    refine s_seq (s_set (K := K) (d := .list ((foundK W 0).map dT)) (d_if (b := (bucket W 0).isEmpty) (TrB.to (b_T (d_op (d_dgetI (lo := -1) (n := 0) (d_var rfl r4) (d_un d_int (ru_neg (i := 1))) (hat 0 (by omega))) (d_lst a_nil) (rd_eqR (shaped_W _) rfl))) (by rw [eqv_nil]; exact List.isEmpty_map ..)) (fun hb => ?_) fun hb => ?_) A3 fun v8 G4 H4 e4 A4 r8 => ?_)
    · unfold foundK
      rw [if_pos hb]
      exact d_lst (a_cons (d_tup a_nil) a_nil) (by show 1 ≤ 100000; decide)
    · unfold foundK
      rw [if_neg (by rw [hb]; decide)]
      exact d_lst a_nil
    refine s_seq (s_forRI (n := (m : Int)) (fun k σ G' M' => ∃ (x9 x10 x11 x12 : Option V) (v : V), M' = M ∧ σ = [some v0, some v1, some v2, some v3, some (.ref p), x5, x6, x7, some v, x9, x10, x11, x12] ∧ Rp K G' (.list ((foundK W k).map dT)) v) (d_var rfl (r1.up (e03.trans e4))) (by omega) (by omega) A4 ?_ ⟨none, none, none, none, v8, rfl, rfl, r8⟩
      (fun k hk σ1 G5 M1 H5 e5 A5 hI Nx hN => ?_) fun σ1 G5 M1 H5 e5 A5 hI => ?_)
    · rintro k σ1 Ga Gb Mc ex ⟨x9, x10, x11, x12, v, h1, h2, h3⟩
      exact ⟨x9, x10, x11, x12, v, h1, h2, h3.up ex⟩
    · obtain ⟨x9, x10, x11, x12, v, rfl, rfl, rv⟩ := hI
      have hkm : k < m := by omega
      have hfew : (foundK W k).length ≤ 16 := by
        have h1 := foundK_few W k
        have h2 : 4 ^ k ≤ 4 ^ 2 := Nat.pow_le_pow_right (by decide) (by omega)
        exact Nat.le_trans h1 h2
      have r4' := r4.up (e4.trans e5)
      refine s_seq (s_set (d := .list (((foundK W k).flatMap fun ws => wL.map fun n => ws ++ [n]).map dT)) (TrD.to (d_lc2 (i := 11) (j := 12) (es := dNs wL) (f := fun d e => match d, e with | .tuple ds, e => .tuple (ds ++ [e]) | _, _ => .none) (by decide) (d_var rfl rv) ?_ (fun d hd y G6 e6 ry => d_c (rp_tupB T.tu_WIDTHS G6)) fun d hd e he y z G6 e6 ry rz => ?_) ?_) A5 fun v10 G6 H6 e6 A6 r10 => ?_)
      · rw [List.length_map]
        show (foundK W k).length * 4 ≤ 100000
        omega
      · obtain ⟨ws, hws, rfl⟩ := List.mem_map.mp hd
        have hwl := foundK_len W k ws hws
        exact d_op (d_var rfl ry) (d_tup (a_cons (d_var rfl rz) a_nil) (by show 1 ≤ 100000; decide)) (rd_catA (by rw [dNs_len, hwl]; show k + 1 ≤ 100000; omega))
      · rw [List.flatMap_map, List.map_flatMap]
        refine congrArg PyData.list (congrArg (fun f => List.flatMap f (foundK W k)) (funext fun ws => ?_))
        unfold dNs
        rw [List.map_map, List.map_map]
        refine List.map_congr_left fun n _ => ?_
        show PyData.tuple (dNs ws ++ [dN n]) = PyData.tuple (dNs (ws ++ [n]))
        unfold dNs
        rw [List.map_append]
        rfl
      · have hlong : ∀ ws ∈ (foundK W k).flatMap fun ws => wL.map fun n => ws ++ [n], ws.length = k + 1 := fun ws h => by
          obtain ⟨u, hu, h2⟩ := List.mem_flatMap.mp h
          obtain ⟨n, _, rfl⟩ := List.mem_map.mp h2
          rw [List.length_append, foundK_len W k u hu]
          rfl
        have hll : ((foundK W k).flatMap fun ws => wL.map fun n => ws ++ [n]).length ≤ 64 := by
          have h : ∀ l : List (List Nat), (l.flatMap fun ws => wL.map fun n => ws ++ [n]).length = l.length * 4 := fun l => by
            induction l with
            | nil => rfl
            | cons a l ih => rw [List.flatMap_cons, List.length_append, ih, List.length_map, List.length_cons]; show 4 + _ = _; omega
          rw [h]
          omega
        have hpl : ((k : Nat) : Int) = -1 + ((k + 1 : Nat) : Int) := by omega
        refine s_set (d := .list ((foundK W (k + 1)).map dT)) (TrD.to (d_lcL (p := fun d => match d with | .tuple ds => isLet (natOf ds) (bucket W (k + 1)) | _ => false) (f := id) (d_var rfl r10) (by rw [List.length_map]; omega) (fun d hd y G7 e7 ry => ?_) fun d hd _ y G7 e7 ry => d_var rfl ry) ?_) A6 fun v11 G7 H7 e7 A7 r11 => ?_
        · obtain ⟨ws, hws, rfl⟩ := List.mem_map.mp hd
          refine TrB.to (b_B (d_call0 (a_cons (d_var rfl ry) (a_cons (d_dgetI (lo := -1) (n := k + 1) (d_var rfl (r4'.up (e6.trans e7))) (d_var rfl (show Rp K G7 (.int (-1 + ((k + 1 : Nat) : Int))) (.int (k : Int)) by rw [← hpl]; exact rfl)) (hat (k + 1) (by omega))) a_nil)) ⟨ws, bucket W (k + 1), rfl, fun x hx => ?_, rfl⟩)) ?_
          · have h1 := of_decide_eq_true (List.mem_filter.mp hx).2
            rw [hlong ws hws]
            exact last_in (by omega)
          · show isLet ws _ = isLet (natOf (dNs ws)) _
            rw [natOf_d]
        · show PyData.list (((((foundK W k).flatMap fun ws => wL.map fun n => ws ++ [n]).map dT).filter _).map id) = PyData.list (((((foundK W k).flatMap fun ws => wL.map fun n => ws ++ [n]).filter fun ws => isLet ws (bucket W (k + 1)))).map dT)
          rw [List.map_id, List.filter_map]
          refine congrArg PyData.list (congrArg (List.map dT) (List.filter_congr fun ws _ => ?_))
          show isLet (natOf (dNs ws)) _ = _
          rw [natOf_d]
        · exact hN _ G7 _ H7 (e6.trans e7) A7 ⟨_, _, _, _, v11, rfl, rfl, r11⟩
    · obtain ⟨x9, x10, x11, x12, v, rfl, rfl, rv⟩ := hI
      refine s_ret (d := .list ((allW c m fp fq ev).map dT)) (d_var rfl ?_) A5 (q.mono ((e03.trans e4).trans e5))
      unfold allW
      rw [if_pos hfit, hW]
      exact rv
end
end K96

namespace Sb
open PySem PySem.Spec PyProof.Rows L2
/-- a comprehension within the element of another one -/
theorem blkIn {X : Cx} {s : Shared} {H : Hp} {scope : Scope} {C : Addr} {cl : List (Str × Addr)} {fp : List Addr} {N : List Str} {sc scope2 : Scope} {own : List (Str × Nat)} (hsc : X.env.scope = sc) (hN : X.N = N)
    (h : blkC N (relS scope sc) scope2 own = true) : BlkOk (X.blk s H scope (compEnvC scope cl C X.env) fp).N (X.blk s H scope (compEnvC scope cl C X.env) fp).env.scope scope2 own := by
  have e : (compEnvC scope cl C X.env).scope = relS scope sc := by rw [← hsc]; rfl
  rw [← hN] at h
  show BlkOk X.N (compEnvC scope cl C X.env).scope scope2 own
  rw [e]
  exact blkOk_by h
end Sb

namespace K96
open PySem PySem.Spec PyProof.Rows L2 Sb
local macro_rules | `(tactic| walk_at "ex") => `(tactic| first | exact Ex.refl _ | assumption | (refine' Ex.trans ?_ (by assumption); walk_at "ex"))
local macro_rules | `(tactic| walk_at "rp") => `(tactic| first | assumption | (refine' Rp.up ?e (by assumption); (case e => walk_at "ex")) | exact rfl)
local macro_rules | `(tactic| walk_at "rd") => `(tactic| with_reducible first | exact rd_add | exact rd_sub | exact rd_lt | exact rd_le | exact rd_gt | exact rd_ge | exact rd_eqI | exact rd_neI | exact rd_eqS | exact rd_neS | exact rd_isN | exact rd_ltS | exact rd_inSign | exact rd_eqE)
local macro_rules | `(tactic| walk_at "tr") => `(tactic| first
  | with_reducible exact d_int
  | with_reducible exact d_str
  | with_reducible exact d_bl
  | with_reducible exact d_non
  | with_reducible exact a_nil
  | with_reducible exact b_yes
  | with_reducible exact o_none
  | with_reducible exact d_newD
  | ((with_reducible refine' d_var ?i ?r); (case i => rfl); (case r => walk_at "rp"))
  | ((with_reducible refine' a_cons ?a ?b); (case a => walk_at "tr"); (case b => walk_at "tr"))
  | ((with_reducible refine' a_star ?a ?b); (case a => walk_at "tr"); (case b => walk_at "tr"))
  | ((with_reducible refine' d_isi ?a ?b); (case a => walk_at "tr"); (case b => decide))
  | ((with_reducible refine' d_op ?a ?b ?c); (case a => walk_at "tr"); (case b => walk_at "tr"); (case c => walk_at "rd"))
  | ((with_reducible refine' d_tup ?a ?b); (case a => walk_at "tr"); (case b => first | decide | (simp; done)))
  | ((with_reducible refine' d_lst ?a ?b); (case a => walk_at "tr"); (case b => first | decide | (simp; done)))
  | ((with_reducible refine' o_some ?a); (case a => walk_at "tr"))
  | ((with_reducible refine' b_B ?a); (case a => walk_at "tr"))
  | ((with_reducible refine' b_T ?a); (case a => walk_at "tr"))
  | ((with_reducible refine' b_not ?a); (case a => walk_at "tr"))
  | ((with_reducible refine' v_not ?a); (case a => walk_at "tr"))
  | ((with_reducible refine' b_or ?a ?b); (case a => walk_at "tr"); (case b => intro _; walk_at "tr"))
  | ((with_reducible refine' b_and ?a ?b); (case a => walk_at "tr"); (case b => intro _; walk_at "tr"))
  | ((with_reducible refine' v_or ?a ?b); (case a => walk_at "tr"); (case b => intro _; walk_at "tr"))
  | ((with_reducible refine' v_and ?a ?b); (case a => walk_at "tr"); (case b => intro _; walk_at "tr"))
  | assumption)


theorem shaped_T (L : List (List Nat)) : SeqAt.shaped (.list (L.map dT)) = true := by
  have e : L.map dT = (L.map fun ws => ws.map Int.ofNat).map tD := by
    rw [List.map_map]
    refine List.map_congr_left fun ws _ => ?_
    show PyData.tuple (dNs ws) = PyData.tuple (dInts (ws.map Int.ofNat))
    rw [dNs_ints]
  rw [e]
  exact shaped_rows _
theorem allW_len {c : CodeD} {m p q : Nat} {ev : List (Str × List Nat)} : ∀ ws ∈ allW c m p q ev, ws.length = m := fun ws h => by
  unfold allW at h
  split at h
  · exact foundK_len _ m ws h
  · cases h
theorem allW_few {c : CodeD} {m p q : Nat} {ev : List (Str × List Nat)} (h : m ≤ 3) : (allW c m p q ev).length ≤ 64 := by
  unfold allW
  split
  · exact Nat.le_trans (foundK_few _ m) (Nat.pow_le_pow_right (by decide) h)
  · exact Nat.zero_le _
section
variable {P : Program} {w : World} {K : PySem.W.Frag} {mg : Str → Option Value} {base : Heap}
def R_count : List PyData → PyData → Prop := fun ds r => ∃ (c : CodeD) (x : Str) (m : Nat) (ev : List (Str × List Nat)) (p q : Nat), ds = [c.d, .str x, dN m, dEv ev, dF p q] ∧ okAsk c x m ev p q ∧ r = dN (allW c m p q ev).length
theorem F_count_widths (T : Tx K mg) : Fd P w K mg base CX0 8 "count_widths" (PSp K R_count) [] := by
  obtain ⟨fd, F⟩ := T.f_count_widths
  refine ⟨_, fd, ["code", "name", "many", "evidence", "factor"], [], T.g_count_widths, F.kp, F.bindsN fun _ _ _ _ _ _ us hl => match us, hl with | [_, _, _, _, _], _ => rfl, .nil, ?_⟩
  refine fnG_of F sc_count_widths (fun vs H Q E h => PSp.len (n := 5) (by rintro _ _ ⟨d, e, f, g, h, i, rfl, _⟩; rfl) h) (fun cdv A outer s H vs Q E hg hr h => ?_)
  obtain ⟨G, M, ds, r, hA, hR, ⟨c, x, m, ev, fp, fq, rfl, ok, rfl⟩, q⟩ := h
  obtain ⟨v0, _, rfl, r0, v1, _, rfl, r1, v2, _, rfl, r2, v3, _, rfl, r3, v4, _, rfl, r4, rfl⟩ := hR
  refine ⟨_, PSs.nox (pss_cons (ps_expr (pe_fd (F_require_asked (P := P) (w := w) (base := base) T) hg (hr.mono (by decide)) pass0 (pa_cons (pv 0) (pa_cons (pv 1) (pa_cons (pv 2) (pa_cons (pv 3) (pa_cons (pv 4) pa_nil)))))))
    (pss_one (ps_ret (pe_callB call_len' (by rfl) T.n_len (by decide +kernel) (pa_cons (pe_fd (F_all_widths (P := P) (w := w) (base := base) T) hg (hr.mono (by decide)) pass0 (pa_cons (pv 0) (pa_cons (pv 2) (pa_cons (pv 3) (pa_cons (pv 4) pa_nil))))) pa_nil))))), ?_⟩
  rw [show L2.start ["code", "name", "many", "evidence", "factor"] [v0, v1, v2, v3, v4] = [some v0, some v1, some v2, some v3, some v4] from rfl]
  try dsimp only [xK]
  refine q_drop (d_call0 (a_cons (d_var rfl r0) (a_cons (d_var rfl r1) (a_cons (d_var rfl r2) (a_cons (d_var rfl r3) (a_cons (d_var rfl r4) a_nil))))) ⟨c, x, m, ev, fp, fq, rfl, ok, rfl⟩) hA fun G1 H1 e1 A1 => ?_
  exact s_ret (d := dN (allW c m fp fq ev).length) (TrD.to (d_cb (a_cons (d_call0 (a_cons (d_var rfl (r0.up e1)) (a_cons (d_var rfl (r2.up e1)) (a_cons (d_var rfl (r3.up e1)) (a_cons (d_var rfl (r4.up e1)) a_nil)))) ⟨c, x, m, ev, fp, fq, rfl, ok, rfl⟩) a_nil) rc_lenL) (by rw [List.length_map]; rfl)) A1 (q.mono e1)
def R_nth : List PyData → PyData → Prop := fun ds r => ∃ (c : CodeD) (x : Str) (m : Nat) (ev : List (Str × List Nat)) (p q i : Nat) (ws : List Nat), ds = [c.d, .str x, dN m, dEv ev, dF p q, dN i] ∧ okAsk c x m ev p q ∧ (allW c m p q ev)[i]? = some ws ∧ r = dT ws
theorem F_nth_widths (T : Tx K mg) : Fd P w K mg base CX0 8 "nth_widths" (PSp K R_nth) [] := by
  obtain ⟨fd, F⟩ := T.f_nth_widths
  refine ⟨_, fd, ["code", "name", "many", "evidence", "factor", "index"], [], T.g_nth_widths, F.kp, F.bindsN fun _ _ _ _ _ _ us hl => match us, hl with | [_, _, _, _, _, _], _ => rfl, .nil, ?_⟩
  refine fnG_of F sc_nth_widths (fun vs H Q E h => PSp.len (n := 6) (by rintro _ _ ⟨d, e, f, g, h, i, j, k, rfl, _⟩; rfl) h) (fun cdv A outer s H vs Q E hg hr h => ?_)
  obtain ⟨G, M, ds, r, hA, hR, ⟨c, x, m, ev, fp, fq, ix, ws, rfl, ok, hix, rfl⟩, q⟩ := h
  obtain ⟨v0, _, rfl, r0, v1, _, rfl, r1, v2, _, rfl, r2, v3, _, rfl, r3, v4, _, rfl, r4, v5, _, rfl, r5, rfl⟩ := hR
  refine ⟨_, PSs.nox (pss_cons (ps_expr (pe_fd (F_require_asked (P := P) (w := w) (base := base) T) hg (hr.mono (by decide)) pass0 (pa_cons (pv 0) (pa_cons (pv 1) (pa_cons (pv 2) (pa_cons (pv 3) (pa_cons (pv 4) pa_nil)))))))
    (pss_cons (ps_set (i := 6) sc_nth_widths.nd rfl (by first | exact Or.inl rfl | exact Or.inr rfl) (pe_fd (F_all_widths (P := P) (w := w) (base := base) T) hg (hr.mono (by decide)) pass0 (pa_cons (pv 0) (pa_cons (pv 2) (pa_cons (pv 3) (pa_cons (pv 4) pa_nil))))))
    (pss_cons (ps_expr (pe_fd (F_require_index (P := P) (w := w) (base := base) T) hg (hr.mono (by decide)) pass0 (pa_cons (pv 5) (pa_cons (pe_callB call_len' (by rfl) T.n_len (by decide +kernel) (pa_cons (pv 6) pa_nil)) pa_nil))))
    (pss_one (ps_ret (pe_ix ix_list (pv 6) (pv 5) (fun _ _ => rfl))))))), ?_⟩
  rw [show L2.start ["code", "name", "many", "evidence", "factor", "index", "found"] [v0, v1, v2, v3, v4, v5] = [some v0, some v1, some v2, some v3, some v4, some v5, none] from rfl]
  try dsimp only [xK]
  have hl := (List.getElem?_eq_some_iff.mp hix).1
  refine q_drop (d_call0 (a_cons (d_var rfl r0) (a_cons (d_var rfl r1) (a_cons (d_var rfl r2) (a_cons (d_var rfl r3) (a_cons (d_var rfl r4) a_nil))))) ⟨c, x, m, ev, fp, fq, rfl, ok, rfl⟩) hA fun G1 H1 e1 A1 => ?_
  refine q_set (d := .list ((allW c m fp fq ev).map dT)) (d_call0 (a_cons (d_var rfl (r0.up e1)) (a_cons (d_var rfl (r2.up e1)) (a_cons (d_var rfl (r3.up e1)) (a_cons (d_var rfl (r4.up e1)) a_nil)))) ⟨c, x, m, ev, fp, fq, rfl, ok, rfl⟩) A1 fun v6 G2 H2 e2 A2 r6 => ?_
  refine q_drop (d_call0 (a_cons (d_var rfl (r5.up (e1.trans e2))) (a_cons (d_cb (a_cons (d_var rfl r6) a_nil) rc_lenL) a_nil)) ⟨ix, (allW c m fp fq ev).length, by rw [List.length_map]; rfl, hl, rfl⟩) A2 fun G3 H3 e3 A3 => ?_
  refine s_ret (d := dT ws) (d_op (d_var rfl (r6.up e3)) (d_var rfl (r5.up ((e1.trans e2).trans e3))) (rd_ixL ?_)) A3 (q.mono ((e1.trans e2).trans e3))
  rw [at_dat (by rw [List.length_map]; exact hl), List.getElem_map]
  rw [List.getElem?_eq_getElem hl] at hix
  rw [Option.some.inj hix]
def sameJ (L : List (List Nat)) (j : Nat) : Bool := L.all fun row => decide (row.getD j 0 = (L.getD 0 []).getD j 0)
def sureD (L : List (List Nat)) (m : Nat) : PyData := if L = [] then .none else .tuple ((List.range m).map fun j => if sameJ L j = true then dN ((L.getD 0 []).getD j 0) else .none)
def R_sure : List PyData → PyData → Prop := fun ds r => ∃ (c : CodeD) (x : Str) (m : Nat) (ev : List (Str × List Nat)) (p q : Nat), ds = [c.d, .str x, dN m, dEv ev, dF p q] ∧ okAsk c x m ev p q ∧ r = sureD (allW c m p q ev) m
theorem F_sure_widths (T : Tx K mg) : Fd P w K mg base CX0 8 "sure_widths" (PSp K R_sure) [] := by
  obtain ⟨fd, F⟩ := T.f_sure_widths
  refine ⟨_, fd, ["code", "name", "many", "evidence", "factor"], [], T.g_sure_widths, F.kp, F.bindsN fun _ _ _ _ _ _ us hl => match us, hl with | [_, _, _, _, _], _ => rfl, .nil, ?_⟩
  refine fnG_of F sc_sure_widths (fun vs H Q E h => PSp.len (n := 5) (by rintro _ _ ⟨d, e, f, g, h, i, rfl, _⟩; rfl) h) (fun cdv A outer s H vs Q E hg hr h => ?_)
  obtain ⟨G, M, ds, r, hA, hR, ⟨c, x, m, ev, fp, fq, rfl, ok, rfl⟩, q⟩ := h
  obtain ⟨v0, _, rfl, r0, v1, _, rfl, r1, v2, _, rfl, r2, v3, _, rfl, r3, v4, _, rfl, r4, rfl⟩ := hR
  refine ⟨_, PSs.nox (pss_cons (ps_expr (pe_fd (F_require_asked (P := P) (w := w) (base := base) T) hg (hr.mono (by decide)) pass0 (pa_cons (pv 0) (pa_cons (pv 1) (pa_cons (pv 2) (pa_cons (pv 3) (pa_cons (pv 4) pa_nil)))))))
    (pss_cons (ps_set (i := 5) sc_sure_widths.nd rfl (by first | exact Or.inl rfl | exact Or.inr rfl) (pe_fd (F_all_widths (P := P) (w := w) (base := base) T) hg (hr.mono (by decide)) pass0 (pa_cons (pv 0) (pa_cons (pv 2) (pa_cons (pv 3) (pa_cons (pv 4) pa_nil))))))
    (pss_cons (ps_if (pt_cmpR (op_eqR hr.units) (pv 5) (pe_lst pa_nil) (nomark _)) (pss_one (ps_ret pe_non)) pss_nil)
    (pss_cons (ps_setLc (i := 6) (own := [("index", 7)]) (g := gName 7) (by rfl) sc_sure_widths.nd rfl rfl (sw_true rfl rfl rfl (by decide +kernel)) (pi_range1 (by rfl) T.n_range (pa_cons (pv 2) pa_nil)) (blkOk_by (own := [("index", 7)]) (N := ["code", "name", "many", "evidence", "factor", "found", "same", "index", "row", "width", "is_same"]) (sc := defScope s_sure_widths) (by decide +kernel)) (fun _ _ _ _ _ => (pg_name (i := 7) sc_sure_widths.nd rfl (by first | exact Or.inl rfl | exact Or.inr rfl))) (fun _ _ _ _ _ => pts_nil) (fun _ _ _ _ _ => (pe_callB (show CallR _ (.builtin "all") (rAll K) from (cr_all rfl)) (by rfl) T.n_all (by decide +kernel) (pa_cons (pe_lc (wi := iList K _) (own := [("row", 8)]) (g := gName 8) (by rfl) sc_sure_widths.nd (pi_list (pv 5)) (blkIn (own := [("row", 8)]) (N := ["code", "name", "many", "evidence", "factor", "found", "same", "index", "row", "width", "is_same"]) (sc := defScope s_sure_widths) rfl rfl (by decide +kernel)) (fun _ _ _ _ _ => (pg_name (i := 8) sc_sure_widths.nd rfl (by first | exact Or.inl rfl | exact Or.inr rfl))) (fun _ _ _ _ _ => pts_nil) (fun _ _ _ _ _ => (pe_cmpR op_eq (pe_ix (show IxR _ (rIxT K) from ix_tup) (pv 8) (pv 7) (fun _ _ => rfl)) (pe_ix (show IxR _ (rIxT K) from ix_tup) (pe_ix (show IxR _ (rIxL K) from ix_list) (pv 5) pe_int (fun _ _ => rfl)) (pv 7) (fun _ _ => rfl)) (nomark _)))) pa_nil))))
    (pss_one (ps_ret (pe_callTy call_tupOf (by rfl) T.n_tuple (by decide +kernel) (pa_cons (pe_lc (own := [("width", 9), ("is_same", 10)]) (g := gTup K 2 (gCons (gName 9) (gCons (gName 10) gNil))) (by rfl) sc_sure_widths.nd (pi_zipM (by rfl) T.n_zip (pa_cons (pe_ix ix_list (pv 5) pe_int (fun _ _ => rfl)) (pa_cons (pv 6) pa_nil))) (blkOk_by (own := [("width", 9), ("is_same", 10)]) (N := ["code", "name", "many", "evidence", "factor", "found", "same", "index", "row", "width", "is_same"]) (sc := defScope s_sure_widths) (by decide +kernel)) (fun _ _ _ _ _ => (pg_tup (by rfl) (pgs_cons (pg_name (i := 9) sc_sure_widths.nd rfl (by first | exact Or.inl rfl | exact Or.inr rfl)) (pgs_cons (pg_name (i := 10) sc_sure_widths.nd rfl (by first | exact Or.inl rfl | exact Or.inr rfl)) pgs_nil)))) (fun _ _ _ _ _ => pts_nil) (fun _ _ _ _ _ => (pe_ifExp (pt_val (pv 10)) (pv 9) pe_non))) pa_nil)))))))), ?_⟩
  rw [show L2.start ["code", "name", "many", "evidence", "factor", "found", "same", "index", "row", "width", "is_same"] [v0, v1, v2, v3, v4] = [some v0, some v1, some v2, some v3, some v4, none, none, none, none, none, none] from rfl]
  try dsimp only [xK]
  have m3 := ok.m3
  have hlens := allW_len (c := c) (m := m) (p := fp) (q := fq) (ev := ev)
  have hfew := allW_few (c := c) (m := m) (p := fp) (q := fq) (ev := ev) m3
  refine q_drop (d_call0 (a_cons (d_var rfl r0) (a_cons (d_var rfl r1) (a_cons (d_var rfl r2) (a_cons (d_var rfl r3) (a_cons (d_var rfl r4) a_nil))))) ⟨c, x, m, ev, fp, fq, rfl, ok, rfl⟩) hA fun G1 H1 e1 A1 => ?_
  refine q_set (d := .list ((allW c m fp fq ev).map dT)) (d_call0 (a_cons (d_var rfl (r0.up e1)) (a_cons (d_var rfl (r2.up e1)) (a_cons (d_var rfl (r3.up e1)) (a_cons (d_var rfl (r4.up e1)) a_nil)))) ⟨c, x, m, ev, fp, fq, rfl, ok, rfl⟩) A1 fun v5 G2 H2 e2 A2 r5 => ?_
  generalize hL : allW c m fp fq ev = L at q hlens hfew r5
  have heq : TrB (tTest (tOp (rEqR K) (tVar 5) (tLst tNil))) [some v0, some v1, some v2, some v3, some v4, some v5, none, none, none, none, none] G2 (L.map dT).isEmpty :=
    TrB.to (b_T (d_op (d_var rfl r5) (d_lst a_nil) (rd_eqR (shaped_T L) rfl))) (by rw [eqv_nil])
  cases L with
  | nil =>
    refine q_guardR (TrB.to heq rfl) A2 fun G3 H3 e3 A3 => ?_
    exact s_ret (d := .none) d_non A3 (q.mono ((e1.trans e2).trans e3))
  | cons l0 L =>
    refine q_guardF (TrB.to heq rfl) A2 fun G3 H3 e3 A3 => ?_
    have hl0 : l0.length = m := hlens l0 (List.mem_cons_self ..)
    have e03 := (e1.trans e2).trans e3
    have r5' := r5.up e3
    have at0 : L2.atI ((l0 :: L).map dT) 0 = some (dT l0) := at_dat (ds := (l0 :: L).map dT) (k := 0) (by rw [List.length_map, List.length_cons]; omega)
    have atJ : ∀ (ws : List Nat) (j : Nat), ws.length = m → j < m → L2.atI (dNs ws) (j : Int) = some (dN (ws.getD j 0)) := fun ws j h1 h2 => by
      unfold dNs
      rw [at_dat (by rw [List.length_map]; omega), List.getElem_map, List.getD_eq_getElem?_getD, List.getElem?_eq_getElem (by omega)]
      rfl
    refine q_set (d := .list ((List.range m).map fun j => .bool (sameJ (l0 :: L) j))) (d_lcR (n := m) (d_var rfl (r2.up e03)) (by omega) fun j hj G4 e4 => ?_) A3 fun v6 G4 H4 e4 A4 r6 => ?_
    · refine TrD.to (d_cb (a_cons (TrD.to (d_lcL (p := fun _ => true) (f := fun d => match d with | .tuple ds => .bool (decide ((natOf ds).getD j 0 = l0.getD j 0)) | _ => .none) (d_var rfl (r5'.up e4)) (by rw [List.length_map]; omega) (fun _ _ _ _ _ _ => b_yes) fun d hd _ y G5 e5 ry => ?_) (d2 := .list (((l0 :: L).map fun ws => decide (ws.getD j 0 = l0.getD j 0)).map .bool)) ?_) a_nil) rc_all) ?_
      · obtain ⟨ws, hws, rfl⟩ := List.mem_map.mp hd
        refine TrD.to (d_op (d_op (d_var rfl ry) (d_var rfl (d := .int (j : Int)) rfl) (rd_ixT (atJ ws j (hlens ws hws) hj))) (d_op (d_op (d_var rfl (r5'.up (e4.trans e5))) d_int (rd_ixL (d := dT l0) at0)) (d_var rfl (d := .int (j : Int)) rfl) (rd_ixT (atJ l0 j hl0 hj))) rd_eqI) ?_
        show PyData.bool _ = PyData.bool (decide ((natOf (dNs ws)).getD j 0 = l0.getD j 0))
        rw [natOf_d]
        congr 1
        exact decide_eq_decide.mpr Int.ofNat_inj
      · rw [filt_true, List.map_map, List.map_map]
        refine congrArg PyData.list (List.map_congr_left fun ws _ => ?_)
        show PyData.bool (decide ((natOf (dNs ws)).getD j 0 = l0.getD j 0)) = PyData.bool (decide (ws.getD j 0 = l0.getD j 0))
        rw [natOf_d]
      · rw [all_map]
        rfl
    · refine s_ret (d := sureD (l0 :: L) m) (TrD.to (d_cb (a_cons (TrD.to (d_lcZ (i := 9) (j := 10) (ds := dNs l0) (es := (List.range m).map fun j => .bool (sameJ (l0 :: L) j)) (f := fun p => match p.2 with | .bool true => p.1 | _ => .none) (by decide) (a_cons (d_op (d_var rfl (r5'.up e4)) d_int (rd_ixL (d := dT l0) at0)) (a_cons (d_var rfl r6) a_nil)) (by rw [dNs_len, hl0, List.length_map, List.length_range]) (by rw [dNs_len]; omega) rfl fun k d e hd he y z G5 e5 ry rz => ?_) (d2 := .list ((List.range m).map fun j => if sameJ (l0 :: L) j = true then dN (l0.getD j 0) else .none)) ?_) a_nil) rc_tupL) ?_) A4 (q.mono (e03.trans e4))
      · rw [List.getElem?_map] at he
        obtain ⟨j, _, rfl⟩ := Option.map_eq_some_iff.mp he
        refine d_if (b_B (d_var rfl rz)) (fun hb => ?_) fun hb => ?_
        · show TrD K _ _ _ (match PyData.bool (sameJ (l0 :: L) j) with | .bool true => d | _ => .none)
          rw [hb]
          exact d_var rfl ry
        · show TrD K _ _ _ (match PyData.bool (sameJ (l0 :: L) j) with | .bool true => d | _ => .none)
          rw [hb]
          exact d_non
      · refine congrArg PyData.list (List.ext_getElem? fun k => ?_)
        rw [List.getElem?_map, List.getElem?_map]
        by_cases hk : k < m
        · have h1 : (dNs l0)[k]? = some (dN (l0.getD k 0)) := by
            unfold dNs
            rw [List.getElem?_map, List.getD_eq_getElem?_getD, List.getElem?_eq_getElem (by omega)]
            rfl
          have h2 : ((List.range m).map fun j => PyData.bool (sameJ (l0 :: L) j))[k]? = some (.bool (sameJ (l0 :: L) k)) := by
            rw [List.getElem?_map, List.getElem?_range hk]
            rfl
          rw [List.getElem?_zip_eq_some.mpr (show (dNs l0)[k]? = some (dN (l0.getD k 0), PyData.bool (sameJ (l0 :: L) k)).1 ∧ _ = some (dN (l0.getD k 0), PyData.bool (sameJ (l0 :: L) k)).2 from ⟨h1, h2⟩), List.getElem?_range hk]
          show some (match PyData.bool (sameJ (l0 :: L) k) with | .bool true => dN (l0.getD k 0) | _ => .none) = some (if sameJ (l0 :: L) k = true then dN (l0.getD k 0) else .none)
          cases sameJ (l0 :: L) k <;> rfl
        · rw [List.getElem?_eq_none (by rw [List.length_zip, dNs_len]; omega), List.getElem?_eq_none (l := List.range m) (by rw [List.length_range]; omega)]
          rfl
      · unfold sureD
        rw [if_neg (by simp)]
        rfl
end
end K96

namespace K96
open PySem PySem.Spec PyProof.Rows L2 Sb
local macro_rules | `(tactic| walk_at "ex") => `(tactic| first | exact Ex.refl _ | assumption | (refine' Ex.trans ?_ (by assumption); walk_at "ex"))
local macro_rules | `(tactic| walk_at "rp") => `(tactic| first | assumption | (refine' Rp.up ?e (by assumption); (case e => walk_at "ex")) | exact rfl)
local macro_rules | `(tactic| walk_at "rd") => `(tactic| with_reducible first | exact rd_add | exact rd_sub | exact rd_lt | exact rd_le | exact rd_gt | exact rd_ge | exact rd_eqI | exact rd_neI | exact rd_eqS | exact rd_neS | exact rd_isN | exact rd_ltS | exact rd_inSign | exact rd_eqE)
local macro_rules | `(tactic| walk_at "tr") => `(tactic| first
  | with_reducible exact d_int
  | with_reducible exact d_str
  | with_reducible exact d_bl
  | with_reducible exact d_non
  | with_reducible exact a_nil
  | with_reducible exact b_yes
  | with_reducible exact o_none
  | with_reducible exact d_newD
  | ((with_reducible refine' d_var ?i ?r); (case i => rfl); (case r => walk_at "rp"))
  | ((with_reducible refine' a_cons ?a ?b); (case a => walk_at "tr"); (case b => walk_at "tr"))
  | ((with_reducible refine' a_star ?a ?b); (case a => walk_at "tr"); (case b => walk_at "tr"))
  | ((with_reducible refine' d_isi ?a ?b); (case a => walk_at "tr"); (case b => decide))
  | ((with_reducible refine' d_op ?a ?b ?c); (case a => walk_at "tr"); (case b => walk_at "tr"); (case c => walk_at "rd"))
  | ((with_reducible refine' d_tup ?a ?b); (case a => walk_at "tr"); (case b => first | decide | (simp; done)))
  | ((with_reducible refine' d_lst ?a ?b); (case a => walk_at "tr"); (case b => first | decide | (simp; done)))
  | ((with_reducible refine' o_some ?a); (case a => walk_at "tr"))
  | ((with_reducible refine' b_B ?a); (case a => walk_at "tr"))
  | ((with_reducible refine' b_T ?a); (case a => walk_at "tr"))
  | ((with_reducible refine' b_not ?a); (case a => walk_at "tr"))
  | ((with_reducible refine' v_not ?a); (case a => walk_at "tr"))
  | ((with_reducible refine' b_or ?a ?b); (case a => walk_at "tr"); (case b => intro _; walk_at "tr"))
  | ((with_reducible refine' b_and ?a ?b); (case a => walk_at "tr"); (case b => intro _; walk_at "tr"))
  | ((with_reducible refine' v_or ?a ?b); (case a => walk_at "tr"); (case b => intro _; walk_at "tr"))
  | ((with_reducible refine' v_and ?a ?b); (case a => walk_at "tr"); (case b => intro _; walk_at "tr"))
  | assumption)


section
variable {P : Program} {w : World} {K : PySem.W.Frag} {mg : Str → Option Value} {base : Heap}
theorem F__law_dip (T : Tx K mg) : Fd P w K mg base CX0 1 "_law_dip" (ESp K R_spin) [] := by
  obtain ⟨fd, F⟩ := T.f__law_dip
  refine ⟨_, fd, ["fount", "many"], [], T.g__law_dip, F.kp, F.bindsN fun _ _ _ _ _ _ us hl => match us, hl with | [_, _], _ => rfl, .nil, ?_⟩
  refine fnG_of F sc__law_dip (fun vs H Q E h => ESp.len (n := 1) (by rintro _ _ _ ⟨d, rfl, _⟩; rfl) h) (fun cdv A outer s H vs Q E hg hr h => ?_)
  obtain ⟨r, ws, G, M, n, k, ds, Φ, rfl, hA, hRL, hws, ⟨size, rfl, h0, h1, rfl, rfl⟩, hn, q⟩ := h
  obtain ⟨v1, _, rfl, r1, rfl⟩ := hws
  obtain ⟨a, b, c, hM, hb0, hb1, hc⟩ := hRL
  refine ⟨_, PSs.nox (pss_cons (ps_if (pt_cmpR op_gt (pe_ix ix_list (pv 0) pe_int (fun _ _ => rfl)) pe_int (nomark _)) (pss_cons (ps_set (i := 2) sc__law_dip.nd rfl (by first | exact Or.inl rfl | exact Or.inr rfl) (pe_op op_mod (pe_callTy call_int1' (by rfl) T.n_int (by decide +kernel) (pa_cons (pe_ix ix_list (pv 0) pe_int (fun _ _ => rfl)) pa_nil)) (pv 1))) (pss_cons (ps_asg (pe_op op_fdivW (pe_ix ix_list (pv 0) pe_int (fun _ _ => rfl)) (pv 1)) (pg_sub (pv 0) pe_int set_list)) (pss_one (ps_ret (pv 2))))) pss_nil)
    (pss_cons (ps_asg (pe_op op_add (pe_ix ix_list (pv 0) pe_int (fun _ _ => rfl)) pe_int) (pg_sub (pv 0) pe_int set_list))
    (pss_cons (ps_set (i := 3) sc__law_dip.nd rfl (by first | exact Or.inl rfl | exact Or.inr rfl) (pe_op op_mod (pe_callTy call_int1' (by rfl) T.n_int (by decide +kernel) (pa_cons (pe_op op_powW (pe_op op_add (pe_ix ix_list (pv 0) pe_int (fun _ _ => rfl)) (pe_op op_mulW pe_int (pe_ix ix_list (pv 0) pe_int (fun _ _ => rfl)))) pe_int) pa_nil)) (pe_op op_add (pe_op op_pow pe_int pe_int) pe_int)))
    (pss_cons (ps_set (i := 3) sc__law_dip.nd rfl (by first | exact Or.inl rfl | exact Or.inr rfl) (pe_op op_mod (pe_callTy call_int1' (by rfl) T.n_int (by decide +kernel) (pa_cons (pe_op op_powW (pe_op op_add (pv 3) (pe_op op_mulW pe_int (pe_ix ix_list (pv 0) pe_int (fun _ _ => rfl)))) pe_int) pa_nil)) (pe_op op_add (pe_op op_pow pe_int pe_int) pe_int)))
    (pss_one (ps_ret (pe_op op_mod (pe_callTy call_int1' (by rfl) T.n_int (by decide +kernel) (pa_cons (pe_op op_fdivW (pv 3) (pe_op op_pow pe_int pe_int)) pa_nil)) (pv 1)))))))), ?_⟩
  rw [show L2.start ["fount", "many", "digit", "mixed"] [(.ref r), v1] = [some (.ref r), some v1, none, none] from rfl]
  dsimp only [xK]
  have hG : G r = none := hA.d _ _ hM
  have hN : cutG M r r = none := cut_none
  rw [← cut_eq hM] at hA
  have rl : ∀ (Gx : Hp) (a b : Int) (c : Int), Rp K (upd Gx r (.lst [.int a, .int b, .int c])) (.list [.int a, .int b, .int c]) (.ref r) := fun Gx a b c => ⟨r, _, rfl, upd_same, (rpL_ints [a, b, c]).mpr rfl⟩
  have nG : ∀ {Gx Hx : Hp} {o : HO}, At Gx (upd (cutG M r) r o) Hx → Gx r = none := fun A => A.d _ _ upd_same
  have eU : ∀ {Gx : Hp} {o : HO}, Gx r = none → Ex Gx (upd Gx r o) := fun h => Ex.new h
  have hsz : size.natAbs.log2 < 9000 := by
    have e : size.natAbs < 2 ^ 200 := Nat.lt_of_le_of_lt (show size.natAbs ≤ 1000000000000000000000000000000000 by omega) (by decide)
    exact Nat.lt_trans (log_lt e (by decide)) (by decide)
  refine s_seq (s_iffz (b_T (d_op (d_op (d_var rfl (rl _ _ _ _)) d_int (rd_ixL rfl)) d_int rd_gt)) hG hN hA (fun hb G1 H1 e1 A1 => ?_) (fun hb G1 H1 e1 A1 => ?_))
  · refine q_setfz (d_op (d_cb (a_cons (d_op (d_var rfl (rl _ _ _ _)) d_int (rd_ixL rfl)) a_nil) rc_int1) (d_var rfl (r1.up (e1.trans (eU (nG A1))))) (rd_mod h0)) rfl (nG A1) hN A1 fun v2 G2 H2 e2 A2 r2 => ?_
    refine q_setIxfz (j := 0) (d_op (d_op (d_var rfl (rl _ _ _ _)) d_int (rd_ixL rfl)) (d_var rfl (r1.up ((e1.trans e2).trans (eU (nG A2))))) (rd_fdiv ⟨h0, hsz⟩)) rfl (nG A2) hN A2 rfl rfl fun v3 G3 H3 e3 A3 r3 => ?_
    refine ⟨v2, rfl, ?_⟩
    rw [show v3 = V.int _ from r3] at A3
    refine q _ v2 G3 _ H3 ((e1.trans e2).trans e3) A3 (fun x hx => by rw [upd_ne hx]; exact if_neg hx) ⟨_, b, c, upd_same, hb0, hb1, by omega⟩ (mod_RI h0) (r2.up e3)
  · refine s_next ?_
    have hc6 : c < 1000000 := by omega
    refine q_setIxfz (j := 2) (d_op (d_op (d_var rfl (rl _ _ _ _)) d_int (rd_ixL rfl)) d_int rd_add) rfl (nG A1) hN A1 rfl rfl fun v3 G2 H2 e2 A2 r3 => ?_
    rw [show v3 = V.int _ from r3] at A2
    have A2' : At G2 (upd (cutG M r) r (.lst [.int a, .int b, .int ((c : Int) + 1)])) H2 := A2
    have t43 : (10 : Int) ^ 43 = 10000000000000000000000000000000000000000000 := rfl
    have t200 : (2 : Nat) ^ 200 = 1606938044258990275541962092341162602522202993782792835301376 := rfl
    have p44 : (0 : Int) < 10 ^ (42 : Int).toNat + 63 := by decide
    have p41 : (0 : Int) < 10 ^ (40 : Int).toNat + 121 := by decide
    refine q_setfz (d_op (d_cb (a_cons (d_op (d_op (d_op (d_var rfl (rl _ _ _ _)) d_int (rd_ixL rfl)) (d_op d_int (d_op (d_var rfl (rl _ _ _ _)) d_int (rd_ixL rfl)) (rd_mul (mul_ok (by decide) (by rw [t200]; omega)))) rd_add) d_int (rd_powW (bits_ok (by rw [t200]; omega) (by decide) (by decide)))) a_nil) rc_int1)
      (d_op (d_op d_int d_int (rd_pow ⟨by decide, by decide, by decide⟩)) d_int rd_add) (rd_mod p44)) rfl (nG A2') hN A2' fun v4 G3 H3 e3 A3 r4 => ?_
    generalize hz : (b + 49979687 * ((c : Int) + 1)) ^ (3 : Int).toNat = z at r4
    have z0 := Int.emod_nonneg z (Int.ne_of_gt p44)
    have z1 := Int.emod_lt_of_pos z p44
    have e44 : (10 : Int) ^ (42 : Int).toNat = 1000000000000000000000000000000000000000000 := rfl
    rw [e44] at z0 z1
    refine q_setfz (d_op (d_cb (a_cons (d_op (d_op (d_var rfl (r4.up (eU (nG A3)))) (d_op d_int (d_op (d_var rfl (rl _ _ _ _)) d_int (rd_ixL rfl)) (rd_mul (mul_ok (by decide) (by rw [t200]; omega)))) rd_add) d_int (rd_powW (bits_ok (by rw [t200, e44]; omega) (by decide) (by decide)))) a_nil) rc_int1)
      (d_op (d_op d_int d_int (rd_pow ⟨by decide, by decide, by decide⟩)) d_int rd_add) (rd_mod p41)) rfl (nG A3) hN A3 fun v5 G4 H4 e4 A4 r5 => ?_
    refine w_D (d_op (d_cb (a_cons (d_op (d_var rfl r5) (d_op d_int d_int (rd_pow ⟨by decide, by decide, by decide⟩)) (rd_fdiv ⟨by decide, by decide⟩)) a_nil) rc_int1) (d_var rfl (r1.up (((e1.trans e2).trans e3).trans e4))) (rd_mod h0)) A4 fun v6 G5 H5 e5 A5 r6 => ?_
    refine q _ v6 G5 _ H5 ((((e1.trans e2).trans e3).trans e4).trans e5) A5 (fun x hx => by rw [upd_ne hx]; exact if_neg hx) ⟨a, b, c + 1, upd_same, hb0, hb1, by omega⟩ (mod_RI h0) r6
def R_wid : List PyData → Nat → (PyData → Prop) → Prop := fun ds k Φ => ∃ lo hi : Nat, ds = [.int lo, .int hi] ∧ lo ≤ hi ∧ hi ≤ 100 ∧ k = hi + 2 ∧ Φ = IsW lo hi
theorem F__law_widths (T : Tx K mg) : Fd P w K mg base CX0 2 "_law_widths" (ESp K R_wid) [] := by
  obtain ⟨fd, F⟩ := T.f__law_widths
  refine ⟨_, fd, ["fount", "least", "most"], [], T.g__law_widths, F.kp, F.bindsN fun _ _ _ _ _ _ us hl => match us, hl with | [_, _, _], _ => rfl, .nil, ?_⟩
  refine fnG_of F sc__law_widths (fun vs H Q E h => ESp.len (n := 2) (by rintro _ _ _ ⟨d, e, rfl, _⟩; rfl) h) (fun cdv A outer s H vs Q E hg hr h => ?_)
  obtain ⟨r, ws, G, M, n, k, ds, Φ, rfl, hA, hRL, hws, ⟨lo, hi, rfl, h0, h1, rfl, rfl⟩, hn, q⟩ := h
  obtain ⟨v1, _, rfl, r1, v2, _, rfl, r2, rfl⟩ := hws
  refine ⟨_, PSs.nox (pss_cons (ps_set (i := 3) sc__law_widths.nd rfl (by first | exact Or.inl rfl | exact Or.inr rfl) (pe_ix ix_list (pe_lst (pa_cons pe_int (pa_cons pe_int (pa_cons pe_int pa_nil)))) (pe_fd (F__law_dip (P := P) (w := w) (base := base) T) hg (hr.mono (by decide)) pass0 (pa_cons (pv 0) (pa_cons pe_int pa_nil))) (fun _ _ => rfl)))
    (pss_one (ps_ret (pe_callTy call_tupOf (by rfl) T.n_tuple (by decide +kernel) (pa_cons (pe_lc (own := [("turn", 4)]) (g := gName 4) (by rfl) sc__law_widths.nd (pi_range1 (by rfl) T.n_range (pa_cons (pe_op op_add (pv 1) (pe_fd (F__law_dip (P := P) (w := w) (base := base) T) hg (hr.mono (by decide)) pass0 (pa_cons (pv 0) (pa_cons (pe_op op_add (pe_op op_sub (pv 2) (pv 1)) pe_int) pa_nil)))) pa_nil)) (blkOk_by (own := [("turn", 4)]) (N := ["fount", "least", "most", "top", "turn"]) (sc := defScope s__law_widths) (by decide +kernel)) (fun _ _ _ _ _ => (pg_name (i := 4) sc__law_widths.nd rfl (by first | exact Or.inl rfl | exact Or.inr rfl))) (fun _ _ _ _ _ => pts_nil) (fun _ _ _ _ _ => (pe_op op_add pe_int (pe_fd (F__law_dip (P := P) (w := w) (base := base) T) hg (hr.mono (by decide)) pass0 (pa_cons (pv 0) (pa_cons (pv 3) pa_nil)))))) pa_nil))))), ?_⟩
  rw [show L2.start ["fount", "least", "most", "top", "turn"] [(.ref r), v1, v2] = [some (.ref r), some v1, some v2, none, none] from rfl]
  try dsimp only [xK]
  refine q_setE (M0 := M) (n := n) (n' := n + 1) (Φ := fun d => ∃ t : Int, d = .int t ∧ 2 ≤ t ∧ t ≤ 4) (e_op (Φ1 := fun d => d = .list [.int 2, .int 4, .int 4]) (Φ2 := RI 0 2) (e_D (d_lst (a_cons d_int (a_cons d_int (a_cons d_int a_nil))) (by show 3 ≤ 100000; decide)) rfl) (fun _ _ => spin_c rfl (by decide) (by decide) (by omega)) ?_) hA .refl hRL fun d v3 G1 M1 H1 e1 A1 S1 R1 hd r3 => ?_
  · rintro _ _ rfl ⟨i, rfl, h2, h3⟩
    obtain ⟨e, he, hc⟩ := three_at (a := .int 2) (b := .int 4) (c := .int 4) h2 h3
    refine ⟨e, rd_ixL he, ?_⟩
    rcases hc with rfl | rfl | rfl
    · exact ⟨2, rfl, by decide, by decide⟩
    · exact ⟨4, rfl, by decide, by decide⟩
    · exact ⟨4, rfl, by decide, by decide⟩
  obtain ⟨top, rfl, t2, t4⟩ := hd
  refine s_retE (M0 := M) (n := n + 1) (n' := n + (hi + 2)) (Φ := IsW lo hi) (e_cb (Ψ := fun ds => ∃ d ws, ds = [d] ∧ d = .list (dInts ws) ∧ okW lo hi ws) (ea_cons (Φ := fun d => ∃ ws, d = .list (dInts ws) ∧ okW lo hi ws) ((e_lcR (m := n + 2) (c := hi) (step := 1) (Φ0 := fun z => (lo : Int) ≤ z ∧ z ≤ hi) (Φ1 := RI 1 4) (Φ := fun d => ∃ ws, d = .list (dInts ws) ∧ okW lo hi ws) ?_ (by omega) (fun M1 x t ht => ?_) fun z ds hz hl hall => ?_).le (by omega)) fun d hd => ea_nil ?_) fun ds hds => ?_) A1 S1 R1 fun d v G' M' H' e' => q d v G' M' H' (e1.trans e')
  · refine e_op (Φ1 := fun d => d = .int lo) (Φ2 := RI 0 (hi - lo)) (e_D (d_var rfl (r1.up e1)) rfl) (fun _ _ => spin_call rfl (e_D (d_op (d_op (d_var rfl (r2.up e1)) (d_var rfl (r1.up e1)) rd_sub) d_int rd_add) ⟨_, rfl, by omega, by omega, fun d h => ?_⟩) (by omega)) ?_
    · obtain ⟨i, rfl, h2, h3⟩ := h
      exact ⟨i, rfl, h2, by omega⟩
    · rintro _ _ rfl ⟨i, rfl, h2, h3⟩
      exact ⟨_, rd_add, _, rfl, ⟨by omega, by omega⟩, by omega, by omega⟩
  · refine e_op (Φ1 := fun d => d = .int 1) (Φ2 := RI 0 3) (e_D d_int rfl) (fun _ _ => (spin_call (Φ := RI 0 3) rfl (e_D (d_var rfl r3) ⟨top, rfl, by omega, by omega, fun d h => ?_⟩) (by omega)).le (by omega)) ?_
    · obtain ⟨i, rfl, h2, h3⟩ := h
      exact ⟨i, rfl, h2, by omega⟩
    · rintro _ _ rfl ⟨i, rfl, h2, h3⟩
      exact ⟨_, rd_add, _, rfl, by omega, by omega⟩
  · obtain ⟨ns, rfl, hns⟩ := ints_of hall
    rw [dInts_len] at hl
    exact ⟨ns, rfl, by omega, by omega, hns⟩
  · obtain ⟨ws, rfl, ok⟩ := hd
    exact ⟨_, ws, rfl, rfl, ok⟩
  · obtain ⟨_, ws, rfl, rfl, ok⟩ := hds
    exact ⟨_, rc_tupL, ws, rfl, ok⟩
end
end K96

namespace K96
open PySem PySem.Spec PyProof.Rows L2 Sb
local macro_rules | `(tactic| walk_at "ex") => `(tactic| first | exact Ex.refl _ | assumption | (refine' Ex.trans ?_ (by assumption); walk_at "ex"))
local macro_rules | `(tactic| walk_at "rp") => `(tactic| first | assumption | (refine' Rp.up ?e (by assumption); (case e => walk_at "ex")) | exact rfl)
local macro_rules | `(tactic| walk_at "rd") => `(tactic| with_reducible first | exact rd_add | exact rd_sub | exact rd_lt | exact rd_le | exact rd_gt | exact rd_ge | exact rd_eqI | exact rd_neI | exact rd_eqS | exact rd_neS | exact rd_isN | exact rd_ltS | exact rd_inSign | exact rd_eqE)
local macro_rules | `(tactic| walk_at "tr") => `(tactic| first
  | with_reducible exact d_int
  | with_reducible exact d_str
  | with_reducible exact d_bl
  | with_reducible exact d_non
  | with_reducible exact a_nil
  | with_reducible exact b_yes
  | with_reducible exact o_none
  | with_reducible exact d_newD
  | ((with_reducible refine' d_var ?i ?r); (case i => rfl); (case r => walk_at "rp"))
  | ((with_reducible refine' a_cons ?a ?b); (case a => walk_at "tr"); (case b => walk_at "tr"))
  | ((with_reducible refine' a_star ?a ?b); (case a => walk_at "tr"); (case b => walk_at "tr"))
  | ((with_reducible refine' d_isi ?a ?b); (case a => walk_at "tr"); (case b => decide))
  | ((with_reducible refine' d_op ?a ?b ?c); (case a => walk_at "tr"); (case b => walk_at "tr"); (case c => walk_at "rd"))
  | ((with_reducible refine' d_tup ?a ?b); (case a => walk_at "tr"); (case b => first | decide | (simp; done)))
  | ((with_reducible refine' d_lst ?a ?b); (case a => walk_at "tr"); (case b => first | decide | (simp; done)))
  | ((with_reducible refine' o_some ?a); (case a => walk_at "tr"))
  | ((with_reducible refine' b_B ?a); (case a => walk_at "tr"))
  | ((with_reducible refine' b_T ?a); (case a => walk_at "tr"))
  | ((with_reducible refine' b_not ?a); (case a => walk_at "tr"))
  | ((with_reducible refine' v_not ?a); (case a => walk_at "tr"))
  | ((with_reducible refine' b_or ?a ?b); (case a => walk_at "tr"); (case b => intro _; walk_at "tr"))
  | ((with_reducible refine' b_and ?a ?b); (case a => walk_at "tr"); (case b => intro _; walk_at "tr"))
  | ((with_reducible refine' v_or ?a ?b); (case a => walk_at "tr"); (case b => intro _; walk_at "tr"))
  | ((with_reducible refine' v_and ?a ?b); (case a => walk_at "tr"); (case b => intro _; walk_at "tr"))
  | assumption)


theorem big39 : (10 : Int) ^ (39 : Int).toNat + 61 < 10000000000000000000000000000000000000000 := by decide
theorem nat39 {z : Int} (h0 : 0 ≤ z) (h1 : z < 10000000000000000000000000000000000000000) : z.natAbs < 2 ^ 200 := by
  have t200 : (2 : Nat) ^ 200 = 1606938044258990275541962092341162602522202993782792835301376 := rfl
  rw [t200]
  omega
theorem fin39 {z : Int} {ix : Nat} (h0 : 0 ≤ z) (h1 : z < 10000000000000000000000000000000000000000) (hx : ix ≤ 1000) : 0 ≤ z * 64 + 31 * (ix : Int) + 17 ∧ z * 64 + 31 * (ix : Int) + 17 < 10 ^ 43 := by
  have t43 : (10 : Int) ^ 43 = 10000000000000000000000000000000000000000000 := rfl
  rw [t43]
  omega
section
variable {P : Program} {w : World} {K : PySem.W.Frag} {mg : Str → Option Value} {base : Heap}
theorem F__law_fount (T : Tx K mg) : Fd P w K mg base CX0 1 "_law_fount" (S_reel K) [] := by
  obtain ⟨fd, F⟩ := T.f__law_fount
  refine ⟨_, fd, ["script", "k"], [], T.g__law_fount, F.kp, F.bindsN fun _ _ _ _ _ _ us hl => match us, hl with | [_, _], _ => rfl, .nil, ?_⟩
  refine fnG_of F sc__law_fount (fun vs H Q E h => by obtain ⟨_, _, _, _, _, rfl, _⟩ := h; rfl) (fun cdv A outer s H vs Q E hg hr h => ?_)
  obtain ⟨G, M, a, sc, ix, rfl, hA, hS, hl, hx, q⟩ := h
  refine ⟨_, PSs.nox (pss_cons (ps_set (i := 2) sc__law_fount.nd rfl (by first | exact Or.inl rfl | exact Or.inr rfl) (pe_ifExp (pt_cmpR op_lt (pv 1) (pe_callB call_len' (by rfl) T.n_len (by decide +kernel) (pa_cons (pv 0) pa_nil)) (nomark _)) (pe_callB call_abs' (by rfl) T.n_abs (by decide +kernel) (pa_cons (pe_callTy call_int1' (by rfl) T.n_int (by decide +kernel) (pa_cons (pe_ix ix_list (pv 0) (pv 1) (fun _ _ => rfl)) pa_nil)) pa_nil)) pe_int))
    (pss_one (ps_ret (pe_lst (pa_cons (pe_callB (call_max2' rfl) (by rfl) T.n_max (by decide +kernel) (pa_cons pe_int (pa_cons (pe_op op_sub (pv 2) (pe_op op_pow pe_int pe_int)) pa_nil))) (pa_cons (pe_op op_add (pe_op op_add (pe_op op_mulW (pe_op op_mod (pe_callTy call_int1' (by rfl) T.n_int (by decide +kernel) (pa_cons (pv 2) pa_nil)) (pe_op op_add (pe_op op_pow pe_int pe_int) pe_int)) pe_int) (pe_op op_mulW pe_int (pv 1))) pe_int) (pa_cons pe_int pa_nil))))))), ?_⟩
  rw [show L2.start ["script", "k", "cell"] [(.ref a), (.int ix)] = [some (.ref a), some (.int ix), none] from rfl]
  try dsimp only [xK]
  have p39 : (0 : Int) < 10 ^ (39 : Int).toNat + 61 := by decide
  have e39 : (10 : Int) ^ (39 : Int).toNat = 1000000000000000000000000000000000000000 := rfl
  have t43 : (10 : Int) ^ 43 = 10000000000000000000000000000000000000000000 := rfl
  have t200 : (2 : Nat) ^ 200 = 1606938044258990275541962092341162602522202993782792835301376 := rfl
  have hcell : ∃ cz : Int, TrD K (tIf (tTest (tOp (rI0 fun i j => V.bl (decide (i < j))) (tVar 1) (tCB (Sb.rLen K) (tCons (tVar 0) tNil)))) (tCB rAbs (tCons (tCB rInt1 (tCons (tOp (rIxL K) (tVar 0) (tVar 1)) tNil)) tNil)) (tC (V.int 0))) [some (.ref a), some (.int ix), none] G (.int cz) := by
    have ht : TrB (tTest (tOp (rI0 fun i j => V.bl (decide (i < j))) (tVar 1) (tCB (Sb.rLen K) (tCons (tVar 0) tNil)))) [some (.ref a), some (.int ix), none] G (decide ((ix : Int) < ((sc.map V.int).length : Int))) := b_T (K := K) (d_op (d_var rfl (d := .int ix) rfl) (d_lenQ rfl hS) rd_lt)
    rw [List.length_map] at ht
    by_cases hh : ix < sc.length
    · exact ⟨_, d_if ht (fun _ => d_cb (a_cons (d_cb (a_cons (d_ixQ rfl hS (d_var rfl (d := .int ix) rfl) (at_int hh)) a_nil) rc_int1) a_nil) rc_abs) fun z => absurd (of_decide_eq_false z) (by omega)⟩
    · exact ⟨0, d_if ht (fun z => absurd (of_decide_eq_true z) (by omega)) fun _ => d_int⟩
  obtain ⟨cz, hcz⟩ := hcell
  refine q_set hcz hA fun v2 G1 H1 e1 A1 r2 => ?_
  have z0 := Int.emod_nonneg cz (Int.ne_of_gt p39)
  have z1 := Int.emod_lt_of_pos cz p39
  have z1' := Int.lt_trans z1 big39
  obtain ⟨z, ez⟩ : ∃ z, z = cz % (10 ^ (39 : Int).toNat + 61) := ⟨_, rfl⟩
  rw [← ez] at z0 z1'
  have n39 := nat39 z0 z1'
  have q1 : TrD K (tCB rMax2 (tCons (tC (V.int 0)) (tCons (tOp (rI0 fun i j => V.int (i - j)) (tVar 2) (tOp (rI CPow fun i j => V.int (i ^ j.toNat)) (tC (V.int 10)) (tC (V.int 18)))) tNil))) [some (.ref a), some (.int ix), some v2] G1 (.int (if cz - 10 ^ (18 : Int).toNat > 0 then cz - 10 ^ (18 : Int).toNat else 0)) := (d_cb (a_cons d_int (a_cons (d_op (d_var rfl r2) (d_op d_int d_int (rd_pow ⟨by decide, by decide, by decide⟩)) rd_sub) a_nil)) rc_max2)
  have q2 : TrD K (tOp (rI (fun _ j => 0 < j) fun i j => V.int (i % j)) (tCB rInt1 (tCons (tVar 2) tNil)) (tOp (rI0 fun i j => V.int (i + j)) (tOp (rI CPow fun i j => V.int (i ^ j.toNat)) (tC (V.int 10)) (tC (V.int 39))) (tC (V.int 61)))) [some (.ref a), some (.int ix), some v2] G1 (.int z) := (TrD.to (d2 := .int z) (d_op (d_cb (a_cons (d_var rfl r2) a_nil) rc_int1) (d_op (d_op d_int d_int (rd_pow ⟨by decide, by decide, by decide⟩)) d_int rd_add) (rd_mod p39)) (by rw [ez]))
  have q3 : TrD K (tOp (rI CMulW fun i j => V.int (i * j)) (tC (V.int 31)) (tVar 1)) [some (.ref a), some (.int ix), some v2] G1 (.int (31 * (ix : Int))) := d_op d_int (d_var rfl (d := .int ix) rfl) (rd_mul (mul_ok (by decide) (by rw [t200]; omega)))
  have q4 := d_op q2 d_int (rd_mul (mul_ok n39 (j := 64) (by decide)))
  have q5 := d_op (d_op q4 q3 rd_add) (d_int (i := 17)) rd_add
  have q6 := a_cons q1 (a_cons q5 (a_cons (d_int (K := K) (i := 0)) a_nil))
  refine q6 G1 M H1 (Ex.refl _) A1 (fun xs H1 => (xs.length ≤ sizeLine ∧ ∀ p, H1 p = none → Q (.ref p) (upd H1 p (.lst xs)))) fun xs G4 H4 e4 A4 rx => ?_

  obtain ⟨y1, _, rfl, h1, y2, _, rfl, h2, y3, _, rfl, h3, rfl⟩ := rx
  refine ⟨show (3 : Nat) ≤ sizeLine by decide, fun p hp => ?_⟩
  rw [show y1 = V.int _ from h1, show y2 = V.int _ from h2, show y3 = V.int 0 from h3]
  refine q p _ _ G4 _ (A4.mNone hp) (A4.gNone hp) (e1.trans e4) (A4.nm hp) ?_ ?_
  · exact (fin39 z0 z1' hx).1
  · exact (fin39 z0 z1' hx).2
end
end K96

namespace Sb
open PySem PySem.Spec PyProof.Rows L2
section
variable {K : PySem.W.Frag} {σ : L2.St} {G G' M M0 M1 H : Hp} {ta tb te tc : TE} {d d1 d2 d3 : PyData} {ts : TA} {ds : List PyData} {Q : VK} {D : Ends} {s1 s2 : TS} {i j l n n' : Nat} {r p : Addr} {Φ Φ1 : PyData → Prop} {Ψ : List PyData → Prop}
theorem TrO.up {to : TO} {o : Option Int} (e : Ex G G') (h : TrO to σ G o) : TrO to σ G' o := fun G1 M H e1 A Q q => h G1 M H (e.trans e1) A Q q
/-- x[a:b] of a tuple that is drawn -/
theorem e_slA {tl th : TO} {lo hi : Option Int} (h : TrE K r M0 te σ G n n' Φ1) (h1 : TrO tl σ G lo) (h2 : TrO th σ G hi) (hΦ : ∀ d, Φ1 d → ∃ ds, d = .tuple ds ∧ Φ (.tuple (Sb.cutD ds lo hi))) : TrE K r M0 (tSl (rSlA K) te tl th) σ G n n' Φ := fun G1 M H e A S R Q q => by
  refine h G1 M H e A S R _ fun d v G2 M2 H2 e2 A2 S2 R2 hd rv => ?_
  obtain ⟨ds, rfl, hΦ⟩ := hΦ d hd
  exact (d_slA (te := fun _ H Q => Q v H) (σ := σ) (d_val rv) (TrO.up (e.trans e2) h1) (TrO.up (e.trans e2) h2)) G2 M2 H2 (Ex.refl _) A2 Q fun v4 G4 H4 e4 A4 r4 => q _ v4 G4 M2 H4 (e2.trans e4) A4 S2 R2 hΦ r4
/-- list(x.values()), x a dict that is written -/
theorem w_valsM {es : List (Key × V)} {kvs : List (PyData × PyData)} (hi : σ[i]? = some (some (.ref p))) (hp : M p = some (.dK es)) (rx : RpD K G kvs es) (A : At G M H) (k : ∀ q G' H', Ex G G' → At G' M H' → Rp K G' (.list (kvs.map (·.2))) (.ref q) → Q (.ref q) H') : tListVals (tVar i) σ H Q :=
  ⟨.ref p, hi, p, es, rfl, A.m _ _ hp, fun q hq => k q _ _ (Ex.new (A.gNone hq)) (A.ng hq) ⟨q, _, rfl, upd_same, (rpd_vals rx).up (Ex.new (A.gNone hq))⟩⟩
theorem q_par3E (h : TrEA K r M0 (tCons ta (tCons tb (tCons tc tNil))) σ G n n' Ψ) (hl : ∀ ds, Ψ ds → ds.length = 3) (A : At G M H) (S : Same r M0 M) (R : RL r n M)
    (k : ∀ ds v w x G' M' H', Ex G G' → At G' M' H' → Same r M0 M' → RL r n' M' → Ψ ds → RpL K G' ds [v, w, x] → s2 D (((σ.set i (some v)).set j (some w)).set l (some x)) H') : tSeq (tPar3 i j l (tCons ta (tCons tb (tCons tc tNil)))) s2 D σ H := by
  show tCons ta (tCons tb (tCons tc tNil)) σ H (fun vs H1 => ∃ v w x, vs = [v, w, x] ∧ s2 D (((σ.set i (some v)).set j (some w)).set l (some x)) H1)
  refine h G M H (Ex.refl G) A S R _ fun ds vs G' M' H' e A' S' R' hd rv => ?_
  have z := rv.len
  rw [hl ds hd] at z
  match vs, z, rv with
  | [v, w, x], _, rv => exact ⟨v, w, x, rfl, k ds v w x G' M' H' e A' S' R' hd rv⟩
end
end Sb

namespace K96
open PySem PySem.Spec PyProof.Rows L2 Sb
local macro_rules | `(tactic| walk_at "ex") => `(tactic| first | exact Ex.refl _ | assumption | (refine' Ex.trans ?_ (by assumption); walk_at "ex"))
local macro_rules | `(tactic| walk_at "rp") => `(tactic| first | assumption | (refine' Rp.up ?e (by assumption); (case e => walk_at "ex")) | exact rfl)
local macro_rules | `(tactic| walk_at "rd") => `(tactic| with_reducible first | exact rd_add | exact rd_sub | exact rd_lt | exact rd_le | exact rd_gt | exact rd_ge | exact rd_eqI | exact rd_neI | exact rd_eqS | exact rd_neS | exact rd_isN | exact rd_ltS | exact rd_inSign | exact rd_eqE)
local macro_rules | `(tactic| walk_at "tr") => `(tactic| first
  | with_reducible exact d_int
  | with_reducible exact d_str
  | with_reducible exact d_bl
  | with_reducible exact d_non
  | with_reducible exact a_nil
  | with_reducible exact b_yes
  | with_reducible exact o_none
  | with_reducible exact d_newD
  | ((with_reducible refine' d_var ?i ?r); (case i => rfl); (case r => walk_at "rp"))
  | ((with_reducible refine' a_cons ?a ?b); (case a => walk_at "tr"); (case b => walk_at "tr"))
  | ((with_reducible refine' a_star ?a ?b); (case a => walk_at "tr"); (case b => walk_at "tr"))
  | ((with_reducible refine' d_isi ?a ?b); (case a => walk_at "tr"); (case b => decide))
  | ((with_reducible refine' d_op ?a ?b ?c); (case a => walk_at "tr"); (case b => walk_at "tr"); (case c => walk_at "rd"))
  | ((with_reducible refine' d_tup ?a ?b); (case a => walk_at "tr"); (case b => first | decide | (simp; done)))
  | ((with_reducible refine' d_lst ?a ?b); (case a => walk_at "tr"); (case b => first | decide | (simp; done)))
  | ((with_reducible refine' o_some ?a); (case a => walk_at "tr"))
  | ((with_reducible refine' b_B ?a); (case a => walk_at "tr"))
  | ((with_reducible refine' b_T ?a); (case a => walk_at "tr"))
  | ((with_reducible refine' b_not ?a); (case a => walk_at "tr"))
  | ((with_reducible refine' v_not ?a); (case a => walk_at "tr"))
  | ((with_reducible refine' b_or ?a ?b); (case a => walk_at "tr"); (case b => intro _; walk_at "tr"))
  | ((with_reducible refine' b_and ?a ?b); (case a => walk_at "tr"); (case b => intro _; walk_at "tr"))
  | ((with_reducible refine' v_or ?a ?b); (case a => walk_at "tr"); (case b => intro _; walk_at "tr"))
  | ((with_reducible refine' v_and ?a ?b); (case a => walk_at "tr"); (case b => intro _; walk_at "tr"))
  | assumption)


def letM : Str := "abcdefghijklnopqrstuvwxyz012346789"
def L34 : List Str := letM.cps.toList.map fun c => ⟨#[c]⟩
theorem L34_sign : Sb.signs letM = L34.map V.str := by unfold Sb.signs L34; rw [List.map_map]; rfl
theorem L34_len : L34.length = 34 := by decide +kernel
theorem L34_nd : L34.Nodup := by
  have h : (letM.cps.toList).Nodup := by decide +kernel
  exact h.map _ fun a b hab e => hab (by injection e with e; simpa using e)
theorem L34_nm : ∀ x ∈ L34, isNameS x = true ∧ x ≠ "m" := by
  intro x hx
  obtain ⟨c, hc, rfl⟩ := List.mem_map.mp hx
  have h : ∀ c ∈ letM.cps.toList, isNameS ⟨#[c]⟩ = true ∧ (⟨#[c]⟩ : Str) ≠ "m" := by decide +kernel
  exact h c hc
theorem okW.cut {a b : Nat} {xs : List Int} {k m : Nat} (h : okW a b xs) (hk : k < xs.length) (hm : 1 ≤ m) : okW 1 m ((xs.drop k).take m) := by
  refine ⟨?_, ?_, fun n hn => h.2.2 n (List.mem_of_mem_drop (List.mem_of_mem_take hn))⟩
  · rw [List.length_take, List.length_drop]; omega
  · rw [List.length_take]; omega
/-- what the drawn characters are -/
structure okChs (many most : Nat) (cs : List (Str × List Int)) : Prop where
  l : cs.length = many
  nd : (cs.map (·.1)).Nodup
  w : ∀ p ∈ cs, (isNameS p.1 = true ∧ p.1 ≠ "m") ∧ okW 1 most p.2
theorem chD_vals (cs : List (Str × List Int)) : (keysD (chD cs)).map (·.2) = (cs.map (·.2)).map tD := by
  unfold keysD chD
  rw [List.map_map, List.map_map, List.map_map]
  rfl
theorem two_bits {cnd : Bool} {i : Int} (h : 0 ≤ i) : True := trivial
section
variable {P : Program} {w : World} {K : PySem.W.Frag} {mg : Str → Option Value} {base : Heap}
theorem wid_call {r : Addr} {M0 : Hp} {σ : L2.St} {G : Hp} {n : Nat} {i : Nat} {ta tb : TE} {lo hi : Nat} {E : XK} (hi' : σ[i]? = some (some (.ref r))) (ha : TrD K ta σ G (.int lo)) (hb : TrD K tb σ G (.int hi)) (h0 : lo ≤ hi) (h1 : hi ≤ 100) (hm : n + (hi + 2) ≤ 1000000) : TrE K r M0 (tCall (ESp K R_wid) [] E (tCons (tVar i) (tCons ta (tCons tb tNil)))) σ G n (n + (hi + 2)) (IsW lo hi) :=
  e_call (Ψ := fun ds => ds = [.int lo, .int hi]) hi' (ea_A (a_cons ha (a_cons hb a_nil)) rfl) (fun ds h => ⟨lo, hi, h, h0, h1, rfl, rfl⟩) hm
def R_chars : List PyData → Nat → (PyData → Prop) → Prop := fun ds k Φ => ∃ many most : Nat, ds = [.int many, .int most] ∧ 1 ≤ many ∧ many ≤ 10 ∧ 1 ≤ most ∧ most ≤ 6 ∧ k = 300 ∧ Φ = fun d => ∃ cs, d = .dict (keysD (chD cs)) ∧ okChs many most cs
abbrev slK (r pl pd : Addr) (v1 v2 v5 v6 : V) (a7 a8 a9 a10 a11 : Option V) : L2.St := [some (.ref r), some v1, some v2, some (.ref pl), some (.ref pd), some v5, some v6, a7, a8, a9, a10, a11]
theorem F__law_characters (T : Tx K mg) : Fd P w K mg base CX0 3 "_law_characters" (ESp K R_chars) [] := by
  obtain ⟨fd, F⟩ := T.f__law_characters
  refine ⟨_, fd, ["fount", "many", "most"], [], T.g__law_characters, F.kp, F.bindsN fun _ _ _ _ _ _ us hl => match us, hl with | [_, _, _], _ => rfl, .nil, ?_⟩
  refine fnG_of F sc__law_characters (fun vs H Q E h => ESp.len (n := 2) (by rintro _ _ _ ⟨d, e, rfl, _⟩; rfl) h) (fun cdv A outer s H vs Q E hg hr h => ?_)
  obtain ⟨r, ws, G, M, n, k, ds, Φ, rfl, hA, hRL, hws, ⟨many, most, rfl, hm0, hm1, hs0, hs1, rfl, rfl⟩, hn, q⟩ := h
  obtain ⟨v1, _, rfl, r1, v2, _, rfl, r2, rfl⟩ := hws
  refine ⟨_, PSs.nox (pss_cons (ps_par (i := 3) (j := 4) (by rfl) sc__law_characters.nd rfl rfl (by decide) rfl rfl (pa_cons (pe_callTy (call_listS rfl) (by rfl) T.n_list (by decide +kernel) (pa_cons pe_str pa_nil)) (pa_cons pe_dnewK pa_nil)) (by rfl))
    (pss_cons (ps_par (i := 5) (j := 6) (by rfl) sc__law_characters.nd rfl rfl (by decide) rfl rfl (pa_cons (pe_fd (F__law_dip (P := P) (w := w) (base := base) T) hg (hr.mono (by decide)) pass0 (pa_cons (pv 0) (pa_cons pe_int pa_nil))) (pa_cons (pe_op op_add pe_int (pe_fd (F__law_dip (P := P) (w := w) (base := base) T) hg (hr.mono (by decide)) pass0 (pa_cons (pv 0) (pa_cons (pv 2) pa_nil)))) pa_nil)) (by rfl))
    (pss_cons (ps_for PassesOwn.never rfl (pi_range1 (by rfl) T.n_range (pa_cons (pv 1) pa_nil)) (pg_name (i := 7) sc__law_characters.nd rfl (by first | exact Or.inl rfl | exact Or.inr rfl)) (pss_cons (ps_par (i := 8) (j := 9) (by rfl) sc__law_characters.nd rfl rfl (by decide) rfl rfl (pa_cons (pe_bm PySem.F.plainAttrs_list PySem.F.slot_list_pop PySem.F.type_list_pop mt_popAt (pv 3) (pa_cons (pe_fd (F__law_dip (P := P) (w := w) (base := base) T) hg (hr.mono (by decide)) pass0 (pa_cons (pv 0) (pa_cons (pe_callB call_len' (by rfl) T.n_len (by decide +kernel) (pa_cons (pv 3) pa_nil)) pa_nil))) pa_nil)) (pa_cons (pe_listVals rfl (pv 4) (by rfl) T.n_list (by decide +kernel)) pa_nil)) (by rfl)) (pss_cons (ps_set (i := 10) sc__law_characters.nd rfl (by first | exact Or.inl rfl | exact Or.inr rfl) (pe_fd (F__law_widths (P := P) (w := w) (base := base) T) hg (hr.mono (by decide)) pass0 (pa_cons (pv 0) (pa_cons (pe_ifExp (pt_cmpR op_eq (pv 5) pe_int (nomark _)) (pv 6) pe_int) (pa_cons (pe_ifExp (pt_cmpR op_eq (pv 5) pe_int (nomark _)) (pv 6) (pv 2)) pa_nil))))) (pss_cons (ps_if (PW.pt (pw_and (pt_cmpR (op_neR hr.units) (pv 9) (pe_lst pa_nil) (nomark _)) (pw_and1 (pt_cmpR op_gt (pv 5) pe_int (nomark _))))) (pss_cons (ps_set (i := 10) sc__law_characters.nd rfl (by first | exact Or.inl rfl | exact Or.inr rfl) (pe_ix ix_list (pv 9) (pe_fd (F__law_dip (P := P) (w := w) (base := base) T) hg (hr.mono (by decide)) pass0 (pa_cons (pv 0) (pa_cons (pe_callB call_len' (by rfl) T.n_len (by decide +kernel) (pa_cons (pv 9) pa_nil)) pa_nil))) (fun _ _ => rfl))) (pss_cons (ps_set (i := 11) sc__law_characters.nd rfl (by first | exact Or.inl rfl | exact Or.inr rfl) (pe_fd (F__law_dip (P := P) (w := w) (base := base) T) hg (hr.mono (by decide)) pass0 (pa_cons (pv 0) (pa_cons (pe_callB call_len' (by rfl) T.n_len (by decide +kernel) (pa_cons (pv 10) pa_nil)) pa_nil)))) (pss_one (ps_if (pt_cmpR op_eq (pv 5) pe_int (nomark _)) (pss_one (ps_set (i := 10) sc__law_characters.nd rfl (by first | exact Or.inl rfl | exact Or.inr rfl) (pe_op op_catA (pe_op op_catA (pe_slice sl_tupA (pv 10) po_none (po_some (pv 11))) (pe_tup (pa_cons (pe_op op_add pe_int (pe_fd (F__law_dip (P := P) (w := w) (base := base) T) hg (hr.mono (by decide)) pass0 (pa_cons (pv 0) (pa_cons pe_int pa_nil)))) pa_nil))) (pe_slice sl_tupA (pv 10) (po_some (pe_op op_add (pv 11) pe_int)) po_none)))) (pss_one (ps_set (i := 10) sc__law_characters.nd rfl (by first | exact Or.inl rfl | exact Or.inr rfl) (pe_slice sl_tupA (pe_op op_catA (pv 10) (pe_ix ix_list (pv 9) (pe_fd (F__law_dip (P := P) (w := w) (base := base) T) hg (hr.mono (by decide)) pass0 (pa_cons (pv 0) (pa_cons (pe_callB call_len' (by rfl) T.n_len (by decide +kernel) (pa_cons (pv 9) pa_nil)) pa_nil))) (fun _ _ => rfl))) (po_some (pv 11)) (po_some (pe_op op_add (pv 11) (pv 2)))))))))) pss_nil) (pss_one (ps_dput (hu_of hr) (pv 4) (pv 8) (pv 10) rfl))))))
    (pss_one (ps_ret (pv 4)))))), ?_⟩
  rw [show L2.start ["fount", "many", "most", "left", "found", "way", "size", "turn", "name", "known", "widths", "at"] [(.ref r), v1, v2] = [some (.ref r), some v1, some v2, none, none, none, none, none, none, none, none, none] from rfl]
  try dsimp only [xK]
  -- left, found
  refine ⟨letM, rfl, by decide +kernel, fun pl hpl => fun pd hpd => ⟨_, _, rfl, ?_⟩⟩
  rw [L34_sign] at hpd ⊢
  have Mpl := hA.mNone hpl
  have A1 := hA.nm (o := .lst (L34.map V.str)) hpl
  have Mpd' := A1.mNone hpd
  have hne : pd ≠ pl := fun z => by rw [z, upd_same] at hpd; cases hpd
  have Mpd : M pd = none := by rw [upd_ne hne] at Mpd'; exact Mpd'
  have A2 := A1.nm (o := .dK []) hpd
  have nl : pl ≠ r := hRL.ne Mpl
  have nd : pd ≠ r := hRL.ne Mpd
  have RL2 := (hRL.upd (o := .lst (L34.map V.str)) nl).upd (o := .dK []) nd
  -- way, size
  refine q_parE (n := n) (n' := n + 2) (Ψ := fun ds => ∃ w s : Int, ds = [.int w, .int s] ∧ 0 ≤ w ∧ w ≤ 3 ∧ 1 ≤ s ∧ s ≤ most) (ea_cons (spin_c rfl (by decide) (by decide) (by omega)) fun d hd => ea_cons (e_op (Φ1 := fun d => d = .int 1) (Φ2 := RI 0 (most - 1)) (Φ := RI 1 most) (e_D d_int rfl) (fun _ _ => spin_call rfl (e_D (d_var rfl (r2.up (Ex.refl G))) ⟨_, rfl, by omega, by omega, fun _ h => h⟩) (by omega)) ?_) fun d2 hd2 => ea_nil ?_) ?_ A2 .refl RL2 fun ds v5 v6 G3 M3 H3 e3 A3 S3 R3 hds rvs => ?_
  · rintro _ _ rfl ⟨i, rfl, h0, h1⟩
    exact ⟨_, rd_add, _, rfl, by omega, by omega⟩
  · obtain ⟨i, rfl, h0, h1⟩ := hd
    obtain ⟨j, rfl, h2, h3⟩ := hd2
    exact ⟨i, j, rfl, h0, by omega, h2, h3⟩
  · rintro _ ⟨_, _, rfl, _⟩
    rfl
  obtain ⟨way, size, rfl, w0, w4, s0, s1⟩ := hds
  obtain ⟨_, _, rr1, r5, _, _, rr2, r6, _⟩ := rvs
  cases rr1
  cases rr2
  obtain ⟨sm, rfl⟩ := Int.eq_ofNat_of_zero_le (show 0 ≤ size by omega)
  have hp4 : ∀ (Ls : List Str) (es : List (Key × V)), (upd (upd M pl (.lst (Ls.map V.str))) pd (.dK es)) pd = some (.dK es) := fun Ls es => upd_same
  have hp3 : ∀ (Ls : List Str) (es : List (Key × V)), (upd (upd M pl (.lst (Ls.map V.str))) pd (.dK es)) pl = some (.lst (Ls.map V.str)) := fun Ls es => by rw [upd_ne (Ne.symm hne), upd_same]
  refine s_seq (s_forRI (n := many) (fun k σ G' M' => ∃ (Ls : List Str) (es : List (Key × V)) (cs : List (Str × List Int)) (a7 a8 a9 a10 a11 : Option V), σ = slK r pl pd v1 v2 v5 v6 a7 a8 a9 a10 a11 ∧ Same r (upd (upd M pl (.lst (Ls.map V.str))) pd (.dK es)) M' ∧ RL r (n + 2 + k * 20) M' ∧ RpD K G' (keysD (chD cs)) es ∧ cs.length = k ∧ Ls.length + k = 34 ∧ (∀ x ∈ Ls, isNameS x = true ∧ x ≠ "m") ∧ (cs.map (·.1) ++ Ls).Nodup ∧ ∀ p ∈ cs, (isNameS p.1 = true ∧ p.1 ≠ "m") ∧ okW 1 most p.2) (d_var rfl (r1.up e3)) (by omega) (by omega) A3
    ?_ ⟨L34, [], [], none, none, none, none, none, rfl, S3, R3.le (by omega), rfl, rfl, L34_len, L34_nm, by simpa using L34_nd, fun _ h => by cases h⟩ (fun k hk σ1 G1 M1 H1 eL AL hI Nx hN => ?_) fun σ1 G1 M1 H1 eL AL hI => ?_)
  · rintro k σ1 Ga Gb M1 e ⟨Ls, es, cs, a7, a8, a9, a10, a11, h1, h2, h3, h4, h5⟩
    exact ⟨Ls, es, cs, a7, a8, a9, a10, a11, h1, h2, h3, h4.up e, h5⟩
  · obtain ⟨Ls, es, cs, a7, a8, a9, a10, a11, rfl, SL, RL', re, hcl, hll, hnm, hnd, hcs⟩ := hI
    have hkm : k < many := by omega
    have p5 : Rp K G1 (.int way) v5 := r5.up eL
    have p6 : Rp K G1 (.int ((sm : Nat) : Int)) v6 := r6.up eL
    have p2 : Rp K G1 (.int ((most : Nat) : Int)) v2 := r2.up (e3.trans eL)
    -- name, known
    refine w_pop (i := 3) (p := pl) (M0 := upd (upd M pl (.lst (Ls.map V.str))) pd (.dK es)) (K := K) rfl (hp3 Ls es) nl (by rw [List.length_map]; omega) (spin_call rfl (e_len rfl (hp3 Ls es) nl ⟨_, rfl, by rw [List.length_map]; omega, by rw [List.length_map]; omega, fun d h => ?_⟩) (by omega)) AL SL RL' fun k2 y2 G2 M2 H2 hx2 e2 A4 S4 R4 => ?_
    · obtain ⟨i, rfl, h0, h1⟩ := h
      obtain ⟨iN, rfl⟩ := Int.eq_ofNat_of_zero_le h0
      exact ⟨iN, rfl, by omega⟩
    obtain ⟨nm, hnmx, rfl⟩ : ∃ nm, Ls[k2]? = some nm ∧ y2 = V.str nm := by
      rw [List.getElem?_map] at hx2
      cases z : Ls[k2]? with
      | none => rw [z] at hx2; cases hx2
      | some nm => rw [z] at hx2; exact ⟨nm, rfl, (Option.some.inj hx2).symm⟩
    have S4 : Same r (upd (upd M pl (.lst ((Ls.eraseIdx k2).map V.str))) pd (.dK es)) M2 := fun x hx => by
      rw [S4 x hx, er_map]
      by_cases x1 : x = pl
      · subst x1
        rw [upd_same, upd_ne (Ne.symm hne), upd_same]
      · rw [upd_ne x1]
        by_cases x2 : x = pd
        · subst x2
          rw [upd_same, upd_same]
        · rw [upd_ne x2, upd_ne x2, upd_ne x1, upd_ne x1]
    have hD2 : M2 pd = some (.dK es) := (S4 pd nd).trans upd_same
    refine w_valsM (i := 4) rfl hD2 (re.up e2) A4 fun pk G3' H3' e3' A3' rk => ⟨_, _, rfl, ?_⟩
    rw [chD_vals] at rk
    have E13 := e2.trans e3'
    -- widths
    have hlo : ∃ lo hi : Nat, (∀ x7 x8 x9 x10 x11 : Option V, TrD K (tIf (tTest (tOp rEq (tVar 5) (tC (V.int 0)))) (tVar 6) (tC (V.int 1))) (slK r pl pd v1 v2 v5 v6 x7 x8 x9 x10 x11) G3' (.int lo)) ∧ (∀ x7 x8 x9 x10 x11 : Option V, TrD K (tIf (tTest (tOp rEq (tVar 5) (tC (V.int 0)))) (tVar 6) (tVar 2)) (slK r pl pd v1 v2 v5 v6 x7 x8 x9 x10 x11) G3' (.int hi)) ∧ 1 ≤ lo ∧ lo ≤ hi ∧ hi ≤ most := by
      have hc : ∀ x7 x8 x9 x10 x11 : Option V, TrB (tTest (tOp rEq (tVar 5) (tC (V.int 0)))) (slK r pl pd v1 v2 v5 v6 x7 x8 x9 x10 x11) G3' (decide (way = 0)) := fun _ _ _ _ _ => b_T (d_op (d_var rfl (p5.up E13)) d_int rd_eqI)
      by_cases hw : way = 0
      · exact ⟨sm, sm, fun _ _ _ _ _ => d_if (hc _ _ _ _ _) (fun _ => d_var rfl (p6.up E13)) (fun z => absurd hw (of_decide_eq_false z)), fun _ _ _ _ _ => d_if (hc _ _ _ _ _) (fun _ => d_var rfl (p6.up E13)) (fun z => absurd hw (of_decide_eq_false z)), by omega, Nat.le_refl _, by omega⟩
      · exact ⟨1, most, fun _ _ _ _ _ => d_if (hc _ _ _ _ _) (fun z => absurd (of_decide_eq_true z) hw) (fun _ => d_int), fun _ _ _ _ _ => d_if (hc _ _ _ _ _) (fun z => absurd (of_decide_eq_true z) hw) (fun _ => d_var rfl (p2.up E13)), by omega, by omega, by omega⟩
    obtain ⟨lo, hi, tlo, thi, l1, l2, l3⟩ := hlo
    refine q_setE (Φ := IsW 1 most) (n' := n + 2 + k * 20 + 1 + 8) (((wid_call (lo := lo) (hi := hi) rfl (tlo _ _ _ _ _) (thi _ _ _ _ _) l2 (by omega) (by omega)).le (by omega)).imp fun d hd => ?_) A3' S4 R4 fun d v10 G4 M4 H4 e4 A4 S5 R5 hd rv => ?_
    · obtain ⟨ws, rfl, ok⟩ := hd
      exact ⟨ws, rfl, ok.le l1 l3⟩
    obtain ⟨row, rfl, hrow⟩ := hd
    have E14 := E13.trans e4
    have rk4 : Rp K G4 (.list ((cs.map (·.2)).map tD)) (.ref pk) := rk.up e4
    have hrows : ∀ x ∈ cs.map (·.2), okW 1 most x := fun x hx => by
      obtain ⟨p, hp, rfl⟩ := List.mem_map.mp hx
      exact (hcs p hp).2
    have hD4 : M4 pd = some (.dK es) := (S5 pd nd).trans upd_same
    -- one made of the others
    refine q_cut (fun σ' H' => ∃ (G' M' : Hp) (a11 : Option V) (v10 : V) (row : List Int), Ex G4 G' ∧ At G' M' H' ∧ Same r (upd (upd M pl (.lst ((Ls.eraseIdx k2).map V.str))) pd (.dK es)) M' ∧ RL r (n + 2 + k * 20 + 15) M' ∧ Rp K G' (tD row) v10 ∧ okW 1 most row ∧ σ' = slK r pl pd v1 v2 v5 v6 (some (.int k)) (some (.str nm)) (some (.ref pk)) (some v10) a11) ?_ fun hkk => ?_
    rotate_left
    · refine s_if (b := !cs.isEmpty && decide (1 < way)) (b_and (TrB.to (b_T (d_op (d_var rfl rk4) (d_lst a_nil) (rd_neR (shaped_rows _) rfl))) (by rw [eqv_nil]; cases cs <;> rfl)) fun _ => b_T (d_op (d_var rfl (p5.up E14)) d_int rd_gt)) A4 (fun hb Gb Hb eb Ab => ?_) fun hb Gb Hb eb Ab => ?_
      · have hr0 : 0 < cs.length := by
          cases cs with
          | nil => simp at hb
          | cons _ _ => exact Nat.succ_pos _
        have rkb := rk4.up eb
        have hpick : ∀ {σ : L2.St} {Gx M0 : Hp} {m : Nat} {E : XK}, σ[0]? = some (some (.ref r)) → σ[9]? = some (some (.ref pk)) → Ex Gb Gx → m + 1 ≤ 1000000 → TrE K r M0 (tOp (rIxL K) (tVar 9) (tCall (ESp K R_spin) [] E (tCons (tVar 0) (tCons (tCB (Sb.rLen K) (tCons (tVar 9) tNil)) tNil)))) σ Gx m (m + 1) (IsW 1 most) := fun h0 h9 ex hm => by
          refine e_op (Φ1 := fun d => d = .list ((cs.map (·.2)).map tD)) (Φ2 := RI 0 (cs.length - 1)) (e_D (d_var h9 (rkb.up ex)) rfl) (fun _ _ => spin_call h0 (e_D (d_cb (a_cons (d_var h9 (rkb.up ex)) a_nil) rc_lenL) ⟨_, rfl, by rw [List.length_map, List.length_map]; omega, by rw [List.length_map, List.length_map]; omega, fun d h => by rw [List.length_map, List.length_map] at h; exact h⟩) hm) ?_
          rintro _ _ rfl ⟨i, rfl, h0, h1⟩
          obtain ⟨iN, rfl⟩ := Int.eq_ofNat_of_zero_le h0
          have hi2 : iN < (cs.map (·.2)).length := by rw [List.length_map]; omega
          have hi : iN < ((cs.map (·.2)).map tD).length := by rw [List.length_map]; exact hi2
          refine ⟨_, rd_ixL (at_dat hi), (cs.map (·.2))[iN], ?_, hrows _ (List.getElem_mem hi2)⟩
          rw [List.getElem_map]
          rfl
        refine q_setE (Φ := IsW 1 most) (hpick rfl rfl (Ex.refl _) (by omega)) Ab S5 R5 fun d v10' G5 M5 H5 e5 A5 S6 R6 hd rv5 => ?_
        obtain ⟨row2, rfl, hrow2⟩ := hd
        have hl1 := hrow2.1
        have hl2 := hrow2.2.1
        refine q_setE (Φ := RI 0 (row2.length - 1)) (spin_call rfl (e_D (d_cb (a_cons (d_var rfl rv5) a_nil) rc_lenT) ⟨_, rfl, by rw [dInts_len]; omega, by rw [dInts_len]; omega, fun d h => by rw [dInts_len] at h; exact h⟩) (by omega)) A5 S6 R6 fun d v11 G6 M6 H6 e6 A6 S7 R7 hd rv11 => ?_
        obtain ⟨ai, rfl, h0, h1⟩ := hd
        obtain ⟨aN, rfl⟩ := Int.eq_ofNat_of_zero_le h0
        have haN : aN < row2.length := by omega
        have e46 := (eb.trans e5).trans e6
        refine s_if (b := decide (way = 2)) (b_T (d_op (d_var rfl (p5.up (E14.trans e46))) d_int rd_eqI)) A6 (fun hb2 Gc Hc ec Ac => ?_) fun hb2 Gc Hc ec Ac => ?_
        · refine s_setE (Φ := IsW 1 most) (n' := n + 2 + k * 20 + 15) ((e_op (Φ1 := fun d => ∃ z : Int, d = tD (row2.take aN ++ [z]) ∧ 1 ≤ z ∧ z ≤ 4) (Φ2 := fun d => d = tD (row2.drop (aN + 1))) (e_op (Φ1 := fun d => d = tD (row2.take aN)) (Φ2 := fun d => ∃ z : Int, d = tD [z] ∧ 1 ≤ z ∧ z ≤ 4) (e_D (TrD.to (d_slA (d_var rfl (rv5.up (e6.trans ec))) o_none (o_some (d_var rfl (rv11.up ec)))) ?_) rfl) (fun _ _ => e_tup (Ψ := fun ds => ∃ z : Int, ds = [.int z] ∧ 1 ≤ z ∧ z ≤ 4) (ea_cons (e_op (Φ1 := fun d => d = .int 1) (Φ2 := RI 0 3) (Φ := RI 1 4) (e_D d_int rfl) (fun _ _ => spin_c rfl (by decide) (by decide) (by omega)) ?_) fun d hd => ea_nil ?_) ?_) ?_) (fun _ _ => e_D (TrD.to (d_slA (d_var rfl (rv5.up (e6.trans ec))) (o_some (d_op (d_var rfl (rv11.up ec)) d_int rd_add)) o_none) ?_) rfl) ?_).le (by omega)) Ac S7 R7 fun d v12 G7 M7 H7 e7 A7 S8 R8 hd rv12 => ?_
          · rw [cut_to (by rw [dInts_len]; omega)]
            unfold tD dInts
            rw [List.map_take]
          · rintro _ _ rfl ⟨i, rfl, h0, h1⟩
            exact ⟨_, rd_add, _, rfl, by omega, by omega⟩
          · obtain ⟨i, rfl, h0, h1⟩ := hd
            exact ⟨i, rfl, h0, h1⟩
          · rintro _ ⟨z, rfl, h0, h1⟩
            exact ⟨Nat.le_of_ble_eq_true rfl, z, rfl, h0, h1⟩
          · rintro _ _ rfl ⟨z, rfl, h0, h1⟩
            refine ⟨_, rd_catA (ds := dInts (row2.take aN)) (es := dInts [z]) (by rw [dInts_len, dInts_len, List.length_take]; show _ + 1 ≤ 100000; omega), z, ?_, h0, h1⟩
            unfold tD dInts
            rw [List.map_append]
          · have e : ((aN : Int) + 1) = ((aN + 1 : Nat) : Int) := by omega
            rw [e, cut_from (by rw [dInts_len]; omega)]
            unfold tD dInts
            rw [List.map_drop]
          · rintro _ _ ⟨z, rfl, h0, h1⟩ rfl
            refine ⟨_, rd_catA (ds := dInts (row2.take aN ++ [z])) (es := dInts (row2.drop (aN + 1))) (by rw [dInts_len, dInts_len, List.length_append, List.length_take, List.length_drop]; show _ + 1 + _ ≤ 100000; omega), row2.take aN ++ [z] ++ row2.drop (aN + 1), ?_, hrow2.edit haN h0 h1⟩
            exact congrArg PyData.tuple (List.map_append (l₁ := row2.take aN ++ [z])).symm
          · obtain ⟨row3, rfl, hrow3⟩ := hd
            exact hkk _ _ ⟨G7, M7, _, v12, row3, (e46.trans ec).trans e7, A7, S8, R8, rv12, hrow3, rfl⟩
        · refine s_setE (Φ := IsW 1 most) (n' := n + 2 + k * 20 + 15) ((e_slA (lo := some (aN : Int)) (hi := some ((aN + most : Nat) : Int)) (Φ1 := fun d => ∃ ws, d = tD (row2 ++ ws) ∧ okW 1 most ws) (e_op (Φ1 := fun d => d = tD row2) (Φ2 := IsW 1 most) (e_D (d_var rfl (rv5.up (e6.trans ec))) rfl) (fun _ _ => hpick rfl rfl ((e5.trans e6).trans ec) (by omega)) ?_) (o_some (d_var rfl (rv11.up ec))) (by rw [show ((aN + most : Nat) : Int) = (aN : Int) + (most : Int) from by omega]; exact o_some (d_op (d_var rfl (rv11.up ec)) (d_var rfl (p2.up ((E14.trans e46).trans ec))) rd_add)) ?_).le (by omega)) Ac S7 R7 fun d v12 G7 M7 H7 e7 A7 S8 R8 hd rv12 => ?_
          · rintro _ _ rfl ⟨ws, rfl, ok⟩
            have := ok.2.1
            refine ⟨_, rd_catA (ds := dInts row2) (es := dInts ws) (by rw [dInts_len, dInts_len]; omega), ws, ?_, ok⟩
            unfold tD dInts
            rw [List.map_append]
          · rintro _ ⟨ws, rfl, ok⟩
            refine ⟨_, rfl, ((row2 ++ ws).drop aN).take most, ?_, (hrow2.app ok).cut (by rw [List.length_append]; omega) hs0⟩
            unfold Sb.cutD
            rw [HT.sIx_nat, HT.sIx_nat]
            have hlen : (dInts (row2 ++ ws)).length = row2.length + ws.length := by rw [dInts_len, List.length_append]
            have hz := hrow2.2.1
            have hz2 := ok.1
            rw [hlen, Nat.min_eq_left (show aN ≤ row2.length + ws.length by omega)]
            refine congrArg PyData.tuple ?_
            unfold dInts
            rw [List.map_take, List.map_drop]
            by_cases hh : aN + most ≤ row2.length + ws.length
            · rw [Nat.min_eq_left hh, Nat.add_sub_cancel_left]
            · rw [Nat.min_eq_right (by omega), List.take_of_length_le (by rw [List.length_drop, List.length_map, List.length_append]; omega), List.take_of_length_le (by rw [List.length_drop, List.length_map, List.length_append]; omega)]
          · obtain ⟨row3, rfl, hrow3⟩ := hd
            exact hkk _ _ ⟨G7, M7, _, v12, row3, (e46.trans ec).trans e7, A7, S8, R8, rv12, hrow3, rfl⟩
      · exact s_next (hkk _ _ ⟨Gb, M4, _, v10, row, eb, Ab, S5, R5.le (by omega), rv.up eb, hrow, rfl⟩)
    rintro _ H5 ⟨G5, M5, b11, v10', row1, e5, A5, S6, R6, rv', hrow1, rfl⟩
    -- found[name] = widths
    have hD5 : M5 pd = some (.dK es) := (S6 pd nd).trans upd_same
    have hes : es.length = cs.length := by rw [re.len, keysD_len]; simp [chD]
    obtain ⟨hlk2, hek2⟩ := List.getElem?_eq_some_iff.mp hnmx
    have hnin : nm ∉ cs.map (·.1) := fun z => (List.nodup_append.mp hnd).2.2 nm z nm (List.mem_of_getElem? hnmx) rfl
    have hfresh : valV es (Sum.inr nm) = none := by
      refine (RpD.val (x := nm) re).2 ?_
      have z : (lookD (chD cs) nm).isSome = false := by
        rw [look_some, chD_keys]
        exact decide_eq_false hnin
      cases y : lookD (chD cs) nm with
      | none => rfl
      | some _ => rw [y] at z; cases z
    refine s_dput (i := 4) (K := K) rfl hD5 (d_var rfl rv') (d_var rfl (d := .str nm) rfl) (by omega) A5 fun v G6 H6 e6 A6 r6 => ?_
    have hput : putK es (Sum.inr nm) v = es ++ [(Sum.inr nm, v)] := putK_new _ hfresh
    rw [hput] at A6
    refine hN _ G6 _ H6 (((E14.trans e5)).trans e6) A6 ⟨Ls.eraseIdx k2, es ++ [(Sum.inr nm, v)], cs ++ [(nm, row1)], _, _, _, _, _, rfl, fun x hx => ?_, (R6.upd nd).le (by omega), ?_, by rw [List.length_append, hcl]; rfl, by rw [List.length_eraseIdx_of_lt hlk2]; omega, fun x hx => hnm x (List.mem_of_mem_eraseIdx hx), ?_, fun p hp => ?_⟩
    · by_cases x3 : x = pd
      · subst x3
        rw [upd_same, upd_same]
      · rw [upd_ne x3, upd_ne x3, S6 x hx, upd_ne x3]
    · unfold chD keysD
      rw [List.map_append, List.map_append]
      exact (re.up ((E14.trans e5).trans e6)).snoc rfl r6
    · have hperm : (nm :: Ls.eraseIdx k2).Perm Ls := by
        have e : Ls = Ls.take k2 ++ nm :: Ls.drop (k2 + 1) := by
          rw [← hek2, ← List.drop_eq_getElem_cons hlk2, List.take_append_drop]
        rw [List.eraseIdx_eq_take_drop_succ]
        conv => rhs; rw [e]
        exact List.perm_middle.symm
      have hp2 : ((cs ++ [(nm, row1)]).map (·.1) ++ Ls.eraseIdx k2).Perm (cs.map (·.1) ++ Ls) := by
        rw [List.map_append, List.append_assoc]
        exact List.Perm.append_left _ hperm
      exact hp2.nodup_iff.mpr hnd
    · rcases List.mem_append.mp hp with z | z
      · exact hcs p z
      · rw [List.mem_singleton.mp z]
        exact ⟨hnm nm (List.mem_of_getElem? hnmx), hrow1⟩
  · obtain ⟨Ls, es, cs, a7, a8, a9, a10, a11, rfl, SL, RL', re, hcl, hll, hnm, hnd, hcs⟩ := hI
    rw [Int.toNat_natCast] at RL' hcl
    have hDK : M1 pd = some (.dK es) := (SL pd nd).trans upd_same
    rw [← cut_eq hDK] at AL
    obtain ⟨G2, e2, A3', r14⟩ := At.doneD AL cut_none re
    refine s_ret (d_var rfl r14) A3' fun v G' H' e' A' rv => ?_
    obtain ⟨M6', A6', S6', hr6⟩ := At.back (r := r) (M0 := M) A' (fun x hx o ho => by
      have x1 : x ≠ pl := fun z => by rw [z, Mpl] at ho; cases ho
      have x3 : x ≠ pd := fun z => by rw [z, Mpd] at ho; cases ho
      show (if x = pd then none else M1 x) = _
      rw [if_neg x3, SL x hx, upd_ne x3, upd_ne x1]
      exact ho)
    refine q _ v G' M6' H' (((e3.trans eL).trans e2).trans e') A6' S6' ?_ ⟨cs, rfl, ⟨hcl, (List.nodup_append.mp hnd).1, hcs⟩⟩ rv
    obtain ⟨a, b, c, z1, z2, z3, z4⟩ := RL'
    exact ⟨a, b, c, by rw [hr6]; show (if r = pd then none else M1 r) = _; rw [if_neg (Ne.symm nd)]; exact z1, z2, z3, by omega⟩
end
end K96

namespace Sb
open PySem PySem.Spec PyProof.Rows L2
section
variable {K : PySem.W.Frag} {σ : L2.St} {G G' M M0 M1 H : Hp} {ta tb te tc : TE} {d d1 d2 d3 : PyData} {ts : TA} {ds : List PyData} {Q : VK} {D : Ends} {s1 s2 : TS} {i j l n m n' : Nat} {r p : Addr} {Φ Φ1 : PyData → Prop} {Ψ : List PyData → Prop}
theorem cut_cut : cutG (cutG M p) p = cutG M p := by
  funext x
  show (if x = p then none else (if x = p then none else M x)) = if x = p then none else M x
  split <;> rfl
/-! drawn arguments that all have a property -/
theorem ea_none : TrEA K r M0 tNil σ G n n fun ds => ds.length = 0 ∧ ∀ x ∈ ds, Φ x := ea_nil ⟨rfl, fun _ h => by cases h⟩
theorem ea_all {c : Nat} (ha : TrE K r M0 te σ G n m Φ) (hr : TrEA K r M0 ts σ G m n' fun ds => ds.length = c ∧ ∀ x ∈ ds, Φ x) : TrEA K r M0 (tCons te ts) σ G n n' fun ds => ds.length = c + 1 ∧ ∀ x ∈ ds, Φ x := fun G1 M H e A S R Q q => by
  refine ha G1 M H e A S R _ fun d v G2 M2 H2 e2 A2 S2 R2 hd rv => ?_
  refine hr G2 M2 H2 (e.trans e2) A2 S2 R2 _ fun ds vs G3 M3 H3 e3 A3 S3 R3 hds rvs => ?_
  refine q (d :: ds) (v :: vs) G3 M3 H3 (e2.trans e3) A3 S3 R3 ⟨by rw [List.length_cons, hds.1], fun x hx => ?_⟩ ⟨v, vs, rfl, rv.up e3, rvs⟩
  rcases List.mem_cons.mp hx with rfl | hx
  · exact hd
  · exact hds.2 x hx
/-- an if whose test draws -/
theorem s_ifTE {b0 : Bool → Prop} (h : TrE K r M0 te σ G n n' fun d => ∃ b, d = .bool b) (A : At G M H) (S : Same r M0 M) (R : RL r n M) (k1 : ∀ G' M' H', Ex G G' → At G' M' H' → Same r M0 M' → RL r n' M' → s1 D σ H') (k2 : ∀ G' M' H', Ex G G' → At G' M' H' → Same r M0 M' → RL r n' M' → s2 D σ H') : tIfS (tTest te) s1 s2 D σ H := by
  refine h G M H (Ex.refl _) A S R _ fun d v G' M' H' e A' S' R' hd rv => ?_
  obtain ⟨b, rfl⟩ := hd
  refine ⟨b, rv, ?_⟩
  cases b with
  | true => exact k1 G' M' H' e A' S' R'
  | false => exact k2 G' M' H' e A' S' R'
/-- x[j] = e, x a list that is written, e drawn -/
theorem s_setIxE {xs : List V} {kk : Int} {t : Nat} (hi : σ[i]? = some (some (.ref p))) (hj : σ[j]? = some (some (.int kk))) (hp : M0 p = some (.lst xs)) (hn : p ≠ r) (ht : ixN xs.length kk = some t) (h : TrE K r M0 te σ G n n' Φ) (A : At G M H) (S : Same r M0 M) (R : RL r n M)
    (k : ∀ d v G' M' H', Ex G G' → At G' M' H' → Same r (upd M0 p (.lst (xs.set t v))) M' → RL r n' M' → Φ d → Rp K G' d v → D.nx σ H') : tAsg te (gSub (tVar i) (tVar j) rSetL) D σ H := by
  refine h G M H (Ex.refl _) A S R _ fun d v G2 M2 H2 e2 A2 S2 R2 hd rv => ?_
  have hM2 : M2 p = some (.lst xs) := (S2 p hn).trans hp
  refine ⟨.ref p, hi, V.int kk, hj, p, xs, kk, t, rfl, rfl, A2.m _ _ hM2, ht, k d v G2 _ _ e2 (A2.wr hM2) (fun x hx => ?_) (R2.upd hn) hd rv⟩
  by_cases e : x = p
  · subst e
    rw [upd_same, upd_same]
  · rw [upd_ne e, upd_ne e]
    exact S2 x hx
theorem s_appE {xs : List V} (hi : σ[i]? = some (some (.ref p))) (hp : M0 p = some (.lst xs)) (hn : p ≠ r) (hl : xs.length < 100000) (h : TrE K r M0 te σ G n n' Φ) (A : At G M H) (S : Same r M0 M) (R : RL r n M)
    (k : ∀ d v G' M' H', Ex G G' → At G' M' H' → Same r (upd M0 p (.lst (xs ++ [v]))) M' → RL r n' M' → Φ d → Rp K G' d v → D.nx σ H') : tDrop (tBM K "list" rAppend (tVar i) (tCons te tNil)) D σ H :=
  q_appE (s2 := fun D σ H => D.nx σ H) hi hp hn hl h A S R k
/-- a, b = e, e a tuple that is drawn -/
theorem q_tup2E {nn : Nat} (hn : nn = 2) (h : TrE K r M0 te σ G n n' fun d => ∃ ds, d = .tuple ds ∧ ds.length = 2 ∧ Ψ ds) (A : At G M H) (S : Same r M0 M) (R : RL r n M)
    (k : ∀ ds v w G' M' H', Ex G G' → At G' M' H' → Same r M0 M' → RL r n' M' → Ψ ds → RpL K G' ds [v, w] → s2 D ((σ.set i (some v)).set j (some w)) H') : tSeq (tAsg te (gTup K nn (gCons (gName i) (gCons (gName j) gNil)))) s2 D σ H := by
  refine h G M H (Ex.refl _) A S R _ fun d v G' M' H' e A' S' R' hd rv => ?_
  obtain ⟨ds, rfl, hl, hds⟩ := hd
  refine g_tup A' rv (hl.trans hn.symm) fun xs rx => ?_
  have z := rx.len
  rw [hl] at z
  match xs, z, rx with
  | [v, w], _, rx => exact ⟨v, _, rfl, w, _, rfl, rfl, k ds v w G' M' H' e A' S' R' hds rx⟩
end
end Sb

namespace K96
open PySem PySem.Spec PyProof.Rows L2 Sb
local macro_rules | `(tactic| walk_at "ex") => `(tactic| first | exact Ex.refl _ | assumption | (refine' Ex.trans ?_ (by assumption); walk_at "ex"))
local macro_rules | `(tactic| walk_at "rp") => `(tactic| first | assumption | (refine' Rp.up ?e (by assumption); (case e => walk_at "ex")) | exact rfl)
local macro_rules | `(tactic| walk_at "rd") => `(tactic| with_reducible first | exact rd_add | exact rd_sub | exact rd_lt | exact rd_le | exact rd_gt | exact rd_ge | exact rd_eqI | exact rd_neI | exact rd_eqS | exact rd_neS | exact rd_isN | exact rd_ltS | exact rd_inSign | exact rd_eqE)
local macro_rules | `(tactic| walk_at "tr") => `(tactic| first
  | with_reducible exact d_int
  | with_reducible exact d_str
  | with_reducible exact d_bl
  | with_reducible exact d_non
  | with_reducible exact a_nil
  | with_reducible exact b_yes
  | with_reducible exact o_none
  | with_reducible exact d_newD
  | ((with_reducible refine' d_var ?i ?r); (case i => rfl); (case r => walk_at "rp"))
  | ((with_reducible refine' a_cons ?a ?b); (case a => walk_at "tr"); (case b => walk_at "tr"))
  | ((with_reducible refine' a_star ?a ?b); (case a => walk_at "tr"); (case b => walk_at "tr"))
  | ((with_reducible refine' d_isi ?a ?b); (case a => walk_at "tr"); (case b => decide))
  | ((with_reducible refine' d_op ?a ?b ?c); (case a => walk_at "tr"); (case b => walk_at "tr"); (case c => walk_at "rd"))
  | ((with_reducible refine' d_tup ?a ?b); (case a => walk_at "tr"); (case b => first | decide | (simp; done)))
  | ((with_reducible refine' d_lst ?a ?b); (case a => walk_at "tr"); (case b => first | decide | (simp; done)))
  | ((with_reducible refine' o_some ?a); (case a => walk_at "tr"))
  | ((with_reducible refine' b_B ?a); (case a => walk_at "tr"))
  | ((with_reducible refine' b_T ?a); (case a => walk_at "tr"))
  | ((with_reducible refine' b_not ?a); (case a => walk_at "tr"))
  | ((with_reducible refine' v_not ?a); (case a => walk_at "tr"))
  | ((with_reducible refine' b_or ?a ?b); (case a => walk_at "tr"); (case b => intro _; walk_at "tr"))
  | ((with_reducible refine' b_and ?a ?b); (case a => walk_at "tr"); (case b => intro _; walk_at "tr"))
  | ((with_reducible refine' v_or ?a ?b); (case a => walk_at "tr"); (case b => intro _; walk_at "tr"))
  | ((with_reducible refine' v_and ?a ?b); (case a => walk_at "tr"); (case b => intro _; walk_at "tr"))
  | assumption)


theorem okChs.cs {many most : Nat} {cs : List (Str × List Int)} (h : okChs many most cs) (h1 : 1 ≤ many) (h2 : many ≤ 10) (h3 : most ≤ 6) : okCs cs := ⟨by rw [h.l]; exact h1, by rw [h.l]; exact h2, fun p hp => ⟨(h.w p hp).1.1, (h.w p hp).2.le (Nat.le_refl _) h3⟩, h.nd⟩
section
variable {P : Program} {w : World} {K : PySem.W.Frag} {mg : Str → Option Value} {base : Heap}
def R_cod : List PyData → Nat → (PyData → Prop) → Prop := fun ds k Φ => ∃ many most : Nat, ds = [.int many, .int most] ∧ 1 ≤ many ∧ many ≤ 10 ∧ 1 ≤ most ∧ most ≤ 6 ∧ k = 400 ∧ Φ = fun d => ∃ c : CodeD, d = c.d ∧ c.ok ∧ okChs many most c.cs
theorem F__law_code (T : Tx K mg) : Fd P w K mg base CX0 4 "_law_code" (ESp K R_cod) [] := by
  obtain ⟨fd, F⟩ := T.f__law_code
  refine ⟨_, fd, ["fount", "many", "most"], [], T.g__law_code, F.kp, F.bindsN fun _ _ _ _ _ _ us hl => match us, hl with | [_, _, _], _ => rfl, .nil, ?_⟩
  refine fnG_of F sc__law_code (fun vs H Q E h => ESp.len (n := 2) (by rintro _ _ _ ⟨d, e, rfl, _⟩; rfl) h) (fun cdv A outer s H vs Q E hg hr h => ?_)
  obtain ⟨r, ws, G, M, n, k, ds, Φ, rfl, hA, hRL, hws, ⟨many, most, rfl, hm0, hm1, hs0, hs1, rfl, rfl⟩, hn, q⟩ := h
  obtain ⟨v1, _, rfl, r1, v2, _, rfl, r2, rfl⟩ := hws
  refine ⟨_, PSs.nox (pss_cons (ps_set (i := 3) sc__law_code.nd rfl (by first | exact Or.inl rfl | exact Or.inr rfl) (pe_ix ix_list (pe_lst (pa_cons pe_int (pa_cons pe_int (pa_cons pe_int pa_nil)))) (pe_fd (F__law_dip (P := P) (w := w) (base := base) T) hg (hr.mono (by decide)) pass0 (pa_cons (pv 0) (pa_cons pe_int pa_nil))) (fun _ _ => rfl)))
    (pss_cons (ps_par3 (i := 4) (j := 5) (l := 6) (by rfl) sc__law_code.nd rfl rfl rfl (by decide) (by decide) (by decide) rfl rfl rfl (pa_cons (pe_fd (F__law_widths (P := P) (w := w) (base := base) T) hg (hr.mono (by decide)) pass0 (pa_cons (pv 0) (pa_cons pe_int (pa_cons (pv 3) pa_nil)))) (pa_cons (pe_fd (F__law_characters (P := P) (w := w) (base := base) T) hg (hr.mono (by decide)) pass0 (pa_cons (pv 0) (pa_cons (pv 1) (pa_cons (pv 2) pa_nil)))) (pa_cons (pe_fd (F__law_widths (P := P) (w := w) (base := base) T) hg (hr.mono (by decide)) pass0 (pa_cons (pv 0) (pa_cons pe_int (pa_cons pe_int pa_nil)))) pa_nil))) (by rfl))
    (pss_one (ps_ret (pe_tup (pa_cons (pv 4) (pa_cons (pv 5) (pa_cons (pv 6) (pa_cons (pe_fd (F__law_widths (P := P) (w := w) (base := base) T) hg (hr.mono (by decide)) pass0 (pa_cons (pv 0) (pa_cons pe_int (pa_cons (pv 3) pa_nil)))) pa_nil))))))))), ?_⟩
  rw [show L2.start ["fount", "many", "most", "top", "start", "some", "between"] [(.ref r), v1, v2] = [some (.ref r), some v1, some v2, none, none, none, none] from rfl]
  try dsimp only [xK]
  refine q_setE (M0 := M) (n := n) (n' := n + 1) (Φ := fun d => ∃ t : Nat, d = .int t ∧ 1 ≤ t ∧ t ≤ 6) (e_op (Φ1 := fun d => d = .list [.int 3, .int 3, .int 6]) (Φ2 := RI 0 2) (e_D (d_lst (a_cons d_int (a_cons d_int (a_cons d_int a_nil))) (by show 3 ≤ 100000; decide)) rfl) (fun _ _ => spin_c rfl (by decide) (by decide) (by omega)) ?_) hA .refl hRL fun d v3 G1 M1 H1 e1 A1 S1 R1 hd r3 => ?_
  · rintro _ _ rfl ⟨i, rfl, h2, h3⟩
    obtain ⟨e, he, hc⟩ := three_at (a := .int 3) (b := .int 3) (c := .int 6) h2 h3
    refine ⟨e, rd_ixL he, ?_⟩
    rcases hc with rfl | rfl | rfl
    · exact ⟨3, rfl, by decide, by decide⟩
    · exact ⟨3, rfl, by decide, by decide⟩
    · exact ⟨6, rfl, by decide, by decide⟩
  obtain ⟨top, rfl, t1, t6⟩ := hd
  refine q_par3E (Ψ := fun ds => ∃ a cs b, ds = [tD a, .dict (keysD (chD cs)), tD b] ∧ okW 1 6 a ∧ okChs many most cs ∧ okW 0 2 b) (n' := n + 1 + (top + 2) + 300 + 4) (ea_cons (wid_call (lo := 1) (hi := top) rfl d_int (d_var rfl r3) t1 (by omega) (by omega)) fun d hd => ea_cons (Φ := fun d => ∃ cs, d = .dict (keysD (chD cs)) ∧ okChs many most cs) (e_call (k := 300) (Ψ := fun ds => ds = [.int many, .int most]) rfl (ea_A (a_cons (d_var rfl (r1.up e1)) (a_cons (d_var rfl (r2.up e1)) a_nil)) rfl) (fun ds h => ⟨many, most, h, hm0, hm1, hs0, hs1, rfl, rfl⟩) (by omega)) fun d2 hd2 => ea_cons (wid_call (lo := 0) (hi := 2) rfl d_int d_int (by omega) (by omega) (by omega)) fun d3 hd3 => ea_nil ?_) ?_ A1 S1 R1 fun ds v4 v5 v6 G2 M2 H2 e2 A2 S2 R2 hds rvs => ?_
  · obtain ⟨a, rfl, oka⟩ := hd
    obtain ⟨cs, rfl, okc⟩ := hd2
    obtain ⟨b, rfl, okb⟩ := hd3
    exact ⟨a, cs, b, rfl, oka.le (Nat.le_refl _) t6, okc, okb⟩
  · rintro _ ⟨_, _, _, rfl, _⟩
    rfl
  obtain ⟨a, cs, b, rfl, oka, okc, okb⟩ := hds
  obtain ⟨_, _, rr1, r4, _, _, rr2, r5, _, _, rr3, r6, _⟩ := rvs
  cases rr1
  cases rr2
  cases rr3
  refine s_retE (Φ := fun d => ∃ c : CodeD, d = c.d ∧ c.ok ∧ okChs many most c.cs) (n' := n + 1 + (top + 2) + 300 + 4 + (top + 2)) (e_tup (Ψ := fun ds => ∃ z, ds = [tD a, .dict (keysD (chD cs)), tD b, tD z] ∧ okW 1 top z) (ea_cons (Φ := fun d => d = tD a) (e_D (d_var rfl r4) rfl) fun d hd => ea_cons (Φ := fun d => d = .dict (keysD (chD cs))) (e_D (d_var rfl r5) rfl) fun d2 hd2 => ea_cons (Φ := fun d => d = tD b) (e_D (d_var rfl r6) rfl) fun d3 hd3 => ea_cons (wid_call (lo := 1) (hi := top) rfl d_int (d_var rfl (r3.up e2)) t1 (by omega) (by omega)) fun d4 hd4 => ea_nil ?_) fun ds h => ?_) A2 S2 R2 fun d v G' M' H' e' A' S' R' hd rv => q d v G' M' H' ((e1.trans e2).trans e') A' S' (R'.le (by omega)) hd rv
  · obtain ⟨z, rfl, okz⟩ := hd4
    subst hd hd2 hd3
    exact ⟨z, rfl, okz⟩
  · obtain ⟨z, rfl, okz⟩ := h
    exact ⟨Nat.le_of_ble_eq_true rfl, ⟨a, cs, b, z⟩, rfl, ⟨oka, okc.cs hm0 hm1 hs1, okb, okz.le (Nat.le_refl _) t6⟩, okc⟩
theorem F__law_row (T : Tx K mg) : Fd P w K mg base CX0 1 "_law_row" (PSp K R_row_by) [] := by
  obtain ⟨fd, F⟩ := T.f__law_row
  refine ⟨_, fd, ["code", "text"], [], T.g__law_row, F.kp, F.bindsN fun _ _ _ _ _ _ us hl => match us, hl with | [_, _], _ => rfl, .nil, ?_⟩
  refine fnG_of F sc__law_row (fun vs H Q E h => PSp.len (n := 2) (by rintro _ _ ⟨d, e, rfl, _⟩; rfl) h) (fun cdv A outer s H vs Q E hg hr h => ?_)
  obtain ⟨G, M, ds, r, hA, hR, ⟨c, t, rfl, ok, hz, ht, rfl⟩, q⟩ := h
  obtain ⟨v0, _, rfl, r0, v1, _, rfl, r1, rfl⟩ := hR
  refine ⟨_, PSs.nox (pss_cons (ps_set (i := 2) sc__law_row.nd rfl (by first | exact Or.inl rfl | exact Or.inr rfl) (pe_callTy call_listOf (by rfl) T.n_list (by decide +kernel) (pa_cons (pe_op op_catA (pe_ix ix_tup (pv 0) pe_int (fun _ _ => rfl)) (pe_ix ix_tup (pv 0) pe_int (fun _ _ => rfl))) pa_nil)))
    (pss_cons (ps_for PassesOwn.never rfl (pi_str (pv 1)) (pg_name (i := 3) sc__law_row.nd rfl (by first | exact Or.inl rfl | exact Or.inr rfl)) (pss_one (ps_set (i := 2) sc__law_row.nd rfl (by first | exact Or.inl rfl | exact Or.inr rfl) (pe_op op_cat (pv 2) (pe_callTy call_listOf (by rfl) T.n_list (by decide +kernel) (pa_cons (pe_op op_catA (pe_dget (hu_of hr) (pe_ix ix_tup (pv 0) pe_int (fun _ _ => rfl)) (pv 3) (fun _ _ => rfl)) (pe_ix ix_tup (pv 0) pe_int (fun _ _ => rfl))) pa_nil))))))
    (pss_one (ps_ret (pe_op op_cat (pv 2) (pe_callTy call_listOf (by rfl) T.n_list (by decide +kernel) (pa_cons (pe_ix ix_tup (pv 0) pe_int (fun _ _ => rfl)) pa_nil))))))), ?_⟩
  rw [show L2.start ["code", "text", "found", "name"] [v0, v1] = [some v0, some v1, none, none] from rfl]
  try dsimp only [xK]
  have l1 := ok.st.2.1
  have l2 := ok.bt.2.1
  have l3 := ok.sp.2.1
  have hcl : (chrs t).length ≤ 1000 := by rw [chrs_len]; exact hz
  have P0 : ∀ {σ : L2.St} {Gx : Hp}, σ[0]? = some (some v0) → Ex G Gx → TrD K (tOp (rIxT K) (tVar 0) (tC (V.int 0))) σ Gx (.tuple (dInts c.st)) := fun h e => d_op (d_var h (r0.up e)) d_int (rd_ixT rfl)
  have P1 : ∀ {σ : L2.St} {Gx : Hp}, σ[0]? = some (some v0) → Ex G Gx → TrD K (tOp (rIxT K) (tVar 0) (tC (V.int 1))) σ Gx (.dict (keysD (chD c.cs))) := fun h e => d_op (d_var h (r0.up e)) d_int (rd_ixT rfl)
  have P2 : ∀ {σ : L2.St} {Gx : Hp}, σ[0]? = some (some v0) → Ex G Gx → TrD K (tOp (rIxT K) (tVar 0) (tC (V.int 2))) σ Gx (.tuple (dInts c.bt)) := fun h e => d_op (d_var h (r0.up e)) d_int (rd_ixT rfl)
  have P3 : ∀ {σ : L2.St} {Gx : Hp}, σ[0]? = some (some v0) → Ex G Gx → TrD K (tOp (rIxT K) (tVar 0) (tC (V.int 3))) σ Gx (.tuple (dInts c.sp)) := fun h e => d_op (d_var h (r0.up e)) d_int (rd_ixT rfl)
  refine q_set (d_cb (a_cons (d_op (P0 rfl (Ex.refl _)) (P2 rfl (Ex.refl _)) (rd_catA (by rw [dInts_len, dInts_len]; omega))) a_nil) rc_listT) hA fun v2 G1 H1 e1 A1 r2 => ?_
  refine s_seq (s_forSI (fun k σ G' M' => ∃ v2 x3, σ = [some v0, some v1, some v2, x3] ∧ M' = M ∧ Rp K G' (.list (dInts (rowK c t k))) v2) (d_var rfl (r1.up e1)) A1 ?_ ⟨v2, none, rfl, rfl, ?_⟩ (fun k x hk σ1 G3 M1 H3 e3 A3 hI Nx hN => ?_) fun σ1 G3 M1 H3 e3 A3 hI => ?_)
  · rintro k σ1 Ga Gb M1 e ⟨v, x3, h1, h2, h3⟩
    exact ⟨v, x3, h1, h2, h3.up e⟩
  · rw [← dInts_app] at r2
    unfold rowK
    rw [List.take_zero, List.flatMap_nil, List.append_nil]
    exact r2
  · obtain ⟨v, x3, rfl, rfl, rv⟩ := hI
    have hkl : k < (chrs t).length := (List.getElem?_eq_some_iff.mp hk).1
    have z := wsOf_of ok (in_text ht hk)
    have hys := rowK_len ok ht k
    have hw := z.2.1.2.1
    have ex := e1.trans e3
    refine s_set (d_op (d_var rfl rv) (d_cb (a_cons (d_op (d_dget (P1 rfl ex) (d_var (K := K) rfl (d := .str x) rfl) z.2.2) (P2 rfl ex) (rd_catA (by rw [dInts_len, dInts_len]; omega))) a_nil) rc_listT) (rd_cat (by rw [List.length_append, dInts_len, dInts_len, dInts_len]; omega))) A3 fun v' G4 H4 e4 A4 rv' => ?_
    refine hN _ G4 _ H4 e4 A4 ⟨v', _, rfl, rfl, ?_⟩
    rw [rowK_succ hk, List.append_assoc, dInts_app, dInts_app]
    exact rv'
  · obtain ⟨v, x3, rfl, rfl, rv⟩ := hI
    have hl := rowK_len ok ht (chrs t).length
    refine s_ret (TrD.to (d_op (d_var rfl rv) (d_cb (a_cons (P3 rfl (e1.trans e3)) a_nil) rc_listT) (rd_cat (by rw [dInts_len, dInts_len]; omega))) ?_) A3 (q.mono (e1.trans e3))
    rw [← dInts_app, rowK_all]
/-! ### factors -/
def tenK : Nat := 10000000000000000
def IsFac (d : PyData) : Prop := ∃ p q : Nat, d = dF p q ∧ okF p q ∧ p ≤ tenK
theorem big16 : tenK < bigN := by
  unfold bigN
  exact Nat.lt_of_lt_of_le (show tenK < 2 ^ 60 by decide) (Nat.pow_le_pow_right (by decide) (by decide))
theorem isFac_of {p q : Nat} (h1 : 1 ≤ q) (h2 : q ≤ p) (h3 : p ≤ tenK) (h4 : Nat.gcd p q = 1) : IsFac (dF p q) := ⟨p, q, rfl, ⟨h1, h2, Nat.lt_of_le_of_lt h3 big16, h4⟩, h3⟩
theorem gcd_one {a x : Nat} : Nat.gcd (a * x + 1) a = 1 := by
  have h1 := Nat.gcd_dvd_left (a * x + 1) a
  have h2 := Nat.gcd_dvd_right (a * x + 1) a
  exact Nat.dvd_one.mp ((Nat.dvd_add_right (Nat.dvd_trans h2 (Nat.dvd_mul_right a x))).mp h1)
def R_fac : List PyData → Nat → (PyData → Prop) → Prop := fun ds k Φ => ds = [] ∧ k = 10 ∧ Φ = IsFac
theorem F__law_factor (T : Tx K mg) : Fd P w K mg base CX0 2 "_law_factor" (ESp K R_fac) [] := by
  obtain ⟨fd, F⟩ := T.f__law_factor
  refine ⟨_, fd, ["fount"], [], T.g__law_factor, F.kp, F.bindsN fun _ _ _ _ _ _ us hl => match us, hl with | [_], _ => rfl, .nil, ?_⟩
  refine fnG_of F sc__law_factor (fun vs H Q E h => ESp.len (n := 0) (by rintro _ _ _ ⟨rfl, _⟩; rfl) h) (fun cdv A outer s H vs Q E hg hr h => ?_)
  obtain ⟨r, ws, G, M, n, k, ds, Φ, rfl, hA, hRL, hws, ⟨rfl, rfl, rfl⟩, hn, q⟩ := h
  obtain rfl := hws
  refine ⟨_, PSs.nox (pss_cons (ps_par (i := 1) (j := 2) (by rfl) sc__law_factor.nd rfl rfl (by decide) rfl rfl (pa_cons (pe_op op_add (pe_op op_pow pe_int pe_int) (pe_fd (F__law_dip (P := P) (w := w) (base := base) T) hg (hr.mono (by decide)) pass0 (pa_cons (pv 0) (pa_cons pe_int pa_nil)))) (pa_cons (pe_op op_add pe_int (pe_fd (F__law_dip (P := P) (w := w) (base := base) T) hg (hr.mono (by decide)) pass0 (pa_cons (pv 0) (pa_cons pe_int pa_nil)))) pa_nil)) (by rfl))
    (pss_cons (ps_set (i := 3) sc__law_factor.nd rfl (by first | exact Or.inl rfl | exact Or.inr rfl) (pe_lst (pa_cons (pe_tup (pa_cons pe_int (pa_cons pe_int pa_nil))) (pa_cons (pe_tup (pa_cons pe_int (pa_cons pe_int pa_nil))) (pa_cons (pe_tup (pa_cons pe_int (pa_cons pe_int pa_nil))) (pa_cons (pe_tup (pa_cons pe_int (pa_cons pe_int pa_nil))) (pa_cons (pe_tup (pa_cons pe_int (pa_cons pe_int pa_nil))) (pa_cons (pe_tup (pa_cons (pe_op op_add (pv 1) pe_int) (pa_cons (pv 1) pa_nil))) (pa_cons (pe_tup (pa_cons (pe_op op_add pe_int (pe_fd (F__law_dip (P := P) (w := w) (base := base) T) hg (hr.mono (by decide)) pass0 (pa_cons (pv 0) (pa_cons pe_int pa_nil)))) (pa_cons pe_int pa_nil))) pa_nil)))))))))
    (pss_one (ps_ret (pe_ix ix_list (pe_op op_cat (pv 3) (pe_lst (pa_cons (pe_tup (pa_cons (pe_op op_add (pe_op op_mulW (pv 2) (pe_op op_add pe_int (pe_fd (F__law_dip (P := P) (w := w) (base := base) T) hg (hr.mono (by decide)) pass0 (pa_cons (pv 0) (pa_cons (pe_ix ix_list (pe_lst (pa_cons pe_int (pa_cons (pe_op op_pow pe_int pe_int) pa_nil))) (pe_op op_mod (pe_callTy call_int1' (by rfl) T.n_int (by decide +kernel) (pa_cons (pv 2) pa_nil)) pe_int) (fun _ _ => rfl)) pa_nil))))) pe_int) (pa_cons (pv 2) pa_nil))) pa_nil))) (pe_fd (F__law_dip (P := P) (w := w) (base := base) T) hg (hr.mono (by decide)) pass0 (pa_cons (pv 0) (pa_cons pe_int pa_nil))) (fun _ _ => rfl)))))), ?_⟩
  rw [show L2.start ["fount", "far", "low", "some"] [(.ref r)] = [some (.ref r), none, none, none] from rfl]
  try dsimp only [xK]
  refine q_parE (M0 := M) (n := n) (n' := n + 2) (Ψ := fun ds => ∃ f l : Nat, ds = [dN f, dN l] ∧ 1 ≤ f ∧ f ≤ 1000000000000100 ∧ 1 ≤ l ∧ l ≤ 99) (ea_cons (Φ := fun d => ∃ f : Nat, d = dN f ∧ 1 ≤ f ∧ f ≤ 1000000000000100) (e_op (Φ1 := fun d => d = .int 1000000000000000) (Φ2 := RI 0 8) (e_D (TrD.to (d_op d_int d_int (rd_pow ⟨by decide, by decide, by decide⟩)) rfl) rfl) (fun _ _ => spin_c rfl (by decide) (by decide) (by omega)) ?_) fun d hd => ea_cons (Φ := fun d => ∃ l : Nat, d = dN l ∧ 1 ≤ l ∧ l ≤ 99) (e_op (Φ1 := fun d => d = .int 1) (Φ2 := RI 0 98) (e_D d_int rfl) (fun _ _ => spin_c rfl (by decide) (by decide) (by omega)) ?_) fun d2 hd2 => ea_nil ?_) ?_ hA .refl hRL fun ds v1 v2 G1 M1 H1 e1 A1 S1 R1 hds rvs => ?_
  · rintro _ _ rfl ⟨i, rfl, h2, h3⟩
    obtain ⟨iN, rfl⟩ := Int.eq_ofNat_of_zero_le h2
    exact ⟨_, rd_add, 1000000000000000 + iN, rfl, by omega, by omega⟩
  · rintro _ _ rfl ⟨i, rfl, h2, h3⟩
    obtain ⟨iN, rfl⟩ := Int.eq_ofNat_of_zero_le h2
    exact ⟨_, rd_add, 1 + iN, rfl, by omega, by omega⟩
  · obtain ⟨f, rfl, h1, h2⟩ := hd
    obtain ⟨l, rfl, h3, h4⟩ := hd2
    exact ⟨f, l, rfl, h1, h2, h3, h4⟩
  · rintro _ ⟨_, _, rfl, _⟩
    rfl
  obtain ⟨f, l, rfl, f1, f2, l1, l2⟩ := hds
  obtain ⟨_, _, rr1, r1, _, _, rr2, r2, _⟩ := rvs
  cases rr1
  cases rr2
  have cst : ∀ {σ : L2.St} {M0 G : Hp} {m : Nat} (p q : Nat), IsFac (dF p q) → TrE K r M0 (tTup (tCons (tC (V.int (p : Int))) (tCons (tC (V.int (q : Int))) tNil))) σ G m m IsFac := fun p q h => e_D (d_tup (a_cons d_int (a_cons d_int a_nil)) (by show 2 ≤ 100000; decide)) h
  refine q_setE (n' := n + 3) (Φ := fun d => ∃ ds, d = .list ds ∧ ds.length = 7 ∧ ∀ x ∈ ds, IsFac x) (e_lst (ea_all (cst 1 1 (isFac_of (by decide) (by decide) (by decide) (by decide))) (ea_all (cst 2 1 (isFac_of (by decide) (by decide) (by decide) (by decide))) (ea_all (cst 3 2 (isFac_of (by decide) (by decide) (by decide) (by decide))) (ea_all (cst 5 4 (isFac_of (by decide) (by decide) (by decide) (by decide))) (ea_all (cst 4 3 (isFac_of (by decide) (by decide) (by decide) (by decide)))
    (ea_all (e_D (d := dF (f + 1) f) (d_tup (a_cons (d_op (d_var rfl r1) d_int rd_add) (a_cons (d_var rfl r1) a_nil)) (by show 2 ≤ 100000; decide)) (isFac_of f1 (by omega) (by unfold tenK; omega) (by have z := gcd_one (a := f) (x := 1); rw [Nat.mul_one] at z; exact z)))
    (ea_all (e_tup (Ψ := fun ds => ∃ z : Nat, ds = [dN (3 + z), dN 1] ∧ z ≤ 3) (ea_cons (Φ := fun d => ∃ z : Nat, d = dN (3 + z) ∧ z ≤ 3) (e_op (Φ1 := fun d => d = .int 3) (Φ2 := RI 0 3) (e_D d_int rfl) (fun _ _ => spin_c rfl (by decide) (by decide) (by omega)) ?_) fun d hd => ea_cons (Φ := fun d => d = dN 1) (e_D d_int rfl) fun d2 hd2 => ea_nil ?_) fun ds h => ?_) ea_none))))))) fun ds h => ⟨by have := h.1; omega, ds, rfl, h.1, h.2⟩) A1 S1 R1 fun d v3 G2 M2 H2 e2 A2 S2 R2 hd r3 => ?_
  · rintro _ _ rfl ⟨i, rfl, h2, h3⟩
    obtain ⟨iN, rfl⟩ := Int.eq_ofNat_of_zero_le h2
    exact ⟨_, rd_add, iN, rfl, by omega⟩
  · obtain ⟨z, rfl, hz⟩ := hd
    subst hd2
    exact ⟨z, rfl, hz⟩
  · obtain ⟨z, rfl, hz⟩ := h
    exact ⟨Nat.le_of_ble_eq_true rfl, isFac_of (by decide) (by omega) (by unfold tenK; omega) (Nat.gcd_one_right _)⟩
  obtain ⟨some7, rfl, h7, hall7⟩ := hd
  have hz : ∃ z : Int, (∀ (σ : L2.St), σ[2]? = some (some v2) → TrD K (tOp (rIxL K) (tLst (tCons (tC (V.int 3)) (tCons (tOp (rI CPow fun i j => V.int (i ^ j.toNat)) (tC (V.int 10)) (tC (V.int 6))) tNil))) (tOp (rI (fun _ j => 0 < j) fun i j => V.int (i % j)) (tCB rInt1 (tCons (tVar 2) tNil)) (tC (V.int 2)))) σ G2 (.int z)) ∧ 0 < z ∧ z ≤ 1000000 := by
    have hm : (l : Int) % 2 = 0 ∨ (l : Int) % 2 = 1 := by omega
    have t6 : ∀ σ, TrD K (tOp (rI CPow fun i j => V.int (i ^ j.toNat)) (tC (V.int 10)) (tC (V.int 6))) σ G2 (.int 1000000) := fun σ => TrD.to (d_op d_int d_int (rd_pow ⟨by decide, by decide, by decide⟩)) rfl
    rcases hm with hm | hm
    · exact ⟨3, fun σ h => d_op (d_lst (a_cons d_int (a_cons (t6 σ) a_nil)) (by show 2 ≤ 100000; decide)) (TrD.to (d2 := .int 0) (d_op (d_cb (a_cons (d_var h (r2.up e2)) a_nil) rc_int1) d_int (rd_mod (by decide))) (by rw [hm])) (rd_ixL rfl), by decide, by decide⟩
    · exact ⟨1000000, fun σ h => d_op (d_lst (a_cons d_int (a_cons (t6 σ) a_nil)) (by show 2 ≤ 100000; decide)) (TrD.to (d2 := .int 1) (d_op (d_cb (a_cons (d_var h (r2.up e2)) a_nil) rc_int1) d_int (rd_mod (by decide))) (by rw [hm])) (rd_ixL rfl), by decide, by decide⟩
  obtain ⟨z, tz, z0, z1⟩ := hz
  refine s_retE (n' := n + 5) (Φ := IsFac) (e_op (Φ1 := fun d => ∃ ds, d = .list ds ∧ ds.length = 8 ∧ ∀ x ∈ ds, IsFac x) (Φ2 := RI 0 7) (e_op (Φ1 := fun d => d = .list some7) (Φ2 := fun d => ∃ x, d = .list [x] ∧ IsFac x) (e_D (d_var rfl r3) rfl) (fun _ _ => e_lst (Ψ := fun ds => ∃ x, ds = [x] ∧ IsFac x) (ea_cons (Φ := IsFac) (e_tup (Ψ := fun ds => ∃ x : Nat, ds = [dN (l * x + 1), dN l] ∧ 1 ≤ x ∧ x ≤ 1000000) (ea_cons (Φ := fun d => ∃ x : Nat, d = dN (l * x + 1) ∧ 1 ≤ x ∧ x ≤ 1000000) (e_op (Φ1 := fun d => ∃ x : Nat, d = dN (l * x) ∧ 1 ≤ x ∧ x ≤ 1000000) (Φ2 := fun d => d = .int 1) (e_op (Φ1 := fun d => d = dN l) (Φ2 := fun d => ∃ x : Nat, d = dN x ∧ 1 ≤ x ∧ x ≤ 1000000) (e_D (d_var rfl (r2.up e2)) rfl) (fun _ _ => e_op (Φ1 := fun d => d = .int 1) (Φ2 := RI 0 999999) (e_D d_int rfl) (fun _ _ => spin_call rfl (e_D (tz _ rfl) ⟨z, rfl, z0, by omega, fun d h => ?_⟩) (by omega)) ?_) ?_) (fun _ _ => e_D d_int rfl) ?_) fun d hd => ea_cons (Φ := fun d => d = dN l) (e_D (d_var rfl (r2.up e2)) rfl) fun d2 hd2 => ea_nil ?_) fun ds h => ?_) fun d hd => ea_nil ⟨d, rfl, hd⟩) fun ds h => ?_) ?_) (fun _ _ => spin_c rfl (by decide) (by decide) (by omega)) ?_) A2 S2 R2 fun d v G' M' H' e' A' S' R' hd rv => q d v G' M' H' ((e1.trans e2).trans e') A' S' (R'.le (by omega)) hd rv
  · obtain ⟨i, rfl, h2, h3⟩ := h
    exact ⟨i, rfl, h2, by omega⟩
  · rintro _ _ rfl ⟨i, rfl, h2, h3⟩
    obtain ⟨iN, rfl⟩ := Int.eq_ofNat_of_zero_le h2
    exact ⟨_, rd_add, 1 + iN, rfl, by omega, by omega⟩
  · rintro _ _ rfl ⟨x, rfl, h2, h3⟩
    refine ⟨_, rd_mul (mul_ok (by rw [Int.natAbs_natCast]; exact Nat.lt_of_le_of_lt l2 (by decide)) (by rw [Int.natAbs_natCast]; exact Nat.lt_of_le_of_lt h3 (by decide))), x, ?_, h2, h3⟩
    rw [← Int.natCast_mul]
    rfl
  · rintro _ _ ⟨x, rfl, h2, h3⟩ rfl
    exact ⟨_, rd_add, x, rfl, h2, h3⟩
  · obtain ⟨x, rfl, h2, h3⟩ := hd
    subst hd2
    exact ⟨x, rfl, h2, h3⟩
  · obtain ⟨x, rfl, h2, h3⟩ := h
    refine ⟨Nat.le_of_ble_eq_true rfl, isFac_of l1 ?_ ?_ gcd_one⟩
    · have := Nat.mul_le_mul_left l h2
      omega
    · have z1 : l * x ≤ 99 * 1000000 := Nat.mul_le_mul l2 h3
      unfold tenK
      omega
  · obtain ⟨x, rfl, hx⟩ := h
    exact ⟨Nat.le_of_ble_eq_true rfl, x, rfl, hx⟩
  · rintro _ _ rfl ⟨x, rfl, hx⟩
    refine ⟨_, rd_cat (by rw [h7]; show 7 + 1 ≤ 100000; decide), _, rfl, by rw [List.length_append, h7]; rfl, fun y hy => ?_⟩
    rcases List.mem_append.mp hy with hy | hy
    · exact hall7 y hy
    · rw [List.mem_singleton.mp hy]; exact hx
  · rintro _ _ ⟨ds, rfl, h8, hall⟩ ⟨i, rfl, h2, h3⟩
    obtain ⟨iN, rfl⟩ := Int.eq_ofNat_of_zero_le h2
    have hi : iN < ds.length := by omega
    exact ⟨_, rd_ixL (at_dat hi), hall _ (List.getElem_mem hi)⟩
end
end K96

namespace K96
open PySem PySem.Spec PyProof.Rows L2 Sb
local macro_rules | `(tactic| walk_at "ex") => `(tactic| first | exact Ex.refl _ | assumption | (refine' Ex.trans ?_ (by assumption); walk_at "ex"))
local macro_rules | `(tactic| walk_at "rp") => `(tactic| first | assumption | (refine' Rp.up ?e (by assumption); (case e => walk_at "ex")) | exact rfl)
local macro_rules | `(tactic| walk_at "rd") => `(tactic| with_reducible first | exact rd_add | exact rd_sub | exact rd_lt | exact rd_le | exact rd_gt | exact rd_ge | exact rd_eqI | exact rd_neI | exact rd_eqS | exact rd_neS | exact rd_isN | exact rd_ltS | exact rd_inSign | exact rd_eqE)
local macro_rules | `(tactic| walk_at "tr") => `(tactic| first
  | with_reducible exact d_int
  | with_reducible exact d_str
  | with_reducible exact d_bl
  | with_reducible exact d_non
  | with_reducible exact a_nil
  | with_reducible exact b_yes
  | with_reducible exact o_none
  | with_reducible exact d_newD
  | ((with_reducible refine' d_var ?i ?r); (case i => rfl); (case r => walk_at "rp"))
  | ((with_reducible refine' a_cons ?a ?b); (case a => walk_at "tr"); (case b => walk_at "tr"))
  | ((with_reducible refine' a_star ?a ?b); (case a => walk_at "tr"); (case b => walk_at "tr"))
  | ((with_reducible refine' d_isi ?a ?b); (case a => walk_at "tr"); (case b => decide))
  | ((with_reducible refine' d_op ?a ?b ?c); (case a => walk_at "tr"); (case b => walk_at "tr"); (case c => walk_at "rd"))
  | ((with_reducible refine' d_tup ?a ?b); (case a => walk_at "tr"); (case b => first | decide | (simp; done)))
  | ((with_reducible refine' d_lst ?a ?b); (case a => walk_at "tr"); (case b => first | decide | (simp; done)))
  | ((with_reducible refine' o_some ?a); (case a => walk_at "tr"))
  | ((with_reducible refine' b_B ?a); (case a => walk_at "tr"))
  | ((with_reducible refine' b_T ?a); (case a => walk_at "tr"))
  | ((with_reducible refine' b_not ?a); (case a => walk_at "tr"))
  | ((with_reducible refine' v_not ?a); (case a => walk_at "tr"))
  | ((with_reducible refine' b_or ?a ?b); (case a => walk_at "tr"); (case b => intro _; walk_at "tr"))
  | ((with_reducible refine' b_and ?a ?b); (case a => walk_at "tr"); (case b => intro _; walk_at "tr"))
  | ((with_reducible refine' v_or ?a ?b); (case a => walk_at "tr"); (case b => intro _; walk_at "tr"))
  | ((with_reducible refine' v_and ?a ?b); (case a => walk_at "tr"); (case b => intro _; walk_at "tr"))
  | assumption)


/-! ### drawn scans -/
def vN (ns : List Nat) : List V := ns.map fun n : Nat => V.int (n : Int)
theorem vN_len (ns : List Nat) : (vN ns).length = ns.length := List.length_map ..
theorem vN_snoc (ns : List Nat) (n : Nat) : vN (ns ++ [n]) = vN ns ++ [V.int (n : Int)] := List.map_append ..
theorem rpL_vN {K : PySem.W.Frag} {G : Hp} : ∀ (ns : List Nat), RpL K G (dNs ns) (vN ns)
  | [] => rfl
  | n :: ns => ⟨V.int (n : Int), vN ns, rfl, rfl, rpL_vN ns⟩
theorem rpL_vNi {K : PySem.W.Frag} {G : Hp} {ns : List Nat} {xs : List V} (h : RpL K G (dNs ns) xs) : xs = vN ns := by
  rw [dNs_ints] at h
  rw [(rpL_ints _).mp h, List.map_map]
  rfl
theorem dNs_at {ns : List Nat} {k : Nat} (h : k < ns.length) : L2.atI (dNs ns) (k : Int) = some (dN ns[k]) := by
  rw [at_dat (by rw [dNs_len]; exact h)]
  congr 1
  unfold dNs
  rw [List.getElem_map]
theorem dNs_last {ns : List Nat} {k : Nat} (h : ns.length = k + 1) : L2.atI (dNs ns) (-1) = some (dN (ns[k]'(by omega))) := by
  unfold L2.atI ixN
  rw [if_neg (by decide), if_pos (by rw [dNs_len]; omega)]
  have e : ((-1 : Int) + ((dNs ns).length : Int)).toNat = k := by rw [dNs_len]; omega
  show (dNs ns)[_]? = _
  rw [e]
  unfold dNs
  rw [List.getElem?_map, List.getElem?_eq_getElem (by omega)]
  rfl
theorem upd3 {M : Hp} {p q : Addr} {a b c : HO} (h : p ≠ q) : upd (upd (upd M p a) q b) p c = upd (upd M p c) q b := by
  funext x
  by_cases h1 : x = p
  · subst h1
    rw [upd_same, upd_ne h, upd_same]
  · rw [upd_ne h1]
    by_cases h2 : x = q
    · subst h2
      rw [upd_same, upd_same]
    · rw [upd_ne h2, upd_ne h2, upd_ne h1, upd_ne h1]
def scB : Nat := 100 * tenK ^ 6
theorem scB_lt : scB < smN := by
  unfold scB smN
  have h1 : 100 * tenK ^ 6 < 2 ^ 7 * (2 ^ 60) ^ 6 := Nat.mul_lt_mul_of_lt_of_le (by decide) (Nat.pow_le_pow_left (by decide) 6) (by decide)
  rw [← Nat.pow_mul, ← Nat.pow_add] at h1
  exact Nat.lt_of_lt_of_le h1 (Nat.pow_le_pow_right (by decide) (by decide))
theorem scB_big : scB < bigN := sm_big scB_lt
theorem ten_sc : tenK ≤ scB := by
  unfold scB
  have h : tenK ^ 1 ≤ tenK ^ 6 := Nat.pow_le_pow_right (by decide) (by decide)
  rw [Nat.pow_one] at h
  omega
theorem ten3 {k : Nat} (h : k ≤ 3) : tenK ^ k ≤ scB := by
  unfold scB
  have h : tenK ^ k ≤ tenK ^ 6 := Nat.pow_le_pow_right (by decide) (by omega)
  omega
/-- a drawn scan of so many durations -/
def IsScan (len : Nat) (d : PyData) : Prop := ∃ ss : List Nat, d = .list (dNs ss) ∧ ss.length = len ∧ ∀ s ∈ ss, 1 ≤ s ∧ s ≤ scB
def inB (k : Nat) (us : List Nat) : Prop := us.length = k + 1 ∧ ∀ u ∈ us, 1 ≤ u ∧ u ≤ tenK ^ k
theorem inB.snoc {k u : Nat} {us : List Nat} (h : inB k us) (h1 : 1 ≤ u) (h2 : u ≤ tenK ^ (k + 1)) : inB (k + 1) (us ++ [u]) := by
  refine ⟨by rw [List.length_append, h.1]; rfl, fun x hx => ?_⟩
  rcases List.mem_append.mp hx with hx | hx
  · exact ⟨(h.2 x hx).1, Nat.le_trans (h.2 x hx).2 (Nat.pow_le_pow_right (by decide) (Nat.le_succ k))⟩
  · rw [List.mem_singleton.mp hx]; exact ⟨h1, h2⟩
section
variable {P : Program} {w : World} {K : PySem.W.Frag} {mg : Str → Option Value} {base : Heap}
def R_scn : List PyData → Nat → (PyData → Prop) → Prop := fun ds k Φ => ∃ (ms : List Nat) (p q : Nat), ds = [.list (dNs ms), dF p q] ∧ 1 ≤ ms.length ∧ ms.length ≤ 1000 ∧ (∀ m ∈ ms, 1 ≤ m ∧ m ≤ 4) ∧ okF p q ∧ p ≤ tenK ∧ k = ms.length + 10 ∧ Φ = IsScan ms.length
abbrev slS (r pu pd : Addr) (v1 v2 : V) (a5 a6 a7 a8 a9 a10 a11 : Option V) : L2.St := [some (.ref r), some v1, some v2, some (.ref pu), some (.ref pd), a5, a6, a7, a8, a9, a10, a11, none]
theorem F__law_scan (T : Tx K mg) : Fd P w K mg base CX0 2 "_law_scan" (ESp K R_scn) [] := by
  obtain ⟨fd, F⟩ := T.f__law_scan
  refine ⟨_, fd, ["fount", "row", "factor"], [], T.g__law_scan, F.kp, F.bindsN fun _ _ _ _ _ _ us hl => match us, hl with | [_, _, _], _ => rfl, .nil, ?_⟩
  refine fnG_of F sc__law_scan (fun vs H Q E h => ESp.len (n := 2) (by rintro _ _ _ ⟨d, e, f, rfl, _⟩; rfl) h) (fun cdv A outer s H vs Q E hg hr h => ?_)
  obtain ⟨r, ws, G, M, n, k, ds, Φ, rfl, hA, hRL, hws, ⟨ms, fp, fq, rfl, hm0, hm1, hms, hf, hp16, rfl, rfl⟩, hn, q⟩ := h
  obtain ⟨v1, _, rfl, r1, v2, _, rfl, r2, rfl⟩ := hws
  refine ⟨_, PSs.nox (pss_cons (ps_par (i := 3) (j := 4) (by rfl) sc__law_scan.nd rfl rfl (by decide) rfl rfl (pa_cons (pe_lst (pa_cons pe_int pa_nil)) (pa_cons (pe_lst (pa_cons pe_int pa_nil)) pa_nil)) (by rfl))
    (pss_cons (ps_for PassesOwn.never rfl (pi_range1 (by rfl) T.n_range (pa_cons pe_int pa_nil)) (pg_name (i := 5) sc__law_scan.nd rfl (by first | exact Or.inl rfl | exact Or.inr rfl)) (pss_cons (ps_expr (pe_bm PySem.F.plainAttrs_list PySem.F.slot_list_append PySem.F.type_list_append mt_append (pv 3) (pa_cons (pe_op op_mulW (pe_ix ix_list (pv 3) (pe_un un_neg pe_int) (fun _ _ => rfl)) (pe_ix ix_tup (pv 2) pe_int (fun _ _ => rfl))) pa_nil))) (pss_one (ps_expr (pe_bm PySem.F.plainAttrs_list PySem.F.slot_list_append PySem.F.type_list_append mt_append (pv 4) (pa_cons (pe_op op_mulW (pe_ix ix_list (pv 4) (pe_un un_neg pe_int) (fun _ _ => rfl)) (pe_ix ix_tup (pv 2) pe_int (fun _ _ => rfl))) pa_nil))))))
    (pss_cons (ps_par3 (i := 6) (j := 7) (l := 8) (by rfl) sc__law_scan.nd rfl rfl rfl (by decide) (by decide) (by decide) rfl rfl rfl (pa_cons pe_int (pa_cons (pe_lst pa_nil) (pa_cons (pe_ifExp (pt_cmpR op_lt (pe_ix ix_tup (pv 2) pe_int (fun _ _ => rfl)) pe_int (nomark _)) pe_int pe_int) pa_nil))) (by rfl))
    (pss_cons (ps_for PassesOwn.never rfl (pi_list (pv 1)) (pg_name (i := 9) sc__law_scan.nd rfl (by first | exact Or.inl rfl | exact Or.inr rfl)) (pss_cons (ps_set (i := 6) sc__law_scan.nd rfl (by first | exact Or.inl rfl | exact Or.inr rfl) (pe_callB (call_max2' rfl) (by rfl) T.n_max (by decide +kernel) (pa_cons pe_int (pa_cons (pe_callB (call_min2' rfl) (by rfl) T.n_min (by decide +kernel) (pa_cons (pv 8) (pa_cons (pe_op op_add (pv 6) (pe_ix ix_list (pe_lst (pa_cons pe_int (pa_cons pe_int (pa_cons pe_int (pa_cons (pe_un un_neg pe_int) pa_nil))))) (pe_fd (F__law_dip (P := P) (w := w) (base := base) T) hg (hr.mono (by decide)) pass0 (pa_cons (pv 0) (pa_cons pe_int pa_nil))) (fun _ _ => rfl))) pa_nil))) pa_nil)))) (pss_one (ps_expr (pe_bm PySem.F.plainAttrs_list PySem.F.slot_list_append PySem.F.type_list_append mt_append (pv 7) (pa_cons (pe_op op_mulW (pe_op op_mulW (pv 9) (pe_ix ix_list (pv 3) (pv 6) (fun _ _ => rfl))) (pe_ix ix_list (pv 4) (pe_op op_sub (pv 8) (pv 6)) (fun _ _ => rfl))) pa_nil))))))
    (pss_cons (ps_asg (pe_tup (pa_cons (pe_fd (F__law_dip (P := P) (w := w) (base := base) T) hg (hr.mono (by decide)) pass0 (pa_cons (pv 0) (pa_cons (pe_callB call_len' (by rfl) T.n_len (by decide +kernel) (pa_cons (pv 1) pa_nil)) pa_nil))) (pa_cons (pe_ix ix_list (pe_lst (pa_cons pe_int (pa_cons pe_int (pa_cons pe_int pa_nil)))) (pe_fd (F__law_dip (P := P) (w := w) (base := base) T) hg (hr.mono (by decide)) pass0 (pa_cons (pv 0) (pa_cons pe_int pa_nil))) (fun _ _ => rfl)) pa_nil))) (pg_tup (by rfl) (pgs_cons (pg_name (i := 10) sc__law_scan.nd rfl (by first | exact Or.inl rfl | exact Or.inr rfl)) (pgs_cons (pg_name (i := 11) sc__law_scan.nd rfl (by first | exact Or.inl rfl | exact Or.inr rfl)) pgs_nil))))
    (pss_cons (ps_setLc (i := 7) (own := [("one", 12)]) (g := gName 12) (by rfl) sc__law_scan.nd rfl rfl (sw_true rfl rfl rfl (by decide +kernel)) (pi_list (pv 7)) (blkOk_by (own := [("one", 12)]) (N := ["fount", "row", "factor", "ups", "downs", "turn", "at", "found", "size", "width", "spot", "unit", "one"]) (sc := defScope s__law_scan) (by decide +kernel)) (fun _ _ _ _ _ => (pg_name (i := 12) sc__law_scan.nd rfl (by first | exact Or.inl rfl | exact Or.inr rfl))) (fun _ _ _ _ _ => pts_nil) (fun _ _ _ _ _ => (pe_op op_mulW (pv 11) (pv 12))))
    (pss_cons (ps_if (pt_cmpR op_eq (pe_fd (F__law_dip (P := P) (w := w) (base := base) T) hg (hr.mono (by decide)) pass0 (pa_cons (pv 0) (pa_cons pe_int pa_nil))) pe_int (nomark _)) (pss_one (ps_asg (pe_ix ix_list (pe_lst (pa_cons (pe_op op_add (pe_ix ix_list (pv 7) (pv 10) (fun _ _ => rfl)) pe_int) (pa_cons (pe_callB (call_max2' rfl) (by rfl) T.n_max (by decide +kernel) (pa_cons pe_int (pa_cons (pe_op op_sub (pe_ix ix_list (pv 7) (pv 10) (fun _ _ => rfl)) pe_int) pa_nil))) (pa_cons (pe_op op_mulW pe_int (pe_ix ix_list (pv 7) (pv 10) (fun _ _ => rfl))) pa_nil)))) (pe_fd (F__law_dip (P := P) (w := w) (base := base) T) hg (hr.mono (by decide)) pass0 (pa_cons (pv 0) (pa_cons pe_int pa_nil))) (fun _ _ => rfl)) (pg_sub (pv 7) (pv 10) set_list))) pss_nil)
    (pss_one (ps_ret (pv 7)))))))))), ?_⟩
  rw [show L2.start ["fount", "row", "factor", "ups", "downs", "turn", "at", "found", "size", "width", "spot", "unit", "one"] [(.ref r), v1, v2] = [some (.ref r), some v1, some v2, none, none, none, none, none, none, none, none, none, none] from rfl]
  try dsimp only [xK]
  -- ups, downs
  refine ⟨show (1 : Nat) ≤ sizeLine by decide, fun pu hpu => ⟨show (1 : Nat) ≤ sizeLine by decide, fun pd hpd => ⟨_, _, rfl, ?_⟩⟩⟩
  have hpd : upd H pu (.lst (vN [1])) pd = none := hpd
  have Mpu := hA.mNone hpu
  have A1 := hA.nm (o := .lst (vN [1])) hpu
  have hne : pd ≠ pu := fun z => by rw [z, upd_same] at hpd; cases hpd
  have Mpd : M pd = none := by have z := A1.mNone hpd; rw [upd_ne hne] at z; exact z
  have A2 := A1.nm (o := .lst (vN [1])) hpd
  have nu : pu ≠ r := hRL.ne Mpu
  have nd : pd ≠ r := hRL.ne Mpd
  have RL2 := (hRL.upd (o := .lst (vN [1])) nu).upd (o := .lst (vN [1])) nd
  have tfac : ∀ {σ : L2.St} {Gx : Hp} (j : Nat) (x : Nat), [dN fp, dN fq][j]? = some (dN x) → L2.atI [dN fp, dN fq] (j : Int) = some (dN x) → σ[2]? = some (some v2) → Ex G Gx → TrD K (tOp (rIxT K) (tVar 2) (tC (V.int (j : Int)))) σ Gx (dN x) := fun j x _ hx hs he => d_op (d_var hs (r2.up he)) d_int (rd_ixT hx)
  -- powers of the factor
  refine s_seq (s_forRI (n := 3) (fun k σ G' M' => ∃ (us ds : List Nat) (a5 : Option V), σ = slS r pu pd v1 v2 a5 none none none none none none ∧ Same r (upd (upd M pu (.lst (vN us))) pd (.lst (vN ds))) M' ∧ RL r n M' ∧ inB k us ∧ inB k ds) (d_int (K := K)) (by decide) (by decide) A2 (fun e h => h) ⟨[1], [1], none, rfl, .refl, RL2, ⟨rfl, by decide⟩, ⟨rfl, by decide⟩⟩ (fun k hk σ1 G1 M1 H1 eL AL hI Nx hN => ?_) fun σ1 G1 M1 H1 eL AL hI => ?_)
  · obtain ⟨us, ds, a5, rfl, SL, RL', bu, bd⟩ := hI
    have hk3 : k < 3 := by omega
    have more : ∀ {x : Nat} {zs : List Nat} {i : Nat} {p : Addr} {xs : List V} {M0 Gx : Hp} {σ : L2.St} (j : Nat), 1 ≤ x → x ≤ tenK → inB k zs → L2.atI [dN fp, dN fq] (j : Int) = some (dN x) → σ[2]? = some (some v2) → Ex G Gx → σ[i]? = some (some (.ref p)) → M0 p = some (.lst (vN zs)) → p ≠ r →
        TrE K r M0 (tOp (rI CMulW fun i j => V.int (i * j)) (tOp (rIxL K) (tVar i) (tUn (rU fun i => V.int (-i)) (tC (V.int 1)))) (tOp (rIxT K) (tVar 2) (tC (V.int (j : Int))))) σ Gx n n fun d => ∃ u : Nat, d = dN u ∧ 1 ≤ u ∧ u ≤ tenK ^ (k + 1) := fun {x zs i p xs M0 Gx σ} j hx1 hx2 hb hat h2 he hi hp hn => by
      refine e_op (Φ1 := fun d => ∃ u : Nat, d = dN u ∧ 1 ≤ u ∧ u ≤ tenK ^ k) (Φ2 := fun d => d = dN x) (e_ixM (Φ1 := fun d => d = .int (-1)) hi hp hn (rpL_vN zs) (e_D (d_un d_int (ru_neg (i := 1))) rfl) fun d hd => ?_) (fun _ _ => e_D (d_op (d_var h2 (r2.up he)) d_int (rd_ixT hat)) rfl) ?_
      · subst hd
        exact ⟨-1, _, rfl, dNs_last hb.1, _, rfl, hb.2 _ (List.getElem_mem _)⟩
      · rintro _ _ ⟨u, rfl, u1, u2⟩ rfl
        refine ⟨_, rd_mul (mul_okN (Nat.lt_of_le_of_lt (Nat.le_trans u2 (ten3 (by omega))) scB_big) (Nat.lt_of_le_of_lt (Nat.le_trans hx2 ten_sc) scB_big)), u * x, ?_, Nat.mul_pos u1 hx1, ?_⟩
        · rw [← Int.natCast_mul]; rfl
        · rw [Nat.pow_succ]; exact Nat.mul_le_mul u2 hx2
    refine q_appE (i := 3) (p := pu) rfl (by rw [upd_ne (Ne.symm hne), upd_same]) nu (by rw [vN_len, bu.1]; omega) (more (xs := []) 0 (Nat.le_trans hf.1 hf.2.1) hp16 bu rfl rfl eL rfl (by rw [upd_ne (Ne.symm hne), upd_same]) nu) AL SL RL' fun d y G2 M2 H2 e2 A3 S2 R2 hd ry => ?_
    obtain ⟨u, rfl, u1, u2⟩ := hd
    rw [show y = V.int _ from ry, ← vN_snoc, upd3 (Ne.symm hne)] at S2
    refine s_appE (i := 4) (p := pd) rfl upd_same nd (by rw [vN_len, bd.1]; omega) (more (xs := []) 1 hf.1 (Nat.le_trans hf.2.1 hp16) bd rfl rfl (eL.trans e2) rfl upd_same nd) A3 S2 R2 fun d y2 G3 M3 H3 e3 A4 S3 R3 hd ry2 => ?_
    obtain ⟨u', rfl, u1', u2'⟩ := hd
    rw [show y2 = V.int _ from ry2, ← vN_snoc, upd_upd] at S3
    exact hN _ G3 M3 H3 (e2.trans e3) A4 ⟨_, _, _, rfl, S3, R3, bu.snoc u1 u2, bd.snoc u1' u2'⟩
  · obtain ⟨us, ds, a5, rfl, SL, RL', bu, bd⟩ := hI
    -- at, found, size
    refine ⟨show (0 : Nat) ≤ sizeLine from Nat.zero_le _, fun pf hpf => ?_⟩
    have Mpf := AL.mNone hpf
    have A3 := AL.nm (o := .lst (vN [])) hpf
    have nf : pf ≠ r := RL'.ne Mpf
    have hM1u : M1 pu = some (.lst (vN us)) := by rw [SL pu nu, upd_ne (Ne.symm hne), upd_same]
    have hM1d : M1 pd = some (.lst (vN ds)) := (SL pd nd).trans upd_same
    have nfu : pf ≠ pu := fun z => by rw [z, hM1u] at Mpf; cases Mpf
    have nfd : pf ≠ pd := fun z => by rw [z, hM1d] at Mpf; cases Mpf
    have Mf0 : M pf = none := by
      have z := SL pf nf
      rw [Mpf, upd_ne nfd, upd_ne nfu] at z
      exact z.symm
    have hsz : ∃ sz : Nat, TrD K (tIf (tTest (tOp (rI0 fun i j => V.bl (decide (i < j))) (tOp (rIxT K) (tVar 2) (tC (V.int 0))) (tC (V.int 1000)))) (tC (V.int 3)) (tC (V.int 1))) (slS r pu pd v1 v2 a5 none none none none none none) G1 (.int (sz : Int)) ∧ sz ≤ 3 := by
      have ht : TrB (tTest (tOp (rI0 fun i j => V.bl (decide (i < j))) (tOp (rIxT K) (tVar 2) (tC (V.int 0))) (tC (V.int 1000)))) (slS r pu pd v1 v2 a5 none none none none none none) G1 (decide ((fp : Int) < 1000)) := b_T (d_op (d_op (d_var rfl (r2.up eL)) d_int (rd_ixT (d := dN fp) rfl)) d_int rd_lt)
      by_cases h : (fp : Int) < 1000
      · exact ⟨3, d_if ht (fun _ => d_int) fun z => absurd h (of_decide_eq_false z), by decide⟩
      · exact ⟨1, d_if ht (fun z => absurd (of_decide_eq_true z) h) fun _ => d_int, by decide⟩
    obtain ⟨sz, tsz, sz3⟩ := hsz
    refine w_D tsz A3 fun v8 G2 H2 e2 A4 r8 => ⟨_, _, _, rfl, ?_⟩
    rw [show v8 = V.int _ from r8]
    have S4 : Same r (upd (upd (upd M pu (.lst (vN us))) pd (.lst (vN ds))) pf (.lst (vN []))) (upd M1 pf (.lst (vN []))) := fun x hx => by
      by_cases h : x = pf
      · subst h; rw [upd_same, upd_same]
      · rw [upd_ne h, upd_ne h]; exact SL x hx
    refine s_seq (s_forLI (fun k σ G' M' => ∃ (fs : List Nat) (at0 : Nat) (a9 : Option V), σ = slS r pu pd v1 v2 a5 (some (.int (at0 : Int))) (some (.ref pf)) (some (.int (sz : Int))) a9 none none ∧ at0 ≤ sz ∧ Same r (upd (upd (upd M pu (.lst (vN us))) pd (.lst (vN ds))) pf (.lst (vN fs))) M' ∧ RL r (n + k) M' ∧ fs.length = k ∧ ∀ s ∈ fs, 1 ≤ s ∧ s ≤ 4 * tenK ^ 6) (d_var rfl (r1.up (eL.trans e2))) A4 (fun e h => h) ⟨[], 0, none, rfl, Nat.zero_le _, S4, (RL'.upd nf).le (by omega), rfl, fun _ h => by cases h⟩ (fun k d hd x σ1 G3 M3 H3 e3 A5 hI rx Nx hN => ?_) fun σ1 G3 M3 H3 e3 A5 hI => ?_)
    · obtain ⟨fs, at0, a9, rfl, hat, SF, RF, hfl, hfs⟩ := hI
      have hkm : k < ms.length := by have := (List.getElem?_eq_some_iff.mp hd).1; rw [dNs_len] at this; exact this
      obtain ⟨m, rfl, hm⟩ : ∃ m : Nat, d = dN m ∧ 1 ≤ m ∧ m ≤ 4 := by
        unfold dNs at hd
        rw [List.getElem?_map, List.getElem?_eq_getElem hkm] at hd
        exact ⟨ms[k], (Option.some.inj hd).symm, hms _ (List.getElem_mem hkm)⟩
      have lst4 : ∀ {σ : L2.St} {Gx : Hp}, TrD K (tLst (tCons (tC (V.int 0)) (tCons (tC (V.int 0)) (tCons (tC (V.int 1)) (tCons (tUn (rU fun i => V.int (-i)) (tC (V.int 1))) tNil))))) σ Gx (.list [.int 0, .int 0, .int 1, .int (-1)]) := d_lst (a_cons d_int (a_cons d_int (a_cons d_int (a_cons (d_un d_int (ru_neg (i := 1))) a_nil)))) (by show 4 ≤ 100000; decide)
      refine q_setE (n' := n + k + 1) (Φ := fun d => ∃ a : Nat, d = dN a ∧ a ≤ sz) (e_cb (Ψ := fun ds => ∃ z : Int, ds = [.int 0, .int z] ∧ z ≤ sz) (ea_cons (Φ := fun d => d = .int 0) (e_D d_int rfl) fun d hd => ea_cons (Φ := fun d => ∃ z : Int, d = .int z ∧ z ≤ sz) (e_cb (Ψ := fun ds => ∃ z : Int, ds = [.int (sz : Int), .int z]) (ea_cons (Φ := fun d => d = .int (sz : Int)) (e_D (d_var rfl (d := .int (sz : Int)) rfl) rfl) fun d hd => ea_cons (Φ := fun d => ∃ z : Int, d = .int z) (e_op (Φ1 := fun d => d = .int (at0 : Int)) (Φ2 := fun d => ∃ z : Int, d = .int z) (e_D (d_var rfl (d := .int (at0 : Int)) rfl) rfl) (fun _ _ => e_op (Φ1 := fun d => d = .list [.int 0, .int 0, .int 1, .int (-1)]) (Φ2 := RI 0 3) (e_D lst4 rfl) (fun _ _ => spin_c rfl (by decide) (by decide) (by omega)) ?_) ?_) fun d2 hd2 => ea_nil ?_) ?_) fun d2 hd2 => ea_nil ?_) ?_) A5 SF RF fun d v6 G4 M4 H4 e4 A6 S6 R6 hd r6 => ?_
      · rintro _ _ rfl ⟨i, rfl, h0, h1⟩
        obtain ⟨e, he, hc⟩ := four_at (a := .int 0) (b := .int 0) (c := .int 1) (d := .int (-1)) h0 h1
        refine ⟨e, rd_ixL he, ?_⟩
        rcases hc with rfl | rfl | rfl | rfl
        · exact ⟨0, rfl⟩
        · exact ⟨0, rfl⟩
        · exact ⟨1, rfl⟩
        · exact ⟨-1, rfl⟩
      · rintro _ _ rfl ⟨z, rfl⟩
        exact ⟨_, rd_add, _, rfl⟩
      · obtain ⟨z, rfl⟩ := hd2
        subst hd
        exact ⟨z, rfl⟩
      · rintro _ ⟨z, rfl⟩
        exact ⟨_, rc_min2, _, rfl, by split <;> omega⟩
      · obtain ⟨z, rfl, hz⟩ := hd2
        subst hd
        exact ⟨z, rfl, hz⟩
      · rintro _ ⟨z, rfl, hz⟩
        by_cases hz0 : z > 0
        · obtain ⟨zN, rfl⟩ := Int.eq_ofNat_of_zero_le (show 0 ≤ z by omega)
          exact ⟨_, rc_max2, zN, by rw [if_pos hz0]; rfl, by omega⟩
        · exact ⟨_, rc_max2, 0, by rw [if_neg hz0]; rfl, Nat.zero_le _⟩
      obtain ⟨at1, rfl, hat1⟩ := hd
      rw [show v6 = V.int _ from r6]
      have hu3 : at1 < us.length := by rw [bu.1]; show at1 < 4; omega
      have hd3 : sz - at1 < ds.length := by rw [bd.1]; show sz - at1 < 4; omega
      have fu := bu.2 _ (List.getElem_mem hu3)
      have fd' := bd.2 _ (List.getElem_mem hd3)
      have hM0u : (upd (upd (upd M pu (.lst (vN us))) pd (.lst (vN ds))) pf (.lst (vN fs))) pu = some (.lst (vN us)) := by rw [upd_ne (Ne.symm nfu), upd_ne (Ne.symm hne), upd_same]
      have hM0d : (upd (upd (upd M pu (.lst (vN us))) pd (.lst (vN ds))) pf (.lst (vN fs))) pd = some (.lst (vN ds)) := by rw [upd_ne (Ne.symm nfd), upd_same]
      refine s_appE (i := 7) (p := pf) (Φ := fun d => ∃ s : Nat, d = dN s ∧ 1 ≤ s ∧ s ≤ 4 * tenK ^ 6) (n' := n + k + 1) rfl upd_same nf (by rw [vN_len, hfl]; omega) (e_op (Φ1 := fun d => d = dN (m * us[at1])) (Φ2 := fun d => d = dN ds[sz - at1]) (e_op (Φ1 := fun d => d = dN m) (Φ2 := fun d => d = dN us[at1]) (e_D (d_var rfl (rx.up e4)) rfl) (fun _ _ => e_ixM (i := 3) (p := pu) (Φ1 := fun d => d = .int (at1 : Int)) rfl hM0u nu (rpL_vN us) (e_D (d_var rfl (d := .int (at1 : Int)) rfl) rfl) fun d hd => ?_) ?_) (fun _ _ => e_ixM (i := 4) (p := pd) (Φ1 := fun d => d = .int ((sz - at1 : Nat) : Int)) rfl hM0d nd (rpL_vN ds) (e_D (TrD.to (d_op (d_var rfl (d := .int (sz : Int)) rfl) (d_var rfl (d := .int (at1 : Int)) rfl) rd_sub) ?_) rfl) fun d hd => ?_) ?_) A6 S6 R6 fun d y G5 M5 H5 e5 A7 S7 R7 hd ry => ?_
      · subst hd
        exact ⟨_, _, rfl, dNs_at hu3, rfl⟩
      · rintro _ _ rfl rfl
        refine ⟨_, rd_mul (mul_okN (Nat.lt_of_le_of_lt (show m ≤ tenK by unfold tenK; omega) big16) (Nat.lt_of_le_of_lt (Nat.le_trans fu.2 (ten3 (by omega))) scB_big)), ?_⟩
        rw [← Int.natCast_mul]; rfl
      · congr 1
        omega
      · subst hd
        exact ⟨_, _, rfl, dNs_at hd3, rfl⟩
      · rintro _ _ rfl rfl
        have z1 : m * us[at1] ≤ 4 * tenK ^ 3 := Nat.mul_le_mul hm.2 fu.2
        have z2 : m * us[at1] * ds[sz - at1] ≤ 4 * tenK ^ 3 * tenK ^ 3 := Nat.mul_le_mul z1 fd'.2
        rw [Nat.mul_assoc 4 (tenK ^ 3), ← Nat.pow_add] at z2
        have z3 : 4 * tenK ^ 3 ≤ scB := by
          unfold scB
          exact Nat.mul_le_mul (by decide) (Nat.pow_le_pow_right (by decide) (by decide))
        refine ⟨_, rd_mul (mul_okN (Nat.lt_of_le_of_lt (Nat.le_trans z1 z3) scB_big) (Nat.lt_of_le_of_lt (Nat.le_trans fd'.2 (ten3 (by omega))) scB_big)), _, ?_, Nat.mul_pos (Nat.mul_pos hm.1 fu.1) fd'.1, ?_⟩
        · rw [← Int.natCast_mul]; rfl
        · exact z2
      · obtain ⟨s, rfl, s1, s2⟩ := hd
        rw [show y = V.int _ from ry, ← vN_snoc, upd_upd] at S7
        refine hN _ G5 M5 H5 (e4.trans e5) A7 ⟨_, at1, _, rfl, hat1, S7, R7, by rw [List.length_append, hfl]; rfl, fun z hz => ?_⟩
        rcases List.mem_append.mp hz with hz | hz
        · exact hfs z hz
        · rw [List.mem_singleton.mp hz]; exact ⟨s1, s2⟩
    · obtain ⟨fs, at0, a9, rfl, hat, SF, RF, hfl, hfs⟩ := hI
      rw [dNs_len] at RF hfl
      -- spot, unit
      refine q_tup2E (n' := n + ms.length + 2) (Ψ := fun ds => ∃ sp u : Nat, ds = [dN sp, dN u] ∧ sp < ms.length ∧ 1 ≤ u ∧ u ≤ 10) rfl (e_tup (Ψ := fun ds => ∃ sp u : Nat, ds = [dN sp, dN u] ∧ sp < ms.length ∧ 1 ≤ u ∧ u ≤ 10) (ea_cons (Φ := fun d => ∃ sp : Nat, d = dN sp ∧ sp < ms.length) (spin_call rfl (e_D (d_cb (a_cons (d_var rfl (r1.up ((eL.trans e2).trans e3))) a_nil) rc_lenL) ⟨_, rfl, by rw [dNs_len]; omega, by rw [dNs_len]; omega, fun d h => ?_⟩) (by omega)) fun d hd => ea_cons (Φ := fun d => ∃ u : Nat, d = dN u ∧ 1 ≤ u ∧ u ≤ 10) (e_op (Φ1 := fun d => d = .list [.int 1, .int 10, .int 7]) (Φ2 := RI 0 2) (e_D (d_lst (a_cons d_int (a_cons d_int (a_cons d_int a_nil))) (by show 3 ≤ 100000; decide)) rfl) (fun _ _ => spin_c rfl (by decide) (by decide) (by omega)) ?_) fun d2 hd2 => ea_nil ?_) fun ds h => ?_) A5 SF RF fun ds v10 v11 G4 M4 H4 e4 A6 S6 R6 hds rvs => ?_
      · obtain ⟨i, rfl, h2, h3⟩ := h
        obtain ⟨iN, rfl⟩ := Int.eq_ofNat_of_zero_le h2
        rw [dNs_len] at h3
        exact ⟨iN, rfl, by omega⟩
      · rintro _ _ rfl ⟨i, rfl, h2, h3⟩
        obtain ⟨e, he, hc⟩ := three_at (a := .int 1) (b := .int 10) (c := .int 7) h2 h3
        refine ⟨e, rd_ixL he, ?_⟩
        rcases hc with rfl | rfl | rfl
        · exact ⟨1, rfl, by decide, by decide⟩
        · exact ⟨10, rfl, by decide, by decide⟩
        · exact ⟨7, rfl, by decide, by decide⟩
      · obtain ⟨sp, rfl, h1⟩ := hd
        obtain ⟨u, rfl, h2, h3⟩ := hd2
        exact ⟨sp, u, rfl, h1, h2, h3⟩
      · obtain ⟨sp, u, rfl, h1⟩ := h
        exact ⟨Nat.le_of_ble_eq_true rfl, _, rfl, rfl, sp, u, rfl, h1⟩
      obtain ⟨sp, u, rfl, hsp, u1, u2⟩ := hds
      obtain ⟨_, _, rr1, r10, _, _, rr2, r11, _⟩ := rvs
      cases rr1
      cases rr2
      rw [show v10 = V.int _ from r10]
      -- found times unit
      have hM4 : M4 pf = some (.lst (vN fs)) := (S6 pf nf).trans upd_same
      rw [← cut_eq hM4] at A6
      obtain ⟨G5, e5, A7, r7⟩ := At.frzC A6 (rpL_vN fs)
      rw [cut_cut] at A7
      refine q_newM (TrM.to (es := dNs (fs.map fun s => u * s)) (m_lcL (p := fun _ => true) (f := fun d => match d with | .int z => .int ((u : Int) * z) | _ => .none) (d_var rfl r7) (by rw [dNs_len]; omega) (fun d hd x Gx ex rx => b_yes) fun d hd _ x Gx ex rx => ?_) ?_) A7 fun p7 xs G6 H6 e6 Mp7 Gp7 A8 rx => ?_
      · obtain ⟨s, hs, rfl⟩ := List.mem_map.mp hd
        exact d_op (d_var rfl (r11.up (e5.trans ex))) (d_var rfl rx) (rd_mul (mul_okN (Nat.lt_of_le_of_lt (show u ≤ tenK by unfold tenK; omega) big16) (Nat.lt_of_le_of_lt (Nat.le_trans (hfs s hs).2 (by unfold scB; omega)) scB_big)))
      · rw [filt_true]
        unfold dNs
        rw [List.map_map, List.map_map]
        refine List.map_congr_left fun s _ => ?_
        show PyData.int ((u : Int) * (s : Int)) = PyData.int ((u * s : Nat) : Int)
        rw [Int.natCast_mul]
      · obtain rfl := rpL_vNi rx
        have hgl : ∀ s ∈ fs.map fun s => u * s, 1 ≤ s ∧ s ≤ 40 * tenK ^ 6 := fun s hs => by
          obtain ⟨t, ht, rfl⟩ := List.mem_map.mp hs
          obtain ⟨t1, t2⟩ := hfs t ht
          refine ⟨Nat.mul_pos u1 t1, ?_⟩
          have := Nat.mul_le_mul u2 t2
          omega
        have hgle : (fs.map fun s => u * s).length = ms.length := by rw [List.length_map, hfl]
        generalize hgs : (fs.map fun s => u * s) = gs at A8 rx hgl hgle
        have c40 : 40 * tenK ^ 6 ≤ scB := by unfold scB; exact Nat.mul_le_mul_right _ (by decide)
        have Mc : ∀ x o, M x = some o → x ≠ r → cutG M4 pf x = some o := fun x o ho hx => by
          have x1 : x ≠ pu := fun z => by rw [z, Mpu] at ho; cases ho
          have x2 : x ≠ pd := fun z => by rw [z, Mpd] at ho; cases ho
          have x3 : x ≠ pf := fun z => by rw [z, Mf0] at ho; cases ho
          show (if x = pf then none else M4 x) = _
          rw [if_neg x3, S6 x hx, upd_ne x3, upd_ne x2, upd_ne x1]
          exact ho
        have R7c : RL r (n + ms.length + 2) (cutG M4 pf) := R6.cut nf
        have n7 : p7 ≠ r := R7c.ne Mp7
        -- perhaps one of them moved
        refine q_cut (fun σ' H' => ∃ (G' M' : Hp) (gs : List Nat) (a9 : Option V) , Ex G6 G' ∧ At G' M' H' ∧ Same r (upd (cutG M4 pf) p7 (.lst (vN gs))) M' ∧ RL r (n + ms.length + 10) M' ∧ gs.length = ms.length ∧ (∀ s ∈ gs, 1 ≤ s ∧ s ≤ scB) ∧ σ'[7]? = some (some (.ref p7))) ?_ fun hkk => ?_
        · rintro σ' H' ⟨G', M', gs, _, e', A', S', R', hl', hs', h7⟩
          have hM' : M' p7 = some (.lst (vN gs)) := (S' p7 n7).trans upd_same
          rw [← cut_eq hM'] at A'
          obtain ⟨G8, e8, A9, r9⟩ := At.frzC A' (rpL_vN gs)
          rw [cut_cut] at A9
          refine s_ret (d_var h7 r9) A9 fun v G9 H9 e9 A10 rv => ?_
          obtain ⟨M6', A6', S6', hr6⟩ := At.back (r := r) (M0 := M) A10 (fun x hx o ho => by
            have x3 : x ≠ p7 := fun z => by
              have := Mc x o ho hx
              rw [z, Mp7] at this
              cases this
            show (if x = p7 then none else M' x) = _
            rw [if_neg x3, S' x hx, upd_ne x3]
            exact Mc x o ho hx)
          refine q _ v G9 M6' H9 ((((((((eL.trans e2).trans e3).trans e4).trans e5).trans e6).trans e').trans e8).trans e9) A6' S6' ?_ ⟨gs, rfl, hl', hs'⟩ rv
          obtain ⟨a, b, c, z1, z2, z3, z4⟩ := R'
          exact ⟨a, b, c, by rw [hr6]; show (if r = p7 then none else M' r) = _; rw [if_neg (Ne.symm n7)]; exact z1, z2, z3, by omega⟩
        · have hM7 : (upd (cutG M4 pf) p7 (.lst (vN gs))) p7 = some (.lst (vN gs)) := upd_same
          have hspg : sp < gs.length := by omega
          have gsp := hgl _ (List.getElem_mem hspg)
          refine s_ifTE (b0 := fun _ => True) (M0 := upd (cutG M4 pf) p7 (.lst (vN gs))) (n := n + ms.length + 2) (n' := n + ms.length + 3) (e_op (Φ1 := RI 0 2) (Φ2 := fun d => d = .int 0) (spin_c rfl (by decide) (by decide) (by omega)) (fun _ _ => e_D d_int rfl) ?_) A8 .refl (R7c.upd n7) (fun G7 M7 H7 e7 A9 S7 R7 => ?_) fun G7 M7 H7 e7 A9 S7 R7 => ?_
          · rintro _ _ ⟨i, rfl, _⟩ rfl
            exact ⟨_, rd_eqI, _, rfl⟩
          · have atsp : ∀ {σ : L2.St} {Gx : Hp} {m : Nat}, σ[7]? = some (some (.ref p7)) → σ[10]? = some (some (.int (sp : Int))) → TrE K r (upd (cutG M4 pf) p7 (.lst (vN gs))) (tOp (rIxL K) (tVar 7) (tVar 10)) σ Gx m m fun d => d = dN gs[sp] := fun h7 h10 => e_ixM (Φ1 := fun d => d = .int (sp : Int)) h7 hM7 n7 (rpL_vN gs) (e_D (d_var h10 (d := .int (sp : Int)) rfl) rfl) fun d hd => by
              subst hd
              exact ⟨_, _, rfl, dNs_at hspg, rfl⟩
            refine s_setIxE (i := 7) (j := 10) (t := sp) (Φ := fun d => ∃ s : Nat, d = dN s ∧ 1 ≤ s ∧ s ≤ scB) (n' := n + ms.length + 4) rfl rfl hM7 n7 (by unfold ixN; rw [if_pos (by omega), if_pos (by rw [vN_len]; omega)]; rfl) (e_op (Φ1 := fun d => ∃ a b c : Nat, d = .list [dN a, dN b, dN c] ∧ (1 ≤ a ∧ a ≤ scB) ∧ (1 ≤ b ∧ b ≤ scB) ∧ 1 ≤ c ∧ c ≤ scB) (Φ2 := RI 0 2) (e_lst (Ψ := fun ds => ∃ a b c : Nat, ds = [dN a, dN b, dN c] ∧ (1 ≤ a ∧ a ≤ scB) ∧ (1 ≤ b ∧ b ≤ scB) ∧ 1 ≤ c ∧ c ≤ scB) (ea_cons (Φ := fun d => ∃ a : Nat, d = dN a ∧ 1 ≤ a ∧ a ≤ scB) (e_op (Φ1 := fun d => d = dN gs[sp]) (Φ2 := fun d => d = .int 1) (atsp rfl rfl) (fun _ _ => e_D d_int rfl) ?_) fun d hd => ea_cons (Φ := fun d => ∃ a : Nat, d = dN a ∧ 1 ≤ a ∧ a ≤ scB) (e_cb (Ψ := fun ds => ∃ z : Int, ds = [.int 1, .int z] ∧ z ≤ gs[sp]) (ea_cons (Φ := fun d => d = .int 1) (e_D d_int rfl) fun d hd => ea_cons (Φ := fun d => ∃ z : Int, d = .int z ∧ z ≤ gs[sp]) (e_op (Φ1 := fun d => d = dN gs[sp]) (Φ2 := fun d => d = .int 1) (atsp rfl rfl) (fun _ _ => e_D d_int rfl) ?_) fun d2 hd2 => ea_nil ?_) ?_) fun d2 hd2 => ea_cons (Φ := fun d => ∃ a : Nat, d = dN a ∧ 1 ≤ a ∧ a ≤ scB) (e_op (Φ1 := fun d => d = .int 2) (Φ2 := fun d => d = dN gs[sp]) (e_D d_int rfl) (fun _ _ => atsp rfl rfl) ?_) fun d3 hd3 => ea_nil ?_) fun ds h => ?_) (fun _ _ => spin_c rfl (by decide) (by decide) (by omega)) ?_) A9 S7 R7 fun d y G8 M8 H8 e8 A10 S8 R8 hd ry => ?_
            · rintro _ _ rfl rfl
              exact ⟨_, rd_add, gs[sp] + 1, rfl, by omega, by unfold scB; have := gsp.2; have z : 0 < tenK ^ 6 := Nat.pow_pos (show 0 < tenK by decide); omega⟩
            · rintro _ _ rfl rfl
              exact ⟨_, rd_sub, _, rfl, by omega⟩
            · obtain ⟨z, rfl, hz⟩ := hd2
              subst hd
              exact ⟨z, rfl, hz⟩
            · rintro _ ⟨z, rfl, hz⟩
              by_cases hz0 : z > 1
              · obtain ⟨zN, rfl⟩ := Int.eq_ofNat_of_zero_le (show 0 ≤ z by omega)
                exact ⟨_, rc_max2, zN, by rw [if_pos hz0]; rfl, by omega, by have := gsp.2; omega⟩
              · exact ⟨_, rc_max2, 1, by rw [if_neg hz0]; rfl, by decide, by have := gsp.1; have := gsp.2; omega⟩
            · rintro _ _ rfl rfl
              refine ⟨_, rd_mul (mul_okN (a := 2) (Nat.lt_of_le_of_lt (by decide) big16) (Nat.lt_of_le_of_lt (Nat.le_trans gsp.2 c40) scB_big)), 2 * gs[sp], ?_, by have := gsp.1; omega, by unfold scB; have := gsp.2; omega⟩
              show PyData.int (2 * (gs[sp] : Int)) = PyData.int ((2 * gs[sp] : Nat) : Int)
              rw [Int.natCast_mul]; rfl
            · obtain ⟨a, rfl, ha⟩ := hd
              obtain ⟨b, rfl, hb⟩ := hd2
              obtain ⟨c, rfl, hc⟩ := hd3
              exact ⟨a, b, c, rfl, ha, hb, hc⟩
            · obtain ⟨a, b, c, rfl, ha, hb, hc⟩ := h
              exact ⟨Nat.le_of_ble_eq_true rfl, a, b, c, rfl, ha, hb, hc⟩
            · rintro _ _ ⟨a, b, c, rfl, ha, hb, hc⟩ ⟨i, rfl, h2, h3⟩
              obtain ⟨e, he, hz⟩ := three_at (a := dN a) (b := dN b) (c := dN c) h2 h3
              refine ⟨e, rd_ixL he, ?_⟩
              rcases hz with rfl | rfl | rfl
              · exact ⟨a, rfl, ha⟩
              · exact ⟨b, rfl, hb⟩
              · exact ⟨c, rfl, hc⟩
            · obtain ⟨s, rfl, s1, s2⟩ := hd
              rw [show y = V.int _ from ry, upd_upd] at S8
              have ev : (vN gs).set sp (V.int (s : Int)) = vN (gs.set sp s) := by unfold vN; rw [List.map_set]
              rw [ev] at S8
              refine hkk _ _ ⟨G8, M8, gs.set sp s, none, e7.trans e8, A10, S8, R8.le (by omega), by rw [List.length_set]; exact hgle, fun z hz => ?_, rfl⟩
              rcases List.mem_or_eq_of_mem_set hz with hz | rfl
              · exact ⟨(hgl z hz).1, Nat.le_trans (hgl z hz).2 c40⟩
              · exact ⟨s1, s2⟩
          · exact s_next (hkk _ _ ⟨G7, M7, gs, none, e7, A9, S7, R7.le (by omega), hgle, fun z hz => ⟨(hgl z hz).1, Nat.le_trans (hgl z hz).2 c40⟩, rfl⟩)
end
end K96

namespace K96
open PySem PySem.Spec PyProof.Rows L2 Sb
/-! ### all tuples of widths, ascending, and those that explain -/
def tupW : Nat → List (List Nat)
  | 0 => [[]]
  | k + 1 => (tupW k).flatMap fun ws => wL.map fun n => ws ++ [n]
def okT (m : Nat) (ws : List Nat) : Prop := ws.length = m ∧ ∀ n ∈ ws, 1 ≤ n ∧ n ≤ 4
theorem tupW_ok : ∀ k, ∀ ws ∈ tupW k, okT k ws
  | 0, ws, h => by
    rw [List.mem_singleton.mp h]
    exact ⟨rfl, fun _ h => by cases h⟩
  | k + 1, ws, h => by
    obtain ⟨v, hv, h2⟩ := List.mem_flatMap.mp h
    obtain ⟨n, hn, rfl⟩ := List.mem_map.mp h2
    obtain ⟨h3, h4⟩ := tupW_ok k v hv
    refine ⟨by rw [List.length_append, h3]; rfl, fun y hy => ?_⟩
    rcases List.mem_append.mp hy with hy | hy
    · exact h4 y hy
    · rw [List.mem_singleton.mp hy]
      unfold wL at hn
      simp only [List.mem_cons, List.not_mem_nil, or_false] at hn
      omega
theorem isLet_iff {ws : List Nat} {wr : List Wr} : isLet ws wr = true ↔ ∀ x ∈ wr, hitW ws x = false := by
  unfold isLet
  rw [Bool.not_eq_true', List.any_eq_false]
  constructor
  · intro h x hx
    exact Bool.eq_false_iff.mpr (h x hx)
  · intro h x hx
    exact Bool.eq_false_iff.mp (h x hx)
def below (W : List Wr) (k : Nat) : List Wr := W.filter fun x => decide (lastI x.a x.c < (k : Int))
theorem below_all {W : List Wr} {k : Nat} (h : ∀ x ∈ W, lastI x.a x.c < (k : Int)) : below W k = W := by
  unfold below
  exact List.filter_eq_self.mpr fun x hx => decide_eq_true (h x hx)
theorem at_app {ws : List Nat} {o : Option Nat} {n b : Nat} (h : inW ws.length o) : atW (ws ++ [n]) o b = atW ws o b := by
  cases o with
  | none => rfl
  | some i =>
    show decide ((ws ++ [n])[i]? = some b) = decide (ws[i]? = some b)
    rw [List.getElem?_append_left (h i rfl)]
theorem last_lt {k : Nat} {x : Wr} (h : lastI x.a x.c < (k : Int)) : inW k x.a ∧ inW k x.c := by
  obtain ⟨a, b, c, d⟩ := x
  cases a with
  | none =>
    cases c with
    | none => exact ⟨(fun i z => by cases z), fun i z => by cases z⟩
    | some j => simp only [lastI] at h; exact ⟨(fun i z => by cases z), fun i z => by cases z; omega⟩
  | some i =>
    cases c with
    | none => simp only [lastI] at h; exact ⟨(fun i z => by cases z; omega), fun i z => by cases z⟩
    | some j => simp only [lastI] at h; exact ⟨(fun i z => by cases z; omega), fun i z => by cases z; omega⟩
theorem hit_app {ws : List Nat} {n : Nat} {x : Wr} (h : lastI x.a x.c < (ws.length : Int)) : hitW (ws ++ [n]) x = hitW ws x := by
  obtain ⟨h1, h2⟩ := last_lt h
  unfold hitW
  rw [at_app h1, at_app h2]
theorem flat_filter {α β : Type} {g : α → List β} {P : α → Bool} {R S : β → Bool} : ∀ {L : List α}, (∀ a ∈ L, ∀ v ∈ g a, S v = (P a && R v)) → ((L.filter P).flatMap g).filter R = (L.flatMap g).filter S
  | [], _ => rfl
  | a :: L, h => by
    have ih := flat_filter (L := L) fun b hb => h b (List.mem_cons_of_mem _ hb)
    have h0 := h a (List.mem_cons_self ..)
    rw [List.filter_cons, List.flatMap_cons, List.filter_append]
    cases hP : P a with
    | true =>
      rw [if_pos rfl, List.flatMap_cons, List.filter_append, ih]
      congr 1
      exact List.filter_congr fun v hv => by rw [h0 v hv, hP, Bool.true_and]
    | false =>
      rw [if_neg (by decide), ih]
      have : (g a).filter S = [] := List.filter_eq_nil_iff.mpr fun v hv => by rw [h0 v hv, hP]; simp
      rw [this, List.nil_append]
theorem foundK_eq {W : List Wr} (h : ∀ x ∈ W, -1 ≤ lastI x.a x.c) : ∀ k, foundK W k = (tupW k).filter fun ws => isLet ws (below W k)
  | 0 => by
    have e : bucket W 0 = below W 0 := by
      unfold bucket below
      refine List.filter_congr fun x hx => ?_
      have := h x hx
      rw [decide_eq_decide]
      constructor <;> intro z <;> omega
    unfold foundK
    rw [e]
    show (if (below W 0).isEmpty = true then [[]] else []) = List.filter _ [[]]
    rw [List.filter_cons]
    by_cases hb : below W 0 = []
    · rw [hb]; rfl
    · rw [if_neg (by simpa using hb), if_neg]
      · rfl
      · intro z
        obtain ⟨x, hx⟩ := List.exists_mem_of_ne_nil _ hb
        have z1 := isLet_iff.mp z x hx
        have z2 := of_decide_eq_true (List.mem_filter.mp hx).2
        obtain ⟨h1, h2⟩ := last_lt (k := 0) z2
        obtain ⟨a, b, c, d⟩ := x
        cases a with
        | some i => exact absurd (h1 i rfl) (Nat.not_lt_zero _)
        | none =>
          cases c with
          | some i => exact absurd (h2 i rfl) (Nat.not_lt_zero _)
          | none => cases z1
  | k + 1 => by
    show ((foundK W k).flatMap fun ws => wL.map fun n => ws ++ [n]).filter (fun ws => isLet ws (bucket W (k + 1))) = _
    rw [foundK_eq h k]
    refine flat_filter fun ws hws v hv => ?_
    obtain ⟨n, _, rfl⟩ := List.mem_map.mp hv
    have hl := (tupW_ok k ws hws).1
    rw [Bool.eq_iff_iff, Bool.and_eq_true, isLet_iff, isLet_iff, isLet_iff]
    constructor
    · intro z
      refine ⟨fun x hx => ?_, fun x hx => ?_⟩
      · obtain ⟨hx1, hx2⟩ := List.mem_filter.mp hx
        have hx3 := of_decide_eq_true hx2
        rw [← hit_app (n := n) (by rw [hl]; exact hx3)]
        exact z x (List.mem_filter.mpr ⟨hx1, decide_eq_true (by omega)⟩)
      · obtain ⟨hx1, hx2⟩ := List.mem_filter.mp hx
        have hx3 := of_decide_eq_true hx2
        exact z x (List.mem_filter.mpr ⟨hx1, decide_eq_true (by omega)⟩)
    · rintro ⟨z1, z2⟩ x hx
      obtain ⟨hx1, hx2⟩ := List.mem_filter.mp hx
      have hx3 := of_decide_eq_true hx2
      by_cases hk : lastI x.a x.c < (k : Int)
      · rw [hit_app (by rw [hl]; exact hk)]
        exact z1 x (List.mem_filter.mpr ⟨hx1, decide_eq_true hk⟩)
      · exact z2 x (List.mem_filter.mpr ⟨hx1, decide_eq_true (by omega)⟩)
/-! ### the row of a text with the further character -/
def pick (ws : List Nat) (e : Cell) : Nat := match e.1 with
  | none => e.2.getD 0 0
  | some i => ws.getD i 0
def okC (m : Nat) (e : Cell) : Prop := (∃ n, e = (none, [n])) ∨ ∃ i, i < m ∧ e = (some i, wL)
theorem cells_okC {c : CodeD} {m : Nat} {t : Str} : ∀ e ∈ cellsL c m t, okC m e := fun e he => by
  have hk : ∀ ws, e ∈ knownC ws → okC m e := fun ws h => by
    obtain ⟨n, _, rfl⟩ := List.mem_map.mp h
    exact .inl ⟨n, rfl⟩
  unfold cellsL at he
  rcases List.mem_append.mp he with he | he
  · rcases List.mem_append.mp he with he | he
    · exact hk _ he
    · obtain ⟨y, _, he⟩ := List.mem_flatMap.mp he
      unfold signC at he
      rcases List.mem_append.mp he with he | he
      · split at he
        · exact hk _ he
        · obtain ⟨j, hj, rfl⟩ := List.mem_map.mp he
          exact .inr ⟨j, List.mem_range.mp hj, rfl⟩
      · exact hk _ he
  · exact hk _ he
def intsN (ws : List Nat) : List Int := ws.map Int.ofNat
theorem nats_ints (ws : List Nat) : natsL (intsN ws) = ws := by
  unfold natsL intsN
  rw [List.map_map]
  conv => rhs; rw [← List.map_id ws]
  rfl
theorem pick_known (ws : List Nat) (ns : List Int) : (knownC ns).map (pick ws) = natsL ns := by
  unfold knownC
  rw [List.map_map]
  conv => rhs; rw [← List.map_id (natsL ns)]
  rfl
theorem pick_free (ws : List Nat) : (freeC ws.length).map (pick ws) = ws := by
  unfold freeC
  rw [List.map_map]
  refine List.ext_getElem? fun i => ?_
  rw [List.getElem?_map]
  by_cases hi : i < ws.length
  · rw [List.getElem?_range hi, List.getElem?_eq_getElem hi]
    show some (ws.getD i 0) = _
    rw [List.getD_eq_getElem?_getD, List.getElem?_eq_getElem hi]
    rfl
  · rw [List.getElem?_eq_none (l := List.range ws.length) (by rw [List.length_range]; omega), List.getElem?_eq_none (by omega)]
    rfl
theorem plus_old {cs : List (Str × List Int)} {x y : Str} {ws : List Int} (h : y ∈ cs.map (·.1)) : wsOf (plusCs cs x ws) y = wsOf cs y := by
  unfold wsOf plusCs
  rw [List.find?_append]
  cases z : cs.find? fun p => decide (p.1 = y) with
  | some p => rfl
  | none =>
    obtain ⟨p, hp, rfl⟩ := List.mem_map.mp h
    have := List.find?_eq_none.mp z p hp
    exact absurd (decide_eq_true rfl) this
theorem plus_new {cs : List (Str × List Int)} {x : Str} {ws : List Int} (h : x ∉ cs.map (·.1)) : wsOf (plusCs cs x ws) x = ws := by
  unfold wsOf plusCs
  rw [List.find?_append]
  have z : (cs.find? fun p => decide (p.1 = x)) = none := List.find?_eq_none.mpr fun p hp hd => h (List.mem_map.mpr ⟨p, hp, of_decide_eq_true hd⟩)
  rw [z, Option.none_or, List.find?_cons, decide_eq_true rfl]
  rfl
theorem nats_app (a b : List Int) : natsL (a ++ b) = natsL a ++ natsL b := List.map_append ..
theorem row_pick {c : CodeD} {x t : Str} {ws : List Nat} (h : okNew c x (intsN ws)) (ht : textW c x t = true) : natsL (rowL (codeW c x (intsN ws)) t) = (cellsL c ws.length t).map (pick ws) := by
  have e : rowL (codeW c x (intsN ws)) t = c.st ++ c.bt ++ ((chrs t).flatMap fun y => wsOf (codeW c x (intsN ws)).cs y ++ c.bt) ++ c.sp := rfl
  rw [e]
  unfold cellsL
  rw [nats_app, nats_app, List.map_append, List.map_append, pick_known, pick_known]
  congr 2
  unfold natsL
  rw [List.map_flatMap, List.map_flatMap]
  have hall := List.all_eq_true.mp ht
  have go : ∀ l : List Str, (∀ y ∈ l, y = x ∨ y ∈ c.cs.map (·.1)) → (l.flatMap fun y => (wsOf (codeW c x (intsN ws)).cs y ++ c.bt).map Int.toNat) = l.flatMap fun y => (signC c ws.length y).map (pick ws) := fun l => by
    induction l with
    | nil => exact fun _ => rfl
    | cons y l ih =>
      intro hl
      rw [List.flatMap_cons, List.flatMap_cons, ih fun z hz => hl z (List.mem_cons_of_mem _ hz)]
      congr 1
      have hy := hl y (List.mem_cons_self ..)
      have hm : y ∈ (codeW c x (intsN ws)).cs.map (·.1) := codeW_mem.mpr hy.symm
      rw [codeW_ws h hm]
      unfold signC
      rw [List.map_append, List.map_append, pick_known]
      congr 1
      by_cases hk : y ∈ c.cs.map (·.1)
      · rw [if_pos hk, plus_old hk, pick_known]
        rfl
      · rw [if_neg hk, pick_free]
        have : y = x := hy.resolve_right hk
        subst this
        rw [plus_new h.new]
        exact nats_ints ws
  exact go _ fun y hy => by
    have := hall y hy
    rw [Bool.or_eq_true] at this
    exact this.imp of_decide_eq_true of_decide_eq_true
/-! ### the greatest step is at most a factor just if each is -/
theorem ab_f {a b c d : Nat} : ab a b c d = false ↔ a * d ≤ c * b := by
  unfold ab
  rw [decide_eq_false_iff_not, Nat.not_lt]
theorem ab_t {a b c d : Nat} : ab a b c d = true ↔ c * b < a * d := by
  unfold ab
  rw [decide_eq_true_iff]
/-- c/d at most a/b, a/b at most p/q -/
theorem frac_trans {a b c d p q : Nat} (hb : 0 < b) (h1 : c * b ≤ a * d) (h2 : a * q ≤ p * b) : c * q ≤ p * d := by
  refine Nat.le_of_mul_le_mul_right (c := b) ?_ hb
  calc c * q * b = c * b * q := by rw [Nat.mul_assoc, Nat.mul_comm q b, Nat.mul_assoc]
    _ ≤ a * d * q := Nat.mul_le_mul_right _ h1
    _ = a * q * d := by rw [Nat.mul_assoc, Nat.mul_comm d q, Nat.mul_assoc]
    _ ≤ p * b * d := Nat.mul_le_mul_right _ h2
    _ = p * d * b := by rw [Nat.mul_assoc, Nat.mul_comm b d, Nat.mul_assoc]
theorem lowF_pos {a b : Nat} (hb : 1 ≤ b) : 1 ≤ (lowF a b).2 := Nat.div_pos (Nat.le_of_dvd hb (Nat.gcd_dvd_right a b)) (Nat.gcd_pos_of_pos_right a hb)
theorem stepF_pos {a b : Nat} (ha : 1 ≤ a) (hb : 1 ≤ b) : 1 ≤ (stepF a b).2 := lowF_pos (by omega)
def posP (p : Nat × Nat) : Prop := 1 ≤ p.1 ∧ 1 ≤ p.2
theorem st2_pos {x y : Nat × Nat} (hx : posP x) (hy : posP y) : 1 ≤ (st2 x y).2 := stepF_pos (Nat.mul_pos hy.1 hx.2) (Nat.mul_pos hx.1 hy.2)
theorem fold_all {p q : Nat} : ∀ (l : List ((Nat × Nat) × (Nat × Nat))) (acc : Nat × Nat), 1 ≤ acc.2 → (∀ x ∈ l, posP x.1 ∧ posP x.2) → (ab (l.foldl gst acc).1 (l.foldl gst acc).2 p q = false ↔ ab acc.1 acc.2 p q = false ∧ ∀ x ∈ l, ab (st2 x.1 x.2).1 (st2 x.1 x.2).2 p q = false)
  | [], acc, _, _ => ⟨fun h => ⟨h, fun _ z => by cases z⟩, fun h => h.1⟩
  | x :: l, acc, ha, hl => by
    obtain ⟨px, py⟩ := hl x (List.mem_cons_self ..)
    have hl' := fun y hy => hl y (List.mem_cons_of_mem _ hy)
    have hs := st2_pos px py
    rw [List.foldl_cons]
    obtain ⟨x1, x2⟩ := x
    cases hb : ab (st2 x1 x2).1 (st2 x1 x2).2 acc.1 acc.2 with
    | true =>
      rw [gst_pos hb, fold_all l _ hs hl']
      constructor
      · rintro ⟨h1, h2⟩
        refine ⟨ab_f.mpr (frac_trans hs (Nat.le_of_lt (ab_t.mp hb)) (ab_f.mp h1)), fun y hy => ?_⟩
        rcases List.mem_cons.mp hy with rfl | hy
        · exact h1
        · exact h2 y hy
      · rintro ⟨_, h2⟩
        exact ⟨h2 _ (List.mem_cons_self ..), fun y hy => h2 y (List.mem_cons_of_mem _ hy)⟩
    | false =>
      rw [gst_neg hb, fold_all l _ ha hl']
      constructor
      · rintro ⟨h1, h2⟩
        refine ⟨h1, fun y hy => ?_⟩
        rcases List.mem_cons.mp hy with rfl | hy
        · exact ab_f.mpr (frac_trans ha (ab_f.mp hb) (ab_f.mp h1))
        · exact h2 y hy
      · rintro ⟨h1, h2⟩
        exact ⟨h1, fun y hy => h2 y (List.mem_cons_of_mem _ hy)⟩
theorem great_all {p q : Nat} {rs : List (Nat × Nat)} (h : ∀ x ∈ rs, posP x) (hq : q ≤ p) : ab (great rs).1 (great rs).2 p q = false ↔ ∀ x ∈ rs.zip rs.tail, ab (st2 x.1 x.2).1 (st2 x.1 x.2).2 p q = false := by
  unfold great
  rw [fold_all _ _ (Nat.le_refl 1) fun x hx => ⟨h _ (List.of_mem_zip hx).1, h _ (List.mem_of_mem_tail (List.of_mem_zip hx).2)⟩]
  exact ⟨fun z => z.2, fun z => ⟨ab_f.mpr (by omega), z⟩⟩
theorem zip_next {α : Type} {P : α × α → Prop} {l : List α} {d : α} : (∀ x ∈ l.zip l.tail, P x) ↔ ∀ i, i + 1 < l.length → P (l.getD i d, l.getD (i + 1) d) := by
  constructor
  · intro h i hi
    refine h _ (List.mem_of_getElem? (i := i) ?_)
    rw [List.getElem?_zip_eq_some]
    refine ⟨?_, ?_⟩
    · rw [List.getD_eq_getElem?_getD, List.getElem?_eq_getElem (by omega)]
      rfl
    · show l.tail[i]? = some (l.getD (i + 1) d)
      rw [List.getElem?_tail, List.getD_eq_getElem?_getD, List.getElem?_eq_getElem hi]
      rfl
  · intro h x hx
    obtain ⟨i, hi⟩ := List.mem_iff_getElem?.mp hx
    obtain ⟨h1, h2⟩ := List.getElem?_zip_eq_some.mp hi
    rw [List.getElem?_tail] at h2
    have hl := (List.getElem?_eq_some_iff.mp h2).1
    have := h i hl
    rw [List.getD_eq_getElem?_getD, List.getD_eq_getElem?_getD, h1, h2] at this
    exact this
theorem zip_getD {α β : Type} {l : List α} {k : List β} {i : Nat} {d : α} {e : β} (h : i < l.length) (h2 : i < k.length) : (l.zip k).getD i (d, e) = (l.getD i d, k.getD i e) := by
  rw [List.getD_eq_getElem?_getD, List.getD_eq_getElem?_getD, List.getD_eq_getElem?_getD, List.getElem?_eq_getElem h, List.getElem?_eq_getElem h2]
  have z : (l.zip k)[i]? = some (l[i], k[i]) := List.getElem?_zip_eq_some.mpr ⟨List.getElem?_eq_getElem h, List.getElem?_eq_getElem h2⟩
  rw [z]
  rfl
/-- one width of a cell alone is that of the tuple -/
theorem pick_one {m : Nat} {ws : List Nat} {e : Cell} {Q : Nat → Prop} (ok : okT m ws) (h : okC m e) : (∀ one ∈ e.2, atW ws e.1 one = true → Q one) ↔ Q (pick ws e) := by
  rcases h with ⟨n, rfl⟩ | ⟨i, hi, rfl⟩
  · constructor
    · intro z
      exact z n (List.mem_singleton.mpr rfl) rfl
    · intro z one ho _
      rw [List.mem_singleton.mp ho]
      exact z
  · have hi' : i < ws.length := by rw [ok.1]; exact hi
    have hp : pick ws (some i, wL) = ws[i] := by
      show ws.getD i 0 = _
      rw [List.getD_eq_getElem?_getD, List.getElem?_eq_getElem hi']
      rfl
    rw [hp]
    constructor
    · intro z
      refine z _ ?_ (decide_eq_true (List.getElem?_eq_getElem hi'))
      have := ok.2 _ (List.getElem_mem hi')
      show ws[i] ∈ wL
      unfold wL
      simp only [List.mem_cons, List.not_mem_nil, or_false]
      omega
    · intro z one _ ho
      have := of_decide_eq_true ho
      rw [List.getElem?_eq_getElem hi'] at this
      rw [← Option.some.inj this]
      exact z
theorem let_wrong {p q m : Nat} {ws : List Nat} {cells : List Cell} {ss : List Nat} (ok : okT m ws) (h : ∀ e ∈ cells, okC m e) : isLet ws (wrongL p q cells ss) = true ↔ ∀ i, i + 1 < cells.length → farB p q (pick ws (cells.getD i (none, []))) (pick ws (cells.getD (i + 1) (none, []))) (ss.getD i 0) (ss.getD (i + 1) 0) = false := by
  rw [isLet_iff]
  have hc : ∀ i, i < cells.length → okC m (cells.getD i (none, [])) := fun i hi => by
    rw [List.getD_eq_getElem?_getD, List.getElem?_eq_getElem hi]
    exact h _ (List.getElem_mem hi)
  have step : ∀ i, i + 1 < cells.length → ((∀ x ∈ placeW p q cells ss i, hitW ws x = false) ↔ farB p q (pick ws (cells.getD i (none, []))) (pick ws (cells.getD (i + 1) (none, []))) (ss.getD i 0) (ss.getD (i + 1) 0) = false) := fun i hi => by
    rw [← pick_one (Q := fun one => farB p q one (pick ws (cells.getD (i + 1) (none, []))) (ss.getD i 0) (ss.getD (i + 1) 0) = false) ok (hc i (by omega))]
    constructor
    · intro z one ho ha
      refine (pick_one (Q := fun other => farB p q one other (ss.getD i 0) (ss.getD (i + 1) 0) = false) ok (hc (i + 1) hi)).mp fun other ho2 ha2 => ?_
      refine Bool.eq_false_iff.mpr fun hf => ?_
      have := z ⟨_, one, _, other⟩ (List.mem_flatMap.mpr ⟨one, ho, List.mem_map.mpr ⟨other, List.mem_filter.mpr ⟨ho2, hf⟩, rfl⟩⟩)
      unfold hitW at this
      rw [ha, ha2] at this
      cases this
    · intro z x hx
      obtain ⟨one, ho, hx⟩ := List.mem_flatMap.mp hx
      obtain ⟨other, ho2, rfl⟩ := List.mem_map.mp hx
      obtain ⟨ho3, hf⟩ := List.mem_filter.mp ho2
      refine Bool.eq_false_iff.mpr fun hh => ?_
      obtain ⟨ha, ha2⟩ := Bool.and_eq_true_iff.mp hh
      have := (pick_one (Q := fun other => farB p q one other (ss.getD i 0) (ss.getD (i + 1) 0) = false) ok (hc (i + 1) hi)).mpr (z one ho ha) other ho3 ha2
      rw [this] at hf
      cases hf
  constructor
  · intro z i hi
    exact (step i hi).mp fun x hx => z x (List.mem_flatMap.mpr ⟨i, List.mem_range.mpr (by omega), hx⟩)
  · intro z x hx
    obtain ⟨i, hi, hx⟩ := List.mem_flatMap.mp hx
    have := List.mem_range.mp hi
    exact (step i (by omega)).mpr (z i (by omega)) x hx
theorem okNew_of {c : CodeD} {x : Str} {m p q : Nat} {ev : List (Str × List Nat)} {ws : List Nat} (h : okAsk c x m ev p q) (ok : okT m ws) : okNew c x (intsN ws) := by
  refine ⟨h.cd, h.few, h.nm, h.new, ?_, ?_, fun n hn => ?_⟩
  · unfold intsN; rw [List.length_map, ok.1]; exact h.m1
  · unfold intsN; rw [List.length_map, ok.1]; have := h.m3; omega
  · obtain ⟨k, hk, rfl⟩ := List.mem_map.mp hn
    have := ok.2 k hk
    exact ⟨by show (1 : Int) ≤ (k : Int); omega, by show (k : Int) ≤ 4; omega⟩
theorem read_iff {c : CodeD} {x : Str} {m p q : Nat} {ev : List (Str × List Nat)} {e : Str × List Nat} {ws : List Nat} (h : okAsk c x m ev p q) (he : okItem c x e) (ok : okT m ws) : isRead (codeW c x (intsN ws)) e.1 e.2 p q = (fitsE c m e && isLet ws (wrongE c m p q e)) := by
  have hn := okNew_of h ok
  unfold isRead within fitsE wrongE
  rw [row_pick hn he.t, List.length_map, ok.1]
  by_cases hl : (cellsL c m e.1).length = e.2.length
  · rw [decide_eq_true hl, Bool.true_and, Bool.true_and, Bool.eq_iff_iff, Bool.not_eq_true', let_wrong ok cells_okC, great_all ?_ h.f.2.1, zip_next (d := (0, 0))]
    · rw [List.length_zip, List.length_map, ← hl, Nat.min_self]
      refine forall_congr' fun i => forall_congr' fun hi => ?_
      have g : ∀ i, i < (cellsL c m e.1).length → (((cellsL c m e.1).map (pick ws)).zip e.2).getD i (0, 0) = (pick ws ((cellsL c m e.1).getD i (none, [])), e.2.getD i 0) := fun i hi => by
        rw [zip_getD (by rw [List.length_map]; exact hi) (by omega)]
        congr 1
        rw [List.getD_eq_getElem?_getD, List.getD_eq_getElem?_getD, List.getElem?_map, List.getElem?_eq_getElem hi]
        rfl
      rw [g i (by omega), g (i + 1) hi]
      rfl
    · intro y hy
      obtain ⟨h1, h2⟩ := List.of_mem_zip hy
      refine ⟨?_, (he.s.2.2 _ h2).1⟩
      rw [← ok.1, ← row_pick hn he.t] at h1
      obtain ⟨z, hz, e1⟩ := List.mem_map.mp h1
      have ht : isTextD (codeW c x (intsN ws)) (.str e.1) = true := List.all_eq_true.mpr fun y hy => by
        have := List.all_eq_true.mp he.t y hy
        rw [Bool.or_eq_true] at this
        exact decide_eq_true (codeW_mem.mpr (this.imp of_decide_eq_true of_decide_eq_true).symm)
      have := rowL_w (codeW_ok hn) ht z hz
      omega
  · rw [decide_eq_false hl]
    rfl
def readAll (c : CodeD) (x : Str) (p q : Nat) (ev : List (Str × List Nat)) (ws : List Nat) : Bool := ev.all fun e => isRead (codeW c x (intsN ws)) e.1 e.2 p q
theorem allW_eq {c : CodeD} {x : Str} {m p q : Nat} {ev : List (Str × List Nat)} (h : okAsk c x m ev p q) : allW c m p q ev = (tupW m).filter (readAll c x p q ev) := by
  unfold allW
  have hin : ∀ y ∈ wrongA c m p q ev, inW m y.a ∧ inW m y.c := fun y hy => by
    obtain ⟨e, _, hy⟩ := List.mem_flatMap.mp hy
    exact wrong_in y hy
  split
  · rename_i hf
    rw [foundK_eq (fun y hy => (last_bd (hin y hy)).1), below_all fun y hy => (last_bd (hin y hy)).2]
    refine List.filter_congr fun ws hws => ?_
    have ok := tupW_ok m ws hws
    rw [Bool.eq_iff_iff, isLet_iff]
    unfold readAll
    rw [List.all_eq_true]
    constructor
    · intro z e he
      rw [read_iff h (h.evd.i e he) ok, List.all_eq_true.mp hf e he, Bool.true_and, isLet_iff]
      exact fun y hy => z y (List.mem_flatMap.mpr ⟨e, he, hy⟩)
    · intro z y hy
      obtain ⟨e, he, hy⟩ := List.mem_flatMap.mp hy
      have := z e he
      rw [read_iff h (h.evd.i e he) ok, List.all_eq_true.mp hf e he, Bool.true_and, isLet_iff] at this
      exact this y hy
  · rename_i hf
    symm
    refine List.filter_eq_nil_iff.mpr fun ws hws z => hf (List.all_eq_true.mpr fun e he => ?_)
    have := List.all_eq_true.mp z e he
    rw [read_iff h (h.evd.i e he) (tupW_ok m ws hws)] at this
    exact (Bool.and_eq_true_iff.mp this).1
theorem okAsk.less {c : CodeD} {x : Str} {m p q : Nat} {ev : List (Str × List Nat)} (h : okAsk c x m ev p q) : okAsk c x m (ev.take 1) p q :=
  ⟨h.cd, h.nm, h.new, h.few, h.m1, h.m3, ⟨by have := h.evd.l1; rw [List.length_take]; omega, by rw [List.length_take]; omega, fun e he => h.evd.i e (List.mem_of_mem_take he)⟩, h.f⟩
theorem fewer {c : CodeD} {x : Str} {m p q : Nat} {ev : List (Str × List Nat)} (h : okAsk c x m ev p q) : (allW c m p q ev).length ≤ (allW c m p q (ev.take 1)).length := by
  rw [allW_eq h, allW_eq h.less, ← List.countP_eq_length_filter, ← List.countP_eq_length_filter]
  refine List.countP_mono_left fun ws _ z => List.all_eq_true.mpr fun e he => ?_
  exact List.all_eq_true.mp z e (List.mem_of_mem_take he)
end K96

namespace K96
open PySem PySem.Spec PyProof.Rows L2 Sb
local macro_rules | `(tactic| walk_at "ex") => `(tactic| first | exact Ex.refl _ | assumption | (refine' Ex.trans ?_ (by assumption); walk_at "ex"))
local macro_rules | `(tactic| walk_at "rp") => `(tactic| first | assumption | (refine' Rp.up ?e (by assumption); (case e => walk_at "ex")) | exact rfl)
local macro_rules | `(tactic| walk_at "rd") => `(tactic| with_reducible first | exact rd_add | exact rd_sub | exact rd_lt | exact rd_le | exact rd_gt | exact rd_ge | exact rd_eqI | exact rd_neI | exact rd_eqS | exact rd_neS | exact rd_isN | exact rd_ltS | exact rd_inSign | exact rd_eqE)
local macro_rules | `(tactic| walk_at "tr") => `(tactic| first
  | with_reducible exact d_int
  | with_reducible exact d_str
  | with_reducible exact d_bl
  | with_reducible exact d_non
  | with_reducible exact a_nil
  | with_reducible exact b_yes
  | with_reducible exact o_none
  | with_reducible exact d_newD
  | ((with_reducible refine' d_var ?i ?r); (case i => rfl); (case r => walk_at "rp"))
  | ((with_reducible refine' a_cons ?a ?b); (case a => walk_at "tr"); (case b => walk_at "tr"))
  | ((with_reducible refine' a_star ?a ?b); (case a => walk_at "tr"); (case b => walk_at "tr"))
  | ((with_reducible refine' d_isi ?a ?b); (case a => walk_at "tr"); (case b => decide))
  | ((with_reducible refine' d_op ?a ?b ?c); (case a => walk_at "tr"); (case b => walk_at "tr"); (case c => walk_at "rd"))
  | ((with_reducible refine' d_tup ?a ?b); (case a => walk_at "tr"); (case b => first | decide | (simp; done)))
  | ((with_reducible refine' d_lst ?a ?b); (case a => walk_at "tr"); (case b => first | decide | (simp; done)))
  | ((with_reducible refine' o_some ?a); (case a => walk_at "tr"))
  | ((with_reducible refine' b_B ?a); (case a => walk_at "tr"))
  | ((with_reducible refine' b_T ?a); (case a => walk_at "tr"))
  | ((with_reducible refine' b_not ?a); (case a => walk_at "tr"))
  | ((with_reducible refine' v_not ?a); (case a => walk_at "tr"))
  | ((with_reducible refine' b_or ?a ?b); (case a => walk_at "tr"); (case b => intro _; walk_at "tr"))
  | ((with_reducible refine' b_and ?a ?b); (case a => walk_at "tr"); (case b => intro _; walk_at "tr"))
  | ((with_reducible refine' v_or ?a ?b); (case a => walk_at "tr"); (case b => intro _; walk_at "tr"))
  | ((with_reducible refine' v_and ?a ?b); (case a => walk_at "tr"); (case b => intro _; walk_at "tr"))
  | assumption)


theorem tupW_len : ∀ k, (tupW k).length = 4 ^ k
  | 0 => rfl
  | k + 1 => by
    have h : ∀ l : List (List Nat), (l.flatMap fun ws => wL.map fun n => ws ++ [n]).length = l.length * 4 := fun l => by
      induction l with
      | nil => rfl
      | cons a l ih => rw [List.flatMap_cons, List.length_append, ih, List.length_map, List.length_cons]; show 4 + _ = _; omega
    show ((tupW k).flatMap fun ws => wL.map fun n => ws ++ [n]).length = _
    rw [h, tupW_len k, Nat.pow_succ]
theorem flat4 (l : List (List Nat)) : (l.flatMap fun ws => wL.map fun n => ws ++ [n]).length = l.length * 4 := by
  induction l with
  | nil => rfl
  | cons a l ih => rw [List.flatMap_cons, List.length_append, ih, List.length_map, List.length_cons]; show 4 + _ = _; omega
def tupJ (k j : Nat) : List (List Nat) := ((tupW k).take j).flatMap fun ws => wL.map fun n => ws ++ [n]
theorem tupJ_all (k : Nat) : tupJ k (tupW k).length = tupW (k + 1) := by
  unfold tupJ
  rw [List.take_length]
  rfl
theorem tupJ_succ {k j : Nat} {ws : List Nat} (h : (tupW k)[j]? = some ws) : tupJ k (j + 1) = tupJ k j ++ wL.map fun n => ws ++ [n] := by
  unfold tupJ
  rw [List.take_add_one, h, List.flatMap_append]
  show _ ++ List.flatMap _ [ws] = _
  rw [List.flatMap_singleton]
section
variable {P : Program} {w : World} {K : PySem.W.Frag} {mg : Str → Option Value} {base : Heap}
def R_tuples : List PyData → PyData → Prop := fun ds r => ∃ m : Nat, ds = [dN m] ∧ m ≤ 3 ∧ r = .list ((tupW m).map dT)
theorem F__law_tuples (T : Tx K mg) : Fd P w K mg base CX0 1 "_law_tuples" (PSp K R_tuples) [] := by
  obtain ⟨fd, F⟩ := T.f__law_tuples
  refine ⟨_, fd, ["many"], [], T.g__law_tuples, F.kp, F.bindsN fun _ _ _ _ _ _ us hl => match us, hl with | [_], _ => rfl, .nil, ?_⟩
  refine fnG_of F sc__law_tuples (fun vs H Q E h => PSp.len (n := 1) (by rintro _ _ ⟨d, rfl, _⟩; rfl) h) (fun cdv A outer s H vs Q E hg hr h => ?_)
  obtain ⟨G, M, ds, r, hA, hR, ⟨m, rfl, m3, rfl⟩, q⟩ := h
  obtain ⟨v0, _, rfl, r0, rfl⟩ := hR
  refine ⟨_, PSs.nox (pss_cons (ps_set (i := 1) sc__law_tuples.nd rfl (by first | exact Or.inl rfl | exact Or.inr rfl) (pe_lst (pa_cons (pe_tup pa_nil) pa_nil)))
    (pss_cons (ps_for PassesOwn.never rfl (pi_range1 (by rfl) T.n_range (pa_cons (pv 0) pa_nil)) (pg_name (i := 2) sc__law_tuples.nd rfl (by first | exact Or.inl rfl | exact Or.inr rfl)) (pss_cons (ps_set (i := 3) sc__law_tuples.nd rfl (by first | exact Or.inl rfl | exact Or.inr rfl) (pe_lst pa_nil)) (pss_cons (ps_for PassesOwn.never rfl (pi_list (pv 1)) (pg_name (i := 4) sc__law_tuples.nd rfl (by first | exact Or.inl rfl | exact Or.inr rfl)) (pss_one (ps_expr (pe_bm PySem.F.plainAttrs_list PySem.F.slot_list_extend PySem.F.type_list_extend mt_extend (pv 3) (pa_cons (pe_lc (own := [("width", 5)]) (g := gName 5) (by rfl) sc__law_tuples.nd (pi_tup (pe_tup (pa_cons pe_int (pa_cons pe_int (pa_cons pe_int (pa_cons pe_int pa_nil)))))) (blkOk_by (own := [("width", 5)]) (N := ["many", "found", "turn", "longer", "some", "width"]) (sc := defScope s__law_tuples) (by decide +kernel)) (fun _ _ _ _ _ => (pg_name (i := 5) sc__law_tuples.nd rfl (by first | exact Or.inl rfl | exact Or.inr rfl))) (fun _ _ _ _ _ => pts_nil) (fun _ _ _ _ _ => (pe_op (show OpR _ _ (rCatA K) from op_catA) (pv 4) (pe_tup (pa_cons (pv 5) pa_nil))))) pa_nil))))) (pss_one (ps_set (i := 1) sc__law_tuples.nd rfl (by first | exact Or.inl rfl | exact Or.inr rfl) (pv 3))))))
    (pss_one (ps_ret (pv 1))))), ?_⟩
  rw [show L2.start ["many", "found", "turn", "longer", "some", "width"] [v0] = [some v0, none, none, none, none, none] from rfl]
  try dsimp only [xK]
  refine q_set (K := K) (d := .list ((tupW 0).map dT)) (d_lst (a_cons (d_tup a_nil) a_nil) (by show 1 ≤ 100000; decide)) hA fun v1 G1 H1 e1 A1 r1 => ?_
  refine s_seq (s_forRI (n := m) (fun k σ G' M' => ∃ v1 a2 a3 a4, σ = [some v0, some v1, a2, a3, a4, none] ∧ Rp K G' (.list ((tupW k).map dT)) v1 ∧ Ex M M') (d_var rfl (r0.up e1)) (by omega) (by omega) A1 ?_ ⟨v1, none, none, none, rfl, r1, Ex.refl _⟩ (fun k hk σ1 G2 M1 H2 e2 A2 hI Nx hN => ?_) fun σ1 G2 M1 H2 e2 A2 hI => ?_)
  · rintro k σ1 Ga Gb M1 e ⟨v1, a2, a3, a4, h1, h2, h3⟩
    exact ⟨v1, a2, a3, a4, h1, h2.up e, h3⟩
  · obtain ⟨v1, a2, a3, a4, rfl, rv, eM⟩ := hI
    have hk3 : k < 3 := by omega
    have hlen : (tupW k).length ≤ 64 := by rw [tupW_len]; exact Nat.pow_le_pow_right (n := 4) (by decide) (show k ≤ 3 by omega)
    refine q_newL (K := K) a_nil (Nat.zero_le _) A2 fun p xs G3 H3 e3 pM pG A3 rx => ?_
    refine s_seq (s_forLI (fun j σ G' M' => ∃ ys a4, σ = [some v0, some v1, some (.int k), some (.ref p), a4, none] ∧ M' = upd M1 p (.lst ys) ∧ RpL K G' ((tupJ k j).map dT) ys) (d_var rfl (rv.up e3)) A3 ?_ ⟨xs, a4, rfl, rfl, rx⟩ (fun j d hd x σ2 G4 M4 H4 e4 A4 hI rx4 Nx2 hN2 => ?_) fun σ2 G4 M4 H4 e4 A4 hI => ?_)
    · rintro j σ2 Ga Gb M2 e ⟨ys, a4, h1, h2, h3⟩
      exact ⟨ys, a4, h1, h2, h3.up e⟩
    · obtain ⟨ys, a4, rfl, rfl, ry⟩ := hI
      rw [List.getElem?_map] at hd
      obtain ⟨ws, hws, rfl⟩ := Option.map_eq_some_iff.mp hd
      have hjl := (List.getElem?_eq_some_iff.mp hws).1
      have hwl := (tupW_ok k ws (List.mem_of_getElem? hws)).1
      have hyl : ys.length ≤ 256 := by
        rw [ry.len, List.length_map]
        unfold tupJ
        rw [flat4, List.length_take]
        omega
      refine s_extL (p := p) (ds := (wL.map fun n => ws ++ [n]).map dT) rfl upd_same (TrD.to (d_lcT (i := 5) (ds := dNs wL) (p := fun _ => true) (f := fun d => .tuple (dNs ws ++ [d])) (d_tup (a_cons d_int (a_cons d_int (a_cons d_int (a_cons d_int a_nil)))) (by show 4 ≤ 100000; decide)) (by show 4 < 100000; decide) (fun d hd y G5 e5 ry5 => b_yes) fun d hd _ y G5 e5 ry5 => ?_) ?_) ?_ A4 fun y1 G5 H5 e5 A5 s5 => ?_
      · exact d_op (d_var rfl (rx4.up e5)) (d_tup (a_cons (d_var rfl ry5) a_nil) (by show 1 ≤ 100000; decide)) (rd_catA (by rw [dNs_len, hwl]; show k + 1 ≤ 100000; omega))
      · rw [filt_true]
        unfold dNs
        rw [List.map_map, List.map_map]
        refine congrArg PyData.list (List.map_congr_left fun n _ => ?_)
        show PyData.tuple (dNs ws ++ [dN n]) = PyData.tuple (dNs (ws ++ [n]))
        unfold dNs
        rw [List.map_append]
        rfl
      · rw [List.length_map, List.length_map]
        show _ + 4 ≤ 100000
        omega
      · rw [upd_upd] at A5
        refine hN2 _ G5 _ H5 e5 A5 ⟨_, _, rfl, rfl, ?_⟩
        rw [tupJ_succ hws, List.map_append]
        exact (ry.up e5).app s5
    · obtain ⟨ys, a4, rfl, rfl, ry⟩ := hI
      rw [List.length_map, tupJ_all] at ry
      obtain ⟨G5, e5, A5, r5⟩ := At.done A4 pM ry
      refine s_set (d_var rfl r5) A5 fun v G6 H6 e6 A6 r6 => ?_
      exact hN _ G6 M1 H6 ((((e3.trans e4).trans e5)).trans e6) A6 ⟨v, _, _, _, rfl, r6, eM⟩
  · obtain ⟨v1, a2, a3, a4, rfl, rv, eM⟩ := hI
    rw [Int.toNat_natCast] at rv
    exact s_ret (d_var rfl rv) (A2.drop eM) (q.mono (e1.trans e2))
def R_expl : List PyData → PyData → Prop := fun ds r => ∃ (c : CodeD) (x : Str) (m : Nat) (ev : List (Str × List Nat)) (p q : Nat), ds = [c.d, .str x, dN m, dEv ev, dF p q] ∧ okAsk c x m ev p q ∧ r = .list ((allW c m p q ev).map dT)
theorem text_of {c : CodeD} {x t : Str} {ws : List Int} (h : textW c x t = true) : isTextD (codeW c x ws) (.str t) = true := List.all_eq_true.mpr fun y hy => by
  have := List.all_eq_true.mp h y hy
  rw [Bool.or_eq_true] at this
  exact decide_eq_true (codeW_mem.mpr (this.imp of_decide_eq_true of_decide_eq_true).symm)
def evP (e : Str × List Nat) : PyData × PyData := (.str e.1, .list (dNs e.2))
theorem evP_d (ev : List (Str × List Nat)) : ev.map dItem = (ev.map evP).map dPair := by rw [List.map_map]; rfl
def evOf (q : PyData × PyData) : Str × List Nat := (strOf q.1, match q.2 with
  | .list ds => natOf ds
  | _ => [])
theorem evOf_P (e : Str × List Nat) : evOf (evP e) = e := by
  show (e.1, natOf (dNs e.2)) = e
  rw [natOf_d]
theorem F__law_explaining (T : Tx K mg) : Fd P w K mg base CX0 8 "_law_explaining" (PSp K R_expl) [] := by
  obtain ⟨fd, F⟩ := T.f__law_explaining
  refine ⟨_, fd, ["code", "name", "many", "evidence", "factor"], [], T.g__law_explaining, F.kp, F.bindsN fun _ _ _ _ _ _ us hl => match us, hl with | [_, _, _, _, _], _ => rfl, .nil, ?_⟩
  refine fnG_of F sc__law_explaining (fun vs H Q E h => PSp.len (n := 5) (by rintro _ _ ⟨d, e, f, g, h, i, rfl, _⟩; rfl) h) (fun cdv A outer s H vs Q E hg hr h => ?_)
  obtain ⟨G, M, ds, r, hA, hR, ⟨c, x, m, ev, fp, fq, rfl, ok, rfl⟩, q⟩ := h
  obtain ⟨v0, _, rfl, r0, v1, _, rfl, r1, v2, _, rfl, r2, v3, _, rfl, r3, v4, _, rfl, r4, rfl⟩ := hR
  refine ⟨_, PSs.nox (pss_cons (ps_set (i := 5) sc__law_explaining.nd rfl (by first | exact Or.inl rfl | exact Or.inr rfl) (pe_lst pa_nil))
    (pss_cons (ps_for PassesOwn.never rfl (pi_list (pe_fd (F__law_tuples (P := P) (w := w) (base := base) T) hg (hr.mono (by decide)) pass0 (pa_cons (pv 2) pa_nil))) (pg_name (i := 6) sc__law_explaining.nd rfl (by first | exact Or.inl rfl | exact Or.inr rfl)) (pss_cons (ps_set (i := 7) sc__law_explaining.nd rfl (by first | exact Or.inl rfl | exact Or.inr rfl) (pe_fd (F_with_character (P := P) (w := w) (base := base) T) hg (hr.mono (by decide)) pass0 (pa_cons (pv 0) (pa_cons (pv 1) (pa_cons (pv 6) pa_nil))))) (pss_one (ps_if (pt_cmpR (op_eqR hr.units) (pe_lc (own := [("text", 8), ("scan", 9)]) (g := gTup K 2 (gCons (gName 8) (gCons (gName 9) gNil))) (by rfl) sc__law_explaining.nd (pi_list (pv 3)) (blkOk_by (own := [("text", 8), ("scan", 9)]) (N := ["code", "name", "many", "evidence", "factor", "found", "widths", "wide", "text", "scan"]) (sc := defScope s__law_explaining) (by decide +kernel)) (fun _ _ _ _ _ => (pg_tup (by rfl) (pgs_cons (pg_name (i := 8) sc__law_explaining.nd rfl (by first | exact Or.inl rfl | exact Or.inr rfl)) (pgs_cons (pg_name (i := 9) sc__law_explaining.nd rfl (by first | exact Or.inl rfl | exact Or.inr rfl)) pgs_nil)))) (fun _ _ _ _ _ => (pts_one (pt_not (pt_val (pe_fd (F_is_reading (P := P) (w := w) (base := base) T) hg (hr.mono (by decide)) pass0 (pa_cons (pv 7) (pa_cons (pv 8) (pa_cons (pv 9) (pa_cons (pv 4) pa_nil))))))))) (fun _ _ _ _ _ => pe_int)) (pe_lst pa_nil) (nomark _)) (pss_one (ps_expr (pe_bm PySem.F.plainAttrs_list PySem.F.slot_list_append PySem.F.type_list_append mt_append (pv 5) (pa_cons (pv 6) pa_nil)))) pss_nil))))
    (pss_one (ps_ret (pv 5))))), ?_⟩
  rw [show L2.start ["code", "name", "many", "evidence", "factor", "found", "widths", "wide", "text", "scan"] [v0, v1, v2, v3, v4] = [some v0, some v1, some v2, some v3, some v4, none, none, none, none, none] from rfl]
  try dsimp only [xK]
  have m3 := ok.m3
  refine q_newL (K := K) a_nil (Nat.zero_le _) hA fun p xs G1 H1 e1 pM pG A1 rx => ?_
  refine s_seq (s_forLI (fun j σ G' M' => ∃ ys a6 a7, σ = [some v0, some v1, some v2, some v3, some v4, some (.ref p), a6, a7, none, none] ∧ M' = upd M p (.lst ys) ∧ RpL K G' ((((tupW m).take j).filter (readAll c x fp fq ev)).map dT) ys) (d_call0 (a_cons (d_var rfl (r2.up e1)) a_nil) ⟨m, rfl, m3, rfl⟩) A1 ?_ ⟨xs, none, none, rfl, rfl, rx⟩ (fun j d hd y σ2 G4 M4 H4 e4 A4 hI ry4 Nx2 hN2 => ?_) fun σ2 G4 M4 H4 e4 A4 hI => ?_)
  · rintro j σ2 Ga Gb M2 e ⟨ys, a6, a7, h1, h2, h3⟩
    exact ⟨ys, a6, a7, h1, h2, h3.up e⟩
  · obtain ⟨ys, a6, a7, rfl, rfl, ry⟩ := hI
    rw [List.getElem?_map] at hd
    obtain ⟨ws, hws, rfl⟩ := Option.map_eq_some_iff.mp hd
    have okw := tupW_ok m ws (List.mem_of_getElem? hws)
    have onew := okNew_of ok okw
    have ew : dT ws = .tuple (dInts (intsN ws)) := by
      show PyData.tuple (dNs ws) = _
      rw [dNs_ints]
      rfl
    have e14 := e1.trans e4
    have hyl : ys.length ≤ 64 := by
      rw [ry.len, List.length_map]
      refine Nat.le_trans (List.length_filter_le _ _) ?_
      rw [List.length_take]
      have : (tupW m).length ≤ 64 := by rw [tupW_len]; exact Nat.pow_le_pow_right (n := 4) (by decide) m3
      omega
    refine q_set (d_call0 (a_cons (d_var rfl (r0.up e14)) (a_cons (d_var rfl (r1.up e14)) (a_cons (d_var rfl ry4) a_nil))) (⟨c, x, intsN ws, by rw [ew], onew, rfl⟩ : R_code_with _ (codeW c x (intsN ws)).d)) A4 fun v7 G5 H5 e5 A5 r7 => ?_
    have e15 := e14.trans e5
    have hcomp : TrB (tTest (tOp (rEqR K) (tLc (iList K (tVar 3)) (gTup K 2 (gCons (gName 8) (gCons (gName 9) gNil))) (tNot (tB (tCall (PSp K R_is_reading) [] E0 (tCons (tVar 7) (tCons (tVar 8) (tCons (tVar 9) (tCons (tVar 4) tNil))))))) (tC (V.int 1)) [8, 9]) (tLst tNil))) [some v0, some v1, some v2, some v3, some v4, some (.ref p), some y, some v7, none, none] G5 (readAll c x fp fq ev (ws)) := by
      refine TrB.to (b_T (d_op (d_lcP (i := 8) (j := 9) (qs := ev.map evP) (pp := fun q => !isRead (codeW c x (intsN ws)) (evOf q).1 (evOf q).2 fp fq) (f := fun _ => .int 1) (by decide) (TrD.to (d_var rfl (r3.up e15)) (by rw [← evP_d]; rfl)) (by rw [List.length_map]; have := ok.evd.l2; omega) rfl (fun q hq z1 z2 G6 e6 rz1 rz2 => ?_) fun q hq _ z1 z2 G6 e6 rz1 rz2 => d_int) (d_lst a_nil) (rd_eqR ?_ rfl))) ?_
      · obtain ⟨e, he, rfl⟩ := List.mem_map.mp hq
        have oki := ok.evd.i e he
        rw [evOf_P]
        refine b_not (b_B (d_call0 (a_cons (d_var rfl (r7.up e6)) (a_cons (d_var rfl rz1) (a_cons (d_var rfl rz2) (a_cons (d_var rfl (r4.up (e15.trans e6))) a_nil)))) ⟨codeW c x (intsN ws), e.1, e.2, fp, fq, rfl, codeW_ok onew, by have := oki.sz; omega, text_of oki.t, oki.s, ok.f, rfl⟩))
      · have : ∀ l : List (PyData × PyData), SeqAt.shaped (.list (l.map fun _ => PyData.int 1)) = true := fun l => by
          have e : (l.map fun _ => PyData.int 1) = dInts (l.map fun _ => 1) := by
            unfold dInts
            rw [List.map_map]
            rfl
          rw [e]
          exact shaped_intsL _
        exact this _
      · rw [eqv_nil]
        unfold readAll
        rw [Bool.eq_iff_iff, List.isEmpty_iff, List.map_eq_nil_iff, List.filter_eq_nil_iff, List.all_eq_true]
        constructor
        · intro z e he
          have := z (evP e) (List.mem_map.mpr ⟨e, he, rfl⟩)
          rw [evOf_P] at this
          simpa using this
        · intro z q hq
          obtain ⟨e, he, rfl⟩ := List.mem_map.mp hq
          rw [evOf_P, z e he]
          decide
    have hk : (tupW m).take (j + 1) = (tupW m).take j ++ [ws] := by rw [List.take_add_one, hws]; rfl
    refine s_if hcomp A5 (fun hb G6 H6 e6 A6 => ?_) fun hb G6 H6 e6 A6 => ?_
    · refine s_append rfl upd_same (d_var rfl (ry4.up (e5.trans e6))) (by omega) A6 fun v G7 H7 e7 A7 r8 => ?_
      rw [upd_upd] at A7
      refine hN2 _ G7 _ H7 ((e5.trans e6).trans e7) A7 ⟨_, _, _, rfl, rfl, ?_⟩
      rw [hk, List.filter_append, List.filter_cons, hb, List.map_append]
      exact (ry.up ((e5.trans e6).trans e7)).snoc r8
    · refine s_next (hN2 _ G6 _ H6 (e5.trans e6) A6 ⟨ys, _, _, rfl, rfl, ?_⟩)
      rw [hk, List.filter_append, List.filter_cons, hb]
      simpa using ry.up (e5.trans e6)
  · obtain ⟨ys, a6, a7, rfl, rfl, ry⟩ := hI
    rw [List.length_map, List.take_length, ← allW_eq ok] at ry
    obtain ⟨G5, e5, A5, r5⟩ := At.done A4 pM ry
    exact s_ret (d_var rfl r5) A5 (q.mono ((e1.trans e4).trans e5))
end
end K96

namespace K96
open PySem PySem.Spec PyProof.Rows L2 Sb
local macro_rules | `(tactic| walk_at "ex") => `(tactic| first | exact Ex.refl _ | assumption | (refine' Ex.trans ?_ (by assumption); walk_at "ex"))
local macro_rules | `(tactic| walk_at "rp") => `(tactic| first | assumption | (refine' Rp.up ?e (by assumption); (case e => walk_at "ex")) | exact rfl)
local macro_rules | `(tactic| walk_at "rd") => `(tactic| with_reducible first | exact rd_add | exact rd_sub | exact rd_lt | exact rd_le | exact rd_gt | exact rd_ge | exact rd_eqI | exact rd_neI | exact rd_eqS | exact rd_neS | exact rd_isN | exact rd_ltS | exact rd_inSign | exact rd_eqE)
local macro_rules | `(tactic| walk_at "tr") => `(tactic| first
  | with_reducible exact d_int
  | with_reducible exact d_str
  | with_reducible exact d_bl
  | with_reducible exact d_non
  | with_reducible exact a_nil
  | with_reducible exact b_yes
  | with_reducible exact o_none
  | with_reducible exact d_newD
  | ((with_reducible refine' d_var ?i ?r); (case i => rfl); (case r => walk_at "rp"))
  | ((with_reducible refine' a_cons ?a ?b); (case a => walk_at "tr"); (case b => walk_at "tr"))
  | ((with_reducible refine' a_star ?a ?b); (case a => walk_at "tr"); (case b => walk_at "tr"))
  | ((with_reducible refine' d_isi ?a ?b); (case a => walk_at "tr"); (case b => decide))
  | ((with_reducible refine' d_op ?a ?b ?c); (case a => walk_at "tr"); (case b => walk_at "tr"); (case c => walk_at "rd"))
  | ((with_reducible refine' d_tup ?a ?b); (case a => walk_at "tr"); (case b => first | decide | (simp; done)))
  | ((with_reducible refine' d_lst ?a ?b); (case a => walk_at "tr"); (case b => first | decide | (simp; done)))
  | ((with_reducible refine' o_some ?a); (case a => walk_at "tr"))
  | ((with_reducible refine' b_B ?a); (case a => walk_at "tr"))
  | ((with_reducible refine' b_T ?a); (case a => walk_at "tr"))
  | ((with_reducible refine' b_not ?a); (case a => walk_at "tr"))
  | ((with_reducible refine' v_not ?a); (case a => walk_at "tr"))
  | ((with_reducible refine' b_or ?a ?b); (case a => walk_at "tr"); (case b => intro _; walk_at "tr"))
  | ((with_reducible refine' b_and ?a ?b); (case a => walk_at "tr"); (case b => intro _; walk_at "tr"))
  | ((with_reducible refine' v_or ?a ?b); (case a => walk_at "tr"); (case b => intro _; walk_at "tr"))
  | ((with_reducible refine' v_and ?a ?b); (case a => walk_at "tr"); (case b => intro _; walk_at "tr"))
  | assumption)


theorem shaped_tup (ws : List Nat) : SeqAt.shaped (dT ws) = true := by
  show SeqAt.shaped (.tuple (dNs ws)) = true
  rw [dNs_ints]
  exact shaped_ints _
theorem eqv_dT (ws : List Nat) : PyData.eqv (dT ws) (dT ws) = true := by
  show PyData.eqvAll (dNs ws) (dNs ws) = true
  rw [dNs_ints, eqvA_ints, decide_eq_true rfl]
/-! ### columns -/
def colS (L : List (List Nat)) (j : Nat) : List Nat := wL.filter fun n => L.any fun row => decide (row.getD j 0 = n)
theorem colS_in {L : List (List Nat)} {j : Nat} (h : ∀ row ∈ L, row.getD j 0 ∈ wL) {k : Nat} : k ∈ colS L j ↔ ∃ row ∈ L, row.getD j 0 = k := by
  unfold colS
  rw [List.mem_filter, List.any_eq_true]
  constructor
  · rintro ⟨_, row, h1, h2⟩
    exact ⟨row, h1, of_decide_eq_true h2⟩
  · rintro ⟨row, h1, rfl⟩
    exact ⟨h row h1, row, h1, decide_eq_true rfl⟩
theorem colS_ord (L : List (List Nat)) (j : Nat) : (intsN (colS L j)).Pairwise (· < ·) := by
  have h : (intsN wL).Pairwise (· < ·) := by decide
  have h2 : (intsN (colS L j)).Sublist (intsN wL) := List.filter_sublist.map _
  exact h.sublist h2
def oneD (d : PyData) : PyData := match d with
  | .list [x] => x
  | _ => .none
theorem col_same {L : List (List Nat)} {l0 : List Nat} {j : Nat} (h : ∀ row ∈ l0 :: L, row.getD j 0 ∈ wL) : oneD (.list (dNs (colS (l0 :: L) j))) = if sameJ (l0 :: L) j = true then dN (l0.getD j 0) else .none := by
  by_cases hs : sameJ (l0 :: L) j = true
  · rw [if_pos hs]
    have h1 : ∀ row ∈ l0 :: L, row.getD j 0 = l0.getD j 0 := fun row hr => of_decide_eq_true (List.all_eq_true.mp hs row hr)
    have h2 : colS (l0 :: L) j = wL.filter fun n => decide (l0.getD j 0 = n) := by
      unfold colS
      refine List.filter_congr fun n _ => ?_
      rw [Bool.eq_iff_iff, List.any_eq_true, decide_eq_true_iff]
      constructor
      · rintro ⟨row, hr, hd⟩
        rw [← h1 row hr]
        exact of_decide_eq_true hd
      · rintro rfl
        exact ⟨l0, List.mem_cons_self .., decide_eq_true rfl⟩
    have h3 := h l0 (List.mem_cons_self ..)
    rw [h2]
    generalize l0.getD j 0 = z at h3
    have hz : ∀ z ∈ wL, oneD (.list (dNs (wL.filter fun n => decide (z = n)))) = dN z := by
      intro z hz
      unfold wL at hz
      simp only [List.mem_cons, List.not_mem_nil, or_false] at hz
      rcases hz with rfl | rfl | rfl | rfl <;> rfl
    exact hz z h3
  · rw [if_neg hs]
    have hm : ∀ {k : Nat}, k ∈ colS (l0 :: L) j ↔ ∃ row ∈ l0 :: L, row.getD j 0 = k := fun {k} => colS_in h
    generalize colS (l0 :: L) j = cs at hm
    match cs, @hm with
    | [], _ => rfl
    | [y], hm =>
      refine absurd (List.all_eq_true.mpr fun row hr => decide_eq_true ?_) hs
      have z1 := List.mem_singleton.mp (hm.mpr ⟨row, hr, rfl⟩)
      have z2 := List.mem_singleton.mp (hm.mpr ⟨l0, List.mem_cons_self .., rfl⟩)
      show row.getD j 0 = l0.getD j 0
      rw [z1, z2]
    | _ :: _ :: _, _ => rfl
theorem col_w {c : CodeD} {x : Str} {m p q : Nat} {ev : List (Str × List Nat)} (ok : okAsk c x m ev p q) {j : Nat} (hj : j < m) : ∀ row ∈ allW c m p q ev, row.length = m ∧ row.getD j 0 ∈ wL := fun row hr => by
  rw [allW_eq ok] at hr
  have h := tupW_ok m row (List.mem_filter.mp hr).1
  refine ⟨h.1, ?_⟩
  have hl : j < row.length := by rw [h.1]; exact hj
  rw [List.getD_eq_getElem?_getD, List.getElem?_eq_getElem hl]
  have := h.2 _ (List.getElem_mem hl)
  show row[j] ∈ wL
  unfold wL
  simp only [List.mem_cons, List.not_mem_nil, or_false]
  omega
/-- a tuple of ints and None -/
def flatE (d : PyData) : Bool := match d with
  | .int _ => true
  | .none => true
  | _ => false
theorem flatE_eqv : ∀ ds : List PyData, ds.all flatE = true → PyData.eqvAll ds ds = true ∧ PyData.canLayAll0 ds = true ∧ PyData.depthAll ds = 0
  | [], _ => ⟨rfl, rfl, rfl⟩
  | d :: ds, h => by
    rw [List.all_cons, Bool.and_eq_true] at h
    obtain ⟨h1, h2, h3⟩ := flatE_eqv ds h.2
    have hd : PyData.eqv d d = true ∧ PyData.canLay0 d = true ∧ PyData.depth d = 0 := by
      cases d with
      | int i => exact ⟨by show (i == i) = true; exact beq_self_eq_true i, rfl, rfl⟩
      | none => exact ⟨rfl, rfl, rfl⟩
      | _ => cases h.1
    refine ⟨?_, ?_, ?_⟩
    · show (PyData.eqv d d && PyData.eqvAll ds ds) = true
      rw [hd.1, h1]; rfl
    · show (PyData.canLay0 d && PyData.canLayAll0 ds) = true
      rw [hd.2.1, h2]; rfl
    · show max (PyData.depth d) (PyData.depthAll ds) = 0
      rw [hd.2.2, h3]; rfl
theorem flatE_tup {ds : List PyData} (h : ds.all flatE = true) : PyData.eqv (.tuple ds) (.tuple ds) = true ∧ SeqAt.shaped (.tuple ds) = true := by
  obtain ⟨h1, h2, h3⟩ := flatE_eqv ds h
  refine ⟨?_, ?_⟩
  · show PyData.eqvAll ds ds = true
    exact h1
  · unfold SeqAt.shaped
    show (PyData.canLayAll0 ds && decide (PyData.depthAll ds + 1 ≤ 64)) = true
    rw [h2, h3]
    rfl
section
variable {P : Program} {w : World} {K : PySem.W.Frag} {mg : Str → Option Value} {base : Heap}
def R_rght : List PyData → Nat → (PyData → Prop) → Prop := fun ds k Φ => ∃ (c : CodeD) (x : Str) (ws : List Nat) (ev : List (Str × List Nat)) (p q : Nat), ds = [c.d, .str x, dT ws, dEv ev, dF p q] ∧ okAsk c x ws.length ev p q ∧ k = 1 ∧ Φ = fun d => d = .bool true
theorem F__law_right (T : Tx K mg) : Fd P w K mg base CX0 9 "_law_right" (ESp K R_rght) [] := by
  obtain ⟨fd, F⟩ := T.f__law_right
  refine ⟨_, fd, ["fount", "code", "name", "widths", "evidence", "factor"], [], T.g__law_right, F.kp, F.bindsN fun _ _ _ _ _ _ us hl => match us, hl with | [_, _, _, _, _, _], _ => rfl, .nil, ?_⟩
  refine fnG_of F sc__law_right (fun vs H Q E h => ESp.len (n := 5) (by rintro _ _ _ ⟨d, e, f, g, h, i, rfl, _⟩; rfl) h) (fun cdv A outer s H vs Q E hg hr h => ?_)
  obtain ⟨r, vs, G, M, n, k, ds, Φ, rfl, hA, hRL, hws, ⟨c, x, ws, ev, fp, fq, rfl, ok, rfl, rfl⟩, hn, q⟩ := h
  obtain ⟨v1, _, rfl, r1, v2, _, rfl, r2, v3, _, rfl, r3, v4, _, rfl, r4, v5, _, rfl, r5, rfl⟩ := hws
  refine ⟨_, PSs.nox (pss_cons (ps_asg (pe_tup (pa_cons (pe_callB call_len' (by rfl) T.n_len (by decide +kernel) (pa_cons (pv 3) pa_nil)) (pa_cons (pe_fd (F__law_explaining (P := P) (w := w) (base := base) T) hg (hr.mono (by decide)) pass0 (pa_cons (pv 1) (pa_cons (pv 2) (pa_cons (pe_callB call_len' (by rfl) T.n_len (by decide +kernel) (pa_cons (pv 3) pa_nil)) (pa_cons (pv 4) (pa_cons (pv 5) pa_nil)))))) pa_nil))) (pg_tup (by rfl) (pgs_cons (pg_name (i := 6) sc__law_right.nd rfl (by first | exact Or.inl rfl | exact Or.inr rfl)) (pgs_cons (pg_name (i := 7) sc__law_right.nd rfl (by first | exact Or.inl rfl | exact Or.inr rfl)) pgs_nil))))
    (pss_cons (ps_if (pt_cmpR op_ne (pe_fd (F_count_widths (P := P) (w := w) (base := base) T) hg (hr.mono (by decide)) pass0 (pa_cons (pv 1) (pa_cons (pv 2) (pa_cons (pv 6) (pa_cons (pv 4) (pa_cons (pv 5) pa_nil)))))) (pe_callB call_len' (by rfl) T.n_len (by decide +kernel) (pa_cons (pv 7) pa_nil)) (nomark _)) (pss_one (ps_ret pe_bl)) pss_nil)
    (pss_cons (ps_set (i := 8) sc__law_right.nd rfl (by first | exact Or.inl rfl | exact Or.inr rfl) (pe_ifExp (pt_cmpR (op_neR hr.units) (pv 7) (pe_lst pa_nil) (nomark _)) (pe_callB (cr_sortedSet rfl) (by rfl) T.n_sorted (by decide +kernel) (pa_cons (pe_callTy (call_setL rfl) (by rfl) T.n_set (by decide +kernel) (pa_cons (pe_lst (pa_cons pe_int (pa_cons (pe_op op_sub (pe_callB call_len' (by rfl) T.n_len (by decide +kernel) (pa_cons (pv 7) pa_nil)) pe_int) (pa_cons (pe_fd (F__law_dip (P := P) (w := w) (base := base) T) hg (hr.mono (by decide)) pass0 (pa_cons (pv 0) (pa_cons (pe_callB call_len' (by rfl) T.n_len (by decide +kernel) (pa_cons (pv 7) pa_nil)) pa_nil))) pa_nil)))) pa_nil)) pa_nil)) (pe_lst pa_nil)))
    (pss_cons (ps_for PassesOwn.never rfl (pi_list (pv 8)) (pg_name (i := 9) sc__law_right.nd rfl (by first | exact Or.inl rfl | exact Or.inr rfl)) (pss_one (ps_if (pt_cmpR (op_neR hr.units) (pe_fd (F_nth_widths (P := P) (w := w) (base := base) T) hg (hr.mono (by decide)) pass0 (pa_cons (pv 1) (pa_cons (pv 2) (pa_cons (pv 6) (pa_cons (pv 4) (pa_cons (pv 5) (pa_cons (pv 9) pa_nil))))))) (pe_ix ix_list (pv 7) (pv 9) (fun _ _ => rfl)) (nomark _)) (pss_one (ps_ret pe_bl)) pss_nil)))
    (pss_cons (ps_set (i := 10) sc__law_right.nd rfl (by first | exact Or.inl rfl | exact Or.inr rfl) (pe_fd (F_count_widths (P := P) (w := w) (base := base) T) hg (hr.mono (by decide)) pass0 (pa_cons (pv 1) (pa_cons (pv 2) (pa_cons (pv 6) (pa_cons (pe_slice sl_list (pv 4) po_none (po_some pe_int)) (pa_cons (pv 5) pa_nil)))))))
    (pss_cons (ps_if (PW.pt (pw_or (pt_cmpR op_lt (pv 10) (pe_callB call_len' (by rfl) T.n_len (by decide +kernel) (pa_cons (pv 7) pa_nil)) (nomark _)) (pw_or1 (PW.pt (pw_and (pt_cmpR op_lt (pv 10) pe_int (nomark _)) (pw_and1 (pt_cmpR (op_neR hr.units) (pv 7) (pe_lst pa_nil) (nomark _)))))))) (pss_one (ps_ret pe_bl)) pss_nil)
    (pss_cons (ps_set (i := 11) sc__law_right.nd rfl (by first | exact Or.inl rfl | exact Or.inr rfl) (pe_fd (F_sure_widths (P := P) (w := w) (base := base) T) hg (hr.mono (by decide)) pass0 (pa_cons (pv 1) (pa_cons (pv 2) (pa_cons (pv 6) (pa_cons (pv 4) (pa_cons (pv 5) pa_nil)))))))
    (pss_cons (ps_if (PW.pt (pw_or (pt_cmpR (op_eqR hr.units) (pv 7) (pe_lst pa_nil) (nomark _)) (pw_or1 (pt_cmpR op_isN (pv 11) pe_non (nomark _))))) (pss_one (ps_ret (pe_and (pe_cmpR (op_eqR hr.units) (pv 7) (pe_lst pa_nil) (nomark _)) (pe_one (pe_cmpR op_isN (pv 11) pe_non (nomark _)))))) pss_nil)
    (pss_cons (ps_setLc (i := 12) (own := [("at", 13)]) (g := gName 13) (by rfl) sc__law_right.nd rfl rfl (sw_true rfl rfl rfl (by decide +kernel)) (pi_range1 (by rfl) T.n_range (pa_cons (pv 6) pa_nil)) (blkOk_by (own := [("at", 13)]) (N := ["fount", "code", "name", "widths", "evidence", "factor", "many", "due", "spots", "spot", "less", "sure", "rows", "at", "one", "row"]) (sc := defScope s__law_right) (by decide +kernel)) (fun _ _ _ _ _ => (pg_name (i := 13) sc__law_right.nd rfl (by first | exact Or.inl rfl | exact Or.inr rfl))) (fun _ _ _ _ _ => pts_nil) (fun _ _ _ _ _ => (pe_callB (show CallR _ (.builtin "sorted") (rSortedSet w) from (cr_sortedSet rfl)) (by rfl) T.n_sorted (by decide +kernel) (pa_cons (pe_callTy (show CallR _ (.type "set") (rSetLI K w) from (call_setL rfl)) (by rfl) T.n_set (by decide +kernel) (pa_cons (pe_lc (wi := iList K _) (own := [("one", 14)]) (g := gName 14) (by rfl) sc__law_right.nd (pi_list (pv 7)) (blkIn (own := [("one", 14)]) (N := ["fount", "code", "name", "widths", "evidence", "factor", "many", "due", "spots", "spot", "less", "sure", "rows", "at", "one", "row"]) (sc := defScope s__law_right) rfl rfl (by decide +kernel)) (fun _ _ _ _ _ => (pg_name (i := 14) sc__law_right.nd rfl (by first | exact Or.inl rfl | exact Or.inr rfl))) (fun _ _ _ _ _ => pts_nil) (fun _ _ _ _ _ => (pe_ix (show IxR _ (rIxT K) from ix_tup) (pv 14) (pv 13) (fun _ _ => rfl)))) pa_nil)) pa_nil))))
    (pss_one (ps_ret (pe_cmpR (op_eqR hr.units) (pv 11) (pe_callTy call_tupOf (by rfl) T.n_tuple (by decide +kernel) (pa_cons (pe_lc (own := [("row", 15)]) (g := gName 15) (by rfl) sc__law_right.nd (pi_list (pv 12)) (blkOk_by (own := [("row", 15)]) (N := ["fount", "code", "name", "widths", "evidence", "factor", "many", "due", "spots", "spot", "less", "sure", "rows", "at", "one", "row"]) (sc := defScope s__law_right) (by decide +kernel)) (fun _ _ _ _ _ => (pg_name (i := 15) sc__law_right.nd rfl (by first | exact Or.inl rfl | exact Or.inr rfl))) (fun _ _ _ _ _ => pts_nil) (fun _ _ _ _ _ => (pe_ifExp (pt_cmpR op_eq (pe_callB (show CallR _ _ (Sb.rLen K) from call_len') (by rfl) T.n_len (by decide +kernel) (pa_cons (pv 15) pa_nil)) pe_int (nomark _)) (pe_ix (show IxR _ (rIxL K) from ix_list) (pv 15) pe_int (fun _ _ => rfl)) pe_non))) pa_nil)) (nomark _))))))))))))), ?_⟩
  rw [show L2.start ["fount", "code", "name", "widths", "evidence", "factor", "many", "due", "spots", "spot", "less", "sure", "rows", "at", "one", "row"] [(.ref r), v1, v2, v3, v4, v5] = [some (.ref r), some v1, some v2, some v3, some v4, some v5, none, none, none, none, none, none, none, none, none, none] from rfl]
  try dsimp only [xK]
  have m1 := ok.m1
  have m3 := ok.m3
  have hL : (allW c ws.length fp fq ev).length ≤ 64 := allW_few m3
  have hfew := fewer ok
  have hev := ok.evd.l2
  have hev1 := ok.evd.l1
  generalize hLdef : allW c ws.length fp fq ev = L at hL hfew
  refine q_unpack (K := K) (ds := [dN ws.length, .list (L.map dT)]) (d_tup (a_cons (TrD.to (d_cb (a_cons (d_var rfl r3) a_nil) rc_lenT) (by rw [dNs_len]; rfl)) (a_cons (d_call0 (a_cons (d_var rfl r1) (a_cons (d_var rfl r2) (a_cons (TrD.to (d2 := dN ws.length) (d_cb (a_cons (d_var rfl r3) a_nil) rc_lenT) (by rw [dNs_len]; rfl)) (a_cons (d_var rfl r4) (a_cons (d_var rfl r5) a_nil))))) ⟨c, x, ws.length, ev, fp, fq, rfl, ok, by rw [hLdef]⟩) a_nil)) (by show 2 ≤ 100000; decide)) rfl hA ?_
  rintro _ G1 H1 e1 A1 ⟨v6, _, rfl, r6, v7, _, rfl, r7, rfl⟩
  refine ⟨v6, _, rfl, v7, _, rfl, rfl, ?_⟩
  have hlen : ∀ {σ : L2.St} {Gx : Hp}, σ[7]? = some (some v7) → Ex G1 Gx → TrD K (tCB (Sb.rLen K) (tCons (tVar 7) tNil)) σ Gx (.int (L.length : Int)) := fun h e => TrD.to (d_cb (a_cons (d_var h (r7.up e)) a_nil) rc_lenL) (by rw [List.length_map])
  have args : ∀ {σ : L2.St} {Gx : Hp} {evs : List (Str × List Nat)} {te : TE} {ts : TA} {dl : List PyData}, σ[1]? = some (some v1) → σ[2]? = some (some v2) → σ[6]? = some (some v6) → σ[5]? = some (some v5) → Ex G1 Gx → TrD K te σ Gx (dEv evs) → TrA K ts σ Gx dl → TrA K (tCons (tVar 1) (tCons (tVar 2) (tCons (tVar 6) (tCons te (tCons (tVar 5) ts))))) σ Gx (c.d :: .str x :: dN ws.length :: dEv evs :: dF fp fq :: dl) := fun h1 h2 h6 h5 e he hs => a_cons (d_var h1 (r1.up (e1.trans e))) (a_cons (d_var h2 (r2.up (e1.trans e))) (a_cons (d_var h6 (r6.up e)) (a_cons he (a_cons (d_var h5 (r5.up (e1.trans e))) hs))))
  refine q_guardF (TrB.to (b_T (d_op (d_call0 (args rfl rfl rfl rfl (Ex.refl _) (d_var rfl (r4.up e1)) a_nil) (⟨c, x, ws.length, ev, fp, fq, rfl, ok, rfl⟩ : R_count _ (dN (allW c ws.length fp fq ev).length))) (hlen rfl (Ex.refl _)) rd_neI)) (by rw [hLdef, decide_eq_true rfl]; rfl)) A1 fun G2 H2 e2 A2 => ?_
  have hne : ∀ {σ : L2.St} {Gx : Hp}, σ[7]? = some (some v7) → Ex G1 Gx → TrB (tTest (tOp (rNeR K) (tVar 7) (tLst tNil))) σ Gx (!L.isEmpty) := fun h e => TrB.to (b_T (d_op (d_var h (r7.up e)) (d_lst a_nil) (rd_neR (shaped_T L) rfl))) (by rw [eqv_nil]; cases L <;> rfl)
  have heq : ∀ {σ : L2.St} {Gx : Hp}, σ[7]? = some (some v7) → Ex G1 Gx → TrD K (tOp (rEqR K) (tVar 7) (tLst tNil)) σ Gx (.bool L.isEmpty) := fun h e => TrD.to (d_op (d_var h (r7.up e)) (d_lst a_nil) (rd_eqR (shaped_T L) rfl)) (by rw [eqv_nil]; cases L <;> rfl)
  refine q_setE (K := K) (M0 := M) (n := n) (n' := n + 1) (Φ := fun d => ∃ ns : List Int, d = .list (dInts ns) ∧ ns.length < 100000 ∧ ∀ k ∈ ns, 0 ≤ k ∧ k < L.length) (e_if (b := !L.isEmpty) (hne rfl e2) (fun hb => ?_) fun hb => (e_D (d_lst a_nil) ⟨[], rfl, by decide, fun _ h => by cases h⟩).le (by omega)) A2 .refl hRL fun d v8 G3 M3 H3 e3 A3 S3 R3 hd r8 => ?_
  · have hpos : 0 < L.length := by
      cases L with
      | nil => cases hb
      | cons _ _ => exact Nat.succ_pos _
    refine e_sortSet (TrE.imp (e_lst (Φ := fun d => ∃ i : Int, d = .list (dInts [0, (L.length : Int) - 1, i]) ∧ 0 ≤ i ∧ i < L.length) (Ψ := fun ds => ∃ i : Int, ds = dInts [0, (L.length : Int) - 1, i] ∧ 0 ≤ i ∧ i < L.length) (ea_cons (Φ := fun d => d = .int 0) (e_D d_int rfl) fun d hd => ea_cons (Φ := fun d => d = .int ((L.length : Int) - 1)) (e_D (d_op (hlen rfl e2) d_int rd_sub) rfl) fun d2 hd2 => ea_cons (Φ := RI 0 (L.length - 1)) (spin_call rfl (e_D (hlen rfl e2) ⟨_, rfl, by omega, by omega, fun _ h => h⟩) (by omega)) fun d3 hd3 => ea_nil ?_) fun ds h => ?_) fun d hd => ?_) ord_ex
    · obtain ⟨i, rfl, h0, h1⟩ := hd3
      subst hd hd2
      exact ⟨i, rfl, h0, by omega⟩
    · obtain ⟨i, rfl, h0, h1⟩ := h
      exact ⟨Nat.le_of_ble_eq_true rfl, i, rfl, h0, h1⟩
    · obtain ⟨i, rfl, h0, h1⟩ := hd
      refine ⟨_, rfl, ⟨by show 3 < 100; decide, .inl (by show 3 < 64; decide)⟩, fun ms hp hm => ⟨ms, rfl, ?_, fun k hk => ?_⟩⟩
      · have := nodup_le (l := ms) (m := [0, (L.length : Int) - 1, i]) (hp.imp fun h => Int.ne_of_lt h) fun k hk => (hm k).mp hk
        have z : [0, (L.length : Int) - 1, i].length = 3 := rfl
        omega
      · have := (hm k).mp hk
        simp only [List.mem_cons, List.not_mem_nil, or_false] at this
        rcases this with rfl | rfl | rfl <;> omega
  obtain ⟨spots, rfl, hsl, hspots⟩ := hd
  refine s_seq (s_forLI (fun k σ G' M' => ∃ a9, σ = [some (V.ref r), some v1, some v2, some v3, some v4, some v5, some v6, some v7, some v8, a9, none, none, none, none, none, none] ∧ M' = M3) (d_var rfl r8) A3 (fun e h => h) ⟨none, rfl, rfl⟩ (fun k d hd y σ4 G4 M4 H4 e4 A4 hI ry Nx hN => ?_) fun σ4 G4 M4 H4 e4 A4 hI => ?_)
  · obtain ⟨a9, rfl, rfl⟩ := hI
    obtain ⟨z, hz, rfl⟩ := mem_ints (List.mem_of_getElem? hd)
    obtain ⟨z0, z1⟩ := hspots z hz
    obtain ⟨zN, rfl⟩ := Int.eq_ofNat_of_zero_le z0
    have hzl : zN < L.length := by omega
    have e24 := (e2.trans e3).trans e4
    refine s_ifF (TrB.to (b_T (d_op (d_call0 (args rfl rfl rfl rfl e24 (d_var rfl (r4.up (e1.trans e24))) (a_cons (d_var (d := dN zN) rfl ry) a_nil)) (⟨c, x, ws.length, ev, fp, fq, zN, L[zN], rfl, ok, by rw [hLdef, List.getElem?_eq_getElem hzl], rfl⟩ : R_nth _ (dT L[zN]))) (d_op (d_var rfl (r7.up e24)) (d_var (d := dN zN) rfl ry) (rd_ixL (d := dT L[zN]) ?_)) (rd_neR ?_ ?_))) ?_) A4 fun G5 H5 e5 A5 => s_next (hN _ G5 _ H5 e5 A5 ⟨_, rfl, rfl⟩)
    · show L2.atI _ (zN : Int) = _
      rw [at_dat (by rw [List.length_map]; exact hzl), List.getElem_map]
    · exact shaped_tup _
    · exact shaped_tup _
    · rw [eqv_dT]; rfl
  obtain ⟨a9, rfl, rfl⟩ := hI
  have e14 := (e2.trans e3).trans e4
  refine q_set (K := K) (d := dN (allW c ws.length fp fq (ev.take 1)).length) (d_call0 (args rfl rfl rfl rfl e14 (TrD.to (d_slL (d_var rfl (r4.up (e1.trans e14))) o_none (o_some (K := K) d_int)) (by
    have z := cut_to (ds := ev.map dItem) (k := 1) (by rw [List.length_map]; exact hev1)
    show PyData.list (Sb.cutD (ev.map dItem) none (some 1)) = dEv (ev.take 1)
    unfold dEv
    rw [List.map_take]
    exact congrArg PyData.list z)) a_nil) ⟨c, x, ws.length, ev.take 1, fp, fq, rfl, ok.less, rfl⟩) A4 fun v10 G5 H5 e5 A5 r10 => ?_
  have e15 := e14.trans e5
  refine q_guardF (TrB.to (b_or (b_T (d_op (d_var rfl r10) (hlen rfl e15) rd_lt)) fun _ => b_and (b_T (d_op (d_var rfl r10) d_int rd_lt)) fun _ => hne rfl e15) ?_) A5 fun G6 H6 e6 A6 => ?_
  · rw [decide_eq_false (by omega), Bool.false_or]
    cases hLe : L with
    | nil => rw [List.isEmpty_nil, Bool.not_true, Bool.and_false]
    | cons a b =>
      rw [hLe, List.length_cons] at hfew
      rw [decide_eq_false (by omega), Bool.false_and]
  refine q_set (K := K) (d := sureD L ws.length) (d_call0 (args rfl rfl rfl rfl (e15.trans e6) (d_var rfl (r4.up (e1.trans (e15.trans e6)))) a_nil) ⟨c, x, ws.length, ev, fp, fq, rfl, ok, by rw [hLdef]⟩) A6 fun v11 G7 H7 e7 A7 r11 => ?_
  have e17 := (e15.trans e6).trans e7
  have fin : ∀ v G' H', Ex G7 G' → At G' M4 H' → Rp K G' (.bool true) v → Q v H' := fun v G' H' e A r => q _ v G' M4 H' ((e1.trans e17).trans e) A S3 R3 rfl r
  cases hLe : L with
  | nil =>
    subst hLe
    refine q_guardR (b_orT (TrB.to (b_T (heq rfl e17)) rfl)) A7 fun G8 H8 e8 A8 => ?_
    refine s_ret (d := .bool true) (TrD.to (v_and (heq rfl (e17.trans e8)) fun _ => d_op (d_var rfl (r11.up e8)) d_non rd_isN) (by rfl)) A8 fun v G' H' e' A' r' => fin v G' H' (e8.trans e') A' r'
  | cons l0 L' =>
    have hcol : ∀ j, j < ws.length → ∀ row ∈ L, row.length = ws.length ∧ row.getD j 0 ∈ wL := fun j hj => by rw [← hLdef]; exact col_w ok hj
    refine q_guardF (TrB.to (b_or (b_T (heq rfl e17)) fun _ => b_T (d_op (d_var rfl r11) d_non rd_isN)) ?_) A7 fun G8 H8 e8 A8 => ?_
    · rw [hLe]; rfl
    refine q_set (K := K) (d := .list ((List.range ws.length).map fun j => .list (dNs (colS L j)))) (d_lcR (d_var rfl (r6.up (e17.trans e8))) (by omega) fun j hj G9 e9 => ?_) A8 fun v12 G9 H9 e9 A9 r12 => ?_
    · refine TrD.to (d_sortSet (ns := L.map fun row => (row.getD j 0 : Int)) (ms := intsN (colS L j)) (TrD.to (d_lcL (p := fun _ => true) (f := fun d => match d with | .tuple ds => ds.getD j .none | _ => .none) (d_var rfl (r7.up ((e17.trans e8).trans e9))) (by rw [List.length_map]; omega) (fun d hd y G10 e10 ry => b_yes) fun d hd _ y G10 e10 ry => ?_) ?_) ⟨by rw [List.length_map]; omega, .inr ⟨[1, 2, 3, 4], fun k hk => ?_, by decide⟩⟩ (colS_ord L j) fun k => ?_) ?_
      · obtain ⟨row, hrow, rfl⟩ := List.mem_map.mp hd
        have hrl := (hcol j hj row hrow).1
        refine d_op (d_var rfl ry) (d_var (d := .int (j : Int)) rfl rfl) (rd_ixT ?_)
        have hjr : j < row.length := by omega
        rw [dNs_at hjr]
        show some _ = some ((dNs row).getD j .none)
        rw [List.getD_eq_getElem?_getD]
        unfold dNs
        rw [List.getElem?_map, List.getElem?_eq_getElem hjr]
        rfl
      · rw [filt_true]
        unfold dInts
        rw [List.map_map, List.map_map]
        refine congrArg PyData.list (List.map_congr_left fun row hrow => ?_)
        have hrl := (hcol j hj row hrow).1
        have hjr : j < row.length := by omega
        show (dNs row).getD j .none = PyData.int (row.getD j 0 : Int)
        rw [List.getD_eq_getElem?_getD, List.getD_eq_getElem?_getD]
        unfold dNs
        rw [List.getElem?_map, List.getElem?_eq_getElem hjr]
        rfl
      · obtain ⟨row, hrow, rfl⟩ := List.mem_map.mp hk
        have := (hcol j hj row hrow).2
        unfold wL at this
        simp only [List.mem_cons, List.not_mem_nil, or_false] at this ⊢
        omega
      · rw [List.mem_map]
        unfold intsN
        rw [List.mem_map]
        constructor
        · rintro ⟨a, ha, rfl⟩
          obtain ⟨row, hrow, e⟩ := (colS_in fun row hr => (hcol j hj row hr).2).mp ha
          exact ⟨row, hrow, by rw [e]; rfl⟩
        · rintro ⟨row, hrow, rfl⟩
          exact ⟨row.getD j 0, (colS_in fun row hr => (hcol j hj row hr).2).mpr ⟨row, hrow, rfl⟩, rfl⟩
      · show PyData.list (dInts (intsN (colS L j))) = PyData.list (dNs (colS L j))
        rw [dNs_ints]
        rfl
    have hfl : ((List.range ws.length).map fun j => if sameJ (l0 :: L') j = true then dN ((l0 :: L').getD 0 [] |>.getD j 0) else PyData.none).all flatE = true := List.all_eq_true.mpr fun d hd => by
      obtain ⟨j, _, rfl⟩ := List.mem_map.mp hd
      split <;> rfl
    have hsure : sureD L ws.length = .tuple ((List.range ws.length).map fun j => if sameJ (l0 :: L') j = true then dN ((l0 :: L').getD 0 [] |>.getD j 0) else PyData.none) := by
      rw [hLe]
      unfold sureD
      rw [if_neg (by simp)]
    rw [hsure] at r11
    refine s_ret (d := .bool true) (TrD.to (d_op (d_var rfl (r11.up (e8.trans e9))) (d_cb (a_cons (TrD.to (d2 := .list ((List.range ws.length).map fun j => if sameJ (l0 :: L') j = true then dN ((l0 :: L').getD 0 [] |>.getD j 0) else PyData.none)) (d_lcL (p := fun _ => true) (f := oneD) (d_var rfl r12) (by rw [List.length_map, List.length_range]; omega) (fun d hd y G10 e10 ry => b_yes) fun d hd _ y G10 e10 ry => ?_) ?_) a_nil) rc_tupL) (rd_eqR (flatE_tup hfl).2 (flatE_tup hfl).2)) (by rw [(flatE_tup hfl).1])) A9 fun v G' H' e' A' r' => fin v G' H' ((e8.trans e9).trans e') A' r'
    · obtain ⟨j, _, rfl⟩ := List.mem_map.mp hd
      refine d_if (b := decide ((colS L j).length = 1)) (TrB.to (b_T (d_op (d_cb (a_cons (d_var rfl ry) a_nil) rc_lenL) d_int rd_eqI)) ?_) (fun hb => ?_) fun hb => ?_
      · rw [dNs_len, decide_eq_decide]
        constructor <;> intro h <;> omega
      · have h1 := of_decide_eq_true hb
        revert ry
        generalize colS L j = cs at h1
        match cs, h1 with
        | [z], _ => intro ry; exact d_op (d_var rfl ry) d_int (rd_ixL rfl)
      · have h1 := of_decide_eq_false hb
        revert h1
        generalize colS L j = cs
        intro h1
        match cs, h1 with
        | [], _ => exact d_non
        | _ :: _ :: _, _ => exact d_non
        | [z], h1 => exact absurd rfl h1
    · rw [filt_true, List.map_map]
      refine congrArg PyData.list (List.map_congr_left fun j hj => ?_)
      have := col_same (L := L') (l0 := l0) (j := j) (by rw [← hLe]; exact fun row hr => (hcol j (List.mem_range.mp hj) row hr).2)
      rw [← hLe] at this ⊢
      show oneD (.list (dNs (colS L j))) = _
      rw [this, hLe]
      rfl
end
end K96

namespace Sb
open PySem PySem.Spec PyProof.Rows L2
section
variable {K : PySem.W.Frag} {σ : L2.St} {G G' M M0 M1 H : Hp} {ta tb te tc : TE} {d d1 d2 d3 : PyData} {ts : TA} {ds : List PyData} {Q : VK} {D : Ends} {s1 s2 tbd : TS} {g : TG} {i j l n m n' : Nat} {r p : Addr} {o : HO} {Φ Φ1 : PyData → Prop} {Ψ : List PyData → Prop} {Φ0 : Int → Prop}
/-- an object that nobody looks at any more -/
theorem At.skip (A : At G M H) (h : H p = none) : At G M (upd H p o) :=
  ⟨fun a o' z => (A.ng h).g a o' (Ex.new (A.gNone h) a o' z), fun a o' z => (A.nm h).m a o' (Ex.new (A.mNone h) a o' z), A.d⟩
/-- for over a range whose end is drawn -/
theorem s_forRE (h : TrE K r M0 te σ G n n' fun d => ∃ z : Int, d = .int z ∧ Φ0 z) (A : At G M H) (S : Same r M0 M) (R : RL r n M)
    (k : ∀ z v G' M' H', Ex G G' → At G' M' H' → Same r M0 M' → RL r n' M' → Φ0 z → Rp K G' (.int z) v → tFor (iRng1 (tCons (fun _ H Q => Q v H) tNil)) g tbd D σ H') : tFor (iRng1 (tCons te tNil)) g tbd D σ H := by
  refine h G M H (Ex.refl G) A S R _ fun d v G' M' H' e A' S' R' hd rv => ?_
  obtain ⟨z, rfl, hz⟩ := hd
  exact k z v G' M' H' e A' S' R' hz rv
theorem joinE0 (x : List Nat) (L : List (List Nat)) : TL.joinL [] (x :: L) = x ++ TL.joinL [] L := by
  cases L with
  | nil => exact (List.append_nil x).symm
  | cons y r => rfl
theorem one_signE {x : Str} (h : x.length = 1) : ∃ c, x = ⟨#[c]⟩ := by
  obtain ⟨⟨l⟩⟩ := x
  match l, h with
  | [c], _ => exact ⟨c, rfl⟩
theorem chrs_joinE : ∀ {ys : List Str}, (∀ x ∈ ys, x.length = 1) → chrs (Txt.join "" ys) = ys := by
  intro ys h
  have e : TL.tl (Txt.join "" ys) = TL.joinL [] (ys.map TL.tl) := by rw [TL.join_eq, TL.tl_join]; rfl
  have e2 : chrs (Txt.join "" ys) = (TL.tl (Txt.join "" ys)).map fun c => ⟨#[c]⟩ := rfl
  rw [e2, e]
  clear e e2
  induction ys with
  | nil => rfl
  | cons y ys ih =>
    obtain ⟨c, rfl⟩ := one_signE (h y (List.mem_cons_self ..))
    rw [List.map_cons, joinE0, List.map_append, ih fun x hx => h x (List.mem_cons_of_mem _ hx)]
    rfl
/-- drawn texts -/
theorem strs_of {P : Str → Prop} : ∀ {ds : List PyData}, (∀ d ∈ ds, ∃ x, d = .str x ∧ P x) → ∃ ys : List Str, ds = dStrs ys ∧ ∀ x ∈ ys, P x
  | [], _ => ⟨[], rfl, fun _ h => by cases h⟩
  | d :: ds, h => by
    obtain ⟨ys, e, hy⟩ := strs_of fun x hx => h x (List.mem_cons_of_mem _ hx)
    obtain ⟨x, rfl, hx⟩ := h d (List.mem_cons_self ..)
    refine ⟨x :: ys, by rw [e]; rfl, fun z hz => ?_⟩
    rcases List.mem_cons.mp hz with rfl | hz
    · exact hx
    · exact hy z hz
theorem chrs_app (a b : Str) : chrs (a ++ b) = chrs a ++ chrs b := by
  unfold chrs
  show ((a.cps ++ b.cps).toList.map _) = _
  rw [Array.toList_append, List.map_append]
end
end Sb

namespace K96
open PySem PySem.Spec PyProof.Rows L2 Sb
local macro_rules | `(tactic| walk_at "ex") => `(tactic| first | exact Ex.refl _ | assumption | (refine' Ex.trans ?_ (by assumption); walk_at "ex"))
local macro_rules | `(tactic| walk_at "rp") => `(tactic| first | assumption | (refine' Rp.up ?e (by assumption); (case e => walk_at "ex")) | exact rfl)
local macro_rules | `(tactic| walk_at "rd") => `(tactic| with_reducible first | exact rd_add | exact rd_sub | exact rd_lt | exact rd_le | exact rd_gt | exact rd_ge | exact rd_eqI | exact rd_neI | exact rd_eqS | exact rd_neS | exact rd_isN | exact rd_ltS | exact rd_inSign | exact rd_eqE)
local macro_rules | `(tactic| walk_at "tr") => `(tactic| first
  | with_reducible exact d_int
  | with_reducible exact d_str
  | with_reducible exact d_bl
  | with_reducible exact d_non
  | with_reducible exact a_nil
  | with_reducible exact b_yes
  | with_reducible exact o_none
  | with_reducible exact d_newD
  | ((with_reducible refine' d_var ?i ?r); (case i => rfl); (case r => walk_at "rp"))
  | ((with_reducible refine' a_cons ?a ?b); (case a => walk_at "tr"); (case b => walk_at "tr"))
  | ((with_reducible refine' a_star ?a ?b); (case a => walk_at "tr"); (case b => walk_at "tr"))
  | ((with_reducible refine' d_isi ?a ?b); (case a => walk_at "tr"); (case b => decide))
  | ((with_reducible refine' d_op ?a ?b ?c); (case a => walk_at "tr"); (case b => walk_at "tr"); (case c => walk_at "rd"))
  | ((with_reducible refine' d_tup ?a ?b); (case a => walk_at "tr"); (case b => first | decide | (simp; done)))
  | ((with_reducible refine' d_lst ?a ?b); (case a => walk_at "tr"); (case b => first | decide | (simp; done)))
  | ((with_reducible refine' o_some ?a); (case a => walk_at "tr"))
  | ((with_reducible refine' b_B ?a); (case a => walk_at "tr"))
  | ((with_reducible refine' b_T ?a); (case a => walk_at "tr"))
  | ((with_reducible refine' b_not ?a); (case a => walk_at "tr"))
  | ((with_reducible refine' v_not ?a); (case a => walk_at "tr"))
  | ((with_reducible refine' b_or ?a ?b); (case a => walk_at "tr"); (case b => intro _; walk_at "tr"))
  | ((with_reducible refine' b_and ?a ?b); (case a => walk_at "tr"); (case b => intro _; walk_at "tr"))
  | ((with_reducible refine' v_or ?a ?b); (case a => walk_at "tr"); (case b => intro _; walk_at "tr"))
  | ((with_reducible refine' v_and ?a ?b); (case a => walk_at "tr"); (case b => intro _; walk_at "tr"))
  | assumption)


theorem keysD_pairs (cs : List (Str × List Int)) (x : Str) (ws : List Int) : (keysD (chD cs)).map Sb.pairD ++ [PyData.tuple [.str x, .tuple (dInts ws)]] = (keysD (chD (plusCs cs x ws))).map Sb.pairD := by
  unfold plusCs chD keysD
  rw [List.map_append, List.map_append, List.map_append]
  rfl
theorem wide_d (c : CodeD) (x : Str) (ws : List Int) : (codeP c x ws).d = .tuple [tD c.st, .dict (keysD (chD (plusCs c.cs x ws))), tD c.bt, tD c.sp] := rfl
/-- the names, and the further one twice -/
def isNm (c : CodeD) (x : Str) : Prop := x = "m" ∨ x ∈ c.cs.map (·.1)
theorem m_len : ("m" : Str).length = 1 := by decide
theorem text_m {c : CodeD} {ys : List Str} {t : Str} (h : ∀ x ∈ ys, isNm c x) (h1 : ∀ x ∈ ys, x.length = 1) (hl : ys.length ≤ 3) (e : t = "m" ++ Txt.join "" ys) : textW c "m" t = true ∧ t.cps.size ≤ 40 ∧ 1 ≤ t.cps.size := by
  have hc : chrs t = ("m" : Str) :: ys := by
    rw [e, chrs_app, chrs_joinE h1]
    rfl
  have hz : t.cps.size = ys.length + 1 := by
    rw [← chrs_len, hc]
    rfl
  refine ⟨?_, by omega, by omega⟩
  unfold textW
  rw [hc]
  refine List.all_eq_true.mpr fun y hy => ?_
  rw [Bool.or_eq_true]
  rcases List.mem_cons.mp hy with rfl | hy
  · exact .inl (decide_eq_true rfl)
  · exact (h y hy).imp decide_eq_true decide_eq_true
theorem text_P {c : CodeD} {x t : Str} {ws : List Int} (h : textW c x t = true) : isTextD (codeP c x ws) (.str t) = true := List.all_eq_true.mpr fun y hy => by
  have := List.all_eq_true.mp h y hy
  rw [Bool.or_eq_true] at this
  refine decide_eq_true ?_
  show y ∈ (plusCs c.cs x ws).map (·.1)
  unfold plusCs
  rw [List.map_append]
  rcases this with z | z
  · exact List.mem_append.mpr (.inr (by rw [of_decide_eq_true z]; exact List.mem_singleton.mpr rfl))
  · exact List.mem_append.mpr (.inl (of_decide_eq_true z))
section
variable {P : Program} {w : World} {K : PySem.W.Frag} {mg : Str → Option Value} {base : Heap}
def S_law (K : PySem.W.Frag) : Sp := fun vs H Q _ => ∃ (a : Addr) (ns : List Int), vs = [.ref a] ∧ SqL K H a (ns.map V.int) ∧ ns.length ≤ 1000 ∧ ∀ H', Q (.bl true) H'
theorem G_law {f : Addr} {fd : FuncData} (T : Tx K mg) (F : FunD K "law" "law" (defArgs s_law) (defBody s_law) (defScope s_law) (d_law.dvs K) (d_law.kws K) f fd) : FnG P w K mg base CX0 10 f fd ["script"] (S_law K) := by
  refine fnG_of F sc_law (fun vs H Q E h => by obtain ⟨_, _, rfl, _⟩ := h; rfl) (fun cdv A outer s H vs Q E hg hr h => ?_)
  obtain ⟨a, ns, rfl, hS, hl, q⟩ := h
  refine ⟨_, PSs.nox (pss_cons (ps_for PassesOwn.never rfl (pi_range1 (by rfl) T.n_range (pa_cons (pe_callB (call_max2' rfl) (by rfl) T.n_max (by decide +kernel) (pa_cons pe_int (pa_cons (pe_callB (call_min2' rfl) (by rfl) T.n_min (by decide +kernel) (pa_cons pe_int (pa_cons (pe_callB call_len' (by rfl) T.n_len (by decide +kernel) (pa_cons (pv 0) pa_nil)) pa_nil))) pa_nil))) pa_nil)) (pg_name (i := 1) sc_law.nd rfl (by first | exact Or.inl rfl | exact Or.inr rfl)) (pss_cons (ps_set (i := 2) sc_law.nd rfl (by first | exact Or.inl rfl | exact Or.inr rfl) (pe_fd (F__law_fount (P := P) (w := w) (base := base) T) hg (hr.mono (by decide)) pass0 (pa_cons (pv 0) (pa_cons (pv 1) pa_nil)))) (pss_cons (ps_par (i := 3) (j := 4) (by rfl) sc_law.nd rfl rfl (by decide) rfl rfl (pa_cons (pe_fd (F__law_code (P := P) (w := w) (base := base) T) hg (hr.mono (by decide)) pass0 (pa_cons (pv 2) (pa_cons (pe_op op_add pe_int (pe_fd (F__law_dip (P := P) (w := w) (base := base) T) hg (hr.mono (by decide)) pass0 (pa_cons (pv 2) (pa_cons pe_int pa_nil)))) (pa_cons pe_int pa_nil)))) (pa_cons (pe_fd (F__law_widths (P := P) (w := w) (base := base) T) hg (hr.mono (by decide)) pass0 (pa_cons (pv 2) (pa_cons pe_int (pa_cons (pe_op op_sub pe_int (pv 1)) pa_nil)))) pa_nil)) (by rfl)) (pss_cons (ps_set (i := 5) sc_law.nd rfl (by first | exact Or.inl rfl | exact Or.inr rfl) (pe_fd (F__law_factor (P := P) (w := w) (base := base) T) hg (hr.mono (by decide)) pass0 (pa_cons (pv 2) pa_nil))) (pss_cons (ps_asg (pe_tup (pa_cons (pe_lst pa_nil) (pa_cons (pe_op op_cat (pe_callB (call_sortedD' rfl) (by rfl) T.n_sorted (by decide +kernel) (pa_cons (pe_ix ix_tup (pv 3) pe_int (fun _ _ => rfl)) pa_nil)) (pe_lst (pa_cons pe_str (pa_cons pe_str pa_nil)))) pa_nil))) (pg_tup (by rfl) (pgs_cons (pg_name (i := 6) sc_law.nd rfl (by first | exact Or.inl rfl | exact Or.inr rfl)) (pgs_cons (pg_name (i := 7) sc_law.nd rfl (by first | exact Or.inl rfl | exact Or.inr rfl)) pgs_nil)))) (pss_cons (ps_set (i := 8) sc_law.nd rfl (by first | exact Or.inl rfl | exact Or.inr rfl) (pe_tup (pa_cons (pe_ix ix_tup (pv 3) pe_int (fun _ _ => rfl)) (pa_cons (pe_callTy (call_dictP rfl) (by rfl) T.n_dict (by decide +kernel) (pa_cons (pe_op op_cat (LiI.pe_listItems rfl (pe_ix ix_tup (pv 3) pe_int (fun _ _ => rfl)) (by rfl) T.n_list (by decide +kernel)) (pe_lst (pa_cons (pe_tup (pa_cons pe_str (pa_cons (pv 4) pa_nil))) pa_nil))) pa_nil)) (pa_cons (pe_ix ix_tup (pv 3) pe_int (fun _ _ => rfl)) (pa_cons (pe_ix ix_tup (pv 3) pe_int (fun _ _ => rfl)) pa_nil)))))) (pss_cons (ps_for PassesOwn.never rfl (pi_range1 (by rfl) T.n_range (pa_cons (pe_op op_add pe_int (pe_fd (F__law_dip (P := P) (w := w) (base := base) T) hg (hr.mono (by decide)) pass0 (pa_cons (pv 2) (pa_cons pe_int pa_nil)))) pa_nil)) (pg_name (i := 9) sc_law.nd rfl (by first | exact Or.inl rfl | exact Or.inr rfl)) (pss_cons (ps_set (i := 10) sc_law.nd rfl (by first | exact Or.inl rfl | exact Or.inr rfl) (pe_fd (F__law_dip (P := P) (w := w) (base := base) T) hg (hr.mono (by decide)) pass0 (pa_cons (pv 2) (pa_cons pe_int pa_nil)))) (pss_cons (ps_set (i := 11) sc_law.nd rfl (by first | exact Or.inl rfl | exact Or.inr rfl) (pe_op op_add_str pe_str (pe_join pe_str (pe_lc (own := [("part", 12)]) (g := gName 12) (by rfl) sc_law.nd (pi_range1 (by rfl) T.n_range (pa_cons (pv 10) pa_nil)) (blkOk_by (own := [("part", 12)]) (N := ["script", "k", "fount", "code", "widths", "factor", "evidence", "names_here", "wide", "lap", "size", "text", "part"]) (sc := defScope s_law) (by decide +kernel)) (fun _ _ _ _ _ => (pg_name (i := 12) sc_law.nd rfl (by first | exact Or.inl rfl | exact Or.inr rfl))) (fun _ _ _ _ _ => pts_nil) (fun _ _ _ _ _ => (pe_ix (show IxR _ (rIxL K) from ix_list) (pv 7) (pe_fd (F__law_dip (P := P) (w := w) (base := base) T) hg (hr.mono (by decide)) pass0 (pa_cons (pv 2) (pa_cons (pe_callB (show CallR _ _ (Sb.rLen K) from call_len') (by rfl) T.n_len (by decide +kernel) (pa_cons (pv 7) pa_nil)) pa_nil))) (fun _ _ => rfl))))))) (pss_one (ps_expr (pe_bm PySem.F.plainAttrs_list PySem.F.slot_list_append PySem.F.type_list_append mt_append (pv 6) (pa_cons (pe_tup (pa_cons (pv 11) (pa_cons (pe_fd (F__law_scan (P := P) (w := w) (base := base) T) hg (hr.mono (by decide)) pass0 (pa_cons (pv 2) (pa_cons (pe_fd (F__law_row (P := P) (w := w) (base := base) T) hg (hr.mono (by decide)) pass0 (pa_cons (pv 8) (pa_cons (pv 11) pa_nil))) (pa_cons (pv 5) pa_nil)))) pa_nil))) pa_nil))))))) (pss_one (ps_if (pt_not (pt_val (pe_fd (F__law_right (P := P) (w := w) (base := base) T) hg (hr.mono (by decide)) pass0 (pa_cons (pv 2) (pa_cons (pv 3) (pa_cons pe_str (pa_cons (pv 4) (pa_cons (pv 6) (pa_cons (pv 5) pa_nil))))))))) (pss_one (ps_ret pe_bl)) pss_nil)))))))))
    (pss_one (ps_ret pe_bl))), ?_⟩
  rw [show L2.start ["script", "k", "fount", "code", "widths", "factor", "evidence", "names_here", "wide", "lap", "size", "text", "part"] [(.ref a)] = [some (.ref a), none, none, none, none, none, none, none, none, none, none, none, none] from rfl]
  try dsimp only [xK]
  have hA : At H (fun _ => none) H := ⟨Ex.refl _, fun _ _ z => (by cases z), fun _ _ z => (by cases z)⟩
  have hlen : TrD K (tCB (Sb.rLen K) (tCons (tVar 0) tNil)) [some (.ref a), none, none, none, none, none, none, none, none, none, none, none, none] H (.int ((ns.map V.int).length : Nat)) := d_lenQ rfl hS
  rw [List.length_map] at hlen
  refine s_seq (s_forRI (fun k σ G M => ∃ x1 x2 x3 x4 x5 x6 x7 x8 x9 x10 x11 : Option V, σ = [some (.ref a), x1, x2, x3, x4, x5, x6, x7, x8, x9, x10, x11, none]) (d_cb (a_cons d_int (a_cons (d_cb (a_cons d_int (a_cons hlen a_nil)) rc_min2) a_nil)) rc_max2) (by split <;> (try split) <;> omega) (by split <;> (try split) <;> omega) hA (fun e h => h) ⟨none, none, none, none, none, none, none, none, none, none, none, rfl⟩ (fun k hk σ1 G1 M1 H1 e1 A1 hI Nx hN => ?_) fun σ1 G1 M1 H1 e1 A1 hI => ?_)
  · obtain ⟨x1, x2, x3, x4, x5, x6, x7, x8, x9, x10, x11, rfl⟩ := hI
    have hk2 : k < 2 := by
      have z : (k : Int) < 2 := by
        refine Int.lt_of_lt_of_le hk ?_
        split <;> (try split) <;> omega
      omega
    refine s_seq ⟨_, rfl, _, rfl, G1, M1, a, ns, k, rfl, A1, e1.sl hS, hl, by omega, fun p x b G2 H2 hM hG e2 A2 b0 b1 => ?_⟩
    have R0 : RL p 0 (upd M1 p (.lst [.int x, .int b, .int 0])) := ⟨x, b, 0, upd_same, b0, b1, Nat.le_refl _⟩
    -- code, widths
    dsimp only [gName, List.set]
    refine q_parE (K := K) (n' := 420) (Ψ := fun ds => ∃ (c : CodeD) (many : Nat) (ws : List Int), ds = [c.d, tD ws] ∧ c.ok ∧ okChs many 3 c.cs ∧ many ≤ 3 ∧ okW 1 3 ws) (ea_cons (m := 401) (Φ := fun d => ∃ (c : CodeD) (many : Nat), d = c.d ∧ c.ok ∧ okChs many 3 c.cs ∧ many ≤ 3) (fun G3 M3 H3 e3 A3 S3 R3 Q3 q3 => ?_) fun d hd => ea_cons (m := 420) (Φ := IsW 1 (3 - k)) ?_ fun d2 hd2 => ea_nil ?_) ?_ A2 .refl R0 fun ds v3 v4 G3 M3 H3 e3 A3 S3 R3 hds rvs => ?_
    · -- the code, its size drawn
      have hm := e_op (K := K) (r := p) (σ := [some (.ref a), some (.int k), some (.ref p), x3, x4, x5, x6, x7, x8, x9, x10, x11, none]) (G := G2) (M0 := upd M1 p (.lst [.int x, .int b, .int 0])) (n := 0) (m := 0) (n' := 1) (Φ1 := fun d => d = .int 1) (Φ2 := RI 0 2) (Φ := fun d => ∃ z : Nat, d = .int (z : Int) ∧ 1 ≤ z ∧ z ≤ 3) (rr := rI0 fun i j => V.int (i + j)) (ta := tC (V.int 1)) (tb := tCall (ESp K R_spin) [] E0 (tCons (tVar 2) (tCons (tC (V.int 3)) tNil))) (e_D d_int rfl) (fun _ _ => spin_c rfl (by decide) (by decide) (by decide)) (by
        rintro _ _ rfl ⟨i, rfl, h0, h1⟩
        obtain ⟨iN, rfl⟩ := Int.eq_ofNat_of_zero_le h0
        exact ⟨_, rd_add, 1 + iN, rfl, by omega, by omega⟩)
      refine ⟨.ref p, rfl, hm G3 M3 H3 e3 A3 S3 R3 _ fun d v G4 M4 H4 e4 A4 S4 R4 hd rv => ?_⟩
      obtain ⟨z, rfl, z1, z3⟩ := hd
      refine ⟨p, [v, .int 3], G4, M4, 1, 400, [.int z, .int 3], _, rfl, A4, R4, ⟨v, _, rfl, rv, _, _, rfl, rfl, rfl⟩, ⟨z, 3, rfl, z1, by omega, by decide, by decide, rfl, rfl⟩, by decide, fun d v' G' M' H' e' A' S' R' hd' rv' => ?_⟩
      obtain ⟨c, rfl, okc, okcs⟩ := hd'
      exact q3 _ v' G' M' H' (e4.trans e') A' (S4.trans S') (R'.le (show 1 + 400 ≤ 401 by decide)) ⟨c, z, rfl, okc, okcs, z3⟩ rv'
    · refine TrE.le (wid_call (lo := 1) (hi := 3 - k) rfl d_int (TrD.to (d_op d_int (d_var (d := .int (k : Int)) rfl rfl) rd_sub) ?_) (by omega) (by omega) (by omega)) (by omega)
      show PyData.int (3 - (k : Int)) = PyData.int ((3 - k : Nat) : Int)
      congr 1
      omega
    · obtain ⟨c, many, rfl, okc, okcs, hm⟩ := hd
      obtain ⟨ws, rfl, okw⟩ := hd2
      exact ⟨c, many, ws, rfl, okc, okcs, hm, okw.le (Nat.le_refl _) (by omega)⟩
    · rintro _ ⟨_, _, _, rfl, _⟩
      rfl
    obtain ⟨c, many, ws, rfl, okc, okcs, hm3, okw⟩ := hds
    obtain ⟨_, _, rr1, r3, _, _, rr2, r4, _⟩ := rvs
    cases rr1
    cases rr2
    obtain ⟨wn, ewn⟩ : ∃ wn, wn = natsL ws := ⟨_, rfl⟩
    have hwn : intsN wn = ws := by
      rw [ewn]
      unfold intsN natsL
      rw [List.map_map]
      conv => rhs; rw [← List.map_id ws]
      refine List.map_congr_left fun z hz => ?_
      have := okw.2.2 z hz
      show ((z.toNat : Nat) : Int) = z
      omega
    have hdT : tD ws = dT wn := by
      show PyData.tuple (dInts ws) = PyData.tuple (dNs wn)
      rw [ewn, natsL_d fun z hz => (okw.2.2 z hz).1]
    have hwl : wn.length = ws.length := by rw [ewn]; exact List.length_map ..
    have hcl : c.cs.length ≤ 3 := by rw [okcs.l]; exact hm3
    have hnew : ("m" : Str) ∉ c.cs.map (·.1) := fun z => by
      obtain ⟨y, hy, e⟩ := List.mem_map.mp z
      exact (okcs.w y hy).1.2 e
    have onew : okNew c "m" ws := ⟨okc, by omega, by decide +kernel, hnew, okw.1, by have := okw.2.1; omega, okw.2.2⟩
    -- factor
    refine q_setE (n' := 430) (Φ := IsFac) ((e_call (Ψ := fun ds => ds = []) rfl (ea_nil rfl) (fun ds h => ⟨h, rfl, rfl⟩) (by decide)).le (by decide)) A3 S3 R3 fun d v5 G4 M4 H4 e4 A4 S4 R4 hd r5 => ?_
    obtain ⟨fp, fq, rfl, hf, hf16⟩ := hd
    -- evidence, names_here
    refine ⟨Nat.zero_le _, fun pe hpe => ?_⟩
    have Mpe := A4.mNone hpe
    have A5 := A4.nm (o := .lst []) hpe
    have ne : pe ≠ p := R4.ne Mpe
    have hsl : (nmsT c).length = c.cs.length := nmsT_len c
    refine w_D (K := K) (d := .list (dStrs (nmsT c ++ [("m" : Str), "m"]))) (TrD.to (d_op (TrD.to (d2 := .list (dStrs (nmsT c))) (d_cb (a_cons (d_op (d_var rfl (r3.up e4)) d_int (rd_ixT rfl)) a_nil) (rc_sortD (kvs := chD c.cs) (by show (chD c.cs).length < 64; unfold chD; rw [List.length_map]; omega))) (by rw [chD_keys]; rfl)) (d_lst (a_cons d_str (a_cons d_str a_nil)) (by show 2 ≤ 100000; decide)) (rd_cat (by rw [dS_len]; show _ + 2 ≤ 100000; omega))) (by unfold dStrs; rw [List.map_append]; rfl)) A5 fun v7 G5 H5 e5 A6 r7 => ?_
    refine ⟨show (2 : Nat) ≤ sizeLine by decide, fun pt hpt => ?_⟩
    have A7 := A6.skip (o := .tup [.ref pe, v7]) hpt
    refine ⟨pt, [.ref pe, v7], rfl, SqT.of upd_same, rfl, .ref pe, [v7], rfl, v7, [], rfl, rfl, ?_⟩
    have e35 := e4.trans e5
    -- wide
    refine q_set (K := K) (d := (codeP c "m" ws).d) (d_tup (a_cons (d_op (d_var rfl (r3.up e35)) d_int (rd_ixT rfl)) (a_cons (d_cb (a_cons (TrD.to (d_op (d_items (d_op (d_var rfl (r3.up e35)) d_int (rd_ixT rfl))) (d_lst (a_cons (d_tup (a_cons d_str (a_cons (d_var rfl (r4.up e35)) a_nil)) (by show 2 ≤ 100000; decide)) a_nil) (by show 1 ≤ 100000; decide)) (rd_cat ?_)) (congrArg PyData.list (keysD_pairs c.cs "m" ws))) a_nil) (rc_dictP (by rw [chD_keys]; exact onew.plus.nd))) (a_cons (d_op (d_var rfl (r3.up e35)) d_int (rd_ixT rfl)) (a_cons (d_op (d_var rfl (r3.up e35)) d_int (rd_ixT rfl)) a_nil)))) (by show 4 ≤ 100000; decide)) A7 fun v8 G6 H6 e6 A8 r8 => ?_
    · rw [List.length_map, keysD_len]
      show (chD c.cs).length + 1 ≤ 100000
      unfold chD
      rw [List.length_map]
      omega
    have e36 := e35.trans e6
    have nin : ∀ x ∈ nmsT c ++ [("m" : Str), "m"], isNm c x ∧ x.length = 1 := fun x hx => by
      rcases List.mem_append.mp hx with hx | hx
      · have := nmsT_mem hx
        exact ⟨.inr this, name_len (wsOf_of okc this).1⟩
      · have : x = "m" := by simpa using hx
        subst this
        exact ⟨.inl rfl, m_len⟩
    have nl7 : (nmsT c ++ [("m" : Str), "m"]).length = c.cs.length + 2 := by rw [List.length_append, hsl]; rfl
    -- pieces of evidence
    have R5 : RL p 430 (upd M4 pe (.lst [])) := R4.upd ne
    refine s_seq (s_forRE (M0 := upd M4 pe (.lst [])) (n := 430) (n' := 431) (Φ0 := fun z => z = 2 ∨ z = 3) (e_op (Φ1 := fun d => d = .int 2) (Φ2 := RI 0 1) (e_D d_int rfl) (fun _ _ => spin_c rfl (by decide) (by decide) (by decide)) ?_) A8 .refl R5 fun z vz G7 M7 H7 e7 A9 S7 R7 hz rz => ?_)
    · rintro _ _ rfl ⟨i, rfl, h0, h1⟩
      exact ⟨_, rd_add, _, rfl, by omega⟩
    refine s_forRI (fun j σ G' M' => ∃ (ev : List (Str × List Nat)) (xs : List V) (y9 y10 y11 : Option V), σ = [some (.ref a), some (.int k), some (.ref p), some v3, some v4, some v5, some (.ref pe), some v7, some v8, y9, y10, y11, none] ∧ Same p (upd M4 pe (.lst xs)) M' ∧ RL p (431 + j * 1000) M' ∧ RpL K G' (ev.map dItem) xs ∧ ev.length = j ∧ ∀ e ∈ ev, okItem c "m" e) (d_val rz) (by omega) (by omega) A9 ?_ ⟨[], [], x9, x10, x11, rfl, S7, R7, rfl, rfl, fun _ h => by cases h⟩ (fun j hj σ2 G8 M8 H8 e8 A10 hI Nx2 hN2 => ?_) fun σ2 G8 M8 H8 e8 A10 hI => ?_
    · rintro j σ2 Ga Gb M2 e ⟨ev, xs, y9, y10, y11, h1, h2, h3, h4, h5⟩
      exact ⟨ev, xs, y9, y10, y11, h1, h2, h3, h4.up e, h5⟩
    · obtain ⟨ev, xs, y9, y10, y11, rfl, SE, RE, rxs, hel, hev⟩ := hI
      have hj3 : j < 3 := by omega
      have e38 := (e36.trans e7).trans e8
      have r7' := r7.up ((e6.trans e7).trans e8)
      -- size
      refine q_setE (Φ := RI 0 3) (spin_c rfl (by decide) (by decide) (by omega)) A10 SE RE fun d v10 G9 M9 H9 e9 A11 S9 R9 hd r10 => ?_
      obtain ⟨sz, rfl, sz0, sz3⟩ := hd
      -- text
      refine q_setE (n' := 431 + j * 1000 + 1 + 3 * 1) (Φ := fun d => ∃ t : Str, d = .str t ∧ textW c "m" t = true ∧ t.cps.size ≤ 40 ∧ 1 ≤ t.cps.size) (e_op (Φ1 := fun d => d = .str "m") (Φ2 := fun d => ∃ ys : List Str, d = .str (Txt.join "" ys) ∧ ys.length ≤ 3 ∧ ∀ x ∈ ys, isNm c x ∧ x.length = 1) (e_D d_str rfl) (fun _ _ => e_join (Ψ := fun ys => ys.length ≤ 3 ∧ ∀ x ∈ ys, isNm c x ∧ x.length = 1) (e_lcR (c := 3) (step := 1) (Φ0 := fun z => z ≤ 3) (Φ1 := fun d => ∃ x, d = .str x ∧ isNm c x ∧ x.length = 1) (e_D (d_var rfl r10) ⟨sz, rfl, by omega, by omega, by omega⟩) (by decide) (fun M1' x t ht => ?_) fun z ds hz3 hl hall => ?_) (fun ys hy => ?_) fun ys hy => ⟨ys, rfl, hy⟩) ?_) A11 S9 R9 fun d v11 G10 M10 H10 e10 A12 S10 R10 hd r11 => ?_
      · refine e_op (Φ1 := fun d => d = .list (dStrs (nmsT c ++ [("m" : Str), "m"]))) (Φ2 := RI 0 (c.cs.length + 1)) (e_D (d_var rfl (r7'.up e9)) rfl) (fun _ _ => (spin_call rfl (e_D (d_cb (a_cons (d_var rfl (r7'.up e9)) a_nil) rc_lenL) ⟨_, rfl, by rw [dS_len]; omega, by rw [dS_len]; omega, fun d h => by rw [dS_len, nl7] at h; obtain ⟨i, h, h0, h1⟩ := h; exact ⟨i, h, h0, by omega⟩⟩) (by omega))) ?_
        rintro _ _ rfl ⟨i, rfl, i0, i1⟩
        obtain ⟨iN, rfl⟩ := Int.eq_ofNat_of_zero_le i0
        have hi : iN < (nmsT c ++ [("m" : Str), "m"]).length := by omega
        refine ⟨_, rd_ixL (at_dat (by rw [dS_len]; exact hi)), (nmsT c ++ [("m" : Str), "m"])[iN], ?_, nin _ (List.getElem_mem hi)⟩
        unfold dStrs
        rw [List.getElem_map]
      · obtain ⟨ys, rfl, hy⟩ := strs_of hall
        rw [dS_len] at hl
        exact ⟨ys, rfl, by omega, hy⟩
      · have h1 := sum_len (c := 1) (ss := ys) fun x hx => Nat.le_of_eq (hy.2 x hx).2
        have h2 : ("" : Str).length = 0 := rfl
        rw [h2]
        have := hy.1
        omega
      · rintro _ _ rfl ⟨ys, rfl, hl3, hy⟩
        have ht := text_m (t := "m" ++ Txt.join "" ys) (fun x hx => (hy x hx).1) (fun x hx => (hy x hx).2) hl3 rfl
        refine ⟨_, rd_addS ?_, _, rfl, ht⟩
        have h1 := ht.2.1
        have h2 : ("m" ++ Txt.join "" ys : Str).length = ("m" : Str).length + (Txt.join "" ys).length := strLen_append ..
        have h3 : ("m" ++ Txt.join "" ys : Str).length = ("m" ++ Txt.join "" ys : Str).cps.size := rfl
        exact sz_of (by omega)
      obtain ⟨t, rfl, tw, t40, t1⟩ := hd
      have okP := onew.okP
      have htP : isTextD (codeP c "m" ws) (.str t) = true := text_P tw
      have e310 := (e38.trans e9).trans e10
      have hrow := rowL_len okP htP
      have hrw := rowL_w okP htP
      have hrl : 1 ≤ (rowL (codeP c "m" ws) t).length := by
        unfold rowL
        rw [List.length_append, List.length_append, List.length_append]
        have := okP.st.1
        show 1 ≤ c.st.length + _ + _ + _
        have h2 : 1 ≤ c.st.length := this
        omega
      have hnl : (natsL (rowL (codeP c "m" ws) t)).length = (rowL (codeP c "m" ws) t).length := List.length_map ..
      refine s_appE (i := 6) (p := pe) (Φ := fun d => ∃ e, d = dItem e ∧ okItem c "m" e) (n' := 431 + (j + 1) * 1000) rfl upd_same ne (by rw [rxs.len, List.length_map]; omega) (TrE.le (e_tup (Ψ := fun ds => ∃ e : Str × List Nat, ds = [.str e.1, .list (dNs e.2)] ∧ okItem c "m" e) (ea_cons (Φ := fun d => d = .str t) (e_D (d_var rfl r11) rfl) fun d hd => ea_cons (Φ := IsScan (natsL (rowL (codeP c "m" ws) t)).length) (e_call (Ψ := fun ds => ds = [.list (dNs (natsL (rowL (codeP c "m" ws) t))), dF fp fq]) rfl (ea_A (a_cons (TrD.to (d_call0 (a_cons (d_var rfl (r8.up (((e7.trans e8).trans e9).trans e10))) (a_cons (d_var rfl r11) a_nil)) (⟨codeP c "m" ws, t, rfl, okP, by omega, htP, rfl⟩ : R_row_by _ (.list (dInts (rowL (codeP c "m" ws) t))))) (by rw [natsL_d fun z hz => (hrw z hz).1])) (a_cons (d_var rfl (r5.up ((((e5.trans e6).trans e7).trans e8).trans (e9.trans e10)))) a_nil)) rfl) (fun ds h => ⟨natsL (rowL (codeP c "m" ws) t), fp, fq, h, by omega, by omega, fun z hz => ?_, hf, hf16, rfl, rfl⟩) (by omega)) fun d2 hd2 => ea_nil ?_) fun ds h => ?_) (by omega)) A12 S10 R10 fun d y G11 M11 H11 e11 A13 S11 R11 hd ry => ?_
      · obtain ⟨z', hz', rfl⟩ := List.mem_map.mp hz
        have := hrw z' hz'
        omega
      · obtain ⟨ss, rfl, hsl2, hss⟩ := hd2
        subst hd
        refine ⟨(t, ss), rfl, ⟨tw, t40, ⟨by show 1 ≤ ss.length; omega, by show ss.length ≤ 400; omega, fun s hs => ⟨(hss s hs).1, Nat.lt_of_le_of_lt (hss s hs).2 scB_lt⟩⟩⟩⟩
      · obtain ⟨e, rfl, he⟩ := h
        exact ⟨Nat.le_of_ble_eq_true rfl, e, rfl, he⟩
      · obtain ⟨e, rfl, he⟩ := hd
        rw [upd_upd] at S11
        refine hN2 _ G11 M11 H11 ((e9.trans e10).trans e11) A13 ⟨ev ++ [e], xs ++ [y], _, _, _, rfl, S11, R11, ?_, by rw [List.length_append, hel]; rfl, fun e' he' => ?_⟩
        · rw [List.map_append]
          exact (rxs.up ((e9.trans e10).trans e11)).snoc ry
        · rcases List.mem_append.mp he' with h | h
          · exact hev e' h
          · rw [List.mem_singleton.mp h]; exact he
    · obtain ⟨ev, xs, y9, y10, y11, rfl, SE, RE, rxs, hel, hev⟩ := hI
      have hz3 : z.toNat ≤ 3 ∧ 2 ≤ z.toNat := by omega
      have hM8 : M8 pe = some (.lst xs) := (SE pe ne).trans upd_same
      rw [← cut_eq hM8] at A10
      obtain ⟨G9, e9, A11, r9⟩ := At.frzC A10 rxs
      rw [cut_cut] at A11
      have RE' : RL p (431 + z.toNat * 1000) (cutG M8 pe) := RE.cut ne
      have e39 := ((e36.trans e7).trans e8).trans e9
      have ask : okAsk c "m" wn.length ev fp fq := ⟨okc, by decide +kernel, hnew, by omega, by rw [hwl]; exact okw.1, by rw [hwl]; exact okw.2.1, ⟨by omega, by omega, hev⟩, hf⟩
      refine s_ifE (M0 := cutG M8 pe) (n' := 431 + z.toNat * 1000 + 1) (e_call (Ψ := fun ds => ds = [c.d, .str "m", dT wn, dEv ev, dF fp fq]) rfl (ea_A (a_cons (d_var rfl (r3.up e39)) (a_cons d_str (a_cons (TrD.to (d_var rfl (r4.up e39)) hdT) (a_cons (d_var rfl r9) (a_cons (d_var rfl (r5.up ((((e5.trans e6).trans e7).trans e8).trans e9))) a_nil))))) rfl) (fun ds h => ⟨c, "m", wn, ev, fp, fq, h, ask, rfl, rfl⟩) (by omega)) A11 .refl RE' fun G10 M10 H10 e10 A12 S10 R10 => ?_
      exact s_next (hN _ G10 M10 H10 ((((e2.trans e3).trans e39)).trans e10) A12 ⟨_, _, _, _, _, _, _, _, _, _, _, rfl⟩)
  · obtain ⟨x1, x2, x3, x4, x5, x6, x7, x8, x9, x10, x11, rfl⟩ := hI
    dsimp only
    refine s_ret (d := .bool true) (K := K) d_bl A1 fun v G' H' e' A' r' => ?_
    rw [show v = V.bl true from r']
    exact q H'
end
end K96

namespace Sb
open PySem PySem.Spec PyProof.Rows L2
/-! ### a Hook that also looks at the interpreter's statics and at a Bool of one's own -/
def asS (g : Addr → Option Obj) (n : Nat) : List Addr := He.asD g n ++ [PySem.cStatics]
def obsS (n : Nat) (fa : List He.Fa) (fn : List He.DefD) (ex : PySem.W.Frag → Bool) (g : Addr → Option Obj) : He.AlD × Bool := (He.obsD fa fn (He.frG g (asS g n)), ex (He.frG g (asS g n)))
def hookS (n : Nat) (fa : List He.Fa) (fn : List He.DefD) (ex : PySem.W.Frag → Bool) : PySem.W.Hook where
  α := He.AlD × Bool
  obs := fun s => obsS n fa fn ex s.heap.get?
  val := fun _ => (He.valD fn, true)
  says := fun _ h => ∃ K : PySem.W.Frag, K.In h ∧ He.SaysD fa fn K ∧ ex K = true
  of := fun _ _ e => ⟨_, He.frG_in, congrArg (fun z : He.AlD × Bool => z.1) e, congrArg (fun z : He.AlD × Bool => z.2) e⟩
  keeps := fun _ _ _ ⟨K, hK, c⟩ k => ⟨K, PySem.W.Frag.In.keeps hK k, c⟩
theorem obsS_eq {n : Nat} {fa : List He.Fa} {fn : List He.DefD} {ex : PySem.W.Frag → Bool} {g : Addr → Option Obj} {s : Shared} (h : ∀ a, g a = s.heap.get? a) : obsS n fa fn ex g = (hookS n fa fn ex).obs s := by
  have e : g = s.heap.get? := funext h
  rw [e] <;> rfl
end Sb

namespace K96
open PySem PySem.Spec PyProof.Rows L2 Sb
abbrev Rw : PySem.W.OpenRow := PySem.W.OpenLaw.row PySem.Challenge.rw_scanbars_k96_whole_unknown_characters_pu
abbrev hk : PySem.W.Hook := Sb.hookS 6 fa fn exB
def ob (s : PySem.W.SharedT) : He.AlD × Bool := Sb.obsS 6 fa fn exB (HandSHeadRun.getT s)
theorem ob_eq (s : PySem.W.SharedT) : ob s = hk.obs s.abs := Sb.obsS_eq (HandSHeadRun.getT_eq s)
def loose : List Str := [("ScanError" : Str), ("InvalidText" : Str), ("InvalidFactor" : Str), ("InvalidNumber" : Str), ("InvalidName" : Str), ("InvalidWidths" : Str), ("InvalidCode" : Str), ("InvalidScan" : Str), ("InvalidEvidence" : Str), ("TooLarge" : Str), ("NAMES" : Str), ("MOST_CHARACTERS" : Str), ("MOST_DURATIONS" : Str), ("is_integer" : Str), ("is_name" : Str), ("are_widths" : Str), ("is_widths" : Str), ("fault_of_characters" : Str), ("fault_of_code" : Str), ("require_code" : Str), ("is_text" : Str), ("require_text" : Str), ("fault_of_scan" : Str), ("require_scan" : Str), ("divisor" : Str), ("lowest" : Str), ("is_fraction" : Str), ("is_factor" : Str), ("require_factor" : Str), ("require_index" : Str), ("is_above" : Str), ("step_of" : Str), ("row_by" : Str), ("greatest_step" : Str), ("strain_of" : Str), ("is_within" : Str), ("code_with" : Str), ("MOST_EVIDENCE" : Str), ("MOST_WIDTHS" : Str), ("WIDTHS" : Str), ("is_evidence_item" : Str), ("require_evidence" : Str), ("require_asked" : Str), ("cells_of" : Str), ("wrong_pairs" : Str), ("is_let" : Str), ("last_index" : Str), ("all_widths" : Str), ("count_widths" : Str), ("nth_widths" : Str), ("sure_widths" : Str), ("with_character" : Str), ("is_reading" : Str), ("_law_fount" : Str), ("_law_dip" : Str), ("_law_widths" : Str), ("_law_characters" : Str), ("_law_code" : Str), ("_law_row" : Str), ("_law_factor" : Str), ("_law_scan" : Str), ("_law_tuples" : Str), ("_law_explaining" : Str), ("_law_right" : Str)]
theorem run (w : World) : HandSHeadRun.RunEq Rw (PySem.W.view Rw.prog [70]) hk ob 6000 loose w := by
  intro os
  kernel_rfl
theorem facts {P : Program} {w : World} {K : PySem.W.Frag} {h : Heap} {mg : Str → Option Value} {f : Addr} (X : K.In h) (G : h.Ns mainGlobals mg) (hfa : mg ("law" : Str) = some (.ref f)) (c : He.SaysD fa fn K ∧ exB K = true) :
    ∃ fd : FuncData, (∀ (s : Shared) (v : Value), BindsTo s fd ⟨[v], []⟩ [("script", v)]) ∧ ∀ bh : Heap, K.In bh → bh.Ns mainGlobals mg → FnG P w K mg bh CX0 10 f fd ["script"] (S_law K) := by
  have T : Tx K mg := ⟨h, X, G, c.1, c.2⟩
  obtain ⟨fd, F⟩ := T.f_law
  have e := hfa.symm.trans T.g_law
  cases e
  have b := FunD.bindsA (ps := ["script"]) F fun _ _ _ _ _ _ us hl => match us, hl with | [_], _ => rfl
  exact ⟨fd, fun s v => b s [v] rfl, fun bh _ _ => G_law T F⟩
end K96
open PySem PySem.W PySem.Calls PyProof.Rows
theorem PySem.Challenge.cw_scanbars_k96_whole_unknown_characters_pu_holds : PySem.Challenge.rw_scanbars_k96_whole_unknown_characters_pu.Holds := by
  w_on; o_law
  refine HandSHeadRun.head_any (r := K96.Rw) (q := view K96.Rw.prog [70]) (H := K96.hk) (ob := K96.ob) (M := 6000) (loose := K96.loose) (d := HandSHeadRun.topDef K96.Rw.prog 70) (kwd := []) K96.ob_eq
    (by kernel_rfl) (fun s => by kernel_rfl) K96.run (by kernel_rfl) (by kernel_rfl) (by kernel_rfl) (by rfl) (by first | assumption | decide +kernel) (by decide +kernel) ⟨rfl, rfl, rfl, rfl, rfl, by decide +kernel⟩ ?hw ?hc
  case hw => w_witness2
  case hc =>
    refine Sb.law_walks (l := PySem.Challenge.rw_scanbars_k96_whole_unknown_characters_pu) (n := 63) (k := 10) (x := "script") (CX := L2.CX0) rfl (by decide) (by kernel_rfl) ⟨rfl, by decide, by decide⟩ ?F (fun _ _ _ _ z => z)
    intro w mg f h Y G hmg0
    obtain ⟨K, KX, c⟩ := Y
    have hmg : mg ("law" : PySem.Str) = some (.ref f) := by
      have e : (HandSHeadRun.topDef K96.Rw.prog 70).name = ("law" : PySem.Str) := by kernel_rfl
      rw [← e]
      exact hmg0
    obtain ⟨fd, hb, hF⟩ := K96.facts (P := (PySem.Challenge.rw_scanbars_k96_whole_unknown_characters_pu).prog) (w := w) KX G hmg c
    exact ⟨K, fd, K96.S_law K, KX, hb, fun H a ns hl _ hS => ⟨a, ns, rfl, hS, Nat.le_trans hl (by decide), fun _ => rfl⟩, hF⟩

