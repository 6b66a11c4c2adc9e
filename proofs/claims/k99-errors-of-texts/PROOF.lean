import PyProof.Rows.All
import Wide.All
import OpenK.AllK
import Wide.FinOn
import PyProof.EqAt
import PyProof.EqKinds
import PyProof.TupleCall
import PyProof.ReprRoads
import HandS.ForMost
import HandS.More
import HandS.IsInst
import HandS.Defaults
import HandS.DictComp
import HandS.ListItems
import HandS.Star
import HandS.Style
import HandS.TupAny
import HandS.TupMul
import HandS.Wide
import HandS.Exc
import HandS.TryOnly
import HandS.TryMany
import HandS.WordsExc
import HandS.Evl
import HandS.Head0
import HandS.Head1
import HandS.Head2
import HandS.HeadEnd
import HandS.HeadHook1
import HandS.HeadHook2
import HandS.DictEq
import HandS.DeepEq
import HandS.OwnEq
import HandS.Ends
import HandS.ExcInit
import HandS.ExcField
import HandS.ExcOwn
import HandS.HeadHook4
import HandS.Iter
import HandS.HeadNt
import HandS.HotCalls
import HandS.ExcIs
import HandS.ExcInitHot
import PySem.Challenge.RW_scanbars_k99_errors_of_texts
set_option Elab.async false
set_option autoImplicit false
set_option linter.all false
set_option maxRecDepth 100000
set_option maxHeartbeats 0
namespace Sb
open PySem PySem.Spec PyProof.Rows L2

/-! ### heaps: G what never changes any more, M what is still written -/
def Ex (H H' : Hp) : Prop := ∀ a o, H a = some o → H' a = some o
section
variable {G G' G1 G2 M M' H H' H1 : Hp} {p r : Addr} {o u : HO} {K : PySem.W.Frag}
theorem Ex.refl (H : Hp) : Ex H H := fun _ _ h => h
theorem Ex.trans (a : Ex H H1) (b : Ex H1 H') : Ex H H' := fun x o h => b x o (a x o h)
theorem Ex.new (h : H p = none) : Ex H (upd H p o) := fun a u e => by
  rw [upd_ne (ne_of_none e h)]
  exact e
theorem Ex.none (e : Ex H H') (h : H' p = Option.none) : H p = Option.none := by
  cases q : H p with
  | none => rfl
  | some o =>
    rw [e p o q] at h
    cases h
theorem Ex.rd (e : Ex H H') (h : Rd H p u) : Rd H' p u := by
  rcases h with h | ⟨o, h⟩
  · exact Or.inl (e _ _ h)
  · exact Or.inr ⟨o, e _ _ h⟩
theorem Ex.sl {xs : List V} (e : Ex H H') (h : SqL K H p xs) : SqL K H' p xs := by
  rcases h with h | h
  · exact Or.inl (e.rd h)
  · exact Or.inr h
theorem Ex.stt {xs : List V} (e : Ex H H') (h : SqT K H p xs) : SqT K H' p xs := by
  rcases h with h | h
  · exact Or.inl (e.rd h)
  · exact Or.inr h
theorem none_upd {a : Addr} (h : H a = none) (n : a ≠ p) : upd H p o a = none := by
  rw [upd_ne n]
  exact h
structure At (G M H : Hp) : Prop where
  g : Ex G H
  m : Ex M H
  d : ∀ a o, M a = some o → G a = none
theorem At.ng (A : At G M H) (h : H p = none) : At (upd G p o) M (upd H p o) where
  g := fun a u e => by
    by_cases q : a = p
    · subst q
      rw [upd_same] at e ⊢
      exact e
    · rw [upd_ne q] at e ⊢
      exact A.g _ _ e
  m := fun a u e => by
    have q : a ≠ p := fun z => by
      subst z
      rw [A.m _ _ e] at h
      cases h
    rw [upd_ne q]
    exact A.m _ _ e
  d := fun a u e => by
    have q : a ≠ p := fun z => by
      subst z
      rw [A.m _ _ e] at h
      cases h
    rw [upd_ne q]
    exact A.d _ _ e
theorem At.nm (A : At G M H) (h : H p = none) : At G (upd M p o) (upd H p o) where
  g := fun a u e => by
    have q : a ≠ p := fun z => by
      subst z
      rw [A.g _ _ e] at h
      cases h
    rw [upd_ne q]
    exact A.g _ _ e
  m := fun a u e => by
    by_cases q : a = p
    · subst q
      rw [upd_same] at e ⊢
      exact e
    · rw [upd_ne q] at e ⊢
      exact A.m _ _ e
  d := fun a u e => by
    by_cases q : a = p
    · subst q
      exact A.g.none h
    · rw [upd_ne q] at e
      exact A.d _ _ e
theorem At.wr (A : At G M H) (h : M p = some u) : At G (upd M p o) (upd H p o) where
  g := fun a v e => by
    have q : a ≠ p := fun z => by
      subst z
      rw [A.d _ _ h] at e
      cases e
    rw [upd_ne q]
    exact A.g _ _ e
  m := fun a v e => by
    by_cases q : a = p
    · subst q
      rw [upd_same] at e ⊢
      exact e
    · rw [upd_ne q] at e ⊢
      exact A.m _ _ e
  d := fun a v e => by
    by_cases q : a = p
    · subst q
      exact A.d _ _ h
    · rw [upd_ne q] at e
      exact A.d _ _ e
theorem At.drop (A : At G M H) (e : Ex M' M) : At G M' H := ⟨A.g, e.trans A.m, fun a o h => A.d a o (e a o h)⟩
theorem At.frz (A : At G M H) (h : M p = some o) (e : Ex M' M) (n : M' p = none) : At (upd G p o) M' H where
  g := fun a v q => by
    by_cases z : a = p
    · subst z
      rw [upd_same] at q
      cases q
      exact A.m _ _ h
    · rw [upd_ne z] at q
      exact A.g _ _ q
  m := e.trans A.m
  d := fun a v q => by
    have z : a ≠ p := fun z => by
      subst z
      rw [n] at q
      cases q
    rw [upd_ne z]
    exact A.d _ _ (e _ _ q)
theorem At.frzG (A : At G M H) (h : M p = some o) : Ex G (upd G p o) := Ex.new (A.d _ _ h)
theorem At.ne (A : At G M H) (h : M r = some u) (n : H p = none) : r ≠ p := fun z => by
  subst z
  rw [A.m _ _ h] at n
  cases n
theorem At.mNone (A : At G M H) (n : H p = none) : M p = none := A.m.none n
theorem At.gNone (A : At G M H) (n : H p = none) : G p = none := A.g.none n
end

/-! ### data in the heap -/
def kD : Key → PyData
  | .inl i => .int i
  | .inr x => .str x
mutual
def Rp (K : PySem.W.Frag) (G : Hp) : PyData → V → Prop
  | .none, v => v = .non
  | .bool b, v => v = .bl b
  | .int i, v => v = .int i
  | .str x, v => v = .str x
  | .list ds, v => ∃ a xs, v = .ref a ∧ G a = some (.lst xs) ∧ RpL K G ds xs
  | .tuple ds, v => ∃ a xs, v = .ref a ∧ SqT K G a xs ∧ RpL K G ds xs
  | .dict kvs, v => ∃ a es, v = .ref a ∧ G a = some (.dK es) ∧ RpD K G kvs es
def RpL (K : PySem.W.Frag) (G : Hp) : List PyData → List V → Prop
  | [], xs => xs = []
  | d :: ds, xs => ∃ x r, xs = x :: r ∧ Rp K G d x ∧ RpL K G ds r
def RpD (K : PySem.W.Frag) (G : Hp) : List (PyData × PyData) → List (Key × V) → Prop
  | [], es => es = []
  | (k, d) :: ds, es => ∃ x y r, es = (x, y) :: r ∧ kD x = k ∧ Rp K G d y ∧ RpD K G ds r
end
section
variable {K : PySem.W.Frag} {G G' : Hp}
mutual
theorem Rp.mono (e : Ex G G') : ∀ (d : PyData) {v : V}, Rp K G d v → Rp K G' d v
  | .none, _, h => h
  | .bool _, _, h => h
  | .int _, _, h => h
  | .str _, _, h => h
  | .list ds, _, ⟨a, xs, h1, h2, h3⟩ => ⟨a, xs, h1, e _ _ h2, RpL.mono e ds h3⟩
  | .tuple ds, _, ⟨a, xs, h1, h2, h3⟩ => ⟨a, xs, h1, e.stt h2, RpL.mono e ds h3⟩
  | .dict kvs, _, ⟨a, es, h1, h2, h3⟩ => ⟨a, es, h1, e _ _ h2, RpD.mono e kvs h3⟩
theorem RpL.mono (e : Ex G G') : ∀ (ds : List PyData) {xs : List V}, RpL K G ds xs → RpL K G' ds xs
  | [], _, h => h
  | d :: ds, _, ⟨x, r, h1, h2, h3⟩ => ⟨x, r, h1, Rp.mono e d h2, RpL.mono e ds h3⟩
theorem RpD.mono (e : Ex G G') : ∀ (ds : List (PyData × PyData)) {es : List (Key × V)}, RpD K G ds es → RpD K G' ds es
  | [], _, h => h
  | (k, d) :: ds, _, ⟨x, y, r, h1, h2, h3, h4⟩ => ⟨x, y, r, h1, h2, Rp.mono e d h3, RpD.mono e ds h4⟩
end
theorem Rp.up (e : Ex G G') {d : PyData} {v : V} (h : Rp K G d v) : Rp K G' d v := Rp.mono e d h
theorem RpL.up (e : Ex G G') {ds : List PyData} {xs : List V} (h : RpL K G ds xs) : RpL K G' ds xs := RpL.mono e ds h
theorem RpD.up (e : Ex G G') {ds : List (PyData × PyData)} {xs : List (Key × V)} (h : RpD K G ds xs) : RpD K G' ds xs := RpD.mono e ds h
theorem RpL.nil : RpL K G [] [] := rfl
theorem RpL.cons {d : PyData} {ds : List PyData} {x : V} {xs : List V} (h : Rp K G d x) (t : RpL K G ds xs) : RpL K G (d :: ds) (x :: xs) := ⟨x, xs, rfl, h, t⟩
theorem RpL.len : ∀ {ds : List PyData} {xs : List V}, RpL K G ds xs → xs.length = ds.length
  | [], _, h => by rw [show _ = [] from h]; rfl
  | _ :: ds, _, ⟨x, r, h1, _, h3⟩ => by rw [h1, List.length_cons, List.length_cons, RpL.len h3]
theorem RpL.app : ∀ {ds es : List PyData} {xs ys : List V}, RpL K G ds xs → RpL K G es ys → RpL K G (ds ++ es) (xs ++ ys)
  | [], _, xs, _, h, t => by
    rw [show xs = [] from h]
    exact t
  | _ :: ds, _, _, _, ⟨x, r, h1, h2, h3⟩, t => by
    rw [h1]
    exact ⟨x, _, rfl, h2, RpL.app h3 t⟩
theorem RpL.snoc {ds : List PyData} {d : PyData} {xs : List V} {x : V} (h : RpL K G ds xs) (t : Rp K G d x) : RpL K G (ds ++ [d]) (xs ++ [x]) := h.app (.cons t .nil)
theorem RpL.get : ∀ {ds : List PyData} {xs : List V} {i : Nat} {x : V}, RpL K G ds xs → xs[i]? = some x → ∃ d, ds[i]? = some d ∧ Rp K G d x
  | [], xs, i, x, h, e => by
    rw [show xs = [] from h] at e
    simp at e
  | d :: ds, _, 0, x, ⟨y, r, h1, h2, _⟩, e => by
    rw [h1] at e
    have e1 : y = x := by simpa using e
    subst e1
    exact ⟨d, rfl, h2⟩
  | d :: ds, _, i + 1, x, ⟨y, r, h1, _, h3⟩, e => by
    rw [h1] at e
    obtain ⟨d', q1, q2⟩ := RpL.get (i := i) (x := x) h3 (by simpa using e)
    exact ⟨d', by simpa using q1, q2⟩
theorem RpL.at : ∀ {ds : List PyData} {xs : List V} {i : Nat} {d : PyData}, RpL K G ds xs → ds[i]? = some d → ∃ x, xs[i]? = some x ∧ Rp K G d x
  | [], xs, i, x, h, e => by simp at e
  | d :: ds, _, 0, x, ⟨y, r, h1, h2, _⟩, e => by
    have e1 : d = x := by simpa using e
    subst e1
    exact ⟨y, by rw [h1]; rfl, h2⟩
  | d :: ds, _, i + 1, x, ⟨y, r, h1, _, h3⟩, e => by
    obtain ⟨d', q1, q2⟩ := RpL.at (i := i) (d := x) h3 (by simpa using e)
    exact ⟨d', by rw [h1]; simpa using q1, q2⟩
theorem RpL.take : ∀ {ds : List PyData} {xs : List V} (n : Nat), RpL K G ds xs → RpL K G (ds.take n) (xs.take n)
  | [], xs, n, h => by
    rw [show xs = [] from h, List.take_nil, List.take_nil]
    rfl
  | _ :: _, _, 0, _ => rfl
  | _ :: _, _, n + 1, ⟨x, r, h1, h2, h3⟩ => by
    rw [h1]
    exact ⟨x, _, rfl, h2, RpL.take n h3⟩
theorem RpL.drop : ∀ {ds : List PyData} {xs : List V} (n : Nat), RpL K G ds xs → RpL K G (ds.drop n) (xs.drop n)
  | [], xs, n, h => by
    rw [show xs = [] from h, List.drop_nil, List.drop_nil]
    rfl
  | _ :: _, xs, 0, h => h
  | _ :: _, _, n + 1, ⟨x, r, h1, h2, h3⟩ => by
    rw [h1]
    exact RpL.drop n h3
theorem RpL.rev : ∀ {ds : List PyData} {xs : List V}, RpL K G ds xs → RpL K G ds.reverse xs.reverse
  | [], xs, h => by
    rw [show xs = [] from h]
    rfl
  | d :: ds, _, ⟨x, r, h1, h2, h3⟩ => by
    rw [h1, List.reverse_cons, List.reverse_cons]
    exact (RpL.rev h3).snoc h2
def dInts (ns : List Int) : List PyData := ns.map PyData.int
def dStrs (ss : List Str) : List PyData := ss.map PyData.str
theorem rpL_ints : ∀ (ns : List Int) {xs : List V}, RpL K G (dInts ns) xs ↔ xs = ns.map V.int
  | [], xs => Iff.rfl
  | n :: ns, xs => by
    constructor
    · rintro ⟨x, r, h1, h2, h3⟩
      rw [h1, show x = V.int n from h2, (rpL_ints ns).mp h3]
      rfl
    · intro h
      rw [h]
      exact ⟨_, _, rfl, rfl, (rpL_ints ns).mpr rfl⟩
theorem rpL_strs : ∀ (ns : List Str) {xs : List V}, RpL K G (dStrs ns) xs ↔ xs = ns.map V.str
  | [], xs => Iff.rfl
  | n :: ns, xs => by
    constructor
    · rintro ⟨x, r, h1, h2, h3⟩
      rw [h1, show x = V.str n from h2, (rpL_strs ns).mp h3]
      rfl
    · intro h
      rw [h]
      exact ⟨_, _, rfl, rfl, (rpL_strs ns).mpr rfl⟩
theorem Rp.ti {ns : List Int} {v : V} (h : Rp K G (.tuple (dInts ns)) v) : ∃ a, v = .ref a ∧ SqT K G a (ns.map V.int) := by
  obtain ⟨a, xs, h1, h2, h3⟩ := h
  rw [(rpL_ints ns).mp h3] at h2
  exact ⟨a, h1, h2⟩
theorem Rp.li {ns : List Int} {v : V} (h : Rp K G (.list (dInts ns)) v) : ∃ a, v = .ref a ∧ G a = some (.lst (ns.map V.int)) := by
  obtain ⟨a, xs, h1, h2, h3⟩ := h
  rw [(rpL_ints ns).mp h3] at h2
  exact ⟨a, h1, h2⟩
theorem Rp.ls {ns : List Str} {v : V} (h : Rp K G (.list (dStrs ns)) v) : ∃ a, v = .ref a ∧ G a = some (.lst (ns.map V.str)) := by
  obtain ⟨a, xs, h1, h2, h3⟩ := h
  rw [(rpL_strs ns).mp h3] at h2
  exact ⟨a, h1, h2⟩
end

/-! ### what a reading gives, as data -/
section
variable (K : PySem.W.Frag)
def Res (G M : Hp) (d : PyData) (Q : VK) : Prop := ∀ v G' H', Ex G G' → At G' M H' → Rp K G' d v → Q v H'
def TrD (te : TE) (σ : L2.St) (G : Hp) (d : PyData) : Prop := ∀ G1 M H, Ex G G1 → At G1 M H → ∀ Q : VK, Res K G1 M d Q → te σ H Q
def TrA (ta : TA) (σ : L2.St) (G : Hp) (ds : List PyData) : Prop := ∀ G1 M H, Ex G G1 → At G1 M H → ∀ Q : List V → Hp → Prop, (∀ xs G' H', Ex G1 G' → At G' M H' → RpL K G' ds xs → Q xs H') → ta σ H Q
def TrB (tt : TT) (σ : L2.St) (G : Hp) (b : Bool) : Prop := ∀ G1 M H, Ex G G1 → At G1 M H → ∀ Q : Bool → Hp → Prop, (∀ G' H', Ex G1 G' → At G' M H' → Q b H') → tt σ H Q
def RD (r : R2) (d1 d2 d3 : PyData) : Prop := ∀ G M H x y, At G M H → Rp K G d1 x → Rp K G d2 y → ∀ Q : VK, Res K G M d3 Q → r x y H Q
def RC (r : List V → Hp → VK → Prop) (ds : List PyData) (d : PyData) : Prop := ∀ G M H xs, At G M H → RpL K G ds xs → ∀ Q : VK, Res K G M d Q → r xs H Q
def RU (r : V → Hp → VK → Prop) (d1 d : PyData) : Prop := ∀ G M H x, At G M H → Rp K G d1 x → ∀ Q : VK, Res K G M d Q → r x H Q
/-- a promise: data in, data out, nothing else is touched -/
def PSp (R : List PyData → PyData → Prop) : Sp := fun vs H Q _ => ∃ G M ds r, At G M H ∧ RpL K G ds vs ∧ R ds r ∧ Res K G M r Q
end
section
variable {K : PySem.W.Frag} {σ : L2.St} {G G' M H : Hp} {ta tb te : TE} {d d1 d2 d3 : PyData} {tt t u : TT} {ts : TA} {ds es : List PyData} {Q : VK}
theorem Res.mono (e : Ex G G') (q : Res K G M d Q) : Res K G' M d Q := fun v G2 H2 e2 A r => q v G2 H2 (e.trans e2) A r
theorem Res.here (q : Res K G M d Q) (A : At G M H) {v : V} (r : Rp K G d v) : Q v H := q v G H (Ex.refl G) A r
theorem Res.newG {p : Addr} {o : HO} (q : Res K G M d Q) (A : At G M H) (n : H p = none) {v : V} (r : Rp K (upd G p o) d v) : Q v (upd H p o) := q v _ _ (Ex.new (A.gNone n)) (A.ng n) r
theorem TrD.up (e : Ex G G') (h : TrD K te σ G d) : TrD K te σ G' d := fun G1 M H e1 A Q q => h G1 M H (e.trans e1) A Q q
theorem TrB.up {b : Bool} (e : Ex G G') (h : TrB t σ G b) : TrB t σ G' b := fun G1 M H e1 A Q q => h G1 M H (e.trans e1) A Q q
theorem TrA.up (e : Ex G G') (h : TrA K ts σ G ds) : TrA K ts σ G' ds := fun G1 M H e1 A Q q => h G1 M H (e.trans e1) A Q q
theorem w_D (h : TrD K te σ G d) (A : At G M H) (k : Res K G M d Q) : te σ H Q := h G M H (Ex.refl G) A Q k
theorem w_B {b : Bool} {Q : Bool → Hp → Prop} (h : TrB t σ G b) (A : At G M H) (k : ∀ G' H', Ex G G' → At G' M H' → Q b H') : t σ H Q := h G M H (Ex.refl G) A Q k
theorem w_A {Q : List V → Hp → Prop} (h : TrA K ts σ G ds) (A : At G M H) (k : ∀ xs G' H', Ex G G' → At G' M H' → RpL K G' ds xs → Q xs H') : ts σ H Q := h G M H (Ex.refl G) A Q k
theorem TrD.to (h : TrD K te σ G d1) (e : d1 = d2) : TrD K te σ G d2 := e ▸ h
theorem TrB.to {b c : Bool} (h : TrB t σ G b) (e : b = c) : TrB t σ G c := e ▸ h
/-! values -/
theorem d_var {i : Nat} {v : V} (h : σ[i]? = some (some v)) (r : Rp K G d v) : TrD K (tVar i) σ G d := fun G1 M H e A Q q => ⟨v, h, q.here A (r.up e)⟩
theorem d_c {v : V} (r : Rp K G d v) : TrD K (tC v) σ G d := fun G1 M H e A Q q => q.here A (r.up e)
theorem d_int {i : Int} : TrD K (tC (.int i)) σ G (.int i) := d_c rfl
theorem d_str {x : Str} : TrD K (tC (.str x)) σ G (.str x) := d_c rfl
theorem d_bl {b : Bool} : TrD K (tC (.bl b)) σ G (.bool b) := d_c rfl
theorem d_non : TrD K (tC .non) σ G .none := d_c rfl
theorem d_op {r : R2} (ha : TrD K ta σ G d1) (hb : TrD K tb σ G d2) (hr : RD K r d1 d2 d3) : TrD K (tOp r ta tb) σ G d3 := fun G1 M H e A Q q => by
  refine ha G1 M H e A _ fun v G2 H2 e2 A2 r1 => ?_
  refine hb G2 M H2 (e.trans e2) A2 _ fun w G3 H3 e3 A3 r2 => ?_
  exact hr G3 M H3 v w A3 (r1.up e3) r2 Q (q.mono (e2.trans e3))
theorem d_un {r : V → Hp → VK → Prop} (ha : TrD K ta σ G d1) (hr : RU K r d1 d2) : TrD K (tUn r ta) σ G d2 := fun G1 M H e A Q q => by
  refine ha G1 M H e A _ fun v G2 H2 e2 A2 r1 => ?_
  exact hr G2 M H2 v A2 r1 Q (q.mono e2)
theorem a_nil : TrA K tNil σ G [] := fun G1 M H e A Q q => q [] G1 H (Ex.refl _) A rfl
theorem a_cons (ha : TrD K ta σ G d) (hr : TrA K ts σ G ds) : TrA K (tCons ta ts) σ G (d :: ds) := fun G1 M H e A Q q => by
  refine ha G1 M H e A _ fun v G2 H2 e2 A2 r1 => ?_
  refine hr G2 M H2 (e.trans e2) A2 _ fun xs G3 H3 e3 A3 r2 => ?_
  exact q _ G3 H3 (e2.trans e3) A3 (.cons (r1.up e3) r2)
theorem a_star (ha : TrD K ta σ G (.list es)) (hr : TrA K ts σ G ds) : TrA K (StX.tStar K ta ts) σ G (es ++ ds) := fun G1 M H e A Q q => by
  refine ha G1 M H e A _ fun v G2 H2 e2 A2 r1 => ?_
  obtain ⟨a, xs, rfl, hs, hx⟩ := r1
  refine ⟨a, xs, rfl, .inr (SqL.of (A2.g _ _ hs)), ?_⟩
  refine hr G2 M H2 (e.trans e2) A2 _ fun ys G3 H3 e3 A3 r2 => ?_
  exact q _ G3 H3 (e2.trans e3) A3 ((hx.up e3).app r2)
theorem sz_of {n : Nat} (h : n ≤ 100000) : n ≤ sizeLine := Nat.le_trans h (by decide)
theorem sz_lt {n : Nat} (h : n < 100000) : n < sizeLine := Nat.lt_of_lt_of_le h (by decide)
theorem d_tup (h : TrA K ts σ G ds) (hn : ds.length ≤ 100000 := by decide) : TrD K (tTup ts) σ G (.tuple ds) := fun G1 M H e A Q q => by
  refine h G1 M H e A _ fun xs G2 H2 e2 A2 r => ?_
  refine ⟨by rw [r.len]; exact sz_of hn, fun p hp => ?_⟩
  exact (q.mono e2).newG A2 hp ⟨p, xs, rfl, SqT.of upd_same, r.up (Ex.new (A2.gNone hp))⟩
theorem d_lst (h : TrA K ts σ G ds) (hn : ds.length ≤ 100000 := by decide) : TrD K (tLst ts) σ G (.list ds) := fun G1 M H e A Q q => by
  refine h G1 M H e A _ fun xs G2 H2 e2 A2 r => ?_
  refine ⟨by rw [r.len]; exact sz_of hn, fun p hp => ?_⟩
  exact (q.mono e2).newG A2 hp ⟨p, xs, rfl, upd_same, r.up (Ex.new (A2.gNone hp))⟩
theorem d_cb {r : List V → Hp → VK → Prop} (h : TrA K ts σ G ds) (hr : RC K r ds d) : TrD K (tCB r ts) σ G d := fun G1 M H e A Q q => by
  refine h G1 M H e A _ fun xs G2 H2 e2 A2 r1 => ?_
  exact hr G2 M H2 xs A2 r1 Q (q.mono e2)
theorem d_call {R : List PyData → PyData → Prop} {dvs : List V} {E : XK} (h : TrA K ts σ G ds) (hd : RpL K G es dvs) (hr : R (ds ++ es) d) : TrD K (tCall (PSp K R) dvs E ts) σ G d := fun G1 M H e A Q q => by
  refine h G1 M H e A _ fun xs G2 H2 e2 A2 r1 => ?_
  exact ⟨G2, M, ds ++ es, d, A2, r1.app (hd.up (e.trans e2)), hr, q.mono e2⟩
theorem d_call0 {R : List PyData → PyData → Prop} {E : XK} (h : TrA K ts σ G ds) (hr : R ds d) : TrD K (tCall (PSp K R) [] E ts) σ G d := d_call h (es := []) rfl (by rw [List.append_nil]; exact hr)
theorem d_if {b : Bool} (hc : TrB t σ G b) (h1 : b = true → TrD K ta σ G d) (h2 : b = false → TrD K tb σ G d) : TrD K (tIf t ta tb) σ G d := fun G1 M H e A Q q => by
  refine hc G1 M H e A _ fun G2 H2 e2 A2 => ?_
  cases b with
  | true => exact h1 rfl G2 M H2 (e.trans e2) A2 Q (q.mono e2)
  | false => exact h2 rfl G2 M H2 (e.trans e2) A2 Q (q.mono e2)
/-! tests -/
theorem b_B {b : Bool} (h : TrD K te σ G (.bool b)) : TrB (tB te) σ G b := fun G1 M H e A Q q => by
  refine h G1 M H e A _ fun v G2 H2 e2 A2 r => ?_
  exact ⟨b, r, q G2 H2 e2 A2⟩
theorem b_T {b : Bool} (h : TrD K te σ G (.bool b)) : TrB (tTest te) σ G b := fun G1 M H e A Q q => by
  refine h G1 M H e A _ fun v G2 H2 e2 A2 r => ?_
  exact ⟨b, r, q G2 H2 e2 A2⟩
theorem b_not {b : Bool} (h : TrB t σ G b) : TrB (tNot t) σ G (!b) := fun G1 M H e A Q q => h G1 M H e A _ q
theorem b_yes : TrB tYes σ G true := fun G1 M H e A Q q => q G1 H (Ex.refl _) A
theorem b_and {a b : Bool} (h1 : TrB t σ G a) (h2 : a = true → TrB u σ G b) : TrB (tAnd t u) σ G (a && b) := fun G1 M H e A Q q => by
  refine h1 G1 M H e A _ fun G2 H2 e2 A2 => ?_
  cases a with
  | true => exact h2 rfl G2 M H2 (e.trans e2) A2 Q fun G3 H3 e3 A3 => q G3 H3 (e2.trans e3) A3
  | false => exact q G2 H2 e2 A2
theorem b_or {a b : Bool} (h1 : TrB t σ G a) (h2 : a = false → TrB u σ G b) : TrB (tOr t u) σ G (a || b) := fun G1 M H e A Q q => by
  refine h1 G1 M H e A _ fun G2 H2 e2 A2 => ?_
  cases a with
  | false => exact h2 rfl G2 M H2 (e.trans e2) A2 Q fun G3 H3 e3 A3 => q G3 H3 (e2.trans e3) A3
  | true => exact q G2 H2 e2 A2
theorem v_and {a b : Bool} (h1 : TrD K ta σ G (.bool a)) (h2 : a = true → TrD K tb σ G (.bool b)) : TrD K (tAndV ta tb) σ G (.bool (a && b)) := fun G1 M H e A Q q => by
  refine h1 G1 M H e A _ fun v G2 H2 e2 A2 r => ?_
  refine ⟨a, r, ?_⟩
  cases a with
  | true => exact h2 rfl G2 M H2 (e.trans e2) A2 Q (q.mono e2)
  | false => exact (q.mono e2).here A2 rfl
theorem v_or {a b : Bool} (h1 : TrD K ta σ G (.bool a)) (h2 : a = false → TrD K tb σ G (.bool b)) : TrD K (tOrV ta tb) σ G (.bool (a || b)) := fun G1 M H e A Q q => by
  refine h1 G1 M H e A _ fun v G2 H2 e2 A2 r => ?_
  refine ⟨a, r, ?_⟩
  cases a with
  | false => exact h2 rfl G2 M H2 (e.trans e2) A2 Q (q.mono e2)
  | true => exact (q.mono e2).here A2 rfl
theorem v_not {b : Bool} (h : TrD K ta σ G (.bool b)) : TrD K (tNotV ta) σ G (.bool (!b)) := fun G1 M H e A Q q => by
  refine h G1 M H e A _ fun v G2 H2 e2 A2 r => ?_
  exact ⟨b, r, (q.mono e2).here A2 rfl⟩
/-! operators -/
theorem rd_I0 {g : Int → Int → V} {i j : Int} (h : ∀ G, Rp K G d (g i j)) : RD K (rI0 g) (.int i) (.int j) d := fun G M H x y A h1 h2 Q q => ⟨i, j, h1, h2, q.here A (h G)⟩
theorem rd_I {C : Int → Int → Prop} {g : Int → Int → V} {i j : Int} (hc : C i j) (h : ∀ G, Rp K G d (g i j)) : RD K (rI C g) (.int i) (.int j) d := fun G M H x y A h1 h2 Q q => ⟨i, j, h1, h2, hc, q.here A (h G)⟩
theorem rd_add {i j : Int} : RD K (rI0 fun i j => .int (i + j)) (.int i) (.int j) (.int (i + j)) := rd_I0 fun _ => rfl
theorem rd_sub {i j : Int} : RD K (rI0 fun i j => .int (i - j)) (.int i) (.int j) (.int (i - j)) := rd_I0 fun _ => rfl
theorem rd_lt {i j : Int} : RD K (rI0 fun i j => .bl (decide (i < j))) (.int i) (.int j) (.bool (decide (i < j))) := rd_I0 fun _ => rfl
theorem rd_le {i j : Int} : RD K (rI0 fun i j => .bl (decide (i ≤ j))) (.int i) (.int j) (.bool (decide (i ≤ j))) := rd_I0 fun _ => rfl
theorem rd_gt {i j : Int} : RD K (rI0 fun i j => .bl (decide (j < i))) (.int i) (.int j) (.bool (decide (j < i))) := rd_I0 fun _ => rfl
theorem rd_ge {i j : Int} : RD K (rI0 fun i j => .bl (decide (j ≤ i))) (.int i) (.int j) (.bool (decide (j ≤ i))) := rd_I0 fun _ => rfl
theorem rd_eqI {i j : Int} : RD K rEq (.int i) (.int j) (.bool (decide (i = j))) := fun G M H x y A h1 h2 Q q => by
  rw [show x = V.int i from h1, show y = V.int j from h2]
  exact ⟨rfl, q.here A (show V.bl _ = V.bl _ by rw [dec_int]; simp [Bool.beq_eq_decide_eq])⟩
theorem rd_neI {i j : Int} : RD K rNe (.int i) (.int j) (.bool (!decide (i = j))) := fun G M H x y A h1 h2 Q q => by
  rw [show x = V.int i from h1, show y = V.int j from h2]
  exact ⟨rfl, q.here A (show V.bl _ = V.bl _ by rw [dec_int]; simp [Bool.beq_eq_decide_eq])⟩
theorem rd_eqS {i j : Str} : RD K rEq (.str i) (.str j) (.bool (decide (i = j))) := fun G M H x y A h1 h2 Q q => by
  rw [show x = V.str i from h1, show y = V.str j from h2]
  exact ⟨rfl, q.here A (show V.bl _ = V.bl _ by rw [dec_str]; simp [Bool.beq_eq_decide_eq])⟩
theorem rd_neS {i j : Str} : RD K rNe (.str i) (.str j) (.bool (!decide (i = j))) := fun G M H x y A h1 h2 Q q => by
  rw [show x = V.str i from h1, show y = V.str j from h2]
  exact ⟨rfl, q.here A (show V.bl _ = V.bl _ by rw [dec_str]; simp [Bool.beq_eq_decide_eq])⟩
end
/-! ### statements -/
section
variable {K : PySem.W.Frag} {σ : L2.St} {G G' M H : Hp} {ta tb te : TE} {d d1 d2 d3 : PyData} {tc : TT} {ts : TA} {ds es : List PyData} {D : Ends} {s1 s2 : TS} {i : Nat}
theorem s_set (h : TrD K te σ G d) (A : At G M H) (k : ∀ v G' H', Ex G G' → At G' M H' → Rp K G' d v → D.nx (σ.set i (some v)) H') : tAsg te (gName i) D σ H := w_D h A k
theorem s_ret (h : TrD K te σ G d) (A : At G M H) (k : Res K G M d D.rt) : tRet te D σ H := w_D h A k
theorem s_if {b : Bool} (h : TrB tc σ G b) (A : At G M H) (k1 : b = true → ∀ G' H', Ex G G' → At G' M H' → s1 D σ H') (k2 : b = false → ∀ G' H', Ex G G' → At G' M H' → s2 D σ H') : tIfS tc s1 s2 D σ H := by
  refine w_B h A fun G' H' e A' => ?_
  cases b with
  | true => exact k1 rfl G' H' e A'
  | false => exact k2 rfl G' H' e A'
theorem s_ifT (h : TrB tc σ G true) (A : At G M H) (k : ∀ G' H', Ex G G' → At G' M H' → s1 D σ H') : tIfS tc s1 s2 D σ H := s_if h A (fun _ => k) (fun z => nomatch z)
theorem s_ifF (h : TrB tc σ G false) (A : At G M H) (k : ∀ G' H', Ex G G' → At G' M H' → s2 D σ H') : tIfS tc s1 s2 D σ H := s_if h A (fun z => nomatch z) (fun _ => k)
theorem g_tup {t : TGs} {v : V} {n : Nat} {Q : L2.St → Hp → Prop} (A : At G M H) (h : Rp K G (.tuple ds) v) (hn : ds.length = n) (k : ∀ xs, RpL K G ds xs → t xs σ H Q) : gTup K n t v σ H Q := by
  obtain ⟨a, xs, e, hs, hx⟩ := h
  exact ⟨a, xs, e, A.g.stt hs, by rw [hx.len, hn], k xs hx⟩
theorem wipe_set {i : Nat} {x : Option V} : wipe ((wipe σ [i]).set i x) [i] = wipe σ [i] := by
  show (((σ.set i none).set i x).set i none) = σ.set i none
  rw [List.set_set, List.set_set]
/-! comprehensions over data -/
theorem d_lcL {tl : TE} {tt : TT} {p : PyData → Bool} {f : PyData → PyData} (hl : TrD K tl σ G (.list ds)) (hn : ds.length < 100000)
    (ht : ∀ d ∈ ds, ∀ x G1, Ex G G1 → Rp K G1 d x → TrB tt ((wipe σ [i]).set i (some x)) G1 (p d))
    (he : ∀ d ∈ ds, p d = true → ∀ x G1, Ex G G1 → Rp K G1 d x → TrD K te ((wipe σ [i]).set i (some x)) G1 (f d)) :
    TrD K (tLc (iList K tl) (gName i) tt te [i]) σ G (.list ((ds.filter p).map f)) := fun G1 M H e A Q q => by
  refine hl G1 M H e A _ fun v G2 H2 e2 A2 r => ?_
  obtain ⟨a, xs, rfl, hs, hx⟩ := r
  refine ⟨a, rfl, ⟨xs, SqL.of (A2.g _ _ hs)⟩, fun D hD => ?_⟩
  refine lc_list (K := K) (a := a) (xs := xs) (fun j H => ∃ Gj acc, Ex G2 Gj ∧ At Gj (upd M D (.lst acc)) H ∧ RpL K Gj (((ds.take j).filter p).map f) acc) ⟨G2, [], Ex.refl _, A2.nm hD, rfl⟩ ?_ ?_ ?_
  · rintro j H3 _ ⟨Gj, acc, ej, Aj, _⟩
    exact SqL.of ((ej.trans Aj.g) _ _ hs)
  · rintro j x H3 hj ⟨Gj, acc, ej, Aj, rj⟩
    obtain ⟨d, hd, rd⟩ := hx.get hj
    have hm : d ∈ ds := List.mem_of_getElem? hd
    have hk : ds.take (j + 1) = ds.take j ++ [d] := by rw [List.take_add_one, hd]; rfl
    show wipe _ _ = wipe _ _ ∧ _
    refine ⟨wipe_set, ?_⟩
    refine ht d hm x Gj ((e.trans e2).trans ej) (rd.up ej) Gj _ H3 (Ex.refl _) Aj _ fun G4 H4 e4 A4 => ?_
    cases hp : p d with
    | false =>
      refine ⟨G4, acc, ej.trans e4, A4, ?_⟩
      rw [hk, List.filter_append, List.filter_cons, hp]
      simpa using rj.up e4
    | true =>
      refine he d hm hp x G4 ((e.trans e2).trans (ej.trans e4)) (rd.up (ej.trans e4)) G4 _ H4 (Ex.refl _) A4 _ fun v5 G5 H5 e5 A5 r5 => ?_
      refine ⟨acc, A5.m _ _ upd_same, ?_, G5, acc ++ [v5], ej.trans (e4.trans e5), ?_, ?_⟩
      · rw [rj.len, List.length_map]
        refine sz_lt (Nat.lt_of_le_of_lt (Nat.le_trans (List.length_filter_le _ _) ?_) hn)
        rw [List.length_take]
        exact Nat.min_le_right _ _
      · have z := A5.wr (o := .lst (acc ++ [v5])) (upd_same (H := M) (a := D) (o := .lst acc))
        rw [upd_upd] at z
        exact z
      · rw [hk, List.filter_append, List.filter_cons, hp, List.map_append]
        exact (rj.up (e4.trans e5)).snoc r5
  · rintro H3 ⟨Gj, acc, ej, Aj, rj⟩
    have hM : M D = none := A2.mNone hD
    have hl2 : ds.take xs.length = ds := by rw [hx.len, List.take_length]
    rw [hl2] at rj
    have hm := upd_same (H := M) (a := D) (o := HO.lst acc)
    refine q _ _ _ ((e2.trans ej).trans (Aj.frzG hm)) (Aj.frz hm (Ex.new hM) hM) ⟨D, acc, rfl, upd_same, rj.up (Aj.frzG hm)⟩
theorem d_lcT {tl : TE} {tt : TT} {p : PyData → Bool} {f : PyData → PyData} (hl : TrD K tl σ G (.tuple ds)) (hn : ds.length < 100000)
    (ht : ∀ d ∈ ds, ∀ x G1, Ex G G1 → Rp K G1 d x → TrB tt ((wipe σ [i]).set i (some x)) G1 (p d))
    (he : ∀ d ∈ ds, p d = true → ∀ x G1, Ex G G1 → Rp K G1 d x → TrD K te ((wipe σ [i]).set i (some x)) G1 (f d)) :
    TrD K (tLc (iTup K tl) (gName i) tt te [i]) σ G (.list ((ds.filter p).map f)) := fun G1 M H e A Q q => by
  refine hl G1 M H e A _ fun v G2 H2 e2 A2 r => ?_
  obtain ⟨a, xs, rfl, hs, hx⟩ := r
  refine ⟨a, rfl, ⟨xs, A2.g.stt hs⟩, fun D hD => ?_⟩
  refine lc_tup (K := K) (a := a) (xs := xs) (fun j H => ∃ Gj acc, Ex G2 Gj ∧ At Gj (upd M D (.lst acc)) H ∧ RpL K Gj (((ds.take j).filter p).map f) acc) ⟨G2, [], Ex.refl _, A2.nm hD, rfl⟩ ?_ ?_ ?_
  · rintro j H3 _ ⟨Gj, acc, ej, Aj, _⟩
    exact (ej.trans Aj.g).stt hs
  · rintro j x H3 hj ⟨Gj, acc, ej, Aj, rj⟩
    obtain ⟨d, hd, rd⟩ := hx.get hj
    have hm : d ∈ ds := List.mem_of_getElem? hd
    have hk : ds.take (j + 1) = ds.take j ++ [d] := by rw [List.take_add_one, hd]; rfl
    show wipe _ _ = wipe _ _ ∧ _
    refine ⟨wipe_set, ?_⟩
    refine ht d hm x Gj ((e.trans e2).trans ej) (rd.up ej) Gj _ H3 (Ex.refl _) Aj _ fun G4 H4 e4 A4 => ?_
    cases hp : p d with
    | false =>
      refine ⟨G4, acc, ej.trans e4, A4, ?_⟩
      rw [hk, List.filter_append, List.filter_cons, hp]
      simpa using rj.up e4
    | true =>
      refine he d hm hp x G4 ((e.trans e2).trans (ej.trans e4)) (rd.up (ej.trans e4)) G4 _ H4 (Ex.refl _) A4 _ fun v5 G5 H5 e5 A5 r5 => ?_
      refine ⟨acc, A5.m _ _ upd_same, ?_, G5, acc ++ [v5], ej.trans (e4.trans e5), ?_, ?_⟩
      · rw [rj.len, List.length_map]
        refine sz_lt (Nat.lt_of_le_of_lt (Nat.le_trans (List.length_filter_le _ _) ?_) hn)
        rw [List.length_take]
        exact Nat.min_le_right _ _
      · have z := A5.wr (o := .lst (acc ++ [v5])) (upd_same (H := M) (a := D) (o := .lst acc))
        rw [upd_upd] at z
        exact z
      · rw [hk, List.filter_append, List.filter_cons, hp, List.map_append]
        exact (rj.up (e4.trans e5)).snoc r5
  · rintro H3 ⟨Gj, acc, ej, Aj, rj⟩
    have hM : M D = none := A2.mNone hD
    have hl2 : ds.take xs.length = ds := by rw [hx.len, List.take_length]
    rw [hl2] at rj
    have hm := upd_same (H := M) (a := D) (o := HO.lst acc)
    refine q _ _ _ ((e2.trans ej).trans (Aj.frzG hm)) (Aj.frz hm (Ex.new hM) hM) ⟨D, acc, rfl, upd_same, rj.up (Aj.frzG hm)⟩
end
end Sb

namespace Sb
open PySem PySem.Spec PyProof.Rows L2

/-! ### defs that may be called where no repr is running -/
structure FnG (P : Program) (w : World) (K : PySem.W.Frag) (mg : Str → Option Value) (base : Heap) (CX : CXT) (k : Nat) (f : Addr) (fd : FuncData) (ps : List Str) (sp : Sp) : Prop where
  len : ∀ vs H Q E, sp vs H Q E → vs.length = ps.length
  run : ∀ (A : Around) (outer : List Env) (s : Shared) (H : Hp) (args : Args) (us : List Value) (vs : List V) (Q : VK) (E : XK), A.guards = some [] → Room k A → Env0 P w K mg base A outer s H →
    BindsTo s fd args (ps.zip us) → Vals vs us → sp vs H Q E → codeAny (model P w) A (.call (.ref f) args) (CR CX outer P w H s Q E) s
/-- a def of the module, as its callers see it -/
def Fd (P : Program) (w : World) (K : PySem.W.Frag) (mg : Str → Option Value) (base : Heap) (CX : CXT) (k : Nat) (x : Str) (sp : Sp) (dvs : List V) : Prop :=
  ∃ (f : Addr) (fd : FuncData) (ps : List Str) (ds : List Value), mg x = some (.ref f) ∧ PySem.W.keepIn K (.ref f) = true ∧ Binds K fd ps ds ∧ Vals dvs ds ∧ FnG P w K mg base CX k f fd ps sp
section
variable {P : Program} {w : World} {K : PySem.W.Frag} {mg : Str → Option Value} {base : Heap} {x qual : Str} {params : Arguments} {body : List Stmt} {scope : Scope} {dvs : List V} {kws : List (Str × V)} {f : Addr} {fd : FuncData}
theorem fnG_of {CX : CXT} {N ps : List Str} {k : Nat} {sp : Sp} (F : FunD K x qual params body scope dvs kws f fd) (S : FnScope N ps scope) (len : ∀ vs H Q E, sp vs H Q E → vs.length = ps.length)
    (hbody : ∀ (cdv : Value) (A : Around) (outer : List Env) (s : Shared) (H : Hp) (vs : List V) (Q : VK) (E : XK), A.guards = some [] → Room k (A.deeper (envOfC qual scope s.heap.objs.size f cdv)) → sp vs H Q E →
      ∃ t, PSs (cxOf CX P w K mg base N qual scope f cdv A outer s H E) body t ∧ t { nx := fun _ H' => Q .non H', rt := Q } (start N vs) H) : FnG P w K mg base CX (k + 1) f fd ps sp := by
  obtain ⟨oc, od, dV, kV, doc, pm, an, cdv, ct, osl, rfl, lk, hcd, _, _⟩ := F.ex
  refine { len := len, run := fun A outer s H args us vs Q E hg hr e0 hb r hsp => ?_ }
  have hlen := len vs H Q E hsp
  have old : ∀ b o, base.get? b = some o → s.heap.get? b = some o := fun b o e => (e0.bs b o e).1
  have kin := e0.mod.kin.keeps old
  have kinds : ∀ y ∈ ps.zip us, scope.names.lookup y.1 = some .local ∨ (scope.names.lookup y.1 = some .cell ∧ ((cellsFrom (s.heap.objs.size + 1) scope.names []).lookup y.1).isSome = true) := by
    rintro ⟨n, v⟩ hy
    exact (S.par n (List.of_mem_zip hy).1).imp id fun q => ⟨q, PySem.W.cellsFrom_some _ _ _ (.inl q)⟩
  apply codeAny_call_function hr.depth (kin _ _ lk) rfl S.co S.gen rfl (PySem.W.codeRec_of kin hcd)
  apply hb
  apply wpAny_newFunctionEnv_cells S.kind kinds
  intro env he s1 ic
  subst he
  obtain ⟨t, ht, hq⟩ := hbody cdv A outer s H vs Q E hg (hr.deeper _) hsp
  have inv := inv_start (CX := CX) (E := E) S hr.hd e0 hlen r ic
  refine ⟨(e0.mod.nolimit.keeps old).keeps ic.toInCall.keep, codeAny_func (wpAny_mono (ht.run [] s1 (start N vs) H _ inv hq) ?_ fun _ _ z => z)⟩
  rintro (_ | _ | _ | u) s' hs
  · obtain ⟨σ', H', J, q⟩ := hs
    exact ⟨V.non, H', J.os, J.bare, J.base, J.hok, rfl, q⟩
  · obtain ⟨_, _, _, q⟩ := hs
    exact q.elim
  · obtain ⟨_, _, _, q⟩ := hs
    exact q.elim
  · obtain ⟨v, σ', H', J, rv, q⟩ := hs
    exact ⟨v, H', J.os, J.bare, J.base, J.hok, rv, q⟩
end
section
variable {X : Cx} {CX : CXT} {k : Nat} {x : Str} {sp : Sp} {dvs : List V} {E : XK} {p pos : Pos} {e : Expr} {es : List Expr} {t : TA}
theorem run_fd {pins : List (Addr × Obj)} {σ : L2.St} {H : Hp} {s : Shared} {Q : VK} {us : List Value} {vs : List V} {f : Addr} {fd : FuncData} {ps : List Str} {ds : List Value} (F : FnG X.prog X.w X.K X.mg X.base CX k f fd ps sp) (hg : X.A.guards = some []) (hr : Room k X.A)
    (hb : Binds X.K fd ps ds) (hd : Vals dvs ds) (hx : Passes CX X E) (I : Inv X pins σ H s) (r : Vals vs us) (h : sp (vs ++ dvs) H Q E) : wpAny (model X.prog X.w) X.A (call (.ref f) us) (EP X pins σ Q) X.xe s := by
  have r' := r.append hd
  have l' : (us ++ ds).length = ps.length := r'.length.symm.trans (F.len _ _ _ _ h)
  apply wpAny_call
  refine codeAny_mono (F.run X.A X.stack s H ⟨us, []⟩ _ _ Q E hg hr I.env0 (hb s us I.kIn l') r' h) ?_
  rintro (e | (_ | _ | _ | u)) s' hq
  · exact hx pins σ H s e s' I hq
  · exact hq.elim
  · exact hq.elim
  · exact hq.elim
  · exact I.after hq
theorem pe_fd (F : Fd X.prog X.w X.K X.mg X.base CX k x sp dvs) (hg : X.A.guards = some []) (hr : Room k X.A) (hx : Passes CX X E) (ha : PA X (e :: es) t) (hgl : Gl X x := by rfl)
    (hdb : (x == ("__debug__" : Str)) = false := by decide) (he : starEach (e :: es) X.env = (false, eval e X.env) :: starEach es X.env := by rfl) (hpl : (backTo pos (starEach es X.env)).any (·.1) = false := by rfl) :
    PE X (.Call (.Name x p) (e :: es) [] pos) (tCall sp dvs E t) := by
  obtain ⟨f, fd, ps, ds, hm, hk, hb, hd, F⟩ := F
  constructor
  intro pins s σ H Q I h
  apply wpAny_Call_Name_kw
  refine ld_glob I hgl hm ?_ hdb
  refine PySem.W.callWith_K (h₀ := X.base) I.ok.mod.kin hk (thn (ha.run pos pins s σ H _ I h) ?_) he hpl
  rintro us s1 ⟨vs, H1, I1, r, q⟩
  exact ⟨I1.kIn, run_fd F hg hr hb hd hx I1 r q⟩
theorem Fd.mono {P : Program} {w : World} {K : PySem.W.Frag} {mg : Str → Option Value} {base : Heap} {j : Nat} (F : Fd P w K mg base CX j x sp dvs) (h : j ≤ k) : Fd P w K mg base CX k x sp dvs := by
  obtain ⟨f, fd, ps, ds, hm, hk, hb, hd, F⟩ := F
  exact ⟨f, fd, ps, ds, hm, hk, hb, hd, F.len, fun A outer s H args us vs Q E g hr => F.run A outer s H args us vs Q E g (hr.mono h)⟩
end
theorem PSp.len {K : PySem.W.Frag} {R : List PyData → PyData → Prop} {n : Nat} (h : ∀ ds r, R ds r → ds.length = n) {vs : List V} {H : Hp} {Q : VK} {E : XK} (q : PSp K R vs H Q E) : vs.length = n := by
  obtain ⟨G, M, ds, r, _, rl, hr, _⟩ := q
  rw [rl.len, h _ _ hr]

/-! ### data read off a heap; repr; == -/
mutual
def noDic : PyData → Bool
  | .none | .bool _ | .int _ => true
  | .str _ => true
  | .list xs | .tuple xs => noDics xs
  | .dict _ => false
def noDics : List PyData → Bool
  | [] => true
  | x :: xs => noDic x && noDics xs
end
mutual
def noLst : PyData → Bool
  | .none | .bool _ | .int _ => true
  | .str _ => true
  | .list _ => false
  | .tuple xs => noLsts xs
  | .dict kvs => noLstD kvs
def noLsts : List PyData → Bool
  | [] => true
  | x :: xs => noLst x && noLsts xs
def noLstD : List (PyData × PyData) → Bool
  | [] => true
  | (_, y) :: xs => noLst y && noLstD xs
end
section
variable {K : PySem.W.Frag} {H : Hp}
mutual
theorem dp_of : ∀ (d : PyData) {v : V}, noDic d = true → Rp K H d v → Dp K H v d
  | .none, v, _, h => by rw [show v = V.non from h]; exact .non
  | .bool b, v, _, h => by rw [show v = V.bl b from h]; exact .bl b
  | .int b, v, _, h => by rw [show v = V.int b from h]; exact .int b
  | .str b, v, _, h => by rw [show v = V.str b from h]; exact .str b
  | .list ds, v, n, ⟨a, xs, e, h1, h2⟩ => by rw [e]; exact .lst (SqL.of h1) (dpL_of ds (by simpa [noDic] using n) h2)
  | .tuple ds, v, n, ⟨a, xs, e, h1, h2⟩ => by rw [e]; exact .tup h1 (dpL_of ds (by simpa [noDic] using n) h2)
  | .dict ds, v, n, _ => by simp [noDic] at n
theorem dpL_of : ∀ (ds : List PyData) {vs : List V}, noDics ds = true → RpL K H ds vs → DpAll K H vs ds
  | [], vs, _, h => by rw [show vs = [] from h]; exact .nil
  | d :: ds, vs, n, ⟨x, r, e, h1, h2⟩ => by
    have n' : noDic d = true ∧ noDics ds = true := by simpa [noDics] using n
    rw [e]
    exact .cons (dp_of d n'.1 h1) (dpL_of ds n'.2 h2)
end
end
theorem noDic_of_canLay {d : PyData} (h : SeqAt.shaped d = true) : noDic d = true := go d (SeqAt.canLay_of_shaped h)
where
  go : ∀ (d : PyData), d.canLay0 = true → noDic d = true
    | .none, _ => by simp [noDic]
    | .bool _, _ => by simp [noDic]
    | .int _, _ => by simp [noDic]
    | .str _, _ => by simp [noDic]
    | .list ds, h => by simp only [noDic]; exact goL ds (by simpa [PyData.canLay0] using h)
    | .tuple ds, h => by simp only [noDic]; exact goL ds (by simpa [PyData.canLay0] using h)
    | .dict ds, h => by simp [PyData.canLay0] at h
  goL : ∀ (ds : List PyData), PyData.canLayAll0 ds = true → noDics ds = true
    | [], _ => by simp [noDics]
    | d :: ds, h => by
      have h' : d.canLay0 = true ∧ PyData.canLayAll0 ds = true := by simpa [PyData.canLayAll0] using h
      simp only [noDics, Bool.and_eq_true]
      exact ⟨go d h'.1, goL ds h'.2⟩
section
variable {X : Cx}
def rEqR (K : PySem.W.Frag) : R2 := fun x y H Q => ∃ G d e, Ex G H ∧ Rp K G d x ∧ Rp K G e y ∧ SeqAt.shaped d = true ∧ SeqAt.shaped e = true ∧ Q (.bl (PyData.eqv d e)) H
def rNeR (K : PySem.W.Frag) : R2 := fun x y H Q => ∃ G d e, Ex G H ∧ Rp K G d x ∧ Rp K G e y ∧ SeqAt.shaped d = true ∧ SeqAt.shaped e = true ∧ Q (.bl (!PyData.eqv d e)) H
theorem op_eqR (hu : X.A.units + 64 < cLine) : OpR X (compareOp .Eq) (rEqR X.K) := by
  intro pins s σ H x y v u Q I rx ry h
  obtain ⟨G, d, e, g, h1, h2, s1, s2, q⟩ := h
  exact op_eqD hu pins s σ H x y v u Q I rx ry ⟨d, e, dp_of d (noDic_of_canLay s1) (h1.up g), dp_of e (noDic_of_canLay s2) (h2.up g), s1, s2, q⟩
theorem op_neR (hu : X.A.units + 64 < cLine) : OpR X (compareOp .NotEq) (rNeR X.K) := by
  intro pins s σ H x y v u Q I rx ry h
  obtain ⟨G, d, e, g, h1, h2, s1, s2, q⟩ := h
  exact op_neD hu pins s σ H x y v u Q I rx ry ⟨d, e, dp_of d (noDic_of_canLay s1) (h1.up g), dp_of e (noDic_of_canLay s2) (h2.up g), s1, s2, q⟩
end
theorem rd_eqR {K : PySem.W.Frag} {d e : PyData} (s1 : SeqAt.shaped d = true) (s2 : SeqAt.shaped e = true) : RD K (rEqR K) d e (.bool (PyData.eqv d e)) := fun G M H x y A h1 h2 Q q => ⟨G, d, e, A.g, h1, h2, s1, s2, q.here A rfl⟩
theorem rd_neR {K : PySem.W.Frag} {d e : PyData} (s1 : SeqAt.shaped d = true) (s2 : SeqAt.shaped e = true) : RD K (rNeR K) d e (.bool (!PyData.eqv d e)) := fun G M H x y A h1 h2 Q q => ⟨G, d, e, A.g, h1, h2, s1, s2, q.here A rfl⟩

/-! what stands in the model's heap -/
theorem noDic_hasDict : ∀ (d : PyData), noDic d = true → d.hasDict = false
  | .none, _ => by simp [PyData.hasDict]
  | .bool _, _ => by simp [PyData.hasDict]
  | .int _, _ => by simp [PyData.hasDict]
  | .str _, _ => by simp [PyData.hasDict]
  | .list ds, h => by simp only [PyData.hasDict]; exact go ds (by simpa [noDic] using h)
  | .tuple ds, h => by simp only [PyData.hasDict]; exact go ds (by simpa [noDic] using h)
  | .dict ds, h => by simp [noDic] at h
where
  go : ∀ (ds : List PyData), noDics ds = true → PyData.hasDictAll ds = false
    | [], _ => by simp [PyData.hasDictAll]
    | d :: ds, h => by
      have h' : noDic d = true ∧ noDics ds = true := by simpa [noDics] using h
      simp only [PyData.hasDictAll, Bool.or_eq_false_iff]
      exact ⟨noDic_hasDict d h'.1, go ds h'.2⟩
section
variable {X : Cx} {pins : List (Addr × Obj)} {σ : L2.St} {H : Hp} {s : Shared}
theorem key_reads {k : Key} {v : Value} (h : keyIs k v = true) : Reads s.heap v (kD k) [] := by
  rcases keyIs_shape h with ⟨i, t, rfl, rfl⟩ | ⟨x, t, rfl, rfl⟩
  · exact .int i t
  · exact .str x t
theorem keys_reads : ∀ (ds : List (PyData × PyData)) {K : PySem.W.Frag} {es : List (Key × V)} {us : List (Key × Value)} {xs : List DictEntry}, RpD K H ds es → KV es us → Pairs (mixKind X.prog X.w) xs us →
    ReadsAll s.heap (xs.map (·.key)) (ds.map (·.1)) []
  | [], K, es, us, xs, h, r, p => by
    rw [show es = [] from h] at r
    cases r
    cases p
    exact .nil
  | (k, d) :: ds, K, es, us, xs, ⟨x, y, t, e, h0, h1, h2⟩, r, p => by
    rw [e] at r
    cases r with
    | cons r1 r2 =>
      cases p with
      | cons p0 p1 p2 =>
        have a := keys_reads ds h2 r2 p2
        have q := p0
        rw [← r1.1] at q
        have b := key_reads (s := s) q
        rw [h0] at b
        exact .cons b a
mutual
theorem Rp.reads (I : Inv X pins σ H s) : ∀ (d : PyData) {v : V} {u : Value}, Rp X.K H d v → RelV v u → ∃ as, Reads s.heap u d as ∧ (noLst d = true → sysModules ∉ as)
  | .none, v, u, h, r => by
    rw [show v = V.non from h] at r
    rw [show u = Value.none from r]
    exact ⟨_, .none, fun _ => by simp⟩
  | .bool b, v, u, h, r => by
    rw [show v = V.bl b from h] at r
    rw [show u = Value.bool b from r]
    exact ⟨_, .bool b, fun _ => by simp⟩
  | .int b, v, u, h, r => by
    rw [show v = V.int b from h] at r
    obtain ⟨t, e⟩ := r
    rw [e]
    exact ⟨_, .int b t, fun _ => by simp⟩
  | .str b, v, u, h, r => by
    rw [show v = V.str b from h] at r
    obtain ⟨t, e⟩ := r
    rw [e]
    exact ⟨_, .str b t, fun _ => by simp⟩
  | .list ds, v, u, ⟨a, xs, e, h1, h2⟩, r => by
    rw [e] at r
    rw [show u = Value.ref a from r]
    obtain ⟨its, rv, pl, _⟩ := I.list (SqL.of h1)
    obtain ⟨o, n, g1, g2, _, g3⟩ := pl
    obtain ⟨as, k1, _⟩ := RpL.reads I ds h2 rv
    exact ⟨_, .list g1 g2 g3 (by simpa using k1), fun z => by simp [noLst] at z⟩
  | .tuple ds, v, u, ⟨a, xs, e, h1, h2⟩, r => by
    rw [e] at r
    rw [show u = Value.ref a from r]
    obtain ⟨its, rv, ⟨o, g1, g2, n, g3⟩, _⟩ := I.tuple h1
    obtain ⟨as, k1, k2⟩ := RpL.reads I ds h2 rv
    exact ⟨as, .tuple g1 g2 g3 (by simpa using k1), fun z => k2 (by simpa [noLst] using z)⟩
  | .dict kvs, v, u, ⟨a, es, e, h1, h2⟩, r => by
    rw [e] at r
    rw [show u = Value.ref a from r]
    obtain ⟨_, hs, vs, kv, o, xs, ep, g1, g2, g3, _, g4, _⟩ := I.hok a _ h1
    have hs' : a ≠ sysModules := by simpa using hs
    obtain ⟨bs, k1, k2⟩ := RpD.reads I kvs h2 kv g4
    have k3 := keys_reads (X := X) (s := s) kvs h2 kv g4
    refine ⟨_, .dict g1 g2.1 g3 k3 k1, fun n z => ?_⟩
    rcases List.mem_cons.mp z with z | z
    · exact hs' z.symm
    · exact k2 (by simpa [noLst] using n) (by simpa using z)
theorem RpL.reads (I : Inv X pins σ H s) : ∀ (ds : List PyData) {vs : List V} {us : List Value}, RpL X.K H ds vs → Vals vs us → ∃ as, ReadsAll s.heap us ds as ∧ (noLsts ds = true → sysModules ∉ as)
  | [], vs, us, h, r => by
    rw [show vs = [] from h] at r
    cases r
    exact ⟨_, .nil, fun _ => by simp⟩
  | d :: ds, vs, us, ⟨x, xs, e, h1, h2⟩, r => by
    rw [e] at r
    cases r with
    | cons r1 r2 =>
      obtain ⟨as, k1, k2⟩ := Rp.reads I d h1 r1
      obtain ⟨bs, k3, k4⟩ := RpL.reads I ds h2 r2
      refine ⟨_, .cons k1 k3, fun n w => ?_⟩
      have n' : noLst d = true ∧ noLsts ds = true := by simpa [noLsts] using n
      rcases List.mem_append.mp w with w | w
      · exact k2 n'.1 w
      · exact k4 n'.2 w
theorem RpD.reads (I : Inv X pins σ H s) : ∀ (ds : List (PyData × PyData)) {es : List (Key × V)} {us : List (Key × Value)} {xs : List DictEntry}, RpD X.K H ds es → KV es us → Pairs (mixKind X.prog X.w) xs us →
    ∃ as, ReadsAll s.heap (xs.map (·.val)) (ds.map (·.2)) as ∧ (noLstD ds = true → sysModules ∉ as)
  | [], es, us, xs, h, r, p => by
    rw [show es = [] from h] at r
    cases r
    cases p
    exact ⟨_, .nil, fun _ => by simp⟩
  | (k, d) :: ds, es, us, xs, ⟨x, y, t, e, h0, h1, h2⟩, r, p => by
    rw [e] at r
    cases r with
    | cons r1 r2 =>
      cases p with
      | cons p0 p1' p2 =>
        have r1' := r1.2
        obtain ⟨as, k1, k2⟩ := Rp.reads I d h1 r1'
        obtain ⟨bs, k3, k4⟩ := RpD.reads I ds h2 r2 p2
        refine ⟨as ++ bs, .cons (cast (by show Reads s.heap _ d as = Reads s.heap _ d as; exact congrArg (fun z => Reads s.heap z d as) p1'.symm) k1) k3, fun n w => ?_⟩
        have n' : noLst d = true ∧ noLstD ds = true := by simpa [noLstD] using n
        rcases List.mem_append.mp w with w | w
        · exact k2 n'.1 w
        · exact k4 n'.2 w
end
def rRepr (K : PySem.W.Frag) : List V → Hp → VK → Prop := fun xs H Q => ∃ G d v, Ex G H ∧ xs = [v] ∧ Rp K G d v ∧ (noLst d = true ∨ noDic d = true) ∧ isDisplay d = true ∧ d.showable = true ∧ d.depth ≤ 60 ∧ d.shown.length ≤ sizeLine ∧ Q (.str d.shown) H
theorem call_reprR (hg : X.A.guards = some []) (hu : X.A.units + 64 < cLine) : CallR X (.builtin "repr") (rRepr X.K) := by
  intro pins s σ H xs us Q I r h
  obtain ⟨G, d, v, g, rfl, h1, h2, h3, h4, h5, h6, q⟩ := h
  cases r with
  | cons r1 r2 =>
    cases r2
    obtain ⟨as, k1, k2⟩ := Rp.reads I d (h1.up g) r1
    have k3 : d.hasDict = true → sysModules ∉ as := fun z => by
      rcases h2 with n | n
      · exact k2 n
      · rw [noDic_hasDict d n] at z
        cases z
    obtain ⟨a, rfl⟩ := isRef_of_reads k1 h3
    exact repr_of_reads' k1 h4 k3 hg (by omega) (fun _ _ e => e) (fun h' u tk hk => ⟨.str d.shown, H, I.kept hk, ⟨u, rfl⟩, q⟩) h6
end
theorem rc_repr {K : PySem.W.Frag} {d : PyData} (h2 : noLst d = true ∨ noDic d = true) (h3 : isDisplay d = true) (h4 : d.showable = true) (h5 : d.depth ≤ 60) (h6 : d.shown.length ≤ sizeLine) : RC K (rRepr K) [d] (.str d.shown) :=
  fun G M H xs A ⟨x, r, e, h, h'⟩ Q q => by
    rw [e, show r = [] from h']
    exact ⟨G, d, x, A.g, rfl, h, h2, h3, h4, h5, h6, q.here A rfl⟩
end Sb

namespace Sb
open PySem PySem.Spec PyProof.Rows L2

/-! ### rules that the layer lacks -/
section
variable {X : Cx}
def CPowW (i j : Int) : Prop := 0 ≤ j ∧ (Builtin.Int.intBits i : Int) * j ≤ 2 ^ 27
theorem op_powW : OpR X (binaryOp .Pow) (rI CPowW fun i j => .int (i ^ j.toNat)) := opI fun _ _ _ _ _ _ _ hc q => pow_int hc.1 hc.2 q
def rMulS : R2 := fun x y H Q => ∃ z n, x = .str z ∧ y = .int n ∧ MulOk z n ∧ Q (.str (Txt.mul z n)) H
theorem op_mulS : OpR X (binaryOp .Mult) rMulS := by
  intro pins s σ H x y v u Q I rx ry h
  obtain ⟨z, n, rfl, rfl, ok, q⟩ := h
  obtain ⟨t, rfl⟩ := rx
  obtain ⟨t', rfl⟩ := ry
  exact SB.mul ok fun t2 k => ⟨.str _, H, I.tok k, ⟨t2, rfl⟩, q⟩
def signs (z : Str) : List V := z.cps.toList.map fun c => V.str ⟨#[c]⟩
def rListS : List V → Hp → VK → Prop := fun xs H Q => ∃ z, xs = [.str z] ∧ z.cps.size ≤ sizeLine ∧ ∀ p, H p = none → Q (.ref p) (upd H p (.lst (signs z)))
theorem call_listS (hc : X.calm = true) : CallR X (.type "list") rListS := by
  intro pins s σ H xs us Q I r h
  obtain ⟨z, rfl, hz, q⟩ := h
  cases r with
  | cons r1 r2 =>
    cases r2
    obtain ⟨t, rfl⟩ := r1
    refine call_list_str (I.ok.hd hc) z t (fun h' tk acc c' hk hl hi => ?_) hz
    have rv : Vals (signs z) acc.toList := by
      have size : acc.toList.length = z.cps.toList.length := by simpa using hi.1
      have at_ : ∀ (j : Nat) v, acc.toList[j]? = some v → ∃ c u, z.cps.toList[j]? = some c ∧ v = .str ⟨#[c]⟩ u := fun j v e => by
        obtain ⟨c, u, e1, e2⟩ := hi.2 j v (by simpa using e)
        exact ⟨c, u, by simpa using e1, e2⟩
      revert size at_
      show ∀ (size : acc.toList.length = z.cps.toList.length) (at_ : ∀ (j : Nat) v, acc.toList[j]? = some v → ∃ c u, z.cps.toList[j]? = some c ∧ v = .str ⟨#[c]⟩ u), Vals (z.cps.toList.map fun c => V.str ⟨#[c]⟩) acc.toList
      generalize acc.toList = us
      generalize z.cps.toList = cs
      intro size at_
      induction cs generalizing us with
      | nil =>
        cases us with
        | nil => exact .nil
        | cons _ _ => simp at size
      | cons c cs ih =>
        cases us with
        | nil => simp at size
        | cons v us =>
          obtain ⟨c', u, e1, e2⟩ := at_ 0 v rfl
          have e3 : c = c' := by simpa using e1
          rw [e2, ← e3]
          exact .cons ⟨u, rfl⟩ (ih us (by simpa using size) fun j v e => by simpa using at_ (j + 1) v (by simpa using e))
    refine ⟨.ref s.heap.objs.size, _, I.laid (t' := tk) (o := .lst (signs z)) hk (Nat.le_refl _) ?_, rfl, q _ (I.hok.fresh (Nat.le_refl _))⟩
    refine ⟨by unfold signs; simpa using hz, acc.toList, c', rv, ?_⟩
    rw [hl]
/-- a dict and an empty one -/
def rEqE : R2 := fun x y H Q => ∃ a b kvs, x = .ref a ∧ y = .ref b ∧ H a = some (.dK kvs) ∧ H b = some (.dK []) ∧ Q (.bl kvs.isEmpty) H
theorem op_eqE (hu : X.A.units + 64 < cLine) : OpR X (compareOp .Eq) rEqE := by
  intro pins s σ H x y v u Q I rx ry h
  obtain ⟨a, b, kvs, rfl, rfl, h1, h2, q⟩ := h
  cases (show v = Value.ref a from rx)
  cases (show u = Value.ref b from ry)
  obtain ⟨_, ya, va, ra, da⟩ := I.hok a _ h1
  obtain ⟨_, yb, vb, rb, db⟩ := I.hok b _ h2
  cases rb
  have la := ra.length
  refine PySem.W.rcP_dicts (knd := mixKind X.prog X.w) (r := true) ya yb da db (by omega) (fun z => ?_) _ _ ?_
  · cases va with
    | nil => exact .nil
    | cons _ _ => simp at z
  · have e : (va.length == ([] : List (Key × Value)).length && true) = kvs.isEmpty := by
      cases kvs with
      | nil =>
        cases va with
        | nil => rfl
        | cons _ _ => simp at la
      | cons _ _ =>
        cases va with
        | nil => simp at la
        | cons _ _ => rfl
    rw [e]
    exact ⟨.bl _, H, I, rfl, q⟩
end

/-! ### isinstance -/
def kindOf : PyData → String
  | .none => "NoneType"
  | .bool _ => "bool"
  | .int _ => "int"
  | .str _ => "str"
  | .list _ => "list"
  | .tuple _ => "tuple"
  | .dict _ => "dict"
def isA (n : String) (d : PyData) : Bool := kindOf d == n || (n == "int" && kindOf d == "bool")
section
variable {K : PySem.W.Frag} {σ : L2.St} {G G' M H : Hp} {ta tb te : TE} {d d1 d2 d3 : PyData} {tt t u : TT} {ts : TA} {ds es : List PyData} {Q : VK}
theorem tyx_of {v : V} (h : Rp K G d v) : TyX K G v (.type (kindOf d)) := by
  cases d with
  | none => rw [show v = V.non from h]; exact .base .non
  | bool b => rw [show v = V.bl b from h]; exact .base (.bl b)
  | int b => rw [show v = V.int b from h]; exact .base (.int b)
  | str b => rw [show v = V.str b from h]; exact .base (.str b)
  | list ds => obtain ⟨a, xs, rfl, h1, _⟩ := h; exact .base (.lst h1)
  | dict ds => obtain ⟨a, xs, rfl, h1, _⟩ := h; exact .base (.dK h1)
  | tuple ds =>
    obtain ⟨a, xs, rfl, h1, _⟩ := h
    rcases h1 with (h1 | ⟨o, h1⟩) | h1
    · exact .base (.tup h1)
    · exact .fTuple h1
    · obtain ⟨o, its, n, e, c, _⟩ := h1
      exact .kTuple e c
theorem kit_all : ∀ n ∈ ["int", "bool", "str", "list", "tuple", "dict"], ∀ k ∈ ["NoneType", "bool", "int", "str", "list", "tuple", "dict"], kitB k n = some (k == n || (n == "int" && k == "bool")) := by decide +kernel
theorem kind_mem (d : PyData) : kindOf d ∈ ["NoneType", "bool", "int", "str", "list", "tuple", "dict"] := by cases d <;> simp [kindOf]
theorem d_isi {n : String} (h : TrD K ta σ G d) (hn : n ∈ ["int", "bool", "str", "list", "tuple", "dict"] := by decide) : TrD K (tCB (rIsi K) (tCons ta (tCons (tC (.ty n)) tNil))) σ G (.bool (isA n d)) := fun G1 M H e A Q q => by
  refine h G1 M H e A _ fun v G2 H2 e2 A2 r => ?_
  refine ⟨v, .ty n, .type (kindOf d), .type n, isA n d, rfl, .ty n, ?_, kit_ty (kit_all n hn _ (kind_mem d)), (q.mono e2).here A2 rfl⟩
  exact tyx_of (r.up A2.g)

/-! ### ints -/
theorem rd_mul {i j : Int} (h : CMulW i j) : RD K (rI CMulW fun i j => .int (i * j)) (.int i) (.int j) (.int (i * j)) := rd_I h fun _ => rfl
theorem rd_mod {i j : Int} (h : 0 < j) : RD K (rI (fun _ j => 0 < j) fun i j => .int (i % j)) (.int i) (.int j) (.int (i % j)) := rd_I h fun _ => rfl
theorem rd_fdiv {i j : Int} (h : CDivW i j) : RD K (rI CDivW fun i j => .int (i / j)) (.int i) (.int j) (.int (i / j)) := rd_I h fun _ => rfl
theorem rd_pow {i j : Int} (h : CPow i j) : RD K (rI CPow fun i j => .int (i ^ j.toNat)) (.int i) (.int j) (.int (i ^ j.toNat)) := rd_I h fun _ => rfl
theorem rd_powW {i j : Int} (h : CPowW i j) : RD K (rI CPowW fun i j => .int (i ^ j.toNat)) (.int i) (.int j) (.int (i ^ j.toNat)) := rd_I h fun _ => rfl
def rInt1 : List V → Hp → VK → Prop := fun xs H Q => (∃ i, xs = [.int i] ∧ Q (.int i) H) ∨ ∃ k, xs = [.bl k] ∧ Q (.int (if k then 1 else 0)) H
theorem call_int1' {X : Cx} : CallR X (.type "int") rInt1 := call_int1
theorem rc_int1 {i : Int} : RC K rInt1 [.int i] (.int i) := fun G M H xs A ⟨x, r, e, h, h'⟩ Q q => by
  rw [e, show r = [] from h', show x = V.int i from h]
  exact .inl ⟨i, rfl, q.here A rfl⟩
def rStrI : List V → Hp → VK → Prop := fun xs H Q => ∃ i, xs = [.int i] ∧ i.natAbs.log2 < 1920 ∧ Q (.str (toString i)) H
theorem call_strI {X : Cx} : CallR X (.type "str") rStrI := call_str_int
theorem rc_strI {i : Int} (h0 : i.natAbs.log2 < 1920) : RC K rStrI [.int i] (.str (toString i)) := fun G M H xs A ⟨x, r, e, h, h'⟩ Q q => by
  rw [e, show r = [] from h', show x = V.int i from h]
  exact ⟨i, rfl, h0, q.here A rfl⟩
def rIntS : List V → Hp → VK → Prop := fun xs H Q => ∃ a n, xs = [.str a] ∧ PySem.intText? a = some n ∧ a.length ≤ 640 ∧ Q (.int n) H
theorem call_intS {X : Cx} : CallR X (.type "int") rIntS := call_int_str
theorem rc_intS {a : Str} {n : Int} (h0 : PySem.intText? a = some n) (h1 : a.length ≤ 640) : RC K rIntS [.str a] (.int n) := fun G M H xs A ⟨x, r, e, h, h'⟩ Q q => by
  rw [e, show r = [] from h', show x = V.str a from h]
  exact ⟨a, n, rfl, h0, h1, q.here A rfl⟩
def rMax2 : List V → Hp → VK → Prop := fun xs H Q => ∃ i j, xs = [.int i, .int j] ∧ Q (.int (if j > i then j else i)) H
def rMin2 : List V → Hp → VK → Prop := fun xs H Q => ∃ i j, xs = [.int i, .int j] ∧ Q (.int (if j < i then j else i)) H
def rAbs : List V → Hp → VK → Prop := fun xs H Q => ∃ i, xs = [.int i] ∧ Q (.int (if i < 0 then -i else i)) H
theorem call_max2' {X : Cx} (hc : X.calm = true) : CallR X (.builtin "max") rMax2 := call_max2 hc
theorem call_min2' {X : Cx} (hc : X.calm = true) : CallR X (.builtin "min") rMin2 := call_min2 hc
theorem call_abs' {X : Cx} : CallR X (.builtin "abs") rAbs := call_abs
theorem rc_max2 {i j : Int} : RC K rMax2 [.int i, .int j] (.int (if j > i then j else i)) := fun G M H xs A ⟨x, r, e, h, ⟨y, r', e', h', h''⟩⟩ Q q => by
  rw [e, e', show r' = [] from h'', show x = V.int i from h, show y = V.int j from h']
  exact ⟨i, j, rfl, q.here A rfl⟩
theorem rc_min2 {i j : Int} : RC K rMin2 [.int i, .int j] (.int (if j < i then j else i)) := fun G M H xs A ⟨x, r, e, h, ⟨y, r', e', h', h''⟩⟩ Q q => by
  rw [e, e', show r' = [] from h'', show x = V.int i from h, show y = V.int j from h']
  exact ⟨i, j, rfl, q.here A rfl⟩
theorem rc_abs {i : Int} : RC K rAbs [.int i] (.int (if i < 0 then -i else i)) := fun G M H xs A ⟨x, r, e, h, h'⟩ Q q => by
  rw [e, show r = [] from h', show x = V.int i from h]
  exact ⟨i, rfl, q.here A rfl⟩

/-! ### sequences -/
def sizeD : PyData → Nat
  | .str x => x.length
  | .list ds => ds.length
  | .tuple ds => ds.length
  | .dict ds => ds.length
  | _ => 0
def rLen (K : PySem.W.Frag) : List V → Hp → VK → Prop := fun xs H Q => ∃ x n, xs = [x] ∧ LenV K x H n ∧ Q (.int n) H
theorem call_len' {X : Cx} : CallR X (.builtin "len") (rLen X.K) := call_len
theorem rc_lenT : RC K (rLen K) [.tuple ds] (.int ds.length) := fun G M H xs A ⟨x, r, e, ⟨a, ys, h1, h2, h3⟩, h'⟩ Q q => by
  rw [e, show r = [] from h', h1]
  exact ⟨_, ds.length, rfl, .inr ⟨ys, A.g.stt h2, h3.len.symm⟩, q.here A rfl⟩
theorem rc_lenL : RC K (rLen K) [.list ds] (.int ds.length) := fun G M H xs A ⟨x, r, e, ⟨a, ys, h1, h2, h3⟩, h'⟩ Q q => by
  rw [e, show r = [] from h', h1]
  exact ⟨_, ds.length, rfl, .inl ⟨ys, SqL.of (A.g _ _ h2), h3.len.symm⟩, q.here A rfl⟩
theorem rc_lenS {z : Str} (hz : z.length ≤ sizeLine) : RC K (rLen K) [.str z] (.int z.length) := fun G M H xs A ⟨x, r, e, h, h'⟩ Q q => by
  rw [e, show r = [] from h', show x = V.str z from h]
  exact ⟨_, z.length, rfl, ⟨hz, rfl⟩, q.here A rfl⟩
def rLenD : List V → Hp → VK → Prop := fun xs H Q => ∃ a kvs, xs = [V.ref a] ∧ H a = some (.dK kvs) ∧ Q (.int kvs.length) H
theorem call_lenD' {X : Cx} : CallR X (.builtin "len") rLenD := call_lenD
theorem RpD.len : ∀ {ds : List (PyData × PyData)} {xs : List (Key × V)}, RpD K G ds xs → xs.length = ds.length
  | [], _, h => by rw [show _ = [] from h]; rfl
  | (_, _) :: ds, _, ⟨_, _, r, h1, _, _, h3⟩ => by rw [h1, List.length_cons, List.length_cons, RpD.len h3]
theorem rc_lenD {kvs : List (PyData × PyData)} : RC K rLenD [.dict kvs] (.int kvs.length) := fun G M H xs A ⟨x, r, e, ⟨a, ys, h1, h2, h3⟩, h'⟩ Q q => by
  rw [e, show r = [] from h', h1]
  exact ⟨a, ys, rfl, A.g _ _ h2, q.here A (show V.int _ = V.int _ by rw [h3.len])⟩
theorem RpL.atI {xs : List V} {i : Int} (h : RpL K G ds xs) (e : atI ds i = some d) : ∃ x, L2.atI xs i = some x ∧ Rp K G d x := by
  unfold L2.atI at e ⊢
  rw [h.len]
  cases q : ixN ds.length i with
  | none =>
    rw [q] at e
    cases e
  | some j =>
    rw [q] at e
    exact h.at e
theorem rd_ixT {i : Int} (h : atI ds i = some d) : RD K (rIxT K) (.tuple ds) (.int i) d := fun G M H x y A ⟨a, xs, h1, h2, h3⟩ h4 Q q => by
  obtain ⟨z, e, r⟩ := h3.atI h
  exact ⟨a, xs, i, z, h1, h4, A.g.stt h2, e, q.here A r⟩
theorem rd_ixL {i : Int} (h : atI ds i = some d) : RD K (rIxL K) (.list ds) (.int i) d := fun G M H x y A ⟨a, xs, h1, h2, h3⟩ h4 Q q => by
  obtain ⟨z, e, r⟩ := h3.atI h
  exact ⟨a, xs, i, z, h1, h4, SqL.of (A.g _ _ h2), e, q.here A r⟩
theorem rd_ixS {z : Str} {i : Int} {c : Nat} (hz : z.length ≤ sizeLine) (h : atI z.cps.toList i = some c) : RD K rIxS (.str z) (.int i) (.str ⟨#[c]⟩) := fun G M H x y A h1 h2 Q q => ⟨z, i, c, h1, h2, hz, h, q.here A rfl⟩
theorem rd_cat (hn : ds.length + es.length ≤ 100000) : RD K rCat (.list ds) (.list es) (.list (ds ++ es)) := fun G M H x y A ⟨a, xs, h1, h2, h3⟩ ⟨b, ys, k1, k2, k3⟩ Q q =>
  ⟨a, b, xs, ys, h1, k1, A.g _ _ h2, A.g _ _ k2, by rw [h3.len, k3.len]; exact sz_of hn, fun p hp => q.newG A hp ⟨p, _, rfl, upd_same, (h3.app k3).up (Ex.new (A.gNone hp))⟩⟩
theorem rd_addS {x y : Str} (h : x.length + y.length ≤ sizeLine) : RD K (fun x y H Q => ∃ i j, x = .str i ∧ y = .str j ∧ i.length + j.length ≤ sizeLine ∧ Q (.str (i ++ j)) H) (.str x) (.str y) (.str (x ++ y)) :=
  fun G M H v u A h1 h2 Q q => ⟨x, y, h1, h2, h, q.here A rfl⟩
def cutD (ds : List PyData) (lo hi : Option Int) : List PyData := (ds.drop (HT.sIx ds.length 0 lo)).take (HT.sIx ds.length ds.length hi - HT.sIx ds.length 0 lo)
theorem RpL.cut {xs : List V} {lo hi : Option Int} (h : RpL K G ds xs) : RpL K G (cutD ds lo hi) (cutV xs lo hi) := by
  unfold cutD cutV
  rw [h.len]
  exact (h.drop _).take _
def TrO (to : TO) (σ : L2.St) (G : Hp) (o : Option Int) : Prop := ∀ G1 M H, Ex G G1 → At G1 M H → ∀ Q : Option Int → Hp → Prop, (∀ G' H', Ex G1 G' → At G' M H' → Q o H') → to σ H Q
theorem o_none : TrO tNoPart σ G none := fun G1 M H e A Q q => q G1 H (Ex.refl _) A
theorem o_some {i : Int} (h : TrD K te σ G (.int i)) : TrO (tPart te) σ G (some i) := fun G1 M H e A Q q => by
  refine h G1 M H e A _ fun v G2 H2 e2 A2 r => ?_
  exact ⟨i, r, q G2 H2 e2 A2⟩
theorem d_slL {tl th : TO} {lo hi : Option Int} (h : TrD K te σ G (.list ds)) (h1 : TrO tl σ G lo) (h2 : TrO th σ G hi) : TrD K (tSl (rSlL K) te tl th) σ G (.list (cutD ds lo hi)) := fun G1 M H e A Q q => by
  refine h G1 M H e A _ fun v G2 H2 e2 A2 r => ?_
  refine h1 G2 M H2 (e.trans e2) A2 _ fun G3 H3 e3 A3 => ?_
  refine h2 G3 M H3 ((e.trans e2).trans e3) A3 _ fun G4 H4 e4 A4 => ?_
  obtain ⟨a, xs, rfl, k1, k2⟩ := r.up (e3.trans e4)
  refine ⟨a, xs, rfl, SqL.of (A4.g _ _ k1), fun p hp => ?_⟩
  exact ((q.mono ((e2.trans e3).trans e4))).newG A4 hp ⟨p, _, rfl, upd_same, k2.cut.up (Ex.new (A4.gNone hp))⟩
def rTupOf (K : PySem.W.Frag) : List V → Hp → VK → Prop := fun xs H Q => ∃ p ys, xs = [.ref p] ∧ ((SqL K H p ys ∧ ∀ l, H l = none → Q (.ref l) (upd H l (.tup ys))) ∨ (SqT K H p ys ∧ Q (.ref p) H))
theorem call_tupOf {X : Cx} : CallR X (.type "tuple") (rTupOf X.K) := call_tuple_of
theorem rc_tupL : RC K (rTupOf K) [.list ds] (.tuple ds) := fun G M H xs A ⟨x, r, e, ⟨a, ys, h1, h2, h3⟩, h'⟩ Q q => by
  rw [e, show r = [] from h', h1]
  exact ⟨a, ys, rfl, .inl ⟨SqL.of (A.g _ _ h2), fun p hp => q.newG A hp ⟨p, ys, rfl, SqT.of upd_same, h3.up (Ex.new (A.gNone hp))⟩⟩⟩
def rListOf (K : PySem.W.Frag) : List V → Hp → VK → Prop := fun xs H Q => ∃ p ys, xs = [.ref p] ∧ (SqL K H p ys ∨ SqT K H p ys) ∧ ∀ l, H l = none → Q (.ref l) (upd H l (.lst ys))
theorem call_listOf {X : Cx} : CallR X (.type "list") (rListOf X.K) := call_list_of
theorem rc_listT : RC K (rListOf K) [.tuple ds] (.list ds) := fun G M H xs A ⟨x, r, e, ⟨a, ys, h1, h2, h3⟩, h'⟩ Q q => by
  rw [e, show r = [] from h', h1]
  exact ⟨a, ys, rfl, .inr (A.g.stt h2), fun p hp => q.newG A hp ⟨p, ys, rfl, upd_same, h3.up (Ex.new (A.gNone hp))⟩⟩
theorem rpL_bools : ∀ (bs : List Bool) {xs : List V}, RpL K G (bs.map PyData.bool) xs → xs = bs.map V.bl
  | [], xs, h => h
  | b :: bs, xs, ⟨x, r, h1, h2, h3⟩ => by
    rw [h1, show x = V.bl b from h2, rpL_bools bs h3]
    rfl
theorem rc_all {bs : List Bool} : RC K (rAll K) [.list (bs.map .bool)] (.bool (bs.all id)) := fun G M H xs A ⟨x, r, e, ⟨a, ys, h1, h2, h3⟩, h'⟩ Q q => by
  rw [e, show r = [] from h', h1]
  rw [rpL_bools bs h3] at h2
  exact ⟨a, bs, rfl, SqL.of (A.g _ _ h2), q.here A rfl⟩
theorem d_revL (h : TrD K te σ G (.list ds)) : TrD K (tRevL K te) σ G (.list ds.reverse) := fun G1 M H e A Q q => by
  refine h G1 M H e A _ fun v G2 H2 e2 A2 r => ?_
  obtain ⟨a, xs, rfl, k1, k2⟩ := r
  exact ⟨a, xs, rfl, SqL.of (A2.g _ _ k1), fun p hp => (q.mono e2).newG A2 hp ⟨p, _, rfl, upd_same, k2.rev.up (Ex.new (A2.gNone hp))⟩⟩
/-! ### texts -/
theorem d_join {to : TE} {a : Str} {ys : List Str} (ho : TrD K to σ G (.str a)) (h : TrD K te σ G (.list (dStrs ys))) (hz : (ys.map (·.length)).sum + ys.length * a.length ≤ 16777216) :
    TrD K (tM1 (fun x xs H Q => ∃ a p, ∃ ys : List Str, x = .str a ∧ xs = [.ref p] ∧ (SqL K H p (ys.map V.str) ∨ SqT K H p (ys.map V.str)) ∧ (ys.map (·.length)).sum + ys.length * a.length ≤ 16777216 ∧ Q (.str (Txt.join a ys)) H) to te) σ G (.str (Txt.join a ys)) := fun G1 M H e A Q q => by
  refine ho G1 M H e A _ fun v G2 H2 e2 A2 r => ⟨⟨a, r⟩, ?_⟩
  refine h G2 M H2 (e.trans e2) A2 _ fun v3 G3 H3 e3 A3 r3 => ?_
  obtain ⟨p, rfl, hp⟩ := r3.ls
  exact ⟨a, p, ys, r, rfl, .inl (SqL.of (A3.g _ _ hp)), hz, (q.mono (e2.trans e3)).here A3 rfl⟩
theorem d_split {to : TE} {a b : Str} (ho : TrD K to σ G (.str a)) (h : TrD K te σ G (.str b)) (hb : (b.length == 0) = false) (hz : a.length + 2 ≤ sizeLine) :
    TrD K (tM1 (fun x xs H Q => ∃ a b, x = .str a ∧ xs = [.str b] ∧ (b.length == 0) = false ∧ a.length + 2 ≤ sizeLine ∧ rNewStrs (Txt.split a b) H Q) to te) σ G (.list (dStrs (Txt.split a b))) := fun G1 M H e A Q q => by
  refine ho G1 M H e A _ fun v G2 H2 e2 A2 r => ⟨⟨a, r⟩, ?_⟩
  refine h G2 M H2 (e.trans e2) A2 _ fun v3 G3 H3 e3 A3 r3 => ?_
  refine ⟨a, b, r, by rw [show v3 = V.str b from r3], hb, hz, fun p hp => ?_⟩
  exact (q.mono (e2.trans e3)).newG A3 hp ⟨p, _, rfl, upd_same, (rpL_strs _).mpr rfl⟩
theorem rd_inSign {c : Nat} {z : Str} : RD K (fun x y H Q => ∃ (c : Nat) (z : Str), x = .str ⟨#[c]⟩ ∧ y = .str z ∧ Q (.bl (decide (c ∈ z.cps.toList))) H) (.str ⟨#[c]⟩) (.str z) (.bool (decide (c ∈ z.cps.toList))) :=
  fun G M H v u A h1 h2 Q q => ⟨c, z, h1, h2, q.here A rfl⟩
theorem rd_ltS {x y : Str} : RD K (fun x y H Q => ∃ i j, x = .str i ∧ y = .str j ∧ Q (.bl (decide (i.cps.toList < j.cps.toList))) H) (.str x) (.str y) (.bool (decide (x.cps.toList < y.cps.toList))) :=
  fun G M H v u A h1 h2 Q q => ⟨x, y, h1, h2, q.here A rfl⟩
def flatD : PyData → V
  | .bool b => .bl b
  | .int i => .int i
  | .str x => .str x
  | _ => .non
def isFlat : PyData → Bool
  | .none => true
  | .bool _ => true
  | .int _ => true
  | .str _ => true
  | _ => false
theorem rp_flat {v : V} (hf : isFlat d = true) (h : Rp K G d v) : v = flatD d ∧ flatV v = true := by
  cases d with
  | none => rw [show v = V.non from h]; exact ⟨rfl, rfl⟩
  | bool b => rw [show v = V.bl b from h]; exact ⟨rfl, rfl⟩
  | int b => rw [show v = V.int b from h]; exact ⟨rfl, rfl⟩
  | str b => rw [show v = V.str b from h]; exact ⟨rfl, rfl⟩
  | list ds => cases hf
  | dict ds => cases hf
  | tuple ds => cases hf
theorem rpL_flat : ∀ {ds : List PyData} {xs : List V}, ds.all isFlat = true → RpL K G ds xs → xs = ds.map flatD ∧ xs.all flatV = true
  | [], xs, _, h => by rw [show xs = [] from h]; exact ⟨rfl, rfl⟩
  | d :: ds, xs, hf, ⟨x, r, h1, h2, h3⟩ => by
    have hf' : isFlat d = true ∧ ds.all isFlat = true := by simpa using hf
    obtain ⟨e1, e2⟩ := rp_flat hf'.1 h2
    obtain ⟨e3, e4⟩ := rpL_flat hf'.2 h3
    rw [h1, e1, e3]
    rw [e1] at e2
    rw [e3] at e4
    refine ⟨rfl, ?_⟩
    rw [List.all_cons, e2, e4]
    rfl
def inD (d : PyData) (ds : List PyData) : Bool := inV (flatD d) (ds.map flatD)
theorem rd_inT {neg : Bool} (hf : isFlat d = true) (hs : ds.all isFlat = true) : RD K (rIn K neg) d (.tuple ds) (.bool (if neg then !inD d ds else inD d ds)) := fun G M H x y A h1 ⟨a, xs, k1, k2, k3⟩ Q q => by
  obtain ⟨e1, e2⟩ := rp_flat hf h1
  obtain ⟨e3, e4⟩ := rpL_flat hs k3
  refine ⟨a, xs, k1, .inr (A.g.stt k2), e2, e4, q.here A ?_⟩
  rw [e1, e3]
  rfl
theorem rd_inL {neg : Bool} (hf : isFlat d = true) (hs : ds.all isFlat = true) : RD K (rIn K neg) d (.list ds) (.bool (if neg then !inD d ds else inD d ds)) := fun G M H x y A h1 ⟨a, xs, k1, k2, k3⟩ Q q => by
  obtain ⟨e1, e2⟩ := rp_flat hf h1
  obtain ⟨e3, e4⟩ := rpL_flat hs k3
  refine ⟨a, xs, k1, .inl (SqL.of (A.g _ _ k2)), e2, e4, q.here A ?_⟩
  rw [e1, e3]
  rfl
end
end Sb

namespace Sb
open PySem PySem.Spec PyProof.Rows L2
section
variable {K : PySem.W.Frag} {σ : L2.St} {G G' M H : Hp} {ta tb te : TE} {d d1 d2 d3 : PyData} {tt t u : TT} {ts : TA} {ds es : List PyData} {Q : VK} {D : Ends} {s1 s2 : TS}
theorem s_seq (h : s1 { D with nx := s2 D } σ H) : tSeq s1 s2 D σ H := h
theorem s_next (h : D.nx σ H) : tNext D σ H := h
def isNoneD : PyData → Bool
  | .none => true
  | _ => false
theorem rd_isN : RD K (fun x y H Q => y = V.non ∧ Q (V.bl (decide (x = V.non))) H) d .none (.bool (isNoneD d)) := fun G M H x y A h1 h2 Q q => by
  refine ⟨h2, q.here A ?_⟩
  cases d with
  | none => rw [show x = V.non from h1]; rfl
  | bool b => rw [show x = V.bl b from h1]; rfl
  | int b => rw [show x = V.int b from h1]; rfl
  | str b => rw [show x = V.str b from h1]; rfl
  | list ds => obtain ⟨a, xs, rfl, _⟩ := h1; rfl
  | dict ds => obtain ⟨a, xs, rfl, _⟩ := h1; rfl
  | tuple ds => obtain ⟨a, xs, rfl, _⟩ := h1; rfl
theorem v_andT (h1 : TrD K ta σ G (.bool true)) (h2 : TrD K tb σ G d) : TrD K (tAndV ta tb) σ G d := fun G1 M H e A Q q => by
  refine h1 G1 M H e A _ fun v G2 H2 e2 A2 r => ?_
  exact ⟨true, r, h2 G2 M H2 (e.trans e2) A2 Q (q.mono e2)⟩
theorem v_andF (h1 : TrD K ta σ G (.bool false)) : TrD K (tAndV ta tb) σ G (.bool false) := fun G1 M H e A Q q => by
  refine h1 G1 M H e A _ fun v G2 H2 e2 A2 r => ?_
  exact ⟨false, r, (q.mono e2).here A2 rfl⟩
theorem v_orF (h1 : TrD K ta σ G (.bool false)) (h2 : TrD K tb σ G d) : TrD K (tOrV ta tb) σ G d := fun G1 M H e A Q q => by
  refine h1 G1 M H e A _ fun v G2 H2 e2 A2 r => ?_
  exact ⟨false, r, h2 G2 M H2 (e.trans e2) A2 Q (q.mono e2)⟩
theorem v_orT (h1 : TrD K ta σ G (.bool true)) : TrD K (tOrV ta tb) σ G (.bool true) := fun G1 M H e A Q q => by
  refine h1 G1 M H e A _ fun v G2 H2 e2 A2 r => ?_
  exact ⟨true, r, (q.mono e2).here A2 rfl⟩
theorem b_orT (h1 : TrB t σ G true) : TrB (tOr t u) σ G true := fun G1 M H e A Q q => h1 G1 M H e A _ q
theorem b_orF {b : Bool} (h1 : TrB t σ G false) (h2 : TrB u σ G b) : TrB (tOr t u) σ G b := fun G1 M H e A Q q =>
  h1 G1 M H e A _ fun G2 H2 e2 A2 => h2 G2 M H2 (e.trans e2) A2 _ fun G3 H3 e3 A3 => q G3 H3 (e2.trans e3) A3
theorem b_andF (h1 : TrB t σ G false) : TrB (tAnd t u) σ G false := fun G1 M H e A Q q => h1 G1 M H e A _ q
theorem b_andT {b : Bool} (h1 : TrB t σ G true) (h2 : TrB u σ G b) : TrB (tAnd t u) σ G b := fun G1 M H e A Q q =>
  h1 G1 M H e A _ fun G2 H2 e2 A2 => h2 G2 M H2 (e.trans e2) A2 _ fun G3 H3 e3 A3 => q G3 H3 (e2.trans e3) A3
/-! chains -/
theorem d_chain {r r' : R2} {tc : TE} {x y z : PyData} {a b : Bool} (ha : TrD K ta σ G x) (hb : TrD K tb σ G y) (hr : RD K r x y (.bool a)) (hc : a = true → TrD K tc σ G z) (hr' : a = true → RD K r' y z (.bool b)) : TrD K (tChain r r' ta tb tc) σ G (.bool (a && b)) := fun G1 M H e A Q q => by
  refine ha G1 M H e A _ fun v G2 H2 e2 A2 r2 => ?_
  refine hb G2 M H2 (e.trans e2) A2 _ fun w G3 H3 e3 A3 r3 => ?_
  refine hr G3 M H3 v w A3 (r2.up e3) r3 _ fun k G4 H4 e4 A4 r4 => ⟨a, r4, ?_⟩
  cases a with
  | false => exact (q.mono ((e2.trans e3).trans e4)).here A4 rfl
  | true =>
    refine hc rfl G4 M H4 (((e.trans e2).trans e3).trans e4) A4 _ fun k5 G5 H5 e5 A5 r5 => ?_
    exact hr' rfl G5 M H5 _ _ A5 (r3.up (e4.trans e5)) r5 Q (q.mono (((e2.trans e3).trans e4).trans e5))
/-! dicts whose keys are texts -/
def keysD (kvs : List (Str × PyData)) : List (PyData × PyData) := kvs.map fun p => (.str p.1, p.2)
theorem RpD.keys : ∀ {kvs : List (Str × PyData)} {xs : List (Key × V)}, RpD K G (keysD kvs) xs → xs.map (·.1) = (kvs.map (·.1)).map Sum.inr
  | [], xs, h => by rw [show xs = [] from h]; rfl
  | (k, d) :: r, _, ⟨x, y, t, h1, h2, _, h3⟩ => by
    rw [h1, List.map_cons, List.map_cons, List.map_cons, RpD.keys h3]
    cases x with
    | inl i => cases h2
    | inr z =>
      have e : z = k := by simpa [kD] using h2
      rw [e]
def lookD (kvs : List (Str × PyData)) (x : Str) : Option PyData := (kvs.find? fun p => decide (p.1 = x)).map (·.2)
theorem RpD.val {x : Str} : ∀ {kvs : List (Str × PyData)} {xs : List (Key × V)}, RpD K G (keysD kvs) xs → (∀ d, lookD kvs x = some d → ∃ v, valV xs (Sum.inr x) = some v ∧ Rp K G d v) ∧ (lookD kvs x = none → valV xs (Sum.inr x) = none)
  | [], xs, h => by
    rw [show xs = [] from h]
    exact ⟨fun d z => by simp [lookD] at z, fun _ => rfl⟩
  | (k, d) :: r, _, ⟨z, y, t, h1, h2, h4, h3⟩ => by
    rw [h1]
    have ih := RpD.val (x := x) h3
    cases z with
    | inl i => cases h2
    | inr w =>
      have e : w = k := by simpa [kD] using h2
      subst e
      unfold lookD valV at ih ⊢
      simp only [List.find?_cons]
      rw [key_rr]
      by_cases q : w = x
      · subst q
        simp only [decide_true, Option.map_some]
        exact ⟨fun d' z => ⟨y, rfl, by cases z; exact h4⟩, fun z => by cases z⟩
      · simp only [decide_eq_false q]
        exact ih
theorem d_dget {x : Str} {kvs : List (Str × PyData)} {tx : TE} (h : TrD K te σ G (.dict (keysD kvs))) (hx : TrD K tx σ G (.str x)) (hl : lookD kvs x = some d) : TrD K (tDGet te tx) σ G d := fun G1 M H e A Q q => by
  refine h G1 M H e A _ fun v G2 H2 e2 A2 r => ?_
  refine hx G2 M H2 (e.trans e2) A2 _ fun w G3 H3 e3 A3 r3 => ?_
  obtain ⟨a, xs, rfl, k1, k2⟩ := r.up e3
  obtain ⟨z, e4, r4⟩ := (RpD.val k2).1 d hl
  refine ⟨a, z, rfl, ?_, (q.mono (e2.trans e3)).here A3 r4⟩
  rw [← e4, show w = kV (Sum.inr x) from r3]
  exact DGet.k (A3.g _ _ k1)
theorem b_din {x : Str} {kvs : List (Str × PyData)} {tx : TE} (hx : TrD K tx σ G (.str x)) (h : TrD K te σ G (.dict (keysD kvs))) : TrB (tB (tDIn tx te)) σ G (lookD kvs x).isSome := fun G1 M H e A Q q => by
  refine hx G1 M H e A _ fun w G2 H2 e2 A2 r2 => ?_
  refine h G2 M H2 (e.trans e2) A2 _ fun v G3 H3 e3 A3 r3 => ?_
  obtain ⟨a, xs, rfl, k1, k2⟩ := r3
  have hv := RpD.val (x := x) k2
  refine ⟨a, valV xs (Sum.inr x), rfl, ?_, (lookD kvs x).isSome, ?_, q G3 H3 (e2.trans e3) A3⟩
  · rw [show w = kV (Sum.inr x) from r2]
    exact DGet.k (A3.g _ _ k1)
  · cases z : lookD kvs x with
    | none => rw [hv.2 z]; rfl
    | some d =>
      obtain ⟨y, e4, _⟩ := hv.1 d z
      rw [e4]
      rfl
theorem v_din {x : Str} {kvs : List (Str × PyData)} {tx : TE} (hx : TrD K tx σ G (.str x)) (h : TrD K te σ G (.dict (keysD kvs))) : TrD K (tDIn tx te) σ G (.bool (lookD kvs x).isSome) := fun G1 M H e A Q q => by
  have z := b_din hx h G1 M H e A (fun b H => Q (.bl b) H) fun G' H' e' A' => (q.mono e').here A' rfl
  refine hx G1 M H e A _ fun w G2 H2 e2 A2 r2 => ?_
  refine h G2 M H2 (e.trans e2) A2 _ fun v G3 H3 e3 A3 r3 => ?_
  obtain ⟨a, xs, rfl, k1, k2⟩ := r3
  have hv := RpD.val (x := x) k2
  refine ⟨a, valV xs (Sum.inr x), rfl, ?_, (q.mono (e2.trans e3)).here A3 ?_⟩
  · rw [show w = kV (Sum.inr x) from r2]
    exact DGet.k (A3.g _ _ k1)
  · show V.bl _ = V.bl _
    cases z : lookD kvs x with
    | none => rw [hv.2 z]; rfl
    | some d =>
      obtain ⟨y, e4, _⟩ := hv.1 d z
      rw [e4]
      rfl
theorem v_dnin {x : Str} {kvs : List (Str × PyData)} {tx : TE} (hx : TrD K tx σ G (.str x)) (h : TrD K te σ G (.dict (keysD kvs))) : TrD K (tDNotIn tx te) σ G (.bool (!(lookD kvs x).isSome)) := fun G1 M H e A Q q => by
  refine hx G1 M H e A _ fun w G2 H2 e2 A2 r2 => ?_
  refine h G2 M H2 (e.trans e2) A2 _ fun v G3 H3 e3 A3 r3 => ?_
  obtain ⟨a, xs, rfl, k1, k2⟩ := r3
  have hv := RpD.val (x := x) k2
  refine ⟨a, valV xs (Sum.inr x), rfl, ?_, (q.mono (e2.trans e3)).here A3 ?_⟩
  · rw [show w = kV (Sum.inr x) from r2]
    exact DGet.k (A3.g _ _ k1)
  · show V.bl _ = V.bl _
    cases z : lookD kvs x with
    | none => rw [hv.2 z]; rfl
    | some d =>
      obtain ⟨y, e4, _⟩ := hv.1 d z
      rw [e4]
      rfl
/-! sorted texts -/
def leS (x y : Str) : Bool := decide (x.cps.toList ≤ y.cps.toList)
def srt (ss : List Str) : List Str := ss.mergeSort leS
theorem leS_trans (a b c : Str) (h1 : leS a b = true) (h2 : leS b c = true) : leS a c = true := decide_eq_true (List.le_trans (of_decide_eq_true h1) (of_decide_eq_true h2))
theorem leS_total (a b : Str) : (leS a b || leS b a) = true := by
  rcases List.le_total a.cps.toList b.cps.toList with h | h
  · rw [show leS a b = true from decide_eq_true h]; rfl
  · rw [show leS b a = true from decide_eq_true h, Bool.or_true]
theorem str_ext {a b : Str} (h : a.cps.toList = b.cps.toList) : a = b := by
  cases a
  cases b
  simp only [Str.mk.injEq]
  exact Array.toList_inj.mp h
theorem leS_anti {a b : Str} (h1 : leS a b = true) (h2 : leS b a = true) : a = b := str_ext (List.le_antisymm (of_decide_eq_true h1) (of_decide_eq_true h2))
theorem srt_perm (ss : List Str) : (srt ss).Perm ss := List.mergeSort_perm ss leS
theorem srt_pw (ss : List Str) : (srt ss).Pairwise fun a b => leS a b = true := List.pairwise_mergeSort leS_trans leS_total ss
theorem rising_pw : ∀ (r : List Str) (p : Str), risingS p r = true → (p :: r).Pairwise fun a b => leS a b = true
  | [], p, _ => List.pairwise_singleton _ _
  | x :: r, p, h => by
    have h' : (!ltCps x.cps.toList p.cps.toList && risingS x r) = true := h
    obtain ⟨h1, h2⟩ := Bool.and_eq_true_iff.mp h'
    have ih := rising_pw r x h2
    have px : leS p x = true := by
      rw [ltCps_eq] at h1
      have h3 : ¬ x.cps.toList < p.cps.toList := by simpa using h1
      exact decide_eq_true (List.not_lt.mp h3)
    refine List.pairwise_cons.mpr ⟨fun y hy => ?_, ih⟩
    rcases List.mem_cons.mp hy with rfl | hy
    · exact px
    · exact leS_trans _ _ _ px ((List.pairwise_cons.mp ih).1 y hy)
theorem sorted_pw (ss : List Str) (h : sortedS ss = true) : ss.Pairwise fun a b => leS a b = true := by
  cases ss with
  | nil => exact .nil
  | cons x r => exact rising_pw r x h
theorem srt_of {ys ss : List Str} (p : ys.Perm ss) (h : sortedS ys = true) : ys = srt ss :=
  List.Perm.eq_of_pairwise (fun a b _ _ => leS_anti) (sorted_pw ys h) (srt_pw ss) (p.trans (srt_perm ss).symm)
theorem srt_congr {xs ys : List Str} (p : xs.Perm ys) : srt xs = srt ys :=
  List.Perm.eq_of_pairwise (fun a b _ _ => leS_anti) (srt_pw xs) (srt_pw ys) ((srt_perm xs).trans (p.trans (srt_perm ys).symm))
theorem srt_id {xs : List Str} (p : xs.Pairwise fun a b => leS a b = true) : srt xs = xs :=
  List.Perm.eq_of_pairwise (fun a b _ _ => leS_anti) (srt_pw xs) p (srt_perm xs)
def rSortD : List V → Hp → VK → Prop := fun xs H Q => ∃ (a : Addr) (kvs : List (Key × V)) (ks : List Str), xs = [.ref a] ∧ Rd H a (.dK kvs) ∧ kvs.map (·.1) = ks.map Sum.inr ∧ ks.length < 64 ∧
    ∀ ys p, ys.Perm ks → sortedS ys = true → H p = none → Q (.ref p) (upd H p (.lst (ys.map V.str)))
theorem call_sortedD' {X : Cx} (hc : X.calm = true) : CallR X (.builtin "sorted") rSortD := call_sortedD hc
theorem rc_sortD {kvs : List (Str × PyData)} (hn : kvs.length < 64) : RC K rSortD [.dict (keysD kvs)] (.list (dStrs (srt (kvs.map (·.1))))) := fun G M H xs A ⟨x, r, e, ⟨a, ys, h1, h2, h3⟩, h'⟩ Q q => by
  rw [e, show r = [] from h', h1]
  refine ⟨a, ys, kvs.map (·.1), rfl, .inl (A.g _ _ h2), h3.keys, by rw [List.length_map]; exact hn, fun zs p pm so hp => ?_⟩
  rw [srt_of pm so]
  exact q.newG A hp ⟨p, _, rfl, upd_same, (rpL_strs _).mpr rfl⟩
/-! [e for k in d], d a dict: the element and the test look at the key alone -/
theorem d_lcK {tt : TT} {i j : Nat} {v : V} {kvs : List (Str × PyData)} {p : Str → Bool} {f : Str → PyData} (hv : σ[j]? = some (some v)) (hd : Rp K G (.dict (keysD kvs)) v) (hn : kvs.length < 100000)
    (hw : (wipe σ [i])[j]? = some (some v))
    (ht : ∀ k, k ∈ kvs.map (·.1) → ∀ G1, TrB tt ((wipe σ [i]).set i (some (V.str k))) G1 (p k))
    (he : ∀ k, k ∈ kvs.map (·.1) → ∀ G1, TrD K te ((wipe σ [i]).set i (some (V.str k))) G1 (f k)) :
    TrD K (tLockE (tLc (iKeys (tVar j)) (gName i) tt te [i])) σ G (.list (((kvs.map (·.1)).filter p).map f)) := fun G1 M H e A Q q => by
  obtain ⟨a, xs, rfl, k1, k2⟩ := hd.up e
  have hH := A.g _ _ k1
  refine ⟨a, .dK xs, hH, trivial, fun od => ?_⟩
  -- within: the dict is locked, all the rest of G stands
  have A0 : At (fun b => if b = a then none else G1 b) (upd M a (.frz od (.dK xs))) (upd H a (.frz od (.dK xs))) := by
    have hMa : M a = none := by
      cases z : M a with
      | none => rfl
      | some o =>
        rw [A.d _ _ z] at k1
        cases k1
    refine ⟨fun b o z => ?_, fun b o z => ?_, fun b o z => ?_⟩
    · by_cases hb : b = a
      · rw [if_pos hb] at z; cases z
      · rw [if_neg hb] at z
        rw [upd_ne hb]
        exact A.g _ _ z
    · by_cases hb : b = a
      · subst hb
        rw [upd_same] at z ⊢
        exact z
      · rw [upd_ne hb] at z ⊢
        exact A.m _ _ z
    · by_cases hb : b = a
      · exact if_pos hb
      · rw [if_neg hb]
        rw [upd_ne hb] at z
        exact A.d _ _ z
  have hMa : M a = none := by
    cases z : M a with
    | none => rfl
    | some o =>
      rw [A.d _ _ z] at k1
      cases k1
  generalize hM1 : upd M a (.frz od (.dK xs)) = M1 at A0
  generalize hG0 : (fun b => if b = a then none else G1 b : Hp) = G0 at A0
  have hMla : M1 a = some (.frz od (.dK xs)) := by rw [← hM1]; exact upd_same
  refine ⟨.ref a, hv, a, od, rfl, .inl ⟨xs, upd_same, fun D hD => ?_⟩⟩
  have hDa : D ≠ a := fun z => by
    subst z
    rw [upd_same] at hD
    cases hD
  have keys := k2.keys
  refine ⟨fun t m H3 => m = xs.length - t ∧ t ≤ xs.length ∧ ∃ Gj acc, Ex G0 Gj ∧ At Gj (upd M1 D (.lst acc)) H3 ∧ RpL K Gj ((((kvs.map (·.1)).take t).filter p).map f) acc, ⟨xs.length, by simp, Nat.zero_le _, G0, [], Ex.refl _, A0.nm hD, rfl⟩, ?_⟩
  rintro t m H3 ⟨rfl, ht', Gj, acc, ej, Aj, rj⟩
  have hfr : H3 a = some (.frz od (.dK xs)) := Aj.m _ _ (by rw [upd_ne hDa.symm]; exact hMla)
  by_cases hlt : t < xs.length
  · refine .inr ⟨⟨hfr, hlt⟩, fun H4 => ∃ Gj acc, Ex G0 Gj ∧ At Gj (upd M1 D (.lst acc)) H4 ∧ RpL K Gj ((((kvs.map (·.1)).take (t + 1)).filter p).map f) acc, fun H4 z => ⟨xs.length - (t + 1), by omega, rfl, hlt, z⟩, ?_⟩
    rintro x H4 ⟨rfl, k, w, hk, rfl⟩
    have hk2 : (xs.map (·.1))[t]? = some k := by rw [List.getElem?_map, hk]; rfl
    rw [keys, List.getElem?_map] at hk2
    obtain ⟨kk, hk3, rfl⟩ : ∃ kk, (kvs.map (·.1))[t]? = some kk ∧ k = Sum.inr kk := by
      cases z : (kvs.map (·.1))[t]? with
      | none => rw [z] at hk2; cases hk2
      | some kk => rw [z] at hk2; exact ⟨kk, rfl, (Option.some.inj hk2).symm⟩
    have hm := List.mem_of_getElem? hk3
    have htk : (kvs.map (·.1)).take (t + 1) = (kvs.map (·.1)).take t ++ [kk] := by rw [List.take_add_one, hk3]; rfl
    show wipe _ _ = wipe _ _ ∧ _
    refine ⟨wipe_set, ?_⟩
    refine ht kk hm Gj Gj _ H4 (Ex.refl _) Aj _ fun G4 H4 e4 A4 => ?_
    cases hp : p kk with
    | false =>
      refine ⟨G4, acc, ej.trans e4, A4, ?_⟩
      rw [htk, List.filter_append, List.filter_cons, hp]
      simpa using rj.up e4
    | true =>
      refine he kk hm G4 G4 _ H4 (Ex.refl _) A4 _ fun v5 G5 H5 e5 A5 r5 => ?_
      refine ⟨acc, A5.m _ _ upd_same, ?_, G5, acc ++ [v5], ej.trans (e4.trans e5), ?_, ?_⟩
      · rw [rj.len, List.length_map]
        refine sz_lt (Nat.lt_of_le_of_lt (Nat.le_trans (List.length_filter_le _ _) ?_) hn)
        rw [List.length_take, List.length_map]
        exact Nat.min_le_right _ _
      · have z := A5.wr (o := .lst (acc ++ [v5])) (upd_same (H := M1) (a := D) (o := .lst acc))
        rw [upd_upd] at z
        exact z
      · rw [htk, List.filter_append, List.filter_cons, hp, List.map_append]
        exact (rj.up (e4.trans e5)).snoc r5
  · have e1 : t = xs.length := by omega
    subst e1
    have hl2 : (kvs.map (·.1)).take xs.length = kvs.map (·.1) := by
      have z := congrArg List.length keys
      simp only [List.length_map] at z
      rw [z]
      exact List.take_of_length_le (by rw [List.length_map]; exact Nat.le_refl _)
    rw [hl2] at rj
    refine .inl ⟨⟨hfr, Nat.le_refl _⟩, hfr, ?_⟩
    have hDM : M D = none := by
      have z := hD
      rw [upd_ne hDa] at z
      exact A.mNone z
    have hGD : G1 D = none := by
      have z := hD
      rw [upd_ne hDa] at z
      exact A.gNone z
    have hGjD : Gj D = none := Aj.d _ _ upd_same
    have hGja : Gj a = none := Aj.d _ _ (by rw [upd_ne hDa.symm]; exact hMla)
    -- behind: the dict and the new list belong to G again
    refine q (.ref D) (upd (upd Gj a (.dK xs)) D (.lst acc)) _ (fun b o z => ?_) ⟨fun b o z => ?_, fun b o z => ?_, fun b o z => ?_⟩ ⟨D, acc, rfl, upd_same, rj.up (Ex.trans (Ex.new hGja) (Ex.new (none_upd hGjD hDa)))⟩
    · have hb : b ≠ D := fun y => by
        subst y
        rw [hGD] at z
        cases z
      rw [upd_ne hb]
      by_cases ha : b = a
      · subst ha
        rw [upd_same]
        rw [k1] at z
        exact z
      · rw [upd_ne ha]
        refine ej _ _ ?_
        rw [← hG0]
        show (if b = a then none else G1 b) = some o
        rw [if_neg ha]
        exact z
    · by_cases hb : b = D
      · subst hb
        rw [upd_same] at z
        rw [upd_ne hDa]
        cases z
        exact Aj.m _ _ upd_same
      · rw [upd_ne hb] at z
        by_cases ha : b = a
        · subst ha
          rw [upd_same] at z ⊢
          exact z
        · rw [upd_ne ha] at z ⊢
          exact Aj.g _ _ z
    · have hb : b ≠ a := fun y => by
        subst y
        rw [hMa] at z
        cases z
      have hb2 : b ≠ D := fun y => by
        subst y
        rw [hDM] at z
        cases z
      rw [upd_ne hb]
      refine Aj.m _ _ ?_
      rw [upd_ne hb2, ← hM1, upd_ne hb]
      exact z
    · have hb : b ≠ a := fun y => by
        subst y
        rw [hMa] at z
        cases z
      have hb2 : b ≠ D := fun y => by
        subst y
        rw [hDM] at z
        cases z
      rw [upd_ne hb2, upd_ne hb]
      refine Aj.d b o ?_
      rw [upd_ne hb2, ← hM1, upd_ne hb]
      exact z
end
end Sb

namespace Sb
open PySem PySem.Spec PyProof.Rows L2
section
variable {K : PySem.W.Frag} {σ : L2.St} {G G' M H : Hp} {ta tb te : TE} {d d1 d2 d3 : PyData} {tt t u : TT} {ts : TA} {ds es : List PyData} {Q : VK} {D : Ends} {s1 s2 : TS} {i j : Nat}
/-! ### statements over what is still written -/
theorem s_setK (h : TrD K (tLockE te) σ G d) (A : At G M H) (k : ∀ v G' H', Ex G G' → At G' M H' → Rp K G' d v → D.nx (σ.set i (some v)) H') : tLock (tAsg te (gName i)) D σ H := w_D h A k
theorem s_drop (h : TrD K te σ G d) (A : At G M H) (k : ∀ G' H', Ex G G' → At G' M H' → D.nx σ H') : tDrop te D σ H := w_D h A fun _ G' H' e A' _ => k G' H' e A'
/-- x = [..]: the new list is still to be written -/
theorem s_newL (h : TrA K ts σ G ds) (hn : ds.length ≤ 100000) (A : At G M H) (k : ∀ p xs G' H', Ex G G' → M p = none → G' p = none → At G' (upd M p (.lst xs)) H' → RpL K G' ds xs → D.nx (σ.set i (some (.ref p))) H') : tAsg (tLst ts) (gName i) D σ H := by
  refine w_A h A fun xs G2 H2 e2 A2 r => ?_
  exact ⟨by rw [r.len]; exact sz_of hn, fun p hp => k p xs G2 _ e2 (A2.mNone hp) (A2.gNone hp) (A2.nm hp) r⟩
theorem s_newD (A : At G M H) (k : ∀ p H', M p = none → G p = none → At G (upd M p (.dK [])) H' → D.nx (σ.set i (some (.ref p))) H') : tAsg tDNewK (gName i) D σ H := fun p hp => k p _ (A.mNone hp) (A.gNone hp) (A.nm hp)
theorem s_append {p : Addr} {xs : List V} (hi : σ[i]? = some (some (.ref p))) (hp : M p = some (.lst xs)) (h : TrD K te σ G d) (hn : xs.length < 100000) (A : At G M H)
    (k : ∀ v G' H', Ex G G' → At G' (upd M p (.lst (xs ++ [v]))) H' → Rp K G' d v → D.nx σ H') : tDrop (tBM K "list" rAppend (tVar i) (tCons te tNil)) D σ H := by
  refine ⟨.ref p, hi, Or.inl ⟨rfl, _, Or.inl (Or.inl (A.m _ _ hp))⟩, ?_⟩
  refine w_D h A fun v G2 H2 e2 A2 r => ?_
  exact ⟨p, xs, v, rfl, rfl, A2.m _ _ hp, sz_lt hn, k v G2 _ e2 (A2.wr hp) r⟩
/-- what is no longer written becomes data -/
theorem At.done {p : Addr} {xs : List V} (A : At G (upd M p (.lst xs)) H) (hM : M p = none) (r : RpL K G ds xs) : ∃ G', Ex G G' ∧ At G' M H ∧ Rp K G' (.list ds) (.ref p) :=
  have hm := upd_same (H := M) (a := p) (o := HO.lst xs)
  ⟨_, A.frzG hm, A.frz hm (Ex.new hM) hM, p, xs, rfl, upd_same, r.up (A.frzG hm)⟩
/-! ### loops that write nothing but their own names -/
theorem s_forE {tb : TS} (h : TrD K te σ G (.list ds)) (A : At G M H) (hs0 : ∃ a b, σ = (σ.set i a).set j b) (hij : i ≠ j)
    (hb : ∀ (k : Nat) d, ds[k]? = some d → ∀ x G1 H1, Ex G G1 → At G1 M H1 → Rp K G1 d x → ∀ Nx : L2.St → Hp → Prop, (∀ G2 H2, Ex G1 G2 → At G2 M H2 → Nx ((σ.set i (some (.int k))).set j (some x)) H2) →
      tb { D with nx := Nx, ct := Nx, bk := D.nx } ((σ.set i (some (.int k))).set j (some x)) H1)
    (hd : ∀ a b G1 H1, Ex G G1 → At G1 M H1 → D.nx ((σ.set i a).set j b) H1) :
    tFor (iEnum K (tCons te tNil)) (gTup K 2 (gCons (gName i) (gCons (gName j) gNil))) tb D σ H := by
  refine w_D h A fun v G2 H2 e2 A2 r => ?_
  obtain ⟨a, xs, rfl, k1, k2⟩ := r
  refine ⟨a, xs, rfl, SqL.of (A2.g _ _ k1), ?_⟩
  obtain ⟨a0, b0, h0⟩ := hs0
  refine ⟨fun t m σ' H' => m = xs.length - t ∧ t ≤ xs.length ∧ ∃ G3 a b, Ex G2 G3 ∧ At G3 M H' ∧ σ' = (σ.set i a).set j b, ⟨xs.length, by simp, Nat.zero_le _, G2, a0, b0, Ex.refl _, A2, h0⟩, ?_⟩
  rintro t m σ' H' ⟨rfl, ht, G3, a', b', e3, A3, rfl⟩
  have hsq : SqL K H' a xs := SqL.of (A3.g _ _ (e3 _ _ k1))
  by_cases hlt : t < xs.length
  · have hx : xs[t]? = some xs[t] := List.getElem?_eq_getElem hlt
    obtain ⟨d, hd1, rd⟩ := k2.get hx
    refine .inr ⟨⟨xs, xs[t], hsq, hx⟩, fun σ' H' => ∃ G3 a b, Ex G2 G3 ∧ At G3 M H' ∧ σ' = (σ.set i a).set j b, fun σ2 H3 z => ⟨xs.length - (t + 1), by omega, rfl, hlt, z⟩, ?_⟩
    rintro x H4 ⟨T, y, rfl, hT, rfl, hy⟩
    have ey : y = xs[t] := Option.some.inj ((hy xs hsq).symm.trans hx)
    subst ey
    have A4 := A3.ng (o := HO.tup [.int t, xs[t]]) hT
    have e4 : Ex G3 (upd G3 T (.tup [.int t, xs[t]])) := Ex.new (A3.gNone hT)
    refine ⟨T, [.int t, xs[t]], rfl, SqT.of upd_same, rfl, .int t, [xs[t]], rfl, xs[t], [], rfl, rfl, ?_⟩
    have es : (((σ.set i a').set j b').set i (some (V.int t))).set j (some xs[t]) = (σ.set i (some (V.int t))).set j (some xs[t]) := by
      rw [List.set_comm _ _ hij.symm, List.set_set, List.set_set]
    rw [es]
    refine hb t d hd1 _ _ _ ((e2.trans e3).trans e4) A4 (rd.up (e3.trans e4)) _ fun G5 H5 e5 A5 => ?_
    exact ⟨G5, _, _, (e3.trans e4).trans e5, A5, rfl⟩
  · refine .inl ⟨⟨xs, hsq, by omega⟩, ?_⟩
    exact hd a' b' G3 H' (e2.trans e3) A3
/-! ### a statement and what follows it -/
theorem q_set (h : TrD K te σ G d) (A : At G M H) (k : ∀ v G' H', Ex G G' → At G' M H' → Rp K G' d v → s2 D (σ.set i (some v)) H') : tSeq (tAsg te (gName i)) s2 D σ H := s_set h A k
theorem q_setK (h : TrD K (tLockE te) σ G d) (A : At G M H) (k : ∀ v G' H', Ex G G' → At G' M H' → Rp K G' d v → s2 D (σ.set i (some v)) H') : tSeq (tLock (tAsg te (gName i))) s2 D σ H := s_setK h A k
theorem q_drop (h : TrD K te σ G d) (A : At G M H) (k : ∀ G' H', Ex G G' → At G' M H' → s2 D σ H') : tSeq (tDrop te) s2 D σ H := s_drop h A k
theorem q_guardF {tc : TT} (h : TrB tc σ G false) (A : At G M H) (k : ∀ G' H', Ex G G' → At G' M H' → s2 D σ H') : tSeq (tIfS tc s1 tNext) s2 D σ H := s_ifF h A k
theorem q_guardT {tc : TT} {s3 : TS} (h : TrB tc σ G true) (A : At G M H) (k : ∀ G' H', Ex G G' → At G' M H' → s1 { D with nx := s2 D } σ H') : tSeq (tIfS tc s1 s3) s2 D σ H := s_ifT h A k
theorem q_guardR {tc : TT} (h : TrB tc σ G true) (A : At G M H) (k : ∀ G' H', Ex G G' → At G' M H' → tRet te D σ H') : tSeq (tIfS tc (tRet te) tNext) s2 D σ H := s_ifT h A k
theorem q_guardO {tc : TT} {s3 : TS} (h : TrB tc σ G false) (A : At G M H) (k : ∀ G' H', Ex G G' → At G' M H' → s3 { D with nx := s2 D } σ H') : tSeq (tIfS tc s1 s3) s2 D σ H := s_ifF h A k
theorem q_unpack {n : Nat} {g : TGs} (h : TrD K te σ G (.tuple ds)) (hn : ds.length = n) (A : At G M H) (k : ∀ xs G' H', Ex G G' → At G' M H' → RpL K G' ds xs → g xs σ H' (s2 D)) : tSeq (tAsg te (gTup K n g)) s2 D σ H :=
  w_D h A fun v G2 H2 e2 A2 r => g_tup A2 r hn fun xs rx => k xs G2 H2 e2 A2 rx
theorem q_newL (h : TrA K ts σ G ds) (hn : ds.length ≤ 100000) (A : At G M H) (k : ∀ p xs G' H', Ex G G' → M p = none → G' p = none → At G' (upd M p (.lst xs)) H' → RpL K G' ds xs → s2 D (σ.set i (some (.ref p))) H') : tSeq (tAsg (tLst ts) (gName i)) s2 D σ H := s_newL h hn A k
theorem q_newD (A : At G M H) (k : ∀ p H', M p = none → G p = none → At G (upd M p (.dK [])) H' → s2 D (σ.set i (some (.ref p))) H') : tSeq (tAsg tDNewK (gName i)) s2 D σ H := s_newD A k
theorem q_append {p : Addr} {xs : List V} (hi : σ[i]? = some (some (.ref p))) (hp : M p = some (.lst xs)) (h : TrD K te σ G d) (hn : xs.length < 100000) (A : At G M H)
    (k : ∀ v G' H', Ex G G' → At G' (upd M p (.lst (xs ++ [v]))) H' → Rp K G' d v → s2 D σ H') : tSeq (tDrop (tBM K "list" rAppend (tVar i) (tCons te tNil))) s2 D σ H := s_append hi hp h hn A k
theorem q_forE {tb : TS} (h : TrD K te σ G (.list ds)) (A : At G M H) (hs0 : ∃ a b, σ = (σ.set i a).set j b) (hij : i ≠ j)
    (hb : ∀ (k : Nat) d, ds[k]? = some d → ∀ x G1 H1, Ex G G1 → At G1 M H1 → Rp K G1 d x → ∀ Nx : L2.St → Hp → Prop, (∀ G2 H2, Ex G1 G2 → At G2 M H2 → Nx ((σ.set i (some (.int k))).set j (some x)) H2) →
      tb { D with nx := Nx, ct := Nx, bk := s2 D } ((σ.set i (some (.int k))).set j (some x)) H1)
    (hd : ∀ a b G1 H1, Ex G G1 → At G1 M H1 → s2 D ((σ.set i a).set j b) H1) :
    tSeq (tFor (iEnum K (tCons te tNil)) (gTup K 2 (gCons (gName i) (gCons (gName j) gNil))) tb) s2 D σ H := s_forE h A hs0 hij hb hd
/-! ### more data -/
theorem d_newD : TrD K tDNewK σ G (.dict (keysD [])) := fun G1 M H e A Q q p hp => q.newG A hp ⟨p, [], rfl, upd_same, rfl⟩
theorem keysD_len (kvs : List (Str × PyData)) : (keysD kvs).length = kvs.length := by simp [keysD]
theorem rd_eqE {kvs : List (Str × PyData)} : RD K rEqE (.dict (keysD kvs)) (.dict (keysD [])) (.bool kvs.isEmpty) := fun G M H x y A ⟨a, xs, h1, h2, h3⟩ ⟨b, ys, k1, k2, k3⟩ Q q => by
  refine ⟨a, b, xs, h1, k1, A.g _ _ h2, ?_, q.here A ?_⟩
  · have e : ys = [] := k3
    subst e
    exact A.g _ _ k2
  · show V.bl _ = V.bl _
    have z := h3.len
    rw [keysD_len] at z
    cases xs with
    | nil =>
      cases kvs with
      | nil => rfl
      | cons _ _ => simp at z
    | cons _ _ =>
      cases kvs with
      | nil => simp at z
      | cons _ _ => rfl
theorem v_call1 {R : List PyData → PyData → Prop} {E : XK} (h : TrD K ta σ G d1) (hr : R [d1] d) : TrD K (tCall (PSp K R) [] E (tCons ta tNil)) σ G d := d_call0 (a_cons h a_nil) hr
theorem filt_true {α : Type} (l : List α) : l.filter (fun _ => true) = l := List.filter_eq_self.mpr fun _ _ => rfl
theorem eqv_nil (ds : List PyData) : PyData.eqv (.list ds) (.list []) = ds.isEmpty := by
  cases ds <;> simp [PyData.eqv, PyData.eqvAll]
theorem eqv_nilT (ds : List PyData) : PyData.eqv (.tuple ds) (.tuple []) = ds.isEmpty := by
  cases ds <;> simp [PyData.eqv, PyData.eqvAll]
theorem shaped_ints (ns : List Int) : SeqAt.shaped (.tuple (dInts ns)) = true := by
  have h1 : ∀ ns : List Int, PyData.canLayAll0 (dInts ns) = true := fun ns => by
    induction ns with
    | nil => simp [dInts, PyData.canLayAll0]
    | cons n ns ih =>
      show PyData.canLayAll0 (.int n :: dInts ns) = true
      simp only [PyData.canLayAll0, PyData.canLay0, Bool.true_and]
      exact ih
  have h2 : ∀ ns : List Int, PyData.depthAll (dInts ns) = 0 := fun ns => by
    induction ns with
    | nil => simp [dInts, PyData.depthAll]
    | cons n ns ih =>
      show PyData.depthAll (.int n :: dInts ns) = 0
      simp only [PyData.depthAll, PyData.depth, Nat.zero_max]
      exact ih
  unfold SeqAt.shaped
  simp [PyData.canLay0, PyData.depth, h1, h2]
end
end Sb

namespace Sb
open PySem PySem.Spec PyProof.Rows L2
section
variable {K : PySem.W.Frag} {σ : L2.St} {G G' M H : Hp} {ta tb te td ty : TE} {d d1 d2 d3 : PyData} {tt t u : TT} {ts : TA} {ds es : List PyData} {Q : VK} {D : Ends} {s1 s2 tbd : TS} {i j : Nat} {p : Addr} {o : HO}
/-! ### a cell that is still written, looked at as data -/
def cutG (G : Hp) (p : Addr) : Hp := fun b => if b = p then none else G b
theorem At.fz (A : At G (upd M p o) H) (hM : M p = none) : At (upd G p o) M H := A.frz upd_same (Ex.new hM) hM
theorem At.thaw {G1 : Hp} (e : Ex (upd G p o) G1) (hG : G p = none) (hM : M p = none) (A : At G1 M H) : Ex G (cutG G1 p) ∧ At (cutG G1 p) (upd M p o) H := by
  have hp : G1 p = some o := e _ _ upd_same
  refine ⟨fun b u z => ?_, fun b u z => ?_, fun b u z => ?_, fun b u z => ?_⟩
  · have hb : b ≠ p := fun y => by
      subst y
      rw [hG] at z
      cases z
    show (if b = p then none else G1 b) = some u
    rw [if_neg hb]
    exact e _ _ (by rw [upd_ne hb]; exact z)
  · have z' : (if b = p then none else G1 b) = some u := z
    by_cases hb : b = p
    · rw [if_pos hb] at z'
      cases z'
    · rw [if_neg hb] at z'
      exact A.g _ _ z'
  · by_cases hb : b = p
    · subst hb
      rw [upd_same] at z
      cases z
      exact A.g _ _ hp
    · rw [upd_ne hb] at z
      exact A.m _ _ z
  · show (if b = p then none else G1 b) = none
    by_cases hb : b = p
    · exact if_pos hb
    · rw [if_neg hb]
      rw [upd_ne hb] at z
      exact A.d _ _ z
theorem rp_any {G1 G2 : Hp} {v : V} (hf : isFlat d = true) (h : Rp K G1 d v) : Rp K G2 d v := by
  cases d with
  | none => exact h
  | bool b => exact h
  | int b => exact h
  | str b => exact h
  | list ds => cases hf
  | dict ds => cases hf
  | tuple ds => cases hf
theorem w_Dfz (h : TrD K te σ (upd G p o) d) (hf : isFlat d = true) (hG : G p = none) (hM : M p = none) (A : At G (upd M p o) H) (k : Res K G (upd M p o) d Q) : te σ H Q := by
  refine w_D h (A.fz hM) fun v G1 H1 e1 A1 r1 => ?_
  obtain ⟨e2, A2⟩ := At.thaw e1 hG hM A1
  exact k v _ H1 e2 A2 (rp_any hf r1)
theorem w_Bfz {b : Bool} {Q : Bool → Hp → Prop} (h : TrB t σ (upd G p o) b) (hG : G p = none) (hM : M p = none) (A : At G (upd M p o) H) (k : ∀ G' H', Ex G G' → At G' (upd M p o) H' → Q b H') : t σ H Q := by
  refine w_B h (A.fz hM) fun G1 H1 e1 A1 => ?_
  obtain ⟨e2, A2⟩ := At.thaw e1 hG hM A1
  exact k _ H1 e2 A2
theorem q_guardFfz (h : TrB t σ (upd G p o) false) (hG : G p = none) (hM : M p = none) (A : At G (upd M p o) H) (k : ∀ G' H', Ex G G' → At G' (upd M p o) H' → s2 D σ H') : tSeq (tIfS t s1 tNext) s2 D σ H :=
  w_Bfz (Q := fun b H1 => if b = true then s1 { D with nx := s2 D } σ H1 else tNext { D with nx := s2 D } σ H1) h hG hM A k
/-! ### dicts that are written -/
theorem RpD.snoc : ∀ {ds : List (PyData × PyData)} {es : List (Key × V)} {k d : PyData} {x : Key} {v : V}, RpD K G ds es → kD x = k → Rp K G d v → RpD K G (ds ++ [(k, d)]) (es ++ [(x, v)])
  | [], es, k, d, x, v, h, hk, r => by
    rw [show es = [] from h]
    exact ⟨x, v, [], rfl, hk, r, rfl⟩
  | (k', d') :: ds, _, k, d, x, v, ⟨x', y', t, h1, h2, h3, h4⟩, hk, r => by
    rw [h1]
    exact ⟨x', y', _, rfl, h2, h3, h4.snoc hk r⟩
theorem s_dput {es : List (Key × V)} {x : Str} (hi : σ[i]? = some (some (.ref p))) (hp : M p = some (.dK es)) (hv : TrD K te σ G d) (hx : TrD K ty σ G (.str x)) (hn : es.length < 100000) (A : At G M H)
    (k : ∀ v G' H', Ex G G' → At G' (upd M p (.dK (putK es (Sum.inr x) v))) H' → Rp K G' d v → D.nx σ H') : sDPut (tVar i) ty te D σ H := by
  refine w_D hv A fun v G1 H1 e1 A1 r1 => ⟨.ref p, hi, ?_⟩
  refine w_D (hx.up e1) A1 fun y G2 H2 e2 A2 r2 => ?_
  refine ⟨p, _, rfl, ?_, k v G2 _ (e1.trans e2) (A2.wr hp) (r1.up e2)⟩
  rw [show y = kV (Sum.inr x) from r2]
  exact DPut.k (A2.m _ _ hp) (sz_lt hn)
/-! ### loops by an invariant over slots, G and M -/
theorem s_forEI (Inv : Nat → L2.St → Hp → Hp → Prop) (h : TrD K te σ G (.list ds)) (A : At G M H) (mono : ∀ {k : Nat} {σ1 : L2.St} {G1 G2 M1 : Hp}, Ex G1 G2 → Inv k σ1 G1 M1 → Inv k σ1 G2 M1)
    (h0 : Inv 0 σ G M)
    (hb : ∀ (k : Nat) d, ds[k]? = some d → ∀ x σ1 G1 M1 H1, Ex G G1 → At G1 M1 H1 → Inv k σ1 G1 M1 → Rp K G1 d x → ∀ Nx : L2.St → Hp → Prop, (∀ σ2 G2 M2 H2, Ex G1 G2 → At G2 M2 H2 → Inv (k + 1) σ2 G2 M2 → Nx σ2 H2) →
      tbd { D with nx := Nx, ct := Nx, bk := D.nx } ((σ1.set i (some (.int k))).set j (some x)) H1)
    (hd : ∀ σ1 G1 M1 H1, Ex G G1 → At G1 M1 H1 → Inv ds.length σ1 G1 M1 → D.nx σ1 H1) :
    tFor (iEnum K (tCons te tNil)) (gTup K 2 (gCons (gName i) (gCons (gName j) gNil))) tbd D σ H := by
  refine w_D h A fun v G2 H2 e2 A2 r => ?_
  obtain ⟨a, xs, rfl, k1, k2⟩ := r
  refine ⟨a, xs, rfl, SqL.of (A2.g _ _ k1), ?_⟩
  refine ⟨fun t m σ' H' => m = xs.length - t ∧ t ≤ xs.length ∧ ∃ G3 M3, Ex G2 G3 ∧ At G3 M3 H' ∧ Inv t σ' G3 M3, ⟨xs.length, by simp, Nat.zero_le _, G2, M, Ex.refl _, A2, mono e2 h0⟩, ?_⟩
  rintro t m σ' H' ⟨rfl, ht, G3, M3, e3, A3, hI⟩
  have hsq : SqL K H' a xs := SqL.of (A3.g _ _ (e3 _ _ k1))
  by_cases hlt : t < xs.length
  · have hx : xs[t]? = some xs[t] := List.getElem?_eq_getElem hlt
    obtain ⟨d, hd1, rd⟩ := k2.get hx
    refine .inr ⟨⟨xs, xs[t], hsq, hx⟩, fun σ' H' => ∃ G3 M3, Ex G2 G3 ∧ At G3 M3 H' ∧ Inv (t + 1) σ' G3 M3, fun σ2 H3 z => ⟨xs.length - (t + 1), by omega, rfl, hlt, z⟩, ?_⟩
    rintro x H4 ⟨T, y, rfl, hT, rfl, hy⟩
    have ey : y = xs[t] := Option.some.inj ((hy xs hsq).symm.trans hx)
    subst ey
    have A4 := A3.ng (o := HO.tup [.int t, xs[t]]) hT
    have e4 : Ex G3 (upd G3 T (.tup [.int t, xs[t]])) := Ex.new (A3.gNone hT)
    refine ⟨T, [.int t, xs[t]], rfl, SqT.of upd_same, rfl, .int t, [xs[t]], rfl, xs[t], [], rfl, rfl, ?_⟩
    refine hb t d hd1 _ _ _ _ _ ((e2.trans e3).trans e4) A4 (mono e4 hI) (rd.up (e3.trans e4)) _ fun σ5 G5 M5 H5 e5 A5 i5 => ?_
    exact ⟨G5, M5, (e3.trans e4).trans e5, A5, i5⟩
  · have et : t = ds.length := by have := k2.len; omega
    subst et
    refine .inl ⟨⟨xs, hsq, by omega⟩, ?_⟩
    exact hd σ' G3 M3 H' (e2.trans e3) A3 hI
theorem s_forLI (Inv : Nat → L2.St → Hp → Hp → Prop) (h : TrD K te σ G (.list ds)) (A : At G M H) (mono : ∀ {k : Nat} {σ1 : L2.St} {G1 G2 M1 : Hp}, Ex G1 G2 → Inv k σ1 G1 M1 → Inv k σ1 G2 M1)
    (h0 : Inv 0 σ G M)
    (hb : ∀ (k : Nat) d, ds[k]? = some d → ∀ x σ1 G1 M1 H1, Ex G G1 → At G1 M1 H1 → Inv k σ1 G1 M1 → Rp K G1 d x → ∀ Nx : L2.St → Hp → Prop, (∀ σ2 G2 M2 H2, Ex G1 G2 → At G2 M2 H2 → Inv (k + 1) σ2 G2 M2 → Nx σ2 H2) →
      tbd { D with nx := Nx, ct := Nx, bk := D.nx } (σ1.set i (some x)) H1)
    (hd : ∀ σ1 G1 M1 H1, Ex G G1 → At G1 M1 H1 → Inv ds.length σ1 G1 M1 → D.nx σ1 H1) :
    tFor (iList K te) (gName i) tbd D σ H := by
  refine w_D h A fun v G2 H2 e2 A2 r => ?_
  obtain ⟨a, xs, rfl, k1, k2⟩ := r
  refine ⟨a, rfl, ⟨xs, SqL.of (A2.g _ _ k1)⟩, ?_⟩
  refine for_list (K := K) (a := a) (xs := xs) (fun t σ' H' => ∃ G3 M3, Ex G2 G3 ∧ At G3 M3 H' ∧ Inv t σ' G3 M3) ⟨G2, M, Ex.refl _, A2, mono e2 h0⟩ ?_ ?_ ?_
  · rintro t σ' H' _ ⟨G3, M3, e3, A3, _⟩
    exact SqL.of (A3.g _ _ (e3 _ _ k1))
  · rintro t x σ' H' hx ⟨G3, M3, e3, A3, hI⟩
    obtain ⟨d, hd1, rd⟩ := k2.get hx
    exact hb t d hd1 _ _ _ _ _ (e2.trans e3) A3 hI (rd.up e3) _ fun σ5 G5 M5 H5 e5 A5 i5 => ⟨G5, M5, e3.trans e5, A5, i5⟩
  · rintro σ' H' ⟨G3, M3, e3, A3, hI⟩
    rw [k2.len] at hI
    exact hd σ' G3 M3 H' (e2.trans e3) A3 hI
theorem s_forRI (Inv : Nat → L2.St → Hp → Hp → Prop) {n : Int} (h : TrD K te σ G (.int n)) (hn : n < 2 ^ 62) (hn0 : -(2 ^ 62) ≤ n) (A : At G M H) (mono : ∀ {k : Nat} {σ1 : L2.St} {G1 G2 M1 : Hp}, Ex G1 G2 → Inv k σ1 G1 M1 → Inv k σ1 G2 M1)
    (h0 : Inv 0 σ G M)
    (hb : ∀ (k : Nat), (k : Int) < n → ∀ σ1 G1 M1 H1, Ex G G1 → At G1 M1 H1 → Inv k σ1 G1 M1 → ∀ Nx : L2.St → Hp → Prop, (∀ σ2 G2 M2 H2, Ex G1 G2 → At G2 M2 H2 → Inv (k + 1) σ2 G2 M2 → Nx σ2 H2) →
      tbd { D with nx := Nx, ct := Nx, bk := D.nx } (σ1.set i (some (.int k))) H1)
    (hd : ∀ σ1 G1 M1 H1, Ex G G1 → At G1 M1 H1 → Inv n.toNat σ1 G1 M1 → D.nx σ1 H1) :
    tFor (iRng1 (tCons te tNil)) (gName i) tbd D σ H := by
  refine w_D h A fun v G2 H2 e2 A2 r => ?_
  refine ⟨n, by rw [show v = V.int n from r], hn0, hn, ?_⟩
  refine for_range (lo := 0) (n := n.toNat) (fun t σ' H' => ∃ G3 M3, Ex G2 G3 ∧ At G3 M3 H' ∧ Inv t σ' G3 M3) ⟨G2, M, Ex.refl _, A2, mono e2 h0⟩ ?_ ?_
  · rintro t σ' H' hx ⟨G3, M3, e3, A3, hI⟩
    rw [Int.zero_add]
    exact hb t (by omega) _ _ _ _ (e2.trans e3) A3 hI _ fun σ5 G5 M5 H5 e5 A5 i5 => ⟨G5, M5, e3.trans e5, A5, i5⟩
  · rintro σ' H' ⟨G3, M3, e3, A3, hI⟩
    exact hd σ' G3 M3 H' (e2.trans e3) A3 hI
/-! ### dict comprehensions over data -/
theorem d_dcL {tl tk tv : TE} {p : PyData → Bool} {kf : PyData → Str} {f : PyData → PyData} (hl : TrD K te σ G (.list ds)) (hn : ds.length < 100000) (hnd : ((ds.filter p).map kf).Nodup)
    (ht : ∀ d ∈ ds, ∀ x G1, Ex G G1 → Rp K G1 d x → TrB tt ((wipe σ [i]).set i (some x)) G1 (p d))
    (hk : ∀ d ∈ ds, p d = true → ∀ x G1, Ex G G1 → Rp K G1 d x → TrD K tk ((wipe σ [i]).set i (some x)) G1 (.str (kf d)))
    (he : ∀ d ∈ ds, p d = true → ∀ x G1, Ex G G1 → Rp K G1 d x → TrD K tv ((wipe σ [i]).set i (some x)) G1 (f d)) :
    TrD K (tDc (iList K te) (gName i) tt tk tv [i]) σ G (.dict (keysD ((ds.filter p).map fun d => (kf d, f d)))) := fun G1 M H e A Q q => by
  refine hl G1 M H e A _ fun v G2 H2 e2 A2 r => ?_
  obtain ⟨a, xs, rfl, hs, hx⟩ := r
  refine ⟨a, rfl, ⟨xs, SqL.of (A2.g _ _ hs)⟩, fun D hD => ?_⟩
  refine ⟨fun t m H3 => m = xs.length - t ∧ t ≤ xs.length ∧ ∃ Gj acc, Ex G2 Gj ∧ At Gj (upd M D (.dK acc)) H3 ∧ RpD K Gj (keysD (((ds.take t).filter p).map fun d => (kf d, f d))) acc, ⟨xs.length, by simp, Nat.zero_le _, G2, [], Ex.refl _, A2.nm hD, rfl⟩, ?_⟩
  rintro t m H3 ⟨rfl, ht', Gj, acc, ej, Aj, rj⟩
  have hsq : SqL K H3 a xs := SqL.of (Aj.g _ _ (ej _ _ hs))
  by_cases hlt : t < xs.length
  · have hxt : xs[t]? = some xs[t] := List.getElem?_eq_getElem hlt
    obtain ⟨d, hd, rd⟩ := hx.get hxt
    have hm : d ∈ ds := List.mem_of_getElem? hd
    have htk : ds.take (t + 1) = ds.take t ++ [d] := by rw [List.take_add_one, hd]; rfl
    refine .inr ⟨⟨xs, xs[t], hsq, hxt⟩, fun H4 => ∃ Gj acc, Ex G2 Gj ∧ At Gj (upd M D (.dK acc)) H4 ∧ RpD K Gj (keysD (((ds.take (t + 1)).filter p).map fun d => (kf d, f d))) acc, fun H4 z => ⟨xs.length - (t + 1), by omega, rfl, hlt, z⟩, ?_⟩
    rintro y H4 ⟨e4', hy⟩
    subst e4'
    have ey : y = xs[t] := Option.some.inj ((hy xs hsq).symm.trans hxt)
    subst ey
    show wipe _ _ = wipe _ _ ∧ _
    refine ⟨wipe_set, ?_⟩
    refine ht d hm _ Gj ((e.trans e2).trans ej) (rd.up ej) Gj _ _ (Ex.refl _) Aj _ fun G4 H4 e4 A4 => ?_
    cases hp : p d with
    | false =>
      refine ⟨G4, acc, ej.trans e4, A4, ?_⟩
      rw [htk, List.filter_append, List.filter_cons, hp]
      simpa using rj.up e4
    | true =>
      refine hk d hm hp _ G4 ((e.trans e2).trans (ej.trans e4)) (rd.up (ej.trans e4)) G4 _ H4 (Ex.refl _) A4 _ fun v5 G5 H5 e5 A5 r5 => ?_
      refine he d hm hp _ G5 ((e.trans e2).trans ((ej.trans e4).trans e5)) (rd.up ((ej.trans e4).trans e5)) G5 _ H5 (Ex.refl _) A5 _ fun v6 G6 H6 e6 A6 r6 => ?_
      have hln : acc.length < 100000 := by
        rw [rj.len, keysD_len, List.length_map]
        refine Nat.lt_of_le_of_lt (Nat.le_trans (List.length_filter_le _ _) ?_) hn
        rw [List.length_take]
        exact Nat.min_le_right _ _
      have hfresh : valV acc (Sum.inr (kf d)) = none := by
        refine (RpD.val (x := kf d) rj).2 ?_
        unfold lookD
        rw [Option.map_eq_none_iff, List.find?_eq_none]
        intro q hq hqd
        obtain ⟨d2, hd2, rfl⟩ := List.mem_map.mp hq
        have hqe : kf d2 = kf d := of_decide_eq_true hqd
        have split : (ds.filter p).map kf = ((ds.take t).filter p).map kf ++ kf d :: ((ds.drop (t + 1)).filter p).map kf := by
          have e1 : ds = ds.take t ++ d :: ds.drop (t + 1) := by
            have z := List.take_append_drop (t + 1) ds
            rw [htk, List.append_assoc] at z
            exact z.symm
          conv => lhs; rw [e1]
          rw [List.filter_append, List.filter_cons, if_pos hp, List.map_append, List.map_cons]
        rw [split] at hnd
        have z := (List.nodup_append.mp hnd).2.2 (kf d2) (List.mem_map.mpr ⟨d2, hd2, rfl⟩) (kf d) (List.mem_cons_self ..)
        exact z hqe
      refine ⟨acc, Sum.inr (kf d), r5, A6.m _ _ upd_same, sz_lt hln, G6, acc ++ [(Sum.inr (kf d), v6)], ((ej.trans e4).trans e5).trans e6, ?_, ?_⟩
      · have z := A6.wr (o := .dK (putK acc (Sum.inr (kf d)) v6)) (upd_same (H := M) (a := D) (o := .dK acc))
        rw [upd_upd, putK_new _ hfresh] at z
        rw [putK_new _ hfresh]
        exact z
      · rw [htk, List.filter_append, List.filter_cons, hp, List.map_append]
        unfold keysD
        rw [List.map_append]
        exact (rj.up ((e4.trans e5).trans e6)).snoc rfl r6
  · have e1 : t = xs.length := by omega
    subst e1
    have hl2 : ds.take xs.length = ds := by rw [hx.len, List.take_length]
    rw [hl2] at rj
    have hM : M D = none := A2.mNone hD
    have hm := upd_same (H := M) (a := D) (o := HO.dK acc)
    exact .inl ⟨⟨xs, hsq, Nat.le_refl _⟩, q _ _ _ ((e2.trans ej).trans (Aj.frzG hm)) (Aj.frz hm (Ex.new hM) hM) ⟨D, acc, rfl, upd_same, rj.up (Aj.frzG hm)⟩⟩
/-- a dict that is no longer written -/
theorem At.doneD {es : List (Key × V)} {kvs : List (PyData × PyData)} (A : At G (upd M p (.dK es)) H) (hM : M p = none) (r : RpD K G kvs es) : ∃ G', Ex G G' ∧ At G' M H ∧ Rp K G' (.dict kvs) (.ref p) :=
  have hm := upd_same (H := M) (a := p) (o := HO.dK es)
  ⟨_, A.frzG hm, A.frz hm (Ex.new hM) hM, p, es, rfl, upd_same, r.up (A.frzG hm)⟩
theorem d_get2 {tx ty2 : TE} {x : Str} {kvs : List (Str × PyData)} (h : TrD K te σ G (.dict (keysD kvs))) (hx : TrD K tx σ G (.str x)) (hy : TrD K ty2 σ G d1) (hl : lookD kvs x = some d ∨ (lookD kvs x = none ∧ d = d1)) : TrD K (tDGet2 te tx ty2) σ G d := fun G1 M H e A Q q => by
  refine h G1 M H e A _ fun v G2 H2 e2 A2 r => ?_
  obtain ⟨a, xs, rfl, k1, k2⟩ := r
  refine ⟨a, rfl, .inl ⟨xs, .inl (A2.g _ _ k1)⟩, ?_⟩
  refine hx G2 M H2 (e.trans e2) A2 _ fun w G3 H3 e3 A3 r3 => ?_
  refine hy G3 M H3 ((e.trans e2).trans e3) A3 _ fun z G4 H4 e4 A4 r4 => ?_
  have hv := RpD.val (x := x) k2
  refine ⟨valV xs (Sum.inr x), ?_, ?_⟩
  · rw [show w = kV (Sum.inr x) from r3]
    exact DGet.k (A4.g _ _ ((e3.trans e4) _ _ k1))
  · rcases hl with hl | ⟨hl, rfl⟩
    · obtain ⟨y, e5, r5⟩ := hv.1 d hl
      rw [e5]
      exact (q.mono ((e2.trans e3).trans e4)).here A4 (r5.up (e3.trans e4))
    · rw [hv.2 hl]
      exact (q.mono ((e2.trans e3).trans e4)).here A4 r4
end
end Sb

namespace Sb
open PySem PySem.Spec PyProof.Rows L2
section
variable {X : Cx}
/-- name = {k: v for ..} on one line, the name a local of the def -/
theorem ps_setDc {i : Nat} {y : Str} {py : Pos} {kx vx tg iter : Expr} {ifs : List Expr} {scope : Scope} {own : List (Str × Nat)} {pos spos : Pos} {wi : TI} {g : TG} {tt : TT} {tk tv : TE}
    (hc : X.calm = true) (hN : X.N.Nodup) (hy : X.N[i]? = some y) (hyl : X.env.scope.names.lookup y = some .local)
    (hsw : swapsWith (.DictComp kx vx [⟨tg, iter, ifs, 0⟩] scope pos) (some (.Name y py)) spos.line X.env = pure true) (hi : PI X tg iter wi) (ok : BlkOk X.N X.env.scope scope own)
    (hg : ∀ s H C cl fp, PG (X.blk s H scope (compEnvC scope cl C X.env) fp) tg g) (ht : ∀ s H C cl fp, PTs (X.blk s H scope (compEnvC scope cl C X.env) fp) ifs tt)
    (hk : ∀ s H C cl fp, PE (X.blk s H scope (compEnvC scope cl C X.env) fp) kx tk) (he : ∀ s H C cl fp, PE (X.blk s H scope (compEnvC scope cl C X.env) fp) vx tv)
    (hs : ∀ x, foldedSetIterable iter X.env x = pure x := by intro _; rfl) :
    PS X (.Assign [.Name y py] (.DictComp kx vx [⟨tg, iter, ifs, 0⟩] scope pos) spos) (tAsg (tDc wi g tt tk tv (own.map (·.2))) (gName i)) := by
  constructor
  intro pins s σ H D I h
  have h' : tDc wi g tt tk tv (own.map (·.2)) σ H (fun x H1 => gName i x σ H1 D.nx) := h
  rw [exec_Assign_Name_used _ _ _ _ hsw]
  apply wpAny_bind
  apply wpAny_standAt
  apply wpAny_bind
  show wpAny _ X.A (do let _ ← comprehension (.DictComp kx vx [⟨tg, iter, ifs, 0⟩] scope pos) scope X.env (firstIterPos [⟨tg, iter, ifs, 0⟩] pos) newDict false (eval iter X.env) (some (assign (.Name y py) X.env))) _ _ s
  apply wpAny_bind
  refine thn (dc_core (Qf := fun _ s' => SP X pins D .next s') hc hN I hi ok hg ht hk he hs h' ?_) fun _ s' hq => wpAny_pure (wpAny_pure hq)
  rintro L C s' m H' I' q hn ⟨f0, f1, f2, f3, f4, f5⟩
  show wpAny _ _ (assign (.Name y py) X.env (.ref L)) _ _ _
  apply wpAny_assign_Name
  refine store_ok2 (v := V.ref L) I' hN hy (.inl hyl) rfl ?_ (.inr hyl)
  rintro s2 I2 ⟨a, sb, ha⟩
  have hne : C ≠ a := by
    rcases ha with z | z
    · rw [z]; exact f1
    · exact fun e => f4 y a z e.symm
  refine ⟨m, hn.sameBut sb hne, ?_⟩
  intro h3 sb3
  exact ⟨_, H', I2.turned (t' := s2.toks) (fun b o hb e => (sb3.2 b hb).trans e) f0 f1 f3 f4 f5, q⟩
theorem sw_trueD {kx vx : Expr} {gs : List Comprehension} {scope : Scope} {pos py : Pos} {y : Str} {l : Nat} {env : Env} (hk : env.scope.kind = .function) (hy : env.scope.names.lookup y = some .local) (hl : (py.line == pos.line) = true)
    (ha : (scope.names.any fun (n, k) => n == y && (k == .local || k == .cell)) = false) : swapsWith (.DictComp kx vx gs scope pos) (some (.Name y py)) l env = pure true := by
  have k1 : env.kindOf y = some .local := hy
  have k2 : env.blockKind = .function := by
    unfold Env.blockKind
    rw [hk]
    rfl
  unfold swapsWith
  simp only [k2, k1, ha, Expr.pos, hl]
  rfl
end
end Sb

namespace Sb
open PySem PySem.Spec PyProof.Rows L2
section
variable {K : PySem.W.Frag} {σ : L2.St} {G G' M M0 M1 H : Hp} {ta tb te tc : TE} {d d1 d2 d3 : PyData} {tt t u : TT} {ts : TA} {ds es : List PyData} {Q : VK} {D : Ends} {s1 s2 : TS} {i j n m n' : Nat} {r p : Addr} {o : HO}
/-! ### a reel: a list of three numbers that draws write -/
def Same (r : Addr) (M M' : Hp) : Prop := ∀ x, x ≠ r → M' x = M x
theorem Same.refl : Same r M M := fun _ _ => rfl
theorem Same.trans (a : Same r M M0) (b : Same r M0 M1) : Same r M M1 := fun x h => (b x h).trans (a x h)
def RL (r : Addr) (n : Nat) (M : Hp) : Prop := ∃ a b : Int, ∃ c : Nat, M r = some (.lst [.int a, .int b, .int c]) ∧ 0 ≤ b ∧ b < 10 ^ 43 ∧ c ≤ n
theorem RL.le (h : RL r n M) (e : n ≤ m) : RL r m M := by
  obtain ⟨a, b, c, h1, h2, h3, h4⟩ := h
  exact ⟨a, b, c, h1, h2, h3, Nat.le_trans h4 e⟩
theorem RL.ne (h : RL r n M) (e : M p = none) : p ≠ r := fun z => by
  obtain ⟨a, b, c, h1, _⟩ := h
  rw [← z, e] at h1
  cases h1
theorem RL.upd (h : RL r n M) (e : p ≠ r) : RL r n (L2.upd M p o) := by
  obtain ⟨a, b, c, h1, h2⟩ := h
  exact ⟨a, b, c, by rw [upd_ne (Ne.symm e)]; exact h1, h2⟩
theorem cut_eq (h : M p = some o) : upd (cutG M p) p o = M := by
  funext x
  by_cases e : x = p
  · subst e
    rw [upd_same, h]
  · rw [upd_ne e]
    exact if_neg e
theorem cut_none : cutG M p p = none := if_pos rfl
theorem same_cut : Same r (cutG M r) M := fun x h => (if_neg h).symm
theorem same_upd : Same r M (upd M r o) := fun x h => upd_ne h
def TrE (K : PySem.W.Frag) (r : Addr) (M0 : Hp) (te : TE) (σ : L2.St) (G : Hp) (n n' : Nat) (Φ : PyData → Prop) : Prop := ∀ G1 M H, Ex G G1 → At G1 M H → Same r M0 M → RL r n M → ∀ Q : VK,
  (∀ d v G' M' H', Ex G1 G' → At G' M' H' → Same r M0 M' → RL r n' M' → Φ d → Rp K G' d v → Q v H') → te σ H Q
def TrEA (K : PySem.W.Frag) (r : Addr) (M0 : Hp) (ts : TA) (σ : L2.St) (G : Hp) (n n' : Nat) (Φ : List PyData → Prop) : Prop := ∀ G1 M H, Ex G G1 → At G1 M H → Same r M0 M → RL r n M → ∀ Q : List V → Hp → Prop,
  (∀ ds vs G' M' H', Ex G1 G' → At G' M' H' → Same r M0 M' → RL r n' M' → Φ ds → RpL K G' ds vs → Q vs H') → ts σ H Q
variable {Φ Φ1 Φ2 Φ3 : PyData → Prop} {Ψ Ψ1 : List PyData → Prop}
theorem e_D (h : TrD K te σ G d) (hd : Φ d) : TrE K r M0 te σ G n n Φ := fun G1 M H e A S R Q q => h G1 M H e A Q fun v G2 H2 e2 A2 rv => q d v G2 M H2 e2 A2 S R hd rv
theorem TrE.up (e : Ex G G') (h : TrE K r M0 te σ G n n' Φ) : TrE K r M0 te σ G' n n' Φ := fun G1 M H e1 A S R Q q => h G1 M H (e.trans e1) A S R Q q
theorem TrE.imp (h : TrE K r M0 te σ G n n' Φ) (hi : ∀ d, Φ d → Φ1 d) : TrE K r M0 te σ G n n' Φ1 := fun G1 M H e1 A S R Q q => h G1 M H e1 A S R Q fun d v G' M' H' e A S R hd => q d v G' M' H' e A S R (hi d hd)
theorem TrE.le (h : TrE K r M0 te σ G n n' Φ) (hi : n' ≤ m) : TrE K r M0 te σ G n m Φ := fun G1 M H e1 A S R Q q => h G1 M H e1 A S R Q fun d v G' M' H' e A S R hd => q d v G' M' H' e A S (R.le hi) hd
theorem ea_nil (h : Ψ []) : TrEA K r M0 tNil σ G n n Ψ := fun G1 M H e A S R Q q => q [] [] G1 M H (Ex.refl _) A S R h rfl
theorem ea_cons (ha : TrE K r M0 ta σ G n m Φ) (hr : ∀ d, Φ d → TrEA K r M0 ts σ G m n' fun ds => Ψ (d :: ds)) : TrEA K r M0 (tCons ta ts) σ G n n' Ψ := fun G1 M H e A S R Q q => by
  refine ha G1 M H e A S R _ fun d v G2 M2 H2 e2 A2 S2 R2 hd rv => ?_
  refine hr d hd G2 M2 H2 (e.trans e2) A2 S2 R2 _ fun ds vs G3 M3 H3 e3 A3 S3 R3 hds rvs => ?_
  exact q (d :: ds) (v :: vs) G3 M3 H3 (e2.trans e3) A3 S3 R3 hds ⟨v, vs, rfl, rv.up e3, rvs⟩
theorem ea_A (h : TrA K ts σ G ds) (hd : Ψ ds) : TrEA K r M0 ts σ G n n Ψ := fun G1 M H e A S R Q q => h G1 M H e A Q fun vs G2 H2 e2 A2 rv => q ds vs G2 M H2 e2 A2 S R hd rv
theorem e_op {rr : R2} (ha : TrE K r M0 ta σ G n m Φ1) (hb : ∀ d1, Φ1 d1 → TrE K r M0 tb σ G m n' Φ2) (hr : ∀ d1 d2, Φ1 d1 → Φ2 d2 → ∃ d3, RD K rr d1 d2 d3 ∧ Φ d3) : TrE K r M0 (tOp rr ta tb) σ G n n' Φ := fun G1 M H e A S R Q q => by
  refine ha G1 M H e A S R _ fun d v G2 M2 H2 e2 A2 S2 R2 hd rv => ?_
  refine hb d hd G2 M2 H2 (e.trans e2) A2 S2 R2 _ fun d2 v2 G3 M3 H3 e3 A3 S3 R3 hd2 rv2 => ?_
  obtain ⟨d3, h3, p3⟩ := hr d d2 hd hd2
  exact h3 G3 M3 H3 v v2 A3 (rv.up e3) rv2 Q fun v4 G4 H4 e4 A4 r4 => q d3 v4 G4 M3 H4 ((e2.trans e3).trans e4) A4 S3 R3 p3 r4
theorem e_cb {rr : List V → Hp → VK → Prop} (h : TrEA K r M0 ts σ G n n' Ψ) (hr : ∀ ds, Ψ ds → ∃ d, RC K rr ds d ∧ Φ d) : TrE K r M0 (tCB rr ts) σ G n n' Φ := fun G1 M H e A S R Q q => by
  refine h G1 M H e A S R _ fun ds vs G2 M2 H2 e2 A2 S2 R2 hd rv => ?_
  obtain ⟨d, h3, p3⟩ := hr ds hd
  exact h3 G2 M2 H2 vs A2 rv Q fun v4 G4 H4 e4 A4 r4 => q d v4 G4 M2 H4 (e2.trans e4) A4 S2 R2 p3 r4
theorem e_tup (h : TrEA K r M0 ts σ G n n' Ψ) (hr : ∀ ds, Ψ ds → ds.length ≤ 100000 ∧ Φ (.tuple ds)) : TrE K r M0 (tTup ts) σ G n n' Φ := fun G1 M H e A S R Q q => by
  refine h G1 M H e A S R _ fun ds vs G2 M2 H2 e2 A2 S2 R2 hd rv => ?_
  exact (d_tup (ts := fun σ H Q => Q vs H) (σ := σ) (fun G3 M3 H3 e3 A3 Q3 q3 => q3 vs G3 H3 (Ex.refl _) A3 (rv.up e3)) (hr ds hd).1) G2 M2 H2 (Ex.refl _) A2 Q fun v4 G4 H4 e4 A4 r4 => q _ v4 G4 M2 H4 (e2.trans e4) A4 S2 R2 (hr ds hd).2 r4
theorem e_lst (h : TrEA K r M0 ts σ G n n' Ψ) (hr : ∀ ds, Ψ ds → ds.length ≤ 100000 ∧ Φ (.list ds)) : TrE K r M0 (tLst ts) σ G n n' Φ := fun G1 M H e A S R Q q => by
  refine h G1 M H e A S R _ fun ds vs G2 M2 H2 e2 A2 S2 R2 hd rv => ?_
  exact (d_lst (ts := fun σ H Q => Q vs H) (σ := σ) (fun G3 M3 H3 e3 A3 Q3 q3 => q3 vs G3 H3 (Ex.refl _) A3 (rv.up e3)) (hr ds hd).1) G2 M2 H2 (Ex.refl _) A2 Q fun v4 G4 H4 e4 A4 r4 => q _ v4 G4 M2 H4 (e2.trans e4) A4 S2 R2 (hr ds hd).2 r4
theorem e_if {b : Bool} (hc : TrB t σ G b) (h1 : b = true → TrE K r M0 ta σ G n n' Φ) (h2 : b = false → TrE K r M0 tb σ G n n' Φ) : TrE K r M0 (tIf t ta tb) σ G n n' Φ := fun G1 M H e A S R Q q => by
  refine hc G1 M H e A _ fun G2 H2 e2 A2 => ?_
  cases b with
  | true => exact h1 rfl G2 M H2 (e.trans e2) A2 S R Q fun d v G' M' H' e' => q d v G' M' H' (e2.trans e')
  | false => exact h2 rfl G2 M H2 (e.trans e2) A2 S R Q fun d v G' M' H' e' => q d v G' M' H' (e2.trans e')
/-- len(x), x a list that is still written -/
theorem e_len {xs : List V} (hi : σ[i]? = some (some (.ref p))) (hp : M0 p = some (.lst xs)) (hn : p ≠ r) (hd : Φ (.int xs.length)) : TrE K r M0 (tCB (rLen K) (tCons (tVar i) tNil)) σ G n n Φ := fun G1 M H e A S R Q q =>
  ⟨.ref p, hi, V.ref p, xs.length, rfl, .inl ⟨xs, SqL.of (A.m _ _ ((S p hn).trans hp)), rfl⟩, q (.int xs.length) (V.int xs.length) G1 M H (Ex.refl _) A S R hd rfl⟩
/-- x[i], x a list that is still written -/
theorem e_ixM {xs : List V} (hi : σ[i]? = some (some (.ref p))) (hp : M0 p = some (.lst xs)) (hn : p ≠ r) (rx : RpL K G ds xs) (hb : TrE K r M0 tb σ G n n' Φ1) (hr : ∀ d, Φ1 d → ∃ k d', d = .int k ∧ L2.atI ds k = some d' ∧ Φ d') : TrE K r M0 (tOp (rIxL K) (tVar i) tb) σ G n n' Φ := fun G1 M H e A S R Q q => by
  refine ⟨.ref p, hi, ?_⟩
  refine hb G1 M H e A S R _ fun d v G2 M2 H2 e2 A2 S2 R2 hd rv => ?_
  obtain ⟨k, d', rfl, hk, hd'⟩ := hr d hd
  obtain ⟨z, e1, rz⟩ := (rx.up (e.trans e2)).atI hk
  exact ⟨p, xs, k, z, rfl, rv, SqL.of (A2.m _ _ ((S2 p hn).trans hp)), e1, q d' z G2 M2 H2 e2 A2 S2 R2 hd' rz⟩
/-- a def that draws from the reel: the reel its first argument -/
def ESp (K : PySem.W.Frag) (R : List PyData → Nat → (PyData → Prop) → Prop) : Sp := fun vs H Q _ => ∃ r ws G M n k ds Φ, vs = .ref r :: ws ∧ At G M H ∧ RL r n M ∧ RpL K G ds ws ∧ R ds k Φ ∧ n + k ≤ 1000000 ∧
  ∀ d v G' M' H', Ex G G' → At G' M' H' → Same r M M' → RL r (n + k) M' → Φ d → Rp K G' d v → Q v H'
theorem ESp.len {R : List PyData → Nat → (PyData → Prop) → Prop} {n : Nat} (h : ∀ ds k Φ, R ds k Φ → ds.length = n) {vs : List V} {H : Hp} {Q : VK} {E : XK} (hs : ESp K R vs H Q E) : vs.length = n + 1 := by
  obtain ⟨r, ws, G, M, n2, k, ds, Φ, rfl, _, _, hr, hR, _⟩ := hs
  rw [List.length_cons, hr.len, h _ _ _ hR]
theorem e_call {R : List PyData → Nat → (PyData → Prop) → Prop} {E : XK} {k : Nat} (hi : σ[i]? = some (some (.ref r))) (h : TrEA K r M0 ts σ G n m Ψ) (hR : ∀ ds, Ψ ds → R ds k Φ) (hm : m + k ≤ 1000000) : TrE K r M0 (tCall (ESp K R) [] E (tCons (tVar i) ts)) σ G n (m + k) Φ := fun G1 M H e A S Rr Q q => by
  refine ⟨.ref r, hi, ?_⟩
  refine h G1 M H e A S Rr _ fun ds vs G2 M2 H2 e2 A2 S2 R2 hd rv => ?_
  refine ⟨r, vs, G2, M2, m, k, ds, Φ, by rw [List.append_nil], A2, R2, rv, hR ds hd, hm, fun d v G' M' H' e' A' S' R' hd' rv' => ?_⟩
  exact q d v G' M' H' (e2.trans e') A' (S2.trans S') R' hd' rv'
theorem upd_cut : upd (cutG M p) p o = upd M p o := by
  funext x
  by_cases e : x = p
  · subst e
    rw [upd_same, upd_same]
  · rw [upd_ne e, upd_ne e]
    exact if_neg e
/-- [e for x in range(n)], the element draws -/
theorem e_lcR {c : Nat} {step : Nat} {Φ0 : Int → Prop} (hl : TrE K r M0 ta σ G n m fun d => ∃ z : Int, d = .int z ∧ Φ0 z ∧ 0 ≤ z ∧ z ≤ c) (hc : c ≤ 10000)
    (he : ∀ M1 (x : Int) (t : Nat), t < c → TrE K r M1 te ((wipe σ [i]).set i (some (.int x))) G (m + t * step) (m + t * step + step) Φ1)
    (hΦ : ∀ z ds, Φ0 z → (ds.length : Int) = z → (∀ d ∈ ds, Φ1 d) → Φ (.list ds)) :
    TrE K r M0 (tLc (iRng1 (tCons ta tNil)) (gName i) tYes te [i]) σ G n (m + c * step) Φ := fun G1 M H e A S R Q q => by
  refine hl G1 M H e A S R _ fun d v G2 M2 H2 e2 A2 S2 R2 hd rv => ?_
  obtain ⟨z, rfl, hz0, hz1, hz2⟩ := hd
  refine ⟨z, by rw [show v = V.int z from rv], by omega, by omega, fun D hD => ?_⟩
  have hMD : M2 D = none := A2.mNone hD
  refine lc_range (lo := 0) (n := z.toNat) (fun t H3 => ∃ Gj Mj acc dj, Ex G2 Gj ∧ At Gj (upd Mj D (.lst acc)) H3 ∧ Same r M0 Mj ∧ Mj D = none ∧ RL r (m + t * step) Mj ∧ RpL K Gj dj acc ∧ dj.length = t ∧ ∀ d ∈ dj, Φ1 d)
    ⟨G2, M2, [], [], Ex.refl _, A2.nm hD, S2, hMD, by rw [Nat.zero_mul]; exact R2, rfl, rfl, fun _ h => by cases h⟩ ?_ ?_
  · rintro t H3 ht ⟨Gj, Mj, acc, dj, ej, Aj, Sj, hj, Rj, rj, hl2, hall⟩
    have hDr : D ≠ r := Rj.ne hj
    refine ⟨wipe_set, ?_⟩
    refine he (upd Mj D (.lst acc)) (0 + (t : Int)) t (by omega) Gj (upd Mj D (.lst acc)) H3 ((e.trans e2).trans ej) Aj .refl (Rj.upd hDr) _ fun d5 y G5 M5 H5 e5 A5 S5 R5 h5 r5 => ?_
    have hD5 : M5 D = some (.lst acc) := (S5 D hDr).trans upd_same
    refine ⟨acc, A5.m _ _ hD5, ?_, G5, cutG M5 D, acc ++ [y], dj ++ [d5], ej.trans e5, ?_, ?_, cut_none, ?_, (rj.up e5).snoc r5, by rw [List.length_append, hl2]; rfl, ?_⟩
    · rw [rj.len, hl2]
      exact sz_lt (by omega)
    · rw [upd_cut]
      exact A5.wr hD5
    · intro x hx
      by_cases hxD : x = D
      · subst hxD
        rw [cut_none, ← Sj x hx, hj]
      · show (if x = D then none else M5 x) = M0 x
        rw [if_neg hxD, S5 x hx, upd_ne hxD]
        exact Sj x hx
    · obtain ⟨a, b, cc, k1, k2⟩ := R5
      rw [Nat.succ_mul, ← Nat.add_assoc]
      exact ⟨a, b, cc, by show (if r = D then none else M5 r) = _; rw [if_neg (Ne.symm hDr)]; exact k1, k2⟩
    · intro d6 h6
      rcases List.mem_append.mp h6 with h6 | h6
      · exact hall _ h6
      · rw [List.mem_singleton.mp h6]
        exact h5
  · rintro H3 ⟨Gj, Mj, acc, dj, ej, Aj, Sj, hj, Rj, rj, hl2, hall⟩
    have hm := upd_same (H := Mj) (a := D) (o := HO.lst acc)
    refine q (.list dj) (.ref D) _ Mj H3 ((e2.trans ej).trans (Aj.frzG hm)) (Aj.frz hm (Ex.new hj) hj) Sj (Rj.le ?_) (hΦ z dj hz0 (by omega) hall) ⟨D, acc, rfl, upd_same, rj.up (Aj.frzG hm)⟩
    have : z.toNat ≤ c := by omega
    exact Nat.add_le_add_left (Nat.mul_le_mul_right _ this) _
/-! ### statements -/
theorem s_setE (h : TrE K r M0 te σ G n n' Φ) (A : At G M H) (S : Same r M0 M) (R : RL r n M) (k : ∀ d v G' M' H', Ex G G' → At G' M' H' → Same r M0 M' → RL r n' M' → Φ d → Rp K G' d v → D.nx (σ.set i (some v)) H') : tAsg te (gName i) D σ H := h G M H (Ex.refl _) A S R _ k
theorem q_setE (h : TrE K r M0 te σ G n n' Φ) (A : At G M H) (S : Same r M0 M) (R : RL r n M) (k : ∀ d v G' M' H', Ex G G' → At G' M' H' → Same r M0 M' → RL r n' M' → Φ d → Rp K G' d v → s2 D (σ.set i (some v)) H') : tSeq (tAsg te (gName i)) s2 D σ H := h G M H (Ex.refl _) A S R _ k
theorem s_retE (h : TrE K r M0 te σ G n n' Φ) (A : At G M H) (S : Same r M0 M) (R : RL r n M) (k : ∀ d v G' M' H', Ex G G' → At G' M' H' → Same r M0 M' → RL r n' M' → Φ d → Rp K G' d v → D.rt v H') : tRet te D σ H := h G M H (Ex.refl _) A S R _ k
/-! ### a written cell, looked at as data -/
theorem q_setfz (h : TrD K te σ (upd G p o) d) (hf : isFlat d = true) (hG : G p = none) (hM : M p = none) (A : At G (upd M p o) H) (k : ∀ v G' H', Ex G G' → At G' (upd M p o) H' → Rp K G' d v → s2 D (σ.set i (some v)) H') : tSeq (tAsg te (gName i)) s2 D σ H := w_Dfz h hf hG hM A k
theorem s_iffz {b : Bool} (h : TrB t σ (upd G p o) b) (hG : G p = none) (hM : M p = none) (A : At G (upd M p o) H) (k1 : b = true → ∀ G' H', Ex G G' → At G' (upd M p o) H' → s1 D σ H') (k2 : b = false → ∀ G' H', Ex G G' → At G' (upd M p o) H' → s2 D σ H') : tIfS t s1 s2 D σ H := by
  refine w_Bfz h hG hM A fun G' H' e A' => ?_
  cases b with
  | true => exact k1 rfl G' H' e A'
  | false => exact k2 rfl G' H' e A'
theorem q_setIxfz {xs : List V} {j : Nat} {kk : Int} (h : TrD K te σ (upd G p (.lst xs)) d) (hf : isFlat d = true) (hG : G p = none) (hM : M p = none) (A : At G (upd M p (.lst xs)) H) (hi : σ[i]? = some (some (.ref p))) (hj : ixN xs.length kk = some j)
    (k : ∀ v G' H', Ex G G' → At G' (upd M p (.lst (xs.set j v))) H' → Rp K G' d v → s2 D σ H') : tSeq (tAsg te (gSub (tVar i) (tC (.int kk)) rSetL)) s2 D σ H := by
  refine w_Dfz (M := M) h hf hG hM A fun v G1 H1 e1 A1 r1 => ?_
  refine ⟨.ref p, hi, p, xs, kk, j, rfl, rfl, A1.m _ _ upd_same, hj, ?_⟩
  have z := A1.wr (o := .lst (xs.set j v)) (upd_same (H := M) (a := p) (o := .lst xs))
  rw [upd_upd] at z
  exact k v G1 _ e1 z r1
theorem rd_catA {es : List PyData} (hn : ds.length + es.length ≤ 100000) : RD K (rCatA K) (.tuple ds) (.tuple es) (.tuple (ds ++ es)) := fun G M H x y A ⟨a, xs, h1, h2, h3⟩ ⟨b, ys, k1, k2, k3⟩ Q q => by
  refine ⟨a, b, xs, ys, h1, k1, A.g.stt h2, A.g.stt k2, by rw [h3.len, k3.len]; exact sz_of hn, fun hx => ?_, fun hx hy => ?_, fun hx hy p hp => ?_⟩
  · subst hx
    have e : ds = [] := by have := h3.len; cases ds with | nil => rfl | cons _ _ => simp at this
    subst e
    exact q.here A ⟨b, ys, rfl, k2, k3⟩
  · subst hy
    have e : es = [] := by have := k3.len; cases es with | nil => rfl | cons _ _ => simp at this
    subst e
    rw [List.append_nil] at q
    exact q.here A ⟨a, xs, rfl, h2, h3⟩
  · exact q.newG A hp ⟨p, _, rfl, SqT.of upd_same, (h3.app k3).up (Ex.new (A.gNone hp))⟩
theorem d_slA {tl th : TO} {lo hi : Option Int} (h : TrD K te σ G (.tuple ds)) (h1 : TrO tl σ G lo) (h2 : TrO th σ G hi) : TrD K (tSl (rSlA K) te tl th) σ G (.tuple (Sb.cutD ds lo hi)) := fun G1 M H e A Q q => by
  refine h G1 M H e A _ fun v G2 H2 e2 A2 r => ?_
  refine h1 G2 M H2 (e.trans e2) A2 _ fun G3 H3 e3 A3 => ?_
  refine h2 G3 M H3 ((e.trans e2).trans e3) A3 _ fun G4 H4 e4 A4 => ?_
  obtain ⟨a, xs, rfl, k1, k2⟩ := r.up (e3.trans e4)
  refine ⟨a, xs, rfl, A4.g.stt k1, fun hw => ?_, fun hw p hp => ?_⟩
  · refine (q.mono ((e2.trans e3).trans e4)).here A4 ⟨a, xs, rfl, k1, ?_⟩
    rw [k2.len] at hw
    unfold Sb.cutD
    rw [hw.1, hw.2, List.drop_zero, Nat.sub_zero, List.take_length]
    exact k2
  · exact ((q.mono ((e2.trans e3).trans e4))).newG A4 hp ⟨p, _, rfl, SqT.of upd_same, k2.cut.up (Ex.new (A4.gNone hp))⟩
end
end Sb

namespace Sb
open PySem PySem.Spec PyProof.Rows L2
/-! ### == of one and the same data, dicts within -/
def keyS : PyData → Option Str
  | .str x => some x
  | _ => none
def okQ : Nat → PyData → Bool
  | _, .none => true
  | _, .bool _ => true
  | _, .int _ => true
  | _, .str _ => true
  | n + 1, .list ds => ds.all (okQ n)
  | n + 1, .tuple ds => ds.all (okQ n)
  | n + 1, .dict kvs => kvs.all (fun p => okQ n p.2) && kvs.all (fun p => (keyS p.1).isSome) && decide (kvs.map fun p => keyS p.1).Nodup
  | 0, _ => false
def SameD (K : PySem.W.Frag) (G : Hp) (n : Nat) (x y : V) : Prop := ∃ d, okQ n d = true ∧ Rp K G d x ∧ Rp K G d y
theorem same_list {K : PySem.W.Frag} {G : Hp} {n : Nat} : ∀ {ds : List PyData} {xs ys : List V}, ds.all (okQ n) = true → RpL K G ds xs → RpL K G ds ys → Paired (SameD K G n) xs ys
  | [], xs, ys, _, h1, h2 => by
    rw [show xs = [] from h1, show ys = [] from h2]
    exact .nil
  | d :: ds, _, _, ho, ⟨x, r, e1, h1, h2⟩, ⟨y, r', e2, h3, h4⟩ => by
    have ho' := Bool.and_eq_true_iff.mp (by rw [List.all_cons] at ho; exact ho)
    rw [e1, e2]
    exact .cons ⟨d, ho'.1, h1, h3⟩ (same_list ho'.2 h2 h4)
theorem kD_keyS {k : Key} {x : Str} (h : keyS (kD k) = some x) : k = Sum.inr x := by
  cases k with
  | inl i => cases h
  | inr z => cases h; rfl
theorem val_at {K : PySem.W.Frag} {G : Hp} : ∀ {kvs : List (PyData × PyData)} {es : List (Key × V)} {p : PyData × PyData} {x : Str}, RpD K G kvs es → (kvs.map fun p => keyS p.1).Nodup → p ∈ kvs → keyS p.1 = some x → ∃ u, valV es (Sum.inr x) = some u ∧ Rp K G p.2 u
  | [], _, _, _, _, _, h, _ => by cases h
  | (k, d) :: r, _, p, x, ⟨k', y, t, e1, h1, h2, h3⟩, nd, hp, hx => by
    rw [e1]
    have nd' := List.nodup_cons.mp (by rw [List.map_cons] at nd; exact nd)
    rcases List.mem_cons.mp hp with e | hp
    · subst e
      rw [← h1] at hx
      have hk := kD_keyS hx
      subst hk
      refine ⟨y, ?_, h2⟩
      unfold valV
      rw [List.find?_cons]
      simp
    · obtain ⟨u, hu, ru⟩ := val_at h3 nd'.2 hp hx
      refine ⟨u, ?_, ru⟩
      have hne : ¬ k' = Sum.inr x := fun z => by
        subst z
        refine nd'.1 (List.mem_map.mpr ⟨p, hp, ?_⟩)
        rw [hx, ← h1]
        rfl
      unfold valV at hu ⊢
      rw [List.find?_cons, decide_eq_false hne]
      exact hu
theorem ent_of {K : PySem.W.Frag} {G : Hp} : ∀ {kvs : List (PyData × PyData)} {es : List (Key × V)} {q : Key × V}, RpD K G kvs es → q ∈ es → ∃ p ∈ kvs, kD q.1 = p.1 ∧ Rp K G p.2 q.2
  | [], es, q, h, hq => by
    rw [show es = [] from h] at hq
    cases hq
  | (k, d) :: r, _, q, ⟨k', y, t, e1, h1, h2, h3⟩, hq => by
    rw [e1] at hq
    rcases List.mem_cons.mp hq with e | hq
    · subst e
      exact ⟨_, List.mem_cons_self .., h1, h2⟩
    · obtain ⟨p, hp, z⟩ := ent_of h3 hq
      exact ⟨p, List.mem_cons_of_mem _ hp, z⟩
section
variable {X : Cx} {pins : List (Addr × Obj)} {σ : L2.St} {H G : Hp} {s : Shared}
theorem sameD_step (I : Inv X pins σ H s) (g : Ex G H) {n : Nat} {A : Around} (hu : A.units < cLine) (ih : ∀ x y v u, SameD X.K G n x y → RelV x v → RelV y u → SeqAt.EqP X.prog X.w A.in1 s v u true)
    {d : PyData} {x y : V} {v u : Value} (hf : isFlat d = false) (ho : okQ (n + 1) d = true) (h1 : Rp X.K G d x) (h2 : Rp X.K G d y) (rx : RelV x v) (ry : RelV y u) (E Q : Value → Shared → Prop) (q : Q (.bool true) s) : wpAny (model X.prog X.w) A (richCompare .Eq v u) Q E s := by
  cases d with
  | none => cases hf
  | bool _ => cases hf
  | int _ => cases hf
  | str _ => cases hf
  | list ds =>
    obtain ⟨a, xs, rfl, a1, a2⟩ := h1
    obtain ⟨b, ys, rfl, b1, b2⟩ := h2
    have hp := same_list (show ds.all (okQ n) = true from ho) a2 b2
    cases (show v = Value.ref a from rx)
    cases (show u = Value.ref b from ry)
    obtain ⟨us, r1, p1, _⟩ := I.list (SqL.of (g _ _ a1))
    obtain ⟨ws, r2, p2, _⟩ := I.list (SqL.of (g _ _ b1))
    have hsz : us.toArray.size = ws.toArray.size := by
      rw [List.size_toArray, List.size_toArray, ← r1.length, ← r2.length, a2.len, b2.len]
    refine SeqAt.rcP_lists (e := fun _ => true) p1.isList p2.isList hsz hu (fun j k1 k2 => ?_) E Q ?_
    · exact by simpa using items_run ih hp r1 r2 j (by simpa using k1) (by simpa using k2)
    · have e : (List.range us.toArray.size).all (fun _ => true) = true := List.all_eq_true.mpr fun _ _ => rfl
      rw [e]
      exact q
  | tuple ds =>
    obtain ⟨a, xs, rfl, a1, a2⟩ := h1
    obtain ⟨b, ys, rfl, b1, b2⟩ := h2
    have hp := same_list (show ds.all (okQ n) = true from ho) a2 b2
    cases (show v = Value.ref a from rx)
    cases (show u = Value.ref b from ry)
    obtain ⟨us, r1, p1, _⟩ := I.tuple (g.stt a1)
    obtain ⟨ws, r2, p2, _⟩ := I.tuple (g.stt b1)
    have hsz : us.toArray.size = ws.toArray.size := by
      rw [List.size_toArray, List.size_toArray, ← r1.length, ← r2.length, a2.len, b2.len]
    refine GQ.rc_tupG hsz hu (fun _ s' => s' = s) p1 p2 (fun i k1 k2 s' hs => ?_) (fun s' hs => by rw [hs]; exact q) rfl
    subst hs
    have z := items_run ih hp r1 r2 i (by simpa using k1) (by simpa using k2)
    exact (by simpa using z : SeqAt.EqP X.prog X.w A.in1 s' us.toArray[i] ws.toArray[i] true) E _ ⟨rfl, rfl⟩
  | dict kvs =>
    obtain ⟨a, ks, rfl, a1, a2⟩ := h1
    obtain ⟨b, ls, rfl, b1, b2⟩ := h2
    have ho1 : (kvs.all (fun p => okQ n p.2) && kvs.all (fun p => (keyS p.1).isSome) && decide (kvs.map fun p => keyS p.1).Nodup) = true := ho
    obtain ⟨ho2, ho3⟩ := Bool.and_eq_true_iff.mp ho1
    obtain ⟨ho4, ho5⟩ := Bool.and_eq_true_iff.mp ho2
    have nd := of_decide_eq_true ho3
    cases (show v = Value.ref a from rx)
    cases (show u = Value.ref b from ry)
    obtain ⟨_, ya, va, ra, da⟩ := (show ObjOk X.prog X.w H s.heap a (.dK ks) from I.hok a _ (g _ _ a1))
    obtain ⟨_, yb, vb, rb, db⟩ := (show ObjOk X.prog X.w H s.heap b (.dK ls) from I.hok b _ (g _ _ b1))
    refine PySem.W.rcP_dicts (knd := mixKind X.prog X.w) (r := true) ya yb da db hu (fun _ => hits_run ih rb ra fun p hm => ?_) E Q ?_
    · obtain ⟨kv, hkv, e1, r1⟩ := ent_of a2 hm
      have hs := List.all_eq_true.mp ho5 kv hkv
      obtain ⟨x, hx⟩ := Option.isSome_iff_exists.mp hs
      obtain ⟨z, hz, rz⟩ := val_at b2 nd hkv hx
      rw [← e1] at hx
      rw [kD_keyS hx]
      exact ⟨z, hz, kv.2, List.all_eq_true.mp ho4 kv hkv, r1, rz⟩
    · have e : va.length = vb.length := by rw [← ra.length, ← rb.length, a2.len, b2.len]
      rw [show (va.length == vb.length && true) = true from by rw [e]; simp]
      exact q
theorem sameD_run (I : Inv X pins σ H s) (g : Ex G H) : ∀ (n : Nat) (A : Around), A.units + n < cLine → ∀ (x y : V) (v u : Value), SameD X.K G n x y → RelV x v → RelV y u → SeqAt.EqP X.prog X.w A s v u true := by
  intro n
  induction n with
  | zero =>
    rintro A hu x y v u ⟨d, ho, h1, h2⟩ rx ry
    have hf : isFlat d = true := by cases d <;> first | rfl | cases ho
    have e1 := rp_flat hf h1
    have e2 := rp_flat hf h2
    rw [e1.1] at rx
    rw [e2.1] at ry
    exact (eqAt_same rx ry (by cases d <;> first | rfl | cases hf)).eqP
  | succ n ih =>
    rintro A hu x y v u ⟨d, ho, h1, h2⟩ rx ry
    cases hf : isFlat d with
    | true =>
      have e1 := rp_flat hf h1
      have e2 := rp_flat hf h2
      rw [e1.1] at rx
      rw [e2.1] at ry
      exact (eqAt_same rx ry (by cases d <;> first | rfl | cases hf)).eqP
    | false =>
      have step := fun E Q q => sameD_step I g (n := n) (A := A) (by omega) (ih A.in1 (by show A.units + 1 + n < cLine; omega)) hf ho h1 h2 rx ry E Q q
      obtain ⟨a, ea⟩ : ∃ a, x = V.ref a := by
        cases d with
        | none => cases hf
        | bool _ => cases hf
        | int _ => cases hf
        | str _ => cases hf
        | list ds => obtain ⟨a, _, e, _⟩ := h1; exact ⟨a, e⟩
        | tuple ds => obtain ⟨a, _, e, _⟩ := h1; exact ⟨a, e⟩
        | dict ds => obtain ⟨a, _, e, _⟩ := h1; exact ⟨a, e⟩
      obtain ⟨b, eb⟩ : ∃ a, y = V.ref a := by
        cases d with
        | none => cases hf
        | bool _ => cases hf
        | int _ => cases hf
        | str _ => cases hf
        | list ds => obtain ⟨a, _, e, _⟩ := h2; exact ⟨a, e⟩
        | tuple ds => obtain ⟨a, _, e, _⟩ := h2; exact ⟨a, e⟩
        | dict ds => obtain ⟨a, _, e, _⟩ := h2; exact ⟨a, e⟩
      subst ea eb
      cases (show v = Value.ref a from rx)
      cases (show u = Value.ref b from ry)
      by_cases e : a = b
      · subst e
        exact (SeqAt.EqAt.same _).eqP
      · exact SeqAt.eqP_refs e step
end
section
variable {X : Cx}
/-- a == b, both hold the same data -/
def rEqS (K : PySem.W.Frag) : R2 := fun x y H Q => ∃ G d, Ex G H ∧ okQ 60 d = true ∧ isFlat d = false ∧ Rp K G d x ∧ Rp K G d y ∧ Q (.bl true) H
theorem op_eqS (hu : X.A.units + 64 < cLine) : OpR X (compareOp .Eq) (rEqS X.K) := by
  intro pins s σ H x y v u Q I rx ry h
  obtain ⟨G, d, g, ho, hf, h1, h2, q⟩ := h
  exact sameD_step I g (n := 59) (A := X.A) (by omega) (sameD_run I g 59 X.A.in1 (by show X.A.units + 1 + 59 < cLine; omega)) hf ho h1 h2 rx ry _ _ ⟨.bl true, H, I, rfl, q⟩
end
section
variable {K : PySem.W.Frag} {σ : L2.St} {G G' M H : Hp} {ta tb te : TE} {d d1 d2 d3 : PyData} {ds es : List PyData}
theorem rd_eqSame (ho : okQ 60 d = true) (hf : isFlat d = false) : RD K (rEqS K) d d (.bool true) := fun G M H x y A h1 h2 Q q => ⟨G, d, A.g, ho, hf, h1, h2, q.here A rfl⟩
theorem rd_repT {k : Int} (h0 : ds ≠ []) (h1 : 2 ≤ k) (h2 : k ≤ 1000) (h3 : ds.length ≤ 1000) : RD K (rRepT K) (.tuple ds) (.int k) (.tuple (List.replicate k.toNat ds).flatten) := fun G M H x y A ⟨a, xs, e1, r1, r2⟩ hy Q q => by
  refine ⟨a, k, xs, e1, hy, A.g.stt r1, fun z => h0 ?_, h1, h2, by rw [r2.len]; exact h3, fun p hp => q.newG A hp ⟨p, _, rfl, SqT.of upd_same, ?_⟩⟩
  · have := r2.len
    rw [z] at this
    cases ds with
    | nil => rfl
    | cons _ _ => simp at this
  · have r3 := r2.up (Ex.new (A.gNone hp) (o := .tup (List.replicate k.toNat xs).flatten))
    have all : ∀ n, RpL K (upd G p (.tup (List.replicate k.toNat xs).flatten)) (List.replicate n ds).flatten (List.replicate n xs).flatten := fun n => by
      induction n with
      | zero => exact rfl
      | succ n ih =>
        rw [List.replicate_succ, List.replicate_succ, List.flatten_cons, List.flatten_cons]
        exact r3.app ih
    exact all _
/-! ### dict displays -/
def TrP (K : PySem.W.Frag) (trs : List (TE × TE)) (σ : L2.St) (G : Hp) (kvs : List (Str × PyData)) : Prop := ∀ G1 M H, Ex G G1 → At G1 M H → ∀ Q : List (V × V) → Hp → Prop,
  (∀ es G' H', Ex G1 G' → At G' M H' → RpD K G' (keysD kvs) es → Q (es.map fun kv => (kV kv.1, kv.2)) H') → tPairs trs σ H Q
theorem p_nil : TrP K [] σ G [] := fun G1 M H e A Q q => q [] G1 H (Ex.refl _) A rfl
theorem p_cons {x : Str} {kvs : List (Str × PyData)} {trs : List (TE × TE)} (hk : TrD K ta σ G (.str x)) (hv : TrD K tb σ G d) (hr : TrP K trs σ G kvs) : TrP K ((ta, tb) :: trs) σ G ((x, d) :: kvs) := fun G1 M H e A Q q => by
  refine hk G1 M H e A _ fun v G2 H2 e2 A2 r2 => ?_
  refine hv G2 M H2 (e.trans e2) A2 _ fun w G3 H3 e3 A3 r3 => ?_
  refine hr G3 M H3 ((e.trans e2).trans e3) A3 _ fun es G4 H4 e4 A4 r4 => ?_
  have z := q ((Sum.inr x, w) :: es) G4 H4 ((e2.trans e3).trans e4) A4 ⟨Sum.inr x, w, es, rfl, rfl, r3.up e4, r4⟩
  rw [show v = V.str x from r2]
  exact z
theorem merge_new : ∀ {es acc : List (Key × V)}, ((acc ++ es).map (·.1)).Nodup → mergeK acc es = acc ++ es
  | [], acc, _ => (List.append_nil acc).symm
  | (k, v) :: es, acc, h => by
    have hn : valV acc k = none := by
      unfold valV
      rw [Option.map_eq_none_iff, List.find?_eq_none]
      intro q hq hqk
      have e : q.1 = k := of_decide_eq_true hqk
      rw [List.map_append, List.map_cons] at h
      exact (List.nodup_append.mp h).2.2 q.1 (List.mem_map.mpr ⟨q, hq, rfl⟩) k (List.mem_cons_self ..) e
    show mergeK (putK acc k v) es = _
    rw [putK_new _ hn, merge_new (by rw [List.append_assoc]; exact h), List.append_assoc]
    rfl
theorem keys_nodup {kvs : List (Str × PyData)} {es : List (Key × V)} (r : RpD K G (keysD kvs) es) (h : (kvs.map (·.1)).Nodup) : (es.map (·.1)).Nodup := by
  rw [r.keys]
  exact h.map _ (fun a b hab => fun e => hab (Sum.inr.inj e))
theorem d_disp {kvs : List (Str × PyData)} {trs : List (TE × TE)} (h : TrP K trs σ G kvs) (hl : kvs.length ≤ 15) (nd : (kvs.map (·.1)).Nodup) : TrD K (tDisp trs) σ G (.dict (keysD kvs)) := fun G1 M H e A Q q p hp => by
  refine h G1 (upd M p (.dK [])) (upd H p (.dK [])) e (A.nm hp) _ fun es G2 H2 e2 A2 r2 => ?_
  refine ⟨A2.m _ _ upd_same, es, rfl, ?_, ?_⟩
  · rw [r2.len, keysD_len]
    exact hl
  · rw [merge_new (by rw [List.nil_append]; exact keys_nodup r2 nd), List.nil_append]
    have A3 := A2.wr (o := .dK es) (upd_same (H := M) (a := p) (o := .dK []))
    rw [upd_upd] at A3
    have hm := upd_same (H := M) (a := p) (o := HO.dK es)
    have hM : M p = none := A.mNone hp
    exact q _ _ _ (e2.trans (A3.frzG hm)) (A3.frz hm (Ex.new hM) hM) ⟨p, es, rfl, upd_same, r2.up (A3.frzG hm)⟩
/-! ### list(d.items()), dict(pairs) -/
def pairD (p : PyData × PyData) : PyData := .tuple [p.1, p.2]
theorem kV_rp {k : Key} : Rp K G (kD k) (kV k) := by cases k <;> exact rfl
theorem items_rp {G3 H' : Hp} : ∀ {kvs : List (PyData × PyData)} {ts : List Addr} {es : List (Key × V)}, Paired (fun (t : Addr) (q : Key × V) => H' t = some (.tup [kV q.1, q.2])) ts es → RpD K G3 kvs es → (∀ t ∈ ts, G3 t = H' t) → RpL K G3 (kvs.map pairD) (ts.map V.ref)
  | [], _, _, hp, h, _ => by
    rw [show _ = [] from h] at hp
    cases hp
    exact rfl
  | (k, d) :: r, _, _, hp, ⟨k', y, t', e, h4, h5, h6⟩, hm => by
    rw [e] at hp
    cases hp with
    | @cons t _ ts _ hk hr =>
      refine ⟨V.ref t, ts.map V.ref, rfl, ⟨t, [kV k', y], rfl, SqT.of ?_, kV k', [y], rfl, ?_, y, [], rfl, h5, rfl⟩, items_rp hr h6 fun u hu => hm u (List.mem_cons_of_mem _ hu)⟩
      · rw [hm t (List.mem_cons_self ..)]
        exact hk
      · show Rp K G3 k (kV k')
        rw [← h4]
        exact kV_rp
theorem d_items {kvs : List (PyData × PyData)} (h : TrD K te σ G (.dict kvs)) : TrD K (LiI.tListItems te) σ G (.list (kvs.map pairD)) := fun G1 M H e A Q q => by
  refine h G1 M H e A _ fun v G2 H2 e2 A2 r => ?_
  obtain ⟨a, es, rfl, h1, h2⟩ := r
  refine ⟨a, es, rfl, A2.g _ _ h1, fun H' p ts hx hp hts hpt hH hpr => ?_⟩
  have inG : Ex G2 (fun b => if b = p ∨ b ∈ ts then H' b else G2 b) := fun b o z => by
    have hb : ¬ (b = p ∨ b ∈ ts) := fun y => by
      have zz := A2.g _ _ z
      rcases y with y | y
      · rw [y, hp] at zz; cases zz
      · rw [hts b y] at zz; cases zz
    show (if b = p ∨ b ∈ ts then H' b else G2 b) = some o
    rw [if_neg hb]
    exact z
  have A3 : At (fun b => if b = p ∨ b ∈ ts then H' b else G2 b) M H' := by
    refine ⟨fun b o z => ?_, fun b o z => hx _ _ (A2.m _ _ z), fun b o z => ?_⟩
    · have z' : (if b = p ∨ b ∈ ts then H' b else G2 b) = some o := z
      by_cases hb : b = p ∨ b ∈ ts
      · rw [if_pos hb] at z'; exact z'
      · rw [if_neg hb] at z'; exact hx _ _ (A2.g _ _ z')
    · have hb : ¬ (b = p ∨ b ∈ ts) := fun y => by
        have zz := A2.m _ _ z
        rcases y with y | y
        · rw [y, hp] at zz; cases zz
        · rw [hts b y] at zz; cases zz
      show (if b = p ∨ b ∈ ts then H' b else G2 b) = none
      rw [if_neg hb]
      exact A2.d _ _ z
  refine q (.ref p) _ H' (e2.trans inG) A3 ⟨p, ts.map V.ref, rfl, by show (if p = p ∨ p ∈ ts then H' p else G2 p) = _; rw [if_pos (.inl rfl)]; exact hH, ?_⟩
  exact items_rp hpr (h2.up inG) fun t ht => if_pos (.inr ht)
theorem pairs_of : ∀ {kvs : List (Str × PyData)} {xs : List V}, RpL K G ((keysD kvs).map pairD) xs → ∃ (ps : List Addr) (es : List (Key × V)), xs = ps.map V.ref ∧ Paired (fun p kv => SqT K G p [kV kv.1, kv.2]) ps es ∧ RpD K G (keysD kvs) es
  | [], xs, h => ⟨[], [], h, .nil, rfl⟩
  | (k, d) :: r, _, ⟨x, xs, e, ⟨a, ys, h1, h2, h3⟩, h4⟩ => by
    obtain ⟨ps, es, h5, h6, h7⟩ := pairs_of h4
    obtain ⟨y, _, rfl, h8, z, _, rfl, h9, rfl⟩ := h3
    rw [e, h1, h5]
    refine ⟨a :: ps, (Sum.inr k, z) :: es, rfl, .cons ?_ h6, ⟨Sum.inr k, z, es, rfl, rfl, h9, h7⟩⟩
    rw [show y = V.str k from h8] at h2
    exact h2
theorem rc_dictP {kvs : List (Str × PyData)} (nd : (kvs.map (·.1)).Nodup) : RC K (fun xs H Q => ∃ (a : Addr) (ps : List Addr) (kvs : List (Key × V)), xs = [.ref a] ∧ SqL K H a (ps.map V.ref) ∧ Paired (fun p kv => SqT K H p [kV kv.1, kv.2]) ps kvs ∧
    ∀ p, H p = none → Q (.ref p) (upd H p (.dK (mergeK [] kvs)))) [.list ((keysD kvs).map pairD)] (.dict (keysD kvs)) := fun G M H xs A ⟨x, r, e, ⟨a, ys, h1, h2, h3⟩, h'⟩ Q q => by
  rw [e, show r = [] from h', h1]
  obtain ⟨ps, es, rfl, h5, h6⟩ := pairs_of h3
  refine ⟨a, ps, es, rfl, SqL.of (A.g _ _ h2), Paired.mono (fun _ _ h => A.g.stt h) h5, fun p hp => ?_⟩
  rw [merge_new (by rw [List.nil_append]; exact keys_nodup h6 nd), List.nil_append]
  exact q.newG A hp ⟨p, es, rfl, upd_same, h6.up (Ex.new (A.gNone hp))⟩
end
end Sb

namespace Sb
open PySem PySem.Spec PyProof.Rows L2
/-! ### how long a repr is -/
mutual
def wS : PyData → Nat
  | .none => 4
  | .bool _ => 5
  | .int _ => 18
  | .str x => 10 * x.length + 2
  | .list xs => 2 + wSA xs
  | .tuple xs => 3 + wSA xs
  | .dict xs => 2 + wSK xs
def wSA : List PyData → Nat
  | [] => 0
  | x :: xs => wS x + 2 + wSA xs
def wSK : List (PyData × PyData) → Nat
  | [] => 0
  | (k, v) :: r => wS k + wS v + 4 + wSK r
end
mutual
def fiS : PyData → Bool
  | .none => true
  | .bool _ => true
  | .int i => decide (0 ≤ i) && decide (i < 1000000000000000000)
  | .str x => x.cps.toList.all (· < 4294967296)
  | .list xs => fiSA xs
  | .tuple xs => fiSA xs
  | .dict xs => fiSK xs
def fiSA : List PyData → Bool
  | [] => true
  | x :: xs => fiS x && fiSA xs
def fiSK : List (PyData × PyData) → Bool
  | [] => true
  | (k, v) :: r => fiS k && fiS v && fiSK r
end
def pil (ts : List Str) : Nat := (ts.map fun t => t.length + 2).sum
theorem join_pil (ts : List Str) : (Str.join ", " ts).length ≤ pil ts := by
  refine Nat.le_trans (StrLaws.join_length_le _ _) ?_
  unfold pil
  induction ts with
  | nil => simp
  | cons t ts ih =>
    rw [List.map_cons, List.map_cons, List.sum_cons, List.sum_cons, List.length_cons, Nat.succ_mul]
    have h : (", " : Str).length = 2 := rfl
    rw [h] at ih ⊢
    omega
theorem from_pil : ∀ (ts : List Str) (k : Nat) (acc : Str), (textFrom k acc ts).length ≤ acc.length + pil ts
  | [], k, acc => by show acc.length ≤ acc.length + 0; omega
  | t :: r, k, acc => by
    have h := from_pil r (k + 1) (acc ++ (if k > 0 then ", " else "" : String) ++ t)
    have h2 : (acc ++ (if k > 0 then ", " else "" : String) ++ t : Str).length ≤ acc.length + 2 + t.length := by
      rw [strLen_append, strLen_append]
      have : (Str.ofString (if k > 0 then ", " else "" : String)).length ≤ 2 := by split <;> decide
      omega
    show (textFrom (k + 1) (acc ++ (if k > 0 then ", " else "" : String) ++ t) r).length ≤ _
    unfold pil at h ⊢
    rw [List.map_cons, List.sum_cons]
    omega
theorem int_len {i : Int} (h0 : 0 ≤ i) (h1 : i < 1000000000000000000) : (Str.ofString (toString i)).length ≤ 18 := by
  obtain ⟨n, rfl⟩ := Int.eq_ofNat_of_zero_le h0
  rw [TL.len_tl, show TL.tl (Str.ofString (toString ((n : Nat) : Int))) = TL.numL n from TL.tl_num n]
  exact TL.numL_len (by decide) (by have : (n : Int) < 1000000000000000000 := h1; omega)
mutual
theorem shown_le : ∀ d : PyData, fiS d = true → d.shown.length ≤ wS d
  | .none, _ => by simp only [PyData.shown, wS]; decide
  | .bool b, _ => by simp only [PyData.shown, wS]; cases b <;> decide
  | .int i, h => by
    simp only [PyData.shown, wS]
    simp only [fiS, Bool.and_eq_true] at h
    exact int_len (of_decide_eq_true h.1) (of_decide_eq_true h.2)
  | .str x, h => by
    simp only [PyData.shown, wS]
    simp only [fiS] at h
    exact StrLaws.reprText_len x fun c hc => of_decide_eq_true (List.all_eq_true.mp h c hc)
  | .list xs, h => by
    simp only [PyData.shown, wS]
    simp only [fiS] at h
    have h1 := shownA_le xs h
    have h2 := from_pil (PyData.shownAll xs) 0 "["
    unfold listText
    rw [strLen_append]
    have h3 : ("[" : Str).length = 1 := rfl
    have h4 : ("]" : Str).length = 1 := rfl
    omega
  | .tuple xs, h => by
    simp only [PyData.shown, wS]
    simp only [fiS] at h
    have h1 := shownA_le xs h
    have h2 := join_pil (PyData.shownAll xs)
    unfold tupleText
    rw [strLen_append, strLen_append]
    have h3 : ("(" : Str).length = 1 := rfl
    have h4 : (Str.ofString (if (PyData.shownAll xs).length == 1 then ",)" else ")" : String)).length ≤ 2 := by split <;> decide
    omega
  | .dict xs, h => by
    simp only [PyData.shown, wS]
    simp only [fiS] at h
    have h1 := shownK_le xs h
    have h2 := join_pil (PyData.shownKv xs)
    unfold dictText
    rw [strLen_append, strLen_append]
    have h3 : ("{" : Str).length = 1 := rfl
    have h4 : ("}" : Str).length = 1 := rfl
    omega
theorem shownA_le : ∀ ds : List PyData, fiSA ds = true → pil (PyData.shownAll ds) ≤ wSA ds
  | [], _ => by simp [PyData.shownAll, wSA, pil]
  | x :: xs, h => by
    simp only [fiSA, Bool.and_eq_true] at h
    have h1 := shown_le x h.1
    have h2 := shownA_le xs h.2
    unfold pil at h2 ⊢
    simp only [PyData.shownAll, wSA, List.map_cons, List.sum_cons]
    omega
theorem shownK_le : ∀ ds : List (PyData × PyData), fiSK ds = true → pil (PyData.shownKv ds) ≤ wSK ds
  | [], _ => by simp [PyData.shownKv, wSK, pil]
  | (k, v) :: xs, h => by
    simp only [fiSK, Bool.and_eq_true] at h
    have h1 := shown_le k h.1.1
    have h0 := shown_le v h.1.2
    have h2 := shownK_le xs h.2
    unfold pil at h2 ⊢
    simp only [PyData.shownKv, wSK, List.map_cons, List.sum_cons]
    rw [strLen_append, strLen_append]
    have h3 : (": " : Str).length = 2 := rfl
    omega
end
section
variable {K : PySem.W.Frag} {σ : L2.St} {G G' M H : Hp} {ta tb te : TE} {d d1 d2 d3 : PyData} {ds es : List PyData} {D : Ends} {s2 : TS} {i j : Nat}
/-- x = a + b of lists: the new list is still to be written -/
theorem q_newCat (ha : TrD K ta σ G (.list ds)) (hb : TrD K tb σ G (.list es)) (hn : ds.length + es.length ≤ 100000) (A : At G M H) (k : ∀ p xs G' H', Ex G G' → M p = none → G' p = none → At G' (upd M p (.lst xs)) H' → RpL K G' (ds ++ es) xs → s2 D (σ.set i (some (.ref p))) H') : tSeq (tAsg (tOp rCat ta tb) (gName i)) s2 D σ H := by
  refine ha G M H (Ex.refl _) A _ fun v G1 H1 e1 A1 r1 => ?_
  refine hb G1 M H1 e1 A1 _ fun w G2 H2 e2 A2 r2 => ?_
  obtain ⟨a, xs, rfl, h1, h2⟩ := r1.up e2
  obtain ⟨b, ys, rfl, k1, k2⟩ := r2
  exact ⟨a, b, xs, ys, rfl, rfl, A2.g _ _ h1, A2.g _ _ k1, by rw [h2.len, k2.len]; exact sz_of hn, fun p hp => k p (xs ++ ys) G2 _ (e1.trans e2) (A2.mNone hp) (A2.gNone hp) (A2.nm hp) (h2.app k2)⟩
theorem q_par (ha : TrD K ta σ G d1) (hb : TrD K tb σ G d2) (A : At G M H) (k : ∀ v w G' H', Ex G G' → At G' M H' → Rp K G' d1 v → Rp K G' d2 w → s2 D ((σ.set i (some v)).set j (some w)) H') : tSeq (tPar i j (tCons ta (tCons tb tNil))) s2 D σ H := by
  refine w_A (a_cons ha (a_cons hb a_nil)) A fun vs G1 H1 e1 A1 r1 => ?_
  obtain ⟨v, _, rfl, h1, w, _, rfl, h2, rfl⟩ := r1
  exact ⟨v, w, rfl, k v w G1 H1 e1 A1 h1 h2⟩
/-- if test: xs.append(e) -/
theorem q_ifAppend {b : Bool} {tc : TT} {p : Addr} {xs : List V} (hc : TrB tc σ G b) (hv : b = true → TrD K te σ G d) (hi : σ[i]? = some (some (.ref p))) (rx : RpL K G ds xs) (hn : ds.length < 100000) (A : At G (upd M p (.lst xs)) H)
    (k : ∀ xs' G' H', Ex G G' → At G' (upd M p (.lst xs')) H' → RpL K G' (if b = true then ds ++ [d] else ds) xs' → s2 D σ H') : tSeq (tIfS tc (tDrop (tBM K "list" rAppend (tVar i) (tCons te tNil))) tNext) s2 D σ H := by
  refine s_seq (s_if hc A (fun hb G1 H1 e1 A1 => ?_) fun hb G1 H1 e1 A1 => ?_)
  · refine s_append hi upd_same ((hv hb).up e1) (by rw [rx.len]; exact hn) A1 fun v G2 H2 e2 A2 r2 => ?_
    rw [upd_upd] at A2
    refine k _ G2 H2 (e1.trans e2) A2 ?_
    rw [if_pos hb]
    exact (rx.up (e1.trans e2)).snoc r2
  · refine k _ G1 H1 e1 A1 ?_
    rw [if_neg (by rw [hb]; decide)]
    exact rx.up e1
end
end Sb

namespace Sb
open PySem PySem.Spec PyProof.Rows L2
section
variable {K : PySem.W.Frag} {σ : L2.St} {G G' M M0 M1 H : Hp} {ta tb te tc : TE} {d d1 d2 d3 : PyData} {tt t u : TT} {ts : TA} {ds es : List PyData} {Q : VK} {D : Ends} {s1 s2 tbd : TS} {i j n m n' : Nat} {r p a : Addr} {o : HO} {Φ Φ1 : PyData → Prop}
/-- what is seen of a statement's end, for all its ways at once -/
theorem q_cut (Post : L2.St → Hp → Prop) (k : ∀ σ H, Post σ H → s2 D σ H) (h : (∀ σ H, Post σ H → s2 D σ H) → s1 { D with nx := s2 D } σ H) : tSeq s1 s2 D σ H := h k
/-! ### the script: a list that the program does not write -/
theorem d_lenQ {xs : List V} (hi : σ[i]? = some (some (.ref a))) (hs : SqL K G a xs) : TrD K (tCB (rLen K) (tCons (tVar i) tNil)) σ G (.int xs.length) := fun G1 M H e A Q q =>
  ⟨.ref a, hi, V.ref a, xs.length, rfl, .inl ⟨xs, (e.trans A.g).sl hs, rfl⟩, q.here A rfl⟩
theorem d_ixQ {ns : List Int} {k z : Int} (hi : σ[i]? = some (some (.ref a))) (hs : SqL K G a (ns.map V.int)) (hb : TrD K tb σ G (.int k)) (hk : L2.atI ns k = some z) : TrD K (tOp (rIxL K) (tVar i) tb) σ G (.int z) := fun G1 M H e A Q q => by
  refine ⟨.ref a, hi, ?_⟩
  refine hb G1 M H e A _ fun v G2 H2 e2 A2 r2 => ?_
  refine ⟨a, ns.map V.int, k, V.int z, rfl, r2, ((e.trans e2).trans A2.g).sl hs, ?_, (q.mono e2).here A2 rfl⟩
  unfold L2.atI at hk ⊢
  rw [List.length_map]
  cases h : ixN ns.length k with
  | none => rw [h] at hk; cases hk
  | some j =>
    rw [h] at hk
    show (ns.map V.int)[j]? = _
    rw [List.getElem?_map, show ns[j]? = some z from hk]
    rfl
theorem d_slQ {ns : List Int} {tl th : TO} {lo hi : Option Int} (hσ : σ[i]? = some (some (.ref a))) (hs : SqL K G a (ns.map V.int)) (h1 : TrO tl σ G lo) (h2 : TrO th σ G hi) : TrD K (tSl (rSlL K) (tVar i) tl th) σ G (.list (Sb.cutD (dInts ns) lo hi)) := fun G1 M H e A Q q => by
  refine ⟨.ref a, hσ, ?_⟩
  refine h1 G1 M H e A _ fun G3 H3 e3 A3 => ?_
  refine h2 G3 M H3 (e.trans e3) A3 _ fun G4 H4 e4 A4 => ?_
  refine ⟨a, ns.map V.int, rfl, (((e.trans e3).trans e4).trans A4.g).sl hs, fun p hp => ?_⟩
  exact ((q.mono (e3.trans e4))).newG A4 hp ⟨p, _, rfl, upd_same, RpL.cut ((rpL_ints ns).mpr rfl)⟩
/-! ### for over a list of data, any target -/
theorem s_forLG {g : TG} (Inv : Nat → L2.St → Hp → Hp → Prop) (h : TrD K te σ G (.list ds)) (A : At G M H) (mono : ∀ {k : Nat} {σ1 : L2.St} {G1 G2 M1 : Hp}, Ex G1 G2 → Inv k σ1 G1 M1 → Inv k σ1 G2 M1)
    (h0 : Inv 0 σ G M)
    (hb : ∀ (k : Nat) d, ds[k]? = some d → ∀ x σ1 G1 M1 H1, Ex G G1 → At G1 M1 H1 → Inv k σ1 G1 M1 → Rp K G1 d x → ∀ Nx : L2.St → Hp → Prop, (∀ σ2 G2 M2 H2, Ex G1 G2 → At G2 M2 H2 → Inv (k + 1) σ2 G2 M2 → Nx σ2 H2) →
      g x σ1 H1 fun σ2 H2 => tbd { D with nx := Nx, ct := Nx, bk := D.nx } σ2 H2)
    (hd : ∀ σ1 G1 M1 H1, Ex G G1 → At G1 M1 H1 → Inv ds.length σ1 G1 M1 → D.nx σ1 H1) :
    tFor (iList K te) g tbd D σ H := by
  refine h G M H (Ex.refl _) A _ fun v G2 H2 e2 A2 r => ?_
  obtain ⟨a, xs, rfl, k1, k2⟩ := r
  refine ⟨a, rfl, ⟨xs, SqL.of (A2.g _ _ k1)⟩, ?_⟩
  refine for_list (K := K) (a := a) (xs := xs) (fun t σ' H' => ∃ G3 M3, Ex G2 G3 ∧ At G3 M3 H' ∧ Inv t σ' G3 M3) ⟨G2, M, Ex.refl _, A2, mono e2 h0⟩ ?_ ?_ ?_
  · rintro t σ' H' _ ⟨G3, M3, e3, A3, _⟩
    exact SqL.of (A3.g _ _ (e3 _ _ k1))
  · rintro t x σ' H' hx ⟨G3, M3, e3, A3, hI⟩
    obtain ⟨d, hd1, rd⟩ := k2.get hx
    exact hb t d hd1 _ _ _ _ _ (e2.trans e3) A3 hI (rd.up e3) _ fun σ5 G5 M5 H5 e5 A5 i5 => ⟨G5, M5, e3.trans e5, A5, i5⟩
  · rintro σ' H' ⟨G3, M3, e3, A3, hI⟩
    rw [k2.len] at hI
    exact hd σ' G3 M3 H' (e2.trans e3) A3 hI
/-! ### x.pop(i), x a list that is written, i drawn -/
theorem w_pop {xs : List V} (hi : σ[i]? = some (some (.ref p))) (hp : M0 p = some (.lst xs)) (hn : p ≠ r) (hl : xs.length ≤ 100000) (h : TrE K r M0 te σ G n n' fun d => ∃ k : Nat, d = .int k ∧ k < xs.length) (A : At G M H) (S : Same r M0 M) (R : RL r n M)
    (k : ∀ (k : Nat) y G' M' H', xs[k]? = some y → Ex G G' → At G' M' H' → Same r (upd M0 p (.lst (xs.eraseIdx k))) M' → RL r n' M' → Q y H') : tBM K "list" rPopAt (tVar i) (tCons te tNil) σ H Q := by
  refine ⟨.ref p, hi, Or.inl ⟨rfl, _, Or.inl (Or.inl (A.m _ _ ((S p hn).trans hp)))⟩, ?_⟩
  refine h G M H (Ex.refl _) A S R _ fun d v G2 M2 H2 e2 A2 S2 R2 hd rv => ?_
  obtain ⟨kk, rfl, hk⟩ := hd
  have hM2 : M2 p = some (.lst xs) := (S2 p hn).trans hp
  have hx : xs[kk]? = some xs[kk] := List.getElem?_eq_getElem hk
  refine ⟨p, xs, (kk : Int), kk, xs[kk], rfl, by rw [show v = V.int _ from rv], A2.m _ _ hM2, ?_, ?_, ?_, hx, ?_⟩
  · have h63 : (2 : Int) ^ 63 = 9223372036854775808 := rfl
    omega
  · have h63 : (2 : Int) ^ 63 = 9223372036854775808 := rfl
    omega
  · unfold seqIndex?
    have e1 : ¬ ((kk : Int) < 0) := by omega
    have e2 : (decide (0 ≤ (kk : Int)) && decide ((kk : Int) < (xs.length : Int))) = true := by rw [decide_eq_true (by omega), decide_eq_true (by omega)]; rfl
    simp only [if_neg e1, e2, if_true, Int.toNat_natCast]
  · refine k kk _ G2 (upd M2 p (.lst (xs.eraseIdx kk))) _ hx e2 (A2.wr hM2) (fun x hx => ?_) (R2.upd hn)
    by_cases e : x = p
    · subst e
      rw [upd_same, upd_same]
    · rw [upd_ne e, upd_ne e]
      exact S2 x hx
/-- what was made on the way is let go -/
theorem At.back (A : At G M H) (h : ∀ x, x ≠ r → ∀ o, M0 x = some o → M x = some o) : ∃ M', At G M' H ∧ Same r M0 M' ∧ M' r = M r := by
  refine ⟨fun x => if x = r then M r else M0 x, A.drop fun x o z => ?_, fun x hx => if_neg hx, if_pos rfl⟩
  have z' : (if x = r then M r else M0 x) = some o := z
  by_cases hx : x = r
  · rw [if_pos hx] at z'
    rw [hx]
    exact z'
  · rw [if_neg hx] at z'
    exact h x hx o z'
theorem q_parE {Ψ : List PyData → Prop} (h : TrEA K r M0 (tCons ta (tCons tb tNil)) σ G n n' Ψ) (hl : ∀ ds, Ψ ds → ds.length = 2) (A : At G M H) (S : Same r M0 M) (R : RL r n M)
    (k : ∀ ds v w G' M' H', Ex G G' → At G' M' H' → Same r M0 M' → RL r n' M' → Ψ ds → RpL K G' ds [v, w] → s2 D ((σ.set i (some v)).set j (some w)) H') : tSeq (tPar i j (tCons ta (tCons tb tNil))) s2 D σ H := by
  show tCons ta (tCons tb tNil) σ H (fun vs H1 => ∃ v w, vs = [v, w] ∧ s2 D ((σ.set i (some v)).set j (some w)) H1)
  refine h G M H (Ex.refl G) A S R _ fun ds vs G' M' H' e A' S' R' hd rv => ?_
  have z := rv.len
  rw [hl ds hd] at z
  match vs, z, rv with
  | [v, w], _, rv => exact ⟨v, w, rfl, k ds v w G' M' H' e A' S' R' hd rv⟩
theorem d_val {v : V} (h : Rp K G d v) : TrD K (fun _ H Q => Q v H) σ G d := fun G1 M H e A Q q => q.here A (h.up e)
/-- for over a list whose making draws -/
theorem s_forLE {g : TG} (h : TrE K r M0 te σ G n n' Φ) (hΦ : ∀ d, Φ d → ∃ ds, d = .list ds) (A : At G M H) (S : Same r M0 M) (R : RL r n M)
    (k : ∀ ds v G' M' H', Ex G G' → At G' M' H' → Same r M0 M' → RL r n' M' → Φ (.list ds) → Rp K G' (.list ds) v → tFor (iList K (fun _ H Q => Q v H)) g tbd D σ H') : tFor (iList K te) g tbd D σ H := by
  refine h G M H (Ex.refl G) A S R _ fun d v G' M' H' e A' S' R' hd rv => ?_
  obtain ⟨ds, rfl⟩ := hΦ d hd
  exact k ds v G' M' H' e A' S' R' hd rv
end
end Sb

namespace Sb
open PySem PySem.Spec PyProof.Rows L2
/-! ### the end of a law whose def asks that no repr is running -/
theorem law_goes {P : Program} {w : World} {K : PySem.W.Frag} {mg mb : Str → Option Value} {CX : CXT} {k : Nat} {fn a : Addr} {fd : FuncData} {x : Str} {sp : Sp} {t : Shared} {us : List Value} {ns : List Int}
    (inK : K.In t.heap) (gs : t.heap.Ns mainGlobals mg) (bs : t.heap.Ns builtinsNs mb) (bb : ∀ y : Str, y ≠ "__name__" → mb y = bootBuiltins y) (nl : t.heap.NoLimit) (ng : t.gens = #[])
    (la : t.heap.get? a = some { cls := .type "list", data := .seq us.toArray }) (iu : IntsAre us ns) (sz : ns.length ≤ sizeLine) (rm : Room k callerA)
    (F : ∀ bh : Heap, K.In bh → bh.Ns mainGlobals mg → FnG P w K mg bh CX k fn fd [x] sp) (bnd : ∀ (s : Shared) (u : Value), BindsTo s fd ⟨[u], []⟩ [(x, u)])
    (pr : ∀ H : Hp, Only H → SqL K H a (ns.map V.int) → sp [.ref a] H (fun v _ => v = .bl true) fun _ _ _ => False)
    (hx : ∀ H e s', CX [] H t (fun _ _ _ => False) e s' → False) :
    codeAny (model P w) callerA (.call (.ref fn) ⟨[.ref a], []⟩) (fun o s' => o = .ok (.ret (.bool true)) ∧ OldK t.heap s'.heap ∧ s'.os = t.os ∧ AllBare s'.gens) t := by
  have rel := vals_ints iu
  have eqn := iu.length
  have main : ∀ H : Hp, Only H → SqL K H a (ns.map V.int) → HOk P w H t.heap → (∀ b, H b ≠ none → b = a) → (H a ≠ none → K.lookup a = none) → codeAny (model P w) callerA (.call (.ref fn) ⟨[.ref a], []⟩) (fun o s' => o = .ok (.ret (.bool true)) ∧ OldK t.heap s'.heap ∧ s'.os = t.os ∧ AllBare s'.gens) t := by
    intro H oH sH okH onA outK
    have inBase : ∀ {b : Addr} {o : Obj}, t.heap.get? b = some o → H b = none → (hidT t.heap H).get? b = some o := fun g0 g1 => hidT_get g0 g1
    have notA : ∀ {b : Addr} {o : Obj} {es : Array DictEntry} {ep : Nat}, t.heap.get? b = some o → o.data = .dict es ep → H b = none := fun {b o es ep} g0 g1 => by
      cases hb : H b with
      | none => rfl
      | some u =>
        have z : b = a := onA b (by rw [hb]; intro y; cases y)
        rw [z, la] at g0
        cases g0
        cases (show Data.seq us.toArray _ = Data.dict es ep from g1)
    have nsOf : ∀ {b : Addr} {m : Str → Option Value}, t.heap.Ns b m → (hidT t.heap H).Ns b m := fun {b m} ⟨o, es, ep, g0, g1, g2⟩ => ⟨o, es, ep, inBase g0 (notA g0 g1), g1, g2⟩
    have inHid : K.In (hidT t.heap H) := fun b o g0 => inBase (inK b o g0) (by
      cases hb : H b with
      | none => rfl
      | some u =>
        have z : b = a := onA b (by rw [hb]; intro y; cases y)
        rw [z, outK (by rw [← z, hb]; intro y; cases y)] at g0
        cases g0)
    have modH : Mod K mg (hidT t.heap H) := ⟨inHid, nsOf gs, ⟨mb, nsOf bs, bb⟩, by obtain ⟨mc, y1, y2⟩ := nl; exact ⟨mc, nsOf y1, y2⟩⟩
    have env : Env0 P w K mg (hidT t.heap H) callerA [] t H := ⟨rfl, modH, fun _ _ g0 => of_hidT g0, Nat.le_of_eq (hidT_size _ _), trivial, fun b hb => (by cases (show b ∈ ([] : List Addr) from hb)), okH, .of_eq ng⟩
    have go := (F _ inHid (nsOf gs)).run callerA [] t H ⟨[.ref a], []⟩ [.ref a] [.ref a] _ _ rfl rm env (bnd t (.ref a)) (.cons rfl .nil) (pr H oH sH)
    refine codeAny_mono go fun o s' h => ?_
    match o, h with
    | .error e, h => exact (hx H e s' h).elim
    | .ok .next, h => exact False.elim h
    | .ok .brk, h => exact False.elim h
    | .ok .cont, h => exact False.elim h
    | .ok (.ret u), h =>
      obtain ⟨v, H', os, br, un, okH', rv, hv⟩ := h
      rw [show v = V.bl true from hv] at rv
      cases (show u = Value.bool true from rv)
      refine ⟨rfl, OldK.of_keep fun b o g0 => ?_, os, br⟩
      cases hb : H b with
      | none => exact un.keep b o g0 hb (fun y => by cases (show b ∈ ([] : List Addr) from y)) (by simp)
      | some u =>
        obtain y | ⟨ob, xs, y⟩ := oH b
        · rw [hb] at y; cases y
        · obtain ⟨y1, _⟩ := okH b _ y
          obtain ⟨y2, _⟩ := okH' b _ (un.frzs b ob _ y)
          rw [g0] at y1
          cases y1
          exact y2
  cases ka : K.lookup a with
  | some o =>
    have g0 := inK a o ka
    rw [la] at g0
    cases g0
    exact main (fun _ => none) (fun _ => .inl rfl) (.inr ⟨_, us.toArray, _, ka, rfl, rfl, rfl, by rw [List.size_toArray, eqn]; exact sz, by simpa using rel⟩) (fun _ _ y => by cases (show (none : Option HO) = some _ from y)) (fun _ y => absurd rfl y) fun y => absurd rfl y
  | none =>
    let H0 : Hp := fun b => if b = a then some (.frz { cls := .type "list", data := .seq us.toArray } (.lst (ns.map V.int))) else none
    have at_ : H0 a = some (.frz { cls := .type "list", data := .seq us.toArray } (.lst (ns.map V.int))) := if_pos rfl
    have off : ∀ {b}, b ≠ a → H0 b = none := fun h => if_neg h
    refine main H0 (fun b => ?_) (.inl (.inr ⟨_, at_⟩)) (fun b u y => ?_) (fun b y => ?_) fun _ => ka
    · by_cases hb : b = a
      · rw [hb]; exact .inr ⟨_, _, at_⟩
      · exact .inl (off hb)
    · by_cases hb : b = a
      · rw [hb, at_] at y
        cases y
        rw [hb]
        exact ⟨la, by rw [List.length_map]; exact sz, us, _, rel, la⟩
      · rw [off hb] at y
        cases y
    · exact Decidable.byContradiction fun hb => y (off hb)
theorem law_walks {l : PySem.W.OpenLaw} {n k : Nat} {q : Program} {loose : List Str} {XP : (Str → Option Value) → Heap → Prop} {YP : World → Heap → Prop} {d : DefRec} {CX : CXT} {x : Str} (h1 : l.most = some n) (h2 : n ≤ sizeLine) (h3 : d.params.defaults = []) (h4 : Room k callerA)
    (F : ∀ (w : World) (mg : Str → Option Value) (fn : Addr) (h : Heap), YP w h → h.Ns mainGlobals mg → mg d.name = some (.ref fn) → ∃ (K : PySem.W.Frag) (fd : FuncData) (sp : Sp), K.In h ∧ (∀ (s : Shared) (u : Value), BindsTo s fd ⟨[u], []⟩ [(x, u)]) ∧
        (∀ (H : Hp) (a : Addr) (ns : List Int), ns.length ≤ n → Only H → SqL K H a (ns.map V.int) → sp [.ref a] H (fun v _ => v = .bl true) fun _ _ _ => False) ∧ ∀ bh : Heap, K.In bh → bh.Ns mainGlobals mg → FnG l.prog w K mg bh CX k fn fd [x] sp)
    (hx : ∀ (H : Hp) (s : Shared) (e : Value) (s' : Shared), CX [] H s (fun _ _ _ => False) e s' → False) : PySem.W.WalkO q loose XP YP l.row.toRowW d [] (fun f vs => PySem.call f vs) := by
  refine Att.attach_call h1 h3 fun w s₀ t mg mb fn o pm cd doc a us ns G Y ho hd hcd em eo ei el eg => ?_
  obtain ⟨K, fd, sp, inK, bnd, pr, go⟩ := F w mg fn _ Y G.T.g em
  exact law_goes inK G.T.g G.T.b G.T.builtins G.T.nolimit eg eo ei (Nat.le_trans el h2) h4 go bnd (fun H u v => pr H a ns el u v) fun H e s' => hx H t e s'
end Sb

namespace Sb
open PySem PySem.Spec PyProof.Rows L2
/-! ### what the top leaves of the classes -/
def clsOk (K : PySem.W.Frag) (C : Addr) : Bool := match K.lookup C with
  | some ⟨.type "type", _, .cls cd, sl⟩ => (match cd.mro, sl.toList with
    | .ref C' :: bm, [_, _, _, _, some (.builtin n), _] => C' == C && (n == "ValueError.__new__" && (!cd.hasDel && (cd.hasDict && PySem.HandSPX.refsVE bm)))
    | _, _ => false)
  | _ => false
def initIs (K : PySem.W.Frag) (C : Addr) : Bool := match PySem.W.findCls K (.ref C) (.type "type") "__init__" with
  | some (.val (.builtin n)) => n == "ValueError.__init__"
  | _ => false
/-- an own exception class with its own __init__ -/
def ownX (K : PySem.W.Frag) (x : Str) : Bool := clsOk K (He.ga K x) && (decide (PySem.W.findIn K (.ref (He.ga K x)) "__setattr__" = some (some (.builtin "object.__setattr__"))) && (decide (PySem.W.subIn K (.ref (He.ga K x)) (.type "BaseException") = some true) &&
  (decide (PySem.W.typeIn K (.ref (He.ga K x)) = some (.type "type")) && (PySem.W.keepIn K (.ref (He.ga K x)) && (decide (PySem.W.findIn K (.ref (He.ga K x)) "__init__" = some (some (.ref (He.ma K (He.ga K x) "__init__")))) &&
  (decide (PySem.W.typeIn K (.ref (He.ma K (He.ga K x) "__init__")) = some (.type "function")) && L2.xfB K (He.ga K x)))))))
/-- its parent, which has none -/
def parX (K : PySem.W.Frag) (x : Str) : Bool := decide (PySem.W.specialIn K (.ref (He.ga K x)) "__getattribute__" = some (some (.builtin "type.__getattribute__"))) && (PySem.W.readsIn K (He.ga K x) (.type "type") && initIs K (He.ga K x))
structure OwnX (K : PySem.W.Frag) (x : Str) : Prop where
  o : OexC K (He.ga K x)
  i : PySem.W.findIn K (.ref (He.ga K x)) "__init__" = some (some (.ref (He.ma K (He.ga K x) "__init__")))
  t : PySem.W.typeIn K (.ref (He.ma K (He.ga K x) "__init__")) = some (.type "function")
  f : XfC K (He.ga K x)
structure ParX (K : PySem.W.Frag) (x : Str) : Prop where
  g : PySem.W.specialIn K (.ref (He.ga K x)) "__getattribute__" = some (some (.builtin "type.__getattribute__"))
  r : PySem.W.readsIn K (He.ga K x) (.type "type") = true
  v : PySem.W.findCls K (.ref (He.ga K x)) (.type "type") "__init__" = some (.val (.builtin "ValueError.__init__"))
theorem clsOk_ok {K : PySem.W.Frag} {C : Addr} (h : clsOk K C = true) : ∃ nm q N bs bm sn sub ab col dd k0 k1 k2 k3 k5, K.lookup C = some (excClassObj nm q C N bs bm true sn sub ab col dd k0 k1 k2 k3 k5 "ValueError.__new__") ∧ PySem.HandSPX.refsVE bm = true := by
  unfold clsOk at h
  split at h
  case h_1 dd cd sl e0 =>
    split at h
    case h_1 C' bm k0 k1 k2 k3 n k5 e1 e2 =>
      obtain ⟨h1, h⟩ := Bool.and_eq_true_iff.mp h
      obtain ⟨h2, h⟩ := Bool.and_eq_true_iff.mp h
      obtain ⟨h3, h⟩ := Bool.and_eq_true_iff.mp h
      obtain ⟨h4, h5⟩ := Bool.and_eq_true_iff.mp h
      have g1 := eq_of_beq h1
      have g2 := eq_of_beq h2
      subst g1 g2
      obtain ⟨f1, f2, f3, f4, f5, f6, f7, f8, f9, f10, f11⟩ := cd
      obtain ⟨sl⟩ := sl
      have g5 : sl = [k0, k1, k2, k3, some (.builtin "ValueError.__new__"), k5] := e2
      have g6 : f3 = .ref C' :: bm := e1
      have g4 : f6 = true := h4
      have g3 : f11 = false := by
        have h3' : (!f11) = true := h3
        cases f11 with
        | true => cases h3'
        | false => rfl
      subst g5 g6 g3 g4
      exact ⟨_, _, _, _, _, _, _, _, _, _, _, _, _, _, _, e0, h5⟩
    case h_2 => cases h
  case h_2 => cases h
theorem ownX_ok {K : PySem.W.Frag} {x : Str} (h : ownX K x = true) : OwnX K x := by
  obtain ⟨h1, h⟩ := Bool.and_eq_true_iff.mp h
  obtain ⟨h2, h⟩ := Bool.and_eq_true_iff.mp h
  obtain ⟨h3, h⟩ := Bool.and_eq_true_iff.mp h
  obtain ⟨h4, h⟩ := Bool.and_eq_true_iff.mp h
  obtain ⟨h5, h⟩ := Bool.and_eq_true_iff.mp h
  obtain ⟨h6, h⟩ := Bool.and_eq_true_iff.mp h
  obtain ⟨h7, h8⟩ := Bool.and_eq_true_iff.mp h
  exact ⟨⟨clsOk_ok h1, of_decide_eq_true h2, of_decide_eq_true h3, of_decide_eq_true h4, h5⟩, of_decide_eq_true h6, of_decide_eq_true h7, xfB_ok h8⟩
theorem parX_ok {K : PySem.W.Frag} {x : Str} (h : parX K x = true) : ParX K x := by
  obtain ⟨h1, h⟩ := Bool.and_eq_true_iff.mp h
  obtain ⟨h2, h3⟩ := Bool.and_eq_true_iff.mp h
  refine ⟨of_decide_eq_true h1, h2, ?_⟩
  unfold initIs at h3
  split at h3
  case h_1 n e => rw [e, eq_of_beq h3]
  case h_2 => cases h3
/-! ### Parent.__init__(self, ..) -/
section
variable {X : Cx} {e : Expr} {es : List Expr} {ta : TA} {x : Str} {p1 p2 pos : Pos}
theorem pe_ceinit {pl : Sem Bool} (hg : Gl X x) (hm : X.mg x = some (.ref (He.ga X.K x))) (T : ParX X.K x) (ha : PA X (e :: es) ta) (hdb : (x == ("__debug__" : Str)) = false := by decide)
    (hc : eval (.Call (.Attribute (.Name x p1) "__init__" p2) (e :: es) [] pos) X.env = (do
      let f0 ← eval (.Name x p1) X.env
      standAt p2.atName
      let (g, hd) ← holding [f0] (getMethod f0 "__init__" pl)
      callWith pos g hd (backTo pos (starEach (e :: es) X.env)) (backToKw pos (keywordEach [] X.env))) := by rfl)
    (he : starEach (e :: es) X.env = (false, eval e X.env) :: starEach es X.env := by rfl) (hpl : (backTo pos (starEach es X.env)).any (·.1) = false := by rfl) :
    PE X (.Call (.Attribute (.Name x p1) "__init__" p2) (e :: es) [] pos) (tVeI X.K ta) := by
  constructor
  intro pins s σ H Q I h
  refine PySem.W.methodCall_KW (ld_glob I hg hm ?_ hdb) hc
  refine PySem.W.method_cls I.kIn T.g (PySem.W.cls_value I.kIn T.r T.v rfl ?_)
  show wpAny _ _ (callWith pos (Value.builtin "ValueError.__init__") [] (backTo pos (starEach (e :: es) X.env)) []) _ _ _
  refine PyProof.Rows.callWith_method1 (thn (ha.run pos pins _ σ H _ (I.tok _) h) ?_) he hpl
  rintro us s1 ⟨vs, H1, I1, r1, a, C, ws, rfl, hl, T1, ea, q⟩
  cases r1 with
  | @cons _ u0 _ ur ra rw' =>
    cases (show u0 = Value.ref a from ra)
    have hz : ur.length ≤ sizeLine := by
      rw [← Paired.length rw']
      exact Nat.le_trans hl (by decide)
    exact oinit_ok T1 I1 ea hz fun s' J => ⟨.non, H1, J, rfl, q⟩
end
/-! ### own exceptions with two fields, with one -/
def spIni2 (C : Addr) (f1 f2 : Str) : Sp := fun vs H Q _ => ∃ a v1 v2, vs = [.ref a, v1, v2] ∧ H a = some (exo a C none) ∧ ∀ d, H d = none → d ≠ a → Q .non (upd (upd (upd H d (exd d [(f1, v1)])) a (exo a C (some d))) d (exd d [(f2, v2), (f1, v1)]))
def spIni1 (C : Addr) (f1 : Str) : Sp := fun vs H Q _ => ∃ a v1, vs = [.ref a, v1] ∧ H a = some (exo a C none) ∧ ∀ d, H d = none → d ≠ a → Q .non (upd (upd H d (exd d [(f1, v1)])) a (exo a C (some d)))
section
variable {K : PySem.W.Frag} {σ : L2.St} {G G' M H : Hp} {ts : TA} {C a : Addr} {f1 f2 msg : Str} {d1 d2 : PyData} {v1 v2 : V} {Q : VK} {E : XK}
theorem ini2 (T : OexC K C) (n1 : PySem.W.findIn K (.ref C) f1 = some none) (n2 : PySem.W.findIn K (.ref C) f2 = some none) {D : Ends} (h : H a = some (exo a C none)) (k : ∀ d, H d = none → d ≠ a → D.nx [some (.ref a), some v1, some v2] (upd (upd (upd H d (exd d [(f1, v1)])) a (exo a C (some d))) d (exd d [(f2, v2), (f1, v1)]))) :
    tSeq (tDrop (tVeI K (tCons (tVar 0) (tCons (tC (.str msg)) tNil)))) (tSeq (tOst K f1 (tVar 0) (tVar 1)) (tOst K f2 (tVar 0) (tVar 2))) D [some (.ref a), some v1, some v2] H := by
  refine ⟨_, rfl, a, C, [.str msg], rfl, Nat.le_of_ble_eq_true rfl, T, h, ?_⟩
  refine ⟨v1, rfl, .ref a, rfl, a, C, rfl, T, n1, .inl ⟨h, fun d hd hda => ?_⟩⟩
  refine ⟨v2, rfl, .ref a, rfl, a, C, rfl, T, n2, .inr ⟨d, [(f1, v1)], upd_same, ?_, Nat.le_of_ble_eq_true rfl, k d hd hda⟩⟩
  rw [upd_ne hda, upd_same]
theorem ini1 (T : OexC K C) (n1 : PySem.W.findIn K (.ref C) f1 = some none) {D : Ends} (h : H a = some (exo a C none)) (k : ∀ d, H d = none → d ≠ a → D.nx [some (.ref a), some v1] (upd (upd H d (exd d [(f1, v1)])) a (exo a C (some d)))) :
    tSeq (tDrop (tVeI K (tCons (tVar 0) (tCons (tC (.str msg)) tNil)))) (tOst K f1 (tVar 0) (tVar 1)) D [some (.ref a), some v1] H := by
  refine ⟨_, rfl, a, C, [.str msg], rfl, Nat.le_of_ble_eq_true rfl, T, h, ?_⟩
  exact ⟨v1, rfl, .ref a, rfl, a, C, rfl, T, n1, .inl ⟨h, fun d hd hda => k d hd hda⟩⟩
/-- what is wanted of an exception of the class x with these fields -/
def ResX (K : PySem.W.Frag) (G M : Hp) (x : Str) (fs : List (Str × PyData)) (E : XK) : Prop := ∀ d gs G' H', Ex G G' → At G' M H' → G' d = some (.xd gs) → (∀ f r, (f, r) ∈ fs → ∃ v, gs.lookup f = some v ∧ Rp K G' r v) → E (.ref (He.ga K x)) (some d) H'
theorem ResX.mono {x : Str} {fs : List (Str × PyData)} (e : Ex G G') (h : ResX K G M x fs E) : ResX K G' M x fs E := fun d gs G2 H2 e2 A => h d gs G2 H2 (e.trans e2) A
theorem s_raise2 {x : Str} (h : TrA K ts σ G [d1, d2]) (hf : f1 ≠ f2) (A : At G M H) (k : ResX K G M x [(f1, d1), (f2, d2)] E) : tMkO (He.ga K x) (spIni2 (He.ga K x) f1 f2) [] ts σ H fun cls d H' => E cls d H' := by
  refine w_A h A fun vs G1 H1 e1 A1 r => ?_
  obtain ⟨v1, _, rfl, r1, v2, _, rfl, r2, rfl⟩ := r
  refine ⟨Nat.le_of_ble_eq_true rfl, fun a ha => ⟨a, v1, v2, rfl, upd_same, fun d hd hda => ⟨rfl, d, [(f2, v2), (f1, v1)], ?_, upd_same, ?_, ?_⟩⟩⟩
  · rw [upd_ne (Ne.symm hda), upd_same]
  · rw [upd_ne hda] at hd
    exact hd
  · rw [upd_ne hda] at hd
    have hH : upd (del (upd (upd (upd (upd H1 a (exo a (He.ga K x) none)) d (exd d [(f1, v1)])) a (exo a (He.ga K x) (some d))) d (exd d [(f2, v2), (f1, v1)])) a) d (.xd [(f2, v2), (f1, v1)]) = upd H1 d (.xd [(f2, v2), (f1, v1)]) := by
      funext y
      by_cases hy : y = d
      · subst hy
        rw [upd_same, upd_same]
      · rw [upd_ne hy, upd_ne hy]
        by_cases hya : y = a
        · subst hya
          rw [del_same, ha]
        · rw [del_ne hya, upd_ne hy, upd_ne hya, upd_ne hy, upd_ne hya]
    rw [hH]
    have eN : Ex G1 (upd G1 d (.xd [(f2, v2), (f1, v1)])) := Ex.new (A1.gNone hd)
    refine k d _ _ _ (e1.trans eN) (A1.ng hd) upd_same fun f r hm => ?_
    rcases List.mem_cons.mp hm with e | hm
    · cases e
      refine ⟨v1, ?_, r1.up eN⟩
      rw [L2.lookup_put, if_neg hf, L2.lookup_put, if_pos rfl]
    · cases List.mem_singleton.mp hm
      exact ⟨v2, by rw [L2.lookup_put, if_pos rfl], r2.up eN⟩
theorem s_raise1 {x : Str} (h : TrA K ts σ G [d1]) (A : At G M H) (k : ResX K G M x [(f1, d1)] E) : tMkO (He.ga K x) (spIni1 (He.ga K x) f1) [] ts σ H fun cls d H' => E cls d H' := by
  refine w_A h A fun vs G1 H1 e1 A1 r => ?_
  obtain ⟨v1, _, rfl, r1, rfl⟩ := r
  refine ⟨Nat.le_of_ble_eq_true rfl, fun a ha => ⟨a, v1, rfl, upd_same, fun d hd hda => ⟨rfl, d, [(f1, v1)], upd_same, ?_, ?_, ?_⟩⟩⟩
  · rw [upd_ne hda, upd_same]
  · rw [upd_ne hda] at hd
    exact hd
  · rw [upd_ne hda] at hd
    have hH : upd (del (upd (upd (upd H1 a (exo a (He.ga K x) none)) d (exd d [(f1, v1)])) a (exo a (He.ga K x) (some d))) a) d (.xd [(f1, v1)]) = upd H1 d (.xd [(f1, v1)]) := by
      funext y
      by_cases hy : y = d
      · subst hy
        rw [upd_same, upd_same]
      · rw [upd_ne hy, upd_ne hy]
        by_cases hya : y = a
        · subst hya
          rw [del_same, ha]
        · rw [del_ne hya, upd_ne hya, upd_ne hy, upd_ne hya]
    rw [hH]
    have eN : Ex G1 (upd G1 d (.xd [(f1, v1)])) := Ex.new (A1.gNone hd)
    refine k d _ _ _ (e1.trans eN) (A1.ng hd) upd_same fun f r hm => ?_
    cases List.mem_singleton.mp hm
    exact ⟨v1, by rw [L2.lookup_put, if_pos rfl], r1.up eN⟩
/-! ### a def that gives a datum or raises -/
inductive Out where
  | val (d : PyData)
  | exc (x : Str) (fs : List (Str × PyData))
def Out.ok (K : PySem.W.Frag) (G M : Hp) (Q : VK) (E : XK) : Out → Prop
  | .val d => Res K G M d Q
  | .exc x fs => ResX K G M x fs E
def XSp (K : PySem.W.Frag) (R : List PyData → Out → Prop) : Sp := fun vs H Q E => ∃ G M ds o, At G M H ∧ RpL K G ds vs ∧ R ds o ∧ Out.ok K G M Q E o
theorem XSp.len {R : List PyData → Out → Prop} {n : Nat} (hR : ∀ ds o, R ds o → ds.length = n) {vs : List V} (h : XSp K R vs H Q E) : vs.length = n := by
  obtain ⟨G, M, ds, o, _, hr, h2, _⟩ := h
  rw [hr.len, hR _ _ h2]
theorem d_callX {R : List PyData → Out → Prop} {ds : List PyData} {d : PyData} {E : XK} (h : TrA K ts σ G ds) (hr : R ds (.val d)) : TrD K (tCall (XSp K R) [] E ts) σ G d := fun G1 M H e A Q q => by
  refine h G1 M H e A _ fun vs G2 H2 e2 A2 r2 => ?_
  exact ⟨G2, M, ds, .val d, A2, by rw [List.append_nil]; exact r2, hr, q.mono e2⟩
theorem w_callX {R : List PyData → Out → Prop} {ds : List PyData} {x : Str} {fs : List (Str × PyData)} (h : TrA K ts σ G ds) (hr : R ds (.exc x fs)) (A : At G M H) (k : ResX K G M x fs E) : tCall (XSp K R) [] E ts σ H Q := by
  refine w_A h A fun vs G2 H2 e2 A2 r2 => ?_
  exact ⟨G2, M, ds, .exc x fs, A2, by rw [List.append_nil]; exact r2, hr, k.mono e2⟩
theorem d_callS {R : List PyData → Out → Prop} {ds : List PyData} {d : PyData} {E : L2.St → XK} (h : TrA K ts σ G ds) (hr : R ds (.val d)) : TrD K (tCallS (XSp K R) E ts) σ G d := fun G1 M H e A Q q => by
  refine h G1 M H e A _ fun vs G2 H2 e2 A2 r2 => ?_
  exact ⟨G2, M, ds, .val d, A2, r2, hr, q.mono e2⟩
theorem w_callS {R : List PyData → Out → Prop} {ds : List PyData} {x : Str} {fs : List (Str × PyData)} {E : L2.St → XK} (h : TrA K ts σ G ds) (hr : R ds (.exc x fs)) (A : At G M H) (k : ResX K G M x fs (E σ)) : tCallS (XSp K R) E ts σ H Q := by
  refine w_A h A fun vs G2 H2 e2 A2 r2 => ?_
  exact ⟨G2, M, ds, .exc x fs, A2, r2, hr, k.mono e2⟩
/-- e.f of the exception that is caught -/
theorem d_xf {a : Addr} {d : Addr} {C : Addr} {f : Str} {gs : List (Str × V)} {v : V} {i : Nat} {r : PyData} (hi : σ[i]? = some (some (.ref a))) (hd : G d = some (.xd gs)) (hl : gs.lookup f = some v) (hr : Rp K G r v) : TrD K (tXf a (.ref C) (some d) C f (tVar i)) σ G r := fun G1 M H e A Q q =>
  ⟨.ref a, hi, rfl, rfl, d, gs, v, rfl, A.g _ _ (e _ _ hd), hl, q.here A (hr.up e)⟩
end
/-! ### calls in a try, the try itself -/
section
variable {X : Cx} {CX : CXT} {k : Nat} {x : Str} {sp : Sp} {E : L2.St → XK} {p pos : Pos} {e : Expr} {es : List Expr} {t : TA}
theorem pe_fdS (F : Fd X.prog X.w X.K X.mg X.base CX k x sp []) (hg : X.A.guards = some []) (hr : Room k X.A) (hx : ∀ σ, PassesAt CX X σ (E σ)) (ha : PA X (e :: es) t) (hgl : Gl X x := by rfl)
    (hdb : (x == ("__debug__" : Str)) = false := by decide) (he : starEach (e :: es) X.env = (false, eval e X.env) :: starEach es X.env := by rfl) (hpl : (backTo pos (starEach es X.env)).any (·.1) = false := by rfl) :
    PE X (.Call (.Name x p) (e :: es) [] pos) (tCallS sp E t) := by
  obtain ⟨f, fd, ps, ds, hm, hk, hb, hd, F⟩ := F
  cases hd
  constructor
  intro pins s σ H Q I h
  apply wpAny_Call_Name_kw
  refine ld_glob I hgl hm ?_ hdb
  refine PySem.W.callWith_K (h₀ := X.base) I.ok.mod.kin hk (thn (ha.run pos pins s σ H _ I h) ?_) he hpl
  rintro us s1 ⟨vs, H1, I1, r, q⟩
  refine ⟨I1.kIn, ?_⟩
  have q' : sp vs H1 Q (E σ) := q
  have l' : us.length = ps.length := r.length.symm.trans (F.len _ _ _ _ q')
  have b := hb s1 us I1.kIn (by rw [List.append_nil]; exact l')
  rw [List.append_nil] at b
  apply wpAny_call
  refine codeAny_mono (F.run X.A X.stack s1 H1 ⟨us, []⟩ us vs Q (E σ) hg hr I1.env0 b r q') ?_
  rintro (e | (_ | _ | _ | u)) s' hq
  · exact hx σ pins H1 s1 e s' I1 hq
  · exact hq.elim
  · exact hq.elim
  · exact hq.elim
  · exact I1.after hq
end
end Sb

namespace Sb
open PySem PySem.Spec PyProof.Rows L2
/-! ### try with «except x as n» first, further clauses that are not come to -/
def wFst (K : PySem.W.Frag) (c : Value) (i : Nat) (ts : Addr → Value → Option Addr → TS) (D : Ends) : WX := fun cls d σ H => PySem.W.exmOne K cls c = some true ∧
  ∀ a, H a = none → ts a cls d { nx := fun τ J => D.nx (τ.set i none) J, rt := D.rt, bk := fun τ J => D.bk (τ.set i none) J, ct := fun τ J => D.ct (τ.set i none) J } (σ.set i (some (.ref a))) H
section
variable {X : Cx} {x n : Str} {c : Value} {i : Nat} {body suite : List Stmt} {b₀ : Stmt} {np pos pos' : Pos} {more : List ExceptHandler} {tb : WX → TS} {ts : Addr → Value → Option Addr → TS}
theorem ps_try_fst (h1 : X.stack = X.env :: X.outer) (h2 : X.env.frame = some X.env.locals) (h3 : X.N.Nodup) (h4 : X.N[i]? = some n) (h5 : X.env.kindOf n = some .local) (hc : Names X x c)
    (hb : ∀ (W : WX) (pn : List (Addr × Obj)) (xe : Value → Shared → Prop), Takes (X.tr pn xe) W → PassesOwn (model X.prog X.w) X.A X.env xe → PSs (X.tr pn xe) body (tb W))
    (ho : ∀ (a : Addr) (oe : Obj) (cls : Value) (d : Option Addr) (pn : List (Addr × Obj)), Zc cls d oe → (∃ vs, oe.data = .fields vs) → PSs (X.suite a ((a, oe) :: pn)) (b₀ :: suite) (ts a cls d)) :
    PS X (.Try body (.ExceptHandler (some (.Name x np)) (some n) (b₀ :: suite) pos' :: more) [] [] pos) (fun D σ H => tb (wFst X.K c i ts D) D σ H) := by
  constructor
  intro pins s σ H D I h
  have ok0 := I.ok
  have fr0 : X.A.frames = some (X.env :: X.outer) := by
    rw [ok0.frames, h1]
  refine wpAny_Try_except ?_
  have hT := hb (wFst X.K c i ts D) (X.pn ++ pins) (fun e t1 => wpAny (model X.prog X.w) X.A (noteFrame e X.env) (fun _ t2 => wpAny (model X.prog X.w) X.A (setFlight e none) (fun _ t3 => wpAny (model X.prog X.w) X.A (handleBy e X.env (.ExceptHandler (some (.Name x np)) (some n) (b₀ :: suite) pos' :: more)) (SP X pins D) X.xe t3) X.xe t2) X.xe t1) ?_ PassesOwn.looking
  · refine wpAny_mono (hT.run [] s σ H D (I.toTry _) h) ?_ fun _ _ z => z
    rintro (_ | _ | _ | u) t1 hq
    · obtain ⟨τ, J, K1, q⟩ := hq
      exact wpAny_execs_nil ⟨τ, J, K1.ofTry ok0, q⟩
    · obtain ⟨τ, J, K1, q⟩ := hq
      exact ⟨τ, J, K1.ofTry ok0, q⟩
    · obtain ⟨τ, J, K1, q⟩ := hq
      exact ⟨τ, J, K1.ofTry ok0, q⟩
    · obtain ⟨v, τ, J, K1, r, q⟩ := hq
      exact ⟨v, τ, J, K1.ofTry ok0, r, q⟩
  intro u t1 xx
  obtain ⟨a, B, t0, pins1, τ, J, cls, d, rfl, I1, nb, up, sky, na, os, ag, hm, go⟩ := xx
  have I2 : Inv X pins τ J t0 := I1.ofTry ok0
  rw [show (X.tr (X.pn ++ pins) _).stack = X.env :: X.outer from h1] at sky
  show wpAny (model X.prog X.w) X.A (noteFrame (.ref a) X.env) _ _ _
  refine Sky.land Zc.steady fr0 h2 sky fun m3 fl3 up3 => ?_
  have I3 : Inv X pins τ J { t1 with heap := m3 } := I2.landed nb fl3.1 (up.trans up3) os ag
  obtain ⟨o3, vs3, g3, z3, d3⟩ := fl3.there
  have off : a ∉ frs (X.env :: X.outer) := fun hin => by
    obtain ⟨_, o', g', hnf⟩ := fl3.2.2.1.mem hin
    rw [g3] at g'
    cases g'
    exact hnf _ d3
  have offL : a ≠ X.env.locals := fun z => off (List.mem_filterMap.mpr ⟨X.env, List.mem_cons_self, by rw [h2, z]⟩)
  have offF : a ∉ X.fs := fun hin => by
    obtain ⟨e, he, q⟩ := List.mem_filterMap.mp hin
    exact off (List.mem_filterMap.mpr ⟨e, List.mem_cons_of_mem _ he, q⟩)
  have S3 := I3.suite g3 d3 na offL offF
  refine wpAny_handleBy_cons (codeAny_handlers_test ?_) (by intro z; cases z)
  have lookT : PySem.W.Looks (model X.prog X.w) m3 (typeOf (.ref a)) cls := fun A Q E s k q => wpAny_typeOf_ref (k _ _ g3) (by rw [z3.1]; exact q)
  have lookM := PySem.W.exm_one (M := model X.prog X.w) I3.kIn lookT hm
  have nameIs : ∀ {Q E : Value → Shared → Prop}, Q c { t1 with heap := m3 } → wpAny (model X.prog X.w) (X.A.mark (some (.ref a))) (eval (.Name x np) X.env) Q E { t1 with heap := m3 } := fun {Q E} q => by
    obtain ⟨y1, y2, y3 | ⟨y3, y4, y5⟩⟩ := hc
    · exact ld_glob (X := X.suite a ((a, o3) :: (X.pn ++ pins))) S3 y1 y3 q y2
    · exact ld_blt (X := X.suite a ((a, o3) :: (X.pn ++ pins))) S3 y1 y3 y4 q y5 y2
  refine nameIs (lookM.here ?_)
  refine codeAny_handlers_suite_as ?_
  refine HandSPX.lands_againZ fl3 fun m4 fl4 up4 => ?_
  have I4 : Inv X pins τ J { t1 with heap := m4 } := I2.landed nb fl4.1 ((up.trans up3).trans up4) os ag
  obtain ⟨o4, vs4, g4, z4, d4⟩ := fl4.there
  have S4 := I4.suite g4 d4 na offL offF
  refine store_ok (X := X.suite a ((a, o4) :: (X.pn ++ pins))) (v := .ref a) S4 h3 h4 (.inl h5) rfl (fun t5 S5 => ?_) (.inr h5)
  have end_ : ∀ {σ6 : L2.St} {H6 : Hp} {t6 : Shared} {Q : Shared → Prop}, Inv (X.suite a ((a, o4) :: (X.pn ++ pins))) [] σ6 H6 t6 → (∀ t7, Inv X pins (σ6.set i none) H6 t7 → Q t7) → wpAny (model X.prog X.w) X.A (do bindName X.env n .none; unbindBehindTheSuite X.env n pos') (fun _ t7 => Q t7) X.xe t6 := fun {σ6 H6 t6 Q} S6 hq => gone_ok (S6.unsuite ok0) h3 h4 h5 hq
  refine wpAny_mono ((ho a o4 cls d (X.pn ++ pins) z4 ⟨_, d4⟩).run [] t5 _ J _ S5 (go a na)) ?_ fun _ _ z => False.elim z
  rintro (_ | _ | _ | u) t6 hq
  · obtain ⟨σ6, H6, S6, q6⟩ := hq
    exact end_ S6 fun _ J7 => ⟨_, _, J7, q6⟩
  · obtain ⟨σ6, H6, S6, q6⟩ := hq
    exact end_ S6 fun _ J7 => ⟨_, _, J7, q6⟩
  · obtain ⟨σ6, H6, S6, q6⟩ := hq
    exact end_ S6 fun _ J7 => ⟨_, _, J7, q6⟩
  · obtain ⟨v6, σ6, H6, S6, r6, q6⟩ := hq
    exact end_ S6 fun _ J7 => ⟨_, _, _, J7, r6, q6⟩
end
end Sb
namespace Sb
open PySem PySem.Spec PyProof.Rows L2
section
variable {X : Cx} {x f1 f2 : Str} {p pos : Pos} {e : Expr} {es : List Expr} {ta : TA}
theorem pmk_own2 (T : OwnX X.K x) (F : ∃ fd ps, FnOk X.prog X.w X.K X.mg X.base CX0 1 (He.ma X.K (He.ga X.K x) "__init__") fd ps (spIni2 (He.ga X.K x) f1 f2) ∧ Binds X.K fd ps []) (hr : Room 2 X.A) (hg : Gl X x) (hm : X.mg x = some (.ref (He.ga X.K x))) (ha : PA X (e :: es) ta)
    (hdb : (x == ("__debug__" : Str)) = false := by decide) (he : starEach (e :: es) X.env = (false, eval e X.env) :: starEach es X.env := by rfl) (hpl : (backTo pos (starEach es X.env)).any (·.1) = false := by rfl) :
    PMk X (.Call (.Name x p) (e :: es) [] pos) (tMkO (He.ga X.K x) (spIni2 (He.ga X.K x) f1 f2) [] ta) := by
  obtain ⟨fd, ps, F1, hb⟩ := F
  exact pmk_oex T.o T.i T.t F1 hr hb .nil pass0 hg hm ha hdb he hpl
theorem pmk_own1 (T : OwnX X.K x) (F : ∃ fd ps, FnOk X.prog X.w X.K X.mg X.base CX0 1 (He.ma X.K (He.ga X.K x) "__init__") fd ps (spIni1 (He.ga X.K x) f1) ∧ Binds X.K fd ps []) (hr : Room 2 X.A) (hg : Gl X x) (hm : X.mg x = some (.ref (He.ga X.K x))) (ha : PA X (e :: es) ta)
    (hdb : (x == ("__debug__" : Str)) = false := by decide) (he : starEach (e :: es) X.env = (false, eval e X.env) :: starEach es X.env := by rfl) (hpl : (backTo pos (starEach es X.env)).any (·.1) = false := by rfl) :
    PMk X (.Call (.Name x p) (e :: es) [] pos) (tMkO (He.ga X.K x) (spIni1 (He.ga X.K x) f1) [] ta) := by
  obtain ⟨fd, ps, F1, hb⟩ := F
  exact pmk_oex T.o T.i T.t F1 hr hb .nil pass0 hg hm ha hdb he hpl
end
end Sb

namespace Sb
section
open PySem PySem.AutoSeq1
theorem ext_tup (l : Addr) (xs : Array Value) (n : Nat) (b : Addr) (ys : Array Value) (m : Nat) (dd : Option Addr) (sl : Array (Option Value)) (h0 : ¬(!xs.isEmpty && Builtin.List.listTooLong (xs.size + ys.size)) = true) (h1 : xs.size ≤ sizeLine) (h2 : xs.size + ys.size ≤ sizeLine + 1) :
    Meets (Builtin.«list.extend» ⟨[.ref l, .ref b], []⟩) (fun _ R s => s.heap.get? l = some { cls := .type "list", dict := none, data := .seq xs n, slots := #[] } ∧ s.heap.get? b = some { cls := .type "tuple", dict := dd, data := .seq ys m, slots := sl } ∧ R (.ok (.ret Value.none)) { s with heap := s.heap.update l (Obj.mapSeq fun x => x ++ ys), toks := s.toks }) :=
  .of_wp fun prog w A R s h => by
    obtain ⟨hp, g, d, tk, os⟩ := s
    obtain ⟨hl, hb, h⟩ := h
    have f1 := idx_int
    have f2 := sub_tuple_tuple
    have f3 := sub_list_list
    have f4 := sub_tuple_list
    have f5 := sub_list_tuple
    have hz' : (xs ++ ys).size ≤ sizeLine + 1 := by rw [Array.size_append]; exact h2
    wp_walk using (wpAny_updateSeq hl rfl (hz := h1) (_hz' := hz')), wpAny_loadPart' hl, wpAny_loadPart' hb
    exact ⟨_, rfl, h⟩
end
open PySem PySem.Spec PyProof.Rows L2
def rExtT (K : PySem.W.Frag) : V → List V → Hp → VK → Prop := fun x vs H Q => ∃ l b xs zs, x = .ref l ∧ vs = [.ref b] ∧ H l = some (.lst xs) ∧ SqT K H b zs ∧ xs.length + zs.length ≤ sizeLine ∧ Q .non (upd H l (.lst (xs ++ zs)))
theorem mt_extT {X : Cx} : MtM X "list.extend" (rExtT X.K) := by
  intro pins s σ H x vs v us Q I rx rv h
  obtain ⟨l, b, xs, zs, rfl, rfl, hH, hB, hz, q⟩ := h
  cases rx
  obtain ⟨u, rfl, ru⟩ := rv.one
  cases ru
  obtain ⟨z, its, n, r, hl, e⟩ := I.lstM hH
  obtain ⟨its2, r2, ⟨⟨oc, od, dt, osl⟩, e2, ec, m, ed⟩, z2⟩ := I.tuple hB
  simp only at ec ed
  subst ec ed
  have hl2 : its2.length = zs.length := r2.length.symm
  have hsz : its.toArray.size + its2.toArray.size ≤ sizeLine := by rw [List.size_toArray, List.size_toArray]; omega
  have hlong : ¬ (!its.toArray.isEmpty && Builtin.List.listTooLong (its.toArray.size + its2.toArray.size)) = true := by
    rw [notLongL hsz, Bool.and_false]
    exact Bool.false_ne_true
  refine call_meets F.slot_list_extend ⟨_, e, rfl⟩ F.entry_list_extend (F.args_list_extend_2 _ _) (ext_tup l its.toArray n b its2.toArray m od osl hlong (by rw [List.size_toArray]; omega) (by omega)) ⟨e, e2, ?_⟩
  refine ⟨.non, _, I.lset (its' := its ++ its2) hH e (by simp) (r.append r2) ?_, rfl, q⟩
  rw [List.length_append]
  omega
section
variable {K : PySem.W.Frag} {σ : L2.St} {G G' M M0 M1 H : Hp} {ta tb te tc : TE} {d d1 d2 d3 : PyData} {tt t u : TT} {ts : TA} {ds es : List PyData} {Q : VK} {D : Ends} {s1 s2 tbd : TS} {i j n m n' : Nat} {r p a : Addr} {o : HO} {Φ Φ1 : PyData → Prop}
def chrs (z : Str) : List Str := z.cps.toList.map fun c => ⟨#[c]⟩
theorem chrs_len (z : Str) : (chrs z).length = z.cps.size := by unfold chrs; rw [List.length_map, Array.length_toList]
theorem chrs_get {z : Str} {k c : Nat} (h : z.cps[k]? = some c) : (chrs z)[k]? = some ⟨#[c]⟩ := by
  unfold chrs
  rw [List.getElem?_map, Array.getElem?_toList, h]
  rfl
/-! ### over the signs of a text -/
theorem d_lcS {tl : TE} {z : Str} {p : Str → Bool} {f : Str → PyData} (hl : TrD K tl σ G (.str z)) (hn : z.cps.size < 100000)
    (ht : ∀ c ∈ chrs z, ∀ G1, Ex G G1 → TrB tt ((wipe σ [i]).set i (some (.str c))) G1 (p c))
    (he : ∀ c ∈ chrs z, p c = true → ∀ G1, Ex G G1 → TrD K te ((wipe σ [i]).set i (some (.str c))) G1 (f c)) :
    TrD K (tLc (iStr tl) (gName i) tt te [i]) σ G (.list (((chrs z).filter p).map f)) := fun G1 M H e A Q q => by
  refine hl G1 M H e A _ fun v G2 H2 e2 A2 rv => ?_
  refine ⟨z, rv, fun D hD => ?_⟩
  refine ⟨fun t m H3 => m = z.cps.size - t ∧ t ≤ z.cps.size ∧ ∃ Gj acc, Ex G2 Gj ∧ At Gj (upd M D (.lst acc)) H3 ∧ RpL K Gj ((((chrs z).take t).filter p).map f) acc, ⟨z.cps.size, by simp, Nat.zero_le _, G2, [], Ex.refl _, A2.nm hD, rfl⟩, ?_⟩
  rintro t m H3 ⟨rfl, ht', Gj, acc, ej, Aj, rj⟩
  by_cases hlt : t < z.cps.size
  · refine .inr ⟨hlt, fun H4 => ∃ Gj acc, Ex G2 Gj ∧ At Gj (upd M D (.lst acc)) H4 ∧ RpL K Gj ((((chrs z).take (t + 1)).filter p).map f) acc, fun H4 w => ⟨z.cps.size - (t + 1), by omega, rfl, hlt, w⟩, ?_⟩
    rintro y H4 ⟨rfl, c, hc, rfl⟩
    have hk := chrs_get hc
    have hm := List.mem_of_getElem? hk
    have htk : (chrs z).take (t + 1) = (chrs z).take t ++ [⟨#[c]⟩] := by rw [List.take_add_one, hk]; rfl
    show wipe _ _ = wipe _ _ ∧ _
    refine ⟨wipe_set, ?_⟩
    refine ht _ hm Gj ((e.trans e2).trans ej) Gj _ H4 (Ex.refl _) Aj _ fun G4 H4 e4 A4 => ?_
    cases hp : p ⟨#[c]⟩ with
    | false =>
      refine ⟨G4, acc, ej.trans e4, A4, ?_⟩
      rw [htk, List.filter_append, List.filter_cons, hp]
      simpa using rj.up e4
    | true =>
      refine he _ hm hp G4 ((e.trans e2).trans (ej.trans e4)) G4 _ H4 (Ex.refl _) A4 _ fun v5 G5 H5 e5 A5 r5 => ?_
      refine ⟨acc, A5.m _ _ upd_same, ?_, G5, acc ++ [v5], ej.trans (e4.trans e5), ?_, ?_⟩
      · rw [rj.len, List.length_map]
        refine sz_lt (Nat.lt_of_le_of_lt (Nat.le_trans (List.length_filter_le _ _) ?_) hn)
        rw [List.length_take, chrs_len]
        exact Nat.min_le_right _ _
      · have w := A5.wr (o := .lst (acc ++ [v5])) (upd_same (H := M) (a := D) (o := .lst acc))
        rw [upd_upd] at w
        exact w
      · rw [htk, List.filter_append, List.filter_cons, hp, List.map_append]
        exact (rj.up (e4.trans e5)).snoc r5
  · have e1 : t = z.cps.size := by omega
    subst e1
    have hl2 : (chrs z).take z.cps.size = chrs z := by rw [← chrs_len, List.take_length]
    rw [hl2] at rj
    have hM : M D = none := A2.mNone hD
    have hm := upd_same (H := M) (a := D) (o := HO.lst acc)
    exact .inl ⟨Nat.le_refl _, q _ _ _ ((e2.trans ej).trans (Aj.frzG hm)) (Aj.frz hm (Ex.new hM) hM) ⟨D, acc, rfl, upd_same, rj.up (Aj.frzG hm)⟩⟩
theorem s_forSI {z : Str} (Inv : Nat → L2.St → Hp → Hp → Prop) (h : TrD K te σ G (.str z)) (A : At G M H) (mono : ∀ {k : Nat} {σ1 : L2.St} {G1 G2 M1 : Hp}, Ex G1 G2 → Inv k σ1 G1 M1 → Inv k σ1 G2 M1)
    (h0 : Inv 0 σ G M)
    (hb : ∀ (k : Nat) c, (chrs z)[k]? = some c → ∀ σ1 G1 M1 H1, Ex G G1 → At G1 M1 H1 → Inv k σ1 G1 M1 → ∀ Nx : L2.St → Hp → Prop, (∀ σ2 G2 M2 H2, Ex G1 G2 → At G2 M2 H2 → Inv (k + 1) σ2 G2 M2 → Nx σ2 H2) →
      tbd { D with nx := Nx, ct := Nx, bk := D.nx } (σ1.set i (some (.str c))) H1)
    (hd : ∀ σ1 G1 M1 H1, Ex G G1 → At G1 M1 H1 → Inv (chrs z).length σ1 G1 M1 → D.nx σ1 H1) :
    tFor (iStr te) (gName i) tbd D σ H := by
  refine w_D h A fun v G2 H2 e2 A2 rv => ?_
  refine ⟨z, rv, ?_⟩
  refine ⟨fun t m σ' H' => m = z.cps.size - t ∧ t ≤ z.cps.size ∧ ∃ G3 M3, Ex G2 G3 ∧ At G3 M3 H' ∧ Inv t σ' G3 M3, ⟨z.cps.size, by simp, Nat.zero_le _, G2, M, Ex.refl _, A2, mono e2 h0⟩, ?_⟩
  rintro t m σ' H' ⟨rfl, ht, G3, M3, e3, A3, hI⟩
  by_cases hlt : t < z.cps.size
  · refine .inr ⟨hlt, fun σ' H' => ∃ G3 M3, Ex G2 G3 ∧ At G3 M3 H' ∧ Inv (t + 1) σ' G3 M3, fun σ2 H3 w => ⟨z.cps.size - (t + 1), by omega, rfl, hlt, w⟩, ?_⟩
    rintro x H4 ⟨rfl, c, hc, rfl⟩
    exact hb t _ (chrs_get hc) _ _ _ _ (e2.trans e3) A3 hI _ fun σ5 G5 M5 H5 e5 A5 i5 => ⟨G5, M5, e3.trans e5, A5, i5⟩
  · have e1 : t = (chrs z).length := by rw [chrs_len]; omega
    subst e1
    exact .inl ⟨by show z.cps.size ≤ _; rw [chrs_len]; exact Nat.le_refl _, hd σ' G3 M3 H' (e2.trans e3) A3 hI⟩
/-! ### [e for i, x in enumerate(list)] -/
theorem d_lcE {tl : TE} {p : Nat → PyData → Bool} {f : Nat → PyData → PyData} {g : TG} (hij : i ≠ j) (hl : TrD K tl σ G (.list ds)) (hn : ds.length < 100000) (hg : g = gTup K 2 (gCons (gName i) (gCons (gName j) gNil)))
    (ht : ∀ (k : Nat) d, ds[k]? = some d → ∀ x G1, Ex G G1 → Rp K G1 d x → TrB tt (((wipe σ [i, j]).set i (some (.int k))).set j (some x)) G1 (p k d))
    (he : ∀ (k : Nat) d, ds[k]? = some d → p k d = true → ∀ x G1, Ex G G1 → Rp K G1 d x → TrD K te (((wipe σ [i, j]).set i (some (.int k))).set j (some x)) G1 (f k d)) :
    TrD K (tLc (iEnum K (tCons tl tNil)) g tt te [i, j]) σ G (.list ((ds.zipIdx.filter fun q => p q.2 q.1).map fun q => f q.2 q.1)) := fun G1 M H e A Q q => by
  subst hg
  refine hl G1 M H e A _ fun v G2 H2 e2 A2 rv => ?_
  obtain ⟨a, xs, rfl, k1, k2⟩ := rv
  refine ⟨a, xs, rfl, SqL.of (A2.g _ _ k1), fun D hD => ?_⟩
  have hMD : M D = none := A2.mNone hD
  refine ⟨fun t m H3 => m = xs.length - t ∧ t ≤ xs.length ∧ ∃ Gj acc, Ex G2 Gj ∧ At Gj (upd M D (.lst acc)) H3 ∧ RpL K Gj (((ds.zipIdx.take t).filter fun q => p q.2 q.1).map fun q => f q.2 q.1) acc, ⟨xs.length, by simp, Nat.zero_le _, G2, [], Ex.refl _, A2.nm hD, rfl⟩, ?_⟩
  rintro t m H3 ⟨rfl, ht', Gj, acc, ej, Aj, rj⟩
  have hsq : SqL K H3 a xs := SqL.of (Aj.g _ _ (ej _ _ k1))
  by_cases hlt : t < xs.length
  · have hx : xs[t]? = some xs[t] := List.getElem?_eq_getElem hlt
    obtain ⟨d, hd, rd⟩ := k2.get hx
    refine .inr ⟨⟨xs, xs[t], hsq, hx⟩, fun H4 => ∃ Gj acc, Ex G2 Gj ∧ At Gj (upd M D (.lst acc)) H4 ∧ RpL K Gj (((ds.zipIdx.take (t + 1)).filter fun q => p q.2 q.1).map fun q => f q.2 q.1) acc, fun H4 w => ⟨xs.length - (t + 1), by omega, rfl, hlt, w⟩, ?_⟩
    rintro y H4 ⟨T, w, rfl, hT, rfl, hy⟩
    have ey : w = xs[t] := Option.some.inj ((hy xs hsq).symm.trans hx)
    subst ey
    have A4 := Aj.ng (o := HO.tup [.int t, xs[t]]) hT
    have e4 : Ex Gj (upd Gj T (.tup [.int t, xs[t]])) := Ex.new (Aj.gNone hT)
    have htk : ds.zipIdx.take (t + 1) = ds.zipIdx.take t ++ [(d, t)] := by
      rw [List.take_add_one]
      congr 1
      rw [List.getElem?_zipIdx, hd]
      simp
    refine ⟨T, [.int t, xs[t]], rfl, SqT.of upd_same, rfl, .int t, [xs[t]], rfl, xs[t], [], rfl, rfl, ?_⟩
    refine ⟨?_, ?_⟩
    · show (((((σ.set j none).set i none).set i (some (V.int t))).set j (some xs[t])).set j none).set i none = (σ.set j none).set i none
      rw [List.set_set, List.set_set, List.set_comm _ _ hij, List.set_set, List.set_set]
    refine ht t d hd _ _ ((e.trans e2).trans (ej.trans e4)) (rd.up (ej.trans e4)) _ _ _ (Ex.refl _) A4 _ fun G5 H5 e5 A5 => ?_
    cases hp : p t d with
    | false =>
      refine ⟨G5, acc, (ej.trans e4).trans e5, A5, ?_⟩
      rw [htk, List.filter_append, List.filter_cons, show p (d, t).2 (d, t).1 = false from hp]
      simpa using rj.up (e4.trans e5)
    | true =>
      refine he t d hd hp _ _ ((e.trans e2).trans ((ej.trans e4).trans e5)) (rd.up ((ej.trans e4).trans e5)) _ _ _ (Ex.refl _) A5 _ fun v6 G6 H6 e6 A6 r6 => ?_
      refine ⟨acc, A6.m _ _ upd_same, ?_, G6, acc ++ [v6], ((ej.trans e4).trans e5).trans e6, ?_, ?_⟩
      · rw [rj.len, List.length_map]
        refine sz_lt (Nat.lt_of_le_of_lt (Nat.le_trans (List.length_filter_le _ _) ?_) hn)
        rw [List.length_take, List.length_zipIdx]
        exact Nat.min_le_right _ _
      · have w := A6.wr (o := .lst (acc ++ [v6])) (upd_same (H := M) (a := D) (o := .lst acc))
        rw [upd_upd] at w
        exact w
      · rw [htk, List.filter_append, List.filter_cons, show p (d, t).2 (d, t).1 = true from hp, List.map_append]
        exact (rj.up ((e4.trans e5).trans e6)).snoc r6
  · have e1 : t = xs.length := by omega
    subst e1
    have hl2 : ds.zipIdx.take xs.length = ds.zipIdx := by rw [k2.len, ← List.length_zipIdx (i := 0), List.take_length]
    rw [hl2] at rj
    have hm := upd_same (H := M) (a := D) (o := HO.lst acc)
    exact .inl ⟨⟨xs, hsq, Nat.le_refl _⟩, q _ _ _ ((e2.trans ej).trans (Aj.frzG hm)) (Aj.frz hm (Ex.new hMD) hMD) ⟨D, acc, rfl, upd_same, rj.up (Aj.frzG hm)⟩⟩
/-! ### repeating, extending -/
theorem rd_rep {k : Int} (h0 : 0 ≤ k) (h1 : k ≤ 1000000) (h2 : ds.length * k.toNat ≤ 100000) : RD K rRep (.list ds) (.int k) (.list (List.replicate k.toNat ds).flatten) := fun G M H x y A ⟨a, xs, e1, r1, r2⟩ hy Q q => by
  have t63 : (2 : Int) ^ 63 = 9223372036854775808 := rfl
  refine ⟨a, k, xs, e1, hy, A.g _ _ r1, by omega, by omega, by rw [r2.len]; exact sz_of h2, fun p hp => q.newG A hp ⟨p, _, rfl, upd_same, ?_⟩⟩
  have r3 := r2.up (Ex.new (A.gNone hp) (o := .lst (List.replicate k.toNat xs).flatten))
  have all : ∀ n, RpL K (upd G p (.lst (List.replicate k.toNat xs).flatten)) (List.replicate n ds).flatten (List.replicate n xs).flatten := fun n => by
    induction n with
    | zero => exact rfl
    | succ n ih =>
      rw [List.replicate_succ, List.replicate_succ, List.flatten_cons, List.flatten_cons]
      exact r3.app ih
  exact all _
theorem rd_mulS {z : Str} {k : Int} (h : MulOk z k) : RD K rMulS (.str z) (.int k) (.str (Txt.mul z k)) := fun G M H x y A h1 h2 Q q => ⟨z, k, h1, h2, h, q.here A rfl⟩
theorem s_extT {xs : List V} (hi : σ[i]? = some (some (.ref p))) (hp : M p = some (.lst xs)) (h : TrD K te σ G (.tuple ds)) (hn : xs.length + ds.length ≤ 100000) (A : At G M H)
    (k : ∀ ys G' H', Ex G G' → At G' (upd M p (.lst (xs ++ ys))) H' → RpL K G' ds ys → D.nx σ H') : tDrop (tBM K "list" (rExtT K) (tVar i) (tCons te tNil)) D σ H := by
  refine ⟨.ref p, hi, Or.inl ⟨rfl, _, Or.inl (Or.inl (A.m _ _ hp))⟩, ?_⟩
  refine w_D h A fun v G2 H2 e2 A2 r => ?_
  obtain ⟨b, zs, rfl, h1, h2⟩ := r
  exact ⟨p, b, xs, zs, rfl, rfl, A2.m _ _ hp, A2.g.stt h1, by rw [h2.len]; exact sz_of hn, k zs G2 _ e2 (A2.wr hp) h2⟩
end
end Sb

namespace Sb
open PySem PySem.Spec PyProof.Rows L2
/-! ### what a split gives -/
theorem spl_bd (S : List Nat) : ∀ (l : List Nat) (k : Nat) (acc : List Nat), (TL.spl S k acc l).length ≤ l.length + 1 ∧ ∀ p ∈ TL.spl S k acc l, p.length ≤ acc.length + l.length ∧ ∀ c ∈ p, c ∈ acc ∨ c ∈ l
  | [], k, acc => by
    rw [TL.spl_nil]
    refine ⟨by simp, fun p hp => ?_⟩
    rw [List.mem_singleton.mp hp]
    exact ⟨by simp, fun c hc => .inl hc⟩
  | c :: r, 0, acc => by
    cases h : TL.pre S (c :: r) with
    | true =>
      rw [TL.spl_hit h]
      obtain ⟨h1, h2⟩ := spl_bd S r (S.length - 1) []
      refine ⟨by simp only [List.length_cons]; omega, fun p hp => ?_⟩
      rcases List.mem_cons.mp hp with rfl | hp
      · exact ⟨by omega, fun x hx => .inl hx⟩
      · obtain ⟨h3, h4⟩ := h2 p hp
        refine ⟨by simp only [List.length_cons, List.length_nil] at h3 ⊢; omega, fun x hx => .inr ?_⟩
        rcases h4 x hx with z | z
        · cases z
        · exact List.mem_cons_of_mem _ z
    | false =>
      rw [TL.spl_miss h]
      obtain ⟨h1, h2⟩ := spl_bd S r 0 (acc ++ [c])
      refine ⟨by simp only [List.length_cons]; omega, fun p hp => ?_⟩
      obtain ⟨h3, h4⟩ := h2 p hp
      rw [List.length_append, List.length_singleton] at h3
      refine ⟨by simp only [List.length_cons]; omega, fun x hx => ?_⟩
      rcases h4 x hx with z | z
      · rcases List.mem_append.mp z with z | z
        · exact .inl z
        · rw [List.mem_singleton.mp z]
          exact .inr (List.mem_cons_self ..)
      · exact .inr (List.mem_cons_of_mem _ z)
  | c :: r, k + 1, acc => by
    show (TL.spl S k acc r).length ≤ _ ∧ ∀ p ∈ TL.spl S k acc r, _
    obtain ⟨h1, h2⟩ := spl_bd S r k acc
    refine ⟨by simp only [List.length_cons]; omega, fun p hp => ?_⟩
    obtain ⟨h3, h4⟩ := h2 p hp
    refine ⟨by simp only [List.length_cons]; omega, fun x hx => ?_⟩
    rcases h4 x hx with z | z
    · exact .inl z
    · exact .inr (List.mem_cons_of_mem _ z)
theorem split_bd (x y : Str) (hy : TL.tl y ≠ []) (hk : y.cps.all (· < 256) = true) : (Txt.split x y).length ≤ x.length + 1 ∧ ∀ p ∈ Txt.split x y, p.length ≤ x.length ∧ ∀ c ∈ p.cps.toList, c ∈ x.cps.toList := by
  have e := TL.split_spl x y hy (TL.kind_ok hk)
  obtain ⟨h1, h2⟩ := spl_bd (TL.tl y) (TL.tl x) 0 []
  rw [← e] at h1 h2
  rw [List.length_map] at h1
  refine ⟨by rw [TL.len_tl]; exact h1, fun p hp => ?_⟩
  obtain ⟨h3, h4⟩ := h2 (TL.tl p) (List.mem_map.mpr ⟨p, hp, rfl⟩)
  refine ⟨by rw [TL.len_tl, TL.len_tl x]; simpa using h3, fun c hc => ?_⟩
  rcases h4 c hc with z | z
  · cases z
  · exact z
theorem mem_join {S : List Nat} {c : Nat} : ∀ {ps : List (List Nat)}, c ∈ TL.joinL S ps → c ∈ S ∨ ∃ p ∈ ps, c ∈ p
  | [], h => by cases h
  | [p], h => .inr ⟨p, List.mem_cons_self .., h⟩
  | p :: q :: r, h => by
    rcases List.mem_append.mp (show c ∈ p ++ (S ++ TL.joinL S (q :: r)) from h) with h1 | h1
    · exact .inr ⟨p, List.mem_cons_self .., h1⟩
    rcases List.mem_append.mp h1 with h2 | h2
    · exact .inl h2
    rcases mem_join h2 with h3 | ⟨u, hu, h3⟩
    · exact .inl h3
    · exact .inr ⟨u, List.mem_cons_of_mem _ hu, h3⟩
/-! ### digits -/
theorem mulOk_of {z : Str} {n : Int} (h0 : 0 ≤ n) (h1 : n ≤ 1000) (h2 : z.length ≤ 10000) : MulOk z n := by
  have t63 : (2 : Int) ^ 63 = 9223372036854775808 := rfl
  refine ⟨?_, fun h3 _ => ?_, fun h3 _ => ?_⟩
  · rw [decide_eq_false (by omega), decide_eq_false (by omega)]
    rfl
  · rw [t63]
    have hq : (9223372036854775 : Int) ≤ (9223372036854775808 - 1) / n := by
      have : (9223372036854775 : Int) * n ≤ 9223372036854775808 - 1 := by
        have := Int.mul_le_mul_of_nonneg_left h1 (show (0 : Int) ≤ 9223372036854775 by decide)
        omega
      exact (Int.le_ediv_iff_mul_le (by omega)).mpr this
    omega
  · refine decide_eq_false ?_
    have h4 : z.length * n.toNat ≤ 10000 * 1000 := Nat.mul_le_mul h2 (by omega)
    have h5 : (10000 * 1000 : Nat) ≤ sizeLine := by decide
    omega
theorem fold_cps : ∀ (k : Nat) (x : Array Nat) (a : Array Nat), ((List.replicate k x).foldl (· ++ ·) a).toList = a.toList ++ (List.replicate k x.toList).flatten
  | 0, x, a => by simp
  | k + 1, x, a => by
    rw [List.replicate_succ, List.foldl_cons, fold_cps k, Array.toList_append, List.replicate_succ, List.flatten_cons, List.append_assoc]
theorem mul_tl {z : Str} {n : Int} (h : 2 ≤ n) (hz : 0 < z.length) : (Txt.mul z n).cps.toList = (List.replicate n.toNat z.cps.toList).flatten := by
  unfold Txt.mul
  have e1 : ¬ n < 1 := by omega
  have e2 : ¬ ((n == 1 || z.length == 0) = true) := by
    have a1 : (n == 1) = false := by simpa using (show n ≠ 1 by omega)
    have a2 : (z.length == 0) = false := by simpa using (show z.length ≠ 0 by omega)
    rw [a1, a2]
    decide
  rw [if_neg e1, if_neg e2]
  show ((List.replicate n.toNat z.cps).foldl (· ++ ·) #[]).toList = _
  rw [fold_cps]
  rfl
theorem fold_bd : ∀ (l : List Nat) (a : Nat), NumText.AllDigits l → a * 10 ^ l.length ≤ l.foldl (fun acc c => acc * 10 + (c - 48)) a ∧ l.foldl (fun acc c => acc * 10 + (c - 48)) a < (a + 1) * 10 ^ l.length
  | [], a, _ => by simp
  | c :: l, a, h => by
    obtain ⟨h1, h2⟩ := fold_bd l (a * 10 + (c - 48)) h.tail
    have hc := h.head
    rw [List.foldl_cons, List.length_cons, Nat.pow_succ]
    have e1 : a * (10 ^ l.length * 10) ≤ (a * 10 + (c - 48)) * 10 ^ l.length := by
      rw [Nat.mul_comm (10 ^ l.length) 10, ← Nat.mul_assoc]
      exact Nat.mul_le_mul_right _ (by omega)
    have e2 : (a * 10 + (c - 48) + 1) * 10 ^ l.length ≤ (a + 1) * (10 ^ l.length * 10) := by
      rw [Nat.mul_comm (10 ^ l.length) 10, ← Nat.mul_assoc]
      exact Nat.mul_le_mul_right _ (by omega)
    exact ⟨Nat.le_trans e1 h1, Nat.lt_of_lt_of_le h2 e2⟩
theorem val_bd {l : List Nat} (h : NumText.AllDigits l) : NumText.digitsVal l < 10 ^ l.length := by
  have z := (fold_bd l 0 h).2
  rw [Nat.zero_add, Nat.one_mul] at z
  exact z
theorem val_pos {c : Nat} {l : List Nat} (h : NumText.AllDigits (c :: l)) (hc : c ≠ 48) : 1 ≤ NumText.digitsVal (c :: l) := by
  have hd := h.head
  have z := (fold_bd l (0 * 10 + (c - 48)) h.tail).1
  have hp : 1 ≤ 10 ^ l.length := Nat.pow_pos (by decide)
  have : 1 * 1 ≤ (0 * 10 + (c - 48)) * 10 ^ l.length := Nat.mul_le_mul (by omega) hp
  exact Nat.le_trans this z
/-- a number above 0 does not begin with 0 -/
theorem num_head : ∀ n : Nat, 1 ≤ n → ∃ c l, TL.numL n = c :: l ∧ c ≠ 48 := by
  intro n
  induction n using Nat.strongRecOn with
  | _ n ih =>
    intro h
    by_cases h10 : n < 10
    · rw [TL.numL_lt h10]
      exact ⟨48 + n, [], rfl, by omega⟩
    · obtain ⟨c, l, e, hc⟩ := ih (n / 10) (by omega) (by omega)
      rw [TL.numL_step (by omega), e]
      exact ⟨c, l ++ [48 + n % 10], rfl, hc⟩
/-! ### lists of numbers are equal to themselves -/
theorem eqvA_ints : ∀ a b : List Int, PyData.eqvAll (dInts a) (dInts b) = decide (a = b)
  | [], [] => rfl
  | [], y :: b => by simp [dInts, PyData.eqvAll]
  | x :: a, [] => by simp [dInts, PyData.eqvAll]
  | x :: a, y :: b => by
    show (PyData.eqv (.int x) (.int y) && PyData.eqvAll (dInts a) (dInts b)) = _
    rw [eqvA_ints a b]
    have e : PyData.eqv (.int x) (.int y) = decide (x = y) := by
      simp only [PyData.eqv]
      by_cases h : x = y <;> simp [h]
    rw [e]
    by_cases h1 : x = y <;> by_cases h2 : a = b <;> simp [h1, h2]
theorem eqv_ints (a b : List Int) : PyData.eqv (.list (dInts a)) (.list (dInts b)) = decide (a = b) := by
  simp only [PyData.eqv]
  exact eqvA_ints a b
theorem shaped_intsL (ns : List Int) : SeqAt.shaped (.list (dInts ns)) = true := by
  have z := shaped_ints ns
  unfold SeqAt.shaped at z ⊢
  simpa [PyData.canLay0, PyData.depth] using z
section
variable {K : PySem.W.Frag} {σ : L2.St} {G : Hp} {M0 : Hp} {te : TE} {n n' : Nat} {r : Addr} {Φ Φ1 : PyData → Prop}
/-- a.join(xs), xs drawn -/
theorem e_join {a : Str} {Ψ : List Str → Prop} (h : TrE K r M0 te σ G n n' fun d => ∃ ys, d = .list (dStrs ys) ∧ Ψ ys) (hz : ∀ ys, Ψ ys → (ys.map (·.length)).sum + ys.length * a.length ≤ 16777216) (hΦ : ∀ ys, Ψ ys → Φ (.str (Txt.join a ys))) :
    TrE K r M0 (tM1 (fun x xs H Q => ∃ a p, ∃ ys : List Str, x = .str a ∧ xs = [.ref p] ∧ (SqL K H p (ys.map V.str) ∨ SqT K H p (ys.map V.str)) ∧ (ys.map (·.length)).sum + ys.length * a.length ≤ 16777216 ∧ Q (.str (Txt.join a ys)) H) (tC (.str a)) te) σ G n n' Φ := fun G1 M H e A S R Q q => by
  refine ⟨⟨a, rfl⟩, ?_⟩
  refine h G1 M H e A S R _ fun d v G2 M2 H2 e2 A2 S2 R2 hd rv => ?_
  obtain ⟨ys, rfl, hy⟩ := hd
  obtain ⟨p, rfl, hp⟩ := rv.ls
  exact ⟨a, p, ys, rfl, rfl, .inl (SqL.of (A2.g _ _ hp)), hz ys hy, q _ _ G2 M2 H2 e2 A2 S2 R2 (hΦ ys hy) rfl⟩
end
end Sb

namespace Sb
open PySem PySem.Spec PyProof.Rows L2
abbrev joinR {K : PySem.W.Frag} : V → List V → Hp → VK → Prop := fun x xs H Q => ∃ a p, ∃ ys : List Str, x = .str a ∧ xs = [.ref p] ∧ (SqL K H p (ys.map V.str) ∨ SqT K H p (ys.map V.str)) ∧ (ys.map (·.length)).sum + ys.length * a.length ≤ 16777216 ∧ Q (.str (Txt.join a ys)) H
section
variable {K : PySem.W.Frag} {σ : L2.St} {G G' M M0 M1 H : Hp} {ta tb te tc : TE} {d d1 d2 d3 : PyData} {tt t u : TT} {ts : TA} {ds es : List PyData} {Q : VK} {D : Ends} {s1 s2 tbd : TS} {i j l n m n' : Nat} {r p a : Addr} {o : HO} {Φ Φ1 : PyData → Prop}
/-! ### assignments of two and of three names -/
theorem s_par (ha : TrD K ta σ G d1) (hb : TrD K tb σ G d2) (A : At G M H) (k : ∀ v w G' H', Ex G G' → At G' M H' → Rp K G' d1 v → Rp K G' d2 w → D.nx ((σ.set i (some v)).set j (some w)) H') : tPar i j (tCons ta (tCons tb tNil)) D σ H := by
  refine w_A (a_cons ha (a_cons hb a_nil)) A fun vs G1 H1 e1 A1 r1 => ?_
  obtain ⟨v, _, rfl, h1, w, _, rfl, h2, rfl⟩ := r1
  exact ⟨v, w, rfl, k v w G1 H1 e1 A1 h1 h2⟩
theorem s_par3 (ha : TrD K ta σ G d1) (hb : TrD K tb σ G d2) (hc : TrD K tc σ G d3) (A : At G M H) (k : ∀ v w x G' H', Ex G G' → At G' M H' → Rp K G' d1 v → Rp K G' d2 w → Rp K G' d3 x → D.nx (((σ.set i (some v)).set j (some w)).set l (some x)) H') : tPar3 i j l (tCons ta (tCons tb (tCons tc tNil))) D σ H := by
  refine w_A (a_cons ha (a_cons hb (a_cons hc a_nil))) A fun vs G1 H1 e1 A1 r1 => ?_
  obtain ⟨v, _, rfl, h1, w, _, rfl, h2, x, _, rfl, h3, rfl⟩ := r1
  exact ⟨v, w, x, rfl, k v w x G1 H1 e1 A1 h1 h2 h3⟩
/-! ### comparisons of texts -/
theorem rd_geS {x y : Str} : RD K (fun x y H Q => ∃ i j, x = .str i ∧ y = .str j ∧ Q (.bl (!decide (i.cps.toList < j.cps.toList))) H) (.str x) (.str y) (.bool (!decide (x.cps.toList < y.cps.toList))) :=
  fun G M H v u A h1 h2 Q q => ⟨x, y, h1, h2, q.here A rfl⟩
/-! ### range(a, b) -/
theorem s_forR2 (Inv : Nat → L2.St → Hp → Hp → Prop) {lo hi : Int} (ha : TrD K ta σ G (.int lo)) (hb : TrD K tb σ G (.int hi)) (h1 : -(2 ^ 62) ≤ lo ∧ lo < 2 ^ 62) (h2 : -(2 ^ 62) ≤ hi ∧ hi < 2 ^ 62) (A : At G M H) (mono : ∀ {k : Nat} {σ1 : L2.St} {G1 G2 M1 : Hp}, Ex G1 G2 → Inv k σ1 G1 M1 → Inv k σ1 G2 M1)
    (h0 : Inv 0 σ G M)
    (hs : ∀ (k : Nat), lo + (k : Int) < hi → ∀ σ1 G1 M1 H1, Ex G G1 → At G1 M1 H1 → Inv k σ1 G1 M1 → ∀ Nx : L2.St → Hp → Prop, (∀ σ2 G2 M2 H2, Ex G1 G2 → At G2 M2 H2 → Inv (k + 1) σ2 G2 M2 → Nx σ2 H2) →
      tbd { D with nx := Nx, ct := Nx, bk := D.nx } (σ1.set i (some (.int (lo + (k : Int))))) H1)
    (hd : ∀ σ1 G1 M1 H1, Ex G G1 → At G1 M1 H1 → Inv (hi - lo).toNat σ1 G1 M1 → D.nx σ1 H1) :
    tFor (iRng2 (tCons ta (tCons tb tNil))) (gName i) tbd D σ H := by
  refine w_A (a_cons ha (a_cons hb a_nil)) A fun vs G2 H2 e2 A2 rv => ?_
  obtain ⟨v, _, rfl, h3, w, _, rfl, h4, rfl⟩ := rv
  refine ⟨lo, hi, by rw [show v = V.int lo from h3, show w = V.int hi from h4], ⟨h1.1, h1.2, h2.1, h2.2⟩, ?_⟩
  refine for_range (lo := lo) (n := (hi - lo).toNat) (fun t σ' H' => ∃ G3 M3, Ex G2 G3 ∧ At G3 M3 H' ∧ Inv t σ' G3 M3) ⟨G2, M, Ex.refl _, A2, mono e2 h0⟩ ?_ ?_
  · rintro t σ' H' hx ⟨G3, M3, e3, A3, hI⟩
    exact hs t (by omega) _ _ _ _ (e2.trans e3) A3 hI _ fun σ5 G5 M5 H5 e5 A5 i5 => ⟨G5, M5, e3.trans e5, A5, i5⟩
  · rintro σ' H' ⟨G3, M3, e3, A3, hI⟩
    exact hd σ' G3 M3 H' (e2.trans e3) A3 hI
end
end Sb

namespace Sb
open PySem PySem.Spec PyProof.Rows L2
/-! ### a Hook that also looks at the interpreter's statics and at a Bool of one's own -/
def asS (g : Addr → Option Obj) (n : Nat) : List Addr := He.asD g n ++ [PySem.cStatics]
def obsS (n : Nat) (fa : List He.Fa) (fn : List He.DefD) (ex : PySem.W.Frag → Bool) (g : Addr → Option Obj) : He.AlD × Bool := (He.obsD fa fn (He.frG g (asS g n)), ex (He.frG g (asS g n)))
def hookS (n : Nat) (fa : List He.Fa) (fn : List He.DefD) (ex : PySem.W.Frag → Bool) : PySem.W.Hook where
  α := He.AlD × Bool
  obs := fun s => obsS n fa fn ex s.heap.get?
  val := fun _ => (He.valD fn, true)
  says := fun _ h => ∃ K : PySem.W.Frag, K.In h ∧ He.SaysD fa fn K ∧ ex K = true
  of := fun _ _ e => ⟨_, He.frG_in, congrArg (fun z : He.AlD × Bool => z.1) e, congrArg (fun z : He.AlD × Bool => z.2) e⟩
  keeps := fun _ _ _ ⟨K, hK, c⟩ k => ⟨K, PySem.W.Frag.In.keeps hK k, c⟩
theorem obsS_eq {n : Nat} {fa : List He.Fa} {fn : List He.DefD} {ex : PySem.W.Frag → Bool} {g : Addr → Option Obj} {s : Shared} (h : ∀ a, g a = s.heap.get? a) : obsS n fa fn ex g = (hookS n fa fn ex).obs s := by
  have e : g = s.heap.get? := funext h
  rw [e] <;> rfl
end Sb

namespace Sb
open PySem PySem.Spec PyProof.Rows L2
section
variable (K : PySem.W.Frag)
/-! ### texts and lists of texts of which only bounds are known -/
def SS (te : TE) (σ : L2.St) (G : Hp) (m : Nat) : Prop := ∃ x : Str, TrD K te σ G (.str x) ∧ x.length ≤ m
def SL (te : TE) (σ : L2.St) (G : Hp) (n m : Nat) : Prop := ∃ ls : List Str, TrD K te σ G (.list (dStrs ls)) ∧ ls.length ≤ n ∧ ∀ w ∈ ls, w.length ≤ m
end
section
variable {K : PySem.W.Frag} {σ : L2.St} {G G' M M0 M1 H : Hp} {ta tb te tc : TE} {d d1 d2 d3 : PyData} {tt t u : TT} {ts : TA} {ds es : List PyData} {Q : VK} {D : Ends} {s1 s2 tbd : TS} {i j l n m n' m' n1 n2 : Nat} {r p a : Addr} {o : HO} {Φ Φ1 : PyData → Prop}
theorem dS_len (a : List Str) : (dStrs a).length = a.length := List.length_map ..
theorem dS_app (a b : List Str) : dStrs (a ++ b) = dStrs a ++ dStrs b := List.map_append ..
theorem SS.le (h : SS K te σ G m) (e : m ≤ m') : SS K te σ G m' := let ⟨x, h1, h2⟩ := h; ⟨x, h1, Nat.le_trans h2 e⟩
theorem SL.le (h : SL K te σ G n m) (e : n ≤ n') (e2 : m ≤ m') : SL K te σ G n' m' := let ⟨x, h1, h2, h3⟩ := h; ⟨x, h1, Nat.le_trans h2 e, fun w hw => Nat.le_trans (h3 w hw) e2⟩
theorem ss_str {x : Str} (h : x.length ≤ m) : SS K (tC (.str x)) σ G m := ⟨x, d_str, h⟩
theorem ss_var {x : Str} {v : V} (hi : σ[i]? = some (some v)) (r : Rp K G (.str x) v) (h : x.length ≤ m) : SS K (tVar i) σ G m := ⟨x, d_var hi r, h⟩
theorem sl_var {ls : List Str} {v : V} (hi : σ[i]? = some (some v)) (r : Rp K G (.list (dStrs ls)) v) (h : ls.length ≤ n) (h2 : ∀ w ∈ ls, w.length ≤ m) : SL K (tVar i) σ G n m := ⟨ls, d_var hi r, h, h2⟩
theorem sl_cat (ha : SL K ta σ G n1 m) (hb : SL K tb σ G n2 m) (hn : n1 + n2 ≤ 100000) : SL K (tOp rCat ta tb) σ G (n1 + n2) m := by
  obtain ⟨x, h1, h2, h3⟩ := ha
  obtain ⟨y, k1, k2, k3⟩ := hb
  refine ⟨x ++ y, TrD.to (d_op h1 k1 (rd_cat (by rw [dS_len, dS_len]; omega))) (by rw [dS_app]), by rw [List.length_append]; omega, fun w hw => ?_⟩
  rcases List.mem_append.mp hw with z | z
  · exact h3 w z
  · exact k3 w z
theorem sl_nil : SL K (tLst tNil) σ G 0 m := ⟨[], d_lst a_nil (Nat.zero_le _), Nat.le_refl _, fun w hw => (by cases hw)⟩
theorem sl_one (h : SS K te σ G m) : SL K (tLst (tCons te tNil)) σ G 1 m := by
  obtain ⟨x, h1, h2⟩ := h
  exact ⟨[x], d_lst (a_cons h1 a_nil) (Nat.le_of_ble_eq_true rfl), Nat.le_refl _, fun w hw => by rw [List.mem_singleton.mp hw]; exact h2⟩
theorem sl_cut {tl th : TO} {lo hi : Option Int} (h : SL K te σ G n m) (h1 : TrO tl σ G lo) (h2 : TrO th σ G hi) : SL K (tSl (rSlL K) te tl th) σ G n m := by
  obtain ⟨x, k1, k2, k3⟩ := h
  refine ⟨(x.drop (HT.sIx x.length 0 lo)).take (HT.sIx x.length x.length hi - HT.sIx x.length 0 lo), TrD.to (d_slL k1 h1 h2) ?_, ?_, fun w hw => k3 w (List.mem_of_mem_drop (List.mem_of_mem_take hw))⟩
  · unfold Sb.cutD
    rw [dS_len]
    unfold dStrs
    rw [List.map_take, List.map_drop]
  · rw [List.length_take, List.length_drop]
    omega
theorem ss_ix {ls : List Str} {v : V} {k : Nat} (hi : σ[i]? = some (some v)) (r : Rp K G (.list (dStrs ls)) v) (hb : TrD K tb σ G (.int (k : Int))) (hk : k < ls.length) (h2 : ∀ w ∈ ls, w.length ≤ m) : SS K (tOp (rIxL K) (tVar i) tb) σ G m := by
  refine ⟨ls[k], d_op (d_var hi r) hb (rd_ixL ?_), h2 _ (List.getElem_mem _)⟩
  unfold L2.atI ixN
  rw [if_pos (by omega), if_pos (by rw [dS_len]; omega)]
  show (dStrs ls)[(k : Int).toNat]? = _
  rw [Int.toNat_natCast]
  unfold dStrs
  rw [List.getElem?_map, List.getElem?_eq_getElem hk]
  rfl
theorem ss_add (ha : SS K ta σ G n1) (hb : SS K tb σ G n2) (hn : n1 + n2 ≤ 100000) : SS K (tOp (fun x y H Q => ∃ i j, x = V.str i ∧ y = V.str j ∧ i.length + j.length ≤ sizeLine ∧ Q (V.str (i ++ j)) H) ta tb) σ G (n1 + n2) := by
  obtain ⟨x, h1, h2⟩ := ha
  obtain ⟨y, k1, k2⟩ := hb
  refine ⟨x ++ y, d_op h1 k1 (rd_addS (sz_of (by omega))), ?_⟩
  rw [strLen_append]
  omega
theorem sum_bd {ls : List Str} {c : Nat} (h : ∀ s ∈ ls, s.length ≤ c) : (ls.map (·.length)).sum ≤ ls.length * c := by
  induction ls with
  | nil => simp
  | cons a l ih =>
    have h1 := h a (List.mem_cons_self ..)
    have h2 := ih fun s hs => h s (List.mem_cons_of_mem _ hs)
    rw [List.map_cons, List.sum_cons, List.length_cons, Nat.succ_mul]
    omega
theorem join_bd1 {a : Str} {ls : List Str} (ha : a.length = 1) (h2 : ls.length ≤ n) (h3 : ∀ w ∈ ls, w.length ≤ m) : (ls.map (·.length)).sum + ls.length * a.length ≤ n * (m + 1) := by
  have h4 := sum_bd h3
  rw [ha, Nat.mul_succ n m, Nat.mul_one]
  have h5 : ls.length * m ≤ n * m := Nat.mul_le_mul_right _ h2
  omega
theorem ss_join {a : Str} (ha : a.length = 1) (h : SL K te σ G n m) (hz : n * (m + 1) ≤ 16777216) : SS K (tM1 (fun x xs H Q => ∃ a p, ∃ ys : List Str, x = .str a ∧ xs = [.ref p] ∧ (SqL K H p (ys.map V.str) ∨ SqT K H p (ys.map V.str)) ∧ (ys.map (·.length)).sum + ys.length * a.length ≤ 16777216 ∧ Q (.str (Txt.join a ys)) H) (tC (.str a)) te) σ G (n * (m + 1)) := by
  obtain ⟨x, h1, h2, h3⟩ := h
  have hb := join_bd1 ha h2 h3
  refine ⟨Txt.join a x, d_join d_str h1 (Nat.le_trans hb hz), ?_⟩
  rw [TL.join_eq]
  exact Nat.le_trans (StrLaws.join_length_le _ _) hb
theorem sl_ins {k : Int} (h : SL K (tVar i) σ G n m) (hj : TrD K (tVar j) σ G (.int k)) (he : SS K te σ G m) (hn : n + 1 + n ≤ 100000) : SL K (tOp rCat (tOp rCat (tSl (rSlL K) (tVar i) tNoPart (tPart (tVar j))) (tLst (tCons te tNil))) (tSl (rSlL K) (tVar i) (tPart (tVar j)) tNoPart)) σ G (n + 1 + n) m :=
  sl_cat (sl_cat (sl_cut h o_none (o_some hj)) (sl_one he) (by omega)) (sl_cut h (o_some hj) o_none) hn
theorem sl_put {k : Int} (h : SL K (tVar i) σ G n m) (hj : TrD K (tVar j) σ G (.int k)) (he : SS K te σ G m) (hn : n + 1 + n ≤ 100000) : SL K (tOp rCat (tOp rCat (tSl (rSlL K) (tVar i) tNoPart (tPart (tVar j))) (tLst (tCons te tNil))) (tSl (rSlL K) (tVar i) (tPart (tOp (rI0 fun i j => V.int (i + j)) (tVar j) (tC (V.int 1)))) tNoPart)) σ G (n + 1 + n) m :=
  sl_cat (sl_cat (sl_cut h o_none (o_some hj)) (sl_one he) (by omega)) (sl_cut h (o_some (d_op hj d_int rd_add)) o_none) hn
theorem e_SL (h : SL K te σ G n1 m) : TrE K r M0 te σ G n n fun d => ∃ l, d = .list (dStrs l) ∧ l.length ≤ n1 ∧ ∀ w ∈ l, w.length ≤ m := let ⟨l, h1, h2, h3⟩ := h; e_D h1 ⟨l, rfl, h2, h3⟩
theorem e_SS (h : SS K te σ G m) : TrE K r M0 te σ G n n fun d => ∃ l, d = .str l ∧ l.length ≤ m := let ⟨l, h1, h2⟩ := h; e_D h1 ⟨l, rfl, h2⟩
/-! ### a written list of lists of texts -/
def dLL (lls : List (List Str)) : List PyData := lls.map fun l => .list (dStrs l)
def okLL (n m : Nat) (lls : List (List Str)) : Prop := ∀ l ∈ lls, l.length ≤ n ∧ ∀ w ∈ l, w.length ≤ m
theorem okLL.app {a b : List (List Str)} (h : okLL n m a) (k : okLL n m b) : okLL n m (a ++ b) := fun l hl => by
  rcases List.mem_append.mp hl with z | z
  · exact h l z
  · exact k l z
theorem okLL.nil : okLL n m [] := fun _ h => (by cases h)
theorem dLL_len (a : List (List Str)) : (dLL a).length = a.length := List.length_map ..
theorem dLL_app (a b : List (List Str)) : dLL (a ++ b) = dLL a ++ dLL b := List.map_append ..
def SLL (K : PySem.W.Frag) (ts : TA) (σ : L2.St) (G : Hp) (c n m : Nat) : Prop := ∃ lls : List (List Str), TrA K ts σ G (dLL lls) ∧ lls.length = c ∧ okLL n m lls
theorem sll_nil : SLL K tNil σ G 0 n m := ⟨[], a_nil, rfl, okLL.nil⟩
theorem sll_cons {c : Nat} (h : SL K te σ G n m) (k : SLL K ts σ G c n m) : SLL K (tCons te ts) σ G (c + 1) n m := by
  obtain ⟨l, h1, h2, h3⟩ := h
  obtain ⟨ls, k1, k2, k3⟩ := k
  refine ⟨l :: ls, a_cons h1 k1, by rw [List.length_cons, k2], fun x hx => ?_⟩
  rcases List.mem_cons.mp hx with rfl | hx
  · exact ⟨h2, h3⟩
  · exact k3 x hx
theorem cut_ex {xs : HO} : Ex (cutG M p) (upd M p xs) := fun a o h => by
  by_cases e : a = p
  · rw [e, cut_none] at h
    cases h
  · rw [upd_ne e]
    have h' : (if a = p then none else M a) = some o := h
    rw [if_neg e] at h'
    exact h'
theorem At.frzC {xs : List V} (A : At G (upd M p (.lst xs)) H) (r : RpL K G ds xs) : ∃ G', Ex G G' ∧ At G' (cutG M p) H ∧ Rp K G' (.list ds) (.ref p) :=
  have hm := upd_same (H := M) (a := p) (o := HO.lst xs)
  ⟨_, A.frzG hm, A.frz hm cut_ex cut_none, p, xs, rfl, upd_same, r.up (A.frzG hm)⟩
theorem RL.cut (h : RL r n M) (e : p ≠ r) : RL r n (cutG M p) := by
  obtain ⟨a, b, c, h1, h2⟩ := h
  exact ⟨a, b, c, by show (if r = p then none else M r) = _; rw [if_neg (Ne.symm e)]; exact h1, h2⟩
/-- what stood before stands, the reel apart -/
def Kp (r : Addr) (M M1 : Hp) : Prop := ∀ x, x ≠ r → ∀ o, M x = some o → M1 x = some o
theorem Kp.refl : Kp r M M := fun _ _ _ h => h
theorem Kp.same (h : Kp r M M1) (S : Same r M1 M0) : Kp r M M0 := fun x hx o e => (S x hx).trans (h x hx o e)
theorem Kp.none (h : Kp r M M1) (e : M1 p = none) (hp : p ≠ r) : M p = none := by
  cases z : M p with
  | none => rfl
  | some o =>
    rw [h p hp o z] at e
    cases e
theorem Kp.upd (h : Kp r M M1) (e : M p = Option.none) : Kp r M (L2.upd M1 p o) := fun x hx u z => by
  have hne : x ≠ p := fun y => by rw [y, e] at z; cases z
  rw [upd_ne hne]
  exact h x hx u z
theorem Kp.cut (h : Kp r M M1) (e : M p = Option.none) : Kp r M (cutG M1 p) := fun x hx u z => by
  have hne : x ≠ p := fun y => by rw [y, e] at z; cases z
  show (if x = p then Option.none else M1 x) = _
  rw [if_neg hne]
  exact h x hx u z
theorem upd_id (h : M p = some o) : L2.upd M p o = M := by
  funext x
  by_cases e : x = p
  · rw [e, upd_same, h]
  · rw [upd_ne e]
/-- x = x + [..], x a list that is written -/
theorem q_grow {xs : List V} (A : At G (upd M p (.lst xs)) H) (r : RpL K G ds xs) (hi : σ[i]? = some (some (.ref p))) (hb : ∀ G', Ex G G' → TrA K ts σ G' es) (hn : ds.length + es.length ≤ 100000)
    (k : ∀ p' xs' G' H', Ex G G' → cutG M p p' = none → At G' (upd (cutG M p) p' (.lst xs')) H' → RpL K G' (ds ++ es) xs' → s2 D (σ.set i (some (.ref p'))) H') : tSeq (tAsg (tOp rCat (tVar i) (tLst ts)) (gName i)) s2 D σ H := by
  obtain ⟨G1, e1, A1, r1⟩ := A.frzC r
  exact q_newCat (d_var hi r1) (d_lst (hb G1 e1) (by omega)) hn A1 fun p' xs' G' H' e' hM _ A' r' => k p' xs' G' H' (e1.trans e') hM A' r'
theorem q_app {xs : List V} (A : At G (upd M p (.lst xs)) H) (r : RpL K G ds xs) (hi : σ[i]? = some (some (.ref p))) (hb : TrD K te σ G d) (hn : ds.length < 100000)
    (k : ∀ xs' G' H', Ex G G' → At G' (upd M p (.lst xs')) H' → RpL K G' (ds ++ [d]) xs' → s2 D σ H') : tSeq (tDrop (tBM K "list" rAppend (tVar i) (tCons te tNil))) s2 D σ H := by
  refine q_append hi upd_same hb (by rw [r.len]; exact hn) A fun v G' H' e' A' r' => ?_
  rw [upd_upd] at A'
  exact k _ G' H' e' A' ((r.up e').snoc r')
theorem s_app {xs : List V} (A : At G (upd M p (.lst xs)) H) (r : RpL K G ds xs) (hi : σ[i]? = some (some (.ref p))) (hb : TrD K te σ G d) (hn : ds.length < 100000)
    (k : ∀ xs' G' H', Ex G G' → At G' (upd M p (.lst xs')) H' → RpL K G' (ds ++ [d]) xs' → D.nx σ H') : tDrop (tBM K "list" rAppend (tVar i) (tCons te tNil)) D σ H := by
  refine s_append hi upd_same hb (by rw [r.len]; exact hn) A fun v G' H' e' A' r' => ?_
  rw [upd_upd] at A'
  exact k _ G' H' e' A' ((r.up e').snoc r')
/-- x.append(e), e drawn -/
theorem q_appE {xs : List V} (hi : σ[i]? = some (some (.ref p))) (hp : M0 p = some (.lst xs)) (hn : p ≠ r) (hl : xs.length < 100000) (h : TrE K r M0 te σ G n n' Φ) (A : At G M H) (S : Same r M0 M) (R : RL r n M)
    (k : ∀ d v G' M' H', Ex G G' → At G' M' H' → Same r (upd M0 p (.lst (xs ++ [v]))) M' → RL r n' M' → Φ d → Rp K G' d v → s2 D σ H') : tSeq (tDrop (tBM K "list" rAppend (tVar i) (tCons te tNil))) s2 D σ H := by
  refine ⟨.ref p, hi, Or.inl ⟨rfl, _, Or.inl (Or.inl (A.m _ _ ((S p hn).trans hp)))⟩, ?_⟩
  refine h G M H (Ex.refl _) A S R _ fun d v G2 M2 H2 e2 A2 S2 R2 hd rv => ?_
  have hM2 : M2 p = some (.lst xs) := (S2 p hn).trans hp
  refine ⟨p, xs, v, rfl, rfl, A2.m _ _ hM2, sz_lt hl, k d v G2 _ _ e2 (A2.wr hM2) (fun x hx => ?_) (R2.upd hn) hd rv⟩
  by_cases e : x = p
  · subst e
    rw [upd_same, upd_same]
  · rw [upd_ne e, upd_ne e]
    exact S2 x hx
end
end Sb

namespace Sb
open PySem PySem.Spec PyProof.Rows L2
/-! ### repr of a list of small numbers -/
def smallI (n : Int) : Prop := 0 ≤ n ∧ n < 1000000000000000000
theorem small_log {n : Int} (h : smallI n) : n.natAbs.log2 < 64 := by
  obtain ⟨h0, h1⟩ := h
  by_cases z : n.natAbs = 0
  · rw [z]
    decide
  · exact (Nat.log2_lt z).mpr (by have : (2 : Nat) ^ 64 = 18446744073709551616 := rfl; omega)
theorem rc_ints {K : PySem.W.Frag} {ns : List Int} (h : ∀ n ∈ ns, smallI n) (hl : ns.length ≤ 1000) : RC K (rRepr K) [.list (dInts ns)] (.str (PyData.shown (.list (dInts ns)))) := by
  have h1 : ∀ ns : List Int, noDics (dInts ns) = true := fun ns => by
    induction ns with
    | nil => rfl
    | cons n ns ih => show (noDic (.int n) && noDics (dInts ns)) = true; rw [ih]; rfl
  have h2 : ∀ ns : List Int, (∀ n ∈ ns, smallI n) → PyData.showableAll (dInts ns) = true ∧ PyData.depthAll (dInts ns) = 0 ∧ fiSA (dInts ns) = true ∧ wSA (dInts ns) ≤ 20 * ns.length := fun ns => by
    induction ns with
    | nil => exact fun _ => ⟨rfl, rfl, rfl, Nat.le_refl _⟩
    | cons n ns ih =>
      intro h
      obtain ⟨a, b, c, d⟩ := ih fun x hx => h x (List.mem_cons_of_mem _ hx)
      have hn := h n (List.mem_cons_self ..)
      refine ⟨?_, ?_, ?_, ?_⟩
      · show (PyData.showable (.int n) && PyData.showableAll (dInts ns)) = true
        rw [a, Bool.and_true]
        exact decide_eq_true (Nat.lt_trans (small_log hn) (by decide))
      · show max (PyData.depth (.int n)) (PyData.depthAll (dInts ns)) = 0
        rw [b]
        rfl
      · show (fiS (.int n) && fiSA (dInts ns)) = true
        rw [c, Bool.and_true]
        show (decide (0 ≤ n) && decide (n < 1000000000000000000)) = true
        rw [decide_eq_true hn.1, decide_eq_true hn.2]
        rfl
      · show wS (.int n) + 2 + wSA (dInts ns) ≤ _
        rw [List.length_cons]
        show 18 + 2 + _ ≤ _
        omega
  obtain ⟨a, b, c, d⟩ := h2 ns h
  refine rc_repr (.inr (h1 ns)) rfl a ?_ ?_
  · show PyData.depthAll (dInts ns) + 1 ≤ 60
    rw [b]
    decide
  · refine Nat.le_trans (shown_le (.list (dInts ns)) ?_) ?_
    · show fiSA (dInts ns) = true
      exact c
    · show 2 + wSA (dInts ns) ≤ sizeLine
      have h7 : (20 * 1000 + 2 : Nat) ≤ sizeLine := by decide
      omega
end Sb
namespace Sb
open PySem PySem.Spec PyProof.Rows L2
section
variable {K : PySem.W.Frag} {σ : L2.St} {G G' M M0 M1 H : Hp} {ta tb te tc : TE} {ts : TA} {D : Ends} {s1 s2 : TS} {i n n' : Nat} {r : Addr} {Φ : PyData → Prop} {Ψ : List PyData → Prop}
theorem e_callP {R : List PyData → PyData → Prop} {E : XK} (h : TrEA K r M0 ts σ G n n' Ψ) (hr : ∀ ds, Ψ ds → ∃ d, R ds d ∧ Φ d) : TrE K r M0 (tCall (PSp K R) [] E ts) σ G n n' Φ := fun G1 M H e A S Rr Q q => by
  refine h G1 M H e A S Rr _ fun ds vs G2 M2 H2 e2 A2 S2 R2 hd rv => ?_
  obtain ⟨d, h1, h2⟩ := hr ds hd
  exact ⟨G2, M2, ds, d, A2, by rw [List.append_nil]; exact rv, h1, fun v G' H' e' A' r' => q d v G' M2 H' (e2.trans e') A' S2 R2 h2 r'⟩
theorem s_ifE (h : TrE K r M0 te σ G n n' fun d => d = .bool true) (A : At G M H) (S : Same r M0 M) (R : RL r n M) (k : ∀ G' M' H', Ex G G' → At G' M' H' → Same r M0 M' → RL r n' M' → s2 D σ H') : tIfS (tNot (tB te)) s1 s2 D σ H := by
  refine h G M H (Ex.refl _) A S R _ fun d v G' M' H' e A' S' R' hd rv => ?_
  subst hd
  exact ⟨true, rv, k G' M' H' e A' S' R'⟩
end
end Sb

namespace Sb
section
open PySem PySem.Spec PyProof.Rows HotX
variable {prog : Program} {w : World} {A : Around} {E : Value → Shared → Prop} {s : Shared}
/-! ### the end of a list, of a tuple, while an exception is handled -/
theorem list_end_hot {it l x1 : Addr} {i : Nat} {items : Array Value} {Q : Option Value → Shared → Prop} (hot : HotAt A x1 s.heap)
    (hit : s.heap.IsListIter it l i) (hl : s.heap.IsList l items) (hx : items[i]? = none)
    (hQ : ∀ h', Heap.ExtBut it s.heap h' → Q none { s with heap := h' }) : wpAny (model prog w) A (pyNext (.ref it)) Q E s := by
  obtain ⟨o, ho, hc, hd⟩ := id hit
  obtain ⟨ol, hol, _, nl, hdl⟩ := hl
  obtain ⟨hh, o1, vs1, h1, d1, c1⟩ := hot
  have hne : it ≠ x1 := fun z => by
    subst z
    rw [ho] at h1
    cases h1
    rw [hd] at d1
    cases d1
    simp at c1
  unfold pyNext
  refine wpAny_bind (wpAny_attempt (wpAny_callSpecial?_slot (name := Str.ofString "__next__") hit.typeIs slot_listiter_next
    (wpAny_call_entry slot_listiter_next hit.typeIs entry_listiter_next ?_ (args_listiter_next _))))
  show wpAny _ _ (field (.ref it) 0 >>= _) _ _ s
  refine wpAny_bind (wpAny_field ho hd (x := .ref l) rfl ?_)
  show wpAny _ _ (if (Value.ref l == Value.none) = true then _ else _) _ _ s
  rw [if_neg (show ¬ ((Value.ref l == Value.none) = true) from Bool.false_ne_true)]
  show wpAny _ _ (field (.ref it) 1 >>= _) _ _ s
  refine wpAny_bind (wpAny_field ho hd (x := .int i 0) rfl ?_)
  show wpAny _ _ (seqItems? (.ref l) >>= _) _ _ s
  refine wpAny_bind (wpAny_seqItems hol hdl ?_)
  simp only [Int.toNat_natCast, hx]
  refine wpAny_bind (wpAny_rule (wpAny_bind (wpAny_setField ho hd (by simp) ?_)))
  show wpAny _ _ (newExc (.type "StopIteration") [] >>= _) _ _ _
  refine wpAny_bind ?_
  simp only [newExc, newTuple]
  refine wpAny_bind (wpAny_newObj_type ?_ (by size_fits))
  refine wpAny_bind (m := firstArgMember _ _) (wpAny_of_eq (a := Value.none) (by first | rfl | (simp only [firstArgMember]; rfl)) ?_)
  refine wpAny_newObj_type ?_ (by size_fits)
  have h1' := (Heap.get?_update_other s.heap (Obj.mapFields (·.setIfInBounds 0 Value.none)) hne).trans h1
  refine raiseNew_hot ⟨hh, o1, vs1, Heap.get?_push_of_some _ (Heap.get?_push_of_some _ h1'), d1, c1⟩ (Nat.ne_of_lt (Heap.lt_size (Heap.get?_push_of_some _ h1'))) (Heap.get?_push_size _ rfl) rfl (by first | (simp; done) | (simp; omega) | (simp only [Array.size_append]; simp; omega)) ?_
  refine wpAny_bind (wpAny_isInstance (T := "StopIteration") (b := true) ⟨_, Heap.get?_update_self _ (Heap.get?_push_size _ rfl) rfl, rfl⟩ isSubtype_stop ?_)
  refine wpAny_pure (hQ _ fun b ob hb e => ?_)
  have e1 := (Heap.get?_update_other s.heap (Obj.mapFields (·.setIfInBounds 0 Value.none)) (Ne.symm hb)).trans e
  rw [Heap.get?_update_other _ _ (Nat.ne_of_gt (Heap.lt_size (Heap.get?_push_of_some _ e1)))]
  exact Heap.get?_push_of_some _ (Heap.get?_push_of_some _ e1)
theorem tuple_end_hot {it l x1 : Addr} {i : Nat} {items : Array Value} {Q : Option Value → Shared → Prop} (hot : HotAt A x1 s.heap)
    (hit : IsTupIter s.heap it l i) (hl : IsTup s.heap l items) (hx : items[i]? = none)
    (hQ : ∀ h', Heap.ExtBut it s.heap h' → Q none { s with heap := h' }) : wpAny (model prog w) A (pyNext (.ref it)) Q E s := by
  obtain ⟨o, ho, hc, hd⟩ := id hit
  obtain ⟨ol, hol, _, nl, hdl⟩ := hl
  obtain ⟨hh, o1, vs1, h1, d1, c1⟩ := hot
  have hne : it ≠ x1 := fun z => by
    subst z
    rw [ho] at h1
    cases h1
    rw [hd] at d1
    cases d1
    simp at c1
  unfold pyNext
  refine wpAny_bind (wpAny_attempt (wpAny_callSpecial?_slot (name := Str.ofString "__next__") hit.typeIs slot_tupleiter_next
    (wpAny_call_entry slot_tupleiter_next hit.typeIs entry_tupleiter_next ?_ (args_tupleiter_next _))))
  show wpAny _ _ (field (.ref it) 0 >>= _) _ _ s
  refine wpAny_bind (wpAny_field ho hd (x := .ref l) rfl ?_)
  show wpAny _ _ (if (Value.ref l == Value.none) = true then _ else _) _ _ s
  rw [if_neg (show ¬ ((Value.ref l == Value.none) = true) from Bool.false_ne_true)]
  show wpAny _ _ (field (.ref it) 1 >>= _) _ _ s
  refine wpAny_bind (wpAny_field ho hd (x := .int i 0) rfl ?_)
  show wpAny _ _ (seqItems? (.ref l) >>= _) _ _ s
  refine wpAny_bind (wpAny_seqItems hol hdl ?_)
  simp only [Int.toNat_natCast, hx]
  refine wpAny_bind (wpAny_rule (wpAny_bind (wpAny_setField ho hd (by simp) ?_)))
  show wpAny _ _ (newExc (.type "StopIteration") [] >>= _) _ _ _
  refine wpAny_bind ?_
  simp only [newExc, newTuple]
  refine wpAny_bind (wpAny_newObj_type ?_ (by size_fits))
  refine wpAny_bind (m := firstArgMember _ _) (wpAny_of_eq (a := Value.none) (by first | rfl | (simp only [firstArgMember]; rfl)) ?_)
  refine wpAny_newObj_type ?_ (by size_fits)
  have h1' := (Heap.get?_update_other s.heap (Obj.mapFields (·.setIfInBounds 0 Value.none)) hne).trans h1
  refine raiseNew_hot ⟨hh, o1, vs1, Heap.get?_push_of_some _ (Heap.get?_push_of_some _ h1'), d1, c1⟩ (Nat.ne_of_lt (Heap.lt_size (Heap.get?_push_of_some _ h1'))) (Heap.get?_push_size _ rfl) rfl (by first | (simp; done) | (simp; omega) | (simp only [Array.size_append]; simp; omega)) ?_
  refine wpAny_bind (wpAny_isInstance (T := "StopIteration") (b := true) ⟨_, Heap.get?_update_self _ (Heap.get?_push_size _ rfl) rfl, rfl⟩ isSubtype_stop ?_)
  refine wpAny_pure (hQ _ fun b ob hb e => ?_)
  have e1 := (Heap.get?_update_other s.heap (Obj.mapFields (·.setIfInBounds 0 Value.none)) (Ne.symm hb)).trans e
  rw [Heap.get?_update_other _ _ (Nat.ne_of_gt (Heap.lt_size (Heap.get?_push_of_some _ e1)))]
  exact Heap.get?_push_of_some _ (Heap.get?_push_of_some _ e1)

theorem unpackItems_hot {t x1 : Addr} {items : Array Value} {Q : List Value → Shared → Prop} (hot : HotAt A x1 s.heap) (ht : IsTup s.heap t items)
    (hQ : ∀ h', Heap.ExtBut s.heap.objs.size s.heap h' → Q items.toList { s with heap := h' }) : wpAny (model prog w) A (unpackItems (.ref t) items.size none) Q E s := by
  have hlt : t ≠ s.heap.objs.size := by obtain ⟨o, ho, _⟩ := ht; exact Nat.ne_of_lt (Heap.lt_size ho)
  unfold unpackItems
  refine wpAny_bind ?_
  · unfold notIterableAtAll
    refine wpAny_bind (wpAny_specialOf ht.typeIs slot_tuple_iter.lookup ?_)
    refine wpAny_pure ?_
    simp only [Bool.false_eq_true, if_false]
    refine wpAny_bind (wpAny_holding (iter_tuple ht ?_))
    refine wpAny_bind (wpAny_holding (draw_tuple hlt items.size 0 _ _ ⟨_, Heap.get?_push_size _ rfl, rfl, rfl⟩ (ht.push _) (by omega) fun h₁ hit₁ hs₁ => ?_))
    have hall : List.take items.size (List.drop 0 items.toList) = items.toList := by
      rw [List.drop_zero]; exact List.take_of_length_le (by simp)
    rw [hall]
    rw [if_neg (by simp)]
    have ht₁ : IsTup h₁ t items := (ht.push _).extBut hs₁.extBut hlt
    obtain ⟨hh, o1, vs1, h1, d1, c1⟩ := hot
    have hx1 : x1 ≠ s.heap.objs.size := Nat.ne_of_lt (Heap.lt_size h1)
    have hot₁ : HotAt A x1 h₁ := ⟨hh, o1, vs1, hs₁.extBut _ _ hx1 (Heap.get?_push_of_some _ h1), d1, c1⟩
    refine wpAny_bind (wpAny_holding (tuple_end_hot hot₁ hit₁ ht₁ (by simp) fun h₂ he₂ => ?_))
    simp only [Option.isSome_none, Bool.false_eq_true, if_false]
    refine wpAny_pure (hQ h₂ fun b o hb e => he₂ b o hb (hs₁.extBut b o hb (Heap.get?_push_of_some _ e)))
theorem assign_Tuple_hot {env : Env} {elts : List Expr} {k : Nat} {pos : Pos} {t x1 : Addr} {items : Array Value} {Q : Unit → Shared → Prop} (hot : HotAt A x1 s.heap) (ht : IsTup s.heap t items)
    (hn : (assignEach elts env).length = items.size) (hstar : (assignEach elts env).findIdx? (·.1) = none)
    (h : ∀ h', Heap.ExtBut s.heap.objs.size s.heap h' → wpAny (model prog w) A (assignInOrder ((assignEach elts env).map (·.2)) items.toList) Q E { s with heap := h' }) :
    wpAny (model prog w) A (assign (.Tuple elts k pos) env (.ref t)) Q E s := by
  rw [assign_Tuple]
  refine wpAny_bind (wpAny_standAt ?_)
  unfold unpack
  rw [hn, hstar]
  exact wpAny_bind (wpAny_holding (unpackItems_hot hot ht h))
end
section
open PySem PySem.Spec PyProof.Rows HotX L2 L2H
variable {X : Cx} {pos : Pos}
theorem pg_tupH {es : List Expr} {k : Nat} {t : TGs} {n : Nat} (hc : HotC X) (h : PGs X es t)
    (hn : (assignEach es X.env).length = n := by rfl) (hst : (assignEach es X.env).findIdx? (·.1) = none := by rfl) : PG X (.Tuple es k pos) (gTup X.K n t) := by
  refine ⟨fun pins s σ H v u Q I r hw => ?_⟩
  obtain ⟨a, xs, e1, hq, hl, hw⟩ := hw
  subst e1
  cases r
  obtain ⟨its, rv, ht, hz⟩ := I.tuple hq
  obtain ⟨x1, hot⟩ := hc.at I
  refine assign_Tuple_hot hot ht (by simp [hn, ← hl, rv.length]) hst fun h' hx => ?_
  have I1 : Inv X pins σ H { s with heap := h' } := I.kept (t' := s.toks) fun b o e => hx b o (Nat.ne_of_lt (Heap.lt_size e)) e
  exact h.run pins _ σ H xs _ Q I1 (by simpa using rv) hw
theorem turn_listH {P : Program} {w : World} {K : PySem.W.Frag} {tg : Expr} (a it : Addr) : TurnH P w K tg (Itl K a) [it] it (fun i h => h.IsListIter it a i) where
  mem := by simp
  obj := fun i h st b hb => by
    have e : b = it := by simpa using hb
    subst e
    obtain ⟨o, e, c, d⟩ := st
    exact ⟨o, e, fun v z => by rw [d] at z; cases z⟩
  keep := fun i h h' st k => st.at fun o e => k it (by simp) o e
  item := by
    intro X hP hw hK hc i pins s σ H E I hf st hg
    subst hP hw hK
    obtain ⟨xs, x, hq, hx⟩ := hg
    obtain ⟨its, rv, p, hz⟩ := I.list hq
    obtain ⟨u, hu, ru⟩ := rv.get hx
    obtain ⟨f0, f1, f2, f3, f4, f5⟩ := hf it (by simp)
    refine wpAny_pyNext_list_item st p.isList (x := u) (by simpa using hu) fun h' st' sb => ?_
    have I1 : Inv X pins σ H { s with heap := h' } := I.turned (t' := s.toks) (fun b o hb e => (sb.2 b hb).trans e) f0 f1 f3 f4 f5
    obtain ⟨o, e, c, d⟩ := id st'
    exact ⟨u, rfl, go_of (s := { s with heap := h' }) e c d (by decide) ⟨x, H, I1, ru, ⟨rfl, fun ys hy => by rw [I.list_inj hy hq]; exact hx⟩, st', fun b hb => (hf b hb).1⟩⟩
  done := by
    intro X hP hw hK hc i pins s σ H E I hf st hg
    subst hP hw hK
    obtain ⟨xs, hq, hx⟩ := hg
    obtain ⟨its, rv, p, hz⟩ := I.list hq
    obtain ⟨f0, f1, f2, f3, f4, f5⟩ := hf it (by simp)
    have hl := rv.length
    obtain ⟨x1, hot⟩ := hc.at I
    exact list_end_hot hot st p.isList (by simp; omega) fun h' eb => ⟨rfl, I.turned (t' := s.toks) (fun b o hb e => eb b o hb e) f0 f1 f3 f4 f5⟩
  self := fun _ _ _ _ _ st h => wpAny_pyIter_listiter st h
theorem pi_listH {tg l : Expr} {tl : TE} (hl : PE X l tl) : PIH X tg l (iList X.K tl) := by
  refine ⟨fun pins s σ H R I h => ?_⟩
  refine thn (hl.run pins s σ H _ I h) fun v s1 ⟨x, H1, I1, r1, q1⟩ => ?_
  obtain ⟨a, e, ⟨xs, hq⟩, q⟩ := q1
  subst e
  cases r1
  obtain ⟨its, rv, p, hz⟩ := I1.list hq
  refine wpAny_pyIter_list p.isList ?_
  refine ⟨s1.heap.objs.size, [s1.heap.objs.size], _, _, H1, rfl, I1.kept (t' := s1.toks) fun b o e => Heap.get?_push_of_some _ e, turn_listH a _, ⟨_, Heap.get?_push_size _ rfl, rfl, rfl⟩, fun b hb => ?_, q⟩
  have e : b = s1.heap.objs.size := by simpa using hb
  subst e
  exact I1.fpOk (Nat.le_refl _) (I1.hok.fresh (Nat.le_refl _))
/-! ### a comprehension's block there: the handled exception stays pinned -/
abbrev blkP (X : Cx) (s : Shared) (H : Hp) (scope : Scope) (cenv : Env) (fp : List Addr) (p : Addr × Obj) : Cx := { X.blk s H scope cenv fp with pn := [p] }
theorem inv_blkP {s0 s : Shared} {H0 H : Hp} {scope : Scope} {ce : Env} {fp : List Addr} {p : Addr × Obj} {σ : L2.St} (I : Inv (X.blk s0 H0 scope ce fp) [] σ H s) (hg : s.heap.get? p.1 = some p.2) (hn : H p.1 = none) (hL : p.1 ≠ ce.locals) (hF : p.1 ∉ frs X.stack) (hC : ∀ v, p.2.data ≠ .cell v) :
    Inv (blkP X s0 H0 scope ce fp p) [] σ H s := by
  obtain ⟨⟨a1, a2, a3, a4, a5, a6, a7, a8, a9, a10, a11, a12, a13, a14, a15, a16, a17, a18⟩, b2, b3, b4, b5, b6, b7, b8, b9, b10, b11⟩ := I
  exact ⟨⟨a1, a2, a3, a4, a5, a6, a7, a8, a9, a10, a11, a12, a13, a14, a15, a16, a17, a18⟩, b2, b3, b4, b5, b6, b7, b8, fun q hq => by
    have e : q = p := by simpa using (show q ∈ [p] ++ ([] : List (Addr × Obj)) from hq)
    rw [e]
    exact ⟨hg, hn, hL, hF, hC⟩, b10, b11⟩
end
end Sb

namespace Sb
open PySem PySem.Spec PyProof.Rows L2 L2H
section
variable {X : Cx}
theorem lc_coreH {p : Addr × Obj} {pins : List (Addr × Obj)} {s : Shared} {σ : L2.St} {H : Hp} {Q : VK} {elt tg iter : Expr} {ifs : List Expr} {scope : Scope} {own : List (Str × Nat)} {pos pos' : Pos} {wi : TI} {g : TG} {tt : TT} {te : TE} {use : Option (Value → Sem Unit)} {Qf : Value → Shared → Prop}
    (hot : Hot1 X.A p) (hp : p ∈ X.pn) (hN : X.N.Nodup) (I : Inv X pins σ H s) (hi : PIH X tg iter wi) (ok : BlkOk X.N X.env.scope scope own)
    (hg : ∀ (s : Shared) (H : Hp) (C : Addr) (cl : List (Str × Addr)) (fp : List Addr), PG (blkP X s H scope (compEnvC scope cl C X.env) fp p) tg g) (ht : ∀ (s : Shared) (H : Hp) (C : Addr) (cl : List (Str × Addr)) (fp : List Addr), PTs (blkP X s H scope (compEnvC scope cl C X.env) fp p) ifs tt)
    (he : ∀ (s : Shared) (H : Hp) (C : Addr) (cl : List (Str × Addr)) (fp : List Addr), PE (blkP X s H scope (compEnvC scope cl C X.env) fp p) elt te) (hs : ∀ x, foldedSetIterable iter X.env x = pure x)
    (h : tLc wi g tt te (own.map (·.2)) σ H Q)
    (hRR : ∀ D C s' m H', Inv X pins σ H' s' → Q (.ref D) H' → s'.heap.Ns C m → FpOk X pins H' C → compPost (model X.prog X.w) X.A X.xe use Qf (.ref D) C (.ok .next) s') :
    wpAny (model X.prog X.w) X.A (comprehension (.ListComp elt [⟨tg, iter, ifs, 0⟩] scope pos) scope X.env pos' (newList []) false (eval iter X.env) use) Qf X.xe s := by
  have hfree : ∀ y ∈ scope.names, y.2 = .free → ∃ c, X.env.cells.lookup y.1 = some c := fun y hy e => by
    rcases ok.free y hy e with k | k
    · exact I.ok.has _ (.inl k)
    · exact I.ok.has _ (.inr k)
  refine wpAny_comprehension_free (use := use) rfl hs (closure_ok hfree) ok.kind (fun y hy e => by rw [ok.uniq y hy, e])
    (thn (hi.run pins s σ H _ I h) fun xv s1 hx => thn hx fun itv s2 h2 => ?_)
  obtain ⟨it, fp, tn, J, H2, e, I2, T, st2, f2, q⟩ := h2
  subst e
  refine wpAny_newObj_type (newEnv_comp ?_) (by show 0 ≤ sizeLine; decide)
  generalize hD : s2.heap.objs.size = D
  have hDn : H2 D = none := I2.hok.fresh (Nat.le_of_eq hD)
  obtain ⟨W, ⟨m0, w0⟩, turn⟩ := q D hDn
  -- the new list
  generalize hs3 : ({ s2 with heap := s2.heap.push { cls := .type "list", data := .seq ([] : List Value).toArray } } : Shared) = s3
  have I3 : Inv X pins σ (upd H2 D (.lst [])) s3 := by
    rw [← hs3]
    refine I2.laid (t' := s2.toks) (fun b o e => Heap.get?_push_of_some _ e) (Nat.le_of_eq hD) ⟨Nat.zero_le _, [], 0, .nil, ?_⟩
    rw [← hD]
    exact Heap.get?_push_size _ rfl
  have h3 : s3.heap = s2.heap.push { cls := .type "list", data := .seq ([] : List Value).toArray } := by rw [← hs3]
  have sz : ∀ b ∈ fp, b < s2.heap.objs.size := fun b hb => by
    obtain ⟨o, e, _⟩ := T.obj _ _ st2 b hb
    exact Heap.lt_size e
  have f3 : ∀ b ∈ fp, FpOk X pins (upd H2 D (.lst [])) b ∧ b < s3.heap.objs.size := fun b hb => by
    have hlt := sz b hb
    refine ⟨⟨?_, (f2 b hb).2⟩, by rw [h3, Heap.size_push]; exact Nat.lt_succ_of_lt hlt⟩
    rw [upd_ne (by rw [← hD]; exact Nat.ne_of_lt hlt)]
    exact (f2 b hb).1
  have st3 : tn 0 s3.heap := T.keep _ _ _ st2 fun b _ o e => by rw [h3]; exact Heap.get?_push_of_some _ e
  have I4a := block_start I3 ok hN f3
  have P3 := I3.pin p (List.mem_append_left _ hp)
  have I4 := inv_blkP (p := p) I4a (pushCells_keeps _ _ _ _ (Heap.get?_push_of_some _ P3.1)) P3.2.1 (Nat.ne_of_lt (Heap.lt_size P3.1)) (fun hm => (List.mem_cons.mp (I3.stkSub p.1 hm)).elim P3.2.2.1 P3.2.2.2.1) P3.2.2.2.2
  clear I4a
  have pg := hg s3 (upd H2 D (.lst [])) s3.heap.objs.size (cellsFrom (s3.heap.objs.size + 1) scope.names (cloFrom X.env.cells scope.names [])) fp
  have pt := ht s3 (upd H2 D (.lst [])) s3.heap.objs.size (cellsFrom (s3.heap.objs.size + 1) scope.names (cloFrom X.env.cells scope.names [])) fp
  have pe := he s3 (upd H2 D (.lst [])) s3.heap.objs.size (cellsFrom (s3.heap.objs.size + 1) scope.names (cloFrom X.env.cells scope.names [])) fp
  show codeAny _ _ (.compStart (.ListComp elt [⟨tg, iter, ifs, 0⟩] scope pos) 0 (.ref it) (.ref D) (compEnvC scope (cellsFrom (s3.heap.objs.size + 1) scope.names (cloFrom X.env.cells scope.names [])) s3.heap.objs.size X.env)) (compPost (model X.prog X.w) X.A X.xe use Qf (.ref D) s3.heap.objs.size) { s3 with heap := pushCells (s3.heap.push { cls := .type "dict", data := .dict #[] }) scope.names }
  have nfp : ∀ b ∈ fp, (upd H2 D (.lst [])) b = none := fun b hb => (f3 b hb).1.1
  generalize hce : compEnvC scope (cellsFrom (s3.heap.objs.size + 1) scope.names (cloFrom X.env.cells scope.names [])) s3.heap.objs.size X.env = ce at I4 pg pt pe ⊢
  have cL : ce.locals = s3.heap.objs.size := by subst hce; rfl
  generalize hH3 : upd H2 D (.lst []) = H3 at I3 I4 pg pt pe w0 nfp f3
  generalize hs4 : ({ s3 with heap := pushCells (s3.heap.push { cls := .type "dict", data := .dict #[] }) scope.names } : Shared) = s4 at I4 ⊢
  have st4 : tn 0 s4.heap := T.keep _ _ _ st3 fun b _ o e => by rw [← hs4]; exact pushCells_keeps _ _ _ _ (Heap.get?_push_of_some _ e)
  have stat : ∀ {σ' : L2.St} {H' : Hp} {s' : Shared}, Inv (blkP X s3 H3 scope ce fp p) [] σ' H' s' → (∀ b ∈ fp, H' b = none) → ∀ b ∈ fp, FpOk (blkP X s3 H3 scope ce fp p) [] H' b := fun {σ' H' s'} I' hn b hb =>
    ⟨hn b hb, (I'.ok.exf b hb).1, I'.ok.exfs b hb, .inl hb, fun x c e => (I'.ok.exf b hb).2 x c e, fun q hq => by
      have e : q = p := by simpa using (show q ∈ [p] ++ ([] : List (Addr × Obj)) from hq)
      rw [e]
      exact (f3 b hb).1.2.2.2.2.2 p (List.mem_append_left _ hp)⟩
  have hcB : HotC (blkP X s3 H3 scope ce fp p) := ⟨p, hot, List.mem_cons_self⟩
  have loop : codeAny (model X.prog X.w) X.A (.compLoop (.ListComp elt [⟨tg, iter, ifs, 0⟩] scope pos) 0 (.ref it) (.ref D) ce) (compPost (model X.prog X.w) X.A X.xe use Qf (.ref D) s3.heap.objs.size) s4 := by
    refine compLoop_any (fun n s' => ∃ i H', Inv (blkP X s3 H3 scope ce fp p) [] (wipe σ (own.map (·.2))) H' s' ∧ tn i s'.heap ∧ (∀ b ∈ fp, H' b = none) ∧ W i n H') ?_ m0 ⟨0, H3, I4, st4, nfp, w0⟩
    rintro n s5 ⟨i, H5, I5, st5, n5, w5⟩
    rcases turn i n H5 w5 with ⟨stop, qq⟩ | ⟨go, Nx, hNx, step⟩
    · have td := T.done (blkP X s3 H3 scope ce fp p) rfl rfl rfl hcB i [] s5 _ H5 (fun _ _ => False) I5 (stat I5 n5) st5 stop
      refine thnF td fun r s6 ⟨hr, I6⟩ => ?_
      subst hr
      -- back in the def's context
      have I7 : Inv X pins σ H5 s6 := I3.call' (ch := fp) I6.os I6.base I6.hok I6.bare fun b hb => ⟨(f3 b hb).1.2.2.2.1, (f3 b hb).1.2.1, (f3 b hb).1.2.2.2.2.1, (f3 b hb).1.2.2.2.2.2⟩
      have nC : H5 s3.heap.objs.size = none := by
        have z : H5 ce.locals = none := I6.free
        rw [cL] at z
        exact z
      obtain ⟨m, hn, _⟩ := I6.loc
      have hn : s6.heap.Ns ce.locals m := hn
      rw [cL] at hn
      exact hRR D s3.heap.objs.size s6 m H5 I7 qq hn (I3.fpOk (Nat.le_refl _) nC)
    · have ti := T.item (blkP X s3 H3 scope ce fp p) rfl rfl rfl hcB i [] s5 _ H5 (fun _ _ => False) I5 (stat I5 n5) st5 go
      refine thnF ti fun r s6 ⟨u, hr, h6⟩ => ?_
      subst hr
      refine thnF h6 fun _ s7 ⟨x, H7, I7, r7, y7, st7, n7⟩ => ?_
      have I7' := I7.pinned (stat I7 n7) (T.obj _ _ st7)
      refine thnF (pg.run _ s7 _ H7 x u _ I7' r7 (step x H7 y7)) fun _ s8 ⟨σ8, H8, I8, hw8, q8⟩ => ?_
      refine thnF (pt.run _ s8 σ8 H8 _ I8 q8) fun b s9 ⟨H9, I9, q9⟩ => ?_
      -- the turn's end
      have fin : ∀ {s' : Shared} {H' : Hp}, Inv (blkP X s3 H3 scope ce fp p) ([] ++ pinsAt fp s7.heap) σ8 H' s' → Nx H' → ∃ m, m < n ∧ ∃ i H', Inv (blkP X s3 H3 scope ce fp p) [] (wipe σ (own.map (·.2))) H' s' ∧ tn i s'.heap ∧ (∀ b ∈ fp, H' b = none) ∧ W i m H' := fun {s' H'} I' nx => by
        obtain ⟨m', hm, w'⟩ := hNx H' nx
        have pin' : ∀ b ∈ fp, ∀ o, s7.heap.get? b = some o → s'.heap.get? b = some o ∧ H' b = none := fun b hb o e =>
          let z := I'.pin (b, o) (List.mem_append_right _ (List.mem_append_right _ (mem_pinsAt hb e)))
          ⟨z.1, z.2.1⟩
        have hl : (wipe σ (own.map (·.2))).length = σ8.length := by rw [← hw8, wipe_length]
        refine ⟨m', hm, i + 1, H', (I'.unpinned (pins := [])).weak hl (fun j v e => ?_), T.keep _ _ _ st7 fun b hb o e => (pin' b hb o e).1, fun b hb => ?_, w'⟩
        · rw [← hw8] at e
          exact (wipe_some e).1
        · obtain ⟨o, e, _⟩ := T.obj _ _ st7 b hb
          exact (pin' b hb o e).2
      cases b with
      | false =>
        simp only [Bool.false_eq_true, if_false] at q9 ⊢
        exact fin I9 q9
      | true =>
        simp only [if_true] at q9 ⊢
        refine thnF (pe.run _ s9 σ8 H9 _ I9 q9) fun z s10 ⟨yv, H10, I10, r10, acc, hD10, hz10, nx⟩ => ?_
        exact app_ok (X := blkP X s3 H3 scope ce fp p) I10 hD10 hz10 r10 fun s11 I11 => fin I11 nx
  exact codeAny_compStart_list loop (T.self X.A 0 _ _ _ st4 loop)
theorem pe_lcH {p : Addr × Obj} {elt tg iter : Expr} {ifs : List Expr} {scope : Scope} {own : List (Str × Nat)} {pos : Pos} {wi : TI} {g : TG} {tt : TT} {te : TE} (hot : Hot1 X.A p) (hp : p ∈ X.pn) (hN : X.N.Nodup) (hi : PIH X tg iter wi) (ok : BlkOk X.N X.env.scope scope own)
    (hg : ∀ (s : Shared) (H : Hp) (C : Addr) (cl : List (Str × Addr)) (fp : List Addr), PG (blkP X s H scope (compEnvC scope cl C X.env) fp p) tg g) (ht : ∀ (s : Shared) (H : Hp) (C : Addr) (cl : List (Str × Addr)) (fp : List Addr), PTs (blkP X s H scope (compEnvC scope cl C X.env) fp p) ifs tt)
    (he : ∀ (s : Shared) (H : Hp) (C : Addr) (cl : List (Str × Addr)) (fp : List Addr), PE (blkP X s H scope (compEnvC scope cl C X.env) fp p) elt te) (hs : ∀ x, foldedSetIterable iter X.env x = pure x := by intro _; rfl) :
    PE X (.ListComp elt [⟨tg, iter, ifs, 0⟩] scope pos) (tLc wi g tt te (own.map (·.2))) := by
  refine ⟨fun pins s σ H Q I h => ?_⟩
  rw [eval_ListComp]
  refine lc_coreH hot hp hN I hi ok hg ht he hs h fun D C s' m H' I' q hn f => ⟨m, hn, fun h'' sb => ?_⟩
  obtain ⟨f0, f1, f2, f3, f4, f5⟩ := f
  exact ⟨.ref D, H', I'.turned (t' := s'.toks) (fun b o hb e => (sb.2 b hb).trans e) f0 f1 f3 f4 f5, rfl, q⟩
theorem ps_setLcH {p : Addr × Obj} {i : Nat} {y : Str} {py : Pos} {elt tg iter : Expr} {ifs : List Expr} {scope : Scope} {own : List (Str × Nat)} {pos spos : Pos} {wi : TI} {g : TG} {tt : TT} {te : TE} (hot : Hot1 X.A p) (hp : p ∈ X.pn) (hN : X.N.Nodup) (hy : X.N[i]? = some y) (hyl : X.env.scope.names.lookup y = some .local)
    (hsw : swapsWith (.ListComp elt [⟨tg, iter, ifs, 0⟩] scope pos) (some (.Name y py)) spos.line X.env = pure true) (hi : PIH X tg iter wi) (ok : BlkOk X.N X.env.scope scope own)
    (hg : ∀ (s : Shared) (H : Hp) (C : Addr) (cl : List (Str × Addr)) (fp : List Addr), PG (blkP X s H scope (compEnvC scope cl C X.env) fp p) tg g) (ht : ∀ (s : Shared) (H : Hp) (C : Addr) (cl : List (Str × Addr)) (fp : List Addr), PTs (blkP X s H scope (compEnvC scope cl C X.env) fp p) ifs tt)
    (he : ∀ (s : Shared) (H : Hp) (C : Addr) (cl : List (Str × Addr)) (fp : List Addr), PE (blkP X s H scope (compEnvC scope cl C X.env) fp p) elt te) (hs : ∀ x, foldedSetIterable iter X.env x = pure x := by intro _; rfl) :
    PS X (.Assign [.Name y py] (.ListComp elt [⟨tg, iter, ifs, 0⟩] scope pos) spos) (tAsg (tLc wi g tt te (own.map (·.2))) (gName i)) := by
  refine ⟨fun pins s σ H D I h => ?_⟩
  rw [exec_Assign_Name_used _ _ _ _ hsw]
  refine wpAny_bind (wpAny_standAt (wpAny_bind ?_))
  show wpAny _ X.A (do let _ ← comprehension (.ListComp elt [⟨tg, iter, ifs, 0⟩] scope pos) scope X.env (firstIterPos [⟨tg, iter, ifs, 0⟩] pos) (newList []) false (eval iter X.env) (some (assign (.Name y py) X.env))) _ _ s
  have h : tLc wi g tt te (own.map (·.2)) σ H (fun x H1 => gName i x σ H1 D.nx) := h
  refine wpAny_bind (thn (lc_coreH (Qf := fun _ s' => SP X pins D .next s') hot hp hN I hi ok hg ht he hs h fun L C s' m H' I' q hn f => ?_) fun _ s' hq => wpAny_pure (wpAny_pure hq))
  show wpAny _ _ (assign (.Name y py) X.env (.ref L)) _ _ _
  refine wpAny_assign_Name (store_ok2 (v := V.ref L) I' hN hy (.inl hyl) rfl (fun s2 I2 ⟨a, sb, ha⟩ => ?_) (.inr hyl))
  obtain ⟨f0, f1, f2, f3, f4, f5⟩ := f
  have haC : C ≠ a := by
    rcases ha with z | z
    · rw [z]; exact f1
    · exact fun e => f4 y a z e.symm
  refine ⟨m, hn.sameBut sb haC, fun h3 sb3 => ?_⟩
  exact ⟨_, H', I2.turned (t' := s2.toks) (fun b o hb e => (sb3.2 b hb).trans e) f0 f1 f3 f4 f5, q⟩
end
end Sb

namespace Sb
open PySem PySem.Spec PyProof.Rows L2 L2H
/-! ### a def that is handed the exception which is handled -/
abbrev SpE := Addr → Value → Option Addr → Sp
/-- p is the exception that is handled: of this class, with this dict -/
def HotE (A : Around) (p : Addr × Obj) (cls : Value) (d : Option Addr) : Prop := Hot1 A p ∧ L2N.Zn cls d p.2
structure FnE (P : Program) (w : World) (K : PySem.W.Frag) (mg : Str → Option Value) (base : Heap) (k : Nat) (f : Addr) (fd : FuncData) (ps : List Str) (sp : SpE) : Prop where
  len : ∀ a cls d vs H Q E, sp a cls d vs H Q E → vs.length = ps.length
  run : ∀ (A : Around) (outer : List Env) (s : Shared) (H : Hp) (args : Args) (us : List Value) (vs : List V) (Q : VK) (E : XK) (p : Addr × Obj) (cls : Value) (d : Option Addr), RoomH k A → HotE A p cls d → PinOk outer H s p → Env0 P w K mg base A outer s H → BindsTo s fd args (ps.zip us) → Vals vs us →
    sp p.1 cls d vs H Q E → codeAny (model P w) A (.call (.ref f) args) (CR CX0 outer P w H s Q E) s
/-- such a def of the module -/
def FdE (P : Program) (w : World) (K : PySem.W.Frag) (mg : Str → Option Value) (base : Heap) (k : Nat) (x : Str) (sp : SpE) : Prop :=
  ∃ (f : Addr) (fd : FuncData) (ps : List Str), mg x = some (.ref f) ∧ PySem.W.keepIn K (.ref f) = true ∧ Binds K fd ps [] ∧ FnE P w K mg base k f fd ps sp
section
variable {P : Program} {w : World} {K : PySem.W.Frag} {mg : Str → Option Value} {base : Heap} {x qual : Str} {params : Arguments} {body : List Stmt} {scope : Scope} {dvs : List V} {kws : List (Str × V)} {f : Addr} {fd : FuncData}
theorem fnE_of {N ps : List Str} {k : Nat} {sp : SpE} (F : FunD K x qual params body scope dvs kws f fd) (S : FnScope N ps scope) (len : ∀ a cls d vs H Q E, sp a cls d vs H Q E → vs.length = ps.length)
    (hbody : ∀ (cdv : Value) (A : Around) (outer : List Env) (s : Shared) (H : Hp) (vs : List V) (Q : VK) (E : XK) (p : Addr × Obj) (cls : Value) (d : Option Addr), HotE A p cls d → sp p.1 cls d vs H Q E →
      ∃ t, PSs (cxH CX0 P w K mg base N qual scope f cdv A outer s H E p) body t ∧ t { nx := fun _ H' => Q .non H', rt := Q } (start N vs) H) : FnE P w K mg base (k + 1) f fd ps sp := by
  obtain ⟨oc, od, dV, kV, doc, pm, an, cdv, ct, osl, rfl, lk, hcd, _, _⟩ := F.ex
  refine { len := len, run := fun A outer s H args us vs Q E p cls d hr hot hpin e0 hb r hsp => ?_ }
  have hlen := len _ _ _ vs H Q E hsp
  have old : ∀ b o, base.get? b = some o → s.heap.get? b = some o := fun b o e => (e0.bs b o e).1
  have kin := e0.mod.kin.keeps old
  have kinds : ∀ y ∈ ps.zip us, scope.names.lookup y.1 = some .local ∨ (scope.names.lookup y.1 = some .cell ∧ ((cellsFrom (s.heap.objs.size + 1) scope.names []).lookup y.1).isSome = true) := by
    rintro ⟨n, v⟩ hy
    exact (S.par n (List.of_mem_zip hy).1).imp id fun q => ⟨q, PySem.W.cellsFrom_some _ _ _ (.inl q)⟩
  apply codeAny_call_function hr.depth (kin _ _ lk) rfl S.co S.gen rfl (PySem.W.codeRec_of kin hcd)
  apply hb
  apply wpAny_newFunctionEnv_cells S.kind kinds
  intro env he s1 ic
  subst he
  obtain ⟨t, ht, hq⟩ := hbody cdv A outer s H vs Q E p cls d hot hsp
  have inv := inv_startH (CX := CX0) (E := E) S hpin e0 hlen r ic
  refine ⟨(e0.mod.nolimit.keeps old).keeps ic.toInCall.keep, codeAny_func (wpAny_mono (ht.run [] s1 (start N vs) H _ inv hq) ?_ fun _ _ z => z)⟩
  rintro (_ | _ | _ | u) s' hs
  · obtain ⟨σ', H', J, q⟩ := hs
    exact ⟨V.non, H', J.os, J.bare, J.base, J.hok, rfl, q⟩
  · obtain ⟨_, _, _, q⟩ := hs
    exact q.elim
  · obtain ⟨_, _, _, q⟩ := hs
    exact q.elim
  · obtain ⟨v, σ', H', J, rv, q⟩ := hs
    exact ⟨v, H', J.os, J.bare, J.base, J.hok, rv, q⟩
end
section
variable {X : Cx} {k : Nat} {x : Str} {sp : SpE} {p pos : Pos} {e : Expr} {es : List Expr} {t : TA}
def tCallE (sp : SpE) (a : Addr) (cls : Value) (d : Option Addr) (t : TA) : TE := fun σ H Q => t σ H fun vs H1 => sp a cls d vs H1 Q fun _ _ _ => False
theorem hotE_suite {a : Addr} {oe : Obj} {cls : Value} {d : Option Addr} {pn : List (Addr × Obj)} (hz : L2N.Zn cls d oe) (hf : ∃ vs, oe.data = .fields vs) : HotE (X.suite a pn).A (a, oe) cls d := by
  obtain ⟨vs, hv⟩ := hf
  exact ⟨⟨rfl, vs, hv, hz.2.2 vs hv⟩, hz⟩
theorem pe_fdE {a : Addr} {oe : Obj} {cls : Value} {d : Option Addr} (F : FdE X.prog X.w X.K X.mg X.base k x sp) (hr : RoomH k X.A) (hot : HotE X.A (a, oe) cls d) (hp : (a, oe) ∈ X.pn) (ha : PA X (e :: es) t) (hgl : Gl X x := by rfl)
    (hdb : (x == ("__debug__" : Str)) = false := by decide) (he : starEach (e :: es) X.env = (false, eval e X.env) :: starEach es X.env := by rfl) (hpl : (backTo pos (starEach es X.env)).any (·.1) = false := by rfl) :
    PE X (.Call (.Name x p) (e :: es) [] pos) (tCallE sp a cls d t) := by
  obtain ⟨f, fd, ps, hm, hk, hb, F⟩ := F
  constructor
  intro pins s σ H Q I h
  apply wpAny_Call_Name_kw
  refine ld_glob I hgl hm ?_ hdb
  refine PySem.W.callWith_K (h₀ := X.base) I.ok.mod.kin hk (thn (ha.run pos pins s σ H _ I h) ?_) he hpl
  rintro us s1 ⟨vs, H1, I1, r, q⟩
  refine ⟨I1.kIn, ?_⟩
  have q' : sp a cls d vs H1 Q (fun _ _ _ => False) := q
  have l' : us.length = ps.length := r.length.symm.trans (F.len _ _ _ _ _ _ _ q')
  have b := hb s1 us I1.kIn (by rw [List.append_nil]; exact l')
  rw [List.append_nil] at b
  have P1 := I1.pin (a, oe) (List.mem_append_left _ hp)
  have hpin : PinOk X.stack H1 s1 (a, oe) := ⟨P1.1, P1.2.1, fun hm => (List.mem_cons.mp (I1.stkSub a hm)).elim P1.2.2.1 P1.2.2.2.1, P1.2.2.2.2⟩
  apply wpAny_call
  refine codeAny_mono (F.run X.A X.stack s1 H1 ⟨us, []⟩ us vs Q _ (a, oe) cls d hr hot hpin I1.env0 b r q') ?_
  rintro (e | (_ | _ | _ | u)) s' hq
  · exact (hq : False).elim
  · exact hq.elim
  · exact hq.elim
  · exact hq.elim
  · exact I1.after hq
end
/-! ### what such a def asks of the exception -/
section
variable {X : Cx} {a D : Addr} {oe : Obj} {d : Option Addr}
theorem class_of {prog : Program} {w : World} {A : Around} {E : Value → Shared → Prop} {s : Shared} {K : PySem.W.Frag} {x D : Addr} {ox : Obj} {od : Option Obj} {Q : Option Value → Shared → Prop} (C : ExcC K D) (X : K.In s.heap) (I : PySem.W.InstAt s.heap x ox D od) (h : Q (some (.ref D)) { s with toks := s.toks + 1 }) :
    wpAny (model prog w) A (getAttr? (.ref x) "__class__") Q E s := by
  have hcl : (PySem.W.clsIn K D).isSome = true := by obtain ⟨cd, hc, _⟩ := PySem.W.any_some C.hd; rw [hc]; rfl
  have hf : PySem.W.findObj K D od "__class__" = some (.bind (.builtin "getset_descriptor.__get__") (.builtin "object.__class__")) := by
    cases od with
    | none => exact PySem.W.findObj_dataN hcl C.ha C.hn C.ht
    | some o => exact PySem.W.findObj_data hcl C.ha C.hn C.ht
  obtain ⟨hp, g, d, t, os⟩ := s
  have L0 := I.type (M := model prog w)
  have L1 := PySem.W.looks_findIn (M := model prog w) X C.hg
  have L2 := PySem.W.looks_findIn (M := model prog w) X C.hk
  have L3 := PySem.W.looks_find (M := model prog w) X I hf
  have sub : PySem.W.Looks (model prog w) hp (isInstance (.ref x) (.type "BaseException")) true := L0.andThen (PySem.W.looks_subIn X C.hs)
  have hx0 : (false && onTheHeap (Value.builtin "BaseException.__getattribute__")) = false := rfl
  have hx2 : (Value.builtin "BaseException.__getattribute__" == Value.builtin "object.__getattribute__") = false := by decide +kernel
  have hx1 : (onTheHeap (Value.ref D) && Value.builtin "BaseException.__getattribute__" == Value.builtin "object.__getattribute__") = false := by rw [hx2]; rfl
  unfold getAttr? getAttrBy? getAttrBy
  refine wpAny_bind (wpAny_mkText (wpAny_bind (wpAny_attempt (wpAny_holding (wpAny_bind (L0.at (wpAny_bind (L1.at ?_))))))))
  show wpAny _ _ (if (onTheHeap (Value.ref D) && Value.builtin "BaseException.__getattribute__" == Value.builtin "object.__getattribute__") = true then _ else _) _ _ _
  rw [hx1, if_neg Bool.false_ne_true]
  unfold getAttrByItsOwn hookBefore
  refine wpAny_bind ?_
  rw [if_pos (show onTheHeap (Value.ref D) = true from rfl)]
  refine L2.at ?_
  refine wpAny_bind (wpAny_attempt (wpAny_holding ?_))
  unfold callGetattribute
  rw [hx0, if_neg Bool.false_ne_true]
  unfold boundAndCalled
  rw [PySem.F.excAttr_ValueError.ga.bind (.ref x)]
  refine wpAny_bind (wpAny_pure ?_)
  show wpAny _ _ (call (.builtin "BaseException.__getattribute__") [.ref x, .str "__class__" t]) _ _ _
  refine wpAny_call (codeAny_call_builtin PySem.F.excAttr_ValueError.ga.plain PySem.F.entry_bexc_ga ?_)
  refine @PySem.W.check_slot (model prog w) _ _ ⟨hp, g, d, t + 1, os⟩ "BaseException.__getattribute__" "BaseException" "__getattribute__" (.ref x) [.str "__class__" t] [] _ (by decide +kernel) (by decide +kernel) sub (PySem.F.args_bexc_ga (.ref x) (.str "__class__" t)) ?_
  unfold Builtin.«object.__getattribute__»
  refine wpAny_bind (wpAny_of_eq (a := ((Value.ref x : Value), [Value.str "__class__" t])) (by first | rfl | (simp only [slotArgs]; rfl)) ?_)
  refine wpAny_bind (wpAny_pure (wpAny_bind (L0.at (wpAny_bind (L3.at ?_)))))
  show wpAny _ _ (holding [Value.builtin "object.__class__"] (call (.builtin "getset_descriptor.__get__") [.builtin "object.__class__", .ref x, .ref D]) >>= ret) _ _ _
  refine wpAny_bind (wpAny_holding (wpAny_call (PySem.W.class_get (s := ⟨hp, g, d, t + 1, os⟩) (ox := ox) (od := od) X I C.hm ?_)))
  refine wpAny_pure ?_
  show wpAny _ _ (handedOut (.ref D)) _ _ _
  rw [PySem.W.handedOut_of (v := .ref D) rfl]
  first
    | exact wpAny_pure (wpAny_pure h)
    | exact wpAny_pure h
    | exact wpAny_pure (wpAny_bind (wpAny_pure (wpAny_pure h)))
theorem kitx_exc {K : PySem.W.Frag} {x D : Addr} {ox : Obj} (C : ExcC K D) : PySem.W.KitX K (.ref x) (.ref D) (fun h => ∃ od, PySem.W.InstAt h x ox D od) where
  ty := fun _ _ _ ⟨_, I⟩ => I.type
  it := fun _ _ X _ => by
    obtain ⟨cdD, hcD, _⟩ := PySem.W.any_some C.hd
    unfold PySem.W.clsIn at hcD
    split at hcD
    · rename_i c' d' cd' sl' ho
      intro A' Q' E' s' k q
      unfold isType loadHead
      exact wpAny_bind (wpAny_loadPart (k _ _ (X _ _ ho)) (wpAny_pure q))
    · cases hcD
  ne := fun h tp dd its n sl X htp => by
    obtain ⟨cdD, hcD, _⟩ := PySem.W.any_some C.hd
    refine Bool.eq_false_iff.mpr fun q => ?_
    have e : D = tp := Value.ref.inj (beq_iff_eq.mp q)
    subst e
    unfold PySem.W.clsIn at hcD
    split at hcD
    · rename_i c' d' cd' sl' ho
      have z := (X _ _ ho).symm.trans htp
      cases z
    · cases hcD
  ca := fun X ⟨_, I⟩ k => class_of C X I k
/-- its dict, where it has one, is at hand -/
def DictAt (d : Option Addr) (H : Hp) : Prop := d = none ∨ ∃ dd gs, d = some dd ∧ H dd = some (.xd gs)
theorem inst_at {pins : List (Addr × Obj)} {σ : L2.St} {H : Hp} {s : Shared} (I : Inv X pins σ H s) (hp : (a, oe) ∈ X.pn) (hz : L2N.Zn (.ref D) d oe) (hf : ∃ vs, oe.data = .fields vs) (hd : DictAt d H) : ∃ od, PySem.W.InstAt s.heap a oe D od := by
  have g := (I.pin (a, oe) (List.mem_append_left _ hp)).1
  obtain ⟨vs, hv⟩ := hf
  have hn : PySem.W.notCls oe = true := by unfold PySem.W.notCls; rw [hv] <;> rfl
  rcases hd with rfl | ⟨dd, gs, rfl, hg⟩
  · exact ⟨none, g, hz.1, hn, by rw [hz.2.1]; trivial⟩
  · obtain ⟨mA, ⟨o, _, _, ho, _⟩, _⟩ := (show ObjOk X.prog X.w H s.heap dd (.xd gs) from I.hok dd _ hg)
    exact ⟨some o, g, hz.1, hn, by rw [hz.2.1]; exact ho⟩
/-- isinstance(e, c) -/
def rIsD (K : PySem.W.Frag) (D a : Addr) (d : Option Addr) : List V → Hp → VK → Prop := fun xs H Q => ∃ (c : V) (cv : Value) (b : Bool), xs = [.ref a, c] ∧ (∀ u, RelV c u → u = cv) ∧ PySem.W.kitOne K (.ref D) cv = some b ∧ DictAt d H ∧ Q (.bl b) H
theorem call_isD (C : ExcC X.K D) (hp : (a, oe) ∈ X.pn) (hz : L2N.Zn (.ref D) d oe) (hf : ∃ vs, oe.data = .fields vs) : CallR X (.builtin "isinstance") (rIsD X.K D a d) := by
  intro pins s σ H xs us Q I r h
  obtain ⟨c, cv, b, rfl, hcv, e, hd, q⟩ := h
  obtain ⟨od, J⟩ := inst_at I hp hz hf hd
  cases r with
  | cons rx rr =>
    cases rr with
    | cons rt rr =>
      cases rr
      cases rx
      have ec := hcv _ rt
      subst ec
      exact PySem.W.kia_one (kitx_exc C) I.kIn ⟨od, J⟩ e (fun z => nomatch z) fun tk => ⟨.bl b, H, I.kept (t' := tk) fun _ _ z => z, rfl, q⟩
/-- e.f -/
theorem pe_xfP {C : Addr} {cls : Value} {e : Expr} {te : TE} {pos : Pos} {n : Str} (T : XfC X.K C) (hno : PySem.W.findIn X.K (.ref C) n = some none)
    (hp : (a, oe) ∈ X.pn) (hz : L2N.Zn cls d oe) (hf : ∃ vs, oe.data = .fields vs) (he : PE X e te) (hb : attributeBase e n X.env (eval e X.env) = eval e X.env := by rfl) :
    PE X (.Attribute e n pos) (tXf a cls d C n te) := by
  constructor
  intro pins s σ H Q I h
  refine attr_of hb (thn (he.run pins s σ H _ I h) ?_)
  rintro u s1 ⟨x, H1, I1, rx, rfl, rfl, dd, fs, v, rfl, ea, l, q⟩
  cases (show u = Value.ref a from rx)
  have g := (I1.pin (a, oe) (List.mem_append_left _ hp)).1
  obtain ⟨vs, hd⟩ := hf
  obtain ⟨mA, hns, hr⟩ := (show ObjOk X.prog X.w H1 s1.heap dd (.xd fs) from I1.hok dd _ ea)
  obtain ⟨od, ho, hl⟩ := lookIn_ns hns
  obtain ⟨w, hw, rw'⟩ := RelO.some_of (v := v) (o := mA n) (by rw [← l]; exact hr n)
  have J : PySem.W.InstAt s1.heap a oe C (some od) := ⟨g, hz.1, by unfold PySem.W.notCls; rw [hd] <;> rfl, by rw [hz.2.1]; exact ho⟩
  exact PySem.HandSPX.exc_get I1.kIn J T.ga T.gg T.exC (PySem.W.findObj_own T.hdC hno rfl (by rw [hl, hw])) (handed_of rw') ⟨v, H1, I1.tok _, rw', q⟩
end
end Sb

namespace Sb
open PySem PySem.Spec PyProof.Rows L2
/-! ### raising, the exception's context kept in sight -/
theorem pmk_oexN {X : Cx} {e : Expr} {es : List Expr} {ta : TA} {p pos : Pos} {CX : CXT} {x : Str} {C fI : Addr} {k : Nat} {fd : FuncData} {ps : List Str} {sp : Sp} {ds : List Value} {dvs : List V} (T : OexC X.K C) (iC : PySem.W.findIn X.K (.ref C) "__init__" = some (some (.ref fI))) (tI : PySem.W.typeIn X.K (.ref fI) = some (.type "function"))
    (F1 : FnOk X.prog X.w X.K X.mg X.base CX k fI fd ps sp) (hr : Room (k + 1) X.A) (hb : Binds X.K fd ps ds) (hd : Vals dvs ds) (hx : Passes CX X (fun _ _ _ => False)) (hg : Gl X x) (hm : X.mg x = some (.ref C)) (ha : PA X (e :: es) ta)
    (hdb : (x == ("__debug__" : Str)) = false := by decide) (he : starEach (e :: es) X.env = (false, eval e X.env) :: starEach es X.env := by rfl) (hpl : (backTo pos (starEach es X.env)).any (·.1) = false := by rfl) :
    L2N.PMk X (.Call (.Name x p) (e :: es) [] pos) (tMkO C sp dvs ta) := by
  intro pins s σ H Q I h
  obtain ⟨nm, q, N, bs, bm, sn, sub, ab, col, dd, k0, k1, k2, k3, k5, hC, hbm⟩ := T.cls
  refine wpAny_Call_Name_kw (ld_glob I hg hm ?_ hdb)
  refine PySem.W.callWith_K (h₀ := X.base) I.ok.mod.kin T.kC (thn (ha.run pos pins s σ H _ I h) fun us s1 ⟨vs, H1, I1, r1, hz, q1⟩ => ⟨I1.kIn, ?_⟩) he hpl
  show wpAny _ _ (call (.ref C) us) _ _ _
  obtain ⟨hp, g, dr, tk, os⟩ := s1
  have hsz : hp.objs.size ≤ hp.objs.size + 1 := Nat.le_succ _
  have hn : H1 (hp.objs.size + 1) = none := I1.hok.fresh hsz
  have hq := q1 (hp.objs.size + 1) hn
  have kk : ∀ b o, hp.get? b = some o → ((hp.push (PySem.W.kdv_tup us)).push (PySem.HandSPX.excO C hp.objs.size)).get? b = some o := fun b o e => Heap.get?_push_of_some _ (Heap.get?_push_of_some _ e)
  have hget : ((hp.push (PySem.W.kdv_tup us)).push (PySem.HandSPX.excO C hp.objs.size)).get? (hp.objs.size + 1) = some (PySem.HandSPX.excO C hp.objs.size) := by heap_get
  have I2 : Inv X pins σ (upd H1 (hp.objs.size + 1) (exo (hp.objs.size + 1) C none)) ⟨(hp.push (PySem.W.kdv_tup us)).push (PySem.HandSPX.excO C hp.objs.size), g, dr, tk, os⟩ :=
    I1.laid (t' := tk) (a := hp.objs.size + 1) (o := exo (hp.objs.size + 1) C none) (h' := (hp.push (PySem.W.kdv_tup us)).push (PySem.HandSPX.excO C hp.objs.size)) kk hsz (exo_ok hget)
  have r2 : Vals (V.ref (hp.objs.size + 1) :: (vs ++ dvs)) (Value.ref (hp.objs.size + 1) :: (us ++ ds)) := .cons rfl (r1.append hd)
  have hl : (Value.ref (hp.objs.size + 1) :: us ++ ds).length = ps.length := by
    have e := r2.length
    rw [F1.len _ _ _ _ hq] at e
    exact e.symm
  have hus : us.length ≤ sizeLine := by
    rw [← Paired.length r1, sizeLine_eq]
    omega
  refine wpAny_call (PySem.HandSPX.call_own F.excBase_ValueError (fun Y => PySem.HandSPX.refsVE_contains Y bm hbm) (I1.kIn _ _ hC) (PySem.W.looks_findIn I1.kIn iC) (fun self => PySem.W.bind_fn I1.kIn self tI) hus
    (codeAny_mono (F1.run _ X.stack _ _ ⟨Value.ref (hp.objs.size + 1) :: us, []⟩ (Value.ref (hp.objs.size + 1) :: (us ++ ds)) _ _ (fun _ _ _ => False) (hr.make C us []) (I2.env0.make C us []) (hb _ (Value.ref (hp.objs.size + 1) :: us) I2.kIn hl) r2 hq) fun r s' hq' => ?_))
  cases r with
  | error er => exact hx pins σ _ _ er s' I2 hq'
  | ok fl =>
    cases fl with
    | ret u =>
      obtain ⟨v, H2, os2, bare2, un2, hok2, rv, ev, d, fs, ea, ed, hd1, q2⟩ := hq'
      subst ev
      obtain ⟨h2, g2, d2, t2, os'⟩ := s'
      obtain ⟨t0, G, J, kG, ge, hoe, na⟩ := mk_end0 (d2 := d2) (t2 := t2) I1 hsz kk un2 hok2 os2 bare2 ea ed hd1
      exact ⟨rv, hp.objs.size + 1, _, _, ⟨G, g2, d2, t2, os'⟩, _, .ref C, some d, rfl, J, kG, ge, hoe, ⟨rfl, rfl, fun vs hv => by cases hv; rfl⟩, rfl, rfl, na, rfl, bare2, raises_own T.exC T.tyC, q2⟩
    | next => exact False.elim hq'
    | brk => exact False.elim hq'
    | cont => exact False.elim hq'

section
variable {X : Cx} {x f1 f2 : Str} {p pos : Pos} {e : Expr} {es : List Expr} {ta : TA}
theorem pmk_own2N (T : OwnX X.K x) (F : ∃ fd ps, FnOk X.prog X.w X.K X.mg X.base CX0 1 (He.ma X.K (He.ga X.K x) "__init__") fd ps (spIni2 (He.ga X.K x) f1 f2) ∧ Binds X.K fd ps []) (hr : Room 2 X.A) (hg : Gl X x) (hm : X.mg x = some (.ref (He.ga X.K x))) (ha : PA X (e :: es) ta)
    (hdb : (x == ("__debug__" : Str)) = false := by decide) (he : starEach (e :: es) X.env = (false, eval e X.env) :: starEach es X.env := by rfl) (hpl : (backTo pos (starEach es X.env)).any (·.1) = false := by rfl) :
    L2N.PMk X (.Call (.Name x p) (e :: es) [] pos) (tMkO (He.ga X.K x) (spIni2 (He.ga X.K x) f1 f2) [] ta) := by
  obtain ⟨fd, ps, F1, hb⟩ := F
  exact pmk_oexN T.o T.i T.t F1 hr hb .nil pass0 hg hm ha hdb he hpl
theorem pmk_own1N (T : OwnX X.K x) (F : ∃ fd ps, FnOk X.prog X.w X.K X.mg X.base CX0 1 (He.ma X.K (He.ga X.K x) "__init__") fd ps (spIni1 (He.ga X.K x) f1) ∧ Binds X.K fd ps []) (hr : Room 2 X.A) (hg : Gl X x) (hm : X.mg x = some (.ref (He.ga X.K x))) (ha : PA X (e :: es) ta)
    (hdb : (x == ("__debug__" : Str)) = false := by decide) (he : starEach (e :: es) X.env = (false, eval e X.env) :: starEach es X.env := by rfl) (hpl : (backTo pos (starEach es X.env)).any (·.1) = false := by rfl) :
    L2N.PMk X (.Call (.Name x p) (e :: es) [] pos) (tMkO (He.ga X.K x) (spIni1 (He.ga X.K x) f1) [] ta) := by
  obtain ⟨fd, ps, F1, hb⟩ := F
  exact pmk_oexN T.o T.i T.t F1 hr hb .nil pass0 hg hm ha hdb he hpl
end
/-- an own exception class with no __init__ of its own -/
structure Own0 (K : PySem.W.Frag) (x : Str) : Prop where
  q : PySem.W.excIn K (He.ga K x) He.veBase "ValueError.__new__" = true
  k : PySem.W.keepIn K (.ref (He.ga K x)) = true
  s : PySem.W.subIn K (.ref (He.ga K x)) (.type "BaseException") = some true
  t : PySem.W.typeIn K (.ref (He.ga K x)) = some (.type "type")
def own0 (K : PySem.W.Frag) (x : Str) : Bool := PySem.W.excIn K (He.ga K x) He.veBase "ValueError.__new__" && (PySem.W.keepIn K (.ref (He.ga K x)) && (decide (PySem.W.subIn K (.ref (He.ga K x)) (.type "BaseException") = some true) && decide (PySem.W.typeIn K (.ref (He.ga K x)) = some (.type "type"))))
theorem own0_ok {K : PySem.W.Frag} {x : Str} (h : own0 K x = true) : Own0 K x := by
  obtain ⟨h1, h⟩ := Bool.and_eq_true_iff.mp h
  obtain ⟨h2, h⟩ := Bool.and_eq_true_iff.mp h
  obtain ⟨h3, h4⟩ := Bool.and_eq_true_iff.mp h
  exact ⟨h1, h2, of_decide_eq_true h3, of_decide_eq_true h4⟩
theorem pmk_own0N {X : Cx} {x m : Str} {j : Nat} {p p2 pos : Pos} (T : Own0 X.K x) (hg : Gl X x) (hm : X.mg x = some (.ref (He.ga X.K x))) (hdb : (x == ("__debug__" : Str)) = false := by decide) :
    L2N.PMk X (.Call (.Name x p) [.Constant (.str m) j p2] [] pos) (fun _ H Q => Q (.ref (He.ga X.K x)) none H) :=
  L2N.pmk_own PySem.F.excBase_ValueError T.q hm T.k (raises_own T.s T.t) hg hdb
/-- what isinstance asks of a class -/
def excCB (K : PySem.W.Frag) (x : Str) : Bool := decide (PySem.W.findIn K (.ref (He.ga K x)) "__getattribute__" = some (some (.builtin "BaseException.__getattribute__"))) && (decide (PySem.W.findIn K (.ref (He.ga K x)) "__getattr__" = some none) && (decide (PySem.W.subIn K (.ref (He.ga K x)) (.type "BaseException") = some true) && (PySem.W.hasDictIn K (He.ga K x) &&
  (decide (PySem.W.findIn K (.ref (He.ga K x)) "__class__" = some (some (.builtin "object.__class__"))) && (decide (PySem.W.specialIn K (.builtin "object.__class__") "__get__" = some (some (.builtin "getset_descriptor.__get__"))) && (decide (PySem.W.takesIn K (.builtin "object.__class__") = some true) && decide (PySem.W.mroIn K (He.ga K x) (.type "object") = some true)))))))
theorem excCB_ok {K : PySem.W.Frag} {x : Str} (h : excCB K x = true) : ExcC K (He.ga K x) := by
  obtain ⟨h1, h⟩ := Bool.and_eq_true_iff.mp h
  obtain ⟨h2, h⟩ := Bool.and_eq_true_iff.mp h
  obtain ⟨h3, h⟩ := Bool.and_eq_true_iff.mp h
  obtain ⟨h4, h⟩ := Bool.and_eq_true_iff.mp h
  obtain ⟨h5, h⟩ := Bool.and_eq_true_iff.mp h
  obtain ⟨h6, h⟩ := Bool.and_eq_true_iff.mp h
  obtain ⟨h7, h8⟩ := Bool.and_eq_true_iff.mp h
  exact ⟨of_decide_eq_true h1, of_decide_eq_true h2, of_decide_eq_true h3, h4, of_decide_eq_true h5, of_decide_eq_true h6, of_decide_eq_true h7, of_decide_eq_true h8⟩
/-- which of the classes x's instances are -/
def kitB1 (K : PySem.W.Frag) (x : Str) (ys : List Str) : Bool := ys.all (fun y => decide (PySem.W.kitOne K (.ref (He.ga K x)) (.ref (He.ga K y)) = some (decide (x = y)))) && decide (PySem.W.kitOne K (.ref (He.ga K x)) (.type "ValueError") = some true)
theorem kitB1_ok {K : PySem.W.Frag} {x : Str} {ys : List Str} (h : kitB1 K x ys = true) {y : Str} (hy : y ∈ ys) : PySem.W.kitOne K (.ref (He.ga K x)) (.ref (He.ga K y)) = some (decide (x = y)) :=
  of_decide_eq_true (List.all_eq_true.mp (Bool.and_eq_true_iff.mp h).1 y hy)
theorem kitB1_ve {K : PySem.W.Frag} {x : Str} {ys : List Str} (h : kitB1 K x ys = true) : PySem.W.kitOne K (.ref (He.ga K x)) (.type "ValueError") = some true := of_decide_eq_true (Bool.and_eq_true_iff.mp h).2
/-! ### classes that are handed over as values -/
theorem passLN {X : Cx} : Passes (L2N.CX X.prog X.w) X E0 := fun _ _ _ _ _ _ _ h => by
  obtain ⟨_, _, _, _, _, _, _, _, _, _, _, _, q⟩ := h
  exact q.elim
theorem takesN {X : Cx} : L2N.Takes X (fun _ _ _ _ => False) := fun _ _ ⟨_, _, _, _, _, _, _, _, _, _, _, _, _, _, _, _, w⟩ => w.elim
section
variable {K : PySem.W.Frag} {σ : L2.St} {G G' M H : Hp} {ts : TA} {C a : Addr} {E : XK}
theorem s_raise0 {x : Str} (A : At G M H) (k : E (.ref (He.ga K x)) none H) : (fun (_ : L2.St) (H : Hp) (Q : XK) => Q (.ref (He.ga K x)) none H) σ H E := k
end
end Sb

namespace Sb
open PySem PySem.Spec PyProof.Rows L2
/-! ### repr of data that holds lists and dicts at once -/
def sysD (K : PySem.W.Frag) : Bool := match K.lookup sysModules with
  | some ⟨_, _, .dict _ _, _⟩ => true
  | _ => false
theorem sysD_ok {K : PySem.W.Frag} (h : sysD K = true) : ∃ o es ep, K.lookup sysModules = some o ∧ o.data = .dict es ep := by
  unfold sysD at h
  split at h
  · rename_i e
    exact ⟨_, _, _, e, rfl⟩
  · cases h
section
variable {X : Cx} {pins : List (Addr × Obj)} {σ : L2.St} {H : Hp} {s : Shared}
mutual
theorem Rp.readsX (hS : sysD X.K = true) (I : Inv X pins σ H s) : ∀ (d : PyData) {v : V} {u : Value}, Rp X.K H d v → RelV v u → ∃ as, Reads s.heap u d as ∧ sysModules ∉ as
  | .none, v, u, h, r => by
    rw [show v = V.non from h] at r
    rw [show u = Value.none from r]
    exact ⟨_, .none, by simp⟩
  | .bool b, v, u, h, r => by
    rw [show v = V.bl b from h] at r
    rw [show u = Value.bool b from r]
    exact ⟨_, .bool b, by simp⟩
  | .int b, v, u, h, r => by
    rw [show v = V.int b from h] at r
    obtain ⟨t, e⟩ := r
    rw [e]
    exact ⟨_, .int b t, by simp⟩
  | .str b, v, u, h, r => by
    rw [show v = V.str b from h] at r
    obtain ⟨t, e⟩ := r
    rw [e]
    exact ⟨_, .str b t, by simp⟩
  | .list ds, v, u, ⟨a, xs, e, h1, h2⟩, r => by
    rw [e] at r
    rw [show u = Value.ref a from r]
    obtain ⟨its, rv, pl, _⟩ := I.list (SqL.of h1)
    obtain ⟨o, n, g1, g2, _, g3⟩ := pl
    obtain ⟨as, k1, k2⟩ := RpL.readsX hS I ds h2 rv
    refine ⟨_, .list g1 g2 g3 (by simpa using k1), fun z => ?_⟩
    rcases List.mem_cons.mp z with z | z
    · obtain ⟨o', es, ep, z1, z2⟩ := sysD_ok hS
      have z3 := I.kIn _ _ z1
      rw [z] at z3
      have z4 := z3.symm.trans g1
      cases z4
      rw [z2] at g3
      cases g3
    · exact k2 z
  | .tuple ds, v, u, ⟨a, xs, e, h1, h2⟩, r => by
    rw [e] at r
    rw [show u = Value.ref a from r]
    obtain ⟨its, rv, ⟨o, g1, g2, n, g3⟩, _⟩ := I.tuple h1
    obtain ⟨as, k1, k2⟩ := RpL.readsX hS I ds h2 rv
    exact ⟨as, .tuple g1 g2 g3 (by simpa using k1), k2⟩
  | .dict kvs, v, u, ⟨a, es, e, h1, h2⟩, r => by
    rw [e] at r
    rw [show u = Value.ref a from r]
    obtain ⟨_, hs, vs, kv, o, xs, ep, g1, g2, g3, _, g4, _⟩ := I.hok a _ h1
    have hs' : a ≠ sysModules := by simpa using hs
    obtain ⟨bs, k1, k2⟩ := RpD.readsX hS I kvs h2 kv g4
    have k3 := keys_reads (X := X) (s := s) kvs h2 kv g4
    refine ⟨_, .dict g1 g2.1 g3 k3 k1, fun z => ?_⟩
    rcases List.mem_cons.mp z with z | z
    · exact hs' z.symm
    · exact k2 (by simpa using z)
theorem RpL.readsX (hS : sysD X.K = true) (I : Inv X pins σ H s) : ∀ (ds : List PyData) {vs : List V} {us : List Value}, RpL X.K H ds vs → Vals vs us → ∃ as, ReadsAll s.heap us ds as ∧ sysModules ∉ as
  | [], vs, us, h, r => by
    rw [show vs = [] from h] at r
    cases r
    exact ⟨_, .nil, by simp⟩
  | d :: ds, vs, us, ⟨x, xs, e, h1, h2⟩, r => by
    rw [e] at r
    cases r with
    | cons r1 r2 =>
      obtain ⟨as, k1, k2⟩ := Rp.readsX hS I d h1 r1
      obtain ⟨bs, k3, k4⟩ := RpL.readsX hS I ds h2 r2
      refine ⟨_, .cons k1 k3, fun w => ?_⟩
      rcases List.mem_append.mp w with w | w
      · exact k2 w
      · exact k4 w
theorem RpD.readsX (hS : sysD X.K = true) (I : Inv X pins σ H s) : ∀ (ds : List (PyData × PyData)) {es : List (Key × V)} {us : List (Key × Value)} {xs : List DictEntry}, RpD X.K H ds es → KV es us → Pairs (mixKind X.prog X.w) xs us →
    ∃ as, ReadsAll s.heap (xs.map (·.val)) (ds.map (·.2)) as ∧ sysModules ∉ as
  | [], es, us, xs, h, r, p => by
    rw [show es = [] from h] at r
    cases r
    cases p
    exact ⟨_, .nil, by simp⟩
  | (k, d) :: ds, es, us, xs, ⟨x, y, t, e, h0, h1, h2⟩, r, p => by
    rw [e] at r
    cases r with
    | cons r1 r2 =>
      cases p with
      | cons p0 p1' p2 =>
        have r1' := r1.2
        obtain ⟨as, k1, k2⟩ := Rp.readsX hS I d h1 r1'
        obtain ⟨bs, k3, k4⟩ := RpD.readsX hS I ds h2 r2 p2
        refine ⟨as ++ bs, .cons (cast (by show Reads s.heap _ d as = Reads s.heap _ d as; exact congrArg (fun z => Reads s.heap z d as) p1'.symm) k1) k3, fun w => ?_⟩
        rcases List.mem_append.mp w with w | w
        · exact k2 w
        · exact k4 w
end

def rReprX (K : PySem.W.Frag) : List V → Hp → VK → Prop := fun xs H Q => ∃ G d v, Ex G H ∧ xs = [v] ∧ Rp K G d v ∧ isDisplay d = true ∧ d.showable = true ∧ d.depth ≤ 60 ∧ d.shown.length ≤ sizeLine ∧ Q (.str d.shown) H
theorem call_reprX (hS : sysD X.K = true) (hg : X.A.guards = some []) (hu : X.A.units + 64 < cLine) : CallR X (.builtin "repr") (rReprX X.K) := by
  intro pins s σ H xs us Q I r h
  obtain ⟨G, d, v, g, rfl, h1, h3, h4, h5, h6, q⟩ := h
  cases r with
  | cons r1 r2 =>
    cases r2
    obtain ⟨as, k1, k2⟩ := Rp.readsX hS I d (h1.up g) r1
    obtain ⟨a, rfl⟩ := isRef_of_reads k1 h3
    exact repr_of_reads' k1 h4 (fun _ => k2) hg (by omega) (fun _ _ e => e) (fun h' u tk hk => ⟨.str d.shown, H, I.kept hk, ⟨u, rfl⟩, q⟩) h6
end
theorem rc_reprX {K : PySem.W.Frag} {d : PyData} (h3 : isDisplay d = true) (h4 : d.showable = true) (h5 : d.depth ≤ 60) (h6 : d.shown.length ≤ sizeLine) : RC K (rReprX K) [d] (.str d.shown) :=
  fun G M H xs A ⟨x, r, e, h, h'⟩ Q q => by
    rw [e, show r = [] from h']
    exact ⟨G, d, x, A.g, rfl, h, h3, h4, h5, h6, q.here A rfl⟩
/-! ### how long it is, some numbers below 0 -/
mutual
def wX : PyData → Nat
  | .none => 4
  | .bool _ => 5
  | .int _ => 40
  | .str x => 10 * x.length + 2
  | .list xs => 2 + wXA xs
  | .tuple xs => 3 + wXA xs
  | .dict xs => 2 + wXK xs
def wXA : List PyData → Nat
  | [] => 0
  | x :: xs => wX x + 2 + wXA xs
def wXK : List (PyData × PyData) → Nat
  | [] => 0
  | (k, v) :: r => wX k + wX v + 4 + wXK r
end
mutual
def fiX : PyData → Bool
  | .none => true
  | .bool _ => true
  | .int i => decide (0 ≤ i) && decide (i < 1000000000000000000) || decide (i = -1) || decide (i = -1000000000000000000000000000000)
  | .str x => x.cps.toList.all (· < 4294967296)
  | .list xs => fiXA xs
  | .tuple xs => fiXA xs
  | .dict xs => fiXK xs
def fiXA : List PyData → Bool
  | [] => true
  | x :: xs => fiX x && fiXA xs
def fiXK : List (PyData × PyData) → Bool
  | [] => true
  | (k, v) :: r => fiX k && fiX v && fiXK r
end
mutual
theorem shown_leX : ∀ d : PyData, fiX d = true → d.shown.length ≤ wX d
  | .none, _ => by simp only [PyData.shown, wX]; decide
  | .bool b, _ => by simp only [PyData.shown, wX]; cases b <;> decide
  | .int i, h => by
    simp only [PyData.shown, wX]
    simp only [fiX, Bool.or_eq_true, Bool.and_eq_true] at h
    rcases h with (h | h) | h
    · exact Nat.le_trans (int_len (of_decide_eq_true h.1) (of_decide_eq_true h.2)) (by decide)
    · rw [of_decide_eq_true h]
      decide +kernel
    · rw [of_decide_eq_true h]
      decide +kernel
  | .str x, h => by
    simp only [PyData.shown, wX]
    simp only [fiX] at h
    exact StrLaws.reprText_len x fun c hc => of_decide_eq_true (List.all_eq_true.mp h c hc)
  | .list xs, h => by
    simp only [PyData.shown, wX]
    simp only [fiX] at h
    have h1 := shownA_leX xs h
    have h2 := from_pil (PyData.shownAll xs) 0 "["
    unfold listText
    rw [strLen_append]
    have h3 : ("[" : Str).length = 1 := rfl
    have h4 : ("]" : Str).length = 1 := rfl
    omega
  | .tuple xs, h => by
    simp only [PyData.shown, wX]
    simp only [fiX] at h
    have h1 := shownA_leX xs h
    have h2 := join_pil (PyData.shownAll xs)
    unfold tupleText
    rw [strLen_append, strLen_append]
    have h3 : ("(" : Str).length = 1 := rfl
    have h4 : (Str.ofString (if (PyData.shownAll xs).length == 1 then ",)" else ")" : String)).length ≤ 2 := by split <;> decide
    omega
  | .dict xs, h => by
    simp only [PyData.shown, wX]
    simp only [fiX] at h
    have h1 := shownK_leX xs h
    have h2 := join_pil (PyData.shownKv xs)
    unfold dictText
    rw [strLen_append, strLen_append]
    have h3 : ("{" : Str).length = 1 := rfl
    have h4 : ("}" : Str).length = 1 := rfl
    omega
theorem shownA_leX : ∀ ds : List PyData, fiXA ds = true → pil (PyData.shownAll ds) ≤ wXA ds
  | [], _ => by simp [PyData.shownAll, wXA, pil]
  | x :: xs, h => by
    simp only [fiXA, Bool.and_eq_true] at h
    have h1 := shown_leX x h.1
    have h2 := shownA_leX xs h.2
    unfold pil at h2 ⊢
    simp only [PyData.shownAll, wXA, List.map_cons, List.sum_cons]
    omega
theorem shownK_leX : ∀ ds : List (PyData × PyData), fiXK ds = true → pil (PyData.shownKv ds) ≤ wXK ds
  | [], _ => by simp [PyData.shownKv, wXK, pil]
  | (k, v) :: xs, h => by
    simp only [fiXK, Bool.and_eq_true] at h
    have h1 := shown_leX k h.1.1
    have h0 := shown_leX v h.1.2
    have h2 := shownK_leX xs h.2
    unfold pil at h2 ⊢
    simp only [PyData.shownKv, wXK, List.map_cons, List.sum_cons]
    rw [strLen_append, strLen_append]
    have h3 : (": " : Str).length = 2 := rfl
    omega
end

end Sb
namespace Sb
open PySem PySem.Spec PyProof.Rows L2
/-! ### a Hook that also looks at sys.modules -/
def asT (g : Addr → Option Obj) (n : Nat) : List Addr := He.asD g n ++ [PySem.cStatics, PySem.sysModules]
def obsT (n : Nat) (fa : List He.Fa) (fn : List He.DefD) (ex : PySem.W.Frag → Bool) (g : Addr → Option Obj) : He.AlD × Bool := (He.obsD fa fn (He.frG g (asT g n)), ex (He.frG g (asT g n)))
def hookT (n : Nat) (fa : List He.Fa) (fn : List He.DefD) (ex : PySem.W.Frag → Bool) : PySem.W.Hook where
  α := He.AlD × Bool
  obs := fun s => obsT n fa fn ex s.heap.get?
  val := fun _ => (He.valD fn, true)
  says := fun _ h => ∃ K : PySem.W.Frag, K.In h ∧ He.SaysD fa fn K ∧ ex K = true
  of := fun _ _ e => ⟨_, He.frG_in, congrArg (fun z : He.AlD × Bool => z.1) e, congrArg (fun z : He.AlD × Bool => z.2) e⟩
  keeps := fun _ _ _ ⟨K, hK, c⟩ k => ⟨K, PySem.W.Frag.In.keeps hK k, c⟩
theorem obsT_eq {n : Nat} {fa : List He.Fa} {fn : List He.DefD} {ex : PySem.W.Frag → Bool} {g : Addr → Option Obj} {s : Shared} (h : ∀ a, g a = s.heap.get? a) : obsT n fa fn ex g = (hookT n fa fn ex).obs s := by
  have e : g = s.heap.get? := funext h
  rw [e] <;> rfl
end Sb

namespace Sb
open PySem PySem.Spec PyProof.Rows L2
section
variable {K : PySem.W.Frag} {σ : L2.St} {G G' M M0 M1 H : Hp} {ta tb te tc : TE} {d d1 d2 d3 : PyData} {tt t u : TT} {ts : TA} {ds es : List PyData} {Q : VK} {D : Ends} {s1 s2 tbd : TS} {i j n m n' : Nat} {r p a : Addr} {o : HO}
/-! ### the keys of a dict, of any kind -/
theorem RpD.keysG : ∀ {kvs : List (PyData × PyData)} {xs : List (Key × V)}, RpD K G kvs xs → xs.map (fun e => kD e.1) = kvs.map (·.1)
  | [], xs, h => by rw [show xs = [] from h]; rfl
  | (k, d) :: r, _, ⟨x, y, t, h1, h2, _, h3⟩ => by
    rw [h1, List.map_cons, List.map_cons, RpD.keysG h3, h2]
theorem d_lcG {tt : TT} {i j : Nat} {v : V} {kvs : List (PyData × PyData)} {p : PyData → Bool} {f : PyData → PyData} (hv : σ[j]? = some (some v)) (hd : Rp K G (.dict kvs) v) (hn : kvs.length < 100000)
    (hw : (wipe σ [i])[j]? = some (some v))
    (ht : ∀ k, k ∈ kvs.map (·.1) → ∀ x, (∀ G1, Rp K G1 k x) → ∀ G1, TrB tt ((wipe σ [i]).set i (some x)) G1 (p k))
    (he : ∀ k, k ∈ kvs.map (·.1) → ∀ x, (∀ G1, Rp K G1 k x) → ∀ G1, TrD K te ((wipe σ [i]).set i (some x)) G1 (f k)) :
    TrD K (tLockE (tLc (iKeys (tVar j)) (gName i) tt te [i])) σ G (.list (((kvs.map (·.1)).filter p).map f)) := fun G1 M H e A Q q => by
  obtain ⟨a, xs, rfl, k1, k2⟩ := hd.up e
  have hH := A.g _ _ k1
  refine ⟨a, .dK xs, hH, trivial, fun od => ?_⟩
  -- within: the dict is locked, all the rest of G stands
  have A0 : At (fun b => if b = a then none else G1 b) (upd M a (.frz od (.dK xs))) (upd H a (.frz od (.dK xs))) := by
    have hMa : M a = none := by
      cases z : M a with
      | none => rfl
      | some o =>
        rw [A.d _ _ z] at k1
        cases k1
    refine ⟨fun b o z => ?_, fun b o z => ?_, fun b o z => ?_⟩
    · by_cases hb : b = a
      · rw [if_pos hb] at z; cases z
      · rw [if_neg hb] at z
        rw [upd_ne hb]
        exact A.g _ _ z
    · by_cases hb : b = a
      · subst hb
        rw [upd_same] at z ⊢
        exact z
      · rw [upd_ne hb] at z ⊢
        exact A.m _ _ z
    · by_cases hb : b = a
      · exact if_pos hb
      · rw [if_neg hb]
        rw [upd_ne hb] at z
        exact A.d _ _ z
  have hMa : M a = none := by
    cases z : M a with
    | none => rfl
    | some o =>
      rw [A.d _ _ z] at k1
      cases k1
  generalize hM1 : upd M a (.frz od (.dK xs)) = M1 at A0
  generalize hG0 : (fun b => if b = a then none else G1 b : Hp) = G0 at A0
  have hMla : M1 a = some (.frz od (.dK xs)) := by rw [← hM1]; exact upd_same
  refine ⟨.ref a, hv, a, od, rfl, .inl ⟨xs, upd_same, fun D hD => ?_⟩⟩
  have hDa : D ≠ a := fun z => by
    subst z
    rw [upd_same] at hD
    cases hD
  have keys := k2.keysG
  refine ⟨fun t m H3 => m = xs.length - t ∧ t ≤ xs.length ∧ ∃ Gj acc, Ex G0 Gj ∧ At Gj (upd M1 D (.lst acc)) H3 ∧ RpL K Gj ((((kvs.map (·.1)).take t).filter p).map f) acc, ⟨xs.length, by simp, Nat.zero_le _, G0, [], Ex.refl _, A0.nm hD, rfl⟩, ?_⟩
  rintro t m H3 ⟨rfl, ht', Gj, acc, ej, Aj, rj⟩
  have hfr : H3 a = some (.frz od (.dK xs)) := Aj.m _ _ (by rw [upd_ne hDa.symm]; exact hMla)
  by_cases hlt : t < xs.length
  · refine .inr ⟨⟨hfr, hlt⟩, fun H4 => ∃ Gj acc, Ex G0 Gj ∧ At Gj (upd M1 D (.lst acc)) H4 ∧ RpL K Gj ((((kvs.map (·.1)).take (t + 1)).filter p).map f) acc, fun H4 z => ⟨xs.length - (t + 1), by omega, rfl, hlt, z⟩, ?_⟩
    rintro x H4 ⟨rfl, k, w, hk, rfl⟩
    have hk3 : (kvs.map (·.1))[t]? = some (kD k) := by
      rw [← keys, List.getElem?_map, hk]
      rfl
    have hm := List.mem_of_getElem? hk3
    have htk : (kvs.map (·.1)).take (t + 1) = (kvs.map (·.1)).take t ++ [kD k] := by rw [List.take_add_one, hk3]; rfl
    show wipe _ _ = wipe _ _ ∧ _
    refine ⟨wipe_set, ?_⟩
    refine ht (kD k) hm _ (fun _ => kV_rp) Gj Gj _ H4 (Ex.refl _) Aj _ fun G4 H4 e4 A4 => ?_
    cases hp : p (kD k) with
    | false =>
      refine ⟨G4, acc, ej.trans e4, A4, ?_⟩
      rw [htk, List.filter_append, List.filter_cons, hp]
      simpa using rj.up e4
    | true =>
      refine he (kD k) hm _ (fun _ => kV_rp) G4 G4 _ H4 (Ex.refl _) A4 _ fun v5 G5 H5 e5 A5 r5 => ?_
      refine ⟨acc, A5.m _ _ upd_same, ?_, G5, acc ++ [v5], ej.trans (e4.trans e5), ?_, ?_⟩
      · rw [rj.len, List.length_map]
        refine sz_lt (Nat.lt_of_le_of_lt (Nat.le_trans (List.length_filter_le _ _) ?_) hn)
        rw [List.length_take, List.length_map]
        exact Nat.min_le_right _ _
      · have z := A5.wr (o := .lst (acc ++ [v5])) (upd_same (H := M1) (a := D) (o := .lst acc))
        rw [upd_upd] at z
        exact z
      · rw [htk, List.filter_append, List.filter_cons, hp, List.map_append]
        exact (rj.up (e4.trans e5)).snoc r5
  · have e1 : t = xs.length := by omega
    subst e1
    have hl2 : (kvs.map (·.1)).take xs.length = kvs.map (·.1) := by
      have z := congrArg List.length keys
      simp only [List.length_map] at z
      rw [z]
      exact List.take_of_length_le (by rw [List.length_map]; exact Nat.le_refl _)
    rw [hl2] at rj
    refine .inl ⟨⟨hfr, Nat.le_refl _⟩, hfr, ?_⟩
    have hDM : M D = none := by
      have z := hD
      rw [upd_ne hDa] at z
      exact A.mNone z
    have hGD : G1 D = none := by
      have z := hD
      rw [upd_ne hDa] at z
      exact A.gNone z
    have hGjD : Gj D = none := Aj.d _ _ upd_same
    have hGja : Gj a = none := Aj.d _ _ (by rw [upd_ne hDa.symm]; exact hMla)
    -- behind: the dict and the new list belong to G again
    refine q (.ref D) (upd (upd Gj a (.dK xs)) D (.lst acc)) _ (fun b o z => ?_) ⟨fun b o z => ?_, fun b o z => ?_, fun b o z => ?_⟩ ⟨D, acc, rfl, upd_same, rj.up (Ex.trans (Ex.new hGja) (Ex.new (none_upd hGjD hDa)))⟩
    · have hb : b ≠ D := fun y => by
        subst y
        rw [hGD] at z
        cases z
      rw [upd_ne hb]
      by_cases ha : b = a
      · subst ha
        rw [upd_same]
        rw [k1] at z
        exact z
      · rw [upd_ne ha]
        refine ej _ _ ?_
        rw [← hG0]
        show (if b = a then none else G1 b) = some o
        rw [if_neg ha]
        exact z
    · by_cases hb : b = D
      · subst hb
        rw [upd_same] at z
        rw [upd_ne hDa]
        cases z
        exact Aj.m _ _ upd_same
      · rw [upd_ne hb] at z
        by_cases ha : b = a
        · subst ha
          rw [upd_same] at z ⊢
          exact z
        · rw [upd_ne ha] at z ⊢
          exact Aj.g _ _ z
    · have hb : b ≠ a := fun y => by
        subst y
        rw [hMa] at z
        cases z
      have hb2 : b ≠ D := fun y => by
        subst y
        rw [hDM] at z
        cases z
      rw [upd_ne hb]
      refine Aj.m _ _ ?_
      rw [upd_ne hb2, ← hM1, upd_ne hb]
      exact z
    · have hb : b ≠ a := fun y => by
        subst y
        rw [hMa] at z
        cases z
      have hb2 : b ≠ D := fun y => by
        subst y
        rw [hDM] at z
        cases z
      rw [upd_ne hb2, upd_ne hb]
      refine Aj.d b o ?_
      rw [upd_ne hb2, ← hM1, upd_ne hb]
      exact z

/-! ### [e for x, y in pairs if t] -/
def dPair (q : PyData × PyData) : PyData := .tuple [q.1, q.2]
theorem d_lcP {tl : TE} {qs : List (PyData × PyData)} {pp : PyData × PyData → Bool} {f : PyData × PyData → PyData} {g : TG} (hij : i ≠ j) (hl : TrD K tl σ G (.list (qs.map dPair))) (hn : qs.length < 100000) (hg : g = gTup K 2 (gCons (gName i) (gCons (gName j) gNil)))
    (ht : ∀ q ∈ qs, ∀ x y G1, Ex G G1 → Rp K G1 q.1 x → Rp K G1 q.2 y → TrB tt (((wipe σ [i, j]).set i (some x)).set j (some y)) G1 (pp q))
    (he : ∀ q ∈ qs, pp q = true → ∀ x y G1, Ex G G1 → Rp K G1 q.1 x → Rp K G1 q.2 y → TrD K te (((wipe σ [i, j]).set i (some x)).set j (some y)) G1 (f q)) :
    TrD K (tLc (iList K tl) g tt te [i, j]) σ G (.list ((qs.filter pp).map f)) := fun G1 M H e A Q q => by
  subst hg
  refine hl G1 M H e A _ fun v G2 H2 e2 A2 rv => ?_
  obtain ⟨a, xs, rfl, hs, hx⟩ := rv
  have hxl : xs.length = qs.length := by rw [hx.len, List.length_map]
  refine ⟨a, rfl, ⟨xs, SqL.of (A2.g _ _ hs)⟩, fun D hD => ?_⟩
  have hMD : M D = none := A2.mNone hD
  refine lc_list (K := K) (a := a) (xs := xs) (fun k H => ∃ Gj acc, Ex G2 Gj ∧ At Gj (upd M D (.lst acc)) H ∧ RpL K Gj (((qs.take k).filter pp).map f) acc) ⟨G2, [], Ex.refl _, A2.nm hD, rfl⟩ ?_ ?_ ?_
  · rintro k H3 _ ⟨Gj, acc, ej, Aj, _⟩
    exact SqL.of ((ej.trans Aj.g) _ _ hs)
  · rintro k x H3 hk ⟨Gj, acc, ej, Aj, rj⟩
    obtain ⟨d, hd, rd⟩ := hx.get hk
    rw [List.getElem?_map] at hd
    obtain ⟨w, hw, rfl⟩ : ∃ w, qs[k]? = some w ∧ dPair w = d := by
      cases z : qs[k]? with
      | none => rw [z] at hd; cases hd
      | some w => rw [z] at hd; exact ⟨w, rfl, Option.some.inj hd⟩
    have hm := List.mem_of_getElem? hw
    have hkk : qs.take (k + 1) = qs.take k ++ [w] := by rw [List.take_add_one, hw]; rfl
    refine g_tup Aj (rd.up ej) rfl fun ys ry => ?_
    obtain ⟨y1, _, rfl, h1, y2, _, rfl, h2, rfl⟩ := ry
    refine ⟨y1, [y2], rfl, y2, [], rfl, rfl, ?_⟩
    refine ⟨?_, ?_⟩
    · show (((((σ.set j none).set i none).set i (some y1)).set j (some y2)).set j none).set i none = (σ.set j none).set i none
      rw [List.set_set, List.set_set, List.set_comm _ _ hij, List.set_set, List.set_set]
    refine ht w hm y1 y2 Gj ((e.trans e2).trans ej) h1 h2 Gj _ H3 (Ex.refl _) Aj _ fun G4 H4 e4 A4 => ?_
    cases hp : pp w with
    | false =>
      refine ⟨G4, acc, ej.trans e4, A4, ?_⟩
      rw [hkk, List.filter_append, List.filter_cons, hp]
      simpa using rj.up e4
    | true =>
      refine he w hm hp y1 y2 G4 ((e.trans e2).trans (ej.trans e4)) (h1.up e4) (h2.up e4) G4 _ H4 (Ex.refl _) A4 _ fun v5 G5 H5 e5 A5 r5 => ?_
      refine ⟨acc, A5.m _ _ upd_same, ?_, G5, acc ++ [v5], ej.trans (e4.trans e5), ?_, ?_⟩
      · rw [rj.len, List.length_map]
        refine sz_lt (Nat.lt_of_le_of_lt (Nat.le_trans (List.length_filter_le _ _) ?_) hn)
        rw [List.length_take]
        exact Nat.min_le_right _ _
      · have z := A5.wr (o := .lst (acc ++ [v5])) (upd_same (H := M) (a := D) (o := .lst acc))
        rw [upd_upd] at z
        exact z
      · rw [hkk, List.filter_append, List.filter_cons, hp, List.map_append]
        exact (rj.up (e4.trans e5)).snoc r5
  · rintro H3 ⟨Gj, acc, ej, Aj, rj⟩
    have hl2 : qs.take xs.length = qs := by rw [hxl, List.take_length]
    rw [hl2] at rj
    have hm := upd_same (H := M) (a := D) (o := HO.lst acc)
    exact q _ _ _ ((e2.trans ej).trans (Aj.frzG hm)) (Aj.frz hm (Ex.new hMD) hMD) ⟨D, acc, rfl, upd_same, rj.up (Aj.frzG hm)⟩
/-! ### isinstance of the exception -/
theorem DictAt.up {d : Option Addr} (h : DictAt d G) (e : Ex G H) : DictAt d H := by
  rcases h with h | ⟨dd, gs, h1, h2⟩
  · exact .inl h
  · exact .inr ⟨dd, gs, h1, e _ _ h2⟩
theorem d_isD {C : Addr} {dd : Option Addr} {c : V} {cv : Value} {b : Bool} (hi : σ[i]? = some (some (.ref a))) (hc : ∀ u, RelV c u → u = cv) (hk : PySem.W.kitOne K (.ref C) cv = some b) (hd : DictAt dd G) : TrD K (tCB (rIsD K C a dd) (tCons (tVar i) (tCons (tC c) tNil))) σ G (.bool b) := fun G1 M H e A Q q =>
  ⟨.ref a, hi, c, cv, b, rfl, hc, hk, hd.up (e.trans A.g), q.here A rfl⟩
end
end Sb

namespace Sb
open PySem PySem.Spec PyProof.Rows L2
/-! ### a def that gives a datum or raises, with fields or without -/
inductive OutN where
  | val (d : PyData)
  | exc (x : Str) (fs : List (Str × PyData))
  | ex0 (x : Str)
def Res0 (K : PySem.W.Frag) (G M : Hp) (x : Str) (E : XK) : Prop := ∀ G' H', Ex G G' → At G' M H' → E (.ref (He.ga K x)) none H'
def OutN.ok (K : PySem.W.Frag) (G M : Hp) (Q : VK) (E : XK) : OutN → Prop
  | .val d => Res K G M d Q
  | .exc x fs => ResX K G M x fs E
  | .ex0 x => Res0 K G M x E
def XSpN (K : PySem.W.Frag) (R : List PyData → OutN → Prop) : Sp := fun vs H Q E => ∃ G M ds o, At G M H ∧ RpL K G ds vs ∧ R ds o ∧ OutN.ok K G M Q E o
section
variable {K : PySem.W.Frag} {σ : L2.St} {G G' M H : Hp} {ts : TA} {C a : Addr} {ds : List PyData} {d : PyData} {Q : VK} {E : XK} {x : Str} {fs : List (Str × PyData)} {R : List PyData → OutN → Prop} {o : OutN}
theorem Res0.mono (e : Ex G G') (h : Res0 K G M x E) : Res0 K G' M x E := fun G2 H2 e2 A => h G2 H2 (e.trans e2) A
theorem OutN.ok.mono (e : Ex G G') (h : OutN.ok K G M Q E o) : OutN.ok K G' M Q E o := by
  cases o with
  | val d => exact Res.mono e h
  | exc x fs => exact ResX.mono e h
  | ex0 x => exact Res0.mono e h
theorem XSpN.len {n : Nat} (hR : ∀ ds o, R ds o → ds.length = n) {vs : List V} (h : XSpN K R vs H Q E) : vs.length = n := by
  obtain ⟨G, M, ds, o, _, hr, h2, _⟩ := h
  rw [hr.len, hR _ _ h2]
theorem n_call (h : TrA K ts σ G ds) (hr : R ds (.val d)) : TrD K (tCall (XSpN K R) [] E ts) σ G d := fun G1 M H e A Q q => by
  refine h G1 M H e A _ fun vs G2 H2 e2 A2 r2 => ?_
  exact ⟨G2, M, ds, .val d, A2, by rw [List.append_nil]; exact r2, hr, q.mono e2⟩
/-- a call that raises: what is wanted of the exception is wanted of the caller -/
theorem w_raise (h : TrA K ts σ G ds) (hr : R ds o) (hn : ∀ d, o ≠ .val d) (A : At G M H) (k : ∀ Q : VK, OutN.ok K G M Q E o) : tCall (XSpN K R) [] E ts σ H Q := by
  refine w_A h A fun vs G2 H2 e2 A2 r2 => ?_
  exact ⟨G2, M, ds, o, A2, by rw [List.append_nil]; exact r2, hr, (k _).mono e2⟩
theorem n_callS {E : L2.St → XK} (h : TrA K ts σ G ds) (hr : R ds (.val d)) : TrD K (tCallS (XSpN K R) E ts) σ G d := fun G1 M H e A Q q => by
  refine h G1 M H e A _ fun vs G2 H2 e2 A2 r2 => ?_
  exact ⟨G2, M, ds, .val d, A2, r2, hr, q.mono e2⟩
theorem w_raiseS {E : L2.St → XK} (h : TrA K ts σ G ds) (hr : R ds o) (A : At G M H) (k : ∀ Q : VK, OutN.ok K G M Q (E σ) o) : tCallS (XSpN K R) E ts σ H Q := by
  refine w_A h A fun vs G2 H2 e2 A2 r2 => ?_
  exact ⟨G2, M, ds, o, A2, r2, hr, (k _).mono e2⟩
theorem ok_any {Q' : VK} (hn : ∀ d, o ≠ .val d) (h : OutN.ok K G M Q E o) : OutN.ok K G M Q' E o := by
  cases o with
  | val d => exact absurd rfl (hn d)
  | exc x fs => exact h
  | ex0 x => exact h
end
section
variable {K : PySem.W.Frag} {σ : L2.St} {G G' M H : Hp} {te : TE} {tc : TT} {f g : PyData} {D : Ends} {s2 : TS} {i : Nat} {v : V}
theorem set_self {σ : L2.St} {i : Nat} {v : V} (h : σ[i]? = some (some v)) : σ.set i (some v) = σ := by
  obtain ⟨h1, h2⟩ := List.getElem?_eq_some_iff.mp h
  rw [← h2]
  exact List.set_getElem_self h1
/-- if t: x = e -/
theorem q_ifSet {b : Bool} (hc : TrB tc σ G b) (he : b = true → TrD K te σ G g) (A : At G M H) (hi : σ[i]? = some (some v)) (rv : Rp K G f v) (k : ∀ v' G' H', Ex G G' → At G' M H' → Rp K G' (if b = true then g else f) v' → s2 D (σ.set i (some v')) H') :
    tSeq (tIfS tc (tAsg te (gName i)) tNext) s2 D σ H := by
  refine s_seq (s_if hc A (fun hb G1 H1 e1 A1 => ?_) fun hb G1 H1 e1 A1 => ?_)
  · refine s_set ((he hb).up e1) A1 fun v2 G2 H2 e2 A2 r2 => ?_
    exact k v2 G2 H2 (e1.trans e2) A2 (by rw [if_pos hb]; exact r2)
  · have z := k v G1 H1 e1 A1 (by rw [if_neg (by rw [hb]; decide)]; exact rv.up e1)
    rw [set_self hi] at z
    exact z
end
end Sb

namespace Sb
open PySem PySem.Spec PyProof.Rows L2
/-! ### dicts whose keys are told twice -/
def repD (l : List (Str × PyData)) (k : Str) (d : PyData) : List (Str × PyData) := l.map fun q => if q.1 = k then (q.1, d) else q
def hasD (l : List (Str × PyData)) (k : Str) : Bool := l.any fun q => decide (q.1 = k)
def putD (l : List (Str × PyData)) (k : Str) (d : PyData) : List (Str × PyData) := if hasD l k = true then repD l k d else l ++ [(k, d)]
def mergeD (acc : List (Str × PyData)) : List (Str × PyData) → List (Str × PyData)
  | [] => acc
  | (k, d) :: r => mergeD (putD acc k d) r
section
variable {K : PySem.W.Frag} {σ : L2.St} {G G' M H : Hp} {ta tb te : TE} {d : PyData}
theorem rp_key {k : Str} {x : Key} (h : kD x = .str k) : x = Sum.inr k := by
  cases x with
  | inl i => cases h
  | inr z => have : z = k := by simpa [kD] using h
             rw [this]
theorem rp_has : ∀ {l : List (Str × PyData)} {es : List (Key × V)} {k : Str}, RpD K G (keysD l) es → (es.any fun kv => decide (kv.1 = Sum.inr k)) = hasD l k
  | [], es, k, h => by
    rw [show es = [] from h]
    rfl
  | (k', d') :: l, _, k, ⟨x, y, t, e, h1, h2, h3⟩ => by
    have hx := rp_key h1
    subst hx
    rw [e]
    show (decide ((Sum.inr k' : Key) = Sum.inr k) || t.any _) = (decide (k' = k) || hasD l k)
    rw [rp_has h3]
    by_cases q : k' = k
    · subst q
      simp
    · have : ¬ (Sum.inr k' : Key) = Sum.inr k := fun z => q (Sum.inr.inj z)
      rw [decide_eq_false q, decide_eq_false this]
theorem rp_rep : ∀ {l : List (Str × PyData)} {es : List (Key × V)} {k : Str} {d : PyData} {v : V}, RpD K G (keysD l) es → Rp K G d v → RpD K G (keysD (repD l k d)) (es.map fun kv => if kv.1 = Sum.inr k then (kv.1, v) else kv)
  | [], es, k, d, v, h, r => by
    rw [show es = [] from h]
    exact rfl
  | (k', d') :: l, _, k, d, v, ⟨x, y, t, e, h1, h2, h3⟩, r => by
    have hx := rp_key h1
    subst hx
    rw [e, List.map_cons]
    by_cases q : k' = k
    · subst q
      rw [if_pos rfl]
      have e1 : repD ((k', d') :: l) k' d = (k', d) :: repD l k' d := by unfold repD; rw [List.map_cons, if_pos rfl]
      rw [e1]
      exact ⟨Sum.inr k', v, _, rfl, rfl, r, rp_rep h3 r⟩
    · have this : ¬ (Sum.inr k' : Key) = Sum.inr k := fun z => q (Sum.inr.inj z)
      rw [if_neg this]
      have e1 : repD ((k', d') :: l) k d = (k', d') :: repD l k d := by unfold repD; rw [List.map_cons, if_neg q]
      rw [e1]
      exact ⟨Sum.inr k', y, _, rfl, rfl, h2, rp_rep h3 r⟩
theorem rp_put {l : List (Str × PyData)} {es : List (Key × V)} {k : Str} {d : PyData} {v : V} (h : RpD K G (keysD l) es) (r : Rp K G d v) : RpD K G (keysD (putD l k d)) (putK es (Sum.inr k) v) := by
  unfold putK putD
  rw [rp_has h]
  split
  · exact rp_rep h r
  · unfold keysD
    rw [List.map_append]
    exact RpD.snoc h rfl r
theorem rp_merge : ∀ {l acc : List (Str × PyData)} {es fs : List (Key × V)}, RpD K G (keysD acc) fs → RpD K G (keysD l) es → RpD K G (keysD (mergeD acc l)) (mergeK fs es)
  | [], acc, es, fs, ha, h => by
    rw [show es = [] from h]
    exact ha
  | (k, d) :: l, acc, _, fs, ha, ⟨x, y, t, e, h1, h2, h3⟩ => by
    have hx := rp_key h1
    subst hx
    rw [e]
    show RpD K G (keysD (mergeD (putD acc k d) l)) (mergeK (putK fs (Sum.inr k) y) t)
    exact rp_merge (acc := putD acc k d) (fs := putK fs (Sum.inr k) y) (rp_put ha h2) h3
theorem rc_dictM {kvs : List (Str × PyData)} : RC K (fun xs H Q => ∃ (a : Addr) (ps : List Addr) (kvs : List (Key × V)), xs = [.ref a] ∧ SqL K H a (ps.map V.ref) ∧ Paired (fun p kv => SqT K H p [kV kv.1, kv.2]) ps kvs ∧
    ∀ p, H p = none → Q (.ref p) (upd H p (.dK (mergeK [] kvs)))) [.list ((keysD kvs).map pairD)] (.dict (keysD (mergeD [] kvs))) := fun G M H xs A ⟨x, r, e, ⟨a, ys, h1, h2, h3⟩, h'⟩ Q q => by
  rw [e, show r = [] from h', h1]
  obtain ⟨ps, es, rfl, h5, h6⟩ := pairs_of h3
  refine ⟨a, ps, es, rfl, SqL.of (A.g _ _ h2), Paired.mono (fun _ _ h => A.g.stt h) h5, fun p hp => ?_⟩
  exact q.newG A hp ⟨p, _, rfl, upd_same, (rp_merge (acc := []) (fs := []) rfl h6).up (Ex.new (A.gNone hp))⟩
theorem d_dispM {kvs : List (Str × PyData)} {trs : List (TE × TE)} (h : TrP K trs σ G kvs) (hl : kvs.length ≤ 15) : TrD K (tDisp trs) σ G (.dict (keysD (mergeD [] kvs))) := fun G1 M H e A Q q p hp => by
  refine h G1 (upd M p (.dK [])) (upd H p (.dK [])) e (A.nm hp) _ fun es G2 H2 e2 A2 r2 => ?_
  refine ⟨A2.m _ _ upd_same, es, rfl, ?_, ?_⟩
  · rw [r2.len, keysD_len]
    exact hl
  · have A3 := A2.wr (o := .dK (mergeK [] es)) (upd_same (H := M) (a := p) (o := .dK []))
    rw [upd_upd] at A3
    have hm := upd_same (H := M) (a := p) (o := HO.dK (mergeK [] es))
    have hM : M p = none := A.mNone hp
    exact q _ _ _ (e2.trans (A3.frzG hm)) (A3.frz hm (Ex.new hM) hM) ⟨p, _, rfl, upd_same, (rp_merge (acc := []) (fs := []) rfl r2).up (A3.frzG hm)⟩
/-- {n: d}, n an int -/
theorem d_dispI {n : Int} (hk : TrD K ta σ G (.int n)) (hv : TrD K tb σ G d) : TrD K (tDisp [(ta, tb)]) σ G (.dict [(.int n, d)]) := fun G1 M H e A Q q p hp => by
  refine hk G1 (upd M p (.dK [])) (upd H p (.dK [])) e (A.nm hp) _ fun v G2 H2 e2 A2 r2 => ?_
  refine hv G2 (upd M p (.dK [])) H2 (e.trans e2) A2 _ fun w G3 H3 e3 A3 r3 => ?_
  have e1 : v = V.int n := r2
  subst e1
  refine ⟨A3.m _ _ upd_same, [(Sum.inl n, w)], rfl, (by show 1 ≤ 15; decide), ?_⟩
  have A4 := A3.wr (o := .dK [(Sum.inl n, w)]) (upd_same (H := M) (a := p) (o := .dK []))
  rw [upd_upd] at A4
  have hm := upd_same (H := M) (a := p) (o := HO.dK [(Sum.inl n, w)])
  have hM : M p = none := A.mNone hp
  exact q _ _ _ ((e2.trans e3).trans (A4.frzG hm)) (A4.frz hm (Ex.new hM) hM) ⟨p, _, rfl, upd_same, ⟨Sum.inl n, w, [], rfl, rfl, r3.up (A4.frzG hm), rfl⟩⟩
end
theorem has_iff {l : List (Str × PyData)} {k : Str} : hasD l k = true ↔ k ∈ l.map (·.1) := by
  unfold hasD
  rw [List.any_eq_true]
  constructor
  · rintro ⟨q, hq, h⟩
    exact List.mem_map.mpr ⟨q, hq, of_decide_eq_true h⟩
  · intro h
    obtain ⟨q, hq, e⟩ := List.mem_map.mp h
    exact ⟨q, hq, decide_eq_true e⟩
theorem rep_keys {l : List (Str × PyData)} {k : Str} {d : PyData} : (repD l k d).map (·.1) = l.map (·.1) := by
  unfold repD
  rw [List.map_map]
  refine List.map_congr_left fun q _ => ?_
  show (if q.1 = k then (q.1, d) else q).1 = q.1
  split <;> rfl
theorem rep_look {l : List (Str × PyData)} {k x : Str} {d : PyData} (h : k ∈ l.map (·.1)) : lookD (repD l k d) x = if k = x then some d else lookD l x := by
  induction l with
  | nil => cases h
  | cons q l ih =>
    obtain ⟨k', d'⟩ := q
    by_cases e : k' = k
    · subst e
      have e1 : repD ((k', d') :: l) k' d = (k', d) :: repD l k' d := by unfold repD; rw [List.map_cons, if_pos rfl]
      rw [e1]
      by_cases z : k' = x
      · subst z
        unfold lookD
        simp
      · by_cases hm : k' ∈ l.map (·.1)
        · have := ih hm
          unfold lookD at this ⊢
          simp only [List.find?_cons, decide_eq_false z, if_neg z] at this ⊢
          exact this
        · have e2 : repD l k' d = l := by
            unfold repD
            conv => rhs; rw [← List.map_id l]
            refine List.map_congr_left fun q hq => ?_
            rw [if_neg fun z => hm (List.mem_map.mpr ⟨q, hq, z⟩)]
            rfl
          rw [e2]
          unfold lookD
          simp only [List.find?_cons, decide_eq_false z, if_neg z]
    · have hm : k ∈ l.map (·.1) := by
        rcases List.mem_cons.mp h with z | z
        · exact absurd z.symm e
        · exact z
      have e1 : repD ((k', d') :: l) k d = (k', d') :: repD l k d := by unfold repD; rw [List.map_cons, if_neg e]
      rw [e1]
      have := ih hm
      unfold lookD at this ⊢
      simp only [List.find?_cons]
      by_cases z : k' = x
      · subst z
        simp [Ne.symm e]
      · simp only [decide_eq_false z]
        exact this
theorem merge_app : ∀ {l acc r : List (Str × PyData)}, mergeD acc (l ++ r) = mergeD (mergeD acc l) r
  | [], _, _ => rfl
  | (k, d) :: l, acc, r => merge_app (l := l) (acc := putD acc k d) (r := r)
theorem put_new {l : List (Str × PyData)} {k : Str} {d : PyData} (h : k ∉ l.map (·.1)) : putD l k d = l ++ [(k, d)] := by
  unfold putD
  rw [if_neg fun z => h (has_iff.mp z)]
theorem put_old {l : List (Str × PyData)} {k : Str} {d : PyData} (h : k ∈ l.map (·.1)) : putD l k d = repD l k d := by
  unfold putD
  rw [if_pos (has_iff.mpr h)]
theorem merge_nd : ∀ {l acc : List (Str × PyData)}, ((acc ++ l).map (·.1)).Nodup → mergeD acc l = acc ++ l
  | [], acc, _ => (List.append_nil acc).symm
  | (k, d) :: l, acc, h => by
    have hk : k ∉ acc.map (·.1) := fun z => by
      rw [List.map_append, List.map_cons] at h
      exact (List.nodup_append.mp h).2.2 k z k (List.mem_cons_self ..) rfl
    show mergeD (putD acc k d) l = _
    rw [put_new hk, merge_nd (by rw [List.append_assoc]; exact h), List.append_assoc]
    rfl
theorem cut_id {M : Hp} {p : Addr} (h : M p = none) : cutG M p = M := by
  funext x
  by_cases e : x = p
  · rw [e, cut_none, h]
  · exact if_neg e
end Sb

namespace K99
open PySem PySem.Spec PyProof.Rows L2 Sb
local macro_rules | `(tactic| walk_at "ex") => `(tactic| first | exact Ex.refl _ | assumption | (refine' Ex.trans ?_ (by assumption); walk_at "ex"))
local macro_rules | `(tactic| walk_at "rp") => `(tactic| first | assumption | (refine' Rp.up ?e (by assumption); (case e => walk_at "ex")) | exact rfl)
local macro_rules | `(tactic| walk_at "rd") => `(tactic| with_reducible first | exact rd_add | exact rd_sub | exact rd_lt | exact rd_le | exact rd_gt | exact rd_ge | exact rd_eqI | exact rd_neI | exact rd_eqS | exact rd_neS | exact rd_isN | exact rd_ltS | exact rd_inSign | exact rd_eqE)
local macro_rules | `(tactic| walk_at "tr") => `(tactic| first
  | with_reducible exact d_int
  | with_reducible exact d_str
  | with_reducible exact d_bl
  | with_reducible exact d_non
  | with_reducible exact a_nil
  | with_reducible exact b_yes
  | with_reducible exact o_none
  | with_reducible exact d_newD
  | ((with_reducible refine' d_var ?i ?r); (case i => rfl); (case r => walk_at "rp"))
  | ((with_reducible refine' a_cons ?a ?b); (case a => walk_at "tr"); (case b => walk_at "tr"))
  | ((with_reducible refine' a_star ?a ?b); (case a => walk_at "tr"); (case b => walk_at "tr"))
  | ((with_reducible refine' d_isi ?a ?b); (case a => walk_at "tr"); (case b => decide))
  | ((with_reducible refine' d_op ?a ?b ?c); (case a => walk_at "tr"); (case b => walk_at "tr"); (case c => walk_at "rd"))
  | ((with_reducible refine' d_tup ?a ?b); (case a => walk_at "tr"); (case b => first | decide | (simp; done)))
  | ((with_reducible refine' d_lst ?a ?b); (case a => walk_at "tr"); (case b => first | decide | (simp; done)))
  | ((with_reducible refine' o_some ?a); (case a => walk_at "tr"))
  | ((with_reducible refine' b_B ?a); (case a => walk_at "tr"))
  | ((with_reducible refine' b_T ?a); (case a => walk_at "tr"))
  | ((with_reducible refine' b_not ?a); (case a => walk_at "tr"))
  | ((with_reducible refine' v_not ?a); (case a => walk_at "tr"))
  | ((with_reducible refine' b_or ?a ?b); (case a => walk_at "tr"); (case b => intro _; walk_at "tr"))
  | ((with_reducible refine' b_and ?a ?b); (case a => walk_at "tr"); (case b => intro _; walk_at "tr"))
  | ((with_reducible refine' v_or ?a ?b); (case a => walk_at "tr"); (case b => intro _; walk_at "tr"))
  | ((with_reducible refine' v_and ?a ?b); (case a => walk_at "tr"); (case b => intro _; walk_at "tr"))
  | assumption)


def top (i : Nat) : Stmt := PySem.Challenge.pw_scanbars_k99_errors_of_texts.main.body.getD i (.Pass ⟨0, 0, 0, 0⟩)
abbrev s_is_integer : Stmt := top 19
theorem sc_is_integer : FnScope ["value", "least", "most"] ["value", "least", "most"] (defScope s_is_integer) := ⟨rfl, rfl, rfl, by decide +kernel, rfl, by decide +kernel, by decide +kernel⟩
def d_is_integer : He.DefD := ⟨("is_integer", none), "is_integer", "is_integer", defArgs s_is_integer, defBody s_is_integer, defScope s_is_integer, [.non, .non], []⟩
abbrev s_is_name : Stmt := top 20
theorem sc_is_name : FnScope ["value"] ["value"] (defScope s_is_name) := ⟨rfl, rfl, rfl, by decide +kernel, rfl, by decide +kernel, by decide +kernel⟩
def d_is_name : He.DefD := ⟨("is_name", none), "is_name", "is_name", defArgs s_is_name, defBody s_is_name, defScope s_is_name, [], []⟩
abbrev s_are_widths : Stmt := top 21
theorem sc_are_widths : FnScope ["value", "least", "most", "item"] ["value", "least", "most"] (defScope s_are_widths) := ⟨rfl, rfl, rfl, by decide +kernel, rfl, by decide +kernel, by decide +kernel⟩
def d_are_widths : He.DefD := ⟨("are_widths", none), "are_widths", "are_widths", defArgs s_are_widths, defBody s_are_widths, defScope s_are_widths, [], []⟩
abbrev s_is_widths : Stmt := top 22
theorem sc_is_widths : FnScope ["value"] ["value"] (defScope s_is_widths) := ⟨rfl, rfl, rfl, by decide +kernel, rfl, by decide +kernel, by decide +kernel⟩
def d_is_widths : He.DefD := ⟨("is_widths", none), "is_widths", "is_widths", defArgs s_is_widths, defBody s_is_widths, defScope s_is_widths, [], []⟩
abbrev s_fault_of_characters : Stmt := top 23
theorem sc_fault_of_characters : FnScope ["value", "name"] ["value"] (defScope s_fault_of_characters) := ⟨rfl, rfl, rfl, by decide +kernel, rfl, by decide +kernel, by decide +kernel⟩
def d_fault_of_characters : He.DefD := ⟨("fault_of_characters", none), "fault_of_characters", "fault_of_characters", defArgs s_fault_of_characters, defBody s_fault_of_characters, defScope s_fault_of_characters, [], []⟩
abbrev s_fault_of_code : Stmt := top 24
theorem sc_fault_of_code : FnScope ["value", "start", "characters", "between", "stop", "found", "name"] ["value"] (defScope s_fault_of_code) := ⟨rfl, rfl, rfl, by decide +kernel, rfl, by decide +kernel, by decide +kernel⟩
def d_fault_of_code : He.DefD := ⟨("fault_of_code", none), "fault_of_code", "fault_of_code", defArgs s_fault_of_code, defBody s_fault_of_code, defScope s_fault_of_code, [], []⟩
abbrev s_require_code : Stmt := top 25
theorem sc_require_code : FnScope ["value", "faults", "part", "name"] ["value"] (defScope s_require_code) := ⟨rfl, rfl, rfl, by decide +kernel, rfl, by decide +kernel, by decide +kernel⟩
def d_require_code : He.DefD := ⟨("require_code", none), "require_code", "require_code", defArgs s_require_code, defBody s_require_code, defScope s_require_code, [], []⟩
abbrev s_is_text : Stmt := top 26
theorem sc_is_text : FnScope ["code", "value", "name"] ["code", "value"] (defScope s_is_text) := ⟨rfl, rfl, rfl, by decide +kernel, rfl, by decide +kernel, by decide +kernel⟩
def d_is_text : He.DefD := ⟨("is_text", none), "is_text", "is_text", defArgs s_is_text, defBody s_is_text, defScope s_is_text, [], []⟩
abbrev s_require_text : Stmt := top 27
theorem sc_require_text : FnScope ["code", "value"] ["code", "value"] (defScope s_require_text) := ⟨rfl, rfl, rfl, by decide +kernel, rfl, by decide +kernel, by decide +kernel⟩
def d_require_text : He.DefD := ⟨("require_text", none), "require_text", "require_text", defArgs s_require_text, defBody s_require_text, defScope s_require_text, [], []⟩
abbrev s_fault_of_scan : Stmt := top 28
theorem sc_fault_of_scan : FnScope ["value", "index", "item"] ["value"] (defScope s_fault_of_scan) := ⟨rfl, rfl, rfl, by decide +kernel, rfl, by decide +kernel, by decide +kernel⟩
def d_fault_of_scan : He.DefD := ⟨("fault_of_scan", none), "fault_of_scan", "fault_of_scan", defArgs s_fault_of_scan, defBody s_fault_of_scan, defScope s_fault_of_scan, [], []⟩
abbrev s_require_scan : Stmt := top 29
theorem sc_require_scan : FnScope ["value", "faults"] ["value"] (defScope s_require_scan) := ⟨rfl, rfl, rfl, by decide +kernel, rfl, by decide +kernel, by decide +kernel⟩
def d_require_scan : He.DefD := ⟨("require_scan", none), "require_scan", "require_scan", defArgs s_require_scan, defBody s_require_scan, defScope s_require_scan, [], []⟩
abbrev s_row_by : Stmt := top 30
theorem sc_row_by : FnScope ["code", "text", "start", "characters", "between", "stop", "found", "name"] ["code", "text"] (defScope s_row_by) := ⟨rfl, rfl, rfl, by decide +kernel, rfl, by decide +kernel, by decide +kernel⟩
def d_row_by : He.DefD := ⟨("row_by", none), "row_by", "row_by", defArgs s_row_by, defBody s_row_by, defScope s_row_by, [], []⟩
abbrev s_line_of : Stmt := top 32
theorem sc_line_of : FnScope ["word", "widths", "width"] ["word", "widths"] (defScope s_line_of) := ⟨rfl, rfl, rfl, by decide +kernel, rfl, by decide +kernel, by decide +kernel⟩
def d_line_of : He.DefD := ⟨("line_of", none), "line_of", "line_of", defArgs s_line_of, defBody s_line_of, defScope s_line_of, [], []⟩
abbrev s_format_code : Stmt := top 33
theorem sc_format_code : FnScope ["code", "start", "characters", "between", "stop", "lines", "name"] ["code"] (defScope s_format_code) := ⟨rfl, rfl, rfl, by decide +kernel, rfl, by decide +kernel, by decide +kernel⟩
def d_format_code : He.DefD := ⟨("format_code", none), "format_code", "format_code", defArgs s_format_code, defBody s_format_code, defScope s_format_code, [], []⟩
abbrev s_format_scan : Stmt := top 34
theorem sc_format_scan : FnScope ["scan", "duration"] ["scan"] (defScope s_format_scan) := ⟨rfl, rfl, rfl, by decide +kernel, rfl, by decide +kernel, by decide +kernel⟩
def d_format_scan : He.DefD := ⟨("format_scan", none), "format_scan", "format_scan", defArgs s_format_scan, defBody s_format_scan, defScope s_format_scan, [], []⟩
abbrev s_bars : Stmt := top 35
theorem sc_bars : FnScope ["code", "text", "place", "width"] ["code", "text"] (defScope s_bars) := ⟨rfl, rfl, rfl, by decide +kernel, rfl, by decide +kernel, by decide +kernel⟩
def d_bars : He.DefD := ⟨("bars", none), "bars", "bars", defArgs s_bars, defBody s_bars, defScope s_bars, [], []⟩
abbrev s__law_reel : Stmt := top 37
theorem sc__law_reel : FnScope ["script", "index", "cell", "mixed", "spot", "other"] ["script", "index"] (defScope s__law_reel) := ⟨rfl, rfl, rfl, by decide +kernel, rfl, by decide +kernel, by decide +kernel⟩
def d__law_reel : He.DefD := ⟨("_law_reel", none), "_law_reel", "_law_reel", defArgs s__law_reel, defBody s__law_reel, defScope s__law_reel, [], []⟩
abbrev s__law_spin : Stmt := top 38
theorem sc__law_spin : FnScope ["reel", "size", "digit", "wide"] ["reel", "size"] (defScope s__law_spin) := ⟨rfl, rfl, rfl, by decide +kernel, rfl, by decide +kernel, by decide +kernel⟩
def d__law_spin : He.DefD := ⟨("_law_spin", none), "_law_spin", "_law_spin", defArgs s__law_spin, defBody s__law_spin, defScope s__law_spin, [], []⟩
abbrev s__law_widths : Stmt := top 39
theorem sc__law_widths : FnScope ["reel", "least", "most", "turn"] ["reel", "least", "most"] (defScope s__law_widths) := ⟨rfl, rfl, rfl, by decide +kernel, rfl, by decide +kernel, by decide +kernel⟩
def d__law_widths : He.DefD := ⟨("_law_widths", none), "_law_widths", "_law_widths", defArgs s__law_widths, defBody s__law_widths, defScope s__law_widths, [], []⟩
abbrev s__law_code : Stmt := top 40
theorem sc__law_code : FnScope ["reel", "many", "most", "letters", "rows", "way", "same", "chains", "chain", "ends", "turn", "row", "at", "width", "some", "between"] ["reel", "many", "most"] (defScope s__law_code) := ⟨rfl, rfl, rfl, by decide +kernel, rfl, by decide +kernel, by decide +kernel⟩
def d__law_code : He.DefD := ⟨("_law_code", none), "_law_code", "_law_code", defArgs s__law_code, defBody s__law_code, defScope s__law_code, [], []⟩
abbrev s__law_class : Stmt := top 41
theorem sc__law_class : FnScope ["e", "some", "found", "word", "is_one"] ["e"] (defScope s__law_class) := ⟨rfl, rfl, rfl, by decide +kernel, rfl, by decide +kernel, by decide +kernel⟩
def d__law_class : He.DefD := ⟨("_law_class", none), "_law_class", "_law_class", defArgs s__law_class, defBody s__law_class, defScope s__law_class, [], []⟩
abbrev s__law_bad_codes : Stmt := top 42
theorem sc__law_bad_codes : FnScope ["reel", "code", "start", "some", "between", "stop", "names", "name", "free", "found", "odd", "odds", "one"] ["reel", "code"] (defScope s__law_bad_codes) := ⟨rfl, rfl, rfl, by decide +kernel, rfl, by decide +kernel, by decide +kernel⟩
def d__law_bad_codes : He.DefD := ⟨("_law_bad_codes", none), "_law_bad_codes", "_law_bad_codes", defArgs s__law_bad_codes, defBody s__law_bad_codes, defScope s__law_bad_codes, [], []⟩
abbrev s__law_bad_scans : Stmt := top 43
theorem sc__law_bad_scans : FnScope ["reel", "size", "scan", "at", "found", "odd"] ["reel"] (defScope s__law_bad_scans) := ⟨rfl, rfl, rfl, by decide +kernel, rfl, by decide +kernel, by decide +kernel⟩
def d__law_bad_scans : He.DefD := ⟨("_law_bad_scans", none), "_law_bad_scans", "_law_bad_scans", defArgs s__law_bad_scans, defBody s__law_bad_scans, defScope s__law_bad_scans, [], []⟩
abbrev s__law_told : Stmt := top 44
theorem sc__law_told : FnScope ["door", "one", "other", "kept", "told", "e"] ["door", "one", "other"] (defScope s__law_told) := ⟨rfl, rfl, rfl, by decide +kernel, rfl, by decide +kernel, by decide +kernel⟩
def d__law_told : He.DefD := ⟨("_law_told", none), "_law_told", "_law_told", defArgs s__law_told, defBody s__law_told, defScope s__law_told, [], []⟩
abbrev s__law_right : Stmt := top 45
theorem sc__law_right : FnScope ["reel", "code", "names", "free", "text", "bad", "part", "name", "told", "at", "odds", "odd", "index_here", "one", "turn"] ["reel", "code"] (defScope s__law_right) := ⟨rfl, rfl, rfl, by decide +kernel, rfl, by decide +kernel, by decide +kernel⟩
def d__law_right : He.DefD := ⟨("_law_right", none), "_law_right", "_law_right", defArgs s__law_right, defBody s__law_right, defScope s__law_right, [], []⟩
abbrev s_law : Stmt := top 46
theorem sc_law : FnScope ["script", "index", "reel", "plain", "told", "scan"] ["script"] (defScope s_law) := ⟨rfl, rfl, rfl, by decide +kernel, rfl, by decide +kernel, by decide +kernel⟩
def d_law : He.DefD := ⟨("law", none), "law", "law", defArgs s_law, defBody s_law, defScope s_law, [], []⟩
def inCls (s : Stmt) (j : Nat) : Stmt := match s with
  | .ClassDef _ _ _ body _ _ _ _ _ _ _ => body.getD j (.Pass ⟨0, 0, 0, 0⟩)
  | _ => .Pass ⟨0, 0, 0, 0⟩
abbrev si_InvalidCode : Stmt := inCls (top 11) 0
theorem sci_InvalidCode : FnScope ["self", "part", "name"] ["self", "part", "name"] (defScope si_InvalidCode) := ⟨rfl, rfl, rfl, by decide +kernel, rfl, by decide +kernel, by decide +kernel⟩
def di_InvalidCode : He.DefD := ⟨("InvalidCode", some "__init__"), "__init__", "InvalidCode.__init__", defArgs si_InvalidCode, defBody si_InvalidCode, defScope si_InvalidCode, [], []⟩
abbrev si_InvalidScan : Stmt := inCls (top 12) 0
theorem sci_InvalidScan : FnScope ["self", "index"] ["self", "index"] (defScope si_InvalidScan) := ⟨rfl, rfl, rfl, by decide +kernel, rfl, by decide +kernel, by decide +kernel⟩
def di_InvalidScan : He.DefD := ⟨("InvalidScan", some "__init__"), "__init__", "InvalidScan.__init__", defArgs si_InvalidScan, defBody si_InvalidScan, defScope si_InvalidScan, [], []⟩
abbrev si_TooLarge : Stmt := inCls (top 13) 0
theorem sci_TooLarge : FnScope ["self", "limit"] ["self", "limit"] (defScope si_TooLarge) := ⟨rfl, rfl, rfl, by decide +kernel, rfl, by decide +kernel, by decide +kernel⟩
def di_TooLarge : He.DefD := ⟨("TooLarge", some "__init__"), "__init__", "TooLarge.__init__", defArgs si_TooLarge, defBody si_TooLarge, defScope si_TooLarge, [], []⟩
abbrev si_InvalidSyntax : Stmt := inCls (top 14) 0
theorem sci_InvalidSyntax : FnScope ["self", "line", "word"] ["self", "line", "word"] (defScope si_InvalidSyntax) := ⟨rfl, rfl, rfl, by decide +kernel, rfl, by decide +kernel, by decide +kernel⟩
def di_InvalidSyntax : He.DefD := ⟨("InvalidSyntax", some "__init__"), "__init__", "InvalidSyntax.__init__", defArgs si_InvalidSyntax, defBody si_InvalidSyntax, defScope si_InvalidSyntax, [], []⟩
def kitL : List Str := ["InvalidText", "InvalidFactor", "InvalidNumber", "InvalidName", "InvalidWidths", "InvalidRow", "LastCharacter", "NothingToUndo", "InvalidCommand", "InvalidCode", "InvalidScan", "TooLarge", "InvalidSyntax"]
def exB (K : PySem.W.Frag) : Bool := ownX K "InvalidCode" && ownX K "InvalidScan" && ownX K "TooLarge" && ownX K "InvalidSyntax" && parX K "ScanError" && excCB K "InvalidCode" && kitB1 K "InvalidCode" kitL && own0 K "InvalidText" && excCB K "InvalidText" && kitB1 K "InvalidText" kitL && excCB K "InvalidScan" && kitB1 K "InvalidScan" kitL && sysD K
def fn : List He.DefD := [d_is_integer, d_is_name, d_are_widths, d_is_widths, d_fault_of_characters, d_fault_of_code, d_require_code, d_is_text, d_require_text, d_fault_of_scan, d_require_scan, d_row_by, d_line_of, d_format_code, d_format_scan, d_bars, d__law_reel, d__law_spin, d__law_widths, d__law_code, d__law_class, d__law_bad_codes, d__law_bad_scans, d__law_told, d__law_right, d_law, di_InvalidCode, di_InvalidScan, di_TooLarge, di_InvalidSyntax]
def fa : List He.Fa := [.glo "is_integer", .glo "is_name", .glo "are_widths", .glo "is_widths", .glo "fault_of_characters", .glo "fault_of_code", .glo "require_code", .glo "is_text", .glo "require_text", .glo "fault_of_scan", .glo "require_scan", .glo "row_by", .glo "line_of", .glo "format_code", .glo "format_scan", .glo "bars", .glo "_law_reel", .glo "_law_spin", .glo "_law_widths", .glo "_law_code", .glo "_law_class", .glo "_law_bad_codes", .glo "_law_bad_scans", .glo "_law_told", .glo "_law_right", .glo "law", .str "NAMES" "0123456789abcdefghijklmnopqrstuvwxyz", .int "MOST_CHARACTERS" 10, .int "MOST_DURATIONS" 400, .glo "ScanError", .glo "InvalidText", .glo "InvalidFactor", .glo "InvalidNumber", .glo "InvalidName", .glo "InvalidWidths", .glo "InvalidRow", .glo "LastCharacter", .glo "NothingToUndo", .glo "InvalidCommand", .glo "InvalidCode", .glo "InvalidScan", .glo "TooLarge", .glo "InvalidSyntax", .exm "InvalidText" "ScanError" true, .noat "InvalidCode" "part", .noat "InvalidCode" "name", .exm "InvalidCode" "ScanError" true, .exm "InvalidCode" "InvalidText" false, .exm "InvalidCode" "InvalidFactor" false, .exm "InvalidCode" "InvalidNumber" false, .exm "InvalidCode" "InvalidName" false, .exm "InvalidCode" "InvalidWidths" false, .exm "InvalidCode" "InvalidRow" false, .exm "InvalidCode" "LastCharacter" false, .exm "InvalidCode" "NothingToUndo" false, .exm "InvalidCode" "InvalidCommand" false, .exm "InvalidCode" "InvalidCode" true, .exm "InvalidCode" "InvalidScan" false, .exm "InvalidCode" "TooLarge" false, .exm "InvalidCode" "InvalidSyntax" false, .noat "InvalidScan" "index", .exm "InvalidScan" "ScanError" true, .exm "InvalidScan" "InvalidText" false, .exm "InvalidScan" "InvalidFactor" false, .exm "InvalidScan" "InvalidNumber" false, .exm "InvalidScan" "InvalidName" false, .exm "InvalidScan" "InvalidWidths" false, .exm "InvalidScan" "InvalidRow" false, .exm "InvalidScan" "LastCharacter" false, .exm "InvalidScan" "NothingToUndo" false, .exm "InvalidScan" "InvalidCommand" false, .exm "InvalidScan" "InvalidCode" false, .exm "InvalidScan" "InvalidScan" true, .exm "InvalidScan" "TooLarge" false, .exm "InvalidScan" "InvalidSyntax" false, .noat "TooLarge" "limit", .exm "TooLarge" "ScanError" true, .exm "TooLarge" "InvalidText" false, .exm "TooLarge" "InvalidFactor" false, .exm "TooLarge" "InvalidNumber" false, .exm "TooLarge" "InvalidName" false, .exm "TooLarge" "InvalidWidths" false, .exm "TooLarge" "InvalidRow" false, .exm "TooLarge" "LastCharacter" false, .exm "TooLarge" "NothingToUndo" false, .exm "TooLarge" "InvalidCommand" false, .exm "TooLarge" "InvalidCode" false, .exm "TooLarge" "InvalidScan" false, .exm "TooLarge" "TooLarge" true, .exm "TooLarge" "InvalidSyntax" false, .noat "InvalidSyntax" "line", .noat "InvalidSyntax" "word", .exm "InvalidSyntax" "ScanError" true, .exm "InvalidSyntax" "InvalidText" false, .exm "InvalidSyntax" "InvalidFactor" false, .exm "InvalidSyntax" "InvalidNumber" false, .exm "InvalidSyntax" "InvalidName" false, .exm "InvalidSyntax" "InvalidWidths" false, .exm "InvalidSyntax" "InvalidRow" false, .exm "InvalidSyntax" "LastCharacter" false, .exm "InvalidSyntax" "NothingToUndo" false, .exm "InvalidSyntax" "InvalidCommand" false, .exm "InvalidSyntax" "InvalidCode" false, .exm "InvalidSyntax" "InvalidScan" false, .exm "InvalidSyntax" "TooLarge" false, .exm "InvalidSyntax" "InvalidSyntax" true, .free "ValueError", .free "abs", .free "all", .free "bool", .free "dict", .free "enumerate", .free "int", .free "isinstance", .free "len", .free "list", .free "max", .free "min", .free "range", .free "repr", .free "sorted", .free "str", .free "tuple"]
/-- what the top has left -/
def Tx (K : PySem.W.Frag) (mg : Str → Option Value) : Prop := ∃ h : Heap, K.In h ∧ h.Ns mainGlobals mg ∧ He.SaysD fa fn K ∧ exB K = true
section
variable {K : PySem.W.Frag} {mg : Str → Option Value}
theorem Tx.g_is_integer (T : Tx K mg) : mg "is_integer" = some (.ref (He.ga K "is_integer")) := let ⟨_, X, G, c, _⟩ := T; He.glo_ok X G (c.fact 0 (f := .glo "is_integer") rfl)
theorem Tx.f_is_integer (T : Tx K mg) : ∃ fd, FunD K "is_integer" "is_integer" (defArgs s_is_integer) (defBody s_is_integer) (defScope s_is_integer) (d_is_integer.dvs K) (d_is_integer.kws K) (He.ga K "is_integer") fd := let ⟨_, X, G, c, _⟩ := T; c.def_ 0 (d := d_is_integer) rfl
theorem Tx.g_is_name (T : Tx K mg) : mg "is_name" = some (.ref (He.ga K "is_name")) := let ⟨_, X, G, c, _⟩ := T; He.glo_ok X G (c.fact 1 (f := .glo "is_name") rfl)
theorem Tx.f_is_name (T : Tx K mg) : ∃ fd, FunD K "is_name" "is_name" (defArgs s_is_name) (defBody s_is_name) (defScope s_is_name) (d_is_name.dvs K) (d_is_name.kws K) (He.ga K "is_name") fd := let ⟨_, X, G, c, _⟩ := T; c.def_ 1 (d := d_is_name) rfl
theorem Tx.g_are_widths (T : Tx K mg) : mg "are_widths" = some (.ref (He.ga K "are_widths")) := let ⟨_, X, G, c, _⟩ := T; He.glo_ok X G (c.fact 2 (f := .glo "are_widths") rfl)
theorem Tx.f_are_widths (T : Tx K mg) : ∃ fd, FunD K "are_widths" "are_widths" (defArgs s_are_widths) (defBody s_are_widths) (defScope s_are_widths) (d_are_widths.dvs K) (d_are_widths.kws K) (He.ga K "are_widths") fd := let ⟨_, X, G, c, _⟩ := T; c.def_ 2 (d := d_are_widths) rfl
theorem Tx.g_is_widths (T : Tx K mg) : mg "is_widths" = some (.ref (He.ga K "is_widths")) := let ⟨_, X, G, c, _⟩ := T; He.glo_ok X G (c.fact 3 (f := .glo "is_widths") rfl)
theorem Tx.f_is_widths (T : Tx K mg) : ∃ fd, FunD K "is_widths" "is_widths" (defArgs s_is_widths) (defBody s_is_widths) (defScope s_is_widths) (d_is_widths.dvs K) (d_is_widths.kws K) (He.ga K "is_widths") fd := let ⟨_, X, G, c, _⟩ := T; c.def_ 3 (d := d_is_widths) rfl
theorem Tx.g_fault_of_characters (T : Tx K mg) : mg "fault_of_characters" = some (.ref (He.ga K "fault_of_characters")) := let ⟨_, X, G, c, _⟩ := T; He.glo_ok X G (c.fact 4 (f := .glo "fault_of_characters") rfl)
theorem Tx.f_fault_of_characters (T : Tx K mg) : ∃ fd, FunD K "fault_of_characters" "fault_of_characters" (defArgs s_fault_of_characters) (defBody s_fault_of_characters) (defScope s_fault_of_characters) (d_fault_of_characters.dvs K) (d_fault_of_characters.kws K) (He.ga K "fault_of_characters") fd := let ⟨_, X, G, c, _⟩ := T; c.def_ 4 (d := d_fault_of_characters) rfl
theorem Tx.g_fault_of_code (T : Tx K mg) : mg "fault_of_code" = some (.ref (He.ga K "fault_of_code")) := let ⟨_, X, G, c, _⟩ := T; He.glo_ok X G (c.fact 5 (f := .glo "fault_of_code") rfl)
theorem Tx.f_fault_of_code (T : Tx K mg) : ∃ fd, FunD K "fault_of_code" "fault_of_code" (defArgs s_fault_of_code) (defBody s_fault_of_code) (defScope s_fault_of_code) (d_fault_of_code.dvs K) (d_fault_of_code.kws K) (He.ga K "fault_of_code") fd := let ⟨_, X, G, c, _⟩ := T; c.def_ 5 (d := d_fault_of_code) rfl
theorem Tx.g_require_code (T : Tx K mg) : mg "require_code" = some (.ref (He.ga K "require_code")) := let ⟨_, X, G, c, _⟩ := T; He.glo_ok X G (c.fact 6 (f := .glo "require_code") rfl)
theorem Tx.f_require_code (T : Tx K mg) : ∃ fd, FunD K "require_code" "require_code" (defArgs s_require_code) (defBody s_require_code) (defScope s_require_code) (d_require_code.dvs K) (d_require_code.kws K) (He.ga K "require_code") fd := let ⟨_, X, G, c, _⟩ := T; c.def_ 6 (d := d_require_code) rfl
theorem Tx.g_is_text (T : Tx K mg) : mg "is_text" = some (.ref (He.ga K "is_text")) := let ⟨_, X, G, c, _⟩ := T; He.glo_ok X G (c.fact 7 (f := .glo "is_text") rfl)
theorem Tx.f_is_text (T : Tx K mg) : ∃ fd, FunD K "is_text" "is_text" (defArgs s_is_text) (defBody s_is_text) (defScope s_is_text) (d_is_text.dvs K) (d_is_text.kws K) (He.ga K "is_text") fd := let ⟨_, X, G, c, _⟩ := T; c.def_ 7 (d := d_is_text) rfl
theorem Tx.g_require_text (T : Tx K mg) : mg "require_text" = some (.ref (He.ga K "require_text")) := let ⟨_, X, G, c, _⟩ := T; He.glo_ok X G (c.fact 8 (f := .glo "require_text") rfl)
theorem Tx.f_require_text (T : Tx K mg) : ∃ fd, FunD K "require_text" "require_text" (defArgs s_require_text) (defBody s_require_text) (defScope s_require_text) (d_require_text.dvs K) (d_require_text.kws K) (He.ga K "require_text") fd := let ⟨_, X, G, c, _⟩ := T; c.def_ 8 (d := d_require_text) rfl
theorem Tx.g_fault_of_scan (T : Tx K mg) : mg "fault_of_scan" = some (.ref (He.ga K "fault_of_scan")) := let ⟨_, X, G, c, _⟩ := T; He.glo_ok X G (c.fact 9 (f := .glo "fault_of_scan") rfl)
theorem Tx.f_fault_of_scan (T : Tx K mg) : ∃ fd, FunD K "fault_of_scan" "fault_of_scan" (defArgs s_fault_of_scan) (defBody s_fault_of_scan) (defScope s_fault_of_scan) (d_fault_of_scan.dvs K) (d_fault_of_scan.kws K) (He.ga K "fault_of_scan") fd := let ⟨_, X, G, c, _⟩ := T; c.def_ 9 (d := d_fault_of_scan) rfl
theorem Tx.g_require_scan (T : Tx K mg) : mg "require_scan" = some (.ref (He.ga K "require_scan")) := let ⟨_, X, G, c, _⟩ := T; He.glo_ok X G (c.fact 10 (f := .glo "require_scan") rfl)
theorem Tx.f_require_scan (T : Tx K mg) : ∃ fd, FunD K "require_scan" "require_scan" (defArgs s_require_scan) (defBody s_require_scan) (defScope s_require_scan) (d_require_scan.dvs K) (d_require_scan.kws K) (He.ga K "require_scan") fd := let ⟨_, X, G, c, _⟩ := T; c.def_ 10 (d := d_require_scan) rfl
theorem Tx.g_row_by (T : Tx K mg) : mg "row_by" = some (.ref (He.ga K "row_by")) := let ⟨_, X, G, c, _⟩ := T; He.glo_ok X G (c.fact 11 (f := .glo "row_by") rfl)
theorem Tx.f_row_by (T : Tx K mg) : ∃ fd, FunD K "row_by" "row_by" (defArgs s_row_by) (defBody s_row_by) (defScope s_row_by) (d_row_by.dvs K) (d_row_by.kws K) (He.ga K "row_by") fd := let ⟨_, X, G, c, _⟩ := T; c.def_ 11 (d := d_row_by) rfl
theorem Tx.g_line_of (T : Tx K mg) : mg "line_of" = some (.ref (He.ga K "line_of")) := let ⟨_, X, G, c, _⟩ := T; He.glo_ok X G (c.fact 12 (f := .glo "line_of") rfl)
theorem Tx.f_line_of (T : Tx K mg) : ∃ fd, FunD K "line_of" "line_of" (defArgs s_line_of) (defBody s_line_of) (defScope s_line_of) (d_line_of.dvs K) (d_line_of.kws K) (He.ga K "line_of") fd := let ⟨_, X, G, c, _⟩ := T; c.def_ 12 (d := d_line_of) rfl
theorem Tx.g_format_code (T : Tx K mg) : mg "format_code" = some (.ref (He.ga K "format_code")) := let ⟨_, X, G, c, _⟩ := T; He.glo_ok X G (c.fact 13 (f := .glo "format_code") rfl)
theorem Tx.f_format_code (T : Tx K mg) : ∃ fd, FunD K "format_code" "format_code" (defArgs s_format_code) (defBody s_format_code) (defScope s_format_code) (d_format_code.dvs K) (d_format_code.kws K) (He.ga K "format_code") fd := let ⟨_, X, G, c, _⟩ := T; c.def_ 13 (d := d_format_code) rfl
theorem Tx.g_format_scan (T : Tx K mg) : mg "format_scan" = some (.ref (He.ga K "format_scan")) := let ⟨_, X, G, c, _⟩ := T; He.glo_ok X G (c.fact 14 (f := .glo "format_scan") rfl)
theorem Tx.f_format_scan (T : Tx K mg) : ∃ fd, FunD K "format_scan" "format_scan" (defArgs s_format_scan) (defBody s_format_scan) (defScope s_format_scan) (d_format_scan.dvs K) (d_format_scan.kws K) (He.ga K "format_scan") fd := let ⟨_, X, G, c, _⟩ := T; c.def_ 14 (d := d_format_scan) rfl
theorem Tx.g_bars (T : Tx K mg) : mg "bars" = some (.ref (He.ga K "bars")) := let ⟨_, X, G, c, _⟩ := T; He.glo_ok X G (c.fact 15 (f := .glo "bars") rfl)
theorem Tx.f_bars (T : Tx K mg) : ∃ fd, FunD K "bars" "bars" (defArgs s_bars) (defBody s_bars) (defScope s_bars) (d_bars.dvs K) (d_bars.kws K) (He.ga K "bars") fd := let ⟨_, X, G, c, _⟩ := T; c.def_ 15 (d := d_bars) rfl
theorem Tx.g__law_reel (T : Tx K mg) : mg "_law_reel" = some (.ref (He.ga K "_law_reel")) := let ⟨_, X, G, c, _⟩ := T; He.glo_ok X G (c.fact 16 (f := .glo "_law_reel") rfl)
theorem Tx.f__law_reel (T : Tx K mg) : ∃ fd, FunD K "_law_reel" "_law_reel" (defArgs s__law_reel) (defBody s__law_reel) (defScope s__law_reel) (d__law_reel.dvs K) (d__law_reel.kws K) (He.ga K "_law_reel") fd := let ⟨_, X, G, c, _⟩ := T; c.def_ 16 (d := d__law_reel) rfl
theorem Tx.g__law_spin (T : Tx K mg) : mg "_law_spin" = some (.ref (He.ga K "_law_spin")) := let ⟨_, X, G, c, _⟩ := T; He.glo_ok X G (c.fact 17 (f := .glo "_law_spin") rfl)
theorem Tx.f__law_spin (T : Tx K mg) : ∃ fd, FunD K "_law_spin" "_law_spin" (defArgs s__law_spin) (defBody s__law_spin) (defScope s__law_spin) (d__law_spin.dvs K) (d__law_spin.kws K) (He.ga K "_law_spin") fd := let ⟨_, X, G, c, _⟩ := T; c.def_ 17 (d := d__law_spin) rfl
theorem Tx.g__law_widths (T : Tx K mg) : mg "_law_widths" = some (.ref (He.ga K "_law_widths")) := let ⟨_, X, G, c, _⟩ := T; He.glo_ok X G (c.fact 18 (f := .glo "_law_widths") rfl)
theorem Tx.f__law_widths (T : Tx K mg) : ∃ fd, FunD K "_law_widths" "_law_widths" (defArgs s__law_widths) (defBody s__law_widths) (defScope s__law_widths) (d__law_widths.dvs K) (d__law_widths.kws K) (He.ga K "_law_widths") fd := let ⟨_, X, G, c, _⟩ := T; c.def_ 18 (d := d__law_widths) rfl
theorem Tx.g__law_code (T : Tx K mg) : mg "_law_code" = some (.ref (He.ga K "_law_code")) := let ⟨_, X, G, c, _⟩ := T; He.glo_ok X G (c.fact 19 (f := .glo "_law_code") rfl)
theorem Tx.f__law_code (T : Tx K mg) : ∃ fd, FunD K "_law_code" "_law_code" (defArgs s__law_code) (defBody s__law_code) (defScope s__law_code) (d__law_code.dvs K) (d__law_code.kws K) (He.ga K "_law_code") fd := let ⟨_, X, G, c, _⟩ := T; c.def_ 19 (d := d__law_code) rfl
theorem Tx.g__law_class (T : Tx K mg) : mg "_law_class" = some (.ref (He.ga K "_law_class")) := let ⟨_, X, G, c, _⟩ := T; He.glo_ok X G (c.fact 20 (f := .glo "_law_class") rfl)
theorem Tx.f__law_class (T : Tx K mg) : ∃ fd, FunD K "_law_class" "_law_class" (defArgs s__law_class) (defBody s__law_class) (defScope s__law_class) (d__law_class.dvs K) (d__law_class.kws K) (He.ga K "_law_class") fd := let ⟨_, X, G, c, _⟩ := T; c.def_ 20 (d := d__law_class) rfl
theorem Tx.g__law_bad_codes (T : Tx K mg) : mg "_law_bad_codes" = some (.ref (He.ga K "_law_bad_codes")) := let ⟨_, X, G, c, _⟩ := T; He.glo_ok X G (c.fact 21 (f := .glo "_law_bad_codes") rfl)
theorem Tx.f__law_bad_codes (T : Tx K mg) : ∃ fd, FunD K "_law_bad_codes" "_law_bad_codes" (defArgs s__law_bad_codes) (defBody s__law_bad_codes) (defScope s__law_bad_codes) (d__law_bad_codes.dvs K) (d__law_bad_codes.kws K) (He.ga K "_law_bad_codes") fd := let ⟨_, X, G, c, _⟩ := T; c.def_ 21 (d := d__law_bad_codes) rfl
theorem Tx.g__law_bad_scans (T : Tx K mg) : mg "_law_bad_scans" = some (.ref (He.ga K "_law_bad_scans")) := let ⟨_, X, G, c, _⟩ := T; He.glo_ok X G (c.fact 22 (f := .glo "_law_bad_scans") rfl)
theorem Tx.f__law_bad_scans (T : Tx K mg) : ∃ fd, FunD K "_law_bad_scans" "_law_bad_scans" (defArgs s__law_bad_scans) (defBody s__law_bad_scans) (defScope s__law_bad_scans) (d__law_bad_scans.dvs K) (d__law_bad_scans.kws K) (He.ga K "_law_bad_scans") fd := let ⟨_, X, G, c, _⟩ := T; c.def_ 22 (d := d__law_bad_scans) rfl
theorem Tx.g__law_told (T : Tx K mg) : mg "_law_told" = some (.ref (He.ga K "_law_told")) := let ⟨_, X, G, c, _⟩ := T; He.glo_ok X G (c.fact 23 (f := .glo "_law_told") rfl)
theorem Tx.f__law_told (T : Tx K mg) : ∃ fd, FunD K "_law_told" "_law_told" (defArgs s__law_told) (defBody s__law_told) (defScope s__law_told) (d__law_told.dvs K) (d__law_told.kws K) (He.ga K "_law_told") fd := let ⟨_, X, G, c, _⟩ := T; c.def_ 23 (d := d__law_told) rfl
theorem Tx.g__law_right (T : Tx K mg) : mg "_law_right" = some (.ref (He.ga K "_law_right")) := let ⟨_, X, G, c, _⟩ := T; He.glo_ok X G (c.fact 24 (f := .glo "_law_right") rfl)
theorem Tx.f__law_right (T : Tx K mg) : ∃ fd, FunD K "_law_right" "_law_right" (defArgs s__law_right) (defBody s__law_right) (defScope s__law_right) (d__law_right.dvs K) (d__law_right.kws K) (He.ga K "_law_right") fd := let ⟨_, X, G, c, _⟩ := T; c.def_ 24 (d := d__law_right) rfl
theorem Tx.g_law (T : Tx K mg) : mg "law" = some (.ref (He.ga K "law")) := let ⟨_, X, G, c, _⟩ := T; He.glo_ok X G (c.fact 25 (f := .glo "law") rfl)
theorem Tx.f_law (T : Tx K mg) : ∃ fd, FunD K "law" "law" (defArgs s_law) (defBody s_law) (defScope s_law) (d_law.dvs K) (d_law.kws K) (He.ga K "law") fd := let ⟨_, X, G, c, _⟩ := T; c.def_ 25 (d := d_law) rfl
theorem Tx.c_NAMES (T : Tx K mg) : ∃ t, mg "NAMES" = some (.str "0123456789abcdefghijklmnopqrstuvwxyz" t) := let ⟨_, X, G, c, _⟩ := T; He.str_ok X G (c.fact 26 (f := .str "NAMES" "0123456789abcdefghijklmnopqrstuvwxyz") rfl)
theorem Tx.c_MOST_CHARACTERS (T : Tx K mg) : ∃ t, mg "MOST_CHARACTERS" = some (.int 10 t) := let ⟨_, X, G, c, _⟩ := T; He.int_ok X G (c.fact 27 (f := .int "MOST_CHARACTERS" 10) rfl)
theorem Tx.c_MOST_DURATIONS (T : Tx K mg) : ∃ t, mg "MOST_DURATIONS" = some (.int 400 t) := let ⟨_, X, G, c, _⟩ := T; He.int_ok X G (c.fact 28 (f := .int "MOST_DURATIONS" 400) rfl)
theorem Tx.gc_ScanError (T : Tx K mg) : mg "ScanError" = some (.ref (He.ga K "ScanError")) := let ⟨_, X, G, c, _⟩ := T; He.glo_ok X G (c.fact 29 (f := .glo "ScanError") rfl)
theorem Tx.gc_InvalidText (T : Tx K mg) : mg "InvalidText" = some (.ref (He.ga K "InvalidText")) := let ⟨_, X, G, c, _⟩ := T; He.glo_ok X G (c.fact 30 (f := .glo "InvalidText") rfl)
theorem Tx.gc_InvalidFactor (T : Tx K mg) : mg "InvalidFactor" = some (.ref (He.ga K "InvalidFactor")) := let ⟨_, X, G, c, _⟩ := T; He.glo_ok X G (c.fact 31 (f := .glo "InvalidFactor") rfl)
theorem Tx.gc_InvalidNumber (T : Tx K mg) : mg "InvalidNumber" = some (.ref (He.ga K "InvalidNumber")) := let ⟨_, X, G, c, _⟩ := T; He.glo_ok X G (c.fact 32 (f := .glo "InvalidNumber") rfl)
theorem Tx.gc_InvalidName (T : Tx K mg) : mg "InvalidName" = some (.ref (He.ga K "InvalidName")) := let ⟨_, X, G, c, _⟩ := T; He.glo_ok X G (c.fact 33 (f := .glo "InvalidName") rfl)
theorem Tx.gc_InvalidWidths (T : Tx K mg) : mg "InvalidWidths" = some (.ref (He.ga K "InvalidWidths")) := let ⟨_, X, G, c, _⟩ := T; He.glo_ok X G (c.fact 34 (f := .glo "InvalidWidths") rfl)
theorem Tx.gc_InvalidRow (T : Tx K mg) : mg "InvalidRow" = some (.ref (He.ga K "InvalidRow")) := let ⟨_, X, G, c, _⟩ := T; He.glo_ok X G (c.fact 35 (f := .glo "InvalidRow") rfl)
theorem Tx.gc_LastCharacter (T : Tx K mg) : mg "LastCharacter" = some (.ref (He.ga K "LastCharacter")) := let ⟨_, X, G, c, _⟩ := T; He.glo_ok X G (c.fact 36 (f := .glo "LastCharacter") rfl)
theorem Tx.gc_NothingToUndo (T : Tx K mg) : mg "NothingToUndo" = some (.ref (He.ga K "NothingToUndo")) := let ⟨_, X, G, c, _⟩ := T; He.glo_ok X G (c.fact 37 (f := .glo "NothingToUndo") rfl)
theorem Tx.gc_InvalidCommand (T : Tx K mg) : mg "InvalidCommand" = some (.ref (He.ga K "InvalidCommand")) := let ⟨_, X, G, c, _⟩ := T; He.glo_ok X G (c.fact 38 (f := .glo "InvalidCommand") rfl)
theorem Tx.gc_InvalidCode (T : Tx K mg) : mg "InvalidCode" = some (.ref (He.ga K "InvalidCode")) := let ⟨_, X, G, c, _⟩ := T; He.glo_ok X G (c.fact 39 (f := .glo "InvalidCode") rfl)
theorem Tx.gc_InvalidScan (T : Tx K mg) : mg "InvalidScan" = some (.ref (He.ga K "InvalidScan")) := let ⟨_, X, G, c, _⟩ := T; He.glo_ok X G (c.fact 40 (f := .glo "InvalidScan") rfl)
theorem Tx.gc_TooLarge (T : Tx K mg) : mg "TooLarge" = some (.ref (He.ga K "TooLarge")) := let ⟨_, X, G, c, _⟩ := T; He.glo_ok X G (c.fact 41 (f := .glo "TooLarge") rfl)
theorem Tx.gc_InvalidSyntax (T : Tx K mg) : mg "InvalidSyntax" = some (.ref (He.ga K "InvalidSyntax")) := let ⟨_, X, G, c, _⟩ := T; He.glo_ok X G (c.fact 42 (f := .glo "InvalidSyntax") rfl)
theorem Tx.x_InvalidText_ScanError (T : Tx K mg) : PySem.W.exmOne K (.ref (He.ga K "InvalidText")) (.ref (He.ga K "ScanError")) = some true := let ⟨_, X, G, c, _⟩ := T; He.exm_ok (c.fact 43 (f := .exm "InvalidText" "ScanError" true) rfl)
theorem Tx.na_InvalidCode_part (T : Tx K mg) : PySem.W.findIn K (.ref (He.ga K "InvalidCode")) "part" = some none := let ⟨_, X, G, c, _⟩ := T; He.noat_ok (c.fact 44 (f := .noat "InvalidCode" "part") rfl)
theorem Tx.na_InvalidCode_name (T : Tx K mg) : PySem.W.findIn K (.ref (He.ga K "InvalidCode")) "name" = some none := let ⟨_, X, G, c, _⟩ := T; He.noat_ok (c.fact 45 (f := .noat "InvalidCode" "name") rfl)
theorem Tx.x_InvalidCode_ScanError (T : Tx K mg) : PySem.W.exmOne K (.ref (He.ga K "InvalidCode")) (.ref (He.ga K "ScanError")) = some true := let ⟨_, X, G, c, _⟩ := T; He.exm_ok (c.fact 46 (f := .exm "InvalidCode" "ScanError" true) rfl)
theorem Tx.x_InvalidCode_InvalidText (T : Tx K mg) : PySem.W.exmOne K (.ref (He.ga K "InvalidCode")) (.ref (He.ga K "InvalidText")) = some false := let ⟨_, X, G, c, _⟩ := T; He.exm_ok (c.fact 47 (f := .exm "InvalidCode" "InvalidText" false) rfl)
theorem Tx.x_InvalidCode_InvalidFactor (T : Tx K mg) : PySem.W.exmOne K (.ref (He.ga K "InvalidCode")) (.ref (He.ga K "InvalidFactor")) = some false := let ⟨_, X, G, c, _⟩ := T; He.exm_ok (c.fact 48 (f := .exm "InvalidCode" "InvalidFactor" false) rfl)
theorem Tx.x_InvalidCode_InvalidNumber (T : Tx K mg) : PySem.W.exmOne K (.ref (He.ga K "InvalidCode")) (.ref (He.ga K "InvalidNumber")) = some false := let ⟨_, X, G, c, _⟩ := T; He.exm_ok (c.fact 49 (f := .exm "InvalidCode" "InvalidNumber" false) rfl)
theorem Tx.x_InvalidCode_InvalidName (T : Tx K mg) : PySem.W.exmOne K (.ref (He.ga K "InvalidCode")) (.ref (He.ga K "InvalidName")) = some false := let ⟨_, X, G, c, _⟩ := T; He.exm_ok (c.fact 50 (f := .exm "InvalidCode" "InvalidName" false) rfl)
theorem Tx.x_InvalidCode_InvalidWidths (T : Tx K mg) : PySem.W.exmOne K (.ref (He.ga K "InvalidCode")) (.ref (He.ga K "InvalidWidths")) = some false := let ⟨_, X, G, c, _⟩ := T; He.exm_ok (c.fact 51 (f := .exm "InvalidCode" "InvalidWidths" false) rfl)
theorem Tx.x_InvalidCode_InvalidRow (T : Tx K mg) : PySem.W.exmOne K (.ref (He.ga K "InvalidCode")) (.ref (He.ga K "InvalidRow")) = some false := let ⟨_, X, G, c, _⟩ := T; He.exm_ok (c.fact 52 (f := .exm "InvalidCode" "InvalidRow" false) rfl)
theorem Tx.x_InvalidCode_LastCharacter (T : Tx K mg) : PySem.W.exmOne K (.ref (He.ga K "InvalidCode")) (.ref (He.ga K "LastCharacter")) = some false := let ⟨_, X, G, c, _⟩ := T; He.exm_ok (c.fact 53 (f := .exm "InvalidCode" "LastCharacter" false) rfl)
theorem Tx.x_InvalidCode_NothingToUndo (T : Tx K mg) : PySem.W.exmOne K (.ref (He.ga K "InvalidCode")) (.ref (He.ga K "NothingToUndo")) = some false := let ⟨_, X, G, c, _⟩ := T; He.exm_ok (c.fact 54 (f := .exm "InvalidCode" "NothingToUndo" false) rfl)
theorem Tx.x_InvalidCode_InvalidCommand (T : Tx K mg) : PySem.W.exmOne K (.ref (He.ga K "InvalidCode")) (.ref (He.ga K "InvalidCommand")) = some false := let ⟨_, X, G, c, _⟩ := T; He.exm_ok (c.fact 55 (f := .exm "InvalidCode" "InvalidCommand" false) rfl)
theorem Tx.x_InvalidCode_InvalidCode (T : Tx K mg) : PySem.W.exmOne K (.ref (He.ga K "InvalidCode")) (.ref (He.ga K "InvalidCode")) = some true := let ⟨_, X, G, c, _⟩ := T; He.exm_ok (c.fact 56 (f := .exm "InvalidCode" "InvalidCode" true) rfl)
theorem Tx.x_InvalidCode_InvalidScan (T : Tx K mg) : PySem.W.exmOne K (.ref (He.ga K "InvalidCode")) (.ref (He.ga K "InvalidScan")) = some false := let ⟨_, X, G, c, _⟩ := T; He.exm_ok (c.fact 57 (f := .exm "InvalidCode" "InvalidScan" false) rfl)
theorem Tx.x_InvalidCode_TooLarge (T : Tx K mg) : PySem.W.exmOne K (.ref (He.ga K "InvalidCode")) (.ref (He.ga K "TooLarge")) = some false := let ⟨_, X, G, c, _⟩ := T; He.exm_ok (c.fact 58 (f := .exm "InvalidCode" "TooLarge" false) rfl)
theorem Tx.x_InvalidCode_InvalidSyntax (T : Tx K mg) : PySem.W.exmOne K (.ref (He.ga K "InvalidCode")) (.ref (He.ga K "InvalidSyntax")) = some false := let ⟨_, X, G, c, _⟩ := T; He.exm_ok (c.fact 59 (f := .exm "InvalidCode" "InvalidSyntax" false) rfl)
theorem Tx.na_InvalidScan_index (T : Tx K mg) : PySem.W.findIn K (.ref (He.ga K "InvalidScan")) "index" = some none := let ⟨_, X, G, c, _⟩ := T; He.noat_ok (c.fact 60 (f := .noat "InvalidScan" "index") rfl)
theorem Tx.x_InvalidScan_ScanError (T : Tx K mg) : PySem.W.exmOne K (.ref (He.ga K "InvalidScan")) (.ref (He.ga K "ScanError")) = some true := let ⟨_, X, G, c, _⟩ := T; He.exm_ok (c.fact 61 (f := .exm "InvalidScan" "ScanError" true) rfl)
theorem Tx.x_InvalidScan_InvalidText (T : Tx K mg) : PySem.W.exmOne K (.ref (He.ga K "InvalidScan")) (.ref (He.ga K "InvalidText")) = some false := let ⟨_, X, G, c, _⟩ := T; He.exm_ok (c.fact 62 (f := .exm "InvalidScan" "InvalidText" false) rfl)
theorem Tx.x_InvalidScan_InvalidFactor (T : Tx K mg) : PySem.W.exmOne K (.ref (He.ga K "InvalidScan")) (.ref (He.ga K "InvalidFactor")) = some false := let ⟨_, X, G, c, _⟩ := T; He.exm_ok (c.fact 63 (f := .exm "InvalidScan" "InvalidFactor" false) rfl)
theorem Tx.x_InvalidScan_InvalidNumber (T : Tx K mg) : PySem.W.exmOne K (.ref (He.ga K "InvalidScan")) (.ref (He.ga K "InvalidNumber")) = some false := let ⟨_, X, G, c, _⟩ := T; He.exm_ok (c.fact 64 (f := .exm "InvalidScan" "InvalidNumber" false) rfl)
theorem Tx.x_InvalidScan_InvalidName (T : Tx K mg) : PySem.W.exmOne K (.ref (He.ga K "InvalidScan")) (.ref (He.ga K "InvalidName")) = some false := let ⟨_, X, G, c, _⟩ := T; He.exm_ok (c.fact 65 (f := .exm "InvalidScan" "InvalidName" false) rfl)
theorem Tx.x_InvalidScan_InvalidWidths (T : Tx K mg) : PySem.W.exmOne K (.ref (He.ga K "InvalidScan")) (.ref (He.ga K "InvalidWidths")) = some false := let ⟨_, X, G, c, _⟩ := T; He.exm_ok (c.fact 66 (f := .exm "InvalidScan" "InvalidWidths" false) rfl)
theorem Tx.x_InvalidScan_InvalidRow (T : Tx K mg) : PySem.W.exmOne K (.ref (He.ga K "InvalidScan")) (.ref (He.ga K "InvalidRow")) = some false := let ⟨_, X, G, c, _⟩ := T; He.exm_ok (c.fact 67 (f := .exm "InvalidScan" "InvalidRow" false) rfl)
theorem Tx.x_InvalidScan_LastCharacter (T : Tx K mg) : PySem.W.exmOne K (.ref (He.ga K "InvalidScan")) (.ref (He.ga K "LastCharacter")) = some false := let ⟨_, X, G, c, _⟩ := T; He.exm_ok (c.fact 68 (f := .exm "InvalidScan" "LastCharacter" false) rfl)
theorem Tx.x_InvalidScan_NothingToUndo (T : Tx K mg) : PySem.W.exmOne K (.ref (He.ga K "InvalidScan")) (.ref (He.ga K "NothingToUndo")) = some false := let ⟨_, X, G, c, _⟩ := T; He.exm_ok (c.fact 69 (f := .exm "InvalidScan" "NothingToUndo" false) rfl)
theorem Tx.x_InvalidScan_InvalidCommand (T : Tx K mg) : PySem.W.exmOne K (.ref (He.ga K "InvalidScan")) (.ref (He.ga K "InvalidCommand")) = some false := let ⟨_, X, G, c, _⟩ := T; He.exm_ok (c.fact 70 (f := .exm "InvalidScan" "InvalidCommand" false) rfl)
theorem Tx.x_InvalidScan_InvalidCode (T : Tx K mg) : PySem.W.exmOne K (.ref (He.ga K "InvalidScan")) (.ref (He.ga K "InvalidCode")) = some false := let ⟨_, X, G, c, _⟩ := T; He.exm_ok (c.fact 71 (f := .exm "InvalidScan" "InvalidCode" false) rfl)
theorem Tx.x_InvalidScan_InvalidScan (T : Tx K mg) : PySem.W.exmOne K (.ref (He.ga K "InvalidScan")) (.ref (He.ga K "InvalidScan")) = some true := let ⟨_, X, G, c, _⟩ := T; He.exm_ok (c.fact 72 (f := .exm "InvalidScan" "InvalidScan" true) rfl)
theorem Tx.x_InvalidScan_TooLarge (T : Tx K mg) : PySem.W.exmOne K (.ref (He.ga K "InvalidScan")) (.ref (He.ga K "TooLarge")) = some false := let ⟨_, X, G, c, _⟩ := T; He.exm_ok (c.fact 73 (f := .exm "InvalidScan" "TooLarge" false) rfl)
theorem Tx.x_InvalidScan_InvalidSyntax (T : Tx K mg) : PySem.W.exmOne K (.ref (He.ga K "InvalidScan")) (.ref (He.ga K "InvalidSyntax")) = some false := let ⟨_, X, G, c, _⟩ := T; He.exm_ok (c.fact 74 (f := .exm "InvalidScan" "InvalidSyntax" false) rfl)
theorem Tx.na_TooLarge_limit (T : Tx K mg) : PySem.W.findIn K (.ref (He.ga K "TooLarge")) "limit" = some none := let ⟨_, X, G, c, _⟩ := T; He.noat_ok (c.fact 75 (f := .noat "TooLarge" "limit") rfl)
theorem Tx.x_TooLarge_ScanError (T : Tx K mg) : PySem.W.exmOne K (.ref (He.ga K "TooLarge")) (.ref (He.ga K "ScanError")) = some true := let ⟨_, X, G, c, _⟩ := T; He.exm_ok (c.fact 76 (f := .exm "TooLarge" "ScanError" true) rfl)
theorem Tx.x_TooLarge_InvalidText (T : Tx K mg) : PySem.W.exmOne K (.ref (He.ga K "TooLarge")) (.ref (He.ga K "InvalidText")) = some false := let ⟨_, X, G, c, _⟩ := T; He.exm_ok (c.fact 77 (f := .exm "TooLarge" "InvalidText" false) rfl)
theorem Tx.x_TooLarge_InvalidFactor (T : Tx K mg) : PySem.W.exmOne K (.ref (He.ga K "TooLarge")) (.ref (He.ga K "InvalidFactor")) = some false := let ⟨_, X, G, c, _⟩ := T; He.exm_ok (c.fact 78 (f := .exm "TooLarge" "InvalidFactor" false) rfl)
theorem Tx.x_TooLarge_InvalidNumber (T : Tx K mg) : PySem.W.exmOne K (.ref (He.ga K "TooLarge")) (.ref (He.ga K "InvalidNumber")) = some false := let ⟨_, X, G, c, _⟩ := T; He.exm_ok (c.fact 79 (f := .exm "TooLarge" "InvalidNumber" false) rfl)
theorem Tx.x_TooLarge_InvalidName (T : Tx K mg) : PySem.W.exmOne K (.ref (He.ga K "TooLarge")) (.ref (He.ga K "InvalidName")) = some false := let ⟨_, X, G, c, _⟩ := T; He.exm_ok (c.fact 80 (f := .exm "TooLarge" "InvalidName" false) rfl)
theorem Tx.x_TooLarge_InvalidWidths (T : Tx K mg) : PySem.W.exmOne K (.ref (He.ga K "TooLarge")) (.ref (He.ga K "InvalidWidths")) = some false := let ⟨_, X, G, c, _⟩ := T; He.exm_ok (c.fact 81 (f := .exm "TooLarge" "InvalidWidths" false) rfl)
theorem Tx.x_TooLarge_InvalidRow (T : Tx K mg) : PySem.W.exmOne K (.ref (He.ga K "TooLarge")) (.ref (He.ga K "InvalidRow")) = some false := let ⟨_, X, G, c, _⟩ := T; He.exm_ok (c.fact 82 (f := .exm "TooLarge" "InvalidRow" false) rfl)
theorem Tx.x_TooLarge_LastCharacter (T : Tx K mg) : PySem.W.exmOne K (.ref (He.ga K "TooLarge")) (.ref (He.ga K "LastCharacter")) = some false := let ⟨_, X, G, c, _⟩ := T; He.exm_ok (c.fact 83 (f := .exm "TooLarge" "LastCharacter" false) rfl)
theorem Tx.x_TooLarge_NothingToUndo (T : Tx K mg) : PySem.W.exmOne K (.ref (He.ga K "TooLarge")) (.ref (He.ga K "NothingToUndo")) = some false := let ⟨_, X, G, c, _⟩ := T; He.exm_ok (c.fact 84 (f := .exm "TooLarge" "NothingToUndo" false) rfl)
theorem Tx.x_TooLarge_InvalidCommand (T : Tx K mg) : PySem.W.exmOne K (.ref (He.ga K "TooLarge")) (.ref (He.ga K "InvalidCommand")) = some false := let ⟨_, X, G, c, _⟩ := T; He.exm_ok (c.fact 85 (f := .exm "TooLarge" "InvalidCommand" false) rfl)
theorem Tx.x_TooLarge_InvalidCode (T : Tx K mg) : PySem.W.exmOne K (.ref (He.ga K "TooLarge")) (.ref (He.ga K "InvalidCode")) = some false := let ⟨_, X, G, c, _⟩ := T; He.exm_ok (c.fact 86 (f := .exm "TooLarge" "InvalidCode" false) rfl)
theorem Tx.x_TooLarge_InvalidScan (T : Tx K mg) : PySem.W.exmOne K (.ref (He.ga K "TooLarge")) (.ref (He.ga K "InvalidScan")) = some false := let ⟨_, X, G, c, _⟩ := T; He.exm_ok (c.fact 87 (f := .exm "TooLarge" "InvalidScan" false) rfl)
theorem Tx.x_TooLarge_TooLarge (T : Tx K mg) : PySem.W.exmOne K (.ref (He.ga K "TooLarge")) (.ref (He.ga K "TooLarge")) = some true := let ⟨_, X, G, c, _⟩ := T; He.exm_ok (c.fact 88 (f := .exm "TooLarge" "TooLarge" true) rfl)
theorem Tx.x_TooLarge_InvalidSyntax (T : Tx K mg) : PySem.W.exmOne K (.ref (He.ga K "TooLarge")) (.ref (He.ga K "InvalidSyntax")) = some false := let ⟨_, X, G, c, _⟩ := T; He.exm_ok (c.fact 89 (f := .exm "TooLarge" "InvalidSyntax" false) rfl)
theorem Tx.na_InvalidSyntax_line (T : Tx K mg) : PySem.W.findIn K (.ref (He.ga K "InvalidSyntax")) "line" = some none := let ⟨_, X, G, c, _⟩ := T; He.noat_ok (c.fact 90 (f := .noat "InvalidSyntax" "line") rfl)
theorem Tx.na_InvalidSyntax_word (T : Tx K mg) : PySem.W.findIn K (.ref (He.ga K "InvalidSyntax")) "word" = some none := let ⟨_, X, G, c, _⟩ := T; He.noat_ok (c.fact 91 (f := .noat "InvalidSyntax" "word") rfl)
theorem Tx.x_InvalidSyntax_ScanError (T : Tx K mg) : PySem.W.exmOne K (.ref (He.ga K "InvalidSyntax")) (.ref (He.ga K "ScanError")) = some true := let ⟨_, X, G, c, _⟩ := T; He.exm_ok (c.fact 92 (f := .exm "InvalidSyntax" "ScanError" true) rfl)
theorem Tx.x_InvalidSyntax_InvalidText (T : Tx K mg) : PySem.W.exmOne K (.ref (He.ga K "InvalidSyntax")) (.ref (He.ga K "InvalidText")) = some false := let ⟨_, X, G, c, _⟩ := T; He.exm_ok (c.fact 93 (f := .exm "InvalidSyntax" "InvalidText" false) rfl)
theorem Tx.x_InvalidSyntax_InvalidFactor (T : Tx K mg) : PySem.W.exmOne K (.ref (He.ga K "InvalidSyntax")) (.ref (He.ga K "InvalidFactor")) = some false := let ⟨_, X, G, c, _⟩ := T; He.exm_ok (c.fact 94 (f := .exm "InvalidSyntax" "InvalidFactor" false) rfl)
theorem Tx.x_InvalidSyntax_InvalidNumber (T : Tx K mg) : PySem.W.exmOne K (.ref (He.ga K "InvalidSyntax")) (.ref (He.ga K "InvalidNumber")) = some false := let ⟨_, X, G, c, _⟩ := T; He.exm_ok (c.fact 95 (f := .exm "InvalidSyntax" "InvalidNumber" false) rfl)
theorem Tx.x_InvalidSyntax_InvalidName (T : Tx K mg) : PySem.W.exmOne K (.ref (He.ga K "InvalidSyntax")) (.ref (He.ga K "InvalidName")) = some false := let ⟨_, X, G, c, _⟩ := T; He.exm_ok (c.fact 96 (f := .exm "InvalidSyntax" "InvalidName" false) rfl)
theorem Tx.x_InvalidSyntax_InvalidWidths (T : Tx K mg) : PySem.W.exmOne K (.ref (He.ga K "InvalidSyntax")) (.ref (He.ga K "InvalidWidths")) = some false := let ⟨_, X, G, c, _⟩ := T; He.exm_ok (c.fact 97 (f := .exm "InvalidSyntax" "InvalidWidths" false) rfl)
theorem Tx.x_InvalidSyntax_InvalidRow (T : Tx K mg) : PySem.W.exmOne K (.ref (He.ga K "InvalidSyntax")) (.ref (He.ga K "InvalidRow")) = some false := let ⟨_, X, G, c, _⟩ := T; He.exm_ok (c.fact 98 (f := .exm "InvalidSyntax" "InvalidRow" false) rfl)
theorem Tx.x_InvalidSyntax_LastCharacter (T : Tx K mg) : PySem.W.exmOne K (.ref (He.ga K "InvalidSyntax")) (.ref (He.ga K "LastCharacter")) = some false := let ⟨_, X, G, c, _⟩ := T; He.exm_ok (c.fact 99 (f := .exm "InvalidSyntax" "LastCharacter" false) rfl)
theorem Tx.x_InvalidSyntax_NothingToUndo (T : Tx K mg) : PySem.W.exmOne K (.ref (He.ga K "InvalidSyntax")) (.ref (He.ga K "NothingToUndo")) = some false := let ⟨_, X, G, c, _⟩ := T; He.exm_ok (c.fact 100 (f := .exm "InvalidSyntax" "NothingToUndo" false) rfl)
theorem Tx.x_InvalidSyntax_InvalidCommand (T : Tx K mg) : PySem.W.exmOne K (.ref (He.ga K "InvalidSyntax")) (.ref (He.ga K "InvalidCommand")) = some false := let ⟨_, X, G, c, _⟩ := T; He.exm_ok (c.fact 101 (f := .exm "InvalidSyntax" "InvalidCommand" false) rfl)
theorem Tx.x_InvalidSyntax_InvalidCode (T : Tx K mg) : PySem.W.exmOne K (.ref (He.ga K "InvalidSyntax")) (.ref (He.ga K "InvalidCode")) = some false := let ⟨_, X, G, c, _⟩ := T; He.exm_ok (c.fact 102 (f := .exm "InvalidSyntax" "InvalidCode" false) rfl)
theorem Tx.x_InvalidSyntax_InvalidScan (T : Tx K mg) : PySem.W.exmOne K (.ref (He.ga K "InvalidSyntax")) (.ref (He.ga K "InvalidScan")) = some false := let ⟨_, X, G, c, _⟩ := T; He.exm_ok (c.fact 103 (f := .exm "InvalidSyntax" "InvalidScan" false) rfl)
theorem Tx.x_InvalidSyntax_TooLarge (T : Tx K mg) : PySem.W.exmOne K (.ref (He.ga K "InvalidSyntax")) (.ref (He.ga K "TooLarge")) = some false := let ⟨_, X, G, c, _⟩ := T; He.exm_ok (c.fact 104 (f := .exm "InvalidSyntax" "TooLarge" false) rfl)
theorem Tx.x_InvalidSyntax_InvalidSyntax (T : Tx K mg) : PySem.W.exmOne K (.ref (He.ga K "InvalidSyntax")) (.ref (He.ga K "InvalidSyntax")) = some true := let ⟨_, X, G, c, _⟩ := T; He.exm_ok (c.fact 105 (f := .exm "InvalidSyntax" "InvalidSyntax" true) rfl)
theorem Tx.fi_InvalidCode (T : Tx K mg) : ∃ fd, FunD K "__init__" "InvalidCode.__init__" (defArgs si_InvalidCode) (defBody si_InvalidCode) (defScope si_InvalidCode) (di_InvalidCode.dvs K) (di_InvalidCode.kws K) (He.ma K (He.ga K "InvalidCode") "__init__") fd := let ⟨_, X, G, c, _⟩ := T; c.def_ 26 (d := di_InvalidCode) rfl
theorem Tx.fi_InvalidScan (T : Tx K mg) : ∃ fd, FunD K "__init__" "InvalidScan.__init__" (defArgs si_InvalidScan) (defBody si_InvalidScan) (defScope si_InvalidScan) (di_InvalidScan.dvs K) (di_InvalidScan.kws K) (He.ma K (He.ga K "InvalidScan") "__init__") fd := let ⟨_, X, G, c, _⟩ := T; c.def_ 27 (d := di_InvalidScan) rfl
theorem Tx.fi_TooLarge (T : Tx K mg) : ∃ fd, FunD K "__init__" "TooLarge.__init__" (defArgs si_TooLarge) (defBody si_TooLarge) (defScope si_TooLarge) (di_TooLarge.dvs K) (di_TooLarge.kws K) (He.ma K (He.ga K "TooLarge") "__init__") fd := let ⟨_, X, G, c, _⟩ := T; c.def_ 28 (d := di_TooLarge) rfl
theorem Tx.fi_InvalidSyntax (T : Tx K mg) : ∃ fd, FunD K "__init__" "InvalidSyntax.__init__" (defArgs si_InvalidSyntax) (defBody si_InvalidSyntax) (defScope si_InvalidSyntax) (di_InvalidSyntax.dvs K) (di_InvalidSyntax.kws K) (He.ma K (He.ga K "InvalidSyntax") "__init__") fd := let ⟨_, X, G, c, _⟩ := T; c.def_ 29 (d := di_InvalidSyntax) rfl
theorem Tx.ex (T : Tx K mg) : exB K = true := let ⟨_, _, _, _, h⟩ := T; h
theorem Tx.o_InvalidCode (T : Tx K mg) : OwnX K "InvalidCode" := ownX_ok (Bool.and_eq_true_iff.mp (Bool.and_eq_true_iff.mp (Bool.and_eq_true_iff.mp (Bool.and_eq_true_iff.mp (Bool.and_eq_true_iff.mp (Bool.and_eq_true_iff.mp (Bool.and_eq_true_iff.mp (Bool.and_eq_true_iff.mp (Bool.and_eq_true_iff.mp (Bool.and_eq_true_iff.mp (Bool.and_eq_true_iff.mp (Bool.and_eq_true_iff.mp T.ex).1).1).1).1).1).1).1).1).1).1).1).1
theorem Tx.o_InvalidScan (T : Tx K mg) : OwnX K "InvalidScan" := ownX_ok (Bool.and_eq_true_iff.mp (Bool.and_eq_true_iff.mp (Bool.and_eq_true_iff.mp (Bool.and_eq_true_iff.mp (Bool.and_eq_true_iff.mp (Bool.and_eq_true_iff.mp (Bool.and_eq_true_iff.mp (Bool.and_eq_true_iff.mp (Bool.and_eq_true_iff.mp (Bool.and_eq_true_iff.mp (Bool.and_eq_true_iff.mp (Bool.and_eq_true_iff.mp T.ex).1).1).1).1).1).1).1).1).1).1).1).2
theorem Tx.o_TooLarge (T : Tx K mg) : OwnX K "TooLarge" := ownX_ok (Bool.and_eq_true_iff.mp (Bool.and_eq_true_iff.mp (Bool.and_eq_true_iff.mp (Bool.and_eq_true_iff.mp (Bool.and_eq_true_iff.mp (Bool.and_eq_true_iff.mp (Bool.and_eq_true_iff.mp (Bool.and_eq_true_iff.mp (Bool.and_eq_true_iff.mp (Bool.and_eq_true_iff.mp (Bool.and_eq_true_iff.mp T.ex).1).1).1).1).1).1).1).1).1).1).2
theorem Tx.o_InvalidSyntax (T : Tx K mg) : OwnX K "InvalidSyntax" := ownX_ok (Bool.and_eq_true_iff.mp (Bool.and_eq_true_iff.mp (Bool.and_eq_true_iff.mp (Bool.and_eq_true_iff.mp (Bool.and_eq_true_iff.mp (Bool.and_eq_true_iff.mp (Bool.and_eq_true_iff.mp (Bool.and_eq_true_iff.mp (Bool.and_eq_true_iff.mp (Bool.and_eq_true_iff.mp T.ex).1).1).1).1).1).1).1).1).1).2
theorem Tx.p_ScanError (T : Tx K mg) : ParX K "ScanError" := parX_ok (Bool.and_eq_true_iff.mp (Bool.and_eq_true_iff.mp (Bool.and_eq_true_iff.mp (Bool.and_eq_true_iff.mp (Bool.and_eq_true_iff.mp (Bool.and_eq_true_iff.mp (Bool.and_eq_true_iff.mp (Bool.and_eq_true_iff.mp (Bool.and_eq_true_iff.mp T.ex).1).1).1).1).1).1).1).1).2
theorem Tx.e_InvalidCode (T : Tx K mg) : ExcC K (He.ga K "InvalidCode") := excCB_ok (Bool.and_eq_true_iff.mp (Bool.and_eq_true_iff.mp (Bool.and_eq_true_iff.mp (Bool.and_eq_true_iff.mp (Bool.and_eq_true_iff.mp (Bool.and_eq_true_iff.mp (Bool.and_eq_true_iff.mp (Bool.and_eq_true_iff.mp T.ex).1).1).1).1).1).1).1).2
theorem Tx.k_InvalidCode (T : Tx K mg) : kitB1 K "InvalidCode" kitL = true := id (Bool.and_eq_true_iff.mp (Bool.and_eq_true_iff.mp (Bool.and_eq_true_iff.mp (Bool.and_eq_true_iff.mp (Bool.and_eq_true_iff.mp (Bool.and_eq_true_iff.mp (Bool.and_eq_true_iff.mp T.ex).1).1).1).1).1).1).2
theorem Tx.z_InvalidText (T : Tx K mg) : Own0 K "InvalidText" := own0_ok (Bool.and_eq_true_iff.mp (Bool.and_eq_true_iff.mp (Bool.and_eq_true_iff.mp (Bool.and_eq_true_iff.mp (Bool.and_eq_true_iff.mp (Bool.and_eq_true_iff.mp T.ex).1).1).1).1).1).2
theorem Tx.e_InvalidText (T : Tx K mg) : ExcC K (He.ga K "InvalidText") := excCB_ok (Bool.and_eq_true_iff.mp (Bool.and_eq_true_iff.mp (Bool.and_eq_true_iff.mp (Bool.and_eq_true_iff.mp (Bool.and_eq_true_iff.mp T.ex).1).1).1).1).2
theorem Tx.k_InvalidText (T : Tx K mg) : kitB1 K "InvalidText" kitL = true := id (Bool.and_eq_true_iff.mp (Bool.and_eq_true_iff.mp (Bool.and_eq_true_iff.mp (Bool.and_eq_true_iff.mp T.ex).1).1).1).2
theorem Tx.e_InvalidScan (T : Tx K mg) : ExcC K (He.ga K "InvalidScan") := excCB_ok (Bool.and_eq_true_iff.mp (Bool.and_eq_true_iff.mp (Bool.and_eq_true_iff.mp T.ex).1).1).2
theorem Tx.k_InvalidScan (T : Tx K mg) : kitB1 K "InvalidScan" kitL = true := id (Bool.and_eq_true_iff.mp (Bool.and_eq_true_iff.mp T.ex).1).2
theorem Tx.sysd (T : Tx K mg) : sysD K = true := id (Bool.and_eq_true_iff.mp T.ex).2
theorem Tx.n_ValueError (T : Tx K mg) : mg "ValueError" = none := let ⟨_, X, G, c, _⟩ := T; He.free_ok X G (c.fact 106 (f := .free "ValueError") rfl)
theorem Tx.n_abs (T : Tx K mg) : mg "abs" = none := let ⟨_, X, G, c, _⟩ := T; He.free_ok X G (c.fact 107 (f := .free "abs") rfl)
theorem Tx.n_all (T : Tx K mg) : mg "all" = none := let ⟨_, X, G, c, _⟩ := T; He.free_ok X G (c.fact 108 (f := .free "all") rfl)
theorem Tx.n_bool (T : Tx K mg) : mg "bool" = none := let ⟨_, X, G, c, _⟩ := T; He.free_ok X G (c.fact 109 (f := .free "bool") rfl)
theorem Tx.n_dict (T : Tx K mg) : mg "dict" = none := let ⟨_, X, G, c, _⟩ := T; He.free_ok X G (c.fact 110 (f := .free "dict") rfl)
theorem Tx.n_enumerate (T : Tx K mg) : mg "enumerate" = none := let ⟨_, X, G, c, _⟩ := T; He.free_ok X G (c.fact 111 (f := .free "enumerate") rfl)
theorem Tx.n_int (T : Tx K mg) : mg "int" = none := let ⟨_, X, G, c, _⟩ := T; He.free_ok X G (c.fact 112 (f := .free "int") rfl)
theorem Tx.n_isinstance (T : Tx K mg) : mg "isinstance" = none := let ⟨_, X, G, c, _⟩ := T; He.free_ok X G (c.fact 113 (f := .free "isinstance") rfl)
theorem Tx.n_len (T : Tx K mg) : mg "len" = none := let ⟨_, X, G, c, _⟩ := T; He.free_ok X G (c.fact 114 (f := .free "len") rfl)
theorem Tx.n_list (T : Tx K mg) : mg "list" = none := let ⟨_, X, G, c, _⟩ := T; He.free_ok X G (c.fact 115 (f := .free "list") rfl)
theorem Tx.n_max (T : Tx K mg) : mg "max" = none := let ⟨_, X, G, c, _⟩ := T; He.free_ok X G (c.fact 116 (f := .free "max") rfl)
theorem Tx.n_min (T : Tx K mg) : mg "min" = none := let ⟨_, X, G, c, _⟩ := T; He.free_ok X G (c.fact 117 (f := .free "min") rfl)
theorem Tx.n_range (T : Tx K mg) : mg "range" = none := let ⟨_, X, G, c, _⟩ := T; He.free_ok X G (c.fact 118 (f := .free "range") rfl)
theorem Tx.n_repr (T : Tx K mg) : mg "repr" = none := let ⟨_, X, G, c, _⟩ := T; He.free_ok X G (c.fact 119 (f := .free "repr") rfl)
theorem Tx.n_sorted (T : Tx K mg) : mg "sorted" = none := let ⟨_, X, G, c, _⟩ := T; He.free_ok X G (c.fact 120 (f := .free "sorted") rfl)
theorem Tx.n_str (T : Tx K mg) : mg "str" = none := let ⟨_, X, G, c, _⟩ := T; He.free_ok X G (c.fact 121 (f := .free "str") rfl)
theorem Tx.n_tuple (T : Tx K mg) : mg "tuple" = none := let ⟨_, X, G, c, _⟩ := T; He.free_ok X G (c.fact 122 (f := .free "tuple") rfl)
end
section
variable {P : Program} {w : World} {K : PySem.W.Frag} {mg : Str → Option Value} {base : Heap}
theorem I_InvalidCode (T : Tx K mg) : ∃ fd ps, FnOk P w K mg base CX0 1 (He.ma K (He.ga K "InvalidCode") "__init__") fd ps (spIni2 (He.ga K "InvalidCode") "part" "name") ∧ Binds K fd ps [] := by
  obtain ⟨fd, F⟩ := T.fi_InvalidCode
  refine ⟨fd, ["self", "part", "name"], F.ok sci_InvalidCode (fun vs H Q E h => ?_) (fun cdv A outer s H vs Q E hr h => ?_), F.bindsN fun _ _ _ _ _ _ us hl => match us, hl with | [_, _, _], _ => rfl⟩
  · obtain ⟨a, v1, v2, rfl, _⟩ := h
    rfl
  · obtain ⟨a, v1, v2, rfl, h1, h2⟩ := h
    exact ⟨_, PSs.nox (pss_cons (ps_expr (pe_ceinit (by rfl) T.gc_ScanError T.p_ScanError (pa_cons (pv 0) (pa_cons pe_str pa_nil)))) (pss_cons (ps_ost (pv 0) (pv 1)) (pss_one (ps_ost (pv 0) (pv 2))))), ini2 T.o_InvalidCode.o T.na_InvalidCode_part T.na_InvalidCode_name h1 h2⟩
theorem I_InvalidScan (T : Tx K mg) : ∃ fd ps, FnOk P w K mg base CX0 1 (He.ma K (He.ga K "InvalidScan") "__init__") fd ps (spIni1 (He.ga K "InvalidScan") "index") ∧ Binds K fd ps [] := by
  obtain ⟨fd, F⟩ := T.fi_InvalidScan
  refine ⟨fd, ["self", "index"], F.ok sci_InvalidScan (fun vs H Q E h => ?_) (fun cdv A outer s H vs Q E hr h => ?_), F.bindsN fun _ _ _ _ _ _ us hl => match us, hl with | [_, _], _ => rfl⟩
  · obtain ⟨a, v1, rfl, _⟩ := h
    rfl
  · obtain ⟨a, v1, rfl, h1, h2⟩ := h
    exact ⟨_, PSs.nox (pss_cons (ps_expr (pe_ceinit (by rfl) T.gc_ScanError T.p_ScanError (pa_cons (pv 0) (pa_cons pe_str pa_nil)))) (pss_one (ps_ost (pv 0) (pv 1)))), ini1 T.o_InvalidScan.o T.na_InvalidScan_index h1 h2⟩
theorem I_TooLarge (T : Tx K mg) : ∃ fd ps, FnOk P w K mg base CX0 1 (He.ma K (He.ga K "TooLarge") "__init__") fd ps (spIni1 (He.ga K "TooLarge") "limit") ∧ Binds K fd ps [] := by
  obtain ⟨fd, F⟩ := T.fi_TooLarge
  refine ⟨fd, ["self", "limit"], F.ok sci_TooLarge (fun vs H Q E h => ?_) (fun cdv A outer s H vs Q E hr h => ?_), F.bindsN fun _ _ _ _ _ _ us hl => match us, hl with | [_, _], _ => rfl⟩
  · obtain ⟨a, v1, rfl, _⟩ := h
    rfl
  · obtain ⟨a, v1, rfl, h1, h2⟩ := h
    exact ⟨_, PSs.nox (pss_cons (ps_expr (pe_ceinit (by rfl) T.gc_ScanError T.p_ScanError (pa_cons (pv 0) (pa_cons pe_str pa_nil)))) (pss_one (ps_ost (pv 0) (pv 1)))), ini1 T.o_TooLarge.o T.na_TooLarge_limit h1 h2⟩
theorem I_InvalidSyntax (T : Tx K mg) : ∃ fd ps, FnOk P w K mg base CX0 1 (He.ma K (He.ga K "InvalidSyntax") "__init__") fd ps (spIni2 (He.ga K "InvalidSyntax") "line" "word") ∧ Binds K fd ps [] := by
  obtain ⟨fd, F⟩ := T.fi_InvalidSyntax
  refine ⟨fd, ["self", "line", "word"], F.ok sci_InvalidSyntax (fun vs H Q E h => ?_) (fun cdv A outer s H vs Q E hr h => ?_), F.bindsN fun _ _ _ _ _ _ us hl => match us, hl with | [_, _, _], _ => rfl⟩
  · obtain ⟨a, v1, v2, rfl, _⟩ := h
    rfl
  · obtain ⟨a, v1, v2, rfl, h1, h2⟩ := h
    exact ⟨_, PSs.nox (pss_cons (ps_expr (pe_ceinit (by rfl) T.gc_ScanError T.p_ScanError (pa_cons (pv 0) (pa_cons pe_str pa_nil)))) (pss_cons (ps_ost (pv 0) (pv 1)) (pss_one (ps_ost (pv 0) (pv 2))))), ini2 T.o_InvalidSyntax.o T.na_InvalidSyntax_line T.na_InvalidSyntax_word h1 h2⟩
end
section
variable {P : Program} {w : World} {K : PySem.W.Frag} {mg : Str → Option Value} {base : Heap}
theorem xK {CX : CXT} {N : List Str} {qual : Str} {scope : Scope} {f : Addr} {cd : Value} {A : Around} {outer : List Env} {s : Shared} {H : Hp} {E : XK} : (cxOf CX P w K mg base N qual scope f cd A outer s H E).nox.K = K := rfl

theorem xK2 {CX : CXT} {N : List Str} {qual : Str} {scope : Scope} {f : Addr} {cd : Value} {A : Around} {outer : List Env} {s : Shared} {H : Hp} {E : XK} : (cxOf CX P w K mg base N qual scope f cd A outer s H E).K = K := rfl
/-! ### values -/
def optI : Option Int → PyData
  | none => .none
  | some i => .int i
def isIntD (d : PyData) (lo hi : Option Int) : Bool := match d with
  | .int i => lo.all (fun z => decide (z ≤ i)) && hi.all (fun z => decide (i ≤ z))
  | _ => false
theorem isInt_no {d : PyData} {lo hi : Option Int} (h : ¬ ∃ i, d = .int i) : isIntD d lo hi = false := by
  cases d <;> first | rfl | exact absurd ⟨_, rfl⟩ h
def R_is_integer : List PyData → PyData → Prop := fun ds r => ∃ d lo hi, ds = [d, optI lo, optI hi] ∧ r = .bool (isIntD d lo hi)
theorem G_is_integer {f : Addr} {fd : FuncData} (T : Tx K mg) (F : FunD K "is_integer" "is_integer" (defArgs s_is_integer) (defBody s_is_integer) (defScope s_is_integer) (d_is_integer.dvs K) (d_is_integer.kws K) f fd) : FnG P w K mg base CX0 1 f fd ["value", "least", "most"] (PSp K R_is_integer) := by
  refine fnG_of F sc_is_integer (fun vs H Q E h => PSp.len (n := 3) (by rintro _ _ ⟨d, lo, hi, rfl, _⟩; rfl) h) (fun cdv A outer s H vs Q E hg hr h => ?_)
  obtain ⟨G, M, ds, r, hA, hR, ⟨d, lo, hi, rfl, rfl⟩, q⟩ := h
  obtain ⟨v0, _, rfl, r0, v1, _, rfl, r1, v2, _, rfl, r2, rfl⟩ := hR
  refine ⟨_, PSs.nox (pss_cons (ps_if (PW.pt (pw_or (pt_not (pt_val (pe_callB call_isi (by rfl) T.n_isinstance (by decide +kernel) (pa_cons (pv 0) (pa_cons (pe_bltn (v := .ty "int") (u := .type "int") (by rfl) T.n_int (by decide +kernel) rfl) pa_nil))))) (pw_or1 (pt_val (pe_callB call_isi (by rfl) T.n_isinstance (by decide +kernel) (pa_cons (pv 0) (pa_cons (pe_bltn (v := .ty "bool") (u := .type "bool") (by rfl) T.n_bool (by decide +kernel) rfl) pa_nil))))))) (pss_one (ps_ret pe_bl)) pss_nil)
    (pss_one (ps_ret (pe_and (pe_or (pe_cmpR op_isN (pv 1) pe_non (nomark _)) (pe_one (pe_cmpR op_ge (pv 0) (pv 1) (nomark _)))) (pe_one (pe_or (pe_cmpR op_isN (pv 2) pe_non (nomark _)) (pe_one (pe_cmpR op_le (pv 0) (pv 2) (nomark _))))))))), ?_⟩
  rw [show L2.start ["value", "least", "most"] [v0, v1, v2] = [some v0, some v1, some v2] from rfl]
  dsimp only [xK]
  by_cases hd : ∃ i, d = .int i
  · obtain ⟨i, rfl⟩ := hd
    refine (q_guardF ?_ hA fun G1 H1 e1 A1 => ?_)
    · exact TrB.to (b := !isA "int" (.int i) || isA "bool" (.int i)) (by walk_at "tr") rfl
    refine s_ret (d := .bool (isIntD (.int i) lo hi)) ?_ A1 (q.mono e1)
    have h1 : TrD K (tOrV (tOp (fun x y H Q => y = V.non ∧ Q (V.bl (decide (x = V.non))) H) (tVar 1) (tC V.non)) (tOp (rI0 fun i j => V.bl (decide (j ≤ i))) (tVar 0) (tVar 1)))
        [some v0, some v1, some v2] G1 (.bool (lo.all fun z => decide (z ≤ i))) := by
      cases lo with
      | none => exact v_orT (TrD.to (d_op (d_var rfl (r1.up e1)) d_non rd_isN) rfl)
      | some l => exact v_orF (TrD.to (d_op (d_var rfl (r1.up e1)) d_non rd_isN) rfl) (d_op (d_var rfl (r0.up e1)) (d_var rfl (r1.up e1)) rd_ge)
    have h2 : TrD K (tOrV (tOp (fun x y H Q => y = V.non ∧ Q (V.bl (decide (x = V.non))) H) (tVar 2) (tC V.non)) (tOp (rI0 fun i j => V.bl (decide (i ≤ j))) (tVar 0) (tVar 2)))
        [some v0, some v1, some v2] G1 (.bool (hi.all fun z => decide (i ≤ z))) := by
      cases hi with
      | none => exact v_orT (TrD.to (d_op (d_var rfl (r2.up e1)) d_non rd_isN) rfl)
      | some l => exact v_orF (TrD.to (d_op (d_var rfl (r2.up e1)) d_non rd_isN) rfl) (d_op (d_var rfl (r0.up e1)) (d_var rfl (r2.up e1)) rd_le)
    exact v_and h1 fun _ => h2
  · rw [isInt_no hd] at q
    refine (q_guardR ?_ hA fun G1 H1 e1 A1 => ?_)
    · exact TrB.to (b := !isA "int" d || isA "bool" d) (by walk_at "tr") (by cases d <;> first | rfl | exact absurd ⟨_, rfl⟩ hd)
    exact s_ret d_bl A1 (q.mono e1)
theorem F_is_integer3 (T : Tx K mg) : Fd P w K mg base CX0 1 "is_integer" (PSp K R_is_integer) [] := by
  obtain ⟨fd, F⟩ := T.f_is_integer
  obtain ⟨ds, hv, hb⟩ := F.binds1 (ps := ["value", "least", "most"]) 3 2 (by intro z; cases z) rfl fun _ _ _ _ _ _ _ us its h1 h2 => match us, its, h1, h2 with | [_, _, _], [_, _], _, _ => ⟨_, rfl, rfl⟩
  cases hv
  exact ⟨_, fd, _, [], T.g_is_integer, F.kp, hb, .nil, G_is_integer T F⟩

theorem F_is_integer2 (T : Tx K mg) : Fd P w K mg base CX0 1 "is_integer" (PSp K R_is_integer) [.non] := by
  obtain ⟨fd, F⟩ := T.f_is_integer
  obtain ⟨ds, hv, hb⟩ := F.binds1 (ps := ["value", "least", "most"]) 2 1 (by intro z; cases z) rfl fun _ _ _ _ _ _ _ us its h1 h2 => match us, its, h1, h2 with | [_, _], [_, _], _, _ => ⟨_, rfl, rfl⟩
  exact ⟨_, fd, _, ds, T.g_is_integer, F.kp, hb, hv, G_is_integer T F⟩
def NAMESs : Str := "0123456789abcdefghijklmnopqrstuvwxyz"
def isNameS (x : Str) : Bool := match x.cps.toList with
  | [c] => decide (c ∈ NAMESs.cps.toList)
  | _ => false
def isNameD (d : PyData) : Bool := match d with
  | .str x => isNameS x
  | _ => false
def R_is_name : List PyData → PyData → Prop := fun ds r => ∃ d, ds = [d] ∧ (∀ x, d = .str x → x.length ≤ 100000) ∧ r = .bool (isNameD d)
theorem one_sign {x : Str} (h : x.length = 1) : ∃ c, x = ⟨#[c]⟩ := by
  obtain ⟨⟨l⟩⟩ := x
  match l, h with
  | [c], _ => exact ⟨c, rfl⟩
theorem F_is_name (T : Tx K mg) : Fd P w K mg base CX0 1 "is_name" (PSp K R_is_name) [] := by
  obtain ⟨fd, F⟩ := T.f_is_name
  refine ⟨_, fd, ["value"], [], T.g_is_name, F.kp, F.bindsN fun _ _ _ _ _ _ us hl => match us, hl with | [_], _ => rfl, .nil, ?_⟩
  refine fnG_of F sc_is_name (fun vs H Q E h => PSp.len (n := 1) (by rintro _ _ ⟨d, rfl, _⟩; rfl) h) (fun cdv A outer s H vs Q E hg hr h => ?_)
  obtain ⟨G, M, ds, r, hA, hR, ⟨d, rfl, hz, rfl⟩, q⟩ := h
  obtain ⟨v0, _, rfl, r0, rfl⟩ := hR
  refine ⟨_, PSs.nox (pss_one (ps_ret (pe_and (pe_callB call_isi (by rfl) T.n_isinstance (by decide +kernel) (pa_cons (pv 0) (pa_cons (pe_bltn (v := .ty "str") (u := .type "str") (by rfl) T.n_str (by decide +kernel) rfl) pa_nil))) (pe_and (pe_cmpR op_eq (pe_callB call_len' (by rfl) T.n_len (by decide +kernel) (pa_cons (pv 0) pa_nil)) pe_int (nomark _)) (pe_one (pe_cmpR op_in_sign (pv 0) (pe_glob (v := .str "0123456789abcdefghijklmnopqrstuvwxyz") (by rfl) T.c_NAMES.choose_spec ⟨_, rfl⟩) (by rfl))))))), ?_⟩
  rw [show L2.start ["value"] [v0] = [some v0] from rfl]
  dsimp only [xK]
  refine s_ret (d := .bool (isNameD d)) ?_ hA q
  by_cases hd : ∃ x, d = .str x
  · obtain ⟨x, rfl⟩ := hd
    refine v_andT (TrD.to (d_isi (n := "str") (d_var rfl r0)) rfl) ?_
    have hl : TrD K _ [some v0] G (.bool (decide ((x.length : Int) = 1))) := d_op (d_cb (a_cons (d_var (i := 0) rfl r0) a_nil) (rc_lenS (K := K) (sz_of (hz x rfl)))) d_int rd_eqI
    by_cases h1 : x.length = 1
    · obtain ⟨c, rfl⟩ := one_sign h1
      refine v_andT (TrD.to hl rfl) ?_
      refine TrD.to (d_op (d_var rfl r0) d_str rd_inSign) ?_
      rfl
    · have e : isNameD (.str x) = false := by
        show isNameS x = false
        unfold isNameS
        split
        · rename_i c hc
          exact absurd (by rw [show x.length = x.cps.toList.length from rfl, hc]; rfl) h1
        · rfl
      rw [e]
      refine v_andF (TrD.to hl ?_)
      rw [decide_eq_false (by omega)]
  · have e : isNameD d = false := by cases d <;> first | rfl | exact absurd ⟨_, rfl⟩ hd
    rw [e]
    exact v_andF (TrD.to (d_isi (n := "str") (d_var rfl r0)) (by cases d <;> first | rfl | exact absurd ⟨_, rfl⟩ hd))

def areWD (d : PyData) (lo hi : Int) : Bool := match d with
  | .tuple ds => decide (lo ≤ (ds.length : Int)) && decide ((ds.length : Int) ≤ hi) && ds.all fun x => isIntD x (some 1) (some 4)
  | _ => false
def R_are_widths : List PyData → PyData → Prop := fun ds r => ∃ d lo hi, ds = [d, .int lo, .int hi] ∧ hi ≤ 1000 ∧ r = .bool (areWD d lo hi)
theorem F_are_widths (T : Tx K mg) : Fd P w K mg base CX0 2 "are_widths" (PSp K R_are_widths) [] := by
  obtain ⟨fd, F⟩ := T.f_are_widths
  refine ⟨_, fd, ["value", "least", "most"], [], T.g_are_widths, F.kp, F.bindsN fun _ _ _ _ _ _ us hl => match us, hl with | [_, _, _], _ => rfl, .nil, ?_⟩
  refine fnG_of F sc_are_widths (fun vs H Q E h => PSp.len (n := 3) (by rintro _ _ ⟨d, lo, hi, rfl, _⟩; rfl) h) (fun cdv A outer s H vs Q E hg hr h => ?_)
  obtain ⟨G, M, ds, r, hA, hR, ⟨d, lo, hi, rfl, hh, rfl⟩, q⟩ := h
  obtain ⟨v0, _, rfl, r0, v1, _, rfl, r1, v2, _, rfl, r2, rfl⟩ := hR
  refine ⟨_, PSs.nox (pss_cons (ps_if (PW.pt (pw_or (pt_not (pt_val (pe_callB call_isi (by rfl) T.n_isinstance (by decide +kernel) (pa_cons (pv 0) (pa_cons (pe_bltn (v := .ty "tuple") (u := .type "tuple") (by rfl) T.n_tuple (by decide +kernel) rfl) pa_nil))))) (pw_or1 (pt_not (pt_chain op_le op_le (pv 1) (pe_callB call_len' (by rfl) T.n_len (by decide +kernel) (pa_cons (pv 0) pa_nil)) (pv 2)))))) (pss_one (ps_ret pe_bl)) pss_nil)
    (pss_one (ps_ret (pe_callB (cr_all rfl) (by rfl) T.n_all (by decide +kernel) (pa_cons (pe_lc (own := [("item", 3)]) (g := gName 3) (by rfl) sc_are_widths.nd (pi_tup (pv 0)) (blkOk_by (own := [("item", 3)]) (N := ["value", "least", "most", "item"]) (sc := defScope s_are_widths) (by decide +kernel)) (fun _ _ _ _ _ => (pg_name (i := 3) sc_are_widths.nd rfl (by first | exact Or.inl rfl | exact Or.inr rfl))) (fun _ _ _ _ _ => pts_nil) (fun _ _ _ _ _ => (pe_fd (F_is_integer3 (P := P) (w := w) (base := base) T) hg (hr.mono (by decide)) pass0 (pa_cons (pv 3) (pa_cons pe_int (pa_cons pe_int pa_nil)))))) pa_nil))))), ?_⟩
  rw [show L2.start ["value", "least", "most", "item"] [v0, v1, v2] = [some v0, some v1, some v2, none] from rfl]
  dsimp only [xK]
  by_cases hd : ∃ ds, d = .tuple ds
  · obtain ⟨ds, rfl⟩ := hd
    have ht : TrB _ [some v0, some v1, some v2, none] G (!isA "tuple" (.tuple ds) || !(decide (lo ≤ (ds.length : Int)) && decide ((ds.length : Int) ≤ hi))) :=
      b_or (b_not (b_B (d_isi (d_var (i := 0) rfl r0)))) fun _ => b_not (b_T (d_chain (d_var (i := 1) rfl r1) (d_cb (a_cons (d_var (i := 0) rfl r0) a_nil) (rc_lenT (K := K))) rd_le (fun _ => d_var (i := 2) rfl r2) fun _ => rd_le))
    by_cases hl : lo ≤ (ds.length : Int) ∧ (ds.length : Int) ≤ hi
    · refine (q_guardF (TrB.to ht ?_) hA fun G1 H1 e1 A1 => ?_)
      · rw [decide_eq_true hl.1, decide_eq_true hl.2]; rfl
      refine s_ret (d := .bool (areWD (.tuple ds) lo hi)) ?_ A1 (q.mono e1)
      have e : areWD (.tuple ds) lo hi = (ds.map fun x => isIntD x (some 1) (some 4)).all id := by
        show (decide (lo ≤ (ds.length : Int)) && decide ((ds.length : Int) ≤ hi) && _) = _
        rw [decide_eq_true hl.1, decide_eq_true hl.2, List.all_map]
        rfl
      rw [e]
      refine d_cb (a_cons ?_ a_nil) rc_all
      refine TrD.to (d_lcT (p := fun _ => true) (f := fun x => .bool (isIntD x (some 1) (some 4))) (d_var rfl (r0.up e1)) (by omega) (fun _ _ _ _ _ _ => b_yes) fun x _ _ v G2 e2 rx => ?_) (by rw [filt_true, List.map_map]; rfl)
      exact d_call0 (a_cons (d_var rfl rx) (a_cons d_int (a_cons d_int a_nil))) ⟨x, some 1, some 4, rfl, rfl⟩
    · have e : areWD (.tuple ds) lo hi = false := by
        show (decide (lo ≤ (ds.length : Int)) && decide ((ds.length : Int) ≤ hi) && _) = false
        by_cases h1 : lo ≤ (ds.length : Int)
        · rw [decide_eq_false (fun z => hl ⟨h1, z⟩), Bool.and_false, Bool.false_and]
        · rw [decide_eq_false h1, Bool.false_and, Bool.false_and]
      rw [e] at q
      refine (q_guardR (TrB.to ht ?_) hA fun G1 H1 e1 A1 => ?_)
      · by_cases h1 : lo ≤ (ds.length : Int)
        · rw [decide_eq_false (fun z => hl ⟨h1, z⟩), Bool.and_false]; rfl
        · rw [decide_eq_false h1, Bool.false_and]; rfl
      exact s_ret d_bl A1 (q.mono e1)
  · have e : areWD d lo hi = false := by cases d <;> first | rfl | exact absurd ⟨_, rfl⟩ hd
    rw [e] at q
    refine (q_guardR (b_orT (TrB.to (b_not (b_B (d_isi (d_var rfl r0)))) ?_)) hA fun G1 H1 e1 A1 => ?_)
    · cases d <;> first | rfl | exact absurd ⟨_, rfl⟩ hd
    exact s_ret d_bl A1 (q.mono e1)
def R_is_widths : List PyData → PyData → Prop := fun ds r => ∃ d, ds = [d] ∧ r = .bool (areWD d 1 6)
theorem F_is_widths (T : Tx K mg) : Fd P w K mg base CX0 3 "is_widths" (PSp K R_is_widths) [] := by
  obtain ⟨fd, F⟩ := T.f_is_widths
  refine ⟨_, fd, ["value"], [], T.g_is_widths, F.kp, F.bindsN fun _ _ _ _ _ _ us hl => match us, hl with | [_], _ => rfl, .nil, ?_⟩
  refine fnG_of F sc_is_widths (fun vs H Q E h => PSp.len (n := 1) (by rintro _ _ ⟨d, rfl, _⟩; rfl) h) (fun cdv A outer s H vs Q E hg hr h => ?_)
  obtain ⟨G, M, ds, r, hA, hR, ⟨d, rfl, rfl⟩, q⟩ := h
  obtain ⟨v0, _, rfl, r0, rfl⟩ := hR
  refine ⟨_, PSs.nox (pss_one (ps_ret (pe_fd (F_are_widths (P := P) (w := w) (base := base) T) hg (hr.mono (by decide)) pass0 (pa_cons (pv 0) (pa_cons pe_int (pa_cons pe_int pa_nil)))))), ?_⟩
  rw [show L2.start ["value"] [v0] = [some v0] from rfl]
  exact s_ret (d_call0 (a_cons (d_var rfl r0) (a_cons d_int (a_cons d_int a_nil))) ⟨d, 1, 6, rfl, by decide, rfl⟩) hA q
end
end K99

namespace K99
open PySem PySem.Spec PyProof.Rows L2 Sb
local macro_rules | `(tactic| walk_at "ex") => `(tactic| first | exact Ex.refl _ | assumption | (refine' Ex.trans ?_ (by assumption); walk_at "ex"))
local macro_rules | `(tactic| walk_at "rp") => `(tactic| first | assumption | (refine' Rp.up ?e (by assumption); (case e => walk_at "ex")) | exact rfl)
local macro_rules | `(tactic| walk_at "rd") => `(tactic| with_reducible first | exact rd_add | exact rd_sub | exact rd_lt | exact rd_le | exact rd_gt | exact rd_ge | exact rd_eqI | exact rd_neI | exact rd_eqS | exact rd_neS | exact rd_isN | exact rd_ltS | exact rd_inSign | exact rd_eqE)
local macro_rules | `(tactic| walk_at "tr") => `(tactic| first
  | with_reducible exact d_int
  | with_reducible exact d_str
  | with_reducible exact d_bl
  | with_reducible exact d_non
  | with_reducible exact a_nil
  | with_reducible exact b_yes
  | with_reducible exact o_none
  | with_reducible exact d_newD
  | ((with_reducible refine' d_var ?i ?r); (case i => rfl); (case r => walk_at "rp"))
  | ((with_reducible refine' a_cons ?a ?b); (case a => walk_at "tr"); (case b => walk_at "tr"))
  | ((with_reducible refine' a_star ?a ?b); (case a => walk_at "tr"); (case b => walk_at "tr"))
  | ((with_reducible refine' d_isi ?a ?b); (case a => walk_at "tr"); (case b => decide))
  | ((with_reducible refine' d_op ?a ?b ?c); (case a => walk_at "tr"); (case b => walk_at "tr"); (case c => walk_at "rd"))
  | ((with_reducible refine' d_tup ?a ?b); (case a => walk_at "tr"); (case b => first | decide | (simp; done)))
  | ((with_reducible refine' d_lst ?a ?b); (case a => walk_at "tr"); (case b => first | decide | (simp; done)))
  | ((with_reducible refine' o_some ?a); (case a => walk_at "tr"))
  | ((with_reducible refine' b_B ?a); (case a => walk_at "tr"))
  | ((with_reducible refine' b_T ?a); (case a => walk_at "tr"))
  | ((with_reducible refine' b_not ?a); (case a => walk_at "tr"))
  | ((with_reducible refine' v_not ?a); (case a => walk_at "tr"))
  | ((with_reducible refine' b_or ?a ?b); (case a => walk_at "tr"); (case b => intro _; walk_at "tr"))
  | ((with_reducible refine' b_and ?a ?b); (case a => walk_at "tr"); (case b => intro _; walk_at "tr"))
  | ((with_reducible refine' v_or ?a ?b); (case a => walk_at "tr"); (case b => intro _; walk_at "tr"))
  | ((with_reducible refine' v_and ?a ?b); (case a => walk_at "tr"); (case b => intro _; walk_at "tr"))
  | assumption)


/-! ### codes -/
def okW (lo hi : Nat) (ns : List Int) : Prop := lo ≤ ns.length ∧ ns.length ≤ hi ∧ ∀ n ∈ ns, 1 ≤ n ∧ n ≤ 4
def chD (cs : List (Str × List Int)) : List (Str × PyData) := cs.map fun p => (p.1, .tuple (dInts p.2))
structure CodeD where
  st : List Int
  cs : List (Str × List Int)
  bt : List Int
  sp : List Int
def CodeD.d (c : CodeD) : PyData := .tuple [.tuple (dInts c.st), .dict (keysD (chD c.cs)), .tuple (dInts c.bt), .tuple (dInts c.sp)]
structure okCs (cs : List (Str × List Int)) : Prop where
  l1 : 1 ≤ cs.length
  l2 : cs.length ≤ 10
  nm : ∀ p ∈ cs, isNameS p.1 = true ∧ okW 1 6 p.2
  nd : (cs.map (·.1)).Nodup
structure CodeD.ok (c : CodeD) : Prop where
  st : okW 1 6 c.st
  cs : okCs c.cs
  bt : okW 0 2 c.bt
  sp : okW 1 6 c.sp
theorem dInts_len (ns : List Int) : (dInts ns).length = ns.length := by simp [dInts]
theorem areWD_ok {ns : List Int} {lo hi : Nat} (h : okW lo hi ns) : areWD (.tuple (dInts ns)) lo hi = true := by
  show (decide ((lo : Int) ≤ ((dInts ns).length : Int)) && decide (((dInts ns).length : Int) ≤ (hi : Int)) && (dInts ns).all _) = true
  rw [dInts_len, decide_eq_true (by have := h.1; omega), decide_eq_true (by have := h.2.1; omega), List.all_eq_true.mpr]
  · rfl
  · intro x hx
    obtain ⟨n, hn, rfl⟩ := List.mem_map.mp hx
    have z := h.2.2 n hn
    show (decide (1 ≤ n) && decide (n ≤ 4)) = true
    rw [decide_eq_true z.1, decide_eq_true z.2]
    rfl
theorem name_len {x : Str} (h : isNameS x = true) : x.length = 1 := by
  unfold isNameS at h
  split at h
  · rename_i c hc
    show x.cps.toList.length = 1
    rw [hc]
    rfl
  · cases h
theorem lookD_mem : ∀ {kvs : List (Str × PyData)} {k : Str} {d : PyData}, (kvs.map (·.1)).Nodup → (k, d) ∈ kvs → lookD kvs k = some d
  | [], _, _, _, h => by cases h
  | (k', d') :: r, k, d, nd, h => by
    unfold lookD
    rw [List.find?_cons]
    have nd' := List.nodup_cons.mp nd
    rcases List.mem_cons.mp h with e | h
    · cases e
      simp
    · have hne : k' ≠ k := fun e => nd'.1 (by rw [e]; exact List.mem_map.mpr ⟨_, h, rfl⟩)
      simp only [decide_eq_false hne]
      exact lookD_mem nd'.2 h
theorem chD_keys (cs : List (Str × List Int)) : (chD cs).map (·.1) = cs.map (·.1) := by unfold chD; rw [List.map_map]; rfl
theorem chD_look {cs : List (Str × List Int)} (h : (cs.map (·.1)).Nodup) {p : Str × List Int} (hp : p ∈ cs) : lookD (chD cs) p.1 = some (.tuple (dInts p.2)) :=
  lookD_mem (by rw [chD_keys]; exact h) (List.mem_map.mpr ⟨p, hp, rfl⟩)
section
variable {P : Program} {w : World} {K : PySem.W.Frag} {mg : Str → Option Value} {base : Heap}
def R_foc : List PyData → PyData → Prop := fun ds r => ∃ cs, ds = [.dict (keysD (chD cs))] ∧ okCs cs ∧ r = .list []
def R_fc : List PyData → PyData → Prop := fun ds r => ∃ c : CodeD, ds = [c.d] ∧ c.ok ∧ r = .list []
def R_rc : List PyData → PyData → Prop := fun ds r => ∃ c : CodeD, ds = [c.d] ∧ c.ok ∧ r = .none
end
end K99

namespace K99
open PySem PySem.Spec PyProof.Rows L2 Sb
local macro_rules | `(tactic| walk_at "ex") => `(tactic| first | exact Ex.refl _ | assumption | (refine' Ex.trans ?_ (by assumption); walk_at "ex"))
local macro_rules | `(tactic| walk_at "rp") => `(tactic| first | assumption | (refine' Rp.up ?e (by assumption); (case e => walk_at "ex")) | exact rfl)
local macro_rules | `(tactic| walk_at "rd") => `(tactic| with_reducible first | exact rd_add | exact rd_sub | exact rd_lt | exact rd_le | exact rd_gt | exact rd_ge | exact rd_eqI | exact rd_neI | exact rd_eqS | exact rd_neS | exact rd_isN | exact rd_ltS | exact rd_inSign | exact rd_eqE)
local macro_rules | `(tactic| walk_at "tr") => `(tactic| first
  | with_reducible exact d_int
  | with_reducible exact d_str
  | with_reducible exact d_bl
  | with_reducible exact d_non
  | with_reducible exact a_nil
  | with_reducible exact b_yes
  | with_reducible exact o_none
  | with_reducible exact d_newD
  | ((with_reducible refine' d_var ?i ?r); (case i => rfl); (case r => walk_at "rp"))
  | ((with_reducible refine' a_cons ?a ?b); (case a => walk_at "tr"); (case b => walk_at "tr"))
  | ((with_reducible refine' a_star ?a ?b); (case a => walk_at "tr"); (case b => walk_at "tr"))
  | ((with_reducible refine' d_isi ?a ?b); (case a => walk_at "tr"); (case b => decide))
  | ((with_reducible refine' d_op ?a ?b ?c); (case a => walk_at "tr"); (case b => walk_at "tr"); (case c => walk_at "rd"))
  | ((with_reducible refine' d_tup ?a ?b); (case a => walk_at "tr"); (case b => first | decide | (simp; done)))
  | ((with_reducible refine' d_lst ?a ?b); (case a => walk_at "tr"); (case b => first | decide | (simp; done)))
  | ((with_reducible refine' o_some ?a); (case a => walk_at "tr"))
  | ((with_reducible refine' b_B ?a); (case a => walk_at "tr"))
  | ((with_reducible refine' b_T ?a); (case a => walk_at "tr"))
  | ((with_reducible refine' b_not ?a); (case a => walk_at "tr"))
  | ((with_reducible refine' v_not ?a); (case a => walk_at "tr"))
  | ((with_reducible refine' b_or ?a ?b); (case a => walk_at "tr"); (case b => intro _; walk_at "tr"))
  | ((with_reducible refine' b_and ?a ?b); (case a => walk_at "tr"); (case b => intro _; walk_at "tr"))
  | ((with_reducible refine' v_or ?a ?b); (case a => walk_at "tr"); (case b => intro _; walk_at "tr"))
  | ((with_reducible refine' v_and ?a ?b); (case a => walk_at "tr"); (case b => intro _; walk_at "tr"))
  | assumption)


/-! ### lines -/
def strI (n : Int) : Str := Str.ofString (toString n)
def lineT (w : Str) (ws : List Int) : Str := Txt.join " " (w :: ws.map strI)
theorem four {n : Int} (h : 1 ≤ n ∧ n ≤ 4) : n = 1 ∨ n = 2 ∨ n = 3 ∨ n = 4 := by omega
theorem strI_len {n : Int} (h : 1 ≤ n ∧ n ≤ 4) : (strI n).length = 1 := by rcases four h with rfl | rfl | rfl | rfl <;> decide
theorem log_ok {n : Int} (h : 1 ≤ n ∧ n ≤ 4) : n.natAbs.log2 < 1920 := by rcases four h with rfl | rfl | rfl | rfl <;> decide
theorem int_back {n : Int} (h : 1 ≤ n ∧ n ≤ 4) : PySem.intText? (strI n) = some n := by rcases four h with rfl | rfl | rfl | rfl <;> decide +kernel
theorem sum_len {ss : List Str} {c : Nat} (h : ∀ s ∈ ss, s.length ≤ c) : (ss.map (·.length)).sum ≤ ss.length * c := by
  induction ss with
  | nil => simp
  | cons s ss ih =>
    rw [List.map_cons, List.sum_cons, List.length_cons, Nat.add_mul, Nat.one_mul]
    have h1 := h s (List.mem_cons_self ..)
    have h2 := ih fun x hx => h x (List.mem_cons_of_mem _ hx)
    omega
theorem lineT_sum {w : Str} {ws : List Int} {hi : Nat} (hw : w.length ≤ 100) (h : okW 0 hi ws) : ((w :: ws.map strI).map (·.length)).sum + (w :: ws.map strI).length * (" " : Str).length ≤ 101 + 2 * hi := by
  have h1 : ((ws.map strI).map (·.length)).sum ≤ (ws.map strI).length * 1 := sum_len fun s hs => by
    obtain ⟨n, hn, rfl⟩ := List.mem_map.mp hs
    rw [strI_len (h.2.2 n hn)]
    exact Nat.le_refl _
  have h2 : (" " : Str).length = 1 := rfl
  rw [List.map_cons, List.sum_cons, List.length_cons, h2, List.length_map] at *
  have := h.2.1
  omega
theorem lineT_len {w : Str} {ws : List Int} {hi : Nat} (hw : w.length ≤ 100) (h : okW 0 hi ws) : (lineT w ws).length ≤ 101 + 2 * hi := by
  unfold lineT
  rw [TL.join_eq]
  exact Nat.le_trans (StrLaws.join_length_le _ _) (lineT_sum hw h)
def strD (d : PyData) : PyData := match d with
  | .int n => .str (strI n)
  | _ => .none
theorem mem_ints {ns : List Int} {d : PyData} (h : d ∈ dInts ns) : ∃ n ∈ ns, d = .int n := by
  obtain ⟨n, hn, e⟩ := List.mem_map.mp h
  exact ⟨n, hn, e.symm⟩
theorem mem_strs {ns : List Str} {d : PyData} (h : d ∈ dStrs ns) : ∃ n ∈ ns, d = .str n := by
  obtain ⟨n, hn, e⟩ := List.mem_map.mp h
  exact ⟨n, hn, e.symm⟩
section
variable {P : Program} {w : World} {K : PySem.W.Frag} {mg : Str → Option Value} {base : Heap}
def R_line_of : List PyData → PyData → Prop := fun ds r => ∃ w ws, ds = [.str w, .tuple (dInts ws)] ∧ w.length ≤ 100 ∧ okW 0 6 ws ∧ r = .str (lineT w ws)
theorem F_line_of (T : Tx K mg) : Fd P w K mg base CX0 1 "line_of" (PSp K R_line_of) [] := by
  obtain ⟨fd, F⟩ := T.f_line_of
  refine ⟨_, fd, ["word", "widths"], [], T.g_line_of, F.kp, F.bindsN fun _ _ _ _ _ _ us hl => match us, hl with | [_, _], _ => rfl, .nil, ?_⟩
  refine fnG_of F sc_line_of (fun vs H Q E h => PSp.len (n := 2) (by rintro _ _ ⟨d, e, rfl, _⟩; rfl) h) (fun cdv A outer s H vs Q E hg hr h => ?_)
  obtain ⟨G, M, ds, r, hA, hR, ⟨x, ws, rfl, hw, ok, rfl⟩, q⟩ := h
  obtain ⟨v0, _, rfl, r0, v1, _, rfl, r1, rfl⟩ := hR
  refine ⟨_, PSs.nox (pss_one (ps_ret (pe_join pe_str (pe_lst (pa_cons (pv 0) (StX.pa_star (pe_lc (own := [("width", 2)]) (g := gName 2) (by rfl) sc_line_of.nd (pi_tup (pv 1)) (blkOk_by (own := [("width", 2)]) (N := ["word", "widths", "width"]) (sc := defScope s_line_of) (by decide +kernel)) (fun _ _ _ _ _ => (pg_name (i := 2) sc_line_of.nd rfl (by first | exact Or.inl rfl | exact Or.inr rfl))) (fun _ _ _ _ _ => pts_nil) (fun _ _ _ _ _ => (pe_callTy call_strI (by rfl) T.n_str (by decide +kernel) (pa_cons (pv 2) pa_nil)))) pa_nil)))))), ?_⟩
  rw [show L2.start ["word", "widths", "width"] [v0, v1] = [some v0, some v1, none] from rfl]
  dsimp only [xK]
  have hn := ok.2.1
  refine s_ret (d_join d_str (TrD.to (d_lst (a_cons (d_var rfl r0) (a_star (d_lcT (p := fun _ => true) (f := strD) (d_var rfl r1) (by rw [dInts_len]; omega) (fun _ _ _ _ _ _ => b_yes) fun d hd _ x G1 e1 rx => ?_) a_nil)) ?_) ?_) ?_) hA q
  · obtain ⟨n, hn, rfl⟩ := mem_ints hd
    exact d_cb (a_cons (d_var rfl rx) a_nil) (rc_strI (log_ok (ok.2.2 n hn)))
  · rw [filt_true, List.length_cons, List.length_append, List.length_map, dInts_len]
    show ws.length + 0 + 1 ≤ _
    omega
  · rw [filt_true, List.append_nil]
    show PyData.list _ = PyData.list (.str x :: dStrs (ws.map strI))
    unfold dInts dStrs
    rw [List.map_map, List.map_map]
    rfl
  · exact Nat.le_trans (lineT_sum hw ok) (by decide)

def wsOf (cs : List (Str × List Int)) (x : Str) : List Int := ((cs.find? fun p => decide (p.1 = x)).map (·.2)).getD []
theorem wsOf_mem : ∀ {cs : List (Str × List Int)} {p : Str × List Int}, (cs.map (·.1)).Nodup → p ∈ cs → wsOf cs p.1 = p.2
  | [], _, _, h => by cases h
  | (k', d') :: r, p, nd, h => by
    unfold wsOf
    rw [List.find?_cons]
    have nd' := List.nodup_cons.mp nd
    rcases List.mem_cons.mp h with e | h
    · cases e
      simp
    · have hne : k' ≠ p.1 := fun e => nd'.1 (by rw [e]; exact List.mem_map.mpr ⟨_, h, rfl⟩)
      simp only [decide_eq_false hne]
      exact wsOf_mem nd'.2 h
theorem wsOf_of {c : CodeD} (ok : c.ok) {x : Str} (hx : x ∈ c.cs.map (·.1)) : isNameS x = true ∧ okW 1 6 (wsOf c.cs x) ∧ lookD (chD c.cs) x = some (.tuple (dInts (wsOf c.cs x))) := by
  obtain ⟨p, hp, rfl⟩ := List.mem_map.mp hx
  rw [wsOf_mem ok.cs.nd hp]
  exact ⟨(ok.cs.nm p hp).1, (ok.cs.nm p hp).2, chD_look ok.cs.nd hp⟩
def nmsT (c : CodeD) : List Str := srt (c.cs.map (·.1))
def linesT (c : CodeD) : List Str := lineT "start" c.st :: ((nmsT c).map (fun x => lineT x (wsOf c.cs x)) ++ ((if c.bt = [] then [] else [lineT "between" c.bt]) ++ [lineT "stop" c.sp]))
def codeT (c : CodeD) : Str := Txt.join "\n" (linesT c)
theorem nmsT_mem {c : CodeD} {x : Str} (h : x ∈ nmsT c) : x ∈ c.cs.map (·.1) := (srt_perm _).mem_iff.mp h
theorem nmsT_len (c : CodeD) : (nmsT c).length = c.cs.length := by unfold nmsT; rw [(srt_perm _).length_eq, List.length_map]
theorem okW.le {lo lo' hi hi' : Nat} {ws : List Int} (h : okW lo hi ws) (h1 : lo' ≤ lo) (h2 : hi ≤ hi') : okW lo' hi' ws := ⟨Nat.le_trans h1 h.1, Nat.le_trans h.2.1 h2, h.2.2⟩
theorem linesT_each {c : CodeD} (ok : c.ok) : ∀ l ∈ linesT c, l.length ≤ 113 := by
  intro l hl
  rcases List.mem_cons.mp hl with rfl | hl
  · exact lineT_len (by decide) (ok.st.le (by decide) (Nat.le_refl 6))
  · rcases List.mem_append.mp hl with hl | hl
    · obtain ⟨x, hx, rfl⟩ := List.mem_map.mp hl
      have z := wsOf_of ok (nmsT_mem hx)
      exact lineT_len (by rw [name_len z.1]; decide) (z.2.1.le (by decide) (Nat.le_refl 6))
    · rcases List.mem_append.mp hl with hl | hl
      · split at hl
        · cases hl
        · rw [List.mem_singleton.mp hl]
          exact lineT_len (by decide) (ok.bt.le (by decide) (by decide : 2 ≤ 6))
      · rw [List.mem_singleton.mp hl]
        exact lineT_len (by decide) (ok.sp.le (by decide) (Nat.le_refl 6))
theorem linesT_len {c : CodeD} (ok : c.ok) : (linesT c).length ≤ 13 := by
  have h1 := ok.cs.l2
  have h2 := nmsT_len c
  unfold linesT
  rw [List.length_cons, List.length_append, List.length_append, List.length_map, List.length_singleton]
  split <;> simp only [List.length_nil, List.length_singleton] <;> omega
theorem codeT_sum {c : CodeD} (ok : c.ok) : ((linesT c).map (·.length)).sum + (linesT c).length * ("\n" : Str).length ≤ 3000 := by
  have h1 := sum_len (linesT_each ok)
  have h2 := linesT_len ok
  have h3 : ("\n" : Str).length = 1 := rfl
  rw [h3]
  have h4 : (linesT c).length * 113 ≤ 13 * 113 := Nat.mul_le_mul_right _ h2
  omega
theorem codeT_len {c : CodeD} (ok : c.ok) : (codeT c).length ≤ 3000 := by
  unfold codeT
  rw [TL.join_eq]
  exact Nat.le_trans (StrLaws.join_length_le _ _) (codeT_sum ok)
def lineD (c : CodeD) (d : PyData) : PyData := match d with
  | .str x => .str (lineT x (wsOf c.cs x))
  | _ => .none
def R_format_code : List PyData → PyData → Prop := fun ds r => ∃ c : CodeD, ds = [c.d] ∧ c.ok ∧ r = .str (codeT c)
end
end K99

namespace K99
open PySem PySem.Spec PyProof.Rows L2 Sb

theorem cut_one (ds : List PyData) : Sb.cutD ds (some 1) none = ds.drop 1 := by
  unfold Sb.cutD HT.sIx
  cases ds with
  | nil => rfl
  | cons d ds =>
    have h : (max 0 (min (1 : Int) ((d :: ds).length : Int))).toNat = 1 := by rw [List.length_cons]; omega
    have h2 : (max 0 (min (((d :: ds).length : Nat) : Int) ((d :: ds).length : Int))).toNat = (d :: ds).length := by omega
    simp
theorem in_four {n : Int} (h : 1 ≤ n ∧ n ≤ 4) : inD (.str (strI n)) [.str "1", .str "2", .str "3", .str "4"] = true := by rcases four h with rfl | rfl | rfl | rfl <;> decide +kernel
def intD (d : PyData) : PyData := match d with
  | .str x => .int ((PySem.intText? x).getD 0)
  | _ => .none
def mayS (x : Str) (ks : List Str) : Bool :=
  let names := ks.filter isNameS
  if ("stop" : Str) ∈ ks then false
  else if x = "start" ∨ ks = [] then decide (x = "start") && ks.isEmpty
  else if x = "stop" then !names.isEmpty
  else if x = "between" then !names.isEmpty && !decide (("between" : Str) ∈ ks)
  else if isNameS x = false ∨ ("between" : Str) ∈ ks ∨ names.length = 10 then false
  else names.all fun z => decide (z.cps.toList < x.cps.toList)
theorem look_some {kvs : List (Str × PyData)} {x : Str} : (lookD kvs x).isSome = decide (x ∈ kvs.map (·.1)) := by
  induction kvs with
  | nil => rfl
  | cons p r ih =>
    unfold lookD at ih ⊢
    rw [List.find?_cons, List.map_cons]
    by_cases h : p.1 = x
    · rw [decide_eq_true h]
      simp [h]
    · simp only [decide_eq_false h]
      rw [ih]
      have h' : ¬ x = p.1 := fun z => h z.symm
      simp [h']
theorem shaped_strs {ss : List Str} (h : ∀ x ∈ ss, x.cps.all (· < 1114112) = true) : SeqAt.shaped (.list (dStrs ss)) = true := by
  have h1 : PyData.canLayAll0 (dStrs ss) = true := by
    induction ss with
    | nil => rfl
    | cons n ns ih =>
      show PyData.canLayAll0 (.str n :: dStrs ns) = true
      have hn := h n (List.mem_cons_self ..)
      simp only [PyData.canLayAll0, PyData.canLay0, ih fun x hx => h x (List.mem_cons_of_mem _ hx), Bool.and_true]
      exact hn
  have h2 : ∀ ns : List Str, PyData.depthAll (dStrs ns) = 0 := fun ns => by
    induction ns with
    | nil => simp [dStrs, PyData.depthAll]
    | cons n ns ih =>
      show PyData.depthAll (.str n :: dStrs ns) = 0
      simp only [PyData.depthAll, PyData.depth, Nat.zero_max]
      exact ih
  unfold SeqAt.shaped
  simp [PyData.canLay0, PyData.depth, h1, h2]
theorem name_cps {x : Str} (h : isNameS x = true) : x.cps.all (· < 1114112) = true := by
  unfold isNameS at h
  split at h
  · rename_i c hc
    have hm := of_decide_eq_true h
    have hlt : c < 1114112 := by
      have hall : ∀ c ∈ NAMESs.cps.toList, c < 1114112 := by decide +kernel
      exact hall c hm
    rw [← Array.all_toList, hc]
    simp [hlt]
  · cases h
end K99

namespace K99
open PySem PySem.Spec PyProof.Rows L2 Sb
local macro_rules | `(tactic| walk_at "ex") => `(tactic| first | exact Ex.refl _ | assumption | (refine' Ex.trans ?_ (by assumption); walk_at "ex"))
local macro_rules | `(tactic| walk_at "rp") => `(tactic| first | assumption | (refine' Rp.up ?e (by assumption); (case e => walk_at "ex")) | exact rfl)
local macro_rules | `(tactic| walk_at "rd") => `(tactic| with_reducible first | exact rd_add | exact rd_sub | exact rd_lt | exact rd_le | exact rd_gt | exact rd_ge | exact rd_eqI | exact rd_neI | exact rd_eqS | exact rd_neS | exact rd_isN | exact rd_ltS | exact rd_inSign | exact rd_eqE)
local macro_rules | `(tactic| walk_at "tr") => `(tactic| first
  | with_reducible exact d_int
  | with_reducible exact d_str
  | with_reducible exact d_bl
  | with_reducible exact d_non
  | with_reducible exact a_nil
  | with_reducible exact b_yes
  | with_reducible exact o_none
  | with_reducible exact d_newD
  | ((with_reducible refine' d_var ?i ?r); (case i => rfl); (case r => walk_at "rp"))
  | ((with_reducible refine' a_cons ?a ?b); (case a => walk_at "tr"); (case b => walk_at "tr"))
  | ((with_reducible refine' a_star ?a ?b); (case a => walk_at "tr"); (case b => walk_at "tr"))
  | ((with_reducible refine' d_isi ?a ?b); (case a => walk_at "tr"); (case b => decide))
  | ((with_reducible refine' d_op ?a ?b ?c); (case a => walk_at "tr"); (case b => walk_at "tr"); (case c => walk_at "rd"))
  | ((with_reducible refine' d_tup ?a ?b); (case a => walk_at "tr"); (case b => first | decide | (simp; done)))
  | ((with_reducible refine' d_lst ?a ?b); (case a => walk_at "tr"); (case b => first | decide | (simp; done)))
  | ((with_reducible refine' o_some ?a); (case a => walk_at "tr"))
  | ((with_reducible refine' b_B ?a); (case a => walk_at "tr"))
  | ((with_reducible refine' b_T ?a); (case a => walk_at "tr"))
  | ((with_reducible refine' b_not ?a); (case a => walk_at "tr"))
  | ((with_reducible refine' v_not ?a); (case a => walk_at "tr"))
  | ((with_reducible refine' b_or ?a ?b); (case a => walk_at "tr"); (case b => intro _; walk_at "tr"))
  | ((with_reducible refine' b_and ?a ?b); (case a => walk_at "tr"); (case b => intro _; walk_at "tr"))
  | ((with_reducible refine' v_or ?a ?b); (case a => walk_at "tr"); (case b => intro _; walk_at "tr"))
  | ((with_reducible refine' v_and ?a ?b); (case a => walk_at "tr"); (case b => intro _; walk_at "tr"))
  | assumption)


def RI (lo hi : Int) : PyData → Prop := fun d => ∃ i : Int, d = .int i ∧ lo ≤ i ∧ i ≤ hi
theorem mod_RI {x s : Int} (h : 0 < s) : RI 0 (s - 1) (.int (x % s)) := ⟨_, rfl, Int.emod_nonneg _ (by omega), by have := Int.emod_lt_of_pos x h; omega⟩
theorem bits_ok {i : Int} (h : i.natAbs < 2 ^ 200) {j : Int} (h0 : 0 ≤ j) (h1 : j ≤ 5) : CPowW i j := by
  have z : Builtin.Int.intBits i ≤ 200 := PySem.intBits_le_iff.mpr h
  refine ⟨h0, ?_⟩
  have z2 : (Builtin.Int.intBits i : Int) ≤ 200 := by omega
  have z3 : (Builtin.Int.intBits i : Int) * j ≤ 200 * j := Int.mul_le_mul_of_nonneg_right z2 h0
  have z4 : (2 : Int) ^ 27 = 134217728 := rfl
  rw [z4]
  omega
theorem log_lt {x : Nat} {k : Nat} (h : x < 2 ^ k) (hk : 0 < k) : x.log2 < k := by
  by_cases hx : x = 0
  · subst hx
    simpa using hk
  · exact (Nat.log2_lt hx).mpr h
theorem mul_ok {i j : Int} (h1 : i.natAbs < 2 ^ 200) (h2 : j.natAbs < 2 ^ 200) : CMulW i j := by
  have z1 := log_lt h1 (by decide)
  have z2 := log_lt h2 (by decide)
  show i.natAbs.log2 + j.natAbs.log2 < 1000000
  omega
section
variable {P : Program} {w : World} {K : PySem.W.Frag} {mg : Str → Option Value} {base : Heap}
def R_spin : List PyData → Nat → (PyData → Prop) → Prop := fun ds k Φ => ∃ size : Int, ds = [.int size] ∧ 0 < size ∧ size ≤ 1000000000000000000000000000000000 ∧ k = 1 ∧ Φ = RI 0 (size - 1)
theorem F__law_spin (T : Tx K mg) : Fd P w K mg base CX0 1 "_law_spin" (ESp K R_spin) [] := by
  obtain ⟨fd, F⟩ := T.f__law_spin
  refine ⟨_, fd, ["reel", "size"], [], T.g__law_spin, F.kp, F.bindsN fun _ _ _ _ _ _ us hl => match us, hl with | [_, _], _ => rfl, .nil, ?_⟩
  refine fnG_of F sc__law_spin (fun vs H Q E h => ESp.len (n := 1) (by rintro _ _ _ ⟨d, rfl, _⟩; rfl) h) (fun cdv A outer s H vs Q E hg hr h => ?_)
  obtain ⟨r, ws, G, M, n, k, ds, Φ, rfl, hA, hRL, hws, ⟨size, rfl, h0, h1, rfl, rfl⟩, hn, q⟩ := h
  obtain ⟨v1, _, rfl, r1, rfl⟩ := hws
  obtain ⟨a, b, c, hM, hb0, hb1, hc⟩ := hRL
  refine ⟨_, PSs.nox (pss_cons (ps_if (pt_cmpR op_gt (pe_ix ix_list (pv 0) pe_int (fun _ _ => rfl)) pe_int (nomark _)) (pss_cons (ps_set (i := 2) sc__law_spin.nd rfl (by first | exact Or.inl rfl | exact Or.inr rfl) (pe_op op_mod (pe_callTy call_int1' (by rfl) T.n_int (by decide +kernel) (pa_cons (pe_ix ix_list (pv 0) pe_int (fun _ _ => rfl)) pa_nil)) (pv 1))) (pss_cons (ps_asg (pe_op op_fdivW (pe_ix ix_list (pv 0) pe_int (fun _ _ => rfl)) (pv 1)) (pg_sub (pv 0) pe_int set_list)) (pss_one (ps_ret (pv 2))))) pss_nil)
    (pss_cons (ps_asg (pe_op op_add (pe_ix ix_list (pv 0) pe_int (fun _ _ => rfl)) pe_int) (pg_sub (pv 0) pe_int set_list))
    (pss_cons (ps_set (i := 3) sc__law_spin.nd rfl (by first | exact Or.inl rfl | exact Or.inr rfl) (pe_op op_mod (pe_callTy call_int1' (by rfl) T.n_int (by decide +kernel) (pa_cons (pe_op op_powW (pe_op op_add (pe_ix ix_list (pv 0) pe_int (fun _ _ => rfl)) (pe_op op_mulW pe_int (pe_ix ix_list (pv 0) pe_int (fun _ _ => rfl)))) pe_int) pa_nil)) (pe_op op_add (pe_op op_pow pe_int pe_int) pe_int)))
    (pss_cons (ps_set (i := 3) sc__law_spin.nd rfl (by first | exact Or.inl rfl | exact Or.inr rfl) (pe_op op_mod (pe_callTy call_int1' (by rfl) T.n_int (by decide +kernel) (pa_cons (pe_op op_powW (pe_op op_add (pv 3) (pe_op op_mulW pe_int (pe_ix ix_list (pv 0) pe_int (fun _ _ => rfl)))) pe_int) pa_nil)) (pe_op op_add (pe_op op_pow pe_int pe_int) pe_int)))
    (pss_one (ps_ret (pe_op op_mod (pe_callTy call_int1' (by rfl) T.n_int (by decide +kernel) (pa_cons (pe_op op_fdivW (pv 3) pe_int) pa_nil)) (pv 1)))))))), ?_⟩
  rw [show L2.start ["reel", "size", "digit", "wide"] [(.ref r), v1] = [some (.ref r), some v1, none, none] from rfl]
  dsimp only [xK]
  have hG : G r = none := hA.d _ _ hM
  have hN : cutG M r r = none := cut_none
  rw [← cut_eq hM] at hA
  have rl : ∀ (Gx : Hp) (a b : Int) (c : Int), Rp K (upd Gx r (.lst [.int a, .int b, .int c])) (.list [.int a, .int b, .int c]) (.ref r) := fun Gx a b c => ⟨r, _, rfl, upd_same, (rpL_ints [a, b, c]).mpr rfl⟩
  have nG : ∀ {Gx Hx : Hp} {o : HO}, At Gx (upd (cutG M r) r o) Hx → Gx r = none := fun A => A.d _ _ upd_same
  have eU : ∀ {Gx : Hp} {o : HO}, Gx r = none → Ex Gx (upd Gx r o) := fun h => Ex.new h
  have hsz : size.natAbs.log2 < 9000 := by
    have e : size.natAbs < 2 ^ 200 := Nat.lt_of_le_of_lt (show size.natAbs ≤ 1000000000000000000000000000000000 by omega) (by decide)
    exact Nat.lt_trans (log_lt e (by decide)) (by decide)
  refine s_seq (s_iffz (b_T (d_op (d_op (d_var rfl (rl _ _ _ _)) d_int (rd_ixL rfl)) d_int rd_gt)) hG hN hA (fun hb G1 H1 e1 A1 => ?_) (fun hb G1 H1 e1 A1 => ?_))
  · refine q_setfz (d_op (d_cb (a_cons (d_op (d_var rfl (rl _ _ _ _)) d_int (rd_ixL rfl)) a_nil) rc_int1) (d_var rfl (r1.up (e1.trans (eU (nG A1))))) (rd_mod h0)) rfl (nG A1) hN A1 fun v2 G2 H2 e2 A2 r2 => ?_
    refine q_setIxfz (j := 0) (d_op (d_op (d_var rfl (rl _ _ _ _)) d_int (rd_ixL rfl)) (d_var rfl (r1.up ((e1.trans e2).trans (eU (nG A2))))) (rd_fdiv ⟨h0, hsz⟩)) rfl (nG A2) hN A2 rfl rfl fun v3 G3 H3 e3 A3 r3 => ?_
    refine ⟨v2, rfl, ?_⟩
    rw [show v3 = V.int _ from r3] at A3
    refine q _ v2 G3 _ H3 ((e1.trans e2).trans e3) A3 (fun x hx => by rw [upd_ne hx]; exact if_neg hx) ⟨_, b, c, upd_same, hb0, hb1, by omega⟩ (mod_RI h0) (r2.up e3)
  · refine s_next ?_
    have hc6 : c < 1000000 := by omega
    refine q_setIxfz (j := 2) (d_op (d_op (d_var rfl (rl _ _ _ _)) d_int (rd_ixL rfl)) d_int rd_add) rfl (nG A1) hN A1 rfl rfl fun v3 G2 H2 e2 A2 r3 => ?_
    rw [show v3 = V.int _ from r3] at A2
    have A2' : At G2 (upd (cutG M r) r (.lst [.int a, .int b, .int ((c : Int) + 1)])) H2 := A2
    have t43 : (10 : Int) ^ 43 = 10000000000000000000000000000000000000000000 := rfl
    have t44 : (10 : Int) ^ 44 = 100000000000000000000000000000000000000000000 := rfl
    have t41 : (10 : Int) ^ 41 = 100000000000000000000000000000000000000000 := rfl
    have t200 : (2 : Nat) ^ 200 = 1606938044258990275541962092341162602522202993782792835301376 := rfl
    have p44 : (0 : Int) < 10 ^ (44 : Int).toNat + 31 := by decide
    have p41 : (0 : Int) < 10 ^ (41 : Int).toNat + 39 := by decide
    refine q_setfz (d_op (d_cb (a_cons (d_op (d_op (d_op (d_var rfl (rl _ _ _ _)) d_int (rd_ixL rfl)) (d_op d_int (d_op (d_var rfl (rl _ _ _ _)) d_int (rd_ixL rfl)) (rd_mul (mul_ok (by decide) (by rw [t200]; omega)))) rd_add) d_int (rd_powW (bits_ok (by rw [t200]; omega) (by decide) (by decide)))) a_nil) rc_int1)
      (d_op (d_op d_int d_int (rd_pow ⟨by decide, by decide, by decide⟩)) d_int rd_add) (rd_mod p44)) rfl (nG A2') hN A2' fun v4 G3 H3 e3 A3 r4 => ?_
    generalize hz : (b + 67867979 * ((c : Int) + 1)) ^ (3 : Int).toNat = z at r4
    have z0 := Int.emod_nonneg z (Int.ne_of_gt p44)
    have z1 := Int.emod_lt_of_pos z p44
    have e44 : (10 : Int) ^ (44 : Int).toNat = 10 ^ 44 := rfl
    rw [e44, t44] at z0 z1
    refine q_setfz (d_op (d_cb (a_cons (d_op (d_op (d_var rfl (r4.up (eU (nG A3)))) (d_op d_int (d_op (d_var rfl (rl _ _ _ _)) d_int (rd_ixL rfl)) (rd_mul (mul_ok (by decide) (by rw [t200]; omega)))) rd_add) d_int (rd_powW (bits_ok (by rw [t200, e44, t44]; omega) (by decide) (by decide)))) a_nil) rc_int1)
      (d_op (d_op d_int d_int (rd_pow ⟨by decide, by decide, by decide⟩)) d_int rd_add) (rd_mod p41)) rfl (nG A3) hN A3 fun v5 G4 H4 e4 A4 r5 => ?_
    refine w_D (d_op (d_cb (a_cons (d_op (d_var rfl r5) d_int (rd_fdiv ⟨by decide, by decide⟩)) a_nil) rc_int1) (d_var rfl (r1.up (((e1.trans e2).trans e3).trans e4))) (rd_mod h0)) A4 fun v6 G5 H5 e5 A5 r6 => ?_
    refine q _ v6 G5 _ H5 ((((e1.trans e2).trans e3).trans e4).trans e5) A5 (fun x hx => by rw [upd_ne hx]; exact if_neg hx) ⟨a, b, c + 1, upd_same, hb0, hb1, by omega⟩ (mod_RI h0) r6
theorem spin_call {r : Addr} {M0 : Hp} {σ : L2.St} {G : Hp} {n m : Nat} {i : Nat} {te : TE} {E : XK} {Φ : PyData → Prop} (hi : σ[i]? = some (some (.ref r))) (h : TrE K r M0 te σ G n m fun d => ∃ z : Int, d = .int z ∧ 0 < z ∧ z ≤ 1000000000000000000000000000000000 ∧ ∀ d, RI 0 (z - 1) d → Φ d) (hm : m + 1 ≤ 1000000) : TrE K r M0 (tCall (ESp K R_spin) [] E (tCons (tVar i) (tCons te tNil))) σ G n (m + 1) Φ := fun G1 M H e A S Rr Q q => by
  refine ⟨.ref r, hi, ?_⟩
  refine h G1 M H e A S Rr _ fun d v G2 M2 H2 e2 A2 S2 R2 hd rv => ?_
  obtain ⟨z, rfl, h0, h1, hz⟩ := hd
  refine ⟨r, [v], G2, M2, m, 1, [.int z], RI 0 (z - 1), rfl, A2, R2, ⟨v, [], rfl, rv, rfl⟩, ⟨z, rfl, h0, h1, rfl, rfl⟩, hm, fun d v G' M' H' e' A' S' R' hd' rv' => ?_⟩
  exact q d v G' M' H' (e2.trans e') A' (S2.trans S') R' (hz d hd') rv'
theorem spin_c {r : Addr} {M0 : Hp} {σ : L2.St} {G : Hp} {n : Nat} {i : Nat} {z : Int} {E : XK} (hi : σ[i]? = some (some (.ref r))) (h0 : 0 < z) (h1 : z ≤ 1000000000000000000000000000000000) (hm : n + 1 ≤ 1000000) : TrE K r M0 (tCall (ESp K R_spin) [] E (tCons (tVar i) (tCons (tC (.int z)) tNil))) σ G n (n + 1) (RI 0 (z - 1)) :=
  spin_call hi (e_D d_int ⟨z, rfl, h0, h1, fun _ h => h⟩) hm
def IsW (lo hi : Nat) : PyData → Prop := fun d => ∃ ws, d = .tuple (dInts ws) ∧ okW lo hi ws
def R_widths : List PyData → Nat → (PyData → Prop) → Prop := fun ds k Φ => ∃ lo hi : Nat, ds = [.int lo, .int hi] ∧ lo ≤ hi ∧ hi ≤ 100 ∧ k = hi + 1 ∧ Φ = IsW lo hi
theorem ints_of : ∀ {ds : List PyData} {lo hi : Int}, (∀ d ∈ ds, RI lo hi d) → ∃ ns : List Int, ds = dInts ns ∧ ∀ n ∈ ns, lo ≤ n ∧ n ≤ hi
  | [], _, _, _ => ⟨[], rfl, fun _ h => by cases h⟩
  | d :: ds, lo, hi, h => by
    obtain ⟨ns, e, hn⟩ := ints_of fun x hx => h x (List.mem_cons_of_mem _ hx)
    obtain ⟨i, rfl, h1, h2⟩ := h d (List.mem_cons_self ..)
    refine ⟨i :: ns, by rw [e]; rfl, fun n hn' => ?_⟩
    rcases List.mem_cons.mp hn' with rfl | hn'
    · exact ⟨h1, h2⟩
    · exact hn n hn'
theorem F__law_widths (T : Tx K mg) : Fd P w K mg base CX0 2 "_law_widths" (ESp K R_widths) [] := by
  obtain ⟨fd, F⟩ := T.f__law_widths
  refine ⟨_, fd, ["reel", "least", "most"], [], T.g__law_widths, F.kp, F.bindsN fun _ _ _ _ _ _ us hl => match us, hl with | [_, _, _], _ => rfl, .nil, ?_⟩
  refine fnG_of F sc__law_widths (fun vs H Q E h => ESp.len (n := 2) (by rintro _ _ _ ⟨d, e, rfl, _⟩; rfl) h) (fun cdv A outer s H vs Q E hg hr h => ?_)
  obtain ⟨r, ws, G, M, n, k, ds, Φ, rfl, hA, hRL, hws, ⟨lo, hi, rfl, h0, h1, rfl, rfl⟩, hn, q⟩ := h
  obtain ⟨v1, _, rfl, r1, v2, _, rfl, r2, rfl⟩ := hws
  refine ⟨_, PSs.nox (pss_one (ps_ret (pe_callTy call_tupOf (by rfl) T.n_tuple (by decide +kernel) (pa_cons (pe_lc (own := [("turn", 3)]) (g := gName 3) (by rfl) sc__law_widths.nd (pi_range1 (by rfl) T.n_range (pa_cons (pe_op op_add (pv 1) (pe_fd (F__law_spin (P := P) (w := w) (base := base) T) hg (hr.mono (by decide)) pass0 (pa_cons (pv 0) (pa_cons (pe_op op_add (pe_op op_sub (pv 2) (pv 1)) pe_int) pa_nil)))) pa_nil)) (blkOk_by (own := [("turn", 3)]) (N := ["reel", "least", "most", "turn"]) (sc := defScope s__law_widths) (by decide +kernel)) (fun _ _ _ _ _ => (pg_name (i := 3) sc__law_widths.nd rfl (by first | exact Or.inl rfl | exact Or.inr rfl))) (fun _ _ _ _ _ => pts_nil) (fun _ _ _ _ _ => (pe_op op_add pe_int (pe_fd (F__law_spin (P := P) (w := w) (base := base) T) hg (hr.mono (by decide)) pass0 (pa_cons (pv 0) (pa_cons pe_int pa_nil)))))) pa_nil)))), ?_⟩
  rw [show L2.start ["reel", "least", "most", "turn"] [(.ref r), v1, v2] = [some (.ref r), some v1, some v2, none] from rfl]
  dsimp only [xK]
  refine s_retE (M0 := M) (n := n) (n' := n + (hi + 1)) (Φ := IsW lo hi) (e_cb (Ψ := fun ds => ∃ d ws, ds = [d] ∧ d = .list (dInts ws) ∧ okW lo hi ws) (ea_cons (Φ := fun d => ∃ ws, d = .list (dInts ws) ∧ okW lo hi ws) ((e_lcR (m := n + 1) (c := hi) (step := 1) (Φ0 := fun z => (lo : Int) ≤ z ∧ z ≤ hi) (Φ1 := RI 1 4) (Φ := fun d => ∃ ws, d = .list (dInts ws) ∧ okW lo hi ws) ?_ (by omega) (fun M1 x t ht => ?_) fun z ds hz hl hall => ?_).le (by omega)) fun d hd => ea_nil ?_) fun ds hds => ?_) hA .refl hRL q
  · refine e_op (Φ1 := fun d => d = .int lo) (Φ2 := RI 0 (hi - lo)) (e_D (d_var rfl r1) rfl) (fun _ _ => spin_call rfl (e_D (d_op (d_op (d_var rfl r2) (d_var rfl r1) rd_sub) d_int rd_add) ⟨_, rfl, by omega, by omega, fun d h => ?_⟩) (by omega)) ?_
    · obtain ⟨i, rfl, h2, h3⟩ := h
      exact ⟨i, rfl, h2, by omega⟩
    · rintro _ _ rfl ⟨i, rfl, h2, h3⟩
      exact ⟨_, rd_add, _, rfl, ⟨by omega, by omega⟩, by omega, by omega⟩
  · refine e_op (Φ1 := fun d => d = .int 1) (Φ2 := RI 0 3) (e_D d_int rfl) (fun _ _ => (spin_c rfl (by decide) (by decide) (by omega)).le (by omega)) ?_
    rintro _ _ rfl ⟨i, rfl, h2, h3⟩
    exact ⟨_, rd_add, _, rfl, by omega, by omega⟩
  · obtain ⟨ns, rfl, hns⟩ := ints_of hall
    rw [dInts_len] at hl
    exact ⟨ns, rfl, by omega, by omega, hns⟩
  · obtain ⟨ws, rfl, ok⟩ := hd
    exact ⟨_, ws, rfl, rfl, ok⟩
  · obtain ⟨_, ws, rfl, rfl, ok⟩ := hds
    exact ⟨_, rc_tupL, ws, rfl, ok⟩
end
end K99

namespace K99
open PySem PySem.Spec PyProof.Rows L2 Sb
local macro_rules | `(tactic| walk_at "ex") => `(tactic| first | exact Ex.refl _ | assumption | (refine' Ex.trans ?_ (by assumption); walk_at "ex"))
local macro_rules | `(tactic| walk_at "rp") => `(tactic| first | assumption | (refine' Rp.up ?e (by assumption); (case e => walk_at "ex")) | exact rfl)
local macro_rules | `(tactic| walk_at "rd") => `(tactic| with_reducible first | exact rd_add | exact rd_sub | exact rd_lt | exact rd_le | exact rd_gt | exact rd_ge | exact rd_eqI | exact rd_neI | exact rd_eqS | exact rd_neS | exact rd_isN | exact rd_ltS | exact rd_inSign | exact rd_eqE)
local macro_rules | `(tactic| walk_at "tr") => `(tactic| first
  | with_reducible exact d_int
  | with_reducible exact d_str
  | with_reducible exact d_bl
  | with_reducible exact d_non
  | with_reducible exact a_nil
  | with_reducible exact b_yes
  | with_reducible exact o_none
  | with_reducible exact d_newD
  | ((with_reducible refine' d_var ?i ?r); (case i => rfl); (case r => walk_at "rp"))
  | ((with_reducible refine' a_cons ?a ?b); (case a => walk_at "tr"); (case b => walk_at "tr"))
  | ((with_reducible refine' a_star ?a ?b); (case a => walk_at "tr"); (case b => walk_at "tr"))
  | ((with_reducible refine' d_isi ?a ?b); (case a => walk_at "tr"); (case b => decide))
  | ((with_reducible refine' d_op ?a ?b ?c); (case a => walk_at "tr"); (case b => walk_at "tr"); (case c => walk_at "rd"))
  | ((with_reducible refine' d_tup ?a ?b); (case a => walk_at "tr"); (case b => first | decide | (simp; done)))
  | ((with_reducible refine' d_lst ?a ?b); (case a => walk_at "tr"); (case b => first | decide | (simp; done)))
  | ((with_reducible refine' o_some ?a); (case a => walk_at "tr"))
  | ((with_reducible refine' b_B ?a); (case a => walk_at "tr"))
  | ((with_reducible refine' b_T ?a); (case a => walk_at "tr"))
  | ((with_reducible refine' b_not ?a); (case a => walk_at "tr"))
  | ((with_reducible refine' v_not ?a); (case a => walk_at "tr"))
  | ((with_reducible refine' b_or ?a ?b); (case a => walk_at "tr"); (case b => intro _; walk_at "tr"))
  | ((with_reducible refine' b_and ?a ?b); (case a => walk_at "tr"); (case b => intro _; walk_at "tr"))
  | ((with_reducible refine' v_or ?a ?b); (case a => walk_at "tr"); (case b => intro _; walk_at "tr"))
  | ((with_reducible refine' v_and ?a ?b); (case a => walk_at "tr"); (case b => intro _; walk_at "tr"))
  | assumption)


theorem at_int {ns : List Int} {k : Nat} (h : k < ns.length) : L2.atI ns (k : Int) = some ns[k] := by
  unfold L2.atI ixN
  have h0 : (0 : Int) ≤ (k : Int) := by omega
  have h1 : (k : Int) < (ns.length : Int) := by omega
  rw [if_pos h0, if_pos h1]
  show ns[(k : Int).toNat]? = _
  rw [Int.toNat_natCast]
  exact List.getElem?_eq_getElem h
theorem cut_mem {ns : List Int} {lo hi : Option Int} {d : PyData} (h : d ∈ Sb.cutD (dInts ns) lo hi) : ∃ n, d = .int n := by
  unfold Sb.cutD at h
  obtain ⟨n, _, e⟩ := mem_ints (List.mem_of_mem_drop (List.mem_of_mem_take h))
  exact ⟨n, e⟩
section
variable {P : Program} {w : World} {K : PySem.W.Frag} {mg : Str → Option Value} {base : Heap}
def S_reel (K : PySem.W.Frag) : Sp := fun vs H Q _ => ∃ (G M : Hp) (a : Addr) (sc : List Int) (ix : Nat), vs = [.ref a, .int ix] ∧ At G M H ∧ SqL K G a (sc.map V.int) ∧ sc.length ≤ 1000 ∧ ix ≤ 1000 ∧
  ∀ p (x b : Int) G' H', M p = none → G' p = none → Ex G G' → At G' (upd M p (.lst [.int x, .int b, .int 0])) H' → 0 ≤ b → b < 10 ^ 43 → Q (.ref p) H'
theorem F__law_reel (T : Tx K mg) : Fd P w K mg base CX0 1 "_law_reel" (S_reel K) [] := by
  obtain ⟨fd, F⟩ := T.f__law_reel
  refine ⟨_, fd, ["script", "index"], [], T.g__law_reel, F.kp, F.bindsN fun _ _ _ _ _ _ us hl => match us, hl with | [_, _], _ => rfl, .nil, ?_⟩
  refine fnG_of F sc__law_reel (fun vs H Q E h => by obtain ⟨_, _, _, _, _, rfl, _⟩ := h; rfl) (fun cdv A outer s H vs Q E hg hr h => ?_)
  obtain ⟨G, M, a, sc, ix, rfl, hA, hS, hl, hx, q⟩ := h
  refine ⟨_, PSs.nox (pss_cons (ps_par (i := 2) (j := 3) (by rfl) sc__law_reel.nd rfl rfl (by decide) rfl rfl (pa_cons (pe_ifExp (pt_cmpR op_lt (pv 1) (pe_callB call_len' (by rfl) T.n_len (by decide +kernel) (pa_cons (pv 0) pa_nil)) (nomark _)) (pe_ix ix_list (pv 0) (pv 1) (fun _ _ => rfl)) pe_int) (pa_cons (pe_op op_add pe_int (pe_op op_mulW pe_int (pv 1))) pa_nil)) (by rfl))
    (pss_cons (ps_for PassesOwn.never rfl (pi_enum (by rfl) T.n_enumerate (pa_cons (pe_slice sl_list (pv 0) po_none (po_some pe_int)) pa_nil)) (pg_tup (by rfl) (pgs_cons (pg_name (i := 4) sc__law_reel.nd rfl (by first | exact Or.inl rfl | exact Or.inr rfl)) (pgs_cons (pg_name (i := 5) sc__law_reel.nd rfl (by first | exact Or.inl rfl | exact Or.inr rfl)) pgs_nil))) (pss_one (ps_set (i := 3) sc__law_reel.nd rfl (by first | exact Or.inl rfl | exact Or.inr rfl) (pe_op op_mod (pe_callTy call_int1' (by rfl) T.n_int (by decide +kernel) (pa_cons (pe_op op_add (pe_op op_add (pe_op op_mulW (pv 3) pe_int) (pe_op op_mod (pe_callTy call_int1' (by rfl) T.n_int (by decide +kernel) (pa_cons (pv 5) pa_nil)) (pe_op op_add (pe_op op_pow pe_int pe_int) pe_int))) (pv 4)) pa_nil)) (pe_op op_add (pe_op op_pow pe_int pe_int) pe_int)))))
    (pss_cons (ps_set (i := 3) sc__law_reel.nd rfl (by first | exact Or.inl rfl | exact Or.inr rfl) (pe_op op_mod (pe_callTy call_int1' (by rfl) T.n_int (by decide +kernel) (pa_cons (pe_op op_add (pe_op op_mulW (pv 3) pe_int) (pe_op op_mod (pe_callTy call_int1' (by rfl) T.n_int (by decide +kernel) (pa_cons (pv 2) pa_nil)) (pe_op op_add (pe_op op_pow pe_int pe_int) pe_int))) pa_nil)) (pe_op op_add (pe_op op_pow pe_int pe_int) pe_int)))
    (pss_one (ps_ret (pe_lst (pa_cons (pe_callB (call_max2' rfl) (by rfl) T.n_max (by decide +kernel) (pa_cons pe_int (pa_cons (pe_op op_sub (pe_callB call_abs' (by rfl) T.n_abs (by decide +kernel) (pa_cons (pe_callTy call_int1' (by rfl) T.n_int (by decide +kernel) (pa_cons (pv 2) pa_nil)) pa_nil)) (pe_op op_pow pe_int pe_int)) pa_nil))) (pa_cons (pv 3) (pa_cons pe_int pa_nil))))))))), ?_⟩
  rw [show L2.start ["script", "index", "cell", "mixed", "spot", "other"] [(.ref a), (.int ix)] = [some (.ref a), some (.int ix), none, none, none, none] from rfl]
  dsimp only [xK]
  have p42 : (0 : Int) < 10 ^ (42 : Int).toNat + 17 := by decide
  have p42' : (0 : Int) < 10 ^ (42 : Int).toNat + 63 := by decide
  have e42 : (10 : Int) ^ (42 : Int).toNat = 1000000000000000000000000000000000000000000 := rfl
  have t43 : (10 : Int) ^ 43 = 10000000000000000000000000000000000000000000 := rfl
  have t200 : (2 : Nat) ^ 200 = 1606938044258990275541962092341162602522202993782792835301376 := rfl
  have hcell : ∃ cz : Int, TrD K (tIf (tTest (tOp (rI0 fun i j => V.bl (decide (i < j))) (tVar 1) (tCB (Sb.rLen K) (tCons (tVar 0) tNil)))) (tOp (rIxL K) (tVar 0) (tVar 1)) (tC (V.int 0))) [some (.ref a), some (.int ix), none, none, none, none] G (.int cz) := by
    have ht : TrB (tTest (tOp (rI0 fun i j => V.bl (decide (i < j))) (tVar 1) (tCB (Sb.rLen K) (tCons (tVar 0) tNil)))) [some (.ref a), some (.int ix), none, none, none, none] G (decide ((ix : Int) < ((sc.map V.int).length : Int))) := b_T (K := K) (d_op (d_var rfl (d := .int ix) rfl) (d_lenQ rfl hS) rd_lt)
    rw [List.length_map] at ht
    by_cases hh : ix < sc.length
    · exact ⟨sc[ix], d_if ht (fun _ => d_ixQ rfl hS (d_var rfl (d := .int ix) rfl) (at_int hh)) fun z => absurd (of_decide_eq_false z) (by omega)⟩
    · exact ⟨0, d_if ht (fun z => absurd (of_decide_eq_true z) (by omega)) fun _ => d_int⟩
  obtain ⟨cz, hcz⟩ := hcell
  refine q_par hcz (d_op d_int (d_op d_int (d_var rfl (d := .int ix) rfl) (rd_mul (mul_ok (by decide) (by rw [t200]; omega)))) rd_add) hA fun v2 v3 G1 H1 e1 A1 r2 r3 => ?_
  refine s_seq (s_forEI (fun k σ G2 M1 => ∃ (z : Int) (v : V) (x4 x5 : Option V), M1 = M ∧ 0 ≤ z ∧ z < 10 ^ 43 ∧ v = .int z ∧ σ = [some (.ref a), some (.int ix), some v2, some v, x4, x5]) (d_slQ rfl (e1.sl hS) o_none (o_some (K := K) d_int)) A1 (fun e h => h)
    ⟨_, v3, none, none, rfl, ?_, ?_, r3, rfl⟩ (fun k d hd x σ1 G2 M1 H2 e2 A2 hI rx Nx hN => ?_) fun σ1 G2 M1 H2 e2 A2 hI => ?_)
  · omega
  · rw [t43]; omega
  · obtain ⟨z, _, x4, x5, rfl, z0, z1, rfl, rfl⟩ := hI
    obtain ⟨oi, rfl⟩ := cut_mem (List.mem_of_getElem? hd)
    rw [t43] at z1
    refine s_set (d_op (d_cb (a_cons (d_op (d_op (d_op (d_var rfl (d := .int z) rfl) d_int (rd_mul (mul_ok (by rw [t200]; omega) (by decide)))) (d_op (d_cb (a_cons (d_var rfl rx) a_nil) rc_int1) (d_op (d_op d_int d_int (rd_pow ⟨by decide, by decide, by decide⟩)) d_int rd_add) (rd_mod p42')) rd_add) (d_var rfl (d := .int k) rfl) rd_add) a_nil) rc_int1)
      (d_op (d_op d_int d_int (rd_pow ⟨by decide, by decide, by decide⟩)) d_int rd_add) (rd_mod p42)) A2 fun v G3 H3 e3 A3 r => ?_
    refine hN _ G3 M1 H3 e3 A3 ⟨_, v, _, _, rfl, Int.emod_nonneg _ (by omega), ?_, r, rfl⟩
    refine Int.lt_trans (Int.emod_lt_of_pos _ p42) ?_
    rw [e42, t43]
    decide
  · obtain ⟨z, _, x4, x5, rfl, z0, z1, rfl, rfl⟩ := hI
    rw [t43] at z1
    refine q_set (d_op (d_cb (a_cons (d_op (d_op (d_var rfl (d := .int z) rfl) d_int (rd_mul (mul_ok (by rw [t200]; omega) (by decide)))) (d_op (d_cb (a_cons (d_var rfl (r2.up e2)) a_nil) rc_int1) (d_op (d_op d_int d_int (rd_pow ⟨by decide, by decide, by decide⟩)) d_int rd_add) (rd_mod p42')) rd_add) a_nil) rc_int1)
      (d_op (d_op d_int d_int (rd_pow ⟨by decide, by decide, by decide⟩)) d_int rd_add) (rd_mod p42)) A2 fun v G3 H3 e3 A3 r => ?_
    refine w_A (a_cons (d_cb (a_cons d_int (a_cons (d_op (d_cb (a_cons (d_cb (a_cons (d_var rfl (r2.up (e2.trans e3))) a_nil) rc_int1) a_nil) rc_abs) (d_op d_int d_int (rd_pow ⟨by decide, by decide, by decide⟩)) rd_sub) a_nil)) rc_max2) (a_cons (d_var rfl r) (a_cons d_int a_nil))) A3 fun xs G4 H4 e4 A4 rx => ?_
    obtain ⟨y1, _, rfl, h1, y2, _, rfl, h2, y3, _, rfl, h3, rfl⟩ := rx
    refine ⟨show (3 : Nat) ≤ sizeLine by decide, fun p hp => ?_⟩
    rw [show y1 = V.int _ from h1, show y2 = V.int _ from h2, show y3 = V.int 0 from h3]
    refine q p _ _ G4 _ (A4.mNone hp) (A4.gNone hp) (((e1.trans e2).trans e3).trans e4) (A4.nm hp) (Int.emod_nonneg _ (by omega)) ?_
    refine Int.lt_trans (Int.emod_lt_of_pos _ p42) ?_
    rw [e42, t43]
    decide
end
end K99

namespace K99
open PySem PySem.Spec PyProof.Rows L2 Sb
local macro_rules | `(tactic| walk_at "ex") => `(tactic| first | exact Ex.refl _ | assumption | (refine' Ex.trans ?_ (by assumption); walk_at "ex"))
local macro_rules | `(tactic| walk_at "rp") => `(tactic| first | assumption | (refine' Rp.up ?e (by assumption); (case e => walk_at "ex")) | exact rfl)
local macro_rules | `(tactic| walk_at "rd") => `(tactic| with_reducible first | exact rd_add | exact rd_sub | exact rd_lt | exact rd_le | exact rd_gt | exact rd_ge | exact rd_eqI | exact rd_neI | exact rd_eqS | exact rd_neS | exact rd_isN | exact rd_ltS | exact rd_inSign | exact rd_eqE)
local macro_rules | `(tactic| walk_at "tr") => `(tactic| first
  | with_reducible exact d_int
  | with_reducible exact d_str
  | with_reducible exact d_bl
  | with_reducible exact d_non
  | with_reducible exact a_nil
  | with_reducible exact b_yes
  | with_reducible exact o_none
  | with_reducible exact d_newD
  | ((with_reducible refine' d_var ?i ?r); (case i => rfl); (case r => walk_at "rp"))
  | ((with_reducible refine' a_cons ?a ?b); (case a => walk_at "tr"); (case b => walk_at "tr"))
  | ((with_reducible refine' a_star ?a ?b); (case a => walk_at "tr"); (case b => walk_at "tr"))
  | ((with_reducible refine' d_isi ?a ?b); (case a => walk_at "tr"); (case b => decide))
  | ((with_reducible refine' d_op ?a ?b ?c); (case a => walk_at "tr"); (case b => walk_at "tr"); (case c => walk_at "rd"))
  | ((with_reducible refine' d_tup ?a ?b); (case a => walk_at "tr"); (case b => first | decide | (simp; done)))
  | ((with_reducible refine' d_lst ?a ?b); (case a => walk_at "tr"); (case b => first | decide | (simp; done)))
  | ((with_reducible refine' o_some ?a); (case a => walk_at "tr"))
  | ((with_reducible refine' b_B ?a); (case a => walk_at "tr"))
  | ((with_reducible refine' b_T ?a); (case a => walk_at "tr"))
  | ((with_reducible refine' b_not ?a); (case a => walk_at "tr"))
  | ((with_reducible refine' v_not ?a); (case a => walk_at "tr"))
  | ((with_reducible refine' b_or ?a ?b); (case a => walk_at "tr"); (case b => intro _; walk_at "tr"))
  | ((with_reducible refine' b_and ?a ?b); (case a => walk_at "tr"); (case b => intro _; walk_at "tr"))
  | ((with_reducible refine' v_or ?a ?b); (case a => walk_at "tr"); (case b => intro _; walk_at "tr"))
  | ((with_reducible refine' v_and ?a ?b); (case a => walk_at "tr"); (case b => intro _; walk_at "tr"))
  | assumption)


def tD (ws : List Int) : PyData := .tuple (dInts ws)
def lettS : Str := "0123456789abcdefghijklmnoprstuvwxyz"
def L35 : List Str := lettS.cps.toList.map fun c => ⟨#[c]⟩
theorem L35_sign : Sb.signs lettS = L35.map V.str := by unfold Sb.signs L35; rw [List.map_map]; rfl
theorem L35_len : L35.length = 35 := by decide +kernel
theorem L35_nd : L35.Nodup := by
  have h : (lettS.cps.toList).Nodup := by decide +kernel
  exact h.map _ fun a b hab e => hab (by injection e with e; simpa using e)
theorem L35_nm : ∀ x ∈ L35, isNameS x = true := by
  intro x hx
  obtain ⟨c, hc, rfl⟩ := List.mem_map.mp hx
  have h : ∀ c ∈ lettS.cps.toList, isNameS ⟨#[c]⟩ = true := by decide +kernel
  exact h c hc
theorem shaped_rows (rows : List (List Int)) : SeqAt.shaped (.list (rows.map tD)) = true := by
  have h1 : PyData.canLayAll0 (rows.map tD) = true ∧ PyData.depthAll (rows.map tD) ≤ 1 := by
    induction rows with
    | nil => exact ⟨rfl, Nat.zero_le _⟩
    | cons r rs ih =>
      have z := shaped_ints r
      have z1 := SeqAt.canLay_of_shaped z
      refine ⟨?_, ?_⟩
      · show (PyData.canLay0 (tD r) && PyData.canLayAll0 (rs.map tD)) = true
        rw [ih.1, Bool.and_true]
        exact z1
      · show max (PyData.depth (tD r)) (PyData.depthAll (rs.map tD)) ≤ 1
        have e : PyData.depth (tD r) = 1 := by
          show PyData.depthAll (dInts r) + 1 = 1
          have : ∀ ns : List Int, PyData.depthAll (dInts ns) = 0 := fun ns => by
            induction ns with
            | nil => rfl
            | cons n ns ih =>
              show max (PyData.depth (.int n)) (PyData.depthAll (dInts ns)) = 0
              rw [ih]
              rfl
          rw [this]
        have := ih.2
        omega
  unfold SeqAt.shaped
  show (PyData.canLayAll0 (rows.map tD) && decide (PyData.depthAll (rows.map tD) + 1 ≤ 64)) = true
  rw [h1.1, decide_eq_true (by have := h1.2; omega)]
  rfl
theorem cut_to {ds : List PyData} {k : Nat} (h : k ≤ ds.length) : Sb.cutD ds none (some (k : Int)) = ds.take k := by
  unfold Sb.cutD
  rw [HT.sIx_nat, HT.sIx_none, List.drop_zero, Nat.sub_zero, Nat.min_eq_left h]
theorem cut_from {ds : List PyData} {k : Nat} (h : k ≤ ds.length) : Sb.cutD ds (some (k : Int)) none = ds.drop k := by
  unfold Sb.cutD
  rw [HT.sIx_nat, HT.sIx_none, Nat.min_eq_left h]
  exact List.take_of_length_le (by rw [List.length_drop]; exact Nat.le_refl _)
theorem at_dat {ds : List PyData} {k : Nat} (h : k < ds.length) : L2.atI ds (k : Int) = some ds[k] := by
  unfold L2.atI ixN
  have h0 : (0 : Int) ≤ (k : Int) := by omega
  have h1 : (k : Int) < (ds.length : Int) := by omega
  rw [if_pos h0, if_pos h1]
  show ds[(k : Int).toNat]? = _
  rw [Int.toNat_natCast]
  exact List.getElem?_eq_getElem h
theorem er_map {α β : Type} (f : α → β) (l : List α) (k : Nat) : (l.map f).eraseIdx k = (l.eraseIdx k).map f := by
  rw [List.eraseIdx_eq_take_drop_succ, List.eraseIdx_eq_take_drop_succ, List.map_append, List.map_take, List.map_drop]
theorem four_at {a b c d : PyData} {i : Int} (h0 : 0 ≤ i) (h1 : i ≤ 3) : ∃ e, L2.atI [a, b, c, d] i = some e ∧ (e = a ∨ e = b ∨ e = c ∨ e = d) := by
  have : i = 0 ∨ i = 1 ∨ i = 2 ∨ i = 3 := by omega
  rcases this with rfl | rfl | rfl | rfl
  · exact ⟨a, rfl, .inl rfl⟩
  · exact ⟨b, rfl, .inr (.inl rfl)⟩
  · exact ⟨c, rfl, .inr (.inr (.inl rfl))⟩
  · exact ⟨d, rfl, .inr (.inr (.inr rfl))⟩
theorem three_at {a b c : PyData} {i : Int} (h0 : 0 ≤ i) (h1 : i ≤ 2) : ∃ e, L2.atI [a, b, c] i = some e ∧ (e = a ∨ e = b ∨ e = c) := by
  have : i = 0 ∨ i = 1 ∨ i = 2 := by omega
  rcases this with rfl | rfl | rfl
  · exact ⟨a, rfl, .inl rfl⟩
  · exact ⟨b, rfl, .inr (.inl rfl)⟩
  · exact ⟨c, rfl, .inr (.inr rfl)⟩
theorem okW.app {a b c d : Nat} {xs ys : List Int} (h : okW a b xs) (k : okW c d ys) : okW (a + c) (b + d) (xs ++ ys) := by
  refine ⟨?_, ?_, fun n hn => ?_⟩
  · rw [List.length_append]; have := h.1; have := k.1; omega
  · rw [List.length_append]; have := h.2.1; have := k.2.1; omega
  · rcases List.mem_append.mp hn with z | z
    · exact h.2.2 n z
    · exact k.2.2 n z
/-- a row, one of its widths another -/
theorem okW.edit {a b : Nat} {xs : List Int} {k : Nat} {z : Int} (h : okW a b xs) (hk : k < xs.length) (h1 : 1 ≤ z) (h4 : z ≤ 4) : okW a b (xs.take k ++ [z] ++ xs.drop (k + 1)) := by
  refine ⟨?_, ?_, fun n hn => ?_⟩
  · have := h.1
    simp only [List.length_append, List.length_take, List.length_drop, List.length_singleton]
    omega
  · have := h.2.1
    simp only [List.length_append, List.length_take, List.length_drop, List.length_singleton]
    omega
  · rcases List.mem_append.mp hn with z' | z'
    · rcases List.mem_append.mp z' with z' | z'
      · exact h.2.2 n (List.mem_of_mem_take z')
      · rw [List.mem_singleton.mp z']; omega
    · exact h.2.2 n (List.mem_of_mem_drop z')
def nqS (x : Str) : Prop := isNameS x = true ∧ x ≠ "q"
theorem L35_nq : ∀ x ∈ L35, nqS x := by
  intro x hx
  refine ⟨L35_nm x hx, ?_⟩
  obtain ⟨c, hc, rfl⟩ := List.mem_map.mp hx
  have h : ∀ c ∈ lettS.cps.toList, c ≠ 113 := by decide +kernel
  intro e
  have e2 : (#[c] : Array Nat) = #[113] := congrArg Str.cps e
  exact h c hc (by simpa using e2)
def ch1 : List (List Int) := [[2, 1], [1, 2], [3, 2], [2, 3]]
def ch2 : List (List Int) := [[3, 2, 1], [1, 2, 3], [4, 3, 2], [2, 3, 4]]
def ch3 : List (List Int) := [[3, 2], [1, 1, 2, 3], [4, 3, 2], [2, 3, 4]]
def ch4 : List (List Int) := [[1], [2, 1], [1, 1], [2]]
def IsCh (d : PyData) : Prop := ∃ ch : List (List Int), d = .list (ch.map tD) ∧ ch.length = 4 ∧ ∀ x ∈ ch, okW 1 4 x
instance (lo hi : Nat) (ns : List Int) : Decidable (okW lo hi ns) := by unfold okW; infer_instance
section
variable {P : Program} {w : World} {K : PySem.W.Frag} {mg : Str → Option Value} {base : Heap}
def R_code : List PyData → Nat → (PyData → Prop) → Prop := fun ds k Φ => ∃ many most : Nat, ds = [.int many, .int most] ∧ 1 ≤ many ∧ many ≤ 10 ∧ 1 ≤ most ∧ most ≤ 6 ∧ k = 1000 ∧ Φ = fun d => ∃ c : CodeD, d = c.d ∧ c.ok ∧ ("q" : Str) ∉ c.cs.map (·.1)
abbrev slC (r pl pr : Addr) (v1 v2 v5 v6 v7 v8 v9 : V) (a10 a11 a12 a13 a14 a15 : Option V) : L2.St := [some (.ref r), some v1, some v2, some (.ref pl), some (.ref pr), some v5, some v6, some v7, some v8, some v9, a10, a11, a12, a13, a14, a15]
theorem widths_call {r : Addr} {M0 : Hp} {σ : L2.St} {G : Hp} {n : Nat} {ta tb : TE} {lo hi : Nat} {E : XK} (hi' : σ[0]? = some (some (.ref r))) (ha : TrD K ta σ G (.int lo)) (hb : TrD K tb σ G (.int hi)) (h0 : lo ≤ hi) (h1 : hi ≤ 100) (hm : n + (hi + 1) ≤ 1000000) : TrE K r M0 (tCall (ESp K R_widths) [] E (tCons (tVar 0) (tCons ta (tCons tb tNil)))) σ G n (n + (hi + 1)) (IsW lo hi) :=
  e_call (Ψ := fun ds => ds = [.int lo, .int hi]) hi' (ea_A (a_cons ha (a_cons hb a_nil)) rfl) (fun ds h => ⟨lo, hi, h, h0, h1, rfl, rfl⟩) hm
theorem F__law_code (T : Tx K mg) : Fd P w K mg base CX0 3 "_law_code" (ESp K R_code) [] := by
  obtain ⟨fd, F⟩ := T.f__law_code
  refine ⟨_, fd, ["reel", "many", "most"], [], T.g__law_code, F.kp, F.bindsN fun _ _ _ _ _ _ us hl => match us, hl with | [_, _, _], _ => rfl, .nil, ?_⟩
  refine fnG_of F sc__law_code (fun vs H Q E h => ESp.len (n := 2) (by rintro _ _ _ ⟨d, e, rfl, _⟩; rfl) h) (fun cdv A outer s H vs Q E hg hr h => ?_)
  obtain ⟨r, ws, G, M, n, k, ds, Φ, rfl, hA, hRL, hws, ⟨many, most, rfl, hm0, hm1, hs0, hs1, rfl, rfl⟩, hn, q⟩ := h
  obtain ⟨v1, _, rfl, r1, v2, _, rfl, r2, rfl⟩ := hws
  refine ⟨_, PSs.nox (pss_cons (ps_par (i := 3) (j := 4) (by rfl) sc__law_code.nd rfl rfl (by decide) rfl rfl (pa_cons (pe_callTy (call_listS rfl) (by rfl) T.n_list (by decide +kernel) (pa_cons pe_str pa_nil)) (pa_cons (pe_lst pa_nil) pa_nil)) (by rfl))
    (pss_cons (ps_par (i := 5) (j := 6) (by rfl) sc__law_code.nd rfl rfl (by decide) rfl rfl (pa_cons (pe_fd (F__law_spin (P := P) (w := w) (base := base) T) hg (hr.mono (by decide)) pass0 (pa_cons (pv 0) (pa_cons pe_int pa_nil))) (pa_cons (pe_op op_add pe_int (pe_fd (F__law_spin (P := P) (w := w) (base := base) T) hg (hr.mono (by decide)) pass0 (pa_cons (pv 0) (pa_cons (pv 2) pa_nil)))) pa_nil)) (by rfl))
    (pss_cons (ps_set (i := 7) sc__law_code.nd rfl (by first | exact Or.inl rfl | exact Or.inr rfl) (pe_lst (pa_cons (pe_lst (pa_cons (pe_tup (pa_cons pe_int (pa_cons pe_int pa_nil))) (pa_cons (pe_tup (pa_cons pe_int (pa_cons pe_int pa_nil))) (pa_cons (pe_tup (pa_cons pe_int (pa_cons pe_int pa_nil))) (pa_cons (pe_tup (pa_cons pe_int (pa_cons pe_int pa_nil))) pa_nil))))) (pa_cons (pe_lst (pa_cons (pe_tup (pa_cons pe_int (pa_cons pe_int (pa_cons pe_int pa_nil)))) (pa_cons (pe_tup (pa_cons pe_int (pa_cons pe_int (pa_cons pe_int pa_nil)))) (pa_cons (pe_tup (pa_cons pe_int (pa_cons pe_int (pa_cons pe_int pa_nil)))) (pa_cons (pe_tup (pa_cons pe_int (pa_cons pe_int (pa_cons pe_int pa_nil)))) pa_nil))))) pa_nil))))
    (pss_cons (ps_set (i := 7) sc__law_code.nd rfl (by first | exact Or.inl rfl | exact Or.inr rfl) (pe_op op_cat (pv 7) (pe_lst (pa_cons (pe_lst (pa_cons (pe_tup (pa_cons pe_int (pa_cons pe_int pa_nil))) (pa_cons (pe_tup (pa_cons pe_int (pa_cons pe_int (pa_cons pe_int (pa_cons pe_int pa_nil))))) (pa_cons (pe_tup (pa_cons pe_int (pa_cons pe_int (pa_cons pe_int pa_nil)))) (pa_cons (pe_tup (pa_cons pe_int (pa_cons pe_int (pa_cons pe_int pa_nil)))) pa_nil))))) (pa_cons (pe_lst (pa_cons (pe_tup (pa_cons pe_int pa_nil)) (pa_cons (pe_tup (pa_cons pe_int (pa_cons pe_int pa_nil))) (pa_cons (pe_tup (pa_cons pe_int (pa_cons pe_int pa_nil))) (pa_cons (pe_tup (pa_cons pe_int pa_nil)) pa_nil))))) pa_nil)))))
    (pss_cons (ps_par (i := 8) (j := 9) (by rfl) sc__law_code.nd rfl rfl (by decide) rfl rfl (pa_cons (pe_ix ix_list (pv 7) (pe_fd (F__law_spin (P := P) (w := w) (base := base) T) hg (hr.mono (by decide)) pass0 (pa_cons (pv 0) (pa_cons pe_int pa_nil))) (fun _ _ => rfl)) (pa_cons (pe_lc (own := [("turn", 10)]) (g := gName 10) (by rfl) sc__law_code.nd (pi_range1 (by rfl) T.n_range (pa_cons pe_int pa_nil)) (blkOk_by (own := [("turn", 10)]) (N := ["reel", "many", "most", "letters", "rows", "way", "same", "chains", "chain", "ends", "turn", "row", "at", "width", "some", "between"]) (sc := defScope s__law_code) (by decide +kernel)) (fun _ _ _ _ _ => (pg_name (i := 10) sc__law_code.nd rfl (by first | exact Or.inl rfl | exact Or.inr rfl))) (fun _ _ _ _ _ => pts_nil) (fun _ _ _ _ _ => (pe_fd (F__law_widths (P := P) (w := w) (base := base) T) hg (hr.mono (by decide)) pass0 (pa_cons (pv 0) (pa_cons pe_int (pa_cons pe_int pa_nil)))))) pa_nil)) (by rfl))
    (pss_cons (ps_for PassesOwn.never rfl (pi_range1 (by rfl) T.n_range (pa_cons (pv 1) pa_nil)) (pg_name (i := 10) sc__law_code.nd rfl (by first | exact Or.inl rfl | exact Or.inr rfl)) (pss_cons (ps_set (i := 11) sc__law_code.nd rfl (by first | exact Or.inl rfl | exact Or.inr rfl) (pe_ifExp (pt_cmpR op_eq (pv 5) pe_int (nomark _)) (pe_fd (F__law_widths (P := P) (w := w) (base := base) T) hg (hr.mono (by decide)) pass0 (pa_cons (pv 0) (pa_cons (pv 6) (pa_cons (pv 6) pa_nil)))) (pe_fd (F__law_widths (P := P) (w := w) (base := base) T) hg (hr.mono (by decide)) pass0 (pa_cons (pv 0) (pa_cons pe_int (pa_cons (pv 2) pa_nil)))))) (pss_cons (ps_if (PW.pt (pw_and (pt_cmpR op_eq (pv 5) pe_int (nomark _)) (pw_and1 (pt_cmpR (op_neR hr.units) (pv 4) (pe_lst pa_nil) (nomark _))))) (pss_cons (ps_set (i := 11) sc__law_code.nd rfl (by first | exact Or.inl rfl | exact Or.inr rfl) (pe_ix ix_list (pv 4) (pe_fd (F__law_spin (P := P) (w := w) (base := base) T) hg (hr.mono (by decide)) pass0 (pa_cons (pv 0) (pa_cons (pe_callB call_len' (by rfl) T.n_len (by decide +kernel) (pa_cons (pv 4) pa_nil)) pa_nil))) (fun _ _ => rfl))) (pss_cons (ps_set (i := 12) sc__law_code.nd rfl (by first | exact Or.inl rfl | exact Or.inr rfl) (pe_fd (F__law_spin (P := P) (w := w) (base := base) T) hg (hr.mono (by decide)) pass0 (pa_cons (pv 0) (pa_cons (pe_callB call_len' (by rfl) T.n_len (by decide +kernel) (pa_cons (pv 11) pa_nil)) pa_nil)))) (pss_cons (ps_set (i := 13) sc__law_code.nd rfl (by first | exact Or.inl rfl | exact Or.inr rfl) (pe_callB (call_max2' rfl) (by rfl) T.n_max (by decide +kernel) (pa_cons pe_int (pa_cons (pe_callB (call_min2' rfl) (by rfl) T.n_min (by decide +kernel) (pa_cons pe_int (pa_cons (pe_op op_add (pe_ix ix_tup (pv 11) (pv 12) (fun _ _ => rfl)) (pe_ix ix_list (pe_lst (pa_cons pe_int (pa_cons (pe_un un_neg pe_int) pa_nil))) (pe_fd (F__law_spin (P := P) (w := w) (base := base) T) hg (hr.mono (by decide)) pass0 (pa_cons (pv 0) (pa_cons pe_int pa_nil))) (fun _ _ => rfl))) pa_nil))) pa_nil)))) (pss_one (ps_set (i := 11) sc__law_code.nd rfl (by first | exact Or.inl rfl | exact Or.inr rfl) (pe_op op_catA (pe_op op_catA (pe_slice sl_tupA (pv 11) po_none (po_some (pv 12))) (pe_tup (pa_cons (pv 13) pa_nil))) (pe_slice sl_tupA (pv 11) (po_some (pe_op op_add (pv 12) pe_int)) po_none))))))) pss_nil) (pss_cons (ps_if (PW.pt (pw_and (pt_cmpR op_gt (pv 5) pe_int (nomark _)) (pw_and1 (pt_cmpR op_lt (pv 10) pe_int (nomark _))))) (pss_one (ps_set (i := 11) sc__law_code.nd rfl (by first | exact Or.inl rfl | exact Or.inr rfl) (pe_ix ix_list (pv 8) (pv 10) (fun _ _ => rfl)))) pss_nil) (pss_cons (ps_if (PW.pt (pw_and (pt_cmpR op_eq (pv 5) pe_int (nomark _)) (pw_and1 (pt_cmpR op_lt (pv 10) pe_int (nomark _))))) (pss_one (ps_set (i := 11) sc__law_code.nd rfl (by first | exact Or.inl rfl | exact Or.inr rfl) (pe_ix ix_list (pe_lst (pa_cons (pe_op op_catA (pe_ix ix_list (pv 9) pe_int (fun _ _ => rfl)) (pv 11)) (pa_cons (pe_op op_catA (pv 11) (pe_ix ix_list (pv 9) pe_int (fun _ _ => rfl))) pa_nil))) (pe_op op_mod (pe_callTy call_int1' (by rfl) T.n_int (by decide +kernel) (pa_cons (pv 10) pa_nil)) pe_int) (fun _ _ => rfl)))) pss_nil) (pss_one (ps_expr (pe_bm PySem.F.plainAttrs_list PySem.F.slot_list_append PySem.F.type_list_append mt_append (pv 4) (pa_cons (pv 11) pa_nil)))))))))
    (pss_cons (ps_set (i := 14) sc__law_code.nd rfl (by first | exact Or.inl rfl | exact Or.inr rfl) pe_dnewK)
    (pss_cons (ps_while PassesOwn.never (pt_cmpR (op_neR hr.units) (pv 4) (pe_lst pa_nil) (nomark _)) (pss_one (ps_dput (hu_of hr) (pv 14) (pe_bm PySem.F.plainAttrs_list PySem.F.slot_list_pop PySem.F.type_list_pop mt_popAt (pv 3) (pa_cons (pe_fd (F__law_spin (P := P) (w := w) (base := base) T) hg (hr.mono (by decide)) pass0 (pa_cons (pv 0) (pa_cons (pe_callB call_len' (by rfl) T.n_len (by decide +kernel) (pa_cons (pv 3) pa_nil)) pa_nil))) pa_nil)) (pe_bm PySem.F.plainAttrs_list PySem.F.slot_list_pop PySem.F.type_list_pop mt_popAt (pv 4) (pa_cons (pe_fd (F__law_spin (P := P) (w := w) (base := base) T) hg (hr.mono (by decide)) pass0 (pa_cons (pv 0) (pa_cons (pe_callB call_len' (by rfl) T.n_len (by decide +kernel) (pa_cons (pv 4) pa_nil)) pa_nil))) pa_nil)) rfl)))
    (pss_cons (ps_set (i := 15) sc__law_code.nd rfl (by first | exact Or.inl rfl | exact Or.inr rfl) (pe_ix ix_list (pe_lst (pa_cons (pe_tup pa_nil) (pa_cons (pe_tup pa_nil) (pa_cons (pe_fd (F__law_widths (P := P) (w := w) (base := base) T) hg (hr.mono (by decide)) pass0 (pa_cons (pv 0) (pa_cons pe_int (pa_cons pe_int pa_nil)))) pa_nil)))) (pe_fd (F__law_spin (P := P) (w := w) (base := base) T) hg (hr.mono (by decide)) pass0 (pa_cons (pv 0) (pa_cons pe_int pa_nil))) (fun _ _ => rfl)))
    (pss_one (ps_ret (pe_tup (pa_cons (pe_fd (F__law_widths (P := P) (w := w) (base := base) T) hg (hr.mono (by decide)) pass0 (pa_cons (pv 0) (pa_cons pe_int (pa_cons pe_int pa_nil)))) (pa_cons (pv 14) (pa_cons (pv 15) (pa_cons (pe_fd (F__law_widths (P := P) (w := w) (base := base) T) hg (hr.mono (by decide)) pass0 (pa_cons (pv 0) (pa_cons pe_int (pa_cons pe_int pa_nil)))) pa_nil)))))))))))))))), ?_⟩
  rw [show L2.start ["reel", "many", "most", "letters", "rows", "way", "same", "chains", "chain", "ends", "turn", "row", "at", "width", "some", "between"] [(.ref r), v1, v2] = [some (.ref r), some v1, some v2, none, none, none, none, none, none, none, none, none, none, none, none, none] from rfl]
  dsimp only [xK]
  -- letters, rows
  refine ⟨lettS, rfl, by decide +kernel, fun pl hpl => ⟨show (0 : Nat) ≤ sizeLine from Nat.zero_le _, fun pr hpr => ⟨_, _, rfl, ?_⟩⟩⟩
  rw [L35_sign] at hpr ⊢
  have Mpl := hA.mNone hpl
  have A1 := hA.nm (o := .lst (L35.map V.str)) hpl
  have Mpr' := A1.mNone hpr
  have hne : pr ≠ pl := fun z => by rw [z, upd_same] at hpr; cases hpr
  have Mpr : M pr = none := by rw [upd_ne hne] at Mpr'; exact Mpr'
  have A2 := A1.nm (o := .lst []) hpr
  have nl : pl ≠ r := hRL.ne Mpl
  have nr : pr ≠ r := hRL.ne Mpr
  have RL2 := (hRL.upd (o := .lst (L35.map V.str)) nl).upd (o := .lst []) nr
  -- way, same
  refine q_parE (n := n) (n' := n + 2) (Ψ := fun ds => ∃ w s : Int, ds = [.int w, .int s] ∧ 0 ≤ w ∧ w ≤ 4 ∧ 1 ≤ s ∧ s ≤ most) (ea_cons (spin_c rfl (by decide) (by decide) (by omega)) fun d hd => ea_cons (e_op (Φ1 := fun d => d = .int 1) (Φ2 := RI 0 (most - 1)) (Φ := RI 1 most) (e_D d_int rfl) (fun _ _ => spin_call rfl (e_D (d_var rfl (r2.up (Ex.refl G))) ⟨_, rfl, by omega, by omega, fun _ h => h⟩) (by omega)) ?_) fun d2 hd2 => ea_nil ?_) ?_ A2 .refl RL2 fun ds v5 v6 G3 M3 H3 e3 A3 S3 R3 hds rvs => ?_
  · rintro _ _ rfl ⟨i, rfl, h0, h1⟩
    exact ⟨_, rd_add, _, rfl, by omega, by omega⟩
  · obtain ⟨i, rfl, h0, h1⟩ := hd
    obtain ⟨j, rfl, h2, h3⟩ := hd2
    exact ⟨i, j, rfl, h0, by omega, h2, h3⟩
  · rintro _ ⟨_, _, rfl, _⟩
    rfl
  obtain ⟨way, same, rfl, w0, w4, s0, s1⟩ := hds
  obtain ⟨_, _, rr1, r5, _, _, rr2, r6, _⟩ := rvs
  cases rr1
  cases rr2
  -- chains
  refine q_set (K := K) (d := .list [.list [.tuple [.int 2, .int 1], .tuple [.int 1, .int 2], .tuple [.int 3, .int 2], .tuple [.int 2, .int 3]], .list [.tuple [.int 3, .int 2, .int 1], .tuple [.int 1, .int 2, .int 3], .tuple [.int 4, .int 3, .int 2], .tuple [.int 2, .int 3, .int 4]]]) (d_lst (a_cons (d_lst (a_cons (d_tup (a_cons d_int (a_cons d_int a_nil)) (Nat.le_of_ble_eq_true rfl)) (a_cons (d_tup (a_cons d_int (a_cons d_int a_nil)) (Nat.le_of_ble_eq_true rfl)) (a_cons (d_tup (a_cons d_int (a_cons d_int a_nil)) (Nat.le_of_ble_eq_true rfl)) (a_cons (d_tup (a_cons d_int (a_cons d_int a_nil)) (Nat.le_of_ble_eq_true rfl)) a_nil)))) (Nat.le_of_ble_eq_true rfl)) (a_cons (d_lst (a_cons (d_tup (a_cons d_int (a_cons d_int (a_cons d_int a_nil))) (Nat.le_of_ble_eq_true rfl)) (a_cons (d_tup (a_cons d_int (a_cons d_int (a_cons d_int a_nil))) (Nat.le_of_ble_eq_true rfl)) (a_cons (d_tup (a_cons d_int (a_cons d_int (a_cons d_int a_nil))) (Nat.le_of_ble_eq_true rfl)) (a_cons (d_tup (a_cons d_int (a_cons d_int (a_cons d_int a_nil))) (Nat.le_of_ble_eq_true rfl)) a_nil)))) (Nat.le_of_ble_eq_true rfl)) a_nil)) (Nat.le_of_ble_eq_true rfl)) A3 fun v7 G4 H4 e4 A4 r7 => ?_
  refine q_set (K := K) (d := .list [.list (ch1.map tD), .list (ch2.map tD), .list (ch3.map tD), .list (ch4.map tD)]) (d_op (d_var rfl r7) (d2 := .list [.list [.tuple [.int 3, .int 2], .tuple [.int 1, .int 1, .int 2, .int 3], .tuple [.int 4, .int 3, .int 2], .tuple [.int 2, .int 3, .int 4]], .list [.tuple [.int 1], .tuple [.int 2, .int 1], .tuple [.int 1, .int 1], .tuple [.int 2]]]) (d_lst (a_cons (d_lst (a_cons (d_tup (a_cons d_int (a_cons d_int a_nil)) (Nat.le_of_ble_eq_true rfl)) (a_cons (d_tup (a_cons d_int (a_cons d_int (a_cons d_int (a_cons d_int a_nil)))) (Nat.le_of_ble_eq_true rfl)) (a_cons (d_tup (a_cons d_int (a_cons d_int (a_cons d_int a_nil))) (Nat.le_of_ble_eq_true rfl)) (a_cons (d_tup (a_cons d_int (a_cons d_int (a_cons d_int a_nil))) (Nat.le_of_ble_eq_true rfl)) a_nil)))) (Nat.le_of_ble_eq_true rfl)) (a_cons (d_lst (a_cons (d_tup (a_cons d_int a_nil) (Nat.le_of_ble_eq_true rfl)) (a_cons (d_tup (a_cons d_int (a_cons d_int a_nil)) (Nat.le_of_ble_eq_true rfl)) (a_cons (d_tup (a_cons d_int (a_cons d_int a_nil)) (Nat.le_of_ble_eq_true rfl)) (a_cons (d_tup (a_cons d_int a_nil) (Nat.le_of_ble_eq_true rfl)) a_nil)))) (Nat.le_of_ble_eq_true rfl)) a_nil)) (Nat.le_of_ble_eq_true rfl)) (rd_cat (Nat.le_of_ble_eq_true rfl))) A4 fun v7 G5 H5 e5 A5 r7 => ?_
  -- chain, ends
  have E05 : Ex G G5 := (e3.trans e4).trans e5
  refine q_parE (n' := n + 2 + 1 + 2 * 3) (Ψ := fun ds => ∃ d e0 e1, ds = [d, .list [tD e0, tD e1]] ∧ IsCh d ∧ okW 1 2 e0 ∧ okW 1 2 e1) (ea_cons (e_op (Φ1 := fun d => d = .list [.list (ch1.map tD), .list (ch2.map tD), .list (ch3.map tD), .list (ch4.map tD)]) (Φ2 := RI 0 3) (Φ := IsCh) (e_D (d_var rfl r7) rfl) (fun _ _ => spin_c rfl (by decide) (by decide) (by omega)) ?_) fun d hd => ea_cons (e_lcR (c := 2) (step := 3) (Φ0 := fun z => z = 2) (Φ1 := IsW 1 2) (Φ := fun d => ∃ e0 e1, d = .list [tD e0, tD e1] ∧ okW 1 2 e0 ∧ okW 1 2 e1) (e_D d_int ⟨2, rfl, rfl, by decide, by decide⟩) (by decide) (fun M1 x t ht => widths_call rfl d_int d_int (by decide) (by decide) (by omega)) ?_) fun d2 hd2 => ea_nil ?_) ?_ A5 S3 R3 fun ds v8 v9 G6 M6 H6 e6 A6 S6 R6 hds rvs => ?_
  · rintro _ _ rfl ⟨i, rfl, h0, h1⟩
    obtain ⟨e, he, hc⟩ := four_at (a := .list (ch1.map tD)) (b := .list (ch2.map tD)) (c := .list (ch3.map tD)) (d := .list (ch4.map tD)) h0 h1
    refine ⟨e, rd_ixL he, ?_⟩
    rcases hc with rfl | rfl | rfl | rfl
    · exact ⟨ch1, rfl, rfl, by decide⟩
    · exact ⟨ch2, rfl, rfl, by decide⟩
    · exact ⟨ch3, rfl, rfl, by decide⟩
    · exact ⟨ch4, rfl, rfl, by decide⟩
  · rintro z ds rfl hl hall
    match ds, hl, hall with
    | [a, b], _, hall =>
      obtain ⟨e0, rfl, k0⟩ := hall a (by simp)
      obtain ⟨e1, rfl, k1⟩ := hall b (by simp)
      exact ⟨e0, e1, rfl, k0, k1⟩
    | [], hl, _ => cases hl
    | [a], hl, _ => simp at hl
    | a :: b :: c :: r, hl, _ => simp at hl; omega
  · obtain ⟨e0, e1, rfl, k0, k1⟩ := hd2
    exact ⟨d, e0, e1, rfl, hd, k0, k1⟩
  · rintro _ ⟨_, _, _, rfl, _⟩
    rfl
  obtain ⟨_, e0, e1, rfl, ⟨chn, rfl, hch4, hchok⟩, k0, k1⟩ := hds
  obtain ⟨_, _, rr1, r8, _, _, rr2, r9, _⟩ := rvs
  cases rr1
  cases rr2
  obtain ⟨sm, rfl⟩ := Int.eq_ofNat_of_zero_le (show 0 ≤ same by omega)
  have E06 := E05.trans e6
  have E36 : Ex G3 G6 := (e4.trans e5).trans e6
  refine s_seq (s_forRI (n := many) (fun k σ G' M' => ∃ (xs : List V) (rows : List (List Int)) (a10 a11 a12 a13 : Option V), σ = slC r pl pr v1 v2 v5 v6 v7 v8 v9 a10 a11 a12 a13 none none ∧ Same r (upd (upd M pl (.lst (L35.map V.str))) pr (.lst xs)) M' ∧ RL r (n + 9 + k * 20) M' ∧ RpL K G' (rows.map tD) xs ∧ rows.length = k ∧ ∀ x ∈ rows, okW 1 6 x) (d_var rfl (r1.up E06)) (by omega) (by omega) A6
    ?_ ⟨[], [], none, none, none, none, rfl, S6, R6.le (by omega), rfl, rfl, fun _ h => by cases h⟩ (fun k hk σ1 G1 M1 H1 eL AL hI Nx hN => ?_) fun σ1 G1 M1 H1 eL AL hI => ?_)
  · rintro k σ1 Ga Gb M1 e ⟨xs, rows, a10, a11, a12, a13, h1, h2, h3, h4, h5⟩
    exact ⟨xs, rows, a10, a11, a12, a13, h1, h2, h3, h4.up e, h5⟩
  · obtain ⟨xs, rows, a10, a11, a12, a13, rfl, SL, RL', rx, hrl, hrows⟩ := hI
    have hkm : k < many := by omega
    have hxl : xs.length = k := by rw [rx.len, List.length_map, hrl]
    have p5 : Rp K G1 (.int way) v5 := r5.up (E36.trans eL)
    have p6 : Rp K G1 (.int ((sm : Nat) : Int)) v6 := r6.up (E36.trans eL)
    have p2 : Rp K G1 (.int ((most : Nat) : Int)) v2 := r2.up (E06.trans eL)
    have p8 : Rp K G1 (.list (chn.map tD)) v8 := r8.up eL
    have p9 : Rp K G1 (.list [tD e0, tD e1]) v9 := r9.up eL
    refine q_setE (Φ := IsW 1 6) (n' := n + 9 + k * 20 + 7) (e_if (b := decide (way = 0)) (b_T (d_op (d_var rfl p5) d_int rd_eqI)) (fun _ => ((widths_call (lo := sm) (hi := sm) rfl (d_var rfl p6) (d_var rfl p6) (Nat.le_refl _) (by omega) (by omega)).le (by omega)).imp fun d hd => ?_) fun _ => ((widths_call (lo := 1) (hi := most) rfl d_int (d_var rfl p2) (by omega) (by omega) (by omega)).le (by omega)).imp fun d hd => ?_) AL SL RL' fun d v11 G2 M2 H2 e2 A2 S2 R2 hd rv => ?_
    · obtain ⟨ws, rfl, ok⟩ := hd
      exact ⟨ws, rfl, ok.le (by omega) (by omega)⟩
    · obtain ⟨ws, rfl, ok⟩ := hd
      exact ⟨ws, rfl, ok.le (by omega) (by omega)⟩
    obtain ⟨row, rfl, hrow⟩ := hd
    -- a row before, one of its widths another
    refine q_cut (fun σ' H' => ∃ (G' M' : Hp) (a12 a13 : Option V) (v11 : V) (row : List Int), Ex G1 G' ∧ At G' M' H' ∧ Same r (upd (upd M pl (.lst (L35.map V.str))) pr (.lst xs)) M' ∧ RL r (n + 9 + k * 20 + 15) M' ∧ Rp K G' (tD row) v11 ∧ okW 1 6 row ∧ σ' = slC r pl pr v1 v2 v5 v6 v7 v8 v9 (some (.int k)) (some v11) a12 a13 none none) ?_ fun hkk => ?_
    rotate_left
    · have hM2 : M2 pr = some (.lst xs) := (S2 pr nr).trans upd_same
      have hGp : G2 pr = none := A2.d _ _ hM2
      rw [← cut_eq hM2] at A2
      have eU : Ex G2 (upd G2 pr (.lst xs)) := Ex.new hGp
      refine s_iffz (b := decide (way = 2) && !rows.isEmpty) (b_and (b_T (d_op (d_var rfl (p5.up (e2.trans eU))) d_int rd_eqI)) fun _ => TrB.to (b_T (d_op (d_var rfl (d := .list (rows.map tD)) ⟨pr, xs, rfl, upd_same, rx.up (e2.trans eU)⟩) (d_lst a_nil) (rd_neR (shaped_rows rows) rfl))) (by rw [eqv_nil]; cases rows <;> rfl)) hGp cut_none A2 (fun hb Gb Hb eb Ab => ?_) fun hb Gb Hb eb Ab => ?_
      · rw [cut_eq hM2] at Ab
        have hr0 : 0 < rows.length := by
          cases rows with
          | nil => simp at hb
          | cons _ _ => exact Nat.succ_pos _
        refine q_setE (Φ := IsW 1 6) (e_ixM (i := 4) (p := pr) (Φ1 := RI 0 (xs.length - 1)) rfl upd_same nr (rx.up (e2.trans eb)) (spin_call rfl (e_len rfl upd_same nr ⟨_, rfl, by omega, by omega, fun _ h => h⟩) (by omega)) (fun d hd => ?_)) Ab S2 R2 fun d v11 G3' M3' H3' e3' A3' S3' R3' hd rv => ?_
        · obtain ⟨i, rfl, h0, h1⟩ := hd
          obtain ⟨iN, rfl⟩ := Int.eq_ofNat_of_zero_le h0
          have hi : iN < (rows.map tD).length := by rw [List.length_map]; omega
          have hi2 : iN < rows.length := by omega
          refine ⟨iN, _, rfl, at_dat hi, rows[iN], ?_, hrows _ (List.getElem_mem hi2)⟩
          rw [List.getElem_map]
          rfl
        obtain ⟨row2, rfl, hrow2⟩ := hd
        have hl1 := hrow2.1
        have hl2 := hrow2.2.1
        refine q_setE (Φ := RI 0 (row2.length - 1)) (spin_call rfl (e_D (d_cb (a_cons (d_var rfl rv) a_nil) rc_lenT) ⟨_, rfl, by rw [dInts_len]; omega, by rw [dInts_len]; omega, fun d h => by rw [dInts_len] at h; exact h⟩) (by omega)) A3' S3' R3' fun d v12 G4' M4' H4' e4' A4' S4' R4' hd rv12 => ?_
        obtain ⟨ai, rfl, h0, h1⟩ := hd
        obtain ⟨aN, rfl⟩ := Int.eq_ofNat_of_zero_le h0
        have haN : aN < row2.length := by omega
        have hat : L2.atI (dInts row2) (aN : Int) = some (.int row2[aN]) := by
          rw [at_dat (by rw [dInts_len]; exact haN)]
          congr 1
          unfold dInts
          rw [List.getElem_map]
        have hneg : TrD K (tLst (tCons (tC (V.int 1)) (tCons (tUn (rU fun i => V.int (-i)) (tC (V.int 1))) tNil))) (slC r pl pr v1 v2 v5 v6 v7 v8 v9 (some (.int k)) (some v11) (some v12) a13 none none) G4' (.list [.int 1, .int (-1)]) :=
          d_lst (a_cons d_int (a_cons (d_un (d1 := .int 1) d_int (fun G M H x A h Q q => ⟨1, h, q.here A rfl⟩)) a_nil))
        refine q_setE (Φ := RI 1 4) (n' := n + 9 + k * 20 + 7 + 1 + 1 + 1) (e_cb (Ψ := fun ds => ∃ z : Int, ds = [.int 1, .int z] ∧ z ≤ 4) (ea_cons (Φ := fun d => d = .int 1) (e_D d_int rfl) fun d hd => ea_cons (Φ := fun d => ∃ z : Int, d = .int z ∧ z ≤ 4) (e_cb (Ψ := fun ds => ∃ z : Int, ds = [.int 4, .int z]) (ea_cons (Φ := fun d => d = .int 4) (e_D d_int rfl) fun d hd => ea_cons (Φ := fun d => ∃ z : Int, d = .int z)
            (e_op (Φ1 := fun d => d = .int row2[aN]) (Φ2 := fun d => ∃ z : Int, d = .int z) (e_D (d_op (d_var rfl (rv.up e4')) (d_var rfl rv12) (rd_ixT hat)) rfl) (fun _ _ => e_op (Φ1 := fun d => d = .list [.int 1, .int (-1)]) (Φ2 := RI 0 1) (e_D hneg rfl) (fun _ _ => spin_c rfl (by decide) (by decide) (by omega)) ?_) ?_) fun d2 hd2 => ea_nil ?_) ?_) fun d2 hd2 => ea_nil ?_) ?_) A4' S4' R4' fun d v13 G5' M5' H5' e5' A5' S5' R5' hd rv13 => ?_
        · rintro _ _ rfl ⟨i, rfl, h0, h1⟩
          have : i = 0 ∨ i = 1 := by omega
          rcases this with rfl | rfl
          · exact ⟨.int 1, rd_ixL rfl, 1, rfl⟩
          · exact ⟨.int (-1), rd_ixL rfl, -1, rfl⟩
        · rintro _ _ rfl ⟨z, rfl⟩
          exact ⟨_, rd_add, _, rfl⟩
        · obtain ⟨z, rfl⟩ := hd2
          subst hd
          exact ⟨z, rfl⟩
        · rintro _ ⟨z, rfl⟩
          exact ⟨_, rc_min2, _, rfl, by split <;> omega⟩
        · obtain ⟨z, rfl, hz⟩ := hd2
          subst hd
          exact ⟨z, rfl, hz⟩
        · rintro _ ⟨z, rfl, hz⟩
          exact ⟨_, rc_max2, _, rfl, by split <;> omega, by split <;> omega⟩
        obtain ⟨wz, rfl, hw1, hw4⟩ := hd
        refine s_set (d := tD (row2.take aN ++ [wz] ++ row2.drop (aN + 1))) (TrD.to (d_op (d_op (d_slA (d_var rfl (rv.up (e4'.trans e5'))) o_none (o_some (d_var rfl (rv12.up e5')))) (d_tup (a_cons (d_var rfl rv13) a_nil) (Nat.le_of_ble_eq_true rfl)) (rd_catA ?_)) (d_slA (d_var rfl (rv.up (e4'.trans e5'))) (o_some (d_op (d_var rfl (rv12.up e5')) d_int rd_add)) o_none) (rd_catA ?_)) ?_) A5' fun v11 G6' H6' e6' A6' rv11 => ?_
        · rw [cut_to (by rw [dInts_len]; omega), List.length_take, dInts_len]
          show _ + 1 ≤ 100000
          omega
        · have e : ((aN : Int) + 1) = ((aN + 1 : Nat) : Int) := by omega
          rw [e, cut_to (by rw [dInts_len]; omega), cut_from (by rw [dInts_len]; omega), List.length_append, List.length_take, List.length_drop, dInts_len]
          show _ + 1 + _ ≤ 100000
          omega
        · have e : ((aN : Int) + 1) = ((aN + 1 : Nat) : Int) := by omega
          rw [e, cut_to (by rw [dInts_len]; omega), cut_from (by rw [dInts_len]; omega)]
          unfold tD dInts
          rw [List.map_append, List.map_append, List.map_take, List.map_drop]
          rfl
        exact hkk _ _ ⟨G6', M5', _, _, v11, _, ((((e2.trans eb).trans e3').trans e4').trans e5').trans e6', A6', S5', R5'.le (by omega), rv11, hrow2.edit haN hw1 hw4, rfl⟩
      · rw [cut_eq hM2] at Ab
        exact s_next (hkk _ _ ⟨Gb, M2, _, _, v11, row, e2.trans eb, Ab, S2, R2.le (by omega), rv.up eb, hrow, rfl⟩)
    rintro _ H3' ⟨G3', M3', b12, b13, v11', row1, e3', A3', S3', R3', rv', hrow1, rfl⟩
    -- a row of the chain
    refine q_cut (fun σ' H' => ∃ (G' : Hp) (v11 : V) (row : List Int), Ex G1 G' ∧ At G' M3' H' ∧ Rp K G' (tD row) v11 ∧ okW 1 6 row ∧ ((way = 4 ∧ k < 4) → okW 1 4 row) ∧ σ' = slC r pl pr v1 v2 v5 v6 v7 v8 v9 (some (.int k)) (some v11) b12 b13 none none) ?_ fun hkk => ?_
    rotate_left
    · refine s_if (b := decide (2 < way) && decide ((k : Int) < 4)) (b_and (b_T (d_op (d_var rfl (p5.up e3')) d_int rd_gt)) fun _ => b_T (d_op (d_var (K := K) rfl (d := .int k) rfl) d_int rd_lt)) A3' (fun hb Gb Hb eb Ab => ?_) fun hb Gb Hb eb Ab => ?_
      · have hb2 := Bool.and_eq_true_iff.mp hb
        have hk4 : k < chn.length := by have := of_decide_eq_true hb2.2; omega
        refine s_set (d := tD chn[k]) (d_op (d_var rfl (p8.up (e3'.trans eb))) (d_var (K := K) rfl (d := .int k) rfl) (rd_ixL ?_)) Ab fun v11 G4' H4' e4' A4' rv11 => ?_
        · rw [at_dat (by rw [List.length_map]; exact hk4), List.getElem_map]
        · have z := hchok _ (List.getElem_mem hk4)
          exact hkk _ _ ⟨G4', v11, chn[k], (e3'.trans eb).trans e4', A4', rv11, z.le (by omega) (by omega), fun _ => z, rfl⟩
      · refine s_next (hkk _ _ ⟨Gb, v11', row1, e3'.trans eb, Ab, rv'.up eb, hrow1, fun ⟨z1, z2⟩ => ?_, rfl⟩)
        rw [z1, decide_eq_true (by omega), decide_eq_true (by omega)] at hb
        cases hb
    rintro _ H4' ⟨G4', v11, row2, e4', A4', rv11, hrow2, hc2, rfl⟩
    -- with an end put to it
    refine q_cut (fun σ' H' => ∃ (G' : Hp) (v11 : V) (row : List Int), Ex G1 G' ∧ At G' M3' H' ∧ Rp K G' (tD row) v11 ∧ okW 1 6 row ∧ σ' = slC r pl pr v1 v2 v5 v6 v7 v8 v9 (some (.int k)) (some v11) b12 b13 none none) ?_ fun hkk => ?_
    rotate_left
    · refine s_if (b := decide (way = 4) && decide ((k : Int) < 4)) (b_and (b_T (d_op (d_var rfl (p5.up e4')) d_int rd_eqI)) fun _ => b_T (d_op (d_var (K := K) rfl (d := .int k) rfl) d_int rd_lt)) A4' (fun hb Gb Hb eb Ab => ?_) fun hb Gb Hb eb Ab => ?_
      · have hb2 := Bool.and_eq_true_iff.mp hb
        have ok4 := hc2 ⟨of_decide_eq_true hb2.1, by have := of_decide_eq_true hb2.2; omega⟩
        have l0 := k0.2.1
        have l1 := k1.2.1
        have l4 := ok4.2.1
        have hsel : ∃ row : List Int, L2.atI [tD (e0 ++ row2), tD (row2 ++ e1)] ((k : Int) % 2) = some (tD row) ∧ okW 1 6 row := by
          have : (k : Int) % 2 = 0 ∨ (k : Int) % 2 = 1 := by omega
          rcases this with h | h <;> rw [h]
          · exact ⟨e0 ++ row2, rfl, (k0.app ok4).le (by omega) (by omega)⟩
          · exact ⟨row2 ++ e1, rfl, (ok4.app k1).le (by omega) (by omega)⟩
        obtain ⟨row3, hat, ok3⟩ := hsel
        have pe : Rp K Gb (.list [tD e0, tD e1]) v9 := p9.up (e4'.trans eb)
        refine s_set (d := tD row3) (d_op (d_lst (ds := [tD (e0 ++ row2), tD (row2 ++ e1)]) (a_cons (TrD.to (d_op (d_op (d_var rfl pe) d_int (rd_ixL (d := tD e0) rfl)) (d_var rfl (rv11.up eb)) (rd_catA (ds := dInts e0) (es := dInts row2) (by rw [dInts_len, dInts_len]; omega))) ?_) (a_cons (TrD.to (d_op (d_var rfl (rv11.up eb)) (d_op (d_var rfl pe) d_int (rd_ixL (d := tD e1) rfl)) (rd_catA (ds := dInts row2) (es := dInts e1) (by rw [dInts_len, dInts_len]; omega))) ?_) a_nil)) (Nat.le_of_ble_eq_true rfl)) (d_op (d_cb (a_cons (d_var (K := K) rfl (d := .int k) rfl) a_nil) rc_int1) d_int (rd_mod (by decide))) (rd_ixL hat)) Ab fun v11 G5' H5' e5' A5' rv5 => ?_
        · unfold tD dInts; rw [List.map_append]
        · unfold tD dInts; rw [List.map_append]
        · exact hkk _ _ ⟨G5', v11, row3, (e4'.trans eb).trans e5', A5', rv5, ok3, rfl⟩
      · exact s_next (hkk _ _ ⟨Gb, v11, row2, e4'.trans eb, Ab, rv11.up eb, hrow2, rfl⟩)
    rintro _ H5' ⟨G5', v11, row3, e5', A5', rv5, hrow3, rfl⟩
    -- the row put to the rows
    have hM3 : M3' pr = some (.lst xs) := (S3' pr nr).trans upd_same
    refine s_append rfl hM3 (d_var rfl rv5) (by omega) A5' fun y G6' H6' e6' A6' ry => ?_
    refine hN _ G6' _ H6' (e5'.trans e6') A6' ⟨xs ++ [y], rows ++ [row3], _, _, _, _, rfl, fun x hx => ?_, (R3'.upd nr).le (by omega), ?_, by rw [List.length_append, hrl]; rfl, fun x hx => ?_⟩
    · by_cases e : x = pr
      · subst e
        rw [upd_same, upd_same]
      · rw [upd_ne e, S3' x hx, upd_ne e, upd_ne e]
    · rw [List.map_append]
      exact (rx.up (e5'.trans e6')).snoc ry
    · rcases List.mem_append.mp hx with z | z
      · exact hrows x z
      · rw [List.mem_singleton.mp z]; exact hrow3
  · obtain ⟨xs, rows, a10, a11, a12, a13, rfl, SL, RL', rx, hrl, hrows⟩ := hI
    rw [Int.toNat_natCast] at RL' hrl
    refine q_newD AL fun ps H2 hMs hGs A2 => ?_
    have hPL : M1 pl = some (.lst (L35.map V.str)) := by rw [SL pl nl, upd_ne (Ne.symm hne), upd_same]
    have hPR : M1 pr = some (.lst xs) := (SL pr nr).trans upd_same
    have npl : ps ≠ pl := fun z => by rw [z, hPL] at hMs; cases hMs
    have npr : ps ≠ pr := fun z => by rw [z, hPR] at hMs; cases hMs
    have ns : ps ≠ r := RL'.ne hMs
    have Mps : M ps = none := by
      have z := SL ps ns
      rw [hMs, upd_ne npr, upd_ne npl] at z
      exact z.symm
    have hp4 : ∀ (Ls : List Str) (xs : List V) (es : List (Key × V)), (upd (upd (upd M pl (.lst (Ls.map V.str))) pr (.lst xs)) ps (.dK es)) pr = some (.lst xs) := fun Ls xs es => by rw [upd_ne (Ne.symm npr), upd_same]
    have hp3 : ∀ (Ls : List Str) (xs : List V) (es : List (Key × V)), (upd (upd (upd M pl (.lst (Ls.map V.str))) pr (.lst xs)) ps (.dK es)) pl = some (.lst (Ls.map V.str)) := fun Ls xs es => by rw [upd_ne (Ne.symm npl), upd_ne (Ne.symm hne), upd_same]
    let W : Nat → L2.St → Hp → Prop := fun m σ' H' => ∃ (G' M' : Hp) (Ls : List Str) (xs : List V) (rows : List (List Int)) (es : List (Key × V)) (cs : List (Str × List Int)), Ex G1 G' ∧ At G' M' H' ∧ Same r (upd (upd (upd M pl (.lst (Ls.map V.str))) pr (.lst xs)) ps (.dK es)) M' ∧ RL r (n + 9 + many * 20 + (many - m) * 2) M' ∧ RpL K G' (rows.map tD) xs ∧ RpD K G' (keysD (chD cs)) es ∧ rows.length = m ∧ cs.length + m = many ∧ Ls.length + cs.length = 35 ∧ (∀ x ∈ Ls, nqS x) ∧ (cs.map (·.1) ++ Ls).Nodup ∧ (∀ p ∈ cs, nqS p.1 ∧ okW 1 6 p.2) ∧ (∀ x ∈ rows, okW 1 6 x) ∧ σ' = slC r pl pr v1 v2 v5 v6 v7 v8 v9 a10 a11 a12 a13 (some (.ref ps)) none
    refine s_seq ?_
    refine ⟨W, ⟨many, G1, _, L35, xs, rows, [], [], Ex.refl _, A2, fun x hx => ?_, (RL'.upd ns).le (by omega), rx, rfl, hrl, by simp, by rw [L35_len]; rfl, L35_nq, by simpa using L35_nd, (fun _ h => by cases h), hrows, rfl⟩, ?_⟩
    · by_cases e : x = ps
      · subst e
        rw [upd_same, upd_same]
      · rw [upd_ne e, upd_ne e]
        exact SL x hx
    rintro m σ' H' ⟨G', M', Ls, xs, rows, es, cs, eG, AG, SG, RG, rx, re, hrl, hcl, hll, hnm, hnd, hcs, hrows, rfl⟩
    have hPR : M' pr = some (.lst xs) := (SG pr nr).trans (hp4 Ls xs es)
    have hxl : xs.length = m := by rw [rx.len, List.length_map, hrl]
    have hGp : G' pr = none := AG.d _ _ hPR
    rw [← cut_eq hPR] at AG
    refine w_Bfz (b := !rows.isEmpty) (TrB.to (b_T (d_op (d_var rfl (d := .list (rows.map tD)) ⟨pr, xs, rfl, upd_same, rx.up (Ex.new hGp)⟩) (d_lst a_nil) (rd_neR (shaped_rows rows) rfl))) (by rw [eqv_nil]; cases rows <;> rfl)) hGp cut_none AG fun Gb Hb eb Ab => ?_
    rw [cut_eq hPR] at Ab
    by_cases hr0 : rows = []
    · -- the dict is made
      subst hr0
      rw [if_neg (by decide)]
      have hm0' : m = 0 := hrl.symm
      subst hm0'
      have hDK : M' ps = some (.dK es) := (SG ps ns).trans upd_same
      rw [← cut_eq hDK] at Ab
      obtain ⟨G2, e2, A3', r14⟩ := At.doneD Ab cut_none (re.up eb)
      have RG' : RL r (n + 300) (cutG M' ps) := by
        obtain ⟨a, b, c, z1, z2, z3, z4⟩ := RG
        exact ⟨a, b, c, by show (if r = ps then none else M' r) = _; rw [if_neg (Ne.symm ns)]; exact z1, z2, z3, by omega⟩
      refine q_setE (Φ := IsW 0 2) (e_op (Φ1 := fun d => ∃ ws, d = .list [.tuple [], .tuple [], tD ws] ∧ okW 1 2 ws) (Φ2 := RI 0 2) (e_lst (Ψ := fun ds => ∃ ws, ds = [.tuple [], .tuple [], tD ws] ∧ okW 1 2 ws) (ea_cons (Φ := fun d => d = .tuple []) (e_D (d_tup a_nil) rfl) fun d hd => ea_cons (Φ := fun d => d = .tuple []) (e_D (d_tup a_nil) rfl) fun d2 hd2 => ea_cons (widths_call (lo := 1) (hi := 2) rfl d_int d_int (by decide) (by decide) (by omega)) fun d3 hd3 => ea_nil ?_) fun ds h => ?_) (fun _ _ => spin_c rfl (by decide) (by decide) (by omega)) ?_) A3' .refl RG' fun d v15 G3' M3' H3' e3' A4' S4' R4' hd rv15 => ?_
      · obtain ⟨ws, rfl, ok⟩ := hd3
        subst hd hd2
        exact ⟨ws, rfl, ok⟩
      · obtain ⟨ws, rfl, ok⟩ := h
        exact ⟨Nat.le_of_ble_eq_true rfl, ws, rfl, ok⟩
      · rintro _ _ ⟨ws, rfl, ok⟩ ⟨i, rfl, h0, h1⟩
        obtain ⟨e, he, hc⟩ := three_at (a := .tuple []) (b := .tuple []) (c := tD ws) h0 h1
        refine ⟨e, rd_ixL he, ?_⟩
        rcases hc with rfl | rfl | rfl
        · exact ⟨[], rfl, by decide⟩
        · exact ⟨[], rfl, by decide⟩
        · exact ⟨ws, rfl, ok.le (by omega) (by omega)⟩
      obtain ⟨bt, rfl, hbt⟩ := hd
      refine s_retE (Φ := fun d => ∃ a b, d = .tuple [tD a, .dict (keysD (chD cs)), tD bt, tD b] ∧ okW 1 6 a ∧ okW 1 6 b) (n' := n + 300 + (2 + 1) + 1 + (6 + 1) + (6 + 1)) (e_tup (Ψ := fun ds => ∃ a b, ds = [tD a, .dict (keysD (chD cs)), tD bt, tD b] ∧ okW 1 6 a ∧ okW 1 6 b) (ea_cons (widths_call (lo := 1) (hi := 6) rfl d_int d_int (by decide) (by decide) (by omega)) fun d hd => ea_cons (Φ := fun d => d = .dict (keysD (chD cs))) (e_D (d_var rfl (r14.up e3')) rfl) fun d2 hd2 => ea_cons (Φ := fun d => d = tD bt) (e_D (d_var rfl rv15) rfl) fun d3 hd3 => ea_cons (widths_call (lo := 1) (hi := 6) rfl d_int d_int (by decide) (by decide) (by omega)) fun d4 hd4 => ea_nil ?_) fun ds h => ?_) A4' S4' R4' fun d v G5' M5' H5' e5' A5' S5' R5' hd rv => ?_
      · obtain ⟨a, rfl, oka⟩ := hd
        obtain ⟨b, rfl, okb⟩ := hd4
        subst hd2 hd3
        exact ⟨a, b, rfl, oka, okb⟩
      · obtain ⟨a, b, rfl, oka, okb⟩ := h
        exact ⟨Nat.le_of_ble_eq_true rfl, a, b, rfl, oka, okb⟩
      obtain ⟨a, b, rfl, oka, okb⟩ := hd
      obtain ⟨M6', A6', S6', hr6⟩ := At.back (r := r) (M0 := M) A5' (fun x hx o ho => by
        have x1 : x ≠ pl := fun z => by rw [z, Mpl] at ho; cases ho
        have x2 : x ≠ pr := fun z => by rw [z, Mpr] at ho; cases ho
        have x3 : x ≠ ps := fun z => by rw [z, Mps] at ho; cases ho
        rw [S5' x hx]
        show (if x = ps then none else M' x) = _
        rw [if_neg x3, SG x hx, upd_ne x3, upd_ne x2, upd_ne x1]
        exact ho)
      refine q _ v G5' M6' H5' ((((((E06.trans eL).trans eG).trans eb).trans e2).trans e3').trans e5') A6' S6' ?_ ⟨⟨a, cs, bt, b⟩, rfl, ?_, fun hq => ?_⟩ rv
      · obtain ⟨a, b, c, z1, z2, z3, z4⟩ := R5'
        exact ⟨a, b, c, by rw [hr6]; exact z1, z2, z3, by omega⟩
      · exact ⟨oka, ⟨by show 1 ≤ cs.length; omega, by show cs.length ≤ 10; omega, fun p hp => ⟨(hcs p hp).1.1, (hcs p hp).2⟩, (List.nodup_append.mp hnd).1⟩, hbt, okb⟩
      · obtain ⟨p, hp, e⟩ := List.mem_map.mp hq
        exact (hcs p hp).1.2 e
    · have hm0' : 0 < m := by
        rw [← hrl]
        cases rows with
        | nil => exact absurd rfl hr0
        | cons _ _ => exact Nat.succ_pos _
      rw [if_pos (by cases rows with
        | nil => exact absurd rfl hr0
        | cons _ _ => rfl)]
      refine ⟨W (m - 1), fun σ2 H2 h => ⟨m - 1, by omega, h⟩, ?_⟩
      refine w_pop (i := 4) (p := pr) (M0 := upd (upd (upd M pl (.lst (Ls.map V.str))) pr (.lst xs)) ps (.dK es)) (K := K) rfl (hp4 Ls xs es) nr (by omega) (spin_call rfl (e_len rfl (hp4 Ls xs es) nr ⟨_, rfl, by omega, by omega, fun d h => ?_⟩) (by omega)) Ab SG RG fun k1 y1 G2 M2 H2 hx1 e2 A3' S3' R3' => ⟨V.ref ps, rfl, ?_⟩
      · obtain ⟨i, rfl, h0, h1⟩ := h
        obtain ⟨iN, rfl⟩ := Int.eq_ofNat_of_zero_le h0
        exact ⟨iN, rfl, by omega⟩
      have hp3' : (upd (upd (upd (upd M pl (.lst (Ls.map V.str))) pr (.lst xs)) ps (.dK es)) pr (.lst (xs.eraseIdx k1))) pl = some (.lst (Ls.map V.str)) := by rw [upd_ne (Ne.symm hne)]; exact hp3 Ls xs es
      refine w_pop (i := 3) (p := pl) (M0 := upd (upd (upd (upd M pl (.lst (Ls.map V.str))) pr (.lst xs)) ps (.dK es)) pr (.lst (xs.eraseIdx k1))) (K := K) rfl hp3' nl (by rw [List.length_map]; omega) (spin_call rfl (e_len rfl hp3' nl ⟨_, rfl, by rw [List.length_map]; omega, by rw [List.length_map]; omega, fun d h => ?_⟩) (by omega)) A3' S3' R3' fun k2 y2 G3 M3' H3 hx2 e3 A4' S4' R4' => ?_
      · obtain ⟨i, rfl, h0, h1⟩ := h
        obtain ⟨iN, rfl⟩ := Int.eq_ofNat_of_zero_le h0
        exact ⟨iN, rfl, by omega⟩
      obtain ⟨nm, hnmx, rfl⟩ : ∃ nm, Ls[k2]? = some nm ∧ y2 = V.str nm := by
        rw [List.getElem?_map] at hx2
        cases z : Ls[k2]? with
        | none => rw [z] at hx2; cases hx2
        | some nm => rw [z] at hx2; exact ⟨nm, rfl, (Option.some.inj hx2).symm⟩
      obtain ⟨row1, hrow1, ry⟩ : ∃ row1, rows[k1]? = some row1 ∧ Rp K G' (tD row1) y1 := by
        obtain ⟨d, hd, rd⟩ := rx.get hx1
        rw [List.getElem?_map] at hd
        cases z : rows[k1]? with
        | none => rw [z] at hd; cases hd
        | some row1 =>
          rw [z] at hd
          have e : tD row1 = d := Option.some.inj hd
          exact ⟨row1, rfl, e ▸ rd⟩
      have hlk1 := (List.getElem?_eq_some_iff.mp hrow1).1
      obtain ⟨hlk2, hek2⟩ := List.getElem?_eq_some_iff.mp hnmx
      have eGG : Ex G' G3 := (eb.trans e2).trans e3
      have hDK : M3' ps = some (.dK es) := (S4' ps ns).trans (by rw [upd_ne npl, upd_ne npr, upd_same])
      have hnin : nm ∉ cs.map (·.1) := fun z => (List.nodup_append.mp hnd).2.2 nm z nm (List.mem_of_getElem? hnmx) rfl
      have hfresh : valV es (Sum.inr nm) = none := by
        refine (RpD.val (x := nm) re).2 ?_
        have z : (lookD (chD cs) nm).isSome = false := by
          rw [look_some, chD_keys]
          exact decide_eq_false hnin
        cases y : lookD (chD cs) nm with
        | none => rfl
        | some _ => rw [y] at z; cases z
      have hput : putK es (Sum.inr nm) y1 = es ++ [(Sum.inr nm, y1)] := putK_new _ hfresh
      have hes : es.length = cs.length := by rw [re.len, keysD_len]; simp [chD]
      have A5' := A4'.wr (o := .dK (putK es (Sum.inr nm) y1)) hDK
      refine ⟨ps, _, rfl, DPut.k (k := Sum.inr nm) (A4'.m _ _ hDK) (sz_lt (by omega)), G3, _, Ls.eraseIdx k2, xs.eraseIdx k1, rows.eraseIdx k1, es ++ [(Sum.inr nm, y1)], cs ++ [(nm, row1)], eG.trans eGG, A5', fun x hx => ?_, (R4'.upd ns).le ?_, ?_, ?_, ?_, ?_, ?_, fun x hx => hnm x (List.mem_of_mem_eraseIdx hx), ?_, fun p hp => ?_, fun x hx => hrows x (List.mem_of_mem_eraseIdx hx), rfl⟩
      · by_cases x3 : x = ps
        · subst x3
          rw [upd_same, upd_same, hput]
        · rw [upd_ne x3, upd_ne x3, S4' x hx]
          by_cases x1 : x = pl
          · subst x1
            rw [upd_same, upd_ne (Ne.symm hne), upd_same, er_map]
          · rw [upd_ne x1]
            by_cases x2 : x = pr
            · subst x2
              rw [upd_same, upd_same]
            · simp only [upd_ne x2, upd_ne x3, upd_ne x1]
      · omega
      · rw [List.eraseIdx_eq_take_drop_succ, List.eraseIdx_eq_take_drop_succ, List.map_append, List.map_take, List.map_drop]
        exact ((rx.up eGG).take k1).app ((rx.up eGG).drop (k1 + 1))
      · unfold chD keysD
        rw [List.map_append, List.map_append]
        exact (re.up eGG).snoc rfl (ry.up eGG)
      · rw [List.length_eraseIdx_of_lt hlk1]; omega
      · rw [List.length_append, List.length_singleton]; omega
      · rw [List.length_eraseIdx_of_lt hlk2, List.length_append, List.length_singleton]; omega
      · have hperm : (nm :: Ls.eraseIdx k2).Perm Ls := by
          have e : Ls = Ls.take k2 ++ nm :: Ls.drop (k2 + 1) := by
            rw [← hek2, ← List.drop_eq_getElem_cons hlk2, List.take_append_drop]
          rw [List.eraseIdx_eq_take_drop_succ]
          conv => rhs; rw [e]
          exact List.perm_middle.symm
        have hp2 : ((cs ++ [(nm, row1)]).map (·.1) ++ Ls.eraseIdx k2).Perm (cs.map (·.1) ++ Ls) := by
          rw [List.map_append, List.append_assoc]
          exact List.Perm.append_left _ hperm
        exact hp2.nodup_iff.mpr hnd
      · rcases List.mem_append.mp hp with z | z
        · exact hcs p z
        · rw [List.mem_singleton.mp z]
          exact ⟨hnm nm (List.mem_of_getElem? hnmx), hrows row1 (List.mem_of_getElem? hrow1)⟩
end
end K99

namespace K99
open PySem PySem.Spec PyProof.Rows L2 Sb
local macro_rules | `(tactic| walk_at "ex") => `(tactic| first | exact Ex.refl _ | assumption | (refine' Ex.trans ?_ (by assumption); walk_at "ex"))
local macro_rules | `(tactic| walk_at "rp") => `(tactic| first | assumption | (refine' Rp.up ?e (by assumption); (case e => walk_at "ex")) | exact rfl)
local macro_rules | `(tactic| walk_at "rd") => `(tactic| with_reducible first | exact rd_add | exact rd_sub | exact rd_lt | exact rd_le | exact rd_gt | exact rd_ge | exact rd_eqI | exact rd_neI | exact rd_eqS | exact rd_neS | exact rd_isN | exact rd_ltS | exact rd_inSign | exact rd_eqE)
local macro_rules | `(tactic| walk_at "tr") => `(tactic| first
  | with_reducible exact d_int
  | with_reducible exact d_str
  | with_reducible exact d_bl
  | with_reducible exact d_non
  | with_reducible exact a_nil
  | with_reducible exact b_yes
  | with_reducible exact o_none
  | with_reducible exact d_newD
  | ((with_reducible refine' d_var ?i ?r); (case i => rfl); (case r => walk_at "rp"))
  | ((with_reducible refine' a_cons ?a ?b); (case a => walk_at "tr"); (case b => walk_at "tr"))
  | ((with_reducible refine' a_star ?a ?b); (case a => walk_at "tr"); (case b => walk_at "tr"))
  | ((with_reducible refine' d_isi ?a ?b); (case a => walk_at "tr"); (case b => decide))
  | ((with_reducible refine' d_op ?a ?b ?c); (case a => walk_at "tr"); (case b => walk_at "tr"); (case c => walk_at "rd"))
  | ((with_reducible refine' d_tup ?a ?b); (case a => walk_at "tr"); (case b => first | decide | (simp; done)))
  | ((with_reducible refine' d_lst ?a ?b); (case a => walk_at "tr"); (case b => first | decide | (simp; done)))
  | ((with_reducible refine' o_some ?a); (case a => walk_at "tr"))
  | ((with_reducible refine' b_B ?a); (case a => walk_at "tr"))
  | ((with_reducible refine' b_T ?a); (case a => walk_at "tr"))
  | ((with_reducible refine' b_not ?a); (case a => walk_at "tr"))
  | ((with_reducible refine' v_not ?a); (case a => walk_at "tr"))
  | ((with_reducible refine' b_or ?a ?b); (case a => walk_at "tr"); (case b => intro _; walk_at "tr"))
  | ((with_reducible refine' b_and ?a ?b); (case a => walk_at "tr"); (case b => intro _; walk_at "tr"))
  | ((with_reducible refine' v_or ?a ?b); (case a => walk_at "tr"); (case b => intro _; walk_at "tr"))
  | ((with_reducible refine' v_and ?a ?b); (case a => walk_at "tr"); (case b => intro _; walk_at "tr"))
  | assumption)


/-! ### texts of a code -/
def isTextD (c : CodeD) (d : PyData) : Bool := match d with
  | .str t => (chrs t).all fun x => decide (x ∈ c.cs.map (·.1))
  | _ => false
def rowL (c : CodeD) (t : Str) : List Int := c.st ++ c.bt ++ ((chrs t).flatMap fun x => wsOf c.cs x ++ c.bt) ++ c.sp
theorem all_map {α : Type} (l : List α) (f : α → Bool) : (l.map f).all id = l.all f := by rw [List.all_map]; rfl
/-! ### decimal words -/
def digS : Str := "0123456789"
theorem dig_iff {c : Nat} : c ∈ digS.cps.toList ↔ 48 ≤ c ∧ c ≤ 57 := by
  have h : digS.cps.toList = [48, 49, 50, 51, 52, 53, 54, 55, 56, 57] := by decide +kernel
  rw [h]
  simp only [List.mem_cons, List.not_mem_nil, or_false]
  omega
def decB (w : Str) (most : Int) : Bool := decide (1 ≤ w.length) && decide ((w.length : Int) ≤ most) && (w.cps.toList.all fun c => decide (c ∈ digS.cps.toList)) && (decide (w = "0") || !decide (w.cps.toList[0]? = some 48))
def badW (p : Nat) (w : Str) : Bool := decide (400 ≤ p) || (!decB w 400 || decide (w = "0"))
def firstBad : List Str → Nat → Option Nat
  | [], _ => none
  | w :: ws, p => if badW p w = true then some p else firstBad ws (p + 1)
theorem firstBad_none : ∀ {ws : List Str} {p : Nat}, (∀ k w, ws[k]? = some w → badW (p + k) w = false) → firstBad ws p = none
  | [], _, _ => rfl
  | w :: ws, p, h => by
    have h0 := h 0 w rfl
    unfold firstBad
    rw [if_neg (by rw [show p = p + 0 from rfl, h0]; decide)]
    exact firstBad_none fun k x hk => by
      have := h (k + 1) x hk
      rw [show p + 1 + k = p + (k + 1) by omega]
      exact this
theorem firstBad_at : ∀ {ws : List Str} {p k : Nat} {w : Str}, ws[k]? = some w → badW (p + k) w = true → (∀ j, j < k → ∀ x, ws[j]? = some x → badW (p + j) x = false) → firstBad ws p = some (p + k)
  | [], _, _, _, h, _, _ => by cases h
  | y :: ws, p, 0, w, h, hb, _ => by
    cases h
    unfold firstBad
    rw [if_pos (show badW p y = true from hb)]
    rfl
  | y :: ws, p, k + 1, w, h, hb, hp => by
    have h0 := hp 0 (Nat.succ_pos _) y rfl
    unfold firstBad
    rw [if_neg (by rw [show p = p + 0 from rfl, h0]; decide)]
    rw [show p + (k + 1) = p + 1 + k by omega] at hb ⊢
    refine firstBad_at (by simpa using h) hb fun j hj x hx => ?_
    have := hp (j + 1) (by omega) x (by simpa using hx)
    rw [show p + 1 + j = p + (j + 1) by omega]
    exact this
theorem firstBad_ok : ∀ {ws : List Str} {p : Nat}, firstBad ws p = none → ∀ w ∈ ws, ∃ q, badW q w = false
  | w :: ws, p, h, x, hx => by
    unfold firstBad at h
    by_cases hb : badW p w = true
    · rw [if_pos hb] at h; cases h
    · rw [if_neg hb] at h
      rcases List.mem_cons.mp hx with rfl | hx
      · exact ⟨p, by cases z : badW p x with | true => exact absurd z hb | false => rfl⟩
      · exact firstBad_ok h x hx
theorem good_dec {q : Nat} {w : Str} (h : badW q w = false) : decB w 400 = true ∧ w ≠ "0" ∧ q < 400 := by
  unfold badW at h
  obtain ⟨h1, h2⟩ := Bool.or_eq_false_iff.mp h
  obtain ⟨h3, h4⟩ := Bool.or_eq_false_iff.mp h2
  exact ⟨by simpa using h3, of_decide_eq_false h4, by have := of_decide_eq_false h1; omega⟩
theorem dec_int {w : Str} (h : decB w 400 = true) : (∃ n : Nat, PySem.intText? w = some (n : Int)) ∧ w.length ≤ 400 := by
  unfold decB at h
  obtain ⟨h1, h2⟩ := Bool.and_eq_true_iff.mp h
  obtain ⟨h3, h4⟩ := Bool.and_eq_true_iff.mp h1
  obtain ⟨h5, h6⟩ := Bool.and_eq_true_iff.mp h3
  have l1 := of_decide_eq_true h5
  have l2 := of_decide_eq_true h6
  have hd : NumText.AllDigits w.cps.toList := fun c hc => dig_iff.mp (of_decide_eq_true (List.all_eq_true.mp h4 c hc))
  refine ⟨⟨_, intText_digits hd (fun z => ?_) (by omega)⟩, by omega⟩
  have : w.length = w.cps.toList.length := rfl
  rw [z] at this
  simp at this
  omega
section
variable {P : Program} {w : World} {K : PySem.W.Frag} {mg : Str → Option Value} {base : Heap}
def R_is_text : List PyData → PyData → Prop := fun ds r => ∃ (c : CodeD) (d : PyData), ds = [c.d, d] ∧ (∀ t, d = .str t → t.cps.size ≤ 10000) ∧ r = .bool (isTextD c d)
theorem F_is_text (T : Tx K mg) : Fd P w K mg base CX0 2 "is_text" (PSp K R_is_text) [] := by
  obtain ⟨fd, F⟩ := T.f_is_text
  refine ⟨_, fd, ["code", "value"], [], T.g_is_text, F.kp, F.bindsN fun _ _ _ _ _ _ us hl => match us, hl with | [_, _], _ => rfl, .nil, ?_⟩
  refine fnG_of F sc_is_text (fun vs H Q E h => PSp.len (n := 2) (by rintro _ _ ⟨d, e, rfl, _⟩; rfl) h) (fun cdv A outer s H vs Q E hg hr h => ?_)
  obtain ⟨G, M, ds, r, hA, hR, ⟨c, d, rfl, hz, rfl⟩, q⟩ := h
  obtain ⟨v0, _, rfl, r0, v1, _, rfl, r1, rfl⟩ := hR
  refine ⟨_, PSs.nox (pss_one (ps_ret (pe_and (pe_callB call_isi (by rfl) T.n_isinstance (by decide +kernel) (pa_cons (pv 1) (pa_cons (pe_bltn (v := .ty "str") (u := .type "str") (by rfl) T.n_str (by decide +kernel) rfl) pa_nil))) (pe_one (pe_callB (cr_all rfl) (by rfl) T.n_all (by decide +kernel) (pa_cons (pe_lc (own := [("name", 2)]) (g := gName 2) (by rfl) sc_is_text.nd (pi_str (pv 1)) (blkOk_by (own := [("name", 2)]) (N := ["code", "value", "name"]) (sc := defScope s_is_text) (by decide +kernel)) (fun _ _ _ _ _ => (pg_name (i := 2) sc_is_text.nd rfl (by first | exact Or.inl rfl | exact Or.inr rfl))) (fun _ _ _ _ _ => pts_nil) (fun _ _ _ _ _ => (pe_cmp (pc_din (hu_of hr) (pv 2) (pe_ix (show IxR _ (rIxT K) from ix_tup) (pv 0) pe_int (fun _ _ => rfl))) (by rfl)))) pa_nil)))))), ?_⟩
  rw [show L2.start ["code", "value", "name"] [v0, v1] = [some v0, some v1, none] from rfl]
  dsimp only [xK]
  refine s_ret (d := .bool (isTextD c d)) ?_ hA q
  by_cases hd : ∃ t, d = .str t
  · obtain ⟨t, rfl⟩ := hd
    refine v_andT (TrD.to (d_isi (n := "str") (d_var rfl r1)) rfl) (TrD.to (d_cb (a_cons (TrD.to (d_lcS (p := fun _ => true) (f := fun x => .bool (decide (x ∈ c.cs.map (·.1)))) (d_var rfl r1) (by have := hz t rfl; omega) (fun _ _ _ _ => b_yes) fun x hx _ G1 e1 => ?_) (d2 := .list (((chrs t).map fun x => decide (x ∈ c.cs.map (·.1))).map .bool)) (by rw [filt_true, List.map_map]; rfl)) a_nil) rc_all) ?_)
    · refine TrD.to (v_din (K := K) (kvs := chD c.cs) (x := x) (d_var rfl (d := .str x) rfl) (d_op (d_var rfl (r0.up e1)) d_int (rd_ixT rfl))) ?_
      rw [look_some, chD_keys]
    · rw [all_map]
      rfl
  · have e : isTextD c d = false := by cases d <;> first | rfl | exact absurd ⟨_, rfl⟩ hd
    rw [e]
    exact v_andF (TrD.to (d_isi (n := "str") (d_var rfl r1)) (by cases d <;> first | rfl | exact absurd ⟨_, rfl⟩ hd))
def R_require_text : List PyData → PyData → Prop := fun ds r => ∃ (c : CodeD) (t : Str), ds = [c.d, .str t] ∧ t.cps.size ≤ 10000 ∧ isTextD c (.str t) = true ∧ r = .none
def fScan (d : PyData) : List PyData := match d with
  | .list xs => if 1 ≤ xs.length ∧ xs.length ≤ 400 then ((xs.zipIdx.filter fun q => !isIntD q.1 (some 1) none).map fun q => PyData.int (q.2 : Int)).take 1 else [.none]
  | _ => [.none]
def R_fault_of_scan : List PyData → PyData → Prop := fun ds r => ∃ d, ds = [d] ∧ (∀ xs, d = .list xs → xs.length ≤ 10000) ∧ r = .list (fScan d)
theorem F_fault_of_scan (T : Tx K mg) : Fd P w K mg base CX0 2 "fault_of_scan" (PSp K R_fault_of_scan) [] := by
  obtain ⟨fd, F⟩ := T.f_fault_of_scan
  refine ⟨_, fd, ["value"], [], T.g_fault_of_scan, F.kp, F.bindsN fun _ _ _ _ _ _ us hl => match us, hl with | [_], _ => rfl, .nil, ?_⟩
  refine fnG_of F sc_fault_of_scan (fun vs H Q E h => PSp.len (n := 1) (by rintro _ _ ⟨d, rfl, _⟩; rfl) h) (fun cdv A outer s H vs Q E hg hr h => ?_)
  obtain ⟨G, M, ds, r, hA, hR, ⟨d, rfl, hz, rfl⟩, q⟩ := h
  obtain ⟨v0, _, rfl, r0, rfl⟩ := hR
  refine ⟨_, PSs.nox (pss_cons (ps_if (PW.pt (pw_or (pt_not (pt_val (pe_callB call_isi (by rfl) T.n_isinstance (by decide +kernel) (pa_cons (pv 0) (pa_cons (pe_bltn (v := .ty "list") (u := .type "list") (by rfl) T.n_list (by decide +kernel) rfl) pa_nil))))) (pw_or1 (pt_not (pt_chain op_le op_le pe_int (pe_callB call_len' (by rfl) T.n_len (by decide +kernel) (pa_cons (pv 0) pa_nil)) (pe_glob (v := .int 400) (by rfl) T.c_MOST_DURATIONS.choose_spec ⟨_, rfl⟩)))))) (pss_one (ps_ret (pe_lst (pa_cons pe_non pa_nil)))) pss_nil)
    (pss_one (ps_ret (pe_slice sl_list (pe_lc (own := [("index", 1), ("item", 2)]) (g := gTup K 2 (gCons (gName 1) (gCons (gName 2) gNil))) (by rfl) sc_fault_of_scan.nd (pi_enum (by rfl) T.n_enumerate (pa_cons (pv 0) pa_nil)) (blkOk_by (own := [("index", 1), ("item", 2)]) (N := ["value", "index", "item"]) (sc := defScope s_fault_of_scan) (by decide +kernel)) (fun _ _ _ _ _ => (pg_tup (by rfl) (pgs_cons (pg_name (i := 1) sc_fault_of_scan.nd rfl (by first | exact Or.inl rfl | exact Or.inr rfl)) (pgs_cons (pg_name (i := 2) sc_fault_of_scan.nd rfl (by first | exact Or.inl rfl | exact Or.inr rfl)) pgs_nil)))) (fun _ _ _ _ _ => (pts_one (pt_not (pt_val (pe_fd (F_is_integer2 (P := P) (w := w) (base := base) T) hg (hr.mono (by decide)) pass0 (pa_cons (pv 2) (pa_cons pe_int pa_nil))))))) (fun _ _ _ _ _ => (pv 1))) po_none (po_some pe_int))))), ?_⟩
  rw [show L2.start ["value", "index", "item"] [v0] = [some v0, none, none] from rfl]
  dsimp only [xK]
  by_cases hd : ∃ xs, d = .list xs
  · obtain ⟨xs, rfl⟩ := hd
    have hxs := hz xs rfl
    have ht : TrB _ [some v0, none, none] G (!isA "list" (.list xs) || !(decide ((1 : Int) ≤ (xs.length : Int)) && decide ((xs.length : Int) ≤ 400))) :=
      b_or (b_not (b_B (d_isi (d_var (i := 0) rfl r0)))) fun _ => b_not (b_T (d_chain d_int (d_cb (a_cons (d_var (i := 0) rfl r0) a_nil) (rc_lenL (K := K))) rd_le (fun _ => d_int) fun _ => rd_le))
    by_cases hl : 1 ≤ xs.length ∧ xs.length ≤ 400
    · refine q_guardF (TrB.to ht ?_) hA fun G1 H1 e1 A1 => ?_
      · rw [decide_eq_true (by omega), decide_eq_true (by omega)]; rfl
      refine s_ret (d := .list (fScan (.list xs))) (TrD.to (d_slL (d_lcE (p := fun _ x => !isIntD x (some 1) none) (f := fun k _ => .int (k : Int)) (by decide) (d_var rfl (r0.up e1)) (by omega) rfl (fun k d hk x G2 e2 rx => ?_) fun k d hk hp x G2 e2 rx => ?_) o_none (o_some (K := K) d_int)) ?_) A1 (q.mono e1)
      · exact b_not (b_B (d_call (a_cons (d_var rfl rx) (a_cons d_int a_nil)) (es := [.none]) ⟨.non, [], rfl, rfl, rfl⟩ ⟨d, some 1, none, rfl, rfl⟩))
      · exact d_var rfl (d := .int (k : Int)) rfl
      · unfold fScan
        simp only [if_pos hl]
        congr 1
        generalize (xs.zipIdx.filter fun q => !isIntD q.1 (some 1) none).map (fun q => PyData.int (q.2 : Int)) = ys
        unfold Sb.cutD
        cases ys with
        | nil => rfl
        | cons y ys =>
          have e : HT.sIx (y :: ys).length (y :: ys).length (some 1) = 1 := by
            have := HT.sIx_nat (y :: ys).length (y :: ys).length 1
            rw [List.length_cons] at this ⊢
            rw [show ((1 : Nat) : Int) = 1 from rfl] at this
            rw [this]
            omega
          rw [e, HT.sIx_none, List.drop_zero, Nat.sub_zero]
    · have e : fScan (.list xs) = [.none] := if_neg hl
      rw [e] at q
      refine q_guardR (TrB.to ht ?_) hA fun G1 H1 e1 A1 => s_ret (d_lst (a_cons d_non a_nil)) A1 (q.mono e1)
      have : (decide ((1 : Int) ≤ (xs.length : Int)) && decide ((xs.length : Int) ≤ 400)) = false := by
        by_cases h1 : 1 ≤ xs.length
        · rw [decide_eq_false (show ¬ ((xs.length : Int) ≤ 400) by omega), Bool.and_false]
        · rw [decide_eq_false (show ¬ ((1 : Int) ≤ (xs.length : Int)) by omega), Bool.false_and]
      rw [this]
      rfl
  · have e : fScan d = [.none] := by cases d <;> first | rfl | exact absurd ⟨_, rfl⟩ hd
    rw [e] at q
    refine q_guardR (b_orT (TrB.to (b_not (b_B (d_isi (n := "list") (d_var rfl r0)))) ?_)) hA fun G1 H1 e1 A1 => s_ret (d_lst (a_cons d_non a_nil)) A1 (q.mono e1)
    cases d <;> first | rfl | exact absurd ⟨_, rfl⟩ hd
def okScan (ns : List Int) : Prop := 1 ≤ ns.length ∧ ns.length ≤ 400 ∧ ∀ n ∈ ns, 1 ≤ n ∧ n.natAbs.log2 < 1900
theorem fScan_ok {ns : List Int} (h : okScan ns) : fScan (.list (dInts ns)) = [] := by
  unfold fScan
  simp only
  rw [if_pos ⟨by rw [dInts_len]; exact h.1, by rw [dInts_len]; exact h.2.1⟩]
  have e : ((dInts ns).zipIdx.filter fun q => !isIntD q.1 (some 1) none) = [] := by
    rw [List.filter_eq_nil_iff]
    rintro ⟨d, k⟩ hq
    have hd : d ∈ dInts ns := by
      have := List.mem_zipIdx hq
      rw [this.2.2]
      exact List.getElem_mem _
    obtain ⟨n, hn, rfl⟩ := mem_ints hd
    show ¬ (!(decide (1 ≤ n) && true)) = true
    rw [decide_eq_true (h.2.2 n hn).1]
    decide
  rw [e]
  rfl
def R_require_scan : List PyData → PyData → Prop := fun ds r => ∃ ns, ds = [.list (dInts ns)] ∧ okScan ns ∧ r = .none
def R_is_decimal : List PyData → PyData → Prop := fun ds r => ∃ (x : Str) (most : Int), ds = [.str x, .int most] ∧ x.length ≤ 90000 ∧ r = .bool (decB x most)
end
end K99

namespace K99
open PySem PySem.Spec PyProof.Rows L2 Sb
local macro_rules | `(tactic| walk_at "ex") => `(tactic| first | exact Ex.refl _ | assumption | (refine' Ex.trans ?_ (by assumption); walk_at "ex"))
local macro_rules | `(tactic| walk_at "rp") => `(tactic| first | assumption | (refine' Rp.up ?e (by assumption); (case e => walk_at "ex")) | exact rfl)
local macro_rules | `(tactic| walk_at "rd") => `(tactic| with_reducible first | exact rd_add | exact rd_sub | exact rd_lt | exact rd_le | exact rd_gt | exact rd_ge | exact rd_eqI | exact rd_neI | exact rd_eqS | exact rd_neS | exact rd_isN | exact rd_ltS | exact rd_inSign | exact rd_eqE)
local macro_rules | `(tactic| walk_at "tr") => `(tactic| first
  | with_reducible exact d_int
  | with_reducible exact d_str
  | with_reducible exact d_bl
  | with_reducible exact d_non
  | with_reducible exact a_nil
  | with_reducible exact b_yes
  | with_reducible exact o_none
  | with_reducible exact d_newD
  | ((with_reducible refine' d_var ?i ?r); (case i => rfl); (case r => walk_at "rp"))
  | ((with_reducible refine' a_cons ?a ?b); (case a => walk_at "tr"); (case b => walk_at "tr"))
  | ((with_reducible refine' a_star ?a ?b); (case a => walk_at "tr"); (case b => walk_at "tr"))
  | ((with_reducible refine' d_isi ?a ?b); (case a => walk_at "tr"); (case b => decide))
  | ((with_reducible refine' d_op ?a ?b ?c); (case a => walk_at "tr"); (case b => walk_at "tr"); (case c => walk_at "rd"))
  | ((with_reducible refine' d_tup ?a ?b); (case a => walk_at "tr"); (case b => first | decide | (simp; done)))
  | ((with_reducible refine' d_lst ?a ?b); (case a => walk_at "tr"); (case b => first | decide | (simp; done)))
  | ((with_reducible refine' o_some ?a); (case a => walk_at "tr"))
  | ((with_reducible refine' b_B ?a); (case a => walk_at "tr"))
  | ((with_reducible refine' b_T ?a); (case a => walk_at "tr"))
  | ((with_reducible refine' b_not ?a); (case a => walk_at "tr"))
  | ((with_reducible refine' v_not ?a); (case a => walk_at "tr"))
  | ((with_reducible refine' b_or ?a ?b); (case a => walk_at "tr"); (case b => intro _; walk_at "tr"))
  | ((with_reducible refine' b_and ?a ?b); (case a => walk_at "tr"); (case b => intro _; walk_at "tr"))
  | ((with_reducible refine' v_or ?a ?b); (case a => walk_at "tr"); (case b => intro _; walk_at "tr"))
  | ((with_reducible refine' v_and ?a ?b); (case a => walk_at "tr"); (case b => intro _; walk_at "tr"))
  | assumption)


def rowK (c : CodeD) (t : Str) (k : Nat) : List Int := c.st ++ c.bt ++ (((chrs t).take k).flatMap fun x => wsOf c.cs x ++ c.bt)
theorem rowK_len {c : CodeD} (ok : c.ok) {t : Str} (ht : isTextD c (.str t) = true) : ∀ k, (rowK c t k).length ≤ 8 + k * 8 := by
  intro k
  have h : ∀ l : List Str, (∀ x ∈ l, x ∈ c.cs.map (·.1)) → (l.flatMap fun x => wsOf c.cs x ++ c.bt).length ≤ l.length * 8 := fun l => by
    induction l with
    | nil => intro _; exact Nat.le_refl _
    | cons x l ih =>
      intro hl
      have z := (wsOf_of ok (hl x (List.mem_cons_self ..))).2.1
      have h1 := z.2.1
      have h2 := ok.bt.2.1
      have h3 := ih fun y hy => hl y (List.mem_cons_of_mem _ hy)
      rw [List.flatMap_cons, List.length_append, List.length_append, List.length_cons]
      omega
  have hin : ∀ x ∈ (chrs t).take k, x ∈ c.cs.map (·.1) := fun x hx => of_decide_eq_true (List.all_eq_true.mp ht x (List.mem_of_mem_take hx))
  have h1 := h _ hin
  have h2 := ok.st.2.1
  have h3 := ok.bt.2.1
  have h4 : ((chrs t).take k).length ≤ k := by rw [List.length_take]; exact Nat.min_le_left _ _
  unfold rowK
  rw [List.length_append, List.length_append]
  have : ((chrs t).take k).length * 8 ≤ k * 8 := Nat.mul_le_mul_right _ h4
  omega
theorem rowK_succ {c : CodeD} {t x : Str} {k : Nat} (h : (chrs t)[k]? = some x) : rowK c t (k + 1) = rowK c t k ++ wsOf c.cs x ++ c.bt := by
  unfold rowK
  rw [List.take_add_one, h]
  show _ ++ (((chrs t).take k ++ [x]).flatMap _) = _
  rw [List.flatMap_append, List.flatMap_cons, List.flatMap_nil, List.append_nil]
  simp only [List.append_assoc]
theorem rowK_all (c : CodeD) (t : Str) : rowK c t (chrs t).length ++ c.sp = rowL c t := by
  unfold rowK rowL
  rw [List.take_length]
theorem dInts_app (a b : List Int) : dInts (a ++ b) = dInts a ++ dInts b := List.map_append ..
theorem in_text {c : CodeD} {t x : Str} {k : Nat} (ht : isTextD c (.str t) = true) (h : (chrs t)[k]? = some x) : x ∈ c.cs.map (·.1) := of_decide_eq_true (List.all_eq_true.mp ht x (List.mem_of_getElem? h))
def faultL (t : Str) : List PyData := match firstBad (Txt.split t " ") 0 with
  | some p => [.int 0, .int (p : Int)]
  | none => []
def parseO (d : PyData) : Out := match d with
  | .str t => (match firstBad (Txt.split t " ") 0 with
    | some p => .exc "InvalidSyntax" [("line", .int 0), ("word", .int (p : Int))]
    | none => .val (.list ((dStrs (Txt.split t " ")).map intD)))
  | _ => .exc "InvalidSyntax" [("line", .none), ("word", .none)]
def toldD (d : PyData) : List PyData := match d with
  | .str t => faultL t
  | _ => [.none, .none]
section
variable {P : Program} {w : World} {K : PySem.W.Frag} {mg : Str → Option Value} {base : Heap}
def R_row_by : List PyData → PyData → Prop := fun ds r => ∃ (c : CodeD) (t : Str), ds = [c.d, .str t] ∧ c.ok ∧ t.cps.size ≤ 1000 ∧ isTextD c (.str t) = true ∧ r = .list (dInts (rowL c t))
theorem F_row_by (T : Tx K mg) : Fd P w K mg base CX0 1 "row_by" (PSp K R_row_by) [] := by
  obtain ⟨fd, F⟩ := T.f_row_by
  refine ⟨_, fd, ["code", "text"], [], T.g_row_by, F.kp, F.bindsN fun _ _ _ _ _ _ us hl => match us, hl with | [_, _], _ => rfl, .nil, ?_⟩
  refine fnG_of F sc_row_by (fun vs H Q E h => PSp.len (n := 2) (by rintro _ _ ⟨d, e, rfl, _⟩; rfl) h) (fun cdv A outer s H vs Q E hg hr h => ?_)
  obtain ⟨G, M, ds, r, hA, hR, ⟨c, t, rfl, ok, hz, ht, rfl⟩, q⟩ := h
  obtain ⟨v0, _, rfl, r0, v1, _, rfl, r1, rfl⟩ := hR
  refine ⟨_, PSs.nox (pss_cons (ps_asg (pv 0) (pg_tup (by rfl) (pgs_cons (pg_name (i := 2) sc_row_by.nd rfl (by first | exact Or.inl rfl | exact Or.inr rfl)) (pgs_cons (pg_name (i := 3) sc_row_by.nd rfl (by first | exact Or.inl rfl | exact Or.inr rfl)) (pgs_cons (pg_name (i := 4) sc_row_by.nd rfl (by first | exact Or.inl rfl | exact Or.inr rfl)) (pgs_cons (pg_name (i := 5) sc_row_by.nd rfl (by first | exact Or.inl rfl | exact Or.inr rfl)) pgs_nil))))))
    (pss_cons (ps_set (i := 6) sc_row_by.nd rfl (by first | exact Or.inl rfl | exact Or.inr rfl) (pe_op op_cat (pe_callTy call_listOf (by rfl) T.n_list (by decide +kernel) (pa_cons (pv 2) pa_nil)) (pe_callTy call_listOf (by rfl) T.n_list (by decide +kernel) (pa_cons (pv 4) pa_nil))))
    (pss_cons (ps_for PassesOwn.never rfl (pi_str (pv 1)) (pg_name (i := 7) sc_row_by.nd rfl (by first | exact Or.inl rfl | exact Or.inr rfl)) (pss_cons (ps_expr (pe_bm PySem.F.plainAttrs_list PySem.F.slot_list_extend PySem.F.type_list_extend mt_extT (pv 6) (pa_cons (pe_dget (hu_of hr) (pv 3) (pv 7) (fun _ _ => rfl)) pa_nil))) (pss_one (ps_expr (pe_bm PySem.F.plainAttrs_list PySem.F.slot_list_extend PySem.F.type_list_extend mt_extT (pv 6) (pa_cons (pv 4) pa_nil))))))
    (pss_one (ps_ret (pe_op op_cat (pv 6) (pe_callTy call_listOf (by rfl) T.n_list (by decide +kernel) (pa_cons (pv 5) pa_nil)))))))), ?_⟩
  rw [show L2.start ["code", "text", "start", "characters", "between", "stop", "found", "name"] [v0, v1] = [some v0, some v1, none, none, none, none, none, none] from rfl]
  dsimp only [xK]
  have l1 := ok.st.2.1
  have l2 := ok.bt.2.1
  have l3 := ok.sp.2.1
  have hcl : (chrs t).length ≤ 1000 := by rw [chrs_len]; exact hz
  refine q_unpack (d_var rfl r0) rfl hA ?_
  rintro _ G1 H1 e1 A1 ⟨v2, _, rfl, r2, v3, _, rfl, r3, v4, _, rfl, r4, v5, _, rfl, r5, rfl⟩
  refine ⟨v2, _, rfl, v3, _, rfl, v4, _, rfl, v5, _, rfl, rfl, ?_⟩
  refine q_newCat (d_cb (a_cons (d_var rfl r2) a_nil) rc_listT) (d_cb (a_cons (d_var rfl r4) a_nil) rc_listT) (by rw [dInts_len, dInts_len]; omega) A1 fun p xs G2 H2 e2 pM pG A2 rx => ?_
  refine s_seq (s_forSI (fun k σ G' M' => ∃ ys x7, σ = [some v0, some v1, some v2, some v3, some v4, some v5, some (.ref p), x7] ∧ M' = upd M p (.lst ys) ∧ RpL K G' (dInts (rowK c t k)) ys) (d_var rfl (r1.up (e1.trans e2))) A2 ?_ ⟨xs, none, rfl, rfl, ?_⟩ (fun k x hk σ1 G3 M1 H3 e3 A3 hI Nx hN => ?_) fun σ1 G3 M1 H3 e3 A3 hI => ?_)
  · rintro k σ1 Ga Gb M1 e ⟨ys, x7, h1, h2, h3⟩
    exact ⟨ys, x7, h1, h2, h3.up e⟩
  · rw [← dInts_app] at rx
    unfold rowK
    rw [List.take_zero, List.flatMap_nil, List.append_nil]
    exact rx
  · obtain ⟨ys, x7, rfl, rfl, ry⟩ := hI
    have hkl : k < (chrs t).length := (List.getElem?_eq_some_iff.mp hk).1
    have z := wsOf_of ok (in_text ht hk)
    have hys : ys.length ≤ 8 + k * 8 := by rw [ry.len, dInts_len]; exact rowK_len ok ht k
    have hw := z.2.1.2.1
    have r3' := r3.up (e2.trans e3)
    refine s_seq (s_extT (p := p) rfl upd_same (d_dget (d_var rfl r3') (d_var (K := K) rfl (d := .str x) rfl) z.2.2) (by rw [dInts_len]; omega) A3 fun y1 G4 H4 e4 A4 s1 => ?_)
    rw [upd_upd] at A4
    have hy1 : y1.length ≤ 6 := by rw [s1.len, dInts_len]; exact hw
    refine s_extT (p := p) rfl upd_same (d_var rfl (r4.up ((e2.trans e3).trans e4))) (by rw [dInts_len, List.length_append]; omega) A4 fun y2 G5 H5 e5 A5 s2 => ?_
    rw [upd_upd] at A5
    refine hN _ G5 _ H5 (e4.trans e5) A5 ⟨_, _, rfl, rfl, ?_⟩
    rw [rowK_succ hk, dInts_app, dInts_app]
    exact ((ry.up (e4.trans e5)).app (s1.up e5)).app s2
  · obtain ⟨ys, x7, rfl, rfl, ry⟩ := hI
    obtain ⟨G4, e4, A4, r6⟩ := At.done A3 pM ry
    have hl := rowK_len ok ht (chrs t).length
    refine s_ret (TrD.to (d_op (d_var rfl r6) (d_cb (a_cons (d_var rfl (r5.up ((e2.trans e3).trans e4))) a_nil) rc_listT) (rd_cat (by rw [dInts_len, dInts_len]; omega))) ?_) A4 (q.mono (((e1.trans e2).trans e3).trans e4))
    rw [← dInts_app, rowK_all]
def R_format_scan : List PyData → PyData → Prop := fun ds r => ∃ ns, ds = [.list (dInts ns)] ∧ okScan ns ∧ ((ns.map strI).map (·.length)).sum ≤ 1000000 ∧ r = .str (Txt.join " " (ns.map strI))
def R_parse_scan : List PyData → Out → Prop := fun ds o => ∃ d, ds = [d] ∧ (∀ t, d = .str t → t.length ≤ 80000 ∧ (Txt.split t " ").length ≤ 80000 ∧ ∀ x ∈ Txt.split t " ", x.length ≤ 80000) ∧ o = parseO d
def R_told : List PyData → PyData → Prop := fun ds r => ∃ d, ds = [d] ∧ (∀ t, d = .str t → t.length ≤ 80000 ∧ (Txt.split t " ").length ≤ 80000 ∧ ∀ x ∈ Txt.split t " ", x.length ≤ 80000) ∧ r = .list (toldD d)
end
end K99

namespace K99
open PySem PySem.Spec PyProof.Rows L2 Sb
local macro_rules | `(tactic| walk_at "ex") => `(tactic| first | exact Ex.refl _ | assumption | (refine' Ex.trans ?_ (by assumption); walk_at "ex"))
local macro_rules | `(tactic| walk_at "rp") => `(tactic| first | assumption | (refine' Rp.up ?e (by assumption); (case e => walk_at "ex")) | exact rfl)
local macro_rules | `(tactic| walk_at "rd") => `(tactic| with_reducible first | exact rd_add | exact rd_sub | exact rd_lt | exact rd_le | exact rd_gt | exact rd_ge | exact rd_eqI | exact rd_neI | exact rd_eqS | exact rd_neS | exact rd_isN | exact rd_ltS | exact rd_inSign | exact rd_eqE)
local macro_rules | `(tactic| walk_at "tr") => `(tactic| first
  | with_reducible exact d_int
  | with_reducible exact d_str
  | with_reducible exact d_bl
  | with_reducible exact d_non
  | with_reducible exact a_nil
  | with_reducible exact b_yes
  | with_reducible exact o_none
  | with_reducible exact d_newD
  | ((with_reducible refine' d_var ?i ?r); (case i => rfl); (case r => walk_at "rp"))
  | ((with_reducible refine' a_cons ?a ?b); (case a => walk_at "tr"); (case b => walk_at "tr"))
  | ((with_reducible refine' a_star ?a ?b); (case a => walk_at "tr"); (case b => walk_at "tr"))
  | ((with_reducible refine' d_isi ?a ?b); (case a => walk_at "tr"); (case b => decide))
  | ((with_reducible refine' d_op ?a ?b ?c); (case a => walk_at "tr"); (case b => walk_at "tr"); (case c => walk_at "rd"))
  | ((with_reducible refine' d_tup ?a ?b); (case a => walk_at "tr"); (case b => first | decide | (simp; done)))
  | ((with_reducible refine' d_lst ?a ?b); (case a => walk_at "tr"); (case b => first | decide | (simp; done)))
  | ((with_reducible refine' o_some ?a); (case a => walk_at "tr"))
  | ((with_reducible refine' b_B ?a); (case a => walk_at "tr"))
  | ((with_reducible refine' b_T ?a); (case a => walk_at "tr"))
  | ((with_reducible refine' b_not ?a); (case a => walk_at "tr"))
  | ((with_reducible refine' v_not ?a); (case a => walk_at "tr"))
  | ((with_reducible refine' b_or ?a ?b); (case a => walk_at "tr"); (case b => intro _; walk_at "tr"))
  | ((with_reducible refine' b_and ?a ?b); (case a => walk_at "tr"); (case b => intro _; walk_at "tr"))
  | ((with_reducible refine' v_or ?a ?b); (case a => walk_at "tr"); (case b => intro _; walk_at "tr"))
  | ((with_reducible refine' v_and ?a ?b); (case a => walk_at "tr"); (case b => intro _; walk_at "tr"))
  | assumption)


/-! ### bars -/
def pieceS (n : Int) (k : Nat) : Str := Txt.mul (if k % 2 = 0 then "|" else ".") n
def catS (l : List Str) : Str := l.foldl (fun a b => a ++ b) ""
def piecesL (ns : List Int) : List Str := ns.zipIdx.map fun q => pieceS q.1 q.2
theorem joinE (x : List Nat) (L : List (List Nat)) : TL.joinL [] (x :: L) = x ++ TL.joinL [] L := by
  cases L with
  | nil => exact (List.append_nil x).symm
  | cons y r => rfl
theorem cat_from : ∀ (l : List Str) (a : Str), TL.tl (l.foldl (fun a b => a ++ b) a) = TL.tl a ++ TL.joinL [] (l.map TL.tl)
  | [], a => (List.append_nil _).symm
  | x :: l, a => by
    rw [List.foldl_cons, cat_from l, List.map_cons, joinE, TL.tl_append, List.append_assoc]
theorem join_cat (l : List Str) : Txt.join "" l = catS l := by
  refine TL.ext_tl ?_
  rw [TL.join_eq, TL.tl_join]
  unfold catS
  rw [cat_from]
  rfl
theorem catS_snoc (l : List Str) (x : Str) : catS (l ++ [x]) = catS l ++ x := by
  unfold catS
  rw [List.foldl_append]
  rfl
theorem four' {n : Int} (h : 1 ≤ n ∧ n ≤ 4) : n = 1 ∨ n = 2 ∨ n = 3 ∨ n = 4 := by omega
theorem bar_or (k : Nat) : (if k % 2 = 0 then ("|" : Str) else ".") = "|" ∨ (if k % 2 = 0 then ("|" : Str) else ".") = "." := by
  by_cases h : k % 2 = 0
  · rw [if_pos h]; exact .inl rfl
  · rw [if_neg h]; exact .inr rfl
theorem mul_ok1 {n : Int} (h : 1 ≤ n ∧ n ≤ 4) : MulOk "|" n ∧ MulOk "." n ∧ (Txt.mul "|" n).length ≤ 4 ∧ (Txt.mul "." n).length ≤ 4 := by
  rcases four' h with rfl | rfl | rfl | rfl <;> refine ⟨?_, ?_, ?_, ?_⟩ <;> first | (unfold MulOk; decide +kernel) | decide +kernel
theorem piece_ok {n : Int} (h : 1 ≤ n ∧ n ≤ 4) (k : Nat) : MulOk (if k % 2 = 0 then "|" else ".") n ∧ (pieceS n k).length ≤ 4 := by
  obtain ⟨h1, h2, h3, h4⟩ := mul_ok1 h
  unfold pieceS
  rcases bar_or k with e | e <;> rw [e]
  · exact ⟨h1, h3⟩
  · exact ⟨h2, h4⟩
theorem rowL_ok {c : CodeD} (ok : c.ok) {t : Str} (ht : isTextD c (.str t) = true) : ∀ n ∈ rowL c t, 1 ≤ n ∧ n ≤ 4 := by
  intro n hn
  unfold rowL at hn
  rcases List.mem_append.mp hn with h | h
  · rcases List.mem_append.mp h with h | h
    · rcases List.mem_append.mp h with h | h
      · exact ok.st.2.2 n h
      · exact ok.bt.2.2 n h
    · obtain ⟨x, hx, h⟩ := List.mem_flatMap.mp h
      rcases List.mem_append.mp h with h | h
      · exact (wsOf_of ok (of_decide_eq_true (List.all_eq_true.mp ht x hx))).2.1.2.2 n h
      · exact ok.bt.2.2 n h
  · exact ok.sp.2.2 n h
theorem rowL_len {c : CodeD} (ok : c.ok) {t : Str} (ht : isTextD c (.str t) = true) (hz : t.cps.size ≤ 1000) : (rowL c t).length ≤ 8014 := by
  rw [← rowK_all, List.length_append]
  have h1 := rowK_len ok ht (chrs t).length
  have h2 := ok.sp.2.1
  rw [chrs_len] at h1
  rw [chrs_len]
  omega
theorem pieces_each {ns : List Int} (h : ∀ n ∈ ns, 1 ≤ n ∧ n ≤ 4) : ∀ x ∈ piecesL ns, x.length ≤ 4 := by
  intro x hx
  obtain ⟨q, hq, rfl⟩ := List.mem_map.mp hx
  have := List.mem_zipIdx hq
  exact (piece_ok (h _ (by rw [this.2.2]; exact List.getElem_mem _)) _).2
theorem pieces_len (ns : List Int) : (piecesL ns).length = ns.length := by unfold piecesL; rw [List.length_map, List.length_zipIdx]
def barsT (c : CodeD) (t : Str) : Str := catS (piecesL (rowL c t))
theorem cat_len : ∀ (l : List Str) (a : Str) (m : Nat), (∀ x ∈ l, x.length ≤ m) → (l.foldl (fun a b => a ++ b) a).length ≤ a.length + l.length * m
  | [], a, m, _ => by simp
  | x :: l, a, m, h => by
    rw [List.foldl_cons]
    have h1 := cat_len l (a ++ x) m fun y hy => h y (List.mem_cons_of_mem _ hy)
    have h2 := h x (List.mem_cons_self ..)
    rw [strLen_append] at h1
    rw [List.length_cons, Nat.succ_mul]
    omega
section
variable {P : Program} {w : World} {K : PySem.W.Frag} {mg : Str → Option Value} {base : Heap}
def R_bars : List PyData → PyData → Prop := fun ds r => ∃ (c : CodeD) (t : Str), ds = [c.d, .str t] ∧ c.ok ∧ t.cps.size ≤ 1000 ∧ isTextD c (.str t) = true ∧ r = .str (barsT c t)
def pieceD (k : Nat) (d : PyData) : PyData := match d with
  | .int n => .str (pieceS n k)
  | _ => .none
/-! ### the fault of a text, as the law finds it -/
theorem lt_nat (a b : Nat) : decide ((a : Int) < (b : Int)) = decide (a < b) := by
  by_cases h : a < b
  · rw [decide_eq_true h, decide_eq_true (by omega)]
  · rw [decide_eq_false h, decide_eq_false (by omega)]
def uniS (x : Str) : Prop := ∀ c ∈ x.cps.toList, c < 1114112
theorem badW_eq (p : Nat) (w : Str) (h1 : decide (w = "") = false) : badW p w = ((decide (w.cps.toList[0]? = some 48) || (decide (400 < w.length) || decide (399 < p))) || !(w.cps.toList.all fun c => decide (c ∈ digS.cps.toList))) := by
  have hl : 1 ≤ w.length := by
    have h0 : w ≠ "" := of_decide_eq_false h1
    rcases Nat.eq_zero_or_pos w.length with h | h
    · exact absurd (TL.ext_tl (by
        have := (TL.len0_tl w).mp h
        rw [this]
        rfl)) h0
    · exact h
  unfold badW decB
  rw [decide_eq_true hl, Bool.true_and]
  have a1 : decide ((w.length : Int) ≤ 400) = !decide (400 < w.length) := by
    by_cases h : 400 < w.length
    · rw [decide_eq_true h, decide_eq_false (by omega)]; rfl
    · rw [decide_eq_false h, decide_eq_true (by omega)]; rfl
  have a2 : decide (400 ≤ p) = decide (399 < p) := by
    by_cases h : 399 < p
    · rw [decide_eq_true h, decide_eq_true (by omega)]
    · rw [decide_eq_false h, decide_eq_false (by omega)]
  rw [a1, a2]
  by_cases hz : w = "0"
  · subst hz
    have e : decide ((("0" : Str).cps.toList)[0]? = some 48) = true := by decide +kernel
    rw [e]
    simp
  · rw [decide_eq_false hz, Bool.false_or, Bool.or_false]
    cases decide (w.cps.toList[0]? = some 48) <;> cases decide (400 < w.length) <;> cases decide (399 < p) <;> cases (w.cps.toList.all fun c => decide (c ∈ digS.cps.toList)) <;> rfl
theorem filt_dig (f : Nat → Bool) (cs : List Nat) : ((cs.map fun c => (⟨#[c]⟩ : Str)).filter fun s => !(s.cps.toList.all f)).isEmpty = cs.all f := by
  induction cs with
  | nil => rfl
  | cons c cs ih =>
    have e : (!((⟨#[c]⟩ : Str).cps.toList.all f)) = !f c := by
      show (!([c].all f)) = _
      simp
    rw [List.map_cons, List.filter_cons, e, List.all_cons]
    cases f c with
    | true => rw [if_neg (by decide), Bool.true_and]; exact ih
    | false => rfl
def R_fault : List PyData → PyData → Prop := fun ds r => ∃ t, ds = [.str t] ∧ t.length ≤ 80000 ∧ (Txt.split t " ").length ≤ 80000 ∧ (∀ x ∈ Txt.split t " ", x.length ≤ 80000 ∧ uniS x) ∧ r = .list (faultL t)
end
end K99

namespace K99
open PySem PySem.Spec PyProof.Rows L2 Sb
local macro_rules | `(tactic| walk_at "ex") => `(tactic| first | exact Ex.refl _ | assumption | (refine' Ex.trans ?_ (by assumption); walk_at "ex"))
local macro_rules | `(tactic| walk_at "rp") => `(tactic| first | assumption | (refine' Rp.up ?e (by assumption); (case e => walk_at "ex")) | exact rfl)
local macro_rules | `(tactic| walk_at "rd") => `(tactic| with_reducible first | exact rd_add | exact rd_sub | exact rd_lt | exact rd_le | exact rd_gt | exact rd_ge | exact rd_eqI | exact rd_neI | exact rd_eqS | exact rd_neS | exact rd_isN | exact rd_ltS | exact rd_inSign | exact rd_eqE)
local macro_rules | `(tactic| walk_at "tr") => `(tactic| first
  | with_reducible exact d_int
  | with_reducible exact d_str
  | with_reducible exact d_bl
  | with_reducible exact d_non
  | with_reducible exact a_nil
  | with_reducible exact b_yes
  | with_reducible exact o_none
  | with_reducible exact d_newD
  | ((with_reducible refine' d_var ?i ?r); (case i => rfl); (case r => walk_at "rp"))
  | ((with_reducible refine' a_cons ?a ?b); (case a => walk_at "tr"); (case b => walk_at "tr"))
  | ((with_reducible refine' a_star ?a ?b); (case a => walk_at "tr"); (case b => walk_at "tr"))
  | ((with_reducible refine' d_isi ?a ?b); (case a => walk_at "tr"); (case b => decide))
  | ((with_reducible refine' d_op ?a ?b ?c); (case a => walk_at "tr"); (case b => walk_at "tr"); (case c => walk_at "rd"))
  | ((with_reducible refine' d_tup ?a ?b); (case a => walk_at "tr"); (case b => first | decide | (simp; done)))
  | ((with_reducible refine' d_lst ?a ?b); (case a => walk_at "tr"); (case b => first | decide | (simp; done)))
  | ((with_reducible refine' o_some ?a); (case a => walk_at "tr"))
  | ((with_reducible refine' b_B ?a); (case a => walk_at "tr"))
  | ((with_reducible refine' b_T ?a); (case a => walk_at "tr"))
  | ((with_reducible refine' b_not ?a); (case a => walk_at "tr"))
  | ((with_reducible refine' v_not ?a); (case a => walk_at "tr"))
  | ((with_reducible refine' b_or ?a ?b); (case a => walk_at "tr"); (case b => intro _; walk_at "tr"))
  | ((with_reducible refine' b_and ?a ?b); (case a => walk_at "tr"); (case b => intro _; walk_at "tr"))
  | ((with_reducible refine' v_or ?a ?b); (case a => walk_at "tr"); (case b => intro _; walk_at "tr"))
  | ((with_reducible refine' v_and ?a ?b); (case a => walk_at "tr"); (case b => intro _; walk_at "tr"))
  | assumption)


/-! ### what is wrong with characters, with a code -/
def badC (d : PyData) : Bool := match d with
  | .dict kvs => !(decide (1 ≤ (kvs.length : Int)) && decide ((kvs.length : Int) ≤ 10)) || !(kvs.all fun p => isNameD p.1)
  | _ => true
def badN (kvs : List (Str × PyData)) (k : Str) : Bool := !areWD ((lookD kvs k).getD .none) 1 6
structure goodC (kvs : List (Str × PyData)) : Prop where
  l1 : 1 ≤ kvs.length
  l2 : kvs.length ≤ 10
  nm : ∀ p ∈ kvs, isNameS p.1 = true
  nd : (kvs.map (·.1)).Nodup
def faultN (kvs : List (Str × PyData)) : List Str := ((srt (kvs.map (·.1))).filter (badN kvs)).take 1
def R_foc2 : List PyData → PyData → Prop := fun ds r => ∃ d, ds = [d] ∧ ((badC d = true ∧ (∀ kvs, d = .dict kvs → ∀ p ∈ kvs, ∀ x, p.1 = .str x → x.length ≤ 100000) ∧ r = .list [.none]) ∨ (∃ kvs, d = .dict (keysD kvs) ∧ goodC kvs ∧ r = .list (dStrs (faultN kvs))))
theorem lookD_some {kvs : List (Str × PyData)} {x : Str} (h : x ∈ kvs.map (·.1)) : lookD kvs x = some ((lookD kvs x).getD .none) := by
  have z := look_some (kvs := kvs) (x := x)
  rw [decide_eq_true h] at z
  cases e : lookD kvs x with
  | none => rw [e] at z; cases z
  | some d => rfl
theorem name_mem {kvs : List (Str × PyData)} (g : goodC kvs) {x : Str} (h : x ∈ kvs.map (·.1)) : isNameS x = true := by
  obtain ⟨p, hp, rfl⟩ := List.mem_map.mp h
  exact g.nm p hp
theorem cut_1 (L : List PyData) : Sb.cutD L none (some 1) = L.take 1 := by
  cases L with
  | nil => rfl
  | cons x xs => exact cut_to (k := 1) (by simp)
def strOf (d : PyData) : Str := match d with
  | .str x => x
  | _ => ""
section
variable {P : Program} {w : World} {K : PySem.W.Frag} {mg : Str → Option Value} {base : Heap}
theorem F_fault_of_characters (T : Tx K mg) : Fd P w K mg base CX0 4 "fault_of_characters" (PSp K R_foc2) [] := by
  obtain ⟨fd, F⟩ := T.f_fault_of_characters
  refine ⟨_, fd, ["value"], [], T.g_fault_of_characters, F.kp, F.bindsN fun _ _ _ _ _ _ us hl => match us, hl with | [_], _ => rfl, .nil, ?_⟩
  refine fnG_of F sc_fault_of_characters (fun vs H Q E h => PSp.len (n := 1) (by rintro _ _ ⟨d, rfl, _⟩; rfl) h) (fun cdv A outer s H vs Q E hg hr h => ?_)
  obtain ⟨G, M, ds, r, hA, hR, ⟨d, rfl, hd⟩, q⟩ := h
  obtain ⟨v0, _, rfl, r0, rfl⟩ := hR
  refine ⟨_, PSs.nox (pss_cons (ps_if (PW.pt (pw_or (pt_not (pt_val (pe_callB call_isi (by rfl) T.n_isinstance (by decide +kernel) (pa_cons (pv 0) (pa_cons (pe_bltn (v := .ty "dict") (u := .type "dict") (by rfl) T.n_dict (by decide +kernel) rfl) pa_nil))))) (pw_or1 (pt_not (pt_chain op_le op_le pe_int (pe_callB call_lenD' (by rfl) T.n_len (by decide +kernel) (pa_cons (pv 0) pa_nil)) (pe_glob (v := .int 10) (by rfl) T.c_MOST_CHARACTERS.choose_spec ⟨_, rfl⟩)))))) (pss_one (ps_ret (pe_lst (pa_cons pe_non pa_nil)))) pss_nil)
    (pss_cons (ps_if (pt_not (pt_val (pe_callB (cr_all rfl) (by rfl) T.n_all (by decide +kernel) (pa_cons (pe_lock (pe_lc (own := [("name", 1)]) (g := gName 1) (by rfl) sc_fault_of_characters.nd (pi_keys (pv 0)) (blkOk_by (own := [("name", 1)]) (N := ["value", "name"]) (sc := defScope s_fault_of_characters) (by decide +kernel)) (fun _ _ _ _ _ => (pg_name (i := 1) sc_fault_of_characters.nd rfl (by first | exact Or.inl rfl | exact Or.inr rfl))) (fun _ _ _ _ _ => pts_nil) (fun _ _ _ _ _ => (pe_fd (F_is_name (P := P) (w := w) (base := base) T) hg (hr.mono (by decide)) pass0 (pa_cons (pv 1) pa_nil))))) pa_nil)))) (pss_one (ps_ret (pe_lst (pa_cons pe_non pa_nil)))) pss_nil)
    (pss_one (ps_ret (pe_slice sl_list (pe_lc (own := [("name", 1)]) (g := gName 1) (by rfl) sc_fault_of_characters.nd (pi_list (pe_callB (call_sortedD' rfl) (by rfl) T.n_sorted (by decide +kernel) (pa_cons (pv 0) pa_nil))) (blkOk_by (own := [("name", 1)]) (N := ["value", "name"]) (sc := defScope s_fault_of_characters) (by decide +kernel)) (fun _ _ _ _ _ => (pg_name (i := 1) sc_fault_of_characters.nd rfl (by first | exact Or.inl rfl | exact Or.inr rfl))) (fun _ _ _ _ _ => (pts_one (pt_not (pt_val (pe_fd (F_is_widths (P := P) (w := w) (base := base) T) hg (hr.mono (by decide)) pass0 (pa_cons (pe_dget (hu_of hr) (pv 0) (pv 1) (fun _ _ => rfl)) pa_nil)))))) (fun _ _ _ _ _ => (pv 1))) po_none (po_some pe_int)))))), ?_⟩
  rw [show L2.start ["value", "name"] [v0] = [some v0, none] from rfl]
  dsimp only [xK]
  have non : ∀ {Gx : Hp}, TrD K (tLst (tCons (tC V.non) tNil)) [some v0, none] Gx (.list [.none]) := d_lst (a_cons d_non a_nil) (Nat.le_of_ble_eq_true rfl)
  have names : ∀ {kvs : List (PyData × PyData)} {Gx : Hp}, Rp K Gx (.dict kvs) v0 → kvs.length ≤ 100 → (∀ p ∈ kvs, ∀ x, p.1 = .str x → x.length ≤ 100000) →
      TrD K _ [some v0, none] Gx (.bool (kvs.all fun p => isNameD p.1)) := fun {kvs Gx} hr hl hk =>
    TrD.to (d_cb (a_cons (TrD.to (d_lcG (i := 1) (j := 0) (p := fun _ => true) (f := fun k => .bool (isNameD k)) rfl hr (by omega) rfl (fun _ _ _ _ _ => b_yes) fun k hkm x hx G2 => by
      obtain ⟨p, hp, rfl⟩ := List.mem_map.mp hkm
      exact d_call0 (R := R_is_name) (E := E0) (a_cons (d_var (i := 1) rfl (hx _)) a_nil) ⟨p.1, rfl, fun y hy => hk p hp y hy, rfl⟩) (d2 := .list (((kvs.map (·.1)).map isNameD).map .bool)) (by rw [filt_true, List.map_map, List.map_map, List.map_map]; rfl)) a_nil) rc_all) (by rw [List.all_map, List.all_map]; rfl)
  have hlen : ∀ {kvs : List (PyData × PyData)} {Gx : Hp}, Rp K Gx (.dict kvs) v0 → TrB _ [some v0, none] Gx (!(decide (1 ≤ (kvs.length : Int)) && decide ((kvs.length : Int) ≤ 10))) := fun {kvs Gx} hr =>
    TrB.to (b_or (b_not (b_B (d_isi (n := "dict") (d_var (i := 0) rfl hr)))) fun _ => b_not (b_T (d_chain d_int (d_cb (a_cons (d_var (i := 0) rfl hr) a_nil) rc_lenD) rd_le (fun _ => d_int) fun _ => rd_le))) rfl
  rcases hd with ⟨hb, hk, rfl⟩ | ⟨kvs, rfl, g, rfl⟩
  · by_cases hdd : ∃ kvs, d = .dict kvs
    · obtain ⟨kvs, rfl⟩ := hdd
      cases hl : (!(decide (1 ≤ (kvs.length : Int)) && decide ((kvs.length : Int) ≤ 10))) with
      | true => exact q_guardR (TrB.to (hlen r0) hl) hA fun G1 H1 e1 A1 => s_ret non A1 (q.mono e1)
      | false =>
        refine q_guardF (TrB.to (hlen r0) hl) hA fun G1 H1 e1 A1 => ?_
        have hn : (kvs.all fun p => isNameD p.1) = false := by
          have hb' : (!(decide (1 ≤ (kvs.length : Int)) && decide ((kvs.length : Int) ≤ 10)) || !(kvs.all fun p => isNameD p.1)) = true := hb
          rw [hl, Bool.false_or] at hb'
          cases z : kvs.all fun p => isNameD p.1 with
          | true => rw [z] at hb'; cases hb'
          | false => rfl
        have hl2 : kvs.length ≤ 100 := by
          have z : (decide (1 ≤ (kvs.length : Int)) && decide ((kvs.length : Int) ≤ 10)) = true := by
            cases z : (decide (1 ≤ (kvs.length : Int)) && decide ((kvs.length : Int) ≤ 10)) with
            | true => rfl
            | false => rw [z] at hl; cases hl
          have := of_decide_eq_true (Bool.and_eq_true_iff.mp z).2
          omega
        exact q_guardR (TrB.to (b := !(kvs.all fun p => isNameD p.1)) (b_not (b_B (names (r0.up e1) hl2 (hk kvs rfl)))) (by rw [hn]; rfl)) A1 fun G2 H2 e2 A2 => s_ret non A2 (q.mono (e1.trans e2))
    · exact q_guardR (b_orT (TrB.to (b_not (b_B (d_isi (n := "dict") (d_var rfl r0)))) (by cases d <;> first | rfl | exact absurd ⟨_, rfl⟩ hdd))) hA fun G1 H1 e1 A1 => s_ret non A1 (q.mono e1)
  · have hl := keysD_len kvs
    have h1 := g.l1
    have h2 := g.l2
    refine q_guardF (TrB.to (hlen r0) (by rw [hl, decide_eq_true (show (1 : Int) ≤ (kvs.length : Int) by omega), decide_eq_true (show (kvs.length : Int) ≤ 10 by omega)]; rfl)) hA fun G1 H1 e1 A1 => ?_
    have hall : ((keysD kvs).all fun p => isNameD p.1) = true := by
      rw [List.all_eq_true]
      intro p hp
      obtain ⟨z, hz, rfl⟩ := List.mem_map.mp hp
      exact g.nm z hz
    refine q_guardF (TrB.to (b := !((keysD kvs).all fun p => isNameD p.1)) (b_not (b_B (names (r0.up e1) (by omega) fun p hp x hx => ?_))) (by rw [hall]; rfl)) A1 fun G2 H2 e2 A2 => ?_
    · obtain ⟨z, hz, rfl⟩ := List.mem_map.mp hp
      cases hx
      rw [name_len (g.nm z hz)]
      decide
    refine s_ret (TrD.to (d_slL (d_lcL (p := fun d => badN kvs (strOf d)) (f := fun x => x) (d_cb (a_cons (d_var rfl (r0.up (e1.trans e2))) a_nil) (rc_sortD (by omega))) ?_ (fun d hd x G3 e3 rx => ?_) fun d hd hp x G3 e3 rx => d_var rfl rx) o_none (o_some (K := K) d_int)) ?_) A2 (q.mono (e1.trans e2))
    · unfold dStrs
      rw [List.length_map, (srt_perm _).length_eq, List.length_map]
      omega
    · obtain ⟨nm, hnm, rfl⟩ := List.mem_map.mp hd
      have hm := (srt_perm _).mem_iff.mp hnm
      exact b_not (b_B (d_call0 (a_cons (d_dget (d_var rfl (r0.up ((e1.trans e2).trans e3))) (d_var rfl rx) (lookD_some hm)) a_nil) ⟨_, rfl, rfl⟩))
    · rw [List.map_id']
      unfold dStrs
      rw [List.filter_map]
      show PyData.list (Sb.cutD (List.map PyData.str (List.filter (badN kvs) (srt (kvs.map (·.1))))) none (some 1)) = _
      rw [cut_1]
      unfold faultN
      rw [List.map_take]
/-! ### the first fault of a code -/
theorem shaped_nil : SeqAt.shaped (.list []) = true := rfl
theorem shaped_pair {x : Str} {d : PyData} (hx : x.cps.all (· < 1114112) = true) (hd : d = .none ∨ ∃ y : Str, d = .str y ∧ y.cps.all (· < 1114112) = true) : SeqAt.shaped (.list [.tuple [.str x, d]]) = true := by
  unfold SeqAt.shaped
  rcases hd with rfl | ⟨y, rfl, hy⟩
  · simp [PyData.canLay0, PyData.canLayAll0, PyData.depth, PyData.depthAll]
    exact hx
  · simp [PyData.canLay0, PyData.canLayAll0, PyData.depth, PyData.depthAll]
    exact ⟨hx, hy⟩
def faultP (s : Str) (n : PyData) : PyData := .tuple [.str s, n]
def codeF (s : PyData) (fl : List PyData) (b p : PyData) : List PyData :=
  let f0 := fl.map (faultP "characters")
  let f1 := if areWD s 1 6 = true then f0 else [faultP "start" .none]
  let f2 := if f1.isEmpty && !areWD b 0 2 then [faultP "between" .none] else f1
  if f2.isEmpty && !areWD p 1 6 then [faultP "stop" .none] else f2
def bad4 (d : PyData) : Bool := match d with
  | .tuple ds => !decide (ds.length = 4)
  | _ => true
def okFl (fl : List PyData) : Prop := fl = [] ∨ fl = [.none] ∨ ∃ y : Str, fl = [.str y] ∧ isNameS y = true
def R_fc2 : List PyData → PyData → Prop := fun ds r => ∃ d, ds = [d] ∧ ((bad4 d = true ∧ r = .list [.tuple [.none, .none]]) ∨ (∃ s c b p fl, d = .tuple [s, c, b, p] ∧ R_foc2 [c] (.list fl) ∧ okFl fl ∧ r = .list (codeF s fl b p)))
theorem sh_fault {fl : List PyData} {s : Str} (hs : s.cps.all (· < 1114112) = true) (h : okFl fl) : SeqAt.shaped (.list (fl.map (faultP s))) = true := by
  rcases h with rfl | rfl | ⟨y, rfl, hy⟩
  · rfl
  · exact shaped_pair hs (.inl rfl)
  · exact shaped_pair hs (.inr ⟨y, rfl, name_cps hy⟩)
theorem F_fault_of_code (T : Tx K mg) : Fd P w K mg base CX0 5 "fault_of_code" (PSp K R_fc2) [] := by
  obtain ⟨fd, F⟩ := T.f_fault_of_code
  refine ⟨_, fd, ["value"], [], T.g_fault_of_code, F.kp, F.bindsN fun _ _ _ _ _ _ us hl => match us, hl with | [_], _ => rfl, .nil, ?_⟩
  refine fnG_of F sc_fault_of_code (fun vs H Q E h => PSp.len (n := 1) (by rintro _ _ ⟨d, rfl, _⟩; rfl) h) (fun cdv A outer s H vs Q E hg hr h => ?_)
  obtain ⟨G, M, ds, r, hA, hR, ⟨d, rfl, hd⟩, q⟩ := h
  obtain ⟨v0, _, rfl, r0, rfl⟩ := hR
  refine ⟨_, PSs.nox (pss_cons (ps_if (PW.pt (pw_or (pt_not (pt_val (pe_callB call_isi (by rfl) T.n_isinstance (by decide +kernel) (pa_cons (pv 0) (pa_cons (pe_bltn (v := .ty "tuple") (u := .type "tuple") (by rfl) T.n_tuple (by decide +kernel) rfl) pa_nil))))) (pw_or1 (pt_cmpR op_ne (pe_callB call_len' (by rfl) T.n_len (by decide +kernel) (pa_cons (pv 0) pa_nil)) pe_int (nomark _))))) (pss_one (ps_ret (pe_lst (pa_cons (pe_tup (pa_cons pe_non (pa_cons pe_non pa_nil))) pa_nil)))) pss_nil)
    (pss_cons (ps_asg (pv 0) (pg_tup (by rfl) (pgs_cons (pg_name (i := 1) sc_fault_of_code.nd rfl (by first | exact Or.inl rfl | exact Or.inr rfl)) (pgs_cons (pg_name (i := 2) sc_fault_of_code.nd rfl (by first | exact Or.inl rfl | exact Or.inr rfl)) (pgs_cons (pg_name (i := 3) sc_fault_of_code.nd rfl (by first | exact Or.inl rfl | exact Or.inr rfl)) (pgs_cons (pg_name (i := 4) sc_fault_of_code.nd rfl (by first | exact Or.inl rfl | exact Or.inr rfl)) pgs_nil))))))
    (pss_cons (ps_setLc (i := 5) (own := [("name", 6)]) (g := gName 6) (by rfl) sc_fault_of_code.nd rfl rfl (sw_true rfl rfl rfl (by decide +kernel)) (pi_list (pe_fd (F_fault_of_characters (P := P) (w := w) (base := base) T) hg (hr.mono (by decide)) pass0 (pa_cons (pv 2) pa_nil))) (blkOk_by (own := [("name", 6)]) (N := ["value", "start", "characters", "between", "stop", "found", "name"]) (sc := defScope s_fault_of_code) (by decide +kernel)) (fun _ _ _ _ _ => (pg_name (i := 6) sc_fault_of_code.nd rfl (by first | exact Or.inl rfl | exact Or.inr rfl))) (fun _ _ _ _ _ => pts_nil) (fun _ _ _ _ _ => (pe_tup (pa_cons pe_str (pa_cons (pv 6) pa_nil)))))
    (pss_cons (ps_if (pt_not (pt_val (pe_fd (F_is_widths (P := P) (w := w) (base := base) T) hg (hr.mono (by decide)) pass0 (pa_cons (pv 1) pa_nil)))) (pss_one (ps_set (i := 5) sc_fault_of_code.nd rfl (by first | exact Or.inl rfl | exact Or.inr rfl) (pe_lst (pa_cons (pe_tup (pa_cons pe_str (pa_cons pe_non pa_nil))) pa_nil)))) pss_nil)
    (pss_cons (ps_if (PW.pt (pw_and (pt_cmpR (op_eqR hr.units) (pv 5) (pe_lst pa_nil) (nomark _)) (pw_and1 (pt_not (pt_val (pe_fd (F_are_widths (P := P) (w := w) (base := base) T) hg (hr.mono (by decide)) pass0 (pa_cons (pv 3) (pa_cons pe_int (pa_cons pe_int pa_nil))))))))) (pss_one (ps_set (i := 5) sc_fault_of_code.nd rfl (by first | exact Or.inl rfl | exact Or.inr rfl) (pe_lst (pa_cons (pe_tup (pa_cons pe_str (pa_cons pe_non pa_nil))) pa_nil)))) pss_nil)
    (pss_cons (ps_if (PW.pt (pw_and (pt_cmpR (op_eqR hr.units) (pv 5) (pe_lst pa_nil) (nomark _)) (pw_and1 (pt_not (pt_val (pe_fd (F_is_widths (P := P) (w := w) (base := base) T) hg (hr.mono (by decide)) pass0 (pa_cons (pv 4) pa_nil))))))) (pss_one (ps_set (i := 5) sc_fault_of_code.nd rfl (by first | exact Or.inl rfl | exact Or.inr rfl) (pe_lst (pa_cons (pe_tup (pa_cons pe_str (pa_cons pe_non pa_nil))) pa_nil)))) pss_nil)
    (pss_one (ps_ret (pv 5))))))))), ?_⟩
  rw [show L2.start ["value", "start", "characters", "between", "stop", "found", "name"] [v0] = [some v0, none, none, none, none, none, none] from rfl]
  dsimp only [xK]
  rcases hd with ⟨hb, rfl⟩ | ⟨s, c, b, p, fl, rfl, hc, hf, rfl⟩
  · refine q_guardR (?_ : TrB _ _ _ true) hA fun G1 H1 e1 A1 => s_ret (d_lst (a_cons (d_tup (a_cons d_non (a_cons d_non a_nil)) (Nat.le_of_ble_eq_true rfl)) a_nil) (Nat.le_of_ble_eq_true rfl)) A1 (q.mono e1)
    by_cases hd : ∃ ds, d = .tuple ds
    · obtain ⟨ds, rfl⟩ := hd
      exact b_orF (TrB.to (b_not (b_B (d_isi (n := "tuple") (d_var rfl r0)))) rfl) (TrB.to (b_T (d_op (d_cb (a_cons (d_var rfl r0) a_nil) rc_lenT) d_int rd_neI)) (by
        have z : (!decide (ds.length = 4)) = true := hb
        by_cases h : ds.length = 4
        · rw [decide_eq_true h] at z; cases z
        · rw [decide_eq_false (by omega)]; rfl))
    · exact b_orT (TrB.to (b_not (b_B (d_isi (n := "tuple") (d_var rfl r0)))) (by cases d <;> first | rfl | exact absurd ⟨_, rfl⟩ hd))
  refine q_guardF (TrB.to (b_or (b_not (b_B (d_isi (d_var rfl r0)))) fun _ => b_T (d_op (d_cb (a_cons (d_var rfl r0) a_nil) rc_lenT) d_int rd_neI)) rfl) hA fun G1 H1 e1 A1 => ?_
  refine q_unpack (d_var rfl (r0.up e1)) rfl A1 ?_
  rintro _ G2 H2 e2 A2 ⟨v1, _, rfl, r1, v2, _, rfl, r2, v3, _, rfl, r3, v4, _, rfl, r4, rfl⟩
  refine ⟨v1, _, rfl, v2, _, rfl, v3, _, rfl, v4, _, rfl, rfl, ?_⟩
  have hfl : fl.length < 100000 := by rcases hf with rfl | rfl | ⟨y, rfl, _⟩ <;> exact Nat.lt_of_le_of_lt (Nat.le_refl _) (by simp)
  refine q_set (TrD.to (d_lcL (p := fun _ => true) (f := faultP "characters") (d_call0 (a_cons (d_var rfl r2) a_nil) hc) hfl (fun _ _ _ _ _ _ => b_yes) fun d _ _ x G3 e3 rx => d_tup (a_cons d_str (a_cons (d_var rfl rx) a_nil)) (Nat.le_of_ble_eq_true rfl)) (d2 := .list (fl.map (faultP "characters"))) (by rw [filt_true])) A2 fun v5 G3 H3 e3 A3 r5 => ?_
  have one : ∀ {sx : Str} {σ : L2.St} {Gx : Hp}, TrD K (tLst (tCons (tTup (tCons (tC (.str sx)) (tCons (tC .non) tNil))) tNil)) σ Gx (.list [faultP sx .none]) := d_lst (a_cons (d_tup (a_cons d_str (a_cons d_non a_nil)) (Nat.le_of_ble_eq_true rfl)) a_nil) (Nat.le_of_ble_eq_true rfl)
  have sh0 := sh_fault (s := "characters") (by decide +kernel) hf
  generalize hf0 : fl.map (faultP "characters") = f0 at r5 sh0
  refine q_ifSet (b_not (b_B (d_call0 (R := R_is_widths) (E := E0) (a_cons (d_var (i := 1) rfl (r1.up e3)) a_nil) ⟨s, rfl, rfl⟩))) (fun _ => one) A3 rfl r5 fun v6 G4 H4 e4 A4 r6 => ?_
  obtain ⟨f1, hf1, sh1, r6⟩ : ∃ f1, (if areWD s 1 6 = true then f0 else [faultP "start" .none]) = f1 ∧ SeqAt.shaped (.list f1) = true ∧ Rp K G4 (.list f1) v6 := by
    cases hw : areWD s 1 6 with
    | true =>
      rw [hw] at r6
      exact ⟨f0, rfl, sh0, r6⟩
    | false =>
      rw [hw] at r6
      exact ⟨_, rfl, shaped_pair (by decide +kernel) (.inl rfl), r6⟩
  refine q_ifSet (TrB.to (c := f1.isEmpty && !areWD b 0 2) (b_and (b_T (d_op (d_var (i := 5) rfl r6) (d_lst a_nil) (rd_eqR sh1 rfl))) fun _ => b_not (b_B (d_call0 (R := R_are_widths) (E := E0) (a_cons (d_var (i := 3) rfl (r3.up (e3.trans e4))) (a_cons d_int (a_cons d_int a_nil))) ⟨b, 0, 2, rfl, by decide, rfl⟩))) (by rw [eqv_nil])) (fun _ => one) A4 rfl r6 fun v7 G5 H5 e5 A5 r7 => ?_
  obtain ⟨f2, hf2, sh2, r7⟩ : ∃ f2, (if f1.isEmpty && !areWD b 0 2 then [faultP "between" .none] else f1) = f2 ∧ SeqAt.shaped (.list f2) = true ∧ Rp K G5 (.list f2) v7 := by
    cases hw : (f1.isEmpty && !areWD b 0 2) with
    | true =>
      rw [hw] at r7
      exact ⟨_, rfl, shaped_pair (by decide +kernel) (.inl rfl), r7⟩
    | false =>
      rw [hw] at r7
      exact ⟨f1, rfl, sh1, r7⟩
  refine q_ifSet (TrB.to (c := f2.isEmpty && !areWD p 1 6) (b_and (b_T (d_op (d_var (i := 5) rfl r7) (d_lst a_nil) (rd_eqR sh2 rfl))) fun _ => b_not (b_B (d_call0 (R := R_is_widths) (E := E0) (a_cons (d_var (i := 4) rfl (r4.up ((e3.trans e4).trans e5))) a_nil) ⟨p, rfl, rfl⟩))) (by rw [eqv_nil])) (fun _ => one) A5 rfl r7 fun v8 G6 H6 e6 A6 r8 => ?_
  refine s_ret (TrD.to (d_var rfl r8) ?_) A6 (q.mono (((((e1.trans e2).trans e3).trans e4).trans e5).trans e6))
  unfold codeF
  simp only [hf0, hf1, hf2]
  split <;> rfl
/-! ### raising -/
def R_rc2 : List PyData → OutN → Prop := fun ds o => ∃ d, ds = [d] ∧ ((R_fc2 [d] (.list []) ∧ o = .val .none) ∨ ∃ p n, R_fc2 [d] (.list [.tuple [p, n]]) ∧ SeqAt.shaped (.list [.tuple [p, n]]) = true ∧ o = .exc "InvalidCode" [("part", p), ("name", n)])
theorem F_require_code (T : Tx K mg) : Fd P w K mg base (L2N.CX P w) 6 "require_code" (XSpN K R_rc2) [] := by
  obtain ⟨fd, F⟩ := T.f_require_code
  refine ⟨_, fd, ["value"], [], T.g_require_code, F.kp, F.bindsN fun _ _ _ _ _ _ us hl => match us, hl with | [_], _ => rfl, .nil, ?_⟩
  refine fnG_of F sc_require_code (fun vs H Q E h => XSpN.len (n := 1) (by rintro _ _ ⟨d, rfl, _⟩; rfl) h) (fun cdv A outer s H vs Q E hg hr h => ?_)
  obtain ⟨G, M, ds, o, hA, hR, ⟨d, rfl, hd⟩, q⟩ := h
  obtain ⟨v0, _, rfl, r0, rfl⟩ := hR
  refine ⟨_, (pss_cons (ps_set (i := 1) sc_require_code.nd rfl (by first | exact Or.inl rfl | exact Or.inr rfl) (pe_fd (F_fault_of_code (P := P) (w := w) (base := base) T) hg (hr.mono (by decide)) pass0 (pa_cons (pv 0) pa_nil)))
    (pss_one (ps_if (pt_cmpR (op_neR hr.units) (pv 1) (pe_lst pa_nil) (nomark _)) (pss_cons (ps_asg (pe_ix ix_list (pv 1) pe_int (fun _ _ => rfl)) (pg_tup (by rfl) (pgs_cons (pg_name (i := 2) sc_require_code.nd rfl (by first | exact Or.inl rfl | exact Or.inr rfl)) (pgs_cons (pg_name (i := 3) sc_require_code.nd rfl (by first | exact Or.inl rfl | exact Or.inr rfl)) pgs_nil)))) (pss_one (L2N.ps_raise rfl (L2N.takes_of rfl rfl rfl rfl) (pmk_own2N T.o_InvalidCode (I_InvalidCode (P := P) (w := w) (base := base) T) (hr.mono (by decide)) (by rfl) T.gc_InvalidCode (pa_cons (pv 2) (pa_cons (pv 3) pa_nil)))))) pss_nil))), ?_⟩
  rw [show L2.start ["value", "faults", "part", "name"] [v0] = [some v0, none, none, none] from rfl]
  dsimp only [xK2]
  rcases hd with ⟨hf, rfl⟩ | ⟨p, n, hf, sh, rfl⟩
  · refine q_set (d_call0 (a_cons (d_var rfl r0) a_nil) hf) hA fun v1 G1 H1 e1 A1 r1 => ?_
    refine s_ifF (TrB.to (b_T (d_op (d_var rfl r1) (d_lst a_nil) (rd_neR rfl rfl))) rfl) A1 fun G2 H2 e2 A2 => ?_
    exact Res.here (Res.mono (e1.trans e2) q) A2 rfl
  · refine q_set (d_call0 (a_cons (d_var rfl r0) a_nil) hf) hA fun v1 G1 H1 e1 A1 r1 => ?_
    refine s_ifT (TrB.to (b_T (d_op (d_var rfl r1) (d_lst a_nil) (rd_neR sh rfl))) (by rw [eqv_nil]; rfl)) A1 fun G2 H2 e2 A2 => ?_
    refine q_unpack (d_op (d_var rfl (r1.up e2)) d_int (rd_ixL rfl)) rfl A2 ?_
    rintro _ G3 H3 e3 A3 ⟨v2, _, rfl, r2, v3, _, rfl, r3, rfl⟩
    refine ⟨v2, _, rfl, v3, _, rfl, rfl, ?_⟩
    exact s_raise2 (a_cons (d_var rfl r2) (a_cons (d_var rfl r3) a_nil)) (by decide) A3 (ResX.mono ((e1.trans e2).trans e3) q)
end
end K99

namespace K99
open PySem PySem.Spec PyProof.Rows L2 Sb
local macro_rules | `(tactic| walk_at "ex") => `(tactic| first | exact Ex.refl _ | assumption | (refine' Ex.trans ?_ (by assumption); walk_at "ex"))
local macro_rules | `(tactic| walk_at "rp") => `(tactic| first | assumption | (refine' Rp.up ?e (by assumption); (case e => walk_at "ex")) | exact rfl)
local macro_rules | `(tactic| walk_at "rd") => `(tactic| with_reducible first | exact rd_add | exact rd_sub | exact rd_lt | exact rd_le | exact rd_gt | exact rd_ge | exact rd_eqI | exact rd_neI | exact rd_eqS | exact rd_neS | exact rd_isN | exact rd_ltS | exact rd_inSign | exact rd_eqE)
local macro_rules | `(tactic| walk_at "tr") => `(tactic| first
  | with_reducible exact d_int
  | with_reducible exact d_str
  | with_reducible exact d_bl
  | with_reducible exact d_non
  | with_reducible exact a_nil
  | with_reducible exact b_yes
  | with_reducible exact o_none
  | with_reducible exact d_newD
  | ((with_reducible refine' d_var ?i ?r); (case i => rfl); (case r => walk_at "rp"))
  | ((with_reducible refine' a_cons ?a ?b); (case a => walk_at "tr"); (case b => walk_at "tr"))
  | ((with_reducible refine' a_star ?a ?b); (case a => walk_at "tr"); (case b => walk_at "tr"))
  | ((with_reducible refine' d_isi ?a ?b); (case a => walk_at "tr"); (case b => decide))
  | ((with_reducible refine' d_op ?a ?b ?c); (case a => walk_at "tr"); (case b => walk_at "tr"); (case c => walk_at "rd"))
  | ((with_reducible refine' d_tup ?a ?b); (case a => walk_at "tr"); (case b => first | decide | (simp; done)))
  | ((with_reducible refine' d_lst ?a ?b); (case a => walk_at "tr"); (case b => first | decide | (simp; done)))
  | ((with_reducible refine' o_some ?a); (case a => walk_at "tr"))
  | ((with_reducible refine' b_B ?a); (case a => walk_at "tr"))
  | ((with_reducible refine' b_T ?a); (case a => walk_at "tr"))
  | ((with_reducible refine' b_not ?a); (case a => walk_at "tr"))
  | ((with_reducible refine' v_not ?a); (case a => walk_at "tr"))
  | ((with_reducible refine' b_or ?a ?b); (case a => walk_at "tr"); (case b => intro _; walk_at "tr"))
  | ((with_reducible refine' b_and ?a ?b); (case a => walk_at "tr"); (case b => intro _; walk_at "tr"))
  | ((with_reducible refine' v_or ?a ?b); (case a => walk_at "tr"); (case b => intro _; walk_at "tr"))
  | ((with_reducible refine' v_and ?a ?b); (case a => walk_at "tr"); (case b => intro _; walk_at "tr"))
  | assumption)


/-! ### what is right passes -/
theorem codeF_ok {s b p : PyData} (hs : areWD s 1 6 = true) (hb : areWD b 0 2 = true) (hp : areWD p 1 6 = true) : codeF s [] b p = [] := by
  unfold codeF
  simp [hs, hb, hp]
theorem goodC_ok {cs : List (Str × List Int)} (h : okCs cs) : goodC (chD cs) := by
  refine ⟨by have := h.l1; simpa [chD] using this, by have := h.l2; simpa [chD] using this, fun p hp => ?_, by rw [chD_keys]; exact h.nd⟩
  obtain ⟨z, hz, rfl⟩ := List.mem_map.mp hp
  exact (h.nm z hz).1
theorem faultN_ok {cs : List (Str × List Int)} (h : okCs cs) : faultN (chD cs) = [] := by
  unfold faultN
  rw [List.filter_eq_nil_iff.mpr]
  · rfl
  · intro x hx
    have hm := (srt_perm _).mem_iff.mp hx
    rw [chD_keys] at hm
    obtain ⟨p, hp, rfl⟩ := List.mem_map.mp hm
    unfold badN
    rw [chD_look h.nd hp]
    show ¬ (!areWD (.tuple (dInts p.2)) 1 6) = true
    rw [show areWD (.tuple (dInts p.2)) 1 6 = true from areWD_ok (h.nm p hp).2]
    decide
theorem foc_ok {cs : List (Str × List Int)} (h : okCs cs) : R_foc2 [.dict (keysD (chD cs))] (.list []) := ⟨_, rfl, .inr ⟨chD cs, rfl, goodC_ok h, by rw [faultN_ok h]; rfl⟩⟩
theorem fc_ok {c : CodeD} (ok : c.ok) : R_fc2 [c.d] (.list []) :=
  ⟨_, rfl, .inr ⟨_, _, _, _, [], rfl, foc_ok ok.cs, .inl rfl, by rw [codeF_ok (areWD_ok ok.st) (areWD_ok ok.bt) (areWD_ok ok.sp)]⟩⟩
section
variable {P : Program} {w : World} {K : PySem.W.Frag} {mg : Str → Option Value} {base : Heap}
def R_rt2 : List PyData → OutN → Prop := fun ds o => ∃ (c : CodeD) (d : PyData), ds = [c.d, d] ∧ (∀ t, d = .str t → t.cps.size ≤ 10000) ∧ o = if isTextD c d = true then .val .none else .ex0 "InvalidText"
theorem F_require_text (T : Tx K mg) : Fd P w K mg base (L2N.CX P w) 3 "require_text" (XSpN K R_rt2) [] := by
  obtain ⟨fd, F⟩ := T.f_require_text
  refine ⟨_, fd, ["code", "value"], [], T.g_require_text, F.kp, F.bindsN fun _ _ _ _ _ _ us hl => match us, hl with | [_, _], _ => rfl, .nil, ?_⟩
  refine fnG_of F sc_require_text (fun vs H Q E h => XSpN.len (n := 2) (by rintro _ _ ⟨d, e, rfl, _⟩; rfl) h) (fun cdv A outer s H vs Q E hg hr h => ?_)
  obtain ⟨G, M, ds, o, hA, hR, ⟨c, d, rfl, hz, rfl⟩, q⟩ := h
  obtain ⟨v0, _, rfl, r0, v1, _, rfl, r1, rfl⟩ := hR
  refine ⟨_, (pss_one (ps_if (pt_not (pt_val (pe_fd (F_is_text (P := P) (w := w) (base := base) T) hg (hr.mono (by decide)) pass0 (pa_cons (pv 0) (pa_cons (pv 1) pa_nil))))) (pss_one (L2N.ps_raise rfl (L2N.takes_of rfl rfl rfl rfl) (pmk_own0N T.z_InvalidText (by rfl) T.gc_InvalidText))) pss_nil)), ?_⟩
  rw [show L2.start ["code", "value"] [v0, v1] = [some v0, some v1] from rfl]
  dsimp only [xK2]
  cases ht : isTextD c d with
  | true =>
    rw [ht] at q
    refine s_ifF (TrB.to (b_not (b_B (d_call0 (a_cons (d_var rfl r0) (a_cons (d_var rfl r1) a_nil)) ⟨c, d, rfl, hz, rfl⟩))) (by rw [ht]; rfl)) hA fun G1 H1 e1 A1 => ?_
    exact s_next (Res.here (Res.mono e1 q) A1 rfl)
  | false =>
    rw [ht] at q
    refine s_ifT (TrB.to (b_not (b_B (d_call0 (a_cons (d_var rfl r0) (a_cons (d_var rfl r1) a_nil)) ⟨c, d, rfl, hz, rfl⟩))) (by rw [ht]; rfl)) hA fun G1 H1 e1 A1 => ?_
    exact (show Res0 K G M "InvalidText" E from q) _ _ e1 A1
def R_rs2 : List PyData → OutN → Prop := fun ds o => ∃ d, ds = [d] ∧ (∀ xs, d = .list xs → xs.length ≤ 10000) ∧ o = match fScan d with
  | [] => .val .none
  | x :: _ => .exc "InvalidScan" [("index", x)]
theorem fScan_form (d : PyData) : fScan d = [] ∨ fScan d = [.none] ∨ ∃ k : Int, fScan d = [.int k] := by
  unfold fScan
  split
  · split
    · rename_i xs _
      cases h : (xs.zipIdx.filter fun q => !isIntD q.1 (some 1) none) with
      | nil => exact .inl rfl
      | cons q r => exact .inr (.inr ⟨_, rfl⟩)
    · exact .inr (.inl rfl)
  · exact .inr (.inl rfl)
theorem F_require_scan (T : Tx K mg) : Fd P w K mg base (L2N.CX P w) 3 "require_scan" (XSpN K R_rs2) [] := by
  obtain ⟨fd, F⟩ := T.f_require_scan
  refine ⟨_, fd, ["value"], [], T.g_require_scan, F.kp, F.bindsN fun _ _ _ _ _ _ us hl => match us, hl with | [_], _ => rfl, .nil, ?_⟩
  refine fnG_of F sc_require_scan (fun vs H Q E h => XSpN.len (n := 1) (by rintro _ _ ⟨d, rfl, _⟩; rfl) h) (fun cdv A outer s H vs Q E hg hr h => ?_)
  obtain ⟨G, M, ds, o, hA, hR, ⟨d, rfl, hz, rfl⟩, q⟩ := h
  obtain ⟨v0, _, rfl, r0, rfl⟩ := hR
  refine ⟨_, (pss_cons (ps_set (i := 1) sc_require_scan.nd rfl (by first | exact Or.inl rfl | exact Or.inr rfl) (pe_fd (F_fault_of_scan (P := P) (w := w) (base := base) T) hg (hr.mono (by decide)) pass0 (pa_cons (pv 0) pa_nil)))
    (pss_one (ps_if (pt_cmpR (op_neR hr.units) (pv 1) (pe_lst pa_nil) (nomark _)) (pss_one (L2N.ps_raise rfl (L2N.takes_of rfl rfl rfl rfl) (pmk_own1N T.o_InvalidScan (I_InvalidScan (P := P) (w := w) (base := base) T) (hr.mono (by decide)) (by rfl) T.gc_InvalidScan (pa_cons (pe_ix ix_list (pv 1) pe_int (fun _ _ => rfl)) pa_nil)))) pss_nil))), ?_⟩
  rw [show L2.start ["value", "faults"] [v0] = [some v0, none] from rfl]
  dsimp only [xK2]
  refine q_set (d_call0 (a_cons (d_var rfl r0) a_nil) ⟨d, rfl, hz, rfl⟩) hA fun v1 G1 H1 e1 A1 r1 => ?_
  have raise : ∀ x, fScan d = [x] → SeqAt.shaped (.list [x]) = true → _ := fun x hf hs => s_ifT (s2 := tNext) (D := { nx := fun _ H' => Q V.non H', rt := Q }) (σ := [some v0, some v1]) (s1 := fun _ σ H => tMkO (He.ga K "InvalidScan") (spIni1 (He.ga K "InvalidScan") "index") [] (tCons (tOp (rIxL K) (tVar 1) (tC (V.int 0))) tNil) σ H fun cls d H' => E cls d H') (TrB.to (b_T (d_op (d_var (i := 1) rfl r1) (d_lst a_nil) (rd_neR (by rw [hf]; exact hs) rfl))) (by rw [eqv_nil, hf]; rfl)) A1 fun G2 H2 e2 A2 => by
    rw [hf] at q r1
    exact s_raise1 (a_cons (d_op (d_var (i := 1) rfl (r1.up e2)) d_int (rd_ixL rfl)) a_nil) A2 (ResX.mono (e1.trans e2) q)
  rcases fScan_form d with hf | hf | ⟨k, hf⟩
  · rw [hf] at r1 q
    refine s_ifF (TrB.to (b_T (d_op (d_var rfl r1) (d_lst a_nil) (rd_neR rfl rfl))) (by rw [eqv_nil]; rfl)) A1 fun G2 H2 e2 A2 => s_next (Res.here (Res.mono (e1.trans e2) q) A2 rfl)
  · exact raise _ hf rfl
  · exact raise _ hf rfl
/-- what a def lets out of what it calls first -/
def R_fco : List PyData → OutN → Prop := fun ds o => ∃ d, ds = [d] ∧ ((∃ c : CodeD, d = c.d ∧ c.ok ∧ o = .val (.str (codeT c))) ∨ ∃ o', R_rc2 [d] o' ∧ (∀ u, o' ≠ .val u) ∧ o = o')
theorem F_format_code (T : Tx K mg) : Fd P w K mg base (L2N.CX P w) 7 "format_code" (XSpN K R_fco) [] := by
  obtain ⟨fd, F⟩ := T.f_format_code
  refine ⟨_, fd, ["code"], [], T.g_format_code, F.kp, F.bindsN fun _ _ _ _ _ _ us hl => match us, hl with | [_], _ => rfl, .nil, ?_⟩
  refine fnG_of F sc_format_code (fun vs H Q E h => XSpN.len (n := 1) (by rintro _ _ ⟨d, rfl, _⟩; rfl) h) (fun cdv A outer s H vs Q E hg hr h => ?_)
  obtain ⟨G, M, ds, o, hA, hR, ⟨d, rfl, hd⟩, q⟩ := h
  obtain ⟨v0, _, rfl, r0, rfl⟩ := hR
  refine ⟨_, (pss_cons (ps_expr (pe_fd (F_require_code (P := P) (w := w) (base := base) T) hg (hr.mono (by decide)) (L2N.passes_call (L2N.takes_of rfl rfl rfl rfl) fun _ _ _ _ h => h) (pa_cons (pv 0) pa_nil)))
    (pss_cons (ps_asg (pv 0) (pg_tup (by rfl) (pgs_cons (pg_name (i := 1) sc_format_code.nd rfl (by first | exact Or.inl rfl | exact Or.inr rfl)) (pgs_cons (pg_name (i := 2) sc_format_code.nd rfl (by first | exact Or.inl rfl | exact Or.inr rfl)) (pgs_cons (pg_name (i := 3) sc_format_code.nd rfl (by first | exact Or.inl rfl | exact Or.inr rfl)) (pgs_cons (pg_name (i := 4) sc_format_code.nd rfl (by first | exact Or.inl rfl | exact Or.inr rfl)) pgs_nil))))))
    (pss_cons (ps_set (i := 5) sc_format_code.nd rfl (by first | exact Or.inl rfl | exact Or.inr rfl) (pe_lst (pa_cons (pe_fd (F_line_of (P := P) (w := w) (base := base) T) hg (hr.mono (by decide)) pass0 (pa_cons pe_str (pa_cons (pv 1) pa_nil))) (StX.pa_star (pe_lc (own := [("name", 6)]) (g := gName 6) (by rfl) sc_format_code.nd (pi_list (pe_callB (call_sortedD' rfl) (by rfl) T.n_sorted (by decide +kernel) (pa_cons (pv 2) pa_nil))) (blkOk_by (own := [("name", 6)]) (N := ["code", "start", "characters", "between", "stop", "lines", "name"]) (sc := defScope s_format_code) (by decide +kernel)) (fun _ _ _ _ _ => (pg_name (i := 6) sc_format_code.nd rfl (by first | exact Or.inl rfl | exact Or.inr rfl))) (fun _ _ _ _ _ => pts_nil) (fun _ _ _ _ _ => (pe_fd (F_line_of (P := P) (w := w) (base := base) T) hg (hr.mono (by decide)) pass0 (pa_cons (pv 6) (pa_cons (pe_dget (hu_of hr) (pv 2) (pv 6) (fun _ _ => rfl)) pa_nil))))) pa_nil))))
    (pss_cons (ps_if (pt_cmpR (op_neR hr.units) (pv 3) (pe_tup pa_nil) (nomark _)) (pss_one (ps_expr (pe_bm PySem.F.plainAttrs_list PySem.F.slot_list_append PySem.F.type_list_append mt_append (pv 5) (pa_cons (pe_fd (F_line_of (P := P) (w := w) (base := base) T) hg (hr.mono (by decide)) pass0 (pa_cons pe_str (pa_cons (pv 3) pa_nil))) pa_nil)))) pss_nil)
    (pss_one (ps_ret (pe_join pe_str (pe_lst (StX.pa_star (pv 5) (pa_cons (pe_fd (F_line_of (P := P) (w := w) (base := base) T) hg (hr.mono (by decide)) pass0 (pa_cons pe_str (pa_cons (pv 4) pa_nil))) pa_nil)))))))))), ?_⟩
  rw [show L2.start ["code", "start", "characters", "between", "stop", "lines", "name"] [v0] = [some v0, none, none, none, none, none, none] from rfl]
  dsimp only [xK2]
  rcases hd with ⟨c, rfl, ok, rfl⟩ | ⟨o', ho, hn, rfl⟩
  rotate_left
  · exact w_raise (a_cons (d_var rfl r0) a_nil) ho hn hA fun Q' => ok_any hn q
  have hcl := ok.cs.l2
  have hck : (chD c.cs).length = c.cs.length := by simp [chD]
  refine q_drop (n_call (R := R_rc2) (a_cons (d_var rfl r0) a_nil) ⟨_, rfl, .inl ⟨fc_ok ok, rfl⟩⟩) hA fun G1 H1 e1 A1 => ?_
  refine q_unpack (d_var rfl (r0.up e1)) rfl A1 ?_
  rintro _ G2 H2 e2 A2 ⟨v1, _, rfl, r1, v2, _, rfl, r2, v3, _, rfl, r3, v4, _, rfl, r4, rfl⟩
  refine ⟨v1, _, rfl, v2, _, rfl, v3, _, rfl, v4, _, rfl, rfl, ?_⟩
  refine q_newL (K := K) (ds := dStrs (lineT "start" c.st :: (nmsT c).map (fun x => lineT x (wsOf c.cs x)))) ?_ ?_ A2 fun p xs G3 H3 e3 pM pG A3 rx => ?_
  · have hl : TrA K (tCons (tCall (PSp K R_line_of) [] E0 (tCons (tC (.str "start")) (tCons (tVar 1) tNil))) (StX.tStar K (tLc (iList K (tCB rSortD (tCons (tVar 2) tNil))) (gName 6) tYes (tCall (PSp K R_line_of) [] E0 (tCons (tVar 6) (tCons (tDGet (tVar 2) (tVar 6)) tNil))) [6]) tNil))
        [some v0, some v1, some v2, some v3, some v4, none, none] G2 (.str (lineT "start" c.st) :: (((dStrs (srt ((chD c.cs).map (·.1)))).filter (fun _ => true)).map (lineD c) ++ [])) := by
      refine a_cons (d_call0 (a_cons d_str (a_cons (d_var rfl r1) a_nil)) ⟨"start", c.st, rfl, by decide, ok.st.le (by decide) (Nat.le_refl 6), rfl⟩) (a_star (d_lcL (d_cb (a_cons (d_var rfl r2) a_nil) (rc_sortD (by omega))) ?_ (fun _ _ _ _ _ _ => b_yes) fun d hd _ x G4 e4 rx => ?_) a_nil)
      · unfold dStrs
        rw [List.length_map, (srt_perm _).length_eq, List.length_map]
        omega
      · obtain ⟨nm, hnm, rfl⟩ := mem_strs hd
        have hm := (srt_perm _).mem_iff.mp hnm
        rw [chD_keys] at hm
        have z := wsOf_of ok hm
        exact d_call0 (a_cons (d_var rfl rx) (a_cons (d_dget (d_var rfl (r2.up e4)) (d_var rfl rx) z.2.2) a_nil)) ⟨nm, wsOf c.cs nm, rfl, by rw [name_len z.1]; decide, z.2.1.le (by decide) (Nat.le_refl 6), rfl⟩
    have e : (.str (lineT "start" c.st) :: (((dStrs (srt ((chD c.cs).map (·.1)))).filter (fun _ => true)).map (lineD c) ++ []) : List PyData) = dStrs (lineT "start" c.st :: (nmsT c).map (fun x => lineT x (wsOf c.cs x))) := by
      rw [filt_true, List.append_nil, chD_keys]
      unfold dStrs nmsT
      rw [List.map_cons, List.map_map, List.map_map]
      rfl
    rw [← e]
    exact hl
  · unfold dStrs
    rw [List.length_map, List.length_cons, List.length_map, nmsT_len]
    omega
  -- the last line, and all joined
  have rest : ∀ (G4 H4 : Hp) (xs : List V) (ls : List Str), Ex G3 G4 → At G4 (upd M p (.lst xs)) H4 → RpL K G4 (dStrs ls) xs → ls ++ [lineT "stop" c.sp] = linesT c →
      tRet (tM1 (fun x xs H Q => ∃ a p, ∃ ys : List Str, x = .str a ∧ xs = [.ref p] ∧ (SqL K H p (ys.map V.str) ∨ SqT K H p (ys.map V.str)) ∧ (ys.map (·.length)).sum + ys.length * a.length ≤ 16777216 ∧ Q (.str (Txt.join a ys)) H) (tC (.str "\n"))
        (tLst (StX.tStar K (tVar 5) (tCons (tCall (PSp K R_line_of) [] E0 (tCons (tC (.str "stop")) (tCons (tVar 4) tNil))) tNil)))) { nx := fun _ H' => Q .non H', rt := Q } [some v0, some v1, some v2, some v3, some v4, some (.ref p), none] H4 := by
    intro G4 H4 xs ls e4 A4 rx hls
    obtain ⟨G5, e5, A5, r5⟩ := A4.done pM rx
    refine s_ret (d_join d_str (TrD.to (d_lst (a_star (d_var rfl r5) (a_cons (d_call0 (a_cons d_str (a_cons (d_var rfl (r4.up ((e3.trans e4).trans e5))) a_nil)) ⟨"stop", c.sp, rfl, by decide, ok.sp.le (by decide) (Nat.le_refl 6), rfl⟩) a_nil)) ?_) (d2 := .list (dStrs (linesT c))) ?_) (Nat.le_trans (codeT_sum ok) (by decide))) A5 (q.mono ((((e1.trans e2).trans e3).trans e4).trans e5))
    · have z := linesT_len ok
      rw [← hls, List.length_append, List.length_singleton] at z
      rw [List.length_append, List.length_singleton]
      unfold dStrs
      rw [List.length_map]
      omega
    · rw [← hls]
      unfold dStrs
      rw [List.map_append]
      rfl
  have hbt : TrB (tTest (tOp (rNeR K) (tVar 3) (tTup tNil))) [some v0, some v1, some v2, some v3, some v4, some (.ref p), none] G3 (!(dInts c.bt).isEmpty) :=
    TrB.to (b_T (d_op (d_var rfl (r3.up e3)) (d_tup a_nil) (rd_neR (shaped_ints _) rfl))) (by rw [eqv_nilT])
  refine s_seq (s_if hbt A3 (fun hb G4 H4 e4 A4 => ?_) (fun hb G4 H4 e4 A4 => ?_))
  · have hb' : c.bt ≠ [] := fun z => by rw [z] at hb; cases hb
    refine s_append rfl upd_same (d_call0 (a_cons d_str (a_cons (d_var rfl (r3.up (e3.trans e4))) a_nil)) ⟨"between", c.bt, rfl, by decide, ok.bt.le (by decide) (by decide : 2 ≤ 6), rfl⟩) ?_ A4 fun v G5 H5 e5 A5 r5 => ?_
    · have z := rx.len
      unfold dStrs at z
      rw [z, List.length_map, List.length_cons, List.length_map, nmsT_len]
      omega
    · rw [upd_upd] at A5
      refine rest G5 H5 _ ((lineT "start" c.st :: (nmsT c).map (fun x => lineT x (wsOf c.cs x))) ++ [lineT "between" c.bt]) (e4.trans e5) A5 ?_ ?_
      · unfold dStrs at rx ⊢
        rw [List.map_append]
        exact (rx.up (e4.trans e5)).snoc r5
      · unfold linesT
        rw [if_neg hb', List.append_assoc, List.cons_append]
  · have hb' : c.bt = [] := by
      cases z : c.bt with
      | nil => rfl
      | cons n ns => rw [z] at hb; cases hb
    refine rest G4 H4 xs _ e4 A4 (rx.up e4) ?_
    unfold linesT
    rw [if_pos hb', List.nil_append, List.cons_append]
def R_bars2 : List PyData → OutN → Prop := fun ds o => ∃ d t', ds = [d, t'] ∧ ((∃ c : CodeD, d = c.d ∧ c.ok ∧ (∀ u, t' = .str u → u.cps.size ≤ 1000) ∧ ((∃ t, isTextD c (.str t) = true ∧ t' = .str t ∧ o = .val (.str (barsT c t))) ∨ (isTextD c t' = false ∧ o = .ex0 "InvalidText"))) ∨ ∃ o', R_rc2 [d] o' ∧ (∀ u, o' ≠ .val u) ∧ o = o')
theorem F_bars (T : Tx K mg) : Fd P w K mg base (L2N.CX P w) 7 "bars" (XSpN K R_bars2) [] := by
  obtain ⟨fd, F⟩ := T.f_bars
  refine ⟨_, fd, ["code", "text"], [], T.g_bars, F.kp, F.bindsN fun _ _ _ _ _ _ us hl => match us, hl with | [_, _], _ => rfl, .nil, ?_⟩
  refine fnG_of F sc_bars (fun vs H Q E h => XSpN.len (n := 2) (by rintro _ _ ⟨d, e, rfl, _⟩; rfl) h) (fun cdv A outer s H vs Q E hg hr h => ?_)
  obtain ⟨G, M, ds, o, hA, hR, ⟨d, t', rfl, hd⟩, q⟩ := h
  obtain ⟨v0, _, rfl, r0, v1, _, rfl, r1, rfl⟩ := hR
  refine ⟨_, (pss_cons (ps_expr (pe_fd (F_require_code (P := P) (w := w) (base := base) T) hg (hr.mono (by decide)) (L2N.passes_call (L2N.takes_of rfl rfl rfl rfl) fun _ _ _ _ h => h) (pa_cons (pv 0) pa_nil)))
    (pss_cons (ps_expr (pe_fd (F_require_text (P := P) (w := w) (base := base) T) hg (hr.mono (by decide)) (L2N.passes_call (L2N.takes_of rfl rfl rfl rfl) fun _ _ _ _ h => h) (pa_cons (pv 0) (pa_cons (pv 1) pa_nil))))
    (pss_one (ps_ret (pe_join pe_str (pe_lc (own := [("place", 2), ("width", 3)]) (g := gTup K 2 (gCons (gName 2) (gCons (gName 3) gNil))) (by rfl) sc_bars.nd (pi_enum (by rfl) T.n_enumerate (pa_cons (pe_fd (F_row_by (P := P) (w := w) (base := base) T) hg (hr.mono (by decide)) pass0 (pa_cons (pv 0) (pa_cons (pv 1) pa_nil))) pa_nil)) (blkOk_by (own := [("place", 2), ("width", 3)]) (N := ["code", "text", "place", "width"]) (sc := defScope s_bars) (by decide +kernel)) (fun _ _ _ _ _ => (pg_tup (by rfl) (pgs_cons (pg_name (i := 2) sc_bars.nd rfl (by first | exact Or.inl rfl | exact Or.inr rfl)) (pgs_cons (pg_name (i := 3) sc_bars.nd rfl (by first | exact Or.inl rfl | exact Or.inr rfl)) pgs_nil)))) (fun _ _ _ _ _ => pts_nil) (fun _ _ _ _ _ => (pe_op op_mulS (pe_ifExp (pt_cmpR op_eq (pe_op op_mod (pv 2) pe_int) pe_int (nomark _)) pe_str pe_str) (pv 3))))))))), ?_⟩
  rw [show L2.start ["code", "text", "place", "width"] [v0, v1] = [some v0, some v1, none, none] from rfl]
  dsimp only [xK2]
  rcases hd with ⟨c, rfl, ok, hz', hd⟩ | ⟨o', ho, hn, rfl⟩
  rotate_left
  · exact w_raise (a_cons (d_var rfl r0) a_nil) ho hn hA fun Q' => ok_any hn q
  refine q_drop (n_call (R := R_rc2) (a_cons (d_var rfl r0) a_nil) ⟨_, rfl, .inl ⟨fc_ok ok, rfl⟩⟩) hA fun G1 H1 e1 A1 => ?_
  have hz2 : ∀ u, t' = .str u → u.cps.size ≤ 10000 := fun u hu => Nat.le_trans (hz' u hu) (by decide)
  rcases hd with ⟨t, ht, rfl, rfl⟩ | ⟨ht, rfl⟩
  rotate_left
  · exact w_raise (R := R_rt2) (o := .ex0 "InvalidText") (a_cons (d_var rfl (r0.up e1)) (a_cons (d_var rfl (r1.up e1)) a_nil)) ⟨c, t', rfl, hz2, by rw [ht]; rfl⟩ (fun _ z => by cases z) A1 fun Q' => ok_any (fun _ z => by cases z) (OutN.ok.mono e1 q)
  have hz := hz' t rfl
  have hrl := rowL_len ok ht hz
  have hro := rowL_ok ok ht
  refine q_drop (n_call (R := R_rt2) (a_cons (d_var rfl (r0.up e1)) (a_cons (d_var rfl (r1.up e1)) a_nil)) ⟨c, .str t, rfl, hz2, by rw [ht]; rfl⟩) A1 fun G2 H2 e2 A2 => ?_
  have r0' := r0.up (e1.trans e2)
  have r1' := r1.up (e1.trans e2)
  refine s_ret (TrD.to (d_join (ys := piecesL (rowL c t)) d_str (TrD.to (d_lcE (p := fun _ _ => true) (f := pieceD) (by decide) (d_call0 (a_cons (d_var rfl r0') (a_cons (d_var rfl r1') a_nil)) ⟨c, t, rfl, ok, hz, ht, rfl⟩) (by rw [dInts_len]; omega) rfl (fun _ _ _ _ _ _ _ => b_yes) fun k d hk _ x G3 e3 rx => ?_) ?_) ?_) (by rw [join_cat]; rfl)) A2 (q.mono (e1.trans e2))
  · obtain ⟨n, hn, rfl⟩ := mem_ints (List.mem_of_getElem? hk)
    have hp := piece_ok (hro n hn) k
    have hif : TrD K (tIf (tTest (tOp rEq (tOp (rI (fun x j => 0 < j) fun i j => V.int (i % j)) (tVar 2) (tC (V.int 2))) (tC (V.int 0)))) (tC (V.str (Str.ofString "|"))) (tC (V.str (Str.ofString ".")))) [some v0, some v1, some (.int k), some x] G3 (.str (if k % 2 = 0 then "|" else ".")) := by
      refine d_if (b_T (d_op (d_op (d_var (K := K) (i := 2) rfl (d := .int k) rfl) d_int (rd_mod (by decide))) d_int rd_eqI)) (fun h => TrD.to d_str ?_) fun h => TrD.to d_str ?_
      · have : k % 2 = 0 := by have := of_decide_eq_true h; omega
        rw [if_pos this]
      · have : ¬ k % 2 = 0 := by have := of_decide_eq_false h; omega
        rw [if_neg this]
    exact d_op hif (d_var rfl rx) (rd_mulS hp.1)
  · rw [filt_true]
    unfold piecesL dStrs dInts
    rw [List.map_map, List.zipIdx_map, List.map_map]
    rfl
  · have h1 := sum_len (pieces_each hro)
    have h2 : ("" : Str).length = 0 := rfl
    rw [pieces_len] at h1
    rw [h2, Nat.mul_zero, Nat.add_zero]
    refine Nat.le_trans h1 ?_
    have : (rowL c t).length * 4 ≤ 8014 * 4 := Nat.mul_le_mul_right _ hrl
    omega
def R_fs2 : List PyData → OutN → Prop := fun ds o => ∃ d, ds = [d] ∧ ((∃ ns, d = .list (dInts ns) ∧ okScan ns ∧ ((ns.map strI).map (·.length)).sum ≤ 1000000 ∧ o = .val (.str (Txt.join " " (ns.map strI)))) ∨ ∃ o', R_rs2 [d] o' ∧ (∀ u, o' ≠ .val u) ∧ o = o')
theorem F_format_scan (T : Tx K mg) : Fd P w K mg base (L2N.CX P w) 4 "format_scan" (XSpN K R_fs2) [] := by
  obtain ⟨fd, F⟩ := T.f_format_scan
  refine ⟨_, fd, ["scan"], [], T.g_format_scan, F.kp, F.bindsN fun _ _ _ _ _ _ us hl => match us, hl with | [_], _ => rfl, .nil, ?_⟩
  refine fnG_of F sc_format_scan (fun vs H Q E h => XSpN.len (n := 1) (by rintro _ _ ⟨d, rfl, _⟩; rfl) h) (fun cdv A outer s H vs Q E hg hr h => ?_)
  obtain ⟨G, M, ds, o, hA, hR, ⟨d, rfl, hd⟩, q⟩ := h
  obtain ⟨v0, _, rfl, r0, rfl⟩ := hR
  refine ⟨_, (pss_cons (ps_expr (pe_fd (F_require_scan (P := P) (w := w) (base := base) T) hg (hr.mono (by decide)) (L2N.passes_call (L2N.takes_of rfl rfl rfl rfl) fun _ _ _ _ h => h) (pa_cons (pv 0) pa_nil)))
    (pss_one (ps_ret (pe_join pe_str (pe_lc (own := [("duration", 1)]) (g := gName 1) (by rfl) sc_format_scan.nd (pi_list (pv 0)) (blkOk_by (own := [("duration", 1)]) (N := ["scan", "duration"]) (sc := defScope s_format_scan) (by decide +kernel)) (fun _ _ _ _ _ => (pg_name (i := 1) sc_format_scan.nd rfl (by first | exact Or.inl rfl | exact Or.inr rfl))) (fun _ _ _ _ _ => pts_nil) (fun _ _ _ _ _ => (pe_callTy call_strI (by rfl) T.n_str (by decide +kernel) (pa_cons (pv 1) pa_nil)))))))), ?_⟩
  rw [show L2.start ["scan", "duration"] [v0] = [some v0, none] from rfl]
  dsimp only [xK2]
  rcases hd with ⟨ns, rfl, ok, hs, rfl⟩ | ⟨o', ho, hn, rfl⟩
  rotate_left
  · exact w_raise (a_cons (d_var rfl r0) a_nil) ho hn hA fun Q' => ok_any hn q
  have hn := ok.2.1
  refine q_drop (n_call (R := R_rs2) (a_cons (d_var rfl r0) a_nil) ⟨_, rfl, fun xs hx => by cases hx; rw [dInts_len]; have := ok.2.1; omega, by rw [fScan_ok ok]⟩) hA fun G1 H1 e1 A1 => ?_
  refine s_ret (d_join (ys := ns.map strI) d_str (TrD.to (d_lcL (p := fun _ => true) (f := strD) (d_var rfl (r0.up e1)) (by rw [dInts_len]; omega) (fun _ _ _ _ _ _ => b_yes) fun d hd _ x G2 e2 rx => ?_) ?_) ?_) A1 (q.mono e1)
  · obtain ⟨n, hn, rfl⟩ := mem_ints hd
    have z := (ok.2.2 n hn).2
    exact d_cb (a_cons (d_var rfl rx) a_nil) (rc_strI (by omega))
  · rw [filt_true]
    unfold dInts dStrs
    rw [List.map_map, List.map_map]
    rfl
  · have h1 : (" " : Str).length = 1 := rfl
    rw [h1, List.length_map]
    omega
end
end K99

namespace K99
open PySem PySem.Spec PyProof.Rows L2 L2H Sb
local macro_rules | `(tactic| walk_at "ex") => `(tactic| first | exact Ex.refl _ | assumption | (refine' Ex.trans ?_ (by assumption); walk_at "ex"))
local macro_rules | `(tactic| walk_at "rp") => `(tactic| first | assumption | (refine' Rp.up ?e (by assumption); (case e => walk_at "ex")) | exact rfl)
local macro_rules | `(tactic| walk_at "rd") => `(tactic| with_reducible first | exact rd_add | exact rd_sub | exact rd_lt | exact rd_le | exact rd_gt | exact rd_ge | exact rd_eqI | exact rd_neI | exact rd_eqS | exact rd_neS | exact rd_isN | exact rd_ltS | exact rd_inSign | exact rd_eqE)
local macro_rules | `(tactic| walk_at "tr") => `(tactic| first
  | with_reducible exact d_int
  | with_reducible exact d_str
  | with_reducible exact d_bl
  | with_reducible exact d_non
  | with_reducible exact a_nil
  | with_reducible exact b_yes
  | with_reducible exact o_none
  | with_reducible exact d_newD
  | ((with_reducible refine' d_var ?i ?r); (case i => rfl); (case r => walk_at "rp"))
  | ((with_reducible refine' a_cons ?a ?b); (case a => walk_at "tr"); (case b => walk_at "tr"))
  | ((with_reducible refine' a_star ?a ?b); (case a => walk_at "tr"); (case b => walk_at "tr"))
  | ((with_reducible refine' d_isi ?a ?b); (case a => walk_at "tr"); (case b => decide))
  | ((with_reducible refine' d_op ?a ?b ?c); (case a => walk_at "tr"); (case b => walk_at "tr"); (case c => walk_at "rd"))
  | ((with_reducible refine' d_tup ?a ?b); (case a => walk_at "tr"); (case b => first | decide | (simp; done)))
  | ((with_reducible refine' d_lst ?a ?b); (case a => walk_at "tr"); (case b => first | decide | (simp; done)))
  | ((with_reducible refine' o_some ?a); (case a => walk_at "tr"))
  | ((with_reducible refine' b_B ?a); (case a => walk_at "tr"))
  | ((with_reducible refine' b_T ?a); (case a => walk_at "tr"))
  | ((with_reducible refine' b_not ?a); (case a => walk_at "tr"))
  | ((with_reducible refine' v_not ?a); (case a => walk_at "tr"))
  | ((with_reducible refine' b_or ?a ?b); (case a => walk_at "tr"); (case b => intro _; walk_at "tr"))
  | ((with_reducible refine' b_and ?a ?b); (case a => walk_at "tr"); (case b => intro _; walk_at "tr"))
  | ((with_reducible refine' v_or ?a ?b); (case a => walk_at "tr"); (case b => intro _; walk_at "tr"))
  | ((with_reducible refine' v_and ?a ?b); (case a => walk_at "tr"); (case b => intro _; walk_at "tr"))
  | assumption)


/-! ### the class of an exception, as the law asks it -/
def wordsW : List (Str × Str) := [("code", "InvalidCode"), ("scan", "InvalidScan"), ("factor", "InvalidFactor"), ("number", "InvalidNumber"), ("row", "InvalidRow"), ("last", "LastCharacter"), ("large", "TooLarge"), ("text", "InvalidText"), ("name", "InvalidName"), ("widths", "InvalidWidths"), ("syntax", "InvalidSyntax"), ("command", "InvalidCommand"), ("undo", "NothingToUndo")]
def isQ (x : Str) (q : Str × Str) : PyData × PyData := (.str q.1, .bool (decide (x = q.2)))
section
variable {P : Program} {w : World} {K : PySem.W.Frag} {mg : Str → Option Value} {base : Heap}
def ClassRes (K : PySem.W.Frag) (G : Hp) (x : Str) (d : Option Addr) (r : PyData) : Prop :=
  (x = "InvalidCode" ∧ ∃ dd gs v1 v2 p n, d = some dd ∧ G dd = some (.xd gs) ∧ gs.lookup ("part" : Str) = some v1 ∧ gs.lookup ("name" : Str) = some v2 ∧ Rp K G p v1 ∧ Rp K G n v2 ∧ r = .list [.str "code", p, n]) ∨
  (x = "InvalidText" ∧ d = none ∧ r = .list [.str "text"]) ∨
  (x = "InvalidScan" ∧ ∃ dd gs v1 p, d = some dd ∧ G dd = some (.xd gs) ∧ gs.lookup ("index" : Str) = some v1 ∧ Rp K G p v1 ∧ r = .list [.str "scan", p])
def spClass (K : PySem.W.Frag) : SpE := fun a cls d vs H Q _ => vs = [.ref a] ∧ ∃ (G M : Hp) (x : Str) (r : PyData), At G M H ∧ cls = .ref (He.ga K x) ∧ ExcC K (He.ga K x) ∧ kitB1 K x kitL = true ∧ ClassRes K G x d r ∧ Res K G M r Q
theorem F__law_class (T : Tx K mg) : FdE P w K mg base 1 "_law_class" (spClass K) := by
  obtain ⟨fd, F⟩ := T.f__law_class
  refine ⟨_, fd, ["e"], T.g__law_class, F.kp, F.bindsN fun _ _ _ _ _ _ us hl => match us, hl with | [_], _ => rfl, ?_⟩
  refine fnE_of F sc__law_class (fun a cls d vs H Q E h => by rw [h.1]; rfl) (fun cdv A outer s H vs Q E p cls d hot h => ?_)
  obtain ⟨a, oe⟩ := p
  obtain ⟨rfl, G, M, x, r, hA, rfl, hC, hk, hx, q⟩ := h
  have hz := hot.2
  have hf : ∃ vs, oe.data = .fields vs := let ⟨vs, h1, _⟩ := hot.1.2; ⟨vs, h1⟩
  refine ⟨_, PSs.nox (pss_cons (ps_set (i := 1) sc__law_class.nd rfl (by first | exact Or.inl rfl | exact Or.inr rfl) (pe_lst (pa_cons (pe_tup (pa_cons pe_str (pa_cons (pe_callB (call_isD hC List.mem_cons_self hz hf) (by rfl) T.n_isinstance (by decide +kernel) (pa_cons (pv 0) (pa_cons (pe_glob (v := .ref (He.ga K "InvalidCode")) (by rfl) T.gc_InvalidCode rfl) pa_nil))) pa_nil))) (pa_cons (pe_tup (pa_cons pe_str (pa_cons (pe_callB (call_isD hC List.mem_cons_self hz hf) (by rfl) T.n_isinstance (by decide +kernel) (pa_cons (pv 0) (pa_cons (pe_glob (v := .ref (He.ga K "InvalidScan")) (by rfl) T.gc_InvalidScan rfl) pa_nil))) pa_nil))) pa_nil))))
    (pss_cons (ps_set (i := 1) sc__law_class.nd rfl (by first | exact Or.inl rfl | exact Or.inr rfl) (pe_op op_cat (pv 1) (pe_lst (pa_cons (pe_tup (pa_cons pe_str (pa_cons (pe_callB (call_isD hC List.mem_cons_self hz hf) (by rfl) T.n_isinstance (by decide +kernel) (pa_cons (pv 0) (pa_cons (pe_glob (v := .ref (He.ga K "InvalidFactor")) (by rfl) T.gc_InvalidFactor rfl) pa_nil))) pa_nil))) (pa_cons (pe_tup (pa_cons pe_str (pa_cons (pe_callB (call_isD hC List.mem_cons_self hz hf) (by rfl) T.n_isinstance (by decide +kernel) (pa_cons (pv 0) (pa_cons (pe_glob (v := .ref (He.ga K "InvalidNumber")) (by rfl) T.gc_InvalidNumber rfl) pa_nil))) pa_nil))) pa_nil)))))
    (pss_cons (ps_set (i := 1) sc__law_class.nd rfl (by first | exact Or.inl rfl | exact Or.inr rfl) (pe_op op_cat (pv 1) (pe_lst (pa_cons (pe_tup (pa_cons pe_str (pa_cons (pe_callB (call_isD hC List.mem_cons_self hz hf) (by rfl) T.n_isinstance (by decide +kernel) (pa_cons (pv 0) (pa_cons (pe_glob (v := .ref (He.ga K "InvalidRow")) (by rfl) T.gc_InvalidRow rfl) pa_nil))) pa_nil))) (pa_cons (pe_tup (pa_cons pe_str (pa_cons (pe_callB (call_isD hC List.mem_cons_self hz hf) (by rfl) T.n_isinstance (by decide +kernel) (pa_cons (pv 0) (pa_cons (pe_glob (v := .ref (He.ga K "LastCharacter")) (by rfl) T.gc_LastCharacter rfl) pa_nil))) pa_nil))) pa_nil)))))
    (pss_cons (ps_set (i := 1) sc__law_class.nd rfl (by first | exact Or.inl rfl | exact Or.inr rfl) (pe_op op_cat (pv 1) (pe_lst (pa_cons (pe_tup (pa_cons pe_str (pa_cons (pe_callB (call_isD hC List.mem_cons_self hz hf) (by rfl) T.n_isinstance (by decide +kernel) (pa_cons (pv 0) (pa_cons (pe_glob (v := .ref (He.ga K "TooLarge")) (by rfl) T.gc_TooLarge rfl) pa_nil))) pa_nil))) (pa_cons (pe_tup (pa_cons pe_str (pa_cons (pe_callB (call_isD hC List.mem_cons_self hz hf) (by rfl) T.n_isinstance (by decide +kernel) (pa_cons (pv 0) (pa_cons (pe_glob (v := .ref (He.ga K "InvalidText")) (by rfl) T.gc_InvalidText rfl) pa_nil))) pa_nil))) pa_nil)))))
    (pss_cons (ps_set (i := 1) sc__law_class.nd rfl (by first | exact Or.inl rfl | exact Or.inr rfl) (pe_op op_cat (pv 1) (pe_lst (pa_cons (pe_tup (pa_cons pe_str (pa_cons (pe_callB (call_isD hC List.mem_cons_self hz hf) (by rfl) T.n_isinstance (by decide +kernel) (pa_cons (pv 0) (pa_cons (pe_glob (v := .ref (He.ga K "InvalidName")) (by rfl) T.gc_InvalidName rfl) pa_nil))) pa_nil))) (pa_cons (pe_tup (pa_cons pe_str (pa_cons (pe_callB (call_isD hC List.mem_cons_self hz hf) (by rfl) T.n_isinstance (by decide +kernel) (pa_cons (pv 0) (pa_cons (pe_glob (v := .ref (He.ga K "InvalidWidths")) (by rfl) T.gc_InvalidWidths rfl) pa_nil))) pa_nil))) pa_nil)))))
    (pss_cons (ps_set (i := 1) sc__law_class.nd rfl (by first | exact Or.inl rfl | exact Or.inr rfl) (pe_op op_cat (pv 1) (pe_lst (pa_cons (pe_tup (pa_cons pe_str (pa_cons (pe_callB (call_isD hC List.mem_cons_self hz hf) (by rfl) T.n_isinstance (by decide +kernel) (pa_cons (pv 0) (pa_cons (pe_glob (v := .ref (He.ga K "InvalidSyntax")) (by rfl) T.gc_InvalidSyntax rfl) pa_nil))) pa_nil))) (pa_cons (pe_tup (pa_cons pe_str (pa_cons (pe_callB (call_isD hC List.mem_cons_self hz hf) (by rfl) T.n_isinstance (by decide +kernel) (pa_cons (pv 0) (pa_cons (pe_glob (v := .ref (He.ga K "InvalidCommand")) (by rfl) T.gc_InvalidCommand rfl) pa_nil))) pa_nil))) pa_nil)))))
    (pss_cons (ps_setLcH (p := (a, oe)) (i := 2) (own := [("word", 3), ("is_one", 4)]) (g := gTup K 2 (gCons (gName 3) (gCons (gName 4) gNil))) hot.1 List.mem_cons_self sc__law_class.nd rfl rfl (sw_true rfl rfl rfl (by decide +kernel)) (pi_listH (pe_op op_cat (pv 1) (pe_lst (pa_cons (pe_tup (pa_cons pe_str (pa_cons (pe_callB (call_isD hC List.mem_cons_self hz hf) (by rfl) T.n_isinstance (by decide +kernel) (pa_cons (pv 0) (pa_cons (pe_glob (v := .ref (He.ga K "NothingToUndo")) (by rfl) T.gc_NothingToUndo rfl) pa_nil))) pa_nil))) pa_nil)))) (blkOk_by (own := [("word", 3), ("is_one", 4)]) (N := ["e", "some", "found", "word", "is_one"]) (sc := defScope s__law_class) (by decide +kernel)) (fun _ _ _ _ _ => (pg_tupH ⟨_, hot.1, List.mem_cons_self⟩ (pgs_cons (pg_name (i := 3) sc__law_class.nd rfl (by first | exact Or.inl rfl | exact Or.inr rfl)) (pgs_cons (pg_name (i := 4) sc__law_class.nd rfl (by first | exact Or.inl rfl | exact Or.inr rfl)) pgs_nil)))) (fun _ _ _ _ _ => (pts_one (pt_val (pv 4)))) (fun _ _ _ _ _ => (pv 3)))
    (pss_cons (ps_if (PW.pt (pw_or (pt_cmpR op_ne (pe_callB call_len' (by rfl) T.n_len (by decide +kernel) (pa_cons (pv 2) pa_nil)) pe_int (nomark _)) (pw_or1 (pt_not (pt_val (pe_callB (call_isD hC List.mem_cons_self hz hf) (by rfl) T.n_isinstance (by decide +kernel) (pa_cons (pv 0) (pa_cons (pe_bltn (v := .ty "ValueError") (u := .type "ValueError") (by rfl) T.n_ValueError (by decide +kernel) rfl) pa_nil)))))))) (pss_one (ps_ret (pe_lst (pa_cons pe_str pa_nil)))) pss_nil)
    (pss_cons (ps_if (pt_cmpR op_eq (pe_ix ix_list (pv 2) pe_int (fun _ _ => rfl)) pe_str (nomark _)) (pss_one (ps_ret (pe_lst (pa_cons pe_str (pa_cons (pe_xfP T.o_InvalidCode.f T.na_InvalidCode_part List.mem_cons_self hz hf (pv 0)) (pa_cons (pe_xfP T.o_InvalidCode.f T.na_InvalidCode_name List.mem_cons_self hz hf (pv 0)) pa_nil)))))) pss_nil)
    (pss_cons (ps_if (pt_cmpR op_eq (pe_ix ix_list (pv 2) pe_int (fun _ _ => rfl)) pe_str (nomark _)) (pss_one (ps_ret (pe_lst (pa_cons pe_str (pa_cons (pe_xfP T.o_InvalidScan.f T.na_InvalidScan_index List.mem_cons_self hz hf (pv 0)) pa_nil))))) pss_nil)
    (pss_cons (ps_if (pt_cmpR op_eq (pe_ix ix_list (pv 2) pe_int (fun _ _ => rfl)) pe_str (nomark _)) (pss_one (ps_ret (pe_lst (pa_cons pe_str (pa_cons (pe_xfP T.o_TooLarge.f T.na_TooLarge_limit List.mem_cons_self hz hf (pv 0)) pa_nil))))) pss_nil)
    (pss_one (ps_ret (pe_ifExp (pt_cmpR op_eq (pe_ix ix_list (pv 2) pe_int (fun _ _ => rfl)) pe_str (nomark _)) (pe_lst (pa_cons pe_str (pa_cons (pe_xfP T.o_InvalidSyntax.f T.na_InvalidSyntax_line List.mem_cons_self hz hf (pv 0)) (pa_cons (pe_xfP T.o_InvalidSyntax.f T.na_InvalidSyntax_word List.mem_cons_self hz hf (pv 0)) pa_nil)))) (pv 2))))))))))))))), ?_⟩
  rw [show L2.start ["e", "some", "found", "word", "is_one"] [(.ref a)] = [some (.ref a), none, none, none, none] from rfl]
  have xKH : ∀ {N : List Str} {qual : Str} {scope : Scope} {f : Addr} {cd : Value}, (cxH CX0 P w K mg base N qual scope f cd A outer s H E (a, oe)).nox.K = K := rfl
  dsimp only [xKH]
  have hd : DictAt d G := by
    rcases hx with ⟨_, dd, gs, _, _, _, _, h1, h2, _⟩ | ⟨_, h1, _⟩ | ⟨_, dd, gs, _, _, h1, h2, _⟩
    · exact .inr ⟨dd, gs, h1, h2⟩
    · exact .inl h1
    · exact .inr ⟨dd, gs, h1, h2⟩
  have is1 : ∀ {y : Str} {σ : L2.St} {Gx : Hp}, y ∈ kitL → σ[0]? = some (some (.ref a)) → Ex G Gx → TrD K (tCB (rIsD K (He.ga K x) a d) (tCons (tVar 0) (tCons (tC (.ref (He.ga K y))) tNil))) σ Gx (.bool (decide (x = y))) := fun hy h0 e => d_isD h0 (fun u h => h) (kitB1_ok hk hy) (hd.up e)
  have two : ∀ {wd y : Str} {σ : L2.St} {Gx : Hp}, y ∈ kitL → σ[0]? = some (some (.ref a)) → Ex G Gx → TrD K (tTup (tCons (tC (.str wd)) (tCons (tCB (rIsD K (He.ga K x) a d) (tCons (tVar 0) (tCons (tC (.ref (He.ga K y))) tNil))) tNil))) σ Gx (dPair (isQ x (wd, y))) := fun hy h0 e => d_tup (a_cons d_str (a_cons (is1 hy h0 e) a_nil)) (Nat.le_of_ble_eq_true rfl)
  have mem : ∀ y : Str, (kitL.contains y) = true → y ∈ kitL := fun y h => by simpa using h
  refine q_set (d := .list ((wordsW.take 2).map fun w => dPair (isQ x w))) (d_lst (a_cons (two (mem _ (by decide +kernel)) rfl (Ex.refl _)) (a_cons (two (mem _ (by decide +kernel)) rfl (Ex.refl _)) a_nil)) (Nat.le_of_ble_eq_true rfl)) hA fun v1 G1 H1 e1 A1 r1 => ?_
  refine q_set (d := .list ((wordsW.take 4).map fun w => dPair (isQ x w))) (d_op (d_var rfl r1) (d_lst (a_cons (two (mem _ (by decide +kernel)) rfl e1) (a_cons (two (mem _ (by decide +kernel)) rfl e1) a_nil)) (Nat.le_of_ble_eq_true rfl)) (rd_cat (Nat.le_of_ble_eq_true rfl))) A1 fun v2 G2 H2 e2 A2 r2 => ?_
  have E2 := e1.trans e2
  refine q_set (d := .list ((wordsW.take 6).map fun w => dPair (isQ x w))) (d_op (d_var rfl r2) (d_lst (a_cons (two (mem _ (by decide +kernel)) rfl E2) (a_cons (two (mem _ (by decide +kernel)) rfl E2) a_nil)) (Nat.le_of_ble_eq_true rfl)) (rd_cat (Nat.le_of_ble_eq_true rfl))) A2 fun v3 G3 H3 e3 A3 r3 => ?_
  have E3 := E2.trans e3
  refine q_set (d := .list ((wordsW.take 8).map fun w => dPair (isQ x w))) (d_op (d_var rfl r3) (d_lst (a_cons (two (mem _ (by decide +kernel)) rfl E3) (a_cons (two (mem _ (by decide +kernel)) rfl E3) a_nil)) (Nat.le_of_ble_eq_true rfl)) (rd_cat (Nat.le_of_ble_eq_true rfl))) A3 fun v4 G4 H4 e4 A4 r4 => ?_
  have E4 := E3.trans e4
  refine q_set (d := .list ((wordsW.take 10).map fun w => dPair (isQ x w))) (d_op (d_var rfl r4) (d_lst (a_cons (two (mem _ (by decide +kernel)) rfl E4) (a_cons (two (mem _ (by decide +kernel)) rfl E4) a_nil)) (Nat.le_of_ble_eq_true rfl)) (rd_cat (Nat.le_of_ble_eq_true rfl))) A4 fun v5 G5 H5 e5 A5 r5 => ?_
  have E5 := E4.trans e5
  refine q_set (d := .list ((wordsW.take 12).map fun w => dPair (isQ x w))) (d_op (d_var rfl r5) (d_lst (a_cons (two (mem _ (by decide +kernel)) rfl E5) (a_cons (two (mem _ (by decide +kernel)) rfl E5) a_nil)) (Nat.le_of_ble_eq_true rfl)) (rd_cat (Nat.le_of_ble_eq_true rfl))) A5 fun v6 G6 H6 e6 A6 r6 => ?_
  have E6 := E5.trans e6
  refine q_set (d := .list (((wordsW.map (isQ x)).filter fun q => match q.2 with | .bool b => b | _ => false).map fun q => q.1)) (d_lcP (qs := wordsW.map (isQ x)) (pp := fun q => match q.2 with | .bool b => b | _ => false) (f := fun q => q.1) (by decide) (d_op (d_var rfl r6) (d_lst (a_cons (two (mem _ (by decide +kernel)) rfl E6) a_nil) (Nat.le_of_ble_eq_true rfl)) (rd_cat (Nat.le_of_ble_eq_true rfl))) (Nat.le_of_ble_eq_true rfl) rfl (fun q hq vx vy Gx ex rx ry => ?_) fun q hq _ vx vy Gx ex rx ry => d_var rfl rx) A6 fun v7 G7 H7 e7 A7 r7 => ?_
  · obtain ⟨w, hw, rfl⟩ := List.mem_map.mp hq
    exact b_B (d_var rfl ry)
  have E7 := E6.trans e7
  have ve : ∀ {σ : L2.St} {Gx : Hp}, σ[0]? = some (some (.ref a)) → Ex G Gx → TrD K (tCB (rIsD K (He.ga K x) a d) (tCons (tVar 0) (tCons (tC (.ty "ValueError")) tNil))) σ Gx (.bool true) := fun h0 e => d_isD h0 (fun u h => h) (kitB1_ve hk) (hd.up e)
  have len1 : ∀ {y : PyData} {v : V} {Gx : Hp}, Ex G Gx → Rp K Gx (.list [y]) v → ∀ {z1 z2 z3 : Option V}, TrB (tOr (tTest (tOp rNe (tCB (Sb.rLen K) (tCons (tVar 2) tNil)) (tC (V.int 1)))) (tNot (tB (tCB (rIsD K (He.ga K x) a d) (tCons (tVar 0) (tCons (tC (.ty "ValueError")) tNil)))))) [some (.ref a), z1, some v, z2, z3] Gx false := fun {y v Gx} ex rv {z1 z2 z3} =>
    TrB.to (b_or (b_T (d_op (d_cb (a_cons (d_var (i := 2) rfl rv) a_nil) rc_lenL) d_int rd_neI)) fun _ => b_not (b_B (ve rfl ex))) rfl
  have fst : ∀ {y z : Str} {v : V} {Gx : Hp}, Rp K Gx (.list [.str y]) v → ∀ {z1 z2 z3 : Option V}, TrB (tTest (tOp rEq (tOp (rIxL K) (tVar 2) (tC (V.int 0))) (tC (V.str z)))) [some (.ref a), z1, some v, z2, z3] Gx (decide (y = z)) := fun rv => b_T (d_op (d_op (d_var (i := 2) rfl rv) d_int (rd_ixL rfl)) d_str rd_eqS)
  rcases hx with ⟨rfl, dd, gs, w1, w2, p, n, rfl, hg, hl1, hl2, rp, rn, rfl⟩ | ⟨rfl, rfl, rfl⟩ | ⟨rfl, dd, gs, w1, p, rfl, hg, hl1, rp, rfl⟩
  · rw [show (((wordsW.map (isQ "InvalidCode")).filter fun q => match q.2 with | .bool b => b | _ => false).map fun q => q.1) = [.str "code"] by kernel_rfl] at r7
    refine q_guardF (len1 E7 r7) A7 fun G8 H8 e8 A8 => ?_
    have E8 := E7.trans e8
    refine q_guardR (TrB.to (fst (r7.up e8)) (by decide)) A8 fun G9 H9 e9 A9 => ?_
    have E9 := E8.trans e9
    exact s_ret (d_lst (a_cons d_str (a_cons (d_xf rfl (E9 _ _ hg) hl1 (rp.up E9)) (a_cons (d_xf rfl (E9 _ _ hg) hl2 (rn.up E9)) a_nil))) (Nat.le_of_ble_eq_true rfl)) A9 (q.mono E9)
  · rw [show (((wordsW.map (isQ "InvalidText")).filter fun q => match q.2 with | .bool b => b | _ => false).map fun q => q.1) = [.str "text"] by kernel_rfl] at r7
    refine q_guardF (len1 E7 r7) A7 fun G8 H8 e8 A8 => ?_
    have E8 := E7.trans e8
    refine q_guardF (TrB.to (fst (r7.up e8)) (by decide)) A8 fun G9 H9 e9 A9 => ?_
    refine q_guardF (TrB.to (fst (r7.up (e8.trans e9))) (by decide)) A9 fun G10 H10 e10 A10 => ?_
    refine q_guardF (TrB.to (fst (r7.up ((e8.trans e9).trans e10))) (by decide)) A10 fun G11 H11 e11 A11 => ?_
    have e811 := ((e8.trans e9).trans e10).trans e11
    exact s_ret (d_if (TrB.to (fst (r7.up e811)) (show _ = false by decide)) (fun z => nomatch z) fun _ => d_var rfl (r7.up e811)) A11 (q.mono (E7.trans e811))
  · rw [show (((wordsW.map (isQ "InvalidScan")).filter fun q => match q.2 with | .bool b => b | _ => false).map fun q => q.1) = [.str "scan"] by kernel_rfl] at r7
    refine q_guardF (len1 E7 r7) A7 fun G8 H8 e8 A8 => ?_
    have E8 := E7.trans e8
    refine q_guardF (TrB.to (fst (r7.up e8)) (by decide)) A8 fun G9 H9 e9 A9 => ?_
    refine q_guardR (TrB.to (fst (r7.up (e8.trans e9))) (by decide)) A9 fun G10 H10 e10 A10 => ?_
    have E10 := (E8.trans e9).trans e10
    exact s_ret (d_lst (a_cons d_str (a_cons (d_xf rfl (E10 _ _ hg) hl1 (rp.up E10)) a_nil)) (Nat.le_of_ble_eq_true rfl)) A10 (q.mono E10)
end
end K99

namespace K99
open PySem PySem.Spec PyProof.Rows L2 L2H Sb
local macro_rules | `(tactic| walk_at "ex") => `(tactic| first | exact Ex.refl _ | assumption | (refine' Ex.trans ?_ (by assumption); walk_at "ex"))
local macro_rules | `(tactic| walk_at "rp") => `(tactic| first | assumption | (refine' Rp.up ?e (by assumption); (case e => walk_at "ex")) | exact rfl)
local macro_rules | `(tactic| walk_at "rd") => `(tactic| with_reducible first | exact rd_add | exact rd_sub | exact rd_lt | exact rd_le | exact rd_gt | exact rd_ge | exact rd_eqI | exact rd_neI | exact rd_eqS | exact rd_neS | exact rd_isN | exact rd_ltS | exact rd_inSign | exact rd_eqE)
local macro_rules | `(tactic| walk_at "tr") => `(tactic| first
  | with_reducible exact d_int
  | with_reducible exact d_str
  | with_reducible exact d_bl
  | with_reducible exact d_non
  | with_reducible exact a_nil
  | with_reducible exact b_yes
  | with_reducible exact o_none
  | with_reducible exact d_newD
  | ((with_reducible refine' d_var ?i ?r); (case i => rfl); (case r => walk_at "rp"))
  | ((with_reducible refine' a_cons ?a ?b); (case a => walk_at "tr"); (case b => walk_at "tr"))
  | ((with_reducible refine' a_star ?a ?b); (case a => walk_at "tr"); (case b => walk_at "tr"))
  | ((with_reducible refine' d_isi ?a ?b); (case a => walk_at "tr"); (case b => decide))
  | ((with_reducible refine' d_op ?a ?b ?c); (case a => walk_at "tr"); (case b => walk_at "tr"); (case c => walk_at "rd"))
  | ((with_reducible refine' d_tup ?a ?b); (case a => walk_at "tr"); (case b => first | decide | (simp; done)))
  | ((with_reducible refine' d_lst ?a ?b); (case a => walk_at "tr"); (case b => first | decide | (simp; done)))
  | ((with_reducible refine' o_some ?a); (case a => walk_at "tr"))
  | ((with_reducible refine' b_B ?a); (case a => walk_at "tr"))
  | ((with_reducible refine' b_T ?a); (case a => walk_at "tr"))
  | ((with_reducible refine' b_not ?a); (case a => walk_at "tr"))
  | ((with_reducible refine' v_not ?a); (case a => walk_at "tr"))
  | ((with_reducible refine' b_or ?a ?b); (case a => walk_at "tr"); (case b => intro _; walk_at "tr"))
  | ((with_reducible refine' b_and ?a ?b); (case a => walk_at "tr"); (case b => intro _; walk_at "tr"))
  | ((with_reducible refine' v_or ?a ?b); (case a => walk_at "tr"); (case b => intro _; walk_at "tr"))
  | ((with_reducible refine' v_and ?a ?b); (case a => walk_at "tr"); (case b => intro _; walk_at "tr"))
  | assumption)


/-! ### what a call tells -/
structure okRep (d : PyData) : Prop where
  f : fiX d = true
  s : d.showable = true
  p : d.depth ≤ 50
  w : wX d ≤ 1000000
def toldOf : OutN → PyData
  | .val _ => .list []
  | .ex0 _ => .list [.str "text"]
  | .exc x fs => .list (.str (if x = "InvalidCode" then "code" else "scan") :: fs.map (·.2))
def goodO (o : OutN) : Prop := (∃ u, o = .val u) ∨ (∃ p n, o = .exc "InvalidCode" [("part", p), ("name", n)]) ∨ o = .ex0 "InvalidText" ∨ ∃ i, o = .exc "InvalidScan" [("index", i)]
theorem good_rc {ds : List PyData} {o : OutN} (h : R_rc2 ds o) : goodO o := by
  obtain ⟨d, rfl, ⟨_, rfl⟩ | ⟨p, n, _, _, rfl⟩⟩ := h
  · exact .inl ⟨_, rfl⟩
  · exact .inr (.inl ⟨p, n, rfl⟩)
theorem good_rs {ds : List PyData} {o : OutN} (h : R_rs2 ds o) : goodO o := by
  obtain ⟨d, rfl, _, rfl⟩ := h
  split
  · exact .inl ⟨_, rfl⟩
  · exact .inr (.inr (.inr ⟨_, rfl⟩))
theorem good_fco {ds : List PyData} {o : OutN} (h : R_fco ds o) : goodO o := by
  obtain ⟨d, rfl, ⟨c, _, _, rfl⟩ | ⟨o', h, _, rfl⟩⟩ := h
  · exact .inl ⟨_, rfl⟩
  · exact good_rc h
theorem good_bars {ds : List PyData} {o : OutN} (h : R_bars2 ds o) : goodO o := by
  obtain ⟨d, t, rfl, ⟨c, _, _, _, ⟨t, _, _, rfl⟩ | ⟨_, rfl⟩⟩ | ⟨o', h, _, rfl⟩⟩ := h
  · exact .inl ⟨_, rfl⟩
  · exact .inr (.inr (.inl rfl))
  · exact good_rc h
theorem good_fs {ds : List PyData} {o : OutN} (h : R_fs2 ds o) : goodO o := by
  obtain ⟨d, rfl, ⟨_, _, _, _, rfl⟩ | ⟨o', h, _, rfl⟩⟩ := h
  · exact .inl ⟨_, rfl⟩
  · exact good_rs h
def doorR (door : Int) (one other : PyData) (o : OutN) : Prop := (door = 0 ∧ R_fco [one] o) ∨ (door = 1 ∧ R_bars2 [one, other] o) ∨ (door = 2 ∧ R_fs2 [one] o)
theorem good_door {door : Int} {one other : PyData} {o : OutN} (h : doorR door one other o) : goodO o := by
  rcases h with ⟨_, h⟩ | ⟨_, h⟩ | ⟨_, h⟩
  · exact good_fco h
  · exact good_bars h
  · exact good_fs h
section
variable {P : Program} {w : World} {K : PySem.W.Frag} {mg : Str → Option Value} {base : Heap}
theorem rc_two {a b : PyData} (ha : okRep a) (hb : okRep b) : RC K (rReprX K) [.list [a, b]] (.str (PyData.shown (.list [a, b]))) := by
  refine rc_reprX rfl ?_ ?_ ?_
  · show (PyData.showable a && (PyData.showable b && true)) = true
    rw [ha.s, hb.s]
    rfl
  · show max (PyData.depth a) (max (PyData.depth b) 0) + 1 ≤ 60
    have := ha.p
    have := hb.p
    omega
  · refine Nat.le_trans (shown_leX (.list [a, b]) ?_) ?_
    · show (fiX a && (fiX b && true)) = true
      rw [ha.f, hb.f]
      rfl
    · show 2 + (wX a + 2 + (wX b + 2 + 0)) ≤ sizeLine
      have h7 : (2 * 1000000 + 10 : Nat) ≤ sizeLine := by decide
      have := ha.w
      have := hb.w
      omega
def R_told2 : List PyData → PyData → Prop := fun ds r => ∃ (door : Int) (one other : PyData) (o : OutN), ds = [.int door, one, other] ∧ okRep one ∧ okRep other ∧ doorR door one other o ∧ r = toldOf o
theorem F__law_told (T : Tx K mg) : Fd P w K mg base CX0 8 "_law_told" (PSp K R_told2) [] := by
  obtain ⟨fd, F⟩ := T.f__law_told
  refine ⟨_, fd, ["door", "one", "other"], [], T.g__law_told, F.kp, F.bindsN fun _ _ _ _ _ _ us hl => match us, hl with | [_, _, _], _ => rfl, .nil, ?_⟩
  refine fnG_of F sc__law_told (fun vs H Q E h => PSp.len (n := 3) (by rintro _ _ ⟨d, e, f, g, rfl, _⟩; rfl) h) (fun cdv A outer s H vs Q E hg hr h => ?_)
  obtain ⟨G, M, ds, r, hA, hR, ⟨door, one, other, o, rfl, h1, h2, hdo, rfl⟩, q⟩ := h
  obtain ⟨v0, _, rfl, r0, v1, _, rfl, r1, v2, _, rfl, r2, rfl⟩ := hR
  refine ⟨_, PSs.nox (pss_cons (ps_par (i := 3) (j := 4) (by rfl) sc__law_told.nd rfl rfl (by decide) rfl rfl (pa_cons (pe_callB (call_reprX T.sysd hg hr.units) (by rfl) T.n_repr (by decide +kernel) (pa_cons (pe_lst (pa_cons (pv 1) (pa_cons (pv 2) pa_nil))) pa_nil)) (pa_cons (pe_lst pa_nil) pa_nil)) (by rfl))
    (pss_cons (L2N.ps_try_as (i := 5) rfl rfl sc__law_told.nd rfl rfl ⟨by rfl, by decide, .inl T.gc_ScanError⟩ takesN (fun W pn xe tk po => (pss_one (ps_if (pt_cmpR op_eq (pv 0) pe_int (nomark _)) (pss_one (ps_expr (pe_fdS (F_format_code (P := P) (w := w) (base := base) T) hg (hr.mono (by decide)) (fun σ => L2N.passAt tk σ) (pa_cons (pv 1) pa_nil)))) (pss_one (ps_if (pt_cmpR op_eq (pv 0) pe_int (nomark _)) (pss_one (ps_expr (pe_fdS (F_bars (P := P) (w := w) (base := base) T) hg (hr.mono (by decide)) (fun σ => L2N.passAt tk σ) (pa_cons (pv 1) (pa_cons (pv 2) pa_nil))))) (pss_one (ps_expr (pe_fdS (F_format_scan (P := P) (w := w) (base := base) T) hg (hr.mono (by decide)) (fun σ => L2N.passAt tk σ) (pa_cons (pv 1) pa_nil))))))))) (fun a oe cls d pn hz hf => (pss_one (ps_set (i := 4) sc__law_told.nd rfl (by first | exact Or.inl rfl | exact Or.inr rfl) (pe_fdE (F__law_class (P := P) (w := w) (base := base) T) (roomH_mark (hr.mono (by decide)) _) (hotE_suite hz hf) List.mem_cons_self (pa_cons (pv 5) pa_nil))))))
    (pss_one (ps_ret (pe_ifExp (pt_cmpR op_eq (pe_callB (call_reprX T.sysd hg hr.units) (by rfl) T.n_repr (by decide +kernel) (pa_cons (pe_lst (pa_cons (pv 1) (pa_cons (pv 2) pa_nil))) pa_nil)) (pv 3) (nomark _)) (pv 4) (pe_lst (pa_cons pe_str pa_nil))))))), ?_⟩
  rw [show L2.start ["door", "one", "other", "kept", "told", "e"] [v0, v1, v2] = [some v0, some v1, some v2, none, none, none] from rfl]
  dsimp only [xK]
  have hrep : ∀ {z3 z4 z5 : Option V} {Gx : Hp}, Ex G Gx → TrD K (tCB (rReprX K) (tCons (tLst (tCons (tVar 1) (tCons (tVar 2) tNil))) tNil)) [some v0, some v1, some v2, z3, z4, z5] Gx (.str (PyData.shown (.list [one, other]))) := fun e => d_cb (a_cons (d_lst (a_cons (d_var (i := 1) rfl (r1.up e)) (a_cons (d_var (i := 2) rfl (r2.up e)) a_nil)) (Nat.le_of_ble_eq_true rfl)) a_nil) (rc_two h1 h2)
  refine q_par (d2 := .list []) (hrep (Ex.refl _)) (d_lst a_nil) hA fun v3 v4 G1 H1 e1 A1 r3 r4 => ?_
  have caught : ∀ D0 : Ends, (∀ v G' H', Ex G1 G' → At G' M H' → Rp K G' (toldOf o) v → D0.nx [some v0, some v1, some v2, some v3, some v, none] H') → (∀ u, o ≠ .val u) → ∀ Gx, Ex G1 Gx → ∀ Q' : VK,
      OutN.ok K Gx M Q' (fun cls d H => wAs K (.ref (He.ga K "ScanError")) 5 (fun a cls d => tAsg (tCallE (spClass K) a cls d (tCons (tVar 5) tNil)) (gName 4)) (fun _ _ _ _ => False) D0 cls d [some v0, some v1, some v2, some v3, some v4, none] H) o := by
    intro D0 fin hn Gx ex Q'
    rcases good_door hdo with ⟨u, rfl⟩ | ⟨p, n, rfl⟩ | rfl | ⟨i, rfl⟩
    · exact absurd rfl (hn u)
    · intro dd gs G2 H2 e2 A2 hg2 hf
      refine ⟨true, T.x_InvalidCode_ScanError, fun _ a ha => ?_, fun z => nomatch z⟩
      obtain ⟨vp, hvp, rvp⟩ := hf "part" p (List.mem_cons_self ..)
      obtain ⟨vn, hvn, rvn⟩ := hf "name" n (List.mem_cons_of_mem _ (List.mem_cons_self ..))
      exact ⟨.ref a, rfl, rfl, G2, M, "InvalidCode", _, A2, rfl, T.e_InvalidCode, T.k_InvalidCode, .inl ⟨rfl, dd, gs, vp, vn, p, n, rfl, hg2, hvp, hvn, rvp, rvn, rfl⟩, fun v G3 H3 e3 A3 rv => fin v G3 H3 ((ex.trans e2).trans e3) A3 rv⟩
    · intro G2 H2 e2 A2
      refine ⟨true, T.x_InvalidText_ScanError, fun _ a ha => ?_, fun z => nomatch z⟩
      exact ⟨.ref a, rfl, rfl, G2, M, "InvalidText", _, A2, rfl, T.e_InvalidText, T.k_InvalidText, .inr (.inl ⟨rfl, rfl, rfl⟩), fun v G3 H3 e3 A3 rv => fin v G3 H3 ((ex.trans e2).trans e3) A3 rv⟩
    · intro dd gs G2 H2 e2 A2 hg2 hf
      refine ⟨true, T.x_InvalidScan_ScanError, fun _ a ha => ?_, fun z => nomatch z⟩
      obtain ⟨vp, hvp, rvp⟩ := hf "index" i (List.mem_cons_self ..)
      exact ⟨.ref a, rfl, rfl, G2, M, "InvalidScan", _, A2, rfl, T.e_InvalidScan, T.k_InvalidScan, .inr (.inr ⟨rfl, dd, gs, vp, i, rfl, hg2, hvp, rvp, rfl⟩), fun v G3 H3 e3 A3 rv => fin v G3 H3 ((ex.trans e2).trans e3) A3 rv⟩
  have go : ∀ (R : List PyData → OutN → Prop) (ts : TA) (ds : List PyData) (D0 : Ends) (Gx Hx : Hp), R ds o → Ex G1 Gx → At Gx M Hx → TrA K ts [some v0, some v1, some v2, some v3, some v4, none] Gx ds → (∀ v G' H', Ex G1 G' → At G' M H' → Rp K G' (toldOf o) v → D0.nx [some v0, some v1, some v2, some v3, some v, none] H') →
      tDrop (tCallS (XSpN K R) (WE (wAs K (.ref (He.ga K "ScanError")) 5 (fun a cls d => tAsg (tCallE (spClass K) a cls d (tCons (tVar 5) tNil)) (gName 4)) (fun _ _ _ _ => False) D0)) ts) D0 [some v0, some v1, some v2, some v3, some v4, none] Hx := by
    intro R ts ds D0 Gx Hx hR ex Ax ht fin
    by_cases hv : ∃ u, o = .val u
    · obtain ⟨u, hu⟩ := hv
      rw [hu] at hR
      refine s_drop (n_callS ht hR) Ax fun G3 H3 e3 A3 => ?_
      have z := fin v4 G3 H3 (ex.trans e3) A3
      rw [hu] at z
      exact z (r4.up (ex.trans e3))
    · exact w_raiseS ht hR Ax (caught D0 fin (fun u hu => hv ⟨u, hu⟩) Gx ex)
  refine s_seq ?_
  dsimp only
  have fin : ∀ v G' H', Ex G1 G' → At G' M H' → Rp K G' (toldOf o) v → tRet (tIf (tTest (tOp rEq (tCB (rReprX K) (tCons (tLst (tCons (tVar 1) (tCons (tVar 2) tNil))) tNil)) (tVar 3))) (tVar 4) (tLst (tCons (tC (V.str (Str.ofString "changed"))) tNil))) { nx := fun x H' => Q V.non H', rt := Q } [some v0, some v1, some v2, some v3, some v, none] H' := fun v G' H' e' A' rv =>
    s_ret (d_if (TrB.to (b_T (d_op (hrep (e1.trans e')) (d_var rfl (r3.up e')) rd_eqS)) (decide_eq_true rfl)) (fun _ => d_var rfl rv) fun z => nomatch z) A' (q.mono (e1.trans e'))
  have t0 : ∀ {k : Int} {Gx : Hp}, Ex G1 Gx → TrB (tTest (tOp rEq (tVar 0) (tC (V.int k)))) [some v0, some v1, some v2, some v3, some v4, none] Gx (decide (door = k)) := fun e => b_T (d_op (d_var (i := 0) rfl (r0.up (e1.trans e))) d_int rd_eqI)
  rcases hdo with ⟨rfl, h⟩ | ⟨rfl, h⟩ | ⟨rfl, h⟩
  · exact s_ifT (TrB.to (t0 (Ex.refl _)) (by decide)) A1 fun G2 H2 e2 A2 => go R_fco _ [one] _ G2 H2 h e2 A2 (a_cons (d_var rfl (r1.up (e1.trans e2))) a_nil) fin
  · exact s_ifF (TrB.to (t0 (Ex.refl _)) (by decide)) A1 fun G2 H2 e2 A2 => s_ifT (TrB.to (t0 e2) (by decide)) A2 fun G3 H3 e3 A3 => go R_bars2 _ [one, other] _ G3 H3 h (e2.trans e3) A3 (a_cons (d_var rfl (r1.up (e1.trans (e2.trans e3)))) (a_cons (d_var rfl (r2.up (e1.trans (e2.trans e3)))) a_nil)) fin
  · exact s_ifF (TrB.to (t0 (Ex.refl _)) (by decide)) A1 fun G2 H2 e2 A2 => s_ifF (TrB.to (t0 e2) (by decide)) A2 fun G3 H3 e3 A3 => go R_fs2 _ [one] _ G3 H3 h (e2.trans e3) A3 (a_cons (d_var rfl (r1.up (e1.trans (e2.trans e3)))) a_nil) fin
end
end K99

namespace K99
open PySem PySem.Spec PyProof.Rows L2 L2H Sb
local macro_rules | `(tactic| walk_at "ex") => `(tactic| first | exact Ex.refl _ | assumption | (refine' Ex.trans ?_ (by assumption); walk_at "ex"))
local macro_rules | `(tactic| walk_at "rp") => `(tactic| first | assumption | (refine' Rp.up ?e (by assumption); (case e => walk_at "ex")) | exact rfl)
local macro_rules | `(tactic| walk_at "rd") => `(tactic| with_reducible first | exact rd_add | exact rd_sub | exact rd_lt | exact rd_le | exact rd_gt | exact rd_ge | exact rd_eqI | exact rd_neI | exact rd_eqS | exact rd_neS | exact rd_isN | exact rd_ltS | exact rd_inSign | exact rd_eqE)
local macro_rules | `(tactic| walk_at "tr") => `(tactic| first
  | with_reducible exact d_int
  | with_reducible exact d_str
  | with_reducible exact d_bl
  | with_reducible exact d_non
  | with_reducible exact a_nil
  | with_reducible exact b_yes
  | with_reducible exact o_none
  | with_reducible exact d_newD
  | ((with_reducible refine' d_var ?i ?r); (case i => rfl); (case r => walk_at "rp"))
  | ((with_reducible refine' a_cons ?a ?b); (case a => walk_at "tr"); (case b => walk_at "tr"))
  | ((with_reducible refine' a_star ?a ?b); (case a => walk_at "tr"); (case b => walk_at "tr"))
  | ((with_reducible refine' d_isi ?a ?b); (case a => walk_at "tr"); (case b => decide))
  | ((with_reducible refine' d_op ?a ?b ?c); (case a => walk_at "tr"); (case b => walk_at "tr"); (case c => walk_at "rd"))
  | ((with_reducible refine' d_tup ?a ?b); (case a => walk_at "tr"); (case b => first | decide | (simp; done)))
  | ((with_reducible refine' d_lst ?a ?b); (case a => walk_at "tr"); (case b => first | decide | (simp; done)))
  | ((with_reducible refine' o_some ?a); (case a => walk_at "tr"))
  | ((with_reducible refine' b_B ?a); (case a => walk_at "tr"))
  | ((with_reducible refine' b_T ?a); (case a => walk_at "tr"))
  | ((with_reducible refine' b_not ?a); (case a => walk_at "tr"))
  | ((with_reducible refine' v_not ?a); (case a => walk_at "tr"))
  | ((with_reducible refine' b_or ?a ?b); (case a => walk_at "tr"); (case b => intro _; walk_at "tr"))
  | ((with_reducible refine' b_and ?a ?b); (case a => walk_at "tr"); (case b => intro _; walk_at "tr"))
  | ((with_reducible refine' v_or ?a ?b); (case a => walk_at "tr"); (case b => intro _; walk_at "tr"))
  | ((with_reducible refine' v_and ?a ?b); (case a => walk_at "tr"); (case b => intro _; walk_at "tr"))
  | assumption)


/-! ### what may be shown -/
structure okN (n m : Nat) (d : PyData) : Prop where
  f : fiX d = true
  s : d.showable = true
  p : d.depth ≤ n
  w : wX d ≤ m
def okB (n m : Nat) (d : PyData) : Bool := fiX d && (d.showable && (decide (d.depth ≤ n) && decide (wX d ≤ m)))
theorem okB_ok {n m : Nat} {d : PyData} (h : okB n m d = true) : okN n m d := by
  obtain ⟨h1, h⟩ := Bool.and_eq_true_iff.mp h
  obtain ⟨h2, h⟩ := Bool.and_eq_true_iff.mp h
  obtain ⟨h3, h4⟩ := Bool.and_eq_true_iff.mp h
  exact ⟨h1, h2, of_decide_eq_true h3, of_decide_eq_true h4⟩
theorem okN.le {n m n' m' : Nat} {d : PyData} (h : okN n m d) (a : n ≤ n' := by decide) (b : m ≤ m' := by decide) : okN n' m' d := ⟨h.f, h.s, Nat.le_trans h.p a, Nat.le_trans h.w b⟩
theorem okN.rep {n m : Nat} {d : PyData} (h : okN n m d) (a : n ≤ 50 := by decide) (b : m ≤ 1000000 := by decide) : okRep d := ⟨h.f, h.s, Nat.le_trans h.p a, Nat.le_trans h.w b⟩
theorem okN_all {n m : Nat} {ds : List PyData} (h : ∀ d ∈ ds, okN n m d) : fiXA ds = true ∧ PyData.showableAll ds = true ∧ PyData.depthAll ds ≤ n ∧ wXA ds ≤ ds.length * (m + 2) := by
  induction ds with
  | nil => exact ⟨rfl, rfl, Nat.zero_le _, Nat.zero_le _⟩
  | cons d ds ih =>
    obtain ⟨a, b, c, e⟩ := ih fun x hx => h x (List.mem_cons_of_mem _ hx)
    have z := h d (List.mem_cons_self ..)
    refine ⟨?_, ?_, ?_, ?_⟩
    · show (fiX d && fiXA ds) = true
      rw [z.f, a]; rfl
    · show (d.showable && PyData.showableAll ds) = true
      rw [z.s, b]; rfl
    · show max d.depth (PyData.depthAll ds) ≤ n
      have := z.p
      omega
    · show wX d + 2 + wXA ds ≤ _
      have := z.w
      rw [List.length_cons, Nat.succ_mul]
      omega
theorem okN_tup {n m : Nat} {ds : List PyData} (h : ∀ d ∈ ds, okN n m d) (l : Nat) (hl : ds.length ≤ l) : okN (n + 1) (3 + l * (m + 2)) (.tuple ds) := by
  obtain ⟨a, b, c, e⟩ := okN_all h
  exact ⟨a, b, Nat.succ_le_succ c, Nat.add_le_add_left (Nat.le_trans e (Nat.mul_le_mul_right _ hl)) 3⟩
theorem okN_lst {n m : Nat} {ds : List PyData} (h : ∀ d ∈ ds, okN n m d) (l : Nat) (hl : ds.length ≤ l) : okN (n + 1) (2 + l * (m + 2)) (.list ds) := by
  obtain ⟨a, b, c, e⟩ := okN_all h
  exact ⟨a, b, Nat.succ_le_succ c, Nat.add_le_add_left (Nat.le_trans e (Nat.mul_le_mul_right _ hl)) 2⟩
theorem okN_int {i : Int} (h0 : 0 ≤ i) (h1 : i < 1000000) : okN 0 40 (.int i) := by
  refine ⟨?_, ?_, Nat.le_refl _, Nat.le_refl _⟩
  · show (decide (0 ≤ i) && decide (i < 1000000000000000000) || _ || _) = true
    rw [decide_eq_true h0, decide_eq_true (by omega)]
    rfl
  · refine decide_eq_true (Nat.lt_trans (small_log (n := i) ⟨h0, by omega⟩) (by decide))
theorem okN_ints {ns : List Int} (h : ∀ n ∈ ns, 1 ≤ n ∧ n ≤ 4) (l : Nat) (hl : ns.length ≤ l) : okN 1 (3 + l * 42) (.tuple (dInts ns)) := by
  refine okN_tup (m := 40) (fun d hd => ?_) l (by rw [dInts_len]; exact hl)
  obtain ⟨n, hn, rfl⟩ := mem_ints hd
  have := h n hn
  exact okN_int (by omega) (by omega)
theorem okN_dict {n m : Nat} {kvs : List (PyData × PyData)} (hk : ∀ q ∈ kvs, okN 0 m q.1) (hv : ∀ q ∈ kvs, okN n m q.2) (l : Nat) (hl : kvs.length ≤ l) : okN (n + 1) (2 + l * (2 * m + 4)) (.dict kvs) := by
  have h : fiXK kvs = true ∧ PyData.showableKv kvs = true ∧ PyData.depthKv kvs ≤ n ∧ wXK kvs ≤ kvs.length * (2 * m + 4) := by
    clear hl
    induction kvs with
    | nil => exact ⟨rfl, rfl, Nat.zero_le _, Nat.zero_le _⟩
    | cons q kvs ih =>
      obtain ⟨k, v⟩ := q
      obtain ⟨a, b, c, e⟩ := ih (fun x hx => hk x (List.mem_cons_of_mem _ hx)) fun x hx => hv x (List.mem_cons_of_mem _ hx)
      have z1 := hk _ (List.mem_cons_self ..)
      have z2 := hv _ (List.mem_cons_self ..)
      refine ⟨?_, ?_, ?_, ?_⟩
      · show (fiX k && fiX v && fiXK kvs) = true
        rw [show fiX k = true from z1.f, show fiX v = true from z2.f, a]; rfl
      · show (k.showable && v.showable && PyData.showableKv kvs) = true
        rw [show k.showable = true from z1.s, show v.showable = true from z2.s, b]; rfl
      · show max (max k.depth v.depth) (PyData.depthKv kvs) ≤ n
        have h1 : k.depth ≤ 0 := z1.p
        have h2 : v.depth ≤ n := z2.p
        omega
      · show wX k + wX v + 4 + wXK kvs ≤ _
        have h1 : wX k ≤ m := z1.w
        have h2 : wX v ≤ m := z2.w
        rw [List.length_cons, Nat.succ_mul]
        omega
  obtain ⟨a, b, c, e⟩ := h
  exact ⟨a, b, Nat.succ_le_succ c, Nat.add_le_add_left (Nat.le_trans e (Nat.mul_le_mul_right _ hl)) 2⟩
theorem okN_name {x : Str} (h : isNameS x = true) : okN 0 40 (.str x) := by
  obtain ⟨c, rfl⟩ := one_sign (name_len h)
  have hc := of_decide_eq_true (show decide (c ∈ NAMESs.cps.toList) = true from h)
  have hall : ∀ c ∈ NAMESs.cps.toList, c < 4294967296 := by decide +kernel
  have hall2 : ∀ c ∈ NAMESs.cps.toList, PyData.showable (.str ⟨#[c]⟩) = true := by decide +kernel
  refine ⟨?_, hall2 c hc, Nat.le_refl _, ?_⟩
  · show (#[c].toList.all (· < 4294967296)) = true
    simp [hall c hc]
  · show 10 * 1 + 2 ≤ 40
    decide
/-! ### values that are no codes -/
def Tri (v p n : PyData) : PyData := .tuple [v, p, n]
def BadE (e : PyData) : Prop := ∃ v p n, e = Tri v p n ∧ okRep v ∧ okN 0 200 p ∧ okN 0 200 n ∧ R_rc2 [v] (.exc "InvalidCode" [("part", p), ("name", n)])
theorem bad_any {v : PyData} (h4 : bad4 v = true) (hv : okRep v) : BadE (Tri v .none .none) :=
  ⟨v, .none, .none, rfl, hv, okB_ok (by decide +kernel), okB_ok (by decide +kernel), v, rfl, .inr ⟨.none, .none, ⟨v, rfl, .inl ⟨h4, rfl⟩⟩, rfl, rfl⟩⟩
theorem bad_four {s c b p : PyData} {fl : List PyData} {P : Str} {N : PyData} (hc : R_foc2 [c] (.list fl)) (hf : okFl fl) (he : codeF s fl b p = [faultP P N]) (hP : P.cps.all (· < 1114112) = true) (hP2 : okN 0 200 (.str P)) (hN : N = .none ∨ ∃ y, N = .str y ∧ isNameS y = true) (hv : okRep (.tuple [s, c, b, p])) : BadE (Tri (.tuple [s, c, b, p]) (.str P) N) := by
  refine ⟨_, _, _, rfl, hv, hP2, ?_, _, rfl, .inr ⟨.str P, N, ⟨_, rfl, .inr ⟨s, c, b, p, fl, rfl, hc, hf, by rw [he]; rfl⟩⟩, ?_, rfl⟩⟩
  · rcases hN with rfl | ⟨y, rfl, hy⟩
    · exact okB_ok (by decide +kernel)
    · exact (okN_name hy).le
  · rcases hN with rfl | ⟨y, rfl, hy⟩
    · exact shaped_pair hP (.inl rfl)
    · exact shaped_pair hP (.inr ⟨y, rfl, name_cps hy⟩)
theorem okFl_fault {kvs : List (Str × PyData)} (g : goodC kvs) : okFl (dStrs (faultN kvs)) := by
  unfold faultN
  cases h : ((srt (kvs.map (·.1))).filter (badN kvs)) with
  | nil => exact .inl rfl
  | cons x r =>
    refine .inr (.inr ⟨x, rfl, ?_⟩)
    have hx : x ∈ (srt (kvs.map (·.1))).filter (badN kvs) := by rw [h]; exact List.mem_cons_self ..
    exact name_mem g ((srt_perm _).mem_iff.mp (List.mem_filter.mp hx).1)
theorem foc_good {kvs : List (Str × PyData)} (g : goodC kvs) : R_foc2 [.dict (keysD kvs)] (.list (dStrs (faultN kvs))) := ⟨_, rfl, .inr ⟨kvs, rfl, g, rfl⟩⟩
theorem foc_bad {d : PyData} (h : badC d = true) (hk : ∀ kvs, d = .dict kvs → ∀ p ∈ kvs, ∀ x, p.1 = .str x → x.length ≤ 100000) : R_foc2 [d] (.list [.none]) := ⟨_, rfl, .inl ⟨h, hk, rfl⟩⟩
theorem F_start {s b p : PyData} {fl : List PyData} (hs : areWD s 1 6 = false) : codeF s fl b p = [faultP "start" .none] := by
  unfold codeF
  simp [hs]
theorem F_between {s b p : PyData} (hs : areWD s 1 6 = true) (hb : areWD b 0 2 = false) : codeF s [] b p = [faultP "between" .none] := by
  unfold codeF
  simp [hs, hb]
theorem F_stop {s b p : PyData} (hs : areWD s 1 6 = true) (hb : areWD b 0 2 = true) (hp : areWD p 1 6 = false) : codeF s [] b p = [faultP "stop" .none] := by
  unfold codeF
  simp [hs, hb, hp]
theorem F_chars {s b p N : PyData} (hs : areWD s 1 6 = true) : codeF s [N] b p = [faultP "characters" N] := by
  unfold codeF
  simp [hs]
theorem w_start : ("start" : Str).cps.all (· < 1114112) = true := by decide +kernel
theorem w_stop : ("stop" : Str).cps.all (· < 1114112) = true := by decide +kernel
theorem w_between : ("between" : Str).cps.all (· < 1114112) = true := by decide +kernel
theorem w_chars : ("characters" : Str).cps.all (· < 1114112) = true := by decide +kernel
theorem o_start : okN 0 200 (.str "start") := okB_ok (by decide +kernel)
theorem o_stop : okN 0 200 (.str "stop") := okB_ok (by decide +kernel)
theorem o_between : okN 0 200 (.str "between") := okB_ok (by decide +kernel)
theorem o_chars : okN 0 200 (.str "characters") := okB_ok (by decide +kernel)
section
variable {c : CodeD} (ok : c.ok)
include ok
theorem okN_st : okN 3 20000 (.tuple (dInts c.st)) := (okN_ints ok.st.2.2 6 ok.st.2.1).le
theorem okN_bt : okN 3 20000 (.tuple (dInts c.bt)) := (okN_ints ok.bt.2.2 6 (Nat.le_trans ok.bt.2.1 (by decide))).le
theorem okN_sp : okN 3 20000 (.tuple (dInts c.sp)) := (okN_ints ok.sp.2.2 6 ok.sp.2.1).le
theorem okN_chr {k : Str} {o : PyData} (ho : okN 2 900 o) : okN 3 20000 (.dict (keysD (repD (chD c.cs) k o))) := by
  refine (okN_dict (n := 2) (m := 900) (fun q hq => ?_) (fun q hq => ?_) 11 ?_).le
  · obtain ⟨z, hz, rfl⟩ := List.mem_map.mp hq
    have hm : z.1 ∈ (chD c.cs).map (·.1) := by rw [← rep_keys (k := k) (d := o)]; exact List.mem_map.mpr ⟨z, hz, rfl⟩
    exact (okN_name (name_mem (goodC_ok ok.cs) hm)).le
  · obtain ⟨z, hz, rfl⟩ := List.mem_map.mp hq
    obtain ⟨y, hy, rfl⟩ := List.mem_map.mp hz
    show okN 2 900 (if y.1 = k then (y.1, o) else y).2
    split
    · exact ho
    · obtain ⟨w, hw, rfl⟩ := List.mem_map.mp hy
      exact (okN_ints (ok.cs.nm w hw).2.2.2 6 (ok.cs.nm w hw).2.2.1).le
  · rw [keysD_len]
    unfold repD chD
    rw [List.length_map, List.length_map]
    have := ok.cs.l2
    omega
theorem okN_ch : okN 3 20000 (.dict (keysD (chD c.cs))) := by
  refine (okN_dict (n := 2) (m := 900) (fun q hq => ?_) (fun q hq => ?_) 11 ?_).le
  · obtain ⟨z, hz, rfl⟩ := List.mem_map.mp hq
    exact (okN_name (name_mem (goodC_ok ok.cs) (List.mem_map.mpr ⟨z, hz, rfl⟩))).le
  · obtain ⟨z, hz, rfl⟩ := List.mem_map.mp hq
    obtain ⟨w, hw, rfl⟩ := List.mem_map.mp hz
    exact (okN_ints (ok.cs.nm w hw).2.2.2 6 (ok.cs.nm w hw).2.2.1).le
  · rw [keysD_len]
    unfold chD
    rw [List.length_map]
    have := ok.cs.l2
    omega
omit ok in
theorem rep4 {s m b p : PyData} (h1 : okN 3 20000 s) (h2 : okN 3 20000 m) (h3 : okN 3 20000 b) (h4 : okN 3 20000 p) : okRep (.tuple [s, m, b, p]) := by
  refine (okN_tup (n := 3) (m := 20000) (fun d hd => ?_) 4 (Nat.le_refl _)).rep
  simp only [List.mem_cons, List.not_mem_nil, or_false] at hd
  rcases hd with rfl | rfl | rfl | rfl
  · exact h1
  · exact h2
  · exact h3
  · exact h4
theorem bad_start {o : PyData} (h : areWD o 1 6 = false) (ho : okN 2 900 o) : BadE (Tri (.tuple [o, .dict (keysD (chD c.cs)), .tuple (dInts c.bt), .tuple (dInts c.sp)]) (.str "start") .none) :=
  bad_four (foc_ok ok.cs) (.inl rfl) (F_start h) w_start o_start (.inl rfl) (rep4 ho.le (okN_ch ok) (okN_bt ok) (okN_sp ok))
theorem bad_stop {o : PyData} (h : areWD o 1 6 = false) (ho : okN 2 900 o) : BadE (Tri (.tuple [.tuple (dInts c.st), .dict (keysD (chD c.cs)), .tuple (dInts c.bt), o]) (.str "stop") .none) :=
  bad_four (foc_ok ok.cs) (.inl rfl) (F_stop (areWD_ok ok.st) (areWD_ok ok.bt) h) w_stop o_stop (.inl rfl) (rep4 (okN_st ok) (okN_ch ok) (okN_bt ok) ho.le)
theorem bad_between {o : PyData} (h : areWD o 0 2 = false) (ho : okN 2 900 o) : BadE (Tri (.tuple [.tuple (dInts c.st), .dict (keysD (chD c.cs)), o, .tuple (dInts c.sp)]) (.str "between") .none) :=
  bad_four (foc_ok ok.cs) (.inl rfl) (F_between (areWD_ok ok.st) h) w_between o_between (.inl rfl) (rep4 (okN_st ok) (okN_ch ok) ho.le (okN_sp ok))
theorem goodC_rep {k : Str} {o : PyData} : goodC (repD (chD c.cs) k o) := by
  have g := goodC_ok ok.cs
  have hl : (repD (chD c.cs) k o).length = (chD c.cs).length := by unfold repD; rw [List.length_map]
  refine ⟨by rw [hl]; exact g.l1, by rw [hl]; exact g.l2, fun p hp => ?_, by rw [rep_keys]; exact g.nd⟩
  exact name_mem g (by rw [← rep_keys (k := k) (d := o)]; exact List.mem_map.mpr ⟨p, hp, rfl⟩)
theorem faultN_rep {k : Str} {o : PyData} (hk : k ∈ (chD c.cs).map (·.1)) (h : areWD o 1 6 = false) : faultN (repD (chD c.cs) k o) = [k] := by
  unfold faultN
  rw [rep_keys]
  have e : ∀ l : List Str, l.Nodup → (∀ x ∈ l, x ∈ (chD c.cs).map (·.1)) → l.filter (badN (repD (chD c.cs) k o)) = l.filter fun x => decide (x = k) := fun l _ hl => by
    refine List.filter_congr fun x hx => ?_
    unfold badN
    rw [rep_look hk]
    by_cases z : k = x
    · subst z
      rw [if_pos rfl, decide_eq_true rfl]
      show (!areWD o 1 6) = true
      rw [h]
      rfl
    · rw [if_neg z, decide_eq_false (Ne.symm z)]
      have hm := hl x hx
      rw [chD_keys] at hm
      obtain ⟨p, hp, rfl⟩ := List.mem_map.mp hm
      rw [chD_look ok.cs.nd hp]
      show (!areWD (.tuple (dInts p.2)) 1 6) = false
      rw [show areWD (.tuple (dInts p.2)) 1 6 = true from areWD_ok (ok.cs.nm p hp).2]
      rfl
  have nd : (srt ((chD c.cs).map (·.1))).Nodup := (srt_perm _).nodup_iff.mpr (goodC_ok ok.cs).nd
  rw [e _ nd fun x hx => (srt_perm _).mem_iff.mp hx]
  have hmem : k ∈ srt ((chD c.cs).map (·.1)) := (srt_perm _).mem_iff.mpr hk
  revert nd hmem
  generalize srt ((chD c.cs).map (·.1)) = l
  intro nd hmem
  induction l with
  | nil => cases hmem
  | cons x l ih =>
    rw [List.filter_cons]
    by_cases z : x = k
    · rw [if_pos (decide_eq_true z), z]
      rfl
    · rw [if_neg (by rw [decide_eq_false z]; decide)]
      exact ih (List.nodup_cons.mp nd).2 (by rcases List.mem_cons.mp hmem with y | y; exact absurd y.symm z; exact y)
theorem bad_one {k : Str} {o : PyData} (hk : k ∈ (chD c.cs).map (·.1)) (h : areWD o 1 6 = false) (ho : okN 2 900 o) : BadE (Tri (.tuple [.tuple (dInts c.st), .dict (keysD (repD (chD c.cs) k o)), .none, .none]) (.str "characters") (.str k)) := by
  have z := foc_good (goodC_rep ok (k := k) (o := o))
  rw [faultN_rep ok hk h] at z
  have hn := name_mem (goodC_ok ok.cs) hk
  exact bad_four z (.inr (.inr ⟨k, rfl, hn⟩)) (F_chars (areWD_ok ok.st)) w_chars o_chars (.inr ⟨k, rfl, hn⟩) (rep4 (okN_st ok) (okN_chr ok ho) (okB_ok (by decide +kernel)) (okB_ok (by decide +kernel)))
theorem bad_all {d b p : PyData} (h : badC d = true) (hk : ∀ kvs, d = .dict kvs → ∀ p ∈ kvs, ∀ x, p.1 = .str x → x.length ≤ 100000) (hd : okN 3 20000 d) (hb : okN 3 20000 b) (hp : okN 3 20000 p) : BadE (Tri (.tuple [.tuple (dInts c.st), d, b, p]) (.str "characters") .none) :=
  bad_four (foc_bad h hk) (.inr (.inl rfl)) (F_chars (areWD_ok ok.st)) w_chars o_chars (.inl rfl) (rep4 (okN_st ok) hd hb hp)
end
end K99

namespace K99
open PySem PySem.Spec PyProof.Rows L2 L2H Sb
local macro_rules | `(tactic| walk_at "ex") => `(tactic| first | exact Ex.refl _ | assumption | (refine' Ex.trans ?_ (by assumption); walk_at "ex"))
local macro_rules | `(tactic| walk_at "rp") => `(tactic| first | assumption | (refine' Rp.up ?e (by assumption); (case e => walk_at "ex")) | exact rfl)
local macro_rules | `(tactic| walk_at "rd") => `(tactic| with_reducible first | exact rd_add | exact rd_sub | exact rd_lt | exact rd_le | exact rd_gt | exact rd_ge | exact rd_eqI | exact rd_neI | exact rd_eqS | exact rd_neS | exact rd_isN | exact rd_ltS | exact rd_inSign | exact rd_eqE)
local macro_rules | `(tactic| walk_at "tr") => `(tactic| first
  | with_reducible exact d_int
  | with_reducible exact d_str
  | with_reducible exact d_bl
  | with_reducible exact d_non
  | with_reducible exact a_nil
  | with_reducible exact b_yes
  | with_reducible exact o_none
  | with_reducible exact d_newD
  | ((with_reducible refine' d_var ?i ?r); (case i => rfl); (case r => walk_at "rp"))
  | ((with_reducible refine' a_cons ?a ?b); (case a => walk_at "tr"); (case b => walk_at "tr"))
  | ((with_reducible refine' a_star ?a ?b); (case a => walk_at "tr"); (case b => walk_at "tr"))
  | ((with_reducible refine' d_isi ?a ?b); (case a => walk_at "tr"); (case b => decide))
  | ((with_reducible refine' d_op ?a ?b ?c); (case a => walk_at "tr"); (case b => walk_at "tr"); (case c => walk_at "rd"))
  | ((with_reducible refine' d_tup ?a ?b); (case a => walk_at "tr"); (case b => first | decide | (simp; done)))
  | ((with_reducible refine' d_lst ?a ?b); (case a => walk_at "tr"); (case b => first | decide | (simp; done)))
  | ((with_reducible refine' o_some ?a); (case a => walk_at "tr"))
  | ((with_reducible refine' b_B ?a); (case a => walk_at "tr"))
  | ((with_reducible refine' b_T ?a); (case a => walk_at "tr"))
  | ((with_reducible refine' b_not ?a); (case a => walk_at "tr"))
  | ((with_reducible refine' v_not ?a); (case a => walk_at "tr"))
  | ((with_reducible refine' b_or ?a ?b); (case a => walk_at "tr"); (case b => intro _; walk_at "tr"))
  | ((with_reducible refine' b_and ?a ?b); (case a => walk_at "tr"); (case b => intro _; walk_at "tr"))
  | ((with_reducible refine' v_or ?a ?b); (case a => walk_at "tr"); (case b => intro _; walk_at "tr"))
  | ((with_reducible refine' v_and ?a ?b); (case a => walk_at "tr"); (case b => intro _; walk_at "tr"))
  | assumption)


def t1 : PyData := .tuple [.int 1]
def odds1 : List PyData := [.tuple [], .list [.int 1], .tuple [.int 1, .int 5], .tuple [.int 0], .tuple [.int 1, .bool true], .tuple [.int 1, .int 1, .int 1, .int 1, .int 1, .int 1, .int 1], .none, .int 2, .str "1", .tuple [.int 1, .str "2"], .tuple [.tuple [.int 1]]]
theorem odds1_ok : ∀ o ∈ odds1, areWD o 1 6 = false ∧ okN 2 900 o := by
  have h : odds1.all (fun o => !areWD o 1 6 && okB 2 900 o) = true := by decide +kernel
  intro o ho
  obtain ⟨h1, h2⟩ := Bool.and_eq_true_iff.mp (List.all_eq_true.mp h o ho)
  exact ⟨by simpa using h1, okB_ok h2⟩
def odds3 : List PyData := [.none, .list [], .list [.int 1], .tuple [.int 1, .int 1, .int 1], .tuple [.int 5], .tuple [.int 0, .int 1], .tuple [.bool true], .int 1]
theorem odds3_ok : ∀ o ∈ odds3, areWD o 0 2 = false ∧ okN 2 900 o := by
  have h : odds3.all (fun o => !areWD o 0 2 && okB 2 900 o) = true := by decide +kernel
  intro o ho
  obtain ⟨h1, h2⟩ := Bool.and_eq_true_iff.mp (List.all_eq_true.mp h o ho)
  exact ⟨by simpa using h1, okB_ok h2⟩
def dM (l : List (Str × PyData)) : PyData := .dict (keysD (mergeD [] l))
def odds2 (fr : Str) : List PyData := [.none, .list [], .list [.str fr], .dict (keysD []), dM [(fr, t1), ("A", t1)], dM [("ab", t1)], dM [("", t1)], dM [("-", t1), (fr, .int 0)], .dict [(.int 1, t1)]]
def freeL : List Str := chrs "0a5kzq"
def keysSm (d : PyData) : Bool := match d with
  | .dict kvs => kvs.all fun p => match p.1 with | .str x => decide (x.length ≤ 100000) | _ => true
  | _ => true
theorem keysSm_ok {d : PyData} (h : keysSm d = true) : ∀ kvs, d = .dict kvs → ∀ p ∈ kvs, ∀ x, p.1 = .str x → x.length ≤ 100000 := by
  rintro kvs rfl p hp x hx
  have z := List.all_eq_true.mp h p hp
  rw [hx] at z
  exact of_decide_eq_true z
theorem odds2_ok {fr : Str} (hf : fr ∈ freeL) : ∀ o ∈ odds2 fr, badC o = true ∧ keysSm o = true ∧ okN 3 20000 o := by
  have h : freeL.all (fun fr => (odds2 fr).all (fun o => badC o && (keysSm o && okB 3 20000 o))) = true := by decide +kernel
  intro o ho
  obtain ⟨h1, h2⟩ := Bool.and_eq_true_iff.mp (List.all_eq_true.mp (List.all_eq_true.mp h fr hf) o ho)
  obtain ⟨h2, h3⟩ := Bool.and_eq_true_iff.mp h2
  exact ⟨h1, h2, okB_ok h3⟩
def kvs11 : List (Str × PyData) := (chrs "0123456789a").map fun x => (x, t1)
theorem eleven_ok : badC (dM kvs11) = true ∧ keysSm (dM kvs11) = true ∧ okN 3 20000 (dM kvs11) := by
  have h : (badC (dM kvs11) && (keysSm (dM kvs11) && okB 3 20000 (dM kvs11))) = true := by decide +kernel
  obtain ⟨h1, h2⟩ := Bool.and_eq_true_iff.mp h
  obtain ⟨h2, h3⟩ := Bool.and_eq_true_iff.mp h2
  exact ⟨h1, h2, okB_ok h3⟩
def goodB (kvs : List (Str × PyData)) : Bool := decide (1 ≤ kvs.length) && (decide (kvs.length ≤ 10) && (kvs.all (fun p => isNameS p.1) && decide (kvs.map (·.1)).Nodup))
theorem goodB_ok {kvs : List (Str × PyData)} (h : goodB kvs = true) : goodC kvs := by
  obtain ⟨h1, h⟩ := Bool.and_eq_true_iff.mp h
  obtain ⟨h2, h⟩ := Bool.and_eq_true_iff.mp h
  obtain ⟨h3, h4⟩ := Bool.and_eq_true_iff.mp h
  exact ⟨of_decide_eq_true h1, of_decide_eq_true h2, fun p hp => List.all_eq_true.mp h3 p hp, of_decide_eq_true h4⟩
def kvsZ : List (Str × PyData) := [("z", .int 0), ("b", .none), ("a", t1)]
theorem z_ok : goodC (mergeD [] kvsZ) ∧ faultN (mergeD [] kvsZ) = [("b" : Str)] ∧ okN 3 20000 (dM kvsZ) := by
  have g : goodB (mergeD [] kvsZ) = true := by decide +kernel
  refine ⟨goodB_ok g, ?_, okB_ok (by decide +kernel)⟩
  have e : srt ((mergeD [] kvsZ).map (·.1)) = [("a" : Str), "b", "z"] := by
    refine (srt_of ?_ (by decide +kernel)).symm
    have h : (mergeD [] kvsZ).map (·.1) = [("z" : Str), "b", "a"] := by decide +kernel
    rw [h]
    exact List.isPerm_iff.mp (by decide +kernel)
  unfold faultN
  rw [e]
  decide +kernel
theorem aF_ok {fr : Str} (hf : fr ∈ freeL) : goodC (mergeD [] [("a", .int 0), (fr, t1)]) ∧ okN 3 20000 (dM [("a", .int 0), (fr, t1)]) := by
  have h : freeL.all (fun fr => goodB (mergeD [] [("a", .int 0), (fr, t1)]) && okB 3 20000 (dM [("a", .int 0), (fr, t1)])) = true := by decide +kernel
  obtain ⟨h1, h2⟩ := Bool.and_eq_true_iff.mp (List.all_eq_true.mp h fr hf)
  exact ⟨goodB_ok h1, okB_ok h2⟩
theorem okN_code {c : CodeD} (ok : c.ok) {l : List PyData} (h : ∀ d ∈ l, d = .tuple (dInts c.st) ∨ d = .dict (keysD (chD c.cs)) ∨ d = .tuple (dInts c.bt) ∨ d = .tuple (dInts c.sp) ∨ d = .int 1) : ∀ d ∈ l, okN 3 20000 d := fun d hd => by
  rcases h d hd with rfl | rfl | rfl | rfl | rfl
  · exact okN_st ok
  · exact okN_ch ok
  · exact okN_bt ok
  · exact okN_sp ok
  · exact okB_ok (by decide +kernel)
theorem bad_snoc {es : List PyData} {e : PyData} (h : ∀ x ∈ es, BadE x) (he : BadE e) : ∀ x ∈ es ++ [e], BadE x := fun x hx => by
  rcases List.mem_append.mp hx with z | z
  · exact h x z
  · rw [List.mem_singleton.mp z]; exact he
theorem merge_rep {c : CodeD} (ok : c.ok) {k : Str} {d : PyData} (hk : k ∈ (chD c.cs).map (·.1)) : mergeD [] (chD c.cs ++ [(k, d)]) = repD (chD c.cs) k d := by
  rw [merge_app, merge_nd (acc := []) (l := chD c.cs) (by rw [List.nil_append]; exact (goodC_ok ok.cs).nd), List.nil_append]
  exact put_old hk
section
variable {P : Program} {w : World} {K : PySem.W.Frag} {mg : Str → Option Value} {base : Heap}
def BadL (d : PyData) : Prop := ∃ es, d = .list es ∧ es.length ≤ 1000 ∧ ∀ e ∈ es, BadE e
def R_badcodes : List PyData → Nat → (PyData → Prop) → Prop := fun ds k Φ => ∃ c : CodeD, ds = [c.d] ∧ c.ok ∧ ("q" : Str) ∉ c.cs.map (·.1) ∧ k = 1 ∧ Φ = BadL
theorem F__law_bad_codes (T : Tx K mg) : Fd P w K mg base CX0 4 "_law_bad_codes" (ESp K R_badcodes) [] := by
  obtain ⟨fd, F⟩ := T.f__law_bad_codes
  refine ⟨_, fd, ["reel", "code"], [], T.g__law_bad_codes, F.kp, F.bindsN fun _ _ _ _ _ _ us hl => match us, hl with | [_, _], _ => rfl, .nil, ?_⟩
  refine fnG_of F sc__law_bad_codes (fun vs H Q E h => ESp.len (n := 1) (by rintro _ _ _ ⟨d, rfl, _⟩; rfl) h) (fun cdv A outer s H vs Q E hg hr h => ?_)
  obtain ⟨r, ws, G, M, n, k, ds, Φ, rfl, hA, hRL, hws, ⟨c, rfl, ok, hnq, rfl, rfl⟩, hn, q⟩ := h
  obtain ⟨v1, _, rfl, r1, rfl⟩ := hws
  refine ⟨_, PSs.nox (pss_cons (ps_asg (pv 1) (pg_tup (by rfl) (pgs_cons (pg_name (i := 2) sc__law_bad_codes.nd rfl (by first | exact Or.inl rfl | exact Or.inr rfl)) (pgs_cons (pg_name (i := 3) sc__law_bad_codes.nd rfl (by first | exact Or.inl rfl | exact Or.inr rfl)) (pgs_cons (pg_name (i := 4) sc__law_bad_codes.nd rfl (by first | exact Or.inl rfl | exact Or.inr rfl)) (pgs_cons (pg_name (i := 5) sc__law_bad_codes.nd rfl (by first | exact Or.inl rfl | exact Or.inr rfl)) pgs_nil))))))
    (pss_cons (ps_set (i := 6) sc__law_bad_codes.nd rfl (by first | exact Or.inl rfl | exact Or.inr rfl) (pe_callB (call_sortedD' rfl) (by rfl) T.n_sorted (by decide +kernel) (pa_cons (pv 3) pa_nil)))
    (pss_cons (ps_par (i := 7) (j := 8) (by rfl) sc__law_bad_codes.nd rfl rfl (by decide) rfl rfl (pa_cons (pe_ix ix_list (pv 6) (pe_fd (F__law_spin (P := P) (w := w) (base := base) T) hg (hr.mono (by decide)) pass0 (pa_cons (pv 0) (pa_cons (pe_callB call_len' (by rfl) T.n_len (by decide +kernel) (pa_cons (pv 6) pa_nil)) pa_nil))) (fun _ _ => rfl)) (pa_cons (pe_ix ix_list (pe_lc (own := [("one", 12)]) (g := gName 12) (by rfl) sc__law_bad_codes.nd (pi_str pe_str) (blkOk_by (own := [("one", 12)]) (N := ["reel", "code", "start", "some", "between", "stop", "names", "name", "free", "found", "odd", "odds", "one"]) (sc := defScope s__law_bad_codes) (by decide +kernel)) (fun _ _ _ _ _ => (pg_name (i := 12) sc__law_bad_codes.nd rfl (by first | exact Or.inl rfl | exact Or.inr rfl))) (fun _ _ _ _ _ => (pts_one (pt_cmp (pc_dnotin (hu_of hr) (pv 12) (pv 3)) (by rfl)))) (fun _ _ _ _ _ => (pv 12))) pe_int (fun _ _ => rfl)) pa_nil)) (by rfl))
    (pss_cons (ps_set (i := 9) sc__law_bad_codes.nd rfl (by first | exact Or.inl rfl | exact Or.inr rfl) (pe_lst (pa_cons (pe_tup (pa_cons pe_non (pa_cons pe_non (pa_cons pe_non pa_nil)))) (pa_cons (pe_tup (pa_cons (pe_callTy call_listOf (by rfl) T.n_list (by decide +kernel) (pa_cons (pv 1) pa_nil)) (pa_cons pe_non (pa_cons pe_non pa_nil)))) (pa_cons (pe_tup (pa_cons (pe_slice sl_tupA (pv 1) po_none (po_some pe_int)) (pa_cons pe_non (pa_cons pe_non pa_nil)))) (pa_cons (pe_tup (pa_cons (pe_op op_catA (pv 1) (pe_tup (pa_cons pe_int pa_nil))) (pa_cons pe_non (pa_cons pe_non pa_nil)))) pa_nil))))))
    (pss_cons (ps_for PassesOwn.never rfl (pi_list (pe_lst (pa_cons (pe_tup pa_nil) (pa_cons (pe_lst (pa_cons pe_int pa_nil)) (pa_cons (pe_tup (pa_cons pe_int (pa_cons pe_int pa_nil))) (pa_cons (pe_tup (pa_cons pe_int pa_nil)) (pa_cons (pe_tup (pa_cons pe_int (pa_cons pe_bl pa_nil))) (pa_cons (pe_op op_repT (pe_tup (pa_cons pe_int pa_nil)) pe_int) (pa_cons pe_non (pa_cons pe_int (pa_cons pe_str (pa_cons (pe_tup (pa_cons pe_int (pa_cons pe_str pa_nil))) (pa_cons (pe_tup (pa_cons (pe_tup (pa_cons pe_int pa_nil)) pa_nil)) pa_nil))))))))))))) (pg_name (i := 10) sc__law_bad_codes.nd rfl (by first | exact Or.inl rfl | exact Or.inr rfl)) (pss_cons (ps_expr (pe_bm PySem.F.plainAttrs_list PySem.F.slot_list_append PySem.F.type_list_append mt_append (pv 9) (pa_cons (pe_tup (pa_cons (pe_tup (pa_cons (pv 10) (pa_cons (pv 3) (pa_cons (pv 4) (pa_cons (pv 5) pa_nil))))) (pa_cons pe_str (pa_cons pe_non pa_nil)))) pa_nil))) (pss_cons (ps_expr (pe_bm PySem.F.plainAttrs_list PySem.F.slot_list_append PySem.F.type_list_append mt_append (pv 9) (pa_cons (pe_tup (pa_cons (pe_tup (pa_cons (pv 2) (pa_cons (pv 3) (pa_cons (pv 4) (pa_cons (pv 10) pa_nil))))) (pa_cons pe_str (pa_cons pe_non pa_nil)))) pa_nil))) (pss_one (ps_expr (pe_bm PySem.F.plainAttrs_list PySem.F.slot_list_append PySem.F.type_list_append mt_append (pv 9) (pa_cons (pe_tup (pa_cons (pe_tup (pa_cons (pv 2) (pa_cons (pe_callTy (call_dictP rfl) (by rfl) T.n_dict (by decide +kernel) (pa_cons (pe_op op_cat (LiI.pe_listItems rfl (pv 3) (by rfl) T.n_list (by decide +kernel)) (pe_lst (pa_cons (pe_tup (pa_cons (pv 7) (pa_cons (pv 10) pa_nil))) pa_nil))) pa_nil)) (pa_cons pe_non (pa_cons pe_non pa_nil))))) (pa_cons pe_str (pa_cons (pv 7) pa_nil)))) pa_nil)))))))
    (pss_cons (ps_set (i := 11) sc__law_bad_codes.nd rfl (by first | exact Or.inl rfl | exact Or.inr rfl) (pe_lst (pa_cons pe_non (pa_cons (pe_lst pa_nil) (pa_cons (pe_lst (pa_cons (pv 8) pa_nil)) (pa_cons pe_dnewK (pa_cons (pe_disp (pps_cons (pv 8) (pe_tup (pa_cons pe_int pa_nil)) (pps_cons pe_str (pe_tup (pa_cons pe_int pa_nil)) pps_nil)) (by rfl) (by rfl) (fun z => by cases z) (by decide)) (pa_cons (pe_disp (pps_cons pe_str (pe_tup (pa_cons pe_int pa_nil)) pps_nil) (by rfl) (by rfl) (fun z => by cases z) (by decide)) (pa_cons (pe_disp (pps_cons pe_str (pe_tup (pa_cons pe_int pa_nil)) pps_nil) (by rfl) (by rfl) (fun z => by cases z) (by decide)) (pa_cons (pe_disp (pps_cons pe_str (pe_tup (pa_cons pe_int pa_nil)) (pps_cons (pv 8) pe_int pps_nil)) (by rfl) (by rfl) (fun z => by cases z) (by decide)) (pa_cons (pe_disp (pps_cons pe_int (pe_tup (pa_cons pe_int pa_nil)) pps_nil) (by rfl) (by rfl) (fun z => by cases z) (by decide)) pa_nil)))))))))))
    (pss_cons (ps_for PassesOwn.never rfl (pi_list (pv 11)) (pg_name (i := 10) sc__law_bad_codes.nd rfl (by first | exact Or.inl rfl | exact Or.inr rfl)) (pss_one (ps_expr (pe_bm PySem.F.plainAttrs_list PySem.F.slot_list_append PySem.F.type_list_append mt_append (pv 9) (pa_cons (pe_tup (pa_cons (pe_tup (pa_cons (pv 2) (pa_cons (pv 10) (pa_cons pe_int (pa_cons pe_int pa_nil))))) (pa_cons pe_str (pa_cons pe_non pa_nil)))) pa_nil)))))
    (pss_cons (ps_expr (pe_bm PySem.F.plainAttrs_list PySem.F.slot_list_append PySem.F.type_list_append mt_append (pv 9) (pa_cons (pe_tup (pa_cons (pe_tup (pa_cons (pv 2) (pa_cons (pe_callTy (call_dictP rfl) (by rfl) T.n_dict (by decide +kernel) (pa_cons (pe_lc (own := [("one", 12)]) (g := gName 12) (by rfl) sc__law_bad_codes.nd (pi_str pe_str) (blkOk_by (own := [("one", 12)]) (N := ["reel", "code", "start", "some", "between", "stop", "names", "name", "free", "found", "odd", "odds", "one"]) (sc := defScope s__law_bad_codes) (by decide +kernel)) (fun _ _ _ _ _ => (pg_name (i := 12) sc__law_bad_codes.nd rfl (by first | exact Or.inl rfl | exact Or.inr rfl))) (fun _ _ _ _ _ => pts_nil) (fun _ _ _ _ _ => (pe_tup (pa_cons (pv 12) (pa_cons (pe_tup (pa_cons pe_int pa_nil)) pa_nil))))) pa_nil)) (pa_cons (pv 4) (pa_cons (pv 5) pa_nil))))) (pa_cons pe_str (pa_cons pe_non pa_nil)))) pa_nil)))
    (pss_cons (ps_expr (pe_bm PySem.F.plainAttrs_list PySem.F.slot_list_append PySem.F.type_list_append mt_append (pv 9) (pa_cons (pe_tup (pa_cons (pe_tup (pa_cons (pv 2) (pa_cons (pe_disp (pps_cons pe_str pe_int (pps_cons pe_str pe_non (pps_cons pe_str (pe_tup (pa_cons pe_int pa_nil)) pps_nil))) (by rfl) (by rfl) (fun z => by cases z) (by decide)) (pa_cons (pv 4) (pa_cons (pv 5) pa_nil))))) (pa_cons pe_str (pa_cons pe_str pa_nil)))) pa_nil)))
    (pss_cons (ps_set (i := 9) sc__law_bad_codes.nd rfl (by first | exact Or.inl rfl | exact Or.inr rfl) (pe_op op_cat (pv 9) (pe_lst (pa_cons (pe_tup (pa_cons (pe_tup (pa_cons pe_int (pa_cons pe_non (pa_cons pe_int (pa_cons pe_int pa_nil))))) (pa_cons pe_str (pa_cons pe_non pa_nil)))) (pa_cons (pe_tup (pa_cons (pe_tup (pa_cons (pv 2) (pa_cons (pv 3) (pa_cons pe_int (pa_cons pe_int pa_nil))))) (pa_cons pe_str (pa_cons pe_non pa_nil)))) pa_nil)))))
    (pss_cons (ps_expr (pe_bm PySem.F.plainAttrs_list PySem.F.slot_list_append PySem.F.type_list_append mt_append (pv 9) (pa_cons (pe_tup (pa_cons (pe_tup (pa_cons (pe_tup pa_nil) (pa_cons (pe_disp (pps_cons pe_str pe_int (pps_cons (pv 8) (pe_tup (pa_cons pe_int pa_nil)) pps_nil)) (by rfl) (by rfl) (fun z => by cases z) (by decide)) (pa_cons (pv 4) (pa_cons (pv 5) pa_nil))))) (pa_cons pe_str (pa_cons pe_non pa_nil)))) pa_nil)))
    (pss_cons (ps_for PassesOwn.never rfl (pi_list (pe_lst (pa_cons pe_non (pa_cons (pe_lst pa_nil) (pa_cons (pe_lst (pa_cons pe_int pa_nil)) (pa_cons (pe_tup (pa_cons pe_int (pa_cons pe_int (pa_cons pe_int pa_nil)))) (pa_cons (pe_tup (pa_cons pe_int pa_nil)) (pa_cons (pe_tup (pa_cons pe_int (pa_cons pe_int pa_nil))) (pa_cons (pe_tup (pa_cons pe_bl pa_nil)) (pa_cons pe_int pa_nil)))))))))) (pg_name (i := 10) sc__law_bad_codes.nd rfl (by first | exact Or.inl rfl | exact Or.inr rfl)) (pss_one (ps_expr (pe_bm PySem.F.plainAttrs_list PySem.F.slot_list_append PySem.F.type_list_append mt_append (pv 9) (pa_cons (pe_tup (pa_cons (pe_tup (pa_cons (pv 2) (pa_cons (pv 3) (pa_cons (pv 10) (pa_cons (pv 5) pa_nil))))) (pa_cons pe_str (pa_cons pe_non pa_nil)))) pa_nil)))))
    (pss_one (ps_ret (pv 9))))))))))))))), ?_⟩
  rw [show L2.start ["reel", "code", "start", "some", "between", "stop", "names", "name", "free", "found", "odd", "odds", "one"] [(.ref r), v1] = [some (.ref r), some v1, none, none, none, none, none, none, none, none, none, none, none] from rfl]
  dsimp only [xK]
  refine q_unpack (d_var rfl r1) rfl hA ?_
  rintro _ G1 H1 e1 A1 ⟨v2, _, rfl, r2, v3, _, rfl, r3, v4, _, rfl, r4, v5, _, rfl, r5, rfl⟩
  refine ⟨v2, _, rfl, v3, _, rfl, v4, _, rfl, v5, _, rfl, rfl, ?_⟩
  have hck : (chD c.cs).length = c.cs.length := by simp [chD]
  have hcl := ok.cs.l2
  have hcl1 := ok.cs.l1
  have hsl : (nmsT c).length = c.cs.length := nmsT_len c
  refine q_set (d_cb (a_cons (d_var rfl r3) a_nil) (rc_sortD (by omega))) A1 fun v6 G2 H2 e2 A2 r6 => ?_
  rw [chD_keys] at r6
  have r6' : Rp K G2 (.list (dStrs (nmsT c))) v6 := r6
  obtain ⟨fr, hfr, hfrn, hfrT⟩ : ∃ fr, fr ∈ freeL ∧ fr ∉ c.cs.map (·.1) ∧ TrD K (tOp (rIxL K) (tLc (iStr (tC (V.str (Str.ofString "0a5kzq")))) (gName 12) (tB (tDNotIn (tVar 12) (tVar 3))) (tVar 12) [12]) (tC (V.int 0))) [some (.ref r), some v1, some v2, some v3, some v4, some v5, some v6, none, none, none, none, none, none] G2 (.str fr) := by
    have hmem : ("q" : Str) ∈ freeL.filter fun x => !(lookD (chD c.cs) x).isSome := by
      refine List.mem_filter.mpr ⟨by decide +kernel, ?_⟩
      rw [look_some, chD_keys, decide_eq_false hnq]
      rfl
    cases hL : freeL.filter fun x => !(lookD (chD c.cs) x).isSome with
    | nil => rw [hL] at hmem; cases hmem
    | cons fr rest =>
      have hf : fr ∈ freeL.filter fun x => !(lookD (chD c.cs) x).isSome := by rw [hL]; exact List.mem_cons_self ..
      obtain ⟨f1, f2⟩ := List.mem_filter.mp hf
      refine ⟨fr, f1, fun z => ?_, ?_⟩
      · rw [look_some, chD_keys, decide_eq_true z] at f2
        cases f2
      · refine d_op (TrD.to (d_lcS (p := fun x => !(lookD (chD c.cs) x).isSome) (f := PyData.str) (d_str (x := "0a5kzq")) (by decide +kernel) (fun x _ Gx ex => ?_) fun x _ _ Gx ex => d_var (K := K) rfl (d := .str x) rfl) (d2 := .list (.str fr :: rest.map PyData.str)) ?_) d_int (rd_ixL (at_dat (ds := .str fr :: rest.map PyData.str) (k := 0) (Nat.succ_pos _)))
        · exact b_B (K := K) (v_dnin (d_var (K := K) rfl (d := .str x) rfl) (d_var rfl (r3.up (e2.trans ex))))
        · show PyData.list ((freeL.filter fun x => !(lookD (chD c.cs) x).isSome).map PyData.str) = _
          rw [hL]
          rfl
  refine q_parE (n := n) (n' := n + 1) (Ψ := fun ds => ∃ nm, ds = [.str nm, .str fr] ∧ nm ∈ nmsT c) (ea_cons (m := n + 1) (Φ := fun d => ∃ nm, d = .str nm ∧ nm ∈ nmsT c) (e_op (Φ1 := fun d => d = .list (dStrs (nmsT c))) (Φ2 := RI 0 ((nmsT c).length - 1)) (e_D (d_var rfl r6') rfl) (fun _ _ => spin_call rfl (e_D (d_cb (a_cons (d_var rfl r6') a_nil) rc_lenL) ⟨_, rfl, by rw [dS_len]; omega, by rw [dS_len]; omega, fun d h => by rw [dS_len] at h; exact h⟩) (by omega)) ?_) fun d hd => ea_A (a_cons hfrT a_nil) ?_) ?_ A2 .refl hRL fun ds v7 v8 G3 M3 H3 e3 A3 S3 R3 hds rvs => ?_
  · rintro _ _ rfl ⟨i, rfl, i0, i1⟩
    obtain ⟨iN, rfl⟩ := Int.eq_ofNat_of_zero_le i0
    have hi : iN < (nmsT c).length := by omega
    refine ⟨_, rd_ixL (at_dat (by rw [dS_len]; exact hi)), (nmsT c)[iN], ?_, List.getElem_mem hi⟩
    unfold dStrs
    rw [List.getElem_map]
  · obtain ⟨nm, rfl, h⟩ := hd
    exact ⟨nm, rfl, h⟩
  · rintro _ ⟨_, rfl, _⟩
    rfl
  obtain ⟨nm, rfl, hnm⟩ := hds
  obtain ⟨_, _, rr1, r7, _, _, rr2, r8, _⟩ := rvs
  cases rr1
  cases rr2
  have hnk : nm ∈ (chD c.cs).map (·.1) := by rw [chD_keys]; exact nmsT_mem hnm
  have E23 := e2.trans e3
  have R1 := r1.up (e1.trans E23)
  have R2 := r2.up E23
  have R3' := r3.up E23
  have R4 := r4.up E23
  have R5 := r5.up E23
  -- the first four
  have codeR : ∀ d ∈ [PyData.tuple (dInts c.st), .dict (keysD (chD c.cs)), .tuple (dInts c.bt), .tuple (dInts c.sp)], okN 3 20000 d := okN_code ok (by
    intro d hd
    simp only [List.mem_cons, List.not_mem_nil, or_false] at hd
    rcases hd with rfl | rfl | rfl | rfl <;> simp)
  have none3 : ∀ {d : PyData} {te : TE} {σ : L2.St} {Gx : Hp}, TrD K te σ Gx d → TrD K (tTup (tCons te (tCons (tC V.non) (tCons (tC V.non) tNil)))) σ Gx (Tri d .none .none) := fun h => d_tup (a_cons h (a_cons d_non (a_cons d_non a_nil))) (Nat.le_of_ble_eq_true rfl)
  refine q_newL (ds := [Tri .none .none .none, Tri (.list [.tuple (dInts c.st), .dict (keysD (chD c.cs)), .tuple (dInts c.bt), .tuple (dInts c.sp)]) .none .none, Tri (.tuple [.tuple (dInts c.st), .dict (keysD (chD c.cs)), .tuple (dInts c.bt)]) .none .none, Tri (.tuple [.tuple (dInts c.st), .dict (keysD (chD c.cs)), .tuple (dInts c.bt), .tuple (dInts c.sp), .int 1]) .none .none])
    (a_cons (none3 d_non) (a_cons (none3 (d_cb (a_cons (d_var rfl R1) a_nil) rc_listT)) (a_cons (none3 (TrD.to (d_slA (d_var rfl R1) o_none (o_some (K := K) d_int)) (by rw [show (3 : Int) = ((3 : Nat) : Int) from rfl, cut_to (by simp)]; rfl))) (a_cons (none3 (d_op (d_var rfl R1) (d_tup (a_cons d_int a_nil)) (rd_catA (Nat.le_of_ble_eq_true rfl)))) a_nil)))) (Nat.le_of_ble_eq_true rfl) A3 fun p xs0 G4 H4 e4 pM pG A4 rx0 => ?_
  have bad0 : ∀ e ∈ [Tri .none .none .none, Tri (.list [.tuple (dInts c.st), .dict (keysD (chD c.cs)), .tuple (dInts c.bt), .tuple (dInts c.sp)]) .none .none, Tri (.tuple [.tuple (dInts c.st), .dict (keysD (chD c.cs)), .tuple (dInts c.bt)]) .none .none, Tri (.tuple [.tuple (dInts c.st), .dict (keysD (chD c.cs)), .tuple (dInts c.bt), .tuple (dInts c.sp), .int 1]) .none .none], BadE e := by
    intro e he
    simp only [List.mem_cons, List.not_mem_nil, or_false] at he
    rcases he with rfl | rfl | rfl | rfl
    · exact bad_any rfl (okN.rep (n := 1) (m := 100) (okB_ok (by decide +kernel)))
    · exact bad_any rfl (okN_lst (n := 3) (m := 20000) codeR 4 (Nat.le_refl _)).rep
    · exact bad_any rfl (okN_tup (n := 3) (m := 20000) (fun d hd => codeR d (by
        simp only [List.mem_cons, List.not_mem_nil, or_false] at hd ⊢
        rcases hd with h | h | h
        · exact .inl h
        · exact .inr (.inl h)
        · exact .inr (.inr (.inl h)))) 3 (Nat.le_refl _)).rep
    · exact bad_any rfl (okN_tup (n := 3) (m := 20000) (okN_code ok (by
        intro d hd
        simp only [List.mem_cons, List.not_mem_nil, or_false] at hd
        rcases hd with rfl | rfl | rfl | rfl | rfl <;> simp)) 5 (Nat.le_refl _)).rep
  have tri : ∀ {d n : PyData} {sx : Str} {te tn : TE} {σ : L2.St} {Gx : Hp}, TrD K te σ Gx d → TrD K tn σ Gx n → TrD K (tTup (tCons te (tCons (tC (V.str sx)) (tCons tn tNil)))) σ Gx (Tri d (.str sx) n) := fun h h2 => d_tup (a_cons h (a_cons d_str (a_cons h2 a_nil))) (Nat.le_of_ble_eq_true rfl)
  have four : ∀ {d1 d2 d3 d4 : PyData} {ta tb tc td : TE} {σ : L2.St} {Gx : Hp}, TrD K ta σ Gx d1 → TrD K tb σ Gx d2 → TrD K tc σ Gx d3 → TrD K td σ Gx d4 → TrD K (tTup (tCons ta (tCons tb (tCons tc (tCons td tNil))))) σ Gx (.tuple [d1, d2, d3, d4]) := fun h1 h2 h3 h4 => d_tup (a_cons h1 (a_cons h2 (a_cons h3 (a_cons h4 a_nil)))) (Nat.le_of_ble_eq_true rfl)
  have one1 : ∀ {σ : L2.St} {Gx : Hp}, TrD K (tTup (tCons (tC (V.int 1)) tNil)) σ Gx t1 := d_tup (a_cons d_int a_nil) (Nat.le_of_ble_eq_true rfl)
  refine s_seq (s_forLI (ds := odds1) (fun k σ G' M' => ∃ (xs : List V) (es : List PyData) (x10 : Option V), σ = [some (.ref r), some v1, some v2, some v3, some v4, some v5, some v6, some v7, some v8, some (.ref p), x10, none, none] ∧ M' = upd M3 p (.lst xs) ∧ RpL K G' es xs ∧ es.length = 4 + 3 * k ∧ ∀ e ∈ es, BadE e)
    (TrD.to (d_lst (a_cons (d_tup a_nil) (a_cons (d_lst (a_cons d_int a_nil) (Nat.le_of_ble_eq_true rfl)) (a_cons (d_tup (a_cons d_int (a_cons d_int a_nil)) (Nat.le_of_ble_eq_true rfl)) (a_cons (d_tup (a_cons d_int a_nil) (Nat.le_of_ble_eq_true rfl)) (a_cons (d_tup (a_cons d_int (a_cons d_bl a_nil)) (Nat.le_of_ble_eq_true rfl)) (a_cons (d_op (d_tup (a_cons d_int a_nil) (Nat.le_of_ble_eq_true rfl)) d_int (rd_repT (fun z => nomatch z) (by decide) (by decide) (Nat.le_of_ble_eq_true rfl))) (a_cons d_non (a_cons d_int (a_cons d_str (a_cons (d_tup (a_cons d_int (a_cons d_str a_nil)) (Nat.le_of_ble_eq_true rfl)) (a_cons (d_tup (a_cons one1 a_nil) (Nat.le_of_ble_eq_true rfl)) a_nil))))))))))) (Nat.le_of_ble_eq_true rfl)) rfl) A4 ?_ ⟨xs0, _, none, rfl, rfl, rx0, rfl, bad0⟩ (fun k d hd x σ1 G5 M5 H5 e5 A5 hI rx Nx hN => ?_) fun σ1 G5 M5 H5 e5 A5 hI => ?_)
  · rintro k σ1 Ga Gb M1 e ⟨xs, es, x10, h1, h2, h3, h4⟩
    exact ⟨xs, es, x10, h1, h2, h3.up e, h4⟩
  · obtain ⟨xs, es, x10, rfl, rfl, re, hel, hbad⟩ := hI
    have hk11 : k < 11 := (List.getElem?_eq_some_iff.mp hd).1
    have ho := odds1_ok d (List.mem_of_getElem? hd)
    have E5 : Ex G3 G5 := e4.trans e5
    refine q_app A5 re rfl (tri (four (d_var rfl rx) (d_var rfl (R3'.up E5)) (d_var rfl (R4.up E5)) (d_var rfl (R5.up E5))) d_non) (by omega) fun xs1 G6 H6 e6 A6 re1 => ?_
    have E6 := E5.trans e6
    refine q_app A6 re1 rfl (tri (four (d_var rfl (R2.up E6)) (d_var rfl (R3'.up E6)) (d_var rfl (R4.up E6)) (d_var rfl (rx.up e6))) d_non) (by rw [List.length_append]; simp only [List.length_singleton]; omega) fun xs2 G7 H7 e7 A7 re2 => ?_
    have E7 := E6.trans e7
    have dd : TrD K _ [some (.ref r), some v1, some v2, some v3, some v4, some v5, some v6, some v7, some v8, some (.ref p), some x, none, none] G7 (.dict (keysD (repD (chD c.cs) nm d))) := TrD.to (d_cb (a_cons (TrD.to (d_op (d_items (d_var (i := 3) rfl (R3'.up E7))) (d_lst (a_cons (d_tup (a_cons (d_var (i := 7) rfl (r7.up (e4.trans (e5.trans (e6.trans e7))))) (a_cons (d_var (i := 10) rfl (rx.up (e6.trans e7))) a_nil)) (Nat.le_of_ble_eq_true rfl)) a_nil) (Nat.le_of_ble_eq_true rfl)) (rd_cat (by rw [List.length_map, keysD_len, hck]; simp only [List.length_singleton]; omega))) (d2 := .list ((keysD (chD c.cs ++ [(nm, d)])).map Sb.pairD)) (by unfold keysD; rw [List.map_append, List.map_append]; rfl)) a_nil) rc_dictM) (by rw [merge_rep ok hnk])
    refine s_app A7 re2 rfl (tri (four (d_var rfl (R2.up E7)) dd d_non d_non) (d_var rfl (r7.up (e4.trans (e5.trans (e6.trans e7)))))) (by rw [List.length_append, List.length_append]; simp only [List.length_singleton]; omega) fun xs3 G8 H8 e8 A8 re3 => ?_
    refine hN _ G8 _ H8 ((e6.trans e7).trans e8) A8 ⟨_, _, _, rfl, rfl, re3, ?_, ?_⟩
    · simp only [List.length_append, List.length_singleton]
      omega
    · exact bad_snoc (bad_snoc (bad_snoc hbad (bad_start ok ho.1 ho.2)) (bad_stop ok ho.1 ho.2)) (bad_one ok hnk ho.1 ho.2)
  obtain ⟨xs, es, x10, rfl, rfl, re, hel, hbad⟩ := hI
  dsimp only
  have hl1 : odds1.length = 11 := rfl
  rw [hl1] at hel
  have E5 : Ex G3 G5 := e4.trans e5
  have R8 := r8.up E5
  -- odds
  have ks : ∀ {k : Str} {d : PyData} {tk td : TE} {σ : L2.St} {Gx : Hp}, TrD K tk σ Gx (.str k) → TrD K td σ Gx d → TrP K [(tk, td)] σ Gx [(k, d)] := fun h1 h2 => p_cons h1 h2 p_nil
  refine q_set (d := .list (odds2 fr)) (d_lst (a_cons d_non (a_cons (d_lst a_nil) (a_cons (d_lst (a_cons (d_var rfl R8) a_nil) (Nat.le_of_ble_eq_true rfl)) (a_cons d_newD (a_cons (d_dispM (p_cons (d_var rfl R8) one1 (p_cons d_str one1 p_nil)) (Nat.le_of_ble_eq_true rfl)) (a_cons (d_dispM (p_cons d_str one1 p_nil) (Nat.le_of_ble_eq_true rfl)) (a_cons (d_dispM (p_cons d_str one1 p_nil) (Nat.le_of_ble_eq_true rfl)) (a_cons (d_dispM (p_cons d_str one1 (p_cons (d_var rfl R8) d_int p_nil)) (Nat.le_of_ble_eq_true rfl)) (a_cons (d_dispI d_int one1) a_nil))))))))) (Nat.le_of_ble_eq_true rfl)) A5 fun v11 G6 H6 e6 A6 r11 => ?_
  have R11 := r11
  refine s_seq (s_forLI (ds := odds2 fr) (fun k σ G' M' => ∃ (xs : List V) (es : List PyData) (x10 : Option V), σ = [some (.ref r), some v1, some v2, some v3, some v4, some v5, some v6, some v7, some v8, some (.ref p), x10, some v11, none] ∧ M' = upd M3 p (.lst xs) ∧ RpL K G' es xs ∧ es.length = 37 + k ∧ ∀ e ∈ es, BadE e) (d_var rfl r11) A6 ?_ ⟨xs, es, x10, rfl, rfl, re.up e6, hel, hbad⟩ (fun k d hd x σ1 G7 M7 H7 e7 A7 hI rx Nx hN => ?_) fun σ1 G7 M7 H7 e7 A7 hI => ?_)
  · rintro k σ1 Ga Gb M1 e ⟨xs, es, x10, h1, h2, h3, h4⟩
    exact ⟨xs, es, x10, h1, h2, h3.up e, h4⟩
  · obtain ⟨xs, es, x10, rfl, rfl, re, hel, hbad⟩ := hI
    have hk9 : k < 9 := (List.getElem?_eq_some_iff.mp hd).1
    have ho := odds2_ok hfr d (List.mem_of_getElem? hd)
    have E7 : Ex G3 G7 := (E5.trans e6).trans e7
    refine s_app A7 re rfl (tri (four (d_var rfl (R2.up E7)) (d_var rfl rx) d_int d_int) d_non) (by omega) fun xs1 G8 H8 e8 A8 re1 => ?_
    refine hN _ G8 _ H8 e8 A8 ⟨_, _, _, rfl, rfl, re1, ?_, bad_snoc hbad (bad_all ok ho.1 (keysSm_ok ho.2.1) ho.2.2 (okB_ok (by decide +kernel)) (okB_ok (by decide +kernel)))⟩
    simp only [List.length_append, List.length_singleton]
    omega
  obtain ⟨xs, es, x10, rfl, rfl, re, hel, hbad⟩ := hI
  dsimp only
  have hl2 : (odds2 fr).length = 9 := rfl
  rw [hl2] at hel
  have E7 : Ex G3 G7 := (E5.trans e6).trans e7
  have d11 : TrD K _ [some (.ref r), some v1, some v2, some v3, some v4, some v5, some v6, some v7, some v8, some (.ref p), x10, some v11, none] G7 (dM kvs11) := d_cb (a_cons (TrD.to (d_lcS (i := 12) (p := fun _ => true) (f := fun x => .tuple [.str x, t1]) (d_str (x := "0123456789a")) (by decide +kernel) (fun _ _ _ _ => b_yes) fun x hx _ Gx ex => d_tup (a_cons (d_var (K := K) (i := 12) rfl (d := .str x) rfl) (a_cons one1 a_nil)) (Nat.le_of_ble_eq_true rfl)) (d2 := .list ((keysD kvs11).map Sb.pairD)) (by rw [filt_true]; unfold kvs11 keysD; rw [List.map_map, List.map_map]; rfl)) a_nil) rc_dictM
  refine q_app A7 re rfl (tri (four (d_var rfl (R2.up E7)) d11 (d_var rfl (R4.up E7)) (d_var rfl (R5.up E7))) d_non) (by omega) fun xs1 G8 H8 e8 A8 re1 => ?_
  have E8 := E7.trans e8
  have bad1 := bad_snoc hbad (bad_all ok eleven_ok.1 (keysSm_ok eleven_ok.2.1) eleven_ok.2.2 (okN_bt ok) (okN_sp ok))
  refine q_app A8 re1 rfl (tri (four (d_var rfl (R2.up E8)) (d_dispM (kvs := kvsZ) (p_cons d_str d_int (p_cons d_str d_non (p_cons d_str one1 p_nil))) (Nat.le_of_ble_eq_true rfl)) (d_var rfl (R4.up E8)) (d_var rfl (R5.up E8))) d_str) (by rw [List.length_append]; simp only [List.length_singleton]; omega) fun xs2 G9 H9 e9 A9 re2 => ?_
  have E9 := E8.trans e9
  have zf : R_foc2 [dM kvsZ] (.list [.str "b"]) := by
    have z := foc_good z_ok.1
    rw [z_ok.2.1] at z
    exact z
  have nb : isNameS "b" = true := by decide +kernel
  have bad2 := bad_snoc bad1 (bad_four (s := .tuple (dInts c.st)) (b := .tuple (dInts c.bt)) (p := .tuple (dInts c.sp)) zf (.inr (.inr ⟨"b", rfl, nb⟩)) (F_chars (areWD_ok ok.st)) w_chars o_chars (.inr ⟨"b", rfl, nb⟩) (rep4 (okN_st ok) z_ok.2.2 (okN_bt ok) (okN_sp ok)))
  obtain ⟨es2, re2, hel2, bad2⟩ : ∃ es2, RpL K G9 es2 xs2 ∧ es2.length = 48 ∧ ∀ x ∈ es2, BadE x := ⟨_, re2, by simp only [List.length_append, List.length_singleton]; omega, bad2⟩
  refine q_grow (es := [Tri (.tuple [.int 0, .none, .int 0, .int 0]) (.str "start") .none, Tri (.tuple [.tuple (dInts c.st), .dict (keysD (chD c.cs)), .int 0, .int 0]) (.str "between") .none]) A9 re2 rfl (fun Gx ex => a_cons (tri (four d_int d_non d_int d_int) d_non) (a_cons (tri (four (d_var rfl (R2.up (E9.trans ex))) (d_var rfl (R3'.up (E9.trans ex))) d_int d_int) d_non) a_nil)) (by simp only [List.length_cons, List.length_nil]; omega) fun p' xs3 G10 H10 e10 pM' A10 re3 => ?_
  rw [cut_id pM] at pM' A10
  have E10 := E9.trans e10
  have zI : okN 3 20000 (.int 0) := okB_ok (by decide +kernel)
  have bad3 : ∀ x ∈ es2 ++ [Tri (.tuple [.int 0, .none, .int 0, .int 0]) (.str "start") .none, Tri (.tuple [.tuple (dInts c.st), .dict (keysD (chD c.cs)), .int 0, .int 0]) (.str "between") .none], BadE x := fun x hx => by
    rcases List.mem_append.mp hx with z | z
    · exact bad2 x z
    · simp only [List.mem_cons, List.not_mem_nil, or_false] at z
      rcases z with rfl | rfl
      · exact bad_four (foc_bad (d := .none) rfl (fun _ z => nomatch z)) (.inr (.inl rfl)) (F_start rfl) w_start o_start (.inl rfl) (rep4 zI (okB_ok (by decide +kernel)) zI zI)
      · exact bad_four (foc_ok ok.cs) (.inl rfl) (F_between (areWD_ok ok.st) rfl) w_between o_between (.inl rfl) (rep4 (okN_st ok) (okN_ch ok) zI zI)
  have hel3 : (es2 ++ [Tri (.tuple [.int 0, .none, .int 0, .int 0]) (.str "start") .none, Tri (.tuple [.tuple (dInts c.st), .dict (keysD (chD c.cs)), .int 0, .int 0]) (.str "between") .none] : List PyData).length = 50 := by
    simp only [List.length_append, List.length_cons, List.length_nil]
    omega
  refine q_app A10 re3 rfl (tri (four (d_tup a_nil) (d_dispM (p_cons d_str d_int (p_cons (d_var rfl (r8.up E10)) one1 p_nil)) (Nat.le_of_ble_eq_true rfl)) (d_var rfl (R4.up E10)) (d_var rfl (R5.up E10))) d_non) (by rw [hel3]; decide) fun xs4 G11 H11 e11 A11 re4 => ?_
  have E11 := E10.trans e11
  have bad4 := bad_snoc bad3 (bad_four (s := .tuple []) (b := .tuple (dInts c.bt)) (p := .tuple (dInts c.sp)) (foc_good (aF_ok hfr).1) (okFl_fault (aF_ok hfr).1) (F_start rfl) w_start o_start (.inl rfl) (rep4 (okB_ok (by decide +kernel)) (aF_ok hfr).2 (okN_bt ok) (okN_sp ok)))
  refine s_seq (s_forLI (ds := odds3) (fun k σ G' M' => ∃ (xs : List V) (es : List PyData) (x10 : Option V), σ = [some (.ref r), some v1, some v2, some v3, some v4, some v5, some v6, some v7, some v8, some (.ref p'), x10, some v11, none] ∧ M' = upd M3 p' (.lst xs) ∧ RpL K G' es xs ∧ es.length = 51 + k ∧ ∀ e ∈ es, BadE e)
    (TrD.to (d_lst (a_cons d_non (a_cons (d_lst a_nil) (a_cons (d_lst (a_cons d_int a_nil) (Nat.le_of_ble_eq_true rfl)) (a_cons (d_tup (a_cons d_int (a_cons d_int (a_cons d_int a_nil))) (Nat.le_of_ble_eq_true rfl)) (a_cons (d_tup (a_cons d_int a_nil) (Nat.le_of_ble_eq_true rfl)) (a_cons (d_tup (a_cons d_int (a_cons d_int a_nil)) (Nat.le_of_ble_eq_true rfl)) (a_cons (d_tup (a_cons d_bl a_nil) (Nat.le_of_ble_eq_true rfl)) (a_cons d_int a_nil)))))))) (Nat.le_of_ble_eq_true rfl)) rfl) A11 ?_ ⟨xs4, _, x10, rfl, rfl, re4, ?_, bad4⟩ (fun k d hd x σ1 G12 M12 H12 e12 A12 hI rx Nx hN => ?_) fun σ1 G12 M12 H12 e12 A12 hI => ?_)
  · rintro k σ1 Ga Gb M1 e ⟨xs, es, x10, h1, h2, h3, h4⟩
    exact ⟨xs, es, x10, h1, h2, h3.up e, h4⟩
  · rw [List.length_append, hel3]
    rfl
  · obtain ⟨xs, es, x10, rfl, rfl, re, hel, hbad⟩ := hI
    have hk8 : k < 8 := (List.getElem?_eq_some_iff.mp hd).1
    have ho := odds3_ok d (List.mem_of_getElem? hd)
    have E12 := E11.trans e12
    refine s_app A12 re rfl (tri (four (d_var rfl (R2.up E12)) (d_var rfl (R3'.up E12)) (d_var rfl rx) (d_var rfl (R5.up E12))) d_non) (by omega) fun xs1 G13 H13 e13 A13 re1 => ?_
    refine hN _ G13 _ H13 e13 A13 ⟨_, _, _, rfl, rfl, re1, ?_, bad_snoc hbad (bad_between ok ho.1 ho.2)⟩
    simp only [List.length_append, List.length_singleton]
    omega
  obtain ⟨xs, es, x10, rfl, rfl, re, hel, hbad⟩ := hI
  have hl3 : odds3.length = 8 := rfl
  rw [hl3] at hel
  obtain ⟨G13, e13, A13, rd⟩ := At.done A12 pM' re
  exact s_ret (D := { nx := fun x H' => Q V.non H', rt := Q }) (σ := [some (.ref r), some v1, some v2, some v3, some v4, some v5, some v6, some v7, some v8, some (.ref p'), x10, some v11, none]) (d_var rfl rd) A13 fun v G14 H14 e14 A14 rv => q _ v G14 M3 H14 ((((e1.trans e2).trans e3).trans (E11.trans (e12.trans e13))).trans e14) A14 S3 R3 ⟨es, rfl, by omega, hbad⟩ rv
end
end K99

namespace K99
open PySem PySem.Spec PyProof.Rows L2 L2H Sb
local macro_rules | `(tactic| walk_at "ex") => `(tactic| first | exact Ex.refl _ | assumption | (refine' Ex.trans ?_ (by assumption); walk_at "ex"))
local macro_rules | `(tactic| walk_at "rp") => `(tactic| first | assumption | (refine' Rp.up ?e (by assumption); (case e => walk_at "ex")) | exact rfl)
local macro_rules | `(tactic| walk_at "rd") => `(tactic| with_reducible first | exact rd_add | exact rd_sub | exact rd_lt | exact rd_le | exact rd_gt | exact rd_ge | exact rd_eqI | exact rd_neI | exact rd_eqS | exact rd_neS | exact rd_isN | exact rd_ltS | exact rd_inSign | exact rd_eqE)
local macro_rules | `(tactic| walk_at "tr") => `(tactic| first
  | with_reducible exact d_int
  | with_reducible exact d_str
  | with_reducible exact d_bl
  | with_reducible exact d_non
  | with_reducible exact a_nil
  | with_reducible exact b_yes
  | with_reducible exact o_none
  | with_reducible exact d_newD
  | ((with_reducible refine' d_var ?i ?r); (case i => rfl); (case r => walk_at "rp"))
  | ((with_reducible refine' a_cons ?a ?b); (case a => walk_at "tr"); (case b => walk_at "tr"))
  | ((with_reducible refine' a_star ?a ?b); (case a => walk_at "tr"); (case b => walk_at "tr"))
  | ((with_reducible refine' d_isi ?a ?b); (case a => walk_at "tr"); (case b => decide))
  | ((with_reducible refine' d_op ?a ?b ?c); (case a => walk_at "tr"); (case b => walk_at "tr"); (case c => walk_at "rd"))
  | ((with_reducible refine' d_tup ?a ?b); (case a => walk_at "tr"); (case b => first | decide | (simp; done)))
  | ((with_reducible refine' d_lst ?a ?b); (case a => walk_at "tr"); (case b => first | decide | (simp; done)))
  | ((with_reducible refine' o_some ?a); (case a => walk_at "tr"))
  | ((with_reducible refine' b_B ?a); (case a => walk_at "tr"))
  | ((with_reducible refine' b_T ?a); (case a => walk_at "tr"))
  | ((with_reducible refine' b_not ?a); (case a => walk_at "tr"))
  | ((with_reducible refine' v_not ?a); (case a => walk_at "tr"))
  | ((with_reducible refine' b_or ?a ?b); (case a => walk_at "tr"); (case b => intro _; walk_at "tr"))
  | ((with_reducible refine' b_and ?a ?b); (case a => walk_at "tr"); (case b => intro _; walk_at "tr"))
  | ((with_reducible refine' v_or ?a ?b); (case a => walk_at "tr"); (case b => intro _; walk_at "tr"))
  | ((with_reducible refine' v_and ?a ?b); (case a => walk_at "tr"); (case b => intro _; walk_at "tr"))
  | assumption)


/-! ### values that are no scans -/
def BadS (e : PyData) : Prop := ∃ v i, e = .tuple [v, i] ∧ okRep v ∧ okN 0 200 i ∧ R_rs2 [v] (.exc "InvalidScan" [("index", i)])
theorem bad_scan {v i : PyData} (h : ∃ r, fScan v = i :: r) (hl : ∀ xs, v = .list xs → xs.length ≤ 10000) (hv : okRep v) (hi : okN 0 200 i) : BadS (.tuple [v, i]) := by
  obtain ⟨r, hr⟩ := h
  exact ⟨v, i, rfl, hv, hi, v, rfl, hl, by rw [hr]⟩
def sevens (n : Nat) : List PyData := dInts (List.replicate n 7)
theorem sevens_len (n : Nat) : (sevens n).length = n := by unfold sevens; rw [dInts_len, List.length_replicate]
theorem sevens_mem {n : Nat} {d : PyData} (h : d ∈ sevens n) : d = .int 7 := by
  obtain ⟨k, hk, rfl⟩ := mem_ints h
  rw [List.eq_of_mem_replicate hk]
theorem rep_flat (n : Nat) (d : PyData) : (List.replicate n [d]).flatten = List.replicate n d := by
  induction n with
  | zero => rfl
  | succ n ih => rw [List.replicate_succ, List.flatten_cons, ih]; rfl
theorem seven_flat (n : Nat) : (List.replicate n [PyData.int 7]).flatten = sevens n := by
  rw [rep_flat]
  unfold sevens dInts
  rw [List.map_replicate]
theorem okN7 : okN 0 40 (.int 7) := okN_int (by decide) (by decide)
theorem fScan_at {a r : List PyData} {o : PyData} (ha : ∀ d ∈ a, d = .int 7) (ho : isIntD o (some 1) none = false) (hl : (a ++ o :: r).length ≤ 400) : ∃ t, fScan (.list (a ++ o :: r)) = .int (a.length : Int) :: t := by
  refine ⟨[], ?_⟩
  unfold fScan
  simp only
  rw [if_pos ⟨by rw [List.length_append, List.length_cons]; omega, hl⟩]
  have e1 : (a.zipIdx.filter fun q => !isIntD q.1 (some 1) none) = [] := by
    rw [List.filter_eq_nil_iff]
    rintro ⟨d, k⟩ hq
    have hd : d ∈ a := by
      have := List.mem_zipIdx hq
      rw [this.2.2]
      exact List.getElem_mem _
    rw [ha d hd]
    exact fun z => by cases z
  rw [List.zipIdx_append, List.filter_append, e1, List.nil_append, List.zipIdx_cons, List.filter_cons]
  rw [if_pos (by show (!isIntD o (some 1) none) = true; rw [ho]; rfl)]
  simp
def oddsS : List PyData := [.int 0, .int (-1), .none, .bool true, .str "7", .list [.int 7], .tuple [.int 7], .int (-1000000000000000000000000000000)]
theorem oddsS_ok : ∀ o ∈ oddsS, isIntD o (some 1) none = false ∧ okN 1 400 o := by
  have h : oddsS.all (fun o => !isIntD o (some 1) none && okB 1 400 o) = true := by decide +kernel
  intro o ho
  obtain ⟨h1, h2⟩ := Bool.and_eq_true_iff.mp (List.all_eq_true.mp h o ho)
  exact ⟨by simpa using h1, okB_ok h2⟩
theorem bad_list {a r : List PyData} {o : PyData} {k : Nat} (ha : ∀ d ∈ a, d = .int 7) (hk : a.length = k) (ho : isIntD o (some 1) none = false) (hl : (a ++ o :: r).length ≤ 400) (hn : ∀ d ∈ a ++ o :: r, okN 1 400 d) : BadS (.tuple [.list (a ++ o :: r), .int (k : Int)]) := by
  obtain ⟨t, ht⟩ := fScan_at ha ho hl
  rw [hk] at ht
  refine bad_scan ⟨t, ht⟩ (fun xs hx => by cases hx; omega) (okN_lst hn 400 hl).rep (okN_int (by omega) ?_).le
  have : a.length ≤ 400 := by rw [List.length_append] at hl; omega
  omega
section
variable {P : Program} {w : World} {K : PySem.W.Frag} {mg : Str → Option Value} {base : Heap}
def BadSL (d : PyData) : Prop := ∃ es, d = .list es ∧ es.length ≤ 1000 ∧ ∀ e ∈ es, BadS e
def R_badscans : List PyData → Nat → (PyData → Prop) → Prop := fun ds k Φ => ds = [] ∧ k = 2 ∧ Φ = BadSL
theorem F__law_bad_scans (T : Tx K mg) : Fd P w K mg base CX0 4 "_law_bad_scans" (ESp K R_badscans) [] := by
  obtain ⟨fd, F⟩ := T.f__law_bad_scans
  refine ⟨_, fd, ["reel"], [], T.g__law_bad_scans, F.kp, F.bindsN fun _ _ _ _ _ _ us hl => match us, hl with | [_], _ => rfl, .nil, ?_⟩
  refine fnG_of F sc__law_bad_scans (fun vs H Q E h => ESp.len (n := 0) (by rintro _ _ _ ⟨rfl, _⟩; rfl) h) (fun cdv A outer s H vs Q E hg hr h => ?_)
  obtain ⟨r, ws, G, M, n, k, ds, Φ, rfl, hA, hRL, hws, ⟨rfl, rfl, rfl⟩, hn, q⟩ := h
  have hw0 : ws = [] := hws
  subst hw0
  refine ⟨_, PSs.nox (pss_cons (ps_set (i := 1) sc__law_bad_scans.nd rfl (by first | exact Or.inl rfl | exact Or.inr rfl) (pe_op op_add pe_int (pe_fd (F__law_spin (P := P) (w := w) (base := base) T) hg (hr.mono (by decide)) pass0 (pa_cons (pv 0) (pa_cons pe_int pa_nil)))))
    (pss_cons (ps_par (i := 2) (j := 3) (by rfl) sc__law_bad_scans.nd rfl rfl (by decide) rfl rfl (pa_cons (pe_op op_rep (pe_lst (pa_cons pe_int pa_nil)) (pv 1)) (pa_cons (pe_fd (F__law_spin (P := P) (w := w) (base := base) T) hg (hr.mono (by decide)) pass0 (pa_cons (pv 0) (pa_cons (pv 1) pa_nil))) pa_nil)) (by rfl))
    (pss_cons (ps_set (i := 4) sc__law_bad_scans.nd rfl (by first | exact Or.inl rfl | exact Or.inr rfl) (pe_lst (pa_cons (pe_tup (pa_cons pe_non (pa_cons pe_non pa_nil))) (pa_cons (pe_tup (pa_cons (pe_lst pa_nil) (pa_cons pe_non pa_nil))) (pa_cons (pe_tup (pa_cons (pe_tup (pa_cons pe_int (pa_cons pe_int pa_nil))) (pa_cons pe_non pa_nil))) (pa_cons (pe_tup (pa_cons (pe_op op_rep (pe_lst (pa_cons pe_int pa_nil)) pe_int) (pa_cons pe_non pa_nil))) (pa_cons (pe_tup (pa_cons pe_dnewK (pa_cons pe_non pa_nil))) (pa_cons (pe_tup (pa_cons pe_str (pa_cons pe_non pa_nil))) (pa_cons (pe_tup (pa_cons pe_int (pa_cons pe_non pa_nil))) pa_nil)))))))))
    (pss_cons (ps_for PassesOwn.never rfl (pi_list (pe_lst (pa_cons pe_int (pa_cons (pe_un un_neg pe_int) (pa_cons pe_non (pa_cons pe_bl (pa_cons pe_str (pa_cons (pe_lst (pa_cons pe_int pa_nil)) (pa_cons (pe_tup (pa_cons pe_int pa_nil)) (pa_cons (pe_op op_mulW (pe_op op_pow pe_int pe_int) (pe_un un_neg pe_int)) pa_nil)))))))))) (pg_name (i := 5) sc__law_bad_scans.nd rfl (by first | exact Or.inl rfl | exact Or.inr rfl)) (pss_one (ps_set (i := 4) sc__law_bad_scans.nd rfl (by first | exact Or.inl rfl | exact Or.inr rfl) (pe_op op_cat (pv 4) (pe_lst (pa_cons (pe_tup (pa_cons (pe_op op_cat (pe_op op_cat (pe_slice sl_list (pv 2) po_none (po_some (pv 3))) (pe_lst (pa_cons (pv 5) pa_nil))) (pe_slice sl_list (pv 2) (po_some (pv 3)) po_none)) (pa_cons (pv 3) pa_nil))) (pa_cons (pe_tup (pa_cons (pe_op op_cat (pe_op op_cat (pe_slice sl_list (pv 2) po_none (po_some (pv 3))) (pe_lst (pa_cons (pv 5) pa_nil))) (pe_slice sl_list (pv 2) (po_some (pe_op op_add (pv 3) pe_int)) po_none)) (pa_cons (pv 3) pa_nil))) pa_nil)))))))
    (pss_one (ps_ret (pe_op op_cat (pv 4) (pe_lst (pa_cons (pe_tup (pa_cons (pe_op op_cat (pv 2) (pe_lst (pa_cons pe_int (pa_cons pe_int pa_nil)))) (pa_cons (pv 1) pa_nil))) (pa_cons (pe_tup (pa_cons (pe_op op_rep (pe_lst (pa_cons pe_non pa_nil)) pe_int) (pa_cons pe_int pa_nil))) pa_nil)))))))))), ?_⟩
  rw [show L2.start ["reel", "size", "scan", "at", "found", "odd"] [(.ref r)] = [some (.ref r), none, none, none, none, none] from rfl]
  dsimp only [xK]
  -- size
  refine q_setE (n' := n + 1) (Φ := fun d => ∃ sz : Nat, d = .int sz ∧ 1 ≤ sz ∧ sz ≤ 9) (e_op (Φ1 := fun d => d = .int 1) (Φ2 := RI 0 8) (e_D d_int rfl) (fun _ _ => spin_c rfl (by decide) (by decide) (by omega)) ?_) hA .refl hRL fun d v1 G1 M1 H1 e1 A1 S1 R1 hd r1 => ?_
  · rintro _ _ rfl ⟨i, rfl, h0, h1⟩
    obtain ⟨iN, rfl⟩ := Int.eq_ofNat_of_zero_le h0
    exact ⟨_, rd_add, 1 + iN, by congr 1, by omega, by omega⟩
  obtain ⟨sz, rfl, s1, s9⟩ := hd
  have scanT : TrD K (tOp rRep (tLst (tCons (tC (V.int 7)) tNil)) (tVar 1)) [some (.ref r), some v1, none, none, none, none] G1 (.list (sevens sz)) := TrD.to (d_op (d_lst (a_cons d_int a_nil) (Nat.le_of_ble_eq_true rfl)) (d_var rfl r1) (rd_rep (by omega) (by omega) (by simp only [List.length_singleton, Int.toNat_natCast]; omega))) (by rw [Int.toNat_natCast, seven_flat])
  refine q_parE (n' := n + 2) (Ψ := fun ds => ∃ at' : Nat, ds = [.list (sevens sz), .int at'] ∧ at' < sz) (ea_cons (e_D scanT rfl) fun d hd => ea_cons (m := n + 2) (spin_call (Φ := fun d => ∃ at' : Nat, d = .int at' ∧ at' < sz) rfl (e_D (d_var rfl r1) ⟨_, rfl, by omega, by omega, fun d ⟨i, h, h0, h1⟩ => ⟨i.toNat, by rw [h]; congr 1; omega, by omega⟩⟩) (by omega)) fun d2 hd2 => ea_nil ?_) ?_ A1 S1 R1 fun ds v2 v3 G2 M2 H2 e2 A2 S2 R2 hds rvs => ?_
  · obtain ⟨k, rfl, hk⟩ := hd2
    subst hd
    exact ⟨k, rfl, hk⟩
  · rintro _ ⟨_, rfl, _⟩
    rfl
  obtain ⟨at', rfl, hat⟩ := hds
  obtain ⟨_, _, rr1, r2, _, _, rr2, r3, _⟩ := rvs
  cases rr1
  cases rr2
  have d2' : ∀ {a b : PyData} {ta tb : TE} {σ : L2.St} {Gx : Hp}, TrD K ta σ Gx a → TrD K tb σ Gx b → TrD K (tTup (tCons ta (tCons tb tNil))) σ Gx (.tuple [a, b]) := fun h1 h2 => d_tup (a_cons h1 (a_cons h2 a_nil)) (Nat.le_of_ble_eq_true rfl)
  have neg : ∀ {i : Int} {σ : L2.St} {Gx : Hp}, TrD K (tUn (rU fun i => V.int (-i)) (tC (V.int i))) σ Gx (.int (-i)) := d_un d_int (fun G M H x A h Q q => ⟨_, h, q.here A rfl⟩)
  refine q_set (d := .list [.tuple [.none, .none], .tuple [.list [], .none], .tuple [.tuple [.int 7, .int 7], .none], .tuple [.list (sevens 401), .none], .tuple [.dict (keysD []), .none], .tuple [.str "77", .none], .tuple [.int 7, .none]])
    (d_lst (a_cons (d2' d_non d_non) (a_cons (d2' (d_lst a_nil) d_non) (a_cons (d2' (d_tup (a_cons d_int (a_cons d_int a_nil)) (Nat.le_of_ble_eq_true rfl)) d_non) (a_cons (d2' (TrD.to (d_op (d_lst (a_cons d_int a_nil) (Nat.le_of_ble_eq_true rfl)) d_int (rd_rep (by decide) (by decide) (by decide))) (by rw [seven_flat]; rfl)) d_non) (a_cons (d2' d_newD d_non) (a_cons (d2' d_str d_non) (a_cons (d2' d_int d_non) a_nil))))))) (Nat.le_of_ble_eq_true rfl)) A2 fun v4 G3 H3 e3 A3 r4 => ?_
  have bad0 : ∀ e ∈ [PyData.tuple [.none, .none], .tuple [.list [], .none], .tuple [.tuple [.int 7, .int 7], .none], .tuple [.list (sevens 401), .none], .tuple [.dict (keysD []), .none], .tuple [.str "77", .none], .tuple [.int 7, .none]], BadS e := by
    have n0 : okN 0 200 .none := okB_ok (by decide +kernel)
    intro e he
    simp only [List.mem_cons, List.not_mem_nil, or_false] at he
    rcases he with rfl | rfl | rfl | rfl | rfl | rfl | rfl
    · exact bad_scan ⟨[], rfl⟩ (fun _ z => nomatch z) (okN.rep (n := 1) (m := 100) (okB_ok (by decide +kernel))) n0
    · exact bad_scan ⟨[], rfl⟩ (fun _ z => by cases z; exact Nat.zero_le _) (okN.rep (n := 1) (m := 100) (okB_ok (by decide +kernel))) n0
    · exact bad_scan ⟨[], rfl⟩ (fun _ z => nomatch z) (okN.rep (n := 1) (m := 200) (okB_ok (by decide +kernel))) n0
    · refine bad_scan ⟨[], ?_⟩ (fun xs z => by cases z; rw [sevens_len]; decide) (okN_lst (n := 0) (m := 40) (fun d hd => by rw [sevens_mem hd]; exact okN7) 401 (Nat.le_of_eq (sevens_len _))).rep n0
      unfold fScan
      simp only
      rw [if_neg (by rw [sevens_len]; decide)]
    · exact bad_scan ⟨[], rfl⟩ (fun _ z => nomatch z) (okN.rep (n := 1) (m := 100) (okB_ok (by decide +kernel))) n0
    · exact bad_scan ⟨[], rfl⟩ (fun _ z => nomatch z) (okN.rep (n := 1) (m := 100) (okB_ok (by decide +kernel))) n0
    · exact bad_scan ⟨[], rfl⟩ (fun _ z => nomatch z) (okN.rep (n := 1) (m := 100) (okB_ok (by decide +kernel))) n0
  have hsl := sevens_len sz
  have tk7 : ∀ d ∈ (sevens sz).take at', d = .int 7 := fun d hd => sevens_mem (List.mem_of_mem_take hd)
  have tkl : ((sevens sz).take at').length = at' := by rw [List.length_take, hsl]; omega
  have okS : ∀ {k : Nat} {o : PyData}, okN 1 400 o → ∀ d ∈ (sevens sz).take at' ++ o :: (sevens sz).drop k, okN 1 400 d := fun ho d hd => by
    rcases List.mem_append.mp hd with z | z
    · rw [tk7 d z]; exact okN7.le
    · rcases List.mem_cons.mp z with rfl | z
      · exact ho
      · rw [sevens_mem (List.mem_of_mem_drop z)]; exact okN7.le
  refine s_seq (s_forLI (ds := oddsS) (fun k σ G' M' => ∃ (x4 : V) (es : List PyData) (x5 : Option V), σ = [some (.ref r), some v1, some v2, some v3, some x4, x5] ∧ M' = M2 ∧ Rp K G' (.list es) x4 ∧ es.length = 7 + 2 * k ∧ ∀ e ∈ es, BadS e)
    (TrD.to (d_lst (a_cons d_int (a_cons neg (a_cons d_non (a_cons d_bl (a_cons d_str (a_cons (d_lst (a_cons d_int a_nil) (Nat.le_of_ble_eq_true rfl)) (a_cons (d_tup (a_cons d_int a_nil) (Nat.le_of_ble_eq_true rfl)) (a_cons (d_op (d_op d_int d_int (rd_pow ⟨by decide, by decide, by decide⟩)) neg (rd_mul (mul_ok (by decide) (by decide)))) a_nil)))))))) (Nat.le_of_ble_eq_true rfl)) rfl) A3 ?_ ⟨v4, _, none, rfl, rfl, r4, rfl, bad0⟩ (fun k d hd x σ1 G5 M5 H5 e5 A5 hI rx Nx hN => ?_) fun σ1 G5 M5 H5 e5 A5 hI => ?_)
  · rintro k σ1 Ga Gb M1 e ⟨x4, es, x5, h1, h2, h3, h4⟩
    exact ⟨x4, es, x5, h1, h2, h3.up e, h4⟩
  · obtain ⟨x4, es, x5, rfl, rfl, re, hel, hbad⟩ := hI
    have hk8 : k < 8 := (List.getElem?_eq_some_iff.mp hd).1
    have ho := oddsS_ok d (List.mem_of_getElem? hd)
    have E5 := e3.trans e5
    have pre : TrD K _ [some (.ref r), some v1, some v2, some v3, some x4, some x] G5 (.list ((sevens sz).take at' ++ [d])) := d_op (TrD.to (d_slL (d_var (i := 2) rfl (r2.up E5)) o_none (o_some (d_var (i := 3) rfl (r3.up E5)))) (by rw [cut_to (by rw [hsl]; omega)])) (d_lst (a_cons (d_var (i := 5) rfl rx) a_nil) (Nat.le_of_ble_eq_true rfl)) (rd_cat (by rw [tkl]; simp only [List.length_singleton]; omega))
    have suf : ∀ {te : TE} {j : Nat}, j ≤ sz → TrD K te [some (.ref r), some v1, some v2, some v3, some x4, some x] G5 (.int (j : Int)) → TrD K (tSl (rSlL K) (tVar 2) (tPart te) tNoPart) [some (.ref r), some v1, some v2, some v3, some x4, some x] G5 (.list ((sevens sz).drop j)) := fun hj h => TrD.to (d_slL (d_var (i := 2) rfl (r2.up E5)) (o_some h) o_none) (by rw [cut_from (by rw [hsl]; exact hj)])
    have whole : ∀ {te : TE} {j : Nat}, j ≤ sz → TrD K te [some (.ref r), some v1, some v2, some v3, some x4, some x] G5 (.int (j : Int)) → TrD K _ [some (.ref r), some v1, some v2, some v3, some x4, some x] G5 (.list ((sevens sz).take at' ++ d :: (sevens sz).drop j)) := fun {te j} hj h => TrD.to (d_op pre (suf hj h) (rd_cat (by rw [List.length_append, tkl, List.length_drop, hsl]; simp only [List.length_singleton]; omega))) (by rw [List.append_assoc]; rfl)
    have len4 : ∀ j : Nat, ((sevens sz).take at' ++ d :: (sevens sz).drop j).length ≤ 400 := fun j => by
      rw [List.length_append, tkl, List.length_cons, List.length_drop, hsl]
      omega
    refine s_set (d := .list (es ++ [.tuple [.list ((sevens sz).take at' ++ d :: (sevens sz).drop at'), .int (at' : Int)], .tuple [.list ((sevens sz).take at' ++ d :: (sevens sz).drop (at' + 1)), .int (at' : Int)]])) (d_op (d_var rfl re) (d_lst (a_cons (d2' (whole (by omega) (d_var rfl (r3.up E5))) (d_var rfl (r3.up E5))) (a_cons (d2' (whole (by omega) (TrD.to (d_op (d_var rfl (r3.up E5)) d_int rd_add) (by congr 1))) (d_var rfl (r3.up E5))) a_nil)) (Nat.le_of_ble_eq_true rfl)) (rd_cat (by simp only [List.length_cons, List.length_nil]; omega))) A5 fun v6 G6 H6 e6 A6 r6 => ?_
    refine hN _ G6 _ H6 e6 A6 ⟨v6, _, _, rfl, rfl, r6, ?_, fun e he => ?_⟩
    · simp only [List.length_append, List.length_cons, List.length_nil]
      omega
    · rcases List.mem_append.mp he with z | z
      · exact hbad e z
      · simp only [List.mem_cons, List.not_mem_nil, or_false] at z
        rcases z with rfl | rfl
        · exact bad_list tk7 tkl ho.1 (len4 _) (okS ho.2)
        · exact bad_list tk7 tkl ho.1 (len4 _) (okS ho.2)
  obtain ⟨x4, es, x5, rfl, rfl, re, hel, hbad⟩ := hI
  have hl1 : oddsS.length = 8 := rfl
  rw [hl1] at hel
  have E5 := e3.trans e5
  refine s_ret (D := { nx := fun x H' => Q V.non H', rt := Q }) (σ := [some (.ref r), some v1, some v2, some v3, some x4, x5]) (d := .list (es ++ [.tuple [.list (sevens sz ++ .int 0 :: [.int 0]), .int (sz : Int)], .tuple [.list ([] ++ .none :: List.replicate 399 .none), .int ((0 : Nat) : Int)]])) (d_op (d_var rfl re) (d_lst (a_cons (d2' (d_op (d_var rfl (r2.up E5)) (d_lst (a_cons d_int (a_cons d_int a_nil)) (Nat.le_of_ble_eq_true rfl)) (rd_cat (by rw [hsl]; simp only [List.length_cons, List.length_nil]; omega))) (d_var rfl (r1.up (e2.trans E5)))) (a_cons (d2' (TrD.to (d_op (d_lst (a_cons d_non a_nil) (Nat.le_of_ble_eq_true rfl)) d_int (rd_rep (by decide) (by decide) (by decide))) (by rw [rep_flat]; rfl)) d_int) a_nil)) (Nat.le_of_ble_eq_true rfl)) (rd_cat (by simp only [List.length_cons, List.length_nil]; omega))) A5 fun v G6 H6 e6 A6 rv => ?_
  refine q _ v G6 M5 H6 ((((e1.trans e2).trans e3).trans e5).trans e6) A6 S2 R2 ⟨_, rfl, ?_, fun e he => ?_⟩ rv
  · simp only [List.length_append, List.length_cons, List.length_nil]
    omega
  · rcases List.mem_append.mp he with z | z
    · exact hbad e z
    · simp only [List.mem_cons, List.not_mem_nil, or_false] at z
      have i0 : okN 1 400 (.int 0) := okB_ok (by decide +kernel)
      have n0 : okN 1 400 .none := okB_ok (by decide +kernel)
      rcases z with rfl | rfl
      · refine bad_list (fun d hd => sevens_mem hd) hsl rfl (by rw [List.length_append, hsl]; simp only [List.length_cons, List.length_nil]; omega) fun d hd => ?_
        rcases List.mem_append.mp hd with z | z
        · rw [sevens_mem z]; exact okN7.le
        · simp only [List.mem_cons, List.not_mem_nil, or_false] at z
          rcases z with rfl | rfl <;> exact i0
      · refine bad_list (fun d hd => by cases hd) rfl rfl (by rw [List.nil_append, List.length_cons, List.length_replicate]; decide) fun d hd => ?_
        rw [List.nil_append] at hd
        rcases List.mem_cons.mp hd with rfl | z
        · exact n0
        · rw [List.eq_of_mem_replicate z]; exact n0
end
end K99

namespace K99
open PySem PySem.Spec PyProof.Rows L2 L2H Sb
local macro_rules | `(tactic| walk_at "ex") => `(tactic| first | exact Ex.refl _ | assumption | (refine' Ex.trans ?_ (by assumption); walk_at "ex"))
local macro_rules | `(tactic| walk_at "rp") => `(tactic| first | assumption | (refine' Rp.up ?e (by assumption); (case e => walk_at "ex")) | exact rfl)
local macro_rules | `(tactic| walk_at "rd") => `(tactic| with_reducible first | exact rd_add | exact rd_sub | exact rd_lt | exact rd_le | exact rd_gt | exact rd_ge | exact rd_eqI | exact rd_neI | exact rd_eqS | exact rd_neS | exact rd_isN | exact rd_ltS | exact rd_inSign | exact rd_eqE)
local macro_rules | `(tactic| walk_at "tr") => `(tactic| first
  | with_reducible exact d_int
  | with_reducible exact d_str
  | with_reducible exact d_bl
  | with_reducible exact d_non
  | with_reducible exact a_nil
  | with_reducible exact b_yes
  | with_reducible exact o_none
  | with_reducible exact d_newD
  | ((with_reducible refine' d_var ?i ?r); (case i => rfl); (case r => walk_at "rp"))
  | ((with_reducible refine' a_cons ?a ?b); (case a => walk_at "tr"); (case b => walk_at "tr"))
  | ((with_reducible refine' a_star ?a ?b); (case a => walk_at "tr"); (case b => walk_at "tr"))
  | ((with_reducible refine' d_isi ?a ?b); (case a => walk_at "tr"); (case b => decide))
  | ((with_reducible refine' d_op ?a ?b ?c); (case a => walk_at "tr"); (case b => walk_at "tr"); (case c => walk_at "rd"))
  | ((with_reducible refine' d_tup ?a ?b); (case a => walk_at "tr"); (case b => first | decide | (simp; done)))
  | ((with_reducible refine' d_lst ?a ?b); (case a => walk_at "tr"); (case b => first | decide | (simp; done)))
  | ((with_reducible refine' o_some ?a); (case a => walk_at "tr"))
  | ((with_reducible refine' b_B ?a); (case a => walk_at "tr"))
  | ((with_reducible refine' b_T ?a); (case a => walk_at "tr"))
  | ((with_reducible refine' b_not ?a); (case a => walk_at "tr"))
  | ((with_reducible refine' v_not ?a); (case a => walk_at "tr"))
  | ((with_reducible refine' b_or ?a ?b); (case a => walk_at "tr"); (case b => intro _; walk_at "tr"))
  | ((with_reducible refine' b_and ?a ?b); (case a => walk_at "tr"); (case b => intro _; walk_at "tr"))
  | ((with_reducible refine' v_or ?a ?b); (case a => walk_at "tr"); (case b => intro _; walk_at "tr"))
  | ((with_reducible refine' v_and ?a ?b); (case a => walk_at "tr"); (case b => intro _; walk_at "tr"))
  | assumption)


/-! ### texts -/
structure okS (m : Nat) (x : Str) : Prop where
  l : x.length ≤ m
  c : x.cps.toList.all (· < 4294967296) = true
theorem okS.n {m : Nat} {x : Str} (h : okS m x) (l : 10 * m + 2 ≤ 20000 := by decide) : okN 0 20000 (.str x) :=
  ⟨h.c, rfl, Nat.le_refl _, by show 10 * x.length + 2 ≤ 20000; have := h.l; omega⟩
theorem okS.cut {m : Nat} {x : Str} {lo hi : Option Int} (h : okS m x) : okS m (L2.cutS x lo hi) := by
  refine ⟨Nat.le_trans (L2.cutS_length _ _ _) h.l, List.all_eq_true.mpr fun y hy => List.all_eq_true.mp h.c y ?_⟩
  have hy' : y ∈ ((x.cps.toList.drop (HT.sIx x.length 0 lo)).take (HT.sIx x.length x.length hi - HT.sIx x.length 0 lo)) := by simpa [L2.cutS] using hy
  exact List.mem_of_mem_drop (List.mem_of_mem_take hy')
theorem okS.app {m k : Nat} {x y : Str} (h : okS m x) (g : okS k y) : okS (m + k) (x ++ y) := by
  refine ⟨by rw [strLen_append]; exact Nat.add_le_add h.l g.l, ?_⟩
  show ((x.cps ++ y.cps).toList.all _) = true
  rw [Array.toList_append, List.all_append, h.c, g.c]
  rfl
theorem not_text {c : CodeD} {t : Str} {ch : Nat} (hm : ch ∈ t.cps.toList) (hn : (⟨#[ch]⟩ : Str) ∉ c.cs.map (·.1)) : isTextD c (.str t) = false := by
  cases h : isTextD c (.str t) with
  | false => rfl
  | true =>
    have h2 : ((chrs t).all fun x => decide (x ∈ c.cs.map (·.1))) = true := h
    have z := List.all_eq_true.mp h2 ⟨#[ch]⟩ (List.mem_map.mpr ⟨ch, hm, rfl⟩)
    exact absurd (of_decide_eq_true z) hn
theorem no_name {c : CodeD} (ok : c.ok) {x : Str} (h : isNameS x = false) : x ∉ c.cs.map (·.1) := fun z => by
  rw [(wsOf_of ok z).1] at h
  cases h
def BadT (c : CodeD) (d : PyData) : Prop := isTextD c d = false ∧ okN 3 30000 d ∧ ∀ t, d = .str t → t.cps.size ≤ 1000
theorem badT_str {c : CodeD} {t : Str} {ch m : Nat} (hm : ch ∈ t.cps.toList) (hn : (⟨#[ch]⟩ : Str) ∉ c.cs.map (·.1)) (h : okS m t) (l : m ≤ 900 := by decide) : BadT c (.str t) := by
  refine ⟨not_text hm hn, ?_, fun u hu => by cases hu; exact Nat.le_trans h.l (by omega)⟩
  exact ⟨h.c, rfl, Nat.zero_le _, by show 10 * t.length + 2 ≤ 30000; have := h.l; omega⟩
theorem badT_no {c : CodeD} {d : PyData} (h : isTextD c d = false) (hs : ∀ t, d ≠ .str t) (hn : okN 3 30000 d) : BadT c d := ⟨h, hn, fun t z => absurd z (hs t)⟩
theorem mem_app {ch : Nat} {a b : Str} : ch ∈ (a ++ b : Str).cps.toList ↔ ch ∈ a.cps.toList ∨ ch ∈ b.cps.toList := by
  show ch ∈ (a.cps ++ b.cps).toList ↔ _
  rw [Array.toList_append, List.mem_append]
def freeD (c : CodeD) : List Str := (chrs NAMESs).filter fun x => !(lookD (chD c.cs) x).isSome
theorem freeD_ok {c : CodeD} (ok : c.ok) (hq : ("q" : Str) ∉ c.cs.map (·.1)) : 1 ≤ (freeD c).length ∧ (freeD c).length ≤ 36 ∧ ∀ x ∈ freeD c, x ∉ c.cs.map (·.1) ∧ ∃ ch, x = ⟨#[ch]⟩ ∧ ch < 4294967296 := by
  have hm : ("q" : Str) ∈ freeD c := by
    refine List.mem_filter.mpr ⟨by decide +kernel, ?_⟩
    rw [look_some, chD_keys, decide_eq_false hq]
    rfl
  refine ⟨List.length_pos_of_mem hm, ?_, fun x hx => ?_⟩
  · refine Nat.le_trans (List.length_filter_le _ _) ?_
    decide +kernel
  · obtain ⟨h1, h2⟩ := List.mem_filter.mp hx
    refine ⟨fun z => ?_, ?_⟩
    · rw [look_some, chD_keys, decide_eq_true z] at h2
      cases h2
    · obtain ⟨ch, hch, rfl⟩ := List.mem_map.mp h1
      have hall : ∀ c ∈ NAMESs.cps.toList, c < 4294967296 := by decide +kernel
      exact ⟨ch, rfl, hall ch hch⟩
theorem okS_one {ch : Nat} (h : ch < 4294967296) : okS 1 ⟨#[ch]⟩ := ⟨Nat.le_refl _, by simp [h]⟩
theorem okS_name {x : Str} (h : isNameS x = true) : okS 1 x := by
  refine ⟨Nat.le_of_eq (name_len h), ?_⟩
  exact (okN_name h).f
theorem chrs_join : ∀ {ys : List Str}, (∀ x ∈ ys, x.length = 1) → chrs (Txt.join "" ys) = ys := by
  intro ys h
  have e : TL.tl (Txt.join "" ys) = TL.joinL [] (ys.map TL.tl) := by rw [TL.join_eq, TL.tl_join]; rfl
  have e2 : chrs (Txt.join "" ys) = (TL.tl (Txt.join "" ys)).map fun c => ⟨#[c]⟩ := rfl
  rw [e2, e]
  clear e e2
  induction ys with
  | nil => rfl
  | cons y ys ih =>
    obtain ⟨c, rfl⟩ := one_sign (h y (List.mem_cons_self ..))
    rw [List.map_cons, joinE, List.map_append, ih fun x hx => h x (List.mem_cons_of_mem _ hx)]
    rfl
theorem chrs_size (t : Str) : t.cps.size = (chrs t).length := (chrs_len t).symm
theorem d_slS {K : PySem.W.Frag} {σ : L2.St} {G : Hp} {te : TE} {tl th : TO} {lo hi : Option Int} {z : Str} (h : TrD K te σ G (.str z)) (h1 : TrO tl σ G lo) (h2 : TrO th σ G hi) (hz : z.length ≤ sizeLine) : TrD K (tSl L2.rSlS te tl th) σ G (.str (L2.cutS z lo hi)) := fun G1 M H e A Q q => by
  refine h G1 M H e A _ fun v G2 H2 e2 A2 r => ?_
  refine h1 G2 M H2 (e.trans e2) A2 _ fun G3 H3 e3 A3 => ?_
  refine h2 G3 M H3 ((e.trans e2).trans e3) A3 _ fun G4 H4 e4 A4 => ?_
  exact ⟨z, r, hz, (q.mono ((e2.trans e3).trans e4)).here A4 rfl⟩
theorem sh_text : SeqAt.shaped (.list [.str "text"]) = true := by decide +kernel
theorem eq_text : PyData.eqv (.list [.str "text"]) (.list [.str "text"]) = true := by decide +kernel
def four0 : PyData := .list [.list [], .list [], .list [], .list []]
theorem sh_four : SeqAt.shaped four0 = true := by decide +kernel
theorem eq_four : PyData.eqv four0 four0 = true := by decide +kernel
theorem badT_snoc {c : CodeD} {es fs : List PyData} (h : ∀ x ∈ es, BadT c x) (g : ∀ x ∈ fs, BadT c x) : ∀ x ∈ es ++ fs, BadT c x := fun x hx => by
  rcases List.mem_append.mp hx with z | z
  · exact h x z
  · exact g x z
/-! ### the calls of the law -/
theorem tell_code {v p n : PyData} {other : PyData} (h : R_rc2 [v] (.exc "InvalidCode" [("part", p), ("name", n)])) (hv : okRep v) (ho : okRep other) (door : Int) (hd : door = 0 ∨ door = 1) : R_told2 [.int door, v, other] (.list [.str "code", p, n]) := by
  refine ⟨door, v, other, .exc "InvalidCode" [("part", p), ("name", n)], rfl, hv, ho, ?_, ?_⟩
  · rcases hd with rfl | rfl
    · exact .inl ⟨rfl, v, rfl, .inr ⟨_, h, (fun _ z => by cases z), rfl⟩⟩
    · exact .inr (.inl ⟨rfl, v, other, rfl, .inr ⟨_, h, (fun _ z => by cases z), rfl⟩⟩)
  · show _ = PyData.list (.str (if ("InvalidCode" : Str) = "InvalidCode" then "code" else "scan") :: _)
    rw [if_pos rfl]
    rfl
theorem tell_scan {v i : PyData} (h : R_rs2 [v] (.exc "InvalidScan" [("index", i)])) (hv : okRep v) : R_told2 [.int 2, v, .none] (.list [.str "scan", i]) := by
  refine ⟨2, v, .none, .exc "InvalidScan" [("index", i)], rfl, hv, okN.rep (n := 1) (m := 100) (okB_ok (by decide +kernel)), .inr (.inr ⟨rfl, v, rfl, .inr ⟨_, h, (fun _ z => by cases z), rfl⟩⟩), ?_⟩
  show _ = PyData.list (.str (if ("InvalidScan" : Str) = "InvalidCode" then "code" else "scan") :: _)
  rw [if_neg (by decide)]
  rfl
theorem code_rep {c : CodeD} (ok : c.ok) : okRep c.d := rep4 (okN_st ok) (okN_ch ok) (okN_bt ok) (okN_sp ok)
theorem none_rep : okRep .none := okN.rep (n := 1) (m := 100) (okB_ok (by decide +kernel))
theorem tell_text {c : CodeD} (ok : c.ok) {d : PyData} (h : BadT c d) : R_told2 [.int 1, c.d, d] (.list [.str "text"]) :=
  ⟨1, c.d, d, .ex0 "InvalidText", rfl, code_rep ok, h.2.1.rep, .inr (.inl ⟨rfl, c.d, d, rfl, .inl ⟨c, rfl, ok, h.2.2, .inr ⟨h.1, rfl⟩⟩⟩), rfl⟩
theorem tell_ok0 {c : CodeD} (ok : c.ok) : R_told2 [.int 0, c.d, .none] (.list []) := ⟨0, c.d, .none, .val _, rfl, code_rep ok, none_rep, .inl ⟨rfl, c.d, rfl, .inl ⟨c, rfl, ok, rfl⟩⟩, rfl⟩
theorem tell_ok1 {c : CodeD} (ok : c.ok) {t : Str} (ht : isTextD c (.str t) = true) (h : okS 900 t) : R_told2 [.int 1, c.d, .str t] (.list []) :=
  ⟨1, c.d, .str t, .val _, rfl, code_rep ok, h.n.rep, .inr (.inl ⟨rfl, c.d, .str t, rfl, .inl ⟨c, rfl, ok, fun u hu => by cases hu; exact Nat.le_trans h.l (by decide), .inl ⟨t, ht, rfl, rfl⟩⟩⟩), rfl⟩
theorem tell_ok2 {ns : List Int} (h1 : 1 ≤ ns.length) (h2 : ns.length ≤ 400) (h3 : ∀ n ∈ ns, 1 ≤ n ∧ n ≤ 9) : R_told2 [.int 2, .list (dInts ns), .none] (.list []) := by
  refine ⟨2, .list (dInts ns), .none, .val _, rfl, (okN_lst (n := 0) (m := 40) (fun d hd => ?_) 400 (by rw [dInts_len]; exact h2)).rep, none_rep, .inr (.inr ⟨rfl, _, rfl, .inl ⟨ns, rfl, ⟨h1, h2, fun n hn => ?_⟩, ?_, rfl⟩⟩), rfl⟩
  · obtain ⟨n, hn, rfl⟩ := mem_ints hd
    have := h3 n hn
    exact okN_int (by omega) (by omega)
  · have := h3 n hn
    refine ⟨this.1, Nat.lt_trans (small_log (n := n) ⟨by omega, by omega⟩) (by decide)⟩
  · have h4 := sum_len (ss := ns.map strI) (c := 18) fun x hx => by
      obtain ⟨n, hn, rfl⟩ := List.mem_map.mp hx
      have := h3 n hn
      exact int_len (by omega) (by omega)
    rw [List.length_map] at h4
    omega
theorem okN3 {a b e : PyData} (ha : okN 0 200 a) (hb : okN 0 200 b) (he : okN 0 200 e) : okN 1 (2 + 3 * 202) (.list [a, b, e]) := okN_lst (n := 0) (m := 200) (fun d hd => by
  simp only [List.mem_cons, List.not_mem_nil, or_false] at hd
  rcases hd with rfl | rfl | rfl
  · exact ha
  · exact hb
  · exact he) 3 (Nat.le_refl _)
theorem okN2 {n m : Nat} {a b : PyData} (ha : okN n m a) (hb : okN n m b) : okN (n + 1) (2 + 2 * (m + 2)) (.list [a, b]) := okN_lst (fun d hd => by
  simp only [List.mem_cons, List.not_mem_nil, or_false] at hd
  rcases hd with rfl | rfl
  · exact ha
  · exact hb) 2 (Nat.le_refl _)
theorem rc_okN {K : PySem.W.Frag} {n m : Nat} {d : PyData} (h : okN n m d) (hd : isDisplay d = true) (a : n ≤ 50 := by decide) (b : m ≤ 1000000 := by decide) : RC K (rReprX K) [d] (.str (PyData.shown d)) := by
  refine rc_reprX hd h.s (Nat.le_trans h.p (Nat.le_trans a (by decide))) (Nat.le_trans (shown_leX d h.f) (Nat.le_trans h.w (Nat.le_trans b (by decide))))
theorem o_code : okN 0 200 (.str "code") := okB_ok (by decide +kernel)
theorem o_scan : okN 0 200 (.str "scan") := okB_ok (by decide +kernel)
section
variable {P : Program} {w : World} {K : PySem.W.Frag} {mg : Str → Option Value} {base : Heap}
def R_right : List PyData → Nat → (PyData → Prop) → Prop := fun ds k Φ => ∃ c : CodeD, ds = [c.d] ∧ c.ok ∧ ("q" : Str) ∉ c.cs.map (·.1) ∧ k = 2000 ∧ Φ = fun d => d = .bool true
theorem F__law_right (T : Tx K mg) : Fd P w K mg base CX0 10 "_law_right" (ESp K R_right) [] := by
  obtain ⟨fd, F⟩ := T.f__law_right
  refine ⟨_, fd, ["reel", "code"], [], T.g__law_right, F.kp, F.bindsN fun _ _ _ _ _ _ us hl => match us, hl with | [_, _], _ => rfl, .nil, ?_⟩
  refine fnG_of F sc__law_right (fun vs H Q E h => ESp.len (n := 1) (by rintro _ _ _ ⟨d, rfl, _⟩; rfl) h) (fun cdv A outer s H vs Q E hg hr h => ?_)
  obtain ⟨r, ws, G, M, n, k, ds, Φ, rfl, hA, hRL, hws, ⟨c, rfl, ok, hnq, rfl, rfl⟩, hn, q⟩ := h
  obtain ⟨v1, _, rfl, r1, rfl⟩ := hws
  refine ⟨_, PSs.nox (pss_cons (ps_asg (pe_tup (pa_cons (pe_callB (call_sortedD' rfl) (by rfl) T.n_sorted (by decide +kernel) (pa_cons (pe_ix ix_tup (pv 1) pe_int (fun _ _ => rfl)) pa_nil)) (pa_cons (pe_lc (own := [("one", 13)]) (g := gName 13) (by rfl) sc__law_right.nd (pi_str pe_str) (blkOk_by (own := [("one", 13)]) (N := ["reel", "code", "names", "free", "text", "bad", "part", "name", "told", "at", "odds", "odd", "index_here", "one", "turn"]) (sc := defScope s__law_right) (by decide +kernel)) (fun _ _ _ _ _ => (pg_name (i := 13) sc__law_right.nd rfl (by first | exact Or.inl rfl | exact Or.inr rfl))) (fun _ _ _ _ _ => (pts_one (pt_cmp (pc_dnotin (hu_of hr) (pv 13) (pe_ix (show IxR _ (rIxT K) from ix_tup) (pv 1) pe_int (fun _ _ => rfl))) (by rfl)))) (fun _ _ _ _ _ => (pv 13))) pa_nil))) (pg_tup (by rfl) (pgs_cons (pg_name (i := 2) sc__law_right.nd rfl (by first | exact Or.inl rfl | exact Or.inr rfl)) (pgs_cons (pg_name (i := 3) sc__law_right.nd rfl (by first | exact Or.inl rfl | exact Or.inr rfl)) pgs_nil))))
    (pss_cons (ps_set (i := 4) sc__law_right.nd rfl (by first | exact Or.inl rfl | exact Or.inr rfl) (pe_join pe_str (pe_lc (own := [("turn", 14)]) (g := gName 14) (by rfl) sc__law_right.nd (pi_range1 (by rfl) T.n_range (pa_cons (pe_fd (F__law_spin (P := P) (w := w) (base := base) T) hg (hr.mono (by decide)) pass0 (pa_cons (pv 0) (pa_cons pe_int pa_nil))) pa_nil)) (blkOk_by (own := [("turn", 14)]) (N := ["reel", "code", "names", "free", "text", "bad", "part", "name", "told", "at", "odds", "odd", "index_here", "one", "turn"]) (sc := defScope s__law_right) (by decide +kernel)) (fun _ _ _ _ _ => (pg_name (i := 14) sc__law_right.nd rfl (by first | exact Or.inl rfl | exact Or.inr rfl))) (fun _ _ _ _ _ => pts_nil) (fun _ _ _ _ _ => (pe_ix (show IxR _ (rIxL K) from ix_list) (pv 2) (pe_fd (F__law_spin (P := P) (w := w) (base := base) T) hg (hr.mono (by decide)) pass0 (pa_cons (pv 0) (pa_cons (pe_callB (show CallR _ _ (Sb.rLen K) from call_len') (by rfl) T.n_len (by decide +kernel) (pa_cons (pv 2) pa_nil)) pa_nil))) (fun _ _ => rfl))))))
    (pss_cons (ps_for PassesOwn.never rfl (pi_list (pe_fd (F__law_bad_codes (P := P) (w := w) (base := base) T) hg (hr.mono (by decide)) pass0 (pa_cons (pv 0) (pa_cons (pv 1) pa_nil)))) (pg_tup (by rfl) (pgs_cons (pg_name (i := 5) sc__law_right.nd rfl (by first | exact Or.inl rfl | exact Or.inr rfl)) (pgs_cons (pg_name (i := 6) sc__law_right.nd rfl (by first | exact Or.inl rfl | exact Or.inr rfl)) (pgs_cons (pg_name (i := 7) sc__law_right.nd rfl (by first | exact Or.inl rfl | exact Or.inr rfl)) pgs_nil)))) (pss_cons (ps_set (i := 8) sc__law_right.nd rfl (by first | exact Or.inl rfl | exact Or.inr rfl) (pe_lst (pa_cons (pe_fd (F__law_told (P := P) (w := w) (base := base) T) hg (hr.mono (by decide)) pass0 (pa_cons pe_int (pa_cons (pv 5) (pa_cons pe_non pa_nil)))) (pa_cons (pe_fd (F__law_told (P := P) (w := w) (base := base) T) hg (hr.mono (by decide)) pass0 (pa_cons pe_int (pa_cons (pv 5) (pa_cons (pe_ix ix_list (pe_lst (pa_cons (pv 4) (pa_cons pe_non pa_nil))) (pe_fd (F__law_spin (P := P) (w := w) (base := base) T) hg (hr.mono (by decide)) pass0 (pa_cons (pv 0) (pa_cons pe_int pa_nil))) (fun _ _ => rfl)) pa_nil)))) pa_nil)))) (pss_one (ps_if (pt_cmpR op_ne (pe_callB (call_reprX T.sysd hg hr.units) (by rfl) T.n_repr (by decide +kernel) (pa_cons (pv 8) pa_nil)) (pe_callB (call_reprX T.sysd hg hr.units) (by rfl) T.n_repr (by decide +kernel) (pa_cons (pe_op op_rep (pe_lst (pa_cons (pe_lst (pa_cons pe_str (pa_cons (pv 6) (pa_cons (pv 7) pa_nil)))) pa_nil)) pe_int) pa_nil)) (nomark _)) (pss_one (ps_ret pe_bl)) pss_nil))))
    (pss_cons (ps_set (i := 9) sc__law_right.nd rfl (by first | exact Or.inl rfl | exact Or.inr rfl) (pe_fd (F__law_spin (P := P) (w := w) (base := base) T) hg (hr.mono (by decide)) pass0 (pa_cons (pv 0) (pa_cons (pe_op op_add (pe_callB call_len' (by rfl) T.n_len (by decide +kernel) (pa_cons (pv 4) pa_nil)) pe_int) pa_nil))))
    (pss_cons (ps_set (i := 10) sc__law_right.nd rfl (by first | exact Or.inl rfl | exact Or.inr rfl) (pe_lst (pa_cons pe_non (pa_cons pe_int (pa_cons pe_bl (pa_cons (pv 2) (pa_cons (pe_callTy call_tupOf (by rfl) T.n_tuple (by decide +kernel) (pa_cons (pv 2) pa_nil)) (pa_cons pe_dnewK (pa_cons pe_str (pa_cons pe_str (pa_cons pe_str (pa_cons (pe_op op_add_str (pv 4) pe_str) (pa_cons (pe_op op_add_str pe_str (pv 4)) (pa_cons (pe_lst (pa_cons (pv 4) pa_nil)) pa_nil))))))))))))))
    (pss_cons (ps_for PassesOwn.never rfl (pi_list (pe_lst (pa_cons (pe_ix ix_list (pv 3) (pe_fd (F__law_spin (P := P) (w := w) (base := base) T) hg (hr.mono (by decide)) pass0 (pa_cons (pv 0) (pa_cons (pe_callB call_len' (by rfl) T.n_len (by decide +kernel) (pa_cons (pv 3) pa_nil)) pa_nil))) (fun _ _ => rfl)) (pa_cons pe_str (pa_cons pe_str pa_nil))))) (pg_name (i := 11) sc__law_right.nd rfl (by first | exact Or.inl rfl | exact Or.inr rfl)) (pss_one (ps_set (i := 10) sc__law_right.nd rfl (by first | exact Or.inl rfl | exact Or.inr rfl) (pe_op op_cat (pv 10) (pe_lst (pa_cons (pe_op op_add_str (pe_op op_add_str (pe_slice sl_str (pv 4) po_none (po_some (pv 9))) (pv 11)) (pe_slice sl_str (pv 4) (po_some (pv 9)) po_none)) (pa_cons (pe_op op_add_str (pv 11) (pe_ix ix_list (pv 2) pe_int (fun _ _ => rfl))) (pa_cons (pe_op op_add_str (pe_ix ix_list (pv 2) pe_int (fun _ _ => rfl)) (pv 11)) pa_nil))))))))
    (pss_cons (ps_for PassesOwn.never rfl (pi_list (pv 10)) (pg_name (i := 5) sc__law_right.nd rfl (by first | exact Or.inl rfl | exact Or.inr rfl)) (pss_one (ps_if (pt_cmpR (op_neR hr.units) (pe_fd (F__law_told (P := P) (w := w) (base := base) T) hg (hr.mono (by decide)) pass0 (pa_cons pe_int (pa_cons (pv 1) (pa_cons (pv 5) pa_nil)))) (pe_lst (pa_cons pe_str pa_nil)) (nomark _)) (pss_one (ps_ret pe_bl)) pss_nil)))
    (pss_cons (ps_for PassesOwn.never rfl (pi_list (pe_fd (F__law_bad_scans (P := P) (w := w) (base := base) T) hg (hr.mono (by decide)) pass0 (pa_cons (pv 0) pa_nil))) (pg_tup (by rfl) (pgs_cons (pg_name (i := 5) sc__law_right.nd rfl (by first | exact Or.inl rfl | exact Or.inr rfl)) (pgs_cons (pg_name (i := 12) sc__law_right.nd rfl (by first | exact Or.inl rfl | exact Or.inr rfl)) pgs_nil))) (pss_one (ps_if (pt_cmpR op_ne (pe_callB (call_reprX T.sysd hg hr.units) (by rfl) T.n_repr (by decide +kernel) (pa_cons (pe_fd (F__law_told (P := P) (w := w) (base := base) T) hg (hr.mono (by decide)) pass0 (pa_cons pe_int (pa_cons (pv 5) (pa_cons pe_non pa_nil)))) pa_nil)) (pe_callB (call_reprX T.sysd hg hr.units) (by rfl) T.n_repr (by decide +kernel) (pa_cons (pe_lst (pa_cons pe_str (pa_cons (pv 12) pa_nil))) pa_nil)) (nomark _)) (pss_one (ps_ret pe_bl)) pss_nil)))
    (pss_cons (ps_set (i := 8) sc__law_right.nd rfl (by first | exact Or.inl rfl | exact Or.inr rfl) (pe_lst (pa_cons (pe_fd (F__law_told (P := P) (w := w) (base := base) T) hg (hr.mono (by decide)) pass0 (pa_cons pe_int (pa_cons (pv 1) (pa_cons pe_non pa_nil)))) (pa_cons (pe_fd (F__law_told (P := P) (w := w) (base := base) T) hg (hr.mono (by decide)) pass0 (pa_cons pe_int (pa_cons (pv 1) (pa_cons (pv 4) pa_nil)))) (pa_cons (pe_fd (F__law_told (P := P) (w := w) (base := base) T) hg (hr.mono (by decide)) pass0 (pa_cons pe_int (pa_cons (pv 1) (pa_cons pe_str pa_nil)))) (pa_cons (pe_fd (F__law_told (P := P) (w := w) (base := base) T) hg (hr.mono (by decide)) pass0 (pa_cons pe_int (pa_cons (pe_lst (pa_cons pe_int pa_nil)) (pa_cons pe_non pa_nil)))) pa_nil))))))
    (pss_one (ps_ret (pe_cmpR (op_eqR hr.units) (pv 8) (pe_op op_rep (pe_lst (pa_cons (pe_lst pa_nil) pa_nil)) pe_int) (nomark _))))))))))))), ?_⟩
  rw [show L2.start ["reel", "code", "names", "free", "text", "bad", "part", "name", "told", "at", "odds", "odd", "index_here", "one", "turn"] [(.ref r), v1] = [some (.ref r), some v1, none, none, none, none, none, none, none, none, none, none, none, none, none] from rfl]
  dsimp only [xK]
  have hcl := ok.cs.l2
  have hcl1 := ok.cs.l1
  have hck : (chD c.cs).length = c.cs.length := by simp [chD]
  have hsl : (nmsT c).length = c.cs.length := nmsT_len c
  obtain ⟨hf1, hf36, hfr⟩ := freeD_ok ok hnq
  have hC1 : ∀ {σ : L2.St} {Gx : Hp}, σ[1]? = some (some v1) → Ex G Gx → TrD K (tOp (rIxT K) (tVar 1) (tC (V.int 1))) σ Gx (.dict (keysD (chD c.cs))) := fun h e => d_op (d_var h (r1.up e)) d_int (rd_ixT rfl)
  have freeT : TrD K _ [some (.ref r), some v1, none, none, none, none, none, none, none, none, none, none, none, none, none] G (.list (dStrs (freeD c))) := TrD.to (d_lcS (i := 13) (p := fun x => !(lookD (chD c.cs) x).isSome) (f := PyData.str) (d_str (x := "0123456789abcdefghijklmnopqrstuvwxyz")) (by decide +kernel) (fun x _ Gx ex => b_B (K := K) (v_dnin (d_var (K := K) (i := 13) rfl (d := .str x) rfl) (hC1 rfl ex))) fun x _ _ Gx ex => d_var (K := K) (i := 13) rfl (d := .str x) rfl) (show _ = PyData.list (((chrs NAMESs).filter fun x => !(lookD (chD c.cs) x).isSome).map PyData.str) from rfl)
  refine q_unpack (d_tup (a_cons (d_cb (a_cons (hC1 rfl (Ex.refl _)) a_nil) (rc_sortD (kvs := chD c.cs) (by omega))) (a_cons freeT a_nil)) (Nat.le_of_ble_eq_true rfl)) rfl hA ?_
  rintro _ G1 H1 e1 A1 ⟨v2, _, rfl, r2, v3, _, rfl, r3, rfl⟩
  refine ⟨v2, _, rfl, v3, _, rfl, rfl, ?_⟩
  have r2' : Rp K G1 (.list (dStrs (nmsT c))) v2 := by
    rw [chD_keys] at r2
    exact r2
  have nmOk : ∀ x ∈ nmsT c, isNameS x = true := fun x hx => (wsOf_of ok (nmsT_mem hx)).1
  -- the text
  refine q_setE (n' := n + 1 + 8 * 1) (Φ := fun d => ∃ t, d = .str t ∧ isTextD c (.str t) = true ∧ okS 8 t) (e_join (Ψ := fun ys => ys.length ≤ 8 ∧ ∀ x ∈ ys, x ∈ nmsT c) (e_lcR (c := 8) (step := 1) (Φ0 := fun z => z ≤ 8) (Φ1 := fun d => ∃ x ∈ nmsT c, d = .str x) ((spin_c rfl (by decide) (by decide) (by omega)).imp fun d ⟨i, h, h0, h1⟩ => ⟨i, h, by omega, h0, by omega⟩) (by decide) (fun M1 x t ht => ?_) fun z ds hz8 hl hall => ?_) (fun ys hy => ?_) fun ys hy => ?_) A1 .refl hRL fun d v4 G2 M2 H2 e2 A2 S2 R2 hd r4 => ?_
  · refine e_op (Φ1 := fun d => d = .list (dStrs (nmsT c))) (Φ2 := RI 0 ((nmsT c).length - 1)) (e_D (d_var rfl r2') rfl) (fun _ _ => (spin_call rfl (e_D (d_cb (a_cons (d_var rfl r2') a_nil) rc_lenL) ⟨_, rfl, by rw [dS_len]; omega, by rw [dS_len]; omega, fun d h => by rw [dS_len] at h; exact h⟩) (by omega))) ?_
    rintro _ _ rfl ⟨i, rfl, i0, i1⟩
    obtain ⟨iN, rfl⟩ := Int.eq_ofNat_of_zero_le i0
    have hi : iN < (nmsT c).length := by omega
    refine ⟨_, rd_ixL (at_dat (by rw [dS_len]; exact hi)), (nmsT c)[iN], List.getElem_mem hi, ?_⟩
    unfold dStrs
    rw [List.getElem_map]
  · have : ∃ ys, ds = dStrs ys ∧ ∀ x ∈ ys, x ∈ nmsT c := by
      clear hl
      induction ds with
      | nil => exact ⟨[], rfl, fun _ h => by cases h⟩
      | cons d ds ih =>
        obtain ⟨ys, rfl, hy⟩ := ih fun x hx => hall x (List.mem_cons_of_mem _ hx)
        obtain ⟨x, hx, rfl⟩ := hall d (List.mem_cons_self ..)
        refine ⟨x :: ys, rfl, fun z hz => ?_⟩
        rcases List.mem_cons.mp hz with rfl | hz
        · exact hx
        · exact hy z hz
    obtain ⟨ys, rfl, hy⟩ := this
    rw [dS_len] at hl
    exact ⟨ys, rfl, by omega, hy⟩
  · have h1 := sum_len (c := 1) (ss := ys) fun x hx => Nat.le_of_eq (name_len (nmOk x (hy.2 x hx)))
    have h2 : ("" : Str).length = 0 := rfl
    rw [h2]
    have := hy.1
    omega
  · have hc := chrs_join (ys := ys) fun x hx => name_len (nmOk x (hy.2 x hx))
    refine ⟨_, rfl, ?_, ⟨?_, List.all_eq_true.mpr fun ch hch => ?_⟩⟩
    · show (chrs (Txt.join "" ys)).all _ = true
      rw [hc]
      exact List.all_eq_true.mpr fun x hx => decide_eq_true (nmsT_mem (hy.2 x hx))
    · show (Txt.join "" ys).cps.size ≤ 8
      rw [chrs_size, hc]
      exact hy.1
    · have hm : (⟨#[ch]⟩ : Str) ∈ chrs (Txt.join "" ys) := List.mem_map.mpr ⟨ch, hch, rfl⟩
      rw [hc] at hm
      have z := (okS_name (nmOk _ (hy.2 _ hm))).c
      simpa using z
  obtain ⟨t, rfl, ht, oT⟩ := hd
  have E2 := e1.trans e2
  have R1 := r1.up E2
  -- the bad codes
  have nR := none_rep
  refine s_seq (s_forLE (n' := n + 10) (M0 := M) (Φ := BadL) (e_call (R := R_badcodes) (k := 1) (Ψ := fun ds => ds = [c.d]) rfl (ea_A (a_cons (d_var rfl R1) a_nil) rfl) (fun ds h => ⟨c, h, ok, hnq, rfl, rfl⟩) (by omega)) (fun d ⟨es, h, _⟩ => ⟨es, h⟩) A2 S2 R2 fun ds vL G3 M3 H3 e3 A3 S3 R3 hds rds => ?_)
  obtain ⟨es, hes, hel, hbad⟩ := hds
  cases hes
  refine s_forLG (fun k σ G' M' => ∃ x5 x6 x7 x8 : Option V, σ = [some (.ref r), some v1, some v2, some v3, some v4, x5, x6, x7, x8, none, none, none, none, none, none] ∧ Same r M M' ∧ RL r (n + 10 + k) M') (d_val rds) A3 (fun e h => h) ⟨none, none, none, none, rfl, S3, R3⟩ (fun k e hk x σ1 G4 M4 H4 e4 A4 hI rx Nx hN => ?_) fun σ1 G4 M4 H4 e4 A4 hI => ?_
  · obtain ⟨x5, x6, x7, x8, rfl, S4, R4⟩ := hI
    have hkl : k < ds.length := (List.getElem?_eq_some_iff.mp hk).1
    obtain ⟨v, p, nn, rfl, hv, hp, hn', hrc⟩ := hbad e (List.mem_of_getElem? hk)
    refine g_tup A4 rx rfl fun xs rxs => ?_
    obtain ⟨w5, _, rfl, q5, w6, _, rfl, q6, w7, _, rfl, q7, rfl⟩ := rxs
    refine ⟨w5, _, rfl, w6, _, rfl, w7, _, rfl, rfl, ?_⟩
    have E4 := e3.trans e4
    refine q_setE (n' := n + 10 + k + 1) (Φ := fun d => d = .list [.list [.str "code", p, nn], .list [.str "code", p, nn]]) (e_lst (Ψ := fun ds => ds = [.list [.str "code", p, nn], .list [.str "code", p, nn]]) (ea_cons (Φ := fun d => d = .list [.str "code", p, nn]) (e_D (d_call0 (R := R_told2) (a_cons d_int (a_cons (d_var rfl q5) (a_cons d_non a_nil))) (tell_code hrc hv nR 0 (.inl rfl))) rfl) fun d1 hd1 => ea_cons (Φ := fun d => d = .list [.str "code", p, nn]) (e_callP (R := R_told2) (Ψ := fun ds => ∃ o, ds = [.int 1, v, o] ∧ okRep o) (ea_cons (Φ := fun d => d = .int 1) (e_D d_int rfl) fun a1 ha1 => ea_cons (Φ := fun d => d = v) (e_D (d_var rfl q5) rfl) fun a2 ha2 => ea_cons (n' := n + 10 + k + 1) (Φ := okRep) (e_op (Φ1 := fun d => d = .list [.str t, .none]) (Φ2 := RI 0 1) (e_D (d_lst (a_cons (d_var rfl (r4.up E4)) (a_cons d_non a_nil)) (Nat.le_of_ble_eq_true rfl)) rfl) (fun _ _ => spin_c rfl (by decide) (by decide) (by omega)) ?_) fun a3 ha3 => ea_nil ?_) ?_) fun d2 hd2 => ea_nil ?_) ?_) A4 S4 R4 fun d v8 G5 M5 H5 e5 A5 S5 R5 hd r8 => ?_
    · rintro _ _ rfl ⟨i, rfl, i0, i1⟩
      have : i = 0 ∨ i = 1 := by omega
      rcases this with rfl | rfl
      · exact ⟨_, rd_ixL rfl, oT.n.rep⟩
      · exact ⟨_, rd_ixL rfl, nR⟩
    · subst ha1 ha2
      exact ⟨a3, rfl, ha3⟩
    · rintro _ ⟨o, rfl, ho⟩
      exact ⟨_, tell_code hrc hv ho 1 (.inr rfl), rfl⟩
    · rw [hd1, hd2]
    · rintro _ rfl
      exact ⟨Nat.le_of_ble_eq_true rfl, rfl⟩
    subst hd
    have o1 := okN3 o_code hp hn'
    have o2 := okN2 o1 o1
    refine s_ifF (TrB.to (b_T (d_op (d_cb (a_cons (d_var rfl r8) a_nil) (rc_okN o2 rfl)) (d_cb (a_cons (TrD.to (d_op (d_lst (a_cons (d_lst (a_cons d_str (a_cons (d_var rfl (q6.up e5)) (a_cons (d_var rfl (q7.up e5)) a_nil))) (Nat.le_of_ble_eq_true rfl)) a_nil) (Nat.le_of_ble_eq_true rfl)) d_int (rd_rep (by decide) (by decide) (Nat.le_of_ble_eq_true rfl))) (d2 := .list [.list [.str "code", p, nn], .list [.str "code", p, nn]]) rfl) a_nil) (rc_okN o2 rfl)) rd_neS)) (by rw [decide_eq_true rfl]; rfl)) A5 fun G6 H6 e6 A6 => s_next (hN _ G6 M5 H6 (e5.trans e6) A6 ⟨_, _, _, _, rfl, S5, R5⟩)
  obtain ⟨x5, x6, x7, x8, rfl, S4, R4⟩ := hI
  dsimp only
  have E4 := e3.trans e4
  have R4' : RL r (n + 1010) M4 := R4.le (by omega)
  have tl8 := oT.l
  have hzt : t.length ≤ sizeLine := Nat.le_trans tl8 (by decide)
  refine q_setE (n' := n + 1011) (Φ := fun d => ∃ k : Nat, d = .int k) (spin_call rfl (e_D (d_op (d_cb (a_cons (d_var rfl (r4.up E4)) a_nil) (rc_lenS hzt)) d_int rd_add) ⟨_, rfl, by omega, by omega, fun d ⟨i, h, h0, h1⟩ => ⟨i.toNat, by rw [h]; congr 1; omega⟩⟩) (by omega)) A4 S4 R4' fun d v9 G5 M5 H5 e5 A5 S5 R5 hd r9 => ?_
  obtain ⟨at', rfl⟩ := hd
  have E5 := E4.trans e5
  have Rn : ∀ {Gx : Hp}, Ex G2 Gx → Rp K Gx (.list (dStrs (nmsT c))) v2 := fun e => r2'.up (e2.trans e)
  have sA : ∀ {a b : Str} {ta tb : TE} {σ : L2.St} {Gx : Hp}, TrD K ta σ Gx (.str a) → TrD K tb σ Gx (.str b) → a.length + b.length ≤ 1000 → TrD K (tOp (fun x y H Q => ∃ i j, x = V.str i ∧ y = V.str j ∧ i.length + j.length ≤ sizeLine ∧ Q (V.str (i ++ j)) H) ta tb) σ Gx (.str (a ++ b)) := fun h1 h2 hl => d_op h1 h2 (rd_addS (Nat.le_trans hl (by decide)))
  have sp1 : (" " : Str).length = 1 := rfl
  refine q_set (d := .list [.none, .int 0, .bool true, .list (dStrs (nmsT c)), .tuple (dStrs (nmsT c)), .dict (keysD []), .str "A", .str " ", .str "-", .str (t ++ " "), .str (" " ++ t), .list [.str t]])
    (d_lst (a_cons d_non (a_cons d_int (a_cons d_bl (a_cons (d_var rfl (Rn E5)) (a_cons (d_cb (a_cons (d_var rfl (Rn E5)) a_nil) rc_tupL) (a_cons d_newD (a_cons d_str (a_cons d_str (a_cons d_str (a_cons (sA (d_var rfl (r4.up E5)) d_str (by omega)) (a_cons (sA d_str (d_var rfl (r4.up E5)) (by omega)) (a_cons (d_lst (a_cons (d_var rfl (r4.up E5)) a_nil) (Nat.le_of_ble_eq_true rfl)) a_nil)))))))))))) (Nat.le_of_ble_eq_true rfl)) A5 fun v10 G6 H6 e6 A6 r10 => ?_
  have oSp : okS 1 " " := ⟨Nat.le_refl _, by decide +kernel⟩
  have nms40 : ∀ d ∈ dStrs (nmsT c), okN 0 40 d := fun d hd => by
    obtain ⟨x, hx, rfl⟩ := mem_strs hd
    exact okN_name (nmOk x hx)
  have bad12 : ∀ x ∈ [PyData.none, .int 0, .bool true, .list (dStrs (nmsT c)), .tuple (dStrs (nmsT c)), .dict (keysD []), .str "A", .str " ", .str "-", .str (t ++ " "), .str (" " ++ t), .list [.str t]], BadT c x := by
    intro x hx
    simp only [List.mem_cons, List.not_mem_nil, or_false] at hx
    rcases hx with rfl | rfl | rfl | rfl | rfl | rfl | rfl | rfl | rfl | rfl | rfl | rfl
    · exact badT_no rfl (fun _ z => nomatch z) (okB_ok (by decide +kernel))
    · exact badT_no rfl (fun _ z => nomatch z) (okB_ok (by decide +kernel))
    · exact badT_no rfl (fun _ z => nomatch z) (okB_ok (by decide +kernel))
    · exact badT_no rfl (fun _ z => nomatch z) (okN_lst nms40 10 (by rw [dS_len, hsl]; exact hcl)).le
    · exact badT_no rfl (fun _ z => nomatch z) (okN_tup nms40 10 (by rw [dS_len, hsl]; exact hcl)).le
    · exact badT_no rfl (fun _ z => nomatch z) (okB_ok (by decide +kernel))
    · exact badT_str (ch := 65) (m := 1) (by decide +kernel) (no_name ok (by decide +kernel)) ⟨Nat.le_refl _, by decide +kernel⟩
    · exact badT_str (ch := 32) (m := 1) (by decide +kernel) (no_name ok (by decide +kernel)) oSp
    · exact badT_str (ch := 45) (m := 1) (by decide +kernel) (no_name ok (by decide +kernel)) ⟨Nat.le_refl _, by decide +kernel⟩
    · exact badT_str (ch := 32) (m := 8 + 1) (mem_app.mpr (.inr (by decide +kernel))) (no_name ok (by decide +kernel)) (oT.app oSp)
    · exact badT_str (ch := 32) (m := 1 + 8) (mem_app.mpr (.inl (by decide +kernel))) (no_name ok (by decide +kernel)) (oSp.app oT)
    · exact badT_no rfl (fun _ z => nomatch z) (okN_lst (n := 0) (m := 20000) (fun d hd => by rw [List.mem_singleton.mp hd]; exact oT.n) 1 (Nat.le_refl _)).le
  have E6 := E5.trans e6
  have R3 := r3.up (e2.trans E6)
  refine s_seq (s_forLE (n' := n + 1012) (M0 := M) (Φ := fun d => ∃ fr, fr ∈ freeD c ∧ d = .list [.str fr, .str "A", .str "?"]) (e_lst (Ψ := fun ds => ∃ fr, fr ∈ freeD c ∧ ds = [.str fr, .str "A", .str "?"]) (ea_cons (Φ := fun d => ∃ fr, fr ∈ freeD c ∧ d = .str fr) (e_op (Φ1 := fun d => d = .list (dStrs (freeD c))) (Φ2 := RI 0 ((freeD c).length - 1)) (e_D (d_var rfl R3) rfl) (fun _ _ => spin_call rfl (e_D (d_cb (a_cons (d_var rfl R3) a_nil) rc_lenL) ⟨_, rfl, by rw [dS_len]; omega, by rw [dS_len]; omega, fun d h => by rw [dS_len] at h; exact h⟩) (by omega)) ?_) fun d hd => ea_A (a_cons d_str (a_cons d_str a_nil)) ?_) ?_) (fun d ⟨fr, _, h⟩ => ⟨_, h⟩) A6 S5 R5 fun ds vL G7 M7 H7 e7 A7 S7 R7 hds rds => ?_)
  · rintro _ _ rfl ⟨i, rfl, i0, i1⟩
    obtain ⟨iN, rfl⟩ := Int.eq_ofNat_of_zero_le i0
    have hi : iN < (freeD c).length := by omega
    refine ⟨_, rd_ixL (at_dat (by rw [dS_len]; exact hi)), (freeD c)[iN], List.getElem_mem hi, ?_⟩
    unfold dStrs
    rw [List.getElem_map]
  · obtain ⟨fr, hfrm, rfl⟩ := hd
    exact ⟨fr, hfrm, rfl⟩
  · rintro _ ⟨fr, hfrm, rfl⟩
    exact ⟨Nat.le_of_ble_eq_true rfl, fr, hfrm, rfl⟩
  obtain ⟨fr, hfrm, hds⟩ := hds
  cases hds
  have hodd : ∀ d ∈ [PyData.str fr, .str "A", .str "?"], ∃ ch : Nat, d = .str ⟨#[ch]⟩ ∧ (⟨#[ch]⟩ : Str) ∉ c.cs.map (·.1) ∧ ch < 4294967296 := fun d hd => by
    simp only [List.mem_cons, List.not_mem_nil, or_false] at hd
    rcases hd with rfl | rfl | rfl
    · obtain ⟨h1, ch, rfl, h2⟩ := hfr fr hfrm
      exact ⟨ch, rfl, h1, h2⟩
    · exact ⟨65, rfl, no_name ok (by decide +kernel), by decide⟩
    · exact ⟨63, rfl, no_name ok (by decide +kernel), by decide⟩
  have hnm0 : 0 < (nmsT c).length := by omega
  have name0 : ∀ {σ : L2.St} {Gx : Hp}, σ[2]? = some (some v2) → Ex G2 Gx → TrD K (tOp (rIxL K) (tVar 2) (tC (V.int 0))) σ Gx (.str (nmsT c)[0]) := fun h e => d_op (d_var h (Rn e)) d_int (rd_ixL (by have z := at_dat (ds := dStrs (nmsT c)) (k := 0) (by rw [dS_len]; exact hnm0); rw [show (0 : Int) = ((0 : Nat) : Int) from rfl, z]; unfold dStrs; rw [List.getElem_map]))
  have o0 : okS 1 (nmsT c)[0] := okS_name (nmOk _ (List.getElem_mem hnm0))
  refine s_forLG (fun k σ G' M' => ∃ (x10 : V) (es : List PyData) (x11 : Option V), σ = [some (.ref r), some v1, some v2, some v3, some v4, x5, x6, x7, x8, some v9, some x10, x11, none, none, none] ∧ M' = M7 ∧ Rp K G' (.list es) x10 ∧ es.length = 12 + 3 * k ∧ ∀ x ∈ es, BadT c x) (d_val rds) A7 ?_ ⟨v10, _, none, rfl, rfl, r10.up e7, rfl, bad12⟩ (fun k d hk x σ1 G8 M8 H8 e8 A8 hI rx Nx hN => ?_) fun σ1 G8 M8 H8 e8 A8 hI => ?_
  · rintro k σ1 Ga Gb M1 e ⟨x10, es, x11, h1, h2, h3, h4⟩
    exact ⟨x10, es, x11, h1, h2, h3.up e, h4⟩
  · obtain ⟨x10, es, x11, rfl, rfl, re, hel, hbt⟩ := hI
    have hk3 : k < 3 := (List.getElem?_eq_some_iff.mp hk).1
    obtain ⟨ch, rfl, hch, hlt⟩ := hodd d (List.mem_of_getElem? hk)
    have oc := okS_one hlt
    have hc1 : (⟨#[ch]⟩ : Str).length = 1 := rfl
    have E8 := E6.trans (e7.trans e8)
    have r4' := r4.up E8
    have r9' := r9.up (e6.trans (e7.trans e8))
    have cutA : okS 8 (L2.cutS t none (some (at' : Int))) := oT.cut
    have cutB : okS 8 (L2.cutS t (some (at' : Int)) none) := oT.cut
    have l1 := cutA.l
    have l2 := cutB.l
    have l0 := o0.l
    refine s_set (d := .list (es ++ [.str (L2.cutS t none (some (at' : Int)) ++ ⟨#[ch]⟩ ++ L2.cutS t (some (at' : Int)) none), .str (⟨#[ch]⟩ ++ (nmsT c)[0]), .str ((nmsT c)[0] ++ ⟨#[ch]⟩)])) (d_op (d_var rfl re) (d_lst (a_cons (sA (sA (d_slS (d_var rfl r4') o_none (o_some (d_var rfl r9')) hzt) (d_var rfl rx) (by omega)) (d_slS (d_var rfl r4') (o_some (d_var rfl r9')) o_none hzt) (by rw [strLen_append]; omega)) (a_cons (sA (d_var rfl rx) (name0 rfl E8) (by omega)) (a_cons (sA (name0 rfl E8) (d_var rfl rx) (by omega)) a_nil))) (Nat.le_of_ble_eq_true rfl)) (rd_cat (by simp only [List.length_cons, List.length_nil]; omega))) A8 fun w10 G9 H9 e9 A9 rw10 => ?_
    refine hN _ G9 _ H9 e9 A9 ⟨w10, _, _, rfl, rfl, rw10, ?_, badT_snoc hbt fun y hy => ?_⟩
    · simp only [List.length_append, List.length_cons, List.length_nil]
      omega
    · have hself : ch ∈ (⟨#[ch]⟩ : Str).cps.toList := List.mem_singleton.mpr rfl
      simp only [List.mem_cons, List.not_mem_nil, or_false] at hy
      rcases hy with rfl | rfl | rfl
      · exact badT_str (ch := ch) (m := 8 + 1 + 8) (mem_app.mpr (.inl (mem_app.mpr (.inr hself)))) hch ((cutA.app oc).app cutB)
      · exact badT_str (ch := ch) (m := 1 + 1) (mem_app.mpr (.inl hself)) hch (oc.app o0)
      · exact badT_str (ch := ch) (m := 1 + 1) (mem_app.mpr (.inr hself)) hch (o0.app oc)
  obtain ⟨x10, es, x11, rfl, rfl, re, hel, hbt⟩ := hI
  dsimp only
  have E8 := E6.trans (e7.trans e8)
  have hel21 : es.length = 21 := hel
  have R1x := R1.up E8
  -- each text is none
  refine s_seq (s_forLI (fun k σ G' M' => ∃ x5 : Option V, σ = [some (.ref r), some v1, some v2, some v3, some v4, x5, x6, x7, x8, some v9, some x10, x11, none, none, none] ∧ M' = M8) (d_var rfl re) A8 (fun e h => h) ⟨x5, rfl, rfl⟩ (fun k d hk x σ1 G9 M9 H9 e9 A9 hI rx Nx hN => ?_) fun σ1 G9 M9 H9 e9 A9 hI => ?_)
  · obtain ⟨y5, rfl, rfl⟩ := hI
    have hb := hbt d (List.mem_of_getElem? hk)
    exact s_ifF (TrB.to (b_T (d_op (d_call0 (R := R_told2) (a_cons d_int (a_cons (d_var rfl (R1x.up e9)) (a_cons (d_var rfl rx) a_nil))) (tell_text ok hb)) (d_lst (a_cons d_str a_nil) (Nat.le_of_ble_eq_true rfl)) (rd_neR sh_text sh_text))) (by rw [eq_text]; rfl)) A9 fun G10 H10 e10 A10 => s_next (hN _ G10 M9 H10 e10 A10 ⟨_, rfl, rfl⟩)
  obtain ⟨y5, rfl, rfl⟩ := hI
  dsimp only
  have E9 := E8.trans e9
  -- the bad scans
  refine s_seq (s_forLE (n' := n + 1012 + 2) (M0 := M) (Φ := BadSL) (e_call (R := R_badscans) (k := 2) (Ψ := fun ds => ds = []) rfl (ea_nil rfl) (fun ds h => ⟨h, rfl, rfl⟩) (by omega)) (fun d ⟨es, h, _⟩ => ⟨es, h⟩) A9 S7 R7 fun ds vS G10 M10 H10 e10 A10 S10 R10 hds rds2 => ?_)
  obtain ⟨ss, hss, hsl2, hbs⟩ := hds
  cases hss
  refine s_forLG (fun k σ G' M' => ∃ x5 x12 : Option V, σ = [some (.ref r), some v1, some v2, some v3, some v4, x5, x6, x7, x8, some v9, some x10, x11, x12, none, none] ∧ M' = M10) (d_val rds2) A10 (fun e h => h) ⟨y5, none, rfl, rfl⟩ (fun k d hk x σ1 G11 M11 H11 e11 A11 hI rx Nx hN => ?_) fun σ1 G11 M11 H11 e11 A11 hI => ?_
  · obtain ⟨z5, z12, rfl, rfl⟩ := hI
    obtain ⟨v, i, rfl, hv, hi, hrs⟩ := hbs d (List.mem_of_getElem? hk)
    refine g_tup A11 rx rfl fun xs rxs => ?_
    obtain ⟨w5, _, rfl, q5, w12, _, rfl, q12, rfl⟩ := rxs
    refine ⟨w5, _, rfl, w12, _, rfl, rfl, ?_⟩
    have o2 := okN2 o_scan hi
    exact s_ifF (TrB.to (b_T (d_op (d_cb (a_cons (d_call0 (R := R_told2) (a_cons d_int (a_cons (d_var rfl q5) (a_cons d_non a_nil))) (tell_scan hrs hv)) a_nil) (rc_okN o2 rfl)) (d_cb (a_cons (d_lst (a_cons d_str (a_cons (d_var rfl q12) a_nil)) (Nat.le_of_ble_eq_true rfl)) a_nil) (rc_okN o2 rfl)) rd_neS)) (by rw [decide_eq_true rfl]; rfl)) A11 fun G12 H12 e12 A12 => s_next (hN _ G12 _ H12 e12 A12 ⟨_, _, rfl, rfl⟩)
  obtain ⟨z5, z12, rfl, rfl⟩ := hI
  dsimp only
  have E11 := E9.trans (e10.trans e11)
  have emptyT : isTextD c (.str "") = true := rfl
  have oE : okS 900 "" := ⟨Nat.zero_le _, rfl⟩
  have t5 := tell_ok2 (ns := [5]) (by decide) (by decide) (by decide)
  refine q_set (d := four0) (d_lst (a_cons (d_call0 (R := R_told2) (a_cons d_int (a_cons (d_var rfl (R1.up E11)) (a_cons d_non a_nil))) (tell_ok0 ok)) (a_cons (d_call0 (R := R_told2) (a_cons d_int (a_cons (d_var rfl (R1.up E11)) (a_cons (d_var rfl (r4.up E11)) a_nil))) (tell_ok1 ok ht ⟨Nat.le_trans tl8 (by decide), oT.c⟩)) (a_cons (d_call0 (R := R_told2) (a_cons d_int (a_cons (d_var rfl (R1.up E11)) (a_cons d_str a_nil))) (tell_ok1 ok emptyT oE)) (a_cons (d_call0 (R := R_told2) (a_cons d_int (a_cons (d_lst (a_cons d_int a_nil) (Nat.le_of_ble_eq_true rfl)) (a_cons d_non a_nil))) t5) a_nil)))) (Nat.le_of_ble_eq_true rfl)) A11 fun v8 G12 H12 e12 A12 r8 => ?_
  refine s_ret (d := .bool true) (TrD.to (d_op (d_var rfl r8) (TrD.to (d_op (d_lst (a_cons (d_lst a_nil) a_nil) (Nat.le_of_ble_eq_true rfl)) d_int (rd_rep (by decide) (by decide) (Nat.le_of_ble_eq_true rfl))) (d2 := four0) rfl) (rd_eqR sh_four sh_four)) (by rw [eq_four])) A12 fun v G13 H13 e13 A13 rv => q _ v G13 _ H13 (E2.trans (E11.trans (e12.trans e13))) A13 S10 (R10.le (by omega)) rfl rv
end
end K99

namespace K99
open PySem PySem.Spec PyProof.Rows L2 L2H Sb
local macro_rules | `(tactic| walk_at "ex") => `(tactic| first | exact Ex.refl _ | assumption | (refine' Ex.trans ?_ (by assumption); walk_at "ex"))
local macro_rules | `(tactic| walk_at "rp") => `(tactic| first | assumption | (refine' Rp.up ?e (by assumption); (case e => walk_at "ex")) | exact rfl)
local macro_rules | `(tactic| walk_at "rd") => `(tactic| with_reducible first | exact rd_add | exact rd_sub | exact rd_lt | exact rd_le | exact rd_gt | exact rd_ge | exact rd_eqI | exact rd_neI | exact rd_eqS | exact rd_neS | exact rd_isN | exact rd_ltS | exact rd_inSign | exact rd_eqE)
local macro_rules | `(tactic| walk_at "tr") => `(tactic| first
  | with_reducible exact d_int
  | with_reducible exact d_str
  | with_reducible exact d_bl
  | with_reducible exact d_non
  | with_reducible exact a_nil
  | with_reducible exact b_yes
  | with_reducible exact o_none
  | with_reducible exact d_newD
  | ((with_reducible refine' d_var ?i ?r); (case i => rfl); (case r => walk_at "rp"))
  | ((with_reducible refine' a_cons ?a ?b); (case a => walk_at "tr"); (case b => walk_at "tr"))
  | ((with_reducible refine' a_star ?a ?b); (case a => walk_at "tr"); (case b => walk_at "tr"))
  | ((with_reducible refine' d_isi ?a ?b); (case a => walk_at "tr"); (case b => decide))
  | ((with_reducible refine' d_op ?a ?b ?c); (case a => walk_at "tr"); (case b => walk_at "tr"); (case c => walk_at "rd"))
  | ((with_reducible refine' d_tup ?a ?b); (case a => walk_at "tr"); (case b => first | decide | (simp; done)))
  | ((with_reducible refine' d_lst ?a ?b); (case a => walk_at "tr"); (case b => first | decide | (simp; done)))
  | ((with_reducible refine' o_some ?a); (case a => walk_at "tr"))
  | ((with_reducible refine' b_B ?a); (case a => walk_at "tr"))
  | ((with_reducible refine' b_T ?a); (case a => walk_at "tr"))
  | ((with_reducible refine' b_not ?a); (case a => walk_at "tr"))
  | ((with_reducible refine' v_not ?a); (case a => walk_at "tr"))
  | ((with_reducible refine' b_or ?a ?b); (case a => walk_at "tr"); (case b => intro _; walk_at "tr"))
  | ((with_reducible refine' b_and ?a ?b); (case a => walk_at "tr"); (case b => intro _; walk_at "tr"))
  | ((with_reducible refine' v_or ?a ?b); (case a => walk_at "tr"); (case b => intro _; walk_at "tr"))
  | ((with_reducible refine' v_and ?a ?b); (case a => walk_at "tr"); (case b => intro _; walk_at "tr"))
  | assumption)


def plainC : CodeD := ⟨[1], [("a", [1])], [], [1]⟩
theorem plain_ok : plainC.ok := by
  refine ⟨by decide, ⟨by decide, by decide, fun p hp => ?_, by decide +kernel⟩, by decide, by decide⟩
  rw [List.mem_singleton.mp hp]
  exact ⟨by decide +kernel, by decide⟩
theorem plain_ab : BadT plainC (.str "ab") := badT_str (ch := 98) (m := 2) (by decide +kernel) (by decide +kernel) ⟨by decide, by decide +kernel⟩
def scan3 : List PyData := [.list [.int 5, .int 0], .tuple [.int 5, .int 7], .list (sevens 400)]
def tell3 (d : PyData) : PyData := match d with
  | .tuple _ => .list [.str "scan", .none]
  | .list [_, _] => .list [.str "scan", .int 1]
  | _ => .list []
theorem scan3_ok : ∀ d ∈ scan3, R_told2 [.int 2, d, .none] (tell3 d) := by
  intro d hd
  simp only [scan3, List.mem_cons, List.not_mem_nil, or_false] at hd
  rcases hd with rfl | rfl | rfl
  · exact tell_scan ⟨_, rfl, fun xs z => (by cases z; decide), rfl⟩ (okN.rep (n := 1) (m := 300) (okB_ok (by decide +kernel)))
  · exact tell_scan ⟨_, rfl, fun xs z => (nomatch z), rfl⟩ (okN.rep (n := 1) (m := 300) (okB_ok (by decide +kernel)))
  · exact tell_ok2 (ns := List.replicate 400 7) (by rw [List.length_replicate]; decide) (by rw [List.length_replicate]; decide) fun n hn => by
      rw [List.eq_of_mem_replicate hn]
      decide
section
variable {P : Program} {w : World} {K : PySem.W.Frag} {mg : Str → Option Value} {base : Heap}
def S_law (K : PySem.W.Frag) : Sp := fun vs H Q _ => ∃ (a : Addr) (ns : List Int), vs = [.ref a] ∧ SqL K H a (ns.map V.int) ∧ ns.length ≤ 1000 ∧ ∀ H', Q (.bl true) H'
theorem G_law {f : Addr} {fd : FuncData} (T : Tx K mg) (F : FunD K "law" "law" (defArgs s_law) (defBody s_law) (defScope s_law) (d_law.dvs K) (d_law.kws K) f fd) : FnG P w K mg base CX0 12 f fd ["script"] (S_law K) := by
  refine fnG_of F sc_law (fun vs H Q E h => by obtain ⟨_, _, rfl, _⟩ := h; rfl) (fun cdv A outer s H vs Q E hg hr h => ?_)
  obtain ⟨a, ns, rfl, hS, hl, q⟩ := h
  refine ⟨_, PSs.nox (pss_cons (ps_for PassesOwn.never rfl (pi_range1 (by rfl) T.n_range (pa_cons (pe_callB (call_max2' rfl) (by rfl) T.n_max (by decide +kernel) (pa_cons pe_int (pa_cons (pe_callB (call_min2' rfl) (by rfl) T.n_min (by decide +kernel) (pa_cons pe_int (pa_cons (pe_callB call_len' (by rfl) T.n_len (by decide +kernel) (pa_cons (pv 0) pa_nil)) pa_nil))) pa_nil))) pa_nil)) (pg_name (i := 1) sc_law.nd rfl (by first | exact Or.inl rfl | exact Or.inr rfl)) (pss_cons (ps_set (i := 2) sc_law.nd rfl (by first | exact Or.inl rfl | exact Or.inr rfl) (pe_fd (F__law_reel (P := P) (w := w) (base := base) T) hg (hr.mono (by decide)) pass0 (pa_cons (pv 0) (pa_cons (pv 1) pa_nil)))) (pss_one (ps_if (pt_not (pt_val (pe_fd (F__law_right (P := P) (w := w) (base := base) T) hg (hr.mono (by decide)) pass0 (pa_cons (pv 2) (pa_cons (pe_fd (F__law_code (P := P) (w := w) (base := base) T) hg (hr.mono (by decide)) pass0 (pa_cons (pv 2) (pa_cons (pe_op op_add pe_int (pe_fd (F__law_spin (P := P) (w := w) (base := base) T) hg (hr.mono (by decide)) pass0 (pa_cons (pv 2) (pa_cons pe_int pa_nil)))) (pa_cons pe_int pa_nil)))) pa_nil))))) (pss_one (ps_ret pe_bl)) pss_nil))))
    (pss_cons (ps_set (i := 3) sc_law.nd rfl (by first | exact Or.inl rfl | exact Or.inr rfl) (pe_tup (pa_cons (pe_tup (pa_cons pe_int pa_nil)) (pa_cons (pe_disp (pps_cons pe_str (pe_tup (pa_cons pe_int pa_nil)) pps_nil) (by rfl) (by rfl) (fun z => by cases z) (by decide)) (pa_cons (pe_tup pa_nil) (pa_cons (pe_tup (pa_cons pe_int pa_nil)) pa_nil))))))
    (pss_cons (ps_setLc (i := 4) (own := [("scan", 5)]) (g := gName 5) (by rfl) sc_law.nd rfl rfl (sw_true rfl rfl rfl (by decide +kernel)) (pi_list (pe_lst (pa_cons (pe_lst (pa_cons pe_int (pa_cons pe_int pa_nil))) (pa_cons (pe_tup (pa_cons pe_int (pa_cons pe_int pa_nil))) (pa_cons (pe_op op_rep (pe_lst (pa_cons pe_int pa_nil)) pe_int) pa_nil))))) (blkOk_by (own := [("scan", 5)]) (N := ["script", "index", "reel", "plain", "told", "scan"]) (sc := defScope s_law) (by decide +kernel)) (fun _ _ _ _ _ => (pg_name (i := 5) sc_law.nd rfl (by first | exact Or.inl rfl | exact Or.inr rfl))) (fun _ _ _ _ _ => pts_nil) (fun _ _ _ _ _ => (pe_fd (F__law_told (P := P) (w := w) (base := base) T) hg (hr.mono (by decide)) pass0 (pa_cons pe_int (pa_cons (pv 5) (pa_cons pe_non pa_nil))))))
    (pss_one (ps_ret (pe_cmpR (op_eqS hr.units) (pe_op op_cat (pv 4) (pe_lst (pa_cons (pe_fd (F__law_told (P := P) (w := w) (base := base) T) hg (hr.mono (by decide)) pass0 (pa_cons pe_int (pa_cons (pv 3) (pa_cons pe_str pa_nil)))) pa_nil))) (pe_lst (pa_cons (pe_lst (pa_cons pe_str (pa_cons pe_int pa_nil))) (pa_cons (pe_lst (pa_cons pe_str (pa_cons pe_non pa_nil))) (pa_cons (pe_lst pa_nil) (pa_cons (pe_lst (pa_cons pe_str pa_nil)) pa_nil))))) (nomark _))))))), ?_⟩
  rw [show L2.start ["script", "index", "reel", "plain", "told", "scan"] [(.ref a)] = [some (.ref a), none, none, none, none, none] from rfl]
  dsimp only [xK, xK2]
  have hA : At H (fun _ => none) H := ⟨Ex.refl _, fun _ _ z => (by cases z), fun _ _ z => (by cases z)⟩
  have hlen : TrD K (tCB (Sb.rLen K) (tCons (tVar 0) tNil)) [some (.ref a), none, none, none, none, none] H (.int ((ns.map V.int).length : Nat)) := d_lenQ rfl hS
  rw [List.length_map] at hlen
  refine s_seq (s_forRI (fun k σ G M => ∃ x1 x2 : Option V, σ = [some (.ref a), x1, x2, none, none, none]) (d_cb (a_cons d_int (a_cons (d_cb (a_cons d_int (a_cons hlen a_nil)) rc_min2) a_nil)) rc_max2) (by split <;> omega) (by split <;> omega) hA (fun e h => h) ⟨none, none, rfl⟩ (fun k hk σ1 G1 M1 H1 e1 A1 hI Nx hN => ?_) fun σ1 G1 M1 H1 e1 A1 hI => ?_)
  · obtain ⟨x1, x2, rfl⟩ := hI
    have hk2 : k < 2 := by
      have z : (k : Int) < 2 := by
        refine Int.lt_of_lt_of_le hk ?_
        split <;> (try split) <;> omega
      omega
    refine s_seq ⟨_, rfl, _, rfl, G1, M1, a, ns, k, rfl, A1, e1.sl hS, hl, by omega, fun p x b G2 H2 hM hG e2 A2 b0 b1 => ?_⟩
    have R0 : RL p 0 (upd M1 p (.lst [.int x, .int b, .int 0])) := ⟨x, b, 0, upd_same, b0, b1, Nat.le_refl _⟩
    refine s_ifE (n' := 1 + 1000 + 2000) (r := p) (e_call (R := R_right) (k := 2000) (Ψ := fun ds => ∃ c : CodeD, ds = [c.d] ∧ c.ok ∧ ("q" : Str) ∉ c.cs.map (·.1)) (Φ := fun d => d = .bool true) rfl (ea_cons (e_call (R := R_code) (k := 1000) (Ψ := fun ds => ∃ m : Nat, ds = [.int m, .int 6] ∧ 1 ≤ m ∧ m ≤ 6) (Φ := fun d => ∃ c : CodeD, d = c.d ∧ c.ok ∧ ("q" : Str) ∉ c.cs.map (·.1)) rfl (ea_cons (n := 0) (m := 1) (Φ := fun d => ∃ m : Nat, d = .int m ∧ 1 ≤ m ∧ m ≤ 6) (e_op (Φ1 := fun d => d = .int 1) (Φ2 := RI 0 5) (e_D d_int rfl) (fun _ _ => spin_c rfl (by decide) (by decide) (by omega)) ?_) fun d hd => ea_A (a_cons d_int a_nil) ?_) (fun ds h => ?_) (by omega)) fun d hd => ea_nil ?_) (fun ds h => ?_) (by omega)) A2 .refl R0 fun G3 M3 H3 e3 A3 S3 R3 => s_next (hN _ G3 M3 H3 (e2.trans e3) A3 ⟨_, _, rfl⟩)
    · rintro _ _ rfl ⟨i, rfl, h0, h1⟩
      obtain ⟨iN, rfl⟩ := Int.eq_ofNat_of_zero_le h0
      exact ⟨_, rd_add, 1 + iN, by congr 1, by omega, by omega⟩
    · obtain ⟨m, rfl, h⟩ := hd
      exact ⟨m, rfl, h⟩
    · obtain ⟨m, rfl, h0, h1⟩ := h
      exact ⟨m, 6, rfl, h0, by omega, by decide, by decide, rfl, rfl⟩
    · obtain ⟨c, rfl, ok, hq⟩ := hd
      exact ⟨c, rfl, ok, hq⟩
    · obtain ⟨c, rfl, ok, hq⟩ := h
      exact ⟨c, rfl, ok, hq, rfl, rfl⟩
  obtain ⟨x1, x2, rfl⟩ := hI
  dsimp only
  have one1 : ∀ {σ : L2.St} {Gx : Hp}, TrD K (tTup (tCons (tC (V.int 1)) tNil)) σ Gx (.tuple (dInts [1])) := d_tup (a_cons d_int a_nil) (Nat.le_of_ble_eq_true rfl)
  refine q_set (d := plainC.d) (d_tup (a_cons one1 (a_cons (d_dispM (kvs := [("a", .tuple (dInts [1]))]) (p_cons d_str one1 p_nil) (Nat.le_of_ble_eq_true rfl)) (a_cons (d_tup a_nil) (a_cons one1 a_nil)))) (Nat.le_of_ble_eq_true rfl)) A1 fun v3 G2 H2 e2 A2 r3 => ?_
  refine q_set (d := .list [.list [.str "scan", .int 1], .list [.str "scan", .none], .list []]) (TrD.to (d_lcL (ds := scan3) (p := fun _ => true) (f := tell3) (d_lst (a_cons (d_lst (a_cons d_int (a_cons d_int a_nil)) (Nat.le_of_ble_eq_true rfl)) (a_cons (d_tup (a_cons d_int (a_cons d_int a_nil)) (Nat.le_of_ble_eq_true rfl)) (a_cons (TrD.to (d_op (d_lst (a_cons d_int a_nil) (Nat.le_of_ble_eq_true rfl)) d_int (rd_rep (by decide) (by decide) (by decide))) (by rw [seven_flat]; rfl)) a_nil))) (Nat.le_of_ble_eq_true rfl)) (Nat.le_of_ble_eq_true rfl) (fun _ _ _ _ _ _ => b_yes) fun d hd _ x Gx ex rx => d_call0 (R := R_told2) (a_cons d_int (a_cons (d_var rfl rx) (a_cons d_non a_nil))) (scan3_ok d hd)) (by rw [filt_true]; rfl)) A2 fun v4 G3 H3 e3 A3 r4 => ?_
  refine s_ret (d := .bool true) (d_op (d_op (d_var rfl r4) (d_lst (a_cons (d_call0 (R := R_told2) (a_cons d_int (a_cons (d_var rfl (r3.up e3)) (a_cons d_str a_nil))) (tell_text plain_ok plain_ab)) a_nil) (Nat.le_of_ble_eq_true rfl)) (rd_cat (Nat.le_of_ble_eq_true rfl))) (d_lst (a_cons (d_lst (a_cons d_str (a_cons d_int a_nil)) (Nat.le_of_ble_eq_true rfl)) (a_cons (d_lst (a_cons d_str (a_cons d_non a_nil)) (Nat.le_of_ble_eq_true rfl)) (a_cons (d_lst a_nil) (a_cons (d_lst (a_cons d_str a_nil) (Nat.le_of_ble_eq_true rfl)) a_nil)))) (Nat.le_of_ble_eq_true rfl)) (rd_eqSame (by decide +kernel) rfl)) A3 fun v G5 H5 e5 A5 r => ?_
  rw [show v = V.bl true from r]
  exact q _
end
end K99

namespace K99
open PySem PySem.Spec PyProof.Rows L2 Sb
abbrev Rw : PySem.W.OpenRow := PySem.W.OpenLaw.row PySem.Challenge.rw_scanbars_k99_errors_of_texts
abbrev hk : PySem.W.Hook := Sb.hookT 6 fa fn exB
def ob (s : PySem.W.SharedT) : He.AlD × Bool := Sb.obsT 6 fa fn exB (HandSHeadRun.getT s)
theorem ob_eq (s : PySem.W.SharedT) : ob s = hk.obs s.abs := Sb.obsT_eq (HandSHeadRun.getT_eq s)
def loose : List Str := [("ScanError" : Str), ("InvalidText" : Str), ("InvalidFactor" : Str), ("InvalidNumber" : Str), ("InvalidName" : Str), ("InvalidWidths" : Str), ("InvalidRow" : Str), ("LastCharacter" : Str), ("NothingToUndo" : Str), ("InvalidCommand" : Str), ("InvalidCode" : Str), ("InvalidScan" : Str), ("TooLarge" : Str), ("InvalidSyntax" : Str), ("NAMES" : Str), ("MOST_CHARACTERS" : Str), ("MOST_DURATIONS" : Str), ("is_integer" : Str), ("is_name" : Str), ("are_widths" : Str), ("is_widths" : Str), ("fault_of_characters" : Str), ("fault_of_code" : Str), ("require_code" : Str), ("is_text" : Str), ("require_text" : Str), ("fault_of_scan" : Str), ("require_scan" : Str), ("row_by" : Str), ("line_of" : Str), ("format_code" : Str), ("format_scan" : Str), ("bars" : Str), ("_law_reel" : Str), ("_law_spin" : Str), ("_law_widths" : Str), ("_law_code" : Str), ("_law_class" : Str), ("_law_bad_codes" : Str), ("_law_bad_scans" : Str), ("_law_told" : Str), ("_law_right" : Str)]
theorem run (w : World) : HandSHeadRun.RunEq Rw (PySem.W.view Rw.prog [46]) hk ob 6000 loose w := by
  intro os
  kernel_rfl
theorem facts {P : Program} {w : World} {K : PySem.W.Frag} {h : Heap} {mg : Str → Option Value} {f : Addr} (X : K.In h) (G : h.Ns mainGlobals mg) (hfa : mg ("law" : Str) = some (.ref f)) (c : He.SaysD fa fn K ∧ exB K = true) :
    ∃ fd : FuncData, (∀ (s : Shared) (v : Value), BindsTo s fd ⟨[v], []⟩ [("script", v)]) ∧ ∀ bh : Heap, K.In bh → bh.Ns mainGlobals mg → FnG P w K mg bh CX0 12 f fd ["script"] (S_law K) := by
  have T : Tx K mg := ⟨h, X, G, c.1, c.2⟩
  obtain ⟨fd, F⟩ := T.f_law
  have e := hfa.symm.trans T.g_law
  cases e
  have b := FunD.bindsA (ps := ["script"]) F fun _ _ _ _ _ _ us hl => match us, hl with | [_], _ => rfl
  exact ⟨fd, fun s v => b s [v] rfl, fun bh _ _ => G_law T F⟩
end K99
open PySem PySem.W PySem.Calls PyProof.Rows
theorem PySem.Challenge.cw_scanbars_k99_errors_of_texts_holds : PySem.Challenge.rw_scanbars_k99_errors_of_texts.Holds := by
  w_on; o_law
  refine HandSHeadRun.head_any (r := K99.Rw) (q := view K99.Rw.prog [46]) (H := K99.hk) (ob := K99.ob) (M := 6000) (loose := K99.loose) (d := HandSHeadRun.topDef K99.Rw.prog 46) (kwd := []) K99.ob_eq
    (by kernel_rfl) (fun s => by kernel_rfl) K99.run (by kernel_rfl) (by kernel_rfl) (by kernel_rfl) (by rfl) (by first | assumption | decide +kernel) (by decide +kernel) ⟨rfl, rfl, rfl, rfl, rfl, by decide +kernel⟩ ?hw ?hc
  case hw => w_witness2
  case hc =>
    refine Sb.law_walks (l := PySem.Challenge.rw_scanbars_k99_errors_of_texts) (n := 63) (k := 12) (x := "script") (CX := L2.CX0) rfl (by decide) (by kernel_rfl) ⟨rfl, by decide, by decide⟩ ?F (fun _ _ _ _ z => z)
    intro w mg f h Y G hmg0
    obtain ⟨K, KX, c⟩ := Y
    have hmg : mg ("law" : PySem.Str) = some (.ref f) := by
      have e : (HandSHeadRun.topDef K99.Rw.prog 46).name = ("law" : PySem.Str) := by kernel_rfl
      rw [← e]
      exact hmg0
    obtain ⟨fd, hb, hF⟩ := K99.facts (P := (PySem.Challenge.rw_scanbars_k99_errors_of_texts).prog) (w := w) KX G hmg c
    exact ⟨K, fd, K99.S_law K, KX, hb, fun H a ns hl _ hS => ⟨a, ns, rfl, hS, Nat.le_trans hl (by decide), fun _ => rfl⟩, hF⟩

