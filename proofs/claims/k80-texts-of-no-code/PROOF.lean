import PyProof.Rows.All
import Wide.All
import OpenK.AllK
import Wide.FinOn
import PyProof.EqAt
import PyProof.EqKinds
import PyProof.TupleCall
import PyProof.ReprRoads
import HandS.ForMost
import HandS.More
import HandS.IsInst
import HandS.Defaults
import HandS.DictComp
import HandS.ListItems
import HandS.Star
import HandS.Style
import HandS.TupAny
import HandS.TupMul
import HandS.Wide
import HandS.Exc
import HandS.TryOnly
import HandS.TryMany
import HandS.WordsExc
import HandS.Evl
import HandS.Head0
import HandS.Head1
import HandS.Head2
import HandS.HeadEnd
import HandS.HeadHook1
import HandS.HeadHook2
import HandS.DictEq
import HandS.DeepEq
import HandS.OwnEq
import HandS.Ends
import HandS.ExcInit
import HandS.ExcField
import HandS.ExcOwn
import HandS.HeadHook4
import HandS.Iter
import HandS.HeadNt
import PySem.Challenge.RW_scanbars_k80_texts_of_no_code
set_option Elab.async false
set_option autoImplicit false
set_option linter.all false
set_option maxRecDepth 100000
set_option maxHeartbeats 0
namespace Sb
open PySem PySem.Spec PyProof.Rows L2

/-! ### heaps: G what never changes any more, M what is still written -/
def Ex (H H' : Hp) : Prop := ∀ a o, H a = some o → H' a = some o
section
variable {G G' G1 G2 M M' H H' H1 : Hp} {p r : Addr} {o u : HO} {K : PySem.W.Frag}
theorem Ex.refl (H : Hp) : Ex H H := fun _ _ h => h
theorem Ex.trans (a : Ex H H1) (b : Ex H1 H') : Ex H H' := fun x o h => b x o (a x o h)
theorem Ex.new (h : H p = none) : Ex H (upd H p o) := fun a u e => by
  rw [upd_ne (ne_of_none e h)]
  exact e
theorem Ex.none (e : Ex H H') (h : H' p = Option.none) : H p = Option.none := by
  cases q : H p with
  | none => rfl
  | some o =>
    rw [e p o q] at h
    cases h
theorem Ex.rd (e : Ex H H') (h : Rd H p u) : Rd H' p u := by
  rcases h with h | ⟨o, h⟩
  · exact Or.inl (e _ _ h)
  · exact Or.inr ⟨o, e _ _ h⟩
theorem Ex.sl {xs : List V} (e : Ex H H') (h : SqL K H p xs) : SqL K H' p xs := by
  rcases h with h | h
  · exact Or.inl (e.rd h)
  · exact Or.inr h
theorem Ex.stt {xs : List V} (e : Ex H H') (h : SqT K H p xs) : SqT K H' p xs := by
  rcases h with h | h
  · exact Or.inl (e.rd h)
  · exact Or.inr h
theorem none_upd {a : Addr} (h : H a = none) (n : a ≠ p) : upd H p o a = none := by
  rw [upd_ne n]
  exact h
structure At (G M H : Hp) : Prop where
  g : Ex G H
  m : Ex M H
  d : ∀ a o, M a = some o → G a = none
theorem At.ng (A : At G M H) (h : H p = none) : At (upd G p o) M (upd H p o) where
  g := fun a u e => by
    by_cases q : a = p
    · subst q
      rw [upd_same] at e ⊢
      exact e
    · rw [upd_ne q] at e ⊢
      exact A.g _ _ e
  m := fun a u e => by
    have q : a ≠ p := fun z => by
      subst z
      rw [A.m _ _ e] at h
      cases h
    rw [upd_ne q]
    exact A.m _ _ e
  d := fun a u e => by
    have q : a ≠ p := fun z => by
      subst z
      rw [A.m _ _ e] at h
      cases h
    rw [upd_ne q]
    exact A.d _ _ e
theorem At.nm (A : At G M H) (h : H p = none) : At G (upd M p o) (upd H p o) where
  g := fun a u e => by
    have q : a ≠ p := fun z => by
      subst z
      rw [A.g _ _ e] at h
      cases h
    rw [upd_ne q]
    exact A.g _ _ e
  m := fun a u e => by
    by_cases q : a = p
    · subst q
      rw [upd_same] at e ⊢
      exact e
    · rw [upd_ne q] at e ⊢
      exact A.m _ _ e
  d := fun a u e => by
    by_cases q : a = p
    · subst q
      exact A.g.none h
    · rw [upd_ne q] at e
      exact A.d _ _ e
theorem At.wr (A : At G M H) (h : M p = some u) : At G (upd M p o) (upd H p o) where
  g := fun a v e => by
    have q : a ≠ p := fun z => by
      subst z
      rw [A.d _ _ h] at e
      cases e
    rw [upd_ne q]
    exact A.g _ _ e
  m := fun a v e => by
    by_cases q : a = p
    · subst q
      rw [upd_same] at e ⊢
      exact e
    · rw [upd_ne q] at e ⊢
      exact A.m _ _ e
  d := fun a v e => by
    by_cases q : a = p
    · subst q
      exact A.d _ _ h
    · rw [upd_ne q] at e
      exact A.d _ _ e
theorem At.drop (A : At G M H) (e : Ex M' M) : At G M' H := ⟨A.g, e.trans A.m, fun a o h => A.d a o (e a o h)⟩
theorem At.frz (A : At G M H) (h : M p = some o) (e : Ex M' M) (n : M' p = none) : At (upd G p o) M' H where
  g := fun a v q => by
    by_cases z : a = p
    · subst z
      rw [upd_same] at q
      cases q
      exact A.m _ _ h
    · rw [upd_ne z] at q
      exact A.g _ _ q
  m := e.trans A.m
  d := fun a v q => by
    have z : a ≠ p := fun z => by
      subst z
      rw [n] at q
      cases q
    rw [upd_ne z]
    exact A.d _ _ (e _ _ q)
theorem At.frzG (A : At G M H) (h : M p = some o) : Ex G (upd G p o) := Ex.new (A.d _ _ h)
theorem At.ne (A : At G M H) (h : M r = some u) (n : H p = none) : r ≠ p := fun z => by
  subst z
  rw [A.m _ _ h] at n
  cases n
theorem At.mNone (A : At G M H) (n : H p = none) : M p = none := A.m.none n
theorem At.gNone (A : At G M H) (n : H p = none) : G p = none := A.g.none n
end

/-! ### data in the heap -/
def kD : Key → PyData
  | .inl i => .int i
  | .inr x => .str x
mutual
def Rp (K : PySem.W.Frag) (G : Hp) : PyData → V → Prop
  | .none, v => v = .non
  | .bool b, v => v = .bl b
  | .int i, v => v = .int i
  | .str x, v => v = .str x
  | .list ds, v => ∃ a xs, v = .ref a ∧ G a = some (.lst xs) ∧ RpL K G ds xs
  | .tuple ds, v => ∃ a xs, v = .ref a ∧ SqT K G a xs ∧ RpL K G ds xs
  | .dict kvs, v => ∃ a es, v = .ref a ∧ G a = some (.dK es) ∧ RpD K G kvs es
def RpL (K : PySem.W.Frag) (G : Hp) : List PyData → List V → Prop
  | [], xs => xs = []
  | d :: ds, xs => ∃ x r, xs = x :: r ∧ Rp K G d x ∧ RpL K G ds r
def RpD (K : PySem.W.Frag) (G : Hp) : List (PyData × PyData) → List (Key × V) → Prop
  | [], es => es = []
  | (k, d) :: ds, es => ∃ x y r, es = (x, y) :: r ∧ kD x = k ∧ Rp K G d y ∧ RpD K G ds r
end
section
variable {K : PySem.W.Frag} {G G' : Hp}
mutual
theorem Rp.mono (e : Ex G G') : ∀ (d : PyData) {v : V}, Rp K G d v → Rp K G' d v
  | .none, _, h => h
  | .bool _, _, h => h
  | .int _, _, h => h
  | .str _, _, h => h
  | .list ds, _, ⟨a, xs, h1, h2, h3⟩ => ⟨a, xs, h1, e _ _ h2, RpL.mono e ds h3⟩
  | .tuple ds, _, ⟨a, xs, h1, h2, h3⟩ => ⟨a, xs, h1, e.stt h2, RpL.mono e ds h3⟩
  | .dict kvs, _, ⟨a, es, h1, h2, h3⟩ => ⟨a, es, h1, e _ _ h2, RpD.mono e kvs h3⟩
theorem RpL.mono (e : Ex G G') : ∀ (ds : List PyData) {xs : List V}, RpL K G ds xs → RpL K G' ds xs
  | [], _, h => h
  | d :: ds, _, ⟨x, r, h1, h2, h3⟩ => ⟨x, r, h1, Rp.mono e d h2, RpL.mono e ds h3⟩
theorem RpD.mono (e : Ex G G') : ∀ (ds : List (PyData × PyData)) {es : List (Key × V)}, RpD K G ds es → RpD K G' ds es
  | [], _, h => h
  | (k, d) :: ds, _, ⟨x, y, r, h1, h2, h3, h4⟩ => ⟨x, y, r, h1, h2, Rp.mono e d h3, RpD.mono e ds h4⟩
end
theorem Rp.up (e : Ex G G') {d : PyData} {v : V} (h : Rp K G d v) : Rp K G' d v := Rp.mono e d h
theorem RpL.up (e : Ex G G') {ds : List PyData} {xs : List V} (h : RpL K G ds xs) : RpL K G' ds xs := RpL.mono e ds h
theorem RpD.up (e : Ex G G') {ds : List (PyData × PyData)} {xs : List (Key × V)} (h : RpD K G ds xs) : RpD K G' ds xs := RpD.mono e ds h
theorem RpL.nil : RpL K G [] [] := rfl
theorem RpL.cons {d : PyData} {ds : List PyData} {x : V} {xs : List V} (h : Rp K G d x) (t : RpL K G ds xs) : RpL K G (d :: ds) (x :: xs) := ⟨x, xs, rfl, h, t⟩
theorem RpL.len : ∀ {ds : List PyData} {xs : List V}, RpL K G ds xs → xs.length = ds.length
  | [], _, h => by rw [show _ = [] from h]; rfl
  | _ :: ds, _, ⟨x, r, h1, _, h3⟩ => by rw [h1, List.length_cons, List.length_cons, RpL.len h3]
theorem RpL.app : ∀ {ds es : List PyData} {xs ys : List V}, RpL K G ds xs → RpL K G es ys → RpL K G (ds ++ es) (xs ++ ys)
  | [], _, xs, _, h, t => by
    rw [show xs = [] from h]
    exact t
  | _ :: ds, _, _, _, ⟨x, r, h1, h2, h3⟩, t => by
    rw [h1]
    exact ⟨x, _, rfl, h2, RpL.app h3 t⟩
theorem RpL.snoc {ds : List PyData} {d : PyData} {xs : List V} {x : V} (h : RpL K G ds xs) (t : Rp K G d x) : RpL K G (ds ++ [d]) (xs ++ [x]) := h.app (.cons t .nil)
theorem RpL.get : ∀ {ds : List PyData} {xs : List V} {i : Nat} {x : V}, RpL K G ds xs → xs[i]? = some x → ∃ d, ds[i]? = some d ∧ Rp K G d x
  | [], xs, i, x, h, e => by
    rw [show xs = [] from h] at e
    simp at e
  | d :: ds, _, 0, x, ⟨y, r, h1, h2, _⟩, e => by
    rw [h1] at e
    have e1 : y = x := by simpa using e
    subst e1
    exact ⟨d, rfl, h2⟩
  | d :: ds, _, i + 1, x, ⟨y, r, h1, _, h3⟩, e => by
    rw [h1] at e
    obtain ⟨d', q1, q2⟩ := RpL.get (i := i) (x := x) h3 (by simpa using e)
    exact ⟨d', by simpa using q1, q2⟩
theorem RpL.at : ∀ {ds : List PyData} {xs : List V} {i : Nat} {d : PyData}, RpL K G ds xs → ds[i]? = some d → ∃ x, xs[i]? = some x ∧ Rp K G d x
  | [], xs, i, x, h, e => by simp at e
  | d :: ds, _, 0, x, ⟨y, r, h1, h2, _⟩, e => by
    have e1 : d = x := by simpa using e
    subst e1
    exact ⟨y, by rw [h1]; rfl, h2⟩
  | d :: ds, _, i + 1, x, ⟨y, r, h1, _, h3⟩, e => by
    obtain ⟨d', q1, q2⟩ := RpL.at (i := i) (d := x) h3 (by simpa using e)
    exact ⟨d', by rw [h1]; simpa using q1, q2⟩
theorem RpL.take : ∀ {ds : List PyData} {xs : List V} (n : Nat), RpL K G ds xs → RpL K G (ds.take n) (xs.take n)
  | [], xs, n, h => by
    rw [show xs = [] from h, List.take_nil, List.take_nil]
    rfl
  | _ :: _, _, 0, _ => rfl
  | _ :: _, _, n + 1, ⟨x, r, h1, h2, h3⟩ => by
    rw [h1]
    exact ⟨x, _, rfl, h2, RpL.take n h3⟩
theorem RpL.drop : ∀ {ds : List PyData} {xs : List V} (n : Nat), RpL K G ds xs → RpL K G (ds.drop n) (xs.drop n)
  | [], xs, n, h => by
    rw [show xs = [] from h, List.drop_nil, List.drop_nil]
    rfl
  | _ :: _, xs, 0, h => h
  | _ :: _, _, n + 1, ⟨x, r, h1, h2, h3⟩ => by
    rw [h1]
    exact RpL.drop n h3
theorem RpL.rev : ∀ {ds : List PyData} {xs : List V}, RpL K G ds xs → RpL K G ds.reverse xs.reverse
  | [], xs, h => by
    rw [show xs = [] from h]
    rfl
  | d :: ds, _, ⟨x, r, h1, h2, h3⟩ => by
    rw [h1, List.reverse_cons, List.reverse_cons]
    exact (RpL.rev h3).snoc h2
def dInts (ns : List Int) : List PyData := ns.map PyData.int
def dStrs (ss : List Str) : List PyData := ss.map PyData.str
theorem rpL_ints : ∀ (ns : List Int) {xs : List V}, RpL K G (dInts ns) xs ↔ xs = ns.map V.int
  | [], xs => Iff.rfl
  | n :: ns, xs => by
    constructor
    · rintro ⟨x, r, h1, h2, h3⟩
      rw [h1, show x = V.int n from h2, (rpL_ints ns).mp h3]
      rfl
    · intro h
      rw [h]
      exact ⟨_, _, rfl, rfl, (rpL_ints ns).mpr rfl⟩
theorem rpL_strs : ∀ (ns : List Str) {xs : List V}, RpL K G (dStrs ns) xs ↔ xs = ns.map V.str
  | [], xs => Iff.rfl
  | n :: ns, xs => by
    constructor
    · rintro ⟨x, r, h1, h2, h3⟩
      rw [h1, show x = V.str n from h2, (rpL_strs ns).mp h3]
      rfl
    · intro h
      rw [h]
      exact ⟨_, _, rfl, rfl, (rpL_strs ns).mpr rfl⟩
theorem Rp.ti {ns : List Int} {v : V} (h : Rp K G (.tuple (dInts ns)) v) : ∃ a, v = .ref a ∧ SqT K G a (ns.map V.int) := by
  obtain ⟨a, xs, h1, h2, h3⟩ := h
  rw [(rpL_ints ns).mp h3] at h2
  exact ⟨a, h1, h2⟩
theorem Rp.li {ns : List Int} {v : V} (h : Rp K G (.list (dInts ns)) v) : ∃ a, v = .ref a ∧ G a = some (.lst (ns.map V.int)) := by
  obtain ⟨a, xs, h1, h2, h3⟩ := h
  rw [(rpL_ints ns).mp h3] at h2
  exact ⟨a, h1, h2⟩
theorem Rp.ls {ns : List Str} {v : V} (h : Rp K G (.list (dStrs ns)) v) : ∃ a, v = .ref a ∧ G a = some (.lst (ns.map V.str)) := by
  obtain ⟨a, xs, h1, h2, h3⟩ := h
  rw [(rpL_strs ns).mp h3] at h2
  exact ⟨a, h1, h2⟩
end

/-! ### what a reading gives, as data -/
section
variable (K : PySem.W.Frag)
def Res (G M : Hp) (d : PyData) (Q : VK) : Prop := ∀ v G' H', Ex G G' → At G' M H' → Rp K G' d v → Q v H'
def TrD (te : TE) (σ : L2.St) (G : Hp) (d : PyData) : Prop := ∀ G1 M H, Ex G G1 → At G1 M H → ∀ Q : VK, Res K G1 M d Q → te σ H Q
def TrA (ta : TA) (σ : L2.St) (G : Hp) (ds : List PyData) : Prop := ∀ G1 M H, Ex G G1 → At G1 M H → ∀ Q : List V → Hp → Prop, (∀ xs G' H', Ex G1 G' → At G' M H' → RpL K G' ds xs → Q xs H') → ta σ H Q
def TrB (tt : TT) (σ : L2.St) (G : Hp) (b : Bool) : Prop := ∀ G1 M H, Ex G G1 → At G1 M H → ∀ Q : Bool → Hp → Prop, (∀ G' H', Ex G1 G' → At G' M H' → Q b H') → tt σ H Q
def RD (r : R2) (d1 d2 d3 : PyData) : Prop := ∀ G M H x y, At G M H → Rp K G d1 x → Rp K G d2 y → ∀ Q : VK, Res K G M d3 Q → r x y H Q
def RC (r : List V → Hp → VK → Prop) (ds : List PyData) (d : PyData) : Prop := ∀ G M H xs, At G M H → RpL K G ds xs → ∀ Q : VK, Res K G M d Q → r xs H Q
def RU (r : V → Hp → VK → Prop) (d1 d : PyData) : Prop := ∀ G M H x, At G M H → Rp K G d1 x → ∀ Q : VK, Res K G M d Q → r x H Q
/-- a promise: data in, data out, nothing else is touched -/
def PSp (R : List PyData → PyData → Prop) : Sp := fun vs H Q _ => ∃ G M ds r, At G M H ∧ RpL K G ds vs ∧ R ds r ∧ Res K G M r Q
end
section
variable {K : PySem.W.Frag} {σ : L2.St} {G G' M H : Hp} {ta tb te : TE} {d d1 d2 d3 : PyData} {tt t u : TT} {ts : TA} {ds es : List PyData} {Q : VK}
theorem Res.mono (e : Ex G G') (q : Res K G M d Q) : Res K G' M d Q := fun v G2 H2 e2 A r => q v G2 H2 (e.trans e2) A r
theorem Res.here (q : Res K G M d Q) (A : At G M H) {v : V} (r : Rp K G d v) : Q v H := q v G H (Ex.refl G) A r
theorem Res.newG {p : Addr} {o : HO} (q : Res K G M d Q) (A : At G M H) (n : H p = none) {v : V} (r : Rp K (upd G p o) d v) : Q v (upd H p o) := q v _ _ (Ex.new (A.gNone n)) (A.ng n) r
theorem TrD.up (e : Ex G G') (h : TrD K te σ G d) : TrD K te σ G' d := fun G1 M H e1 A Q q => h G1 M H (e.trans e1) A Q q
theorem TrB.up {b : Bool} (e : Ex G G') (h : TrB t σ G b) : TrB t σ G' b := fun G1 M H e1 A Q q => h G1 M H (e.trans e1) A Q q
theorem TrA.up (e : Ex G G') (h : TrA K ts σ G ds) : TrA K ts σ G' ds := fun G1 M H e1 A Q q => h G1 M H (e.trans e1) A Q q
theorem w_D (h : TrD K te σ G d) (A : At G M H) (k : Res K G M d Q) : te σ H Q := h G M H (Ex.refl G) A Q k
theorem w_B {b : Bool} {Q : Bool → Hp → Prop} (h : TrB t σ G b) (A : At G M H) (k : ∀ G' H', Ex G G' → At G' M H' → Q b H') : t σ H Q := h G M H (Ex.refl G) A Q k
theorem w_A {Q : List V → Hp → Prop} (h : TrA K ts σ G ds) (A : At G M H) (k : ∀ xs G' H', Ex G G' → At G' M H' → RpL K G' ds xs → Q xs H') : ts σ H Q := h G M H (Ex.refl G) A Q k
theorem TrD.to (h : TrD K te σ G d1) (e : d1 = d2) : TrD K te σ G d2 := e ▸ h
theorem TrB.to {b c : Bool} (h : TrB t σ G b) (e : b = c) : TrB t σ G c := e ▸ h
/-! values -/
theorem d_var {i : Nat} {v : V} (h : σ[i]? = some (some v)) (r : Rp K G d v) : TrD K (tVar i) σ G d := fun G1 M H e A Q q => ⟨v, h, q.here A (r.up e)⟩
theorem d_c {v : V} (r : Rp K G d v) : TrD K (tC v) σ G d := fun G1 M H e A Q q => q.here A (r.up e)
theorem d_int {i : Int} : TrD K (tC (.int i)) σ G (.int i) := d_c rfl
theorem d_str {x : Str} : TrD K (tC (.str x)) σ G (.str x) := d_c rfl
theorem d_bl {b : Bool} : TrD K (tC (.bl b)) σ G (.bool b) := d_c rfl
theorem d_non : TrD K (tC .non) σ G .none := d_c rfl
theorem d_op {r : R2} (ha : TrD K ta σ G d1) (hb : TrD K tb σ G d2) (hr : RD K r d1 d2 d3) : TrD K (tOp r ta tb) σ G d3 := fun G1 M H e A Q q => by
  refine ha G1 M H e A _ fun v G2 H2 e2 A2 r1 => ?_
  refine hb G2 M H2 (e.trans e2) A2 _ fun w G3 H3 e3 A3 r2 => ?_
  exact hr G3 M H3 v w A3 (r1.up e3) r2 Q (q.mono (e2.trans e3))
theorem d_un {r : V → Hp → VK → Prop} (ha : TrD K ta σ G d1) (hr : RU K r d1 d2) : TrD K (tUn r ta) σ G d2 := fun G1 M H e A Q q => by
  refine ha G1 M H e A _ fun v G2 H2 e2 A2 r1 => ?_
  exact hr G2 M H2 v A2 r1 Q (q.mono e2)
theorem a_nil : TrA K tNil σ G [] := fun G1 M H e A Q q => q [] G1 H (Ex.refl _) A rfl
theorem a_cons (ha : TrD K ta σ G d) (hr : TrA K ts σ G ds) : TrA K (tCons ta ts) σ G (d :: ds) := fun G1 M H e A Q q => by
  refine ha G1 M H e A _ fun v G2 H2 e2 A2 r1 => ?_
  refine hr G2 M H2 (e.trans e2) A2 _ fun xs G3 H3 e3 A3 r2 => ?_
  exact q _ G3 H3 (e2.trans e3) A3 (.cons (r1.up e3) r2)
theorem a_star (ha : TrD K ta σ G (.list es)) (hr : TrA K ts σ G ds) : TrA K (StX.tStar K ta ts) σ G (es ++ ds) := fun G1 M H e A Q q => by
  refine ha G1 M H e A _ fun v G2 H2 e2 A2 r1 => ?_
  obtain ⟨a, xs, rfl, hs, hx⟩ := r1
  refine ⟨a, xs, rfl, .inr (SqL.of (A2.g _ _ hs)), ?_⟩
  refine hr G2 M H2 (e.trans e2) A2 _ fun ys G3 H3 e3 A3 r2 => ?_
  exact q _ G3 H3 (e2.trans e3) A3 ((hx.up e3).app r2)
theorem sz_of {n : Nat} (h : n ≤ 100000) : n ≤ sizeLine := Nat.le_trans h (by decide)
theorem sz_lt {n : Nat} (h : n < 100000) : n < sizeLine := Nat.lt_of_lt_of_le h (by decide)
theorem d_tup (h : TrA K ts σ G ds) (hn : ds.length ≤ 100000 := by decide) : TrD K (tTup ts) σ G (.tuple ds) := fun G1 M H e A Q q => by
  refine h G1 M H e A _ fun xs G2 H2 e2 A2 r => ?_
  refine ⟨by rw [r.len]; exact sz_of hn, fun p hp => ?_⟩
  exact (q.mono e2).newG A2 hp ⟨p, xs, rfl, SqT.of upd_same, r.up (Ex.new (A2.gNone hp))⟩
theorem d_lst (h : TrA K ts σ G ds) (hn : ds.length ≤ 100000 := by decide) : TrD K (tLst ts) σ G (.list ds) := fun G1 M H e A Q q => by
  refine h G1 M H e A _ fun xs G2 H2 e2 A2 r => ?_
  refine ⟨by rw [r.len]; exact sz_of hn, fun p hp => ?_⟩
  exact (q.mono e2).newG A2 hp ⟨p, xs, rfl, upd_same, r.up (Ex.new (A2.gNone hp))⟩
theorem d_cb {r : List V → Hp → VK → Prop} (h : TrA K ts σ G ds) (hr : RC K r ds d) : TrD K (tCB r ts) σ G d := fun G1 M H e A Q q => by
  refine h G1 M H e A _ fun xs G2 H2 e2 A2 r1 => ?_
  exact hr G2 M H2 xs A2 r1 Q (q.mono e2)
theorem d_call {R : List PyData → PyData → Prop} {dvs : List V} {E : XK} (h : TrA K ts σ G ds) (hd : RpL K G es dvs) (hr : R (ds ++ es) d) : TrD K (tCall (PSp K R) dvs E ts) σ G d := fun G1 M H e A Q q => by
  refine h G1 M H e A _ fun xs G2 H2 e2 A2 r1 => ?_
  exact ⟨G2, M, ds ++ es, d, A2, r1.app (hd.up (e.trans e2)), hr, q.mono e2⟩
theorem d_call0 {R : List PyData → PyData → Prop} {E : XK} (h : TrA K ts σ G ds) (hr : R ds d) : TrD K (tCall (PSp K R) [] E ts) σ G d := d_call h (es := []) rfl (by rw [List.append_nil]; exact hr)
theorem d_if {b : Bool} (hc : TrB t σ G b) (h1 : b = true → TrD K ta σ G d) (h2 : b = false → TrD K tb σ G d) : TrD K (tIf t ta tb) σ G d := fun G1 M H e A Q q => by
  refine hc G1 M H e A _ fun G2 H2 e2 A2 => ?_
  cases b with
  | true => exact h1 rfl G2 M H2 (e.trans e2) A2 Q (q.mono e2)
  | false => exact h2 rfl G2 M H2 (e.trans e2) A2 Q (q.mono e2)
/-! tests -/
theorem b_B {b : Bool} (h : TrD K te σ G (.bool b)) : TrB (tB te) σ G b := fun G1 M H e A Q q => by
  refine h G1 M H e A _ fun v G2 H2 e2 A2 r => ?_
  exact ⟨b, r, q G2 H2 e2 A2⟩
theorem b_T {b : Bool} (h : TrD K te σ G (.bool b)) : TrB (tTest te) σ G b := fun G1 M H e A Q q => by
  refine h G1 M H e A _ fun v G2 H2 e2 A2 r => ?_
  exact ⟨b, r, q G2 H2 e2 A2⟩
theorem b_not {b : Bool} (h : TrB t σ G b) : TrB (tNot t) σ G (!b) := fun G1 M H e A Q q => h G1 M H e A _ q
theorem b_yes : TrB tYes σ G true := fun G1 M H e A Q q => q G1 H (Ex.refl _) A
theorem b_and {a b : Bool} (h1 : TrB t σ G a) (h2 : a = true → TrB u σ G b) : TrB (tAnd t u) σ G (a && b) := fun G1 M H e A Q q => by
  refine h1 G1 M H e A _ fun G2 H2 e2 A2 => ?_
  cases a with
  | true => exact h2 rfl G2 M H2 (e.trans e2) A2 Q fun G3 H3 e3 A3 => q G3 H3 (e2.trans e3) A3
  | false => exact q G2 H2 e2 A2
theorem b_or {a b : Bool} (h1 : TrB t σ G a) (h2 : a = false → TrB u σ G b) : TrB (tOr t u) σ G (a || b) := fun G1 M H e A Q q => by
  refine h1 G1 M H e A _ fun G2 H2 e2 A2 => ?_
  cases a with
  | false => exact h2 rfl G2 M H2 (e.trans e2) A2 Q fun G3 H3 e3 A3 => q G3 H3 (e2.trans e3) A3
  | true => exact q G2 H2 e2 A2
theorem v_and {a b : Bool} (h1 : TrD K ta σ G (.bool a)) (h2 : a = true → TrD K tb σ G (.bool b)) : TrD K (tAndV ta tb) σ G (.bool (a && b)) := fun G1 M H e A Q q => by
  refine h1 G1 M H e A _ fun v G2 H2 e2 A2 r => ?_
  refine ⟨a, r, ?_⟩
  cases a with
  | true => exact h2 rfl G2 M H2 (e.trans e2) A2 Q (q.mono e2)
  | false => exact (q.mono e2).here A2 rfl
theorem v_or {a b : Bool} (h1 : TrD K ta σ G (.bool a)) (h2 : a = false → TrD K tb σ G (.bool b)) : TrD K (tOrV ta tb) σ G (.bool (a || b)) := fun G1 M H e A Q q => by
  refine h1 G1 M H e A _ fun v G2 H2 e2 A2 r => ?_
  refine ⟨a, r, ?_⟩
  cases a with
  | false => exact h2 rfl G2 M H2 (e.trans e2) A2 Q (q.mono e2)
  | true => exact (q.mono e2).here A2 rfl
theorem v_not {b : Bool} (h : TrD K ta σ G (.bool b)) : TrD K (tNotV ta) σ G (.bool (!b)) := fun G1 M H e A Q q => by
  refine h G1 M H e A _ fun v G2 H2 e2 A2 r => ?_
  exact ⟨b, r, (q.mono e2).here A2 rfl⟩
/-! operators -/
theorem rd_I0 {g : Int → Int → V} {i j : Int} (h : ∀ G, Rp K G d (g i j)) : RD K (rI0 g) (.int i) (.int j) d := fun G M H x y A h1 h2 Q q => ⟨i, j, h1, h2, q.here A (h G)⟩
theorem rd_I {C : Int → Int → Prop} {g : Int → Int → V} {i j : Int} (hc : C i j) (h : ∀ G, Rp K G d (g i j)) : RD K (rI C g) (.int i) (.int j) d := fun G M H x y A h1 h2 Q q => ⟨i, j, h1, h2, hc, q.here A (h G)⟩
theorem rd_add {i j : Int} : RD K (rI0 fun i j => .int (i + j)) (.int i) (.int j) (.int (i + j)) := rd_I0 fun _ => rfl
theorem rd_sub {i j : Int} : RD K (rI0 fun i j => .int (i - j)) (.int i) (.int j) (.int (i - j)) := rd_I0 fun _ => rfl
theorem rd_lt {i j : Int} : RD K (rI0 fun i j => .bl (decide (i < j))) (.int i) (.int j) (.bool (decide (i < j))) := rd_I0 fun _ => rfl
theorem rd_le {i j : Int} : RD K (rI0 fun i j => .bl (decide (i ≤ j))) (.int i) (.int j) (.bool (decide (i ≤ j))) := rd_I0 fun _ => rfl
theorem rd_gt {i j : Int} : RD K (rI0 fun i j => .bl (decide (j < i))) (.int i) (.int j) (.bool (decide (j < i))) := rd_I0 fun _ => rfl
theorem rd_ge {i j : Int} : RD K (rI0 fun i j => .bl (decide (j ≤ i))) (.int i) (.int j) (.bool (decide (j ≤ i))) := rd_I0 fun _ => rfl
theorem rd_eqI {i j : Int} : RD K rEq (.int i) (.int j) (.bool (decide (i = j))) := fun G M H x y A h1 h2 Q q => by
  rw [show x = V.int i from h1, show y = V.int j from h2]
  exact ⟨rfl, q.here A (show V.bl _ = V.bl _ by rw [dec_int]; simp [Bool.beq_eq_decide_eq])⟩
theorem rd_neI {i j : Int} : RD K rNe (.int i) (.int j) (.bool (!decide (i = j))) := fun G M H x y A h1 h2 Q q => by
  rw [show x = V.int i from h1, show y = V.int j from h2]
  exact ⟨rfl, q.here A (show V.bl _ = V.bl _ by rw [dec_int]; simp [Bool.beq_eq_decide_eq])⟩
theorem rd_eqS {i j : Str} : RD K rEq (.str i) (.str j) (.bool (decide (i = j))) := fun G M H x y A h1 h2 Q q => by
  rw [show x = V.str i from h1, show y = V.str j from h2]
  exact ⟨rfl, q.here A (show V.bl _ = V.bl _ by rw [dec_str]; simp [Bool.beq_eq_decide_eq])⟩
theorem rd_neS {i j : Str} : RD K rNe (.str i) (.str j) (.bool (!decide (i = j))) := fun G M H x y A h1 h2 Q q => by
  rw [show x = V.str i from h1, show y = V.str j from h2]
  exact ⟨rfl, q.here A (show V.bl _ = V.bl _ by rw [dec_str]; simp [Bool.beq_eq_decide_eq])⟩
end
/-! ### statements -/
section
variable {K : PySem.W.Frag} {σ : L2.St} {G G' M H : Hp} {ta tb te : TE} {d d1 d2 d3 : PyData} {tc : TT} {ts : TA} {ds es : List PyData} {D : Ends} {s1 s2 : TS} {i : Nat}
theorem s_set (h : TrD K te σ G d) (A : At G M H) (k : ∀ v G' H', Ex G G' → At G' M H' → Rp K G' d v → D.nx (σ.set i (some v)) H') : tAsg te (gName i) D σ H := w_D h A k
theorem s_ret (h : TrD K te σ G d) (A : At G M H) (k : Res K G M d D.rt) : tRet te D σ H := w_D h A k
theorem s_if {b : Bool} (h : TrB tc σ G b) (A : At G M H) (k1 : b = true → ∀ G' H', Ex G G' → At G' M H' → s1 D σ H') (k2 : b = false → ∀ G' H', Ex G G' → At G' M H' → s2 D σ H') : tIfS tc s1 s2 D σ H := by
  refine w_B h A fun G' H' e A' => ?_
  cases b with
  | true => exact k1 rfl G' H' e A'
  | false => exact k2 rfl G' H' e A'
theorem s_ifT (h : TrB tc σ G true) (A : At G M H) (k : ∀ G' H', Ex G G' → At G' M H' → s1 D σ H') : tIfS tc s1 s2 D σ H := s_if h A (fun _ => k) (fun z => nomatch z)
theorem s_ifF (h : TrB tc σ G false) (A : At G M H) (k : ∀ G' H', Ex G G' → At G' M H' → s2 D σ H') : tIfS tc s1 s2 D σ H := s_if h A (fun z => nomatch z) (fun _ => k)
theorem g_tup {t : TGs} {v : V} {n : Nat} {Q : L2.St → Hp → Prop} (A : At G M H) (h : Rp K G (.tuple ds) v) (hn : ds.length = n) (k : ∀ xs, RpL K G ds xs → t xs σ H Q) : gTup K n t v σ H Q := by
  obtain ⟨a, xs, e, hs, hx⟩ := h
  exact ⟨a, xs, e, A.g.stt hs, by rw [hx.len, hn], k xs hx⟩
theorem wipe_set {i : Nat} {x : Option V} : wipe ((wipe σ [i]).set i x) [i] = wipe σ [i] := by
  show (((σ.set i none).set i x).set i none) = σ.set i none
  rw [List.set_set, List.set_set]
/-! comprehensions over data -/
theorem d_lcL {tl : TE} {tt : TT} {p : PyData → Bool} {f : PyData → PyData} (hl : TrD K tl σ G (.list ds)) (hn : ds.length < 100000)
    (ht : ∀ d ∈ ds, ∀ x G1, Ex G G1 → Rp K G1 d x → TrB tt ((wipe σ [i]).set i (some x)) G1 (p d))
    (he : ∀ d ∈ ds, p d = true → ∀ x G1, Ex G G1 → Rp K G1 d x → TrD K te ((wipe σ [i]).set i (some x)) G1 (f d)) :
    TrD K (tLc (iList K tl) (gName i) tt te [i]) σ G (.list ((ds.filter p).map f)) := fun G1 M H e A Q q => by
  refine hl G1 M H e A _ fun v G2 H2 e2 A2 r => ?_
  obtain ⟨a, xs, rfl, hs, hx⟩ := r
  refine ⟨a, rfl, ⟨xs, SqL.of (A2.g _ _ hs)⟩, fun D hD => ?_⟩
  refine lc_list (K := K) (a := a) (xs := xs) (fun j H => ∃ Gj acc, Ex G2 Gj ∧ At Gj (upd M D (.lst acc)) H ∧ RpL K Gj (((ds.take j).filter p).map f) acc) ⟨G2, [], Ex.refl _, A2.nm hD, rfl⟩ ?_ ?_ ?_
  · rintro j H3 _ ⟨Gj, acc, ej, Aj, _⟩
    exact SqL.of ((ej.trans Aj.g) _ _ hs)
  · rintro j x H3 hj ⟨Gj, acc, ej, Aj, rj⟩
    obtain ⟨d, hd, rd⟩ := hx.get hj
    have hm : d ∈ ds := List.mem_of_getElem? hd
    have hk : ds.take (j + 1) = ds.take j ++ [d] := by rw [List.take_add_one, hd]; rfl
    show wipe _ _ = wipe _ _ ∧ _
    refine ⟨wipe_set, ?_⟩
    refine ht d hm x Gj ((e.trans e2).trans ej) (rd.up ej) Gj _ H3 (Ex.refl _) Aj _ fun G4 H4 e4 A4 => ?_
    cases hp : p d with
    | false =>
      refine ⟨G4, acc, ej.trans e4, A4, ?_⟩
      rw [hk, List.filter_append, List.filter_cons, hp]
      simpa using rj.up e4
    | true =>
      refine he d hm hp x G4 ((e.trans e2).trans (ej.trans e4)) (rd.up (ej.trans e4)) G4 _ H4 (Ex.refl _) A4 _ fun v5 G5 H5 e5 A5 r5 => ?_
      refine ⟨acc, A5.m _ _ upd_same, ?_, G5, acc ++ [v5], ej.trans (e4.trans e5), ?_, ?_⟩
      · rw [rj.len, List.length_map]
        refine sz_lt (Nat.lt_of_le_of_lt (Nat.le_trans (List.length_filter_le _ _) ?_) hn)
        rw [List.length_take]
        exact Nat.min_le_right _ _
      · have z := A5.wr (o := .lst (acc ++ [v5])) (upd_same (H := M) (a := D) (o := .lst acc))
        rw [upd_upd] at z
        exact z
      · rw [hk, List.filter_append, List.filter_cons, hp, List.map_append]
        exact (rj.up (e4.trans e5)).snoc r5
  · rintro H3 ⟨Gj, acc, ej, Aj, rj⟩
    have hM : M D = none := A2.mNone hD
    have hl2 : ds.take xs.length = ds := by rw [hx.len, List.take_length]
    rw [hl2] at rj
    have hm := upd_same (H := M) (a := D) (o := HO.lst acc)
    refine q _ _ _ ((e2.trans ej).trans (Aj.frzG hm)) (Aj.frz hm (Ex.new hM) hM) ⟨D, acc, rfl, upd_same, rj.up (Aj.frzG hm)⟩
theorem d_lcT {tl : TE} {tt : TT} {p : PyData → Bool} {f : PyData → PyData} (hl : TrD K tl σ G (.tuple ds)) (hn : ds.length < 100000)
    (ht : ∀ d ∈ ds, ∀ x G1, Ex G G1 → Rp K G1 d x → TrB tt ((wipe σ [i]).set i (some x)) G1 (p d))
    (he : ∀ d ∈ ds, p d = true → ∀ x G1, Ex G G1 → Rp K G1 d x → TrD K te ((wipe σ [i]).set i (some x)) G1 (f d)) :
    TrD K (tLc (iTup K tl) (gName i) tt te [i]) σ G (.list ((ds.filter p).map f)) := fun G1 M H e A Q q => by
  refine hl G1 M H e A _ fun v G2 H2 e2 A2 r => ?_
  obtain ⟨a, xs, rfl, hs, hx⟩ := r
  refine ⟨a, rfl, ⟨xs, A2.g.stt hs⟩, fun D hD => ?_⟩
  refine lc_tup (K := K) (a := a) (xs := xs) (fun j H => ∃ Gj acc, Ex G2 Gj ∧ At Gj (upd M D (.lst acc)) H ∧ RpL K Gj (((ds.take j).filter p).map f) acc) ⟨G2, [], Ex.refl _, A2.nm hD, rfl⟩ ?_ ?_ ?_
  · rintro j H3 _ ⟨Gj, acc, ej, Aj, _⟩
    exact (ej.trans Aj.g).stt hs
  · rintro j x H3 hj ⟨Gj, acc, ej, Aj, rj⟩
    obtain ⟨d, hd, rd⟩ := hx.get hj
    have hm : d ∈ ds := List.mem_of_getElem? hd
    have hk : ds.take (j + 1) = ds.take j ++ [d] := by rw [List.take_add_one, hd]; rfl
    show wipe _ _ = wipe _ _ ∧ _
    refine ⟨wipe_set, ?_⟩
    refine ht d hm x Gj ((e.trans e2).trans ej) (rd.up ej) Gj _ H3 (Ex.refl _) Aj _ fun G4 H4 e4 A4 => ?_
    cases hp : p d with
    | false =>
      refine ⟨G4, acc, ej.trans e4, A4, ?_⟩
      rw [hk, List.filter_append, List.filter_cons, hp]
      simpa using rj.up e4
    | true =>
      refine he d hm hp x G4 ((e.trans e2).trans (ej.trans e4)) (rd.up (ej.trans e4)) G4 _ H4 (Ex.refl _) A4 _ fun v5 G5 H5 e5 A5 r5 => ?_
      refine ⟨acc, A5.m _ _ upd_same, ?_, G5, acc ++ [v5], ej.trans (e4.trans e5), ?_, ?_⟩
      · rw [rj.len, List.length_map]
        refine sz_lt (Nat.lt_of_le_of_lt (Nat.le_trans (List.length_filter_le _ _) ?_) hn)
        rw [List.length_take]
        exact Nat.min_le_right _ _
      · have z := A5.wr (o := .lst (acc ++ [v5])) (upd_same (H := M) (a := D) (o := .lst acc))
        rw [upd_upd] at z
        exact z
      · rw [hk, List.filter_append, List.filter_cons, hp, List.map_append]
        exact (rj.up (e4.trans e5)).snoc r5
  · rintro H3 ⟨Gj, acc, ej, Aj, rj⟩
    have hM : M D = none := A2.mNone hD
    have hl2 : ds.take xs.length = ds := by rw [hx.len, List.take_length]
    rw [hl2] at rj
    have hm := upd_same (H := M) (a := D) (o := HO.lst acc)
    refine q _ _ _ ((e2.trans ej).trans (Aj.frzG hm)) (Aj.frz hm (Ex.new hM) hM) ⟨D, acc, rfl, upd_same, rj.up (Aj.frzG hm)⟩
end
end Sb

namespace Sb
open PySem PySem.Spec PyProof.Rows L2

/-! ### defs that may be called where no repr is running -/
structure FnG (P : Program) (w : World) (K : PySem.W.Frag) (mg : Str → Option Value) (base : Heap) (CX : CXT) (k : Nat) (f : Addr) (fd : FuncData) (ps : List Str) (sp : Sp) : Prop where
  len : ∀ vs H Q E, sp vs H Q E → vs.length = ps.length
  run : ∀ (A : Around) (outer : List Env) (s : Shared) (H : Hp) (args : Args) (us : List Value) (vs : List V) (Q : VK) (E : XK), A.guards = some [] → Room k A → Env0 P w K mg base A outer s H →
    BindsTo s fd args (ps.zip us) → Vals vs us → sp vs H Q E → codeAny (model P w) A (.call (.ref f) args) (CR CX outer P w H s Q E) s
/-- a def of the module, as its callers see it -/
def Fd (P : Program) (w : World) (K : PySem.W.Frag) (mg : Str → Option Value) (base : Heap) (CX : CXT) (k : Nat) (x : Str) (sp : Sp) (dvs : List V) : Prop :=
  ∃ (f : Addr) (fd : FuncData) (ps : List Str) (ds : List Value), mg x = some (.ref f) ∧ PySem.W.keepIn K (.ref f) = true ∧ Binds K fd ps ds ∧ Vals dvs ds ∧ FnG P w K mg base CX k f fd ps sp
section
variable {P : Program} {w : World} {K : PySem.W.Frag} {mg : Str → Option Value} {base : Heap} {x qual : Str} {params : Arguments} {body : List Stmt} {scope : Scope} {dvs : List V} {kws : List (Str × V)} {f : Addr} {fd : FuncData}
theorem fnG_of {CX : CXT} {N ps : List Str} {k : Nat} {sp : Sp} (F : FunD K x qual params body scope dvs kws f fd) (S : FnScope N ps scope) (len : ∀ vs H Q E, sp vs H Q E → vs.length = ps.length)
    (hbody : ∀ (cdv : Value) (A : Around) (outer : List Env) (s : Shared) (H : Hp) (vs : List V) (Q : VK) (E : XK), A.guards = some [] → Room k (A.deeper (envOfC qual scope s.heap.objs.size f cdv)) → sp vs H Q E →
      ∃ t, PSs (cxOf CX P w K mg base N qual scope f cdv A outer s H E) body t ∧ t { nx := fun _ H' => Q .non H', rt := Q } (start N vs) H) : FnG P w K mg base CX (k + 1) f fd ps sp := by
  obtain ⟨oc, od, dV, kV, doc, pm, an, cdv, ct, osl, rfl, lk, hcd, _, _⟩ := F.ex
  refine { len := len, run := fun A outer s H args us vs Q E hg hr e0 hb r hsp => ?_ }
  have hlen := len vs H Q E hsp
  have old : ∀ b o, base.get? b = some o → s.heap.get? b = some o := fun b o e => (e0.bs b o e).1
  have kin := e0.mod.kin.keeps old
  have kinds : ∀ y ∈ ps.zip us, scope.names.lookup y.1 = some .local ∨ (scope.names.lookup y.1 = some .cell ∧ ((cellsFrom (s.heap.objs.size + 1) scope.names []).lookup y.1).isSome = true) := by
    rintro ⟨n, v⟩ hy
    exact (S.par n (List.of_mem_zip hy).1).imp id fun q => ⟨q, PySem.W.cellsFrom_some _ _ _ (.inl q)⟩
  apply codeAny_call_function hr.depth (kin _ _ lk) rfl S.co S.gen rfl (PySem.W.codeRec_of kin hcd)
  apply hb
  apply wpAny_newFunctionEnv_cells S.kind kinds
  intro env he s1 ic
  subst he
  obtain ⟨t, ht, hq⟩ := hbody cdv A outer s H vs Q E hg (hr.deeper _) hsp
  have inv := inv_start (CX := CX) (E := E) S hr.hd e0 hlen r ic
  refine ⟨(e0.mod.nolimit.keeps old).keeps ic.toInCall.keep, codeAny_func (wpAny_mono (ht.run [] s1 (start N vs) H _ inv hq) ?_ fun _ _ z => z)⟩
  rintro (_ | _ | _ | u) s' hs
  · obtain ⟨σ', H', J, q⟩ := hs
    exact ⟨V.non, H', J.os, J.bare, J.base, J.hok, rfl, q⟩
  · obtain ⟨_, _, _, q⟩ := hs
    exact q.elim
  · obtain ⟨_, _, _, q⟩ := hs
    exact q.elim
  · obtain ⟨v, σ', H', J, rv, q⟩ := hs
    exact ⟨v, H', J.os, J.bare, J.base, J.hok, rv, q⟩
end
section
variable {X : Cx} {CX : CXT} {k : Nat} {x : Str} {sp : Sp} {dvs : List V} {E : XK} {p pos : Pos} {e : Expr} {es : List Expr} {t : TA}
theorem run_fd {pins : List (Addr × Obj)} {σ : L2.St} {H : Hp} {s : Shared} {Q : VK} {us : List Value} {vs : List V} {f : Addr} {fd : FuncData} {ps : List Str} {ds : List Value} (F : FnG X.prog X.w X.K X.mg X.base CX k f fd ps sp) (hg : X.A.guards = some []) (hr : Room k X.A)
    (hb : Binds X.K fd ps ds) (hd : Vals dvs ds) (hx : Passes CX X E) (I : Inv X pins σ H s) (r : Vals vs us) (h : sp (vs ++ dvs) H Q E) : wpAny (model X.prog X.w) X.A (call (.ref f) us) (EP X pins σ Q) X.xe s := by
  have r' := r.append hd
  have l' : (us ++ ds).length = ps.length := r'.length.symm.trans (F.len _ _ _ _ h)
  apply wpAny_call
  refine codeAny_mono (F.run X.A X.stack s H ⟨us, []⟩ _ _ Q E hg hr I.env0 (hb s us I.kIn l') r' h) ?_
  rintro (e | (_ | _ | _ | u)) s' hq
  · exact hx pins σ H s e s' I hq
  · exact hq.elim
  · exact hq.elim
  · exact hq.elim
  · exact I.after hq
theorem pe_fd (F : Fd X.prog X.w X.K X.mg X.base CX k x sp dvs) (hg : X.A.guards = some []) (hr : Room k X.A) (hx : Passes CX X E) (ha : PA X (e :: es) t) (hgl : Gl X x := by rfl)
    (hdb : (x == ("__debug__" : Str)) = false := by decide) (he : starEach (e :: es) X.env = (false, eval e X.env) :: starEach es X.env := by rfl) (hpl : (backTo pos (starEach es X.env)).any (·.1) = false := by rfl) :
    PE X (.Call (.Name x p) (e :: es) [] pos) (tCall sp dvs E t) := by
  obtain ⟨f, fd, ps, ds, hm, hk, hb, hd, F⟩ := F
  constructor
  intro pins s σ H Q I h
  apply wpAny_Call_Name_kw
  refine ld_glob I hgl hm ?_ hdb
  refine PySem.W.callWith_K (h₀ := X.base) I.ok.mod.kin hk (thn (ha.run pos pins s σ H _ I h) ?_) he hpl
  rintro us s1 ⟨vs, H1, I1, r, q⟩
  exact ⟨I1.kIn, run_fd F hg hr hb hd hx I1 r q⟩
theorem Fd.mono {P : Program} {w : World} {K : PySem.W.Frag} {mg : Str → Option Value} {base : Heap} {j : Nat} (F : Fd P w K mg base CX j x sp dvs) (h : j ≤ k) : Fd P w K mg base CX k x sp dvs := by
  obtain ⟨f, fd, ps, ds, hm, hk, hb, hd, F⟩ := F
  exact ⟨f, fd, ps, ds, hm, hk, hb, hd, F.len, fun A outer s H args us vs Q E g hr => F.run A outer s H args us vs Q E g (hr.mono h)⟩
end
theorem PSp.len {K : PySem.W.Frag} {R : List PyData → PyData → Prop} {n : Nat} (h : ∀ ds r, R ds r → ds.length = n) {vs : List V} {H : Hp} {Q : VK} {E : XK} (q : PSp K R vs H Q E) : vs.length = n := by
  obtain ⟨G, M, ds, r, _, rl, hr, _⟩ := q
  rw [rl.len, h _ _ hr]

/-! ### data read off a heap; repr; == -/
mutual
def noDic : PyData → Bool
  | .none | .bool _ | .int _ => true
  | .str _ => true
  | .list xs | .tuple xs => noDics xs
  | .dict _ => false
def noDics : List PyData → Bool
  | [] => true
  | x :: xs => noDic x && noDics xs
end
mutual
def noLst : PyData → Bool
  | .none | .bool _ | .int _ => true
  | .str _ => true
  | .list _ => false
  | .tuple xs => noLsts xs
  | .dict kvs => noLstD kvs
def noLsts : List PyData → Bool
  | [] => true
  | x :: xs => noLst x && noLsts xs
def noLstD : List (PyData × PyData) → Bool
  | [] => true
  | (_, y) :: xs => noLst y && noLstD xs
end
section
variable {K : PySem.W.Frag} {H : Hp}
mutual
theorem dp_of : ∀ (d : PyData) {v : V}, noDic d = true → Rp K H d v → Dp K H v d
  | .none, v, _, h => by rw [show v = V.non from h]; exact .non
  | .bool b, v, _, h => by rw [show v = V.bl b from h]; exact .bl b
  | .int b, v, _, h => by rw [show v = V.int b from h]; exact .int b
  | .str b, v, _, h => by rw [show v = V.str b from h]; exact .str b
  | .list ds, v, n, ⟨a, xs, e, h1, h2⟩ => by rw [e]; exact .lst (SqL.of h1) (dpL_of ds (by simpa [noDic] using n) h2)
  | .tuple ds, v, n, ⟨a, xs, e, h1, h2⟩ => by rw [e]; exact .tup h1 (dpL_of ds (by simpa [noDic] using n) h2)
  | .dict ds, v, n, _ => by simp [noDic] at n
theorem dpL_of : ∀ (ds : List PyData) {vs : List V}, noDics ds = true → RpL K H ds vs → DpAll K H vs ds
  | [], vs, _, h => by rw [show vs = [] from h]; exact .nil
  | d :: ds, vs, n, ⟨x, r, e, h1, h2⟩ => by
    have n' : noDic d = true ∧ noDics ds = true := by simpa [noDics] using n
    rw [e]
    exact .cons (dp_of d n'.1 h1) (dpL_of ds n'.2 h2)
end
end
theorem noDic_of_canLay {d : PyData} (h : SeqAt.shaped d = true) : noDic d = true := go d (SeqAt.canLay_of_shaped h)
where
  go : ∀ (d : PyData), d.canLay0 = true → noDic d = true
    | .none, _ => by simp [noDic]
    | .bool _, _ => by simp [noDic]
    | .int _, _ => by simp [noDic]
    | .str _, _ => by simp [noDic]
    | .list ds, h => by simp only [noDic]; exact goL ds (by simpa [PyData.canLay0] using h)
    | .tuple ds, h => by simp only [noDic]; exact goL ds (by simpa [PyData.canLay0] using h)
    | .dict ds, h => by simp [PyData.canLay0] at h
  goL : ∀ (ds : List PyData), PyData.canLayAll0 ds = true → noDics ds = true
    | [], _ => by simp [noDics]
    | d :: ds, h => by
      have h' : d.canLay0 = true ∧ PyData.canLayAll0 ds = true := by simpa [PyData.canLayAll0] using h
      simp only [noDics, Bool.and_eq_true]
      exact ⟨go d h'.1, goL ds h'.2⟩
section
variable {X : Cx}
def rEqR (K : PySem.W.Frag) : R2 := fun x y H Q => ∃ G d e, Ex G H ∧ Rp K G d x ∧ Rp K G e y ∧ SeqAt.shaped d = true ∧ SeqAt.shaped e = true ∧ Q (.bl (PyData.eqv d e)) H
def rNeR (K : PySem.W.Frag) : R2 := fun x y H Q => ∃ G d e, Ex G H ∧ Rp K G d x ∧ Rp K G e y ∧ SeqAt.shaped d = true ∧ SeqAt.shaped e = true ∧ Q (.bl (!PyData.eqv d e)) H
theorem op_eqR (hu : X.A.units + 64 < cLine) : OpR X (compareOp .Eq) (rEqR X.K) := by
  intro pins s σ H x y v u Q I rx ry h
  obtain ⟨G, d, e, g, h1, h2, s1, s2, q⟩ := h
  exact op_eqD hu pins s σ H x y v u Q I rx ry ⟨d, e, dp_of d (noDic_of_canLay s1) (h1.up g), dp_of e (noDic_of_canLay s2) (h2.up g), s1, s2, q⟩
theorem op_neR (hu : X.A.units + 64 < cLine) : OpR X (compareOp .NotEq) (rNeR X.K) := by
  intro pins s σ H x y v u Q I rx ry h
  obtain ⟨G, d, e, g, h1, h2, s1, s2, q⟩ := h
  exact op_neD hu pins s σ H x y v u Q I rx ry ⟨d, e, dp_of d (noDic_of_canLay s1) (h1.up g), dp_of e (noDic_of_canLay s2) (h2.up g), s1, s2, q⟩
end
theorem rd_eqR {K : PySem.W.Frag} {d e : PyData} (s1 : SeqAt.shaped d = true) (s2 : SeqAt.shaped e = true) : RD K (rEqR K) d e (.bool (PyData.eqv d e)) := fun G M H x y A h1 h2 Q q => ⟨G, d, e, A.g, h1, h2, s1, s2, q.here A rfl⟩
theorem rd_neR {K : PySem.W.Frag} {d e : PyData} (s1 : SeqAt.shaped d = true) (s2 : SeqAt.shaped e = true) : RD K (rNeR K) d e (.bool (!PyData.eqv d e)) := fun G M H x y A h1 h2 Q q => ⟨G, d, e, A.g, h1, h2, s1, s2, q.here A rfl⟩

/-! what stands in the model's heap -/
theorem noDic_hasDict : ∀ (d : PyData), noDic d = true → d.hasDict = false
  | .none, _ => by simp [PyData.hasDict]
  | .bool _, _ => by simp [PyData.hasDict]
  | .int _, _ => by simp [PyData.hasDict]
  | .str _, _ => by simp [PyData.hasDict]
  | .list ds, h => by simp only [PyData.hasDict]; exact go ds (by simpa [noDic] using h)
  | .tuple ds, h => by simp only [PyData.hasDict]; exact go ds (by simpa [noDic] using h)
  | .dict ds, h => by simp [noDic] at h
where
  go : ∀ (ds : List PyData), noDics ds = true → PyData.hasDictAll ds = false
    | [], _ => by simp [PyData.hasDictAll]
    | d :: ds, h => by
      have h' : noDic d = true ∧ noDics ds = true := by simpa [noDics] using h
      simp only [PyData.hasDictAll, Bool.or_eq_false_iff]
      exact ⟨noDic_hasDict d h'.1, go ds h'.2⟩
section
variable {X : Cx} {pins : List (Addr × Obj)} {σ : L2.St} {H : Hp} {s : Shared}
theorem key_reads {k : Key} {v : Value} (h : keyIs k v = true) : Reads s.heap v (kD k) [] := by
  rcases keyIs_shape h with ⟨i, t, rfl, rfl⟩ | ⟨x, t, rfl, rfl⟩
  · exact .int i t
  · exact .str x t
theorem keys_reads : ∀ (ds : List (PyData × PyData)) {K : PySem.W.Frag} {es : List (Key × V)} {us : List (Key × Value)} {xs : List DictEntry}, RpD K H ds es → KV es us → Pairs (mixKind X.prog X.w) xs us →
    ReadsAll s.heap (xs.map (·.key)) (ds.map (·.1)) []
  | [], K, es, us, xs, h, r, p => by
    rw [show es = [] from h] at r
    cases r
    cases p
    exact .nil
  | (k, d) :: ds, K, es, us, xs, ⟨x, y, t, e, h0, h1, h2⟩, r, p => by
    rw [e] at r
    cases r with
    | cons r1 r2 =>
      cases p with
      | cons p0 p1 p2 =>
        have a := keys_reads ds h2 r2 p2
        have q := p0
        rw [← r1.1] at q
        have b := key_reads (s := s) q
        rw [h0] at b
        exact .cons b a
mutual
theorem Rp.reads (I : Inv X pins σ H s) : ∀ (d : PyData) {v : V} {u : Value}, Rp X.K H d v → RelV v u → ∃ as, Reads s.heap u d as ∧ (noLst d = true → sysModules ∉ as)
  | .none, v, u, h, r => by
    rw [show v = V.non from h] at r
    rw [show u = Value.none from r]
    exact ⟨_, .none, fun _ => by simp⟩
  | .bool b, v, u, h, r => by
    rw [show v = V.bl b from h] at r
    rw [show u = Value.bool b from r]
    exact ⟨_, .bool b, fun _ => by simp⟩
  | .int b, v, u, h, r => by
    rw [show v = V.int b from h] at r
    obtain ⟨t, e⟩ := r
    rw [e]
    exact ⟨_, .int b t, fun _ => by simp⟩
  | .str b, v, u, h, r => by
    rw [show v = V.str b from h] at r
    obtain ⟨t, e⟩ := r
    rw [e]
    exact ⟨_, .str b t, fun _ => by simp⟩
  | .list ds, v, u, ⟨a, xs, e, h1, h2⟩, r => by
    rw [e] at r
    rw [show u = Value.ref a from r]
    obtain ⟨its, rv, pl, _⟩ := I.list (SqL.of h1)
    obtain ⟨o, n, g1, g2, _, g3⟩ := pl
    obtain ⟨as, k1, _⟩ := RpL.reads I ds h2 rv
    exact ⟨_, .list g1 g2 g3 (by simpa using k1), fun z => by simp [noLst] at z⟩
  | .tuple ds, v, u, ⟨a, xs, e, h1, h2⟩, r => by
    rw [e] at r
    rw [show u = Value.ref a from r]
    obtain ⟨its, rv, ⟨o, g1, g2, n, g3⟩, _⟩ := I.tuple h1
    obtain ⟨as, k1, k2⟩ := RpL.reads I ds h2 rv
    exact ⟨as, .tuple g1 g2 g3 (by simpa using k1), fun z => k2 (by simpa [noLst] using z)⟩
  | .dict kvs, v, u, ⟨a, es, e, h1, h2⟩, r => by
    rw [e] at r
    rw [show u = Value.ref a from r]
    obtain ⟨_, hs, vs, kv, o, xs, ep, g1, g2, g3, _, g4, _⟩ := I.hok a _ h1
    have hs' : a ≠ sysModules := by simpa using hs
    obtain ⟨bs, k1, k2⟩ := RpD.reads I kvs h2 kv g4
    have k3 := keys_reads (X := X) (s := s) kvs h2 kv g4
    refine ⟨_, .dict g1 g2.1 g3 k3 k1, fun n z => ?_⟩
    rcases List.mem_cons.mp z with z | z
    · exact hs' z.symm
    · exact k2 (by simpa [noLst] using n) (by simpa using z)
theorem RpL.reads (I : Inv X pins σ H s) : ∀ (ds : List PyData) {vs : List V} {us : List Value}, RpL X.K H ds vs → Vals vs us → ∃ as, ReadsAll s.heap us ds as ∧ (noLsts ds = true → sysModules ∉ as)
  | [], vs, us, h, r => by
    rw [show vs = [] from h] at r
    cases r
    exact ⟨_, .nil, fun _ => by simp⟩
  | d :: ds, vs, us, ⟨x, xs, e, h1, h2⟩, r => by
    rw [e] at r
    cases r with
    | cons r1 r2 =>
      obtain ⟨as, k1, k2⟩ := Rp.reads I d h1 r1
      obtain ⟨bs, k3, k4⟩ := RpL.reads I ds h2 r2
      refine ⟨_, .cons k1 k3, fun n w => ?_⟩
      have n' : noLst d = true ∧ noLsts ds = true := by simpa [noLsts] using n
      rcases List.mem_append.mp w with w | w
      · exact k2 n'.1 w
      · exact k4 n'.2 w
theorem RpD.reads (I : Inv X pins σ H s) : ∀ (ds : List (PyData × PyData)) {es : List (Key × V)} {us : List (Key × Value)} {xs : List DictEntry}, RpD X.K H ds es → KV es us → Pairs (mixKind X.prog X.w) xs us →
    ∃ as, ReadsAll s.heap (xs.map (·.val)) (ds.map (·.2)) as ∧ (noLstD ds = true → sysModules ∉ as)
  | [], es, us, xs, h, r, p => by
    rw [show es = [] from h] at r
    cases r
    cases p
    exact ⟨_, .nil, fun _ => by simp⟩
  | (k, d) :: ds, es, us, xs, ⟨x, y, t, e, h0, h1, h2⟩, r, p => by
    rw [e] at r
    cases r with
    | cons r1 r2 =>
      cases p with
      | cons p0 p1' p2 =>
        have r1' := r1.2
        obtain ⟨as, k1, k2⟩ := Rp.reads I d h1 r1'
        obtain ⟨bs, k3, k4⟩ := RpD.reads I ds h2 r2 p2
        refine ⟨as ++ bs, .cons (cast (by show Reads s.heap _ d as = Reads s.heap _ d as; exact congrArg (fun z => Reads s.heap z d as) p1'.symm) k1) k3, fun n w => ?_⟩
        have n' : noLst d = true ∧ noLstD ds = true := by simpa [noLstD] using n
        rcases List.mem_append.mp w with w | w
        · exact k2 n'.1 w
        · exact k4 n'.2 w
end
def rRepr (K : PySem.W.Frag) : List V → Hp → VK → Prop := fun xs H Q => ∃ G d v, Ex G H ∧ xs = [v] ∧ Rp K G d v ∧ (noLst d = true ∨ noDic d = true) ∧ isDisplay d = true ∧ d.showable = true ∧ d.depth ≤ 60 ∧ d.shown.length ≤ sizeLine ∧ Q (.str d.shown) H
theorem call_reprR (hg : X.A.guards = some []) (hu : X.A.units + 64 < cLine) : CallR X (.builtin "repr") (rRepr X.K) := by
  intro pins s σ H xs us Q I r h
  obtain ⟨G, d, v, g, rfl, h1, h2, h3, h4, h5, h6, q⟩ := h
  cases r with
  | cons r1 r2 =>
    cases r2
    obtain ⟨as, k1, k2⟩ := Rp.reads I d (h1.up g) r1
    have k3 : d.hasDict = true → sysModules ∉ as := fun z => by
      rcases h2 with n | n
      · exact k2 n
      · rw [noDic_hasDict d n] at z
        cases z
    obtain ⟨a, rfl⟩ := isRef_of_reads k1 h3
    exact repr_of_reads' k1 h4 k3 hg (by omega) (fun _ _ e => e) (fun h' u tk hk => ⟨.str d.shown, H, I.kept hk, ⟨u, rfl⟩, q⟩) h6
end
theorem rc_repr {K : PySem.W.Frag} {d : PyData} (h2 : noLst d = true ∨ noDic d = true) (h3 : isDisplay d = true) (h4 : d.showable = true) (h5 : d.depth ≤ 60) (h6 : d.shown.length ≤ sizeLine) : RC K (rRepr K) [d] (.str d.shown) :=
  fun G M H xs A ⟨x, r, e, h, h'⟩ Q q => by
    rw [e, show r = [] from h']
    exact ⟨G, d, x, A.g, rfl, h, h2, h3, h4, h5, h6, q.here A rfl⟩
end Sb

namespace Sb
open PySem PySem.Spec PyProof.Rows L2

/-! ### rules that the layer lacks -/
section
variable {X : Cx}
def CPowW (i j : Int) : Prop := 0 ≤ j ∧ (Builtin.Int.intBits i : Int) * j ≤ 2 ^ 27
theorem op_powW : OpR X (binaryOp .Pow) (rI CPowW fun i j => .int (i ^ j.toNat)) := opI fun _ _ _ _ _ _ _ hc q => pow_int hc.1 hc.2 q
def rMulS : R2 := fun x y H Q => ∃ z n, x = .str z ∧ y = .int n ∧ MulOk z n ∧ Q (.str (Txt.mul z n)) H
theorem op_mulS : OpR X (binaryOp .Mult) rMulS := by
  intro pins s σ H x y v u Q I rx ry h
  obtain ⟨z, n, rfl, rfl, ok, q⟩ := h
  obtain ⟨t, rfl⟩ := rx
  obtain ⟨t', rfl⟩ := ry
  exact SB.mul ok fun t2 k => ⟨.str _, H, I.tok k, ⟨t2, rfl⟩, q⟩
def signs (z : Str) : List V := z.cps.toList.map fun c => V.str ⟨#[c]⟩
def rListS : List V → Hp → VK → Prop := fun xs H Q => ∃ z, xs = [.str z] ∧ z.cps.size ≤ sizeLine ∧ ∀ p, H p = none → Q (.ref p) (upd H p (.lst (signs z)))
theorem call_listS (hc : X.calm = true) : CallR X (.type "list") rListS := by
  intro pins s σ H xs us Q I r h
  obtain ⟨z, rfl, hz, q⟩ := h
  cases r with
  | cons r1 r2 =>
    cases r2
    obtain ⟨t, rfl⟩ := r1
    refine call_list_str (I.ok.hd hc) z t (fun h' tk acc c' hk hl hi => ?_) hz
    have rv : Vals (signs z) acc.toList := by
      have size : acc.toList.length = z.cps.toList.length := by simpa using hi.1
      have at_ : ∀ (j : Nat) v, acc.toList[j]? = some v → ∃ c u, z.cps.toList[j]? = some c ∧ v = .str ⟨#[c]⟩ u := fun j v e => by
        obtain ⟨c, u, e1, e2⟩ := hi.2 j v (by simpa using e)
        exact ⟨c, u, by simpa using e1, e2⟩
      revert size at_
      show ∀ (size : acc.toList.length = z.cps.toList.length) (at_ : ∀ (j : Nat) v, acc.toList[j]? = some v → ∃ c u, z.cps.toList[j]? = some c ∧ v = .str ⟨#[c]⟩ u), Vals (z.cps.toList.map fun c => V.str ⟨#[c]⟩) acc.toList
      generalize acc.toList = us
      generalize z.cps.toList = cs
      intro size at_
      induction cs generalizing us with
      | nil =>
        cases us with
        | nil => exact .nil
        | cons _ _ => simp at size
      | cons c cs ih =>
        cases us with
        | nil => simp at size
        | cons v us =>
          obtain ⟨c', u, e1, e2⟩ := at_ 0 v rfl
          have e3 : c = c' := by simpa using e1
          rw [e2, ← e3]
          exact .cons ⟨u, rfl⟩ (ih us (by simpa using size) fun j v e => by simpa using at_ (j + 1) v (by simpa using e))
    refine ⟨.ref s.heap.objs.size, _, I.laid (t' := tk) (o := .lst (signs z)) hk (Nat.le_refl _) ?_, rfl, q _ (I.hok.fresh (Nat.le_refl _))⟩
    refine ⟨by unfold signs; simpa using hz, acc.toList, c', rv, ?_⟩
    rw [hl]
/-- a dict and an empty one -/
def rEqE : R2 := fun x y H Q => ∃ a b kvs, x = .ref a ∧ y = .ref b ∧ H a = some (.dK kvs) ∧ H b = some (.dK []) ∧ Q (.bl kvs.isEmpty) H
theorem op_eqE (hu : X.A.units + 64 < cLine) : OpR X (compareOp .Eq) rEqE := by
  intro pins s σ H x y v u Q I rx ry h
  obtain ⟨a, b, kvs, rfl, rfl, h1, h2, q⟩ := h
  cases (show v = Value.ref a from rx)
  cases (show u = Value.ref b from ry)
  obtain ⟨_, ya, va, ra, da⟩ := I.hok a _ h1
  obtain ⟨_, yb, vb, rb, db⟩ := I.hok b _ h2
  cases rb
  have la := ra.length
  refine PySem.W.rcP_dicts (knd := mixKind X.prog X.w) (r := true) ya yb da db (by omega) (fun z => ?_) _ _ ?_
  · cases va with
    | nil => exact .nil
    | cons _ _ => simp at z
  · have e : (va.length == ([] : List (Key × Value)).length && true) = kvs.isEmpty := by
      cases kvs with
      | nil =>
        cases va with
        | nil => rfl
        | cons _ _ => simp at la
      | cons _ _ =>
        cases va with
        | nil => simp at la
        | cons _ _ => rfl
    rw [e]
    exact ⟨.bl _, H, I, rfl, q⟩
end

/-! ### isinstance -/
def kindOf : PyData → String
  | .none => "NoneType"
  | .bool _ => "bool"
  | .int _ => "int"
  | .str _ => "str"
  | .list _ => "list"
  | .tuple _ => "tuple"
  | .dict _ => "dict"
def isA (n : String) (d : PyData) : Bool := kindOf d == n || (n == "int" && kindOf d == "bool")
section
variable {K : PySem.W.Frag} {σ : L2.St} {G G' M H : Hp} {ta tb te : TE} {d d1 d2 d3 : PyData} {tt t u : TT} {ts : TA} {ds es : List PyData} {Q : VK}
theorem tyx_of {v : V} (h : Rp K G d v) : TyX K G v (.type (kindOf d)) := by
  cases d with
  | none => rw [show v = V.non from h]; exact .base .non
  | bool b => rw [show v = V.bl b from h]; exact .base (.bl b)
  | int b => rw [show v = V.int b from h]; exact .base (.int b)
  | str b => rw [show v = V.str b from h]; exact .base (.str b)
  | list ds => obtain ⟨a, xs, rfl, h1, _⟩ := h; exact .base (.lst h1)
  | dict ds => obtain ⟨a, xs, rfl, h1, _⟩ := h; exact .base (.dK h1)
  | tuple ds =>
    obtain ⟨a, xs, rfl, h1, _⟩ := h
    rcases h1 with (h1 | ⟨o, h1⟩) | h1
    · exact .base (.tup h1)
    · exact .fTuple h1
    · obtain ⟨o, its, n, e, c, _⟩ := h1
      exact .kTuple e c
theorem kit_all : ∀ n ∈ ["int", "bool", "str", "list", "tuple", "dict"], ∀ k ∈ ["NoneType", "bool", "int", "str", "list", "tuple", "dict"], kitB k n = some (k == n || (n == "int" && k == "bool")) := by decide +kernel
theorem kind_mem (d : PyData) : kindOf d ∈ ["NoneType", "bool", "int", "str", "list", "tuple", "dict"] := by cases d <;> simp [kindOf]
theorem d_isi {n : String} (h : TrD K ta σ G d) (hn : n ∈ ["int", "bool", "str", "list", "tuple", "dict"] := by decide) : TrD K (tCB (rIsi K) (tCons ta (tCons (tC (.ty n)) tNil))) σ G (.bool (isA n d)) := fun G1 M H e A Q q => by
  refine h G1 M H e A _ fun v G2 H2 e2 A2 r => ?_
  refine ⟨v, .ty n, .type (kindOf d), .type n, isA n d, rfl, .ty n, ?_, kit_ty (kit_all n hn _ (kind_mem d)), (q.mono e2).here A2 rfl⟩
  exact tyx_of (r.up A2.g)

/-! ### ints -/
theorem rd_mul {i j : Int} (h : CMulW i j) : RD K (rI CMulW fun i j => .int (i * j)) (.int i) (.int j) (.int (i * j)) := rd_I h fun _ => rfl
theorem rd_mod {i j : Int} (h : 0 < j) : RD K (rI (fun _ j => 0 < j) fun i j => .int (i % j)) (.int i) (.int j) (.int (i % j)) := rd_I h fun _ => rfl
theorem rd_fdiv {i j : Int} (h : CDivW i j) : RD K (rI CDivW fun i j => .int (i / j)) (.int i) (.int j) (.int (i / j)) := rd_I h fun _ => rfl
theorem rd_pow {i j : Int} (h : CPow i j) : RD K (rI CPow fun i j => .int (i ^ j.toNat)) (.int i) (.int j) (.int (i ^ j.toNat)) := rd_I h fun _ => rfl
theorem rd_powW {i j : Int} (h : CPowW i j) : RD K (rI CPowW fun i j => .int (i ^ j.toNat)) (.int i) (.int j) (.int (i ^ j.toNat)) := rd_I h fun _ => rfl
def rInt1 : List V → Hp → VK → Prop := fun xs H Q => (∃ i, xs = [.int i] ∧ Q (.int i) H) ∨ ∃ k, xs = [.bl k] ∧ Q (.int (if k then 1 else 0)) H
theorem call_int1' {X : Cx} : CallR X (.type "int") rInt1 := call_int1
theorem rc_int1 {i : Int} : RC K rInt1 [.int i] (.int i) := fun G M H xs A ⟨x, r, e, h, h'⟩ Q q => by
  rw [e, show r = [] from h', show x = V.int i from h]
  exact .inl ⟨i, rfl, q.here A rfl⟩
def rStrI : List V → Hp → VK → Prop := fun xs H Q => ∃ i, xs = [.int i] ∧ i.natAbs.log2 < 1920 ∧ Q (.str (toString i)) H
theorem call_strI {X : Cx} : CallR X (.type "str") rStrI := call_str_int
theorem rc_strI {i : Int} (h0 : i.natAbs.log2 < 1920) : RC K rStrI [.int i] (.str (toString i)) := fun G M H xs A ⟨x, r, e, h, h'⟩ Q q => by
  rw [e, show r = [] from h', show x = V.int i from h]
  exact ⟨i, rfl, h0, q.here A rfl⟩
def rIntS : List V → Hp → VK → Prop := fun xs H Q => ∃ a n, xs = [.str a] ∧ PySem.intText? a = some n ∧ a.length ≤ 640 ∧ Q (.int n) H
theorem call_intS {X : Cx} : CallR X (.type "int") rIntS := call_int_str
theorem rc_intS {a : Str} {n : Int} (h0 : PySem.intText? a = some n) (h1 : a.length ≤ 640) : RC K rIntS [.str a] (.int n) := fun G M H xs A ⟨x, r, e, h, h'⟩ Q q => by
  rw [e, show r = [] from h', show x = V.str a from h]
  exact ⟨a, n, rfl, h0, h1, q.here A rfl⟩
def rMax2 : List V → Hp → VK → Prop := fun xs H Q => ∃ i j, xs = [.int i, .int j] ∧ Q (.int (if j > i then j else i)) H
def rMin2 : List V → Hp → VK → Prop := fun xs H Q => ∃ i j, xs = [.int i, .int j] ∧ Q (.int (if j < i then j else i)) H
def rAbs : List V → Hp → VK → Prop := fun xs H Q => ∃ i, xs = [.int i] ∧ Q (.int (if i < 0 then -i else i)) H
theorem call_max2' {X : Cx} (hc : X.calm = true) : CallR X (.builtin "max") rMax2 := call_max2 hc
theorem call_min2' {X : Cx} (hc : X.calm = true) : CallR X (.builtin "min") rMin2 := call_min2 hc
theorem call_abs' {X : Cx} : CallR X (.builtin "abs") rAbs := call_abs
theorem rc_max2 {i j : Int} : RC K rMax2 [.int i, .int j] (.int (if j > i then j else i)) := fun G M H xs A ⟨x, r, e, h, ⟨y, r', e', h', h''⟩⟩ Q q => by
  rw [e, e', show r' = [] from h'', show x = V.int i from h, show y = V.int j from h']
  exact ⟨i, j, rfl, q.here A rfl⟩
theorem rc_min2 {i j : Int} : RC K rMin2 [.int i, .int j] (.int (if j < i then j else i)) := fun G M H xs A ⟨x, r, e, h, ⟨y, r', e', h', h''⟩⟩ Q q => by
  rw [e, e', show r' = [] from h'', show x = V.int i from h, show y = V.int j from h']
  exact ⟨i, j, rfl, q.here A rfl⟩
theorem rc_abs {i : Int} : RC K rAbs [.int i] (.int (if i < 0 then -i else i)) := fun G M H xs A ⟨x, r, e, h, h'⟩ Q q => by
  rw [e, show r = [] from h', show x = V.int i from h]
  exact ⟨i, rfl, q.here A rfl⟩

/-! ### sequences -/
def sizeD : PyData → Nat
  | .str x => x.length
  | .list ds => ds.length
  | .tuple ds => ds.length
  | .dict ds => ds.length
  | _ => 0
def rLen (K : PySem.W.Frag) : List V → Hp → VK → Prop := fun xs H Q => ∃ x n, xs = [x] ∧ LenV K x H n ∧ Q (.int n) H
theorem call_len' {X : Cx} : CallR X (.builtin "len") (rLen X.K) := call_len
theorem rc_lenT : RC K (rLen K) [.tuple ds] (.int ds.length) := fun G M H xs A ⟨x, r, e, ⟨a, ys, h1, h2, h3⟩, h'⟩ Q q => by
  rw [e, show r = [] from h', h1]
  exact ⟨_, ds.length, rfl, .inr ⟨ys, A.g.stt h2, h3.len.symm⟩, q.here A rfl⟩
theorem rc_lenL : RC K (rLen K) [.list ds] (.int ds.length) := fun G M H xs A ⟨x, r, e, ⟨a, ys, h1, h2, h3⟩, h'⟩ Q q => by
  rw [e, show r = [] from h', h1]
  exact ⟨_, ds.length, rfl, .inl ⟨ys, SqL.of (A.g _ _ h2), h3.len.symm⟩, q.here A rfl⟩
theorem rc_lenS {z : Str} (hz : z.length ≤ sizeLine) : RC K (rLen K) [.str z] (.int z.length) := fun G M H xs A ⟨x, r, e, h, h'⟩ Q q => by
  rw [e, show r = [] from h', show x = V.str z from h]
  exact ⟨_, z.length, rfl, ⟨hz, rfl⟩, q.here A rfl⟩
def rLenD : List V → Hp → VK → Prop := fun xs H Q => ∃ a kvs, xs = [V.ref a] ∧ H a = some (.dK kvs) ∧ Q (.int kvs.length) H
theorem call_lenD' {X : Cx} : CallR X (.builtin "len") rLenD := call_lenD
theorem RpD.len : ∀ {ds : List (PyData × PyData)} {xs : List (Key × V)}, RpD K G ds xs → xs.length = ds.length
  | [], _, h => by rw [show _ = [] from h]; rfl
  | (_, _) :: ds, _, ⟨_, _, r, h1, _, _, h3⟩ => by rw [h1, List.length_cons, List.length_cons, RpD.len h3]
theorem rc_lenD {kvs : List (PyData × PyData)} : RC K rLenD [.dict kvs] (.int kvs.length) := fun G M H xs A ⟨x, r, e, ⟨a, ys, h1, h2, h3⟩, h'⟩ Q q => by
  rw [e, show r = [] from h', h1]
  exact ⟨a, ys, rfl, A.g _ _ h2, q.here A (show V.int _ = V.int _ by rw [h3.len])⟩
theorem RpL.atI {xs : List V} {i : Int} (h : RpL K G ds xs) (e : atI ds i = some d) : ∃ x, L2.atI xs i = some x ∧ Rp K G d x := by
  unfold L2.atI at e ⊢
  rw [h.len]
  cases q : ixN ds.length i with
  | none =>
    rw [q] at e
    cases e
  | some j =>
    rw [q] at e
    exact h.at e
theorem rd_ixT {i : Int} (h : atI ds i = some d) : RD K (rIxT K) (.tuple ds) (.int i) d := fun G M H x y A ⟨a, xs, h1, h2, h3⟩ h4 Q q => by
  obtain ⟨z, e, r⟩ := h3.atI h
  exact ⟨a, xs, i, z, h1, h4, A.g.stt h2, e, q.here A r⟩
theorem rd_ixL {i : Int} (h : atI ds i = some d) : RD K (rIxL K) (.list ds) (.int i) d := fun G M H x y A ⟨a, xs, h1, h2, h3⟩ h4 Q q => by
  obtain ⟨z, e, r⟩ := h3.atI h
  exact ⟨a, xs, i, z, h1, h4, SqL.of (A.g _ _ h2), e, q.here A r⟩
theorem rd_ixS {z : Str} {i : Int} {c : Nat} (hz : z.length ≤ sizeLine) (h : atI z.cps.toList i = some c) : RD K rIxS (.str z) (.int i) (.str ⟨#[c]⟩) := fun G M H x y A h1 h2 Q q => ⟨z, i, c, h1, h2, hz, h, q.here A rfl⟩
theorem rd_cat (hn : ds.length + es.length ≤ 100000) : RD K rCat (.list ds) (.list es) (.list (ds ++ es)) := fun G M H x y A ⟨a, xs, h1, h2, h3⟩ ⟨b, ys, k1, k2, k3⟩ Q q =>
  ⟨a, b, xs, ys, h1, k1, A.g _ _ h2, A.g _ _ k2, by rw [h3.len, k3.len]; exact sz_of hn, fun p hp => q.newG A hp ⟨p, _, rfl, upd_same, (h3.app k3).up (Ex.new (A.gNone hp))⟩⟩
theorem rd_addS {x y : Str} (h : x.length + y.length ≤ sizeLine) : RD K (fun x y H Q => ∃ i j, x = .str i ∧ y = .str j ∧ i.length + j.length ≤ sizeLine ∧ Q (.str (i ++ j)) H) (.str x) (.str y) (.str (x ++ y)) :=
  fun G M H v u A h1 h2 Q q => ⟨x, y, h1, h2, h, q.here A rfl⟩
def cutD (ds : List PyData) (lo hi : Option Int) : List PyData := (ds.drop (HT.sIx ds.length 0 lo)).take (HT.sIx ds.length ds.length hi - HT.sIx ds.length 0 lo)
theorem RpL.cut {xs : List V} {lo hi : Option Int} (h : RpL K G ds xs) : RpL K G (cutD ds lo hi) (cutV xs lo hi) := by
  unfold cutD cutV
  rw [h.len]
  exact (h.drop _).take _
def TrO (to : TO) (σ : L2.St) (G : Hp) (o : Option Int) : Prop := ∀ G1 M H, Ex G G1 → At G1 M H → ∀ Q : Option Int → Hp → Prop, (∀ G' H', Ex G1 G' → At G' M H' → Q o H') → to σ H Q
theorem o_none : TrO tNoPart σ G none := fun G1 M H e A Q q => q G1 H (Ex.refl _) A
theorem o_some {i : Int} (h : TrD K te σ G (.int i)) : TrO (tPart te) σ G (some i) := fun G1 M H e A Q q => by
  refine h G1 M H e A _ fun v G2 H2 e2 A2 r => ?_
  exact ⟨i, r, q G2 H2 e2 A2⟩
theorem d_slL {tl th : TO} {lo hi : Option Int} (h : TrD K te σ G (.list ds)) (h1 : TrO tl σ G lo) (h2 : TrO th σ G hi) : TrD K (tSl (rSlL K) te tl th) σ G (.list (cutD ds lo hi)) := fun G1 M H e A Q q => by
  refine h G1 M H e A _ fun v G2 H2 e2 A2 r => ?_
  refine h1 G2 M H2 (e.trans e2) A2 _ fun G3 H3 e3 A3 => ?_
  refine h2 G3 M H3 ((e.trans e2).trans e3) A3 _ fun G4 H4 e4 A4 => ?_
  obtain ⟨a, xs, rfl, k1, k2⟩ := r.up (e3.trans e4)
  refine ⟨a, xs, rfl, SqL.of (A4.g _ _ k1), fun p hp => ?_⟩
  exact ((q.mono ((e2.trans e3).trans e4))).newG A4 hp ⟨p, _, rfl, upd_same, k2.cut.up (Ex.new (A4.gNone hp))⟩
def rTupOf (K : PySem.W.Frag) : List V → Hp → VK → Prop := fun xs H Q => ∃ p ys, xs = [.ref p] ∧ ((SqL K H p ys ∧ ∀ l, H l = none → Q (.ref l) (upd H l (.tup ys))) ∨ (SqT K H p ys ∧ Q (.ref p) H))
theorem call_tupOf {X : Cx} : CallR X (.type "tuple") (rTupOf X.K) := call_tuple_of
theorem rc_tupL : RC K (rTupOf K) [.list ds] (.tuple ds) := fun G M H xs A ⟨x, r, e, ⟨a, ys, h1, h2, h3⟩, h'⟩ Q q => by
  rw [e, show r = [] from h', h1]
  exact ⟨a, ys, rfl, .inl ⟨SqL.of (A.g _ _ h2), fun p hp => q.newG A hp ⟨p, ys, rfl, SqT.of upd_same, h3.up (Ex.new (A.gNone hp))⟩⟩⟩
def rListOf (K : PySem.W.Frag) : List V → Hp → VK → Prop := fun xs H Q => ∃ p ys, xs = [.ref p] ∧ (SqL K H p ys ∨ SqT K H p ys) ∧ ∀ l, H l = none → Q (.ref l) (upd H l (.lst ys))
theorem call_listOf {X : Cx} : CallR X (.type "list") (rListOf X.K) := call_list_of
theorem rc_listT : RC K (rListOf K) [.tuple ds] (.list ds) := fun G M H xs A ⟨x, r, e, ⟨a, ys, h1, h2, h3⟩, h'⟩ Q q => by
  rw [e, show r = [] from h', h1]
  exact ⟨a, ys, rfl, .inr (A.g.stt h2), fun p hp => q.newG A hp ⟨p, ys, rfl, upd_same, h3.up (Ex.new (A.gNone hp))⟩⟩
theorem rpL_bools : ∀ (bs : List Bool) {xs : List V}, RpL K G (bs.map PyData.bool) xs → xs = bs.map V.bl
  | [], xs, h => h
  | b :: bs, xs, ⟨x, r, h1, h2, h3⟩ => by
    rw [h1, show x = V.bl b from h2, rpL_bools bs h3]
    rfl
theorem rc_all {bs : List Bool} : RC K (rAll K) [.list (bs.map .bool)] (.bool (bs.all id)) := fun G M H xs A ⟨x, r, e, ⟨a, ys, h1, h2, h3⟩, h'⟩ Q q => by
  rw [e, show r = [] from h', h1]
  rw [rpL_bools bs h3] at h2
  exact ⟨a, bs, rfl, SqL.of (A.g _ _ h2), q.here A rfl⟩
theorem d_revL (h : TrD K te σ G (.list ds)) : TrD K (tRevL K te) σ G (.list ds.reverse) := fun G1 M H e A Q q => by
  refine h G1 M H e A _ fun v G2 H2 e2 A2 r => ?_
  obtain ⟨a, xs, rfl, k1, k2⟩ := r
  exact ⟨a, xs, rfl, SqL.of (A2.g _ _ k1), fun p hp => (q.mono e2).newG A2 hp ⟨p, _, rfl, upd_same, k2.rev.up (Ex.new (A2.gNone hp))⟩⟩
/-! ### texts -/
theorem d_join {to : TE} {a : Str} {ys : List Str} (ho : TrD K to σ G (.str a)) (h : TrD K te σ G (.list (dStrs ys))) (hz : (ys.map (·.length)).sum + ys.length * a.length ≤ 16777216) :
    TrD K (tM1 (fun x xs H Q => ∃ a p, ∃ ys : List Str, x = .str a ∧ xs = [.ref p] ∧ (SqL K H p (ys.map V.str) ∨ SqT K H p (ys.map V.str)) ∧ (ys.map (·.length)).sum + ys.length * a.length ≤ 16777216 ∧ Q (.str (Txt.join a ys)) H) to te) σ G (.str (Txt.join a ys)) := fun G1 M H e A Q q => by
  refine ho G1 M H e A _ fun v G2 H2 e2 A2 r => ⟨⟨a, r⟩, ?_⟩
  refine h G2 M H2 (e.trans e2) A2 _ fun v3 G3 H3 e3 A3 r3 => ?_
  obtain ⟨p, rfl, hp⟩ := r3.ls
  exact ⟨a, p, ys, r, rfl, .inl (SqL.of (A3.g _ _ hp)), hz, (q.mono (e2.trans e3)).here A3 rfl⟩
theorem d_split {to : TE} {a b : Str} (ho : TrD K to σ G (.str a)) (h : TrD K te σ G (.str b)) (hb : (b.length == 0) = false) (hz : a.length + 2 ≤ sizeLine) :
    TrD K (tM1 (fun x xs H Q => ∃ a b, x = .str a ∧ xs = [.str b] ∧ (b.length == 0) = false ∧ a.length + 2 ≤ sizeLine ∧ rNewStrs (Txt.split a b) H Q) to te) σ G (.list (dStrs (Txt.split a b))) := fun G1 M H e A Q q => by
  refine ho G1 M H e A _ fun v G2 H2 e2 A2 r => ⟨⟨a, r⟩, ?_⟩
  refine h G2 M H2 (e.trans e2) A2 _ fun v3 G3 H3 e3 A3 r3 => ?_
  refine ⟨a, b, r, by rw [show v3 = V.str b from r3], hb, hz, fun p hp => ?_⟩
  exact (q.mono (e2.trans e3)).newG A3 hp ⟨p, _, rfl, upd_same, (rpL_strs _).mpr rfl⟩
theorem rd_inSign {c : Nat} {z : Str} : RD K (fun x y H Q => ∃ (c : Nat) (z : Str), x = .str ⟨#[c]⟩ ∧ y = .str z ∧ Q (.bl (decide (c ∈ z.cps.toList))) H) (.str ⟨#[c]⟩) (.str z) (.bool (decide (c ∈ z.cps.toList))) :=
  fun G M H v u A h1 h2 Q q => ⟨c, z, h1, h2, q.here A rfl⟩
theorem rd_ltS {x y : Str} : RD K (fun x y H Q => ∃ i j, x = .str i ∧ y = .str j ∧ Q (.bl (decide (i.cps.toList < j.cps.toList))) H) (.str x) (.str y) (.bool (decide (x.cps.toList < y.cps.toList))) :=
  fun G M H v u A h1 h2 Q q => ⟨x, y, h1, h2, q.here A rfl⟩
def flatD : PyData → V
  | .bool b => .bl b
  | .int i => .int i
  | .str x => .str x
  | _ => .non
def isFlat : PyData → Bool
  | .none => true
  | .bool _ => true
  | .int _ => true
  | .str _ => true
  | _ => false
theorem rp_flat {v : V} (hf : isFlat d = true) (h : Rp K G d v) : v = flatD d ∧ flatV v = true := by
  cases d with
  | none => rw [show v = V.non from h]; exact ⟨rfl, rfl⟩
  | bool b => rw [show v = V.bl b from h]; exact ⟨rfl, rfl⟩
  | int b => rw [show v = V.int b from h]; exact ⟨rfl, rfl⟩
  | str b => rw [show v = V.str b from h]; exact ⟨rfl, rfl⟩
  | list ds => cases hf
  | dict ds => cases hf
  | tuple ds => cases hf
theorem rpL_flat : ∀ {ds : List PyData} {xs : List V}, ds.all isFlat = true → RpL K G ds xs → xs = ds.map flatD ∧ xs.all flatV = true
  | [], xs, _, h => by rw [show xs = [] from h]; exact ⟨rfl, rfl⟩
  | d :: ds, xs, hf, ⟨x, r, h1, h2, h3⟩ => by
    have hf' : isFlat d = true ∧ ds.all isFlat = true := by simpa using hf
    obtain ⟨e1, e2⟩ := rp_flat hf'.1 h2
    obtain ⟨e3, e4⟩ := rpL_flat hf'.2 h3
    rw [h1, e1, e3]
    rw [e1] at e2
    rw [e3] at e4
    refine ⟨rfl, ?_⟩
    rw [List.all_cons, e2, e4]
    rfl
def inD (d : PyData) (ds : List PyData) : Bool := inV (flatD d) (ds.map flatD)
theorem rd_inT {neg : Bool} (hf : isFlat d = true) (hs : ds.all isFlat = true) : RD K (rIn K neg) d (.tuple ds) (.bool (if neg then !inD d ds else inD d ds)) := fun G M H x y A h1 ⟨a, xs, k1, k2, k3⟩ Q q => by
  obtain ⟨e1, e2⟩ := rp_flat hf h1
  obtain ⟨e3, e4⟩ := rpL_flat hs k3
  refine ⟨a, xs, k1, .inr (A.g.stt k2), e2, e4, q.here A ?_⟩
  rw [e1, e3]
  rfl
theorem rd_inL {neg : Bool} (hf : isFlat d = true) (hs : ds.all isFlat = true) : RD K (rIn K neg) d (.list ds) (.bool (if neg then !inD d ds else inD d ds)) := fun G M H x y A h1 ⟨a, xs, k1, k2, k3⟩ Q q => by
  obtain ⟨e1, e2⟩ := rp_flat hf h1
  obtain ⟨e3, e4⟩ := rpL_flat hs k3
  refine ⟨a, xs, k1, .inl (SqL.of (A.g _ _ k2)), e2, e4, q.here A ?_⟩
  rw [e1, e3]
  rfl
end
end Sb

namespace Sb
open PySem PySem.Spec PyProof.Rows L2
section
variable {K : PySem.W.Frag} {σ : L2.St} {G G' M H : Hp} {ta tb te : TE} {d d1 d2 d3 : PyData} {tt t u : TT} {ts : TA} {ds es : List PyData} {Q : VK} {D : Ends} {s1 s2 : TS}
theorem s_seq (h : s1 { D with nx := s2 D } σ H) : tSeq s1 s2 D σ H := h
theorem s_next (h : D.nx σ H) : tNext D σ H := h
def isNoneD : PyData → Bool
  | .none => true
  | _ => false
theorem rd_isN : RD K (fun x y H Q => y = V.non ∧ Q (V.bl (decide (x = V.non))) H) d .none (.bool (isNoneD d)) := fun G M H x y A h1 h2 Q q => by
  refine ⟨h2, q.here A ?_⟩
  cases d with
  | none => rw [show x = V.non from h1]; rfl
  | bool b => rw [show x = V.bl b from h1]; rfl
  | int b => rw [show x = V.int b from h1]; rfl
  | str b => rw [show x = V.str b from h1]; rfl
  | list ds => obtain ⟨a, xs, rfl, _⟩ := h1; rfl
  | dict ds => obtain ⟨a, xs, rfl, _⟩ := h1; rfl
  | tuple ds => obtain ⟨a, xs, rfl, _⟩ := h1; rfl
theorem v_andT (h1 : TrD K ta σ G (.bool true)) (h2 : TrD K tb σ G d) : TrD K (tAndV ta tb) σ G d := fun G1 M H e A Q q => by
  refine h1 G1 M H e A _ fun v G2 H2 e2 A2 r => ?_
  exact ⟨true, r, h2 G2 M H2 (e.trans e2) A2 Q (q.mono e2)⟩
theorem v_andF (h1 : TrD K ta σ G (.bool false)) : TrD K (tAndV ta tb) σ G (.bool false) := fun G1 M H e A Q q => by
  refine h1 G1 M H e A _ fun v G2 H2 e2 A2 r => ?_
  exact ⟨false, r, (q.mono e2).here A2 rfl⟩
theorem v_orF (h1 : TrD K ta σ G (.bool false)) (h2 : TrD K tb σ G d) : TrD K (tOrV ta tb) σ G d := fun G1 M H e A Q q => by
  refine h1 G1 M H e A _ fun v G2 H2 e2 A2 r => ?_
  exact ⟨false, r, h2 G2 M H2 (e.trans e2) A2 Q (q.mono e2)⟩
theorem v_orT (h1 : TrD K ta σ G (.bool true)) : TrD K (tOrV ta tb) σ G (.bool true) := fun G1 M H e A Q q => by
  refine h1 G1 M H e A _ fun v G2 H2 e2 A2 r => ?_
  exact ⟨true, r, (q.mono e2).here A2 rfl⟩
theorem b_orT (h1 : TrB t σ G true) : TrB (tOr t u) σ G true := fun G1 M H e A Q q => h1 G1 M H e A _ q
theorem b_orF {b : Bool} (h1 : TrB t σ G false) (h2 : TrB u σ G b) : TrB (tOr t u) σ G b := fun G1 M H e A Q q =>
  h1 G1 M H e A _ fun G2 H2 e2 A2 => h2 G2 M H2 (e.trans e2) A2 _ fun G3 H3 e3 A3 => q G3 H3 (e2.trans e3) A3
theorem b_andF (h1 : TrB t σ G false) : TrB (tAnd t u) σ G false := fun G1 M H e A Q q => h1 G1 M H e A _ q
theorem b_andT {b : Bool} (h1 : TrB t σ G true) (h2 : TrB u σ G b) : TrB (tAnd t u) σ G b := fun G1 M H e A Q q =>
  h1 G1 M H e A _ fun G2 H2 e2 A2 => h2 G2 M H2 (e.trans e2) A2 _ fun G3 H3 e3 A3 => q G3 H3 (e2.trans e3) A3
/-! chains -/
theorem d_chain {r r' : R2} {tc : TE} {x y z : PyData} {a b : Bool} (ha : TrD K ta σ G x) (hb : TrD K tb σ G y) (hr : RD K r x y (.bool a)) (hc : a = true → TrD K tc σ G z) (hr' : a = true → RD K r' y z (.bool b)) : TrD K (tChain r r' ta tb tc) σ G (.bool (a && b)) := fun G1 M H e A Q q => by
  refine ha G1 M H e A _ fun v G2 H2 e2 A2 r2 => ?_
  refine hb G2 M H2 (e.trans e2) A2 _ fun w G3 H3 e3 A3 r3 => ?_
  refine hr G3 M H3 v w A3 (r2.up e3) r3 _ fun k G4 H4 e4 A4 r4 => ⟨a, r4, ?_⟩
  cases a with
  | false => exact (q.mono ((e2.trans e3).trans e4)).here A4 rfl
  | true =>
    refine hc rfl G4 M H4 (((e.trans e2).trans e3).trans e4) A4 _ fun k5 G5 H5 e5 A5 r5 => ?_
    exact hr' rfl G5 M H5 _ _ A5 (r3.up (e4.trans e5)) r5 Q (q.mono (((e2.trans e3).trans e4).trans e5))
/-! dicts whose keys are texts -/
def keysD (kvs : List (Str × PyData)) : List (PyData × PyData) := kvs.map fun p => (.str p.1, p.2)
theorem RpD.keys : ∀ {kvs : List (Str × PyData)} {xs : List (Key × V)}, RpD K G (keysD kvs) xs → xs.map (·.1) = (kvs.map (·.1)).map Sum.inr
  | [], xs, h => by rw [show xs = [] from h]; rfl
  | (k, d) :: r, _, ⟨x, y, t, h1, h2, _, h3⟩ => by
    rw [h1, List.map_cons, List.map_cons, List.map_cons, RpD.keys h3]
    cases x with
    | inl i => cases h2
    | inr z =>
      have e : z = k := by simpa [kD] using h2
      rw [e]
def lookD (kvs : List (Str × PyData)) (x : Str) : Option PyData := (kvs.find? fun p => decide (p.1 = x)).map (·.2)
theorem RpD.val {x : Str} : ∀ {kvs : List (Str × PyData)} {xs : List (Key × V)}, RpD K G (keysD kvs) xs → (∀ d, lookD kvs x = some d → ∃ v, valV xs (Sum.inr x) = some v ∧ Rp K G d v) ∧ (lookD kvs x = none → valV xs (Sum.inr x) = none)
  | [], xs, h => by
    rw [show xs = [] from h]
    exact ⟨fun d z => by simp [lookD] at z, fun _ => rfl⟩
  | (k, d) :: r, _, ⟨z, y, t, h1, h2, h4, h3⟩ => by
    rw [h1]
    have ih := RpD.val (x := x) h3
    cases z with
    | inl i => cases h2
    | inr w =>
      have e : w = k := by simpa [kD] using h2
      subst e
      unfold lookD valV at ih ⊢
      simp only [List.find?_cons]
      rw [key_rr]
      by_cases q : w = x
      · subst q
        simp only [decide_true, Option.map_some]
        exact ⟨fun d' z => ⟨y, rfl, by cases z; exact h4⟩, fun z => by cases z⟩
      · simp only [decide_eq_false q]
        exact ih
theorem d_dget {x : Str} {kvs : List (Str × PyData)} {tx : TE} (h : TrD K te σ G (.dict (keysD kvs))) (hx : TrD K tx σ G (.str x)) (hl : lookD kvs x = some d) : TrD K (tDGet te tx) σ G d := fun G1 M H e A Q q => by
  refine h G1 M H e A _ fun v G2 H2 e2 A2 r => ?_
  refine hx G2 M H2 (e.trans e2) A2 _ fun w G3 H3 e3 A3 r3 => ?_
  obtain ⟨a, xs, rfl, k1, k2⟩ := r.up e3
  obtain ⟨z, e4, r4⟩ := (RpD.val k2).1 d hl
  refine ⟨a, z, rfl, ?_, (q.mono (e2.trans e3)).here A3 r4⟩
  rw [← e4, show w = kV (Sum.inr x) from r3]
  exact DGet.k (A3.g _ _ k1)
theorem b_din {x : Str} {kvs : List (Str × PyData)} {tx : TE} (hx : TrD K tx σ G (.str x)) (h : TrD K te σ G (.dict (keysD kvs))) : TrB (tB (tDIn tx te)) σ G (lookD kvs x).isSome := fun G1 M H e A Q q => by
  refine hx G1 M H e A _ fun w G2 H2 e2 A2 r2 => ?_
  refine h G2 M H2 (e.trans e2) A2 _ fun v G3 H3 e3 A3 r3 => ?_
  obtain ⟨a, xs, rfl, k1, k2⟩ := r3
  have hv := RpD.val (x := x) k2
  refine ⟨a, valV xs (Sum.inr x), rfl, ?_, (lookD kvs x).isSome, ?_, q G3 H3 (e2.trans e3) A3⟩
  · rw [show w = kV (Sum.inr x) from r2]
    exact DGet.k (A3.g _ _ k1)
  · cases z : lookD kvs x with
    | none => rw [hv.2 z]; rfl
    | some d =>
      obtain ⟨y, e4, _⟩ := hv.1 d z
      rw [e4]
      rfl
theorem v_din {x : Str} {kvs : List (Str × PyData)} {tx : TE} (hx : TrD K tx σ G (.str x)) (h : TrD K te σ G (.dict (keysD kvs))) : TrD K (tDIn tx te) σ G (.bool (lookD kvs x).isSome) := fun G1 M H e A Q q => by
  have z := b_din hx h G1 M H e A (fun b H => Q (.bl b) H) fun G' H' e' A' => (q.mono e').here A' rfl
  refine hx G1 M H e A _ fun w G2 H2 e2 A2 r2 => ?_
  refine h G2 M H2 (e.trans e2) A2 _ fun v G3 H3 e3 A3 r3 => ?_
  obtain ⟨a, xs, rfl, k1, k2⟩ := r3
  have hv := RpD.val (x := x) k2
  refine ⟨a, valV xs (Sum.inr x), rfl, ?_, (q.mono (e2.trans e3)).here A3 ?_⟩
  · rw [show w = kV (Sum.inr x) from r2]
    exact DGet.k (A3.g _ _ k1)
  · show V.bl _ = V.bl _
    cases z : lookD kvs x with
    | none => rw [hv.2 z]; rfl
    | some d =>
      obtain ⟨y, e4, _⟩ := hv.1 d z
      rw [e4]
      rfl
theorem v_dnin {x : Str} {kvs : List (Str × PyData)} {tx : TE} (hx : TrD K tx σ G (.str x)) (h : TrD K te σ G (.dict (keysD kvs))) : TrD K (tDNotIn tx te) σ G (.bool (!(lookD kvs x).isSome)) := fun G1 M H e A Q q => by
  refine hx G1 M H e A _ fun w G2 H2 e2 A2 r2 => ?_
  refine h G2 M H2 (e.trans e2) A2 _ fun v G3 H3 e3 A3 r3 => ?_
  obtain ⟨a, xs, rfl, k1, k2⟩ := r3
  have hv := RpD.val (x := x) k2
  refine ⟨a, valV xs (Sum.inr x), rfl, ?_, (q.mono (e2.trans e3)).here A3 ?_⟩
  · rw [show w = kV (Sum.inr x) from r2]
    exact DGet.k (A3.g _ _ k1)
  · show V.bl _ = V.bl _
    cases z : lookD kvs x with
    | none => rw [hv.2 z]; rfl
    | some d =>
      obtain ⟨y, e4, _⟩ := hv.1 d z
      rw [e4]
      rfl
/-! sorted texts -/
def leS (x y : Str) : Bool := decide (x.cps.toList ≤ y.cps.toList)
def srt (ss : List Str) : List Str := ss.mergeSort leS
theorem leS_trans (a b c : Str) (h1 : leS a b = true) (h2 : leS b c = true) : leS a c = true := decide_eq_true (List.le_trans (of_decide_eq_true h1) (of_decide_eq_true h2))
theorem leS_total (a b : Str) : (leS a b || leS b a) = true := by
  rcases List.le_total a.cps.toList b.cps.toList with h | h
  · rw [show leS a b = true from decide_eq_true h]; rfl
  · rw [show leS b a = true from decide_eq_true h, Bool.or_true]
theorem str_ext {a b : Str} (h : a.cps.toList = b.cps.toList) : a = b := by
  cases a
  cases b
  simp only [Str.mk.injEq]
  exact Array.toList_inj.mp h
theorem leS_anti {a b : Str} (h1 : leS a b = true) (h2 : leS b a = true) : a = b := str_ext (List.le_antisymm (of_decide_eq_true h1) (of_decide_eq_true h2))
theorem srt_perm (ss : List Str) : (srt ss).Perm ss := List.mergeSort_perm ss leS
theorem srt_pw (ss : List Str) : (srt ss).Pairwise fun a b => leS a b = true := List.pairwise_mergeSort leS_trans leS_total ss
theorem rising_pw : ∀ (r : List Str) (p : Str), risingS p r = true → (p :: r).Pairwise fun a b => leS a b = true
  | [], p, _ => List.pairwise_singleton _ _
  | x :: r, p, h => by
    have h' : (!ltCps x.cps.toList p.cps.toList && risingS x r) = true := h
    obtain ⟨h1, h2⟩ := Bool.and_eq_true_iff.mp h'
    have ih := rising_pw r x h2
    have px : leS p x = true := by
      rw [ltCps_eq] at h1
      have h3 : ¬ x.cps.toList < p.cps.toList := by simpa using h1
      exact decide_eq_true (List.not_lt.mp h3)
    refine List.pairwise_cons.mpr ⟨fun y hy => ?_, ih⟩
    rcases List.mem_cons.mp hy with rfl | hy
    · exact px
    · exact leS_trans _ _ _ px ((List.pairwise_cons.mp ih).1 y hy)
theorem sorted_pw (ss : List Str) (h : sortedS ss = true) : ss.Pairwise fun a b => leS a b = true := by
  cases ss with
  | nil => exact .nil
  | cons x r => exact rising_pw r x h
theorem srt_of {ys ss : List Str} (p : ys.Perm ss) (h : sortedS ys = true) : ys = srt ss :=
  List.Perm.eq_of_pairwise (fun a b _ _ => leS_anti) (sorted_pw ys h) (srt_pw ss) (p.trans (srt_perm ss).symm)
theorem srt_congr {xs ys : List Str} (p : xs.Perm ys) : srt xs = srt ys :=
  List.Perm.eq_of_pairwise (fun a b _ _ => leS_anti) (srt_pw xs) (srt_pw ys) ((srt_perm xs).trans (p.trans (srt_perm ys).symm))
theorem srt_id {xs : List Str} (p : xs.Pairwise fun a b => leS a b = true) : srt xs = xs :=
  List.Perm.eq_of_pairwise (fun a b _ _ => leS_anti) (srt_pw xs) p (srt_perm xs)
def rSortD : List V → Hp → VK → Prop := fun xs H Q => ∃ (a : Addr) (kvs : List (Key × V)) (ks : List Str), xs = [.ref a] ∧ Rd H a (.dK kvs) ∧ kvs.map (·.1) = ks.map Sum.inr ∧ ks.length < 64 ∧
    ∀ ys p, ys.Perm ks → sortedS ys = true → H p = none → Q (.ref p) (upd H p (.lst (ys.map V.str)))
theorem call_sortedD' {X : Cx} (hc : X.calm = true) : CallR X (.builtin "sorted") rSortD := call_sortedD hc
theorem rc_sortD {kvs : List (Str × PyData)} (hn : kvs.length < 64) : RC K rSortD [.dict (keysD kvs)] (.list (dStrs (srt (kvs.map (·.1))))) := fun G M H xs A ⟨x, r, e, ⟨a, ys, h1, h2, h3⟩, h'⟩ Q q => by
  rw [e, show r = [] from h', h1]
  refine ⟨a, ys, kvs.map (·.1), rfl, .inl (A.g _ _ h2), h3.keys, by rw [List.length_map]; exact hn, fun zs p pm so hp => ?_⟩
  rw [srt_of pm so]
  exact q.newG A hp ⟨p, _, rfl, upd_same, (rpL_strs _).mpr rfl⟩
/-! [e for k in d], d a dict: the element and the test look at the key alone -/
theorem d_lcK {tt : TT} {i j : Nat} {v : V} {kvs : List (Str × PyData)} {p : Str → Bool} {f : Str → PyData} (hv : σ[j]? = some (some v)) (hd : Rp K G (.dict (keysD kvs)) v) (hn : kvs.length < 100000)
    (hw : (wipe σ [i])[j]? = some (some v))
    (ht : ∀ k, k ∈ kvs.map (·.1) → ∀ G1, TrB tt ((wipe σ [i]).set i (some (V.str k))) G1 (p k))
    (he : ∀ k, k ∈ kvs.map (·.1) → ∀ G1, TrD K te ((wipe σ [i]).set i (some (V.str k))) G1 (f k)) :
    TrD K (tLockE (tLc (iKeys (tVar j)) (gName i) tt te [i])) σ G (.list (((kvs.map (·.1)).filter p).map f)) := fun G1 M H e A Q q => by
  obtain ⟨a, xs, rfl, k1, k2⟩ := hd.up e
  have hH := A.g _ _ k1
  refine ⟨a, .dK xs, hH, trivial, fun od => ?_⟩
  -- within: the dict is locked, all the rest of G stands
  have A0 : At (fun b => if b = a then none else G1 b) (upd M a (.frz od (.dK xs))) (upd H a (.frz od (.dK xs))) := by
    have hMa : M a = none := by
      cases z : M a with
      | none => rfl
      | some o =>
        rw [A.d _ _ z] at k1
        cases k1
    refine ⟨fun b o z => ?_, fun b o z => ?_, fun b o z => ?_⟩
    · by_cases hb : b = a
      · rw [if_pos hb] at z; cases z
      · rw [if_neg hb] at z
        rw [upd_ne hb]
        exact A.g _ _ z
    · by_cases hb : b = a
      · subst hb
        rw [upd_same] at z ⊢
        exact z
      · rw [upd_ne hb] at z ⊢
        exact A.m _ _ z
    · by_cases hb : b = a
      · exact if_pos hb
      · rw [if_neg hb]
        rw [upd_ne hb] at z
        exact A.d _ _ z
  have hMa : M a = none := by
    cases z : M a with
    | none => rfl
    | some o =>
      rw [A.d _ _ z] at k1
      cases k1
  generalize hM1 : upd M a (.frz od (.dK xs)) = M1 at A0
  generalize hG0 : (fun b => if b = a then none else G1 b : Hp) = G0 at A0
  have hMla : M1 a = some (.frz od (.dK xs)) := by rw [← hM1]; exact upd_same
  refine ⟨.ref a, hv, a, od, rfl, .inl ⟨xs, upd_same, fun D hD => ?_⟩⟩
  have hDa : D ≠ a := fun z => by
    subst z
    rw [upd_same] at hD
    cases hD
  have keys := k2.keys
  refine ⟨fun t m H3 => m = xs.length - t ∧ t ≤ xs.length ∧ ∃ Gj acc, Ex G0 Gj ∧ At Gj (upd M1 D (.lst acc)) H3 ∧ RpL K Gj ((((kvs.map (·.1)).take t).filter p).map f) acc, ⟨xs.length, by simp, Nat.zero_le _, G0, [], Ex.refl _, A0.nm hD, rfl⟩, ?_⟩
  rintro t m H3 ⟨rfl, ht', Gj, acc, ej, Aj, rj⟩
  have hfr : H3 a = some (.frz od (.dK xs)) := Aj.m _ _ (by rw [upd_ne hDa.symm]; exact hMla)
  by_cases hlt : t < xs.length
  · refine .inr ⟨⟨hfr, hlt⟩, fun H4 => ∃ Gj acc, Ex G0 Gj ∧ At Gj (upd M1 D (.lst acc)) H4 ∧ RpL K Gj ((((kvs.map (·.1)).take (t + 1)).filter p).map f) acc, fun H4 z => ⟨xs.length - (t + 1), by omega, rfl, hlt, z⟩, ?_⟩
    rintro x H4 ⟨rfl, k, w, hk, rfl⟩
    have hk2 : (xs.map (·.1))[t]? = some k := by rw [List.getElem?_map, hk]; rfl
    rw [keys, List.getElem?_map] at hk2
    obtain ⟨kk, hk3, rfl⟩ : ∃ kk, (kvs.map (·.1))[t]? = some kk ∧ k = Sum.inr kk := by
      cases z : (kvs.map (·.1))[t]? with
      | none => rw [z] at hk2; cases hk2
      | some kk => rw [z] at hk2; exact ⟨kk, rfl, (Option.some.inj hk2).symm⟩
    have hm := List.mem_of_getElem? hk3
    have htk : (kvs.map (·.1)).take (t + 1) = (kvs.map (·.1)).take t ++ [kk] := by rw [List.take_add_one, hk3]; rfl
    show wipe _ _ = wipe _ _ ∧ _
    refine ⟨wipe_set, ?_⟩
    refine ht kk hm Gj Gj _ H4 (Ex.refl _) Aj _ fun G4 H4 e4 A4 => ?_
    cases hp : p kk with
    | false =>
      refine ⟨G4, acc, ej.trans e4, A4, ?_⟩
      rw [htk, List.filter_append, List.filter_cons, hp]
      simpa using rj.up e4
    | true =>
      refine he kk hm G4 G4 _ H4 (Ex.refl _) A4 _ fun v5 G5 H5 e5 A5 r5 => ?_
      refine ⟨acc, A5.m _ _ upd_same, ?_, G5, acc ++ [v5], ej.trans (e4.trans e5), ?_, ?_⟩
      · rw [rj.len, List.length_map]
        refine sz_lt (Nat.lt_of_le_of_lt (Nat.le_trans (List.length_filter_le _ _) ?_) hn)
        rw [List.length_take, List.length_map]
        exact Nat.min_le_right _ _
      · have z := A5.wr (o := .lst (acc ++ [v5])) (upd_same (H := M1) (a := D) (o := .lst acc))
        rw [upd_upd] at z
        exact z
      · rw [htk, List.filter_append, List.filter_cons, hp, List.map_append]
        exact (rj.up (e4.trans e5)).snoc r5
  · have e1 : t = xs.length := by omega
    subst e1
    have hl2 : (kvs.map (·.1)).take xs.length = kvs.map (·.1) := by
      have z := congrArg List.length keys
      simp only [List.length_map] at z
      rw [z]
      exact List.take_of_length_le (by rw [List.length_map]; exact Nat.le_refl _)
    rw [hl2] at rj
    refine .inl ⟨⟨hfr, Nat.le_refl _⟩, hfr, ?_⟩
    have hDM : M D = none := by
      have z := hD
      rw [upd_ne hDa] at z
      exact A.mNone z
    have hGD : G1 D = none := by
      have z := hD
      rw [upd_ne hDa] at z
      exact A.gNone z
    have hGjD : Gj D = none := Aj.d _ _ upd_same
    have hGja : Gj a = none := Aj.d _ _ (by rw [upd_ne hDa.symm]; exact hMla)
    -- behind: the dict and the new list belong to G again
    refine q (.ref D) (upd (upd Gj a (.dK xs)) D (.lst acc)) _ (fun b o z => ?_) ⟨fun b o z => ?_, fun b o z => ?_, fun b o z => ?_⟩ ⟨D, acc, rfl, upd_same, rj.up (Ex.trans (Ex.new hGja) (Ex.new (none_upd hGjD hDa)))⟩
    · have hb : b ≠ D := fun y => by
        subst y
        rw [hGD] at z
        cases z
      rw [upd_ne hb]
      by_cases ha : b = a
      · subst ha
        rw [upd_same]
        rw [k1] at z
        exact z
      · rw [upd_ne ha]
        refine ej _ _ ?_
        rw [← hG0]
        show (if b = a then none else G1 b) = some o
        rw [if_neg ha]
        exact z
    · by_cases hb : b = D
      · subst hb
        rw [upd_same] at z
        rw [upd_ne hDa]
        cases z
        exact Aj.m _ _ upd_same
      · rw [upd_ne hb] at z
        by_cases ha : b = a
        · subst ha
          rw [upd_same] at z ⊢
          exact z
        · rw [upd_ne ha] at z ⊢
          exact Aj.g _ _ z
    · have hb : b ≠ a := fun y => by
        subst y
        rw [hMa] at z
        cases z
      have hb2 : b ≠ D := fun y => by
        subst y
        rw [hDM] at z
        cases z
      rw [upd_ne hb]
      refine Aj.m _ _ ?_
      rw [upd_ne hb2, ← hM1, upd_ne hb]
      exact z
    · have hb : b ≠ a := fun y => by
        subst y
        rw [hMa] at z
        cases z
      have hb2 : b ≠ D := fun y => by
        subst y
        rw [hDM] at z
        cases z
      rw [upd_ne hb2, upd_ne hb]
      refine Aj.d b o ?_
      rw [upd_ne hb2, ← hM1, upd_ne hb]
      exact z
end
end Sb

namespace Sb
open PySem PySem.Spec PyProof.Rows L2
section
variable {K : PySem.W.Frag} {σ : L2.St} {G G' M H : Hp} {ta tb te : TE} {d d1 d2 d3 : PyData} {tt t u : TT} {ts : TA} {ds es : List PyData} {Q : VK} {D : Ends} {s1 s2 : TS} {i j : Nat}
/-! ### statements over what is still written -/
theorem s_setK (h : TrD K (tLockE te) σ G d) (A : At G M H) (k : ∀ v G' H', Ex G G' → At G' M H' → Rp K G' d v → D.nx (σ.set i (some v)) H') : tLock (tAsg te (gName i)) D σ H := w_D h A k
theorem s_drop (h : TrD K te σ G d) (A : At G M H) (k : ∀ G' H', Ex G G' → At G' M H' → D.nx σ H') : tDrop te D σ H := w_D h A fun _ G' H' e A' _ => k G' H' e A'
/-- x = [..]: the new list is still to be written -/
theorem s_newL (h : TrA K ts σ G ds) (hn : ds.length ≤ 100000) (A : At G M H) (k : ∀ p xs G' H', Ex G G' → M p = none → G' p = none → At G' (upd M p (.lst xs)) H' → RpL K G' ds xs → D.nx (σ.set i (some (.ref p))) H') : tAsg (tLst ts) (gName i) D σ H := by
  refine w_A h A fun xs G2 H2 e2 A2 r => ?_
  exact ⟨by rw [r.len]; exact sz_of hn, fun p hp => k p xs G2 _ e2 (A2.mNone hp) (A2.gNone hp) (A2.nm hp) r⟩
theorem s_newD (A : At G M H) (k : ∀ p H', M p = none → G p = none → At G (upd M p (.dK [])) H' → D.nx (σ.set i (some (.ref p))) H') : tAsg tDNewK (gName i) D σ H := fun p hp => k p _ (A.mNone hp) (A.gNone hp) (A.nm hp)
theorem s_append {p : Addr} {xs : List V} (hi : σ[i]? = some (some (.ref p))) (hp : M p = some (.lst xs)) (h : TrD K te σ G d) (hn : xs.length < 100000) (A : At G M H)
    (k : ∀ v G' H', Ex G G' → At G' (upd M p (.lst (xs ++ [v]))) H' → Rp K G' d v → D.nx σ H') : tDrop (tBM K "list" rAppend (tVar i) (tCons te tNil)) D σ H := by
  refine ⟨.ref p, hi, Or.inl ⟨rfl, _, Or.inl (Or.inl (A.m _ _ hp))⟩, ?_⟩
  refine w_D h A fun v G2 H2 e2 A2 r => ?_
  exact ⟨p, xs, v, rfl, rfl, A2.m _ _ hp, sz_lt hn, k v G2 _ e2 (A2.wr hp) r⟩
/-- what is no longer written becomes data -/
theorem At.done {p : Addr} {xs : List V} (A : At G (upd M p (.lst xs)) H) (hM : M p = none) (r : RpL K G ds xs) : ∃ G', Ex G G' ∧ At G' M H ∧ Rp K G' (.list ds) (.ref p) :=
  have hm := upd_same (H := M) (a := p) (o := HO.lst xs)
  ⟨_, A.frzG hm, A.frz hm (Ex.new hM) hM, p, xs, rfl, upd_same, r.up (A.frzG hm)⟩
/-! ### loops that write nothing but their own names -/
theorem s_forE {tb : TS} (h : TrD K te σ G (.list ds)) (A : At G M H) (hs0 : ∃ a b, σ = (σ.set i a).set j b) (hij : i ≠ j)
    (hb : ∀ (k : Nat) d, ds[k]? = some d → ∀ x G1 H1, Ex G G1 → At G1 M H1 → Rp K G1 d x → ∀ Nx : L2.St → Hp → Prop, (∀ G2 H2, Ex G1 G2 → At G2 M H2 → Nx ((σ.set i (some (.int k))).set j (some x)) H2) →
      tb { D with nx := Nx, ct := Nx, bk := D.nx } ((σ.set i (some (.int k))).set j (some x)) H1)
    (hd : ∀ a b G1 H1, Ex G G1 → At G1 M H1 → D.nx ((σ.set i a).set j b) H1) :
    tFor (iEnum K (tCons te tNil)) (gTup K 2 (gCons (gName i) (gCons (gName j) gNil))) tb D σ H := by
  refine w_D h A fun v G2 H2 e2 A2 r => ?_
  obtain ⟨a, xs, rfl, k1, k2⟩ := r
  refine ⟨a, xs, rfl, SqL.of (A2.g _ _ k1), ?_⟩
  obtain ⟨a0, b0, h0⟩ := hs0
  refine ⟨fun t m σ' H' => m = xs.length - t ∧ t ≤ xs.length ∧ ∃ G3 a b, Ex G2 G3 ∧ At G3 M H' ∧ σ' = (σ.set i a).set j b, ⟨xs.length, by simp, Nat.zero_le _, G2, a0, b0, Ex.refl _, A2, h0⟩, ?_⟩
  rintro t m σ' H' ⟨rfl, ht, G3, a', b', e3, A3, rfl⟩
  have hsq : SqL K H' a xs := SqL.of (A3.g _ _ (e3 _ _ k1))
  by_cases hlt : t < xs.length
  · have hx : xs[t]? = some xs[t] := List.getElem?_eq_getElem hlt
    obtain ⟨d, hd1, rd⟩ := k2.get hx
    refine .inr ⟨⟨xs, xs[t], hsq, hx⟩, fun σ' H' => ∃ G3 a b, Ex G2 G3 ∧ At G3 M H' ∧ σ' = (σ.set i a).set j b, fun σ2 H3 z => ⟨xs.length - (t + 1), by omega, rfl, hlt, z⟩, ?_⟩
    rintro x H4 ⟨T, y, rfl, hT, rfl, hy⟩
    have ey : y = xs[t] := Option.some.inj ((hy xs hsq).symm.trans hx)
    subst ey
    have A4 := A3.ng (o := HO.tup [.int t, xs[t]]) hT
    have e4 : Ex G3 (upd G3 T (.tup [.int t, xs[t]])) := Ex.new (A3.gNone hT)
    refine ⟨T, [.int t, xs[t]], rfl, SqT.of upd_same, rfl, .int t, [xs[t]], rfl, xs[t], [], rfl, rfl, ?_⟩
    have es : (((σ.set i a').set j b').set i (some (V.int t))).set j (some xs[t]) = (σ.set i (some (V.int t))).set j (some xs[t]) := by
      rw [List.set_comm _ _ hij.symm, List.set_set, List.set_set]
    rw [es]
    refine hb t d hd1 _ _ _ ((e2.trans e3).trans e4) A4 (rd.up (e3.trans e4)) _ fun G5 H5 e5 A5 => ?_
    exact ⟨G5, _, _, (e3.trans e4).trans e5, A5, rfl⟩
  · refine .inl ⟨⟨xs, hsq, by omega⟩, ?_⟩
    exact hd a' b' G3 H' (e2.trans e3) A3
/-! ### a statement and what follows it -/
theorem q_set (h : TrD K te σ G d) (A : At G M H) (k : ∀ v G' H', Ex G G' → At G' M H' → Rp K G' d v → s2 D (σ.set i (some v)) H') : tSeq (tAsg te (gName i)) s2 D σ H := s_set h A k
theorem q_setK (h : TrD K (tLockE te) σ G d) (A : At G M H) (k : ∀ v G' H', Ex G G' → At G' M H' → Rp K G' d v → s2 D (σ.set i (some v)) H') : tSeq (tLock (tAsg te (gName i))) s2 D σ H := s_setK h A k
theorem q_drop (h : TrD K te σ G d) (A : At G M H) (k : ∀ G' H', Ex G G' → At G' M H' → s2 D σ H') : tSeq (tDrop te) s2 D σ H := s_drop h A k
theorem q_guardF {tc : TT} (h : TrB tc σ G false) (A : At G M H) (k : ∀ G' H', Ex G G' → At G' M H' → s2 D σ H') : tSeq (tIfS tc s1 tNext) s2 D σ H := s_ifF h A k
theorem q_guardT {tc : TT} {s3 : TS} (h : TrB tc σ G true) (A : At G M H) (k : ∀ G' H', Ex G G' → At G' M H' → s1 { D with nx := s2 D } σ H') : tSeq (tIfS tc s1 s3) s2 D σ H := s_ifT h A k
theorem q_guardR {tc : TT} (h : TrB tc σ G true) (A : At G M H) (k : ∀ G' H', Ex G G' → At G' M H' → tRet te D σ H') : tSeq (tIfS tc (tRet te) tNext) s2 D σ H := s_ifT h A k
theorem q_guardO {tc : TT} {s3 : TS} (h : TrB tc σ G false) (A : At G M H) (k : ∀ G' H', Ex G G' → At G' M H' → s3 { D with nx := s2 D } σ H') : tSeq (tIfS tc s1 s3) s2 D σ H := s_ifF h A k
theorem q_unpack {n : Nat} {g : TGs} (h : TrD K te σ G (.tuple ds)) (hn : ds.length = n) (A : At G M H) (k : ∀ xs G' H', Ex G G' → At G' M H' → RpL K G' ds xs → g xs σ H' (s2 D)) : tSeq (tAsg te (gTup K n g)) s2 D σ H :=
  w_D h A fun v G2 H2 e2 A2 r => g_tup A2 r hn fun xs rx => k xs G2 H2 e2 A2 rx
theorem q_newL (h : TrA K ts σ G ds) (hn : ds.length ≤ 100000) (A : At G M H) (k : ∀ p xs G' H', Ex G G' → M p = none → G' p = none → At G' (upd M p (.lst xs)) H' → RpL K G' ds xs → s2 D (σ.set i (some (.ref p))) H') : tSeq (tAsg (tLst ts) (gName i)) s2 D σ H := s_newL h hn A k
theorem q_newD (A : At G M H) (k : ∀ p H', M p = none → G p = none → At G (upd M p (.dK [])) H' → s2 D (σ.set i (some (.ref p))) H') : tSeq (tAsg tDNewK (gName i)) s2 D σ H := s_newD A k
theorem q_append {p : Addr} {xs : List V} (hi : σ[i]? = some (some (.ref p))) (hp : M p = some (.lst xs)) (h : TrD K te σ G d) (hn : xs.length < 100000) (A : At G M H)
    (k : ∀ v G' H', Ex G G' → At G' (upd M p (.lst (xs ++ [v]))) H' → Rp K G' d v → s2 D σ H') : tSeq (tDrop (tBM K "list" rAppend (tVar i) (tCons te tNil))) s2 D σ H := s_append hi hp h hn A k
theorem q_forE {tb : TS} (h : TrD K te σ G (.list ds)) (A : At G M H) (hs0 : ∃ a b, σ = (σ.set i a).set j b) (hij : i ≠ j)
    (hb : ∀ (k : Nat) d, ds[k]? = some d → ∀ x G1 H1, Ex G G1 → At G1 M H1 → Rp K G1 d x → ∀ Nx : L2.St → Hp → Prop, (∀ G2 H2, Ex G1 G2 → At G2 M H2 → Nx ((σ.set i (some (.int k))).set j (some x)) H2) →
      tb { D with nx := Nx, ct := Nx, bk := s2 D } ((σ.set i (some (.int k))).set j (some x)) H1)
    (hd : ∀ a b G1 H1, Ex G G1 → At G1 M H1 → s2 D ((σ.set i a).set j b) H1) :
    tSeq (tFor (iEnum K (tCons te tNil)) (gTup K 2 (gCons (gName i) (gCons (gName j) gNil))) tb) s2 D σ H := s_forE h A hs0 hij hb hd
/-! ### more data -/
theorem d_newD : TrD K tDNewK σ G (.dict (keysD [])) := fun G1 M H e A Q q p hp => q.newG A hp ⟨p, [], rfl, upd_same, rfl⟩
theorem keysD_len (kvs : List (Str × PyData)) : (keysD kvs).length = kvs.length := by simp [keysD]
theorem rd_eqE {kvs : List (Str × PyData)} : RD K rEqE (.dict (keysD kvs)) (.dict (keysD [])) (.bool kvs.isEmpty) := fun G M H x y A ⟨a, xs, h1, h2, h3⟩ ⟨b, ys, k1, k2, k3⟩ Q q => by
  refine ⟨a, b, xs, h1, k1, A.g _ _ h2, ?_, q.here A ?_⟩
  · have e : ys = [] := k3
    subst e
    exact A.g _ _ k2
  · show V.bl _ = V.bl _
    have z := h3.len
    rw [keysD_len] at z
    cases xs with
    | nil =>
      cases kvs with
      | nil => rfl
      | cons _ _ => simp at z
    | cons _ _ =>
      cases kvs with
      | nil => simp at z
      | cons _ _ => rfl
theorem v_call1 {R : List PyData → PyData → Prop} {E : XK} (h : TrD K ta σ G d1) (hr : R [d1] d) : TrD K (tCall (PSp K R) [] E (tCons ta tNil)) σ G d := d_call0 (a_cons h a_nil) hr
theorem filt_true {α : Type} (l : List α) : l.filter (fun _ => true) = l := List.filter_eq_self.mpr fun _ _ => rfl
theorem eqv_nil (ds : List PyData) : PyData.eqv (.list ds) (.list []) = ds.isEmpty := by
  cases ds <;> simp [PyData.eqv, PyData.eqvAll]
theorem eqv_nilT (ds : List PyData) : PyData.eqv (.tuple ds) (.tuple []) = ds.isEmpty := by
  cases ds <;> simp [PyData.eqv, PyData.eqvAll]
theorem shaped_ints (ns : List Int) : SeqAt.shaped (.tuple (dInts ns)) = true := by
  have h1 : ∀ ns : List Int, PyData.canLayAll0 (dInts ns) = true := fun ns => by
    induction ns with
    | nil => simp [dInts, PyData.canLayAll0]
    | cons n ns ih =>
      show PyData.canLayAll0 (.int n :: dInts ns) = true
      simp only [PyData.canLayAll0, PyData.canLay0, Bool.true_and]
      exact ih
  have h2 : ∀ ns : List Int, PyData.depthAll (dInts ns) = 0 := fun ns => by
    induction ns with
    | nil => simp [dInts, PyData.depthAll]
    | cons n ns ih =>
      show PyData.depthAll (.int n :: dInts ns) = 0
      simp only [PyData.depthAll, PyData.depth, Nat.zero_max]
      exact ih
  unfold SeqAt.shaped
  simp [PyData.canLay0, PyData.depth, h1, h2]
end
end Sb

namespace Sb
open PySem PySem.Spec PyProof.Rows L2
section
variable {K : PySem.W.Frag} {σ : L2.St} {G G' M H : Hp} {ta tb te td ty : TE} {d d1 d2 d3 : PyData} {tt t u : TT} {ts : TA} {ds es : List PyData} {Q : VK} {D : Ends} {s1 s2 tbd : TS} {i j : Nat} {p : Addr} {o : HO}
/-! ### a cell that is still written, looked at as data -/
def cutG (G : Hp) (p : Addr) : Hp := fun b => if b = p then none else G b
theorem At.fz (A : At G (upd M p o) H) (hM : M p = none) : At (upd G p o) M H := A.frz upd_same (Ex.new hM) hM
theorem At.thaw {G1 : Hp} (e : Ex (upd G p o) G1) (hG : G p = none) (hM : M p = none) (A : At G1 M H) : Ex G (cutG G1 p) ∧ At (cutG G1 p) (upd M p o) H := by
  have hp : G1 p = some o := e _ _ upd_same
  refine ⟨fun b u z => ?_, fun b u z => ?_, fun b u z => ?_, fun b u z => ?_⟩
  · have hb : b ≠ p := fun y => by
      subst y
      rw [hG] at z
      cases z
    show (if b = p then none else G1 b) = some u
    rw [if_neg hb]
    exact e _ _ (by rw [upd_ne hb]; exact z)
  · have z' : (if b = p then none else G1 b) = some u := z
    by_cases hb : b = p
    · rw [if_pos hb] at z'
      cases z'
    · rw [if_neg hb] at z'
      exact A.g _ _ z'
  · by_cases hb : b = p
    · subst hb
      rw [upd_same] at z
      cases z
      exact A.g _ _ hp
    · rw [upd_ne hb] at z
      exact A.m _ _ z
  · show (if b = p then none else G1 b) = none
    by_cases hb : b = p
    · exact if_pos hb
    · rw [if_neg hb]
      rw [upd_ne hb] at z
      exact A.d _ _ z
theorem rp_any {G1 G2 : Hp} {v : V} (hf : isFlat d = true) (h : Rp K G1 d v) : Rp K G2 d v := by
  cases d with
  | none => exact h
  | bool b => exact h
  | int b => exact h
  | str b => exact h
  | list ds => cases hf
  | dict ds => cases hf
  | tuple ds => cases hf
theorem w_Dfz (h : TrD K te σ (upd G p o) d) (hf : isFlat d = true) (hG : G p = none) (hM : M p = none) (A : At G (upd M p o) H) (k : Res K G (upd M p o) d Q) : te σ H Q := by
  refine w_D h (A.fz hM) fun v G1 H1 e1 A1 r1 => ?_
  obtain ⟨e2, A2⟩ := At.thaw e1 hG hM A1
  exact k v _ H1 e2 A2 (rp_any hf r1)
theorem w_Bfz {b : Bool} {Q : Bool → Hp → Prop} (h : TrB t σ (upd G p o) b) (hG : G p = none) (hM : M p = none) (A : At G (upd M p o) H) (k : ∀ G' H', Ex G G' → At G' (upd M p o) H' → Q b H') : t σ H Q := by
  refine w_B h (A.fz hM) fun G1 H1 e1 A1 => ?_
  obtain ⟨e2, A2⟩ := At.thaw e1 hG hM A1
  exact k _ H1 e2 A2
theorem q_guardFfz (h : TrB t σ (upd G p o) false) (hG : G p = none) (hM : M p = none) (A : At G (upd M p o) H) (k : ∀ G' H', Ex G G' → At G' (upd M p o) H' → s2 D σ H') : tSeq (tIfS t s1 tNext) s2 D σ H :=
  w_Bfz (Q := fun b H1 => if b = true then s1 { D with nx := s2 D } σ H1 else tNext { D with nx := s2 D } σ H1) h hG hM A k
/-! ### dicts that are written -/
theorem RpD.snoc : ∀ {ds : List (PyData × PyData)} {es : List (Key × V)} {k d : PyData} {x : Key} {v : V}, RpD K G ds es → kD x = k → Rp K G d v → RpD K G (ds ++ [(k, d)]) (es ++ [(x, v)])
  | [], es, k, d, x, v, h, hk, r => by
    rw [show es = [] from h]
    exact ⟨x, v, [], rfl, hk, r, rfl⟩
  | (k', d') :: ds, _, k, d, x, v, ⟨x', y', t, h1, h2, h3, h4⟩, hk, r => by
    rw [h1]
    exact ⟨x', y', _, rfl, h2, h3, h4.snoc hk r⟩
theorem s_dput {es : List (Key × V)} {x : Str} (hi : σ[i]? = some (some (.ref p))) (hp : M p = some (.dK es)) (hv : TrD K te σ G d) (hx : TrD K ty σ G (.str x)) (hn : es.length < 100000) (A : At G M H)
    (k : ∀ v G' H', Ex G G' → At G' (upd M p (.dK (putK es (Sum.inr x) v))) H' → Rp K G' d v → D.nx σ H') : sDPut (tVar i) ty te D σ H := by
  refine w_D hv A fun v G1 H1 e1 A1 r1 => ⟨.ref p, hi, ?_⟩
  refine w_D (hx.up e1) A1 fun y G2 H2 e2 A2 r2 => ?_
  refine ⟨p, _, rfl, ?_, k v G2 _ (e1.trans e2) (A2.wr hp) (r1.up e2)⟩
  rw [show y = kV (Sum.inr x) from r2]
  exact DPut.k (A2.m _ _ hp) (sz_lt hn)
/-! ### loops by an invariant over slots, G and M -/
theorem s_forEI (Inv : Nat → L2.St → Hp → Hp → Prop) (h : TrD K te σ G (.list ds)) (A : At G M H) (mono : ∀ {k : Nat} {σ1 : L2.St} {G1 G2 M1 : Hp}, Ex G1 G2 → Inv k σ1 G1 M1 → Inv k σ1 G2 M1)
    (h0 : Inv 0 σ G M)
    (hb : ∀ (k : Nat) d, ds[k]? = some d → ∀ x σ1 G1 M1 H1, Ex G G1 → At G1 M1 H1 → Inv k σ1 G1 M1 → Rp K G1 d x → ∀ Nx : L2.St → Hp → Prop, (∀ σ2 G2 M2 H2, Ex G1 G2 → At G2 M2 H2 → Inv (k + 1) σ2 G2 M2 → Nx σ2 H2) →
      tbd { D with nx := Nx, ct := Nx, bk := D.nx } ((σ1.set i (some (.int k))).set j (some x)) H1)
    (hd : ∀ σ1 G1 M1 H1, Ex G G1 → At G1 M1 H1 → Inv ds.length σ1 G1 M1 → D.nx σ1 H1) :
    tFor (iEnum K (tCons te tNil)) (gTup K 2 (gCons (gName i) (gCons (gName j) gNil))) tbd D σ H := by
  refine w_D h A fun v G2 H2 e2 A2 r => ?_
  obtain ⟨a, xs, rfl, k1, k2⟩ := r
  refine ⟨a, xs, rfl, SqL.of (A2.g _ _ k1), ?_⟩
  refine ⟨fun t m σ' H' => m = xs.length - t ∧ t ≤ xs.length ∧ ∃ G3 M3, Ex G2 G3 ∧ At G3 M3 H' ∧ Inv t σ' G3 M3, ⟨xs.length, by simp, Nat.zero_le _, G2, M, Ex.refl _, A2, mono e2 h0⟩, ?_⟩
  rintro t m σ' H' ⟨rfl, ht, G3, M3, e3, A3, hI⟩
  have hsq : SqL K H' a xs := SqL.of (A3.g _ _ (e3 _ _ k1))
  by_cases hlt : t < xs.length
  · have hx : xs[t]? = some xs[t] := List.getElem?_eq_getElem hlt
    obtain ⟨d, hd1, rd⟩ := k2.get hx
    refine .inr ⟨⟨xs, xs[t], hsq, hx⟩, fun σ' H' => ∃ G3 M3, Ex G2 G3 ∧ At G3 M3 H' ∧ Inv (t + 1) σ' G3 M3, fun σ2 H3 z => ⟨xs.length - (t + 1), by omega, rfl, hlt, z⟩, ?_⟩
    rintro x H4 ⟨T, y, rfl, hT, rfl, hy⟩
    have ey : y = xs[t] := Option.some.inj ((hy xs hsq).symm.trans hx)
    subst ey
    have A4 := A3.ng (o := HO.tup [.int t, xs[t]]) hT
    have e4 : Ex G3 (upd G3 T (.tup [.int t, xs[t]])) := Ex.new (A3.gNone hT)
    refine ⟨T, [.int t, xs[t]], rfl, SqT.of upd_same, rfl, .int t, [xs[t]], rfl, xs[t], [], rfl, rfl, ?_⟩
    refine hb t d hd1 _ _ _ _ _ ((e2.trans e3).trans e4) A4 (mono e4 hI) (rd.up (e3.trans e4)) _ fun σ5 G5 M5 H5 e5 A5 i5 => ?_
    exact ⟨G5, M5, (e3.trans e4).trans e5, A5, i5⟩
  · have et : t = ds.length := by have := k2.len; omega
    subst et
    refine .inl ⟨⟨xs, hsq, by omega⟩, ?_⟩
    exact hd σ' G3 M3 H' (e2.trans e3) A3 hI
theorem s_forLI (Inv : Nat → L2.St → Hp → Hp → Prop) (h : TrD K te σ G (.list ds)) (A : At G M H) (mono : ∀ {k : Nat} {σ1 : L2.St} {G1 G2 M1 : Hp}, Ex G1 G2 → Inv k σ1 G1 M1 → Inv k σ1 G2 M1)
    (h0 : Inv 0 σ G M)
    (hb : ∀ (k : Nat) d, ds[k]? = some d → ∀ x σ1 G1 M1 H1, Ex G G1 → At G1 M1 H1 → Inv k σ1 G1 M1 → Rp K G1 d x → ∀ Nx : L2.St → Hp → Prop, (∀ σ2 G2 M2 H2, Ex G1 G2 → At G2 M2 H2 → Inv (k + 1) σ2 G2 M2 → Nx σ2 H2) →
      tbd { D with nx := Nx, ct := Nx, bk := D.nx } (σ1.set i (some x)) H1)
    (hd : ∀ σ1 G1 M1 H1, Ex G G1 → At G1 M1 H1 → Inv ds.length σ1 G1 M1 → D.nx σ1 H1) :
    tFor (iList K te) (gName i) tbd D σ H := by
  refine w_D h A fun v G2 H2 e2 A2 r => ?_
  obtain ⟨a, xs, rfl, k1, k2⟩ := r
  refine ⟨a, rfl, ⟨xs, SqL.of (A2.g _ _ k1)⟩, ?_⟩
  refine for_list (K := K) (a := a) (xs := xs) (fun t σ' H' => ∃ G3 M3, Ex G2 G3 ∧ At G3 M3 H' ∧ Inv t σ' G3 M3) ⟨G2, M, Ex.refl _, A2, mono e2 h0⟩ ?_ ?_ ?_
  · rintro t σ' H' _ ⟨G3, M3, e3, A3, _⟩
    exact SqL.of (A3.g _ _ (e3 _ _ k1))
  · rintro t x σ' H' hx ⟨G3, M3, e3, A3, hI⟩
    obtain ⟨d, hd1, rd⟩ := k2.get hx
    exact hb t d hd1 _ _ _ _ _ (e2.trans e3) A3 hI (rd.up e3) _ fun σ5 G5 M5 H5 e5 A5 i5 => ⟨G5, M5, e3.trans e5, A5, i5⟩
  · rintro σ' H' ⟨G3, M3, e3, A3, hI⟩
    rw [k2.len] at hI
    exact hd σ' G3 M3 H' (e2.trans e3) A3 hI
theorem s_forRI (Inv : Nat → L2.St → Hp → Hp → Prop) {n : Int} (h : TrD K te σ G (.int n)) (hn : n < 2 ^ 62) (hn0 : -(2 ^ 62) ≤ n) (A : At G M H) (mono : ∀ {k : Nat} {σ1 : L2.St} {G1 G2 M1 : Hp}, Ex G1 G2 → Inv k σ1 G1 M1 → Inv k σ1 G2 M1)
    (h0 : Inv 0 σ G M)
    (hb : ∀ (k : Nat), (k : Int) < n → ∀ σ1 G1 M1 H1, Ex G G1 → At G1 M1 H1 → Inv k σ1 G1 M1 → ∀ Nx : L2.St → Hp → Prop, (∀ σ2 G2 M2 H2, Ex G1 G2 → At G2 M2 H2 → Inv (k + 1) σ2 G2 M2 → Nx σ2 H2) →
      tbd { D with nx := Nx, ct := Nx, bk := D.nx } (σ1.set i (some (.int k))) H1)
    (hd : ∀ σ1 G1 M1 H1, Ex G G1 → At G1 M1 H1 → Inv n.toNat σ1 G1 M1 → D.nx σ1 H1) :
    tFor (iRng1 (tCons te tNil)) (gName i) tbd D σ H := by
  refine w_D h A fun v G2 H2 e2 A2 r => ?_
  refine ⟨n, by rw [show v = V.int n from r], hn0, hn, ?_⟩
  refine for_range (lo := 0) (n := n.toNat) (fun t σ' H' => ∃ G3 M3, Ex G2 G3 ∧ At G3 M3 H' ∧ Inv t σ' G3 M3) ⟨G2, M, Ex.refl _, A2, mono e2 h0⟩ ?_ ?_
  · rintro t σ' H' hx ⟨G3, M3, e3, A3, hI⟩
    rw [Int.zero_add]
    exact hb t (by omega) _ _ _ _ (e2.trans e3) A3 hI _ fun σ5 G5 M5 H5 e5 A5 i5 => ⟨G5, M5, e3.trans e5, A5, i5⟩
  · rintro σ' H' ⟨G3, M3, e3, A3, hI⟩
    exact hd σ' G3 M3 H' (e2.trans e3) A3 hI
/-! ### dict comprehensions over data -/
theorem d_dcL {tl tk tv : TE} {p : PyData → Bool} {kf : PyData → Str} {f : PyData → PyData} (hl : TrD K te σ G (.list ds)) (hn : ds.length < 100000) (hnd : ((ds.filter p).map kf).Nodup)
    (ht : ∀ d ∈ ds, ∀ x G1, Ex G G1 → Rp K G1 d x → TrB tt ((wipe σ [i]).set i (some x)) G1 (p d))
    (hk : ∀ d ∈ ds, p d = true → ∀ x G1, Ex G G1 → Rp K G1 d x → TrD K tk ((wipe σ [i]).set i (some x)) G1 (.str (kf d)))
    (he : ∀ d ∈ ds, p d = true → ∀ x G1, Ex G G1 → Rp K G1 d x → TrD K tv ((wipe σ [i]).set i (some x)) G1 (f d)) :
    TrD K (tDc (iList K te) (gName i) tt tk tv [i]) σ G (.dict (keysD ((ds.filter p).map fun d => (kf d, f d)))) := fun G1 M H e A Q q => by
  refine hl G1 M H e A _ fun v G2 H2 e2 A2 r => ?_
  obtain ⟨a, xs, rfl, hs, hx⟩ := r
  refine ⟨a, rfl, ⟨xs, SqL.of (A2.g _ _ hs)⟩, fun D hD => ?_⟩
  refine ⟨fun t m H3 => m = xs.length - t ∧ t ≤ xs.length ∧ ∃ Gj acc, Ex G2 Gj ∧ At Gj (upd M D (.dK acc)) H3 ∧ RpD K Gj (keysD (((ds.take t).filter p).map fun d => (kf d, f d))) acc, ⟨xs.length, by simp, Nat.zero_le _, G2, [], Ex.refl _, A2.nm hD, rfl⟩, ?_⟩
  rintro t m H3 ⟨rfl, ht', Gj, acc, ej, Aj, rj⟩
  have hsq : SqL K H3 a xs := SqL.of (Aj.g _ _ (ej _ _ hs))
  by_cases hlt : t < xs.length
  · have hxt : xs[t]? = some xs[t] := List.getElem?_eq_getElem hlt
    obtain ⟨d, hd, rd⟩ := hx.get hxt
    have hm : d ∈ ds := List.mem_of_getElem? hd
    have htk : ds.take (t + 1) = ds.take t ++ [d] := by rw [List.take_add_one, hd]; rfl
    refine .inr ⟨⟨xs, xs[t], hsq, hxt⟩, fun H4 => ∃ Gj acc, Ex G2 Gj ∧ At Gj (upd M D (.dK acc)) H4 ∧ RpD K Gj (keysD (((ds.take (t + 1)).filter p).map fun d => (kf d, f d))) acc, fun H4 z => ⟨xs.length - (t + 1), by omega, rfl, hlt, z⟩, ?_⟩
    rintro y H4 ⟨e4', hy⟩
    subst e4'
    have ey : y = xs[t] := Option.some.inj ((hy xs hsq).symm.trans hxt)
    subst ey
    show wipe _ _ = wipe _ _ ∧ _
    refine ⟨wipe_set, ?_⟩
    refine ht d hm _ Gj ((e.trans e2).trans ej) (rd.up ej) Gj _ _ (Ex.refl _) Aj _ fun G4 H4 e4 A4 => ?_
    cases hp : p d with
    | false =>
      refine ⟨G4, acc, ej.trans e4, A4, ?_⟩
      rw [htk, List.filter_append, List.filter_cons, hp]
      simpa using rj.up e4
    | true =>
      refine hk d hm hp _ G4 ((e.trans e2).trans (ej.trans e4)) (rd.up (ej.trans e4)) G4 _ H4 (Ex.refl _) A4 _ fun v5 G5 H5 e5 A5 r5 => ?_
      refine he d hm hp _ G5 ((e.trans e2).trans ((ej.trans e4).trans e5)) (rd.up ((ej.trans e4).trans e5)) G5 _ H5 (Ex.refl _) A5 _ fun v6 G6 H6 e6 A6 r6 => ?_
      have hln : acc.length < 100000 := by
        rw [rj.len, keysD_len, List.length_map]
        refine Nat.lt_of_le_of_lt (Nat.le_trans (List.length_filter_le _ _) ?_) hn
        rw [List.length_take]
        exact Nat.min_le_right _ _
      have hfresh : valV acc (Sum.inr (kf d)) = none := by
        refine (RpD.val (x := kf d) rj).2 ?_
        unfold lookD
        rw [Option.map_eq_none_iff, List.find?_eq_none]
        intro q hq hqd
        obtain ⟨d2, hd2, rfl⟩ := List.mem_map.mp hq
        have hqe : kf d2 = kf d := of_decide_eq_true hqd
        have split : (ds.filter p).map kf = ((ds.take t).filter p).map kf ++ kf d :: ((ds.drop (t + 1)).filter p).map kf := by
          have e1 : ds = ds.take t ++ d :: ds.drop (t + 1) := by
            have z := List.take_append_drop (t + 1) ds
            rw [htk, List.append_assoc] at z
            exact z.symm
          conv => lhs; rw [e1]
          rw [List.filter_append, List.filter_cons, if_pos hp, List.map_append, List.map_cons]
        rw [split] at hnd
        have z := (List.nodup_append.mp hnd).2.2 (kf d2) (List.mem_map.mpr ⟨d2, hd2, rfl⟩) (kf d) (List.mem_cons_self ..)
        exact z hqe
      refine ⟨acc, Sum.inr (kf d), r5, A6.m _ _ upd_same, sz_lt hln, G6, acc ++ [(Sum.inr (kf d), v6)], ((ej.trans e4).trans e5).trans e6, ?_, ?_⟩
      · have z := A6.wr (o := .dK (putK acc (Sum.inr (kf d)) v6)) (upd_same (H := M) (a := D) (o := .dK acc))
        rw [upd_upd, putK_new _ hfresh] at z
        rw [putK_new _ hfresh]
        exact z
      · rw [htk, List.filter_append, List.filter_cons, hp, List.map_append]
        unfold keysD
        rw [List.map_append]
        exact (rj.up ((e4.trans e5).trans e6)).snoc rfl r6
  · have e1 : t = xs.length := by omega
    subst e1
    have hl2 : ds.take xs.length = ds := by rw [hx.len, List.take_length]
    rw [hl2] at rj
    have hM : M D = none := A2.mNone hD
    have hm := upd_same (H := M) (a := D) (o := HO.dK acc)
    exact .inl ⟨⟨xs, hsq, Nat.le_refl _⟩, q _ _ _ ((e2.trans ej).trans (Aj.frzG hm)) (Aj.frz hm (Ex.new hM) hM) ⟨D, acc, rfl, upd_same, rj.up (Aj.frzG hm)⟩⟩
/-- a dict that is no longer written -/
theorem At.doneD {es : List (Key × V)} {kvs : List (PyData × PyData)} (A : At G (upd M p (.dK es)) H) (hM : M p = none) (r : RpD K G kvs es) : ∃ G', Ex G G' ∧ At G' M H ∧ Rp K G' (.dict kvs) (.ref p) :=
  have hm := upd_same (H := M) (a := p) (o := HO.dK es)
  ⟨_, A.frzG hm, A.frz hm (Ex.new hM) hM, p, es, rfl, upd_same, r.up (A.frzG hm)⟩
theorem d_get2 {tx ty2 : TE} {x : Str} {kvs : List (Str × PyData)} (h : TrD K te σ G (.dict (keysD kvs))) (hx : TrD K tx σ G (.str x)) (hy : TrD K ty2 σ G d1) (hl : lookD kvs x = some d ∨ (lookD kvs x = none ∧ d = d1)) : TrD K (tDGet2 te tx ty2) σ G d := fun G1 M H e A Q q => by
  refine h G1 M H e A _ fun v G2 H2 e2 A2 r => ?_
  obtain ⟨a, xs, rfl, k1, k2⟩ := r
  refine ⟨a, rfl, .inl ⟨xs, .inl (A2.g _ _ k1)⟩, ?_⟩
  refine hx G2 M H2 (e.trans e2) A2 _ fun w G3 H3 e3 A3 r3 => ?_
  refine hy G3 M H3 ((e.trans e2).trans e3) A3 _ fun z G4 H4 e4 A4 r4 => ?_
  have hv := RpD.val (x := x) k2
  refine ⟨valV xs (Sum.inr x), ?_, ?_⟩
  · rw [show w = kV (Sum.inr x) from r3]
    exact DGet.k (A4.g _ _ ((e3.trans e4) _ _ k1))
  · rcases hl with hl | ⟨hl, rfl⟩
    · obtain ⟨y, e5, r5⟩ := hv.1 d hl
      rw [e5]
      exact (q.mono ((e2.trans e3).trans e4)).here A4 (r5.up (e3.trans e4))
    · rw [hv.2 hl]
      exact (q.mono ((e2.trans e3).trans e4)).here A4 r4
end
end Sb

namespace Sb
open PySem PySem.Spec PyProof.Rows L2
section
variable {X : Cx}
/-- name = {k: v for ..} on one line, the name a local of the def -/
theorem ps_setDc {i : Nat} {y : Str} {py : Pos} {kx vx tg iter : Expr} {ifs : List Expr} {scope : Scope} {own : List (Str × Nat)} {pos spos : Pos} {wi : TI} {g : TG} {tt : TT} {tk tv : TE}
    (hc : X.calm = true) (hN : X.N.Nodup) (hy : X.N[i]? = some y) (hyl : X.env.scope.names.lookup y = some .local)
    (hsw : swapsWith (.DictComp kx vx [⟨tg, iter, ifs, 0⟩] scope pos) (some (.Name y py)) spos.line X.env = pure true) (hi : PI X tg iter wi) (ok : BlkOk X.N X.env.scope scope own)
    (hg : ∀ s H C cl fp, PG (X.blk s H scope (compEnvC scope cl C X.env) fp) tg g) (ht : ∀ s H C cl fp, PTs (X.blk s H scope (compEnvC scope cl C X.env) fp) ifs tt)
    (hk : ∀ s H C cl fp, PE (X.blk s H scope (compEnvC scope cl C X.env) fp) kx tk) (he : ∀ s H C cl fp, PE (X.blk s H scope (compEnvC scope cl C X.env) fp) vx tv)
    (hs : ∀ x, foldedSetIterable iter X.env x = pure x := by intro _; rfl) :
    PS X (.Assign [.Name y py] (.DictComp kx vx [⟨tg, iter, ifs, 0⟩] scope pos) spos) (tAsg (tDc wi g tt tk tv (own.map (·.2))) (gName i)) := by
  constructor
  intro pins s σ H D I h
  have h' : tDc wi g tt tk tv (own.map (·.2)) σ H (fun x H1 => gName i x σ H1 D.nx) := h
  rw [exec_Assign_Name_used _ _ _ _ hsw]
  apply wpAny_bind
  apply wpAny_standAt
  apply wpAny_bind
  show wpAny _ X.A (do let _ ← comprehension (.DictComp kx vx [⟨tg, iter, ifs, 0⟩] scope pos) scope X.env (firstIterPos [⟨tg, iter, ifs, 0⟩] pos) newDict false (eval iter X.env) (some (assign (.Name y py) X.env))) _ _ s
  apply wpAny_bind
  refine thn (dc_core (Qf := fun _ s' => SP X pins D .next s') hc hN I hi ok hg ht hk he hs h' ?_) fun _ s' hq => wpAny_pure (wpAny_pure hq)
  rintro L C s' m H' I' q hn ⟨f0, f1, f2, f3, f4, f5⟩
  show wpAny _ _ (assign (.Name y py) X.env (.ref L)) _ _ _
  apply wpAny_assign_Name
  refine store_ok2 (v := V.ref L) I' hN hy (.inl hyl) rfl ?_ (.inr hyl)
  rintro s2 I2 ⟨a, sb, ha⟩
  have hne : C ≠ a := by
    rcases ha with z | z
    · rw [z]; exact f1
    · exact fun e => f4 y a z e.symm
  refine ⟨m, hn.sameBut sb hne, ?_⟩
  intro h3 sb3
  exact ⟨_, H', I2.turned (t' := s2.toks) (fun b o hb e => (sb3.2 b hb).trans e) f0 f1 f3 f4 f5, q⟩
theorem sw_trueD {kx vx : Expr} {gs : List Comprehension} {scope : Scope} {pos py : Pos} {y : Str} {l : Nat} {env : Env} (hk : env.scope.kind = .function) (hy : env.scope.names.lookup y = some .local) (hl : (py.line == pos.line) = true)
    (ha : (scope.names.any fun (n, k) => n == y && (k == .local || k == .cell)) = false) : swapsWith (.DictComp kx vx gs scope pos) (some (.Name y py)) l env = pure true := by
  have k1 : env.kindOf y = some .local := hy
  have k2 : env.blockKind = .function := by
    unfold Env.blockKind
    rw [hk]
    rfl
  unfold swapsWith
  simp only [k2, k1, ha, Expr.pos, hl]
  rfl
end
end Sb

namespace Sb
open PySem PySem.Spec PyProof.Rows L2
section
variable {K : PySem.W.Frag} {σ : L2.St} {G G' M M0 M1 H : Hp} {ta tb te tc : TE} {d d1 d2 d3 : PyData} {tt t u : TT} {ts : TA} {ds es : List PyData} {Q : VK} {D : Ends} {s1 s2 : TS} {i j n m n' : Nat} {r p : Addr} {o : HO}
/-! ### a reel: a list of three numbers that draws write -/
def Same (r : Addr) (M M' : Hp) : Prop := ∀ x, x ≠ r → M' x = M x
theorem Same.refl : Same r M M := fun _ _ => rfl
theorem Same.trans (a : Same r M M0) (b : Same r M0 M1) : Same r M M1 := fun x h => (b x h).trans (a x h)
def RL (r : Addr) (n : Nat) (M : Hp) : Prop := ∃ a b : Int, ∃ c : Nat, M r = some (.lst [.int a, .int b, .int c]) ∧ 0 ≤ b ∧ b < 10 ^ 43 ∧ c ≤ n
theorem RL.le (h : RL r n M) (e : n ≤ m) : RL r m M := by
  obtain ⟨a, b, c, h1, h2, h3, h4⟩ := h
  exact ⟨a, b, c, h1, h2, h3, Nat.le_trans h4 e⟩
theorem RL.ne (h : RL r n M) (e : M p = none) : p ≠ r := fun z => by
  obtain ⟨a, b, c, h1, _⟩ := h
  rw [← z, e] at h1
  cases h1
theorem RL.upd (h : RL r n M) (e : p ≠ r) : RL r n (L2.upd M p o) := by
  obtain ⟨a, b, c, h1, h2⟩ := h
  exact ⟨a, b, c, by rw [upd_ne (Ne.symm e)]; exact h1, h2⟩
theorem cut_eq (h : M p = some o) : upd (cutG M p) p o = M := by
  funext x
  by_cases e : x = p
  · subst e
    rw [upd_same, h]
  · rw [upd_ne e]
    exact if_neg e
theorem cut_none : cutG M p p = none := if_pos rfl
theorem same_cut : Same r (cutG M r) M := fun x h => (if_neg h).symm
theorem same_upd : Same r M (upd M r o) := fun x h => upd_ne h
def TrE (K : PySem.W.Frag) (r : Addr) (M0 : Hp) (te : TE) (σ : L2.St) (G : Hp) (n n' : Nat) (Φ : PyData → Prop) : Prop := ∀ G1 M H, Ex G G1 → At G1 M H → Same r M0 M → RL r n M → ∀ Q : VK,
  (∀ d v G' M' H', Ex G1 G' → At G' M' H' → Same r M0 M' → RL r n' M' → Φ d → Rp K G' d v → Q v H') → te σ H Q
def TrEA (K : PySem.W.Frag) (r : Addr) (M0 : Hp) (ts : TA) (σ : L2.St) (G : Hp) (n n' : Nat) (Φ : List PyData → Prop) : Prop := ∀ G1 M H, Ex G G1 → At G1 M H → Same r M0 M → RL r n M → ∀ Q : List V → Hp → Prop,
  (∀ ds vs G' M' H', Ex G1 G' → At G' M' H' → Same r M0 M' → RL r n' M' → Φ ds → RpL K G' ds vs → Q vs H') → ts σ H Q
variable {Φ Φ1 Φ2 Φ3 : PyData → Prop} {Ψ Ψ1 : List PyData → Prop}
theorem e_D (h : TrD K te σ G d) (hd : Φ d) : TrE K r M0 te σ G n n Φ := fun G1 M H e A S R Q q => h G1 M H e A Q fun v G2 H2 e2 A2 rv => q d v G2 M H2 e2 A2 S R hd rv
theorem TrE.up (e : Ex G G') (h : TrE K r M0 te σ G n n' Φ) : TrE K r M0 te σ G' n n' Φ := fun G1 M H e1 A S R Q q => h G1 M H (e.trans e1) A S R Q q
theorem TrE.imp (h : TrE K r M0 te σ G n n' Φ) (hi : ∀ d, Φ d → Φ1 d) : TrE K r M0 te σ G n n' Φ1 := fun G1 M H e1 A S R Q q => h G1 M H e1 A S R Q fun d v G' M' H' e A S R hd => q d v G' M' H' e A S R (hi d hd)
theorem TrE.le (h : TrE K r M0 te σ G n n' Φ) (hi : n' ≤ m) : TrE K r M0 te σ G n m Φ := fun G1 M H e1 A S R Q q => h G1 M H e1 A S R Q fun d v G' M' H' e A S R hd => q d v G' M' H' e A S (R.le hi) hd
theorem ea_nil (h : Ψ []) : TrEA K r M0 tNil σ G n n Ψ := fun G1 M H e A S R Q q => q [] [] G1 M H (Ex.refl _) A S R h rfl
theorem ea_cons (ha : TrE K r M0 ta σ G n m Φ) (hr : ∀ d, Φ d → TrEA K r M0 ts σ G m n' fun ds => Ψ (d :: ds)) : TrEA K r M0 (tCons ta ts) σ G n n' Ψ := fun G1 M H e A S R Q q => by
  refine ha G1 M H e A S R _ fun d v G2 M2 H2 e2 A2 S2 R2 hd rv => ?_
  refine hr d hd G2 M2 H2 (e.trans e2) A2 S2 R2 _ fun ds vs G3 M3 H3 e3 A3 S3 R3 hds rvs => ?_
  exact q (d :: ds) (v :: vs) G3 M3 H3 (e2.trans e3) A3 S3 R3 hds ⟨v, vs, rfl, rv.up e3, rvs⟩
theorem ea_A (h : TrA K ts σ G ds) (hd : Ψ ds) : TrEA K r M0 ts σ G n n Ψ := fun G1 M H e A S R Q q => h G1 M H e A Q fun vs G2 H2 e2 A2 rv => q ds vs G2 M H2 e2 A2 S R hd rv
theorem e_op {rr : R2} (ha : TrE K r M0 ta σ G n m Φ1) (hb : ∀ d1, Φ1 d1 → TrE K r M0 tb σ G m n' Φ2) (hr : ∀ d1 d2, Φ1 d1 → Φ2 d2 → ∃ d3, RD K rr d1 d2 d3 ∧ Φ d3) : TrE K r M0 (tOp rr ta tb) σ G n n' Φ := fun G1 M H e A S R Q q => by
  refine ha G1 M H e A S R _ fun d v G2 M2 H2 e2 A2 S2 R2 hd rv => ?_
  refine hb d hd G2 M2 H2 (e.trans e2) A2 S2 R2 _ fun d2 v2 G3 M3 H3 e3 A3 S3 R3 hd2 rv2 => ?_
  obtain ⟨d3, h3, p3⟩ := hr d d2 hd hd2
  exact h3 G3 M3 H3 v v2 A3 (rv.up e3) rv2 Q fun v4 G4 H4 e4 A4 r4 => q d3 v4 G4 M3 H4 ((e2.trans e3).trans e4) A4 S3 R3 p3 r4
theorem e_cb {rr : List V → Hp → VK → Prop} (h : TrEA K r M0 ts σ G n n' Ψ) (hr : ∀ ds, Ψ ds → ∃ d, RC K rr ds d ∧ Φ d) : TrE K r M0 (tCB rr ts) σ G n n' Φ := fun G1 M H e A S R Q q => by
  refine h G1 M H e A S R _ fun ds vs G2 M2 H2 e2 A2 S2 R2 hd rv => ?_
  obtain ⟨d, h3, p3⟩ := hr ds hd
  exact h3 G2 M2 H2 vs A2 rv Q fun v4 G4 H4 e4 A4 r4 => q d v4 G4 M2 H4 (e2.trans e4) A4 S2 R2 p3 r4
theorem e_tup (h : TrEA K r M0 ts σ G n n' Ψ) (hr : ∀ ds, Ψ ds → ds.length ≤ 100000 ∧ Φ (.tuple ds)) : TrE K r M0 (tTup ts) σ G n n' Φ := fun G1 M H e A S R Q q => by
  refine h G1 M H e A S R _ fun ds vs G2 M2 H2 e2 A2 S2 R2 hd rv => ?_
  exact (d_tup (ts := fun σ H Q => Q vs H) (σ := σ) (fun G3 M3 H3 e3 A3 Q3 q3 => q3 vs G3 H3 (Ex.refl _) A3 (rv.up e3)) (hr ds hd).1) G2 M2 H2 (Ex.refl _) A2 Q fun v4 G4 H4 e4 A4 r4 => q _ v4 G4 M2 H4 (e2.trans e4) A4 S2 R2 (hr ds hd).2 r4
theorem e_lst (h : TrEA K r M0 ts σ G n n' Ψ) (hr : ∀ ds, Ψ ds → ds.length ≤ 100000 ∧ Φ (.list ds)) : TrE K r M0 (tLst ts) σ G n n' Φ := fun G1 M H e A S R Q q => by
  refine h G1 M H e A S R _ fun ds vs G2 M2 H2 e2 A2 S2 R2 hd rv => ?_
  exact (d_lst (ts := fun σ H Q => Q vs H) (σ := σ) (fun G3 M3 H3 e3 A3 Q3 q3 => q3 vs G3 H3 (Ex.refl _) A3 (rv.up e3)) (hr ds hd).1) G2 M2 H2 (Ex.refl _) A2 Q fun v4 G4 H4 e4 A4 r4 => q _ v4 G4 M2 H4 (e2.trans e4) A4 S2 R2 (hr ds hd).2 r4
theorem e_if {b : Bool} (hc : TrB t σ G b) (h1 : b = true → TrE K r M0 ta σ G n n' Φ) (h2 : b = false → TrE K r M0 tb σ G n n' Φ) : TrE K r M0 (tIf t ta tb) σ G n n' Φ := fun G1 M H e A S R Q q => by
  refine hc G1 M H e A _ fun G2 H2 e2 A2 => ?_
  cases b with
  | true => exact h1 rfl G2 M H2 (e.trans e2) A2 S R Q fun d v G' M' H' e' => q d v G' M' H' (e2.trans e')
  | false => exact h2 rfl G2 M H2 (e.trans e2) A2 S R Q fun d v G' M' H' e' => q d v G' M' H' (e2.trans e')
/-- len(x), x a list that is still written -/
theorem e_len {xs : List V} (hi : σ[i]? = some (some (.ref p))) (hp : M0 p = some (.lst xs)) (hn : p ≠ r) (hd : Φ (.int xs.length)) : TrE K r M0 (tCB (rLen K) (tCons (tVar i) tNil)) σ G n n Φ := fun G1 M H e A S R Q q =>
  ⟨.ref p, hi, V.ref p, xs.length, rfl, .inl ⟨xs, SqL.of (A.m _ _ ((S p hn).trans hp)), rfl⟩, q (.int xs.length) (V.int xs.length) G1 M H (Ex.refl _) A S R hd rfl⟩
/-- x[i], x a list that is still written -/
theorem e_ixM {xs : List V} (hi : σ[i]? = some (some (.ref p))) (hp : M0 p = some (.lst xs)) (hn : p ≠ r) (rx : RpL K G ds xs) (hb : TrE K r M0 tb σ G n n' Φ1) (hr : ∀ d, Φ1 d → ∃ k d', d = .int k ∧ L2.atI ds k = some d' ∧ Φ d') : TrE K r M0 (tOp (rIxL K) (tVar i) tb) σ G n n' Φ := fun G1 M H e A S R Q q => by
  refine ⟨.ref p, hi, ?_⟩
  refine hb G1 M H e A S R _ fun d v G2 M2 H2 e2 A2 S2 R2 hd rv => ?_
  obtain ⟨k, d', rfl, hk, hd'⟩ := hr d hd
  obtain ⟨z, e1, rz⟩ := (rx.up (e.trans e2)).atI hk
  exact ⟨p, xs, k, z, rfl, rv, SqL.of (A2.m _ _ ((S2 p hn).trans hp)), e1, q d' z G2 M2 H2 e2 A2 S2 R2 hd' rz⟩
/-- a def that draws from the reel: the reel its first argument -/
def ESp (K : PySem.W.Frag) (R : List PyData → Nat → (PyData → Prop) → Prop) : Sp := fun vs H Q _ => ∃ r ws G M n k ds Φ, vs = .ref r :: ws ∧ At G M H ∧ RL r n M ∧ RpL K G ds ws ∧ R ds k Φ ∧ n + k ≤ 1000000 ∧
  ∀ d v G' M' H', Ex G G' → At G' M' H' → Same r M M' → RL r (n + k) M' → Φ d → Rp K G' d v → Q v H'
theorem ESp.len {R : List PyData → Nat → (PyData → Prop) → Prop} {n : Nat} (h : ∀ ds k Φ, R ds k Φ → ds.length = n) {vs : List V} {H : Hp} {Q : VK} {E : XK} (hs : ESp K R vs H Q E) : vs.length = n + 1 := by
  obtain ⟨r, ws, G, M, n2, k, ds, Φ, rfl, _, _, hr, hR, _⟩ := hs
  rw [List.length_cons, hr.len, h _ _ _ hR]
theorem e_call {R : List PyData → Nat → (PyData → Prop) → Prop} {E : XK} {k : Nat} (hi : σ[i]? = some (some (.ref r))) (h : TrEA K r M0 ts σ G n m Ψ) (hR : ∀ ds, Ψ ds → R ds k Φ) (hm : m + k ≤ 1000000) : TrE K r M0 (tCall (ESp K R) [] E (tCons (tVar i) ts)) σ G n (m + k) Φ := fun G1 M H e A S Rr Q q => by
  refine ⟨.ref r, hi, ?_⟩
  refine h G1 M H e A S Rr _ fun ds vs G2 M2 H2 e2 A2 S2 R2 hd rv => ?_
  refine ⟨r, vs, G2, M2, m, k, ds, Φ, by rw [List.append_nil], A2, R2, rv, hR ds hd, hm, fun d v G' M' H' e' A' S' R' hd' rv' => ?_⟩
  exact q d v G' M' H' (e2.trans e') A' (S2.trans S') R' hd' rv'
theorem upd_cut : upd (cutG M p) p o = upd M p o := by
  funext x
  by_cases e : x = p
  · subst e
    rw [upd_same, upd_same]
  · rw [upd_ne e, upd_ne e]
    exact if_neg e
/-- [e for x in range(n)], the element draws -/
theorem e_lcR {c : Nat} {step : Nat} {Φ0 : Int → Prop} (hl : TrE K r M0 ta σ G n m fun d => ∃ z : Int, d = .int z ∧ Φ0 z ∧ 0 ≤ z ∧ z ≤ c) (hc : c ≤ 10000)
    (he : ∀ M1 (x : Int) (t : Nat), t < c → TrE K r M1 te ((wipe σ [i]).set i (some (.int x))) G (m + t * step) (m + t * step + step) Φ1)
    (hΦ : ∀ z ds, Φ0 z → (ds.length : Int) = z → (∀ d ∈ ds, Φ1 d) → Φ (.list ds)) :
    TrE K r M0 (tLc (iRng1 (tCons ta tNil)) (gName i) tYes te [i]) σ G n (m + c * step) Φ := fun G1 M H e A S R Q q => by
  refine hl G1 M H e A S R _ fun d v G2 M2 H2 e2 A2 S2 R2 hd rv => ?_
  obtain ⟨z, rfl, hz0, hz1, hz2⟩ := hd
  refine ⟨z, by rw [show v = V.int z from rv], by omega, by omega, fun D hD => ?_⟩
  have hMD : M2 D = none := A2.mNone hD
  refine lc_range (lo := 0) (n := z.toNat) (fun t H3 => ∃ Gj Mj acc dj, Ex G2 Gj ∧ At Gj (upd Mj D (.lst acc)) H3 ∧ Same r M0 Mj ∧ Mj D = none ∧ RL r (m + t * step) Mj ∧ RpL K Gj dj acc ∧ dj.length = t ∧ ∀ d ∈ dj, Φ1 d)
    ⟨G2, M2, [], [], Ex.refl _, A2.nm hD, S2, hMD, by rw [Nat.zero_mul]; exact R2, rfl, rfl, fun _ h => by cases h⟩ ?_ ?_
  · rintro t H3 ht ⟨Gj, Mj, acc, dj, ej, Aj, Sj, hj, Rj, rj, hl2, hall⟩
    have hDr : D ≠ r := Rj.ne hj
    refine ⟨wipe_set, ?_⟩
    refine he (upd Mj D (.lst acc)) (0 + (t : Int)) t (by omega) Gj (upd Mj D (.lst acc)) H3 ((e.trans e2).trans ej) Aj .refl (Rj.upd hDr) _ fun d5 y G5 M5 H5 e5 A5 S5 R5 h5 r5 => ?_
    have hD5 : M5 D = some (.lst acc) := (S5 D hDr).trans upd_same
    refine ⟨acc, A5.m _ _ hD5, ?_, G5, cutG M5 D, acc ++ [y], dj ++ [d5], ej.trans e5, ?_, ?_, cut_none, ?_, (rj.up e5).snoc r5, by rw [List.length_append, hl2]; rfl, ?_⟩
    · rw [rj.len, hl2]
      exact sz_lt (by omega)
    · rw [upd_cut]
      exact A5.wr hD5
    · intro x hx
      by_cases hxD : x = D
      · subst hxD
        rw [cut_none, ← Sj x hx, hj]
      · show (if x = D then none else M5 x) = M0 x
        rw [if_neg hxD, S5 x hx, upd_ne hxD]
        exact Sj x hx
    · obtain ⟨a, b, cc, k1, k2⟩ := R5
      rw [Nat.succ_mul, ← Nat.add_assoc]
      exact ⟨a, b, cc, by show (if r = D then none else M5 r) = _; rw [if_neg (Ne.symm hDr)]; exact k1, k2⟩
    · intro d6 h6
      rcases List.mem_append.mp h6 with h6 | h6
      · exact hall _ h6
      · rw [List.mem_singleton.mp h6]
        exact h5
  · rintro H3 ⟨Gj, Mj, acc, dj, ej, Aj, Sj, hj, Rj, rj, hl2, hall⟩
    have hm := upd_same (H := Mj) (a := D) (o := HO.lst acc)
    refine q (.list dj) (.ref D) _ Mj H3 ((e2.trans ej).trans (Aj.frzG hm)) (Aj.frz hm (Ex.new hj) hj) Sj (Rj.le ?_) (hΦ z dj hz0 (by omega) hall) ⟨D, acc, rfl, upd_same, rj.up (Aj.frzG hm)⟩
    have : z.toNat ≤ c := by omega
    exact Nat.add_le_add_left (Nat.mul_le_mul_right _ this) _
/-! ### statements -/
theorem s_setE (h : TrE K r M0 te σ G n n' Φ) (A : At G M H) (S : Same r M0 M) (R : RL r n M) (k : ∀ d v G' M' H', Ex G G' → At G' M' H' → Same r M0 M' → RL r n' M' → Φ d → Rp K G' d v → D.nx (σ.set i (some v)) H') : tAsg te (gName i) D σ H := h G M H (Ex.refl _) A S R _ k
theorem q_setE (h : TrE K r M0 te σ G n n' Φ) (A : At G M H) (S : Same r M0 M) (R : RL r n M) (k : ∀ d v G' M' H', Ex G G' → At G' M' H' → Same r M0 M' → RL r n' M' → Φ d → Rp K G' d v → s2 D (σ.set i (some v)) H') : tSeq (tAsg te (gName i)) s2 D σ H := h G M H (Ex.refl _) A S R _ k
theorem s_retE (h : TrE K r M0 te σ G n n' Φ) (A : At G M H) (S : Same r M0 M) (R : RL r n M) (k : ∀ d v G' M' H', Ex G G' → At G' M' H' → Same r M0 M' → RL r n' M' → Φ d → Rp K G' d v → D.rt v H') : tRet te D σ H := h G M H (Ex.refl _) A S R _ k
/-! ### a written cell, looked at as data -/
theorem q_setfz (h : TrD K te σ (upd G p o) d) (hf : isFlat d = true) (hG : G p = none) (hM : M p = none) (A : At G (upd M p o) H) (k : ∀ v G' H', Ex G G' → At G' (upd M p o) H' → Rp K G' d v → s2 D (σ.set i (some v)) H') : tSeq (tAsg te (gName i)) s2 D σ H := w_Dfz h hf hG hM A k
theorem s_iffz {b : Bool} (h : TrB t σ (upd G p o) b) (hG : G p = none) (hM : M p = none) (A : At G (upd M p o) H) (k1 : b = true → ∀ G' H', Ex G G' → At G' (upd M p o) H' → s1 D σ H') (k2 : b = false → ∀ G' H', Ex G G' → At G' (upd M p o) H' → s2 D σ H') : tIfS t s1 s2 D σ H := by
  refine w_Bfz h hG hM A fun G' H' e A' => ?_
  cases b with
  | true => exact k1 rfl G' H' e A'
  | false => exact k2 rfl G' H' e A'
theorem q_setIxfz {xs : List V} {j : Nat} {kk : Int} (h : TrD K te σ (upd G p (.lst xs)) d) (hf : isFlat d = true) (hG : G p = none) (hM : M p = none) (A : At G (upd M p (.lst xs)) H) (hi : σ[i]? = some (some (.ref p))) (hj : ixN xs.length kk = some j)
    (k : ∀ v G' H', Ex G G' → At G' (upd M p (.lst (xs.set j v))) H' → Rp K G' d v → s2 D σ H') : tSeq (tAsg te (gSub (tVar i) (tC (.int kk)) rSetL)) s2 D σ H := by
  refine w_Dfz (M := M) h hf hG hM A fun v G1 H1 e1 A1 r1 => ?_
  refine ⟨.ref p, hi, p, xs, kk, j, rfl, rfl, A1.m _ _ upd_same, hj, ?_⟩
  have z := A1.wr (o := .lst (xs.set j v)) (upd_same (H := M) (a := p) (o := .lst xs))
  rw [upd_upd] at z
  exact k v G1 _ e1 z r1
theorem rd_catA {es : List PyData} (hn : ds.length + es.length ≤ 100000) : RD K (rCatA K) (.tuple ds) (.tuple es) (.tuple (ds ++ es)) := fun G M H x y A ⟨a, xs, h1, h2, h3⟩ ⟨b, ys, k1, k2, k3⟩ Q q => by
  refine ⟨a, b, xs, ys, h1, k1, A.g.stt h2, A.g.stt k2, by rw [h3.len, k3.len]; exact sz_of hn, fun hx => ?_, fun hx hy => ?_, fun hx hy p hp => ?_⟩
  · subst hx
    have e : ds = [] := by have := h3.len; cases ds with | nil => rfl | cons _ _ => simp at this
    subst e
    exact q.here A ⟨b, ys, rfl, k2, k3⟩
  · subst hy
    have e : es = [] := by have := k3.len; cases es with | nil => rfl | cons _ _ => simp at this
    subst e
    rw [List.append_nil] at q
    exact q.here A ⟨a, xs, rfl, h2, h3⟩
  · exact q.newG A hp ⟨p, _, rfl, SqT.of upd_same, (h3.app k3).up (Ex.new (A.gNone hp))⟩
theorem d_slA {tl th : TO} {lo hi : Option Int} (h : TrD K te σ G (.tuple ds)) (h1 : TrO tl σ G lo) (h2 : TrO th σ G hi) : TrD K (tSl (rSlA K) te tl th) σ G (.tuple (Sb.cutD ds lo hi)) := fun G1 M H e A Q q => by
  refine h G1 M H e A _ fun v G2 H2 e2 A2 r => ?_
  refine h1 G2 M H2 (e.trans e2) A2 _ fun G3 H3 e3 A3 => ?_
  refine h2 G3 M H3 ((e.trans e2).trans e3) A3 _ fun G4 H4 e4 A4 => ?_
  obtain ⟨a, xs, rfl, k1, k2⟩ := r.up (e3.trans e4)
  refine ⟨a, xs, rfl, A4.g.stt k1, fun hw => ?_, fun hw p hp => ?_⟩
  · refine (q.mono ((e2.trans e3).trans e4)).here A4 ⟨a, xs, rfl, k1, ?_⟩
    rw [k2.len] at hw
    unfold Sb.cutD
    rw [hw.1, hw.2, List.drop_zero, Nat.sub_zero, List.take_length]
    exact k2
  · exact ((q.mono ((e2.trans e3).trans e4))).newG A4 hp ⟨p, _, rfl, SqT.of upd_same, k2.cut.up (Ex.new (A4.gNone hp))⟩
end
end Sb

namespace Sb
open PySem PySem.Spec PyProof.Rows L2
/-! ### == of one and the same data, dicts within -/
def keyS : PyData → Option Str
  | .str x => some x
  | _ => none
def okQ : Nat → PyData → Bool
  | _, .none => true
  | _, .bool _ => true
  | _, .int _ => true
  | _, .str _ => true
  | n + 1, .list ds => ds.all (okQ n)
  | n + 1, .tuple ds => ds.all (okQ n)
  | n + 1, .dict kvs => kvs.all (fun p => okQ n p.2) && kvs.all (fun p => (keyS p.1).isSome) && decide (kvs.map fun p => keyS p.1).Nodup
  | 0, _ => false
def SameD (K : PySem.W.Frag) (G : Hp) (n : Nat) (x y : V) : Prop := ∃ d, okQ n d = true ∧ Rp K G d x ∧ Rp K G d y
theorem same_list {K : PySem.W.Frag} {G : Hp} {n : Nat} : ∀ {ds : List PyData} {xs ys : List V}, ds.all (okQ n) = true → RpL K G ds xs → RpL K G ds ys → Paired (SameD K G n) xs ys
  | [], xs, ys, _, h1, h2 => by
    rw [show xs = [] from h1, show ys = [] from h2]
    exact .nil
  | d :: ds, _, _, ho, ⟨x, r, e1, h1, h2⟩, ⟨y, r', e2, h3, h4⟩ => by
    have ho' := Bool.and_eq_true_iff.mp (by rw [List.all_cons] at ho; exact ho)
    rw [e1, e2]
    exact .cons ⟨d, ho'.1, h1, h3⟩ (same_list ho'.2 h2 h4)
theorem kD_keyS {k : Key} {x : Str} (h : keyS (kD k) = some x) : k = Sum.inr x := by
  cases k with
  | inl i => cases h
  | inr z => cases h; rfl
theorem val_at {K : PySem.W.Frag} {G : Hp} : ∀ {kvs : List (PyData × PyData)} {es : List (Key × V)} {p : PyData × PyData} {x : Str}, RpD K G kvs es → (kvs.map fun p => keyS p.1).Nodup → p ∈ kvs → keyS p.1 = some x → ∃ u, valV es (Sum.inr x) = some u ∧ Rp K G p.2 u
  | [], _, _, _, _, _, h, _ => by cases h
  | (k, d) :: r, _, p, x, ⟨k', y, t, e1, h1, h2, h3⟩, nd, hp, hx => by
    rw [e1]
    have nd' := List.nodup_cons.mp (by rw [List.map_cons] at nd; exact nd)
    rcases List.mem_cons.mp hp with e | hp
    · subst e
      rw [← h1] at hx
      have hk := kD_keyS hx
      subst hk
      refine ⟨y, ?_, h2⟩
      unfold valV
      rw [List.find?_cons]
      simp
    · obtain ⟨u, hu, ru⟩ := val_at h3 nd'.2 hp hx
      refine ⟨u, ?_, ru⟩
      have hne : ¬ k' = Sum.inr x := fun z => by
        subst z
        refine nd'.1 (List.mem_map.mpr ⟨p, hp, ?_⟩)
        rw [hx, ← h1]
        rfl
      unfold valV at hu ⊢
      rw [List.find?_cons, decide_eq_false hne]
      exact hu
theorem ent_of {K : PySem.W.Frag} {G : Hp} : ∀ {kvs : List (PyData × PyData)} {es : List (Key × V)} {q : Key × V}, RpD K G kvs es → q ∈ es → ∃ p ∈ kvs, kD q.1 = p.1 ∧ Rp K G p.2 q.2
  | [], es, q, h, hq => by
    rw [show es = [] from h] at hq
    cases hq
  | (k, d) :: r, _, q, ⟨k', y, t, e1, h1, h2, h3⟩, hq => by
    rw [e1] at hq
    rcases List.mem_cons.mp hq with e | hq
    · subst e
      exact ⟨_, List.mem_cons_self .., h1, h2⟩
    · obtain ⟨p, hp, z⟩ := ent_of h3 hq
      exact ⟨p, List.mem_cons_of_mem _ hp, z⟩
section
variable {X : Cx} {pins : List (Addr × Obj)} {σ : L2.St} {H G : Hp} {s : Shared}
theorem sameD_step (I : Inv X pins σ H s) (g : Ex G H) {n : Nat} {A : Around} (hu : A.units < cLine) (ih : ∀ x y v u, SameD X.K G n x y → RelV x v → RelV y u → SeqAt.EqP X.prog X.w A.in1 s v u true)
    {d : PyData} {x y : V} {v u : Value} (hf : isFlat d = false) (ho : okQ (n + 1) d = true) (h1 : Rp X.K G d x) (h2 : Rp X.K G d y) (rx : RelV x v) (ry : RelV y u) (E Q : Value → Shared → Prop) (q : Q (.bool true) s) : wpAny (model X.prog X.w) A (richCompare .Eq v u) Q E s := by
  cases d with
  | none => cases hf
  | bool _ => cases hf
  | int _ => cases hf
  | str _ => cases hf
  | list ds =>
    obtain ⟨a, xs, rfl, a1, a2⟩ := h1
    obtain ⟨b, ys, rfl, b1, b2⟩ := h2
    have hp := same_list (show ds.all (okQ n) = true from ho) a2 b2
    cases (show v = Value.ref a from rx)
    cases (show u = Value.ref b from ry)
    obtain ⟨us, r1, p1, _⟩ := I.list (SqL.of (g _ _ a1))
    obtain ⟨ws, r2, p2, _⟩ := I.list (SqL.of (g _ _ b1))
    have hsz : us.toArray.size = ws.toArray.size := by
      rw [List.size_toArray, List.size_toArray, ← r1.length, ← r2.length, a2.len, b2.len]
    refine SeqAt.rcP_lists (e := fun _ => true) p1.isList p2.isList hsz hu (fun j k1 k2 => ?_) E Q ?_
    · exact by simpa using items_run ih hp r1 r2 j (by simpa using k1) (by simpa using k2)
    · have e : (List.range us.toArray.size).all (fun _ => true) = true := List.all_eq_true.mpr fun _ _ => rfl
      rw [e]
      exact q
  | tuple ds =>
    obtain ⟨a, xs, rfl, a1, a2⟩ := h1
    obtain ⟨b, ys, rfl, b1, b2⟩ := h2
    have hp := same_list (show ds.all (okQ n) = true from ho) a2 b2
    cases (show v = Value.ref a from rx)
    cases (show u = Value.ref b from ry)
    obtain ⟨us, r1, p1, _⟩ := I.tuple (g.stt a1)
    obtain ⟨ws, r2, p2, _⟩ := I.tuple (g.stt b1)
    have hsz : us.toArray.size = ws.toArray.size := by
      rw [List.size_toArray, List.size_toArray, ← r1.length, ← r2.length, a2.len, b2.len]
    refine GQ.rc_tupG hsz hu (fun _ s' => s' = s) p1 p2 (fun i k1 k2 s' hs => ?_) (fun s' hs => by rw [hs]; exact q) rfl
    subst hs
    have z := items_run ih hp r1 r2 i (by simpa using k1) (by simpa using k2)
    exact (by simpa using z : SeqAt.EqP X.prog X.w A.in1 s' us.toArray[i] ws.toArray[i] true) E _ ⟨rfl, rfl⟩
  | dict kvs =>
    obtain ⟨a, ks, rfl, a1, a2⟩ := h1
    obtain ⟨b, ls, rfl, b1, b2⟩ := h2
    have ho1 : (kvs.all (fun p => okQ n p.2) && kvs.all (fun p => (keyS p.1).isSome) && decide (kvs.map fun p => keyS p.1).Nodup) = true := ho
    obtain ⟨ho2, ho3⟩ := Bool.and_eq_true_iff.mp ho1
    obtain ⟨ho4, ho5⟩ := Bool.and_eq_true_iff.mp ho2
    have nd := of_decide_eq_true ho3
    cases (show v = Value.ref a from rx)
    cases (show u = Value.ref b from ry)
    obtain ⟨_, ya, va, ra, da⟩ := (show ObjOk X.prog X.w H s.heap a (.dK ks) from I.hok a _ (g _ _ a1))
    obtain ⟨_, yb, vb, rb, db⟩ := (show ObjOk X.prog X.w H s.heap b (.dK ls) from I.hok b _ (g _ _ b1))
    refine PySem.W.rcP_dicts (knd := mixKind X.prog X.w) (r := true) ya yb da db hu (fun _ => hits_run ih rb ra fun p hm => ?_) E Q ?_
    · obtain ⟨kv, hkv, e1, r1⟩ := ent_of a2 hm
      have hs := List.all_eq_true.mp ho5 kv hkv
      obtain ⟨x, hx⟩ := Option.isSome_iff_exists.mp hs
      obtain ⟨z, hz, rz⟩ := val_at b2 nd hkv hx
      rw [← e1] at hx
      rw [kD_keyS hx]
      exact ⟨z, hz, kv.2, List.all_eq_true.mp ho4 kv hkv, r1, rz⟩
    · have e : va.length = vb.length := by rw [← ra.length, ← rb.length, a2.len, b2.len]
      rw [show (va.length == vb.length && true) = true from by rw [e]; simp]
      exact q
theorem sameD_run (I : Inv X pins σ H s) (g : Ex G H) : ∀ (n : Nat) (A : Around), A.units + n < cLine → ∀ (x y : V) (v u : Value), SameD X.K G n x y → RelV x v → RelV y u → SeqAt.EqP X.prog X.w A s v u true := by
  intro n
  induction n with
  | zero =>
    rintro A hu x y v u ⟨d, ho, h1, h2⟩ rx ry
    have hf : isFlat d = true := by cases d <;> first | rfl | cases ho
    have e1 := rp_flat hf h1
    have e2 := rp_flat hf h2
    rw [e1.1] at rx
    rw [e2.1] at ry
    exact (eqAt_same rx ry (by cases d <;> first | rfl | cases hf)).eqP
  | succ n ih =>
    rintro A hu x y v u ⟨d, ho, h1, h2⟩ rx ry
    cases hf : isFlat d with
    | true =>
      have e1 := rp_flat hf h1
      have e2 := rp_flat hf h2
      rw [e1.1] at rx
      rw [e2.1] at ry
      exact (eqAt_same rx ry (by cases d <;> first | rfl | cases hf)).eqP
    | false =>
      have step := fun E Q q => sameD_step I g (n := n) (A := A) (by omega) (ih A.in1 (by show A.units + 1 + n < cLine; omega)) hf ho h1 h2 rx ry E Q q
      obtain ⟨a, ea⟩ : ∃ a, x = V.ref a := by
        cases d with
        | none => cases hf
        | bool _ => cases hf
        | int _ => cases hf
        | str _ => cases hf
        | list ds => obtain ⟨a, _, e, _⟩ := h1; exact ⟨a, e⟩
        | tuple ds => obtain ⟨a, _, e, _⟩ := h1; exact ⟨a, e⟩
        | dict ds => obtain ⟨a, _, e, _⟩ := h1; exact ⟨a, e⟩
      obtain ⟨b, eb⟩ : ∃ a, y = V.ref a := by
        cases d with
        | none => cases hf
        | bool _ => cases hf
        | int _ => cases hf
        | str _ => cases hf
        | list ds => obtain ⟨a, _, e, _⟩ := h2; exact ⟨a, e⟩
        | tuple ds => obtain ⟨a, _, e, _⟩ := h2; exact ⟨a, e⟩
        | dict ds => obtain ⟨a, _, e, _⟩ := h2; exact ⟨a, e⟩
      subst ea eb
      cases (show v = Value.ref a from rx)
      cases (show u = Value.ref b from ry)
      by_cases e : a = b
      · subst e
        exact (SeqAt.EqAt.same _).eqP
      · exact SeqAt.eqP_refs e step
end
section
variable {X : Cx}
/-- a == b, both hold the same data -/
def rEqS (K : PySem.W.Frag) : R2 := fun x y H Q => ∃ G d, Ex G H ∧ okQ 60 d = true ∧ isFlat d = false ∧ Rp K G d x ∧ Rp K G d y ∧ Q (.bl true) H
theorem op_eqS (hu : X.A.units + 64 < cLine) : OpR X (compareOp .Eq) (rEqS X.K) := by
  intro pins s σ H x y v u Q I rx ry h
  obtain ⟨G, d, g, ho, hf, h1, h2, q⟩ := h
  exact sameD_step I g (n := 59) (A := X.A) (by omega) (sameD_run I g 59 X.A.in1 (by show X.A.units + 1 + 59 < cLine; omega)) hf ho h1 h2 rx ry _ _ ⟨.bl true, H, I, rfl, q⟩
end
section
variable {K : PySem.W.Frag} {σ : L2.St} {G G' M H : Hp} {ta tb te : TE} {d d1 d2 d3 : PyData} {ds es : List PyData}
theorem rd_eqSame (ho : okQ 60 d = true) (hf : isFlat d = false) : RD K (rEqS K) d d (.bool true) := fun G M H x y A h1 h2 Q q => ⟨G, d, A.g, ho, hf, h1, h2, q.here A rfl⟩
theorem rd_repT {k : Int} (h0 : ds ≠ []) (h1 : 2 ≤ k) (h2 : k ≤ 1000) (h3 : ds.length ≤ 1000) : RD K (rRepT K) (.tuple ds) (.int k) (.tuple (List.replicate k.toNat ds).flatten) := fun G M H x y A ⟨a, xs, e1, r1, r2⟩ hy Q q => by
  refine ⟨a, k, xs, e1, hy, A.g.stt r1, fun z => h0 ?_, h1, h2, by rw [r2.len]; exact h3, fun p hp => q.newG A hp ⟨p, _, rfl, SqT.of upd_same, ?_⟩⟩
  · have := r2.len
    rw [z] at this
    cases ds with
    | nil => rfl
    | cons _ _ => simp at this
  · have r3 := r2.up (Ex.new (A.gNone hp) (o := .tup (List.replicate k.toNat xs).flatten))
    have all : ∀ n, RpL K (upd G p (.tup (List.replicate k.toNat xs).flatten)) (List.replicate n ds).flatten (List.replicate n xs).flatten := fun n => by
      induction n with
      | zero => exact rfl
      | succ n ih =>
        rw [List.replicate_succ, List.replicate_succ, List.flatten_cons, List.flatten_cons]
        exact r3.app ih
    exact all _
/-! ### dict displays -/
def TrP (K : PySem.W.Frag) (trs : List (TE × TE)) (σ : L2.St) (G : Hp) (kvs : List (Str × PyData)) : Prop := ∀ G1 M H, Ex G G1 → At G1 M H → ∀ Q : List (V × V) → Hp → Prop,
  (∀ es G' H', Ex G1 G' → At G' M H' → RpD K G' (keysD kvs) es → Q (es.map fun kv => (kV kv.1, kv.2)) H') → tPairs trs σ H Q
theorem p_nil : TrP K [] σ G [] := fun G1 M H e A Q q => q [] G1 H (Ex.refl _) A rfl
theorem p_cons {x : Str} {kvs : List (Str × PyData)} {trs : List (TE × TE)} (hk : TrD K ta σ G (.str x)) (hv : TrD K tb σ G d) (hr : TrP K trs σ G kvs) : TrP K ((ta, tb) :: trs) σ G ((x, d) :: kvs) := fun G1 M H e A Q q => by
  refine hk G1 M H e A _ fun v G2 H2 e2 A2 r2 => ?_
  refine hv G2 M H2 (e.trans e2) A2 _ fun w G3 H3 e3 A3 r3 => ?_
  refine hr G3 M H3 ((e.trans e2).trans e3) A3 _ fun es G4 H4 e4 A4 r4 => ?_
  have z := q ((Sum.inr x, w) :: es) G4 H4 ((e2.trans e3).trans e4) A4 ⟨Sum.inr x, w, es, rfl, rfl, r3.up e4, r4⟩
  rw [show v = V.str x from r2]
  exact z
theorem merge_new : ∀ {es acc : List (Key × V)}, ((acc ++ es).map (·.1)).Nodup → mergeK acc es = acc ++ es
  | [], acc, _ => (List.append_nil acc).symm
  | (k, v) :: es, acc, h => by
    have hn : valV acc k = none := by
      unfold valV
      rw [Option.map_eq_none_iff, List.find?_eq_none]
      intro q hq hqk
      have e : q.1 = k := of_decide_eq_true hqk
      rw [List.map_append, List.map_cons] at h
      exact (List.nodup_append.mp h).2.2 q.1 (List.mem_map.mpr ⟨q, hq, rfl⟩) k (List.mem_cons_self ..) e
    show mergeK (putK acc k v) es = _
    rw [putK_new _ hn, merge_new (by rw [List.append_assoc]; exact h), List.append_assoc]
    rfl
theorem keys_nodup {kvs : List (Str × PyData)} {es : List (Key × V)} (r : RpD K G (keysD kvs) es) (h : (kvs.map (·.1)).Nodup) : (es.map (·.1)).Nodup := by
  rw [r.keys]
  exact h.map _ (fun a b hab => fun e => hab (Sum.inr.inj e))
theorem d_disp {kvs : List (Str × PyData)} {trs : List (TE × TE)} (h : TrP K trs σ G kvs) (hl : kvs.length ≤ 15) (nd : (kvs.map (·.1)).Nodup) : TrD K (tDisp trs) σ G (.dict (keysD kvs)) := fun G1 M H e A Q q p hp => by
  refine h G1 (upd M p (.dK [])) (upd H p (.dK [])) e (A.nm hp) _ fun es G2 H2 e2 A2 r2 => ?_
  refine ⟨A2.m _ _ upd_same, es, rfl, ?_, ?_⟩
  · rw [r2.len, keysD_len]
    exact hl
  · rw [merge_new (by rw [List.nil_append]; exact keys_nodup r2 nd), List.nil_append]
    have A3 := A2.wr (o := .dK es) (upd_same (H := M) (a := p) (o := .dK []))
    rw [upd_upd] at A3
    have hm := upd_same (H := M) (a := p) (o := HO.dK es)
    have hM : M p = none := A.mNone hp
    exact q _ _ _ (e2.trans (A3.frzG hm)) (A3.frz hm (Ex.new hM) hM) ⟨p, es, rfl, upd_same, r2.up (A3.frzG hm)⟩
/-! ### list(d.items()), dict(pairs) -/
def pairD (p : PyData × PyData) : PyData := .tuple [p.1, p.2]
theorem kV_rp {k : Key} : Rp K G (kD k) (kV k) := by cases k <;> exact rfl
theorem items_rp {G3 H' : Hp} : ∀ {kvs : List (PyData × PyData)} {ts : List Addr} {es : List (Key × V)}, Paired (fun (t : Addr) (q : Key × V) => H' t = some (.tup [kV q.1, q.2])) ts es → RpD K G3 kvs es → (∀ t ∈ ts, G3 t = H' t) → RpL K G3 (kvs.map pairD) (ts.map V.ref)
  | [], _, _, hp, h, _ => by
    rw [show _ = [] from h] at hp
    cases hp
    exact rfl
  | (k, d) :: r, _, _, hp, ⟨k', y, t', e, h4, h5, h6⟩, hm => by
    rw [e] at hp
    cases hp with
    | @cons t _ ts _ hk hr =>
      refine ⟨V.ref t, ts.map V.ref, rfl, ⟨t, [kV k', y], rfl, SqT.of ?_, kV k', [y], rfl, ?_, y, [], rfl, h5, rfl⟩, items_rp hr h6 fun u hu => hm u (List.mem_cons_of_mem _ hu)⟩
      · rw [hm t (List.mem_cons_self ..)]
        exact hk
      · show Rp K G3 k (kV k')
        rw [← h4]
        exact kV_rp
theorem d_items {kvs : List (PyData × PyData)} (h : TrD K te σ G (.dict kvs)) : TrD K (LiI.tListItems te) σ G (.list (kvs.map pairD)) := fun G1 M H e A Q q => by
  refine h G1 M H e A _ fun v G2 H2 e2 A2 r => ?_
  obtain ⟨a, es, rfl, h1, h2⟩ := r
  refine ⟨a, es, rfl, A2.g _ _ h1, fun H' p ts hx hp hts hpt hH hpr => ?_⟩
  have inG : Ex G2 (fun b => if b = p ∨ b ∈ ts then H' b else G2 b) := fun b o z => by
    have hb : ¬ (b = p ∨ b ∈ ts) := fun y => by
      have zz := A2.g _ _ z
      rcases y with y | y
      · rw [y, hp] at zz; cases zz
      · rw [hts b y] at zz; cases zz
    show (if b = p ∨ b ∈ ts then H' b else G2 b) = some o
    rw [if_neg hb]
    exact z
  have A3 : At (fun b => if b = p ∨ b ∈ ts then H' b else G2 b) M H' := by
    refine ⟨fun b o z => ?_, fun b o z => hx _ _ (A2.m _ _ z), fun b o z => ?_⟩
    · have z' : (if b = p ∨ b ∈ ts then H' b else G2 b) = some o := z
      by_cases hb : b = p ∨ b ∈ ts
      · rw [if_pos hb] at z'; exact z'
      · rw [if_neg hb] at z'; exact hx _ _ (A2.g _ _ z')
    · have hb : ¬ (b = p ∨ b ∈ ts) := fun y => by
        have zz := A2.m _ _ z
        rcases y with y | y
        · rw [y, hp] at zz; cases zz
        · rw [hts b y] at zz; cases zz
      show (if b = p ∨ b ∈ ts then H' b else G2 b) = none
      rw [if_neg hb]
      exact A2.d _ _ z
  refine q (.ref p) _ H' (e2.trans inG) A3 ⟨p, ts.map V.ref, rfl, by show (if p = p ∨ p ∈ ts then H' p else G2 p) = _; rw [if_pos (.inl rfl)]; exact hH, ?_⟩
  exact items_rp hpr (h2.up inG) fun t ht => if_pos (.inr ht)
theorem pairs_of : ∀ {kvs : List (Str × PyData)} {xs : List V}, RpL K G ((keysD kvs).map pairD) xs → ∃ (ps : List Addr) (es : List (Key × V)), xs = ps.map V.ref ∧ Paired (fun p kv => SqT K G p [kV kv.1, kv.2]) ps es ∧ RpD K G (keysD kvs) es
  | [], xs, h => ⟨[], [], h, .nil, rfl⟩
  | (k, d) :: r, _, ⟨x, xs, e, ⟨a, ys, h1, h2, h3⟩, h4⟩ => by
    obtain ⟨ps, es, h5, h6, h7⟩ := pairs_of h4
    obtain ⟨y, _, rfl, h8, z, _, rfl, h9, rfl⟩ := h3
    rw [e, h1, h5]
    refine ⟨a :: ps, (Sum.inr k, z) :: es, rfl, .cons ?_ h6, ⟨Sum.inr k, z, es, rfl, rfl, h9, h7⟩⟩
    rw [show y = V.str k from h8] at h2
    exact h2
theorem rc_dictP {kvs : List (Str × PyData)} (nd : (kvs.map (·.1)).Nodup) : RC K (fun xs H Q => ∃ (a : Addr) (ps : List Addr) (kvs : List (Key × V)), xs = [.ref a] ∧ SqL K H a (ps.map V.ref) ∧ Paired (fun p kv => SqT K H p [kV kv.1, kv.2]) ps kvs ∧
    ∀ p, H p = none → Q (.ref p) (upd H p (.dK (mergeK [] kvs)))) [.list ((keysD kvs).map pairD)] (.dict (keysD kvs)) := fun G M H xs A ⟨x, r, e, ⟨a, ys, h1, h2, h3⟩, h'⟩ Q q => by
  rw [e, show r = [] from h', h1]
  obtain ⟨ps, es, rfl, h5, h6⟩ := pairs_of h3
  refine ⟨a, ps, es, rfl, SqL.of (A.g _ _ h2), Paired.mono (fun _ _ h => A.g.stt h) h5, fun p hp => ?_⟩
  rw [merge_new (by rw [List.nil_append]; exact keys_nodup h6 nd), List.nil_append]
  exact q.newG A hp ⟨p, es, rfl, upd_same, h6.up (Ex.new (A.gNone hp))⟩
end
end Sb

namespace Sb
open PySem PySem.Spec PyProof.Rows L2
/-! ### how long a repr is -/
mutual
def wS : PyData → Nat
  | .none => 4
  | .bool _ => 5
  | .int _ => 18
  | .str x => 10 * x.length + 2
  | .list xs => 2 + wSA xs
  | .tuple xs => 3 + wSA xs
  | .dict xs => 2 + wSK xs
def wSA : List PyData → Nat
  | [] => 0
  | x :: xs => wS x + 2 + wSA xs
def wSK : List (PyData × PyData) → Nat
  | [] => 0
  | (k, v) :: r => wS k + wS v + 4 + wSK r
end
mutual
def fiS : PyData → Bool
  | .none => true
  | .bool _ => true
  | .int i => decide (0 ≤ i) && decide (i < 1000000000000000000)
  | .str x => x.cps.toList.all (· < 4294967296)
  | .list xs => fiSA xs
  | .tuple xs => fiSA xs
  | .dict xs => fiSK xs
def fiSA : List PyData → Bool
  | [] => true
  | x :: xs => fiS x && fiSA xs
def fiSK : List (PyData × PyData) → Bool
  | [] => true
  | (k, v) :: r => fiS k && fiS v && fiSK r
end
def pil (ts : List Str) : Nat := (ts.map fun t => t.length + 2).sum
theorem join_pil (ts : List Str) : (Str.join ", " ts).length ≤ pil ts := by
  refine Nat.le_trans (StrLaws.join_length_le _ _) ?_
  unfold pil
  induction ts with
  | nil => simp
  | cons t ts ih =>
    rw [List.map_cons, List.map_cons, List.sum_cons, List.sum_cons, List.length_cons, Nat.succ_mul]
    have h : (", " : Str).length = 2 := rfl
    rw [h] at ih ⊢
    omega
theorem from_pil : ∀ (ts : List Str) (k : Nat) (acc : Str), (textFrom k acc ts).length ≤ acc.length + pil ts
  | [], k, acc => by show acc.length ≤ acc.length + 0; omega
  | t :: r, k, acc => by
    have h := from_pil r (k + 1) (acc ++ (if k > 0 then ", " else "" : String) ++ t)
    have h2 : (acc ++ (if k > 0 then ", " else "" : String) ++ t : Str).length ≤ acc.length + 2 + t.length := by
      rw [strLen_append, strLen_append]
      have : (Str.ofString (if k > 0 then ", " else "" : String)).length ≤ 2 := by split <;> decide
      omega
    show (textFrom (k + 1) (acc ++ (if k > 0 then ", " else "" : String) ++ t) r).length ≤ _
    unfold pil at h ⊢
    rw [List.map_cons, List.sum_cons]
    omega
theorem int_len {i : Int} (h0 : 0 ≤ i) (h1 : i < 1000000000000000000) : (Str.ofString (toString i)).length ≤ 18 := by
  obtain ⟨n, rfl⟩ := Int.eq_ofNat_of_zero_le h0
  rw [TL.len_tl, show TL.tl (Str.ofString (toString ((n : Nat) : Int))) = TL.numL n from TL.tl_num n]
  exact TL.numL_len (by decide) (by have : (n : Int) < 1000000000000000000 := h1; omega)
mutual
theorem shown_le : ∀ d : PyData, fiS d = true → d.shown.length ≤ wS d
  | .none, _ => by simp only [PyData.shown, wS]; decide
  | .bool b, _ => by simp only [PyData.shown, wS]; cases b <;> decide
  | .int i, h => by
    simp only [PyData.shown, wS]
    simp only [fiS, Bool.and_eq_true] at h
    exact int_len (of_decide_eq_true h.1) (of_decide_eq_true h.2)
  | .str x, h => by
    simp only [PyData.shown, wS]
    simp only [fiS] at h
    exact StrLaws.reprText_len x fun c hc => of_decide_eq_true (List.all_eq_true.mp h c hc)
  | .list xs, h => by
    simp only [PyData.shown, wS]
    simp only [fiS] at h
    have h1 := shownA_le xs h
    have h2 := from_pil (PyData.shownAll xs) 0 "["
    unfold listText
    rw [strLen_append]
    have h3 : ("[" : Str).length = 1 := rfl
    have h4 : ("]" : Str).length = 1 := rfl
    omega
  | .tuple xs, h => by
    simp only [PyData.shown, wS]
    simp only [fiS] at h
    have h1 := shownA_le xs h
    have h2 := join_pil (PyData.shownAll xs)
    unfold tupleText
    rw [strLen_append, strLen_append]
    have h3 : ("(" : Str).length = 1 := rfl
    have h4 : (Str.ofString (if (PyData.shownAll xs).length == 1 then ",)" else ")" : String)).length ≤ 2 := by split <;> decide
    omega
  | .dict xs, h => by
    simp only [PyData.shown, wS]
    simp only [fiS] at h
    have h1 := shownK_le xs h
    have h2 := join_pil (PyData.shownKv xs)
    unfold dictText
    rw [strLen_append, strLen_append]
    have h3 : ("{" : Str).length = 1 := rfl
    have h4 : ("}" : Str).length = 1 := rfl
    omega
theorem shownA_le : ∀ ds : List PyData, fiSA ds = true → pil (PyData.shownAll ds) ≤ wSA ds
  | [], _ => by simp [PyData.shownAll, wSA, pil]
  | x :: xs, h => by
    simp only [fiSA, Bool.and_eq_true] at h
    have h1 := shown_le x h.1
    have h2 := shownA_le xs h.2
    unfold pil at h2 ⊢
    simp only [PyData.shownAll, wSA, List.map_cons, List.sum_cons]
    omega
theorem shownK_le : ∀ ds : List (PyData × PyData), fiSK ds = true → pil (PyData.shownKv ds) ≤ wSK ds
  | [], _ => by simp [PyData.shownKv, wSK, pil]
  | (k, v) :: xs, h => by
    simp only [fiSK, Bool.and_eq_true] at h
    have h1 := shown_le k h.1.1
    have h0 := shown_le v h.1.2
    have h2 := shownK_le xs h.2
    unfold pil at h2 ⊢
    simp only [PyData.shownKv, wSK, List.map_cons, List.sum_cons]
    rw [strLen_append, strLen_append]
    have h3 : (": " : Str).length = 2 := rfl
    omega
end
section
variable {K : PySem.W.Frag} {σ : L2.St} {G G' M H : Hp} {ta tb te : TE} {d d1 d2 d3 : PyData} {ds es : List PyData} {D : Ends} {s2 : TS} {i j : Nat}
/-- x = a + b of lists: the new list is still to be written -/
theorem q_newCat (ha : TrD K ta σ G (.list ds)) (hb : TrD K tb σ G (.list es)) (hn : ds.length + es.length ≤ 100000) (A : At G M H) (k : ∀ p xs G' H', Ex G G' → M p = none → G' p = none → At G' (upd M p (.lst xs)) H' → RpL K G' (ds ++ es) xs → s2 D (σ.set i (some (.ref p))) H') : tSeq (tAsg (tOp rCat ta tb) (gName i)) s2 D σ H := by
  refine ha G M H (Ex.refl _) A _ fun v G1 H1 e1 A1 r1 => ?_
  refine hb G1 M H1 e1 A1 _ fun w G2 H2 e2 A2 r2 => ?_
  obtain ⟨a, xs, rfl, h1, h2⟩ := r1.up e2
  obtain ⟨b, ys, rfl, k1, k2⟩ := r2
  exact ⟨a, b, xs, ys, rfl, rfl, A2.g _ _ h1, A2.g _ _ k1, by rw [h2.len, k2.len]; exact sz_of hn, fun p hp => k p (xs ++ ys) G2 _ (e1.trans e2) (A2.mNone hp) (A2.gNone hp) (A2.nm hp) (h2.app k2)⟩
theorem q_par (ha : TrD K ta σ G d1) (hb : TrD K tb σ G d2) (A : At G M H) (k : ∀ v w G' H', Ex G G' → At G' M H' → Rp K G' d1 v → Rp K G' d2 w → s2 D ((σ.set i (some v)).set j (some w)) H') : tSeq (tPar i j (tCons ta (tCons tb tNil))) s2 D σ H := by
  refine w_A (a_cons ha (a_cons hb a_nil)) A fun vs G1 H1 e1 A1 r1 => ?_
  obtain ⟨v, _, rfl, h1, w, _, rfl, h2, rfl⟩ := r1
  exact ⟨v, w, rfl, k v w G1 H1 e1 A1 h1 h2⟩
/-- if test: xs.append(e) -/
theorem q_ifAppend {b : Bool} {tc : TT} {p : Addr} {xs : List V} (hc : TrB tc σ G b) (hv : b = true → TrD K te σ G d) (hi : σ[i]? = some (some (.ref p))) (rx : RpL K G ds xs) (hn : ds.length < 100000) (A : At G (upd M p (.lst xs)) H)
    (k : ∀ xs' G' H', Ex G G' → At G' (upd M p (.lst xs')) H' → RpL K G' (if b = true then ds ++ [d] else ds) xs' → s2 D σ H') : tSeq (tIfS tc (tDrop (tBM K "list" rAppend (tVar i) (tCons te tNil))) tNext) s2 D σ H := by
  refine s_seq (s_if hc A (fun hb G1 H1 e1 A1 => ?_) fun hb G1 H1 e1 A1 => ?_)
  · refine s_append hi upd_same ((hv hb).up e1) (by rw [rx.len]; exact hn) A1 fun v G2 H2 e2 A2 r2 => ?_
    rw [upd_upd] at A2
    refine k _ G2 H2 (e1.trans e2) A2 ?_
    rw [if_pos hb]
    exact (rx.up (e1.trans e2)).snoc r2
  · refine k _ G1 H1 e1 A1 ?_
    rw [if_neg (by rw [hb]; decide)]
    exact rx.up e1
end
end Sb

namespace Sb
open PySem PySem.Spec PyProof.Rows L2
section
variable {K : PySem.W.Frag} {σ : L2.St} {G G' M M0 M1 H : Hp} {ta tb te tc : TE} {d d1 d2 d3 : PyData} {tt t u : TT} {ts : TA} {ds es : List PyData} {Q : VK} {D : Ends} {s1 s2 tbd : TS} {i j n m n' : Nat} {r p a : Addr} {o : HO} {Φ Φ1 : PyData → Prop}
/-- what is seen of a statement's end, for all its ways at once -/
theorem q_cut (Post : L2.St → Hp → Prop) (k : ∀ σ H, Post σ H → s2 D σ H) (h : (∀ σ H, Post σ H → s2 D σ H) → s1 { D with nx := s2 D } σ H) : tSeq s1 s2 D σ H := h k
/-! ### the script: a list that the program does not write -/
theorem d_lenQ {xs : List V} (hi : σ[i]? = some (some (.ref a))) (hs : SqL K G a xs) : TrD K (tCB (rLen K) (tCons (tVar i) tNil)) σ G (.int xs.length) := fun G1 M H e A Q q =>
  ⟨.ref a, hi, V.ref a, xs.length, rfl, .inl ⟨xs, (e.trans A.g).sl hs, rfl⟩, q.here A rfl⟩
theorem d_ixQ {ns : List Int} {k z : Int} (hi : σ[i]? = some (some (.ref a))) (hs : SqL K G a (ns.map V.int)) (hb : TrD K tb σ G (.int k)) (hk : L2.atI ns k = some z) : TrD K (tOp (rIxL K) (tVar i) tb) σ G (.int z) := fun G1 M H e A Q q => by
  refine ⟨.ref a, hi, ?_⟩
  refine hb G1 M H e A _ fun v G2 H2 e2 A2 r2 => ?_
  refine ⟨a, ns.map V.int, k, V.int z, rfl, r2, ((e.trans e2).trans A2.g).sl hs, ?_, (q.mono e2).here A2 rfl⟩
  unfold L2.atI at hk ⊢
  rw [List.length_map]
  cases h : ixN ns.length k with
  | none => rw [h] at hk; cases hk
  | some j =>
    rw [h] at hk
    show (ns.map V.int)[j]? = _
    rw [List.getElem?_map, show ns[j]? = some z from hk]
    rfl
theorem d_slQ {ns : List Int} {tl th : TO} {lo hi : Option Int} (hσ : σ[i]? = some (some (.ref a))) (hs : SqL K G a (ns.map V.int)) (h1 : TrO tl σ G lo) (h2 : TrO th σ G hi) : TrD K (tSl (rSlL K) (tVar i) tl th) σ G (.list (Sb.cutD (dInts ns) lo hi)) := fun G1 M H e A Q q => by
  refine ⟨.ref a, hσ, ?_⟩
  refine h1 G1 M H e A _ fun G3 H3 e3 A3 => ?_
  refine h2 G3 M H3 (e.trans e3) A3 _ fun G4 H4 e4 A4 => ?_
  refine ⟨a, ns.map V.int, rfl, (((e.trans e3).trans e4).trans A4.g).sl hs, fun p hp => ?_⟩
  exact ((q.mono (e3.trans e4))).newG A4 hp ⟨p, _, rfl, upd_same, RpL.cut ((rpL_ints ns).mpr rfl)⟩
/-! ### for over a list of data, any target -/
theorem s_forLG {g : TG} (Inv : Nat → L2.St → Hp → Hp → Prop) (h : TrD K te σ G (.list ds)) (A : At G M H) (mono : ∀ {k : Nat} {σ1 : L2.St} {G1 G2 M1 : Hp}, Ex G1 G2 → Inv k σ1 G1 M1 → Inv k σ1 G2 M1)
    (h0 : Inv 0 σ G M)
    (hb : ∀ (k : Nat) d, ds[k]? = some d → ∀ x σ1 G1 M1 H1, Ex G G1 → At G1 M1 H1 → Inv k σ1 G1 M1 → Rp K G1 d x → ∀ Nx : L2.St → Hp → Prop, (∀ σ2 G2 M2 H2, Ex G1 G2 → At G2 M2 H2 → Inv (k + 1) σ2 G2 M2 → Nx σ2 H2) →
      g x σ1 H1 fun σ2 H2 => tbd { D with nx := Nx, ct := Nx, bk := D.nx } σ2 H2)
    (hd : ∀ σ1 G1 M1 H1, Ex G G1 → At G1 M1 H1 → Inv ds.length σ1 G1 M1 → D.nx σ1 H1) :
    tFor (iList K te) g tbd D σ H := by
  refine h G M H (Ex.refl _) A _ fun v G2 H2 e2 A2 r => ?_
  obtain ⟨a, xs, rfl, k1, k2⟩ := r
  refine ⟨a, rfl, ⟨xs, SqL.of (A2.g _ _ k1)⟩, ?_⟩
  refine for_list (K := K) (a := a) (xs := xs) (fun t σ' H' => ∃ G3 M3, Ex G2 G3 ∧ At G3 M3 H' ∧ Inv t σ' G3 M3) ⟨G2, M, Ex.refl _, A2, mono e2 h0⟩ ?_ ?_ ?_
  · rintro t σ' H' _ ⟨G3, M3, e3, A3, _⟩
    exact SqL.of (A3.g _ _ (e3 _ _ k1))
  · rintro t x σ' H' hx ⟨G3, M3, e3, A3, hI⟩
    obtain ⟨d, hd1, rd⟩ := k2.get hx
    exact hb t d hd1 _ _ _ _ _ (e2.trans e3) A3 hI (rd.up e3) _ fun σ5 G5 M5 H5 e5 A5 i5 => ⟨G5, M5, e3.trans e5, A5, i5⟩
  · rintro σ' H' ⟨G3, M3, e3, A3, hI⟩
    rw [k2.len] at hI
    exact hd σ' G3 M3 H' (e2.trans e3) A3 hI
/-! ### x.pop(i), x a list that is written, i drawn -/
theorem w_pop {xs : List V} (hi : σ[i]? = some (some (.ref p))) (hp : M0 p = some (.lst xs)) (hn : p ≠ r) (hl : xs.length ≤ 100000) (h : TrE K r M0 te σ G n n' fun d => ∃ k : Nat, d = .int k ∧ k < xs.length) (A : At G M H) (S : Same r M0 M) (R : RL r n M)
    (k : ∀ (k : Nat) y G' M' H', xs[k]? = some y → Ex G G' → At G' M' H' → Same r (upd M0 p (.lst (xs.eraseIdx k))) M' → RL r n' M' → Q y H') : tBM K "list" rPopAt (tVar i) (tCons te tNil) σ H Q := by
  refine ⟨.ref p, hi, Or.inl ⟨rfl, _, Or.inl (Or.inl (A.m _ _ ((S p hn).trans hp)))⟩, ?_⟩
  refine h G M H (Ex.refl _) A S R _ fun d v G2 M2 H2 e2 A2 S2 R2 hd rv => ?_
  obtain ⟨kk, rfl, hk⟩ := hd
  have hM2 : M2 p = some (.lst xs) := (S2 p hn).trans hp
  have hx : xs[kk]? = some xs[kk] := List.getElem?_eq_getElem hk
  refine ⟨p, xs, (kk : Int), kk, xs[kk], rfl, by rw [show v = V.int _ from rv], A2.m _ _ hM2, ?_, ?_, ?_, hx, ?_⟩
  · have h63 : (2 : Int) ^ 63 = 9223372036854775808 := rfl
    omega
  · have h63 : (2 : Int) ^ 63 = 9223372036854775808 := rfl
    omega
  · unfold seqIndex?
    have e1 : ¬ ((kk : Int) < 0) := by omega
    have e2 : (decide (0 ≤ (kk : Int)) && decide ((kk : Int) < (xs.length : Int))) = true := by rw [decide_eq_true (by omega), decide_eq_true (by omega)]; rfl
    simp only [if_neg e1, e2, if_true, Int.toNat_natCast]
  · refine k kk _ G2 (upd M2 p (.lst (xs.eraseIdx kk))) _ hx e2 (A2.wr hM2) (fun x hx => ?_) (R2.upd hn)
    by_cases e : x = p
    · subst e
      rw [upd_same, upd_same]
    · rw [upd_ne e, upd_ne e]
      exact S2 x hx
/-- what was made on the way is let go -/
theorem At.back (A : At G M H) (h : ∀ x, x ≠ r → ∀ o, M0 x = some o → M x = some o) : ∃ M', At G M' H ∧ Same r M0 M' ∧ M' r = M r := by
  refine ⟨fun x => if x = r then M r else M0 x, A.drop fun x o z => ?_, fun x hx => if_neg hx, if_pos rfl⟩
  have z' : (if x = r then M r else M0 x) = some o := z
  by_cases hx : x = r
  · rw [if_pos hx] at z'
    rw [hx]
    exact z'
  · rw [if_neg hx] at z'
    exact h x hx o z'
theorem q_parE {Ψ : List PyData → Prop} (h : TrEA K r M0 (tCons ta (tCons tb tNil)) σ G n n' Ψ) (hl : ∀ ds, Ψ ds → ds.length = 2) (A : At G M H) (S : Same r M0 M) (R : RL r n M)
    (k : ∀ ds v w G' M' H', Ex G G' → At G' M' H' → Same r M0 M' → RL r n' M' → Ψ ds → RpL K G' ds [v, w] → s2 D ((σ.set i (some v)).set j (some w)) H') : tSeq (tPar i j (tCons ta (tCons tb tNil))) s2 D σ H := by
  show tCons ta (tCons tb tNil) σ H (fun vs H1 => ∃ v w, vs = [v, w] ∧ s2 D ((σ.set i (some v)).set j (some w)) H1)
  refine h G M H (Ex.refl G) A S R _ fun ds vs G' M' H' e A' S' R' hd rv => ?_
  have z := rv.len
  rw [hl ds hd] at z
  match vs, z, rv with
  | [v, w], _, rv => exact ⟨v, w, rfl, k ds v w G' M' H' e A' S' R' hd rv⟩
theorem d_val {v : V} (h : Rp K G d v) : TrD K (fun _ H Q => Q v H) σ G d := fun G1 M H e A Q q => q.here A (h.up e)
/-- for over a list whose making draws -/
theorem s_forLE {g : TG} (h : TrE K r M0 te σ G n n' Φ) (hΦ : ∀ d, Φ d → ∃ ds, d = .list ds) (A : At G M H) (S : Same r M0 M) (R : RL r n M)
    (k : ∀ ds v G' M' H', Ex G G' → At G' M' H' → Same r M0 M' → RL r n' M' → Φ (.list ds) → Rp K G' (.list ds) v → tFor (iList K (fun _ H Q => Q v H)) g tbd D σ H') : tFor (iList K te) g tbd D σ H := by
  refine h G M H (Ex.refl G) A S R _ fun d v G' M' H' e A' S' R' hd rv => ?_
  obtain ⟨ds, rfl⟩ := hΦ d hd
  exact k ds v G' M' H' e A' S' R' hd rv
end
end Sb

namespace Sb
open PySem PySem.Spec PyProof.Rows L2
/-! ### the end of a law whose def asks that no repr is running -/
theorem law_goes {P : Program} {w : World} {K : PySem.W.Frag} {mg mb : Str → Option Value} {CX : CXT} {k : Nat} {fn a : Addr} {fd : FuncData} {x : Str} {sp : Sp} {t : Shared} {us : List Value} {ns : List Int}
    (inK : K.In t.heap) (gs : t.heap.Ns mainGlobals mg) (bs : t.heap.Ns builtinsNs mb) (bb : ∀ y : Str, y ≠ "__name__" → mb y = bootBuiltins y) (nl : t.heap.NoLimit) (ng : t.gens = #[])
    (la : t.heap.get? a = some { cls := .type "list", data := .seq us.toArray }) (iu : IntsAre us ns) (sz : ns.length ≤ sizeLine) (rm : Room k callerA)
    (F : ∀ bh : Heap, K.In bh → bh.Ns mainGlobals mg → FnG P w K mg bh CX k fn fd [x] sp) (bnd : ∀ (s : Shared) (u : Value), BindsTo s fd ⟨[u], []⟩ [(x, u)])
    (pr : ∀ H : Hp, Only H → SqL K H a (ns.map V.int) → sp [.ref a] H (fun v _ => v = .bl true) fun _ _ _ => False)
    (hx : ∀ H e s', CX [] H t (fun _ _ _ => False) e s' → False) :
    codeAny (model P w) callerA (.call (.ref fn) ⟨[.ref a], []⟩) (fun o s' => o = .ok (.ret (.bool true)) ∧ OldK t.heap s'.heap ∧ s'.os = t.os ∧ AllBare s'.gens) t := by
  have rel := vals_ints iu
  have eqn := iu.length
  have main : ∀ H : Hp, Only H → SqL K H a (ns.map V.int) → HOk P w H t.heap → (∀ b, H b ≠ none → b = a) → (H a ≠ none → K.lookup a = none) → codeAny (model P w) callerA (.call (.ref fn) ⟨[.ref a], []⟩) (fun o s' => o = .ok (.ret (.bool true)) ∧ OldK t.heap s'.heap ∧ s'.os = t.os ∧ AllBare s'.gens) t := by
    intro H oH sH okH onA outK
    have inBase : ∀ {b : Addr} {o : Obj}, t.heap.get? b = some o → H b = none → (hidT t.heap H).get? b = some o := fun g0 g1 => hidT_get g0 g1
    have notA : ∀ {b : Addr} {o : Obj} {es : Array DictEntry} {ep : Nat}, t.heap.get? b = some o → o.data = .dict es ep → H b = none := fun {b o es ep} g0 g1 => by
      cases hb : H b with
      | none => rfl
      | some u =>
        have z : b = a := onA b (by rw [hb]; intro y; cases y)
        rw [z, la] at g0
        cases g0
        cases (show Data.seq us.toArray _ = Data.dict es ep from g1)
    have nsOf : ∀ {b : Addr} {m : Str → Option Value}, t.heap.Ns b m → (hidT t.heap H).Ns b m := fun {b m} ⟨o, es, ep, g0, g1, g2⟩ => ⟨o, es, ep, inBase g0 (notA g0 g1), g1, g2⟩
    have inHid : K.In (hidT t.heap H) := fun b o g0 => inBase (inK b o g0) (by
      cases hb : H b with
      | none => rfl
      | some u =>
        have z : b = a := onA b (by rw [hb]; intro y; cases y)
        rw [z, outK (by rw [← z, hb]; intro y; cases y)] at g0
        cases g0)
    have modH : Mod K mg (hidT t.heap H) := ⟨inHid, nsOf gs, ⟨mb, nsOf bs, bb⟩, by obtain ⟨mc, y1, y2⟩ := nl; exact ⟨mc, nsOf y1, y2⟩⟩
    have env : Env0 P w K mg (hidT t.heap H) callerA [] t H := ⟨rfl, modH, fun _ _ g0 => of_hidT g0, Nat.le_of_eq (hidT_size _ _), trivial, fun b hb => (by cases (show b ∈ ([] : List Addr) from hb)), okH, .of_eq ng⟩
    have go := (F _ inHid (nsOf gs)).run callerA [] t H ⟨[.ref a], []⟩ [.ref a] [.ref a] _ _ rfl rm env (bnd t (.ref a)) (.cons rfl .nil) (pr H oH sH)
    refine codeAny_mono go fun o s' h => ?_
    match o, h with
    | .error e, h => exact (hx H e s' h).elim
    | .ok .next, h => exact False.elim h
    | .ok .brk, h => exact False.elim h
    | .ok .cont, h => exact False.elim h
    | .ok (.ret u), h =>
      obtain ⟨v, H', os, br, un, okH', rv, hv⟩ := h
      rw [show v = V.bl true from hv] at rv
      cases (show u = Value.bool true from rv)
      refine ⟨rfl, OldK.of_keep fun b o g0 => ?_, os, br⟩
      cases hb : H b with
      | none => exact un.keep b o g0 hb (fun y => by cases (show b ∈ ([] : List Addr) from y)) (by simp)
      | some u =>
        obtain y | ⟨ob, xs, y⟩ := oH b
        · rw [hb] at y; cases y
        · obtain ⟨y1, _⟩ := okH b _ y
          obtain ⟨y2, _⟩ := okH' b _ (un.frzs b ob _ y)
          rw [g0] at y1
          cases y1
          exact y2
  cases ka : K.lookup a with
  | some o =>
    have g0 := inK a o ka
    rw [la] at g0
    cases g0
    exact main (fun _ => none) (fun _ => .inl rfl) (.inr ⟨_, us.toArray, _, ka, rfl, rfl, rfl, by rw [List.size_toArray, eqn]; exact sz, by simpa using rel⟩) (fun _ _ y => by cases (show (none : Option HO) = some _ from y)) (fun _ y => absurd rfl y) fun y => absurd rfl y
  | none =>
    let H0 : Hp := fun b => if b = a then some (.frz { cls := .type "list", data := .seq us.toArray } (.lst (ns.map V.int))) else none
    have at_ : H0 a = some (.frz { cls := .type "list", data := .seq us.toArray } (.lst (ns.map V.int))) := if_pos rfl
    have off : ∀ {b}, b ≠ a → H0 b = none := fun h => if_neg h
    refine main H0 (fun b => ?_) (.inl (.inr ⟨_, at_⟩)) (fun b u y => ?_) (fun b y => ?_) fun _ => ka
    · by_cases hb : b = a
      · rw [hb]; exact .inr ⟨_, _, at_⟩
      · exact .inl (off hb)
    · by_cases hb : b = a
      · rw [hb, at_] at y
        cases y
        rw [hb]
        exact ⟨la, by rw [List.length_map]; exact sz, us, _, rel, la⟩
      · rw [off hb] at y
        cases y
    · exact Decidable.byContradiction fun hb => y (off hb)
theorem law_walks {l : PySem.W.OpenLaw} {n k : Nat} {q : Program} {loose : List Str} {XP : (Str → Option Value) → Heap → Prop} {YP : World → Heap → Prop} {d : DefRec} {CX : CXT} {x : Str} (h1 : l.most = some n) (h2 : n ≤ sizeLine) (h3 : d.params.defaults = []) (h4 : Room k callerA)
    (F : ∀ (w : World) (mg : Str → Option Value) (fn : Addr) (h : Heap), YP w h → h.Ns mainGlobals mg → mg d.name = some (.ref fn) → ∃ (K : PySem.W.Frag) (fd : FuncData) (sp : Sp), K.In h ∧ (∀ (s : Shared) (u : Value), BindsTo s fd ⟨[u], []⟩ [(x, u)]) ∧
        (∀ (H : Hp) (a : Addr) (ns : List Int), ns.length ≤ n → Only H → SqL K H a (ns.map V.int) → sp [.ref a] H (fun v _ => v = .bl true) fun _ _ _ => False) ∧ ∀ bh : Heap, K.In bh → bh.Ns mainGlobals mg → FnG l.prog w K mg bh CX k fn fd [x] sp)
    (hx : ∀ (H : Hp) (s : Shared) (e : Value) (s' : Shared), CX [] H s (fun _ _ _ => False) e s' → False) : PySem.W.WalkO q loose XP YP l.row.toRowW d [] (fun f vs => PySem.call f vs) := by
  refine Att.attach_call h1 h3 fun w s₀ t mg mb fn o pm cd doc a us ns G Y ho hd hcd em eo ei el eg => ?_
  obtain ⟨K, fd, sp, inK, bnd, pr, go⟩ := F w mg fn _ Y G.T.g em
  exact law_goes inK G.T.g G.T.b G.T.builtins G.T.nolimit eg eo ei (Nat.le_trans el h2) h4 go bnd (fun H u v => pr H a ns el u v) fun H e s' => hx H t e s'
end Sb

namespace Sb
open PySem PySem.Spec PyProof.Rows L2
/-! ### what the top leaves of the classes -/
def clsOk (K : PySem.W.Frag) (C : Addr) : Bool := match K.lookup C with
  | some ⟨.type "type", _, .cls cd, sl⟩ => (match cd.mro, sl.toList with
    | .ref C' :: bm, [_, _, _, _, some (.builtin n), _] => C' == C && (n == "ValueError.__new__" && (!cd.hasDel && (cd.hasDict && PySem.HandSPX.refsVE bm)))
    | _, _ => false)
  | _ => false
def initIs (K : PySem.W.Frag) (C : Addr) : Bool := match PySem.W.findCls K (.ref C) (.type "type") "__init__" with
  | some (.val (.builtin n)) => n == "ValueError.__init__"
  | _ => false
/-- an own exception class with its own __init__ -/
def ownX (K : PySem.W.Frag) (x : Str) : Bool := clsOk K (He.ga K x) && (decide (PySem.W.findIn K (.ref (He.ga K x)) "__setattr__" = some (some (.builtin "object.__setattr__"))) && (decide (PySem.W.subIn K (.ref (He.ga K x)) (.type "BaseException") = some true) &&
  (decide (PySem.W.typeIn K (.ref (He.ga K x)) = some (.type "type")) && (PySem.W.keepIn K (.ref (He.ga K x)) && (decide (PySem.W.findIn K (.ref (He.ga K x)) "__init__" = some (some (.ref (He.ma K (He.ga K x) "__init__")))) &&
  (decide (PySem.W.typeIn K (.ref (He.ma K (He.ga K x) "__init__")) = some (.type "function")) && L2.xfB K (He.ga K x)))))))
/-- its parent, which has none -/
def parX (K : PySem.W.Frag) (x : Str) : Bool := decide (PySem.W.specialIn K (.ref (He.ga K x)) "__getattribute__" = some (some (.builtin "type.__getattribute__"))) && (PySem.W.readsIn K (He.ga K x) (.type "type") && initIs K (He.ga K x))
structure OwnX (K : PySem.W.Frag) (x : Str) : Prop where
  o : OexC K (He.ga K x)
  i : PySem.W.findIn K (.ref (He.ga K x)) "__init__" = some (some (.ref (He.ma K (He.ga K x) "__init__")))
  t : PySem.W.typeIn K (.ref (He.ma K (He.ga K x) "__init__")) = some (.type "function")
  f : XfC K (He.ga K x)
structure ParX (K : PySem.W.Frag) (x : Str) : Prop where
  g : PySem.W.specialIn K (.ref (He.ga K x)) "__getattribute__" = some (some (.builtin "type.__getattribute__"))
  r : PySem.W.readsIn K (He.ga K x) (.type "type") = true
  v : PySem.W.findCls K (.ref (He.ga K x)) (.type "type") "__init__" = some (.val (.builtin "ValueError.__init__"))
theorem clsOk_ok {K : PySem.W.Frag} {C : Addr} (h : clsOk K C = true) : ∃ nm q N bs bm sn sub ab col dd k0 k1 k2 k3 k5, K.lookup C = some (excClassObj nm q C N bs bm true sn sub ab col dd k0 k1 k2 k3 k5 "ValueError.__new__") ∧ PySem.HandSPX.refsVE bm = true := by
  unfold clsOk at h
  split at h
  case h_1 dd cd sl e0 =>
    split at h
    case h_1 C' bm k0 k1 k2 k3 n k5 e1 e2 =>
      obtain ⟨h1, h⟩ := Bool.and_eq_true_iff.mp h
      obtain ⟨h2, h⟩ := Bool.and_eq_true_iff.mp h
      obtain ⟨h3, h⟩ := Bool.and_eq_true_iff.mp h
      obtain ⟨h4, h5⟩ := Bool.and_eq_true_iff.mp h
      have g1 := eq_of_beq h1
      have g2 := eq_of_beq h2
      subst g1 g2
      obtain ⟨f1, f2, f3, f4, f5, f6, f7, f8, f9, f10, f11⟩ := cd
      obtain ⟨sl⟩ := sl
      have g5 : sl = [k0, k1, k2, k3, some (.builtin "ValueError.__new__"), k5] := e2
      have g6 : f3 = .ref C' :: bm := e1
      have g4 : f6 = true := h4
      have g3 : f11 = false := by
        have h3' : (!f11) = true := h3
        cases f11 with
        | true => cases h3'
        | false => rfl
      subst g5 g6 g3 g4
      exact ⟨_, _, _, _, _, _, _, _, _, _, _, _, _, _, _, e0, h5⟩
    case h_2 => cases h
  case h_2 => cases h
theorem ownX_ok {K : PySem.W.Frag} {x : Str} (h : ownX K x = true) : OwnX K x := by
  obtain ⟨h1, h⟩ := Bool.and_eq_true_iff.mp h
  obtain ⟨h2, h⟩ := Bool.and_eq_true_iff.mp h
  obtain ⟨h3, h⟩ := Bool.and_eq_true_iff.mp h
  obtain ⟨h4, h⟩ := Bool.and_eq_true_iff.mp h
  obtain ⟨h5, h⟩ := Bool.and_eq_true_iff.mp h
  obtain ⟨h6, h⟩ := Bool.and_eq_true_iff.mp h
  obtain ⟨h7, h8⟩ := Bool.and_eq_true_iff.mp h
  exact ⟨⟨clsOk_ok h1, of_decide_eq_true h2, of_decide_eq_true h3, of_decide_eq_true h4, h5⟩, of_decide_eq_true h6, of_decide_eq_true h7, xfB_ok h8⟩
theorem parX_ok {K : PySem.W.Frag} {x : Str} (h : parX K x = true) : ParX K x := by
  obtain ⟨h1, h⟩ := Bool.and_eq_true_iff.mp h
  obtain ⟨h2, h3⟩ := Bool.and_eq_true_iff.mp h
  refine ⟨of_decide_eq_true h1, h2, ?_⟩
  unfold initIs at h3
  split at h3
  case h_1 n e => rw [e, eq_of_beq h3]
  case h_2 => cases h3
/-! ### Parent.__init__(self, ..) -/
section
variable {X : Cx} {e : Expr} {es : List Expr} {ta : TA} {x : Str} {p1 p2 pos : Pos}
theorem pe_ceinit {pl : Sem Bool} (hg : Gl X x) (hm : X.mg x = some (.ref (He.ga X.K x))) (T : ParX X.K x) (ha : PA X (e :: es) ta) (hdb : (x == ("__debug__" : Str)) = false := by decide)
    (hc : eval (.Call (.Attribute (.Name x p1) "__init__" p2) (e :: es) [] pos) X.env = (do
      let f0 ← eval (.Name x p1) X.env
      standAt p2.atName
      let (g, hd) ← holding [f0] (getMethod f0 "__init__" pl)
      callWith pos g hd (backTo pos (starEach (e :: es) X.env)) (backToKw pos (keywordEach [] X.env))) := by rfl)
    (he : starEach (e :: es) X.env = (false, eval e X.env) :: starEach es X.env := by rfl) (hpl : (backTo pos (starEach es X.env)).any (·.1) = false := by rfl) :
    PE X (.Call (.Attribute (.Name x p1) "__init__" p2) (e :: es) [] pos) (tVeI X.K ta) := by
  constructor
  intro pins s σ H Q I h
  refine PySem.W.methodCall_KW (ld_glob I hg hm ?_ hdb) hc
  refine PySem.W.method_cls I.kIn T.g (PySem.W.cls_value I.kIn T.r T.v rfl ?_)
  show wpAny _ _ (callWith pos (Value.builtin "ValueError.__init__") [] (backTo pos (starEach (e :: es) X.env)) []) _ _ _
  refine PyProof.Rows.callWith_method1 (thn (ha.run pos pins _ σ H _ (I.tok _) h) ?_) he hpl
  rintro us s1 ⟨vs, H1, I1, r1, a, C, ws, rfl, hl, T1, ea, q⟩
  cases r1 with
  | @cons _ u0 _ ur ra rw' =>
    cases (show u0 = Value.ref a from ra)
    have hz : ur.length ≤ sizeLine := by
      rw [← Paired.length rw']
      exact Nat.le_trans hl (by decide)
    exact oinit_ok T1 I1 ea hz fun s' J => ⟨.non, H1, J, rfl, q⟩
end
/-! ### own exceptions with two fields, with one -/
def spIni2 (C : Addr) (f1 f2 : Str) : Sp := fun vs H Q _ => ∃ a v1 v2, vs = [.ref a, v1, v2] ∧ H a = some (exo a C none) ∧ ∀ d, H d = none → d ≠ a → Q .non (upd (upd (upd H d (exd d [(f1, v1)])) a (exo a C (some d))) d (exd d [(f2, v2), (f1, v1)]))
def spIni1 (C : Addr) (f1 : Str) : Sp := fun vs H Q _ => ∃ a v1, vs = [.ref a, v1] ∧ H a = some (exo a C none) ∧ ∀ d, H d = none → d ≠ a → Q .non (upd (upd H d (exd d [(f1, v1)])) a (exo a C (some d)))
section
variable {K : PySem.W.Frag} {σ : L2.St} {G G' M H : Hp} {ts : TA} {C a : Addr} {f1 f2 msg : Str} {d1 d2 : PyData} {v1 v2 : V} {Q : VK} {E : XK}
theorem ini2 (T : OexC K C) (n1 : PySem.W.findIn K (.ref C) f1 = some none) (n2 : PySem.W.findIn K (.ref C) f2 = some none) {D : Ends} (h : H a = some (exo a C none)) (k : ∀ d, H d = none → d ≠ a → D.nx [some (.ref a), some v1, some v2] (upd (upd (upd H d (exd d [(f1, v1)])) a (exo a C (some d))) d (exd d [(f2, v2), (f1, v1)]))) :
    tSeq (tDrop (tVeI K (tCons (tVar 0) (tCons (tC (.str msg)) tNil)))) (tSeq (tOst K f1 (tVar 0) (tVar 1)) (tOst K f2 (tVar 0) (tVar 2))) D [some (.ref a), some v1, some v2] H := by
  refine ⟨_, rfl, a, C, [.str msg], rfl, Nat.le_of_ble_eq_true rfl, T, h, ?_⟩
  refine ⟨v1, rfl, .ref a, rfl, a, C, rfl, T, n1, .inl ⟨h, fun d hd hda => ?_⟩⟩
  refine ⟨v2, rfl, .ref a, rfl, a, C, rfl, T, n2, .inr ⟨d, [(f1, v1)], upd_same, ?_, Nat.le_of_ble_eq_true rfl, k d hd hda⟩⟩
  rw [upd_ne hda, upd_same]
theorem ini1 (T : OexC K C) (n1 : PySem.W.findIn K (.ref C) f1 = some none) {D : Ends} (h : H a = some (exo a C none)) (k : ∀ d, H d = none → d ≠ a → D.nx [some (.ref a), some v1] (upd (upd H d (exd d [(f1, v1)])) a (exo a C (some d)))) :
    tSeq (tDrop (tVeI K (tCons (tVar 0) (tCons (tC (.str msg)) tNil)))) (tOst K f1 (tVar 0) (tVar 1)) D [some (.ref a), some v1] H := by
  refine ⟨_, rfl, a, C, [.str msg], rfl, Nat.le_of_ble_eq_true rfl, T, h, ?_⟩
  exact ⟨v1, rfl, .ref a, rfl, a, C, rfl, T, n1, .inl ⟨h, fun d hd hda => k d hd hda⟩⟩
/-- what is wanted of an exception of the class x with these fields -/
def ResX (K : PySem.W.Frag) (G M : Hp) (x : Str) (fs : List (Str × PyData)) (E : XK) : Prop := ∀ d gs G' H', Ex G G' → At G' M H' → G' d = some (.xd gs) → (∀ f r, (f, r) ∈ fs → ∃ v, gs.lookup f = some v ∧ Rp K G' r v) → E (.ref (He.ga K x)) (some d) H'
theorem ResX.mono {x : Str} {fs : List (Str × PyData)} (e : Ex G G') (h : ResX K G M x fs E) : ResX K G' M x fs E := fun d gs G2 H2 e2 A => h d gs G2 H2 (e.trans e2) A
theorem s_raise2 {x : Str} (h : TrA K ts σ G [d1, d2]) (hf : f1 ≠ f2) (A : At G M H) (k : ResX K G M x [(f1, d1), (f2, d2)] E) : tMkO (He.ga K x) (spIni2 (He.ga K x) f1 f2) [] ts σ H fun cls d H' => E cls d H' := by
  refine w_A h A fun vs G1 H1 e1 A1 r => ?_
  obtain ⟨v1, _, rfl, r1, v2, _, rfl, r2, rfl⟩ := r
  refine ⟨Nat.le_of_ble_eq_true rfl, fun a ha => ⟨a, v1, v2, rfl, upd_same, fun d hd hda => ⟨rfl, d, [(f2, v2), (f1, v1)], ?_, upd_same, ?_, ?_⟩⟩⟩
  · rw [upd_ne (Ne.symm hda), upd_same]
  · rw [upd_ne hda] at hd
    exact hd
  · rw [upd_ne hda] at hd
    have hH : upd (del (upd (upd (upd (upd H1 a (exo a (He.ga K x) none)) d (exd d [(f1, v1)])) a (exo a (He.ga K x) (some d))) d (exd d [(f2, v2), (f1, v1)])) a) d (.xd [(f2, v2), (f1, v1)]) = upd H1 d (.xd [(f2, v2), (f1, v1)]) := by
      funext y
      by_cases hy : y = d
      · subst hy
        rw [upd_same, upd_same]
      · rw [upd_ne hy, upd_ne hy]
        by_cases hya : y = a
        · subst hya
          rw [del_same, ha]
        · rw [del_ne hya, upd_ne hy, upd_ne hya, upd_ne hy, upd_ne hya]
    rw [hH]
    have eN : Ex G1 (upd G1 d (.xd [(f2, v2), (f1, v1)])) := Ex.new (A1.gNone hd)
    refine k d _ _ _ (e1.trans eN) (A1.ng hd) upd_same fun f r hm => ?_
    rcases List.mem_cons.mp hm with e | hm
    · cases e
      refine ⟨v1, ?_, r1.up eN⟩
      rw [L2.lookup_put, if_neg hf, L2.lookup_put, if_pos rfl]
    · cases List.mem_singleton.mp hm
      exact ⟨v2, by rw [L2.lookup_put, if_pos rfl], r2.up eN⟩
theorem s_raise1 {x : Str} (h : TrA K ts σ G [d1]) (A : At G M H) (k : ResX K G M x [(f1, d1)] E) : tMkO (He.ga K x) (spIni1 (He.ga K x) f1) [] ts σ H fun cls d H' => E cls d H' := by
  refine w_A h A fun vs G1 H1 e1 A1 r => ?_
  obtain ⟨v1, _, rfl, r1, rfl⟩ := r
  refine ⟨Nat.le_of_ble_eq_true rfl, fun a ha => ⟨a, v1, rfl, upd_same, fun d hd hda => ⟨rfl, d, [(f1, v1)], upd_same, ?_, ?_, ?_⟩⟩⟩
  · rw [upd_ne hda, upd_same]
  · rw [upd_ne hda] at hd
    exact hd
  · rw [upd_ne hda] at hd
    have hH : upd (del (upd (upd (upd H1 a (exo a (He.ga K x) none)) d (exd d [(f1, v1)])) a (exo a (He.ga K x) (some d))) a) d (.xd [(f1, v1)]) = upd H1 d (.xd [(f1, v1)]) := by
      funext y
      by_cases hy : y = d
      · subst hy
        rw [upd_same, upd_same]
      · rw [upd_ne hy, upd_ne hy]
        by_cases hya : y = a
        · subst hya
          rw [del_same, ha]
        · rw [del_ne hya, upd_ne hya, upd_ne hy, upd_ne hya]
    rw [hH]
    have eN : Ex G1 (upd G1 d (.xd [(f1, v1)])) := Ex.new (A1.gNone hd)
    refine k d _ _ _ (e1.trans eN) (A1.ng hd) upd_same fun f r hm => ?_
    cases List.mem_singleton.mp hm
    exact ⟨v1, by rw [L2.lookup_put, if_pos rfl], r1.up eN⟩
/-! ### a def that gives a datum or raises -/
inductive Out where
  | val (d : PyData)
  | exc (x : Str) (fs : List (Str × PyData))
def Out.ok (K : PySem.W.Frag) (G M : Hp) (Q : VK) (E : XK) : Out → Prop
  | .val d => Res K G M d Q
  | .exc x fs => ResX K G M x fs E
def XSp (K : PySem.W.Frag) (R : List PyData → Out → Prop) : Sp := fun vs H Q E => ∃ G M ds o, At G M H ∧ RpL K G ds vs ∧ R ds o ∧ Out.ok K G M Q E o
theorem XSp.len {R : List PyData → Out → Prop} {n : Nat} (hR : ∀ ds o, R ds o → ds.length = n) {vs : List V} (h : XSp K R vs H Q E) : vs.length = n := by
  obtain ⟨G, M, ds, o, _, hr, h2, _⟩ := h
  rw [hr.len, hR _ _ h2]
theorem d_callX {R : List PyData → Out → Prop} {ds : List PyData} {d : PyData} {E : XK} (h : TrA K ts σ G ds) (hr : R ds (.val d)) : TrD K (tCall (XSp K R) [] E ts) σ G d := fun G1 M H e A Q q => by
  refine h G1 M H e A _ fun vs G2 H2 e2 A2 r2 => ?_
  exact ⟨G2, M, ds, .val d, A2, by rw [List.append_nil]; exact r2, hr, q.mono e2⟩
theorem w_callX {R : List PyData → Out → Prop} {ds : List PyData} {x : Str} {fs : List (Str × PyData)} (h : TrA K ts σ G ds) (hr : R ds (.exc x fs)) (A : At G M H) (k : ResX K G M x fs E) : tCall (XSp K R) [] E ts σ H Q := by
  refine w_A h A fun vs G2 H2 e2 A2 r2 => ?_
  exact ⟨G2, M, ds, .exc x fs, A2, by rw [List.append_nil]; exact r2, hr, k.mono e2⟩
theorem d_callS {R : List PyData → Out → Prop} {ds : List PyData} {d : PyData} {E : L2.St → XK} (h : TrA K ts σ G ds) (hr : R ds (.val d)) : TrD K (tCallS (XSp K R) E ts) σ G d := fun G1 M H e A Q q => by
  refine h G1 M H e A _ fun vs G2 H2 e2 A2 r2 => ?_
  exact ⟨G2, M, ds, .val d, A2, r2, hr, q.mono e2⟩
theorem w_callS {R : List PyData → Out → Prop} {ds : List PyData} {x : Str} {fs : List (Str × PyData)} {E : L2.St → XK} (h : TrA K ts σ G ds) (hr : R ds (.exc x fs)) (A : At G M H) (k : ResX K G M x fs (E σ)) : tCallS (XSp K R) E ts σ H Q := by
  refine w_A h A fun vs G2 H2 e2 A2 r2 => ?_
  exact ⟨G2, M, ds, .exc x fs, A2, r2, hr, k.mono e2⟩
/-- e.f of the exception that is caught -/
theorem d_xf {a : Addr} {d : Addr} {C : Addr} {f : Str} {gs : List (Str × V)} {v : V} {i : Nat} {r : PyData} (hi : σ[i]? = some (some (.ref a))) (hd : G d = some (.xd gs)) (hl : gs.lookup f = some v) (hr : Rp K G r v) : TrD K (tXf a (.ref C) (some d) C f (tVar i)) σ G r := fun G1 M H e A Q q =>
  ⟨.ref a, hi, rfl, rfl, d, gs, v, rfl, A.g _ _ (e _ _ hd), hl, q.here A (hr.up e)⟩
end
/-! ### calls in a try, the try itself -/
section
variable {X : Cx} {CX : CXT} {k : Nat} {x : Str} {sp : Sp} {E : L2.St → XK} {p pos : Pos} {e : Expr} {es : List Expr} {t : TA}
theorem pe_fdS (F : Fd X.prog X.w X.K X.mg X.base CX k x sp []) (hg : X.A.guards = some []) (hr : Room k X.A) (hx : ∀ σ, PassesAt CX X σ (E σ)) (ha : PA X (e :: es) t) (hgl : Gl X x := by rfl)
    (hdb : (x == ("__debug__" : Str)) = false := by decide) (he : starEach (e :: es) X.env = (false, eval e X.env) :: starEach es X.env := by rfl) (hpl : (backTo pos (starEach es X.env)).any (·.1) = false := by rfl) :
    PE X (.Call (.Name x p) (e :: es) [] pos) (tCallS sp E t) := by
  obtain ⟨f, fd, ps, ds, hm, hk, hb, hd, F⟩ := F
  cases hd
  constructor
  intro pins s σ H Q I h
  apply wpAny_Call_Name_kw
  refine ld_glob I hgl hm ?_ hdb
  refine PySem.W.callWith_K (h₀ := X.base) I.ok.mod.kin hk (thn (ha.run pos pins s σ H _ I h) ?_) he hpl
  rintro us s1 ⟨vs, H1, I1, r, q⟩
  refine ⟨I1.kIn, ?_⟩
  have q' : sp vs H1 Q (E σ) := q
  have l' : us.length = ps.length := r.length.symm.trans (F.len _ _ _ _ q')
  have b := hb s1 us I1.kIn (by rw [List.append_nil]; exact l')
  rw [List.append_nil] at b
  apply wpAny_call
  refine codeAny_mono (F.run X.A X.stack s1 H1 ⟨us, []⟩ us vs Q (E σ) hg hr I1.env0 b r q') ?_
  rintro (e | (_ | _ | _ | u)) s' hq
  · exact hx σ pins H1 s1 e s' I1 hq
  · exact hq.elim
  · exact hq.elim
  · exact hq.elim
  · exact I1.after hq
end
end Sb

namespace Sb
open PySem PySem.Spec PyProof.Rows L2
/-! ### try with «except x as n» first, further clauses that are not come to -/
def wFst (K : PySem.W.Frag) (c : Value) (i : Nat) (ts : Addr → Value → Option Addr → TS) (D : Ends) : WX := fun cls d σ H => PySem.W.exmOne K cls c = some true ∧
  ∀ a, H a = none → ts a cls d { nx := fun τ J => D.nx (τ.set i none) J, rt := D.rt, bk := fun τ J => D.bk (τ.set i none) J, ct := fun τ J => D.ct (τ.set i none) J } (σ.set i (some (.ref a))) H
section
variable {X : Cx} {x n : Str} {c : Value} {i : Nat} {body suite : List Stmt} {b₀ : Stmt} {np pos pos' : Pos} {more : List ExceptHandler} {tb : WX → TS} {ts : Addr → Value → Option Addr → TS}
theorem ps_try_fst (h1 : X.stack = X.env :: X.outer) (h2 : X.env.frame = some X.env.locals) (h3 : X.N.Nodup) (h4 : X.N[i]? = some n) (h5 : X.env.kindOf n = some .local) (hc : Names X x c)
    (hb : ∀ (W : WX) (pn : List (Addr × Obj)) (xe : Value → Shared → Prop), Takes (X.tr pn xe) W → PassesOwn (model X.prog X.w) X.A X.env xe → PSs (X.tr pn xe) body (tb W))
    (ho : ∀ (a : Addr) (oe : Obj) (cls : Value) (d : Option Addr) (pn : List (Addr × Obj)), Zc cls d oe → (∃ vs, oe.data = .fields vs) → PSs (X.suite a ((a, oe) :: pn)) (b₀ :: suite) (ts a cls d)) :
    PS X (.Try body (.ExceptHandler (some (.Name x np)) (some n) (b₀ :: suite) pos' :: more) [] [] pos) (fun D σ H => tb (wFst X.K c i ts D) D σ H) := by
  constructor
  intro pins s σ H D I h
  have ok0 := I.ok
  have fr0 : X.A.frames = some (X.env :: X.outer) := by
    rw [ok0.frames, h1]
  refine wpAny_Try_except ?_
  have hT := hb (wFst X.K c i ts D) (X.pn ++ pins) (fun e t1 => wpAny (model X.prog X.w) X.A (noteFrame e X.env) (fun _ t2 => wpAny (model X.prog X.w) X.A (setFlight e none) (fun _ t3 => wpAny (model X.prog X.w) X.A (handleBy e X.env (.ExceptHandler (some (.Name x np)) (some n) (b₀ :: suite) pos' :: more)) (SP X pins D) X.xe t3) X.xe t2) X.xe t1) ?_ PassesOwn.looking
  · refine wpAny_mono (hT.run [] s σ H D (I.toTry _) h) ?_ fun _ _ z => z
    rintro (_ | _ | _ | u) t1 hq
    · obtain ⟨τ, J, K1, q⟩ := hq
      exact wpAny_execs_nil ⟨τ, J, K1.ofTry ok0, q⟩
    · obtain ⟨τ, J, K1, q⟩ := hq
      exact ⟨τ, J, K1.ofTry ok0, q⟩
    · obtain ⟨τ, J, K1, q⟩ := hq
      exact ⟨τ, J, K1.ofTry ok0, q⟩
    · obtain ⟨v, τ, J, K1, r, q⟩ := hq
      exact ⟨v, τ, J, K1.ofTry ok0, r, q⟩
  intro u t1 xx
  obtain ⟨a, B, t0, pins1, τ, J, cls, d, rfl, I1, nb, up, sky, na, os, ag, hm, go⟩ := xx
  have I2 : Inv X pins τ J t0 := I1.ofTry ok0
  rw [show (X.tr (X.pn ++ pins) _).stack = X.env :: X.outer from h1] at sky
  show wpAny (model X.prog X.w) X.A (noteFrame (.ref a) X.env) _ _ _
  refine Sky.land Zc.steady fr0 h2 sky fun m3 fl3 up3 => ?_
  have I3 : Inv X pins τ J { t1 with heap := m3 } := I2.landed nb fl3.1 (up.trans up3) os ag
  obtain ⟨o3, vs3, g3, z3, d3⟩ := fl3.there
  have off : a ∉ frs (X.env :: X.outer) := fun hin => by
    obtain ⟨_, o', g', hnf⟩ := fl3.2.2.1.mem hin
    rw [g3] at g'
    cases g'
    exact hnf _ d3
  have offL : a ≠ X.env.locals := fun z => off (List.mem_filterMap.mpr ⟨X.env, List.mem_cons_self, by rw [h2, z]⟩)
  have offF : a ∉ X.fs := fun hin => by
    obtain ⟨e, he, q⟩ := List.mem_filterMap.mp hin
    exact off (List.mem_filterMap.mpr ⟨e, List.mem_cons_of_mem _ he, q⟩)
  have S3 := I3.suite g3 d3 na offL offF
  refine wpAny_handleBy_cons (codeAny_handlers_test ?_) (by intro z; cases z)
  have lookT : PySem.W.Looks (model X.prog X.w) m3 (typeOf (.ref a)) cls := fun A Q E s k q => wpAny_typeOf_ref (k _ _ g3) (by rw [z3.1]; exact q)
  have lookM := PySem.W.exm_one (M := model X.prog X.w) I3.kIn lookT hm
  have nameIs : ∀ {Q E : Value → Shared → Prop}, Q c { t1 with heap := m3 } → wpAny (model X.prog X.w) (X.A.mark (some (.ref a))) (eval (.Name x np) X.env) Q E { t1 with heap := m3 } := fun {Q E} q => by
    obtain ⟨y1, y2, y3 | ⟨y3, y4, y5⟩⟩ := hc
    · exact ld_glob (X := X.suite a ((a, o3) :: (X.pn ++ pins))) S3 y1 y3 q y2
    · exact ld_blt (X := X.suite a ((a, o3) :: (X.pn ++ pins))) S3 y1 y3 y4 q y5 y2
  refine nameIs (lookM.here ?_)
  refine codeAny_handlers_suite_as ?_
  refine HandSPX.lands_againZ fl3 fun m4 fl4 up4 => ?_
  have I4 : Inv X pins τ J { t1 with heap := m4 } := I2.landed nb fl4.1 ((up.trans up3).trans up4) os ag
  obtain ⟨o4, vs4, g4, z4, d4⟩ := fl4.there
  have S4 := I4.suite g4 d4 na offL offF
  refine store_ok (X := X.suite a ((a, o4) :: (X.pn ++ pins))) (v := .ref a) S4 h3 h4 (.inl h5) rfl (fun t5 S5 => ?_) (.inr h5)
  have end_ : ∀ {σ6 : L2.St} {H6 : Hp} {t6 : Shared} {Q : Shared → Prop}, Inv (X.suite a ((a, o4) :: (X.pn ++ pins))) [] σ6 H6 t6 → (∀ t7, Inv X pins (σ6.set i none) H6 t7 → Q t7) → wpAny (model X.prog X.w) X.A (do bindName X.env n .none; unbindBehindTheSuite X.env n pos') (fun _ t7 => Q t7) X.xe t6 := fun {σ6 H6 t6 Q} S6 hq => gone_ok (S6.unsuite ok0) h3 h4 h5 hq
  refine wpAny_mono ((ho a o4 cls d (X.pn ++ pins) z4 ⟨_, d4⟩).run [] t5 _ J _ S5 (go a na)) ?_ fun _ _ z => False.elim z
  rintro (_ | _ | _ | u) t6 hq
  · obtain ⟨σ6, H6, S6, q6⟩ := hq
    exact end_ S6 fun _ J7 => ⟨_, _, J7, q6⟩
  · obtain ⟨σ6, H6, S6, q6⟩ := hq
    exact end_ S6 fun _ J7 => ⟨_, _, J7, q6⟩
  · obtain ⟨σ6, H6, S6, q6⟩ := hq
    exact end_ S6 fun _ J7 => ⟨_, _, J7, q6⟩
  · obtain ⟨v6, σ6, H6, S6, r6, q6⟩ := hq
    exact end_ S6 fun _ J7 => ⟨_, _, _, J7, r6, q6⟩
end
end Sb
namespace Sb
open PySem PySem.Spec PyProof.Rows L2
section
variable {X : Cx} {x f1 f2 : Str} {p pos : Pos} {e : Expr} {es : List Expr} {ta : TA}
theorem pmk_own2 (T : OwnX X.K x) (F : ∃ fd ps, FnOk X.prog X.w X.K X.mg X.base CX0 1 (He.ma X.K (He.ga X.K x) "__init__") fd ps (spIni2 (He.ga X.K x) f1 f2) ∧ Binds X.K fd ps []) (hr : Room 2 X.A) (hg : Gl X x) (hm : X.mg x = some (.ref (He.ga X.K x))) (ha : PA X (e :: es) ta)
    (hdb : (x == ("__debug__" : Str)) = false := by decide) (he : starEach (e :: es) X.env = (false, eval e X.env) :: starEach es X.env := by rfl) (hpl : (backTo pos (starEach es X.env)).any (·.1) = false := by rfl) :
    PMk X (.Call (.Name x p) (e :: es) [] pos) (tMkO (He.ga X.K x) (spIni2 (He.ga X.K x) f1 f2) [] ta) := by
  obtain ⟨fd, ps, F1, hb⟩ := F
  exact pmk_oex T.o T.i T.t F1 hr hb .nil pass0 hg hm ha hdb he hpl
theorem pmk_own1 (T : OwnX X.K x) (F : ∃ fd ps, FnOk X.prog X.w X.K X.mg X.base CX0 1 (He.ma X.K (He.ga X.K x) "__init__") fd ps (spIni1 (He.ga X.K x) f1) ∧ Binds X.K fd ps []) (hr : Room 2 X.A) (hg : Gl X x) (hm : X.mg x = some (.ref (He.ga X.K x))) (ha : PA X (e :: es) ta)
    (hdb : (x == ("__debug__" : Str)) = false := by decide) (he : starEach (e :: es) X.env = (false, eval e X.env) :: starEach es X.env := by rfl) (hpl : (backTo pos (starEach es X.env)).any (·.1) = false := by rfl) :
    PMk X (.Call (.Name x p) (e :: es) [] pos) (tMkO (He.ga X.K x) (spIni1 (He.ga X.K x) f1) [] ta) := by
  obtain ⟨fd, ps, F1, hb⟩ := F
  exact pmk_oex T.o T.i T.t F1 hr hb .nil pass0 hg hm ha hdb he hpl
end
end Sb

namespace Sb
section
open PySem PySem.AutoSeq1
theorem ext_tup (l : Addr) (xs : Array Value) (n : Nat) (b : Addr) (ys : Array Value) (m : Nat) (dd : Option Addr) (sl : Array (Option Value)) (h0 : ¬(!xs.isEmpty && Builtin.List.listTooLong (xs.size + ys.size)) = true) (h1 : xs.size ≤ sizeLine) (h2 : xs.size + ys.size ≤ sizeLine + 1) :
    Meets (Builtin.«list.extend» ⟨[.ref l, .ref b], []⟩) (fun _ R s => s.heap.get? l = some { cls := .type "list", dict := none, data := .seq xs n, slots := #[] } ∧ s.heap.get? b = some { cls := .type "tuple", dict := dd, data := .seq ys m, slots := sl } ∧ R (.ok (.ret Value.none)) { s with heap := s.heap.update l (Obj.mapSeq fun x => x ++ ys), toks := s.toks }) :=
  .of_wp fun prog w A R s h => by
    obtain ⟨hp, g, d, tk, os⟩ := s
    obtain ⟨hl, hb, h⟩ := h
    have f1 := idx_int
    have f2 := sub_tuple_tuple
    have f3 := sub_list_list
    have f4 := sub_tuple_list
    have f5 := sub_list_tuple
    have hz' : (xs ++ ys).size ≤ sizeLine + 1 := by rw [Array.size_append]; exact h2
    wp_walk using (wpAny_updateSeq hl rfl (hz := h1) (_hz' := hz')), wpAny_loadPart' hl, wpAny_loadPart' hb
    exact ⟨_, rfl, h⟩
end
open PySem PySem.Spec PyProof.Rows L2
def rExtT (K : PySem.W.Frag) : V → List V → Hp → VK → Prop := fun x vs H Q => ∃ l b xs zs, x = .ref l ∧ vs = [.ref b] ∧ H l = some (.lst xs) ∧ SqT K H b zs ∧ xs.length + zs.length ≤ sizeLine ∧ Q .non (upd H l (.lst (xs ++ zs)))
theorem mt_extT {X : Cx} : MtM X "list.extend" (rExtT X.K) := by
  intro pins s σ H x vs v us Q I rx rv h
  obtain ⟨l, b, xs, zs, rfl, rfl, hH, hB, hz, q⟩ := h
  cases rx
  obtain ⟨u, rfl, ru⟩ := rv.one
  cases ru
  obtain ⟨z, its, n, r, hl, e⟩ := I.lstM hH
  obtain ⟨its2, r2, ⟨⟨oc, od, dt, osl⟩, e2, ec, m, ed⟩, z2⟩ := I.tuple hB
  simp only at ec ed
  subst ec ed
  have hl2 : its2.length = zs.length := r2.length.symm
  have hsz : its.toArray.size + its2.toArray.size ≤ sizeLine := by rw [List.size_toArray, List.size_toArray]; omega
  have hlong : ¬ (!its.toArray.isEmpty && Builtin.List.listTooLong (its.toArray.size + its2.toArray.size)) = true := by
    rw [notLongL hsz, Bool.and_false]
    exact Bool.false_ne_true
  refine call_meets F.slot_list_extend ⟨_, e, rfl⟩ F.entry_list_extend (F.args_list_extend_2 _ _) (ext_tup l its.toArray n b its2.toArray m od osl hlong (by rw [List.size_toArray]; omega) (by omega)) ⟨e, e2, ?_⟩
  refine ⟨.non, _, I.lset (its' := its ++ its2) hH e (by simp) (r.append r2) ?_, rfl, q⟩
  rw [List.length_append]
  omega
section
variable {K : PySem.W.Frag} {σ : L2.St} {G G' M M0 M1 H : Hp} {ta tb te tc : TE} {d d1 d2 d3 : PyData} {tt t u : TT} {ts : TA} {ds es : List PyData} {Q : VK} {D : Ends} {s1 s2 tbd : TS} {i j n m n' : Nat} {r p a : Addr} {o : HO} {Φ Φ1 : PyData → Prop}
def chrs (z : Str) : List Str := z.cps.toList.map fun c => ⟨#[c]⟩
theorem chrs_len (z : Str) : (chrs z).length = z.cps.size := by unfold chrs; rw [List.length_map, Array.length_toList]
theorem chrs_get {z : Str} {k c : Nat} (h : z.cps[k]? = some c) : (chrs z)[k]? = some ⟨#[c]⟩ := by
  unfold chrs
  rw [List.getElem?_map, Array.getElem?_toList, h]
  rfl
/-! ### over the signs of a text -/
theorem d_lcS {tl : TE} {z : Str} {p : Str → Bool} {f : Str → PyData} (hl : TrD K tl σ G (.str z)) (hn : z.cps.size < 100000)
    (ht : ∀ c ∈ chrs z, ∀ G1, Ex G G1 → TrB tt ((wipe σ [i]).set i (some (.str c))) G1 (p c))
    (he : ∀ c ∈ chrs z, p c = true → ∀ G1, Ex G G1 → TrD K te ((wipe σ [i]).set i (some (.str c))) G1 (f c)) :
    TrD K (tLc (iStr tl) (gName i) tt te [i]) σ G (.list (((chrs z).filter p).map f)) := fun G1 M H e A Q q => by
  refine hl G1 M H e A _ fun v G2 H2 e2 A2 rv => ?_
  refine ⟨z, rv, fun D hD => ?_⟩
  refine ⟨fun t m H3 => m = z.cps.size - t ∧ t ≤ z.cps.size ∧ ∃ Gj acc, Ex G2 Gj ∧ At Gj (upd M D (.lst acc)) H3 ∧ RpL K Gj ((((chrs z).take t).filter p).map f) acc, ⟨z.cps.size, by simp, Nat.zero_le _, G2, [], Ex.refl _, A2.nm hD, rfl⟩, ?_⟩
  rintro t m H3 ⟨rfl, ht', Gj, acc, ej, Aj, rj⟩
  by_cases hlt : t < z.cps.size
  · refine .inr ⟨hlt, fun H4 => ∃ Gj acc, Ex G2 Gj ∧ At Gj (upd M D (.lst acc)) H4 ∧ RpL K Gj ((((chrs z).take (t + 1)).filter p).map f) acc, fun H4 w => ⟨z.cps.size - (t + 1), by omega, rfl, hlt, w⟩, ?_⟩
    rintro y H4 ⟨rfl, c, hc, rfl⟩
    have hk := chrs_get hc
    have hm := List.mem_of_getElem? hk
    have htk : (chrs z).take (t + 1) = (chrs z).take t ++ [⟨#[c]⟩] := by rw [List.take_add_one, hk]; rfl
    show wipe _ _ = wipe _ _ ∧ _
    refine ⟨wipe_set, ?_⟩
    refine ht _ hm Gj ((e.trans e2).trans ej) Gj _ H4 (Ex.refl _) Aj _ fun G4 H4 e4 A4 => ?_
    cases hp : p ⟨#[c]⟩ with
    | false =>
      refine ⟨G4, acc, ej.trans e4, A4, ?_⟩
      rw [htk, List.filter_append, List.filter_cons, hp]
      simpa using rj.up e4
    | true =>
      refine he _ hm hp G4 ((e.trans e2).trans (ej.trans e4)) G4 _ H4 (Ex.refl _) A4 _ fun v5 G5 H5 e5 A5 r5 => ?_
      refine ⟨acc, A5.m _ _ upd_same, ?_, G5, acc ++ [v5], ej.trans (e4.trans e5), ?_, ?_⟩
      · rw [rj.len, List.length_map]
        refine sz_lt (Nat.lt_of_le_of_lt (Nat.le_trans (List.length_filter_le _ _) ?_) hn)
        rw [List.length_take, chrs_len]
        exact Nat.min_le_right _ _
      · have w := A5.wr (o := .lst (acc ++ [v5])) (upd_same (H := M) (a := D) (o := .lst acc))
        rw [upd_upd] at w
        exact w
      · rw [htk, List.filter_append, List.filter_cons, hp, List.map_append]
        exact (rj.up (e4.trans e5)).snoc r5
  · have e1 : t = z.cps.size := by omega
    subst e1
    have hl2 : (chrs z).take z.cps.size = chrs z := by rw [← chrs_len, List.take_length]
    rw [hl2] at rj
    have hM : M D = none := A2.mNone hD
    have hm := upd_same (H := M) (a := D) (o := HO.lst acc)
    exact .inl ⟨Nat.le_refl _, q _ _ _ ((e2.trans ej).trans (Aj.frzG hm)) (Aj.frz hm (Ex.new hM) hM) ⟨D, acc, rfl, upd_same, rj.up (Aj.frzG hm)⟩⟩
theorem s_forSI {z : Str} (Inv : Nat → L2.St → Hp → Hp → Prop) (h : TrD K te σ G (.str z)) (A : At G M H) (mono : ∀ {k : Nat} {σ1 : L2.St} {G1 G2 M1 : Hp}, Ex G1 G2 → Inv k σ1 G1 M1 → Inv k σ1 G2 M1)
    (h0 : Inv 0 σ G M)
    (hb : ∀ (k : Nat) c, (chrs z)[k]? = some c → ∀ σ1 G1 M1 H1, Ex G G1 → At G1 M1 H1 → Inv k σ1 G1 M1 → ∀ Nx : L2.St → Hp → Prop, (∀ σ2 G2 M2 H2, Ex G1 G2 → At G2 M2 H2 → Inv (k + 1) σ2 G2 M2 → Nx σ2 H2) →
      tbd { D with nx := Nx, ct := Nx, bk := D.nx } (σ1.set i (some (.str c))) H1)
    (hd : ∀ σ1 G1 M1 H1, Ex G G1 → At G1 M1 H1 → Inv (chrs z).length σ1 G1 M1 → D.nx σ1 H1) :
    tFor (iStr te) (gName i) tbd D σ H := by
  refine w_D h A fun v G2 H2 e2 A2 rv => ?_
  refine ⟨z, rv, ?_⟩
  refine ⟨fun t m σ' H' => m = z.cps.size - t ∧ t ≤ z.cps.size ∧ ∃ G3 M3, Ex G2 G3 ∧ At G3 M3 H' ∧ Inv t σ' G3 M3, ⟨z.cps.size, by simp, Nat.zero_le _, G2, M, Ex.refl _, A2, mono e2 h0⟩, ?_⟩
  rintro t m σ' H' ⟨rfl, ht, G3, M3, e3, A3, hI⟩
  by_cases hlt : t < z.cps.size
  · refine .inr ⟨hlt, fun σ' H' => ∃ G3 M3, Ex G2 G3 ∧ At G3 M3 H' ∧ Inv (t + 1) σ' G3 M3, fun σ2 H3 w => ⟨z.cps.size - (t + 1), by omega, rfl, hlt, w⟩, ?_⟩
    rintro x H4 ⟨rfl, c, hc, rfl⟩
    exact hb t _ (chrs_get hc) _ _ _ _ (e2.trans e3) A3 hI _ fun σ5 G5 M5 H5 e5 A5 i5 => ⟨G5, M5, e3.trans e5, A5, i5⟩
  · have e1 : t = (chrs z).length := by rw [chrs_len]; omega
    subst e1
    exact .inl ⟨by show z.cps.size ≤ _; rw [chrs_len]; exact Nat.le_refl _, hd σ' G3 M3 H' (e2.trans e3) A3 hI⟩
/-! ### [e for i, x in enumerate(list)] -/
theorem d_lcE {tl : TE} {p : Nat → PyData → Bool} {f : Nat → PyData → PyData} {g : TG} (hij : i ≠ j) (hl : TrD K tl σ G (.list ds)) (hn : ds.length < 100000) (hg : g = gTup K 2 (gCons (gName i) (gCons (gName j) gNil)))
    (ht : ∀ (k : Nat) d, ds[k]? = some d → ∀ x G1, Ex G G1 → Rp K G1 d x → TrB tt (((wipe σ [i, j]).set i (some (.int k))).set j (some x)) G1 (p k d))
    (he : ∀ (k : Nat) d, ds[k]? = some d → p k d = true → ∀ x G1, Ex G G1 → Rp K G1 d x → TrD K te (((wipe σ [i, j]).set i (some (.int k))).set j (some x)) G1 (f k d)) :
    TrD K (tLc (iEnum K (tCons tl tNil)) g tt te [i, j]) σ G (.list ((ds.zipIdx.filter fun q => p q.2 q.1).map fun q => f q.2 q.1)) := fun G1 M H e A Q q => by
  subst hg
  refine hl G1 M H e A _ fun v G2 H2 e2 A2 rv => ?_
  obtain ⟨a, xs, rfl, k1, k2⟩ := rv
  refine ⟨a, xs, rfl, SqL.of (A2.g _ _ k1), fun D hD => ?_⟩
  have hMD : M D = none := A2.mNone hD
  refine ⟨fun t m H3 => m = xs.length - t ∧ t ≤ xs.length ∧ ∃ Gj acc, Ex G2 Gj ∧ At Gj (upd M D (.lst acc)) H3 ∧ RpL K Gj (((ds.zipIdx.take t).filter fun q => p q.2 q.1).map fun q => f q.2 q.1) acc, ⟨xs.length, by simp, Nat.zero_le _, G2, [], Ex.refl _, A2.nm hD, rfl⟩, ?_⟩
  rintro t m H3 ⟨rfl, ht', Gj, acc, ej, Aj, rj⟩
  have hsq : SqL K H3 a xs := SqL.of (Aj.g _ _ (ej _ _ k1))
  by_cases hlt : t < xs.length
  · have hx : xs[t]? = some xs[t] := List.getElem?_eq_getElem hlt
    obtain ⟨d, hd, rd⟩ := k2.get hx
    refine .inr ⟨⟨xs, xs[t], hsq, hx⟩, fun H4 => ∃ Gj acc, Ex G2 Gj ∧ At Gj (upd M D (.lst acc)) H4 ∧ RpL K Gj (((ds.zipIdx.take (t + 1)).filter fun q => p q.2 q.1).map fun q => f q.2 q.1) acc, fun H4 w => ⟨xs.length - (t + 1), by omega, rfl, hlt, w⟩, ?_⟩
    rintro y H4 ⟨T, w, rfl, hT, rfl, hy⟩
    have ey : w = xs[t] := Option.some.inj ((hy xs hsq).symm.trans hx)
    subst ey
    have A4 := Aj.ng (o := HO.tup [.int t, xs[t]]) hT
    have e4 : Ex Gj (upd Gj T (.tup [.int t, xs[t]])) := Ex.new (Aj.gNone hT)
    have htk : ds.zipIdx.take (t + 1) = ds.zipIdx.take t ++ [(d, t)] := by
      rw [List.take_add_one]
      congr 1
      rw [List.getElem?_zipIdx, hd]
      simp
    refine ⟨T, [.int t, xs[t]], rfl, SqT.of upd_same, rfl, .int t, [xs[t]], rfl, xs[t], [], rfl, rfl, ?_⟩
    refine ⟨?_, ?_⟩
    · show (((((σ.set j none).set i none).set i (some (V.int t))).set j (some xs[t])).set j none).set i none = (σ.set j none).set i none
      rw [List.set_set, List.set_set, List.set_comm _ _ hij, List.set_set, List.set_set]
    refine ht t d hd _ _ ((e.trans e2).trans (ej.trans e4)) (rd.up (ej.trans e4)) _ _ _ (Ex.refl _) A4 _ fun G5 H5 e5 A5 => ?_
    cases hp : p t d with
    | false =>
      refine ⟨G5, acc, (ej.trans e4).trans e5, A5, ?_⟩
      rw [htk, List.filter_append, List.filter_cons, show p (d, t).2 (d, t).1 = false from hp]
      simpa using rj.up (e4.trans e5)
    | true =>
      refine he t d hd hp _ _ ((e.trans e2).trans ((ej.trans e4).trans e5)) (rd.up ((ej.trans e4).trans e5)) _ _ _ (Ex.refl _) A5 _ fun v6 G6 H6 e6 A6 r6 => ?_
      refine ⟨acc, A6.m _ _ upd_same, ?_, G6, acc ++ [v6], ((ej.trans e4).trans e5).trans e6, ?_, ?_⟩
      · rw [rj.len, List.length_map]
        refine sz_lt (Nat.lt_of_le_of_lt (Nat.le_trans (List.length_filter_le _ _) ?_) hn)
        rw [List.length_take, List.length_zipIdx]
        exact Nat.min_le_right _ _
      · have w := A6.wr (o := .lst (acc ++ [v6])) (upd_same (H := M) (a := D) (o := .lst acc))
        rw [upd_upd] at w
        exact w
      · rw [htk, List.filter_append, List.filter_cons, show p (d, t).2 (d, t).1 = true from hp, List.map_append]
        exact (rj.up ((e4.trans e5).trans e6)).snoc r6
  · have e1 : t = xs.length := by omega
    subst e1
    have hl2 : ds.zipIdx.take xs.length = ds.zipIdx := by rw [k2.len, ← List.length_zipIdx (i := 0), List.take_length]
    rw [hl2] at rj
    have hm := upd_same (H := M) (a := D) (o := HO.lst acc)
    exact .inl ⟨⟨xs, hsq, Nat.le_refl _⟩, q _ _ _ ((e2.trans ej).trans (Aj.frzG hm)) (Aj.frz hm (Ex.new hMD) hMD) ⟨D, acc, rfl, upd_same, rj.up (Aj.frzG hm)⟩⟩
/-! ### repeating, extending -/
theorem rd_rep {k : Int} (h0 : 0 ≤ k) (h1 : k ≤ 1000000) (h2 : ds.length * k.toNat ≤ 100000) : RD K rRep (.list ds) (.int k) (.list (List.replicate k.toNat ds).flatten) := fun G M H x y A ⟨a, xs, e1, r1, r2⟩ hy Q q => by
  have t63 : (2 : Int) ^ 63 = 9223372036854775808 := rfl
  refine ⟨a, k, xs, e1, hy, A.g _ _ r1, by omega, by omega, by rw [r2.len]; exact sz_of h2, fun p hp => q.newG A hp ⟨p, _, rfl, upd_same, ?_⟩⟩
  have r3 := r2.up (Ex.new (A.gNone hp) (o := .lst (List.replicate k.toNat xs).flatten))
  have all : ∀ n, RpL K (upd G p (.lst (List.replicate k.toNat xs).flatten)) (List.replicate n ds).flatten (List.replicate n xs).flatten := fun n => by
    induction n with
    | zero => exact rfl
    | succ n ih =>
      rw [List.replicate_succ, List.replicate_succ, List.flatten_cons, List.flatten_cons]
      exact r3.app ih
  exact all _
theorem rd_mulS {z : Str} {k : Int} (h : MulOk z k) : RD K rMulS (.str z) (.int k) (.str (Txt.mul z k)) := fun G M H x y A h1 h2 Q q => ⟨z, k, h1, h2, h, q.here A rfl⟩
theorem s_extT {xs : List V} (hi : σ[i]? = some (some (.ref p))) (hp : M p = some (.lst xs)) (h : TrD K te σ G (.tuple ds)) (hn : xs.length + ds.length ≤ 100000) (A : At G M H)
    (k : ∀ ys G' H', Ex G G' → At G' (upd M p (.lst (xs ++ ys))) H' → RpL K G' ds ys → D.nx σ H') : tDrop (tBM K "list" (rExtT K) (tVar i) (tCons te tNil)) D σ H := by
  refine ⟨.ref p, hi, Or.inl ⟨rfl, _, Or.inl (Or.inl (A.m _ _ hp))⟩, ?_⟩
  refine w_D h A fun v G2 H2 e2 A2 r => ?_
  obtain ⟨b, zs, rfl, h1, h2⟩ := r
  exact ⟨p, b, xs, zs, rfl, rfl, A2.m _ _ hp, A2.g.stt h1, by rw [h2.len]; exact sz_of hn, k zs G2 _ e2 (A2.wr hp) h2⟩
end
end Sb

namespace Sb
open PySem PySem.Spec PyProof.Rows L2
/-! ### what a split gives -/
theorem spl_bd (S : List Nat) : ∀ (l : List Nat) (k : Nat) (acc : List Nat), (TL.spl S k acc l).length ≤ l.length + 1 ∧ ∀ p ∈ TL.spl S k acc l, p.length ≤ acc.length + l.length ∧ ∀ c ∈ p, c ∈ acc ∨ c ∈ l
  | [], k, acc => by
    rw [TL.spl_nil]
    refine ⟨by simp, fun p hp => ?_⟩
    rw [List.mem_singleton.mp hp]
    exact ⟨by simp, fun c hc => .inl hc⟩
  | c :: r, 0, acc => by
    cases h : TL.pre S (c :: r) with
    | true =>
      rw [TL.spl_hit h]
      obtain ⟨h1, h2⟩ := spl_bd S r (S.length - 1) []
      refine ⟨by simp only [List.length_cons]; omega, fun p hp => ?_⟩
      rcases List.mem_cons.mp hp with rfl | hp
      · exact ⟨by omega, fun x hx => .inl hx⟩
      · obtain ⟨h3, h4⟩ := h2 p hp
        refine ⟨by simp only [List.length_cons, List.length_nil] at h3 ⊢; omega, fun x hx => .inr ?_⟩
        rcases h4 x hx with z | z
        · cases z
        · exact List.mem_cons_of_mem _ z
    | false =>
      rw [TL.spl_miss h]
      obtain ⟨h1, h2⟩ := spl_bd S r 0 (acc ++ [c])
      refine ⟨by simp only [List.length_cons]; omega, fun p hp => ?_⟩
      obtain ⟨h3, h4⟩ := h2 p hp
      rw [List.length_append, List.length_singleton] at h3
      refine ⟨by simp only [List.length_cons]; omega, fun x hx => ?_⟩
      rcases h4 x hx with z | z
      · rcases List.mem_append.mp z with z | z
        · exact .inl z
        · rw [List.mem_singleton.mp z]
          exact .inr (List.mem_cons_self ..)
      · exact .inr (List.mem_cons_of_mem _ z)
  | c :: r, k + 1, acc => by
    show (TL.spl S k acc r).length ≤ _ ∧ ∀ p ∈ TL.spl S k acc r, _
    obtain ⟨h1, h2⟩ := spl_bd S r k acc
    refine ⟨by simp only [List.length_cons]; omega, fun p hp => ?_⟩
    obtain ⟨h3, h4⟩ := h2 p hp
    refine ⟨by simp only [List.length_cons]; omega, fun x hx => ?_⟩
    rcases h4 x hx with z | z
    · exact .inl z
    · exact .inr (List.mem_cons_of_mem _ z)
theorem split_bd (x y : Str) (hy : TL.tl y ≠ []) (hk : y.cps.all (· < 256) = true) : (Txt.split x y).length ≤ x.length + 1 ∧ ∀ p ∈ Txt.split x y, p.length ≤ x.length ∧ ∀ c ∈ p.cps.toList, c ∈ x.cps.toList := by
  have e := TL.split_spl x y hy (TL.kind_ok hk)
  obtain ⟨h1, h2⟩ := spl_bd (TL.tl y) (TL.tl x) 0 []
  rw [← e] at h1 h2
  rw [List.length_map] at h1
  refine ⟨by rw [TL.len_tl]; exact h1, fun p hp => ?_⟩
  obtain ⟨h3, h4⟩ := h2 (TL.tl p) (List.mem_map.mpr ⟨p, hp, rfl⟩)
  refine ⟨by rw [TL.len_tl, TL.len_tl x]; simpa using h3, fun c hc => ?_⟩
  rcases h4 c hc with z | z
  · cases z
  · exact z
theorem mem_join {S : List Nat} {c : Nat} : ∀ {ps : List (List Nat)}, c ∈ TL.joinL S ps → c ∈ S ∨ ∃ p ∈ ps, c ∈ p
  | [], h => by cases h
  | [p], h => .inr ⟨p, List.mem_cons_self .., h⟩
  | p :: q :: r, h => by
    rcases List.mem_append.mp (show c ∈ p ++ (S ++ TL.joinL S (q :: r)) from h) with h1 | h1
    · exact .inr ⟨p, List.mem_cons_self .., h1⟩
    rcases List.mem_append.mp h1 with h2 | h2
    · exact .inl h2
    rcases mem_join h2 with h3 | ⟨u, hu, h3⟩
    · exact .inl h3
    · exact .inr ⟨u, List.mem_cons_of_mem _ hu, h3⟩
/-! ### digits -/
theorem mulOk_of {z : Str} {n : Int} (h0 : 0 ≤ n) (h1 : n ≤ 1000) (h2 : z.length ≤ 10000) : MulOk z n := by
  have t63 : (2 : Int) ^ 63 = 9223372036854775808 := rfl
  refine ⟨?_, fun h3 _ => ?_, fun h3 _ => ?_⟩
  · rw [decide_eq_false (by omega), decide_eq_false (by omega)]
    rfl
  · rw [t63]
    have hq : (9223372036854775 : Int) ≤ (9223372036854775808 - 1) / n := by
      have : (9223372036854775 : Int) * n ≤ 9223372036854775808 - 1 := by
        have := Int.mul_le_mul_of_nonneg_left h1 (show (0 : Int) ≤ 9223372036854775 by decide)
        omega
      exact (Int.le_ediv_iff_mul_le (by omega)).mpr this
    omega
  · refine decide_eq_false ?_
    have h4 : z.length * n.toNat ≤ 10000 * 1000 := Nat.mul_le_mul h2 (by omega)
    have h5 : (10000 * 1000 : Nat) ≤ sizeLine := by decide
    omega
theorem fold_cps : ∀ (k : Nat) (x : Array Nat) (a : Array Nat), ((List.replicate k x).foldl (· ++ ·) a).toList = a.toList ++ (List.replicate k x.toList).flatten
  | 0, x, a => by simp
  | k + 1, x, a => by
    rw [List.replicate_succ, List.foldl_cons, fold_cps k, Array.toList_append, List.replicate_succ, List.flatten_cons, List.append_assoc]
theorem mul_tl {z : Str} {n : Int} (h : 2 ≤ n) (hz : 0 < z.length) : (Txt.mul z n).cps.toList = (List.replicate n.toNat z.cps.toList).flatten := by
  unfold Txt.mul
  have e1 : ¬ n < 1 := by omega
  have e2 : ¬ ((n == 1 || z.length == 0) = true) := by
    have a1 : (n == 1) = false := by simpa using (show n ≠ 1 by omega)
    have a2 : (z.length == 0) = false := by simpa using (show z.length ≠ 0 by omega)
    rw [a1, a2]
    decide
  rw [if_neg e1, if_neg e2]
  show ((List.replicate n.toNat z.cps).foldl (· ++ ·) #[]).toList = _
  rw [fold_cps]
  rfl
theorem fold_bd : ∀ (l : List Nat) (a : Nat), NumText.AllDigits l → a * 10 ^ l.length ≤ l.foldl (fun acc c => acc * 10 + (c - 48)) a ∧ l.foldl (fun acc c => acc * 10 + (c - 48)) a < (a + 1) * 10 ^ l.length
  | [], a, _ => by simp
  | c :: l, a, h => by
    obtain ⟨h1, h2⟩ := fold_bd l (a * 10 + (c - 48)) h.tail
    have hc := h.head
    rw [List.foldl_cons, List.length_cons, Nat.pow_succ]
    have e1 : a * (10 ^ l.length * 10) ≤ (a * 10 + (c - 48)) * 10 ^ l.length := by
      rw [Nat.mul_comm (10 ^ l.length) 10, ← Nat.mul_assoc]
      exact Nat.mul_le_mul_right _ (by omega)
    have e2 : (a * 10 + (c - 48) + 1) * 10 ^ l.length ≤ (a + 1) * (10 ^ l.length * 10) := by
      rw [Nat.mul_comm (10 ^ l.length) 10, ← Nat.mul_assoc]
      exact Nat.mul_le_mul_right _ (by omega)
    exact ⟨Nat.le_trans e1 h1, Nat.lt_of_lt_of_le h2 e2⟩
theorem val_bd {l : List Nat} (h : NumText.AllDigits l) : NumText.digitsVal l < 10 ^ l.length := by
  have z := (fold_bd l 0 h).2
  rw [Nat.zero_add, Nat.one_mul] at z
  exact z
theorem val_pos {c : Nat} {l : List Nat} (h : NumText.AllDigits (c :: l)) (hc : c ≠ 48) : 1 ≤ NumText.digitsVal (c :: l) := by
  have hd := h.head
  have z := (fold_bd l (0 * 10 + (c - 48)) h.tail).1
  have hp : 1 ≤ 10 ^ l.length := Nat.pow_pos (by decide)
  have : 1 * 1 ≤ (0 * 10 + (c - 48)) * 10 ^ l.length := Nat.mul_le_mul (by omega) hp
  exact Nat.le_trans this z
/-- a number above 0 does not begin with 0 -/
theorem num_head : ∀ n : Nat, 1 ≤ n → ∃ c l, TL.numL n = c :: l ∧ c ≠ 48 := by
  intro n
  induction n using Nat.strongRecOn with
  | _ n ih =>
    intro h
    by_cases h10 : n < 10
    · rw [TL.numL_lt h10]
      exact ⟨48 + n, [], rfl, by omega⟩
    · obtain ⟨c, l, e, hc⟩ := ih (n / 10) (by omega) (by omega)
      rw [TL.numL_step (by omega), e]
      exact ⟨c, l ++ [48 + n % 10], rfl, hc⟩
/-! ### lists of numbers are equal to themselves -/
theorem eqvA_ints : ∀ a b : List Int, PyData.eqvAll (dInts a) (dInts b) = decide (a = b)
  | [], [] => rfl
  | [], y :: b => by simp [dInts, PyData.eqvAll]
  | x :: a, [] => by simp [dInts, PyData.eqvAll]
  | x :: a, y :: b => by
    show (PyData.eqv (.int x) (.int y) && PyData.eqvAll (dInts a) (dInts b)) = _
    rw [eqvA_ints a b]
    have e : PyData.eqv (.int x) (.int y) = decide (x = y) := by
      simp only [PyData.eqv]
      by_cases h : x = y <;> simp [h]
    rw [e]
    by_cases h1 : x = y <;> by_cases h2 : a = b <;> simp [h1, h2]
theorem eqv_ints (a b : List Int) : PyData.eqv (.list (dInts a)) (.list (dInts b)) = decide (a = b) := by
  simp only [PyData.eqv]
  exact eqvA_ints a b
theorem shaped_intsL (ns : List Int) : SeqAt.shaped (.list (dInts ns)) = true := by
  have z := shaped_ints ns
  unfold SeqAt.shaped at z ⊢
  simpa [PyData.canLay0, PyData.depth] using z
section
variable {K : PySem.W.Frag} {σ : L2.St} {G : Hp} {M0 : Hp} {te : TE} {n n' : Nat} {r : Addr} {Φ Φ1 : PyData → Prop}
/-- a.join(xs), xs drawn -/
theorem e_join {a : Str} {Ψ : List Str → Prop} (h : TrE K r M0 te σ G n n' fun d => ∃ ys, d = .list (dStrs ys) ∧ Ψ ys) (hz : ∀ ys, Ψ ys → (ys.map (·.length)).sum + ys.length * a.length ≤ 16777216) (hΦ : ∀ ys, Ψ ys → Φ (.str (Txt.join a ys))) :
    TrE K r M0 (tM1 (fun x xs H Q => ∃ a p, ∃ ys : List Str, x = .str a ∧ xs = [.ref p] ∧ (SqL K H p (ys.map V.str) ∨ SqT K H p (ys.map V.str)) ∧ (ys.map (·.length)).sum + ys.length * a.length ≤ 16777216 ∧ Q (.str (Txt.join a ys)) H) (tC (.str a)) te) σ G n n' Φ := fun G1 M H e A S R Q q => by
  refine ⟨⟨a, rfl⟩, ?_⟩
  refine h G1 M H e A S R _ fun d v G2 M2 H2 e2 A2 S2 R2 hd rv => ?_
  obtain ⟨ys, rfl, hy⟩ := hd
  obtain ⟨p, rfl, hp⟩ := rv.ls
  exact ⟨a, p, ys, rfl, rfl, .inl (SqL.of (A2.g _ _ hp)), hz ys hy, q _ _ G2 M2 H2 e2 A2 S2 R2 (hΦ ys hy) rfl⟩
end
end Sb

namespace Sb
open PySem PySem.Spec PyProof.Rows L2
abbrev joinR {K : PySem.W.Frag} : V → List V → Hp → VK → Prop := fun x xs H Q => ∃ a p, ∃ ys : List Str, x = .str a ∧ xs = [.ref p] ∧ (SqL K H p (ys.map V.str) ∨ SqT K H p (ys.map V.str)) ∧ (ys.map (·.length)).sum + ys.length * a.length ≤ 16777216 ∧ Q (.str (Txt.join a ys)) H
section
variable {K : PySem.W.Frag} {σ : L2.St} {G G' M M0 M1 H : Hp} {ta tb te tc : TE} {d d1 d2 d3 : PyData} {tt t u : TT} {ts : TA} {ds es : List PyData} {Q : VK} {D : Ends} {s1 s2 tbd : TS} {i j l n m n' : Nat} {r p a : Addr} {o : HO} {Φ Φ1 : PyData → Prop}
/-! ### assignments of two and of three names -/
theorem s_par (ha : TrD K ta σ G d1) (hb : TrD K tb σ G d2) (A : At G M H) (k : ∀ v w G' H', Ex G G' → At G' M H' → Rp K G' d1 v → Rp K G' d2 w → D.nx ((σ.set i (some v)).set j (some w)) H') : tPar i j (tCons ta (tCons tb tNil)) D σ H := by
  refine w_A (a_cons ha (a_cons hb a_nil)) A fun vs G1 H1 e1 A1 r1 => ?_
  obtain ⟨v, _, rfl, h1, w, _, rfl, h2, rfl⟩ := r1
  exact ⟨v, w, rfl, k v w G1 H1 e1 A1 h1 h2⟩
theorem s_par3 (ha : TrD K ta σ G d1) (hb : TrD K tb σ G d2) (hc : TrD K tc σ G d3) (A : At G M H) (k : ∀ v w x G' H', Ex G G' → At G' M H' → Rp K G' d1 v → Rp K G' d2 w → Rp K G' d3 x → D.nx (((σ.set i (some v)).set j (some w)).set l (some x)) H') : tPar3 i j l (tCons ta (tCons tb (tCons tc tNil))) D σ H := by
  refine w_A (a_cons ha (a_cons hb (a_cons hc a_nil))) A fun vs G1 H1 e1 A1 r1 => ?_
  obtain ⟨v, _, rfl, h1, w, _, rfl, h2, x, _, rfl, h3, rfl⟩ := r1
  exact ⟨v, w, x, rfl, k v w x G1 H1 e1 A1 h1 h2 h3⟩
/-! ### comparisons of texts -/
theorem rd_geS {x y : Str} : RD K (fun x y H Q => ∃ i j, x = .str i ∧ y = .str j ∧ Q (.bl (!decide (i.cps.toList < j.cps.toList))) H) (.str x) (.str y) (.bool (!decide (x.cps.toList < y.cps.toList))) :=
  fun G M H v u A h1 h2 Q q => ⟨x, y, h1, h2, q.here A rfl⟩
/-! ### range(a, b) -/
theorem s_forR2 (Inv : Nat → L2.St → Hp → Hp → Prop) {lo hi : Int} (ha : TrD K ta σ G (.int lo)) (hb : TrD K tb σ G (.int hi)) (h1 : -(2 ^ 62) ≤ lo ∧ lo < 2 ^ 62) (h2 : -(2 ^ 62) ≤ hi ∧ hi < 2 ^ 62) (A : At G M H) (mono : ∀ {k : Nat} {σ1 : L2.St} {G1 G2 M1 : Hp}, Ex G1 G2 → Inv k σ1 G1 M1 → Inv k σ1 G2 M1)
    (h0 : Inv 0 σ G M)
    (hs : ∀ (k : Nat), lo + (k : Int) < hi → ∀ σ1 G1 M1 H1, Ex G G1 → At G1 M1 H1 → Inv k σ1 G1 M1 → ∀ Nx : L2.St → Hp → Prop, (∀ σ2 G2 M2 H2, Ex G1 G2 → At G2 M2 H2 → Inv (k + 1) σ2 G2 M2 → Nx σ2 H2) →
      tbd { D with nx := Nx, ct := Nx, bk := D.nx } (σ1.set i (some (.int (lo + (k : Int))))) H1)
    (hd : ∀ σ1 G1 M1 H1, Ex G G1 → At G1 M1 H1 → Inv (hi - lo).toNat σ1 G1 M1 → D.nx σ1 H1) :
    tFor (iRng2 (tCons ta (tCons tb tNil))) (gName i) tbd D σ H := by
  refine w_A (a_cons ha (a_cons hb a_nil)) A fun vs G2 H2 e2 A2 rv => ?_
  obtain ⟨v, _, rfl, h3, w, _, rfl, h4, rfl⟩ := rv
  refine ⟨lo, hi, by rw [show v = V.int lo from h3, show w = V.int hi from h4], ⟨h1.1, h1.2, h2.1, h2.2⟩, ?_⟩
  refine for_range (lo := lo) (n := (hi - lo).toNat) (fun t σ' H' => ∃ G3 M3, Ex G2 G3 ∧ At G3 M3 H' ∧ Inv t σ' G3 M3) ⟨G2, M, Ex.refl _, A2, mono e2 h0⟩ ?_ ?_
  · rintro t σ' H' hx ⟨G3, M3, e3, A3, hI⟩
    exact hs t (by omega) _ _ _ _ (e2.trans e3) A3 hI _ fun σ5 G5 M5 H5 e5 A5 i5 => ⟨G5, M5, e3.trans e5, A5, i5⟩
  · rintro σ' H' ⟨G3, M3, e3, A3, hI⟩
    exact hd σ' G3 M3 H' (e2.trans e3) A3 hI
end
end Sb

namespace Sb
open PySem PySem.Spec PyProof.Rows L2
/-! ### a Hook that also looks at the interpreter's statics and at a Bool of one's own -/
def asS (g : Addr → Option Obj) (n : Nat) : List Addr := He.asD g n ++ [PySem.cStatics]
def obsS (n : Nat) (fa : List He.Fa) (fn : List He.DefD) (ex : PySem.W.Frag → Bool) (g : Addr → Option Obj) : He.AlD × Bool := (He.obsD fa fn (He.frG g (asS g n)), ex (He.frG g (asS g n)))
def hookS (n : Nat) (fa : List He.Fa) (fn : List He.DefD) (ex : PySem.W.Frag → Bool) : PySem.W.Hook where
  α := He.AlD × Bool
  obs := fun s => obsS n fa fn ex s.heap.get?
  val := fun _ => (He.valD fn, true)
  says := fun _ h => ∃ K : PySem.W.Frag, K.In h ∧ He.SaysD fa fn K ∧ ex K = true
  of := fun _ _ e => ⟨_, He.frG_in, congrArg (fun z : He.AlD × Bool => z.1) e, congrArg (fun z : He.AlD × Bool => z.2) e⟩
  keeps := fun _ _ _ ⟨K, hK, c⟩ k => ⟨K, PySem.W.Frag.In.keeps hK k, c⟩
theorem obsS_eq {n : Nat} {fa : List He.Fa} {fn : List He.DefD} {ex : PySem.W.Frag → Bool} {g : Addr → Option Obj} {s : Shared} (h : ∀ a, g a = s.heap.get? a) : obsS n fa fn ex g = (hookS n fa fn ex).obs s := by
  have e : g = s.heap.get? := funext h
  rw [e] <;> rfl
end Sb

namespace Sb
open PySem PySem.Spec PyProof.Rows L2
section
variable (K : PySem.W.Frag)
/-! ### texts and lists of texts of which only bounds are known -/
def SS (te : TE) (σ : L2.St) (G : Hp) (m : Nat) : Prop := ∃ x : Str, TrD K te σ G (.str x) ∧ x.length ≤ m
def SL (te : TE) (σ : L2.St) (G : Hp) (n m : Nat) : Prop := ∃ ls : List Str, TrD K te σ G (.list (dStrs ls)) ∧ ls.length ≤ n ∧ ∀ w ∈ ls, w.length ≤ m
end
section
variable {K : PySem.W.Frag} {σ : L2.St} {G G' M M0 M1 H : Hp} {ta tb te tc : TE} {d d1 d2 d3 : PyData} {tt t u : TT} {ts : TA} {ds es : List PyData} {Q : VK} {D : Ends} {s1 s2 tbd : TS} {i j l n m n' m' n1 n2 : Nat} {r p a : Addr} {o : HO} {Φ Φ1 : PyData → Prop}
theorem dS_len (a : List Str) : (dStrs a).length = a.length := List.length_map ..
theorem dS_app (a b : List Str) : dStrs (a ++ b) = dStrs a ++ dStrs b := List.map_append ..
theorem SS.le (h : SS K te σ G m) (e : m ≤ m') : SS K te σ G m' := let ⟨x, h1, h2⟩ := h; ⟨x, h1, Nat.le_trans h2 e⟩
theorem SL.le (h : SL K te σ G n m) (e : n ≤ n') (e2 : m ≤ m') : SL K te σ G n' m' := let ⟨x, h1, h2, h3⟩ := h; ⟨x, h1, Nat.le_trans h2 e, fun w hw => Nat.le_trans (h3 w hw) e2⟩
theorem ss_str {x : Str} (h : x.length ≤ m) : SS K (tC (.str x)) σ G m := ⟨x, d_str, h⟩
theorem ss_var {x : Str} {v : V} (hi : σ[i]? = some (some v)) (r : Rp K G (.str x) v) (h : x.length ≤ m) : SS K (tVar i) σ G m := ⟨x, d_var hi r, h⟩
theorem sl_var {ls : List Str} {v : V} (hi : σ[i]? = some (some v)) (r : Rp K G (.list (dStrs ls)) v) (h : ls.length ≤ n) (h2 : ∀ w ∈ ls, w.length ≤ m) : SL K (tVar i) σ G n m := ⟨ls, d_var hi r, h, h2⟩
theorem sl_cat (ha : SL K ta σ G n1 m) (hb : SL K tb σ G n2 m) (hn : n1 + n2 ≤ 100000) : SL K (tOp rCat ta tb) σ G (n1 + n2) m := by
  obtain ⟨x, h1, h2, h3⟩ := ha
  obtain ⟨y, k1, k2, k3⟩ := hb
  refine ⟨x ++ y, TrD.to (d_op h1 k1 (rd_cat (by rw [dS_len, dS_len]; omega))) (by rw [dS_app]), by rw [List.length_append]; omega, fun w hw => ?_⟩
  rcases List.mem_append.mp hw with z | z
  · exact h3 w z
  · exact k3 w z
theorem sl_nil : SL K (tLst tNil) σ G 0 m := ⟨[], d_lst a_nil (Nat.zero_le _), Nat.le_refl _, fun w hw => (by cases hw)⟩
theorem sl_one (h : SS K te σ G m) : SL K (tLst (tCons te tNil)) σ G 1 m := by
  obtain ⟨x, h1, h2⟩ := h
  exact ⟨[x], d_lst (a_cons h1 a_nil) (Nat.le_of_ble_eq_true rfl), Nat.le_refl _, fun w hw => by rw [List.mem_singleton.mp hw]; exact h2⟩
theorem sl_cut {tl th : TO} {lo hi : Option Int} (h : SL K te σ G n m) (h1 : TrO tl σ G lo) (h2 : TrO th σ G hi) : SL K (tSl (rSlL K) te tl th) σ G n m := by
  obtain ⟨x, k1, k2, k3⟩ := h
  refine ⟨(x.drop (HT.sIx x.length 0 lo)).take (HT.sIx x.length x.length hi - HT.sIx x.length 0 lo), TrD.to (d_slL k1 h1 h2) ?_, ?_, fun w hw => k3 w (List.mem_of_mem_drop (List.mem_of_mem_take hw))⟩
  · unfold Sb.cutD
    rw [dS_len]
    unfold dStrs
    rw [List.map_take, List.map_drop]
  · rw [List.length_take, List.length_drop]
    omega
theorem ss_ix {ls : List Str} {v : V} {k : Nat} (hi : σ[i]? = some (some v)) (r : Rp K G (.list (dStrs ls)) v) (hb : TrD K tb σ G (.int (k : Int))) (hk : k < ls.length) (h2 : ∀ w ∈ ls, w.length ≤ m) : SS K (tOp (rIxL K) (tVar i) tb) σ G m := by
  refine ⟨ls[k], d_op (d_var hi r) hb (rd_ixL ?_), h2 _ (List.getElem_mem _)⟩
  unfold L2.atI ixN
  rw [if_pos (by omega), if_pos (by rw [dS_len]; omega)]
  show (dStrs ls)[(k : Int).toNat]? = _
  rw [Int.toNat_natCast]
  unfold dStrs
  rw [List.getElem?_map, List.getElem?_eq_getElem hk]
  rfl
theorem ss_add (ha : SS K ta σ G n1) (hb : SS K tb σ G n2) (hn : n1 + n2 ≤ 100000) : SS K (tOp (fun x y H Q => ∃ i j, x = V.str i ∧ y = V.str j ∧ i.length + j.length ≤ sizeLine ∧ Q (V.str (i ++ j)) H) ta tb) σ G (n1 + n2) := by
  obtain ⟨x, h1, h2⟩ := ha
  obtain ⟨y, k1, k2⟩ := hb
  refine ⟨x ++ y, d_op h1 k1 (rd_addS (sz_of (by omega))), ?_⟩
  rw [strLen_append]
  omega
theorem sum_bd {ls : List Str} {c : Nat} (h : ∀ s ∈ ls, s.length ≤ c) : (ls.map (·.length)).sum ≤ ls.length * c := by
  induction ls with
  | nil => simp
  | cons a l ih =>
    have h1 := h a (List.mem_cons_self ..)
    have h2 := ih fun s hs => h s (List.mem_cons_of_mem _ hs)
    rw [List.map_cons, List.sum_cons, List.length_cons, Nat.succ_mul]
    omega
theorem join_bd1 {a : Str} {ls : List Str} (ha : a.length = 1) (h2 : ls.length ≤ n) (h3 : ∀ w ∈ ls, w.length ≤ m) : (ls.map (·.length)).sum + ls.length * a.length ≤ n * (m + 1) := by
  have h4 := sum_bd h3
  rw [ha, Nat.mul_succ n m, Nat.mul_one]
  have h5 : ls.length * m ≤ n * m := Nat.mul_le_mul_right _ h2
  omega
theorem ss_join {a : Str} (ha : a.length = 1) (h : SL K te σ G n m) (hz : n * (m + 1) ≤ 16777216) : SS K (tM1 (fun x xs H Q => ∃ a p, ∃ ys : List Str, x = .str a ∧ xs = [.ref p] ∧ (SqL K H p (ys.map V.str) ∨ SqT K H p (ys.map V.str)) ∧ (ys.map (·.length)).sum + ys.length * a.length ≤ 16777216 ∧ Q (.str (Txt.join a ys)) H) (tC (.str a)) te) σ G (n * (m + 1)) := by
  obtain ⟨x, h1, h2, h3⟩ := h
  have hb := join_bd1 ha h2 h3
  refine ⟨Txt.join a x, d_join d_str h1 (Nat.le_trans hb hz), ?_⟩
  rw [TL.join_eq]
  exact Nat.le_trans (StrLaws.join_length_le _ _) hb
theorem sl_ins {k : Int} (h : SL K (tVar i) σ G n m) (hj : TrD K (tVar j) σ G (.int k)) (he : SS K te σ G m) (hn : n + 1 + n ≤ 100000) : SL K (tOp rCat (tOp rCat (tSl (rSlL K) (tVar i) tNoPart (tPart (tVar j))) (tLst (tCons te tNil))) (tSl (rSlL K) (tVar i) (tPart (tVar j)) tNoPart)) σ G (n + 1 + n) m :=
  sl_cat (sl_cat (sl_cut h o_none (o_some hj)) (sl_one he) (by omega)) (sl_cut h (o_some hj) o_none) hn
theorem sl_put {k : Int} (h : SL K (tVar i) σ G n m) (hj : TrD K (tVar j) σ G (.int k)) (he : SS K te σ G m) (hn : n + 1 + n ≤ 100000) : SL K (tOp rCat (tOp rCat (tSl (rSlL K) (tVar i) tNoPart (tPart (tVar j))) (tLst (tCons te tNil))) (tSl (rSlL K) (tVar i) (tPart (tOp (rI0 fun i j => V.int (i + j)) (tVar j) (tC (V.int 1)))) tNoPart)) σ G (n + 1 + n) m :=
  sl_cat (sl_cat (sl_cut h o_none (o_some hj)) (sl_one he) (by omega)) (sl_cut h (o_some (d_op hj d_int rd_add)) o_none) hn
theorem e_SL (h : SL K te σ G n1 m) : TrE K r M0 te σ G n n fun d => ∃ l, d = .list (dStrs l) ∧ l.length ≤ n1 ∧ ∀ w ∈ l, w.length ≤ m := let ⟨l, h1, h2, h3⟩ := h; e_D h1 ⟨l, rfl, h2, h3⟩
theorem e_SS (h : SS K te σ G m) : TrE K r M0 te σ G n n fun d => ∃ l, d = .str l ∧ l.length ≤ m := let ⟨l, h1, h2⟩ := h; e_D h1 ⟨l, rfl, h2⟩
/-! ### a written list of lists of texts -/
def dLL (lls : List (List Str)) : List PyData := lls.map fun l => .list (dStrs l)
def okLL (n m : Nat) (lls : List (List Str)) : Prop := ∀ l ∈ lls, l.length ≤ n ∧ ∀ w ∈ l, w.length ≤ m
theorem okLL.app {a b : List (List Str)} (h : okLL n m a) (k : okLL n m b) : okLL n m (a ++ b) := fun l hl => by
  rcases List.mem_append.mp hl with z | z
  · exact h l z
  · exact k l z
theorem okLL.nil : okLL n m [] := fun _ h => (by cases h)
theorem dLL_len (a : List (List Str)) : (dLL a).length = a.length := List.length_map ..
theorem dLL_app (a b : List (List Str)) : dLL (a ++ b) = dLL a ++ dLL b := List.map_append ..
def SLL (K : PySem.W.Frag) (ts : TA) (σ : L2.St) (G : Hp) (c n m : Nat) : Prop := ∃ lls : List (List Str), TrA K ts σ G (dLL lls) ∧ lls.length = c ∧ okLL n m lls
theorem sll_nil : SLL K tNil σ G 0 n m := ⟨[], a_nil, rfl, okLL.nil⟩
theorem sll_cons {c : Nat} (h : SL K te σ G n m) (k : SLL K ts σ G c n m) : SLL K (tCons te ts) σ G (c + 1) n m := by
  obtain ⟨l, h1, h2, h3⟩ := h
  obtain ⟨ls, k1, k2, k3⟩ := k
  refine ⟨l :: ls, a_cons h1 k1, by rw [List.length_cons, k2], fun x hx => ?_⟩
  rcases List.mem_cons.mp hx with rfl | hx
  · exact ⟨h2, h3⟩
  · exact k3 x hx
theorem cut_ex {xs : HO} : Ex (cutG M p) (upd M p xs) := fun a o h => by
  by_cases e : a = p
  · rw [e, cut_none] at h
    cases h
  · rw [upd_ne e]
    have h' : (if a = p then none else M a) = some o := h
    rw [if_neg e] at h'
    exact h'
theorem At.frzC {xs : List V} (A : At G (upd M p (.lst xs)) H) (r : RpL K G ds xs) : ∃ G', Ex G G' ∧ At G' (cutG M p) H ∧ Rp K G' (.list ds) (.ref p) :=
  have hm := upd_same (H := M) (a := p) (o := HO.lst xs)
  ⟨_, A.frzG hm, A.frz hm cut_ex cut_none, p, xs, rfl, upd_same, r.up (A.frzG hm)⟩
theorem RL.cut (h : RL r n M) (e : p ≠ r) : RL r n (cutG M p) := by
  obtain ⟨a, b, c, h1, h2⟩ := h
  exact ⟨a, b, c, by show (if r = p then none else M r) = _; rw [if_neg (Ne.symm e)]; exact h1, h2⟩
/-- what stood before stands, the reel apart -/
def Kp (r : Addr) (M M1 : Hp) : Prop := ∀ x, x ≠ r → ∀ o, M x = some o → M1 x = some o
theorem Kp.refl : Kp r M M := fun _ _ _ h => h
theorem Kp.same (h : Kp r M M1) (S : Same r M1 M0) : Kp r M M0 := fun x hx o e => (S x hx).trans (h x hx o e)
theorem Kp.none (h : Kp r M M1) (e : M1 p = none) (hp : p ≠ r) : M p = none := by
  cases z : M p with
  | none => rfl
  | some o =>
    rw [h p hp o z] at e
    cases e
theorem Kp.upd (h : Kp r M M1) (e : M p = Option.none) : Kp r M (L2.upd M1 p o) := fun x hx u z => by
  have hne : x ≠ p := fun y => by rw [y, e] at z; cases z
  rw [upd_ne hne]
  exact h x hx u z
theorem Kp.cut (h : Kp r M M1) (e : M p = Option.none) : Kp r M (cutG M1 p) := fun x hx u z => by
  have hne : x ≠ p := fun y => by rw [y, e] at z; cases z
  show (if x = p then Option.none else M1 x) = _
  rw [if_neg hne]
  exact h x hx u z
theorem upd_id (h : M p = some o) : L2.upd M p o = M := by
  funext x
  by_cases e : x = p
  · rw [e, upd_same, h]
  · rw [upd_ne e]
/-- x = x + [..], x a list that is written -/
theorem q_grow {xs : List V} (A : At G (upd M p (.lst xs)) H) (r : RpL K G ds xs) (hi : σ[i]? = some (some (.ref p))) (hb : ∀ G', Ex G G' → TrA K ts σ G' es) (hn : ds.length + es.length ≤ 100000)
    (k : ∀ p' xs' G' H', Ex G G' → cutG M p p' = none → At G' (upd (cutG M p) p' (.lst xs')) H' → RpL K G' (ds ++ es) xs' → s2 D (σ.set i (some (.ref p'))) H') : tSeq (tAsg (tOp rCat (tVar i) (tLst ts)) (gName i)) s2 D σ H := by
  obtain ⟨G1, e1, A1, r1⟩ := A.frzC r
  exact q_newCat (d_var hi r1) (d_lst (hb G1 e1) (by omega)) hn A1 fun p' xs' G' H' e' hM _ A' r' => k p' xs' G' H' (e1.trans e') hM A' r'
theorem q_app {xs : List V} (A : At G (upd M p (.lst xs)) H) (r : RpL K G ds xs) (hi : σ[i]? = some (some (.ref p))) (hb : TrD K te σ G d) (hn : ds.length < 100000)
    (k : ∀ xs' G' H', Ex G G' → At G' (upd M p (.lst xs')) H' → RpL K G' (ds ++ [d]) xs' → s2 D σ H') : tSeq (tDrop (tBM K "list" rAppend (tVar i) (tCons te tNil))) s2 D σ H := by
  refine q_append hi upd_same hb (by rw [r.len]; exact hn) A fun v G' H' e' A' r' => ?_
  rw [upd_upd] at A'
  exact k _ G' H' e' A' ((r.up e').snoc r')
theorem s_app {xs : List V} (A : At G (upd M p (.lst xs)) H) (r : RpL K G ds xs) (hi : σ[i]? = some (some (.ref p))) (hb : TrD K te σ G d) (hn : ds.length < 100000)
    (k : ∀ xs' G' H', Ex G G' → At G' (upd M p (.lst xs')) H' → RpL K G' (ds ++ [d]) xs' → D.nx σ H') : tDrop (tBM K "list" rAppend (tVar i) (tCons te tNil)) D σ H := by
  refine s_append hi upd_same hb (by rw [r.len]; exact hn) A fun v G' H' e' A' r' => ?_
  rw [upd_upd] at A'
  exact k _ G' H' e' A' ((r.up e').snoc r')
/-- x.append(e), e drawn -/
theorem q_appE {xs : List V} (hi : σ[i]? = some (some (.ref p))) (hp : M0 p = some (.lst xs)) (hn : p ≠ r) (hl : xs.length < 100000) (h : TrE K r M0 te σ G n n' Φ) (A : At G M H) (S : Same r M0 M) (R : RL r n M)
    (k : ∀ d v G' M' H', Ex G G' → At G' M' H' → Same r (upd M0 p (.lst (xs ++ [v]))) M' → RL r n' M' → Φ d → Rp K G' d v → s2 D σ H') : tSeq (tDrop (tBM K "list" rAppend (tVar i) (tCons te tNil))) s2 D σ H := by
  refine ⟨.ref p, hi, Or.inl ⟨rfl, _, Or.inl (Or.inl (A.m _ _ ((S p hn).trans hp)))⟩, ?_⟩
  refine h G M H (Ex.refl _) A S R _ fun d v G2 M2 H2 e2 A2 S2 R2 hd rv => ?_
  have hM2 : M2 p = some (.lst xs) := (S2 p hn).trans hp
  refine ⟨p, xs, v, rfl, rfl, A2.m _ _ hM2, sz_lt hl, k d v G2 _ _ e2 (A2.wr hM2) (fun x hx => ?_) (R2.upd hn) hd rv⟩
  by_cases e : x = p
  · subst e
    rw [upd_same, upd_same]
  · rw [upd_ne e, upd_ne e]
    exact S2 x hx
end
end Sb

namespace Sb
open PySem PySem.Spec PyProof.Rows L2
/-! ### repr of a list of small numbers -/
def smallI (n : Int) : Prop := 0 ≤ n ∧ n < 1000000000000000000
theorem small_log {n : Int} (h : smallI n) : n.natAbs.log2 < 64 := by
  obtain ⟨h0, h1⟩ := h
  by_cases z : n.natAbs = 0
  · rw [z]
    decide
  · exact (Nat.log2_lt z).mpr (by have : (2 : Nat) ^ 64 = 18446744073709551616 := rfl; omega)
theorem rc_ints {K : PySem.W.Frag} {ns : List Int} (h : ∀ n ∈ ns, smallI n) (hl : ns.length ≤ 1000) : RC K (rRepr K) [.list (dInts ns)] (.str (PyData.shown (.list (dInts ns)))) := by
  have h1 : ∀ ns : List Int, noDics (dInts ns) = true := fun ns => by
    induction ns with
    | nil => rfl
    | cons n ns ih => show (noDic (.int n) && noDics (dInts ns)) = true; rw [ih]; rfl
  have h2 : ∀ ns : List Int, (∀ n ∈ ns, smallI n) → PyData.showableAll (dInts ns) = true ∧ PyData.depthAll (dInts ns) = 0 ∧ fiSA (dInts ns) = true ∧ wSA (dInts ns) ≤ 20 * ns.length := fun ns => by
    induction ns with
    | nil => exact fun _ => ⟨rfl, rfl, rfl, Nat.le_refl _⟩
    | cons n ns ih =>
      intro h
      obtain ⟨a, b, c, d⟩ := ih fun x hx => h x (List.mem_cons_of_mem _ hx)
      have hn := h n (List.mem_cons_self ..)
      refine ⟨?_, ?_, ?_, ?_⟩
      · show (PyData.showable (.int n) && PyData.showableAll (dInts ns)) = true
        rw [a, Bool.and_true]
        exact decide_eq_true (Nat.lt_trans (small_log hn) (by decide))
      · show max (PyData.depth (.int n)) (PyData.depthAll (dInts ns)) = 0
        rw [b]
        rfl
      · show (fiS (.int n) && fiSA (dInts ns)) = true
        rw [c, Bool.and_true]
        show (decide (0 ≤ n) && decide (n < 1000000000000000000)) = true
        rw [decide_eq_true hn.1, decide_eq_true hn.2]
        rfl
      · show wS (.int n) + 2 + wSA (dInts ns) ≤ _
        rw [List.length_cons]
        show 18 + 2 + _ ≤ _
        omega
  obtain ⟨a, b, c, d⟩ := h2 ns h
  refine rc_repr (.inr (h1 ns)) rfl a ?_ ?_
  · show PyData.depthAll (dInts ns) + 1 ≤ 60
    rw [b]
    decide
  · refine Nat.le_trans (shown_le (.list (dInts ns)) ?_) ?_
    · show fiSA (dInts ns) = true
      exact c
    · show 2 + wSA (dInts ns) ≤ sizeLine
      have h7 : (20 * 1000 + 2 : Nat) ≤ sizeLine := by decide
      omega
end Sb
namespace Sb
open PySem PySem.Spec PyProof.Rows L2
section
variable {K : PySem.W.Frag} {σ : L2.St} {G G' M M0 M1 H : Hp} {ta tb te tc : TE} {ts : TA} {D : Ends} {s1 s2 : TS} {i n n' : Nat} {r : Addr} {Φ : PyData → Prop} {Ψ : List PyData → Prop}
theorem e_callP {R : List PyData → PyData → Prop} {E : XK} (h : TrEA K r M0 ts σ G n n' Ψ) (hr : ∀ ds, Ψ ds → ∃ d, R ds d ∧ Φ d) : TrE K r M0 (tCall (PSp K R) [] E ts) σ G n n' Φ := fun G1 M H e A S Rr Q q => by
  refine h G1 M H e A S Rr _ fun ds vs G2 M2 H2 e2 A2 S2 R2 hd rv => ?_
  obtain ⟨d, h1, h2⟩ := hr ds hd
  exact ⟨G2, M2, ds, d, A2, by rw [List.append_nil]; exact rv, h1, fun v G' H' e' A' r' => q d v G' M2 H' (e2.trans e') A' S2 R2 h2 r'⟩
theorem s_ifE (h : TrE K r M0 te σ G n n' fun d => d = .bool true) (A : At G M H) (S : Same r M0 M) (R : RL r n M) (k : ∀ G' M' H', Ex G G' → At G' M' H' → Same r M0 M' → RL r n' M' → s2 D σ H') : tIfS (tNot (tB te)) s1 s2 D σ H := by
  refine h G M H (Ex.refl _) A S R _ fun d v G' M' H' e A' S' R' hd rv => ?_
  subst hd
  exact ⟨true, rv, k G' M' H' e A' S' R'⟩
end
end Sb

namespace K80
open PySem PySem.Spec PyProof.Rows L2 Sb
local macro_rules | `(tactic| walk_at "ex") => `(tactic| first | exact Ex.refl _ | assumption | (refine' Ex.trans ?_ (by assumption); walk_at "ex"))
local macro_rules | `(tactic| walk_at "rp") => `(tactic| first | assumption | (refine' Rp.up ?e (by assumption); (case e => walk_at "ex")) | exact rfl)
local macro_rules | `(tactic| walk_at "rd") => `(tactic| with_reducible first | exact rd_add | exact rd_sub | exact rd_lt | exact rd_le | exact rd_gt | exact rd_ge | exact rd_eqI | exact rd_neI | exact rd_eqS | exact rd_neS | exact rd_isN | exact rd_ltS | exact rd_inSign | exact rd_eqE)
local macro_rules | `(tactic| walk_at "tr") => `(tactic| first
  | with_reducible exact d_int
  | with_reducible exact d_str
  | with_reducible exact d_bl
  | with_reducible exact d_non
  | with_reducible exact a_nil
  | with_reducible exact b_yes
  | with_reducible exact o_none
  | with_reducible exact d_newD
  | ((with_reducible refine' d_var ?i ?r); (case i => rfl); (case r => walk_at "rp"))
  | ((with_reducible refine' a_cons ?a ?b); (case a => walk_at "tr"); (case b => walk_at "tr"))
  | ((with_reducible refine' a_star ?a ?b); (case a => walk_at "tr"); (case b => walk_at "tr"))
  | ((with_reducible refine' d_isi ?a ?b); (case a => walk_at "tr"); (case b => decide))
  | ((with_reducible refine' d_op ?a ?b ?c); (case a => walk_at "tr"); (case b => walk_at "tr"); (case c => walk_at "rd"))
  | ((with_reducible refine' d_tup ?a ?b); (case a => walk_at "tr"); (case b => first | decide | (simp; done)))
  | ((with_reducible refine' d_lst ?a ?b); (case a => walk_at "tr"); (case b => first | decide | (simp; done)))
  | ((with_reducible refine' o_some ?a); (case a => walk_at "tr"))
  | ((with_reducible refine' b_B ?a); (case a => walk_at "tr"))
  | ((with_reducible refine' b_T ?a); (case a => walk_at "tr"))
  | ((with_reducible refine' b_not ?a); (case a => walk_at "tr"))
  | ((with_reducible refine' v_not ?a); (case a => walk_at "tr"))
  | ((with_reducible refine' b_or ?a ?b); (case a => walk_at "tr"); (case b => intro _; walk_at "tr"))
  | ((with_reducible refine' b_and ?a ?b); (case a => walk_at "tr"); (case b => intro _; walk_at "tr"))
  | ((with_reducible refine' v_or ?a ?b); (case a => walk_at "tr"); (case b => intro _; walk_at "tr"))
  | ((with_reducible refine' v_and ?a ?b); (case a => walk_at "tr"); (case b => intro _; walk_at "tr"))
  | assumption)


def top (i : Nat) : Stmt := PySem.Challenge.pw_scanbars_k80_texts_of_no_code.main.body.getD i (.Pass ⟨0, 0, 0, 0⟩)
abbrev s_is_integer : Stmt := top 7
theorem sc_is_integer : FnScope ["value", "least", "most"] ["value", "least", "most"] (defScope s_is_integer) := ⟨rfl, rfl, rfl, by decide +kernel, rfl, by decide +kernel, by decide +kernel⟩
def d_is_integer : He.DefD := ⟨("is_integer", none), "is_integer", "is_integer", defArgs s_is_integer, defBody s_is_integer, defScope s_is_integer, [.non, .non], []⟩
abbrev s_is_name : Stmt := top 8
theorem sc_is_name : FnScope ["value"] ["value"] (defScope s_is_name) := ⟨rfl, rfl, rfl, by decide +kernel, rfl, by decide +kernel, by decide +kernel⟩
def d_is_name : He.DefD := ⟨("is_name", none), "is_name", "is_name", defArgs s_is_name, defBody s_is_name, defScope s_is_name, [], []⟩
abbrev s_are_widths : Stmt := top 9
theorem sc_are_widths : FnScope ["value", "least", "most", "item"] ["value", "least", "most"] (defScope s_are_widths) := ⟨rfl, rfl, rfl, by decide +kernel, rfl, by decide +kernel, by decide +kernel⟩
def d_are_widths : He.DefD := ⟨("are_widths", none), "are_widths", "are_widths", defArgs s_are_widths, defBody s_are_widths, defScope s_are_widths, [], []⟩
abbrev s_is_widths : Stmt := top 10
theorem sc_is_widths : FnScope ["value"] ["value"] (defScope s_is_widths) := ⟨rfl, rfl, rfl, by decide +kernel, rfl, by decide +kernel, by decide +kernel⟩
def d_is_widths : He.DefD := ⟨("is_widths", none), "is_widths", "is_widths", defArgs s_is_widths, defBody s_is_widths, defScope s_is_widths, [], []⟩
abbrev s_fault_of_characters : Stmt := top 11
theorem sc_fault_of_characters : FnScope ["value", "name"] ["value"] (defScope s_fault_of_characters) := ⟨rfl, rfl, rfl, by decide +kernel, rfl, by decide +kernel, by decide +kernel⟩
def d_fault_of_characters : He.DefD := ⟨("fault_of_characters", none), "fault_of_characters", "fault_of_characters", defArgs s_fault_of_characters, defBody s_fault_of_characters, defScope s_fault_of_characters, [], []⟩
abbrev s_fault_of_code : Stmt := top 12
theorem sc_fault_of_code : FnScope ["value", "start", "characters", "between", "stop", "found", "name"] ["value"] (defScope s_fault_of_code) := ⟨rfl, rfl, rfl, by decide +kernel, rfl, by decide +kernel, by decide +kernel⟩
def d_fault_of_code : He.DefD := ⟨("fault_of_code", none), "fault_of_code", "fault_of_code", defArgs s_fault_of_code, defBody s_fault_of_code, defScope s_fault_of_code, [], []⟩
abbrev s_require_code : Stmt := top 13
theorem sc_require_code : FnScope ["value", "faults", "part", "name"] ["value"] (defScope s_require_code) := ⟨rfl, rfl, rfl, by decide +kernel, rfl, by decide +kernel, by decide +kernel⟩
def d_require_code : He.DefD := ⟨("require_code", none), "require_code", "require_code", defArgs s_require_code, defBody s_require_code, defScope s_require_code, [], []⟩
abbrev s_line_of : Stmt := top 15
theorem sc_line_of : FnScope ["word", "widths", "width"] ["word", "widths"] (defScope s_line_of) := ⟨rfl, rfl, rfl, by decide +kernel, rfl, by decide +kernel, by decide +kernel⟩
def d_line_of : He.DefD := ⟨("line_of", none), "line_of", "line_of", defArgs s_line_of, defBody s_line_of, defScope s_line_of, [], []⟩
abbrev s_format_code : Stmt := top 16
theorem sc_format_code : FnScope ["code", "start", "characters", "between", "stop", "lines", "name"] ["code"] (defScope s_format_code) := ⟨rfl, rfl, rfl, by decide +kernel, rfl, by decide +kernel, by decide +kernel⟩
def d_format_code : He.DefD := ⟨("format_code", none), "format_code", "format_code", defArgs s_format_code, defBody s_format_code, defScope s_format_code, [], []⟩
abbrev s_read_widths : Stmt := top 17
theorem sc_read_widths : FnScope ["line", "words", "most", "place", "word"] ["line", "words", "most"] (defScope s_read_widths) := ⟨rfl, rfl, rfl, by decide +kernel, rfl, by decide +kernel, by decide +kernel⟩
def d_read_widths : He.DefD := ⟨("read_widths", none), "read_widths", "read_widths", defArgs s_read_widths, defBody s_read_widths, defScope s_read_widths, [], []⟩
abbrev s_may_stand : Stmt := top 18
theorem sc_may_stand : FnScope ["word", "found", "names", "one"] ["word", "found"] (defScope s_may_stand) := ⟨rfl, rfl, rfl, by decide +kernel, rfl, by decide +kernel, by decide +kernel⟩
def d_may_stand : He.DefD := ⟨("may_stand", none), "may_stand", "may_stand", defArgs s_may_stand, defBody s_may_stand, defScope s_may_stand, [], []⟩
abbrev s_parse_code : Stmt := top 19
theorem sc_parse_code : FnScope ["text", "found", "lines", "line", "row", "words", "characters", "name"] ["text"] (defScope s_parse_code) := ⟨rfl, rfl, rfl, by decide +kernel, rfl, by decide +kernel, by decide +kernel⟩
def d_parse_code : He.DefD := ⟨("parse_code", none), "parse_code", "parse_code", defArgs s_parse_code, defBody s_parse_code, defScope s_parse_code, [], []⟩
abbrev s__law_reel : Stmt := top 21
theorem sc__law_reel : FnScope ["script", "index", "cell", "mixed", "spot", "other"] ["script", "index"] (defScope s__law_reel) := ⟨rfl, rfl, rfl, by decide +kernel, rfl, by decide +kernel, by decide +kernel⟩
def d__law_reel : He.DefD := ⟨("_law_reel", none), "_law_reel", "_law_reel", defArgs s__law_reel, defBody s__law_reel, defScope s__law_reel, [], []⟩
abbrev s__law_spin : Stmt := top 22
theorem sc__law_spin : FnScope ["reel", "size", "digit", "wide"] ["reel", "size"] (defScope s__law_spin) := ⟨rfl, rfl, rfl, by decide +kernel, rfl, by decide +kernel, by decide +kernel⟩
def d__law_spin : He.DefD := ⟨("_law_spin", none), "_law_spin", "_law_spin", defArgs s__law_spin, defBody s__law_spin, defScope s__law_spin, [], []⟩
abbrev s__law_widths : Stmt := top 23
theorem sc__law_widths : FnScope ["reel", "least", "most", "turn"] ["reel", "least", "most"] (defScope s__law_widths) := ⟨rfl, rfl, rfl, by decide +kernel, rfl, by decide +kernel, by decide +kernel⟩
def d__law_widths : He.DefD := ⟨("_law_widths", none), "_law_widths", "_law_widths", defArgs s__law_widths, defBody s__law_widths, defScope s__law_widths, [], []⟩
abbrev s__law_code : Stmt := top 24
theorem sc__law_code : FnScope ["reel", "many", "most", "letters", "rows", "way", "same", "chains", "chain", "ends", "turn", "row", "at", "width", "some", "between"] ["reel", "many", "most"] (defScope s__law_code) := ⟨rfl, rfl, rfl, by decide +kernel, rfl, by decide +kernel, by decide +kernel⟩
def d__law_code : He.DefD := ⟨("_law_code", none), "_law_code", "_law_code", defArgs s__law_code, defBody s__law_code, defScope s__law_code, [], []⟩
abbrev s__law_fault : Stmt := top 25
theorem sc__law_fault : FnScope ["text", "names", "stage", "lines", "line", "row", "words", "most", "is_fine", "spot", "name"] ["text"] (defScope s__law_fault) := ⟨rfl, rfl, rfl, by decide +kernel, rfl, by decide +kernel, by decide +kernel⟩
def d__law_fault : He.DefD := ⟨("_law_fault", none), "_law_fault", "_law_fault", defArgs s__law_fault, defBody s__law_fault, defScope s__law_fault, [], []⟩
abbrev s__law_told : Stmt := top 26
theorem sc__law_told : FnScope ["value", "told", "e"] ["value"] (defScope s__law_told) := ⟨rfl, rfl, rfl, by decide +kernel, rfl, by decide +kernel, by decide +kernel⟩
def d__law_told : He.DefD := ⟨("_law_told", none), "_law_told", "_law_told", defArgs s__law_told, defBody s__law_told, defScope s__law_told, [], []⟩
abbrev s__law_bent : Stmt := top 27
theorem sc__law_bent : FnScope ["reel", "text", "lines", "at", "found", "words", "spot", "odds", "odd", "some", "other"] ["reel", "text"] (defScope s__law_bent) := ⟨rfl, rfl, rfl, by decide +kernel, rfl, by decide +kernel, by decide +kernel⟩
def d__law_bent : He.DefD := ⟨("_law_bent", none), "_law_bent", "_law_bent", defArgs s__law_bent, defBody s__law_bent, defScope s__law_bent, [], []⟩
abbrev s__law_right : Stmt := top 28
theorem sc__law_right : FnScope ["reel", "text", "one", "some"] ["reel", "text"] (defScope s__law_right) := ⟨rfl, rfl, rfl, by decide +kernel, rfl, by decide +kernel, by decide +kernel⟩
def d__law_right : He.DefD := ⟨("_law_right", none), "_law_right", "_law_right", defArgs s__law_right, defBody s__law_right, defScope s__law_right, [], []⟩
abbrev s_law : Stmt := top 29
theorem sc_law : FnScope ["script", "index", "reel", "many", "most", "value", "eleven", "told", "name", "one"] ["script"] (defScope s_law) := ⟨rfl, rfl, rfl, by decide +kernel, rfl, by decide +kernel, by decide +kernel⟩
def d_law : He.DefD := ⟨("law", none), "law", "law", defArgs s_law, defBody s_law, defScope s_law, [], []⟩
def inCls (s : Stmt) (j : Nat) : Stmt := match s with
  | .ClassDef _ _ _ body _ _ _ _ _ _ _ => body.getD j (.Pass ⟨0, 0, 0, 0⟩)
  | _ => .Pass ⟨0, 0, 0, 0⟩
abbrev si_InvalidCode : Stmt := inCls (top 2) 0
theorem sci_InvalidCode : FnScope ["self", "part", "name"] ["self", "part", "name"] (defScope si_InvalidCode) := ⟨rfl, rfl, rfl, by decide +kernel, rfl, by decide +kernel, by decide +kernel⟩
def di_InvalidCode : He.DefD := ⟨("InvalidCode", some "__init__"), "__init__", "InvalidCode.__init__", defArgs si_InvalidCode, defBody si_InvalidCode, defScope si_InvalidCode, [], []⟩
abbrev si_InvalidSyntax : Stmt := inCls (top 3) 0
theorem sci_InvalidSyntax : FnScope ["self", "line", "word"] ["self", "line", "word"] (defScope si_InvalidSyntax) := ⟨rfl, rfl, rfl, by decide +kernel, rfl, by decide +kernel, by decide +kernel⟩
def di_InvalidSyntax : He.DefD := ⟨("InvalidSyntax", some "__init__"), "__init__", "InvalidSyntax.__init__", defArgs si_InvalidSyntax, defBody si_InvalidSyntax, defScope si_InvalidSyntax, [], []⟩
def exB (K : PySem.W.Frag) : Bool := ownX K "InvalidCode" && ownX K "InvalidSyntax" && parX K "ScanError"
def fn : List He.DefD := [d_is_integer, d_is_name, d_are_widths, d_is_widths, d_fault_of_characters, d_fault_of_code, d_require_code, d_line_of, d_format_code, d_read_widths, d_may_stand, d_parse_code, d__law_reel, d__law_spin, d__law_widths, d__law_code, d__law_fault, d__law_told, d__law_bent, d__law_right, d_law, di_InvalidCode, di_InvalidSyntax]
def fa : List He.Fa := [.glo "is_integer", .glo "is_name", .glo "are_widths", .glo "is_widths", .glo "fault_of_characters", .glo "fault_of_code", .glo "require_code", .glo "line_of", .glo "format_code", .glo "read_widths", .glo "may_stand", .glo "parse_code", .glo "_law_reel", .glo "_law_spin", .glo "_law_widths", .glo "_law_code", .glo "_law_fault", .glo "_law_told", .glo "_law_bent", .glo "_law_right", .glo "law", .str "NAMES" "0123456789abcdefghijklmnopqrstuvwxyz", .int "MOST_CHARACTERS" 10, .glo "ScanError", .glo "InvalidCode", .glo "InvalidSyntax", .noat "InvalidCode" "part", .noat "InvalidCode" "name", .exm "InvalidCode" "ScanError" true, .exm "InvalidCode" "InvalidCode" true, .exm "InvalidCode" "InvalidSyntax" false, .noat "InvalidSyntax" "line", .noat "InvalidSyntax" "word", .exm "InvalidSyntax" "ScanError" true, .exm "InvalidSyntax" "InvalidCode" false, .exm "InvalidSyntax" "InvalidSyntax" true, .free "abs", .free "all", .free "bool", .free "dict", .free "enumerate", .free "int", .free "isinstance", .free "len", .free "list", .free "max", .free "min", .free "range", .free "repr", .free "sorted", .free "str", .free "tuple"]
/-- what the top has left -/
def Tx (K : PySem.W.Frag) (mg : Str → Option Value) : Prop := ∃ h : Heap, K.In h ∧ h.Ns mainGlobals mg ∧ He.SaysD fa fn K ∧ exB K = true
section
variable {K : PySem.W.Frag} {mg : Str → Option Value}
theorem Tx.g_is_integer (T : Tx K mg) : mg "is_integer" = some (.ref (He.ga K "is_integer")) := let ⟨_, X, G, c, _⟩ := T; He.glo_ok X G (c.fact 0 (f := .glo "is_integer") rfl)
theorem Tx.f_is_integer (T : Tx K mg) : ∃ fd, FunD K "is_integer" "is_integer" (defArgs s_is_integer) (defBody s_is_integer) (defScope s_is_integer) (d_is_integer.dvs K) (d_is_integer.kws K) (He.ga K "is_integer") fd := let ⟨_, X, G, c, _⟩ := T; c.def_ 0 (d := d_is_integer) rfl
theorem Tx.g_is_name (T : Tx K mg) : mg "is_name" = some (.ref (He.ga K "is_name")) := let ⟨_, X, G, c, _⟩ := T; He.glo_ok X G (c.fact 1 (f := .glo "is_name") rfl)
theorem Tx.f_is_name (T : Tx K mg) : ∃ fd, FunD K "is_name" "is_name" (defArgs s_is_name) (defBody s_is_name) (defScope s_is_name) (d_is_name.dvs K) (d_is_name.kws K) (He.ga K "is_name") fd := let ⟨_, X, G, c, _⟩ := T; c.def_ 1 (d := d_is_name) rfl
theorem Tx.g_are_widths (T : Tx K mg) : mg "are_widths" = some (.ref (He.ga K "are_widths")) := let ⟨_, X, G, c, _⟩ := T; He.glo_ok X G (c.fact 2 (f := .glo "are_widths") rfl)
theorem Tx.f_are_widths (T : Tx K mg) : ∃ fd, FunD K "are_widths" "are_widths" (defArgs s_are_widths) (defBody s_are_widths) (defScope s_are_widths) (d_are_widths.dvs K) (d_are_widths.kws K) (He.ga K "are_widths") fd := let ⟨_, X, G, c, _⟩ := T; c.def_ 2 (d := d_are_widths) rfl
theorem Tx.g_is_widths (T : Tx K mg) : mg "is_widths" = some (.ref (He.ga K "is_widths")) := let ⟨_, X, G, c, _⟩ := T; He.glo_ok X G (c.fact 3 (f := .glo "is_widths") rfl)
theorem Tx.f_is_widths (T : Tx K mg) : ∃ fd, FunD K "is_widths" "is_widths" (defArgs s_is_widths) (defBody s_is_widths) (defScope s_is_widths) (d_is_widths.dvs K) (d_is_widths.kws K) (He.ga K "is_widths") fd := let ⟨_, X, G, c, _⟩ := T; c.def_ 3 (d := d_is_widths) rfl
theorem Tx.g_fault_of_characters (T : Tx K mg) : mg "fault_of_characters" = some (.ref (He.ga K "fault_of_characters")) := let ⟨_, X, G, c, _⟩ := T; He.glo_ok X G (c.fact 4 (f := .glo "fault_of_characters") rfl)
theorem Tx.f_fault_of_characters (T : Tx K mg) : ∃ fd, FunD K "fault_of_characters" "fault_of_characters" (defArgs s_fault_of_characters) (defBody s_fault_of_characters) (defScope s_fault_of_characters) (d_fault_of_characters.dvs K) (d_fault_of_characters.kws K) (He.ga K "fault_of_characters") fd := let ⟨_, X, G, c, _⟩ := T; c.def_ 4 (d := d_fault_of_characters) rfl
theorem Tx.g_fault_of_code (T : Tx K mg) : mg "fault_of_code" = some (.ref (He.ga K "fault_of_code")) := let ⟨_, X, G, c, _⟩ := T; He.glo_ok X G (c.fact 5 (f := .glo "fault_of_code") rfl)
theorem Tx.f_fault_of_code (T : Tx K mg) : ∃ fd, FunD K "fault_of_code" "fault_of_code" (defArgs s_fault_of_code) (defBody s_fault_of_code) (defScope s_fault_of_code) (d_fault_of_code.dvs K) (d_fault_of_code.kws K) (He.ga K "fault_of_code") fd := let ⟨_, X, G, c, _⟩ := T; c.def_ 5 (d := d_fault_of_code) rfl
theorem Tx.g_require_code (T : Tx K mg) : mg "require_code" = some (.ref (He.ga K "require_code")) := let ⟨_, X, G, c, _⟩ := T; He.glo_ok X G (c.fact 6 (f := .glo "require_code") rfl)
theorem Tx.f_require_code (T : Tx K mg) : ∃ fd, FunD K "require_code" "require_code" (defArgs s_require_code) (defBody s_require_code) (defScope s_require_code) (d_require_code.dvs K) (d_require_code.kws K) (He.ga K "require_code") fd := let ⟨_, X, G, c, _⟩ := T; c.def_ 6 (d := d_require_code) rfl
theorem Tx.g_line_of (T : Tx K mg) : mg "line_of" = some (.ref (He.ga K "line_of")) := let ⟨_, X, G, c, _⟩ := T; He.glo_ok X G (c.fact 7 (f := .glo "line_of") rfl)
theorem Tx.f_line_of (T : Tx K mg) : ∃ fd, FunD K "line_of" "line_of" (defArgs s_line_of) (defBody s_line_of) (defScope s_line_of) (d_line_of.dvs K) (d_line_of.kws K) (He.ga K "line_of") fd := let ⟨_, X, G, c, _⟩ := T; c.def_ 7 (d := d_line_of) rfl
theorem Tx.g_format_code (T : Tx K mg) : mg "format_code" = some (.ref (He.ga K "format_code")) := let ⟨_, X, G, c, _⟩ := T; He.glo_ok X G (c.fact 8 (f := .glo "format_code") rfl)
theorem Tx.f_format_code (T : Tx K mg) : ∃ fd, FunD K "format_code" "format_code" (defArgs s_format_code) (defBody s_format_code) (defScope s_format_code) (d_format_code.dvs K) (d_format_code.kws K) (He.ga K "format_code") fd := let ⟨_, X, G, c, _⟩ := T; c.def_ 8 (d := d_format_code) rfl
theorem Tx.g_read_widths (T : Tx K mg) : mg "read_widths" = some (.ref (He.ga K "read_widths")) := let ⟨_, X, G, c, _⟩ := T; He.glo_ok X G (c.fact 9 (f := .glo "read_widths") rfl)
theorem Tx.f_read_widths (T : Tx K mg) : ∃ fd, FunD K "read_widths" "read_widths" (defArgs s_read_widths) (defBody s_read_widths) (defScope s_read_widths) (d_read_widths.dvs K) (d_read_widths.kws K) (He.ga K "read_widths") fd := let ⟨_, X, G, c, _⟩ := T; c.def_ 9 (d := d_read_widths) rfl
theorem Tx.g_may_stand (T : Tx K mg) : mg "may_stand" = some (.ref (He.ga K "may_stand")) := let ⟨_, X, G, c, _⟩ := T; He.glo_ok X G (c.fact 10 (f := .glo "may_stand") rfl)
theorem Tx.f_may_stand (T : Tx K mg) : ∃ fd, FunD K "may_stand" "may_stand" (defArgs s_may_stand) (defBody s_may_stand) (defScope s_may_stand) (d_may_stand.dvs K) (d_may_stand.kws K) (He.ga K "may_stand") fd := let ⟨_, X, G, c, _⟩ := T; c.def_ 10 (d := d_may_stand) rfl
theorem Tx.g_parse_code (T : Tx K mg) : mg "parse_code" = some (.ref (He.ga K "parse_code")) := let ⟨_, X, G, c, _⟩ := T; He.glo_ok X G (c.fact 11 (f := .glo "parse_code") rfl)
theorem Tx.f_parse_code (T : Tx K mg) : ∃ fd, FunD K "parse_code" "parse_code" (defArgs s_parse_code) (defBody s_parse_code) (defScope s_parse_code) (d_parse_code.dvs K) (d_parse_code.kws K) (He.ga K "parse_code") fd := let ⟨_, X, G, c, _⟩ := T; c.def_ 11 (d := d_parse_code) rfl
theorem Tx.g__law_reel (T : Tx K mg) : mg "_law_reel" = some (.ref (He.ga K "_law_reel")) := let ⟨_, X, G, c, _⟩ := T; He.glo_ok X G (c.fact 12 (f := .glo "_law_reel") rfl)
theorem Tx.f__law_reel (T : Tx K mg) : ∃ fd, FunD K "_law_reel" "_law_reel" (defArgs s__law_reel) (defBody s__law_reel) (defScope s__law_reel) (d__law_reel.dvs K) (d__law_reel.kws K) (He.ga K "_law_reel") fd := let ⟨_, X, G, c, _⟩ := T; c.def_ 12 (d := d__law_reel) rfl
theorem Tx.g__law_spin (T : Tx K mg) : mg "_law_spin" = some (.ref (He.ga K "_law_spin")) := let ⟨_, X, G, c, _⟩ := T; He.glo_ok X G (c.fact 13 (f := .glo "_law_spin") rfl)
theorem Tx.f__law_spin (T : Tx K mg) : ∃ fd, FunD K "_law_spin" "_law_spin" (defArgs s__law_spin) (defBody s__law_spin) (defScope s__law_spin) (d__law_spin.dvs K) (d__law_spin.kws K) (He.ga K "_law_spin") fd := let ⟨_, X, G, c, _⟩ := T; c.def_ 13 (d := d__law_spin) rfl
theorem Tx.g__law_widths (T : Tx K mg) : mg "_law_widths" = some (.ref (He.ga K "_law_widths")) := let ⟨_, X, G, c, _⟩ := T; He.glo_ok X G (c.fact 14 (f := .glo "_law_widths") rfl)
theorem Tx.f__law_widths (T : Tx K mg) : ∃ fd, FunD K "_law_widths" "_law_widths" (defArgs s__law_widths) (defBody s__law_widths) (defScope s__law_widths) (d__law_widths.dvs K) (d__law_widths.kws K) (He.ga K "_law_widths") fd := let ⟨_, X, G, c, _⟩ := T; c.def_ 14 (d := d__law_widths) rfl
theorem Tx.g__law_code (T : Tx K mg) : mg "_law_code" = some (.ref (He.ga K "_law_code")) := let ⟨_, X, G, c, _⟩ := T; He.glo_ok X G (c.fact 15 (f := .glo "_law_code") rfl)
theorem Tx.f__law_code (T : Tx K mg) : ∃ fd, FunD K "_law_code" "_law_code" (defArgs s__law_code) (defBody s__law_code) (defScope s__law_code) (d__law_code.dvs K) (d__law_code.kws K) (He.ga K "_law_code") fd := let ⟨_, X, G, c, _⟩ := T; c.def_ 15 (d := d__law_code) rfl
theorem Tx.g__law_fault (T : Tx K mg) : mg "_law_fault" = some (.ref (He.ga K "_law_fault")) := let ⟨_, X, G, c, _⟩ := T; He.glo_ok X G (c.fact 16 (f := .glo "_law_fault") rfl)
theorem Tx.f__law_fault (T : Tx K mg) : ∃ fd, FunD K "_law_fault" "_law_fault" (defArgs s__law_fault) (defBody s__law_fault) (defScope s__law_fault) (d__law_fault.dvs K) (d__law_fault.kws K) (He.ga K "_law_fault") fd := let ⟨_, X, G, c, _⟩ := T; c.def_ 16 (d := d__law_fault) rfl
theorem Tx.g__law_told (T : Tx K mg) : mg "_law_told" = some (.ref (He.ga K "_law_told")) := let ⟨_, X, G, c, _⟩ := T; He.glo_ok X G (c.fact 17 (f := .glo "_law_told") rfl)
theorem Tx.f__law_told (T : Tx K mg) : ∃ fd, FunD K "_law_told" "_law_told" (defArgs s__law_told) (defBody s__law_told) (defScope s__law_told) (d__law_told.dvs K) (d__law_told.kws K) (He.ga K "_law_told") fd := let ⟨_, X, G, c, _⟩ := T; c.def_ 17 (d := d__law_told) rfl
theorem Tx.g__law_bent (T : Tx K mg) : mg "_law_bent" = some (.ref (He.ga K "_law_bent")) := let ⟨_, X, G, c, _⟩ := T; He.glo_ok X G (c.fact 18 (f := .glo "_law_bent") rfl)
theorem Tx.f__law_bent (T : Tx K mg) : ∃ fd, FunD K "_law_bent" "_law_bent" (defArgs s__law_bent) (defBody s__law_bent) (defScope s__law_bent) (d__law_bent.dvs K) (d__law_bent.kws K) (He.ga K "_law_bent") fd := let ⟨_, X, G, c, _⟩ := T; c.def_ 18 (d := d__law_bent) rfl
theorem Tx.g__law_right (T : Tx K mg) : mg "_law_right" = some (.ref (He.ga K "_law_right")) := let ⟨_, X, G, c, _⟩ := T; He.glo_ok X G (c.fact 19 (f := .glo "_law_right") rfl)
theorem Tx.f__law_right (T : Tx K mg) : ∃ fd, FunD K "_law_right" "_law_right" (defArgs s__law_right) (defBody s__law_right) (defScope s__law_right) (d__law_right.dvs K) (d__law_right.kws K) (He.ga K "_law_right") fd := let ⟨_, X, G, c, _⟩ := T; c.def_ 19 (d := d__law_right) rfl
theorem Tx.g_law (T : Tx K mg) : mg "law" = some (.ref (He.ga K "law")) := let ⟨_, X, G, c, _⟩ := T; He.glo_ok X G (c.fact 20 (f := .glo "law") rfl)
theorem Tx.f_law (T : Tx K mg) : ∃ fd, FunD K "law" "law" (defArgs s_law) (defBody s_law) (defScope s_law) (d_law.dvs K) (d_law.kws K) (He.ga K "law") fd := let ⟨_, X, G, c, _⟩ := T; c.def_ 20 (d := d_law) rfl
theorem Tx.c_NAMES (T : Tx K mg) : ∃ t, mg "NAMES" = some (.str "0123456789abcdefghijklmnopqrstuvwxyz" t) := let ⟨_, X, G, c, _⟩ := T; He.str_ok X G (c.fact 21 (f := .str "NAMES" "0123456789abcdefghijklmnopqrstuvwxyz") rfl)
theorem Tx.c_MOST_CHARACTERS (T : Tx K mg) : ∃ t, mg "MOST_CHARACTERS" = some (.int 10 t) := let ⟨_, X, G, c, _⟩ := T; He.int_ok X G (c.fact 22 (f := .int "MOST_CHARACTERS" 10) rfl)
theorem Tx.gc_ScanError (T : Tx K mg) : mg "ScanError" = some (.ref (He.ga K "ScanError")) := let ⟨_, X, G, c, _⟩ := T; He.glo_ok X G (c.fact 23 (f := .glo "ScanError") rfl)
theorem Tx.gc_InvalidCode (T : Tx K mg) : mg "InvalidCode" = some (.ref (He.ga K "InvalidCode")) := let ⟨_, X, G, c, _⟩ := T; He.glo_ok X G (c.fact 24 (f := .glo "InvalidCode") rfl)
theorem Tx.gc_InvalidSyntax (T : Tx K mg) : mg "InvalidSyntax" = some (.ref (He.ga K "InvalidSyntax")) := let ⟨_, X, G, c, _⟩ := T; He.glo_ok X G (c.fact 25 (f := .glo "InvalidSyntax") rfl)
theorem Tx.na_InvalidCode_part (T : Tx K mg) : PySem.W.findIn K (.ref (He.ga K "InvalidCode")) "part" = some none := let ⟨_, X, G, c, _⟩ := T; He.noat_ok (c.fact 26 (f := .noat "InvalidCode" "part") rfl)
theorem Tx.na_InvalidCode_name (T : Tx K mg) : PySem.W.findIn K (.ref (He.ga K "InvalidCode")) "name" = some none := let ⟨_, X, G, c, _⟩ := T; He.noat_ok (c.fact 27 (f := .noat "InvalidCode" "name") rfl)
theorem Tx.x_InvalidCode_ScanError (T : Tx K mg) : PySem.W.exmOne K (.ref (He.ga K "InvalidCode")) (.ref (He.ga K "ScanError")) = some true := let ⟨_, X, G, c, _⟩ := T; He.exm_ok (c.fact 28 (f := .exm "InvalidCode" "ScanError" true) rfl)
theorem Tx.x_InvalidCode_InvalidCode (T : Tx K mg) : PySem.W.exmOne K (.ref (He.ga K "InvalidCode")) (.ref (He.ga K "InvalidCode")) = some true := let ⟨_, X, G, c, _⟩ := T; He.exm_ok (c.fact 29 (f := .exm "InvalidCode" "InvalidCode" true) rfl)
theorem Tx.x_InvalidCode_InvalidSyntax (T : Tx K mg) : PySem.W.exmOne K (.ref (He.ga K "InvalidCode")) (.ref (He.ga K "InvalidSyntax")) = some false := let ⟨_, X, G, c, _⟩ := T; He.exm_ok (c.fact 30 (f := .exm "InvalidCode" "InvalidSyntax" false) rfl)
theorem Tx.na_InvalidSyntax_line (T : Tx K mg) : PySem.W.findIn K (.ref (He.ga K "InvalidSyntax")) "line" = some none := let ⟨_, X, G, c, _⟩ := T; He.noat_ok (c.fact 31 (f := .noat "InvalidSyntax" "line") rfl)
theorem Tx.na_InvalidSyntax_word (T : Tx K mg) : PySem.W.findIn K (.ref (He.ga K "InvalidSyntax")) "word" = some none := let ⟨_, X, G, c, _⟩ := T; He.noat_ok (c.fact 32 (f := .noat "InvalidSyntax" "word") rfl)
theorem Tx.x_InvalidSyntax_ScanError (T : Tx K mg) : PySem.W.exmOne K (.ref (He.ga K "InvalidSyntax")) (.ref (He.ga K "ScanError")) = some true := let ⟨_, X, G, c, _⟩ := T; He.exm_ok (c.fact 33 (f := .exm "InvalidSyntax" "ScanError" true) rfl)
theorem Tx.x_InvalidSyntax_InvalidCode (T : Tx K mg) : PySem.W.exmOne K (.ref (He.ga K "InvalidSyntax")) (.ref (He.ga K "InvalidCode")) = some false := let ⟨_, X, G, c, _⟩ := T; He.exm_ok (c.fact 34 (f := .exm "InvalidSyntax" "InvalidCode" false) rfl)
theorem Tx.x_InvalidSyntax_InvalidSyntax (T : Tx K mg) : PySem.W.exmOne K (.ref (He.ga K "InvalidSyntax")) (.ref (He.ga K "InvalidSyntax")) = some true := let ⟨_, X, G, c, _⟩ := T; He.exm_ok (c.fact 35 (f := .exm "InvalidSyntax" "InvalidSyntax" true) rfl)
theorem Tx.fi_InvalidCode (T : Tx K mg) : ∃ fd, FunD K "__init__" "InvalidCode.__init__" (defArgs si_InvalidCode) (defBody si_InvalidCode) (defScope si_InvalidCode) (di_InvalidCode.dvs K) (di_InvalidCode.kws K) (He.ma K (He.ga K "InvalidCode") "__init__") fd := let ⟨_, X, G, c, _⟩ := T; c.def_ 21 (d := di_InvalidCode) rfl
theorem Tx.fi_InvalidSyntax (T : Tx K mg) : ∃ fd, FunD K "__init__" "InvalidSyntax.__init__" (defArgs si_InvalidSyntax) (defBody si_InvalidSyntax) (defScope si_InvalidSyntax) (di_InvalidSyntax.dvs K) (di_InvalidSyntax.kws K) (He.ma K (He.ga K "InvalidSyntax") "__init__") fd := let ⟨_, X, G, c, _⟩ := T; c.def_ 22 (d := di_InvalidSyntax) rfl
theorem Tx.ex (T : Tx K mg) : exB K = true := let ⟨_, _, _, _, h⟩ := T; h
theorem Tx.o_InvalidCode (T : Tx K mg) : OwnX K "InvalidCode" := ownX_ok (Bool.and_eq_true_iff.mp (Bool.and_eq_true_iff.mp T.ex).1).1
theorem Tx.o_InvalidSyntax (T : Tx K mg) : OwnX K "InvalidSyntax" := ownX_ok (Bool.and_eq_true_iff.mp (Bool.and_eq_true_iff.mp T.ex).1).2
theorem Tx.p_ScanError (T : Tx K mg) : ParX K "ScanError" := parX_ok (Bool.and_eq_true_iff.mp T.ex).2
theorem Tx.n_abs (T : Tx K mg) : mg "abs" = none := let ⟨_, X, G, c, _⟩ := T; He.free_ok X G (c.fact 36 (f := .free "abs") rfl)
theorem Tx.n_all (T : Tx K mg) : mg "all" = none := let ⟨_, X, G, c, _⟩ := T; He.free_ok X G (c.fact 37 (f := .free "all") rfl)
theorem Tx.n_bool (T : Tx K mg) : mg "bool" = none := let ⟨_, X, G, c, _⟩ := T; He.free_ok X G (c.fact 38 (f := .free "bool") rfl)
theorem Tx.n_dict (T : Tx K mg) : mg "dict" = none := let ⟨_, X, G, c, _⟩ := T; He.free_ok X G (c.fact 39 (f := .free "dict") rfl)
theorem Tx.n_enumerate (T : Tx K mg) : mg "enumerate" = none := let ⟨_, X, G, c, _⟩ := T; He.free_ok X G (c.fact 40 (f := .free "enumerate") rfl)
theorem Tx.n_int (T : Tx K mg) : mg "int" = none := let ⟨_, X, G, c, _⟩ := T; He.free_ok X G (c.fact 41 (f := .free "int") rfl)
theorem Tx.n_isinstance (T : Tx K mg) : mg "isinstance" = none := let ⟨_, X, G, c, _⟩ := T; He.free_ok X G (c.fact 42 (f := .free "isinstance") rfl)
theorem Tx.n_len (T : Tx K mg) : mg "len" = none := let ⟨_, X, G, c, _⟩ := T; He.free_ok X G (c.fact 43 (f := .free "len") rfl)
theorem Tx.n_list (T : Tx K mg) : mg "list" = none := let ⟨_, X, G, c, _⟩ := T; He.free_ok X G (c.fact 44 (f := .free "list") rfl)
theorem Tx.n_max (T : Tx K mg) : mg "max" = none := let ⟨_, X, G, c, _⟩ := T; He.free_ok X G (c.fact 45 (f := .free "max") rfl)
theorem Tx.n_min (T : Tx K mg) : mg "min" = none := let ⟨_, X, G, c, _⟩ := T; He.free_ok X G (c.fact 46 (f := .free "min") rfl)
theorem Tx.n_range (T : Tx K mg) : mg "range" = none := let ⟨_, X, G, c, _⟩ := T; He.free_ok X G (c.fact 47 (f := .free "range") rfl)
theorem Tx.n_repr (T : Tx K mg) : mg "repr" = none := let ⟨_, X, G, c, _⟩ := T; He.free_ok X G (c.fact 48 (f := .free "repr") rfl)
theorem Tx.n_sorted (T : Tx K mg) : mg "sorted" = none := let ⟨_, X, G, c, _⟩ := T; He.free_ok X G (c.fact 49 (f := .free "sorted") rfl)
theorem Tx.n_str (T : Tx K mg) : mg "str" = none := let ⟨_, X, G, c, _⟩ := T; He.free_ok X G (c.fact 50 (f := .free "str") rfl)
theorem Tx.n_tuple (T : Tx K mg) : mg "tuple" = none := let ⟨_, X, G, c, _⟩ := T; He.free_ok X G (c.fact 51 (f := .free "tuple") rfl)
end
section
variable {P : Program} {w : World} {K : PySem.W.Frag} {mg : Str → Option Value} {base : Heap}
theorem I_InvalidCode (T : Tx K mg) : ∃ fd ps, FnOk P w K mg base CX0 1 (He.ma K (He.ga K "InvalidCode") "__init__") fd ps (spIni2 (He.ga K "InvalidCode") "part" "name") ∧ Binds K fd ps [] := by
  obtain ⟨fd, F⟩ := T.fi_InvalidCode
  refine ⟨fd, ["self", "part", "name"], F.ok sci_InvalidCode (fun vs H Q E h => ?_) (fun cdv A outer s H vs Q E hr h => ?_), F.bindsN fun _ _ _ _ _ _ us hl => match us, hl with | [_, _, _], _ => rfl⟩
  · obtain ⟨a, v1, v2, rfl, _⟩ := h
    rfl
  · obtain ⟨a, v1, v2, rfl, h1, h2⟩ := h
    exact ⟨_, PSs.nox (pss_cons (ps_expr (pe_ceinit (by rfl) T.gc_ScanError T.p_ScanError (pa_cons (pv 0) (pa_cons pe_str pa_nil)))) (pss_cons (ps_ost (pv 0) (pv 1)) (pss_one (ps_ost (pv 0) (pv 2))))), ini2 T.o_InvalidCode.o T.na_InvalidCode_part T.na_InvalidCode_name h1 h2⟩
theorem I_InvalidSyntax (T : Tx K mg) : ∃ fd ps, FnOk P w K mg base CX0 1 (He.ma K (He.ga K "InvalidSyntax") "__init__") fd ps (spIni2 (He.ga K "InvalidSyntax") "line" "word") ∧ Binds K fd ps [] := by
  obtain ⟨fd, F⟩ := T.fi_InvalidSyntax
  refine ⟨fd, ["self", "line", "word"], F.ok sci_InvalidSyntax (fun vs H Q E h => ?_) (fun cdv A outer s H vs Q E hr h => ?_), F.bindsN fun _ _ _ _ _ _ us hl => match us, hl with | [_, _, _], _ => rfl⟩
  · obtain ⟨a, v1, v2, rfl, _⟩ := h
    rfl
  · obtain ⟨a, v1, v2, rfl, h1, h2⟩ := h
    exact ⟨_, PSs.nox (pss_cons (ps_expr (pe_ceinit (by rfl) T.gc_ScanError T.p_ScanError (pa_cons (pv 0) (pa_cons pe_str pa_nil)))) (pss_cons (ps_ost (pv 0) (pv 1)) (pss_one (ps_ost (pv 0) (pv 2))))), ini2 T.o_InvalidSyntax.o T.na_InvalidSyntax_line T.na_InvalidSyntax_word h1 h2⟩
end
section
variable {P : Program} {w : World} {K : PySem.W.Frag} {mg : Str → Option Value} {base : Heap}
theorem xK {CX : CXT} {N : List Str} {qual : Str} {scope : Scope} {f : Addr} {cd : Value} {A : Around} {outer : List Env} {s : Shared} {H : Hp} {E : XK} : (cxOf CX P w K mg base N qual scope f cd A outer s H E).nox.K = K := rfl

theorem xK2 {CX : CXT} {N : List Str} {qual : Str} {scope : Scope} {f : Addr} {cd : Value} {A : Around} {outer : List Env} {s : Shared} {H : Hp} {E : XK} : (cxOf CX P w K mg base N qual scope f cd A outer s H E).K = K := rfl
/-! ### values -/
def optI : Option Int → PyData
  | none => .none
  | some i => .int i
def isIntD (d : PyData) (lo hi : Option Int) : Bool := match d with
  | .int i => lo.all (fun z => decide (z ≤ i)) && hi.all (fun z => decide (i ≤ z))
  | _ => false
theorem isInt_no {d : PyData} {lo hi : Option Int} (h : ¬ ∃ i, d = .int i) : isIntD d lo hi = false := by
  cases d <;> first | rfl | exact absurd ⟨_, rfl⟩ h
def R_is_integer : List PyData → PyData → Prop := fun ds r => ∃ d lo hi, ds = [d, optI lo, optI hi] ∧ r = .bool (isIntD d lo hi)
theorem G_is_integer {f : Addr} {fd : FuncData} (T : Tx K mg) (F : FunD K "is_integer" "is_integer" (defArgs s_is_integer) (defBody s_is_integer) (defScope s_is_integer) (d_is_integer.dvs K) (d_is_integer.kws K) f fd) : FnG P w K mg base CX0 1 f fd ["value", "least", "most"] (PSp K R_is_integer) := by
  refine fnG_of F sc_is_integer (fun vs H Q E h => PSp.len (n := 3) (by rintro _ _ ⟨d, lo, hi, rfl, _⟩; rfl) h) (fun cdv A outer s H vs Q E hg hr h => ?_)
  obtain ⟨G, M, ds, r, hA, hR, ⟨d, lo, hi, rfl, rfl⟩, q⟩ := h
  obtain ⟨v0, _, rfl, r0, v1, _, rfl, r1, v2, _, rfl, r2, rfl⟩ := hR
  refine ⟨_, PSs.nox (pss_cons (ps_if (PW.pt (pw_or (pt_not (pt_val (pe_callB call_isi (by rfl) T.n_isinstance (by decide +kernel) (pa_cons (pv 0) (pa_cons (pe_bltn (v := .ty "int") (u := .type "int") (by rfl) T.n_int (by decide +kernel) rfl) pa_nil))))) (pw_or1 (pt_val (pe_callB call_isi (by rfl) T.n_isinstance (by decide +kernel) (pa_cons (pv 0) (pa_cons (pe_bltn (v := .ty "bool") (u := .type "bool") (by rfl) T.n_bool (by decide +kernel) rfl) pa_nil))))))) (pss_one (ps_ret pe_bl)) pss_nil)
    (pss_one (ps_ret (pe_and (pe_or (pe_cmpR op_isN (pv 1) pe_non (nomark _)) (pe_one (pe_cmpR op_ge (pv 0) (pv 1) (nomark _)))) (pe_one (pe_or (pe_cmpR op_isN (pv 2) pe_non (nomark _)) (pe_one (pe_cmpR op_le (pv 0) (pv 2) (nomark _))))))))), ?_⟩
  rw [show L2.start ["value", "least", "most"] [v0, v1, v2] = [some v0, some v1, some v2] from rfl]
  dsimp only [xK]
  by_cases hd : ∃ i, d = .int i
  · obtain ⟨i, rfl⟩ := hd
    refine (q_guardF ?_ hA fun G1 H1 e1 A1 => ?_)
    · exact TrB.to (b := !isA "int" (.int i) || isA "bool" (.int i)) (by walk_at "tr") rfl
    refine s_ret (d := .bool (isIntD (.int i) lo hi)) ?_ A1 (q.mono e1)
    have h1 : TrD K (tOrV (tOp (fun x y H Q => y = V.non ∧ Q (V.bl (decide (x = V.non))) H) (tVar 1) (tC V.non)) (tOp (rI0 fun i j => V.bl (decide (j ≤ i))) (tVar 0) (tVar 1)))
        [some v0, some v1, some v2] G1 (.bool (lo.all fun z => decide (z ≤ i))) := by
      cases lo with
      | none => exact v_orT (TrD.to (d_op (d_var rfl (r1.up e1)) d_non rd_isN) rfl)
      | some l => exact v_orF (TrD.to (d_op (d_var rfl (r1.up e1)) d_non rd_isN) rfl) (d_op (d_var rfl (r0.up e1)) (d_var rfl (r1.up e1)) rd_ge)
    have h2 : TrD K (tOrV (tOp (fun x y H Q => y = V.non ∧ Q (V.bl (decide (x = V.non))) H) (tVar 2) (tC V.non)) (tOp (rI0 fun i j => V.bl (decide (i ≤ j))) (tVar 0) (tVar 2)))
        [some v0, some v1, some v2] G1 (.bool (hi.all fun z => decide (i ≤ z))) := by
      cases hi with
      | none => exact v_orT (TrD.to (d_op (d_var rfl (r2.up e1)) d_non rd_isN) rfl)
      | some l => exact v_orF (TrD.to (d_op (d_var rfl (r2.up e1)) d_non rd_isN) rfl) (d_op (d_var rfl (r0.up e1)) (d_var rfl (r2.up e1)) rd_le)
    exact v_and h1 fun _ => h2
  · rw [isInt_no hd] at q
    refine (q_guardR ?_ hA fun G1 H1 e1 A1 => ?_)
    · exact TrB.to (b := !isA "int" d || isA "bool" d) (by walk_at "tr") (by cases d <;> first | rfl | exact absurd ⟨_, rfl⟩ hd)
    exact s_ret d_bl A1 (q.mono e1)
theorem F_is_integer3 (T : Tx K mg) : Fd P w K mg base CX0 1 "is_integer" (PSp K R_is_integer) [] := by
  obtain ⟨fd, F⟩ := T.f_is_integer
  obtain ⟨ds, hv, hb⟩ := F.binds1 (ps := ["value", "least", "most"]) 3 2 (by intro z; cases z) rfl fun _ _ _ _ _ _ _ us its h1 h2 => match us, its, h1, h2 with | [_, _, _], [_, _], _, _ => ⟨_, rfl, rfl⟩
  cases hv
  exact ⟨_, fd, _, [], T.g_is_integer, F.kp, hb, .nil, G_is_integer T F⟩

theorem F_is_integer2 (T : Tx K mg) : Fd P w K mg base CX0 1 "is_integer" (PSp K R_is_integer) [.non] := by
  obtain ⟨fd, F⟩ := T.f_is_integer
  obtain ⟨ds, hv, hb⟩ := F.binds1 (ps := ["value", "least", "most"]) 2 1 (by intro z; cases z) rfl fun _ _ _ _ _ _ _ us its h1 h2 => match us, its, h1, h2 with | [_, _], [_, _], _, _ => ⟨_, rfl, rfl⟩
  exact ⟨_, fd, _, ds, T.g_is_integer, F.kp, hb, hv, G_is_integer T F⟩
def NAMESs : Str := "0123456789abcdefghijklmnopqrstuvwxyz"
def isNameS (x : Str) : Bool := match x.cps.toList with
  | [c] => decide (c ∈ NAMESs.cps.toList)
  | _ => false
def isNameD (d : PyData) : Bool := match d with
  | .str x => isNameS x
  | _ => false
def R_is_name : List PyData → PyData → Prop := fun ds r => ∃ d, ds = [d] ∧ (∀ x, d = .str x → x.length ≤ 100000) ∧ r = .bool (isNameD d)
theorem one_sign {x : Str} (h : x.length = 1) : ∃ c, x = ⟨#[c]⟩ := by
  obtain ⟨⟨l⟩⟩ := x
  match l, h with
  | [c], _ => exact ⟨c, rfl⟩
theorem F_is_name (T : Tx K mg) : Fd P w K mg base CX0 1 "is_name" (PSp K R_is_name) [] := by
  obtain ⟨fd, F⟩ := T.f_is_name
  refine ⟨_, fd, ["value"], [], T.g_is_name, F.kp, F.bindsN fun _ _ _ _ _ _ us hl => match us, hl with | [_], _ => rfl, .nil, ?_⟩
  refine fnG_of F sc_is_name (fun vs H Q E h => PSp.len (n := 1) (by rintro _ _ ⟨d, rfl, _⟩; rfl) h) (fun cdv A outer s H vs Q E hg hr h => ?_)
  obtain ⟨G, M, ds, r, hA, hR, ⟨d, rfl, hz, rfl⟩, q⟩ := h
  obtain ⟨v0, _, rfl, r0, rfl⟩ := hR
  refine ⟨_, PSs.nox (pss_one (ps_ret (pe_and (pe_callB call_isi (by rfl) T.n_isinstance (by decide +kernel) (pa_cons (pv 0) (pa_cons (pe_bltn (v := .ty "str") (u := .type "str") (by rfl) T.n_str (by decide +kernel) rfl) pa_nil))) (pe_and (pe_cmpR op_eq (pe_callB call_len' (by rfl) T.n_len (by decide +kernel) (pa_cons (pv 0) pa_nil)) pe_int (nomark _)) (pe_one (pe_cmpR op_in_sign (pv 0) (pe_glob (v := .str "0123456789abcdefghijklmnopqrstuvwxyz") (by rfl) T.c_NAMES.choose_spec ⟨_, rfl⟩) (by rfl))))))), ?_⟩
  rw [show L2.start ["value"] [v0] = [some v0] from rfl]
  dsimp only [xK]
  refine s_ret (d := .bool (isNameD d)) ?_ hA q
  by_cases hd : ∃ x, d = .str x
  · obtain ⟨x, rfl⟩ := hd
    refine v_andT (TrD.to (d_isi (n := "str") (d_var rfl r0)) rfl) ?_
    have hl : TrD K _ [some v0] G (.bool (decide ((x.length : Int) = 1))) := d_op (d_cb (a_cons (d_var (i := 0) rfl r0) a_nil) (rc_lenS (K := K) (sz_of (hz x rfl)))) d_int rd_eqI
    by_cases h1 : x.length = 1
    · obtain ⟨c, rfl⟩ := one_sign h1
      refine v_andT (TrD.to hl rfl) ?_
      refine TrD.to (d_op (d_var rfl r0) d_str rd_inSign) ?_
      rfl
    · have e : isNameD (.str x) = false := by
        show isNameS x = false
        unfold isNameS
        split
        · rename_i c hc
          exact absurd (by rw [show x.length = x.cps.toList.length from rfl, hc]; rfl) h1
        · rfl
      rw [e]
      refine v_andF (TrD.to hl ?_)
      rw [decide_eq_false (by omega)]
  · have e : isNameD d = false := by cases d <;> first | rfl | exact absurd ⟨_, rfl⟩ hd
    rw [e]
    exact v_andF (TrD.to (d_isi (n := "str") (d_var rfl r0)) (by cases d <;> first | rfl | exact absurd ⟨_, rfl⟩ hd))

def areWD (d : PyData) (lo hi : Int) : Bool := match d with
  | .tuple ds => decide (lo ≤ (ds.length : Int)) && decide ((ds.length : Int) ≤ hi) && ds.all fun x => isIntD x (some 1) (some 4)
  | _ => false
def R_are_widths : List PyData → PyData → Prop := fun ds r => ∃ d lo hi, ds = [d, .int lo, .int hi] ∧ hi ≤ 1000 ∧ r = .bool (areWD d lo hi)
theorem F_are_widths (T : Tx K mg) : Fd P w K mg base CX0 2 "are_widths" (PSp K R_are_widths) [] := by
  obtain ⟨fd, F⟩ := T.f_are_widths
  refine ⟨_, fd, ["value", "least", "most"], [], T.g_are_widths, F.kp, F.bindsN fun _ _ _ _ _ _ us hl => match us, hl with | [_, _, _], _ => rfl, .nil, ?_⟩
  refine fnG_of F sc_are_widths (fun vs H Q E h => PSp.len (n := 3) (by rintro _ _ ⟨d, lo, hi, rfl, _⟩; rfl) h) (fun cdv A outer s H vs Q E hg hr h => ?_)
  obtain ⟨G, M, ds, r, hA, hR, ⟨d, lo, hi, rfl, hh, rfl⟩, q⟩ := h
  obtain ⟨v0, _, rfl, r0, v1, _, rfl, r1, v2, _, rfl, r2, rfl⟩ := hR
  refine ⟨_, PSs.nox (pss_cons (ps_if (PW.pt (pw_or (pt_not (pt_val (pe_callB call_isi (by rfl) T.n_isinstance (by decide +kernel) (pa_cons (pv 0) (pa_cons (pe_bltn (v := .ty "tuple") (u := .type "tuple") (by rfl) T.n_tuple (by decide +kernel) rfl) pa_nil))))) (pw_or1 (pt_not (pt_chain op_le op_le (pv 1) (pe_callB call_len' (by rfl) T.n_len (by decide +kernel) (pa_cons (pv 0) pa_nil)) (pv 2)))))) (pss_one (ps_ret pe_bl)) pss_nil)
    (pss_one (ps_ret (pe_callB (cr_all rfl) (by rfl) T.n_all (by decide +kernel) (pa_cons (pe_lc (own := [("item", 3)]) (g := gName 3) (by rfl) sc_are_widths.nd (pi_tup (pv 0)) (blkOk_by (own := [("item", 3)]) (N := ["value", "least", "most", "item"]) (sc := defScope s_are_widths) (by decide +kernel)) (fun _ _ _ _ _ => (pg_name (i := 3) sc_are_widths.nd rfl (by first | exact Or.inl rfl | exact Or.inr rfl))) (fun _ _ _ _ _ => pts_nil) (fun _ _ _ _ _ => (pe_fd (F_is_integer3 (P := P) (w := w) (base := base) T) hg (hr.mono (by decide)) pass0 (pa_cons (pv 3) (pa_cons pe_int (pa_cons pe_int pa_nil)))))) pa_nil))))), ?_⟩
  rw [show L2.start ["value", "least", "most", "item"] [v0, v1, v2] = [some v0, some v1, some v2, none] from rfl]
  dsimp only [xK]
  by_cases hd : ∃ ds, d = .tuple ds
  · obtain ⟨ds, rfl⟩ := hd
    have ht : TrB _ [some v0, some v1, some v2, none] G (!isA "tuple" (.tuple ds) || !(decide (lo ≤ (ds.length : Int)) && decide ((ds.length : Int) ≤ hi))) :=
      b_or (b_not (b_B (d_isi (d_var (i := 0) rfl r0)))) fun _ => b_not (b_T (d_chain (d_var (i := 1) rfl r1) (d_cb (a_cons (d_var (i := 0) rfl r0) a_nil) (rc_lenT (K := K))) rd_le (fun _ => d_var (i := 2) rfl r2) fun _ => rd_le))
    by_cases hl : lo ≤ (ds.length : Int) ∧ (ds.length : Int) ≤ hi
    · refine (q_guardF (TrB.to ht ?_) hA fun G1 H1 e1 A1 => ?_)
      · rw [decide_eq_true hl.1, decide_eq_true hl.2]; rfl
      refine s_ret (d := .bool (areWD (.tuple ds) lo hi)) ?_ A1 (q.mono e1)
      have e : areWD (.tuple ds) lo hi = (ds.map fun x => isIntD x (some 1) (some 4)).all id := by
        show (decide (lo ≤ (ds.length : Int)) && decide ((ds.length : Int) ≤ hi) && _) = _
        rw [decide_eq_true hl.1, decide_eq_true hl.2, List.all_map]
        rfl
      rw [e]
      refine d_cb (a_cons ?_ a_nil) rc_all
      refine TrD.to (d_lcT (p := fun _ => true) (f := fun x => .bool (isIntD x (some 1) (some 4))) (d_var rfl (r0.up e1)) (by omega) (fun _ _ _ _ _ _ => b_yes) fun x _ _ v G2 e2 rx => ?_) (by rw [filt_true, List.map_map]; rfl)
      exact d_call0 (a_cons (d_var rfl rx) (a_cons d_int (a_cons d_int a_nil))) ⟨x, some 1, some 4, rfl, rfl⟩
    · have e : areWD (.tuple ds) lo hi = false := by
        show (decide (lo ≤ (ds.length : Int)) && decide ((ds.length : Int) ≤ hi) && _) = false
        by_cases h1 : lo ≤ (ds.length : Int)
        · rw [decide_eq_false (fun z => hl ⟨h1, z⟩), Bool.and_false, Bool.false_and]
        · rw [decide_eq_false h1, Bool.false_and, Bool.false_and]
      rw [e] at q
      refine (q_guardR (TrB.to ht ?_) hA fun G1 H1 e1 A1 => ?_)
      · by_cases h1 : lo ≤ (ds.length : Int)
        · rw [decide_eq_false (fun z => hl ⟨h1, z⟩), Bool.and_false]; rfl
        · rw [decide_eq_false h1, Bool.false_and]; rfl
      exact s_ret d_bl A1 (q.mono e1)
  · have e : areWD d lo hi = false := by cases d <;> first | rfl | exact absurd ⟨_, rfl⟩ hd
    rw [e] at q
    refine (q_guardR (b_orT (TrB.to (b_not (b_B (d_isi (d_var rfl r0)))) ?_)) hA fun G1 H1 e1 A1 => ?_)
    · cases d <;> first | rfl | exact absurd ⟨_, rfl⟩ hd
    exact s_ret d_bl A1 (q.mono e1)
def R_is_widths : List PyData → PyData → Prop := fun ds r => ∃ d, ds = [d] ∧ r = .bool (areWD d 1 6)
theorem F_is_widths (T : Tx K mg) : Fd P w K mg base CX0 3 "is_widths" (PSp K R_is_widths) [] := by
  obtain ⟨fd, F⟩ := T.f_is_widths
  refine ⟨_, fd, ["value"], [], T.g_is_widths, F.kp, F.bindsN fun _ _ _ _ _ _ us hl => match us, hl with | [_], _ => rfl, .nil, ?_⟩
  refine fnG_of F sc_is_widths (fun vs H Q E h => PSp.len (n := 1) (by rintro _ _ ⟨d, rfl, _⟩; rfl) h) (fun cdv A outer s H vs Q E hg hr h => ?_)
  obtain ⟨G, M, ds, r, hA, hR, ⟨d, rfl, rfl⟩, q⟩ := h
  obtain ⟨v0, _, rfl, r0, rfl⟩ := hR
  refine ⟨_, PSs.nox (pss_one (ps_ret (pe_fd (F_are_widths (P := P) (w := w) (base := base) T) hg (hr.mono (by decide)) pass0 (pa_cons (pv 0) (pa_cons pe_int (pa_cons pe_int pa_nil)))))), ?_⟩
  rw [show L2.start ["value"] [v0] = [some v0] from rfl]
  exact s_ret (d_call0 (a_cons (d_var rfl r0) (a_cons d_int (a_cons d_int a_nil))) ⟨d, 1, 6, rfl, by decide, rfl⟩) hA q
end
end K80

namespace K80
open PySem PySem.Spec PyProof.Rows L2 Sb
local macro_rules | `(tactic| walk_at "ex") => `(tactic| first | exact Ex.refl _ | assumption | (refine' Ex.trans ?_ (by assumption); walk_at "ex"))
local macro_rules | `(tactic| walk_at "rp") => `(tactic| first | assumption | (refine' Rp.up ?e (by assumption); (case e => walk_at "ex")) | exact rfl)
local macro_rules | `(tactic| walk_at "rd") => `(tactic| with_reducible first | exact rd_add | exact rd_sub | exact rd_lt | exact rd_le | exact rd_gt | exact rd_ge | exact rd_eqI | exact rd_neI | exact rd_eqS | exact rd_neS | exact rd_isN | exact rd_ltS | exact rd_inSign | exact rd_eqE)
local macro_rules | `(tactic| walk_at "tr") => `(tactic| first
  | with_reducible exact d_int
  | with_reducible exact d_str
  | with_reducible exact d_bl
  | with_reducible exact d_non
  | with_reducible exact a_nil
  | with_reducible exact b_yes
  | with_reducible exact o_none
  | with_reducible exact d_newD
  | ((with_reducible refine' d_var ?i ?r); (case i => rfl); (case r => walk_at "rp"))
  | ((with_reducible refine' a_cons ?a ?b); (case a => walk_at "tr"); (case b => walk_at "tr"))
  | ((with_reducible refine' a_star ?a ?b); (case a => walk_at "tr"); (case b => walk_at "tr"))
  | ((with_reducible refine' d_isi ?a ?b); (case a => walk_at "tr"); (case b => decide))
  | ((with_reducible refine' d_op ?a ?b ?c); (case a => walk_at "tr"); (case b => walk_at "tr"); (case c => walk_at "rd"))
  | ((with_reducible refine' d_tup ?a ?b); (case a => walk_at "tr"); (case b => first | decide | (simp; done)))
  | ((with_reducible refine' d_lst ?a ?b); (case a => walk_at "tr"); (case b => first | decide | (simp; done)))
  | ((with_reducible refine' o_some ?a); (case a => walk_at "tr"))
  | ((with_reducible refine' b_B ?a); (case a => walk_at "tr"))
  | ((with_reducible refine' b_T ?a); (case a => walk_at "tr"))
  | ((with_reducible refine' b_not ?a); (case a => walk_at "tr"))
  | ((with_reducible refine' v_not ?a); (case a => walk_at "tr"))
  | ((with_reducible refine' b_or ?a ?b); (case a => walk_at "tr"); (case b => intro _; walk_at "tr"))
  | ((with_reducible refine' b_and ?a ?b); (case a => walk_at "tr"); (case b => intro _; walk_at "tr"))
  | ((with_reducible refine' v_or ?a ?b); (case a => walk_at "tr"); (case b => intro _; walk_at "tr"))
  | ((with_reducible refine' v_and ?a ?b); (case a => walk_at "tr"); (case b => intro _; walk_at "tr"))
  | assumption)


/-! ### codes -/
def okW (lo hi : Nat) (ns : List Int) : Prop := lo ≤ ns.length ∧ ns.length ≤ hi ∧ ∀ n ∈ ns, 1 ≤ n ∧ n ≤ 4
def chD (cs : List (Str × List Int)) : List (Str × PyData) := cs.map fun p => (p.1, .tuple (dInts p.2))
structure CodeD where
  st : List Int
  cs : List (Str × List Int)
  bt : List Int
  sp : List Int
def CodeD.d (c : CodeD) : PyData := .tuple [.tuple (dInts c.st), .dict (keysD (chD c.cs)), .tuple (dInts c.bt), .tuple (dInts c.sp)]
structure okCs (cs : List (Str × List Int)) : Prop where
  l1 : 1 ≤ cs.length
  l2 : cs.length ≤ 10
  nm : ∀ p ∈ cs, isNameS p.1 = true ∧ okW 1 6 p.2
  nd : (cs.map (·.1)).Nodup
structure CodeD.ok (c : CodeD) : Prop where
  st : okW 1 6 c.st
  cs : okCs c.cs
  bt : okW 0 2 c.bt
  sp : okW 1 6 c.sp
theorem dInts_len (ns : List Int) : (dInts ns).length = ns.length := by simp [dInts]
theorem areWD_ok {ns : List Int} {lo hi : Nat} (h : okW lo hi ns) : areWD (.tuple (dInts ns)) lo hi = true := by
  show (decide ((lo : Int) ≤ ((dInts ns).length : Int)) && decide (((dInts ns).length : Int) ≤ (hi : Int)) && (dInts ns).all _) = true
  rw [dInts_len, decide_eq_true (by have := h.1; omega), decide_eq_true (by have := h.2.1; omega), List.all_eq_true.mpr]
  · rfl
  · intro x hx
    obtain ⟨n, hn, rfl⟩ := List.mem_map.mp hx
    have z := h.2.2 n hn
    show (decide (1 ≤ n) && decide (n ≤ 4)) = true
    rw [decide_eq_true z.1, decide_eq_true z.2]
    rfl
theorem name_len {x : Str} (h : isNameS x = true) : x.length = 1 := by
  unfold isNameS at h
  split at h
  · rename_i c hc
    show x.cps.toList.length = 1
    rw [hc]
    rfl
  · cases h
theorem lookD_mem : ∀ {kvs : List (Str × PyData)} {k : Str} {d : PyData}, (kvs.map (·.1)).Nodup → (k, d) ∈ kvs → lookD kvs k = some d
  | [], _, _, _, h => by cases h
  | (k', d') :: r, k, d, nd, h => by
    unfold lookD
    rw [List.find?_cons]
    have nd' := List.nodup_cons.mp nd
    rcases List.mem_cons.mp h with e | h
    · cases e
      simp
    · have hne : k' ≠ k := fun e => nd'.1 (by rw [e]; exact List.mem_map.mpr ⟨_, h, rfl⟩)
      simp only [decide_eq_false hne]
      exact lookD_mem nd'.2 h
theorem chD_keys (cs : List (Str × List Int)) : (chD cs).map (·.1) = cs.map (·.1) := by unfold chD; rw [List.map_map]; rfl
theorem chD_look {cs : List (Str × List Int)} (h : (cs.map (·.1)).Nodup) {p : Str × List Int} (hp : p ∈ cs) : lookD (chD cs) p.1 = some (.tuple (dInts p.2)) :=
  lookD_mem (by rw [chD_keys]; exact h) (List.mem_map.mpr ⟨p, hp, rfl⟩)
section
variable {P : Program} {w : World} {K : PySem.W.Frag} {mg : Str → Option Value} {base : Heap}
def R_foc : List PyData → PyData → Prop := fun ds r => ∃ cs, ds = [.dict (keysD (chD cs))] ∧ okCs cs ∧ r = .list []
theorem F_fault_of_characters (T : Tx K mg) : Fd P w K mg base CX0 4 "fault_of_characters" (PSp K R_foc) [] := by
  obtain ⟨fd, F⟩ := T.f_fault_of_characters
  refine ⟨_, fd, ["value"], [], T.g_fault_of_characters, F.kp, F.bindsN fun _ _ _ _ _ _ us hl => match us, hl with | [_], _ => rfl, .nil, ?_⟩
  refine fnG_of F sc_fault_of_characters (fun vs H Q E h => PSp.len (n := 1) (by rintro _ _ ⟨d, rfl, _⟩; rfl) h) (fun cdv A outer s H vs Q E hg hr h => ?_)
  obtain ⟨G, M, ds, r, hA, hR, ⟨cs, rfl, ok, rfl⟩, q⟩ := h
  obtain ⟨v0, _, rfl, r0, rfl⟩ := hR
  refine ⟨_, PSs.nox (pss_cons (ps_if (PW.pt (pw_or (pt_not (pt_val (pe_callB call_isi (by rfl) T.n_isinstance (by decide +kernel) (pa_cons (pv 0) (pa_cons (pe_bltn (v := .ty "dict") (u := .type "dict") (by rfl) T.n_dict (by decide +kernel) rfl) pa_nil))))) (pw_or1 (pt_not (pt_chain op_le op_le pe_int (pe_callB call_lenD' (by rfl) T.n_len (by decide +kernel) (pa_cons (pv 0) pa_nil)) (pe_glob (v := .int 10) (by rfl) T.c_MOST_CHARACTERS.choose_spec ⟨_, rfl⟩)))))) (pss_one (ps_ret (pe_lst (pa_cons pe_non pa_nil)))) pss_nil)
    (pss_cons (ps_if (pt_not (pt_val (pe_callB (cr_all rfl) (by rfl) T.n_all (by decide +kernel) (pa_cons (pe_lock (pe_lc (own := [("name", 1)]) (g := gName 1) (by rfl) sc_fault_of_characters.nd (pi_keys (pv 0)) (blkOk_by (own := [("name", 1)]) (N := ["value", "name"]) (sc := defScope s_fault_of_characters) (by decide +kernel)) (fun _ _ _ _ _ => (pg_name (i := 1) sc_fault_of_characters.nd rfl (by first | exact Or.inl rfl | exact Or.inr rfl))) (fun _ _ _ _ _ => pts_nil) (fun _ _ _ _ _ => (pe_fd (F_is_name (P := P) (w := w) (base := base) T) hg (hr.mono (by decide)) pass0 (pa_cons (pv 1) pa_nil))))) pa_nil)))) (pss_one (ps_ret (pe_lst (pa_cons pe_non pa_nil)))) pss_nil)
    (pss_one (ps_ret (pe_slice sl_list (pe_lc (own := [("name", 1)]) (g := gName 1) (by rfl) sc_fault_of_characters.nd (pi_list (pe_callB (call_sortedD' rfl) (by rfl) T.n_sorted (by decide +kernel) (pa_cons (pv 0) pa_nil))) (blkOk_by (own := [("name", 1)]) (N := ["value", "name"]) (sc := defScope s_fault_of_characters) (by decide +kernel)) (fun _ _ _ _ _ => (pg_name (i := 1) sc_fault_of_characters.nd rfl (by first | exact Or.inl rfl | exact Or.inr rfl))) (fun _ _ _ _ _ => (pts_one (pt_not (pt_val (pe_fd (F_is_widths (P := P) (w := w) (base := base) T) hg (hr.mono (by decide)) pass0 (pa_cons (pe_dget (hu_of hr) (pv 0) (pv 1) (fun _ _ => rfl)) pa_nil)))))) (fun _ _ _ _ _ => (pv 1))) po_none (po_some pe_int)))))), ?_⟩
  rw [show L2.start ["value", "name"] [v0] = [some v0, none] from rfl]
  dsimp only [xK]
  have hlen : (keysD (chD cs)).length = cs.length := by rw [keysD_len]; simp [chD]
  have hlen2 : (chD cs).length = cs.length := by simp [chD]
  have hl1 := ok.l1
  have hl2 := ok.l2
  refine q_guardF (TrB.to (b_or (b_not (b_B (d_isi (d_var rfl r0)))) fun _ => b_not (b_T (d_chain d_int (d_cb (a_cons (d_var rfl r0) a_nil) rc_lenD) rd_le (fun _ => d_int) fun _ => rd_le))) ?_) hA fun G1 H1 e1 A1 => ?_
  · rw [hlen, decide_eq_true (show (1 : Int) ≤ (cs.length : Int) by omega), decide_eq_true (show (cs.length : Int) ≤ 10 by omega)]
    rfl
  refine q_guardF (TrB.to (b_not (b_B (d_cb (a_cons (TrD.to (d_lcK (p := fun _ => true) (f := fun k => .bool (isNameS k)) rfl (r0.up e1) (by omega) rfl (fun _ _ _ => b_yes) fun k hk G2 => ?_) ?_) a_nil) (rc_all (bs := (cs.map (·.1)).map isNameS))))) ?_) A1 fun G2 H2 e2 A2 => ?_
  · obtain ⟨p, hp, rfl⟩ := List.mem_map.mp (by rw [chD_keys] at hk; exact hk)
    exact d_call0 (a_cons (d_var (d := .str p.1) rfl rfl) a_nil) ⟨.str p.1, rfl, fun x hx => by cases hx; rw [name_len (ok.nm p hp).1]; decide, rfl⟩
  · rw [filt_true, chD_keys]
    simp only [List.map_map]
    rfl
  · have z : ((cs.map (·.1)).map isNameS).all id = true := by
      rw [List.all_eq_true]
      intro b hb
      obtain ⟨x, hx, rfl⟩ := List.mem_map.mp hb
      obtain ⟨p, hp, rfl⟩ := List.mem_map.mp hx
      exact (ok.nm p hp).1
    rw [z]
    rfl
  refine s_ret (TrD.to (d_slL (d_lcL (p := fun _ => false) (f := fun x => x) (d_cb (a_cons (d_var rfl (r0.up (e1.trans e2))) a_nil) (rc_sortD (by omega))) ?_ (fun d hd x G3 e3 rx => ?_) fun d hd hp => ?_) o_none (o_some (K := K) d_int)) ?_) A2 (q.mono (e1.trans e2))
  · unfold dStrs
    rw [List.length_map, (srt_perm _).length_eq, List.length_map]
    omega
  · obtain ⟨nm, hnm, rfl⟩ := List.mem_map.mp hd
    have hm := (srt_perm _).mem_iff.mp hnm
    rw [chD_keys] at hm
    obtain ⟨p, hp, rfl⟩ := List.mem_map.mp hm
    refine TrB.to (b_not (b_B (d_call0 (a_cons (d_dget (d_var rfl (r0.up ((e1.trans e2).trans e3))) (d_var rfl rx) (chD_look ok.nd hp)) a_nil) ⟨_, rfl, rfl⟩))) ?_
    rw [show areWD (.tuple (dInts p.2)) 1 6 = true from areWD_ok (ok.nm p hp).2]
    rfl
  · cases hp
  · rw [List.filter_eq_nil_iff.mpr (fun _ _ => Bool.false_ne_true)]
    rfl
def R_fc : List PyData → PyData → Prop := fun ds r => ∃ c : CodeD, ds = [c.d] ∧ c.ok ∧ r = .list []
theorem F_fault_of_code (T : Tx K mg) : Fd P w K mg base CX0 5 "fault_of_code" (PSp K R_fc) [] := by
  obtain ⟨fd, F⟩ := T.f_fault_of_code
  refine ⟨_, fd, ["value"], [], T.g_fault_of_code, F.kp, F.bindsN fun _ _ _ _ _ _ us hl => match us, hl with | [_], _ => rfl, .nil, ?_⟩
  refine fnG_of F sc_fault_of_code (fun vs H Q E h => PSp.len (n := 1) (by rintro _ _ ⟨d, rfl, _⟩; rfl) h) (fun cdv A outer s H vs Q E hg hr h => ?_)
  obtain ⟨G, M, ds, r, hA, hR, ⟨c, rfl, ok, rfl⟩, q⟩ := h
  obtain ⟨v0, _, rfl, r0, rfl⟩ := hR
  refine ⟨_, PSs.nox (pss_cons (ps_if (PW.pt (pw_or (pt_not (pt_val (pe_callB call_isi (by rfl) T.n_isinstance (by decide +kernel) (pa_cons (pv 0) (pa_cons (pe_bltn (v := .ty "tuple") (u := .type "tuple") (by rfl) T.n_tuple (by decide +kernel) rfl) pa_nil))))) (pw_or1 (pt_cmpR op_ne (pe_callB call_len' (by rfl) T.n_len (by decide +kernel) (pa_cons (pv 0) pa_nil)) pe_int (nomark _))))) (pss_one (ps_ret (pe_lst (pa_cons (pe_tup (pa_cons pe_non (pa_cons pe_non pa_nil))) pa_nil)))) pss_nil)
    (pss_cons (ps_asg (pv 0) (pg_tup (by rfl) (pgs_cons (pg_name (i := 1) sc_fault_of_code.nd rfl (by first | exact Or.inl rfl | exact Or.inr rfl)) (pgs_cons (pg_name (i := 2) sc_fault_of_code.nd rfl (by first | exact Or.inl rfl | exact Or.inr rfl)) (pgs_cons (pg_name (i := 3) sc_fault_of_code.nd rfl (by first | exact Or.inl rfl | exact Or.inr rfl)) (pgs_cons (pg_name (i := 4) sc_fault_of_code.nd rfl (by first | exact Or.inl rfl | exact Or.inr rfl)) pgs_nil))))))
    (pss_cons (ps_setLc (i := 5) (own := [("name", 6)]) (g := gName 6) (by rfl) sc_fault_of_code.nd rfl rfl (sw_true rfl rfl rfl (by decide +kernel)) (pi_list (pe_fd (F_fault_of_characters (P := P) (w := w) (base := base) T) hg (hr.mono (by decide)) pass0 (pa_cons (pv 2) pa_nil))) (blkOk_by (own := [("name", 6)]) (N := ["value", "start", "characters", "between", "stop", "found", "name"]) (sc := defScope s_fault_of_code) (by decide +kernel)) (fun _ _ _ _ _ => (pg_name (i := 6) sc_fault_of_code.nd rfl (by first | exact Or.inl rfl | exact Or.inr rfl))) (fun _ _ _ _ _ => pts_nil) (fun _ _ _ _ _ => (pe_tup (pa_cons pe_str (pa_cons (pv 6) pa_nil)))))
    (pss_cons (ps_if (pt_not (pt_val (pe_fd (F_is_widths (P := P) (w := w) (base := base) T) hg (hr.mono (by decide)) pass0 (pa_cons (pv 1) pa_nil)))) (pss_one (ps_set (i := 5) sc_fault_of_code.nd rfl (by first | exact Or.inl rfl | exact Or.inr rfl) (pe_lst (pa_cons (pe_tup (pa_cons pe_str (pa_cons pe_non pa_nil))) pa_nil)))) pss_nil)
    (pss_cons (ps_if (PW.pt (pw_and (pt_cmpR (op_eqR hr.units) (pv 5) (pe_lst pa_nil) (nomark _)) (pw_and1 (pt_not (pt_val (pe_fd (F_are_widths (P := P) (w := w) (base := base) T) hg (hr.mono (by decide)) pass0 (pa_cons (pv 3) (pa_cons pe_int (pa_cons pe_int pa_nil))))))))) (pss_one (ps_set (i := 5) sc_fault_of_code.nd rfl (by first | exact Or.inl rfl | exact Or.inr rfl) (pe_lst (pa_cons (pe_tup (pa_cons pe_str (pa_cons pe_non pa_nil))) pa_nil)))) pss_nil)
    (pss_cons (ps_if (PW.pt (pw_and (pt_cmpR (op_eqR hr.units) (pv 5) (pe_lst pa_nil) (nomark _)) (pw_and1 (pt_not (pt_val (pe_fd (F_is_widths (P := P) (w := w) (base := base) T) hg (hr.mono (by decide)) pass0 (pa_cons (pv 4) pa_nil))))))) (pss_one (ps_set (i := 5) sc_fault_of_code.nd rfl (by first | exact Or.inl rfl | exact Or.inr rfl) (pe_lst (pa_cons (pe_tup (pa_cons pe_str (pa_cons pe_non pa_nil))) pa_nil)))) pss_nil)
    (pss_one (ps_ret (pv 5))))))))), ?_⟩
  rw [show L2.start ["value", "start", "characters", "between", "stop", "found", "name"] [v0] = [some v0, none, none, none, none, none, none] from rfl]
  dsimp only [xK]
  refine q_guardF (TrB.to (b_or (b_not (b_B (d_isi (d_var rfl r0)))) fun _ => b_T (d_op (d_cb (a_cons (d_var rfl r0) a_nil) rc_lenT) d_int rd_neI)) rfl) hA fun G1 H1 e1 A1 => ?_
  refine q_unpack (d_var rfl (r0.up e1)) rfl A1 ?_
  rintro _ G2 H2 e2 A2 ⟨v1, _, rfl, r1, v2, _, rfl, r2, v3, _, rfl, r3, v4, _, rfl, r4, rfl⟩
  refine ⟨v1, _, rfl, v2, _, rfl, v3, _, rfl, v4, _, rfl, rfl, ?_⟩
  refine q_set (TrD.to (d_lcL (p := fun _ => true) (f := fun x => .tuple [.str "characters", x]) (d_call0 (a_cons (d_var rfl r2) a_nil) ⟨c.cs, rfl, ok.cs, rfl⟩) (by decide) (fun _ h => by cases h) fun _ h => by cases h) (d2 := .list []) rfl) A2 fun v5 G3 H3 e3 A3 r5 => ?_
  refine q_guardF (TrB.to (b_not (b_B (d_call0 (a_cons (d_var rfl (r1.up e3)) a_nil) ⟨_, rfl, rfl⟩))) (by rw [show areWD (.tuple (dInts c.st)) 1 6 = true from areWD_ok ok.st]; rfl)) A3 fun G4 H4 e4 A4 => ?_
  refine q_guardF (TrB.to (b_and (b_T (d_op (d_var rfl (r5.up e4)) (d_lst a_nil) (rd_eqR rfl rfl))) fun _ => b_not (b_B (d_call0 (a_cons (d_var rfl (r3.up (e3.trans e4))) (a_cons d_int (a_cons d_int a_nil))) ⟨_, 0, 2, rfl, by decide, rfl⟩))) (by rw [show areWD (.tuple (dInts c.bt)) 0 2 = true from areWD_ok ok.bt]; rfl)) A4 fun G5 H5 e5 A5 => ?_
  refine q_guardF (TrB.to (b_and (b_T (d_op (d_var rfl (r5.up (e4.trans e5))) (d_lst a_nil) (rd_eqR rfl rfl))) fun _ => b_not (b_B (d_call0 (a_cons (d_var rfl (r4.up ((e3.trans e4).trans e5))) a_nil) ⟨_, rfl, rfl⟩))) (by rw [show areWD (.tuple (dInts c.sp)) 1 6 = true from areWD_ok ok.sp]; rfl)) A5 fun G6 H6 e6 A6 => ?_
  exact s_ret (d_var rfl (r5.up ((e4.trans e5).trans e6))) A6 (q.mono (((((e1.trans e2).trans e3).trans e4).trans e5).trans e6))
def R_rc : List PyData → PyData → Prop := fun ds r => ∃ c : CodeD, ds = [c.d] ∧ c.ok ∧ r = .none
theorem F_require_code (T : Tx K mg) : Fd P w K mg base CX0 6 "require_code" (PSp K R_rc) [] := by
  obtain ⟨fd, F⟩ := T.f_require_code
  refine ⟨_, fd, ["value"], [], T.g_require_code, F.kp, F.bindsN fun _ _ _ _ _ _ us hl => match us, hl with | [_], _ => rfl, .nil, ?_⟩
  refine fnG_of F sc_require_code (fun vs H Q E h => PSp.len (n := 1) (by rintro _ _ ⟨d, rfl, _⟩; rfl) h) (fun cdv A outer s H vs Q E hg hr h => ?_)
  obtain ⟨G, M, ds, r, hA, hR, ⟨c, rfl, ok, rfl⟩, q⟩ := h
  obtain ⟨v0, _, rfl, r0, rfl⟩ := hR
  refine ⟨_, PSs.nox (pss_cons (ps_set (i := 1) sc_require_code.nd rfl (by first | exact Or.inl rfl | exact Or.inr rfl) (pe_fd (F_fault_of_code (P := P) (w := w) (base := base) T) hg (hr.mono (by decide)) pass0 (pa_cons (pv 0) pa_nil)))
    (pss_one (ps_if (pt_cmpR (op_neR hr.units) (pv 1) (pe_lst pa_nil) (nomark _)) (pss_cons (ps_asg (pe_ix ix_list (pv 1) pe_int (fun _ _ => rfl)) (pg_tup (by rfl) (pgs_cons (pg_name (i := 2) sc_require_code.nd rfl (by first | exact Or.inl rfl | exact Or.inr rfl)) (pgs_cons (pg_name (i := 3) sc_require_code.nd rfl (by first | exact Or.inl rfl | exact Or.inr rfl)) pgs_nil)))) (pss_one ps_never)) pss_nil))), ?_⟩
  rw [show L2.start ["value", "faults", "part", "name"] [v0] = [some v0, none, none, none] from rfl]
  dsimp only [xK]
  refine q_set (d_call0 (a_cons (d_var rfl r0) a_nil) ⟨c, rfl, ok, rfl⟩) hA fun v1 G1 H1 e1 A1 r1 => ?_
  refine s_ifF (TrB.to (b_T (d_op (d_var rfl r1) (d_lst a_nil) (rd_neR rfl rfl))) rfl) A1 fun G2 H2 e2 A2 => ?_
  exact (q.mono (e1.trans e2)).here A2 rfl
end
end K80

namespace K80
open PySem PySem.Spec PyProof.Rows L2 Sb
local macro_rules | `(tactic| walk_at "ex") => `(tactic| first | exact Ex.refl _ | assumption | (refine' Ex.trans ?_ (by assumption); walk_at "ex"))
local macro_rules | `(tactic| walk_at "rp") => `(tactic| first | assumption | (refine' Rp.up ?e (by assumption); (case e => walk_at "ex")) | exact rfl)
local macro_rules | `(tactic| walk_at "rd") => `(tactic| with_reducible first | exact rd_add | exact rd_sub | exact rd_lt | exact rd_le | exact rd_gt | exact rd_ge | exact rd_eqI | exact rd_neI | exact rd_eqS | exact rd_neS | exact rd_isN | exact rd_ltS | exact rd_inSign | exact rd_eqE)
local macro_rules | `(tactic| walk_at "tr") => `(tactic| first
  | with_reducible exact d_int
  | with_reducible exact d_str
  | with_reducible exact d_bl
  | with_reducible exact d_non
  | with_reducible exact a_nil
  | with_reducible exact b_yes
  | with_reducible exact o_none
  | with_reducible exact d_newD
  | ((with_reducible refine' d_var ?i ?r); (case i => rfl); (case r => walk_at "rp"))
  | ((with_reducible refine' a_cons ?a ?b); (case a => walk_at "tr"); (case b => walk_at "tr"))
  | ((with_reducible refine' a_star ?a ?b); (case a => walk_at "tr"); (case b => walk_at "tr"))
  | ((with_reducible refine' d_isi ?a ?b); (case a => walk_at "tr"); (case b => decide))
  | ((with_reducible refine' d_op ?a ?b ?c); (case a => walk_at "tr"); (case b => walk_at "tr"); (case c => walk_at "rd"))
  | ((with_reducible refine' d_tup ?a ?b); (case a => walk_at "tr"); (case b => first | decide | (simp; done)))
  | ((with_reducible refine' d_lst ?a ?b); (case a => walk_at "tr"); (case b => first | decide | (simp; done)))
  | ((with_reducible refine' o_some ?a); (case a => walk_at "tr"))
  | ((with_reducible refine' b_B ?a); (case a => walk_at "tr"))
  | ((with_reducible refine' b_T ?a); (case a => walk_at "tr"))
  | ((with_reducible refine' b_not ?a); (case a => walk_at "tr"))
  | ((with_reducible refine' v_not ?a); (case a => walk_at "tr"))
  | ((with_reducible refine' b_or ?a ?b); (case a => walk_at "tr"); (case b => intro _; walk_at "tr"))
  | ((with_reducible refine' b_and ?a ?b); (case a => walk_at "tr"); (case b => intro _; walk_at "tr"))
  | ((with_reducible refine' v_or ?a ?b); (case a => walk_at "tr"); (case b => intro _; walk_at "tr"))
  | ((with_reducible refine' v_and ?a ?b); (case a => walk_at "tr"); (case b => intro _; walk_at "tr"))
  | assumption)


/-! ### lines -/
def strI (n : Int) : Str := Str.ofString (toString n)
def lineT (w : Str) (ws : List Int) : Str := Txt.join " " (w :: ws.map strI)
theorem four {n : Int} (h : 1 ≤ n ∧ n ≤ 4) : n = 1 ∨ n = 2 ∨ n = 3 ∨ n = 4 := by omega
theorem strI_len {n : Int} (h : 1 ≤ n ∧ n ≤ 4) : (strI n).length = 1 := by rcases four h with rfl | rfl | rfl | rfl <;> decide
theorem log_ok {n : Int} (h : 1 ≤ n ∧ n ≤ 4) : n.natAbs.log2 < 1920 := by rcases four h with rfl | rfl | rfl | rfl <;> decide
theorem int_back {n : Int} (h : 1 ≤ n ∧ n ≤ 4) : PySem.intText? (strI n) = some n := by rcases four h with rfl | rfl | rfl | rfl <;> decide +kernel
theorem sum_len {ss : List Str} {c : Nat} (h : ∀ s ∈ ss, s.length ≤ c) : (ss.map (·.length)).sum ≤ ss.length * c := by
  induction ss with
  | nil => simp
  | cons s ss ih =>
    rw [List.map_cons, List.sum_cons, List.length_cons, Nat.add_mul, Nat.one_mul]
    have h1 := h s (List.mem_cons_self ..)
    have h2 := ih fun x hx => h x (List.mem_cons_of_mem _ hx)
    omega
theorem lineT_sum {w : Str} {ws : List Int} {hi : Nat} (hw : w.length ≤ 100) (h : okW 0 hi ws) : ((w :: ws.map strI).map (·.length)).sum + (w :: ws.map strI).length * (" " : Str).length ≤ 101 + 2 * hi := by
  have h1 : ((ws.map strI).map (·.length)).sum ≤ (ws.map strI).length * 1 := sum_len fun s hs => by
    obtain ⟨n, hn, rfl⟩ := List.mem_map.mp hs
    rw [strI_len (h.2.2 n hn)]
    exact Nat.le_refl _
  have h2 : (" " : Str).length = 1 := rfl
  rw [List.map_cons, List.sum_cons, List.length_cons, h2, List.length_map] at *
  have := h.2.1
  omega
theorem lineT_len {w : Str} {ws : List Int} {hi : Nat} (hw : w.length ≤ 100) (h : okW 0 hi ws) : (lineT w ws).length ≤ 101 + 2 * hi := by
  unfold lineT
  rw [TL.join_eq]
  exact Nat.le_trans (StrLaws.join_length_le _ _) (lineT_sum hw h)
def strD (d : PyData) : PyData := match d with
  | .int n => .str (strI n)
  | _ => .none
theorem mem_ints {ns : List Int} {d : PyData} (h : d ∈ dInts ns) : ∃ n ∈ ns, d = .int n := by
  obtain ⟨n, hn, e⟩ := List.mem_map.mp h
  exact ⟨n, hn, e.symm⟩
theorem mem_strs {ns : List Str} {d : PyData} (h : d ∈ dStrs ns) : ∃ n ∈ ns, d = .str n := by
  obtain ⟨n, hn, e⟩ := List.mem_map.mp h
  exact ⟨n, hn, e.symm⟩
section
variable {P : Program} {w : World} {K : PySem.W.Frag} {mg : Str → Option Value} {base : Heap}
def R_line_of : List PyData → PyData → Prop := fun ds r => ∃ w ws, ds = [.str w, .tuple (dInts ws)] ∧ w.length ≤ 100 ∧ okW 0 6 ws ∧ r = .str (lineT w ws)
theorem F_line_of (T : Tx K mg) : Fd P w K mg base CX0 1 "line_of" (PSp K R_line_of) [] := by
  obtain ⟨fd, F⟩ := T.f_line_of
  refine ⟨_, fd, ["word", "widths"], [], T.g_line_of, F.kp, F.bindsN fun _ _ _ _ _ _ us hl => match us, hl with | [_, _], _ => rfl, .nil, ?_⟩
  refine fnG_of F sc_line_of (fun vs H Q E h => PSp.len (n := 2) (by rintro _ _ ⟨d, e, rfl, _⟩; rfl) h) (fun cdv A outer s H vs Q E hg hr h => ?_)
  obtain ⟨G, M, ds, r, hA, hR, ⟨x, ws, rfl, hw, ok, rfl⟩, q⟩ := h
  obtain ⟨v0, _, rfl, r0, v1, _, rfl, r1, rfl⟩ := hR
  refine ⟨_, PSs.nox (pss_one (ps_ret (pe_join pe_str (pe_lst (pa_cons (pv 0) (StX.pa_star (pe_lc (own := [("width", 2)]) (g := gName 2) (by rfl) sc_line_of.nd (pi_tup (pv 1)) (blkOk_by (own := [("width", 2)]) (N := ["word", "widths", "width"]) (sc := defScope s_line_of) (by decide +kernel)) (fun _ _ _ _ _ => (pg_name (i := 2) sc_line_of.nd rfl (by first | exact Or.inl rfl | exact Or.inr rfl))) (fun _ _ _ _ _ => pts_nil) (fun _ _ _ _ _ => (pe_callTy call_strI (by rfl) T.n_str (by decide +kernel) (pa_cons (pv 2) pa_nil)))) pa_nil)))))), ?_⟩
  rw [show L2.start ["word", "widths", "width"] [v0, v1] = [some v0, some v1, none] from rfl]
  dsimp only [xK]
  have hn := ok.2.1
  refine s_ret (d_join d_str (TrD.to (d_lst (a_cons (d_var rfl r0) (a_star (d_lcT (p := fun _ => true) (f := strD) (d_var rfl r1) (by rw [dInts_len]; omega) (fun _ _ _ _ _ _ => b_yes) fun d hd _ x G1 e1 rx => ?_) a_nil)) ?_) ?_) ?_) hA q
  · obtain ⟨n, hn, rfl⟩ := mem_ints hd
    exact d_cb (a_cons (d_var rfl rx) a_nil) (rc_strI (log_ok (ok.2.2 n hn)))
  · rw [filt_true, List.length_cons, List.length_append, List.length_map, dInts_len]
    show ws.length + 0 + 1 ≤ _
    omega
  · rw [filt_true, List.append_nil]
    show PyData.list _ = PyData.list (.str x :: dStrs (ws.map strI))
    unfold dInts dStrs
    rw [List.map_map, List.map_map]
    rfl
  · exact Nat.le_trans (lineT_sum hw ok) (by decide)

def wsOf (cs : List (Str × List Int)) (x : Str) : List Int := ((cs.find? fun p => decide (p.1 = x)).map (·.2)).getD []
theorem wsOf_mem : ∀ {cs : List (Str × List Int)} {p : Str × List Int}, (cs.map (·.1)).Nodup → p ∈ cs → wsOf cs p.1 = p.2
  | [], _, _, h => by cases h
  | (k', d') :: r, p, nd, h => by
    unfold wsOf
    rw [List.find?_cons]
    have nd' := List.nodup_cons.mp nd
    rcases List.mem_cons.mp h with e | h
    · cases e
      simp
    · have hne : k' ≠ p.1 := fun e => nd'.1 (by rw [e]; exact List.mem_map.mpr ⟨_, h, rfl⟩)
      simp only [decide_eq_false hne]
      exact wsOf_mem nd'.2 h
theorem wsOf_of {c : CodeD} (ok : c.ok) {x : Str} (hx : x ∈ c.cs.map (·.1)) : isNameS x = true ∧ okW 1 6 (wsOf c.cs x) ∧ lookD (chD c.cs) x = some (.tuple (dInts (wsOf c.cs x))) := by
  obtain ⟨p, hp, rfl⟩ := List.mem_map.mp hx
  rw [wsOf_mem ok.cs.nd hp]
  exact ⟨(ok.cs.nm p hp).1, (ok.cs.nm p hp).2, chD_look ok.cs.nd hp⟩
def nmsT (c : CodeD) : List Str := srt (c.cs.map (·.1))
def linesT (c : CodeD) : List Str := lineT "start" c.st :: ((nmsT c).map (fun x => lineT x (wsOf c.cs x)) ++ ((if c.bt = [] then [] else [lineT "between" c.bt]) ++ [lineT "stop" c.sp]))
def codeT (c : CodeD) : Str := Txt.join "\n" (linesT c)
theorem nmsT_mem {c : CodeD} {x : Str} (h : x ∈ nmsT c) : x ∈ c.cs.map (·.1) := (srt_perm _).mem_iff.mp h
theorem nmsT_len (c : CodeD) : (nmsT c).length = c.cs.length := by unfold nmsT; rw [(srt_perm _).length_eq, List.length_map]
theorem okW.le {lo lo' hi hi' : Nat} {ws : List Int} (h : okW lo hi ws) (h1 : lo' ≤ lo) (h2 : hi ≤ hi') : okW lo' hi' ws := ⟨Nat.le_trans h1 h.1, Nat.le_trans h.2.1 h2, h.2.2⟩
theorem linesT_each {c : CodeD} (ok : c.ok) : ∀ l ∈ linesT c, l.length ≤ 113 := by
  intro l hl
  rcases List.mem_cons.mp hl with rfl | hl
  · exact lineT_len (by decide) (ok.st.le (by decide) (Nat.le_refl 6))
  · rcases List.mem_append.mp hl with hl | hl
    · obtain ⟨x, hx, rfl⟩ := List.mem_map.mp hl
      have z := wsOf_of ok (nmsT_mem hx)
      exact lineT_len (by rw [name_len z.1]; decide) (z.2.1.le (by decide) (Nat.le_refl 6))
    · rcases List.mem_append.mp hl with hl | hl
      · split at hl
        · cases hl
        · rw [List.mem_singleton.mp hl]
          exact lineT_len (by decide) (ok.bt.le (by decide) (by decide : 2 ≤ 6))
      · rw [List.mem_singleton.mp hl]
        exact lineT_len (by decide) (ok.sp.le (by decide) (Nat.le_refl 6))
theorem linesT_len {c : CodeD} (ok : c.ok) : (linesT c).length ≤ 13 := by
  have h1 := ok.cs.l2
  have h2 := nmsT_len c
  unfold linesT
  rw [List.length_cons, List.length_append, List.length_append, List.length_map, List.length_singleton]
  split <;> simp only [List.length_nil, List.length_singleton] <;> omega
theorem codeT_sum {c : CodeD} (ok : c.ok) : ((linesT c).map (·.length)).sum + (linesT c).length * ("\n" : Str).length ≤ 3000 := by
  have h1 := sum_len (linesT_each ok)
  have h2 := linesT_len ok
  have h3 : ("\n" : Str).length = 1 := rfl
  rw [h3]
  have h4 : (linesT c).length * 113 ≤ 13 * 113 := Nat.mul_le_mul_right _ h2
  omega
theorem codeT_len {c : CodeD} (ok : c.ok) : (codeT c).length ≤ 3000 := by
  unfold codeT
  rw [TL.join_eq]
  exact Nat.le_trans (StrLaws.join_length_le _ _) (codeT_sum ok)
def lineD (c : CodeD) (d : PyData) : PyData := match d with
  | .str x => .str (lineT x (wsOf c.cs x))
  | _ => .none
def R_format_code : List PyData → PyData → Prop := fun ds r => ∃ c : CodeD, ds = [c.d] ∧ c.ok ∧ r = .str (codeT c)
theorem F_format_code (T : Tx K mg) : Fd P w K mg base CX0 7 "format_code" (PSp K R_format_code) [] := by
  obtain ⟨fd, F⟩ := T.f_format_code
  refine ⟨_, fd, ["code"], [], T.g_format_code, F.kp, F.bindsN fun _ _ _ _ _ _ us hl => match us, hl with | [_], _ => rfl, .nil, ?_⟩
  refine fnG_of F sc_format_code (fun vs H Q E h => PSp.len (n := 1) (by rintro _ _ ⟨d, rfl, _⟩; rfl) h) (fun cdv A outer s H vs Q E hg hr h => ?_)
  obtain ⟨G, M, ds, r, hA, hR, ⟨c, rfl, ok, rfl⟩, q⟩ := h
  obtain ⟨v0, _, rfl, r0, rfl⟩ := hR
  refine ⟨_, PSs.nox (pss_cons (ps_expr (pe_fd (F_require_code (P := P) (w := w) (base := base) T) hg (hr.mono (by decide)) pass0 (pa_cons (pv 0) pa_nil)))
    (pss_cons (ps_asg (pv 0) (pg_tup (by rfl) (pgs_cons (pg_name (i := 1) sc_format_code.nd rfl (by first | exact Or.inl rfl | exact Or.inr rfl)) (pgs_cons (pg_name (i := 2) sc_format_code.nd rfl (by first | exact Or.inl rfl | exact Or.inr rfl)) (pgs_cons (pg_name (i := 3) sc_format_code.nd rfl (by first | exact Or.inl rfl | exact Or.inr rfl)) (pgs_cons (pg_name (i := 4) sc_format_code.nd rfl (by first | exact Or.inl rfl | exact Or.inr rfl)) pgs_nil))))))
    (pss_cons (ps_set (i := 5) sc_format_code.nd rfl (by first | exact Or.inl rfl | exact Or.inr rfl) (pe_lst (pa_cons (pe_fd (F_line_of (P := P) (w := w) (base := base) T) hg (hr.mono (by decide)) pass0 (pa_cons pe_str (pa_cons (pv 1) pa_nil))) (StX.pa_star (pe_lc (own := [("name", 6)]) (g := gName 6) (by rfl) sc_format_code.nd (pi_list (pe_callB (call_sortedD' rfl) (by rfl) T.n_sorted (by decide +kernel) (pa_cons (pv 2) pa_nil))) (blkOk_by (own := [("name", 6)]) (N := ["code", "start", "characters", "between", "stop", "lines", "name"]) (sc := defScope s_format_code) (by decide +kernel)) (fun _ _ _ _ _ => (pg_name (i := 6) sc_format_code.nd rfl (by first | exact Or.inl rfl | exact Or.inr rfl))) (fun _ _ _ _ _ => pts_nil) (fun _ _ _ _ _ => (pe_fd (F_line_of (P := P) (w := w) (base := base) T) hg (hr.mono (by decide)) pass0 (pa_cons (pv 6) (pa_cons (pe_dget (hu_of hr) (pv 2) (pv 6) (fun _ _ => rfl)) pa_nil))))) pa_nil))))
    (pss_cons (ps_if (pt_cmpR (op_neR hr.units) (pv 3) (pe_tup pa_nil) (nomark _)) (pss_one (ps_expr (pe_bm PySem.F.plainAttrs_list PySem.F.slot_list_append PySem.F.type_list_append mt_append (pv 5) (pa_cons (pe_fd (F_line_of (P := P) (w := w) (base := base) T) hg (hr.mono (by decide)) pass0 (pa_cons pe_str (pa_cons (pv 3) pa_nil))) pa_nil)))) pss_nil)
    (pss_one (ps_ret (pe_join pe_str (pe_lst (StX.pa_star (pv 5) (pa_cons (pe_fd (F_line_of (P := P) (w := w) (base := base) T) hg (hr.mono (by decide)) pass0 (pa_cons pe_str (pa_cons (pv 4) pa_nil))) pa_nil)))))))))), ?_⟩
  rw [show L2.start ["code", "start", "characters", "between", "stop", "lines", "name"] [v0] = [some v0, none, none, none, none, none, none] from rfl]
  dsimp only [xK]
  have hcl := ok.cs.l2
  have hck : (chD c.cs).length = c.cs.length := by simp [chD]
  refine q_drop (d_call0 (a_cons (d_var rfl r0) a_nil) ⟨c, rfl, ok, rfl⟩) hA fun G1 H1 e1 A1 => ?_
  refine q_unpack (d_var rfl (r0.up e1)) rfl A1 ?_
  rintro _ G2 H2 e2 A2 ⟨v1, _, rfl, r1, v2, _, rfl, r2, v3, _, rfl, r3, v4, _, rfl, r4, rfl⟩
  refine ⟨v1, _, rfl, v2, _, rfl, v3, _, rfl, v4, _, rfl, rfl, ?_⟩
  refine q_newL (K := K) (ds := dStrs (lineT "start" c.st :: (nmsT c).map (fun x => lineT x (wsOf c.cs x)))) ?_ ?_ A2 fun p xs G3 H3 e3 pM pG A3 rx => ?_
  · have hl : TrA K (tCons (tCall (PSp K R_line_of) [] E0 (tCons (tC (.str "start")) (tCons (tVar 1) tNil))) (StX.tStar K (tLc (iList K (tCB rSortD (tCons (tVar 2) tNil))) (gName 6) tYes (tCall (PSp K R_line_of) [] E0 (tCons (tVar 6) (tCons (tDGet (tVar 2) (tVar 6)) tNil))) [6]) tNil))
        [some v0, some v1, some v2, some v3, some v4, none, none] G2 (.str (lineT "start" c.st) :: (((dStrs (srt ((chD c.cs).map (·.1)))).filter (fun _ => true)).map (lineD c) ++ [])) := by
      refine a_cons (d_call0 (a_cons d_str (a_cons (d_var rfl r1) a_nil)) ⟨"start", c.st, rfl, by decide, ok.st.le (by decide) (Nat.le_refl 6), rfl⟩) (a_star (d_lcL (d_cb (a_cons (d_var rfl r2) a_nil) (rc_sortD (by omega))) ?_ (fun _ _ _ _ _ _ => b_yes) fun d hd _ x G4 e4 rx => ?_) a_nil)
      · unfold dStrs
        rw [List.length_map, (srt_perm _).length_eq, List.length_map]
        omega
      · obtain ⟨nm, hnm, rfl⟩ := mem_strs hd
        have hm := (srt_perm _).mem_iff.mp hnm
        rw [chD_keys] at hm
        have z := wsOf_of ok hm
        exact d_call0 (a_cons (d_var rfl rx) (a_cons (d_dget (d_var rfl (r2.up e4)) (d_var rfl rx) z.2.2) a_nil)) ⟨nm, wsOf c.cs nm, rfl, by rw [name_len z.1]; decide, z.2.1.le (by decide) (Nat.le_refl 6), rfl⟩
    have e : (.str (lineT "start" c.st) :: (((dStrs (srt ((chD c.cs).map (·.1)))).filter (fun _ => true)).map (lineD c) ++ []) : List PyData) = dStrs (lineT "start" c.st :: (nmsT c).map (fun x => lineT x (wsOf c.cs x))) := by
      rw [filt_true, List.append_nil, chD_keys]
      unfold dStrs nmsT
      rw [List.map_cons, List.map_map, List.map_map]
      rfl
    rw [← e]
    exact hl
  · unfold dStrs
    rw [List.length_map, List.length_cons, List.length_map, nmsT_len]
    omega
  -- the last line, and all joined
  have rest : ∀ (G4 H4 : Hp) (xs : List V) (ls : List Str), Ex G3 G4 → At G4 (upd M p (.lst xs)) H4 → RpL K G4 (dStrs ls) xs → ls ++ [lineT "stop" c.sp] = linesT c →
      tRet (tM1 (fun x xs H Q => ∃ a p, ∃ ys : List Str, x = .str a ∧ xs = [.ref p] ∧ (SqL K H p (ys.map V.str) ∨ SqT K H p (ys.map V.str)) ∧ (ys.map (·.length)).sum + ys.length * a.length ≤ 16777216 ∧ Q (.str (Txt.join a ys)) H) (tC (.str "\n"))
        (tLst (StX.tStar K (tVar 5) (tCons (tCall (PSp K R_line_of) [] E0 (tCons (tC (.str "stop")) (tCons (tVar 4) tNil))) tNil)))) { nx := fun _ H' => Q .non H', rt := Q } [some v0, some v1, some v2, some v3, some v4, some (.ref p), none] H4 := by
    intro G4 H4 xs ls e4 A4 rx hls
    obtain ⟨G5, e5, A5, r5⟩ := A4.done pM rx
    refine s_ret (d_join d_str (TrD.to (d_lst (a_star (d_var rfl r5) (a_cons (d_call0 (a_cons d_str (a_cons (d_var rfl (r4.up ((e3.trans e4).trans e5))) a_nil)) ⟨"stop", c.sp, rfl, by decide, ok.sp.le (by decide) (Nat.le_refl 6), rfl⟩) a_nil)) ?_) (d2 := .list (dStrs (linesT c))) ?_) (Nat.le_trans (codeT_sum ok) (by decide))) A5 (q.mono ((((e1.trans e2).trans e3).trans e4).trans e5))
    · have z := linesT_len ok
      rw [← hls, List.length_append, List.length_singleton] at z
      rw [List.length_append, List.length_singleton]
      unfold dStrs
      rw [List.length_map]
      omega
    · rw [← hls]
      unfold dStrs
      rw [List.map_append]
      rfl
  have hbt : TrB (tTest (tOp (rNeR K) (tVar 3) (tTup tNil))) [some v0, some v1, some v2, some v3, some v4, some (.ref p), none] G3 (!(dInts c.bt).isEmpty) :=
    TrB.to (b_T (d_op (d_var rfl (r3.up e3)) (d_tup a_nil) (rd_neR (shaped_ints _) rfl))) (by rw [eqv_nilT])
  refine s_seq (s_if hbt A3 (fun hb G4 H4 e4 A4 => ?_) (fun hb G4 H4 e4 A4 => ?_))
  · have hb' : c.bt ≠ [] := fun z => by rw [z] at hb; cases hb
    refine s_append rfl upd_same (d_call0 (a_cons d_str (a_cons (d_var rfl (r3.up (e3.trans e4))) a_nil)) ⟨"between", c.bt, rfl, by decide, ok.bt.le (by decide) (by decide : 2 ≤ 6), rfl⟩) ?_ A4 fun v G5 H5 e5 A5 r5 => ?_
    · have z := rx.len
      unfold dStrs at z
      rw [z, List.length_map, List.length_cons, List.length_map, nmsT_len]
      omega
    · rw [upd_upd] at A5
      refine rest G5 H5 _ ((lineT "start" c.st :: (nmsT c).map (fun x => lineT x (wsOf c.cs x))) ++ [lineT "between" c.bt]) (e4.trans e5) A5 ?_ ?_
      · unfold dStrs at rx ⊢
        rw [List.map_append]
        exact (rx.up (e4.trans e5)).snoc r5
      · unfold linesT
        rw [if_neg hb', List.append_assoc, List.cons_append]
  · have hb' : c.bt = [] := by
      cases z : c.bt with
      | nil => rfl
      | cons n ns => rw [z] at hb; cases hb
    refine rest G4 H4 xs _ e4 A4 (rx.up e4) ?_
    unfold linesT
    rw [if_pos hb', List.nil_append, List.cons_append]
end
end K80

namespace K80
open PySem PySem.Spec PyProof.Rows L2 Sb
local macro_rules | `(tactic| walk_at "ex") => `(tactic| first | exact Ex.refl _ | assumption | (refine' Ex.trans ?_ (by assumption); walk_at "ex"))
local macro_rules | `(tactic| walk_at "rp") => `(tactic| first | assumption | (refine' Rp.up ?e (by assumption); (case e => walk_at "ex")) | exact rfl)
local macro_rules | `(tactic| walk_at "rd") => `(tactic| with_reducible first | exact rd_add | exact rd_sub | exact rd_lt | exact rd_le | exact rd_gt | exact rd_ge | exact rd_eqI | exact rd_neI | exact rd_eqS | exact rd_neS | exact rd_isN | exact rd_ltS | exact rd_inSign | exact rd_eqE)
local macro_rules | `(tactic| walk_at "tr") => `(tactic| first
  | with_reducible exact d_int
  | with_reducible exact d_str
  | with_reducible exact d_bl
  | with_reducible exact d_non
  | with_reducible exact a_nil
  | with_reducible exact b_yes
  | with_reducible exact o_none
  | with_reducible exact d_newD
  | ((with_reducible refine' d_var ?i ?r); (case i => rfl); (case r => walk_at "rp"))
  | ((with_reducible refine' a_cons ?a ?b); (case a => walk_at "tr"); (case b => walk_at "tr"))
  | ((with_reducible refine' a_star ?a ?b); (case a => walk_at "tr"); (case b => walk_at "tr"))
  | ((with_reducible refine' d_isi ?a ?b); (case a => walk_at "tr"); (case b => decide))
  | ((with_reducible refine' d_op ?a ?b ?c); (case a => walk_at "tr"); (case b => walk_at "tr"); (case c => walk_at "rd"))
  | ((with_reducible refine' d_tup ?a ?b); (case a => walk_at "tr"); (case b => first | decide | (simp; done)))
  | ((with_reducible refine' d_lst ?a ?b); (case a => walk_at "tr"); (case b => first | decide | (simp; done)))
  | ((with_reducible refine' o_some ?a); (case a => walk_at "tr"))
  | ((with_reducible refine' b_B ?a); (case a => walk_at "tr"))
  | ((with_reducible refine' b_T ?a); (case a => walk_at "tr"))
  | ((with_reducible refine' b_not ?a); (case a => walk_at "tr"))
  | ((with_reducible refine' v_not ?a); (case a => walk_at "tr"))
  | ((with_reducible refine' b_or ?a ?b); (case a => walk_at "tr"); (case b => intro _; walk_at "tr"))
  | ((with_reducible refine' b_and ?a ?b); (case a => walk_at "tr"); (case b => intro _; walk_at "tr"))
  | ((with_reducible refine' v_or ?a ?b); (case a => walk_at "tr"); (case b => intro _; walk_at "tr"))
  | ((with_reducible refine' v_and ?a ?b); (case a => walk_at "tr"); (case b => intro _; walk_at "tr"))
  | assumption)


theorem cut_one (ds : List PyData) : Sb.cutD ds (some 1) none = ds.drop 1 := by
  unfold Sb.cutD HT.sIx
  cases ds with
  | nil => rfl
  | cons d ds =>
    have h : (max 0 (min (1 : Int) ((d :: ds).length : Int))).toNat = 1 := by rw [List.length_cons]; omega
    have h2 : (max 0 (min (((d :: ds).length : Nat) : Int) ((d :: ds).length : Int))).toNat = (d :: ds).length := by omega
    simp
theorem in_four {n : Int} (h : 1 ≤ n ∧ n ≤ 4) : inD (.str (strI n)) [.str "1", .str "2", .str "3", .str "4"] = true := by rcases four h with rfl | rfl | rfl | rfl <;> decide +kernel
def intD (d : PyData) : PyData := match d with
  | .str x => .int ((PySem.intText? x).getD 0)
  | _ => .none
def mayS (x : Str) (ks : List Str) : Bool :=
  let names := ks.filter isNameS
  if ("stop" : Str) ∈ ks then false
  else if x = "start" ∨ ks = [] then decide (x = "start") && ks.isEmpty
  else if x = "stop" then !names.isEmpty
  else if x = "between" then !names.isEmpty && !decide (("between" : Str) ∈ ks)
  else if isNameS x = false ∨ ("between" : Str) ∈ ks ∨ names.length = 10 then false
  else names.all fun z => decide (z.cps.toList < x.cps.toList)
theorem look_some {kvs : List (Str × PyData)} {x : Str} : (lookD kvs x).isSome = decide (x ∈ kvs.map (·.1)) := by
  induction kvs with
  | nil => rfl
  | cons p r ih =>
    unfold lookD at ih ⊢
    rw [List.find?_cons, List.map_cons]
    by_cases h : p.1 = x
    · rw [decide_eq_true h]
      simp [h]
    · simp only [decide_eq_false h]
      rw [ih]
      have h' : ¬ x = p.1 := fun z => h z.symm
      simp [h']
theorem shaped_strs {ss : List Str} (h : ∀ x ∈ ss, x.cps.all (· < 1114112) = true) : SeqAt.shaped (.list (dStrs ss)) = true := by
  have h1 : PyData.canLayAll0 (dStrs ss) = true := by
    induction ss with
    | nil => rfl
    | cons n ns ih =>
      show PyData.canLayAll0 (.str n :: dStrs ns) = true
      have hn := h n (List.mem_cons_self ..)
      simp only [PyData.canLayAll0, PyData.canLay0, ih fun x hx => h x (List.mem_cons_of_mem _ hx), Bool.and_true]
      exact hn
  have h2 : ∀ ns : List Str, PyData.depthAll (dStrs ns) = 0 := fun ns => by
    induction ns with
    | nil => simp [dStrs, PyData.depthAll]
    | cons n ns ih =>
      show PyData.depthAll (.str n :: dStrs ns) = 0
      simp only [PyData.depthAll, PyData.depth, Nat.zero_max]
      exact ih
  unfold SeqAt.shaped
  simp [PyData.canLay0, PyData.depth, h1, h2]
theorem name_cps {x : Str} (h : isNameS x = true) : x.cps.all (· < 1114112) = true := by
  unfold isNameS at h
  split at h
  · rename_i c hc
    have hm := of_decide_eq_true h
    have hlt : c < 1114112 := by
      have hall : ∀ c ∈ NAMESs.cps.toList, c < 1114112 := by decide +kernel
      exact hall c hm
    rw [← Array.all_toList, hc]
    simp [hlt]
  · cases h
section
variable {P : Program} {w : World} {K : PySem.W.Frag} {mg : Str → Option Value} {base : Heap}
def R_may_stand : List PyData → PyData → Prop := fun ds r => ∃ x kvs, ds = [.str x, .dict (keysD kvs)] ∧ kvs.length < 64 ∧ x.length ≤ 100000 ∧ (∀ k ∈ kvs.map (·.1), k.length ≤ 100000) ∧ r = .bool (mayS x (kvs.map (·.1)))
theorem F_may_stand (T : Tx K mg) : Fd P w K mg base CX0 2 "may_stand" (PSp K R_may_stand) [] := by
  obtain ⟨fd, F⟩ := T.f_may_stand
  refine ⟨_, fd, ["word", "found"], [], T.g_may_stand, F.kp, F.bindsN fun _ _ _ _ _ _ us hl => match us, hl with | [_, _], _ => rfl, .nil, ?_⟩
  refine fnG_of F sc_may_stand (fun vs H Q E h => PSp.len (n := 2) (by rintro _ _ ⟨d, e, rfl, _⟩; rfl) h) (fun cdv A outer s H vs Q E hg hr h => ?_)
  obtain ⟨G, M, ds, r, hA, hR, ⟨x, kvs, rfl, hn, hx, hks, rfl⟩, q⟩ := h
  obtain ⟨v0, _, rfl, r0, v1, _, rfl, r1, rfl⟩ := hR
  refine ⟨_, PSs.nox (pss_cons (ps_lock (ps_setLc (i := 2) (own := [("one", 3)]) (g := gName 3) (by rfl) sc_may_stand.nd rfl rfl (sw_true rfl rfl rfl (by decide +kernel)) (pi_keys (pv 1)) (blkOk_by (own := [("one", 3)]) (N := ["word", "found", "names", "one"]) (sc := defScope s_may_stand) (by decide +kernel)) (fun _ _ _ _ _ => (pg_name (i := 3) sc_may_stand.nd rfl (by first | exact Or.inl rfl | exact Or.inr rfl))) (fun _ _ _ _ _ => (pts_one (pt_val (pe_fd (F_is_name (P := P) (w := w) (base := base) T) hg (hr.mono (by decide)) pass0 (pa_cons (pv 3) pa_nil))))) (fun _ _ _ _ _ => (pv 3))))
    (pss_cons (ps_if (pt_cmp (pc_din (hu_of hr) pe_str (pv 1)) (by rfl)) (pss_one (ps_ret pe_bl)) pss_nil)
    (pss_cons (ps_if (PW.pt (pw_or (pt_cmpR op_eq (pv 0) pe_str (nomark _)) (pw_or1 (pt_cmpR (op_eqE hr.units) (pv 1) pe_dnewK (nomark _))))) (pss_one (ps_ret (pe_and (pe_cmpR op_eq (pv 0) pe_str (nomark _)) (pe_one (pe_cmpR (op_eqE hr.units) (pv 1) pe_dnewK (nomark _)))))) pss_nil)
    (pss_cons (ps_if (pt_cmpR op_eq (pv 0) pe_str (nomark _)) (pss_one (ps_ret (pe_cmpR (op_neR hr.units) (pv 2) (pe_lst pa_nil) (nomark _)))) pss_nil)
    (pss_cons (ps_if (pt_cmpR op_eq (pv 0) pe_str (nomark _)) (pss_one (ps_ret (pe_and (pe_cmpR (op_neR hr.units) (pv 2) (pe_lst pa_nil) (nomark _)) (pe_one (pe_cmp (pc_dnotin (hu_of hr) pe_str (pv 1)) (by rfl)))))) pss_nil)
    (pss_cons (ps_if (PW.pt (pw_or (pt_not (pt_val (pe_fd (F_is_name (P := P) (w := w) (base := base) T) hg (hr.mono (by decide)) pass0 (pa_cons (pv 0) pa_nil)))) (pw_or (pt_cmp (pc_din (hu_of hr) pe_str (pv 1)) (by rfl)) (pw_or1 (pt_cmpR op_eq (pe_callB call_len' (by rfl) T.n_len (by decide +kernel) (pa_cons (pv 2) pa_nil)) (pe_glob (v := .int 10) (by rfl) T.c_MOST_CHARACTERS.choose_spec ⟨_, rfl⟩) (nomark _)))))) (pss_one (ps_ret pe_bl)) pss_nil)
    (pss_one (ps_ret (pe_callB (cr_all rfl) (by rfl) T.n_all (by decide +kernel) (pa_cons (pe_lc (own := [("one", 3)]) (g := gName 3) (by rfl) sc_may_stand.nd (pi_list (pv 2)) (blkOk_by (own := [("one", 3)]) (N := ["word", "found", "names", "one"]) (sc := defScope s_may_stand) (by decide +kernel)) (fun _ _ _ _ _ => (pg_name (i := 3) sc_may_stand.nd rfl (by first | exact Or.inl rfl | exact Or.inr rfl))) (fun _ _ _ _ _ => pts_nil) (fun _ _ _ _ _ => (pe_cmpR op_lt_str (pv 3) (pv 0) (nomark _)))) pa_nil)))))))))), ?_⟩
  rw [show L2.start ["word", "found", "names", "one"] [v0, v1] = [some v0, some v1, none, none] from rfl]
  dsimp only [xK]
  generalize hq : mayS x (kvs.map (·.1)) = res at q
  unfold mayS at hq
  simp only at hq
  generalize hnm : (kvs.map (·.1)).filter isNameS = nms at hq
  have hnl : nms.length ≤ 64 := by
    rw [← hnm]
    exact Nat.le_trans (List.length_filter_le _ _) (by rw [List.length_map]; omega)
  refine q_setK (d_lcK (p := isNameS) (f := PyData.str) (j := 1) rfl r1 (by omega) rfl (fun k hk G1 => b_B (TrD.to (d_call0 (a_cons (d_var rfl (d := .str k) rfl) a_nil) ⟨.str k, rfl, fun z hz => by cases hz; exact hks k hk, rfl⟩) rfl)) fun k hk G1 => d_var rfl rfl) hA fun v2 G1 H1 e1 A1 r2 => ?_
  rw [hnm] at r2
  have hb : ∀ (y : Str) {σ : L2.St}, σ[1]? = some (some v1) → ∀ {Gx : Hp}, Ex G Gx → TrB (tB (tDIn (tC (V.str y)) (tVar 1))) σ Gx (decide (y ∈ kvs.map (·.1))) := fun y σ hσ Gx ex => TrB.to (b_din d_str (d_var hσ (r1.up ex))) look_some
  have he : (kvs.map (·.1)).isEmpty = kvs.isEmpty := by cases kvs <;> rfl
  have hem : ∀ {Gx : Hp}, Ex G Gx → TrD K (tOp rEqE (tVar 1) tDNewK) [some v0, some v1, some v2, none] Gx (.bool (kvs.map (·.1)).isEmpty) := fun ex => TrD.to (d_op (d_var rfl (r1.up ex)) d_newD rd_eqE) (by rw [he])
  have hw : ∀ (y : Str) {Gx : Hp}, Ex G Gx → TrD K (tOp rEq (tVar 0) (tC (V.str y))) [some v0, some v1, some v2, none] Gx (.bool (decide (x = y))) := fun y Gx ex => d_op (d_var rfl (r0.up ex)) d_str rd_eqS
  have hsh : SeqAt.shaped (.list (dStrs nms)) = true := shaped_strs fun y hy => name_cps (by rw [← hnm] at hy; exact (List.mem_filter.mp hy).2)
  have hnn : ∀ {Gx : Hp}, Ex G1 Gx → TrD K (tOp (rNeR K) (tVar 2) (tLst tNil)) [some v0, some v1, some v2, none] Gx (.bool !nms.isEmpty) := fun ex => TrD.to (d_op (d_var rfl (r2.up ex)) (d_lst a_nil) (rd_neR hsh rfl)) (by rw [eqv_nil]; cases nms <;> rfl)
  by_cases h1 : ("stop" : Str) ∈ kvs.map (·.1)
  · rw [if_pos h1] at hq
    subst hq
    exact q_guardR (TrB.to (hb "stop" rfl e1) (decide_eq_true h1)) A1 fun G2 H2 e2 A2 => s_ret d_bl A2 (q.mono (e1.trans e2))
  rw [if_neg h1] at hq
  refine q_guardF (TrB.to (hb "stop" rfl e1) (decide_eq_false h1)) A1 fun G2 H2 e2 A2 => ?_
  have hor : TrB (tOr (tTest (tOp rEq (tVar 0) (tC (V.str (Str.ofString "start"))))) (tTest (tOp rEqE (tVar 1) tDNewK))) [some v0, some v1, some v2, none] G2 (decide (x = "start") || (kvs.map (·.1)).isEmpty) := b_or (b_T (hw "start" (e1.trans e2))) fun _ => b_T (hem (e1.trans e2))
  by_cases h2 : x = "start" ∨ kvs.map (·.1) = []
  · rw [if_pos h2] at hq
    subst hq
    refine q_guardR (TrB.to hor ?_) A2 fun G3 H3 e3 A3 => s_ret (v_and (hw "start" ((e1.trans e2).trans e3)) fun _ => hem ((e1.trans e2).trans e3)) A3 (q.mono ((e1.trans e2).trans e3))
    rcases h2 with h | h
    · rw [decide_eq_true h, Bool.true_or]
    · rw [h, List.isEmpty_nil, Bool.or_true]
  rw [if_neg h2] at hq
  refine q_guardF (TrB.to hor ?_) A2 fun G3 H3 e3 A3 => ?_
  · rw [decide_eq_false (fun z => h2 (.inl z)), Bool.false_or]
    cases hz : kvs.map (·.1) with
    | nil => exact absurd (.inr hz) h2
    | cons _ _ => rfl
  have E3 := (e1.trans e2).trans e3
  by_cases h3 : x = "stop"
  · rw [if_pos h3] at hq
    subst hq
    exact q_guardR (TrB.to (b_T (hw "stop" E3)) (decide_eq_true h3)) A3 fun G4 H4 e4 A4 => s_ret (hnn ((e2.trans e3).trans e4)) A4 (q.mono (E3.trans e4))
  rw [if_neg h3] at hq
  refine q_guardF (TrB.to (b_T (hw "stop" E3)) (decide_eq_false h3)) A3 fun G4 H4 e4 A4 => ?_
  have E4 := E3.trans e4
  by_cases h4 : x = "between"
  · rw [if_pos h4] at hq
    subst hq
    exact q_guardR (TrB.to (b_T (hw "between" E4)) (decide_eq_true h4)) A4 fun G5 H5 e5 A5 => s_ret (v_and (hnn (((e2.trans e3).trans e4).trans e5)) fun _ => TrD.to (v_dnin d_str (d_var rfl (r1.up (E4.trans e5)))) (by rw [look_some])) A5 (q.mono (E4.trans e5))
  rw [if_neg h4] at hq
  refine q_guardF (TrB.to (b_T (hw "between" E4)) (decide_eq_false h4)) A4 fun G5 H5 e5 A5 => ?_
  have E5 := E4.trans e5
  have E51 : Ex G1 G5 := ((e2.trans e3).trans e4).trans e5
  have hlast : TrB (tOr (tNot (tB (tCall (PSp K R_is_name) [] E0 (tCons (tVar 0) tNil)))) (tOr (tB (tDIn (tC (V.str (Str.ofString "between"))) (tVar 1))) (tTest (tOp rEq (tCB (Sb.rLen K) (tCons (tVar 2) tNil)) (tC (V.int 10))))))
      [some v0, some v1, some v2, none] G5 (!isNameS x || (decide (("between" : Str) ∈ kvs.map (·.1)) || decide ((nms.length : Int) = 10))) :=
    b_or (b_not (b_B (TrD.to (d_call0 (a_cons (d_var rfl (r0.up E5)) a_nil) ⟨.str x, rfl, fun z hz => by cases hz; exact hx, rfl⟩) rfl))) fun _ => b_or (hb "between" rfl E5) fun _ =>
      TrB.to (b_T (d_op (d_cb (a_cons (d_var rfl (r2.up E51)) a_nil) rc_lenL) d_int rd_eqI)) (by rw [List.length_map])
  by_cases h5 : isNameS x = false ∨ ("between" : Str) ∈ kvs.map (·.1) ∨ nms.length = 10
  · rw [if_pos h5] at hq
    subst hq
    refine q_guardR (TrB.to hlast ?_) A5 fun G6 H6 e6 A6 => s_ret d_bl A6 (q.mono (E5.trans e6))
    rcases h5 with h | h | h
    · rw [h]; rfl
    · rw [decide_eq_true h, Bool.true_or, Bool.or_true]
    · rw [decide_eq_true (show (nms.length : Int) = 10 by omega), Bool.or_true, Bool.or_true]
  rw [if_neg h5] at hq
  subst hq
  refine q_guardF (TrB.to hlast ?_) A5 fun G6 H6 e6 A6 => s_ret ?_ A6 (q.mono (E5.trans e6))
  · have z1 : isNameS x = true := by
      cases z : isNameS x with
      | true => rfl
      | false => exact absurd (.inl z) h5
    rw [z1, decide_eq_false (fun z => h5 (.inr (.inl z))), decide_eq_false (fun z => h5 (.inr (.inr (by omega))))]
    rfl
  refine TrD.to (d_cb (a_cons (TrD.to (d_lcL (p := fun _ => true) (f := fun d => match d with | .str z => .bool (decide (z.cps.toList < x.cps.toList)) | _ => .none) (d_var rfl (r2.up (E51.trans e6))) (by rw [List.length_map]; omega) (fun _ _ _ _ _ _ => b_yes) fun d hd _ y G7 e7 ry => ?_) (d2 := .list ((nms.map fun z => decide (z.cps.toList < x.cps.toList)).map .bool)) ?_) a_nil) rc_all) ?_
  · obtain ⟨z, hz, rfl⟩ := mem_strs hd
    exact d_op (d_var rfl ry) (d_var rfl (r0.up ((E5.trans e6).trans e7))) rd_ltS
  · rw [filt_true]
    rw [List.map_map, List.map_map]
    rfl
  · rw [List.all_map]
    rfl
end
end K80

namespace K80
open PySem PySem.Spec PyProof.Rows L2 Sb
local macro_rules | `(tactic| walk_at "ex") => `(tactic| first | exact Ex.refl _ | assumption | (refine' Ex.trans ?_ (by assumption); walk_at "ex"))
local macro_rules | `(tactic| walk_at "rp") => `(tactic| first | assumption | (refine' Rp.up ?e (by assumption); (case e => walk_at "ex")) | exact rfl)
local macro_rules | `(tactic| walk_at "rd") => `(tactic| with_reducible first | exact rd_add | exact rd_sub | exact rd_lt | exact rd_le | exact rd_gt | exact rd_ge | exact rd_eqI | exact rd_neI | exact rd_eqS | exact rd_neS | exact rd_isN | exact rd_ltS | exact rd_inSign | exact rd_eqE)
local macro_rules | `(tactic| walk_at "tr") => `(tactic| first
  | with_reducible exact d_int
  | with_reducible exact d_str
  | with_reducible exact d_bl
  | with_reducible exact d_non
  | with_reducible exact a_nil
  | with_reducible exact b_yes
  | with_reducible exact o_none
  | with_reducible exact d_newD
  | ((with_reducible refine' d_var ?i ?r); (case i => rfl); (case r => walk_at "rp"))
  | ((with_reducible refine' a_cons ?a ?b); (case a => walk_at "tr"); (case b => walk_at "tr"))
  | ((with_reducible refine' a_star ?a ?b); (case a => walk_at "tr"); (case b => walk_at "tr"))
  | ((with_reducible refine' d_isi ?a ?b); (case a => walk_at "tr"); (case b => decide))
  | ((with_reducible refine' d_op ?a ?b ?c); (case a => walk_at "tr"); (case b => walk_at "tr"); (case c => walk_at "rd"))
  | ((with_reducible refine' d_tup ?a ?b); (case a => walk_at "tr"); (case b => first | decide | (simp; done)))
  | ((with_reducible refine' d_lst ?a ?b); (case a => walk_at "tr"); (case b => first | decide | (simp; done)))
  | ((with_reducible refine' o_some ?a); (case a => walk_at "tr"))
  | ((with_reducible refine' b_B ?a); (case a => walk_at "tr"))
  | ((with_reducible refine' b_T ?a); (case a => walk_at "tr"))
  | ((with_reducible refine' b_not ?a); (case a => walk_at "tr"))
  | ((with_reducible refine' v_not ?a); (case a => walk_at "tr"))
  | ((with_reducible refine' b_or ?a ?b); (case a => walk_at "tr"); (case b => intro _; walk_at "tr"))
  | ((with_reducible refine' b_and ?a ?b); (case a => walk_at "tr"); (case b => intro _; walk_at "tr"))
  | ((with_reducible refine' v_or ?a ?b); (case a => walk_at "tr"); (case b => intro _; walk_at "tr"))
  | ((with_reducible refine' v_and ?a ?b); (case a => walk_at "tr"); (case b => intro _; walk_at "tr"))
  | assumption)


/-! ### what a code's text holds -/
def nmE (c : CodeD) : List (Str × List Int) := (nmsT c).map fun x => (x, wsOf c.cs x)
def btE (c : CodeD) : List (Str × List Int) := if c.bt = [] then [] else [("between", c.bt)]
def entsL (c : CodeD) : List (Str × List Int) := ("start", c.st) :: (nmE c ++ (btE c ++ [(("stop" : Str), c.sp)]))
def sortC (c : CodeD) : CodeD := ⟨c.st, nmE c, c.bt, c.sp⟩
theorem linesT_eq (c : CodeD) : linesT c = (entsL c).map fun p => lineT p.1 p.2 := by
  unfold linesT entsL nmE btE
  rw [List.map_cons, List.map_append, List.map_append, List.map_map, List.map_singleton]
  split <;> rfl
def freeS (x : Str) : Prop := ∀ c ∈ TL.tl x, c ≠ 10 ∧ c ≠ 32
instance (x : Str) : Decidable (freeS x) := by unfold freeS; infer_instance
theorem name_free {x : Str} (h : isNameS x = true) : freeS x := by
  unfold isNameS at h
  split at h
  · rename_i c hc
    have hm := of_decide_eq_true h
    have hall : ∀ c ∈ NAMESs.cps.toList, c ≠ 10 ∧ c ≠ 32 := by decide +kernel
    intro z hz
    have hz' : z ∈ x.cps.toList := hz
    rw [hc] at hz'
    rw [List.mem_singleton.mp hz']
    exact hall c hm
  · cases h
theorem strI_free {n : Int} (h : 1 ≤ n ∧ n ≤ 4) : freeS (strI n) := by rcases four h with rfl | rfl | rfl | rfl <;> decide +kernel
theorem mem_joinL {S : List Nat} {c : Nat} : ∀ {ps : List (List Nat)}, c ∈ TL.joinL S ps → c ∈ S ∨ ∃ p ∈ ps, c ∈ p
  | [], h => by cases h
  | [p], h => .inr ⟨p, List.mem_cons_self .., h⟩
  | p :: q :: r, h => by
    have h' : c ∈ p ++ (S ++ TL.joinL S (q :: r)) := h
    rcases List.mem_append.mp h' with h1 | h1
    · exact .inr ⟨p, List.mem_cons_self .., h1⟩
    rcases List.mem_append.mp h1 with h2 | h2
    · exact .inl h2
    rcases mem_joinL h2 with h3 | ⟨u, hu, h3⟩
    · exact .inl h3
    · exact .inr ⟨u, List.mem_cons_of_mem _ hu, h3⟩
def mostN (x : Str) : Nat := if x = "between" then 2 else 6
structure okE (p : Str × List Int) : Prop where
  fr : freeS p.1
  ln : p.1.length ≤ 100
  ok : okW 1 (mostN p.1) p.2
theorem parts_free {w : Str} {ws : List Int} {hi : Nat} (hw : freeS w) (h : okW 1 hi ws) : ∀ p ∈ w :: ws.map strI, freeS p := by
  intro p hp
  rcases List.mem_cons.mp hp with rfl | hp
  · exact hw
  · obtain ⟨n, hn, rfl⟩ := List.mem_map.mp hp
    exact strI_free (h.2.2 n hn)
theorem lineT_split {p : Str × List Int} (h : okE p) : Txt.split (lineT p.1 p.2) " " = p.1 :: p.2.map strI :=
  TL.split_join (s := 32) (S := []) (by decide) (by decide +kernel) (by simp) fun q hq hm => (parts_free h.fr h.ok q hq 32 hm).2 rfl
theorem lineT_no10 {p : Str × List Int} (h : okE p) : 10 ∉ TL.tl (lineT p.1 p.2) := by
  unfold lineT
  rw [TL.join_eq, TL.tl_join]
  intro hm
  rcases mem_joinL hm with h1 | ⟨q, hq, h1⟩
  · revert h1
    decide
  · obtain ⟨z, hz, rfl⟩ := List.mem_map.mp hq
    exact (parts_free h.fr h.ok z hz 10 h1).1 rfl
theorem name_not {x y : Str} (h : isNameS x = true) (hy : isNameS y = false) : x ≠ y := fun e => by rw [e, hy] at h; cases h
theorem nm_start : isNameS "start" = false := by decide +kernel
theorem nm_stop : isNameS "stop" = false := by decide +kernel
theorem nm_between : isNameS "between" = false := by decide +kernel
theorem fr_start : freeS "start" := by decide +kernel
theorem fr_between : freeS "between" := by decide +kernel
theorem fr_stop : freeS "stop" := by decide +kernel
theorem ln_start : ("start" : Str).length ≤ 100 := by decide
theorem ln_between : ("between" : Str).length ≤ 100 := by decide
theorem ln_stop : ("stop" : Str).length ≤ 100 := by decide
theorem at_zero (d : PyData) (ds : List PyData) : L2.atI (d :: ds) 0 = some d := by
  unfold L2.atI
  have h : ixN (d :: ds).length 0 = some 0 := by unfold ixN; simp
  rw [h]
  rfl
theorem nm_of {c : CodeD} (ok : c.ok) {x : Str} (h : x ∈ nmsT c) : isNameS x = true := (wsOf_of ok (nmsT_mem h)).1
theorem ents_ok {c : CodeD} (ok : c.ok) : ∀ p ∈ entsL c, okE p := by
  intro p hp
  rcases List.mem_cons.mp hp with rfl | hp
  · exact ⟨fr_start, ln_start, ok.st⟩
  rcases List.mem_append.mp hp with hp | hp
  · obtain ⟨x, hx, rfl⟩ := List.mem_map.mp hp
    have z := wsOf_of ok (nmsT_mem hx)
    refine ⟨name_free z.1, ?_, ?_⟩
    · show x.length ≤ 100
      rw [name_len z.1]
      decide
    · show okW 1 (mostN x) _
      unfold mostN
      rw [if_neg (name_not z.1 nm_between)]
      exact z.2.1
  rcases List.mem_append.mp hp with hp | hp
  · unfold btE at hp
    split at hp
    · cases hp
    · rename_i hb
      rw [List.mem_singleton.mp hp]
      refine ⟨fr_between, ln_between, ?_⟩
      refine ⟨?_, ok.bt.2.1, ok.bt.2.2⟩
      cases hz : c.bt with
      | nil => exact absurd hz hb
      | cons _ _ => exact Nat.succ_le_succ (Nat.zero_le _)
  · rw [List.mem_singleton.mp hp]
    exact ⟨fr_stop, ln_stop, ok.sp⟩
theorem codeT_split {c : CodeD} (ok : c.ok) : Txt.split (codeT c) "\n" = linesT c := by
  unfold codeT
  refine TL.split_join (s := 10) (S := []) (by decide) (by decide +kernel) (by unfold linesT; simp) fun q hq => ?_
  rw [linesT_eq] at hq
  obtain ⟨p, hp, rfl⟩ := List.mem_map.mp hq
  exact lineT_no10 (ents_ok ok p hp)
/-! ### each word may stand -/
end K80

namespace K80
open PySem PySem.Spec PyProof.Rows L2 Sb
local macro_rules | `(tactic| walk_at "ex") => `(tactic| first | exact Ex.refl _ | assumption | (refine' Ex.trans ?_ (by assumption); walk_at "ex"))
local macro_rules | `(tactic| walk_at "rp") => `(tactic| first | assumption | (refine' Rp.up ?e (by assumption); (case e => walk_at "ex")) | exact rfl)
local macro_rules | `(tactic| walk_at "rd") => `(tactic| with_reducible first | exact rd_add | exact rd_sub | exact rd_lt | exact rd_le | exact rd_gt | exact rd_ge | exact rd_eqI | exact rd_neI | exact rd_eqS | exact rd_neS | exact rd_isN | exact rd_ltS | exact rd_inSign | exact rd_eqE)
local macro_rules | `(tactic| walk_at "tr") => `(tactic| first
  | with_reducible exact d_int
  | with_reducible exact d_str
  | with_reducible exact d_bl
  | with_reducible exact d_non
  | with_reducible exact a_nil
  | with_reducible exact b_yes
  | with_reducible exact o_none
  | with_reducible exact d_newD
  | ((with_reducible refine' d_var ?i ?r); (case i => rfl); (case r => walk_at "rp"))
  | ((with_reducible refine' a_cons ?a ?b); (case a => walk_at "tr"); (case b => walk_at "tr"))
  | ((with_reducible refine' a_star ?a ?b); (case a => walk_at "tr"); (case b => walk_at "tr"))
  | ((with_reducible refine' d_isi ?a ?b); (case a => walk_at "tr"); (case b => decide))
  | ((with_reducible refine' d_op ?a ?b ?c); (case a => walk_at "tr"); (case b => walk_at "tr"); (case c => walk_at "rd"))
  | ((with_reducible refine' d_tup ?a ?b); (case a => walk_at "tr"); (case b => first | decide | (simp; done)))
  | ((with_reducible refine' d_lst ?a ?b); (case a => walk_at "tr"); (case b => first | decide | (simp; done)))
  | ((with_reducible refine' o_some ?a); (case a => walk_at "tr"))
  | ((with_reducible refine' b_B ?a); (case a => walk_at "tr"))
  | ((with_reducible refine' b_T ?a); (case a => walk_at "tr"))
  | ((with_reducible refine' b_not ?a); (case a => walk_at "tr"))
  | ((with_reducible refine' v_not ?a); (case a => walk_at "tr"))
  | ((with_reducible refine' b_or ?a ?b); (case a => walk_at "tr"); (case b => intro _; walk_at "tr"))
  | ((with_reducible refine' b_and ?a ?b); (case a => walk_at "tr"); (case b => intro _; walk_at "tr"))
  | ((with_reducible refine' v_or ?a ?b); (case a => walk_at "tr"); (case b => intro _; walk_at "tr"))
  | ((with_reducible refine' v_and ?a ?b); (case a => walk_at "tr"); (case b => intro _; walk_at "tr"))
  | assumption)


def RI (lo hi : Int) : PyData → Prop := fun d => ∃ i : Int, d = .int i ∧ lo ≤ i ∧ i ≤ hi
theorem mod_RI {x s : Int} (h : 0 < s) : RI 0 (s - 1) (.int (x % s)) := ⟨_, rfl, Int.emod_nonneg _ (by omega), by have := Int.emod_lt_of_pos x h; omega⟩
theorem bits_ok {i : Int} (h : i.natAbs < 2 ^ 200) {j : Int} (h0 : 0 ≤ j) (h1 : j ≤ 5) : CPowW i j := by
  have z : Builtin.Int.intBits i ≤ 200 := PySem.intBits_le_iff.mpr h
  refine ⟨h0, ?_⟩
  have z2 : (Builtin.Int.intBits i : Int) ≤ 200 := by omega
  have z3 : (Builtin.Int.intBits i : Int) * j ≤ 200 * j := Int.mul_le_mul_of_nonneg_right z2 h0
  have z4 : (2 : Int) ^ 27 = 134217728 := rfl
  rw [z4]
  omega
theorem log_lt {x : Nat} {k : Nat} (h : x < 2 ^ k) (hk : 0 < k) : x.log2 < k := by
  by_cases hx : x = 0
  · subst hx
    simpa using hk
  · exact (Nat.log2_lt hx).mpr h
theorem mul_ok {i j : Int} (h1 : i.natAbs < 2 ^ 200) (h2 : j.natAbs < 2 ^ 200) : CMulW i j := by
  have z1 := log_lt h1 (by decide)
  have z2 := log_lt h2 (by decide)
  show i.natAbs.log2 + j.natAbs.log2 < 1000000
  omega
section
variable {P : Program} {w : World} {K : PySem.W.Frag} {mg : Str → Option Value} {base : Heap}
def R_spin : List PyData → Nat → (PyData → Prop) → Prop := fun ds k Φ => ∃ size : Int, ds = [.int size] ∧ 0 < size ∧ size ≤ 1000000000000000000000000000000000 ∧ k = 1 ∧ Φ = RI 0 (size - 1)
theorem F__law_spin (T : Tx K mg) : Fd P w K mg base CX0 1 "_law_spin" (ESp K R_spin) [] := by
  obtain ⟨fd, F⟩ := T.f__law_spin
  refine ⟨_, fd, ["reel", "size"], [], T.g__law_spin, F.kp, F.bindsN fun _ _ _ _ _ _ us hl => match us, hl with | [_, _], _ => rfl, .nil, ?_⟩
  refine fnG_of F sc__law_spin (fun vs H Q E h => ESp.len (n := 1) (by rintro _ _ _ ⟨d, rfl, _⟩; rfl) h) (fun cdv A outer s H vs Q E hg hr h => ?_)
  obtain ⟨r, ws, G, M, n, k, ds, Φ, rfl, hA, hRL, hws, ⟨size, rfl, h0, h1, rfl, rfl⟩, hn, q⟩ := h
  obtain ⟨v1, _, rfl, r1, rfl⟩ := hws
  obtain ⟨a, b, c, hM, hb0, hb1, hc⟩ := hRL
  refine ⟨_, PSs.nox (pss_cons (ps_if (pt_cmpR op_gt (pe_ix ix_list (pv 0) pe_int (fun _ _ => rfl)) pe_int (nomark _)) (pss_cons (ps_set (i := 2) sc__law_spin.nd rfl (by first | exact Or.inl rfl | exact Or.inr rfl) (pe_op op_mod (pe_callTy call_int1' (by rfl) T.n_int (by decide +kernel) (pa_cons (pe_ix ix_list (pv 0) pe_int (fun _ _ => rfl)) pa_nil)) (pv 1))) (pss_cons (ps_asg (pe_op op_fdivW (pe_ix ix_list (pv 0) pe_int (fun _ _ => rfl)) (pv 1)) (pg_sub (pv 0) pe_int set_list)) (pss_one (ps_ret (pv 2))))) pss_nil)
    (pss_cons (ps_asg (pe_op op_add (pe_ix ix_list (pv 0) pe_int (fun _ _ => rfl)) pe_int) (pg_sub (pv 0) pe_int set_list))
    (pss_cons (ps_set (i := 3) sc__law_spin.nd rfl (by first | exact Or.inl rfl | exact Or.inr rfl) (pe_op op_mod (pe_callTy call_int1' (by rfl) T.n_int (by decide +kernel) (pa_cons (pe_op op_powW (pe_op op_add (pe_ix ix_list (pv 0) pe_int (fun _ _ => rfl)) (pe_op op_mulW pe_int (pe_ix ix_list (pv 0) pe_int (fun _ _ => rfl)))) pe_int) pa_nil)) (pe_op op_add (pe_op op_pow pe_int pe_int) pe_int)))
    (pss_cons (ps_set (i := 3) sc__law_spin.nd rfl (by first | exact Or.inl rfl | exact Or.inr rfl) (pe_op op_mod (pe_callTy call_int1' (by rfl) T.n_int (by decide +kernel) (pa_cons (pe_op op_powW (pe_op op_add (pv 3) (pe_op op_mulW pe_int (pe_ix ix_list (pv 0) pe_int (fun _ _ => rfl)))) pe_int) pa_nil)) (pe_op op_add (pe_op op_pow pe_int pe_int) pe_int)))
    (pss_one (ps_ret (pe_op op_mod (pe_callTy call_int1' (by rfl) T.n_int (by decide +kernel) (pa_cons (pe_op op_fdivW (pv 3) pe_int) pa_nil)) (pv 1)))))))), ?_⟩
  rw [show L2.start ["reel", "size", "digit", "wide"] [(.ref r), v1] = [some (.ref r), some v1, none, none] from rfl]
  dsimp only [xK]
  have hG : G r = none := hA.d _ _ hM
  have hN : cutG M r r = none := cut_none
  rw [← cut_eq hM] at hA
  have rl : ∀ (Gx : Hp) (a b : Int) (c : Int), Rp K (upd Gx r (.lst [.int a, .int b, .int c])) (.list [.int a, .int b, .int c]) (.ref r) := fun Gx a b c => ⟨r, _, rfl, upd_same, (rpL_ints [a, b, c]).mpr rfl⟩
  have nG : ∀ {Gx Hx : Hp} {o : HO}, At Gx (upd (cutG M r) r o) Hx → Gx r = none := fun A => A.d _ _ upd_same
  have eU : ∀ {Gx : Hp} {o : HO}, Gx r = none → Ex Gx (upd Gx r o) := fun h => Ex.new h
  have hsz : size.natAbs.log2 < 9000 := by
    have e : size.natAbs < 2 ^ 200 := Nat.lt_of_le_of_lt (show size.natAbs ≤ 1000000000000000000000000000000000 by omega) (by decide)
    exact Nat.lt_trans (log_lt e (by decide)) (by decide)
  refine s_seq (s_iffz (b_T (d_op (d_op (d_var rfl (rl _ _ _ _)) d_int (rd_ixL rfl)) d_int rd_gt)) hG hN hA (fun hb G1 H1 e1 A1 => ?_) (fun hb G1 H1 e1 A1 => ?_))
  · refine q_setfz (d_op (d_cb (a_cons (d_op (d_var rfl (rl _ _ _ _)) d_int (rd_ixL rfl)) a_nil) rc_int1) (d_var rfl (r1.up (e1.trans (eU (nG A1))))) (rd_mod h0)) rfl (nG A1) hN A1 fun v2 G2 H2 e2 A2 r2 => ?_
    refine q_setIxfz (j := 0) (d_op (d_op (d_var rfl (rl _ _ _ _)) d_int (rd_ixL rfl)) (d_var rfl (r1.up ((e1.trans e2).trans (eU (nG A2))))) (rd_fdiv ⟨h0, hsz⟩)) rfl (nG A2) hN A2 rfl rfl fun v3 G3 H3 e3 A3 r3 => ?_
    refine ⟨v2, rfl, ?_⟩
    rw [show v3 = V.int _ from r3] at A3
    refine q _ v2 G3 _ H3 ((e1.trans e2).trans e3) A3 (fun x hx => by rw [upd_ne hx]; exact if_neg hx) ⟨_, b, c, upd_same, hb0, hb1, by omega⟩ (mod_RI h0) (r2.up e3)
  · refine s_next ?_
    have hc6 : c < 1000000 := by omega
    refine q_setIxfz (j := 2) (d_op (d_op (d_var rfl (rl _ _ _ _)) d_int (rd_ixL rfl)) d_int rd_add) rfl (nG A1) hN A1 rfl rfl fun v3 G2 H2 e2 A2 r3 => ?_
    rw [show v3 = V.int _ from r3] at A2
    have A2' : At G2 (upd (cutG M r) r (.lst [.int a, .int b, .int ((c : Int) + 1)])) H2 := A2
    have t43 : (10 : Int) ^ 43 = 10000000000000000000000000000000000000000000 := rfl
    have t44 : (10 : Int) ^ 44 = 100000000000000000000000000000000000000000000 := rfl
    have t41 : (10 : Int) ^ 41 = 100000000000000000000000000000000000000000 := rfl
    have t200 : (2 : Nat) ^ 200 = 1606938044258990275541962092341162602522202993782792835301376 := rfl
    have p44 : (0 : Int) < 10 ^ (44 : Int).toNat + 31 := by decide
    have p41 : (0 : Int) < 10 ^ (41 : Int).toNat + 39 := by decide
    refine q_setfz (d_op (d_cb (a_cons (d_op (d_op (d_op (d_var rfl (rl _ _ _ _)) d_int (rd_ixL rfl)) (d_op d_int (d_op (d_var rfl (rl _ _ _ _)) d_int (rd_ixL rfl)) (rd_mul (mul_ok (by decide) (by rw [t200]; omega)))) rd_add) d_int (rd_powW (bits_ok (by rw [t200]; omega) (by decide) (by decide)))) a_nil) rc_int1)
      (d_op (d_op d_int d_int (rd_pow ⟨by decide, by decide, by decide⟩)) d_int rd_add) (rd_mod p44)) rfl (nG A2') hN A2' fun v4 G3 H3 e3 A3 r4 => ?_
    generalize hz : (b + 67867979 * ((c : Int) + 1)) ^ (3 : Int).toNat = z at r4
    have z0 := Int.emod_nonneg z (Int.ne_of_gt p44)
    have z1 := Int.emod_lt_of_pos z p44
    have e44 : (10 : Int) ^ (44 : Int).toNat = 10 ^ 44 := rfl
    rw [e44, t44] at z0 z1
    refine q_setfz (d_op (d_cb (a_cons (d_op (d_op (d_var rfl (r4.up (eU (nG A3)))) (d_op d_int (d_op (d_var rfl (rl _ _ _ _)) d_int (rd_ixL rfl)) (rd_mul (mul_ok (by decide) (by rw [t200]; omega)))) rd_add) d_int (rd_powW (bits_ok (by rw [t200, e44, t44]; omega) (by decide) (by decide)))) a_nil) rc_int1)
      (d_op (d_op d_int d_int (rd_pow ⟨by decide, by decide, by decide⟩)) d_int rd_add) (rd_mod p41)) rfl (nG A3) hN A3 fun v5 G4 H4 e4 A4 r5 => ?_
    refine w_D (d_op (d_cb (a_cons (d_op (d_var rfl r5) d_int (rd_fdiv ⟨by decide, by decide⟩)) a_nil) rc_int1) (d_var rfl (r1.up (((e1.trans e2).trans e3).trans e4))) (rd_mod h0)) A4 fun v6 G5 H5 e5 A5 r6 => ?_
    refine q _ v6 G5 _ H5 ((((e1.trans e2).trans e3).trans e4).trans e5) A5 (fun x hx => by rw [upd_ne hx]; exact if_neg hx) ⟨a, b, c + 1, upd_same, hb0, hb1, by omega⟩ (mod_RI h0) r6
theorem spin_call {r : Addr} {M0 : Hp} {σ : L2.St} {G : Hp} {n m : Nat} {i : Nat} {te : TE} {E : XK} {Φ : PyData → Prop} (hi : σ[i]? = some (some (.ref r))) (h : TrE K r M0 te σ G n m fun d => ∃ z : Int, d = .int z ∧ 0 < z ∧ z ≤ 1000000000000000000000000000000000 ∧ ∀ d, RI 0 (z - 1) d → Φ d) (hm : m + 1 ≤ 1000000) : TrE K r M0 (tCall (ESp K R_spin) [] E (tCons (tVar i) (tCons te tNil))) σ G n (m + 1) Φ := fun G1 M H e A S Rr Q q => by
  refine ⟨.ref r, hi, ?_⟩
  refine h G1 M H e A S Rr _ fun d v G2 M2 H2 e2 A2 S2 R2 hd rv => ?_
  obtain ⟨z, rfl, h0, h1, hz⟩ := hd
  refine ⟨r, [v], G2, M2, m, 1, [.int z], RI 0 (z - 1), rfl, A2, R2, ⟨v, [], rfl, rv, rfl⟩, ⟨z, rfl, h0, h1, rfl, rfl⟩, hm, fun d v G' M' H' e' A' S' R' hd' rv' => ?_⟩
  exact q d v G' M' H' (e2.trans e') A' (S2.trans S') R' (hz d hd') rv'
theorem spin_c {r : Addr} {M0 : Hp} {σ : L2.St} {G : Hp} {n : Nat} {i : Nat} {z : Int} {E : XK} (hi : σ[i]? = some (some (.ref r))) (h0 : 0 < z) (h1 : z ≤ 1000000000000000000000000000000000) (hm : n + 1 ≤ 1000000) : TrE K r M0 (tCall (ESp K R_spin) [] E (tCons (tVar i) (tCons (tC (.int z)) tNil))) σ G n (n + 1) (RI 0 (z - 1)) :=
  spin_call hi (e_D d_int ⟨z, rfl, h0, h1, fun _ h => h⟩) hm
def IsW (lo hi : Nat) : PyData → Prop := fun d => ∃ ws, d = .tuple (dInts ws) ∧ okW lo hi ws
def R_widths : List PyData → Nat → (PyData → Prop) → Prop := fun ds k Φ => ∃ lo hi : Nat, ds = [.int lo, .int hi] ∧ lo ≤ hi ∧ hi ≤ 100 ∧ k = hi + 1 ∧ Φ = IsW lo hi
theorem ints_of : ∀ {ds : List PyData} {lo hi : Int}, (∀ d ∈ ds, RI lo hi d) → ∃ ns : List Int, ds = dInts ns ∧ ∀ n ∈ ns, lo ≤ n ∧ n ≤ hi
  | [], _, _, _ => ⟨[], rfl, fun _ h => by cases h⟩
  | d :: ds, lo, hi, h => by
    obtain ⟨ns, e, hn⟩ := ints_of fun x hx => h x (List.mem_cons_of_mem _ hx)
    obtain ⟨i, rfl, h1, h2⟩ := h d (List.mem_cons_self ..)
    refine ⟨i :: ns, by rw [e]; rfl, fun n hn' => ?_⟩
    rcases List.mem_cons.mp hn' with rfl | hn'
    · exact ⟨h1, h2⟩
    · exact hn n hn'
theorem F__law_widths (T : Tx K mg) : Fd P w K mg base CX0 2 "_law_widths" (ESp K R_widths) [] := by
  obtain ⟨fd, F⟩ := T.f__law_widths
  refine ⟨_, fd, ["reel", "least", "most"], [], T.g__law_widths, F.kp, F.bindsN fun _ _ _ _ _ _ us hl => match us, hl with | [_, _, _], _ => rfl, .nil, ?_⟩
  refine fnG_of F sc__law_widths (fun vs H Q E h => ESp.len (n := 2) (by rintro _ _ _ ⟨d, e, rfl, _⟩; rfl) h) (fun cdv A outer s H vs Q E hg hr h => ?_)
  obtain ⟨r, ws, G, M, n, k, ds, Φ, rfl, hA, hRL, hws, ⟨lo, hi, rfl, h0, h1, rfl, rfl⟩, hn, q⟩ := h
  obtain ⟨v1, _, rfl, r1, v2, _, rfl, r2, rfl⟩ := hws
  refine ⟨_, PSs.nox (pss_one (ps_ret (pe_callTy call_tupOf (by rfl) T.n_tuple (by decide +kernel) (pa_cons (pe_lc (own := [("turn", 3)]) (g := gName 3) (by rfl) sc__law_widths.nd (pi_range1 (by rfl) T.n_range (pa_cons (pe_op op_add (pv 1) (pe_fd (F__law_spin (P := P) (w := w) (base := base) T) hg (hr.mono (by decide)) pass0 (pa_cons (pv 0) (pa_cons (pe_op op_add (pe_op op_sub (pv 2) (pv 1)) pe_int) pa_nil)))) pa_nil)) (blkOk_by (own := [("turn", 3)]) (N := ["reel", "least", "most", "turn"]) (sc := defScope s__law_widths) (by decide +kernel)) (fun _ _ _ _ _ => (pg_name (i := 3) sc__law_widths.nd rfl (by first | exact Or.inl rfl | exact Or.inr rfl))) (fun _ _ _ _ _ => pts_nil) (fun _ _ _ _ _ => (pe_op op_add pe_int (pe_fd (F__law_spin (P := P) (w := w) (base := base) T) hg (hr.mono (by decide)) pass0 (pa_cons (pv 0) (pa_cons pe_int pa_nil)))))) pa_nil)))), ?_⟩
  rw [show L2.start ["reel", "least", "most", "turn"] [(.ref r), v1, v2] = [some (.ref r), some v1, some v2, none] from rfl]
  dsimp only [xK]
  refine s_retE (M0 := M) (n := n) (n' := n + (hi + 1)) (Φ := IsW lo hi) (e_cb (Ψ := fun ds => ∃ d ws, ds = [d] ∧ d = .list (dInts ws) ∧ okW lo hi ws) (ea_cons (Φ := fun d => ∃ ws, d = .list (dInts ws) ∧ okW lo hi ws) ((e_lcR (m := n + 1) (c := hi) (step := 1) (Φ0 := fun z => (lo : Int) ≤ z ∧ z ≤ hi) (Φ1 := RI 1 4) (Φ := fun d => ∃ ws, d = .list (dInts ws) ∧ okW lo hi ws) ?_ (by omega) (fun M1 x t ht => ?_) fun z ds hz hl hall => ?_).le (by omega)) fun d hd => ea_nil ?_) fun ds hds => ?_) hA .refl hRL q
  · refine e_op (Φ1 := fun d => d = .int lo) (Φ2 := RI 0 (hi - lo)) (e_D (d_var rfl r1) rfl) (fun _ _ => spin_call rfl (e_D (d_op (d_op (d_var rfl r2) (d_var rfl r1) rd_sub) d_int rd_add) ⟨_, rfl, by omega, by omega, fun d h => ?_⟩) (by omega)) ?_
    · obtain ⟨i, rfl, h2, h3⟩ := h
      exact ⟨i, rfl, h2, by omega⟩
    · rintro _ _ rfl ⟨i, rfl, h2, h3⟩
      exact ⟨_, rd_add, _, rfl, ⟨by omega, by omega⟩, by omega, by omega⟩
  · refine e_op (Φ1 := fun d => d = .int 1) (Φ2 := RI 0 3) (e_D d_int rfl) (fun _ _ => (spin_c rfl (by decide) (by decide) (by omega)).le (by omega)) ?_
    rintro _ _ rfl ⟨i, rfl, h2, h3⟩
    exact ⟨_, rd_add, _, rfl, by omega, by omega⟩
  · obtain ⟨ns, rfl, hns⟩ := ints_of hall
    rw [dInts_len] at hl
    exact ⟨ns, rfl, by omega, by omega, hns⟩
  · obtain ⟨ws, rfl, ok⟩ := hd
    exact ⟨_, ws, rfl, rfl, ok⟩
  · obtain ⟨_, ws, rfl, rfl, ok⟩ := hds
    exact ⟨_, rc_tupL, ws, rfl, ok⟩
end
end K80

namespace K80
open PySem PySem.Spec PyProof.Rows L2 Sb
local macro_rules | `(tactic| walk_at "ex") => `(tactic| first | exact Ex.refl _ | assumption | (refine' Ex.trans ?_ (by assumption); walk_at "ex"))
local macro_rules | `(tactic| walk_at "rp") => `(tactic| first | assumption | (refine' Rp.up ?e (by assumption); (case e => walk_at "ex")) | exact rfl)
local macro_rules | `(tactic| walk_at "rd") => `(tactic| with_reducible first | exact rd_add | exact rd_sub | exact rd_lt | exact rd_le | exact rd_gt | exact rd_ge | exact rd_eqI | exact rd_neI | exact rd_eqS | exact rd_neS | exact rd_isN | exact rd_ltS | exact rd_inSign | exact rd_eqE)
local macro_rules | `(tactic| walk_at "tr") => `(tactic| first
  | with_reducible exact d_int
  | with_reducible exact d_str
  | with_reducible exact d_bl
  | with_reducible exact d_non
  | with_reducible exact a_nil
  | with_reducible exact b_yes
  | with_reducible exact o_none
  | with_reducible exact d_newD
  | ((with_reducible refine' d_var ?i ?r); (case i => rfl); (case r => walk_at "rp"))
  | ((with_reducible refine' a_cons ?a ?b); (case a => walk_at "tr"); (case b => walk_at "tr"))
  | ((with_reducible refine' a_star ?a ?b); (case a => walk_at "tr"); (case b => walk_at "tr"))
  | ((with_reducible refine' d_isi ?a ?b); (case a => walk_at "tr"); (case b => decide))
  | ((with_reducible refine' d_op ?a ?b ?c); (case a => walk_at "tr"); (case b => walk_at "tr"); (case c => walk_at "rd"))
  | ((with_reducible refine' d_tup ?a ?b); (case a => walk_at "tr"); (case b => first | decide | (simp; done)))
  | ((with_reducible refine' d_lst ?a ?b); (case a => walk_at "tr"); (case b => first | decide | (simp; done)))
  | ((with_reducible refine' o_some ?a); (case a => walk_at "tr"))
  | ((with_reducible refine' b_B ?a); (case a => walk_at "tr"))
  | ((with_reducible refine' b_T ?a); (case a => walk_at "tr"))
  | ((with_reducible refine' b_not ?a); (case a => walk_at "tr"))
  | ((with_reducible refine' v_not ?a); (case a => walk_at "tr"))
  | ((with_reducible refine' b_or ?a ?b); (case a => walk_at "tr"); (case b => intro _; walk_at "tr"))
  | ((with_reducible refine' b_and ?a ?b); (case a => walk_at "tr"); (case b => intro _; walk_at "tr"))
  | ((with_reducible refine' v_or ?a ?b); (case a => walk_at "tr"); (case b => intro _; walk_at "tr"))
  | ((with_reducible refine' v_and ?a ?b); (case a => walk_at "tr"); (case b => intro _; walk_at "tr"))
  | assumption)


theorem at_int {ns : List Int} {k : Nat} (h : k < ns.length) : L2.atI ns (k : Int) = some ns[k] := by
  unfold L2.atI ixN
  have h0 : (0 : Int) ≤ (k : Int) := by omega
  have h1 : (k : Int) < (ns.length : Int) := by omega
  rw [if_pos h0, if_pos h1]
  show ns[(k : Int).toNat]? = _
  rw [Int.toNat_natCast]
  exact List.getElem?_eq_getElem h
theorem cut_mem {ns : List Int} {lo hi : Option Int} {d : PyData} (h : d ∈ Sb.cutD (dInts ns) lo hi) : ∃ n, d = .int n := by
  unfold Sb.cutD at h
  obtain ⟨n, _, e⟩ := mem_ints (List.mem_of_mem_drop (List.mem_of_mem_take h))
  exact ⟨n, e⟩
section
variable {P : Program} {w : World} {K : PySem.W.Frag} {mg : Str → Option Value} {base : Heap}
def S_reel (K : PySem.W.Frag) : Sp := fun vs H Q _ => ∃ (G M : Hp) (a : Addr) (sc : List Int) (ix : Nat), vs = [.ref a, .int ix] ∧ At G M H ∧ SqL K G a (sc.map V.int) ∧ sc.length ≤ 1000 ∧ ix ≤ 1000 ∧
  ∀ p (x b : Int) G' H', M p = none → G' p = none → Ex G G' → At G' (upd M p (.lst [.int x, .int b, .int 0])) H' → 0 ≤ b → b < 10 ^ 43 → Q (.ref p) H'
theorem F__law_reel (T : Tx K mg) : Fd P w K mg base CX0 1 "_law_reel" (S_reel K) [] := by
  obtain ⟨fd, F⟩ := T.f__law_reel
  refine ⟨_, fd, ["script", "index"], [], T.g__law_reel, F.kp, F.bindsN fun _ _ _ _ _ _ us hl => match us, hl with | [_, _], _ => rfl, .nil, ?_⟩
  refine fnG_of F sc__law_reel (fun vs H Q E h => by obtain ⟨_, _, _, _, _, rfl, _⟩ := h; rfl) (fun cdv A outer s H vs Q E hg hr h => ?_)
  obtain ⟨G, M, a, sc, ix, rfl, hA, hS, hl, hx, q⟩ := h
  refine ⟨_, PSs.nox (pss_cons (ps_par (i := 2) (j := 3) (by rfl) sc__law_reel.nd rfl rfl (by decide) rfl rfl (pa_cons (pe_ifExp (pt_cmpR op_lt (pv 1) (pe_callB call_len' (by rfl) T.n_len (by decide +kernel) (pa_cons (pv 0) pa_nil)) (nomark _)) (pe_ix ix_list (pv 0) (pv 1) (fun _ _ => rfl)) pe_int) (pa_cons (pe_op op_add pe_int (pe_op op_mulW pe_int (pv 1))) pa_nil)) (by rfl))
    (pss_cons (ps_for PassesOwn.never rfl (pi_enum (by rfl) T.n_enumerate (pa_cons (pe_slice sl_list (pv 0) po_none (po_some pe_int)) pa_nil)) (pg_tup (by rfl) (pgs_cons (pg_name (i := 4) sc__law_reel.nd rfl (by first | exact Or.inl rfl | exact Or.inr rfl)) (pgs_cons (pg_name (i := 5) sc__law_reel.nd rfl (by first | exact Or.inl rfl | exact Or.inr rfl)) pgs_nil))) (pss_one (ps_set (i := 3) sc__law_reel.nd rfl (by first | exact Or.inl rfl | exact Or.inr rfl) (pe_op op_mod (pe_callTy call_int1' (by rfl) T.n_int (by decide +kernel) (pa_cons (pe_op op_add (pe_op op_add (pe_op op_mulW (pv 3) pe_int) (pe_op op_mod (pe_callTy call_int1' (by rfl) T.n_int (by decide +kernel) (pa_cons (pv 5) pa_nil)) (pe_op op_add (pe_op op_pow pe_int pe_int) pe_int))) (pv 4)) pa_nil)) (pe_op op_add (pe_op op_pow pe_int pe_int) pe_int)))))
    (pss_cons (ps_set (i := 3) sc__law_reel.nd rfl (by first | exact Or.inl rfl | exact Or.inr rfl) (pe_op op_mod (pe_callTy call_int1' (by rfl) T.n_int (by decide +kernel) (pa_cons (pe_op op_add (pe_op op_mulW (pv 3) pe_int) (pe_op op_mod (pe_callTy call_int1' (by rfl) T.n_int (by decide +kernel) (pa_cons (pv 2) pa_nil)) (pe_op op_add (pe_op op_pow pe_int pe_int) pe_int))) pa_nil)) (pe_op op_add (pe_op op_pow pe_int pe_int) pe_int)))
    (pss_one (ps_ret (pe_lst (pa_cons (pe_callB (call_max2' rfl) (by rfl) T.n_max (by decide +kernel) (pa_cons pe_int (pa_cons (pe_op op_sub (pe_callB call_abs' (by rfl) T.n_abs (by decide +kernel) (pa_cons (pe_callTy call_int1' (by rfl) T.n_int (by decide +kernel) (pa_cons (pv 2) pa_nil)) pa_nil)) (pe_op op_pow pe_int pe_int)) pa_nil))) (pa_cons (pv 3) (pa_cons pe_int pa_nil))))))))), ?_⟩
  rw [show L2.start ["script", "index", "cell", "mixed", "spot", "other"] [(.ref a), (.int ix)] = [some (.ref a), some (.int ix), none, none, none, none] from rfl]
  dsimp only [xK]
  have p42 : (0 : Int) < 10 ^ (42 : Int).toNat + 17 := by decide
  have p42' : (0 : Int) < 10 ^ (42 : Int).toNat + 63 := by decide
  have e42 : (10 : Int) ^ (42 : Int).toNat = 1000000000000000000000000000000000000000000 := rfl
  have t43 : (10 : Int) ^ 43 = 10000000000000000000000000000000000000000000 := rfl
  have t200 : (2 : Nat) ^ 200 = 1606938044258990275541962092341162602522202993782792835301376 := rfl
  have hcell : ∃ cz : Int, TrD K (tIf (tTest (tOp (rI0 fun i j => V.bl (decide (i < j))) (tVar 1) (tCB (Sb.rLen K) (tCons (tVar 0) tNil)))) (tOp (rIxL K) (tVar 0) (tVar 1)) (tC (V.int 0))) [some (.ref a), some (.int ix), none, none, none, none] G (.int cz) := by
    have ht : TrB (tTest (tOp (rI0 fun i j => V.bl (decide (i < j))) (tVar 1) (tCB (Sb.rLen K) (tCons (tVar 0) tNil)))) [some (.ref a), some (.int ix), none, none, none, none] G (decide ((ix : Int) < ((sc.map V.int).length : Int))) := b_T (K := K) (d_op (d_var rfl (d := .int ix) rfl) (d_lenQ rfl hS) rd_lt)
    rw [List.length_map] at ht
    by_cases hh : ix < sc.length
    · exact ⟨sc[ix], d_if ht (fun _ => d_ixQ rfl hS (d_var rfl (d := .int ix) rfl) (at_int hh)) fun z => absurd (of_decide_eq_false z) (by omega)⟩
    · exact ⟨0, d_if ht (fun z => absurd (of_decide_eq_true z) (by omega)) fun _ => d_int⟩
  obtain ⟨cz, hcz⟩ := hcell
  refine q_par hcz (d_op d_int (d_op d_int (d_var rfl (d := .int ix) rfl) (rd_mul (mul_ok (by decide) (by rw [t200]; omega)))) rd_add) hA fun v2 v3 G1 H1 e1 A1 r2 r3 => ?_
  refine s_seq (s_forEI (fun k σ G2 M1 => ∃ (z : Int) (v : V) (x4 x5 : Option V), M1 = M ∧ 0 ≤ z ∧ z < 10 ^ 43 ∧ v = .int z ∧ σ = [some (.ref a), some (.int ix), some v2, some v, x4, x5]) (d_slQ rfl (e1.sl hS) o_none (o_some (K := K) d_int)) A1 (fun e h => h)
    ⟨_, v3, none, none, rfl, ?_, ?_, r3, rfl⟩ (fun k d hd x σ1 G2 M1 H2 e2 A2 hI rx Nx hN => ?_) fun σ1 G2 M1 H2 e2 A2 hI => ?_)
  · omega
  · rw [t43]; omega
  · obtain ⟨z, _, x4, x5, rfl, z0, z1, rfl, rfl⟩ := hI
    obtain ⟨oi, rfl⟩ := cut_mem (List.mem_of_getElem? hd)
    rw [t43] at z1
    refine s_set (d_op (d_cb (a_cons (d_op (d_op (d_op (d_var rfl (d := .int z) rfl) d_int (rd_mul (mul_ok (by rw [t200]; omega) (by decide)))) (d_op (d_cb (a_cons (d_var rfl rx) a_nil) rc_int1) (d_op (d_op d_int d_int (rd_pow ⟨by decide, by decide, by decide⟩)) d_int rd_add) (rd_mod p42')) rd_add) (d_var rfl (d := .int k) rfl) rd_add) a_nil) rc_int1)
      (d_op (d_op d_int d_int (rd_pow ⟨by decide, by decide, by decide⟩)) d_int rd_add) (rd_mod p42)) A2 fun v G3 H3 e3 A3 r => ?_
    refine hN _ G3 M1 H3 e3 A3 ⟨_, v, _, _, rfl, Int.emod_nonneg _ (by omega), ?_, r, rfl⟩
    refine Int.lt_trans (Int.emod_lt_of_pos _ p42) ?_
    rw [e42, t43]
    decide
  · obtain ⟨z, _, x4, x5, rfl, z0, z1, rfl, rfl⟩ := hI
    rw [t43] at z1
    refine q_set (d_op (d_cb (a_cons (d_op (d_op (d_var rfl (d := .int z) rfl) d_int (rd_mul (mul_ok (by rw [t200]; omega) (by decide)))) (d_op (d_cb (a_cons (d_var rfl (r2.up e2)) a_nil) rc_int1) (d_op (d_op d_int d_int (rd_pow ⟨by decide, by decide, by decide⟩)) d_int rd_add) (rd_mod p42')) rd_add) a_nil) rc_int1)
      (d_op (d_op d_int d_int (rd_pow ⟨by decide, by decide, by decide⟩)) d_int rd_add) (rd_mod p42)) A2 fun v G3 H3 e3 A3 r => ?_
    refine w_A (a_cons (d_cb (a_cons d_int (a_cons (d_op (d_cb (a_cons (d_cb (a_cons (d_var rfl (r2.up (e2.trans e3))) a_nil) rc_int1) a_nil) rc_abs) (d_op d_int d_int (rd_pow ⟨by decide, by decide, by decide⟩)) rd_sub) a_nil)) rc_max2) (a_cons (d_var rfl r) (a_cons d_int a_nil))) A3 fun xs G4 H4 e4 A4 rx => ?_
    obtain ⟨y1, _, rfl, h1, y2, _, rfl, h2, y3, _, rfl, h3, rfl⟩ := rx
    refine ⟨show (3 : Nat) ≤ sizeLine by decide, fun p hp => ?_⟩
    rw [show y1 = V.int _ from h1, show y2 = V.int _ from h2, show y3 = V.int 0 from h3]
    refine q p _ _ G4 _ (A4.mNone hp) (A4.gNone hp) (((e1.trans e2).trans e3).trans e4) (A4.nm hp) (Int.emod_nonneg _ (by omega)) ?_
    refine Int.lt_trans (Int.emod_lt_of_pos _ p42) ?_
    rw [e42, t43]
    decide
end
end K80

namespace K80
open PySem PySem.Spec PyProof.Rows L2 Sb
local macro_rules | `(tactic| walk_at "ex") => `(tactic| first | exact Ex.refl _ | assumption | (refine' Ex.trans ?_ (by assumption); walk_at "ex"))
local macro_rules | `(tactic| walk_at "rp") => `(tactic| first | assumption | (refine' Rp.up ?e (by assumption); (case e => walk_at "ex")) | exact rfl)
local macro_rules | `(tactic| walk_at "rd") => `(tactic| with_reducible first | exact rd_add | exact rd_sub | exact rd_lt | exact rd_le | exact rd_gt | exact rd_ge | exact rd_eqI | exact rd_neI | exact rd_eqS | exact rd_neS | exact rd_isN | exact rd_ltS | exact rd_inSign | exact rd_eqE)
local macro_rules | `(tactic| walk_at "tr") => `(tactic| first
  | with_reducible exact d_int
  | with_reducible exact d_str
  | with_reducible exact d_bl
  | with_reducible exact d_non
  | with_reducible exact a_nil
  | with_reducible exact b_yes
  | with_reducible exact o_none
  | with_reducible exact d_newD
  | ((with_reducible refine' d_var ?i ?r); (case i => rfl); (case r => walk_at "rp"))
  | ((with_reducible refine' a_cons ?a ?b); (case a => walk_at "tr"); (case b => walk_at "tr"))
  | ((with_reducible refine' a_star ?a ?b); (case a => walk_at "tr"); (case b => walk_at "tr"))
  | ((with_reducible refine' d_isi ?a ?b); (case a => walk_at "tr"); (case b => decide))
  | ((with_reducible refine' d_op ?a ?b ?c); (case a => walk_at "tr"); (case b => walk_at "tr"); (case c => walk_at "rd"))
  | ((with_reducible refine' d_tup ?a ?b); (case a => walk_at "tr"); (case b => first | decide | (simp; done)))
  | ((with_reducible refine' d_lst ?a ?b); (case a => walk_at "tr"); (case b => first | decide | (simp; done)))
  | ((with_reducible refine' o_some ?a); (case a => walk_at "tr"))
  | ((with_reducible refine' b_B ?a); (case a => walk_at "tr"))
  | ((with_reducible refine' b_T ?a); (case a => walk_at "tr"))
  | ((with_reducible refine' b_not ?a); (case a => walk_at "tr"))
  | ((with_reducible refine' v_not ?a); (case a => walk_at "tr"))
  | ((with_reducible refine' b_or ?a ?b); (case a => walk_at "tr"); (case b => intro _; walk_at "tr"))
  | ((with_reducible refine' b_and ?a ?b); (case a => walk_at "tr"); (case b => intro _; walk_at "tr"))
  | ((with_reducible refine' v_or ?a ?b); (case a => walk_at "tr"); (case b => intro _; walk_at "tr"))
  | ((with_reducible refine' v_and ?a ?b); (case a => walk_at "tr"); (case b => intro _; walk_at "tr"))
  | assumption)


def tD (ws : List Int) : PyData := .tuple (dInts ws)
def lettS : Str := "0123456789abcdefghijklmnoprstuvwxyz"
def L35 : List Str := lettS.cps.toList.map fun c => ⟨#[c]⟩
theorem L35_sign : Sb.signs lettS = L35.map V.str := by unfold Sb.signs L35; rw [List.map_map]; rfl
theorem L35_len : L35.length = 35 := by decide +kernel
theorem L35_nd : L35.Nodup := by
  have h : (lettS.cps.toList).Nodup := by decide +kernel
  exact h.map _ fun a b hab e => hab (by injection e with e; simpa using e)
theorem L35_nm : ∀ x ∈ L35, isNameS x = true := by
  intro x hx
  obtain ⟨c, hc, rfl⟩ := List.mem_map.mp hx
  have h : ∀ c ∈ lettS.cps.toList, isNameS ⟨#[c]⟩ = true := by decide +kernel
  exact h c hc
theorem shaped_rows (rows : List (List Int)) : SeqAt.shaped (.list (rows.map tD)) = true := by
  have h1 : PyData.canLayAll0 (rows.map tD) = true ∧ PyData.depthAll (rows.map tD) ≤ 1 := by
    induction rows with
    | nil => exact ⟨rfl, Nat.zero_le _⟩
    | cons r rs ih =>
      have z := shaped_ints r
      have z1 := SeqAt.canLay_of_shaped z
      refine ⟨?_, ?_⟩
      · show (PyData.canLay0 (tD r) && PyData.canLayAll0 (rs.map tD)) = true
        rw [ih.1, Bool.and_true]
        exact z1
      · show max (PyData.depth (tD r)) (PyData.depthAll (rs.map tD)) ≤ 1
        have e : PyData.depth (tD r) = 1 := by
          show PyData.depthAll (dInts r) + 1 = 1
          have : ∀ ns : List Int, PyData.depthAll (dInts ns) = 0 := fun ns => by
            induction ns with
            | nil => rfl
            | cons n ns ih =>
              show max (PyData.depth (.int n)) (PyData.depthAll (dInts ns)) = 0
              rw [ih]
              rfl
          rw [this]
        have := ih.2
        omega
  unfold SeqAt.shaped
  show (PyData.canLayAll0 (rows.map tD) && decide (PyData.depthAll (rows.map tD) + 1 ≤ 64)) = true
  rw [h1.1, decide_eq_true (by have := h1.2; omega)]
  rfl
theorem cut_to {ds : List PyData} {k : Nat} (h : k ≤ ds.length) : Sb.cutD ds none (some (k : Int)) = ds.take k := by
  unfold Sb.cutD
  rw [HT.sIx_nat, HT.sIx_none, List.drop_zero, Nat.sub_zero, Nat.min_eq_left h]
theorem cut_from {ds : List PyData} {k : Nat} (h : k ≤ ds.length) : Sb.cutD ds (some (k : Int)) none = ds.drop k := by
  unfold Sb.cutD
  rw [HT.sIx_nat, HT.sIx_none, Nat.min_eq_left h]
  exact List.take_of_length_le (by rw [List.length_drop]; exact Nat.le_refl _)
theorem at_dat {ds : List PyData} {k : Nat} (h : k < ds.length) : L2.atI ds (k : Int) = some ds[k] := by
  unfold L2.atI ixN
  have h0 : (0 : Int) ≤ (k : Int) := by omega
  have h1 : (k : Int) < (ds.length : Int) := by omega
  rw [if_pos h0, if_pos h1]
  show ds[(k : Int).toNat]? = _
  rw [Int.toNat_natCast]
  exact List.getElem?_eq_getElem h
theorem er_map {α β : Type} (f : α → β) (l : List α) (k : Nat) : (l.map f).eraseIdx k = (l.eraseIdx k).map f := by
  rw [List.eraseIdx_eq_take_drop_succ, List.eraseIdx_eq_take_drop_succ, List.map_append, List.map_take, List.map_drop]
theorem four_at {a b c d : PyData} {i : Int} (h0 : 0 ≤ i) (h1 : i ≤ 3) : ∃ e, L2.atI [a, b, c, d] i = some e ∧ (e = a ∨ e = b ∨ e = c ∨ e = d) := by
  have : i = 0 ∨ i = 1 ∨ i = 2 ∨ i = 3 := by omega
  rcases this with rfl | rfl | rfl | rfl
  · exact ⟨a, rfl, .inl rfl⟩
  · exact ⟨b, rfl, .inr (.inl rfl)⟩
  · exact ⟨c, rfl, .inr (.inr (.inl rfl))⟩
  · exact ⟨d, rfl, .inr (.inr (.inr rfl))⟩
theorem three_at {a b c : PyData} {i : Int} (h0 : 0 ≤ i) (h1 : i ≤ 2) : ∃ e, L2.atI [a, b, c] i = some e ∧ (e = a ∨ e = b ∨ e = c) := by
  have : i = 0 ∨ i = 1 ∨ i = 2 := by omega
  rcases this with rfl | rfl | rfl
  · exact ⟨a, rfl, .inl rfl⟩
  · exact ⟨b, rfl, .inr (.inl rfl)⟩
  · exact ⟨c, rfl, .inr (.inr rfl)⟩
theorem okW.app {a b c d : Nat} {xs ys : List Int} (h : okW a b xs) (k : okW c d ys) : okW (a + c) (b + d) (xs ++ ys) := by
  refine ⟨?_, ?_, fun n hn => ?_⟩
  · rw [List.length_append]; have := h.1; have := k.1; omega
  · rw [List.length_append]; have := h.2.1; have := k.2.1; omega
  · rcases List.mem_append.mp hn with z | z
    · exact h.2.2 n z
    · exact k.2.2 n z
/-- a row, one of its widths another -/
theorem okW.edit {a b : Nat} {xs : List Int} {k : Nat} {z : Int} (h : okW a b xs) (hk : k < xs.length) (h1 : 1 ≤ z) (h4 : z ≤ 4) : okW a b (xs.take k ++ [z] ++ xs.drop (k + 1)) := by
  refine ⟨?_, ?_, fun n hn => ?_⟩
  · have := h.1
    simp only [List.length_append, List.length_take, List.length_drop, List.length_singleton]
    omega
  · have := h.2.1
    simp only [List.length_append, List.length_take, List.length_drop, List.length_singleton]
    omega
  · rcases List.mem_append.mp hn with z' | z'
    · rcases List.mem_append.mp z' with z' | z'
      · exact h.2.2 n (List.mem_of_mem_take z')
      · rw [List.mem_singleton.mp z']; omega
    · exact h.2.2 n (List.mem_of_mem_drop z')
def ch1 : List (List Int) := [[2, 1], [1, 2], [3, 2], [2, 3]]
def ch2 : List (List Int) := [[3, 2, 1], [1, 2, 3], [4, 3, 2], [2, 3, 4]]
def ch3 : List (List Int) := [[3, 2], [1, 1, 2, 3], [4, 3, 2], [2, 3, 4]]
def ch4 : List (List Int) := [[1], [2, 1], [1, 1], [2]]
def IsCh (d : PyData) : Prop := ∃ ch : List (List Int), d = .list (ch.map tD) ∧ ch.length = 4 ∧ ∀ x ∈ ch, okW 1 4 x
instance (lo hi : Nat) (ns : List Int) : Decidable (okW lo hi ns) := by unfold okW; infer_instance
section
variable {P : Program} {w : World} {K : PySem.W.Frag} {mg : Str → Option Value} {base : Heap}
def R_code : List PyData → Nat → (PyData → Prop) → Prop := fun ds k Φ => ∃ many most : Nat, ds = [.int many, .int most] ∧ 1 ≤ many ∧ many ≤ 10 ∧ 1 ≤ most ∧ most ≤ 6 ∧ k = 1000 ∧ Φ = fun d => ∃ c : CodeD, d = c.d ∧ c.ok
abbrev slC (r pl pr : Addr) (v1 v2 v5 v6 v7 v8 v9 : V) (a10 a11 a12 a13 a14 a15 : Option V) : L2.St := [some (.ref r), some v1, some v2, some (.ref pl), some (.ref pr), some v5, some v6, some v7, some v8, some v9, a10, a11, a12, a13, a14, a15]
theorem widths_call {r : Addr} {M0 : Hp} {σ : L2.St} {G : Hp} {n : Nat} {ta tb : TE} {lo hi : Nat} {E : XK} (hi' : σ[0]? = some (some (.ref r))) (ha : TrD K ta σ G (.int lo)) (hb : TrD K tb σ G (.int hi)) (h0 : lo ≤ hi) (h1 : hi ≤ 100) (hm : n + (hi + 1) ≤ 1000000) : TrE K r M0 (tCall (ESp K R_widths) [] E (tCons (tVar 0) (tCons ta (tCons tb tNil)))) σ G n (n + (hi + 1)) (IsW lo hi) :=
  e_call (Ψ := fun ds => ds = [.int lo, .int hi]) hi' (ea_A (a_cons ha (a_cons hb a_nil)) rfl) (fun ds h => ⟨lo, hi, h, h0, h1, rfl, rfl⟩) hm
theorem F__law_code (T : Tx K mg) : Fd P w K mg base CX0 3 "_law_code" (ESp K R_code) [] := by
  obtain ⟨fd, F⟩ := T.f__law_code
  refine ⟨_, fd, ["reel", "many", "most"], [], T.g__law_code, F.kp, F.bindsN fun _ _ _ _ _ _ us hl => match us, hl with | [_, _, _], _ => rfl, .nil, ?_⟩
  refine fnG_of F sc__law_code (fun vs H Q E h => ESp.len (n := 2) (by rintro _ _ _ ⟨d, e, rfl, _⟩; rfl) h) (fun cdv A outer s H vs Q E hg hr h => ?_)
  obtain ⟨r, ws, G, M, n, k, ds, Φ, rfl, hA, hRL, hws, ⟨many, most, rfl, hm0, hm1, hs0, hs1, rfl, rfl⟩, hn, q⟩ := h
  obtain ⟨v1, _, rfl, r1, v2, _, rfl, r2, rfl⟩ := hws
  refine ⟨_, PSs.nox (pss_cons (ps_par (i := 3) (j := 4) (by rfl) sc__law_code.nd rfl rfl (by decide) rfl rfl (pa_cons (pe_callTy (call_listS rfl) (by rfl) T.n_list (by decide +kernel) (pa_cons pe_str pa_nil)) (pa_cons (pe_lst pa_nil) pa_nil)) (by rfl))
    (pss_cons (ps_par (i := 5) (j := 6) (by rfl) sc__law_code.nd rfl rfl (by decide) rfl rfl (pa_cons (pe_fd (F__law_spin (P := P) (w := w) (base := base) T) hg (hr.mono (by decide)) pass0 (pa_cons (pv 0) (pa_cons pe_int pa_nil))) (pa_cons (pe_op op_add pe_int (pe_fd (F__law_spin (P := P) (w := w) (base := base) T) hg (hr.mono (by decide)) pass0 (pa_cons (pv 0) (pa_cons (pv 2) pa_nil)))) pa_nil)) (by rfl))
    (pss_cons (ps_set (i := 7) sc__law_code.nd rfl (by first | exact Or.inl rfl | exact Or.inr rfl) (pe_lst (pa_cons (pe_lst (pa_cons (pe_tup (pa_cons pe_int (pa_cons pe_int pa_nil))) (pa_cons (pe_tup (pa_cons pe_int (pa_cons pe_int pa_nil))) (pa_cons (pe_tup (pa_cons pe_int (pa_cons pe_int pa_nil))) (pa_cons (pe_tup (pa_cons pe_int (pa_cons pe_int pa_nil))) pa_nil))))) (pa_cons (pe_lst (pa_cons (pe_tup (pa_cons pe_int (pa_cons pe_int (pa_cons pe_int pa_nil)))) (pa_cons (pe_tup (pa_cons pe_int (pa_cons pe_int (pa_cons pe_int pa_nil)))) (pa_cons (pe_tup (pa_cons pe_int (pa_cons pe_int (pa_cons pe_int pa_nil)))) (pa_cons (pe_tup (pa_cons pe_int (pa_cons pe_int (pa_cons pe_int pa_nil)))) pa_nil))))) pa_nil))))
    (pss_cons (ps_set (i := 7) sc__law_code.nd rfl (by first | exact Or.inl rfl | exact Or.inr rfl) (pe_op op_cat (pv 7) (pe_lst (pa_cons (pe_lst (pa_cons (pe_tup (pa_cons pe_int (pa_cons pe_int pa_nil))) (pa_cons (pe_tup (pa_cons pe_int (pa_cons pe_int (pa_cons pe_int (pa_cons pe_int pa_nil))))) (pa_cons (pe_tup (pa_cons pe_int (pa_cons pe_int (pa_cons pe_int pa_nil)))) (pa_cons (pe_tup (pa_cons pe_int (pa_cons pe_int (pa_cons pe_int pa_nil)))) pa_nil))))) (pa_cons (pe_lst (pa_cons (pe_tup (pa_cons pe_int pa_nil)) (pa_cons (pe_tup (pa_cons pe_int (pa_cons pe_int pa_nil))) (pa_cons (pe_tup (pa_cons pe_int (pa_cons pe_int pa_nil))) (pa_cons (pe_tup (pa_cons pe_int pa_nil)) pa_nil))))) pa_nil)))))
    (pss_cons (ps_par (i := 8) (j := 9) (by rfl) sc__law_code.nd rfl rfl (by decide) rfl rfl (pa_cons (pe_ix ix_list (pv 7) (pe_fd (F__law_spin (P := P) (w := w) (base := base) T) hg (hr.mono (by decide)) pass0 (pa_cons (pv 0) (pa_cons pe_int pa_nil))) (fun _ _ => rfl)) (pa_cons (pe_lc (own := [("turn", 10)]) (g := gName 10) (by rfl) sc__law_code.nd (pi_range1 (by rfl) T.n_range (pa_cons pe_int pa_nil)) (blkOk_by (own := [("turn", 10)]) (N := ["reel", "many", "most", "letters", "rows", "way", "same", "chains", "chain", "ends", "turn", "row", "at", "width", "some", "between"]) (sc := defScope s__law_code) (by decide +kernel)) (fun _ _ _ _ _ => (pg_name (i := 10) sc__law_code.nd rfl (by first | exact Or.inl rfl | exact Or.inr rfl))) (fun _ _ _ _ _ => pts_nil) (fun _ _ _ _ _ => (pe_fd (F__law_widths (P := P) (w := w) (base := base) T) hg (hr.mono (by decide)) pass0 (pa_cons (pv 0) (pa_cons pe_int (pa_cons pe_int pa_nil)))))) pa_nil)) (by rfl))
    (pss_cons (ps_for PassesOwn.never rfl (pi_range1 (by rfl) T.n_range (pa_cons (pv 1) pa_nil)) (pg_name (i := 10) sc__law_code.nd rfl (by first | exact Or.inl rfl | exact Or.inr rfl)) (pss_cons (ps_set (i := 11) sc__law_code.nd rfl (by first | exact Or.inl rfl | exact Or.inr rfl) (pe_ifExp (pt_cmpR op_eq (pv 5) pe_int (nomark _)) (pe_fd (F__law_widths (P := P) (w := w) (base := base) T) hg (hr.mono (by decide)) pass0 (pa_cons (pv 0) (pa_cons (pv 6) (pa_cons (pv 6) pa_nil)))) (pe_fd (F__law_widths (P := P) (w := w) (base := base) T) hg (hr.mono (by decide)) pass0 (pa_cons (pv 0) (pa_cons pe_int (pa_cons (pv 2) pa_nil)))))) (pss_cons (ps_if (PW.pt (pw_and (pt_cmpR op_eq (pv 5) pe_int (nomark _)) (pw_and1 (pt_cmpR (op_neR hr.units) (pv 4) (pe_lst pa_nil) (nomark _))))) (pss_cons (ps_set (i := 11) sc__law_code.nd rfl (by first | exact Or.inl rfl | exact Or.inr rfl) (pe_ix ix_list (pv 4) (pe_fd (F__law_spin (P := P) (w := w) (base := base) T) hg (hr.mono (by decide)) pass0 (pa_cons (pv 0) (pa_cons (pe_callB call_len' (by rfl) T.n_len (by decide +kernel) (pa_cons (pv 4) pa_nil)) pa_nil))) (fun _ _ => rfl))) (pss_cons (ps_set (i := 12) sc__law_code.nd rfl (by first | exact Or.inl rfl | exact Or.inr rfl) (pe_fd (F__law_spin (P := P) (w := w) (base := base) T) hg (hr.mono (by decide)) pass0 (pa_cons (pv 0) (pa_cons (pe_callB call_len' (by rfl) T.n_len (by decide +kernel) (pa_cons (pv 11) pa_nil)) pa_nil)))) (pss_cons (ps_set (i := 13) sc__law_code.nd rfl (by first | exact Or.inl rfl | exact Or.inr rfl) (pe_callB (call_max2' rfl) (by rfl) T.n_max (by decide +kernel) (pa_cons pe_int (pa_cons (pe_callB (call_min2' rfl) (by rfl) T.n_min (by decide +kernel) (pa_cons pe_int (pa_cons (pe_op op_add (pe_ix ix_tup (pv 11) (pv 12) (fun _ _ => rfl)) (pe_ix ix_list (pe_lst (pa_cons pe_int (pa_cons (pe_un un_neg pe_int) pa_nil))) (pe_fd (F__law_spin (P := P) (w := w) (base := base) T) hg (hr.mono (by decide)) pass0 (pa_cons (pv 0) (pa_cons pe_int pa_nil))) (fun _ _ => rfl))) pa_nil))) pa_nil)))) (pss_one (ps_set (i := 11) sc__law_code.nd rfl (by first | exact Or.inl rfl | exact Or.inr rfl) (pe_op op_catA (pe_op op_catA (pe_slice sl_tupA (pv 11) po_none (po_some (pv 12))) (pe_tup (pa_cons (pv 13) pa_nil))) (pe_slice sl_tupA (pv 11) (po_some (pe_op op_add (pv 12) pe_int)) po_none))))))) pss_nil) (pss_cons (ps_if (PW.pt (pw_and (pt_cmpR op_gt (pv 5) pe_int (nomark _)) (pw_and1 (pt_cmpR op_lt (pv 10) pe_int (nomark _))))) (pss_one (ps_set (i := 11) sc__law_code.nd rfl (by first | exact Or.inl rfl | exact Or.inr rfl) (pe_ix ix_list (pv 8) (pv 10) (fun _ _ => rfl)))) pss_nil) (pss_cons (ps_if (PW.pt (pw_and (pt_cmpR op_eq (pv 5) pe_int (nomark _)) (pw_and1 (pt_cmpR op_lt (pv 10) pe_int (nomark _))))) (pss_one (ps_set (i := 11) sc__law_code.nd rfl (by first | exact Or.inl rfl | exact Or.inr rfl) (pe_ix ix_list (pe_lst (pa_cons (pe_op op_catA (pe_ix ix_list (pv 9) pe_int (fun _ _ => rfl)) (pv 11)) (pa_cons (pe_op op_catA (pv 11) (pe_ix ix_list (pv 9) pe_int (fun _ _ => rfl))) pa_nil))) (pe_op op_mod (pe_callTy call_int1' (by rfl) T.n_int (by decide +kernel) (pa_cons (pv 10) pa_nil)) pe_int) (fun _ _ => rfl)))) pss_nil) (pss_one (ps_expr (pe_bm PySem.F.plainAttrs_list PySem.F.slot_list_append PySem.F.type_list_append mt_append (pv 4) (pa_cons (pv 11) pa_nil)))))))))
    (pss_cons (ps_set (i := 14) sc__law_code.nd rfl (by first | exact Or.inl rfl | exact Or.inr rfl) pe_dnewK)
    (pss_cons (ps_while PassesOwn.never (pt_cmpR (op_neR hr.units) (pv 4) (pe_lst pa_nil) (nomark _)) (pss_one (ps_dput (hu_of hr) (pv 14) (pe_bm PySem.F.plainAttrs_list PySem.F.slot_list_pop PySem.F.type_list_pop mt_popAt (pv 3) (pa_cons (pe_fd (F__law_spin (P := P) (w := w) (base := base) T) hg (hr.mono (by decide)) pass0 (pa_cons (pv 0) (pa_cons (pe_callB call_len' (by rfl) T.n_len (by decide +kernel) (pa_cons (pv 3) pa_nil)) pa_nil))) pa_nil)) (pe_bm PySem.F.plainAttrs_list PySem.F.slot_list_pop PySem.F.type_list_pop mt_popAt (pv 4) (pa_cons (pe_fd (F__law_spin (P := P) (w := w) (base := base) T) hg (hr.mono (by decide)) pass0 (pa_cons (pv 0) (pa_cons (pe_callB call_len' (by rfl) T.n_len (by decide +kernel) (pa_cons (pv 4) pa_nil)) pa_nil))) pa_nil)) rfl)))
    (pss_cons (ps_set (i := 15) sc__law_code.nd rfl (by first | exact Or.inl rfl | exact Or.inr rfl) (pe_ix ix_list (pe_lst (pa_cons (pe_tup pa_nil) (pa_cons (pe_tup pa_nil) (pa_cons (pe_fd (F__law_widths (P := P) (w := w) (base := base) T) hg (hr.mono (by decide)) pass0 (pa_cons (pv 0) (pa_cons pe_int (pa_cons pe_int pa_nil)))) pa_nil)))) (pe_fd (F__law_spin (P := P) (w := w) (base := base) T) hg (hr.mono (by decide)) pass0 (pa_cons (pv 0) (pa_cons pe_int pa_nil))) (fun _ _ => rfl)))
    (pss_one (ps_ret (pe_tup (pa_cons (pe_fd (F__law_widths (P := P) (w := w) (base := base) T) hg (hr.mono (by decide)) pass0 (pa_cons (pv 0) (pa_cons pe_int (pa_cons pe_int pa_nil)))) (pa_cons (pv 14) (pa_cons (pv 15) (pa_cons (pe_fd (F__law_widths (P := P) (w := w) (base := base) T) hg (hr.mono (by decide)) pass0 (pa_cons (pv 0) (pa_cons pe_int (pa_cons pe_int pa_nil)))) pa_nil)))))))))))))))), ?_⟩
  rw [show L2.start ["reel", "many", "most", "letters", "rows", "way", "same", "chains", "chain", "ends", "turn", "row", "at", "width", "some", "between"] [(.ref r), v1, v2] = [some (.ref r), some v1, some v2, none, none, none, none, none, none, none, none, none, none, none, none, none] from rfl]
  dsimp only [xK]
  -- letters, rows
  refine ⟨lettS, rfl, by decide +kernel, fun pl hpl => ⟨show (0 : Nat) ≤ sizeLine from Nat.zero_le _, fun pr hpr => ⟨_, _, rfl, ?_⟩⟩⟩
  rw [L35_sign] at hpr ⊢
  have Mpl := hA.mNone hpl
  have A1 := hA.nm (o := .lst (L35.map V.str)) hpl
  have Mpr' := A1.mNone hpr
  have hne : pr ≠ pl := fun z => by rw [z, upd_same] at hpr; cases hpr
  have Mpr : M pr = none := by rw [upd_ne hne] at Mpr'; exact Mpr'
  have A2 := A1.nm (o := .lst []) hpr
  have nl : pl ≠ r := hRL.ne Mpl
  have nr : pr ≠ r := hRL.ne Mpr
  have RL2 := (hRL.upd (o := .lst (L35.map V.str)) nl).upd (o := .lst []) nr
  -- way, same
  refine q_parE (n := n) (n' := n + 2) (Ψ := fun ds => ∃ w s : Int, ds = [.int w, .int s] ∧ 0 ≤ w ∧ w ≤ 4 ∧ 1 ≤ s ∧ s ≤ most) (ea_cons (spin_c rfl (by decide) (by decide) (by omega)) fun d hd => ea_cons (e_op (Φ1 := fun d => d = .int 1) (Φ2 := RI 0 (most - 1)) (Φ := RI 1 most) (e_D d_int rfl) (fun _ _ => spin_call rfl (e_D (d_var rfl (r2.up (Ex.refl G))) ⟨_, rfl, by omega, by omega, fun _ h => h⟩) (by omega)) ?_) fun d2 hd2 => ea_nil ?_) ?_ A2 .refl RL2 fun ds v5 v6 G3 M3 H3 e3 A3 S3 R3 hds rvs => ?_
  · rintro _ _ rfl ⟨i, rfl, h0, h1⟩
    exact ⟨_, rd_add, _, rfl, by omega, by omega⟩
  · obtain ⟨i, rfl, h0, h1⟩ := hd
    obtain ⟨j, rfl, h2, h3⟩ := hd2
    exact ⟨i, j, rfl, h0, by omega, h2, h3⟩
  · rintro _ ⟨_, _, rfl, _⟩
    rfl
  obtain ⟨way, same, rfl, w0, w4, s0, s1⟩ := hds
  obtain ⟨_, _, rr1, r5, _, _, rr2, r6, _⟩ := rvs
  cases rr1
  cases rr2
  -- chains
  refine q_set (K := K) (d := .list [.list [.tuple [.int 2, .int 1], .tuple [.int 1, .int 2], .tuple [.int 3, .int 2], .tuple [.int 2, .int 3]], .list [.tuple [.int 3, .int 2, .int 1], .tuple [.int 1, .int 2, .int 3], .tuple [.int 4, .int 3, .int 2], .tuple [.int 2, .int 3, .int 4]]]) (d_lst (a_cons (d_lst (a_cons (d_tup (a_cons d_int (a_cons d_int a_nil)) (Nat.le_of_ble_eq_true rfl)) (a_cons (d_tup (a_cons d_int (a_cons d_int a_nil)) (Nat.le_of_ble_eq_true rfl)) (a_cons (d_tup (a_cons d_int (a_cons d_int a_nil)) (Nat.le_of_ble_eq_true rfl)) (a_cons (d_tup (a_cons d_int (a_cons d_int a_nil)) (Nat.le_of_ble_eq_true rfl)) a_nil)))) (Nat.le_of_ble_eq_true rfl)) (a_cons (d_lst (a_cons (d_tup (a_cons d_int (a_cons d_int (a_cons d_int a_nil))) (Nat.le_of_ble_eq_true rfl)) (a_cons (d_tup (a_cons d_int (a_cons d_int (a_cons d_int a_nil))) (Nat.le_of_ble_eq_true rfl)) (a_cons (d_tup (a_cons d_int (a_cons d_int (a_cons d_int a_nil))) (Nat.le_of_ble_eq_true rfl)) (a_cons (d_tup (a_cons d_int (a_cons d_int (a_cons d_int a_nil))) (Nat.le_of_ble_eq_true rfl)) a_nil)))) (Nat.le_of_ble_eq_true rfl)) a_nil)) (Nat.le_of_ble_eq_true rfl)) A3 fun v7 G4 H4 e4 A4 r7 => ?_
  refine q_set (K := K) (d := .list [.list (ch1.map tD), .list (ch2.map tD), .list (ch3.map tD), .list (ch4.map tD)]) (d_op (d_var rfl r7) (d2 := .list [.list [.tuple [.int 3, .int 2], .tuple [.int 1, .int 1, .int 2, .int 3], .tuple [.int 4, .int 3, .int 2], .tuple [.int 2, .int 3, .int 4]], .list [.tuple [.int 1], .tuple [.int 2, .int 1], .tuple [.int 1, .int 1], .tuple [.int 2]]]) (d_lst (a_cons (d_lst (a_cons (d_tup (a_cons d_int (a_cons d_int a_nil)) (Nat.le_of_ble_eq_true rfl)) (a_cons (d_tup (a_cons d_int (a_cons d_int (a_cons d_int (a_cons d_int a_nil)))) (Nat.le_of_ble_eq_true rfl)) (a_cons (d_tup (a_cons d_int (a_cons d_int (a_cons d_int a_nil))) (Nat.le_of_ble_eq_true rfl)) (a_cons (d_tup (a_cons d_int (a_cons d_int (a_cons d_int a_nil))) (Nat.le_of_ble_eq_true rfl)) a_nil)))) (Nat.le_of_ble_eq_true rfl)) (a_cons (d_lst (a_cons (d_tup (a_cons d_int a_nil) (Nat.le_of_ble_eq_true rfl)) (a_cons (d_tup (a_cons d_int (a_cons d_int a_nil)) (Nat.le_of_ble_eq_true rfl)) (a_cons (d_tup (a_cons d_int (a_cons d_int a_nil)) (Nat.le_of_ble_eq_true rfl)) (a_cons (d_tup (a_cons d_int a_nil) (Nat.le_of_ble_eq_true rfl)) a_nil)))) (Nat.le_of_ble_eq_true rfl)) a_nil)) (Nat.le_of_ble_eq_true rfl)) (rd_cat (Nat.le_of_ble_eq_true rfl))) A4 fun v7 G5 H5 e5 A5 r7 => ?_
  -- chain, ends
  have E05 : Ex G G5 := (e3.trans e4).trans e5
  refine q_parE (n' := n + 2 + 1 + 2 * 3) (Ψ := fun ds => ∃ d e0 e1, ds = [d, .list [tD e0, tD e1]] ∧ IsCh d ∧ okW 1 2 e0 ∧ okW 1 2 e1) (ea_cons (e_op (Φ1 := fun d => d = .list [.list (ch1.map tD), .list (ch2.map tD), .list (ch3.map tD), .list (ch4.map tD)]) (Φ2 := RI 0 3) (Φ := IsCh) (e_D (d_var rfl r7) rfl) (fun _ _ => spin_c rfl (by decide) (by decide) (by omega)) ?_) fun d hd => ea_cons (e_lcR (c := 2) (step := 3) (Φ0 := fun z => z = 2) (Φ1 := IsW 1 2) (Φ := fun d => ∃ e0 e1, d = .list [tD e0, tD e1] ∧ okW 1 2 e0 ∧ okW 1 2 e1) (e_D d_int ⟨2, rfl, rfl, by decide, by decide⟩) (by decide) (fun M1 x t ht => widths_call rfl d_int d_int (by decide) (by decide) (by omega)) ?_) fun d2 hd2 => ea_nil ?_) ?_ A5 S3 R3 fun ds v8 v9 G6 M6 H6 e6 A6 S6 R6 hds rvs => ?_
  · rintro _ _ rfl ⟨i, rfl, h0, h1⟩
    obtain ⟨e, he, hc⟩ := four_at (a := .list (ch1.map tD)) (b := .list (ch2.map tD)) (c := .list (ch3.map tD)) (d := .list (ch4.map tD)) h0 h1
    refine ⟨e, rd_ixL he, ?_⟩
    rcases hc with rfl | rfl | rfl | rfl
    · exact ⟨ch1, rfl, rfl, by decide⟩
    · exact ⟨ch2, rfl, rfl, by decide⟩
    · exact ⟨ch3, rfl, rfl, by decide⟩
    · exact ⟨ch4, rfl, rfl, by decide⟩
  · rintro z ds rfl hl hall
    match ds, hl, hall with
    | [a, b], _, hall =>
      obtain ⟨e0, rfl, k0⟩ := hall a (by simp)
      obtain ⟨e1, rfl, k1⟩ := hall b (by simp)
      exact ⟨e0, e1, rfl, k0, k1⟩
    | [], hl, _ => cases hl
    | [a], hl, _ => simp at hl
    | a :: b :: c :: r, hl, _ => simp at hl; omega
  · obtain ⟨e0, e1, rfl, k0, k1⟩ := hd2
    exact ⟨d, e0, e1, rfl, hd, k0, k1⟩
  · rintro _ ⟨_, _, _, rfl, _⟩
    rfl
  obtain ⟨_, e0, e1, rfl, ⟨chn, rfl, hch4, hchok⟩, k0, k1⟩ := hds
  obtain ⟨_, _, rr1, r8, _, _, rr2, r9, _⟩ := rvs
  cases rr1
  cases rr2
  obtain ⟨sm, rfl⟩ := Int.eq_ofNat_of_zero_le (show 0 ≤ same by omega)
  have E06 := E05.trans e6
  have E36 : Ex G3 G6 := (e4.trans e5).trans e6
  refine s_seq (s_forRI (n := many) (fun k σ G' M' => ∃ (xs : List V) (rows : List (List Int)) (a10 a11 a12 a13 : Option V), σ = slC r pl pr v1 v2 v5 v6 v7 v8 v9 a10 a11 a12 a13 none none ∧ Same r (upd (upd M pl (.lst (L35.map V.str))) pr (.lst xs)) M' ∧ RL r (n + 9 + k * 20) M' ∧ RpL K G' (rows.map tD) xs ∧ rows.length = k ∧ ∀ x ∈ rows, okW 1 6 x) (d_var rfl (r1.up E06)) (by omega) (by omega) A6
    ?_ ⟨[], [], none, none, none, none, rfl, S6, R6.le (by omega), rfl, rfl, fun _ h => by cases h⟩ (fun k hk σ1 G1 M1 H1 eL AL hI Nx hN => ?_) fun σ1 G1 M1 H1 eL AL hI => ?_)
  · rintro k σ1 Ga Gb M1 e ⟨xs, rows, a10, a11, a12, a13, h1, h2, h3, h4, h5⟩
    exact ⟨xs, rows, a10, a11, a12, a13, h1, h2, h3, h4.up e, h5⟩
  · obtain ⟨xs, rows, a10, a11, a12, a13, rfl, SL, RL', rx, hrl, hrows⟩ := hI
    have hkm : k < many := by omega
    have hxl : xs.length = k := by rw [rx.len, List.length_map, hrl]
    have p5 : Rp K G1 (.int way) v5 := r5.up (E36.trans eL)
    have p6 : Rp K G1 (.int ((sm : Nat) : Int)) v6 := r6.up (E36.trans eL)
    have p2 : Rp K G1 (.int ((most : Nat) : Int)) v2 := r2.up (E06.trans eL)
    have p8 : Rp K G1 (.list (chn.map tD)) v8 := r8.up eL
    have p9 : Rp K G1 (.list [tD e0, tD e1]) v9 := r9.up eL
    refine q_setE (Φ := IsW 1 6) (n' := n + 9 + k * 20 + 7) (e_if (b := decide (way = 0)) (b_T (d_op (d_var rfl p5) d_int rd_eqI)) (fun _ => ((widths_call (lo := sm) (hi := sm) rfl (d_var rfl p6) (d_var rfl p6) (Nat.le_refl _) (by omega) (by omega)).le (by omega)).imp fun d hd => ?_) fun _ => ((widths_call (lo := 1) (hi := most) rfl d_int (d_var rfl p2) (by omega) (by omega) (by omega)).le (by omega)).imp fun d hd => ?_) AL SL RL' fun d v11 G2 M2 H2 e2 A2 S2 R2 hd rv => ?_
    · obtain ⟨ws, rfl, ok⟩ := hd
      exact ⟨ws, rfl, ok.le (by omega) (by omega)⟩
    · obtain ⟨ws, rfl, ok⟩ := hd
      exact ⟨ws, rfl, ok.le (by omega) (by omega)⟩
    obtain ⟨row, rfl, hrow⟩ := hd
    -- a row before, one of its widths another
    refine q_cut (fun σ' H' => ∃ (G' M' : Hp) (a12 a13 : Option V) (v11 : V) (row : List Int), Ex G1 G' ∧ At G' M' H' ∧ Same r (upd (upd M pl (.lst (L35.map V.str))) pr (.lst xs)) M' ∧ RL r (n + 9 + k * 20 + 15) M' ∧ Rp K G' (tD row) v11 ∧ okW 1 6 row ∧ σ' = slC r pl pr v1 v2 v5 v6 v7 v8 v9 (some (.int k)) (some v11) a12 a13 none none) ?_ fun hkk => ?_
    rotate_left
    · have hM2 : M2 pr = some (.lst xs) := (S2 pr nr).trans upd_same
      have hGp : G2 pr = none := A2.d _ _ hM2
      rw [← cut_eq hM2] at A2
      have eU : Ex G2 (upd G2 pr (.lst xs)) := Ex.new hGp
      refine s_iffz (b := decide (way = 2) && !rows.isEmpty) (b_and (b_T (d_op (d_var rfl (p5.up (e2.trans eU))) d_int rd_eqI)) fun _ => TrB.to (b_T (d_op (d_var rfl (d := .list (rows.map tD)) ⟨pr, xs, rfl, upd_same, rx.up (e2.trans eU)⟩) (d_lst a_nil) (rd_neR (shaped_rows rows) rfl))) (by rw [eqv_nil]; cases rows <;> rfl)) hGp cut_none A2 (fun hb Gb Hb eb Ab => ?_) fun hb Gb Hb eb Ab => ?_
      · rw [cut_eq hM2] at Ab
        have hr0 : 0 < rows.length := by
          cases rows with
          | nil => simp at hb
          | cons _ _ => exact Nat.succ_pos _
        refine q_setE (Φ := IsW 1 6) (e_ixM (i := 4) (p := pr) (Φ1 := RI 0 (xs.length - 1)) rfl upd_same nr (rx.up (e2.trans eb)) (spin_call rfl (e_len rfl upd_same nr ⟨_, rfl, by omega, by omega, fun _ h => h⟩) (by omega)) (fun d hd => ?_)) Ab S2 R2 fun d v11 G3' M3' H3' e3' A3' S3' R3' hd rv => ?_
        · obtain ⟨i, rfl, h0, h1⟩ := hd
          obtain ⟨iN, rfl⟩ := Int.eq_ofNat_of_zero_le h0
          have hi : iN < (rows.map tD).length := by rw [List.length_map]; omega
          have hi2 : iN < rows.length := by omega
          refine ⟨iN, _, rfl, at_dat hi, rows[iN], ?_, hrows _ (List.getElem_mem hi2)⟩
          rw [List.getElem_map]
          rfl
        obtain ⟨row2, rfl, hrow2⟩ := hd
        have hl1 := hrow2.1
        have hl2 := hrow2.2.1
        refine q_setE (Φ := RI 0 (row2.length - 1)) (spin_call rfl (e_D (d_cb (a_cons (d_var rfl rv) a_nil) rc_lenT) ⟨_, rfl, by rw [dInts_len]; omega, by rw [dInts_len]; omega, fun d h => by rw [dInts_len] at h; exact h⟩) (by omega)) A3' S3' R3' fun d v12 G4' M4' H4' e4' A4' S4' R4' hd rv12 => ?_
        obtain ⟨ai, rfl, h0, h1⟩ := hd
        obtain ⟨aN, rfl⟩ := Int.eq_ofNat_of_zero_le h0
        have haN : aN < row2.length := by omega
        have hat : L2.atI (dInts row2) (aN : Int) = some (.int row2[aN]) := by
          rw [at_dat (by rw [dInts_len]; exact haN)]
          congr 1
          unfold dInts
          rw [List.getElem_map]
        have hneg : TrD K (tLst (tCons (tC (V.int 1)) (tCons (tUn (rU fun i => V.int (-i)) (tC (V.int 1))) tNil))) (slC r pl pr v1 v2 v5 v6 v7 v8 v9 (some (.int k)) (some v11) (some v12) a13 none none) G4' (.list [.int 1, .int (-1)]) :=
          d_lst (a_cons d_int (a_cons (d_un (d1 := .int 1) d_int (fun G M H x A h Q q => ⟨1, h, q.here A rfl⟩)) a_nil))
        refine q_setE (Φ := RI 1 4) (n' := n + 9 + k * 20 + 7 + 1 + 1 + 1) (e_cb (Ψ := fun ds => ∃ z : Int, ds = [.int 1, .int z] ∧ z ≤ 4) (ea_cons (Φ := fun d => d = .int 1) (e_D d_int rfl) fun d hd => ea_cons (Φ := fun d => ∃ z : Int, d = .int z ∧ z ≤ 4) (e_cb (Ψ := fun ds => ∃ z : Int, ds = [.int 4, .int z]) (ea_cons (Φ := fun d => d = .int 4) (e_D d_int rfl) fun d hd => ea_cons (Φ := fun d => ∃ z : Int, d = .int z)
            (e_op (Φ1 := fun d => d = .int row2[aN]) (Φ2 := fun d => ∃ z : Int, d = .int z) (e_D (d_op (d_var rfl (rv.up e4')) (d_var rfl rv12) (rd_ixT hat)) rfl) (fun _ _ => e_op (Φ1 := fun d => d = .list [.int 1, .int (-1)]) (Φ2 := RI 0 1) (e_D hneg rfl) (fun _ _ => spin_c rfl (by decide) (by decide) (by omega)) ?_) ?_) fun d2 hd2 => ea_nil ?_) ?_) fun d2 hd2 => ea_nil ?_) ?_) A4' S4' R4' fun d v13 G5' M5' H5' e5' A5' S5' R5' hd rv13 => ?_
        · rintro _ _ rfl ⟨i, rfl, h0, h1⟩
          have : i = 0 ∨ i = 1 := by omega
          rcases this with rfl | rfl
          · exact ⟨.int 1, rd_ixL rfl, 1, rfl⟩
          · exact ⟨.int (-1), rd_ixL rfl, -1, rfl⟩
        · rintro _ _ rfl ⟨z, rfl⟩
          exact ⟨_, rd_add, _, rfl⟩
        · obtain ⟨z, rfl⟩ := hd2
          subst hd
          exact ⟨z, rfl⟩
        · rintro _ ⟨z, rfl⟩
          exact ⟨_, rc_min2, _, rfl, by split <;> omega⟩
        · obtain ⟨z, rfl, hz⟩ := hd2
          subst hd
          exact ⟨z, rfl, hz⟩
        · rintro _ ⟨z, rfl, hz⟩
          exact ⟨_, rc_max2, _, rfl, by split <;> omega, by split <;> omega⟩
        obtain ⟨wz, rfl, hw1, hw4⟩ := hd
        refine s_set (d := tD (row2.take aN ++ [wz] ++ row2.drop (aN + 1))) (TrD.to (d_op (d_op (d_slA (d_var rfl (rv.up (e4'.trans e5'))) o_none (o_some (d_var rfl (rv12.up e5')))) (d_tup (a_cons (d_var rfl rv13) a_nil) (Nat.le_of_ble_eq_true rfl)) (rd_catA ?_)) (d_slA (d_var rfl (rv.up (e4'.trans e5'))) (o_some (d_op (d_var rfl (rv12.up e5')) d_int rd_add)) o_none) (rd_catA ?_)) ?_) A5' fun v11 G6' H6' e6' A6' rv11 => ?_
        · rw [cut_to (by rw [dInts_len]; omega), List.length_take, dInts_len]
          show _ + 1 ≤ 100000
          omega
        · have e : ((aN : Int) + 1) = ((aN + 1 : Nat) : Int) := by omega
          rw [e, cut_to (by rw [dInts_len]; omega), cut_from (by rw [dInts_len]; omega), List.length_append, List.length_take, List.length_drop, dInts_len]
          show _ + 1 + _ ≤ 100000
          omega
        · have e : ((aN : Int) + 1) = ((aN + 1 : Nat) : Int) := by omega
          rw [e, cut_to (by rw [dInts_len]; omega), cut_from (by rw [dInts_len]; omega)]
          unfold tD dInts
          rw [List.map_append, List.map_append, List.map_take, List.map_drop]
          rfl
        exact hkk _ _ ⟨G6', M5', _, _, v11, _, ((((e2.trans eb).trans e3').trans e4').trans e5').trans e6', A6', S5', R5'.le (by omega), rv11, hrow2.edit haN hw1 hw4, rfl⟩
      · rw [cut_eq hM2] at Ab
        exact s_next (hkk _ _ ⟨Gb, M2, _, _, v11, row, e2.trans eb, Ab, S2, R2.le (by omega), rv.up eb, hrow, rfl⟩)
    rintro _ H3' ⟨G3', M3', b12, b13, v11', row1, e3', A3', S3', R3', rv', hrow1, rfl⟩
    -- a row of the chain
    refine q_cut (fun σ' H' => ∃ (G' : Hp) (v11 : V) (row : List Int), Ex G1 G' ∧ At G' M3' H' ∧ Rp K G' (tD row) v11 ∧ okW 1 6 row ∧ ((way = 4 ∧ k < 4) → okW 1 4 row) ∧ σ' = slC r pl pr v1 v2 v5 v6 v7 v8 v9 (some (.int k)) (some v11) b12 b13 none none) ?_ fun hkk => ?_
    rotate_left
    · refine s_if (b := decide (2 < way) && decide ((k : Int) < 4)) (b_and (b_T (d_op (d_var rfl (p5.up e3')) d_int rd_gt)) fun _ => b_T (d_op (d_var (K := K) rfl (d := .int k) rfl) d_int rd_lt)) A3' (fun hb Gb Hb eb Ab => ?_) fun hb Gb Hb eb Ab => ?_
      · have hb2 := Bool.and_eq_true_iff.mp hb
        have hk4 : k < chn.length := by have := of_decide_eq_true hb2.2; omega
        refine s_set (d := tD chn[k]) (d_op (d_var rfl (p8.up (e3'.trans eb))) (d_var (K := K) rfl (d := .int k) rfl) (rd_ixL ?_)) Ab fun v11 G4' H4' e4' A4' rv11 => ?_
        · rw [at_dat (by rw [List.length_map]; exact hk4), List.getElem_map]
        · have z := hchok _ (List.getElem_mem hk4)
          exact hkk _ _ ⟨G4', v11, chn[k], (e3'.trans eb).trans e4', A4', rv11, z.le (by omega) (by omega), fun _ => z, rfl⟩
      · refine s_next (hkk _ _ ⟨Gb, v11', row1, e3'.trans eb, Ab, rv'.up eb, hrow1, fun ⟨z1, z2⟩ => ?_, rfl⟩)
        rw [z1, decide_eq_true (by omega), decide_eq_true (by omega)] at hb
        cases hb
    rintro _ H4' ⟨G4', v11, row2, e4', A4', rv11, hrow2, hc2, rfl⟩
    -- with an end put to it
    refine q_cut (fun σ' H' => ∃ (G' : Hp) (v11 : V) (row : List Int), Ex G1 G' ∧ At G' M3' H' ∧ Rp K G' (tD row) v11 ∧ okW 1 6 row ∧ σ' = slC r pl pr v1 v2 v5 v6 v7 v8 v9 (some (.int k)) (some v11) b12 b13 none none) ?_ fun hkk => ?_
    rotate_left
    · refine s_if (b := decide (way = 4) && decide ((k : Int) < 4)) (b_and (b_T (d_op (d_var rfl (p5.up e4')) d_int rd_eqI)) fun _ => b_T (d_op (d_var (K := K) rfl (d := .int k) rfl) d_int rd_lt)) A4' (fun hb Gb Hb eb Ab => ?_) fun hb Gb Hb eb Ab => ?_
      · have hb2 := Bool.and_eq_true_iff.mp hb
        have ok4 := hc2 ⟨of_decide_eq_true hb2.1, by have := of_decide_eq_true hb2.2; omega⟩
        have l0 := k0.2.1
        have l1 := k1.2.1
        have l4 := ok4.2.1
        have hsel : ∃ row : List Int, L2.atI [tD (e0 ++ row2), tD (row2 ++ e1)] ((k : Int) % 2) = some (tD row) ∧ okW 1 6 row := by
          have : (k : Int) % 2 = 0 ∨ (k : Int) % 2 = 1 := by omega
          rcases this with h | h <;> rw [h]
          · exact ⟨e0 ++ row2, rfl, (k0.app ok4).le (by omega) (by omega)⟩
          · exact ⟨row2 ++ e1, rfl, (ok4.app k1).le (by omega) (by omega)⟩
        obtain ⟨row3, hat, ok3⟩ := hsel
        have pe : Rp K Gb (.list [tD e0, tD e1]) v9 := p9.up (e4'.trans eb)
        refine s_set (d := tD row3) (d_op (d_lst (ds := [tD (e0 ++ row2), tD (row2 ++ e1)]) (a_cons (TrD.to (d_op (d_op (d_var rfl pe) d_int (rd_ixL (d := tD e0) rfl)) (d_var rfl (rv11.up eb)) (rd_catA (ds := dInts e0) (es := dInts row2) (by rw [dInts_len, dInts_len]; omega))) ?_) (a_cons (TrD.to (d_op (d_var rfl (rv11.up eb)) (d_op (d_var rfl pe) d_int (rd_ixL (d := tD e1) rfl)) (rd_catA (ds := dInts row2) (es := dInts e1) (by rw [dInts_len, dInts_len]; omega))) ?_) a_nil)) (Nat.le_of_ble_eq_true rfl)) (d_op (d_cb (a_cons (d_var (K := K) rfl (d := .int k) rfl) a_nil) rc_int1) d_int (rd_mod (by decide))) (rd_ixL hat)) Ab fun v11 G5' H5' e5' A5' rv5 => ?_
        · unfold tD dInts; rw [List.map_append]
        · unfold tD dInts; rw [List.map_append]
        · exact hkk _ _ ⟨G5', v11, row3, (e4'.trans eb).trans e5', A5', rv5, ok3, rfl⟩
      · exact s_next (hkk _ _ ⟨Gb, v11, row2, e4'.trans eb, Ab, rv11.up eb, hrow2, rfl⟩)
    rintro _ H5' ⟨G5', v11, row3, e5', A5', rv5, hrow3, rfl⟩
    -- the row put to the rows
    have hM3 : M3' pr = some (.lst xs) := (S3' pr nr).trans upd_same
    refine s_append rfl hM3 (d_var rfl rv5) (by omega) A5' fun y G6' H6' e6' A6' ry => ?_
    refine hN _ G6' _ H6' (e5'.trans e6') A6' ⟨xs ++ [y], rows ++ [row3], _, _, _, _, rfl, fun x hx => ?_, (R3'.upd nr).le (by omega), ?_, by rw [List.length_append, hrl]; rfl, fun x hx => ?_⟩
    · by_cases e : x = pr
      · subst e
        rw [upd_same, upd_same]
      · rw [upd_ne e, S3' x hx, upd_ne e, upd_ne e]
    · rw [List.map_append]
      exact (rx.up (e5'.trans e6')).snoc ry
    · rcases List.mem_append.mp hx with z | z
      · exact hrows x z
      · rw [List.mem_singleton.mp z]; exact hrow3
  · obtain ⟨xs, rows, a10, a11, a12, a13, rfl, SL, RL', rx, hrl, hrows⟩ := hI
    rw [Int.toNat_natCast] at RL' hrl
    refine q_newD AL fun ps H2 hMs hGs A2 => ?_
    have hPL : M1 pl = some (.lst (L35.map V.str)) := by rw [SL pl nl, upd_ne (Ne.symm hne), upd_same]
    have hPR : M1 pr = some (.lst xs) := (SL pr nr).trans upd_same
    have npl : ps ≠ pl := fun z => by rw [z, hPL] at hMs; cases hMs
    have npr : ps ≠ pr := fun z => by rw [z, hPR] at hMs; cases hMs
    have ns : ps ≠ r := RL'.ne hMs
    have Mps : M ps = none := by
      have z := SL ps ns
      rw [hMs, upd_ne npr, upd_ne npl] at z
      exact z.symm
    have hp4 : ∀ (Ls : List Str) (xs : List V) (es : List (Key × V)), (upd (upd (upd M pl (.lst (Ls.map V.str))) pr (.lst xs)) ps (.dK es)) pr = some (.lst xs) := fun Ls xs es => by rw [upd_ne (Ne.symm npr), upd_same]
    have hp3 : ∀ (Ls : List Str) (xs : List V) (es : List (Key × V)), (upd (upd (upd M pl (.lst (Ls.map V.str))) pr (.lst xs)) ps (.dK es)) pl = some (.lst (Ls.map V.str)) := fun Ls xs es => by rw [upd_ne (Ne.symm npl), upd_ne (Ne.symm hne), upd_same]
    let W : Nat → L2.St → Hp → Prop := fun m σ' H' => ∃ (G' M' : Hp) (Ls : List Str) (xs : List V) (rows : List (List Int)) (es : List (Key × V)) (cs : List (Str × List Int)), Ex G1 G' ∧ At G' M' H' ∧ Same r (upd (upd (upd M pl (.lst (Ls.map V.str))) pr (.lst xs)) ps (.dK es)) M' ∧ RL r (n + 9 + many * 20 + (many - m) * 2) M' ∧ RpL K G' (rows.map tD) xs ∧ RpD K G' (keysD (chD cs)) es ∧ rows.length = m ∧ cs.length + m = many ∧ Ls.length + cs.length = 35 ∧ (∀ x ∈ Ls, isNameS x = true) ∧ (cs.map (·.1) ++ Ls).Nodup ∧ (∀ p ∈ cs, isNameS p.1 = true ∧ okW 1 6 p.2) ∧ (∀ x ∈ rows, okW 1 6 x) ∧ σ' = slC r pl pr v1 v2 v5 v6 v7 v8 v9 a10 a11 a12 a13 (some (.ref ps)) none
    refine s_seq ?_
    refine ⟨W, ⟨many, G1, _, L35, xs, rows, [], [], Ex.refl _, A2, fun x hx => ?_, (RL'.upd ns).le (by omega), rx, rfl, hrl, by simp, by rw [L35_len]; rfl, L35_nm, by simpa using L35_nd, (fun _ h => by cases h), hrows, rfl⟩, ?_⟩
    · by_cases e : x = ps
      · subst e
        rw [upd_same, upd_same]
      · rw [upd_ne e, upd_ne e]
        exact SL x hx
    rintro m σ' H' ⟨G', M', Ls, xs, rows, es, cs, eG, AG, SG, RG, rx, re, hrl, hcl, hll, hnm, hnd, hcs, hrows, rfl⟩
    have hPR : M' pr = some (.lst xs) := (SG pr nr).trans (hp4 Ls xs es)
    have hxl : xs.length = m := by rw [rx.len, List.length_map, hrl]
    have hGp : G' pr = none := AG.d _ _ hPR
    rw [← cut_eq hPR] at AG
    refine w_Bfz (b := !rows.isEmpty) (TrB.to (b_T (d_op (d_var rfl (d := .list (rows.map tD)) ⟨pr, xs, rfl, upd_same, rx.up (Ex.new hGp)⟩) (d_lst a_nil) (rd_neR (shaped_rows rows) rfl))) (by rw [eqv_nil]; cases rows <;> rfl)) hGp cut_none AG fun Gb Hb eb Ab => ?_
    rw [cut_eq hPR] at Ab
    by_cases hr0 : rows = []
    · -- the dict is made
      subst hr0
      rw [if_neg (by decide)]
      have hm0' : m = 0 := hrl.symm
      subst hm0'
      have hDK : M' ps = some (.dK es) := (SG ps ns).trans upd_same
      rw [← cut_eq hDK] at Ab
      obtain ⟨G2, e2, A3', r14⟩ := At.doneD Ab cut_none (re.up eb)
      have RG' : RL r (n + 300) (cutG M' ps) := by
        obtain ⟨a, b, c, z1, z2, z3, z4⟩ := RG
        exact ⟨a, b, c, by show (if r = ps then none else M' r) = _; rw [if_neg (Ne.symm ns)]; exact z1, z2, z3, by omega⟩
      refine q_setE (Φ := IsW 0 2) (e_op (Φ1 := fun d => ∃ ws, d = .list [.tuple [], .tuple [], tD ws] ∧ okW 1 2 ws) (Φ2 := RI 0 2) (e_lst (Ψ := fun ds => ∃ ws, ds = [.tuple [], .tuple [], tD ws] ∧ okW 1 2 ws) (ea_cons (Φ := fun d => d = .tuple []) (e_D (d_tup a_nil) rfl) fun d hd => ea_cons (Φ := fun d => d = .tuple []) (e_D (d_tup a_nil) rfl) fun d2 hd2 => ea_cons (widths_call (lo := 1) (hi := 2) rfl d_int d_int (by decide) (by decide) (by omega)) fun d3 hd3 => ea_nil ?_) fun ds h => ?_) (fun _ _ => spin_c rfl (by decide) (by decide) (by omega)) ?_) A3' .refl RG' fun d v15 G3' M3' H3' e3' A4' S4' R4' hd rv15 => ?_
      · obtain ⟨ws, rfl, ok⟩ := hd3
        subst hd hd2
        exact ⟨ws, rfl, ok⟩
      · obtain ⟨ws, rfl, ok⟩ := h
        exact ⟨Nat.le_of_ble_eq_true rfl, ws, rfl, ok⟩
      · rintro _ _ ⟨ws, rfl, ok⟩ ⟨i, rfl, h0, h1⟩
        obtain ⟨e, he, hc⟩ := three_at (a := .tuple []) (b := .tuple []) (c := tD ws) h0 h1
        refine ⟨e, rd_ixL he, ?_⟩
        rcases hc with rfl | rfl | rfl
        · exact ⟨[], rfl, by decide⟩
        · exact ⟨[], rfl, by decide⟩
        · exact ⟨ws, rfl, ok.le (by omega) (by omega)⟩
      obtain ⟨bt, rfl, hbt⟩ := hd
      refine s_retE (Φ := fun d => ∃ a b, d = .tuple [tD a, .dict (keysD (chD cs)), tD bt, tD b] ∧ okW 1 6 a ∧ okW 1 6 b) (n' := n + 300 + (2 + 1) + 1 + (6 + 1) + (6 + 1)) (e_tup (Ψ := fun ds => ∃ a b, ds = [tD a, .dict (keysD (chD cs)), tD bt, tD b] ∧ okW 1 6 a ∧ okW 1 6 b) (ea_cons (widths_call (lo := 1) (hi := 6) rfl d_int d_int (by decide) (by decide) (by omega)) fun d hd => ea_cons (Φ := fun d => d = .dict (keysD (chD cs))) (e_D (d_var rfl (r14.up e3')) rfl) fun d2 hd2 => ea_cons (Φ := fun d => d = tD bt) (e_D (d_var rfl rv15) rfl) fun d3 hd3 => ea_cons (widths_call (lo := 1) (hi := 6) rfl d_int d_int (by decide) (by decide) (by omega)) fun d4 hd4 => ea_nil ?_) fun ds h => ?_) A4' S4' R4' fun d v G5' M5' H5' e5' A5' S5' R5' hd rv => ?_
      · obtain ⟨a, rfl, oka⟩ := hd
        obtain ⟨b, rfl, okb⟩ := hd4
        subst hd2 hd3
        exact ⟨a, b, rfl, oka, okb⟩
      · obtain ⟨a, b, rfl, oka, okb⟩ := h
        exact ⟨Nat.le_of_ble_eq_true rfl, a, b, rfl, oka, okb⟩
      obtain ⟨a, b, rfl, oka, okb⟩ := hd
      obtain ⟨M6', A6', S6', hr6⟩ := At.back (r := r) (M0 := M) A5' (fun x hx o ho => by
        have x1 : x ≠ pl := fun z => by rw [z, Mpl] at ho; cases ho
        have x2 : x ≠ pr := fun z => by rw [z, Mpr] at ho; cases ho
        have x3 : x ≠ ps := fun z => by rw [z, Mps] at ho; cases ho
        rw [S5' x hx]
        show (if x = ps then none else M' x) = _
        rw [if_neg x3, SG x hx, upd_ne x3, upd_ne x2, upd_ne x1]
        exact ho)
      refine q _ v G5' M6' H5' ((((((E06.trans eL).trans eG).trans eb).trans e2).trans e3').trans e5') A6' S6' ?_ ⟨⟨a, cs, bt, b⟩, rfl, ?_⟩ rv
      · obtain ⟨a, b, c, z1, z2, z3, z4⟩ := R5'
        exact ⟨a, b, c, by rw [hr6]; exact z1, z2, z3, by omega⟩
      · exact ⟨oka, ⟨by show 1 ≤ cs.length; omega, by show cs.length ≤ 10; omega, hcs, (List.nodup_append.mp hnd).1⟩, hbt, okb⟩
    · have hm0' : 0 < m := by
        rw [← hrl]
        cases rows with
        | nil => exact absurd rfl hr0
        | cons _ _ => exact Nat.succ_pos _
      rw [if_pos (by cases rows with
        | nil => exact absurd rfl hr0
        | cons _ _ => rfl)]
      refine ⟨W (m - 1), fun σ2 H2 h => ⟨m - 1, by omega, h⟩, ?_⟩
      refine w_pop (i := 4) (p := pr) (M0 := upd (upd (upd M pl (.lst (Ls.map V.str))) pr (.lst xs)) ps (.dK es)) (K := K) rfl (hp4 Ls xs es) nr (by omega) (spin_call rfl (e_len rfl (hp4 Ls xs es) nr ⟨_, rfl, by omega, by omega, fun d h => ?_⟩) (by omega)) Ab SG RG fun k1 y1 G2 M2 H2 hx1 e2 A3' S3' R3' => ⟨V.ref ps, rfl, ?_⟩
      · obtain ⟨i, rfl, h0, h1⟩ := h
        obtain ⟨iN, rfl⟩ := Int.eq_ofNat_of_zero_le h0
        exact ⟨iN, rfl, by omega⟩
      have hp3' : (upd (upd (upd (upd M pl (.lst (Ls.map V.str))) pr (.lst xs)) ps (.dK es)) pr (.lst (xs.eraseIdx k1))) pl = some (.lst (Ls.map V.str)) := by rw [upd_ne (Ne.symm hne)]; exact hp3 Ls xs es
      refine w_pop (i := 3) (p := pl) (M0 := upd (upd (upd (upd M pl (.lst (Ls.map V.str))) pr (.lst xs)) ps (.dK es)) pr (.lst (xs.eraseIdx k1))) (K := K) rfl hp3' nl (by rw [List.length_map]; omega) (spin_call rfl (e_len rfl hp3' nl ⟨_, rfl, by rw [List.length_map]; omega, by rw [List.length_map]; omega, fun d h => ?_⟩) (by omega)) A3' S3' R3' fun k2 y2 G3 M3' H3 hx2 e3 A4' S4' R4' => ?_
      · obtain ⟨i, rfl, h0, h1⟩ := h
        obtain ⟨iN, rfl⟩ := Int.eq_ofNat_of_zero_le h0
        exact ⟨iN, rfl, by omega⟩
      obtain ⟨nm, hnmx, rfl⟩ : ∃ nm, Ls[k2]? = some nm ∧ y2 = V.str nm := by
        rw [List.getElem?_map] at hx2
        cases z : Ls[k2]? with
        | none => rw [z] at hx2; cases hx2
        | some nm => rw [z] at hx2; exact ⟨nm, rfl, (Option.some.inj hx2).symm⟩
      obtain ⟨row1, hrow1, ry⟩ : ∃ row1, rows[k1]? = some row1 ∧ Rp K G' (tD row1) y1 := by
        obtain ⟨d, hd, rd⟩ := rx.get hx1
        rw [List.getElem?_map] at hd
        cases z : rows[k1]? with
        | none => rw [z] at hd; cases hd
        | some row1 =>
          rw [z] at hd
          have e : tD row1 = d := Option.some.inj hd
          exact ⟨row1, rfl, e ▸ rd⟩
      have hlk1 := (List.getElem?_eq_some_iff.mp hrow1).1
      obtain ⟨hlk2, hek2⟩ := List.getElem?_eq_some_iff.mp hnmx
      have eGG : Ex G' G3 := (eb.trans e2).trans e3
      have hDK : M3' ps = some (.dK es) := (S4' ps ns).trans (by rw [upd_ne npl, upd_ne npr, upd_same])
      have hnin : nm ∉ cs.map (·.1) := fun z => (List.nodup_append.mp hnd).2.2 nm z nm (List.mem_of_getElem? hnmx) rfl
      have hfresh : valV es (Sum.inr nm) = none := by
        refine (RpD.val (x := nm) re).2 ?_
        have z : (lookD (chD cs) nm).isSome = false := by
          rw [look_some, chD_keys]
          exact decide_eq_false hnin
        cases y : lookD (chD cs) nm with
        | none => rfl
        | some _ => rw [y] at z; cases z
      have hput : putK es (Sum.inr nm) y1 = es ++ [(Sum.inr nm, y1)] := putK_new _ hfresh
      have hes : es.length = cs.length := by rw [re.len, keysD_len]; simp [chD]
      have A5' := A4'.wr (o := .dK (putK es (Sum.inr nm) y1)) hDK
      refine ⟨ps, _, rfl, DPut.k (k := Sum.inr nm) (A4'.m _ _ hDK) (sz_lt (by omega)), G3, _, Ls.eraseIdx k2, xs.eraseIdx k1, rows.eraseIdx k1, es ++ [(Sum.inr nm, y1)], cs ++ [(nm, row1)], eG.trans eGG, A5', fun x hx => ?_, (R4'.upd ns).le ?_, ?_, ?_, ?_, ?_, ?_, fun x hx => hnm x (List.mem_of_mem_eraseIdx hx), ?_, fun p hp => ?_, fun x hx => hrows x (List.mem_of_mem_eraseIdx hx), rfl⟩
      · by_cases x3 : x = ps
        · subst x3
          rw [upd_same, upd_same, hput]
        · rw [upd_ne x3, upd_ne x3, S4' x hx]
          by_cases x1 : x = pl
          · subst x1
            rw [upd_same, upd_ne (Ne.symm hne), upd_same, er_map]
          · rw [upd_ne x1]
            by_cases x2 : x = pr
            · subst x2
              rw [upd_same, upd_same]
            · simp only [upd_ne x2, upd_ne x3, upd_ne x1]
      · omega
      · rw [List.eraseIdx_eq_take_drop_succ, List.eraseIdx_eq_take_drop_succ, List.map_append, List.map_take, List.map_drop]
        exact ((rx.up eGG).take k1).app ((rx.up eGG).drop (k1 + 1))
      · unfold chD keysD
        rw [List.map_append, List.map_append]
        exact (re.up eGG).snoc rfl (ry.up eGG)
      · rw [List.length_eraseIdx_of_lt hlk1]; omega
      · rw [List.length_append, List.length_singleton]; omega
      · rw [List.length_eraseIdx_of_lt hlk2, List.length_append, List.length_singleton]; omega
      · have hperm : (nm :: Ls.eraseIdx k2).Perm Ls := by
          have e : Ls = Ls.take k2 ++ nm :: Ls.drop (k2 + 1) := by
            rw [← hek2, ← List.drop_eq_getElem_cons hlk2, List.take_append_drop]
          rw [List.eraseIdx_eq_take_drop_succ]
          conv => rhs; rw [e]
          exact List.perm_middle.symm
        have hp2 : ((cs ++ [(nm, row1)]).map (·.1) ++ Ls.eraseIdx k2).Perm (cs.map (·.1) ++ Ls) := by
          rw [List.map_append, List.append_assoc]
          exact List.Perm.append_left _ hperm
        exact hp2.nodup_iff.mpr hnd
      · rcases List.mem_append.mp hp with z | z
        · exact hcs p z
        · rw [List.mem_singleton.mp z]
          exact ⟨hnm nm (List.mem_of_getElem? hnmx), hrows row1 (List.mem_of_getElem? hrow1)⟩
end
end K80

namespace K80
open PySem PySem.Spec PyProof.Rows L2 Sb
local macro_rules | `(tactic| walk_at "ex") => `(tactic| first | exact Ex.refl _ | assumption | (refine' Ex.trans ?_ (by assumption); walk_at "ex"))
local macro_rules | `(tactic| walk_at "rp") => `(tactic| first | assumption | (refine' Rp.up ?e (by assumption); (case e => walk_at "ex")) | exact rfl)
local macro_rules | `(tactic| walk_at "rd") => `(tactic| with_reducible first | exact rd_add | exact rd_sub | exact rd_lt | exact rd_le | exact rd_gt | exact rd_ge | exact rd_eqI | exact rd_neI | exact rd_eqS | exact rd_neS | exact rd_isN | exact rd_ltS | exact rd_inSign | exact rd_eqE)
local macro_rules | `(tactic| walk_at "tr") => `(tactic| first
  | with_reducible exact d_int
  | with_reducible exact d_str
  | with_reducible exact d_bl
  | with_reducible exact d_non
  | with_reducible exact a_nil
  | with_reducible exact b_yes
  | with_reducible exact o_none
  | with_reducible exact d_newD
  | ((with_reducible refine' d_var ?i ?r); (case i => rfl); (case r => walk_at "rp"))
  | ((with_reducible refine' a_cons ?a ?b); (case a => walk_at "tr"); (case b => walk_at "tr"))
  | ((with_reducible refine' a_star ?a ?b); (case a => walk_at "tr"); (case b => walk_at "tr"))
  | ((with_reducible refine' d_isi ?a ?b); (case a => walk_at "tr"); (case b => decide))
  | ((with_reducible refine' d_op ?a ?b ?c); (case a => walk_at "tr"); (case b => walk_at "tr"); (case c => walk_at "rd"))
  | ((with_reducible refine' d_tup ?a ?b); (case a => walk_at "tr"); (case b => first | decide | (simp; done)))
  | ((with_reducible refine' d_lst ?a ?b); (case a => walk_at "tr"); (case b => first | decide | (simp; done)))
  | ((with_reducible refine' o_some ?a); (case a => walk_at "tr"))
  | ((with_reducible refine' b_B ?a); (case a => walk_at "tr"))
  | ((with_reducible refine' b_T ?a); (case a => walk_at "tr"))
  | ((with_reducible refine' b_not ?a); (case a => walk_at "tr"))
  | ((with_reducible refine' v_not ?a); (case a => walk_at "tr"))
  | ((with_reducible refine' b_or ?a ?b); (case a => walk_at "tr"); (case b => intro _; walk_at "tr"))
  | ((with_reducible refine' b_and ?a ?b); (case a => walk_at "tr"); (case b => intro _; walk_at "tr"))
  | ((with_reducible refine' v_or ?a ?b); (case a => walk_at "tr"); (case b => intro _; walk_at "tr"))
  | ((with_reducible refine' v_and ?a ?b); (case a => walk_at "tr"); (case b => intro _; walk_at "tr"))
  | assumption)


/-! ### the first place with something -/
def fstP (b : Nat → Str → Bool) : List Str → Nat → Option Nat
  | [], _ => none
  | w :: ws, p => if b p w = true then some p else fstP b ws (p + 1)
theorem fstP_none {b : Nat → Str → Bool} : ∀ {ws : List Str} {p : Nat}, (∀ k w, ws[k]? = some w → b (p + k) w = false) → fstP b ws p = none
  | [], _, _ => rfl
  | w :: ws, p, h => by
    have h0 : b p w = false := by simpa using h 0 w rfl
    unfold fstP
    rw [if_neg (by rw [h0]; decide)]
    exact fstP_none fun k x hx => by
      have := h (k + 1) x (by simpa using hx)
      rw [Nat.add_assoc, Nat.add_comm 1 k]
      exact this
theorem fstP_at {b : Nat → Str → Bool} : ∀ {ws : List Str} {p k : Nat} {w : Str}, ws[k]? = some w → b (p + k) w = true → (∀ j, j < k → ∀ x, ws[j]? = some x → b (p + j) x = false) → fstP b ws p = some (p + k)
  | [], _, _, _, h, _, _ => by simp at h
  | x :: ws, p, 0, w, h, hb, _ => by
    have e : x = w := by simpa using h
    subst e
    unfold fstP
    rw [if_pos (by simpa using hb)]
    rfl
  | x :: ws, p, k + 1, w, h, hb, hp => by
    have h0 : b p x = false := by simpa using hp 0 (by omega) x rfl
    unfold fstP
    rw [if_neg (by rw [h0]; decide), fstP_at (p := p + 1) (k := k) (w := w) (by simpa using h) (by rw [Nat.add_assoc, Nat.add_comm 1 k]; exact hb) fun j hj y hy => by
      have := hp (j + 1) (by omega) y (by simpa using hy)
      rw [Nat.add_assoc, Nat.add_comm 1 j]
      exact this]
    congr 1
    omega
theorem fstP_ok {b : Nat → Str → Bool} : ∀ {ws : List Str} {p : Nat}, fstP b ws p = none → ∀ k w, ws[k]? = some w → b (p + k) w = false
  | [], _, _, k, w, h => by simp at h
  | x :: ws, p, hf, k, w, h => by
    unfold fstP at hf
    cases hb : b p x with
    | true => rw [if_pos hb] at hf; cases hf
    | false =>
      rw [if_neg (by rw [hb]; decide)] at hf
      cases k with
      | zero =>
        have e : x = w := by simpa using h
        subst e
        exact hb
      | succ k =>
        have := fstP_ok hf k w (by simpa using h)
        rw [Nat.add_assoc, Nat.add_comm 1 k] at this
        exact this
/-! ### the words of a line -/
def fourL : List Str := ["1", "2", "3", "4"]
def badWd (most : Nat) (p : Nat) (w : Str) : Bool := !inD (.str w) [.str "1", .str "2", .str "3", .str "4"] || decide (most < p)
def wfault (most : Nat) (ws : List Str) : Option Nat := match fstP (badWd most) ws.tail 1 with
  | some p => some p
  | none => if ws.length = 1 then some 1 else none
theorem four_in {w : Str} (h : inD (.str w) [.str "1", .str "2", .str "3", .str "4"] = true) : w = "1" ∨ w = "2" ∨ w = "3" ∨ w = "4" := by
  unfold inD inV at h
  have key : ∀ a : Str, eqV (.str a) (.str w) = true → w = a := fun a h => (eq_of_beq (show (a == w) = true from h)).symm
  simp [flatD] at h
  rcases h with h | h | h | h
  · exact .inl (key _ h)
  · exact .inr (.inl (key _ h))
  · exact .inr (.inr (.inl (key _ h)))
  · exact .inr (.inr (.inr (key _ h)))
theorem spl_ne (S : List Nat) : ∀ (l : List Nat) (k : Nat) (acc : List Nat), TL.spl S k acc l ≠ []
  | [], k, acc => by rw [TL.spl_nil]; simp
  | c :: r, 0, acc => by
    cases h : TL.pre S (c :: r) with
    | true => rw [TL.spl_hit h]; simp
    | false => rw [TL.spl_miss h]; exact spl_ne S r 0 _
  | c :: r, k + 1, acc => spl_ne S r k acc
theorem split_ne (x y : Str) (hy : TL.tl y ≠ []) (hk : y.cps.all (· < 256) = true) : Txt.split x y ≠ [] := fun z => by
  have e := TL.split_spl x y hy (TL.kind_ok hk)
  rw [z] at e
  exact spl_ne _ _ _ _ e.symm
def wordsT (row : Str) : List Str := Txt.split row " "
theorem words_cons (row : Str) : ∃ w tl, wordsT row = w :: tl := by
  have h := split_ne row " " (by decide +kernel) (by decide +kernel)
  unfold wordsT
  cases e : Txt.split row " " with
  | nil => exact absurd e h
  | cons w tl => exact ⟨w, tl, rfl⟩
def headT (row : Str) : Str := (wordsT row).headD ""
def restT (row : Str) : List Str := (wordsT row).tail
theorem words_eq (row : Str) : wordsT row = headT row :: restT row := by
  obtain ⟨w, tl, e⟩ := words_cons row
  unfold headT restT
  rw [e]
  rfl
def mostW (x : Str) : Nat := if x = "between" then 2 else 6
/-! ### the lines, one behind another -/
def ltB (x y : Str) : Bool := decide (x.cps.toList < y.cps.toList)
def stp (st : Nat) (names : List Str) (w : Str) : Option (Nat × List Str) :=
  if st = 0 then if w = "start" then some (1, []) else none
  else if st = 4 then none
  else if w = "stop" then if st = 2 ∨ st = 3 then some (4, names) else none
  else if w = "between" then if st = 2 then some (3, names) else none
  else if isNameS w = true ∧ (st = 1 ∨ st = 2) ∧ (names.all fun x => ltB x w) = true ∧ names.length < 10 then some (2, names ++ [w]) else none
def pfA : List Str → Nat → Nat → List Str → Option (Nat × Nat)
  | [], line, st, _ => if st = 4 then none else some (line, 0)
  | row :: rows, line, st, names => match stp st names (headT row) with
    | none => some (line, 0)
    | some (st', names') => match wfault (mostW (headT row)) (wordsT row) with
      | some p => some (line, p)
      | none => pfA rows (line + 1) st' names'
structure Shp (st : Nat) (names ks : List Str) : Prop where
  nm : ∀ x ∈ names, isNameS x = true
  le : names.length ≤ 10
  sh : (st = 0 ∧ ks = [] ∧ names = []) ∨ (st = 1 ∧ ks = [("start" : Str)] ∧ names = []) ∨ (st = 2 ∧ ks = ("start" : Str) :: names ∧ names ≠ []) ∨ (st = 3 ∧ ks = ("start" : Str) :: (names ++ [("between" : Str)]) ∧ names ≠ []) ∨
    (st = 4 ∧ names ≠ [] ∧ ∃ bt, (bt = [] ∨ bt = [("between" : Str)]) ∧ ks = ("start" : Str) :: (names ++ (bt ++ [("stop" : Str)])))
theorem nm_ne {x y : Str} (h : isNameS x = true) (hy : isNameS y = false) : x ≠ y := fun e => by rw [e, hy] at h; cases h
theorem filt_nm {ns : List Str} (h : ∀ x ∈ ns, isNameS x = true) : ns.filter isNameS = ns := List.filter_eq_self.mpr h
theorem Shp.stop {st : Nat} {names ks : List Str} (S : Shp st names ks) : (("stop" : Str) ∈ ks) ↔ st = 4 := by
  have hn : ("stop" : Str) ∉ names := fun h => nm_ne (S.nm _ h) nm_stop rfl
  rcases S.sh with ⟨rfl, rfl, rfl⟩ | ⟨rfl, rfl, rfl⟩ | ⟨rfl, rfl, h⟩ | ⟨rfl, rfl, h⟩ | ⟨rfl, h, bt, hb, rfl⟩
  · simp
  · simp; decide +kernel
  · simp [hn]; decide +kernel
  · simp [hn]; decide +kernel
  · simp
theorem Shp.start {st : Nat} {names ks : List Str} (S : Shp st names ks) (h : st ≠ 0) : ∃ r, ks = ("start" : Str) :: r := by
  rcases S.sh with ⟨rfl, rfl, rfl⟩ | ⟨rfl, rfl, rfl⟩ | ⟨rfl, rfl, _⟩ | ⟨rfl, rfl, _⟩ | ⟨rfl, _, bt, hb, rfl⟩
  · exact absurd rfl h
  · exact ⟨_, rfl⟩
  · exact ⟨_, rfl⟩
  · exact ⟨_, rfl⟩
  · exact ⟨_, rfl⟩
theorem Shp.len {st : Nat} {names ks : List Str} (S : Shp st names ks) : ks.length ≤ 13 := by
  have := S.le
  rcases S.sh with ⟨rfl, rfl, rfl⟩ | ⟨rfl, rfl, rfl⟩ | ⟨rfl, rfl, _⟩ | ⟨rfl, rfl, _⟩ | ⟨rfl, _, bt, rfl | rfl, rfl⟩ <;> simp <;> omega
theorem Shp.names {st : Nat} {names ks : List Str} (S : Shp st names ks) : ks.filter isNameS = names := by
  have e := filt_nm S.nm
  rcases S.sh with ⟨rfl, rfl, rfl⟩ | ⟨rfl, rfl, rfl⟩ | ⟨rfl, rfl, _⟩ | ⟨rfl, rfl, _⟩ | ⟨rfl, _, bt, rfl | rfl, rfl⟩ <;> simp [nm_start, nm_stop, nm_between, List.filter_cons, List.filter_append, e]
theorem Shp.between {st : Nat} {names ks : List Str} (S : Shp st names ks) (h : st ≠ 4) : (("between" : Str) ∈ ks) ↔ st = 3 := by
  have hn : ("between" : Str) ∉ names := fun h => nm_ne (S.nm _ h) nm_between rfl
  have h1 : ¬ ("between" : Str) = "start" := by decide +kernel
  rcases S.sh with ⟨rfl, rfl, rfl⟩ | ⟨rfl, rfl, rfl⟩ | ⟨rfl, rfl, _⟩ | ⟨rfl, rfl, _⟩ | ⟨rfl, _, bt, hb, rfl⟩
  · simp
  · simp [h1]
  · simp [hn, h1]
  · simp
  · exact absurd rfl h
/-- what may stand, seen from the stage -/
theorem may_stp {st : Nat} {names ks : List Str} (S : Shp st names ks) (w : Str) : mayS w ks = (stp st names w).isSome := by
  have h1 : ¬ ("stop" : Str) = "start" := by decide +kernel
  have h2 : ¬ ("between" : Str) = "start" := by decide +kernel
  have hks : ks = [] ↔ st = 0 := by
    rcases S.sh with ⟨rfl, rfl, rfl⟩ | ⟨rfl, rfl, rfl⟩ | ⟨rfl, rfl, _⟩ | ⟨rfl, rfl, _⟩ | ⟨rfl, _, bt, hb, rfl⟩ <;> simp
  have hst : st = 0 ∨ st = 1 ∨ st = 2 ∨ st = 3 ∨ st = 4 := by
    rcases S.sh with ⟨h, _⟩ | ⟨h, _⟩ | ⟨h, _⟩ | ⟨h, _⟩ | ⟨h, _⟩ <;> simp [h]
  have hemp : names.isEmpty = true ↔ st = 0 ∨ st = 1 := by
    rcases S.sh with ⟨rfl, rfl, rfl⟩ | ⟨rfl, rfl, rfl⟩ | ⟨rfl, rfl, h⟩ | ⟨rfl, rfl, h⟩ | ⟨rfl, h, bt, hb, rfl⟩ <;> simp_all
  unfold mayS
  simp only [S.names]
  by_cases h4 : st = 4
  · rw [if_pos (S.stop.mpr h4), h4]
    unfold stp
    simp
  rw [if_neg fun z => h4 (S.stop.mp z)]
  by_cases h0 : st = 0
  · rw [if_pos (.inr (hks.mpr h0)), hks.mpr h0, h0]
    unfold stp
    by_cases hw : w = "start" <;> simp [hw]
  by_cases hw : w = "start"
  · rw [if_pos (.inl hw)]
    have hne : ks.isEmpty = false := by
      cases ks with
      | nil => exact absurd (hks.mp rfl) h0
      | cons _ _ => rfl
    rw [hne, Bool.and_false]
    unfold stp
    rw [if_neg h0, if_neg h4, hw, if_neg (Ne.symm h1), if_neg (Ne.symm h2), if_neg fun z => by rw [nm_start] at z; cases z.1]
    rfl
  rw [if_neg (by rintro (z | z); exact hw z; exact h0 (hks.mp z))]
  unfold stp
  rw [if_neg h0, if_neg h4]
  by_cases hs : w = "stop"
  · rw [if_pos hs, if_pos hs]
    by_cases h23 : st = 2 ∨ st = 3
    · rw [if_pos h23]
      have : names.isEmpty = false := by
        cases z : names.isEmpty with
        | false => rfl
        | true => have := hemp.mp z; omega
      rw [this]
      rfl
    · rw [if_neg h23, hemp.mpr (by omega)]
      rfl
  rw [if_neg hs, if_neg hs]
  by_cases hb : w = "between"
  · rw [if_pos hb, if_pos hb]
    by_cases h2' : st = 2
    · rw [if_pos h2', decide_eq_false (fun z => by have := (S.between h4).mp z; omega)]
      have : names.isEmpty = false := by
        cases z : names.isEmpty with
        | false => rfl
        | true => have := hemp.mp z; omega
      rw [this]
      rfl
    · rw [if_neg h2']
      by_cases h3 : st = 3
      · rw [decide_eq_true ((S.between h4).mpr h3)]
        simp
      · rw [hemp.mpr (by omega)]
        rfl
  rw [if_neg hb, if_neg hb]
  have hbt := S.between h4
  have hle := S.le
  cases hn : isNameS w with
  | false => simp
  | true =>
    by_cases h3 : st = 3
    · rw [if_pos (.inr (.inl (hbt.mpr h3))), if_neg (by omega)]
      rfl
    by_cases hl : names.length = 10
    · rw [if_pos (.inr (.inr hl)), if_neg (by omega)]
      rfl
    rw [if_neg (by rintro (z | z | z); cases z; exact h3 (hbt.mp z); exact hl z)]
    cases ha : names.all fun x => ltB x w with
    | true =>
      rw [if_pos ⟨rfl, by omega, rfl, by omega⟩]
      exact ha
    | false =>
      rw [if_neg fun z => by cases z.2.2.1]
      exact ha
theorem stp_shp {st st' : Nat} {names names' ks : List Str} {w : Str} (S : Shp st names ks) (h : stp st names w = some (st', names')) : Shp st' names' (ks ++ [w]) ∧ w ∉ ks ∧ st' ≠ 0 := by
  have h1 : ¬ ("stop" : Str) = "start" := by decide +kernel
  have h2 : ¬ ("between" : Str) = "start" := by decide +kernel
  have h3 : ¬ ("stop" : Str) = "between" := by decide +kernel
  have nb : ("between" : Str) ∉ names := fun h => nm_ne (S.nm _ h) nm_between rfl
  have ns : ("stop" : Str) ∉ names := fun h => nm_ne (S.nm _ h) nm_stop rfl
  unfold stp at h
  by_cases h0 : st = 0
  · rw [if_pos h0] at h
    by_cases hw : w = "start"
    · rw [if_pos hw] at h
      cases h
      obtain rfl : ks = [] := by
        rcases S.sh with ⟨_, h, _⟩ | ⟨h, _⟩ | ⟨h, _⟩ | ⟨h, _⟩ | ⟨h, _⟩ <;> first | exact h | omega
      exact ⟨⟨fun _ h => (by cases h), by simp, .inr (.inl ⟨rfl, by rw [hw]; rfl, rfl⟩)⟩, by simp, by decide⟩
    · rw [if_neg hw] at h
      cases h
  rw [if_neg h0] at h
  by_cases h4 : st = 4
  · rw [if_pos h4] at h
    cases h
  rw [if_neg h4] at h
  by_cases hs : w = "stop"
  · rw [if_pos hs] at h
    by_cases h23 : st = 2 ∨ st = 3
    · rw [if_pos h23] at h
      cases h
      refine ⟨⟨S.nm, S.le, .inr (.inr (.inr (.inr ?_)))⟩, fun z => h4 (S.stop.mp (hs ▸ z)), by decide⟩
      rcases S.sh with ⟨h, _⟩ | ⟨h, _⟩ | ⟨h, hk, hn⟩ | ⟨h, hk, hn⟩ | ⟨h, _⟩
      · omega
      · omega
      · exact ⟨rfl, hn, [], .inl rfl, by rw [hk, hs]; rfl⟩
      · exact ⟨rfl, hn, ["between"], .inr rfl, by rw [hk, hs]; simp⟩
      · omega
    · rw [if_neg h23] at h
      cases h
  rw [if_neg hs] at h
  by_cases hb : w = "between"
  · rw [if_pos hb] at h
    by_cases h2' : st = 2
    · rw [if_pos h2'] at h
      cases h
      rcases S.sh with ⟨h, _⟩ | ⟨h, _⟩ | ⟨h, hk, hn⟩ | ⟨h, hk, hn⟩ | ⟨h, _⟩
      · omega
      · omega
      · refine ⟨⟨S.nm, S.le, .inr (.inr (.inr (.inl ⟨rfl, by rw [hk, hb]; rfl, hn⟩)))⟩, ?_, by decide⟩
        rw [hk, hb]
        simp [h2, nb]
      · omega
      · omega
    · rw [if_neg h2'] at h
      cases h
  rw [if_neg hb] at h
  by_cases hc : isNameS w = true ∧ (st = 1 ∨ st = 2) ∧ (names.all fun x => ltB x w) = true ∧ names.length < 10
  · rw [if_pos hc] at h
    cases h
    obtain ⟨c1, c2, c3, c4⟩ := hc
    have hw : w ∉ names := fun z => by
      have := of_decide_eq_true (List.all_eq_true.mp c3 w z)
      exact absurd this (List.lt_irrefl _)
    have hws : w ≠ "start" := nm_ne c1 nm_start
    refine ⟨⟨fun x hx => ?_, by rw [List.length_append]; show _ + 1 ≤ _; omega, .inr (.inr (.inl ⟨rfl, ?_, by simp⟩))⟩, ?_, by decide⟩
    · rcases List.mem_append.mp hx with z | z
      · exact S.nm x z
      · rw [List.mem_singleton.mp z]; exact c1
    · rcases S.sh with ⟨h, _⟩ | ⟨h, hk, hn⟩ | ⟨h, hk, hn⟩ | ⟨h, hk, hn⟩ | ⟨h, _⟩
      · omega
      · rw [hk, hn]; rfl
      · rw [hk]; rfl
      · omega
      · omega
    · rcases S.sh with ⟨h, _⟩ | ⟨h, hk, hn⟩ | ⟨h, hk, hn⟩ | ⟨h, hk, hn⟩ | ⟨h, _⟩
      · omega
      · rw [hk]; simp [hws]
      · rw [hk]; simp [hws, hw]
      · omega
      · omega
  · rw [if_neg hc] at h
    cases h
end K80

namespace K80
open PySem PySem.Spec PyProof.Rows L2 Sb
local macro_rules | `(tactic| walk_at "ex") => `(tactic| first | exact Ex.refl _ | assumption | (refine' Ex.trans ?_ (by assumption); walk_at "ex"))
local macro_rules | `(tactic| walk_at "rp") => `(tactic| first | assumption | (refine' Rp.up ?e (by assumption); (case e => walk_at "ex")) | exact rfl)
local macro_rules | `(tactic| walk_at "rd") => `(tactic| with_reducible first | exact rd_add | exact rd_sub | exact rd_lt | exact rd_le | exact rd_gt | exact rd_ge | exact rd_eqI | exact rd_neI | exact rd_eqS | exact rd_neS | exact rd_isN | exact rd_ltS | exact rd_inSign | exact rd_eqE)
local macro_rules | `(tactic| walk_at "tr") => `(tactic| first
  | with_reducible exact d_int
  | with_reducible exact d_str
  | with_reducible exact d_bl
  | with_reducible exact d_non
  | with_reducible exact a_nil
  | with_reducible exact b_yes
  | with_reducible exact o_none
  | with_reducible exact d_newD
  | ((with_reducible refine' d_var ?i ?r); (case i => rfl); (case r => walk_at "rp"))
  | ((with_reducible refine' a_cons ?a ?b); (case a => walk_at "tr"); (case b => walk_at "tr"))
  | ((with_reducible refine' a_star ?a ?b); (case a => walk_at "tr"); (case b => walk_at "tr"))
  | ((with_reducible refine' d_isi ?a ?b); (case a => walk_at "tr"); (case b => decide))
  | ((with_reducible refine' d_op ?a ?b ?c); (case a => walk_at "tr"); (case b => walk_at "tr"); (case c => walk_at "rd"))
  | ((with_reducible refine' d_tup ?a ?b); (case a => walk_at "tr"); (case b => first | decide | (simp; done)))
  | ((with_reducible refine' d_lst ?a ?b); (case a => walk_at "tr"); (case b => first | decide | (simp; done)))
  | ((with_reducible refine' o_some ?a); (case a => walk_at "tr"))
  | ((with_reducible refine' b_B ?a); (case a => walk_at "tr"))
  | ((with_reducible refine' b_T ?a); (case a => walk_at "tr"))
  | ((with_reducible refine' b_not ?a); (case a => walk_at "tr"))
  | ((with_reducible refine' v_not ?a); (case a => walk_at "tr"))
  | ((with_reducible refine' b_or ?a ?b); (case a => walk_at "tr"); (case b => intro _; walk_at "tr"))
  | ((with_reducible refine' b_and ?a ?b); (case a => walk_at "tr"); (case b => intro _; walk_at "tr"))
  | ((with_reducible refine' v_or ?a ?b); (case a => walk_at "tr"); (case b => intro _; walk_at "tr"))
  | ((with_reducible refine' v_and ?a ?b); (case a => walk_at "tr"); (case b => intro _; walk_at "tr"))
  | assumption)


def excS (l p : PyData) : Out := .exc "InvalidSyntax" [("line", l), ("word", p)]
def entK (rows : List Str) : List (Str × PyData) := rows.map fun row => (headT row, .tuple ((dStrs (restT row)).map intD))
def valT (rows : List Str) : PyData := .tuple [(lookD (entK rows) "start").getD .none, .dict (keysD (((srt ((entK rows).map (·.1))).filter isNameS).map fun x => (x, (lookD (entK rows) x).getD .none))), (lookD (entK rows) "between").getD (.tuple []), (lookD (entK rows) "stop").getD .none]
def pfT (t : Str) : Option (Nat × Nat) := pfA (Txt.split t "\n") 0 0 []
def parseO (d : PyData) : Out := match d with
  | .str t => (match pfT t with
    | some (l, p) => excS (.int l) (.int p)
    | none => .val (valT (Txt.split t "\n")))
  | _ => excS .none .none
def faultI (t : Str) : List Int := match pfT t with
  | some (l, p) => [l, p]
  | none => []
def toldD (d : PyData) : List PyData := match d with
  | .str t => dInts (faultI t)
  | _ => [.none, .none]
theorem dStrs_at {ws : List Str} {k : Nat} {d : PyData} (h : (dStrs ws)[k]? = some d) : ∃ y, ws[k]? = some y ∧ d = .str y := by
  unfold dStrs at h
  rw [List.getElem?_map] at h
  cases z : ws[k]? with
  | none => rw [z] at h; cases h
  | some y => rw [z] at h; exact ⟨y, rfl, (Option.some.inj h).symm⟩
theorem gt_nat (a b : Nat) : decide ((b : Int) < (a : Int)) = decide (b < a) := by
  by_cases h : b < a
  · rw [decide_eq_true h, decide_eq_true (by omega)]
  · rw [decide_eq_false h, decide_eq_false (by omega)]
theorem dStrs_len (a : List Str) : (dStrs a).length = a.length := List.length_map ..
theorem look_ent {kvs : List (Str × PyData)} {x : Str} (h : x ∈ kvs.map (·.1)) : lookD kvs x = some ((lookD kvs x).getD .none) := by
  have z := look_some (kvs := kvs) (x := x)
  rw [decide_eq_true h] at z
  cases y : lookD kvs x with
  | none => rw [y] at z; cases z
  | some d => rfl
theorem look_no {kvs : List (Str × PyData)} {x : Str} (h : x ∉ kvs.map (·.1)) : lookD kvs x = none := by
  have z := look_some (kvs := kvs) (x := x)
  rw [decide_eq_false h] at z
  cases y : lookD kvs x with
  | none => rfl
  | some d => rw [y] at z; cases z
theorem pfA_cons (row : Str) (rows : List Str) (line st : Nat) (names : List Str) : pfA (row :: rows) line st names = match stp st names (headT row) with
    | none => some (line, 0)
    | some (st', names') => match wfault (mostW (headT row)) (wordsT row) with
      | some p => some (line, p)
      | none => pfA rows (line + 1) st' names' := rfl
section
variable {P : Program} {w : World} {K : PySem.W.Frag} {mg : Str → Option Value} {base : Heap}
def widthsO (ln : Nat) (most : Nat) (ws : List Str) : Out := match wfault most ws with
  | some p => excS (.int ln) (.int p)
  | none => .val (.tuple ((dStrs ws.tail).map intD))
def R_read_widths : List PyData → Out → Prop := fun ds o => ∃ (ln : Nat) (ws : List Str) (most : Nat), ds = [.int ln, .list (dStrs ws), .int most] ∧ ws ≠ [] ∧ ws.length ≤ 95000 ∧ o = widthsO ln most ws
theorem F_read_widths (T : Tx K mg) : Fd P w K mg base (L2.CX P w) 3 "read_widths" (XSp K R_read_widths) [] := by
  obtain ⟨fd, F⟩ := T.f_read_widths
  refine ⟨_, fd, ["line", "words", "most"], [], T.g_read_widths, F.kp, F.bindsN fun _ _ _ _ _ _ us hl => match us, hl with | [_, _, _], _ => rfl, .nil, ?_⟩
  refine fnG_of F sc_read_widths (fun vs H Q E h => XSp.len (n := 3) (by rintro _ _ ⟨d, e, f, rfl, _⟩; rfl) h) (fun cdv A outer s H vs Q E hg hr h => ?_)
  obtain ⟨G, M, ds, o, hA, hR, ⟨ln, ws, most, rfl, hne, hl, rfl⟩, q⟩ := h
  obtain ⟨v0, _, rfl, r0, v1, _, rfl, r1, v2, _, rfl, r2, rfl⟩ := hR
  refine ⟨_, (pss_cons (ps_for (passes_of rfl) rfl (pi_enum (by rfl) T.n_enumerate (pa_cons (pv 1) pa_nil)) (pg_tup (by rfl) (pgs_cons (pg_name (i := 3) sc_read_widths.nd rfl (by first | exact Or.inl rfl | exact Or.inr rfl)) (pgs_cons (pg_name (i := 4) sc_read_widths.nd rfl (by first | exact Or.inl rfl | exact Or.inr rfl)) pgs_nil))) (pss_one (ps_if (PW.pt (pw_and (pt_cmpR op_gt (pv 3) pe_int (nomark _)) (pw_and1 (PW.pt (pw_or (pt_cmpR op_notIn_seq (pv 4) (pe_tup (pa_cons pe_str (pa_cons pe_str (pa_cons pe_str (pa_cons pe_str pa_nil))))) (by rfl)) (pw_or1 (pt_cmpR op_gt (pv 3) (pv 2) (nomark _)))))))) (pss_one (ps_raise rfl (takes_of rfl rfl rfl rfl) (pmk_own2 T.o_InvalidSyntax (I_InvalidSyntax (P := P) (w := w) (base := base) T) (hr.mono (by decide)) (by rfl) T.gc_InvalidSyntax (pa_cons (pv 0) (pa_cons (pv 3) pa_nil))))) pss_nil)))
    (pss_cons (ps_if (pt_cmpR op_eq (pe_callB call_len' (by rfl) T.n_len (by decide +kernel) (pa_cons (pv 1) pa_nil)) pe_int (nomark _)) (pss_one (ps_raise rfl (takes_of rfl rfl rfl rfl) (pmk_own2 T.o_InvalidSyntax (I_InvalidSyntax (P := P) (w := w) (base := base) T) (hr.mono (by decide)) (by rfl) T.gc_InvalidSyntax (pa_cons (pv 0) (pa_cons pe_int pa_nil))))) pss_nil)
    (pss_one (ps_ret (pe_callTy call_tupOf (by rfl) T.n_tuple (by decide +kernel) (pa_cons (pe_lc (own := [("word", 4)]) (g := gName 4) (by rfl) sc_read_widths.nd (pi_list (pe_slice sl_list (pv 1) (po_some pe_int) po_none)) (blkOk_by (own := [("word", 4)]) (N := ["line", "words", "most", "place", "word"]) (sc := defScope s_read_widths) (by decide +kernel)) (fun _ _ _ _ _ => (pg_name (i := 4) sc_read_widths.nd rfl (by first | exact Or.inl rfl | exact Or.inr rfl))) (fun _ _ _ _ _ => pts_nil) (fun _ _ _ _ _ => (pe_callTy call_intS (by rfl) T.n_int (by decide +kernel) (pa_cons (pv 4) pa_nil)))) pa_nil)))))), ?_⟩
  rw [show L2.start ["line", "words", "most", "place", "word"] [v0, v1, v2] = [some v0, some v1, some v2, none, none] from rfl]
  dsimp only [xK2]
  obtain ⟨w0, tl, rfl⟩ : ∃ w0 tl, ws = w0 :: tl := by
    cases ws with
    | nil => exact absurd rfl hne
    | cons a b => exact ⟨a, b, rfl⟩
  unfold widthsO wfault at q
  rw [List.tail_cons] at q
  refine s_seq (s_forEI (fun k σ G' M' => (∃ a b, σ = [some v0, some v1, some v2, a, b]) ∧ M' = M ∧ ∀ j, j + 1 < k → ∀ x, tl[j]? = some x → badWd most (1 + j) x = false) (d_var rfl r1) hA (fun e h => h) ⟨⟨none, none, rfl⟩, rfl, fun j hj => by omega⟩ (fun k d hk x σ1 G3 M1 H3 e3 A3 hI rx Nx hN => ?_) fun σ1 G3 M1 H3 e3 A3 hI => ?_)
  · obtain ⟨⟨a, b, rfl⟩, rfl, hI⟩ := hI
    obtain ⟨y, hy, rfl⟩ := dStrs_at hk
    cases k with
    | zero => exact s_ifF (b_andF (TrB.to (b_T (d_op (d_var (K := K) rfl (d := .int ((0 : Nat) : Int)) rfl) d_int rd_gt)) rfl)) A3 fun G4 H4 e4 A4 => s_next (hN _ G4 M1 H4 e4 A4 ⟨⟨_, _, rfl⟩, rfl, fun j hj => by omega⟩)
    | succ k =>
      have hyk : tl[k]? = some y := by simpa using hy
      have c0 : TrB (tTest (tOp (rI0 fun i j => V.bl (decide (j < i))) (tVar 3) (tC (V.int 0)))) [some v0, some v1, some v2, some (.int ((k + 1 : Nat) : Int)), some x] G3 true := TrB.to (b_T (d_op (d_var (K := K) rfl (d := .int ((k + 1 : Nat) : Int)) rfl) d_int rd_gt)) (decide_eq_true (by omega))
      have c1 : TrB _ [some v0, some v1, some v2, some (.int ((k + 1 : Nat) : Int)), some x] G3 (badWd most (1 + k) y) := TrB.to (b_or (b_T (d_op (d_var (i := 4) rfl rx) (d_tup (a_cons d_str (a_cons d_str (a_cons d_str (a_cons d_str a_nil)))) (Nat.le_of_ble_eq_true rfl)) (rd_inT (neg := true) rfl rfl))) fun _ => b_T (d_op (d_var (K := K) (i := 3) rfl (d := .int ((k + 1 : Nat) : Int)) rfl) (d_var (i := 2) rfl (r2.up e3)) rd_gt)) (by
        rw [gt_nat, Nat.add_comm 1 k]
        rfl)
      cases hb : badWd most (1 + k) y with
      | true =>
        refine s_ifT (b_andT c0 (TrB.to c1 hb)) A3 fun G4 H4 e4 A4 => ?_
        rw [fstP_at (p := 1) hyk hb fun j hj x hx => hI j (by omega) x hx] at q
        have ek : ((1 + k : Nat) : Int) = ((k + 1 : Nat) : Int) := by omega
        simp only [ek] at q
        exact s_raise2 (a_cons (d_var rfl (r0.up (e3.trans e4))) (a_cons (d_var (K := K) rfl (d := .int ((k + 1 : Nat) : Int)) rfl) a_nil)) (by decide) A4 (ResX.mono (e3.trans e4) q)
      | false =>
        refine s_ifF (b_andT c0 (TrB.to c1 hb)) A3 fun G4 H4 e4 A4 => s_next (hN _ G4 M1 H4 e4 A4 ⟨⟨_, _, rfl⟩, rfl, fun j hj x hx => ?_⟩)
        by_cases hjk : j = k
        · subst hjk
          rw [hyk] at hx
          cases hx
          exact hb
        · exact hI j (by omega) x hx
  · obtain ⟨⟨a, b, rfl⟩, rfl, hI⟩ := hI
    have hnone : fstP (badWd most) tl 1 = none := fstP_none fun k x hk => hI k (by
      have := (List.getElem?_eq_some_iff.mp hk).1
      rw [dStrs_len, List.length_cons]
      omega) x hk
    rw [hnone] at q
    simp only at q
    have hlen : TrB _ [some v0, some v1, some v2, a, b] G3 (decide (((dStrs (w0 :: tl)).length : Int) = 1)) := b_T (d_op (d_cb (a_cons (d_var (i := 1) rfl (r1.up e3)) a_nil) rc_lenL) (d_int (i := 1)) rd_eqI)
    rw [dStrs_len] at hlen
    by_cases h1 : (w0 :: tl).length = 1
    · rw [if_pos h1] at q
      dsimp only
      exact s_seq (s_ifT (TrB.to hlen (decide_eq_true (by omega))) A3 fun G4 H4 e4 A4 => s_raise2 (a_cons (d_var rfl (r0.up (e3.trans e4))) (a_cons d_int a_nil)) (by decide) A4 (ResX.mono (e3.trans e4) q))
    · rw [if_neg h1] at q
      dsimp only
      refine s_seq (s_ifF (TrB.to hlen (decide_eq_false (by omega))) A3 fun G4 H4 e4 A4 => s_next ?_)
      refine s_ret (d_cb (a_cons (TrD.to (d_lcL (p := fun _ => true) (f := intD) (d_slL (d_var rfl (r1.up (e3.trans e4))) (o_some (K := K) d_int) o_none) ?_ (fun _ _ _ _ _ _ => b_yes) fun d hd _ x G5 e5 rx => ?_) ?_) a_nil) rc_tupL) A4 (Res.mono (e3.trans e4) q)
      · rw [cut_one, List.length_drop, dStrs_len]; omega
      · rw [cut_one] at hd
        have hd2 : d ∈ dStrs tl := hd
        obtain ⟨y, hy, rfl⟩ := mem_strs hd2
        obtain ⟨j, hj⟩ := List.getElem?_of_mem hy
        have hbw := fstP_ok hnone j y hj
        have hin : inD (.str y) [.str "1", .str "2", .str "3", .str "4"] = true := by
          cases z : inD (.str y) [.str "1", .str "2", .str "3", .str "4"] with
          | true => rfl
          | false =>
            unfold badWd at hbw
            rw [z] at hbw
            cases hbw
        obtain ⟨n, hn⟩ : ∃ n : Int, PySem.intText? y = some n := by
          rcases four_in hin with rfl | rfl | rfl | rfl
          · exact ⟨1, by decide +kernel⟩
          · exact ⟨2, by decide +kernel⟩
          · exact ⟨3, by decide +kernel⟩
          · exact ⟨4, by decide +kernel⟩
        have hyl : y.length ≤ 640 := by rcases four_in hin with rfl | rfl | rfl | rfl <;> decide
        refine TrD.to (d_cb (a_cons (d_var rfl rx) a_nil) (rc_intS hn hyl)) ?_
        show _ = PyData.int ((PySem.intText? y).getD 0)
        rw [hn]
        rfl
      · rw [cut_one, filt_true]
        rfl
def R_parse_codeX : List PyData → Out → Prop := fun ds o => ∃ d, ds = [d] ∧ (∀ t, d = .str t → t.length ≤ 90000) ∧ o = parseO d
theorem F_parse_code (T : Tx K mg) : Fd P w K mg base (L2.CX P w) 8 "parse_code" (XSp K R_parse_codeX) [] := by
  obtain ⟨fd, F⟩ := T.f_parse_code
  refine ⟨_, fd, ["text"], [], T.g_parse_code, F.kp, F.bindsN fun _ _ _ _ _ _ us hl => match us, hl with | [_], _ => rfl, .nil, ?_⟩
  refine fnG_of F sc_parse_code (fun vs H Q E h => XSp.len (n := 1) (by rintro _ _ ⟨d, rfl, _⟩; rfl) h) (fun cdv A outer s H vs Q E hg hr h => ?_)
  obtain ⟨G, M, ds, o, hA, hR, ⟨d, rfl, hz, rfl⟩, q⟩ := h
  obtain ⟨v0, _, rfl, r0, rfl⟩ := hR
  refine ⟨_, (pss_cons (ps_if (pt_not (pt_val (pe_callB call_isi (by rfl) T.n_isinstance (by decide +kernel) (pa_cons (pv 0) (pa_cons (pe_bltn (v := .ty "str") (u := .type "str") (by rfl) T.n_str (by decide +kernel) rfl) pa_nil))))) (pss_one (ps_raise rfl (takes_of rfl rfl rfl rfl) (pmk_own2 T.o_InvalidSyntax (I_InvalidSyntax (P := P) (w := w) (base := base) T) (hr.mono (by decide)) (by rfl) T.gc_InvalidSyntax (pa_cons pe_non (pa_cons pe_non pa_nil))))) pss_nil)
    (pss_cons (ps_set (i := 1) sc_parse_code.nd rfl (by first | exact Or.inl rfl | exact Or.inr rfl) pe_dnewK)
    (pss_cons (ps_set (i := 2) sc_parse_code.nd rfl (by first | exact Or.inl rfl | exact Or.inr rfl) (pe_split (pv 0) pe_str))
    (pss_cons (ps_for (passes_of rfl) rfl (pi_enum (by rfl) T.n_enumerate (pa_cons (pv 2) pa_nil)) (pg_tup (by rfl) (pgs_cons (pg_name (i := 3) sc_parse_code.nd rfl (by first | exact Or.inl rfl | exact Or.inr rfl)) (pgs_cons (pg_name (i := 4) sc_parse_code.nd rfl (by first | exact Or.inl rfl | exact Or.inr rfl)) pgs_nil))) (pss_cons (ps_set (i := 5) sc_parse_code.nd rfl (by first | exact Or.inl rfl | exact Or.inr rfl) (pe_split (pv 4) pe_str)) (pss_cons (ps_if (pt_not (pt_val (pe_fd (F_may_stand (P := P) (w := w) (base := base) T) hg (hr.mono (by decide)) pass0 (pa_cons (pe_ix ix_list (pv 5) pe_int (fun _ _ => rfl)) (pa_cons (pv 1) pa_nil))))) (pss_one (ps_raise rfl (takes_of rfl rfl rfl rfl) (pmk_own2 T.o_InvalidSyntax (I_InvalidSyntax (P := P) (w := w) (base := base) T) (hr.mono (by decide)) (by rfl) T.gc_InvalidSyntax (pa_cons (pv 3) (pa_cons pe_int pa_nil))))) pss_nil) (pss_one (ps_dput (hu_of hr) (pv 1) (pe_ix ix_list (pv 5) pe_int (fun _ _ => rfl)) (pe_fd (F_read_widths (P := P) (w := w) (base := base) T) hg (hr.mono (by decide)) (passes_call (takes_of rfl rfl rfl rfl) fun _ _ _ _ h => h) (pa_cons (pv 3) (pa_cons (pv 5) (pa_cons (pe_ifExp (pt_cmpR op_eq (pe_ix ix_list (pv 5) pe_int (fun _ _ => rfl)) pe_str (nomark _)) pe_int pe_int) pa_nil)))) rfl)))))
    (pss_cons (ps_if (pt_cmp (pc_dnotin (hu_of hr) pe_str (pv 1)) (by rfl)) (pss_one (ps_raise rfl (takes_of rfl rfl rfl rfl) (pmk_own2 T.o_InvalidSyntax (I_InvalidSyntax (P := P) (w := w) (base := base) T) (hr.mono (by decide)) (by rfl) T.gc_InvalidSyntax (pa_cons (pe_callB call_len' (by rfl) T.n_len (by decide +kernel) (pa_cons (pv 2) pa_nil)) (pa_cons pe_int pa_nil))))) pss_nil)
    (pss_cons (ps_setDc (i := 6) (own := [("name", 7)]) (g := gName 7) (by rfl) sc_parse_code.nd rfl rfl (sw_trueD rfl rfl rfl (by decide +kernel)) (pi_list (pe_callB (call_sortedD' rfl) (by rfl) T.n_sorted (by decide +kernel) (pa_cons (pv 1) pa_nil))) (blkOk_by (own := [("name", 7)]) (N := ["text", "found", "lines", "line", "row", "words", "characters", "name"]) (sc := defScope s_parse_code) (by decide +kernel)) (fun _ _ _ _ _ => (pg_name (i := 7) sc_parse_code.nd rfl (by first | exact Or.inl rfl | exact Or.inr rfl))) (fun _ _ _ _ _ => (pts_one (pt_val (pe_fd (F_is_name (P := P) (w := w) (base := base) T) hg (hr.mono (by decide)) pass0 (pa_cons (pv 7) pa_nil))))) (fun _ _ _ _ _ => (pv 7)) (fun _ _ _ _ _ => (pe_dget (hu_of hr) (pv 1) (pv 7) (fun _ _ => rfl))))
    (pss_one (ps_ret (pe_tup (pa_cons (pe_dget (hu_of hr) (pv 1) pe_str (fun _ _ => rfl)) (pa_cons (pv 6) (pa_cons (pe_dget2 (hu_of hr) (pv 1) pe_str (pe_tup pa_nil) ⟨by rfl, by rfl, by rfl, by rfl⟩) (pa_cons (pe_dget (hu_of hr) (pv 1) pe_str (fun _ _ => rfl)) pa_nil))))))))))))), ?_⟩
  rw [show L2.start ["text", "found", "lines", "line", "row", "words", "characters", "name"] [v0] = [some v0, none, none, none, none, none, none, none] from rfl]
  dsimp only [xK2]
  by_cases hd : ∃ t, d = .str t
  · obtain ⟨t, rfl⟩ := hd
    have z1 := hz t rfl
    refine q_guardF (TrB.to (b_not (b_B (d_isi (n := "str") (d_var rfl r0)))) rfl) hA fun G1 H1 e1 A1 => ?_
    refine q_newD A1 fun p H2 hM hG A2 => ?_
    refine q_set (d_split (d_var rfl (r0.up e1)) d_str rfl (Nat.le_trans (Nat.add_le_add_right z1 2) (by decide))) A2 fun v2 G2 H3 e2 A3 r2 => ?_
    obtain ⟨hrl, hrw⟩ := split_bd t "\n" (by decide +kernel) (by decide +kernel)
    unfold parseO pfT at q
    simp only at q
    generalize hrows : Txt.split t "\n" = rows at r2 q hrl hrw
    have hwords : ∀ row ∈ rows, row.length ≤ 90000 ∧ (wordsT row).length ≤ 90001 ∧ ∀ w ∈ wordsT row, w.length ≤ 90000 := fun row hr => by
      have h1 := (hrw row hr).1
      obtain ⟨h2, h3⟩ := split_bd row " " (by decide +kernel) (by decide +kernel)
      refine ⟨by omega, by unfold wordsT; omega, fun w hw => ?_⟩
      have := (h3 w hw).1
      omega
    refine s_seq (s_forEI (fun k σ G M1 => ∃ es st names a b cc, σ = [some v0, some (.ref p), some v2, a, b, cc, none, none] ∧ M1 = upd M p (.dK es) ∧ RpD K G (keysD (entK (rows.take k))) es ∧ Shp st names ((entK (rows.take k)).map (·.1)) ∧ pfA rows 0 0 [] = pfA (rows.drop k) k st names ∧ (0 < k → st ≠ 0) ∧ ((entK (rows.take k)).map (·.1)).Nodup)
      (d_var rfl r2) A3 ?_ ⟨[], 0, [], none, none, none, rfl, rfl, rfl, ⟨fun _ h => (by cases h), by simp, .inl ⟨rfl, rfl, rfl⟩⟩, by rw [List.drop_zero], fun h => by omega, .nil⟩ (fun k d hd x σ1 G3 M1 H4 e3 A4 hI rx Nx hN => ?_) fun σ1 G3 M1 H4 e3 A4 hI => ?_)
    · rintro k σ1 Ga Gb M1 e ⟨es, st, names, a, b, cc, h1, h2, h3, h4⟩
      exact ⟨es, st, names, a, b, cc, h1, h2, h3.up e, h4⟩
    · obtain ⟨es, st, names, a, b, cc, rfl, rfl, re, S, hpf, hst, hnd⟩ := hI
      obtain ⟨row, hrow, rfl⟩ := dStrs_at hd
      obtain ⟨hb1, hb2, hb3⟩ := hwords row (List.mem_of_getElem? hrow)
      have hMp : M p = none := hM
      obtain ⟨hk2, hk3⟩ := List.getElem?_eq_some_iff.mp hrow
      have hdrop : rows.drop k = row :: rows.drop (k + 1) := by rw [List.drop_eq_getElem_cons hk2, hk3]
      have htake : rows.take (k + 1) = rows.take k ++ [row] := by rw [List.take_add_one, hrow]; rfl
      rw [hdrop] at hpf
      have hwe := words_eq row
      refine q_set (d := .list (dStrs (headT row :: restT row))) (TrD.to (d_split (d_var rfl rx) d_str rfl (Nat.le_trans (Nat.add_le_add_right hb1 2) (by decide))) (by rw [← hwe]; rfl)) A4 fun v5 G5 H5 e5 A5 r5 => ?_
      have hGp : G5 p = none := A5.d _ _ upd_same
      have eG : Ex G5 (upd G5 p (.dK es)) := Ex.new hGp
      have hkl : (entK (rows.take k)).length ≤ 13 := by
        have := S.len
        rw [List.length_map] at this
        exact this
      have hmay : TrB _ [some v0, some (V.ref p), some v2, some (V.int k), some x, some v5, none, none] (upd G5 p (.dK es)) (!mayS (headT row) ((entK (rows.take k)).map (·.1))) := TrB.to (b_not (b_B (d_call0 (E := E0) (a_cons (d_op (d_var (i := 5) rfl (r5.up eG)) (d_int (i := 0)) (rd_ixL (at_zero _ _))) (a_cons (d_var (i := 1) rfl (d := .dict (keysD (entK (rows.take k)))) ⟨p, es, rfl, upd_same, re.up (e5.trans eG)⟩) a_nil)) (R := R_may_stand) ⟨headT row, entK (rows.take k), rfl, by omega, by
          have := hb3 (headT row) (by rw [hwe]; exact List.mem_cons_self ..)
          omega, fun y hy => by
          unfold entK at hy
          rw [List.map_map] at hy
          obtain ⟨r2, hr2, rfl⟩ := List.mem_map.mp hy
          have := (hwords r2 (List.mem_of_mem_take hr2)).2.2 (headT r2) (by rw [words_eq r2]; exact List.mem_cons_self ..)
          show (headT r2).length ≤ _
          omega, rfl⟩))) rfl
      rw [may_stp S] at hmay
      rw [pfA_cons] at hpf
      cases hs : stp st names (headT row) with
      | none =>
        rw [hs] at hpf hmay
        rw [hpf] at q
        refine s_seq (s_iffz hmay hGp hMp A5 (fun _ G6 H6 e6 A6 => ?_) (fun z => by cases z))
        exact s_raise2 (a_cons (d_var (K := K) rfl (d := .int k) rfl) (a_cons d_int a_nil)) (by decide) (A6.drop (Ex.new hMp)) (ResX.mono (((((e1.trans e2).trans e3).trans e5).trans e6)) q)
      | some p2 =>
        obtain ⟨st', names'⟩ := p2
        rw [hs] at hpf hmay
        obtain ⟨S', hnew, hst'⟩ := stp_shp S hs
        refine q_guardFfz (G := G5) (M := M) (p := p) (o := .dK es) hmay hGp hMp A5 fun G6 H6 e6 A6 => ?_
        have hif : TrD K (tIf (tTest (tOp rEq (tOp (rIxL K) (tVar 5) (tC (V.int 0))) (tC (V.str (Str.ofString "between"))))) (tC (V.int 2)) (tC (V.int 6))) [some v0, some (V.ref p), some v2, some (V.int k), some x, some v5, none, none] G6 (.int (mostW (headT row))) := by
          refine d_if (b_T (d_op (d_op (d_var rfl (r5.up e6)) d_int (rd_ixL (at_zero _ _))) d_str rd_eqS)) (fun h => TrD.to d_int ?_) fun h => TrD.to d_int ?_
          · unfold mostW
            rw [if_pos (of_decide_eq_true h)]
            rfl
          · unfold mostW
            rw [if_neg (of_decide_eq_false h)]
            rfl
        have hargs : TrA K _ [some v0, some (V.ref p), some v2, some (V.int k), some x, some v5, none, none] G6 [.int (k : Int), .list (dStrs (headT row :: restT row)), .int (mostW (headT row))] := a_cons (d_var (i := 3) rfl (d := .int k) rfl) (a_cons (d_var (i := 5) rfl (r5.up e6)) (a_cons hif a_nil))
        have hRw : R_read_widths [.int (k : Int), .list (dStrs (headT row :: restT row)), .int (mostW (headT row))] (widthsO k (mostW (headT row)) (headT row :: restT row)) := ⟨k, headT row :: restT row, mostW (headT row), rfl, by simp, by rw [← hwe]; omega, rfl⟩
        simp only at hpf
        rw [hwe] at hpf
        unfold widthsO at hRw
        have E6 : Ex G G6 := (((e1.trans e2).trans e3).trans e5).trans e6
        cases hw : wfault (mostW (headT row)) (headT row :: restT row) with
        | some p3 =>
          rw [hw] at hpf hRw
          simp only at hpf hRw
          rw [hpf] at q
          exact w_callX hargs hRw (A6.drop (Ex.new hMp)) (ResX.mono E6 q)
        | none =>
          rw [hw] at hpf hRw
          simp only at hpf hRw
          refine s_dput (es := es) (x := headT row) (d := .tuple ((dStrs (restT row)).map intD)) rfl upd_same (d_callX hargs hRw) (d_op (d_var rfl (r5.up e6)) d_int (rd_ixL (at_zero _ _))) (by
            have z := re.len
            rw [keysD_len] at z
            omega) A6 fun v7 G7 H7 e7 A7 r7 => ?_
          rw [upd_upd] at A7
          have hfresh : valV es (Sum.inr (headT row)) = none := (RpD.val (x := headT row) re).2 (look_no hnew)
          rw [putK_new _ hfresh] at A7
          have hent : entK (rows.take (k + 1)) = entK (rows.take k) ++ [(headT row, .tuple ((dStrs (restT row)).map intD))] := by
            rw [htake]
            unfold entK
            rw [List.map_append]
            rfl
          have hmap : (entK (rows.take (k + 1))).map (·.1) = (entK (rows.take k)).map (·.1) ++ [headT row] := by rw [hent, List.map_append]; rfl
          refine hN _ G7 _ H7 ((e5.trans e6).trans e7) A7 ⟨_, st', names', _, _, _, rfl, rfl, ?_, ?_, hpf, fun _ => hst', ?_⟩
          · rw [hent]
            unfold keysD
            rw [List.map_append]
            exact (re.up ((e5.trans e6).trans e7)).snoc rfl r7
          · rw [hmap]
            exact S'
          · rw [hmap]
            refine List.nodup_append.mpr ⟨hnd, by simp, fun a ha b hb => ?_⟩
            rw [List.mem_singleton.mp hb]
            intro z
            rw [z] at ha
            exact hnew ha
    · obtain ⟨es, st, names, a, b, cc, rfl, rfl, re, S, hpf, hst, hnd⟩ := hI
      rw [dStrs_len, List.take_length] at re S hnd
      rw [dStrs_len, List.drop_length] at hpf
      have hpf' : pfA rows 0 0 [] = if st = 4 then none else some (rows.length, 0) := hpf
      rw [dStrs_len] at hst
      obtain ⟨G4, e4, A5, r1⟩ := At.doneD A4 hM re
      have E4 : Ex G G4 := ((e1.trans e2).trans e3).trans e4
      have hnin : TrB _ [some v0, some (V.ref p), some v2, a, b, cc, none, none] G4 (!(lookD (entK rows) "stop").isSome) := b_B (v_dnin (x := "stop") d_str (d_var (i := 1) rfl r1))
      rw [look_some] at hnin
      by_cases h4 : st = 4
      · rw [if_pos h4] at hpf'
        rw [hpf'] at q
        have hstop := S.stop.mpr h4
        obtain ⟨rr, hrr⟩ := S.start (by omega)
        have hstart : ("start" : Str) ∈ (entK rows).map (·.1) := by rw [hrr]; exact List.mem_cons_self ..
        have hkl : (entK rows).length ≤ 13 := by
          have := S.len
          rw [List.length_map] at this
          exact this
        dsimp only
        refine s_seq (s_ifF (TrB.to hnin (by rw [decide_eq_true hstop]; rfl)) A5 fun G5 H5 e5 A6 => s_next ?_)
        have hfil : (dStrs (srt ((entK rows).map (·.1)))).filter isNameD = dStrs ((srt ((entK rows).map (·.1))).filter isNameS) := by
          unfold dStrs
          rw [List.filter_map]
          rfl
        have hfil2 : ((dStrs (srt ((entK rows).map (·.1)))).filter isNameD).map (fun d => match d with | .str x => x | _ => ("" : Str)) = (srt ((entK rows).map (·.1))).filter isNameS := by
          rw [hfil]
          unfold dStrs
          rw [List.map_map]
          exact List.map_id _
        have hlen : ∀ z ∈ srt ((entK rows).map (·.1)), z.length ≤ 90000 := by
          intro z hz
          have hm := (srt_perm _).mem_iff.mp hz
          unfold entK at hm
          rw [List.map_map] at hm
          obtain ⟨row, hr2, rfl⟩ := List.mem_map.mp hm
          exact (hwords row hr2).2.2 (headT row) (by rw [words_eq row]; exact List.mem_cons_self ..)
        refine s_seq (s_set (TrD.to (d_dcL (tl := tVar 0) (p := isNameD) (kf := fun d => match d with | .str x => x | _ => ("" : Str)) (f := fun d => match d with | .str x => (lookD (entK rows) x).getD .none | _ => .none) (d_cb (a_cons (d_var rfl (r1.up e5)) a_nil) (rc_sortD (by omega))) ?_ ?_ (fun d hd y Gx ex ry => ?_) (fun d hd hp y Gx ex ry => ?_) fun d hd hp y Gx ex ry => ?_) (d2 := .dict (keysD (((srt ((entK rows).map (·.1))).filter isNameS).map fun x => (x, (lookD (entK rows) x).getD .none)))) ?_) A6 fun v6 G6 H6 e6 A7 r6 => ?_)
        · unfold dStrs
          rw [List.length_map, (srt_perm _).length_eq, List.length_map]
          omega
        · rw [hfil2]
          exact ((srt_perm _).nodup_iff.mpr hnd).filter _
        · obtain ⟨z, hz, rfl⟩ := mem_strs hd
          exact b_B (TrD.to (d_call0 (a_cons (d_var rfl ry) a_nil) ⟨.str z, rfl, fun x hx => by cases hx; have := hlen z hz; omega, rfl⟩) rfl)
        · obtain ⟨z, hz, rfl⟩ := mem_strs hd
          exact d_var rfl ry
        · obtain ⟨z, hz, rfl⟩ := mem_strs hd
          exact d_dget (d_var rfl (r1.up (e5.trans ex))) (d_var rfl ry) (look_ent ((srt_perm _).mem_iff.mp hz))
        · rw [hfil]
          unfold dStrs
          rw [List.map_map]
          rfl
        · have hd1 := r1.up (e5.trans e6)
          refine s_ret (d_tup (a_cons (d_dget (d_var rfl hd1) d_str (look_ent hstart)) (a_cons (d_var rfl r6) (a_cons (d_get2 (d1 := .tuple []) (d_var rfl hd1) d_str (d_tup a_nil (Nat.le_of_ble_eq_true rfl)) ?_) (a_cons (d_dget (d_var rfl hd1) d_str (look_ent hstop)) a_nil)))) (show (4 : Nat) ≤ 100000 by decide)) A7 (Res.mono ((E4.trans e5).trans e6) q)
          cases z : lookD (entK rows) "between" with
          | none => exact .inr ⟨rfl, rfl⟩
          | some d => exact .inl rfl
      · rw [if_neg h4] at hpf'
        rw [hpf'] at q
        dsimp only
        refine s_seq (s_ifT (TrB.to hnin (by rw [decide_eq_false fun z => h4 (S.stop.mp z)]; rfl)) A5 fun G5 H5 e5 A6 => ?_)
        refine s_raise2 (d1 := .int (rows.length : Nat)) (a_cons (TrD.to (d_cb (a_cons (d_var rfl (r2.up ((e3.trans e4).trans e5))) a_nil) rc_lenL) (by rw [dStrs_len])) (a_cons d_int a_nil)) (by decide) A6 (ResX.mono (E4.trans e5) q)
  · have e : parseO d = excS .none .none := by cases d <;> first | rfl | exact absurd ⟨_, rfl⟩ hd
    rw [e] at q
    refine q_guardT (TrB.to (b_not (b_B (d_isi (n := "str") (d_var rfl r0)))) (by cases d <;> first | rfl | exact absurd ⟨_, rfl⟩ hd)) hA fun G1 H1 e1 A1 => ?_
    exact s_raise2 (a_cons d_non (a_cons d_non a_nil)) (by decide) A1 (ResX.mono e1 q)
end
end K80

namespace K80
open PySem PySem.Spec PyProof.Rows L2 Sb
local macro_rules | `(tactic| walk_at "ex") => `(tactic| first | exact Ex.refl _ | assumption | (refine' Ex.trans ?_ (by assumption); walk_at "ex"))
local macro_rules | `(tactic| walk_at "rp") => `(tactic| first | assumption | (refine' Rp.up ?e (by assumption); (case e => walk_at "ex")) | exact rfl)
local macro_rules | `(tactic| walk_at "rd") => `(tactic| with_reducible first | exact rd_add | exact rd_sub | exact rd_lt | exact rd_le | exact rd_gt | exact rd_ge | exact rd_eqI | exact rd_neI | exact rd_eqS | exact rd_neS | exact rd_isN | exact rd_ltS | exact rd_inSign | exact rd_eqE)
local macro_rules | `(tactic| walk_at "tr") => `(tactic| first
  | with_reducible exact d_int
  | with_reducible exact d_str
  | with_reducible exact d_bl
  | with_reducible exact d_non
  | with_reducible exact a_nil
  | with_reducible exact b_yes
  | with_reducible exact o_none
  | with_reducible exact d_newD
  | ((with_reducible refine' d_var ?i ?r); (case i => rfl); (case r => walk_at "rp"))
  | ((with_reducible refine' a_cons ?a ?b); (case a => walk_at "tr"); (case b => walk_at "tr"))
  | ((with_reducible refine' a_star ?a ?b); (case a => walk_at "tr"); (case b => walk_at "tr"))
  | ((with_reducible refine' d_isi ?a ?b); (case a => walk_at "tr"); (case b => decide))
  | ((with_reducible refine' d_op ?a ?b ?c); (case a => walk_at "tr"); (case b => walk_at "tr"); (case c => walk_at "rd"))
  | ((with_reducible refine' d_tup ?a ?b); (case a => walk_at "tr"); (case b => first | decide | (simp; done)))
  | ((with_reducible refine' d_lst ?a ?b); (case a => walk_at "tr"); (case b => first | decide | (simp; done)))
  | ((with_reducible refine' o_some ?a); (case a => walk_at "tr"))
  | ((with_reducible refine' b_B ?a); (case a => walk_at "tr"))
  | ((with_reducible refine' b_T ?a); (case a => walk_at "tr"))
  | ((with_reducible refine' b_not ?a); (case a => walk_at "tr"))
  | ((with_reducible refine' v_not ?a); (case a => walk_at "tr"))
  | ((with_reducible refine' b_or ?a ?b); (case a => walk_at "tr"); (case b => intro _; walk_at "tr"))
  | ((with_reducible refine' b_and ?a ?b); (case a => walk_at "tr"); (case b => intro _; walk_at "tr"))
  | ((with_reducible refine' v_or ?a ?b); (case a => walk_at "tr"); (case b => intro _; walk_at "tr"))
  | ((with_reducible refine' v_and ?a ?b); (case a => walk_at "tr"); (case b => intro _; walk_at "tr"))
  | assumption)


section
variable {P : Program} {w : World} {K : PySem.W.Frag} {mg : Str → Option Value} {base : Heap}
def R_told : List PyData → PyData → Prop := fun ds r => ∃ d, ds = [d] ∧ (∀ t, d = .str t → t.length ≤ 90000) ∧ r = .list (toldD d)
theorem F__law_told (T : Tx K mg) : Fd P w K mg base CX0 9 "_law_told" (PSp K R_told) [] := by
  obtain ⟨fd, F⟩ := T.f__law_told
  refine ⟨_, fd, ["value"], [], T.g__law_told, F.kp, F.bindsN fun _ _ _ _ _ _ us hl => match us, hl with | [_], _ => rfl, .nil, ?_⟩
  refine fnG_of F sc__law_told (fun vs H Q E h => PSp.len (n := 1) (by rintro _ _ ⟨d, rfl, _⟩; rfl) h) (fun cdv A outer s H vs Q E hg hr h => ?_)
  obtain ⟨G, M, ds, r, hA, hR, ⟨d, rfl, hz, rfl⟩, q⟩ := h
  obtain ⟨v0, _, rfl, r0, rfl⟩ := hR
  refine ⟨_, PSs.nox (pss_cons (ps_set (i := 1) sc__law_told.nd rfl (by first | exact Or.inl rfl | exact Or.inr rfl) (pe_lst pa_nil))
    (pss_cons (ps_try_fst (i := 2) rfl rfl sc__law_told.nd rfl rfl ⟨by rfl, by decide, .inl T.gc_InvalidSyntax⟩ (fun W pn xe tk po => (pss_one (ps_expr (pe_fdS (F_parse_code (P := P) (w := w) (base := base) T) hg (hr.mono (by decide)) (fun σ => passAt tk σ) (pa_cons (pv 0) pa_nil))))) (fun a oe cls d pn hz hf => (pss_one (ps_set (i := 1) sc__law_told.nd rfl (by first | exact Or.inl rfl | exact Or.inr rfl) (pe_lst (pa_cons (pe_xf T.o_InvalidSyntax.f T.na_InvalidSyntax_line hz hf (pv 2)) (pa_cons (pe_xf T.o_InvalidSyntax.f T.na_InvalidSyntax_word hz hf (pv 2)) pa_nil)))))))
    (pss_one (ps_ret (pv 1))))), ?_⟩
  rw [show L2.start ["value", "told", "e"] [v0] = [some v0, none, none] from rfl]
  dsimp only [xK]
  refine q_set (K := K) (d_lst a_nil) hA fun v1 G1 H1 e1 A1 r1 => ?_
  refine s_seq ?_
  have fin : ∀ (x y : PyData), toldD d = [x, y] → ∀ dd gs G2 H2, Ex G1 G2 → At G2 M H2 → G2 dd = some (.xd gs) → (∀ f r, (f, r) ∈ [(("line" : Str), x), ("word", y)] → ∃ v, gs.lookup f = some v ∧ Rp K G2 r v) → ∀ a, ∀ D : Ends, D.nx = (tRet (tVar 1) { nx := fun x H' => Q V.non H', rt := Q }) →
      (tAsg (tLst (tCons (tXf a (.ref (He.ga K "InvalidSyntax")) (some dd) (He.ga K "InvalidSyntax") "line" (tVar 2)) (tCons (tXf a (.ref (He.ga K "InvalidSyntax")) (some dd) (He.ga K "InvalidSyntax") "word" (tVar 2)) tNil))) (gName 1))
        { nx := fun τ J => D.nx (τ.set 2 none) J, rt := D.rt, bk := fun τ J => D.bk (τ.set 2 none) J, ct := fun τ J => D.ct (τ.set 2 none) J } [some v0, some v1, some (.ref a)] H2 := by
    intro x y hxy dd gs G2 H2 e2 A2 hg2 hf a D hD
    obtain ⟨vl, hvl, rvl⟩ := hf "line" x (List.mem_cons_self ..)
    obtain ⟨vw, hvw, rvw⟩ := hf "word" y (List.mem_cons_of_mem _ (List.mem_cons_self ..))
    refine s_set (d := .list [x, y]) (d_lst (a_cons (d_xf rfl hg2 hvl rvl) (a_cons (d_xf rfl hg2 hvw rvw) a_nil)) (Nat.le_of_ble_eq_true rfl)) A2 fun v3 G3 H3 e3 A3 r3 => ?_
    show D.nx _ _
    rw [hD]
    refine s_ret (d_var rfl r3) A3 ?_
    rw [← hxy]
    exact q.mono ((e1.trans e2).trans e3)
  cases ho : parseO d with
  | val r =>
    have ht : toldD d = [] := by
      cases d with
      | str t =>
        unfold parseO at ho
        unfold toldD faultI
        simp only at ho ⊢
        cases hf : pfT t with
        | none => rfl
        | some p => rw [hf] at ho; cases ho
      | _ => cases ho
    refine s_drop (d_callS (a_cons (d_var rfl (r0.up e1)) a_nil) ⟨d, rfl, hz, ho.symm⟩) A1 fun G2 H2 e2 A2 => ?_
    refine s_ret (d_var rfl (r1.up e2)) A2 ?_
    rw [← ht]
    exact q.mono (e1.trans e2)
  | exc x fs =>
    obtain ⟨x1, y1, hxy, rfl, rfl⟩ : ∃ x1 y1, toldD d = [x1, y1] ∧ x = "InvalidSyntax" ∧ fs = [(("line" : Str), x1), (("word" : Str), y1)] := by
      cases d with
      | str t =>
        unfold parseO at ho
        simp only at ho
        cases hf : pfT t with
        | none => rw [hf] at ho; cases ho
        | some p =>
          rw [hf] at ho
          cases ho
          refine ⟨_, _, ?_, rfl, rfl⟩
          unfold toldD faultI
          simp only [hf]
          rfl
      | _ => cases ho; exact ⟨_, _, rfl, rfl, rfl⟩
    refine w_callS (a_cons (d_var rfl (r0.up e1)) a_nil) (R := R_parse_codeX) ⟨d, rfl, hz, ho.symm⟩ A1 ?_
    intro dd gs G2 H2 e2 A2 hg2 hf
    exact ⟨T.x_InvalidSyntax_InvalidSyntax, fun a ha => fin x1 y1 hxy dd gs G2 H2 e2 A2 hg2 hf a _ rfl⟩
def stT (st : Nat) : Str := match st with
  | 0 => "start"
  | 1 => "first"
  | 2 => "next"
  | 3 => "last"
  | _ => "over"
theorem stT_eq {a b : Nat} (ha : a < 4) (hb : b < 5) : decide (stT a = stT b) = decide (a = b) := by
  have h : ∀ a : Fin 4, ∀ b : Fin 5, decide (stT a.val = stT b.val) = decide (a.val = b.val) := by decide +kernel
  exact h ⟨a, ha⟩ ⟨b, hb⟩
theorem over_eq {a : Nat} (ha : a < 5) : decide (stT a = "over") = decide (a = 4) := by
  have h : ∀ a : Fin 5, decide (stT a.val = "over") = decide (a.val = 4) := by decide +kernel
  exact h ⟨a, ha⟩
theorem in_nl {a : Nat} (ha : a < 4) : inD (.str (stT a)) [.str "next", .str "last"] = decide (a = 2 ∨ a = 3) := by
  have h : ∀ a : Fin 4, inD (.str (stT a.val)) [.str "next", .str "last"] = decide (a.val = 2 ∨ a.val = 3) := by decide +kernel
  exact h ⟨a, ha⟩
theorem in_fn {a : Nat} (ha : a < 4) : inD (.str (stT a)) [.str "first", .str "next"] = decide (a = 1 ∨ a = 2) := by
  have h : ∀ a : Fin 4, inD (.str (stT a.val)) [.str "first", .str "next"] = decide (a.val = 1 ∨ a.val = 2) := by decide +kernel
  exact h ⟨a, ha⟩
theorem all_filt (f : Str → Bool) (l : List Str) : l.all f = (l.filter fun z => !f z).isEmpty := by
  induction l with
  | nil => rfl
  | cons a l ih =>
    rw [List.all_cons, List.filter_cons]
    cases f a with
    | true => rw [if_neg (by decide), Bool.true_and]; exact ih
    | false => rfl
def R_fault : List PyData → PyData → Prop := fun ds r => ∃ t, ds = [.str t] ∧ t.length ≤ 90000 ∧ r = .list (dInts (faultI t))
theorem F__law_fault (T : Tx K mg) : Fd P w K mg base CX0 1 "_law_fault" (PSp K R_fault) [] := by
  obtain ⟨fd, F⟩ := T.f__law_fault
  refine ⟨_, fd, ["text"], [], T.g__law_fault, F.kp, F.bindsN fun _ _ _ _ _ _ us hl => match us, hl with | [_], _ => rfl, .nil, ?_⟩
  refine fnG_of F sc__law_fault (fun vs H Q E h => PSp.len (n := 1) (by rintro _ _ ⟨d, rfl, _⟩; rfl) h) (fun cdv A outer s H vs Q E hg hr h => ?_)
  obtain ⟨G, M, ds, r, hA, hR, ⟨t, rfl, z1, rfl⟩, q⟩ := h
  obtain ⟨v0, _, rfl, r0, rfl⟩ := hR
  refine ⟨_, PSs.nox (pss_cons (ps_par3 (i := 1) (j := 2) (l := 3) (by rfl) sc__law_fault.nd rfl rfl rfl (by decide) (by decide) (by decide) rfl rfl rfl (pa_cons (pe_lst pa_nil) (pa_cons pe_str (pa_cons (pe_split (pv 0) pe_str) pa_nil))) (by rfl))
    (pss_cons (ps_for PassesOwn.never rfl (pi_enum (by rfl) T.n_enumerate (pa_cons (pv 3) pa_nil)) (pg_tup (by rfl) (pgs_cons (pg_name (i := 4) sc__law_fault.nd rfl (by first | exact Or.inl rfl | exact Or.inr rfl)) (pgs_cons (pg_name (i := 5) sc__law_fault.nd rfl (by first | exact Or.inl rfl | exact Or.inr rfl)) pgs_nil))) (pss_cons (ps_asg (pe_tup (pa_cons (pe_split (pv 5) pe_str) (pa_cons pe_int pa_nil))) (pg_tup (by rfl) (pgs_cons (pg_name (i := 6) sc__law_fault.nd rfl (by first | exact Or.inl rfl | exact Or.inr rfl)) (pgs_cons (pg_name (i := 7) sc__law_fault.nd rfl (by first | exact Or.inl rfl | exact Or.inr rfl)) pgs_nil)))) (pss_cons (ps_if (pt_cmpR op_eq (pv 2) pe_str (nomark _)) (pss_one (ps_par (i := 8) (j := 2) (by rfl) sc__law_fault.nd rfl rfl (by decide) rfl rfl (pa_cons (pe_cmpR op_eq (pe_ix ix_list (pv 6) pe_int (fun _ _ => rfl)) pe_str (nomark _)) (pa_cons pe_str pa_nil)) (by rfl))) (pss_one (ps_if (pt_cmpR op_eq (pe_ix ix_list (pv 6) pe_int (fun _ _ => rfl)) pe_str (nomark _)) (pss_one (ps_par (i := 8) (j := 2) (by rfl) sc__law_fault.nd rfl rfl (by decide) rfl rfl (pa_cons (pe_cmpR op_in_seq (pv 2) (pe_tup (pa_cons pe_str (pa_cons pe_str pa_nil))) (by rfl)) (pa_cons pe_str pa_nil)) (by rfl))) (pss_one (ps_if (pt_cmpR op_eq (pe_ix ix_list (pv 6) pe_int (fun _ _ => rfl)) pe_str (nomark _)) (pss_one (ps_par3 (i := 8) (j := 2) (l := 7) (by rfl) sc__law_fault.nd rfl rfl rfl (by decide) (by decide) (by decide) rfl rfl rfl (pa_cons (pe_cmpR op_eq (pv 2) pe_str (nomark _)) (pa_cons pe_str (pa_cons pe_int pa_nil))) (by rfl))) (pss_cons (ps_set (i := 8) sc__law_fault.nd rfl (by first | exact Or.inl rfl | exact Or.inr rfl) (pe_and (pe_cmpR op_eq (pe_callB call_len' (by rfl) T.n_len (by decide +kernel) (pa_cons (pe_ix ix_list (pv 6) pe_int (fun _ _ => rfl)) pa_nil)) pe_int (nomark _)) (pe_one (pe_cmpR op_in_sign (pe_ix ix_list (pv 6) pe_int (fun _ _ => rfl)) pe_str (by rfl))))) (pss_cons (ps_set (i := 8) sc__law_fault.nd rfl (by first | exact Or.inl rfl | exact Or.inr rfl) (pe_and (pv 8) (pe_and (pe_cmpR op_in_seq (pv 2) (pe_tup (pa_cons pe_str (pa_cons pe_str pa_nil))) (by rfl)) (pe_one (pe_cmpR (op_eqR hr.units) (pe_lc (own := [("name", 10)]) (g := gName 10) (by rfl) sc__law_fault.nd (pi_list (pv 1)) (blkOk_by (own := [("name", 10)]) (N := ["text", "names", "stage", "lines", "line", "row", "words", "most", "is_fine", "spot", "name"]) (sc := defScope s__law_fault) (by decide +kernel)) (fun _ _ _ _ _ => (pg_name (i := 10) sc__law_fault.nd rfl (by first | exact Or.inl rfl | exact Or.inr rfl))) (fun _ _ _ _ _ => (pts_one (pt_cmpR op_ge_str (pv 10) (pe_ix (show IxR _ (rIxL K) from ix_list) (pv 6) pe_int (fun _ _ => rfl)) (nomark _)))) (fun _ _ _ _ _ => (pv 10))) (pe_lst pa_nil) (nomark _)))))) (pss_one (ps_par (i := 1) (j := 2) (by rfl) sc__law_fault.nd rfl rfl (by decide) rfl rfl (pa_cons (pe_op op_cat (pv 1) (pe_lst (pa_cons (pe_ix ix_list (pv 6) pe_int (fun _ _ => rfl)) pa_nil))) (pa_cons pe_str pa_nil)) (by rfl)))))))))) (pss_cons (ps_if (PW.pt (pw_or (pt_not (pt_val (pv 8))) (pw_or1 (pt_cmpR op_gt (pe_callB call_len' (by rfl) T.n_len (by decide +kernel) (pa_cons (pv 1) pa_nil)) pe_int (nomark _))))) (pss_one (ps_ret (pe_lst (pa_cons (pv 4) (pa_cons pe_int pa_nil))))) pss_nil) (pss_cons (ps_for PassesOwn.never rfl (pi_range2 (by rfl) T.n_range (pa_cons pe_int (pa_cons (pe_callB call_len' (by rfl) T.n_len (by decide +kernel) (pa_cons (pv 6) pa_nil)) pa_nil))) (pg_name (i := 9) sc__law_fault.nd rfl (by first | exact Or.inl rfl | exact Or.inr rfl)) (pss_one (ps_if (PW.pt (pw_or (pt_cmpR op_notIn_seq (pe_ix ix_list (pv 6) (pv 9) (fun _ _ => rfl)) (pe_lst (pa_cons pe_str (pa_cons pe_str (pa_cons pe_str (pa_cons pe_str pa_nil))))) (by rfl)) (pw_or1 (pt_cmpR op_gt (pv 9) (pv 7) (nomark _))))) (pss_one (ps_ret (pe_lst (pa_cons (pv 4) (pa_cons (pv 9) pa_nil))))) pss_nil))) (pss_cons (ps_if (pt_cmpR op_eq (pe_callB call_len' (by rfl) T.n_len (by decide +kernel) (pa_cons (pv 6) pa_nil)) pe_int (nomark _)) (pss_one (ps_ret (pe_lst (pa_cons (pv 4) (pa_cons pe_int pa_nil))))) pss_nil) (pss_one (ps_if (pt_cmpR op_eq (pv 2) pe_str (nomark _)) (pss_one (ps_ret (pe_ifExp (pt_cmpR op_lt (pe_op op_add (pv 4) pe_int) (pe_callB call_len' (by rfl) T.n_len (by decide +kernel) (pa_cons (pv 3) pa_nil)) (nomark _)) (pe_lst (pa_cons (pe_op op_add (pv 4) pe_int) (pa_cons pe_int pa_nil))) (pe_lst pa_nil)))) pss_nil))))))))
    (pss_one (ps_ret (pe_lst (pa_cons (pe_callB call_len' (by rfl) T.n_len (by decide +kernel) (pa_cons (pv 3) pa_nil)) (pa_cons pe_int pa_nil))))))), ?_⟩
  rw [show L2.start ["text", "names", "stage", "lines", "line", "row", "words", "most", "is_fine", "spot", "name"] [v0] = [some v0, none, none, none, none, none, none, none, none, none, none] from rfl]
  dsimp only [xK]
  obtain ⟨hrl, hrw⟩ := split_bd t "\n" (by decide +kernel) (by decide +kernel)
  unfold faultI pfT at q
  have hsp : TrD K _ [some v0, none, none, none, none, none, none, none, none, none, none] G (.list (dStrs (Txt.split t "\n"))) := d_split (d_var (i := 0) rfl r0) d_str rfl (Nat.le_trans (Nat.add_le_add_right z1 2) (by decide))
  generalize hrows : Txt.split t "\n" = rows at hsp q hrl hrw
  have hwords : ∀ row ∈ rows, row.length ≤ 90000 ∧ (wordsT row).length ≤ 90001 ∧ ∀ w ∈ wordsT row, w.length ≤ 90000 := fun row hr => by
    have h1 := (hrw row hr).1
    obtain ⟨h2, h3⟩ := split_bd row " " (by decide +kernel) (by decide +kernel)
    refine ⟨by omega, by unfold wordsT; omega, fun w hw => ?_⟩
    have := (h3 w hw).1
    omega
  refine s_seq (s_par3 (d1 := .list (dStrs [])) (d_lst a_nil (Nat.le_of_ble_eq_true rfl)) (d_str (x := "start")) hsp hA fun v1 v2 v3 G1 H1 e1 A1 r1 r2 r3 => ?_)
  obtain rfl : v2 = V.str "start" := r2
  have r3u := r3
  refine s_seq (s_forEI (fun k σ G M' => ∃ st names v1 x4 x5 x6 x7 x8 x9, σ = [some v0, some v1, some (.str (stT st)), some v3, x4, x5, x6, x7, x8, x9, none] ∧ M' = M ∧ Rp K G (.list (dStrs names)) v1 ∧ st < 4 ∧ (∃ ks, Shp st names ks) ∧ pfA rows 0 0 [] = pfA (rows.drop k) k st names)
    (d_var rfl r3) A1 ?_ ⟨0, [], v1, none, none, none, none, none, none, rfl, rfl, r1, by decide, ⟨[], ⟨fun _ h => (by cases h), by simp, .inl ⟨rfl, rfl, rfl⟩⟩⟩, by rw [List.drop_zero]⟩ (fun k d hd x σ1 G3 M1 H4 e3 A4 hI rx Nx hN => ?_) fun σ1 G3 M1 H4 e3 A4 hI => ?_)
  · rintro k σ1 Ga Gb M1 e ⟨st, names, v1, x4, x5, x6, x7, x8, x9, h1, h2, h3, h4⟩
    exact ⟨st, names, v1, x4, x5, x6, x7, x8, x9, h1, h2, h3.up e, h4⟩
  · obtain ⟨st, names, v1, x4, x5, x6, x7, x8, x9, rfl, rfl, r1, hst, ⟨ks, S⟩, hpf⟩ := hI
    obtain ⟨row, hrow, rfl⟩ := dStrs_at hd
    obtain ⟨hb1, hb2, hb3⟩ := hwords row (List.mem_of_getElem? hrow)
    obtain ⟨hk2, hk3⟩ := List.getElem?_eq_some_iff.mp hrow
    have hdrop : rows.drop k = row :: rows.drop (k + 1) := by rw [List.drop_eq_getElem_cons hk2, hk3]
    rw [hdrop, pfA_cons] at hpf
    have hwe := words_eq row
    have hhl : (headT row).length ≤ 90000 := hb3 _ (by rw [hwe]; exact List.mem_cons_self ..)
    refine q_unpack (ds := [.list (dStrs (headT row :: restT row)), .int 6]) (d_tup (a_cons (TrD.to (d_split (d_var rfl rx) d_str rfl (Nat.le_trans (Nat.add_le_add_right hb1 2) (by decide))) (by rw [← hwe]; rfl)) (a_cons d_int a_nil)) (Nat.le_of_ble_eq_true rfl)) rfl A4 fun xs G5 H5 e5 A5 rxs => ?_
    obtain ⟨v6, _, rfl, r6, v7, _, rfl, r7, rfl⟩ := rxs
    refine ⟨v6, [v7], rfl, v7, [], rfl, rfl, ?_⟩
    obtain rfl : v7 = V.int 6 := r7
    dsimp only [List.set]
    have r1' := r1.up e5
    have hw0 : ∀ {v1 v2 v7 : V} {x8 x9 x10 : Option V} {Gx : Hp}, Ex G5 Gx → TrD K (tOp (rIxL K) (tVar 6) (tC (V.int 0))) [some v0, some v1, some v2, some v3, some (.int (k : Nat)), some x, some v6, some v7, x8, x9, x10] Gx (.str (headT row)) := fun ex => d_op (d_var rfl (r6.up ex)) d_int (rd_ixL (at_zero _ _))
    have hstE : ∀ (y : Nat), y < 5 → decide (stT st = stT y) = decide (st = y) := fun y hy => stT_eq hst hy
    refine q_cut (fun σ' H' => ∃ G' v1' v7' b nm st', Ex G5 G' ∧ At G' M1 H' ∧ σ' = [some v0, some v1', some (.str (stT st')), some v3, some (.int (k : Nat)), some x, some v6, some v7', some (.bl b), x9, none] ∧ Rp K G' (.list (dStrs nm)) v1' ∧ nm.length ≤ 11 ∧
      ((stp st names (headT row) = none ∧ (b = false ∨ 10 < nm.length)) ∨ (stp st names (headT row) = some (st', nm) ∧ b = true ∧ nm.length ≤ 10 ∧ v7' = .int (mostW (headT row)) ∧ st' < 5))) ?_ ?_
    · rintro σ' H' ⟨G6, v1', v7', b, nm, st', e6, A6, rfl, rn, hnl, hpost⟩
      have r3' := r3u.up ((e3.trans e5).trans e6)
      have r6' := r6.up e6
      have E6 : Ex G G6 := ((e1.trans e3).trans e5).trans e6
      have hcond : TrB (tOr (tNot (tB (tVar 8))) (tTest (tOp (rI0 fun i j => V.bl (decide (j < i))) (tCB (Sb.rLen K) (tCons (tVar 1) tNil)) (tC (V.int 10))))) [some v0, some v1', some (V.str (stT st')), some v3, some (V.int k), some x, some v6, some v7', some (V.bl b), x9, none] G6 (!b || decide (10 < nm.length)) := b_or (b_not (b_B (d_var (K := K) (i := 8) rfl (d := .bool b) rfl))) fun _ => TrB.to (b_T (d_op (d_cb (a_cons (d_var (i := 1) rfl rn) a_nil) rc_lenL) (d_int (i := 10)) rd_gt)) (by rw [dStrs_len]; exact gt_nat nm.length 10)
      rcases hpost with ⟨hs, hbad⟩ | ⟨hs, rfl, hn10, rfl, hst'⟩
      · rw [hs] at hpf
        simp only at hpf
        rw [hpf] at q
        refine s_seq (s_ifT (TrB.to hcond ?_) A6 fun G7 H7 e7 A7 => s_ret (d_lst (a_cons (d_var (K := K) rfl (d := .int k) rfl) (a_cons d_int a_nil)) (Nat.le_of_ble_eq_true rfl)) A7 (q.mono (E6.trans e7)))
        rcases hbad with rfl | h
        · rfl
        · rw [decide_eq_true h, Bool.or_true]
      · rw [hs] at hpf
        simp only at hpf
        rw [hwe] at hpf
        have hwlen : (dStrs (headT row :: restT row)).length = (restT row).length + 1 := by rw [dStrs_len, List.length_cons]
        have hb2' : (restT row).length + 1 ≤ 90001 := by rw [hwe, List.length_cons] at hb2; exact hb2
        have t62 : (2 : Int) ^ 62 = 4611686018427387904 := rfl
        refine s_seq (s_ifF (TrB.to hcond (by rw [decide_eq_false (by omega)]; rfl)) A6 fun G7 H7 e7 A7 => s_next ?_)
        unfold wfault at hpf
        rw [List.tail_cons] at hpf
        refine s_seq (s_forR2 (fun j σ Gx M' => (∃ y9, σ = [some v0, some v1', some (V.str (stT st')), some v3, some (V.int k), some x, some v6, some (.int (mostW (headT row))), some (V.bl true), y9, none]) ∧ M' = M1 ∧ ∀ i, i < j → ∀ z, (restT row)[i]? = some z → badWd (mostW (headT row)) (1 + i) z = false) d_int (d_cb (a_cons (d_var (i := 6) rfl (r6'.up e7)) a_nil) rc_lenL) (by rw [t62]; omega) (by rw [hwlen, t62]; omega) A7 (fun e h => h) ⟨⟨x9, rfl⟩, rfl, fun i hi => by omega⟩ (fun j hj σ2 G8 M8 H8 e8 A8 hI Nx2 hN2 => ?_) fun σ2 G8 M8 H8 e8 A8 hI => ?_)
        · obtain ⟨⟨y9, rfl⟩, rfl, hI⟩ := hI
          rw [hwlen] at hj
          have hjl : j < (restT row).length := by omega
          have hyj : (restT row)[j]? = some (restT row)[j] := List.getElem?_eq_getElem hjl
          generalize hy : (restT row)[j] = y at hyj
          have ej : (1 + (j : Int)) = ((1 + j : Nat) : Int) := by omega
          have hat : L2.atI (dStrs (headT row :: restT row)) (1 + (j : Int)) = some (.str y) := by
            rw [ej, at_dat (k := 1 + j) (by rw [hwlen]; omega)]
            congr 1
            unfold dStrs
            rw [List.getElem_map]
            congr 1
            have : (headT row :: restT row)[1 + j]? = some y := by rw [Nat.add_comm 1 j, List.getElem?_cons_succ]; exact hyj
            obtain ⟨_, h2⟩ := List.getElem?_eq_some_iff.mp this
            exact h2
          have hc : TrB _ [some v0, some v1', some (V.str (stT st')), some v3, some (V.int k), some x, some v6, some (.int (mostW (headT row))), some (V.bl true), some (.int (1 + (j : Int))), none] G8 (badWd (mostW (headT row)) (1 + j) y) := TrB.to (b_or (b_T (d_op (d_op (d_var (i := 6) rfl (r6'.up (e7.trans e8))) (d_var (i := 9) rfl (d := .int (1 + (j : Int))) rfl) (rd_ixL hat)) (d_lst (a_cons d_str (a_cons d_str (a_cons d_str (a_cons d_str a_nil)))) (Nat.le_of_ble_eq_true rfl)) (rd_inL (neg := true) rfl rfl))) fun _ => b_T (d_op (d_var (K := K) (i := 9) rfl (d := .int (1 + (j : Int))) rfl) (d_var (K := K) (i := 7) rfl (d := .int (mostW (headT row))) rfl) rd_gt)) (by
            rw [ej, gt_nat]
            rfl)
          cases hb : badWd (mostW (headT row)) (1 + j) y with
          | true =>
            refine s_ifT (TrB.to hc hb) A8 fun G9 H9 e9 A9 => ?_
            rw [fstP_at (p := 1) hyj hb hI] at hpf
            simp only at hpf
            rw [hpf] at q
            refine s_ret (TrD.to (d_lst (a_cons (d_var (K := K) rfl (d := .int k) rfl) (a_cons (d_var (K := K) rfl (d := .int (1 + (j : Int))) rfl) a_nil)) (Nat.le_of_ble_eq_true rfl)) ?_) A9 (q.mono (((E6.trans e7).trans e8).trans e9))
            rw [ej]
            rfl
          | false =>
            refine s_ifF (TrB.to hc hb) A8 fun G9 H9 e9 A9 => s_next (hN2 _ G9 M8 H9 e9 A9 ⟨⟨_, rfl⟩, rfl, fun i hi z hz => ?_⟩)
            by_cases hij : i = j
            · subst hij
              rw [hyj] at hz
              cases hz
              exact hb
            · exact hI i (by omega) z hz
        · obtain ⟨⟨y9, rfl⟩, rfl, hI⟩ := hI
          have hnone : fstP (badWd (mostW (headT row))) (restT row) 1 = none := fstP_none fun i z hz => hI i (by
            have := (List.getElem?_eq_some_iff.mp hz).1
            rw [hwlen]
            omega) z hz
          rw [hnone] at hpf
          simp only at hpf
          have hlen : TrB _ [some v0, some v1', some (V.str (stT st')), some v3, some (V.int k), some x, some v6, some (.int (mostW (headT row))), some (V.bl true), y9, none] G8 (decide (((dStrs (headT row :: restT row)).length : Int) = 1)) := b_T (d_op (d_cb (a_cons (d_var (i := 6) rfl (r6'.up (e7.trans e8))) a_nil) rc_lenL) (d_int (i := 1)) rd_eqI)
          rw [dStrs_len] at hlen
          dsimp only
          have E8 := (E6.trans e7).trans e8
          by_cases h1 : (headT row :: restT row).length = 1
          · rw [if_pos h1] at hpf
            simp only at hpf
            rw [hpf] at q
            exact s_seq (s_ifT (TrB.to hlen (decide_eq_true (by omega))) A8 fun G9 H9 e9 A9 => s_ret (d_lst (a_cons (d_var (K := K) rfl (d := .int k) rfl) (a_cons d_int a_nil)) (Nat.le_of_ble_eq_true rfl)) A9 (q.mono (E8.trans e9)))
          · rw [if_neg h1] at hpf
            simp only at hpf
            refine s_seq (s_ifF (TrB.to hlen (decide_eq_false (by omega))) A8 fun G9 H9 e9 A9 => s_next ?_)
            have hov : TrB _ [some v0, some v1', some (V.str (stT st')), some v3, some (V.int k), some x, some v6, some (.int (mostW (headT row))), some (V.bl true), y9, none] G9 (decide (stT st' = "over")) := b_T (d_op (d_var (K := K) (i := 2) rfl (d := .str (stT st')) rfl) (d_str (x := "over")) rd_eqS)
            rw [over_eq hst'] at hov
            by_cases h4 : st' = 4
            · refine s_ifT (TrB.to hov (decide_eq_true h4)) A9 fun G10 H10 e10 A10 => ?_
              have hlt : TrB (tTest (tOp (rI0 fun i j => V.bl (decide (i < j))) (tOp (rI0 fun i j => V.int (i + j)) (tVar 4) (tC (V.int 1))) (tCB (Sb.rLen K) (tCons (tVar 3) tNil)))) [some v0, some v1', some (V.str (stT st')), some v3, some (V.int k), some x, some v6, some (.int (mostW (headT row))), some (V.bl true), y9, none] G10 (decide (k + 1 < rows.length)) := TrB.to (b_T (d_op (d_op (d_var (K := K) (i := 4) rfl (d := .int k) rfl) (d_int (i := 1)) rd_add) (d_cb (a_cons (d_var (i := 3) rfl (r3'.up (((e7.trans e8).trans e9).trans e10))) a_nil) rc_lenL) rd_lt)) (by
                rw [dStrs_len]
                by_cases h : k + 1 < rows.length
                · rw [decide_eq_true h, decide_eq_true (by omega)]
                · rw [decide_eq_false h, decide_eq_false (by omega)])
              rw [h4] at hpf
              refine s_ret (d_if hlt (fun hh => ?_) fun hh => ?_) A10 (q.mono ((E8.trans e9).trans e10))
              · have hh := of_decide_eq_true hh
                rw [List.drop_eq_getElem_cons hh, pfA_cons, show stp 4 nm (headT rows[k + 1]) = none from by unfold stp; rw [if_neg (by decide), if_pos rfl]] at hpf
                simp only at hpf
                rw [hpf]
                refine TrD.to (d_lst (a_cons (d_op (d_var (K := K) rfl (d := .int k) rfl) d_int rd_add) (a_cons d_int a_nil)) (Nat.le_of_ble_eq_true rfl)) ?_
                rfl
              · have hh := of_decide_eq_false hh
                rw [List.drop_of_length_le (by omega)] at hpf
                rw [hpf]
                exact d_lst a_nil (Nat.le_of_ble_eq_true rfl)
            · refine s_ifF (TrB.to hov (decide_eq_false h4)) A9 fun G10 H10 e10 A10 => s_next (hN _ G10 M8 H10 ((((e5.trans e6).trans e7).trans e8).trans (e9.trans e10)) A10 ⟨st', nm, v1', _, _, _, _, _, _, rfl, rfl, rn.up ((e7.trans e8).trans (e9.trans e10)), by omega, ⟨_, (stp_shp S hs).1⟩, hpf⟩)
    · intro kk
      have hw : ∀ (y : Str) {v1 v2 v7 : V} {x8 x9 x10 : Option V} {Gx : Hp}, Ex G5 Gx → TrD K (tOp rEq (tOp (rIxL K) (tVar 6) (tC (V.int 0))) (tC (V.str y))) [some v0, some v1, some v2, some v3, some (.int (k : Nat)), some x, some v6, some v7, x8, x9, x10] Gx (.bool (decide (headT row = y))) := fun y v1 v2 v7 x8 x9 x10 Gx ex => d_op (hw0 ex) d_str rd_eqS
      have hstg : ∀ (y : Nat), y < 5 → ∀ {Gx : Hp}, TrD K (tOp rEq (tVar 2) (tC (V.str (stT y)))) [some v0, some v1, some (V.str (stT st)), some v3, some (V.int k), some x, some v6, some (V.int 6), x8, x9, none] Gx (.bool (decide (st = y))) := fun y hy Gx => TrD.to (d_op (d_var (K := K) rfl (d := .str (stT st)) rfl) d_str rd_eqS) (by rw [hstE y hy])
      have hnle := S.le
      by_cases h0 : st = 0
      · refine s_ifT (TrB.to (b_T (hstg 0 (by decide))) (decide_eq_true h0)) A5 fun G6 H6 e6 A6 => ?_
        refine s_par (hw "start" e6) (d_str (x := "first")) A6 fun v w G7 H7 e7 A7 rv rw2 => ?_
        obtain rfl : v = V.bl _ := rv
        obtain rfl : w = V.str "first" := rw2
        refine kk _ _ ⟨G7, v1, .int 6, _, names, 1, e6.trans e7, A7, rfl, r1'.up (e6.trans e7), by omega, ?_⟩
        unfold stp
        rw [if_pos h0]
        have hn : names = [] := by
          rcases S.sh with ⟨_, _, h⟩ | ⟨h, _⟩ | ⟨h, _⟩ | ⟨h, _⟩ | ⟨h, _⟩ <;> first | exact h | omega
        by_cases hh : headT row = "start"
        · rw [if_pos hh, hn, hh]
          exact .inr ⟨rfl, decide_eq_true rfl, by simp, by decide +kernel, by decide⟩
        · rw [if_neg hh]
          exact .inl ⟨rfl, .inl (decide_eq_false hh)⟩
      refine s_ifF (TrB.to (b_T (hstg 0 (by decide))) (decide_eq_false h0)) A5 fun G6 H6 e6 A6 => ?_
      by_cases hs : headT row = "stop"
      · refine s_ifT (TrB.to (b_T (hw "stop" e6)) (decide_eq_true hs)) A6 fun G7 H7 e7 A7 => ?_
        refine s_par (d_op (d_var (K := K) rfl (d := .str (stT st)) rfl) (d_tup (a_cons (d_str (x := "next")) (a_cons (d_str (x := "last")) a_nil)) (Nat.le_of_ble_eq_true rfl)) (rd_inT (neg := false) rfl rfl)) (d_str (x := "over")) A7 fun v w G8 H8 e8 A8 rv rw2 => ?_
        obtain rfl : v = V.bl (inD (.str (stT st)) [.str "next", .str "last"]) := rv
        obtain rfl : w = V.str "over" := rw2
        refine kk _ _ ⟨G8, v1, .int 6, _, names, 4, (e6.trans e7).trans e8, A8, rfl, r1'.up ((e6.trans e7).trans e8), by omega, ?_⟩
        rw [in_nl hst]
        unfold stp
        rw [if_neg h0, if_neg (by omega), if_pos hs]
        by_cases h23 : st = 2 ∨ st = 3
        · rw [if_pos h23]
          exact .inr ⟨rfl, decide_eq_true h23, hnle, by rw [hs]; decide +kernel, by decide⟩
        · rw [if_neg h23]
          exact .inl ⟨rfl, .inl (decide_eq_false h23)⟩
      refine s_ifF (TrB.to (b_T (hw "stop" e6)) (decide_eq_false hs)) A6 fun G7 H7 e7 A7 => ?_
      by_cases hb : headT row = "between"
      · refine s_ifT (TrB.to (b_T (hw "between" (e6.trans e7))) (decide_eq_true hb)) A7 fun G8 H8 e8 A8 => ?_
        refine s_par3 (hstg 2 (by decide)) (d_str (x := "last")) (d_int (i := 2)) A8 fun v w u G9 H9 e9 A9 rv rw2 ru => ?_
        obtain rfl : v = V.bl _ := rv
        obtain rfl : w = V.str "last" := rw2
        obtain rfl : u = V.int 2 := ru
        refine kk _ _ ⟨G9, v1, .int 2, _, names, 3, ((e6.trans e7).trans e8).trans e9, A9, rfl, r1'.up (((e6.trans e7).trans e8).trans e9), by omega, ?_⟩
        unfold stp
        rw [if_neg h0, if_neg (by omega), if_neg hs, if_pos hb]
        by_cases h2 : st = 2
        · rw [if_pos h2]
          exact .inr ⟨rfl, decide_eq_true h2, hnle, by rw [hb]; decide +kernel, by decide⟩
        · rw [if_neg h2]
          exact .inl ⟨rfl, .inl (decide_eq_false h2)⟩
      refine s_ifF (TrB.to (b_T (hw "between" (e6.trans e7))) (decide_eq_false hb)) A7 fun G8 H8 e8 A8 => ?_
      have E8 := (e6.trans e7).trans e8
      have hnm : TrD K (tAndV (tOp rEq (tCB (Sb.rLen K) (tCons (tOp (rIxL K) (tVar 6) (tC (V.int 0))) tNil)) (tC (V.int 1))) (tOp (fun x y H Q => ∃ (c : Nat) (z : Str), x = V.str { cps := #[c] } ∧ y = V.str z ∧ Q (V.bl (decide (c ∈ z.cps.toList))) H) (tOp (rIxL K) (tVar 6) (tC (V.int 0))) (tC (V.str (Str.ofString "0123456789abcdefghijklmnopqrstuvwxyz"))))) [some v0, some v1, some (V.str (stT st)), some v3, some (V.int k), some x, some v6, some (V.int 6), x8, x9, none] G8 (.bool (isNameS (headT row))) := by
        have hl1 : TrD K (tOp rEq (tCB (Sb.rLen K) (tCons (tOp (rIxL K) (tVar 6) (tC (V.int 0))) tNil)) (tC (V.int 1))) [some v0, some v1, some (V.str (stT st)), some v3, some (V.int k), some x, some v6, some (V.int 6), x8, x9, none] G8 (.bool (decide (((headT row).length : Int) = 1))) := d_op (d_cb (a_cons (hw0 E8) a_nil) (rc_lenS (sz_of (by omega)))) d_int rd_eqI
        by_cases h1 : (headT row).length = 1
        · obtain ⟨c, hc⟩ := one_sign h1
          have hw1 := hw0 E8 (v1 := v1) (v2 := V.str (stT st)) (v7 := V.int 6) (x8 := x8) (x9 := x9) (x10 := none)
          rw [hc] at hw1
          refine TrD.to (v_andT (TrD.to hl1 (by rw [decide_eq_true (by omega)])) (d_op hw1 (d_str (x := NAMESs)) rd_inSign)) ?_
          rw [hc]
          rfl
        · refine TrD.to (v_andF (TrD.to hl1 (by rw [decide_eq_false (by omega)]))) ?_
          cases z : isNameS (headT row) with
          | false => rfl
          | true => exact absurd (name_len z) h1
      refine s_seq (s_set hnm A8 fun v8 G9 H9 e9 A9 r8 => ?_)
      obtain rfl : v8 = V.bl (isNameS (headT row)) := r8
      dsimp only [List.set]
      have hnames := S.nm
      have E9 := E8.trans e9
      have hfil : TrD K (tAndV (tVar 8) (tAndV (tOp (rIn K false) (tVar 2) (tTup (tCons (tC (V.str (Str.ofString "first"))) (tCons (tC (V.str (Str.ofString "next"))) tNil)))) (tOp (rEqR K) (tLc (iList K (tVar 1)) (gName 10) (tTest (tOp (fun x y H Q => ∃ i j, x = V.str i ∧ y = V.str j ∧ Q (V.bl !decide (i.cps.toList < j.cps.toList)) H) (tVar 10) (tOp (rIxL K) (tVar 6) (tC (V.int 0))))) (tVar 10) [10]) (tLst tNil)))) [some v0, some v1, some (V.str (stT st)), some v3, some (V.int k), some x, some v6, some (V.int 6), some (V.bl (isNameS (headT row))), x9, none] G9 (.bool (isNameS (headT row) && (decide (st = 1 ∨ st = 2) && names.all fun x => ltB x (headT row)))) := by
        refine v_and (d_var (K := K) (i := 8) rfl (d := .bool _) rfl) fun _ => v_and (TrD.to (d_op (d_var (K := K) (i := 2) rfl (d := .str (stT st)) rfl) (d_tup (a_cons (d_str (x := "first")) (a_cons (d_str (x := "next")) a_nil)) (Nat.le_of_ble_eq_true rfl)) (rd_inT (neg := false) rfl rfl)) (by rw [if_neg (by decide), in_fn hst])) fun _ => ?_
        have hsh : SeqAt.shaped (.list (dStrs (names.filter fun z => !ltB z (headT row)))) = true := shaped_strs fun s hs => name_cps (hnames s (List.mem_filter.mp hs).1)
        refine TrD.to (d_op (TrD.to (d_lcL (ds := dStrs names) (p := fun d => match d with | .str z => !ltB z (headT row) | _ => false) (f := fun d => d) (d_var (i := 1) rfl (r1'.up E9)) (by rw [dStrs_len]; omega) (fun d hd2 y G10 e10 ry => ?_) fun d hd2 _ y G10 e10 ry => d_var rfl ry) (d2 := .list (dStrs (names.filter fun z => !ltB z (headT row)))) ?_) (d_lst a_nil (Nat.le_of_ble_eq_true rfl)) (rd_eqR hsh rfl)) ?_
        · obtain ⟨z, hz, rfl⟩ := mem_strs hd2
          exact b_T (d_op (d_var rfl ry) (d_op (d_var rfl (r6.up (E9.trans e10))) d_int (rd_ixL (at_zero _ _))) rd_geS)
        · rw [List.map_id']
          unfold dStrs
          rw [List.filter_map]
          rfl
        · rw [eqv_nil, all_filt]
          unfold dStrs
          cases names.filter fun z => !ltB z (headT row) <;> rfl
      refine s_seq (s_set hfil A9 fun v8 G10 H10 e10 A10 r8 => ?_)
      obtain rfl : v8 = V.bl _ := r8
      dsimp only [List.set]
      have E10 := E9.trans e10
      refine s_par (d1 := .list (dStrs (names ++ [headT row]))) (TrD.to (d_op (d_var rfl (r1'.up E10)) (d_lst (a_cons (hw0 E10) a_nil) (Nat.le_of_ble_eq_true rfl)) (rd_cat (by rw [dStrs_len]; show _ + 1 ≤ _; omega))) (by unfold dStrs; rw [List.map_append]; rfl)) (d_str (x := "next")) A10 fun v w G11 H11 e11 A11 rv rw2 => ?_
      obtain rfl : w = V.str "next" := rw2
      have hl11 : (names ++ [headT row]).length = names.length + 1 := by rw [List.length_append]; rfl
      refine kk _ _ ⟨G11, v, .int 6, _, names ++ [headT row], 2, E10.trans e11, A11, rfl, rv, by omega, ?_⟩
      rw [hl11]
      unfold stp
      rw [if_neg h0, if_neg (by omega), if_neg hs, if_neg hb]
      by_cases hc : isNameS (headT row) = true ∧ (st = 1 ∨ st = 2) ∧ (names.all fun x => ltB x (headT row)) = true ∧ names.length < 10
      · rw [if_pos hc]
        refine .inr ⟨rfl, by rw [hc.1, decide_eq_true hc.2.1, hc.2.2.1]; rfl, by omega, ?_, by decide⟩
        unfold mostW
        rw [if_neg hb]
        rfl
      · rw [if_neg hc]
        refine .inl ⟨rfl, ?_⟩
        cases z1 : isNameS (headT row) with
        | false => exact .inl rfl
        | true =>
          by_cases z2 : st = 1 ∨ st = 2
          · cases z3 : (names.all fun x => ltB x (headT row)) with
            | false => exact .inl (by rw [decide_eq_true z2]; rfl)
            | true => exact .inr (by have : ¬ names.length < 10 := fun h => hc ⟨z1, z2, z3, h⟩; omega)
          · exact .inl (by rw [decide_eq_false z2]; rfl)
  · obtain ⟨st, names, v1, x4, x5, x6, x7, x8, x9, rfl, rfl, r1, hst, ⟨ks, S⟩, hpf⟩ := hI
    rw [dStrs_len, List.drop_length] at hpf
    have hpf' : pfA rows 0 0 [] = some (rows.length, 0) := by
      rw [hpf]
      show (if st = 4 then none else some (rows.length, 0)) = _
      rw [if_neg (by omega)]
    rw [hpf'] at q
    refine s_ret (σ := [some v0, some v1, some (V.str (stT st)), some v3, x4, x5, x6, x7, x8, x9, none]) (TrD.to (d_lst (a_cons (d_cb (a_cons (d_var (i := 3) rfl (r3.up e3)) a_nil) rc_lenL) (a_cons d_int a_nil)) (Nat.le_of_ble_eq_true rfl)) ?_) A4 (q.mono (e1.trans e3))
    rw [dStrs_len]
    rfl
end
end K80

namespace K80
open PySem PySem.Spec PyProof.Rows L2 Sb
local macro_rules | `(tactic| walk_at "ex") => `(tactic| first | exact Ex.refl _ | assumption | (refine' Ex.trans ?_ (by assumption); walk_at "ex"))
local macro_rules | `(tactic| walk_at "rp") => `(tactic| first | assumption | (refine' Rp.up ?e (by assumption); (case e => walk_at "ex")) | exact rfl)
local macro_rules | `(tactic| walk_at "rd") => `(tactic| with_reducible first | exact rd_add | exact rd_sub | exact rd_lt | exact rd_le | exact rd_gt | exact rd_ge | exact rd_eqI | exact rd_neI | exact rd_eqS | exact rd_neS | exact rd_isN | exact rd_ltS | exact rd_inSign | exact rd_eqE)
local macro_rules | `(tactic| walk_at "tr") => `(tactic| first
  | with_reducible exact d_int
  | with_reducible exact d_str
  | with_reducible exact d_bl
  | with_reducible exact d_non
  | with_reducible exact a_nil
  | with_reducible exact b_yes
  | with_reducible exact o_none
  | with_reducible exact d_newD
  | ((with_reducible refine' d_var ?i ?r); (case i => rfl); (case r => walk_at "rp"))
  | ((with_reducible refine' a_cons ?a ?b); (case a => walk_at "tr"); (case b => walk_at "tr"))
  | ((with_reducible refine' a_star ?a ?b); (case a => walk_at "tr"); (case b => walk_at "tr"))
  | ((with_reducible refine' d_isi ?a ?b); (case a => walk_at "tr"); (case b => decide))
  | ((with_reducible refine' d_op ?a ?b ?c); (case a => walk_at "tr"); (case b => walk_at "tr"); (case c => walk_at "rd"))
  | ((with_reducible refine' d_tup ?a ?b); (case a => walk_at "tr"); (case b => first | decide | (simp; done)))
  | ((with_reducible refine' d_lst ?a ?b); (case a => walk_at "tr"); (case b => first | decide | (simp; done)))
  | ((with_reducible refine' o_some ?a); (case a => walk_at "tr"))
  | ((with_reducible refine' b_B ?a); (case a => walk_at "tr"))
  | ((with_reducible refine' b_T ?a); (case a => walk_at "tr"))
  | ((with_reducible refine' b_not ?a); (case a => walk_at "tr"))
  | ((with_reducible refine' v_not ?a); (case a => walk_at "tr"))
  | ((with_reducible refine' b_or ?a ?b); (case a => walk_at "tr"); (case b => intro _; walk_at "tr"))
  | ((with_reducible refine' b_and ?a ?b); (case a => walk_at "tr"); (case b => intro _; walk_at "tr"))
  | ((with_reducible refine' v_or ?a ?b); (case a => walk_at "tr"); (case b => intro _; walk_at "tr"))
  | ((with_reducible refine' v_and ?a ?b); (case a => walk_at "tr"); (case b => intro _; walk_at "tr"))
  | assumption)


def odds1 : List Str := ["", "0", "5", "1", "12", "01", "-1", "x", "ab", "A", "start", "stop", "between", "+1", "1.", "9", "y", "z"]
theorem odds1_len : odds1.length = 18 := rfl
theorem odds1_ok : ∀ w ∈ odds1, w.length ≤ 8 := by
  have h : odds1.all (fun w => decide (w.length ≤ 8)) = true := by decide +kernel
  exact fun w hw => of_decide_eq_true (List.all_eq_true.mp h w hw)
def signS : Str := "-*.?_~;:/`{\x40[$"
theorem sign_at {i : Int} (h0 : 0 ≤ i) (h1 : i ≤ 13) : ∃ c, L2.atI signS.cps.toList i = some c := by
  have hl : signS.cps.toList.length = 14 := by decide +kernel
  unfold L2.atI ixN
  rw [if_pos h0, if_pos (by omega)]
  have hk : i.toNat < signS.cps.toList.length := by omega
  exact ⟨_, List.getElem?_eq_getElem hk⟩
def joinD (d : PyData) : PyData := match d with
  | .list ds => .str (Txt.join "\n" (ds.map fun x => match x with | .str y => y | _ => ""))
  | _ => .none
theorem joinD_eq (l : List Str) : joinD (.list (dStrs l)) = .str (Txt.join "\n" l) := by
  unfold joinD dStrs
  simp only [List.map_map]
  congr 2
  exact List.map_id _
def okTs (d : PyData) : Prop := ∃ ts : List Str, d = .list (dStrs ts) ∧ 1 ≤ ts.length ∧ ts.length ≤ 100 ∧ ∀ t ∈ ts, t.length ≤ 41000
theorem cnt {α : Type} {a b : List α} {n m : Nat} (ha : a.length = n) (hb : b.length = m) : (a ++ b).length = n + m := by rw [List.length_append, ha, hb]
section
variable {P : Program} {w : World} {K : PySem.W.Frag} {mg : Str → Option Value} {base : Heap}
def R_bent : List PyData → Nat → (PyData → Prop) → Prop := fun ds k Φ => ∃ c : CodeD, ds = [.str (codeT c)] ∧ c.ok ∧ k = 5 ∧ Φ = okTs
theorem F__law_bent (T : Tx K mg) : Fd P w K mg base CX0 2 "_law_bent" (ESp K R_bent) [] := by
  obtain ⟨fd, F⟩ := T.f__law_bent
  refine ⟨_, fd, ["reel", "text"], [], T.g__law_bent, F.kp, F.bindsN fun _ _ _ _ _ _ us hl => match us, hl with | [_, _], _ => rfl, .nil, ?_⟩
  refine fnG_of F sc__law_bent (fun vs H Q E h => ESp.len (n := 1) (by rintro _ _ _ ⟨d, rfl, _⟩; rfl) h) (fun cdv A outer s H vs Q E hg hr h => ?_)
  obtain ⟨r, ws, G, M, n, k, ds, Φ, rfl, hA, hRL, hws, ⟨c, rfl, ok, rfl, rfl⟩, hn, q⟩ := h
  obtain ⟨v1, _, rfl, r1, rfl⟩ := hws
  refine ⟨_, PSs.nox (pss_cons (ps_set (i := 2) sc__law_bent.nd rfl (by first | exact Or.inl rfl | exact Or.inr rfl) (pe_split (pv 1) pe_str))
    (pss_cons (ps_par (i := 3) (j := 4) (by rfl) sc__law_bent.nd rfl rfl (by decide) rfl rfl (pa_cons (pe_fd (F__law_spin (P := P) (w := w) (base := base) T) hg (hr.mono (by decide)) pass0 (pa_cons (pv 0) (pa_cons (pe_callB call_len' (by rfl) T.n_len (by decide +kernel) (pa_cons (pv 2) pa_nil)) pa_nil))) (pa_cons (pe_lst pa_nil) pa_nil)) (by rfl))
    (pss_cons (ps_set (i := 5) sc__law_bent.nd rfl (by first | exact Or.inl rfl | exact Or.inr rfl) (pe_split (pe_ix ix_list (pv 2) (pv 3) (fun _ _ => rfl)) pe_str))
    (pss_cons (ps_set (i := 6) sc__law_bent.nd rfl (by first | exact Or.inl rfl | exact Or.inr rfl) (pe_fd (F__law_spin (P := P) (w := w) (base := base) T) hg (hr.mono (by decide)) pass0 (pa_cons (pv 0) (pa_cons (pe_callB call_len' (by rfl) T.n_len (by decide +kernel) (pa_cons (pv 5) pa_nil)) pa_nil))))
    (pss_cons (ps_set (i := 7) sc__law_bent.nd rfl (by first | exact Or.inl rfl | exact Or.inr rfl) (pe_lst (pa_cons pe_str (pa_cons pe_str (pa_cons pe_str (pa_cons pe_str (pa_cons pe_str (pa_cons pe_str (pa_cons pe_str (pa_cons pe_str (pa_cons pe_str (pa_cons pe_str (pa_cons pe_str (pa_cons pe_str (pa_cons pe_str (pa_cons pe_str (pa_cons pe_str (pa_cons pe_str (pa_cons pe_str (pa_cons pe_str pa_nil))))))))))))))))))))
    (pss_cons (ps_set (i := 7) sc__law_bent.nd rfl (by first | exact Or.inl rfl | exact Or.inr rfl) (pe_op op_cat (pv 7) (pe_lst (pa_cons (pe_ix ix_str pe_str (pe_fd (F__law_spin (P := P) (w := w) (base := base) T) hg (hr.mono (by decide)) pass0 (pa_cons (pv 0) (pa_cons pe_int pa_nil))) (fun _ _ => rfl)) (pa_cons pe_str (pa_cons pe_str (pa_cons pe_str (pa_cons pe_str (pa_cons pe_str pa_nil)))))))))
    (pss_cons (ps_for PassesOwn.never rfl (pi_list (pv 7)) (pg_name (i := 8) sc__law_bent.nd rfl (by first | exact Or.inl rfl | exact Or.inr rfl)) (pss_one (ps_for PassesOwn.never rfl (pi_list (pe_lst (pa_cons (pe_op op_cat (pe_op op_cat (pe_slice sl_list (pv 5) po_none (po_some (pv 6))) (pe_lst (pa_cons (pv 8) pa_nil))) (pe_slice sl_list (pv 5) (po_some (pe_op op_add (pv 6) pe_int)) po_none)) (pa_cons (pe_op op_cat (pe_op op_cat (pe_slice sl_list (pv 5) po_none (po_some (pv 6))) (pe_lst (pa_cons (pv 8) pa_nil))) (pe_slice sl_list (pv 5) (po_some (pv 6)) po_none)) pa_nil)))) (pg_name (i := 9) sc__law_bent.nd rfl (by first | exact Or.inl rfl | exact Or.inr rfl)) (pss_one (ps_expr (pe_bm PySem.F.plainAttrs_list PySem.F.slot_list_append PySem.F.type_list_append mt_append (pv 4) (pa_cons (pe_op op_cat (pe_op op_cat (pe_slice sl_list (pv 2) po_none (po_some (pv 3))) (pe_lst (pa_cons (pe_join pe_str (pv 9)) pa_nil))) (pe_slice sl_list (pv 2) (po_some (pe_op op_add (pv 3) pe_int)) po_none)) pa_nil)))))))
    (pss_cons (ps_set (i := 4) sc__law_bent.nd rfl (by first | exact Or.inl rfl | exact Or.inr rfl) (pe_op op_cat (pv 4) (pe_lst (pa_cons (pe_op op_cat (pe_slice sl_list (pv 2) po_none (po_some (pv 3))) (pe_slice sl_list (pv 2) (po_some (pe_op op_add (pv 3) pe_int)) po_none)) (pa_cons (pe_op op_cat (pe_op op_cat (pe_slice sl_list (pv 2) po_none (po_some (pv 3))) (pe_lst (pa_cons (pe_ix ix_list (pv 2) (pv 3) (fun _ _ => rfl)) pa_nil))) (pe_slice sl_list (pv 2) (po_some (pv 3)) po_none)) (pa_cons (pe_op op_cat (pe_op op_cat (pe_slice sl_list (pv 2) po_none (po_some (pv 3))) (pe_lst (pa_cons pe_str pa_nil))) (pe_slice sl_list (pv 2) (po_some (pv 3)) po_none)) pa_nil))))))
    (pss_cons (ps_set (i := 10) sc__law_bent.nd rfl (by first | exact Or.inl rfl | exact Or.inr rfl) (pe_fd (F__law_spin (P := P) (w := w) (base := base) T) hg (hr.mono (by decide)) pass0 (pa_cons (pv 0) (pa_cons (pe_callB call_len' (by rfl) T.n_len (by decide +kernel) (pa_cons (pv 2) pa_nil)) pa_nil))))
    (pss_cons (ps_set (i := 4) sc__law_bent.nd rfl (by first | exact Or.inl rfl | exact Or.inr rfl) (pe_op op_cat (pv 4) (pe_lst (pa_cons (pe_op op_cat (pe_slice sl_list (pv 2) (po_some (pv 3)) po_none) (pe_slice sl_list (pv 2) po_none (po_some (pv 3)))) (pa_cons (pe_op op_cat (pv 2) (pe_lst (pa_cons pe_str pa_nil))) (pa_cons (pe_op op_cat (pe_lst (pa_cons pe_str pa_nil)) (pv 2)) (pa_cons (pe_op op_cat (pv 2) (pv 2)) pa_nil)))))))
    (pss_cons (ps_expr (pe_bm PySem.F.plainAttrs_list PySem.F.slot_list_append PySem.F.type_list_append mt_append (pv 4) (pa_cons (pe_op op_cat (pe_op op_cat (pe_slice sl_list (pv 2) po_none (po_some (pv 3))) (pe_lst (pa_cons (pe_ix ix_list (pv 5) pe_int (fun _ _ => rfl)) pa_nil))) (pe_slice sl_list (pv 2) (po_some (pe_op op_add (pv 3) pe_int)) po_none)) pa_nil)))
    (pss_cons (ps_expr (pe_bm PySem.F.plainAttrs_list PySem.F.slot_list_append PySem.F.type_list_append mt_append (pv 4) (pa_cons (pe_op op_cat (pe_op op_cat (pe_slice sl_list (pv 2) po_none (po_some (pv 10))) (pe_lst (pa_cons pe_str pa_nil))) (pe_slice sl_list (pv 2) (po_some (pv 10)) po_none)) pa_nil)))
    (pss_cons (ps_set (i := 4) sc__law_bent.nd rfl (by first | exact Or.inl rfl | exact Or.inr rfl) (pe_op op_cat (pv 4) (pe_lst (pa_cons (pe_op op_cat (pe_op op_cat (pe_slice sl_list (pv 2) po_none (po_some (pv 10))) (pe_lst (pa_cons pe_str pa_nil))) (pe_slice sl_list (pv 2) (po_some (pv 10)) po_none)) (pa_cons (pe_op op_cat (pe_op op_cat (pe_slice sl_list (pv 2) po_none (po_some (pv 10))) (pe_lst (pa_cons pe_str pa_nil))) (pe_slice sl_list (pv 2) (po_some (pv 10)) po_none)) pa_nil)))))
    (pss_cons (ps_set (i := 4) sc__law_bent.nd rfl (by first | exact Or.inl rfl | exact Or.inr rfl) (pe_op op_cat (pv 4) (pe_lst (pa_cons (pe_op op_cat (pe_op op_cat (pe_slice sl_list (pv 2) po_none (po_some (pv 10))) (pe_lst (pa_cons pe_str pa_nil))) (pe_slice sl_list (pv 2) (po_some (pv 10)) po_none)) (pa_cons (pe_op op_cat (pe_op op_cat (pe_slice sl_list (pv 2) po_none (po_some (pv 10))) (pe_lst (pa_cons pe_str pa_nil))) (pe_slice sl_list (pv 2) (po_some (pv 10)) po_none)) pa_nil)))))
    (pss_cons (ps_expr (pe_bm PySem.F.plainAttrs_list PySem.F.slot_list_append PySem.F.type_list_append mt_append (pv 4) (pa_cons (pe_op op_cat (pe_op op_cat (pe_slice sl_list (pv 2) po_none (po_some (pv 3))) (pe_lst (pa_cons (pe_op op_add_str (pe_ix ix_list (pv 2) (pv 3) (fun _ _ => rfl)) (pe_op op_mulS pe_str (pe_op op_add pe_int (pe_fd (F__law_spin (P := P) (w := w) (base := base) T) hg (hr.mono (by decide)) pass0 (pa_cons (pv 0) (pa_cons pe_int pa_nil)))))) pa_nil))) (pe_slice sl_list (pv 2) (po_some (pe_op op_add (pv 3) pe_int)) po_none)) pa_nil)))
    (pss_cons (ps_expr (pe_bm PySem.F.plainAttrs_list PySem.F.slot_list_append PySem.F.type_list_append mt_append (pv 4) (pa_cons (pe_op op_cat (pe_op op_cat (pe_slice sl_list (pv 2) po_none (po_some (pv 3))) (pe_lst (pa_cons (pe_op op_add_str pe_str (pe_ix ix_list (pv 2) (pv 3) (fun _ _ => rfl))) pa_nil))) (pe_slice sl_list (pv 2) (po_some (pe_op op_add (pv 3) pe_int)) po_none)) pa_nil)))
    (pss_one (ps_ret (pe_lc (own := [("some", 9)]) (g := gName 9) (te := tM1 joinR (tC (.str "\n")) (tVar 9)) (by rfl) sc__law_bent.nd (pi_list (pv 4)) (blkOk_by (own := [("some", 9)]) (N := ["reel", "text", "lines", "at", "found", "words", "spot", "odds", "odd", "some", "other"]) (sc := defScope s__law_bent) (by decide +kernel)) (fun _ _ _ _ _ => (pg_name (i := 9) sc__law_bent.nd rfl (by first | exact Or.inl rfl | exact Or.inr rfl))) (fun _ _ _ _ _ => pts_nil) (fun _ _ _ _ _ => (pe_join pe_str (pv 9)))))))))))))))))))))), ?_⟩
  rw [show L2.start ["reel", "text", "lines", "at", "found", "words", "spot", "odds", "odd", "some", "other"] [(.ref r), v1] = [some (.ref r), some v1, none, none, none, none, none, none, none, none, none] from rfl]
  dsimp only [xK]
  obtain ⟨ec, hec⟩ : ∃ ec, entsL c = ec := ⟨_, rfl⟩
  have hLn := linesT_len ok
  have hLe := linesT_each ok
  have hL0 : 1 ≤ (linesT c).length := by unfold linesT; simp
  refine q_set (d := .list (dStrs (linesT c))) (TrD.to (d_split (d_var rfl r1) d_str rfl (by have z := codeT_len ok; exact Nat.le_trans (Nat.add_le_add_right z 2) (by decide))) (by rw [codeT_split ok])) hA fun v2 G1 H1 e1 A1 r2 => ?_
  -- at, found
  have hLlen : (dStrs (linesT c)).length = (linesT c).length := dS_len _
  have hsp1 : TrE K r M _ [some (.ref r), some v1, some v2, none, none, none, none, none, none, none, none] G1 n (n + 1) (RI 0 ((linesT c).length - 1)) := spin_call (E := E0) (i := 0) rfl (e_D (d_cb (a_cons (d_var (i := 2) rfl r2) a_nil) rc_lenL) ⟨_, rfl, by rw [hLlen]; omega, by rw [hLlen]; omega, fun d h => by rw [hLlen] at h; exact h⟩) (by omega)
  refine hsp1 G1 M H1 (Ex.refl _) A1 .refl hRL _ fun d v3 G2 M2 H2 e2 A2 S2 R2 hd r3 => ⟨Nat.zero_le _, fun p hp => ⟨_, _, rfl, ?_⟩⟩
  obtain ⟨ai, rfl, a0, a1⟩ := hd
  obtain ⟨aN, rfl⟩ := Int.eq_ofNat_of_zero_le a0
  have haN : aN < (linesT c).length := by omega
  have hM2p : M2 p = none := A2.mNone hp
  have npr : p ≠ r := R2.ne hM2p
  have A3 := A2.nm (o := .lst []) hp
  have R3 := R2.upd (o := .lst []) npr
  have r2a := r2.up e2
  -- words
  have hlat : (linesT c)[aN]? = some (linesT c)[aN] := List.getElem?_eq_getElem haN
  obtain ⟨pr, hpr, hprl⟩ : ∃ pr, pr ∈ entsL c ∧ (linesT c)[aN] = lineT pr.1 pr.2 := by
    have hm := List.mem_of_getElem? hlat
    generalize (linesT c)[aN] = z at hm ⊢
    rw [linesT_eq] at hm
    obtain ⟨pr, h1, h2⟩ := List.mem_map.mp hm
    exact ⟨pr, h1, h2.symm⟩
  have hok := ents_ok ok pr hpr
  have hwsl : pr.2.length ≤ 6 := Nat.le_trans hok.ok.2.1 (by unfold mostN; split <;> decide)
  have hW : ∀ w ∈ pr.1 :: pr.2.map strI, w.length ≤ 100 := fun w hw => by
    rcases List.mem_cons.mp hw with rfl | hw
    · exact hok.ln
    · obtain ⟨z, hz, rfl⟩ := List.mem_map.mp hw
      rw [strI_len (hok.ok.2.2 z hz)]
      decide
  have hWl : (pr.1 :: pr.2.map strI).length ≤ 7 := by rw [List.length_cons, List.length_map]; omega
  have hlix : TrD K (tOp (rIxL K) (tVar 2) (tVar 3)) [some (.ref r), some v1, some v2, some v3, some (.ref p), none, none, none, none, none, none] G2 (.str (lineT pr.1 pr.2)) := TrD.to (d_op (d_var rfl r2a) (d_var rfl r3) (rd_ixL (at_dat (k := aN) (by rw [hLlen]; exact haN)))) (by
    rw [← hprl]
    unfold dStrs
    rw [List.getElem_map])
  refine q_set (d := .list (dStrs (pr.1 :: pr.2.map strI))) (TrD.to (d_split hlix d_str rfl (by have z := hLe _ (List.getElem_mem haN); rw [hprl] at z; exact Nat.le_trans (Nat.add_le_add_right z 2) (by decide))) (by rw [lineT_split hok])) A3 fun v5 G3 H3 e3 A4 r5 => ?_
  generalize hws : pr.1 :: pr.2.map strI = wds at r5 hW hWl
  have hw0 : 0 < wds.length := by rw [← hws]; simp
  -- spot
  refine q_setE (Φ := RI 0 (wds.length - 1)) (n' := n + 1 + 1) (spin_call rfl (e_D (d_cb (a_cons (d_var rfl r5) a_nil) rc_lenL) ⟨_, rfl, by rw [dS_len]; omega, by rw [dS_len]; omega, fun d h => by rw [dS_len] at h; exact h⟩) (by omega)) A4 .refl R3 fun d v6 G4 M4 H4 e4 A5 S4 R4 hd r6 => ?_
  obtain ⟨si, rfl, s0, s1⟩ := hd
  obtain ⟨sN, rfl⟩ := Int.eq_ofNat_of_zero_le s0
  have hM4p : M4 p = some (.lst []) := (S4 p npr).trans upd_same
  -- odds
  refine q_set (K := K) (d := .list (dStrs odds1)) (d_lst (a_cons d_str (a_cons d_str (a_cons d_str (a_cons d_str (a_cons d_str (a_cons d_str (a_cons d_str (a_cons d_str (a_cons d_str (a_cons d_str (a_cons d_str (a_cons d_str (a_cons d_str (a_cons d_str (a_cons d_str (a_cons d_str (a_cons d_str (a_cons d_str a_nil)))))))))))))))))) (Nat.le_of_ble_eq_true rfl)) A5 fun v7 G5 H5 e5 A6 r7 => ?_
  refine q_setE (n' := n + 1 + 1 + 1) (Φ := fun d => ∃ ls, d = .list (dStrs ls) ∧ ls.length = 24 ∧ ∀ w ∈ ls, w.length ≤ 8) (e_op (Φ1 := fun d => d = .list (dStrs odds1)) (Φ2 := fun d => ∃ ls, d = .list (dStrs ls) ∧ ls.length = 6 ∧ ∀ w ∈ ls, w.length ≤ 8) (e_D (d_var rfl r7) rfl) (fun _ _ => e_lst (Ψ := fun ds => ∃ ls, ds = dStrs ls ∧ ls.length = 6 ∧ ∀ w ∈ ls, w.length ≤ 8) (ea_cons (e_op (Φ1 := fun d => d = .str signS) (Φ2 := RI 0 13) (Φ := fun d => ∃ c : Nat, d = .str ⟨#[c]⟩) (e_D d_str rfl) (fun _ _ => spin_c rfl (by decide) (by decide) (by omega)) ?_) fun d hd => ea_A (a_cons d_str (a_cons d_str (a_cons d_str (a_cons d_str (a_cons d_str a_nil))))) ?_) ?_) ?_) A6 .refl R4 fun d v7 G6 M6 H6 e6 A7 S6 R6 hd r7 => ?_
  · rintro _ _ rfl ⟨i, rfl, h0, h1⟩
    obtain ⟨ch, hch⟩ := sign_at h0 h1
    exact ⟨_, rd_ixS (by decide +kernel) hch, ch, rfl⟩
  · obtain ⟨ch, rfl⟩ := hd
    refine ⟨[⟨#[ch]⟩, "starts", "stopped", "betweens", "1;a", "Stop"], rfl, rfl, fun w hw => ?_⟩
    rcases List.mem_cons.mp hw with rfl | hw
    · show (1 : Nat) ≤ 8
      decide
    · have h : ([("starts" : Str), "stopped", "betweens", "1;a", "Stop"]).all (fun w => decide (w.length ≤ 8)) = true := by decide +kernel
      exact of_decide_eq_true (List.all_eq_true.mp h w hw)
  · rintro _ ⟨ls, rfl, h1, h2⟩
    exact ⟨by rw [dS_len]; omega, ls, rfl, h1, h2⟩
  · rintro _ _ rfl ⟨ls, rfl, h1, h2⟩
    refine ⟨.list (dStrs (odds1 ++ ls)), ?_, odds1 ++ ls, rfl, by rw [List.length_append, h1]; rfl, fun w hw => ?_⟩
    · rw [dS_app]
      exact rd_cat (by rw [dS_len, dS_len, h1, odds1_len]; decide)
    · rcases List.mem_append.mp hw with z | z
      · exact odds1_ok w z
      · exact h2 w z
  obtain ⟨odds, rfl, ho1, ho2⟩ := hd
  have hM6p : M6 p = some (.lst []) := (S6 p npr).trans hM4p
  have E6 : Ex G2 G6 := ((e3.trans e4).trans e5).trans e6
  have r2b := r2a.up E6
  have r3b := r3.up E6
  have r5b := r5.up (e4.trans (e5.trans e6))
  have r6b := r6.up (e5.trans e6)
  have hbase : upd M6 p (.lst []) = M6 := by
    funext x
    by_cases h : x = p
    · rw [h, upd_same, hM6p]
    · rw [upd_ne h]
  -- what is read of the names
  have sl : ∀ {v4 v7 x8 x9 x10 : Option V} {Gx : Hp}, Ex G6 Gx → SL K (tVar 2) [some (.ref r), some v1, some v2, some v3, v4, some v5, some v6, v7, x8, x9, x10] Gx 13 1515 := fun ex => sl_var rfl (r2b.up ex) hLn (fun w hw => Nat.le_trans (hLe w hw) (by decide))
  have at3 : ∀ {v4 v7 x8 x9 x10 : Option V} {Gx : Hp}, Ex G6 Gx → TrD K (tVar 3) [some (.ref r), some v1, some v2, some v3, v4, some v5, some v6, v7, x8, x9, x10] Gx (.int (aN : Int)) := fun ex => d_var rfl (r3b.up ex)
  have lat : ∀ {v4 v7 x8 x9 x10 : Option V} {Gx : Hp}, Ex G6 Gx → SS K (tOp (rIxL K) (tVar 2) (tVar 3)) [some (.ref r), some v1, some v2, some v3, v4, some v5, some v6, v7, x8, x9, x10] Gx 113 := fun ex => ss_ix rfl (r2b.up ex) (at3 ex) haN hLe
  -- the loops
  refine s_seq (s_forLI (fun k σ G M => ∃ (x8 x9 : Option V) (xs : List V) (lls : List (List Str)), σ = [some (.ref r), some v1, some v2, some v3, some (.ref p), some v5, some v6, some v7, x8, x9, none] ∧ M = upd M6 p (.lst xs) ∧ RpL K G (dLL lls) xs ∧ lls.length = 2 * k ∧ okLL 27 1515 lls) (d_var rfl r7) A7 ?_ ⟨none, none, [], [], rfl, hbase.symm, rfl, rfl, okLL.nil⟩ (fun k d hk x8 σ1 G7 M7 H7 e7 A8 hI rx8 Nx hN => ?_) fun σ1 G7 M7 H7 e7 A8 hI => ?_)
  · rintro k σ1 Ga Gb M1 e ⟨x8, x9, xs, lls, h1, h2, h3, h4⟩
    exact ⟨x8, x9, xs, lls, h1, h2, h3.up e, h4⟩
  · obtain ⟨y8, y9, xs, lls, rfl, rfl, rl, hl1, hl2⟩ := hI
    obtain ⟨od, hod, rfl⟩ := mem_strs (List.mem_of_getElem? hk)
    have hodl := ho2 od hod
    have hk24 : k < 24 := by
      have := (List.getElem?_eq_some_iff.mp hk).1
      rw [dS_len] at this
      omega
    have slw : ∀ {Gx : Hp}, Ex G7 Gx → SL K (tVar 5) [some (.ref r), some v1, some v2, some v3, some (.ref p), some v5, some v6, some v7, some x8, y9, none] Gx 7 100 := fun ex => sl_var rfl (r5b.up (e7.trans ex)) hWl hW
    have sod : ∀ {Gx : Hp}, Ex G7 Gx → SS K (tVar 8) [some (.ref r), some v1, some v2, some v3, some (.ref p), some v5, some v6, some v7, some x8, y9, none] Gx 100 := fun ex => ss_var rfl (rx8.up ex) (by omega)
    have sp6 : ∀ {Gx : Hp}, Ex G7 Gx → TrD K (tVar 6) [some (.ref r), some v1, some v2, some v3, some (.ref p), some v5, some v6, some v7, some x8, y9, none] Gx (.int (sN : Int)) := fun ex => d_var rfl (r6b.up (e7.trans ex))
    obtain ⟨w1, hw1, hw1a, hw1b⟩ := sl_put (slw (Ex.refl _)) (sp6 (Ex.refl _)) (sod (Ex.refl _)) (by decide)
    obtain ⟨w2, hw2, hw2a, hw2b⟩ := sl_ins (slw (Ex.refl _)) (sp6 (Ex.refl _)) (sod (Ex.refl _)) (by decide)
    refine s_forLI (ds := [.list (dStrs w1), .list (dStrs w2)]) (fun j σ G M => ∃ (x9 : Option V) (xs : List V) (lls : List (List Str)), σ = [some (.ref r), some v1, some v2, some v3, some (.ref p), some v5, some v6, some v7, some x8, x9, none] ∧ M = upd M6 p (.lst xs) ∧ RpL K G (dLL lls) xs ∧ lls.length = 2 * k + j ∧ okLL 27 1515 lls) (d_lst (a_cons hw1 (a_cons hw2 a_nil)) (Nat.le_of_ble_eq_true rfl)) A8 ?_ ⟨y9, xs, lls, rfl, rfl, rl, hl1, hl2⟩ (fun j d hj x9 σ2 G8 M8 H8 e8 A9 hI rx9 Nx2 hN2 => ?_) fun σ2 G8 M8 H8 e8 A9 hI => ?_
    · rintro k σ1 Ga Gb M1 e ⟨x9, xs, lls, h1, h2, h3, h4⟩
      exact ⟨x9, xs, lls, h1, h2, h3.up e, h4⟩
    · obtain ⟨y9', xs, lls, rfl, rfl, rl, hl1, hl2⟩ := hI
      obtain ⟨wj, rfl, hwja, hwjb⟩ : ∃ wj, d = .list (dStrs wj) ∧ wj.length ≤ 15 ∧ ∀ w ∈ wj, w.length ≤ 100 := by
        have := List.mem_of_getElem? hj
        rcases List.mem_cons.mp this with rfl | this
        · exact ⟨w1, rfl, hw1a, hw1b⟩
        · exact ⟨w2, List.mem_singleton.mp this, hw2a, hw2b⟩
      have hj2 : j < 2 := (List.getElem?_eq_some_iff.mp hj).1
      have hjn : SS K (tM1 joinR (tC (.str " ")) (tVar 9)) [some (.ref r), some v1, some v2, some v3, some (.ref p), some v5, some v6, some v7, some x8, some x9, none] G8 (15 * (100 + 1)) := ss_join (a := " ") rfl (sl_var (i := 9) rfl rx9 hwja hwjb) (by decide)
      obtain ⟨l, hl, hla, hlb⟩ := sl_put (i := 2) (j := 3) (sl (e7.trans e8)) (at3 (e7.trans e8)) hjn (by decide)
      refine s_app A9 rl rfl hl (by rw [dLL_len]; omega) fun xs' G9 H9 e9 A10 rl' => ?_
      refine hN2 _ G9 _ H9 e9 A10 ⟨_, xs', lls ++ [l], rfl, rfl, by rw [dLL_app]; exact rl', by rw [List.length_append, hl1]; rfl, hl2.app fun z hz => ?_⟩
      rw [List.mem_singleton.mp hz]
      exact ⟨hla, hlb⟩
    · obtain ⟨y9', xs, lls, rfl, rfl, rl, hl1, hl2⟩ := hI
      exact hN _ G8 _ H8 e8 A9 ⟨_, _, xs, lls, rfl, rfl, rl, by rw [hl1]; show 2 * k + 2 = _; omega, hl2⟩
  obtain ⟨y8, y9, xs, lls, rfl, rfl, rl, hl1, hl2⟩ := hI
  rw [dS_len, ho1] at hl1
  dsimp only
  have K0 : Kp r M M6 := ((Kp.refl.same S2).upd ((Kp.refl.same S2).none hM2p npr)).same (S4.trans S6)
  have hMp : M p = none := (Kp.refl.same S2).none hM2p npr
  have c2 : ∀ {v4 v7 x8 x9 x10 : Option V} {Gx : Hp}, Ex G6 Gx → SL K (tSl (rSlL K) (tVar 2) tNoPart (tPart (tVar 3))) [some (.ref r), some v1, some v2, some v3, v4, some v5, some v6, v7, x8, x9, x10] Gx 13 1515 := fun ex => sl_cut (sl ex) o_none (o_some (at3 ex))
  have c3 : ∀ {v4 v7 x8 x9 x10 : Option V} {Gx : Hp}, Ex G6 Gx → SL K (tSl (rSlL K) (tVar 2) (tPart (tVar 3)) tNoPart) [some (.ref r), some v1, some v2, some v3, v4, some v5, some v6, v7, x8, x9, x10] Gx 13 1515 := fun ex => sl_cut (sl ex) (o_some (at3 ex)) o_none
  have c4 : ∀ {v4 v7 x8 x9 x10 : Option V} {Gx : Hp}, Ex G6 Gx → SL K (tSl (rSlL K) (tVar 2) (tPart (tOp (rI0 fun i j => V.int (i + j)) (tVar 3) (tC (V.int 1)))) tNoPart) [some (.ref r), some v1, some v2, some v3, v4, some v5, some v6, v7, x8, x9, x10] Gx 13 1515 := fun ex => sl_cut (sl ex) (o_some (d_op (at3 ex) d_int rd_add)) o_none
  have em : ∀ {σ : L2.St} {Gx : Hp}, SS K (tC (V.str (Str.ofString ""))) σ Gx 1515 := ss_str (by decide)
  -- found + three
  obtain ⟨l3, h3, n3, k3⟩ := sll_cons ((sl_cat (c2 (v4 := some (.ref p)) (v7 := some v7) (x8 := y8) (x9 := y9) (x10 := none) e7) (c4 e7) (by decide)).le (show 13 + 13 ≤ 27 by decide) (Nat.le_refl _)) (sll_cons (sl_ins (sl e7) (at3 e7) ((lat e7).le (by decide)) (by decide)) (sll_cons (sl_ins (sl e7) (at3 e7) em (by decide)) sll_nil))
  refine q_grow A8 rl rfl (fun G' e => h3.up e) (by rw [dLL_len, dLL_len]; omega) fun p1 xs1 G8 H8 e8 hp1 A9 rl1 => ?_
  rw [← dLL_app] at rl1
  have R7 := R6.cut npr
  have np1 := R7.ne hp1
  have K1 := K0.cut hMp
  have hM1 := K1.none hp1 np1
  -- other
  have E8 := e7.trans e8
  refine q_setE (Φ := RI 0 ((linesT c).length - 1)) (n' := n + 1 + 1 + 1 + 1) (spin_call rfl (e_D (d_cb (a_cons (d_var (i := 2) rfl (r2b.up E8)) a_nil) rc_lenL) ⟨_, rfl, by rw [hLlen]; omega, by rw [hLlen]; omega, fun d h => by rw [hLlen] at h; exact h⟩) (by omega)) A9 .refl (R7.upd np1) fun d v10 G9 M9 H9 e9 A10 S9 R9 hd r10 => ?_
  obtain ⟨oi, rfl, o0, o1⟩ := hd
  obtain ⟨oN, rfl⟩ := Int.eq_ofNat_of_zero_le o0
  have K2 := (K1.upd (o := .lst xs1) hM1).same S9
  have hM9 : M9 p1 = some (.lst xs1) := (S9 p1 np1).trans upd_same
  rw [← upd_id hM9] at A10
  have E9 := E8.trans e9
  have at10 : ∀ {v4 : Option V} {Gx : Hp}, Ex G9 Gx → TrD K (tVar 10) [some (.ref r), some v1, some v2, some v3, v4, some v5, some v6, some v7, y8, y9, some v10] Gx (.int (oN : Int)) := fun ex => d_var rfl (r10.up ex)
  -- found + four
  obtain ⟨l4, h4, n4, k4⟩ := sll_cons ((sl_cat (c3 (v4 := some (.ref p1)) (v7 := some v7) (x8 := y8) (x9 := y9) (x10 := some v10) E9) (c2 E9) (by decide)).le (show 13 + 13 ≤ 27 by decide) (Nat.le_refl _)) (sll_cons ((sl_cat (sl E9) (sl_one em) (by decide)).le (show 13 + 1 ≤ 27 by decide) (Nat.le_refl _)) (sll_cons ((sl_cat (sl_one em) (sl E9) (by decide)).le (show 1 + 13 ≤ 27 by decide) (Nat.le_refl _)) (sll_cons ((sl_cat (sl E9) (sl E9) (by decide)).le (show 13 + 13 ≤ 27 by decide) (Nat.le_refl _)) sll_nil)))
  refine q_grow A10 (rl1.up e9) rfl (fun G' e => h4.up e) (by rw [dLL_len, dLL_len, List.length_append]; omega) fun p2 xs2 G10 H10 e10 hp2 A11 rl2 => ?_
  rw [← dLL_app] at rl2
  have R10 := R9.cut np1
  have np2 := R10.ne hp2
  have K3 := K2.cut hM1
  have hM2 := K3.none hp2 np2
  have E10 := E9.trans e10
  -- append twice
  obtain ⟨la, hla, la1, la2⟩ := sl_put (sl (v4 := some (.ref p2)) (v7 := some v7) (x8 := y8) (x9 := y9) (x10 := some v10) E10) (at3 E10) ((ss_ix (i := 5) (k := 0) rfl (r5b.up E10) d_int hw0 hW).le (by decide)) (by decide)
  refine q_app A11 rl2 rfl hla (by rw [dLL_len, List.length_append, List.length_append]; omega) fun xs3 G11 H11 e11 A12 rl3 => ?_
  have E11 := E10.trans e11
  obtain ⟨lb, hlb, lb1, lb2⟩ := sl_ins (sl (v4 := some (.ref p2)) (v7 := some v7) (x8 := y8) (x9 := y9) (x10 := some v10) E11) (at10 (e10.trans e11)) (ss_str (x := "k 1 2") (by decide)) (by decide)
  refine q_app A12 rl3 rfl hlb (by rw [List.length_append, dLL_len, List.length_append, List.length_append]; show _ + 1 < _; omega) fun xs4 G12 H12 e12 A13 rl4 => ?_
  rw [show dLL (lls ++ l3 ++ l4) ++ [.list (dStrs la)] ++ [.list (dStrs lb)] = dLL (lls ++ l3 ++ l4 ++ [la, lb]) from by rw [dLL_app _ [la, lb], List.append_assoc]; rfl] at rl4
  have ok4 : okLL 27 1515 (lls ++ l3 ++ l4 ++ [la, lb]) := ((hl2.app k3).app k4).app fun z hz => by
    rcases List.mem_cons.mp hz with rfl | hz
    · exact ⟨la1, la2⟩
    · rw [List.mem_singleton.mp hz]; exact ⟨lb1, lb2⟩
  have c4l : (lls ++ l3 ++ l4 ++ [la, lb]).length = 57 := cnt (cnt (cnt hl1 n3) n4) (show [la, lb].length = 2 from rfl)
  generalize lls ++ l3 ++ l4 ++ [la, lb] = l57 at rl4 ok4 c4l
  have E12 := E11.trans e12
  have X12 := (e10.trans e11).trans e12
  -- found + two, twice
  obtain ⟨l5, h5, n5, k5⟩ := sll_cons (sl_ins (sl (v4 := some (.ref p2)) (v7 := some v7) (x8 := y8) (x9 := y9) (x10 := some v10) E12) (at10 X12) (ss_str (x := "between 1") (by decide)) (by decide)) (sll_cons (sl_ins (sl E12) (at10 X12) (ss_str (x := "between") (by decide)) (by decide)) sll_nil)
  refine q_grow A13 rl4 rfl (fun G' e => h5.up e) (by rw [dLL_len, dLL_len]; omega) fun p3 xs5 G13 H13 e13 hp3 A14 rl5 => ?_
  rw [← dLL_app] at rl5
  have R12 := R10.cut np2
  have np3 := R12.ne hp3
  have K4 := K3.cut hM2
  have hM3 := K4.none hp3 np3
  have E13 := E12.trans e13
  have X13 := X12.trans e13
  obtain ⟨l6, h6, n6, k6⟩ := sll_cons (sl_ins (sl (v4 := some (.ref p3)) (v7 := some v7) (x8 := y8) (x9 := y9) (x10 := some v10) E13) (at10 X13) (ss_str (x := "between 1 2 3") (by decide)) (by decide)) (sll_cons (sl_ins (sl E13) (at10 X13) (ss_str (x := "stop 1") (by decide)) (by decide)) sll_nil)
  refine q_grow A14 rl5 rfl (fun G' e => h6.up e) (by rw [dLL_len, dLL_len, List.length_append]; omega) fun p4 xs6 G14 H14 e14 hp4 A15 rl6 => ?_
  rw [← dLL_app] at rl6
  have R13 := R12.cut np3
  have np4 := R13.ne hp4
  have K5 := K4.cut hM3
  have hM4 := K5.none hp4 np4
  have E14 := E13.trans e14
  have ok6 := (ok4.app k5).app k6
  have c6l : (l57 ++ l5 ++ l6).length = 61 := cnt (cnt c4l n5) n6
  generalize l57 ++ l5 ++ l6 = l61 at rl6 ok6 c6l
  -- a drawn line
  refine q_appE (n' := n + 1 + 1 + 1 + 1 + 1) (Φ := fun d => ∃ l, d = .list (dStrs l) ∧ l.length ≤ 27 ∧ ∀ w ∈ l, w.length ≤ 1515) rfl upd_same np4 (by rw [rl6.len, dLL_len]; omega) (e_op (Φ1 := fun d => ∃ l, d = .list (dStrs l) ∧ l.length ≤ 14 ∧ ∀ w ∈ l, w.length ≤ 1515) (Φ2 := fun d => ∃ l, d = .list (dStrs l) ∧ l.length ≤ 13 ∧ ∀ w ∈ l, w.length ≤ 1515) (e_op (Φ1 := fun d => ∃ l, d = .list (dStrs l) ∧ l.length ≤ 13 ∧ ∀ w ∈ l, w.length ≤ 1515) (Φ2 := fun d => ∃ l, d = .list (dStrs l) ∧ l.length ≤ 1 ∧ ∀ w ∈ l, w.length ≤ 1515) (e_SL (c2 E14)) (fun _ _ => e_lst (Ψ := fun ds => ∃ x, ds = [.str x] ∧ x.length ≤ 1515) (ea_cons (e_op (Φ1 := fun d => ∃ x, d = .str x ∧ x.length ≤ 113) (Φ2 := fun d => ∃ x, d = .str x ∧ x.length ≤ 100) (Φ := fun d => ∃ x, d = .str x ∧ x.length ≤ 1515) (e_SS (lat E14)) (fun _ _ => e_op (Φ1 := fun d => d = .str " 1") (Φ2 := RI 1 6) (e_D d_str rfl) (fun _ _ => e_op (Φ1 := fun d => d = .int 1) (Φ2 := RI 0 5) (e_D d_int rfl) (fun _ _ => spin_c rfl (by decide) (by decide) (by omega)) ?_) ?_) ?_) fun d hd => ea_nil ?_) ?_) ?_) (fun _ _ => e_SL (c4 E14)) ?_) A15 .refl (R13.upd np4) fun d v G15 M15 H15 e15 A16 S15 R15 hd r15 => ?_
  · rintro _ _ rfl ⟨i, rfl, h0, h1⟩
    exact ⟨_, rd_add, _, rfl, by omega, by omega⟩
  · rintro _ _ rfl ⟨i, rfl, h0, h1⟩
    refine ⟨_, rd_mulS (mulOk_of (by omega) (by omega) (by decide)), _, rfl, ?_⟩
    have h6 : ∀ i : Int, 1 ≤ i → i ≤ 6 → (Txt.mul " 1" i).length ≤ 100 := by
      intro i h0 h1
      have : i = 1 ∨ i = 2 ∨ i = 3 ∨ i = 4 ∨ i = 5 ∨ i = 6 := by omega
      rcases this with rfl | rfl | rfl | rfl | rfl | rfl <;> decide +kernel
    exact h6 i h0 h1
  · rintro _ _ ⟨x, rfl, h0⟩ ⟨y, rfl, h1⟩
    exact ⟨_, rd_addS (sz_of (by omega)), x ++ y, rfl, by rw [strLen_append]; omega⟩
  · obtain ⟨x, rfl, h0⟩ := hd
    exact ⟨x, rfl, h0⟩
  · rintro _ ⟨x, rfl, h0⟩
    exact ⟨Nat.le_of_ble_eq_true rfl, [x], rfl, Nat.le_refl _, fun w hw => by rw [List.mem_singleton.mp hw]; exact h0⟩
  · rintro _ _ ⟨x, rfl, h0, h1⟩ ⟨y, rfl, h2, h3⟩
    exact ⟨_, rd_cat (by rw [dS_len, dS_len]; omega), x ++ y, by rw [dS_app], by rw [List.length_append]; omega, fun w hw => (List.mem_append.mp hw).elim (h1 w) (h3 w)⟩
  · rintro _ _ ⟨x, rfl, h0, h1⟩ ⟨y, rfl, h2, h3⟩
    exact ⟨_, rd_cat (by rw [dS_len, dS_len]; omega), x ++ y, by rw [dS_app], by rw [List.length_append]; omega, fun w hw => (List.mem_append.mp hw).elim (h1 w) (h3 w)⟩
  obtain ⟨lc, rfl, lc1, lc2⟩ := hd
  have K6 := (K5.upd (o := .lst xs6) hM4).upd (o := .lst (xs6 ++ [v])) hM4 |>.same S15
  have hM15 : M15 p4 = some (.lst (xs6 ++ [v])) := (S15 p4 np4).trans upd_same
  rw [← upd_id hM15] at A16
  have rl7 : RpL K G15 (dLL (l61 ++ [lc])) (xs6 ++ [v]) := by
    rw [dLL_app]
    exact (rl6.up e15).snoc r15
  have E15 := E14.trans e15
  obtain ⟨ld, hld, ld1, ld2⟩ := sl_put (sl (v4 := some (.ref p4)) (v7 := some v7) (x8 := y8) (x9 := y9) (x10 := some v10) E15) (at3 E15) ((ss_add (ss_str (x := " ") (show (" " : Str).length ≤ 1 by decide)) (lat E15) (by decide)).le (by decide)) (by decide)
  refine q_app A16 rl7 rfl hld (by rw [dLL_len, cnt c6l (show [lc].length = 1 from rfl)]; decide) fun xs8 G16 H16 e16 A17 rl8 => ?_
  rw [show dLL (l61 ++ [lc]) ++ [.list (dStrs ld)] = dLL (l61 ++ [lc, ld]) from by rw [dLL_app, dLL_app, List.append_assoc]; rfl] at rl8
  have ok8 : okLL 27 1515 (l61 ++ [lc, ld]) := ok6.app fun z hz => by
    rcases List.mem_cons.mp hz with rfl | hz
    · exact ⟨lc1, lc2⟩
    · rw [List.mem_singleton.mp hz]; exact ⟨ld1, ld2⟩
  have c8l : (l61 ++ [lc, ld]).length = 63 := cnt c6l (show [lc, ld].length = 2 from rfl)
  generalize l61 ++ [lc, ld] = l63 at rl8 ok8 c8l
  obtain ⟨G17, e17, A18, r4⟩ := A17.frzC rl8
  obtain ⟨Mf, A19, Sf, hMf⟩ := A18.back (K6.cut hM4)
  have hRf : RL r (n + 5) Mf := by
    obtain ⟨a, b, cc, h1, h2⟩ := R15
    refine ⟨a, b, cc, ?_, h2⟩
    rw [hMf]
    show (if r = p4 then none else M15 r) = _
    rw [if_neg (Ne.symm np4)]
    exact h1
  have hjs : ∀ l ∈ l63, (l.map (·.length)).sum + l.length * ("\n" : Str).length ≤ 27 * (1515 + 1) := fun l hl => join_bd1 rfl (ok8 l hl).1 (ok8 l hl).2
  refine s_ret (d := .list (dStrs (l63.map fun l => Txt.join "\n" l))) (TrD.to (d_lcL (ds := dLL l63) (p := fun _ => true) (f := joinD) (d_var rfl r4) (by rw [dLL_len]; omega) (fun _ _ _ _ _ _ => b_yes) fun d hd _ x Gx ex rx => ?_) ?_) A19 fun v' G18 H18 e18 A20 rv => q _ v' G18 Mf H18 ((((e1.trans e2).trans E6).trans E15).trans ((e16.trans e17).trans e18)) A20 Sf hRf ⟨_, rfl, by rw [List.length_map]; omega, by rw [List.length_map]; omega, fun t ht => ?_⟩ rv
  · obtain ⟨l, hl, rfl⟩ := List.mem_map.mp hd
    exact TrD.to (d_join (ys := l) d_str (d_var rfl rx) (Nat.le_trans (hjs l hl) (by decide))) (joinD_eq l).symm
  · rw [filt_true]
    unfold dLL dStrs
    rw [List.map_map, List.map_map]
    congr 1
    exact List.map_congr_left fun l _ => joinD_eq l
  · obtain ⟨l, hl, rfl⟩ := List.mem_map.mp ht
    rw [TL.join_eq]
    exact Nat.le_trans (Nat.le_trans (StrLaws.join_length_le _ _) (hjs l hl)) (by decide)
end
end K80

namespace K80
open PySem PySem.Spec PyProof.Rows L2 Sb
local macro_rules | `(tactic| walk_at "ex") => `(tactic| first | exact Ex.refl _ | assumption | (refine' Ex.trans ?_ (by assumption); walk_at "ex"))
local macro_rules | `(tactic| walk_at "rp") => `(tactic| first | assumption | (refine' Rp.up ?e (by assumption); (case e => walk_at "ex")) | exact rfl)
local macro_rules | `(tactic| walk_at "rd") => `(tactic| with_reducible first | exact rd_add | exact rd_sub | exact rd_lt | exact rd_le | exact rd_gt | exact rd_ge | exact rd_eqI | exact rd_neI | exact rd_eqS | exact rd_neS | exact rd_isN | exact rd_ltS | exact rd_inSign | exact rd_eqE)
local macro_rules | `(tactic| walk_at "tr") => `(tactic| first
  | with_reducible exact d_int
  | with_reducible exact d_str
  | with_reducible exact d_bl
  | with_reducible exact d_non
  | with_reducible exact a_nil
  | with_reducible exact b_yes
  | with_reducible exact o_none
  | with_reducible exact d_newD
  | ((with_reducible refine' d_var ?i ?r); (case i => rfl); (case r => walk_at "rp"))
  | ((with_reducible refine' a_cons ?a ?b); (case a => walk_at "tr"); (case b => walk_at "tr"))
  | ((with_reducible refine' a_star ?a ?b); (case a => walk_at "tr"); (case b => walk_at "tr"))
  | ((with_reducible refine' d_isi ?a ?b); (case a => walk_at "tr"); (case b => decide))
  | ((with_reducible refine' d_op ?a ?b ?c); (case a => walk_at "tr"); (case b => walk_at "tr"); (case c => walk_at "rd"))
  | ((with_reducible refine' d_tup ?a ?b); (case a => walk_at "tr"); (case b => first | decide | (simp; done)))
  | ((with_reducible refine' d_lst ?a ?b); (case a => walk_at "tr"); (case b => first | decide | (simp; done)))
  | ((with_reducible refine' o_some ?a); (case a => walk_at "tr"))
  | ((with_reducible refine' b_B ?a); (case a => walk_at "tr"))
  | ((with_reducible refine' b_T ?a); (case a => walk_at "tr"))
  | ((with_reducible refine' b_not ?a); (case a => walk_at "tr"))
  | ((with_reducible refine' v_not ?a); (case a => walk_at "tr"))
  | ((with_reducible refine' b_or ?a ?b); (case a => walk_at "tr"); (case b => intro _; walk_at "tr"))
  | ((with_reducible refine' b_and ?a ?b); (case a => walk_at "tr"); (case b => intro _; walk_at "tr"))
  | ((with_reducible refine' v_or ?a ?b); (case a => walk_at "tr"); (case b => intro _; walk_at "tr"))
  | ((with_reducible refine' v_and ?a ?b); (case a => walk_at "tr"); (case b => intro _; walk_at "tr"))
  | assumption)


theorem fstP_lt {b : Nat → Str → Bool} : ∀ {ws : List Str} {p q : Nat}, fstP b ws p = some q → q < p + ws.length
  | [], _, _, h => by cases h
  | w :: ws, p, q, h => by
    unfold fstP at h
    rw [List.length_cons]
    split at h
    · cases h
      omega
    · have := fstP_lt h
      omega
theorem wfault_bd {m : Nat} {ws : List Str} {p : Nat} (h : wfault m ws = some p) : p ≤ 1 + ws.length := by
  unfold wfault at h
  split at h
  · rename_i q hq
    cases h
    have := fstP_lt hq
    rw [List.length_tail] at this
    omega
  · split at h
    · cases h
      omega
    · cases h
theorem pfA_bd {B : Nat} : ∀ {rows : List Str} {line st : Nat} {names : List Str} {l p : Nat}, (∀ row ∈ rows, (wordsT row).length ≤ B) → pfA rows line st names = some (l, p) → l ≤ line + rows.length ∧ p ≤ 1 + B
  | [], line, st, names, l, p, _, h => by
    have h' : (if st = 4 then none else some (line, 0)) = some (l, p) := h
    split at h'
    · cases h'
    · cases h'
      exact ⟨by omega, by omega⟩
  | row :: rows, line, st, names, l, p, hb, h => by
    rw [pfA_cons] at h
    rw [List.length_cons]
    have hr := hb row (List.mem_cons_self ..)
    split at h
    · cases h
      exact ⟨by omega, by omega⟩
    · split at h
      · rename_i hq
        cases h
        have := wfault_bd hq
        exact ⟨by omega, by omega⟩
      · have := pfA_bd (fun r2 h2 => hb r2 (List.mem_cons_of_mem _ h2)) h
        exact ⟨by omega, this.2⟩
theorem faultI_small {t : Str} (h : t.length ≤ 90000) : (∀ n ∈ faultI t, smallI n) ∧ (faultI t).length ≤ 1000 := by
  obtain ⟨hrl, hrw⟩ := split_bd t "\n" (by decide +kernel) (by decide +kernel)
  have hwords : ∀ row ∈ Txt.split t "\n", (wordsT row).length ≤ 90001 := fun row hr => by
    have h1 := (hrw row hr).1
    obtain ⟨h2, _⟩ := split_bd row " " (by decide +kernel) (by decide +kernel)
    unfold wordsT
    omega
  unfold faultI
  split
  · rename_i l p hp
    obtain ⟨h1, h2⟩ := pfA_bd hwords hp
    refine ⟨fun n hn => ?_, Nat.le_of_ble_eq_true rfl⟩
    rcases List.mem_cons.mp hn with rfl | hn
    · exact ⟨by omega, by omega⟩
    · rw [List.mem_singleton.mp hn]
      exact ⟨by omega, by omega⟩
  · exact ⟨fun n hn => (by cases hn), Nat.zero_le _⟩
theorem eqvA_ints : ∀ a : List Int, PyData.eqvAll (dInts a) (dInts a) = true
  | [] => rfl
  | x :: a => by
    show (PyData.eqv (.int x) (.int x) && PyData.eqvAll (dInts a) (dInts a)) = _
    rw [eqvA_ints a]
    simp [PyData.eqv]
theorem shaped_intsL' (ns : List Int) : SeqAt.shaped (.list (dInts ns)) = true := shaped_intsL ns
section
variable {P : Program} {w : World} {K : PySem.W.Frag} {mg : Str → Option Value} {base : Heap}
def R_right : List PyData → Nat → (PyData → Prop) → Prop := fun ds k Φ => ∃ c : CodeD, ds = [.str (codeT c)] ∧ c.ok ∧ k = 11 ∧ Φ = fun d => d = .bool true
theorem F__law_right (T : Tx K mg) : Fd P w K mg base CX0 10 "_law_right" (ESp K R_right) [] := by
  obtain ⟨fd, F⟩ := T.f__law_right
  refine ⟨_, fd, ["reel", "text"], [], T.g__law_right, F.kp, F.bindsN fun _ _ _ _ _ _ us hl => match us, hl with | [_, _], _ => rfl, .nil, ?_⟩
  refine fnG_of F sc__law_right (fun vs H Q E h => ESp.len (n := 1) (by rintro _ _ _ ⟨d, rfl, _⟩; rfl) h) (fun cdv A outer s H vs Q E hg hr h => ?_)
  obtain ⟨r, ws, G, M, n, k, ds, Φ, rfl, hA, hRL, hws, ⟨c, rfl, ok, rfl, rfl⟩, hn, q⟩ := h
  obtain ⟨v1, _, rfl, r1, rfl⟩ := hws
  refine ⟨_, PSs.nox (pss_cons (ps_for PassesOwn.never rfl (pi_list (pe_op op_cat (pe_lst (pa_cons (pv 1) pa_nil)) (pe_fd (F__law_bent (P := P) (w := w) (base := base) T) hg (hr.mono (by decide)) pass0 (pa_cons (pv 0) (pa_cons (pv 1) pa_nil))))) (pg_name (i := 2) sc__law_right.nd rfl (by first | exact Or.inl rfl | exact Or.inr rfl)) (pss_one (ps_if (pt_cmpR op_ne (pe_callB (call_reprR hg hr.units) (by rfl) T.n_repr (by decide +kernel) (pa_cons (pe_fd (F__law_told (P := P) (w := w) (base := base) T) hg (hr.mono (by decide)) pass0 (pa_cons (pv 2) pa_nil)) pa_nil)) (pe_callB (call_reprR hg hr.units) (by rfl) T.n_repr (by decide +kernel) (pa_cons (pe_fd (F__law_fault (P := P) (w := w) (base := base) T) hg (hr.mono (by decide)) pass0 (pa_cons (pv 2) pa_nil)) pa_nil)) (nomark _)) (pss_one (ps_ret pe_bl)) pss_nil)))
    (pss_cons (ps_set (i := 3) sc__law_right.nd rfl (by first | exact Or.inl rfl | exact Or.inr rfl) (pe_fd (F__law_bent (P := P) (w := w) (base := base) T) hg (hr.mono (by decide)) pass0 (pa_cons (pv 0) (pa_cons (pv 1) pa_nil))))
    (pss_cons (ps_set (i := 2) sc__law_right.nd rfl (by first | exact Or.inl rfl | exact Or.inr rfl) (pe_ix ix_list (pv 3) (pe_fd (F__law_spin (P := P) (w := w) (base := base) T) hg (hr.mono (by decide)) pass0 (pa_cons (pv 0) (pa_cons (pe_callB call_len' (by rfl) T.n_len (by decide +kernel) (pa_cons (pv 3) pa_nil)) pa_nil))) (fun _ _ => rfl)))
    (pss_one (ps_ret (pe_and (pe_cmpR op_eq (pe_callB (call_reprR hg hr.units) (by rfl) T.n_repr (by decide +kernel) (pa_cons (pe_fd (F__law_told (P := P) (w := w) (base := base) T) hg (hr.mono (by decide)) pass0 (pa_cons (pv 2) pa_nil)) pa_nil)) (pe_callB (call_reprR hg hr.units) (by rfl) T.n_repr (by decide +kernel) (pa_cons (pe_fd (F__law_fault (P := P) (w := w) (base := base) T) hg (hr.mono (by decide)) pass0 (pa_cons (pv 2) pa_nil)) pa_nil)) (nomark _)) (pe_one (pe_cmpR (op_eqR hr.units) (pe_fd (F__law_told (P := P) (w := w) (base := base) T) hg (hr.mono (by decide)) pass0 (pa_cons (pe_op op_add_str (pe_op op_add_str (pv 2) pe_str) (pv 2)) pa_nil)) (pe_fd (F__law_fault (P := P) (w := w) (base := base) T) hg (hr.mono (by decide)) pass0 (pa_cons (pe_op op_add_str (pe_op op_add_str (pv 2) pe_str) (pv 2)) pa_nil)) (nomark _))))))))), ?_⟩
  rw [show L2.start ["reel", "text", "one", "some"] [(.ref r), v1] = [some (.ref r), some v1, none, none] from rfl]
  dsimp only [xK]
  have told_fault : ∀ {i : Nat} {t : Str} {σ : L2.St} {Gx : Hp} {te : TE}, TrD K te σ Gx (.str t) → t.length ≤ 90000 → TrD K (tCall (PSp K R_told) [] E0 (tCons te tNil)) σ Gx (.list (dInts (faultI t))) ∧ TrD K (tCall (PSp K R_fault) [] E0 (tCons te tNil)) σ Gx (.list (dInts (faultI t))) := fun h hl => ⟨d_call0 (a_cons h a_nil) ⟨_, rfl, fun t' e => by cases e; exact hl, rfl⟩, d_call0 (a_cons h a_nil) ⟨_, rfl, hl, rfl⟩⟩
  have bent : ∀ {σ : L2.St} {Gx M0 : Hp} {m : Nat} {v : V}, σ[0]? = some (some (.ref r)) → σ[1]? = some (some v) → Rp K Gx (.str (codeT c)) v → m + 5 ≤ 1000000 → TrE K r M0 (tCall (ESp K R_bent) [] E0 (tCons (tVar 0) (tCons (tVar 1) tNil))) σ Gx m (m + 5) okTs := fun h0 h1 rv hm => e_call (Ψ := fun ds => ds = [.str (codeT c)]) h0 (ea_A (a_cons (d_var h1 rv) a_nil) rfl) (fun ds h => ⟨c, h, ok, rfl, rfl⟩) hm
  have hct := codeT_len ok
  have hsm : ∀ {t : Str}, t.length ≤ 90000 → RC K (rRepr K) [.list (dInts (faultI t))] (.str (PyData.shown (.list (dInts (faultI t))))) := fun h => rc_ints (faultI_small h).1 (faultI_small h).2
  refine s_seq (s_forLE (n' := n + 5) (Φ := fun d => ∃ ts, d = .list (dStrs ts) ∧ ∀ t ∈ ts, t.length ≤ 41000) (e_op (Φ1 := fun d => d = .list [.str (codeT c)]) (Φ2 := okTs) (e_D (d_lst (a_cons (d_var rfl r1) a_nil) (Nat.le_of_ble_eq_true rfl)) rfl) (fun _ _ => bent rfl rfl r1 (by omega)) ?_) (fun d ⟨ts, h, _⟩ => ⟨_, h⟩) hA .refl hRL fun ds v G1 M1 H1 e1 A1 S1 R1 hds rds => ?_)
  · rintro _ _ rfl ⟨ts, rfl, h0, h1, h2⟩
    refine ⟨.list (dStrs (codeT c :: ts)), ?_, _, rfl, fun t ht => ?_⟩
    · exact rd_cat (by rw [dS_len]; show 1 + _ ≤ _; omega)
    · rcases List.mem_cons.mp ht with rfl | ht
      · omega
      · exact h2 t ht
  obtain ⟨ts, hts, hb⟩ := hds
  cases hts
  refine s_forLI (fun j σ G M => (∃ x2, σ = [some (.ref r), some v1, x2, none]) ∧ M = M1) (d_val rds) A1 (fun e h => h) ⟨⟨none, rfl⟩, rfl⟩ (fun j d hj x2 σ2 G2 M2 H2 e2 A2 hI rx Nx hN => ?_) fun σ2 G2 M2 H2 e2 A2 hI => ?_
  · obtain ⟨⟨y2, rfl⟩, rfl⟩ := hI
    obtain ⟨t, ht, rfl⟩ := mem_strs (List.mem_of_getElem? hj)
    have hl : t.length ≤ 90000 := by have := hb t ht; omega
    obtain ⟨t1, t2⟩ := told_fault (i := 0) (σ := [some (.ref r), some v1, some x2, none]) (d_var (i := 2) rfl rx) hl
    exact s_ifF (TrB.to (b_T (d_op (d_cb (a_cons t1 a_nil) (hsm hl)) (d_cb (a_cons t2 a_nil) (hsm hl)) rd_neS)) (by rw [decide_eq_true rfl]; rfl)) A2 fun G3 H3 e3 A3 => s_next (hN _ G3 M2 H3 e3 A3 ⟨⟨_, rfl⟩, rfl⟩)
  obtain ⟨⟨y2, rfl⟩, rfl⟩ := hI
  dsimp only
  have r1b := r1.up (e1.trans e2)
  refine q_setE (n' := n + 5 + 5) (Φ := okTs) (bent rfl rfl r1b (by omega)) A2 .refl R1 fun d v3 G3 M3 H3 e3 A3 S3 R3 hd r3 => ?_
  obtain ⟨ts2, rfl, h0, h1, h2⟩ := hd
  refine q_setE (n' := n + 5 + 5 + 1) (Φ := fun d => ∃ t, d = .str t ∧ t.length ≤ 41000) (e_op (Φ1 := fun d => d = .list (dStrs ts2)) (Φ2 := RI 0 (ts2.length - 1)) (e_D (d_var rfl r3) rfl) (fun _ _ => spin_call rfl (e_D (d_cb (a_cons (d_var rfl r3) a_nil) rc_lenL) ⟨_, rfl, by rw [dS_len]; omega, by rw [dS_len]; omega, fun d h => by rw [dS_len] at h; exact h⟩) (by omega)) ?_) A3 .refl R3 fun d v2 G4 M4 H4 e4 A4 S4 R4 hd r2 => ?_
  · rintro _ _ rfl ⟨i, rfl, i0, i1⟩
    obtain ⟨iN, rfl⟩ := Int.eq_ofNat_of_zero_le i0
    have hi : iN < ts2.length := by omega
    refine ⟨.str ts2[iN], rd_ixL ?_, _, rfl, h2 _ (List.getElem_mem _)⟩
    rw [at_dat (k := iN) (by rw [dS_len]; exact hi)]
    unfold dStrs
    rw [List.getElem_map]
  obtain ⟨t, rfl, ht⟩ := hd
  have hl : t.length ≤ 90000 := by omega
  have hnl : ("\n" : Str).length = 1 := rfl
  have hl2 : (t ++ "\n" ++ t : Str).length ≤ 90000 := by rw [strLen_append, strLen_append]; omega
  obtain ⟨t1, t2⟩ := told_fault (i := 0) (σ := [some (.ref r), some v1, some v2, some v3]) (d_var (i := 2) rfl r2) hl
  obtain ⟨t3, t4⟩ := told_fault (i := 0) (σ := [some (.ref r), some v1, some v2, some v3]) (d_op (d_op (d_var (i := 2) rfl r2) (d_str (x := "\n")) (rd_addS (sz_of (by omega)))) (d_var (i := 2) rfl r2) (rd_addS (sz_of (by rw [strLen_append]; omega)))) hl2
  refine s_ret (d := .bool true) (TrD.to (v_andT (TrD.to (d_op (d_cb (a_cons t1 a_nil) (hsm hl)) (d_cb (a_cons t2 a_nil) (hsm hl)) rd_eqS) (by rw [decide_eq_true rfl])) (d_op t3 t4 (rd_eqR (shaped_intsL _) (shaped_intsL _)))) ?_) A4 fun v G5 H5 e5 A5 rv => q _ v G5 M4 H5 ((((e1.trans e2).trans e3).trans e4).trans e5) A5 ((S1.trans S3).trans S4) R4 rfl rv
  show PyData.bool (PyData.eqv _ _) = _
  simp only [PyData.eqv, eqvA_ints]
def elevenT : Str := "start 1\n" ++ Txt.join "\n" ((chrs "0123456789a").map (· ++ " 1")) ++ "\nstop 1"
def onesL : List Str := ["", "start 1", "start 1\nstop 1", "start 1\na 1", "start 1\na 1\nstop", elevenT]
def toldsI : List (List Int) := [[0, 0], [1, 0], [1, 0], [2, 0], [2, 1], [11, 0]]
theorem ones_told : onesL.map faultI = toldsI := by decide +kernel
theorem ones_len : ∀ t ∈ onesL, t.length ≤ 90000 := by
  have h : onesL.all (fun w => decide (w.length ≤ 90000)) = true := by decide +kernel
  exact fun w hw => of_decide_eq_true (List.all_eq_true.mp h w hw)
theorem toldD_non {d : PyData} (h : ∀ t, d ≠ .str t) : toldD d = [.none, .none] := by
  cases d <;> first | rfl | exact absurd rfl (h _)
theorem shaped_nn : SeqAt.shaped (.list [.none, .none]) = true := by decide +kernel
theorem eqv_nn : PyData.eqv (.list [.none, .none]) (.list [.none, .none]) = true := by decide +kernel
def S_law (K : PySem.W.Frag) : Sp := fun vs H Q _ => ∃ (a : Addr) (ns : List Int), vs = [.ref a] ∧ SqL K H a (ns.map V.int) ∧ ns.length ≤ 1000 ∧ ∀ H', Q (.bl true) H'
theorem G_law {f : Addr} {fd : FuncData} (T : Tx K mg) (F : FunD K "law" "law" (defArgs s_law) (defBody s_law) (defScope s_law) (d_law.dvs K) (d_law.kws K) f fd) : FnG P w K mg base CX0 12 f fd ["script"] (S_law K) := by
  refine fnG_of F sc_law (fun vs H Q E h => by obtain ⟨_, _, rfl, _⟩ := h; rfl) (fun cdv A outer s H vs Q E hg hr h => ?_)
  obtain ⟨a, ns, rfl, hS, hl, q⟩ := h
  refine ⟨_, PSs.nox (pss_cons (ps_for PassesOwn.never rfl (pi_range1 (by rfl) T.n_range (pa_cons (pe_callB (call_max2' rfl) (by rfl) T.n_max (by decide +kernel) (pa_cons pe_int (pa_cons (pe_callB (call_min2' rfl) (by rfl) T.n_min (by decide +kernel) (pa_cons pe_int (pa_cons (pe_callB call_len' (by rfl) T.n_len (by decide +kernel) (pa_cons (pv 0) pa_nil)) pa_nil))) pa_nil))) pa_nil)) (pg_name (i := 1) sc_law.nd rfl (by first | exact Or.inl rfl | exact Or.inr rfl)) (pss_cons (ps_set (i := 2) sc_law.nd rfl (by first | exact Or.inl rfl | exact Or.inr rfl) (pe_fd (F__law_reel (P := P) (w := w) (base := base) T) hg (hr.mono (by decide)) pass0 (pa_cons (pv 0) (pa_cons (pv 1) pa_nil)))) (pss_one (ps_for PassesOwn.never rfl (pi_list (pe_lst (pa_cons (pe_tup (pa_cons pe_int (pa_cons pe_int pa_nil))) (pa_cons (pe_tup (pa_cons (pe_op op_add pe_int (pe_fd (F__law_spin (P := P) (w := w) (base := base) T) hg (hr.mono (by decide)) pass0 (pa_cons (pv 2) (pa_cons pe_int pa_nil)))) (pa_cons pe_int pa_nil))) pa_nil)))) (pg_tup (by rfl) (pgs_cons (pg_name (i := 3) sc_law.nd rfl (by first | exact Or.inl rfl | exact Or.inr rfl)) (pgs_cons (pg_name (i := 4) sc_law.nd rfl (by first | exact Or.inl rfl | exact Or.inr rfl)) pgs_nil))) (pss_one (ps_if (pt_not (pt_val (pe_fd (F__law_right (P := P) (w := w) (base := base) T) hg (hr.mono (by decide)) pass0 (pa_cons (pv 2) (pa_cons (pe_fd (F_format_code (P := P) (w := w) (base := base) T) hg (hr.mono (by decide)) pass0 (pa_cons (pe_fd (F__law_code (P := P) (w := w) (base := base) T) hg (hr.mono (by decide)) pass0 (pa_cons (pv 2) (pa_cons (pv 3) (pa_cons (pv 4) pa_nil)))) pa_nil)) pa_nil))))) (pss_one (ps_ret pe_bl)) pss_nil))))))
    (pss_cons (ps_for PassesOwn.never rfl (pi_list (pe_lst (pa_cons pe_non (pa_cons pe_int (pa_cons pe_bl (pa_cons (pe_lst (pa_cons pe_str pa_nil)) (pa_cons (pe_tup (pa_cons pe_str pa_nil)) (pa_cons pe_dnewK pa_nil)))))))) (pg_name (i := 5) sc_law.nd rfl (by first | exact Or.inl rfl | exact Or.inr rfl)) (pss_one (ps_if (pt_cmpR (op_neR hr.units) (pe_fd (F__law_told (P := P) (w := w) (base := base) T) hg (hr.mono (by decide)) pass0 (pa_cons (pv 5) pa_nil)) (pe_lst (pa_cons pe_non (pa_cons pe_non pa_nil))) (nomark _)) (pss_one (ps_ret pe_bl)) pss_nil)))
    (pss_cons (ps_set (i := 6) sc_law.nd rfl (by first | exact Or.inl rfl | exact Or.inr rfl) (pe_op op_add_str (pe_op op_add_str pe_str (pe_join pe_str (pe_lc (own := [("name", 8)]) (g := gName 8) (by rfl) sc_law.nd (pi_str pe_str) (blkOk_by (own := [("name", 8)]) (N := ["script", "index", "reel", "many", "most", "value", "eleven", "told", "name", "one"]) (sc := defScope s_law) (by decide +kernel)) (fun _ _ _ _ _ => (pg_name (i := 8) sc_law.nd rfl (by first | exact Or.inl rfl | exact Or.inr rfl))) (fun _ _ _ _ _ => pts_nil) (fun _ _ _ _ _ => (pe_op op_add_str (pv 8) pe_str))))) pe_str))
    (pss_cons (ps_setLc (i := 7) (own := [("one", 9)]) (g := gName 9) (by rfl) sc_law.nd rfl rfl (sw_true rfl rfl rfl (by decide +kernel)) (pi_list (pe_lst (pa_cons pe_str (pa_cons pe_str (pa_cons pe_str (pa_cons pe_str (pa_cons pe_str (pa_cons (pv 6) pa_nil)))))))) (blkOk_by (own := [("one", 9)]) (N := ["script", "index", "reel", "many", "most", "value", "eleven", "told", "name", "one"]) (sc := defScope s_law) (by decide +kernel)) (fun _ _ _ _ _ => (pg_name (i := 9) sc_law.nd rfl (by first | exact Or.inl rfl | exact Or.inr rfl))) (fun _ _ _ _ _ => pts_nil) (fun _ _ _ _ _ => (pe_fd (F__law_told (P := P) (w := w) (base := base) T) hg (hr.mono (by decide)) pass0 (pa_cons (pv 9) pa_nil))))
    (pss_one (ps_ret (pe_cmpR (op_eqS hr.units) (pv 7) (pe_lst (pa_cons (pe_lst (pa_cons pe_int (pa_cons pe_int pa_nil))) (pa_cons (pe_lst (pa_cons pe_int (pa_cons pe_int pa_nil))) (pa_cons (pe_lst (pa_cons pe_int (pa_cons pe_int pa_nil))) (pa_cons (pe_lst (pa_cons pe_int (pa_cons pe_int pa_nil))) (pa_cons (pe_lst (pa_cons pe_int (pa_cons pe_int pa_nil))) (pa_cons (pe_lst (pa_cons pe_int (pa_cons pe_int pa_nil))) pa_nil))))))) (nomark _)))))))), ?_⟩
  rw [show L2.start ["script", "index", "reel", "many", "most", "value", "eleven", "told", "name", "one"] [(.ref a)] = [some (.ref a), none, none, none, none, none, none, none, none, none] from rfl]
  dsimp only [xK, xK2]
  have hA : At H (fun _ => none) H := ⟨Ex.refl _, fun _ _ z => (by cases z), fun _ _ z => (by cases z)⟩
  have hlen : TrD K (tCB (Sb.rLen K) (tCons (tVar 0) tNil)) [some (.ref a), none, none, none, none, none, none, none, none, none] H (.int ((ns.map V.int).length : Nat)) := d_lenQ rfl hS
  rw [List.length_map] at hlen
  refine s_seq (s_forRI (fun k σ G M => ∃ x1 x2 x3 x4 : Option V, σ = [some (.ref a), x1, x2, x3, x4, none, none, none, none, none]) (d_cb (a_cons d_int (a_cons (d_cb (a_cons d_int (a_cons hlen a_nil)) rc_min2) a_nil)) rc_max2) (by split <;> omega) (by split <;> omega) hA (fun e h => h) ⟨none, none, none, none, rfl⟩ (fun k hk σ1 G1 M1 H1 e1 A1 hI Nx hN => ?_) fun σ1 G1 M1 H1 e1 A1 hI => ?_)
  · obtain ⟨x1, x2, x3, x4, rfl⟩ := hI
    have hk4 : k < 4 := by
      have z : (k : Int) < 4 := by
        refine Int.lt_of_lt_of_le hk ?_
        split <;> (try split) <;> omega
      omega
    refine s_seq ⟨_, rfl, _, rfl, G1, M1, a, ns, k, rfl, A1, e1.sl hS, hl, by omega, fun p x b G2 H2 hM hG e2 A2 b0 b1 => ?_⟩
    have R0 : RL p 0 (upd M1 p (.lst [.int x, .int b, .int 0])) := ⟨x, b, 0, upd_same, b0, b1, Nat.le_refl _⟩
    refine s_forLE (n' := 1) (r := p) (Φ := fun d => ∃ m : Nat, d = .list [.tuple [.int 10, .int 6], .tuple [.int m, .int 3]] ∧ 1 ≤ m ∧ m ≤ 10) (e_lst (Ψ := fun ds => ∃ m : Nat, ds = [.tuple [.int 10, .int 6], .tuple [.int m, .int 3]] ∧ 1 ≤ m ∧ m ≤ 10) (ea_cons (n := 0) (m := 0) (Φ := fun d => d = .tuple [.int 10, .int 6]) (e_D (d_tup (a_cons d_int (a_cons d_int a_nil)) (Nat.le_of_ble_eq_true rfl)) rfl) fun d hd => ea_cons (m := 1) (Φ := fun d => ∃ m : Nat, d = .tuple [.int m, .int 3] ∧ 1 ≤ m ∧ m ≤ 10) (e_tup (Ψ := fun ds => ∃ m : Nat, ds = [.int m, .int 3] ∧ 1 ≤ m ∧ m ≤ 10) (ea_cons (m := 1) (Φ := fun d => ∃ m : Nat, d = .int m ∧ 1 ≤ m ∧ m ≤ 10) (e_op (Φ1 := fun d => d = .int 1) (Φ2 := RI 0 3) (e_D d_int rfl) (fun _ _ => spin_c rfl (by decide) (by decide) (by omega)) ?_) fun d hd => ea_A (a_cons d_int a_nil) ?_) ?_) fun d2 hd2 => ea_nil ?_) ?_) (fun d ⟨m, h, _⟩ => ⟨_, h⟩) A2 .refl R0 fun ds v G3 M3 H3 e3 A3 S3 R3 hds rds => ?_
    · rintro _ _ rfl ⟨i, rfl, h0, h1⟩
      obtain ⟨iN, rfl⟩ := Int.eq_ofNat_of_zero_le h0
      exact ⟨_, rd_add, 1 + iN, by congr 1, by omega, by omega⟩
    · obtain ⟨m, rfl, h⟩ := hd
      exact ⟨m, rfl, h⟩
    · rintro _ ⟨m, rfl, h⟩
      exact ⟨Nat.le_of_ble_eq_true rfl, m, rfl, h⟩
    · obtain ⟨m, rfl, h⟩ := hd2
      subst hd
      exact ⟨m, rfl, h⟩
    · rintro _ ⟨m, rfl, h⟩
      exact ⟨Nat.le_of_ble_eq_true rfl, m, rfl, h⟩
    obtain ⟨m, hm, m0, m1⟩ := hds
    cases hm
    refine s_forLG (fun j σ G M => ∃ y3 y4 : Option V, σ = [some (.ref a), some (.int k), some (.ref p), y3, y4, none, none, none, none, none] ∧ RL p (1 + j * 2000) M) (d_val rds) A3 (fun e h => h) ⟨x3, x4, rfl, R3⟩ (fun j d hj x σ3 G4 M4 H4 e4 A4 hI rx Nx2 hN2 => ?_) fun σ3 G4 M4 H4 e4 A4 hI => ?_
    · obtain ⟨y3, y4, rfl, R4⟩ := hI
      have hj2 : j < 2 := (List.getElem?_eq_some_iff.mp hj).1
      obtain ⟨many, most, rfl, hb⟩ : ∃ many most : Nat, d = .tuple [.int many, .int most] ∧ (1 ≤ many ∧ many ≤ 10 ∧ 1 ≤ most ∧ most ≤ 6) := by
        have := List.mem_of_getElem? hj
        rcases List.mem_cons.mp this with rfl | this
        · exact ⟨10, 6, rfl, by decide⟩
        · rw [List.mem_singleton.mp this]
          exact ⟨m, 3, rfl, m0, m1, by decide, by decide⟩
      refine g_tup A4 rx rfl fun xs rxs => ?_
      obtain ⟨v3, _, rfl, r3, v4, _, rfl, r4, rfl⟩ := rxs
      refine ⟨v3, [v4], rfl, v4, [], rfl, rfl, ?_⟩
      refine s_ifE (n' := 1 + j * 2000 + 1000 + 11) (r := p) (e_call (R := R_right) (k := 11) (Ψ := fun ds => ∃ c : CodeD, ds = [.str (codeT c)] ∧ c.ok) (Φ := fun d => d = .bool true) rfl (ea_cons (e_callP (R := R_format_code) (Ψ := fun ds => ∃ c : CodeD, ds = [c.d] ∧ c.ok) (Φ := fun d => ∃ c : CodeD, d = .str (codeT c) ∧ c.ok) (ea_cons (e_call (R := R_code) (k := 1000) (Ψ := fun ds => ds = [.int many, .int most]) (Φ := fun d => ∃ c : CodeD, d = c.d ∧ c.ok) rfl (ea_A (a_cons (d_var rfl r3) (a_cons (d_var rfl r4) a_nil)) rfl) (fun ds h => ⟨many, most, h, hb.1, hb.2.1, hb.2.2.1, hb.2.2.2, rfl, rfl⟩) (by omega)) fun d hd => ea_nil ?_) ?_) fun d hd => ea_nil ?_) (fun ds h => ?_) (by omega)) A4 .refl R4 fun G5 M5 H5 e5 A5 S5 R5 => s_next (hN2 _ G5 M5 H5 e5 A5 ⟨_, _, rfl, R5.le (by omega)⟩)
      · obtain ⟨c, rfl, ok⟩ := hd
        exact ⟨c, rfl, ok⟩
      · rintro _ ⟨c, rfl, ok⟩
        exact ⟨_, ⟨c, rfl, ok, rfl⟩, c, rfl, ok⟩
      · obtain ⟨c, rfl, ok⟩ := hd
        exact ⟨c, rfl, ok⟩
      · obtain ⟨c, rfl, ok⟩ := h
        exact ⟨c, rfl, ok, rfl, rfl⟩
    · obtain ⟨y3, y4, rfl, R4⟩ := hI
      exact hN _ G4 M4 H4 ((e2.trans e3).trans e4) A4 ⟨_, _, _, _, rfl⟩
  obtain ⟨x1, x2, x3, x4, rfl⟩ := hI
  refine s_seq (s_forLI (ds := [.none, .int 0, .bool true, .list [.str "start 1"], .tuple [.str "start 1"], .dict (keysD [])]) (fun j σ G M => ∃ x5 : Option V, σ = [some (.ref a), x1, x2, x3, x4, x5, none, none, none, none]) (d_lst (a_cons d_non (a_cons d_int (a_cons d_bl (a_cons (d_lst (a_cons d_str a_nil) (Nat.le_of_ble_eq_true rfl)) (a_cons (d_tup (a_cons d_str a_nil) (Nat.le_of_ble_eq_true rfl)) (a_cons d_newD a_nil)))))) (Nat.le_of_ble_eq_true rfl)) A1 (fun e h => h) ⟨none, rfl⟩ (fun j d hj x5 σ2 G2 M2 H2 e2 A2 hI rx Nx hN => ?_) fun σ2 G2 M2 H2 e2 A2 hI => ?_)
  · obtain ⟨y5, rfl⟩ := hI
    have hd : ∀ t, d ≠ .str t := by
      have := List.mem_of_getElem? hj
      intro t h
      subst h
      simp at this
    exact s_ifF (TrB.to (b_T (d_op (TrD.to (d_call0 (a_cons (d_var rfl rx) a_nil) ⟨d, rfl, fun t h => absurd h (hd t), rfl⟩) (by rw [toldD_non hd])) (d_lst (a_cons d_non (a_cons d_non a_nil)) (Nat.le_of_ble_eq_true rfl)) (rd_neR shaped_nn shaped_nn))) (by rw [eqv_nn]; rfl)) A2 fun G3 H3 e3 A3 => s_next (hN _ G3 M2 H3 e3 A3 ⟨_, rfl⟩)
  obtain ⟨x5, rfl⟩ := hI
  dsimp only
  have hcomp : TrD K (tLc (iStr (tC (V.str (Str.ofString "0123456789a")))) (gName 8) tYes (tOp (fun x y H Q => ∃ i j, x = V.str i ∧ y = V.str j ∧ i.length + j.length ≤ sizeLine ∧ Q (V.str (i ++ j)) H) (tVar 8) (tC (V.str (Str.ofString " 1")))) [8]) [some (.ref a), x1, x2, x3, x4, x5, none, none, none, none] G2 (.list (dStrs ((chrs "0123456789a").map (· ++ " 1")))) := TrD.to (d_lcS (p := fun _ => true) (f := fun c => .str (c ++ " 1")) (d_str (x := "0123456789a")) (by decide +kernel) (fun _ _ _ _ => b_yes) fun s hs _ G5 e5 => d_op (d_var (K := K) rfl (d := .str s) rfl) d_str (rd_addS (by
      obtain ⟨c, hc, rfl⟩ := List.mem_map.mp hs
      show 1 + 2 ≤ sizeLine
      decide))) (by
    rw [filt_true]
    unfold dStrs
    rw [List.map_map]
    rfl)
  refine q_set (d := .str elevenT) (d_op (d_op d_str (d_join d_str hcomp (by decide +kernel)) (rd_addS (by decide +kernel))) d_str (rd_addS (by decide +kernel))) A2 fun v6 G3 H3 e3 A3 r6 => ?_
  refine q_set (d := .list (toldsI.map fun l => .list (dInts l))) (K := K) (TrD.to (d_lcL (ds := onesL.map PyData.str) (p := fun _ => true) (f := fun d => .list (toldD d)) (d_lst (a_cons d_str (a_cons d_str (a_cons d_str (a_cons d_str (a_cons d_str (a_cons (d_var rfl r6) a_nil)))))) (Nat.le_of_ble_eq_true rfl)) (Nat.le_of_ble_eq_true rfl) (fun _ _ _ _ _ _ => b_yes) fun d hd _ x G4 e4 rx => ?_) ?_) A3 fun v7 G4 H4 e4 A4 r7 => ?_
  · obtain ⟨t, ht, rfl⟩ := List.mem_map.mp hd
    exact d_call0 (a_cons (d_var rfl rx) a_nil) ⟨_, rfl, fun t' h => by cases h; exact ones_len t ht, rfl⟩
  · rw [filt_true, ← ones_told, List.map_map, List.map_map]
    rfl
  have lst : ∀ {i j : Int} {σ : L2.St} {G : Hp}, TrD K (tLst (tCons (tC (.int i)) (tCons (tC (.int j)) tNil))) σ G (.list [.int i, .int j]) := d_lst (a_cons d_int (a_cons d_int a_nil)) (Nat.le_of_ble_eq_true rfl)
  refine s_ret (d := .bool true) (d_op (d_var rfl r7) (TrD.to (d_lst (a_cons lst (a_cons lst (a_cons lst (a_cons lst (a_cons lst (a_cons lst a_nil)))))) (Nat.le_of_ble_eq_true rfl)) (show _ = PyData.list (toldsI.map fun l => .list (dInts l)) from rfl)) (rd_eqSame (by decide +kernel) rfl)) A4 fun v G5 H5 e5 A5 r => ?_
  rw [show v = V.bl true from r]
  exact q _
end
end K80

namespace K80
open PySem PySem.Spec PyProof.Rows L2 Sb
abbrev Rw : PySem.W.OpenRow := PySem.W.OpenLaw.row PySem.Challenge.rw_scanbars_k80_texts_of_no_code
abbrev hk : PySem.W.Hook := Sb.hookS 6 fa fn exB
def ob (s : PySem.W.SharedT) : He.AlD × Bool := Sb.obsS 6 fa fn exB (HandSHeadRun.getT s)
theorem ob_eq (s : PySem.W.SharedT) : ob s = hk.obs s.abs := Sb.obsS_eq (HandSHeadRun.getT_eq s)
def loose : List Str := [("ScanError" : Str), ("InvalidCode" : Str), ("InvalidSyntax" : Str), ("NAMES" : Str), ("MOST_CHARACTERS" : Str), ("is_integer" : Str), ("is_name" : Str), ("are_widths" : Str), ("is_widths" : Str), ("fault_of_characters" : Str), ("fault_of_code" : Str), ("require_code" : Str), ("line_of" : Str), ("format_code" : Str), ("read_widths" : Str), ("may_stand" : Str), ("parse_code" : Str), ("_law_reel" : Str), ("_law_spin" : Str), ("_law_widths" : Str), ("_law_code" : Str), ("_law_fault" : Str), ("_law_told" : Str), ("_law_bent" : Str), ("_law_right" : Str)]
theorem run (w : World) : HandSHeadRun.RunEq Rw (PySem.W.view Rw.prog [29]) hk ob 6000 loose w := by
  intro os
  kernel_rfl
theorem facts {P : Program} {w : World} {K : PySem.W.Frag} {h : Heap} {mg : Str → Option Value} {f : Addr} (X : K.In h) (G : h.Ns mainGlobals mg) (hfa : mg ("law" : Str) = some (.ref f)) (c : He.SaysD fa fn K ∧ exB K = true) :
    ∃ fd : FuncData, (∀ (s : Shared) (v : Value), BindsTo s fd ⟨[v], []⟩ [("script", v)]) ∧ ∀ bh : Heap, K.In bh → bh.Ns mainGlobals mg → FnG P w K mg bh CX0 12 f fd ["script"] (S_law K) := by
  have T : Tx K mg := ⟨h, X, G, c.1, c.2⟩
  obtain ⟨fd, F⟩ := T.f_law
  have e := hfa.symm.trans T.g_law
  cases e
  have b := FunD.bindsA (ps := ["script"]) F fun _ _ _ _ _ _ us hl => match us, hl with | [_], _ => rfl
  exact ⟨fd, fun s v => b s [v] rfl, fun bh _ _ => G_law T F⟩
end K80
open PySem PySem.W PySem.Calls PyProof.Rows
theorem PySem.Challenge.cw_scanbars_k80_texts_of_no_code_holds : PySem.Challenge.rw_scanbars_k80_texts_of_no_code.Holds := by
  w_on; o_law
  refine HandSHeadRun.head_any (r := K80.Rw) (q := view K80.Rw.prog [29]) (H := K80.hk) (ob := K80.ob) (M := 6000) (loose := K80.loose) (d := HandSHeadRun.topDef K80.Rw.prog 29) (kwd := []) K80.ob_eq
    (by kernel_rfl) (fun s => by kernel_rfl) K80.run (by kernel_rfl) (by kernel_rfl) (by kernel_rfl) (by rfl) (by first | assumption | decide +kernel) (by decide +kernel) ⟨rfl, rfl, rfl, rfl, rfl, by decide +kernel⟩ ?hw ?hc
  case hw => w_witness2
  case hc =>
    refine Sb.law_walks (l := PySem.Challenge.rw_scanbars_k80_texts_of_no_code) (n := 63) (k := 12) (x := "script") (CX := L2.CX0) rfl (by decide) (by kernel_rfl) ⟨rfl, by decide, by decide⟩ ?F (fun _ _ _ _ z => z)
    intro w mg f h Y G hmg0
    obtain ⟨K, KX, c⟩ := Y
    have hmg : mg ("law" : PySem.Str) = some (.ref f) := by
      have e : (HandSHeadRun.topDef K80.Rw.prog 29).name = ("law" : PySem.Str) := by kernel_rfl
      rw [← e]
      exact hmg0
    obtain ⟨fd, hb, hF⟩ := K80.facts (P := (PySem.Challenge.rw_scanbars_k80_texts_of_no_code).prog) (w := w) KX G hmg c
    exact ⟨K, fd, K80.S_law K, KX, hb, fun H a ns hl _ hS => ⟨a, ns, rfl, hS, Nat.le_trans hl (by decide), fun _ => rfl⟩, hF⟩

