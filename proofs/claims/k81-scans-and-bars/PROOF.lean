import PyProof.Rows.All
import Wide.All
import OpenK.AllK
import Wide.FinOn
import PyProof.EqAt
import PyProof.EqKinds
import PyProof.TupleCall
import PyProof.ReprRoads
import HandS.ForMost
import HandS.More
import HandS.IsInst
import HandS.Defaults
import HandS.DictComp
import HandS.ListItems
import HandS.Star
import HandS.Style
import HandS.TupAny
import HandS.TupMul
import HandS.Wide
import HandS.Exc
import HandS.TryOnly
import HandS.TryMany
import HandS.WordsExc
import HandS.Evl
import HandS.Head0
import HandS.Head1
import HandS.Head2
import HandS.HeadEnd
import HandS.HeadHook1
import HandS.HeadHook2
import HandS.DictEq
import HandS.DeepEq
import HandS.OwnEq
import HandS.Ends
import HandS.ExcInit
import HandS.ExcField
import HandS.ExcOwn
import HandS.HeadHook4
import HandS.Iter
import HandS.HeadNt
import PySem.Challenge.RW_scanbars_k81_scans_and_bars
set_option Elab.async false
set_option autoImplicit false
set_option linter.all false
set_option maxRecDepth 100000
set_option maxHeartbeats 0
namespace Sb
open PySem PySem.Spec PyProof.Rows L2

/-! ### heaps: G what never changes any more, M what is still written -/
def Ex (H H' : Hp) : Prop := ∀ a o, H a = some o → H' a = some o
section
variable {G G' G1 G2 M M' H H' H1 : Hp} {p r : Addr} {o u : HO} {K : PySem.W.Frag}
theorem Ex.refl (H : Hp) : Ex H H := fun _ _ h => h
theorem Ex.trans (a : Ex H H1) (b : Ex H1 H') : Ex H H' := fun x o h => b x o (a x o h)
theorem Ex.new (h : H p = none) : Ex H (upd H p o) := fun a u e => by
  rw [upd_ne (ne_of_none e h)]
  exact e
theorem Ex.none (e : Ex H H') (h : H' p = Option.none) : H p = Option.none := by
  cases q : H p with
  | none => rfl
  | some o =>
    rw [e p o q] at h
    cases h
theorem Ex.rd (e : Ex H H') (h : Rd H p u) : Rd H' p u := by
  rcases h with h | ⟨o, h⟩
  · exact Or.inl (e _ _ h)
  · exact Or.inr ⟨o, e _ _ h⟩
theorem Ex.sl {xs : List V} (e : Ex H H') (h : SqL K H p xs) : SqL K H' p xs := by
  rcases h with h | h
  · exact Or.inl (e.rd h)
  · exact Or.inr h
theorem Ex.stt {xs : List V} (e : Ex H H') (h : SqT K H p xs) : SqT K H' p xs := by
  rcases h with h | h
  · exact Or.inl (e.rd h)
  · exact Or.inr h
theorem none_upd {a : Addr} (h : H a = none) (n : a ≠ p) : upd H p o a = none := by
  rw [upd_ne n]
  exact h
structure At (G M H : Hp) : Prop where
  g : Ex G H
  m : Ex M H
  d : ∀ a o, M a = some o → G a = none
theorem At.ng (A : At G M H) (h : H p = none) : At (upd G p o) M (upd H p o) where
  g := fun a u e => by
    by_cases q : a = p
    · subst q
      rw [upd_same] at e ⊢
      exact e
    · rw [upd_ne q] at e ⊢
      exact A.g _ _ e
  m := fun a u e => by
    have q : a ≠ p := fun z => by
      subst z
      rw [A.m _ _ e] at h
      cases h
    rw [upd_ne q]
    exact A.m _ _ e
  d := fun a u e => by
    have q : a ≠ p := fun z => by
      subst z
      rw [A.m _ _ e] at h
      cases h
    rw [upd_ne q]
    exact A.d _ _ e
theorem At.nm (A : At G M H) (h : H p = none) : At G (upd M p o) (upd H p o) where
  g := fun a u e => by
    have q : a ≠ p := fun z => by
      subst z
      rw [A.g _ _ e] at h
      cases h
    rw [upd_ne q]
    exact A.g _ _ e
  m := fun a u e => by
    by_cases q : a = p
    · subst q
      rw [upd_same] at e ⊢
      exact e
    · rw [upd_ne q] at e ⊢
      exact A.m _ _ e
  d := fun a u e => by
    by_cases q : a = p
    · subst q
      exact A.g.none h
    · rw [upd_ne q] at e
      exact A.d _ _ e
theorem At.wr (A : At G M H) (h : M p = some u) : At G (upd M p o) (upd H p o) where
  g := fun a v e => by
    have q : a ≠ p := fun z => by
      subst z
      rw [A.d _ _ h] at e
      cases e
    rw [upd_ne q]
    exact A.g _ _ e
  m := fun a v e => by
    by_cases q : a = p
    · subst q
      rw [upd_same] at e ⊢
      exact e
    · rw [upd_ne q] at e ⊢
      exact A.m _ _ e
  d := fun a v e => by
    by_cases q : a = p
    · subst q
      exact A.d _ _ h
    · rw [upd_ne q] at e
      exact A.d _ _ e
theorem At.drop (A : At G M H) (e : Ex M' M) : At G M' H := ⟨A.g, e.trans A.m, fun a o h => A.d a o (e a o h)⟩
theorem At.frz (A : At G M H) (h : M p = some o) (e : Ex M' M) (n : M' p = none) : At (upd G p o) M' H where
  g := fun a v q => by
    by_cases z : a = p
    · subst z
      rw [upd_same] at q
      cases q
      exact A.m _ _ h
    · rw [upd_ne z] at q
      exact A.g _ _ q
  m := e.trans A.m
  d := fun a v q => by
    have z : a ≠ p := fun z => by
      subst z
      rw [n] at q
      cases q
    rw [upd_ne z]
    exact A.d _ _ (e _ _ q)
theorem At.frzG (A : At G M H) (h : M p = some o) : Ex G (upd G p o) := Ex.new (A.d _ _ h)
theorem At.ne (A : At G M H) (h : M r = some u) (n : H p = none) : r ≠ p := fun z => by
  subst z
  rw [A.m _ _ h] at n
  cases n
theorem At.mNone (A : At G M H) (n : H p = none) : M p = none := A.m.none n
theorem At.gNone (A : At G M H) (n : H p = none) : G p = none := A.g.none n
end

/-! ### data in the heap -/
def kD : Key → PyData
  | .inl i => .int i
  | .inr x => .str x
mutual
def Rp (K : PySem.W.Frag) (G : Hp) : PyData → V → Prop
  | .none, v => v = .non
  | .bool b, v => v = .bl b
  | .int i, v => v = .int i
  | .str x, v => v = .str x
  | .list ds, v => ∃ a xs, v = .ref a ∧ G a = some (.lst xs) ∧ RpL K G ds xs
  | .tuple ds, v => ∃ a xs, v = .ref a ∧ SqT K G a xs ∧ RpL K G ds xs
  | .dict kvs, v => ∃ a es, v = .ref a ∧ G a = some (.dK es) ∧ RpD K G kvs es
def RpL (K : PySem.W.Frag) (G : Hp) : List PyData → List V → Prop
  | [], xs => xs = []
  | d :: ds, xs => ∃ x r, xs = x :: r ∧ Rp K G d x ∧ RpL K G ds r
def RpD (K : PySem.W.Frag) (G : Hp) : List (PyData × PyData) → List (Key × V) → Prop
  | [], es => es = []
  | (k, d) :: ds, es => ∃ x y r, es = (x, y) :: r ∧ kD x = k ∧ Rp K G d y ∧ RpD K G ds r
end
section
variable {K : PySem.W.Frag} {G G' : Hp}
mutual
theorem Rp.mono (e : Ex G G') : ∀ (d : PyData) {v : V}, Rp K G d v → Rp K G' d v
  | .none, _, h => h
  | .bool _, _, h => h
  | .int _, _, h => h
  | .str _, _, h => h
  | .list ds, _, ⟨a, xs, h1, h2, h3⟩ => ⟨a, xs, h1, e _ _ h2, RpL.mono e ds h3⟩
  | .tuple ds, _, ⟨a, xs, h1, h2, h3⟩ => ⟨a, xs, h1, e.stt h2, RpL.mono e ds h3⟩
  | .dict kvs, _, ⟨a, es, h1, h2, h3⟩ => ⟨a, es, h1, e _ _ h2, RpD.mono e kvs h3⟩
theorem RpL.mono (e : Ex G G') : ∀ (ds : List PyData) {xs : List V}, RpL K G ds xs → RpL K G' ds xs
  | [], _, h => h
  | d :: ds, _, ⟨x, r, h1, h2, h3⟩ => ⟨x, r, h1, Rp.mono e d h2, RpL.mono e ds h3⟩
theorem RpD.mono (e : Ex G G') : ∀ (ds : List (PyData × PyData)) {es : List (Key × V)}, RpD K G ds es → RpD K G' ds es
  | [], _, h => h
  | (k, d) :: ds, _, ⟨x, y, r, h1, h2, h3, h4⟩ => ⟨x, y, r, h1, h2, Rp.mono e d h3, RpD.mono e ds h4⟩
end
theorem Rp.up (e : Ex G G') {d : PyData} {v : V} (h : Rp K G d v) : Rp K G' d v := Rp.mono e d h
theorem RpL.up (e : Ex G G') {ds : List PyData} {xs : List V} (h : RpL K G ds xs) : RpL K G' ds xs := RpL.mono e ds h
theorem RpD.up (e : Ex G G') {ds : List (PyData × PyData)} {xs : List (Key × V)} (h : RpD K G ds xs) : RpD K G' ds xs := RpD.mono e ds h
theorem RpL.nil : RpL K G [] [] := rfl
theorem RpL.cons {d : PyData} {ds : List PyData} {x : V} {xs : List V} (h : Rp K G d x) (t : RpL K G ds xs) : RpL K G (d :: ds) (x :: xs) := ⟨x, xs, rfl, h, t⟩
theorem RpL.len : ∀ {ds : List PyData} {xs : List V}, RpL K G ds xs → xs.length = ds.length
  | [], _, h => by rw [show _ = [] from h]; rfl
  | _ :: ds, _, ⟨x, r, h1, _, h3⟩ => by rw [h1, List.length_cons, List.length_cons, RpL.len h3]
theorem RpL.app : ∀ {ds es : List PyData} {xs ys : List V}, RpL K G ds xs → RpL K G es ys → RpL K G (ds ++ es) (xs ++ ys)
  | [], _, xs, _, h, t => by
    rw [show xs = [] from h]
    exact t
  | _ :: ds, _, _, _, ⟨x, r, h1, h2, h3⟩, t => by
    rw [h1]
    exact ⟨x, _, rfl, h2, RpL.app h3 t⟩
theorem RpL.snoc {ds : List PyData} {d : PyData} {xs : List V} {x : V} (h : RpL K G ds xs) (t : Rp K G d x) : RpL K G (ds ++ [d]) (xs ++ [x]) := h.app (.cons t .nil)
theorem RpL.get : ∀ {ds : List PyData} {xs : List V} {i : Nat} {x : V}, RpL K G ds xs → xs[i]? = some x → ∃ d, ds[i]? = some d ∧ Rp K G d x
  | [], xs, i, x, h, e => by
    rw [show xs = [] from h] at e
    simp at e
  | d :: ds, _, 0, x, ⟨y, r, h1, h2, _⟩, e => by
    rw [h1] at e
    have e1 : y = x := by simpa using e
    subst e1
    exact ⟨d, rfl, h2⟩
  | d :: ds, _, i + 1, x, ⟨y, r, h1, _, h3⟩, e => by
    rw [h1] at e
    obtain ⟨d', q1, q2⟩ := RpL.get (i := i) (x := x) h3 (by simpa using e)
    exact ⟨d', by simpa using q1, q2⟩
theorem RpL.at : ∀ {ds : List PyData} {xs : List V} {i : Nat} {d : PyData}, RpL K G ds xs → ds[i]? = some d → ∃ x, xs[i]? = some x ∧ Rp K G d x
  | [], xs, i, x, h, e => by simp at e
  | d :: ds, _, 0, x, ⟨y, r, h1, h2, _⟩, e => by
    have e1 : d = x := by simpa using e
    subst e1
    exact ⟨y, by rw [h1]; rfl, h2⟩
  | d :: ds, _, i + 1, x, ⟨y, r, h1, _, h3⟩, e => by
    obtain ⟨d', q1, q2⟩ := RpL.at (i := i) (d := x) h3 (by simpa using e)
    exact ⟨d', by rw [h1]; simpa using q1, q2⟩
theorem RpL.take : ∀ {ds : List PyData} {xs : List V} (n : Nat), RpL K G ds xs → RpL K G (ds.take n) (xs.take n)
  | [], xs, n, h => by
    rw [show xs = [] from h, List.take_nil, List.take_nil]
    rfl
  | _ :: _, _, 0, _ => rfl
  | _ :: _, _, n + 1, ⟨x, r, h1, h2, h3⟩ => by
    rw [h1]
    exact ⟨x, _, rfl, h2, RpL.take n h3⟩
theorem RpL.drop : ∀ {ds : List PyData} {xs : List V} (n : Nat), RpL K G ds xs → RpL K G (ds.drop n) (xs.drop n)
  | [], xs, n, h => by
    rw [show xs = [] from h, List.drop_nil, List.drop_nil]
    rfl
  | _ :: _, xs, 0, h => h
  | _ :: _, _, n + 1, ⟨x, r, h1, h2, h3⟩ => by
    rw [h1]
    exact RpL.drop n h3
theorem RpL.rev : ∀ {ds : List PyData} {xs : List V}, RpL K G ds xs → RpL K G ds.reverse xs.reverse
  | [], xs, h => by
    rw [show xs = [] from h]
    rfl
  | d :: ds, _, ⟨x, r, h1, h2, h3⟩ => by
    rw [h1, List.reverse_cons, List.reverse_cons]
    exact (RpL.rev h3).snoc h2
def dInts (ns : List Int) : List PyData := ns.map PyData.int
def dStrs (ss : List Str) : List PyData := ss.map PyData.str
theorem rpL_ints : ∀ (ns : List Int) {xs : List V}, RpL K G (dInts ns) xs ↔ xs = ns.map V.int
  | [], xs => Iff.rfl
  | n :: ns, xs => by
    constructor
    · rintro ⟨x, r, h1, h2, h3⟩
      rw [h1, show x = V.int n from h2, (rpL_ints ns).mp h3]
      rfl
    · intro h
      rw [h]
      exact ⟨_, _, rfl, rfl, (rpL_ints ns).mpr rfl⟩
theorem rpL_strs : ∀ (ns : List Str) {xs : List V}, RpL K G (dStrs ns) xs ↔ xs = ns.map V.str
  | [], xs => Iff.rfl
  | n :: ns, xs => by
    constructor
    · rintro ⟨x, r, h1, h2, h3⟩
      rw [h1, show x = V.str n from h2, (rpL_strs ns).mp h3]
      rfl
    · intro h
      rw [h]
      exact ⟨_, _, rfl, rfl, (rpL_strs ns).mpr rfl⟩
theorem Rp.ti {ns : List Int} {v : V} (h : Rp K G (.tuple (dInts ns)) v) : ∃ a, v = .ref a ∧ SqT K G a (ns.map V.int) := by
  obtain ⟨a, xs, h1, h2, h3⟩ := h
  rw [(rpL_ints ns).mp h3] at h2
  exact ⟨a, h1, h2⟩
theorem Rp.li {ns : List Int} {v : V} (h : Rp K G (.list (dInts ns)) v) : ∃ a, v = .ref a ∧ G a = some (.lst (ns.map V.int)) := by
  obtain ⟨a, xs, h1, h2, h3⟩ := h
  rw [(rpL_ints ns).mp h3] at h2
  exact ⟨a, h1, h2⟩
theorem Rp.ls {ns : List Str} {v : V} (h : Rp K G (.list (dStrs ns)) v) : ∃ a, v = .ref a ∧ G a = some (.lst (ns.map V.str)) := by
  obtain ⟨a, xs, h1, h2, h3⟩ := h
  rw [(rpL_strs ns).mp h3] at h2
  exact ⟨a, h1, h2⟩
end

/-! ### what a reading gives, as data -/
section
variable (K : PySem.W.Frag)
def Res (G M : Hp) (d : PyData) (Q : VK) : Prop := ∀ v G' H', Ex G G' → At G' M H' → Rp K G' d v → Q v H'
def TrD (te : TE) (σ : L2.St) (G : Hp) (d : PyData) : Prop := ∀ G1 M H, Ex G G1 → At G1 M H → ∀ Q : VK, Res K G1 M d Q → te σ H Q
def TrA (ta : TA) (σ : L2.St) (G : Hp) (ds : List PyData) : Prop := ∀ G1 M H, Ex G G1 → At G1 M H → ∀ Q : List V → Hp → Prop, (∀ xs G' H', Ex G1 G' → At G' M H' → RpL K G' ds xs → Q xs H') → ta σ H Q
def TrB (tt : TT) (σ : L2.St) (G : Hp) (b : Bool) : Prop := ∀ G1 M H, Ex G G1 → At G1 M H → ∀ Q : Bool → Hp → Prop, (∀ G' H', Ex G1 G' → At G' M H' → Q b H') → tt σ H Q
def RD (r : R2) (d1 d2 d3 : PyData) : Prop := ∀ G M H x y, At G M H → Rp K G d1 x → Rp K G d2 y → ∀ Q : VK, Res K G M d3 Q → r x y H Q
def RC (r : List V → Hp → VK → Prop) (ds : List PyData) (d : PyData) : Prop := ∀ G M H xs, At G M H → RpL K G ds xs → ∀ Q : VK, Res K G M d Q → r xs H Q
def RU (r : V → Hp → VK → Prop) (d1 d : PyData) : Prop := ∀ G M H x, At G M H → Rp K G d1 x → ∀ Q : VK, Res K G M d Q → r x H Q
/-- a promise: data in, data out, nothing else is touched -/
def PSp (R : List PyData → PyData → Prop) : Sp := fun vs H Q _ => ∃ G M ds r, At G M H ∧ RpL K G ds vs ∧ R ds r ∧ Res K G M r Q
end
section
variable {K : PySem.W.Frag} {σ : L2.St} {G G' M H : Hp} {ta tb te : TE} {d d1 d2 d3 : PyData} {tt t u : TT} {ts : TA} {ds es : List PyData} {Q : VK}
theorem Res.mono (e : Ex G G') (q : Res K G M d Q) : Res K G' M d Q := fun v G2 H2 e2 A r => q v G2 H2 (e.trans e2) A r
theorem Res.here (q : Res K G M d Q) (A : At G M H) {v : V} (r : Rp K G d v) : Q v H := q v G H (Ex.refl G) A r
theorem Res.newG {p : Addr} {o : HO} (q : Res K G M d Q) (A : At G M H) (n : H p = none) {v : V} (r : Rp K (upd G p o) d v) : Q v (upd H p o) := q v _ _ (Ex.new (A.gNone n)) (A.ng n) r
theorem TrD.up (e : Ex G G') (h : TrD K te σ G d) : TrD K te σ G' d := fun G1 M H e1 A Q q => h G1 M H (e.trans e1) A Q q
theorem TrB.up {b : Bool} (e : Ex G G') (h : TrB t σ G b) : TrB t σ G' b := fun G1 M H e1 A Q q => h G1 M H (e.trans e1) A Q q
theorem TrA.up (e : Ex G G') (h : TrA K ts σ G ds) : TrA K ts σ G' ds := fun G1 M H e1 A Q q => h G1 M H (e.trans e1) A Q q
theorem w_D (h : TrD K te σ G d) (A : At G M H) (k : Res K G M d Q) : te σ H Q := h G M H (Ex.refl G) A Q k
theorem w_B {b : Bool} {Q : Bool → Hp → Prop} (h : TrB t σ G b) (A : At G M H) (k : ∀ G' H', Ex G G' → At G' M H' → Q b H') : t σ H Q := h G M H (Ex.refl G) A Q k
theorem w_A {Q : List V → Hp → Prop} (h : TrA K ts σ G ds) (A : At G M H) (k : ∀ xs G' H', Ex G G' → At G' M H' → RpL K G' ds xs → Q xs H') : ts σ H Q := h G M H (Ex.refl G) A Q k
theorem TrD.to (h : TrD K te σ G d1) (e : d1 = d2) : TrD K te σ G d2 := e ▸ h
theorem TrB.to {b c : Bool} (h : TrB t σ G b) (e : b = c) : TrB t σ G c := e ▸ h
/-! values -/
theorem d_var {i : Nat} {v : V} (h : σ[i]? = some (some v)) (r : Rp K G d v) : TrD K (tVar i) σ G d := fun G1 M H e A Q q => ⟨v, h, q.here A (r.up e)⟩
theorem d_c {v : V} (r : Rp K G d v) : TrD K (tC v) σ G d := fun G1 M H e A Q q => q.here A (r.up e)
theorem d_int {i : Int} : TrD K (tC (.int i)) σ G (.int i) := d_c rfl
theorem d_str {x : Str} : TrD K (tC (.str x)) σ G (.str x) := d_c rfl
theorem d_bl {b : Bool} : TrD K (tC (.bl b)) σ G (.bool b) := d_c rfl
theorem d_non : TrD K (tC .non) σ G .none := d_c rfl
theorem d_op {r : R2} (ha : TrD K ta σ G d1) (hb : TrD K tb σ G d2) (hr : RD K r d1 d2 d3) : TrD K (tOp r ta tb) σ G d3 := fun G1 M H e A Q q => by
  refine ha G1 M H e A _ fun v G2 H2 e2 A2 r1 => ?_
  refine hb G2 M H2 (e.trans e2) A2 _ fun w G3 H3 e3 A3 r2 => ?_
  exact hr G3 M H3 v w A3 (r1.up e3) r2 Q (q.mono (e2.trans e3))
theorem d_un {r : V → Hp → VK → Prop} (ha : TrD K ta σ G d1) (hr : RU K r d1 d2) : TrD K (tUn r ta) σ G d2 := fun G1 M H e A Q q => by
  refine ha G1 M H e A _ fun v G2 H2 e2 A2 r1 => ?_
  exact hr G2 M H2 v A2 r1 Q (q.mono e2)
theorem a_nil : TrA K tNil σ G [] := fun G1 M H e A Q q => q [] G1 H (Ex.refl _) A rfl
theorem a_cons (ha : TrD K ta σ G d) (hr : TrA K ts σ G ds) : TrA K (tCons ta ts) σ G (d :: ds) := fun G1 M H e A Q q => by
  refine ha G1 M H e A _ fun v G2 H2 e2 A2 r1 => ?_
  refine hr G2 M H2 (e.trans e2) A2 _ fun xs G3 H3 e3 A3 r2 => ?_
  exact q _ G3 H3 (e2.trans e3) A3 (.cons (r1.up e3) r2)
theorem a_star (ha : TrD K ta σ G (.list es)) (hr : TrA K ts σ G ds) : TrA K (StX.tStar K ta ts) σ G (es ++ ds) := fun G1 M H e A Q q => by
  refine ha G1 M H e A _ fun v G2 H2 e2 A2 r1 => ?_
  obtain ⟨a, xs, rfl, hs, hx⟩ := r1
  refine ⟨a, xs, rfl, .inr (SqL.of (A2.g _ _ hs)), ?_⟩
  refine hr G2 M H2 (e.trans e2) A2 _ fun ys G3 H3 e3 A3 r2 => ?_
  exact q _ G3 H3 (e2.trans e3) A3 ((hx.up e3).app r2)
theorem sz_of {n : Nat} (h : n ≤ 100000) : n ≤ sizeLine := Nat.le_trans h (by decide)
theorem sz_lt {n : Nat} (h : n < 100000) : n < sizeLine := Nat.lt_of_lt_of_le h (by decide)
theorem d_tup (h : TrA K ts σ G ds) (hn : ds.length ≤ 100000 := by decide) : TrD K (tTup ts) σ G (.tuple ds) := fun G1 M H e A Q q => by
  refine h G1 M H e A _ fun xs G2 H2 e2 A2 r => ?_
  refine ⟨by rw [r.len]; exact sz_of hn, fun p hp => ?_⟩
  exact (q.mono e2).newG A2 hp ⟨p, xs, rfl, SqT.of upd_same, r.up (Ex.new (A2.gNone hp))⟩
theorem d_lst (h : TrA K ts σ G ds) (hn : ds.length ≤ 100000 := by decide) : TrD K (tLst ts) σ G (.list ds) := fun G1 M H e A Q q => by
  refine h G1 M H e A _ fun xs G2 H2 e2 A2 r => ?_
  refine ⟨by rw [r.len]; exact sz_of hn, fun p hp => ?_⟩
  exact (q.mono e2).newG A2 hp ⟨p, xs, rfl, upd_same, r.up (Ex.new (A2.gNone hp))⟩
theorem d_cb {r : List V → Hp → VK → Prop} (h : TrA K ts σ G ds) (hr : RC K r ds d) : TrD K (tCB r ts) σ G d := fun G1 M H e A Q q => by
  refine h G1 M H e A _ fun xs G2 H2 e2 A2 r1 => ?_
  exact hr G2 M H2 xs A2 r1 Q (q.mono e2)
theorem d_call {R : List PyData → PyData → Prop} {dvs : List V} {E : XK} (h : TrA K ts σ G ds) (hd : RpL K G es dvs) (hr : R (ds ++ es) d) : TrD K (tCall (PSp K R) dvs E ts) σ G d := fun G1 M H e A Q q => by
  refine h G1 M H e A _ fun xs G2 H2 e2 A2 r1 => ?_
  exact ⟨G2, M, ds ++ es, d, A2, r1.app (hd.up (e.trans e2)), hr, q.mono e2⟩
theorem d_call0 {R : List PyData → PyData → Prop} {E : XK} (h : TrA K ts σ G ds) (hr : R ds d) : TrD K (tCall (PSp K R) [] E ts) σ G d := d_call h (es := []) rfl (by rw [List.append_nil]; exact hr)
theorem d_if {b : Bool} (hc : TrB t σ G b) (h1 : b = true → TrD K ta σ G d) (h2 : b = false → TrD K tb σ G d) : TrD K (tIf t ta tb) σ G d := fun G1 M H e A Q q => by
  refine hc G1 M H e A _ fun G2 H2 e2 A2 => ?_
  cases b with
  | true => exact h1 rfl G2 M H2 (e.trans e2) A2 Q (q.mono e2)
  | false => exact h2 rfl G2 M H2 (e.trans e2) A2 Q (q.mono e2)
/-! tests -/
theorem b_B {b : Bool} (h : TrD K te σ G (.bool b)) : TrB (tB te) σ G b := fun G1 M H e A Q q => by
  refine h G1 M H e A _ fun v G2 H2 e2 A2 r => ?_
  exact ⟨b, r, q G2 H2 e2 A2⟩
theorem b_T {b : Bool} (h : TrD K te σ G (.bool b)) : TrB (tTest te) σ G b := fun G1 M H e A Q q => by
  refine h G1 M H e A _ fun v G2 H2 e2 A2 r => ?_
  exact ⟨b, r, q G2 H2 e2 A2⟩
theorem b_not {b : Bool} (h : TrB t σ G b) : TrB (tNot t) σ G (!b) := fun G1 M H e A Q q => h G1 M H e A _ q
theorem b_yes : TrB tYes σ G true := fun G1 M H e A Q q => q G1 H (Ex.refl _) A
theorem b_and {a b : Bool} (h1 : TrB t σ G a) (h2 : a = true → TrB u σ G b) : TrB (tAnd t u) σ G (a && b) := fun G1 M H e A Q q => by
  refine h1 G1 M H e A _ fun G2 H2 e2 A2 => ?_
  cases a with
  | true => exact h2 rfl G2 M H2 (e.trans e2) A2 Q fun G3 H3 e3 A3 => q G3 H3 (e2.trans e3) A3
  | false => exact q G2 H2 e2 A2
theorem b_or {a b : Bool} (h1 : TrB t σ G a) (h2 : a = false → TrB u σ G b) : TrB (tOr t u) σ G (a || b) := fun G1 M H e A Q q => by
  refine h1 G1 M H e A _ fun G2 H2 e2 A2 => ?_
  cases a with
  | false => exact h2 rfl G2 M H2 (e.trans e2) A2 Q fun G3 H3 e3 A3 => q G3 H3 (e2.trans e3) A3
  | true => exact q G2 H2 e2 A2
theorem v_and {a b : Bool} (h1 : TrD K ta σ G (.bool a)) (h2 : a = true → TrD K tb σ G (.bool b)) : TrD K (tAndV ta tb) σ G (.bool (a && b)) := fun G1 M H e A Q q => by
  refine h1 G1 M H e A _ fun v G2 H2 e2 A2 r => ?_
  refine ⟨a, r, ?_⟩
  cases a with
  | true => exact h2 rfl G2 M H2 (e.trans e2) A2 Q (q.mono e2)
  | false => exact (q.mono e2).here A2 rfl
theorem v_or {a b : Bool} (h1 : TrD K ta σ G (.bool a)) (h2 : a = false → TrD K tb σ G (.bool b)) : TrD K (tOrV ta tb) σ G (.bool (a || b)) := fun G1 M H e A Q q => by
  refine h1 G1 M H e A _ fun v G2 H2 e2 A2 r => ?_
  refine ⟨a, r, ?_⟩
  cases a with
  | false => exact h2 rfl G2 M H2 (e.trans e2) A2 Q (q.mono e2)
  | true => exact (q.mono e2).here A2 rfl
theorem v_not {b : Bool} (h : TrD K ta σ G (.bool b)) : TrD K (tNotV ta) σ G (.bool (!b)) := fun G1 M H e A Q q => by
  refine h G1 M H e A _ fun v G2 H2 e2 A2 r => ?_
  exact ⟨b, r, (q.mono e2).here A2 rfl⟩
/-! operators -/
theorem rd_I0 {g : Int → Int → V} {i j : Int} (h : ∀ G, Rp K G d (g i j)) : RD K (rI0 g) (.int i) (.int j) d := fun G M H x y A h1 h2 Q q => ⟨i, j, h1, h2, q.here A (h G)⟩
theorem rd_I {C : Int → Int → Prop} {g : Int → Int → V} {i j : Int} (hc : C i j) (h : ∀ G, Rp K G d (g i j)) : RD K (rI C g) (.int i) (.int j) d := fun G M H x y A h1 h2 Q q => ⟨i, j, h1, h2, hc, q.here A (h G)⟩
theorem rd_add {i j : Int} : RD K (rI0 fun i j => .int (i + j)) (.int i) (.int j) (.int (i + j)) := rd_I0 fun _ => rfl
theorem rd_sub {i j : Int} : RD K (rI0 fun i j => .int (i - j)) (.int i) (.int j) (.int (i - j)) := rd_I0 fun _ => rfl
theorem rd_lt {i j : Int} : RD K (rI0 fun i j => .bl (decide (i < j))) (.int i) (.int j) (.bool (decide (i < j))) := rd_I0 fun _ => rfl
theorem rd_le {i j : Int} : RD K (rI0 fun i j => .bl (decide (i ≤ j))) (.int i) (.int j) (.bool (decide (i ≤ j))) := rd_I0 fun _ => rfl
theorem rd_gt {i j : Int} : RD K (rI0 fun i j => .bl (decide (j < i))) (.int i) (.int j) (.bool (decide (j < i))) := rd_I0 fun _ => rfl
theorem rd_ge {i j : Int} : RD K (rI0 fun i j => .bl (decide (j ≤ i))) (.int i) (.int j) (.bool (decide (j ≤ i))) := rd_I0 fun _ => rfl
theorem rd_eqI {i j : Int} : RD K rEq (.int i) (.int j) (.bool (decide (i = j))) := fun G M H x y A h1 h2 Q q => by
  rw [show x = V.int i from h1, show y = V.int j from h2]
  exact ⟨rfl, q.here A (show V.bl _ = V.bl _ by rw [dec_int]; simp [Bool.beq_eq_decide_eq])⟩
theorem rd_neI {i j : Int} : RD K rNe (.int i) (.int j) (.bool (!decide (i = j))) := fun G M H x y A h1 h2 Q q => by
  rw [show x = V.int i from h1, show y = V.int j from h2]
  exact ⟨rfl, q.here A (show V.bl _ = V.bl _ by rw [dec_int]; simp [Bool.beq_eq_decide_eq])⟩
theorem rd_eqS {i j : Str} : RD K rEq (.str i) (.str j) (.bool (decide (i = j))) := fun G M H x y A h1 h2 Q q => by
  rw [show x = V.str i from h1, show y = V.str j from h2]
  exact ⟨rfl, q.here A (show V.bl _ = V.bl _ by rw [dec_str]; simp [Bool.beq_eq_decide_eq])⟩
theorem rd_neS {i j : Str} : RD K rNe (.str i) (.str j) (.bool (!decide (i = j))) := fun G M H x y A h1 h2 Q q => by
  rw [show x = V.str i from h1, show y = V.str j from h2]
  exact ⟨rfl, q.here A (show V.bl _ = V.bl _ by rw [dec_str]; simp [Bool.beq_eq_decide_eq])⟩
end
/-! ### statements -/
section
variable {K : PySem.W.Frag} {σ : L2.St} {G G' M H : Hp} {ta tb te : TE} {d d1 d2 d3 : PyData} {tc : TT} {ts : TA} {ds es : List PyData} {D : Ends} {s1 s2 : TS} {i : Nat}
theorem s_set (h : TrD K te σ G d) (A : At G M H) (k : ∀ v G' H', Ex G G' → At G' M H' → Rp K G' d v → D.nx (σ.set i (some v)) H') : tAsg te (gName i) D σ H := w_D h A k
theorem s_ret (h : TrD K te σ G d) (A : At G M H) (k : Res K G M d D.rt) : tRet te D σ H := w_D h A k
theorem s_if {b : Bool} (h : TrB tc σ G b) (A : At G M H) (k1 : b = true → ∀ G' H', Ex G G' → At G' M H' → s1 D σ H') (k2 : b = false → ∀ G' H', Ex G G' → At G' M H' → s2 D σ H') : tIfS tc s1 s2 D σ H := by
  refine w_B h A fun G' H' e A' => ?_
  cases b with
  | true => exact k1 rfl G' H' e A'
  | false => exact k2 rfl G' H' e A'
theorem s_ifT (h : TrB tc σ G true) (A : At G M H) (k : ∀ G' H', Ex G G' → At G' M H' → s1 D σ H') : tIfS tc s1 s2 D σ H := s_if h A (fun _ => k) (fun z => nomatch z)
theorem s_ifF (h : TrB tc σ G false) (A : At G M H) (k : ∀ G' H', Ex G G' → At G' M H' → s2 D σ H') : tIfS tc s1 s2 D σ H := s_if h A (fun z => nomatch z) (fun _ => k)
theorem g_tup {t : TGs} {v : V} {n : Nat} {Q : L2.St → Hp → Prop} (A : At G M H) (h : Rp K G (.tuple ds) v) (hn : ds.length = n) (k : ∀ xs, RpL K G ds xs → t xs σ H Q) : gTup K n t v σ H Q := by
  obtain ⟨a, xs, e, hs, hx⟩ := h
  exact ⟨a, xs, e, A.g.stt hs, by rw [hx.len, hn], k xs hx⟩
theorem wipe_set {i : Nat} {x : Option V} : wipe ((wipe σ [i]).set i x) [i] = wipe σ [i] := by
  show (((σ.set i none).set i x).set i none) = σ.set i none
  rw [List.set_set, List.set_set]
/-! comprehensions over data -/
theorem d_lcL {tl : TE} {tt : TT} {p : PyData → Bool} {f : PyData → PyData} (hl : TrD K tl σ G (.list ds)) (hn : ds.length < 100000)
    (ht : ∀ d ∈ ds, ∀ x G1, Ex G G1 → Rp K G1 d x → TrB tt ((wipe σ [i]).set i (some x)) G1 (p d))
    (he : ∀ d ∈ ds, p d = true → ∀ x G1, Ex G G1 → Rp K G1 d x → TrD K te ((wipe σ [i]).set i (some x)) G1 (f d)) :
    TrD K (tLc (iList K tl) (gName i) tt te [i]) σ G (.list ((ds.filter p).map f)) := fun G1 M H e A Q q => by
  refine hl G1 M H e A _ fun v G2 H2 e2 A2 r => ?_
  obtain ⟨a, xs, rfl, hs, hx⟩ := r
  refine ⟨a, rfl, ⟨xs, SqL.of (A2.g _ _ hs)⟩, fun D hD => ?_⟩
  refine lc_list (K := K) (a := a) (xs := xs) (fun j H => ∃ Gj acc, Ex G2 Gj ∧ At Gj (upd M D (.lst acc)) H ∧ RpL K Gj (((ds.take j).filter p).map f) acc) ⟨G2, [], Ex.refl _, A2.nm hD, rfl⟩ ?_ ?_ ?_
  · rintro j H3 _ ⟨Gj, acc, ej, Aj, _⟩
    exact SqL.of ((ej.trans Aj.g) _ _ hs)
  · rintro j x H3 hj ⟨Gj, acc, ej, Aj, rj⟩
    obtain ⟨d, hd, rd⟩ := hx.get hj
    have hm : d ∈ ds := List.mem_of_getElem? hd
    have hk : ds.take (j + 1) = ds.take j ++ [d] := by rw [List.take_add_one, hd]; rfl
    show wipe _ _ = wipe _ _ ∧ _
    refine ⟨wipe_set, ?_⟩
    refine ht d hm x Gj ((e.trans e2).trans ej) (rd.up ej) Gj _ H3 (Ex.refl _) Aj _ fun G4 H4 e4 A4 => ?_
    cases hp : p d with
    | false =>
      refine ⟨G4, acc, ej.trans e4, A4, ?_⟩
      rw [hk, List.filter_append, List.filter_cons, hp]
      simpa using rj.up e4
    | true =>
      refine he d hm hp x G4 ((e.trans e2).trans (ej.trans e4)) (rd.up (ej.trans e4)) G4 _ H4 (Ex.refl _) A4 _ fun v5 G5 H5 e5 A5 r5 => ?_
      refine ⟨acc, A5.m _ _ upd_same, ?_, G5, acc ++ [v5], ej.trans (e4.trans e5), ?_, ?_⟩
      · rw [rj.len, List.length_map]
        refine sz_lt (Nat.lt_of_le_of_lt (Nat.le_trans (List.length_filter_le _ _) ?_) hn)
        rw [List.length_take]
        exact Nat.min_le_right _ _
      · have z := A5.wr (o := .lst (acc ++ [v5])) (upd_same (H := M) (a := D) (o := .lst acc))
        rw [upd_upd] at z
        exact z
      · rw [hk, List.filter_append, List.filter_cons, hp, List.map_append]
        exact (rj.up (e4.trans e5)).snoc r5
  · rintro H3 ⟨Gj, acc, ej, Aj, rj⟩
    have hM : M D = none := A2.mNone hD
    have hl2 : ds.take xs.length = ds := by rw [hx.len, List.take_length]
    rw [hl2] at rj
    have hm := upd_same (H := M) (a := D) (o := HO.lst acc)
    refine q _ _ _ ((e2.trans ej).trans (Aj.frzG hm)) (Aj.frz hm (Ex.new hM) hM) ⟨D, acc, rfl, upd_same, rj.up (Aj.frzG hm)⟩
theorem d_lcT {tl : TE} {tt : TT} {p : PyData → Bool} {f : PyData → PyData} (hl : TrD K tl σ G (.tuple ds)) (hn : ds.length < 100000)
    (ht : ∀ d ∈ ds, ∀ x G1, Ex G G1 → Rp K G1 d x → TrB tt ((wipe σ [i]).set i (some x)) G1 (p d))
    (he : ∀ d ∈ ds, p d = true → ∀ x G1, Ex G G1 → Rp K G1 d x → TrD K te ((wipe σ [i]).set i (some x)) G1 (f d)) :
    TrD K (tLc (iTup K tl) (gName i) tt te [i]) σ G (.list ((ds.filter p).map f)) := fun G1 M H e A Q q => by
  refine hl G1 M H e A _ fun v G2 H2 e2 A2 r => ?_
  obtain ⟨a, xs, rfl, hs, hx⟩ := r
  refine ⟨a, rfl, ⟨xs, A2.g.stt hs⟩, fun D hD => ?_⟩
  refine lc_tup (K := K) (a := a) (xs := xs) (fun j H => ∃ Gj acc, Ex G2 Gj ∧ At Gj (upd M D (.lst acc)) H ∧ RpL K Gj (((ds.take j).filter p).map f) acc) ⟨G2, [], Ex.refl _, A2.nm hD, rfl⟩ ?_ ?_ ?_
  · rintro j H3 _ ⟨Gj, acc, ej, Aj, _⟩
    exact (ej.trans Aj.g).stt hs
  · rintro j x H3 hj ⟨Gj, acc, ej, Aj, rj⟩
    obtain ⟨d, hd, rd⟩ := hx.get hj
    have hm : d ∈ ds := List.mem_of_getElem? hd
    have hk : ds.take (j + 1) = ds.take j ++ [d] := by rw [List.take_add_one, hd]; rfl
    show wipe _ _ = wipe _ _ ∧ _
    refine ⟨wipe_set, ?_⟩
    refine ht d hm x Gj ((e.trans e2).trans ej) (rd.up ej) Gj _ H3 (Ex.refl _) Aj _ fun G4 H4 e4 A4 => ?_
    cases hp : p d with
    | false =>
      refine ⟨G4, acc, ej.trans e4, A4, ?_⟩
      rw [hk, List.filter_append, List.filter_cons, hp]
      simpa using rj.up e4
    | true =>
      refine he d hm hp x G4 ((e.trans e2).trans (ej.trans e4)) (rd.up (ej.trans e4)) G4 _ H4 (Ex.refl _) A4 _ fun v5 G5 H5 e5 A5 r5 => ?_
      refine ⟨acc, A5.m _ _ upd_same, ?_, G5, acc ++ [v5], ej.trans (e4.trans e5), ?_, ?_⟩
      · rw [rj.len, List.length_map]
        refine sz_lt (Nat.lt_of_le_of_lt (Nat.le_trans (List.length_filter_le _ _) ?_) hn)
        rw [List.length_take]
        exact Nat.min_le_right _ _
      · have z := A5.wr (o := .lst (acc ++ [v5])) (upd_same (H := M) (a := D) (o := .lst acc))
        rw [upd_upd] at z
        exact z
      · rw [hk, List.filter_append, List.filter_cons, hp, List.map_append]
        exact (rj.up (e4.trans e5)).snoc r5
  · rintro H3 ⟨Gj, acc, ej, Aj, rj⟩
    have hM : M D = none := A2.mNone hD
    have hl2 : ds.take xs.length = ds := by rw [hx.len, List.take_length]
    rw [hl2] at rj
    have hm := upd_same (H := M) (a := D) (o := HO.lst acc)
    refine q _ _ _ ((e2.trans ej).trans (Aj.frzG hm)) (Aj.frz hm (Ex.new hM) hM) ⟨D, acc, rfl, upd_same, rj.up (Aj.frzG hm)⟩
end
end Sb

namespace Sb
open PySem PySem.Spec PyProof.Rows L2

/-! ### defs that may be called where no repr is running -/
structure FnG (P : Program) (w : World) (K : PySem.W.Frag) (mg : Str → Option Value) (base : Heap) (CX : CXT) (k : Nat) (f : Addr) (fd : FuncData) (ps : List Str) (sp : Sp) : Prop where
  len : ∀ vs H Q E, sp vs H Q E → vs.length = ps.length
  run : ∀ (A : Around) (outer : List Env) (s : Shared) (H : Hp) (args : Args) (us : List Value) (vs : List V) (Q : VK) (E : XK), A.guards = some [] → Room k A → Env0 P w K mg base A outer s H →
    BindsTo s fd args (ps.zip us) → Vals vs us → sp vs H Q E → codeAny (model P w) A (.call (.ref f) args) (CR CX outer P w H s Q E) s
/-- a def of the module, as its callers see it -/
def Fd (P : Program) (w : World) (K : PySem.W.Frag) (mg : Str → Option Value) (base : Heap) (CX : CXT) (k : Nat) (x : Str) (sp : Sp) (dvs : List V) : Prop :=
  ∃ (f : Addr) (fd : FuncData) (ps : List Str) (ds : List Value), mg x = some (.ref f) ∧ PySem.W.keepIn K (.ref f) = true ∧ Binds K fd ps ds ∧ Vals dvs ds ∧ FnG P w K mg base CX k f fd ps sp
section
variable {P : Program} {w : World} {K : PySem.W.Frag} {mg : Str → Option Value} {base : Heap} {x qual : Str} {params : Arguments} {body : List Stmt} {scope : Scope} {dvs : List V} {kws : List (Str × V)} {f : Addr} {fd : FuncData}
theorem fnG_of {CX : CXT} {N ps : List Str} {k : Nat} {sp : Sp} (F : FunD K x qual params body scope dvs kws f fd) (S : FnScope N ps scope) (len : ∀ vs H Q E, sp vs H Q E → vs.length = ps.length)
    (hbody : ∀ (cdv : Value) (A : Around) (outer : List Env) (s : Shared) (H : Hp) (vs : List V) (Q : VK) (E : XK), A.guards = some [] → Room k (A.deeper (envOfC qual scope s.heap.objs.size f cdv)) → sp vs H Q E →
      ∃ t, PSs (cxOf CX P w K mg base N qual scope f cdv A outer s H E) body t ∧ t { nx := fun _ H' => Q .non H', rt := Q } (start N vs) H) : FnG P w K mg base CX (k + 1) f fd ps sp := by
  obtain ⟨oc, od, dV, kV, doc, pm, an, cdv, ct, osl, rfl, lk, hcd, _, _⟩ := F.ex
  refine { len := len, run := fun A outer s H args us vs Q E hg hr e0 hb r hsp => ?_ }
  have hlen := len vs H Q E hsp
  have old : ∀ b o, base.get? b = some o → s.heap.get? b = some o := fun b o e => (e0.bs b o e).1
  have kin := e0.mod.kin.keeps old
  have kinds : ∀ y ∈ ps.zip us, scope.names.lookup y.1 = some .local ∨ (scope.names.lookup y.1 = some .cell ∧ ((cellsFrom (s.heap.objs.size + 1) scope.names []).lookup y.1).isSome = true) := by
    rintro ⟨n, v⟩ hy
    exact (S.par n (List.of_mem_zip hy).1).imp id fun q => ⟨q, PySem.W.cellsFrom_some _ _ _ (.inl q)⟩
  apply codeAny_call_function hr.depth (kin _ _ lk) rfl S.co S.gen rfl (PySem.W.codeRec_of kin hcd)
  apply hb
  apply wpAny_newFunctionEnv_cells S.kind kinds
  intro env he s1 ic
  subst he
  obtain ⟨t, ht, hq⟩ := hbody cdv A outer s H vs Q E hg (hr.deeper _) hsp
  have inv := inv_start (CX := CX) (E := E) S hr.hd e0 hlen r ic
  refine ⟨(e0.mod.nolimit.keeps old).keeps ic.toInCall.keep, codeAny_func (wpAny_mono (ht.run [] s1 (start N vs) H _ inv hq) ?_ fun _ _ z => z)⟩
  rintro (_ | _ | _ | u) s' hs
  · obtain ⟨σ', H', J, q⟩ := hs
    exact ⟨V.non, H', J.os, J.bare, J.base, J.hok, rfl, q⟩
  · obtain ⟨_, _, _, q⟩ := hs
    exact q.elim
  · obtain ⟨_, _, _, q⟩ := hs
    exact q.elim
  · obtain ⟨v, σ', H', J, rv, q⟩ := hs
    exact ⟨v, H', J.os, J.bare, J.base, J.hok, rv, q⟩
end
section
variable {X : Cx} {CX : CXT} {k : Nat} {x : Str} {sp : Sp} {dvs : List V} {E : XK} {p pos : Pos} {e : Expr} {es : List Expr} {t : TA}
theorem run_fd {pins : List (Addr × Obj)} {σ : L2.St} {H : Hp} {s : Shared} {Q : VK} {us : List Value} {vs : List V} {f : Addr} {fd : FuncData} {ps : List Str} {ds : List Value} (F : FnG X.prog X.w X.K X.mg X.base CX k f fd ps sp) (hg : X.A.guards = some []) (hr : Room k X.A)
    (hb : Binds X.K fd ps ds) (hd : Vals dvs ds) (hx : Passes CX X E) (I : Inv X pins σ H s) (r : Vals vs us) (h : sp (vs ++ dvs) H Q E) : wpAny (model X.prog X.w) X.A (call (.ref f) us) (EP X pins σ Q) X.xe s := by
  have r' := r.append hd
  have l' : (us ++ ds).length = ps.length := r'.length.symm.trans (F.len _ _ _ _ h)
  apply wpAny_call
  refine codeAny_mono (F.run X.A X.stack s H ⟨us, []⟩ _ _ Q E hg hr I.env0 (hb s us I.kIn l') r' h) ?_
  rintro (e | (_ | _ | _ | u)) s' hq
  · exact hx pins σ H s e s' I hq
  · exact hq.elim
  · exact hq.elim
  · exact hq.elim
  · exact I.after hq
theorem pe_fd (F : Fd X.prog X.w X.K X.mg X.base CX k x sp dvs) (hg : X.A.guards = some []) (hr : Room k X.A) (hx : Passes CX X E) (ha : PA X (e :: es) t) (hgl : Gl X x := by rfl)
    (hdb : (x == ("__debug__" : Str)) = false := by decide) (he : starEach (e :: es) X.env = (false, eval e X.env) :: starEach es X.env := by rfl) (hpl : (backTo pos (starEach es X.env)).any (·.1) = false := by rfl) :
    PE X (.Call (.Name x p) (e :: es) [] pos) (tCall sp dvs E t) := by
  obtain ⟨f, fd, ps, ds, hm, hk, hb, hd, F⟩ := F
  constructor
  intro pins s σ H Q I h
  apply wpAny_Call_Name_kw
  refine ld_glob I hgl hm ?_ hdb
  refine PySem.W.callWith_K (h₀ := X.base) I.ok.mod.kin hk (thn (ha.run pos pins s σ H _ I h) ?_) he hpl
  rintro us s1 ⟨vs, H1, I1, r, q⟩
  exact ⟨I1.kIn, run_fd F hg hr hb hd hx I1 r q⟩
theorem Fd.mono {P : Program} {w : World} {K : PySem.W.Frag} {mg : Str → Option Value} {base : Heap} {j : Nat} (F : Fd P w K mg base CX j x sp dvs) (h : j ≤ k) : Fd P w K mg base CX k x sp dvs := by
  obtain ⟨f, fd, ps, ds, hm, hk, hb, hd, F⟩ := F
  exact ⟨f, fd, ps, ds, hm, hk, hb, hd, F.len, fun A outer s H args us vs Q E g hr => F.run A outer s H args us vs Q E g (hr.mono h)⟩
end
theorem PSp.len {K : PySem.W.Frag} {R : List PyData → PyData → Prop} {n : Nat} (h : ∀ ds r, R ds r → ds.length = n) {vs : List V} {H : Hp} {Q : VK} {E : XK} (q : PSp K R vs H Q E) : vs.length = n := by
  obtain ⟨G, M, ds, r, _, rl, hr, _⟩ := q
  rw [rl.len, h _ _ hr]

/-! ### data read off a heap; repr; == -/
mutual
def noDic : PyData → Bool
  | .none | .bool _ | .int _ => true
  | .str _ => true
  | .list xs | .tuple xs => noDics xs
  | .dict _ => false
def noDics : List PyData → Bool
  | [] => true
  | x :: xs => noDic x && noDics xs
end
mutual
def noLst : PyData → Bool
  | .none | .bool _ | .int _ => true
  | .str _ => true
  | .list _ => false
  | .tuple xs => noLsts xs
  | .dict kvs => noLstD kvs
def noLsts : List PyData → Bool
  | [] => true
  | x :: xs => noLst x && noLsts xs
def noLstD : List (PyData × PyData) → Bool
  | [] => true
  | (_, y) :: xs => noLst y && noLstD xs
end
section
variable {K : PySem.W.Frag} {H : Hp}
mutual
theorem dp_of : ∀ (d : PyData) {v : V}, noDic d = true → Rp K H d v → Dp K H v d
  | .none, v, _, h => by rw [show v = V.non from h]; exact .non
  | .bool b, v, _, h => by rw [show v = V.bl b from h]; exact .bl b
  | .int b, v, _, h => by rw [show v = V.int b from h]; exact .int b
  | .str b, v, _, h => by rw [show v = V.str b from h]; exact .str b
  | .list ds, v, n, ⟨a, xs, e, h1, h2⟩ => by rw [e]; exact .lst (SqL.of h1) (dpL_of ds (by simpa [noDic] using n) h2)
  | .tuple ds, v, n, ⟨a, xs, e, h1, h2⟩ => by rw [e]; exact .tup h1 (dpL_of ds (by simpa [noDic] using n) h2)
  | .dict ds, v, n, _ => by simp [noDic] at n
theorem dpL_of : ∀ (ds : List PyData) {vs : List V}, noDics ds = true → RpL K H ds vs → DpAll K H vs ds
  | [], vs, _, h => by rw [show vs = [] from h]; exact .nil
  | d :: ds, vs, n, ⟨x, r, e, h1, h2⟩ => by
    have n' : noDic d = true ∧ noDics ds = true := by simpa [noDics] using n
    rw [e]
    exact .cons (dp_of d n'.1 h1) (dpL_of ds n'.2 h2)
end
end
theorem noDic_of_canLay {d : PyData} (h : SeqAt.shaped d = true) : noDic d = true := go d (SeqAt.canLay_of_shaped h)
where
  go : ∀ (d : PyData), d.canLay0 = true → noDic d = true
    | .none, _ => by simp [noDic]
    | .bool _, _ => by simp [noDic]
    | .int _, _ => by simp [noDic]
    | .str _, _ => by simp [noDic]
    | .list ds, h => by simp only [noDic]; exact goL ds (by simpa [PyData.canLay0] using h)
    | .tuple ds, h => by simp only [noDic]; exact goL ds (by simpa [PyData.canLay0] using h)
    | .dict ds, h => by simp [PyData.canLay0] at h
  goL : ∀ (ds : List PyData), PyData.canLayAll0 ds = true → noDics ds = true
    | [], _ => by simp [noDics]
    | d :: ds, h => by
      have h' : d.canLay0 = true ∧ PyData.canLayAll0 ds = true := by simpa [PyData.canLayAll0] using h
      simp only [noDics, Bool.and_eq_true]
      exact ⟨go d h'.1, goL ds h'.2⟩
section
variable {X : Cx}
def rEqR (K : PySem.W.Frag) : R2 := fun x y H Q => ∃ G d e, Ex G H ∧ Rp K G d x ∧ Rp K G e y ∧ SeqAt.shaped d = true ∧ SeqAt.shaped e = true ∧ Q (.bl (PyData.eqv d e)) H
def rNeR (K : PySem.W.Frag) : R2 := fun x y H Q => ∃ G d e, Ex G H ∧ Rp K G d x ∧ Rp K G e y ∧ SeqAt.shaped d = true ∧ SeqAt.shaped e = true ∧ Q (.bl (!PyData.eqv d e)) H
theorem op_eqR (hu : X.A.units + 64 < cLine) : OpR X (compareOp .Eq) (rEqR X.K) := by
  intro pins s σ H x y v u Q I rx ry h
  obtain ⟨G, d, e, g, h1, h2, s1, s2, q⟩ := h
  exact op_eqD hu pins s σ H x y v u Q I rx ry ⟨d, e, dp_of d (noDic_of_canLay s1) (h1.up g), dp_of e (noDic_of_canLay s2) (h2.up g), s1, s2, q⟩
theorem op_neR (hu : X.A.units + 64 < cLine) : OpR X (compareOp .NotEq) (rNeR X.K) := by
  intro pins s σ H x y v u Q I rx ry h
  obtain ⟨G, d, e, g, h1, h2, s1, s2, q⟩ := h
  exact op_neD hu pins s σ H x y v u Q I rx ry ⟨d, e, dp_of d (noDic_of_canLay s1) (h1.up g), dp_of e (noDic_of_canLay s2) (h2.up g), s1, s2, q⟩
end
theorem rd_eqR {K : PySem.W.Frag} {d e : PyData} (s1 : SeqAt.shaped d = true) (s2 : SeqAt.shaped e = true) : RD K (rEqR K) d e (.bool (PyData.eqv d e)) := fun G M H x y A h1 h2 Q q => ⟨G, d, e, A.g, h1, h2, s1, s2, q.here A rfl⟩
theorem rd_neR {K : PySem.W.Frag} {d e : PyData} (s1 : SeqAt.shaped d = true) (s2 : SeqAt.shaped e = true) : RD K (rNeR K) d e (.bool (!PyData.eqv d e)) := fun G M H x y A h1 h2 Q q => ⟨G, d, e, A.g, h1, h2, s1, s2, q.here A rfl⟩

/-! what stands in the model's heap -/
theorem noDic_hasDict : ∀ (d : PyData), noDic d = true → d.hasDict = false
  | .none, _ => by simp [PyData.hasDict]
  | .bool _, _ => by simp [PyData.hasDict]
  | .int _, _ => by simp [PyData.hasDict]
  | .str _, _ => by simp [PyData.hasDict]
  | .list ds, h => by simp only [PyData.hasDict]; exact go ds (by simpa [noDic] using h)
  | .tuple ds, h => by simp only [PyData.hasDict]; exact go ds (by simpa [noDic] using h)
  | .dict ds, h => by simp [noDic] at h
where
  go : ∀ (ds : List PyData), noDics ds = true → PyData.hasDictAll ds = false
    | [], _ => by simp [PyData.hasDictAll]
    | d :: ds, h => by
      have h' : noDic d = true ∧ noDics ds = true := by simpa [noDics] using h
      simp only [PyData.hasDictAll, Bool.or_eq_false_iff]
      exact ⟨noDic_hasDict d h'.1, go ds h'.2⟩
section
variable {X : Cx} {pins : List (Addr × Obj)} {σ : L2.St} {H : Hp} {s : Shared}
theorem key_reads {k : Key} {v : Value} (h : keyIs k v = true) : Reads s.heap v (kD k) [] := by
  rcases keyIs_shape h with ⟨i, t, rfl, rfl⟩ | ⟨x, t, rfl, rfl⟩
  · exact .int i t
  · exact .str x t
theorem keys_reads : ∀ (ds : List (PyData × PyData)) {K : PySem.W.Frag} {es : List (Key × V)} {us : List (Key × Value)} {xs : List DictEntry}, RpD K H ds es → KV es us → Pairs (mixKind X.prog X.w) xs us →
    ReadsAll s.heap (xs.map (·.key)) (ds.map (·.1)) []
  | [], K, es, us, xs, h, r, p => by
    rw [show es = [] from h] at r
    cases r
    cases p
    exact .nil
  | (k, d) :: ds, K, es, us, xs, ⟨x, y, t, e, h0, h1, h2⟩, r, p => by
    rw [e] at r
    cases r with
    | cons r1 r2 =>
      cases p with
      | cons p0 p1 p2 =>
        have a := keys_reads ds h2 r2 p2
        have q := p0
        rw [← r1.1] at q
        have b := key_reads (s := s) q
        rw [h0] at b
        exact .cons b a
mutual
theorem Rp.reads (I : Inv X pins σ H s) : ∀ (d : PyData) {v : V} {u : Value}, Rp X.K H d v → RelV v u → ∃ as, Reads s.heap u d as ∧ (noLst d = true → sysModules ∉ as)
  | .none, v, u, h, r => by
    rw [show v = V.non from h] at r
    rw [show u = Value.none from r]
    exact ⟨_, .none, fun _ => by simp⟩
  | .bool b, v, u, h, r => by
    rw [show v = V.bl b from h] at r
    rw [show u = Value.bool b from r]
    exact ⟨_, .bool b, fun _ => by simp⟩
  | .int b, v, u, h, r => by
    rw [show v = V.int b from h] at r
    obtain ⟨t, e⟩ := r
    rw [e]
    exact ⟨_, .int b t, fun _ => by simp⟩
  | .str b, v, u, h, r => by
    rw [show v = V.str b from h] at r
    obtain ⟨t, e⟩ := r
    rw [e]
    exact ⟨_, .str b t, fun _ => by simp⟩
  | .list ds, v, u, ⟨a, xs, e, h1, h2⟩, r => by
    rw [e] at r
    rw [show u = Value.ref a from r]
    obtain ⟨its, rv, pl, _⟩ := I.list (SqL.of h1)
    obtain ⟨o, n, g1, g2, _, g3⟩ := pl
    obtain ⟨as, k1, _⟩ := RpL.reads I ds h2 rv
    exact ⟨_, .list g1 g2 g3 (by simpa using k1), fun z => by simp [noLst] at z⟩
  | .tuple ds, v, u, ⟨a, xs, e, h1, h2⟩, r => by
    rw [e] at r
    rw [show u = Value.ref a from r]
    obtain ⟨its, rv, ⟨o, g1, g2, n, g3⟩, _⟩ := I.tuple h1
    obtain ⟨as, k1, k2⟩ := RpL.reads I ds h2 rv
    exact ⟨as, .tuple g1 g2 g3 (by simpa using k1), fun z => k2 (by simpa [noLst] using z)⟩
  | .dict kvs, v, u, ⟨a, es, e, h1, h2⟩, r => by
    rw [e] at r
    rw [show u = Value.ref a from r]
    obtain ⟨_, hs, vs, kv, o, xs, ep, g1, g2, g3, _, g4, _⟩ := I.hok a _ h1
    have hs' : a ≠ sysModules := by simpa using hs
    obtain ⟨bs, k1, k2⟩ := RpD.reads I kvs h2 kv g4
    have k3 := keys_reads (X := X) (s := s) kvs h2 kv g4
    refine ⟨_, .dict g1 g2.1 g3 k3 k1, fun n z => ?_⟩
    rcases List.mem_cons.mp z with z | z
    · exact hs' z.symm
    · exact k2 (by simpa [noLst] using n) (by simpa using z)
theorem RpL.reads (I : Inv X pins σ H s) : ∀ (ds : List PyData) {vs : List V} {us : List Value}, RpL X.K H ds vs → Vals vs us → ∃ as, ReadsAll s.heap us ds as ∧ (noLsts ds = true → sysModules ∉ as)
  | [], vs, us, h, r => by
    rw [show vs = [] from h] at r
    cases r
    exact ⟨_, .nil, fun _ => by simp⟩
  | d :: ds, vs, us, ⟨x, xs, e, h1, h2⟩, r => by
    rw [e] at r
    cases r with
    | cons r1 r2 =>
      obtain ⟨as, k1, k2⟩ := Rp.reads I d h1 r1
      obtain ⟨bs, k3, k4⟩ := RpL.reads I ds h2 r2
      refine ⟨_, .cons k1 k3, fun n w => ?_⟩
      have n' : noLst d = true ∧ noLsts ds = true := by simpa [noLsts] using n
      rcases List.mem_append.mp w with w | w
      · exact k2 n'.1 w
      · exact k4 n'.2 w
theorem RpD.reads (I : Inv X pins σ H s) : ∀ (ds : List (PyData × PyData)) {es : List (Key × V)} {us : List (Key × Value)} {xs : List DictEntry}, RpD X.K H ds es → KV es us → Pairs (mixKind X.prog X.w) xs us →
    ∃ as, ReadsAll s.heap (xs.map (·.val)) (ds.map (·.2)) as ∧ (noLstD ds = true → sysModules ∉ as)
  | [], es, us, xs, h, r, p => by
    rw [show es = [] from h] at r
    cases r
    cases p
    exact ⟨_, .nil, fun _ => by simp⟩
  | (k, d) :: ds, es, us, xs, ⟨x, y, t, e, h0, h1, h2⟩, r, p => by
    rw [e] at r
    cases r with
    | cons r1 r2 =>
      cases p with
      | cons p0 p1' p2 =>
        have r1' := r1.2
        obtain ⟨as, k1, k2⟩ := Rp.reads I d h1 r1'
        obtain ⟨bs, k3, k4⟩ := RpD.reads I ds h2 r2 p2
        refine ⟨as ++ bs, .cons (cast (by show Reads s.heap _ d as = Reads s.heap _ d as; exact congrArg (fun z => Reads s.heap z d as) p1'.symm) k1) k3, fun n w => ?_⟩
        have n' : noLst d = true ∧ noLstD ds = true := by simpa [noLstD] using n
        rcases List.mem_append.mp w with w | w
        · exact k2 n'.1 w
        · exact k4 n'.2 w
end
def rRepr (K : PySem.W.Frag) : List V → Hp → VK → Prop := fun xs H Q => ∃ G d v, Ex G H ∧ xs = [v] ∧ Rp K G d v ∧ (noLst d = true ∨ noDic d = true) ∧ isDisplay d = true ∧ d.showable = true ∧ d.depth ≤ 60 ∧ d.shown.length ≤ sizeLine ∧ Q (.str d.shown) H
theorem call_reprR (hg : X.A.guards = some []) (hu : X.A.units + 64 < cLine) : CallR X (.builtin "repr") (rRepr X.K) := by
  intro pins s σ H xs us Q I r h
  obtain ⟨G, d, v, g, rfl, h1, h2, h3, h4, h5, h6, q⟩ := h
  cases r with
  | cons r1 r2 =>
    cases r2
    obtain ⟨as, k1, k2⟩ := Rp.reads I d (h1.up g) r1
    have k3 : d.hasDict = true → sysModules ∉ as := fun z => by
      rcases h2 with n | n
      · exact k2 n
      · rw [noDic_hasDict d n] at z
        cases z
    obtain ⟨a, rfl⟩ := isRef_of_reads k1 h3
    exact repr_of_reads' k1 h4 k3 hg (by omega) (fun _ _ e => e) (fun h' u tk hk => ⟨.str d.shown, H, I.kept hk, ⟨u, rfl⟩, q⟩) h6
end
theorem rc_repr {K : PySem.W.Frag} {d : PyData} (h2 : noLst d = true ∨ noDic d = true) (h3 : isDisplay d = true) (h4 : d.showable = true) (h5 : d.depth ≤ 60) (h6 : d.shown.length ≤ sizeLine) : RC K (rRepr K) [d] (.str d.shown) :=
  fun G M H xs A ⟨x, r, e, h, h'⟩ Q q => by
    rw [e, show r = [] from h']
    exact ⟨G, d, x, A.g, rfl, h, h2, h3, h4, h5, h6, q.here A rfl⟩
end Sb

namespace Sb
open PySem PySem.Spec PyProof.Rows L2

/-! ### rules that the layer lacks -/
section
variable {X : Cx}
def CPowW (i j : Int) : Prop := 0 ≤ j ∧ (Builtin.Int.intBits i : Int) * j ≤ 2 ^ 27
theorem op_powW : OpR X (binaryOp .Pow) (rI CPowW fun i j => .int (i ^ j.toNat)) := opI fun _ _ _ _ _ _ _ hc q => pow_int hc.1 hc.2 q
def rMulS : R2 := fun x y H Q => ∃ z n, x = .str z ∧ y = .int n ∧ MulOk z n ∧ Q (.str (Txt.mul z n)) H
theorem op_mulS : OpR X (binaryOp .Mult) rMulS := by
  intro pins s σ H x y v u Q I rx ry h
  obtain ⟨z, n, rfl, rfl, ok, q⟩ := h
  obtain ⟨t, rfl⟩ := rx
  obtain ⟨t', rfl⟩ := ry
  exact SB.mul ok fun t2 k => ⟨.str _, H, I.tok k, ⟨t2, rfl⟩, q⟩
def signs (z : Str) : List V := z.cps.toList.map fun c => V.str ⟨#[c]⟩
def rListS : List V → Hp → VK → Prop := fun xs H Q => ∃ z, xs = [.str z] ∧ z.cps.size ≤ sizeLine ∧ ∀ p, H p = none → Q (.ref p) (upd H p (.lst (signs z)))
theorem call_listS (hc : X.calm = true) : CallR X (.type "list") rListS := by
  intro pins s σ H xs us Q I r h
  obtain ⟨z, rfl, hz, q⟩ := h
  cases r with
  | cons r1 r2 =>
    cases r2
    obtain ⟨t, rfl⟩ := r1
    refine call_list_str (I.ok.hd hc) z t (fun h' tk acc c' hk hl hi => ?_) hz
    have rv : Vals (signs z) acc.toList := by
      have size : acc.toList.length = z.cps.toList.length := by simpa using hi.1
      have at_ : ∀ (j : Nat) v, acc.toList[j]? = some v → ∃ c u, z.cps.toList[j]? = some c ∧ v = .str ⟨#[c]⟩ u := fun j v e => by
        obtain ⟨c, u, e1, e2⟩ := hi.2 j v (by simpa using e)
        exact ⟨c, u, by simpa using e1, e2⟩
      revert size at_
      show ∀ (size : acc.toList.length = z.cps.toList.length) (at_ : ∀ (j : Nat) v, acc.toList[j]? = some v → ∃ c u, z.cps.toList[j]? = some c ∧ v = .str ⟨#[c]⟩ u), Vals (z.cps.toList.map fun c => V.str ⟨#[c]⟩) acc.toList
      generalize acc.toList = us
      generalize z.cps.toList = cs
      intro size at_
      induction cs generalizing us with
      | nil =>
        cases us with
        | nil => exact .nil
        | cons _ _ => simp at size
      | cons c cs ih =>
        cases us with
        | nil => simp at size
        | cons v us =>
          obtain ⟨c', u, e1, e2⟩ := at_ 0 v rfl
          have e3 : c = c' := by simpa using e1
          rw [e2, ← e3]
          exact .cons ⟨u, rfl⟩ (ih us (by simpa using size) fun j v e => by simpa using at_ (j + 1) v (by simpa using e))
    refine ⟨.ref s.heap.objs.size, _, I.laid (t' := tk) (o := .lst (signs z)) hk (Nat.le_refl _) ?_, rfl, q _ (I.hok.fresh (Nat.le_refl _))⟩
    refine ⟨by unfold signs; simpa using hz, acc.toList, c', rv, ?_⟩
    rw [hl]
/-- a dict and an empty one -/
def rEqE : R2 := fun x y H Q => ∃ a b kvs, x = .ref a ∧ y = .ref b ∧ H a = some (.dK kvs) ∧ H b = some (.dK []) ∧ Q (.bl kvs.isEmpty) H
theorem op_eqE (hu : X.A.units + 64 < cLine) : OpR X (compareOp .Eq) rEqE := by
  intro pins s σ H x y v u Q I rx ry h
  obtain ⟨a, b, kvs, rfl, rfl, h1, h2, q⟩ := h
  cases (show v = Value.ref a from rx)
  cases (show u = Value.ref b from ry)
  obtain ⟨_, ya, va, ra, da⟩ := I.hok a _ h1
  obtain ⟨_, yb, vb, rb, db⟩ := I.hok b _ h2
  cases rb
  have la := ra.length
  refine PySem.W.rcP_dicts (knd := mixKind X.prog X.w) (r := true) ya yb da db (by omega) (fun z => ?_) _ _ ?_
  · cases va with
    | nil => exact .nil
    | cons _ _ => simp at z
  · have e : (va.length == ([] : List (Key × Value)).length && true) = kvs.isEmpty := by
      cases kvs with
      | nil =>
        cases va with
        | nil => rfl
        | cons _ _ => simp at la
      | cons _ _ =>
        cases va with
        | nil => simp at la
        | cons _ _ => rfl
    rw [e]
    exact ⟨.bl _, H, I, rfl, q⟩
end

/-! ### isinstance -/
def kindOf : PyData → String
  | .none => "NoneType"
  | .bool _ => "bool"
  | .int _ => "int"
  | .str _ => "str"
  | .list _ => "list"
  | .tuple _ => "tuple"
  | .dict _ => "dict"
def isA (n : String) (d : PyData) : Bool := kindOf d == n || (n == "int" && kindOf d == "bool")
section
variable {K : PySem.W.Frag} {σ : L2.St} {G G' M H : Hp} {ta tb te : TE} {d d1 d2 d3 : PyData} {tt t u : TT} {ts : TA} {ds es : List PyData} {Q : VK}
theorem tyx_of {v : V} (h : Rp K G d v) : TyX K G v (.type (kindOf d)) := by
  cases d with
  | none => rw [show v = V.non from h]; exact .base .non
  | bool b => rw [show v = V.bl b from h]; exact .base (.bl b)
  | int b => rw [show v = V.int b from h]; exact .base (.int b)
  | str b => rw [show v = V.str b from h]; exact .base (.str b)
  | list ds => obtain ⟨a, xs, rfl, h1, _⟩ := h; exact .base (.lst h1)
  | dict ds => obtain ⟨a, xs, rfl, h1, _⟩ := h; exact .base (.dK h1)
  | tuple ds =>
    obtain ⟨a, xs, rfl, h1, _⟩ := h
    rcases h1 with (h1 | ⟨o, h1⟩) | h1
    · exact .base (.tup h1)
    · exact .fTuple h1
    · obtain ⟨o, its, n, e, c, _⟩ := h1
      exact .kTuple e c
theorem kit_all : ∀ n ∈ ["int", "bool", "str", "list", "tuple", "dict"], ∀ k ∈ ["NoneType", "bool", "int", "str", "list", "tuple", "dict"], kitB k n = some (k == n || (n == "int" && k == "bool")) := by decide +kernel
theorem kind_mem (d : PyData) : kindOf d ∈ ["NoneType", "bool", "int", "str", "list", "tuple", "dict"] := by cases d <;> simp [kindOf]
theorem d_isi {n : String} (h : TrD K ta σ G d) (hn : n ∈ ["int", "bool", "str", "list", "tuple", "dict"] := by decide) : TrD K (tCB (rIsi K) (tCons ta (tCons (tC (.ty n)) tNil))) σ G (.bool (isA n d)) := fun G1 M H e A Q q => by
  refine h G1 M H e A _ fun v G2 H2 e2 A2 r => ?_
  refine ⟨v, .ty n, .type (kindOf d), .type n, isA n d, rfl, .ty n, ?_, kit_ty (kit_all n hn _ (kind_mem d)), (q.mono e2).here A2 rfl⟩
  exact tyx_of (r.up A2.g)

/-! ### ints -/
theorem rd_mul {i j : Int} (h : CMulW i j) : RD K (rI CMulW fun i j => .int (i * j)) (.int i) (.int j) (.int (i * j)) := rd_I h fun _ => rfl
theorem rd_mod {i j : Int} (h : 0 < j) : RD K (rI (fun _ j => 0 < j) fun i j => .int (i % j)) (.int i) (.int j) (.int (i % j)) := rd_I h fun _ => rfl
theorem rd_fdiv {i j : Int} (h : CDivW i j) : RD K (rI CDivW fun i j => .int (i / j)) (.int i) (.int j) (.int (i / j)) := rd_I h fun _ => rfl
theorem rd_pow {i j : Int} (h : CPow i j) : RD K (rI CPow fun i j => .int (i ^ j.toNat)) (.int i) (.int j) (.int (i ^ j.toNat)) := rd_I h fun _ => rfl
theorem rd_powW {i j : Int} (h : CPowW i j) : RD K (rI CPowW fun i j => .int (i ^ j.toNat)) (.int i) (.int j) (.int (i ^ j.toNat)) := rd_I h fun _ => rfl
def rInt1 : List V → Hp → VK → Prop := fun xs H Q => (∃ i, xs = [.int i] ∧ Q (.int i) H) ∨ ∃ k, xs = [.bl k] ∧ Q (.int (if k then 1 else 0)) H
theorem call_int1' {X : Cx} : CallR X (.type "int") rInt1 := call_int1
theorem rc_int1 {i : Int} : RC K rInt1 [.int i] (.int i) := fun G M H xs A ⟨x, r, e, h, h'⟩ Q q => by
  rw [e, show r = [] from h', show x = V.int i from h]
  exact .inl ⟨i, rfl, q.here A rfl⟩
def rStrI : List V → Hp → VK → Prop := fun xs H Q => ∃ i, xs = [.int i] ∧ i.natAbs.log2 < 1920 ∧ Q (.str (toString i)) H
theorem call_strI {X : Cx} : CallR X (.type "str") rStrI := call_str_int
theorem rc_strI {i : Int} (h0 : i.natAbs.log2 < 1920) : RC K rStrI [.int i] (.str (toString i)) := fun G M H xs A ⟨x, r, e, h, h'⟩ Q q => by
  rw [e, show r = [] from h', show x = V.int i from h]
  exact ⟨i, rfl, h0, q.here A rfl⟩
def rIntS : List V → Hp → VK → Prop := fun xs H Q => ∃ a n, xs = [.str a] ∧ PySem.intText? a = some n ∧ a.length ≤ 640 ∧ Q (.int n) H
theorem call_intS {X : Cx} : CallR X (.type "int") rIntS := call_int_str
theorem rc_intS {a : Str} {n : Int} (h0 : PySem.intText? a = some n) (h1 : a.length ≤ 640) : RC K rIntS [.str a] (.int n) := fun G M H xs A ⟨x, r, e, h, h'⟩ Q q => by
  rw [e, show r = [] from h', show x = V.str a from h]
  exact ⟨a, n, rfl, h0, h1, q.here A rfl⟩
def rMax2 : List V → Hp → VK → Prop := fun xs H Q => ∃ i j, xs = [.int i, .int j] ∧ Q (.int (if j > i then j else i)) H
def rMin2 : List V → Hp → VK → Prop := fun xs H Q => ∃ i j, xs = [.int i, .int j] ∧ Q (.int (if j < i then j else i)) H
def rAbs : List V → Hp → VK → Prop := fun xs H Q => ∃ i, xs = [.int i] ∧ Q (.int (if i < 0 then -i else i)) H
theorem call_max2' {X : Cx} (hc : X.calm = true) : CallR X (.builtin "max") rMax2 := call_max2 hc
theorem call_min2' {X : Cx} (hc : X.calm = true) : CallR X (.builtin "min") rMin2 := call_min2 hc
theorem call_abs' {X : Cx} : CallR X (.builtin "abs") rAbs := call_abs
theorem rc_max2 {i j : Int} : RC K rMax2 [.int i, .int j] (.int (if j > i then j else i)) := fun G M H xs A ⟨x, r, e, h, ⟨y, r', e', h', h''⟩⟩ Q q => by
  rw [e, e', show r' = [] from h'', show x = V.int i from h, show y = V.int j from h']
  exact ⟨i, j, rfl, q.here A rfl⟩
theorem rc_min2 {i j : Int} : RC K rMin2 [.int i, .int j] (.int (if j < i then j else i)) := fun G M H xs A ⟨x, r, e, h, ⟨y, r', e', h', h''⟩⟩ Q q => by
  rw [e, e', show r' = [] from h'', show x = V.int i from h, show y = V.int j from h']
  exact ⟨i, j, rfl, q.here A rfl⟩
theorem rc_abs {i : Int} : RC K rAbs [.int i] (.int (if i < 0 then -i else i)) := fun G M H xs A ⟨x, r, e, h, h'⟩ Q q => by
  rw [e, show r = [] from h', show x = V.int i from h]
  exact ⟨i, rfl, q.here A rfl⟩

/-! ### sequences -/
def sizeD : PyData → Nat
  | .str x => x.length
  | .list ds => ds.length
  | .tuple ds => ds.length
  | .dict ds => ds.length
  | _ => 0
def rLen (K : PySem.W.Frag) : List V → Hp → VK → Prop := fun xs H Q => ∃ x n, xs = [x] ∧ LenV K x H n ∧ Q (.int n) H
theorem call_len' {X : Cx} : CallR X (.builtin "len") (rLen X.K) := call_len
theorem rc_lenT : RC K (rLen K) [.tuple ds] (.int ds.length) := fun G M H xs A ⟨x, r, e, ⟨a, ys, h1, h2, h3⟩, h'⟩ Q q => by
  rw [e, show r = [] from h', h1]
  exact ⟨_, ds.length, rfl, .inr ⟨ys, A.g.stt h2, h3.len.symm⟩, q.here A rfl⟩
theorem rc_lenL : RC K (rLen K) [.list ds] (.int ds.length) := fun G M H xs A ⟨x, r, e, ⟨a, ys, h1, h2, h3⟩, h'⟩ Q q => by
  rw [e, show r = [] from h', h1]
  exact ⟨_, ds.length, rfl, .inl ⟨ys, SqL.of (A.g _ _ h2), h3.len.symm⟩, q.here A rfl⟩
theorem rc_lenS {z : Str} (hz : z.length ≤ sizeLine) : RC K (rLen K) [.str z] (.int z.length) := fun G M H xs A ⟨x, r, e, h, h'⟩ Q q => by
  rw [e, show r = [] from h', show x = V.str z from h]
  exact ⟨_, z.length, rfl, ⟨hz, rfl⟩, q.here A rfl⟩
def rLenD : List V → Hp → VK → Prop := fun xs H Q => ∃ a kvs, xs = [V.ref a] ∧ H a = some (.dK kvs) ∧ Q (.int kvs.length) H
theorem call_lenD' {X : Cx} : CallR X (.builtin "len") rLenD := call_lenD
theorem RpD.len : ∀ {ds : List (PyData × PyData)} {xs : List (Key × V)}, RpD K G ds xs → xs.length = ds.length
  | [], _, h => by rw [show _ = [] from h]; rfl
  | (_, _) :: ds, _, ⟨_, _, r, h1, _, _, h3⟩ => by rw [h1, List.length_cons, List.length_cons, RpD.len h3]
theorem rc_lenD {kvs : List (PyData × PyData)} : RC K rLenD [.dict kvs] (.int kvs.length) := fun G M H xs A ⟨x, r, e, ⟨a, ys, h1, h2, h3⟩, h'⟩ Q q => by
  rw [e, show r = [] from h', h1]
  exact ⟨a, ys, rfl, A.g _ _ h2, q.here A (show V.int _ = V.int _ by rw [h3.len])⟩
theorem RpL.atI {xs : List V} {i : Int} (h : RpL K G ds xs) (e : atI ds i = some d) : ∃ x, L2.atI xs i = some x ∧ Rp K G d x := by
  unfold L2.atI at e ⊢
  rw [h.len]
  cases q : ixN ds.length i with
  | none =>
    rw [q] at e
    cases e
  | some j =>
    rw [q] at e
    exact h.at e
theorem rd_ixT {i : Int} (h : atI ds i = some d) : RD K (rIxT K) (.tuple ds) (.int i) d := fun G M H x y A ⟨a, xs, h1, h2, h3⟩ h4 Q q => by
  obtain ⟨z, e, r⟩ := h3.atI h
  exact ⟨a, xs, i, z, h1, h4, A.g.stt h2, e, q.here A r⟩
theorem rd_ixL {i : Int} (h : atI ds i = some d) : RD K (rIxL K) (.list ds) (.int i) d := fun G M H x y A ⟨a, xs, h1, h2, h3⟩ h4 Q q => by
  obtain ⟨z, e, r⟩ := h3.atI h
  exact ⟨a, xs, i, z, h1, h4, SqL.of (A.g _ _ h2), e, q.here A r⟩
theorem rd_ixS {z : Str} {i : Int} {c : Nat} (hz : z.length ≤ sizeLine) (h : atI z.cps.toList i = some c) : RD K rIxS (.str z) (.int i) (.str ⟨#[c]⟩) := fun G M H x y A h1 h2 Q q => ⟨z, i, c, h1, h2, hz, h, q.here A rfl⟩
theorem rd_cat (hn : ds.length + es.length ≤ 100000) : RD K rCat (.list ds) (.list es) (.list (ds ++ es)) := fun G M H x y A ⟨a, xs, h1, h2, h3⟩ ⟨b, ys, k1, k2, k3⟩ Q q =>
  ⟨a, b, xs, ys, h1, k1, A.g _ _ h2, A.g _ _ k2, by rw [h3.len, k3.len]; exact sz_of hn, fun p hp => q.newG A hp ⟨p, _, rfl, upd_same, (h3.app k3).up (Ex.new (A.gNone hp))⟩⟩
theorem rd_addS {x y : Str} (h : x.length + y.length ≤ sizeLine) : RD K (fun x y H Q => ∃ i j, x = .str i ∧ y = .str j ∧ i.length + j.length ≤ sizeLine ∧ Q (.str (i ++ j)) H) (.str x) (.str y) (.str (x ++ y)) :=
  fun G M H v u A h1 h2 Q q => ⟨x, y, h1, h2, h, q.here A rfl⟩
def cutD (ds : List PyData) (lo hi : Option Int) : List PyData := (ds.drop (HT.sIx ds.length 0 lo)).take (HT.sIx ds.length ds.length hi - HT.sIx ds.length 0 lo)
theorem RpL.cut {xs : List V} {lo hi : Option Int} (h : RpL K G ds xs) : RpL K G (cutD ds lo hi) (cutV xs lo hi) := by
  unfold cutD cutV
  rw [h.len]
  exact (h.drop _).take _
def TrO (to : TO) (σ : L2.St) (G : Hp) (o : Option Int) : Prop := ∀ G1 M H, Ex G G1 → At G1 M H → ∀ Q : Option Int → Hp → Prop, (∀ G' H', Ex G1 G' → At G' M H' → Q o H') → to σ H Q
theorem o_none : TrO tNoPart σ G none := fun G1 M H e A Q q => q G1 H (Ex.refl _) A
theorem o_some {i : Int} (h : TrD K te σ G (.int i)) : TrO (tPart te) σ G (some i) := fun G1 M H e A Q q => by
  refine h G1 M H e A _ fun v G2 H2 e2 A2 r => ?_
  exact ⟨i, r, q G2 H2 e2 A2⟩
theorem d_slL {tl th : TO} {lo hi : Option Int} (h : TrD K te σ G (.list ds)) (h1 : TrO tl σ G lo) (h2 : TrO th σ G hi) : TrD K (tSl (rSlL K) te tl th) σ G (.list (cutD ds lo hi)) := fun G1 M H e A Q q => by
  refine h G1 M H e A _ fun v G2 H2 e2 A2 r => ?_
  refine h1 G2 M H2 (e.trans e2) A2 _ fun G3 H3 e3 A3 => ?_
  refine h2 G3 M H3 ((e.trans e2).trans e3) A3 _ fun G4 H4 e4 A4 => ?_
  obtain ⟨a, xs, rfl, k1, k2⟩ := r.up (e3.trans e4)
  refine ⟨a, xs, rfl, SqL.of (A4.g _ _ k1), fun p hp => ?_⟩
  exact ((q.mono ((e2.trans e3).trans e4))).newG A4 hp ⟨p, _, rfl, upd_same, k2.cut.up (Ex.new (A4.gNone hp))⟩
def rTupOf (K : PySem.W.Frag) : List V → Hp → VK → Prop := fun xs H Q => ∃ p ys, xs = [.ref p] ∧ ((SqL K H p ys ∧ ∀ l, H l = none → Q (.ref l) (upd H l (.tup ys))) ∨ (SqT K H p ys ∧ Q (.ref p) H))
theorem call_tupOf {X : Cx} : CallR X (.type "tuple") (rTupOf X.K) := call_tuple_of
theorem rc_tupL : RC K (rTupOf K) [.list ds] (.tuple ds) := fun G M H xs A ⟨x, r, e, ⟨a, ys, h1, h2, h3⟩, h'⟩ Q q => by
  rw [e, show r = [] from h', h1]
  exact ⟨a, ys, rfl, .inl ⟨SqL.of (A.g _ _ h2), fun p hp => q.newG A hp ⟨p, ys, rfl, SqT.of upd_same, h3.up (Ex.new (A.gNone hp))⟩⟩⟩
def rListOf (K : PySem.W.Frag) : List V → Hp → VK → Prop := fun xs H Q => ∃ p ys, xs = [.ref p] ∧ (SqL K H p ys ∨ SqT K H p ys) ∧ ∀ l, H l = none → Q (.ref l) (upd H l (.lst ys))
theorem call_listOf {X : Cx} : CallR X (.type "list") (rListOf X.K) := call_list_of
theorem rc_listT : RC K (rListOf K) [.tuple ds] (.list ds) := fun G M H xs A ⟨x, r, e, ⟨a, ys, h1, h2, h3⟩, h'⟩ Q q => by
  rw [e, show r = [] from h', h1]
  exact ⟨a, ys, rfl, .inr (A.g.stt h2), fun p hp => q.newG A hp ⟨p, ys, rfl, upd_same, h3.up (Ex.new (A.gNone hp))⟩⟩
theorem rpL_bools : ∀ (bs : List Bool) {xs : List V}, RpL K G (bs.map PyData.bool) xs → xs = bs.map V.bl
  | [], xs, h => h
  | b :: bs, xs, ⟨x, r, h1, h2, h3⟩ => by
    rw [h1, show x = V.bl b from h2, rpL_bools bs h3]
    rfl
theorem rc_all {bs : List Bool} : RC K (rAll K) [.list (bs.map .bool)] (.bool (bs.all id)) := fun G M H xs A ⟨x, r, e, ⟨a, ys, h1, h2, h3⟩, h'⟩ Q q => by
  rw [e, show r = [] from h', h1]
  rw [rpL_bools bs h3] at h2
  exact ⟨a, bs, rfl, SqL.of (A.g _ _ h2), q.here A rfl⟩
theorem d_revL (h : TrD K te σ G (.list ds)) : TrD K (tRevL K te) σ G (.list ds.reverse) := fun G1 M H e A Q q => by
  refine h G1 M H e A _ fun v G2 H2 e2 A2 r => ?_
  obtain ⟨a, xs, rfl, k1, k2⟩ := r
  exact ⟨a, xs, rfl, SqL.of (A2.g _ _ k1), fun p hp => (q.mono e2).newG A2 hp ⟨p, _, rfl, upd_same, k2.rev.up (Ex.new (A2.gNone hp))⟩⟩
/-! ### texts -/
theorem d_join {to : TE} {a : Str} {ys : List Str} (ho : TrD K to σ G (.str a)) (h : TrD K te σ G (.list (dStrs ys))) (hz : (ys.map (·.length)).sum + ys.length * a.length ≤ 16777216) :
    TrD K (tM1 (fun x xs H Q => ∃ a p, ∃ ys : List Str, x = .str a ∧ xs = [.ref p] ∧ (SqL K H p (ys.map V.str) ∨ SqT K H p (ys.map V.str)) ∧ (ys.map (·.length)).sum + ys.length * a.length ≤ 16777216 ∧ Q (.str (Txt.join a ys)) H) to te) σ G (.str (Txt.join a ys)) := fun G1 M H e A Q q => by
  refine ho G1 M H e A _ fun v G2 H2 e2 A2 r => ⟨⟨a, r⟩, ?_⟩
  refine h G2 M H2 (e.trans e2) A2 _ fun v3 G3 H3 e3 A3 r3 => ?_
  obtain ⟨p, rfl, hp⟩ := r3.ls
  exact ⟨a, p, ys, r, rfl, .inl (SqL.of (A3.g _ _ hp)), hz, (q.mono (e2.trans e3)).here A3 rfl⟩
theorem d_split {to : TE} {a b : Str} (ho : TrD K to σ G (.str a)) (h : TrD K te σ G (.str b)) (hb : (b.length == 0) = false) (hz : a.length + 2 ≤ sizeLine) :
    TrD K (tM1 (fun x xs H Q => ∃ a b, x = .str a ∧ xs = [.str b] ∧ (b.length == 0) = false ∧ a.length + 2 ≤ sizeLine ∧ rNewStrs (Txt.split a b) H Q) to te) σ G (.list (dStrs (Txt.split a b))) := fun G1 M H e A Q q => by
  refine ho G1 M H e A _ fun v G2 H2 e2 A2 r => ⟨⟨a, r⟩, ?_⟩
  refine h G2 M H2 (e.trans e2) A2 _ fun v3 G3 H3 e3 A3 r3 => ?_
  refine ⟨a, b, r, by rw [show v3 = V.str b from r3], hb, hz, fun p hp => ?_⟩
  exact (q.mono (e2.trans e3)).newG A3 hp ⟨p, _, rfl, upd_same, (rpL_strs _).mpr rfl⟩
theorem rd_inSign {c : Nat} {z : Str} : RD K (fun x y H Q => ∃ (c : Nat) (z : Str), x = .str ⟨#[c]⟩ ∧ y = .str z ∧ Q (.bl (decide (c ∈ z.cps.toList))) H) (.str ⟨#[c]⟩) (.str z) (.bool (decide (c ∈ z.cps.toList))) :=
  fun G M H v u A h1 h2 Q q => ⟨c, z, h1, h2, q.here A rfl⟩
theorem rd_ltS {x y : Str} : RD K (fun x y H Q => ∃ i j, x = .str i ∧ y = .str j ∧ Q (.bl (decide (i.cps.toList < j.cps.toList))) H) (.str x) (.str y) (.bool (decide (x.cps.toList < y.cps.toList))) :=
  fun G M H v u A h1 h2 Q q => ⟨x, y, h1, h2, q.here A rfl⟩
def flatD : PyData → V
  | .bool b => .bl b
  | .int i => .int i
  | .str x => .str x
  | _ => .non
def isFlat : PyData → Bool
  | .none => true
  | .bool _ => true
  | .int _ => true
  | .str _ => true
  | _ => false
theorem rp_flat {v : V} (hf : isFlat d = true) (h : Rp K G d v) : v = flatD d ∧ flatV v = true := by
  cases d with
  | none => rw [show v = V.non from h]; exact ⟨rfl, rfl⟩
  | bool b => rw [show v = V.bl b from h]; exact ⟨rfl, rfl⟩
  | int b => rw [show v = V.int b from h]; exact ⟨rfl, rfl⟩
  | str b => rw [show v = V.str b from h]; exact ⟨rfl, rfl⟩
  | list ds => cases hf
  | dict ds => cases hf
  | tuple ds => cases hf
theorem rpL_flat : ∀ {ds : List PyData} {xs : List V}, ds.all isFlat = true → RpL K G ds xs → xs = ds.map flatD ∧ xs.all flatV = true
  | [], xs, _, h => by rw [show xs = [] from h]; exact ⟨rfl, rfl⟩
  | d :: ds, xs, hf, ⟨x, r, h1, h2, h3⟩ => by
    have hf' : isFlat d = true ∧ ds.all isFlat = true := by simpa using hf
    obtain ⟨e1, e2⟩ := rp_flat hf'.1 h2
    obtain ⟨e3, e4⟩ := rpL_flat hf'.2 h3
    rw [h1, e1, e3]
    rw [e1] at e2
    rw [e3] at e4
    refine ⟨rfl, ?_⟩
    rw [List.all_cons, e2, e4]
    rfl
def inD (d : PyData) (ds : List PyData) : Bool := inV (flatD d) (ds.map flatD)
theorem rd_inT {neg : Bool} (hf : isFlat d = true) (hs : ds.all isFlat = true) : RD K (rIn K neg) d (.tuple ds) (.bool (if neg then !inD d ds else inD d ds)) := fun G M H x y A h1 ⟨a, xs, k1, k2, k3⟩ Q q => by
  obtain ⟨e1, e2⟩ := rp_flat hf h1
  obtain ⟨e3, e4⟩ := rpL_flat hs k3
  refine ⟨a, xs, k1, .inr (A.g.stt k2), e2, e4, q.here A ?_⟩
  rw [e1, e3]
  rfl
theorem rd_inL {neg : Bool} (hf : isFlat d = true) (hs : ds.all isFlat = true) : RD K (rIn K neg) d (.list ds) (.bool (if neg then !inD d ds else inD d ds)) := fun G M H x y A h1 ⟨a, xs, k1, k2, k3⟩ Q q => by
  obtain ⟨e1, e2⟩ := rp_flat hf h1
  obtain ⟨e3, e4⟩ := rpL_flat hs k3
  refine ⟨a, xs, k1, .inl (SqL.of (A.g _ _ k2)), e2, e4, q.here A ?_⟩
  rw [e1, e3]
  rfl
end
end Sb

namespace Sb
open PySem PySem.Spec PyProof.Rows L2
section
variable {K : PySem.W.Frag} {σ : L2.St} {G G' M H : Hp} {ta tb te : TE} {d d1 d2 d3 : PyData} {tt t u : TT} {ts : TA} {ds es : List PyData} {Q : VK} {D : Ends} {s1 s2 : TS}
theorem s_seq (h : s1 { D with nx := s2 D } σ H) : tSeq s1 s2 D σ H := h
theorem s_next (h : D.nx σ H) : tNext D σ H := h
def isNoneD : PyData → Bool
  | .none => true
  | _ => false
theorem rd_isN : RD K (fun x y H Q => y = V.non ∧ Q (V.bl (decide (x = V.non))) H) d .none (.bool (isNoneD d)) := fun G M H x y A h1 h2 Q q => by
  refine ⟨h2, q.here A ?_⟩
  cases d with
  | none => rw [show x = V.non from h1]; rfl
  | bool b => rw [show x = V.bl b from h1]; rfl
  | int b => rw [show x = V.int b from h1]; rfl
  | str b => rw [show x = V.str b from h1]; rfl
  | list ds => obtain ⟨a, xs, rfl, _⟩ := h1; rfl
  | dict ds => obtain ⟨a, xs, rfl, _⟩ := h1; rfl
  | tuple ds => obtain ⟨a, xs, rfl, _⟩ := h1; rfl
theorem v_andT (h1 : TrD K ta σ G (.bool true)) (h2 : TrD K tb σ G d) : TrD K (tAndV ta tb) σ G d := fun G1 M H e A Q q => by
  refine h1 G1 M H e A _ fun v G2 H2 e2 A2 r => ?_
  exact ⟨true, r, h2 G2 M H2 (e.trans e2) A2 Q (q.mono e2)⟩
theorem v_andF (h1 : TrD K ta σ G (.bool false)) : TrD K (tAndV ta tb) σ G (.bool false) := fun G1 M H e A Q q => by
  refine h1 G1 M H e A _ fun v G2 H2 e2 A2 r => ?_
  exact ⟨false, r, (q.mono e2).here A2 rfl⟩
theorem v_orF (h1 : TrD K ta σ G (.bool false)) (h2 : TrD K tb σ G d) : TrD K (tOrV ta tb) σ G d := fun G1 M H e A Q q => by
  refine h1 G1 M H e A _ fun v G2 H2 e2 A2 r => ?_
  exact ⟨false, r, h2 G2 M H2 (e.trans e2) A2 Q (q.mono e2)⟩
theorem v_orT (h1 : TrD K ta σ G (.bool true)) : TrD K (tOrV ta tb) σ G (.bool true) := fun G1 M H e A Q q => by
  refine h1 G1 M H e A _ fun v G2 H2 e2 A2 r => ?_
  exact ⟨true, r, (q.mono e2).here A2 rfl⟩
theorem b_orT (h1 : TrB t σ G true) : TrB (tOr t u) σ G true := fun G1 M H e A Q q => h1 G1 M H e A _ q
theorem b_orF {b : Bool} (h1 : TrB t σ G false) (h2 : TrB u σ G b) : TrB (tOr t u) σ G b := fun G1 M H e A Q q =>
  h1 G1 M H e A _ fun G2 H2 e2 A2 => h2 G2 M H2 (e.trans e2) A2 _ fun G3 H3 e3 A3 => q G3 H3 (e2.trans e3) A3
theorem b_andF (h1 : TrB t σ G false) : TrB (tAnd t u) σ G false := fun G1 M H e A Q q => h1 G1 M H e A _ q
theorem b_andT {b : Bool} (h1 : TrB t σ G true) (h2 : TrB u σ G b) : TrB (tAnd t u) σ G b := fun G1 M H e A Q q =>
  h1 G1 M H e A _ fun G2 H2 e2 A2 => h2 G2 M H2 (e.trans e2) A2 _ fun G3 H3 e3 A3 => q G3 H3 (e2.trans e3) A3
/-! chains -/
theorem d_chain {r r' : R2} {tc : TE} {x y z : PyData} {a b : Bool} (ha : TrD K ta σ G x) (hb : TrD K tb σ G y) (hr : RD K r x y (.bool a)) (hc : a = true → TrD K tc σ G z) (hr' : a = true → RD K r' y z (.bool b)) : TrD K (tChain r r' ta tb tc) σ G (.bool (a && b)) := fun G1 M H e A Q q => by
  refine ha G1 M H e A _ fun v G2 H2 e2 A2 r2 => ?_
  refine hb G2 M H2 (e.trans e2) A2 _ fun w G3 H3 e3 A3 r3 => ?_
  refine hr G3 M H3 v w A3 (r2.up e3) r3 _ fun k G4 H4 e4 A4 r4 => ⟨a, r4, ?_⟩
  cases a with
  | false => exact (q.mono ((e2.trans e3).trans e4)).here A4 rfl
  | true =>
    refine hc rfl G4 M H4 (((e.trans e2).trans e3).trans e4) A4 _ fun k5 G5 H5 e5 A5 r5 => ?_
    exact hr' rfl G5 M H5 _ _ A5 (r3.up (e4.trans e5)) r5 Q (q.mono (((e2.trans e3).trans e4).trans e5))
/-! dicts whose keys are texts -/
def keysD (kvs : List (Str × PyData)) : List (PyData × PyData) := kvs.map fun p => (.str p.1, p.2)
theorem RpD.keys : ∀ {kvs : List (Str × PyData)} {xs : List (Key × V)}, RpD K G (keysD kvs) xs → xs.map (·.1) = (kvs.map (·.1)).map Sum.inr
  | [], xs, h => by rw [show xs = [] from h]; rfl
  | (k, d) :: r, _, ⟨x, y, t, h1, h2, _, h3⟩ => by
    rw [h1, List.map_cons, List.map_cons, List.map_cons, RpD.keys h3]
    cases x with
    | inl i => cases h2
    | inr z =>
      have e : z = k := by simpa [kD] using h2
      rw [e]
def lookD (kvs : List (Str × PyData)) (x : Str) : Option PyData := (kvs.find? fun p => decide (p.1 = x)).map (·.2)
theorem RpD.val {x : Str} : ∀ {kvs : List (Str × PyData)} {xs : List (Key × V)}, RpD K G (keysD kvs) xs → (∀ d, lookD kvs x = some d → ∃ v, valV xs (Sum.inr x) = some v ∧ Rp K G d v) ∧ (lookD kvs x = none → valV xs (Sum.inr x) = none)
  | [], xs, h => by
    rw [show xs = [] from h]
    exact ⟨fun d z => by simp [lookD] at z, fun _ => rfl⟩
  | (k, d) :: r, _, ⟨z, y, t, h1, h2, h4, h3⟩ => by
    rw [h1]
    have ih := RpD.val (x := x) h3
    cases z with
    | inl i => cases h2
    | inr w =>
      have e : w = k := by simpa [kD] using h2
      subst e
      unfold lookD valV at ih ⊢
      simp only [List.find?_cons]
      rw [key_rr]
      by_cases q : w = x
      · subst q
        simp only [decide_true, Option.map_some]
        exact ⟨fun d' z => ⟨y, rfl, by cases z; exact h4⟩, fun z => by cases z⟩
      · simp only [decide_eq_false q]
        exact ih
theorem d_dget {x : Str} {kvs : List (Str × PyData)} {tx : TE} (h : TrD K te σ G (.dict (keysD kvs))) (hx : TrD K tx σ G (.str x)) (hl : lookD kvs x = some d) : TrD K (tDGet te tx) σ G d := fun G1 M H e A Q q => by
  refine h G1 M H e A _ fun v G2 H2 e2 A2 r => ?_
  refine hx G2 M H2 (e.trans e2) A2 _ fun w G3 H3 e3 A3 r3 => ?_
  obtain ⟨a, xs, rfl, k1, k2⟩ := r.up e3
  obtain ⟨z, e4, r4⟩ := (RpD.val k2).1 d hl
  refine ⟨a, z, rfl, ?_, (q.mono (e2.trans e3)).here A3 r4⟩
  rw [← e4, show w = kV (Sum.inr x) from r3]
  exact DGet.k (A3.g _ _ k1)
theorem b_din {x : Str} {kvs : List (Str × PyData)} {tx : TE} (hx : TrD K tx σ G (.str x)) (h : TrD K te σ G (.dict (keysD kvs))) : TrB (tB (tDIn tx te)) σ G (lookD kvs x).isSome := fun G1 M H e A Q q => by
  refine hx G1 M H e A _ fun w G2 H2 e2 A2 r2 => ?_
  refine h G2 M H2 (e.trans e2) A2 _ fun v G3 H3 e3 A3 r3 => ?_
  obtain ⟨a, xs, rfl, k1, k2⟩ := r3
  have hv := RpD.val (x := x) k2
  refine ⟨a, valV xs (Sum.inr x), rfl, ?_, (lookD kvs x).isSome, ?_, q G3 H3 (e2.trans e3) A3⟩
  · rw [show w = kV (Sum.inr x) from r2]
    exact DGet.k (A3.g _ _ k1)
  · cases z : lookD kvs x with
    | none => rw [hv.2 z]; rfl
    | some d =>
      obtain ⟨y, e4, _⟩ := hv.1 d z
      rw [e4]
      rfl
theorem v_din {x : Str} {kvs : List (Str × PyData)} {tx : TE} (hx : TrD K tx σ G (.str x)) (h : TrD K te σ G (.dict (keysD kvs))) : TrD K (tDIn tx te) σ G (.bool (lookD kvs x).isSome) := fun G1 M H e A Q q => by
  have z := b_din hx h G1 M H e A (fun b H => Q (.bl b) H) fun G' H' e' A' => (q.mono e').here A' rfl
  refine hx G1 M H e A _ fun w G2 H2 e2 A2 r2 => ?_
  refine h G2 M H2 (e.trans e2) A2 _ fun v G3 H3 e3 A3 r3 => ?_
  obtain ⟨a, xs, rfl, k1, k2⟩ := r3
  have hv := RpD.val (x := x) k2
  refine ⟨a, valV xs (Sum.inr x), rfl, ?_, (q.mono (e2.trans e3)).here A3 ?_⟩
  · rw [show w = kV (Sum.inr x) from r2]
    exact DGet.k (A3.g _ _ k1)
  · show V.bl _ = V.bl _
    cases z : lookD kvs x with
    | none => rw [hv.2 z]; rfl
    | some d =>
      obtain ⟨y, e4, _⟩ := hv.1 d z
      rw [e4]
      rfl
theorem v_dnin {x : Str} {kvs : List (Str × PyData)} {tx : TE} (hx : TrD K tx σ G (.str x)) (h : TrD K te σ G (.dict (keysD kvs))) : TrD K (tDNotIn tx te) σ G (.bool (!(lookD kvs x).isSome)) := fun G1 M H e A Q q => by
  refine hx G1 M H e A _ fun w G2 H2 e2 A2 r2 => ?_
  refine h G2 M H2 (e.trans e2) A2 _ fun v G3 H3 e3 A3 r3 => ?_
  obtain ⟨a, xs, rfl, k1, k2⟩ := r3
  have hv := RpD.val (x := x) k2
  refine ⟨a, valV xs (Sum.inr x), rfl, ?_, (q.mono (e2.trans e3)).here A3 ?_⟩
  · rw [show w = kV (Sum.inr x) from r2]
    exact DGet.k (A3.g _ _ k1)
  · show V.bl _ = V.bl _
    cases z : lookD kvs x with
    | none => rw [hv.2 z]; rfl
    | some d =>
      obtain ⟨y, e4, _⟩ := hv.1 d z
      rw [e4]
      rfl
/-! sorted texts -/
def leS (x y : Str) : Bool := decide (x.cps.toList ≤ y.cps.toList)
def srt (ss : List Str) : List Str := ss.mergeSort leS
theorem leS_trans (a b c : Str) (h1 : leS a b = true) (h2 : leS b c = true) : leS a c = true := decide_eq_true (List.le_trans (of_decide_eq_true h1) (of_decide_eq_true h2))
theorem leS_total (a b : Str) : (leS a b || leS b a) = true := by
  rcases List.le_total a.cps.toList b.cps.toList with h | h
  · rw [show leS a b = true from decide_eq_true h]; rfl
  · rw [show leS b a = true from decide_eq_true h, Bool.or_true]
theorem str_ext {a b : Str} (h : a.cps.toList = b.cps.toList) : a = b := by
  cases a
  cases b
  simp only [Str.mk.injEq]
  exact Array.toList_inj.mp h
theorem leS_anti {a b : Str} (h1 : leS a b = true) (h2 : leS b a = true) : a = b := str_ext (List.le_antisymm (of_decide_eq_true h1) (of_decide_eq_true h2))
theorem srt_perm (ss : List Str) : (srt ss).Perm ss := List.mergeSort_perm ss leS
theorem srt_pw (ss : List Str) : (srt ss).Pairwise fun a b => leS a b = true := List.pairwise_mergeSort leS_trans leS_total ss
theorem rising_pw : ∀ (r : List Str) (p : Str), risingS p r = true → (p :: r).Pairwise fun a b => leS a b = true
  | [], p, _ => List.pairwise_singleton _ _
  | x :: r, p, h => by
    have h' : (!ltCps x.cps.toList p.cps.toList && risingS x r) = true := h
    obtain ⟨h1, h2⟩ := Bool.and_eq_true_iff.mp h'
    have ih := rising_pw r x h2
    have px : leS p x = true := by
      rw [ltCps_eq] at h1
      have h3 : ¬ x.cps.toList < p.cps.toList := by simpa using h1
      exact decide_eq_true (List.not_lt.mp h3)
    refine List.pairwise_cons.mpr ⟨fun y hy => ?_, ih⟩
    rcases List.mem_cons.mp hy with rfl | hy
    · exact px
    · exact leS_trans _ _ _ px ((List.pairwise_cons.mp ih).1 y hy)
theorem sorted_pw (ss : List Str) (h : sortedS ss = true) : ss.Pairwise fun a b => leS a b = true := by
  cases ss with
  | nil => exact .nil
  | cons x r => exact rising_pw r x h
theorem srt_of {ys ss : List Str} (p : ys.Perm ss) (h : sortedS ys = true) : ys = srt ss :=
  List.Perm.eq_of_pairwise (fun a b _ _ => leS_anti) (sorted_pw ys h) (srt_pw ss) (p.trans (srt_perm ss).symm)
theorem srt_congr {xs ys : List Str} (p : xs.Perm ys) : srt xs = srt ys :=
  List.Perm.eq_of_pairwise (fun a b _ _ => leS_anti) (srt_pw xs) (srt_pw ys) ((srt_perm xs).trans (p.trans (srt_perm ys).symm))
theorem srt_id {xs : List Str} (p : xs.Pairwise fun a b => leS a b = true) : srt xs = xs :=
  List.Perm.eq_of_pairwise (fun a b _ _ => leS_anti) (srt_pw xs) p (srt_perm xs)
def rSortD : List V → Hp → VK → Prop := fun xs H Q => ∃ (a : Addr) (kvs : List (Key × V)) (ks : List Str), xs = [.ref a] ∧ Rd H a (.dK kvs) ∧ kvs.map (·.1) = ks.map Sum.inr ∧ ks.length < 64 ∧
    ∀ ys p, ys.Perm ks → sortedS ys = true → H p = none → Q (.ref p) (upd H p (.lst (ys.map V.str)))
theorem call_sortedD' {X : Cx} (hc : X.calm = true) : CallR X (.builtin "sorted") rSortD := call_sortedD hc
theorem rc_sortD {kvs : List (Str × PyData)} (hn : kvs.length < 64) : RC K rSortD [.dict (keysD kvs)] (.list (dStrs (srt (kvs.map (·.1))))) := fun G M H xs A ⟨x, r, e, ⟨a, ys, h1, h2, h3⟩, h'⟩ Q q => by
  rw [e, show r = [] from h', h1]
  refine ⟨a, ys, kvs.map (·.1), rfl, .inl (A.g _ _ h2), h3.keys, by rw [List.length_map]; exact hn, fun zs p pm so hp => ?_⟩
  rw [srt_of pm so]
  exact q.newG A hp ⟨p, _, rfl, upd_same, (rpL_strs _).mpr rfl⟩
/-! [e for k in d], d a dict: the element and the test look at the key alone -/
theorem d_lcK {tt : TT} {i j : Nat} {v : V} {kvs : List (Str × PyData)} {p : Str → Bool} {f : Str → PyData} (hv : σ[j]? = some (some v)) (hd : Rp K G (.dict (keysD kvs)) v) (hn : kvs.length < 100000)
    (hw : (wipe σ [i])[j]? = some (some v))
    (ht : ∀ k, k ∈ kvs.map (·.1) → ∀ G1, TrB tt ((wipe σ [i]).set i (some (V.str k))) G1 (p k))
    (he : ∀ k, k ∈ kvs.map (·.1) → ∀ G1, TrD K te ((wipe σ [i]).set i (some (V.str k))) G1 (f k)) :
    TrD K (tLockE (tLc (iKeys (tVar j)) (gName i) tt te [i])) σ G (.list (((kvs.map (·.1)).filter p).map f)) := fun G1 M H e A Q q => by
  obtain ⟨a, xs, rfl, k1, k2⟩ := hd.up e
  have hH := A.g _ _ k1
  refine ⟨a, .dK xs, hH, trivial, fun od => ?_⟩
  -- within: the dict is locked, all the rest of G stands
  have A0 : At (fun b => if b = a then none else G1 b) (upd M a (.frz od (.dK xs))) (upd H a (.frz od (.dK xs))) := by
    have hMa : M a = none := by
      cases z : M a with
      | none => rfl
      | some o =>
        rw [A.d _ _ z] at k1
        cases k1
    refine ⟨fun b o z => ?_, fun b o z => ?_, fun b o z => ?_⟩
    · by_cases hb : b = a
      · rw [if_pos hb] at z; cases z
      · rw [if_neg hb] at z
        rw [upd_ne hb]
        exact A.g _ _ z
    · by_cases hb : b = a
      · subst hb
        rw [upd_same] at z ⊢
        exact z
      · rw [upd_ne hb] at z ⊢
        exact A.m _ _ z
    · by_cases hb : b = a
      · exact if_pos hb
      · rw [if_neg hb]
        rw [upd_ne hb] at z
        exact A.d _ _ z
  have hMa : M a = none := by
    cases z : M a with
    | none => rfl
    | some o =>
      rw [A.d _ _ z] at k1
      cases k1
  generalize hM1 : upd M a (.frz od (.dK xs)) = M1 at A0
  generalize hG0 : (fun b => if b = a then none else G1 b : Hp) = G0 at A0
  have hMla : M1 a = some (.frz od (.dK xs)) := by rw [← hM1]; exact upd_same
  refine ⟨.ref a, hv, a, od, rfl, .inl ⟨xs, upd_same, fun D hD => ?_⟩⟩
  have hDa : D ≠ a := fun z => by
    subst z
    rw [upd_same] at hD
    cases hD
  have keys := k2.keys
  refine ⟨fun t m H3 => m = xs.length - t ∧ t ≤ xs.length ∧ ∃ Gj acc, Ex G0 Gj ∧ At Gj (upd M1 D (.lst acc)) H3 ∧ RpL K Gj ((((kvs.map (·.1)).take t).filter p).map f) acc, ⟨xs.length, by simp, Nat.zero_le _, G0, [], Ex.refl _, A0.nm hD, rfl⟩, ?_⟩
  rintro t m H3 ⟨rfl, ht', Gj, acc, ej, Aj, rj⟩
  have hfr : H3 a = some (.frz od (.dK xs)) := Aj.m _ _ (by rw [upd_ne hDa.symm]; exact hMla)
  by_cases hlt : t < xs.length
  · refine .inr ⟨⟨hfr, hlt⟩, fun H4 => ∃ Gj acc, Ex G0 Gj ∧ At Gj (upd M1 D (.lst acc)) H4 ∧ RpL K Gj ((((kvs.map (·.1)).take (t + 1)).filter p).map f) acc, fun H4 z => ⟨xs.length - (t + 1), by omega, rfl, hlt, z⟩, ?_⟩
    rintro x H4 ⟨rfl, k, w, hk, rfl⟩
    have hk2 : (xs.map (·.1))[t]? = some k := by rw [List.getElem?_map, hk]; rfl
    rw [keys, List.getElem?_map] at hk2
    obtain ⟨kk, hk3, rfl⟩ : ∃ kk, (kvs.map (·.1))[t]? = some kk ∧ k = Sum.inr kk := by
      cases z : (kvs.map (·.1))[t]? with
      | none => rw [z] at hk2; cases hk2
      | some kk => rw [z] at hk2; exact ⟨kk, rfl, (Option.some.inj hk2).symm⟩
    have hm := List.mem_of_getElem? hk3
    have htk : (kvs.map (·.1)).take (t + 1) = (kvs.map (·.1)).take t ++ [kk] := by rw [List.take_add_one, hk3]; rfl
    show wipe _ _ = wipe _ _ ∧ _
    refine ⟨wipe_set, ?_⟩
    refine ht kk hm Gj Gj _ H4 (Ex.refl _) Aj _ fun G4 H4 e4 A4 => ?_
    cases hp : p kk with
    | false =>
      refine ⟨G4, acc, ej.trans e4, A4, ?_⟩
      rw [htk, List.filter_append, List.filter_cons, hp]
      simpa using rj.up e4
    | true =>
      refine he kk hm G4 G4 _ H4 (Ex.refl _) A4 _ fun v5 G5 H5 e5 A5 r5 => ?_
      refine ⟨acc, A5.m _ _ upd_same, ?_, G5, acc ++ [v5], ej.trans (e4.trans e5), ?_, ?_⟩
      · rw [rj.len, List.length_map]
        refine sz_lt (Nat.lt_of_le_of_lt (Nat.le_trans (List.length_filter_le _ _) ?_) hn)
        rw [List.length_take, List.length_map]
        exact Nat.min_le_right _ _
      · have z := A5.wr (o := .lst (acc ++ [v5])) (upd_same (H := M1) (a := D) (o := .lst acc))
        rw [upd_upd] at z
        exact z
      · rw [htk, List.filter_append, List.filter_cons, hp, List.map_append]
        exact (rj.up (e4.trans e5)).snoc r5
  · have e1 : t = xs.length := by omega
    subst e1
    have hl2 : (kvs.map (·.1)).take xs.length = kvs.map (·.1) := by
      have z := congrArg List.length keys
      simp only [List.length_map] at z
      rw [z]
      exact List.take_of_length_le (by rw [List.length_map]; exact Nat.le_refl _)
    rw [hl2] at rj
    refine .inl ⟨⟨hfr, Nat.le_refl _⟩, hfr, ?_⟩
    have hDM : M D = none := by
      have z := hD
      rw [upd_ne hDa] at z
      exact A.mNone z
    have hGD : G1 D = none := by
      have z := hD
      rw [upd_ne hDa] at z
      exact A.gNone z
    have hGjD : Gj D = none := Aj.d _ _ upd_same
    have hGja : Gj a = none := Aj.d _ _ (by rw [upd_ne hDa.symm]; exact hMla)
    -- behind: the dict and the new list belong to G again
    refine q (.ref D) (upd (upd Gj a (.dK xs)) D (.lst acc)) _ (fun b o z => ?_) ⟨fun b o z => ?_, fun b o z => ?_, fun b o z => ?_⟩ ⟨D, acc, rfl, upd_same, rj.up (Ex.trans (Ex.new hGja) (Ex.new (none_upd hGjD hDa)))⟩
    · have hb : b ≠ D := fun y => by
        subst y
        rw [hGD] at z
        cases z
      rw [upd_ne hb]
      by_cases ha : b = a
      · subst ha
        rw [upd_same]
        rw [k1] at z
        exact z
      · rw [upd_ne ha]
        refine ej _ _ ?_
        rw [← hG0]
        show (if b = a then none else G1 b) = some o
        rw [if_neg ha]
        exact z
    · by_cases hb : b = D
      · subst hb
        rw [upd_same] at z
        rw [upd_ne hDa]
        cases z
        exact Aj.m _ _ upd_same
      · rw [upd_ne hb] at z
        by_cases ha : b = a
        · subst ha
          rw [upd_same] at z ⊢
          exact z
        · rw [upd_ne ha] at z ⊢
          exact Aj.g _ _ z
    · have hb : b ≠ a := fun y => by
        subst y
        rw [hMa] at z
        cases z
      have hb2 : b ≠ D := fun y => by
        subst y
        rw [hDM] at z
        cases z
      rw [upd_ne hb]
      refine Aj.m _ _ ?_
      rw [upd_ne hb2, ← hM1, upd_ne hb]
      exact z
    · have hb : b ≠ a := fun y => by
        subst y
        rw [hMa] at z
        cases z
      have hb2 : b ≠ D := fun y => by
        subst y
        rw [hDM] at z
        cases z
      rw [upd_ne hb2, upd_ne hb]
      refine Aj.d b o ?_
      rw [upd_ne hb2, ← hM1, upd_ne hb]
      exact z
end
end Sb

namespace Sb
open PySem PySem.Spec PyProof.Rows L2
section
variable {K : PySem.W.Frag} {σ : L2.St} {G G' M H : Hp} {ta tb te : TE} {d d1 d2 d3 : PyData} {tt t u : TT} {ts : TA} {ds es : List PyData} {Q : VK} {D : Ends} {s1 s2 : TS} {i j : Nat}
/-! ### statements over what is still written -/
theorem s_setK (h : TrD K (tLockE te) σ G d) (A : At G M H) (k : ∀ v G' H', Ex G G' → At G' M H' → Rp K G' d v → D.nx (σ.set i (some v)) H') : tLock (tAsg te (gName i)) D σ H := w_D h A k
theorem s_drop (h : TrD K te σ G d) (A : At G M H) (k : ∀ G' H', Ex G G' → At G' M H' → D.nx σ H') : tDrop te D σ H := w_D h A fun _ G' H' e A' _ => k G' H' e A'
/-- x = [..]: the new list is still to be written -/
theorem s_newL (h : TrA K ts σ G ds) (hn : ds.length ≤ 100000) (A : At G M H) (k : ∀ p xs G' H', Ex G G' → M p = none → G' p = none → At G' (upd M p (.lst xs)) H' → RpL K G' ds xs → D.nx (σ.set i (some (.ref p))) H') : tAsg (tLst ts) (gName i) D σ H := by
  refine w_A h A fun xs G2 H2 e2 A2 r => ?_
  exact ⟨by rw [r.len]; exact sz_of hn, fun p hp => k p xs G2 _ e2 (A2.mNone hp) (A2.gNone hp) (A2.nm hp) r⟩
theorem s_newD (A : At G M H) (k : ∀ p H', M p = none → G p = none → At G (upd M p (.dK [])) H' → D.nx (σ.set i (some (.ref p))) H') : tAsg tDNewK (gName i) D σ H := fun p hp => k p _ (A.mNone hp) (A.gNone hp) (A.nm hp)
theorem s_append {p : Addr} {xs : List V} (hi : σ[i]? = some (some (.ref p))) (hp : M p = some (.lst xs)) (h : TrD K te σ G d) (hn : xs.length < 100000) (A : At G M H)
    (k : ∀ v G' H', Ex G G' → At G' (upd M p (.lst (xs ++ [v]))) H' → Rp K G' d v → D.nx σ H') : tDrop (tBM K "list" rAppend (tVar i) (tCons te tNil)) D σ H := by
  refine ⟨.ref p, hi, Or.inl ⟨rfl, _, Or.inl (Or.inl (A.m _ _ hp))⟩, ?_⟩
  refine w_D h A fun v G2 H2 e2 A2 r => ?_
  exact ⟨p, xs, v, rfl, rfl, A2.m _ _ hp, sz_lt hn, k v G2 _ e2 (A2.wr hp) r⟩
/-- what is no longer written becomes data -/
theorem At.done {p : Addr} {xs : List V} (A : At G (upd M p (.lst xs)) H) (hM : M p = none) (r : RpL K G ds xs) : ∃ G', Ex G G' ∧ At G' M H ∧ Rp K G' (.list ds) (.ref p) :=
  have hm := upd_same (H := M) (a := p) (o := HO.lst xs)
  ⟨_, A.frzG hm, A.frz hm (Ex.new hM) hM, p, xs, rfl, upd_same, r.up (A.frzG hm)⟩
/-! ### loops that write nothing but their own names -/
theorem s_forE {tb : TS} (h : TrD K te σ G (.list ds)) (A : At G M H) (hs0 : ∃ a b, σ = (σ.set i a).set j b) (hij : i ≠ j)
    (hb : ∀ (k : Nat) d, ds[k]? = some d → ∀ x G1 H1, Ex G G1 → At G1 M H1 → Rp K G1 d x → ∀ Nx : L2.St → Hp → Prop, (∀ G2 H2, Ex G1 G2 → At G2 M H2 → Nx ((σ.set i (some (.int k))).set j (some x)) H2) →
      tb { D with nx := Nx, ct := Nx, bk := D.nx } ((σ.set i (some (.int k))).set j (some x)) H1)
    (hd : ∀ a b G1 H1, Ex G G1 → At G1 M H1 → D.nx ((σ.set i a).set j b) H1) :
    tFor (iEnum K (tCons te tNil)) (gTup K 2 (gCons (gName i) (gCons (gName j) gNil))) tb D σ H := by
  refine w_D h A fun v G2 H2 e2 A2 r => ?_
  obtain ⟨a, xs, rfl, k1, k2⟩ := r
  refine ⟨a, xs, rfl, SqL.of (A2.g _ _ k1), ?_⟩
  obtain ⟨a0, b0, h0⟩ := hs0
  refine ⟨fun t m σ' H' => m = xs.length - t ∧ t ≤ xs.length ∧ ∃ G3 a b, Ex G2 G3 ∧ At G3 M H' ∧ σ' = (σ.set i a).set j b, ⟨xs.length, by simp, Nat.zero_le _, G2, a0, b0, Ex.refl _, A2, h0⟩, ?_⟩
  rintro t m σ' H' ⟨rfl, ht, G3, a', b', e3, A3, rfl⟩
  have hsq : SqL K H' a xs := SqL.of (A3.g _ _ (e3 _ _ k1))
  by_cases hlt : t < xs.length
  · have hx : xs[t]? = some xs[t] := List.getElem?_eq_getElem hlt
    obtain ⟨d, hd1, rd⟩ := k2.get hx
    refine .inr ⟨⟨xs, xs[t], hsq, hx⟩, fun σ' H' => ∃ G3 a b, Ex G2 G3 ∧ At G3 M H' ∧ σ' = (σ.set i a).set j b, fun σ2 H3 z => ⟨xs.length - (t + 1), by omega, rfl, hlt, z⟩, ?_⟩
    rintro x H4 ⟨T, y, rfl, hT, rfl, hy⟩
    have ey : y = xs[t] := Option.some.inj ((hy xs hsq).symm.trans hx)
    subst ey
    have A4 := A3.ng (o := HO.tup [.int t, xs[t]]) hT
    have e4 : Ex G3 (upd G3 T (.tup [.int t, xs[t]])) := Ex.new (A3.gNone hT)
    refine ⟨T, [.int t, xs[t]], rfl, SqT.of upd_same, rfl, .int t, [xs[t]], rfl, xs[t], [], rfl, rfl, ?_⟩
    have es : (((σ.set i a').set j b').set i (some (V.int t))).set j (some xs[t]) = (σ.set i (some (V.int t))).set j (some xs[t]) := by
      rw [List.set_comm _ _ hij.symm, List.set_set, List.set_set]
    rw [es]
    refine hb t d hd1 _ _ _ ((e2.trans e3).trans e4) A4 (rd.up (e3.trans e4)) _ fun G5 H5 e5 A5 => ?_
    exact ⟨G5, _, _, (e3.trans e4).trans e5, A5, rfl⟩
  · refine .inl ⟨⟨xs, hsq, by omega⟩, ?_⟩
    exact hd a' b' G3 H' (e2.trans e3) A3
/-! ### a statement and what follows it -/
theorem q_set (h : TrD K te σ G d) (A : At G M H) (k : ∀ v G' H', Ex G G' → At G' M H' → Rp K G' d v → s2 D (σ.set i (some v)) H') : tSeq (tAsg te (gName i)) s2 D σ H := s_set h A k
theorem q_setK (h : TrD K (tLockE te) σ G d) (A : At G M H) (k : ∀ v G' H', Ex G G' → At G' M H' → Rp K G' d v → s2 D (σ.set i (some v)) H') : tSeq (tLock (tAsg te (gName i))) s2 D σ H := s_setK h A k
theorem q_drop (h : TrD K te σ G d) (A : At G M H) (k : ∀ G' H', Ex G G' → At G' M H' → s2 D σ H') : tSeq (tDrop te) s2 D σ H := s_drop h A k
theorem q_guardF {tc : TT} (h : TrB tc σ G false) (A : At G M H) (k : ∀ G' H', Ex G G' → At G' M H' → s2 D σ H') : tSeq (tIfS tc s1 tNext) s2 D σ H := s_ifF h A k
theorem q_guardT {tc : TT} {s3 : TS} (h : TrB tc σ G true) (A : At G M H) (k : ∀ G' H', Ex G G' → At G' M H' → s1 { D with nx := s2 D } σ H') : tSeq (tIfS tc s1 s3) s2 D σ H := s_ifT h A k
theorem q_guardR {tc : TT} (h : TrB tc σ G true) (A : At G M H) (k : ∀ G' H', Ex G G' → At G' M H' → tRet te D σ H') : tSeq (tIfS tc (tRet te) tNext) s2 D σ H := s_ifT h A k
theorem q_guardO {tc : TT} {s3 : TS} (h : TrB tc σ G false) (A : At G M H) (k : ∀ G' H', Ex G G' → At G' M H' → s3 { D with nx := s2 D } σ H') : tSeq (tIfS tc s1 s3) s2 D σ H := s_ifF h A k
theorem q_unpack {n : Nat} {g : TGs} (h : TrD K te σ G (.tuple ds)) (hn : ds.length = n) (A : At G M H) (k : ∀ xs G' H', Ex G G' → At G' M H' → RpL K G' ds xs → g xs σ H' (s2 D)) : tSeq (tAsg te (gTup K n g)) s2 D σ H :=
  w_D h A fun v G2 H2 e2 A2 r => g_tup A2 r hn fun xs rx => k xs G2 H2 e2 A2 rx
theorem q_newL (h : TrA K ts σ G ds) (hn : ds.length ≤ 100000) (A : At G M H) (k : ∀ p xs G' H', Ex G G' → M p = none → G' p = none → At G' (upd M p (.lst xs)) H' → RpL K G' ds xs → s2 D (σ.set i (some (.ref p))) H') : tSeq (tAsg (tLst ts) (gName i)) s2 D σ H := s_newL h hn A k
theorem q_newD (A : At G M H) (k : ∀ p H', M p = none → G p = none → At G (upd M p (.dK [])) H' → s2 D (σ.set i (some (.ref p))) H') : tSeq (tAsg tDNewK (gName i)) s2 D σ H := s_newD A k
theorem q_append {p : Addr} {xs : List V} (hi : σ[i]? = some (some (.ref p))) (hp : M p = some (.lst xs)) (h : TrD K te σ G d) (hn : xs.length < 100000) (A : At G M H)
    (k : ∀ v G' H', Ex G G' → At G' (upd M p (.lst (xs ++ [v]))) H' → Rp K G' d v → s2 D σ H') : tSeq (tDrop (tBM K "list" rAppend (tVar i) (tCons te tNil))) s2 D σ H := s_append hi hp h hn A k
theorem q_forE {tb : TS} (h : TrD K te σ G (.list ds)) (A : At G M H) (hs0 : ∃ a b, σ = (σ.set i a).set j b) (hij : i ≠ j)
    (hb : ∀ (k : Nat) d, ds[k]? = some d → ∀ x G1 H1, Ex G G1 → At G1 M H1 → Rp K G1 d x → ∀ Nx : L2.St → Hp → Prop, (∀ G2 H2, Ex G1 G2 → At G2 M H2 → Nx ((σ.set i (some (.int k))).set j (some x)) H2) →
      tb { D with nx := Nx, ct := Nx, bk := s2 D } ((σ.set i (some (.int k))).set j (some x)) H1)
    (hd : ∀ a b G1 H1, Ex G G1 → At G1 M H1 → s2 D ((σ.set i a).set j b) H1) :
    tSeq (tFor (iEnum K (tCons te tNil)) (gTup K 2 (gCons (gName i) (gCons (gName j) gNil))) tb) s2 D σ H := s_forE h A hs0 hij hb hd
/-! ### more data -/
theorem d_newD : TrD K tDNewK σ G (.dict (keysD [])) := fun G1 M H e A Q q p hp => q.newG A hp ⟨p, [], rfl, upd_same, rfl⟩
theorem keysD_len (kvs : List (Str × PyData)) : (keysD kvs).length = kvs.length := by simp [keysD]
theorem rd_eqE {kvs : List (Str × PyData)} : RD K rEqE (.dict (keysD kvs)) (.dict (keysD [])) (.bool kvs.isEmpty) := fun G M H x y A ⟨a, xs, h1, h2, h3⟩ ⟨b, ys, k1, k2, k3⟩ Q q => by
  refine ⟨a, b, xs, h1, k1, A.g _ _ h2, ?_, q.here A ?_⟩
  · have e : ys = [] := k3
    subst e
    exact A.g _ _ k2
  · show V.bl _ = V.bl _
    have z := h3.len
    rw [keysD_len] at z
    cases xs with
    | nil =>
      cases kvs with
      | nil => rfl
      | cons _ _ => simp at z
    | cons _ _ =>
      cases kvs with
      | nil => simp at z
      | cons _ _ => rfl
theorem v_call1 {R : List PyData → PyData → Prop} {E : XK} (h : TrD K ta σ G d1) (hr : R [d1] d) : TrD K (tCall (PSp K R) [] E (tCons ta tNil)) σ G d := d_call0 (a_cons h a_nil) hr
theorem filt_true {α : Type} (l : List α) : l.filter (fun _ => true) = l := List.filter_eq_self.mpr fun _ _ => rfl
theorem eqv_nil (ds : List PyData) : PyData.eqv (.list ds) (.list []) = ds.isEmpty := by
  cases ds <;> simp [PyData.eqv, PyData.eqvAll]
theorem eqv_nilT (ds : List PyData) : PyData.eqv (.tuple ds) (.tuple []) = ds.isEmpty := by
  cases ds <;> simp [PyData.eqv, PyData.eqvAll]
theorem shaped_ints (ns : List Int) : SeqAt.shaped (.tuple (dInts ns)) = true := by
  have h1 : ∀ ns : List Int, PyData.canLayAll0 (dInts ns) = true := fun ns => by
    induction ns with
    | nil => simp [dInts, PyData.canLayAll0]
    | cons n ns ih =>
      show PyData.canLayAll0 (.int n :: dInts ns) = true
      simp only [PyData.canLayAll0, PyData.canLay0, Bool.true_and]
      exact ih
  have h2 : ∀ ns : List Int, PyData.depthAll (dInts ns) = 0 := fun ns => by
    induction ns with
    | nil => simp [dInts, PyData.depthAll]
    | cons n ns ih =>
      show PyData.depthAll (.int n :: dInts ns) = 0
      simp only [PyData.depthAll, PyData.depth, Nat.zero_max]
      exact ih
  unfold SeqAt.shaped
  simp [PyData.canLay0, PyData.depth, h1, h2]
end
end Sb

namespace Sb
open PySem PySem.Spec PyProof.Rows L2
section
variable {K : PySem.W.Frag} {σ : L2.St} {G G' M H : Hp} {ta tb te td ty : TE} {d d1 d2 d3 : PyData} {tt t u : TT} {ts : TA} {ds es : List PyData} {Q : VK} {D : Ends} {s1 s2 tbd : TS} {i j : Nat} {p : Addr} {o : HO}
/-! ### a cell that is still written, looked at as data -/
def cutG (G : Hp) (p : Addr) : Hp := fun b => if b = p then none else G b
theorem At.fz (A : At G (upd M p o) H) (hM : M p = none) : At (upd G p o) M H := A.frz upd_same (Ex.new hM) hM
theorem At.thaw {G1 : Hp} (e : Ex (upd G p o) G1) (hG : G p = none) (hM : M p = none) (A : At G1 M H) : Ex G (cutG G1 p) ∧ At (cutG G1 p) (upd M p o) H := by
  have hp : G1 p = some o := e _ _ upd_same
  refine ⟨fun b u z => ?_, fun b u z => ?_, fun b u z => ?_, fun b u z => ?_⟩
  · have hb : b ≠ p := fun y => by
      subst y
      rw [hG] at z
      cases z
    show (if b = p then none else G1 b) = some u
    rw [if_neg hb]
    exact e _ _ (by rw [upd_ne hb]; exact z)
  · have z' : (if b = p then none else G1 b) = some u := z
    by_cases hb : b = p
    · rw [if_pos hb] at z'
      cases z'
    · rw [if_neg hb] at z'
      exact A.g _ _ z'
  · by_cases hb : b = p
    · subst hb
      rw [upd_same] at z
      cases z
      exact A.g _ _ hp
    · rw [upd_ne hb] at z
      exact A.m _ _ z
  · show (if b = p then none else G1 b) = none
    by_cases hb : b = p
    · exact if_pos hb
    · rw [if_neg hb]
      rw [upd_ne hb] at z
      exact A.d _ _ z
theorem rp_any {G1 G2 : Hp} {v : V} (hf : isFlat d = true) (h : Rp K G1 d v) : Rp K G2 d v := by
  cases d with
  | none => exact h
  | bool b => exact h
  | int b => exact h
  | str b => exact h
  | list ds => cases hf
  | dict ds => cases hf
  | tuple ds => cases hf
theorem w_Dfz (h : TrD K te σ (upd G p o) d) (hf : isFlat d = true) (hG : G p = none) (hM : M p = none) (A : At G (upd M p o) H) (k : Res K G (upd M p o) d Q) : te σ H Q := by
  refine w_D h (A.fz hM) fun v G1 H1 e1 A1 r1 => ?_
  obtain ⟨e2, A2⟩ := At.thaw e1 hG hM A1
  exact k v _ H1 e2 A2 (rp_any hf r1)
theorem w_Bfz {b : Bool} {Q : Bool → Hp → Prop} (h : TrB t σ (upd G p o) b) (hG : G p = none) (hM : M p = none) (A : At G (upd M p o) H) (k : ∀ G' H', Ex G G' → At G' (upd M p o) H' → Q b H') : t σ H Q := by
  refine w_B h (A.fz hM) fun G1 H1 e1 A1 => ?_
  obtain ⟨e2, A2⟩ := At.thaw e1 hG hM A1
  exact k _ H1 e2 A2
theorem q_guardFfz (h : TrB t σ (upd G p o) false) (hG : G p = none) (hM : M p = none) (A : At G (upd M p o) H) (k : ∀ G' H', Ex G G' → At G' (upd M p o) H' → s2 D σ H') : tSeq (tIfS t s1 tNext) s2 D σ H :=
  w_Bfz (Q := fun b H1 => if b = true then s1 { D with nx := s2 D } σ H1 else tNext { D with nx := s2 D } σ H1) h hG hM A k
/-! ### dicts that are written -/
theorem RpD.snoc : ∀ {ds : List (PyData × PyData)} {es : List (Key × V)} {k d : PyData} {x : Key} {v : V}, RpD K G ds es → kD x = k → Rp K G d v → RpD K G (ds ++ [(k, d)]) (es ++ [(x, v)])
  | [], es, k, d, x, v, h, hk, r => by
    rw [show es = [] from h]
    exact ⟨x, v, [], rfl, hk, r, rfl⟩
  | (k', d') :: ds, _, k, d, x, v, ⟨x', y', t, h1, h2, h3, h4⟩, hk, r => by
    rw [h1]
    exact ⟨x', y', _, rfl, h2, h3, h4.snoc hk r⟩
theorem s_dput {es : List (Key × V)} {x : Str} (hi : σ[i]? = some (some (.ref p))) (hp : M p = some (.dK es)) (hv : TrD K te σ G d) (hx : TrD K ty σ G (.str x)) (hn : es.length < 100000) (A : At G M H)
    (k : ∀ v G' H', Ex G G' → At G' (upd M p (.dK (putK es (Sum.inr x) v))) H' → Rp K G' d v → D.nx σ H') : sDPut (tVar i) ty te D σ H := by
  refine w_D hv A fun v G1 H1 e1 A1 r1 => ⟨.ref p, hi, ?_⟩
  refine w_D (hx.up e1) A1 fun y G2 H2 e2 A2 r2 => ?_
  refine ⟨p, _, rfl, ?_, k v G2 _ (e1.trans e2) (A2.wr hp) (r1.up e2)⟩
  rw [show y = kV (Sum.inr x) from r2]
  exact DPut.k (A2.m _ _ hp) (sz_lt hn)
/-! ### loops by an invariant over slots, G and M -/
theorem s_forEI (Inv : Nat → L2.St → Hp → Hp → Prop) (h : TrD K te σ G (.list ds)) (A : At G M H) (mono : ∀ {k : Nat} {σ1 : L2.St} {G1 G2 M1 : Hp}, Ex G1 G2 → Inv k σ1 G1 M1 → Inv k σ1 G2 M1)
    (h0 : Inv 0 σ G M)
    (hb : ∀ (k : Nat) d, ds[k]? = some d → ∀ x σ1 G1 M1 H1, Ex G G1 → At G1 M1 H1 → Inv k σ1 G1 M1 → Rp K G1 d x → ∀ Nx : L2.St → Hp → Prop, (∀ σ2 G2 M2 H2, Ex G1 G2 → At G2 M2 H2 → Inv (k + 1) σ2 G2 M2 → Nx σ2 H2) →
      tbd { D with nx := Nx, ct := Nx, bk := D.nx } ((σ1.set i (some (.int k))).set j (some x)) H1)
    (hd : ∀ σ1 G1 M1 H1, Ex G G1 → At G1 M1 H1 → Inv ds.length σ1 G1 M1 → D.nx σ1 H1) :
    tFor (iEnum K (tCons te tNil)) (gTup K 2 (gCons (gName i) (gCons (gName j) gNil))) tbd D σ H := by
  refine w_D h A fun v G2 H2 e2 A2 r => ?_
  obtain ⟨a, xs, rfl, k1, k2⟩ := r
  refine ⟨a, xs, rfl, SqL.of (A2.g _ _ k1), ?_⟩
  refine ⟨fun t m σ' H' => m = xs.length - t ∧ t ≤ xs.length ∧ ∃ G3 M3, Ex G2 G3 ∧ At G3 M3 H' ∧ Inv t σ' G3 M3, ⟨xs.length, by simp, Nat.zero_le _, G2, M, Ex.refl _, A2, mono e2 h0⟩, ?_⟩
  rintro t m σ' H' ⟨rfl, ht, G3, M3, e3, A3, hI⟩
  have hsq : SqL K H' a xs := SqL.of (A3.g _ _ (e3 _ _ k1))
  by_cases hlt : t < xs.length
  · have hx : xs[t]? = some xs[t] := List.getElem?_eq_getElem hlt
    obtain ⟨d, hd1, rd⟩ := k2.get hx
    refine .inr ⟨⟨xs, xs[t], hsq, hx⟩, fun σ' H' => ∃ G3 M3, Ex G2 G3 ∧ At G3 M3 H' ∧ Inv (t + 1) σ' G3 M3, fun σ2 H3 z => ⟨xs.length - (t + 1), by omega, rfl, hlt, z⟩, ?_⟩
    rintro x H4 ⟨T, y, rfl, hT, rfl, hy⟩
    have ey : y = xs[t] := Option.some.inj ((hy xs hsq).symm.trans hx)
    subst ey
    have A4 := A3.ng (o := HO.tup [.int t, xs[t]]) hT
    have e4 : Ex G3 (upd G3 T (.tup [.int t, xs[t]])) := Ex.new (A3.gNone hT)
    refine ⟨T, [.int t, xs[t]], rfl, SqT.of upd_same, rfl, .int t, [xs[t]], rfl, xs[t], [], rfl, rfl, ?_⟩
    refine hb t d hd1 _ _ _ _ _ ((e2.trans e3).trans e4) A4 (mono e4 hI) (rd.up (e3.trans e4)) _ fun σ5 G5 M5 H5 e5 A5 i5 => ?_
    exact ⟨G5, M5, (e3.trans e4).trans e5, A5, i5⟩
  · have et : t = ds.length := by have := k2.len; omega
    subst et
    refine .inl ⟨⟨xs, hsq, by omega⟩, ?_⟩
    exact hd σ' G3 M3 H' (e2.trans e3) A3 hI
theorem s_forLI (Inv : Nat → L2.St → Hp → Hp → Prop) (h : TrD K te σ G (.list ds)) (A : At G M H) (mono : ∀ {k : Nat} {σ1 : L2.St} {G1 G2 M1 : Hp}, Ex G1 G2 → Inv k σ1 G1 M1 → Inv k σ1 G2 M1)
    (h0 : Inv 0 σ G M)
    (hb : ∀ (k : Nat) d, ds[k]? = some d → ∀ x σ1 G1 M1 H1, Ex G G1 → At G1 M1 H1 → Inv k σ1 G1 M1 → Rp K G1 d x → ∀ Nx : L2.St → Hp → Prop, (∀ σ2 G2 M2 H2, Ex G1 G2 → At G2 M2 H2 → Inv (k + 1) σ2 G2 M2 → Nx σ2 H2) →
      tbd { D with nx := Nx, ct := Nx, bk := D.nx } (σ1.set i (some x)) H1)
    (hd : ∀ σ1 G1 M1 H1, Ex G G1 → At G1 M1 H1 → Inv ds.length σ1 G1 M1 → D.nx σ1 H1) :
    tFor (iList K te) (gName i) tbd D σ H := by
  refine w_D h A fun v G2 H2 e2 A2 r => ?_
  obtain ⟨a, xs, rfl, k1, k2⟩ := r
  refine ⟨a, rfl, ⟨xs, SqL.of (A2.g _ _ k1)⟩, ?_⟩
  refine for_list (K := K) (a := a) (xs := xs) (fun t σ' H' => ∃ G3 M3, Ex G2 G3 ∧ At G3 M3 H' ∧ Inv t σ' G3 M3) ⟨G2, M, Ex.refl _, A2, mono e2 h0⟩ ?_ ?_ ?_
  · rintro t σ' H' _ ⟨G3, M3, e3, A3, _⟩
    exact SqL.of (A3.g _ _ (e3 _ _ k1))
  · rintro t x σ' H' hx ⟨G3, M3, e3, A3, hI⟩
    obtain ⟨d, hd1, rd⟩ := k2.get hx
    exact hb t d hd1 _ _ _ _ _ (e2.trans e3) A3 hI (rd.up e3) _ fun σ5 G5 M5 H5 e5 A5 i5 => ⟨G5, M5, e3.trans e5, A5, i5⟩
  · rintro σ' H' ⟨G3, M3, e3, A3, hI⟩
    rw [k2.len] at hI
    exact hd σ' G3 M3 H' (e2.trans e3) A3 hI
theorem s_forRI (Inv : Nat → L2.St → Hp → Hp → Prop) {n : Int} (h : TrD K te σ G (.int n)) (hn : n < 2 ^ 62) (hn0 : -(2 ^ 62) ≤ n) (A : At G M H) (mono : ∀ {k : Nat} {σ1 : L2.St} {G1 G2 M1 : Hp}, Ex G1 G2 → Inv k σ1 G1 M1 → Inv k σ1 G2 M1)
    (h0 : Inv 0 σ G M)
    (hb : ∀ (k : Nat), (k : Int) < n → ∀ σ1 G1 M1 H1, Ex G G1 → At G1 M1 H1 → Inv k σ1 G1 M1 → ∀ Nx : L2.St → Hp → Prop, (∀ σ2 G2 M2 H2, Ex G1 G2 → At G2 M2 H2 → Inv (k + 1) σ2 G2 M2 → Nx σ2 H2) →
      tbd { D with nx := Nx, ct := Nx, bk := D.nx } (σ1.set i (some (.int k))) H1)
    (hd : ∀ σ1 G1 M1 H1, Ex G G1 → At G1 M1 H1 → Inv n.toNat σ1 G1 M1 → D.nx σ1 H1) :
    tFor (iRng1 (tCons te tNil)) (gName i) tbd D σ H := by
  refine w_D h A fun v G2 H2 e2 A2 r => ?_
  refine ⟨n, by rw [show v = V.int n from r], hn0, hn, ?_⟩
  refine for_range (lo := 0) (n := n.toNat) (fun t σ' H' => ∃ G3 M3, Ex G2 G3 ∧ At G3 M3 H' ∧ Inv t σ' G3 M3) ⟨G2, M, Ex.refl _, A2, mono e2 h0⟩ ?_ ?_
  · rintro t σ' H' hx ⟨G3, M3, e3, A3, hI⟩
    rw [Int.zero_add]
    exact hb t (by omega) _ _ _ _ (e2.trans e3) A3 hI _ fun σ5 G5 M5 H5 e5 A5 i5 => ⟨G5, M5, e3.trans e5, A5, i5⟩
  · rintro σ' H' ⟨G3, M3, e3, A3, hI⟩
    exact hd σ' G3 M3 H' (e2.trans e3) A3 hI
/-! ### dict comprehensions over data -/
theorem d_dcL {tl tk tv : TE} {p : PyData → Bool} {kf : PyData → Str} {f : PyData → PyData} (hl : TrD K te σ G (.list ds)) (hn : ds.length < 100000) (hnd : ((ds.filter p).map kf).Nodup)
    (ht : ∀ d ∈ ds, ∀ x G1, Ex G G1 → Rp K G1 d x → TrB tt ((wipe σ [i]).set i (some x)) G1 (p d))
    (hk : ∀ d ∈ ds, p d = true → ∀ x G1, Ex G G1 → Rp K G1 d x → TrD K tk ((wipe σ [i]).set i (some x)) G1 (.str (kf d)))
    (he : ∀ d ∈ ds, p d = true → ∀ x G1, Ex G G1 → Rp K G1 d x → TrD K tv ((wipe σ [i]).set i (some x)) G1 (f d)) :
    TrD K (tDc (iList K te) (gName i) tt tk tv [i]) σ G (.dict (keysD ((ds.filter p).map fun d => (kf d, f d)))) := fun G1 M H e A Q q => by
  refine hl G1 M H e A _ fun v G2 H2 e2 A2 r => ?_
  obtain ⟨a, xs, rfl, hs, hx⟩ := r
  refine ⟨a, rfl, ⟨xs, SqL.of (A2.g _ _ hs)⟩, fun D hD => ?_⟩
  refine ⟨fun t m H3 => m = xs.length - t ∧ t ≤ xs.length ∧ ∃ Gj acc, Ex G2 Gj ∧ At Gj (upd M D (.dK acc)) H3 ∧ RpD K Gj (keysD (((ds.take t).filter p).map fun d => (kf d, f d))) acc, ⟨xs.length, by simp, Nat.zero_le _, G2, [], Ex.refl _, A2.nm hD, rfl⟩, ?_⟩
  rintro t m H3 ⟨rfl, ht', Gj, acc, ej, Aj, rj⟩
  have hsq : SqL K H3 a xs := SqL.of (Aj.g _ _ (ej _ _ hs))
  by_cases hlt : t < xs.length
  · have hxt : xs[t]? = some xs[t] := List.getElem?_eq_getElem hlt
    obtain ⟨d, hd, rd⟩ := hx.get hxt
    have hm : d ∈ ds := List.mem_of_getElem? hd
    have htk : ds.take (t + 1) = ds.take t ++ [d] := by rw [List.take_add_one, hd]; rfl
    refine .inr ⟨⟨xs, xs[t], hsq, hxt⟩, fun H4 => ∃ Gj acc, Ex G2 Gj ∧ At Gj (upd M D (.dK acc)) H4 ∧ RpD K Gj (keysD (((ds.take (t + 1)).filter p).map fun d => (kf d, f d))) acc, fun H4 z => ⟨xs.length - (t + 1), by omega, rfl, hlt, z⟩, ?_⟩
    rintro y H4 ⟨e4', hy⟩
    subst e4'
    have ey : y = xs[t] := Option.some.inj ((hy xs hsq).symm.trans hxt)
    subst ey
    show wipe _ _ = wipe _ _ ∧ _
    refine ⟨wipe_set, ?_⟩
    refine ht d hm _ Gj ((e.trans e2).trans ej) (rd.up ej) Gj _ _ (Ex.refl _) Aj _ fun G4 H4 e4 A4 => ?_
    cases hp : p d with
    | false =>
      refine ⟨G4, acc, ej.trans e4, A4, ?_⟩
      rw [htk, List.filter_append, List.filter_cons, hp]
      simpa using rj.up e4
    | true =>
      refine hk d hm hp _ G4 ((e.trans e2).trans (ej.trans e4)) (rd.up (ej.trans e4)) G4 _ H4 (Ex.refl _) A4 _ fun v5 G5 H5 e5 A5 r5 => ?_
      refine he d hm hp _ G5 ((e.trans e2).trans ((ej.trans e4).trans e5)) (rd.up ((ej.trans e4).trans e5)) G5 _ H5 (Ex.refl _) A5 _ fun v6 G6 H6 e6 A6 r6 => ?_
      have hln : acc.length < 100000 := by
        rw [rj.len, keysD_len, List.length_map]
        refine Nat.lt_of_le_of_lt (Nat.le_trans (List.length_filter_le _ _) ?_) hn
        rw [List.length_take]
        exact Nat.min_le_right _ _
      have hfresh : valV acc (Sum.inr (kf d)) = none := by
        refine (RpD.val (x := kf d) rj).2 ?_
        unfold lookD
        rw [Option.map_eq_none_iff, List.find?_eq_none]
        intro q hq hqd
        obtain ⟨d2, hd2, rfl⟩ := List.mem_map.mp hq
        have hqe : kf d2 = kf d := of_decide_eq_true hqd
        have split : (ds.filter p).map kf = ((ds.take t).filter p).map kf ++ kf d :: ((ds.drop (t + 1)).filter p).map kf := by
          have e1 : ds = ds.take t ++ d :: ds.drop (t + 1) := by
            have z := List.take_append_drop (t + 1) ds
            rw [htk, List.append_assoc] at z
            exact z.symm
          conv => lhs; rw [e1]
          rw [List.filter_append, List.filter_cons, if_pos hp, List.map_append, List.map_cons]
        rw [split] at hnd
        have z := (List.nodup_append.mp hnd).2.2 (kf d2) (List.mem_map.mpr ⟨d2, hd2, rfl⟩) (kf d) (List.mem_cons_self ..)
        exact z hqe
      refine ⟨acc, Sum.inr (kf d), r5, A6.m _ _ upd_same, sz_lt hln, G6, acc ++ [(Sum.inr (kf d), v6)], ((ej.trans e4).trans e5).trans e6, ?_, ?_⟩
      · have z := A6.wr (o := .dK (putK acc (Sum.inr (kf d)) v6)) (upd_same (H := M) (a := D) (o := .dK acc))
        rw [upd_upd, putK_new _ hfresh] at z
        rw [putK_new _ hfresh]
        exact z
      · rw [htk, List.filter_append, List.filter_cons, hp, List.map_append]
        unfold keysD
        rw [List.map_append]
        exact (rj.up ((e4.trans e5).trans e6)).snoc rfl r6
  · have e1 : t = xs.length := by omega
    subst e1
    have hl2 : ds.take xs.length = ds := by rw [hx.len, List.take_length]
    rw [hl2] at rj
    have hM : M D = none := A2.mNone hD
    have hm := upd_same (H := M) (a := D) (o := HO.dK acc)
    exact .inl ⟨⟨xs, hsq, Nat.le_refl _⟩, q _ _ _ ((e2.trans ej).trans (Aj.frzG hm)) (Aj.frz hm (Ex.new hM) hM) ⟨D, acc, rfl, upd_same, rj.up (Aj.frzG hm)⟩⟩
/-- a dict that is no longer written -/
theorem At.doneD {es : List (Key × V)} {kvs : List (PyData × PyData)} (A : At G (upd M p (.dK es)) H) (hM : M p = none) (r : RpD K G kvs es) : ∃ G', Ex G G' ∧ At G' M H ∧ Rp K G' (.dict kvs) (.ref p) :=
  have hm := upd_same (H := M) (a := p) (o := HO.dK es)
  ⟨_, A.frzG hm, A.frz hm (Ex.new hM) hM, p, es, rfl, upd_same, r.up (A.frzG hm)⟩
theorem d_get2 {tx ty2 : TE} {x : Str} {kvs : List (Str × PyData)} (h : TrD K te σ G (.dict (keysD kvs))) (hx : TrD K tx σ G (.str x)) (hy : TrD K ty2 σ G d1) (hl : lookD kvs x = some d ∨ (lookD kvs x = none ∧ d = d1)) : TrD K (tDGet2 te tx ty2) σ G d := fun G1 M H e A Q q => by
  refine h G1 M H e A _ fun v G2 H2 e2 A2 r => ?_
  obtain ⟨a, xs, rfl, k1, k2⟩ := r
  refine ⟨a, rfl, .inl ⟨xs, .inl (A2.g _ _ k1)⟩, ?_⟩
  refine hx G2 M H2 (e.trans e2) A2 _ fun w G3 H3 e3 A3 r3 => ?_
  refine hy G3 M H3 ((e.trans e2).trans e3) A3 _ fun z G4 H4 e4 A4 r4 => ?_
  have hv := RpD.val (x := x) k2
  refine ⟨valV xs (Sum.inr x), ?_, ?_⟩
  · rw [show w = kV (Sum.inr x) from r3]
    exact DGet.k (A4.g _ _ ((e3.trans e4) _ _ k1))
  · rcases hl with hl | ⟨hl, rfl⟩
    · obtain ⟨y, e5, r5⟩ := hv.1 d hl
      rw [e5]
      exact (q.mono ((e2.trans e3).trans e4)).here A4 (r5.up (e3.trans e4))
    · rw [hv.2 hl]
      exact (q.mono ((e2.trans e3).trans e4)).here A4 r4
end
end Sb

namespace Sb
open PySem PySem.Spec PyProof.Rows L2
section
variable {X : Cx}
/-- name = {k: v for ..} on one line, the name a local of the def -/
theorem ps_setDc {i : Nat} {y : Str} {py : Pos} {kx vx tg iter : Expr} {ifs : List Expr} {scope : Scope} {own : List (Str × Nat)} {pos spos : Pos} {wi : TI} {g : TG} {tt : TT} {tk tv : TE}
    (hc : X.calm = true) (hN : X.N.Nodup) (hy : X.N[i]? = some y) (hyl : X.env.scope.names.lookup y = some .local)
    (hsw : swapsWith (.DictComp kx vx [⟨tg, iter, ifs, 0⟩] scope pos) (some (.Name y py)) spos.line X.env = pure true) (hi : PI X tg iter wi) (ok : BlkOk X.N X.env.scope scope own)
    (hg : ∀ s H C cl fp, PG (X.blk s H scope (compEnvC scope cl C X.env) fp) tg g) (ht : ∀ s H C cl fp, PTs (X.blk s H scope (compEnvC scope cl C X.env) fp) ifs tt)
    (hk : ∀ s H C cl fp, PE (X.blk s H scope (compEnvC scope cl C X.env) fp) kx tk) (he : ∀ s H C cl fp, PE (X.blk s H scope (compEnvC scope cl C X.env) fp) vx tv)
    (hs : ∀ x, foldedSetIterable iter X.env x = pure x := by intro _; rfl) :
    PS X (.Assign [.Name y py] (.DictComp kx vx [⟨tg, iter, ifs, 0⟩] scope pos) spos) (tAsg (tDc wi g tt tk tv (own.map (·.2))) (gName i)) := by
  constructor
  intro pins s σ H D I h
  have h' : tDc wi g tt tk tv (own.map (·.2)) σ H (fun x H1 => gName i x σ H1 D.nx) := h
  rw [exec_Assign_Name_used _ _ _ _ hsw]
  apply wpAny_bind
  apply wpAny_standAt
  apply wpAny_bind
  show wpAny _ X.A (do let _ ← comprehension (.DictComp kx vx [⟨tg, iter, ifs, 0⟩] scope pos) scope X.env (firstIterPos [⟨tg, iter, ifs, 0⟩] pos) newDict false (eval iter X.env) (some (assign (.Name y py) X.env))) _ _ s
  apply wpAny_bind
  refine thn (dc_core (Qf := fun _ s' => SP X pins D .next s') hc hN I hi ok hg ht hk he hs h' ?_) fun _ s' hq => wpAny_pure (wpAny_pure hq)
  rintro L C s' m H' I' q hn ⟨f0, f1, f2, f3, f4, f5⟩
  show wpAny _ _ (assign (.Name y py) X.env (.ref L)) _ _ _
  apply wpAny_assign_Name
  refine store_ok2 (v := V.ref L) I' hN hy (.inl hyl) rfl ?_ (.inr hyl)
  rintro s2 I2 ⟨a, sb, ha⟩
  have hne : C ≠ a := by
    rcases ha with z | z
    · rw [z]; exact f1
    · exact fun e => f4 y a z e.symm
  refine ⟨m, hn.sameBut sb hne, ?_⟩
  intro h3 sb3
  exact ⟨_, H', I2.turned (t' := s2.toks) (fun b o hb e => (sb3.2 b hb).trans e) f0 f1 f3 f4 f5, q⟩
theorem sw_trueD {kx vx : Expr} {gs : List Comprehension} {scope : Scope} {pos py : Pos} {y : Str} {l : Nat} {env : Env} (hk : env.scope.kind = .function) (hy : env.scope.names.lookup y = some .local) (hl : (py.line == pos.line) = true)
    (ha : (scope.names.any fun (n, k) => n == y && (k == .local || k == .cell)) = false) : swapsWith (.DictComp kx vx gs scope pos) (some (.Name y py)) l env = pure true := by
  have k1 : env.kindOf y = some .local := hy
  have k2 : env.blockKind = .function := by
    unfold Env.blockKind
    rw [hk]
    rfl
  unfold swapsWith
  simp only [k2, k1, ha, Expr.pos, hl]
  rfl
end
end Sb

namespace Sb
open PySem PySem.Spec PyProof.Rows L2
section
variable {K : PySem.W.Frag} {σ : L2.St} {G G' M M0 M1 H : Hp} {ta tb te tc : TE} {d d1 d2 d3 : PyData} {tt t u : TT} {ts : TA} {ds es : List PyData} {Q : VK} {D : Ends} {s1 s2 : TS} {i j n m n' : Nat} {r p : Addr} {o : HO}
/-! ### a reel: a list of three numbers that draws write -/
def Same (r : Addr) (M M' : Hp) : Prop := ∀ x, x ≠ r → M' x = M x
theorem Same.refl : Same r M M := fun _ _ => rfl
theorem Same.trans (a : Same r M M0) (b : Same r M0 M1) : Same r M M1 := fun x h => (b x h).trans (a x h)
def RL (r : Addr) (n : Nat) (M : Hp) : Prop := ∃ a b : Int, ∃ c : Nat, M r = some (.lst [.int a, .int b, .int c]) ∧ 0 ≤ b ∧ b < 10 ^ 43 ∧ c ≤ n
theorem RL.le (h : RL r n M) (e : n ≤ m) : RL r m M := by
  obtain ⟨a, b, c, h1, h2, h3, h4⟩ := h
  exact ⟨a, b, c, h1, h2, h3, Nat.le_trans h4 e⟩
theorem RL.ne (h : RL r n M) (e : M p = none) : p ≠ r := fun z => by
  obtain ⟨a, b, c, h1, _⟩ := h
  rw [← z, e] at h1
  cases h1
theorem RL.upd (h : RL r n M) (e : p ≠ r) : RL r n (L2.upd M p o) := by
  obtain ⟨a, b, c, h1, h2⟩ := h
  exact ⟨a, b, c, by rw [upd_ne (Ne.symm e)]; exact h1, h2⟩
theorem cut_eq (h : M p = some o) : upd (cutG M p) p o = M := by
  funext x
  by_cases e : x = p
  · subst e
    rw [upd_same, h]
  · rw [upd_ne e]
    exact if_neg e
theorem cut_none : cutG M p p = none := if_pos rfl
theorem same_cut : Same r (cutG M r) M := fun x h => (if_neg h).symm
theorem same_upd : Same r M (upd M r o) := fun x h => upd_ne h
def TrE (K : PySem.W.Frag) (r : Addr) (M0 : Hp) (te : TE) (σ : L2.St) (G : Hp) (n n' : Nat) (Φ : PyData → Prop) : Prop := ∀ G1 M H, Ex G G1 → At G1 M H → Same r M0 M → RL r n M → ∀ Q : VK,
  (∀ d v G' M' H', Ex G1 G' → At G' M' H' → Same r M0 M' → RL r n' M' → Φ d → Rp K G' d v → Q v H') → te σ H Q
def TrEA (K : PySem.W.Frag) (r : Addr) (M0 : Hp) (ts : TA) (σ : L2.St) (G : Hp) (n n' : Nat) (Φ : List PyData → Prop) : Prop := ∀ G1 M H, Ex G G1 → At G1 M H → Same r M0 M → RL r n M → ∀ Q : List V → Hp → Prop,
  (∀ ds vs G' M' H', Ex G1 G' → At G' M' H' → Same r M0 M' → RL r n' M' → Φ ds → RpL K G' ds vs → Q vs H') → ts σ H Q
variable {Φ Φ1 Φ2 Φ3 : PyData → Prop} {Ψ Ψ1 : List PyData → Prop}
theorem e_D (h : TrD K te σ G d) (hd : Φ d) : TrE K r M0 te σ G n n Φ := fun G1 M H e A S R Q q => h G1 M H e A Q fun v G2 H2 e2 A2 rv => q d v G2 M H2 e2 A2 S R hd rv
theorem TrE.up (e : Ex G G') (h : TrE K r M0 te σ G n n' Φ) : TrE K r M0 te σ G' n n' Φ := fun G1 M H e1 A S R Q q => h G1 M H (e.trans e1) A S R Q q
theorem TrE.imp (h : TrE K r M0 te σ G n n' Φ) (hi : ∀ d, Φ d → Φ1 d) : TrE K r M0 te σ G n n' Φ1 := fun G1 M H e1 A S R Q q => h G1 M H e1 A S R Q fun d v G' M' H' e A S R hd => q d v G' M' H' e A S R (hi d hd)
theorem TrE.le (h : TrE K r M0 te σ G n n' Φ) (hi : n' ≤ m) : TrE K r M0 te σ G n m Φ := fun G1 M H e1 A S R Q q => h G1 M H e1 A S R Q fun d v G' M' H' e A S R hd => q d v G' M' H' e A S (R.le hi) hd
theorem ea_nil (h : Ψ []) : TrEA K r M0 tNil σ G n n Ψ := fun G1 M H e A S R Q q => q [] [] G1 M H (Ex.refl _) A S R h rfl
theorem ea_cons (ha : TrE K r M0 ta σ G n m Φ) (hr : ∀ d, Φ d → TrEA K r M0 ts σ G m n' fun ds => Ψ (d :: ds)) : TrEA K r M0 (tCons ta ts) σ G n n' Ψ := fun G1 M H e A S R Q q => by
  refine ha G1 M H e A S R _ fun d v G2 M2 H2 e2 A2 S2 R2 hd rv => ?_
  refine hr d hd G2 M2 H2 (e.trans e2) A2 S2 R2 _ fun ds vs G3 M3 H3 e3 A3 S3 R3 hds rvs => ?_
  exact q (d :: ds) (v :: vs) G3 M3 H3 (e2.trans e3) A3 S3 R3 hds ⟨v, vs, rfl, rv.up e3, rvs⟩
theorem ea_A (h : TrA K ts σ G ds) (hd : Ψ ds) : TrEA K r M0 ts σ G n n Ψ := fun G1 M H e A S R Q q => h G1 M H e A Q fun vs G2 H2 e2 A2 rv => q ds vs G2 M H2 e2 A2 S R hd rv
theorem e_op {rr : R2} (ha : TrE K r M0 ta σ G n m Φ1) (hb : ∀ d1, Φ1 d1 → TrE K r M0 tb σ G m n' Φ2) (hr : ∀ d1 d2, Φ1 d1 → Φ2 d2 → ∃ d3, RD K rr d1 d2 d3 ∧ Φ d3) : TrE K r M0 (tOp rr ta tb) σ G n n' Φ := fun G1 M H e A S R Q q => by
  refine ha G1 M H e A S R _ fun d v G2 M2 H2 e2 A2 S2 R2 hd rv => ?_
  refine hb d hd G2 M2 H2 (e.trans e2) A2 S2 R2 _ fun d2 v2 G3 M3 H3 e3 A3 S3 R3 hd2 rv2 => ?_
  obtain ⟨d3, h3, p3⟩ := hr d d2 hd hd2
  exact h3 G3 M3 H3 v v2 A3 (rv.up e3) rv2 Q fun v4 G4 H4 e4 A4 r4 => q d3 v4 G4 M3 H4 ((e2.trans e3).trans e4) A4 S3 R3 p3 r4
theorem e_cb {rr : List V → Hp → VK → Prop} (h : TrEA K r M0 ts σ G n n' Ψ) (hr : ∀ ds, Ψ ds → ∃ d, RC K rr ds d ∧ Φ d) : TrE K r M0 (tCB rr ts) σ G n n' Φ := fun G1 M H e A S R Q q => by
  refine h G1 M H e A S R _ fun ds vs G2 M2 H2 e2 A2 S2 R2 hd rv => ?_
  obtain ⟨d, h3, p3⟩ := hr ds hd
  exact h3 G2 M2 H2 vs A2 rv Q fun v4 G4 H4 e4 A4 r4 => q d v4 G4 M2 H4 (e2.trans e4) A4 S2 R2 p3 r4
theorem e_tup (h : TrEA K r M0 ts σ G n n' Ψ) (hr : ∀ ds, Ψ ds → ds.length ≤ 100000 ∧ Φ (.tuple ds)) : TrE K r M0 (tTup ts) σ G n n' Φ := fun G1 M H e A S R Q q => by
  refine h G1 M H e A S R _ fun ds vs G2 M2 H2 e2 A2 S2 R2 hd rv => ?_
  exact (d_tup (ts := fun σ H Q => Q vs H) (σ := σ) (fun G3 M3 H3 e3 A3 Q3 q3 => q3 vs G3 H3 (Ex.refl _) A3 (rv.up e3)) (hr ds hd).1) G2 M2 H2 (Ex.refl _) A2 Q fun v4 G4 H4 e4 A4 r4 => q _ v4 G4 M2 H4 (e2.trans e4) A4 S2 R2 (hr ds hd).2 r4
theorem e_lst (h : TrEA K r M0 ts σ G n n' Ψ) (hr : ∀ ds, Ψ ds → ds.length ≤ 100000 ∧ Φ (.list ds)) : TrE K r M0 (tLst ts) σ G n n' Φ := fun G1 M H e A S R Q q => by
  refine h G1 M H e A S R _ fun ds vs G2 M2 H2 e2 A2 S2 R2 hd rv => ?_
  exact (d_lst (ts := fun σ H Q => Q vs H) (σ := σ) (fun G3 M3 H3 e3 A3 Q3 q3 => q3 vs G3 H3 (Ex.refl _) A3 (rv.up e3)) (hr ds hd).1) G2 M2 H2 (Ex.refl _) A2 Q fun v4 G4 H4 e4 A4 r4 => q _ v4 G4 M2 H4 (e2.trans e4) A4 S2 R2 (hr ds hd).2 r4
theorem e_if {b : Bool} (hc : TrB t σ G b) (h1 : b = true → TrE K r M0 ta σ G n n' Φ) (h2 : b = false → TrE K r M0 tb σ G n n' Φ) : TrE K r M0 (tIf t ta tb) σ G n n' Φ := fun G1 M H e A S R Q q => by
  refine hc G1 M H e A _ fun G2 H2 e2 A2 => ?_
  cases b with
  | true => exact h1 rfl G2 M H2 (e.trans e2) A2 S R Q fun d v G' M' H' e' => q d v G' M' H' (e2.trans e')
  | false => exact h2 rfl G2 M H2 (e.trans e2) A2 S R Q fun d v G' M' H' e' => q d v G' M' H' (e2.trans e')
/-- len(x), x a list that is still written -/
theorem e_len {xs : List V} (hi : σ[i]? = some (some (.ref p))) (hp : M0 p = some (.lst xs)) (hn : p ≠ r) (hd : Φ (.int xs.length)) : TrE K r M0 (tCB (rLen K) (tCons (tVar i) tNil)) σ G n n Φ := fun G1 M H e A S R Q q =>
  ⟨.ref p, hi, V.ref p, xs.length, rfl, .inl ⟨xs, SqL.of (A.m _ _ ((S p hn).trans hp)), rfl⟩, q (.int xs.length) (V.int xs.length) G1 M H (Ex.refl _) A S R hd rfl⟩
/-- x[i], x a list that is still written -/
theorem e_ixM {xs : List V} (hi : σ[i]? = some (some (.ref p))) (hp : M0 p = some (.lst xs)) (hn : p ≠ r) (rx : RpL K G ds xs) (hb : TrE K r M0 tb σ G n n' Φ1) (hr : ∀ d, Φ1 d → ∃ k d', d = .int k ∧ L2.atI ds k = some d' ∧ Φ d') : TrE K r M0 (tOp (rIxL K) (tVar i) tb) σ G n n' Φ := fun G1 M H e A S R Q q => by
  refine ⟨.ref p, hi, ?_⟩
  refine hb G1 M H e A S R _ fun d v G2 M2 H2 e2 A2 S2 R2 hd rv => ?_
  obtain ⟨k, d', rfl, hk, hd'⟩ := hr d hd
  obtain ⟨z, e1, rz⟩ := (rx.up (e.trans e2)).atI hk
  exact ⟨p, xs, k, z, rfl, rv, SqL.of (A2.m _ _ ((S2 p hn).trans hp)), e1, q d' z G2 M2 H2 e2 A2 S2 R2 hd' rz⟩
/-- a def that draws from the reel: the reel its first argument -/
def ESp (K : PySem.W.Frag) (R : List PyData → Nat → (PyData → Prop) → Prop) : Sp := fun vs H Q _ => ∃ r ws G M n k ds Φ, vs = .ref r :: ws ∧ At G M H ∧ RL r n M ∧ RpL K G ds ws ∧ R ds k Φ ∧ n + k ≤ 1000000 ∧
  ∀ d v G' M' H', Ex G G' → At G' M' H' → Same r M M' → RL r (n + k) M' → Φ d → Rp K G' d v → Q v H'
theorem ESp.len {R : List PyData → Nat → (PyData → Prop) → Prop} {n : Nat} (h : ∀ ds k Φ, R ds k Φ → ds.length = n) {vs : List V} {H : Hp} {Q : VK} {E : XK} (hs : ESp K R vs H Q E) : vs.length = n + 1 := by
  obtain ⟨r, ws, G, M, n2, k, ds, Φ, rfl, _, _, hr, hR, _⟩ := hs
  rw [List.length_cons, hr.len, h _ _ _ hR]
theorem e_call {R : List PyData → Nat → (PyData → Prop) → Prop} {E : XK} {k : Nat} (hi : σ[i]? = some (some (.ref r))) (h : TrEA K r M0 ts σ G n m Ψ) (hR : ∀ ds, Ψ ds → R ds k Φ) (hm : m + k ≤ 1000000) : TrE K r M0 (tCall (ESp K R) [] E (tCons (tVar i) ts)) σ G n (m + k) Φ := fun G1 M H e A S Rr Q q => by
  refine ⟨.ref r, hi, ?_⟩
  refine h G1 M H e A S Rr _ fun ds vs G2 M2 H2 e2 A2 S2 R2 hd rv => ?_
  refine ⟨r, vs, G2, M2, m, k, ds, Φ, by rw [List.append_nil], A2, R2, rv, hR ds hd, hm, fun d v G' M' H' e' A' S' R' hd' rv' => ?_⟩
  exact q d v G' M' H' (e2.trans e') A' (S2.trans S') R' hd' rv'
theorem upd_cut : upd (cutG M p) p o = upd M p o := by
  funext x
  by_cases e : x = p
  · subst e
    rw [upd_same, upd_same]
  · rw [upd_ne e, upd_ne e]
    exact if_neg e
/-- [e for x in range(n)], the element draws -/
theorem e_lcR {c : Nat} {step : Nat} {Φ0 : Int → Prop} (hl : TrE K r M0 ta σ G n m fun d => ∃ z : Int, d = .int z ∧ Φ0 z ∧ 0 ≤ z ∧ z ≤ c) (hc : c ≤ 10000)
    (he : ∀ M1 (x : Int) (t : Nat), t < c → TrE K r M1 te ((wipe σ [i]).set i (some (.int x))) G (m + t * step) (m + t * step + step) Φ1)
    (hΦ : ∀ z ds, Φ0 z → (ds.length : Int) = z → (∀ d ∈ ds, Φ1 d) → Φ (.list ds)) :
    TrE K r M0 (tLc (iRng1 (tCons ta tNil)) (gName i) tYes te [i]) σ G n (m + c * step) Φ := fun G1 M H e A S R Q q => by
  refine hl G1 M H e A S R _ fun d v G2 M2 H2 e2 A2 S2 R2 hd rv => ?_
  obtain ⟨z, rfl, hz0, hz1, hz2⟩ := hd
  refine ⟨z, by rw [show v = V.int z from rv], by omega, by omega, fun D hD => ?_⟩
  have hMD : M2 D = none := A2.mNone hD
  refine lc_range (lo := 0) (n := z.toNat) (fun t H3 => ∃ Gj Mj acc dj, Ex G2 Gj ∧ At Gj (upd Mj D (.lst acc)) H3 ∧ Same r M0 Mj ∧ Mj D = none ∧ RL r (m + t * step) Mj ∧ RpL K Gj dj acc ∧ dj.length = t ∧ ∀ d ∈ dj, Φ1 d)
    ⟨G2, M2, [], [], Ex.refl _, A2.nm hD, S2, hMD, by rw [Nat.zero_mul]; exact R2, rfl, rfl, fun _ h => by cases h⟩ ?_ ?_
  · rintro t H3 ht ⟨Gj, Mj, acc, dj, ej, Aj, Sj, hj, Rj, rj, hl2, hall⟩
    have hDr : D ≠ r := Rj.ne hj
    refine ⟨wipe_set, ?_⟩
    refine he (upd Mj D (.lst acc)) (0 + (t : Int)) t (by omega) Gj (upd Mj D (.lst acc)) H3 ((e.trans e2).trans ej) Aj .refl (Rj.upd hDr) _ fun d5 y G5 M5 H5 e5 A5 S5 R5 h5 r5 => ?_
    have hD5 : M5 D = some (.lst acc) := (S5 D hDr).trans upd_same
    refine ⟨acc, A5.m _ _ hD5, ?_, G5, cutG M5 D, acc ++ [y], dj ++ [d5], ej.trans e5, ?_, ?_, cut_none, ?_, (rj.up e5).snoc r5, by rw [List.length_append, hl2]; rfl, ?_⟩
    · rw [rj.len, hl2]
      exact sz_lt (by omega)
    · rw [upd_cut]
      exact A5.wr hD5
    · intro x hx
      by_cases hxD : x = D
      · subst hxD
        rw [cut_none, ← Sj x hx, hj]
      · show (if x = D then none else M5 x) = M0 x
        rw [if_neg hxD, S5 x hx, upd_ne hxD]
        exact Sj x hx
    · obtain ⟨a, b, cc, k1, k2⟩ := R5
      rw [Nat.succ_mul, ← Nat.add_assoc]
      exact ⟨a, b, cc, by show (if r = D then none else M5 r) = _; rw [if_neg (Ne.symm hDr)]; exact k1, k2⟩
    · intro d6 h6
      rcases List.mem_append.mp h6 with h6 | h6
      · exact hall _ h6
      · rw [List.mem_singleton.mp h6]
        exact h5
  · rintro H3 ⟨Gj, Mj, acc, dj, ej, Aj, Sj, hj, Rj, rj, hl2, hall⟩
    have hm := upd_same (H := Mj) (a := D) (o := HO.lst acc)
    refine q (.list dj) (.ref D) _ Mj H3 ((e2.trans ej).trans (Aj.frzG hm)) (Aj.frz hm (Ex.new hj) hj) Sj (Rj.le ?_) (hΦ z dj hz0 (by omega) hall) ⟨D, acc, rfl, upd_same, rj.up (Aj.frzG hm)⟩
    have : z.toNat ≤ c := by omega
    exact Nat.add_le_add_left (Nat.mul_le_mul_right _ this) _
/-! ### statements -/
theorem s_setE (h : TrE K r M0 te σ G n n' Φ) (A : At G M H) (S : Same r M0 M) (R : RL r n M) (k : ∀ d v G' M' H', Ex G G' → At G' M' H' → Same r M0 M' → RL r n' M' → Φ d → Rp K G' d v → D.nx (σ.set i (some v)) H') : tAsg te (gName i) D σ H := h G M H (Ex.refl _) A S R _ k
theorem q_setE (h : TrE K r M0 te σ G n n' Φ) (A : At G M H) (S : Same r M0 M) (R : RL r n M) (k : ∀ d v G' M' H', Ex G G' → At G' M' H' → Same r M0 M' → RL r n' M' → Φ d → Rp K G' d v → s2 D (σ.set i (some v)) H') : tSeq (tAsg te (gName i)) s2 D σ H := h G M H (Ex.refl _) A S R _ k
theorem s_retE (h : TrE K r M0 te σ G n n' Φ) (A : At G M H) (S : Same r M0 M) (R : RL r n M) (k : ∀ d v G' M' H', Ex G G' → At G' M' H' → Same r M0 M' → RL r n' M' → Φ d → Rp K G' d v → D.rt v H') : tRet te D σ H := h G M H (Ex.refl _) A S R _ k
/-! ### a written cell, looked at as data -/
theorem q_setfz (h : TrD K te σ (upd G p o) d) (hf : isFlat d = true) (hG : G p = none) (hM : M p = none) (A : At G (upd M p o) H) (k : ∀ v G' H', Ex G G' → At G' (upd M p o) H' → Rp K G' d v → s2 D (σ.set i (some v)) H') : tSeq (tAsg te (gName i)) s2 D σ H := w_Dfz h hf hG hM A k
theorem s_iffz {b : Bool} (h : TrB t σ (upd G p o) b) (hG : G p = none) (hM : M p = none) (A : At G (upd M p o) H) (k1 : b = true → ∀ G' H', Ex G G' → At G' (upd M p o) H' → s1 D σ H') (k2 : b = false → ∀ G' H', Ex G G' → At G' (upd M p o) H' → s2 D σ H') : tIfS t s1 s2 D σ H := by
  refine w_Bfz h hG hM A fun G' H' e A' => ?_
  cases b with
  | true => exact k1 rfl G' H' e A'
  | false => exact k2 rfl G' H' e A'
theorem q_setIxfz {xs : List V} {j : Nat} {kk : Int} (h : TrD K te σ (upd G p (.lst xs)) d) (hf : isFlat d = true) (hG : G p = none) (hM : M p = none) (A : At G (upd M p (.lst xs)) H) (hi : σ[i]? = some (some (.ref p))) (hj : ixN xs.length kk = some j)
    (k : ∀ v G' H', Ex G G' → At G' (upd M p (.lst (xs.set j v))) H' → Rp K G' d v → s2 D σ H') : tSeq (tAsg te (gSub (tVar i) (tC (.int kk)) rSetL)) s2 D σ H := by
  refine w_Dfz (M := M) h hf hG hM A fun v G1 H1 e1 A1 r1 => ?_
  refine ⟨.ref p, hi, p, xs, kk, j, rfl, rfl, A1.m _ _ upd_same, hj, ?_⟩
  have z := A1.wr (o := .lst (xs.set j v)) (upd_same (H := M) (a := p) (o := .lst xs))
  rw [upd_upd] at z
  exact k v G1 _ e1 z r1
theorem rd_catA {es : List PyData} (hn : ds.length + es.length ≤ 100000) : RD K (rCatA K) (.tuple ds) (.tuple es) (.tuple (ds ++ es)) := fun G M H x y A ⟨a, xs, h1, h2, h3⟩ ⟨b, ys, k1, k2, k3⟩ Q q => by
  refine ⟨a, b, xs, ys, h1, k1, A.g.stt h2, A.g.stt k2, by rw [h3.len, k3.len]; exact sz_of hn, fun hx => ?_, fun hx hy => ?_, fun hx hy p hp => ?_⟩
  · subst hx
    have e : ds = [] := by have := h3.len; cases ds with | nil => rfl | cons _ _ => simp at this
    subst e
    exact q.here A ⟨b, ys, rfl, k2, k3⟩
  · subst hy
    have e : es = [] := by have := k3.len; cases es with | nil => rfl | cons _ _ => simp at this
    subst e
    rw [List.append_nil] at q
    exact q.here A ⟨a, xs, rfl, h2, h3⟩
  · exact q.newG A hp ⟨p, _, rfl, SqT.of upd_same, (h3.app k3).up (Ex.new (A.gNone hp))⟩
theorem d_slA {tl th : TO} {lo hi : Option Int} (h : TrD K te σ G (.tuple ds)) (h1 : TrO tl σ G lo) (h2 : TrO th σ G hi) : TrD K (tSl (rSlA K) te tl th) σ G (.tuple (Sb.cutD ds lo hi)) := fun G1 M H e A Q q => by
  refine h G1 M H e A _ fun v G2 H2 e2 A2 r => ?_
  refine h1 G2 M H2 (e.trans e2) A2 _ fun G3 H3 e3 A3 => ?_
  refine h2 G3 M H3 ((e.trans e2).trans e3) A3 _ fun G4 H4 e4 A4 => ?_
  obtain ⟨a, xs, rfl, k1, k2⟩ := r.up (e3.trans e4)
  refine ⟨a, xs, rfl, A4.g.stt k1, fun hw => ?_, fun hw p hp => ?_⟩
  · refine (q.mono ((e2.trans e3).trans e4)).here A4 ⟨a, xs, rfl, k1, ?_⟩
    rw [k2.len] at hw
    unfold Sb.cutD
    rw [hw.1, hw.2, List.drop_zero, Nat.sub_zero, List.take_length]
    exact k2
  · exact ((q.mono ((e2.trans e3).trans e4))).newG A4 hp ⟨p, _, rfl, SqT.of upd_same, k2.cut.up (Ex.new (A4.gNone hp))⟩
end
end Sb

namespace Sb
open PySem PySem.Spec PyProof.Rows L2
/-! ### == of one and the same data, dicts within -/
def keyS : PyData → Option Str
  | .str x => some x
  | _ => none
def okQ : Nat → PyData → Bool
  | _, .none => true
  | _, .bool _ => true
  | _, .int _ => true
  | _, .str _ => true
  | n + 1, .list ds => ds.all (okQ n)
  | n + 1, .tuple ds => ds.all (okQ n)
  | n + 1, .dict kvs => kvs.all (fun p => okQ n p.2) && kvs.all (fun p => (keyS p.1).isSome) && decide (kvs.map fun p => keyS p.1).Nodup
  | 0, _ => false
def SameD (K : PySem.W.Frag) (G : Hp) (n : Nat) (x y : V) : Prop := ∃ d, okQ n d = true ∧ Rp K G d x ∧ Rp K G d y
theorem same_list {K : PySem.W.Frag} {G : Hp} {n : Nat} : ∀ {ds : List PyData} {xs ys : List V}, ds.all (okQ n) = true → RpL K G ds xs → RpL K G ds ys → Paired (SameD K G n) xs ys
  | [], xs, ys, _, h1, h2 => by
    rw [show xs = [] from h1, show ys = [] from h2]
    exact .nil
  | d :: ds, _, _, ho, ⟨x, r, e1, h1, h2⟩, ⟨y, r', e2, h3, h4⟩ => by
    have ho' := Bool.and_eq_true_iff.mp (by rw [List.all_cons] at ho; exact ho)
    rw [e1, e2]
    exact .cons ⟨d, ho'.1, h1, h3⟩ (same_list ho'.2 h2 h4)
theorem kD_keyS {k : Key} {x : Str} (h : keyS (kD k) = some x) : k = Sum.inr x := by
  cases k with
  | inl i => cases h
  | inr z => cases h; rfl
theorem val_at {K : PySem.W.Frag} {G : Hp} : ∀ {kvs : List (PyData × PyData)} {es : List (Key × V)} {p : PyData × PyData} {x : Str}, RpD K G kvs es → (kvs.map fun p => keyS p.1).Nodup → p ∈ kvs → keyS p.1 = some x → ∃ u, valV es (Sum.inr x) = some u ∧ Rp K G p.2 u
  | [], _, _, _, _, _, h, _ => by cases h
  | (k, d) :: r, _, p, x, ⟨k', y, t, e1, h1, h2, h3⟩, nd, hp, hx => by
    rw [e1]
    have nd' := List.nodup_cons.mp (by rw [List.map_cons] at nd; exact nd)
    rcases List.mem_cons.mp hp with e | hp
    · subst e
      rw [← h1] at hx
      have hk := kD_keyS hx
      subst hk
      refine ⟨y, ?_, h2⟩
      unfold valV
      rw [List.find?_cons]
      simp
    · obtain ⟨u, hu, ru⟩ := val_at h3 nd'.2 hp hx
      refine ⟨u, ?_, ru⟩
      have hne : ¬ k' = Sum.inr x := fun z => by
        subst z
        refine nd'.1 (List.mem_map.mpr ⟨p, hp, ?_⟩)
        rw [hx, ← h1]
        rfl
      unfold valV at hu ⊢
      rw [List.find?_cons, decide_eq_false hne]
      exact hu
theorem ent_of {K : PySem.W.Frag} {G : Hp} : ∀ {kvs : List (PyData × PyData)} {es : List (Key × V)} {q : Key × V}, RpD K G kvs es → q ∈ es → ∃ p ∈ kvs, kD q.1 = p.1 ∧ Rp K G p.2 q.2
  | [], es, q, h, hq => by
    rw [show es = [] from h] at hq
    cases hq
  | (k, d) :: r, _, q, ⟨k', y, t, e1, h1, h2, h3⟩, hq => by
    rw [e1] at hq
    rcases List.mem_cons.mp hq with e | hq
    · subst e
      exact ⟨_, List.mem_cons_self .., h1, h2⟩
    · obtain ⟨p, hp, z⟩ := ent_of h3 hq
      exact ⟨p, List.mem_cons_of_mem _ hp, z⟩
section
variable {X : Cx} {pins : List (Addr × Obj)} {σ : L2.St} {H G : Hp} {s : Shared}
theorem sameD_step (I : Inv X pins σ H s) (g : Ex G H) {n : Nat} {A : Around} (hu : A.units < cLine) (ih : ∀ x y v u, SameD X.K G n x y → RelV x v → RelV y u → SeqAt.EqP X.prog X.w A.in1 s v u true)
    {d : PyData} {x y : V} {v u : Value} (hf : isFlat d = false) (ho : okQ (n + 1) d = true) (h1 : Rp X.K G d x) (h2 : Rp X.K G d y) (rx : RelV x v) (ry : RelV y u) (E Q : Value → Shared → Prop) (q : Q (.bool true) s) : wpAny (model X.prog X.w) A (richCompare .Eq v u) Q E s := by
  cases d with
  | none => cases hf
  | bool _ => cases hf
  | int _ => cases hf
  | str _ => cases hf
  | list ds =>
    obtain ⟨a, xs, rfl, a1, a2⟩ := h1
    obtain ⟨b, ys, rfl, b1, b2⟩ := h2
    have hp := same_list (show ds.all (okQ n) = true from ho) a2 b2
    cases (show v = Value.ref a from rx)
    cases (show u = Value.ref b from ry)
    obtain ⟨us, r1, p1, _⟩ := I.list (SqL.of (g _ _ a1))
    obtain ⟨ws, r2, p2, _⟩ := I.list (SqL.of (g _ _ b1))
    have hsz : us.toArray.size = ws.toArray.size := by
      rw [List.size_toArray, List.size_toArray, ← r1.length, ← r2.length, a2.len, b2.len]
    refine SeqAt.rcP_lists (e := fun _ => true) p1.isList p2.isList hsz hu (fun j k1 k2 => ?_) E Q ?_
    · exact by simpa using items_run ih hp r1 r2 j (by simpa using k1) (by simpa using k2)
    · have e : (List.range us.toArray.size).all (fun _ => true) = true := List.all_eq_true.mpr fun _ _ => rfl
      rw [e]
      exact q
  | tuple ds =>
    obtain ⟨a, xs, rfl, a1, a2⟩ := h1
    obtain ⟨b, ys, rfl, b1, b2⟩ := h2
    have hp := same_list (show ds.all (okQ n) = true from ho) a2 b2
    cases (show v = Value.ref a from rx)
    cases (show u = Value.ref b from ry)
    obtain ⟨us, r1, p1, _⟩ := I.tuple (g.stt a1)
    obtain ⟨ws, r2, p2, _⟩ := I.tuple (g.stt b1)
    have hsz : us.toArray.size = ws.toArray.size := by
      rw [List.size_toArray, List.size_toArray, ← r1.length, ← r2.length, a2.len, b2.len]
    refine GQ.rc_tupG hsz hu (fun _ s' => s' = s) p1 p2 (fun i k1 k2 s' hs => ?_) (fun s' hs => by rw [hs]; exact q) rfl
    subst hs
    have z := items_run ih hp r1 r2 i (by simpa using k1) (by simpa using k2)
    exact (by simpa using z : SeqAt.EqP X.prog X.w A.in1 s' us.toArray[i] ws.toArray[i] true) E _ ⟨rfl, rfl⟩
  | dict kvs =>
    obtain ⟨a, ks, rfl, a1, a2⟩ := h1
    obtain ⟨b, ls, rfl, b1, b2⟩ := h2
    have ho1 : (kvs.all (fun p => okQ n p.2) && kvs.all (fun p => (keyS p.1).isSome) && decide (kvs.map fun p => keyS p.1).Nodup) = true := ho
    obtain ⟨ho2, ho3⟩ := Bool.and_eq_true_iff.mp ho1
    obtain ⟨ho4, ho5⟩ := Bool.and_eq_true_iff.mp ho2
    have nd := of_decide_eq_true ho3
    cases (show v = Value.ref a from rx)
    cases (show u = Value.ref b from ry)
    obtain ⟨_, ya, va, ra, da⟩ := (show ObjOk X.prog X.w H s.heap a (.dK ks) from I.hok a _ (g _ _ a1))
    obtain ⟨_, yb, vb, rb, db⟩ := (show ObjOk X.prog X.w H s.heap b (.dK ls) from I.hok b _ (g _ _ b1))
    refine PySem.W.rcP_dicts (knd := mixKind X.prog X.w) (r := true) ya yb da db hu (fun _ => hits_run ih rb ra fun p hm => ?_) E Q ?_
    · obtain ⟨kv, hkv, e1, r1⟩ := ent_of a2 hm
      have hs := List.all_eq_true.mp ho5 kv hkv
      obtain ⟨x, hx⟩ := Option.isSome_iff_exists.mp hs
      obtain ⟨z, hz, rz⟩ := val_at b2 nd hkv hx
      rw [← e1] at hx
      rw [kD_keyS hx]
      exact ⟨z, hz, kv.2, List.all_eq_true.mp ho4 kv hkv, r1, rz⟩
    · have e : va.length = vb.length := by rw [← ra.length, ← rb.length, a2.len, b2.len]
      rw [show (va.length == vb.length && true) = true from by rw [e]; simp]
      exact q
theorem sameD_run (I : Inv X pins σ H s) (g : Ex G H) : ∀ (n : Nat) (A : Around), A.units + n < cLine → ∀ (x y : V) (v u : Value), SameD X.K G n x y → RelV x v → RelV y u → SeqAt.EqP X.prog X.w A s v u true := by
  intro n
  induction n with
  | zero =>
    rintro A hu x y v u ⟨d, ho, h1, h2⟩ rx ry
    have hf : isFlat d = true := by cases d <;> first | rfl | cases ho
    have e1 := rp_flat hf h1
    have e2 := rp_flat hf h2
    rw [e1.1] at rx
    rw [e2.1] at ry
    exact (eqAt_same rx ry (by cases d <;> first | rfl | cases hf)).eqP
  | succ n ih =>
    rintro A hu x y v u ⟨d, ho, h1, h2⟩ rx ry
    cases hf : isFlat d with
    | true =>
      have e1 := rp_flat hf h1
      have e2 := rp_flat hf h2
      rw [e1.1] at rx
      rw [e2.1] at ry
      exact (eqAt_same rx ry (by cases d <;> first | rfl | cases hf)).eqP
    | false =>
      have step := fun E Q q => sameD_step I g (n := n) (A := A) (by omega) (ih A.in1 (by show A.units + 1 + n < cLine; omega)) hf ho h1 h2 rx ry E Q q
      obtain ⟨a, ea⟩ : ∃ a, x = V.ref a := by
        cases d with
        | none => cases hf
        | bool _ => cases hf
        | int _ => cases hf
        | str _ => cases hf
        | list ds => obtain ⟨a, _, e, _⟩ := h1; exact ⟨a, e⟩
        | tuple ds => obtain ⟨a, _, e, _⟩ := h1; exact ⟨a, e⟩
        | dict ds => obtain ⟨a, _, e, _⟩ := h1; exact ⟨a, e⟩
      obtain ⟨b, eb⟩ : ∃ a, y = V.ref a := by
        cases d with
        | none => cases hf
        | bool _ => cases hf
        | int _ => cases hf
        | str _ => cases hf
        | list ds => obtain ⟨a, _, e, _⟩ := h2; exact ⟨a, e⟩
        | tuple ds => obtain ⟨a, _, e, _⟩ := h2; exact ⟨a, e⟩
        | dict ds => obtain ⟨a, _, e, _⟩ := h2; exact ⟨a, e⟩
      subst ea eb
      cases (show v = Value.ref a from rx)
      cases (show u = Value.ref b from ry)
      by_cases e : a = b
      · subst e
        exact (SeqAt.EqAt.same _).eqP
      · exact SeqAt.eqP_refs e step
end
section
variable {X : Cx}
/-- a == b, both hold the same data -/
def rEqS (K : PySem.W.Frag) : R2 := fun x y H Q => ∃ G d, Ex G H ∧ okQ 60 d = true ∧ isFlat d = false ∧ Rp K G d x ∧ Rp K G d y ∧ Q (.bl true) H
theorem op_eqS (hu : X.A.units + 64 < cLine) : OpR X (compareOp .Eq) (rEqS X.K) := by
  intro pins s σ H x y v u Q I rx ry h
  obtain ⟨G, d, g, ho, hf, h1, h2, q⟩ := h
  exact sameD_step I g (n := 59) (A := X.A) (by omega) (sameD_run I g 59 X.A.in1 (by show X.A.units + 1 + 59 < cLine; omega)) hf ho h1 h2 rx ry _ _ ⟨.bl true, H, I, rfl, q⟩
end
section
variable {K : PySem.W.Frag} {σ : L2.St} {G G' M H : Hp} {ta tb te : TE} {d d1 d2 d3 : PyData} {ds es : List PyData}
theorem rd_eqSame (ho : okQ 60 d = true) (hf : isFlat d = false) : RD K (rEqS K) d d (.bool true) := fun G M H x y A h1 h2 Q q => ⟨G, d, A.g, ho, hf, h1, h2, q.here A rfl⟩
theorem rd_repT {k : Int} (h0 : ds ≠ []) (h1 : 2 ≤ k) (h2 : k ≤ 1000) (h3 : ds.length ≤ 1000) : RD K (rRepT K) (.tuple ds) (.int k) (.tuple (List.replicate k.toNat ds).flatten) := fun G M H x y A ⟨a, xs, e1, r1, r2⟩ hy Q q => by
  refine ⟨a, k, xs, e1, hy, A.g.stt r1, fun z => h0 ?_, h1, h2, by rw [r2.len]; exact h3, fun p hp => q.newG A hp ⟨p, _, rfl, SqT.of upd_same, ?_⟩⟩
  · have := r2.len
    rw [z] at this
    cases ds with
    | nil => rfl
    | cons _ _ => simp at this
  · have r3 := r2.up (Ex.new (A.gNone hp) (o := .tup (List.replicate k.toNat xs).flatten))
    have all : ∀ n, RpL K (upd G p (.tup (List.replicate k.toNat xs).flatten)) (List.replicate n ds).flatten (List.replicate n xs).flatten := fun n => by
      induction n with
      | zero => exact rfl
      | succ n ih =>
        rw [List.replicate_succ, List.replicate_succ, List.flatten_cons, List.flatten_cons]
        exact r3.app ih
    exact all _
/-! ### dict displays -/
def TrP (K : PySem.W.Frag) (trs : List (TE × TE)) (σ : L2.St) (G : Hp) (kvs : List (Str × PyData)) : Prop := ∀ G1 M H, Ex G G1 → At G1 M H → ∀ Q : List (V × V) → Hp → Prop,
  (∀ es G' H', Ex G1 G' → At G' M H' → RpD K G' (keysD kvs) es → Q (es.map fun kv => (kV kv.1, kv.2)) H') → tPairs trs σ H Q
theorem p_nil : TrP K [] σ G [] := fun G1 M H e A Q q => q [] G1 H (Ex.refl _) A rfl
theorem p_cons {x : Str} {kvs : List (Str × PyData)} {trs : List (TE × TE)} (hk : TrD K ta σ G (.str x)) (hv : TrD K tb σ G d) (hr : TrP K trs σ G kvs) : TrP K ((ta, tb) :: trs) σ G ((x, d) :: kvs) := fun G1 M H e A Q q => by
  refine hk G1 M H e A _ fun v G2 H2 e2 A2 r2 => ?_
  refine hv G2 M H2 (e.trans e2) A2 _ fun w G3 H3 e3 A3 r3 => ?_
  refine hr G3 M H3 ((e.trans e2).trans e3) A3 _ fun es G4 H4 e4 A4 r4 => ?_
  have z := q ((Sum.inr x, w) :: es) G4 H4 ((e2.trans e3).trans e4) A4 ⟨Sum.inr x, w, es, rfl, rfl, r3.up e4, r4⟩
  rw [show v = V.str x from r2]
  exact z
theorem merge_new : ∀ {es acc : List (Key × V)}, ((acc ++ es).map (·.1)).Nodup → mergeK acc es = acc ++ es
  | [], acc, _ => (List.append_nil acc).symm
  | (k, v) :: es, acc, h => by
    have hn : valV acc k = none := by
      unfold valV
      rw [Option.map_eq_none_iff, List.find?_eq_none]
      intro q hq hqk
      have e : q.1 = k := of_decide_eq_true hqk
      rw [List.map_append, List.map_cons] at h
      exact (List.nodup_append.mp h).2.2 q.1 (List.mem_map.mpr ⟨q, hq, rfl⟩) k (List.mem_cons_self ..) e
    show mergeK (putK acc k v) es = _
    rw [putK_new _ hn, merge_new (by rw [List.append_assoc]; exact h), List.append_assoc]
    rfl
theorem keys_nodup {kvs : List (Str × PyData)} {es : List (Key × V)} (r : RpD K G (keysD kvs) es) (h : (kvs.map (·.1)).Nodup) : (es.map (·.1)).Nodup := by
  rw [r.keys]
  exact h.map _ (fun a b hab => fun e => hab (Sum.inr.inj e))
theorem d_disp {kvs : List (Str × PyData)} {trs : List (TE × TE)} (h : TrP K trs σ G kvs) (hl : kvs.length ≤ 15) (nd : (kvs.map (·.1)).Nodup) : TrD K (tDisp trs) σ G (.dict (keysD kvs)) := fun G1 M H e A Q q p hp => by
  refine h G1 (upd M p (.dK [])) (upd H p (.dK [])) e (A.nm hp) _ fun es G2 H2 e2 A2 r2 => ?_
  refine ⟨A2.m _ _ upd_same, es, rfl, ?_, ?_⟩
  · rw [r2.len, keysD_len]
    exact hl
  · rw [merge_new (by rw [List.nil_append]; exact keys_nodup r2 nd), List.nil_append]
    have A3 := A2.wr (o := .dK es) (upd_same (H := M) (a := p) (o := .dK []))
    rw [upd_upd] at A3
    have hm := upd_same (H := M) (a := p) (o := HO.dK es)
    have hM : M p = none := A.mNone hp
    exact q _ _ _ (e2.trans (A3.frzG hm)) (A3.frz hm (Ex.new hM) hM) ⟨p, es, rfl, upd_same, r2.up (A3.frzG hm)⟩
/-! ### list(d.items()), dict(pairs) -/
def pairD (p : PyData × PyData) : PyData := .tuple [p.1, p.2]
theorem kV_rp {k : Key} : Rp K G (kD k) (kV k) := by cases k <;> exact rfl
theorem items_rp {G3 H' : Hp} : ∀ {kvs : List (PyData × PyData)} {ts : List Addr} {es : List (Key × V)}, Paired (fun (t : Addr) (q : Key × V) => H' t = some (.tup [kV q.1, q.2])) ts es → RpD K G3 kvs es → (∀ t ∈ ts, G3 t = H' t) → RpL K G3 (kvs.map pairD) (ts.map V.ref)
  | [], _, _, hp, h, _ => by
    rw [show _ = [] from h] at hp
    cases hp
    exact rfl
  | (k, d) :: r, _, _, hp, ⟨k', y, t', e, h4, h5, h6⟩, hm => by
    rw [e] at hp
    cases hp with
    | @cons t _ ts _ hk hr =>
      refine ⟨V.ref t, ts.map V.ref, rfl, ⟨t, [kV k', y], rfl, SqT.of ?_, kV k', [y], rfl, ?_, y, [], rfl, h5, rfl⟩, items_rp hr h6 fun u hu => hm u (List.mem_cons_of_mem _ hu)⟩
      · rw [hm t (List.mem_cons_self ..)]
        exact hk
      · show Rp K G3 k (kV k')
        rw [← h4]
        exact kV_rp
theorem d_items {kvs : List (PyData × PyData)} (h : TrD K te σ G (.dict kvs)) : TrD K (LiI.tListItems te) σ G (.list (kvs.map pairD)) := fun G1 M H e A Q q => by
  refine h G1 M H e A _ fun v G2 H2 e2 A2 r => ?_
  obtain ⟨a, es, rfl, h1, h2⟩ := r
  refine ⟨a, es, rfl, A2.g _ _ h1, fun H' p ts hx hp hts hpt hH hpr => ?_⟩
  have inG : Ex G2 (fun b => if b = p ∨ b ∈ ts then H' b else G2 b) := fun b o z => by
    have hb : ¬ (b = p ∨ b ∈ ts) := fun y => by
      have zz := A2.g _ _ z
      rcases y with y | y
      · rw [y, hp] at zz; cases zz
      · rw [hts b y] at zz; cases zz
    show (if b = p ∨ b ∈ ts then H' b else G2 b) = some o
    rw [if_neg hb]
    exact z
  have A3 : At (fun b => if b = p ∨ b ∈ ts then H' b else G2 b) M H' := by
    refine ⟨fun b o z => ?_, fun b o z => hx _ _ (A2.m _ _ z), fun b o z => ?_⟩
    · have z' : (if b = p ∨ b ∈ ts then H' b else G2 b) = some o := z
      by_cases hb : b = p ∨ b ∈ ts
      · rw [if_pos hb] at z'; exact z'
      · rw [if_neg hb] at z'; exact hx _ _ (A2.g _ _ z')
    · have hb : ¬ (b = p ∨ b ∈ ts) := fun y => by
        have zz := A2.m _ _ z
        rcases y with y | y
        · rw [y, hp] at zz; cases zz
        · rw [hts b y] at zz; cases zz
      show (if b = p ∨ b ∈ ts then H' b else G2 b) = none
      rw [if_neg hb]
      exact A2.d _ _ z
  refine q (.ref p) _ H' (e2.trans inG) A3 ⟨p, ts.map V.ref, rfl, by show (if p = p ∨ p ∈ ts then H' p else G2 p) = _; rw [if_pos (.inl rfl)]; exact hH, ?_⟩
  exact items_rp hpr (h2.up inG) fun t ht => if_pos (.inr ht)
theorem pairs_of : ∀ {kvs : List (Str × PyData)} {xs : List V}, RpL K G ((keysD kvs).map pairD) xs → ∃ (ps : List Addr) (es : List (Key × V)), xs = ps.map V.ref ∧ Paired (fun p kv => SqT K G p [kV kv.1, kv.2]) ps es ∧ RpD K G (keysD kvs) es
  | [], xs, h => ⟨[], [], h, .nil, rfl⟩
  | (k, d) :: r, _, ⟨x, xs, e, ⟨a, ys, h1, h2, h3⟩, h4⟩ => by
    obtain ⟨ps, es, h5, h6, h7⟩ := pairs_of h4
    obtain ⟨y, _, rfl, h8, z, _, rfl, h9, rfl⟩ := h3
    rw [e, h1, h5]
    refine ⟨a :: ps, (Sum.inr k, z) :: es, rfl, .cons ?_ h6, ⟨Sum.inr k, z, es, rfl, rfl, h9, h7⟩⟩
    rw [show y = V.str k from h8] at h2
    exact h2
theorem rc_dictP {kvs : List (Str × PyData)} (nd : (kvs.map (·.1)).Nodup) : RC K (fun xs H Q => ∃ (a : Addr) (ps : List Addr) (kvs : List (Key × V)), xs = [.ref a] ∧ SqL K H a (ps.map V.ref) ∧ Paired (fun p kv => SqT K H p [kV kv.1, kv.2]) ps kvs ∧
    ∀ p, H p = none → Q (.ref p) (upd H p (.dK (mergeK [] kvs)))) [.list ((keysD kvs).map pairD)] (.dict (keysD kvs)) := fun G M H xs A ⟨x, r, e, ⟨a, ys, h1, h2, h3⟩, h'⟩ Q q => by
  rw [e, show r = [] from h', h1]
  obtain ⟨ps, es, rfl, h5, h6⟩ := pairs_of h3
  refine ⟨a, ps, es, rfl, SqL.of (A.g _ _ h2), Paired.mono (fun _ _ h => A.g.stt h) h5, fun p hp => ?_⟩
  rw [merge_new (by rw [List.nil_append]; exact keys_nodup h6 nd), List.nil_append]
  exact q.newG A hp ⟨p, es, rfl, upd_same, h6.up (Ex.new (A.gNone hp))⟩
end
end Sb

namespace Sb
open PySem PySem.Spec PyProof.Rows L2
/-! ### how long a repr is -/
mutual
def wS : PyData → Nat
  | .none => 4
  | .bool _ => 5
  | .int _ => 18
  | .str x => 10 * x.length + 2
  | .list xs => 2 + wSA xs
  | .tuple xs => 3 + wSA xs
  | .dict xs => 2 + wSK xs
def wSA : List PyData → Nat
  | [] => 0
  | x :: xs => wS x + 2 + wSA xs
def wSK : List (PyData × PyData) → Nat
  | [] => 0
  | (k, v) :: r => wS k + wS v + 4 + wSK r
end
mutual
def fiS : PyData → Bool
  | .none => true
  | .bool _ => true
  | .int i => decide (0 ≤ i) && decide (i < 1000000000000000000)
  | .str x => x.cps.toList.all (· < 4294967296)
  | .list xs => fiSA xs
  | .tuple xs => fiSA xs
  | .dict xs => fiSK xs
def fiSA : List PyData → Bool
  | [] => true
  | x :: xs => fiS x && fiSA xs
def fiSK : List (PyData × PyData) → Bool
  | [] => true
  | (k, v) :: r => fiS k && fiS v && fiSK r
end
def pil (ts : List Str) : Nat := (ts.map fun t => t.length + 2).sum
theorem join_pil (ts : List Str) : (Str.join ", " ts).length ≤ pil ts := by
  refine Nat.le_trans (StrLaws.join_length_le _ _) ?_
  unfold pil
  induction ts with
  | nil => simp
  | cons t ts ih =>
    rw [List.map_cons, List.map_cons, List.sum_cons, List.sum_cons, List.length_cons, Nat.succ_mul]
    have h : (", " : Str).length = 2 := rfl
    rw [h] at ih ⊢
    omega
theorem from_pil : ∀ (ts : List Str) (k : Nat) (acc : Str), (textFrom k acc ts).length ≤ acc.length + pil ts
  | [], k, acc => by show acc.length ≤ acc.length + 0; omega
  | t :: r, k, acc => by
    have h := from_pil r (k + 1) (acc ++ (if k > 0 then ", " else "" : String) ++ t)
    have h2 : (acc ++ (if k > 0 then ", " else "" : String) ++ t : Str).length ≤ acc.length + 2 + t.length := by
      rw [strLen_append, strLen_append]
      have : (Str.ofString (if k > 0 then ", " else "" : String)).length ≤ 2 := by split <;> decide
      omega
    show (textFrom (k + 1) (acc ++ (if k > 0 then ", " else "" : String) ++ t) r).length ≤ _
    unfold pil at h ⊢
    rw [List.map_cons, List.sum_cons]
    omega
theorem int_len {i : Int} (h0 : 0 ≤ i) (h1 : i < 1000000000000000000) : (Str.ofString (toString i)).length ≤ 18 := by
  obtain ⟨n, rfl⟩ := Int.eq_ofNat_of_zero_le h0
  rw [TL.len_tl, show TL.tl (Str.ofString (toString ((n : Nat) : Int))) = TL.numL n from TL.tl_num n]
  exact TL.numL_len (by decide) (by have : (n : Int) < 1000000000000000000 := h1; omega)
mutual
theorem shown_le : ∀ d : PyData, fiS d = true → d.shown.length ≤ wS d
  | .none, _ => by simp only [PyData.shown, wS]; decide
  | .bool b, _ => by simp only [PyData.shown, wS]; cases b <;> decide
  | .int i, h => by
    simp only [PyData.shown, wS]
    simp only [fiS, Bool.and_eq_true] at h
    exact int_len (of_decide_eq_true h.1) (of_decide_eq_true h.2)
  | .str x, h => by
    simp only [PyData.shown, wS]
    simp only [fiS] at h
    exact StrLaws.reprText_len x fun c hc => of_decide_eq_true (List.all_eq_true.mp h c hc)
  | .list xs, h => by
    simp only [PyData.shown, wS]
    simp only [fiS] at h
    have h1 := shownA_le xs h
    have h2 := from_pil (PyData.shownAll xs) 0 "["
    unfold listText
    rw [strLen_append]
    have h3 : ("[" : Str).length = 1 := rfl
    have h4 : ("]" : Str).length = 1 := rfl
    omega
  | .tuple xs, h => by
    simp only [PyData.shown, wS]
    simp only [fiS] at h
    have h1 := shownA_le xs h
    have h2 := join_pil (PyData.shownAll xs)
    unfold tupleText
    rw [strLen_append, strLen_append]
    have h3 : ("(" : Str).length = 1 := rfl
    have h4 : (Str.ofString (if (PyData.shownAll xs).length == 1 then ",)" else ")" : String)).length ≤ 2 := by split <;> decide
    omega
  | .dict xs, h => by
    simp only [PyData.shown, wS]
    simp only [fiS] at h
    have h1 := shownK_le xs h
    have h2 := join_pil (PyData.shownKv xs)
    unfold dictText
    rw [strLen_append, strLen_append]
    have h3 : ("{" : Str).length = 1 := rfl
    have h4 : ("}" : Str).length = 1 := rfl
    omega
theorem shownA_le : ∀ ds : List PyData, fiSA ds = true → pil (PyData.shownAll ds) ≤ wSA ds
  | [], _ => by simp [PyData.shownAll, wSA, pil]
  | x :: xs, h => by
    simp only [fiSA, Bool.and_eq_true] at h
    have h1 := shown_le x h.1
    have h2 := shownA_le xs h.2
    unfold pil at h2 ⊢
    simp only [PyData.shownAll, wSA, List.map_cons, List.sum_cons]
    omega
theorem shownK_le : ∀ ds : List (PyData × PyData), fiSK ds = true → pil (PyData.shownKv ds) ≤ wSK ds
  | [], _ => by simp [PyData.shownKv, wSK, pil]
  | (k, v) :: xs, h => by
    simp only [fiSK, Bool.and_eq_true] at h
    have h1 := shown_le k h.1.1
    have h0 := shown_le v h.1.2
    have h2 := shownK_le xs h.2
    unfold pil at h2 ⊢
    simp only [PyData.shownKv, wSK, List.map_cons, List.sum_cons]
    rw [strLen_append, strLen_append]
    have h3 : (": " : Str).length = 2 := rfl
    omega
end
section
variable {K : PySem.W.Frag} {σ : L2.St} {G G' M H : Hp} {ta tb te : TE} {d d1 d2 d3 : PyData} {ds es : List PyData} {D : Ends} {s2 : TS} {i j : Nat}
/-- x = a + b of lists: the new list is still to be written -/
theorem q_newCat (ha : TrD K ta σ G (.list ds)) (hb : TrD K tb σ G (.list es)) (hn : ds.length + es.length ≤ 100000) (A : At G M H) (k : ∀ p xs G' H', Ex G G' → M p = none → G' p = none → At G' (upd M p (.lst xs)) H' → RpL K G' (ds ++ es) xs → s2 D (σ.set i (some (.ref p))) H') : tSeq (tAsg (tOp rCat ta tb) (gName i)) s2 D σ H := by
  refine ha G M H (Ex.refl _) A _ fun v G1 H1 e1 A1 r1 => ?_
  refine hb G1 M H1 e1 A1 _ fun w G2 H2 e2 A2 r2 => ?_
  obtain ⟨a, xs, rfl, h1, h2⟩ := r1.up e2
  obtain ⟨b, ys, rfl, k1, k2⟩ := r2
  exact ⟨a, b, xs, ys, rfl, rfl, A2.g _ _ h1, A2.g _ _ k1, by rw [h2.len, k2.len]; exact sz_of hn, fun p hp => k p (xs ++ ys) G2 _ (e1.trans e2) (A2.mNone hp) (A2.gNone hp) (A2.nm hp) (h2.app k2)⟩
theorem q_par (ha : TrD K ta σ G d1) (hb : TrD K tb σ G d2) (A : At G M H) (k : ∀ v w G' H', Ex G G' → At G' M H' → Rp K G' d1 v → Rp K G' d2 w → s2 D ((σ.set i (some v)).set j (some w)) H') : tSeq (tPar i j (tCons ta (tCons tb tNil))) s2 D σ H := by
  refine w_A (a_cons ha (a_cons hb a_nil)) A fun vs G1 H1 e1 A1 r1 => ?_
  obtain ⟨v, _, rfl, h1, w, _, rfl, h2, rfl⟩ := r1
  exact ⟨v, w, rfl, k v w G1 H1 e1 A1 h1 h2⟩
/-- if test: xs.append(e) -/
theorem q_ifAppend {b : Bool} {tc : TT} {p : Addr} {xs : List V} (hc : TrB tc σ G b) (hv : b = true → TrD K te σ G d) (hi : σ[i]? = some (some (.ref p))) (rx : RpL K G ds xs) (hn : ds.length < 100000) (A : At G (upd M p (.lst xs)) H)
    (k : ∀ xs' G' H', Ex G G' → At G' (upd M p (.lst xs')) H' → RpL K G' (if b = true then ds ++ [d] else ds) xs' → s2 D σ H') : tSeq (tIfS tc (tDrop (tBM K "list" rAppend (tVar i) (tCons te tNil))) tNext) s2 D σ H := by
  refine s_seq (s_if hc A (fun hb G1 H1 e1 A1 => ?_) fun hb G1 H1 e1 A1 => ?_)
  · refine s_append hi upd_same ((hv hb).up e1) (by rw [rx.len]; exact hn) A1 fun v G2 H2 e2 A2 r2 => ?_
    rw [upd_upd] at A2
    refine k _ G2 H2 (e1.trans e2) A2 ?_
    rw [if_pos hb]
    exact (rx.up (e1.trans e2)).snoc r2
  · refine k _ G1 H1 e1 A1 ?_
    rw [if_neg (by rw [hb]; decide)]
    exact rx.up e1
end
end Sb

namespace Sb
open PySem PySem.Spec PyProof.Rows L2
section
variable {K : PySem.W.Frag} {σ : L2.St} {G G' M M0 M1 H : Hp} {ta tb te tc : TE} {d d1 d2 d3 : PyData} {tt t u : TT} {ts : TA} {ds es : List PyData} {Q : VK} {D : Ends} {s1 s2 tbd : TS} {i j n m n' : Nat} {r p a : Addr} {o : HO} {Φ Φ1 : PyData → Prop}
/-- what is seen of a statement's end, for all its ways at once -/
theorem q_cut (Post : L2.St → Hp → Prop) (k : ∀ σ H, Post σ H → s2 D σ H) (h : (∀ σ H, Post σ H → s2 D σ H) → s1 { D with nx := s2 D } σ H) : tSeq s1 s2 D σ H := h k
/-! ### the script: a list that the program does not write -/
theorem d_lenQ {xs : List V} (hi : σ[i]? = some (some (.ref a))) (hs : SqL K G a xs) : TrD K (tCB (rLen K) (tCons (tVar i) tNil)) σ G (.int xs.length) := fun G1 M H e A Q q =>
  ⟨.ref a, hi, V.ref a, xs.length, rfl, .inl ⟨xs, (e.trans A.g).sl hs, rfl⟩, q.here A rfl⟩
theorem d_ixQ {ns : List Int} {k z : Int} (hi : σ[i]? = some (some (.ref a))) (hs : SqL K G a (ns.map V.int)) (hb : TrD K tb σ G (.int k)) (hk : L2.atI ns k = some z) : TrD K (tOp (rIxL K) (tVar i) tb) σ G (.int z) := fun G1 M H e A Q q => by
  refine ⟨.ref a, hi, ?_⟩
  refine hb G1 M H e A _ fun v G2 H2 e2 A2 r2 => ?_
  refine ⟨a, ns.map V.int, k, V.int z, rfl, r2, ((e.trans e2).trans A2.g).sl hs, ?_, (q.mono e2).here A2 rfl⟩
  unfold L2.atI at hk ⊢
  rw [List.length_map]
  cases h : ixN ns.length k with
  | none => rw [h] at hk; cases hk
  | some j =>
    rw [h] at hk
    show (ns.map V.int)[j]? = _
    rw [List.getElem?_map, show ns[j]? = some z from hk]
    rfl
theorem d_slQ {ns : List Int} {tl th : TO} {lo hi : Option Int} (hσ : σ[i]? = some (some (.ref a))) (hs : SqL K G a (ns.map V.int)) (h1 : TrO tl σ G lo) (h2 : TrO th σ G hi) : TrD K (tSl (rSlL K) (tVar i) tl th) σ G (.list (Sb.cutD (dInts ns) lo hi)) := fun G1 M H e A Q q => by
  refine ⟨.ref a, hσ, ?_⟩
  refine h1 G1 M H e A _ fun G3 H3 e3 A3 => ?_
  refine h2 G3 M H3 (e.trans e3) A3 _ fun G4 H4 e4 A4 => ?_
  refine ⟨a, ns.map V.int, rfl, (((e.trans e3).trans e4).trans A4.g).sl hs, fun p hp => ?_⟩
  exact ((q.mono (e3.trans e4))).newG A4 hp ⟨p, _, rfl, upd_same, RpL.cut ((rpL_ints ns).mpr rfl)⟩
/-! ### for over a list of data, any target -/
theorem s_forLG {g : TG} (Inv : Nat → L2.St → Hp → Hp → Prop) (h : TrD K te σ G (.list ds)) (A : At G M H) (mono : ∀ {k : Nat} {σ1 : L2.St} {G1 G2 M1 : Hp}, Ex G1 G2 → Inv k σ1 G1 M1 → Inv k σ1 G2 M1)
    (h0 : Inv 0 σ G M)
    (hb : ∀ (k : Nat) d, ds[k]? = some d → ∀ x σ1 G1 M1 H1, Ex G G1 → At G1 M1 H1 → Inv k σ1 G1 M1 → Rp K G1 d x → ∀ Nx : L2.St → Hp → Prop, (∀ σ2 G2 M2 H2, Ex G1 G2 → At G2 M2 H2 → Inv (k + 1) σ2 G2 M2 → Nx σ2 H2) →
      g x σ1 H1 fun σ2 H2 => tbd { D with nx := Nx, ct := Nx, bk := D.nx } σ2 H2)
    (hd : ∀ σ1 G1 M1 H1, Ex G G1 → At G1 M1 H1 → Inv ds.length σ1 G1 M1 → D.nx σ1 H1) :
    tFor (iList K te) g tbd D σ H := by
  refine h G M H (Ex.refl _) A _ fun v G2 H2 e2 A2 r => ?_
  obtain ⟨a, xs, rfl, k1, k2⟩ := r
  refine ⟨a, rfl, ⟨xs, SqL.of (A2.g _ _ k1)⟩, ?_⟩
  refine for_list (K := K) (a := a) (xs := xs) (fun t σ' H' => ∃ G3 M3, Ex G2 G3 ∧ At G3 M3 H' ∧ Inv t σ' G3 M3) ⟨G2, M, Ex.refl _, A2, mono e2 h0⟩ ?_ ?_ ?_
  · rintro t σ' H' _ ⟨G3, M3, e3, A3, _⟩
    exact SqL.of (A3.g _ _ (e3 _ _ k1))
  · rintro t x σ' H' hx ⟨G3, M3, e3, A3, hI⟩
    obtain ⟨d, hd1, rd⟩ := k2.get hx
    exact hb t d hd1 _ _ _ _ _ (e2.trans e3) A3 hI (rd.up e3) _ fun σ5 G5 M5 H5 e5 A5 i5 => ⟨G5, M5, e3.trans e5, A5, i5⟩
  · rintro σ' H' ⟨G3, M3, e3, A3, hI⟩
    rw [k2.len] at hI
    exact hd σ' G3 M3 H' (e2.trans e3) A3 hI
/-! ### x.pop(i), x a list that is written, i drawn -/
theorem w_pop {xs : List V} (hi : σ[i]? = some (some (.ref p))) (hp : M0 p = some (.lst xs)) (hn : p ≠ r) (hl : xs.length ≤ 100000) (h : TrE K r M0 te σ G n n' fun d => ∃ k : Nat, d = .int k ∧ k < xs.length) (A : At G M H) (S : Same r M0 M) (R : RL r n M)
    (k : ∀ (k : Nat) y G' M' H', xs[k]? = some y → Ex G G' → At G' M' H' → Same r (upd M0 p (.lst (xs.eraseIdx k))) M' → RL r n' M' → Q y H') : tBM K "list" rPopAt (tVar i) (tCons te tNil) σ H Q := by
  refine ⟨.ref p, hi, Or.inl ⟨rfl, _, Or.inl (Or.inl (A.m _ _ ((S p hn).trans hp)))⟩, ?_⟩
  refine h G M H (Ex.refl _) A S R _ fun d v G2 M2 H2 e2 A2 S2 R2 hd rv => ?_
  obtain ⟨kk, rfl, hk⟩ := hd
  have hM2 : M2 p = some (.lst xs) := (S2 p hn).trans hp
  have hx : xs[kk]? = some xs[kk] := List.getElem?_eq_getElem hk
  refine ⟨p, xs, (kk : Int), kk, xs[kk], rfl, by rw [show v = V.int _ from rv], A2.m _ _ hM2, ?_, ?_, ?_, hx, ?_⟩
  · have h63 : (2 : Int) ^ 63 = 9223372036854775808 := rfl
    omega
  · have h63 : (2 : Int) ^ 63 = 9223372036854775808 := rfl
    omega
  · unfold seqIndex?
    have e1 : ¬ ((kk : Int) < 0) := by omega
    have e2 : (decide (0 ≤ (kk : Int)) && decide ((kk : Int) < (xs.length : Int))) = true := by rw [decide_eq_true (by omega), decide_eq_true (by omega)]; rfl
    simp only [if_neg e1, e2, if_true, Int.toNat_natCast]
  · refine k kk _ G2 (upd M2 p (.lst (xs.eraseIdx kk))) _ hx e2 (A2.wr hM2) (fun x hx => ?_) (R2.upd hn)
    by_cases e : x = p
    · subst e
      rw [upd_same, upd_same]
    · rw [upd_ne e, upd_ne e]
      exact S2 x hx
/-- what was made on the way is let go -/
theorem At.back (A : At G M H) (h : ∀ x, x ≠ r → ∀ o, M0 x = some o → M x = some o) : ∃ M', At G M' H ∧ Same r M0 M' ∧ M' r = M r := by
  refine ⟨fun x => if x = r then M r else M0 x, A.drop fun x o z => ?_, fun x hx => if_neg hx, if_pos rfl⟩
  have z' : (if x = r then M r else M0 x) = some o := z
  by_cases hx : x = r
  · rw [if_pos hx] at z'
    rw [hx]
    exact z'
  · rw [if_neg hx] at z'
    exact h x hx o z'
theorem q_parE {Ψ : List PyData → Prop} (h : TrEA K r M0 (tCons ta (tCons tb tNil)) σ G n n' Ψ) (hl : ∀ ds, Ψ ds → ds.length = 2) (A : At G M H) (S : Same r M0 M) (R : RL r n M)
    (k : ∀ ds v w G' M' H', Ex G G' → At G' M' H' → Same r M0 M' → RL r n' M' → Ψ ds → RpL K G' ds [v, w] → s2 D ((σ.set i (some v)).set j (some w)) H') : tSeq (tPar i j (tCons ta (tCons tb tNil))) s2 D σ H := by
  show tCons ta (tCons tb tNil) σ H (fun vs H1 => ∃ v w, vs = [v, w] ∧ s2 D ((σ.set i (some v)).set j (some w)) H1)
  refine h G M H (Ex.refl G) A S R _ fun ds vs G' M' H' e A' S' R' hd rv => ?_
  have z := rv.len
  rw [hl ds hd] at z
  match vs, z, rv with
  | [v, w], _, rv => exact ⟨v, w, rfl, k ds v w G' M' H' e A' S' R' hd rv⟩
theorem d_val {v : V} (h : Rp K G d v) : TrD K (fun _ H Q => Q v H) σ G d := fun G1 M H e A Q q => q.here A (h.up e)
/-- for over a list whose making draws -/
theorem s_forLE {g : TG} (h : TrE K r M0 te σ G n n' Φ) (hΦ : ∀ d, Φ d → ∃ ds, d = .list ds) (A : At G M H) (S : Same r M0 M) (R : RL r n M)
    (k : ∀ ds v G' M' H', Ex G G' → At G' M' H' → Same r M0 M' → RL r n' M' → Φ (.list ds) → Rp K G' (.list ds) v → tFor (iList K (fun _ H Q => Q v H)) g tbd D σ H') : tFor (iList K te) g tbd D σ H := by
  refine h G M H (Ex.refl G) A S R _ fun d v G' M' H' e A' S' R' hd rv => ?_
  obtain ⟨ds, rfl⟩ := hΦ d hd
  exact k ds v G' M' H' e A' S' R' hd rv
end
end Sb

namespace Sb
open PySem PySem.Spec PyProof.Rows L2
/-! ### the end of a law whose def asks that no repr is running -/
theorem law_goes {P : Program} {w : World} {K : PySem.W.Frag} {mg mb : Str → Option Value} {CX : CXT} {k : Nat} {fn a : Addr} {fd : FuncData} {x : Str} {sp : Sp} {t : Shared} {us : List Value} {ns : List Int}
    (inK : K.In t.heap) (gs : t.heap.Ns mainGlobals mg) (bs : t.heap.Ns builtinsNs mb) (bb : ∀ y : Str, y ≠ "__name__" → mb y = bootBuiltins y) (nl : t.heap.NoLimit) (ng : t.gens = #[])
    (la : t.heap.get? a = some { cls := .type "list", data := .seq us.toArray }) (iu : IntsAre us ns) (sz : ns.length ≤ sizeLine) (rm : Room k callerA)
    (F : ∀ bh : Heap, K.In bh → bh.Ns mainGlobals mg → FnG P w K mg bh CX k fn fd [x] sp) (bnd : ∀ (s : Shared) (u : Value), BindsTo s fd ⟨[u], []⟩ [(x, u)])
    (pr : ∀ H : Hp, Only H → SqL K H a (ns.map V.int) → sp [.ref a] H (fun v _ => v = .bl true) fun _ _ _ => False)
    (hx : ∀ H e s', CX [] H t (fun _ _ _ => False) e s' → False) :
    codeAny (model P w) callerA (.call (.ref fn) ⟨[.ref a], []⟩) (fun o s' => o = .ok (.ret (.bool true)) ∧ OldK t.heap s'.heap ∧ s'.os = t.os ∧ AllBare s'.gens) t := by
  have rel := vals_ints iu
  have eqn := iu.length
  have main : ∀ H : Hp, Only H → SqL K H a (ns.map V.int) → HOk P w H t.heap → (∀ b, H b ≠ none → b = a) → (H a ≠ none → K.lookup a = none) → codeAny (model P w) callerA (.call (.ref fn) ⟨[.ref a], []⟩) (fun o s' => o = .ok (.ret (.bool true)) ∧ OldK t.heap s'.heap ∧ s'.os = t.os ∧ AllBare s'.gens) t := by
    intro H oH sH okH onA outK
    have inBase : ∀ {b : Addr} {o : Obj}, t.heap.get? b = some o → H b = none → (hidT t.heap H).get? b = some o := fun g0 g1 => hidT_get g0 g1
    have notA : ∀ {b : Addr} {o : Obj} {es : Array DictEntry} {ep : Nat}, t.heap.get? b = some o → o.data = .dict es ep → H b = none := fun {b o es ep} g0 g1 => by
      cases hb : H b with
      | none => rfl
      | some u =>
        have z : b = a := onA b (by rw [hb]; intro y; cases y)
        rw [z, la] at g0
        cases g0
        cases (show Data.seq us.toArray _ = Data.dict es ep from g1)
    have nsOf : ∀ {b : Addr} {m : Str → Option Value}, t.heap.Ns b m → (hidT t.heap H).Ns b m := fun {b m} ⟨o, es, ep, g0, g1, g2⟩ => ⟨o, es, ep, inBase g0 (notA g0 g1), g1, g2⟩
    have inHid : K.In (hidT t.heap H) := fun b o g0 => inBase (inK b o g0) (by
      cases hb : H b with
      | none => rfl
      | some u =>
        have z : b = a := onA b (by rw [hb]; intro y; cases y)
        rw [z, outK (by rw [← z, hb]; intro y; cases y)] at g0
        cases g0)
    have modH : Mod K mg (hidT t.heap H) := ⟨inHid, nsOf gs, ⟨mb, nsOf bs, bb⟩, by obtain ⟨mc, y1, y2⟩ := nl; exact ⟨mc, nsOf y1, y2⟩⟩
    have env : Env0 P w K mg (hidT t.heap H) callerA [] t H := ⟨rfl, modH, fun _ _ g0 => of_hidT g0, Nat.le_of_eq (hidT_size _ _), trivial, fun b hb => (by cases (show b ∈ ([] : List Addr) from hb)), okH, .of_eq ng⟩
    have go := (F _ inHid (nsOf gs)).run callerA [] t H ⟨[.ref a], []⟩ [.ref a] [.ref a] _ _ rfl rm env (bnd t (.ref a)) (.cons rfl .nil) (pr H oH sH)
    refine codeAny_mono go fun o s' h => ?_
    match o, h with
    | .error e, h => exact (hx H e s' h).elim
    | .ok .next, h => exact False.elim h
    | .ok .brk, h => exact False.elim h
    | .ok .cont, h => exact False.elim h
    | .ok (.ret u), h =>
      obtain ⟨v, H', os, br, un, okH', rv, hv⟩ := h
      rw [show v = V.bl true from hv] at rv
      cases (show u = Value.bool true from rv)
      refine ⟨rfl, OldK.of_keep fun b o g0 => ?_, os, br⟩
      cases hb : H b with
      | none => exact un.keep b o g0 hb (fun y => by cases (show b ∈ ([] : List Addr) from y)) (by simp)
      | some u =>
        obtain y | ⟨ob, xs, y⟩ := oH b
        · rw [hb] at y; cases y
        · obtain ⟨y1, _⟩ := okH b _ y
          obtain ⟨y2, _⟩ := okH' b _ (un.frzs b ob _ y)
          rw [g0] at y1
          cases y1
          exact y2
  cases ka : K.lookup a with
  | some o =>
    have g0 := inK a o ka
    rw [la] at g0
    cases g0
    exact main (fun _ => none) (fun _ => .inl rfl) (.inr ⟨_, us.toArray, _, ka, rfl, rfl, rfl, by rw [List.size_toArray, eqn]; exact sz, by simpa using rel⟩) (fun _ _ y => by cases (show (none : Option HO) = some _ from y)) (fun _ y => absurd rfl y) fun y => absurd rfl y
  | none =>
    let H0 : Hp := fun b => if b = a then some (.frz { cls := .type "list", data := .seq us.toArray } (.lst (ns.map V.int))) else none
    have at_ : H0 a = some (.frz { cls := .type "list", data := .seq us.toArray } (.lst (ns.map V.int))) := if_pos rfl
    have off : ∀ {b}, b ≠ a → H0 b = none := fun h => if_neg h
    refine main H0 (fun b => ?_) (.inl (.inr ⟨_, at_⟩)) (fun b u y => ?_) (fun b y => ?_) fun _ => ka
    · by_cases hb : b = a
      · rw [hb]; exact .inr ⟨_, _, at_⟩
      · exact .inl (off hb)
    · by_cases hb : b = a
      · rw [hb, at_] at y
        cases y
        rw [hb]
        exact ⟨la, by rw [List.length_map]; exact sz, us, _, rel, la⟩
      · rw [off hb] at y
        cases y
    · exact Decidable.byContradiction fun hb => y (off hb)
theorem law_walks {l : PySem.W.OpenLaw} {n k : Nat} {q : Program} {loose : List Str} {XP : (Str → Option Value) → Heap → Prop} {YP : World → Heap → Prop} {d : DefRec} {CX : CXT} {x : Str} (h1 : l.most = some n) (h2 : n ≤ sizeLine) (h3 : d.params.defaults = []) (h4 : Room k callerA)
    (F : ∀ (w : World) (mg : Str → Option Value) (fn : Addr) (h : Heap), YP w h → h.Ns mainGlobals mg → mg d.name = some (.ref fn) → ∃ (K : PySem.W.Frag) (fd : FuncData) (sp : Sp), K.In h ∧ (∀ (s : Shared) (u : Value), BindsTo s fd ⟨[u], []⟩ [(x, u)]) ∧
        (∀ (H : Hp) (a : Addr) (ns : List Int), ns.length ≤ n → Only H → SqL K H a (ns.map V.int) → sp [.ref a] H (fun v _ => v = .bl true) fun _ _ _ => False) ∧ ∀ bh : Heap, K.In bh → bh.Ns mainGlobals mg → FnG l.prog w K mg bh CX k fn fd [x] sp)
    (hx : ∀ (H : Hp) (s : Shared) (e : Value) (s' : Shared), CX [] H s (fun _ _ _ => False) e s' → False) : PySem.W.WalkO q loose XP YP l.row.toRowW d [] (fun f vs => PySem.call f vs) := by
  refine Att.attach_call h1 h3 fun w s₀ t mg mb fn o pm cd doc a us ns G Y ho hd hcd em eo ei el eg => ?_
  obtain ⟨K, fd, sp, inK, bnd, pr, go⟩ := F w mg fn _ Y G.T.g em
  exact law_goes inK G.T.g G.T.b G.T.builtins G.T.nolimit eg eo ei (Nat.le_trans el h2) h4 go bnd (fun H u v => pr H a ns el u v) fun H e s' => hx H t e s'
end Sb

namespace Sb
open PySem PySem.Spec PyProof.Rows L2
/-! ### what the top leaves of the classes -/
def clsOk (K : PySem.W.Frag) (C : Addr) : Bool := match K.lookup C with
  | some ⟨.type "type", _, .cls cd, sl⟩ => (match cd.mro, sl.toList with
    | .ref C' :: bm, [_, _, _, _, some (.builtin n), _] => C' == C && (n == "ValueError.__new__" && (!cd.hasDel && (cd.hasDict && PySem.HandSPX.refsVE bm)))
    | _, _ => false)
  | _ => false
def initIs (K : PySem.W.Frag) (C : Addr) : Bool := match PySem.W.findCls K (.ref C) (.type "type") "__init__" with
  | some (.val (.builtin n)) => n == "ValueError.__init__"
  | _ => false
/-- an own exception class with its own __init__ -/
def ownX (K : PySem.W.Frag) (x : Str) : Bool := clsOk K (He.ga K x) && (decide (PySem.W.findIn K (.ref (He.ga K x)) "__setattr__" = some (some (.builtin "object.__setattr__"))) && (decide (PySem.W.subIn K (.ref (He.ga K x)) (.type "BaseException") = some true) &&
  (decide (PySem.W.typeIn K (.ref (He.ga K x)) = some (.type "type")) && (PySem.W.keepIn K (.ref (He.ga K x)) && (decide (PySem.W.findIn K (.ref (He.ga K x)) "__init__" = some (some (.ref (He.ma K (He.ga K x) "__init__")))) &&
  (decide (PySem.W.typeIn K (.ref (He.ma K (He.ga K x) "__init__")) = some (.type "function")) && L2.xfB K (He.ga K x)))))))
/-- its parent, which has none -/
def parX (K : PySem.W.Frag) (x : Str) : Bool := decide (PySem.W.specialIn K (.ref (He.ga K x)) "__getattribute__" = some (some (.builtin "type.__getattribute__"))) && (PySem.W.readsIn K (He.ga K x) (.type "type") && initIs K (He.ga K x))
structure OwnX (K : PySem.W.Frag) (x : Str) : Prop where
  o : OexC K (He.ga K x)
  i : PySem.W.findIn K (.ref (He.ga K x)) "__init__" = some (some (.ref (He.ma K (He.ga K x) "__init__")))
  t : PySem.W.typeIn K (.ref (He.ma K (He.ga K x) "__init__")) = some (.type "function")
  f : XfC K (He.ga K x)
structure ParX (K : PySem.W.Frag) (x : Str) : Prop where
  g : PySem.W.specialIn K (.ref (He.ga K x)) "__getattribute__" = some (some (.builtin "type.__getattribute__"))
  r : PySem.W.readsIn K (He.ga K x) (.type "type") = true
  v : PySem.W.findCls K (.ref (He.ga K x)) (.type "type") "__init__" = some (.val (.builtin "ValueError.__init__"))
theorem clsOk_ok {K : PySem.W.Frag} {C : Addr} (h : clsOk K C = true) : ∃ nm q N bs bm sn sub ab col dd k0 k1 k2 k3 k5, K.lookup C = some (excClassObj nm q C N bs bm true sn sub ab col dd k0 k1 k2 k3 k5 "ValueError.__new__") ∧ PySem.HandSPX.refsVE bm = true := by
  unfold clsOk at h
  split at h
  case h_1 dd cd sl e0 =>
    split at h
    case h_1 C' bm k0 k1 k2 k3 n k5 e1 e2 =>
      obtain ⟨h1, h⟩ := Bool.and_eq_true_iff.mp h
      obtain ⟨h2, h⟩ := Bool.and_eq_true_iff.mp h
      obtain ⟨h3, h⟩ := Bool.and_eq_true_iff.mp h
      obtain ⟨h4, h5⟩ := Bool.and_eq_true_iff.mp h
      have g1 := eq_of_beq h1
      have g2 := eq_of_beq h2
      subst g1 g2
      obtain ⟨f1, f2, f3, f4, f5, f6, f7, f8, f9, f10, f11⟩ := cd
      obtain ⟨sl⟩ := sl
      have g5 : sl = [k0, k1, k2, k3, some (.builtin "ValueError.__new__"), k5] := e2
      have g6 : f3 = .ref C' :: bm := e1
      have g4 : f6 = true := h4
      have g3 : f11 = false := by
        have h3' : (!f11) = true := h3
        cases f11 with
        | true => cases h3'
        | false => rfl
      subst g5 g6 g3 g4
      exact ⟨_, _, _, _, _, _, _, _, _, _, _, _, _, _, _, e0, h5⟩
    case h_2 => cases h
  case h_2 => cases h
theorem ownX_ok {K : PySem.W.Frag} {x : Str} (h : ownX K x = true) : OwnX K x := by
  obtain ⟨h1, h⟩ := Bool.and_eq_true_iff.mp h
  obtain ⟨h2, h⟩ := Bool.and_eq_true_iff.mp h
  obtain ⟨h3, h⟩ := Bool.and_eq_true_iff.mp h
  obtain ⟨h4, h⟩ := Bool.and_eq_true_iff.mp h
  obtain ⟨h5, h⟩ := Bool.and_eq_true_iff.mp h
  obtain ⟨h6, h⟩ := Bool.and_eq_true_iff.mp h
  obtain ⟨h7, h8⟩ := Bool.and_eq_true_iff.mp h
  exact ⟨⟨clsOk_ok h1, of_decide_eq_true h2, of_decide_eq_true h3, of_decide_eq_true h4, h5⟩, of_decide_eq_true h6, of_decide_eq_true h7, xfB_ok h8⟩
theorem parX_ok {K : PySem.W.Frag} {x : Str} (h : parX K x = true) : ParX K x := by
  obtain ⟨h1, h⟩ := Bool.and_eq_true_iff.mp h
  obtain ⟨h2, h3⟩ := Bool.and_eq_true_iff.mp h
  refine ⟨of_decide_eq_true h1, h2, ?_⟩
  unfold initIs at h3
  split at h3
  case h_1 n e => rw [e, eq_of_beq h3]
  case h_2 => cases h3
/-! ### Parent.__init__(self, ..) -/
section
variable {X : Cx} {e : Expr} {es : List Expr} {ta : TA} {x : Str} {p1 p2 pos : Pos}
theorem pe_ceinit {pl : Sem Bool} (hg : Gl X x) (hm : X.mg x = some (.ref (He.ga X.K x))) (T : ParX X.K x) (ha : PA X (e :: es) ta) (hdb : (x == ("__debug__" : Str)) = false := by decide)
    (hc : eval (.Call (.Attribute (.Name x p1) "__init__" p2) (e :: es) [] pos) X.env = (do
      let f0 ← eval (.Name x p1) X.env
      standAt p2.atName
      let (g, hd) ← holding [f0] (getMethod f0 "__init__" pl)
      callWith pos g hd (backTo pos (starEach (e :: es) X.env)) (backToKw pos (keywordEach [] X.env))) := by rfl)
    (he : starEach (e :: es) X.env = (false, eval e X.env) :: starEach es X.env := by rfl) (hpl : (backTo pos (starEach es X.env)).any (·.1) = false := by rfl) :
    PE X (.Call (.Attribute (.Name x p1) "__init__" p2) (e :: es) [] pos) (tVeI X.K ta) := by
  constructor
  intro pins s σ H Q I h
  refine PySem.W.methodCall_KW (ld_glob I hg hm ?_ hdb) hc
  refine PySem.W.method_cls I.kIn T.g (PySem.W.cls_value I.kIn T.r T.v rfl ?_)
  show wpAny _ _ (callWith pos (Value.builtin "ValueError.__init__") [] (backTo pos (starEach (e :: es) X.env)) []) _ _ _
  refine PyProof.Rows.callWith_method1 (thn (ha.run pos pins _ σ H _ (I.tok _) h) ?_) he hpl
  rintro us s1 ⟨vs, H1, I1, r1, a, C, ws, rfl, hl, T1, ea, q⟩
  cases r1 with
  | @cons _ u0 _ ur ra rw' =>
    cases (show u0 = Value.ref a from ra)
    have hz : ur.length ≤ sizeLine := by
      rw [← Paired.length rw']
      exact Nat.le_trans hl (by decide)
    exact oinit_ok T1 I1 ea hz fun s' J => ⟨.non, H1, J, rfl, q⟩
end
/-! ### own exceptions with two fields, with one -/
def spIni2 (C : Addr) (f1 f2 : Str) : Sp := fun vs H Q _ => ∃ a v1 v2, vs = [.ref a, v1, v2] ∧ H a = some (exo a C none) ∧ ∀ d, H d = none → d ≠ a → Q .non (upd (upd (upd H d (exd d [(f1, v1)])) a (exo a C (some d))) d (exd d [(f2, v2), (f1, v1)]))
def spIni1 (C : Addr) (f1 : Str) : Sp := fun vs H Q _ => ∃ a v1, vs = [.ref a, v1] ∧ H a = some (exo a C none) ∧ ∀ d, H d = none → d ≠ a → Q .non (upd (upd H d (exd d [(f1, v1)])) a (exo a C (some d)))
section
variable {K : PySem.W.Frag} {σ : L2.St} {G G' M H : Hp} {ts : TA} {C a : Addr} {f1 f2 msg : Str} {d1 d2 : PyData} {v1 v2 : V} {Q : VK} {E : XK}
theorem ini2 (T : OexC K C) (n1 : PySem.W.findIn K (.ref C) f1 = some none) (n2 : PySem.W.findIn K (.ref C) f2 = some none) {D : Ends} (h : H a = some (exo a C none)) (k : ∀ d, H d = none → d ≠ a → D.nx [some (.ref a), some v1, some v2] (upd (upd (upd H d (exd d [(f1, v1)])) a (exo a C (some d))) d (exd d [(f2, v2), (f1, v1)]))) :
    tSeq (tDrop (tVeI K (tCons (tVar 0) (tCons (tC (.str msg)) tNil)))) (tSeq (tOst K f1 (tVar 0) (tVar 1)) (tOst K f2 (tVar 0) (tVar 2))) D [some (.ref a), some v1, some v2] H := by
  refine ⟨_, rfl, a, C, [.str msg], rfl, Nat.le_of_ble_eq_true rfl, T, h, ?_⟩
  refine ⟨v1, rfl, .ref a, rfl, a, C, rfl, T, n1, .inl ⟨h, fun d hd hda => ?_⟩⟩
  refine ⟨v2, rfl, .ref a, rfl, a, C, rfl, T, n2, .inr ⟨d, [(f1, v1)], upd_same, ?_, Nat.le_of_ble_eq_true rfl, k d hd hda⟩⟩
  rw [upd_ne hda, upd_same]
theorem ini1 (T : OexC K C) (n1 : PySem.W.findIn K (.ref C) f1 = some none) {D : Ends} (h : H a = some (exo a C none)) (k : ∀ d, H d = none → d ≠ a → D.nx [some (.ref a), some v1] (upd (upd H d (exd d [(f1, v1)])) a (exo a C (some d)))) :
    tSeq (tDrop (tVeI K (tCons (tVar 0) (tCons (tC (.str msg)) tNil)))) (tOst K f1 (tVar 0) (tVar 1)) D [some (.ref a), some v1] H := by
  refine ⟨_, rfl, a, C, [.str msg], rfl, Nat.le_of_ble_eq_true rfl, T, h, ?_⟩
  exact ⟨v1, rfl, .ref a, rfl, a, C, rfl, T, n1, .inl ⟨h, fun d hd hda => k d hd hda⟩⟩
/-- what is wanted of an exception of the class x with these fields -/
def ResX (K : PySem.W.Frag) (G M : Hp) (x : Str) (fs : List (Str × PyData)) (E : XK) : Prop := ∀ d gs G' H', Ex G G' → At G' M H' → G' d = some (.xd gs) → (∀ f r, (f, r) ∈ fs → ∃ v, gs.lookup f = some v ∧ Rp K G' r v) → E (.ref (He.ga K x)) (some d) H'
theorem ResX.mono {x : Str} {fs : List (Str × PyData)} (e : Ex G G') (h : ResX K G M x fs E) : ResX K G' M x fs E := fun d gs G2 H2 e2 A => h d gs G2 H2 (e.trans e2) A
theorem s_raise2 {x : Str} (h : TrA K ts σ G [d1, d2]) (hf : f1 ≠ f2) (A : At G M H) (k : ResX K G M x [(f1, d1), (f2, d2)] E) : tMkO (He.ga K x) (spIni2 (He.ga K x) f1 f2) [] ts σ H fun cls d H' => E cls d H' := by
  refine w_A h A fun vs G1 H1 e1 A1 r => ?_
  obtain ⟨v1, _, rfl, r1, v2, _, rfl, r2, rfl⟩ := r
  refine ⟨Nat.le_of_ble_eq_true rfl, fun a ha => ⟨a, v1, v2, rfl, upd_same, fun d hd hda => ⟨rfl, d, [(f2, v2), (f1, v1)], ?_, upd_same, ?_, ?_⟩⟩⟩
  · rw [upd_ne (Ne.symm hda), upd_same]
  · rw [upd_ne hda] at hd
    exact hd
  · rw [upd_ne hda] at hd
    have hH : upd (del (upd (upd (upd (upd H1 a (exo a (He.ga K x) none)) d (exd d [(f1, v1)])) a (exo a (He.ga K x) (some d))) d (exd d [(f2, v2), (f1, v1)])) a) d (.xd [(f2, v2), (f1, v1)]) = upd H1 d (.xd [(f2, v2), (f1, v1)]) := by
      funext y
      by_cases hy : y = d
      · subst hy
        rw [upd_same, upd_same]
      · rw [upd_ne hy, upd_ne hy]
        by_cases hya : y = a
        · subst hya
          rw [del_same, ha]
        · rw [del_ne hya, upd_ne hy, upd_ne hya, upd_ne hy, upd_ne hya]
    rw [hH]
    have eN : Ex G1 (upd G1 d (.xd [(f2, v2), (f1, v1)])) := Ex.new (A1.gNone hd)
    refine k d _ _ _ (e1.trans eN) (A1.ng hd) upd_same fun f r hm => ?_
    rcases List.mem_cons.mp hm with e | hm
    · cases e
      refine ⟨v1, ?_, r1.up eN⟩
      rw [L2.lookup_put, if_neg hf, L2.lookup_put, if_pos rfl]
    · cases List.mem_singleton.mp hm
      exact ⟨v2, by rw [L2.lookup_put, if_pos rfl], r2.up eN⟩
theorem s_raise1 {x : Str} (h : TrA K ts σ G [d1]) (A : At G M H) (k : ResX K G M x [(f1, d1)] E) : tMkO (He.ga K x) (spIni1 (He.ga K x) f1) [] ts σ H fun cls d H' => E cls d H' := by
  refine w_A h A fun vs G1 H1 e1 A1 r => ?_
  obtain ⟨v1, _, rfl, r1, rfl⟩ := r
  refine ⟨Nat.le_of_ble_eq_true rfl, fun a ha => ⟨a, v1, rfl, upd_same, fun d hd hda => ⟨rfl, d, [(f1, v1)], upd_same, ?_, ?_, ?_⟩⟩⟩
  · rw [upd_ne hda, upd_same]
  · rw [upd_ne hda] at hd
    exact hd
  · rw [upd_ne hda] at hd
    have hH : upd (del (upd (upd (upd H1 a (exo a (He.ga K x) none)) d (exd d [(f1, v1)])) a (exo a (He.ga K x) (some d))) a) d (.xd [(f1, v1)]) = upd H1 d (.xd [(f1, v1)]) := by
      funext y
      by_cases hy : y = d
      · subst hy
        rw [upd_same, upd_same]
      · rw [upd_ne hy, upd_ne hy]
        by_cases hya : y = a
        · subst hya
          rw [del_same, ha]
        · rw [del_ne hya, upd_ne hya, upd_ne hy, upd_ne hya]
    rw [hH]
    have eN : Ex G1 (upd G1 d (.xd [(f1, v1)])) := Ex.new (A1.gNone hd)
    refine k d _ _ _ (e1.trans eN) (A1.ng hd) upd_same fun f r hm => ?_
    cases List.mem_singleton.mp hm
    exact ⟨v1, by rw [L2.lookup_put, if_pos rfl], r1.up eN⟩
/-! ### a def that gives a datum or raises -/
inductive Out where
  | val (d : PyData)
  | exc (x : Str) (fs : List (Str × PyData))
def Out.ok (K : PySem.W.Frag) (G M : Hp) (Q : VK) (E : XK) : Out → Prop
  | .val d => Res K G M d Q
  | .exc x fs => ResX K G M x fs E
def XSp (K : PySem.W.Frag) (R : List PyData → Out → Prop) : Sp := fun vs H Q E => ∃ G M ds o, At G M H ∧ RpL K G ds vs ∧ R ds o ∧ Out.ok K G M Q E o
theorem XSp.len {R : List PyData → Out → Prop} {n : Nat} (hR : ∀ ds o, R ds o → ds.length = n) {vs : List V} (h : XSp K R vs H Q E) : vs.length = n := by
  obtain ⟨G, M, ds, o, _, hr, h2, _⟩ := h
  rw [hr.len, hR _ _ h2]
theorem d_callX {R : List PyData → Out → Prop} {ds : List PyData} {d : PyData} {E : XK} (h : TrA K ts σ G ds) (hr : R ds (.val d)) : TrD K (tCall (XSp K R) [] E ts) σ G d := fun G1 M H e A Q q => by
  refine h G1 M H e A _ fun vs G2 H2 e2 A2 r2 => ?_
  exact ⟨G2, M, ds, .val d, A2, by rw [List.append_nil]; exact r2, hr, q.mono e2⟩
theorem w_callX {R : List PyData → Out → Prop} {ds : List PyData} {x : Str} {fs : List (Str × PyData)} (h : TrA K ts σ G ds) (hr : R ds (.exc x fs)) (A : At G M H) (k : ResX K G M x fs E) : tCall (XSp K R) [] E ts σ H Q := by
  refine w_A h A fun vs G2 H2 e2 A2 r2 => ?_
  exact ⟨G2, M, ds, .exc x fs, A2, by rw [List.append_nil]; exact r2, hr, k.mono e2⟩
theorem d_callS {R : List PyData → Out → Prop} {ds : List PyData} {d : PyData} {E : L2.St → XK} (h : TrA K ts σ G ds) (hr : R ds (.val d)) : TrD K (tCallS (XSp K R) E ts) σ G d := fun G1 M H e A Q q => by
  refine h G1 M H e A _ fun vs G2 H2 e2 A2 r2 => ?_
  exact ⟨G2, M, ds, .val d, A2, r2, hr, q.mono e2⟩
theorem w_callS {R : List PyData → Out → Prop} {ds : List PyData} {x : Str} {fs : List (Str × PyData)} {E : L2.St → XK} (h : TrA K ts σ G ds) (hr : R ds (.exc x fs)) (A : At G M H) (k : ResX K G M x fs (E σ)) : tCallS (XSp K R) E ts σ H Q := by
  refine w_A h A fun vs G2 H2 e2 A2 r2 => ?_
  exact ⟨G2, M, ds, .exc x fs, A2, r2, hr, k.mono e2⟩
/-- e.f of the exception that is caught -/
theorem d_xf {a : Addr} {d : Addr} {C : Addr} {f : Str} {gs : List (Str × V)} {v : V} {i : Nat} {r : PyData} (hi : σ[i]? = some (some (.ref a))) (hd : G d = some (.xd gs)) (hl : gs.lookup f = some v) (hr : Rp K G r v) : TrD K (tXf a (.ref C) (some d) C f (tVar i)) σ G r := fun G1 M H e A Q q =>
  ⟨.ref a, hi, rfl, rfl, d, gs, v, rfl, A.g _ _ (e _ _ hd), hl, q.here A (hr.up e)⟩
end
/-! ### calls in a try, the try itself -/
section
variable {X : Cx} {CX : CXT} {k : Nat} {x : Str} {sp : Sp} {E : L2.St → XK} {p pos : Pos} {e : Expr} {es : List Expr} {t : TA}
theorem pe_fdS (F : Fd X.prog X.w X.K X.mg X.base CX k x sp []) (hg : X.A.guards = some []) (hr : Room k X.A) (hx : ∀ σ, PassesAt CX X σ (E σ)) (ha : PA X (e :: es) t) (hgl : Gl X x := by rfl)
    (hdb : (x == ("__debug__" : Str)) = false := by decide) (he : starEach (e :: es) X.env = (false, eval e X.env) :: starEach es X.env := by rfl) (hpl : (backTo pos (starEach es X.env)).any (·.1) = false := by rfl) :
    PE X (.Call (.Name x p) (e :: es) [] pos) (tCallS sp E t) := by
  obtain ⟨f, fd, ps, ds, hm, hk, hb, hd, F⟩ := F
  cases hd
  constructor
  intro pins s σ H Q I h
  apply wpAny_Call_Name_kw
  refine ld_glob I hgl hm ?_ hdb
  refine PySem.W.callWith_K (h₀ := X.base) I.ok.mod.kin hk (thn (ha.run pos pins s σ H _ I h) ?_) he hpl
  rintro us s1 ⟨vs, H1, I1, r, q⟩
  refine ⟨I1.kIn, ?_⟩
  have q' : sp vs H1 Q (E σ) := q
  have l' : us.length = ps.length := r.length.symm.trans (F.len _ _ _ _ q')
  have b := hb s1 us I1.kIn (by rw [List.append_nil]; exact l')
  rw [List.append_nil] at b
  apply wpAny_call
  refine codeAny_mono (F.run X.A X.stack s1 H1 ⟨us, []⟩ us vs Q (E σ) hg hr I1.env0 b r q') ?_
  rintro (e | (_ | _ | _ | u)) s' hq
  · exact hx σ pins H1 s1 e s' I1 hq
  · exact hq.elim
  · exact hq.elim
  · exact hq.elim
  · exact I1.after hq
end
end Sb

namespace Sb
open PySem PySem.Spec PyProof.Rows L2
/-! ### try with «except x as n» first, further clauses that are not come to -/
def wFst (K : PySem.W.Frag) (c : Value) (i : Nat) (ts : Addr → Value → Option Addr → TS) (D : Ends) : WX := fun cls d σ H => PySem.W.exmOne K cls c = some true ∧
  ∀ a, H a = none → ts a cls d { nx := fun τ J => D.nx (τ.set i none) J, rt := D.rt, bk := fun τ J => D.bk (τ.set i none) J, ct := fun τ J => D.ct (τ.set i none) J } (σ.set i (some (.ref a))) H
section
variable {X : Cx} {x n : Str} {c : Value} {i : Nat} {body suite : List Stmt} {b₀ : Stmt} {np pos pos' : Pos} {more : List ExceptHandler} {tb : WX → TS} {ts : Addr → Value → Option Addr → TS}
theorem ps_try_fst (h1 : X.stack = X.env :: X.outer) (h2 : X.env.frame = some X.env.locals) (h3 : X.N.Nodup) (h4 : X.N[i]? = some n) (h5 : X.env.kindOf n = some .local) (hc : Names X x c)
    (hb : ∀ (W : WX) (pn : List (Addr × Obj)) (xe : Value → Shared → Prop), Takes (X.tr pn xe) W → PassesOwn (model X.prog X.w) X.A X.env xe → PSs (X.tr pn xe) body (tb W))
    (ho : ∀ (a : Addr) (oe : Obj) (cls : Value) (d : Option Addr) (pn : List (Addr × Obj)), Zc cls d oe → (∃ vs, oe.data = .fields vs) → PSs (X.suite a ((a, oe) :: pn)) (b₀ :: suite) (ts a cls d)) :
    PS X (.Try body (.ExceptHandler (some (.Name x np)) (some n) (b₀ :: suite) pos' :: more) [] [] pos) (fun D σ H => tb (wFst X.K c i ts D) D σ H) := by
  constructor
  intro pins s σ H D I h
  have ok0 := I.ok
  have fr0 : X.A.frames = some (X.env :: X.outer) := by
    rw [ok0.frames, h1]
  refine wpAny_Try_except ?_
  have hT := hb (wFst X.K c i ts D) (X.pn ++ pins) (fun e t1 => wpAny (model X.prog X.w) X.A (noteFrame e X.env) (fun _ t2 => wpAny (model X.prog X.w) X.A (setFlight e none) (fun _ t3 => wpAny (model X.prog X.w) X.A (handleBy e X.env (.ExceptHandler (some (.Name x np)) (some n) (b₀ :: suite) pos' :: more)) (SP X pins D) X.xe t3) X.xe t2) X.xe t1) ?_ PassesOwn.looking
  · refine wpAny_mono (hT.run [] s σ H D (I.toTry _) h) ?_ fun _ _ z => z
    rintro (_ | _ | _ | u) t1 hq
    · obtain ⟨τ, J, K1, q⟩ := hq
      exact wpAny_execs_nil ⟨τ, J, K1.ofTry ok0, q⟩
    · obtain ⟨τ, J, K1, q⟩ := hq
      exact ⟨τ, J, K1.ofTry ok0, q⟩
    · obtain ⟨τ, J, K1, q⟩ := hq
      exact ⟨τ, J, K1.ofTry ok0, q⟩
    · obtain ⟨v, τ, J, K1, r, q⟩ := hq
      exact ⟨v, τ, J, K1.ofTry ok0, r, q⟩
  intro u t1 xx
  obtain ⟨a, B, t0, pins1, τ, J, cls, d, rfl, I1, nb, up, sky, na, os, ag, hm, go⟩ := xx
  have I2 : Inv X pins τ J t0 := I1.ofTry ok0
  rw [show (X.tr (X.pn ++ pins) _).stack = X.env :: X.outer from h1] at sky
  show wpAny (model X.prog X.w) X.A (noteFrame (.ref a) X.env) _ _ _
  refine Sky.land Zc.steady fr0 h2 sky fun m3 fl3 up3 => ?_
  have I3 : Inv X pins τ J { t1 with heap := m3 } := I2.landed nb fl3.1 (up.trans up3) os ag
  obtain ⟨o3, vs3, g3, z3, d3⟩ := fl3.there
  have off : a ∉ frs (X.env :: X.outer) := fun hin => by
    obtain ⟨_, o', g', hnf⟩ := fl3.2.2.1.mem hin
    rw [g3] at g'
    cases g'
    exact hnf _ d3
  have offL : a ≠ X.env.locals := fun z => off (List.mem_filterMap.mpr ⟨X.env, List.mem_cons_self, by rw [h2, z]⟩)
  have offF : a ∉ X.fs := fun hin => by
    obtain ⟨e, he, q⟩ := List.mem_filterMap.mp hin
    exact off (List.mem_filterMap.mpr ⟨e, List.mem_cons_of_mem _ he, q⟩)
  have S3 := I3.suite g3 d3 na offL offF
  refine wpAny_handleBy_cons (codeAny_handlers_test ?_) (by intro z; cases z)
  have lookT : PySem.W.Looks (model X.prog X.w) m3 (typeOf (.ref a)) cls := fun A Q E s k q => wpAny_typeOf_ref (k _ _ g3) (by rw [z3.1]; exact q)
  have lookM := PySem.W.exm_one (M := model X.prog X.w) I3.kIn lookT hm
  have nameIs : ∀ {Q E : Value → Shared → Prop}, Q c { t1 with heap := m3 } → wpAny (model X.prog X.w) (X.A.mark (some (.ref a))) (eval (.Name x np) X.env) Q E { t1 with heap := m3 } := fun {Q E} q => by
    obtain ⟨y1, y2, y3 | ⟨y3, y4, y5⟩⟩ := hc
    · exact ld_glob (X := X.suite a ((a, o3) :: (X.pn ++ pins))) S3 y1 y3 q y2
    · exact ld_blt (X := X.suite a ((a, o3) :: (X.pn ++ pins))) S3 y1 y3 y4 q y5 y2
  refine nameIs (lookM.here ?_)
  refine codeAny_handlers_suite_as ?_
  refine HandSPX.lands_againZ fl3 fun m4 fl4 up4 => ?_
  have I4 : Inv X pins τ J { t1 with heap := m4 } := I2.landed nb fl4.1 ((up.trans up3).trans up4) os ag
  obtain ⟨o4, vs4, g4, z4, d4⟩ := fl4.there
  have S4 := I4.suite g4 d4 na offL offF
  refine store_ok (X := X.suite a ((a, o4) :: (X.pn ++ pins))) (v := .ref a) S4 h3 h4 (.inl h5) rfl (fun t5 S5 => ?_) (.inr h5)
  have end_ : ∀ {σ6 : L2.St} {H6 : Hp} {t6 : Shared} {Q : Shared → Prop}, Inv (X.suite a ((a, o4) :: (X.pn ++ pins))) [] σ6 H6 t6 → (∀ t7, Inv X pins (σ6.set i none) H6 t7 → Q t7) → wpAny (model X.prog X.w) X.A (do bindName X.env n .none; unbindBehindTheSuite X.env n pos') (fun _ t7 => Q t7) X.xe t6 := fun {σ6 H6 t6 Q} S6 hq => gone_ok (S6.unsuite ok0) h3 h4 h5 hq
  refine wpAny_mono ((ho a o4 cls d (X.pn ++ pins) z4 ⟨_, d4⟩).run [] t5 _ J _ S5 (go a na)) ?_ fun _ _ z => False.elim z
  rintro (_ | _ | _ | u) t6 hq
  · obtain ⟨σ6, H6, S6, q6⟩ := hq
    exact end_ S6 fun _ J7 => ⟨_, _, J7, q6⟩
  · obtain ⟨σ6, H6, S6, q6⟩ := hq
    exact end_ S6 fun _ J7 => ⟨_, _, J7, q6⟩
  · obtain ⟨σ6, H6, S6, q6⟩ := hq
    exact end_ S6 fun _ J7 => ⟨_, _, J7, q6⟩
  · obtain ⟨v6, σ6, H6, S6, r6, q6⟩ := hq
    exact end_ S6 fun _ J7 => ⟨_, _, _, J7, r6, q6⟩
end
end Sb
namespace Sb
open PySem PySem.Spec PyProof.Rows L2
section
variable {X : Cx} {x f1 f2 : Str} {p pos : Pos} {e : Expr} {es : List Expr} {ta : TA}
theorem pmk_own2 (T : OwnX X.K x) (F : ∃ fd ps, FnOk X.prog X.w X.K X.mg X.base CX0 1 (He.ma X.K (He.ga X.K x) "__init__") fd ps (spIni2 (He.ga X.K x) f1 f2) ∧ Binds X.K fd ps []) (hr : Room 2 X.A) (hg : Gl X x) (hm : X.mg x = some (.ref (He.ga X.K x))) (ha : PA X (e :: es) ta)
    (hdb : (x == ("__debug__" : Str)) = false := by decide) (he : starEach (e :: es) X.env = (false, eval e X.env) :: starEach es X.env := by rfl) (hpl : (backTo pos (starEach es X.env)).any (·.1) = false := by rfl) :
    PMk X (.Call (.Name x p) (e :: es) [] pos) (tMkO (He.ga X.K x) (spIni2 (He.ga X.K x) f1 f2) [] ta) := by
  obtain ⟨fd, ps, F1, hb⟩ := F
  exact pmk_oex T.o T.i T.t F1 hr hb .nil pass0 hg hm ha hdb he hpl
theorem pmk_own1 (T : OwnX X.K x) (F : ∃ fd ps, FnOk X.prog X.w X.K X.mg X.base CX0 1 (He.ma X.K (He.ga X.K x) "__init__") fd ps (spIni1 (He.ga X.K x) f1) ∧ Binds X.K fd ps []) (hr : Room 2 X.A) (hg : Gl X x) (hm : X.mg x = some (.ref (He.ga X.K x))) (ha : PA X (e :: es) ta)
    (hdb : (x == ("__debug__" : Str)) = false := by decide) (he : starEach (e :: es) X.env = (false, eval e X.env) :: starEach es X.env := by rfl) (hpl : (backTo pos (starEach es X.env)).any (·.1) = false := by rfl) :
    PMk X (.Call (.Name x p) (e :: es) [] pos) (tMkO (He.ga X.K x) (spIni1 (He.ga X.K x) f1) [] ta) := by
  obtain ⟨fd, ps, F1, hb⟩ := F
  exact pmk_oex T.o T.i T.t F1 hr hb .nil pass0 hg hm ha hdb he hpl
end
end Sb

namespace Sb
section
open PySem PySem.AutoSeq1
theorem ext_tup (l : Addr) (xs : Array Value) (n : Nat) (b : Addr) (ys : Array Value) (m : Nat) (dd : Option Addr) (sl : Array (Option Value)) (h0 : ¬(!xs.isEmpty && Builtin.List.listTooLong (xs.size + ys.size)) = true) (h1 : xs.size ≤ sizeLine) (h2 : xs.size + ys.size ≤ sizeLine + 1) :
    Meets (Builtin.«list.extend» ⟨[.ref l, .ref b], []⟩) (fun _ R s => s.heap.get? l = some { cls := .type "list", dict := none, data := .seq xs n, slots := #[] } ∧ s.heap.get? b = some { cls := .type "tuple", dict := dd, data := .seq ys m, slots := sl } ∧ R (.ok (.ret Value.none)) { s with heap := s.heap.update l (Obj.mapSeq fun x => x ++ ys), toks := s.toks }) :=
  .of_wp fun prog w A R s h => by
    obtain ⟨hp, g, d, tk, os⟩ := s
    obtain ⟨hl, hb, h⟩ := h
    have f1 := idx_int
    have f2 := sub_tuple_tuple
    have f3 := sub_list_list
    have f4 := sub_tuple_list
    have f5 := sub_list_tuple
    have hz' : (xs ++ ys).size ≤ sizeLine + 1 := by rw [Array.size_append]; exact h2
    wp_walk using (wpAny_updateSeq hl rfl (hz := h1) (_hz' := hz')), wpAny_loadPart' hl, wpAny_loadPart' hb
    exact ⟨_, rfl, h⟩
end
open PySem PySem.Spec PyProof.Rows L2
def rExtT (K : PySem.W.Frag) : V → List V → Hp → VK → Prop := fun x vs H Q => ∃ l b xs zs, x = .ref l ∧ vs = [.ref b] ∧ H l = some (.lst xs) ∧ SqT K H b zs ∧ xs.length + zs.length ≤ sizeLine ∧ Q .non (upd H l (.lst (xs ++ zs)))
theorem mt_extT {X : Cx} : MtM X "list.extend" (rExtT X.K) := by
  intro pins s σ H x vs v us Q I rx rv h
  obtain ⟨l, b, xs, zs, rfl, rfl, hH, hB, hz, q⟩ := h
  cases rx
  obtain ⟨u, rfl, ru⟩ := rv.one
  cases ru
  obtain ⟨z, its, n, r, hl, e⟩ := I.lstM hH
  obtain ⟨its2, r2, ⟨⟨oc, od, dt, osl⟩, e2, ec, m, ed⟩, z2⟩ := I.tuple hB
  simp only at ec ed
  subst ec ed
  have hl2 : its2.length = zs.length := r2.length.symm
  have hsz : its.toArray.size + its2.toArray.size ≤ sizeLine := by rw [List.size_toArray, List.size_toArray]; omega
  have hlong : ¬ (!its.toArray.isEmpty && Builtin.List.listTooLong (its.toArray.size + its2.toArray.size)) = true := by
    rw [notLongL hsz, Bool.and_false]
    exact Bool.false_ne_true
  refine call_meets F.slot_list_extend ⟨_, e, rfl⟩ F.entry_list_extend (F.args_list_extend_2 _ _) (ext_tup l its.toArray n b its2.toArray m od osl hlong (by rw [List.size_toArray]; omega) (by omega)) ⟨e, e2, ?_⟩
  refine ⟨.non, _, I.lset (its' := its ++ its2) hH e (by simp) (r.append r2) ?_, rfl, q⟩
  rw [List.length_append]
  omega
section
variable {K : PySem.W.Frag} {σ : L2.St} {G G' M M0 M1 H : Hp} {ta tb te tc : TE} {d d1 d2 d3 : PyData} {tt t u : TT} {ts : TA} {ds es : List PyData} {Q : VK} {D : Ends} {s1 s2 tbd : TS} {i j n m n' : Nat} {r p a : Addr} {o : HO} {Φ Φ1 : PyData → Prop}
def chrs (z : Str) : List Str := z.cps.toList.map fun c => ⟨#[c]⟩
theorem chrs_len (z : Str) : (chrs z).length = z.cps.size := by unfold chrs; rw [List.length_map, Array.length_toList]
theorem chrs_get {z : Str} {k c : Nat} (h : z.cps[k]? = some c) : (chrs z)[k]? = some ⟨#[c]⟩ := by
  unfold chrs
  rw [List.getElem?_map, Array.getElem?_toList, h]
  rfl
/-! ### over the signs of a text -/
theorem d_lcS {tl : TE} {z : Str} {p : Str → Bool} {f : Str → PyData} (hl : TrD K tl σ G (.str z)) (hn : z.cps.size < 100000)
    (ht : ∀ c ∈ chrs z, ∀ G1, Ex G G1 → TrB tt ((wipe σ [i]).set i (some (.str c))) G1 (p c))
    (he : ∀ c ∈ chrs z, p c = true → ∀ G1, Ex G G1 → TrD K te ((wipe σ [i]).set i (some (.str c))) G1 (f c)) :
    TrD K (tLc (iStr tl) (gName i) tt te [i]) σ G (.list (((chrs z).filter p).map f)) := fun G1 M H e A Q q => by
  refine hl G1 M H e A _ fun v G2 H2 e2 A2 rv => ?_
  refine ⟨z, rv, fun D hD => ?_⟩
  refine ⟨fun t m H3 => m = z.cps.size - t ∧ t ≤ z.cps.size ∧ ∃ Gj acc, Ex G2 Gj ∧ At Gj (upd M D (.lst acc)) H3 ∧ RpL K Gj ((((chrs z).take t).filter p).map f) acc, ⟨z.cps.size, by simp, Nat.zero_le _, G2, [], Ex.refl _, A2.nm hD, rfl⟩, ?_⟩
  rintro t m H3 ⟨rfl, ht', Gj, acc, ej, Aj, rj⟩
  by_cases hlt : t < z.cps.size
  · refine .inr ⟨hlt, fun H4 => ∃ Gj acc, Ex G2 Gj ∧ At Gj (upd M D (.lst acc)) H4 ∧ RpL K Gj ((((chrs z).take (t + 1)).filter p).map f) acc, fun H4 w => ⟨z.cps.size - (t + 1), by omega, rfl, hlt, w⟩, ?_⟩
    rintro y H4 ⟨rfl, c, hc, rfl⟩
    have hk := chrs_get hc
    have hm := List.mem_of_getElem? hk
    have htk : (chrs z).take (t + 1) = (chrs z).take t ++ [⟨#[c]⟩] := by rw [List.take_add_one, hk]; rfl
    show wipe _ _ = wipe _ _ ∧ _
    refine ⟨wipe_set, ?_⟩
    refine ht _ hm Gj ((e.trans e2).trans ej) Gj _ H4 (Ex.refl _) Aj _ fun G4 H4 e4 A4 => ?_
    cases hp : p ⟨#[c]⟩ with
    | false =>
      refine ⟨G4, acc, ej.trans e4, A4, ?_⟩
      rw [htk, List.filter_append, List.filter_cons, hp]
      simpa using rj.up e4
    | true =>
      refine he _ hm hp G4 ((e.trans e2).trans (ej.trans e4)) G4 _ H4 (Ex.refl _) A4 _ fun v5 G5 H5 e5 A5 r5 => ?_
      refine ⟨acc, A5.m _ _ upd_same, ?_, G5, acc ++ [v5], ej.trans (e4.trans e5), ?_, ?_⟩
      · rw [rj.len, List.length_map]
        refine sz_lt (Nat.lt_of_le_of_lt (Nat.le_trans (List.length_filter_le _ _) ?_) hn)
        rw [List.length_take, chrs_len]
        exact Nat.min_le_right _ _
      · have w := A5.wr (o := .lst (acc ++ [v5])) (upd_same (H := M) (a := D) (o := .lst acc))
        rw [upd_upd] at w
        exact w
      · rw [htk, List.filter_append, List.filter_cons, hp, List.map_append]
        exact (rj.up (e4.trans e5)).snoc r5
  · have e1 : t = z.cps.size := by omega
    subst e1
    have hl2 : (chrs z).take z.cps.size = chrs z := by rw [← chrs_len, List.take_length]
    rw [hl2] at rj
    have hM : M D = none := A2.mNone hD
    have hm := upd_same (H := M) (a := D) (o := HO.lst acc)
    exact .inl ⟨Nat.le_refl _, q _ _ _ ((e2.trans ej).trans (Aj.frzG hm)) (Aj.frz hm (Ex.new hM) hM) ⟨D, acc, rfl, upd_same, rj.up (Aj.frzG hm)⟩⟩
theorem s_forSI {z : Str} (Inv : Nat → L2.St → Hp → Hp → Prop) (h : TrD K te σ G (.str z)) (A : At G M H) (mono : ∀ {k : Nat} {σ1 : L2.St} {G1 G2 M1 : Hp}, Ex G1 G2 → Inv k σ1 G1 M1 → Inv k σ1 G2 M1)
    (h0 : Inv 0 σ G M)
    (hb : ∀ (k : Nat) c, (chrs z)[k]? = some c → ∀ σ1 G1 M1 H1, Ex G G1 → At G1 M1 H1 → Inv k σ1 G1 M1 → ∀ Nx : L2.St → Hp → Prop, (∀ σ2 G2 M2 H2, Ex G1 G2 → At G2 M2 H2 → Inv (k + 1) σ2 G2 M2 → Nx σ2 H2) →
      tbd { D with nx := Nx, ct := Nx, bk := D.nx } (σ1.set i (some (.str c))) H1)
    (hd : ∀ σ1 G1 M1 H1, Ex G G1 → At G1 M1 H1 → Inv (chrs z).length σ1 G1 M1 → D.nx σ1 H1) :
    tFor (iStr te) (gName i) tbd D σ H := by
  refine w_D h A fun v G2 H2 e2 A2 rv => ?_
  refine ⟨z, rv, ?_⟩
  refine ⟨fun t m σ' H' => m = z.cps.size - t ∧ t ≤ z.cps.size ∧ ∃ G3 M3, Ex G2 G3 ∧ At G3 M3 H' ∧ Inv t σ' G3 M3, ⟨z.cps.size, by simp, Nat.zero_le _, G2, M, Ex.refl _, A2, mono e2 h0⟩, ?_⟩
  rintro t m σ' H' ⟨rfl, ht, G3, M3, e3, A3, hI⟩
  by_cases hlt : t < z.cps.size
  · refine .inr ⟨hlt, fun σ' H' => ∃ G3 M3, Ex G2 G3 ∧ At G3 M3 H' ∧ Inv (t + 1) σ' G3 M3, fun σ2 H3 w => ⟨z.cps.size - (t + 1), by omega, rfl, hlt, w⟩, ?_⟩
    rintro x H4 ⟨rfl, c, hc, rfl⟩
    exact hb t _ (chrs_get hc) _ _ _ _ (e2.trans e3) A3 hI _ fun σ5 G5 M5 H5 e5 A5 i5 => ⟨G5, M5, e3.trans e5, A5, i5⟩
  · have e1 : t = (chrs z).length := by rw [chrs_len]; omega
    subst e1
    exact .inl ⟨by show z.cps.size ≤ _; rw [chrs_len]; exact Nat.le_refl _, hd σ' G3 M3 H' (e2.trans e3) A3 hI⟩
/-! ### [e for i, x in enumerate(list)] -/
theorem d_lcE {tl : TE} {p : Nat → PyData → Bool} {f : Nat → PyData → PyData} {g : TG} (hij : i ≠ j) (hl : TrD K tl σ G (.list ds)) (hn : ds.length < 100000) (hg : g = gTup K 2 (gCons (gName i) (gCons (gName j) gNil)))
    (ht : ∀ (k : Nat) d, ds[k]? = some d → ∀ x G1, Ex G G1 → Rp K G1 d x → TrB tt (((wipe σ [i, j]).set i (some (.int k))).set j (some x)) G1 (p k d))
    (he : ∀ (k : Nat) d, ds[k]? = some d → p k d = true → ∀ x G1, Ex G G1 → Rp K G1 d x → TrD K te (((wipe σ [i, j]).set i (some (.int k))).set j (some x)) G1 (f k d)) :
    TrD K (tLc (iEnum K (tCons tl tNil)) g tt te [i, j]) σ G (.list ((ds.zipIdx.filter fun q => p q.2 q.1).map fun q => f q.2 q.1)) := fun G1 M H e A Q q => by
  subst hg
  refine hl G1 M H e A _ fun v G2 H2 e2 A2 rv => ?_
  obtain ⟨a, xs, rfl, k1, k2⟩ := rv
  refine ⟨a, xs, rfl, SqL.of (A2.g _ _ k1), fun D hD => ?_⟩
  have hMD : M D = none := A2.mNone hD
  refine ⟨fun t m H3 => m = xs.length - t ∧ t ≤ xs.length ∧ ∃ Gj acc, Ex G2 Gj ∧ At Gj (upd M D (.lst acc)) H3 ∧ RpL K Gj (((ds.zipIdx.take t).filter fun q => p q.2 q.1).map fun q => f q.2 q.1) acc, ⟨xs.length, by simp, Nat.zero_le _, G2, [], Ex.refl _, A2.nm hD, rfl⟩, ?_⟩
  rintro t m H3 ⟨rfl, ht', Gj, acc, ej, Aj, rj⟩
  have hsq : SqL K H3 a xs := SqL.of (Aj.g _ _ (ej _ _ k1))
  by_cases hlt : t < xs.length
  · have hx : xs[t]? = some xs[t] := List.getElem?_eq_getElem hlt
    obtain ⟨d, hd, rd⟩ := k2.get hx
    refine .inr ⟨⟨xs, xs[t], hsq, hx⟩, fun H4 => ∃ Gj acc, Ex G2 Gj ∧ At Gj (upd M D (.lst acc)) H4 ∧ RpL K Gj (((ds.zipIdx.take (t + 1)).filter fun q => p q.2 q.1).map fun q => f q.2 q.1) acc, fun H4 w => ⟨xs.length - (t + 1), by omega, rfl, hlt, w⟩, ?_⟩
    rintro y H4 ⟨T, w, rfl, hT, rfl, hy⟩
    have ey : w = xs[t] := Option.some.inj ((hy xs hsq).symm.trans hx)
    subst ey
    have A4 := Aj.ng (o := HO.tup [.int t, xs[t]]) hT
    have e4 : Ex Gj (upd Gj T (.tup [.int t, xs[t]])) := Ex.new (Aj.gNone hT)
    have htk : ds.zipIdx.take (t + 1) = ds.zipIdx.take t ++ [(d, t)] := by
      rw [List.take_add_one]
      congr 1
      rw [List.getElem?_zipIdx, hd]
      simp
    refine ⟨T, [.int t, xs[t]], rfl, SqT.of upd_same, rfl, .int t, [xs[t]], rfl, xs[t], [], rfl, rfl, ?_⟩
    refine ⟨?_, ?_⟩
    · show (((((σ.set j none).set i none).set i (some (V.int t))).set j (some xs[t])).set j none).set i none = (σ.set j none).set i none
      rw [List.set_set, List.set_set, List.set_comm _ _ hij, List.set_set, List.set_set]
    refine ht t d hd _ _ ((e.trans e2).trans (ej.trans e4)) (rd.up (ej.trans e4)) _ _ _ (Ex.refl _) A4 _ fun G5 H5 e5 A5 => ?_
    cases hp : p t d with
    | false =>
      refine ⟨G5, acc, (ej.trans e4).trans e5, A5, ?_⟩
      rw [htk, List.filter_append, List.filter_cons, show p (d, t).2 (d, t).1 = false from hp]
      simpa using rj.up (e4.trans e5)
    | true =>
      refine he t d hd hp _ _ ((e.trans e2).trans ((ej.trans e4).trans e5)) (rd.up ((ej.trans e4).trans e5)) _ _ _ (Ex.refl _) A5 _ fun v6 G6 H6 e6 A6 r6 => ?_
      refine ⟨acc, A6.m _ _ upd_same, ?_, G6, acc ++ [v6], ((ej.trans e4).trans e5).trans e6, ?_, ?_⟩
      · rw [rj.len, List.length_map]
        refine sz_lt (Nat.lt_of_le_of_lt (Nat.le_trans (List.length_filter_le _ _) ?_) hn)
        rw [List.length_take, List.length_zipIdx]
        exact Nat.min_le_right _ _
      · have w := A6.wr (o := .lst (acc ++ [v6])) (upd_same (H := M) (a := D) (o := .lst acc))
        rw [upd_upd] at w
        exact w
      · rw [htk, List.filter_append, List.filter_cons, show p (d, t).2 (d, t).1 = true from hp, List.map_append]
        exact (rj.up ((e4.trans e5).trans e6)).snoc r6
  · have e1 : t = xs.length := by omega
    subst e1
    have hl2 : ds.zipIdx.take xs.length = ds.zipIdx := by rw [k2.len, ← List.length_zipIdx (i := 0), List.take_length]
    rw [hl2] at rj
    have hm := upd_same (H := M) (a := D) (o := HO.lst acc)
    exact .inl ⟨⟨xs, hsq, Nat.le_refl _⟩, q _ _ _ ((e2.trans ej).trans (Aj.frzG hm)) (Aj.frz hm (Ex.new hMD) hMD) ⟨D, acc, rfl, upd_same, rj.up (Aj.frzG hm)⟩⟩
/-! ### repeating, extending -/
theorem rd_rep {k : Int} (h0 : 0 ≤ k) (h1 : k ≤ 1000000) (h2 : ds.length * k.toNat ≤ 100000) : RD K rRep (.list ds) (.int k) (.list (List.replicate k.toNat ds).flatten) := fun G M H x y A ⟨a, xs, e1, r1, r2⟩ hy Q q => by
  have t63 : (2 : Int) ^ 63 = 9223372036854775808 := rfl
  refine ⟨a, k, xs, e1, hy, A.g _ _ r1, by omega, by omega, by rw [r2.len]; exact sz_of h2, fun p hp => q.newG A hp ⟨p, _, rfl, upd_same, ?_⟩⟩
  have r3 := r2.up (Ex.new (A.gNone hp) (o := .lst (List.replicate k.toNat xs).flatten))
  have all : ∀ n, RpL K (upd G p (.lst (List.replicate k.toNat xs).flatten)) (List.replicate n ds).flatten (List.replicate n xs).flatten := fun n => by
    induction n with
    | zero => exact rfl
    | succ n ih =>
      rw [List.replicate_succ, List.replicate_succ, List.flatten_cons, List.flatten_cons]
      exact r3.app ih
  exact all _
theorem rd_mulS {z : Str} {k : Int} (h : MulOk z k) : RD K rMulS (.str z) (.int k) (.str (Txt.mul z k)) := fun G M H x y A h1 h2 Q q => ⟨z, k, h1, h2, h, q.here A rfl⟩
theorem s_extT {xs : List V} (hi : σ[i]? = some (some (.ref p))) (hp : M p = some (.lst xs)) (h : TrD K te σ G (.tuple ds)) (hn : xs.length + ds.length ≤ 100000) (A : At G M H)
    (k : ∀ ys G' H', Ex G G' → At G' (upd M p (.lst (xs ++ ys))) H' → RpL K G' ds ys → D.nx σ H') : tDrop (tBM K "list" (rExtT K) (tVar i) (tCons te tNil)) D σ H := by
  refine ⟨.ref p, hi, Or.inl ⟨rfl, _, Or.inl (Or.inl (A.m _ _ hp))⟩, ?_⟩
  refine w_D h A fun v G2 H2 e2 A2 r => ?_
  obtain ⟨b, zs, rfl, h1, h2⟩ := r
  exact ⟨p, b, xs, zs, rfl, rfl, A2.m _ _ hp, A2.g.stt h1, by rw [h2.len]; exact sz_of hn, k zs G2 _ e2 (A2.wr hp) h2⟩
end
end Sb

namespace Sb
open PySem PySem.Spec PyProof.Rows L2
/-! ### what a split gives -/
theorem spl_bd (S : List Nat) : ∀ (l : List Nat) (k : Nat) (acc : List Nat), (TL.spl S k acc l).length ≤ l.length + 1 ∧ ∀ p ∈ TL.spl S k acc l, p.length ≤ acc.length + l.length ∧ ∀ c ∈ p, c ∈ acc ∨ c ∈ l
  | [], k, acc => by
    rw [TL.spl_nil]
    refine ⟨by simp, fun p hp => ?_⟩
    rw [List.mem_singleton.mp hp]
    exact ⟨by simp, fun c hc => .inl hc⟩
  | c :: r, 0, acc => by
    cases h : TL.pre S (c :: r) with
    | true =>
      rw [TL.spl_hit h]
      obtain ⟨h1, h2⟩ := spl_bd S r (S.length - 1) []
      refine ⟨by simp only [List.length_cons]; omega, fun p hp => ?_⟩
      rcases List.mem_cons.mp hp with rfl | hp
      · exact ⟨by omega, fun x hx => .inl hx⟩
      · obtain ⟨h3, h4⟩ := h2 p hp
        refine ⟨by simp only [List.length_cons, List.length_nil] at h3 ⊢; omega, fun x hx => .inr ?_⟩
        rcases h4 x hx with z | z
        · cases z
        · exact List.mem_cons_of_mem _ z
    | false =>
      rw [TL.spl_miss h]
      obtain ⟨h1, h2⟩ := spl_bd S r 0 (acc ++ [c])
      refine ⟨by simp only [List.length_cons]; omega, fun p hp => ?_⟩
      obtain ⟨h3, h4⟩ := h2 p hp
      rw [List.length_append, List.length_singleton] at h3
      refine ⟨by simp only [List.length_cons]; omega, fun x hx => ?_⟩
      rcases h4 x hx with z | z
      · rcases List.mem_append.mp z with z | z
        · exact .inl z
        · rw [List.mem_singleton.mp z]
          exact .inr (List.mem_cons_self ..)
      · exact .inr (List.mem_cons_of_mem _ z)
  | c :: r, k + 1, acc => by
    show (TL.spl S k acc r).length ≤ _ ∧ ∀ p ∈ TL.spl S k acc r, _
    obtain ⟨h1, h2⟩ := spl_bd S r k acc
    refine ⟨by simp only [List.length_cons]; omega, fun p hp => ?_⟩
    obtain ⟨h3, h4⟩ := h2 p hp
    refine ⟨by simp only [List.length_cons]; omega, fun x hx => ?_⟩
    rcases h4 x hx with z | z
    · exact .inl z
    · exact .inr (List.mem_cons_of_mem _ z)
theorem split_bd (x y : Str) (hy : TL.tl y ≠ []) (hk : y.cps.all (· < 256) = true) : (Txt.split x y).length ≤ x.length + 1 ∧ ∀ p ∈ Txt.split x y, p.length ≤ x.length ∧ ∀ c ∈ p.cps.toList, c ∈ x.cps.toList := by
  have e := TL.split_spl x y hy (TL.kind_ok hk)
  obtain ⟨h1, h2⟩ := spl_bd (TL.tl y) (TL.tl x) 0 []
  rw [← e] at h1 h2
  rw [List.length_map] at h1
  refine ⟨by rw [TL.len_tl]; exact h1, fun p hp => ?_⟩
  obtain ⟨h3, h4⟩ := h2 (TL.tl p) (List.mem_map.mpr ⟨p, hp, rfl⟩)
  refine ⟨by rw [TL.len_tl, TL.len_tl x]; simpa using h3, fun c hc => ?_⟩
  rcases h4 c hc with z | z
  · cases z
  · exact z
theorem mem_join {S : List Nat} {c : Nat} : ∀ {ps : List (List Nat)}, c ∈ TL.joinL S ps → c ∈ S ∨ ∃ p ∈ ps, c ∈ p
  | [], h => by cases h
  | [p], h => .inr ⟨p, List.mem_cons_self .., h⟩
  | p :: q :: r, h => by
    rcases List.mem_append.mp (show c ∈ p ++ (S ++ TL.joinL S (q :: r)) from h) with h1 | h1
    · exact .inr ⟨p, List.mem_cons_self .., h1⟩
    rcases List.mem_append.mp h1 with h2 | h2
    · exact .inl h2
    rcases mem_join h2 with h3 | ⟨u, hu, h3⟩
    · exact .inl h3
    · exact .inr ⟨u, List.mem_cons_of_mem _ hu, h3⟩
/-! ### digits -/
theorem mulOk_of {z : Str} {n : Int} (h0 : 0 ≤ n) (h1 : n ≤ 1000) (h2 : z.length ≤ 10000) : MulOk z n := by
  have t63 : (2 : Int) ^ 63 = 9223372036854775808 := rfl
  refine ⟨?_, fun h3 _ => ?_, fun h3 _ => ?_⟩
  · rw [decide_eq_false (by omega), decide_eq_false (by omega)]
    rfl
  · rw [t63]
    have hq : (9223372036854775 : Int) ≤ (9223372036854775808 - 1) / n := by
      have : (9223372036854775 : Int) * n ≤ 9223372036854775808 - 1 := by
        have := Int.mul_le_mul_of_nonneg_left h1 (show (0 : Int) ≤ 9223372036854775 by decide)
        omega
      exact (Int.le_ediv_iff_mul_le (by omega)).mpr this
    omega
  · refine decide_eq_false ?_
    have h4 : z.length * n.toNat ≤ 10000 * 1000 := Nat.mul_le_mul h2 (by omega)
    have h5 : (10000 * 1000 : Nat) ≤ sizeLine := by decide
    omega
theorem fold_cps : ∀ (k : Nat) (x : Array Nat) (a : Array Nat), ((List.replicate k x).foldl (· ++ ·) a).toList = a.toList ++ (List.replicate k x.toList).flatten
  | 0, x, a => by simp
  | k + 1, x, a => by
    rw [List.replicate_succ, List.foldl_cons, fold_cps k, Array.toList_append, List.replicate_succ, List.flatten_cons, List.append_assoc]
theorem mul_tl {z : Str} {n : Int} (h : 2 ≤ n) (hz : 0 < z.length) : (Txt.mul z n).cps.toList = (List.replicate n.toNat z.cps.toList).flatten := by
  unfold Txt.mul
  have e1 : ¬ n < 1 := by omega
  have e2 : ¬ ((n == 1 || z.length == 0) = true) := by
    have a1 : (n == 1) = false := by simpa using (show n ≠ 1 by omega)
    have a2 : (z.length == 0) = false := by simpa using (show z.length ≠ 0 by omega)
    rw [a1, a2]
    decide
  rw [if_neg e1, if_neg e2]
  show ((List.replicate n.toNat z.cps).foldl (· ++ ·) #[]).toList = _
  rw [fold_cps]
  rfl
theorem fold_bd : ∀ (l : List Nat) (a : Nat), NumText.AllDigits l → a * 10 ^ l.length ≤ l.foldl (fun acc c => acc * 10 + (c - 48)) a ∧ l.foldl (fun acc c => acc * 10 + (c - 48)) a < (a + 1) * 10 ^ l.length
  | [], a, _ => by simp
  | c :: l, a, h => by
    obtain ⟨h1, h2⟩ := fold_bd l (a * 10 + (c - 48)) h.tail
    have hc := h.head
    rw [List.foldl_cons, List.length_cons, Nat.pow_succ]
    have e1 : a * (10 ^ l.length * 10) ≤ (a * 10 + (c - 48)) * 10 ^ l.length := by
      rw [Nat.mul_comm (10 ^ l.length) 10, ← Nat.mul_assoc]
      exact Nat.mul_le_mul_right _ (by omega)
    have e2 : (a * 10 + (c - 48) + 1) * 10 ^ l.length ≤ (a + 1) * (10 ^ l.length * 10) := by
      rw [Nat.mul_comm (10 ^ l.length) 10, ← Nat.mul_assoc]
      exact Nat.mul_le_mul_right _ (by omega)
    exact ⟨Nat.le_trans e1 h1, Nat.lt_of_lt_of_le h2 e2⟩
theorem val_bd {l : List Nat} (h : NumText.AllDigits l) : NumText.digitsVal l < 10 ^ l.length := by
  have z := (fold_bd l 0 h).2
  rw [Nat.zero_add, Nat.one_mul] at z
  exact z
theorem val_pos {c : Nat} {l : List Nat} (h : NumText.AllDigits (c :: l)) (hc : c ≠ 48) : 1 ≤ NumText.digitsVal (c :: l) := by
  have hd := h.head
  have z := (fold_bd l (0 * 10 + (c - 48)) h.tail).1
  have hp : 1 ≤ 10 ^ l.length := Nat.pow_pos (by decide)
  have : 1 * 1 ≤ (0 * 10 + (c - 48)) * 10 ^ l.length := Nat.mul_le_mul (by omega) hp
  exact Nat.le_trans this z
/-- a number above 0 does not begin with 0 -/
theorem num_head : ∀ n : Nat, 1 ≤ n → ∃ c l, TL.numL n = c :: l ∧ c ≠ 48 := by
  intro n
  induction n using Nat.strongRecOn with
  | _ n ih =>
    intro h
    by_cases h10 : n < 10
    · rw [TL.numL_lt h10]
      exact ⟨48 + n, [], rfl, by omega⟩
    · obtain ⟨c, l, e, hc⟩ := ih (n / 10) (by omega) (by omega)
      rw [TL.numL_step (by omega), e]
      exact ⟨c, l ++ [48 + n % 10], rfl, hc⟩
/-! ### lists of numbers are equal to themselves -/
theorem eqvA_ints : ∀ a b : List Int, PyData.eqvAll (dInts a) (dInts b) = decide (a = b)
  | [], [] => rfl
  | [], y :: b => by simp [dInts, PyData.eqvAll]
  | x :: a, [] => by simp [dInts, PyData.eqvAll]
  | x :: a, y :: b => by
    show (PyData.eqv (.int x) (.int y) && PyData.eqvAll (dInts a) (dInts b)) = _
    rw [eqvA_ints a b]
    have e : PyData.eqv (.int x) (.int y) = decide (x = y) := by
      simp only [PyData.eqv]
      by_cases h : x = y <;> simp [h]
    rw [e]
    by_cases h1 : x = y <;> by_cases h2 : a = b <;> simp [h1, h2]
theorem eqv_ints (a b : List Int) : PyData.eqv (.list (dInts a)) (.list (dInts b)) = decide (a = b) := by
  simp only [PyData.eqv]
  exact eqvA_ints a b
theorem shaped_intsL (ns : List Int) : SeqAt.shaped (.list (dInts ns)) = true := by
  have z := shaped_ints ns
  unfold SeqAt.shaped at z ⊢
  simpa [PyData.canLay0, PyData.depth] using z
section
variable {K : PySem.W.Frag} {σ : L2.St} {G : Hp} {M0 : Hp} {te : TE} {n n' : Nat} {r : Addr} {Φ Φ1 : PyData → Prop}
/-- a.join(xs), xs drawn -/
theorem e_join {a : Str} {Ψ : List Str → Prop} (h : TrE K r M0 te σ G n n' fun d => ∃ ys, d = .list (dStrs ys) ∧ Ψ ys) (hz : ∀ ys, Ψ ys → (ys.map (·.length)).sum + ys.length * a.length ≤ 16777216) (hΦ : ∀ ys, Ψ ys → Φ (.str (Txt.join a ys))) :
    TrE K r M0 (tM1 (fun x xs H Q => ∃ a p, ∃ ys : List Str, x = .str a ∧ xs = [.ref p] ∧ (SqL K H p (ys.map V.str) ∨ SqT K H p (ys.map V.str)) ∧ (ys.map (·.length)).sum + ys.length * a.length ≤ 16777216 ∧ Q (.str (Txt.join a ys)) H) (tC (.str a)) te) σ G n n' Φ := fun G1 M H e A S R Q q => by
  refine ⟨⟨a, rfl⟩, ?_⟩
  refine h G1 M H e A S R _ fun d v G2 M2 H2 e2 A2 S2 R2 hd rv => ?_
  obtain ⟨ys, rfl, hy⟩ := hd
  obtain ⟨p, rfl, hp⟩ := rv.ls
  exact ⟨a, p, ys, rfl, rfl, .inl (SqL.of (A2.g _ _ hp)), hz ys hy, q _ _ G2 M2 H2 e2 A2 S2 R2 (hΦ ys hy) rfl⟩
end
end Sb

namespace Sb
open PySem PySem.Spec PyProof.Rows L2
/-! ### a Hook that also looks at the interpreter's statics and at a Bool of one's own -/
def asS (g : Addr → Option Obj) (n : Nat) : List Addr := He.asD g n ++ [PySem.cStatics]
def obsS (n : Nat) (fa : List He.Fa) (fn : List He.DefD) (ex : PySem.W.Frag → Bool) (g : Addr → Option Obj) : He.AlD × Bool := (He.obsD fa fn (He.frG g (asS g n)), ex (He.frG g (asS g n)))
def hookS (n : Nat) (fa : List He.Fa) (fn : List He.DefD) (ex : PySem.W.Frag → Bool) : PySem.W.Hook where
  α := He.AlD × Bool
  obs := fun s => obsS n fa fn ex s.heap.get?
  val := fun _ => (He.valD fn, true)
  says := fun _ h => ∃ K : PySem.W.Frag, K.In h ∧ He.SaysD fa fn K ∧ ex K = true
  of := fun _ _ e => ⟨_, He.frG_in, congrArg (fun z : He.AlD × Bool => z.1) e, congrArg (fun z : He.AlD × Bool => z.2) e⟩
  keeps := fun _ _ _ ⟨K, hK, c⟩ k => ⟨K, PySem.W.Frag.In.keeps hK k, c⟩
theorem obsS_eq {n : Nat} {fa : List He.Fa} {fn : List He.DefD} {ex : PySem.W.Frag → Bool} {g : Addr → Option Obj} {s : Shared} (h : ∀ a, g a = s.heap.get? a) : obsS n fa fn ex g = (hookS n fa fn ex).obs s := by
  have e : g = s.heap.get? := funext h
  rw [e] <;> rfl
end Sb

namespace K81
open PySem PySem.Spec PyProof.Rows L2 Sb
local macro_rules | `(tactic| walk_at "ex") => `(tactic| first | exact Ex.refl _ | assumption | (refine' Ex.trans ?_ (by assumption); walk_at "ex"))
local macro_rules | `(tactic| walk_at "rp") => `(tactic| first | assumption | (refine' Rp.up ?e (by assumption); (case e => walk_at "ex")) | exact rfl)
local macro_rules | `(tactic| walk_at "rd") => `(tactic| with_reducible first | exact rd_add | exact rd_sub | exact rd_lt | exact rd_le | exact rd_gt | exact rd_ge | exact rd_eqI | exact rd_neI | exact rd_eqS | exact rd_neS | exact rd_isN | exact rd_ltS | exact rd_inSign | exact rd_eqE)
local macro_rules | `(tactic| walk_at "tr") => `(tactic| first
  | with_reducible exact d_int
  | with_reducible exact d_str
  | with_reducible exact d_bl
  | with_reducible exact d_non
  | with_reducible exact a_nil
  | with_reducible exact b_yes
  | with_reducible exact o_none
  | with_reducible exact d_newD
  | ((with_reducible refine' d_var ?i ?r); (case i => rfl); (case r => walk_at "rp"))
  | ((with_reducible refine' a_cons ?a ?b); (case a => walk_at "tr"); (case b => walk_at "tr"))
  | ((with_reducible refine' a_star ?a ?b); (case a => walk_at "tr"); (case b => walk_at "tr"))
  | ((with_reducible refine' d_isi ?a ?b); (case a => walk_at "tr"); (case b => decide))
  | ((with_reducible refine' d_op ?a ?b ?c); (case a => walk_at "tr"); (case b => walk_at "tr"); (case c => walk_at "rd"))
  | ((with_reducible refine' d_tup ?a ?b); (case a => walk_at "tr"); (case b => first | decide | (simp; done)))
  | ((with_reducible refine' d_lst ?a ?b); (case a => walk_at "tr"); (case b => first | decide | (simp; done)))
  | ((with_reducible refine' o_some ?a); (case a => walk_at "tr"))
  | ((with_reducible refine' b_B ?a); (case a => walk_at "tr"))
  | ((with_reducible refine' b_T ?a); (case a => walk_at "tr"))
  | ((with_reducible refine' b_not ?a); (case a => walk_at "tr"))
  | ((with_reducible refine' v_not ?a); (case a => walk_at "tr"))
  | ((with_reducible refine' b_or ?a ?b); (case a => walk_at "tr"); (case b => intro _; walk_at "tr"))
  | ((with_reducible refine' b_and ?a ?b); (case a => walk_at "tr"); (case b => intro _; walk_at "tr"))
  | ((with_reducible refine' v_or ?a ?b); (case a => walk_at "tr"); (case b => intro _; walk_at "tr"))
  | ((with_reducible refine' v_and ?a ?b); (case a => walk_at "tr"); (case b => intro _; walk_at "tr"))
  | assumption)


def top (i : Nat) : Stmt := PySem.Challenge.pw_scanbars_k81_scans_and_bars.main.body.getD i (.Pass ⟨0, 0, 0, 0⟩)
abbrev s_is_integer : Stmt := top 10
theorem sc_is_integer : FnScope ["value", "least", "most"] ["value", "least", "most"] (defScope s_is_integer) := ⟨rfl, rfl, rfl, by decide +kernel, rfl, by decide +kernel, by decide +kernel⟩
def d_is_integer : He.DefD := ⟨("is_integer", none), "is_integer", "is_integer", defArgs s_is_integer, defBody s_is_integer, defScope s_is_integer, [.non, .non], []⟩
abbrev s_is_name : Stmt := top 11
theorem sc_is_name : FnScope ["value"] ["value"] (defScope s_is_name) := ⟨rfl, rfl, rfl, by decide +kernel, rfl, by decide +kernel, by decide +kernel⟩
def d_is_name : He.DefD := ⟨("is_name", none), "is_name", "is_name", defArgs s_is_name, defBody s_is_name, defScope s_is_name, [], []⟩
abbrev s_are_widths : Stmt := top 12
theorem sc_are_widths : FnScope ["value", "least", "most", "item"] ["value", "least", "most"] (defScope s_are_widths) := ⟨rfl, rfl, rfl, by decide +kernel, rfl, by decide +kernel, by decide +kernel⟩
def d_are_widths : He.DefD := ⟨("are_widths", none), "are_widths", "are_widths", defArgs s_are_widths, defBody s_are_widths, defScope s_are_widths, [], []⟩
abbrev s_is_widths : Stmt := top 13
theorem sc_is_widths : FnScope ["value"] ["value"] (defScope s_is_widths) := ⟨rfl, rfl, rfl, by decide +kernel, rfl, by decide +kernel, by decide +kernel⟩
def d_is_widths : He.DefD := ⟨("is_widths", none), "is_widths", "is_widths", defArgs s_is_widths, defBody s_is_widths, defScope s_is_widths, [], []⟩
abbrev s_fault_of_characters : Stmt := top 14
theorem sc_fault_of_characters : FnScope ["value", "name"] ["value"] (defScope s_fault_of_characters) := ⟨rfl, rfl, rfl, by decide +kernel, rfl, by decide +kernel, by decide +kernel⟩
def d_fault_of_characters : He.DefD := ⟨("fault_of_characters", none), "fault_of_characters", "fault_of_characters", defArgs s_fault_of_characters, defBody s_fault_of_characters, defScope s_fault_of_characters, [], []⟩
abbrev s_fault_of_code : Stmt := top 15
theorem sc_fault_of_code : FnScope ["value", "start", "characters", "between", "stop", "found", "name"] ["value"] (defScope s_fault_of_code) := ⟨rfl, rfl, rfl, by decide +kernel, rfl, by decide +kernel, by decide +kernel⟩
def d_fault_of_code : He.DefD := ⟨("fault_of_code", none), "fault_of_code", "fault_of_code", defArgs s_fault_of_code, defBody s_fault_of_code, defScope s_fault_of_code, [], []⟩
abbrev s_require_code : Stmt := top 16
theorem sc_require_code : FnScope ["value", "faults", "part", "name"] ["value"] (defScope s_require_code) := ⟨rfl, rfl, rfl, by decide +kernel, rfl, by decide +kernel, by decide +kernel⟩
def d_require_code : He.DefD := ⟨("require_code", none), "require_code", "require_code", defArgs s_require_code, defBody s_require_code, defScope s_require_code, [], []⟩
abbrev s_is_text : Stmt := top 17
theorem sc_is_text : FnScope ["code", "value", "name"] ["code", "value"] (defScope s_is_text) := ⟨rfl, rfl, rfl, by decide +kernel, rfl, by decide +kernel, by decide +kernel⟩
def d_is_text : He.DefD := ⟨("is_text", none), "is_text", "is_text", defArgs s_is_text, defBody s_is_text, defScope s_is_text, [], []⟩
abbrev s_require_text : Stmt := top 18
theorem sc_require_text : FnScope ["code", "value"] ["code", "value"] (defScope s_require_text) := ⟨rfl, rfl, rfl, by decide +kernel, rfl, by decide +kernel, by decide +kernel⟩
def d_require_text : He.DefD := ⟨("require_text", none), "require_text", "require_text", defArgs s_require_text, defBody s_require_text, defScope s_require_text, [], []⟩
abbrev s_fault_of_scan : Stmt := top 19
theorem sc_fault_of_scan : FnScope ["value", "index", "item"] ["value"] (defScope s_fault_of_scan) := ⟨rfl, rfl, rfl, by decide +kernel, rfl, by decide +kernel, by decide +kernel⟩
def d_fault_of_scan : He.DefD := ⟨("fault_of_scan", none), "fault_of_scan", "fault_of_scan", defArgs s_fault_of_scan, defBody s_fault_of_scan, defScope s_fault_of_scan, [], []⟩
abbrev s_require_scan : Stmt := top 20
theorem sc_require_scan : FnScope ["value", "faults"] ["value"] (defScope s_require_scan) := ⟨rfl, rfl, rfl, by decide +kernel, rfl, by decide +kernel, by decide +kernel⟩
def d_require_scan : He.DefD := ⟨("require_scan", none), "require_scan", "require_scan", defArgs s_require_scan, defBody s_require_scan, defScope s_require_scan, [], []⟩
abbrev s_row_by : Stmt := top 21
theorem sc_row_by : FnScope ["code", "text", "start", "characters", "between", "stop", "found", "name"] ["code", "text"] (defScope s_row_by) := ⟨rfl, rfl, rfl, by decide +kernel, rfl, by decide +kernel, by decide +kernel⟩
def d_row_by : He.DefD := ⟨("row_by", none), "row_by", "row_by", defArgs s_row_by, defBody s_row_by, defScope s_row_by, [], []⟩
abbrev s_is_decimal : Stmt := top 24
theorem sc_is_decimal : FnScope ["word", "most", "sign"] ["word", "most"] (defScope s_is_decimal) := ⟨rfl, rfl, rfl, by decide +kernel, rfl, by decide +kernel, by decide +kernel⟩
def d_is_decimal : He.DefD := ⟨("is_decimal", none), "is_decimal", "is_decimal", defArgs s_is_decimal, defBody s_is_decimal, defScope s_is_decimal, [.int 400], []⟩
abbrev s_format_scan : Stmt := top 25
theorem sc_format_scan : FnScope ["scan", "duration"] ["scan"] (defScope s_format_scan) := ⟨rfl, rfl, rfl, by decide +kernel, rfl, by decide +kernel, by decide +kernel⟩
def d_format_scan : He.DefD := ⟨("format_scan", none), "format_scan", "format_scan", defArgs s_format_scan, defBody s_format_scan, defScope s_format_scan, [], []⟩
abbrev s_parse_scan : Stmt := top 26
theorem sc_parse_scan : FnScope ["text", "words", "place", "word"] ["text"] (defScope s_parse_scan) := ⟨rfl, rfl, rfl, by decide +kernel, rfl, by decide +kernel, by decide +kernel⟩
def d_parse_scan : He.DefD := ⟨("parse_scan", none), "parse_scan", "parse_scan", defArgs s_parse_scan, defBody s_parse_scan, defScope s_parse_scan, [], []⟩
abbrev s_bars : Stmt := top 27
theorem sc_bars : FnScope ["code", "text", "place", "width"] ["code", "text"] (defScope s_bars) := ⟨rfl, rfl, rfl, by decide +kernel, rfl, by decide +kernel, by decide +kernel⟩
def d_bars : He.DefD := ⟨("bars", none), "bars", "bars", defArgs s_bars, defBody s_bars, defScope s_bars, [], []⟩
abbrev s__law_reel : Stmt := top 29
theorem sc__law_reel : FnScope ["script", "index", "cell", "mixed", "spot", "other"] ["script", "index"] (defScope s__law_reel) := ⟨rfl, rfl, rfl, by decide +kernel, rfl, by decide +kernel, by decide +kernel⟩
def d__law_reel : He.DefD := ⟨("_law_reel", none), "_law_reel", "_law_reel", defArgs s__law_reel, defBody s__law_reel, defScope s__law_reel, [], []⟩
abbrev s__law_spin : Stmt := top 30
theorem sc__law_spin : FnScope ["reel", "size", "digit", "wide"] ["reel", "size"] (defScope s__law_spin) := ⟨rfl, rfl, rfl, by decide +kernel, rfl, by decide +kernel, by decide +kernel⟩
def d__law_spin : He.DefD := ⟨("_law_spin", none), "_law_spin", "_law_spin", defArgs s__law_spin, defBody s__law_spin, defScope s__law_spin, [], []⟩
abbrev s__law_widths : Stmt := top 31
theorem sc__law_widths : FnScope ["reel", "least", "most", "turn"] ["reel", "least", "most"] (defScope s__law_widths) := ⟨rfl, rfl, rfl, by decide +kernel, rfl, by decide +kernel, by decide +kernel⟩
def d__law_widths : He.DefD := ⟨("_law_widths", none), "_law_widths", "_law_widths", defArgs s__law_widths, defBody s__law_widths, defScope s__law_widths, [], []⟩
abbrev s__law_code : Stmt := top 32
theorem sc__law_code : FnScope ["reel", "many", "most", "letters", "rows", "way", "same", "chains", "chain", "ends", "turn", "row", "at", "width", "some", "between"] ["reel", "many", "most"] (defScope s__law_code) := ⟨rfl, rfl, rfl, by decide +kernel, rfl, by decide +kernel, by decide +kernel⟩
def d__law_code : He.DefD := ⟨("_law_code", none), "_law_code", "_law_code", defArgs s__law_code, defBody s__law_code, defScope s__law_code, [], []⟩
abbrev s__law_row_of : Stmt := top 33
theorem sc__law_row_of : FnScope ["code", "text", "found", "name"] ["code", "text"] (defScope s__law_row_of) := ⟨rfl, rfl, rfl, by decide +kernel, rfl, by decide +kernel, by decide +kernel⟩
def d__law_row_of : He.DefD := ⟨("_law_row_of", none), "_law_row_of", "_law_row_of", defArgs s__law_row_of, defBody s__law_row_of, defScope s__law_row_of, [], []⟩
abbrev s__law_scan : Stmt := top 34
theorem sc__law_scan : FnScope ["reel", "size", "found", "turn"] ["reel", "size"] (defScope s__law_scan) := ⟨rfl, rfl, rfl, by decide +kernel, rfl, by decide +kernel, by decide +kernel⟩
def d__law_scan : He.DefD := ⟨("_law_scan", none), "_law_scan", "_law_scan", defArgs s__law_scan, defBody s__law_scan, defScope s__law_scan, [], []⟩
abbrev s__law_fault : Stmt := top 35
theorem sc__law_fault : FnScope ["text", "spot", "word", "sign"] ["text"] (defScope s__law_fault) := ⟨rfl, rfl, rfl, by decide +kernel, rfl, by decide +kernel, by decide +kernel⟩
def d__law_fault : He.DefD := ⟨("_law_fault", none), "_law_fault", "_law_fault", defArgs s__law_fault, defBody s__law_fault, defScope s__law_fault, [], []⟩
abbrev s__law_told : Stmt := top 36
theorem sc__law_told : FnScope ["value", "told", "e"] ["value"] (defScope s__law_told) := ⟨rfl, rfl, rfl, by decide +kernel, rfl, by decide +kernel, by decide +kernel⟩
def d__law_told : He.DefD := ⟨("_law_told", none), "_law_told", "_law_told", defArgs s__law_told, defBody s__law_told, defScope s__law_told, [], []⟩
abbrev s__law_texts_right : Stmt := top 37
theorem sc__law_texts_right : FnScope ["reel", "scan", "kept", "words", "at", "odd", "some", "duration"] ["reel", "scan"] (defScope s__law_texts_right) := ⟨rfl, rfl, rfl, by decide +kernel, rfl, by decide +kernel, by decide +kernel⟩
def d__law_texts_right : He.DefD := ⟨("_law_texts_right", none), "_law_texts_right", "_law_texts_right", defArgs s__law_texts_right, defBody s__law_texts_right, defScope s__law_texts_right, [], []⟩
abbrev s__law_bars_right : Stmt := top 38
theorem sc__law_bars_right : FnScope ["reel", "code", "names", "found", "text", "spot", "width", "turn"] ["reel", "code"] (defScope s__law_bars_right) := ⟨rfl, rfl, rfl, by decide +kernel, rfl, by decide +kernel, by decide +kernel⟩
def d__law_bars_right : He.DefD := ⟨("_law_bars_right", none), "_law_bars_right", "_law_bars_right", defArgs s__law_bars_right, defBody s__law_bars_right, defScope s__law_bars_right, [], []⟩
abbrev s_law : Stmt := top 39
theorem sc_law : FnScope ["script", "index", "reel", "turn", "value", "long", "told", "at", "words", "odd", "plain", "one"] ["script"] (defScope s_law) := ⟨rfl, rfl, rfl, by decide +kernel, rfl, by decide +kernel, by decide +kernel⟩
def d_law : He.DefD := ⟨("law", none), "law", "law", defArgs s_law, defBody s_law, defScope s_law, [], []⟩
def inCls (s : Stmt) (j : Nat) : Stmt := match s with
  | .ClassDef _ _ _ body _ _ _ _ _ _ _ => body.getD j (.Pass ⟨0, 0, 0, 0⟩)
  | _ => .Pass ⟨0, 0, 0, 0⟩
abbrev si_InvalidCode : Stmt := inCls (top 3) 0
theorem sci_InvalidCode : FnScope ["self", "part", "name"] ["self", "part", "name"] (defScope si_InvalidCode) := ⟨rfl, rfl, rfl, by decide +kernel, rfl, by decide +kernel, by decide +kernel⟩
def di_InvalidCode : He.DefD := ⟨("InvalidCode", some "__init__"), "__init__", "InvalidCode.__init__", defArgs si_InvalidCode, defBody si_InvalidCode, defScope si_InvalidCode, [], []⟩
abbrev si_InvalidScan : Stmt := inCls (top 4) 0
theorem sci_InvalidScan : FnScope ["self", "index"] ["self", "index"] (defScope si_InvalidScan) := ⟨rfl, rfl, rfl, by decide +kernel, rfl, by decide +kernel, by decide +kernel⟩
def di_InvalidScan : He.DefD := ⟨("InvalidScan", some "__init__"), "__init__", "InvalidScan.__init__", defArgs si_InvalidScan, defBody si_InvalidScan, defScope si_InvalidScan, [], []⟩
abbrev si_InvalidSyntax : Stmt := inCls (top 5) 0
theorem sci_InvalidSyntax : FnScope ["self", "line", "word"] ["self", "line", "word"] (defScope si_InvalidSyntax) := ⟨rfl, rfl, rfl, by decide +kernel, rfl, by decide +kernel, by decide +kernel⟩
def di_InvalidSyntax : He.DefD := ⟨("InvalidSyntax", some "__init__"), "__init__", "InvalidSyntax.__init__", defArgs si_InvalidSyntax, defBody si_InvalidSyntax, defScope si_InvalidSyntax, [], []⟩
def exB (K : PySem.W.Frag) : Bool := ownX K "InvalidCode" && ownX K "InvalidScan" && ownX K "InvalidSyntax" && parX K "ScanError"
def fn : List He.DefD := [d_is_integer, d_is_name, d_are_widths, d_is_widths, d_fault_of_characters, d_fault_of_code, d_require_code, d_is_text, d_require_text, d_fault_of_scan, d_require_scan, d_row_by, d_is_decimal, d_format_scan, d_parse_scan, d_bars, d__law_reel, d__law_spin, d__law_widths, d__law_code, d__law_row_of, d__law_scan, d__law_fault, d__law_told, d__law_texts_right, d__law_bars_right, d_law, di_InvalidCode, di_InvalidScan, di_InvalidSyntax]
def fa : List He.Fa := [.glo "is_integer", .glo "is_name", .glo "are_widths", .glo "is_widths", .glo "fault_of_characters", .glo "fault_of_code", .glo "require_code", .glo "is_text", .glo "require_text", .glo "fault_of_scan", .glo "require_scan", .glo "row_by", .glo "is_decimal", .glo "format_scan", .glo "parse_scan", .glo "bars", .glo "_law_reel", .glo "_law_spin", .glo "_law_widths", .glo "_law_code", .glo "_law_row_of", .glo "_law_scan", .glo "_law_fault", .glo "_law_told", .glo "_law_texts_right", .glo "_law_bars_right", .glo "law", .str "NAMES" "0123456789abcdefghijklmnopqrstuvwxyz", .int "MOST_CHARACTERS" 10, .int "MOST_DURATIONS" 400, .int "MOST_DIGITS" 400, .glo "ScanError", .glo "InvalidText", .glo "InvalidCode", .glo "InvalidScan", .glo "InvalidSyntax", .noat "InvalidCode" "part", .noat "InvalidCode" "name", .exm "InvalidCode" "ScanError" true, .exm "InvalidCode" "InvalidText" false, .exm "InvalidCode" "InvalidCode" true, .exm "InvalidCode" "InvalidScan" false, .exm "InvalidCode" "InvalidSyntax" false, .noat "InvalidScan" "index", .exm "InvalidScan" "ScanError" true, .exm "InvalidScan" "InvalidText" false, .exm "InvalidScan" "InvalidCode" false, .exm "InvalidScan" "InvalidScan" true, .exm "InvalidScan" "InvalidSyntax" false, .noat "InvalidSyntax" "line", .noat "InvalidSyntax" "word", .exm "InvalidSyntax" "ScanError" true, .exm "InvalidSyntax" "InvalidText" false, .exm "InvalidSyntax" "InvalidCode" false, .exm "InvalidSyntax" "InvalidScan" false, .exm "InvalidSyntax" "InvalidSyntax" true, .free "abs", .free "all", .free "bool", .free "dict", .free "enumerate", .free "int", .free "isinstance", .free "len", .free "list", .free "max", .free "min", .free "range", .free "repr", .free "sorted", .free "str", .free "tuple"]
/-- what the top has left -/
def Tx (K : PySem.W.Frag) (mg : Str → Option Value) : Prop := ∃ h : Heap, K.In h ∧ h.Ns mainGlobals mg ∧ He.SaysD fa fn K ∧ exB K = true
section
variable {K : PySem.W.Frag} {mg : Str → Option Value}
theorem Tx.g_is_integer (T : Tx K mg) : mg "is_integer" = some (.ref (He.ga K "is_integer")) := let ⟨_, X, G, c, _⟩ := T; He.glo_ok X G (c.fact 0 (f := .glo "is_integer") rfl)
theorem Tx.f_is_integer (T : Tx K mg) : ∃ fd, FunD K "is_integer" "is_integer" (defArgs s_is_integer) (defBody s_is_integer) (defScope s_is_integer) (d_is_integer.dvs K) (d_is_integer.kws K) (He.ga K "is_integer") fd := let ⟨_, X, G, c, _⟩ := T; c.def_ 0 (d := d_is_integer) rfl
theorem Tx.g_is_name (T : Tx K mg) : mg "is_name" = some (.ref (He.ga K "is_name")) := let ⟨_, X, G, c, _⟩ := T; He.glo_ok X G (c.fact 1 (f := .glo "is_name") rfl)
theorem Tx.f_is_name (T : Tx K mg) : ∃ fd, FunD K "is_name" "is_name" (defArgs s_is_name) (defBody s_is_name) (defScope s_is_name) (d_is_name.dvs K) (d_is_name.kws K) (He.ga K "is_name") fd := let ⟨_, X, G, c, _⟩ := T; c.def_ 1 (d := d_is_name) rfl
theorem Tx.g_are_widths (T : Tx K mg) : mg "are_widths" = some (.ref (He.ga K "are_widths")) := let ⟨_, X, G, c, _⟩ := T; He.glo_ok X G (c.fact 2 (f := .glo "are_widths") rfl)
theorem Tx.f_are_widths (T : Tx K mg) : ∃ fd, FunD K "are_widths" "are_widths" (defArgs s_are_widths) (defBody s_are_widths) (defScope s_are_widths) (d_are_widths.dvs K) (d_are_widths.kws K) (He.ga K "are_widths") fd := let ⟨_, X, G, c, _⟩ := T; c.def_ 2 (d := d_are_widths) rfl
theorem Tx.g_is_widths (T : Tx K mg) : mg "is_widths" = some (.ref (He.ga K "is_widths")) := let ⟨_, X, G, c, _⟩ := T; He.glo_ok X G (c.fact 3 (f := .glo "is_widths") rfl)
theorem Tx.f_is_widths (T : Tx K mg) : ∃ fd, FunD K "is_widths" "is_widths" (defArgs s_is_widths) (defBody s_is_widths) (defScope s_is_widths) (d_is_widths.dvs K) (d_is_widths.kws K) (He.ga K "is_widths") fd := let ⟨_, X, G, c, _⟩ := T; c.def_ 3 (d := d_is_widths) rfl
theorem Tx.g_fault_of_characters (T : Tx K mg) : mg "fault_of_characters" = some (.ref (He.ga K "fault_of_characters")) := let ⟨_, X, G, c, _⟩ := T; He.glo_ok X G (c.fact 4 (f := .glo "fault_of_characters") rfl)
theorem Tx.f_fault_of_characters (T : Tx K mg) : ∃ fd, FunD K "fault_of_characters" "fault_of_characters" (defArgs s_fault_of_characters) (defBody s_fault_of_characters) (defScope s_fault_of_characters) (d_fault_of_characters.dvs K) (d_fault_of_characters.kws K) (He.ga K "fault_of_characters") fd := let ⟨_, X, G, c, _⟩ := T; c.def_ 4 (d := d_fault_of_characters) rfl
theorem Tx.g_fault_of_code (T : Tx K mg) : mg "fault_of_code" = some (.ref (He.ga K "fault_of_code")) := let ⟨_, X, G, c, _⟩ := T; He.glo_ok X G (c.fact 5 (f := .glo "fault_of_code") rfl)
theorem Tx.f_fault_of_code (T : Tx K mg) : ∃ fd, FunD K "fault_of_code" "fault_of_code" (defArgs s_fault_of_code) (defBody s_fault_of_code) (defScope s_fault_of_code) (d_fault_of_code.dvs K) (d_fault_of_code.kws K) (He.ga K "fault_of_code") fd := let ⟨_, X, G, c, _⟩ := T; c.def_ 5 (d := d_fault_of_code) rfl
theorem Tx.g_require_code (T : Tx K mg) : mg "require_code" = some (.ref (He.ga K "require_code")) := let ⟨_, X, G, c, _⟩ := T; He.glo_ok X G (c.fact 6 (f := .glo "require_code") rfl)
theorem Tx.f_require_code (T : Tx K mg) : ∃ fd, FunD K "require_code" "require_code" (defArgs s_require_code) (defBody s_require_code) (defScope s_require_code) (d_require_code.dvs K) (d_require_code.kws K) (He.ga K "require_code") fd := let ⟨_, X, G, c, _⟩ := T; c.def_ 6 (d := d_require_code) rfl
theorem Tx.g_is_text (T : Tx K mg) : mg "is_text" = some (.ref (He.ga K "is_text")) := let ⟨_, X, G, c, _⟩ := T; He.glo_ok X G (c.fact 7 (f := .glo "is_text") rfl)
theorem Tx.f_is_text (T : Tx K mg) : ∃ fd, FunD K "is_text" "is_text" (defArgs s_is_text) (defBody s_is_text) (defScope s_is_text) (d_is_text.dvs K) (d_is_text.kws K) (He.ga K "is_text") fd := let ⟨_, X, G, c, _⟩ := T; c.def_ 7 (d := d_is_text) rfl
theorem Tx.g_require_text (T : Tx K mg) : mg "require_text" = some (.ref (He.ga K "require_text")) := let ⟨_, X, G, c, _⟩ := T; He.glo_ok X G (c.fact 8 (f := .glo "require_text") rfl)
theorem Tx.f_require_text (T : Tx K mg) : ∃ fd, FunD K "require_text" "require_text" (defArgs s_require_text) (defBody s_require_text) (defScope s_require_text) (d_require_text.dvs K) (d_require_text.kws K) (He.ga K "require_text") fd := let ⟨_, X, G, c, _⟩ := T; c.def_ 8 (d := d_require_text) rfl
theorem Tx.g_fault_of_scan (T : Tx K mg) : mg "fault_of_scan" = some (.ref (He.ga K "fault_of_scan")) := let ⟨_, X, G, c, _⟩ := T; He.glo_ok X G (c.fact 9 (f := .glo "fault_of_scan") rfl)
theorem Tx.f_fault_of_scan (T : Tx K mg) : ∃ fd, FunD K "fault_of_scan" "fault_of_scan" (defArgs s_fault_of_scan) (defBody s_fault_of_scan) (defScope s_fault_of_scan) (d_fault_of_scan.dvs K) (d_fault_of_scan.kws K) (He.ga K "fault_of_scan") fd := let ⟨_, X, G, c, _⟩ := T; c.def_ 9 (d := d_fault_of_scan) rfl
theorem Tx.g_require_scan (T : Tx K mg) : mg "require_scan" = some (.ref (He.ga K "require_scan")) := let ⟨_, X, G, c, _⟩ := T; He.glo_ok X G (c.fact 10 (f := .glo "require_scan") rfl)
theorem Tx.f_require_scan (T : Tx K mg) : ∃ fd, FunD K "require_scan" "require_scan" (defArgs s_require_scan) (defBody s_require_scan) (defScope s_require_scan) (d_require_scan.dvs K) (d_require_scan.kws K) (He.ga K "require_scan") fd := let ⟨_, X, G, c, _⟩ := T; c.def_ 10 (d := d_require_scan) rfl
theorem Tx.g_row_by (T : Tx K mg) : mg "row_by" = some (.ref (He.ga K "row_by")) := let ⟨_, X, G, c, _⟩ := T; He.glo_ok X G (c.fact 11 (f := .glo "row_by") rfl)
theorem Tx.f_row_by (T : Tx K mg) : ∃ fd, FunD K "row_by" "row_by" (defArgs s_row_by) (defBody s_row_by) (defScope s_row_by) (d_row_by.dvs K) (d_row_by.kws K) (He.ga K "row_by") fd := let ⟨_, X, G, c, _⟩ := T; c.def_ 11 (d := d_row_by) rfl
theorem Tx.g_is_decimal (T : Tx K mg) : mg "is_decimal" = some (.ref (He.ga K "is_decimal")) := let ⟨_, X, G, c, _⟩ := T; He.glo_ok X G (c.fact 12 (f := .glo "is_decimal") rfl)
theorem Tx.f_is_decimal (T : Tx K mg) : ∃ fd, FunD K "is_decimal" "is_decimal" (defArgs s_is_decimal) (defBody s_is_decimal) (defScope s_is_decimal) (d_is_decimal.dvs K) (d_is_decimal.kws K) (He.ga K "is_decimal") fd := let ⟨_, X, G, c, _⟩ := T; c.def_ 12 (d := d_is_decimal) rfl
theorem Tx.g_format_scan (T : Tx K mg) : mg "format_scan" = some (.ref (He.ga K "format_scan")) := let ⟨_, X, G, c, _⟩ := T; He.glo_ok X G (c.fact 13 (f := .glo "format_scan") rfl)
theorem Tx.f_format_scan (T : Tx K mg) : ∃ fd, FunD K "format_scan" "format_scan" (defArgs s_format_scan) (defBody s_format_scan) (defScope s_format_scan) (d_format_scan.dvs K) (d_format_scan.kws K) (He.ga K "format_scan") fd := let ⟨_, X, G, c, _⟩ := T; c.def_ 13 (d := d_format_scan) rfl
theorem Tx.g_parse_scan (T : Tx K mg) : mg "parse_scan" = some (.ref (He.ga K "parse_scan")) := let ⟨_, X, G, c, _⟩ := T; He.glo_ok X G (c.fact 14 (f := .glo "parse_scan") rfl)
theorem Tx.f_parse_scan (T : Tx K mg) : ∃ fd, FunD K "parse_scan" "parse_scan" (defArgs s_parse_scan) (defBody s_parse_scan) (defScope s_parse_scan) (d_parse_scan.dvs K) (d_parse_scan.kws K) (He.ga K "parse_scan") fd := let ⟨_, X, G, c, _⟩ := T; c.def_ 14 (d := d_parse_scan) rfl
theorem Tx.g_bars (T : Tx K mg) : mg "bars" = some (.ref (He.ga K "bars")) := let ⟨_, X, G, c, _⟩ := T; He.glo_ok X G (c.fact 15 (f := .glo "bars") rfl)
theorem Tx.f_bars (T : Tx K mg) : ∃ fd, FunD K "bars" "bars" (defArgs s_bars) (defBody s_bars) (defScope s_bars) (d_bars.dvs K) (d_bars.kws K) (He.ga K "bars") fd := let ⟨_, X, G, c, _⟩ := T; c.def_ 15 (d := d_bars) rfl
theorem Tx.g__law_reel (T : Tx K mg) : mg "_law_reel" = some (.ref (He.ga K "_law_reel")) := let ⟨_, X, G, c, _⟩ := T; He.glo_ok X G (c.fact 16 (f := .glo "_law_reel") rfl)
theorem Tx.f__law_reel (T : Tx K mg) : ∃ fd, FunD K "_law_reel" "_law_reel" (defArgs s__law_reel) (defBody s__law_reel) (defScope s__law_reel) (d__law_reel.dvs K) (d__law_reel.kws K) (He.ga K "_law_reel") fd := let ⟨_, X, G, c, _⟩ := T; c.def_ 16 (d := d__law_reel) rfl
theorem Tx.g__law_spin (T : Tx K mg) : mg "_law_spin" = some (.ref (He.ga K "_law_spin")) := let ⟨_, X, G, c, _⟩ := T; He.glo_ok X G (c.fact 17 (f := .glo "_law_spin") rfl)
theorem Tx.f__law_spin (T : Tx K mg) : ∃ fd, FunD K "_law_spin" "_law_spin" (defArgs s__law_spin) (defBody s__law_spin) (defScope s__law_spin) (d__law_spin.dvs K) (d__law_spin.kws K) (He.ga K "_law_spin") fd := let ⟨_, X, G, c, _⟩ := T; c.def_ 17 (d := d__law_spin) rfl
theorem Tx.g__law_widths (T : Tx K mg) : mg "_law_widths" = some (.ref (He.ga K "_law_widths")) := let ⟨_, X, G, c, _⟩ := T; He.glo_ok X G (c.fact 18 (f := .glo "_law_widths") rfl)
theorem Tx.f__law_widths (T : Tx K mg) : ∃ fd, FunD K "_law_widths" "_law_widths" (defArgs s__law_widths) (defBody s__law_widths) (defScope s__law_widths) (d__law_widths.dvs K) (d__law_widths.kws K) (He.ga K "_law_widths") fd := let ⟨_, X, G, c, _⟩ := T; c.def_ 18 (d := d__law_widths) rfl
theorem Tx.g__law_code (T : Tx K mg) : mg "_law_code" = some (.ref (He.ga K "_law_code")) := let ⟨_, X, G, c, _⟩ := T; He.glo_ok X G (c.fact 19 (f := .glo "_law_code") rfl)
theorem Tx.f__law_code (T : Tx K mg) : ∃ fd, FunD K "_law_code" "_law_code" (defArgs s__law_code) (defBody s__law_code) (defScope s__law_code) (d__law_code.dvs K) (d__law_code.kws K) (He.ga K "_law_code") fd := let ⟨_, X, G, c, _⟩ := T; c.def_ 19 (d := d__law_code) rfl
theorem Tx.g__law_row_of (T : Tx K mg) : mg "_law_row_of" = some (.ref (He.ga K "_law_row_of")) := let ⟨_, X, G, c, _⟩ := T; He.glo_ok X G (c.fact 20 (f := .glo "_law_row_of") rfl)
theorem Tx.f__law_row_of (T : Tx K mg) : ∃ fd, FunD K "_law_row_of" "_law_row_of" (defArgs s__law_row_of) (defBody s__law_row_of) (defScope s__law_row_of) (d__law_row_of.dvs K) (d__law_row_of.kws K) (He.ga K "_law_row_of") fd := let ⟨_, X, G, c, _⟩ := T; c.def_ 20 (d := d__law_row_of) rfl
theorem Tx.g__law_scan (T : Tx K mg) : mg "_law_scan" = some (.ref (He.ga K "_law_scan")) := let ⟨_, X, G, c, _⟩ := T; He.glo_ok X G (c.fact 21 (f := .glo "_law_scan") rfl)
theorem Tx.f__law_scan (T : Tx K mg) : ∃ fd, FunD K "_law_scan" "_law_scan" (defArgs s__law_scan) (defBody s__law_scan) (defScope s__law_scan) (d__law_scan.dvs K) (d__law_scan.kws K) (He.ga K "_law_scan") fd := let ⟨_, X, G, c, _⟩ := T; c.def_ 21 (d := d__law_scan) rfl
theorem Tx.g__law_fault (T : Tx K mg) : mg "_law_fault" = some (.ref (He.ga K "_law_fault")) := let ⟨_, X, G, c, _⟩ := T; He.glo_ok X G (c.fact 22 (f := .glo "_law_fault") rfl)
theorem Tx.f__law_fault (T : Tx K mg) : ∃ fd, FunD K "_law_fault" "_law_fault" (defArgs s__law_fault) (defBody s__law_fault) (defScope s__law_fault) (d__law_fault.dvs K) (d__law_fault.kws K) (He.ga K "_law_fault") fd := let ⟨_, X, G, c, _⟩ := T; c.def_ 22 (d := d__law_fault) rfl
theorem Tx.g__law_told (T : Tx K mg) : mg "_law_told" = some (.ref (He.ga K "_law_told")) := let ⟨_, X, G, c, _⟩ := T; He.glo_ok X G (c.fact 23 (f := .glo "_law_told") rfl)
theorem Tx.f__law_told (T : Tx K mg) : ∃ fd, FunD K "_law_told" "_law_told" (defArgs s__law_told) (defBody s__law_told) (defScope s__law_told) (d__law_told.dvs K) (d__law_told.kws K) (He.ga K "_law_told") fd := let ⟨_, X, G, c, _⟩ := T; c.def_ 23 (d := d__law_told) rfl
theorem Tx.g__law_texts_right (T : Tx K mg) : mg "_law_texts_right" = some (.ref (He.ga K "_law_texts_right")) := let ⟨_, X, G, c, _⟩ := T; He.glo_ok X G (c.fact 24 (f := .glo "_law_texts_right") rfl)
theorem Tx.f__law_texts_right (T : Tx K mg) : ∃ fd, FunD K "_law_texts_right" "_law_texts_right" (defArgs s__law_texts_right) (defBody s__law_texts_right) (defScope s__law_texts_right) (d__law_texts_right.dvs K) (d__law_texts_right.kws K) (He.ga K "_law_texts_right") fd := let ⟨_, X, G, c, _⟩ := T; c.def_ 24 (d := d__law_texts_right) rfl
theorem Tx.g__law_bars_right (T : Tx K mg) : mg "_law_bars_right" = some (.ref (He.ga K "_law_bars_right")) := let ⟨_, X, G, c, _⟩ := T; He.glo_ok X G (c.fact 25 (f := .glo "_law_bars_right") rfl)
theorem Tx.f__law_bars_right (T : Tx K mg) : ∃ fd, FunD K "_law_bars_right" "_law_bars_right" (defArgs s__law_bars_right) (defBody s__law_bars_right) (defScope s__law_bars_right) (d__law_bars_right.dvs K) (d__law_bars_right.kws K) (He.ga K "_law_bars_right") fd := let ⟨_, X, G, c, _⟩ := T; c.def_ 25 (d := d__law_bars_right) rfl
theorem Tx.g_law (T : Tx K mg) : mg "law" = some (.ref (He.ga K "law")) := let ⟨_, X, G, c, _⟩ := T; He.glo_ok X G (c.fact 26 (f := .glo "law") rfl)
theorem Tx.f_law (T : Tx K mg) : ∃ fd, FunD K "law" "law" (defArgs s_law) (defBody s_law) (defScope s_law) (d_law.dvs K) (d_law.kws K) (He.ga K "law") fd := let ⟨_, X, G, c, _⟩ := T; c.def_ 26 (d := d_law) rfl
theorem Tx.c_NAMES (T : Tx K mg) : ∃ t, mg "NAMES" = some (.str "0123456789abcdefghijklmnopqrstuvwxyz" t) := let ⟨_, X, G, c, _⟩ := T; He.str_ok X G (c.fact 27 (f := .str "NAMES" "0123456789abcdefghijklmnopqrstuvwxyz") rfl)
theorem Tx.c_MOST_CHARACTERS (T : Tx K mg) : ∃ t, mg "MOST_CHARACTERS" = some (.int 10 t) := let ⟨_, X, G, c, _⟩ := T; He.int_ok X G (c.fact 28 (f := .int "MOST_CHARACTERS" 10) rfl)
theorem Tx.c_MOST_DURATIONS (T : Tx K mg) : ∃ t, mg "MOST_DURATIONS" = some (.int 400 t) := let ⟨_, X, G, c, _⟩ := T; He.int_ok X G (c.fact 29 (f := .int "MOST_DURATIONS" 400) rfl)
theorem Tx.c_MOST_DIGITS (T : Tx K mg) : ∃ t, mg "MOST_DIGITS" = some (.int 400 t) := let ⟨_, X, G, c, _⟩ := T; He.int_ok X G (c.fact 30 (f := .int "MOST_DIGITS" 400) rfl)
theorem Tx.gc_ScanError (T : Tx K mg) : mg "ScanError" = some (.ref (He.ga K "ScanError")) := let ⟨_, X, G, c, _⟩ := T; He.glo_ok X G (c.fact 31 (f := .glo "ScanError") rfl)
theorem Tx.gc_InvalidText (T : Tx K mg) : mg "InvalidText" = some (.ref (He.ga K "InvalidText")) := let ⟨_, X, G, c, _⟩ := T; He.glo_ok X G (c.fact 32 (f := .glo "InvalidText") rfl)
theorem Tx.gc_InvalidCode (T : Tx K mg) : mg "InvalidCode" = some (.ref (He.ga K "InvalidCode")) := let ⟨_, X, G, c, _⟩ := T; He.glo_ok X G (c.fact 33 (f := .glo "InvalidCode") rfl)
theorem Tx.gc_InvalidScan (T : Tx K mg) : mg "InvalidScan" = some (.ref (He.ga K "InvalidScan")) := let ⟨_, X, G, c, _⟩ := T; He.glo_ok X G (c.fact 34 (f := .glo "InvalidScan") rfl)
theorem Tx.gc_InvalidSyntax (T : Tx K mg) : mg "InvalidSyntax" = some (.ref (He.ga K "InvalidSyntax")) := let ⟨_, X, G, c, _⟩ := T; He.glo_ok X G (c.fact 35 (f := .glo "InvalidSyntax") rfl)
theorem Tx.na_InvalidCode_part (T : Tx K mg) : PySem.W.findIn K (.ref (He.ga K "InvalidCode")) "part" = some none := let ⟨_, X, G, c, _⟩ := T; He.noat_ok (c.fact 36 (f := .noat "InvalidCode" "part") rfl)
theorem Tx.na_InvalidCode_name (T : Tx K mg) : PySem.W.findIn K (.ref (He.ga K "InvalidCode")) "name" = some none := let ⟨_, X, G, c, _⟩ := T; He.noat_ok (c.fact 37 (f := .noat "InvalidCode" "name") rfl)
theorem Tx.x_InvalidCode_ScanError (T : Tx K mg) : PySem.W.exmOne K (.ref (He.ga K "InvalidCode")) (.ref (He.ga K "ScanError")) = some true := let ⟨_, X, G, c, _⟩ := T; He.exm_ok (c.fact 38 (f := .exm "InvalidCode" "ScanError" true) rfl)
theorem Tx.x_InvalidCode_InvalidText (T : Tx K mg) : PySem.W.exmOne K (.ref (He.ga K "InvalidCode")) (.ref (He.ga K "InvalidText")) = some false := let ⟨_, X, G, c, _⟩ := T; He.exm_ok (c.fact 39 (f := .exm "InvalidCode" "InvalidText" false) rfl)
theorem Tx.x_InvalidCode_InvalidCode (T : Tx K mg) : PySem.W.exmOne K (.ref (He.ga K "InvalidCode")) (.ref (He.ga K "InvalidCode")) = some true := let ⟨_, X, G, c, _⟩ := T; He.exm_ok (c.fact 40 (f := .exm "InvalidCode" "InvalidCode" true) rfl)
theorem Tx.x_InvalidCode_InvalidScan (T : Tx K mg) : PySem.W.exmOne K (.ref (He.ga K "InvalidCode")) (.ref (He.ga K "InvalidScan")) = some false := let ⟨_, X, G, c, _⟩ := T; He.exm_ok (c.fact 41 (f := .exm "InvalidCode" "InvalidScan" false) rfl)
theorem Tx.x_InvalidCode_InvalidSyntax (T : Tx K mg) : PySem.W.exmOne K (.ref (He.ga K "InvalidCode")) (.ref (He.ga K "InvalidSyntax")) = some false := let ⟨_, X, G, c, _⟩ := T; He.exm_ok (c.fact 42 (f := .exm "InvalidCode" "InvalidSyntax" false) rfl)
theorem Tx.na_InvalidScan_index (T : Tx K mg) : PySem.W.findIn K (.ref (He.ga K "InvalidScan")) "index" = some none := let ⟨_, X, G, c, _⟩ := T; He.noat_ok (c.fact 43 (f := .noat "InvalidScan" "index") rfl)
theorem Tx.x_InvalidScan_ScanError (T : Tx K mg) : PySem.W.exmOne K (.ref (He.ga K "InvalidScan")) (.ref (He.ga K "ScanError")) = some true := let ⟨_, X, G, c, _⟩ := T; He.exm_ok (c.fact 44 (f := .exm "InvalidScan" "ScanError" true) rfl)
theorem Tx.x_InvalidScan_InvalidText (T : Tx K mg) : PySem.W.exmOne K (.ref (He.ga K "InvalidScan")) (.ref (He.ga K "InvalidText")) = some false := let ⟨_, X, G, c, _⟩ := T; He.exm_ok (c.fact 45 (f := .exm "InvalidScan" "InvalidText" false) rfl)
theorem Tx.x_InvalidScan_InvalidCode (T : Tx K mg) : PySem.W.exmOne K (.ref (He.ga K "InvalidScan")) (.ref (He.ga K "InvalidCode")) = some false := let ⟨_, X, G, c, _⟩ := T; He.exm_ok (c.fact 46 (f := .exm "InvalidScan" "InvalidCode" false) rfl)
theorem Tx.x_InvalidScan_InvalidScan (T : Tx K mg) : PySem.W.exmOne K (.ref (He.ga K "InvalidScan")) (.ref (He.ga K "InvalidScan")) = some true := let ⟨_, X, G, c, _⟩ := T; He.exm_ok (c.fact 47 (f := .exm "InvalidScan" "InvalidScan" true) rfl)
theorem Tx.x_InvalidScan_InvalidSyntax (T : Tx K mg) : PySem.W.exmOne K (.ref (He.ga K "InvalidScan")) (.ref (He.ga K "InvalidSyntax")) = some false := let ⟨_, X, G, c, _⟩ := T; He.exm_ok (c.fact 48 (f := .exm "InvalidScan" "InvalidSyntax" false) rfl)
theorem Tx.na_InvalidSyntax_line (T : Tx K mg) : PySem.W.findIn K (.ref (He.ga K "InvalidSyntax")) "line" = some none := let ⟨_, X, G, c, _⟩ := T; He.noat_ok (c.fact 49 (f := .noat "InvalidSyntax" "line") rfl)
theorem Tx.na_InvalidSyntax_word (T : Tx K mg) : PySem.W.findIn K (.ref (He.ga K "InvalidSyntax")) "word" = some none := let ⟨_, X, G, c, _⟩ := T; He.noat_ok (c.fact 50 (f := .noat "InvalidSyntax" "word") rfl)
theorem Tx.x_InvalidSyntax_ScanError (T : Tx K mg) : PySem.W.exmOne K (.ref (He.ga K "InvalidSyntax")) (.ref (He.ga K "ScanError")) = some true := let ⟨_, X, G, c, _⟩ := T; He.exm_ok (c.fact 51 (f := .exm "InvalidSyntax" "ScanError" true) rfl)
theorem Tx.x_InvalidSyntax_InvalidText (T : Tx K mg) : PySem.W.exmOne K (.ref (He.ga K "InvalidSyntax")) (.ref (He.ga K "InvalidText")) = some false := let ⟨_, X, G, c, _⟩ := T; He.exm_ok (c.fact 52 (f := .exm "InvalidSyntax" "InvalidText" false) rfl)
theorem Tx.x_InvalidSyntax_InvalidCode (T : Tx K mg) : PySem.W.exmOne K (.ref (He.ga K "InvalidSyntax")) (.ref (He.ga K "InvalidCode")) = some false := let ⟨_, X, G, c, _⟩ := T; He.exm_ok (c.fact 53 (f := .exm "InvalidSyntax" "InvalidCode" false) rfl)
theorem Tx.x_InvalidSyntax_InvalidScan (T : Tx K mg) : PySem.W.exmOne K (.ref (He.ga K "InvalidSyntax")) (.ref (He.ga K "InvalidScan")) = some false := let ⟨_, X, G, c, _⟩ := T; He.exm_ok (c.fact 54 (f := .exm "InvalidSyntax" "InvalidScan" false) rfl)
theorem Tx.x_InvalidSyntax_InvalidSyntax (T : Tx K mg) : PySem.W.exmOne K (.ref (He.ga K "InvalidSyntax")) (.ref (He.ga K "InvalidSyntax")) = some true := let ⟨_, X, G, c, _⟩ := T; He.exm_ok (c.fact 55 (f := .exm "InvalidSyntax" "InvalidSyntax" true) rfl)
theorem Tx.fi_InvalidCode (T : Tx K mg) : ∃ fd, FunD K "__init__" "InvalidCode.__init__" (defArgs si_InvalidCode) (defBody si_InvalidCode) (defScope si_InvalidCode) (di_InvalidCode.dvs K) (di_InvalidCode.kws K) (He.ma K (He.ga K "InvalidCode") "__init__") fd := let ⟨_, X, G, c, _⟩ := T; c.def_ 27 (d := di_InvalidCode) rfl
theorem Tx.fi_InvalidScan (T : Tx K mg) : ∃ fd, FunD K "__init__" "InvalidScan.__init__" (defArgs si_InvalidScan) (defBody si_InvalidScan) (defScope si_InvalidScan) (di_InvalidScan.dvs K) (di_InvalidScan.kws K) (He.ma K (He.ga K "InvalidScan") "__init__") fd := let ⟨_, X, G, c, _⟩ := T; c.def_ 28 (d := di_InvalidScan) rfl
theorem Tx.fi_InvalidSyntax (T : Tx K mg) : ∃ fd, FunD K "__init__" "InvalidSyntax.__init__" (defArgs si_InvalidSyntax) (defBody si_InvalidSyntax) (defScope si_InvalidSyntax) (di_InvalidSyntax.dvs K) (di_InvalidSyntax.kws K) (He.ma K (He.ga K "InvalidSyntax") "__init__") fd := let ⟨_, X, G, c, _⟩ := T; c.def_ 29 (d := di_InvalidSyntax) rfl
theorem Tx.ex (T : Tx K mg) : exB K = true := let ⟨_, _, _, _, h⟩ := T; h
theorem Tx.o_InvalidCode (T : Tx K mg) : OwnX K "InvalidCode" := ownX_ok (Bool.and_eq_true_iff.mp (Bool.and_eq_true_iff.mp (Bool.and_eq_true_iff.mp T.ex).1).1).1
theorem Tx.o_InvalidScan (T : Tx K mg) : OwnX K "InvalidScan" := ownX_ok (Bool.and_eq_true_iff.mp (Bool.and_eq_true_iff.mp (Bool.and_eq_true_iff.mp T.ex).1).1).2
theorem Tx.o_InvalidSyntax (T : Tx K mg) : OwnX K "InvalidSyntax" := ownX_ok (Bool.and_eq_true_iff.mp (Bool.and_eq_true_iff.mp T.ex).1).2
theorem Tx.p_ScanError (T : Tx K mg) : ParX K "ScanError" := parX_ok (Bool.and_eq_true_iff.mp T.ex).2
theorem Tx.n_abs (T : Tx K mg) : mg "abs" = none := let ⟨_, X, G, c, _⟩ := T; He.free_ok X G (c.fact 56 (f := .free "abs") rfl)
theorem Tx.n_all (T : Tx K mg) : mg "all" = none := let ⟨_, X, G, c, _⟩ := T; He.free_ok X G (c.fact 57 (f := .free "all") rfl)
theorem Tx.n_bool (T : Tx K mg) : mg "bool" = none := let ⟨_, X, G, c, _⟩ := T; He.free_ok X G (c.fact 58 (f := .free "bool") rfl)
theorem Tx.n_dict (T : Tx K mg) : mg "dict" = none := let ⟨_, X, G, c, _⟩ := T; He.free_ok X G (c.fact 59 (f := .free "dict") rfl)
theorem Tx.n_enumerate (T : Tx K mg) : mg "enumerate" = none := let ⟨_, X, G, c, _⟩ := T; He.free_ok X G (c.fact 60 (f := .free "enumerate") rfl)
theorem Tx.n_int (T : Tx K mg) : mg "int" = none := let ⟨_, X, G, c, _⟩ := T; He.free_ok X G (c.fact 61 (f := .free "int") rfl)
theorem Tx.n_isinstance (T : Tx K mg) : mg "isinstance" = none := let ⟨_, X, G, c, _⟩ := T; He.free_ok X G (c.fact 62 (f := .free "isinstance") rfl)
theorem Tx.n_len (T : Tx K mg) : mg "len" = none := let ⟨_, X, G, c, _⟩ := T; He.free_ok X G (c.fact 63 (f := .free "len") rfl)
theorem Tx.n_list (T : Tx K mg) : mg "list" = none := let ⟨_, X, G, c, _⟩ := T; He.free_ok X G (c.fact 64 (f := .free "list") rfl)
theorem Tx.n_max (T : Tx K mg) : mg "max" = none := let ⟨_, X, G, c, _⟩ := T; He.free_ok X G (c.fact 65 (f := .free "max") rfl)
theorem Tx.n_min (T : Tx K mg) : mg "min" = none := let ⟨_, X, G, c, _⟩ := T; He.free_ok X G (c.fact 66 (f := .free "min") rfl)
theorem Tx.n_range (T : Tx K mg) : mg "range" = none := let ⟨_, X, G, c, _⟩ := T; He.free_ok X G (c.fact 67 (f := .free "range") rfl)
theorem Tx.n_repr (T : Tx K mg) : mg "repr" = none := let ⟨_, X, G, c, _⟩ := T; He.free_ok X G (c.fact 68 (f := .free "repr") rfl)
theorem Tx.n_sorted (T : Tx K mg) : mg "sorted" = none := let ⟨_, X, G, c, _⟩ := T; He.free_ok X G (c.fact 69 (f := .free "sorted") rfl)
theorem Tx.n_str (T : Tx K mg) : mg "str" = none := let ⟨_, X, G, c, _⟩ := T; He.free_ok X G (c.fact 70 (f := .free "str") rfl)
theorem Tx.n_tuple (T : Tx K mg) : mg "tuple" = none := let ⟨_, X, G, c, _⟩ := T; He.free_ok X G (c.fact 71 (f := .free "tuple") rfl)
end
section
variable {P : Program} {w : World} {K : PySem.W.Frag} {mg : Str → Option Value} {base : Heap}
theorem I_InvalidCode (T : Tx K mg) : ∃ fd ps, FnOk P w K mg base CX0 1 (He.ma K (He.ga K "InvalidCode") "__init__") fd ps (spIni2 (He.ga K "InvalidCode") "part" "name") ∧ Binds K fd ps [] := by
  obtain ⟨fd, F⟩ := T.fi_InvalidCode
  refine ⟨fd, ["self", "part", "name"], F.ok sci_InvalidCode (fun vs H Q E h => ?_) (fun cdv A outer s H vs Q E hr h => ?_), F.bindsN fun _ _ _ _ _ _ us hl => match us, hl with | [_, _, _], _ => rfl⟩
  · obtain ⟨a, v1, v2, rfl, _⟩ := h
    rfl
  · obtain ⟨a, v1, v2, rfl, h1, h2⟩ := h
    exact ⟨_, PSs.nox (pss_cons (ps_expr (pe_ceinit (by rfl) T.gc_ScanError T.p_ScanError (pa_cons (pv 0) (pa_cons pe_str pa_nil)))) (pss_cons (ps_ost (pv 0) (pv 1)) (pss_one (ps_ost (pv 0) (pv 2))))), ini2 T.o_InvalidCode.o T.na_InvalidCode_part T.na_InvalidCode_name h1 h2⟩
theorem I_InvalidScan (T : Tx K mg) : ∃ fd ps, FnOk P w K mg base CX0 1 (He.ma K (He.ga K "InvalidScan") "__init__") fd ps (spIni1 (He.ga K "InvalidScan") "index") ∧ Binds K fd ps [] := by
  obtain ⟨fd, F⟩ := T.fi_InvalidScan
  refine ⟨fd, ["self", "index"], F.ok sci_InvalidScan (fun vs H Q E h => ?_) (fun cdv A outer s H vs Q E hr h => ?_), F.bindsN fun _ _ _ _ _ _ us hl => match us, hl with | [_, _], _ => rfl⟩
  · obtain ⟨a, v1, rfl, _⟩ := h
    rfl
  · obtain ⟨a, v1, rfl, h1, h2⟩ := h
    exact ⟨_, PSs.nox (pss_cons (ps_expr (pe_ceinit (by rfl) T.gc_ScanError T.p_ScanError (pa_cons (pv 0) (pa_cons pe_str pa_nil)))) (pss_one (ps_ost (pv 0) (pv 1)))), ini1 T.o_InvalidScan.o T.na_InvalidScan_index h1 h2⟩
theorem I_InvalidSyntax (T : Tx K mg) : ∃ fd ps, FnOk P w K mg base CX0 1 (He.ma K (He.ga K "InvalidSyntax") "__init__") fd ps (spIni2 (He.ga K "InvalidSyntax") "line" "word") ∧ Binds K fd ps [] := by
  obtain ⟨fd, F⟩ := T.fi_InvalidSyntax
  refine ⟨fd, ["self", "line", "word"], F.ok sci_InvalidSyntax (fun vs H Q E h => ?_) (fun cdv A outer s H vs Q E hr h => ?_), F.bindsN fun _ _ _ _ _ _ us hl => match us, hl with | [_, _, _], _ => rfl⟩
  · obtain ⟨a, v1, v2, rfl, _⟩ := h
    rfl
  · obtain ⟨a, v1, v2, rfl, h1, h2⟩ := h
    exact ⟨_, PSs.nox (pss_cons (ps_expr (pe_ceinit (by rfl) T.gc_ScanError T.p_ScanError (pa_cons (pv 0) (pa_cons pe_str pa_nil)))) (pss_cons (ps_ost (pv 0) (pv 1)) (pss_one (ps_ost (pv 0) (pv 2))))), ini2 T.o_InvalidSyntax.o T.na_InvalidSyntax_line T.na_InvalidSyntax_word h1 h2⟩
end
section
variable {P : Program} {w : World} {K : PySem.W.Frag} {mg : Str → Option Value} {base : Heap}
theorem xK {CX : CXT} {N : List Str} {qual : Str} {scope : Scope} {f : Addr} {cd : Value} {A : Around} {outer : List Env} {s : Shared} {H : Hp} {E : XK} : (cxOf CX P w K mg base N qual scope f cd A outer s H E).nox.K = K := rfl

theorem xK2 {CX : CXT} {N : List Str} {qual : Str} {scope : Scope} {f : Addr} {cd : Value} {A : Around} {outer : List Env} {s : Shared} {H : Hp} {E : XK} : (cxOf CX P w K mg base N qual scope f cd A outer s H E).K = K := rfl
/-! ### values -/
def optI : Option Int → PyData
  | none => .none
  | some i => .int i
def isIntD (d : PyData) (lo hi : Option Int) : Bool := match d with
  | .int i => lo.all (fun z => decide (z ≤ i)) && hi.all (fun z => decide (i ≤ z))
  | _ => false
theorem isInt_no {d : PyData} {lo hi : Option Int} (h : ¬ ∃ i, d = .int i) : isIntD d lo hi = false := by
  cases d <;> first | rfl | exact absurd ⟨_, rfl⟩ h
def R_is_integer : List PyData → PyData → Prop := fun ds r => ∃ d lo hi, ds = [d, optI lo, optI hi] ∧ r = .bool (isIntD d lo hi)
theorem G_is_integer {f : Addr} {fd : FuncData} (T : Tx K mg) (F : FunD K "is_integer" "is_integer" (defArgs s_is_integer) (defBody s_is_integer) (defScope s_is_integer) (d_is_integer.dvs K) (d_is_integer.kws K) f fd) : FnG P w K mg base CX0 1 f fd ["value", "least", "most"] (PSp K R_is_integer) := by
  refine fnG_of F sc_is_integer (fun vs H Q E h => PSp.len (n := 3) (by rintro _ _ ⟨d, lo, hi, rfl, _⟩; rfl) h) (fun cdv A outer s H vs Q E hg hr h => ?_)
  obtain ⟨G, M, ds, r, hA, hR, ⟨d, lo, hi, rfl, rfl⟩, q⟩ := h
  obtain ⟨v0, _, rfl, r0, v1, _, rfl, r1, v2, _, rfl, r2, rfl⟩ := hR
  refine ⟨_, PSs.nox (pss_cons (ps_if (PW.pt (pw_or (pt_not (pt_val (pe_callB call_isi (by rfl) T.n_isinstance (by decide +kernel) (pa_cons (pv 0) (pa_cons (pe_bltn (v := .ty "int") (u := .type "int") (by rfl) T.n_int (by decide +kernel) rfl) pa_nil))))) (pw_or1 (pt_val (pe_callB call_isi (by rfl) T.n_isinstance (by decide +kernel) (pa_cons (pv 0) (pa_cons (pe_bltn (v := .ty "bool") (u := .type "bool") (by rfl) T.n_bool (by decide +kernel) rfl) pa_nil))))))) (pss_one (ps_ret pe_bl)) pss_nil)
    (pss_one (ps_ret (pe_and (pe_or (pe_cmpR op_isN (pv 1) pe_non (nomark _)) (pe_one (pe_cmpR op_ge (pv 0) (pv 1) (nomark _)))) (pe_one (pe_or (pe_cmpR op_isN (pv 2) pe_non (nomark _)) (pe_one (pe_cmpR op_le (pv 0) (pv 2) (nomark _))))))))), ?_⟩
  rw [show L2.start ["value", "least", "most"] [v0, v1, v2] = [some v0, some v1, some v2] from rfl]
  dsimp only [xK]
  by_cases hd : ∃ i, d = .int i
  · obtain ⟨i, rfl⟩ := hd
    refine (q_guardF ?_ hA fun G1 H1 e1 A1 => ?_)
    · exact TrB.to (b := !isA "int" (.int i) || isA "bool" (.int i)) (by walk_at "tr") rfl
    refine s_ret (d := .bool (isIntD (.int i) lo hi)) ?_ A1 (q.mono e1)
    have h1 : TrD K (tOrV (tOp (fun x y H Q => y = V.non ∧ Q (V.bl (decide (x = V.non))) H) (tVar 1) (tC V.non)) (tOp (rI0 fun i j => V.bl (decide (j ≤ i))) (tVar 0) (tVar 1)))
        [some v0, some v1, some v2] G1 (.bool (lo.all fun z => decide (z ≤ i))) := by
      cases lo with
      | none => exact v_orT (TrD.to (d_op (d_var rfl (r1.up e1)) d_non rd_isN) rfl)
      | some l => exact v_orF (TrD.to (d_op (d_var rfl (r1.up e1)) d_non rd_isN) rfl) (d_op (d_var rfl (r0.up e1)) (d_var rfl (r1.up e1)) rd_ge)
    have h2 : TrD K (tOrV (tOp (fun x y H Q => y = V.non ∧ Q (V.bl (decide (x = V.non))) H) (tVar 2) (tC V.non)) (tOp (rI0 fun i j => V.bl (decide (i ≤ j))) (tVar 0) (tVar 2)))
        [some v0, some v1, some v2] G1 (.bool (hi.all fun z => decide (i ≤ z))) := by
      cases hi with
      | none => exact v_orT (TrD.to (d_op (d_var rfl (r2.up e1)) d_non rd_isN) rfl)
      | some l => exact v_orF (TrD.to (d_op (d_var rfl (r2.up e1)) d_non rd_isN) rfl) (d_op (d_var rfl (r0.up e1)) (d_var rfl (r2.up e1)) rd_le)
    exact v_and h1 fun _ => h2
  · rw [isInt_no hd] at q
    refine (q_guardR ?_ hA fun G1 H1 e1 A1 => ?_)
    · exact TrB.to (b := !isA "int" d || isA "bool" d) (by walk_at "tr") (by cases d <;> first | rfl | exact absurd ⟨_, rfl⟩ hd)
    exact s_ret d_bl A1 (q.mono e1)
theorem F_is_integer3 (T : Tx K mg) : Fd P w K mg base CX0 1 "is_integer" (PSp K R_is_integer) [] := by
  obtain ⟨fd, F⟩ := T.f_is_integer
  obtain ⟨ds, hv, hb⟩ := F.binds1 (ps := ["value", "least", "most"]) 3 2 (by intro z; cases z) rfl fun _ _ _ _ _ _ _ us its h1 h2 => match us, its, h1, h2 with | [_, _, _], [_, _], _, _ => ⟨_, rfl, rfl⟩
  cases hv
  exact ⟨_, fd, _, [], T.g_is_integer, F.kp, hb, .nil, G_is_integer T F⟩

theorem F_is_integer2 (T : Tx K mg) : Fd P w K mg base CX0 1 "is_integer" (PSp K R_is_integer) [.non] := by
  obtain ⟨fd, F⟩ := T.f_is_integer
  obtain ⟨ds, hv, hb⟩ := F.binds1 (ps := ["value", "least", "most"]) 2 1 (by intro z; cases z) rfl fun _ _ _ _ _ _ _ us its h1 h2 => match us, its, h1, h2 with | [_, _], [_, _], _, _ => ⟨_, rfl, rfl⟩
  exact ⟨_, fd, _, ds, T.g_is_integer, F.kp, hb, hv, G_is_integer T F⟩
def NAMESs : Str := "0123456789abcdefghijklmnopqrstuvwxyz"
def isNameS (x : Str) : Bool := match x.cps.toList with
  | [c] => decide (c ∈ NAMESs.cps.toList)
  | _ => false
def isNameD (d : PyData) : Bool := match d with
  | .str x => isNameS x
  | _ => false
def R_is_name : List PyData → PyData → Prop := fun ds r => ∃ d, ds = [d] ∧ (∀ x, d = .str x → x.length ≤ 100000) ∧ r = .bool (isNameD d)
theorem one_sign {x : Str} (h : x.length = 1) : ∃ c, x = ⟨#[c]⟩ := by
  obtain ⟨⟨l⟩⟩ := x
  match l, h with
  | [c], _ => exact ⟨c, rfl⟩
theorem F_is_name (T : Tx K mg) : Fd P w K mg base CX0 1 "is_name" (PSp K R_is_name) [] := by
  obtain ⟨fd, F⟩ := T.f_is_name
  refine ⟨_, fd, ["value"], [], T.g_is_name, F.kp, F.bindsN fun _ _ _ _ _ _ us hl => match us, hl with | [_], _ => rfl, .nil, ?_⟩
  refine fnG_of F sc_is_name (fun vs H Q E h => PSp.len (n := 1) (by rintro _ _ ⟨d, rfl, _⟩; rfl) h) (fun cdv A outer s H vs Q E hg hr h => ?_)
  obtain ⟨G, M, ds, r, hA, hR, ⟨d, rfl, hz, rfl⟩, q⟩ := h
  obtain ⟨v0, _, rfl, r0, rfl⟩ := hR
  refine ⟨_, PSs.nox (pss_one (ps_ret (pe_and (pe_callB call_isi (by rfl) T.n_isinstance (by decide +kernel) (pa_cons (pv 0) (pa_cons (pe_bltn (v := .ty "str") (u := .type "str") (by rfl) T.n_str (by decide +kernel) rfl) pa_nil))) (pe_and (pe_cmpR op_eq (pe_callB call_len' (by rfl) T.n_len (by decide +kernel) (pa_cons (pv 0) pa_nil)) pe_int (nomark _)) (pe_one (pe_cmpR op_in_sign (pv 0) (pe_glob (v := .str "0123456789abcdefghijklmnopqrstuvwxyz") (by rfl) T.c_NAMES.choose_spec ⟨_, rfl⟩) (by rfl))))))), ?_⟩
  rw [show L2.start ["value"] [v0] = [some v0] from rfl]
  dsimp only [xK]
  refine s_ret (d := .bool (isNameD d)) ?_ hA q
  by_cases hd : ∃ x, d = .str x
  · obtain ⟨x, rfl⟩ := hd
    refine v_andT (TrD.to (d_isi (n := "str") (d_var rfl r0)) rfl) ?_
    have hl : TrD K _ [some v0] G (.bool (decide ((x.length : Int) = 1))) := d_op (d_cb (a_cons (d_var (i := 0) rfl r0) a_nil) (rc_lenS (K := K) (sz_of (hz x rfl)))) d_int rd_eqI
    by_cases h1 : x.length = 1
    · obtain ⟨c, rfl⟩ := one_sign h1
      refine v_andT (TrD.to hl rfl) ?_
      refine TrD.to (d_op (d_var rfl r0) d_str rd_inSign) ?_
      rfl
    · have e : isNameD (.str x) = false := by
        show isNameS x = false
        unfold isNameS
        split
        · rename_i c hc
          exact absurd (by rw [show x.length = x.cps.toList.length from rfl, hc]; rfl) h1
        · rfl
      rw [e]
      refine v_andF (TrD.to hl ?_)
      rw [decide_eq_false (by omega)]
  · have e : isNameD d = false := by cases d <;> first | rfl | exact absurd ⟨_, rfl⟩ hd
    rw [e]
    exact v_andF (TrD.to (d_isi (n := "str") (d_var rfl r0)) (by cases d <;> first | rfl | exact absurd ⟨_, rfl⟩ hd))

def areWD (d : PyData) (lo hi : Int) : Bool := match d with
  | .tuple ds => decide (lo ≤ (ds.length : Int)) && decide ((ds.length : Int) ≤ hi) && ds.all fun x => isIntD x (some 1) (some 4)
  | _ => false
def R_are_widths : List PyData → PyData → Prop := fun ds r => ∃ d lo hi, ds = [d, .int lo, .int hi] ∧ hi ≤ 1000 ∧ r = .bool (areWD d lo hi)
theorem F_are_widths (T : Tx K mg) : Fd P w K mg base CX0 2 "are_widths" (PSp K R_are_widths) [] := by
  obtain ⟨fd, F⟩ := T.f_are_widths
  refine ⟨_, fd, ["value", "least", "most"], [], T.g_are_widths, F.kp, F.bindsN fun _ _ _ _ _ _ us hl => match us, hl with | [_, _, _], _ => rfl, .nil, ?_⟩
  refine fnG_of F sc_are_widths (fun vs H Q E h => PSp.len (n := 3) (by rintro _ _ ⟨d, lo, hi, rfl, _⟩; rfl) h) (fun cdv A outer s H vs Q E hg hr h => ?_)
  obtain ⟨G, M, ds, r, hA, hR, ⟨d, lo, hi, rfl, hh, rfl⟩, q⟩ := h
  obtain ⟨v0, _, rfl, r0, v1, _, rfl, r1, v2, _, rfl, r2, rfl⟩ := hR
  refine ⟨_, PSs.nox (pss_cons (ps_if (PW.pt (pw_or (pt_not (pt_val (pe_callB call_isi (by rfl) T.n_isinstance (by decide +kernel) (pa_cons (pv 0) (pa_cons (pe_bltn (v := .ty "tuple") (u := .type "tuple") (by rfl) T.n_tuple (by decide +kernel) rfl) pa_nil))))) (pw_or1 (pt_not (pt_chain op_le op_le (pv 1) (pe_callB call_len' (by rfl) T.n_len (by decide +kernel) (pa_cons (pv 0) pa_nil)) (pv 2)))))) (pss_one (ps_ret pe_bl)) pss_nil)
    (pss_one (ps_ret (pe_callB (cr_all rfl) (by rfl) T.n_all (by decide +kernel) (pa_cons (pe_lc (own := [("item", 3)]) (g := gName 3) (by rfl) sc_are_widths.nd (pi_tup (pv 0)) (blkOk_by (own := [("item", 3)]) (N := ["value", "least", "most", "item"]) (sc := defScope s_are_widths) (by decide +kernel)) (fun _ _ _ _ _ => (pg_name (i := 3) sc_are_widths.nd rfl (by first | exact Or.inl rfl | exact Or.inr rfl))) (fun _ _ _ _ _ => pts_nil) (fun _ _ _ _ _ => (pe_fd (F_is_integer3 (P := P) (w := w) (base := base) T) hg (hr.mono (by decide)) pass0 (pa_cons (pv 3) (pa_cons pe_int (pa_cons pe_int pa_nil)))))) pa_nil))))), ?_⟩
  rw [show L2.start ["value", "least", "most", "item"] [v0, v1, v2] = [some v0, some v1, some v2, none] from rfl]
  dsimp only [xK]
  by_cases hd : ∃ ds, d = .tuple ds
  · obtain ⟨ds, rfl⟩ := hd
    have ht : TrB _ [some v0, some v1, some v2, none] G (!isA "tuple" (.tuple ds) || !(decide (lo ≤ (ds.length : Int)) && decide ((ds.length : Int) ≤ hi))) :=
      b_or (b_not (b_B (d_isi (d_var (i := 0) rfl r0)))) fun _ => b_not (b_T (d_chain (d_var (i := 1) rfl r1) (d_cb (a_cons (d_var (i := 0) rfl r0) a_nil) (rc_lenT (K := K))) rd_le (fun _ => d_var (i := 2) rfl r2) fun _ => rd_le))
    by_cases hl : lo ≤ (ds.length : Int) ∧ (ds.length : Int) ≤ hi
    · refine (q_guardF (TrB.to ht ?_) hA fun G1 H1 e1 A1 => ?_)
      · rw [decide_eq_true hl.1, decide_eq_true hl.2]; rfl
      refine s_ret (d := .bool (areWD (.tuple ds) lo hi)) ?_ A1 (q.mono e1)
      have e : areWD (.tuple ds) lo hi = (ds.map fun x => isIntD x (some 1) (some 4)).all id := by
        show (decide (lo ≤ (ds.length : Int)) && decide ((ds.length : Int) ≤ hi) && _) = _
        rw [decide_eq_true hl.1, decide_eq_true hl.2, List.all_map]
        rfl
      rw [e]
      refine d_cb (a_cons ?_ a_nil) rc_all
      refine TrD.to (d_lcT (p := fun _ => true) (f := fun x => .bool (isIntD x (some 1) (some 4))) (d_var rfl (r0.up e1)) (by omega) (fun _ _ _ _ _ _ => b_yes) fun x _ _ v G2 e2 rx => ?_) (by rw [filt_true, List.map_map]; rfl)
      exact d_call0 (a_cons (d_var rfl rx) (a_cons d_int (a_cons d_int a_nil))) ⟨x, some 1, some 4, rfl, rfl⟩
    · have e : areWD (.tuple ds) lo hi = false := by
        show (decide (lo ≤ (ds.length : Int)) && decide ((ds.length : Int) ≤ hi) && _) = false
        by_cases h1 : lo ≤ (ds.length : Int)
        · rw [decide_eq_false (fun z => hl ⟨h1, z⟩), Bool.and_false, Bool.false_and]
        · rw [decide_eq_false h1, Bool.false_and, Bool.false_and]
      rw [e] at q
      refine (q_guardR (TrB.to ht ?_) hA fun G1 H1 e1 A1 => ?_)
      · by_cases h1 : lo ≤ (ds.length : Int)
        · rw [decide_eq_false (fun z => hl ⟨h1, z⟩), Bool.and_false]; rfl
        · rw [decide_eq_false h1, Bool.false_and]; rfl
      exact s_ret d_bl A1 (q.mono e1)
  · have e : areWD d lo hi = false := by cases d <;> first | rfl | exact absurd ⟨_, rfl⟩ hd
    rw [e] at q
    refine (q_guardR (b_orT (TrB.to (b_not (b_B (d_isi (d_var rfl r0)))) ?_)) hA fun G1 H1 e1 A1 => ?_)
    · cases d <;> first | rfl | exact absurd ⟨_, rfl⟩ hd
    exact s_ret d_bl A1 (q.mono e1)
def R_is_widths : List PyData → PyData → Prop := fun ds r => ∃ d, ds = [d] ∧ r = .bool (areWD d 1 6)
theorem F_is_widths (T : Tx K mg) : Fd P w K mg base CX0 3 "is_widths" (PSp K R_is_widths) [] := by
  obtain ⟨fd, F⟩ := T.f_is_widths
  refine ⟨_, fd, ["value"], [], T.g_is_widths, F.kp, F.bindsN fun _ _ _ _ _ _ us hl => match us, hl with | [_], _ => rfl, .nil, ?_⟩
  refine fnG_of F sc_is_widths (fun vs H Q E h => PSp.len (n := 1) (by rintro _ _ ⟨d, rfl, _⟩; rfl) h) (fun cdv A outer s H vs Q E hg hr h => ?_)
  obtain ⟨G, M, ds, r, hA, hR, ⟨d, rfl, rfl⟩, q⟩ := h
  obtain ⟨v0, _, rfl, r0, rfl⟩ := hR
  refine ⟨_, PSs.nox (pss_one (ps_ret (pe_fd (F_are_widths (P := P) (w := w) (base := base) T) hg (hr.mono (by decide)) pass0 (pa_cons (pv 0) (pa_cons pe_int (pa_cons pe_int pa_nil)))))), ?_⟩
  rw [show L2.start ["value"] [v0] = [some v0] from rfl]
  exact s_ret (d_call0 (a_cons (d_var rfl r0) (a_cons d_int (a_cons d_int a_nil))) ⟨d, 1, 6, rfl, by decide, rfl⟩) hA q
end
end K81

namespace K81
open PySem PySem.Spec PyProof.Rows L2 Sb
local macro_rules | `(tactic| walk_at "ex") => `(tactic| first | exact Ex.refl _ | assumption | (refine' Ex.trans ?_ (by assumption); walk_at "ex"))
local macro_rules | `(tactic| walk_at "rp") => `(tactic| first | assumption | (refine' Rp.up ?e (by assumption); (case e => walk_at "ex")) | exact rfl)
local macro_rules | `(tactic| walk_at "rd") => `(tactic| with_reducible first | exact rd_add | exact rd_sub | exact rd_lt | exact rd_le | exact rd_gt | exact rd_ge | exact rd_eqI | exact rd_neI | exact rd_eqS | exact rd_neS | exact rd_isN | exact rd_ltS | exact rd_inSign | exact rd_eqE)
local macro_rules | `(tactic| walk_at "tr") => `(tactic| first
  | with_reducible exact d_int
  | with_reducible exact d_str
  | with_reducible exact d_bl
  | with_reducible exact d_non
  | with_reducible exact a_nil
  | with_reducible exact b_yes
  | with_reducible exact o_none
  | with_reducible exact d_newD
  | ((with_reducible refine' d_var ?i ?r); (case i => rfl); (case r => walk_at "rp"))
  | ((with_reducible refine' a_cons ?a ?b); (case a => walk_at "tr"); (case b => walk_at "tr"))
  | ((with_reducible refine' a_star ?a ?b); (case a => walk_at "tr"); (case b => walk_at "tr"))
  | ((with_reducible refine' d_isi ?a ?b); (case a => walk_at "tr"); (case b => decide))
  | ((with_reducible refine' d_op ?a ?b ?c); (case a => walk_at "tr"); (case b => walk_at "tr"); (case c => walk_at "rd"))
  | ((with_reducible refine' d_tup ?a ?b); (case a => walk_at "tr"); (case b => first | decide | (simp; done)))
  | ((with_reducible refine' d_lst ?a ?b); (case a => walk_at "tr"); (case b => first | decide | (simp; done)))
  | ((with_reducible refine' o_some ?a); (case a => walk_at "tr"))
  | ((with_reducible refine' b_B ?a); (case a => walk_at "tr"))
  | ((with_reducible refine' b_T ?a); (case a => walk_at "tr"))
  | ((with_reducible refine' b_not ?a); (case a => walk_at "tr"))
  | ((with_reducible refine' v_not ?a); (case a => walk_at "tr"))
  | ((with_reducible refine' b_or ?a ?b); (case a => walk_at "tr"); (case b => intro _; walk_at "tr"))
  | ((with_reducible refine' b_and ?a ?b); (case a => walk_at "tr"); (case b => intro _; walk_at "tr"))
  | ((with_reducible refine' v_or ?a ?b); (case a => walk_at "tr"); (case b => intro _; walk_at "tr"))
  | ((with_reducible refine' v_and ?a ?b); (case a => walk_at "tr"); (case b => intro _; walk_at "tr"))
  | assumption)


/-! ### codes -/
def okW (lo hi : Nat) (ns : List Int) : Prop := lo ≤ ns.length ∧ ns.length ≤ hi ∧ ∀ n ∈ ns, 1 ≤ n ∧ n ≤ 4
def chD (cs : List (Str × List Int)) : List (Str × PyData) := cs.map fun p => (p.1, .tuple (dInts p.2))
structure CodeD where
  st : List Int
  cs : List (Str × List Int)
  bt : List Int
  sp : List Int
def CodeD.d (c : CodeD) : PyData := .tuple [.tuple (dInts c.st), .dict (keysD (chD c.cs)), .tuple (dInts c.bt), .tuple (dInts c.sp)]
structure okCs (cs : List (Str × List Int)) : Prop where
  l1 : 1 ≤ cs.length
  l2 : cs.length ≤ 10
  nm : ∀ p ∈ cs, isNameS p.1 = true ∧ okW 1 6 p.2
  nd : (cs.map (·.1)).Nodup
structure CodeD.ok (c : CodeD) : Prop where
  st : okW 1 6 c.st
  cs : okCs c.cs
  bt : okW 0 2 c.bt
  sp : okW 1 6 c.sp
theorem dInts_len (ns : List Int) : (dInts ns).length = ns.length := by simp [dInts]
theorem areWD_ok {ns : List Int} {lo hi : Nat} (h : okW lo hi ns) : areWD (.tuple (dInts ns)) lo hi = true := by
  show (decide ((lo : Int) ≤ ((dInts ns).length : Int)) && decide (((dInts ns).length : Int) ≤ (hi : Int)) && (dInts ns).all _) = true
  rw [dInts_len, decide_eq_true (by have := h.1; omega), decide_eq_true (by have := h.2.1; omega), List.all_eq_true.mpr]
  · rfl
  · intro x hx
    obtain ⟨n, hn, rfl⟩ := List.mem_map.mp hx
    have z := h.2.2 n hn
    show (decide (1 ≤ n) && decide (n ≤ 4)) = true
    rw [decide_eq_true z.1, decide_eq_true z.2]
    rfl
theorem name_len {x : Str} (h : isNameS x = true) : x.length = 1 := by
  unfold isNameS at h
  split at h
  · rename_i c hc
    show x.cps.toList.length = 1
    rw [hc]
    rfl
  · cases h
theorem lookD_mem : ∀ {kvs : List (Str × PyData)} {k : Str} {d : PyData}, (kvs.map (·.1)).Nodup → (k, d) ∈ kvs → lookD kvs k = some d
  | [], _, _, _, h => by cases h
  | (k', d') :: r, k, d, nd, h => by
    unfold lookD
    rw [List.find?_cons]
    have nd' := List.nodup_cons.mp nd
    rcases List.mem_cons.mp h with e | h
    · cases e
      simp
    · have hne : k' ≠ k := fun e => nd'.1 (by rw [e]; exact List.mem_map.mpr ⟨_, h, rfl⟩)
      simp only [decide_eq_false hne]
      exact lookD_mem nd'.2 h
theorem chD_keys (cs : List (Str × List Int)) : (chD cs).map (·.1) = cs.map (·.1) := by unfold chD; rw [List.map_map]; rfl
theorem chD_look {cs : List (Str × List Int)} (h : (cs.map (·.1)).Nodup) {p : Str × List Int} (hp : p ∈ cs) : lookD (chD cs) p.1 = some (.tuple (dInts p.2)) :=
  lookD_mem (by rw [chD_keys]; exact h) (List.mem_map.mpr ⟨p, hp, rfl⟩)
section
variable {P : Program} {w : World} {K : PySem.W.Frag} {mg : Str → Option Value} {base : Heap}
def R_foc : List PyData → PyData → Prop := fun ds r => ∃ cs, ds = [.dict (keysD (chD cs))] ∧ okCs cs ∧ r = .list []
theorem F_fault_of_characters (T : Tx K mg) : Fd P w K mg base CX0 4 "fault_of_characters" (PSp K R_foc) [] := by
  obtain ⟨fd, F⟩ := T.f_fault_of_characters
  refine ⟨_, fd, ["value"], [], T.g_fault_of_characters, F.kp, F.bindsN fun _ _ _ _ _ _ us hl => match us, hl with | [_], _ => rfl, .nil, ?_⟩
  refine fnG_of F sc_fault_of_characters (fun vs H Q E h => PSp.len (n := 1) (by rintro _ _ ⟨d, rfl, _⟩; rfl) h) (fun cdv A outer s H vs Q E hg hr h => ?_)
  obtain ⟨G, M, ds, r, hA, hR, ⟨cs, rfl, ok, rfl⟩, q⟩ := h
  obtain ⟨v0, _, rfl, r0, rfl⟩ := hR
  refine ⟨_, PSs.nox (pss_cons (ps_if (PW.pt (pw_or (pt_not (pt_val (pe_callB call_isi (by rfl) T.n_isinstance (by decide +kernel) (pa_cons (pv 0) (pa_cons (pe_bltn (v := .ty "dict") (u := .type "dict") (by rfl) T.n_dict (by decide +kernel) rfl) pa_nil))))) (pw_or1 (pt_not (pt_chain op_le op_le pe_int (pe_callB call_lenD' (by rfl) T.n_len (by decide +kernel) (pa_cons (pv 0) pa_nil)) (pe_glob (v := .int 10) (by rfl) T.c_MOST_CHARACTERS.choose_spec ⟨_, rfl⟩)))))) (pss_one (ps_ret (pe_lst (pa_cons pe_non pa_nil)))) pss_nil)
    (pss_cons (ps_if (pt_not (pt_val (pe_callB (cr_all rfl) (by rfl) T.n_all (by decide +kernel) (pa_cons (pe_lock (pe_lc (own := [("name", 1)]) (g := gName 1) (by rfl) sc_fault_of_characters.nd (pi_keys (pv 0)) (blkOk_by (own := [("name", 1)]) (N := ["value", "name"]) (sc := defScope s_fault_of_characters) (by decide +kernel)) (fun _ _ _ _ _ => (pg_name (i := 1) sc_fault_of_characters.nd rfl (by first | exact Or.inl rfl | exact Or.inr rfl))) (fun _ _ _ _ _ => pts_nil) (fun _ _ _ _ _ => (pe_fd (F_is_name (P := P) (w := w) (base := base) T) hg (hr.mono (by decide)) pass0 (pa_cons (pv 1) pa_nil))))) pa_nil)))) (pss_one (ps_ret (pe_lst (pa_cons pe_non pa_nil)))) pss_nil)
    (pss_one (ps_ret (pe_slice sl_list (pe_lc (own := [("name", 1)]) (g := gName 1) (by rfl) sc_fault_of_characters.nd (pi_list (pe_callB (call_sortedD' rfl) (by rfl) T.n_sorted (by decide +kernel) (pa_cons (pv 0) pa_nil))) (blkOk_by (own := [("name", 1)]) (N := ["value", "name"]) (sc := defScope s_fault_of_characters) (by decide +kernel)) (fun _ _ _ _ _ => (pg_name (i := 1) sc_fault_of_characters.nd rfl (by first | exact Or.inl rfl | exact Or.inr rfl))) (fun _ _ _ _ _ => (pts_one (pt_not (pt_val (pe_fd (F_is_widths (P := P) (w := w) (base := base) T) hg (hr.mono (by decide)) pass0 (pa_cons (pe_dget (hu_of hr) (pv 0) (pv 1) (fun _ _ => rfl)) pa_nil)))))) (fun _ _ _ _ _ => (pv 1))) po_none (po_some pe_int)))))), ?_⟩
  rw [show L2.start ["value", "name"] [v0] = [some v0, none] from rfl]
  dsimp only [xK]
  have hlen : (keysD (chD cs)).length = cs.length := by rw [keysD_len]; simp [chD]
  have hlen2 : (chD cs).length = cs.length := by simp [chD]
  have hl1 := ok.l1
  have hl2 := ok.l2
  refine q_guardF (TrB.to (b_or (b_not (b_B (d_isi (d_var rfl r0)))) fun _ => b_not (b_T (d_chain d_int (d_cb (a_cons (d_var rfl r0) a_nil) rc_lenD) rd_le (fun _ => d_int) fun _ => rd_le))) ?_) hA fun G1 H1 e1 A1 => ?_
  · rw [hlen, decide_eq_true (show (1 : Int) ≤ (cs.length : Int) by omega), decide_eq_true (show (cs.length : Int) ≤ 10 by omega)]
    rfl
  refine q_guardF (TrB.to (b_not (b_B (d_cb (a_cons (TrD.to (d_lcK (p := fun _ => true) (f := fun k => .bool (isNameS k)) rfl (r0.up e1) (by omega) rfl (fun _ _ _ => b_yes) fun k hk G2 => ?_) ?_) a_nil) (rc_all (bs := (cs.map (·.1)).map isNameS))))) ?_) A1 fun G2 H2 e2 A2 => ?_
  · obtain ⟨p, hp, rfl⟩ := List.mem_map.mp (by rw [chD_keys] at hk; exact hk)
    exact d_call0 (a_cons (d_var (d := .str p.1) rfl rfl) a_nil) ⟨.str p.1, rfl, fun x hx => by cases hx; rw [name_len (ok.nm p hp).1]; decide, rfl⟩
  · rw [filt_true, chD_keys]
    simp only [List.map_map]
    rfl
  · have z : ((cs.map (·.1)).map isNameS).all id = true := by
      rw [List.all_eq_true]
      intro b hb
      obtain ⟨x, hx, rfl⟩ := List.mem_map.mp hb
      obtain ⟨p, hp, rfl⟩ := List.mem_map.mp hx
      exact (ok.nm p hp).1
    rw [z]
    rfl
  refine s_ret (TrD.to (d_slL (d_lcL (p := fun _ => false) (f := fun x => x) (d_cb (a_cons (d_var rfl (r0.up (e1.trans e2))) a_nil) (rc_sortD (by omega))) ?_ (fun d hd x G3 e3 rx => ?_) fun d hd hp => ?_) o_none (o_some (K := K) d_int)) ?_) A2 (q.mono (e1.trans e2))
  · unfold dStrs
    rw [List.length_map, (srt_perm _).length_eq, List.length_map]
    omega
  · obtain ⟨nm, hnm, rfl⟩ := List.mem_map.mp hd
    have hm := (srt_perm _).mem_iff.mp hnm
    rw [chD_keys] at hm
    obtain ⟨p, hp, rfl⟩ := List.mem_map.mp hm
    refine TrB.to (b_not (b_B (d_call0 (a_cons (d_dget (d_var rfl (r0.up ((e1.trans e2).trans e3))) (d_var rfl rx) (chD_look ok.nd hp)) a_nil) ⟨_, rfl, rfl⟩))) ?_
    rw [show areWD (.tuple (dInts p.2)) 1 6 = true from areWD_ok (ok.nm p hp).2]
    rfl
  · cases hp
  · rw [List.filter_eq_nil_iff.mpr (fun _ _ => Bool.false_ne_true)]
    rfl
def R_fc : List PyData → PyData → Prop := fun ds r => ∃ c : CodeD, ds = [c.d] ∧ c.ok ∧ r = .list []
theorem F_fault_of_code (T : Tx K mg) : Fd P w K mg base CX0 5 "fault_of_code" (PSp K R_fc) [] := by
  obtain ⟨fd, F⟩ := T.f_fault_of_code
  refine ⟨_, fd, ["value"], [], T.g_fault_of_code, F.kp, F.bindsN fun _ _ _ _ _ _ us hl => match us, hl with | [_], _ => rfl, .nil, ?_⟩
  refine fnG_of F sc_fault_of_code (fun vs H Q E h => PSp.len (n := 1) (by rintro _ _ ⟨d, rfl, _⟩; rfl) h) (fun cdv A outer s H vs Q E hg hr h => ?_)
  obtain ⟨G, M, ds, r, hA, hR, ⟨c, rfl, ok, rfl⟩, q⟩ := h
  obtain ⟨v0, _, rfl, r0, rfl⟩ := hR
  refine ⟨_, PSs.nox (pss_cons (ps_if (PW.pt (pw_or (pt_not (pt_val (pe_callB call_isi (by rfl) T.n_isinstance (by decide +kernel) (pa_cons (pv 0) (pa_cons (pe_bltn (v := .ty "tuple") (u := .type "tuple") (by rfl) T.n_tuple (by decide +kernel) rfl) pa_nil))))) (pw_or1 (pt_cmpR op_ne (pe_callB call_len' (by rfl) T.n_len (by decide +kernel) (pa_cons (pv 0) pa_nil)) pe_int (nomark _))))) (pss_one (ps_ret (pe_lst (pa_cons (pe_tup (pa_cons pe_non (pa_cons pe_non pa_nil))) pa_nil)))) pss_nil)
    (pss_cons (ps_asg (pv 0) (pg_tup (by rfl) (pgs_cons (pg_name (i := 1) sc_fault_of_code.nd rfl (by first | exact Or.inl rfl | exact Or.inr rfl)) (pgs_cons (pg_name (i := 2) sc_fault_of_code.nd rfl (by first | exact Or.inl rfl | exact Or.inr rfl)) (pgs_cons (pg_name (i := 3) sc_fault_of_code.nd rfl (by first | exact Or.inl rfl | exact Or.inr rfl)) (pgs_cons (pg_name (i := 4) sc_fault_of_code.nd rfl (by first | exact Or.inl rfl | exact Or.inr rfl)) pgs_nil))))))
    (pss_cons (ps_setLc (i := 5) (own := [("name", 6)]) (g := gName 6) (by rfl) sc_fault_of_code.nd rfl rfl (sw_true rfl rfl rfl (by decide +kernel)) (pi_list (pe_fd (F_fault_of_characters (P := P) (w := w) (base := base) T) hg (hr.mono (by decide)) pass0 (pa_cons (pv 2) pa_nil))) (blkOk_by (own := [("name", 6)]) (N := ["value", "start", "characters", "between", "stop", "found", "name"]) (sc := defScope s_fault_of_code) (by decide +kernel)) (fun _ _ _ _ _ => (pg_name (i := 6) sc_fault_of_code.nd rfl (by first | exact Or.inl rfl | exact Or.inr rfl))) (fun _ _ _ _ _ => pts_nil) (fun _ _ _ _ _ => (pe_tup (pa_cons pe_str (pa_cons (pv 6) pa_nil)))))
    (pss_cons (ps_if (pt_not (pt_val (pe_fd (F_is_widths (P := P) (w := w) (base := base) T) hg (hr.mono (by decide)) pass0 (pa_cons (pv 1) pa_nil)))) (pss_one (ps_set (i := 5) sc_fault_of_code.nd rfl (by first | exact Or.inl rfl | exact Or.inr rfl) (pe_lst (pa_cons (pe_tup (pa_cons pe_str (pa_cons pe_non pa_nil))) pa_nil)))) pss_nil)
    (pss_cons (ps_if (PW.pt (pw_and (pt_cmpR (op_eqR hr.units) (pv 5) (pe_lst pa_nil) (nomark _)) (pw_and1 (pt_not (pt_val (pe_fd (F_are_widths (P := P) (w := w) (base := base) T) hg (hr.mono (by decide)) pass0 (pa_cons (pv 3) (pa_cons pe_int (pa_cons pe_int pa_nil))))))))) (pss_one (ps_set (i := 5) sc_fault_of_code.nd rfl (by first | exact Or.inl rfl | exact Or.inr rfl) (pe_lst (pa_cons (pe_tup (pa_cons pe_str (pa_cons pe_non pa_nil))) pa_nil)))) pss_nil)
    (pss_cons (ps_if (PW.pt (pw_and (pt_cmpR (op_eqR hr.units) (pv 5) (pe_lst pa_nil) (nomark _)) (pw_and1 (pt_not (pt_val (pe_fd (F_is_widths (P := P) (w := w) (base := base) T) hg (hr.mono (by decide)) pass0 (pa_cons (pv 4) pa_nil))))))) (pss_one (ps_set (i := 5) sc_fault_of_code.nd rfl (by first | exact Or.inl rfl | exact Or.inr rfl) (pe_lst (pa_cons (pe_tup (pa_cons pe_str (pa_cons pe_non pa_nil))) pa_nil)))) pss_nil)
    (pss_one (ps_ret (pv 5))))))))), ?_⟩
  rw [show L2.start ["value", "start", "characters", "between", "stop", "found", "name"] [v0] = [some v0, none, none, none, none, none, none] from rfl]
  dsimp only [xK]
  refine q_guardF (TrB.to (b_or (b_not (b_B (d_isi (d_var rfl r0)))) fun _ => b_T (d_op (d_cb (a_cons (d_var rfl r0) a_nil) rc_lenT) d_int rd_neI)) rfl) hA fun G1 H1 e1 A1 => ?_
  refine q_unpack (d_var rfl (r0.up e1)) rfl A1 ?_
  rintro _ G2 H2 e2 A2 ⟨v1, _, rfl, r1, v2, _, rfl, r2, v3, _, rfl, r3, v4, _, rfl, r4, rfl⟩
  refine ⟨v1, _, rfl, v2, _, rfl, v3, _, rfl, v4, _, rfl, rfl, ?_⟩
  refine q_set (TrD.to (d_lcL (p := fun _ => true) (f := fun x => .tuple [.str "characters", x]) (d_call0 (a_cons (d_var rfl r2) a_nil) ⟨c.cs, rfl, ok.cs, rfl⟩) (by decide) (fun _ h => by cases h) fun _ h => by cases h) (d2 := .list []) rfl) A2 fun v5 G3 H3 e3 A3 r5 => ?_
  refine q_guardF (TrB.to (b_not (b_B (d_call0 (a_cons (d_var rfl (r1.up e3)) a_nil) ⟨_, rfl, rfl⟩))) (by rw [show areWD (.tuple (dInts c.st)) 1 6 = true from areWD_ok ok.st]; rfl)) A3 fun G4 H4 e4 A4 => ?_
  refine q_guardF (TrB.to (b_and (b_T (d_op (d_var rfl (r5.up e4)) (d_lst a_nil) (rd_eqR rfl rfl))) fun _ => b_not (b_B (d_call0 (a_cons (d_var rfl (r3.up (e3.trans e4))) (a_cons d_int (a_cons d_int a_nil))) ⟨_, 0, 2, rfl, by decide, rfl⟩))) (by rw [show areWD (.tuple (dInts c.bt)) 0 2 = true from areWD_ok ok.bt]; rfl)) A4 fun G5 H5 e5 A5 => ?_
  refine q_guardF (TrB.to (b_and (b_T (d_op (d_var rfl (r5.up (e4.trans e5))) (d_lst a_nil) (rd_eqR rfl rfl))) fun _ => b_not (b_B (d_call0 (a_cons (d_var rfl (r4.up ((e3.trans e4).trans e5))) a_nil) ⟨_, rfl, rfl⟩))) (by rw [show areWD (.tuple (dInts c.sp)) 1 6 = true from areWD_ok ok.sp]; rfl)) A5 fun G6 H6 e6 A6 => ?_
  exact s_ret (d_var rfl (r5.up ((e4.trans e5).trans e6))) A6 (q.mono (((((e1.trans e2).trans e3).trans e4).trans e5).trans e6))
def R_rc : List PyData → PyData → Prop := fun ds r => ∃ c : CodeD, ds = [c.d] ∧ c.ok ∧ r = .none
theorem F_require_code (T : Tx K mg) : Fd P w K mg base CX0 6 "require_code" (PSp K R_rc) [] := by
  obtain ⟨fd, F⟩ := T.f_require_code
  refine ⟨_, fd, ["value"], [], T.g_require_code, F.kp, F.bindsN fun _ _ _ _ _ _ us hl => match us, hl with | [_], _ => rfl, .nil, ?_⟩
  refine fnG_of F sc_require_code (fun vs H Q E h => PSp.len (n := 1) (by rintro _ _ ⟨d, rfl, _⟩; rfl) h) (fun cdv A outer s H vs Q E hg hr h => ?_)
  obtain ⟨G, M, ds, r, hA, hR, ⟨c, rfl, ok, rfl⟩, q⟩ := h
  obtain ⟨v0, _, rfl, r0, rfl⟩ := hR
  refine ⟨_, PSs.nox (pss_cons (ps_set (i := 1) sc_require_code.nd rfl (by first | exact Or.inl rfl | exact Or.inr rfl) (pe_fd (F_fault_of_code (P := P) (w := w) (base := base) T) hg (hr.mono (by decide)) pass0 (pa_cons (pv 0) pa_nil)))
    (pss_one (ps_if (pt_cmpR (op_neR hr.units) (pv 1) (pe_lst pa_nil) (nomark _)) (pss_cons (ps_asg (pe_ix ix_list (pv 1) pe_int (fun _ _ => rfl)) (pg_tup (by rfl) (pgs_cons (pg_name (i := 2) sc_require_code.nd rfl (by first | exact Or.inl rfl | exact Or.inr rfl)) (pgs_cons (pg_name (i := 3) sc_require_code.nd rfl (by first | exact Or.inl rfl | exact Or.inr rfl)) pgs_nil)))) (pss_one ps_never)) pss_nil))), ?_⟩
  rw [show L2.start ["value", "faults", "part", "name"] [v0] = [some v0, none, none, none] from rfl]
  dsimp only [xK]
  refine q_set (d_call0 (a_cons (d_var rfl r0) a_nil) ⟨c, rfl, ok, rfl⟩) hA fun v1 G1 H1 e1 A1 r1 => ?_
  refine s_ifF (TrB.to (b_T (d_op (d_var rfl r1) (d_lst a_nil) (rd_neR rfl rfl))) rfl) A1 fun G2 H2 e2 A2 => ?_
  exact (q.mono (e1.trans e2)).here A2 rfl
end
end K81

namespace K81
open PySem PySem.Spec PyProof.Rows L2 Sb
local macro_rules | `(tactic| walk_at "ex") => `(tactic| first | exact Ex.refl _ | assumption | (refine' Ex.trans ?_ (by assumption); walk_at "ex"))
local macro_rules | `(tactic| walk_at "rp") => `(tactic| first | assumption | (refine' Rp.up ?e (by assumption); (case e => walk_at "ex")) | exact rfl)
local macro_rules | `(tactic| walk_at "rd") => `(tactic| with_reducible first | exact rd_add | exact rd_sub | exact rd_lt | exact rd_le | exact rd_gt | exact rd_ge | exact rd_eqI | exact rd_neI | exact rd_eqS | exact rd_neS | exact rd_isN | exact rd_ltS | exact rd_inSign | exact rd_eqE)
local macro_rules | `(tactic| walk_at "tr") => `(tactic| first
  | with_reducible exact d_int
  | with_reducible exact d_str
  | with_reducible exact d_bl
  | with_reducible exact d_non
  | with_reducible exact a_nil
  | with_reducible exact b_yes
  | with_reducible exact o_none
  | with_reducible exact d_newD
  | ((with_reducible refine' d_var ?i ?r); (case i => rfl); (case r => walk_at "rp"))
  | ((with_reducible refine' a_cons ?a ?b); (case a => walk_at "tr"); (case b => walk_at "tr"))
  | ((with_reducible refine' a_star ?a ?b); (case a => walk_at "tr"); (case b => walk_at "tr"))
  | ((with_reducible refine' d_isi ?a ?b); (case a => walk_at "tr"); (case b => decide))
  | ((with_reducible refine' d_op ?a ?b ?c); (case a => walk_at "tr"); (case b => walk_at "tr"); (case c => walk_at "rd"))
  | ((with_reducible refine' d_tup ?a ?b); (case a => walk_at "tr"); (case b => first | decide | (simp; done)))
  | ((with_reducible refine' d_lst ?a ?b); (case a => walk_at "tr"); (case b => first | decide | (simp; done)))
  | ((with_reducible refine' o_some ?a); (case a => walk_at "tr"))
  | ((with_reducible refine' b_B ?a); (case a => walk_at "tr"))
  | ((with_reducible refine' b_T ?a); (case a => walk_at "tr"))
  | ((with_reducible refine' b_not ?a); (case a => walk_at "tr"))
  | ((with_reducible refine' v_not ?a); (case a => walk_at "tr"))
  | ((with_reducible refine' b_or ?a ?b); (case a => walk_at "tr"); (case b => intro _; walk_at "tr"))
  | ((with_reducible refine' b_and ?a ?b); (case a => walk_at "tr"); (case b => intro _; walk_at "tr"))
  | ((with_reducible refine' v_or ?a ?b); (case a => walk_at "tr"); (case b => intro _; walk_at "tr"))
  | ((with_reducible refine' v_and ?a ?b); (case a => walk_at "tr"); (case b => intro _; walk_at "tr"))
  | assumption)


/-! ### lines -/
def strI (n : Int) : Str := Str.ofString (toString n)
def lineT (w : Str) (ws : List Int) : Str := Txt.join " " (w :: ws.map strI)
theorem four {n : Int} (h : 1 ≤ n ∧ n ≤ 4) : n = 1 ∨ n = 2 ∨ n = 3 ∨ n = 4 := by omega
theorem strI_len {n : Int} (h : 1 ≤ n ∧ n ≤ 4) : (strI n).length = 1 := by rcases four h with rfl | rfl | rfl | rfl <;> decide
theorem log_ok {n : Int} (h : 1 ≤ n ∧ n ≤ 4) : n.natAbs.log2 < 1920 := by rcases four h with rfl | rfl | rfl | rfl <;> decide
theorem int_back {n : Int} (h : 1 ≤ n ∧ n ≤ 4) : PySem.intText? (strI n) = some n := by rcases four h with rfl | rfl | rfl | rfl <;> decide +kernel
theorem sum_len {ss : List Str} {c : Nat} (h : ∀ s ∈ ss, s.length ≤ c) : (ss.map (·.length)).sum ≤ ss.length * c := by
  induction ss with
  | nil => simp
  | cons s ss ih =>
    rw [List.map_cons, List.sum_cons, List.length_cons, Nat.add_mul, Nat.one_mul]
    have h1 := h s (List.mem_cons_self ..)
    have h2 := ih fun x hx => h x (List.mem_cons_of_mem _ hx)
    omega
theorem lineT_sum {w : Str} {ws : List Int} {hi : Nat} (hw : w.length ≤ 100) (h : okW 0 hi ws) : ((w :: ws.map strI).map (·.length)).sum + (w :: ws.map strI).length * (" " : Str).length ≤ 101 + 2 * hi := by
  have h1 : ((ws.map strI).map (·.length)).sum ≤ (ws.map strI).length * 1 := sum_len fun s hs => by
    obtain ⟨n, hn, rfl⟩ := List.mem_map.mp hs
    rw [strI_len (h.2.2 n hn)]
    exact Nat.le_refl _
  have h2 : (" " : Str).length = 1 := rfl
  rw [List.map_cons, List.sum_cons, List.length_cons, h2, List.length_map] at *
  have := h.2.1
  omega
theorem lineT_len {w : Str} {ws : List Int} {hi : Nat} (hw : w.length ≤ 100) (h : okW 0 hi ws) : (lineT w ws).length ≤ 101 + 2 * hi := by
  unfold lineT
  rw [TL.join_eq]
  exact Nat.le_trans (StrLaws.join_length_le _ _) (lineT_sum hw h)
def strD (d : PyData) : PyData := match d with
  | .int n => .str (strI n)
  | _ => .none
theorem mem_ints {ns : List Int} {d : PyData} (h : d ∈ dInts ns) : ∃ n ∈ ns, d = .int n := by
  obtain ⟨n, hn, e⟩ := List.mem_map.mp h
  exact ⟨n, hn, e.symm⟩
theorem mem_strs {ns : List Str} {d : PyData} (h : d ∈ dStrs ns) : ∃ n ∈ ns, d = .str n := by
  obtain ⟨n, hn, e⟩ := List.mem_map.mp h
  exact ⟨n, hn, e.symm⟩
section
variable {P : Program} {w : World} {K : PySem.W.Frag} {mg : Str → Option Value} {base : Heap}
def R_line_of : List PyData → PyData → Prop := fun ds r => ∃ w ws, ds = [.str w, .tuple (dInts ws)] ∧ w.length ≤ 100 ∧ okW 0 6 ws ∧ r = .str (lineT w ws)
def wsOf (cs : List (Str × List Int)) (x : Str) : List Int := ((cs.find? fun p => decide (p.1 = x)).map (·.2)).getD []
theorem wsOf_mem : ∀ {cs : List (Str × List Int)} {p : Str × List Int}, (cs.map (·.1)).Nodup → p ∈ cs → wsOf cs p.1 = p.2
  | [], _, _, h => by cases h
  | (k', d') :: r, p, nd, h => by
    unfold wsOf
    rw [List.find?_cons]
    have nd' := List.nodup_cons.mp nd
    rcases List.mem_cons.mp h with e | h
    · cases e
      simp
    · have hne : k' ≠ p.1 := fun e => nd'.1 (by rw [e]; exact List.mem_map.mpr ⟨_, h, rfl⟩)
      simp only [decide_eq_false hne]
      exact wsOf_mem nd'.2 h
theorem wsOf_of {c : CodeD} (ok : c.ok) {x : Str} (hx : x ∈ c.cs.map (·.1)) : isNameS x = true ∧ okW 1 6 (wsOf c.cs x) ∧ lookD (chD c.cs) x = some (.tuple (dInts (wsOf c.cs x))) := by
  obtain ⟨p, hp, rfl⟩ := List.mem_map.mp hx
  rw [wsOf_mem ok.cs.nd hp]
  exact ⟨(ok.cs.nm p hp).1, (ok.cs.nm p hp).2, chD_look ok.cs.nd hp⟩
def nmsT (c : CodeD) : List Str := srt (c.cs.map (·.1))
def linesT (c : CodeD) : List Str := lineT "start" c.st :: ((nmsT c).map (fun x => lineT x (wsOf c.cs x)) ++ ((if c.bt = [] then [] else [lineT "between" c.bt]) ++ [lineT "stop" c.sp]))
def codeT (c : CodeD) : Str := Txt.join "\n" (linesT c)
theorem nmsT_mem {c : CodeD} {x : Str} (h : x ∈ nmsT c) : x ∈ c.cs.map (·.1) := (srt_perm _).mem_iff.mp h
theorem nmsT_len (c : CodeD) : (nmsT c).length = c.cs.length := by unfold nmsT; rw [(srt_perm _).length_eq, List.length_map]
theorem okW.le {lo lo' hi hi' : Nat} {ws : List Int} (h : okW lo hi ws) (h1 : lo' ≤ lo) (h2 : hi ≤ hi') : okW lo' hi' ws := ⟨Nat.le_trans h1 h.1, Nat.le_trans h.2.1 h2, h.2.2⟩
theorem linesT_each {c : CodeD} (ok : c.ok) : ∀ l ∈ linesT c, l.length ≤ 113 := by
  intro l hl
  rcases List.mem_cons.mp hl with rfl | hl
  · exact lineT_len (by decide) (ok.st.le (by decide) (Nat.le_refl 6))
  · rcases List.mem_append.mp hl with hl | hl
    · obtain ⟨x, hx, rfl⟩ := List.mem_map.mp hl
      have z := wsOf_of ok (nmsT_mem hx)
      exact lineT_len (by rw [name_len z.1]; decide) (z.2.1.le (by decide) (Nat.le_refl 6))
    · rcases List.mem_append.mp hl with hl | hl
      · split at hl
        · cases hl
        · rw [List.mem_singleton.mp hl]
          exact lineT_len (by decide) (ok.bt.le (by decide) (by decide : 2 ≤ 6))
      · rw [List.mem_singleton.mp hl]
        exact lineT_len (by decide) (ok.sp.le (by decide) (Nat.le_refl 6))
theorem linesT_len {c : CodeD} (ok : c.ok) : (linesT c).length ≤ 13 := by
  have h1 := ok.cs.l2
  have h2 := nmsT_len c
  unfold linesT
  rw [List.length_cons, List.length_append, List.length_append, List.length_map, List.length_singleton]
  split <;> simp only [List.length_nil, List.length_singleton] <;> omega
theorem codeT_sum {c : CodeD} (ok : c.ok) : ((linesT c).map (·.length)).sum + (linesT c).length * ("\n" : Str).length ≤ 3000 := by
  have h1 := sum_len (linesT_each ok)
  have h2 := linesT_len ok
  have h3 : ("\n" : Str).length = 1 := rfl
  rw [h3]
  have h4 : (linesT c).length * 113 ≤ 13 * 113 := Nat.mul_le_mul_right _ h2
  omega
theorem codeT_len {c : CodeD} (ok : c.ok) : (codeT c).length ≤ 3000 := by
  unfold codeT
  rw [TL.join_eq]
  exact Nat.le_trans (StrLaws.join_length_le _ _) (codeT_sum ok)
def lineD (c : CodeD) (d : PyData) : PyData := match d with
  | .str x => .str (lineT x (wsOf c.cs x))
  | _ => .none
def R_format_code : List PyData → PyData → Prop := fun ds r => ∃ c : CodeD, ds = [c.d] ∧ c.ok ∧ r = .str (codeT c)
end
end K81

namespace K81
open PySem PySem.Spec PyProof.Rows L2 Sb
local macro_rules | `(tactic| walk_at "ex") => `(tactic| first | exact Ex.refl _ | assumption | (refine' Ex.trans ?_ (by assumption); walk_at "ex"))
local macro_rules | `(tactic| walk_at "rp") => `(tactic| first | assumption | (refine' Rp.up ?e (by assumption); (case e => walk_at "ex")) | exact rfl)
local macro_rules | `(tactic| walk_at "rd") => `(tactic| with_reducible first | exact rd_add | exact rd_sub | exact rd_lt | exact rd_le | exact rd_gt | exact rd_ge | exact rd_eqI | exact rd_neI | exact rd_eqS | exact rd_neS | exact rd_isN | exact rd_ltS | exact rd_inSign | exact rd_eqE)
local macro_rules | `(tactic| walk_at "tr") => `(tactic| first
  | with_reducible exact d_int
  | with_reducible exact d_str
  | with_reducible exact d_bl
  | with_reducible exact d_non
  | with_reducible exact a_nil
  | with_reducible exact b_yes
  | with_reducible exact o_none
  | with_reducible exact d_newD
  | ((with_reducible refine' d_var ?i ?r); (case i => rfl); (case r => walk_at "rp"))
  | ((with_reducible refine' a_cons ?a ?b); (case a => walk_at "tr"); (case b => walk_at "tr"))
  | ((with_reducible refine' a_star ?a ?b); (case a => walk_at "tr"); (case b => walk_at "tr"))
  | ((with_reducible refine' d_isi ?a ?b); (case a => walk_at "tr"); (case b => decide))
  | ((with_reducible refine' d_op ?a ?b ?c); (case a => walk_at "tr"); (case b => walk_at "tr"); (case c => walk_at "rd"))
  | ((with_reducible refine' d_tup ?a ?b); (case a => walk_at "tr"); (case b => first | decide | (simp; done)))
  | ((with_reducible refine' d_lst ?a ?b); (case a => walk_at "tr"); (case b => first | decide | (simp; done)))
  | ((with_reducible refine' o_some ?a); (case a => walk_at "tr"))
  | ((with_reducible refine' b_B ?a); (case a => walk_at "tr"))
  | ((with_reducible refine' b_T ?a); (case a => walk_at "tr"))
  | ((with_reducible refine' b_not ?a); (case a => walk_at "tr"))
  | ((with_reducible refine' v_not ?a); (case a => walk_at "tr"))
  | ((with_reducible refine' b_or ?a ?b); (case a => walk_at "tr"); (case b => intro _; walk_at "tr"))
  | ((with_reducible refine' b_and ?a ?b); (case a => walk_at "tr"); (case b => intro _; walk_at "tr"))
  | ((with_reducible refine' v_or ?a ?b); (case a => walk_at "tr"); (case b => intro _; walk_at "tr"))
  | ((with_reducible refine' v_and ?a ?b); (case a => walk_at "tr"); (case b => intro _; walk_at "tr"))
  | assumption)


theorem cut_one (ds : List PyData) : Sb.cutD ds (some 1) none = ds.drop 1 := by
  unfold Sb.cutD HT.sIx
  cases ds with
  | nil => rfl
  | cons d ds =>
    have h : (max 0 (min (1 : Int) ((d :: ds).length : Int))).toNat = 1 := by rw [List.length_cons]; omega
    have h2 : (max 0 (min (((d :: ds).length : Nat) : Int) ((d :: ds).length : Int))).toNat = (d :: ds).length := by omega
    simp
theorem in_four {n : Int} (h : 1 ≤ n ∧ n ≤ 4) : inD (.str (strI n)) [.str "1", .str "2", .str "3", .str "4"] = true := by rcases four h with rfl | rfl | rfl | rfl <;> decide +kernel
def intD (d : PyData) : PyData := match d with
  | .str x => .int ((PySem.intText? x).getD 0)
  | _ => .none
def mayS (x : Str) (ks : List Str) : Bool :=
  let names := ks.filter isNameS
  if ("stop" : Str) ∈ ks then false
  else if x = "start" ∨ ks = [] then decide (x = "start") && ks.isEmpty
  else if x = "stop" then !names.isEmpty
  else if x = "between" then !names.isEmpty && !decide (("between" : Str) ∈ ks)
  else if isNameS x = false ∨ ("between" : Str) ∈ ks ∨ names.length = 10 then false
  else names.all fun z => decide (z.cps.toList < x.cps.toList)
theorem look_some {kvs : List (Str × PyData)} {x : Str} : (lookD kvs x).isSome = decide (x ∈ kvs.map (·.1)) := by
  induction kvs with
  | nil => rfl
  | cons p r ih =>
    unfold lookD at ih ⊢
    rw [List.find?_cons, List.map_cons]
    by_cases h : p.1 = x
    · rw [decide_eq_true h]
      simp [h]
    · simp only [decide_eq_false h]
      rw [ih]
      have h' : ¬ x = p.1 := fun z => h z.symm
      simp [h']
theorem shaped_strs {ss : List Str} (h : ∀ x ∈ ss, x.cps.all (· < 1114112) = true) : SeqAt.shaped (.list (dStrs ss)) = true := by
  have h1 : PyData.canLayAll0 (dStrs ss) = true := by
    induction ss with
    | nil => rfl
    | cons n ns ih =>
      show PyData.canLayAll0 (.str n :: dStrs ns) = true
      have hn := h n (List.mem_cons_self ..)
      simp only [PyData.canLayAll0, PyData.canLay0, ih fun x hx => h x (List.mem_cons_of_mem _ hx), Bool.and_true]
      exact hn
  have h2 : ∀ ns : List Str, PyData.depthAll (dStrs ns) = 0 := fun ns => by
    induction ns with
    | nil => simp [dStrs, PyData.depthAll]
    | cons n ns ih =>
      show PyData.depthAll (.str n :: dStrs ns) = 0
      simp only [PyData.depthAll, PyData.depth, Nat.zero_max]
      exact ih
  unfold SeqAt.shaped
  simp [PyData.canLay0, PyData.depth, h1, h2]
theorem name_cps {x : Str} (h : isNameS x = true) : x.cps.all (· < 1114112) = true := by
  unfold isNameS at h
  split at h
  · rename_i c hc
    have hm := of_decide_eq_true h
    have hlt : c < 1114112 := by
      have hall : ∀ c ∈ NAMESs.cps.toList, c < 1114112 := by decide +kernel
      exact hall c hm
    rw [← Array.all_toList, hc]
    simp [hlt]
  · cases h
section
variable {P : Program} {w : World} {K : PySem.W.Frag} {mg : Str → Option Value} {base : Heap}
def R_read_widths : List PyData → PyData → Prop := fun ds r => ∃ (ln : Int) (w0 : Str) (ws : List Int) (most : Nat), ds = [.int ln, .list (dStrs (w0 :: ws.map strI)), .int most] ∧ okW 1 most ws ∧ most ≤ 6 ∧ r = .tuple (dInts ws)
def R_may_stand : List PyData → PyData → Prop := fun ds r => ∃ x kvs, ds = [.str x, .dict (keysD kvs)] ∧ kvs.length < 64 ∧ x.length ≤ 100000 ∧ (∀ k ∈ kvs.map (·.1), k.length ≤ 100000) ∧ r = .bool (mayS x (kvs.map (·.1)))
end
end K81

namespace K81
open PySem PySem.Spec PyProof.Rows L2 Sb
local macro_rules | `(tactic| walk_at "ex") => `(tactic| first | exact Ex.refl _ | assumption | (refine' Ex.trans ?_ (by assumption); walk_at "ex"))
local macro_rules | `(tactic| walk_at "rp") => `(tactic| first | assumption | (refine' Rp.up ?e (by assumption); (case e => walk_at "ex")) | exact rfl)
local macro_rules | `(tactic| walk_at "rd") => `(tactic| with_reducible first | exact rd_add | exact rd_sub | exact rd_lt | exact rd_le | exact rd_gt | exact rd_ge | exact rd_eqI | exact rd_neI | exact rd_eqS | exact rd_neS | exact rd_isN | exact rd_ltS | exact rd_inSign | exact rd_eqE)
local macro_rules | `(tactic| walk_at "tr") => `(tactic| first
  | with_reducible exact d_int
  | with_reducible exact d_str
  | with_reducible exact d_bl
  | with_reducible exact d_non
  | with_reducible exact a_nil
  | with_reducible exact b_yes
  | with_reducible exact o_none
  | with_reducible exact d_newD
  | ((with_reducible refine' d_var ?i ?r); (case i => rfl); (case r => walk_at "rp"))
  | ((with_reducible refine' a_cons ?a ?b); (case a => walk_at "tr"); (case b => walk_at "tr"))
  | ((with_reducible refine' a_star ?a ?b); (case a => walk_at "tr"); (case b => walk_at "tr"))
  | ((with_reducible refine' d_isi ?a ?b); (case a => walk_at "tr"); (case b => decide))
  | ((with_reducible refine' d_op ?a ?b ?c); (case a => walk_at "tr"); (case b => walk_at "tr"); (case c => walk_at "rd"))
  | ((with_reducible refine' d_tup ?a ?b); (case a => walk_at "tr"); (case b => first | decide | (simp; done)))
  | ((with_reducible refine' d_lst ?a ?b); (case a => walk_at "tr"); (case b => first | decide | (simp; done)))
  | ((with_reducible refine' o_some ?a); (case a => walk_at "tr"))
  | ((with_reducible refine' b_B ?a); (case a => walk_at "tr"))
  | ((with_reducible refine' b_T ?a); (case a => walk_at "tr"))
  | ((with_reducible refine' b_not ?a); (case a => walk_at "tr"))
  | ((with_reducible refine' v_not ?a); (case a => walk_at "tr"))
  | ((with_reducible refine' b_or ?a ?b); (case a => walk_at "tr"); (case b => intro _; walk_at "tr"))
  | ((with_reducible refine' b_and ?a ?b); (case a => walk_at "tr"); (case b => intro _; walk_at "tr"))
  | ((with_reducible refine' v_or ?a ?b); (case a => walk_at "tr"); (case b => intro _; walk_at "tr"))
  | ((with_reducible refine' v_and ?a ?b); (case a => walk_at "tr"); (case b => intro _; walk_at "tr"))
  | assumption)


def RI (lo hi : Int) : PyData → Prop := fun d => ∃ i : Int, d = .int i ∧ lo ≤ i ∧ i ≤ hi
theorem mod_RI {x s : Int} (h : 0 < s) : RI 0 (s - 1) (.int (x % s)) := ⟨_, rfl, Int.emod_nonneg _ (by omega), by have := Int.emod_lt_of_pos x h; omega⟩
theorem bits_ok {i : Int} (h : i.natAbs < 2 ^ 200) {j : Int} (h0 : 0 ≤ j) (h1 : j ≤ 5) : CPowW i j := by
  have z : Builtin.Int.intBits i ≤ 200 := PySem.intBits_le_iff.mpr h
  refine ⟨h0, ?_⟩
  have z2 : (Builtin.Int.intBits i : Int) ≤ 200 := by omega
  have z3 : (Builtin.Int.intBits i : Int) * j ≤ 200 * j := Int.mul_le_mul_of_nonneg_right z2 h0
  have z4 : (2 : Int) ^ 27 = 134217728 := rfl
  rw [z4]
  omega
theorem log_lt {x : Nat} {k : Nat} (h : x < 2 ^ k) (hk : 0 < k) : x.log2 < k := by
  by_cases hx : x = 0
  · subst hx
    simpa using hk
  · exact (Nat.log2_lt hx).mpr h
theorem mul_ok {i j : Int} (h1 : i.natAbs < 2 ^ 200) (h2 : j.natAbs < 2 ^ 200) : CMulW i j := by
  have z1 := log_lt h1 (by decide)
  have z2 := log_lt h2 (by decide)
  show i.natAbs.log2 + j.natAbs.log2 < 1000000
  omega
section
variable {P : Program} {w : World} {K : PySem.W.Frag} {mg : Str → Option Value} {base : Heap}
def R_spin : List PyData → Nat → (PyData → Prop) → Prop := fun ds k Φ => ∃ size : Int, ds = [.int size] ∧ 0 < size ∧ size ≤ 1000000000000000000000000000000000 ∧ k = 1 ∧ Φ = RI 0 (size - 1)
theorem F__law_spin (T : Tx K mg) : Fd P w K mg base CX0 1 "_law_spin" (ESp K R_spin) [] := by
  obtain ⟨fd, F⟩ := T.f__law_spin
  refine ⟨_, fd, ["reel", "size"], [], T.g__law_spin, F.kp, F.bindsN fun _ _ _ _ _ _ us hl => match us, hl with | [_, _], _ => rfl, .nil, ?_⟩
  refine fnG_of F sc__law_spin (fun vs H Q E h => ESp.len (n := 1) (by rintro _ _ _ ⟨d, rfl, _⟩; rfl) h) (fun cdv A outer s H vs Q E hg hr h => ?_)
  obtain ⟨r, ws, G, M, n, k, ds, Φ, rfl, hA, hRL, hws, ⟨size, rfl, h0, h1, rfl, rfl⟩, hn, q⟩ := h
  obtain ⟨v1, _, rfl, r1, rfl⟩ := hws
  obtain ⟨a, b, c, hM, hb0, hb1, hc⟩ := hRL
  refine ⟨_, PSs.nox (pss_cons (ps_if (pt_cmpR op_gt (pe_ix ix_list (pv 0) pe_int (fun _ _ => rfl)) pe_int (nomark _)) (pss_cons (ps_set (i := 2) sc__law_spin.nd rfl (by first | exact Or.inl rfl | exact Or.inr rfl) (pe_op op_mod (pe_callTy call_int1' (by rfl) T.n_int (by decide +kernel) (pa_cons (pe_ix ix_list (pv 0) pe_int (fun _ _ => rfl)) pa_nil)) (pv 1))) (pss_cons (ps_asg (pe_op op_fdivW (pe_ix ix_list (pv 0) pe_int (fun _ _ => rfl)) (pv 1)) (pg_sub (pv 0) pe_int set_list)) (pss_one (ps_ret (pv 2))))) pss_nil)
    (pss_cons (ps_asg (pe_op op_add (pe_ix ix_list (pv 0) pe_int (fun _ _ => rfl)) pe_int) (pg_sub (pv 0) pe_int set_list))
    (pss_cons (ps_set (i := 3) sc__law_spin.nd rfl (by first | exact Or.inl rfl | exact Or.inr rfl) (pe_op op_mod (pe_callTy call_int1' (by rfl) T.n_int (by decide +kernel) (pa_cons (pe_op op_powW (pe_op op_add (pe_ix ix_list (pv 0) pe_int (fun _ _ => rfl)) (pe_op op_mulW pe_int (pe_ix ix_list (pv 0) pe_int (fun _ _ => rfl)))) pe_int) pa_nil)) (pe_op op_add (pe_op op_pow pe_int pe_int) pe_int)))
    (pss_cons (ps_set (i := 3) sc__law_spin.nd rfl (by first | exact Or.inl rfl | exact Or.inr rfl) (pe_op op_mod (pe_callTy call_int1' (by rfl) T.n_int (by decide +kernel) (pa_cons (pe_op op_powW (pe_op op_add (pv 3) (pe_op op_mulW pe_int (pe_ix ix_list (pv 0) pe_int (fun _ _ => rfl)))) pe_int) pa_nil)) (pe_op op_add (pe_op op_pow pe_int pe_int) pe_int)))
    (pss_one (ps_ret (pe_op op_mod (pe_callTy call_int1' (by rfl) T.n_int (by decide +kernel) (pa_cons (pe_op op_fdivW (pv 3) pe_int) pa_nil)) (pv 1)))))))), ?_⟩
  rw [show L2.start ["reel", "size", "digit", "wide"] [(.ref r), v1] = [some (.ref r), some v1, none, none] from rfl]
  dsimp only [xK]
  have hG : G r = none := hA.d _ _ hM
  have hN : cutG M r r = none := cut_none
  rw [← cut_eq hM] at hA
  have rl : ∀ (Gx : Hp) (a b : Int) (c : Int), Rp K (upd Gx r (.lst [.int a, .int b, .int c])) (.list [.int a, .int b, .int c]) (.ref r) := fun Gx a b c => ⟨r, _, rfl, upd_same, (rpL_ints [a, b, c]).mpr rfl⟩
  have nG : ∀ {Gx Hx : Hp} {o : HO}, At Gx (upd (cutG M r) r o) Hx → Gx r = none := fun A => A.d _ _ upd_same
  have eU : ∀ {Gx : Hp} {o : HO}, Gx r = none → Ex Gx (upd Gx r o) := fun h => Ex.new h
  have hsz : size.natAbs.log2 < 9000 := by
    have e : size.natAbs < 2 ^ 200 := Nat.lt_of_le_of_lt (show size.natAbs ≤ 1000000000000000000000000000000000 by omega) (by decide)
    exact Nat.lt_trans (log_lt e (by decide)) (by decide)
  refine s_seq (s_iffz (b_T (d_op (d_op (d_var rfl (rl _ _ _ _)) d_int (rd_ixL rfl)) d_int rd_gt)) hG hN hA (fun hb G1 H1 e1 A1 => ?_) (fun hb G1 H1 e1 A1 => ?_))
  · refine q_setfz (d_op (d_cb (a_cons (d_op (d_var rfl (rl _ _ _ _)) d_int (rd_ixL rfl)) a_nil) rc_int1) (d_var rfl (r1.up (e1.trans (eU (nG A1))))) (rd_mod h0)) rfl (nG A1) hN A1 fun v2 G2 H2 e2 A2 r2 => ?_
    refine q_setIxfz (j := 0) (d_op (d_op (d_var rfl (rl _ _ _ _)) d_int (rd_ixL rfl)) (d_var rfl (r1.up ((e1.trans e2).trans (eU (nG A2))))) (rd_fdiv ⟨h0, hsz⟩)) rfl (nG A2) hN A2 rfl rfl fun v3 G3 H3 e3 A3 r3 => ?_
    refine ⟨v2, rfl, ?_⟩
    rw [show v3 = V.int _ from r3] at A3
    refine q _ v2 G3 _ H3 ((e1.trans e2).trans e3) A3 (fun x hx => by rw [upd_ne hx]; exact if_neg hx) ⟨_, b, c, upd_same, hb0, hb1, by omega⟩ (mod_RI h0) (r2.up e3)
  · refine s_next ?_
    have hc6 : c < 1000000 := by omega
    refine q_setIxfz (j := 2) (d_op (d_op (d_var rfl (rl _ _ _ _)) d_int (rd_ixL rfl)) d_int rd_add) rfl (nG A1) hN A1 rfl rfl fun v3 G2 H2 e2 A2 r3 => ?_
    rw [show v3 = V.int _ from r3] at A2
    have A2' : At G2 (upd (cutG M r) r (.lst [.int a, .int b, .int ((c : Int) + 1)])) H2 := A2
    have t43 : (10 : Int) ^ 43 = 10000000000000000000000000000000000000000000 := rfl
    have t44 : (10 : Int) ^ 44 = 100000000000000000000000000000000000000000000 := rfl
    have t41 : (10 : Int) ^ 41 = 100000000000000000000000000000000000000000 := rfl
    have t200 : (2 : Nat) ^ 200 = 1606938044258990275541962092341162602522202993782792835301376 := rfl
    have p44 : (0 : Int) < 10 ^ (44 : Int).toNat + 31 := by decide
    have p41 : (0 : Int) < 10 ^ (41 : Int).toNat + 39 := by decide
    refine q_setfz (d_op (d_cb (a_cons (d_op (d_op (d_op (d_var rfl (rl _ _ _ _)) d_int (rd_ixL rfl)) (d_op d_int (d_op (d_var rfl (rl _ _ _ _)) d_int (rd_ixL rfl)) (rd_mul (mul_ok (by decide) (by rw [t200]; omega)))) rd_add) d_int (rd_powW (bits_ok (by rw [t200]; omega) (by decide) (by decide)))) a_nil) rc_int1)
      (d_op (d_op d_int d_int (rd_pow ⟨by decide, by decide, by decide⟩)) d_int rd_add) (rd_mod p44)) rfl (nG A2') hN A2' fun v4 G3 H3 e3 A3 r4 => ?_
    generalize hz : (b + 67867979 * ((c : Int) + 1)) ^ (3 : Int).toNat = z at r4
    have z0 := Int.emod_nonneg z (Int.ne_of_gt p44)
    have z1 := Int.emod_lt_of_pos z p44
    have e44 : (10 : Int) ^ (44 : Int).toNat = 10 ^ 44 := rfl
    rw [e44, t44] at z0 z1
    refine q_setfz (d_op (d_cb (a_cons (d_op (d_op (d_var rfl (r4.up (eU (nG A3)))) (d_op d_int (d_op (d_var rfl (rl _ _ _ _)) d_int (rd_ixL rfl)) (rd_mul (mul_ok (by decide) (by rw [t200]; omega)))) rd_add) d_int (rd_powW (bits_ok (by rw [t200, e44, t44]; omega) (by decide) (by decide)))) a_nil) rc_int1)
      (d_op (d_op d_int d_int (rd_pow ⟨by decide, by decide, by decide⟩)) d_int rd_add) (rd_mod p41)) rfl (nG A3) hN A3 fun v5 G4 H4 e4 A4 r5 => ?_
    refine w_D (d_op (d_cb (a_cons (d_op (d_var rfl r5) d_int (rd_fdiv ⟨by decide, by decide⟩)) a_nil) rc_int1) (d_var rfl (r1.up (((e1.trans e2).trans e3).trans e4))) (rd_mod h0)) A4 fun v6 G5 H5 e5 A5 r6 => ?_
    refine q _ v6 G5 _ H5 ((((e1.trans e2).trans e3).trans e4).trans e5) A5 (fun x hx => by rw [upd_ne hx]; exact if_neg hx) ⟨a, b, c + 1, upd_same, hb0, hb1, by omega⟩ (mod_RI h0) r6
theorem spin_call {r : Addr} {M0 : Hp} {σ : L2.St} {G : Hp} {n m : Nat} {i : Nat} {te : TE} {E : XK} {Φ : PyData → Prop} (hi : σ[i]? = some (some (.ref r))) (h : TrE K r M0 te σ G n m fun d => ∃ z : Int, d = .int z ∧ 0 < z ∧ z ≤ 1000000000000000000000000000000000 ∧ ∀ d, RI 0 (z - 1) d → Φ d) (hm : m + 1 ≤ 1000000) : TrE K r M0 (tCall (ESp K R_spin) [] E (tCons (tVar i) (tCons te tNil))) σ G n (m + 1) Φ := fun G1 M H e A S Rr Q q => by
  refine ⟨.ref r, hi, ?_⟩
  refine h G1 M H e A S Rr _ fun d v G2 M2 H2 e2 A2 S2 R2 hd rv => ?_
  obtain ⟨z, rfl, h0, h1, hz⟩ := hd
  refine ⟨r, [v], G2, M2, m, 1, [.int z], RI 0 (z - 1), rfl, A2, R2, ⟨v, [], rfl, rv, rfl⟩, ⟨z, rfl, h0, h1, rfl, rfl⟩, hm, fun d v G' M' H' e' A' S' R' hd' rv' => ?_⟩
  exact q d v G' M' H' (e2.trans e') A' (S2.trans S') R' (hz d hd') rv'
theorem spin_c {r : Addr} {M0 : Hp} {σ : L2.St} {G : Hp} {n : Nat} {i : Nat} {z : Int} {E : XK} (hi : σ[i]? = some (some (.ref r))) (h0 : 0 < z) (h1 : z ≤ 1000000000000000000000000000000000) (hm : n + 1 ≤ 1000000) : TrE K r M0 (tCall (ESp K R_spin) [] E (tCons (tVar i) (tCons (tC (.int z)) tNil))) σ G n (n + 1) (RI 0 (z - 1)) :=
  spin_call hi (e_D d_int ⟨z, rfl, h0, h1, fun _ h => h⟩) hm
def IsW (lo hi : Nat) : PyData → Prop := fun d => ∃ ws, d = .tuple (dInts ws) ∧ okW lo hi ws
def R_widths : List PyData → Nat → (PyData → Prop) → Prop := fun ds k Φ => ∃ lo hi : Nat, ds = [.int lo, .int hi] ∧ lo ≤ hi ∧ hi ≤ 100 ∧ k = hi + 1 ∧ Φ = IsW lo hi
theorem ints_of : ∀ {ds : List PyData} {lo hi : Int}, (∀ d ∈ ds, RI lo hi d) → ∃ ns : List Int, ds = dInts ns ∧ ∀ n ∈ ns, lo ≤ n ∧ n ≤ hi
  | [], _, _, _ => ⟨[], rfl, fun _ h => by cases h⟩
  | d :: ds, lo, hi, h => by
    obtain ⟨ns, e, hn⟩ := ints_of fun x hx => h x (List.mem_cons_of_mem _ hx)
    obtain ⟨i, rfl, h1, h2⟩ := h d (List.mem_cons_self ..)
    refine ⟨i :: ns, by rw [e]; rfl, fun n hn' => ?_⟩
    rcases List.mem_cons.mp hn' with rfl | hn'
    · exact ⟨h1, h2⟩
    · exact hn n hn'
theorem F__law_widths (T : Tx K mg) : Fd P w K mg base CX0 2 "_law_widths" (ESp K R_widths) [] := by
  obtain ⟨fd, F⟩ := T.f__law_widths
  refine ⟨_, fd, ["reel", "least", "most"], [], T.g__law_widths, F.kp, F.bindsN fun _ _ _ _ _ _ us hl => match us, hl with | [_, _, _], _ => rfl, .nil, ?_⟩
  refine fnG_of F sc__law_widths (fun vs H Q E h => ESp.len (n := 2) (by rintro _ _ _ ⟨d, e, rfl, _⟩; rfl) h) (fun cdv A outer s H vs Q E hg hr h => ?_)
  obtain ⟨r, ws, G, M, n, k, ds, Φ, rfl, hA, hRL, hws, ⟨lo, hi, rfl, h0, h1, rfl, rfl⟩, hn, q⟩ := h
  obtain ⟨v1, _, rfl, r1, v2, _, rfl, r2, rfl⟩ := hws
  refine ⟨_, PSs.nox (pss_one (ps_ret (pe_callTy call_tupOf (by rfl) T.n_tuple (by decide +kernel) (pa_cons (pe_lc (own := [("turn", 3)]) (g := gName 3) (by rfl) sc__law_widths.nd (pi_range1 (by rfl) T.n_range (pa_cons (pe_op op_add (pv 1) (pe_fd (F__law_spin (P := P) (w := w) (base := base) T) hg (hr.mono (by decide)) pass0 (pa_cons (pv 0) (pa_cons (pe_op op_add (pe_op op_sub (pv 2) (pv 1)) pe_int) pa_nil)))) pa_nil)) (blkOk_by (own := [("turn", 3)]) (N := ["reel", "least", "most", "turn"]) (sc := defScope s__law_widths) (by decide +kernel)) (fun _ _ _ _ _ => (pg_name (i := 3) sc__law_widths.nd rfl (by first | exact Or.inl rfl | exact Or.inr rfl))) (fun _ _ _ _ _ => pts_nil) (fun _ _ _ _ _ => (pe_op op_add pe_int (pe_fd (F__law_spin (P := P) (w := w) (base := base) T) hg (hr.mono (by decide)) pass0 (pa_cons (pv 0) (pa_cons pe_int pa_nil)))))) pa_nil)))), ?_⟩
  rw [show L2.start ["reel", "least", "most", "turn"] [(.ref r), v1, v2] = [some (.ref r), some v1, some v2, none] from rfl]
  dsimp only [xK]
  refine s_retE (M0 := M) (n := n) (n' := n + (hi + 1)) (Φ := IsW lo hi) (e_cb (Ψ := fun ds => ∃ d ws, ds = [d] ∧ d = .list (dInts ws) ∧ okW lo hi ws) (ea_cons (Φ := fun d => ∃ ws, d = .list (dInts ws) ∧ okW lo hi ws) ((e_lcR (m := n + 1) (c := hi) (step := 1) (Φ0 := fun z => (lo : Int) ≤ z ∧ z ≤ hi) (Φ1 := RI 1 4) (Φ := fun d => ∃ ws, d = .list (dInts ws) ∧ okW lo hi ws) ?_ (by omega) (fun M1 x t ht => ?_) fun z ds hz hl hall => ?_).le (by omega)) fun d hd => ea_nil ?_) fun ds hds => ?_) hA .refl hRL q
  · refine e_op (Φ1 := fun d => d = .int lo) (Φ2 := RI 0 (hi - lo)) (e_D (d_var rfl r1) rfl) (fun _ _ => spin_call rfl (e_D (d_op (d_op (d_var rfl r2) (d_var rfl r1) rd_sub) d_int rd_add) ⟨_, rfl, by omega, by omega, fun d h => ?_⟩) (by omega)) ?_
    · obtain ⟨i, rfl, h2, h3⟩ := h
      exact ⟨i, rfl, h2, by omega⟩
    · rintro _ _ rfl ⟨i, rfl, h2, h3⟩
      exact ⟨_, rd_add, _, rfl, ⟨by omega, by omega⟩, by omega, by omega⟩
  · refine e_op (Φ1 := fun d => d = .int 1) (Φ2 := RI 0 3) (e_D d_int rfl) (fun _ _ => (spin_c rfl (by decide) (by decide) (by omega)).le (by omega)) ?_
    rintro _ _ rfl ⟨i, rfl, h2, h3⟩
    exact ⟨_, rd_add, _, rfl, by omega, by omega⟩
  · obtain ⟨ns, rfl, hns⟩ := ints_of hall
    rw [dInts_len] at hl
    exact ⟨ns, rfl, by omega, by omega, hns⟩
  · obtain ⟨ws, rfl, ok⟩ := hd
    exact ⟨_, ws, rfl, rfl, ok⟩
  · obtain ⟨_, ws, rfl, rfl, ok⟩ := hds
    exact ⟨_, rc_tupL, ws, rfl, ok⟩
end
end K81

namespace K81
open PySem PySem.Spec PyProof.Rows L2 Sb
local macro_rules | `(tactic| walk_at "ex") => `(tactic| first | exact Ex.refl _ | assumption | (refine' Ex.trans ?_ (by assumption); walk_at "ex"))
local macro_rules | `(tactic| walk_at "rp") => `(tactic| first | assumption | (refine' Rp.up ?e (by assumption); (case e => walk_at "ex")) | exact rfl)
local macro_rules | `(tactic| walk_at "rd") => `(tactic| with_reducible first | exact rd_add | exact rd_sub | exact rd_lt | exact rd_le | exact rd_gt | exact rd_ge | exact rd_eqI | exact rd_neI | exact rd_eqS | exact rd_neS | exact rd_isN | exact rd_ltS | exact rd_inSign | exact rd_eqE)
local macro_rules | `(tactic| walk_at "tr") => `(tactic| first
  | with_reducible exact d_int
  | with_reducible exact d_str
  | with_reducible exact d_bl
  | with_reducible exact d_non
  | with_reducible exact a_nil
  | with_reducible exact b_yes
  | with_reducible exact o_none
  | with_reducible exact d_newD
  | ((with_reducible refine' d_var ?i ?r); (case i => rfl); (case r => walk_at "rp"))
  | ((with_reducible refine' a_cons ?a ?b); (case a => walk_at "tr"); (case b => walk_at "tr"))
  | ((with_reducible refine' a_star ?a ?b); (case a => walk_at "tr"); (case b => walk_at "tr"))
  | ((with_reducible refine' d_isi ?a ?b); (case a => walk_at "tr"); (case b => decide))
  | ((with_reducible refine' d_op ?a ?b ?c); (case a => walk_at "tr"); (case b => walk_at "tr"); (case c => walk_at "rd"))
  | ((with_reducible refine' d_tup ?a ?b); (case a => walk_at "tr"); (case b => first | decide | (simp; done)))
  | ((with_reducible refine' d_lst ?a ?b); (case a => walk_at "tr"); (case b => first | decide | (simp; done)))
  | ((with_reducible refine' o_some ?a); (case a => walk_at "tr"))
  | ((with_reducible refine' b_B ?a); (case a => walk_at "tr"))
  | ((with_reducible refine' b_T ?a); (case a => walk_at "tr"))
  | ((with_reducible refine' b_not ?a); (case a => walk_at "tr"))
  | ((with_reducible refine' v_not ?a); (case a => walk_at "tr"))
  | ((with_reducible refine' b_or ?a ?b); (case a => walk_at "tr"); (case b => intro _; walk_at "tr"))
  | ((with_reducible refine' b_and ?a ?b); (case a => walk_at "tr"); (case b => intro _; walk_at "tr"))
  | ((with_reducible refine' v_or ?a ?b); (case a => walk_at "tr"); (case b => intro _; walk_at "tr"))
  | ((with_reducible refine' v_and ?a ?b); (case a => walk_at "tr"); (case b => intro _; walk_at "tr"))
  | assumption)


theorem at_int {ns : List Int} {k : Nat} (h : k < ns.length) : L2.atI ns (k : Int) = some ns[k] := by
  unfold L2.atI ixN
  have h0 : (0 : Int) ≤ (k : Int) := by omega
  have h1 : (k : Int) < (ns.length : Int) := by omega
  rw [if_pos h0, if_pos h1]
  show ns[(k : Int).toNat]? = _
  rw [Int.toNat_natCast]
  exact List.getElem?_eq_getElem h
theorem cut_mem {ns : List Int} {lo hi : Option Int} {d : PyData} (h : d ∈ Sb.cutD (dInts ns) lo hi) : ∃ n, d = .int n := by
  unfold Sb.cutD at h
  obtain ⟨n, _, e⟩ := mem_ints (List.mem_of_mem_drop (List.mem_of_mem_take h))
  exact ⟨n, e⟩
section
variable {P : Program} {w : World} {K : PySem.W.Frag} {mg : Str → Option Value} {base : Heap}
def S_reel (K : PySem.W.Frag) : Sp := fun vs H Q _ => ∃ (G M : Hp) (a : Addr) (sc : List Int) (ix : Nat), vs = [.ref a, .int ix] ∧ At G M H ∧ SqL K G a (sc.map V.int) ∧ sc.length ≤ 1000 ∧ ix ≤ 1000 ∧
  ∀ p (x b : Int) G' H', M p = none → G' p = none → Ex G G' → At G' (upd M p (.lst [.int x, .int b, .int 0])) H' → 0 ≤ b → b < 10 ^ 43 → Q (.ref p) H'
theorem F__law_reel (T : Tx K mg) : Fd P w K mg base CX0 1 "_law_reel" (S_reel K) [] := by
  obtain ⟨fd, F⟩ := T.f__law_reel
  refine ⟨_, fd, ["script", "index"], [], T.g__law_reel, F.kp, F.bindsN fun _ _ _ _ _ _ us hl => match us, hl with | [_, _], _ => rfl, .nil, ?_⟩
  refine fnG_of F sc__law_reel (fun vs H Q E h => by obtain ⟨_, _, _, _, _, rfl, _⟩ := h; rfl) (fun cdv A outer s H vs Q E hg hr h => ?_)
  obtain ⟨G, M, a, sc, ix, rfl, hA, hS, hl, hx, q⟩ := h
  refine ⟨_, PSs.nox (pss_cons (ps_par (i := 2) (j := 3) (by rfl) sc__law_reel.nd rfl rfl (by decide) rfl rfl (pa_cons (pe_ifExp (pt_cmpR op_lt (pv 1) (pe_callB call_len' (by rfl) T.n_len (by decide +kernel) (pa_cons (pv 0) pa_nil)) (nomark _)) (pe_ix ix_list (pv 0) (pv 1) (fun _ _ => rfl)) pe_int) (pa_cons (pe_op op_add pe_int (pe_op op_mulW pe_int (pv 1))) pa_nil)) (by rfl))
    (pss_cons (ps_for PassesOwn.never rfl (pi_enum (by rfl) T.n_enumerate (pa_cons (pe_slice sl_list (pv 0) po_none (po_some pe_int)) pa_nil)) (pg_tup (by rfl) (pgs_cons (pg_name (i := 4) sc__law_reel.nd rfl (by first | exact Or.inl rfl | exact Or.inr rfl)) (pgs_cons (pg_name (i := 5) sc__law_reel.nd rfl (by first | exact Or.inl rfl | exact Or.inr rfl)) pgs_nil))) (pss_one (ps_set (i := 3) sc__law_reel.nd rfl (by first | exact Or.inl rfl | exact Or.inr rfl) (pe_op op_mod (pe_callTy call_int1' (by rfl) T.n_int (by decide +kernel) (pa_cons (pe_op op_add (pe_op op_add (pe_op op_mulW (pv 3) pe_int) (pe_op op_mod (pe_callTy call_int1' (by rfl) T.n_int (by decide +kernel) (pa_cons (pv 5) pa_nil)) (pe_op op_add (pe_op op_pow pe_int pe_int) pe_int))) (pv 4)) pa_nil)) (pe_op op_add (pe_op op_pow pe_int pe_int) pe_int)))))
    (pss_cons (ps_set (i := 3) sc__law_reel.nd rfl (by first | exact Or.inl rfl | exact Or.inr rfl) (pe_op op_mod (pe_callTy call_int1' (by rfl) T.n_int (by decide +kernel) (pa_cons (pe_op op_add (pe_op op_mulW (pv 3) pe_int) (pe_op op_mod (pe_callTy call_int1' (by rfl) T.n_int (by decide +kernel) (pa_cons (pv 2) pa_nil)) (pe_op op_add (pe_op op_pow pe_int pe_int) pe_int))) pa_nil)) (pe_op op_add (pe_op op_pow pe_int pe_int) pe_int)))
    (pss_one (ps_ret (pe_lst (pa_cons (pe_callB (call_max2' rfl) (by rfl) T.n_max (by decide +kernel) (pa_cons pe_int (pa_cons (pe_op op_sub (pe_callB call_abs' (by rfl) T.n_abs (by decide +kernel) (pa_cons (pe_callTy call_int1' (by rfl) T.n_int (by decide +kernel) (pa_cons (pv 2) pa_nil)) pa_nil)) (pe_op op_pow pe_int pe_int)) pa_nil))) (pa_cons (pv 3) (pa_cons pe_int pa_nil))))))))), ?_⟩
  rw [show L2.start ["script", "index", "cell", "mixed", "spot", "other"] [(.ref a), (.int ix)] = [some (.ref a), some (.int ix), none, none, none, none] from rfl]
  dsimp only [xK]
  have p42 : (0 : Int) < 10 ^ (42 : Int).toNat + 17 := by decide
  have p42' : (0 : Int) < 10 ^ (42 : Int).toNat + 63 := by decide
  have e42 : (10 : Int) ^ (42 : Int).toNat = 1000000000000000000000000000000000000000000 := rfl
  have t43 : (10 : Int) ^ 43 = 10000000000000000000000000000000000000000000 := rfl
  have t200 : (2 : Nat) ^ 200 = 1606938044258990275541962092341162602522202993782792835301376 := rfl
  have hcell : ∃ cz : Int, TrD K (tIf (tTest (tOp (rI0 fun i j => V.bl (decide (i < j))) (tVar 1) (tCB (Sb.rLen K) (tCons (tVar 0) tNil)))) (tOp (rIxL K) (tVar 0) (tVar 1)) (tC (V.int 0))) [some (.ref a), some (.int ix), none, none, none, none] G (.int cz) := by
    have ht : TrB (tTest (tOp (rI0 fun i j => V.bl (decide (i < j))) (tVar 1) (tCB (Sb.rLen K) (tCons (tVar 0) tNil)))) [some (.ref a), some (.int ix), none, none, none, none] G (decide ((ix : Int) < ((sc.map V.int).length : Int))) := b_T (K := K) (d_op (d_var rfl (d := .int ix) rfl) (d_lenQ rfl hS) rd_lt)
    rw [List.length_map] at ht
    by_cases hh : ix < sc.length
    · exact ⟨sc[ix], d_if ht (fun _ => d_ixQ rfl hS (d_var rfl (d := .int ix) rfl) (at_int hh)) fun z => absurd (of_decide_eq_false z) (by omega)⟩
    · exact ⟨0, d_if ht (fun z => absurd (of_decide_eq_true z) (by omega)) fun _ => d_int⟩
  obtain ⟨cz, hcz⟩ := hcell
  refine q_par hcz (d_op d_int (d_op d_int (d_var rfl (d := .int ix) rfl) (rd_mul (mul_ok (by decide) (by rw [t200]; omega)))) rd_add) hA fun v2 v3 G1 H1 e1 A1 r2 r3 => ?_
  refine s_seq (s_forEI (fun k σ G2 M1 => ∃ (z : Int) (v : V) (x4 x5 : Option V), M1 = M ∧ 0 ≤ z ∧ z < 10 ^ 43 ∧ v = .int z ∧ σ = [some (.ref a), some (.int ix), some v2, some v, x4, x5]) (d_slQ rfl (e1.sl hS) o_none (o_some (K := K) d_int)) A1 (fun e h => h)
    ⟨_, v3, none, none, rfl, ?_, ?_, r3, rfl⟩ (fun k d hd x σ1 G2 M1 H2 e2 A2 hI rx Nx hN => ?_) fun σ1 G2 M1 H2 e2 A2 hI => ?_)
  · omega
  · rw [t43]; omega
  · obtain ⟨z, _, x4, x5, rfl, z0, z1, rfl, rfl⟩ := hI
    obtain ⟨oi, rfl⟩ := cut_mem (List.mem_of_getElem? hd)
    rw [t43] at z1
    refine s_set (d_op (d_cb (a_cons (d_op (d_op (d_op (d_var rfl (d := .int z) rfl) d_int (rd_mul (mul_ok (by rw [t200]; omega) (by decide)))) (d_op (d_cb (a_cons (d_var rfl rx) a_nil) rc_int1) (d_op (d_op d_int d_int (rd_pow ⟨by decide, by decide, by decide⟩)) d_int rd_add) (rd_mod p42')) rd_add) (d_var rfl (d := .int k) rfl) rd_add) a_nil) rc_int1)
      (d_op (d_op d_int d_int (rd_pow ⟨by decide, by decide, by decide⟩)) d_int rd_add) (rd_mod p42)) A2 fun v G3 H3 e3 A3 r => ?_
    refine hN _ G3 M1 H3 e3 A3 ⟨_, v, _, _, rfl, Int.emod_nonneg _ (by omega), ?_, r, rfl⟩
    refine Int.lt_trans (Int.emod_lt_of_pos _ p42) ?_
    rw [e42, t43]
    decide
  · obtain ⟨z, _, x4, x5, rfl, z0, z1, rfl, rfl⟩ := hI
    rw [t43] at z1
    refine q_set (d_op (d_cb (a_cons (d_op (d_op (d_var rfl (d := .int z) rfl) d_int (rd_mul (mul_ok (by rw [t200]; omega) (by decide)))) (d_op (d_cb (a_cons (d_var rfl (r2.up e2)) a_nil) rc_int1) (d_op (d_op d_int d_int (rd_pow ⟨by decide, by decide, by decide⟩)) d_int rd_add) (rd_mod p42')) rd_add) a_nil) rc_int1)
      (d_op (d_op d_int d_int (rd_pow ⟨by decide, by decide, by decide⟩)) d_int rd_add) (rd_mod p42)) A2 fun v G3 H3 e3 A3 r => ?_
    refine w_A (a_cons (d_cb (a_cons d_int (a_cons (d_op (d_cb (a_cons (d_cb (a_cons (d_var rfl (r2.up (e2.trans e3))) a_nil) rc_int1) a_nil) rc_abs) (d_op d_int d_int (rd_pow ⟨by decide, by decide, by decide⟩)) rd_sub) a_nil)) rc_max2) (a_cons (d_var rfl r) (a_cons d_int a_nil))) A3 fun xs G4 H4 e4 A4 rx => ?_
    obtain ⟨y1, _, rfl, h1, y2, _, rfl, h2, y3, _, rfl, h3, rfl⟩ := rx
    refine ⟨show (3 : Nat) ≤ sizeLine by decide, fun p hp => ?_⟩
    rw [show y1 = V.int _ from h1, show y2 = V.int _ from h2, show y3 = V.int 0 from h3]
    refine q p _ _ G4 _ (A4.mNone hp) (A4.gNone hp) (((e1.trans e2).trans e3).trans e4) (A4.nm hp) (Int.emod_nonneg _ (by omega)) ?_
    refine Int.lt_trans (Int.emod_lt_of_pos _ p42) ?_
    rw [e42, t43]
    decide
end
end K81

namespace K81
open PySem PySem.Spec PyProof.Rows L2 Sb
local macro_rules | `(tactic| walk_at "ex") => `(tactic| first | exact Ex.refl _ | assumption | (refine' Ex.trans ?_ (by assumption); walk_at "ex"))
local macro_rules | `(tactic| walk_at "rp") => `(tactic| first | assumption | (refine' Rp.up ?e (by assumption); (case e => walk_at "ex")) | exact rfl)
local macro_rules | `(tactic| walk_at "rd") => `(tactic| with_reducible first | exact rd_add | exact rd_sub | exact rd_lt | exact rd_le | exact rd_gt | exact rd_ge | exact rd_eqI | exact rd_neI | exact rd_eqS | exact rd_neS | exact rd_isN | exact rd_ltS | exact rd_inSign | exact rd_eqE)
local macro_rules | `(tactic| walk_at "tr") => `(tactic| first
  | with_reducible exact d_int
  | with_reducible exact d_str
  | with_reducible exact d_bl
  | with_reducible exact d_non
  | with_reducible exact a_nil
  | with_reducible exact b_yes
  | with_reducible exact o_none
  | with_reducible exact d_newD
  | ((with_reducible refine' d_var ?i ?r); (case i => rfl); (case r => walk_at "rp"))
  | ((with_reducible refine' a_cons ?a ?b); (case a => walk_at "tr"); (case b => walk_at "tr"))
  | ((with_reducible refine' a_star ?a ?b); (case a => walk_at "tr"); (case b => walk_at "tr"))
  | ((with_reducible refine' d_isi ?a ?b); (case a => walk_at "tr"); (case b => decide))
  | ((with_reducible refine' d_op ?a ?b ?c); (case a => walk_at "tr"); (case b => walk_at "tr"); (case c => walk_at "rd"))
  | ((with_reducible refine' d_tup ?a ?b); (case a => walk_at "tr"); (case b => first | decide | (simp; done)))
  | ((with_reducible refine' d_lst ?a ?b); (case a => walk_at "tr"); (case b => first | decide | (simp; done)))
  | ((with_reducible refine' o_some ?a); (case a => walk_at "tr"))
  | ((with_reducible refine' b_B ?a); (case a => walk_at "tr"))
  | ((with_reducible refine' b_T ?a); (case a => walk_at "tr"))
  | ((with_reducible refine' b_not ?a); (case a => walk_at "tr"))
  | ((with_reducible refine' v_not ?a); (case a => walk_at "tr"))
  | ((with_reducible refine' b_or ?a ?b); (case a => walk_at "tr"); (case b => intro _; walk_at "tr"))
  | ((with_reducible refine' b_and ?a ?b); (case a => walk_at "tr"); (case b => intro _; walk_at "tr"))
  | ((with_reducible refine' v_or ?a ?b); (case a => walk_at "tr"); (case b => intro _; walk_at "tr"))
  | ((with_reducible refine' v_and ?a ?b); (case a => walk_at "tr"); (case b => intro _; walk_at "tr"))
  | assumption)


def tD (ws : List Int) : PyData := .tuple (dInts ws)
def lettS : Str := "0123456789abcdefghijklmnoprstuvwxyz"
def L35 : List Str := lettS.cps.toList.map fun c => ⟨#[c]⟩
theorem L35_sign : Sb.signs lettS = L35.map V.str := by unfold Sb.signs L35; rw [List.map_map]; rfl
theorem L35_len : L35.length = 35 := by decide +kernel
theorem L35_nd : L35.Nodup := by
  have h : (lettS.cps.toList).Nodup := by decide +kernel
  exact h.map _ fun a b hab e => hab (by injection e with e; simpa using e)
theorem L35_nm : ∀ x ∈ L35, isNameS x = true := by
  intro x hx
  obtain ⟨c, hc, rfl⟩ := List.mem_map.mp hx
  have h : ∀ c ∈ lettS.cps.toList, isNameS ⟨#[c]⟩ = true := by decide +kernel
  exact h c hc
theorem shaped_rows (rows : List (List Int)) : SeqAt.shaped (.list (rows.map tD)) = true := by
  have h1 : PyData.canLayAll0 (rows.map tD) = true ∧ PyData.depthAll (rows.map tD) ≤ 1 := by
    induction rows with
    | nil => exact ⟨rfl, Nat.zero_le _⟩
    | cons r rs ih =>
      have z := shaped_ints r
      have z1 := SeqAt.canLay_of_shaped z
      refine ⟨?_, ?_⟩
      · show (PyData.canLay0 (tD r) && PyData.canLayAll0 (rs.map tD)) = true
        rw [ih.1, Bool.and_true]
        exact z1
      · show max (PyData.depth (tD r)) (PyData.depthAll (rs.map tD)) ≤ 1
        have e : PyData.depth (tD r) = 1 := by
          show PyData.depthAll (dInts r) + 1 = 1
          have : ∀ ns : List Int, PyData.depthAll (dInts ns) = 0 := fun ns => by
            induction ns with
            | nil => rfl
            | cons n ns ih =>
              show max (PyData.depth (.int n)) (PyData.depthAll (dInts ns)) = 0
              rw [ih]
              rfl
          rw [this]
        have := ih.2
        omega
  unfold SeqAt.shaped
  show (PyData.canLayAll0 (rows.map tD) && decide (PyData.depthAll (rows.map tD) + 1 ≤ 64)) = true
  rw [h1.1, decide_eq_true (by have := h1.2; omega)]
  rfl
theorem cut_to {ds : List PyData} {k : Nat} (h : k ≤ ds.length) : Sb.cutD ds none (some (k : Int)) = ds.take k := by
  unfold Sb.cutD
  rw [HT.sIx_nat, HT.sIx_none, List.drop_zero, Nat.sub_zero, Nat.min_eq_left h]
theorem cut_from {ds : List PyData} {k : Nat} (h : k ≤ ds.length) : Sb.cutD ds (some (k : Int)) none = ds.drop k := by
  unfold Sb.cutD
  rw [HT.sIx_nat, HT.sIx_none, Nat.min_eq_left h]
  exact List.take_of_length_le (by rw [List.length_drop]; exact Nat.le_refl _)
theorem at_dat {ds : List PyData} {k : Nat} (h : k < ds.length) : L2.atI ds (k : Int) = some ds[k] := by
  unfold L2.atI ixN
  have h0 : (0 : Int) ≤ (k : Int) := by omega
  have h1 : (k : Int) < (ds.length : Int) := by omega
  rw [if_pos h0, if_pos h1]
  show ds[(k : Int).toNat]? = _
  rw [Int.toNat_natCast]
  exact List.getElem?_eq_getElem h
theorem er_map {α β : Type} (f : α → β) (l : List α) (k : Nat) : (l.map f).eraseIdx k = (l.eraseIdx k).map f := by
  rw [List.eraseIdx_eq_take_drop_succ, List.eraseIdx_eq_take_drop_succ, List.map_append, List.map_take, List.map_drop]
theorem four_at {a b c d : PyData} {i : Int} (h0 : 0 ≤ i) (h1 : i ≤ 3) : ∃ e, L2.atI [a, b, c, d] i = some e ∧ (e = a ∨ e = b ∨ e = c ∨ e = d) := by
  have : i = 0 ∨ i = 1 ∨ i = 2 ∨ i = 3 := by omega
  rcases this with rfl | rfl | rfl | rfl
  · exact ⟨a, rfl, .inl rfl⟩
  · exact ⟨b, rfl, .inr (.inl rfl)⟩
  · exact ⟨c, rfl, .inr (.inr (.inl rfl))⟩
  · exact ⟨d, rfl, .inr (.inr (.inr rfl))⟩
theorem three_at {a b c : PyData} {i : Int} (h0 : 0 ≤ i) (h1 : i ≤ 2) : ∃ e, L2.atI [a, b, c] i = some e ∧ (e = a ∨ e = b ∨ e = c) := by
  have : i = 0 ∨ i = 1 ∨ i = 2 := by omega
  rcases this with rfl | rfl | rfl
  · exact ⟨a, rfl, .inl rfl⟩
  · exact ⟨b, rfl, .inr (.inl rfl)⟩
  · exact ⟨c, rfl, .inr (.inr rfl)⟩
theorem okW.app {a b c d : Nat} {xs ys : List Int} (h : okW a b xs) (k : okW c d ys) : okW (a + c) (b + d) (xs ++ ys) := by
  refine ⟨?_, ?_, fun n hn => ?_⟩
  · rw [List.length_append]; have := h.1; have := k.1; omega
  · rw [List.length_append]; have := h.2.1; have := k.2.1; omega
  · rcases List.mem_append.mp hn with z | z
    · exact h.2.2 n z
    · exact k.2.2 n z
/-- a row, one of its widths another -/
theorem okW.edit {a b : Nat} {xs : List Int} {k : Nat} {z : Int} (h : okW a b xs) (hk : k < xs.length) (h1 : 1 ≤ z) (h4 : z ≤ 4) : okW a b (xs.take k ++ [z] ++ xs.drop (k + 1)) := by
  refine ⟨?_, ?_, fun n hn => ?_⟩
  · have := h.1
    simp only [List.length_append, List.length_take, List.length_drop, List.length_singleton]
    omega
  · have := h.2.1
    simp only [List.length_append, List.length_take, List.length_drop, List.length_singleton]
    omega
  · rcases List.mem_append.mp hn with z' | z'
    · rcases List.mem_append.mp z' with z' | z'
      · exact h.2.2 n (List.mem_of_mem_take z')
      · rw [List.mem_singleton.mp z']; omega
    · exact h.2.2 n (List.mem_of_mem_drop z')
def ch1 : List (List Int) := [[2, 1], [1, 2], [3, 2], [2, 3]]
def ch2 : List (List Int) := [[3, 2, 1], [1, 2, 3], [4, 3, 2], [2, 3, 4]]
def ch3 : List (List Int) := [[3, 2], [1, 1, 2, 3], [4, 3, 2], [2, 3, 4]]
def ch4 : List (List Int) := [[1], [2, 1], [1, 1], [2]]
def IsCh (d : PyData) : Prop := ∃ ch : List (List Int), d = .list (ch.map tD) ∧ ch.length = 4 ∧ ∀ x ∈ ch, okW 1 4 x
instance (lo hi : Nat) (ns : List Int) : Decidable (okW lo hi ns) := by unfold okW; infer_instance
section
variable {P : Program} {w : World} {K : PySem.W.Frag} {mg : Str → Option Value} {base : Heap}
def R_code : List PyData → Nat → (PyData → Prop) → Prop := fun ds k Φ => ∃ many most : Nat, ds = [.int many, .int most] ∧ 1 ≤ many ∧ many ≤ 10 ∧ 1 ≤ most ∧ most ≤ 6 ∧ k = 1000 ∧ Φ = fun d => ∃ c : CodeD, d = c.d ∧ c.ok
abbrev slC (r pl pr : Addr) (v1 v2 v5 v6 v7 v8 v9 : V) (a10 a11 a12 a13 a14 a15 : Option V) : L2.St := [some (.ref r), some v1, some v2, some (.ref pl), some (.ref pr), some v5, some v6, some v7, some v8, some v9, a10, a11, a12, a13, a14, a15]
theorem widths_call {r : Addr} {M0 : Hp} {σ : L2.St} {G : Hp} {n : Nat} {ta tb : TE} {lo hi : Nat} {E : XK} (hi' : σ[0]? = some (some (.ref r))) (ha : TrD K ta σ G (.int lo)) (hb : TrD K tb σ G (.int hi)) (h0 : lo ≤ hi) (h1 : hi ≤ 100) (hm : n + (hi + 1) ≤ 1000000) : TrE K r M0 (tCall (ESp K R_widths) [] E (tCons (tVar 0) (tCons ta (tCons tb tNil)))) σ G n (n + (hi + 1)) (IsW lo hi) :=
  e_call (Ψ := fun ds => ds = [.int lo, .int hi]) hi' (ea_A (a_cons ha (a_cons hb a_nil)) rfl) (fun ds h => ⟨lo, hi, h, h0, h1, rfl, rfl⟩) hm
theorem F__law_code (T : Tx K mg) : Fd P w K mg base CX0 3 "_law_code" (ESp K R_code) [] := by
  obtain ⟨fd, F⟩ := T.f__law_code
  refine ⟨_, fd, ["reel", "many", "most"], [], T.g__law_code, F.kp, F.bindsN fun _ _ _ _ _ _ us hl => match us, hl with | [_, _, _], _ => rfl, .nil, ?_⟩
  refine fnG_of F sc__law_code (fun vs H Q E h => ESp.len (n := 2) (by rintro _ _ _ ⟨d, e, rfl, _⟩; rfl) h) (fun cdv A outer s H vs Q E hg hr h => ?_)
  obtain ⟨r, ws, G, M, n, k, ds, Φ, rfl, hA, hRL, hws, ⟨many, most, rfl, hm0, hm1, hs0, hs1, rfl, rfl⟩, hn, q⟩ := h
  obtain ⟨v1, _, rfl, r1, v2, _, rfl, r2, rfl⟩ := hws
  refine ⟨_, PSs.nox (pss_cons (ps_par (i := 3) (j := 4) (by rfl) sc__law_code.nd rfl rfl (by decide) rfl rfl (pa_cons (pe_callTy (call_listS rfl) (by rfl) T.n_list (by decide +kernel) (pa_cons pe_str pa_nil)) (pa_cons (pe_lst pa_nil) pa_nil)) (by rfl))
    (pss_cons (ps_par (i := 5) (j := 6) (by rfl) sc__law_code.nd rfl rfl (by decide) rfl rfl (pa_cons (pe_fd (F__law_spin (P := P) (w := w) (base := base) T) hg (hr.mono (by decide)) pass0 (pa_cons (pv 0) (pa_cons pe_int pa_nil))) (pa_cons (pe_op op_add pe_int (pe_fd (F__law_spin (P := P) (w := w) (base := base) T) hg (hr.mono (by decide)) pass0 (pa_cons (pv 0) (pa_cons (pv 2) pa_nil)))) pa_nil)) (by rfl))
    (pss_cons (ps_set (i := 7) sc__law_code.nd rfl (by first | exact Or.inl rfl | exact Or.inr rfl) (pe_lst (pa_cons (pe_lst (pa_cons (pe_tup (pa_cons pe_int (pa_cons pe_int pa_nil))) (pa_cons (pe_tup (pa_cons pe_int (pa_cons pe_int pa_nil))) (pa_cons (pe_tup (pa_cons pe_int (pa_cons pe_int pa_nil))) (pa_cons (pe_tup (pa_cons pe_int (pa_cons pe_int pa_nil))) pa_nil))))) (pa_cons (pe_lst (pa_cons (pe_tup (pa_cons pe_int (pa_cons pe_int (pa_cons pe_int pa_nil)))) (pa_cons (pe_tup (pa_cons pe_int (pa_cons pe_int (pa_cons pe_int pa_nil)))) (pa_cons (pe_tup (pa_cons pe_int (pa_cons pe_int (pa_cons pe_int pa_nil)))) (pa_cons (pe_tup (pa_cons pe_int (pa_cons pe_int (pa_cons pe_int pa_nil)))) pa_nil))))) pa_nil))))
    (pss_cons (ps_set (i := 7) sc__law_code.nd rfl (by first | exact Or.inl rfl | exact Or.inr rfl) (pe_op op_cat (pv 7) (pe_lst (pa_cons (pe_lst (pa_cons (pe_tup (pa_cons pe_int (pa_cons pe_int pa_nil))) (pa_cons (pe_tup (pa_cons pe_int (pa_cons pe_int (pa_cons pe_int (pa_cons pe_int pa_nil))))) (pa_cons (pe_tup (pa_cons pe_int (pa_cons pe_int (pa_cons pe_int pa_nil)))) (pa_cons (pe_tup (pa_cons pe_int (pa_cons pe_int (pa_cons pe_int pa_nil)))) pa_nil))))) (pa_cons (pe_lst (pa_cons (pe_tup (pa_cons pe_int pa_nil)) (pa_cons (pe_tup (pa_cons pe_int (pa_cons pe_int pa_nil))) (pa_cons (pe_tup (pa_cons pe_int (pa_cons pe_int pa_nil))) (pa_cons (pe_tup (pa_cons pe_int pa_nil)) pa_nil))))) pa_nil)))))
    (pss_cons (ps_par (i := 8) (j := 9) (by rfl) sc__law_code.nd rfl rfl (by decide) rfl rfl (pa_cons (pe_ix ix_list (pv 7) (pe_fd (F__law_spin (P := P) (w := w) (base := base) T) hg (hr.mono (by decide)) pass0 (pa_cons (pv 0) (pa_cons pe_int pa_nil))) (fun _ _ => rfl)) (pa_cons (pe_lc (own := [("turn", 10)]) (g := gName 10) (by rfl) sc__law_code.nd (pi_range1 (by rfl) T.n_range (pa_cons pe_int pa_nil)) (blkOk_by (own := [("turn", 10)]) (N := ["reel", "many", "most", "letters", "rows", "way", "same", "chains", "chain", "ends", "turn", "row", "at", "width", "some", "between"]) (sc := defScope s__law_code) (by decide +kernel)) (fun _ _ _ _ _ => (pg_name (i := 10) sc__law_code.nd rfl (by first | exact Or.inl rfl | exact Or.inr rfl))) (fun _ _ _ _ _ => pts_nil) (fun _ _ _ _ _ => (pe_fd (F__law_widths (P := P) (w := w) (base := base) T) hg (hr.mono (by decide)) pass0 (pa_cons (pv 0) (pa_cons pe_int (pa_cons pe_int pa_nil)))))) pa_nil)) (by rfl))
    (pss_cons (ps_for PassesOwn.never rfl (pi_range1 (by rfl) T.n_range (pa_cons (pv 1) pa_nil)) (pg_name (i := 10) sc__law_code.nd rfl (by first | exact Or.inl rfl | exact Or.inr rfl)) (pss_cons (ps_set (i := 11) sc__law_code.nd rfl (by first | exact Or.inl rfl | exact Or.inr rfl) (pe_ifExp (pt_cmpR op_eq (pv 5) pe_int (nomark _)) (pe_fd (F__law_widths (P := P) (w := w) (base := base) T) hg (hr.mono (by decide)) pass0 (pa_cons (pv 0) (pa_cons (pv 6) (pa_cons (pv 6) pa_nil)))) (pe_fd (F__law_widths (P := P) (w := w) (base := base) T) hg (hr.mono (by decide)) pass0 (pa_cons (pv 0) (pa_cons pe_int (pa_cons (pv 2) pa_nil)))))) (pss_cons (ps_if (PW.pt (pw_and (pt_cmpR op_eq (pv 5) pe_int (nomark _)) (pw_and1 (pt_cmpR (op_neR hr.units) (pv 4) (pe_lst pa_nil) (nomark _))))) (pss_cons (ps_set (i := 11) sc__law_code.nd rfl (by first | exact Or.inl rfl | exact Or.inr rfl) (pe_ix ix_list (pv 4) (pe_fd (F__law_spin (P := P) (w := w) (base := base) T) hg (hr.mono (by decide)) pass0 (pa_cons (pv 0) (pa_cons (pe_callB call_len' (by rfl) T.n_len (by decide +kernel) (pa_cons (pv 4) pa_nil)) pa_nil))) (fun _ _ => rfl))) (pss_cons (ps_set (i := 12) sc__law_code.nd rfl (by first | exact Or.inl rfl | exact Or.inr rfl) (pe_fd (F__law_spin (P := P) (w := w) (base := base) T) hg (hr.mono (by decide)) pass0 (pa_cons (pv 0) (pa_cons (pe_callB call_len' (by rfl) T.n_len (by decide +kernel) (pa_cons (pv 11) pa_nil)) pa_nil)))) (pss_cons (ps_set (i := 13) sc__law_code.nd rfl (by first | exact Or.inl rfl | exact Or.inr rfl) (pe_callB (call_max2' rfl) (by rfl) T.n_max (by decide +kernel) (pa_cons pe_int (pa_cons (pe_callB (call_min2' rfl) (by rfl) T.n_min (by decide +kernel) (pa_cons pe_int (pa_cons (pe_op op_add (pe_ix ix_tup (pv 11) (pv 12) (fun _ _ => rfl)) (pe_ix ix_list (pe_lst (pa_cons pe_int (pa_cons (pe_un un_neg pe_int) pa_nil))) (pe_fd (F__law_spin (P := P) (w := w) (base := base) T) hg (hr.mono (by decide)) pass0 (pa_cons (pv 0) (pa_cons pe_int pa_nil))) (fun _ _ => rfl))) pa_nil))) pa_nil)))) (pss_one (ps_set (i := 11) sc__law_code.nd rfl (by first | exact Or.inl rfl | exact Or.inr rfl) (pe_op op_catA (pe_op op_catA (pe_slice sl_tupA (pv 11) po_none (po_some (pv 12))) (pe_tup (pa_cons (pv 13) pa_nil))) (pe_slice sl_tupA (pv 11) (po_some (pe_op op_add (pv 12) pe_int)) po_none))))))) pss_nil) (pss_cons (ps_if (PW.pt (pw_and (pt_cmpR op_gt (pv 5) pe_int (nomark _)) (pw_and1 (pt_cmpR op_lt (pv 10) pe_int (nomark _))))) (pss_one (ps_set (i := 11) sc__law_code.nd rfl (by first | exact Or.inl rfl | exact Or.inr rfl) (pe_ix ix_list (pv 8) (pv 10) (fun _ _ => rfl)))) pss_nil) (pss_cons (ps_if (PW.pt (pw_and (pt_cmpR op_eq (pv 5) pe_int (nomark _)) (pw_and1 (pt_cmpR op_lt (pv 10) pe_int (nomark _))))) (pss_one (ps_set (i := 11) sc__law_code.nd rfl (by first | exact Or.inl rfl | exact Or.inr rfl) (pe_ix ix_list (pe_lst (pa_cons (pe_op op_catA (pe_ix ix_list (pv 9) pe_int (fun _ _ => rfl)) (pv 11)) (pa_cons (pe_op op_catA (pv 11) (pe_ix ix_list (pv 9) pe_int (fun _ _ => rfl))) pa_nil))) (pe_op op_mod (pe_callTy call_int1' (by rfl) T.n_int (by decide +kernel) (pa_cons (pv 10) pa_nil)) pe_int) (fun _ _ => rfl)))) pss_nil) (pss_one (ps_expr (pe_bm PySem.F.plainAttrs_list PySem.F.slot_list_append PySem.F.type_list_append mt_append (pv 4) (pa_cons (pv 11) pa_nil)))))))))
    (pss_cons (ps_set (i := 14) sc__law_code.nd rfl (by first | exact Or.inl rfl | exact Or.inr rfl) pe_dnewK)
    (pss_cons (ps_while PassesOwn.never (pt_cmpR (op_neR hr.units) (pv 4) (pe_lst pa_nil) (nomark _)) (pss_one (ps_dput (hu_of hr) (pv 14) (pe_bm PySem.F.plainAttrs_list PySem.F.slot_list_pop PySem.F.type_list_pop mt_popAt (pv 3) (pa_cons (pe_fd (F__law_spin (P := P) (w := w) (base := base) T) hg (hr.mono (by decide)) pass0 (pa_cons (pv 0) (pa_cons (pe_callB call_len' (by rfl) T.n_len (by decide +kernel) (pa_cons (pv 3) pa_nil)) pa_nil))) pa_nil)) (pe_bm PySem.F.plainAttrs_list PySem.F.slot_list_pop PySem.F.type_list_pop mt_popAt (pv 4) (pa_cons (pe_fd (F__law_spin (P := P) (w := w) (base := base) T) hg (hr.mono (by decide)) pass0 (pa_cons (pv 0) (pa_cons (pe_callB call_len' (by rfl) T.n_len (by decide +kernel) (pa_cons (pv 4) pa_nil)) pa_nil))) pa_nil)) rfl)))
    (pss_cons (ps_set (i := 15) sc__law_code.nd rfl (by first | exact Or.inl rfl | exact Or.inr rfl) (pe_ix ix_list (pe_lst (pa_cons (pe_tup pa_nil) (pa_cons (pe_tup pa_nil) (pa_cons (pe_fd (F__law_widths (P := P) (w := w) (base := base) T) hg (hr.mono (by decide)) pass0 (pa_cons (pv 0) (pa_cons pe_int (pa_cons pe_int pa_nil)))) pa_nil)))) (pe_fd (F__law_spin (P := P) (w := w) (base := base) T) hg (hr.mono (by decide)) pass0 (pa_cons (pv 0) (pa_cons pe_int pa_nil))) (fun _ _ => rfl)))
    (pss_one (ps_ret (pe_tup (pa_cons (pe_fd (F__law_widths (P := P) (w := w) (base := base) T) hg (hr.mono (by decide)) pass0 (pa_cons (pv 0) (pa_cons pe_int (pa_cons pe_int pa_nil)))) (pa_cons (pv 14) (pa_cons (pv 15) (pa_cons (pe_fd (F__law_widths (P := P) (w := w) (base := base) T) hg (hr.mono (by decide)) pass0 (pa_cons (pv 0) (pa_cons pe_int (pa_cons pe_int pa_nil)))) pa_nil)))))))))))))))), ?_⟩
  rw [show L2.start ["reel", "many", "most", "letters", "rows", "way", "same", "chains", "chain", "ends", "turn", "row", "at", "width", "some", "between"] [(.ref r), v1, v2] = [some (.ref r), some v1, some v2, none, none, none, none, none, none, none, none, none, none, none, none, none] from rfl]
  dsimp only [xK]
  -- letters, rows
  refine ⟨lettS, rfl, by decide +kernel, fun pl hpl => ⟨show (0 : Nat) ≤ sizeLine from Nat.zero_le _, fun pr hpr => ⟨_, _, rfl, ?_⟩⟩⟩
  rw [L35_sign] at hpr ⊢
  have Mpl := hA.mNone hpl
  have A1 := hA.nm (o := .lst (L35.map V.str)) hpl
  have Mpr' := A1.mNone hpr
  have hne : pr ≠ pl := fun z => by rw [z, upd_same] at hpr; cases hpr
  have Mpr : M pr = none := by rw [upd_ne hne] at Mpr'; exact Mpr'
  have A2 := A1.nm (o := .lst []) hpr
  have nl : pl ≠ r := hRL.ne Mpl
  have nr : pr ≠ r := hRL.ne Mpr
  have RL2 := (hRL.upd (o := .lst (L35.map V.str)) nl).upd (o := .lst []) nr
  -- way, same
  refine q_parE (n := n) (n' := n + 2) (Ψ := fun ds => ∃ w s : Int, ds = [.int w, .int s] ∧ 0 ≤ w ∧ w ≤ 4 ∧ 1 ≤ s ∧ s ≤ most) (ea_cons (spin_c rfl (by decide) (by decide) (by omega)) fun d hd => ea_cons (e_op (Φ1 := fun d => d = .int 1) (Φ2 := RI 0 (most - 1)) (Φ := RI 1 most) (e_D d_int rfl) (fun _ _ => spin_call rfl (e_D (d_var rfl (r2.up (Ex.refl G))) ⟨_, rfl, by omega, by omega, fun _ h => h⟩) (by omega)) ?_) fun d2 hd2 => ea_nil ?_) ?_ A2 .refl RL2 fun ds v5 v6 G3 M3 H3 e3 A3 S3 R3 hds rvs => ?_
  · rintro _ _ rfl ⟨i, rfl, h0, h1⟩
    exact ⟨_, rd_add, _, rfl, by omega, by omega⟩
  · obtain ⟨i, rfl, h0, h1⟩ := hd
    obtain ⟨j, rfl, h2, h3⟩ := hd2
    exact ⟨i, j, rfl, h0, by omega, h2, h3⟩
  · rintro _ ⟨_, _, rfl, _⟩
    rfl
  obtain ⟨way, same, rfl, w0, w4, s0, s1⟩ := hds
  obtain ⟨_, _, rr1, r5, _, _, rr2, r6, _⟩ := rvs
  cases rr1
  cases rr2
  -- chains
  refine q_set (K := K) (d := .list [.list [.tuple [.int 2, .int 1], .tuple [.int 1, .int 2], .tuple [.int 3, .int 2], .tuple [.int 2, .int 3]], .list [.tuple [.int 3, .int 2, .int 1], .tuple [.int 1, .int 2, .int 3], .tuple [.int 4, .int 3, .int 2], .tuple [.int 2, .int 3, .int 4]]]) (d_lst (a_cons (d_lst (a_cons (d_tup (a_cons d_int (a_cons d_int a_nil)) (Nat.le_of_ble_eq_true rfl)) (a_cons (d_tup (a_cons d_int (a_cons d_int a_nil)) (Nat.le_of_ble_eq_true rfl)) (a_cons (d_tup (a_cons d_int (a_cons d_int a_nil)) (Nat.le_of_ble_eq_true rfl)) (a_cons (d_tup (a_cons d_int (a_cons d_int a_nil)) (Nat.le_of_ble_eq_true rfl)) a_nil)))) (Nat.le_of_ble_eq_true rfl)) (a_cons (d_lst (a_cons (d_tup (a_cons d_int (a_cons d_int (a_cons d_int a_nil))) (Nat.le_of_ble_eq_true rfl)) (a_cons (d_tup (a_cons d_int (a_cons d_int (a_cons d_int a_nil))) (Nat.le_of_ble_eq_true rfl)) (a_cons (d_tup (a_cons d_int (a_cons d_int (a_cons d_int a_nil))) (Nat.le_of_ble_eq_true rfl)) (a_cons (d_tup (a_cons d_int (a_cons d_int (a_cons d_int a_nil))) (Nat.le_of_ble_eq_true rfl)) a_nil)))) (Nat.le_of_ble_eq_true rfl)) a_nil)) (Nat.le_of_ble_eq_true rfl)) A3 fun v7 G4 H4 e4 A4 r7 => ?_
  refine q_set (K := K) (d := .list [.list (ch1.map tD), .list (ch2.map tD), .list (ch3.map tD), .list (ch4.map tD)]) (d_op (d_var rfl r7) (d2 := .list [.list [.tuple [.int 3, .int 2], .tuple [.int 1, .int 1, .int 2, .int 3], .tuple [.int 4, .int 3, .int 2], .tuple [.int 2, .int 3, .int 4]], .list [.tuple [.int 1], .tuple [.int 2, .int 1], .tuple [.int 1, .int 1], .tuple [.int 2]]]) (d_lst (a_cons (d_lst (a_cons (d_tup (a_cons d_int (a_cons d_int a_nil)) (Nat.le_of_ble_eq_true rfl)) (a_cons (d_tup (a_cons d_int (a_cons d_int (a_cons d_int (a_cons d_int a_nil)))) (Nat.le_of_ble_eq_true rfl)) (a_cons (d_tup (a_cons d_int (a_cons d_int (a_cons d_int a_nil))) (Nat.le_of_ble_eq_true rfl)) (a_cons (d_tup (a_cons d_int (a_cons d_int (a_cons d_int a_nil))) (Nat.le_of_ble_eq_true rfl)) a_nil)))) (Nat.le_of_ble_eq_true rfl)) (a_cons (d_lst (a_cons (d_tup (a_cons d_int a_nil) (Nat.le_of_ble_eq_true rfl)) (a_cons (d_tup (a_cons d_int (a_cons d_int a_nil)) (Nat.le_of_ble_eq_true rfl)) (a_cons (d_tup (a_cons d_int (a_cons d_int a_nil)) (Nat.le_of_ble_eq_true rfl)) (a_cons (d_tup (a_cons d_int a_nil) (Nat.le_of_ble_eq_true rfl)) a_nil)))) (Nat.le_of_ble_eq_true rfl)) a_nil)) (Nat.le_of_ble_eq_true rfl)) (rd_cat (Nat.le_of_ble_eq_true rfl))) A4 fun v7 G5 H5 e5 A5 r7 => ?_
  -- chain, ends
  have E05 : Ex G G5 := (e3.trans e4).trans e5
  refine q_parE (n' := n + 2 + 1 + 2 * 3) (Ψ := fun ds => ∃ d e0 e1, ds = [d, .list [tD e0, tD e1]] ∧ IsCh d ∧ okW 1 2 e0 ∧ okW 1 2 e1) (ea_cons (e_op (Φ1 := fun d => d = .list [.list (ch1.map tD), .list (ch2.map tD), .list (ch3.map tD), .list (ch4.map tD)]) (Φ2 := RI 0 3) (Φ := IsCh) (e_D (d_var rfl r7) rfl) (fun _ _ => spin_c rfl (by decide) (by decide) (by omega)) ?_) fun d hd => ea_cons (e_lcR (c := 2) (step := 3) (Φ0 := fun z => z = 2) (Φ1 := IsW 1 2) (Φ := fun d => ∃ e0 e1, d = .list [tD e0, tD e1] ∧ okW 1 2 e0 ∧ okW 1 2 e1) (e_D d_int ⟨2, rfl, rfl, by decide, by decide⟩) (by decide) (fun M1 x t ht => widths_call rfl d_int d_int (by decide) (by decide) (by omega)) ?_) fun d2 hd2 => ea_nil ?_) ?_ A5 S3 R3 fun ds v8 v9 G6 M6 H6 e6 A6 S6 R6 hds rvs => ?_
  · rintro _ _ rfl ⟨i, rfl, h0, h1⟩
    obtain ⟨e, he, hc⟩ := four_at (a := .list (ch1.map tD)) (b := .list (ch2.map tD)) (c := .list (ch3.map tD)) (d := .list (ch4.map tD)) h0 h1
    refine ⟨e, rd_ixL he, ?_⟩
    rcases hc with rfl | rfl | rfl | rfl
    · exact ⟨ch1, rfl, rfl, by decide⟩
    · exact ⟨ch2, rfl, rfl, by decide⟩
    · exact ⟨ch3, rfl, rfl, by decide⟩
    · exact ⟨ch4, rfl, rfl, by decide⟩
  · rintro z ds rfl hl hall
    match ds, hl, hall with
    | [a, b], _, hall =>
      obtain ⟨e0, rfl, k0⟩ := hall a (by simp)
      obtain ⟨e1, rfl, k1⟩ := hall b (by simp)
      exact ⟨e0, e1, rfl, k0, k1⟩
    | [], hl, _ => cases hl
    | [a], hl, _ => simp at hl
    | a :: b :: c :: r, hl, _ => simp at hl; omega
  · obtain ⟨e0, e1, rfl, k0, k1⟩ := hd2
    exact ⟨d, e0, e1, rfl, hd, k0, k1⟩
  · rintro _ ⟨_, _, _, rfl, _⟩
    rfl
  obtain ⟨_, e0, e1, rfl, ⟨chn, rfl, hch4, hchok⟩, k0, k1⟩ := hds
  obtain ⟨_, _, rr1, r8, _, _, rr2, r9, _⟩ := rvs
  cases rr1
  cases rr2
  obtain ⟨sm, rfl⟩ := Int.eq_ofNat_of_zero_le (show 0 ≤ same by omega)
  have E06 := E05.trans e6
  have E36 : Ex G3 G6 := (e4.trans e5).trans e6
  refine s_seq (s_forRI (n := many) (fun k σ G' M' => ∃ (xs : List V) (rows : List (List Int)) (a10 a11 a12 a13 : Option V), σ = slC r pl pr v1 v2 v5 v6 v7 v8 v9 a10 a11 a12 a13 none none ∧ Same r (upd (upd M pl (.lst (L35.map V.str))) pr (.lst xs)) M' ∧ RL r (n + 9 + k * 20) M' ∧ RpL K G' (rows.map tD) xs ∧ rows.length = k ∧ ∀ x ∈ rows, okW 1 6 x) (d_var rfl (r1.up E06)) (by omega) (by omega) A6
    ?_ ⟨[], [], none, none, none, none, rfl, S6, R6.le (by omega), rfl, rfl, fun _ h => by cases h⟩ (fun k hk σ1 G1 M1 H1 eL AL hI Nx hN => ?_) fun σ1 G1 M1 H1 eL AL hI => ?_)
  · rintro k σ1 Ga Gb M1 e ⟨xs, rows, a10, a11, a12, a13, h1, h2, h3, h4, h5⟩
    exact ⟨xs, rows, a10, a11, a12, a13, h1, h2, h3, h4.up e, h5⟩
  · obtain ⟨xs, rows, a10, a11, a12, a13, rfl, SL, RL', rx, hrl, hrows⟩ := hI
    have hkm : k < many := by omega
    have hxl : xs.length = k := by rw [rx.len, List.length_map, hrl]
    have p5 : Rp K G1 (.int way) v5 := r5.up (E36.trans eL)
    have p6 : Rp K G1 (.int ((sm : Nat) : Int)) v6 := r6.up (E36.trans eL)
    have p2 : Rp K G1 (.int ((most : Nat) : Int)) v2 := r2.up (E06.trans eL)
    have p8 : Rp K G1 (.list (chn.map tD)) v8 := r8.up eL
    have p9 : Rp K G1 (.list [tD e0, tD e1]) v9 := r9.up eL
    refine q_setE (Φ := IsW 1 6) (n' := n + 9 + k * 20 + 7) (e_if (b := decide (way = 0)) (b_T (d_op (d_var rfl p5) d_int rd_eqI)) (fun _ => ((widths_call (lo := sm) (hi := sm) rfl (d_var rfl p6) (d_var rfl p6) (Nat.le_refl _) (by omega) (by omega)).le (by omega)).imp fun d hd => ?_) fun _ => ((widths_call (lo := 1) (hi := most) rfl d_int (d_var rfl p2) (by omega) (by omega) (by omega)).le (by omega)).imp fun d hd => ?_) AL SL RL' fun d v11 G2 M2 H2 e2 A2 S2 R2 hd rv => ?_
    · obtain ⟨ws, rfl, ok⟩ := hd
      exact ⟨ws, rfl, ok.le (by omega) (by omega)⟩
    · obtain ⟨ws, rfl, ok⟩ := hd
      exact ⟨ws, rfl, ok.le (by omega) (by omega)⟩
    obtain ⟨row, rfl, hrow⟩ := hd
    -- a row before, one of its widths another
    refine q_cut (fun σ' H' => ∃ (G' M' : Hp) (a12 a13 : Option V) (v11 : V) (row : List Int), Ex G1 G' ∧ At G' M' H' ∧ Same r (upd (upd M pl (.lst (L35.map V.str))) pr (.lst xs)) M' ∧ RL r (n + 9 + k * 20 + 15) M' ∧ Rp K G' (tD row) v11 ∧ okW 1 6 row ∧ σ' = slC r pl pr v1 v2 v5 v6 v7 v8 v9 (some (.int k)) (some v11) a12 a13 none none) ?_ fun hkk => ?_
    rotate_left
    · have hM2 : M2 pr = some (.lst xs) := (S2 pr nr).trans upd_same
      have hGp : G2 pr = none := A2.d _ _ hM2
      rw [← cut_eq hM2] at A2
      have eU : Ex G2 (upd G2 pr (.lst xs)) := Ex.new hGp
      refine s_iffz (b := decide (way = 2) && !rows.isEmpty) (b_and (b_T (d_op (d_var rfl (p5.up (e2.trans eU))) d_int rd_eqI)) fun _ => TrB.to (b_T (d_op (d_var rfl (d := .list (rows.map tD)) ⟨pr, xs, rfl, upd_same, rx.up (e2.trans eU)⟩) (d_lst a_nil) (rd_neR (shaped_rows rows) rfl))) (by rw [eqv_nil]; cases rows <;> rfl)) hGp cut_none A2 (fun hb Gb Hb eb Ab => ?_) fun hb Gb Hb eb Ab => ?_
      · rw [cut_eq hM2] at Ab
        have hr0 : 0 < rows.length := by
          cases rows with
          | nil => simp at hb
          | cons _ _ => exact Nat.succ_pos _
        refine q_setE (Φ := IsW 1 6) (e_ixM (i := 4) (p := pr) (Φ1 := RI 0 (xs.length - 1)) rfl upd_same nr (rx.up (e2.trans eb)) (spin_call rfl (e_len rfl upd_same nr ⟨_, rfl, by omega, by omega, fun _ h => h⟩) (by omega)) (fun d hd => ?_)) Ab S2 R2 fun d v11 G3' M3' H3' e3' A3' S3' R3' hd rv => ?_
        · obtain ⟨i, rfl, h0, h1⟩ := hd
          obtain ⟨iN, rfl⟩ := Int.eq_ofNat_of_zero_le h0
          have hi : iN < (rows.map tD).length := by rw [List.length_map]; omega
          have hi2 : iN < rows.length := by omega
          refine ⟨iN, _, rfl, at_dat hi, rows[iN], ?_, hrows _ (List.getElem_mem hi2)⟩
          rw [List.getElem_map]
          rfl
        obtain ⟨row2, rfl, hrow2⟩ := hd
        have hl1 := hrow2.1
        have hl2 := hrow2.2.1
        refine q_setE (Φ := RI 0 (row2.length - 1)) (spin_call rfl (e_D (d_cb (a_cons (d_var rfl rv) a_nil) rc_lenT) ⟨_, rfl, by rw [dInts_len]; omega, by rw [dInts_len]; omega, fun d h => by rw [dInts_len] at h; exact h⟩) (by omega)) A3' S3' R3' fun d v12 G4' M4' H4' e4' A4' S4' R4' hd rv12 => ?_
        obtain ⟨ai, rfl, h0, h1⟩ := hd
        obtain ⟨aN, rfl⟩ := Int.eq_ofNat_of_zero_le h0
        have haN : aN < row2.length := by omega
        have hat : L2.atI (dInts row2) (aN : Int) = some (.int row2[aN]) := by
          rw [at_dat (by rw [dInts_len]; exact haN)]
          congr 1
          unfold dInts
          rw [List.getElem_map]
        have hneg : TrD K (tLst (tCons (tC (V.int 1)) (tCons (tUn (rU fun i => V.int (-i)) (tC (V.int 1))) tNil))) (slC r pl pr v1 v2 v5 v6 v7 v8 v9 (some (.int k)) (some v11) (some v12) a13 none none) G4' (.list [.int 1, .int (-1)]) :=
          d_lst (a_cons d_int (a_cons (d_un (d1 := .int 1) d_int (fun G M H x A h Q q => ⟨1, h, q.here A rfl⟩)) a_nil))
        refine q_setE (Φ := RI 1 4) (n' := n + 9 + k * 20 + 7 + 1 + 1 + 1) (e_cb (Ψ := fun ds => ∃ z : Int, ds = [.int 1, .int z] ∧ z ≤ 4) (ea_cons (Φ := fun d => d = .int 1) (e_D d_int rfl) fun d hd => ea_cons (Φ := fun d => ∃ z : Int, d = .int z ∧ z ≤ 4) (e_cb (Ψ := fun ds => ∃ z : Int, ds = [.int 4, .int z]) (ea_cons (Φ := fun d => d = .int 4) (e_D d_int rfl) fun d hd => ea_cons (Φ := fun d => ∃ z : Int, d = .int z)
            (e_op (Φ1 := fun d => d = .int row2[aN]) (Φ2 := fun d => ∃ z : Int, d = .int z) (e_D (d_op (d_var rfl (rv.up e4')) (d_var rfl rv12) (rd_ixT hat)) rfl) (fun _ _ => e_op (Φ1 := fun d => d = .list [.int 1, .int (-1)]) (Φ2 := RI 0 1) (e_D hneg rfl) (fun _ _ => spin_c rfl (by decide) (by decide) (by omega)) ?_) ?_) fun d2 hd2 => ea_nil ?_) ?_) fun d2 hd2 => ea_nil ?_) ?_) A4' S4' R4' fun d v13 G5' M5' H5' e5' A5' S5' R5' hd rv13 => ?_
        · rintro _ _ rfl ⟨i, rfl, h0, h1⟩
          have : i = 0 ∨ i = 1 := by omega
          rcases this with rfl | rfl
          · exact ⟨.int 1, rd_ixL rfl, 1, rfl⟩
          · exact ⟨.int (-1), rd_ixL rfl, -1, rfl⟩
        · rintro _ _ rfl ⟨z, rfl⟩
          exact ⟨_, rd_add, _, rfl⟩
        · obtain ⟨z, rfl⟩ := hd2
          subst hd
          exact ⟨z, rfl⟩
        · rintro _ ⟨z, rfl⟩
          exact ⟨_, rc_min2, _, rfl, by split <;> omega⟩
        · obtain ⟨z, rfl, hz⟩ := hd2
          subst hd
          exact ⟨z, rfl, hz⟩
        · rintro _ ⟨z, rfl, hz⟩
          exact ⟨_, rc_max2, _, rfl, by split <;> omega, by split <;> omega⟩
        obtain ⟨wz, rfl, hw1, hw4⟩ := hd
        refine s_set (d := tD (row2.take aN ++ [wz] ++ row2.drop (aN + 1))) (TrD.to (d_op (d_op (d_slA (d_var rfl (rv.up (e4'.trans e5'))) o_none (o_some (d_var rfl (rv12.up e5')))) (d_tup (a_cons (d_var rfl rv13) a_nil) (Nat.le_of_ble_eq_true rfl)) (rd_catA ?_)) (d_slA (d_var rfl (rv.up (e4'.trans e5'))) (o_some (d_op (d_var rfl (rv12.up e5')) d_int rd_add)) o_none) (rd_catA ?_)) ?_) A5' fun v11 G6' H6' e6' A6' rv11 => ?_
        · rw [cut_to (by rw [dInts_len]; omega), List.length_take, dInts_len]
          show _ + 1 ≤ 100000
          omega
        · have e : ((aN : Int) + 1) = ((aN + 1 : Nat) : Int) := by omega
          rw [e, cut_to (by rw [dInts_len]; omega), cut_from (by rw [dInts_len]; omega), List.length_append, List.length_take, List.length_drop, dInts_len]
          show _ + 1 + _ ≤ 100000
          omega
        · have e : ((aN : Int) + 1) = ((aN + 1 : Nat) : Int) := by omega
          rw [e, cut_to (by rw [dInts_len]; omega), cut_from (by rw [dInts_len]; omega)]
          unfold tD dInts
          rw [List.map_append, List.map_append, List.map_take, List.map_drop]
          rfl
        exact hkk _ _ ⟨G6', M5', _, _, v11, _, ((((e2.trans eb).trans e3').trans e4').trans e5').trans e6', A6', S5', R5'.le (by omega), rv11, hrow2.edit haN hw1 hw4, rfl⟩
      · rw [cut_eq hM2] at Ab
        exact s_next (hkk _ _ ⟨Gb, M2, _, _, v11, row, e2.trans eb, Ab, S2, R2.le (by omega), rv.up eb, hrow, rfl⟩)
    rintro _ H3' ⟨G3', M3', b12, b13, v11', row1, e3', A3', S3', R3', rv', hrow1, rfl⟩
    -- a row of the chain
    refine q_cut (fun σ' H' => ∃ (G' : Hp) (v11 : V) (row : List Int), Ex G1 G' ∧ At G' M3' H' ∧ Rp K G' (tD row) v11 ∧ okW 1 6 row ∧ ((way = 4 ∧ k < 4) → okW 1 4 row) ∧ σ' = slC r pl pr v1 v2 v5 v6 v7 v8 v9 (some (.int k)) (some v11) b12 b13 none none) ?_ fun hkk => ?_
    rotate_left
    · refine s_if (b := decide (2 < way) && decide ((k : Int) < 4)) (b_and (b_T (d_op (d_var rfl (p5.up e3')) d_int rd_gt)) fun _ => b_T (d_op (d_var (K := K) rfl (d := .int k) rfl) d_int rd_lt)) A3' (fun hb Gb Hb eb Ab => ?_) fun hb Gb Hb eb Ab => ?_
      · have hb2 := Bool.and_eq_true_iff.mp hb
        have hk4 : k < chn.length := by have := of_decide_eq_true hb2.2; omega
        refine s_set (d := tD chn[k]) (d_op (d_var rfl (p8.up (e3'.trans eb))) (d_var (K := K) rfl (d := .int k) rfl) (rd_ixL ?_)) Ab fun v11 G4' H4' e4' A4' rv11 => ?_
        · rw [at_dat (by rw [List.length_map]; exact hk4), List.getElem_map]
        · have z := hchok _ (List.getElem_mem hk4)
          exact hkk _ _ ⟨G4', v11, chn[k], (e3'.trans eb).trans e4', A4', rv11, z.le (by omega) (by omega), fun _ => z, rfl⟩
      · refine s_next (hkk _ _ ⟨Gb, v11', row1, e3'.trans eb, Ab, rv'.up eb, hrow1, fun ⟨z1, z2⟩ => ?_, rfl⟩)
        rw [z1, decide_eq_true (by omega), decide_eq_true (by omega)] at hb
        cases hb
    rintro _ H4' ⟨G4', v11, row2, e4', A4', rv11, hrow2, hc2, rfl⟩
    -- with an end put to it
    refine q_cut (fun σ' H' => ∃ (G' : Hp) (v11 : V) (row : List Int), Ex G1 G' ∧ At G' M3' H' ∧ Rp K G' (tD row) v11 ∧ okW 1 6 row ∧ σ' = slC r pl pr v1 v2 v5 v6 v7 v8 v9 (some (.int k)) (some v11) b12 b13 none none) ?_ fun hkk => ?_
    rotate_left
    · refine s_if (b := decide (way = 4) && decide ((k : Int) < 4)) (b_and (b_T (d_op (d_var rfl (p5.up e4')) d_int rd_eqI)) fun _ => b_T (d_op (d_var (K := K) rfl (d := .int k) rfl) d_int rd_lt)) A4' (fun hb Gb Hb eb Ab => ?_) fun hb Gb Hb eb Ab => ?_
      · have hb2 := Bool.and_eq_true_iff.mp hb
        have ok4 := hc2 ⟨of_decide_eq_true hb2.1, by have := of_decide_eq_true hb2.2; omega⟩
        have l0 := k0.2.1
        have l1 := k1.2.1
        have l4 := ok4.2.1
        have hsel : ∃ row : List Int, L2.atI [tD (e0 ++ row2), tD (row2 ++ e1)] ((k : Int) % 2) = some (tD row) ∧ okW 1 6 row := by
          have : (k : Int) % 2 = 0 ∨ (k : Int) % 2 = 1 := by omega
          rcases this with h | h <;> rw [h]
          · exact ⟨e0 ++ row2, rfl, (k0.app ok4).le (by omega) (by omega)⟩
          · exact ⟨row2 ++ e1, rfl, (ok4.app k1).le (by omega) (by omega)⟩
        obtain ⟨row3, hat, ok3⟩ := hsel
        have pe : Rp K Gb (.list [tD e0, tD e1]) v9 := p9.up (e4'.trans eb)
        refine s_set (d := tD row3) (d_op (d_lst (ds := [tD (e0 ++ row2), tD (row2 ++ e1)]) (a_cons (TrD.to (d_op (d_op (d_var rfl pe) d_int (rd_ixL (d := tD e0) rfl)) (d_var rfl (rv11.up eb)) (rd_catA (ds := dInts e0) (es := dInts row2) (by rw [dInts_len, dInts_len]; omega))) ?_) (a_cons (TrD.to (d_op (d_var rfl (rv11.up eb)) (d_op (d_var rfl pe) d_int (rd_ixL (d := tD e1) rfl)) (rd_catA (ds := dInts row2) (es := dInts e1) (by rw [dInts_len, dInts_len]; omega))) ?_) a_nil)) (Nat.le_of_ble_eq_true rfl)) (d_op (d_cb (a_cons (d_var (K := K) rfl (d := .int k) rfl) a_nil) rc_int1) d_int (rd_mod (by decide))) (rd_ixL hat)) Ab fun v11 G5' H5' e5' A5' rv5 => ?_
        · unfold tD dInts; rw [List.map_append]
        · unfold tD dInts; rw [List.map_append]
        · exact hkk _ _ ⟨G5', v11, row3, (e4'.trans eb).trans e5', A5', rv5, ok3, rfl⟩
      · exact s_next (hkk _ _ ⟨Gb, v11, row2, e4'.trans eb, Ab, rv11.up eb, hrow2, rfl⟩)
    rintro _ H5' ⟨G5', v11, row3, e5', A5', rv5, hrow3, rfl⟩
    -- the row put to the rows
    have hM3 : M3' pr = some (.lst xs) := (S3' pr nr).trans upd_same
    refine s_append rfl hM3 (d_var rfl rv5) (by omega) A5' fun y G6' H6' e6' A6' ry => ?_
    refine hN _ G6' _ H6' (e5'.trans e6') A6' ⟨xs ++ [y], rows ++ [row3], _, _, _, _, rfl, fun x hx => ?_, (R3'.upd nr).le (by omega), ?_, by rw [List.length_append, hrl]; rfl, fun x hx => ?_⟩
    · by_cases e : x = pr
      · subst e
        rw [upd_same, upd_same]
      · rw [upd_ne e, S3' x hx, upd_ne e, upd_ne e]
    · rw [List.map_append]
      exact (rx.up (e5'.trans e6')).snoc ry
    · rcases List.mem_append.mp hx with z | z
      · exact hrows x z
      · rw [List.mem_singleton.mp z]; exact hrow3
  · obtain ⟨xs, rows, a10, a11, a12, a13, rfl, SL, RL', rx, hrl, hrows⟩ := hI
    rw [Int.toNat_natCast] at RL' hrl
    refine q_newD AL fun ps H2 hMs hGs A2 => ?_
    have hPL : M1 pl = some (.lst (L35.map V.str)) := by rw [SL pl nl, upd_ne (Ne.symm hne), upd_same]
    have hPR : M1 pr = some (.lst xs) := (SL pr nr).trans upd_same
    have npl : ps ≠ pl := fun z => by rw [z, hPL] at hMs; cases hMs
    have npr : ps ≠ pr := fun z => by rw [z, hPR] at hMs; cases hMs
    have ns : ps ≠ r := RL'.ne hMs
    have Mps : M ps = none := by
      have z := SL ps ns
      rw [hMs, upd_ne npr, upd_ne npl] at z
      exact z.symm
    have hp4 : ∀ (Ls : List Str) (xs : List V) (es : List (Key × V)), (upd (upd (upd M pl (.lst (Ls.map V.str))) pr (.lst xs)) ps (.dK es)) pr = some (.lst xs) := fun Ls xs es => by rw [upd_ne (Ne.symm npr), upd_same]
    have hp3 : ∀ (Ls : List Str) (xs : List V) (es : List (Key × V)), (upd (upd (upd M pl (.lst (Ls.map V.str))) pr (.lst xs)) ps (.dK es)) pl = some (.lst (Ls.map V.str)) := fun Ls xs es => by rw [upd_ne (Ne.symm npl), upd_ne (Ne.symm hne), upd_same]
    let W : Nat → L2.St → Hp → Prop := fun m σ' H' => ∃ (G' M' : Hp) (Ls : List Str) (xs : List V) (rows : List (List Int)) (es : List (Key × V)) (cs : List (Str × List Int)), Ex G1 G' ∧ At G' M' H' ∧ Same r (upd (upd (upd M pl (.lst (Ls.map V.str))) pr (.lst xs)) ps (.dK es)) M' ∧ RL r (n + 9 + many * 20 + (many - m) * 2) M' ∧ RpL K G' (rows.map tD) xs ∧ RpD K G' (keysD (chD cs)) es ∧ rows.length = m ∧ cs.length + m = many ∧ Ls.length + cs.length = 35 ∧ (∀ x ∈ Ls, isNameS x = true) ∧ (cs.map (·.1) ++ Ls).Nodup ∧ (∀ p ∈ cs, isNameS p.1 = true ∧ okW 1 6 p.2) ∧ (∀ x ∈ rows, okW 1 6 x) ∧ σ' = slC r pl pr v1 v2 v5 v6 v7 v8 v9 a10 a11 a12 a13 (some (.ref ps)) none
    refine s_seq ?_
    refine ⟨W, ⟨many, G1, _, L35, xs, rows, [], [], Ex.refl _, A2, fun x hx => ?_, (RL'.upd ns).le (by omega), rx, rfl, hrl, by simp, by rw [L35_len]; rfl, L35_nm, by simpa using L35_nd, (fun _ h => by cases h), hrows, rfl⟩, ?_⟩
    · by_cases e : x = ps
      · subst e
        rw [upd_same, upd_same]
      · rw [upd_ne e, upd_ne e]
        exact SL x hx
    rintro m σ' H' ⟨G', M', Ls, xs, rows, es, cs, eG, AG, SG, RG, rx, re, hrl, hcl, hll, hnm, hnd, hcs, hrows, rfl⟩
    have hPR : M' pr = some (.lst xs) := (SG pr nr).trans (hp4 Ls xs es)
    have hxl : xs.length = m := by rw [rx.len, List.length_map, hrl]
    have hGp : G' pr = none := AG.d _ _ hPR
    rw [← cut_eq hPR] at AG
    refine w_Bfz (b := !rows.isEmpty) (TrB.to (b_T (d_op (d_var rfl (d := .list (rows.map tD)) ⟨pr, xs, rfl, upd_same, rx.up (Ex.new hGp)⟩) (d_lst a_nil) (rd_neR (shaped_rows rows) rfl))) (by rw [eqv_nil]; cases rows <;> rfl)) hGp cut_none AG fun Gb Hb eb Ab => ?_
    rw [cut_eq hPR] at Ab
    by_cases hr0 : rows = []
    · -- the dict is made
      subst hr0
      rw [if_neg (by decide)]
      have hm0' : m = 0 := hrl.symm
      subst hm0'
      have hDK : M' ps = some (.dK es) := (SG ps ns).trans upd_same
      rw [← cut_eq hDK] at Ab
      obtain ⟨G2, e2, A3', r14⟩ := At.doneD Ab cut_none (re.up eb)
      have RG' : RL r (n + 300) (cutG M' ps) := by
        obtain ⟨a, b, c, z1, z2, z3, z4⟩ := RG
        exact ⟨a, b, c, by show (if r = ps then none else M' r) = _; rw [if_neg (Ne.symm ns)]; exact z1, z2, z3, by omega⟩
      refine q_setE (Φ := IsW 0 2) (e_op (Φ1 := fun d => ∃ ws, d = .list [.tuple [], .tuple [], tD ws] ∧ okW 1 2 ws) (Φ2 := RI 0 2) (e_lst (Ψ := fun ds => ∃ ws, ds = [.tuple [], .tuple [], tD ws] ∧ okW 1 2 ws) (ea_cons (Φ := fun d => d = .tuple []) (e_D (d_tup a_nil) rfl) fun d hd => ea_cons (Φ := fun d => d = .tuple []) (e_D (d_tup a_nil) rfl) fun d2 hd2 => ea_cons (widths_call (lo := 1) (hi := 2) rfl d_int d_int (by decide) (by decide) (by omega)) fun d3 hd3 => ea_nil ?_) fun ds h => ?_) (fun _ _ => spin_c rfl (by decide) (by decide) (by omega)) ?_) A3' .refl RG' fun d v15 G3' M3' H3' e3' A4' S4' R4' hd rv15 => ?_
      · obtain ⟨ws, rfl, ok⟩ := hd3
        subst hd hd2
        exact ⟨ws, rfl, ok⟩
      · obtain ⟨ws, rfl, ok⟩ := h
        exact ⟨Nat.le_of_ble_eq_true rfl, ws, rfl, ok⟩
      · rintro _ _ ⟨ws, rfl, ok⟩ ⟨i, rfl, h0, h1⟩
        obtain ⟨e, he, hc⟩ := three_at (a := .tuple []) (b := .tuple []) (c := tD ws) h0 h1
        refine ⟨e, rd_ixL he, ?_⟩
        rcases hc with rfl | rfl | rfl
        · exact ⟨[], rfl, by decide⟩
        · exact ⟨[], rfl, by decide⟩
        · exact ⟨ws, rfl, ok.le (by omega) (by omega)⟩
      obtain ⟨bt, rfl, hbt⟩ := hd
      refine s_retE (Φ := fun d => ∃ a b, d = .tuple [tD a, .dict (keysD (chD cs)), tD bt, tD b] ∧ okW 1 6 a ∧ okW 1 6 b) (n' := n + 300 + (2 + 1) + 1 + (6 + 1) + (6 + 1)) (e_tup (Ψ := fun ds => ∃ a b, ds = [tD a, .dict (keysD (chD cs)), tD bt, tD b] ∧ okW 1 6 a ∧ okW 1 6 b) (ea_cons (widths_call (lo := 1) (hi := 6) rfl d_int d_int (by decide) (by decide) (by omega)) fun d hd => ea_cons (Φ := fun d => d = .dict (keysD (chD cs))) (e_D (d_var rfl (r14.up e3')) rfl) fun d2 hd2 => ea_cons (Φ := fun d => d = tD bt) (e_D (d_var rfl rv15) rfl) fun d3 hd3 => ea_cons (widths_call (lo := 1) (hi := 6) rfl d_int d_int (by decide) (by decide) (by omega)) fun d4 hd4 => ea_nil ?_) fun ds h => ?_) A4' S4' R4' fun d v G5' M5' H5' e5' A5' S5' R5' hd rv => ?_
      · obtain ⟨a, rfl, oka⟩ := hd
        obtain ⟨b, rfl, okb⟩ := hd4
        subst hd2 hd3
        exact ⟨a, b, rfl, oka, okb⟩
      · obtain ⟨a, b, rfl, oka, okb⟩ := h
        exact ⟨Nat.le_of_ble_eq_true rfl, a, b, rfl, oka, okb⟩
      obtain ⟨a, b, rfl, oka, okb⟩ := hd
      obtain ⟨M6', A6', S6', hr6⟩ := At.back (r := r) (M0 := M) A5' (fun x hx o ho => by
        have x1 : x ≠ pl := fun z => by rw [z, Mpl] at ho; cases ho
        have x2 : x ≠ pr := fun z => by rw [z, Mpr] at ho; cases ho
        have x3 : x ≠ ps := fun z => by rw [z, Mps] at ho; cases ho
        rw [S5' x hx]
        show (if x = ps then none else M' x) = _
        rw [if_neg x3, SG x hx, upd_ne x3, upd_ne x2, upd_ne x1]
        exact ho)
      refine q _ v G5' M6' H5' ((((((E06.trans eL).trans eG).trans eb).trans e2).trans e3').trans e5') A6' S6' ?_ ⟨⟨a, cs, bt, b⟩, rfl, ?_⟩ rv
      · obtain ⟨a, b, c, z1, z2, z3, z4⟩ := R5'
        exact ⟨a, b, c, by rw [hr6]; exact z1, z2, z3, by omega⟩
      · exact ⟨oka, ⟨by show 1 ≤ cs.length; omega, by show cs.length ≤ 10; omega, hcs, (List.nodup_append.mp hnd).1⟩, hbt, okb⟩
    · have hm0' : 0 < m := by
        rw [← hrl]
        cases rows with
        | nil => exact absurd rfl hr0
        | cons _ _ => exact Nat.succ_pos _
      rw [if_pos (by cases rows with
        | nil => exact absurd rfl hr0
        | cons _ _ => rfl)]
      refine ⟨W (m - 1), fun σ2 H2 h => ⟨m - 1, by omega, h⟩, ?_⟩
      refine w_pop (i := 4) (p := pr) (M0 := upd (upd (upd M pl (.lst (Ls.map V.str))) pr (.lst xs)) ps (.dK es)) (K := K) rfl (hp4 Ls xs es) nr (by omega) (spin_call rfl (e_len rfl (hp4 Ls xs es) nr ⟨_, rfl, by omega, by omega, fun d h => ?_⟩) (by omega)) Ab SG RG fun k1 y1 G2 M2 H2 hx1 e2 A3' S3' R3' => ⟨V.ref ps, rfl, ?_⟩
      · obtain ⟨i, rfl, h0, h1⟩ := h
        obtain ⟨iN, rfl⟩ := Int.eq_ofNat_of_zero_le h0
        exact ⟨iN, rfl, by omega⟩
      have hp3' : (upd (upd (upd (upd M pl (.lst (Ls.map V.str))) pr (.lst xs)) ps (.dK es)) pr (.lst (xs.eraseIdx k1))) pl = some (.lst (Ls.map V.str)) := by rw [upd_ne (Ne.symm hne)]; exact hp3 Ls xs es
      refine w_pop (i := 3) (p := pl) (M0 := upd (upd (upd (upd M pl (.lst (Ls.map V.str))) pr (.lst xs)) ps (.dK es)) pr (.lst (xs.eraseIdx k1))) (K := K) rfl hp3' nl (by rw [List.length_map]; omega) (spin_call rfl (e_len rfl hp3' nl ⟨_, rfl, by rw [List.length_map]; omega, by rw [List.length_map]; omega, fun d h => ?_⟩) (by omega)) A3' S3' R3' fun k2 y2 G3 M3' H3 hx2 e3 A4' S4' R4' => ?_
      · obtain ⟨i, rfl, h0, h1⟩ := h
        obtain ⟨iN, rfl⟩ := Int.eq_ofNat_of_zero_le h0
        exact ⟨iN, rfl, by omega⟩
      obtain ⟨nm, hnmx, rfl⟩ : ∃ nm, Ls[k2]? = some nm ∧ y2 = V.str nm := by
        rw [List.getElem?_map] at hx2
        cases z : Ls[k2]? with
        | none => rw [z] at hx2; cases hx2
        | some nm => rw [z] at hx2; exact ⟨nm, rfl, (Option.some.inj hx2).symm⟩
      obtain ⟨row1, hrow1, ry⟩ : ∃ row1, rows[k1]? = some row1 ∧ Rp K G' (tD row1) y1 := by
        obtain ⟨d, hd, rd⟩ := rx.get hx1
        rw [List.getElem?_map] at hd
        cases z : rows[k1]? with
        | none => rw [z] at hd; cases hd
        | some row1 =>
          rw [z] at hd
          have e : tD row1 = d := Option.some.inj hd
          exact ⟨row1, rfl, e ▸ rd⟩
      have hlk1 := (List.getElem?_eq_some_iff.mp hrow1).1
      obtain ⟨hlk2, hek2⟩ := List.getElem?_eq_some_iff.mp hnmx
      have eGG : Ex G' G3 := (eb.trans e2).trans e3
      have hDK : M3' ps = some (.dK es) := (S4' ps ns).trans (by rw [upd_ne npl, upd_ne npr, upd_same])
      have hnin : nm ∉ cs.map (·.1) := fun z => (List.nodup_append.mp hnd).2.2 nm z nm (List.mem_of_getElem? hnmx) rfl
      have hfresh : valV es (Sum.inr nm) = none := by
        refine (RpD.val (x := nm) re).2 ?_
        have z : (lookD (chD cs) nm).isSome = false := by
          rw [look_some, chD_keys]
          exact decide_eq_false hnin
        cases y : lookD (chD cs) nm with
        | none => rfl
        | some _ => rw [y] at z; cases z
      have hput : putK es (Sum.inr nm) y1 = es ++ [(Sum.inr nm, y1)] := putK_new _ hfresh
      have hes : es.length = cs.length := by rw [re.len, keysD_len]; simp [chD]
      have A5' := A4'.wr (o := .dK (putK es (Sum.inr nm) y1)) hDK
      refine ⟨ps, _, rfl, DPut.k (k := Sum.inr nm) (A4'.m _ _ hDK) (sz_lt (by omega)), G3, _, Ls.eraseIdx k2, xs.eraseIdx k1, rows.eraseIdx k1, es ++ [(Sum.inr nm, y1)], cs ++ [(nm, row1)], eG.trans eGG, A5', fun x hx => ?_, (R4'.upd ns).le ?_, ?_, ?_, ?_, ?_, ?_, fun x hx => hnm x (List.mem_of_mem_eraseIdx hx), ?_, fun p hp => ?_, fun x hx => hrows x (List.mem_of_mem_eraseIdx hx), rfl⟩
      · by_cases x3 : x = ps
        · subst x3
          rw [upd_same, upd_same, hput]
        · rw [upd_ne x3, upd_ne x3, S4' x hx]
          by_cases x1 : x = pl
          · subst x1
            rw [upd_same, upd_ne (Ne.symm hne), upd_same, er_map]
          · rw [upd_ne x1]
            by_cases x2 : x = pr
            · subst x2
              rw [upd_same, upd_same]
            · simp only [upd_ne x2, upd_ne x3, upd_ne x1]
      · omega
      · rw [List.eraseIdx_eq_take_drop_succ, List.eraseIdx_eq_take_drop_succ, List.map_append, List.map_take, List.map_drop]
        exact ((rx.up eGG).take k1).app ((rx.up eGG).drop (k1 + 1))
      · unfold chD keysD
        rw [List.map_append, List.map_append]
        exact (re.up eGG).snoc rfl (ry.up eGG)
      · rw [List.length_eraseIdx_of_lt hlk1]; omega
      · rw [List.length_append, List.length_singleton]; omega
      · rw [List.length_eraseIdx_of_lt hlk2, List.length_append, List.length_singleton]; omega
      · have hperm : (nm :: Ls.eraseIdx k2).Perm Ls := by
          have e : Ls = Ls.take k2 ++ nm :: Ls.drop (k2 + 1) := by
            rw [← hek2, ← List.drop_eq_getElem_cons hlk2, List.take_append_drop]
          rw [List.eraseIdx_eq_take_drop_succ]
          conv => rhs; rw [e]
          exact List.perm_middle.symm
        have hp2 : ((cs ++ [(nm, row1)]).map (·.1) ++ Ls.eraseIdx k2).Perm (cs.map (·.1) ++ Ls) := by
          rw [List.map_append, List.append_assoc]
          exact List.Perm.append_left _ hperm
        exact hp2.nodup_iff.mpr hnd
      · rcases List.mem_append.mp hp with z | z
        · exact hcs p z
        · rw [List.mem_singleton.mp z]
          exact ⟨hnm nm (List.mem_of_getElem? hnmx), hrows row1 (List.mem_of_getElem? hrow1)⟩
end
end K81

namespace K81
open PySem PySem.Spec PyProof.Rows L2 Sb
local macro_rules | `(tactic| walk_at "ex") => `(tactic| first | exact Ex.refl _ | assumption | (refine' Ex.trans ?_ (by assumption); walk_at "ex"))
local macro_rules | `(tactic| walk_at "rp") => `(tactic| first | assumption | (refine' Rp.up ?e (by assumption); (case e => walk_at "ex")) | exact rfl)
local macro_rules | `(tactic| walk_at "rd") => `(tactic| with_reducible first | exact rd_add | exact rd_sub | exact rd_lt | exact rd_le | exact rd_gt | exact rd_ge | exact rd_eqI | exact rd_neI | exact rd_eqS | exact rd_neS | exact rd_isN | exact rd_ltS | exact rd_inSign | exact rd_eqE)
local macro_rules | `(tactic| walk_at "tr") => `(tactic| first
  | with_reducible exact d_int
  | with_reducible exact d_str
  | with_reducible exact d_bl
  | with_reducible exact d_non
  | with_reducible exact a_nil
  | with_reducible exact b_yes
  | with_reducible exact o_none
  | with_reducible exact d_newD
  | ((with_reducible refine' d_var ?i ?r); (case i => rfl); (case r => walk_at "rp"))
  | ((with_reducible refine' a_cons ?a ?b); (case a => walk_at "tr"); (case b => walk_at "tr"))
  | ((with_reducible refine' a_star ?a ?b); (case a => walk_at "tr"); (case b => walk_at "tr"))
  | ((with_reducible refine' d_isi ?a ?b); (case a => walk_at "tr"); (case b => decide))
  | ((with_reducible refine' d_op ?a ?b ?c); (case a => walk_at "tr"); (case b => walk_at "tr"); (case c => walk_at "rd"))
  | ((with_reducible refine' d_tup ?a ?b); (case a => walk_at "tr"); (case b => first | decide | (simp; done)))
  | ((with_reducible refine' d_lst ?a ?b); (case a => walk_at "tr"); (case b => first | decide | (simp; done)))
  | ((with_reducible refine' o_some ?a); (case a => walk_at "tr"))
  | ((with_reducible refine' b_B ?a); (case a => walk_at "tr"))
  | ((with_reducible refine' b_T ?a); (case a => walk_at "tr"))
  | ((with_reducible refine' b_not ?a); (case a => walk_at "tr"))
  | ((with_reducible refine' v_not ?a); (case a => walk_at "tr"))
  | ((with_reducible refine' b_or ?a ?b); (case a => walk_at "tr"); (case b => intro _; walk_at "tr"))
  | ((with_reducible refine' b_and ?a ?b); (case a => walk_at "tr"); (case b => intro _; walk_at "tr"))
  | ((with_reducible refine' v_or ?a ?b); (case a => walk_at "tr"); (case b => intro _; walk_at "tr"))
  | ((with_reducible refine' v_and ?a ?b); (case a => walk_at "tr"); (case b => intro _; walk_at "tr"))
  | assumption)


/-! ### texts of a code -/
def isTextD (c : CodeD) (d : PyData) : Bool := match d with
  | .str t => (chrs t).all fun x => decide (x ∈ c.cs.map (·.1))
  | _ => false
def rowL (c : CodeD) (t : Str) : List Int := c.st ++ c.bt ++ ((chrs t).flatMap fun x => wsOf c.cs x ++ c.bt) ++ c.sp
theorem all_map {α : Type} (l : List α) (f : α → Bool) : (l.map f).all id = l.all f := by rw [List.all_map]; rfl
/-! ### decimal words -/
def digS : Str := "0123456789"
theorem dig_iff {c : Nat} : c ∈ digS.cps.toList ↔ 48 ≤ c ∧ c ≤ 57 := by
  have h : digS.cps.toList = [48, 49, 50, 51, 52, 53, 54, 55, 56, 57] := by decide +kernel
  rw [h]
  simp only [List.mem_cons, List.not_mem_nil, or_false]
  omega
def decB (w : Str) (most : Int) : Bool := decide (1 ≤ w.length) && decide ((w.length : Int) ≤ most) && (w.cps.toList.all fun c => decide (c ∈ digS.cps.toList)) && (decide (w = "0") || !decide (w.cps.toList[0]? = some 48))
def badW (p : Nat) (w : Str) : Bool := decide (400 ≤ p) || (!decB w 400 || decide (w = "0"))
def firstBad : List Str → Nat → Option Nat
  | [], _ => none
  | w :: ws, p => if badW p w = true then some p else firstBad ws (p + 1)
theorem firstBad_none : ∀ {ws : List Str} {p : Nat}, (∀ k w, ws[k]? = some w → badW (p + k) w = false) → firstBad ws p = none
  | [], _, _ => rfl
  | w :: ws, p, h => by
    have h0 := h 0 w rfl
    unfold firstBad
    rw [if_neg (by rw [show p = p + 0 from rfl, h0]; decide)]
    exact firstBad_none fun k x hk => by
      have := h (k + 1) x hk
      rw [show p + 1 + k = p + (k + 1) by omega]
      exact this
theorem firstBad_at : ∀ {ws : List Str} {p k : Nat} {w : Str}, ws[k]? = some w → badW (p + k) w = true → (∀ j, j < k → ∀ x, ws[j]? = some x → badW (p + j) x = false) → firstBad ws p = some (p + k)
  | [], _, _, _, h, _, _ => by cases h
  | y :: ws, p, 0, w, h, hb, _ => by
    cases h
    unfold firstBad
    rw [if_pos (show badW p y = true from hb)]
    rfl
  | y :: ws, p, k + 1, w, h, hb, hp => by
    have h0 := hp 0 (Nat.succ_pos _) y rfl
    unfold firstBad
    rw [if_neg (by rw [show p = p + 0 from rfl, h0]; decide)]
    rw [show p + (k + 1) = p + 1 + k by omega] at hb ⊢
    refine firstBad_at (by simpa using h) hb fun j hj x hx => ?_
    have := hp (j + 1) (by omega) x (by simpa using hx)
    rw [show p + 1 + j = p + (j + 1) by omega]
    exact this
theorem firstBad_ok : ∀ {ws : List Str} {p : Nat}, firstBad ws p = none → ∀ w ∈ ws, ∃ q, badW q w = false
  | w :: ws, p, h, x, hx => by
    unfold firstBad at h
    by_cases hb : badW p w = true
    · rw [if_pos hb] at h; cases h
    · rw [if_neg hb] at h
      rcases List.mem_cons.mp hx with rfl | hx
      · exact ⟨p, by cases z : badW p x with | true => exact absurd z hb | false => rfl⟩
      · exact firstBad_ok h x hx
theorem good_dec {q : Nat} {w : Str} (h : badW q w = false) : decB w 400 = true ∧ w ≠ "0" ∧ q < 400 := by
  unfold badW at h
  obtain ⟨h1, h2⟩ := Bool.or_eq_false_iff.mp h
  obtain ⟨h3, h4⟩ := Bool.or_eq_false_iff.mp h2
  exact ⟨by simpa using h3, of_decide_eq_false h4, by have := of_decide_eq_false h1; omega⟩
theorem dec_int {w : Str} (h : decB w 400 = true) : (∃ n : Nat, PySem.intText? w = some (n : Int)) ∧ w.length ≤ 400 := by
  unfold decB at h
  obtain ⟨h1, h2⟩ := Bool.and_eq_true_iff.mp h
  obtain ⟨h3, h4⟩ := Bool.and_eq_true_iff.mp h1
  obtain ⟨h5, h6⟩ := Bool.and_eq_true_iff.mp h3
  have l1 := of_decide_eq_true h5
  have l2 := of_decide_eq_true h6
  have hd : NumText.AllDigits w.cps.toList := fun c hc => dig_iff.mp (of_decide_eq_true (List.all_eq_true.mp h4 c hc))
  refine ⟨⟨_, intText_digits hd (fun z => ?_) (by omega)⟩, by omega⟩
  have : w.length = w.cps.toList.length := rfl
  rw [z] at this
  simp at this
  omega
section
variable {P : Program} {w : World} {K : PySem.W.Frag} {mg : Str → Option Value} {base : Heap}
def R_is_text : List PyData → PyData → Prop := fun ds r => ∃ (c : CodeD) (d : PyData), ds = [c.d, d] ∧ (∀ t, d = .str t → t.cps.size ≤ 10000) ∧ r = .bool (isTextD c d)
theorem F_is_text (T : Tx K mg) : Fd P w K mg base CX0 2 "is_text" (PSp K R_is_text) [] := by
  obtain ⟨fd, F⟩ := T.f_is_text
  refine ⟨_, fd, ["code", "value"], [], T.g_is_text, F.kp, F.bindsN fun _ _ _ _ _ _ us hl => match us, hl with | [_, _], _ => rfl, .nil, ?_⟩
  refine fnG_of F sc_is_text (fun vs H Q E h => PSp.len (n := 2) (by rintro _ _ ⟨d, e, rfl, _⟩; rfl) h) (fun cdv A outer s H vs Q E hg hr h => ?_)
  obtain ⟨G, M, ds, r, hA, hR, ⟨c, d, rfl, hz, rfl⟩, q⟩ := h
  obtain ⟨v0, _, rfl, r0, v1, _, rfl, r1, rfl⟩ := hR
  refine ⟨_, PSs.nox (pss_one (ps_ret (pe_and (pe_callB call_isi (by rfl) T.n_isinstance (by decide +kernel) (pa_cons (pv 1) (pa_cons (pe_bltn (v := .ty "str") (u := .type "str") (by rfl) T.n_str (by decide +kernel) rfl) pa_nil))) (pe_one (pe_callB (cr_all rfl) (by rfl) T.n_all (by decide +kernel) (pa_cons (pe_lc (own := [("name", 2)]) (g := gName 2) (by rfl) sc_is_text.nd (pi_str (pv 1)) (blkOk_by (own := [("name", 2)]) (N := ["code", "value", "name"]) (sc := defScope s_is_text) (by decide +kernel)) (fun _ _ _ _ _ => (pg_name (i := 2) sc_is_text.nd rfl (by first | exact Or.inl rfl | exact Or.inr rfl))) (fun _ _ _ _ _ => pts_nil) (fun _ _ _ _ _ => (pe_cmp (pc_din (hu_of hr) (pv 2) (pe_ix (show IxR _ (rIxT K) from ix_tup) (pv 0) pe_int (fun _ _ => rfl))) (by rfl)))) pa_nil)))))), ?_⟩
  rw [show L2.start ["code", "value", "name"] [v0, v1] = [some v0, some v1, none] from rfl]
  dsimp only [xK]
  refine s_ret (d := .bool (isTextD c d)) ?_ hA q
  by_cases hd : ∃ t, d = .str t
  · obtain ⟨t, rfl⟩ := hd
    refine v_andT (TrD.to (d_isi (n := "str") (d_var rfl r1)) rfl) (TrD.to (d_cb (a_cons (TrD.to (d_lcS (p := fun _ => true) (f := fun x => .bool (decide (x ∈ c.cs.map (·.1)))) (d_var rfl r1) (by have := hz t rfl; omega) (fun _ _ _ _ => b_yes) fun x hx _ G1 e1 => ?_) (d2 := .list (((chrs t).map fun x => decide (x ∈ c.cs.map (·.1))).map .bool)) (by rw [filt_true, List.map_map]; rfl)) a_nil) rc_all) ?_)
    · refine TrD.to (v_din (K := K) (kvs := chD c.cs) (x := x) (d_var rfl (d := .str x) rfl) (d_op (d_var rfl (r0.up e1)) d_int (rd_ixT rfl))) ?_
      rw [look_some, chD_keys]
    · rw [all_map]
      rfl
  · have e : isTextD c d = false := by cases d <;> first | rfl | exact absurd ⟨_, rfl⟩ hd
    rw [e]
    exact v_andF (TrD.to (d_isi (n := "str") (d_var rfl r1)) (by cases d <;> first | rfl | exact absurd ⟨_, rfl⟩ hd))
def R_require_text : List PyData → PyData → Prop := fun ds r => ∃ (c : CodeD) (t : Str), ds = [c.d, .str t] ∧ t.cps.size ≤ 10000 ∧ isTextD c (.str t) = true ∧ r = .none
theorem F_require_text (T : Tx K mg) : Fd P w K mg base CX0 3 "require_text" (PSp K R_require_text) [] := by
  obtain ⟨fd, F⟩ := T.f_require_text
  refine ⟨_, fd, ["code", "value"], [], T.g_require_text, F.kp, F.bindsN fun _ _ _ _ _ _ us hl => match us, hl with | [_, _], _ => rfl, .nil, ?_⟩
  refine fnG_of F sc_require_text (fun vs H Q E h => PSp.len (n := 2) (by rintro _ _ ⟨d, e, rfl, _⟩; rfl) h) (fun cdv A outer s H vs Q E hg hr h => ?_)
  obtain ⟨G, M, ds, r, hA, hR, ⟨c, t, rfl, hz, ht, rfl⟩, q⟩ := h
  obtain ⟨v0, _, rfl, r0, v1, _, rfl, r1, rfl⟩ := hR
  refine ⟨_, PSs.nox (pss_one (ps_if (pt_not (pt_val (pe_fd (F_is_text (P := P) (w := w) (base := base) T) hg (hr.mono (by decide)) pass0 (pa_cons (pv 0) (pa_cons (pv 1) pa_nil))))) (pss_one ps_never) pss_nil)), ?_⟩
  rw [show L2.start ["code", "value"] [v0, v1] = [some v0, some v1] from rfl]
  dsimp only [xK]
  refine s_ifF (TrB.to (b_not (b_B (d_call0 (a_cons (d_var rfl r0) (a_cons (d_var rfl r1) a_nil)) ⟨c, .str t, rfl, fun u hu => by cases hu; exact hz, rfl⟩))) (by rw [ht]; rfl)) hA fun G1 H1 e1 A1 => ?_
  exact s_next (q _ _ _ e1 A1 rfl)
def fScan (d : PyData) : List PyData := match d with
  | .list xs => if 1 ≤ xs.length ∧ xs.length ≤ 400 then ((xs.zipIdx.filter fun q => !isIntD q.1 (some 1) none).map fun q => PyData.int (q.2 : Int)).take 1 else [.none]
  | _ => [.none]
def R_fault_of_scan : List PyData → PyData → Prop := fun ds r => ∃ d, ds = [d] ∧ (∀ xs, d = .list xs → xs.length ≤ 10000) ∧ r = .list (fScan d)
theorem F_fault_of_scan (T : Tx K mg) : Fd P w K mg base CX0 2 "fault_of_scan" (PSp K R_fault_of_scan) [] := by
  obtain ⟨fd, F⟩ := T.f_fault_of_scan
  refine ⟨_, fd, ["value"], [], T.g_fault_of_scan, F.kp, F.bindsN fun _ _ _ _ _ _ us hl => match us, hl with | [_], _ => rfl, .nil, ?_⟩
  refine fnG_of F sc_fault_of_scan (fun vs H Q E h => PSp.len (n := 1) (by rintro _ _ ⟨d, rfl, _⟩; rfl) h) (fun cdv A outer s H vs Q E hg hr h => ?_)
  obtain ⟨G, M, ds, r, hA, hR, ⟨d, rfl, hz, rfl⟩, q⟩ := h
  obtain ⟨v0, _, rfl, r0, rfl⟩ := hR
  refine ⟨_, PSs.nox (pss_cons (ps_if (PW.pt (pw_or (pt_not (pt_val (pe_callB call_isi (by rfl) T.n_isinstance (by decide +kernel) (pa_cons (pv 0) (pa_cons (pe_bltn (v := .ty "list") (u := .type "list") (by rfl) T.n_list (by decide +kernel) rfl) pa_nil))))) (pw_or1 (pt_not (pt_chain op_le op_le pe_int (pe_callB call_len' (by rfl) T.n_len (by decide +kernel) (pa_cons (pv 0) pa_nil)) (pe_glob (v := .int 400) (by rfl) T.c_MOST_DURATIONS.choose_spec ⟨_, rfl⟩)))))) (pss_one (ps_ret (pe_lst (pa_cons pe_non pa_nil)))) pss_nil)
    (pss_one (ps_ret (pe_slice sl_list (pe_lc (own := [("index", 1), ("item", 2)]) (g := gTup K 2 (gCons (gName 1) (gCons (gName 2) gNil))) (by rfl) sc_fault_of_scan.nd (pi_enum (by rfl) T.n_enumerate (pa_cons (pv 0) pa_nil)) (blkOk_by (own := [("index", 1), ("item", 2)]) (N := ["value", "index", "item"]) (sc := defScope s_fault_of_scan) (by decide +kernel)) (fun _ _ _ _ _ => (pg_tup (by rfl) (pgs_cons (pg_name (i := 1) sc_fault_of_scan.nd rfl (by first | exact Or.inl rfl | exact Or.inr rfl)) (pgs_cons (pg_name (i := 2) sc_fault_of_scan.nd rfl (by first | exact Or.inl rfl | exact Or.inr rfl)) pgs_nil)))) (fun _ _ _ _ _ => (pts_one (pt_not (pt_val (pe_fd (F_is_integer2 (P := P) (w := w) (base := base) T) hg (hr.mono (by decide)) pass0 (pa_cons (pv 2) (pa_cons pe_int pa_nil))))))) (fun _ _ _ _ _ => (pv 1))) po_none (po_some pe_int))))), ?_⟩
  rw [show L2.start ["value", "index", "item"] [v0] = [some v0, none, none] from rfl]
  dsimp only [xK]
  by_cases hd : ∃ xs, d = .list xs
  · obtain ⟨xs, rfl⟩ := hd
    have hxs := hz xs rfl
    have ht : TrB _ [some v0, none, none] G (!isA "list" (.list xs) || !(decide ((1 : Int) ≤ (xs.length : Int)) && decide ((xs.length : Int) ≤ 400))) :=
      b_or (b_not (b_B (d_isi (d_var (i := 0) rfl r0)))) fun _ => b_not (b_T (d_chain d_int (d_cb (a_cons (d_var (i := 0) rfl r0) a_nil) (rc_lenL (K := K))) rd_le (fun _ => d_int) fun _ => rd_le))
    by_cases hl : 1 ≤ xs.length ∧ xs.length ≤ 400
    · refine q_guardF (TrB.to ht ?_) hA fun G1 H1 e1 A1 => ?_
      · rw [decide_eq_true (by omega), decide_eq_true (by omega)]; rfl
      refine s_ret (d := .list (fScan (.list xs))) (TrD.to (d_slL (d_lcE (p := fun _ x => !isIntD x (some 1) none) (f := fun k _ => .int (k : Int)) (by decide) (d_var rfl (r0.up e1)) (by omega) rfl (fun k d hk x G2 e2 rx => ?_) fun k d hk hp x G2 e2 rx => ?_) o_none (o_some (K := K) d_int)) ?_) A1 (q.mono e1)
      · exact b_not (b_B (d_call (a_cons (d_var rfl rx) (a_cons d_int a_nil)) (es := [.none]) ⟨.non, [], rfl, rfl, rfl⟩ ⟨d, some 1, none, rfl, rfl⟩))
      · exact d_var rfl (d := .int (k : Int)) rfl
      · unfold fScan
        simp only [if_pos hl]
        congr 1
        generalize (xs.zipIdx.filter fun q => !isIntD q.1 (some 1) none).map (fun q => PyData.int (q.2 : Int)) = ys
        unfold Sb.cutD
        cases ys with
        | nil => rfl
        | cons y ys =>
          have e : HT.sIx (y :: ys).length (y :: ys).length (some 1) = 1 := by
            have := HT.sIx_nat (y :: ys).length (y :: ys).length 1
            rw [List.length_cons] at this ⊢
            rw [show ((1 : Nat) : Int) = 1 from rfl] at this
            rw [this]
            omega
          rw [e, HT.sIx_none, List.drop_zero, Nat.sub_zero]
    · have e : fScan (.list xs) = [.none] := if_neg hl
      rw [e] at q
      refine q_guardR (TrB.to ht ?_) hA fun G1 H1 e1 A1 => s_ret (d_lst (a_cons d_non a_nil)) A1 (q.mono e1)
      have : (decide ((1 : Int) ≤ (xs.length : Int)) && decide ((xs.length : Int) ≤ 400)) = false := by
        by_cases h1 : 1 ≤ xs.length
        · rw [decide_eq_false (show ¬ ((xs.length : Int) ≤ 400) by omega), Bool.and_false]
        · rw [decide_eq_false (show ¬ ((1 : Int) ≤ (xs.length : Int)) by omega), Bool.false_and]
      rw [this]
      rfl
  · have e : fScan d = [.none] := by cases d <;> first | rfl | exact absurd ⟨_, rfl⟩ hd
    rw [e] at q
    refine q_guardR (b_orT (TrB.to (b_not (b_B (d_isi (n := "list") (d_var rfl r0)))) ?_)) hA fun G1 H1 e1 A1 => s_ret (d_lst (a_cons d_non a_nil)) A1 (q.mono e1)
    cases d <;> first | rfl | exact absurd ⟨_, rfl⟩ hd
def okScan (ns : List Int) : Prop := 1 ≤ ns.length ∧ ns.length ≤ 400 ∧ ∀ n ∈ ns, 1 ≤ n ∧ n.natAbs.log2 < 1900
theorem fScan_ok {ns : List Int} (h : okScan ns) : fScan (.list (dInts ns)) = [] := by
  unfold fScan
  simp only
  rw [if_pos ⟨by rw [dInts_len]; exact h.1, by rw [dInts_len]; exact h.2.1⟩]
  have e : ((dInts ns).zipIdx.filter fun q => !isIntD q.1 (some 1) none) = [] := by
    rw [List.filter_eq_nil_iff]
    rintro ⟨d, k⟩ hq
    have hd : d ∈ dInts ns := by
      have := List.mem_zipIdx hq
      rw [this.2.2]
      exact List.getElem_mem _
    obtain ⟨n, hn, rfl⟩ := mem_ints hd
    show ¬ (!(decide (1 ≤ n) && true)) = true
    rw [decide_eq_true (h.2.2 n hn).1]
    decide
  rw [e]
  rfl
def R_require_scan : List PyData → PyData → Prop := fun ds r => ∃ ns, ds = [.list (dInts ns)] ∧ okScan ns ∧ r = .none
theorem F_require_scan (T : Tx K mg) : Fd P w K mg base CX0 3 "require_scan" (PSp K R_require_scan) [] := by
  obtain ⟨fd, F⟩ := T.f_require_scan
  refine ⟨_, fd, ["value"], [], T.g_require_scan, F.kp, F.bindsN fun _ _ _ _ _ _ us hl => match us, hl with | [_], _ => rfl, .nil, ?_⟩
  refine fnG_of F sc_require_scan (fun vs H Q E h => PSp.len (n := 1) (by rintro _ _ ⟨d, rfl, _⟩; rfl) h) (fun cdv A outer s H vs Q E hg hr h => ?_)
  obtain ⟨G, M, ds, r, hA, hR, ⟨ns, rfl, ok, rfl⟩, q⟩ := h
  obtain ⟨v0, _, rfl, r0, rfl⟩ := hR
  refine ⟨_, PSs.nox (pss_cons (ps_set (i := 1) sc_require_scan.nd rfl (by first | exact Or.inl rfl | exact Or.inr rfl) (pe_fd (F_fault_of_scan (P := P) (w := w) (base := base) T) hg (hr.mono (by decide)) pass0 (pa_cons (pv 0) pa_nil)))
    (pss_one (ps_if (pt_cmpR (op_neR hr.units) (pv 1) (pe_lst pa_nil) (nomark _)) (pss_one ps_never) pss_nil))), ?_⟩
  rw [show L2.start ["value", "faults"] [v0] = [some v0, none] from rfl]
  dsimp only [xK]
  refine q_set (d_call0 (a_cons (d_var rfl r0) a_nil) ⟨_, rfl, fun xs hx => by cases hx; rw [dInts_len]; have := ok.2.1; omega, rfl⟩) hA fun v1 G1 H1 e1 A1 r1 => ?_
  rw [fScan_ok ok] at r1
  refine s_ifF (TrB.to (b_T (d_op (d_var rfl r1) (d_lst a_nil) (rd_neR rfl rfl))) (by rw [eqv_nil]; rfl)) A1 fun G2 H2 e2 A2 => s_next (q _ _ _ (e1.trans e2) A2 rfl)
def R_is_decimal : List PyData → PyData → Prop := fun ds r => ∃ (x : Str) (most : Int), ds = [.str x, .int most] ∧ x.length ≤ 90000 ∧ r = .bool (decB x most)
theorem F_is_decimal1 (T : Tx K mg) : Fd P w K mg base CX0 1 "is_decimal" (PSp K R_is_decimal) [.int 400] := by
  obtain ⟨fd, F⟩ := T.f_is_decimal
  obtain ⟨ds, hv, hb⟩ := F.binds1 (ps := ["word", "most"]) 1 0 (by intro z; cases z) rfl fun _ _ _ _ _ _ _ us its h1 h2 => match us, its, h1, h2 with | [_], [_], _, _ => ⟨_, rfl, rfl⟩
  refine ⟨_, fd, ["word", "most"], ds, T.g_is_decimal, F.kp, hb, hv, ?_⟩
  refine fnG_of F sc_is_decimal (fun vs H Q E h => PSp.len (n := 2) (by rintro _ _ ⟨d, e, rfl, _⟩; rfl) h) (fun cdv A outer s H vs Q E hg hr h => ?_)
  obtain ⟨G, M, ds, r, hA, hR, ⟨x, most, rfl, hx, rfl⟩, q⟩ := h
  obtain ⟨v0, _, rfl, r0, v1, _, rfl, r1, rfl⟩ := hR
  refine ⟨_, PSs.nox (pss_cons (ps_if (PW.pt (pw_or (pt_not (pt_chain op_le op_le pe_int (pe_callB call_len' (by rfl) T.n_len (by decide +kernel) (pa_cons (pv 0) pa_nil)) (pv 1))) (pw_or1 (pt_not (pt_val (pe_callB (cr_all rfl) (by rfl) T.n_all (by decide +kernel) (pa_cons (pe_lc (own := [("sign", 2)]) (g := gName 2) (by rfl) sc_is_decimal.nd (pi_str (pv 0)) (blkOk_by (own := [("sign", 2)]) (N := ["word", "most", "sign"]) (sc := defScope s_is_decimal) (by decide +kernel)) (fun _ _ _ _ _ => (pg_name (i := 2) sc_is_decimal.nd rfl (by first | exact Or.inl rfl | exact Or.inr rfl))) (fun _ _ _ _ _ => pts_nil) (fun _ _ _ _ _ => (pe_cmpR op_in_sign (pv 2) pe_str (by rfl)))) pa_nil))))))) (pss_one (ps_ret pe_bl)) pss_nil)
    (pss_one (ps_ret (pe_or (pe_cmpR op_eq (pv 0) pe_str (nomark _)) (pe_one (pe_cmpR op_ne (pe_ix ix_str (pv 0) pe_int (fun _ _ => rfl)) pe_str (nomark _))))))), ?_⟩
  rw [show L2.start ["word", "most", "sign"] [v0, v1] = [some v0, some v1, none] from rfl]
  dsimp only [xK]
  have hall : TrD K (tCB (rAll K) (tCons (tLc (iStr (tVar 0)) (gName 2) tYes (tOp (fun x y H Q => ∃ c z, x = V.str { cps := #[c] } ∧ y = V.str z ∧ Q (V.bl (decide (c ∈ z.cps.toList))) H) (tVar 2) (tC (V.str (Str.ofString "0123456789")))) [2]) tNil)) [some v0, some v1, none] G (.bool (x.cps.toList.all fun c => decide (c ∈ digS.cps.toList))) := by
    refine TrD.to (d_cb (a_cons (TrD.to (d_lcS (p := fun _ => true) (f := fun y => .bool (y.cps.toList.all fun c => decide (c ∈ digS.cps.toList))) (d_var rfl r0) (by have : x.length = x.cps.size := rfl; omega) (fun _ _ _ _ => b_yes) fun y hy _ G1 e1 => ?_) (d2 := .list ((x.cps.toList.map fun c => decide (c ∈ digS.cps.toList)).map .bool)) ?_) a_nil) rc_all) (by rw [all_map])
    · obtain ⟨c, hc, rfl⟩ := List.mem_map.mp hy
      refine TrD.to (d_op (d_var (K := K) rfl (d := .str ⟨#[c]⟩) rfl) d_str rd_inSign) ?_
      show PyData.bool _ = .bool ([c].all _)
      rw [List.all_cons, List.all_nil, Bool.and_true]
      rfl
    · rw [filt_true]
      unfold chrs
      rw [List.map_map, List.map_map]
      congr 1
      refine List.map_congr_left fun c hc => ?_
      show PyData.bool ([c].all _) = _
      rw [List.all_cons, List.all_nil, Bool.and_true]
      rfl
  have ht : TrB _ [some v0, some v1, none] G (!(decide ((1 : Int) ≤ (x.length : Int)) && decide ((x.length : Int) ≤ most)) || !(x.cps.toList.all fun c => decide (c ∈ digS.cps.toList))) :=
    b_or (b_not (b_T (d_chain d_int (d_cb (a_cons (d_var (i := 0) rfl r0) a_nil) (rc_lenS (K := K) (sz_of (by omega)))) rd_le (fun _ => d_var (i := 1) rfl r1) fun _ => rd_le))) fun _ => b_not (b_B hall)
  have e1' : decide ((1 : Int) ≤ (x.length : Int)) = decide (1 ≤ x.length) := by
    by_cases h : 1 ≤ x.length
    · rw [decide_eq_true h, decide_eq_true (by omega)]
    · rw [decide_eq_false h, decide_eq_false (by omega)]
  rw [e1'] at ht
  by_cases hb : (decide (1 ≤ x.length) && decide ((x.length : Int) ≤ most) && (x.cps.toList.all fun c => decide (c ∈ digS.cps.toList))) = true
  · refine q_guardF (TrB.to ht ?_) hA fun G1 H1 e1 A1 => ?_
    · obtain ⟨h1, h2⟩ := Bool.and_eq_true_iff.mp hb
      rw [h1, h2]
      rfl
    have hlen : 0 < x.cps.toList.length := by
      have := of_decide_eq_true (Bool.and_eq_true_iff.mp (Bool.and_eq_true_iff.mp hb).1).1
      exact this
    have hc0 : x.cps.toList[0]? = some x.cps.toList[0] := List.getElem?_eq_getElem hlen
    have hat : L2.atI x.cps.toList 0 = some x.cps.toList[0] := by
      unfold L2.atI
      have h : ixN x.cps.toList.length 0 = some 0 := by
        unfold ixN
        rw [if_pos (Int.le_refl 0), if_pos (by omega)]
        rfl
      rw [h]
      exact hc0
    refine s_ret (d := .bool (decB x most)) (TrD.to (v_or (d_op (d_var rfl (r0.up e1)) d_str rd_eqS) fun _ => d_op (d_op (d_var rfl (r0.up e1)) d_int (rd_ixS (sz_of (by omega)) hat)) d_str rd_neS) ?_) A1 (q.mono e1)
    unfold decB
    rw [hb, Bool.true_and, hc0]
    congr 2
    have : ∀ c : Nat, decide ((⟨#[c]⟩ : Str) = "0") = decide (some c = some 48) := fun c => by
      by_cases h : c = 48
      · subst h
        decide
      · have h2 : (⟨#[c]⟩ : Str) ≠ "0" := fun z => h (by
          have := congrArg (fun s : Str => s.cps.toList) z
          have h3 : ("0" : Str).cps.toList = [48] := by decide +kernel
          rw [h3] at this
          simpa using this)
        rw [decide_eq_false h2, decide_eq_false (by simpa using h)]
    rw [this]
  · have e : decB x most = false := by
      unfold decB
      cases z : (decide (1 ≤ x.length) && decide ((x.length : Int) ≤ most) && (x.cps.toList.all fun c => decide (c ∈ digS.cps.toList))) with
      | true => exact absurd z hb
      | false => rfl
    rw [e] at q
    refine q_guardR (TrB.to ht ?_) hA fun G1 H1 e1 A1 => s_ret d_bl A1 (q.mono e1)
    cases z1 : (decide (1 ≤ x.length) && decide ((x.length : Int) ≤ most)) with
    | false => rfl
    | true =>
      rw [z1] at hb
      cases z2 : (x.cps.toList.all fun c => decide (c ∈ digS.cps.toList)) with
      | false => rfl
      | true => rw [z2] at hb; exact absurd rfl hb
end
end K81

namespace K81
open PySem PySem.Spec PyProof.Rows L2 Sb
local macro_rules | `(tactic| walk_at "ex") => `(tactic| first | exact Ex.refl _ | assumption | (refine' Ex.trans ?_ (by assumption); walk_at "ex"))
local macro_rules | `(tactic| walk_at "rp") => `(tactic| first | assumption | (refine' Rp.up ?e (by assumption); (case e => walk_at "ex")) | exact rfl)
local macro_rules | `(tactic| walk_at "rd") => `(tactic| with_reducible first | exact rd_add | exact rd_sub | exact rd_lt | exact rd_le | exact rd_gt | exact rd_ge | exact rd_eqI | exact rd_neI | exact rd_eqS | exact rd_neS | exact rd_isN | exact rd_ltS | exact rd_inSign | exact rd_eqE)
local macro_rules | `(tactic| walk_at "tr") => `(tactic| first
  | with_reducible exact d_int
  | with_reducible exact d_str
  | with_reducible exact d_bl
  | with_reducible exact d_non
  | with_reducible exact a_nil
  | with_reducible exact b_yes
  | with_reducible exact o_none
  | with_reducible exact d_newD
  | ((with_reducible refine' d_var ?i ?r); (case i => rfl); (case r => walk_at "rp"))
  | ((with_reducible refine' a_cons ?a ?b); (case a => walk_at "tr"); (case b => walk_at "tr"))
  | ((with_reducible refine' a_star ?a ?b); (case a => walk_at "tr"); (case b => walk_at "tr"))
  | ((with_reducible refine' d_isi ?a ?b); (case a => walk_at "tr"); (case b => decide))
  | ((with_reducible refine' d_op ?a ?b ?c); (case a => walk_at "tr"); (case b => walk_at "tr"); (case c => walk_at "rd"))
  | ((with_reducible refine' d_tup ?a ?b); (case a => walk_at "tr"); (case b => first | decide | (simp; done)))
  | ((with_reducible refine' d_lst ?a ?b); (case a => walk_at "tr"); (case b => first | decide | (simp; done)))
  | ((with_reducible refine' o_some ?a); (case a => walk_at "tr"))
  | ((with_reducible refine' b_B ?a); (case a => walk_at "tr"))
  | ((with_reducible refine' b_T ?a); (case a => walk_at "tr"))
  | ((with_reducible refine' b_not ?a); (case a => walk_at "tr"))
  | ((with_reducible refine' v_not ?a); (case a => walk_at "tr"))
  | ((with_reducible refine' b_or ?a ?b); (case a => walk_at "tr"); (case b => intro _; walk_at "tr"))
  | ((with_reducible refine' b_and ?a ?b); (case a => walk_at "tr"); (case b => intro _; walk_at "tr"))
  | ((with_reducible refine' v_or ?a ?b); (case a => walk_at "tr"); (case b => intro _; walk_at "tr"))
  | ((with_reducible refine' v_and ?a ?b); (case a => walk_at "tr"); (case b => intro _; walk_at "tr"))
  | assumption)


def rowK (c : CodeD) (t : Str) (k : Nat) : List Int := c.st ++ c.bt ++ (((chrs t).take k).flatMap fun x => wsOf c.cs x ++ c.bt)
theorem rowK_len {c : CodeD} (ok : c.ok) {t : Str} (ht : isTextD c (.str t) = true) : ∀ k, (rowK c t k).length ≤ 8 + k * 8 := by
  intro k
  have h : ∀ l : List Str, (∀ x ∈ l, x ∈ c.cs.map (·.1)) → (l.flatMap fun x => wsOf c.cs x ++ c.bt).length ≤ l.length * 8 := fun l => by
    induction l with
    | nil => intro _; exact Nat.le_refl _
    | cons x l ih =>
      intro hl
      have z := (wsOf_of ok (hl x (List.mem_cons_self ..))).2.1
      have h1 := z.2.1
      have h2 := ok.bt.2.1
      have h3 := ih fun y hy => hl y (List.mem_cons_of_mem _ hy)
      rw [List.flatMap_cons, List.length_append, List.length_append, List.length_cons]
      omega
  have hin : ∀ x ∈ (chrs t).take k, x ∈ c.cs.map (·.1) := fun x hx => of_decide_eq_true (List.all_eq_true.mp ht x (List.mem_of_mem_take hx))
  have h1 := h _ hin
  have h2 := ok.st.2.1
  have h3 := ok.bt.2.1
  have h4 : ((chrs t).take k).length ≤ k := by rw [List.length_take]; exact Nat.min_le_left _ _
  unfold rowK
  rw [List.length_append, List.length_append]
  have : ((chrs t).take k).length * 8 ≤ k * 8 := Nat.mul_le_mul_right _ h4
  omega
theorem rowK_succ {c : CodeD} {t x : Str} {k : Nat} (h : (chrs t)[k]? = some x) : rowK c t (k + 1) = rowK c t k ++ wsOf c.cs x ++ c.bt := by
  unfold rowK
  rw [List.take_add_one, h]
  show _ ++ (((chrs t).take k ++ [x]).flatMap _) = _
  rw [List.flatMap_append, List.flatMap_cons, List.flatMap_nil, List.append_nil]
  simp only [List.append_assoc]
theorem rowK_all (c : CodeD) (t : Str) : rowK c t (chrs t).length ++ c.sp = rowL c t := by
  unfold rowK rowL
  rw [List.take_length]
theorem dInts_app (a b : List Int) : dInts (a ++ b) = dInts a ++ dInts b := List.map_append ..
theorem in_text {c : CodeD} {t x : Str} {k : Nat} (ht : isTextD c (.str t) = true) (h : (chrs t)[k]? = some x) : x ∈ c.cs.map (·.1) := of_decide_eq_true (List.all_eq_true.mp ht x (List.mem_of_getElem? h))
def faultL (t : Str) : List PyData := match firstBad (Txt.split t " ") 0 with
  | some p => [.int 0, .int (p : Int)]
  | none => []
def parseO (d : PyData) : Out := match d with
  | .str t => (match firstBad (Txt.split t " ") 0 with
    | some p => .exc "InvalidSyntax" [("line", .int 0), ("word", .int (p : Int))]
    | none => .val (.list ((dStrs (Txt.split t " ")).map intD)))
  | _ => .exc "InvalidSyntax" [("line", .none), ("word", .none)]
def toldD (d : PyData) : List PyData := match d with
  | .str t => faultL t
  | _ => [.none, .none]
section
variable {P : Program} {w : World} {K : PySem.W.Frag} {mg : Str → Option Value} {base : Heap}
def R_row_by : List PyData → PyData → Prop := fun ds r => ∃ (c : CodeD) (t : Str), ds = [c.d, .str t] ∧ c.ok ∧ t.cps.size ≤ 1000 ∧ isTextD c (.str t) = true ∧ r = .list (dInts (rowL c t))
theorem F_row_by (T : Tx K mg) : Fd P w K mg base CX0 1 "row_by" (PSp K R_row_by) [] := by
  obtain ⟨fd, F⟩ := T.f_row_by
  refine ⟨_, fd, ["code", "text"], [], T.g_row_by, F.kp, F.bindsN fun _ _ _ _ _ _ us hl => match us, hl with | [_, _], _ => rfl, .nil, ?_⟩
  refine fnG_of F sc_row_by (fun vs H Q E h => PSp.len (n := 2) (by rintro _ _ ⟨d, e, rfl, _⟩; rfl) h) (fun cdv A outer s H vs Q E hg hr h => ?_)
  obtain ⟨G, M, ds, r, hA, hR, ⟨c, t, rfl, ok, hz, ht, rfl⟩, q⟩ := h
  obtain ⟨v0, _, rfl, r0, v1, _, rfl, r1, rfl⟩ := hR
  refine ⟨_, PSs.nox (pss_cons (ps_asg (pv 0) (pg_tup (by rfl) (pgs_cons (pg_name (i := 2) sc_row_by.nd rfl (by first | exact Or.inl rfl | exact Or.inr rfl)) (pgs_cons (pg_name (i := 3) sc_row_by.nd rfl (by first | exact Or.inl rfl | exact Or.inr rfl)) (pgs_cons (pg_name (i := 4) sc_row_by.nd rfl (by first | exact Or.inl rfl | exact Or.inr rfl)) (pgs_cons (pg_name (i := 5) sc_row_by.nd rfl (by first | exact Or.inl rfl | exact Or.inr rfl)) pgs_nil))))))
    (pss_cons (ps_set (i := 6) sc_row_by.nd rfl (by first | exact Or.inl rfl | exact Or.inr rfl) (pe_op op_cat (pe_callTy call_listOf (by rfl) T.n_list (by decide +kernel) (pa_cons (pv 2) pa_nil)) (pe_callTy call_listOf (by rfl) T.n_list (by decide +kernel) (pa_cons (pv 4) pa_nil))))
    (pss_cons (ps_for PassesOwn.never rfl (pi_str (pv 1)) (pg_name (i := 7) sc_row_by.nd rfl (by first | exact Or.inl rfl | exact Or.inr rfl)) (pss_cons (ps_expr (pe_bm PySem.F.plainAttrs_list PySem.F.slot_list_extend PySem.F.type_list_extend mt_extT (pv 6) (pa_cons (pe_dget (hu_of hr) (pv 3) (pv 7) (fun _ _ => rfl)) pa_nil))) (pss_one (ps_expr (pe_bm PySem.F.plainAttrs_list PySem.F.slot_list_extend PySem.F.type_list_extend mt_extT (pv 6) (pa_cons (pv 4) pa_nil))))))
    (pss_one (ps_ret (pe_op op_cat (pv 6) (pe_callTy call_listOf (by rfl) T.n_list (by decide +kernel) (pa_cons (pv 5) pa_nil)))))))), ?_⟩
  rw [show L2.start ["code", "text", "start", "characters", "between", "stop", "found", "name"] [v0, v1] = [some v0, some v1, none, none, none, none, none, none] from rfl]
  dsimp only [xK]
  have l1 := ok.st.2.1
  have l2 := ok.bt.2.1
  have l3 := ok.sp.2.1
  have hcl : (chrs t).length ≤ 1000 := by rw [chrs_len]; exact hz
  refine q_unpack (d_var rfl r0) rfl hA ?_
  rintro _ G1 H1 e1 A1 ⟨v2, _, rfl, r2, v3, _, rfl, r3, v4, _, rfl, r4, v5, _, rfl, r5, rfl⟩
  refine ⟨v2, _, rfl, v3, _, rfl, v4, _, rfl, v5, _, rfl, rfl, ?_⟩
  refine q_newCat (d_cb (a_cons (d_var rfl r2) a_nil) rc_listT) (d_cb (a_cons (d_var rfl r4) a_nil) rc_listT) (by rw [dInts_len, dInts_len]; omega) A1 fun p xs G2 H2 e2 pM pG A2 rx => ?_
  refine s_seq (s_forSI (fun k σ G' M' => ∃ ys x7, σ = [some v0, some v1, some v2, some v3, some v4, some v5, some (.ref p), x7] ∧ M' = upd M p (.lst ys) ∧ RpL K G' (dInts (rowK c t k)) ys) (d_var rfl (r1.up (e1.trans e2))) A2 ?_ ⟨xs, none, rfl, rfl, ?_⟩ (fun k x hk σ1 G3 M1 H3 e3 A3 hI Nx hN => ?_) fun σ1 G3 M1 H3 e3 A3 hI => ?_)
  · rintro k σ1 Ga Gb M1 e ⟨ys, x7, h1, h2, h3⟩
    exact ⟨ys, x7, h1, h2, h3.up e⟩
  · rw [← dInts_app] at rx
    unfold rowK
    rw [List.take_zero, List.flatMap_nil, List.append_nil]
    exact rx
  · obtain ⟨ys, x7, rfl, rfl, ry⟩ := hI
    have hkl : k < (chrs t).length := (List.getElem?_eq_some_iff.mp hk).1
    have z := wsOf_of ok (in_text ht hk)
    have hys : ys.length ≤ 8 + k * 8 := by rw [ry.len, dInts_len]; exact rowK_len ok ht k
    have hw := z.2.1.2.1
    have r3' := r3.up (e2.trans e3)
    refine s_seq (s_extT (p := p) rfl upd_same (d_dget (d_var rfl r3') (d_var (K := K) rfl (d := .str x) rfl) z.2.2) (by rw [dInts_len]; omega) A3 fun y1 G4 H4 e4 A4 s1 => ?_)
    rw [upd_upd] at A4
    have hy1 : y1.length ≤ 6 := by rw [s1.len, dInts_len]; exact hw
    refine s_extT (p := p) rfl upd_same (d_var rfl (r4.up ((e2.trans e3).trans e4))) (by rw [dInts_len, List.length_append]; omega) A4 fun y2 G5 H5 e5 A5 s2 => ?_
    rw [upd_upd] at A5
    refine hN _ G5 _ H5 (e4.trans e5) A5 ⟨_, _, rfl, rfl, ?_⟩
    rw [rowK_succ hk, dInts_app, dInts_app]
    exact ((ry.up (e4.trans e5)).app (s1.up e5)).app s2
  · obtain ⟨ys, x7, rfl, rfl, ry⟩ := hI
    obtain ⟨G4, e4, A4, r6⟩ := At.done A3 pM ry
    have hl := rowK_len ok ht (chrs t).length
    refine s_ret (TrD.to (d_op (d_var rfl r6) (d_cb (a_cons (d_var rfl (r5.up ((e2.trans e3).trans e4))) a_nil) rc_listT) (rd_cat (by rw [dInts_len, dInts_len]; omega))) ?_) A4 (q.mono (((e1.trans e2).trans e3).trans e4))
    rw [← dInts_app, rowK_all]
theorem F__law_row_of (T : Tx K mg) : Fd P w K mg base CX0 1 "_law_row_of" (PSp K R_row_by) [] := by
  obtain ⟨fd, F⟩ := T.f__law_row_of
  refine ⟨_, fd, ["code", "text"], [], T.g__law_row_of, F.kp, F.bindsN fun _ _ _ _ _ _ us hl => match us, hl with | [_, _], _ => rfl, .nil, ?_⟩
  refine fnG_of F sc__law_row_of (fun vs H Q E h => PSp.len (n := 2) (by rintro _ _ ⟨d, e, rfl, _⟩; rfl) h) (fun cdv A outer s H vs Q E hg hr h => ?_)
  obtain ⟨G, M, ds, r, hA, hR, ⟨c, t, rfl, ok, hz, ht, rfl⟩, q⟩ := h
  obtain ⟨v0, _, rfl, r0, v1, _, rfl, r1, rfl⟩ := hR
  refine ⟨_, PSs.nox (pss_cons (ps_set (i := 2) sc__law_row_of.nd rfl (by first | exact Or.inl rfl | exact Or.inr rfl) (pe_op op_cat (pe_callTy call_listOf (by rfl) T.n_list (by decide +kernel) (pa_cons (pe_ix ix_tup (pv 0) pe_int (fun _ _ => rfl)) pa_nil)) (pe_callTy call_listOf (by rfl) T.n_list (by decide +kernel) (pa_cons (pe_ix ix_tup (pv 0) pe_int (fun _ _ => rfl)) pa_nil))))
    (pss_cons (ps_for PassesOwn.never rfl (pi_str (pv 1)) (pg_name (i := 3) sc__law_row_of.nd rfl (by first | exact Or.inl rfl | exact Or.inr rfl)) (pss_one (ps_set (i := 2) sc__law_row_of.nd rfl (by first | exact Or.inl rfl | exact Or.inr rfl) (pe_op op_cat (pe_op op_cat (pv 2) (pe_callTy call_listOf (by rfl) T.n_list (by decide +kernel) (pa_cons (pe_dget (hu_of hr) (pe_ix ix_tup (pv 0) pe_int (fun _ _ => rfl)) (pv 3) (fun _ _ => rfl)) pa_nil))) (pe_callTy call_listOf (by rfl) T.n_list (by decide +kernel) (pa_cons (pe_ix ix_tup (pv 0) pe_int (fun _ _ => rfl)) pa_nil))))))
    (pss_one (ps_ret (pe_op op_cat (pv 2) (pe_callTy call_listOf (by rfl) T.n_list (by decide +kernel) (pa_cons (pe_ix ix_tup (pv 0) pe_int (fun _ _ => rfl)) pa_nil))))))), ?_⟩
  rw [show L2.start ["code", "text", "found", "name"] [v0, v1] = [some v0, some v1, none, none] from rfl]
  dsimp only [xK]
  have l1 := ok.st.2.1
  have l2 := ok.bt.2.1
  have l3 := ok.sp.2.1
  have hcl : (chrs t).length ≤ 1000 := by rw [chrs_len]; exact hz
  have P0 : ∀ {σ : L2.St} {Gx : Hp}, σ[0]? = some (some v0) → Ex G Gx → TrD K (tOp (rIxT K) (tVar 0) (tC (V.int 0))) σ Gx (.tuple (dInts c.st)) := fun h e => d_op (d_var h (r0.up e)) d_int (rd_ixT rfl)
  have P1 : ∀ {σ : L2.St} {Gx : Hp}, σ[0]? = some (some v0) → Ex G Gx → TrD K (tOp (rIxT K) (tVar 0) (tC (V.int 1))) σ Gx (.dict (keysD (chD c.cs))) := fun h e => d_op (d_var h (r0.up e)) d_int (rd_ixT rfl)
  have P2 : ∀ {σ : L2.St} {Gx : Hp}, σ[0]? = some (some v0) → Ex G Gx → TrD K (tOp (rIxT K) (tVar 0) (tC (V.int 2))) σ Gx (.tuple (dInts c.bt)) := fun h e => d_op (d_var h (r0.up e)) d_int (rd_ixT rfl)
  have P3 : ∀ {σ : L2.St} {Gx : Hp}, σ[0]? = some (some v0) → Ex G Gx → TrD K (tOp (rIxT K) (tVar 0) (tC (V.int 3))) σ Gx (.tuple (dInts c.sp)) := fun h e => d_op (d_var h (r0.up e)) d_int (rd_ixT rfl)
  refine q_set (d_op (d_cb (a_cons (P0 rfl (Ex.refl _)) a_nil) rc_listT) (d_cb (a_cons (P2 rfl (Ex.refl _)) a_nil) rc_listT) (rd_cat (by rw [dInts_len, dInts_len]; omega))) hA fun v2 G1 H1 e1 A1 r2 => ?_
  refine s_seq (s_forSI (fun k σ G' M' => ∃ v2 x3, σ = [some v0, some v1, some v2, x3] ∧ M' = M ∧ Rp K G' (.list (dInts (rowK c t k))) v2) (d_var rfl (r1.up e1)) A1 ?_ ⟨v2, none, rfl, rfl, ?_⟩ (fun k x hk σ1 G3 M1 H3 e3 A3 hI Nx hN => ?_) fun σ1 G3 M1 H3 e3 A3 hI => ?_)
  · rintro k σ1 Ga Gb M1 e ⟨v, x3, h1, h2, h3⟩
    exact ⟨v, x3, h1, h2, h3.up e⟩
  · rw [← dInts_app] at r2
    unfold rowK
    rw [List.take_zero, List.flatMap_nil, List.append_nil]
    exact r2
  · obtain ⟨v, x3, rfl, rfl, rv⟩ := hI
    have hkl : k < (chrs t).length := (List.getElem?_eq_some_iff.mp hk).1
    have z := wsOf_of ok (in_text ht hk)
    have hys := rowK_len ok ht k
    have hw := z.2.1.2.1
    have ex := e1.trans e3
    refine s_set (d_op (d_op (d_var rfl rv) (d_cb (a_cons (d_dget (P1 rfl ex) (d_var (K := K) rfl (d := .str x) rfl) z.2.2) a_nil) rc_listT) (rd_cat (by rw [dInts_len, dInts_len]; omega))) (d_cb (a_cons (P2 rfl ex) a_nil) rc_listT) (rd_cat (by rw [List.length_append, dInts_len, dInts_len, dInts_len]; omega))) A3 fun v' G4 H4 e4 A4 rv' => ?_
    refine hN _ G4 _ H4 e4 A4 ⟨v', _, rfl, rfl, ?_⟩
    rw [rowK_succ hk, dInts_app, dInts_app]
    exact rv'
  · obtain ⟨v, x3, rfl, rfl, rv⟩ := hI
    have hl := rowK_len ok ht (chrs t).length
    refine s_ret (TrD.to (d_op (d_var rfl rv) (d_cb (a_cons (P3 rfl (e1.trans e3)) a_nil) rc_listT) (rd_cat (by rw [dInts_len, dInts_len]; omega))) ?_) A3 (q.mono (e1.trans e3))
    rw [← dInts_app, rowK_all]
def R_format_scan : List PyData → PyData → Prop := fun ds r => ∃ ns, ds = [.list (dInts ns)] ∧ okScan ns ∧ ((ns.map strI).map (·.length)).sum ≤ 1000000 ∧ r = .str (Txt.join " " (ns.map strI))
theorem F_format_scan (T : Tx K mg) : Fd P w K mg base CX0 4 "format_scan" (PSp K R_format_scan) [] := by
  obtain ⟨fd, F⟩ := T.f_format_scan
  refine ⟨_, fd, ["scan"], [], T.g_format_scan, F.kp, F.bindsN fun _ _ _ _ _ _ us hl => match us, hl with | [_], _ => rfl, .nil, ?_⟩
  refine fnG_of F sc_format_scan (fun vs H Q E h => PSp.len (n := 1) (by rintro _ _ ⟨d, rfl, _⟩; rfl) h) (fun cdv A outer s H vs Q E hg hr h => ?_)
  obtain ⟨G, M, ds, r, hA, hR, ⟨ns, rfl, ok, hs, rfl⟩, q⟩ := h
  obtain ⟨v0, _, rfl, r0, rfl⟩ := hR
  refine ⟨_, PSs.nox (pss_cons (ps_expr (pe_fd (F_require_scan (P := P) (w := w) (base := base) T) hg (hr.mono (by decide)) pass0 (pa_cons (pv 0) pa_nil)))
    (pss_one (ps_ret (pe_join pe_str (pe_lc (own := [("duration", 1)]) (g := gName 1) (by rfl) sc_format_scan.nd (pi_list (pv 0)) (blkOk_by (own := [("duration", 1)]) (N := ["scan", "duration"]) (sc := defScope s_format_scan) (by decide +kernel)) (fun _ _ _ _ _ => (pg_name (i := 1) sc_format_scan.nd rfl (by first | exact Or.inl rfl | exact Or.inr rfl))) (fun _ _ _ _ _ => pts_nil) (fun _ _ _ _ _ => (pe_callTy call_strI (by rfl) T.n_str (by decide +kernel) (pa_cons (pv 1) pa_nil)))))))), ?_⟩
  rw [show L2.start ["scan", "duration"] [v0] = [some v0, none] from rfl]
  dsimp only [xK]
  have hn := ok.2.1
  refine q_drop (d_call0 (a_cons (d_var rfl r0) a_nil) ⟨ns, rfl, ok, rfl⟩) hA fun G1 H1 e1 A1 => ?_
  refine s_ret (d_join (ys := ns.map strI) d_str (TrD.to (d_lcL (p := fun _ => true) (f := strD) (d_var rfl (r0.up e1)) (by rw [dInts_len]; omega) (fun _ _ _ _ _ _ => b_yes) fun d hd _ x G2 e2 rx => ?_) ?_) ?_) A1 (q.mono e1)
  · obtain ⟨n, hn, rfl⟩ := mem_ints hd
    have z := (ok.2.2 n hn).2
    exact d_cb (a_cons (d_var rfl rx) a_nil) (rc_strI (by omega))
  · rw [filt_true]
    unfold dInts dStrs
    rw [List.map_map, List.map_map]
    rfl
  · have h1 : (" " : Str).length = 1 := rfl
    rw [h1, List.length_map]
    omega
def R_parse_scan : List PyData → Out → Prop := fun ds o => ∃ d, ds = [d] ∧ (∀ t, d = .str t → t.length ≤ 80000 ∧ (Txt.split t " ").length ≤ 80000 ∧ ∀ x ∈ Txt.split t " ", x.length ≤ 80000) ∧ o = parseO d
theorem F_parse_scan (T : Tx K mg) : Fd P w K mg base (L2.CX P w) 3 "parse_scan" (XSp K R_parse_scan) [] := by
  obtain ⟨fd, F⟩ := T.f_parse_scan
  refine ⟨_, fd, ["text"], [], T.g_parse_scan, F.kp, F.bindsN fun _ _ _ _ _ _ us hl => match us, hl with | [_], _ => rfl, .nil, ?_⟩
  refine fnG_of F sc_parse_scan (fun vs H Q E h => XSp.len (n := 1) (by rintro _ _ ⟨d, rfl, _⟩; rfl) h) (fun cdv A outer s H vs Q E hg hr h => ?_)
  obtain ⟨G, M, ds, o, hA, hR, ⟨d, rfl, hz, rfl⟩, q⟩ := h
  obtain ⟨v0, _, rfl, r0, rfl⟩ := hR
  refine ⟨_, (pss_cons (ps_if (pt_not (pt_val (pe_callB call_isi (by rfl) T.n_isinstance (by decide +kernel) (pa_cons (pv 0) (pa_cons (pe_bltn (v := .ty "str") (u := .type "str") (by rfl) T.n_str (by decide +kernel) rfl) pa_nil))))) (pss_one (ps_raise rfl (takes_of rfl rfl rfl rfl) (pmk_own2 T.o_InvalidSyntax (I_InvalidSyntax (P := P) (w := w) (base := base) T) (hr.mono (by decide)) (by rfl) T.gc_InvalidSyntax (pa_cons pe_non (pa_cons pe_non pa_nil))))) pss_nil)
    (pss_cons (ps_set (i := 1) sc_parse_scan.nd rfl (by first | exact Or.inl rfl | exact Or.inr rfl) (pe_split (pv 0) pe_str))
    (pss_cons (ps_for (passes_of rfl) rfl (pi_enum (by rfl) T.n_enumerate (pa_cons (pv 1) pa_nil)) (pg_tup (by rfl) (pgs_cons (pg_name (i := 2) sc_parse_scan.nd rfl (by first | exact Or.inl rfl | exact Or.inr rfl)) (pgs_cons (pg_name (i := 3) sc_parse_scan.nd rfl (by first | exact Or.inl rfl | exact Or.inr rfl)) pgs_nil))) (pss_one (ps_if (PW.pt (pw_or (pt_cmpR op_ge (pv 2) (pe_glob (v := .int 400) (by rfl) T.c_MOST_DURATIONS.choose_spec ⟨_, rfl⟩) (nomark _)) (pw_or (pt_not (pt_val (pe_fd (F_is_decimal1 (P := P) (w := w) (base := base) T) hg (hr.mono (by decide)) pass0 (pa_cons (pv 3) pa_nil)))) (pw_or1 (pt_cmpR op_eq (pv 3) pe_str (nomark _)))))) (pss_one (ps_raise rfl (takes_of rfl rfl rfl rfl) (pmk_own2 T.o_InvalidSyntax (I_InvalidSyntax (P := P) (w := w) (base := base) T) (hr.mono (by decide)) (by rfl) T.gc_InvalidSyntax (pa_cons pe_int (pa_cons (pv 2) pa_nil))))) pss_nil)))
    (pss_one (ps_ret (pe_lc (own := [("word", 3)]) (g := gName 3) (by rfl) sc_parse_scan.nd (pi_list (pv 1)) (blkOk_by (own := [("word", 3)]) (N := ["text", "words", "place", "word"]) (sc := defScope s_parse_scan) (by decide +kernel)) (fun _ _ _ _ _ => (pg_name (i := 3) sc_parse_scan.nd rfl (by first | exact Or.inl rfl | exact Or.inr rfl))) (fun _ _ _ _ _ => pts_nil) (fun _ _ _ _ _ => (pe_callTy call_intS (by rfl) T.n_int (by decide +kernel) (pa_cons (pv 3) pa_nil))))))))), ?_⟩
  rw [show L2.start ["text", "words", "place", "word"] [v0] = [some v0, none, none, none] from rfl]
  dsimp only [xK2]
  by_cases hd : ∃ t, d = .str t
  · obtain ⟨t, rfl⟩ := hd
    obtain ⟨z1, z2, z3⟩ := hz t rfl
    have hq : Out.ok K G M Q E (match firstBad (Txt.split t " ") 0 with | some p => .exc "InvalidSyntax" [("line", .int 0), ("word", .int (p : Int))] | none => .val (.list ((dStrs (Txt.split t " ")).map intD))) := q
    clear q
    refine q_guardF (TrB.to (b_not (b_B (d_isi (n := "str") (d_var rfl r0)))) rfl) hA fun G1 H1 e1 A1 => ?_
    refine q_set (d_split (d_var rfl (r0.up e1)) d_str rfl (Nat.le_trans (Nat.add_le_add_right z1 2) (by decide))) A1 fun v1 G2 H2 e2 A2 r1 => ?_
    generalize hws : Txt.split t " " = ws at r1 hq z2 z3
    refine s_seq (s_forEI (fun k σ G' M' => (∃ a b, σ = [some v0, some v1, a, b]) ∧ M' = M ∧ ∀ j, j < k → ∀ x, ws[j]? = some x → badW j x = false) (d_var rfl r1) A2 (fun e h => h) ⟨⟨none, none, rfl⟩, rfl, fun j hj => by omega⟩ (fun k d hk x σ1 G3 M1 H3 e3 A3 hI rx Nx hN => ?_) fun σ1 G3 M1 H3 e3 A3 hI => ?_)
    · obtain ⟨⟨a, b, rfl⟩, rfl, hI⟩ := hI
      obtain ⟨y, hy, rfl⟩ : ∃ y, ws[k]? = some y ∧ d = .str y := by
        unfold dStrs at hk
        rw [List.getElem?_map] at hk
        cases z : ws[k]? with
        | none => rw [z] at hk; cases hk
        | some y => rw [z] at hk; exact ⟨y, rfl, (Option.some.inj hk).symm⟩
      have hb : TrB _ [some v0, some v1, some (.int k), some x] G3 (decide ((400 : Int) ≤ (k : Int)) || (!decB y 400 || decide (y = "0"))) :=
        b_or (b_T (d_op (d_var (K := K) (i := 2) rfl (d := .int k) rfl) d_int rd_ge)) fun _ => b_or (b_not (b_B (d_call (E := E0) (a_cons (d_var (i := 3) rfl rx) a_nil) (es := [.int 400]) (dvs := [.int 400]) ⟨.int 400, [], rfl, rfl, rfl⟩ (R := R_is_decimal) ⟨y, 400, rfl, by have := z3 y (List.mem_of_getElem? hy); omega, rfl⟩))) fun _ => b_T (d_op (d_var (i := 3) rfl rx) d_str rd_eqS)
      have ek : decide ((400 : Int) ≤ (k : Int)) = decide (400 ≤ k) := by
        by_cases h : 400 ≤ k
        · rw [decide_eq_true h, decide_eq_true (by omega)]
        · rw [decide_eq_false h, decide_eq_false (by omega)]
      rw [ek] at hb
      cases hbad : badW k y with
      | true =>
        refine s_ifT (TrB.to hb hbad) A3 fun G4 H4 e4 A4 => ?_
        have hf := firstBad_at (p := 0) hy (by rw [Nat.zero_add]; exact hbad) fun j hj x hx => by rw [Nat.zero_add]; exact hI j hj x hx
        rw [hf, Nat.zero_add] at hq
        exact s_raise2 (a_cons d_int (a_cons (d_var (K := K) rfl (d := .int k) rfl) a_nil)) (by decide) A4 (ResX.mono (((e1.trans e2).trans e3).trans e4) hq)
      | false =>
        refine s_ifF (TrB.to hb hbad) A3 fun G4 H4 e4 A4 => s_next (hN _ G4 M1 H4 e4 A4 ⟨⟨_, _, rfl⟩, rfl, fun j hj x hx => ?_⟩)
        by_cases hjk : j = k
        · subst hjk
          rw [hy] at hx
          cases hx
          exact hbad
        · exact hI j (by omega) x hx
    · obtain ⟨⟨a, b, rfl⟩, rfl, hI⟩ := hI
      have hf : firstBad ws 0 = none := firstBad_none fun k x hk => by
        rw [Nat.zero_add]
        refine hI k ?_ x hk
        unfold dStrs
        rw [List.length_map]
        exact (List.getElem?_eq_some_iff.mp hk).1
      rw [hf] at hq
      refine s_ret (TrD.to (d_lcL (p := fun _ => true) (f := intD) (d_var rfl (r1.up e3)) (by unfold dStrs; rw [List.length_map]; omega) (fun _ _ _ _ _ _ => b_yes) fun d hd _ x G4 e4 rx => ?_) (by rw [filt_true])) A3 (Res.mono ((e1.trans e2).trans e3) hq)
      obtain ⟨y, hy, rfl⟩ := mem_strs hd
      obtain ⟨qq, hqq⟩ := firstBad_ok hf y hy
      obtain ⟨⟨n, hn⟩, hl⟩ := dec_int (good_dec hqq).1
      refine TrD.to (d_cb (a_cons (d_var rfl rx) a_nil) (rc_intS hn (by omega))) ?_
      show _ = PyData.int ((PySem.intText? y).getD 0)
      rw [hn]
      rfl
  · have e : parseO d = .exc "InvalidSyntax" [("line", .none), ("word", .none)] := by cases d <;> first | rfl | exact absurd ⟨_, rfl⟩ hd
    rw [e] at q
    refine q_guardT (TrB.to (b_not (b_B (d_isi (n := "str") (d_var rfl r0)))) (by cases d <;> first | rfl | exact absurd ⟨_, rfl⟩ hd)) hA fun G1 H1 e1 A1 => ?_
    exact s_raise2 (a_cons d_non (a_cons d_non a_nil)) (by decide) A1 (ResX.mono e1 q)
def R_told : List PyData → PyData → Prop := fun ds r => ∃ d, ds = [d] ∧ (∀ t, d = .str t → t.length ≤ 80000 ∧ (Txt.split t " ").length ≤ 80000 ∧ ∀ x ∈ Txt.split t " ", x.length ≤ 80000) ∧ r = .list (toldD d)
theorem F__law_told (T : Tx K mg) : Fd P w K mg base CX0 4 "_law_told" (PSp K R_told) [] := by
  obtain ⟨fd, F⟩ := T.f__law_told
  refine ⟨_, fd, ["value"], [], T.g__law_told, F.kp, F.bindsN fun _ _ _ _ _ _ us hl => match us, hl with | [_], _ => rfl, .nil, ?_⟩
  refine fnG_of F sc__law_told (fun vs H Q E h => PSp.len (n := 1) (by rintro _ _ ⟨d, rfl, _⟩; rfl) h) (fun cdv A outer s H vs Q E hg hr h => ?_)
  obtain ⟨G, M, ds, r, hA, hR, ⟨d, rfl, hz, rfl⟩, q⟩ := h
  obtain ⟨v0, _, rfl, r0, rfl⟩ := hR
  refine ⟨_, PSs.nox (pss_cons (ps_set (i := 1) sc__law_told.nd rfl (by first | exact Or.inl rfl | exact Or.inr rfl) (pe_lst pa_nil))
    (pss_cons (ps_try_fst (i := 2) rfl rfl sc__law_told.nd rfl rfl ⟨by rfl, by decide, .inl T.gc_InvalidSyntax⟩ (fun W pn xe tk po => (pss_one (ps_expr (pe_fdS (F_parse_scan (P := P) (w := w) (base := base) T) hg (hr.mono (by decide)) (fun σ => passAt tk σ) (pa_cons (pv 0) pa_nil))))) (fun a oe cls d pn hz hf => (pss_one (ps_set (i := 1) sc__law_told.nd rfl (by first | exact Or.inl rfl | exact Or.inr rfl) (pe_lst (pa_cons (pe_xf T.o_InvalidSyntax.f T.na_InvalidSyntax_line hz hf (pv 2)) (pa_cons (pe_xf T.o_InvalidSyntax.f T.na_InvalidSyntax_word hz hf (pv 2)) pa_nil)))))))
    (pss_one (ps_ret (pv 1))))), ?_⟩
  rw [show L2.start ["value", "told", "e"] [v0] = [some v0, none, none] from rfl]
  dsimp only [xK]
  refine q_set (K := K) (d_lst a_nil) hA fun v1 G1 H1 e1 A1 r1 => ?_
  refine s_seq ?_
  have fin : ∀ (x y : PyData), toldD d = [x, y] → ∀ dd gs G2 H2, Ex G1 G2 → At G2 M H2 → G2 dd = some (.xd gs) → (∀ f r, (f, r) ∈ [(("line" : Str), x), ("word", y)] → ∃ v, gs.lookup f = some v ∧ Rp K G2 r v) → ∀ a, ∀ D : Ends, D.nx = (tRet (tVar 1) { nx := fun x H' => Q V.non H', rt := Q }) →
      (tAsg (tLst (tCons (tXf a (.ref (He.ga K "InvalidSyntax")) (some dd) (He.ga K "InvalidSyntax") "line" (tVar 2)) (tCons (tXf a (.ref (He.ga K "InvalidSyntax")) (some dd) (He.ga K "InvalidSyntax") "word" (tVar 2)) tNil))) (gName 1))
        { nx := fun τ J => D.nx (τ.set 2 none) J, rt := D.rt, bk := fun τ J => D.bk (τ.set 2 none) J, ct := fun τ J => D.ct (τ.set 2 none) J } [some v0, some v1, some (.ref a)] H2 := by
    intro x y hxy dd gs G2 H2 e2 A2 hg2 hf a D hD
    obtain ⟨vl, hvl, rvl⟩ := hf "line" x (List.mem_cons_self ..)
    obtain ⟨vw, hvw, rvw⟩ := hf "word" y (List.mem_cons_of_mem _ (List.mem_cons_self ..))
    refine s_set (d := .list [x, y]) (d_lst (a_cons (d_xf rfl hg2 hvl rvl) (a_cons (d_xf rfl hg2 hvw rvw) a_nil)) (Nat.le_of_ble_eq_true rfl)) A2 fun v3 G3 H3 e3 A3 r3 => ?_
    show D.nx _ _
    rw [hD]
    refine s_ret (d_var rfl r3) A3 ?_
    rw [← hxy]
    exact q.mono ((e1.trans e2).trans e3)
  cases ho : parseO d with
  | val r =>
    have ht : toldD d = [] := by
      cases d with
      | str t =>
        unfold parseO at ho
        unfold toldD faultL
        simp only at ho ⊢
        cases hf : firstBad (Txt.split t " ") 0 with
        | none => rfl
        | some p => rw [hf] at ho; cases ho
      | _ => cases ho
    refine s_drop (d_callS (a_cons (d_var rfl (r0.up e1)) a_nil) ⟨d, rfl, hz, ho.symm⟩) A1 fun G2 H2 e2 A2 => ?_
    refine s_ret (d_var rfl (r1.up e2)) A2 ?_
    rw [← ht]
    exact q.mono (e1.trans e2)
  | exc x fs =>
    obtain ⟨x1, y1, hxy, rfl, rfl⟩ : ∃ x1 y1, toldD d = [x1, y1] ∧ x = "InvalidSyntax" ∧ fs = [(("line" : Str), x1), (("word" : Str), y1)] := by
      cases d with
      | str t =>
        unfold parseO at ho
        simp only at ho
        cases hf : firstBad (Txt.split t " ") 0 with
        | none => rw [hf] at ho; cases ho
        | some p =>
          rw [hf] at ho
          cases ho
          refine ⟨_, _, ?_, rfl, rfl⟩
          unfold toldD faultL
          simp only [hf]
      | _ => cases ho; exact ⟨_, _, rfl, rfl, rfl⟩
    refine w_callS (a_cons (d_var rfl (r0.up e1)) a_nil) (R := R_parse_scan) ⟨d, rfl, hz, ho.symm⟩ A1 ?_
    intro dd gs G2 H2 e2 A2 hg2 hf
    exact ⟨T.x_InvalidSyntax_InvalidSyntax, fun a ha => fin x1 y1 hxy dd gs G2 H2 e2 A2 hg2 hf a _ rfl⟩
end
end K81

namespace K81
open PySem PySem.Spec PyProof.Rows L2 Sb
local macro_rules | `(tactic| walk_at "ex") => `(tactic| first | exact Ex.refl _ | assumption | (refine' Ex.trans ?_ (by assumption); walk_at "ex"))
local macro_rules | `(tactic| walk_at "rp") => `(tactic| first | assumption | (refine' Rp.up ?e (by assumption); (case e => walk_at "ex")) | exact rfl)
local macro_rules | `(tactic| walk_at "rd") => `(tactic| with_reducible first | exact rd_add | exact rd_sub | exact rd_lt | exact rd_le | exact rd_gt | exact rd_ge | exact rd_eqI | exact rd_neI | exact rd_eqS | exact rd_neS | exact rd_isN | exact rd_ltS | exact rd_inSign | exact rd_eqE)
local macro_rules | `(tactic| walk_at "tr") => `(tactic| first
  | with_reducible exact d_int
  | with_reducible exact d_str
  | with_reducible exact d_bl
  | with_reducible exact d_non
  | with_reducible exact a_nil
  | with_reducible exact b_yes
  | with_reducible exact o_none
  | with_reducible exact d_newD
  | ((with_reducible refine' d_var ?i ?r); (case i => rfl); (case r => walk_at "rp"))
  | ((with_reducible refine' a_cons ?a ?b); (case a => walk_at "tr"); (case b => walk_at "tr"))
  | ((with_reducible refine' a_star ?a ?b); (case a => walk_at "tr"); (case b => walk_at "tr"))
  | ((with_reducible refine' d_isi ?a ?b); (case a => walk_at "tr"); (case b => decide))
  | ((with_reducible refine' d_op ?a ?b ?c); (case a => walk_at "tr"); (case b => walk_at "tr"); (case c => walk_at "rd"))
  | ((with_reducible refine' d_tup ?a ?b); (case a => walk_at "tr"); (case b => first | decide | (simp; done)))
  | ((with_reducible refine' d_lst ?a ?b); (case a => walk_at "tr"); (case b => first | decide | (simp; done)))
  | ((with_reducible refine' o_some ?a); (case a => walk_at "tr"))
  | ((with_reducible refine' b_B ?a); (case a => walk_at "tr"))
  | ((with_reducible refine' b_T ?a); (case a => walk_at "tr"))
  | ((with_reducible refine' b_not ?a); (case a => walk_at "tr"))
  | ((with_reducible refine' v_not ?a); (case a => walk_at "tr"))
  | ((with_reducible refine' b_or ?a ?b); (case a => walk_at "tr"); (case b => intro _; walk_at "tr"))
  | ((with_reducible refine' b_and ?a ?b); (case a => walk_at "tr"); (case b => intro _; walk_at "tr"))
  | ((with_reducible refine' v_or ?a ?b); (case a => walk_at "tr"); (case b => intro _; walk_at "tr"))
  | ((with_reducible refine' v_and ?a ?b); (case a => walk_at "tr"); (case b => intro _; walk_at "tr"))
  | assumption)


/-! ### bars -/
def pieceS (n : Int) (k : Nat) : Str := Txt.mul (if k % 2 = 0 then "|" else ".") n
def catS (l : List Str) : Str := l.foldl (fun a b => a ++ b) ""
def piecesL (ns : List Int) : List Str := ns.zipIdx.map fun q => pieceS q.1 q.2
theorem joinE (x : List Nat) (L : List (List Nat)) : TL.joinL [] (x :: L) = x ++ TL.joinL [] L := by
  cases L with
  | nil => exact (List.append_nil x).symm
  | cons y r => rfl
theorem cat_from : ∀ (l : List Str) (a : Str), TL.tl (l.foldl (fun a b => a ++ b) a) = TL.tl a ++ TL.joinL [] (l.map TL.tl)
  | [], a => (List.append_nil _).symm
  | x :: l, a => by
    rw [List.foldl_cons, cat_from l, List.map_cons, joinE, TL.tl_append, List.append_assoc]
theorem join_cat (l : List Str) : Txt.join "" l = catS l := by
  refine TL.ext_tl ?_
  rw [TL.join_eq, TL.tl_join]
  unfold catS
  rw [cat_from]
  rfl
theorem catS_snoc (l : List Str) (x : Str) : catS (l ++ [x]) = catS l ++ x := by
  unfold catS
  rw [List.foldl_append]
  rfl
theorem four' {n : Int} (h : 1 ≤ n ∧ n ≤ 4) : n = 1 ∨ n = 2 ∨ n = 3 ∨ n = 4 := by omega
theorem bar_or (k : Nat) : (if k % 2 = 0 then ("|" : Str) else ".") = "|" ∨ (if k % 2 = 0 then ("|" : Str) else ".") = "." := by
  by_cases h : k % 2 = 0
  · rw [if_pos h]; exact .inl rfl
  · rw [if_neg h]; exact .inr rfl
theorem mul_ok1 {n : Int} (h : 1 ≤ n ∧ n ≤ 4) : MulOk "|" n ∧ MulOk "." n ∧ (Txt.mul "|" n).length ≤ 4 ∧ (Txt.mul "." n).length ≤ 4 := by
  rcases four' h with rfl | rfl | rfl | rfl <;> refine ⟨?_, ?_, ?_, ?_⟩ <;> first | (unfold MulOk; decide +kernel) | decide +kernel
theorem piece_ok {n : Int} (h : 1 ≤ n ∧ n ≤ 4) (k : Nat) : MulOk (if k % 2 = 0 then "|" else ".") n ∧ (pieceS n k).length ≤ 4 := by
  obtain ⟨h1, h2, h3, h4⟩ := mul_ok1 h
  unfold pieceS
  rcases bar_or k with e | e <;> rw [e]
  · exact ⟨h1, h3⟩
  · exact ⟨h2, h4⟩
theorem rowL_ok {c : CodeD} (ok : c.ok) {t : Str} (ht : isTextD c (.str t) = true) : ∀ n ∈ rowL c t, 1 ≤ n ∧ n ≤ 4 := by
  intro n hn
  unfold rowL at hn
  rcases List.mem_append.mp hn with h | h
  · rcases List.mem_append.mp h with h | h
    · rcases List.mem_append.mp h with h | h
      · exact ok.st.2.2 n h
      · exact ok.bt.2.2 n h
    · obtain ⟨x, hx, h⟩ := List.mem_flatMap.mp h
      rcases List.mem_append.mp h with h | h
      · exact (wsOf_of ok (of_decide_eq_true (List.all_eq_true.mp ht x hx))).2.1.2.2 n h
      · exact ok.bt.2.2 n h
  · exact ok.sp.2.2 n h
theorem rowL_len {c : CodeD} (ok : c.ok) {t : Str} (ht : isTextD c (.str t) = true) (hz : t.cps.size ≤ 1000) : (rowL c t).length ≤ 8014 := by
  rw [← rowK_all, List.length_append]
  have h1 := rowK_len ok ht (chrs t).length
  have h2 := ok.sp.2.1
  rw [chrs_len] at h1
  rw [chrs_len]
  omega
theorem pieces_each {ns : List Int} (h : ∀ n ∈ ns, 1 ≤ n ∧ n ≤ 4) : ∀ x ∈ piecesL ns, x.length ≤ 4 := by
  intro x hx
  obtain ⟨q, hq, rfl⟩ := List.mem_map.mp hx
  have := List.mem_zipIdx hq
  exact (piece_ok (h _ (by rw [this.2.2]; exact List.getElem_mem _)) _).2
theorem pieces_len (ns : List Int) : (piecesL ns).length = ns.length := by unfold piecesL; rw [List.length_map, List.length_zipIdx]
def barsT (c : CodeD) (t : Str) : Str := catS (piecesL (rowL c t))
theorem cat_len : ∀ (l : List Str) (a : Str) (m : Nat), (∀ x ∈ l, x.length ≤ m) → (l.foldl (fun a b => a ++ b) a).length ≤ a.length + l.length * m
  | [], a, m, _ => by simp
  | x :: l, a, m, h => by
    rw [List.foldl_cons]
    have h1 := cat_len l (a ++ x) m fun y hy => h y (List.mem_cons_of_mem _ hy)
    have h2 := h x (List.mem_cons_self ..)
    rw [strLen_append] at h1
    rw [List.length_cons, Nat.succ_mul]
    omega
section
variable {P : Program} {w : World} {K : PySem.W.Frag} {mg : Str → Option Value} {base : Heap}
def R_bars : List PyData → PyData → Prop := fun ds r => ∃ (c : CodeD) (t : Str), ds = [c.d, .str t] ∧ c.ok ∧ t.cps.size ≤ 1000 ∧ isTextD c (.str t) = true ∧ r = .str (barsT c t)
def pieceD (k : Nat) (d : PyData) : PyData := match d with
  | .int n => .str (pieceS n k)
  | _ => .none
theorem F_bars (T : Tx K mg) : Fd P w K mg base CX0 7 "bars" (PSp K R_bars) [] := by
  obtain ⟨fd, F⟩ := T.f_bars
  refine ⟨_, fd, ["code", "text"], [], T.g_bars, F.kp, F.bindsN fun _ _ _ _ _ _ us hl => match us, hl with | [_, _], _ => rfl, .nil, ?_⟩
  refine fnG_of F sc_bars (fun vs H Q E h => PSp.len (n := 2) (by rintro _ _ ⟨d, e, rfl, _⟩; rfl) h) (fun cdv A outer s H vs Q E hg hr h => ?_)
  obtain ⟨G, M, ds, r, hA, hR, ⟨c, t, rfl, ok, hz, ht, rfl⟩, q⟩ := h
  obtain ⟨v0, _, rfl, r0, v1, _, rfl, r1, rfl⟩ := hR
  refine ⟨_, PSs.nox (pss_cons (ps_expr (pe_fd (F_require_code (P := P) (w := w) (base := base) T) hg (hr.mono (by decide)) pass0 (pa_cons (pv 0) pa_nil)))
    (pss_cons (ps_expr (pe_fd (F_require_text (P := P) (w := w) (base := base) T) hg (hr.mono (by decide)) pass0 (pa_cons (pv 0) (pa_cons (pv 1) pa_nil))))
    (pss_one (ps_ret (pe_join pe_str (pe_lc (own := [("place", 2), ("width", 3)]) (g := gTup K 2 (gCons (gName 2) (gCons (gName 3) gNil))) (by rfl) sc_bars.nd (pi_enum (by rfl) T.n_enumerate (pa_cons (pe_fd (F_row_by (P := P) (w := w) (base := base) T) hg (hr.mono (by decide)) pass0 (pa_cons (pv 0) (pa_cons (pv 1) pa_nil))) pa_nil)) (blkOk_by (own := [("place", 2), ("width", 3)]) (N := ["code", "text", "place", "width"]) (sc := defScope s_bars) (by decide +kernel)) (fun _ _ _ _ _ => (pg_tup (by rfl) (pgs_cons (pg_name (i := 2) sc_bars.nd rfl (by first | exact Or.inl rfl | exact Or.inr rfl)) (pgs_cons (pg_name (i := 3) sc_bars.nd rfl (by first | exact Or.inl rfl | exact Or.inr rfl)) pgs_nil)))) (fun _ _ _ _ _ => pts_nil) (fun _ _ _ _ _ => (pe_op op_mulS (pe_ifExp (pt_cmpR op_eq (pe_op op_mod (pv 2) pe_int) pe_int (nomark _)) pe_str pe_str) (pv 3))))))))), ?_⟩
  rw [show L2.start ["code", "text", "place", "width"] [v0, v1] = [some v0, some v1, none, none] from rfl]
  dsimp only [xK]
  have hrl := rowL_len ok ht hz
  have hro := rowL_ok ok ht
  refine q_drop (d_call0 (a_cons (d_var rfl r0) a_nil) ⟨c, rfl, ok, rfl⟩) hA fun G1 H1 e1 A1 => ?_
  refine q_drop (d_call0 (a_cons (d_var rfl (r0.up e1)) (a_cons (d_var rfl (r1.up e1)) a_nil)) ⟨c, t, rfl, by omega, ht, rfl⟩) A1 fun G2 H2 e2 A2 => ?_
  have r0' := r0.up (e1.trans e2)
  have r1' := r1.up (e1.trans e2)
  refine s_ret (TrD.to (d_join (ys := piecesL (rowL c t)) d_str (TrD.to (d_lcE (p := fun _ _ => true) (f := pieceD) (by decide) (d_call0 (a_cons (d_var rfl r0') (a_cons (d_var rfl r1') a_nil)) ⟨c, t, rfl, ok, hz, ht, rfl⟩) (by rw [dInts_len]; omega) rfl (fun _ _ _ _ _ _ _ => b_yes) fun k d hk _ x G3 e3 rx => ?_) ?_) ?_) (by rw [join_cat]; rfl)) A2 (q.mono (e1.trans e2))
  · obtain ⟨n, hn, rfl⟩ := mem_ints (List.mem_of_getElem? hk)
    have hp := piece_ok (hro n hn) k
    have hif : TrD K (tIf (tTest (tOp rEq (tOp (rI (fun x j => 0 < j) fun i j => V.int (i % j)) (tVar 2) (tC (V.int 2))) (tC (V.int 0)))) (tC (V.str (Str.ofString "|"))) (tC (V.str (Str.ofString ".")))) [some v0, some v1, some (.int k), some x] G3 (.str (if k % 2 = 0 then "|" else ".")) := by
      refine d_if (b_T (d_op (d_op (d_var (K := K) (i := 2) rfl (d := .int k) rfl) d_int (rd_mod (by decide))) d_int rd_eqI)) (fun h => TrD.to d_str ?_) fun h => TrD.to d_str ?_
      · have : k % 2 = 0 := by have := of_decide_eq_true h; omega
        rw [if_pos this]
      · have : ¬ k % 2 = 0 := by have := of_decide_eq_false h; omega
        rw [if_neg this]
    exact d_op hif (d_var rfl rx) (rd_mulS hp.1)
  · rw [filt_true]
    unfold piecesL dStrs dInts
    rw [List.map_map, List.zipIdx_map, List.map_map]
    rfl
  · have h1 := sum_len (pieces_each hro)
    have h2 : ("" : Str).length = 0 := rfl
    rw [pieces_len] at h1
    rw [h2, Nat.mul_zero, Nat.add_zero]
    refine Nat.le_trans h1 ?_
    have : (rowL c t).length * 4 ≤ 8014 * 4 := Nat.mul_le_mul_right _ hrl
    omega
/-! ### the fault of a text, as the law finds it -/
theorem lt_nat (a b : Nat) : decide ((a : Int) < (b : Int)) = decide (a < b) := by
  by_cases h : a < b
  · rw [decide_eq_true h, decide_eq_true (by omega)]
  · rw [decide_eq_false h, decide_eq_false (by omega)]
def uniS (x : Str) : Prop := ∀ c ∈ x.cps.toList, c < 1114112
theorem badW_eq (p : Nat) (w : Str) (h1 : decide (w = "") = false) : badW p w = ((decide (w.cps.toList[0]? = some 48) || (decide (400 < w.length) || decide (399 < p))) || !(w.cps.toList.all fun c => decide (c ∈ digS.cps.toList))) := by
  have hl : 1 ≤ w.length := by
    have h0 : w ≠ "" := of_decide_eq_false h1
    rcases Nat.eq_zero_or_pos w.length with h | h
    · exact absurd (TL.ext_tl (by
        have := (TL.len0_tl w).mp h
        rw [this]
        rfl)) h0
    · exact h
  unfold badW decB
  rw [decide_eq_true hl, Bool.true_and]
  have a1 : decide ((w.length : Int) ≤ 400) = !decide (400 < w.length) := by
    by_cases h : 400 < w.length
    · rw [decide_eq_true h, decide_eq_false (by omega)]; rfl
    · rw [decide_eq_false h, decide_eq_true (by omega)]; rfl
  have a2 : decide (400 ≤ p) = decide (399 < p) := by
    by_cases h : 399 < p
    · rw [decide_eq_true h, decide_eq_true (by omega)]
    · rw [decide_eq_false h, decide_eq_false (by omega)]
  rw [a1, a2]
  by_cases hz : w = "0"
  · subst hz
    have e : decide ((("0" : Str).cps.toList)[0]? = some 48) = true := by decide +kernel
    rw [e]
    simp
  · rw [decide_eq_false hz, Bool.false_or, Bool.or_false]
    cases decide (w.cps.toList[0]? = some 48) <;> cases decide (400 < w.length) <;> cases decide (399 < p) <;> cases (w.cps.toList.all fun c => decide (c ∈ digS.cps.toList)) <;> rfl
theorem filt_dig (f : Nat → Bool) (cs : List Nat) : ((cs.map fun c => (⟨#[c]⟩ : Str)).filter fun s => !(s.cps.toList.all f)).isEmpty = cs.all f := by
  induction cs with
  | nil => rfl
  | cons c cs ih =>
    have e : (!((⟨#[c]⟩ : Str).cps.toList.all f)) = !f c := by
      show (!([c].all f)) = _
      simp
    rw [List.map_cons, List.filter_cons, e, List.all_cons]
    cases f c with
    | true => rw [if_neg (by decide), Bool.true_and]; exact ih
    | false => rfl
def R_fault : List PyData → PyData → Prop := fun ds r => ∃ t, ds = [.str t] ∧ t.length ≤ 80000 ∧ (Txt.split t " ").length ≤ 80000 ∧ (∀ x ∈ Txt.split t " ", x.length ≤ 80000 ∧ uniS x) ∧ r = .list (faultL t)
theorem F__law_fault (T : Tx K mg) : Fd P w K mg base CX0 1 "_law_fault" (PSp K R_fault) [] := by
  obtain ⟨fd, F⟩ := T.f__law_fault
  refine ⟨_, fd, ["text"], [], T.g__law_fault, F.kp, F.bindsN fun _ _ _ _ _ _ us hl => match us, hl with | [_], _ => rfl, .nil, ?_⟩
  refine fnG_of F sc__law_fault (fun vs H Q E h => PSp.len (n := 1) (by rintro _ _ ⟨d, rfl, _⟩; rfl) h) (fun cdv A outer s H vs Q E hg hr h => ?_)
  obtain ⟨G, M, ds, r, hA, hR, ⟨t, rfl, z1, z2, z3, rfl⟩, q⟩ := h
  obtain ⟨v0, _, rfl, r0, rfl⟩ := hR
  refine ⟨_, PSs.nox (pss_cons (ps_for PassesOwn.never rfl (pi_enum (by rfl) T.n_enumerate (pa_cons (pe_split (pv 0) pe_str) pa_nil)) (pg_tup (by rfl) (pgs_cons (pg_name (i := 1) sc__law_fault.nd rfl (by first | exact Or.inl rfl | exact Or.inr rfl)) (pgs_cons (pg_name (i := 2) sc__law_fault.nd rfl (by first | exact Or.inl rfl | exact Or.inr rfl)) pgs_nil))) (pss_cons (ps_if (PW.pt (pw_or (pt_cmpR op_eq (pv 2) pe_str (nomark _)) (pw_or (pt_cmpR op_eq (pe_ix ix_str (pv 2) pe_int (fun _ _ => rfl)) pe_str (nomark _)) (pw_or (pt_cmpR op_gt (pe_callB call_len' (by rfl) T.n_len (by decide +kernel) (pa_cons (pv 2) pa_nil)) pe_int (nomark _)) (pw_or1 (pt_cmpR op_gt (pv 1) pe_int (nomark _))))))) (pss_one (ps_ret (pe_lst (pa_cons pe_int (pa_cons (pv 1) pa_nil))))) pss_nil) (pss_one (ps_if (pt_cmpR (op_neR hr.units) (pe_lc (own := [("sign", 3)]) (g := gName 3) (by rfl) sc__law_fault.nd (pi_str (pv 2)) (blkOk_by (own := [("sign", 3)]) (N := ["text", "spot", "word", "sign"]) (sc := defScope s__law_fault) (by decide +kernel)) (fun _ _ _ _ _ => (pg_name (i := 3) sc__law_fault.nd rfl (by first | exact Or.inl rfl | exact Or.inr rfl))) (fun _ _ _ _ _ => (pts_one (pt_cmpR op_notIn_sign (pv 3) pe_str (by rfl)))) (fun _ _ _ _ _ => (pv 3))) (pe_lst pa_nil) (nomark _)) (pss_one (ps_ret (pe_lst (pa_cons pe_int (pa_cons (pv 1) pa_nil))))) pss_nil))))
    (pss_one (ps_ret (pe_lst pa_nil)))), ?_⟩
  rw [show L2.start ["text", "spot", "word", "sign"] [v0] = [some v0, none, none, none] from rfl]
  dsimp only [xK]
  unfold faultL at q
  have hsp : TrD K _ [some v0, none, none, none] G (.list (dStrs (Txt.split t " "))) := d_split (d_var (i := 0) rfl r0) d_str rfl (Nat.le_trans (Nat.add_le_add_right z1 2) (by decide))
  generalize Txt.split t " " = ws at hsp q z2 z3
  refine s_seq (s_forEI (fun k σ G' M' => (∃ a b, σ = [some v0, a, b, none]) ∧ M' = M ∧ ∀ j, j < k → ∀ x, ws[j]? = some x → badW j x = false) hsp hA (fun e h => h) ⟨⟨none, none, rfl⟩, rfl, fun j hj => by omega⟩ (fun k d hk x σ1 G3 M1 H3 e3 A3 hI rx Nx hN => ?_) fun σ1 G3 M1 H3 e3 A3 hI => ?_)
  · obtain ⟨⟨a, b, rfl⟩, rfl, hI⟩ := hI
    obtain ⟨y, hy, rfl⟩ : ∃ y, ws[k]? = some y ∧ d = .str y := by
      unfold dStrs at hk
      rw [List.getElem?_map] at hk
      cases z : ws[k]? with
      | none => rw [z] at hk; cases hk
      | some y => rw [z] at hk; exact ⟨y, rfl, (Option.some.inj hk).symm⟩
    obtain ⟨hyl, hyu⟩ := z3 y (List.mem_of_getElem? hy)
    have ret : ∀ (G4 H4 : Hp), Ex G3 G4 → At G4 M1 H4 → badW k y = true → ∀ {D : Ends}, D.rt = Q → tRet (tLst (tCons (tC (V.int 0)) (tCons (tVar 1) tNil))) D [some v0, some (.int k), some x, none] H4 := by
      intro G4 H4 e4 A4 hbad D hD
      have hf := firstBad_at (p := 0) hy (by rw [Nat.zero_add]; exact hbad) fun j hj x hx => by rw [Nat.zero_add]; exact hI j hj x hx
      rw [hf, Nat.zero_add] at q
      refine s_ret (d_lst (a_cons d_int (a_cons (d_var (K := K) rfl (d := .int k) rfl) a_nil)) (Nat.le_of_ble_eq_true rfl)) A4 ?_
      rw [hD]
      exact q.mono (e3.trans e4)
    have c1 : TrB (tTest (tOp rEq (tVar 2) (tC (V.str (Str.ofString ""))))) [some v0, some (.int k), some x, none] G3 (decide (y = "")) := b_T (d_op (d_var rfl rx) d_str rd_eqS)
    cases h1 : decide (y = "") with
    | true =>
      have hbad : badW k y = true := by
        rw [of_decide_eq_true h1]
        unfold badW decB
        have e : decide (1 ≤ ("" : Str).length) = false := by decide
        rw [e]
        simp
      refine s_seq (s_ifT (b_orT (TrB.to c1 h1)) A3 fun G4 H4 e4 A4 => ret G4 H4 e4 A4 hbad rfl)
    | false =>
      have hlen : 0 < y.cps.toList.length := by
        have h0 : y ≠ "" := of_decide_eq_false h1
        rcases Nat.eq_zero_or_pos y.length with h | h
        · exact absurd (TL.ext_tl (by
            have := (TL.len0_tl y).mp h
            rw [this]
            rfl)) h0
        · exact h
      have hc0 : y.cps.toList[0]? = some y.cps.toList[0] := List.getElem?_eq_getElem hlen
      have hat : L2.atI y.cps.toList 0 = some y.cps.toList[0] := by
        unfold L2.atI
        have h : ixN y.cps.toList.length 0 = some 0 := by
          unfold ixN
          rw [if_pos (Int.le_refl 0), if_pos (by omega)]
          rfl
        rw [h]
        exact hc0
      have eq0 : ∀ c : Nat, decide ((⟨#[c]⟩ : Str) = "0") = decide (some c = some 48) := fun c => by
        by_cases h : c = 48
        · subst h
          decide
        · have h2 : (⟨#[c]⟩ : Str) ≠ "0" := fun z => h (by
            have := congrArg (fun s : Str => s.cps.toList) z
            have h3 : ("0" : Str).cps.toList = [48] := by decide +kernel
            rw [h3] at this
            simpa using this)
          rw [decide_eq_false h2, decide_eq_false (by simpa using h)]
      have c2 : TrB _ [some v0, some (.int k), some x, none] G3 (decide (y.cps.toList[0]? = some 48) || (decide (400 < y.length) || decide (399 < k))) :=
        b_or (TrB.to (b_T (d_op (d_op (d_var (i := 2) rfl rx) d_int (rd_ixS (sz_of (by omega)) hat)) d_str rd_eqS)) (by rw [eq0, hc0])) fun _ => b_or (TrB.to (b_T (d_op (d_cb (a_cons (d_var (i := 2) rfl rx) a_nil) (rc_lenS (K := K) (sz_of (by omega)))) (d_int (i := 400)) rd_gt)) (lt_nat 400 y.length)) fun _ => TrB.to (b_T (d_op (d_var (K := K) (i := 1) rfl (d := .int k) rfl) (d_int (i := 399)) rd_gt)) (lt_nat 399 k)
      have hb := badW_eq k y h1
      cases h2 : (decide (y.cps.toList[0]? = some 48) || (decide (400 < y.length) || decide (399 < k))) with
      | true =>
        rw [h2, Bool.true_or] at hb
        exact s_seq (s_ifT (b_orF (TrB.to c1 h1) (TrB.to c2 h2)) A3 fun G4 H4 e4 A4 => ret G4 H4 e4 A4 hb rfl)
      | false =>
        rw [h2, Bool.false_or] at hb
        refine s_seq (s_ifF (b_orF (TrB.to c1 h1) (TrB.to c2 h2)) A3 fun G4 H4 e4 A4 => ?_)
        have hfilt : ((chrs y).filter fun s => !(s.cps.toList.all fun c => decide (c ∈ digS.cps.toList))).isEmpty = (y.cps.toList.all fun c => decide (c ∈ digS.cps.toList)) := by
          exact filt_dig _ _
        have hshp : SeqAt.shaped (.list (dStrs ((chrs y).filter fun s => !(s.cps.toList.all fun c => decide (c ∈ digS.cps.toList))))) = true := shaped_strs fun s hs => by
          obtain ⟨c, hc, rfl⟩ := List.mem_map.mp (List.mem_filter.mp hs).1
          have := hyu c hc
          simp [this]
        have hcomp : TrD K (tLc (iStr (tVar 2)) (gName 3) (tTest (tOp (fun x y H Q => ∃ c z, x = V.str { cps := #[c] } ∧ y = V.str z ∧ Q (V.bl !decide (c ∈ z.cps.toList)) H) (tVar 3) (tC (V.str (Str.ofString "0123456789"))))) (tVar 3) [3]) [some v0, some (.int k), some x, none] G4 (.list (dStrs ((chrs y).filter fun s => !(s.cps.toList.all fun c => decide (c ∈ digS.cps.toList))))) := by
          refine TrD.to (d_lcS (p := fun s => !(s.cps.toList.all fun c => decide (c ∈ digS.cps.toList))) (f := PyData.str) (d_var rfl (rx.up e4)) (by have : y.length = y.cps.size := rfl; omega) (fun s hs G5 e5 => ?_) fun s hs hp G5 e5 => d_var (K := K) rfl (d := .str s) rfl) rfl
          obtain ⟨c, hc, rfl⟩ := List.mem_map.mp hs
          refine TrB.to (b_T (d_op (d_var (K := K) rfl (d := .str ⟨#[c]⟩) rfl) d_str (fun G M H v u A h1 h2 Q q => ⟨c, "0123456789", h1, h2, q.here A rfl⟩) (d3 := .bool (!decide (c ∈ digS.cps.toList))))) ?_
          show _ = !([c].all _)
          rw [List.all_cons, List.all_nil, Bool.and_true]
        have hne : TrB _ [some v0, some (.int k), some x, none] G4 (!(y.cps.toList.all fun c => decide (c ∈ digS.cps.toList))) := TrB.to (b_T (d_op hcomp (d_lst a_nil) (rd_neR hshp rfl))) (by rw [eqv_nil, ← hfilt]; unfold dStrs; cases (chrs y).filter fun s => !(s.cps.toList.all fun c => decide (c ∈ digS.cps.toList)) <;> rfl)
        cases h3 : (!(y.cps.toList.all fun c => decide (c ∈ digS.cps.toList))) with
        | true =>
          rw [h3] at hb
          exact s_ifT (TrB.to hne h3) A4 fun G5 H5 e5 A5 => ret G5 H5 (e4.trans e5) A5 hb rfl
        | false =>
          rw [h3] at hb
          refine s_ifF (TrB.to hne h3) A4 fun G5 H5 e5 A5 => s_next (hN _ G5 M1 H5 (e4.trans e5) A5 ⟨⟨_, _, rfl⟩, rfl, fun j hj z hz => ?_⟩)
          by_cases hjk : j = k
          · subst hjk
            rw [hy] at hz
            cases hz
            exact hb
          · exact hI j (by omega) z hz
  · obtain ⟨⟨a, b, rfl⟩, rfl, hI⟩ := hI
    have hf : firstBad ws 0 = none := firstBad_none fun k x hk => by
      rw [Nat.zero_add]
      refine hI k ?_ x hk
      unfold dStrs
      rw [List.length_map]
      exact (List.getElem?_eq_some_iff.mp hk).1
    rw [hf] at q
    exact s_ret (σ := [some v0, a, b, none]) (d_lst a_nil) A3 (q.mono e3)
end
end K81

namespace K81
open PySem PySem.Spec PyProof.Rows L2 Sb
local macro_rules | `(tactic| walk_at "ex") => `(tactic| first | exact Ex.refl _ | assumption | (refine' Ex.trans ?_ (by assumption); walk_at "ex"))
local macro_rules | `(tactic| walk_at "rp") => `(tactic| first | assumption | (refine' Rp.up ?e (by assumption); (case e => walk_at "ex")) | exact rfl)
local macro_rules | `(tactic| walk_at "rd") => `(tactic| with_reducible first | exact rd_add | exact rd_sub | exact rd_lt | exact rd_le | exact rd_gt | exact rd_ge | exact rd_eqI | exact rd_neI | exact rd_eqS | exact rd_neS | exact rd_isN | exact rd_ltS | exact rd_inSign | exact rd_eqE)
local macro_rules | `(tactic| walk_at "tr") => `(tactic| first
  | with_reducible exact d_int
  | with_reducible exact d_str
  | with_reducible exact d_bl
  | with_reducible exact d_non
  | with_reducible exact a_nil
  | with_reducible exact b_yes
  | with_reducible exact o_none
  | with_reducible exact d_newD
  | ((with_reducible refine' d_var ?i ?r); (case i => rfl); (case r => walk_at "rp"))
  | ((with_reducible refine' a_cons ?a ?b); (case a => walk_at "tr"); (case b => walk_at "tr"))
  | ((with_reducible refine' a_star ?a ?b); (case a => walk_at "tr"); (case b => walk_at "tr"))
  | ((with_reducible refine' d_isi ?a ?b); (case a => walk_at "tr"); (case b => decide))
  | ((with_reducible refine' d_op ?a ?b ?c); (case a => walk_at "tr"); (case b => walk_at "tr"); (case c => walk_at "rd"))
  | ((with_reducible refine' d_tup ?a ?b); (case a => walk_at "tr"); (case b => first | decide | (simp; done)))
  | ((with_reducible refine' d_lst ?a ?b); (case a => walk_at "tr"); (case b => first | decide | (simp; done)))
  | ((with_reducible refine' o_some ?a); (case a => walk_at "tr"))
  | ((with_reducible refine' b_B ?a); (case a => walk_at "tr"))
  | ((with_reducible refine' b_T ?a); (case a => walk_at "tr"))
  | ((with_reducible refine' b_not ?a); (case a => walk_at "tr"))
  | ((with_reducible refine' v_not ?a); (case a => walk_at "tr"))
  | ((with_reducible refine' b_or ?a ?b); (case a => walk_at "tr"); (case b => intro _; walk_at "tr"))
  | ((with_reducible refine' b_and ?a ?b); (case a => walk_at "tr"); (case b => intro _; walk_at "tr"))
  | ((with_reducible refine' v_or ?a ?b); (case a => walk_at "tr"); (case b => intro _; walk_at "tr"))
  | ((with_reducible refine' v_and ?a ?b); (case a => walk_at "tr"); (case b => intro _; walk_at "tr"))
  | assumption)


def okNum (n : Int) : Prop := 1 ≤ n ∧ n < 10 ^ 390
theorem okNum_nat {n : Int} (h : okNum n) : ∃ N : Nat, n = (N : Int) ∧ 1 ≤ N ∧ N < 10 ^ 390 := by
  obtain ⟨N, rfl⟩ := Int.eq_ofNat_of_zero_le (show 0 ≤ n by have := h.1; omega)
  refine ⟨N, rfl, by have := h.1; omega, ?_⟩
  have := h.2
  have e : ((10 ^ 390 : Nat) : Int) = 10 ^ 390 := by rw [Int.natCast_pow]; rfl
  rw [← e] at this
  exact Int.ofNat_lt.mp this
theorem strI_tl (N : Nat) : (strI (N : Int)).cps.toList = TL.numL N := TL.tl_num N
theorem strI_len' {N k : Nat} (hk : 0 < k) (h : N < 10 ^ k) : (strI (N : Int)).length ≤ k := by
  show (strI (N : Int)).cps.toList.length ≤ k
  rw [strI_tl]
  exact TL.numL_len hk h
theorem okNum_len {n : Int} (h : okNum n) : (strI n).length ≤ 390 := by
  obtain ⟨N, rfl, _, h2⟩ := okNum_nat h
  exact strI_len' (by decide) h2
theorem okNum_log {n : Int} (h : okNum n) : n.natAbs.log2 < 1900 := by
  obtain ⟨N, rfl, _, h2⟩ := okNum_nat h
  rw [Int.natAbs_natCast]
  exact Nat.lt_of_lt_of_le (log_lt (k := 1300) (Nat.lt_trans h2 (by decide +kernel)) (by decide)) (by decide)
def IsScan (size : Nat) : PyData → Prop := fun d => ∃ ns : List Int, d = .list (dInts ns) ∧ ns.length = size ∧ ∀ n ∈ ns, okNum n
def R_scan : List PyData → Nat → (PyData → Prop) → Prop := fun ds k Φ => ∃ size : Nat, ds = [.int size] ∧ 1 ≤ size ∧ size ≤ 60 ∧ k = 200 ∧ Φ = IsScan size
theorem rep_num {N : Nat} (h1 : 1 ≤ N) (h2 : N < 10 ^ 30) : MulOk (strI (N : Int)) 13 ∧ ∃ z : Int, PySem.intText? (Txt.mul (strI (N : Int)) 13) = some z ∧ okNum z ∧ (Txt.mul (strI (N : Int)) 13).length ≤ 640 := by
  have hl := strI_len' (by decide) h2
  obtain ⟨c, l, e, hc⟩ := num_head N h1
  have hd := TL.numL_digits N
  have hpos : 0 < (strI (N : Int)).length := by
    show 0 < (strI (N : Int)).cps.toList.length
    rw [strI_tl, e]
    exact Nat.succ_pos _
  have hm : (Txt.mul (strI (N : Int)) 13).cps.toList = (List.replicate 13 (TL.numL N)).flatten := by
    rw [mul_tl (by decide) hpos, strI_tl]
    rfl
  have hlen : (Txt.mul (strI (N : Int)) 13).length ≤ 390 := by
    show (Txt.mul (strI (N : Int)) 13).cps.toList.length ≤ 390
    rw [hm]
    have : (TL.numL N).length ≤ 30 := TL.numL_len (by decide) h2
    have h13 : ∀ l : List Nat, ((List.replicate 13 l).flatten).length = 13 * l.length := fun l => by
      simp [List.replicate]
      omega
    rw [h13]
    omega
  have hall : NumText.AllDigits (Txt.mul (strI (N : Int)) 13).cps.toList := by
    rw [hm]
    intro x hx
    obtain ⟨y, hy, hx⟩ := List.mem_flatten.mp hx
    rw [List.eq_of_mem_replicate hy] at hx
    exact hd x hx
  have hcons : (Txt.mul (strI (N : Int)) 13).cps.toList = c :: (l ++ (List.replicate 12 (TL.numL N)).flatten) := by
    rw [hm, List.replicate_succ, List.flatten_cons, e]
    rfl
  refine ⟨mulOk_of (by decide) (by decide) (by omega), _, intText_digits hall (by rw [hcons]; simp) (by omega), ⟨?_, ?_⟩, by omega⟩
  · have h := val_pos (by rw [← hcons]; exact hall) hc
    rw [← hcons] at h
    omega
  · have h := val_bd hall
    have h3 : (10 : Nat) ^ (Txt.mul (strI (N : Int)) 13).cps.toList.length ≤ 10 ^ 390 := Nat.pow_le_pow_right (by decide) hlen
    have e2 : ((10 ^ 390 : Nat) : Int) = 10 ^ 390 := by rw [Int.natCast_pow]; rfl
    rw [← e2]
    exact Int.ofNat_lt.mpr (Nat.lt_of_lt_of_le h h3)
section
variable {P : Program} {w : World} {K : PySem.W.Frag} {mg : Str → Option Value} {base : Heap}
/-- xs.append(e), e drawn -/
theorem s_appE {σ : L2.St} {G M M0 H : Hp} {te : TE} {D : Ends} {i n n' : Nat} {r p : Addr} {Φ : PyData → Prop} {xs : List V} (hi : σ[i]? = some (some (.ref p))) (hp : M0 p = some (.lst xs)) (hn : p ≠ r) (hl : xs.length < 100000) (h : TrE K r M0 te σ G n n' Φ) (A : At G M H) (S : Same r M0 M) (R : RL r n M)
    (k : ∀ d v G' M' H', Ex G G' → At G' M' H' → Same r (upd M0 p (.lst (xs ++ [v]))) M' → RL r n' M' → Φ d → Rp K G' d v → D.nx σ H') : tDrop (tBM K "list" rAppend (tVar i) (tCons te tNil)) D σ H := by
  refine ⟨.ref p, hi, Or.inl ⟨rfl, _, Or.inl (Or.inl (A.m _ _ ((S p hn).trans hp)))⟩, ?_⟩
  refine h G M H (Ex.refl _) A S R _ fun d v G2 M2 H2 e2 A2 S2 R2 hd rv => ?_
  have hM2 : M2 p = some (.lst xs) := (S2 p hn).trans hp
  refine ⟨p, xs, v, rfl, rfl, A2.m _ _ hM2, sz_lt hl, k d v G2 (upd M2 p (.lst (xs ++ [v]))) _ e2 (A2.wr hM2) (fun x hx => ?_) (R2.upd hn) hd rv⟩
  by_cases e : x = p
  · subst e
    rw [upd_same, upd_same]
  · rw [upd_ne e, upd_ne e]
    exact S2 x hx
theorem F__law_scan (T : Tx K mg) : Fd P w K mg base CX0 2 "_law_scan" (ESp K R_scan) [] := by
  obtain ⟨fd, F⟩ := T.f__law_scan
  refine ⟨_, fd, ["reel", "size"], [], T.g__law_scan, F.kp, F.bindsN fun _ _ _ _ _ _ us hl => match us, hl with | [_, _], _ => rfl, .nil, ?_⟩
  refine fnG_of F sc__law_scan (fun vs H Q E h => ESp.len (n := 1) (by rintro _ _ _ ⟨d, rfl, _⟩; rfl) h) (fun cdv A outer s H vs Q E hg hr h => ?_)
  obtain ⟨r, ws, G, M, n, k, ds, Φ, rfl, hA, hRL, hws, ⟨size, rfl, hs0, hs1, rfl, rfl⟩, hn, q⟩ := h
  obtain ⟨v1, _, rfl, r1, rfl⟩ := hws
  refine ⟨_, PSs.nox (pss_cons (ps_set (i := 2) sc__law_scan.nd rfl (by first | exact Or.inl rfl | exact Or.inr rfl) (pe_lst pa_nil))
    (pss_cons (ps_for PassesOwn.never rfl (pi_range1 (by rfl) T.n_range (pa_cons (pv 1) pa_nil)) (pg_name (i := 3) sc__law_scan.nd rfl (by first | exact Or.inl rfl | exact Or.inr rfl)) (pss_one (ps_expr (pe_bm PySem.F.plainAttrs_list PySem.F.slot_list_append PySem.F.type_list_append mt_append (pv 2) (pa_cons (pe_op op_add pe_int (pe_fd (F__law_spin (P := P) (w := w) (base := base) T) hg (hr.mono (by decide)) pass0 (pa_cons (pv 0) (pa_cons (pe_ix ix_list (pe_lst (pa_cons pe_int (pa_cons pe_int (pa_cons (pe_op op_sub (pe_op op_pow pe_int pe_int) pe_int) pa_nil)))) (pe_fd (F__law_spin (P := P) (w := w) (base := base) T) hg (hr.mono (by decide)) pass0 (pa_cons (pv 0) (pa_cons pe_int pa_nil))) (fun _ _ => rfl)) pa_nil)))) pa_nil)))))
    (pss_cons (ps_if (pt_cmpR op_lt (pv 1) pe_int (nomark _)) (pss_one (ps_asg (pe_callTy call_intS (by rfl) T.n_int (by decide +kernel) (pa_cons (pe_op op_mulS (pe_callTy call_strI (by rfl) T.n_str (by decide +kernel) (pa_cons (pe_op op_add pe_int (pe_fd (F__law_spin (P := P) (w := w) (base := base) T) hg (hr.mono (by decide)) pass0 (pa_cons (pv 0) (pa_cons (pe_op op_sub (pe_op op_pow pe_int pe_int) pe_int) pa_nil)))) pa_nil)) pe_int) pa_nil)) (pg_sub (pv 2) (pe_fd (F__law_spin (P := P) (w := w) (base := base) T) hg (hr.mono (by decide)) pass0 (pa_cons (pv 0) (pa_cons (pv 1) pa_nil))) set_list))) pss_nil)
    (pss_one (ps_ret (pv 2)))))), ?_⟩
  rw [show L2.start ["reel", "size", "found", "turn"] [(.ref r), v1] = [some (.ref r), some v1, none, none] from rfl]
  dsimp only [xK]
  have t30 : (10 : Int) ^ (30 : Int).toNat = 1000000000000000000000000000000 := rfl
  have t390 : (1000000000000000000000000000000 : Int) < 10 ^ 390 := by decide +kernel
  refine q_newL (K := K) a_nil (Nat.zero_le _) hA fun p xs0 G1 H1 e1 pM pG A1 rx0 => ?_
  have nr : p ≠ r := hRL.ne pM
  refine s_seq (s_forRI (n := size) (fun k σ G' M' => ∃ (xs : List V) (ns : List Int) (x3 : Option V), σ = [some (.ref r), some v1, some (.ref p), x3] ∧ Same r (upd M p (.lst xs)) M' ∧ RL r (n + k * 2) M' ∧ RpL K G' (dInts ns) xs ∧ ns.length = k ∧ ∀ n ∈ ns, okNum n) (d_var rfl (r1.up e1)) (by omega) (by omega) A1 ?_ ⟨xs0, [], none, rfl, .refl, (hRL.upd nr).le (by omega), rx0, rfl, fun _ h => by cases h⟩ (fun k hk σ1 G2 M2 H2 e2 A2 hI Nx hN => ?_) fun σ1 G2 M2 H2 e2 A2 hI => ?_)
  · rintro k σ1 Ga Gb M1 e ⟨xs, ns, x3, h1, h2, h3, h4, h5⟩
    exact ⟨xs, ns, x3, h1, h2, h3, h4.up e, h5⟩
  · obtain ⟨xs, ns, x3, rfl, SL, RL', rx, hnl, hns⟩ := hI
    have hxl : xs.length = k := by rw [rx.len, dInts_len, hnl]
    refine s_appE (i := 2) (p := p) (Φ := RI 1 999999999999999999999999999999) rfl upd_same nr (by omega) (e_op (Φ1 := fun d => d = .int 1) (Φ2 := RI 0 999999999999999999999999999998) (e_D d_int rfl) (fun _ _ => spin_call rfl (e_op (Φ1 := fun d => d = .list [.int 9, .int 300, .int 999999999999999999999999999999]) (Φ2 := RI 0 2) (e_D (d_lst (a_cons d_int (a_cons d_int (a_cons (d_op (d_op d_int d_int (rd_pow ⟨by decide, by decide, by decide⟩)) d_int rd_sub) a_nil))) (Nat.le_of_ble_eq_true rfl)) rfl) (fun _ _ => spin_c rfl (by decide) (by decide) (by omega)) ?_) (by omega)) ?_) A2 SL RL' fun d v G3 M3 H3 e3 A3 S3 R3 hd rv => ?_
    · rintro _ _ rfl ⟨i, rfl, h0, h1⟩
      obtain ⟨e, he, hc⟩ := three_at (a := .int 9) (b := .int 300) (c := .int 999999999999999999999999999999) h0 h1
      rcases hc with rfl | rfl | rfl
      · exact ⟨_, rd_ixL he, 9, rfl, by decide, by decide, fun d ⟨i, h, h0, h1⟩ => ⟨i, h, h0, by omega⟩⟩
      · exact ⟨_, rd_ixL he, 300, rfl, by decide, by decide, fun d ⟨i, h, h0, h1⟩ => ⟨i, h, h0, by omega⟩⟩
      · exact ⟨_, rd_ixL he, _, rfl, by decide, by decide, fun d ⟨i, h, h0, h1⟩ => ⟨i, h, h0, by omega⟩⟩
    · rintro _ _ rfl ⟨i, rfl, h0, h1⟩
      exact ⟨_, rd_add, _, rfl, by omega, by omega⟩
    · obtain ⟨z, rfl, z0, z1⟩ := hd
      refine hN _ G3 M3 H3 e3 A3 ⟨xs ++ [v], ns ++ [z], _, rfl, ?_, R3.le (by omega), ?_, by rw [List.length_append, hnl]; rfl, fun x hx => ?_⟩
      · intro x hx
        have := S3 x hx
        rw [upd_upd] at this
        exact this
      · rw [dInts_app]
        exact (rx.up e3).snoc rv
      · rcases List.mem_append.mp hx with h | h
        · exact hns x h
        · rw [List.mem_singleton.mp h]
          exact ⟨z0, by omega⟩
  · obtain ⟨xs, ns, x3, rfl, SL, RL', rx, hnl, hns⟩ := hI
    rw [Int.toNat_natCast] at RL' hnl
    have hxl : xs.length = size := by rw [rx.len, dInts_len, hnl]
    dsimp only
    refine q_cut (fun σ' H' => ∃ (G' M' : Hp) (xs : List V) (ns : List Int), Ex G2 G' ∧ At G' M' H' ∧ Same r (upd M p (.lst xs)) M' ∧ RL r (n + 200) M' ∧ RpL K G' (dInts ns) xs ∧ ns.length = size ∧ (∀ n ∈ ns, okNum n) ∧ σ' = [some (.ref r), some v1, some (.ref p), x3]) ?_ fun hkk => ?_
    · rintro _ H3 ⟨G3, M3, xs, ns, e3, A3, S3, R3, rx, hnl, hns, rfl⟩
      have hMp : M3 p = some (.lst xs) := (S3 p nr).trans upd_same
      rw [← cut_eq hMp] at A3
      obtain ⟨G4, e4, A4, rp⟩ := At.done A3 cut_none rx
      obtain ⟨M5, A5, S5, hr5⟩ := At.back (r := r) (M0 := M) A4 (fun x hx o ho => by
        have x1 : x ≠ p := fun z => by rw [z, pM] at ho; cases ho
        show (if x = p then none else M3 x) = _
        rw [if_neg x1, S3 x hx, upd_ne x1]
        exact ho)
      refine ⟨.ref p, rfl, q _ (.ref p) G4 M5 H3 (((e1.trans e2).trans e3).trans e4) A5 S5 ?_ ⟨ns, rfl, hnl, hns⟩ rp⟩
      obtain ⟨a, b, c, z1, z2, z3, z4⟩ := R3
      exact ⟨a, b, c, by rw [hr5]; show (if r = p then none else M3 r) = _; rw [if_neg (Ne.symm nr)]; exact z1, z2, z3, z4⟩
    · refine s_if (b := decide ((size : Int) < 5)) (b_T (d_op (d_var rfl (r1.up (e1.trans e2))) d_int rd_lt)) A2 (fun hb G3 H3 e3 A3 => ?_) fun hb G3 H3 e3 A3 => ?_
      · have hte : TrE K r (upd M p (.lst xs)) (tCB rIntS (tCons (tOp rMulS (tCB rStrI (tCons (tOp (rI0 fun i j => V.int (i + j)) (tC (V.int 1)) (tCall (ESp K R_spin) [] E0 (tCons (tVar 0) (tCons (tOp (rI0 fun i j => V.int (i - j)) (tOp (rI CPow fun i j => V.int (i ^ j.toNat)) (tC (V.int 10)) (tC (V.int 30))) (tC (V.int 1))) tNil)))) tNil)) (tC (V.int 13))) tNil)) [some (.ref r), some v1, some (.ref p), x3] G3 (n + size * 2) (n + size * 2 + 1) (fun d => ∃ z : Int, d = .int z ∧ okNum z) := by
          refine e_cb (Ψ := fun ds => ∃ N : Nat, ds = [.str (Txt.mul (strI N) 13)] ∧ 1 ≤ N ∧ N < 10 ^ 30) (ea_cons (Φ := fun d => ∃ N : Nat, d = .str (Txt.mul (strI N) 13) ∧ 1 ≤ N ∧ N < 10 ^ 30) (e_op (Φ1 := fun d => ∃ N : Nat, d = .str (strI N) ∧ 1 ≤ N ∧ N < 10 ^ 30) (Φ2 := fun d => d = .int 13) (e_cb (Ψ := fun ds => ∃ N : Nat, ds = [.int N] ∧ 1 ≤ N ∧ N < 10 ^ 30) (ea_cons (Φ := fun d => ∃ N : Nat, d = .int N ∧ 1 ≤ N ∧ N < 10 ^ 30) (e_op (Φ1 := fun d => d = .int 1) (Φ2 := RI 0 999999999999999999999999999998) (e_D d_int rfl) (fun _ _ => spin_call rfl (e_D (d_op (d_op d_int d_int (rd_pow ⟨by decide, by decide, by decide⟩)) d_int rd_sub) ⟨999999999999999999999999999999, rfl, by decide, by decide, fun d ⟨i, h, h0, h1⟩ => ⟨i, h, h0, by omega⟩⟩) (by omega)) ?_) fun d hd => ea_nil ?_) ?_) (fun _ _ => e_D d_int rfl) ?_) fun d hd => ea_nil ?_) ?_
          · rintro _ _ rfl ⟨i, rfl, h0, h1⟩
            obtain ⟨N, rfl⟩ := Int.eq_ofNat_of_zero_le h0
            have t30' : (10 : Nat) ^ 30 = 1000000000000000000000000000000 := rfl
            exact ⟨.int ((N + 1 : Nat) : Int), (by have z : RD K (rI0 fun i j => V.int (i + j)) (.int 1) (.int (N : Int)) (.int (1 + (N : Int))) := rd_add; rw [show ((N + 1 : Nat) : Int) = 1 + (N : Int) by omega]; exact z), N + 1, rfl, by omega, by rw [t30']; omega⟩
          · obtain ⟨N, rfl, h⟩ := hd
            exact ⟨N, rfl, h⟩
          · rintro _ ⟨N, rfl, h1, h2⟩
            have hlg : (N : Int).natAbs.log2 < 1920 := by
              rw [Int.natAbs_natCast]
              exact Nat.lt_of_lt_of_le (log_lt (k := 100) (Nat.lt_trans h2 (by decide)) (by decide)) (by decide)
            exact ⟨_, rc_strI hlg, N, rfl, h1, h2⟩
          · rintro _ _ ⟨N, rfl, h1, h2⟩ rfl
            exact ⟨_, rd_mulS (rep_num h1 h2).1, N, rfl, h1, h2⟩
          · obtain ⟨N, rfl, h⟩ := hd
            exact ⟨N, rfl, h⟩
          · rintro _ ⟨N, rfl, h1, h2⟩
            obtain ⟨_, z, hz, ok, hl⟩ := rep_num h1 h2
            exact ⟨_, rc_intS hz hl, z, rfl, ok⟩
        refine hte G3 M2 H3 (Ex.refl _) A3 SL RL' _ fun d v G4 M4 H4 e4 A4 S4 R4 hd rv => ?_
        obtain ⟨z, rfl, okz⟩ := hd
        refine ⟨.ref p, rfl, ?_⟩
        refine (spin_call (i := 0) (te := tVar 1) (Φ := RI 0 (size - 1)) (σ := [some (.ref r), some v1, some (.ref p), x3]) rfl (e_D (d_var rfl (r1.up (((e1.trans e2).trans e3).trans e4))) ⟨_, rfl, by omega, by omega, fun _ h => h⟩) (by omega)) G4 M4 H4 (Ex.refl _) A4 S4 R4 _ fun d v5 G5 M5 H5 e5 A5 S5 R5 hd rv5 => ?_
        obtain ⟨i, rfl, i0, i1⟩ := hd
        obtain ⟨iN, rfl⟩ := Int.eq_ofNat_of_zero_le i0
        have hMp : M5 p = some (.lst xs) := (S5 p nr).trans upd_same
        have hix : ixN xs.length (iN : Int) = some iN := by
          unfold ixN
          rw [if_pos (by omega), if_pos (by omega), Int.toNat_natCast]
        refine ⟨p, xs, iN, iN, rfl, rv5, A5.m _ _ hMp, hix, ?_⟩
        refine hkk _ _ ⟨G5, upd M5 p (.lst (xs.set iN v)), xs.set iN v, ns.set iN z, (e3.trans e4).trans e5, A5.wr hMp, fun x hx => ?_, (R5.upd nr).le (by omega), ?_, by rw [List.length_set]; exact hnl, fun x hx => ?_, rfl⟩
        · by_cases e : x = p
          · subst e
            rw [upd_same, upd_same]
          · rw [upd_ne e, S5 x hx, upd_ne e, upd_ne e]
        · rw [(rpL_ints (K := K) ns).mp (rx.up ((e3.trans e4).trans e5))]
          refine (rpL_ints _).mpr ?_
          rw [show v = V.int z from rv, List.map_set]
        · rcases List.mem_or_eq_of_mem_set hx with h | h
          · exact hns x h
          · rw [h]; exact okz
      · exact s_next (hkk _ _ ⟨G3, M2, xs, ns, e3, A3, SL, RL'.le (by omega), rx.up e3, hnl, hns, rfl⟩)
end
end K81

namespace K81
open PySem PySem.Spec PyProof.Rows L2 Sb
local macro_rules | `(tactic| walk_at "ex") => `(tactic| first | exact Ex.refl _ | assumption | (refine' Ex.trans ?_ (by assumption); walk_at "ex"))
local macro_rules | `(tactic| walk_at "rp") => `(tactic| first | assumption | (refine' Rp.up ?e (by assumption); (case e => walk_at "ex")) | exact rfl)
local macro_rules | `(tactic| walk_at "rd") => `(tactic| with_reducible first | exact rd_add | exact rd_sub | exact rd_lt | exact rd_le | exact rd_gt | exact rd_ge | exact rd_eqI | exact rd_neI | exact rd_eqS | exact rd_neS | exact rd_isN | exact rd_ltS | exact rd_inSign | exact rd_eqE)
local macro_rules | `(tactic| walk_at "tr") => `(tactic| first
  | with_reducible exact d_int
  | with_reducible exact d_str
  | with_reducible exact d_bl
  | with_reducible exact d_non
  | with_reducible exact a_nil
  | with_reducible exact b_yes
  | with_reducible exact o_none
  | with_reducible exact d_newD
  | ((with_reducible refine' d_var ?i ?r); (case i => rfl); (case r => walk_at "rp"))
  | ((with_reducible refine' a_cons ?a ?b); (case a => walk_at "tr"); (case b => walk_at "tr"))
  | ((with_reducible refine' a_star ?a ?b); (case a => walk_at "tr"); (case b => walk_at "tr"))
  | ((with_reducible refine' d_isi ?a ?b); (case a => walk_at "tr"); (case b => decide))
  | ((with_reducible refine' d_op ?a ?b ?c); (case a => walk_at "tr"); (case b => walk_at "tr"); (case c => walk_at "rd"))
  | ((with_reducible refine' d_tup ?a ?b); (case a => walk_at "tr"); (case b => first | decide | (simp; done)))
  | ((with_reducible refine' d_lst ?a ?b); (case a => walk_at "tr"); (case b => first | decide | (simp; done)))
  | ((with_reducible refine' o_some ?a); (case a => walk_at "tr"))
  | ((with_reducible refine' b_B ?a); (case a => walk_at "tr"))
  | ((with_reducible refine' b_T ?a); (case a => walk_at "tr"))
  | ((with_reducible refine' b_not ?a); (case a => walk_at "tr"))
  | ((with_reducible refine' v_not ?a); (case a => walk_at "tr"))
  | ((with_reducible refine' b_or ?a ?b); (case a => walk_at "tr"); (case b => intro _; walk_at "tr"))
  | ((with_reducible refine' b_and ?a ?b); (case a => walk_at "tr"); (case b => intro _; walk_at "tr"))
  | ((with_reducible refine' v_or ?a ?b); (case a => walk_at "tr"); (case b => intro _; walk_at "tr"))
  | ((with_reducible refine' v_and ?a ?b); (case a => walk_at "tr"); (case b => intro _; walk_at "tr"))
  | assumption)


def faultI (t : Str) : List Int := match firstBad (Txt.split t " ") 0 with
  | some p => [0, (p : Int)]
  | none => []
theorem faultL_eq (t : Str) : faultL t = dInts (faultI t) := by
  unfold faultL faultI
  cases firstBad (Txt.split t " ") 0 <;> rfl
theorem toldD_eq (t : Str) : toldD (.str t) = dInts (faultI t) := faultL_eq t
def okWord (w : Str) : Prop := w.length ≤ 401 ∧ ∀ c ∈ w.cps.toList, c < 256
theorem join_sum {ws : List Str} (h : ∀ w ∈ ws, w.length ≤ 401) (hl : ws.length ≤ 161) : (ws.map (·.length)).sum + ws.length * (" " : Str).length ≤ 66000 := by
  have h1 := sum_len h
  have h2 : (" " : Str).length = 1 := rfl
  rw [h2]
  have : ws.length * 401 ≤ 161 * 401 := Nat.mul_le_mul_right _ hl
  omega
theorem join_bd {ws : List Str} (h : ∀ w ∈ ws, okWord w) (hl : ws.length ≤ 161) : (Txt.join " " ws).length ≤ 80000 ∧ (Txt.split (Txt.join " " ws) " ").length ≤ 80000 ∧ ∀ x ∈ Txt.split (Txt.join " " ws) " ", x.length ≤ 80000 ∧ uniS x := by
  have h1 : (Txt.join " " ws).length ≤ 66000 := by
    rw [TL.join_eq]
    exact Nat.le_trans (StrLaws.join_length_le _ _) (join_sum (fun w hw => (h w hw).1) hl)
  obtain ⟨h2, h3⟩ := split_bd (Txt.join " " ws) " " (by decide) (by decide +kernel)
  refine ⟨by omega, by omega, fun x hx => ?_⟩
  obtain ⟨h4, h5⟩ := h3 x hx
  refine ⟨by omega, fun c hc => ?_⟩
  have h6 := h5 c hc
  rw [TL.join_eq] at h6
  have h7 : c ∈ TL.joinL (TL.tl " ") (ws.map TL.tl) := by rw [← TL.tl_join]; exact h6
  rcases mem_join h7 with z | ⟨p, hp, z⟩
  · have : ∀ c ∈ TL.tl (" " : Str), c < 1114112 := by decide +kernel
    exact this c z
  · obtain ⟨w, hw, rfl⟩ := List.mem_map.mp hp
    have := (h w hw).2 c z
    omega
theorem num_word {n : Int} (h : okNum n) : okWord (strI n) ∧ 32 ∉ TL.tl (strI n) ∧ decB (strI n) 400 = true ∧ strI n ≠ "0" ∧ PySem.intText? (strI n) = some n := by
  obtain ⟨N, rfl, h1, h2⟩ := okNum_nat h
  have hl := okNum_len h
  have hd := TL.numL_digits N
  obtain ⟨c, l, e, hc⟩ := num_head N h1
  have htl := strI_tl N
  have hne : (strI (N : Int)).cps.toList[0]? = some c := by rw [htl, e]; rfl
  have hpos : 1 ≤ (strI (N : Int)).length := by
    show 1 ≤ (strI (N : Int)).cps.toList.length
    rw [htl, e]
    exact Nat.succ_pos _
  refine ⟨⟨by omega, fun x hx => ?_⟩, ?_, ?_, ?_, ?_⟩
  · rw [htl] at hx
    have := hd x hx
    omega
  · show 32 ∉ (strI (N : Int)).cps.toList
    rw [htl]
    exact fun hm => by have := hd 32 hm; omega
  · unfold decB
    rw [decide_eq_true hpos, decide_eq_true (show ((strI (N : Int)).length : Int) ≤ 400 by omega), hne]
    have h3 : ((strI (N : Int)).cps.toList.all fun c => decide (c ∈ digS.cps.toList)) = true := List.all_eq_true.mpr fun x hx => decide_eq_true (dig_iff.mpr (hd x (by rw [← htl]; exact hx)))
    rw [h3, decide_eq_false (show ¬ (some c = some 48) by simpa using hc)]
    simp
  · intro z
    have := congrArg (fun s : Str => s.cps.toList[0]?) z
    simp only [hne] at this
    have h3 : ("0" : Str).cps.toList[0]? = some 48 := by decide +kernel
    rw [h3] at this
    exact hc (Option.some.inj this)
  · refine TL.int_num ?_
    have : (TL.numL N).length ≤ 390 := TL.numL_len (by decide) h2
    omega
theorem parse_ok {ns : List Int} (h : ∀ n ∈ ns, okNum n) (h0 : ns ≠ []) (hl : ns.length ≤ 400) : Txt.split (Txt.join " " (ns.map strI)) " " = ns.map strI ∧ parseO (.str (Txt.join " " (ns.map strI))) = .val (.list (dInts ns)) := by
  have hs : Txt.split (Txt.join " " (ns.map strI)) " " = ns.map strI := TL.split_join (s := 32) (S := []) (by decide) (by decide +kernel) (by simpa using h0) fun q hq => by
    obtain ⟨n, hn, rfl⟩ := List.mem_map.mp hq
    exact (num_word (h n hn)).2.1
  refine ⟨hs, ?_⟩
  unfold parseO
  simp only [hs]
  have hf : firstBad (ns.map strI) 0 = none := firstBad_none fun k x hk => by
    rw [Nat.zero_add]
    have hkl : k < 400 := by
      have := (List.getElem?_eq_some_iff.mp hk).1
      rw [List.length_map] at this
      omega
    obtain ⟨n, hn, rfl⟩ := List.mem_map.mp (List.mem_of_getElem? hk)
    obtain ⟨_, _, h3, h4, _⟩ := num_word (h n hn)
    unfold badW
    rw [decide_eq_false (by omega), h3, decide_eq_false h4]
    rfl
  rw [hf]
  simp only
  congr 2
  unfold dStrs dInts
  rw [List.map_map, List.map_map]
  refine List.map_congr_left fun n hn => ?_
  show PyData.int ((PySem.intText? (strI n)).getD 0) = _
  rw [(num_word (h n hn)).2.2.2.2]
  rfl
theorem shownAll_ints : ∀ ns : List Int, PyData.shownAll (dInts ns) = ns.map strI
  | [] => rfl
  | n :: ns => by
    show PyData.shown (.int n) :: PyData.shownAll (dInts ns) = _
    rw [shownAll_ints ns]
    rfl
theorem rc_scan {K : PySem.W.Frag} {ns : List Int} (h : ∀ n ∈ ns, okNum n) (hl : ns.length ≤ 400) : RC K (rRepr K) [.list (dInts ns)] (.str (PyData.shown (.list (dInts ns)))) := by
  have h1 : ∀ ns : List Int, noDics (dInts ns) = true := fun ns => by
    induction ns with
    | nil => rfl
    | cons n ns ih => show (noDic (.int n) && noDics (dInts ns)) = true; rw [ih]; rfl
  have h2 : ∀ ns : List Int, (∀ n ∈ ns, okNum n) → PyData.showableAll (dInts ns) = true ∧ PyData.depthAll (dInts ns) = 0 := fun ns => by
    induction ns with
    | nil => exact fun _ => ⟨rfl, rfl⟩
    | cons n ns ih =>
      intro h
      obtain ⟨a, b⟩ := ih fun x hx => h x (List.mem_cons_of_mem _ hx)
      refine ⟨?_, ?_⟩
      · show (PyData.showable (.int n) && PyData.showableAll (dInts ns)) = true
        rw [a, Bool.and_true]
        exact decide_eq_true (Nat.lt_trans (okNum_log (h n (List.mem_cons_self ..))) (by decide))
      · show max (PyData.depth (.int n)) (PyData.depthAll (dInts ns)) = 0
        rw [b]
        rfl
  refine rc_repr (.inr (h1 ns)) rfl (h2 ns h).1 ?_ ?_
  · show PyData.depthAll (dInts ns) + 1 ≤ 60
    rw [(h2 ns h).2]
    decide
  · show (listText (PyData.shownAll (dInts ns))).length ≤ sizeLine
    rw [shownAll_ints]
    unfold listText
    rw [strLen_append]
    have h3 := from_pil (ns.map strI) 0 "["
    have h4 : pil (ns.map strI) ≤ 400 * 392 := by
      unfold pil
      rw [List.map_map]
      have : ∀ ns : List Int, (∀ n ∈ ns, okNum n) → (ns.map ((fun t : Str => t.length + 2) ∘ strI)).sum ≤ ns.length * 392 := fun ns => by
        induction ns with
        | nil => exact fun _ => Nat.zero_le _
        | cons n ns ih =>
          intro h
          have a := ih fun x hx => h x (List.mem_cons_of_mem _ hx)
          have b := okNum_len (h n (List.mem_cons_self ..))
          rw [List.map_cons, List.sum_cons, List.length_cons, Nat.succ_mul]
          show (strI n).length + 2 + _ ≤ _
          omega
      exact Nat.le_trans (this ns h) (Nat.mul_le_mul_right _ hl)
    have h5 : ("[" : Str).length = 1 := rfl
    have h6 : ("]" : Str).length = 1 := rfl
    have h7 : (400 * 392 + 2 : Nat) ≤ sizeLine := by decide
    omega
def odds : List Str := ["", "0", "00", "01", "-1", "+1", "1.", "1_0", "x", "1e3", Txt.mul "9" 400, Txt.mul "9" 401, "1\n2", "0x1"]
theorem odds_ok : ∀ w ∈ odds, okWord w := by
  have h : odds.all (fun w => decide (w.length ≤ 401) && w.cps.toList.all fun c => decide (c < 256)) = true := by decide +kernel
  intro w hw
  have := List.all_eq_true.mp h w hw
  obtain ⟨h1, h2⟩ := Bool.and_eq_true_iff.mp this
  exact ⟨of_decide_eq_true h1, fun c hc => of_decide_eq_true (List.all_eq_true.mp h2 c hc)⟩
theorem cut_strs_to {ws : List Str} {k : Nat} (h : k ≤ ws.length) : Sb.cutD (dStrs ws) none (some (k : Int)) = dStrs (ws.take k) := by
  rw [cut_to (by unfold dStrs; rw [List.length_map]; exact h)]
  unfold dStrs
  rw [List.map_take]
theorem cut_strs_from {ws : List Str} {k : Nat} (h : k ≤ ws.length) : Sb.cutD (dStrs ws) (some (k : Int)) none = dStrs (ws.drop k) := by
  rw [cut_from (by unfold dStrs; rw [List.length_map]; exact h)]
  unfold dStrs
  rw [List.map_drop]
theorem dStrs_app (a b : List Str) : dStrs (a ++ b) = dStrs a ++ dStrs b := List.map_append ..
theorem dStrs_len (a : List Str) : (dStrs a).length = a.length := List.length_map ..
section
variable {P : Program} {w : World} {K : PySem.W.Frag} {mg : Str → Option Value} {base : Heap}
def R_texts : List PyData → Nat → (PyData → Prop) → Prop := fun ds k Φ => ∃ ns, ds = [.list (dInts ns)] ∧ 1 ≤ ns.length ∧ ns.length ≤ 60 ∧ (∀ n ∈ ns, okNum n) ∧ k = 1 ∧ Φ = fun d => d = .bool true
theorem told_eq_fault (T : Tx K mg) {σ : L2.St} {G : Hp} {i : Nat} {v : V} {ws : List Str} {E : XK} (hσ : σ[i]? = some (some v)) (rv : Rp K G (.list (dStrs ws)) v) (h : ∀ w ∈ ws, okWord w) (hl : ws.length ≤ 161) :
    TrD K (tCall (PSp K R_told) [] E (tCons (tM1 (fun x xs H Q => ∃ a p, ∃ ys : List Str, x = .str a ∧ xs = [.ref p] ∧ (SqL K H p (ys.map V.str) ∨ SqT K H p (ys.map V.str)) ∧ (ys.map (·.length)).sum + ys.length * a.length ≤ 16777216 ∧ Q (.str (Txt.join a ys)) H) (tC (.str " ")) (tVar i)) tNil)) σ G (.list (dInts (faultI (Txt.join " " ws)))) ∧
    TrD K (tCall (PSp K R_fault) [] E (tCons (tM1 (fun x xs H Q => ∃ a p, ∃ ys : List Str, x = .str a ∧ xs = [.ref p] ∧ (SqL K H p (ys.map V.str) ∨ SqT K H p (ys.map V.str)) ∧ (ys.map (·.length)).sum + ys.length * a.length ≤ 16777216 ∧ Q (.str (Txt.join a ys)) H) (tC (.str " ")) (tVar i)) tNil)) σ G (.list (dInts (faultI (Txt.join " " ws)))) := by
  obtain ⟨b1, b2, b3⟩ := join_bd h hl
  have hj := Nat.le_trans (join_sum (fun w hw => (h w hw).1) hl) (show (66000 : Nat) ≤ 16777216 by decide)
  refine ⟨d_call0 (a_cons (d_join (ys := ws) d_str (d_var hσ rv) hj) a_nil) ⟨_, rfl, fun t ht => ?_, by rw [toldD_eq]⟩, d_call0 (a_cons (d_join (ys := ws) d_str (d_var hσ rv) hj) a_nil) ⟨_, rfl, b1, b2, b3, by rw [faultL_eq]⟩⟩
  cases ht
  exact ⟨b1, b2, fun x hx => (b3 x hx).1⟩
theorem F__law_texts_right (T : Tx K mg) : Fd P w K mg base CX0 5 "_law_texts_right" (ESp K R_texts) [] := by
  obtain ⟨fd, F⟩ := T.f__law_texts_right
  refine ⟨_, fd, ["reel", "scan"], [], T.g__law_texts_right, F.kp, F.bindsN fun _ _ _ _ _ _ us hl => match us, hl with | [_, _], _ => rfl, .nil, ?_⟩
  refine fnG_of F sc__law_texts_right (fun vs H Q E h => ESp.len (n := 1) (by rintro _ _ _ ⟨d, rfl, _⟩; rfl) h) (fun cdv A outer s H vs Q E hg hr h => ?_)
  obtain ⟨r, wv, G, M, n, k, ds, Φ, rfl, hA, hRL, hws, ⟨ns, rfl, hl0, hl1, hok, rfl, rfl⟩, hn, q⟩ := h
  obtain ⟨v1, _, rfl, r1, rfl⟩ := hws
  refine ⟨_, PSs.nox (pss_cons (ps_par (i := 2) (j := 3) (by rfl) sc__law_texts_right.nd rfl rfl (by decide) rfl rfl (pa_cons (pe_callB (call_reprR hg hr.units) (by rfl) T.n_repr (by decide +kernel) (pa_cons (pv 1) pa_nil)) (pa_cons (pe_lc (own := [("duration", 7)]) (g := gName 7) (by rfl) sc__law_texts_right.nd (pi_list (pv 1)) (blkOk_by (own := [("duration", 7)]) (N := ["reel", "scan", "kept", "words", "at", "odd", "some", "duration"]) (sc := defScope s__law_texts_right) (by decide +kernel)) (fun _ _ _ _ _ => (pg_name (i := 7) sc__law_texts_right.nd rfl (by first | exact Or.inl rfl | exact Or.inr rfl))) (fun _ _ _ _ _ => pts_nil) (fun _ _ _ _ _ => (pe_callTy call_strI (by rfl) T.n_str (by decide +kernel) (pa_cons (pv 7) pa_nil)))) pa_nil)) (by rfl))
    (pss_cons (ps_if (PW.pt (pw_or (pt_cmpR op_ne (pe_fd (F_format_scan (P := P) (w := w) (base := base) T) hg (hr.mono (by decide)) pass0 (pa_cons (pv 1) pa_nil)) (pe_join pe_str (pv 3)) (nomark _)) (pw_or (pt_cmpR op_ne (pe_callB (call_reprR hg hr.units) (by rfl) T.n_repr (by decide +kernel) (pa_cons (pe_fd (F_parse_scan (P := P) (w := w) (base := base) T) hg (hr.mono (by decide)) passL (pa_cons (pe_join pe_str (pv 3)) pa_nil)) pa_nil)) (pv 2) (nomark _)) (pw_or1 (pt_cmpR op_ne (pe_callB (call_reprR hg hr.units) (by rfl) T.n_repr (by decide +kernel) (pa_cons (pv 1) pa_nil)) (pv 2) (nomark _)))))) (pss_one (ps_ret pe_bl)) pss_nil)
    (pss_cons (ps_set (i := 4) sc__law_texts_right.nd rfl (by first | exact Or.inl rfl | exact Or.inr rfl) (pe_fd (F__law_spin (P := P) (w := w) (base := base) T) hg (hr.mono (by decide)) pass0 (pa_cons (pv 0) (pa_cons (pe_callB call_len' (by rfl) T.n_len (by decide +kernel) (pa_cons (pv 3) pa_nil)) pa_nil))))
    (pss_cons (ps_for PassesOwn.never rfl (pi_list (pe_lst (pa_cons pe_str (pa_cons pe_str (pa_cons pe_str (pa_cons pe_str (pa_cons pe_str (pa_cons pe_str (pa_cons pe_str (pa_cons pe_str (pa_cons pe_str (pa_cons pe_str (pa_cons (pe_op op_mulS pe_str pe_int) (pa_cons (pe_op op_mulS pe_str pe_int) (pa_cons pe_str (pa_cons pe_str pa_nil)))))))))))))))) (pg_name (i := 5) sc__law_texts_right.nd rfl (by first | exact Or.inl rfl | exact Or.inr rfl)) (pss_one (ps_for PassesOwn.never rfl (pi_list (pe_lst (pa_cons (pe_op op_cat (pe_op op_cat (pe_slice sl_list (pv 3) po_none (po_some (pv 4))) (pe_lst (pa_cons (pv 5) pa_nil))) (pe_slice sl_list (pv 3) (po_some (pe_op op_add (pv 4) pe_int)) po_none)) (pa_cons (pe_op op_cat (pe_op op_cat (pe_slice sl_list (pv 3) po_none (po_some (pv 4))) (pe_lst (pa_cons (pv 5) pa_nil))) (pe_slice sl_list (pv 3) (po_some (pv 4)) po_none)) (pa_cons (pe_op op_cat (pv 3) (pe_lst (pa_cons (pv 5) pa_nil))) pa_nil))))) (pg_name (i := 6) sc__law_texts_right.nd rfl (by first | exact Or.inl rfl | exact Or.inr rfl)) (pss_one (ps_if (pt_cmpR (op_neR hr.units) (pe_fd (F__law_told (P := P) (w := w) (base := base) T) hg (hr.mono (by decide)) pass0 (pa_cons (pe_join pe_str (pv 6)) pa_nil)) (pe_fd (F__law_fault (P := P) (w := w) (base := base) T) hg (hr.mono (by decide)) pass0 (pa_cons (pe_join pe_str (pv 6)) pa_nil)) (nomark _)) (pss_one (ps_ret pe_bl)) pss_nil)))))
    (pss_one (ps_ret pe_bl)))))), ?_⟩
  rw [show L2.start ["reel", "scan", "kept", "words", "at", "odd", "some", "duration"] [(.ref r), v1] = [some (.ref r), some v1, none, none, none, none, none, none] from rfl]
  dsimp only [xK]
  have hne : ns ≠ [] := fun z => by rw [z] at hl0; cases hl0
  have hWl : (ns.map strI).length = ns.length := List.length_map ..
  have hW : ∀ w ∈ ns.map strI, okWord w := fun w hw => by
    obtain ⟨n, hn, rfl⟩ := List.mem_map.mp hw
    exact (num_word (hok n hn)).1
  have rsc := rc_scan (K := K) hok (by omega)
  obtain ⟨hsp, hpo⟩ := parse_ok hok hne (by omega)
  obtain ⟨b1, b2, b3⟩ := join_bd hW (by omega)
  have hj := Nat.le_trans (join_sum (fun w hw => (hW w hw).1) (show (ns.map strI).length ≤ 161 by omega)) (show (66000 : Nat) ≤ 16777216 by decide)
  have hsum : ((ns.map strI).map (·.length)).sum ≤ 1000000 := by
    have := join_sum (fun w hw => (hW w hw).1) (show (ns.map strI).length ≤ 161 by omega)
    omega
  refine q_par (d1 := .str (PyData.shown (.list (dInts ns)))) (d2 := .list (dStrs (ns.map strI))) (d_cb (a_cons (d_var rfl r1) a_nil) rsc) (TrD.to (d_lcL (p := fun _ => true) (f := strD) (d_var rfl r1) (by rw [dInts_len]; omega) (fun _ _ _ _ _ _ => b_yes) fun d hd _ x G2 e2 rx => ?_) ?_) hA fun v2 v3 G1 H1 e1 A1 r2 r3 => ?_
  · obtain ⟨n, hn, rfl⟩ := mem_ints hd
    exact d_cb (a_cons (d_var rfl rx) a_nil) (rc_strI (Nat.lt_trans (okNum_log (hok n hn)) (by decide)))
  · rw [filt_true]
    unfold dInts dStrs
    rw [List.map_map, List.map_map]
    rfl
  have r1' := r1.up e1
  refine q_guardF (b_orF (TrB.to (b_T (d_op (d_call0 (a_cons (d_var rfl r1') a_nil) ⟨ns, rfl, ⟨by omega, by omega, fun n hn => ⟨(hok n hn).1, okNum_log (hok n hn)⟩⟩, hsum, rfl⟩) (d_join (ys := ns.map strI) d_str (d_var rfl r3) hj) rd_neS)) (by rw [decide_eq_true rfl]; rfl)) (b_orF (TrB.to (b_T (d_op (d_cb (a_cons (d_callX (a_cons (d_join (ys := ns.map strI) d_str (d_var rfl r3) hj) a_nil) ⟨_, rfl, fun t ht => by cases ht; exact ⟨b1, b2, fun x hx => (b3 x hx).1⟩, hpo.symm⟩) a_nil) rsc) (d_var rfl r2) rd_neS)) (by rw [decide_eq_true rfl]; rfl)) (TrB.to (b_T (d_op (d_cb (a_cons (d_var rfl r1') a_nil) rsc) (d_var rfl r2) rd_neS)) (by rw [decide_eq_true rfl]; rfl)))) A1 fun G2 H2 e2 A2 => ?_
  have r3' := r3.up e2
  refine q_setE (Φ := RI 0 (ns.length - 1)) (spin_call rfl (e_D (d_cb (a_cons (d_var rfl r3') a_nil) rc_lenL) ⟨_, rfl, by rw [dStrs_len, hWl]; omega, by rw [dStrs_len, hWl]; omega, fun d h => by rw [dStrs_len, hWl] at h; exact h⟩) (by omega)) A2 .refl hRL fun d v4 G3 M3 H3 e3 A3 S3 R3 hd r4 => ?_
  obtain ⟨ai, rfl, a0, a1⟩ := hd
  obtain ⟨aN, rfl⟩ := Int.eq_ofNat_of_zero_le a0
  have haN : aN < (ns.map strI).length := by omega
  have r3'' := r3'.up e3
  have hodds : TrD K _ [some (.ref r), some v1, some v2, some v3, some v4, none, none, none] G3 (.list (dStrs odds)) := d_lst (a_cons d_str (a_cons d_str (a_cons d_str (a_cons d_str (a_cons d_str (a_cons d_str (a_cons d_str (a_cons d_str (a_cons d_str (a_cons d_str (a_cons (d_op d_str d_int (rd_mulS (mulOk_of (by decide) (by decide) (by decide)))) (a_cons (d_op d_str d_int (rd_mulS (mulOk_of (by decide) (by decide) (by decide)))) (a_cons d_str (a_cons d_str a_nil)))))))))))))) (Nat.le_of_ble_eq_true rfl)
  refine s_seq (s_forLI (fun k σ G M => ∃ x5 x6 : Option V, σ = [some (.ref r), some v1, some v2, some v3, some v4, x5, x6, none] ∧ M = M3) hodds A3 (fun e h => h) ⟨none, none, rfl, rfl⟩ (fun k d hk x5 σ1 G4 M4 H4 e4 A4 hI rx5 Nx hN => ?_) fun σ1 G4 M4 H4 e4 A4 hI => ?_)
  · obtain ⟨y5, y6, rfl, rfl⟩ := hI
    obtain ⟨od, hod, rfl⟩ := mem_strs (List.mem_of_getElem? hk)
    have hodk := odds_ok od hod
    have r3q := r3''.up e4
    have r4q := r4.up e4
    let s1 : List Str := (ns.map strI).take aN ++ [od] ++ (ns.map strI).drop (aN + 1)
    let s2 : List Str := (ns.map strI).take aN ++ [od] ++ (ns.map strI).drop aN
    let s3 : List Str := ns.map strI ++ [od]
    have hs : ∀ s ∈ [s1, s2, s3], (∀ w ∈ s, okWord w) ∧ s.length ≤ 161 := by
      intro s hs
      have hto : ((ns.map strI).take aN).length ≤ 60 := by rw [List.length_take]; omega
      have hf1 : ((ns.map strI).drop (aN + 1)).length ≤ 60 := by rw [List.length_drop]; omega
      have hf2 : ((ns.map strI).drop aN).length ≤ 60 := by rw [List.length_drop]; omega
      have hod1 : ∀ w ∈ [od], okWord w := fun w hw => by rw [List.mem_singleton.mp hw]; exact hodk
      rcases List.mem_cons.mp hs with rfl | hs
      · refine ⟨fun w hw => ?_, by simp only [s1, List.length_append, List.length_singleton]; omega⟩
        rcases List.mem_append.mp hw with hw | hw
        · rcases List.mem_append.mp hw with hw | hw
          · exact hW w (List.mem_of_mem_take hw)
          · exact hod1 w hw
        · exact hW w (List.mem_of_mem_drop hw)
      rcases List.mem_cons.mp hs with rfl | hs
      · refine ⟨fun w hw => ?_, by simp only [s2, List.length_append, List.length_singleton]; omega⟩
        rcases List.mem_append.mp hw with hw | hw
        · rcases List.mem_append.mp hw with hw | hw
          · exact hW w (List.mem_of_mem_take hw)
          · exact hod1 w hw
        · exact hW w (List.mem_of_mem_drop hw)
      · rw [List.mem_singleton.mp hs]
        refine ⟨fun w hw => ?_, by simp only [s3, List.length_append, List.length_singleton]; omega⟩
        rcases List.mem_append.mp hw with hw | hw
        · exact hW w hw
        · exact hod1 w hw
    have h1 : TrD K (tOp rCat (tOp rCat (tSl (rSlL K) (tVar 3) tNoPart (tPart (tVar 4))) (tLst (tCons (tVar 5) tNil))) (tSl (rSlL K) (tVar 3) (tPart (tOp (rI0 fun i j => V.int (i + j)) (tVar 4) (tC (V.int 1)))) tNoPart)) [some (.ref r), some v1, some v2, some v3, some v4, some x5, y6, none] G4 (.list (dStrs s1)) := by
      have ea : ((aN : Int) + 1) = ((aN + 1 : Nat) : Int) := by omega
      refine TrD.to (d_op (d_op (d_slL (d_var rfl r3q) o_none (o_some (d_var rfl r4q))) (d_lst (a_cons (d_var rfl rx5) a_nil) (Nat.le_of_ble_eq_true rfl)) (rd_cat ?_)) (d_slL (d_var rfl r3q) (o_some (d_op (d_var rfl r4q) d_int rd_add)) o_none) (rd_cat ?_)) ?_
      · rw [cut_strs_to (by omega), dStrs_len, List.length_take]
        show _ + 1 ≤ 100000
        omega
      · rw [ea, cut_strs_to (by omega), cut_strs_from (by omega), List.length_append, dStrs_len, dStrs_len, List.length_take, List.length_drop]
        show _ + 1 + _ ≤ 100000
        omega
      · rw [ea, cut_strs_to (by omega), cut_strs_from (by omega)]
        show PyData.list _ = .list (dStrs ((ns.map strI).take aN ++ [od] ++ (ns.map strI).drop (aN + 1)))
        rw [dStrs_app, dStrs_app]
        rfl
    have h2 : TrD K (tOp rCat (tOp rCat (tSl (rSlL K) (tVar 3) tNoPart (tPart (tVar 4))) (tLst (tCons (tVar 5) tNil))) (tSl (rSlL K) (tVar 3) (tPart (tVar 4)) tNoPart)) [some (.ref r), some v1, some v2, some v3, some v4, some x5, y6, none] G4 (.list (dStrs s2)) := by
      refine TrD.to (d_op (d_op (d_slL (d_var rfl r3q) o_none (o_some (d_var rfl r4q))) (d_lst (a_cons (d_var rfl rx5) a_nil) (Nat.le_of_ble_eq_true rfl)) (rd_cat ?_)) (d_slL (d_var rfl r3q) (o_some (d_var rfl r4q)) o_none) (rd_cat ?_)) ?_
      · rw [cut_strs_to (by omega), dStrs_len, List.length_take]
        show _ + 1 ≤ 100000
        omega
      · rw [cut_strs_to (by omega), cut_strs_from (by omega), List.length_append, dStrs_len, dStrs_len, List.length_take, List.length_drop]
        show _ + 1 + _ ≤ 100000
        omega
      · rw [cut_strs_to (by omega), cut_strs_from (by omega)]
        show PyData.list _ = .list (dStrs ((ns.map strI).take aN ++ [od] ++ (ns.map strI).drop aN))
        rw [dStrs_app, dStrs_app]
        rfl
    have h3 : TrD K (tOp rCat (tVar 3) (tLst (tCons (tVar 5) tNil))) [some (.ref r), some v1, some v2, some v3, some v4, some x5, y6, none] G4 (.list (dStrs s3)) := by
      refine TrD.to (d_op (d_var rfl r3q) (d_lst (a_cons (d_var rfl rx5) a_nil) (Nat.le_of_ble_eq_true rfl)) (rd_cat ?_)) ?_
      · rw [dStrs_len]
        show _ + 1 ≤ 100000
        omega
      · show PyData.list _ = .list (dStrs (ns.map strI ++ [od]))
        rw [dStrs_app]
        rfl
    refine s_forLI (ds := [.list (dStrs s1), .list (dStrs s2), .list (dStrs s3)]) (fun k σ G M => ∃ x6 : Option V, σ = [some (.ref r), some v1, some v2, some v3, some v4, some x5, x6, none] ∧ M = M4) (d_lst (a_cons h1 (a_cons h2 (a_cons h3 a_nil))) (Nat.le_of_ble_eq_true rfl)) A4 (fun e h => h) ⟨y6, rfl, rfl⟩ (fun j d hj x6 σ2 G5 M5 H5 e5 A5 hI rx6 Nx2 hN2 => ?_) fun σ2 G5 M5 H5 e5 A5 hI => ?_
    · obtain ⟨y6', rfl, rfl⟩ := hI
      obtain ⟨s, hsm, rfl⟩ : ∃ s, s ∈ [s1, s2, s3] ∧ d = .list (dStrs s) := by
        have := List.mem_of_getElem? hj
        rcases List.mem_cons.mp this with rfl | this
        · exact ⟨s1, by simp, rfl⟩
        rcases List.mem_cons.mp this with rfl | this
        · exact ⟨s2, by simp, rfl⟩
        · exact ⟨s3, by simp, List.mem_singleton.mp this⟩
      obtain ⟨k1, k2⟩ := hs s hsm
      obtain ⟨t1, t2⟩ := told_eq_fault T (σ := [some (.ref r), some v1, some v2, some v3, some v4, some x5, some x6, none]) (i := 6) (E := E0) rfl rx6 k1 k2
      refine s_ifF (TrB.to (b_T (d_op t1 t2 (rd_neR (shaped_intsL _) (shaped_intsL _)))) ?_) A5 fun G6 H6 e6 A6 => s_next (hN2 _ G6 M5 H6 e6 A6 ⟨_, rfl, rfl⟩)
      rw [eqv_ints, decide_eq_true rfl]
      rfl
    · obtain ⟨y6', rfl, rfl⟩ := hI
      exact hN _ G5 M5 H5 e5 A5 ⟨_, _, rfl, rfl⟩
  · obtain ⟨y5, y6, rfl, rfl⟩ := hI
    exact s_ret (σ := [some (.ref r), some v1, some v2, some v3, some v4, y5, y6, none]) (D := { nx := fun _ H' => Q .non H', rt := Q }) d_bl A4 fun v G5 H5 e5 A5 rv => q _ v G5 M4 H5 ((((e1.trans e2).trans e3).trans e4).trans e5) A5 S3 R3 rfl rv
end
end K81

namespace K81
open PySem PySem.Spec PyProof.Rows L2 Sb
local macro_rules | `(tactic| walk_at "ex") => `(tactic| first | exact Ex.refl _ | assumption | (refine' Ex.trans ?_ (by assumption); walk_at "ex"))
local macro_rules | `(tactic| walk_at "rp") => `(tactic| first | assumption | (refine' Rp.up ?e (by assumption); (case e => walk_at "ex")) | exact rfl)
local macro_rules | `(tactic| walk_at "rd") => `(tactic| with_reducible first | exact rd_add | exact rd_sub | exact rd_lt | exact rd_le | exact rd_gt | exact rd_ge | exact rd_eqI | exact rd_neI | exact rd_eqS | exact rd_neS | exact rd_isN | exact rd_ltS | exact rd_inSign | exact rd_eqE)
local macro_rules | `(tactic| walk_at "tr") => `(tactic| first
  | with_reducible exact d_int
  | with_reducible exact d_str
  | with_reducible exact d_bl
  | with_reducible exact d_non
  | with_reducible exact a_nil
  | with_reducible exact b_yes
  | with_reducible exact o_none
  | with_reducible exact d_newD
  | ((with_reducible refine' d_var ?i ?r); (case i => rfl); (case r => walk_at "rp"))
  | ((with_reducible refine' a_cons ?a ?b); (case a => walk_at "tr"); (case b => walk_at "tr"))
  | ((with_reducible refine' a_star ?a ?b); (case a => walk_at "tr"); (case b => walk_at "tr"))
  | ((with_reducible refine' d_isi ?a ?b); (case a => walk_at "tr"); (case b => decide))
  | ((with_reducible refine' d_op ?a ?b ?c); (case a => walk_at "tr"); (case b => walk_at "tr"); (case c => walk_at "rd"))
  | ((with_reducible refine' d_tup ?a ?b); (case a => walk_at "tr"); (case b => first | decide | (simp; done)))
  | ((with_reducible refine' d_lst ?a ?b); (case a => walk_at "tr"); (case b => first | decide | (simp; done)))
  | ((with_reducible refine' o_some ?a); (case a => walk_at "tr"))
  | ((with_reducible refine' b_B ?a); (case a => walk_at "tr"))
  | ((with_reducible refine' b_T ?a); (case a => walk_at "tr"))
  | ((with_reducible refine' b_not ?a); (case a => walk_at "tr"))
  | ((with_reducible refine' v_not ?a); (case a => walk_at "tr"))
  | ((with_reducible refine' b_or ?a ?b); (case a => walk_at "tr"); (case b => intro _; walk_at "tr"))
  | ((with_reducible refine' b_and ?a ?b); (case a => walk_at "tr"); (case b => intro _; walk_at "tr"))
  | ((with_reducible refine' v_or ?a ?b); (case a => walk_at "tr"); (case b => intro _; walk_at "tr"))
  | ((with_reducible refine' v_and ?a ?b); (case a => walk_at "tr"); (case b => intro _; walk_at "tr"))
  | assumption)


theorem chrs_join : ∀ {ys : List Str}, (∀ x ∈ ys, x.length = 1) → chrs (Txt.join "" ys) = ys := by
  intro ys h
  have e : TL.tl (Txt.join "" ys) = TL.joinL [] (ys.map TL.tl) := by rw [TL.join_eq, TL.tl_join]; rfl
  have e2 : chrs (Txt.join "" ys) = (TL.tl (Txt.join "" ys)).map fun c => ⟨#[c]⟩ := rfl
  rw [e2, e]
  clear e e2
  induction ys with
  | nil => rfl
  | cons y ys ih =>
    obtain ⟨c, rfl⟩ := one_sign (h y (List.mem_cons_self ..))
    rw [List.map_cons, joinE, List.map_append, ih fun x hx => h x (List.mem_cons_of_mem _ hx)]
    rfl
theorem chrs_size (t : Str) : t.cps.size = (chrs t).length := (chrs_len t).symm
section
variable {P : Program} {w : World} {K : PySem.W.Frag} {mg : Str → Option Value} {base : Heap}
def R_bright : List PyData → Nat → (PyData → Prop) → Prop := fun ds k Φ => ∃ c : CodeD, ds = [c.d] ∧ c.ok ∧ k = 30 ∧ Φ = fun d => d = .bool true
theorem F__law_bars_right (T : Tx K mg) : Fd P w K mg base CX0 8 "_law_bars_right" (ESp K R_bright) [] := by
  obtain ⟨fd, F⟩ := T.f__law_bars_right
  refine ⟨_, fd, ["reel", "code"], [], T.g__law_bars_right, F.kp, F.bindsN fun _ _ _ _ _ _ us hl => match us, hl with | [_, _], _ => rfl, .nil, ?_⟩
  refine fnG_of F sc__law_bars_right (fun vs H Q E h => ESp.len (n := 1) (by rintro _ _ _ ⟨d, rfl, _⟩; rfl) h) (fun cdv A outer s H vs Q E hg hr h => ?_)
  obtain ⟨r, wv, G, M, n, k, ds, Φ, rfl, hA, hRL, hws, ⟨c, rfl, ok, rfl, rfl⟩, hn, q⟩ := h
  obtain ⟨v1, _, rfl, r1, rfl⟩ := hws
  refine ⟨_, PSs.nox (pss_cons (ps_asg (pe_tup (pa_cons (pe_callB (call_sortedD' rfl) (by rfl) T.n_sorted (by decide +kernel) (pa_cons (pe_ix ix_tup (pv 1) pe_int (fun _ _ => rfl)) pa_nil)) (pa_cons pe_str pa_nil))) (pg_tup (by rfl) (pgs_cons (pg_name (i := 2) sc__law_bars_right.nd rfl (by first | exact Or.inl rfl | exact Or.inr rfl)) (pgs_cons (pg_name (i := 3) sc__law_bars_right.nd rfl (by first | exact Or.inl rfl | exact Or.inr rfl)) pgs_nil))))
    (pss_cons (ps_set (i := 4) sc__law_bars_right.nd rfl (by first | exact Or.inl rfl | exact Or.inr rfl) (pe_join pe_str (pe_lc (own := [("turn", 7)]) (g := gName 7) (by rfl) sc__law_bars_right.nd (pi_range1 (by rfl) T.n_range (pa_cons (pe_fd (F__law_spin (P := P) (w := w) (base := base) T) hg (hr.mono (by decide)) pass0 (pa_cons (pv 0) (pa_cons pe_int pa_nil))) pa_nil)) (blkOk_by (own := [("turn", 7)]) (N := ["reel", "code", "names", "found", "text", "spot", "width", "turn"]) (sc := defScope s__law_bars_right) (by decide +kernel)) (fun _ _ _ _ _ => (pg_name (i := 7) sc__law_bars_right.nd rfl (by first | exact Or.inl rfl | exact Or.inr rfl))) (fun _ _ _ _ _ => pts_nil) (fun _ _ _ _ _ => (pe_ix (show IxR _ (rIxL K) from ix_list) (pv 2) (pe_fd (F__law_spin (P := P) (w := w) (base := base) T) hg (hr.mono (by decide)) pass0 (pa_cons (pv 0) (pa_cons (pe_callB (show CallR _ _ (Sb.rLen K) from call_len') (by rfl) T.n_len (by decide +kernel) (pa_cons (pv 2) pa_nil)) pa_nil))) (fun _ _ => rfl))))))
    (pss_cons (ps_for PassesOwn.never rfl (pi_enum (by rfl) T.n_enumerate (pa_cons (pe_fd (F__law_row_of (P := P) (w := w) (base := base) T) hg (hr.mono (by decide)) pass0 (pa_cons (pv 1) (pa_cons (pv 4) pa_nil))) pa_nil)) (pg_tup (by rfl) (pgs_cons (pg_name (i := 5) sc__law_bars_right.nd rfl (by first | exact Or.inl rfl | exact Or.inr rfl)) (pgs_cons (pg_name (i := 6) sc__law_bars_right.nd rfl (by first | exact Or.inl rfl | exact Or.inr rfl)) pgs_nil))) (pss_one (ps_set (i := 3) sc__law_bars_right.nd rfl (by first | exact Or.inl rfl | exact Or.inr rfl) (pe_op op_add_str (pv 3) (pe_op op_mulS (pe_ix ix_list (pe_lst (pa_cons pe_str (pa_cons pe_str pa_nil))) (pe_op op_mod (pe_callTy call_int1' (by rfl) T.n_int (by decide +kernel) (pa_cons (pv 5) pa_nil)) pe_int) (fun _ _ => rfl)) (pv 6))))))
    (pss_one (ps_ret (pe_cmpR op_eq (pe_fd (F_bars (P := P) (w := w) (base := base) T) hg (hr.mono (by decide)) pass0 (pa_cons (pv 1) (pa_cons (pv 4) pa_nil))) (pv 3) (nomark _))))))), ?_⟩
  rw [show L2.start ["reel", "code", "names", "found", "text", "spot", "width", "turn"] [(.ref r), v1] = [some (.ref r), some v1, none, none, none, none, none, none] from rfl]
  dsimp only [xK]
  have hcl := ok.cs.l2
  have hcl1 := ok.cs.l1
  have hck : (chD c.cs).length = c.cs.length := by simp [chD]
  have hsl : (nmsT c).length = c.cs.length := nmsT_len c
  refine q_unpack (d_tup (a_cons (d_cb (a_cons (d_op (d_var rfl r1) d_int (rd_ixT rfl)) a_nil) (rc_sortD (kvs := chD c.cs) (by omega))) (a_cons d_str a_nil)) (Nat.le_of_ble_eq_true rfl)) rfl hA ?_
  rintro _ G1 H1 e1 A1 ⟨v2, _, rfl, r2, v3, _, rfl, r3, rfl⟩
  refine ⟨v2, _, rfl, v3, _, rfl, rfl, ?_⟩
  have r2' : Rp K G1 (.list (dStrs (nmsT c))) v2 := by
    rw [chD_keys] at r2
    exact r2
  refine q_setE (n' := n + 1 + 19 * 1) (Φ := fun d => ∃ t, d = .str t ∧ isTextD c (.str t) = true ∧ t.cps.size ≤ 19) (e_join (Ψ := fun ys => ys.length ≤ 19 ∧ ∀ x ∈ ys, x ∈ nmsT c) (e_lcR (c := 19) (step := 1) (Φ0 := fun z => z ≤ 19) (Φ1 := fun d => ∃ x ∈ nmsT c, d = .str x) ((spin_c rfl (by decide) (by decide) (by omega)).imp fun d ⟨i, h, h0, h1⟩ => ⟨i, h, by omega, h0, by omega⟩) (by decide) (fun M1 x t ht => ?_) fun z ds hz19 hl hall => ?_) (fun ys hy => ?_) fun ys hy => ?_) A1 .refl hRL fun d v4 G2 M2 H2 e2 A2 S2 R2 hd r4 => ?_
  · refine e_op (Φ1 := fun d => d = .list (dStrs (nmsT c))) (Φ2 := RI 0 ((nmsT c).length - 1)) (e_D (d_var rfl r2') rfl) (fun _ _ => (spin_call rfl (e_D (d_cb (a_cons (d_var rfl r2') a_nil) rc_lenL) ⟨_, rfl, by rw [dStrs_len]; omega, by rw [dStrs_len]; omega, fun d h => by rw [dStrs_len] at h; exact h⟩) (by omega))) ?_
    rintro _ _ rfl ⟨i, rfl, i0, i1⟩
    obtain ⟨iN, rfl⟩ := Int.eq_ofNat_of_zero_le i0
    have hi : iN < (nmsT c).length := by omega
    refine ⟨_, rd_ixL (at_dat (by rw [dStrs_len]; exact hi)), (nmsT c)[iN], List.getElem_mem hi, ?_⟩
    unfold dStrs
    rw [List.getElem_map]
  · have : ∃ ys, ds = dStrs ys ∧ ∀ x ∈ ys, x ∈ nmsT c := by
      clear hl
      induction ds with
      | nil => exact ⟨[], rfl, fun _ h => by cases h⟩
      | cons d ds ih =>
        obtain ⟨ys, rfl, hy⟩ := ih fun x hx => hall x (List.mem_cons_of_mem _ hx)
        obtain ⟨x, hx, rfl⟩ := hall d (List.mem_cons_self ..)
        refine ⟨x :: ys, rfl, fun z hz => ?_⟩
        rcases List.mem_cons.mp hz with rfl | hz
        · exact hx
        · exact hy z hz
    obtain ⟨ys, rfl, hy⟩ := this
    rw [dStrs_len] at hl
    exact ⟨ys, rfl, by omega, hy⟩
  · have h1 := sum_len (c := 1) (ss := ys) fun x hx => Nat.le_of_eq (name_len (wsOf_of ok (nmsT_mem (hy.2 x hx))).1)
    have h2 : ("" : Str).length = 0 := rfl
    rw [h2]
    have := hy.1
    omega
  · have hc := chrs_join (ys := ys) fun x hx => name_len (wsOf_of ok (nmsT_mem (hy.2 x hx))).1
    refine ⟨_, rfl, ?_, by rw [chrs_size, hc]; exact hy.1⟩
    show (chrs (Txt.join "" ys)).all _ = true
    rw [hc]
    exact List.all_eq_true.mpr fun x hx => decide_eq_true (nmsT_mem (hy.2 x hx))
  obtain ⟨t, rfl, ht, hz⟩ := hd
  have r1' := r1.up (e1.trans e2)
  have hrl := rowL_len ok ht (by omega)
  have hro := rowL_ok ok ht
  refine s_seq (s_forEI (fun k σ G M => ∃ v3 a b, σ = [some (.ref r), some v1, some v2, some v3, some v4, a, b, none] ∧ M = M2 ∧ Rp K G (.str (catS ((piecesL (rowL c t)).take k))) v3) (d_call0 (a_cons (d_var rfl r1') (a_cons (d_var rfl r4) a_nil)) ⟨c, t, rfl, ok, by omega, ht, rfl⟩) A2 ?_ ⟨v3, none, none, rfl, rfl, r3⟩ (fun k d hk x σ1 G3 M3 H3 e3 A3 hI rx Nx hN => ?_) fun σ1 G3 M3 H3 e3 A3 hI => ?_)
  · rintro k σ1 Ga Gb M1 e ⟨v, a, b, h1, h2, h3⟩
    exact ⟨v, a, b, h1, h2, h3.up e⟩
  · obtain ⟨w3, a, b, rfl, rfl, r3'⟩ := hI
    obtain ⟨nn, hnn, rfl⟩ : ∃ nn, (rowL c t)[k]? = some nn ∧ d = .int nn := by
      unfold dInts at hk
      rw [List.getElem?_map] at hk
      cases z : (rowL c t)[k]? with
      | none => rw [z] at hk; cases hk
      | some nn => rw [z] at hk; exact ⟨nn, rfl, (Option.some.inj hk).symm⟩
    have hn4 := hro nn (List.mem_of_getElem? hnn)
    have hp := piece_ok hn4 k
    have hpk : (piecesL (rowL c t))[k]? = some (pieceS nn k) := by
      unfold piecesL
      rw [List.getElem?_map, List.getElem?_zipIdx, hnn]
      simp
    have htk : (piecesL (rowL c t)).take (k + 1) = (piecesL (rowL c t)).take k ++ [pieceS nn k] := by rw [List.take_add_one, hpk]; rfl
    have hsel : L2.atI [PyData.str "|", .str "."] ((k : Int) % 2) = some (.str (if k % 2 = 0 then "|" else ".")) := by
      by_cases h : k % 2 = 0
      · rw [if_pos h, show (k : Int) % 2 = 0 by omega]
        rfl
      · rw [if_neg h, show (k : Int) % 2 = 1 by omega]
        rfl
    have hlen : (catS ((piecesL (rowL c t)).take k)).length ≤ 33000 := by
      have h1 := cat_len ((piecesL (rowL c t)).take k) "" 4 fun x hx => pieces_each hro x (List.mem_of_mem_take hx)
      have h2 : ((piecesL (rowL c t)).take k).length ≤ 8014 := by
        rw [List.length_take, pieces_len]
        omega
      have h3 : ("" : Str).length = 0 := rfl
      have h4 : ((piecesL (rowL c t)).take k).length * 4 ≤ 8014 * 4 := Nat.mul_le_mul_right _ h2
      have e0 : catS ((piecesL (rowL c t)).take k) = ((piecesL (rowL c t)).take k).foldl (fun a b => a ++ b) ("" : Str) := rfl
      rw [e0]
      omega
    refine s_set (d_op (d_var rfl r3') (d_op (d_op (d_lst (a_cons d_str (a_cons d_str a_nil))) (d_op (d_cb (a_cons (d_var (K := K) rfl (d := .int k) rfl) a_nil) rc_int1) d_int (rd_mod (by decide))) (rd_ixL hsel)) (d_var rfl rx) (rd_mulS hp.1)) (rd_addS ?_)) A3 fun w3' G4 H4 e4 A4 r3'' => ?_
    · have h5 : (33000 + 4 : Nat) ≤ sizeLine := by decide
      exact Nat.le_trans (Nat.add_le_add hlen hp.2) h5
    · refine hN _ G4 M3 H4 e4 A4 ⟨w3', _, _, rfl, rfl, ?_⟩
      rw [htk, catS_snoc]
      exact r3''
  · obtain ⟨w3, a, b, rfl, rfl, r3'⟩ := hI
    rw [dInts_len, ← pieces_len, List.take_length] at r3'
    refine s_ret (σ := [some (.ref r), some v1, some v2, some w3, some v4, a, b, none]) (D := { nx := fun _ H' => Q .non H', rt := Q }) (TrD.to (d_op (d_call0 (a_cons (d_var rfl (r1'.up e3)) (a_cons (d_var rfl (r4.up e3)) a_nil)) ⟨c, t, rfl, ok, by omega, ht, rfl⟩) (d_var rfl r3') rd_eqS) (d2 := .bool true) ?_) A3 fun v G5 H5 e5 A5 rv => q _ v G5 M3 H5 (((e1.trans e2).trans e3).trans e5) A5 S2 (R2.le (by omega)) rfl rv
    rw [show barsT c t = catS (piecesL (rowL c t)) from rfl, decide_eq_true rfl]
end
end K81

namespace K81
open PySem PySem.Spec PyProof.Rows L2 Sb
local macro_rules | `(tactic| walk_at "ex") => `(tactic| first | exact Ex.refl _ | assumption | (refine' Ex.trans ?_ (by assumption); walk_at "ex"))
local macro_rules | `(tactic| walk_at "rp") => `(tactic| first | assumption | (refine' Rp.up ?e (by assumption); (case e => walk_at "ex")) | exact rfl)
local macro_rules | `(tactic| walk_at "rd") => `(tactic| with_reducible first | exact rd_add | exact rd_sub | exact rd_lt | exact rd_le | exact rd_gt | exact rd_ge | exact rd_eqI | exact rd_neI | exact rd_eqS | exact rd_neS | exact rd_isN | exact rd_ltS | exact rd_inSign | exact rd_eqE)
local macro_rules | `(tactic| walk_at "tr") => `(tactic| first
  | with_reducible exact d_int
  | with_reducible exact d_str
  | with_reducible exact d_bl
  | with_reducible exact d_non
  | with_reducible exact a_nil
  | with_reducible exact b_yes
  | with_reducible exact o_none
  | with_reducible exact d_newD
  | ((with_reducible refine' d_var ?i ?r); (case i => rfl); (case r => walk_at "rp"))
  | ((with_reducible refine' a_cons ?a ?b); (case a => walk_at "tr"); (case b => walk_at "tr"))
  | ((with_reducible refine' a_star ?a ?b); (case a => walk_at "tr"); (case b => walk_at "tr"))
  | ((with_reducible refine' d_isi ?a ?b); (case a => walk_at "tr"); (case b => decide))
  | ((with_reducible refine' d_op ?a ?b ?c); (case a => walk_at "tr"); (case b => walk_at "tr"); (case c => walk_at "rd"))
  | ((with_reducible refine' d_tup ?a ?b); (case a => walk_at "tr"); (case b => first | decide | (simp; done)))
  | ((with_reducible refine' d_lst ?a ?b); (case a => walk_at "tr"); (case b => first | decide | (simp; done)))
  | ((with_reducible refine' o_some ?a); (case a => walk_at "tr"))
  | ((with_reducible refine' b_B ?a); (case a => walk_at "tr"))
  | ((with_reducible refine' b_T ?a); (case a => walk_at "tr"))
  | ((with_reducible refine' b_not ?a); (case a => walk_at "tr"))
  | ((with_reducible refine' v_not ?a); (case a => walk_at "tr"))
  | ((with_reducible refine' b_or ?a ?b); (case a => walk_at "tr"); (case b => intro _; walk_at "tr"))
  | ((with_reducible refine' b_and ?a ?b); (case a => walk_at "tr"); (case b => intro _; walk_at "tr"))
  | ((with_reducible refine' v_or ?a ?b); (case a => walk_at "tr"); (case b => intro _; walk_at "tr"))
  | ((with_reducible refine' v_and ?a ?b); (case a => walk_at "tr"); (case b => intro _; walk_at "tr"))
  | assumption)


def W7 (k : Nat) : List Str := List.replicate k "7"
theorem w7_map (k : Nat) : (List.replicate k (7 : Int)).map strI = W7 k := by
  unfold W7
  rw [List.map_replicate]
  rfl
theorem rep_one {α : Type} (k : Nat) (x : α) : (List.replicate k [x]).flatten = List.replicate k x := List.flatten_replicate_singleton
theorem dStrs_rep (k : Nat) (x : Str) : dStrs (List.replicate k x) = List.replicate k (.str x) := List.map_replicate
theorem dInts_rep (k : Nat) (x : Int) : dInts (List.replicate k x) = List.replicate k (.int x) := List.map_replicate
def okS (w : Str) : Prop := w.length ≤ 2 ∧ 32 ∉ TL.tl w
theorem okS7 : okS "7" := by unfold okS; decide +kernel
theorem okS0 : okS "0" := by unfold okS; decide +kernel
theorem okSx : okS "x" := by unfold okS; decide +kernel
theorem okS07 : okS "07" := by unfold okS; decide +kernel
theorem words_split {ws : List Str} (h0 : ws ≠ []) (h : ∀ w ∈ ws, okS w) : Txt.split (Txt.join " " ws) " " = ws := TL.split_join (s := 32) (S := []) (by decide) (by decide +kernel) h0 fun q hq => (h q hq).2
theorem words_sum {ws : List Str} (h : ∀ w ∈ ws, okS w) (hl : ws.length ≤ 401) : (ws.map (·.length)).sum + ws.length * (" " : Str).length ≤ 2000 := by
  have h1 := sum_len (c := 2) fun w hw => (h w hw).1
  have h2 : (" " : Str).length = 1 := rfl
  rw [h2]
  omega
theorem words_bd {ws : List Str} (h0 : ws ≠ []) (h : ∀ w ∈ ws, okS w) (hl : ws.length ≤ 401) : (Txt.join " " ws).length ≤ 80000 ∧ (Txt.split (Txt.join " " ws) " ").length ≤ 80000 ∧ ∀ x ∈ Txt.split (Txt.join " " ws) " ", x.length ≤ 80000 := by
  rw [words_split h0 h]
  refine ⟨?_, by omega, fun x hx => Nat.le_trans (h x hx).1 (by decide)⟩
  rw [TL.join_eq]
  exact Nat.le_trans (Nat.le_trans (StrLaws.join_length_le _ _) (words_sum h hl)) (by decide)
theorem w7_good {q : Nat} (h : q < 400) : badW q "7" = false := by
  have e : decB "7" 400 = true := by decide +kernel
  have e2 : decide (("7" : Str) = "0") = false := by decide +kernel
  unfold badW
  rw [e, e2, decide_eq_false (by omega)]
  rfl
theorem odd_bad {q : Nat} {od : Str} (h : od = "0" ∨ od = "x" ∨ od = "07") : badW q od = true := by
  have e0 : (!decB "0" 400 || decide (("0" : Str) = "0")) = true := by decide +kernel
  have e1 : (!decB "x" 400 || decide (("x" : Str) = "0")) = true := by decide +kernel
  have e2 : (!decB "07" 400 || decide (("07" : Str) = "0")) = true := by decide +kernel
  unfold badW
  rcases h with rfl | rfl | rfl
  · rw [e0, Bool.or_true]
  · rw [e1, Bool.or_true]
  · rw [e2, Bool.or_true]
def oddL (k : Nat) (od : Str) : List Str := (W7 400).take k ++ [od] ++ (W7 400).drop (k + 1)
theorem w7_len (k : Nat) : (W7 k).length = k := List.length_replicate ..
theorem w7_mem {k : Nat} {x : Str} (h : x ∈ W7 k) : x = "7" := (List.mem_replicate.mp h).2
theorem oddL_ok {k : Nat} {od : Str} (hk : k < 400) (h : od = "0" ∨ od = "x" ∨ od = "07") : oddL k od ≠ [] ∧ (∀ w ∈ oddL k od, okS w) ∧ (oddL k od).length ≤ 401 := by
  refine ⟨by unfold oddL; simp, fun w hw => ?_, ?_⟩
  · unfold oddL at hw
    rcases List.mem_append.mp hw with hw | hw
    · rcases List.mem_append.mp hw with hw | hw
      · rw [w7_mem (List.mem_of_mem_take hw)]
        exact okS7
      · rw [List.mem_singleton.mp hw]
        rcases h with rfl | rfl | rfl
        · exact okS0
        · exact okSx
        · exact okS07
    · rw [w7_mem (List.mem_of_mem_drop hw)]
      exact okS7
  · unfold oddL
    rw [List.length_append, List.length_append, List.length_take, List.length_drop, w7_len]
    show _ + 1 + _ ≤ _
    omega
theorem fault_at {ws : List Str} {k : Nat} {od : Str} (h0 : ws ≠ []) (h : ∀ w ∈ ws, okS w) (hk : ws[k]? = some od) (hb : badW k od = true) (hp : ∀ j, j < k → ∀ x, ws[j]? = some x → badW j x = false) : faultI (Txt.join " " ws) = [0, (k : Int)] := by
  unfold faultI
  rw [words_split h0 h, firstBad_at (p := 0) hk (by rw [Nat.zero_add]; exact hb) fun j hj x hx => by rw [Nat.zero_add]; exact hp j hj x hx, Nat.zero_add]
theorem fault_odd {k : Nat} {od : Str} (hk : k < 400) (h : od = "0" ∨ od = "x" ∨ od = "07") : faultI (Txt.join " " (oddL k od)) = [0, (k : Int)] := by
  obtain ⟨h0, h1, _⟩ := oddL_ok hk h
  have ht : ((W7 400).take k).length = k := by rw [List.length_take, w7_len]; omega
  refine fault_at h0 h1 (od := od) ?_ (odd_bad h) fun j hj x hx => ?_
  · unfold oddL
    rw [List.append_assoc, List.getElem?_append_right (by omega), ht, Nat.sub_self]
    rfl
  · unfold oddL at hx
    rw [List.append_assoc, List.getElem?_append_left (by omega)] at hx
    rw [w7_mem (List.mem_of_mem_take (List.mem_of_getElem? hx))]
    exact w7_good (by omega)
theorem mem_app {k : Nat} {x w : Str} (hx : okS x) (h : w ∈ W7 k ++ [x]) : okS w := by
  rcases List.mem_append.mp h with h | h
  · rw [w7_mem h]; exact okS7
  · rw [List.mem_singleton.mp h]; exact hx
theorem fault_long (x : Str) (hx : okS x) : faultI (Txt.join " " (W7 400 ++ [x])) = [0, (400 : Int)] :=
  fault_at (k := 400) (by simp) (fun w => mem_app hx) (od := x) (by rw [List.getElem?_append_right (by rw [w7_len]; exact Nat.le_refl _), w7_len]; rfl) (by unfold badW; rfl) fun j hj y hy => by
    rw [List.getElem?_append_left (by rw [w7_len]; exact hj)] at hy
    rw [w7_mem (List.mem_of_getElem? hy)]
    exact w7_good hj
theorem w7_ne : W7 400 ≠ [] := List.ne_nil_of_length_pos (by rw [w7_len]; decide)
theorem w7_ok : ∀ w ∈ W7 400, okS w := fun w hw => by rw [w7_mem hw]; exact okS7
theorem w7_fb : firstBad (W7 400) 0 = none := firstBad_none fun j x hx => by
  have hj : j < (W7 400).length := (List.getElem?_eq_some_iff.mp hx).1
  rw [w7_len] at hj
  rw [w7_mem (List.mem_of_getElem? hx), Nat.zero_add]
  exact w7_good hj
theorem faultI_none {t : Str} (h : firstBad (Txt.split t " ") 0 = none) : faultI t = [] := by
  unfold faultI
  rw [h]
theorem fault_long0 : faultI (Txt.join " " (W7 400)) = [] := faultI_none (by rw [words_split w7_ne w7_ok, w7_fb])
def longT : Str := Txt.join " " (W7 400)
theorem longT_eq : longT = Txt.join " " (W7 400) := rfl
theorem joinL_snoc (S q : List Nat) : ∀ (l : List (List Nat)), l ≠ [] → TL.joinL S (l ++ [q]) = TL.joinL S l ++ (S ++ q)
  | [], h => absurd rfl h
  | [x], _ => rfl
  | x :: y :: l, _ => by
    have ih := joinL_snoc S q (y :: l) (by simp)
    have e1 : TL.joinL S (x :: y :: l ++ [q]) = x ++ (S ++ TL.joinL S ((y :: l) ++ [q])) := rfl
    have e2 : TL.joinL S (x :: y :: l) = x ++ (S ++ TL.joinL S (y :: l)) := rfl
    rw [e1, e2, ih]
    simp only [List.append_assoc]
theorem join_snoc {ws : List Str} (h : ws ≠ []) (x : Str) : Txt.join " " (ws ++ [x]) = Txt.join " " ws ++ (" " ++ x) := by
  refine TL.ext_tl ?_
  rw [TL.join_eq, TL.join_eq, TL.tl_append, TL.tl_append, TL.tl_join, TL.tl_join, List.map_append, List.map_singleton, joinL_snoc _ _ _ (by simpa using h)]
theorem sp_7 : (" 7" : Str) = " " ++ "7" := by decide +kernel
theorem longT_7 : longT ++ " 7" = Txt.join " " (W7 400 ++ [("7" : Str)]) := by
  rw [join_snoc w7_ne, sp_7, longT_eq]
theorem sp_x : (" x" : Str) = " " ++ "x" := by decide +kernel
theorem longT_x : longT ++ " x" = Txt.join " " (W7 400 ++ [("x" : Str)]) := by
  rw [join_snoc w7_ne, sp_x, longT_eq]
theorem longT_len : longT.length ≤ 2000 := by
  unfold longT
  rw [TL.join_eq]
  exact Nat.le_trans (StrLaws.join_length_le _ _) (words_sum (fun w hw => by rw [w7_mem hw]; exact okS7) (by rw [w7_len]; decide))
theorem fault_e : faultI "" = [0, 0] := by decide +kernel
theorem fault_7a : faultI " 7" = [0, 0] := by decide +kernel
theorem fault_7b : faultI "7 " = [0, 1] := by decide +kernel
def plainC : CodeD := ⟨[1, 1], [("a", [1, 2]), ("b", [2, 1])], [], [1]⟩
theorem plain_ok : plainC.ok := ⟨by decide, ⟨by decide, by decide, by decide +kernel, by decide +kernel⟩, by decide, by decide⟩
def abL : List Str := (List.replicate 100 [(97 : Nat), 98]).flatten.map fun c => ⟨#[c]⟩
theorem mul_tl' {z : Str} {n : Nat} (h : 2 ≤ n) (hz : 0 < z.length) : TL.tl (Txt.mul z (n : Int)) = (List.replicate n (TL.tl z)).flatten := by
  have := mul_tl (z := z) (n := (n : Int)) (by omega) hz
  exact this
theorem isTextD_chrs (c : CodeD) (t : Str) : isTextD c (.str t) = (chrs t).all fun x => decide (x ∈ c.cs.map (·.1)) := rfl
theorem barsT_eq (c : CodeD) (t : Str) : barsT c t = catS (piecesL (rowL c t)) := rfl
theorem rowL_eq (c : CodeD) (t : Str) : rowL c t = c.st ++ c.bt ++ ((chrs t).flatMap fun x => wsOf c.cs x ++ c.bt) ++ c.sp := rfl
theorem chrs_eq (t : Str) : chrs t = (TL.tl t).map fun c => ⟨#[c]⟩ := rfl
theorem chrs_ab : chrs (Txt.mul "ab" 100) = abL := by
  have e := mul_tl' (z := "ab") (n := 100) (by decide) (by decide +kernel)
  rw [chrs_eq, show Txt.mul "ab" 100 = Txt.mul "ab" ((100 : Nat) : Int) from rfl, e]
  rfl
theorem plain_t1 : isTextD plainC (.str (Txt.mul "ab" 100)) = true := by
  rw [isTextD_chrs, chrs_ab]
  decide +kernel
theorem plain_s1 : (Txt.mul "ab" 100).cps.size ≤ 1000 := by
  rw [chrs_size, chrs_ab]
  decide +kernel
def rowAB : List Int := plainC.st ++ plainC.bt ++ (abL.flatMap fun x => wsOf plainC.cs x ++ plainC.bt) ++ plainC.sp
theorem plain_b1 : barsT plainC (Txt.mul "ab" 100) = "|." ++ Txt.mul "|..||." 100 ++ "|" := by
  have e1 : barsT plainC (Txt.mul "ab" 100) = catS (piecesL rowAB) := by
    rw [barsT_eq, rowL_eq, chrs_ab]
    rfl
  rw [e1]
  refine TL.ext_tl ?_
  have e := mul_tl' (z := "|..||.") (n := 100) (by decide) (by decide +kernel)
  have e' : TL.tl (Txt.mul "|..||." 100) = (List.replicate 100 (TL.tl ("|..||." : Str))).flatten := e
  unfold catS
  rw [cat_from, TL.tl_append, TL.tl_append, e']
  decide +kernel
theorem plain_b2 : isTextD plainC (.str "ab") = true ∧ barsT plainC "ab" = "|.|..||.|" := by decide +kernel
theorem plain_b3 : isTextD plainC (.str "") = true ∧ barsT plainC "" = "|.|" := by decide +kernel
theorem fmt_2 : Txt.join " " (([10, 20] : List Int).map strI) = "10 20" := by decide +kernel
theorem fmt_1 : ((List.replicate 200 (8 : Int) ++ List.replicate 200 9).map strI) = List.replicate 200 ("8" : Str) ++ List.replicate 200 ("9" : Str) := by
  rw [List.map_append, List.map_replicate, List.map_replicate]
  rfl
end K81

namespace K81
open PySem PySem.Spec PyProof.Rows L2 Sb
local macro_rules | `(tactic| walk_at "ex") => `(tactic| first | exact Ex.refl _ | assumption | (refine' Ex.trans ?_ (by assumption); walk_at "ex"))
local macro_rules | `(tactic| walk_at "rp") => `(tactic| first | assumption | (refine' Rp.up ?e (by assumption); (case e => walk_at "ex")) | exact rfl)
local macro_rules | `(tactic| walk_at "rd") => `(tactic| with_reducible first | exact rd_add | exact rd_sub | exact rd_lt | exact rd_le | exact rd_gt | exact rd_ge | exact rd_eqI | exact rd_neI | exact rd_eqS | exact rd_neS | exact rd_isN | exact rd_ltS | exact rd_inSign | exact rd_eqE)
local macro_rules | `(tactic| walk_at "tr") => `(tactic| first
  | with_reducible exact d_int
  | with_reducible exact d_str
  | with_reducible exact d_bl
  | with_reducible exact d_non
  | with_reducible exact a_nil
  | with_reducible exact b_yes
  | with_reducible exact o_none
  | with_reducible exact d_newD
  | ((with_reducible refine' d_var ?i ?r); (case i => rfl); (case r => walk_at "rp"))
  | ((with_reducible refine' a_cons ?a ?b); (case a => walk_at "tr"); (case b => walk_at "tr"))
  | ((with_reducible refine' a_star ?a ?b); (case a => walk_at "tr"); (case b => walk_at "tr"))
  | ((with_reducible refine' d_isi ?a ?b); (case a => walk_at "tr"); (case b => decide))
  | ((with_reducible refine' d_op ?a ?b ?c); (case a => walk_at "tr"); (case b => walk_at "tr"); (case c => walk_at "rd"))
  | ((with_reducible refine' d_tup ?a ?b); (case a => walk_at "tr"); (case b => first | decide | (simp; done)))
  | ((with_reducible refine' d_lst ?a ?b); (case a => walk_at "tr"); (case b => first | decide | (simp; done)))
  | ((with_reducible refine' o_some ?a); (case a => walk_at "tr"))
  | ((with_reducible refine' b_B ?a); (case a => walk_at "tr"))
  | ((with_reducible refine' b_T ?a); (case a => walk_at "tr"))
  | ((with_reducible refine' b_not ?a); (case a => walk_at "tr"))
  | ((with_reducible refine' v_not ?a); (case a => walk_at "tr"))
  | ((with_reducible refine' b_or ?a ?b); (case a => walk_at "tr"); (case b => intro _; walk_at "tr"))
  | ((with_reducible refine' b_and ?a ?b); (case a => walk_at "tr"); (case b => intro _; walk_at "tr"))
  | ((with_reducible refine' v_or ?a ?b); (case a => walk_at "tr"); (case b => intro _; walk_at "tr"))
  | ((with_reducible refine' v_and ?a ?b); (case a => walk_at "tr"); (case b => intro _; walk_at "tr"))
  | assumption)


theorem s_ifE {K : PySem.W.Frag} {r : Addr} {M0 M G H : Hp} {te : TE} {σ : L2.St} {n n' : Nat} {s1 s2 : TS} {D : Ends} (h : TrE K r M0 te σ G n n' fun d => d = .bool true) (A : At G M H) (S : Same r M0 M) (R : RL r n M) (k : ∀ G' M' H', Ex G G' → At G' M' H' → Same r M0 M' → RL r n' M' → s2 D σ H') : tIfS (tNot (tB te)) s1 s2 D σ H := by
  refine h G M H (Ex.refl _) A S R _ fun d v G' M' H' e A' S' R' hd rv => ?_
  subst hd
  exact ⟨true, rv, k G' M' H' e A' S' R'⟩
theorem scan_call {K : PySem.W.Frag} {r : Addr} {M0 : Hp} {σ : L2.St} {G : Hp} {n m : Nat} {i : Nat} {te : TE} {E : XK} (hi : σ[i]? = some (some (.ref r))) (h : TrE K r M0 te σ G n m fun d => ∃ z : Nat, d = .int z ∧ 1 ≤ z ∧ z ≤ 60) (hm : m + 200 ≤ 1000000) : TrE K r M0 (tCall (ESp K R_scan) [] E (tCons (tVar i) (tCons te tNil))) σ G n (m + 200) fun d => ∃ ns : List Int, d = .list (dInts ns) ∧ 1 ≤ ns.length ∧ ns.length ≤ 60 ∧ ∀ n ∈ ns, okNum n := fun G1 M H e A S Rr Q q => by
  refine ⟨.ref r, hi, ?_⟩
  refine h G1 M H e A S Rr _ fun d v G2 M2 H2 e2 A2 S2 R2 hd rv => ?_
  obtain ⟨z, rfl, h0, h1⟩ := hd
  refine ⟨r, [v], G2, M2, m, 200, [.int z], IsScan z, rfl, A2, R2, ⟨v, [], rfl, rv, rfl⟩, ⟨z, rfl, h0, h1, rfl, rfl⟩, hm, fun d v G' M' H' e' A' S' R' hd' rv' => ?_⟩
  obtain ⟨ns, rfl, k1, k2⟩ := hd'
  exact q _ v G' M' H' (e2.trans e') A' (S2.trans S') R' ⟨ns, rfl, by omega, by omega, k2⟩ rv'
theorem toldD_non {d : PyData} (h : ∀ t, d ≠ .str t) : toldD d = [.none, .none] := by
  cases d <;> first | rfl | exact absurd rfl (h _)
theorem shaped_nn : SeqAt.shaped (.list [.none, .none]) = true := by decide +kernel
theorem eqv_nn : PyData.eqv (.list [.none, .none]) (.list [.none, .none]) = true := by decide +kernel
def toldsD : List PyData := [.list (dInts []), .list (dInts [0, 400]), .list (dInts [0, 400]), .list (dInts [0, 0]), .list (dInts [0, 0]), .list (dInts [0, 1])]
theorem shaped_tolds : SeqAt.shaped (.list toldsD) = true := by decide +kernel
theorem eqv_tolds : PyData.eqv (.list toldsD) (.list toldsD) = true := by decide +kernel
theorem rep7 {K : PySem.W.Frag} : RD K rRep (.list [.str "7"]) (.int 400) (.list (dStrs (W7 400))) := by
  have h := rd_rep (K := K) (ds := [.str "7"]) (k := 400) (by decide) (by decide) (by decide)
  have e : (List.replicate (400 : Int).toNat [PyData.str "7"]).flatten = dStrs (W7 400) := by
    rw [rep_one]
    exact (dStrs_rep 400 "7").symm
  rw [e] at h
  exact h
theorem repI {K : PySem.W.Frag} {x : Int} {k : Nat} (hk : k ≤ 1000) : RD K rRep (.list [.int x]) (.int (k : Int)) (.list (dInts (List.replicate k x))) := by
  have h := rd_rep (K := K) (ds := [.int x]) (k := (k : Int)) (by omega) (by omega) (by show 1 * k ≤ _; omega)
  have e : (List.replicate ((k : Nat) : Int).toNat [PyData.int x]).flatten = dInts (List.replicate k x) := by
    rw [rep_one]
    exact (dInts_rep k x).symm
  rw [e] at h
  exact h
theorem repS {K : PySem.W.Frag} {x : Str} {k : Nat} (hk : k ≤ 1000) : RD K rRep (.list [.str x]) (.int (k : Int)) (.list (dStrs (List.replicate k x))) := by
  have h := rd_rep (K := K) (ds := [.str x]) (k := (k : Int)) (by omega) (by omega) (by show 1 * k ≤ _; omega)
  have e : (List.replicate ((k : Nat) : Int).toNat [PyData.str x]).flatten = dStrs (List.replicate k x) := by
    rw [rep_one]
    exact (dStrs_rep k x).symm
  rw [e] at h
  exact h
def okT (t : Str) : Prop := t.length ≤ 80000 ∧ (Txt.split t " ").length ≤ 80000 ∧ ∀ x ∈ Txt.split t " ", x.length ≤ 80000
theorem okT_long : okT longT := words_bd w7_ne w7_ok (by rw [w7_len]; decide)
theorem okT_app {x : Str} (hx : okS x) : okT (Txt.join " " (W7 400 ++ [x])) := words_bd (by simp) (fun w => mem_app hx) (by rw [List.length_append, w7_len]; exact Nat.le_of_ble_eq_true rfl)
theorem okT_s : okT "" ∧ okT " 7" ∧ okT "7 " := by unfold okT; decide +kernel
theorem w7_sum : ((W7 400).map (·.length)).sum + (W7 400).length * (" " : Str).length ≤ 16777216 := Nat.le_trans (words_sum w7_ok (by rw [w7_len]; decide)) (by decide)
def onesL : List Str := [longT, longT ++ " 7", longT ++ " x", "", " 7", "7 "]
theorem ones_ok : ∀ t ∈ onesL, okT t := by
  intro t h
  unfold onesL at h
  simp only [List.mem_cons, List.not_mem_nil, or_false] at h
  rcases h with rfl | rfl | rfl | rfl | rfl | rfl
  · exact okT_long
  · rw [longT_7]; exact okT_app okS7
  · rw [longT_x]; exact okT_app okSx
  · exact okT_s.1
  · exact okT_s.2.1
  · exact okT_s.2.2
theorem ones_told : onesL.map (fun t => PyData.list (toldD (.str t))) = toldsD := by
  unfold onesL toldsD
  simp only [List.map_cons, List.map_nil, toldD_eq, longT_7, longT_x, fault_e, fault_7a, fault_7b, fault_long _ okS7, fault_long _ okSx]
  rw [longT_eq, fault_long0]
theorem num7 : okNum 7 := by unfold okNum; decide
theorem parse7 : parseO (.str longT) = .val (.list (dInts (List.replicate 400 7))) := by
  have h := (parse_ok (ns := List.replicate 400 7) (fun n hn => by rw [(List.mem_replicate.mp hn).2]; exact num7) (List.ne_nil_of_length_pos (by rw [List.length_replicate]; decide)) (by rw [List.length_replicate]; exact Nat.le_refl _)).2
  rw [w7_map, ← longT_eq] at h
  exact h
theorem two_rp {K : PySem.W.Frag} {G : Hp} {d1 d2 : PyData} {v w : V} (h : RpL K G [d1, d2] [v, w]) : Rp K G d1 v ∧ Rp K G d2 w := by
  obtain ⟨x, r, e, h1, y, r', e', h2, e''⟩ := h
  cases e
  cases e'
  exact ⟨h1, h2⟩
theorem len_rep {k : Nat} {x : Int} : (dInts (List.replicate k x)).length = k := by rw [dInts_len, List.length_replicate]
theorem len_repS {k : Nat} {x : Str} : (dStrs (List.replicate k x)).length = k := by rw [dStrs_len, List.length_replicate]
def n89 : List Int := List.replicate 200 8 ++ List.replicate 200 9
def w89 : List Str := List.replicate 200 ("8" : Str) ++ List.replicate 200 ("9" : Str)
theorem n89_map : n89.map strI = w89 := fmt_1
theorem n89_ok : okScan n89 := by
  refine ⟨?_, ?_, fun n hn => ?_⟩
  · unfold n89; rw [List.length_append, List.length_replicate, List.length_replicate]; decide
  · unfold n89; rw [List.length_append, List.length_replicate, List.length_replicate]; decide
  · rcases List.mem_append.mp hn with h | h
    · rw [List.eq_of_mem_replicate h]; decide
    · rw [List.eq_of_mem_replicate h]; decide
theorem w89_len : w89.length = 400 := by unfold w89; rw [List.length_append, List.length_replicate, List.length_replicate]
theorem w89_each : ∀ w ∈ w89, w.length ≤ 2 := fun w hw => by
  rcases List.mem_append.mp hw with h | h
  · rw [List.eq_of_mem_replicate h]; decide
  · rw [List.eq_of_mem_replicate h]; decide
theorem w89_sum : (w89.map (·.length)).sum + w89.length * (" " : Str).length ≤ 16777216 := by
  have h1 := sum_len (c := 2) w89_each
  have h2 : (" " : Str).length = 1 := rfl
  rw [w89_len] at h1 ⊢
  omega
theorem n89_sum : ((n89.map strI).map (·.length)).sum ≤ 1000000 := by
  have := w89_sum
  rw [n89_map]
  have h1 := sum_len (c := 2) w89_each
  rw [w89_len] at h1
  omega
theorem sum_rep (k n : Nat) : (List.replicate k n).sum = k * n := by
  induction k with
  | zero => rw [Nat.zero_mul]; rfl
  | succ k ih => rw [List.replicate_succ, List.sum_cons, ih, Nat.succ_mul, Nat.add_comm]
theorem mul100 (z : Str) (h : 0 < z.length) : (Txt.mul z 100).length = 100 * z.length := by
  have e := mul_tl' (z := z) (n := 100) (by decide) h
  have e' : TL.tl (Txt.mul z 100) = (List.replicate 100 (TL.tl z)).flatten := e
  rw [TL.len_tl, e', TL.len_tl z, List.length_flatten, List.map_replicate, sum_rep]
theorem add1 : ("|." : Str).length + (Txt.mul "|..||." 100).length ≤ sizeLine := by
  rw [mul100 _ (by decide)]
  decide
theorem add2 : ("|." ++ Txt.mul "|..||." 100 : Str).length + ("|" : Str).length ≤ sizeLine := by
  rw [strLen_append, mul100 _ (by decide)]
  decide
theorem ok_2 : okScan [10, 20] := ⟨by decide, by decide, by decide⟩
theorem sum_2 : ((([10, 20] : List Int).map strI).map (·.length)).sum ≤ 1000000 := by decide +kernel
theorem RD.to {K : PySem.W.Frag} {r : R2} {a a' b b' c : PyData} (h : RD K r a b c) (e1 : a' = a) (e2 : b' = b) : RD K r a' b' c := by subst e1 e2; exact h
section
variable {P : Program} {w : World} {K : PySem.W.Frag} {mg : Str → Option Value} {base : Heap}
def S_law (K : PySem.W.Frag) : Sp := fun vs H Q _ => ∃ (a : Addr) (ns : List Int), vs = [.ref a] ∧ SqL K H a (ns.map V.int) ∧ ns.length ≤ 1000 ∧ ∀ H', Q (.bl true) H'
theorem G_law {f : Addr} {fd : FuncData} (T : Tx K mg) (F : FunD K "law" "law" (defArgs s_law) (defBody s_law) (defScope s_law) (d_law.dvs K) (d_law.kws K) f fd) : FnG P w K mg base CX0 10 f fd ["script"] (S_law K) := by
  refine fnG_of F sc_law (fun vs H Q E h => by obtain ⟨_, _, rfl, _⟩ := h; rfl) (fun cdv A outer s H vs Q E hg hr h => ?_)
  obtain ⟨a, ns, rfl, hS, hl, q⟩ := h
  refine ⟨_, PSs.nox (pss_cons (ps_for PassesOwn.never rfl (pi_range1 (by rfl) T.n_range (pa_cons (pe_callB (call_max2' rfl) (by rfl) T.n_max (by decide +kernel) (pa_cons pe_int (pa_cons (pe_callB (call_min2' rfl) (by rfl) T.n_min (by decide +kernel) (pa_cons pe_int (pa_cons (pe_callB call_len' (by rfl) T.n_len (by decide +kernel) (pa_cons (pv 0) pa_nil)) pa_nil))) pa_nil))) pa_nil)) (pg_name (i := 1) sc_law.nd rfl (by first | exact Or.inl rfl | exact Or.inr rfl)) (pss_cons (ps_set (i := 2) sc_law.nd rfl (by first | exact Or.inl rfl | exact Or.inr rfl) (pe_fd (F__law_reel (P := P) (w := w) (base := base) T) hg (hr.mono (by decide)) pass0 (pa_cons (pv 0) (pa_cons (pv 1) pa_nil)))) (pss_one (ps_for PassesOwn.never rfl (pi_range1 (by rfl) T.n_range (pa_cons pe_int pa_nil)) (pg_name (i := 3) sc_law.nd rfl (by first | exact Or.inl rfl | exact Or.inr rfl)) (pss_cons (ps_if (pt_not (pt_val (pe_fd (F__law_texts_right (P := P) (w := w) (base := base) T) hg (hr.mono (by decide)) pass0 (pa_cons (pv 2) (pa_cons (pe_fd (F__law_scan (P := P) (w := w) (base := base) T) hg (hr.mono (by decide)) pass0 (pa_cons (pv 2) (pa_cons (pe_op op_add pe_int (pe_fd (F__law_spin (P := P) (w := w) (base := base) T) hg (hr.mono (by decide)) pass0 (pa_cons (pv 2) (pa_cons (pe_ix ix_list (pe_lst (pa_cons pe_int (pa_cons pe_int pa_nil))) (pe_fd (F__law_spin (P := P) (w := w) (base := base) T) hg (hr.mono (by decide)) pass0 (pa_cons (pv 2) (pa_cons pe_int pa_nil))) (fun _ _ => rfl)) pa_nil)))) pa_nil))) pa_nil))))) (pss_one (ps_ret pe_bl)) pss_nil) (pss_one (ps_if (pt_not (pt_val (pe_fd (F__law_bars_right (P := P) (w := w) (base := base) T) hg (hr.mono (by decide)) pass0 (pa_cons (pv 2) (pa_cons (pe_fd (F__law_code (P := P) (w := w) (base := base) T) hg (hr.mono (by decide)) pass0 (pa_cons (pv 2) (pa_cons (pe_ix ix_list (pe_lst (pa_cons pe_int (pa_cons pe_int (pa_cons pe_int pa_nil)))) (pv 3) (fun _ _ => rfl)) (pa_cons pe_int pa_nil)))) pa_nil))))) (pss_one (ps_ret pe_bl)) pss_nil)))))))
    (pss_cons (ps_for PassesOwn.never rfl (pi_list (pe_lst (pa_cons pe_non (pa_cons pe_int (pa_cons pe_bl (pa_cons (pe_lst (pa_cons pe_str pa_nil)) (pa_cons (pe_tup (pa_cons pe_int pa_nil)) (pa_cons pe_dnewK pa_nil)))))))) (pg_name (i := 4) sc_law.nd rfl (by first | exact Or.inl rfl | exact Or.inr rfl)) (pss_one (ps_if (pt_cmpR (op_neR hr.units) (pe_fd (F__law_told (P := P) (w := w) (base := base) T) hg (hr.mono (by decide)) pass0 (pa_cons (pv 4) pa_nil)) (pe_lst (pa_cons pe_non (pa_cons pe_non pa_nil))) (nomark _)) (pss_one (ps_ret pe_bl)) pss_nil)))
    (pss_cons (ps_set (i := 5) sc_law.nd rfl (by first | exact Or.inl rfl | exact Or.inr rfl) (pe_join pe_str (pe_op op_rep (pe_lst (pa_cons pe_str pa_nil)) pe_int)))
    (pss_cons (ps_setLc (i := 6) (own := [("one", 11)]) (g := gName 11) (by rfl) sc_law.nd rfl rfl (sw_true rfl rfl rfl (by decide +kernel)) (pi_list (pe_lst (pa_cons (pv 5) (pa_cons (pe_op op_add_str (pv 5) pe_str) (pa_cons (pe_op op_add_str (pv 5) pe_str) (pa_cons pe_str (pa_cons pe_str (pa_cons pe_str pa_nil)))))))) (blkOk_by (own := [("one", 11)]) (N := ["script", "index", "reel", "turn", "value", "long", "told", "at", "words", "odd", "plain", "one"]) (sc := defScope s_law) (by decide +kernel)) (fun _ _ _ _ _ => (pg_name (i := 11) sc_law.nd rfl (by first | exact Or.inl rfl | exact Or.inr rfl))) (fun _ _ _ _ _ => pts_nil) (fun _ _ _ _ _ => (pe_fd (F__law_told (P := P) (w := w) (base := base) T) hg (hr.mono (by decide)) pass0 (pa_cons (pv 11) pa_nil))))
    (pss_cons (ps_if (PW.pt (pw_or (pt_cmpR (op_neR hr.units) (pv 6) (pe_lst (pa_cons (pe_lst pa_nil) (pa_cons (pe_lst (pa_cons pe_int (pa_cons pe_int pa_nil))) (pa_cons (pe_lst (pa_cons pe_int (pa_cons pe_int pa_nil))) (pa_cons (pe_lst (pa_cons pe_int (pa_cons pe_int pa_nil))) (pa_cons (pe_lst (pa_cons pe_int (pa_cons pe_int pa_nil))) (pa_cons (pe_lst (pa_cons pe_int (pa_cons pe_int pa_nil))) pa_nil))))))) (nomark _)) (pw_or1 (pt_cmpR (op_neR hr.units) (pe_fd (F_parse_scan (P := P) (w := w) (base := base) T) hg (hr.mono (by decide)) passL (pa_cons (pv 5) pa_nil)) (pe_op op_rep (pe_lst (pa_cons pe_int pa_nil)) pe_int) (nomark _))))) (pss_one (ps_ret pe_bl)) pss_nil)
    (pss_cons (ps_set (i := 2) sc_law.nd rfl (by first | exact Or.inl rfl | exact Or.inr rfl) (pe_fd (F__law_reel (P := P) (w := w) (base := base) T) hg (hr.mono (by decide)) pass0 (pa_cons (pv 0) (pa_cons pe_int pa_nil))))
    (pss_cons (ps_par (i := 7) (j := 8) (by rfl) sc_law.nd rfl rfl (by decide) rfl rfl (pa_cons (pe_fd (F__law_spin (P := P) (w := w) (base := base) T) hg (hr.mono (by decide)) pass0 (pa_cons (pv 2) (pa_cons pe_int pa_nil))) (pa_cons (pe_op op_rep (pe_lst (pa_cons pe_str pa_nil)) pe_int) pa_nil)) (by rfl))
    (pss_cons (ps_if (pt_cmpR op_ne (pe_fd (F_format_scan (P := P) (w := w) (base := base) T) hg (hr.mono (by decide)) pass0 (pa_cons (pe_op op_cat (pe_op op_rep (pe_lst (pa_cons pe_int pa_nil)) pe_int) (pe_op op_rep (pe_lst (pa_cons pe_int pa_nil)) pe_int)) pa_nil)) (pe_join pe_str (pe_op op_cat (pe_op op_rep (pe_lst (pa_cons pe_str pa_nil)) pe_int) (pe_op op_rep (pe_lst (pa_cons pe_str pa_nil)) pe_int))) (nomark _)) (pss_one (ps_ret pe_bl)) pss_nil)
    (pss_cons (ps_for PassesOwn.never rfl (pi_list (pe_lst (pa_cons pe_str (pa_cons pe_str (pa_cons pe_str pa_nil))))) (pg_name (i := 9) sc_law.nd rfl (by first | exact Or.inl rfl | exact Or.inr rfl)) (pss_one (ps_if (pt_cmpR (op_neR hr.units) (pe_fd (F__law_told (P := P) (w := w) (base := base) T) hg (hr.mono (by decide)) pass0 (pa_cons (pe_join pe_str (pe_op op_cat (pe_op op_cat (pe_slice sl_list (pv 8) po_none (po_some (pv 7))) (pe_lst (pa_cons (pv 9) pa_nil))) (pe_slice sl_list (pv 8) (po_some (pe_op op_add (pv 7) pe_int)) po_none))) pa_nil)) (pe_lst (pa_cons pe_int (pa_cons (pv 7) pa_nil))) (nomark _)) (pss_one (ps_ret pe_bl)) pss_nil)))
    (pss_cons (ps_set (i := 10) sc_law.nd rfl (by first | exact Or.inl rfl | exact Or.inr rfl) (pe_tup (pa_cons (pe_tup (pa_cons pe_int (pa_cons pe_int pa_nil))) (pa_cons (pe_disp (pps_cons pe_str (pe_tup (pa_cons pe_int (pa_cons pe_int pa_nil))) (pps_cons pe_str (pe_tup (pa_cons pe_int (pa_cons pe_int pa_nil))) pps_nil)) (by rfl) (by rfl) (fun z => by cases z) (by decide)) (pa_cons (pe_tup pa_nil) (pa_cons (pe_tup (pa_cons pe_int pa_nil)) pa_nil))))))
    (pss_cons (ps_if (pt_cmpR op_ne (pe_fd (F_bars (P := P) (w := w) (base := base) T) hg (hr.mono (by decide)) pass0 (pa_cons (pv 10) (pa_cons (pe_op op_mulS pe_str pe_int) pa_nil))) (pe_op op_add_str (pe_op op_add_str pe_str (pe_op op_mulS pe_str pe_int)) pe_str) (nomark _)) (pss_one (ps_ret pe_bl)) pss_nil)
    (pss_one (ps_ret (pe_cmpR (op_eqS hr.units) (pe_lst (pa_cons (pe_fd (F_bars (P := P) (w := w) (base := base) T) hg (hr.mono (by decide)) pass0 (pa_cons (pv 10) (pa_cons pe_str pa_nil))) (pa_cons (pe_fd (F_bars (P := P) (w := w) (base := base) T) hg (hr.mono (by decide)) pass0 (pa_cons (pv 10) (pa_cons pe_str pa_nil))) (pa_cons (pe_fd (F_format_scan (P := P) (w := w) (base := base) T) hg (hr.mono (by decide)) pass0 (pa_cons (pe_lst (pa_cons pe_int (pa_cons pe_int pa_nil))) pa_nil)) pa_nil)))) (pe_lst (pa_cons pe_str (pa_cons pe_str (pa_cons pe_str pa_nil)))) (nomark _))))))))))))))), ?_⟩
  rw [show L2.start ["script", "index", "reel", "turn", "value", "long", "told", "at", "words", "odd", "plain", "one"] [(.ref a)] = [some (.ref a), none, none, none, none, none, none, none, none, none, none, none] from rfl]
  dsimp only [xK, xK2]
  have hA : At H (fun _ => none) H := ⟨Ex.refl _, fun _ _ z => (by cases z), fun _ _ z => (by cases z)⟩
  have hlen : TrD K (tCB (Sb.rLen K) (tCons (tVar 0) tNil)) [some (.ref a), none, none, none, none, none, none, none, none, none, none, none] H (.int ((ns.map V.int).length : Nat)) := d_lenQ rfl hS
  rw [List.length_map] at hlen
  refine s_seq (s_forRI (fun k σ G M => ∃ x1 x2 x3 : Option V, σ = [some (.ref a), x1, x2, x3, none, none, none, none, none, none, none, none]) (d_cb (a_cons d_int (a_cons (d_cb (a_cons d_int (a_cons hlen a_nil)) rc_min2) a_nil)) rc_max2) (by split <;> omega) (by split <;> omega) hA (fun e h => h) ⟨none, none, none, rfl⟩ (fun k hk σ1 G1 M1 H1 e1 A1 hI Nx hN => ?_) fun σ1 G1 M1 H1 e1 A1 hI => ?_)
  · obtain ⟨x1, x2, x3, rfl⟩ := hI
    have hk4 : k < 4 := by
      have z : (k : Int) < 4 := by
        refine Int.lt_of_lt_of_le hk ?_
        split <;> (try split) <;> omega
      omega
    refine s_seq ⟨_, rfl, _, rfl, G1, M1, a, ns, k, rfl, A1, e1.sl hS, hl, by omega, fun p x b G2 H2 hM hG e2 A2 b0 b1 => ?_⟩
    have R0 : RL p 0 (upd M1 p (.lst [.int x, .int b, .int 0])) := ⟨x, b, 0, upd_same, b0, b1, Nat.le_refl _⟩
    refine s_forRI (K := K) (fun j σ G M => ∃ y3 : Option V, σ = [some (.ref a), some (.int k), some (.ref p), y3, none, none, none, none, none, none, none, none] ∧ RL p (j * 2000) M) d_int (by decide) (by decide) A2 (fun e h => h) ⟨x3, rfl, by rw [Nat.zero_mul]; exact R0⟩ (fun j hj σ3 G3 M3 H3 e3 A3 hI Nx2 hN2 => ?_) fun σ3 G3 M3 H3 e3 A3 hI => ?_
    · obtain ⟨y3, rfl, R3⟩ := hI
      have hj3 : j < 3 := by omega
      refine s_seq (s_ifE (n' := j * 2000 + 1 + 1 + 200 + 1) (r := p) (e_call (R := R_texts) (k := 1) (Ψ := fun ds => ∃ ns : List Int, ds = [.list (dInts ns)] ∧ 1 ≤ ns.length ∧ ns.length ≤ 60 ∧ ∀ n ∈ ns, okNum n) (Φ := fun d => d = .bool true) rfl (ea_cons (scan_call (m := j * 2000 + 1 + 1) rfl (e_op (Φ1 := fun d => d = .int 1) (Φ2 := RI 0 59) (e_D d_int rfl) (fun _ _ => spin_call rfl (e_op (Φ1 := fun d => d = .list [.int 4, .int 60]) (Φ2 := RI 0 1) (e_D (d_lst (a_cons d_int (a_cons d_int a_nil)) (Nat.le_of_ble_eq_true rfl)) rfl) (fun _ _ => spin_c rfl (by decide) (by decide) (by omega)) ?_) (by omega)) ?_) (by omega)) fun d hd => ea_nil ?_) (fun ds h => ?_) (by omega)) A3 .refl R3 fun G4 M4 H4 e4 A4 S4 R4 => ?_)
      · rintro _ _ rfl ⟨i, rfl, h0, h1⟩
        have : i = 0 ∨ i = 1 := by omega
        rcases this with rfl | rfl
        · exact ⟨_, rd_ixL rfl, 4, rfl, by decide, by decide, fun d ⟨i, h, h0, h1⟩ => ⟨i, h, h0, by omega⟩⟩
        · exact ⟨_, rd_ixL rfl, 60, rfl, by decide, by decide, fun d ⟨i, h, h0, h1⟩ => ⟨i, h, h0, by omega⟩⟩
      · rintro _ _ rfl ⟨i, rfl, h0, h1⟩
        obtain ⟨iN, rfl⟩ := Int.eq_ofNat_of_zero_le h0
        exact ⟨_, rd_add, iN + 1, by congr 1; omega, by omega, by omega⟩
      · obtain ⟨ns, rfl, k⟩ := hd
        exact ⟨ns, rfl, k⟩
      · obtain ⟨ns, rfl, k1, k2, k3⟩ := h
        exact ⟨ns, rfl, k1, k2, k3, rfl, rfl⟩
      · have hi3 : L2.atI [PyData.int 1, .int 10, .int 3] (j : Int) = some (.int ([1, 10, 3].getD j 1 : Nat)) := by
          have : j = 0 ∨ j = 1 ∨ j = 2 := by omega
          rcases this with rfl | rfl | rfl <;> rfl
        have hb3 : 1 ≤ [1, 10, 3].getD j 1 ∧ [1, 10, 3].getD j 1 ≤ 10 := by
          have : j = 0 ∨ j = 1 ∨ j = 2 := by omega
          rcases this with rfl | rfl | rfl <;> decide
        refine s_next (s_ifE (n' := j * 2000 + 1 + 1 + 200 + 1 + 1000 + 30) (r := p) (e_call (R := R_bright) (k := 30) (Ψ := fun ds => ∃ c : CodeD, ds = [c.d] ∧ c.ok) (Φ := fun d => d = .bool true) rfl (ea_cons (e_call (R := R_code) (k := 1000) (Ψ := fun ds => ds = [.int ([1, 10, 3].getD j 1 : Nat), .int 6]) (Φ := fun d => ∃ c : CodeD, d = c.d ∧ c.ok) rfl (ea_A (a_cons (d_op (d_lst (a_cons d_int (a_cons d_int (a_cons d_int a_nil))) (Nat.le_of_ble_eq_true rfl)) (d_var (K := K) (d := .int j) rfl rfl) (rd_ixL hi3)) (a_cons d_int a_nil)) rfl) (fun ds h => ⟨_, 6, h, hb3.1, hb3.2, by decide, by decide, rfl, rfl⟩) (by omega)) fun d hd => ea_nil ?_) (fun ds h => ?_) (by omega)) A4 .refl R4 fun G5 M5 H5 e5 A5 S5 R5 => ?_)
        · obtain ⟨c, rfl, ok⟩ := hd
          exact ⟨c, rfl, ok⟩
        · obtain ⟨c, rfl, ok⟩ := h
          exact ⟨c, rfl, ok, rfl, rfl⟩
        · exact s_next (hN2 _ G5 M5 H5 (e4.trans e5) A5 ⟨_, rfl, R5.le (by omega)⟩)
    · obtain ⟨y3, rfl, R3⟩ := hI
      exact hN _ G3 M3 H3 (e2.trans e3) A3 ⟨_, _, _, rfl⟩
  · obtain ⟨x1, x2, x3, rfl⟩ := hI
    refine s_seq (s_forLI (ds := [.none, .int 5, .bool true, .list [.str "1"], .tuple [.int 1], .dict (keysD [])]) (fun j σ G M => ∃ x4 : Option V, σ = [some (.ref a), x1, x2, x3, x4, none, none, none, none, none, none, none]) (d_lst (a_cons d_non (a_cons d_int (a_cons d_bl (a_cons (d_lst (a_cons d_str a_nil) (Nat.le_of_ble_eq_true rfl)) (a_cons (d_tup (a_cons d_int a_nil) (Nat.le_of_ble_eq_true rfl)) (a_cons d_newD a_nil)))))) (Nat.le_of_ble_eq_true rfl)) A1 (fun e h => h) ⟨none, rfl⟩ (fun j d hj x4 σ2 G2 M2 H2 e2 A2 hI rx Nx hN => ?_) fun σ2 G2 M2 H2 e2 A2 hI => ?_)
    · obtain ⟨y4, rfl⟩ := hI
      have hd : ∀ t, d ≠ .str t := by
        have := List.mem_of_getElem? hj
        intro t h
        subst h
        simp at this
      refine s_ifF (TrB.to (b_T (d_op (TrD.to (d_call0 (a_cons (d_var rfl rx) a_nil) ⟨d, rfl, fun t h => absurd h (hd t), rfl⟩) (by rw [toldD_non hd])) (d_lst (a_cons d_non (a_cons d_non a_nil)) (Nat.le_of_ble_eq_true rfl)) (rd_neR shaped_nn shaped_nn))) (by rw [eqv_nn]; rfl)) A2 fun G3 H3 e3 A3 => s_next (hN _ G3 M2 H3 e3 A3 ⟨_, rfl⟩)
    obtain ⟨x4, rfl⟩ := hI
    refine q_set (d := .str longT) (K := K) (TrD.to (d_join (ys := W7 400) d_str (d_op (d_lst (a_cons d_str a_nil) (Nat.le_of_ble_eq_true rfl)) d_int rep7) w7_sum) rfl) A2 fun v5 G3 H3 e3 A3 r5 => ?_
    have happ : ∀ (x : Str), x.length ≤ 2 → longT.length + x.length ≤ sizeLine := fun x hx => by
      have h1 := longT_len
      have h2 : (2002 : Nat) ≤ sizeLine := by decide
      omega
    refine q_set (d := .list toldsD) (K := K) (TrD.to (d_lcL (ds := onesL.map PyData.str) (p := fun _ => true) (f := fun d => .list (toldD d)) (d_lst (a_cons (d_var rfl r5) (a_cons (d_op (d_var rfl r5) d_str (rd_addS (happ _ (by decide)))) (a_cons (d_op (d_var rfl r5) d_str (rd_addS (happ _ (by decide)))) (a_cons d_str (a_cons d_str (a_cons d_str a_nil)))))) (Nat.le_of_ble_eq_true rfl)) (Nat.le_of_ble_eq_true rfl) (fun _ _ _ _ _ _ => b_yes) fun d hd _ x G4 e4 rx => ?_) ?_) A3 fun v6 G4 H4 e4 A4 r6 => ?_
    · obtain ⟨t, ht, rfl⟩ := List.mem_map.mp hd
      exact d_call0 (a_cons (d_var rfl rx) a_nil) ⟨_, rfl, fun t' h => by cases h; exact ones_ok t ht, rfl⟩
    · rw [← ones_told, List.filter_eq_self.mpr fun _ _ => rfl, List.map_map]
      rfl
    have lst : ∀ {i j : Int} {σ : L2.St} {G : Hp}, TrD K (tLst (tCons (tC (.int i)) (tCons (tC (.int j)) tNil))) σ G (.list [.int i, .int j]) := d_lst (a_cons d_int (a_cons d_int a_nil)) (Nat.le_of_ble_eq_true rfl)
    refine s_seq (s_ifF (b_orF (TrB.to (b_T (d_op (d_var rfl r6) (TrD.to (d_lst (a_cons (d_lst a_nil (Nat.le_of_ble_eq_true rfl)) (a_cons lst (a_cons lst (a_cons lst (a_cons lst (a_cons lst a_nil)))))) (Nat.le_of_ble_eq_true rfl)) (show _ = PyData.list toldsD from rfl)) (rd_neR shaped_tolds shaped_tolds))) (by rw [eqv_tolds]; rfl))
      (TrB.to (b_T (d_op (d_callX (a_cons (d_var rfl (r5.up e4)) a_nil) ⟨_, rfl, fun t h => by cases h; exact okT_long, parse7.symm⟩) (d_op (d_lst (a_cons d_int a_nil) (Nat.le_of_ble_eq_true rfl)) d_int (repI (k := 400) (by decide))) (rd_neR (shaped_intsL _) (shaped_intsL _)))) (by rw [eqv_ints, decide_eq_true rfl]; rfl))) A4 fun G5 H5 e5 A5 => s_next ?_)
    have eA : Ex H G5 := (((e1.trans e2).trans e3).trans e4).trans e5
    refine ⟨_, rfl, G5, _, a, ns, 0, rfl, A5, eA.sl hS, hl, by omega, fun p x b G6 H6 hM hG e6 A6 b0 b1 => ?_⟩
    have R0 : RL p 0 (upd M2 p (.lst [.int x, .int b, .int 0])) := ⟨x, b, 0, upd_same, b0, b1, Nat.le_refl _⟩
    refine q_parE (n' := 1) (r := p) (Ψ := fun ds => ∃ k : Nat, k < 400 ∧ ds = [.int (k : Int), .list (dStrs (W7 400))]) (ea_cons (spin_c rfl (by decide) (by decide) (by decide)) fun d hd => ea_A (a_cons (d_op (d_lst (a_cons d_str a_nil) (Nat.le_of_ble_eq_true rfl)) d_int rep7) a_nil) ?_) (fun ds h => by obtain ⟨_, _, rfl⟩ := h; rfl) A6 .refl R0 fun ds v7 v8 G7 M7 H7 e7 A7 S7 R7 hds rds => ?_
    · obtain ⟨i, rfl, h0, h1⟩ := hd
      obtain ⟨iN, rfl⟩ := Int.eq_ofNat_of_zero_le h0
      exact ⟨iN, by omega, rfl⟩
    obtain ⟨at0, hat, rfl⟩ := hds
    obtain ⟨r7, r8⟩ := two_rp rds
    -- format_scan
    have one : ∀ {x : Int} {σ : L2.St} {G : Hp}, TrD K (tOp rRep (tLst (tCons (tC (.int x)) tNil)) (tC (.int 200))) σ G (.list (dInts (List.replicate 200 x))) := d_op (d_lst (a_cons d_int a_nil) (Nat.le_of_ble_eq_true rfl)) d_int (repI (k := 200) (by decide))
    have oneS : ∀ {x : Str} {σ : L2.St} {G : Hp}, TrD K (tOp rRep (tLst (tCons (tC (.str x)) tNil)) (tC (.int 200))) σ G (.list (dStrs (List.replicate 200 x))) := d_op (d_lst (a_cons d_str a_nil) (Nat.le_of_ble_eq_true rfl)) d_int (repS (k := 200) (by decide))
    refine s_seq (s_ifF (TrB.to (b_T (d_op (d_call0 (a_cons (TrD.to (d_op one one (rd_cat (by rw [len_rep, len_rep]; decide))) (show PyData.list _ = .list (dInts n89) from by rw [← dInts_app]; rfl)) a_nil) ⟨n89, rfl, n89_ok, n89_sum, rfl⟩) (d_join (ys := w89) d_str (TrD.to (d_op oneS oneS (rd_cat (by rw [len_repS, len_repS]; decide))) (show PyData.list _ = .list (dStrs w89) from by rw [← dStrs_app]; rfl)) w89_sum) rd_neS)) (by rw [n89_map, decide_eq_true rfl]; rfl)) A7 fun G8 H8 e8 A8 => s_next ?_)
    -- a word otherwise
    have R8 := r8.up e8
    have R7' := r7.up e8
    refine s_seq (s_forLI (ds := dStrs ["0", "x", "07"]) (fun j σ G M => ∃ x9 : Option V, σ = [some (.ref a), x1, some (.ref p), x3, x4, some v5, some v6, some v7, some v8, x9, none, none]) (d_lst (a_cons d_str (a_cons d_str (a_cons d_str a_nil))) (Nat.le_of_ble_eq_true rfl)) A8 (fun e h => h) ⟨none, rfl⟩ (fun j d hj x9 σ2 G9 M9 H9 e9 A9 hI rx Nx hN => ?_) fun σ2 G9 M9 H9 e9 A9 hI => ?_)
    · obtain ⟨y9, rfl⟩ := hI
      obtain ⟨od, hod, rfl⟩ := mem_strs (List.mem_of_getElem? hj)
      have hod' : od = "0" ∨ od = "x" ∨ od = "07" := by simpa using hod
      obtain ⟨q1, q2, q3⟩ := oddL_ok hat hod'
      have ea : ((at0 : Int) + 1) = ((at0 + 1 : Nat) : Int) := by omega
      have h7 : at0 ≤ (W7 400).length := by rw [w7_len]; omega
      have h7' : at0 + 1 ≤ (W7 400).length := by rw [w7_len]; omega
      have hsum : ((oddL at0 od).map (·.length)).sum + (oddL at0 od).length * (" " : Str).length ≤ 16777216 := Nat.le_trans (words_sum q2 q3) (by decide)
      have hl : TrD K (tOp rCat (tOp rCat (tSl (rSlL K) (tVar 8) tNoPart (tPart (tVar 7))) (tLst (tCons (tVar 9) tNil))) (tSl (rSlL K) (tVar 8) (tPart (tOp (rI0 fun i j => V.int (i + j)) (tVar 7) (tC (V.int 1)))) tNoPart)) [some (.ref a), x1, some (.ref p), x3, x4, some v5, some v6, some v7, some v8, some x9, none, none] G9 (.list (dStrs (oddL at0 od))) := by
        refine TrD.to (d_op (d_op (d_slL (d_var rfl (R8.up e9)) o_none (o_some (d_var rfl (R7'.up e9)))) (d_lst (a_cons (d_var rfl rx) a_nil) (Nat.le_of_ble_eq_true rfl)) (rd_cat ?_)) (d_slL (d_var rfl (R8.up e9)) (o_some (d_op (d_var rfl (R7'.up e9)) d_int rd_add)) o_none) (rd_cat ?_)) ?_
        · rw [cut_strs_to h7, dStrs_len, List.length_take]
          show _ + 1 ≤ 100000
          omega
        · rw [ea, cut_strs_to h7, cut_strs_from h7', List.length_append, dStrs_len, dStrs_len, List.length_take, List.length_drop, w7_len]
          show _ + 1 + _ ≤ 100000
          omega
        · rw [ea, cut_strs_to h7, cut_strs_from h7']
          unfold oddL
          rw [dStrs_app, dStrs_app]
          rfl
      refine s_ifF (TrB.to (b_T (d_op (d_call0 (a_cons (d_join (ys := oddL at0 od) d_str hl hsum) a_nil) ⟨_, rfl, fun t h => by cases h; exact words_bd q1 q2 q3, rfl⟩) (d_lst (a_cons d_int (a_cons (d_var rfl (R7'.up e9)) a_nil)) (Nat.le_of_ble_eq_true rfl)) (RD.to (rd_neR (shaped_intsL [0, (at0 : Int)]) (shaped_intsL [0, (at0 : Int)])) (by rw [toldD_eq, fault_odd hat hod']) rfl))) ?_) A9 fun G10 H10 e10 A10 => s_next (hN _ G10 M9 H10 e10 A10 ⟨_, rfl⟩)
      rw [eqv_ints, decide_eq_true rfl]
      rfl
    obtain ⟨y9, rfl⟩ := hI
    -- plain
    refine q_set (K := K) (d := plainC.d) (TrD.to (d_tup (a_cons (d_tup (a_cons d_int (a_cons d_int a_nil)) (Nat.le_of_ble_eq_true rfl)) (a_cons (d_disp (p_cons (x := "a") d_str (d_tup (a_cons d_int (a_cons d_int a_nil)) (Nat.le_of_ble_eq_true rfl)) (p_cons (x := "b") d_str (d_tup (a_cons d_int (a_cons d_int a_nil)) (Nat.le_of_ble_eq_true rfl)) p_nil)) (by decide) (by decide +kernel)) (a_cons (d_tup a_nil (Nat.le_of_ble_eq_true rfl)) (a_cons (d_tup (a_cons d_int a_nil) (Nat.le_of_ble_eq_true rfl)) a_nil)))) (Nat.le_of_ble_eq_true rfl)) rfl) A9 fun v10 G10 H10 e10 A10 r10 => ?_
    refine s_seq (s_ifF (TrB.to (b_T (d_op (d_call0 (a_cons (d_var rfl r10) (a_cons (d_op d_str d_int (rd_mulS (mulOk_of (by decide) (by decide) (by decide)))) a_nil)) ⟨plainC, _, rfl, plain_ok, plain_s1, plain_t1, rfl⟩) (d_op (d_op d_str (d_op d_str d_int (rd_mulS (mulOk_of (by decide) (by decide) (by decide)))) (rd_addS add1)) d_str (rd_addS add2)) rd_neS)) (by rw [plain_b1, decide_eq_true rfl]; rfl)) A10 fun G11 H11 e11 A11 => s_next ?_)
    have r11 := r10.up e11
    refine s_ret (d := .bool true) (TrD.to (d_op (d_lst (a_cons (d_call0 (a_cons (d_var rfl r11) (a_cons d_str a_nil)) ⟨plainC, _, rfl, plain_ok, by decide +kernel, plain_b2.1, rfl⟩) (a_cons (d_call0 (a_cons (d_var rfl r11) (a_cons d_str a_nil)) ⟨plainC, _, rfl, plain_ok, by decide +kernel, plain_b3.1, rfl⟩) (a_cons (d_call0 (a_cons (d_lst (a_cons d_int (a_cons d_int a_nil)) (Nat.le_of_ble_eq_true rfl)) a_nil) ⟨[10, 20], rfl, ok_2, sum_2, rfl⟩) a_nil))) (Nat.le_of_ble_eq_true rfl)) (d_lst (a_cons d_str (a_cons d_str (a_cons d_str a_nil))) (Nat.le_of_ble_eq_true rfl)) (d3 := .bool true) ?_) rfl) A11 fun v G12 H12 e12 A12 r => ?_
    · rw [plain_b2.2, plain_b3.2, fmt_2]
      exact rd_eqSame (by decide +kernel) rfl
    · rw [show v = V.bl true from r]
      exact q _
end
end K81

namespace K81
open PySem PySem.Spec PyProof.Rows L2 Sb
abbrev Rw : PySem.W.OpenRow := PySem.W.OpenLaw.row PySem.Challenge.rw_scanbars_k81_scans_and_bars
abbrev hk : PySem.W.Hook := Sb.hookS 6 fa fn exB
def ob (s : PySem.W.SharedT) : He.AlD × Bool := Sb.obsS 6 fa fn exB (HandSHeadRun.getT s)
theorem ob_eq (s : PySem.W.SharedT) : ob s = hk.obs s.abs := Sb.obsS_eq (HandSHeadRun.getT_eq s)
def loose : List Str := [("ScanError" : Str), ("InvalidText" : Str), ("InvalidCode" : Str), ("InvalidScan" : Str), ("InvalidSyntax" : Str), ("NAMES" : Str), ("MOST_CHARACTERS" : Str), ("MOST_DURATIONS" : Str), ("is_integer" : Str), ("is_name" : Str), ("are_widths" : Str), ("is_widths" : Str), ("fault_of_characters" : Str), ("fault_of_code" : Str), ("require_code" : Str), ("is_text" : Str), ("require_text" : Str), ("fault_of_scan" : Str), ("require_scan" : Str), ("row_by" : Str), ("MOST_DIGITS" : Str), ("is_decimal" : Str), ("format_scan" : Str), ("parse_scan" : Str), ("bars" : Str), ("_law_reel" : Str), ("_law_spin" : Str), ("_law_widths" : Str), ("_law_code" : Str), ("_law_row_of" : Str), ("_law_scan" : Str), ("_law_fault" : Str), ("_law_told" : Str), ("_law_texts_right" : Str), ("_law_bars_right" : Str)]
theorem run (w : World) : HandSHeadRun.RunEq Rw (PySem.W.view Rw.prog [39]) hk ob 6000 loose w := by
  intro os
  kernel_rfl
theorem facts {P : Program} {w : World} {K : PySem.W.Frag} {h : Heap} {mg : Str → Option Value} {f : Addr} (X : K.In h) (G : h.Ns mainGlobals mg) (hfa : mg ("law" : Str) = some (.ref f)) (c : He.SaysD fa fn K ∧ exB K = true) :
    ∃ fd : FuncData, (∀ (s : Shared) (v : Value), BindsTo s fd ⟨[v], []⟩ [("script", v)]) ∧ ∀ bh : Heap, K.In bh → bh.Ns mainGlobals mg → FnG P w K mg bh CX0 10 f fd ["script"] (S_law K) := by
  have T : Tx K mg := ⟨h, X, G, c.1, c.2⟩
  obtain ⟨fd, F⟩ := T.f_law
  have e := hfa.symm.trans T.g_law
  cases e
  have b := FunD.bindsA (ps := ["script"]) F fun _ _ _ _ _ _ us hl => match us, hl with | [_], _ => rfl
  exact ⟨fd, fun s v => b s [v] rfl, fun bh _ _ => G_law T F⟩
end K81
open PySem PySem.W PySem.Calls PyProof.Rows
theorem PySem.Challenge.cw_scanbars_k81_scans_and_bars_holds : PySem.Challenge.rw_scanbars_k81_scans_and_bars.Holds := by
  w_on; o_law
  refine HandSHeadRun.head_any (r := K81.Rw) (q := view K81.Rw.prog [39]) (H := K81.hk) (ob := K81.ob) (M := 6000) (loose := K81.loose) (d := HandSHeadRun.topDef K81.Rw.prog 39) (kwd := []) K81.ob_eq
    (by kernel_rfl) (fun s => by kernel_rfl) K81.run (by kernel_rfl) (by kernel_rfl) (by kernel_rfl) (by rfl) (by first | assumption | decide +kernel) (by decide +kernel) ⟨rfl, rfl, rfl, rfl, rfl, by decide +kernel⟩ ?hw ?hc
  case hw => w_witness2
  case hc =>
    refine Sb.law_walks (l := PySem.Challenge.rw_scanbars_k81_scans_and_bars) (n := 63) (k := 10) (x := "script") (CX := L2.CX0) rfl (by decide) (by kernel_rfl) ⟨rfl, by decide, by decide⟩ ?F (fun _ _ _ _ z => z)
    intro w mg f h Y G hmg0
    obtain ⟨K, KX, c⟩ := Y
    have hmg : mg ("law" : PySem.Str) = some (.ref f) := by
      have e : (HandSHeadRun.topDef K81.Rw.prog 39).name = ("law" : PySem.Str) := by kernel_rfl
      rw [← e]
      exact hmg0
    obtain ⟨fd, hb, hF⟩ := K81.facts (P := (PySem.Challenge.rw_scanbars_k81_scans_and_bars).prog) (w := w) KX G hmg c
    exact ⟨K, fd, K81.S_law K, KX, hb, fun H a ns hl _ hS => ⟨a, ns, rfl, hS, Nat.le_trans hl (by decide), fun _ => rfl⟩, hF⟩

