import PyProof.Rows.All
import Wide.All
import OpenK.AllK
import Wide.FinOn
import PyProof.EqAt
import PyProof.EqKinds
import PyProof.TupleCall
import KE.KLam
import KE.KDictKeyed
import KE.GoesMore
import KE.GoesEnum
import HandS.ForMost
import HandS.ForExc
import HandS.Deep
import HandS.Walk
import HandS.IsInst
import HandS.CallSlots
import HandS.CallLocal
import HandS.Defaults
import HandS.Lambda
import HandS.TupAny
import HandS.Zip
import HandS.Conv
import KE.SortData
import PyProof.TupleOfSeq
import HandS.Style
import HandS.Iter
import HandS.ForDict
import KE.KDictDisplayH
import KE.KDictCopyH
import KE.DataMinMax
import KE.KIndexOf
import HandS.ExcIs
import HandS.TryOnly
import HandS.Head0
import HandS.Head1
import HandS.Head2
import HandS.HeadEnd
import HandS.HeadHook1
import HandS.HeadHook2
import HandS.HeadHook3
import HandS.HeadHook4
import HandS.HeadWalk
import HandS.SetFor
import HandS.Strs
import HandS.More
import KE.KDictPairs
import KE.KDictZip
import HandS.ExcOwn
import KE.KStateDown
import Lean
import HandS.Base
import HandS.Call
import HandS.Ends
import HandS.Words
import HandS.WordsExc
import PySem.Challenge.RW_refrows_k34_bounds_by_hand
set_option Elab.async false
set_option linter.all false
set_option maxRecDepth 100000
set_option maxHeartbeats 0
/-! Rf.0: new tuples whose whole object is known (they have no dict): displays, sums, slices, tuple(..), pairs of zip and enumerate. -/
namespace Rf
open PySem PySem.Spec PyProof.Rows L2 HT
/-- a new tuple: its object has no dict -/
def NewT (H : Hp) (xs : List V) (Q : V → Hp → Prop) : Prop := ∀ (p : Addr) (o : Obj), H p = none → o.dict = none → Q (.ref p) (upd H p (.frz o (.tup xs)))
section
variable {X : Cx} {pins : List (Addr × Obj)} {σ : L2.St} {H : Hp} {s : Shared}
theorem laidX {h' : Heap} {a : Addr} {xs : List V} {us : List Value} {t' n : Nat} (I : Inv X pins σ H s) (k : ∀ b u, s.heap.get? b = some u → h'.get? b = some u) (hp : s.heap.objs.size ≤ a) (z : xs.length ≤ sizeLine) (r : Vals xs us)
    (ho : h'.get? a = some { cls := .type "tuple", data := .seq us.toArray n }) {Q : V → Hp → Prop} (q : NewT H xs Q) : EP X pins σ Q (.ref a) { s with heap := h', toks := t' } :=
  ⟨.ref a, upd H a (.frz _ (.tup xs)), I.laid k hp (show ObjOk X.prog X.w _ _ _ (.frz _ (.tup xs)) from ⟨ho, z, us, r, ⟨_, ho, rfl, _, rfl⟩⟩), rfl, q a _ (I.hok.fresh hp) rfl⟩
end
section
variable {X : Cx} {es : List Expr} {t : TA} {pos : Pos}
def tTupX (t : TA) : TE := fun σ H Q => t σ H fun xs H1 => xs.length ≤ sizeLine ∧ NewT H1 xs Q
theorem pe_tupX {x1} (h : PA X es t) : PE X (.Tuple es x1 pos) (tTupX t) := by
  refine ⟨fun pins s σ H Q I hq => ?_⟩
  refine wpAny_Tuple_spliced (thn (h.run pos pins s σ H _ I hq) fun us s1 ⟨xs, H1, I1, r, z, q⟩ => ⟨by rw [← r.length]; exact z, ?_⟩)
  exact laidX (t' := s1.toks) I1 (fun b u e => Heap.get?_push_of_some _ e) (Nat.le_refl _) z r (Heap.get?_push_size _ rfl) q
def rCatX (K : PySem.W.Frag) : R2 := fun x y H Q => ∃ a b xs ys, x = .ref a ∧ y = .ref b ∧ SqT K H a xs ∧ SqT K H b ys ∧ xs.length + ys.length ≤ sizeLine ∧
  (xs = [] → Q (.ref b) H) ∧ (xs ≠ [] → ys = [] → Q (.ref a) H) ∧ (xs ≠ [] → ys ≠ [] → NewT H (xs ++ ys) Q)
theorem op_catX : OpR X (binaryOp .Add) (rCatX X.K) := by
  intro pins s σ H x y v u Q I rx ry h
  obtain ⟨a, b, xs, ys, rfl, rfl, ha, hb, hz, q0, q1, q2⟩ := h
  cases rx
  cases ry
  obtain ⟨its, r1, p1, _⟩ := I.tuple ha
  obtain ⟨its2, r2, p2, _⟩ := I.tuple hb
  by_cases hx : xs = []
  · subst hx
    cases r1
    exact cat_tup0 p1 p2 ⟨.ref b, H, I, rfl, q0 rfl⟩
  · refine HT.cat_tup p1 p2 (fun z => hx (r1.nil_iff.mp z)) (fun z => ⟨.ref a, H, I, rfl, q1 hx (r2.nil_iff.mp z)⟩) (fun z => ?_) (by rw [← r1.length, ← r2.length]; exact hz)
    exact laidX (t' := s.toks) I (fun b ob q => Heap.get?_push_of_some _ q) (Nat.le_refl _) (by rw [List.length_append]; exact hz) (r1.append r2) (Heap.get?_push_size _ rfl) (q2 hx fun w => z (r2.nil_iff.mpr w))
def rSlX (K : PySem.W.Frag) : V → Option Int → Option Int → Hp → VK → Prop := fun x lo hi H Q => ∃ a xs, x = .ref a ∧ SqT K H a xs ∧
  (HT.sIx xs.length 0 lo = 0 ∧ HT.sIx xs.length xs.length hi = xs.length → Q (.ref a) H) ∧ (¬ (HT.sIx xs.length 0 lo = 0 ∧ HT.sIx xs.length xs.length hi = xs.length) → NewT H (cutV xs lo hi) Q)
theorem sl_tupX : SlR X (rSlX X.K) := by
  intro pins s σ H x v vl vu lo hi sl Q I rx hs pl pu h
  obtain ⟨a, xs, rfl, hx, q1, q2⟩ := h
  cases rx
  obtain ⟨its, r, ht, hz⟩ := I.tuple hx
  have hlen : its.toArray.size = xs.length := by rw [List.size_toArray]; exact r.length.symm
  refine ⟨"tuple", _, PyProof.Rows.slot_tuple_getitem.lookup, ht.typeIs, ?_⟩
  by_cases hw : HT.sIx xs.length 0 lo = 0 ∧ HT.sIx xs.length xs.length hi = xs.length
  · exact getItem_tuple_whole ht hs pl pu (by rw [hlen]; exact hw) ⟨.ref a, H, I, rfl, q1 hw⟩
  · refine HT.getItem_tuple_cut ht hs pl pu (by rw [hlen]; exact hw) ?_ (by rw [hlen]; exact hz)
    rw [hlen]
    exact laidX (t' := s.toks) I (fun b ob q => Heap.get?_push_of_some _ q) (Nat.le_refl _) (Nat.le_trans (cutV_length xs lo hi) hz) ((r.drop (HT.sIx xs.length 0 lo)).take (HT.sIx xs.length xs.length hi - HT.sIx xs.length 0 lo)) (Heap.get?_push_size _ rfl) (q2 hw)
theorem call_tuple_ofX : CallR X (.type "tuple") (fun xs H Q => ∃ p ys, xs = [.ref p] ∧ ((SqL X.K H p ys ∧ NewT H ys Q) ∨ (SqT X.K H p ys ∧ Q (.ref p) H))) := by
  intro pins s σ H xs us Q I r h
  obtain ⟨p, ys, rfl, h⟩ := h
  obtain ⟨u, rfl, rx⟩ := vals1 r
  cases rx
  rcases h with ⟨hq, q⟩ | ⟨hq, q⟩
  · obtain ⟨its, r', pl, hz⟩ := I.list hq
    have hlen := r'.length
    refine call_tuple_list pl.isList (fun h' kp => ?_) (by simp only [List.size_toArray] <;> omega)
    exact laidX (t' := s.toks) (I.kept (t' := s.toks) kp) (fun b o e => Heap.get?_push_of_some _ e) (Nat.le_refl _) hz r' (Heap.get?_push_size _ rfl) q
  · obtain ⟨its, r', pl, hz⟩ := I.tuple hq
    exact call_tuple_same pl ⟨.ref p, H, I, rfl, q⟩
variable {e : Expr} {te : L2.St → Hp → (Int → Int → Hp → Prop) → Prop}
def tTupRgX (te : L2.St → Hp → (Int → Int → Hp → Prop) → Prop) : TE := fun σ H Q => te σ H fun a b H1 => RgOk a b ∧ NewT H1 (rgV a b) Q
theorem pe_tupRgX {p pos : Pos} (hc : X.calm = true) (hg : Gl X "tuple") (hm : X.mg "tuple" = none) (he : PRg X e te) (na : starEach [e] X.env = (false, eval e X.env) :: starEach [] X.env := by rfl) : PE X (.Call (.Name "tuple" p) [e] [] pos) (tTupRgX te) := by
  refine ⟨fun pins s σ H Q I h => ?_⟩
  refine Call_ (ld_blt I hg hm boot_tuple (PyProof.Rows.callWith_type1 (args_cons (thn (he pins s σ H _ I h) fun x s1 ⟨r, a, b, t, u, v, H1, ex, hr, I1, ok, q⟩ => args_nil ?_) na) na))
  subst ex
  obtain ⟨b1, b2, b3, b4, b5⟩ := ok
  refine call_tuple_range (n := (b - a).toNat) (I1.ok.hd hc) hr (small_one b1 b2 b3 b4) (rangeSize_nat a b) b5 fun h' tk acc hk hi => ?_
  have I2 : Inv X pins σ H1 { s1 with heap := h', toks := tk } := I1.kept hk
  exact laidX (t' := tk) (n := 0) I2 (fun c o e => Heap.get?_push_of_some _ e) (Nat.le_refl _) (by rw [rgV_length, sizeLine_eq]; omega) (vals_rg hi) (by rw [Array.toArray_toList]; exact Heap.get?_push_size _ rfl) q
end
/-! ### pairs -/
/-- as J, but the pair's object is known -/
def pairX (J : It) (f : Nat → Hp → V → V → Prop) : It := ⟨J.go, fun i H v H' => ∃ T x y o, v = .ref T ∧ H T = none ∧ o.dict = none ∧ H' = upd H T (.frz o (.tup [x, y])) ∧ f i H x y, J.stop⟩
def YPairX (xs ys : Nat → Option V) : Nat → Hp → V → Hp → Prop := fun i H v H' => ∃ T x y o, v = .ref T ∧ H T = none ∧ o.dict = none ∧ H' = upd H T (.frz o (.tup [x, y])) ∧ xs i = some x ∧ ys i = some y
def fz (K : PySem.W.Frag) (a b : Addr) (i : Nat) (H : Hp) (x y : V) : Prop := (∀ xs, SqL K H a xs → xs[i]? = some x) ∧ ∀ ys, SqL K H b ys → ys[i]? = some y
def fzT (K : PySem.W.Frag) (a b : Addr) (i : Nat) (H : Hp) (x y : V) : Prop := (∀ xs, SqT K H a xs → xs[i]? = some x) ∧ ∀ ys, SqT K H b ys → ys[i]? = some y
def fe (K : PySem.W.Frag) (a : Addr) (i : Nat) (H : Hp) (x y : V) : Prop := x = .int (i : Nat) ∧ ∀ ys, SqL K H a ys → ys[i]? = some y
def feT (K : PySem.W.Frag) (a : Addr) (i : Nat) (H : Hp) (x y : V) : Prop := x = .int (i : Nat) ∧ ∀ ys, SqT K H a ys → ys[i]? = some y
theorem newPair {X : Cx} {pins : List (Addr × Obj)} {σ : L2.St} {H : Hp} {s : Shared} {h'' : Heap} {ch : List Addr} {tk : Nat} {x y : V} {u u2 : Value} (I : Inv X pins σ H s) (k : ∀ c o, c ∉ ch → s.heap.get? c = some o → h''.get? c = some o) (hf : ∀ b ∈ ch, FpOk X pins H b) (rx : RelV x u) (ry : RelV y u2)
    (hT : h''.get? s.heap.objs.size = some { cls := .type "tuple", data := .seq #[u, u2] }) : Inv X pins σ (upd H s.heap.objs.size (.frz { cls := .type "tuple", data := .seq #[u, u2] } (.tup [x, y]))) { s with heap := h'', toks := tk } :=
  I.turnedNew (ch := ch) (ob := .frz { cls := .type "tuple", data := .seq #[u, u2] } (.tup [x, y])) k hf (Nat.le_refl _) ⟨hT, by show 2 ≤ sizeLine; decide, [u, u2], .cons rx (.cons ry .nil), ⟨_, hT, rfl, _, rfl⟩⟩
section
variable {P : Program} {w : World} {K : PySem.W.Frag} {elts : List Expr} {kk : Nat} {tpos : Pos}
theorem turn_zipX {a b z TI TO i1 i2 : Addr} (D : ZipApart z TI TO i1 i2 a b) :
    Turn P w K (.Tuple elts kk tpos) (pairX (Itz K a b) (fz K a b)) [z, TI, TO, i1, i2] z (fun i h => IsZip h z TI TO .none ∧ IsPair h TI (.ref i1) (.ref i2) ∧ (∃ x y, IsPair h TO x y) ∧ h.IsListIter i1 a i ∧ h.IsListIter i2 b i) where
  mem := by simp
  obj := (turn_zip (P := P) (w := w) (K := K) (elts := elts) (kk := kk) (tpos := tpos) D).obj
  keep := (turn_zip (P := P) (w := w) (K := K) (elts := elts) (kk := kk) (tpos := tpos) D).keep
  done := (turn_zip (P := P) (w := w) (K := K) (elts := elts) (kk := kk) (tpos := tpos) D).done
  self := (turn_zip (P := P) (w := w) (K := K) (elts := elts) (kk := kk) (tpos := tpos) D).self
  item := by
    intro X hP hw hK hc i pins s σ H E I hf st hg
    subst hP hw hK
    have st0 := st
    obtain ⟨hz, hTI, ⟨x0, y0, hTO⟩, h1, h2⟩ := st
    obtain ⟨xs, ys, x, y, hqx, hqy, hx, hy⟩ := hg
    obtain ⟨its, rv, p, _⟩ := I.list hqx
    obtain ⟨its2, rv2, p2, _⟩ := I.list hqy
    obtain ⟨u, hu, ru⟩ := rv.get hx
    obtain ⟨u2, hu2, ru2⟩ := rv2.get hy
    have hzl : z < s.heap.objs.size := Heap.lt_size hz
    refine wpAny_pyNext_zip_item D hz hTI hTO h1 h2 p.isList p2.isList (x := u) (y := u2) (by simpa using hu) (by simpa using hu2) fun h' z' TO' h1' h2' hT hsz hk => ?_
    refine ⟨_, rfl, wpAny_letOwnedTupleGo_zip (s := { s with heap := h' }) z' fun h'' z'' sb => ?_⟩
    have I1 := newPair (tk := s.toks) (h'' := h'') I (ch := [z, TI, TO, i1, i2]) (fun c o hb q => (sb.2 c (fun q' => hb (by simp [q']))).trans (hk c o (fun q' => hb (by simp [q'])) (fun q' => hb (by simp [q'])) (fun q' => hb (by simp [q'])) (fun q' => hb (by simp [q'])) q)) hf ru ru2 ((sb.2 _ (Nat.ne_of_gt hzl)).trans hT)
    refine ⟨.ref s.heap.objs.size, _, I1, rfl, ⟨_, x, y, _, rfl, I.hok.fresh (Nat.le_refl _), rfl, rfl, fun l hl => by rw [I.list_inj hl hqx]; exact hx, fun l hl => by rw [I.list_inj hl hqy]; exact hy⟩, ⟨z'', ?_, ⟨u, u2, ?_⟩, ?_, ?_⟩, fun c hcm => ?_⟩
    · exact (sb.2 _ D.TIz).trans (hk _ _ D.TIz D.TITO D.TIi1 D.TIi2 hTI)
    · exact (sb.2 _ D.TOz).trans TO'
    · exact h1'.at fun o q => (sb.2 _ D.i1z).trans q
    · exact h2'.at fun o q => (sb.2 _ D.i2z).trans q
    · obtain ⟨oc, hoc, _⟩ := (turn_zip (P := X.prog) (w := X.w) (K := X.K) (elts := elts) (kk := kk) (tpos := tpos) D).obj i _ st0 c hcm
      rw [upd_ne (Nat.ne_of_lt (Heap.lt_size hoc))]
      exact (hf c hcm).1
theorem turn_zipTX {a b z TI TO i1 i2 : Addr} (D : ZipApart z TI TO i1 i2 a b) :
    Turn P w K (.Tuple elts kk tpos) (pairX (RZ.ItzT K a b) (fzT K a b)) [z, TI, TO, i1, i2] z (fun i h => IsZip h z TI TO .none ∧ IsPair h TI (.ref i1) (.ref i2) ∧ (∃ x y, IsPair h TO x y) ∧ h.IsTupleIter i1 a i ∧ h.IsTupleIter i2 b i) where
  mem := by simp
  obj := (RZ.turn_zipT (P := P) (w := w) (K := K) (elts := elts) (kk := kk) (tpos := tpos) D).obj
  keep := (RZ.turn_zipT (P := P) (w := w) (K := K) (elts := elts) (kk := kk) (tpos := tpos) D).keep
  done := (RZ.turn_zipT (P := P) (w := w) (K := K) (elts := elts) (kk := kk) (tpos := tpos) D).done
  self := (RZ.turn_zipT (P := P) (w := w) (K := K) (elts := elts) (kk := kk) (tpos := tpos) D).self
  item := by
    intro X hP hw hK hc i pins s σ H E I hf st hg
    subst hP hw hK
    have st0 := st
    obtain ⟨hz, hTI, ⟨x0, y0, hTO⟩, h1, h2⟩ := st
    obtain ⟨xs, ys, x, y, hqx, hqy, hx, hy⟩ := hg
    obtain ⟨its, rv, p, _⟩ := I.tuple hqx
    obtain ⟨its2, rv2, p2, _⟩ := I.tuple hqy
    obtain ⟨u, hu, ru⟩ := rv.get hx
    obtain ⟨u2, hu2, ru2⟩ := rv2.get hy
    have hzl : z < s.heap.objs.size := Heap.lt_size hz
    refine RZ.pyNext_zipT_item D hz hTI hTO h1 h2 p p2 (x := u) (y := u2) (by simpa using hu) (by simpa using hu2) fun h' z' TO' h1' h2' hT hsz hk => ?_
    refine ⟨_, rfl, wpAny_letOwnedTupleGo_zip (s := { s with heap := h' }) z' fun h'' z'' sb => ?_⟩
    have I1 := newPair (tk := s.toks) (h'' := h'') I (ch := [z, TI, TO, i1, i2]) (fun c o hb q => (sb.2 c (fun q' => hb (by simp [q']))).trans (hk c o (fun q' => hb (by simp [q'])) (fun q' => hb (by simp [q'])) (fun q' => hb (by simp [q'])) (fun q' => hb (by simp [q'])) q)) hf ru ru2 ((sb.2 _ (Nat.ne_of_gt hzl)).trans hT)
    refine ⟨.ref s.heap.objs.size, _, I1, rfl, ⟨_, x, y, _, rfl, I.hok.fresh (Nat.le_refl _), rfl, rfl, fun l hl => by rw [I.tuple_inj hl hqx]; exact hx, fun l hl => by rw [I.tuple_inj hl hqy]; exact hy⟩, ⟨z'', ?_, ⟨u, u2, ?_⟩, ?_, ?_⟩, fun c hcm => ?_⟩
    · exact (sb.2 _ D.TIz).trans (hk _ _ D.TIz D.TITO D.TIi1 D.TIi2 hTI)
    · exact (sb.2 _ D.TOz).trans TO'
    · exact h1'.at fun o q => (sb.2 _ D.i1z).trans q
    · exact h2'.at fun o q => (sb.2 _ D.i2z).trans q
    · obtain ⟨oc, hoc, _⟩ := (RZ.turn_zipT (P := X.prog) (w := X.w) (K := X.K) (elts := elts) (kk := kk) (tpos := tpos) D).obj i _ st0 c hcm
      rw [upd_ne (Nat.ne_of_lt (Heap.lt_size hoc))]
      exact (hf c hcm).1
end
def iZipX (K : PySem.W.Frag) (ta : TA) : TI := fun σ H R => ta σ H fun vs H1 => ∃ a b xs ys, vs = [.ref a, .ref b] ∧ ((SqL K H1 a xs ∧ SqL K H1 b ys ∧ R (pairX (Itz K a b) (fz K a b)) H1) ∨ (SqT K H1 a xs ∧ SqT K H1 b ys ∧ R (pairX (RZ.ItzT K a b) (fzT K a b)) H1))
theorem pi_zipX {X : Cx} {e e2 : Expr} {ta : TA} {p pos tpos : Pos} {elts : List Expr} {kk : Nat} (hg : Gl X "zip") (hm : X.mg "zip" = none) (ha : PA X [e, e2] ta)
    (hs : starEach [e, e2] X.env = (false, eval e X.env) :: starEach [e2] X.env := by rfl) (hpl : (backTo pos (starEach [e2] X.env)).any (·.1) = false := by rfl) :
    PI X (.Tuple elts kk tpos) (.Call (.Name "zip" p) [e, e2] [] pos) (iZipX X.K ta) := by
  refine ⟨fun pins s σ H R I h => ?_⟩
  refine Call_ (ld_blt I hg hm PyProof.Rows.boot_zip (PyProof.Rows.callWith_type1 (thn (ha.run pos pins s σ H _ I h) fun us s1 ⟨vs, H1, I1, r1, q1⟩ => ?_) hs hpl))
  obtain ⟨a, b, xs, ys, ex, q1⟩ := q1
  subst ex
  cases r1 with
  | cons r rr =>
    cases rr with
    | cons r' rr =>
      cases rr
      cases r
      cases r'
      have fresh5 : ∀ c, c ∈ [s1.heap.objs.size + 4, s1.heap.objs.size + 2, s1.heap.objs.size + 3, s1.heap.objs.size, s1.heap.objs.size + 1] → FpOk X pins H1 c := fun c hcm => by
        have hle : s1.heap.objs.size ≤ c := by
          simp only [List.mem_cons, List.not_mem_nil, or_false] at hcm
          rcases hcm with z | z | z | z | z <;> rw [z] <;> first | exact Nat.le_refl _ | exact Nat.le_add_right _ _
        exact I1.fpOk hle (I1.hok.fresh hle)
      rcases q1 with ⟨hqx, hqy, q⟩ | ⟨hqx, hqy, q⟩
      · obtain ⟨its, rv, p1, _⟩ := I1.list hqx
        obtain ⟨its2, rv2, p2, _⟩ := I1.list hqy
        refine call_zip_2 p1.isList p2.isList fun h' hz hTI hTO h1 h2 hsz hk => wpAny_pyIter_zip hz ?_
        have I2 : Inv X pins σ H1 { s1 with heap := h' } := I1.kept (t' := s1.toks) hk
        exact ⟨_, _, _, _, H1, rfl, I2, turn_zipX (PySem.W.ktu_apart s1.heap.objs.size a b p1.lt p2.lt), ⟨hz, hTI, ⟨_, _, hTO⟩, h1, h2⟩, fresh5, q⟩
      · obtain ⟨its, rv, p1, _⟩ := I1.tuple hqx
        obtain ⟨its2, rv2, p2, _⟩ := I1.tuple hqy
        obtain ⟨o1, ho1, _⟩ := id p1
        obtain ⟨o2, ho2, _⟩ := id p2
        refine RZ.call_zipT (show s1.heap.IsTuple a its.toArray from p1) (show s1.heap.IsTuple b its2.toArray from p2) fun h' hz hTI hTO h1 h2 hsz hk => wpAny_pyIter_zip hz ?_
        have I2 : Inv X pins σ H1 { s1 with heap := h' } := I1.kept (t' := s1.toks) hk
        exact ⟨_, _, _, _, H1, rfl, I2, turn_zipTX (PySem.W.ktu_apart s1.heap.objs.size a b (Heap.lt_size ho1) (Heap.lt_size ho2)), ⟨hz, hTI, ⟨_, _, hTO⟩, h1, h2⟩, fresh5, q⟩
theorem walk_zipX {K : PySem.W.Frag} {a b : Addr} {xs ys : List V} {n : Nat} (hn : n = min xs.length ys.length) : Walk (pairX (Itz K a b) (fz K a b)) n (fun H => SqL K H a xs ∧ SqL K H b ys) (YPairX (fun i => xs[i]?) (fun i => ys[i]?)) := by
  subst hn
  refine ⟨fun i _ hi q => ?_, fun _ q => ⟨xs, ys, q.1, q.2, by omega⟩, fun i H v H' _ q y => ?_⟩
  · have h1 : i < xs.length := by omega
    have h2 : i < ys.length := by omega
    exact ⟨xs, ys, xs[i], ys[i], q.1, q.2, by simp [h1], by simp [h2]⟩
  · obtain ⟨T, x, z, o, h1, h2, h3, h4, h5, h6⟩ := y
    exact ⟨T, x, z, o, h1, h2, h3, h4, h5 xs q.1, h6 ys q.2⟩
theorem walk_zipTX {K : PySem.W.Frag} {a b : Addr} {xs ys : List V} {n : Nat} (hn : n = min xs.length ys.length) : Walk (pairX (RZ.ItzT K a b) (fzT K a b)) n (fun H => SqT K H a xs ∧ SqT K H b ys) (YPairX (fun i => xs[i]?) (fun i => ys[i]?)) := by
  subst hn
  refine ⟨fun i _ hi q => ?_, fun _ q => ⟨xs, ys, q.1, q.2, by omega⟩, fun i H v H' _ q y => ?_⟩
  · have h1 : i < xs.length := by omega
    have h2 : i < ys.length := by omega
    exact ⟨xs, ys, xs[i], ys[i], q.1, q.2, by simp [h1], by simp [h2]⟩
  · obtain ⟨T, x, z, o, h1, h2, h3, h4, h5, h6⟩ := y
    exact ⟨T, x, z, o, h1, h2, h3, h4, h5 xs q.1, h6 ys q.2⟩
end Rf

/-! Rf.A: values as data (PyData), results, slots; what stands for a datum in the abstract heap (Gd), owners of lists that are still written, the order of states. -/
namespace Rf
open PySem PySem.Spec PyProof.Rows L2 LamX

abbrev D := PyData
abbrev LIM : Nat := 100000

/-- the end of a reckoning: a value, an error of an own class, or nothing is known -/
inductive R (α : Type) where
  | ok (a : α)
  | exc (c : Str)
  | bad
def R.bind {α β : Type} : R α → (α → R β) → R β
  | .ok a, f => f a
  | .exc c, _ => .exc c
  | .bad, _ => .bad
@[simp] theorem R.bind_ok {α β : Type} (a : α) (f : α → R β) : (R.ok a).bind f = f a := rfl
@[simp] theorem R.bind_exc {α β : Type} (c : Str) (f : α → R β) : (R.exc c : R α).bind f = .exc c := rfl
@[simp] theorem R.bind_bad {α β : Type} (f : α → R β) : (R.bad : R α).bind f = .bad := rfl

/-- what a slot holds: a datum that is no longer written; a list of its own that is still written; a def -/
inductive Sl where
  | dat (d : D)
  | lst (ds : List D)
  | fn (x : Str)
  | scr (ns : List Int)
  | dic (kvs : List (Key × D))
  | nkd (lk : Bool) (kvs : List (D × D))
  | town (n : Int) (rests : List (Int × Int))
  | desk (basis there links : D) (done undone : List D)

abbrev Rho := List (Option Sl)

/-- the same with the slots behind it -/
inductive Res (α : Type) where
  | ok (a : α) (r : Rho)
  | exc (c : Str) (r : Rho)
  | bad
def Res.bind {α β : Type} : Res α → (α → Rho → Res β) → Res β
  | .ok a r, f => f a r
  | .exc c r, _ => .exc c r
  | .bad, _ => .bad
@[simp] theorem Res.bind_ok {α β : Type} (a : α) (r : Rho) (f : α → Rho → Res β) : (Res.ok a r).bind f = f a r := rfl
@[simp] theorem Res.bind_exc {α β : Type} (c : Str) (r : Rho) (f : α → Rho → Res β) : (Res.exc c r : Res α).bind f = .exc c r := rfl
@[simp] theorem Res.bind_bad {α β : Type} (f : α → Rho → Res β) : (Res.bad : Res α).bind f = .bad := rfl

/-! ### what stands for a datum -/
abbrev Own := Addr → Option Nat
def KTu (K : PySem.W.Frag) (a : Addr) (xs : List V) : Prop := ∃ (o : Obj) (its : Array Value) (n : Nat), K.lookup a = some o ∧ o.cls = .type "tuple" ∧ o.data = .seq its n ∧ its.size ≤ sizeLine ∧ Vals xs its.toList
/-- a tracked object that nobody writes any more -/
def Qo (O : Own) (H : Hp) (a : Addr) (u : HO) : Prop := H a = some u ∧ O a = none
/-- .. or one that is read while a loop walks it -/
def QR (O : Own) (H : Hp) (a : Addr) (u : HO) : Prop := Rd H a u ∧ O a = none
/-- a tuple whose whole object is known: it has no dict -/
def QX (O : Own) (H : Hp) (a : Addr) (xs : List V) : Prop := ∃ o : Obj, o.dict = none ∧ Qo O H a (.frz o (.tup xs))
def KTx (K : PySem.W.Frag) (a : Addr) (xs : List V) : Prop := KTu K a xs ∧ ∃ o, K.lookup a = some o ∧ o.dict = none
def QT (K : PySem.W.Frag) (O : Own) (H : Hp) (a : Addr) (xs : List V) : Prop := QX O H a xs ∨ KTx K a xs
theorem QT.sq {K : PySem.W.Frag} {O : Own} {H : Hp} {a : Addr} {xs : List V} (h : QT K O H a xs) : SqT K H a xs := h.elim (fun ⟨o, _, z⟩ => .inl (.inr ⟨o, z.1⟩)) fun z => .inr z.1
/-- a key as a datum -/
def kD : Key → D
  | .inl i => .int i
  | .inr x => .str x
mutual
inductive Gd (K : PySem.W.Frag) (O : Own) (H : Hp) : V → D → Prop
  | non : Gd K O H .non .none
  | bl (b : Bool) : Gd K O H (.bl b) (.bool b)
  | int (i : Int) : Gd K O H (.int i) (.int i)
  | str (x : Str) : Gd K O H (.str x) (.str x)
  | lst {a : Addr} {xs : List V} {ds : List D} : Qo O H a (.lst xs) → GdAll K O H xs ds → ds.length ≤ LIM → Gd K O H (.ref a) (.list ds)
  | tup {a : Addr} {xs : List V} {ds : List D} : QT K O H a xs → GdAll K O H xs ds → ds.length ≤ LIM → Gd K O H (.ref a) (.tuple ds)
  | dic {a : Addr} {ks : List Key} {xs : List V} {ds : List D} : QR O H a (.dK (ks.zip xs)) → ks.length = xs.length → GdAll K O H xs ds → ds.length ≤ LIM → Gd K O H (.ref a) (.dict ((ks.map kD).zip ds))
inductive GdAll (K : PySem.W.Frag) (O : Own) (H : Hp) : List V → List D → Prop
  | nil : GdAll K O H [] []
  | cons {v : V} {vs : List V} {d : D} {ds : List D} : Gd K O H v d → GdAll K O H vs ds → GdAll K O H (v :: vs) (d :: ds)
end
mutual
/-- a datum as a key -/
def nkOf : D → Option NestedKey
  | .none => some .none
  | .bool b => some (.num (if b = true then 1 else 0))
  | .int i => some (.num i)
  | .str x => some (.text x)
  | .tuple ds => (nkAll ds).map NestedKey.tup
  | _ => none
def nkAll : List D → Option (List NestedKey)
  | [] => some []
  | d :: r => match nkOf d, nkAll r with
    | some k, some ks => some (k :: ks)
    | _, _ => none
end
/-- a dict whose keys are tuples, by its entries -/
def nkHO (P : Program) (w : World) (a : Addr) (es : List (NestedKey × Addr × V)) : HO := .ext fun h => ∃ (o : Obj) (des : Array DictEntry) (ep : Nat) (xs : List (NestedKey × Addr × Value)), h.get? a = some o ∧ o.ExactDict ∧ o.data = .dict des ep ∧
  Paired (fun (p : NestedKey × Addr × V) (q : NestedKey × Addr × Value) => p.1 = q.1 ∧ p.2.1 = q.2.1 ∧ RelV p.2.2 q.2.2) es xs ∧ des.toList = xs.map (entryOfKey (nestedKind P w)) ∧ (xs.map (·.1)).Nodup
theorem nkHO_code {P : Program} {w : World} {a c : Addr} {es : List (NestedKey × Addr × V)} {q : Str} : nkHO P w a es ≠ CodeO c q := fun e => by
  unfold nkHO CodeO at e
  injection e with e
  have ha := congrFun e (({ objs := Array.replicate c { cls := .none, data := .fields #[] } } : Heap).push { cls := .none, data := .fields #[.none, .str q 0] })
  have sz : ({ objs := Array.replicate c { cls := .none, data := .fields #[] } } : Heap).objs.size = c := by simp
  have hc := Heap.get?_push_size (o := { cls := .none, data := .fields #[.none, .str q 0] }) ({ objs := Array.replicate c { cls := .none, data := .fields #[] } } : Heap) rfl
  rw [sz] at hc
  have y := cast ha.symm ⟨_, _, _, hc, rfl, rfl⟩
  obtain ⟨o, des, ep, xs, h1, ⟨h2, _⟩, h3, _⟩ := y
  by_cases q : a = c
  · rw [q, hc] at h1
    cases h1
    cases h3
  · rw [Heap.get?_push_ne _ _ _ (by rw [sz]; exact q)] at h1
    have h4 := (Heap.get?_some_iff.mp h1).1
    rw [Array.getElem?_replicate] at h4
    split at h4
    · cases h4
      cases h3
    · cases h4
/-- .. as it stands, locked by a loop or not -/
def NkH (P : Program) (w : World) (H : Hp) (a : Addr) (es : List (NestedKey × Addr × V)) : Bool → Prop
  | true => ∃ od, H a = some (.frz od (nkHO P w a es))
  | false => H a = some (nkHO P w a es)
/-- its owner: the slot; while it is locked nobody of this frame -/
def nkI (i : Nat) : Bool → Nat
  | true => 1000 + i
  | false => i
def NkO (O : Own) (a : Addr) (i : Nat) (lk : Bool) : Prop := O a = some (nkI i lk)
theorem NkO.ne {O : Own} {a p : Addr} {i k : Nat} (hp : O p = some i) (hi : i < 900) (hk : k ≠ i) : ∀ {lk : Bool}, NkO O a k lk → a ≠ p
  | true, h => fun z => by
    have h' : O a = some (1000 + k) := h
    rw [z, hp] at h'
    cases h'
    omega
  | false, h => fun z => by
    have h' : O a = some k := h
    rw [z, hp] at h'
    cases h'
    exact hk rfl
theorem NkH.rd {P : Program} {w : World} {H : Hp} {a : Addr} {es : List (NestedKey × Addr × V)} : ∀ {lk : Bool}, NkH P w H a es lk → Rd H a (nkHO P w a es)
  | true, ⟨od, h⟩ => .inr ⟨od, h⟩
  | false, h => .inl h
theorem NkH.keep {P : Program} {w : World} {H H' : Hp} {a : Addr} {es : List (NestedKey × Addr × V)} (k : ∀ o, H a = some o → (∀ ps, o ≠ .tbl ps) → H' a = some o) : ∀ {lk : Bool}, NkH P w H a es lk → NkH P w H' a es lk
  | true, ⟨od, h⟩ => ⟨od, k _ h (fun _ z => by cases z)⟩
  | false, h => k _ h (fun _ z => by cases z)
theorem NkH.nn {P : Program} {w : World} {H : Hp} {a : Addr} {es : List (NestedKey × Addr × V)} : ∀ {lk : Bool}, NkH P w H a es lk → H a ≠ none
  | true, ⟨od, h⟩ => fun z => by rw [h] at z; cases z
  | false, h => fun z => by
    have h' : H a = some (nkHO P w a es) := h
    rw [h'] at z
    cases z
def NkAll (K : PySem.W.Frag) (O : Own) (H : Hp) : List (D × D) → List (NestedKey × Addr × V) → Prop := Paired fun (p : D × D) (q : NestedKey × Addr × V) => nkOf p.1 = some q.1 ∧ q.1.depth ≤ 8 ∧ Gd K O H (.ref q.2.1) p.1 ∧ Gd K O H q.2.2 p.2
theorem NkAll.map {K : PySem.W.Frag} {O O' : Own} {H H' : Hp} {kvs : List (D × D)} {es : List (NestedKey × Addr × V)} (h : NkAll K O H kvs es) (f : ∀ v d, Gd K O H v d → Gd K O' H' v d) : NkAll K O' H' kvs es := Paired.mapP h fun p q z => ⟨z.1, z.2.1, f _ _ z.2.2.1, f _ _ z.2.2.2⟩
/-- written by this frame -/
def mine (O : Own) (a : Addr) : Prop := ∃ i, O a = some i ∧ i < 900
theorem not_mine {O : Own} {a : Addr} (h : O a = none) : ¬ mine O a := fun ⟨_, e, _⟩ => by rw [h] at e; cases e
/-- there, and no table -/
def nt (H : Hp) (a : Addr) : Prop := ∃ o, H a = some o ∧ ∀ ps, o ≠ .tbl ps
theorem nt.ext {H H' : Hp} {a : Addr} (s : ExtN H H') (h : nt H a) : nt H' a := h.elim fun o q => ⟨o, s a o q.1 q.2, q.2⟩
theorem nt.not {H : Hp} {a : Addr} (h : nt H a) : H a ≠ none := fun z => by
  obtain ⟨o, q, _⟩ := h
  rw [q] at z
  cases z
theorem ne_nt {H : Hp} {a p : Addr} {o : HO} (e : H a = some o) (t : ∀ ps, o ≠ .tbl ps) (hp : ¬ nt H p) : a ≠ p := fun z => hp (z ▸ ⟨o, e, t⟩)
theorem nt_none {H : Hp} {p : Addr} (h : H p = none) : ¬ nt H p := fun z => z.not h
/-- what is owned is there, and no table -/
def Fr (O : Own) (H : Hp) : Prop := ∀ a k, O a = some k → nt H a
theorem Fr.none {O : Own} {H : Hp} (f : Fr O H) : ∀ a, H a = Option.none → O a = Option.none := fun a h => by
  cases e : O a with
  | none => rfl
  | some k => exact absurd h (f a k e).not
theorem Fr.not {O : Own} {H : Hp} (f : Fr O H) {a : Addr} (h : ¬ nt H a) : O a = Option.none := by
  cases e : O a with
  | none => rfl
  | some k => exact absurd (f a k e) h
/-- the order of states -/
structure Le (O : Own) (H : Hp) (O' : Own) (H' : Hp) : Prop where
  there : ∀ a, nt H a → nt H' a
  own : ∀ a, nt H a → ¬ mine O a → O' a = O a
  keep : ∀ a o, H a = some o → ¬ mine O a → (∀ ps, o ≠ .tbl ps) → H' a = some o
section
variable {K : PySem.W.Frag} {O O' O2 : Own} {H H' H2 : Hp}
theorem Le.refl : Le O H O H := ⟨fun _ h => h, fun _ _ _ => rfl, fun _ _ h _ _ => h⟩
theorem Le.trans (a : Le O H O' H') (b : Le O' H' O2 H2) : Le O H O2 H2 where
  there := fun x h => b.there x (a.there x h)
  own := fun x h n => by
    have e := a.own x h n
    have n' : ¬ mine O' x := fun ⟨i, z, l⟩ => n ⟨i, by rw [← e]; exact z, l⟩
    rw [b.own x (a.there x h) n', e]
  keep := fun x o h n t => by
    have h0 : nt H x := ⟨o, h, t⟩
    have e := a.own x h0 n
    have n' : ¬ mine O' x := fun ⟨i, z, l⟩ => n ⟨i, by rw [← e]; exact z, l⟩
    exact b.keep x o (a.keep x o h n t) n' t
theorem Le.same (s : Same H H') : Le O H O H' where
  there := fun a ⟨o, h, t⟩ => ⟨o, s a o h, t⟩
  own := fun _ _ _ => rfl
  keep := fun a o h _ _ => s a o h
/-- where nothing is this frame's, all but the tables stays -/
theorem Le.all (l : Le O H O' H') (n : ∀ a, ¬ mine O a) : ExtN H H' := fun a o h t => l.keep a o h (n a) t
theorem Le.ext (s : ExtN H H') : Le O H O H' where
  there := fun a h => h.ext s
  own := fun _ _ _ => rfl
  keep := fun a o h _ t => s a o h t
theorem same_new {p : Addr} {o : HO} (h : H p = none) : Same H (upd H p o) := fun a u e => by
  rw [upd_ne (ne_of_none e h)]
  exact e
theorem Qo.le {a : Addr} {u : HO} (l : Le O H O' H') (h : Qo O H a u) (t : ∀ ps, u ≠ .tbl ps := by intro ps z; cases z) : Qo O' H' a u :=
  ⟨l.keep a _ h.1 (not_mine h.2) t, (l.own a ⟨_, h.1, t⟩ (not_mine h.2)).trans h.2⟩
theorem QR.le {a : Addr} {u : HO} (l : Le O H O' H') (h : QR O H a u) (t : ∀ ps, u ≠ .tbl ps := by intro ps z; cases z) : QR O' H' a u := by
  obtain ⟨h1 | ⟨o, h1⟩, h2⟩ := h
  · exact ⟨.inl (l.keep a _ h1 (not_mine h2) t), (l.own a ⟨_, h1, t⟩ (not_mine h2)).trans h2⟩
  · exact ⟨.inr ⟨o, l.keep a _ h1 (not_mine h2) (fun _ z => by cases z)⟩, (l.own a ⟨_, h1, fun _ z => by cases z⟩ (not_mine h2)).trans h2⟩
theorem QT.le {a : Addr} {xs : List V} (l : Le O H O' H') (h : QT K O H a xs) : QT K O' H' a xs := h.elim (fun ⟨o, hd, z⟩ => .inl ⟨o, hd, z.le l⟩) .inr
mutual
theorem Gd.le (l : Le O H O' H') : ∀ {v : V} {d : D}, Gd K O H v d → Gd K O' H' v d
  | _, _, .non => .non
  | _, _, .bl b => .bl b
  | _, _, .int i => .int i
  | _, _, .str x => .str x
  | _, _, .lst q g z => .lst (q.le l) (GdAll.le l g) z
  | _, _, .tup q g z => .tup (q.le l) (GdAll.le l g) z
  | _, _, .dic q e g z => .dic (q.le l) e (GdAll.le l g) z
theorem GdAll.le (l : Le O H O' H') : ∀ {vs : List V} {ds : List D}, GdAll K O H vs ds → GdAll K O' H' vs ds
  | _, _, .nil => .nil
  | _, _, .cons a b => .cons (Gd.le l a) (GdAll.le l b)
end
theorem GdAll.length : ∀ {vs : List V} {ds : List D}, GdAll K O H vs ds → vs.length = ds.length
  | _, _, .nil => rfl
  | _, _, .cons _ b => congrArg (· + 1) (GdAll.length b)
theorem GdAll.get : ∀ {vs : List V} {ds : List D} {i : Nat} {d : D}, GdAll K O H vs ds → ds[i]? = some d → ∃ v, vs[i]? = some v ∧ Gd K O H v d
  | _, _, _, _, .nil, e => by simp at e
  | _, _, 0, _, .cons a _, e => by simp at e; subst e; exact ⟨_, rfl, a⟩
  | _, _, i + 1, d, .cons _ b, e => by
    obtain ⟨v, h1, h2⟩ := GdAll.get (i := i) (d := d) b (by simpa using e)
    exact ⟨v, by simpa using h1, h2⟩
theorem GdAll.getV : ∀ {vs : List V} {ds : List D} {i : Nat} {v : V}, GdAll K O H vs ds → vs[i]? = some v → ∃ d, ds[i]? = some d ∧ Gd K O H v d
  | _, _, _, _, .nil, e => by simp at e
  | _, _, 0, _, .cons a _, e => by simp at e; subst e; exact ⟨_, rfl, a⟩
  | _, _, i + 1, v, .cons _ b, e => by
    obtain ⟨d, h1, h2⟩ := GdAll.getV (i := i) (v := v) b (by simpa using e)
    exact ⟨d, by simpa using h1, h2⟩
theorem GdAll.append : ∀ {vs ws : List V} {ds es : List D}, GdAll K O H vs ds → GdAll K O H ws es → GdAll K O H (vs ++ ws) (ds ++ es)
  | _, _, _, _, .nil, b => b
  | _, _, _, _, .cons a r, b => .cons a (GdAll.append r b)
theorem GdAll.take : ∀ {vs : List V} {ds : List D} (n : Nat), GdAll K O H vs ds → GdAll K O H (vs.take n) (ds.take n)
  | _, _, 0, _ => .nil
  | _, _, _ + 1, .nil => .nil
  | _, _, n + 1, .cons a r => .cons a (GdAll.take n r)
theorem GdAll.drop : ∀ {vs : List V} {ds : List D} (n : Nat), GdAll K O H vs ds → GdAll K O H (vs.drop n) (ds.drop n)
  | _, _, 0, h => h
  | _, _, _ + 1, .nil => .nil
  | _, _, n + 1, .cons _ r => GdAll.drop n r
theorem GdAll.set {v : V} {d : D} (h : Gd K O H v d) : ∀ {vs : List V} {ds : List D} (n : Nat), GdAll K O H vs ds → GdAll K O H (vs.set n v) (ds.set n d)
  | _, _, _, .nil => .nil
  | _, _, 0, .cons _ r => .cons h r
  | _, _, n + 1, .cons a r => .cons a (GdAll.set h n r)
theorem GdAll.reverse : ∀ {vs : List V} {ds : List D}, GdAll K O H vs ds → GdAll K O H vs.reverse ds.reverse
  | _, _, .nil => .nil
  | _, _, .cons a r => by
    rw [List.reverse_cons, List.reverse_cons]
    exact (GdAll.reverse r).append (.cons a .nil)
/-- owners that say less -/
theorem Qo.less {a : Addr} {u : HO} (l : ∀ b, O b = none → O' b = none) (h : Qo O H a u) : Qo O' H a u := ⟨h.1, l a h.2⟩
theorem QR.less {a : Addr} {u : HO} (l : ∀ b, O b = none → O' b = none) (h : QR O H a u) : QR O' H a u := ⟨h.1, l a h.2⟩
theorem QT.less {a : Addr} {xs : List V} (l : ∀ b, O b = none → O' b = none) (h : QT K O H a xs) : QT K O' H a xs := h.elim (fun ⟨o, hd, z⟩ => .inl ⟨o, hd, z.less l⟩) .inr
mutual
theorem Gd.less (l : ∀ b, O b = none → O' b = none) : ∀ {v : V} {d : D}, Gd K O H v d → Gd K O' H v d
  | _, _, .non => .non
  | _, _, .bl b => .bl b
  | _, _, .int i => .int i
  | _, _, .str x => .str x
  | _, _, .lst q g z => .lst (q.less l) (GdAll.less l g) z
  | _, _, .tup q g z => .tup (q.less l) (GdAll.less l g) z
  | _, _, .dic q e g z => .dic (q.less l) e (GdAll.less l g) z
theorem GdAll.less (l : ∀ b, O b = none → O' b = none) : ∀ {vs : List V} {ds : List D}, GdAll K O H vs ds → GdAll K O' H vs ds
  | _, _, .nil => .nil
  | _, _, .cons a b => .cons (Gd.less l a) (GdAll.less l b)
end
/-- the owner of one address is told -/
def own1 (O : Own) (p : Addr) (i : Option Nat) : Own := fun a => if a = p then i else O a
theorem own1_same {p : Addr} {i : Option Nat} : own1 O p i p = i := by unfold own1; rw [if_pos rfl]
theorem own1_ne {a p : Addr} {i : Option Nat} (h : a ≠ p) : own1 O p i a = O a := by unfold own1; rw [if_neg h]
/-- data that was there before p came does not hold p -/
theorem Qo.own {a p : Addr} {u : HO} {i : Option Nat} (hp : ¬ nt H p) (h : Qo O H a u) (t : ∀ ps, u ≠ .tbl ps := by intro ps z; cases z) : Qo (own1 O p i) H a u := ⟨h.1, by rw [own1_ne (ne_nt h.1 t hp)]; exact h.2⟩
theorem QR.own {a p : Addr} {u : HO} {i : Option Nat} (hp : ¬ nt H p) (h : QR O H a u) (t : ∀ ps, u ≠ .tbl ps := by intro ps z; cases z) : QR (own1 O p i) H a u := by
  refine ⟨h.1, ?_⟩
  have ne : a ≠ p := by
    rcases h.1 with h | ⟨o, h⟩
    · exact ne_nt h t hp
    · exact ne_nt h (fun _ z => by cases z) hp
  rw [own1_ne ne]
  exact h.2
theorem QT.own {a p : Addr} {xs : List V} {i : Option Nat} (hp : ¬ nt H p) (h : QT K O H a xs) : QT K (own1 O p i) H a xs := h.elim (fun ⟨o, hd, z⟩ => .inl ⟨o, hd, z.own hp⟩) .inr
mutual
theorem Gd.own {p : Addr} {i : Option Nat} (hp : ¬ nt H p) : ∀ {v : V} {d : D}, Gd K O H v d → Gd K (own1 O p i) H v d
  | _, _, .non => .non
  | _, _, .bl b => .bl b
  | _, _, .int i => .int i
  | _, _, .str x => .str x
  | _, _, .lst q g z => .lst (q.own hp) (GdAll.own hp g) z
  | _, _, .tup q g z => .tup (q.own hp) (GdAll.own hp g) z
  | _, _, .dic q e g z => .dic (q.own hp) e (GdAll.own hp g) z
theorem GdAll.own {p : Addr} {i : Option Nat} (hp : ¬ nt H p) : ∀ {vs : List V} {ds : List D}, GdAll K O H vs ds → GdAll K (own1 O p i) H vs ds
  | _, _, .nil => .nil
  | _, _, .cons a b => .cons (Gd.own hp a) (GdAll.own hp b)
end
/-- an owned address is written: what is no longer written stays -/
theorem Qo.wr {a p : Addr} {u o : HO} {i : Nat} (hp : O p = some i) (h : Qo O H a u) : Qo O (upd H p o) a u := by
  have ne : a ≠ p := fun z => by
    have n := h.2
    rw [z, hp] at n
    cases n
  exact ⟨by rw [upd_ne ne]; exact h.1, h.2⟩
theorem QR.wr {a p : Addr} {u o : HO} {i : Nat} (hp : O p = some i) (h : QR O H a u) : QR O (upd H p o) a u := by
  have ne : a ≠ p := fun z => by
    have n := h.2
    rw [z, hp] at n
    cases n
  refine ⟨?_, h.2⟩
  rcases h.1 with h | ⟨o', h⟩
  · exact .inl (by rw [upd_ne ne]; exact h)
  · exact .inr ⟨o', by rw [upd_ne ne]; exact h⟩
theorem QT.wr {a p : Addr} {xs : List V} {o : HO} {i : Nat} (hp : O p = some i) (h : QT K O H a xs) : QT K O (upd H p o) a xs := h.elim (fun ⟨o, hd, z⟩ => .inl ⟨o, hd, z.wr hp⟩) .inr
mutual
theorem Gd.wr {p : Addr} {o : HO} {i : Nat} (hp : O p = some i) : ∀ {v : V} {d : D}, Gd K O H v d → Gd K O (upd H p o) v d
  | _, _, .non => .non
  | _, _, .bl b => .bl b
  | _, _, .int i => .int i
  | _, _, .str x => .str x
  | _, _, .lst q g z => .lst (q.wr hp) (GdAll.wr hp g) z
  | _, _, .tup q g z => .tup (q.wr hp) (GdAll.wr hp g) z
  | _, _, .dic q e g z => .dic (q.wr hp) e (GdAll.wr hp g) z
theorem GdAll.wr {p : Addr} {o : HO} {i : Nat} (hp : O p = some i) : ∀ {vs : List V} {ds : List D}, GdAll K O H vs ds → GdAll K O (upd H p o) vs ds
  | _, _, .nil => .nil
  | _, _, .cons a b => .cons (Gd.wr hp a) (GdAll.wr hp b)
end
/-! ### as the layer's own data, where no dict stands -/
mutual
theorem Gd.dp : ∀ {v : V} {d : D}, Gd K O H v d → d.canLay0 = true → Dp K H v d
  | _, _, .non, _ => .non
  | _, _, .bl b, _ => .bl b
  | _, _, .int i, _ => .int i
  | _, _, .str x, _ => .str x
  | _, _, .lst q g _, h => .lst (SqL.of q.1) (GdAll.dp g (by simpa [PyData.canLay0] using h))
  | _, _, .tup q g _, h => .tup q.sq (GdAll.dp g (by simpa [PyData.canLay0] using h))
  | _, _, .dic _ _ _ _, h => by simp [PyData.canLay0] at h
theorem GdAll.dp : ∀ {vs : List V} {ds : List D}, GdAll K O H vs ds → PyData.canLayAll0 ds = true → DpAll K H vs ds
  | _, _, .nil, _ => .nil
  | _, _, .cons a b, h => by
    simp only [PyData.canLayAll0, Bool.and_eq_true] at h
    exact .cons (Gd.dp a h.1) (GdAll.dp b h.2)
end
/-- as Gd; at the top a list or a dict that is still written may stand -/
def GT (K : PySem.W.Frag) (O : Own) (H : Hp) (v : V) (d : D) : Prop := Gd K O H v d ∨ (∃ a xs ds, v = .ref a ∧ d = .list ds ∧ H a = some (.lst xs) ∧ GdAll K O H xs ds ∧ ds.length ≤ LIM) ∨
  ∃ (a : Addr) (ks : List Key) (xs : List V) (ds : List D), v = .ref a ∧ d = .dict ((ks.map kD).zip ds) ∧ H a = some (.dK (ks.zip xs)) ∧ ks.length = xs.length ∧ GdAll K O H xs ds ∧ ds.length ≤ LIM
theorem GT.dp {v : V} {d : D} (h : GT K O H v d) (c : d.canLay0 = true) : Dp K H v d := by
  rcases h with h | ⟨a, xs, ds, rfl, rfl, h, g, _⟩ | ⟨a, ks, xs, ds, rfl, rfl, h⟩
  · exact h.dp c
  · exact .lst (SqL.of h) (g.dp (by simpa [PyData.canLay0] using c))
  · simp [PyData.canLay0] at c
theorem GT.list {v : V} {ds : List D} (h : GT K O H v (.list ds)) : ∃ a xs, v = .ref a ∧ H a = some (.lst xs) ∧ GdAll K O H xs ds ∧ ds.length ≤ LIM := by
  rcases h with h | ⟨a, xs, es, rfl, e, h, g, z⟩ | ⟨a, ks, xs, es, rfl, e, h⟩
  · cases h with
    | lst q g z => exact ⟨_, _, rfl, q.1, g, z⟩
  · cases e
    exact ⟨a, xs, rfl, h, g, z⟩
  · cases e
theorem GT.tuple {v : V} {ds : List D} (h : GT K O H v (.tuple ds)) : ∃ a xs, v = .ref a ∧ SqT K H a xs ∧ GdAll K O H xs ds ∧ ds.length ≤ LIM := by
  rcases h with h | ⟨a, xs, es, rfl, e, h, g, z⟩ | ⟨a, ks, xs, es, rfl, e, h⟩
  · cases h with
    | tup q g z => exact ⟨_, _, rfl, q.sq, g, z⟩
  · cases e
  · cases e
theorem GT.int {v : V} {i : Int} (h : GT K O H v (.int i)) : v = .int i := by
  rcases h with h | ⟨a, xs, es, rfl, e, h, g, z⟩ | ⟨a, ks, xs, es, rfl, e, h⟩
  · cases h; rfl
  · cases e
  · cases e
theorem GT.bool {v : V} {b : Bool} (h : GT K O H v (.bool b)) : v = .bl b := by
  rcases h with h | ⟨a, xs, es, rfl, e, h, g, z⟩ | ⟨a, ks, xs, es, rfl, e, h⟩
  · cases h; rfl
  · cases e
  · cases e
theorem GT.str {v : V} {x : Str} (h : GT K O H v (.str x)) : v = .str x := by
  rcases h with h | ⟨a, xs, es, rfl, e, h, g, z⟩ | ⟨a, ks, xs, es, rfl, e, h⟩
  · cases h; rfl
  · cases e
  · cases e
theorem GT.none_ {v : V} (h : GT K O H v .none) : v = .non := by
  rcases h with h | ⟨a, xs, es, rfl, e, h, g, z⟩ | ⟨a, ks, xs, es, rfl, e, h⟩
  · cases h; rfl
  · cases e
  · cases e
mutual
theorem Gd.ext (s : ExtN H H') : ∀ {v : V} {d : D}, Gd K O H v d → Gd K O H' v d
  | _, _, .non => .non
  | _, _, .bl b => .bl b
  | _, _, .int i => .int i
  | _, _, .str x => .str x
  | _, _, .lst q g z => .lst ⟨s _ _ q.1 (fun ps z => by cases z), q.2⟩ (GdAll.ext s g) z
  | _, _, .tup q g z => .tup (q.elim (fun ⟨o, hd, q⟩ => .inl ⟨o, hd, s _ _ q.1 (fun ps z => by cases z), q.2⟩) .inr) (GdAll.ext s g) z
  | _, _, .dic q e g z => .dic ⟨q.1.elim (fun h => .inl (s _ _ h (fun ps z => by cases z))) (fun ⟨o, h⟩ => .inr ⟨o, s _ _ h (fun ps z => by cases z)⟩), q.2⟩ e (GdAll.ext s g) z
theorem GdAll.ext (s : ExtN H H') : ∀ {vs : List V} {ds : List D}, GdAll K O H vs ds → GdAll K O H' vs ds
  | _, _, .nil => .nil
  | _, _, .cons a b => .cons (Gd.ext s a) (GdAll.ext s b)
end
theorem Gd.same (s : Same H H') {v : V} {d : D} (h : Gd K O H v d) : Gd K O H' v d := h.le (Le.same s)
theorem GdAll.same (s : Same H H') {v : List V} {d : List D} (h : GdAll K O H v d) : GdAll K O H' v d := h.le (Le.same s)
theorem GT.ext (s : ExtN H H') {v : V} {d : D} (h : GT K O H v d) : GT K O H' v d := by
  rcases h with h | ⟨a, xs, ds, e1, e2, h, g, z⟩ | ⟨a, ks, xs, ds, e1, e2, h, e3, g, z⟩
  · exact .inl (h.ext s)
  · exact .inr (.inl ⟨a, xs, ds, e1, e2, s _ _ h (fun ps z => by cases z), g.ext s, z⟩)
  · exact .inr (.inr ⟨a, ks, xs, ds, e1, e2, s _ _ h (fun ps z => by cases z), e3, g.ext s, z⟩)
theorem GT.same (s : Same H H') {v : V} {d : D} (h : GT K O H v d) : GT K O H' v d := by
  rcases h with h | ⟨a, xs, ds, e1, e2, h, g, z⟩ | ⟨a, ks, xs, ds, e1, e2, h, e3, g, z⟩
  · exact .inl (h.same s)
  · exact .inr (.inl ⟨a, xs, ds, e1, e2, s _ _ h, g.same s, z⟩)
  · exact .inr (.inr ⟨a, ks, xs, ds, e1, e2, s _ _ h, e3, g.same s, z⟩)
theorem GT.dict {v : V} {kvs : List (D × D)} (h : GT K O H v (.dict kvs)) : ∃ (a : Addr) (ks : List Key) (xs : List V) (ds : List D), v = .ref a ∧ kvs = (ks.map kD).zip ds ∧ Rd H a (.dK (ks.zip xs)) ∧ ks.length = xs.length ∧ GdAll K O H xs ds ∧ ds.length ≤ LIM := by
  rcases h with h | ⟨a, xs, es, rfl, e, h, g, z⟩ | ⟨a, ks, xs, es, rfl, e, h, e3, g, z⟩
  · cases h with
    | @dic a ks xs ds q e g z => exact ⟨a, ks, xs, ds, rfl, rfl, q.1, e, g, z⟩
  · cases e
  · cases e
    exact ⟨a, ks, xs, es, rfl, rfl, .inl h, e3, g, z⟩
/-- a new tuple, a new list -/
theorem Gd.newT {p : Addr} {o : Obj} {xs : List V} {ds : List D} (hp : H p = none) (ho : o.dict = none) (no : O p = none) (g : GdAll K O H xs ds) (z : ds.length ≤ LIM) : Gd K O (upd H p (.frz o (.tup xs))) (.ref p) (.tuple ds) :=
  .tup (.inl ⟨o, ho, upd_same, no⟩) (g.same (same_new hp)) z
theorem Gd.newL {p : Addr} {xs : List V} {ds : List D} (hp : H p = none) (no : O p = none) (g : GdAll K O H xs ds) (z : ds.length ≤ LIM) : Gd K O (upd H p (.lst xs)) (.ref p) (.list ds) :=
  .lst ⟨upd_same, no⟩ (g.same (same_new hp)) z
theorem lim_line {n : Nat} (h : n ≤ LIM) : n ≤ sizeLine := Nat.le_trans h (by decide)
end
end Rf

/-! Rf.B: slots and heap (EnvOk), the readings tP (pure) of data, their order. -/
namespace Rf
open PySem PySem.Spec PyProof.Rows L2 LamX

/-- what stays through a body: the tables of code objects, slots that are not stored to -/
structure Tk where
  tb : List (Addr × Str)
  ks : List (Nat × V)
/-- all but the tables stays -/
structure Gr (T : Tk) (H H' : Hp) : Prop where
  ex : ExtN H H'
  tb : Tabs T.tb H'
theorem Gr.refl {T : Tk} {H : Hp} (h : Tabs T.tb H) : Gr T H H := ⟨ExtN.refl H, h⟩
theorem Gr.trans {T : Tk} {H H1 H2 : Hp} (a : Gr T H H1) (b : Gr T H1 H2) : Gr T H H2 := ⟨a.ex.trans b.ex, b.tb⟩
theorem Gr.th {T : Tk} {H H' : Hp} (g : Gr T H H') : ∀ a, nt H a → nt H' a := fun _ h => h.ext g.ex
theorem same_th {H H' : Hp} (s : Same H H') : ∀ a, nt H a → nt H' a := fun a ⟨o, h, t⟩ => ⟨o, s a o h, t⟩
theorem Gr.of {T : Tk} {H H' : Hp} (h : Tabs T.tb H) (s : Same H H') : Gr T H H' := ⟨ExtN.of s, h.ext s⟩
theorem Gr.then {T : Tk} {H H1 H2 : Hp} (a : Gr T H H1) (s : Same H1 H2) : Gr T H H2 := a.trans (Gr.of a.tb s)
theorem Gr.le {T : Tk} {O : Own} {H H' : Hp} (g : Gr T H H') : Le O H O H' := ⟨g.th, fun _ _ _ => rfl, fun a o h _ t => g.ex a o h t⟩
structure Gc where
  prog : Program
  w : World
  K : PySem.W.Frag
  mg : Str → Option Value
abbrev gc (X : Cx) : Gc := ⟨X.prog, X.w, X.K, X.mg⟩

/-- a tracked object that is no table and no code object is written -/
theorem tabs_wr {T : List (Addr × Str)} {H : Hp} {p : Addr} {o o' : HO} (h : Tabs T H) (hp : H p = some o) (h1 : ∀ ps, o ≠ .tbl ps) (h2 : ∀ c x, o ≠ CodeO c x) : Tabs T (upd H p o') := fun q hq => by
  obtain ⟨ps, a, b, c⟩ := h q hq
  refine ⟨ps, ?_, b, fun pos cv e => ?_⟩
  · rw [upd_ne (fun z => h1 ps (Option.some.inj (hp.symm.trans (by rw [← z]; exact a))))]
    exact a
  · obtain ⟨c0, e1, e2⟩ := c pos cv e
    refine ⟨c0, e1, ?_⟩
    rw [upd_ne (fun z => h2 _ _ (Option.some.inj (hp.symm.trans (by rw [← z]; exact e2))))]
    exact e2
/-- the script: locked, or of the written part -/
def KLs (K : PySem.W.Frag) (a : Addr) (xs : List V) : Prop := ∃ (o : Obj) (its : Array Value) (n : Nat), K.lookup a = some o ∧ o.cls = .type "list" ∧ o.dict = none ∧ o.data = .seq its n ∧ its.size ≤ sizeLine ∧ Vals xs its.toList
def QS (K : PySem.W.Frag) (O : Own) (H : Hp) (a : Addr) (xs : List V) : Prop := (Rd H a (.lst xs) ∧ O a = none) ∨ KLs K a xs
theorem QS.sq {K : PySem.W.Frag} {O : Own} {H : Hp} {a : Addr} {xs : List V} (h : QS K O H a xs) : SqL K H a xs := h.elim (fun z => .inl z.1) .inr
theorem QS.of {K : PySem.W.Frag} {O : Own} {H : Hp} {a : Addr} {xs : List V} (h : SqL K H a xs) (n : O a = none) : QS K O H a xs := h.elim (fun z => .inl ⟨z, n⟩) .inr
theorem QS.le {K : PySem.W.Frag} {O O' : Own} {H H' : Hp} {a : Addr} {xs : List V} (l : Le O H O' H') (h : QS K O H a xs) : QS K O' H' a xs := by
  rcases h with ⟨h | ⟨o, h⟩, n⟩ | h
  · exact .inl ⟨.inl (l.keep _ _ h (not_mine n) (fun ps z => by cases z)), (l.own a ⟨_, h, fun _ z => by cases z⟩ (not_mine n)).trans n⟩
  · exact .inl ⟨.inr ⟨o, l.keep _ _ h (not_mine n) (fun ps z => by cases z)⟩, (l.own a ⟨_, h, fun _ z => by cases z⟩ (not_mine n)).trans n⟩
  · exact .inr h
theorem QS.own {K : PySem.W.Frag} {O : Own} {H : Hp} {a p : Addr} {xs : List V} {j : Option Nat} (hp : ¬ nt H p) (h : QS K O H a xs) : QS K (own1 O p j) H a xs := by
  rcases h with ⟨h, n⟩ | h
  · refine .inl ⟨h, ?_⟩
    have ne : a ≠ p := by rcases h with h | ⟨o, h⟩ <;> exact ne_nt h (fun _ z => by cases z) hp
    rw [own1_ne ne]
    exact n
  · exact .inr h
/-- the value of slot i stands for s -/
def SlotOk (G : Gc) (O : Own) (H : Hp) (i : Nat) (v : V) : Sl → Prop
  | .dat d => Gd G.K O H v d
  | .lst ds => ∃ a xs, v = .ref a ∧ O a = some i ∧ H a = some (.lst xs) ∧ GdAll G.K O H xs ds ∧ ds.length ≤ LIM
  | .fn x => ∃ a, v = .ref a ∧ G.mg x = some (.ref a)
  | .scr ns => ∃ a, v = .ref a ∧ QS G.K O H a (ns.map V.int)
  | .dic kvs => ∃ a xs, v = .ref a ∧ O a = some i ∧ H a = some (.dK ((kvs.map (·.1)).zip xs)) ∧ GdAll G.K O H xs (kvs.map (·.2)) ∧ kvs.length ≤ LIM
  | .nkd lk kvs => ∃ a es, v = .ref a ∧ NkO O a i lk ∧ (a == sysModules) = false ∧ NkH G.prog G.w H a es lk ∧ NkAll G.K O H kvs es ∧ kvs.length ≤ LIM
  | .town n rests => ∃ a b, v = .ref a ∧ O a = some i ∧ O b = some i ∧ a ≠ b ∧ H a = some (.dK [(.inr "count", .int n), (.inr "rests", .ref b)]) ∧ H b = some (.dK (rests.map fun p => (.inl p.1, .int p.2)))
  | .desk basis there links done undone => ∃ a C dx p q vb vt vl xs ys, v = .ref a ∧ O a = some i ∧ O p = some i ∧ O q = some i ∧ a ≠ p ∧ a ≠ q ∧ p ≠ q ∧ G.mg "Desk" = some (.ref C) ∧
      H a = some (.ins C dx [("basis", vb), ("there", vt), ("links", vl), ("done", .ref p), ("undone", .ref q)]) ∧ H p = some (.lst xs) ∧ H q = some (.lst ys) ∧
      Gd G.K O H vb basis ∧ Gd G.K O H vt there ∧ Gd G.K O H vl links ∧ GdAll G.K O H xs done ∧ GdAll G.K O H ys undone ∧ done.length ≤ LIM ∧ undone.length ≤ LIM
section
variable {G : Gc} {T : Tk} {O O' : Own} {H H' : Hp} {i : Nat} {v : V} {s : Sl} {ρ : Rho} {σ : L2.St}
theorem SlotOk.ext (e : ExtN H H') (h : SlotOk G O H i v s) : SlotOk G O H' i v s := by
  have k : ∀ {a : Addr} {o : HO}, H a = some o → (∀ ps, o ≠ .tbl ps) → H' a = some o := fun {a o} h n => e a o h n
  cases s with
  | dat d => exact Gd.ext e h
  | lst ds => obtain ⟨a, xs, h1, h2, h3, h4, h5⟩ := h; exact ⟨a, xs, h1, h2, k h3 (fun _ z => by cases z), h4.ext e, h5⟩
  | fn x => exact h
  | scr ns =>
    obtain ⟨a, h1, h2⟩ := h
    refine ⟨a, h1, ?_⟩
    rcases h2 with ⟨h2 | ⟨o, h2⟩, n⟩ | h2
    · exact .inl ⟨.inl (k h2 (fun _ z => by cases z)), n⟩
    · exact .inl ⟨.inr ⟨o, k h2 (fun _ z => by cases z)⟩, n⟩
    · exact .inr h2
  | dic kvs => obtain ⟨a, xs, h1, h2, h3, h4, h5⟩ := h; exact ⟨a, xs, h1, h2, k h3 (fun _ z => by cases z), h4.ext e, h5⟩
  | nkd lk kvs => obtain ⟨a, xs, h1, h2, h3, h4, h5, h6⟩ := h; exact ⟨a, xs, h1, h2, h3, h4.keep (fun o q t => k q t), h5.map (fun v d g => g.ext e), h6⟩
  | town n rests => obtain ⟨a, b, h1, h2, h3, h4, h5, h6⟩ := h; exact ⟨a, b, h1, h2, h3, h4, k h5 (fun _ z => by cases z), k h6 (fun _ z => by cases z)⟩
  | desk ba th li dn un =>
    obtain ⟨a, C, dx, p, q, vb, vt, vl, xs, ys, h1, h2, h3, h4, h5, h6, h7, h8, h9, h10, h11, h12, h13, h14, h15, h16, h17⟩ := h
    exact ⟨a, C, dx, p, q, vb, vt, vl, xs, ys, h1, h2, h3, h4, h5, h6, h7, h8, k h9 (fun _ z => by cases z), k h10 (fun _ z => by cases z), k h11 (fun _ z => by cases z), h12.ext e, h13.ext e, h14.ext e, h15.ext e, h16.ext e, h17⟩
structure EnvOk (G : Gc) (T : Tk) (O : Own) (ρ : Rho) (σ : L2.St) (H : Hp) : Prop where
  slot : ∀ (i : Nat) (s : Sl), ρ[i]? = some (some s) → ∃ v, σ[i]? = some (some v) ∧ SlotOk G O H i v s
  tabs : Tabs T.tb H
  own_ : Fr O H
  len : ρ.length = σ.length
  kept : ∀ p ∈ T.ks, σ[p.1]? = some (some p.2)
theorem EnvOk.fresh (E : EnvOk G T O ρ σ H) : ∀ a, H a = none → O a = none := E.own_.none
theorem EnvOk.same (E : EnvOk G T O ρ σ H) (e : Gr T H H') : EnvOk G T O ρ σ H' where
  slot := fun i s h => by
    obtain ⟨v, h1, h2⟩ := E.slot i s h
    exact ⟨v, h1, h2.ext e.ex⟩
  tabs := e.tb
  own_ := fun a k h => (E.own_ a k h).ext e.ex
  len := E.len
  kept := E.kept
/-- slots forgotten -/
theorem EnvOk.weak {ρ' : Rho} (E : EnvOk G T O ρ σ H) (h : ∀ (i : Nat) (s : Sl), ρ'[i]? = some (some s) → ρ[i]? = some (some s)) (hl : ρ'.length = ρ.length) : EnvOk G T O ρ' σ H := ⟨fun i s e => E.slot i s (h i s e), E.tabs, E.own_, hl.trans E.len, E.kept⟩
/-- a datum is stored -/
theorem EnvOk.set {i : Nat} {v : V} {d : D} (E : EnvOk G T O ρ σ H) (g : Gd G.K O H v d) (hk : i ∉ T.ks.map (·.1)) : EnvOk G T O (ρ.set i (some (.dat d))) (σ.set i (some v)) H where
  slot := fun j s e => by
    by_cases hj : j = i
    · subst hj
      have hb : j < ρ.length := by
        rcases Nat.lt_or_ge j ρ.length with h | h
        · exact h
        · rw [List.getElem?_set] at e
          simp at e
          omega
      rw [List.getElem?_set_self hb] at e
      cases e
      exact ⟨v, List.getElem?_set_self (by rw [← E.len]; exact hb), g⟩
    · rw [List.getElem?_set_ne (Ne.symm hj)] at e
      obtain ⟨w, h1, h2⟩ := E.slot j s e
      exact ⟨w, by rw [List.getElem?_set_ne (Ne.symm hj)]; exact h1, h2⟩
  tabs := E.tabs
  own_ := E.own_
  len := by rw [List.length_set, List.length_set]; exact E.len
  kept := fun p hp => by
    rw [List.getElem?_set_ne (fun z => hk (by rw [z]; exact List.mem_map.mpr ⟨p, hp, rfl⟩))]
    exact E.kept p hp
/-- a new address gets an owner -/
theorem SlotOk.own {p : Addr} {j : Option Nat} (hp : ¬ nt H p) (no : O p = none) (h : SlotOk G O H i v s) : SlotOk G (own1 O p j) H i v s := by
  have ow : ∀ {a : Addr} {k : Nat}, O a = some k → own1 O p j a = some k := fun {a k} e => by
    have n : a ≠ p := fun z => by rw [z, no] at e; cases e
    rw [own1_ne n]
    exact e
  cases s with
  | dat d => exact Gd.own hp h
  | lst ds => obtain ⟨a, xs, h1, h2, h3, h4, h5⟩ := h; exact ⟨a, xs, h1, ow h2, h3, h4.own hp, h5⟩
  | fn x => exact h
  | scr ns => obtain ⟨a, h1, h2⟩ := h; exact ⟨a, h1, h2.own hp⟩
  | dic kvs => obtain ⟨a, xs, h1, h2, h3, h4, h5⟩ := h; exact ⟨a, xs, h1, ow h2, h3, h4.own hp, h5⟩
  | nkd lk kvs => obtain ⟨a, xs, h1, h2, h3, h4, h5, h6⟩ := h; exact ⟨a, xs, h1, ow h2, h3, h4, h5.map (fun v d g => g.own hp), h6⟩
  | town n rests => obtain ⟨a, b, h1, h2, h3, h4, h5, h6⟩ := h; exact ⟨a, b, h1, ow h2, ow h3, h4, h5, h6⟩
  | desk ba th li dn un =>
    obtain ⟨a, C, dx, p, q, vb, vt, vl, xs, ys, h1, h2, h3, h4, h5, h6, h7, h8, h9, h10, h11, h12, h13, h14, h15, h16, h17⟩ := h
    exact ⟨a, C, dx, p, q, vb, vt, vl, xs, ys, h1, ow h2, ow h3, ow h4, h5, h6, h7, h8, h9, h10, h11, h12.own hp, h13.own hp, h14.own hp, h15.own hp, h16.own hp, h17⟩
end

/-! ### the readings -/
/-- what an error of the own class c is wished for -/
def exW (G : Gc) (W : WX) (c : Str) (σ : L2.St) (H : Hp) : Prop := W ((G.mg c).getD .none) none σ H
/-- a pure expression: nothing that was there changes -/
def tP (G : Gc) (T : Tk) (W : WX) (f : Rho → R D) : TE := fun σ H Q => ∃ O ρ, EnvOk G T O ρ σ H ∧ match f ρ with
  | .ok d => ∀ v H', Gr T H H' → Gd G.K O H' v d → Q v H'
  | .exc c => ∀ H', Gr T H H' → exW G W c σ H'
  | .bad => False
/-- .. whose value may be a list that is still written -/
def tQ (G : Gc) (T : Tk) (W : WX) (f : Rho → R D) : TE := fun σ H Q => ∃ O ρ, EnvOk G T O ρ σ H ∧ match f ρ with
  | .ok d => ∀ v H', Gr T H H' → GT G.K O H' v d → Q v H'
  | .exc c => ∀ H', Gr T H H' → exW G W c σ H'
  | .bad => False
/-- a test -/
def tPT (G : Gc) (T : Tk) (W : WX) (f : Rho → R D) : TT := fun σ H Q => ∃ O ρ, EnvOk G T O ρ σ H ∧ match f ρ with
  | .ok (.bool b) => ∀ H', Gr T H H' → Q b H'
  | .exc c => ∀ H', Gr T H H' → exW G W c σ H'
  | _ => False
/-- arguments -/
def tPA (G : Gc) (T : Tk) (W : WX) (f : Rho → R (List D)) : TA := fun σ H Q => ∃ O ρ, EnvOk G T O ρ σ H ∧ match f ρ with
  | .ok ds => ∀ vs H', Gr T H H' → GdAll G.K O H' vs ds → Q vs H'
  | .exc c => ∀ H', Gr T H H' → exW G W c σ H'
  | .bad => False
/-- with an effect upon the slots that are still written -/
def tE (G : Gc) (T : Tk) (W : WX) (f : Rho → Res D) : TE := fun σ H Q => ∃ O ρ, EnvOk G T O ρ σ H ∧ match f ρ with
  | .ok d ρ' => ∀ v O' H', Le O H O' H' → EnvOk G T O' ρ' σ H' → Gd G.K O' H' v d → Q v H'
  | .exc c ρ' => ∀ O' H', Le O H O' H' → EnvOk G T O' ρ' σ H' → exW G W c σ H'
  | .bad => False
def tET (G : Gc) (T : Tk) (W : WX) (f : Rho → Res D) : TT := fun σ H Q => ∃ O ρ, EnvOk G T O ρ σ H ∧ match f ρ with
  | .ok (.bool b) ρ' => ∀ O' H', Le O H O' H' → EnvOk G T O' ρ' σ H' → Q b H'
  | .exc c ρ' => ∀ O' H', Le O H O' H' → EnvOk G T O' ρ' σ H' → exW G W c σ H'
  | _ => False
def tEA (G : Gc) (T : Tk) (W : WX) (f : Rho → Res (List D)) : TA := fun σ H Q => ∃ O ρ, EnvOk G T O ρ σ H ∧ match f ρ with
  | .ok ds ρ' => ∀ vs O' H', Le O H O' H' → EnvOk G T O' ρ' σ H' → GdAll G.K O' H' vs ds → Q vs H'
  | .exc c ρ' => ∀ O' H', Le O H O' H' → EnvOk G T O' ρ' σ H' → exW G W c σ H'
  | .bad => False

/-- weaker readings -/
theorem PE.of {X : Cx} {e : Expr} {t t' : TE} (h : PE X e t) (i : ∀ σ H Q, t' σ H Q → t σ H Q) : PE X e t' := ⟨fun pins s σ H Q I z => h.run pins s σ H Q I (i σ H Q z)⟩
theorem PT.of {X : Cx} {e : Expr} {t t' : TT} (h : PT X e t) (i : ∀ σ H Q, t' σ H Q → t σ H Q) : PT X e t' := ⟨fun pins s σ H Q I z => h.run pins s σ H Q I (i σ H Q z)⟩
theorem PW.of {X : Cx} {e : Expr} {t t' : TT} (h : PW X e t) (i : ∀ σ H Q, t' σ H Q → t σ H Q) : PW X e t' := ⟨fun wh pins s σ H Q I z => h.run wh pins s σ H Q I (i σ H Q z)⟩
theorem PA.of {X : Cx} {e : List Expr} {t t' : TA} (h : PA X e t) (i : ∀ σ H Q, t' σ H Q → t σ H Q) : PA X e t' := ⟨fun pos pins s σ H Q I z => h.run pos pins s σ H Q I (i σ H Q z)⟩
theorem PS.of {X : Cx} {e : Stmt} {t t' : TS} (h : PS X e t) (i : ∀ D σ H, t' D σ H → t D σ H) : PS X e t' := ⟨fun pins s σ H D I z => h.run pins s σ H D I (i D σ H z)⟩
theorem PSs.of {X : Cx} {e : List Stmt} {t t' : TS} (h : PSs X e t) (i : ∀ D σ H, t' D σ H → t D σ H) : PSs X e t' := ⟨fun pins s σ H D I z => h.run pins s σ H D I (i D σ H z)⟩

abbrev E0f := Rho → R D
section
variable {X : Cx} {T : Tk} {W : WX} {e a b : Expr} {pos : Pos} {f g : E0f}
abbrev PP (X : Cx) (T : Tk) (W : WX) (e : Expr) (f : E0f) : Prop := PE X e (tP (gc X) T W f)
abbrev PQ (X : Cx) (T : Tk) (W : WX) (e : Expr) (f : E0f) : Prop := PE X e (tQ (gc X) T W f)
theorem pq (h : PP X T W e f) : PQ X T W e f := PE.of h fun σ H Q ⟨O, ρ, E, z⟩ => ⟨O, ρ, E, by
  cases hf : f ρ with
  | ok d => rw [hf] at z; exact fun v H' s g => z v H' s (.inl g)
  | exc c => rw [hf] at z; exact z
  | bad => rw [hf] at z; exact z⟩

/-! ### constants, names -/
def rC (d : D) : E0f := fun _ => .ok d
def rV (i : Nat) : E0f := fun ρ => match ρ[i]? with
  | some (some (.dat d)) => .ok d
  | _ => .bad
/-- a name that may hold a list that is still written -/
def rL (i : Nat) : E0f := fun ρ => match ρ[i]? with
  | some (some (.dat d)) => .ok d
  | some (some (.lst ds)) => .ok (.list ds)
  | some (some (.dic kvs)) => .ok (.dict ((kvs.map fun p => kD p.1).zip (kvs.map (·.2))))
  | _ => .bad
theorem pp_int {i : Int} {j} : PP X T W (.Constant (.int i) j pos) (rC (.int i)) := PE.of pe_int fun σ H Q ⟨O, ρ, E, z⟩ => z _ H (Gr.refl E.tabs) (.int i)
theorem pp_bl {i : Bool} {j} : PP X T W (.Constant (.bool i) j pos) (rC (.bool i)) := PE.of pe_bl fun σ H Q ⟨O, ρ, E, z⟩ => z _ H (Gr.refl E.tabs) (.bl i)
theorem pp_non {j} : PP X T W (.Constant .none j pos) (rC .none) := PE.of pe_non fun σ H Q ⟨O, ρ, E, z⟩ => z _ H (Gr.refl E.tabs) .non
theorem pp_str {x : Str} {j} : PP X T W (.Constant (.str x) j pos) (rC (.str x)) := PE.of pe_str fun σ H Q ⟨O, ρ, E, z⟩ => z _ H (Gr.refl E.tabs) (.str x)
theorem pp_var (i : Nat) {x : Str} (hN : X.N[i]? = some x := by rfl) (hv : Vis X.env.scope x := by first | exact Or.inl rfl | exact Or.inr (Or.inl rfl) | exact Or.inr (Or.inr rfl)) (hd : (x == ("__debug__" : Str)) = false := by decide) (hcd : (x == ("__classdict__" : Str)) = false := by decide) :
    PP X T W (.Name x pos) (rV i) := PE.of (pe_var hN hv hd hcd) fun σ H Q ⟨O, ρ, E, z⟩ => by
  unfold rV at z
  split at z
  · rename_i d hf
    split at hf
    · rename_i d' hs
      cases hf
      obtain ⟨v, h1, h2⟩ := E.slot i _ hs
      exact ⟨v, h1, z v H (Gr.refl E.tabs) h2⟩
    · cases hf
  · rename_i c hf
    split at hf <;> cases hf
  · exact z.elim
/-! ### operators -/
/-- an operation on data, by what the layer says of the values -/
def OpD (X : Cx) (F : Value → Value → Sem Value) (f : D → D → R D) : Prop :=
  OpR X F fun x y H Q => ∃ (O : Own) (d e z : D), (∀ a, H a = none → O a = none) ∧ GT X.K O H x d ∧ GT X.K O H y e ∧ f d e = .ok z ∧ ∀ v H', Same H H' → Gd X.K O H' v z → Q v H'
def r2 (f : D → D → R D) (a b : E0f) : E0f := fun ρ => (a ρ).bind fun x => (b ρ).bind fun y => f x y
/-- both operands are read, then the operation -/
theorem two {fa fb : E0f} {op : D → D → R D} {σ : L2.St} {H : Hp} {Q : VK} (hne : ∀ x y c, op x y ≠ .exc c) (h : tP (gc X) T W (r2 op fa fb) σ H Q) :
    tQ (gc X) T W fa σ H fun x H1 => tQ (gc X) T W fb σ H1 fun y H2 => ∃ (O : Own) (d e z : D), (∀ a, H2 a = none → O a = none) ∧ GT X.K O H2 x d ∧ GT X.K O H2 y e ∧ op d e = .ok z ∧ ∀ v H', Same H2 H' → Gd X.K O H' v z → Q v H' := by
  obtain ⟨O, ρ, E, z⟩ := h
  refine ⟨O, ρ, E, ?_⟩
  unfold r2 at z
  cases hf : fa ρ with
  | bad => rw [hf] at z; exact z
  | exc c => rw [hf] at z; exact z
  | ok d =>
    rw [hf] at z
    intro x H1 s1 g1
    refine ⟨O, ρ, E.same s1, ?_⟩
    simp only [R.bind_ok] at z
    cases hg : fb ρ with
    | bad => rw [hg] at z; exact z
    | exc c => rw [hg] at z; exact fun H' s' => z H' (s1.trans s')
    | ok e =>
      rw [hg] at z
      intro y H2 s2 g2
      simp only [R.bind_ok] at z
      cases ho : op d e with
      | bad => rw [ho] at z; exact z.elim
      | exc c => exact absurd ho (hne _ _ _)
      | ok r =>
        rw [ho] at z
        exact ⟨O, d, e, r, ((E.same s1).same s2).fresh, GT.ext s2.ex g1, g2, ho, fun v H' s' g => z v H' ((s1.trans s2).then s') g⟩
theorem pp_op {op : Operator} {f : D → D → R D} {fa fb : E0f} (ho : OpD X (binaryOp op) f) (hne : ∀ x y c, f x y ≠ .exc c) (ha : PQ X T W a fa) (hb : PQ X T W b fb) : PP X T W (.BinOp a op b pos) (r2 f fa fb) :=
  PE.of (pe_op ho ha hb) fun σ H Q h => two hne h
theorem pp_cmp {op : CmpOp} {f : D → D → R D} {fa fb : E0f} (ho : OpD X (compareOp op) f) (hne : ∀ x y c, f x y ≠ .exc c) (ha : PQ X T W a fa) (hb : PQ X T W b fb) (hm : behindInMarks op b = false) : PP X T W (.Compare a [op] [b] pos) (r2 f fa fb) :=
  PE.of (pe_cmpR ho ha hb hm) fun σ H Q h => two hne h
end
end Rf

/-! Rf.C: operations on data and their rules. -/
namespace Rf
open PySem PySem.Spec PyProof.Rows L2 LamX
def dAdd : D → D → R D
  | .int a, .int b => .ok (.int (a + b))
  | .str a, .str b => if a.length + b.length ≤ LIM then .ok (.str (a ++ b)) else .bad
  | .list a, .list b => if a.length + b.length ≤ LIM then .ok (.list (a ++ b)) else .bad
  | .tuple a, .tuple b => if a.length + b.length ≤ LIM then .ok (.tuple (a ++ b)) else .bad
  | _, _ => .bad
def dSub : D → D → R D
  | .int a, .int b => .ok (.int (a - b))
  | _, _ => .bad
def dMul : D → D → R D
  | .int a, .int b => if -18446744073709551616 < a ∧ a < 18446744073709551616 then .ok (.int (a * b)) else .bad
  | .list a, .int k => if 0 ≤ k ∧ k ≤ 1000 ∧ a.length * k.toNat ≤ LIM then .ok (.list (List.replicate k.toNat a).flatten) else .bad
  | _, _ => .bad
def dMod : D → D → R D
  | .int a, .int b => if 0 < b then .ok (.int (a % b)) else .bad
  | _, _ => .bad
def dEq (a b : D) : R D := if SeqAt.shaped a = true ∧ SeqAt.shaped b = true then .ok (.bool (PyData.eqv a b)) else .bad
def dNe (a b : D) : R D := if SeqAt.shaped a = true ∧ SeqAt.shaped b = true then .ok (.bool (!PyData.eqv a b)) else .bad
def keyOf : D → Option Key
  | .int i => some (.inl i)
  | .str x => some (.inr x)
  | _ => none
def kGet : List (D × D) → Key → Option D
  | [], _ => none
  | (k, d) :: r, q => if keyOf k = some q then some d else kGet r q
def dIn (a : D) : D → R D
  | .dict kvs => match keyOf a with
    | some q => .ok (.bool (kGet kvs q).isSome)
    | none => .bad
  | .list ds => if SeqAt.shaped a = true ∧ SeqAt.shaped (.list ds) = true then .ok (.bool (ds.any fun z => PyData.eqv z a)) else .bad
  | .tuple ds => if SeqAt.shaped a = true ∧ SeqAt.shaped (.tuple ds) = true then .ok (.bool (ds.any fun z => PyData.eqv z a)) else .bad
  | .str y => match a with
    | .str x => .ok (.bool (!(Builtin.Str.occurrences y x 0 y.length 1).isEmpty))
    | _ => .bad
  | _ => .bad
def dNotIn (a : D) : D → R D
  | .dict kvs => match keyOf a with
    | some q => .ok (.bool (!(kGet kvs q).isSome))
    | none => .bad
  | .list ds => if SeqAt.shaped a = true ∧ SeqAt.shaped (.list ds) = true then .ok (.bool (!ds.any fun z => PyData.eqv z a)) else .bad
  | .tuple ds => if SeqAt.shaped a = true ∧ SeqAt.shaped (.tuple ds) = true then .ok (.bool (!ds.any fun z => PyData.eqv z a)) else .bad
  | .str y => match a with
    | .str x => .ok (.bool (!(!(Builtin.Str.occurrences y x 0 y.length 1).isEmpty)))
    | _ => .bad
  | _ => .bad
def isN : D → Bool
  | .none => true
  | _ => false
def dIs : D → D → R D
  | a, .none => .ok (.bool (isN a))
  | _, _ => .bad
def dIsNot : D → D → R D
  | a, .none => .ok (.bool (!isN a))
  | _, _ => .bad
/-- a list of ints -/
def intsOf : List D → Option (List Int)
  | [] => some []
  | .int i :: r => (intsOf r).map (i :: ·)
  | _ :: _ => none
def dLt : D → D → R D
  | .int a, .int b => .ok (.bool (decide (a < b)))
  | .tuple a, .tuple b => match intsOf a, intsOf b with
    | some x, some y => .ok (.bool (HT.lexLt x y))
    | _, _ => .bad
  | _, _ => .bad
def dLe : D → D → R D
  | .int a, .int b => .ok (.bool (decide (a ≤ b)))
  | _, _ => .bad
def dGt : D → D → R D
  | .int a, .int b => .ok (.bool (decide (b < a)))
  | _, _ => .bad
def dGe : D → D → R D
  | .int a, .int b => .ok (.bool (decide (b ≤ a)))
  | _, _ => .bad
theorem nex_dAdd (x y : D) (c : Str) : dAdd x y ≠ .exc c := by unfold dAdd; split <;> first | (intro z; cases z) | (split <;> (intro z; cases z))
theorem nex_dSub (x y : D) (c : Str) : dSub x y ≠ .exc c := by unfold dSub; split <;> (intro z; cases z)
theorem nex_dMul (x y : D) (c : Str) : dMul x y ≠ .exc c := by unfold dMul; split <;> first | (intro z; cases z) | (split <;> (intro z; cases z))
theorem nex_dMod (x y : D) (c : Str) : dMod x y ≠ .exc c := by unfold dMod; split <;> first | (intro z; cases z) | (split <;> (intro z; cases z))
theorem nex_dEq (x y : D) (c : Str) : dEq x y ≠ .exc c := by unfold dEq; split <;> (intro z; cases z)
theorem nex_dNe (x y : D) (c : Str) : dNe x y ≠ .exc c := by unfold dNe; split <;> (intro z; cases z)
theorem nex_dIn (x y : D) (c : Str) : dIn x y ≠ .exc c := by unfold dIn; split <;> first | (intro z; cases z; done) | (split <;> (intro z; cases z))
theorem nex_dNotIn (x y : D) (c : Str) : dNotIn x y ≠ .exc c := by unfold dNotIn; split <;> first | (intro z; cases z; done) | (split <;> (intro z; cases z))
theorem nex_dIs (x y : D) (c : Str) : dIs x y ≠ .exc c := by unfold dIs; split <;> (intro z; cases z)
theorem nex_dIsNot (x y : D) (c : Str) : dIsNot x y ≠ .exc c := by unfold dIsNot; split <;> (intro z; cases z)
theorem nex_dLt (x y : D) (c : Str) : dLt x y ≠ .exc c := by unfold dLt; split <;> first | (intro z; cases z) | (split <;> (intro z; cases z))
theorem nex_dLe (x y : D) (c : Str) : dLe x y ≠ .exc c := by unfold dLe; split <;> (intro z; cases z)
theorem nex_dGt (x y : D) (c : Str) : dGt x y ≠ .exc c := by unfold dGt; split <;> (intro z; cases z)
theorem nex_dGe (x y : D) (c : Str) : dGe x y ≠ .exc c := by unfold dGe; split <;> (intro z; cases z)
section
variable {X : Cx} {K : PySem.W.Frag} {O : Own} {H : Hp}
theorem gd_ints : ∀ {xs : List V} {ds : List D} {ns : List Int}, GdAll K O H xs ds → intsOf ds = some ns → xs = ns.map V.int
  | _, _, _, .nil, h => by cases h; rfl
  | _, _, ns, .cons (d := d) (ds := ds) a b, h => by
    cases d with
    | int i =>
      cases a
      simp only [intsOf, Option.map_eq_some_iff] at h
      obtain ⟨ms, h1, rfl⟩ := h
      rw [gd_ints b h1]
      rfl
    | _ => simp [intsOf] at h
theorem od_add : OpD X (binaryOp .Add) dAdd := by
  intro pins s σ H x y v u Q I rx ry h
  obtain ⟨O, d, e, z, fr, gx, gy, hz, q⟩ := h
  unfold dAdd at hz
  split at hz
  · cases hz
    rw [gx.int] at rx
    rw [gy.int] at ry
    exact op_add pins s σ H _ _ v u Q I rx ry ⟨_, _, rfl, rfl, q _ H (Same.refl H) (.int _)⟩
  · split at hz
    · rename_i hl
      cases hz
      rw [gx.str] at rx
      rw [gy.str] at ry
      exact op_add_str pins s σ H _ _ v u Q I rx ry ⟨_, _, rfl, rfl, lim_line hl, q _ H (Same.refl H) (.str _)⟩
    · cases hz
  · split at hz
    · rename_i hl
      cases hz
      obtain ⟨a, xs, rfl, h1, g1, l1⟩ := gx.list
      obtain ⟨b, ys, rfl, h2, g2, l2⟩ := gy.list
      refine op_cat pins s σ H _ _ v u Q I rx ry ⟨a, b, xs, ys, rfl, rfl, h1, h2, ?_, fun p hp => q _ _ (same_new hp) (Gd.newL hp (fr p hp) (g1.append g2) (by simpa using hl))⟩
      rw [g1.length, g2.length]
      exact lim_line hl
    · cases hz
  · split at hz
    · rename_i hl
      cases hz
      obtain ⟨a, xs, rfl, h1, g1, l1⟩ := gx.tuple
      obtain ⟨b, ys, rfl, h2, g2, l2⟩ := gy.tuple
      refine op_catX pins s σ H _ _ v u Q I rx ry ⟨a, b, xs, ys, rfl, rfl, h1, h2, ?_, fun e => ?_, fun _ e => ?_, fun _ _ p o hp ho => q _ _ (same_new hp) (Gd.newT hp ho (fr p hp) (g1.append g2) (by simpa using hl))⟩
      · rw [g1.length, g2.length]
        exact lim_line hl
      · subst e
        cases g1
        refine q _ H (Same.refl H) ?_
        rcases gy with gy | ⟨_, _, _, _, e, _⟩ | ⟨_, _, _, _, _, e, _⟩
        · exact gy
        · cases e
        · cases e
      · subst e
        cases g2
        rw [List.append_nil] at q
        refine q _ H (Same.refl H) ?_
        rcases gx with gx | ⟨_, _, _, _, e, _⟩ | ⟨_, _, _, _, _, e, _⟩
        · exact gx
        · cases e
        · cases e
    · cases hz
  · cases hz
theorem od_sub : OpD X (binaryOp .Sub) dSub := by
  intro pins s σ H x y v u Q I rx ry h
  obtain ⟨O, d, e, z, fr, gx, gy, hz, q⟩ := h
  unfold dSub at hz
  split at hz
  · cases hz
    rw [gx.int] at rx
    rw [gy.int] at ry
    exact op_sub pins s σ H _ _ v u Q I rx ry ⟨_, _, rfl, rfl, q _ H (Same.refl H) (.int _)⟩
  · cases hz
theorem od_mod : OpD X (binaryOp .Mod) dMod := by
  intro pins s σ H x y v u Q I rx ry h
  obtain ⟨O, d, e, z, fr, gx, gy, hz, q⟩ := h
  unfold dMod at hz
  split at hz
  · split at hz
    · rename_i hb
      cases hz
      rw [gx.int] at rx
      rw [gy.int] at ry
      exact op_mod pins s σ H _ _ v u Q I rx ry ⟨_, _, rfl, rfl, hb, q _ H (Same.refl H) (.int _)⟩
    · cases hz
  · cases hz
def dPow : D → D → R D
  | .int a, .int b => if 0 ≤ b ∧ b ≤ 1000 ∧ a.natAbs < 18446744073709551616 then .ok (.int (a ^ b.toNat)) else .bad
  | _, _ => .bad
def dFdiv : D → D → R D
  | .int a, .int b => if 0 < b ∧ b < 1073741824 then .ok (.int (a / b)) else .bad
  | _, _ => .bad
theorem nex_dPow (x y : D) (c : Str) : dPow x y ≠ .exc c := by unfold dPow; split <;> first | (intro z; cases z) | (split <;> (intro z; cases z))
theorem nex_dFdiv (x y : D) (c : Str) : dFdiv x y ≠ .exc c := by unfold dFdiv; split <;> first | (intro z; cases z) | (split <;> (intro z; cases z))
theorem od_pow : OpD X (binaryOp .Pow) dPow := by
  intro pins s σ H x y v u Q I rx ry h
  obtain ⟨O, d, e, z, fr, gx, gy, hz, q⟩ := h
  unfold dPow at hz
  split at hz
  · split at hz
    · rename_i hb
      cases hz
      rw [gx.int] at rx
      rw [gy.int] at ry
      exact op_pow pins s σ H _ _ v u Q I rx ry ⟨_, _, rfl, rfl, ⟨hb.1, by omega, by have := hb.2.2; omega⟩, q _ H (Same.refl H) (.int _)⟩
    · cases hz
  · cases hz
theorem od_fdiv : OpD X (binaryOp .FloorDiv) dFdiv := by
  intro pins s σ H x y v u Q I rx ry h
  obtain ⟨O, d, e, z, fr, gx, gy, hz, q⟩ := h
  unfold dFdiv at hz
  split at hz
  · split at hz
    · rename_i hb
      cases hz
      rw [gx.int] at rx
      rw [gy.int] at ry
      exact op_fdiv pins s σ H _ _ v u Q I rx ry ⟨_, _, rfl, rfl, hb, q _ H (Same.refl H) (.int _)⟩
    · cases hz
  · cases hz
theorem GdAll.rep {xs : List V} {ds : List D} (g : GdAll K O H xs ds) : ∀ k : Nat, GdAll K O H (List.replicate k xs).flatten (List.replicate k ds).flatten
  | 0 => .nil
  | k + 1 => by
    rw [List.replicate_succ, List.replicate_succ, List.flatten_cons, List.flatten_cons]
    exact g.append (GdAll.rep g k)
theorem od_mul : OpD X (binaryOp .Mult) dMul := by
  intro pins s σ H x y v u Q I rx ry h
  obtain ⟨O, d, e, z, fr, gx, gy, hz, q⟩ := h
  unfold dMul at hz
  split at hz
  · split at hz
    · rename_i hb
      cases hz
      rw [gx.int] at rx
      rw [gy.int] at ry
      exact op_mul pins s σ H _ _ v u Q I rx ry ⟨_, _, rfl, rfl, .inl ⟨by omega, by omega⟩, q _ H (Same.refl H) (.int _)⟩
    · cases hz
  · split at hz
    · rename_i ds k hl
      cases hz
      obtain ⟨a, xs, rfl, h1, g1, l1⟩ := gx.list
      rw [gy.int] at ry
      refine op_rep pins s σ H _ _ v u Q I rx ry ⟨a, _, xs, rfl, rfl, h1, by omega, by omega, ?_, fun p hp => q _ _ (same_new hp) (Gd.newL hp (fr p hp) (g1.rep _) ?_)⟩
      · rw [g1.length]
        exact lim_line hl.2.2
      · simp
        rw [Nat.mul_comm]
        exact hl.2.2
    · cases hz
  · cases hz
theorem od_eq (hu : X.A.units + 65 < cLine) : OpD X (compareOp .Eq) dEq := by
  intro pins s σ H x y v u Q I rx ry h
  obtain ⟨O, d, e, z, fr, gx, gy, hz, q⟩ := h
  unfold dEq at hz
  split at hz
  · rename_i hs
    cases hz
    exact op_eqD (by omega) pins s σ H _ _ v u Q I rx ry ⟨d, e, gx.dp (SeqAt.canLay_of_shaped hs.1), gy.dp (SeqAt.canLay_of_shaped hs.2), hs.1, hs.2, q _ H (Same.refl H) (.bl _)⟩
  · cases hz
theorem od_ne (hu : X.A.units + 65 < cLine) : OpD X (compareOp .NotEq) dNe := by
  intro pins s σ H x y v u Q I rx ry h
  obtain ⟨O, d, e, z, fr, gx, gy, hz, q⟩ := h
  unfold dNe at hz
  split at hz
  · rename_i hs
    cases hz
    exact op_neD (by omega) pins s σ H _ _ v u Q I rx ry ⟨d, e, gx.dp (SeqAt.canLay_of_shaped hs.1), gy.dp (SeqAt.canLay_of_shaped hs.2), hs.1, hs.2, q _ H (Same.refl H) (.bl _)⟩
  · cases hz
theorem keyOf_kD (k : Key) : keyOf (kD k) = some k := by cases k <;> rfl
theorem kget_val {K : PySem.W.Frag} {O : Own} {H : Hp} (q : Key) : ∀ {ks : List Key} {xs : List V} {ds : List D}, ks.length = xs.length → GdAll K O H xs ds → (match kGet ((ks.map kD).zip ds) q with
    | none => valV (ks.zip xs) q = none
    | some d => ∃ v, valV (ks.zip xs) q = some v ∧ Gd K O H v d)
  | [], [], [], _, _ => rfl
  | [], [], _ :: _, _, g => nomatch g
  | [], _ :: _, _, e, _ => by cases e
  | _ :: _, [], _, e, _ => by cases e
  | _ :: _, _ :: _, [], _, g => nomatch g
  | k :: ks, v :: vs, d :: ds, e, .cons g r => by
    have ih := kget_val q (ks := ks) (by simpa using e) r
    show (match (if keyOf (kD k) = some q then some d else kGet ((ks.map kD).zip ds) q) with
      | none => valV ((k, v) :: ks.zip vs) q = none
      | some d => ∃ v', valV ((k, v) :: ks.zip vs) q = some v' ∧ Gd K O H v' d)
    by_cases h : k = q
    · rw [if_pos (by rw [keyOf_kD, h])]
      exact ⟨v, valV_pos h, g⟩
    · rw [if_neg (by rw [keyOf_kD]; simpa using h)]
      have e2 : valV ((k, v) :: ks.zip vs) q = valV (ks.zip vs) q := valV_neg h
      rw [e2]
      exact ih
theorem gt_key {K : PySem.W.Frag} {O : Own} {H : Hp} {x : V} {d : D} {q : Key} (g : GT K O H x d) (h : keyOf d = some q) : x = kV q := by
  unfold keyOf at h
  split at h
  · cases h; exact g.int
  · cases h; exact g.str
  · cases h
theorem od_in (hu : X.A.units + 65 < cLine) : OpD X (compareOp .In) dIn := by
  intro pins s σ H x y v u Q I rx ry h
  obtain ⟨O, d, e, z, fr, gx, gy, hz, q⟩ := h
  unfold dIn at hz
  split at hz
  · split at hz
    · rename_i kvs k hk
      cases hz
      obtain ⟨a, ks, xs, ds, rfl, rfl, h1, h2, h3, h4⟩ := gy.dict
      have hx := gt_key gx hk
      subst hx
      obtain rfl : u = Value.ref a := ry
      refine d_in (by omega) I (.inl ⟨_, k, h1, rfl, rfl⟩) rx fun s' I' => ⟨.bl ((valV (ks.zip xs) k).isSome), H, I', rfl, q _ H (Same.refl H) ?_⟩
      have e := kget_val k h2 h3
      cases hg : kGet ((ks.map kD).zip ds) k with
      | none => rw [hg] at e; rw [show valV (ks.zip xs) k = none from e]; exact .bl _
      | some d => rw [hg] at e; obtain ⟨w, e, _⟩ := e; rw [e]; exact .bl _
    · cases hz
  · split at hz
    · rename_i ds hs
      cases hz
      exact op_inD hu pins s σ H _ _ v u Q I rx ry ⟨d, ds, gx.dp (SeqAt.canLay_of_shaped hs.1), gy.dp (SeqAt.canLay_of_shaped hs.2), hs.1, hs.2, q _ H (Same.refl H) (.bl _)⟩
    · cases hz
  · split at hz
    · rename_i ds hs
      cases hz
      obtain ⟨as, r1⟩ := Dp.reads I d x v (gx.dp (SeqAt.canLay_of_shaped hs.1)) rx
      obtain ⟨bs, r2⟩ := Dp.reads I (.tuple ds) y u (gy.dp (SeqAt.canLay_of_shaped hs.2)) ry
      exact SeqAt.in_tuple_reads r2 r1 (by simpa [PyData.canLay0] using SeqAt.canLay_of_shaped hs.2) (SeqAt.canLay_of_shaped hs.1) (room_in_shaped hs.1 hu) ⟨.bl _, H, I, rfl, q _ H (Same.refl H) (.bl _)⟩
    · cases hz
  · split at hz
    · cases hz
      rw [gx.str] at rx
      rw [gy.str] at ry
      exact op_in_str pins s σ H _ _ v u Q I rx ry ⟨_, _, rfl, rfl, q _ H (Same.refl H) (.bl _)⟩
    · cases hz
  · cases hz
theorem od_notIn (hu : X.A.units + 65 < cLine) : OpD X (compareOp .NotIn) dNotIn := by
  intro pins s σ H x y v u Q I rx ry h
  obtain ⟨O, d, e, z, fr, gx, gy, hz, q⟩ := h
  unfold dNotIn at hz
  split at hz
  · split at hz
    · rename_i kvs k hk
      cases hz
      obtain ⟨a, ks, xs, ds, rfl, rfl, h1, h2, h3, h4⟩ := gy.dict
      have hx := gt_key gx hk
      subst hx
      obtain rfl : u = Value.ref a := ry
      refine d_notIn (by omega) I (.inl ⟨_, k, h1, rfl, rfl⟩) rx fun s' I' => ⟨.bl (!(valV (ks.zip xs) k).isSome), H, I', rfl, q _ H (Same.refl H) ?_⟩
      have e := kget_val k h2 h3
      cases hg : kGet ((ks.map kD).zip ds) k with
      | none => rw [hg] at e; rw [show valV (ks.zip xs) k = none from e]; exact .bl _
      | some d => rw [hg] at e; obtain ⟨w, e, _⟩ := e; rw [e]; exact .bl _
    · cases hz
  · split at hz
    · rename_i ds hs
      cases hz
      exact op_notInD hu pins s σ H _ _ v u Q I rx ry ⟨d, ds, gx.dp (SeqAt.canLay_of_shaped hs.1), gy.dp (SeqAt.canLay_of_shaped hs.2), hs.1, hs.2, q _ H (Same.refl H) (.bl _)⟩
    · cases hz
  · split at hz
    · rename_i ds hs
      cases hz
      obtain ⟨as, r1⟩ := Dp.reads I d x v (gx.dp (SeqAt.canLay_of_shaped hs.1)) rx
      obtain ⟨bs, r2⟩ := Dp.reads I (.tuple ds) y u (gy.dp (SeqAt.canLay_of_shaped hs.2)) ry
      exact SeqAt.notIn_tuple_reads r2 r1 (by simpa [PyData.canLay0] using SeqAt.canLay_of_shaped hs.2) (SeqAt.canLay_of_shaped hs.1) (room_in_shaped hs.1 hu) ⟨.bl _, H, I, rfl, q _ H (Same.refl H) (.bl _)⟩
    · cases hz
  · split at hz
    · cases hz
      rw [gx.str] at rx
      rw [gy.str] at ry
      exact op_notin_str pins s σ H _ _ v u Q I rx ry ⟨_, _, rfl, rfl, q _ H (Same.refl H) (.bl _)⟩
    · cases hz
  · cases hz
theorem gt_non {x : V} {d : D} (g : GT K O H x d) : decide (x = .non) = isN d := by
  rcases g with g | ⟨a, xs, ds, rfl, rfl, _⟩ | ⟨a, ks, xs, ds, rfl, rfl, _⟩
  · cases g <;> rfl
  · rfl
  · rfl
theorem od_is : OpD X (compareOp .Is) dIs := by
  intro pins s σ H x y v u Q I rx ry h
  obtain ⟨O, d, e, z, fr, gx, gy, hz, q⟩ := h
  unfold dIs at hz
  split at hz
  · cases hz
    refine op_isN pins s σ H _ _ v u Q I rx ry ⟨gy.none_, q _ H (Same.refl H) ?_⟩
    rw [gt_non gx]
    exact .bl _
  · cases hz
theorem od_isNot : OpD X (compareOp .IsNot) dIsNot := by
  intro pins s σ H x y v u Q I rx ry h
  obtain ⟨O, d, e, z, fr, gx, gy, hz, q⟩ := h
  unfold dIsNot at hz
  split at hz
  · cases hz
    refine op_notN pins s σ H _ _ v u Q I rx ry ⟨gy.none_, q _ H (Same.refl H) ?_⟩
    rw [gt_non gx]
    exact .bl _
  · cases hz
theorem od_lt (hu : X.A.units + 65 < cLine) : OpD X (compareOp .Lt) dLt := by
  intro pins s σ H x y v u Q I rx ry h
  obtain ⟨O, d, e, z, fr, gx, gy, hz, q⟩ := h
  unfold dLt at hz
  split at hz
  · cases hz
    rw [gx.int] at rx
    rw [gy.int] at ry
    exact op_lt pins s σ H _ _ v u Q I rx ry ⟨_, _, rfl, rfl, q _ H (Same.refl H) (.bl _)⟩
  · split at hz
    · rename_i e1 e2
      cases hz
      obtain ⟨a, xs, rfl, h1, g1, l1⟩ := gx.tuple
      obtain ⟨b, ys, rfl, h2, g2, l2⟩ := gy.tuple
      rw [gd_ints g1 e1] at h1
      rw [gd_ints g2 e2] at h2
      exact op_ltT (by omega) pins s σ H _ _ v u Q I rx ry ⟨a, b, _, _, rfl, rfl, h1, h2, q _ H (Same.refl H) (.bl _)⟩
    · cases hz
  · cases hz
theorem od_le : OpD X (compareOp .LtE) dLe := by
  intro pins s σ H x y v u Q I rx ry h
  obtain ⟨O, d, e, z, fr, gx, gy, hz, q⟩ := h
  unfold dLe at hz
  split at hz
  · cases hz
    rw [gx.int] at rx
    rw [gy.int] at ry
    exact op_le pins s σ H _ _ v u Q I rx ry ⟨_, _, rfl, rfl, q _ H (Same.refl H) (.bl _)⟩
  · cases hz
theorem od_gt : OpD X (compareOp .Gt) dGt := by
  intro pins s σ H x y v u Q I rx ry h
  obtain ⟨O, d, e, z, fr, gx, gy, hz, q⟩ := h
  unfold dGt at hz
  split at hz
  · cases hz
    rw [gx.int] at rx
    rw [gy.int] at ry
    exact op_gt pins s σ H _ _ v u Q I rx ry ⟨_, _, rfl, rfl, q _ H (Same.refl H) (.bl _)⟩
  · cases hz
theorem od_ge : OpD X (compareOp .GtE) dGe := by
  intro pins s σ H x y v u Q I rx ry h
  obtain ⟨O, d, e, z, fr, gx, gy, hz, q⟩ := h
  unfold dGe at hz
  split at hz
  · cases hz
    rw [gx.int] at rx
    rw [gy.int] at ry
    exact op_ge pins s σ H _ _ v u Q I rx ry ⟨_, _, rfl, rfl, q _ H (Same.refl H) (.bl _)⟩
  · cases hz
end
end Rf

/-! Rf.D: pure expressions: not, and, or, if, chains, displays, items, slices, built-ins. -/
namespace Rf
open PySem PySem.Spec PyProof.Rows L2 LamX
section
variable {X : Cx} {T : Tk} {W : WX} {e a b c : Expr} {pos : Pos} {f g h : E0f}
/-! ### one operand -/
def r1 (f : D → R D) (a : E0f) : E0f := fun ρ => (a ρ).bind f
theorem one {fa : E0f} {op : D → R D} {σ : L2.St} {H : Hp} {Q : VK} (hne : ∀ x c, op x ≠ .exc c) (h : tP (gc X) T W (r1 op fa) σ H Q) :
    tQ (gc X) T W fa σ H fun x H1 => ∃ (O : Own) (d z : D), (∀ a, H1 a = none → O a = none) ∧ GT X.K O H1 x d ∧ op d = .ok z ∧ ∀ v H', Same H1 H' → Gd X.K O H' v z → Q v H' := by
  obtain ⟨O, ρ, E, z⟩ := h
  refine ⟨O, ρ, E, ?_⟩
  unfold r1 at z
  cases hf : fa ρ with
  | bad => rw [hf] at z; exact z
  | exc c => rw [hf] at z; exact z
  | ok d =>
    rw [hf] at z
    intro x H1 s1 g1
    simp only [R.bind_ok] at z
    cases ho : op d with
    | bad => rw [ho] at z; exact z.elim
    | exc c => exact absurd ho (hne _ _)
    | ok r =>
      rw [ho] at z
      exact ⟨O, d, r, (E.same s1).fresh, g1, ho, fun v H' s' g => z v H' (s1.then s') g⟩
def dNeg : D → R D
  | .int i => .ok (.int (-i))
  | _ => .bad
theorem pp_neg (ha : PQ X T W a f) : PP X T W (.UnaryOp .USub a pos) (r1 dNeg f) := PE.of (pe_un un_neg ha) fun σ H Q h => by
  obtain ⟨O, ρ, E, z⟩ := one (op := dNeg) (fun x c => by unfold dNeg; split <;> (intro z; cases z)) h
  refine ⟨O, ρ, E, ?_⟩
  cases hf : f ρ with
  | bad => rw [hf] at z; exact z
  | exc c => rw [hf] at z; exact z
  | ok d =>
    rw [hf] at z
    intro x H1 s1 g1
    obtain ⟨O, d, r, fr, g2, ho, q⟩ := z x H1 s1 g1
    unfold dNeg at ho
    split at ho
    · cases ho
      exact ⟨_, g2.int, q _ H1 (Same.refl _) (.int _)⟩
    · cases ho
/-! ### tests -/
theorem ptp_val (h : PP X T W e f) (he : ∀ whole, isTrue e X.env whole = (do let v ← whole; standAt e.pos; holding [v] (truthy v)) := by intro _; rfl) : PT X e (tPT (gc X) T W f) := PT.of (pt_val h he) fun σ H Q ⟨O, ρ, E, z⟩ => ⟨O, ρ, E, by
  cases hf : f ρ with
  | bad => rw [hf] at z; exact z
  | exc c => rw [hf] at z; exact z
  | ok d =>
    rw [hf] at z
    cases d with
    | bool b =>
      intro v H' s' g
      cases g
      exact ⟨b, rfl, z H' s'⟩
    | _ => exact (show False from z).elim⟩
theorem ptp_cmp {op : CmpOp} {f : D → D → R D} {fa fb : E0f} (ho : OpD X (compareOp op) f) (hne : ∀ x y c, f x y ≠ .exc c) (ha : PQ X T W a fa) (hb : PQ X T W b fb) (hm : behindInMarks op b = false) : PT X (.Compare a [op] [b] pos) (tPT (gc X) T W (r2 f fa fb)) :=
  PT.of (pt_cmpR ho ha hb hm) fun σ H Q h => by
    have h2 : tP (gc X) T W (r2 f fa fb) σ H fun x H' => ∃ k, x = .bl k ∧ Q k H' := by
      obtain ⟨O, ρ, E, z⟩ := h
      refine ⟨O, ρ, E, ?_⟩
      cases hf : r2 f fa fb ρ with
      | bad => rw [hf] at z; exact z
      | exc c => rw [hf] at z; exact z
      | ok d =>
        rw [hf] at z
        cases d with
        | bool b =>
          intro v H' s' g
          cases g
          exact ⟨b, rfl, z H' s'⟩
        | _ => exact (show False from z).elim
    exact two hne h2
def rNot (a : E0f) : E0f := fun ρ => (a ρ).bind fun
  | .bool b => .ok (.bool (!b))
  | _ => .bad
def rAnd (a b : E0f) : E0f := fun ρ => (a ρ).bind fun
  | .bool true => b ρ
  | .bool false => .ok (.bool false)
  | _ => .bad
def rOr (a b : E0f) : E0f := fun ρ => (a ρ).bind fun
  | .bool true => .ok (.bool true)
  | .bool false => b ρ
  | _ => .bad
def rIf (t a b : E0f) : E0f := fun ρ => (t ρ).bind fun
  | .bool true => a ρ
  | .bool false => b ρ
  | _ => .bad
theorem ptp_not (ha : PT X a (tPT (gc X) T W f)) : PT X (.UnaryOp .Not a pos) (tPT (gc X) T W (rNot f)) := PT.of (pt_not ha) fun σ H Q ⟨O, ρ, E, z⟩ => ⟨O, ρ, E, by
  unfold rNot at z
  cases hf : f ρ with
  | bad => rw [hf] at z; exact z
  | exc c => rw [hf] at z; exact z
  | ok d =>
    rw [hf] at z
    cases d with
    | bool b => exact fun H' s' => z H' s'
    | _ => exact (show False from z).elim⟩
theorem ptw_and1 (ha : PT X a (tPT (gc X) T W f)) : PW X (.BoolOp .And [a] pos) (tPT (gc X) T W f) := pw_and1 ha
theorem ptw_or1 (ha : PT X a (tPT (gc X) T W f)) : PW X (.BoolOp .Or [a] pos) (tPT (gc X) T W f) := pw_or1 ha
theorem ptw_and {rest : List Expr} (ha : PT X a (tPT (gc X) T W f)) (hb : PW X (.BoolOp .And (b :: rest) pos) (tPT (gc X) T W g)) : PW X (.BoolOp .And (a :: b :: rest) pos) (tPT (gc X) T W (rAnd f g)) := PW.of (pw_and ha hb) fun σ H Q ⟨O, ρ, E, z⟩ => ⟨O, ρ, E, by
  unfold rAnd at z
  cases hf : f ρ with
  | bad => rw [hf] at z; exact z
  | exc c => rw [hf] at z; exact z
  | ok d =>
    rw [hf] at z
    cases d with
    | bool b =>
      cases b with
      | false => exact fun H' s' => iteF (z H' s')
      | true =>
        refine fun H' s' => iteT ⟨O, ρ, E.same s', ?_⟩
        simp only [R.bind_ok] at z
        cases hg : g ρ with
        | bad => rw [hg] at z; exact z
        | exc c => rw [hg] at z; exact fun H2 s2 => z H2 (s'.trans s2)
        | ok d =>
          rw [hg] at z
          cases d with
          | bool b => exact fun H2 s2 => z H2 (s'.trans s2)
          | _ => exact (show False from z).elim
    | _ => exact (show False from z).elim⟩
theorem ptw_or {rest : List Expr} (ha : PT X a (tPT (gc X) T W f)) (hb : PW X (.BoolOp .Or (b :: rest) pos) (tPT (gc X) T W g)) : PW X (.BoolOp .Or (a :: b :: rest) pos) (tPT (gc X) T W (rOr f g)) := PW.of (pw_or ha hb) fun σ H Q ⟨O, ρ, E, z⟩ => ⟨O, ρ, E, by
  unfold rOr at z
  cases hf : f ρ with
  | bad => rw [hf] at z; exact z
  | exc c => rw [hf] at z; exact z
  | ok d =>
    rw [hf] at z
    cases d with
    | bool b =>
      cases b with
      | true => exact fun H' s' => iteT (z H' s')
      | false =>
        refine fun H' s' => iteF ⟨O, ρ, E.same s', ?_⟩
        simp only [R.bind_ok] at z
        cases hg : g ρ with
        | bad => rw [hg] at z; exact z
        | exc c => rw [hg] at z; exact fun H2 s2 => z H2 (s'.trans s2)
        | ok d =>
          rw [hg] at z
          cases d with
          | bool b => exact fun H2 s2 => z H2 (s'.trans s2)
          | _ => exact (show False from z).elim
    | _ => exact (show False from z).elim⟩
/-! ### .. as values -/
theorem pp_not (ha : PP X T W a f) : PP X T W (.UnaryOp .Not a pos) (rNot f) := PE.of (pe_not ha) fun σ H Q ⟨O, ρ, E, z⟩ => ⟨O, ρ, E, by
  unfold rNot at z
  cases hf : f ρ with
  | bad => rw [hf] at z; exact z
  | exc c => rw [hf] at z; exact z
  | ok d =>
    rw [hf] at z
    cases d with
    | bool b =>
      intro v H' s' g
      cases g
      exact ⟨b, rfl, z _ H' s' (.bl _)⟩
    | _ => exact (show False from z).elim⟩
theorem pp_one {op} (h : PP X T W a f) : PP X T W (.BoolOp op [a] pos) f := pe_one h
theorem pp_and {rest : List Expr} (ha : PP X T W a f) (hb : PP X T W (.BoolOp .And (b :: rest) pos) g) : PP X T W (.BoolOp .And (a :: b :: rest) pos) (rAnd f g) := PE.of (pe_and ha hb) fun σ H Q ⟨O, ρ, E, z⟩ => ⟨O, ρ, E, by
  unfold rAnd at z
  cases hf : f ρ with
  | bad => rw [hf] at z; exact z
  | exc c => rw [hf] at z; exact z
  | ok d =>
    rw [hf] at z
    cases d with
    | bool b =>
      intro v H' s' gv
      cases gv
      refine ⟨b, rfl, ?_⟩
      cases b with
      | false => exact iteF (z _ H' s' (.bl _))
      | true =>
        refine iteT ⟨O, ρ, E.same s', ?_⟩
        simp only [R.bind_ok] at z
        cases hg : g ρ with
        | bad => rw [hg] at z; exact z
        | exc c => rw [hg] at z; exact fun H2 s2 => z H2 (s'.trans s2)
        | ok d => rw [hg] at z; exact fun v H2 s2 => z v H2 (s'.trans s2)
    | _ => exact (show False from z).elim⟩
theorem pp_if (hc : PT X c (tPT (gc X) T W h)) (ha : PP X T W a f) (hb : PP X T W b g) : PP X T W (.IfExp c a b pos) (rIf h f g) := PE.of (pe_ifExp hc ha hb) fun σ H Q ⟨O, ρ, E, z⟩ => ⟨O, ρ, E, by
  unfold rIf at z
  cases hf : h ρ with
  | bad => rw [hf] at z; exact z
  | exc c => rw [hf] at z; exact z
  | ok d =>
    rw [hf] at z
    cases d with
    | bool b =>
      intro H' s'
      cases b with
      | true =>
        refine iteT ⟨O, ρ, E.same s', ?_⟩
        simp only [R.bind_ok] at z
        cases hg : f ρ with
        | bad => rw [hg] at z; exact z
        | exc c => rw [hg] at z; exact fun H2 s2 => z H2 (s'.trans s2)
        | ok d => rw [hg] at z; exact fun v H2 s2 => z v H2 (s'.trans s2)
      | false =>
        refine iteF ⟨O, ρ, E.same s', ?_⟩
        simp only [R.bind_ok] at z
        cases hg : g ρ with
        | bad => rw [hg] at z; exact z
        | exc c => rw [hg] at z; exact fun H2 s2 => z H2 (s'.trans s2)
        | ok d => rw [hg] at z; exact fun v H2 s2 => z v H2 (s'.trans s2)
    | _ => exact (show False from z).elim⟩
/-- a < b < c -/
def rChain (op op' : D → D → R D) (a b c : E0f) : E0f := fun ρ => (a ρ).bind fun x => (b ρ).bind fun y => (op x y).bind fun
  | .bool true => (c ρ).bind fun z => op' y z
  | .bool false => .ok (.bool false)
  | _ => .bad
theorem chain_read {o1 o2 : CmpOp} {op op' : D → D → R D} {fa fb fc : E0f} {σ : L2.St} {H : Hp} {Q : VK} (n1 : ∀ x y c, op x y ≠ .exc c) (n2 : ∀ x y c, op' x y ≠ .exc c) (h : tP (gc X) T W (rChain op op' fa fb fc) σ H Q) :
    tChain (fun x y H Q => ∃ (O : Own) (d e z : D), (∀ a, H a = none → O a = none) ∧ GT X.K O H x d ∧ GT X.K O H y e ∧ op d e = .ok z ∧ ∀ v H', Same H H' → Gd X.K O H' v z → Q v H')
      (fun x y H Q => ∃ (O : Own) (d e z : D), (∀ a, H a = none → O a = none) ∧ GT X.K O H x d ∧ GT X.K O H y e ∧ op' d e = .ok z ∧ ∀ v H', Same H H' → Gd X.K O H' v z → Q v H') (tQ (gc X) T W fa) (tQ (gc X) T W fb) (tQ (gc X) T W fc) σ H Q := by
  obtain ⟨O, ρ, E, z⟩ := h
  refine ⟨O, ρ, E, ?_⟩
  unfold rChain at z
  cases hf : fa ρ with
  | bad => rw [hf] at z; exact z
  | exc c => rw [hf] at z; exact z
  | ok d =>
    rw [hf] at z
    intro x H1 s1 g1
    refine ⟨O, ρ, E.same s1, ?_⟩
    simp only [R.bind_ok] at z
    cases hg : fb ρ with
    | bad => rw [hg] at z; exact z
    | exc c => rw [hg] at z; exact fun H' s' => z H' (s1.trans s')
    | ok e =>
      rw [hg] at z
      intro y H2 s2 g2
      simp only [R.bind_ok] at z
      cases ho : op d e with
      | bad => rw [ho] at z; exact z.elim
      | exc c => exact absurd ho (n1 _ _ _)
      | ok r =>
        rw [ho] at z
        simp only [R.bind_ok] at z
        refine ⟨O, d, e, r, ((E.same s1).same s2).fresh, GT.ext s2.ex g1, g2, ho, fun v H3 s3' g3 => ?_⟩
        have s3 : Gr T H2 H3 := Gr.of s2.tb s3'
        cases r with
        | bool k =>
          cases g3
          refine ⟨k, rfl, ?_⟩
          cases k with
          | false => exact iteF (z _ H3 ((s1.trans s2).trans s3) (.bl _))
          | true =>
            refine iteT ⟨O, ρ, E.same ((s1.trans s2).trans s3), ?_⟩
            dsimp only at z
            cases hc : fc ρ with
            | bad => rw [hc] at z; exact z
            | exc c => rw [hc] at z; exact fun H' s' => z H' (((s1.trans s2).trans s3).trans s')
            | ok u =>
              rw [hc] at z
              intro w H4 s4 g4
              simp only [R.bind_ok] at z
              cases ho2 : op' e u with
              | bad => rw [ho2] at z; exact z.elim
              | exc c => exact absurd ho2 (n2 _ _ _)
              | ok r2 =>
                rw [ho2] at z
                exact ⟨O, e, u, r2, (E.same (((s1.trans s2).trans s3).trans s4)).fresh, GT.ext (s3.trans s4).ex g2, g4, ho2, fun v H' s' g => z v H' ((((s1.trans s2).trans s3).trans s4).then s') g⟩
        | _ => exact (show False from z).elim
theorem pp_chain {o1 o2 : CmpOp} {op op' : D → D → R D} {fa fb fc : E0f} (h1 : OpD X (compareOp o1) op) (h2 : OpD X (compareOp o2) op') (n1 : ∀ x y c, op x y ≠ .exc c) (n2 : ∀ x y c, op' x y ≠ .exc c) (ha : PQ X T W a fa) (hb : PQ X T W b fb) (hc : PQ X T W c fc) (hm : lastMarks [o1, o2] [b, c] = false := by with_unfolding_all rfl) :
    PP X T W (.Compare a [o1, o2] [b, c] pos) (rChain op op' fa fb fc) := PE.of (pe_chain h1 h2 ha hb hc hm) fun σ H Q h => chain_read (o1 := o1) (o2 := o2) n1 n2 h
end
/-! ### arguments, displays -/
abbrev A0f := Rho → R (List D)
def raNil : A0f := fun _ => .ok []
def raCons (a : E0f) (r : A0f) : A0f := fun ρ => (a ρ).bind fun x => (r ρ).bind fun xs => .ok (x :: xs)
def rTup (a : A0f) : E0f := fun ρ => (a ρ).bind fun xs => if xs.length ≤ LIM then .ok (.tuple xs) else .bad
def rLst (a : A0f) : E0f := fun ρ => (a ρ).bind fun xs => if xs.length ≤ LIM then .ok (.list xs) else .bad
section
variable {X : Cx} {T : Tk} {W : WX} {e a b c : Expr} {es : List Expr} {pos : Pos} {f : E0f} {fs : A0f}
abbrev PPA (X : Cx) (T : Tk) (W : WX) (es : List Expr) (f : A0f) : Prop := PA X es (tPA (gc X) T W f)
theorem ppa_nil : PPA X T W [] raNil := PA.of pa_nil fun σ H Q ⟨O, ρ, E, z⟩ => z [] H (Gr.refl E.tabs) .nil
theorem ppa_cons (ha : PP X T W e f) (hr : PPA X T W es fs) (hs : starEach (e :: es) X.env = (false, eval e X.env) :: starEach es X.env := by rfl) : PPA X T W (e :: es) (raCons f fs) := PA.of (pa_cons ha hr hs) fun σ H Q ⟨O, ρ, E, z⟩ => ⟨O, ρ, E, by
  unfold raCons at z
  cases hf : f ρ with
  | bad => rw [hf] at z; exact z
  | exc c => rw [hf] at z; exact z
  | ok d =>
    rw [hf] at z
    intro v H1 s1 g1
    refine ⟨O, ρ, E.same s1, ?_⟩
    simp only [R.bind_ok] at z
    cases hg : fs ρ with
    | bad => rw [hg] at z; exact z
    | exc c => rw [hg] at z; exact fun H' s' => z H' (s1.trans s')
    | ok ds =>
      rw [hg] at z
      exact fun vs H2 s2 g2 => z (v :: vs) H2 (s1.trans s2) (.cons (g1.ext s2.ex) g2)⟩
theorem pp_tup {x1} (h : PPA X T W es fs) : PP X T W (.Tuple es x1 pos) (rTup fs) := PE.of (pe_tupX h) fun σ H Q ⟨O, ρ, E, z⟩ => ⟨O, ρ, E, by
  unfold rTup at z
  cases hf : fs ρ with
  | bad => rw [hf] at z; exact z
  | exc c => rw [hf] at z; exact z
  | ok ds =>
    rw [hf] at z
    simp only [R.bind_ok] at z
    by_cases hl : ds.length ≤ LIM
    · rw [if_pos hl] at z
      intro vs H1 s1 g1
      exact ⟨by rw [g1.length]; exact lim_line hl, fun p o hp ho => z _ _ (s1.then (same_new hp)) (Gd.newT hp ho ((E.same s1).fresh p hp) g1 hl)⟩
    · rw [if_neg hl] at z
      exact z.elim⟩
theorem pp_lst (h : PPA X T W es fs) : PP X T W (.List es pos) (rLst fs) := PE.of (pe_lst h) fun σ H Q ⟨O, ρ, E, z⟩ => ⟨O, ρ, E, by
  unfold rLst at z
  cases hf : fs ρ with
  | bad => rw [hf] at z; exact z
  | exc c => rw [hf] at z; exact z
  | ok ds =>
    rw [hf] at z
    simp only [R.bind_ok] at z
    by_cases hl : ds.length ≤ LIM
    · rw [if_pos hl] at z
      intro vs H1 s1 g1
      exact ⟨by rw [g1.length]; exact lim_line hl, fun p hp => z _ _ (s1.then (same_new hp)) (Gd.newL hp ((E.same s1).fresh p hp) g1 hl)⟩
    · rw [if_neg hl] at z
      exact z.elim⟩
end
/-! ### items, slices -/
def dIx : D → D → R D
  | .dict kvs, k => match keyOf k with
    | some q => (match kGet kvs q with
      | some d => .ok d
      | none => .bad)
    | none => .bad
  | .list ds, .int i => match atI ds i with
    | some d => .ok d
    | none => .bad
  | .tuple ds, .int i => match atI ds i with
    | some d => .ok d
    | none => .bad
  | .str z, .int i => if z.length ≤ LIM then (match atI z.cps.toList i with
    | some c => .ok (.str ⟨#[c]⟩)
    | none => .bad) else .bad
  | _, _ => .bad
theorem nex_dIx (x y : D) (c : Str) : dIx x y ≠ .exc c := by
  unfold dIx
  split
  · split
    · split <;> (intro z; cases z)
    · intro z; cases z
  · split <;> (intro z; cases z)
  · split <;> (intro z; cases z)
  · split
    · split <;> (intro z; cases z)
    · intro z; cases z
  · intro z; cases z
theorem gd_atI {K : PySem.W.Frag} {O : Own} {H : Hp} {xs : List V} {ds : List D} {i : Int} {d : D} (g : GdAll K O H xs ds) (h : atI ds i = some d) : ∃ v, atI xs i = some v ∧ Gd K O H v d := by
  unfold atI at h ⊢
  rw [g.length]
  cases e : ixN ds.length i with
  | none => rw [e] at h; cases h
  | some j =>
    rw [e] at h
    exact g.get h
theorem ix_dict {X : Cx} (hu : X.A.units + 1 < cLine) : IxR X fun x y H Q => ∃ (a : Addr) (v : V), x = .ref a ∧ DGet H a y (some v) ∧ Q v H := by
  intro value slice pins s σ H x y v u Q I rx ry h hsl
  obtain ⟨a, w, rfl, g, q⟩ := h
  obtain rfl : v = Value.ref a := rx
  have hT := dict_typeIs I g
  unfold subscriptTail
  refine wpAny_bind ?_
  rw [getitemInPython_of_ne hT.not_modules]
  refine wpAny_bind (wpAny_specialOf hT PySem.F.slot_dict_getitem.lookup ?_)
  have fin : wpAny (model X.prog X.w) X.A (subscripted slice false (.ref a) u) (fun r s₃ => wpAny (model X.prog X.w) X.A (letTemporaryGo value (.ref a) r >>= fun _ => pure r) (EP X pins σ Q) X.xe s₃) X.xe s := by
    rw [hsl]
    exact wpAny_operating (d_getItem hu I g ry fun w' s' I' r' => wpAny_bind (wpAny_letTemporaryGo (wpAny_pure ⟨w, H, I', r', q⟩)))
  first
    | exact wpAny_pure (wpAny_bind fin)
    | exact wpAny_bind (wpAny_pure (wpAny_bind fin))
    | exact wpAny_bind fin
theorem ix_D {X : Cx} (hu : X.A.units + 1 < cLine) : IxR X fun x y H Q => ∃ (O : Own) (d e z : D), (∀ a, H a = none → O a = none) ∧ GT X.K O H x d ∧ GT X.K O H y e ∧ dIx d e = .ok z ∧ ∀ v H', Same H H' → Gd X.K O H' v z → Q v H' := by
  intro value slice pins s σ H x y v u Q I rx ry h hsl
  obtain ⟨O, d, e, z, fr, gx, gy, hz, q⟩ := h
  unfold dIx at hz
  split at hz
  · split at hz
    · rename_i kvs k hk
      split at hz
      · rename_i d0 hg
        cases hz
        obtain ⟨a, ks, xs, ds, rfl, rfl, h1, h2, h3, h4⟩ := gx.dict
        have hy := gt_key gy hk
        subst hy
        have e := kget_val k h2 h3
        rw [hg] at e
        obtain ⟨w, e, gw⟩ := e
        exact ix_dict hu value slice pins s σ H _ _ v u Q I rx ry ⟨a, w, rfl, .inl ⟨_, k, h1, rfl, e.symm⟩, q _ H (Same.refl H) gw⟩ hsl
      · cases hz
    · cases hz
  · split at hz
    · rename_i hi
      cases hz
      obtain ⟨a, xs, rfl, h1, g1, l1⟩ := gx.list
      obtain ⟨w, hw, gw⟩ := gd_atI g1 hi
      rw [gy.int] at ry
      exact ix_list value slice pins s σ H _ _ v u Q I rx ry ⟨a, xs, _, w, rfl, rfl, SqL.of h1, hw, q _ H (Same.refl H) gw⟩ hsl
    · cases hz
  · split at hz
    · rename_i hi
      cases hz
      obtain ⟨a, xs, rfl, h1, g1, l1⟩ := gx.tuple
      obtain ⟨w, hw, gw⟩ := gd_atI g1 hi
      rw [gy.int] at ry
      exact ix_tup value slice pins s σ H _ _ v u Q I rx ry ⟨a, xs, _, w, rfl, rfl, h1, hw, q _ H (Same.refl H) gw⟩ hsl
    · cases hz
  · split at hz
    · rename_i hl
      split at hz
      · rename_i c hi
        cases hz
        rw [gx.str] at rx
        rw [gy.int] at ry
        exact ix_str value slice pins s σ H _ _ v u Q I rx ry ⟨_, _, c, rfl, rfl, lim_line hl, hi, q _ H (Same.refl H) (.str _)⟩ hsl
      · cases hz
    · cases hz
  · cases hz
section
variable {X : Cx} {T : Tk} {W : WX} {e a b c : Expr} {es : List Expr} {pos : Pos} {f g : E0f} {fs : A0f}
theorem pp_ix (hu : X.A.units + 1 < cLine) (ha : PQ X T W a f) (hb : PQ X T W b g) (hs : PlainIx b := by exact fun _ _ => rfl) : PP X T W (.Subscript a b pos) (r2 dIx f g) := PE.of (pe_ix (ix_D hu) ha hb hs) fun σ H Q h => two nex_dIx h
/-- the items of xs[lo:hi] -/
def cutD {α : Type} (xs : List α) (lo hi : Option Int) : List α := (xs.drop (HT.sIx xs.length 0 lo)).take (HT.sIx xs.length xs.length hi - HT.sIx xs.length 0 lo)
theorem cutD_len {α : Type} (xs : List α) (lo hi : Option Int) : (cutD xs lo hi).length ≤ xs.length := by
  unfold cutD
  rw [List.length_take, List.length_drop]
  omega
theorem gd_cut {K : PySem.W.Frag} {O : Own} {H : Hp} {xs : List V} {ds : List D} {lo hi : Option Int} (g : GdAll K O H xs ds) : GdAll K O H (cutV xs lo hi) (cutD ds lo hi) := by
  unfold cutV cutD
  rw [g.length]
  exact (g.drop _).take _
def dSl (x : D) (lo hi : Option Int) : R D := match x with
  | .list ds => .ok (.list (cutD ds lo hi))
  | .tuple ds => .ok (.tuple (cutD ds lo hi))
  | .str z => if z.length ≤ LIM then .ok (.str (cutS z lo hi)) else .bad
  | _ => .bad
theorem cut_whole {α : Type} {xs : List α} {lo hi : Option Int} (h : HT.sIx xs.length 0 lo = 0 ∧ HT.sIx xs.length xs.length hi = xs.length) : cutD xs lo hi = xs := by
  unfold cutD
  rw [h.1, h.2]
  simp
theorem sl_D {X : Cx} : SlR X fun x lo hi H Q => ∃ (O : Own) (d z : D), (∀ a, H a = none → O a = none) ∧ GT X.K O H x d ∧ dSl d lo hi = .ok z ∧ ∀ v H', Same H H' → Gd X.K O H' v z → Q v H' := by
  intro pins s σ H x v vl vu lo hi sl Q I rx hs pl pu h
  obtain ⟨O, d, z, fr, gx, hz, q⟩ := h
  unfold dSl at hz
  split at hz
  · cases hz
    obtain ⟨a, xs, rfl, h1, g1, l1⟩ := gx.list
    exact sl_list pins s σ H _ v vl vu lo hi sl Q I rx hs pl pu ⟨a, xs, rfl, SqL.of h1, fun p hp => q _ _ (same_new hp) (Gd.newL hp (fr p hp) (gd_cut g1) (Nat.le_trans (cutD_len _ _ _) l1))⟩
  · cases hz
    obtain ⟨a, xs, rfl, h1, g1, l1⟩ := gx.tuple
    refine sl_tupX pins s σ H _ v vl vu lo hi sl Q I rx hs pl pu ⟨a, xs, rfl, h1, fun hw => ?_, fun _ p o hp ho => q _ _ (same_new hp) (Gd.newT hp ho (fr p hp) (gd_cut g1) (Nat.le_trans (cutD_len _ _ _) l1))⟩
    rw [g1.length] at hw
    rw [cut_whole hw] at q
    refine q _ H (Same.refl H) ?_
    rcases gx with gx | ⟨_, _, _, _, e, _⟩ | ⟨_, _, _, _, _, e, _⟩
    · exact gx
    · cases e
    · cases e
  · split at hz
    · rename_i hl
      cases hz
      rw [gx.str] at rx
      exact sl_str pins s σ H _ v vl vu lo hi sl Q I rx hs pl pu ⟨_, rfl, lim_line hl, q _ H (Same.refl H) (.str _)⟩
    · cases hz
  · cases hz
/-- a part of a slice -/
abbrev O0f := Rho → R (Option Int)
def roNone : O0f := fun _ => .ok none
def roSome (f : E0f) : O0f := fun ρ => (f ρ).bind fun
  | .int i => .ok (some i)
  | _ => .bad
def tPO (G : Gc) (T : Tk) (W : WX) (f : O0f) : TO := fun σ H Q => ∃ O ρ, EnvOk G T O ρ σ H ∧ match f ρ with
  | .ok o => ∀ H', Gr T H H' → Q o H'
  | .exc c => ∀ H', Gr T H H' → exW G W c σ H'
  | .bad => False
theorem PO.of {X : Cx} {e : Option Expr} {t t' : TO} (h : PO X e t) (i : ∀ σ H Q, t' σ H Q → t σ H Q) : PO X e t' := ⟨fun pins s σ H Q I z => h.run pins s σ H Q I (i σ H Q z)⟩
theorem ppo_none : PO X none (tPO (gc X) T W roNone) := PO.of po_none fun σ H Q ⟨O, ρ, E, z⟩ => z H (Gr.refl E.tabs)
theorem ppo_some (h : PP X T W e f) : PO X (some e) (tPO (gc X) T W (roSome f)) := PO.of (po_some h) fun σ H Q ⟨O, ρ, E, z⟩ => ⟨O, ρ, E, by
  unfold roSome at z
  cases hf : f ρ with
  | bad => rw [hf] at z; exact z
  | exc c => rw [hf] at z; exact z
  | ok d =>
    rw [hf] at z
    cases d with
    | int i =>
      intro v H1 s1 g1
      cases g1
      exact ⟨i, rfl, z H1 s1⟩
    | _ => exact (show False from z).elim⟩
def rSl (f : E0f) (lo hi : O0f) : E0f := fun ρ => (f ρ).bind fun x => (lo ρ).bind fun l => (hi ρ).bind fun u => dSl x l u
theorem pp_sl {lo hi : Option Expr} {fl fh : O0f} {p2 : Pos} (he : PQ X T W e f) (hl : PO X lo (tPO (gc X) T W fl)) (hh : PO X hi (tPO (gc X) T W fh)) : PP X T W (.Subscript e (.Slice lo hi none p2) pos) (rSl f fl fh) := PE.of (pe_slice sl_D he hl hh) fun σ H Q ⟨O, ρ, E, z⟩ => ⟨O, ρ, E, by
  unfold rSl at z
  cases hf : f ρ with
  | bad => rw [hf] at z; exact z
  | exc c => rw [hf] at z; exact z
  | ok d =>
    rw [hf] at z
    intro v H1 s1 g1
    refine ⟨O, ρ, E.same s1, ?_⟩
    simp only [R.bind_ok] at z
    cases hg : fl ρ with
    | bad => rw [hg] at z; exact z
    | exc c => rw [hg] at z; exact fun H' s' => z H' (s1.trans s')
    | ok l =>
      rw [hg] at z
      intro H2 s2
      refine ⟨O, ρ, E.same (s1.trans s2), ?_⟩
      simp only [R.bind_ok] at z
      cases hk : fh ρ with
      | bad => rw [hk] at z; exact z
      | exc c => rw [hk] at z; exact fun H' s' => z H' ((s1.trans s2).trans s')
      | ok u =>
        rw [hk] at z
        intro H3 s3
        simp only [R.bind_ok] at z
        cases ho : dSl d l u with
        | bad => rw [ho] at z; exact z.elim
        | exc c => exact absurd ho (by unfold dSl; split <;> first | (intro z; cases z) | (split <;> (intro z; cases z)))
        | ok r =>
          rw [ho] at z
          exact ⟨O, d, r, (E.same ((s1.trans s2).trans s3)).fresh, GT.ext (s2.trans s3).ex g1, ho, fun v H' s' g => z v H' (((s1.trans s2).trans s3).then s') g⟩⟩
end
end Rf

/-! Rf.E: built-ins of one argument, isinstance, targets, what is walked, comprehensions. -/
namespace Rf
open PySem PySem.Spec PyProof.Rows L2 LamX
/-! ### built-ins of one argument -/
def Cb1 (X : Cx) (callee : Value) (f : D → R D) : Prop := CallR X callee fun xs H Q => ∃ (x : V) (O : Own) (d z : D), xs = [x] ∧ (∀ a, H a = none → O a = none) ∧ GT X.K O H x d ∧ f d = .ok z ∧ ∀ v H', Same H H' → Gd X.K O H' v z → Q v H'
def dLen : D → R D
  | .list ds => .ok (.int ds.length)
  | .tuple ds => .ok (.int ds.length)
  | .str z => if z.length ≤ LIM then .ok (.int z.length) else .bad
  | _ => .bad
def boolsOf : List D → Option (List Bool)
  | [] => some []
  | .bool b :: r => (boolsOf r).map (b :: ·)
  | _ :: _ => none
def dAll : D → R D
  | .list ds => match boolsOf ds with
    | some bs => .ok (.bool (bs.all id))
    | none => .bad
  | _ => .bad
def dAny : D → R D
  | .list ds => match boolsOf ds with
    | some bs => .ok (.bool (bs.any id))
    | none => .bad
  | _ => .bad
def dTuple : D → R D
  | .list ds => .ok (.tuple ds)
  | .tuple ds => .ok (.tuple ds)
  | _ => .bad
def dList : D → R D
  | .list ds => .ok (.list ds)
  | .tuple ds => .ok (.list ds)
  | _ => .bad
def dSum : D → R D
  | .list ds => match intsOf ds with
    | some ns => .ok (.int ns.sum)
    | none => .bad
  | _ => .bad
theorem nex_dLen (x : D) (c : Str) : dLen x ≠ .exc c := by unfold dLen; split <;> first | (intro z; cases z) | (split <;> (intro z; cases z))
theorem nex_dAll (x : D) (c : Str) : dAll x ≠ .exc c := by unfold dAll; split <;> first | (intro z; cases z) | (split <;> (intro z; cases z))
theorem nex_dAny (x : D) (c : Str) : dAny x ≠ .exc c := by unfold dAny; split <;> first | (intro z; cases z) | (split <;> (intro z; cases z))
theorem nex_dTuple (x : D) (c : Str) : dTuple x ≠ .exc c := by unfold dTuple; split <;> (intro z; cases z)
section
variable {X : Cx} {K : PySem.W.Frag} {O : Own} {H : Hp}
theorem gd_bools : ∀ {xs : List V} {ds : List D} {bs : List Bool}, GdAll K O H xs ds → boolsOf ds = some bs → xs = bs.map V.bl
  | _, _, _, .nil, h => by cases h; rfl
  | _, _, ns, .cons (d := d) (ds := ds) a b, h => by
    cases d with
    | bool i =>
      cases a
      simp only [boolsOf, Option.map_eq_some_iff] at h
      obtain ⟨ms, h1, rfl⟩ := h
      rw [gd_bools b h1]
      rfl
    | _ => simp [boolsOf] at h
theorem cb_len : Cb1 X (.builtin "len") dLen := by
  intro pins s σ H xs us Q I r h
  obtain ⟨x, O, d, z, rfl, fr, gx, hz, q⟩ := h
  unfold dLen at hz
  split at hz
  · cases hz
    obtain ⟨a, xs, rfl, h1, g1, l1⟩ := gx.list
    refine call_len pins s σ H _ us Q I r ⟨_, xs.length, rfl, .inl ⟨xs, SqL.of h1, rfl⟩, q _ H (Same.refl H) ?_⟩
    rw [g1.length]
    exact .int _
  · cases hz
    obtain ⟨a, xs, rfl, h1, g1, l1⟩ := gx.tuple
    refine call_len pins s σ H _ us Q I r ⟨_, xs.length, rfl, .inr ⟨xs, h1, rfl⟩, q _ H (Same.refl H) ?_⟩
    rw [g1.length]
    exact .int _
  · split at hz
    · rename_i hl
      cases hz
      cases gx.str
      exact call_len pins s σ H _ us Q I r ⟨_, _, rfl, ⟨lim_line hl, rfl⟩, q _ H (Same.refl H) (.int _)⟩
    · cases hz
  · cases hz
theorem cb_all (hc : X.calm = true) : Cb1 X (.builtin "all") dAll := by
  intro pins s σ H xs us Q I r h
  obtain ⟨x, O, d, z, rfl, fr, gx, hz, q⟩ := h
  unfold dAll at hz
  split at hz
  · split at hz
    · rename_i e1
      cases hz
      obtain ⟨a, xs, rfl, h1, g1, l1⟩ := gx.list
      rw [gd_bools g1 e1] at h1
      exact cr_all hc pins s σ H _ us Q I r ⟨a, _, rfl, SqL.of h1, q _ H (Same.refl H) (.bl _)⟩
    · cases hz
  · cases hz
theorem cb_any (hc : X.calm = true) : Cb1 X (.builtin "any") dAny := by
  intro pins s σ H xs us Q I r h
  obtain ⟨x, O, d, z, rfl, fr, gx, hz, q⟩ := h
  unfold dAny at hz
  split at hz
  · split at hz
    · rename_i e1
      cases hz
      obtain ⟨a, xs, rfl, h1, g1, l1⟩ := gx.list
      rw [gd_bools g1 e1] at h1
      exact cr_any hc pins s σ H _ us Q I r ⟨a, _, rfl, SqL.of h1, q _ H (Same.refl H) (.bl _)⟩
    · cases hz
  · cases hz
theorem cb_tuple : Cb1 X (.type "tuple") dTuple := by
  intro pins s σ H xs us Q I r h
  obtain ⟨x, O, d, z, rfl, fr, gx, hz, q⟩ := h
  unfold dTuple at hz
  split at hz
  · cases hz
    obtain ⟨a, xs, rfl, h1, g1, l1⟩ := gx.list
    exact call_tuple_ofX pins s σ H _ us Q I r ⟨a, xs, rfl, .inl ⟨SqL.of h1, fun p o hp ho => q _ _ (same_new hp) (Gd.newT hp ho (fr p hp) g1 l1)⟩⟩
  · cases hz
    obtain ⟨a, xs, rfl, h1, g1, l1⟩ := gx.tuple
    refine call_tuple_ofX pins s σ H _ us Q I r ⟨a, xs, rfl, .inr ⟨h1, q _ H (Same.refl H) ?_⟩⟩
    rcases gx with gx | ⟨_, _, _, _, e, _⟩ | ⟨_, _, _, _, _, e, _⟩
    · exact gx
    · cases e
    · cases e
  · cases hz
end
section
variable {X : Cx} {T : Tk} {W : WX} {e a b c : Expr} {es : List Expr} {pos p : Pos} {f g : E0f} {fs : A0f} {x : Str}
theorem one_arg' {op : D → R D} {σ : L2.St} {H : Hp} {Q : VK} (hne : ∀ x c, op x ≠ .exc c) (h : tP (gc X) T W (r1 op f) σ H Q) :
    tCB (fun xs H Q => ∃ (x : V) (O : Own) (d z : D), xs = [x] ∧ (∀ a, H a = none → O a = none) ∧ GT X.K O H x d ∧ op d = .ok z ∧ ∀ v H', Same H H' → Gd X.K O H' v z → Q v H') (tCons (tQ (gc X) T W f) tNil) σ H Q := by
  obtain ⟨O, ρ, E, z⟩ := one (X := X) (T := T) (W := W) (fa := f) hne h
  refine ⟨O, ρ, E, ?_⟩
  cases hf : f ρ with
  | bad => rw [hf] at z; exact z
  | exc c => rw [hf] at z; exact z
  | ok d =>
    rw [hf] at z
    intro x H1 s1 g1
    obtain ⟨O, d, r, fr, g2, ho, q⟩ := z x H1 s1 g1
    exact ⟨x, O, d, r, rfl, fr, g2, ho, q⟩
theorem pp_b1 {id : String} {op : D → R D} (hc : Cb1 X (.builtin id) op) (hne : ∀ x c, op x ≠ .exc c) (hg : Gl X x) (hm : X.mg x = none) (hv : bootBuiltins x = some (.builtin id)) (ha : PQ X T W a f) (hn : x ≠ "__name__" := by decide) (hdb : (x == ("__debug__" : Str)) = false := by decide)
    (he : starEach [a] X.env = (false, eval a X.env) :: starEach [] X.env := by rfl) : PP X T W (.Call (.Name x p) [a] [] pos) (r1 op f) :=
  PE.of (pe_callB hc hg hm hv (pa_cons ha pa_nil he) hn hdb he (by rfl)) fun σ H Q h => one_arg' hne h
theorem pp_t1 {id : String} {op : D → R D} (hc : Cb1 X (.type id) op) (hne : ∀ x c, op x ≠ .exc c) (hg : Gl X x) (hm : X.mg x = none) (hv : bootBuiltins x = some (.type id)) (ha : PQ X T W a f) (hn : x ≠ "__name__" := by decide) (hdb : (x == ("__debug__" : Str)) = false := by decide)
    (he : starEach [a] X.env = (false, eval a X.env) :: starEach [] X.env := by rfl) : PP X T W (.Call (.Name x p) [a] [] pos) (r1 op f) :=
  PE.of (pe_callTy hc hg hm hv (pa_cons ha pa_nil he) hn hdb he (by rfl)) fun σ H Q h => one_arg' hne h
end
/-! ### isinstance of a built-in type -/
def tyD : D → String
  | .none => "NoneType"
  | .bool _ => "bool"
  | .int _ => "int"
  | .str _ => "str"
  | .list _ => "list"
  | .tuple _ => "tuple"
  | .dict _ => "dict"
def isDict : D → Bool
  | .dict _ => true
  | _ => false
def dIsi (t : String) (d : D) : R D := if isDict d = true then .bad else match kitB (tyD d) t with
  | some b => .ok (.bool b)
  | none => .bad
def isInt : D → Bool
  | .int _ => true
  | .bool _ => true
  | _ => false
def isBool : D → Bool
  | .bool _ => true
  | _ => false
def isStr : D → Bool
  | .str _ => true
  | _ => false
def isTuple : D → Bool
  | .tuple _ => true
  | _ => false
theorem gt_ty {K : PySem.W.Frag} {O : Own} {H : Hp} {x : V} {d : D} (g : GT K O H x d) (hd : ¬ isDict d = true) : TyX K H x (.type (tyD d)) := by
  rcases g with g | ⟨a, xs, ds, rfl, rfl, h, _⟩ | ⟨a, ks, xs, ds, rfl, rfl, h, _⟩
  · cases g with
    | non => exact .base .non
    | bl b => exact .base (.bl b)
    | int i => exact .base (.int i)
    | str z => exact .base (.str z)
    | lst q _ _ => exact .base (.lst q.1)
    | tup q _ _ =>
      rcases q with ⟨o, _, q⟩ | ⟨⟨o, its, n, h1, h2, _⟩, _⟩
      · exact .fTuple q.1
      · exact .kTuple h1 h2
    | dic q _ _ _ => exact absurd rfl hd
  · exact .base (.lst h)
  · exact absurd rfl hd
section
variable {X : Cx} {T : Tk} {W : WX} {e a b c : Expr} {es : List Expr} {pos p p2 : Pos} {f g : E0f} {fs : A0f} {x t : Str}
theorem pp_isi {ty : String} (hm : X.mg "isinstance" = none) (hg : Gl X "isinstance") (ht : X.mg t = none) (gt : Gl X t) (bt : bootBuiltins t = some (.type ty)) (ha : PQ X T W a f)
    (hn : t ≠ "__name__" := by decide) (hdb : (t == ("__debug__" : Str)) = false := by decide)
    (he : starEach (a :: [.Name t p2]) X.env = (false, eval a X.env) :: starEach [.Name t p2] X.env := by rfl) :
    PP X T W (.Call (.Name "isinstance" p) [a, .Name t p2] [] pos) (r1 (dIsi ty) f) :=
  PE.of (pe_callB call_isi hg hm (by decide +kernel) (pa_cons ha (pa_cons (pe_bltn (v := .ty ty) gt ht bt rfl hn hdb) pa_nil (by rfl)) he) (by decide) (by decide) he (by rfl)) fun σ H Q h => by
    have hne : ∀ x c, dIsi ty x ≠ .exc c := fun x c => by unfold dIsi; split <;> first | (intro z; cases z; done) | (split <;> (intro z; cases z))
    obtain ⟨O, ρ, E, z⟩ := one (X := X) (T := T) (W := W) (fa := f) hne h
    refine ⟨O, ρ, E, ?_⟩
    cases hf : f ρ with
    | bad => rw [hf] at z; exact z
    | exc c => rw [hf] at z; exact z
    | ok d =>
      rw [hf] at z
      intro x H1 s1 g1
      obtain ⟨O, d, r, fr, g2, ho, q⟩ := z x H1 s1 g1
      unfold dIsi at ho
      split at ho
      · cases ho
      · rename_i hd
        split at ho
        · rename_i b hb
          cases ho
          exact ⟨x, .ty ty, _, _, b, rfl, .ty ty, gt_ty g2 hd, kit_ty hb, q _ H1 (Same.refl H1) (.bl b)⟩
        · cases ho
end
end Rf

/-! Rf.F: targets, what is walked, comprehensions. -/
namespace Rf
open PySem PySem.Spec PyProof.Rows L2 LamX
/-! ### targets -/
abbrev Tg := D → Rho → Option Rho
abbrev Tgs := List D → Rho → Option Rho
def tgV (i : Nat) : Tg := fun d ρ => some (ρ.set i (some (.dat d)))
def tgNil : Tgs := fun ds ρ => match ds with
  | [] => some ρ
  | _ :: _ => none
def tgCons (g : Tg) (gs : Tgs) : Tgs := fun ds ρ => match ds with
  | [] => none
  | d :: r => (g d ρ).bind (gs r)
def tgT (gs : Tgs) : Tg := fun d ρ => match d with
  | .tuple ds => gs ds ρ
  | _ => none
/-- only the slots vs differ -/
def Only (σ σ' : L2.St) (vs : List Nat) : Prop := σ'.length = σ.length ∧ ∀ i, i ∉ vs → σ'[i]? = σ[i]?
theorem Only.refl {σ : L2.St} {vs : List Nat} : Only σ σ vs := ⟨rfl, fun _ _ => rfl⟩
theorem Only.trans {σ σ1 σ2 : L2.St} {vs ws : List Nat} (a : Only σ σ1 vs) (b : Only σ1 σ2 ws) : Only σ σ2 (vs ++ ws) :=
  ⟨b.1.trans a.1, fun i h => (b.2 i fun z => h (List.mem_append_right _ z)).trans (a.2 i fun z => h (List.mem_append_left _ z))⟩
theorem wipe_get {σ : L2.St} {i : Nat} : ∀ {vs : List Nat}, (wipe σ vs)[i]? = if i ∈ vs ∧ i < σ.length then some none else σ[i]?
  | [] => by
    unfold wipe
    rw [if_neg]
    intro z
    cases z.1
  | v :: vs => by
    unfold wipe
    rw [List.getElem?_set, wipe_length]
    by_cases h : v = i
    · subst h
      by_cases hl : v < σ.length
      · rw [if_pos rfl, if_pos hl, if_pos ⟨List.mem_cons_self, hl⟩]
      · rw [if_pos rfl, if_neg hl, if_neg (fun z => hl z.2)]
        exact (List.getElem?_eq_none (by omega)).symm
    · rw [if_neg h, wipe_get (vs := vs)]
      by_cases hm : i ∈ vs ∧ i < σ.length
      · rw [if_pos hm, if_pos ⟨List.mem_cons_of_mem _ hm.1, hm.2⟩]
      · rw [if_neg hm, if_neg]
        rintro ⟨z, hl⟩
        rcases List.mem_cons.mp z with z | z
        · exact h z.symm
        · exact hm ⟨z, hl⟩
theorem Only.wipe {σ σ' : L2.St} {vs ws : List Nat} (o : Only σ σ' vs) (h : ∀ i ∈ vs, i ∈ ws) : wipe σ' ws = wipe σ ws := by
  refine List.ext_getElem? fun i => ?_
  rw [wipe_get, wipe_get, o.1]
  by_cases hm : i ∈ ws ∧ i < σ.length
  · rw [if_pos hm, if_pos hm]
  · rw [if_neg hm, if_neg hm]
    by_cases hv : i ∈ vs
    · have hl : ¬ i < σ.length := fun z => hm ⟨h i hv, z⟩
      rw [List.getElem?_eq_none (by rw [o.1]; omega), List.getElem?_eq_none (by omega)]
    · exact o.2 i hv
theorem wipe_idem {σ : L2.St} {vs : List Nat} : L2.wipe (L2.wipe σ vs) vs = L2.wipe σ vs := by
  refine List.ext_getElem? fun k => ?_
  have e : (L2.wipe σ vs)[k]? = if k ∈ vs ∧ k < σ.length then some none else σ[k]? := wipe_get
  rw [wipe_get, wipe_length, e]
  by_cases hm : k ∈ vs ∧ k < σ.length
  · rw [if_pos hm, if_pos hm]
  · rw [if_neg hm, if_neg hm]
def gD (G : Gc) (T : Tk) (g : Tg) (vs : List Nat) : TG := fun v σ H Q => ∃ O ρ d, EnvOk G T O ρ σ H ∧ Gd G.K O H v d ∧ match g d ρ with
  | some ρ' => ∀ σ', EnvOk G T O ρ' σ' H → Only σ σ' vs → Q σ' H
  | none => False
def gDs (G : Gc) (T : Tk) (g : Tgs) (vs : List Nat) : TGs := fun us σ H Q => ∃ O ρ ds, EnvOk G T O ρ σ H ∧ GdAll G.K O H us ds ∧ match g ds ρ with
  | some ρ' => ∀ σ', EnvOk G T O ρ' σ' H → Only σ σ' vs → Q σ' H
  | none => False
theorem PG.of {X : Cx} {e : Expr} {t t' : TG} (h : PG X e t) (i : ∀ v σ H Q, t' v σ H Q → t v σ H Q) : PG X e t' := ⟨fun pins s σ H v u Q I r z => h.run pins s σ H v u Q I r (i v σ H Q z)⟩
theorem PGs.of {X : Cx} {e : List Expr} {t t' : TGs} (h : PGs X e t) (i : ∀ v σ H Q, t' v σ H Q → t v σ H Q) : PGs X e t' := ⟨fun pins s σ H v u Q I r z => h.run pins s σ H v u Q I r (i v σ H Q z)⟩
section
variable {X : Cx} {T : Tk} {W : WX} {e a b c : Expr} {es : List Expr} {pos p : Pos} {f : E0f} {x : Str} {g : Tg} {gs : Tgs} {vs ws : List Nat}
theorem pgd_name (i : Nat) (hN : X.N.Nodup) (hk : i ∉ T.ks.map (·.1) := by first | exact List.not_mem_nil | simp) (hi : X.N[i]? = some x := by rfl) (hx : Loc X.env.scope x := by first | exact Or.inl rfl | exact Or.inr rfl) (hf : X.fn x = true ∨ X.env.scope.names.lookup x = some .local := by first | exact .inl rfl | exact .inr rfl | assumption) :
    PG X (.Name x pos) (gD (gc X) T (tgV i) [i]) := PG.of (pg_name (i := i) hN hi hx hf) fun v σ H Q ⟨O, ρ, d, E, gv, z⟩ =>
  z (σ.set i (some v)) (E.set gv hk) ⟨List.length_set, fun j h => List.getElem?_set_ne (fun q => h (by rw [q]; exact List.mem_cons_self))⟩
theorem pgds_nil : PGs X [] (gDs (gc X) T tgNil []) := PGs.of pgs_nil fun v σ H Q ⟨O, ρ, ds, E, gv, z⟩ => by
  cases gv with
  | nil => exact ⟨rfl, z σ E Only.refl⟩
  | cons => exact z.elim
theorem pgds_cons (h1 : PG X e (gD (gc X) T g vs)) (h2 : PGs X es (gDs (gc X) T gs ws)) (hs : (assignEach (e :: es) X.env).map (·.2) = assign e X.env :: (assignEach es X.env).map (·.2) := by rfl) :
    PGs X (e :: es) (gDs (gc X) T (tgCons g gs) (vs ++ ws)) := PGs.of (pgs_cons h1 h2 hs) fun v σ H Q ⟨O, ρ, ds, E, gv, z⟩ => by
  cases gv with
  | nil => exact z.elim
  | @cons v vr d dr gv gr =>
    refine ⟨v, vr, rfl, O, ρ, d, E, gv, ?_⟩
    unfold tgCons at z
    dsimp only at z
    cases hg : g d ρ with
    | none => rw [hg] at z; exact z
    | some ρ1 =>
      rw [hg] at z
      intro σ1 E1 o1
      refine ⟨O, ρ1, dr, E1, gr, ?_⟩
      simp only [Option.bind_some] at z
      cases hg2 : gs dr ρ1 with
      | none => rw [hg2] at z; exact z
      | some ρ2 =>
        rw [hg2] at z
        exact fun σ2 E2 o2 => z σ2 E2 (o1.trans o2)
/-- a tuple target; its number of targets -/
theorem pgd_tup {k n : Nat} (hc : X.calm = true) (h : PGs X es (gDs (gc X) T gs vs)) (hl : ∀ ds ρ ρ', gs ds ρ = some ρ' → ds.length = n) (hn : (assignEach es X.env).length = n := by rfl) (hst : (assignEach es X.env).findIdx? (·.1) = none := by rfl) :
    PG X (.Tuple es k pos) (gD (gc X) T (tgT gs) vs) := PG.of (pg_tup (n := n) hc h hn hst) fun v σ H Q ⟨O, ρ, d, E, gv, z⟩ => by
  unfold tgT at z
  cases d with
  | tuple ds =>
    cases gv with
    | tup q ga l =>
      dsimp only at z
      cases hg : gs ds ρ with
      | none => rw [hg] at z; exact z.elim
      | some ρ' =>
        refine ⟨_, _, rfl, q.sq, ?_, O, ρ, ds, E, ga, z⟩
        rw [ga.length]
        exact hl _ _ _ hg
  | _ => exact (show False from z).elim
theorem tl_nil : ∀ ds ρ ρ', tgNil ds ρ = some ρ' → ds.length = 0 := fun ds ρ ρ' h => by
  unfold tgNil at h
  split at h
  · rfl
  · cases h
theorem tl_cons {n : Nat} (h : ∀ ds ρ ρ', gs ds ρ = some ρ' → ds.length = n) : ∀ ds ρ ρ', tgCons g gs ds ρ = some ρ' → ds.length = n + 1 := fun ds ρ ρ' z => by
  unfold tgCons at z
  split at z
  · cases z
  · rename_i d r
    cases hg : g d ρ with
    | none => rw [hg] at z; cases z
    | some ρ1 =>
      rw [hg] at z
      rw [List.length_cons, h _ _ _ z]
/-! ### what is walked -/
abbrev I0f := Rho → R (List D)
/-- J gives the data ds, one by one, from H1 on -/
def WalkD (K : PySem.W.Frag) (O : Own) (J : It) (ds : List D) (H1 : Hp) : Prop := ds.length ≤ LIM ∧ ∃ (Gp : Hp → Prop) (Y : Nat → Hp → V → Hp → Prop), Walk J ds.length Gp Y ∧ (∀ O' H', Le O H1 O' H' → Gp H') ∧
  ∀ i H x H' O', i < ds.length → Le O H1 O' H → (∀ a, H a = none → O' a = none) → Y i H x H' → Same H H' ∧ ∃ d, ds[i]? = some d ∧ Gd K O' H' x d
def iP (G : Gc) (T : Tk) (W : WX) (f : I0f) : TI := fun σ H R => ∃ O ρ, EnvOk G T O ρ σ H ∧ match f ρ with
  | .ok ds => ∀ J H1, Gr T H H1 → WalkD G.K O J ds H1 → R J H1
  | .exc c => ∀ H', Gr T H H' → exW G W c σ H'
  | .bad => False
theorem PI.of {X : Cx} {tg e : Expr} {t t' : TI} (h : PI X tg e t) (i : ∀ σ H R, t' σ H R → t σ H R) : PI X tg e t' := ⟨fun pins s σ H R I z => h.run pins s σ H R I (i σ H R z)⟩
def dItems : D → R (List D)
  | .list ds => .ok ds
  | .tuple ds => .ok ds
  | _ => .bad
def riS (f : E0f) : I0f := fun ρ => (f ρ).bind dItems
theorem walkD_list {K : PySem.W.Frag} {O : Own} {H : Hp} {v : V} {ds : List D} (g : Gd K O H v (.list ds)) : ∃ a, v = .ref a ∧ (∃ xs, SqL K H a xs) ∧ WalkD K O (Itl K a) ds H := by
  cases g with
  | @lst a xs _ q ga l =>
    refine ⟨a, rfl, ⟨xs, SqL.of q.1⟩, l, fun H' => SqL K H' a xs, YAt xs, ?_, fun O' H' le => SqL.of (q.le le).1, fun i H2 x H' O' hi le fr y => ?_⟩
    · rw [← ga.length]
      exact walk_list
    · obtain ⟨e, hx⟩ := y
      subst e
      obtain ⟨d, hd, gd⟩ := ga.getV hx
      exact ⟨Same.refl _, d, hd, gd.le le⟩
theorem walkD_tuple {K : PySem.W.Frag} {O : Own} {H : Hp} {v : V} {ds : List D} (g : Gd K O H v (.tuple ds)) : ∃ a, v = .ref a ∧ (∃ xs, SqT K H a xs) ∧ WalkD K O (Itt K a) ds H := by
  cases g with
  | @tup a xs _ q ga l =>
    refine ⟨a, rfl, ⟨xs, q.sq⟩, l, fun H' => SqT K H' a xs, YAt xs, ?_, fun O' H' le => (q.le le).sq, fun i H2 x H' O' hi le fr y => ?_⟩
    · rw [← ga.length]
      exact walk_tup
    · obtain ⟨e, hx⟩ := y
      subst e
      obtain ⟨d, hd, gd⟩ := ga.getV hx
      exact ⟨Same.refl _, d, hd, gd.le le⟩
theorem pip_seq {tg : Expr} (h : PP X T W e f) : PI X tg e (iP (gc X) T W (riS f)) := ⟨fun pins s σ H Rr I ⟨O, ρ, E, z⟩ => by
  unfold riS at z
  cases hf : f ρ with
  | bad => rw [hf] at z; exact z.elim
  | exc c =>
    rw [hf] at z
    exact (pi_list h).run pins s σ H Rr I ⟨O, ρ, E, by rw [hf]; exact z⟩
  | ok d =>
    rw [hf] at z
    simp only [R.bind_ok] at z
    cases d with
    | list ds =>
      refine (pi_list h).run pins s σ H Rr I ⟨O, ρ, E, by
        rw [hf]
        intro v H1 s1 g1
        obtain ⟨a, rfl, hx, w⟩ := walkD_list g1
        exact ⟨a, rfl, hx, z _ H1 s1 w⟩⟩
    | tuple ds =>
      refine (pi_tup h).run pins s σ H Rr I ⟨O, ρ, E, by
        rw [hf]
        intro v H1 s1 g1
        obtain ⟨a, rfl, hx, w⟩ := walkD_tuple g1
        exact ⟨a, rfl, hx, z _ H1 s1 w⟩⟩
    | _ => exact (show False from z).elim⟩
def intsD (lo : Int) (n : Nat) : List D := (List.range n).map fun i => .int (lo + (i : Nat))
def riR1 (f : E0f) : I0f := fun ρ => (f ρ).bind fun
  | .int n => if -(LIM : Int) ≤ n ∧ n ≤ LIM then .ok (intsD 0 n.toNat) else .bad
  | _ => .bad
def riR2 (f g : E0f) : I0f := fun ρ => (f ρ).bind fun x => (g ρ).bind fun y => match x, y with
  | .int a, .int b => if -(LIM : Int) ≤ a ∧ a ≤ LIM ∧ b ≤ LIM ∧ -(LIM : Int) ≤ b ∧ b - a ≤ LIM then .ok (intsD a (b - a).toNat) else .bad
  | _, _ => .bad
theorem walkD_range {K : PySem.W.Frag} {O : Own} {H : Hp} {lo : Int} {n : Nat} (h : n ≤ LIM) : WalkD K O (Itr lo n) (intsD lo n) H := by
  have e : (intsD lo n).length = n := by simp [intsD]
  refine ⟨by rw [e]; exact h, fun _ => True, YFn fun i => .int (lo + i), ?_, fun _ _ _ => trivial, fun i H2 x H' O' hi le fr y => ?_⟩
  · rw [e]
    exact walk_range
  · obtain ⟨e1, e2⟩ := y
    subst e1
    subst e2
    refine ⟨Same.refl _, .int (lo + (i : Nat)), ?_, .int _⟩
    rw [e] at hi
    simp [intsD, hi]
theorem pip_range1 {tg : Expr} (hg : Gl X "range") (hm : X.mg "range" = none) (ha : PP X T W a f) (hs : starEach [a] X.env = [(false, eval a X.env)] := by rfl) : PI X tg (.Call (.Name "range" p) [a] [] pos) (iP (gc X) T W (riR1 f)) :=
  PI.of (pi_range1 hg hm (pa_cons ha pa_nil hs) hs) fun σ H Rr ⟨O, ρ, E, z⟩ => ⟨O, ρ, E, by
    unfold riR1 at z
    cases hf : f ρ with
    | bad => rw [hf] at z; exact z
    | exc c => rw [hf] at z; exact z
    | ok d =>
      rw [hf] at z
      simp only [R.bind_ok] at z
      intro v H1 s1 g1
      cases d with
      | int n =>
        dsimp only at z
        by_cases hn : -(LIM : Int) ≤ n ∧ n ≤ LIM
        · rw [if_pos hn] at z
          cases g1
          have h1 : -100000 ≤ n := hn.1
          have h2 : n ≤ 100000 := hn.2
          exact ⟨n, rfl, by omega, by omega, z _ H1 s1 (walkD_range (by show n.toNat ≤ 100000; omega))⟩
        · rw [if_neg hn] at z
          exact z.elim
      | _ => exact (show False from z).elim⟩
theorem pip_range2 {tg : Expr} {g : E0f} (hg : Gl X "range") (hm : X.mg "range" = none) (ha : PP X T W a f) (hb : PP X T W b g) (hs : starEach [a, b] X.env = [(false, eval a X.env), (false, eval b X.env)] := by rfl) (hs2 : starEach [b] X.env = [(false, eval b X.env)] := by rfl) : PI X tg (.Call (.Name "range" p) [a, b] [] pos) (iP (gc X) T W (riR2 f g)) :=
  PI.of (pi_range2 hg hm (pa_cons ha (pa_cons hb pa_nil hs2) (by rw [hs, hs2])) hs hs2) fun σ H Rr ⟨O, ρ, E, z⟩ => ⟨O, ρ, E, by
    unfold riR2 at z
    cases hf : f ρ with
    | bad => rw [hf] at z; exact z
    | exc c => rw [hf] at z; exact z
    | ok d =>
      rw [hf] at z
      simp only [R.bind_ok] at z
      intro v H1 s1 g1
      refine ⟨O, ρ, E.same s1, ?_⟩
      cases hg : g ρ with
      | bad => rw [hg] at z; exact z
      | exc c => rw [hg] at z; exact fun H' s' => z H' (s1.trans s')
      | ok e =>
        rw [hg] at z
        simp only [R.bind_ok] at z
        intro w H2 s2 g2
        cases d with
        | int n =>
          cases e with
          | int m =>
            dsimp only at z
            by_cases hn : -(LIM : Int) ≤ n ∧ n ≤ LIM ∧ m ≤ LIM ∧ -(LIM : Int) ≤ m ∧ m - n ≤ LIM
            · rw [if_pos hn] at z
              cases g1
              cases g2
              have h1 : -100000 ≤ n := hn.1
              have h2 : n ≤ 100000 := hn.2.1
              have h3 : m ≤ 100000 := hn.2.2.1
              have h4 : -100000 ≤ m := hn.2.2.2.1
              have h5 : m - n ≤ 100000 := hn.2.2.2.2
              exact ⟨n, m, rfl, ⟨by omega, by omega, by omega, by omega⟩, z _ H2 (s1.trans s2) (walkD_range (by show (m - n).toNat ≤ 100000; omega))⟩
            · rw [if_neg hn] at z
              exact z.elim
          | _ => exact (show False from z).elim
        | _ => exact (show False from z).elim⟩
/-- zip of two lists or two tuples -/
def zipD (xs ys : List D) : List D := (xs.zip ys).map fun p => .tuple [p.1, p.2]
def dZip : D → D → R (List D)
  | .list xs, .list ys => .ok (zipD xs ys)
  | .tuple xs, .tuple ys => .ok (zipD xs ys)
  | _, _ => .bad
def riZip (f g : E0f) : I0f := fun ρ => (f ρ).bind fun x => (g ρ).bind fun y => dZip x y
theorem zipD_len (xs ys : List D) : (zipD xs ys).length = min xs.length ys.length := by simp [zipD]
theorem zipD_get {xs ys : List D} {i : Nat} {x y : D} (h1 : xs[i]? = some x) (h2 : ys[i]? = some y) : (zipD xs ys)[i]? = some (.tuple [x, y]) := by
  have e : (xs.zip ys)[i]? = some (x, y) := List.getElem?_zip_eq_some.mpr ⟨h1, h2⟩
  simp only [zipD, List.getElem?_map, e, Option.map_some]
theorem pair_new {K : PySem.W.Frag} {O' : Own} {H2 H' : Hp} {x : V} {xs ys : List V} {ds es : List D} {i : Nat} (ga : GdAll K O' H2 xs ds) (gb : GdAll K O' H2 ys es) (fr : ∀ a, H2 a = none → O' a = none) (y : YPairX (fun i => xs[i]?) (fun i => ys[i]?) i H2 x H') :
    Same H2 H' ∧ ∃ d, (zipD ds es)[i]? = some d ∧ Gd K O' H' x d := by
  obtain ⟨T, u, w, o, rfl, hT, ho, rfl, h1, h2⟩ := y
  obtain ⟨d, hd, gd⟩ := ga.getV h1
  obtain ⟨e, he, ge⟩ := gb.getV h2
  exact ⟨same_new hT, _, zipD_get hd he, Gd.newT hT ho (fr T hT) (.cons gd (.cons ge .nil)) (by show 2 ≤ 100000; omega)⟩
theorem pip_zip {g : E0f} {elts : List Expr} {kk : Nat} {tpos : Pos} (hg : Gl X "zip") (hm : X.mg "zip" = none) (ha : PP X T W a f) (hb : PP X T W b g) (hs : starEach [a, b] X.env = (false, eval a X.env) :: starEach [b] X.env := by rfl) (hs2 : starEach [b] X.env = [(false, eval b X.env)] := by rfl) :
    PI X (.Tuple elts kk tpos) (.Call (.Name "zip" p) [a, b] [] pos) (iP (gc X) T W (riZip f g)) :=
  PI.of (pi_zipX hg hm (pa_cons ha (pa_cons hb pa_nil hs2) hs) hs (by rw [hs2]; rfl)) fun σ H Rr ⟨O, ρ, E, z⟩ => ⟨O, ρ, E, by
    unfold riZip at z
    cases hf : f ρ with
    | bad => rw [hf] at z; exact z
    | exc c => rw [hf] at z; exact z
    | ok d =>
      rw [hf] at z
      simp only [R.bind_ok] at z
      intro v H1 s1 g1
      refine ⟨O, ρ, E.same s1, ?_⟩
      cases hg : g ρ with
      | bad => rw [hg] at z; exact z
      | exc c => rw [hg] at z; exact fun H' s' => z H' (s1.trans s')
      | ok e =>
        rw [hg] at z
        simp only [R.bind_ok] at z
        intro w H2 s2 g2
        have g1 := g1.ext s2.ex
        unfold dZip at z
        cases d with
        | list ds =>
          cases e with
          | list es =>
            cases g1 with
            | @lst a xs _ q ga l =>
              cases g2 with
              | @lst b ys _ q' gb l' =>
                refine ⟨a, b, xs, ys, rfl, .inl ⟨SqL.of q.1, SqL.of q'.1, z _ H2 (s1.trans s2) ⟨?_, fun H' => SqL X.K H' a xs ∧ SqL X.K H' b ys, _, walk_zipX ?_, fun O' H' le => ⟨SqL.of (q.le le).1, SqL.of (q'.le le).1⟩, fun i H2 x H' O' hi le fr y => pair_new (ga.le le) (gb.le le) fr y⟩⟩⟩
                · rw [zipD_len]
                  omega
                · rw [zipD_len, ga.length, gb.length]
          | _ => exact (show False from z).elim
        | tuple ds =>
          cases e with
          | tuple es =>
            cases g1 with
            | @tup a xs _ q ga l =>
              cases g2 with
              | @tup b ys _ q' gb l' =>
                refine ⟨a, b, xs, ys, rfl, .inr ⟨q.sq, q'.sq, z _ H2 (s1.trans s2) ⟨?_, fun H' => SqT X.K H' a xs ∧ SqT X.K H' b ys, _, walk_zipTX ?_, fun O' H' le => ⟨(q.le le).sq, (q'.le le).sq⟩, fun i H2 x H' O' hi le fr y => pair_new (ga.le le) (gb.le le) fr y⟩⟩⟩
                · rw [zipD_len]
                  omega
                · rw [zipD_len, ga.length, gb.length]
          | _ => exact (show False from z).elim
        | _ => cases e <;> exact (show False from z).elim⟩
/-! ### comprehensions -/
def wipeR (ρ : Rho) : List Nat → Rho
  | [] => ρ
  | v :: vs => (wipeR ρ vs).set v none
theorem wipeR_length (ρ : Rho) : ∀ vs : List Nat, (wipeR ρ vs).length = ρ.length
  | [] => rfl
  | v :: vs => by unfold wipeR; rw [List.length_set, wipeR_length ρ vs]
theorem wipeR_some {ρ : Rho} {i : Nat} {x : Sl} : ∀ {vs : List Nat}, (wipeR ρ vs)[i]? = some (some x) → ρ[i]? = some (some x) ∧ i ∉ vs
  | [], h => ⟨h, by simp⟩
  | v :: vs, h => by
    unfold wipeR at h
    by_cases hi : v = i
    · subst hi
      by_cases hv : v < (wipeR ρ vs).length
      · rw [List.getElem?_set_self hv] at h; cases h
      · rw [List.getElem?_eq_none (by simpa using hv)] at h; cases h
    · rw [List.getElem?_set_ne hi] at h
      obtain ⟨h1, h2⟩ := wipeR_some h
      exact ⟨h1, by simp only [List.mem_cons, not_or]; exact ⟨fun e => hi e.symm, h2⟩⟩
theorem EnvOk.wipe {G : Gc} {O : Own} {ρ : Rho} {σ : L2.St} {H : Hp} (E : EnvOk G T O ρ σ H) (vs : List Nat) (hk : ∀ i ∈ vs, i ∉ T.ks.map (·.1)) : EnvOk G T O (wipeR ρ vs) (L2.wipe σ vs) H where
  slot := fun i s h => by
    obtain ⟨h1, h2⟩ := wipeR_some h
    obtain ⟨v, h3, h4⟩ := E.slot i s h1
    refine ⟨v, ?_, h4⟩
    rw [wipe_get, if_neg (fun z => h2 z.1)]
    exact h3
  tabs := E.tabs
  own_ := E.own_
  len := by rw [wipeR_length, wipe_length]; exact E.len
  kept := fun p hp => by
    rw [wipe_get, if_neg (fun z => hk _ z.1 (List.mem_map.mpr ⟨p, hp, rfl⟩))]
    exact E.kept p hp
theorem EnvOk.own {G : Gc} {O : Own} {ρ : Rho} {σ : L2.St} {H H' : Hp} {p : Addr} {j : Nat} (E : EnvOk G T O ρ σ H) (hp : ¬ nt H p) (e : Gr T H H') (hq : nt H' p) : EnvOk G T (own1 O p (some j)) ρ σ H' where
  slot := fun i s h => by
    obtain ⟨v, h3, h4⟩ := E.slot i s h
    exact ⟨v, h3, (h4.own hp (E.own_.not hp)).ext e.ex⟩
  tabs := e.tb
  own_ := fun a k h => by
    by_cases ha : a = p
    · subst ha
      exact hq
    · rw [own1_ne ha] at h
      exact (E.own_ a k h).ext e.ex
  len := E.len
  kept := E.kept
/-- the items that stay, reckoned -/
def compL (ρ : Rho) (g : Tg) (ft fe : E0f) : List D → R (List D)
  | [] => .ok []
  | d :: r => match g d ρ with
    | none => .bad
    | some ρ1 => match ft ρ1 with
      | .ok (.bool true) => (match fe ρ1 with
        | .ok y => (compL ρ g ft fe r).bind fun ys => .ok (y :: ys)
        | _ => .bad)
      | .ok (.bool false) => compL ρ g ft fe r
      | _ => .bad
def rComp (fi : I0f) (g : Tg) (ft fe : E0f) (own : List Nat) : E0f := fun ρ => (fi ρ).bind fun ds => (compL (wipeR ρ own) g ft fe ds).bind fun ys => .ok (.list ys)

def rYes : E0f := fun _ => .ok (.bool true)
theorem pts_yes : PTs X [] (tPT (gc X) T W rYes) := ⟨fun pins s σ H Q I ⟨O, ρ, E, z⟩ => pts_nil.run pins s σ H Q I (z H (Gr.refl E.tabs))⟩
/-- a list that was not there before, nobody else's -/
def NewL (K : PySem.W.Frag) (O : Own) (H H' : Hp) (v : V) (ds : List D) : Prop := ∃ a xs, v = .ref a ∧ ¬ nt H a ∧ H' a = some (.lst xs) ∧ (∀ j : Nat, GdAll K (own1 O a (some j)) H' xs ds) ∧ ds.length ≤ LIM
theorem NewL.gd {K : PySem.W.Frag} {O : Own} {H H' : Hp} {v : V} {ds : List D} (fr : Fr O H) (n : NewL K O H H' v ds) : Gd K O H' v (.list ds) := by
  obtain ⟨a, xs, rfl, h1, h2, h3, h4⟩ := n
  refine .lst ⟨h2, fr.not h1⟩ ((h3 0).less fun b hb => ?_) h4
  by_cases q : b = a
  · rw [q]; exact fr.not h1
  · rw [own1_ne q] at hb
    exact hb
def tF (G : Gc) (T : Tk) (W : WX) (f : E0f) : TE := fun σ H Q => ∃ O ρ, EnvOk G T O ρ σ H ∧ match f ρ with
  | .ok (.list ds) => ∀ v H', Gr T H H' → NewL G.K O H H' v ds → Q v H'
  | .exc c => ∀ H', Gr T H H' → exW G W c σ H'
  | _ => False
def isL (f : E0f) : Prop := ∀ ρ d, f ρ = .ok d → ∃ ds, d = .list ds
theorem tP_tF {G : Gc} {f : E0f} {σ : L2.St} {H : Hp} {Q : VK} (hl : isL f) (h : tP G T W f σ H Q) : tF G T W f σ H Q := by
  obtain ⟨O, ρ, E, z⟩ := h
  refine ⟨O, ρ, E, ?_⟩
  cases hf : f ρ with
  | bad => rw [hf] at z; exact z
  | exc c => rw [hf] at z; exact z
  | ok d =>
    rw [hf] at z
    obtain ⟨ds, rfl⟩ := hl ρ d hf
    exact fun v H' s n => z v H' s (n.gd E.own_)
theorem isL_comp {fi : I0f} {g : Tg} {ft fe : E0f} {own : List Nat} : isL (rComp fi g ft fe own) := fun ρ d h => by
  unfold rComp at h
  cases hf : fi ρ with
  | bad => rw [hf] at h; cases h
  | exc c => rw [hf] at h; cases h
  | ok ds =>
    rw [hf] at h
    simp only [R.bind_ok] at h
    cases hc : compL (wipeR ρ own) g ft fe ds with
    | bad => rw [hc] at h; cases h
    | exc c => rw [hc] at h; cases h
    | ok ys => rw [hc] at h; cases h; exact ⟨ys, rfl⟩
theorem comp_readF {fi : I0f} {g : Tg} {ft fe : E0f} {own vs : List Nat} {σ : L2.St} {H : Hp} {Q : VK} {G : Gc} (hv : ∀ i ∈ vs, i ∈ own) (hk : ∀ i ∈ own, i ∉ T.ks.map (·.1)) (h : tF G T W (rComp fi g ft fe own) σ H Q) :
    tLc (iP G T W fi) (gD G T g vs) (tPT G T (fun _ _ _ _ => False) ft) (tP G T (fun _ _ _ _ => False) fe) own σ H Q := by
  obtain ⟨O, ρ, E, z⟩ := h
  refine ⟨O, ρ, E, ?_⟩
  unfold rComp at z
  cases hf : fi ρ with
  | bad => rw [hf] at z; exact z
  | exc c => rw [hf] at z; exact z
  | ok ds =>
    rw [hf] at z
    simp only [R.bind_ok] at z
    cases hc : compL (wipeR ρ own) g ft fe ds with
    | bad => rw [hc] at z; exact z.elim
    | exc c =>
      exfalso
      have no : ∀ (l : List D), compL (wipeR ρ own) g ft fe l ≠ .exc c := by
        intro l
        induction l with
        | nil => intro q; cases q
        | cons d r ih =>
          intro q
          unfold compL at q
          split at q
          · cases q
          · split at q
            · split at q
              · cases hr : compL (wipeR ρ own) g ft fe r with
                | ok ys => rw [hr] at q; cases q
                | exc c' => rw [hr] at q; cases q; exact ih hr
                | bad => rw [hr] at q; cases q
              · cases q
            · exact ih q
            · cases q
      exact no ds hc
    | ok ys =>
      rw [hc] at z
      simp only [R.bind_ok] at z
      intro J H1 s1 wd D hD
      obtain ⟨hlim, Gp, Y, wk, hG, hY⟩ := wd
      have E1 : EnvOk G T O (wipeR ρ own) (L2.wipe σ own) H1 := (E.same s1).wipe own hk
      have oD : O D = none := E1.fresh D hD
      have le1 : ∀ {H2 : Hp}, Gr T H1 H2 → Le O H1 (own1 O D (some 998)) H2 := fun {H2} s2 =>
        ⟨s2.th, fun a ha _ => own1_ne fun q => ha.not (by rw [q]; exact hD), fun a o h _ t => s2.ex a o h t⟩
      refine lc_it wk (fun i H2 => ∃ acc us zs, Gr T H1 H2 ∧ H2 D = some (.lst acc) ∧ GdAll G.K (own1 O D (some 998)) H2 acc us ∧ compL (wipeR ρ own) g ft fe (ds.drop i) = .ok zs ∧ us ++ zs = ys ∧ us.length ≤ i) ?_ ?_ ?_ ?_
      · exact ⟨[], [], ys, Gr.of E1.tabs (same_new hD), upd_same, .nil, by simpa using hc, rfl, Nat.le_refl _⟩
      · rintro i H2 _ ⟨acc, us, zs, s2, _⟩
        exact hG _ _ (le1 s2)
      · rintro i x H2 H3 hi ⟨acc, us, zs, s2, hacc, ga, hz, hu, hul⟩ y
        have nD : nt H2 D := ⟨_, hacc, fun _ q => by cases q⟩
        have E2 : EnvOk G T (own1 O D (some 998)) (wipeR ρ own) (L2.wipe σ own) H2 := E1.own (nt_none hD) s2 nD
        obtain ⟨s3', d, hd, gd⟩ := hY i H2 x H3 _ hi (le1 s2) E2.fresh y
        have s3 : Gr T H2 H3 := Gr.of s2.tb s3'
        have hdr : ds.drop i = d :: ds.drop (i + 1) := by
          obtain ⟨hl, he⟩ := List.getElem?_eq_some_iff.mp hd
          rw [List.drop_eq_getElem_cons hl, he]
        rw [hdr] at hz
        unfold compL at hz
        refine ⟨_, _, d, E2.same s3, gd, ?_⟩
        cases hg : g d (wipeR ρ own) with
        | none => rw [hg] at hz; cases hz
        | some ρ1 =>
          rw [hg] at hz
          dsimp only at hz
          intro σ2 E3 o2
          refine ⟨(o2.wipe hv).trans wipe_idem, _, _, E3, ?_⟩
          · cases ht : ft ρ1 with
            | bad => rw [ht] at hz; cases hz
            | exc c => rw [ht] at hz; cases hz
            | ok tv =>
              rw [ht] at hz
              cases tv with
              | bool b =>
                intro H4 s4
                have s14 : Gr T H1 H4 := (s2.trans s3).trans s4
                have n3 : ∀ ps, HO.lst acc ≠ .tbl ps := fun ps z => by cases z
                cases b with
                | false =>
                  dsimp only at hz
                  exact iteF ⟨acc, us, zs, s14, s4.ex _ _ (s3.ex _ _ hacc n3) n3, (ga.ext s3.ex).ext s4.ex, hz, hu, by omega⟩
                | true =>
                  dsimp only at hz
                  refine iteT ⟨_, _, E3.same s4, ?_⟩
                  cases he : fe ρ1 with
                  | bad => rw [he] at hz; cases hz
                  | exc c => rw [he] at hz; cases hz
                  | ok yv =>
                    rw [he] at hz
                    dsimp only at hz
                    intro v H5 s5 gv
                    cases hr : compL (wipeR ρ own) g ft fe (ds.drop (i + 1)) with
                    | bad => rw [hr] at hz; cases hz
                    | exc c => rw [hr] at hz; cases hz
                    | ok zr =>
                      rw [hr] at hz
                      cases hz
                      have hD5 : H5 D = some (.lst acc) := s5.ex _ _ (s4.ex _ _ (s3.ex _ _ hacc n3) n3) n3
                      have s15 : Gr T H1 H5 := s14.trans s5
                      have ga5 := ((ga.ext s3.ex).ext s4.ex).ext s5.ex
                      have oo : own1 O D (some 998) D = some 998 := own1_same
                      refine ⟨acc, hD5, ?_, acc ++ [v], us ++ [yv], zr, ⟨fun b o q nt => ?_, tabs_wr s15.tb hD5 n3 (fun _ _ z => by cases z)⟩, upd_same, (ga5.append (.cons gv .nil)).wr oo, rfl, by rw [← hu, List.append_assoc]; rfl, by simp; omega⟩
                      · rw [ga5.length]
                        have h3 : ds.length ≤ 100000 := hlim
                        exact Nat.lt_of_le_of_lt (show us.length ≤ 100000 by omega) (by decide)
                      · rw [upd_ne (ne_of_none q hD)]
                        exact s15.ex _ _ q nt
              | _ => cases hz
      · rintro H2 ⟨acc, us, zs, s2, hacc, ga, hz, hu, hul⟩
        rw [List.drop_length] at hz
        cases hz
        rw [List.append_nil] at hu
        subst hu
        refine z _ H2 (s1.trans s2) ⟨D, acc, rfl, fun q => (q.ext s1.ex).not hD, hacc, fun j => ga.less fun b hb => ?_, Nat.le_trans hul hlim⟩
        by_cases q : b = D
        · rw [q, own1_same] at hb; cases hb
        · rw [own1_ne q] at hb ⊢
          exact hb
theorem comp_read {fi : I0f} {g : Tg} {ft fe : E0f} {own vs : List Nat} {σ : L2.St} {H : Hp} {Q : VK} {G : Gc} (hv : ∀ i ∈ vs, i ∈ own) (hk : ∀ i ∈ own, i ∉ T.ks.map (·.1)) (h : tP G T W (rComp fi g ft fe own) σ H Q) :
    tLc (iP G T W fi) (gD G T g vs) (tPT G T (fun _ _ _ _ => False) ft) (tP G T (fun _ _ _ _ => False) fe) own σ H Q := comp_readF hv hk (tP_tF isL_comp h)
theorem pp_lc {elt tg iter : Expr} {ifs : List Expr} {scope : Scope} {own : List (Str × Nat)} {fi : I0f} {g : Tg} {ft fe : E0f} {vs : List Nat} (hc : X.calm = true) (hN : X.N.Nodup) (hi : PI X tg iter (iP (gc X) T W fi)) (ok : BlkOk X.N X.env.scope scope own)
    (hg : ∀ (s : Shared) (H : Hp) (C : Addr) (cl : List (Str × Addr)) (fp : List Addr), PG (X.blk s H scope (compEnvC scope cl C X.env) fp) tg (gD (gc X) T g vs)) (ht : ∀ (s : Shared) (H : Hp) (C : Addr) (cl : List (Str × Addr)) (fp : List Addr), PTs (X.blk s H scope (compEnvC scope cl C X.env) fp) ifs (tPT (gc X) T (fun _ _ _ _ => False) ft))
    (he : ∀ (s : Shared) (H : Hp) (C : Addr) (cl : List (Str × Addr)) (fp : List Addr), PE (X.blk s H scope (compEnvC scope cl C X.env) fp) elt (tP (gc X) T (fun _ _ _ _ => False) fe)) (hv : ∀ i ∈ vs, i ∈ own.map (·.2) := by decide) (hk : ∀ i ∈ own.map (·.2), i ∉ T.ks.map (·.1) := by first | exact fun _ _ => List.not_mem_nil | simp) (hs : ∀ x, foldedSetIterable iter X.env x = pure x := by intro _; rfl) :
    PP X T W (.ListComp elt [⟨tg, iter, ifs, 0⟩] scope pos) (rComp fi g ft fe (own.map (·.2))) :=
  PE.of (pe_lc hc hN hi ok hg ht he hs) fun σ H Q h => comp_read hv hk h
end
end Rf

/-! Rf.G: statements, loops, defs and their calls. -/
namespace Rf
open PySem PySem.Spec PyProof.Rows L2 LamX
abbrev Ef := Rho → Res D
def eP (f : E0f) : Ef := fun ρ => match f ρ with
  | .ok d => .ok d ρ
  | .exc c => .exc c ρ
  | .bad => .bad
section
variable {X : Cx} {T : Tk} {W : WX} {e a b c : Expr} {es : List Expr} {pos p : Pos} {f g : E0f}
theorem pee (h : PP X T W e f) : PE X e (tE (gc X) T W (eP f)) := PE.of h fun σ H Q ⟨O, ρ, E, z⟩ => ⟨O, ρ, E, by
  unfold eP at z
  cases hf : f ρ with
  | bad => rw [hf] at z; exact z
  | exc c => rw [hf] at z; exact fun H' s => z O H' s.le (E.same s)
  | ok d => rw [hf] at z; exact fun v H' s g => z v O H' s.le (E.same s) g⟩
theorem pte (h : PT X e (tPT (gc X) T W f)) : PT X e (tET (gc X) T W (eP f)) := PT.of h fun σ H Q ⟨O, ρ, E, z⟩ => ⟨O, ρ, E, by
  unfold eP at z
  cases hf : f ρ with
  | bad => rw [hf] at z; exact z
  | exc c => rw [hf] at z; exact fun H' s => z O H' s.le (E.same s)
  | ok d =>
    rw [hf] at z
    cases d with
    | bool b => exact fun H' s => z O H' s.le (E.same s)
    | _ => exact (show False from z).elim⟩
end
/-! ### statements -/
inductive Flw where
  | nx
  | rt (d : D)
  | bk
  | ct
abbrev Sf := Rho → Res Flw
def Post (G : Gc) (T : Tk) (W : WX) (De : Ends) (O : Own) (H : Hp) : Res Flw → Prop
  | .ok .nx ρ' => ∀ O' σ' H', Le O H O' H' → EnvOk G T O' ρ' σ' H' → De.nx σ' H'
  | .ok (.rt d) ρ' => ∀ v O' σ' H', Le O H O' H' → EnvOk G T O' ρ' σ' H' → Gd G.K O' H' v d → De.rt v H'
  | .ok .bk ρ' => ∀ O' σ' H', Le O H O' H' → EnvOk G T O' ρ' σ' H' → De.bk σ' H'
  | .ok .ct ρ' => ∀ O' σ' H', Le O H O' H' → EnvOk G T O' ρ' σ' H' → De.ct σ' H'
  | .exc c ρ' => ∀ O' σ' H', Le O H O' H' → EnvOk G T O' ρ' σ' H' → exW G W c σ' H'
  | .bad => False
theorem Post.le {G : Gc} {T : Tk} {W : WX} {De : Ends} {O O1 : Own} {H H1 : Hp} (l : Le O H O1 H1) : ∀ {r : Res Flw}, Post G T W De O H r → Post G T W De O1 H1 r
  | .ok .nx _, h => fun O' σ' H' l' => h O' σ' H' (l.trans l')
  | .ok (.rt _) _, h => fun v O' σ' H' l' => h v O' σ' H' (l.trans l')
  | .ok .bk _, h => fun O' σ' H' l' => h O' σ' H' (l.trans l')
  | .ok .ct _, h => fun O' σ' H' l' => h O' σ' H' (l.trans l')
  | .exc _ _, h => fun O' σ' H' l' => h O' σ' H' (l.trans l')
  | .bad, h => h
def tS (G : Gc) (T : Tk) (W : WX) (s : Sf) : TS := fun De σ H => ∃ O ρ, EnvOk G T O ρ σ H ∧ Post G T W De O H (s ρ)
abbrev PSD (X : Cx) (T : Tk) (W : WX) (st : Stmt) (s : Sf) : Prop := PS X st (tS (gc X) T W s)
abbrev PSSD (X : Cx) (T : Tk) (W : WX) (st : List Stmt) (s : Sf) : Prop := PSs X st (tS (gc X) T W s)
def sNil : Sf := fun ρ => .ok .nx ρ
def sSeq (a b : Sf) : Sf := fun ρ => (a ρ).bind fun fl ρ1 => match fl with
  | .nx => b ρ1
  | fl => .ok fl ρ1
def sAsg (e : Ef) (g : Tg) : Sf := fun ρ => (e ρ).bind fun d ρ1 => match g d ρ1 with
  | some ρ2 => .ok .nx ρ2
  | none => .bad
def sDrop (e : Ef) : Sf := fun ρ => (e ρ).bind fun _ ρ1 => .ok .nx ρ1
def sRet (e : Ef) : Sf := fun ρ => (e ρ).bind fun d ρ1 => .ok (.rt d) ρ1
def sRetN : Sf := fun ρ => .ok (.rt .none) ρ
def sIf (t : Ef) (a b : Sf) : Sf := fun ρ => (t ρ).bind fun d ρ1 => match d with
  | .bool true => a ρ1
  | .bool false => b ρ1
  | _ => .bad
def sCont : Sf := fun ρ => .ok .ct ρ
def sBrk : Sf := fun ρ => .ok .bk ρ
/-- slots forgotten ahead of a statement -/
def sFg (vs : List Nat) (s : Sf) : Sf := fun ρ => s (wipeR ρ vs)
section
variable {X : Cx} {T : Tk} {W : WX} {e a b c tg : Expr} {es : List Expr} {pos p : Pos} {st : Stmt} {sts : List Stmt} {s u : Sf} {f : Ef} {g : Tg} {vs : List Nat}
theorem EnvOk.forget {G : Gc} {O : Own} {ρ : Rho} {σ : L2.St} {H : Hp} (E : EnvOk G T O ρ σ H) (vs : List Nat) : EnvOk G T O (wipeR ρ vs) σ H := E.weak (fun i s h => (wipeR_some h).1) (wipeR_length ρ vs)
theorem pssd_nil : PSSD X T W [] sNil := PSs.of pss_nil fun De σ H ⟨O, ρ, E, z⟩ => z O σ H Le.refl E
theorem pssd_one (h : PSD X T W st s) : PSSD X T W [st] s := pss_one h
theorem pssd_cons (h1 : PSD X T W st s) (h2 : PSSD X T W sts u) : PSSD X T W (st :: sts) (sSeq s u) := PSs.of (pss_cons h1 h2) fun De σ H ⟨O, ρ, E, z⟩ => ⟨O, ρ, E, by
  unfold sSeq at z
  cases hs : s ρ with
  | bad => rw [hs] at z; exact z
  | exc c r => rw [hs] at z; exact z
  | ok fl r =>
    rw [hs] at z
    cases fl with
    | nx => exact fun O' σ' H' l' E' => ⟨O', r, E', Post.le l' z⟩
    | rt d => exact z
    | bk => exact z
    | ct => exact z⟩
theorem psd_asg (he : PE X e (tE (gc X) T W f)) (hg : PG X tg (gD (gc X) T g vs)) (hs : swapsWithSole [tg] e pos.line X.env = pure false := by rfl) (hw : swappedStores [tg] e X.env = pure none := by rfl) (h1 : (assignEach [tg] X.env).map (·.2) = [assign tg X.env] := by rfl) :
    PSD X T W (.Assign [tg] e pos) (sAsg f g) := PS.of (ps_asg he hg hs hw h1) fun De σ H ⟨O, ρ, E, z⟩ => ⟨O, ρ, E, by
  unfold sAsg at z
  cases hf : f ρ with
  | bad => rw [hf] at z; exact z
  | exc c r => rw [hf] at z; exact fun O' H' l' E' => z O' σ H' l' E'
  | ok d r =>
    rw [hf] at z
    intro v O' H' l' E' gv
    refine ⟨O', r, d, E', gv, ?_⟩
    simp only [Res.bind_ok] at z
    cases hg : g d r with
    | none => rw [hg] at z; exact z
    | some r2 => rw [hg] at z; exact fun σ' E2 _ => z O' σ' H' l' E2⟩
theorem psd_set (i : Nat) {x : Str} {pos' : Pos} (hN : X.N.Nodup) (he : PE X e (tE (gc X) T W f)) (hk : i ∉ T.ks.map (·.1) := by first | exact List.not_mem_nil | simp) (hi : X.N[i]? = some x := by rfl) (hx : Loc X.env.scope x := by first | exact Or.inl rfl | exact Or.inr rfl)
    (hs : swapsWith e (some (.Name x pos')) pos.line X.env = pure false := by rfl) (hf : X.fn x = true ∨ X.env.scope.names.lookup x = some .local := by first | exact .inl rfl | exact .inr rfl | assumption) :
    PSD X T W (.Assign [.Name x pos'] e pos) (sAsg f (tgV i)) := PS.of (ps_set (i := i) hN hi hx he hs hf) fun De σ H ⟨O, ρ, E, z⟩ => ⟨O, ρ, E, by
  unfold sAsg at z
  cases hf : f ρ with
  | bad => rw [hf] at z; exact z
  | exc c r => rw [hf] at z; exact fun O' H' l' E' => z O' σ H' l' E'
  | ok d r =>
    rw [hf] at z
    exact fun v O' H' l' E' gv => z O' _ H' l' (E'.set gv hk)⟩
theorem psd_drop (he : PE X e (tE (gc X) T W f)) (hs : swapsWith e none pos.line X.env = pure false := by rfl) : PSD X T W (.Expr e pos) (sDrop f) := PS.of (ps_expr he hs) fun De σ H ⟨O, ρ, E, z⟩ => ⟨O, ρ, E, by
  unfold sDrop at z
  cases hf : f ρ with
  | bad => rw [hf] at z; exact z
  | exc c r => rw [hf] at z; exact fun O' H' l' E' => z O' σ H' l' E'
  | ok d r => rw [hf] at z; exact fun v O' H' l' E' gv => z O' σ H' l' E'⟩
theorem psd_ret (he : PE X e (tE (gc X) T W f)) : PSD X T W (.Return (some e) pos) (sRet f) := PS.of (ps_ret he) fun De σ H ⟨O, ρ, E, z⟩ => ⟨O, ρ, E, by
  unfold sRet at z
  cases hf : f ρ with
  | bad => rw [hf] at z; exact z
  | exc c r => rw [hf] at z; exact fun O' H' l' E' => z O' σ H' l' E'
  | ok d r => rw [hf] at z; exact fun v O' H' l' E' gv => z v O' σ H' l' E' gv⟩
theorem psd_if {sb : Sf} {xs ys : List Stmt} (hc : PT X c (tET (gc X) T W f)) (ha : PSSD X T W xs s) (hb : PSSD X T W ys sb) : PSD X T W (.If c xs ys pos) (sIf f s sb) := PS.of (ps_if hc ha hb) fun De σ H ⟨O, ρ, E, z⟩ => ⟨O, ρ, E, by
  unfold sIf at z
  cases hf : f ρ with
  | bad => rw [hf] at z; exact z
  | exc c r => rw [hf] at z; exact fun O' H' l' E' => z O' σ H' l' E'
  | ok d r =>
    rw [hf] at z
    cases d with
    | bool k =>
      intro O' H' l' E'
      cases k with
      | true => exact iteT ⟨O', r, E', Post.le l' z⟩
      | false => exact iteF ⟨O', r, E', Post.le l' z⟩
    | _ => exact (show False from z).elim⟩
end
/-! ### loops -/
/-- a turn after a turn; fg: the slots that are forgotten behind each -/
def loopF (g : Tg) (body : Sf) (fg : List Nat) : List D → Rho → Res Flw
  | [], ρ => .ok .nx ρ
  | d :: r, ρ => match g d ρ with
    | none => .bad
    | some ρ1 => (body ρ1).bind fun fl ρ2 => match fl with
      | .nx => loopF g body fg r (wipeR ρ2 fg)
      | .ct => loopF g body fg r (wipeR ρ2 fg)
      | .bk => .ok .nx ρ2
      | .rt d => .ok (.rt d) ρ2
def sFor (fi : I0f) (g : Tg) (body : Sf) (fg : List Nat) : Sf := fun ρ => match fi ρ with
  | .ok ds => loopF g body fg ds ρ
  | .exc c => .exc c ρ
  | .bad => .bad
def loopW (t : Ef) (body : Sf) (fg : List Nat) : Nat → Rho → Res Flw
  | 0, _ => .bad
  | n + 1, ρ => (t ρ).bind fun d ρ1 => match d with
    | .bool true => (body ρ1).bind fun fl ρ2 => (match fl with
      | .nx => loopW t body fg n (wipeR ρ2 fg)
      | .ct => loopW t body fg n (wipeR ρ2 fg)
      | .bk => .ok .nx ρ2
      | .rt d => .ok (.rt d) ρ2)
    | .bool false => .ok .nx ρ1
    | _ => .bad
def sWhile (n : Nat) (t : Ef) (body : Sf) (fg : List Nat) : Sf := fun ρ => loopW t body fg n ρ
section
variable {X : Cx} {T : Tk} {W : WX} {e a b c tg : Expr} {es : List Expr} {pos p : Pos} {st : Stmt} {sts : List Stmt} {s u : Sf} {f : Ef} {g : Tg} {vs fg : List Nat}
theorem psd_for {iter : Expr} {fi : I0f} (hp : PassesOwn (model X.prog X.w) X.A X.env X.xe) (hc : X.calm = true) (hi : PI X tg iter (iP (gc X) T W fi)) (hg : PG X tg (gD (gc X) T g vs)) (hb : PSSD X T W sts s) (hs : ∀ x, foldedSetIterable iter X.env x = pure x := by intro _; rfl) :
    PSD X T W (.For tg iter sts [] pos) (sFor fi g s fg) := PS.of (ps_for hp hc hi hg hb hs) fun De σ H ⟨O, ρ, E, z⟩ => ⟨O, ρ, E, by
  unfold sFor at z
  cases hf : fi ρ with
  | bad => rw [hf] at z; exact z
  | exc c => rw [hf] at z; exact fun H' s' => z O σ H' s'.le (E.same s')
  | ok ds =>
    rw [hf] at z
    intro J H1 s1 wd
    obtain ⟨hlim, Gp, Y, wk, hG, hY⟩ := wd
    refine for_it wk (fun i σ2 H2 => ∃ O2 ρ2, Le O H1 O2 H2 ∧ EnvOk (gc X) T O2 ρ2 σ2 H2 ∧ Post (gc X) T W De O2 H2 (loopF g s fg (ds.drop i) ρ2)) ?_ ?_ ?_ ?_
    · exact ⟨O, ρ, Le.refl, E.same s1, by rw [List.drop_zero]; exact Post.le s1.le z⟩
    · rintro i σ2 H2 _ ⟨O2, ρ2, l2, _⟩
      exact hG _ _ l2
    · rintro i x σ2 H2 H3 hi ⟨O2, ρ2, l2, E2, z2⟩ y
      obtain ⟨s3', d, hd, gd⟩ := hY i H2 x H3 _ hi l2 E2.fresh y
      have s3 : Gr T H2 H3 := Gr.of E2.tabs s3'
      have hdr : ds.drop i = d :: ds.drop (i + 1) := by
        obtain ⟨hl, he⟩ := List.getElem?_eq_some_iff.mp hd
        rw [List.drop_eq_getElem_cons hl, he]
      rw [hdr] at z2
      unfold loopF at z2
      refine ⟨O2, ρ2, d, E2.same s3, gd, ?_⟩
      cases hg : g d ρ2 with
      | none => rw [hg] at z2; exact z2.elim
      | some ρ3 =>
        rw [hg] at z2
        dsimp only at z2
        intro σ3 E3 _
        refine ⟨O2, ρ3, E3, ?_⟩
        cases hb : s ρ3 with
        | bad => rw [hb] at z2; exact z2
        | exc c r => rw [hb] at z2; exact Post.le s3.le z2
        | ok fl r =>
          rw [hb] at z2
          simp only [Res.bind_ok] at z2
          have z3 := Post.le (O1 := O2) (H1 := H3) s3.le z2
          cases fl with
          | nx => exact fun O' σ' H' l' E' => ⟨O', wipeR r fg, l2.trans (s3.le.trans l'), E'.forget fg, Post.le l' z3⟩
          | ct => exact fun O' σ' H' l' E' => ⟨O', wipeR r fg, l2.trans (s3.le.trans l'), E'.forget fg, Post.le l' z3⟩
          | bk => exact z3
          | rt d => exact z3
    · rintro σ2 H2 ⟨O2, ρ2, l2, E2, z2⟩
      rw [List.drop_length] at z2
      exact z2 O2 σ2 H2 Le.refl E2⟩
theorem psd_while {n : Nat} (hp : PassesOwn (model X.prog X.w) X.A X.env X.xe) (hc : PT X c (tET (gc X) T W f)) (hb : PSSD X T W sts s) : PSD X T W (.While c sts [] pos) (sWhile n f s fg) := PS.of (ps_while hp hc hb) fun De σ H ⟨O, ρ, E, z⟩ => by
  refine ⟨fun m σ2 H2 => ∃ O2 ρ2, EnvOk (gc X) T O2 ρ2 σ2 H2 ∧ Post (gc X) T W De O2 H2 (loopW f s fg m ρ2), ⟨n, O, ρ, E, z⟩, ?_⟩
  rintro m σ2 H2 ⟨O2, ρ2, E2, z2⟩
  cases m with
  | zero => exact (show False from z2).elim
  | succ m =>
    unfold loopW at z2
    refine ⟨O2, ρ2, E2, ?_⟩
    cases hf : f ρ2 with
    | bad => rw [hf] at z2; exact z2
    | exc c r => rw [hf] at z2; exact fun O' H' l' E' => z2 O' σ2 H' l' E'
    | ok d r =>
      rw [hf] at z2
      cases d with
      | bool k =>
        intro O' H' l' E'
        have z3 := Post.le l' z2
        cases k with
        | false => exact iteF (z3 O' σ2 H' Le.refl E')
        | true =>
          refine iteT ⟨fun σ' H' => ∃ O3 ρ3, EnvOk (gc X) T O3 ρ3 σ' H' ∧ Post (gc X) T W De O3 H' (loopW f s fg m ρ3), fun σ' H' h => ⟨m, Nat.lt_succ_self m, h⟩, O', r, E', ?_⟩
          simp only [Res.bind_ok] at z3
          cases hb : s r with
          | bad => rw [hb] at z3; exact z3
          | exc c r2 => rw [hb] at z3; exact z3
          | ok fl r2 =>
            rw [hb] at z3
            simp only [Res.bind_ok] at z3
            cases fl with
            | nx => exact fun O3 σ3 H3 l3 E3 => ⟨O3, wipeR r2 fg, E3.forget fg, Post.le l3 z3⟩
            | ct => exact fun O3 σ3 H3 l3 E3 => ⟨O3, wipeR r2 fg, E3.forget fg, Post.le l3 z3⟩
            | bk => exact z3
            | rt d => exact z3
      | _ => exact (show False from z2).elim
end
/-! ### defs -/
/-- a def that writes nothing of its caller's, as a function of data -/
def fnD (n : Nat) (body : Sf) : List D → R D := fun ds => match body (ds.map (fun d => some (.dat d)) ++ List.replicate (n - ds.length) none) with
  | .ok (.rt d) _ => .ok d
  | .ok .nx _ => .ok .none
  | .exc c _ => .exc c
  | _ => .bad
def spD (G : Gc) (tb : List (Addr × Str)) (n : Nat) (m : List D → R D) : Sp := fun vs H Q E => vs.length = n ∧ ∃ O ds, GdAll G.K O H vs ds ∧ Tabs tb H ∧ Fr O H ∧ match m ds with
  | .ok d => ∀ v H', Gr ⟨tb, []⟩ H H' → Gd G.K O H' v d → Q v H'
  | .exc c => ∀ H', Gr ⟨tb, []⟩ H H' → E ((G.mg c).getD .none) none H'
  | .bad => False
section
variable {P : Program} {w : World} {K : PySem.W.Frag} {mg : Str → Option Value} {base : Heap}
/-- every owner another frame's -/
def foreign (O : Own) : Own := fun a => (O a).map fun _ => 999
theorem foreign_none {O : Own} {a : Addr} : foreign O a = none ↔ O a = none := by
  unfold foreign
  cases O a <;> simp
theorem foreign_not {O : Own} (a : Addr) : ¬ mine (foreign O) a := fun ⟨i, e, l⟩ => by
  unfold foreign at e
  cases h : O a with
  | none => rw [h] at e; cases e
  | some j => rw [h] at e; simp at e; omega
theorem Fr.foreign {O : Own} {H : Hp} (f : Fr O H) : Fr (foreign O) H := fun a k h => by
  cases e : O a with
  | none => rw [foreign_none.mpr e] at h; cases h
  | some k => exact f a k e
theorem rep_none {α : Type u} {n i : Nat} {s : α} (h : (List.replicate n (none : Option α))[i]? = some (some s)) : False := by
  rw [List.getElem?_replicate] at h
  split at h <;> cases h
theorem start_slots {O : Own} {H : Hp} : ∀ {vs : List V} {ds : List D}, GdAll K O H vs ds → ∀ (n i : Nat) (s : Sl), (ds.map (fun d => some (Sl.dat d)) ++ List.replicate n none)[i]? = some (some s) → ∃ v d, s = .dat d ∧ (vs.map some ++ List.replicate n none)[i]? = some (some v) ∧ Gd K O H v d
  | _, _, .nil, n, i, s, h => by
    rw [List.map_nil, List.nil_append] at h
    exact (rep_none h).elim
  | _, _, .cons (v := v) a b, n, 0, s, h => by
    simp at h
    subst h
    exact ⟨v, _, rfl, rfl, a⟩
  | _, _, .cons a b, n, i + 1, s, h => by
    obtain ⟨v, d, h0, h1, h2⟩ := start_slots b n i s (by simpa using h)
    exact ⟨v, d, h0, by simpa using h1, h2⟩
/-- a def by its body -/
theorem ok_fn {x qual : Str} {params : Arguments} {body : List Stmt} {scope : Scope} {kws : List (Str × V)} {f : Addr} {fd : FuncData} {N ps : List Str} {k : Nat} {tb : List (Addr × Str)} {s : Sf} {m : List D → R D} (F : FunD K x qual params body scope [] kws f fd) (S : FnScope N ps scope) (hm : m = fnD N.length s)
    (hb : ∀ (cdv : Value) (A : Around) (outer : List Env) (s0 : Shared) (H : Hp) (E : XK), Room k (A.deeper (envOfC qual scope s0.heap.objs.size f cdv)) →
      PSSD (cxOf (L2.CX P w) P w K mg base N qual scope f cdv A outer s0 H E) ⟨tb, []⟩ (fun cls d _ H => E cls d H) body s) :
    FnOk P w K mg base (L2.CX P w) (k + 1) f fd ps (spD ⟨P, w, K, mg⟩ tb ps.length m) := by
  refine F.ok S (fun vs H Q E h => h.1) fun cdv A outer s0 H vs Q E hr h => ⟨_, hb cdv A outer s0 H E hr, ?_⟩
  obtain ⟨hl, O, ds, g, ht, fr, z⟩ := h
  have hN : vs.length = ds.length := g.length
  have g' : GdAll K (foreign O) H vs ds := g.less fun b h => foreign_none.mpr h
  refine ⟨foreign O, ds.map (fun d => some (Sl.dat d)) ++ List.replicate (N.length - ds.length) none, ⟨fun i s h => ?_, ht, Fr.foreign fr, ?_, fun p hp => nomatch hp⟩, ?_⟩
  · obtain ⟨v, d, rfl, h1, h2⟩ := start_slots g' _ _ _ h
    refine ⟨v, ?_, h2⟩
    unfold L2.start
    rw [hN]
    exact h1
  · unfold L2.start
    simp [hN]
  · rw [hm] at z
    unfold fnD at z
    have out : ∀ {O' : Own} {ρ' : Rho} {σ' : L2.St} {H' : Hp}, Le (foreign O) H O' H' → EnvOk ⟨P, w, K, mg⟩ ⟨tb, []⟩ O' ρ' σ' H' → Gr ⟨tb, []⟩ H H' ∧ ∀ b, O' b = none → O b = none := fun {O' ρ' σ' H'} l E' => by
      refine ⟨⟨l.all fun a => foreign_not a, E'.tabs⟩, fun b hb => ?_⟩
      cases hO : O b with
      | none => rfl
      | some k =>
        have e := l.own b (fr b k hO) (foreign_not b)
        rw [hb] at e
        exact hO.symm.trans (foreign_none.mp e.symm)
    cases hs : s (ds.map (fun d => some (Sl.dat d)) ++ List.replicate (N.length - ds.length) none) with
    | bad => rw [hs] at z; exact z
    | exc c r =>
      rw [hs] at z
      exact fun O' σ' H' l E' => z H' (out l E').1
    | ok fl r =>
      rw [hs] at z
      cases fl with
      | nx => exact fun O' σ' H' l E' => z _ H' (out l E').1 .non
      | rt d => exact fun v O' σ' H' l E' gv => z v H' (out l E').1 (gv.less (out l E').2)
      | bk => exact (show False from z).elim
      | ct => exact (show False from z).elim
end
/-! ### calls -/
def rCall (m : List D → R D) (a : A0f) : E0f := fun ρ => (a ρ).bind m
section
variable {X : Cx} {T : Tk} {W : WX} {e : Expr} {es : List Expr} {pos p : Pos} {f : Addr} {fd : FuncData} {ps : List Str} {k n : Nat} {m : List D → R D} {fs : A0f} {x : Str}
theorem call_read {σ : L2.St} {H : Hp} {Q : VK} {vs : List V} {H1 : Hp} {O : Own} {ds : List D} {ρ : Rho} (E : EnvOk (gc X) T O ρ σ H) (s1 : Gr T H H1) (g1 : GdAll X.K O H1 vs ds) (hn : vs.length = n) (z : match m ds with
    | .ok d => ∀ v H', Gr T H H' → Gd X.K O H' v d → Q v H'
    | .exc c => ∀ H', Gr T H H' → exW (gc X) W c σ H'
    | .bad => False) : spD (gc X) T.tb n m vs H1 Q (WE W σ) := by
  refine ⟨hn, O, ds, g1, s1.tb, (E.same s1).own_, ?_⟩
  cases hm : m ds with
  | bad => rw [hm] at z; exact z
  | exc c => rw [hm] at z; exact fun H' s' => z H' (s1.trans ⟨s'.ex, s'.tb⟩)
  | ok d => rw [hm] at z; exact fun v H' s' gv => z v H' (s1.trans ⟨s'.ex, s'.tb⟩) gv
/-- f(e, ..) -/
theorem pp_call (F : FnOk X.prog X.w X.K X.mg X.base (L2.CX X.prog X.w) k f fd ps (spD (gc X) T.tb n m)) (hr : Room k X.A) (hg : Gl X x) (hm : X.mg x = some (.ref f)) (hk : PySem.W.keepIn X.K (.ref f) = true) (hb : L2.Binds X.K fd ps []) (tk : Takes X W) (ha : PPA X T W (e :: es) fs) (hn : n = (e :: es).length)
    (hl : ∀ ρ ds, fs ρ = .ok ds → ds.length = (e :: es).length)
    (hdb : (x == ("__debug__" : Str)) = false := by decide) (he : starEach (e :: es) X.env = (false, eval e X.env) :: starEach es X.env := by rfl) (hpl : (backTo pos (starEach es X.env)).any (·.1) = false := by rfl) :
    PP X T W (.Call (.Name x p) (e :: es) [] pos) (rCall m fs) := PE.of (pe_callS F hr hg hm hk hb (fun σ => passAt tk σ) ha hdb he hpl) fun σ H Q ⟨O, ρ, E, z⟩ => ⟨O, ρ, E, by
  unfold rCall at z
  cases hf : fs ρ with
  | bad => rw [hf] at z; exact z
  | exc c => rw [hf] at z; exact z
  | ok ds =>
    rw [hf] at z
    intro vs H1 s1 g1
    exact call_read E s1 g1 (by rw [g1.length, hl _ _ hf, hn]) z⟩
theorem al_nil : ∀ (ρ : Rho) ds, raNil ρ = .ok ds → ds.length = 0 := fun ρ ds h => by cases h; rfl
theorem al_cons {g : E0f} {n : Nat} (h : ∀ ρ ds, fs ρ = .ok ds → ds.length = n) : ∀ ρ ds, raCons g fs ρ = .ok ds → ds.length = n + 1 := fun ρ ds z => by
  unfold raCons at z
  cases hg : g ρ with
  | bad => rw [hg] at z; cases z
  | exc c => rw [hg] at z; cases z
  | ok d =>
    rw [hg] at z
    cases hf : fs ρ with
    | bad => rw [hf] at z; cases z
    | exc c => rw [hf] at z; cases z
    | ok r =>
      rw [hf] at z
      cases z
      rw [List.length_cons, h _ _ hf]
end
/-! ### raise -/
def sRaise (c : Str) : Sf := fun ρ => .exc c ρ
section
variable {X : Cx} {T : Tk} {W : WX} {pos p p2 pos2 : Pos} {j : Nat} {C : Addr} {x msg : Str}
theorem psd_raise (hc : X.calm = true) (tk : Takes X W) (gC : X.mg x = some (.ref C)) (q : PySem.W.excIn X.K C [.type "ValueError", .type "Exception", .type "BaseException", .type "object"] "ValueError.__new__" = true) (kC : PySem.W.keepIn X.K (.ref C) = true)
    (h1 : PySem.W.subIn X.K (.ref C) (.type "BaseException") = some true) (h2 : PySem.W.typeIn X.K (.ref C) = some (.type "type")) (hg : Gl X x) (hdb : (x == ("__debug__" : Str)) = false := by decide) :
    PSD X T W (.Raise (some (.Call (.Name x p) [.Constant (.str msg) j p2] [] pos2)) none pos) (sRaise x) := PS.of (ps_raise hc tk (pmk_own PySem.F.excBase_ValueError q gC kC (raises_own h1 h2) hg hdb)) fun De σ H ⟨O, ρ, E, z⟩ => by
  have z2 := z O σ H Le.refl E
  unfold exW at z2
  rw [show (gc X).mg x = some (.ref C) from gC] at z2
  exact z2
end
end Rf

/-! Rf.H: defs that are called, by name; keywords; constants of the module; own errors. -/
namespace Rf
open PySem PySem.Spec PyProof.Rows L2 LamX
/-- the def of the name x keeps m, at the level k -/
structure CalD (P : Program) (w : World) (K : PySem.W.Frag) (mg : Str → Option Value) (base : Heap) (tb : List (Addr × Str)) (x : Str) (ps : List Str) (k : Nat) (m : List D → R D) : Prop where
  ex : ∃ (f : Addr) (fd : FuncData), FnOk P w K mg base (L2.CX P w) k f fd ps (spD ⟨P, w, K, mg⟩ tb ps.length m) ∧ mg x = some (.ref f) ∧ PySem.W.keepIn K (.ref f) = true ∧ L2.Binds K fd ps [] ∧
    ∀ (s : Shared) (us ws : List Value) (ks : List Str), us.length + ks.length = ps.length → ws.length = ks.length → ps.drop us.length = ks → BindsTo s fd ⟨us, ks.zip ws⟩ (ps.zip (us ++ ws))
section
variable {P : Program} {w : World} {K : PySem.W.Frag} {mg : Str → Option Value} {base : Heap} {tb : List (Addr × Str)} {x : Str} {params : Arguments} {body : List Stmt} {scope : Scope} {f : Addr} {fd : FuncData} {N ps : List Str} {k : Nat} {m : List D → R D} {s : Sf}
theorem cal_of (F : FunD K x x params body scope [] [] f fd) (S : FnScope N ps scope) (hg : mg x = some (.ref f)) (hm : m = fnD N.length s)
    (hb : ∀ (cdv : Value) (A : Around) (outer : List Env) (s0 : Shared) (H : Hp) (E : XK), Room k (A.deeper (envOfC x scope s0.heap.objs.size f cdv)) →
      PSSD (cxOf (L2.CX P w) P w K mg base N x scope f cdv A outer s0 H E) ⟨tb, []⟩ (fun cls d _ H => E cls d H) body s)
    (h1 : ∀ (kV doc pm : Value) (an : Option Addr) (cdv ct : Value) (us ws : List Value) (ks : List Str), us.length + ks.length = ps.length → ws.length = ks.length → ps.drop us.length = ks → bindArgs (PySem.W.fnOf x x params body scope .none kV doc pm an cdv ct) ⟨us, ks.zip ws⟩ = pure (ps.zip (us ++ ws))) :
    CalD P w K mg base tb x ps (k + 1) m := by
  refine ⟨f, fd, ok_fn F S hm hb, hg, F.kp, F.bindsN fun kV doc pm an cdv ct us hl => ?_, fun s us ws ks a1 a2 a3 => ?_⟩
  · have e := h1 kV doc pm an cdv ct us [] [] (by simpa using hl) rfl (by rw [hl]; simp)
    simpa using e
  · obtain ⟨oc, od, dV, kV, doc, pm, an, cdv, ct, osl, rfl, lk, hcd, hD, hK⟩ := F.ex
    rcases hD with ⟨_, rfl⟩ | ⟨e, _⟩
    · exact .of_eq (h1 kV doc pm an cdv ct us ws ks a1 a2 a3)
    · exact absurd rfl e
theorem CalD.mono {j : Nat} (c : CalD P w K mg base tb x ps k m) (h : k ≤ j) : CalD P w K mg base tb x ps j m := by
  obtain ⟨f, fd, F, r⟩ := c.ex
  exact ⟨f, fd, F.mono h, r⟩
end
section
variable {X : Cx} {T : Tk} {W : WX} {e : Expr} {es : List Expr} {pos p : Pos} {ps : List Str} {k j : Nat} {m : List D → R D} {fs : A0f} {x : Str}
theorem pp_c (c : CalD X.prog X.w X.K X.mg X.base T.tb x ps k m) (hr : Room j X.A) (hk : k ≤ j) (hg : Gl X x) (tk : Takes X W) (ha : PPA X T W (e :: es) fs) (hl : ∀ ρ ds, fs ρ = .ok ds → ds.length = (e :: es).length) (hn : ps.length = (e :: es).length := by rfl)
    (hdb : (x == ("__debug__" : Str)) = false := by decide) (he : starEach (e :: es) X.env = (false, eval e X.env) :: starEach es X.env := by rfl) (hpl : (backTo pos (starEach es X.env)).any (·.1) = false := by rfl) :
    PP X T W (.Call (.Name x p) (e :: es) [] pos) (rCall m fs) := by
  obtain ⟨f, fd, F, h1, h2, h3, _⟩ := c.ex
  exact pp_call F (hr.mono hk) hg h1 h2 h3 tk ha hn hl hdb he hpl
/-! ### keywords -/
abbrev PPK (X : Cx) (T : Tk) (W : WX) (ks : List Keyword) (f : A0f) : Prop := PK X ks (tPA (gc X) T W f)
theorem PK.of {X : Cx} {e : List Keyword} {t t' : TA} (h : PK X e t) (i : ∀ σ H Q, t' σ H Q → t σ H Q) : PK X e t' := ⟨fun pos pins s σ H Q I z => h.run pos pins s σ H Q I (i σ H Q z)⟩
/-- the positional ones, then the keywords' -/
def raApp (a b : A0f) : A0f := fun ρ => (a ρ).bind fun xs => (b ρ).bind fun ys => .ok (xs ++ ys)
/-! ### constants of the module -/
theorem pp_gint {i : Int} (h : ∃ t, X.mg x = some (.int i t)) (hg : Gl X x) (hdb : (x == ("__debug__" : Str)) = false := by decide) : PP X T W (.Name x pos) (rC (.int i)) := by
  obtain ⟨t, h⟩ := h
  exact PE.of (pe_glob (v := .int i) hg h ⟨t, rfl⟩ hdb) fun σ H Q ⟨O, ρ, E, z⟩ => z _ H (Gr.refl E.tabs) (.int i)
theorem pp_gstrs {zs : List Str} (h : ∃ a, X.mg x = some (.ref a) ∧ KTx X.K a (zs.map V.str)) (hl : zs.length ≤ LIM) (hg : Gl X x) (hdb : (x == ("__debug__" : Str)) = false := by decide) : PP X T W (.Name x pos) (rC (.tuple (zs.map PyData.str))) := by
  obtain ⟨a, h, k⟩ := h
  have g : ∀ (O : Own) (H : Hp) (l : List Str), GdAll X.K O H (l.map V.str) (l.map PyData.str) := fun O H l => by
    induction l with
    | nil => exact .nil
    | cons y r ih => exact .cons (.str y) ih
  exact PE.of (pe_glob (v := .ref a) hg h rfl hdb) fun σ H Q ⟨O, ρ, E, z⟩ => z _ H (Gr.refl E.tabs) (.tup (.inr k) (g O H zs) (by simpa using hl))
end
/-! ### own errors -/
structure ExD (K : PySem.W.Frag) (mg : Str → Option Value) (x : Str) : Prop where
  ex : ∃ C, mg x = some (.ref C) ∧ PySem.W.excIn K C [.type "ValueError", .type "Exception", .type "BaseException", .type "object"] "ValueError.__new__" = true ∧ PySem.W.keepIn K (.ref C) = true ∧ PySem.W.subIn K (.ref C) (.type "BaseException") = some true ∧ PySem.W.typeIn K (.ref C) = some (.type "type")
theorem psd_raiseD {X : Cx} {T : Tk} {W : WX} {pos p p2 pos2 : Pos} {j : Nat} {x msg : Str} (c : ExD X.K X.mg x) (hc : X.calm = true) (tk : Takes X W) (hg : Gl X x) (hdb : (x == ("__debug__" : Str)) = false := by decide) :
    PSD X T W (.Raise (some (.Call (.Name x p) [.Constant (.str msg) j p2] [] pos2)) none pos) (sRaise x) := by
  obtain ⟨C, h1, h2, h3, h4, h5⟩ := c.ex
  exact psd_raise hc tk h1 h2 h3 h4 h5 hg hdb
/-! ### what is told of the built-ins' names -/
theorem bb_len : bootBuiltins "len" = some (.builtin "len") := by decide +kernel
theorem bb_all : bootBuiltins "all" = some (.builtin "all") := by decide +kernel
theorem bb_any : bootBuiltins "any" = some (.builtin "any") := by decide +kernel
theorem bb_tuple : bootBuiltins "tuple" = some (.type "tuple") := by decide +kernel
theorem bb_int : bootBuiltins "int" = some (.type "int") := by decide +kernel
theorem bb_bool : bootBuiltins "bool" = some (.type "bool") := by decide +kernel
theorem bb_str : bootBuiltins "str" = some (.type "str") := by decide +kernel
end Rf

/-! Rf.S: sorted of lists and tuples of data. -/
namespace Rf
open PySem PySem.Spec PyProof.Rows L2 LamX
section
variable {α : Type} {le : α → α → Bool}
def insBy (le : α → α → Bool) (x : α) : List α → List α
  | [] => [x]
  | y :: r => if le x y = true then x :: y :: r else y :: insBy le x r
def srtBy (le : α → α → Bool) : List α → List α
  | [] => []
  | x :: r => insBy le x (srtBy le r)
theorem mem_insBy {x z : α} : ∀ {l : List α}, z ∈ insBy le x l ↔ z = x ∨ z ∈ l
  | [] => by simp [insBy]
  | y :: r => by
    unfold insBy
    by_cases h : le x y = true
    · rw [if_pos h]; simp
    · rw [if_neg h, List.mem_cons, mem_insBy (l := r), List.mem_cons]
      constructor
      · rintro (h | h | h)
        · exact .inr (.inl h)
        · exact .inl h
        · exact .inr (.inr h)
      · rintro (h | h | h)
        · exact .inr (.inl h)
        · exact .inl h
        · exact .inr (.inr h)
theorem pw_insBy (T : PySem.W.TotalLe le) {x : α} : ∀ {l : List α}, l.Pairwise (fun a b => le a b = true) → (insBy le x l).Pairwise (fun a b => le a b = true)
  | [], _ => List.pairwise_singleton _ _
  | y :: r, h => by
    unfold insBy
    obtain ⟨h1, h2⟩ := List.pairwise_cons.mp h
    by_cases q : le x y = true
    · rw [if_pos q]
      refine List.pairwise_cons.mpr ⟨fun z hz => ?_, h⟩
      rcases List.mem_cons.mp hz with rfl | hz
      · exact q
      · exact T.trans _ _ _ q (h1 z hz)
    · rw [if_neg q]
      refine List.pairwise_cons.mpr ⟨fun z hz => ?_, pw_insBy T h2⟩
      rcases mem_insBy.mp hz with rfl | hz
      · have t := T.total z y
        exact t.resolve_left q
      · exact h1 z hz
theorem pw_srtBy (T : PySem.W.TotalLe le) : ∀ l : List α, (srtBy le l).Pairwise (fun a b => le a b = true)
  | [] => List.Pairwise.nil
  | x :: r => pw_insBy T (pw_srtBy T r)
theorem fil_insBy (T : PySem.W.TotalLe le) (c x : α) : ∀ l : List α, (insBy le x l).filter (PySem.W.sameRank le c) = (x :: l).filter (PySem.W.sameRank le c)
  | [] => rfl
  | y :: r => by
    unfold insBy
    by_cases q : le x y = true
    · rw [if_pos q]
    · rw [if_neg q, List.filter_cons, fil_insBy T c x r, List.filter_cons, List.filter_cons, List.filter_cons]
      by_cases hx : PySem.W.sameRank le c x = true
      · have hy : ¬ PySem.W.sameRank le c y = true := fun hy => by
          simp only [PySem.W.sameRank, Bool.and_eq_true] at hx hy
          exact q (T.trans _ _ _ hx.2 hy.1)
        rw [if_neg hy, if_pos hx, if_neg hy, if_pos hx]
      · rw [if_neg hx, if_neg hx]
theorem fil_srtBy (T : PySem.W.TotalLe le) (c : α) : ∀ l : List α, (srtBy le l).filter (PySem.W.sameRank le c) = l.filter (PySem.W.sameRank le c)
  | [] => rfl
  | x :: r => by
    show (insBy le x (srtBy le r)).filter (PySem.W.sameRank le c) = _
    rw [fil_insBy T, List.filter_cons, fil_srtBy T c r, List.filter_cons]
theorem srtBy_eq (T : PySem.W.TotalLe le) (l : List α) : srtBy le l = l.mergeSort le := PySem.W.sort_unique T (pw_srtBy T l) fun c => fil_srtBy T c l
end
def dle : D → D → Bool := PySem.W.dataLe false fun d => d
theorem dle_total : PySem.W.TotalLe dle := by
  show PySem.W.TotalLe (PySem.W.sortLe (listOrd itemOrd) false fun b => PySem.W.keyToks b)
  exact PySem.W.sortLe_total _ _ _
def tup1 : D → Bool
  | .tuple (_ :: _) => true
  | _ => false
def flat0 : D → Bool
  | .tuple _ => false
  | .none => false
  | _ => true
def sortOk (ds : List D) : Bool := (ds.all fun a => ds.all fun b => PySem.W.alike a b) && (ds.all tup1 || ds.all flat0) && PyData.canLayAll0 ds && ds.all fun d => decide (d.depth ≤ 60)
def dSorted : D → R D
  | .list ds => if sortOk ds = true then .ok (.list (srtBy dle ds)) else .bad
  | .tuple ds => if sortOk ds = true then .ok (.list (srtBy dle ds)) else .bad
  | _ => .bad
theorem nex_dSorted : ∀ x c, dSorted x ≠ .exc c := fun x c h => by
  unfold dSorted at h
  split at h
  · split at h <;> cases h
  · split at h <;> cases h
  · cases h
theorem sortOk_alike {ds : List D} (h : sortOk ds = true) : PySem.W.AllAlike (ds.map fun d => d) := by
  simp only [sortOk, Bool.and_eq_true, List.all_eq_true] at h
  rw [List.map_id']
  exact fun a ha b hb => h.1.1.1 a ha b hb
theorem sortOk_kind {ds : List D} (h : sortOk ds = true) : PySem.W.Sortable (ds.map fun d => d) := by
  simp only [sortOk, Bool.and_eq_true, Bool.or_eq_true, List.all_eq_true] at h
  rw [List.map_id']
  rcases h.1.1.2 with h | h
  · refine .inl fun d hd => ?_
    have q := h d hd
    unfold tup1 at q
    split at q
    · exact ⟨_, _, rfl⟩
    · cases q
  · refine .inr fun d hd => ?_
    have q := h d hd
    constructor
    · rintro rfl
      cases q
    · rintro xs rfl
      cases q
theorem sortOk_lay {ds : List D} (h : sortOk ds = true) : PyData.canLayAll0 ds = true := by
  simp only [sortOk, Bool.and_eq_true] at h
  exact h.1.2
theorem sortOk_deep {ds : List D} (h : sortOk ds = true) : ∀ d ∈ ds, d.depth ≤ 60 := by
  simp only [sortOk, Bool.and_eq_true, List.all_eq_true, decide_eq_true_eq] at h
  exact h.2
section
variable {prog : Program} {w : World} {A : Around} {E : Value → Shared → Prop} {s : Shared} {β : Type} {bs : List β} {enc : β → PyData} {Rl : Value → β → Prop}
theorem sorted_seq {it : Addr} {ty : String} {o : Obj} {items : Array Value} {n : Nat} {Q : Value → Shared → Prop} (hT : ty = "list" ∨ ty = "tuple") (ho : s.heap.get? it = some o) (hc : o.cls = .type ty) (hd : o.data = .seq items n)
    (e : PySem.W.EachIs Rl items.toList bs) (er : PySem.W.EachIs (fun v b => ∃ as, Reads s.heap v (enc b) as) items.toList bs) (hal : PySem.W.AllAlike (bs.map enc)) (hk : PySem.W.Sortable (bs.map enc)) (hL : items.size ≤ sizeLine) (hu : ∀ b, b ∈ bs → A.units + 2 + (enc b).depth < cLine)
    (h : ∀ (h1 h' : Heap) (a : Addr) (out : List Value) (ep : Nat), (∀ b o, s.heap.get? b = some o → h1.get? b = some o) → (∀ b o, h1.get? b = some o → h'.get? b = some o) → h1.objs.size ≤ a → h'.get? a = some (seqObj "list" out.toArray ep) → out.length = bs.length → PySem.W.EachIs Rl out (bs.mergeSort (PySem.W.dataLe false enc)) → Q (.ref a) { s with heap := h' }) :
    wpAny (model prog w) A (call (.builtin "sorted") [.ref it]) Q E s := by
  refine Calls.call_function_entry kind_sorted plain_sorted entry_sorted (args_sorted1 _) (by
    unfold Builtin.«sorted»
    refine wpAny_bind (m := checkCount "sorted" 1 1 _) (wpAny_pure (wpAny_bind (wpAny_collect_seq it hT ho hc hd (fun h1 kp => ?_) hL)))
    have hlen : items.toList.length ≤ sizeLine := by rw [Array.length_toList]; exact hL
    refine wpAny_bind (wpAny_newList ?_ hlen)
    have at1 : (h1.push (seqObj "list" items.toList.toArray 0)).get? h1.objs.size = some (seqObj "list" items.toList.toArray 0) := Heap.get?_push_size _ rfl
    have old1 : ∀ b ob, h1.get? b = some ob → b ≠ h1.objs.size ∧ (h1.push (seqObj "list" items.toList.toArray 0)).get? b = some ob := fun b ob q => by
      have hb : b ≠ h1.objs.size := Nat.ne_of_lt (Heap.lt_size q)
      exact ⟨hb, by rw [Heap.get?_push_ne _ _ _ hb]; exact q⟩
    show wpAny _ _ _ _ _ { s with heap := h1.push (seqObj "list" items.toList.toArray 0) }
    refine wpAny_bind (wpAny_holding (wpAny_call_entry_kw slot_list_sort ⟨_, at1, rfl⟩ entry_list_sort ?_ (args_list_sort _)))
    have er1 : PySem.W.EachIs (fun v b => ∃ as, Reads (PySem.W.sortingHeap (h1.push (seqObj "list" items.toList.toArray 0)) h1.objs.size items.toList) v (enc b) as) items.toList bs :=
      er.mono fun _ _ ⟨as, r⟩ => ⟨as, PyProof.Rows.Reads.keeps (fun b ob q => by
        obtain ⟨q1, q2⟩ := old1 b ob (kp b ob q)
        exact PySem.W.sortingHeap_old q1 q2) r⟩
    refine PySem.W.list_sort_vals (κ := PySem.W.dataKind _ (bs.map enc)) at1 (PySem.W.SortsAt.data (PySem.W.each_map (R := fun v d => ∃ as, Reads (PySem.W.sortingHeap (h1.push (seqObj "list" items.toList.toArray 0)) h1.objs.size items.toList) v d as) enc er1) hal hk (PySem.W.bound_map hu)) hlen ?_
    obtain ⟨ep, at2⟩ := sortedHeap_at (out := (PySem.W.sortVals (PySem.W.dataKind (PySem.W.sortingHeap (h1.push (seqObj "list" items.toList.toArray 0)) h1.objs.size items.toList) (bs.map enc)) false items.toList items.toList).toArray) at1
    refine ⟨_, rfl, wpAny_pure ⟨_, rfl, h h1 _ h1.objs.size _ ep kp (fun b ob q => ?_) (Nat.le_refl _) at2 ?_ (PySem.W.sortVals_data false e er1 hal)⟩⟩
    · obtain ⟨q1, q2⟩ := old1 b ob q
      rw [sortedHeap_old q1 (Heap.lt_size q2)]
      exact q2
    · rw [PySem.W.sortVals_length false rfl, e.length])
end
theorem each_gd {K : PySem.W.Frag} {O : Own} {H : Hp} : ∀ {vs : List V} {us : List Value} {ds : List D}, Vals vs us → GdAll K O H vs ds → PySem.W.EachIs (fun u d => ∃ v, RelV v u ∧ Gd K O H v d) us ds
  | _, _, _, .nil, .nil => .nil
  | _, _, _, .cons r t, .cons g b => .cons ⟨_, r, g⟩ (each_gd t b)
theorem gd_each {K : PySem.W.Frag} {O : Own} {H : Hp} : ∀ {us : List Value} {ds : List D}, PySem.W.EachIs (fun u d => ∃ v, RelV v u ∧ Gd K O H v d) us ds → ∃ vs, Vals vs us ∧ GdAll K O H vs ds
  | _, _, .nil => ⟨[], .nil, .nil⟩
  | _, _, .cons ⟨v, r, g⟩ t => by
    obtain ⟨vs, r2, g2⟩ := gd_each t
    exact ⟨v :: vs, .cons r r2, .cons g g2⟩
theorem each_reads {h : Heap} : ∀ {us : List Value} {ds : List D} {as : List Addr}, ReadsAll h us ds as → PySem.W.EachIs (fun u d => ∃ as, Reads h u d as) us ds
  | _, _, _, .nil => .nil
  | _, _, _, .cons r t => .cons ⟨_, r⟩ (each_reads t)
theorem length_srtBy {α : Type} {le : α → α → Bool} (T : PySem.W.TotalLe le) (l : List α) : (srtBy le l).length = l.length := by rw [srtBy_eq T, List.length_mergeSort]
section
variable {X : Cx}
theorem cb_sorted (hu : X.A.units + 65 < cLine) : Cb1 X (.builtin "sorted") dSorted := by
  intro pins s σ H xs us Q I r h
  obtain ⟨x, O, d, z, rfl, fr, gx, hz, q⟩ := h
  have core : ∀ (a : Addr) (vs : List V) (ds : List D) (ty : String) (o : Obj) (its : Array Value) (n : Nat), us = [.ref a] → Vals vs its.toList → GdAll X.K O H vs ds → ds.length ≤ LIM → (ty = "list" ∨ ty = "tuple") → s.heap.get? a = some o → o.cls = .type ty → o.data = .seq its n → sortOk ds = true → z = .list (srtBy dle ds) →
      wpAny (model X.prog X.w) X.A (call (.builtin "sorted") us) (EP X pins σ Q) X.xe s := by
    intro a vs ds ty o its n e1 rv g l hT ho hc hd hs e2
    subst e1
    subst e2
    obtain ⟨as, ra⟩ := Dp.readsAll I ds vs its.toList (g.dp (sortOk_lay hs)) rv
    have el := rv.length.symm.trans g.length
    rw [Array.length_toList] at el
    refine sorted_seq (enc := fun d => d) hT ho hc hd (each_gd rv g) (each_reads ra) (sortOk_alike hs) (sortOk_kind hs) (by rw [el]; exact lim_line l) (fun b hb => by have := sortOk_deep hs b hb; omega) fun h1 h' p out ep kp1 kp hp hat hl eo => ?_
    obtain ⟨ws, r2, g2⟩ := gd_each eo
    have e3 : ds.mergeSort (PySem.W.dataLe false fun d => d) = srtBy dle ds := (srtBy_eq dle_total ds).symm
    rw [e3] at g2
    have I1 : Inv X pins σ H { s with heap := h1 } := I.kept (t' := s.toks) kp1
    have hn : H p = none := I1.hok.fresh hp
    have hlz : ws.length ≤ sizeLine := by
      rw [g2.length, length_srtBy dle_total]
      exact lim_line l
    exact ⟨.ref p, upd H p (.lst ws), I1.laid (t' := s.toks) kp hp ⟨hlz, out, ep, r2, hat⟩, rfl, q _ _ (same_new hn) (Gd.newL hn (fr p hn) g2 (by rw [length_srtBy dle_total]; exact l))⟩
  unfold dSorted at hz
  split at hz
  · rename_i ds
    split at hz
    · rename_i hs
      cases hz
      obtain ⟨a, vs, rfl, h1, g1, l1⟩ := gx.list
      obtain ⟨its, rv, ⟨o, n, ho, hc, _, hd⟩, _⟩ := I.list (SqL.of h1)
      exact core a vs ds "list" o its.toArray n (Vals.ref1 r) (by simpa using rv) g1 l1 (.inl rfl) ho hc hd hs rfl
    · cases hz
  · rename_i ds
    split at hz
    · rename_i hs
      cases hz
      obtain ⟨a, vs, rfl, h1, g1, l1⟩ := gx.tuple
      obtain ⟨its, rv, ⟨o, ho, hc, n, hd⟩, _⟩ := I.tuple h1
      exact core a vs ds "tuple" o its.toArray n (Vals.ref1 r) (by simpa using rv) g1 l1 (.inr rfl) ho hc hd hs rfl
    · cases hz
  · cases hz
end
end Rf

/-! Rf.I: lists of a slot's own: made, written, handed on. -/
namespace Rf
open PySem PySem.Spec PyProof.Rows L2 LamX
/-- what a slot holds is held behind, too -/
def Up (O : Own) (H : Hp) (O' : Own) (H' : Hp) : Prop := ∀ (G : Gc) (i : Nat) (v : V) (s : Sl), SlotOk G O H i v s → SlotOk G O' H' i v s
theorem Up.trans {O O1 O2 : Own} {H H1 H2 : Hp} (a : Up O H O1 H1) (b : Up O1 H1 O2 H2) : Up O H O2 H2 := fun G i v s h => b G i v s (a G i v s h)
theorem Up.refl {O : Own} {H : Hp} : Up O H O H := fun _ _ _ _ h => h
theorem Up.gr {T : Tk} {O : Own} {H H' : Hp} (g : Gr T H H') : Up O H O H' := fun G i v s h => h.ext g.ex
theorem Up.own {T : Tk} {O : Own} {H H' : Hp} {p : Addr} {j : Nat} (hp : ¬ nt H p) (no : O p = none) (g : Gr T H H') : Up O H (own1 O p (some j)) H' := fun G i v s h => (h.own hp no).ext g.ex
theorem Le.ownN {T : Tk} {O : Own} {H H' : Hp} {p : Addr} {j : Nat} (hp : ¬ nt H p) (g : Gr T H H') : Le O H (own1 O p (some j)) H' :=
  ⟨g.th, fun a h _ => own1_ne fun e => hp (by rw [← e]; exact h), fun a o h _ t => g.ex a o h t⟩
/-- a new thing for slot i; nothing that was there changes -/
abbrev Mf := Rho → R Sl
def tM (G : Gc) (T : Tk) (W : WX) (i : Nat) (f : Mf) : TE := fun σ H Q => ∃ O ρ, EnvOk G T O ρ σ H ∧ match f ρ with
  | .ok s => ∀ v O' H', Up O H O' H' → Le O H O' H' → EnvOk G T O' ρ σ H' → SlotOk G O' H' i v s → Q v H'
  | .exc c => ∀ H', Gr T H H' → exW G W c σ H'
  | .bad => False
abbrev Nf := Rho → Res Sl
def tN (G : Gc) (T : Tk) (W : WX) (i : Nat) (f : Nf) : TE := fun σ H Q => ∃ O ρ, EnvOk G T O ρ σ H ∧ match f ρ with
  | .ok s ρ' => ∀ v O' H', Le O H O' H' → EnvOk G T O' ρ' σ H' → SlotOk G O' H' i v s → Q v H'
  | .exc c ρ' => ∀ O' H', Le O H O' H' → EnvOk G T O' ρ' σ H' → exW G W c σ H'
  | .bad => False
def mD (f : E0f) : Mf := fun ρ => (f ρ).bind fun d => .ok (.dat d)
def mL (f : E0f) : Mf := fun ρ => (f ρ).bind fun d => match d with
  | .list ds => .ok (.lst ds)
  | _ => .bad
def nM (f : Mf) : Nf := fun ρ => match f ρ with
  | .ok s => .ok s ρ
  | .exc c => .exc c ρ
  | .bad => .bad
def nE (f : Ef) : Nf := fun ρ => (f ρ).bind fun d r => .ok (.dat d) r
section
variable {X : Cx} {T : Tk} {W : WX} {e a b c : Expr} {es : List Expr} {pos p : Pos} {f g : E0f} {x : Str} {i : Nat}
abbrev PM (X : Cx) (T : Tk) (W : WX) (i : Nat) (e : Expr) (f : Mf) : Prop := PE X e (tM (gc X) T W i f)
abbrev PN (X : Cx) (T : Tk) (W : WX) (i : Nat) (e : Expr) (f : Nf) : Prop := PE X e (tN (gc X) T W i f)
abbrev PF (X : Cx) (T : Tk) (W : WX) (e : Expr) (f : E0f) : Prop := PE X e (tF (gc X) T W f)
theorem pm_dat (h : PP X T W e f) : PM X T W i e (mD f) := PE.of h fun σ H Q ⟨O, ρ, E, z⟩ => ⟨O, ρ, E, by
  unfold mD at z
  cases hf : f ρ with
  | bad => rw [hf] at z; exact z
  | exc c => rw [hf] at z; exact z
  | ok d => rw [hf] at z; exact fun v H' s g => z v O H' (Up.gr s) s.le (E.same s) g⟩
theorem pm_new (h : PF X T W e f) : PM X T W i e (mL f) := PE.of h fun σ H Q ⟨O, ρ, E, z⟩ => ⟨O, ρ, E, by
  unfold mL at z
  cases hf : f ρ with
  | bad => rw [hf] at z; exact z
  | exc c => rw [hf] at z; exact z
  | ok d =>
    rw [hf] at z
    cases d with
    | list ds =>
      intro v H' s ⟨a, xs, e1, h1, h2, h3, h4⟩
      subst e1
      have nn : nt H' a := ⟨_, h2, fun _ q => by cases q⟩
      exact z _ (own1 O a (some i)) H' (Up.own h1 (E.own_.not h1) s) (Le.ownN h1 s) (E.own h1 s nn) ⟨a, xs, rfl, own1_same, h2, h3 i, h4⟩
    | _ => exact (show False from z).elim⟩
theorem pn_m {f : Mf} (h : PM X T W i e f) : PN X T W i e (nM f) := PE.of h fun σ H Q ⟨O, ρ, E, z⟩ => ⟨O, ρ, E, by
  unfold nM at z
  cases hf : f ρ with
  | bad => rw [hf] at z; exact z
  | exc c => rw [hf] at z; exact fun H' s => z O H' s.le (E.same s)
  | ok d => rw [hf] at z; exact fun v O' H' _ l E' s => z v O' H' l E' s⟩
/-! ### lists that are new -/
theorem NewL.made {K : PySem.W.Frag} {O : Own} {T : Tk} {H H1 : Hp} {q : Addr} {xs : List V} {ds : List D} (s1 : Gr T H H1) (hp : H1 q = none) (g : GdAll K O H1 xs ds) (hl : ds.length ≤ LIM) : NewL K O H (upd H1 q (.lst xs)) (.ref q) ds :=
  ⟨q, xs, rfl, fun q => (q.ext s1.ex).not hp, upd_same, fun j => (g.own (nt_none hp)).same (same_new hp), hl⟩
theorem pf_lst {fs : A0f} (h : PPA X T W es fs) : PF X T W (.List es pos) (rLst fs) := PE.of (pe_lst h) fun σ H Q ⟨O, ρ, E, z⟩ => ⟨O, ρ, E, by
  unfold rLst at z
  cases hf : fs ρ with
  | bad => rw [hf] at z; exact z
  | exc c => rw [hf] at z; exact z
  | ok ds =>
    rw [hf] at z
    simp only [R.bind_ok] at z
    by_cases hl : ds.length ≤ LIM
    · rw [if_pos hl] at z
      intro vs H1 s1 g1
      exact ⟨by rw [g1.length]; exact lim_line hl, fun q hq => z _ _ (s1.then (same_new hq)) (NewL.made s1 hq g1 hl)⟩
    · rw [if_neg hl] at z
      exact z.elim⟩
/-- list + list -/
def dCat : D → D → R D
  | .list xs, .list ys => if xs.length + ys.length ≤ LIM then .ok (.list (xs ++ ys)) else .bad
  | _, _ => .bad
end
/-! ### statements: a slot gets a thing -/
theorem EnvOk.put {G : Gc} {T : Tk} {O : Own} {ρ : Rho} {σ : L2.St} {H : Hp} {i : Nat} {v : V} {s : Sl} (E : EnvOk G T O ρ σ H) (g : SlotOk G O H i v s) (hk : i ∉ T.ks.map (·.1)) : EnvOk G T O (ρ.set i (some s)) (σ.set i (some v)) H where
  slot := fun j t e => by
    by_cases hj : j = i
    · subst hj
      have hb : j < ρ.length := by
        rcases Nat.lt_or_ge j ρ.length with h | h
        · exact h
        · rw [List.getElem?_set] at e
          simp at e
          omega
      rw [List.getElem?_set_self hb] at e
      cases e
      exact ⟨v, List.getElem?_set_self (by rw [← E.len]; exact hb), g⟩
    · rw [List.getElem?_set_ne (Ne.symm hj)] at e
      obtain ⟨w, h1, h2⟩ := E.slot j t e
      exact ⟨w, by rw [List.getElem?_set_ne (Ne.symm hj)]; exact h1, h2⟩
  tabs := E.tabs
  own_ := E.own_
  len := by rw [List.length_set, List.length_set]; exact E.len
  kept := fun p hp => by
    rw [List.getElem?_set_ne (fun z => hk (by rw [z]; exact List.mem_map.mpr ⟨p, hp, rfl⟩))]
    exact E.kept p hp
def sPut (i : Nat) (f : Nf) : Sf := fun ρ => (f ρ).bind fun s ρ1 => .ok .nx (ρ1.set i (some s))
def sPar2 (i : Nat) (f : Mf) (j : Nat) (g : Mf) : Sf := fun ρ => match f ρ with
  | .ok s => (match g ρ with
    | .ok u => .ok .nx ((ρ.set i (some s)).set j (some u))
    | .exc c => .exc c ρ
    | .bad => .bad)
  | .exc c => .exc c ρ
  | .bad => .bad
def sPar3 (i : Nat) (f : Mf) (j : Nat) (g : Mf) (k : Nat) (h : Mf) : Sf := fun ρ => match f ρ with
  | .ok s => (match g ρ with
    | .ok u => (match h ρ with
      | .ok w => .ok .nx (((ρ.set i (some s)).set j (some u)).set k (some w))
      | .exc c => .exc c ρ
      | .bad => .bad)
    | .exc c => .exc c ρ
    | .bad => .bad)
  | .exc c => .exc c ρ
  | .bad => .bad
section
variable {X : Cx} {T : Tk} {W : WX} {e a b c tg : Expr} {es : List Expr} {pos p : Pos} {i j k : Nat} {x y w : Str} {px py pz pt : Pos} {kt k2 : Nat} {pt2 : Pos}
theorem psd_put (i : Nat) {f : Nf} {pos' : Pos} (hN : X.N.Nodup) (he : PN X T W i e f) (hk : i ∉ T.ks.map (·.1) := by first | exact List.not_mem_nil | simp) (hi : X.N[i]? = some x := by rfl) (hx : Loc X.env.scope x := by first | exact Or.inl rfl | exact Or.inr rfl)
    (hs : swapsWith e (some (.Name x pos')) pos.line X.env = pure false := by rfl) (hf : X.fn x = true ∨ X.env.scope.names.lookup x = some .local := by first | exact .inl rfl | exact .inr rfl | assumption) :
    PSD X T W (.Assign [.Name x pos'] e pos) (sPut i f) := PS.of (ps_set (i := i) hN hi hx he hs hf) fun De σ H ⟨O, ρ, E, z⟩ => ⟨O, ρ, E, by
  unfold sPut at z
  cases hf : f ρ with
  | bad => rw [hf] at z; exact z
  | exc c r => rw [hf] at z; exact fun O' H' l' E' => z O' σ H' l' E'
  | ok s r => rw [hf] at z; exact fun v O' H' l' E' g => z O' _ H' l' (E'.put g hk)⟩
theorem three_read {f g h : Mf} {σ : L2.St} {H : Hp} {R : List V → Hp → Prop} {O : Own} {ρ : Rho} (E : EnvOk (gc X) T O ρ σ H)
    (q : match f ρ with
      | .ok s => (match g ρ with
        | .ok u => (match h ρ with
          | .ok t => ∀ v w z O' H', Up O H O' H' → Le O H O' H' → EnvOk (gc X) T O' ρ σ H' → SlotOk (gc X) O' H' i v s → SlotOk (gc X) O' H' j w u → SlotOk (gc X) O' H' k z t → R [v, w, z] H'
          | .exc c => ∀ O' H', Le O H O' H' → EnvOk (gc X) T O' ρ σ H' → exW (gc X) W c σ H'
          | .bad => False)
        | .exc c => ∀ O' H', Le O H O' H' → EnvOk (gc X) T O' ρ σ H' → exW (gc X) W c σ H'
        | .bad => False)
      | .exc c => ∀ O' H', Le O H O' H' → EnvOk (gc X) T O' ρ σ H' → exW (gc X) W c σ H'
      | .bad => False) : tCons (tM (gc X) T W i f) (tCons (tM (gc X) T W j g) (tCons (tM (gc X) T W k h) tNil)) σ H R := by
  refine ⟨O, ρ, E, ?_⟩
  cases hf : f ρ with
  | bad => rw [hf] at q; exact q
  | exc c => rw [hf] at q; exact fun H' s => q O H' s.le (E.same s)
  | ok s =>
    rw [hf] at q
    intro v O1 H1 u1 l1 E1 s1
    refine ⟨O1, ρ, E1, ?_⟩
    dsimp only at q
    cases hg : g ρ with
    | bad => rw [hg] at q; exact q
    | exc c => rw [hg] at q; exact fun H' s => q O1 H' (l1.trans s.le) (E1.same s)
    | ok u =>
      rw [hg] at q
      intro w O2 H2 u2 l2 E2 s2
      refine ⟨O2, ρ, E2, ?_⟩
      dsimp only at q
      cases hh : h ρ with
      | bad => rw [hh] at q; exact q
      | exc c => rw [hh] at q; exact fun H' s => q O2 H' ((l1.trans l2).trans s.le) (E2.same s)
      | ok t =>
        rw [hh] at q
        exact fun z O3 H3 u3 l3 E3 s3 => q v w z O3 H3 ((u1.trans u2).trans u3) ((l1.trans l2).trans l3) E3 (u3 _ _ _ _ (u2 _ _ _ _ s1)) (u3 _ _ _ _ s2) s3
theorem psd_par3 (i j k : Nat) {f g h : Mf} (hc : X.calm = true) (hN : X.N.Nodup) (ha : PM X T W i a f) (hb : PM X T W j b g) (hcc : PM X T W k c h) (hw : swappedStores [.Tuple [.Name x px, .Name y py, .Name w pz] kt pt] (.Tuple [a, b, c] k2 pt2) X.env = pure (some [x, y, w]))
    (h1 : starEach [a, b, c] X.env = (false, eval a X.env) :: starEach [b, c] X.env := by rfl) (h2 : starEach [b, c] X.env = (false, eval b X.env) :: starEach [c] X.env := by rfl) (h3 : starEach [c] X.env = (false, eval c X.env) :: starEach [] X.env := by rfl)
    (hi : X.N[i]? = some x := by rfl) (hj : X.N[j]? = some y := by rfl) (hl : X.N[k]? = some w := by rfl) (hij : i ≠ j := by decide) (hil : i ≠ k := by decide) (hjl : j ≠ k := by decide)
    (hx : X.env.scope.names.lookup x = some .local := by rfl) (hy : X.env.scope.names.lookup y = some .local := by rfl) (hz : X.env.scope.names.lookup w = some .local := by rfl) (hki : i ∉ T.ks.map (·.1) := by first | exact List.not_mem_nil | simp) (hkj : j ∉ T.ks.map (·.1) := by first | exact List.not_mem_nil | simp) (hkk : k ∉ T.ks.map (·.1) := by first | exact List.not_mem_nil | simp)
    (hs : swapsWithSole [.Tuple [.Name x px, .Name y py, .Name w pz] kt pt] (.Tuple [a, b, c] k2 pt2) pos.line X.env = pure false := by rfl) :
    PSD X T W (.Assign [.Tuple [.Name x px, .Name y py, .Name w pz] kt pt] (.Tuple [a, b, c] k2 pt2) pos) (sPar3 i f j g k h) :=
  PS.of (ps_par3 hc hN hi hj hl hij hil hjl hx hy hz (pa_cons ha (pa_cons hb (pa_cons hcc pa_nil h3) h2) h1) hw hs) fun De σ H ⟨O, ρ, E, z⟩ => three_read E (by
    unfold sPar3 at z
    cases hf : f ρ with
    | bad => rw [hf] at z; exact z
    | exc c => rw [hf] at z; exact fun O' H' l' E' => z O' σ H' l' E'
    | ok s =>
      rw [hf] at z
      dsimp only at z ⊢
      cases hg : g ρ with
      | bad => rw [hg] at z; exact z
      | exc c => rw [hg] at z; exact fun O' H' l' E' => z O' σ H' l' E'
      | ok u =>
        rw [hg] at z
        dsimp only at z ⊢
        cases hh : h ρ with
        | bad => rw [hh] at z; exact z
        | exc c => rw [hh] at z; exact fun O' H' l' E' => z O' σ H' l' E'
        | ok t =>
          rw [hh] at z
          exact fun v w u' O' H' _ l' E' s1 s2 s3 => ⟨v, w, u', rfl, z O' _ H' l' (((E'.put s1 hki).put s2 hkj).put s3 hkk)⟩)
end
/-! ### what is written -/
section
variable {G : Gc} {T : Tk} {O O' : Own} {H : Hp} {ρ : Rho} {σ : L2.St} {i k : Nat} {v : V} {s : Sl} {p : Addr} {o : HO}
/-- another slot's -/
theorem SlotOk.wr (hp : O p = some i) (hi : i < 900) (hk : k ≠ i) (h : SlotOk G O H k v s) : SlotOk G O (upd H p o) k v s := by
  have ne : ∀ {a : Addr}, O a = some k → a ≠ p := fun {a} e z => by
    rw [z, hp] at e
    cases e
    exact hk rfl
  have nn : ∀ {a : Addr}, O a = none → a ≠ p := fun {a} e z => by rw [z, hp] at e; cases e
  cases s with
  | dat d => exact Gd.wr hp h
  | lst ds => obtain ⟨a, xs, h1, h2, h3, h4, h5⟩ := h; exact ⟨a, xs, h1, h2, by rw [upd_ne (ne h2)]; exact h3, h4.wr hp, h5⟩
  | fn x => exact h
  | scr ns =>
    obtain ⟨a, h1, h2⟩ := h
    refine ⟨a, h1, ?_⟩
    rcases h2 with ⟨h2 | ⟨o', h2⟩, n⟩ | h2
    · exact .inl ⟨.inl (by rw [upd_ne (nn n)]; exact h2), n⟩
    · exact .inl ⟨.inr ⟨o', by rw [upd_ne (nn n)]; exact h2⟩, n⟩
    · exact .inr h2
  | dic kvs => obtain ⟨a, xs, h1, h2, h3, h4, h5⟩ := h; exact ⟨a, xs, h1, h2, by rw [upd_ne (ne h2)]; exact h3, h4.wr hp, h5⟩
  | nkd lk kvs => obtain ⟨a, xs, h1, h2, h3, h4, h5, h6⟩ := h; exact ⟨a, xs, h1, h2, h3, h4.keep (fun o q _ => by rw [upd_ne (h2.ne hp hi hk)]; exact q), h5.map (fun v d g => g.wr hp), h6⟩
  | town n rests => obtain ⟨a, b, h1, h2, h3, h4, h5, h6⟩ := h; exact ⟨a, b, h1, h2, h3, h4, by rw [upd_ne (ne h2)]; exact h5, by rw [upd_ne (ne h3)]; exact h6⟩
  | desk ba th li dn un =>
    obtain ⟨a, C, dx, p, q, vb, vt, vl, xs, ys, h1, h2, h3, h4, h5, h6, h7, h8, h9, h10, h11, h12, h13, h14, h15, h16, h17⟩ := h
    exact ⟨a, C, dx, p, q, vb, vt, vl, xs, ys, h1, h2, h3, h4, h5, h6, h7, h8, by rw [upd_ne (ne h2)]; exact h9, by rw [upd_ne (ne h3)]; exact h10, by rw [upd_ne (ne h4)]; exact h11, h12.wr hp, h13.wr hp, h14.wr hp, h15.wr hp, h16.wr hp, h17⟩
theorem Le.wr (hp : O p = some i) (hi : i < 900) (ho : ∀ ps, o ≠ .tbl ps := by intro ps z; cases z) : Le O H O (upd H p o) where
  there := fun a h => by
    by_cases e : a = p
    · rw [e]; exact ⟨o, upd_same, ho⟩
    · obtain ⟨u, q, t⟩ := h
      exact ⟨u, by rw [upd_ne e]; exact q, t⟩
  own := fun _ _ _ => rfl
  keep := fun a o' h n _ => by
    have e : a ≠ p := fun e => n ⟨i, by rw [e]; exact hp, hi⟩
    rw [upd_ne e]
    exact h
/-- slot i's own thing is written -/
theorem EnvOk.wr {o0 : HO} (E : EnvOk G T O ρ σ H) (hi : i < 900) (hp : O p = some i) (h0 : H p = some o0) (n1 : ∀ ps, o0 ≠ .tbl ps) (n2 : ∀ c x, o0 ≠ CodeO c x) (hv : σ[i]? = some (some v)) (hs : SlotOk G O (upd H p o) i v s) (n3 : ∀ ps, o ≠ .tbl ps := by intro ps z; cases z) : EnvOk G T O (ρ.set i (some s)) σ (upd H p o) where
  slot := fun j t e => by
    by_cases hj : j = i
    · subst hj
      have hb : j < ρ.length := by
        rcases Nat.lt_or_ge j ρ.length with h | h
        · exact h
        · rw [List.getElem?_set] at e
          simp at e
          omega
      rw [List.getElem?_set_self hb] at e
      cases e
      exact ⟨v, hv, hs⟩
    · rw [List.getElem?_set_ne (Ne.symm hj)] at e
      obtain ⟨w, h1, h2⟩ := E.slot j t e
      exact ⟨w, h1, h2.wr hp hi hj⟩
  tabs := tabs_wr E.tabs h0 n1 n2
  own_ := fun a k h => by
    by_cases e : a = p
    · rw [e]; exact ⟨_, upd_same, n3⟩
    · obtain ⟨u, q, t⟩ := E.own_ a k h
      exact ⟨u, by rw [upd_ne e]; exact q, t⟩
  len := by rw [List.length_set]; exact E.len
  kept := E.kept
end
/-- x.append(e), x.extend(e), x.pop(), x.pop(0) -/
def eApp (i : Nat) (f : E0f) : Ef := fun ρ => match ρ[i]? with
  | some (some (.lst ds)) => (match f ρ with
    | .ok d => if ds.length < LIM then .ok .none (ρ.set i (some (.lst (ds ++ [d])))) else .bad
    | .exc c => .exc c ρ
    | .bad => .bad)
  | _ => .bad
def eExt (i : Nat) (f : E0f) : Ef := fun ρ => match ρ[i]? with
  | some (some (.lst ds)) => (match f ρ with
    | .ok (.list es) => if ds.length + es.length ≤ LIM then .ok .none (ρ.set i (some (.lst (ds ++ es)))) else .bad
    | .exc c => .exc c ρ
    | _ => .bad)
  | _ => .bad
def ePop (i : Nat) : Ef := fun ρ => match ρ[i]? with
  | some (some (.lst ds)) => (match ds[ds.length - 1]? with
    | some d => .ok d (ρ.set i (some (.lst ds.dropLast)))
    | none => .bad)
  | _ => .bad
def ePop0 (i : Nat) : Ef := fun ρ => match ρ[i]? with
  | some (some (.lst (d :: ds))) => .ok d (ρ.set i (some (.lst ds)))
  | _ => .bad
section
variable {X : Cx} {T : Tk} {W : WX} {e a : Expr} {f : E0f} {i : Nat} {x : Str} {p apos cpos pos : Pos}
abbrev PEE (X : Cx) (T : Tk) (W : WX) (e : Expr) (f : Ef) : Prop := PE X e (tE (gc X) T W f)
/-- slot i as a list of its own -/
theorem EnvOk.lst {G : Gc} {O : Own} {ρ : Rho} {σ : L2.St} {H : Hp} {ds : List D} (E : EnvOk G T O ρ σ H) (h : ρ[i]? = some (some (.lst ds))) : ∃ l xs, σ[i]? = some (some (.ref l)) ∧ O l = some i ∧ H l = some (.lst xs) ∧ GdAll G.K O H xs ds ∧ ds.length ≤ LIM := by
  obtain ⟨v, h1, l, xs, rfl, h2, h3, h4, h5⟩ := E.slot i _ h
  exact ⟨l, xs, h1, h2, h3, h4, h5⟩
theorem EnvOk.wrL {G : Gc} {O : Own} {ρ : Rho} {σ : L2.St} {H : Hp} {l : Addr} {xs ys : List V} {es : List D} (E : EnvOk G T O ρ σ H) (hi : i < 900) (h1 : σ[i]? = some (some (.ref l))) (h2 : O l = some i) (h3 : H l = some (.lst xs)) (g : GdAll G.K O H ys es) (z : es.length ≤ LIM) : EnvOk G T O (ρ.set i (some (.lst es))) σ (upd H l (.lst ys)) :=
  E.wr hi h2 h3 (fun _ z => by cases z) (fun _ _ z => by cases z) h1 ⟨l, ys, rfl, h2, upd_same, g.wr h2, z⟩
theorem pee_app (i : Nat) (ha : PP X T W a f) (hi9 : i < 900 := by decide) (hN : X.N[i]? = some x := by rfl) (hv : Vis X.env.scope x := by first | exact Or.inl rfl | exact Or.inr (Or.inl rfl) | exact Or.inr (Or.inr rfl)) (hd : (x == ("__debug__" : Str)) = false := by decide) (hcd : (x == ("__classdict__" : Str)) = false := by decide)
    (hbase : attributeBase (.Name x p) "append" X.env (eval (.Name x p) X.env) = eval (.Name x p) X.env := by rfl) (hline : (apos.endLine == cpos.line) = true := by rfl) (hs : starEach [a] X.env = (false, eval a X.env) :: starEach [] X.env := by rfl)
    (hfew : ((backTo cpos (starEach [a] X.env)).all (fun x => !x.1) && (backToKw cpos (keywordEach [] X.env)).all (fun x => x.1.isSome) && decide ([a].length + ([] : List Keyword).length + (if ([] : List Keyword).isEmpty then 0 else 1) < 30)) = true := by rfl) :
    PEE X T W (.Call (.Attribute (.Name x p) "append" apos) [a] [] cpos) (eApp i f) :=
  PE.of (pe_bm PySem.F.plainAttrs_list PySem.F.slot_list_append (by rfl) mt_append (pe_var hN hv hd hcd) (pa_cons ha pa_nil hs) hbase hfew hline hs (by rfl)) fun σ H Q ⟨O, ρ, E, z⟩ => by
    unfold eApp at z
    cases hr : ρ[i]? with
    | none => rw [hr] at z; exact z.elim
    | some o =>
      rw [hr] at z
      rcases o with _ | s
      · exact z.elim
      · cases s with
        | lst ds =>
          dsimp only at z
          obtain ⟨l, xs, h1, h2, h3, h4, h5⟩ := E.lst hr
          refine ⟨_, h1, Or.inl ⟨rfl, xs, SqL.of h3⟩, ⟨O, ρ, E, ?_⟩⟩
          cases hf : f ρ with
          | bad => rw [hf] at z; exact z
          | exc c => rw [hf] at z; exact fun H' s' => z O H' s'.le (E.same s')
          | ok d =>
            rw [hf] at z
            dsimp only at z
            intro v H1 s1 g1
            by_cases hl : ds.length < LIM
            · rw [if_pos hl] at z
              have h3' : H1 l = some (.lst xs) := s1.ex _ _ h3 (fun _ z => by cases z)
              have h4' := h4.ext s1.ex
              refine ⟨l, xs, v, rfl, rfl, h3', by rw [h4.length]; exact Nat.lt_trans hl (by decide), z _ O _ (s1.le.trans (Le.wr h2 hi9)) ((E.same s1).wrL hi9 h1 h2 h3' (h4'.append (.cons g1 .nil)) (by rw [List.length_append]; exact hl)) .non⟩
            · rw [if_neg hl] at z
              exact z.elim
        | _ => exact (show False from z).elim
theorem pee_ext (i : Nat) (ha : PP X T W a f) (hi9 : i < 900 := by decide) (hN : X.N[i]? = some x := by rfl) (hv : Vis X.env.scope x := by first | exact Or.inl rfl | exact Or.inr (Or.inl rfl) | exact Or.inr (Or.inr rfl)) (hd : (x == ("__debug__" : Str)) = false := by decide) (hcd : (x == ("__classdict__" : Str)) = false := by decide)
    (hbase : attributeBase (.Name x p) "extend" X.env (eval (.Name x p) X.env) = eval (.Name x p) X.env := by rfl) (hline : (apos.endLine == cpos.line) = true := by rfl) (hs : starEach [a] X.env = (false, eval a X.env) :: starEach [] X.env := by rfl)
    (hfew : ((backTo cpos (starEach [a] X.env)).all (fun x => !x.1) && (backToKw cpos (keywordEach [] X.env)).all (fun x => x.1.isSome) && decide ([a].length + ([] : List Keyword).length + (if ([] : List Keyword).isEmpty then 0 else 1) < 30)) = true := by rfl) :
    PEE X T W (.Call (.Attribute (.Name x p) "extend" apos) [a] [] cpos) (eExt i f) :=
  PE.of (pe_bm PySem.F.plainAttrs_list PySem.F.slot_list_extend (by rfl) mt_extend (pe_var hN hv hd hcd) (pa_cons ha pa_nil hs) hbase hfew hline hs (by rfl)) fun σ H Q ⟨O, ρ, E, z⟩ => by
    unfold eExt at z
    cases hr : ρ[i]? with
    | none => rw [hr] at z; exact z.elim
    | some o =>
      rw [hr] at z
      rcases o with _ | s
      · exact z.elim
      · cases s with
        | lst ds =>
          dsimp only at z
          obtain ⟨l, xs, h1, h2, h3, h4, h5⟩ := E.lst hr
          refine ⟨_, h1, Or.inl ⟨rfl, xs, SqL.of h3⟩, ⟨O, ρ, E, ?_⟩⟩
          cases hf : f ρ with
          | bad => rw [hf] at z; exact z
          | exc c => rw [hf] at z; exact fun H' s' => z O H' s'.le (E.same s')
          | ok d =>
            rw [hf] at z
            cases d with
            | list es =>
              dsimp only at z
              intro v H1 s1 g1
              by_cases hl : ds.length + es.length ≤ LIM
              · rw [if_pos hl] at z
                have h3' : H1 l = some (.lst xs) := s1.ex _ _ h3 (fun _ z => by cases z)
                have h4' := h4.ext s1.ex
                cases g1 with
                | @lst b ys _ q1 ga l1 =>
                  refine ⟨l, b, xs, ys, rfl, rfl, h3', q1.1, by rw [h4.length, ga.length]; exact lim_line hl, z _ O _ (s1.le.trans (Le.wr h2 hi9)) ((E.same s1).wrL hi9 h1 h2 h3' (h4'.append ga) (by rw [List.length_append]; exact hl)) .non⟩
              · rw [if_neg hl] at z
                exact z.elim
            | _ => exact (show False from z).elim
        | _ => exact (show False from z).elim
end
/-! ### a list is no longer written; it is handed to another slot -/
def frzR (ρ : Rho) (i : Nat) : Rho := match ρ[i]? with
  | some (some (.lst ds)) => ρ.set i (some (.dat (.list ds)))
  | _ => ρ
def sFz (i : Nat) (s : Sf) : Sf := fun ρ => s (frzR ρ i)
section
variable {X : Cx} {T : Tk} {W : WX} {st : Stmt} {sts : List Stmt} {s : Sf} {i : Nat}
theorem Gd.off {K : PySem.W.Frag} {O : Own} {H : Hp} {p : Addr} {v : V} {d : D} (h : Gd K O H v d) : Gd K (own1 O p none) H v d := h.less fun b hb => by
  unfold own1
  split
  · rfl
  · exact hb
theorem GdAll.off {K : PySem.W.Frag} {O : Own} {H : Hp} {p : Addr} {v : List V} {d : List D} (h : GdAll K O H v d) : GdAll K (own1 O p none) H v d := h.less fun b hb => by
  unfold own1
  split
  · rfl
  · exact hb
theorem SlotOk.off {G : Gc} {O : Own} {H : Hp} {k : Nat} {v : V} {s : Sl} {p : Addr} (hp : O p = some i) (hi : i < 900) (hk : k ≠ i) (h : SlotOk G O H k v s) : SlotOk G (own1 O p none) H k v s := by
  have ow : ∀ {a : Addr}, O a = some k → own1 O p none a = some k := fun {a} e => by
    have n : a ≠ p := fun z => by rw [z, hp] at e; cases e; exact hk rfl
    rw [own1_ne n]
    exact e
  have nn : ∀ {a : Addr}, O a = none → own1 O p none a = none := fun {a} e => by
    unfold own1
    split
    · rfl
    · exact e
  cases s with
  | dat d => exact Gd.off h
  | lst ds => obtain ⟨a, xs, h1, h2, h3, h4, h5⟩ := h; exact ⟨a, xs, h1, ow h2, h3, h4.off, h5⟩
  | fn x => exact h
  | scr ns =>
    obtain ⟨a, h1, h2⟩ := h
    refine ⟨a, h1, ?_⟩
    rcases h2 with ⟨h2, n⟩ | h2
    · exact .inl ⟨h2, nn n⟩
    · exact .inr h2
  | dic kvs => obtain ⟨a, xs, h1, h2, h3, h4, h5⟩ := h; exact ⟨a, xs, h1, ow h2, h3, h4.off, h5⟩
  | nkd lk kvs =>
    obtain ⟨a, xs, h1, h2, h3, h4, h5, h6⟩ := h
    have ne := h2.ne hp hi hk
    exact ⟨a, xs, h1, (by show own1 O p none a = _; rw [own1_ne ne]; exact h2), h3, h4, h5.map (fun v d g => g.off), h6⟩
  | town n rests => obtain ⟨a, b, h1, h2, h3, h4, h5, h6⟩ := h; exact ⟨a, b, h1, ow h2, ow h3, h4, h5, h6⟩
  | desk ba th li dn un =>
    obtain ⟨a, C, dx, p, q, vb, vt, vl, xs, ys, h1, h2, h3, h4, h5, h6, h7, h8, h9, h10, h11, h12, h13, h14, h15, h16, h17⟩ := h
    exact ⟨a, C, dx, p, q, vb, vt, vl, xs, ys, h1, ow h2, ow h3, ow h4, h5, h6, h7, h8, h9, h10, h11, h12.off, h13.off, h14.off, h15.off, h16.off, h17⟩
theorem Le.off {O : Own} {H : Hp} {p : Addr} (hp : O p = some i) (hi : i < 900) : Le O H (own1 O p none) H :=
  ⟨fun _ h => h, fun a _ n => own1_ne fun e => n ⟨i, by rw [e]; exact hp, hi⟩, fun _ _ h _ _ => h⟩
/-- the list of slot i is no longer written -/
theorem EnvOk.frz {G : Gc} {O : Own} {ρ : Rho} {σ : L2.St} {H : Hp} (E : EnvOk G T O ρ σ H) (hi : i < 900) : ∃ O', Le O H O' H ∧ EnvOk G T O' (frzR ρ i) σ H := by
  unfold frzR
  split
  · rename_i ds hr
    obtain ⟨l, xs, h1, h2, h3, h4, h5⟩ := E.lst hr
    refine ⟨own1 O l none, Le.off h2 hi, ⟨fun j t e => ?_, E.tabs, fun a k h => ?_, by rw [List.length_set]; exact E.len, E.kept⟩⟩
    · by_cases hj : j = i
      · subst hj
        have hb : j < ρ.length := (List.getElem?_eq_some_iff.mp hr).1
        rw [List.getElem?_set_self hb] at e
        cases e
        exact ⟨_, h1, .lst ⟨h3, own1_same⟩ h4.off h5⟩
      · rw [List.getElem?_set_ne (Ne.symm hj)] at e
        obtain ⟨w, q1, q2⟩ := E.slot j t e
        exact ⟨w, q1, q2.off h2 hi hj⟩
    · unfold own1 at h
      split at h
      · cases h
      · exact E.own_ a k h
  · exact ⟨O, Le.refl, E⟩
theorem psd_fz (i : Nat) (h : PSD X T W st s) (hi : i < 900 := by decide) : PSD X T W st (sFz i s) := PS.of h fun De σ H ⟨O, ρ, E, z⟩ => by
  obtain ⟨O', l, E'⟩ := E.frz hi
  exact ⟨O', _, E', Post.le l z⟩
end
end Rf

/-! Rf.J: defs that write one thing of their caller's (the town, a dict, a desk); expressions with such calls. -/
namespace Rf
open PySem PySem.Spec PyProof.Rows L2 LamX
/-- a dict that a loop walks -/
def isLk : Sl → Bool
  | .nkd true _ => true
  | _ => false
inductive Ro where
  | ok (d : D) (s : Sl)
  | exc (c : Str) (s : Sl)
  | bad
def fnE (n i0 : Nat) (body : Sf) : List Sl → Ro := fun ss => match body (ss.map some ++ List.replicate (n - ss.length) none) with
  | .ok (.rt d) r => (match r[i0]? with
    | some (some s) => .ok d s
    | _ => .bad)
  | .ok .nx r => (match r[i0]? with
    | some (some s) => .ok .none s
    | _ => .bad)
  | .exc c r => (match r[i0]? with
    | some (some s) => .exc c s
    | _ => .bad)
  | _ => .bad
inductive ArgsOk (G : Gc) (O : Own) (H : Hp) : Nat → List V → List Sl → Prop
  | nil {i : Nat} : ArgsOk G O H i [] []
  | cons {i : Nat} {v : V} {vs : List V} {s : Sl} {ss : List Sl} : SlotOk G O H i v s → ArgsOk G O H (i + 1) vs ss → ArgsOk G O H i (v :: vs) (s :: ss)
theorem ArgsOk.length {G : Gc} {O : Own} {H : Hp} : ∀ {i : Nat} {vs : List V} {ss : List Sl}, ArgsOk G O H i vs ss → vs.length = ss.length
  | _, _, _, .nil => rfl
  | _, _, _, .cons _ b => congrArg (· + 1) b.length
theorem ArgsOk.slots {G : Gc} {O : Own} {H : Hp} : ∀ {b : Nat} {vs : List V} {ss : List Sl}, ArgsOk G O H b vs ss → ∀ (n i : Nat) (s : Sl), (ss.map some ++ List.replicate n none)[i]? = some (some s) → ∃ v, (vs.map some ++ List.replicate n none)[i]? = some (some v) ∧ SlotOk G O H (b + i) v s
  | _, _, _, .nil, n, i, s, h => by
    rw [List.map_nil, List.nil_append] at h
    exact (rep_none h).elim
  | b, _, _, .cons (v := v) a r, n, 0, s, h => by
    simp at h
    subst h
    exact ⟨v, rfl, a⟩
  | b, _, _, .cons a r, n, i + 1, s, h => by
    obtain ⟨v, h1, h2⟩ := r.slots n i s (by simpa using h)
    exact ⟨v, by simpa using h1, by rw [show b + (i + 1) = b + 1 + i by omega]; exact h2⟩
def spE (G : Gc) (tb : List (Addr × Str)) (n i0 : Nat) (m : List Sl → Ro) : Sp := fun vs H Q E => vs.length = n ∧ ∃ O ss u, ArgsOk G O H 0 vs ss ∧ vs[i0]? = some u ∧ Tabs tb H ∧ Fr O H ∧ match m ss with
  | .ok d s => ∀ v O' H', Le O H O' H' → SlotOk G O' H' i0 u s → Tabs tb H' → Fr O' H' → Gd G.K O' H' v d → Q v H'
  | .exc c s => ∀ O' H', Le O H O' H' → SlotOk G O' H' i0 u s → Tabs tb H' → Fr O' H' → E ((G.mg c).getD .none) none H'
  | .bad => False
section
variable {P : Program} {w : World} {K : PySem.W.Frag} {mg : Str → Option Value} {base : Heap}
theorem ok_fnE {x qual : Str} {params : Arguments} {body : List Stmt} {scope : Scope} {kws : List (Str × V)} {f : Addr} {fd : FuncData} {N ps : List Str} {k i0 : Nat} {tb : List (Addr × Str)} {s : Sf} {m : List Sl → Ro} (F : FunD K x qual params body scope [] kws f fd) (S : FnScope N ps scope) (hm : m = fnE N.length i0 s)
    (hb : ∀ (u : V) (cdv : Value) (A : Around) (outer : List Env) (s0 : Shared) (H : Hp) (E : XK), Room k (A.deeper (envOfC qual scope s0.heap.objs.size f cdv)) →
      PSSD (cxOf (L2.CX P w) P w K mg base N qual scope f cdv A outer s0 H E) ⟨tb, [(i0, u)]⟩ (fun cls d _ H => E cls d H) body s) :
    FnOk P w K mg base (L2.CX P w) (k + 1) f fd ps (spE ⟨P, w, K, mg⟩ tb ps.length i0 m) := by
  refine F.ok S (fun vs H Q E h => h.1) fun cdv A outer s0 H vs Q E hr h => ?_
  obtain ⟨hl, O, ss, u, g, hu, ht, fr, z⟩ := h
  refine ⟨_, hb u cdv A outer s0 H E hr, ?_⟩
  have hN : vs.length = ss.length := g.length
  have hst : L2.start N vs = vs.map some ++ List.replicate (N.length - ss.length) none := by
    unfold L2.start
    rw [hN]
  refine ⟨O, ss.map some ++ List.replicate (N.length - ss.length) none, ⟨fun i s h => ?_, ht, fr, ?_, fun p hp => ?_⟩, ?_⟩
  · obtain ⟨v, h1, h2⟩ := g.slots _ _ _ h
    rw [Nat.zero_add] at h2
    exact ⟨v, by rw [hst]; exact h1, h2⟩
  · rw [hst]
    simp [hN]
  · rw [List.mem_singleton] at hp
    subst hp
    rw [hst, List.getElem?_append_left (by rw [List.length_map]; exact (List.getElem?_eq_some_iff.mp hu).1), List.getElem?_map, hu]
    rfl
  · rw [hm] at z
    unfold fnE at z
    have out : ∀ {O' : Own} {ρ' : Rho} {σ' : L2.St} {H' : Hp} {t : Sl}, EnvOk ⟨P, w, K, mg⟩ ⟨tb, [(i0, u)]⟩ O' ρ' σ' H' → ρ'[i0]? = some (some t) → SlotOk ⟨P, w, K, mg⟩ O' H' i0 u t := fun {O' ρ' σ' H' t} E' q => by
      obtain ⟨v, h1, h2⟩ := E'.slot i0 t q
      have h3 : σ'[i0]? = some (some u) := E'.kept (i0, u) (List.mem_singleton.mpr rfl)
      rw [h3] at h1
      cases h1
      exact h2
    cases hs : s (ss.map some ++ List.replicate (N.length - ss.length) none) with
    | bad => rw [hs] at z; exact z
    | exc c r =>
      rw [hs] at z
      dsimp only at z
      cases hq : r[i0]? with
      | none => rw [hq] at z; exact z.elim
      | some o =>
        rw [hq] at z
        cases o with
        | none => exact z.elim
        | some t => exact fun O' σ' H' l E' => z O' H' l (out E' hq) E'.tabs E'.own_
    | ok fl r =>
      rw [hs] at z
      cases fl with
      | nx =>
        dsimp only at z
        cases hq : r[i0]? with
        | none => rw [hq] at z; exact z.elim
        | some o =>
          rw [hq] at z
          cases o with
          | none => exact z.elim
          | some t => exact fun O' σ' H' l E' => z _ O' H' l (out E' hq) E'.tabs E'.own_ .non
      | rt d =>
        dsimp only at z
        cases hq : r[i0]? with
        | none => rw [hq] at z; exact z.elim
        | some o =>
          rw [hq] at z
          cases o with
          | none => exact z.elim
          | some t => exact fun v O' σ' H' l E' gv => z v O' H' l (out E' hq) E'.tabs E'.own_ gv
      | bk => exact (show False from z).elim
      | ct => exact (show False from z).elim
end
structure CalE (P : Program) (w : World) (K : PySem.W.Frag) (mg : Str → Option Value) (base : Heap) (tb : List (Addr × Str)) (x : Str) (ps : List Str) (k i0 : Nat) (m : List Sl → Ro) : Prop where
  ex : ∃ (f : Addr) (fd : FuncData), FnOk P w K mg base (L2.CX P w) k f fd ps (spE ⟨P, w, K, mg⟩ tb ps.length i0 m) ∧ mg x = some (.ref f) ∧ PySem.W.keepIn K (.ref f) = true ∧ L2.Binds K fd ps []
theorem calE_of {P : Program} {w : World} {K : PySem.W.Frag} {mg : Str → Option Value} {base : Heap} {tb : List (Addr × Str)} {x : Str} {params : Arguments} {body : List Stmt} {scope : Scope} {f : Addr} {fd : FuncData} {N ps : List Str} {k i0 : Nat} {m : List Sl → Ro} {s : Sf} (F : FunD K x x params body scope [] [] f fd) (S : FnScope N ps scope) (hg : mg x = some (.ref f)) (hm : m = fnE N.length i0 s)
    (hb : ∀ (u : V) (cdv : Value) (A : Around) (outer : List Env) (s0 : Shared) (H : Hp) (E : XK), Room k (A.deeper (envOfC x scope s0.heap.objs.size f cdv)) →
      PSSD (cxOf (L2.CX P w) P w K mg base N x scope f cdv A outer s0 H E) ⟨tb, [(i0, u)]⟩ (fun cls d _ H => E cls d H) body s)
    (h1 : ∀ (kV doc pm : Value) (an : Option Addr) (cdv ct : Value) (us : List Value), us.length = ps.length → bindArgs (PySem.W.fnOf x x params body scope .none kV doc pm an cdv ct) ⟨us, []⟩ = pure (ps.zip us)) :
    CalE P w K mg base tb x ps (k + 1) i0 m :=
  ⟨f, fd, ok_fnE F S hm hb, hg, F.kp, F.bindsN fun kV doc pm an cdv ct us hl => h1 kV doc pm an cdv ct us hl⟩
/-! ### the call -/
/-- owners as the callee sees them; as the caller sees them behind -/
def ownIn (O : Own) (j0 i0 : Nat) : Own := fun a => (O a).map fun k => if k = j0 then i0 else 999
def ownOut (O O' : Own) (j0 i0 : Nat) : Own := fun a => (O' a).map fun k => if k = i0 then j0 else (O a).getD 999
section
variable {G : Gc} {O O' : Own} {H H' : Hp} {i j i0 j0 k : Nat} {v : V} {s : Sl}
theorem SlotOk.relabel (f : ∀ b, O b = some i → O' b = some j) (f9 : isLk s = true → ∀ b, O b = some (1000 + i) → O' b = some (1000 + j)) (l : ∀ b, O b = none → O' b = none) (h : SlotOk G O H i v s) : SlotOk G O' H j v s := by
  cases s with
  | dat d => exact Gd.less l h
  | lst ds => obtain ⟨a, xs, h1, h2, h3, h4, h5⟩ := h; exact ⟨a, xs, h1, f _ h2, h3, h4.less l, h5⟩
  | fn x => exact h
  | scr ns =>
    obtain ⟨a, h1, h2⟩ := h
    refine ⟨a, h1, ?_⟩
    rcases h2 with ⟨h2, n⟩ | h2
    · exact .inl ⟨h2, l _ n⟩
    · exact .inr h2
  | dic kvs => obtain ⟨a, xs, h1, h2, h3, h4, h5⟩ := h; exact ⟨a, xs, h1, f _ h2, h3, h4.less l, h5⟩
  | nkd lk kvs => obtain ⟨a, xs, h1, h2, h3, h4, h5, h6⟩ := h; exact ⟨a, xs, h1, (match lk, h2, f9 with | false, h2, _ => f a h2 | true, h2, f9 => f9 rfl a h2), h3, h4, h5.map (fun v d g => g.less l), h6⟩
  | town n rests => obtain ⟨a, b, h1, h2, h3, h4, h5, h6⟩ := h; exact ⟨a, b, h1, f _ h2, f _ h3, h4, h5, h6⟩
  | desk ba th li dn un =>
    obtain ⟨a, C, dx, p, q, vb, vt, vl, xs, ys, h1, h2, h3, h4, h5, h6, h7, h8, h9, h10, h11, h12, h13, h14, h15, h16, h17⟩ := h
    exact ⟨a, C, dx, p, q, vb, vt, vl, xs, ys, h1, f _ h2, f _ h3, f _ h4, h5, h6, h7, h8, h9, h10, h11, h12.less l, h13.less l, h14.less l, h15.less l, h16.less l, h17⟩
theorem NkH.there {P : Program} {w : World} {H : Hp} {a : Addr} {es : List (NestedKey × Addr × V)} : ∀ {lk : Bool}, NkH P w H a es lk → nt H a
  | true, ⟨od, h⟩ => ⟨_, h, fun _ z => by cases z⟩
  | false, h => ⟨_, h, fun _ z => by cases z⟩
theorem SlotOk.through (l : Le O H O' H') (f : ∀ b, nt H b → O b = some i → O' b = some i) (f9 : ∀ b, nt H b → O b = some (1000 + i) → O' b = some (1000 + i)) (kp : ∀ b o, H b = some o → O b = some i → (∀ ps, o ≠ .tbl ps) → H' b = some o) (h : SlotOk G O H i v s) : SlotOk G O' H' i v s := by
  have nn : ∀ {b : Addr} {o : HO}, H b = some o → (∀ ps, o ≠ .tbl ps) → nt H b := fun h z => ⟨_, h, z⟩
  cases s with
  | dat d => exact Gd.le l h
  | lst ds => obtain ⟨a, xs, h1, h2, h3, h4, h5⟩ := h; exact ⟨a, xs, h1, f _ (nn h3 (fun _ z => by cases z)) h2, kp _ _ h3 h2 (fun _ z => by cases z), h4.le l, h5⟩
  | fn x => exact h
  | scr ns => obtain ⟨a, h1, h2⟩ := h; exact ⟨a, h1, h2.le l⟩
  | dic kvs => obtain ⟨a, xs, h1, h2, h3, h4, h5⟩ := h; exact ⟨a, xs, h1, f _ (nn h3 (fun _ z => by cases z)) h2, kp _ _ h3 h2 (fun _ z => by cases z), h4.le l, h5⟩
  | nkd lk kvs => obtain ⟨a, xs, h1, h2, h3, h4, h5, h6⟩ := h; exact ⟨a, xs, h1, (match lk, h2 with | false, h2 => f a h4.there h2 | true, h2 => f9 a h4.there h2), h3, h4.keep (fun o q t => by cases lk with | false => exact kp _ _ q h2 t | true => exact l.keep _ _ q (fun ⟨m, m1, m2⟩ => by rw [show O a = some (1000 + i) from h2] at m1; cases m1; omega) t), h5.map (fun v d g => g.le l), h6⟩
  | town n rests => obtain ⟨a, b, h1, h2, h3, h4, h5, h6⟩ := h; exact ⟨a, b, h1, f _ (nn h5 (fun _ z => by cases z)) h2, f _ (nn h6 (fun _ z => by cases z)) h3, h4, kp _ _ h5 h2 (fun _ z => by cases z), kp _ _ h6 h3 (fun _ z => by cases z)⟩
  | desk ba th li dn un =>
    obtain ⟨a, C, dx, p, q, vb, vt, vl, xs, ys, h1, h2, h3, h4, h5, h6, h7, h8, h9, h10, h11, h12, h13, h14, h15, h16, h17⟩ := h
    exact ⟨a, C, dx, p, q, vb, vt, vl, xs, ys, h1, f _ (nn h9 (fun _ z => by cases z)) h2, f _ (nn h10 (fun _ z => by cases z)) h3, f _ (nn h11 (fun _ z => by cases z)) h4, h5, h6, h7, h8, kp _ _ h9 h2 (fun _ z => by cases z), kp _ _ h10 h3 (fun _ z => by cases z), kp _ _ h11 h4 (fun _ z => by cases z), h12.le l, h13.le l, h14.le l, h15.le l, h16.le l, h17⟩
theorem ownIn_none {b : Addr} : ownIn O j0 i0 b = none ↔ O b = none := by
  unfold ownIn
  cases O b <;> simp
theorem ownOut_none {b : Addr} : ownOut O O' j0 i0 b = none ↔ O' b = none := by
  unfold ownOut
  cases O' b <;> simp
theorem ownIn_here {b : Addr} (h : O b = some j0) : ownIn O j0 i0 b = some i0 := by
  unfold ownIn
  rw [h]
  simp
theorem ownIn_other {b : Addr} (h : O b = some k) (n : k ≠ j0) : ownIn O j0 i0 b = some 999 := by
  unfold ownIn
  rw [h]
  simp [n]
theorem ownOut_here {b : Addr} (h : O' b = some i0) : ownOut O O' j0 i0 b = some j0 := by
  unfold ownOut
  rw [h]
  simp
/-- what is not handed over stays with its owner -/
theorem out_other {b : Addr} (l : Le (ownIn O j0 i0) H O' H') (hi : i0 < 900) (hb : nt H b) (h : O b = some k) (n : k ≠ j0) : ownOut O O' j0 i0 b = some k := by
  have e := ownIn_other (i0 := i0) h n
  have nm : ¬ mine (ownIn O j0 i0) b := fun ⟨q, q1, q2⟩ => by rw [e] at q1; cases q1; omega
  have e2 := l.own b hb nm
  rw [e] at e2
  unfold ownOut
  rw [e2, h]
  have : ¬ (999 = i0) := by omega
  simp [this]
theorem not_mine_in {b : Addr} (hj : j0 < 900) (n : ¬ mine O b) : ¬ mine (ownIn O j0 i0) b := fun ⟨q, q1, q2⟩ => by
  cases h : O b with
  | none => rw [ownIn_none.mpr h] at q1; cases q1
  | some k =>
    by_cases e : k = j0
    · exact n ⟨k, h, by omega⟩
    · rw [ownIn_other h e] at q1
      cases q1
      omega
theorem le_out (hi : i0 < 900) (hj : j0 < 900) (l : Le (ownIn O j0 i0) H O' H') : Le O H (ownOut O O' j0 i0) H' where
  there := l.there
  own := fun a h n => by
    cases e : O a with
    | none =>
      have e1 : ownIn O j0 i0 a = none := ownIn_none.mpr e
      rw [ownOut_none.mpr ((l.own a h (not_mine_in hj n)).trans e1)]
    | some k =>
      have hk : k ≠ j0 := fun z => n ⟨k, e, by omega⟩
      exact out_other l hi h e hk
  keep := fun a o h n t => l.keep a o h (not_mine_in hj n) t
theorem EnvOk.back {T : Tk} {ρ : Rho} {σ : L2.St} {u : V} {s' : Sl} (hlk : isLk s' = false) (hi : i0 < 900) (hj : j0 < 900) (E : EnvOk G T O ρ σ H) (hu : σ[j0]? = some (some u)) (l : Le (ownIn O j0 i0) H O' H') (s1 : SlotOk G O' H' i0 u s') (tb : Tabs T.tb H') (fr : Fr O' H') : EnvOk G T (ownOut O O' j0 i0) (ρ.set j0 (some s')) σ H' where
  slot := fun k t e => by
    by_cases hk : k = j0
    · subst hk
      have hb : k < ρ.length := by
        rcases Nat.lt_or_ge k ρ.length with h | h
        · exact h
        · rw [List.getElem?_set] at e
          simp at e
          omega
      rw [List.getElem?_set_self hb] at e
      cases e
      exact ⟨u, hu, s1.relabel (fun b h => ownOut_here h) (fun z => by rw [hlk] at z; cases z) (fun b h => ownOut_none.mpr h)⟩
    · rw [List.getElem?_set_ne (Ne.symm hk)] at e
      obtain ⟨w, h1, h2⟩ := E.slot k t e
      refine ⟨w, h1, h2.through (le_out hi hj l) (fun b hb h => out_other l hi hb h hk) (fun b hb h => out_other l hi hb h (by omega)) fun b o h1 h3 t => l.keep b o h1 (fun ⟨q, q1, q2⟩ => ?_) t⟩
      rw [ownIn_other h3 hk] at q1
      cases q1
      omega
  tabs := tb
  own_ := fun a k h => by
    cases e : O' a with
    | none => rw [ownOut_none.mpr e] at h; cases h
    | some k => exact fr a k e
  len := by rw [List.length_set]; exact E.len
  kept := E.kept
end
/-- arguments: data; one slot's thing is handed over; the script's -/
abbrev A1f := Rho → R (List Sl)
def a1Nil : A1f := fun _ => .ok []
def a1D (f : E0f) (r : A1f) : A1f := fun ρ => (f ρ).bind fun d => (r ρ).bind fun l => .ok (.dat d :: l)
def a1S (j : Nat) (r : A1f) : A1f := fun ρ => match ρ[j]? with
  | some (some (.scr ns)) => (r ρ).bind fun l => .ok (.scr ns :: l)
  | _ => .bad
def a1O (j : Nat) (r : A1f) : A1f := fun ρ => match ρ[j]? with
  | some (some s) => if isLk s = false then (r ρ).bind fun l => .ok (s :: l) else .bad
  | _ => .bad
def eCallE (m : List Sl → Ro) (j0 : Nat) (a : A1f) : Ef := fun ρ => match a ρ with
  | .ok ss => (match m ss with
    | .ok d s => if isLk s = false then .ok d (ρ.set j0 (some s)) else .bad
    | .exc c s => if isLk s = false then .exc c (ρ.set j0 (some s)) else .bad
    | .bad => .bad)
  | .exc c => .exc c ρ
  | .bad => .bad
/-- the arguments b, b + 1, .. of a call that hands slot j0's thing over as the parameter i0 -/
def tA1 (G : Gc) (T : Tk) (W : WX) (j0 i0 b : Nat) (f : A1f) : TA := fun σ H Q => ∃ O ρ, EnvOk G T O ρ σ H ∧ match f ρ with
  | .ok ss => ∀ vs H', Gr T H H' → ArgsOk G (ownIn O j0 i0) H' b vs ss → (∀ k, b + k = i0 → k < vs.length → ∃ u, vs[k]? = some u ∧ σ[j0]? = some (some u)) → Q vs H'
  | .exc c => ∀ H', Gr T H H' → exW G W c σ H'
  | .bad => False
section
variable {X : Cx} {T : Tk} {W : WX} {e : Expr} {es : List Expr} {pos p : Pos} {f : E0f} {r : A1f} {i0 j0 b j : Nat} {x : Str}
theorem pa1_nil : PA X [] (tA1 (gc X) T W j0 i0 b a1Nil) := PA.of pa_nil fun σ H Q ⟨O, ρ, E, z⟩ => z [] H (Gr.refl E.tabs) .nil fun k _ h => absurd h (Nat.not_lt_zero _)
theorem pa1_d (ha : PP X T W e f) (hr : PA X es (tA1 (gc X) T W j0 i0 (b + 1) r)) (hb : b ≠ i0 := by decide) (hs : starEach (e :: es) X.env = (false, eval e X.env) :: starEach es X.env := by rfl) : PA X (e :: es) (tA1 (gc X) T W j0 i0 b (a1D f r)) := PA.of (pa_cons ha hr hs) fun σ H Q ⟨O, ρ, E, z⟩ => ⟨O, ρ, E, by
  unfold a1D at z
  cases hf : f ρ with
  | bad => rw [hf] at z; exact z
  | exc c => rw [hf] at z; exact z
  | ok d =>
    rw [hf] at z
    simp only [R.bind_ok] at z
    intro v H1 s1 g1
    refine ⟨O, ρ, E.same s1, ?_⟩
    cases hg : r ρ with
    | bad => rw [hg] at z; exact z
    | exc c => rw [hg] at z; exact fun H' s' => z H' (s1.trans s')
    | ok ss =>
      rw [hg] at z
      simp only [R.bind_ok] at z
      intro vs H2 s2 a2 h2
      refine z (v :: vs) H2 (s1.trans s2) (.cons ((g1.ext s2.ex).less fun q hq => ownIn_none.mpr hq) a2) fun k hk hl => ?_
      cases k with
      | zero => exact absurd (by omega) hb
      | succ k => exact h2 k (by omega) (by simpa using hl)⟩
theorem pa1_s (j : Nat) (hr : PA X es (tA1 (gc X) T W j0 i0 (b + 1) r)) (hb : b ≠ i0 := by decide) (hN : X.N[j]? = some x := by rfl) (hv : Vis X.env.scope x := by first | exact Or.inl rfl | exact Or.inr (Or.inl rfl) | exact Or.inr (Or.inr rfl)) (hd : (x == ("__debug__" : Str)) = false := by decide) (hcd : (x == ("__classdict__" : Str)) = false := by decide)
    (hs : starEach (.Name x p :: es) X.env = (false, eval (.Name x p) X.env) :: starEach es X.env := by rfl) : PA X (.Name x p :: es) (tA1 (gc X) T W j0 i0 b (a1S j r)) := PA.of (pa_cons (pe_var hN hv hd hcd) hr hs) fun σ H Q ⟨O, ρ, E, z⟩ => by
  unfold a1S at z
  cases hq : ρ[j]? with
  | none => rw [hq] at z; exact z.elim
  | some o =>
    rw [hq] at z
    rcases o with _ | s
    · exact z.elim
    · cases s with
      | scr ns =>
        obtain ⟨v, h1, a, rfl, h2⟩ := E.slot j _ hq
        refine ⟨_, h1, O, ρ, E, ?_⟩
        dsimp only at z
        cases hg : r ρ with
        | bad => rw [hg] at z; exact z
        | exc c => rw [hg] at z; exact z
        | ok ss =>
          rw [hg] at z
          simp only [R.bind_ok] at z
          intro vs H2 s2 a2 hh
          refine z (.ref a :: vs) H2 s2 (.cons ⟨a, rfl, ?_⟩ a2) fun k hk hl => ?_
          · rcases h2.le s2.le with ⟨h3, h4⟩ | h3
            · exact .inl ⟨h3, ownIn_none.mpr h4⟩
            · exact .inr h3
          · cases k with
            | zero => exact absurd (by omega) hb
            | succ k => exact hh k (by omega) (by simpa using hl)
      | _ => exact (show False from z).elim
theorem pa1_o (hr : PA X es (tA1 (gc X) T W j0 i0 (i0 + 1) r)) (hj9 : j0 < 900 := by decide) (hN : X.N[j0]? = some x := by rfl) (hv : Vis X.env.scope x := by first | exact Or.inl rfl | exact Or.inr (Or.inl rfl) | exact Or.inr (Or.inr rfl)) (hd : (x == ("__debug__" : Str)) = false := by decide) (hcd : (x == ("__classdict__" : Str)) = false := by decide)
    (hs : starEach (.Name x p :: es) X.env = (false, eval (.Name x p) X.env) :: starEach es X.env := by rfl) : PA X (.Name x p :: es) (tA1 (gc X) T W j0 i0 i0 (a1O j0 r)) := PA.of (pa_cons (pe_var hN hv hd hcd) hr hs) fun σ H Q ⟨O, ρ, E, z⟩ => by
  unfold a1O at z
  cases hq : ρ[j0]? with
  | none => rw [hq] at z; exact z.elim
  | some o =>
    rw [hq] at z
    rcases o with _ | s
    · exact z.elim
    · obtain ⟨v, h1, h2⟩ := E.slot j0 _ hq
      refine ⟨_, h1, O, ρ, E, ?_⟩
      dsimp only at z
      by_cases hlk : isLk s = false
      case neg => rw [if_neg hlk] at z; exact z.elim
      rw [if_pos hlk] at z
      cases hg : r ρ with
      | bad => rw [hg] at z; exact z
      | exc c => rw [hg] at z; exact z
      | ok ss =>
        rw [hg] at z
        simp only [R.bind_ok] at z
        intro vs H2 s2 a2 hh
        refine z (v :: vs) H2 s2 (.cons ((h2.ext s2.ex).relabel (fun q hq => ownIn_here hq) (fun z => by rw [hlk] at z; cases z) fun q hq => ownIn_none.mpr hq) a2) fun k hk hl => ?_
        cases k with
        | zero => exact ⟨v, rfl, h1⟩
        | succ k => exact absurd hk (by omega)
/-- f(.., x, ..) -/
theorem pee_callE {ps : List Str} {k l i0 j0 : Nat} {m : List Sl → Ro} {a : A1f} (c : CalE X.prog X.w X.K X.mg X.base T.tb x ps k i0 m) (hr : Room l X.A) (hk : k ≤ l) (hg : Gl X x) (tk : Takes X W) (ha : PA X (e :: es) (tA1 (gc X) T W j0 i0 0 a)) (hn : ∀ ρ ss, a ρ = .ok ss → ss.length = ps.length)
    (hi : i0 < ps.length := by decide) (hi9 : i0 < 900 := by decide) (hj9 : j0 < 900 := by decide)
    (hdb : (x == ("__debug__" : Str)) = false := by decide) (he : starEach (e :: es) X.env = (false, eval e X.env) :: starEach es X.env := by rfl) (hpl : (backTo pos (starEach es X.env)).any (·.1) = false := by rfl) :
    PEE X T W (.Call (.Name x p) (e :: es) [] pos) (eCallE m j0 a) := by
  obtain ⟨f, fd, F, h1, h2, h3⟩ := c.ex
  refine PE.of (pe_callS F (hr.mono hk) hg h1 h2 h3 (fun σ => passAt tk σ) ha hdb he hpl) fun σ H Q ⟨O, ρ, E, z⟩ => ⟨O, ρ, E, ?_⟩
  unfold eCallE at z
  cases hf : a ρ with
  | bad => rw [hf] at z; exact z
  | exc c => rw [hf] at z; exact fun H' s' => z O H' s'.le (E.same s')
  | ok ss =>
    rw [hf] at z
    dsimp only at z
    intro vs H1 s1 a1 hh
    have E1 := E.same s1
    have hl : vs.length = ps.length := a1.length.trans (hn _ _ hf)
    obtain ⟨u, u1, u2⟩ := hh i0 (by omega) (by omega)
    refine ⟨hl, ownIn O j0 i0, ss, u, a1, u1, s1.tb, fun q k hq => (by
      cases e : O q with
      | none => rw [ownIn_none.mpr e] at hq; cases hq
      | some k => exact E1.own_ q k e), ?_⟩
    cases hm : m ss with
    | bad => rw [hm] at z; exact z
    | exc c s =>
      rw [hm] at z
      dsimp only at z
      by_cases hlk : isLk s = false
      · rw [if_pos hlk] at z
        exact fun O' H' l sl tb fr => z _ H' (s1.le.trans (le_out hi9 hj9 l)) (E1.back hlk hi9 hj9 u2 l sl tb fr)
      · rw [if_neg hlk] at z
        exact z.elim
    | ok d s =>
      rw [hm] at z
      dsimp only at z
      by_cases hlk : isLk s = false
      · rw [if_pos hlk] at z
        exact fun v O' H' l sl tb fr gv => z v _ H' (s1.le.trans (le_out hi9 hj9 l)) (E1.back hlk hi9 hj9 u2 l sl tb fr) (gv.less fun q hq => ownOut_none.mpr hq)
      · rw [if_neg hlk] at z
        exact z.elim
theorem al1_nil : ∀ (ρ : Rho) (ss : List Sl), a1Nil ρ = .ok ss → ss.length = 0 := fun ρ ss h => by cases h; rfl
theorem al1_d {n : Nat} (h : ∀ ρ ss, r ρ = .ok ss → ss.length = n) : ∀ (ρ : Rho) (ss : List Sl), a1D f r ρ = .ok ss → ss.length = n + 1 := fun ρ ss z => by
  unfold a1D at z
  cases hf : f ρ with
  | bad => rw [hf] at z; cases z
  | exc c => rw [hf] at z; cases z
  | ok d =>
    rw [hf] at z
    simp only [R.bind_ok] at z
    cases hg : r ρ with
    | bad => rw [hg] at z; cases z
    | exc c => rw [hg] at z; cases z
    | ok l => rw [hg] at z; cases z; rw [List.length_cons, h _ _ hg]
theorem al1_s {n : Nat} (h : ∀ ρ ss, r ρ = .ok ss → ss.length = n) : ∀ (ρ : Rho) (ss : List Sl), a1S j r ρ = .ok ss → ss.length = n + 1 := fun ρ ss z => by
  unfold a1S at z
  split at z
  · cases hg : r ρ with
    | bad => rw [hg] at z; cases z
    | exc c => rw [hg] at z; cases z
    | ok l => rw [hg] at z; cases z; rw [List.length_cons, h _ _ hg]
  · cases z
theorem al1_o {n : Nat} (h : ∀ ρ ss, r ρ = .ok ss → ss.length = n) : ∀ (ρ : Rho) (ss : List Sl), a1O j r ρ = .ok ss → ss.length = n + 1 := fun ρ ss z => by
  unfold a1O at z
  split at z
  · split at z
    · cases hg : r ρ with
      | bad => rw [hg] at z; cases z
      | exc c => rw [hg] at z; cases z
      | ok l => rw [hg] at z; cases z; rw [List.length_cons, h _ _ hg]
    · cases z
  · cases z
end
end Rf

/-! Rf.K: expressions and statements whose parts have effects. -/
namespace Rf
open PySem PySem.Spec PyProof.Rows L2 LamX
def EPost (G : Gc) (T : Tk) (W : WX) (σ : L2.St) (Q : VK) (O : Own) (H : Hp) : Res D → Prop
  | .ok d ρ' => ∀ v O' H', Le O H O' H' → EnvOk G T O' ρ' σ H' → Gd G.K O' H' v d → Q v H'
  | .exc c ρ' => ∀ O' H', Le O H O' H' → EnvOk G T O' ρ' σ H' → exW G W c σ H'
  | .bad => False
def APost (G : Gc) (T : Tk) (W : WX) (σ : L2.St) (Q : List V → Hp → Prop) (O : Own) (H : Hp) : Res (List D) → Prop
  | .ok d ρ' => ∀ v O' H', Le O H O' H' → EnvOk G T O' ρ' σ H' → GdAll G.K O' H' v d → Q v H'
  | .exc c ρ' => ∀ O' H', Le O H O' H' → EnvOk G T O' ρ' σ H' → exW G W c σ H'
  | .bad => False
def TPost (G : Gc) (T : Tk) (W : WX) (σ : L2.St) (Q : Bool → Hp → Prop) (O : Own) (H : Hp) : Res D → Prop
  | .ok (.bool b) ρ' => ∀ O' H', Le O H O' H' → EnvOk G T O' ρ' σ H' → Q b H'
  | .ok _ _ => False
  | .exc c ρ' => ∀ O' H', Le O H O' H' → EnvOk G T O' ρ' σ H' → exW G W c σ H'
  | .bad => False
section
variable {G : Gc} {T : Tk} {W : WX} {σ : L2.St} {Q : VK} {O O1 : Own} {H H1 : Hp} {ρ : Rho} {f : Ef}
theorem EPost.le (l : Le O H O1 H1) : ∀ {r : Res D}, EPost G T W σ Q O H r → EPost G T W σ Q O1 H1 r
  | .ok _ _, h => fun v O' H' l' => h v O' H' (l.trans l')
  | .exc _ _, h => fun O' H' l' => h O' H' (l.trans l')
  | .bad, h => h
theorem APost.le {Q : List V → Hp → Prop} (l : Le O H O1 H1) : ∀ {r : Res (List D)}, APost G T W σ Q O H r → APost G T W σ Q O1 H1 r
  | .ok _ _, h => fun v O' H' l' => h v O' H' (l.trans l')
  | .exc _ _, h => fun O' H' l' => h O' H' (l.trans l')
  | .bad, h => h
theorem TPost.le {Q : Bool → Hp → Prop} (l : Le O H O1 H1) {r : Res D} (h : TPost G T W σ Q O H r) : TPost G T W σ Q O1 H1 r := by
  cases r with
  | bad => exact h
  | exc c r => exact fun O' H' l' => h O' H' (l.trans l')
  | ok d r =>
    cases d with
    | bool b => exact fun O' H' l' => h O' H' (l.trans l')
    | _ => exact h
theorem tE_mk (E : EnvOk G T O ρ σ H) (h : EPost G T W σ Q O H (f ρ)) : tE G T W f σ H Q := ⟨O, ρ, E, by
  cases hf : f ρ with
  | bad => rw [hf] at h; exact h
  | exc c r => rw [hf] at h; exact h
  | ok d r => rw [hf] at h; exact h⟩
theorem tE_out (h : tE G T W f σ H Q) : ∃ O ρ, EnvOk G T O ρ σ H ∧ EPost G T W σ Q O H (f ρ) := by
  obtain ⟨O, ρ, E, h⟩ := h
  refine ⟨O, ρ, E, ?_⟩
  cases hf : f ρ with
  | bad => rw [hf] at h; exact h
  | exc c r => rw [hf] at h; exact h
  | ok d r => rw [hf] at h; exact h
theorem tEA_mk {f : Rho → Res (List D)} {Q : List V → Hp → Prop} (E : EnvOk G T O ρ σ H) (h : APost G T W σ Q O H (f ρ)) : tEA G T W f σ H Q := ⟨O, ρ, E, by
  cases hf : f ρ with
  | bad => rw [hf] at h; exact h
  | exc c r => rw [hf] at h; exact h
  | ok d r => rw [hf] at h; exact h⟩
theorem tEA_out {f : Rho → Res (List D)} {Q : List V → Hp → Prop} (h : tEA G T W f σ H Q) : ∃ O ρ, EnvOk G T O ρ σ H ∧ APost G T W σ Q O H (f ρ) := by
  obtain ⟨O, ρ, E, h⟩ := h
  refine ⟨O, ρ, E, ?_⟩
  cases hf : f ρ with
  | bad => rw [hf] at h; exact h
  | exc c r => rw [hf] at h; exact h
  | ok d r => rw [hf] at h; exact h
theorem tET_out {Q : Bool → Hp → Prop} (h : tET G T W f σ H Q) : ∃ O ρ, EnvOk G T O ρ σ H ∧ TPost G T W σ Q O H (f ρ) := by
  obtain ⟨O, ρ, E, h⟩ := h
  refine ⟨O, ρ, E, ?_⟩
  cases hf : f ρ with
  | bad => rw [hf] at h; exact h
  | exc c r => rw [hf] at h; exact h
  | ok d r =>
    rw [hf] at h
    cases d with
    | bool b => exact h
    | _ => exact (show False from h).elim
end
def e1 (op : D → R D) (f : Ef) : Ef := fun ρ => (f ρ).bind fun x r => match op x with
  | .ok z => .ok z r
  | _ => .bad
def e2 (op : D → D → R D) (f g : Ef) : Ef := fun ρ => (f ρ).bind fun x r => (g r).bind fun y r2 => match op x y with
  | .ok z => .ok z r2
  | _ => .bad
def eaNil : Rho → Res (List D) := fun ρ => .ok [] ρ
def eaCons (f : Ef) (g : Rho → Res (List D)) : Rho → Res (List D) := fun ρ => (f ρ).bind fun x r => (g r).bind fun xs r2 => .ok (x :: xs) r2
def eTup (a : Rho → Res (List D)) : Ef := fun ρ => (a ρ).bind fun xs r => if xs.length ≤ LIM then .ok (.tuple xs) r else .bad
def eLst (a : Rho → Res (List D)) : Ef := fun ρ => (a ρ).bind fun xs r => if xs.length ≤ LIM then .ok (.list xs) r else .bad
def eCall (m : List D → R D) (a : Rho → Res (List D)) : Ef := fun ρ => (a ρ).bind fun xs r => match m xs with
  | .ok d => .ok d r
  | .exc c => .exc c r
  | .bad => .bad
def eNot (f : Ef) : Ef := fun ρ => (f ρ).bind fun d r => match d with
  | .bool b => .ok (.bool (!b)) r
  | _ => .bad
def eAnd (f g : Ef) : Ef := fun ρ => (f ρ).bind fun d r => match d with
  | .bool true => g r
  | .bool false => .ok (.bool false) r
  | _ => .bad
def eOr (f g : Ef) : Ef := fun ρ => (f ρ).bind fun d r => match d with
  | .bool true => .ok (.bool true) r
  | .bool false => g r
  | _ => .bad
def eIf (t f g : Ef) : Ef := fun ρ => (t ρ).bind fun d r => match d with
  | .bool true => f r
  | .bool false => g r
  | _ => .bad
section
variable {X : Cx} {T : Tk} {W : WX} {e a b c : Expr} {es : List Expr} {pos p : Pos} {f g h : Ef} {fs : Rho → Res (List D)} {x : Str}
theorem two_e {op : D → D → R D} {σ : L2.St} {H : Hp} {Q : VK} (z : tE (gc X) T W (e2 op f g) σ H Q) :
    tE (gc X) T W f σ H fun x H1 => tE (gc X) T W g σ H1 fun y H2 => ∃ (O : Own) (d e z : D), (∀ a, H2 a = none → O a = none) ∧ GT X.K O H2 x d ∧ GT X.K O H2 y e ∧ op d e = .ok z ∧ ∀ v H', Same H2 H' → Gd X.K O H' v z → Q v H' := by
  obtain ⟨O, ρ, E, z⟩ := tE_out z
  unfold e2 at z
  refine tE_mk E ?_
  cases hf : f ρ with
  | bad => rw [hf] at z; exact z
  | exc c r => rw [hf] at z; exact z
  | ok d r =>
    rw [hf] at z
    simp only [Res.bind_ok] at z
    intro x O1 H1 l1 E1 g1
    refine tE_mk E1 ?_
    cases hg : g r with
    | bad => rw [hg] at z; exact z
    | exc c r2 => rw [hg] at z; exact EPost.le l1 z
    | ok y r2 =>
      rw [hg] at z
      simp only [Res.bind_ok] at z
      intro w O2 H2 l2 E2 g2
      cases ho : op d y with
      | bad => rw [ho] at z; exact z.elim
      | exc c => rw [ho] at z; exact z.elim
      | ok u =>
        rw [ho] at z
        refine ⟨O2, d, y, u, E2.fresh, .inl (g1.le l2), .inl g2, ho, fun v H' s' gv => ?_⟩
        have gr : Gr T H2 H' := Gr.of E2.tabs s'
        exact z v O2 H' ((l1.trans l2).trans gr.le) (E2.same gr) gv
theorem pee_op {op : Operator} {o : D → D → R D} (ho : OpD X (binaryOp op) o) (ha : PEE X T W a f) (hb : PEE X T W b g) : PEE X T W (.BinOp a op b pos) (e2 o f g) := PE.of (pe_op ho ha hb) fun σ H Q h => two_e h
/-! ### arguments, displays -/
abbrev PEA (X : Cx) (T : Tk) (W : WX) (es : List Expr) (f : Rho → Res (List D)) : Prop := PA X es (tEA (gc X) T W f)
theorem pea_nil : PEA X T W [] eaNil := PA.of pa_nil fun σ H Q z => by
  obtain ⟨O, ρ, E, z⟩ := tEA_out z
  exact z [] O H Le.refl E .nil
theorem pea_cons (ha : PEE X T W e f) (hr : PEA X T W es fs) (hs : starEach (e :: es) X.env = (false, eval e X.env) :: starEach es X.env := by rfl) : PEA X T W (e :: es) (eaCons f fs) := PA.of (pa_cons ha hr hs) fun σ H Q z => by
  obtain ⟨O, ρ, E, z⟩ := tEA_out z
  unfold eaCons at z
  refine tE_mk E ?_
  cases hf : f ρ with
  | bad => rw [hf] at z; exact z
  | exc c r => rw [hf] at z; exact z
  | ok d r =>
    rw [hf] at z
    simp only [Res.bind_ok] at z
    intro v O1 H1 l1 E1 g1
    refine tEA_mk E1 ?_
    cases hg : fs r with
    | bad => rw [hg] at z; exact z
    | exc c r2 => rw [hg] at z; exact APost.le l1 z
    | ok ds r2 =>
      rw [hg] at z
      exact fun vs O2 H2 l2 E2 g2 => z (v :: vs) O2 H2 (l1.trans l2) E2 (.cons (g1.le l2) g2)
/-- a call of a def that writes nothing -/
theorem pee_c {ps : List Str} {k j : Nat} {m : List D → R D} (c : CalD X.prog X.w X.K X.mg X.base T.tb x ps k m) (hr : Room j X.A) (hk : k ≤ j) (hg : Gl X x) (tk : Takes X W) (ha : PEA X T W (e :: es) fs) (hl : ∀ ρ ds r, fs ρ = .ok ds r → ds.length = (e :: es).length) (hn : ps.length = (e :: es).length := by rfl)
    (hdb : (x == ("__debug__" : Str)) = false := by decide) (he : starEach (e :: es) X.env = (false, eval e X.env) :: starEach es X.env := by rfl) (hpl : (backTo pos (starEach es X.env)).any (·.1) = false := by rfl) :
    PEE X T W (.Call (.Name x p) (e :: es) [] pos) (eCall m fs) := by
  obtain ⟨f0, fd, F, h1, h2, h3, _⟩ := c.ex
  refine PE.of (pe_callS F (hr.mono hk) hg h1 h2 h3 (fun σ => passAt tk σ) ha hdb he hpl) fun σ H Q z => ?_
  obtain ⟨O, ρ, E, z⟩ := tE_out z
  unfold eCall at z
  refine tEA_mk E ?_
  cases hf : fs ρ with
  | bad => rw [hf] at z; exact z
  | exc c r => rw [hf] at z; exact z
  | ok ds r =>
    rw [hf] at z
    simp only [Res.bind_ok] at z
    intro vs O1 H1 l1 E1 g1
    refine ⟨by rw [g1.length, hl _ _ _ hf, hn], O1, ds, g1, E1.tabs, E1.own_, ?_⟩
    cases hm : m ds with
    | bad => rw [hm] at z; exact z
    | exc c =>
      rw [hm] at z
      intro H' s'
      have gr : Gr T H1 H' := ⟨s'.ex, s'.tb⟩
      exact z O1 H' (l1.trans gr.le) (E1.same gr)
    | ok d =>
      rw [hm] at z
      intro v H' s' gv
      have gr : Gr T H1 H' := ⟨s'.ex, s'.tb⟩
      exact z v O1 H' (l1.trans gr.le) (E1.same gr) gv
theorem ael_nil : ∀ (ρ : Rho) ds r, eaNil ρ = .ok ds r → ds.length = 0 := fun ρ ds r h => by cases h; rfl
theorem ael_cons {n : Nat} (h : ∀ ρ ds r, fs ρ = .ok ds r → ds.length = n) : ∀ ρ ds r, eaCons f fs ρ = .ok ds r → ds.length = n + 1 := fun ρ ds r z => by
  unfold eaCons at z
  cases hg : f ρ with
  | bad => rw [hg] at z; cases z
  | exc c r => rw [hg] at z; cases z
  | ok d r1 =>
    rw [hg] at z
    simp only [Res.bind_ok] at z
    cases hf : fs r1 with
    | bad => rw [hf] at z; cases z
    | exc c r => rw [hf] at z; cases z
    | ok l r2 =>
      rw [hf] at z
      cases z
      rw [List.length_cons, h _ _ _ hf]
/-! ### tests -/
theorem pte_cmp {op : CmpOp} {o : D → D → R D} (ho : OpD X (compareOp op) o) (ha : PEE X T W a f) (hb : PEE X T W b g) (hm : behindInMarks op b = false) : PT X (.Compare a [op] [b] pos) (tET (gc X) T W (e2 o f g)) :=
  PT.of (pt_cmpR ho ha hb hm) fun σ H Q z => two_e (X := X) (T := T) (W := W) (by
    obtain ⟨O, ρ, E, z⟩ := tET_out z
    refine tE_mk E ?_
    cases hf : e2 o f g ρ with
    | bad => rw [hf] at z; exact z
    | exc c r => rw [hf] at z; exact z
    | ok d r =>
      rw [hf] at z
      cases d with
      | bool b =>
        intro v O' H' l E' g
        cases g
        exact ⟨b, rfl, z O' H' l E'⟩
      | _ => exact (show False from z).elim)
/-! ### values -/
theorem pee_one {op} (h : PEE X T W a f) : PEE X T W (.BoolOp op [a] pos) f := pe_one h
theorem pee_and {rest : List Expr} (ha : PEE X T W a f) (hb : PEE X T W (.BoolOp .And (b :: rest) pos) g) : PEE X T W (.BoolOp .And (a :: b :: rest) pos) (eAnd f g) := PE.of (pe_and ha hb) fun σ H Q z => by
  obtain ⟨O, ρ, E, z⟩ := tE_out z
  unfold eAnd at z
  refine tE_mk E ?_
  cases hf : f ρ with
  | bad => rw [hf] at z; exact z
  | exc c r => rw [hf] at z; exact z
  | ok d r =>
    rw [hf] at z
    cases d with
    | bool b =>
      intro v O' H' l E' gv
      cases gv
      refine ⟨b, rfl, ?_⟩
      cases b with
      | false => exact iteF (z _ O' H' l E' (.bl _))
      | true => exact iteT (tE_mk E' (EPost.le l z))
    | _ => exact (show False from z).elim
end
end Rf

/-! Rf.L: the script and the town; ranges as lists; loops and stores with effects. -/
namespace Rf
open PySem PySem.Spec PyProof.Rows L2 LamX
/-! ### ranges as lists and tuples -/
def rLR (i : I0f) : E0f := fun ρ => (i ρ).bind fun ds => .ok (.list ds)
def rTR (i : I0f) : E0f := fun ρ => (i ρ).bind fun ds => .ok (.tuple ds)
theorem gd_rg {K : PySem.W.Frag} {O : Own} {H : Hp} {a b : Int} : GdAll K O H (rgV a b) (intsD a (b - a).toNat) := by
  unfold rgV intsD
  generalize (List.range (b - a).toNat) = l
  induction l with
  | nil => exact .nil
  | cons x r ih => exact .cons (.int _) ih
theorem intsD_len (a : Int) (n : Nat) : (intsD a n).length = n := by simp [intsD]
section
variable {X : Cx} {T : Tk} {W : WX} {e a b c : Expr} {es : List Expr} {pos p p2 pos2 : Pos} {f g : E0f} {x : Str} {i j : Nat}
theorem pf_listR1 (hc : X.calm = true) (hg : Gl X "list") (hm : X.mg "list" = none) (hg2 : Gl X "range") (hm2 : X.mg "range" = none) (ha : PP X T W a f) (na : starEach [a] X.env = (false, eval a X.env) :: starEach [] X.env := by rfl)
    (na2 : starEach [.Call (.Name "range" p2) [a] [] pos2] X.env = (false, eval (.Call (.Name "range" p2) [a] [] pos2) X.env) :: starEach [] X.env := by rfl) :
    PF X T W (.Call (.Name "list" p) [.Call (.Name "range" p2) [a] [] pos2] [] pos) (rLR (riR1 f)) := PE.of (pe_listRg hc hg hm (prg_1 hg2 hm2 ha na) na2) fun σ H Q ⟨O, ρ, E, z⟩ => ⟨O, ρ, E, by
  unfold rLR riR1 at z
  cases hf : f ρ with
  | bad => rw [hf] at z; exact z
  | exc c => rw [hf] at z; exact z
  | ok d =>
    rw [hf] at z
    simp only [R.bind_ok] at z
    intro v H1 s1 g1
    cases d with
    | int n =>
      dsimp only at z
      by_cases hn : -(LIM : Int) ≤ n ∧ n ≤ LIM
      · rw [if_pos hn] at z
        cases g1
        have h1 : -100000 ≤ n := hn.1
        have h2 : n ≤ 100000 := hn.2
        have g0 : GdAll X.K O H1 (rgV 0 n) (intsD 0 n.toNat) := by
          have g := gd_rg (K := X.K) (O := O) (H := H1) (a := 0) (b := n)
          rw [Int.sub_zero] at g
          exact g
        refine ⟨n, rfl, ⟨by omega, by omega, by omega, by omega, by omega⟩, fun q hq => z _ _ (s1.then (same_new hq)) (NewL.made s1 hq g0 ?_)⟩
        rw [intsD_len]
        show n.toNat ≤ 100000
        omega
      · rw [if_neg hn] at z
        exact z.elim
    | _ => exact (show False from z).elim⟩
theorem isL_rLR {i : I0f} : isL (rLR i) := fun ρ d h => by
  unfold rLR at h
  cases hf : i ρ with
  | bad => rw [hf] at h; cases h
  | exc c => rw [hf] at h; cases h
  | ok ds => rw [hf] at h; cases h; exact ⟨ds, rfl⟩
theorem pp_f {f : E0f} (hl : isL f) (h : PF X T W e f) : PP X T W e f := PE.of h fun σ H Q z => tP_tF hl z
theorem pp_tupR1 (hc : X.calm = true) (hg : Gl X "tuple") (hm : X.mg "tuple" = none) (hg2 : Gl X "range") (hm2 : X.mg "range" = none) (ha : PP X T W a f) (na : starEach [a] X.env = (false, eval a X.env) :: starEach [] X.env := by rfl)
    (na2 : starEach [.Call (.Name "range" p2) [a] [] pos2] X.env = (false, eval (.Call (.Name "range" p2) [a] [] pos2) X.env) :: starEach [] X.env := by rfl) :
    PP X T W (.Call (.Name "tuple" p) [.Call (.Name "range" p2) [a] [] pos2] [] pos) (rTR (riR1 f)) := PE.of (pe_tupRgX hc hg hm (prg_1 hg2 hm2 ha na) na2) fun σ H Q ⟨O, ρ, E, z⟩ => ⟨O, ρ, E, by
  unfold rTR riR1 at z
  cases hf : f ρ with
  | bad => rw [hf] at z; exact z
  | exc c => rw [hf] at z; exact z
  | ok d =>
    rw [hf] at z
    simp only [R.bind_ok] at z
    intro v H1 s1 g1
    cases d with
    | int n =>
      dsimp only at z
      by_cases hn : -(LIM : Int) ≤ n ∧ n ≤ LIM
      · rw [if_pos hn] at z
        cases g1
        have h1 : -100000 ≤ n := hn.1
        have h2 : n ≤ 100000 := hn.2
        have g0 : GdAll X.K O H1 (rgV 0 n) (intsD 0 n.toNat) := by
          have g := gd_rg (K := X.K) (O := O) (H := H1) (a := 0) (b := n)
          rw [Int.sub_zero] at g
          exact g
        refine ⟨n, rfl, ⟨by omega, by omega, by omega, by omega, by omega⟩, fun q o hq ho => z _ _ (s1.then (same_new hq)) (Gd.newT hq ho ((E.same s1).fresh q hq) g0 ?_)⟩
        rw [intsD_len]
        show n.toNat ≤ 100000
        omega
      · rw [if_neg hn] at z
        exact z.elim
    | _ => exact (show False from z).elim⟩
/-! ### min, max of two -/
def dMin : D → D → R D
  | .int i, .int j => .ok (.int (if j < i then j else i))
  | _, _ => .bad
def dMax : D → D → R D
  | .int i, .int j => .ok (.int (if i < j then j else i))
  | _, _ => .bad
/-! ### an item by an index with effects: the row is told first -/
/-! ### the script -/
def rScr (i : Nat) (f : List Int → R D) : E0f := fun ρ => match ρ[i]? with
  | some (some (.scr ns)) => f ns
  | _ => .bad
theorem EnvOk.scr {G : Gc} {O : Own} {ρ : Rho} {σ : L2.St} {H : Hp} {ns : List Int} (E : EnvOk G T O ρ σ H) (h : ρ[i]? = some (some (.scr ns))) : ∃ l, σ[i]? = some (some (.ref l)) ∧ SqL G.K H l (ns.map V.int) := by
  obtain ⟨v, h1, l, rfl, h2⟩ := E.slot i _ h
  exact ⟨l, h1, h2.sq⟩
theorem ptp_scr (i : Nat) (hN : X.N[i]? = some x := by rfl) (hv : Vis X.env.scope x := by first | exact Or.inl rfl | exact Or.inr (Or.inl rfl) | exact Or.inr (Or.inr rfl)) (hd : (x == ("__debug__" : Str)) = false := by decide) (hcd : (x == ("__classdict__" : Str)) = false := by decide)
    (he : ∀ whole, isTrue (.Name x p) X.env whole = (do let v ← whole; standAt (Expr.Name x p).pos; holding [v] (truthy v)) := by intro _; rfl) : PT X (.Name x p) (tPT (gc X) T W (rScr i fun ns => .ok (.bool (!ns.isEmpty)))) := PT.of (pt_truth (pe_var hN hv hd hcd) he) fun σ H Q ⟨O, ρ, E, z⟩ => by
  unfold rScr at z
  split at z
  · rename_i b hb
    split at hb
    · rename_i ns hr
      cases hb
      obtain ⟨l, h1, h2⟩ := E.scr hr
      refine ⟨_, h1, !ns.isEmpty, .inl ⟨_, h2, ?_⟩, z H (Gr.refl E.tabs)⟩
      cases ns <;> rfl
    · cases hb
  · rename_i c hb
    split at hb <;> cases hb
  · exact z.elim
theorem pp_slen (i : Nat) (hg : Gl X "len") (hm : X.mg "len" = none) (hN : X.N[i]? = some x := by rfl) (hv : Vis X.env.scope x := by first | exact Or.inl rfl | exact Or.inr (Or.inl rfl) | exact Or.inr (Or.inr rfl)) (hd : (x == ("__debug__" : Str)) = false := by decide) (hcd : (x == ("__classdict__" : Str)) = false := by decide)
    (h1 : starEach [.Name x p2] X.env = (false, eval (.Name x p2) X.env) :: starEach [] X.env := by rfl) : PP X T W (.Call (.Name "len" p) [.Name x p2] [] pos) (rScr i fun ns => .ok (.int ns.length)) :=
  PE.of (pe_callB call_len_seq hg hm bb_len (pa_cons (pe_var hN hv hd hcd) pa_nil h1) (by decide) (by decide) h1 (by rfl)) fun σ H Q ⟨O, ρ, E, z⟩ => by
  unfold rScr at z
  split at z
  · rename_i d hb
    split at hb
    · rename_i ns hr
      cases hb
      obtain ⟨l, h1, h2⟩ := E.scr hr
      refine ⟨_, h1, l, _, rfl, .inl h2, ?_⟩
      rw [List.length_map]
      exact z _ H (Gr.refl E.tabs) (.int _)
    · cases hb
  · rename_i c hb
    split at hb <;> cases hb
  · exact z.elim
def rSix (i : Nat) (f : E0f) : E0f := fun ρ => match ρ[i]? with
  | some (some (.scr ns)) => (f ρ).bind fun d => (match d with
    | .int k => (match atI ns k with
      | some n => .ok (.int n)
      | none => .bad)
    | _ => .bad)
  | _ => .bad
theorem atI_map {α β : Type} (g : α → β) (xs : List α) (k : Int) : atI (xs.map g) k = (atI xs k).map g := by
  unfold atI
  rw [List.length_map]
  cases ixN xs.length k with
  | none => rfl
  | some n => simp
theorem pp_six (i : Nat) (hb : PP X T W b f) (hN : X.N[i]? = some x := by rfl) (hv : Vis X.env.scope x := by first | exact Or.inl rfl | exact Or.inr (Or.inl rfl) | exact Or.inr (Or.inr rfl)) (hd : (x == ("__debug__" : Str)) = false := by decide) (hcd : (x == ("__classdict__" : Str)) = false := by decide)
    (hs : PlainIx b := by exact fun _ _ => rfl) : PP X T W (.Subscript (.Name x p) b pos) (rSix i f) := PE.of (pe_ix ix_list (pe_var hN hv hd hcd) hb hs) fun σ H Q ⟨O, ρ, E, z⟩ => by
  unfold rSix at z
  cases hr : ρ[i]? with
  | none => rw [hr] at z; exact z.elim
  | some o =>
    rw [hr] at z
    rcases o with _ | s
    · exact z.elim
    · cases s with
      | scr ns =>
        dsimp only at z
        obtain ⟨l, h1, h2⟩ := E.scr hr
        refine ⟨_, h1, O, ρ, E, ?_⟩
        cases hf : f ρ with
        | bad => rw [hf] at z; exact z
        | exc c => rw [hf] at z; exact z
        | ok d =>
          rw [hf] at z
          simp only [R.bind_ok] at z
          cases d with
          | int k =>
            dsimp only at z
            intro v H1 s1 g1
            cases g1
            cases hk : atI ns k with
            | none => rw [hk] at z; exact z.elim
            | some n =>
              rw [hk] at z
              have h3 : SqL X.K H1 l (ns.map V.int) := by
                rcases h2 with (h2 | ⟨o, h2⟩) | h2
                · exact .inl (.inl (s1.ex _ _ h2 (fun _ z => by cases z)))
                · exact .inl (.inr ⟨o, s1.ex _ _ h2 (fun _ z => by cases z)⟩)
                · exact .inr h2
              exact ⟨l, _, k, .int n, rfl, rfl, h3, by rw [atI_map, hk]; rfl, z _ H1 s1 (.int n)⟩
          | _ => exact (show False from z).elim
      | _ => exact (show False from z).elim
end
end Rf

/-! Rf.M: the town: made, read, written; loops and stores with effects. -/
namespace Rf
open PySem PySem.Spec PyProof.Rows L2 LamX
/-! ### the town -/
def rget (rests : List (Int × Int)) (k : Int) : Option Int := (rests.find? fun p => decide (p.1 = k)).map (·.2)
def rput (rests : List (Int × Int)) (k v : Int) : List (Int × Int) := if (rests.any fun p => decide (p.1 = k)) = true then rests.map fun p => if p.1 = k then (p.1, v) else p else rests ++ [(k, v)]
def rtown (rests : List (Int × Int)) : List (Key × V) := rests.map fun p => (.inl p.1, .int p.2)
theorem rget_val (k : Int) : ∀ rests : List (Int × Int), valV (rtown rests) (.inl k) = (rget rests k).map V.int
  | [] => rfl
  | p :: r => by
    have ih := rget_val k r
    unfold rtown at ih ⊢
    rw [List.map_cons]
    by_cases h : p.1 = k
    · have e1 : valV ((Sum.inl p.1, V.int p.2) :: List.map (fun p => ((Sum.inl p.1 : Key), V.int p.2)) r) (.inl k) = some (.int p.2) := valV_pos (by simp [h])
      rw [e1]
      unfold rget
      simp [List.find?_cons, h]
    · have e1 : valV ((Sum.inl p.1, V.int p.2) :: List.map (fun p => ((Sum.inl p.1 : Key), V.int p.2)) r) (.inl k) = valV (List.map (fun p => ((Sum.inl p.1 : Key), V.int p.2)) r) (.inl k) := valV_neg (by simpa using h)
      rw [e1, ih]
      unfold rget
      simp [List.find?_cons, h]
theorem rput_put (rests : List (Int × Int)) (k v : Int) : putK (rtown rests) (.inl k) (.int v) = rtown (rput rests k v) := by
  have e : ((rtown rests).any fun kv => decide (kv.1 = (.inl k : Key))) = rests.any fun p => decide (p.1 = k) := by
    unfold rtown
    rw [List.any_map]
    congr 1
    funext p
    simp
  unfold putK rput
  rw [e]
  split
  · unfold rtown
    rw [List.map_map, List.map_map]
    refine List.map_congr_left fun p _ => ?_
    simp only [Function.comp]
    by_cases h : p.1 = k
    · simp [h]
    · simp [h]
  · unfold rtown
    simp
def rTown (i : Nat) (f : Int → List (Int × Int) → R D) : E0f := fun ρ => match ρ[i]? with
  | some (some (.town n rests)) => f n rests
  | _ => .bad
/-- town['rests'].get(a, d) -/
def rTget (i : Nat) (fa fd : E0f) : E0f := fun ρ => match ρ[i]? with
  | some (some (.town n rests)) => (fa ρ).bind fun k => (fd ρ).bind fun d => (match k with
    | .int k => .ok (match rget rests k with
      | some v => .int v
      | none => d)
    | _ => .bad)
  | _ => .bad
/-- town['count'] = e; town['rests'][a] = e -/
def sTcnt (i : Nat) (f : E0f) : Sf := fun ρ => match ρ[i]? with
  | some (some (.town n rests)) => (match f ρ with
    | .ok (.int m) => .ok .nx (ρ.set i (some (.town m rests)))
    | _ => .bad)
  | _ => .bad
def sTrest (i : Nat) (fa f : E0f) : Sf := fun ρ => match ρ[i]? with
  | some (some (.town n rests)) => (match f ρ with
    | .ok (.int m) => (match fa ρ with
      | .ok (.int k) => if rests.length < LIM then .ok .nx (ρ.set i (some (.town n (rput rests k m)))) else .bad
      | _ => .bad)
    | _ => .bad)
  | _ => .bad
section
variable {X : Cx} {T : Tk} {W : WX} {e a b c : Expr} {es : List Expr} {pos p p2 pos2 : Pos} {f g : E0f} {x : Str} {i j : Nat}
theorem EnvOk.town {G : Gc} {O : Own} {ρ : Rho} {σ : L2.St} {H : Hp} {n : Int} {rests : List (Int × Int)} (E : EnvOk G T O ρ σ H) (h : ρ[i]? = some (some (.town n rests))) :
    ∃ a b, σ[i]? = some (some (.ref a)) ∧ O a = some i ∧ O b = some i ∧ a ≠ b ∧ H a = some (.dK [(.inr "count", .int n), (.inr "rests", .ref b)]) ∧ H b = some (.dK (rtown rests)) := by
  obtain ⟨v, h1, a, b, rfl, h2⟩ := E.slot i _ h
  exact ⟨a, b, h1, h2⟩
theorem val_count {n : Int} {b : Addr} : valV [((.inr "count" : Key), V.int n), (.inr "rests", .ref b)] (.inr "count") = some (.int n) := valV_pos rfl
theorem val_rests {n : Int} {b : Addr} : valV [((.inr "count" : Key), V.int n), (.inr "rests", .ref b)] (.inr "rests") = some (.ref b) := (valV_neg (by show ¬ (Sum.inr "count" : Key) = .inr "rests"; decide)).trans (valV_pos rfl)
theorem put_count {n m : Int} {b : Addr} : putK [((.inr "count" : Key), V.int n), (.inr "rests", .ref b)] (.inr "count") (.int m) = [(.inr "count", .int m), (.inr "rests", .ref b)] := by
  have h : ¬ ((Sum.inr "rests" : Key) = .inr "count") := by decide
  unfold putK
  simp [h]
theorem pp_tcnt (i : Nat) {j1} (hu : X.A.units + 1 < cLine) (hN : X.N[i]? = some x := by rfl) (hv : Vis X.env.scope x := by first | exact Or.inl rfl | exact Or.inr (Or.inl rfl) | exact Or.inr (Or.inr rfl)) (hd : (x == ("__debug__" : Str)) = false := by decide) (hcd : (x == ("__classdict__" : Str)) = false := by decide)
    (hs : NoSl (.Constant (.str "count") j1 p2) := by exact fun _ _ => rfl) : PP X T W (.Subscript (.Name x p) (.Constant (.str "count") j1 p2) pos) (rTown i fun n _ => .ok (.int n)) := PE.of (pe_dget hu (pe_var hN hv hd hcd) pe_str hs) fun σ H Q ⟨O, ρ, E, z⟩ => by
  unfold rTown at z
  split at z
  · rename_i d hb
    split at hb
    · rename_i n rests hr
      cases hb
      obtain ⟨a, b, h1, h2, h3, h4, h5, h6⟩ := E.town hr
      refine ⟨_, h1, a, .int n, rfl, ?_, z _ H (Gr.refl E.tabs) (.int _)⟩
      have q := DGet.k (k := .inr "count") h5
      rw [val_count] at q
      exact q
    · cases hb
  · rename_i c hb
    split at hb <;> cases hb
  · exact z.elim
theorem pp_tget (i : Nat) {j1 : Nat} {apos cpos p3 pos3 : Pos} {fa fd : E0f} (hu : X.A.units + 1 < cLine) (ha : PP X T W a fa) (hb : PP X T W b fd) (m : M2 X (.Subscript (.Name x p) (.Constant (.str "rests") j1 p3) pos3) "get" apos a b cpos)
    (hN : X.N[i]? = some x := by rfl) (hv : Vis X.env.scope x := by first | exact Or.inl rfl | exact Or.inr (Or.inl rfl) | exact Or.inr (Or.inr rfl)) (hd : (x == ("__debug__" : Str)) = false := by decide) (hcd : (x == ("__classdict__" : Str)) = false := by decide)
    (hs : NoSl (.Constant (.str "rests") j1 p3) := by exact fun _ _ => rfl) : PP X T W (.Call (.Attribute (.Subscript (.Name x p) (.Constant (.str "rests") j1 p3) pos3) "get" apos) [a, b] [] cpos) (rTget i fa fd) :=
  PE.of (pe_dget2 hu (pe_dget hu (pe_var hN hv hd hcd) pe_str hs) ha hb m) fun σ H Q ⟨O, ρ, E, z⟩ => by
  unfold rTget at z
  cases hr : ρ[i]? with
  | none => rw [hr] at z; exact z.elim
  | some o =>
    rw [hr] at z
    rcases o with _ | s
    · exact z.elim
    · cases s with
      | town n rests =>
        dsimp only at z
        obtain ⟨a, b, h1, h2, h3, h4, h5, h6⟩ := E.town hr
        have q := DGet.k (k := .inr "rests") h5
        rw [val_rests] at q
        refine ⟨_, h1, a, .ref b, rfl, q, b, rfl, .inl ⟨_, .inl h6⟩, O, ρ, E, ?_⟩
        cases hf : fa ρ with
        | bad => rw [hf] at z; exact z
        | exc c => rw [hf] at z; exact z
        | ok k =>
          rw [hf] at z
          simp only [R.bind_ok] at z
          intro v H1 s1 g1
          refine ⟨O, ρ, E.same s1, ?_⟩
          cases hg : fd ρ with
          | bad => rw [hg] at z; exact z
          | exc c => rw [hg] at z; exact fun H' s' => z H' (s1.trans s')
          | ok d =>
            rw [hg] at z
            simp only [R.bind_ok] at z
            intro w H2 s2 g2
            cases k with
            | int k =>
              cases g1
              have h6' : H2 b = some (.dK (rtown rests)) := s2.ex _ _ (s1.ex _ _ h6 (fun _ z => by cases z)) (fun _ z => by cases z)
              have q2 := DGet.k (k := .inl k) h6'
              rw [rget_val] at q2
              refine ⟨_, q2, ?_⟩
              dsimp only at z
              cases hk : rget rests k with
              | none => rw [hk] at z; exact z _ H2 (s1.trans s2) g2
              | some u => rw [hk] at z; exact z _ H2 (s1.trans s2) (.int u)
            | _ => exact (show False from z).elim
      | _ => exact (show False from z).elim
theorem psd_tcnt (i : Nat) {j1 : Nat} (hu : X.A.units + 1 < cLine) (he : PP X T W e f) (hi9 : i < 900 := by decide) (hN : X.N[i]? = some x := by rfl) (hv : Vis X.env.scope x := by first | exact Or.inl rfl | exact Or.inr (Or.inl rfl) | exact Or.inr (Or.inr rfl)) (hd : (x == ("__debug__" : Str)) = false := by decide) (hcd : (x == ("__classdict__" : Str)) = false := by decide)
    (hs : swapsWith e (some (.Subscript (.Name x p) (.Constant (.str "count") j1 p2) pos2)) pos.line X.env = pure false := by rfl) :
    PSD X T W (.Assign [.Subscript (.Name x p) (.Constant (.str "count") j1 p2) pos2] e pos) (sTcnt i f) := PS.of (ps_dput hu (pe_var hN hv hd hcd) pe_str he hs) fun De σ H ⟨O, ρ, E, z⟩ => by
  unfold sTcnt at z
  cases hr : ρ[i]? with
  | none => rw [hr] at z; exact z.elim
  | some o =>
    rw [hr] at z
    rcases o with _ | s
    · exact z.elim
    · cases s with
      | town n rests =>
        dsimp only at z
        refine ⟨O, ρ, E, ?_⟩
        cases hf : f ρ with
        | bad => rw [hf] at z; exact z
        | exc c => rw [hf] at z; exact (show False from z).elim
        | ok d =>
          rw [hf] at z
          cases d with
          | int m =>
            intro v H1 s1 g1
            cases g1
            have E1 := E.same s1
            obtain ⟨a, b, h1, h2, h3, h4, h5, h6⟩ := E1.town hr
            refine ⟨_, h1, a, _, rfl, DPut.k (k := .inr "count") h5 (by show 2 < sizeLine; decide), ?_⟩
            rw [put_count]
            refine z O σ _ (s1.le.trans (Le.wr h2 hi9)) (E1.wr hi9 h2 h5 (fun _ z => by cases z) (fun _ _ z => by cases z) h1 ⟨a, b, rfl, h2, h3, h4, upd_same, ?_⟩)
            rw [upd_ne (Ne.symm h4)]
            exact h6
          | _ => exact (show False from z).elim
      | _ => exact (show False from z).elim
theorem psd_trest (i : Nat) {j1 : Nat} {fa : E0f} {p3 pos3 : Pos} (hu : X.A.units + 1 < cLine) (ha : PP X T W a fa) (he : PP X T W e f) (hi9 : i < 900 := by decide) (hN : X.N[i]? = some x := by rfl) (hv : Vis X.env.scope x := by first | exact Or.inl rfl | exact Or.inr (Or.inl rfl) | exact Or.inr (Or.inr rfl)) (hd : (x == ("__debug__" : Str)) = false := by decide) (hcd : (x == ("__classdict__" : Str)) = false := by decide)
    (hn : NoSl (.Constant (.str "rests") j1 p3) := by exact fun _ _ => rfl)
    (hs : swapsWith e (some (.Subscript (.Subscript (.Name x p) (.Constant (.str "rests") j1 p3) pos3) a pos2)) pos.line X.env = pure false := by rfl) :
    PSD X T W (.Assign [.Subscript (.Subscript (.Name x p) (.Constant (.str "rests") j1 p3) pos3) a pos2] e pos) (sTrest i fa f) := PS.of (ps_dput hu (pe_dget hu (pe_var hN hv hd hcd) pe_str hn) ha he hs) fun De σ H ⟨O, ρ, E, z⟩ => by
  unfold sTrest at z
  cases hr : ρ[i]? with
  | none => rw [hr] at z; exact z.elim
  | some o =>
    rw [hr] at z
    rcases o with _ | s
    · exact z.elim
    · cases s with
      | town n rests =>
        dsimp only at z
        refine ⟨O, ρ, E, ?_⟩
        cases hf : f ρ with
        | bad => rw [hf] at z; exact z
        | exc c => rw [hf] at z; exact (show False from z).elim
        | ok d =>
          rw [hf] at z
          cases d with
          | int m =>
            intro v H1 s1 g1
            cases g1
            have E1 := E.same s1
            obtain ⟨a, b, h1, h2, h3, h4, h5, h6⟩ := E1.town hr
            have q := DGet.k (k := .inr "rests") h5
            rw [val_rests] at q
            refine ⟨_, h1, a, .ref b, rfl, q, O, ρ, E1, ?_⟩
            dsimp only at z
            cases hg : fa ρ with
            | bad => rw [hg] at z; exact z
            | exc c => rw [hg] at z; exact (show False from z).elim
            | ok k =>
              rw [hg] at z
              cases k with
              | int k =>
                dsimp only at z
                intro w H2 s2 g2
                cases g2
                by_cases hl : rests.length < LIM
                · rw [if_pos hl] at z
                  have E2 := E1.same s2
                  have h6' : H2 b = some (.dK (rtown rests)) := s2.ex _ _ h6 (fun _ z => by cases z)
                  have h5' : H2 a = some _ := s2.ex _ _ h5 (fun _ z => by cases z)
                  refine ⟨b, _, rfl, DPut.k (k := .inl k) h6' ?_, ?_⟩
                  · unfold rtown
                    rw [List.length_map]
                    exact Nat.lt_of_lt_of_le hl (by decide)
                  rw [rput_put]
                  refine z O σ _ ((s1.trans s2).le.trans (Le.wr h3 hi9)) (E2.wr hi9 h3 h6' (fun _ z => by cases z) (fun _ _ z => by cases z) h1 ⟨a, b, rfl, h2, h3, h4, ?_, upd_same⟩)
                  rw [upd_ne h4]
                  exact h5'
                · rw [if_neg hl] at z
                  exact z.elim
              | _ => exact (show False from z).elim
          | _ => exact (show False from z).elim
      | _ => exact (show False from z).elim
end
/-! ### loops, stores with effects -/
abbrev IEf := Rho → Res (List D)
def iE (G : Gc) (T : Tk) (W : WX) (f : IEf) : TI := fun σ H R => ∃ O ρ, EnvOk G T O ρ σ H ∧ match f ρ with
  | .ok ds r => ∀ J O1 H1, Le O H O1 H1 → EnvOk G T O1 r σ H1 → WalkD G.K O1 J ds H1 → R J H1
  | .exc c r => ∀ O' H', Le O H O' H' → EnvOk G T O' r σ H' → exW G W c σ H'
  | .bad => False
def ieR1 (f : Ef) : IEf := fun ρ => (f ρ).bind fun d r => match d with
  | .int n => if -(LIM : Int) ≤ n ∧ n ≤ LIM then .ok (intsD 0 n.toNat) r else .bad
  | _ => .bad
def sForE (fi : IEf) (g : Tg) (body : Sf) (fg : List Nat) : Sf := fun ρ => (fi ρ).bind fun ds r => loopF g body fg ds r
def setD : Rho → List Nat → List D → Option Rho
  | r, [], [] => some r
  | r, i :: is, d :: ds => setD (r.set i (some (.dat d))) is ds
  | _, _, _ => none
def sParE (is : List Nat) (a : Rho → Res (List D)) : Sf := fun ρ => (a ρ).bind fun ds r => match setD r is ds with
  | some r' => .ok .nx r'
  | none => .bad
/-- x.append(e), e with effects -/
def eAppE (i : Nat) (f : Ef) : Ef := fun ρ => match ρ[i]? with
  | some (some (.lst _)) => (f ρ).bind fun d r => (match r[i]? with
    | some (some (.lst ds)) => if ds.length < LIM then .ok .none (r.set i (some (.lst (ds ++ [d])))) else .bad
    | _ => .bad)
  | _ => .bad
section
variable {X : Cx} {T : Tk} {W : WX} {e a b c tg : Expr} {es : List Expr} {pos p p2 pos2 apos cpos : Pos} {x y w : Str} {i j k : Nat} {st : Stmt} {sts : List Stmt} {s : Sf} {g : Tg} {vs fg : List Nat} {px py pz pt pt2 : Pos} {kt k2 : Nat}
end
/-! ### the town is made -/
def spB : Sp := fun vs H Q E => vs = [] ∧ ∀ p q, H p = none → H q = none → p ≠ q → Q (.ref p) (upd (upd (upd H p (.dK [])) q (.dK [])) p (.dK [(.inr "count", .int 0), (.inr "rests", .ref q)]))
structure CalB (P : Program) (w : World) (K : PySem.W.Frag) (mg : Str → Option Value) (base : Heap) (x : Str) (k : Nat) : Prop where
  ex : ∃ (f : Addr) (fd : FuncData), FnOk P w K mg base (L2.CX P w) k f fd [] spB ∧ mg x = some (.ref f) ∧ PySem.W.keepIn K (.ref f) = true ∧ L2.Binds K fd [] []
def nTown : Nf := fun ρ => .ok (.town 0 []) ρ
section
variable {X : Cx} {T : Tk} {W : WX} {pos p : Pos} {x : Str} {i j k : Nat}
theorem pn_begun (c : CalB X.prog X.w X.K X.mg X.base x k) (hr : Room j X.A) (hk : k ≤ j) (hg : Gl X x) (tk : Takes X W) (hdb : (x == ("__debug__" : Str)) = false := by decide) : PN X T W i (.Call (.Name x p) [] [] pos) nTown := by
  obtain ⟨f, fd, F, h1, h2, h3⟩ := c.ex
  refine ⟨fun pins s σ H Q I ⟨O, ρ, E, z⟩ => ?_⟩
  have sp : spB [] H Q (WE W σ) := ⟨rfl, fun a b ha hb ne => by
    have hb1 : upd H a (.dK []) b = none := by rw [upd_ne (Ne.symm ne)]; exact hb
    have E1 : EnvOk (gc X) T (own1 O a (some i)) ρ σ (upd H a (.dK [])) := E.own (nt_none ha) (Gr.of E.tabs (same_new ha)) ⟨_, upd_same, fun _ q => by cases q⟩
    have E2 : EnvOk (gc X) T (own1 (own1 O a (some i)) b (some i)) ρ σ (upd (upd H a (.dK [])) b (.dK [])) := E1.own (nt_none hb1) (Gr.of E1.tabs (same_new hb1)) ⟨_, upd_same, fun _ q => by cases q⟩
    have oa : own1 (own1 O a (some i)) b (some i) a = some i := by rw [own1_ne ne, own1_same]
    have ha2 : upd (upd H a (.dK [])) b (.dK []) a = some (.dK []) := by rw [upd_ne ne, upd_same]
    have ex : Same H (upd (upd (upd H a (.dK [])) b (.dK [])) a (.dK [(.inr "count", .int 0), (.inr "rests", .ref b)])) := fun c o hc => by
      rw [upd_ne (ne_of_none hc ha), upd_ne (ne_of_none hc hb), upd_ne (ne_of_none hc ha)]
      exact hc
    refine z _ (own1 (own1 O a (some i)) b (some i)) _ ⟨same_th ex, fun c hc _ => ?_, fun c o hc _ _ => ex c o hc⟩ ⟨fun k s hs => ?_, ?_, fun c k hc => ?_, E.len, E.kept⟩ ⟨a, b, rfl, oa, own1_same, ne, upd_same, ?_⟩
    · rw [own1_ne (fun q => hc.not (by rw [q]; exact hb)), own1_ne (fun q => hc.not (by rw [q]; exact ha))]
    · obtain ⟨v, q1, q2⟩ := E.slot k s hs
      refine ⟨v, q1, ?_⟩
      exact ((q2.own (nt_none ha) (E.fresh a ha)).own (nt_none hb) (by rw [own1_ne (Ne.symm ne)]; exact E.fresh b hb)).ext (ExtN.of ex)
    · exact E.tabs.ext ex
    · by_cases c1 : c = a
      · rw [c1]; exact ⟨_, upd_same, fun _ q => by cases q⟩
      · by_cases c2 : c = b
        · rw [c2]; exact ⟨_, by rw [upd_ne (Ne.symm ne), upd_same], fun _ q => by cases q⟩
        · rw [own1_ne c2, own1_ne c1] at hc
          exact same_th ex c (E.own_ c k hc)
    · rw [upd_ne (Ne.symm ne), upd_same]
      rfl⟩
  refine wpAny_Call_Name_kw (ld_glob I hg h1 ?_ hdb)
  exact PySem.W.callWith_K0 I.kIn h2 (run_fnS (us := []) F (hr.mono hk) h3 (passAt tk σ) I .nil sp)
end
end Rf

/-! Rf.N: name = [..], the list the name's own; the def that makes the town. -/
namespace Rf
open PySem PySem.Spec PyProof.Rows L2 LamX
section
variable {X : Cx} {T : Tk} {W : WX} {e tg : Expr} {pos p : Pos} {x : Str} {i : Nat}
end
theorem calB_of {P : Program} {w : World} {K : PySem.W.Frag} {mg : Str → Option Value} {base : Heap} {x : Str} {params : Arguments} {scope : Scope} {f : Addr} {fd : FuncData} {N : List Str} {pos p0 p1 p2 p3 p4 : Pos} {j0 j1 j2 : Nat}
    (F : FunD K x x params [.Return (some (.Dict [some (.Constant (.str "count") j0 p0), some (.Constant (.str "rests") j1 p1)] [.Constant (.int 0) j2 p2, .Dict [] [] p3] p4)) pos] scope [] [] f fd) (S : FnScope N [] scope) (hg : mg x = some (.ref f))
    (h1 : ∀ (kV doc pm : Value) (an : Option Addr) (cdv ct : Value), bindArgs (PySem.W.fnOf x x params [.Return (some (.Dict [some (.Constant (.str "count") j0 p0), some (.Constant (.str "rests") j1 p1)] [.Constant (.int 0) j2 p2, .Dict [] [] p3] p4)) pos] scope .none kV doc pm an cdv ct) ⟨[], []⟩ = pure []) :
    CalB P w K mg base x 1 := by
  refine ⟨f, fd, F.ok S (fun vs H Q E h => by rw [h.1]; rfl) fun cdv A outer s0 H vs Q E hr h => ⟨_, pss_one (ps_ret (pe_disp (pps_cons pe_str pe_int (pps_cons pe_str pe_dnewK pps_nil)) rfl rfl (by simp) (by show 2 ≤ 15; decide))), ?_⟩, hg, F.kp, F.bindsN fun kV doc pm an cdv ct us hl => ?_⟩
  · obtain ⟨rfl, h⟩ := h
    intro q hq p hp
    have np : p ≠ q := fun z => by rw [z, upd_same] at hp; cases hp
    have hp0 : H p = none := by rw [upd_ne np] at hp; exact hp
    refine ⟨by rw [upd_ne (Ne.symm np), upd_same], [(.inr "count", .int 0), (.inr "rests", .ref p)], rfl, by show 2 ≤ 15; decide, ?_⟩
    exact h q p hq hp0 (Ne.symm np)
  · have : us = [] := List.length_eq_zero_iff.mp hl
    subst this
    exact h1 kV doc pm an cdv ct
theorem bb_sorted : bootBuiltins "sorted" = some (.builtin "sorted") := by decide +kernel
end Rf

/-! Rf.O: dicts with ints and texts as keys: made, written, read, walked. -/
namespace Rf
open PySem PySem.Spec PyProof.Rows L2 LamX
abbrev DkR (K : PySem.W.Frag) (O : Own) (H : Hp) : List (Key × V) → List (Key × D) → Prop := Paired fun p q => p.1 = q.1 ∧ Gd K O H p.2 q.2
section
variable {K : PySem.W.Frag} {O : Own} {H : Hp}
theorem dk_to : ∀ {kvs : List (Key × D)} {xs : List V}, GdAll K O H xs (kvs.map (·.2)) → DkR K O H ((kvs.map (·.1)).zip xs) kvs
  | [], _, g => by cases g; exact .nil
  | p :: r, _, g => by
    cases g with
    | cons a b => exact .cons ⟨rfl, a⟩ (dk_to b)
theorem dk_from : ∀ {l : List (Key × V)} {kvs : List (Key × D)}, DkR K O H l kvs → ∃ xs, l = (kvs.map (·.1)).zip xs ∧ GdAll K O H xs (kvs.map (·.2))
  | _, _, .nil => ⟨[], rfl, .nil⟩
  | p :: l, q :: kvs, .cons h t => by
    obtain ⟨xs, e, g⟩ := dk_from t
    refine ⟨p.2 :: xs, ?_, .cons h.2 g⟩
    rw [e]
    show p :: _ = (q.1, p.2) :: _
    rw [← h.1]
    rfl
theorem DkR.any {l : List (Key × V)} {kvs : List (Key × D)} (q : Key) (h : DkR K O H l kvs) : (l.any fun kv => decide (kv.1 = q)) = kvs.any fun kv => decide (kv.1 = q) := by
  induction h with
  | nil => rfl
  | cons a t ih => rw [List.any_cons, List.any_cons, ih, a.1]
def putD (kvs : List (Key × D)) (q : Key) (d : D) : List (Key × D) := if (kvs.any fun kv => decide (kv.1 = q)) = true then kvs.map fun kv => if kv.1 = q then (kv.1, d) else kv else kvs ++ [(q, d)]
theorem DkR.repl {l : List (Key × V)} {kvs : List (Key × D)} {q : Key} {v : V} {d : D} (h : DkR K O H l kvs) (g : Gd K O H v d) : DkR K O H (l.map fun kv => if kv.1 = q then (kv.1, v) else kv) (kvs.map fun kv => if kv.1 = q then (kv.1, d) else kv) := by
  induction h with
  | nil => exact .nil
  | @cons p r ps rs a t ih =>
    refine .cons ?_ ih
    dsimp only
    by_cases e : p.1 = q
    · rw [if_pos e, if_pos (a.1 ▸ e)]; exact ⟨a.1, g⟩
    · rw [if_neg e, if_neg (fun z => e (a.1.trans z))]; exact a
theorem DkR.snoc {l : List (Key × V)} {kvs : List (Key × D)} {q : Key} {v : V} {d : D} (h : DkR K O H l kvs) (g : Gd K O H v d) : DkR K O H (l ++ [(q, v)]) (kvs ++ [(q, d)]) := by
  induction h with
  | nil => exact .cons ⟨rfl, g⟩ .nil
  | cons a t ih => exact .cons a ih
theorem DkR.put {l : List (Key × V)} {kvs : List (Key × D)} {q : Key} {v : V} {d : D} (h : DkR K O H l kvs) (g : Gd K O H v d) : DkR K O H (putK l q v) (putD kvs q d) := by
  unfold putK putD
  rw [h.any q]
  split
  · exact h.repl g
  · exact h.snoc g
theorem putD_len (kvs : List (Key × D)) (q : Key) (d : D) : (putD kvs q d).length ≤ kvs.length + 1 := by
  unfold putD
  split
  · rw [List.length_map]; omega
  · simp
end
/-! ### made -/
def mDic0 : Mf := fun _ => .ok (.dic [])
def mDic1 (fk fv : E0f) : Mf := fun ρ => (fk ρ).bind fun k => (fv ρ).bind fun d => match keyOf k with
  | some q => .ok (.dic [(q, d)])
  | none => .bad
section
variable {X : Cx} {T : Tk} {W : WX} {e a b c tg : Expr} {es : List Expr} {pos p p2 pos2 : Pos} {f g fk fv : E0f} {x : Str} {i j : Nat}
end
/-! ### written -/
def sDput (i : Nat) (fk fv : E0f) : Sf := fun ρ => match ρ[i]? with
  | some (some (.dic kvs)) => (match fv ρ with
    | .ok d => (match fk ρ with
      | .ok k => (match keyOf k with
        | some q => if kvs.length < LIM then .ok .nx (ρ.set i (some (.dic (putD kvs q d)))) else .bad
        | none => .bad)
      | .exc c => .exc c ρ
      | .bad => .bad)
    | .exc c => .exc c ρ
    | .bad => .bad)
  | _ => .bad
section
variable {X : Cx} {T : Tk} {W : WX} {e a b c tg : Expr} {es : List Expr} {pos p p2 pos2 : Pos} {f g fk fv : E0f} {x : Str} {i j : Nat}
theorem EnvOk.dic {G : Gc} {O : Own} {ρ : Rho} {σ : L2.St} {H : Hp} {kvs : List (Key × D)} (E : EnvOk G T O ρ σ H) (h : ρ[i]? = some (some (.dic kvs))) :
    ∃ a l, σ[i]? = some (some (.ref a)) ∧ O a = some i ∧ H a = some (.dK l) ∧ DkR G.K O H l kvs ∧ kvs.length ≤ LIM := by
  obtain ⟨v, h1, a, xs, rfl, h2, h3, h4, h5⟩ := E.slot i _ h
  exact ⟨a, _, h1, h2, h3, dk_to h4, h5⟩
theorem DkR.length {K : PySem.W.Frag} {O : Own} {H : Hp} {l : List (Key × V)} {kvs : List (Key × D)} (h : DkR K O H l kvs) : l.length = kvs.length := Paired.length h
end
/-! ### no longer written -/
def dicD (kvs : List (Key × D)) : D := .dict ((kvs.map fun p => kD p.1).zip (kvs.map (·.2)))
def frzD (ρ : Rho) (i : Nat) : Rho := match ρ[i]? with
  | some (some (.dic kvs)) => ρ.set i (some (.dat (dicD kvs)))
  | _ => ρ
def sFzD (i : Nat) (s : Sf) : Sf := fun ρ => s (frzD ρ i)
section
variable {X : Cx} {T : Tk} {W : WX} {st : Stmt} {sts : List Stmt} {s : Sf} {i : Nat}
theorem EnvOk.frzD {G : Gc} {O : Own} {ρ : Rho} {σ : L2.St} {H : Hp} (E : EnvOk G T O ρ σ H) (hi : i < 900) : ∃ O', Le O H O' H ∧ EnvOk G T O' (frzD ρ i) σ H := by
  unfold Rf.frzD
  split
  · rename_i kvs hr
    obtain ⟨v, h1, l, xs, rfl, h2, h3, h4, h5⟩ := E.slot i _ hr
    refine ⟨own1 O l none, Le.off h2 hi, ⟨fun j t e => ?_, E.tabs, fun a k h => ?_, by rw [List.length_set]; exact E.len, E.kept⟩⟩
    · by_cases hj : j = i
      · subst hj
        have hb : j < ρ.length := (List.getElem?_eq_some_iff.mp hr).1
        rw [List.getElem?_set_self hb] at e
        cases e
        refine ⟨_, h1, ?_⟩
        have e2 : dicD kvs = .dict (((kvs.map (·.1)).map kD).zip (kvs.map (·.2))) := by
          unfold dicD
          rw [List.map_map]
          rfl
        show Gd G.K (own1 O l none) H (.ref l) (dicD kvs)
        rw [e2]
        refine .dic ⟨.inl h3, own1_same⟩ ?_ h4.off (by simpa using h5)
        have := h4.length
        simp at this ⊢
        exact this.symm
      · rw [List.getElem?_set_ne (Ne.symm hj)] at e
        obtain ⟨w, q1, q2⟩ := E.slot j t e
        exact ⟨w, q1, q2.off h2 hi hj⟩
    · unfold own1 at h
      split at h
      · cases h
      · exact E.own_ a k h
  · exact ⟨O, Le.refl, E⟩
end
/-! ### walked -/
theorem GdAll.chg {K : PySem.W.Frag} {O : Own} {H H' : Hp} (f : ∀ v x, Gd K O H v x → Gd K O H' v x) : ∀ {vs : List V} {ds : List D}, GdAll K O H vs ds → GdAll K O H' vs ds
  | _, _, .nil => .nil
  | _, _, .cons a b => .cons (f _ _ a) (GdAll.chg f b)
theorem SlotOk.chg {G : Gc} {O : Own} {H H' : Hp} {i : Nat} {v : V} {s : Sl} (f : ∀ v x, Gd G.K O H v x → Gd G.K O H' v x) (kp : ∀ a o n, (n = i ∨ n = 1000 + i) → O a = some n → H a = some o → H' a = some o) (ks : ∀ a xs, QS G.K O H a xs → QS G.K O H' a xs) (h : SlotOk G O H i v s) : SlotOk G O H' i v s := by
  cases s with
  | dat d => exact f _ _ h
  | lst ds => obtain ⟨a, xs, h1, h2, h3, h4, h5⟩ := h; exact ⟨a, xs, h1, h2, kp _ _ _ (.inl rfl) h2 h3, h4.chg f, h5⟩
  | fn x => exact h
  | scr ns => obtain ⟨a, h1, h2⟩ := h; exact ⟨a, h1, ks _ _ h2⟩
  | dic kvs => obtain ⟨a, xs, h1, h2, h3, h4, h5⟩ := h; exact ⟨a, xs, h1, h2, kp _ _ _ (.inl rfl) h2 h3, h4.chg f, h5⟩
  | nkd lk kvs => obtain ⟨a, xs, h1, h2, h3, h4, h5, h6⟩ := h; exact ⟨a, xs, h1, h2, h3, h4.keep (fun o q _ => kp _ _ _ (by cases lk with | true => exact .inr rfl | false => exact .inl rfl) h2 q), h5.map f, h6⟩
  | town n rests => obtain ⟨a, b, h1, h2, h3, h4, h5, h6⟩ := h; exact ⟨a, b, h1, h2, h3, h4, kp _ _ _ (.inl rfl) h2 h5, kp _ _ _ (.inl rfl) h3 h6⟩
  | desk ba th li dn un =>
    obtain ⟨a, C, dx, p, q, vb, vt, vl, xs, ys, h1, h2, h3, h4, h5, h6, h7, h8, h9, h10, h11, h12, h13, h14, h15, h16, h17⟩ := h
    exact ⟨a, C, dx, p, q, vb, vt, vl, xs, ys, h1, h2, h3, h4, h5, h6, h7, h8, kp _ _ _ (.inl rfl) h2 h9, kp _ _ _ (.inl rfl) h3 h10, kp _ _ _ (.inl rfl) h4 h11, f _ _ h12, f _ _ h13, f _ _ h14, h15.chg f, h16.chg f, h17⟩
section
variable {K : PySem.W.Frag} {O : Own} {H : Hp} {d : Addr} {od : Obj} {l : List (Key × V)}
mutual
theorem Gd.lock (hd : H d = some (.dK l)) : ∀ {v : V} {x : D}, Gd K O H v x → Gd K O (upd H d (.frz od (.dK l))) v x
  | _, _, .non => .non
  | _, _, .bl b => .bl b
  | _, _, .int i => .int i
  | _, _, .str x => .str x
  | _, _, .lst (a := a) q g z => .lst ⟨by
      have ne : a ≠ d := fun e => by have h := q.1; rw [e, hd] at h; cases h
      rw [upd_ne ne]; exact q.1, q.2⟩ (GdAll.lock hd g) z
  | _, _, .tup (a := a) q g z => .tup (q.elim (fun ⟨o, ho, q⟩ => .inl ⟨o, ho, by
      have ne : a ≠ d := fun e => by have h := q.1; rw [e, hd] at h; cases h
      rw [upd_ne ne]; exact q.1, q.2⟩) .inr) (GdAll.lock hd g) z
  | _, _, .dic (a := a) q e g z => .dic ⟨by
      by_cases ne : a = d
      · rcases q.1 with h | ⟨o, h⟩
        · rw [ne, hd] at h
          cases h
          rw [ne]
          exact .inr ⟨od, upd_same⟩
        · rw [ne, hd] at h
          cases h
      · rcases q.1 with h | ⟨o, h⟩
        · exact .inl (by rw [upd_ne ne]; exact h)
        · exact .inr ⟨o, by rw [upd_ne ne]; exact h⟩, q.2⟩ e (GdAll.lock hd g) z
theorem GdAll.lock (hd : H d = some (.dK l)) : ∀ {v : List V} {x : List D}, GdAll K O H v x → GdAll K O (upd H d (.frz od (.dK l))) v x
  | _, _, .nil => .nil
  | _, _, .cons a b => .cons (Gd.lock hd a) (GdAll.lock hd b)
end
mutual
theorem Gd.unlock (hd : H d = some (.frz od (.dK l))) : ∀ {v : V} {x : D}, Gd K O H v x → Gd K O (upd H d (.dK l)) v x
  | _, _, .non => .non
  | _, _, .bl b => .bl b
  | _, _, .int i => .int i
  | _, _, .str x => .str x
  | _, _, .lst (a := a) q g z => .lst ⟨by
      have ne : a ≠ d := fun e => by have h := q.1; rw [e, hd] at h; cases h
      rw [upd_ne ne]; exact q.1, q.2⟩ (GdAll.unlock hd g) z
  | _, _, .tup (a := a) q g z => .tup (q.elim (fun ⟨o, ho, q⟩ => .inl ⟨o, ho, by
      have ne : a ≠ d := fun e => by have h := q.1; rw [e, hd] at h; cases h
      rw [upd_ne ne]; exact q.1, q.2⟩) .inr) (GdAll.unlock hd g) z
  | _, _, .dic (a := a) q e g z => .dic ⟨by
      by_cases ne : a = d
      · rcases q.1 with h | ⟨o, h⟩
        · rw [ne, hd] at h
          cases h
        · rw [ne, hd] at h
          cases h
          rw [ne]
          exact .inl upd_same
      · rcases q.1 with h | ⟨o, h⟩
        · exact .inl (by rw [upd_ne ne]; exact h)
        · exact .inr ⟨o, by rw [upd_ne ne]; exact h⟩, q.2⟩ e (GdAll.unlock hd g) z
theorem GdAll.unlock (hd : H d = some (.frz od (.dK l))) : ∀ {v : List V} {x : List D}, GdAll K O H v x → GdAll K O (upd H d (.dK l)) v x
  | _, _, .nil => .nil
  | _, _, .cons a b => .cons (Gd.unlock hd a) (GdAll.unlock hd b)
end
end
theorem qs_chg {K : PySem.W.Frag} {O : Own} {H : Hp} {d a : Addr} {xs : List V} {o' : HO} (hd : ∀ o, H d = some o → (∀ ys, o ≠ .lst ys) ∧ ∀ q ys, o ≠ .frz q (.lst ys)) (h : QS K O H a xs) : QS K O (upd H d o') a xs := by
  rcases h with ⟨h | ⟨o, h⟩, n⟩ | h
  · have ne : a ≠ d := fun e => by rw [e] at h; exact (hd _ h).1 _ rfl
    exact .inl ⟨.inl (by rw [upd_ne ne]; exact h), n⟩
  · have ne : a ≠ d := fun e => by rw [e] at h; exact (hd _ h).2 _ _ rfl
    exact .inl ⟨.inr ⟨o, by rw [upd_ne ne]; exact h⟩, n⟩
  · exact .inr h
section
variable {G : Gc} {T : Tk} {O : Own} {ρ : Rho} {σ : L2.St} {H : Hp} {d : Addr} {od : Obj} {l : List (Key × V)}
theorem EnvOk.lock (E : EnvOk G T O ρ σ H) (hd : H d = some (.dK l)) (no : O d = none) : EnvOk G T O ρ σ (upd H d (.frz od (.dK l))) where
  slot := fun i s h => by
    obtain ⟨v, h1, h2⟩ := E.slot i s h
    refine ⟨v, h1, h2.chg (fun _ _ g => g.lock hd) (fun a o n _ h3 h4 => ?_) fun a xs q => qs_chg (fun o e => ?_) q⟩
    · rw [upd_ne (fun e => by rw [e, no] at h3; cases h3)]
      exact h4
    · rw [hd] at e
      cases e
      exact ⟨fun _ z => (by cases z), fun _ _ z => (by cases z)⟩
  tabs := tabs_wr E.tabs hd (fun _ z => by cases z) (fun _ _ z => by cases z)
  own_ := fun a k h => by
    by_cases e : a = d
    · rw [e]; exact ⟨_, upd_same, fun _ z => by cases z⟩
    · obtain ⟨u, q, t⟩ := E.own_ a k h
      exact ⟨u, by rw [upd_ne e]; exact q, t⟩
  len := E.len
  kept := E.kept
theorem EnvOk.unlock (E : EnvOk G T O ρ σ H) (hd : H d = some (.frz od (.dK l))) (no : O d = none) : EnvOk G T O ρ σ (upd H d (.dK l)) where
  slot := fun i s h => by
    obtain ⟨v, h1, h2⟩ := E.slot i s h
    refine ⟨v, h1, h2.chg (fun _ _ g => g.unlock hd) (fun a o n _ h3 h4 => ?_) fun a xs q => qs_chg (fun o e => ?_) q⟩
    · rw [upd_ne (fun e => by rw [e, no] at h3; cases h3)]
      exact h4
    · rw [hd] at e
      cases e
      exact ⟨fun _ z => (by cases z), fun _ _ z => (by cases z)⟩
  tabs := tabs_wr E.tabs hd (fun _ z => by cases z) (fun _ _ z => by cases z)
  own_ := fun a k h => by
    by_cases e : a = d
    · rw [e]; exact ⟨_, upd_same, fun _ z => by cases z⟩
    · obtain ⟨u, q, t⟩ := E.own_ a k h
      exact ⟨u, by rw [upd_ne e]; exact q, t⟩
  len := E.len
  kept := E.kept
end
/-- the ends of a statement that runs while the dict at d is locked -/
def lkEnds (De : Ends) (d : Addr) (u : HO) (od : Obj) : Ends := ⟨fun σ' H' => H' d = some (.frz od u) ∧ De.nx σ' (upd H' d u), fun v H' => H' d = some (.frz od u) ∧ De.rt v (upd H' d u), fun σ' H' => H' d = some (.frz od u) ∧ De.bk σ' (upd H' d u), fun σ' H' => H' d = some (.frz od u) ∧ De.ct σ' (upd H' d u)⟩
def noExc : Res Flw → Res Flw
  | .exc _ _ => .bad
  | r => r
def sForK (i : Nat) (g : Tg) (body : Sf) (fg : List Nat) : Sf := fun ρ => match ρ[i]? with
  | some (some (.dat (.dict kvs))) => noExc (loopF g body fg (kvs.map (·.1)) ρ)
  | _ => .bad
theorem PS.or {X : Cx} {st : Stmt} {t u : TS} (h : PS X st t) (h' : PS X st u) : PS X st (fun D σ H => t D σ H ∨ u D σ H) := ⟨fun pins s σ H D I z => z.elim (h.run pins s σ H D I) (h'.run pins s σ H D I)⟩
section
variable {X : Cx} {T : Tk} {W : WX} {tg : Expr} {pos p : Pos} {sts : List Stmt} {s : Sf} {g : Tg} {vs fg : List Nat} {x : Str}
end
end Rf

/-! Rf.P: dicts with tuples as keys: made, written, read. -/
namespace Rf
open PySem PySem.Spec PyProof.Rows L2 LamX
section
variable {X : Cx} {pins : List (Addr × Obj)} {σ : L2.St} {H : Hp} {s : Shared} {O : Own}
mutual
theorem gd_nk (I : Inv X pins σ H s) : ∀ {v : V} {d : D}, Gd X.K O H v d → ∀ {u : Value} {k : NestedKey}, RelV v u → nkOf d = some k → NestedIs s.heap k u
  | _, _, .non, _, _, r, h => by
    cases h
    cases (show _ = Value.none from r)
    exact .none
  | _, _, .bl b, _, _, r, h => by
    cases h
    cases (show _ = Value.bool b from r)
    exact .bool rfl
  | _, _, .int i, _, _, r, h => by
    cases h
    obtain ⟨t, rfl⟩ := r
    exact .int i t
  | _, _, .str x, _, _, r, h => by
    cases h
    obtain ⟨t, rfl⟩ := r
    exact .text x t
  | _, _, .lst _ _ _, _, _, _, h => by simp [nkOf] at h
  | _, _, .dic _ _ _ _, _, _, _, h => by simp [nkOf] at h
  | _, _, .tup (a := a) (xs := xs) (ds := ds) q g _, u, k, r, h => by
    obtain rfl : u = Value.ref a := r
    simp only [nkOf, Option.map_eq_some_iff] at h
    obtain ⟨ks, h1, rfl⟩ := h
    obtain ⟨its, rv, ⟨o, ho, hc, n, hd⟩, _⟩ := I.tuple q.sq
    exact .tup ho hc hd (by simpa using gd_nks I g rv h1)
theorem gd_nks (I : Inv X pins σ H s) : ∀ {vs : List V} {ds : List D}, GdAll X.K O H vs ds → ∀ {us : List Value} {ks : List NestedKey}, Vals vs us → nkAll ds = some ks → NestedAll s.heap ks us
  | _, _, .nil, _, _, r, h => by
    cases r
    simp [nkAll] at h
    subst h
    exact .nil
  | _, _, .cons (d := d) (ds := ds) a b, _, _, r, h => by
    cases r with
    | cons r t =>
      unfold nkAll at h
      split at h
      · rename_i k ks h1 h2
        cases h
        exact .cons (gd_nk I a r h1) (gd_nks I b t h2)
      · cases h
end
end
theorem paired_map {α β γ δ : Type} {F : α → β → Prop} {G : γ → δ → Prop} {f : α → γ} {g : β → δ} {l : List α} {m : List β} (h : Paired F l m) (k : ∀ a b, F a b → G (f a) (g b)) : Paired G (l.map f) (m.map g) := by
  induction h with
  | nil => exact .nil
  | cons a t ih => exact .cons (k _ _ a) ih
theorem paired_snoc {α β : Type} {F : α → β → Prop} {l : List α} {m : List β} {a : α} {b : β} (h : Paired F l m) (k : F a b) : Paired F (l ++ [a]) (m ++ [b]) := by
  induction h with
  | nil => exact .cons k .nil
  | cons a t ih => exact .cons a ih
/-- a tuple as a key -/
def nkT : D → Option NestedKey
  | .tuple ds => match nkOf (.tuple ds) with
    | some k => if k.depth ≤ 8 then some k else none
    | none => none
  | _ => none
theorem nkT_of {d : D} {k : NestedKey} (h : nkT d = some k) : (∃ ds, d = .tuple ds) ∧ nkOf d = some k ∧ k.depth ≤ 8 := by
  unfold nkT at h
  split at h
  · rename_i ds
    split at h
    · rename_i k' h1
      split at h
      · rename_i h2
        cases h
        exact ⟨⟨ds, rfl⟩, h1, h2⟩
      · cases h
    · cases h
  · cases h
theorem gd_ref {K : PySem.W.Frag} {O : Own} {H : Hp} {v : V} {ds : List D} (g : Gd K O H v (.tuple ds)) : ∃ b, v = .ref b := by
  cases g with
  | tup => exact ⟨_, rfl⟩
def nGet : List (D × D) → NestedKey → Option D
  | [], _ => none
  | (k, d) :: r, q => if nkOf k = some q then some d else nGet r q
/-- a store: an old key keeps its place -/
def nPut (kvs : List (D × D)) (q : NestedKey) (k d : D) : List (D × D) := if (nGet kvs q).isSome = true then kvs.map fun p => if nkOf p.1 = some q then (p.1, d) else p else kvs ++ [(k, d)]
def eGet (es : List (NestedKey × Addr × V)) (q : NestedKey) : Option V := (es.find? fun e => decide (e.1 = q)).map (·.2.2)
def ePut (es : List (NestedKey × Addr × V)) (q : NestedKey) (b : Addr) (v : V) : List (NestedKey × Addr × V) := if (eGet es q).isSome = true then es.map fun e => if e.1 = q then (e.1, e.2.1, v) else e else es ++ [(q, b, v)]
abbrev EX : List (NestedKey × Addr × V) → List (NestedKey × Addr × Value) → Prop := Paired fun p q => p.1 = q.1 ∧ p.2.1 = q.2.1 ∧ RelV p.2.2 q.2.2
section
variable {K : PySem.W.Frag} {O : Own} {H : Hp}
theorem nget_e (q : NestedKey) {kvs : List (D × D)} {es : List (NestedKey × Addr × V)} (h : NkAll K O H kvs es) : match nGet kvs q with
    | none => eGet es q = none
    | some d => ∃ v, eGet es q = some v ∧ Gd K O H v d := by
  unfold NkAll at h
  induction h with
  | nil => rfl
  | @cons p e ps rs a t ih =>
    obtain ⟨k, d⟩ := p
    show (match (if nkOf k = some q then some d else nGet ps q) with
      | none => eGet (e :: rs) q = none
      | some d => ∃ v, eGet (e :: rs) q = some v ∧ Gd K O H v d)
    by_cases hq : e.1 = q
    · rw [if_pos (by rw [a.1, hq])]
      exact ⟨e.2.2, by simp [eGet, List.find?_cons, hq], a.2.2.2⟩
    · rw [if_neg (by rw [a.1]; simpa using hq)]
      have e2 : eGet (e :: rs) q = eGet rs q := by simp [eGet, List.find?_cons, hq]
      rw [e2]
      exact ih
theorem nsome_e {q : NestedKey} {kvs : List (D × D)} {es : List (NestedKey × Addr × V)} (h : NkAll K O H kvs es) : (eGet es q).isSome = (nGet kvs q).isSome := by
  have e := nget_e q h
  cases hg : nGet kvs q with
  | none => rw [hg] at e; rw [show eGet es q = none from e]; rfl
  | some d => rw [hg] at e; obtain ⟨v, e, _⟩ := e; rw [e]; rfl
theorem nput_e {q : NestedKey} {k d : D} {b : Addr} {v : V} {kvs : List (D × D)} {es : List (NestedKey × Addr × V)} (h : NkAll K O H kvs es) (hk : nkOf k = some q) (hz : q.depth ≤ 8) (gk : Gd K O H (.ref b) k) (gv : Gd K O H v d) : NkAll K O H (nPut kvs q k d) (ePut es q b v) := by
  unfold nPut ePut
  rw [nsome_e h]
  unfold NkAll at h ⊢
  split
  · refine paired_map h fun p e a => ?_
    by_cases hq : e.1 = q
    · rw [if_pos (by rw [a.1, hq]), if_pos hq]
      exact ⟨a.1, a.2.1, a.2.2.1, gv⟩
    · rw [if_neg (by rw [a.1]; simpa using hq), if_neg hq]
      exact a
  · exact paired_snoc h ⟨hk, hz, gk, gv⟩
theorem nPut_len (kvs : List (D × D)) (q : NestedKey) (k d : D) : (nPut kvs q k d).length ≤ kvs.length + 1 := by
  unfold nPut
  split
  · rw [List.length_map]; omega
  · simp
end
theorem ex_at {q : NestedKey} {es : List (NestedKey × Addr × V)} {xs : List (NestedKey × Addr × Value)} (h : EX es xs) : RelO (eGet es q) ((atKey xs q).map (·.2)) := by
  induction h with
  | nil => trivial
  | @cons e x ps rs a t ih =>
    by_cases hq : e.1 = q
    · have e1 : eGet (e :: ps) q = some e.2.2 := by simp [eGet, List.find?_cons, hq]
      have e2 : atKey (x :: rs) q = some x.2 := by
        have hx : x.1 = q := a.1.symm.trans hq
        simp [atKey, List.find?_cons, hx]
      rw [e1, e2]
      exact a.2.2
    · have e1 : eGet (e :: ps) q = eGet ps q := by simp [eGet, List.find?_cons, hq]
      have e2 : atKey (x :: rs) q = atKey rs q := by
        have hx : ¬ x.1 = q := fun z => hq (a.1.trans z)
        simp [atKey, List.find?_cons, hx]
      rw [e1, e2]
      exact ih
theorem ex_put {q : NestedKey} {b : Addr} {v : V} {u : Value} {es : List (NestedKey × Addr × V)} {xs : List (NestedKey × Addr × Value)} (h : EX es xs) (r : RelV v u) : EX (ePut es q b v) (storedH xs q b u) := by
  have hi : (eGet es q).isSome = (atKey xs q).isSome := by
    have e := RelO.isSome_eq (ex_at (q := q) h)
    rw [Option.isSome_map] at e
    exact e
  unfold ePut storedH
  rw [hi]
  split
  · refine paired_map h fun e x a => ?_
    unfold putAt
    by_cases hq : e.1 = q
    · rw [if_pos hq, if_pos (a.1.symm.trans hq)]
      exact ⟨a.1, a.2.1, r⟩
    · rw [if_neg hq, if_neg (fun z => hq (a.1.trans z))]
      exact a
  · exact paired_snoc h ⟨rfl, rfl, r⟩
section
variable {X : Cx} {pins : List (Addr × Obj)} {σ : L2.St} {H : Hp} {s : Shared} {O : Own} {a : Addr} {kvs : List (D × D)} {es : List (NestedKey × Addr × V)}
theorem nk_is (I : Inv X pins σ H s) : ∀ {kvs : List (D × D)} {es : List (NestedKey × Addr × V)} {xs : List (NestedKey × Addr × Value)}, NkAll X.K O H kvs es → EX es xs → ∀ x ∈ xs, (nestedKind X.prog X.w).is s.heap x.1 x.2.1
  | [], [], [], _, _, x, hx => by cases hx
  | _ :: _, [], _, h, _, _, _ => nomatch h
  | [], _ :: _, _, h, _, _, _ => nomatch h
  | _, _ :: _, [], _, h, _, _ => nomatch h
  | _, [], _ :: _, _, h, _, _ => nomatch h
  | p :: ps, e :: rs, y :: ys, .cons b t, .cons c d, x, hx => by
    rcases List.mem_cons.mp hx with rfl | hx
    · refine ⟨?_, by rw [← c.1]; exact b.2.1⟩
      rw [← c.1, ← c.2.1]
      exact gd_nk I b.2.2.1 rfl b.1
    · exact nk_is I t d x hx
/-- the dict in the heap -/
theorem nk_at (I : Inv X pins σ H s) (hr : Rd H a (nkHO X.prog X.w a es)) (hn : NkAll X.K O H kvs es) : ∃ xs, EX es xs ∧ s.heap.DictOfH (nestedKind X.prog X.w) a xs := by
  have q : ObjOk X.prog X.w H s.heap a (nkHO X.prog X.w a es) := hr.ok I.hok
  obtain ⟨⟨o, des, ep, xs, h1, h2, h3, h4, h5, h6⟩, _⟩ := q
  exact ⟨xs, h4, o, des, ep, h1, h2, h3, h5, nk_is I hn h4, h6⟩
theorem nk_ok {P : Program} {w : World} {H : Hp} {h' : Heap} {xs : List (NestedKey × Addr × Value)} (hx : EX es xs) (hd : h'.DictOfH (nestedKind P w) a xs) : ObjOk P w H h' a (nkHO P w a es) := by
  obtain ⟨o, des, ep, h1, h2, h3, h4, _, h6⟩ := hd
  refine ⟨⟨o, des, ep, xs, h1, h2, h3, hx, h4, h6⟩, ⟨o, h1⟩, fun g1 g2 ⟨o, des, ep, xs, k1, k2⟩ st => ⟨o, des, ep, xs, st o k1, k2⟩⟩
end
/-! ### read -/
def rNk (i : Nat) (f : E0f) (g : List (D × D) → NestedKey → R D) : E0f := fun ρ => match ρ[i]? with
  | some (some (.nkd lk kvs)) => (f ρ).bind fun k => (match nkT k with
    | some q => g kvs q
    | none => .bad)
  | _ => .bad
def nIn (kvs : List (D × D)) (q : NestedKey) : R D := .ok (.bool (nGet kvs q).isSome)
def nNotIn (kvs : List (D × D)) (q : NestedKey) : R D := .ok (.bool (!(nGet kvs q).isSome))
def nIx (kvs : List (D × D)) (q : NestedKey) : R D := match nGet kvs q with
  | some d => .ok d
  | none => .bad
section
variable {X : Cx} {T : Tk} {W : WX} {e a b c tg : Expr} {es : List Expr} {pos p p2 pos2 : Pos} {f g fk fv : E0f} {x : Str} {i j : Nat}
theorem EnvOk.nkd {G : Gc} {O : Own} {ρ : Rho} {σ : L2.St} {H : Hp} {lk : Bool} {kvs : List (D × D)} (E : EnvOk G T O ρ σ H) (h : ρ[i]? = some (some (.nkd lk kvs))) :
    ∃ a es, σ[i]? = some (some (.ref a)) ∧ NkO O a i lk ∧ (a == sysModules) = false ∧ NkH G.prog G.w H a es lk ∧ NkAll G.K O H kvs es ∧ kvs.length ≤ LIM := by
  obtain ⟨v, h1, a, es, rfl, h2⟩ := E.slot i _ h
  exact ⟨a, es, h1, h2⟩
/-- a reading of the dict of slot i by a key -/
def RN (X : Cx) (g : List (D × D) → NestedKey → R D) : R2 := fun x y H Q => ∃ (O : Own) (kvs : List (D × D)) (es : List (NestedKey × Addr × V)) (a b : Addr) (kd z : D) (q : NestedKey), x = .ref b ∧ y = .ref a ∧ (a == sysModules) = false ∧ Rd H a (nkHO X.prog X.w a es) ∧ NkAll X.K O H kvs es ∧ Gd X.K O H (.ref b) kd ∧ nkOf kd = some q ∧ q.depth ≤ 8 ∧ g kvs q = .ok z ∧ ∀ v, Gd X.K O H v z → Q v H
theorem op_nnotin (hu : X.A.units + 65 < cLine) : OpR X (compareOp .NotIn) (RN X nNotIn) := by
  intro pins s σ H x y v u Q I rx ry h
  obtain ⟨O, kvs, es, a, b, kd, z, q, rfl, rfl, hs, hr, hn, gk, hk, hz, hg, hq⟩ := h
  obtain rfl : v = Value.ref b := rx
  obtain rfl : u = Value.ref a := ry
  obtain ⟨xs, hx, hd⟩ := nk_at I hr hn
  refine wpAny_notIn_heap (knd := nestedKind X.prog X.w) (show X.A.units + 1 + 8 < cLine by omega) ⟨gd_nk I gk rfl hk, hz⟩ hs hd ?_
  have e := (ex_at (q := q) hx).isSome_eq
  rw [Option.isSome_map, nsome_e hn] at e
  rw [← e]
  cases hg
  exact ⟨.bl _, H, I.tok _, rfl, hq _ (.bl _)⟩
theorem nk_read {F : TE → Prop} {gg : List (D × D) → NestedKey → R D} {σ : L2.St} {H : Hp} {Q : VK} (hne : ∀ l q c, gg l q ≠ .exc c) (h : tP (gc X) T W (rNk i f gg) σ H Q) :
    tP (gc X) T W f σ H fun x H1 => ∃ v, σ[i]? = some (some v) ∧ RN X gg x v H1 Q := by
  obtain ⟨O, ρ, E, z⟩ := h
  refine ⟨O, ρ, E, ?_⟩
  unfold rNk at z
  cases hr : ρ[i]? with
  | none => rw [hr] at z; exact z.elim
  | some o =>
    rw [hr] at z
    rcases o with _ | s
    · exact z.elim
    · cases s with
      | nkd lk kvs =>
        dsimp only at z
        cases hf : f ρ with
        | bad => rw [hf] at z; exact z
        | exc c => rw [hf] at z; exact z
        | ok k =>
          rw [hf] at z
          simp only [R.bind_ok] at z
          intro v H1 s1 g1
          cases hk : nkT k with
          | none => rw [hk] at z; exact z.elim
          | some q =>
            rw [hk] at z
            dsimp only at z
            obtain ⟨⟨ds, rfl⟩, h1, h2⟩ := nkT_of hk
            obtain ⟨b, rfl⟩ := gd_ref g1
            obtain ⟨a, es, k1, k2, k3, k4, k5, k6⟩ := (E.same s1).nkd hr
            cases hg : gg kvs q with
            | bad => rw [hg] at z; exact z.elim
            | exc c => exact absurd hg (hne _ _ _)
            | ok d =>
              rw [hg] at z
              exact ⟨_, k1, O, kvs, es, a, b, _, d, q, rfl, rfl, k3, k4.rd, k5, g1, h1, h2, hg, fun v gv => z v H1 s1 gv⟩
      | _ => exact (show False from z).elim
end
end Rf

/-! Rf.Q: dicts with tuples as keys: items, stores, new ones, handed on. -/
namespace Rf
open PySem PySem.Spec PyProof.Rows L2 LamX
/-- d.get(k, e) -/
def rNgetD (i : Nat) (f g : E0f) : E0f := fun ρ => match ρ[i]? with
  | some (some (.nkd lk kvs)) => (f ρ).bind fun k => (g ρ).bind fun e => (match nkT k with
    | some q => .ok ((nGet kvs q).getD e)
    | none => .bad)
  | _ => .bad
def sNput (i : Nat) (fk fv : E0f) : Sf := fun ρ => match ρ[i]? with
  | some (some (.nkd false kvs)) => (match fv ρ with
    | .ok d => (match fk ρ with
      | .ok k => (match nkT k with
        | some q => if kvs.length < LIM then .ok .nx (ρ.set i (some (.nkd false (nPut kvs q k d)))) else .bad
        | none => .bad)
      | .exc c => .exc c ρ
      | .bad => .bad)
    | .exc c => .exc c ρ
    | .bad => .bad)
  | _ => .bad
def mNk0 : Mf := fun _ => .ok (.nkd false [])
def mNk1 (fk fv : E0f) : Mf := fun ρ => (fk ρ).bind fun k => (fv ρ).bind fun d => match nkT k with
  | some q => .ok (.nkd false [(k, d)])
  | none => .bad
/-- y = x, the thing handed over -/
def sMv (i j : Nat) : Sf := fun ρ => match ρ[j]? with
  | some (some (.nkd false kvs)) => .ok .nx ((ρ.set j none).set i (some (.nkd false kvs)))
  | _ => .bad
section
variable {X : Cx} {T : Tk} {W : WX} {e a b c tg : Expr} {es : List Expr} {pos p p2 pos2 : Pos} {f g fk fv : E0f} {x y : Str} {i j : Nat}
/-! ### d.get(k, e) -/
/-! ### d[k] = v -/
def NPut (X : Cx) (H : Hp) (a : Addr) (y v : V) (H4 : Hp) : Prop := ∃ (O : Own) (kvs : List (D × D)) (es : List (NestedKey × Addr × V)) (b : Addr) (kd : D) (q : NestedKey), y = .ref b ∧ (a == sysModules) = false ∧ H a = some (nkHO X.prog X.w a es) ∧ NkAll X.K O H kvs es ∧ kvs.length < LIM ∧ Gd X.K O H (.ref b) kd ∧ nkOf kd = some q ∧ q.depth ≤ 8 ∧ H4 = upd H a (nkHO X.prog X.w a (ePut es q b v))
theorem n_setItem {pins : List (Addr × Obj)} {s : Shared} {σ : L2.St} {H H4 : Hp} {d : Addr} {y v : V} {u r : Value} {Q : Unit → Shared → Prop} (hu : X.A.units + 65 < cLine) (I : Inv X pins σ H s) (g : NPut X H d y v H4) (ry : RelV y u) (rv : RelV v r) (h : ∀ s', Inv X pins σ H4 s' → Q () s') :
    wpAny (model X.prog X.w) X.A (setItem (.ref d) u r) Q X.xe s := by
  obtain ⟨O, kvs, es, b, kd, q, rfl, hs, hr, hn, hl, gk, hk, hz, rfl⟩ := g
  obtain rfl : u = Value.ref b := ry
  obtain ⟨xs, hx, hd⟩ := nk_at I (.inl hr) hn
  have len : xs.length = kvs.length := (Paired.length hx).symm.trans (Paired.length hn).symm
  refine wpAny_setItem_heap (knd := nestedKind X.prog X.w) (show X.A.units + 1 + 8 < cLine by omega) ⟨gd_nk I gk rfl hk, hz⟩ hd (fun h' hd' sb => h _ ?_) (by rw [len]; exact lim_line (Nat.le_of_lt hl))
  obtain ⟨o', _, _, ho', _⟩ := id hd'
  exact d_write I (by rw [hr]; exact True.intro) sb ⟨o', ho'⟩ (nk_ok (ex_put hx rv) hd')
def sNPut (X : Cx) (td ty tv : TE) : TS := fun D σ H => tv σ H fun v H1 => td σ H1 fun x H2 => ty σ H2 fun y H3 => ∃ a H4, x = .ref a ∧ NPut X H3 a y v H4 ∧ D.nx σ H4
theorem ps_nput {o k value : Expr} {td ty tv : TE} (hu : X.A.units + 65 < cLine) (ho : PE X o td) (hi : PE X k ty) (hv : PE X value tv) (hs : swapsWith value (some (.Subscript o k pos2)) pos.line X.env = pure false) :
    PS X (.Assign [.Subscript o k pos2] value pos) (sNPut X td ty tv) := ⟨fun pins s σ H D I h => by
  refine wpAny_Assign_Subscript (thn (hv.run pins s σ H _ I h) fun r s1 ⟨v, H1, I1, rv, q1⟩ => thn (ho.run pins s1 σ H1 _ I1 q1) fun u s2 ⟨x, H2, I2, rx, q2⟩ => thn (hi.run pins s2 σ H2 _ I2 q2) fun iv s3 ⟨y, H3, I3, ry, a, H4, ex, g, q3⟩ => ?_) hs
  subst ex
  obtain rfl : u = Value.ref a := rx
  exact n_setItem hu I3 g ry rv fun s4 I4 => ⟨σ, H4, I4, q3⟩⟩
theorem psd_nput (i : Nat) (hu : X.A.units + 65 < cLine) (hk : PP X T W a fk) (hv : PP X T W e fv) (hi9 : i < 900 := by decide) (hN : X.N[i]? = some x := by rfl) (hvis : Vis X.env.scope x := by first | exact Or.inl rfl | exact Or.inr (Or.inl rfl) | exact Or.inr (Or.inr rfl)) (hd : (x == ("__debug__" : Str)) = false := by decide) (hcd : (x == ("__classdict__" : Str)) = false := by decide)
    (hs : swapsWith e (some (.Subscript (.Name x p) a pos2)) pos.line X.env = pure false := by rfl) :
    PSD X T W (.Assign [.Subscript (.Name x p) a pos2] e pos) (sNput i fk fv) := PS.of (ps_nput hu (pe_var hN hvis hd hcd) hk hv hs) fun De σ H ⟨O, ρ, E, z⟩ => by
  unfold sNput at z
  cases hr : ρ[i]? with
  | none => rw [hr] at z; exact z.elim
  | some o =>
    rw [hr] at z
    rcases o with _ | s
    · exact z.elim
    · cases s with
      | nkd lk kvs =>
        cases lk with
        | true => exact (show False from z).elim
        | false =>
          dsimp only at z
          refine ⟨O, ρ, E, ?_⟩
          cases hf : fv ρ with
          | bad => rw [hf] at z; exact z
          | exc c => rw [hf] at z; exact fun H' s' => z O σ H' s'.le (E.same s')
          | ok d =>
            rw [hf] at z
            dsimp only at z
            intro v H1 s1 g1
            have E1 := E.same s1
            obtain ⟨q, es, h1, h2, h3, h4, h5, h6⟩ := E1.nkd hr
            refine ⟨_, h1, O, ρ, E1, ?_⟩
            cases hg : fk ρ with
            | bad => rw [hg] at z; exact z
            | exc c => rw [hg] at z; exact fun H' s' => z O σ H' (s1.trans s').le (E1.same s')
            | ok k =>
              rw [hg] at z
              dsimp only at z
              intro w H2 s2 g2
              cases hk : nkT k with
              | none => rw [hk] at z; exact z.elim
              | some q0 =>
                rw [hk] at z
                dsimp only at z
                obtain ⟨⟨ds, rfl⟩, k1, k2⟩ := nkT_of hk
                obtain ⟨b, rfl⟩ := gd_ref g2
                by_cases hl : kvs.length < LIM
                · rw [if_pos hl] at z
                  have E2 := E1.same s2
                  have h4' : H2 q = some (nkHO X.prog X.w q es) := s2.ex _ _ h4 (fun _ z => by cases z)
                  have h5' : NkAll X.K O H2 kvs es := h5.map fun v d g => g.ext s2.ex
                  refine ⟨q, _, rfl, ⟨O, kvs, es, b, _, q0, rfl, h3, h4', h5', hl, g2, k1, k2, rfl⟩, ?_⟩
                  have n5 := nput_e (b := b) h5' k1 k2 g2 (g1.ext s2.ex)
                  refine z O σ _ ((s1.trans s2).le.trans (Le.wr h2 hi9)) (E2.wr hi9 h2 h4' (fun _ z => by cases z) (fun _ _ => nkHO_code) h1 ⟨q, _, rfl, h2, h3, ?_, n5.map fun v d g => g.wr h2, Nat.le_trans (nPut_len _ _ _ _) hl⟩)
                  exact upd_same
                · rw [if_neg hl] at z
                  exact z.elim
      | _ => exact (show False from z).elim
/-! ### new ones -/
theorem pe_nk1 {tk tv : TE} (hu : X.A.units + 65 < cLine) (hk : PE X a tk) (hv : PE X b tv) : PE X (.Dict [some a] [b] pos) (fun σ H Q => ∀ q, H q = none → (q == sysModules) = false → tk σ (upd H q (nkHO X.prog X.w q [])) fun x H1 => tv σ H1 fun y H2 =>
    H2 q = some (nkHO X.prog X.w q []) ∧ ∃ (O : Own) (kd : D) (c : Addr) (k : NestedKey), x = .ref c ∧ Gd X.K O H2 (.ref c) kd ∧ nkOf kd = some k ∧ k.depth ≤ 8 ∧ Q (.ref q) (upd H2 q (nkHO X.prog X.w q [(k, c, y)]))) := ⟨fun pins s σ H Q I h => by
  have hs : (s.heap.objs.size == sysModules) = false := beq_eq_false_iff_ne.mpr (Ne.symm (Nat.ne_of_lt I.big))
  have I1 := I.laid (a := s.heap.objs.size) (o := nkHO X.prog X.w s.heap.objs.size []) (h' := s.heap.push { cls := .type "dict", data := .dict #[] }) (t' := s.toks) (fun _ _ q => Heap.get?_push_of_some _ q) (Nat.le_refl _) (nk_ok (xs := []) .nil (Heap.DictOfH.new s.heap))
  rw [arm_eval_Dict, zip_pairTrees [some a] [b] X.env pos rfl rfl, dictDisplay_pairs _ (by simp [pairTrees]) (by show 1 < 17; decide)]
  refine wpAny_bind (wpAny_standAt (wpAny_bind (wpAny_subDictH (knd := nestedKind X.prog X.w) (Q := fun d s' => wpAny (model X.prog X.w) X.A (pure (Value.ref d)) (EP X pins σ Q) X.xe s') (show X.A.units + 8 < cLine by omega) (by show 1 ≤ 15; decide) ?_)))
  refine pairTrees_cons_walk (thn (hk.run pins _ σ _ _ I1 (h _ (I.hok.fresh (Nat.le_refl _)) hs)) fun u s1 ⟨x, H1, J1, rx, q1⟩ => thn (hv.run pins s1 σ H1 _ J1 q1) fun w s2 ⟨y, H2, J2, ry, hq, O, kd, c, k, ex, gk, hk, hz, q2⟩ => pairTrees_nil_walk ?_)
  subst ex
  obtain rfl : u = Value.ref c := rx
  obtain ⟨xs, hx, hd⟩ := nk_at (O := O) (kvs := []) J2 (.inl hq) .nil
  cases hx
  refine ⟨[(k, c, w)], ⟨rfl, rfl, ⟨gd_nk J2 gk rfl hk, hz⟩, trivial⟩, hd, fun h' tk hd' sb => wpAny_pure ⟨.ref s.heap.objs.size, _, ?_, rfl, q2⟩⟩
  have e : storedAllH ([] : List (NestedKey × Addr × Value)) [(k, c, w)] = [(k, c, w)] := rfl
  rw [e] at hd'
  obtain ⟨o', _, _, ho', _⟩ := id hd'
  exact d_write J2 (by rw [hq]; exact True.intro) sb ⟨o', ho'⟩ (nk_ok (.cons ⟨rfl, rfl, ry⟩ .nil) hd')⟩
theorem pm_nk1 (i : Nat) (hu : X.A.units + 65 < cLine) (hk : PP X T W a fk) (hv : PP X T W b fv) : PM X T W i (.Dict [some a] [b] pos) (mNk1 fk fv) := PE.of (pe_nk1 hu hk hv) fun σ H Q ⟨O, ρ, E, z⟩ => fun q hq hs => by
  have gr : Gr T H (upd H q (nkHO X.prog X.w q [])) := Gr.of E.tabs (same_new hq)
  have nn : nt (upd H q (nkHO X.prog X.w q [])) q := ⟨_, upd_same, fun _ z => by cases z⟩
  have E1 := E.own (j := i) (nt_none hq) gr nn
  refine ⟨_, ρ, E1, ?_⟩
  unfold mNk1 at z
  cases hf : fk ρ with
  | bad => rw [hf] at z; exact z
  | exc c => rw [hf] at z; exact fun H' s' => z H' (gr.trans s')
  | ok k =>
    rw [hf] at z
    simp only [R.bind_ok] at z
    intro v H1 s1 g1
    refine ⟨_, ρ, E1.same s1, ?_⟩
    cases hg : fv ρ with
    | bad => rw [hg] at z; exact z
    | exc c => rw [hg] at z; exact fun H' s' => z H' ((gr.trans s1).trans s')
    | ok d =>
      rw [hg] at z
      simp only [R.bind_ok] at z
      intro w H2 s2 g2
      cases hk : nkT k with
      | none => rw [hk] at z; exact z.elim
      | some q0 =>
        rw [hk] at z
        obtain ⟨⟨ds, rfl⟩, k1, k2⟩ := nkT_of hk
        obtain ⟨c, rfl⟩ := gd_ref g1
        have hq2 : H2 q = some (nkHO X.prog X.w q []) := s2.ex _ _ (s1.ex _ _ upd_same (fun _ z => by cases z)) (fun _ z => by cases z)
        have g1' := g1.ext s2.ex
        refine ⟨hq2, _, _, c, q0, rfl, g1', k1, k2, ?_⟩
        have s12 := (gr.trans s1).trans s2
        have gr2 : Gr T H (upd H2 q (nkHO X.prog X.w q [(q0, c, w)])) := ⟨fun b o h t => by
            rw [upd_ne (ne_of_none h hq)]
            exact s12.ex b o h t, tabs_wr s12.tb hq2 (fun _ z => by cases z) (fun _ _ => nkHO_code)⟩
        have nn2 : nt (upd H2 q (nkHO X.prog X.w q [(q0, c, w)])) q := ⟨_, upd_same, fun _ z => by cases z⟩
        have oq : own1 O q (some i) q = some i := own1_same
        exact z _ (own1 O q (some i)) _ (Up.own (nt_none hq) (E.fresh q hq) gr2) (Le.ownN (nt_none hq) gr2) (E.own (nt_none hq) gr2 nn2) ⟨q, _, rfl, oq, hs, upd_same, .cons ⟨k1, k2, g1'.wr oq, g2.wr oq⟩ .nil, by show 1 ≤ 100000; decide⟩
end
end Rf

/-! Rf.R: dicts with tuples as keys: handed to another name, walked, their values. -/
namespace Rf
open PySem PySem.Spec PyProof.Rows L2 LamX
section
variable {X : Cx} {T : Tk} {W : WX} {e a b c tg : Expr} {es : List Expr} {pos p p2 pos2 : Pos} {f g fk fv : E0f} {x y : Str} {i j : Nat}
end
/-! ### walked -/
section
variable {X : Cx} {pins : List (Addr × Obj)} {σ : L2.St} {H : Hp} {s : Shared} {d : Addr} {o : Obj} {es : List (NestedKey × Addr × V)}
end
def Itn (P : Program) (w : World) (d : Addr) (o : Obj) (es : List (NestedKey × Addr × V)) : It :=
  ⟨fun i H => H d = some (.frz o (nkHO P w d es)) ∧ i < es.length, fun i H x H' => H' = H ∧ ∃ k b v, es[i]? = some (k, b, v) ∧ x = .ref b, fun i H => H d = some (.frz o (nkHO P w d es)) ∧ es.length ≤ i⟩
/-- behind the loop the dict's slot is forgotten -/
def unlkR (i : Nat) : Res Flw → Res Flw
  | .ok fl r => if r.length ≤ 900 then .ok fl (r.set i none) else .bad
  | _ => .bad
def sForN (i : Nat) (g : Tg) (body : Sf) (fg : List Nat) : Sf := fun ρ => match ρ[i]? with
  | some (some (.nkd false kvs)) => if ρ.length ≤ 900 then unlkR i (loopF g body fg (kvs.map (·.1)) (ρ.set i (some (.nkd true kvs)))) else .bad
  | _ => .bad
section
variable {G : Gc} {T : Tk} {W : WX} {De : Ends} {O : Own} {H : Hp} {d : Addr} {od : Obj} {es : List (NestedKey × Addr × V)} {kvs : List (D × D)} {ρ : Rho} {σ : L2.St} {i : Nat}
end
section
variable {X : Cx} {T : Tk} {W : WX} {tg : Expr} {pos p : Pos} {sts : List Stmt} {s : Sf} {g : Tg} {vs fg : List Nat} {x : Str}
end
/-! ### list(d.values()) -/
def rNvals (i : Nat) : E0f := fun ρ => match ρ[i]? with
  | some (some (.nkd lk kvs)) => .ok (.list (kvs.map (·.2)))
  | _ => .bad
section
variable {X : Cx} {T : Tk} {W : WX} {pos p p2 apos mpos : Pos} {x : Str}
end
end Rf

/-! Rf.T: min of a list of data; index of a number; calls with a new dict; a def that calls itself. -/
namespace Rf
open PySem PySem.Spec PyProof.Rows L2 LamX
def minOk (ds : List D) : Bool := (ds.all fun a => ds.all fun b => PySem.W.alike a b) && (ds.all fun d => !isN d) && PyData.canLayAll0 ds && decide (PyData.depthAll ds ≤ 60)
def dMin1 : D → R D
  | .list (x :: xs) => if minOk (x :: xs) = true then .ok (PySem.W.minD x xs) else .bad
  | _ => .bad
section
variable {X : Cx}
end
/-! ### x.index(k), numbers -/
def rIndex (f g : E0f) : E0f := fun ρ => (f ρ).bind fun x => match x with
  | .list ds => (g ρ).bind fun y => (match y, intsOf ds with
    | .int k, some ns => if k ∈ ns then .ok (.int (ns.idxOf k : Nat)) else .bad
    | _, _ => .bad)
  | _ => .bad
section
variable {X : Cx} {T : Tk} {W : WX} {a b : Expr} {f g : E0f} {apos cpos : Pos}
end
end Rf

/-! Rf.U: try: .. / except x as n: y = n, the exception known behind the statement. -/
namespace Rf
open PySem PySem.Spec PyProof.Rows L2 LamX
section
variable {X : Cx} {pins : List (Addr × Obj)} {σ : L2.St} {H : Hp} {s : Shared}
end
/-- what is wished of an exception of the body; t2: the rest, the exception at a -/
def wKeep (K : PySem.W.Frag) (c : Value) (i j m : Nat) (t2 : Addr → Value → Option Addr → TS) (D : Ends) : WX := fun cls d σ H =>
  PySem.W.exmOne K cls c = some true ∧ ∀ a, H a = none → σ.length = m → t2 a cls d D (((σ.set i (some (.ref a))).set j (some (.ref a))).set i none) H
section
variable {X : Cx} {x n y : Str} {c : Value} {i j : Nat} {body rest : List Stmt} {np nq py pa pos pos' : Pos} {tb : WX → TS} {t1 : TS} {t2 : Addr → Value → Option Addr → TS}
end
/-! ### isinstance of the exception -/
end Rf

/-! Rf.V: what the law's own result def does: classes of a kept exception, a dict of truths, its keys. -/
namespace Rf
open PySem PySem.Spec PyProof.Rows L2 LamX
section
variable {X : Cx} {T : Tk} {W : WX} {e a b c tg : Expr} {es : List Expr} {pos p p2 p3 pos2 : Pos} {f g : E0f} {x y : Str} {i j : Nat} {ad D : Addr} {oe : Obj}
end
/-! ### {k: v, k: v} and d.update of it -/
def mDic2 (k1 k2 : Str) (f1 f2 : E0f) : Mf := fun ρ => (f1 ρ).bind fun d1 => (f2 ρ).bind fun d2 => .ok (.dic (putD (putD [] (.inr k1) d1) (.inr k2) d2))
def eUpd2 (i : Nat) (k1 k2 : Str) (f1 f2 : E0f) : Ef := fun ρ => match ρ[i]? with
  | some (some (.dic kvs)) => (match f1 ρ with
    | .ok d1 => (match f2 ρ with
      | .ok d2 => if kvs.length + 2 ≤ LIM ∧ k1 ≠ k2 then .ok .none (ρ.set i (some (.dic (putD (putD kvs (.inr k1) d1) (.inr k2) d2)))) else .bad
      | _ => .bad)
    | _ => .bad)
  | _ => .bad
section
variable {X : Cx} {T : Tk} {W : WX} {e a b c tg : Expr} {pos p p2 p3 pos2 apos cpos : Pos} {f g : E0f} {x y : Str} {i j : Nat} {k1 k2 : Str} {j1 j2 : Nat}
end
end Rf

/-! Rf.W: a comprehension over a dict's keys. -/
namespace Rf
open PySem PySem.Spec PyProof.Rows L2 LamX
def riK (k : Nat) : I0f := fun ρ => match ρ[k]? with
  | some (some (.dat (.dict kvs))) => .ok (kvs.map (·.1))
  | _ => .bad
section
variable {X : Cx} {T : Tk} {W : WX} {tg : Expr} {pos p : Pos} {x y : Str}
end
end Rf

/-! Rf.X: result(lambda: e), the def that tells what a call returns or raises. -/
namespace Rf
open PySem PySem.Spec PyProof.Rows L2 LamX
abbrev W0 : WX := fun _ _ _ _ => False
/-- the classes of errors, each with its short name -/
structure ClsD (K : PySem.W.Frag) (mg : Str → Option Value) (cs : List (Str × Str)) (A : Str → Addr) : Prop where
  mg_ : ∀ c ∈ cs, mg c.1 = some (.ref (A c.1))
  ex : ∀ c ∈ cs, ExcC K (A c.1)
  kit : ∀ c ∈ cs, ∀ d ∈ cs, PySem.W.kitOne K (.ref (A c.1)) (.ref (A d.1)) = some (c.1 == d.1)
  ve : ∀ c ∈ cs, PySem.W.kitOne K (.ref (A c.1)) (.type "ValueError") = some true
  row : mg "RowError" = some (.ref (A "RowError"))
  exm : ∀ c ∈ cs, PySem.W.exmOne K (.ref (A c.1)) (.ref (A "RowError")) = some true
def retD (d : D) : D := .tuple [.str "returns", d]
/-- what the def makes of the lambda's reading -/
def TTres (K : PySem.W.Frag) (tb : List (Addr × Str)) (cs : List (Str × Str)) (A : Str → Addr) : (XK → Hp → VK → Prop) → Hp → VK → Prop := fun tl H Q => ∃ O : Own, Fr O H ∧ Tabs tb H ∧ ∀ H0, Gr ⟨tb, []⟩ H H0 →
  tl (fun cls d H' => d = none ∧ Fr O H' ∧ Tabs tb H' ∧ ∃ c ∈ cs, cls = .ref (A c.1) ∧ ∀ v H'', Gr ⟨tb, []⟩ H' H'' → Gd K O H'' v (.tuple [.str c.2]) → Q v H'') H0
    (fun v H' => Gr ⟨tb, []⟩ H0 H' ∧ Fr O H' ∧ ∃ d, Gd K O H' v d ∧ ∀ w H'', Gr ⟨tb, []⟩ H' H'' → Gd K O H'' w (retD d) → Q w H'')
/-- .. which may be weakened -/
def TTmono (tl : XK → Hp → VK → Prop) : Prop := ∀ (E : XK) (H : Hp) (Q Q' : VK), tl E H Q → (∀ v H', Q v H' → Q' v H') → tl E H Q'
section
variable {X : Cx} {tb : List (Addr × Str)} {cs : List (Str × Str)} {A : Str → Addr} {x a q : Str} {sg : Scope} {g : Addr} {cdg : Value} {st1 : Stmt} {rest : List Stmt} {s1 sok : Sf} {sex : Str → Sf} {p1 p2 p3 p4 p5 p6 p7 p8 p9 p10 : Pos} {Ng : List Str} {yn an : Str}
abbrev resCx (X : Cx) (Ng : List Str) (x : Str) (sg : Scope) (g : Addr) (cdg : Value) (s : Shared) (H : Hp) : Cx := (cxOf C8.CX0 X.prog X.w X.K X.mg X.base Ng x sg g cdg X.A X.stack s H C8.E0).nox
end
end Rf

/-! Rf.Y: result(lambda: e) as an expression. -/
namespace Rf
open PySem PySem.Spec PyProof.Rows L2 LamX
def rLam (cs : List (Str × Str)) (f : E0f) : E0f := fun ρ => match f ρ with
  | .ok d => .ok (retD d)
  | .exc c => match cs.lookup c with
    | some s => .ok (.tuple [.str s])
    | none => .bad
  | .bad => .bad
section
variable {X : Cx} {T : Tk} {W : WX}
end
end Rf
namespace Rf
def rtOf : Res Flw → Option D
  | .ok (.rt d) _ => some d
  | _ => none
end Rf

/-! Rf.Z: defs that hold lambdas (their code object is known), the law's own rule. -/
namespace Rf
open PySem PySem.Spec PyProof.Rows L2 LamX
section
variable {P : Program} {w : World} {K : PySem.W.Frag} {mg : Str → Option Value} {base : Heap} {x qual : Str} {params : Arguments} {body : List Stmt} {scope : Scope} {dvs : List V} {kws : List (Str × V)} {f c : Addr} {fd : FuncData} {tb : List (Addr × Str)}
theorem okC {CX : CXT} {N ps : List Str} {k : Nat} {sp : Sp} (F : FunD K x qual params body scope dvs kws f fd) (hc : fd.code = .ref c) (S : FnScope N ps scope) (len : ∀ vs H Q E, sp vs H Q E → vs.length = ps.length)
    (hbody : ∀ (A : Around) (outer : List Env) (s : Shared) (H : Hp) (vs : List V) (Q : VK) (E : XK), Room k (A.deeper (envOfC qual scope s.heap.objs.size f (.ref c))) → sp vs H Q E →
      ∃ t, PSs (cxOf CX P w K mg base N qual scope f (.ref c) A outer s H E) body t ∧ t { nx := fun _ H' => Q .non H', rt := Q } (start N vs) H) : FnOk P w K mg base CX (k + 1) f fd ps sp := by
  obtain ⟨oc, od, dV, kV, doc, pm, an, cdv, ct, osl, rfl, lk, hcd, _, _⟩ := F.ex
  have e : cdv = .ref c := hc
  subst e
  exact fn_of lk hcd S len fun A outer s H vs Q E hr hsp => hbody A outer s H vs Q E hr hsp
/-- the law: its script, and the answer is true -/
def spL (K : PySem.W.Frag) (tb : List (Addr × Str)) (n : Nat) (s : Sf) : Sp := fun vs H Q E => ∃ (a : Addr) (ns : List Int), vs = [.ref a] ∧ SqL K H a (ns.map V.int) ∧ Tabs tb H ∧ (∃ r, s (some (.scr ns) :: List.replicate n none) = .ok (.rt (.bool true)) r) ∧ ∀ H', Q (.bl true) H'
theorem ok_law {N : List Str} {k n : Nat} {s : Sf} (F : FunD K x x params body scope [] [] f fd) (hc : fd.code = .ref c) (S : FnScope N ["script"] scope) (hn : N.length = n + 1)
    (hb : ∀ (A : Around) (outer : List Env) (s0 : Shared) (H : Hp) (E : XK), Room k (A.deeper (envOfC x scope s0.heap.objs.size f (.ref c))) →
      PSSD (cxOf (L2.CX P w) P w K mg base N x scope f (.ref c) A outer s0 H E) ⟨tb, []⟩ (fun cls d _ H => E cls d H) body s) :
    FnOk P w K mg base (L2.CX P w) (k + 1) f fd ["script"] (spL K tb n s) := by
  refine okC F hc S (fun vs H Q E ⟨a, ns, h, _⟩ => by rw [h]; rfl) fun A outer s0 H vs Q E hr ⟨a, ns, hv, hS, hT, ⟨r, hs⟩, hq⟩ => ⟨_, hb A outer s0 H E hr, ?_⟩
  subst hv
  have hst : L2.start N [V.ref a] = some (.ref a) :: List.replicate n none := by
    unfold L2.start
    simp [hn]
  rw [hst]
  refine ⟨fun _ => none, some (.scr ns) :: List.replicate n none, ⟨fun i sl h => ?_, hT, fun b k h => (by cases h), (by simp), fun p hp => nomatch hp⟩, ?_⟩
  · match i, h with
    | 0, h => cases h; exact ⟨_, rfl, a, rfl, QS.of hS rfl⟩
    | j + 1, h =>
      have h' : (List.replicate n (none : Option Sl))[j]? = some (some sl) := h
      rw [List.getElem?_replicate] at h'
      split at h' <;> cases h'
  · rw [hs]
    intro v O' σ' H' l E' gv
    cases gv
    exact hq H'
end
/-- the def that tells what a call gives, as it stands in the head -/
structure ResW (K : PySem.W.Frag) (mg : Str → Option Value) (tb : List (Addr × Str)) (cs : List (Str × Str)) (A : Str → Addr) : Prop where
  cls : ClsD K mg cs A
  ex : ∃ (g : Addr) (fd : FuncData) (pg : Arguments) (bg : List Stmt) (sg : Scope) (Ng : List Str), FunD K "_law_result" "_law_result" pg bg sg [] [] g fd ∧ mg "_law_result" = some (.ref g) ∧ FnScope Ng ["call"] sg ∧ Ng[0]? = some ("call" : Str) ∧ Vis sg "call" ∧ L2.Binds K fd ["call"] [] ∧
    ∀ (X : Cx) (cdg : Value) (q : Str), X.K = K → X.mg = mg → Room 2 X.A → GivesTo X Ng "_law_result" sg g cdg bg "call" q (fun tl H Q => TTres X.K tb cs A tl H Q ∧ TTmono tl)
section
variable {X : Cx} {T : Tk} {W : WX}
end
end Rf

/-! Rf.1: the head's facts of the classes, as one Bool. -/
namespace Rf
open PySem PySem.Spec PyProof.Rows L2 LamX
def csL : List (Str × Str) := [("InvalidTable", "table"), ("InvalidRow", "row"), ("InvalidStart", "start"), ("InvalidRun", "run"), ("InvalidChanges", "changes"), ("InvalidPlan", "plan"), ("InvalidHome", "home"), ("InvalidRule", "rule"), ("InvalidText", "text"), ("TooMany", "many"), ("Empty", "nothing"), ("Circular", "circular"), ("Refused", "refused"), ("Linked", "linked"), ("NotLinked", "unlinked"), ("NothingToUndo", "undo")]
def obB (a : Option Bool) : Bool := match a with
  | some true => true
  | _ => false
def excCB (K : PySem.W.Frag) (D : Addr) : Bool :=
  He.eqO (PySem.W.findIn K (.ref D) "__getattribute__") (some (some (.builtin "BaseException.__getattribute__"))) && (He.eqO (PySem.W.findIn K (.ref D) "__getattr__") (some none) && (obB (PySem.W.subIn K (.ref D) (.type "BaseException")) && (PySem.W.hasDictIn K D &&
  (He.eqO (PySem.W.findIn K (.ref D) "__class__") (some (some (.builtin "object.__class__"))) && (He.eqO (PySem.W.specialIn K (.builtin "object.__class__") "__get__") (some (some (.builtin "getset_descriptor.__get__"))) && (obB (PySem.W.takesIn K (.builtin "object.__class__")) && obB (PySem.W.mroIn K D (.type "object"))))))))
def clsB (K : PySem.W.Frag) (cs : List (Str × Str)) : Bool := (He.Fa.glo "RowError").ok K && cs.all fun c => (He.Fa.glo c.1).ok K && (excCB K (He.ga K c.1) && (obB (PySem.W.kitOne K (.ref (He.ga K c.1)) (.type "ValueError")) && ((He.Fa.exm c.1 "RowError" true).ok K &&
  cs.all fun d => decide (PySem.W.kitOne K (.ref (He.ga K c.1)) (.ref (He.ga K d.1)) = some (c.1 == d.1)))))
theorem exD_of {K : PySem.W.Frag} {h : Heap} {mg : Str → Option Value} {x : Str} (X : K.In h) (G : h.Ns mainGlobals mg) (c : (He.Fa.glo x).ok K = true) (d : (He.Fa.exc x).ok K = true) : ExD K mg x := ⟨_, He.glo_ok X G c, He.exc_ok d⟩
/-- a module's tuple, and that it has no dict -/
def tupXB (K : PySem.W.Frag) (x : Str) (vs : List He.Dv) : Bool := He.tupB K x vs && (match K.lookup (He.ga K x) with | some o => o.dict.isNone | none => false)
theorem ktu_of {K : PySem.W.Frag} {x : Str} {vs : List He.Dv} (h : He.tupB K x vs = true) : KTu K (He.ga K x) (vs.map (He.Dv.v K)) := by
  have z := He.tupB_ok h (fun _ => none)
  rcases z with z | z
  · rcases z with z | ⟨o, z⟩ <;> cases z
  · exact z
theorem ktx_of {K : PySem.W.Frag} {x : Str} {vs : List He.Dv} (h : tupXB K x vs = true) : KTx K (He.ga K x) (vs.map (He.Dv.v K)) := by
  obtain ⟨h1, h2⟩ := He.ba h
  refine ⟨ktu_of h1, ?_⟩
  cases q : K.lookup (He.ga K x) with
  | none => rw [q] at h2; cases h2
  | some o =>
    rw [q] at h2
    exact ⟨o, rfl, Option.isNone_iff_eq_none.mp h2⟩
end Rf

/-! Rf.2: sorted(set(xs)) of ints; len(set(xs)). -/
namespace Rf
open PySem PySem.Spec PyProof.Rows L2 LamX
section
variable {P : Program} {w : World} {A : Around} {E : Value → Shared → Prop} {s : Shared}
abbrev o0 (w : World) : Obj := { cls := .type "set", dict := none, data := .set #[] 0 (.fresh 0 0 (!w.params.followText "set-order")) }
end
end Rf

/-! Rf.3: sorted(set(xs)) of ints as an expression. -/
namespace Rf
open PySem PySem.Spec PyProof.Rows L2 LamX
/-- strictly ascending, each once -/
def insU (x : Int) : List Int → List Int
  | [] => [x]
  | y :: r => if x < y then x :: y :: r else if x = y then y :: r else y :: insU x r
def sortU : List Int → List Int
  | [] => []
  | x :: r => insU x (sortU r)
def dSortSet : D → R D
  | .list ds => match intsOf ds with
    | some ns => if ns.length ≤ 60 then .ok (.list ((sortU ns).map PyData.int)) else .bad
    | none => .bad
  | .tuple ds => match intsOf ds with
    | some ns => if ns.length ≤ 60 then .ok (.list ((sortU ns).map PyData.int)) else .bad
    | none => .bad
  | _ => .bad
section
variable {X : Cx} {T : Tk} {W : WX} {a : Expr} {pos p p2 pos2 : Pos} {f : E0f}
/-- set(xs) -/
def rSetL (K : PySem.W.Frag) (w : World) : List V → Hp → VK → Prop := fun xs H Q => ∃ (l : Addr) (ns : List Int), xs = [.ref l] ∧ (SqL K H l (ns.map V.int) ∨ SqT K H l (ns.map V.int)) ∧ ns.length ≤ 1000 ∧ ∀ q c, H q = none → c ≤ ns.length → Q (.ref q) (upd H q (SetO w q (fun j => decide (j ∈ ns)) c))
end
end Rf

/-! Rf.4: t[::-1] of a tuple. -/
namespace Rf
open PySem PySem.Spec PyProof.Rows L2 LamX HT
section
variable {prog : Program} {w : World} {A : Around} {E : Value → Shared → Prop} {s : Shared}
end
/-- t[::-1] -/
def dRev : D → R D
  | .tuple ds => .ok (.tuple ds.reverse)
  | _ => .bad
section
variable {X : Cx} {T : Tk} {W : WX} {e : Expr} {f : E0f} {k : Nat} {p1 p2 p3 pos : Pos}
end
end Rf

/-! Rf.5: sorted(set(e)) with effects; defs that call themselves (by fuel); a new dict handed to a def. -/
namespace Rf
open PySem PySem.Spec PyProof.Rows L2 LamX
section
variable {X : Cx} {T : Tk} {W : WX} {a : Expr} {pos p p2 pos2 : Pos} {f : E0f} {fe : Ef}
end
/-! ### defs that call themselves: nothing is promised of no fuel -/
section
variable {P : Program} {w : World} {K : PySem.W.Frag} {mg : Str → Option Value} {base : Heap} {tb : List (Addr × Str)} {x : Str} {params : Arguments} {body : List Stmt} {scope : Scope} {f : Addr} {fd : FuncData} {ps : List Str} {k i0 : Nat}
end
/-! ### a new dict as the last argument -/
def tAN (G : Gc) (T : Tk) (W : WX) (f : A0f) : TA := fun σ H Q => ∃ O ρ, EnvOk G T O ρ σ H ∧ match f ρ with
  | .ok ds => ∀ vs q H1, Gr T H H1 → GdAll G.K O H1 vs ds → H1 q = none → (q == sysModules) = false → Q (vs ++ [.ref q]) (upd H1 q (nkHO G.prog G.w q []))
  | .exc c => ∀ H', Gr T H H' → exW G W c σ H'
  | .bad => False
def rCallN (m : List Sl → Ro) (fs : A0f) : E0f := fun ρ => (fs ρ).bind fun ds => match m (ds.map Sl.dat ++ [.nkd false []]) with
  | .ok d _ => .ok d
  | .exc c _ => .exc c
  | .bad => .bad
section
variable {X : Cx} {T : Tk} {W : WX} {e : Expr} {es : List Expr} {pos p : Pos} {x : Str} {f : E0f} {fs : A0f}
end
end Rf

/-! Rf.6: tests k in d of tuple-key dicts; defs as values. -/
namespace Rf
open PySem PySem.Spec PyProof.Rows L2 LamX
section
variable {X : Cx} {T : Tk} {W : WX} {a : Expr} {pos p : Pos} {f : E0f} {x : Str}
theorem tP_of_tPT {g : E0f} {σ : L2.St} {H : Hp} {Q : Bool → Hp → Prop} (h : tPT (gc X) T W g σ H Q) : tP (gc X) T W g σ H fun x H' => ∃ k, x = .bl k ∧ Q k H' := by
  obtain ⟨O, ρ, E, z⟩ := h
  refine ⟨O, ρ, E, ?_⟩
  cases hf : g ρ with
  | bad => rw [hf] at z; exact z
  | exc c => rw [hf] at z; exact z
  | ok d =>
    rw [hf] at z
    cases d with
    | bool k =>
      intro v H' s g
      cases g
      exact ⟨k, rfl, z H' s⟩
    | _ => exact (show False from z).elim
theorem ptp_nnotin (i : Nat) (hu : X.A.units + 65 < cLine) (ha : PP X T W a f) (hm : behindInMarks .NotIn (.Name x p) = false) (hN : X.N[i]? = some x := by rfl) (hv : Vis X.env.scope x := by first | exact Or.inl rfl | exact Or.inr (Or.inl rfl) | exact Or.inr (Or.inr rfl)) (hd : (x == ("__debug__" : Str)) = false := by decide) (hcd : (x == ("__classdict__" : Str)) = false := by decide) :
    PT X (.Compare a [.NotIn] [.Name x p] pos) (tPT (gc X) T W (rNk i f nNotIn)) := PT.of (pt_cmpR (op_nnotin hu) ha (pe_var hN hv hd hcd) hm) fun σ H Q h => nk_read (F := fun _ => True) (fun _ _ _ z => by cases z) (tP_of_tPT h)
end
/-! ### defs as values -/
/-- slot i's def called, one of cs -/
def rCallV (i : Nat) (cs : List (Str × (List D → R D))) (fs : A0f) : E0f := fun ρ => match ρ[i]? with
  | some (some (.fn x)) => (match cs.lookup x with
    | some m => (fs ρ).bind m
    | none => .bad)
  | _ => .bad
section
variable {X : Cx} {T : Tk} {W : WX} {e : Expr} {es : List Expr} {pos p : Pos} {fs : A0f} {x : Str} {ps : List Str} {k j : Nat}
end
/-- for x in (f, g, ..) -/
def loopN (i : Nat) (body : Sf) (fg : List Nat) : List Str → Rho → Res Flw
  | [], ρ => .ok .nx ρ
  | x :: r, ρ => (body (ρ.set i (some (.fn x)))).bind fun fl ρ2 => match fl with
    | .nx => loopN i body fg r (wipeR ρ2 fg)
    | .ct => loopN i body fg r (wipeR ρ2 fg)
    | .bk => .ok .nx ρ2
    | .rt d => .ok (.rt d) ρ2
def sForF (i : Nat) (xs : List Str) (body : Sf) (fg : List Nat) : Sf := fun ρ => loopN i body fg xs ρ
section
variable {X : Cx} {T : Tk} {W : WX} {es : List Expr} {pos p : Pos} {x y : Str} {xs : List Str} {vs : List V}
/-- the names' objects -/
inductive FnVs (mg : Str → Option Value) : List Str → List V → Prop
  | nil : FnVs mg [] []
  | cons {x : Str} {a : Addr} {xs : List Str} {vs : List V} : mg x = some (.ref a) → FnVs mg xs vs → FnVs mg (x :: xs) (.ref a :: vs)
theorem FnVs.at {mg : Str → Option Value} : ∀ {xs : List Str} {vs : List V} {i : Nat} {v : V}, FnVs mg xs vs → vs[i]? = some v → ∃ x a, xs[i]? = some x ∧ v = .ref a ∧ mg x = some (.ref a)
  | _, _, _, _, .nil, h => by simp at h
  | _, _, 0, _, .cons m _, h => by simp at h; subst h; exact ⟨_, _, rfl, rfl, m⟩
  | _, _, i + 1, v, .cons _ r, h => by
    obtain ⟨x, a, h1, h2⟩ := FnVs.at (i := i) (v := v) r (by simpa using h)
    exact ⟨x, a, by simpa using h1, h2⟩
theorem FnVs.length {mg : Str → Option Value} : ∀ {xs : List Str} {vs : List V}, FnVs mg xs vs → vs.length = xs.length
  | _, _, .nil => rfl
  | _, _, .cons _ r => congrArg (· + 1) r.length
/-- a display of defs -/
def PFs (X : Cx) (es : List Expr) (xs : List Str) : Prop := ∃ vs, FnVs X.mg xs vs ∧ PA X es (fun _ H Q => Q vs H)
end
end Rf

/-! Rf.7: enumerate of lists and tuples. -/
namespace PySem
open Sem (wp)
theorem meets_enumT {v : Value} {o : Obj} {H : Heap → Prop} (B : Begins v o H) :
    Meets (Builtin.«enumerate.__new__» ⟨[.type "enumerate", v], []⟩) (fun _ R s => H s.heap ∧
      R (.ok (.ret (.ref (s.heap.push o).objs.size))) { s with heap := (s.heap.push o).push { cls := .type "enumerate", data := .fields #[.none, .bool false, .ref s.heap.objs.size, rawInt 0, .none, .none] } }) :=
  .of_wp fun prog w A R s h => by
    obtain ⟨hp, g, d, tk, os⟩ := s; obtain ⟨h1, h⟩ := h
    have hsub := sub_enumerate
    have q1 : ∀ {A' : Around} {E : Value → Shared → Prop} {Q : Value → Shared → Prop}, Q (.ref hp.objs.size) ⟨hp.push o, g, d, tk, os⟩ → wpAny (model prog w) A' (pyIter v) Q E ⟨hp, g, d, tk, os⟩ :=
      fun q => B.iter prog w _ _ ⟨hp, g, d, tk, os⟩ _ h1 q
    wp_walk using q1
    refine wpAny_stack_any fun st => wpAny_pure ?_
    split
    · rename_i c _ _ _ _ _
      cases (c == Value.type "enumerate")
      · wp_walk using q1
        exact ⟨_, rfl, h⟩
      · wp_walk using q1
        exact ⟨_, rfl, h⟩
    · wp_walk using q1
      exact ⟨_, rfl, h⟩
section
variable {prog : Program} {w : World} {A : Around} {E : Value → Shared → Prop} {s : Shared}
theorem call_enumT {v : Value} {o : Obj} {H : Heap → Prop} {Q : Value → Shared → Prop} (B : Begins v o H) (h1 : H s.heap)
    (h : ∀ h', IsEnum h' (s.heap.objs.size + 1) s.heap.objs.size 0 .none → h'.get? s.heap.objs.size = some o → h'.objs.size = s.heap.objs.size + 2 →
      (∀ b o, s.heap.get? b = some o → h'.get? b = some o) → Q (.ref (s.heap.objs.size + 1)) { s with heap := h' }) :
    wpAny (model prog w) A (call (.type "enumerate") [v]) Q E s := by
  refine callType_new F.called_enumerate (by decide) (F.typeCall_enumerate_1 _) (F.newCall_enumerate_1 _) (fun obj => F.args_object_init_2 obj _) F.entry_enumerate_new
    (meets_enumT B) ⟨h1, ?_⟩
  have hz : (s.heap.push o).objs.size = s.heap.objs.size + 1 := Heap.size_push ..
  show _ ∧ _
  rw [hz]
  have he : IsEnum ((s.heap.push o).push { cls := .type "enumerate", data := .fields #[.none, .bool false, .ref s.heap.objs.size, rawInt 0, .none, .none] }) (s.heap.objs.size + 1) s.heap.objs.size 0 .none := by
    have := Heap.get?_push_size (s.heap.push o) (o := { cls := .type "enumerate", data := .fields #[.none, .bool false, .ref s.heap.objs.size, rawInt 0, .none, .none] }) rfl
    rw [hz] at this; exact this
  refine ⟨⟨_, he, rfl⟩, h _ he (Heap.get?_push_of_some _ (Heap.get?_push_size _ B.free)) (by rw [Heap.size_push, hz]) fun b o x => Heap.get?_push_of_some _ (Heap.get?_push_of_some _ x)⟩
end
end PySem
namespace Rf
open PySem PySem.Spec PyProof.Rows L2 LamX
/-- the tuple at a as it stands at each turn, each item in a new pair -/
def IteT (K : PySem.W.Frag) (a : Addr) : It := ⟨fun i H => ∃ (xs : List V) (x : V), SqT K H a xs ∧ xs[i]? = some x, fun _ _ _ _ => False, fun i H => ∃ xs : List V, SqT K H a xs ∧ xs.length ≤ i⟩
def iEnumA (K : PySem.W.Frag) (ta : TA) : TI := fun σ H R => ta σ H fun vs H1 => ∃ a xs, vs = [.ref a] ∧ ((SqL K H1 a xs ∧ R (pairX (Ite K a) (fe K a)) H1) ∨ (SqT K H1 a xs ∧ R (pairX (IteT K a) (feT K a)) H1))
/-- enumerate of a list or a tuple -/
def enumD (xs : List D) : List D := zipD (intsD 0 xs.length) xs
def dEnum : D → R (List D)
  | .list xs => .ok (enumD xs)
  | .tuple xs => .ok (enumD xs)
  | _ => .bad
def riEnum (f : E0f) : I0f := fun ρ => (f ρ).bind dEnum
theorem enumD_len (xs : List D) : (enumD xs).length = xs.length := by simp [enumD, zipD_len, intsD]
section
variable {X : Cx} {T : Tk} {W : WX} {a : Expr} {pos p : Pos} {f : E0f}
end
end Rf

/-! Rf.8: t.index(x), dict(t) of a tuple of pairs, d.get(k, x), sorted(d). -/
namespace Rf
open PySem PySem.Spec PyProof.Rows L2 LamX
/-- a tuple whose whole object is known -/
def XT (K : PySem.W.Frag) (H : Hp) (a : Addr) (xs : List V) : Prop := (∃ o : Obj, o.dict = none ∧ H a = some (.frz o (.tup xs))) ∨ KTx K a xs
theorem QT.xt {K : PySem.W.Frag} {O : Own} {H : Hp} {a : Addr} {xs : List V} (q : QT K O H a xs) : XT K H a xs := q.elim (fun ⟨o, h, z⟩ => .inl ⟨o, h, z.1⟩) .inr
section
variable {X : Cx} {pins : List (Addr × Obj)} {σ : L2.St} {H : Hp} {s : Shared}
theorem XT.ok {a : Addr} {xs : List V} (I : Inv X pins σ H s) (q : XT X.K H a xs) : ∃ (its : List Value) (o : Obj) (n : Nat), Vals xs its ∧ s.heap.get? a = some o ∧ o.cls = .type "tuple" ∧ o.dict = none ∧ o.data = .seq its.toArray n ∧ xs.length ≤ sizeLine := by
  rcases q with ⟨o, hd, hq⟩ | ⟨⟨o, its, n, hk, hc, hs, hz, r⟩, o', hk', hd⟩
  · obtain ⟨ho, z, its, r, o', ho', hc, n, hdat⟩ := I.hok a _ hq
    rw [ho] at ho'
    cases ho'
    exact ⟨its, o, n, r, ho, hc, hd, hdat, z⟩
  · rw [hk] at hk'
    cases hk'
    refine ⟨its.toList, o, n, r, I.kIn a o hk, hc, hd, by simpa using hs, ?_⟩
    have e := r.length
    simp only [Array.length_toList] at e
    omega
end
/-! ### t.index(x) -/
section
variable {X : Cx}
def tTix (K : PySem.W.Frag) (to te : TE) : TE := fun σ H Q => to σ H fun x H1 => ∃ a xs, x = .ref a ∧ XT K H1 a xs ∧ te σ H1 fun y H2 => ∃ (ns : List Int) (k : Int) (j : Nat), y = .int k ∧ SqT K H2 a (ns.map V.int) ∧ ns[j]? = some k ∧ (∀ m, m < j → ns[m]? ≠ some k) ∧ Q (.int (j : Nat)) H2
def rTix (fo fa : E0f) : E0f := fun ρ => (fo ρ).bind fun d => match d with
  | .tuple ds => (match intsOf ds with
    | some ns => (fa ρ).bind fun k => (match k with
      | .int k => if k ∈ ns then .ok (.int (ns.idxOf k : Nat)) else .bad
      | _ => .bad)
    | none => .bad)
  | _ => .bad
variable {T : Tk} {W : WX} {a b o e : Expr} {fo fa fd f : E0f} {apos cpos pos p : Pos}
/-! ### d.get(k, x) -/
def rGetK (fo fa fd : E0f) : E0f := fun ρ => (fo ρ).bind fun d => match d with
  | .dict kvs => (fa ρ).bind fun k => (fd ρ).bind fun e => (match keyOf k with
    | some q => .ok ((kGet kvs q).getD e)
    | none => .bad)
  | _ => .bad
theorem pp_getK (hu : X.A.units + 1 < cLine) (ho : PP X T W o fo) (ha : PP X T W a fa) (hb : PP X T W b fd) (m : M2 X o "get" apos a b cpos) : PP X T W (.Call (.Attribute o "get" apos) [a, b] [] cpos) (rGetK fo fa fd) :=
  PE.of (pe_dget2 hu ho ha hb m) fun σ H Q ⟨O, ρ, E, z⟩ => ⟨O, ρ, E, by
    unfold rGetK at z
    cases hf : fo ρ with
    | bad => rw [hf] at z; exact z
    | exc c => rw [hf] at z; exact z
    | ok d =>
      rw [hf] at z
      simp only [R.bind_ok] at z
      intro v H1 s1 g1
      cases d with
      | dict kvs =>
        dsimp only at z
        obtain ⟨p, ks, xs, ds, rfl, rfl, h1, h2, h3, h4⟩ := GT.dict (.inl g1)
        refine ⟨p, rfl, .inl ⟨_, h1⟩, O, ρ, E.same s1, ?_⟩
        cases hg : fa ρ with
        | bad => rw [hg] at z; exact z
        | exc c => rw [hg] at z; exact fun H' s' => z H' (s1.trans s')
        | ok k =>
          rw [hg] at z
          simp only [R.bind_ok] at z
          intro w H2 s2 g2
          refine ⟨O, ρ, (E.same s1).same s2, ?_⟩
          cases hd : fd ρ with
          | bad => rw [hd] at z; exact z
          | exc c => rw [hd] at z; exact fun H' s' => z H' ((s1.trans s2).trans s')
          | ok e =>
            rw [hd] at z
            simp only [R.bind_ok] at z
            intro y H3 s3 g3
            cases hk : keyOf k with
            | none => rw [hk] at z; exact z.elim
            | some q =>
              rw [hk] at z
              dsimp only at z
              have hw := gt_key (.inl g2) hk
              subst hw
              have g1' := (g1.ext s2.ex).ext s3.ex
              obtain ⟨p', ks', xs', ds', e1, e2, h1', h2', h3', h4'⟩ := GT.dict (.inl g1')
              cases e1
              have e := kget_val q h2' h3'
              rw [← e2] at e
              refine ⟨valV (ks'.zip xs') q, .inl ⟨_, q, h1', rfl, rfl⟩, ?_⟩
              cases hv : kGet ((ks.map kD).zip ds) q with
              | none =>
                rw [hv] at e z
                rw [e]
                exact z _ H3 ((s1.trans s2).trans s3) g3
              | some d0 =>
                rw [hv] at e z
                obtain ⟨w, e, gw⟩ := e
                rw [e]
                exact z _ H3 ((s1.trans s2).trans s3) gw
      | _ => exact (show False from z).elim⟩
/-! ### dict(t), t a tuple of pairs -/
theorem pairs_ofV {pins : List (Addr × Obj)} {σ : L2.St} {H : Hp} {s : Shared} (I : Inv X pins σ H s) : ∀ {ps : List Addr} {kvs : List (Key × V)}, Paired (fun p kv => SqT X.K H p [kV kv.1, kv.2]) ps kvs →
    ∃ (us : List (Value × Value)) (prs : List (Key × Value)), KV kvs prs ∧ prs.length = ps.length ∧ us.length = ps.length ∧ ∀ (j : Nat) (u v : Value), us[j]? = some (u, v) → ∃ (b : Addr) (k : Key), ps[j]? = some b ∧ IsTup s.heap b #[u, v] ∧ prs[j]? = some (k, v) ∧ keyIs k u = true
  | _, _, .nil => ⟨[], [], .nil, rfl, rfl, fun j u v e => by simp at e⟩
  | _, _, .cons (a := p) (b := kv) h t => by
    obtain ⟨us, prs, r, hl, hl2, hp⟩ := pairs_ofV I t
    obtain ⟨its, rv, ht, _⟩ := I.tuple h
    obtain ⟨u, y, ei, ru, ry⟩ := vals2 rv
    subst ei
    refine ⟨(u, y) :: us, (kv.1, y) :: prs, .cons ⟨rfl, ry⟩ r, by rw [List.length_cons, List.length_cons, hl], by rw [List.length_cons, List.length_cons, hl2], fun j u' v' e => ?_⟩
    cases j with
    | zero =>
      have e' : (u, y) = (u', v') := Option.some.inj e
      cases e'
      exact ⟨p, kv.1, rfl, ht, rfl, kV_is (P := X.prog) (w := X.w) ru⟩
    | succ j =>
      obtain ⟨b, k, e1, e2, e3, e4⟩ := hp j u' v' (by simpa using e)
      exact ⟨b, k, by simpa using e1, e2, by simpa using e3, e4⟩
theorem call_dictT (hcalm : X.calm = true) : CallR X (.type "dict") (fun xs H Q => ∃ (a : Addr) (ps : List Addr) (kvs : List (Key × V)), xs = [.ref a] ∧ XT X.K H a (ps.map V.ref) ∧ Paired (fun p kv => SqT X.K H p [kV kv.1, kv.2]) ps kvs ∧
    ∀ p, H p = none → Q (.ref p) (upd H p (.dK (mergeK [] kvs)))) := by
  intro pins s σ H xs us Q I r q
  obtain ⟨a, ps, kvs, ex, hq, hp, q⟩ := q
  subst ex
  obtain ⟨u, eu, rx⟩ := vals1 r
  subst eu
  cases rx
  obtain ⟨its, o, n, rv, ho, hc, hd, hdat, hz⟩ := hq.ok I
  have ei := refs_at rv
  subst ei
  rw [List.length_map] at hz
  obtain ⟨vs, prs, rel, hl, hl2, hpr⟩ := pairs_ofV I hp
  have P0 := PairArg.tuple (prog := X.prog) (w := X.w) a (ps.map Value.ref).toArray (fun j => ps.getD j 0) vs
  refine PySem.call_dict_pairs (knd := mixKind X.prog X.w) (kvs := prs) P0 (I.ok.hd hcalm) ⟨⟨o, n, ho, hc, hd, hdat⟩, by simp [hl2], fun j u v e => ?_⟩ ⟨by rw [hl, hl2], fun j u v e => ?_⟩ (by rw [hl2]; exact hz) fun h' tk hd' k => ?_
  · obtain ⟨b, k, e1, e2, _⟩ := hpr j u v e
    refine ⟨?_, .inl ?_⟩
    · simp [e1, List.getD_eq_getElem?_getD]
    · show s.heap.IsTuple (ps.getD j 0) #[u, v]
      rw [List.getD_eq_getElem?_getD, e1]
      exact e2
  · obtain ⟨b, k, _, _, e3, e4⟩ := hpr j u v e
    exact ⟨k, e3, e4⟩
  · have hm : (s.heap.objs.size == sysModules) = false := beq_eq_false_iff_ne.mpr (Nat.ne_of_gt I.big)
    have hlen : (mergeK [] kvs).length ≤ sizeLine := by
      refine Nat.le_trans (length_mergeK kvs []) ?_
      rw [List.length_nil, Nat.zero_add, rel.length, hl]
      exact hz
    exact ⟨.ref s.heap.objs.size, upd H s.heap.objs.size (.dK (mergeK [] kvs)), I.laid (t' := tk) (fun b o e => k b o (by simp) e) (Nat.le_refl _) (show ObjOk X.prog X.w _ _ _ (.dK (mergeK [] kvs)) from ⟨hlen, hm, merged [] prs, KV.merge rel .nil, hd'⟩), rfl, q _ (I.hok.fresh (Nat.le_refl _))⟩
def pairsD : List D → Option (List (Key × D))
  | [] => some []
  | .tuple [k, v] :: r => match keyOf k, pairsD r with
    | some q, some kvs => some ((q, v) :: kvs)
    | _, _ => none
  | _ => none
def mergeD (kvs more : List (Key × D)) : List (Key × D) := more.foldl (fun acc kv => putD acc kv.1 kv.2) kvs
def dDictP : D → R D
  | .tuple ds => match pairsD ds with
    | some kvs => .ok (dicD (mergeD [] kvs))
    | none => .bad
  | _ => .bad
theorem nex_dDictP (x : D) (c : Str) : dDictP x ≠ .exc c := by
  unfold dDictP
  split
  · split <;> (intro z; cases z)
  · intro z; cases z
theorem pairsD_cons {d : D} {r : List D} {kvs : List (Key × D)} (h : pairsD (d :: r) = some kvs) : ∃ k v q kvs', d = .tuple [k, v] ∧ keyOf k = some q ∧ pairsD r = some kvs' ∧ kvs = (q, v) :: kvs' := by
  unfold pairsD at h
  split at h
  · rename_i e; cases e
  · rename_i k v r' e
    cases e
    cases hk : keyOf k with
    | none => rw [hk] at h; cases h
    | some q =>
      cases hr : pairsD r with
      | none => rw [hk, hr] at h; cases h
      | some kvs' =>
        rw [hk, hr] at h
        cases h
        exact ⟨k, v, q, kvs', rfl, hk, rfl, rfl⟩
  · cases h
theorem pairs_gd {K : PySem.W.Frag} {O : Own} {H : Hp} : ∀ {ds : List D} {xs : List V} {kvs : List (Key × D)}, GdAll K O H xs ds → pairsD ds = some kvs → ∃ (ps : List Addr) (l : List (Key × V)), xs = ps.map V.ref ∧ Paired (fun p kv => SqT K H p [kV kv.1, kv.2]) ps l ∧ DkR K O H l kvs
  | [], _, _, .nil, h => by
    cases h
    exact ⟨[], [], rfl, .nil, .nil⟩
  | d :: ds, _, kvs, .cons g t, h => by
    obtain ⟨k, v, q, kvs', rfl, hk, hr, rfl⟩ := pairsD_cons h
    obtain ⟨ps, l, e, hp, hd⟩ := pairs_gd t hr
    cases g with
    | @tup p ys _ hq ga hl =>
      cases ga with
      | cons g1 t1 =>
        cases t1 with
        | cons g2 t2 =>
          cases t2
          have ek := gt_key (.inl g1) hk
          subst ek
          exact ⟨p :: ps, (q, _) :: l, by rw [e]; rfl, .cons hq.sq hp, .cons ⟨rfl, g2⟩ hd⟩
theorem merge_gd {K : PySem.W.Frag} {O : Own} {H : Hp} : ∀ {more : List (Key × V)} {moreD : List (Key × D)}, DkR K O H more moreD → ∀ {l : List (Key × V)} {kvs : List (Key × D)}, DkR K O H l kvs → DkR K O H (mergeK l more) (mergeD kvs moreD) := by
  intro more moreD h
  induction h with
  | nil => exact fun g => g
  | @cons p q ps qs a t ih =>
    intro l kvs g
    show DkR K O H (mergeK (putK l p.1 p.2) ps) (mergeD (putD kvs q.1 q.2) qs)
    rw [a.1]
    exact ih (g.put a.2)
theorem mergeD_len : ∀ (more kvs : List (Key × D)), (mergeD kvs more).length ≤ kvs.length + more.length
  | [], kvs => by show kvs.length ≤ kvs.length + 0; omega
  | p :: r, kvs => by
    have h1 := mergeD_len r (putD kvs p.1 p.2)
    have h2 := putD_len kvs p.1 p.2
    show (mergeD (putD kvs p.1 p.2) r).length ≤ kvs.length + (r.length + 1)
    omega
theorem pairsD_len : ∀ {ds : List D} {kvs : List (Key × D)}, pairsD ds = some kvs → kvs.length = ds.length
  | [], _, h => by cases h; rfl
  | d :: ds, kvs, h => by
    obtain ⟨k, v, q, kvs', rfl, hk, hr, rfl⟩ := pairsD_cons h
    rw [List.length_cons, List.length_cons, pairsD_len hr]
theorem gd_dic {K : PySem.W.Frag} {O : Own} {H : Hp} {p : Addr} {l : List (Key × V)} {kvs : List (Key × D)} (h : DkR K O H l kvs) (hp : H p = some (.dK l)) (no : O p = none) (hl : kvs.length ≤ LIM) : Gd K O H (.ref p) (dicD kvs) := by
  obtain ⟨xs, e, g⟩ := dk_from h
  have e2 : dicD kvs = .dict (((kvs.map (·.1)).map kD).zip (kvs.map (·.2))) := by
    unfold dicD
    rw [List.map_map]
    rfl
  rw [e2]
  subst e
  refine .dic ⟨.inl hp, no⟩ ?_ g (by simpa using hl)
  have := g.length
  simp at this ⊢
  exact this.symm
theorem cb_dictP (hc : X.calm = true) : Cb1 X (.type "dict") dDictP := by
  intro pins s σ H xs us Q I r h
  obtain ⟨x, O, d, z, rfl, fr, gx, hz, q⟩ := h
  unfold dDictP at hz
  split at hz
  · rename_i ds
    cases hk : pairsD ds with
    | none => rw [hk] at hz; cases hz
    | some kvs =>
      rw [hk] at hz
      cases hz
      have gx : Gd X.K O H x (.tuple ds) := by
        rcases gx with g | ⟨_, _, _, _, e, _⟩ | ⟨_, _, _, _, _, e, _⟩
        · exact g
        · cases e
        · cases e
      cases gx with
      | @tup a ys _ hq ga hl =>
        obtain ⟨ps, l, rfl, hp, hd⟩ := pairs_gd ga hk
        refine call_dictT hc pins s σ H _ us Q I r ⟨a, ps, l, rfl, hq.xt, hp, fun p hn => q _ _ (same_new hn) ?_⟩
        have hd2 := merge_gd hd (l := []) (kvs := []) .nil
        have hd3 : DkR X.K O (upd H p (.dK (mergeK [] l))) (mergeK [] l) (mergeD [] kvs) := by
          obtain ⟨xs, e, g⟩ := dk_from hd2
          rw [e]
          exact dk_to (g.same (same_new hn))
        refine gd_dic hd3 upd_same (fr p hn) ?_
        have h1 := mergeD_len kvs []
        have h2 := pairsD_len hk
        have h3 : ds.length ≤ LIM := hl
        simp at h1
        omega
  · cases hz
theorem bb_dict : bootBuiltins "dict" = some (.type "dict") := by decide +kernel
end
end Rf

/-! Rf.9: sorted(d) of a dict with int keys; list(enumerate(t)). -/
namespace Rf
open PySem PySem.Spec PyProof.Rows L2 LamX
section
variable {prog : Program} {w : World} {A : Around} {E : Value → Shared → Prop} {s : Shared} {β : Type} {bs : List β} {enc : β → PyData} {Rl : Value → β → Prop}
end
def dSortD : D → R D
  | .dict kvs => match intsOf (kvs.map (·.1)) with
    | some ns => if sortOk (ns.map PyData.int) = true then .ok (.list (srtBy dle (ns.map PyData.int))) else .bad
    | none => .bad
  | _ => .bad
section
variable {X : Cx}
end
end Rf

/-! Rf.a: list(enumerate(t)) of a tuple. -/
namespace PySem
open Sem (wp)
theorem enum_no_len : typeLookup (.type "enumerate") "__len__" = pure none := am_miss_of_fast (by decide +kernel)
theorem enum_no_hint : typeLookup (.type "enumerate") "__length_hint__" = pure none := am_miss_of_fast (by decide +kernel)
section
variable {prog : Program} {w : World} {A : Around} {E : Value → Shared → Prop} {s : Shared}
theorem enum_next_heldD {e it T : Addr} {fp : List Addr} {n i : Nat} {P : Nat → Value → Prop} {St : Nat → Heap → Prop} {old : Value} {f : Bool} {oT : Obj} {Q : Value → Shared → Prop}
    (D : Draws prog w A it fp n P St) (he : IsEnumHeld s.heap e it i old T f) (hT : s.heap.get? T = some oT) (hTe : T ≠ e) (hTi : T ≠ it) (hst : St i s.heap) (hlt : i < n) (hne : e ≠ it) (hef : e ∉ fp)
    (hQ : ∀ x h' tk, P i x → IsEnumHeld h' e it ((i : Int) + 1) old T true → St (i + 1) h' →
      h'.get? s.heap.objs.size = some { cls := .type "tuple", data := .seq #[.int i tk, x] } → h'.objs.size = s.heap.objs.size + 1 →
      (∀ b o, b ≠ e → b ≠ it → s.heap.get? b = some o → h'.get? b = some o) → Q (.ref s.heap.objs.size) { s with heap := h', toks := tk + 1 }) :
    wpAny (model prog w) A (Builtin.«enumerate.__next__» ⟨[.ref e], []⟩) (fun fin s' => ∃ v, fin = .done (.ret v) ∧ Q v s') E s := by
  obtain ⟨hp, g, d, tk₀, os⟩ := s
  show wpAny _ _ (field (.ref e) 2 >>= _) _ _ _
  refine wpAny_bind (wpAny_field he rfl (x := .ref it) rfl ?_)
  refine wpAny_bind (D.item i _ _ _ hlt hst fun x h₁ tk hPx hit₁ hs₁ => ?_)
  replace hs₁ : Heap.SameBut it hp h₁ := hs₁
  have he₁ : IsEnumHeld h₁ e it i old T f := (hs₁.2 e hne).trans he
  show wpAny _ _ (field (.ref e) 3 >>= _) _ _ ⟨h₁, g, d, tk, os⟩
  refine wpAny_bind (wpAny_field he₁ rfl (x := rawInt i) rfl ?_)
  show wpAny _ _ (field (.ref e) 4 >>= _) _ _ ⟨h₁, g, d, tk, os⟩
  refine wpAny_bind (wpAny_field he₁ rfl (x := .none) rfl ?_)
  show wpAny _ _ (mkInt i >>= _) _ _ ⟨h₁, g, d, tk, os⟩
  refine wpAny_bind (wpAny_mkInt ?_)
  show wpAny _ _ (setField (.ref e) 3 (rawInt ((i : Int) + 1)) >>= _) _ _ ⟨h₁, g, d, tk + 1, os⟩
  refine wpAny_bind (wpAny_setField_rec he₁ (by simp) fun h₂ he₂ hs₂ => ?_)
  replace hs₂ : Heap.SameBut e h₁ h₂ := hs₂
  replace he₂ : IsEnumHeld h₂ e it ((i : Int) + 1) old T f := he₂
  show wpAny _ _ (setField (.ref e) 4 .none >>= _) _ _ ⟨h₂, g, d, tk + 1, os⟩
  refine wpAny_bind (wpAny_setField_rec he₂ (by simp) fun h₃ he₃ hs₃ => ?_)
  replace hs₃ : Heap.SameBut e h₂ h₃ := hs₃
  replace he₃ : IsEnumHeld h₃ e it ((i : Int) + 1) old T f := he₃
  show wpAny _ _ (newTuple [.int i tk, x] >>= _) _ _ ⟨h₃, g, d, tk + 1, os⟩
  refine wpAny_bind (wpAny_newTuple ?_)
  have he₄ : IsEnumHeld (h₃.push { cls := .type "tuple", data := .seq #[.int i tk, x] }) e it ((i : Int) + 1) old T f := Heap.get?_push_of_some _ he₃
  generalize hh₄ : h₃.push { cls := .type "tuple", data := .seq #[.int i tk, x] } = h₄ at he₄
  have hsz : h₃.objs.size = hp.objs.size := by rw [hs₃.1, hs₂.1, hs₁.1]
  have hel : e < hp.objs.size := Heap.lt_size he
  have ht₄ : h₄.get? hp.objs.size = some { cls := .type "tuple", data := .seq #[.int i tk, x] } := by rw [← hh₄, ← hsz]; exact Heap.get?_push_size _ rfl
  have hz₄ : h₄.objs.size = hp.objs.size + 1 := by rw [← hh₄, Heap.size_push, hsz]
  have hk₄ : ∀ b o, b ≠ e → b ≠ it → hp.get? b = some o → h₄.get? b = some o := fun b o hbe hbi hb => by
    rw [← hh₄]; exact Heap.get?_push_of_some _ (hs₃.extBut b o hbe (hs₂.extBut b o hbe (hs₁.extBut b o hbi hb)))
  have hit₄ : St (i + 1) h₄ := D.frame _ _ _ hit₁ fun b hb o y => by
    have hbe : b ≠ e := fun q => hef (q ▸ hb)
    rw [← hh₄]; exact Heap.get?_push_of_some _ (hs₃.extBut b o hbe (hs₂.extBut b o hbe y))
  show wpAny _ _ (Builtin.SmallTypes.ownedTupleIsFree (.ref e) >>= _) _ _ ⟨h₄, g, d, tk + 1, os⟩
  rw [hsz]
  clear hh₄ he₃ hs₃ he₂ hs₂ he₁ hs₁ hit₁ hsz h₃ h₂ h₁
  refine wpAny_bind (wpAny_tupleHeld_enum (s := ⟨h₄, g, d, tk + 1, os⟩) he₄ (hk₄ T oT hTe hTi hT) fun h₅ he₅ hs₅ => ?_)
  replace hs₅ : Heap.SameBut e h₄ h₅ := hs₅
  simp only [Bool.false_eq_true, if_false]
  refine wpAny_pure ⟨_, rfl, hQ x h₅ tk hPx he₅ (D.frame _ _ _ hit₄ fun b hb o y => hs₅.extBut b o (fun q => hef (q ▸ hb)) y) (hs₅.extBut _ _ (Nat.ne_of_gt hel) ht₄) ?_ fun b o hbe hbi hb => hs₅.extBut b o hbe (hk₄ b o hbe hbi hb)⟩
  show h₅.objs.size = hp.objs.size + 1
  rw [hs₅.1, hz₄]
/-- an enumerate whose last tuple, if any, is still held -/
def EnumAt (h : Heap) (e it : Addr) (i : Nat) : Prop := (∃ old, IsEnum h e it i old) ∨ ∃ old T f oT, IsEnumHeld h e it i old T f ∧ h.get? T = some oT ∧ T ≠ e ∧ T ≠ it
theorem EnumAt.lt {h : Heap} {e it : Addr} {i : Nat} (x : EnumAt h e it i) : e < h.objs.size := by
  rcases x with ⟨old, x⟩ | ⟨old, T, f, oT, x, _⟩ <;> exact Heap.lt_size x
theorem EnumAt.type {e it : Addr} {i : Nat} (x : EnumAt s.heap e it i) : s.TypeIs (.ref e) "enumerate" := by
  rcases x with ⟨old, x⟩ | ⟨old, T, f, oT, x, _⟩ <;> exact ⟨_, x, rfl⟩
theorem EnumAt.upd {h h' : Heap} {e it : Addr} {i : Nat} (x : EnumAt h e it i) (k : ∀ b o, h.get? b = some o → ∃ o', h'.get? b = some o') (ke : ∀ o, h.get? e = some o → h'.get? e = some o) : EnumAt h' e it i := by
  rcases x with ⟨old, x⟩ | ⟨old, T, f, oT, x, y, z⟩
  · exact .inl ⟨old, ke _ x⟩
  · obtain ⟨o', y'⟩ := k _ _ y
    exact .inr ⟨old, T, f, o', ke _ x, y', z⟩
theorem pyNext_enum_any {e it : Addr} {fp : List Addr} {n i : Nat} {P : Nat → Value → Prop} {St : Nat → Heap → Prop} {Q : Option Value → Shared → Prop}
    (D : Draws prog w A.in1 it fp n P St) (he : EnumAt s.heap e it i) (hst : St i s.heap) (hlt : i < n) (hne : e ≠ it) (hef : e ∉ fp)
    (hQ : ∀ x h' tk, P i x → EnumAt h' e it (i + 1) → St (i + 1) h' → h'.get? s.heap.objs.size = some { cls := .type "tuple", data := .seq #[.int i tk, x] } → h'.objs.size = s.heap.objs.size + 1 →
      (∀ b o, b ≠ e → b ≠ it → s.heap.get? b = some o → h'.get? b = some o) → Q (some (.ref s.heap.objs.size)) { s with heap := h', toks := tk + 1 }) :
    wpAny (model prog w) A (pyNext (.ref e)) Q E s := by
  have e1 : ((i + 1 : Nat) : Int) = (i : Int) + 1 := by omega
  have hel := he.lt
  have hil : it < s.heap.objs.size := by obtain ⟨_, y⟩ := D.live _ _ hst; exact Heap.lt_size y
  rcases he with ⟨old, he⟩ | ⟨old, T, f, oT, he, hT, hTe, hTi⟩
  · refine wpAny_pyNext_enum_itemD D he hst hlt hne hef fun x h' tk hP ho hs' hT hsz hk => hQ x h' tk hP (.inr ⟨x, s.heap.objs.size, false, _, ?_, hT, Nat.ne_of_gt hel, Nat.ne_of_gt hil⟩) hs' hT hsz hk
    rw [e1]
    exact ho
  · have hTy : s.TypeIs (.ref e) "enumerate" := ⟨_, he, rfl⟩
    unfold pyNext
    refine wpAny_bind (wpAny_attempt (wpAny_callSpecial?_slot (name := Str.ofString "__next__") hTy F.slot_enumerate_next
      (wpAny_call_entry F.slot_enumerate_next hTy F.entry_enumerate_next
        (enum_next_heldD D he hT hTe hTi hst hlt hne hef fun x h' tk hP ho hs' hT' hsz hk => wpAny_pure (hQ x h' tk hP (.inr ⟨old, T, true, oT, ?_, hk T oT hTe hTi hT, hTe, hTi⟩) hs' hT' hsz hk)) (F.args_enumerate_next_1 _))))
    rw [e1]
    exact ho
theorem pyNext_enum_last {e it : Addr} {fp : List Addr} {n i : Nat} {P : Nat → Value → Prop} {St : Nat → Heap → Prop} {Q : Option Value → Shared → Prop} (D : Draws prog w A.in1 it fp n P St) (he : EnumAt s.heap e it i) (hst : St n s.heap)
    (hQ : ∀ h', Heap.ExtBut it s.heap h' → Q none { s with heap := h' }) : wpAny (model prog w) A (pyNext (.ref e)) Q E s := by
  have hTy := he.type
  have key : wpAny (model prog w) A.in1 (Builtin.«enumerate.__next__» ⟨[.ref e], []⟩) (fun fin s' => False) (fun x s' => (∃ o, s'.heap.get? (match x with | .ref a => a | _ => 0) = some o ∧ o.cls = .type "StopIteration" ∧ (∃ a, x = .ref a)) ∧ ∃ h', s' = { s with heap := h' } ∧ Heap.ExtBut it s.heap h') s := by
    show wpAny _ _ (field (.ref e) 2 >>= _) _ _ _
    rcases he with ⟨old, he⟩ | ⟨old, T, f, oT, he, _⟩
    · refine wpAny_bind (wpAny_field he rfl (x := .ref it) rfl ?_)
      exact wpAny_bind (D.done _ _ _ hst fun h' x he' hx' => ⟨by obtain ⟨o, ho, hc⟩ := hx'; exact ⟨o, ho, hc, x, rfl⟩, h', rfl, he'⟩)
    · refine wpAny_bind (wpAny_field he rfl (x := .ref it) rfl ?_)
      exact wpAny_bind (D.done _ _ _ hst fun h' x he' hx' => ⟨by obtain ⟨o, ho, hc⟩ := hx'; exact ⟨o, ho, hc, x, rfl⟩, h', rfl, he'⟩)
  unfold pyNext
  refine wpAny_bind (wpAny_attempt (wpAny_callSpecial?_slot (name := Str.ofString "__next__") hTy F.slot_enumerate_next
    (wpAny_call_entry F.slot_enumerate_next hTy F.entry_enumerate_next (wpAny_mono key (fun _ _ z => z.elim) fun x s' ⟨⟨o, ho, hc, a, ea⟩, h', es, hx⟩ => ?_) (F.args_enumerate_next_1 _))))
  subst ea
  subst es
  refine wpAny_bind (wpAny_isInstance (T := "StopIteration") (b := true) ⟨o, ho, hc⟩ isSubtype_stop ?_)
  exact wpAny_pure (hQ _ hx)
end
end PySem
namespace Rf
open PySem PySem.Spec PyProof.Rows L2 LamX
section
variable {X : Cx} {pins : List (Addr × Obj)} {σ : L2.St}
/-- the pairs made so far -/
def Made (H0 H : Hp) (xs : List V) (i : Nat) (vs : List V) : Prop := vs.length = i ∧ ∀ (j : Nat), j < i → ∃ (T : Addr) (o : Obj) (x : V), vs[j]? = some (.ref T) ∧ xs[j]? = some x ∧ H T = some (.frz o (.tup [.int (j : Nat), x])) ∧ o.dict = none ∧ H0 T = none
theorem enum_loop {A : Around} (hA : A.handled = none) {S e it a : Addr} {H0 : Hp} {xs : List V} (hne : e ≠ it) (hai : a ≠ it) (hea : e ≠ a) (hz : xs.length ≤ LIM) (hx0 : SqT X.K H0 a xs) {R : Result → Shared → Prop} : ∀ (k i : Nat) (s : Shared) (H : Hp) (vs : List V), xs.length - i = k → i ≤ xs.length → Inv X pins σ H s → Same H0 H → H0 S = none → H S = some (.lst vs) → FpOk X pins H e → FpOk X pins H it →
    EnumAt s.heap e it i → s.heap.IsTupleIter it a i → Made H0 H xs i vs → (∀ s' H' vs', Inv X pins σ H' s' → Same H0 H' → H' S = some (.lst vs') → Made H0 H' xs xs.length vs' → R (.ok (.ret .none)) s') →
    codeAny (model X.prog X.w) A (.builtin "list.extend.loop" ⟨[.ref S, .ref e, .none], []⟩) R s := by
  intro k
  induction k with
  | zero =>
    intro i s H vs hk hi I sm hS0 hS fe fi he hit hm hR
    have hin : i = xs.length := by omega
    subst hin
    obtain ⟨its, rv, p, _⟩ := I.tuple (show SqT X.K H a xs from hx0.elim (fun q => .inl (q.elim (fun h => .inl (sm _ _ h)) fun ⟨o, h⟩ => .inr ⟨o, sm _ _ h⟩)) .inr)
    have hl := rv.length
    refine codeAny_builtin F.entry_extend_loop ?_
    rw [Around.under_plainId F.plain_extend_loop _]
    show wpAny _ A.in1 (pyNext (.ref e) >>= _) _ _ s
    have D := Draws.tuple (prog := X.prog) (w := X.w) (A := A.in1.in1) hA it a hai its.toArray
    refine wpAny_bind (pyNext_enum_last (i := xs.length) D he ⟨by rw [List.size_toArray, ← hl]; exact hit, p⟩ fun h' eb => ?_)
    obtain ⟨f0, f1, f2, f3, f4, f5⟩ := fi
    exact wpAny_pure (hR _ H vs (I.turned (t' := s.toks) (fun b o hb q => eb b o hb q) f0 f1 f3 f4 f5) sm hS hm)
  | succ k ih =>
    intro i s H vs hk hi I sm hS0 hS fe fi he hit hm hR
    have hlt : i < xs.length := by omega
    have hxH : SqT X.K H a xs := hx0.elim (fun q => .inl (q.elim (fun h => .inl (sm _ _ h)) fun ⟨o, h⟩ => .inr ⟨o, sm _ _ h⟩)) .inr
    obtain ⟨its, rv, p, _⟩ := I.tuple hxH
    have hl := rv.length
    have hxi : xs[i]? = some xs[i] := List.getElem?_eq_getElem hlt
    obtain ⟨u, hu, ru⟩ := rv.get hxi
    have hel := he.lt
    have hil : it < s.heap.objs.size := by obtain ⟨_, q, _⟩ := hit; exact Heap.lt_size q
    refine codeAny_builtin F.entry_extend_loop ?_
    rw [Around.under_plainId F.plain_extend_loop _]
    show wpAny _ A.in1 (pyNext (.ref e) >>= _) _ _ s
    have D := Draws.tuple (prog := X.prog) (w := X.w) (A := A.in1.in1) hA it a hai its.toArray
    refine wpAny_bind (pyNext_enum_any D he ⟨hit, p⟩ (by rw [List.size_toArray, ← hl]; exact hlt) hne (by simp [hne, hea]) fun y h' tk hy he' hst hT hsz hk' => ?_)
    have ey : y = u := by
      have h1 : its[i]? = some y := by simpa using hy
      rw [hu] at h1
      exact (Option.some.inj h1).symm
    subst ey
    have I1 := newPair (tk := tk + 1) (h'' := h') (x := .int (i : Nat)) (y := xs[i]) I (ch := [e, it]) (fun b ob hb q => hk' b ob (fun z => hb (by simp [z])) (fun z => hb (by simp [z])) q) (fun b hb => by
      have e' : b = e ∨ b = it := by simpa using hb
      rcases e' with z | z
      · rw [z]; exact fe
      · rw [z]; exact fi) ⟨tk, rfl⟩ ru hT
    have hTn : H s.heap.objs.size = none := I.hok.fresh (Nat.le_refl _)
    have hST : S ≠ s.heap.objs.size := fun z => by rw [z, hTn] at hS; cases hS
    have hS1 : (upd H s.heap.objs.size (.frz { cls := .type "tuple", data := .seq #[.int i tk, y] } (.tup [.int (i : Nat), xs[i]]))) S = some (.lst vs) := by rw [upd_ne hST]; exact hS
    obtain ⟨hvl, its2, n2, rv2, gS⟩ := I1.hok S _ hS1
    have hvs := rv2.length
    show wpAny _ A.in1 (updateSeq S (·.push (.ref s.heap.objs.size)) >>= _) _ _ _
    have hlen : (vs ++ [V.ref s.heap.objs.size]).length ≤ sizeLine := by
      rw [List.length_append, List.length_singleton, hm.1]
      have := lim_line hz
      omega
    have I2 := I1.lset (its' := its2 ++ [.ref s.heap.objs.size]) (f := (·.push (.ref s.heap.objs.size))) (t' := tk + 1) (ys := vs ++ [V.ref s.heap.objs.size]) hS1 gS (by simp) (rv2.append (.cons (show RelV (V.ref s.heap.objs.size) (Value.ref s.heap.objs.size) from rfl) .nil)) hlen
    have hmv : vs.length = i := hm.1
    have hl5 : xs.length ≤ sizeLine := lim_line hz
    refine wpAny_bind (wpAny_updateSeq gS rfl (wpAny_pure ⟨plainId_quiet F.plain_extend_loop _, ih (i + 1) _ _ (vs ++ [V.ref s.heap.objs.size]) (by omega) hlt I2 (fun b o hb => ?_) hS0 upd_same ?_ ?_ ?_ ?_ ?_ hR⟩) (by rw [List.size_toArray]; omega) (by show (its2.toArray.push _).size ≤ sizeLine + 1; rw [Array.size_push, List.size_toArray]; omega))
    · have hbS : b ≠ S := fun z => by rw [z, hS0] at hb; cases hb
      have hbH := sm b o hb
      have hbT : b ≠ s.heap.objs.size := fun z => by rw [z, hTn] at hbH; cases hbH
      rw [upd_ne hbS, upd_ne hbT]
      exact hbH
    · have e1 : e ≠ S := fun z => by have := fe.1; rw [z, hS] at this; cases this
      obtain ⟨f0, f1⟩ := fe
      exact ⟨by rw [upd_ne e1, upd_ne (Nat.ne_of_lt hel)]; exact f0, f1⟩
    · have e1 : it ≠ S := fun z => by have := fi.1; rw [z, hS] at this; cases this
      obtain ⟨f0, f1⟩ := fi
      exact ⟨by rw [upd_ne e1, upd_ne (Nat.ne_of_lt hil)]; exact f0, f1⟩
    · have e1 : e ≠ S := fun z => by have := fe.1; rw [z, hS] at this; cases this
      refine he'.upd (fun b o hb => ?_) fun o hb => (Heap.get?_update_other _ _ (Ne.symm e1)).trans hb
      by_cases hbS : b = S
      · subst hbS
        exact ⟨_, Heap.get?_update_self _ gS rfl⟩
      · exact ⟨o, (Heap.get?_update_other _ _ (Ne.symm hbS)).trans hb⟩
    · have e1 : it ≠ S := fun z => by have := fi.1; rw [z, hS] at this; cases this
      exact hst.1.at fun o q => (Heap.get?_update_other _ _ (Ne.symm e1)).trans q
    · refine ⟨by rw [List.length_append, List.length_singleton, hm.1], fun j hj => ?_⟩
      by_cases hji : j < i
      · obtain ⟨T, o, x, q1, q2, q3, q4, q5⟩ := hm.2 j hji
        have hTS : T ≠ S := fun z => by rw [z, hS] at q3; cases q3
        have hTT : T ≠ s.heap.objs.size := fun z => by rw [z, hTn] at q3; cases q3
        refine ⟨T, o, x, by rw [List.getElem?_append_left (by omega)]; exact q1, q2, by rw [upd_ne hTS, upd_ne hTT]; exact q3, q4, q5⟩
      · have hj' : j = i := by omega
        subst hj'
        have h0 : H0 s.heap.objs.size = none := by
          cases h : H0 s.heap.objs.size with
          | none => rfl
          | some o =>
            have := sm _ _ h
            rw [hTn] at this
            cases this
        exact ⟨s.heap.objs.size, _, xs[j], by rw [List.getElem?_append_right (by omega), hmv, Nat.sub_self]; rfl, hxi, by rw [upd_ne (Ne.symm hST)]; exact upd_same, rfl, h0⟩
theorem list_enum (hc : X.calm = true) {s : Shared} {H : Hp} (I : Inv X pins σ H s) {e it a : Addr} {xs : List V} (hne : e ≠ it) (hai : a ≠ it) (hea : e ≠ a) (hz : xs.length ≤ LIM) (hx : SqT X.K H a xs) {old : Value} (he : IsEnum s.heap e it 0 old) (hit : s.heap.IsTupleIter it a 0) (fe : FpOk X pins H e) (fi : FpOk X pins H it) {Q : V → Hp → Prop} {E : Value → Shared → Prop}
    (q : ∀ S H' vs, Same H H' → H' S = some (.lst vs) → H S = none → Made H H' xs xs.length vs → Q (.ref S) H') : wpAny (model X.prog X.w) X.A (call (.type "list") [.ref e]) (EP X pins σ Q) E s := by
  have hel : e < s.heap.objs.size := Heap.lt_size he
  have hil : it < s.heap.objs.size := by obtain ⟨_, q, _⟩ := hit; exact Heap.lt_size q
  have hSe : s.heap.objs.size ≠ e := Nat.ne_of_gt hel
  refine callType_codes (Q₁ := fun obj s₁ => obj = .ref s.heap.objs.size ∧ s₁ = { s with heap := s.heap.push { cls := .type "list", data := .seq #[] } }) F.called_list (F.typeCall_list_1 _) F.entry_list_init
    (code_list_new _ ⟨rfl, rfl⟩) fun obj s₁ h₁ => ?_
  obtain ⟨rfl, rfl⟩ := h₁
  have hS : (s.heap.push { cls := .type "list", data := .seq #[] }).get? s.heap.objs.size = some { cls := .type "list", data := .seq #[] } := Heap.get?_push_size _ rfl
  refine ⟨⟨_, hS, rfl⟩, F.args_list_init_2 _ _, ?_⟩
  show wpAny _ _ (do let old ← Builtin.List.listItems (.ref s.heap.objs.size); Builtin.List.listUpdate (.ref s.heap.objs.size) (fun _ => #[]); letGo old.toList.reverse; Builtin.List.listExtendWith (.ref s.heap.objs.size) (.ref e) .none) _ _ _
  refine wpAny_bind ?_
  unfold Builtin.List.listItems
  refine wpAny_bind (wpAny_seqItems hS rfl (wpAny_pure ?_))
  show wpAny _ _ (updateSeq s.heap.objs.size (fun _ => #[]) >>= fun _ => letGo (#[] : Array Value).toList.reverse >>= fun _ => Builtin.List.listExtendWith (.ref s.heap.objs.size) (.ref e) .none) _ _ _
  refine wpAny_bind (wpAny_updateSeq hS rfl ?_)
  have hS₂ := Heap.get?_update_self (Obj.mapSeq (fun _ => (#[] : Array Value))) hS rfl
  have oth : ∀ b o, s.heap.get? b = some o → ((s.heap.push { cls := .type "list", data := .seq #[] }).update s.heap.objs.size (Obj.mapSeq (fun _ => (#[] : Array Value)))).get? b = some o :=
    fun b o hb => (Heap.get?_update_other _ _ (Nat.ne_of_gt (Heap.lt_size hb))).trans (Heap.get?_push_of_some _ hb)
  refine wpAny_bind (wpAny_letGo ?_)
  have he2 : IsEnum ((s.heap.push { cls := .type "list", data := .seq #[] }).update s.heap.objs.size (Obj.mapSeq (fun _ => (#[] : Array Value)))) e it 0 old := oth e _ he
  generalize hh2 : (s.heap.push { cls := .type "list", data := .seq #[] }).update s.heap.objs.size (Obj.mapSeq (fun _ => (#[] : Array Value))) = h2 at hS₂ oth he2 ⊢
  unfold Builtin.List.listExtendWith
  have hTy : ({ s with heap := h2 } : Shared).TypeIs (.ref e) "enumerate" := ⟨_, he2, rfl⟩
  refine wpAny_bind (wpAny_typeOf hTy ?_)
  have g1 : Builtin.List.listSameRef (.ref s.heap.objs.size) (.ref e) = false := by simp [Builtin.List.listSameRef, hSe]
  have g2 : (Value.type "enumerate" == Value.type "list") = false := by decide
  have g3 : (Value.type "enumerate" == Value.type "tuple") = false := by decide
  simp only [g1, g2, g3, Bool.or_false, Bool.false_eq_true, if_false]
  refine wpAny_bind (wpAny_pyIter_enum (s := { s with heap := h2 }) he2 ?_)
  refine wpAny_bind (wpAny_holding ?_)
  unfold Builtin.List.listLengthHint
  refine wpAny_bind (wpAny_specialOf hTy enum_no_len ?_)
  show wpAny _ _ (specialOf (Value.ref e) (Str.ofString "__length_hint__") >>= _) _ _ _
  refine wpAny_bind (wpAny_specialOf hTy enum_no_hint ?_)
  refine wpAny_pure ?_
  show wpAny _ _ (rule "list.extend.makes-room" >>= fun _ => Builtin.List.listTouch (.ref s.heap.objs.size) >>= fun _ =>
    again (.builtin "list.extend.loop" ⟨[.ref s.heap.objs.size, .ref e, .none], []⟩)) _ _ _
  refine wpAny_bind (wpAny_rule ?_)
  refine wpAny_bind ?_
  show wpAny _ _ (updateSeq s.heap.objs.size (·.push .none) >>= fun _ => updateSeq s.heap.objs.size (·.pop)) _ _ _
  refine wpAny_bind (wpAny_updateSeq hS₂ rfl ?_)
  have hS₃ := Heap.get?_update_self (Obj.mapSeq (·.push Value.none)) hS₂ rfl
  refine wpAny_updateSeq (hz := by seq_fits) hS₃ rfl ?_
  have hS₄ := Heap.get?_update_self (Obj.mapSeq (·.pop)) hS₃ rfl
  have oth4 : ∀ b o, s.heap.get? b = some o → ((h2.update s.heap.objs.size (Obj.mapSeq (·.push Value.none))).update s.heap.objs.size (Obj.mapSeq (·.pop))).get? b = some o :=
    fun b o hb => (Heap.get?_update_other _ _ (Nat.ne_of_gt (Heap.lt_size hb))).trans ((Heap.get?_update_other _ _ (Nat.ne_of_gt (Heap.lt_size hb))).trans (oth b o hb))
  have hn : H s.heap.objs.size = none := I.hok.fresh (Nat.le_refl _)
  have I2 := I.laid (t' := s.toks) (o := .lst []) oth4 (Nat.le_refl _) ⟨Nat.zero_le _, [], _, .nil, hS₄⟩
  refine wpAny_pure ⟨plainId_quiet F.plain_extend_loop _, enum_loop (A := X.A.in1) (I.ok.hd hc) hne hai hea hz hx xs.length 0 _ _ [] (Nat.sub_zero _) (Nat.zero_le _) I2 (same_new hn) hn upd_same ?_ ?_ (.inl ⟨old, oth4 e _ he⟩) (hit.at fun o hb => oth4 it o hb) ⟨rfl, fun j hj => by omega⟩ fun s' H' vs' I' sm' hS' hm' => ⟨rfl, .ref s.heap.objs.size, H', I', rfl, q _ H' vs' sm' hS' hn hm'⟩⟩
  · obtain ⟨f0, f1⟩ := fe
    exact ⟨by rw [upd_ne (Nat.ne_of_lt hel)]; exact f0, f1⟩
  · obtain ⟨f0, f1⟩ := fi
    exact ⟨by rw [upd_ne (Nat.ne_of_lt hil)]; exact f0, f1⟩
def tLstEn (K : PySem.W.Frag) (ta : TA) : TE := fun σ H Q => ta σ H fun vs H1 => ∃ a xs, vs = [.ref a] ∧ SqT K H1 a xs ∧ xs.length ≤ LIM ∧ ∀ S H' ws, Same H1 H' → H' S = some (.lst ws) → H1 S = none → Made H1 H' xs xs.length ws → Q (.ref S) H'
theorem pe_listEn {e : Expr} {ta : TA} {p p2 pos pos2 : Pos} (hc : X.calm = true) (hg : Gl X "list") (hm : X.mg "list" = none) (hg2 : Gl X "enumerate") (hm2 : X.mg "enumerate" = none) (ha : PA X [e] ta) (hs : starEach [e] X.env = [(false, eval e X.env)] := by rfl)
    (na : starEach [.Call (.Name "enumerate" p2) [e] [] pos2] X.env = (false, eval (.Call (.Name "enumerate" p2) [e] [] pos2) X.env) :: starEach [] X.env := by rfl) : PE X (.Call (.Name "list" p) [.Call (.Name "enumerate" p2) [e] [] pos2] [] pos) (tLstEn X.K ta) := by
  refine ⟨fun pins s σ H Q I h => ?_⟩
  refine Call_ (ld_blt I hg hm boot_list (PyProof.Rows.callWith_type1 (args_cons ?_ na) na))
  refine Call_ (ld_blt I hg2 hm2 boot_enumerate (PyProof.Rows.callWith_type1 (thn (ha.run pos2 pins s σ H _ I h) fun us s1 ⟨vs, H1, I1, r1, q1⟩ => ?_) hs rfl))
  obtain ⟨a, xs, ex, hq, hz, q⟩ := q1
  subst ex
  cases r1 with
  | cons r rr =>
    cases rr
    cases r
    obtain ⟨its, rv, p', _⟩ := I1.tuple hq
    refine call_enumT (begins_tuple a its.toArray) (show s1.heap.IsTuple a its.toArray from p') fun h' he hit hsz hk => args_nil ?_
    have I2 : Inv X pins σ H1 { s1 with heap := h' } := I1.kept (t' := s1.toks) hk
    have hal : a < s1.heap.objs.size := by
      obtain ⟨o1, ho1, _⟩ := id p'
      exact Heap.lt_size ho1
    exact list_enum hc I2 (Nat.succ_ne_self _) (Nat.ne_of_lt hal) (Ne.symm (Nat.ne_of_lt (Nat.lt_succ_of_lt hal))) hz hq he ⟨_, hit, rfl, rfl⟩ (I1.fpOk (Nat.le_succ _) (I1.hok.fresh (Nat.le_succ _))) (I1.fpOk (Nat.le_refl _) (I1.hok.fresh (Nat.le_refl _))) q
def rLE (f : E0f) : E0f := fun ρ => (f ρ).bind fun
  | .tuple ds => .ok (.list (enumD ds))
  | _ => .bad
theorem gdAll_of {K : PySem.W.Frag} {O : Own} {H : Hp} : ∀ {vs : List V} {ds : List D}, vs.length = ds.length → (∀ (i : Nat) (v : V) (d : D), vs[i]? = some v → ds[i]? = some d → Gd K O H v d) → GdAll K O H vs ds
  | [], [], _, _ => .nil
  | [], _ :: _, h, _ => by cases h
  | _ :: _, [], h, _ => by cases h
  | v :: vs, d :: ds, h, g => .cons (g 0 v d rfl rfl) (gdAll_of (by simpa using h) fun i w e h1 h2 => g (i + 1) w e (by simpa using h1) (by simpa using h2))
variable {T : Tk} {W : WX} {a : Expr} {pos pos2 p p2 : Pos} {f : E0f}
theorem pp_listEn (hc : X.calm = true) (hg : Gl X "list") (hm : X.mg "list" = none) (hg2 : Gl X "enumerate") (hm2 : X.mg "enumerate" = none) (ha : PP X T W a f) (hs : starEach [a] X.env = [(false, eval a X.env)] := by rfl)
    (na : starEach [.Call (.Name "enumerate" p2) [a] [] pos2] X.env = (false, eval (.Call (.Name "enumerate" p2) [a] [] pos2) X.env) :: starEach [] X.env := by rfl) : PP X T W (.Call (.Name "list" p) [.Call (.Name "enumerate" p2) [a] [] pos2] [] pos) (rLE f) :=
  PE.of (pe_listEn hc hg hm hg2 hm2 (pa_cons ha pa_nil hs) hs na) fun σ H Q ⟨O, ρ, E, z⟩ => ⟨O, ρ, E, by
    unfold rLE at z
    cases hf : f ρ with
    | bad => rw [hf] at z; exact z
    | exc c => rw [hf] at z; exact z
    | ok d =>
      rw [hf] at z
      simp only [R.bind_ok] at z
      intro v H1 s1 g1
      cases d with
      | tuple ds =>
        dsimp only at z
        cases g1 with
        | @tup b xs _ q ga l =>
          have hxl := ga.length
          refine ⟨b, xs, rfl, q.sq, by rw [hxl]; exact l, fun S H' ws sm hS hS1 hm => z _ H' (s1.then sm) ?_⟩
          have fr := (E.same s1).fresh
          refine .lst ⟨hS, fr S hS1⟩ (gdAll_of (by rw [hm.1, enumD_len, hxl]) fun i w e h1 h2 => ?_) (by rw [enumD_len]; exact l)
          have hi : i < xs.length := by
            have := (List.getElem?_eq_some_iff.mp h1).1
            rw [hm.1] at this
            exact this
          obtain ⟨T', o, x, q1, q2, q3, q4, q5⟩ := hm.2 i hi
          rw [h1] at q1
          cases q1
          obtain ⟨dx, hdx, gx⟩ := ga.getV q2
          have he : e = .tuple [.int (i : Nat), dx] := by
            have : (enumD ds)[i]? = some (.tuple [.int (i : Nat), dx]) := by
              refine zipD_get ?_ hdx
              have : i < ds.length := (List.getElem?_eq_some_iff.mp hdx).1
              simp [intsD, this]
            rw [h2] at this
            exact Option.some.inj this
          subst he
          exact .tup (.inl ⟨o, q4, q3, fr T' q5⟩) (.cons (.int _) (.cons (gx.same sm) .nil)) (by show 2 ≤ 100000; omega)
      | _ => exact (show False from z).elim⟩
end
end Rf

/-! Rf.b: max(a, b) without effects. -/
namespace Rf
open PySem PySem.Spec PyProof.Rows L2 LamX
section
variable {X : Cx} {T : Tk} {W : WX} {a b : Expr} {pos p : Pos} {f g : E0f}
end
end Rf

/-! Rf.c: defs that hold lambdas, called by name. -/
namespace Rf
open PySem PySem.Spec PyProof.Rows L2 LamX
section
variable {P : Program} {w : World} {K : PySem.W.Frag} {mg : Str → Option Value} {base : Heap} {tb : List (Addr × Str)} {x : Str} {params : Arguments} {body : List Stmt} {scope : Scope} {f c : Addr} {fd : FuncData} {N ps : List Str} {k : Nat} {m : List D → R D} {s : Sf}
end
end Rf

/-! Rf.d: list(zip(s, t)) of tuples; len(set(t)). -/
namespace PySem
open Sem (wp)
open RZ
section
variable {prog : Program} {w : World} {A : Around} {E : Value → Shared → Prop} {s : Shared}
/-- a zip whose last tuple, if any, is still held -/
def ZipAt (h : Heap) (z TI TO i1 i2 : Addr) : Prop := (IsZip h z TI TO .none ∧ ∃ a b, IsPair h TO a b) ∨ ∃ T f oT, IsZipHeld h z TI TO T f ∧ h.get? T = some oT ∧ T ≠ z ∧ T ≠ i1 ∧ T ≠ i2
theorem ZipAt.lt {h : Heap} {z TI TO i1 i2 : Addr} (x : ZipAt h z TI TO i1 i2) : z < h.objs.size := by
  rcases x with ⟨x, _⟩ | ⟨T, f, oT, x, _⟩ <;> exact Heap.lt_size x
theorem ZipAt.type {z TI TO i1 i2 : Addr} (x : ZipAt s.heap z TI TO i1 i2) : s.TypeIs (.ref z) "zip" := by
  rcases x with ⟨x, _⟩ | ⟨T, f, oT, x, _⟩ <;> exact ⟨_, x, rfl⟩
theorem ZipAt.upd {h h' : Heap} {z TI TO i1 i2 : Addr} (x : ZipAt h z TI TO i1 i2) (k : ∀ b o, h.get? b = some o → ∃ o', h'.get? b = some o') (kz : ∀ o, h.get? z = some o → h'.get? z = some o) (kt : ∀ o, h.get? TO = some o → h'.get? TO = some o) : ZipAt h' z TI TO i1 i2 := by
  rcases x with ⟨x, a, b, y⟩ | ⟨T, f, oT, x, y, w⟩
  · exact .inl ⟨kz _ x, a, b, kt _ y⟩
  · obtain ⟨o', y'⟩ := k _ _ y
    exact .inr ⟨T, f, o', kz _ x, y', w⟩
end
end PySem
namespace Rf
open PySem PySem.Spec PyProof.Rows L2 LamX
open RZ (call_zipT)
section
variable {X : Cx} {pins : List (Addr × Obj)} {σ : L2.St}
/-- the pairs made so far -/
def MadeZ (H0 H : Hp) (xs ys : List V) (i : Nat) (vs : List V) : Prop := vs.length = i ∧ ∀ (j : Nat), j < i → ∃ (T : Addr) (o : Obj) (x y : V), vs[j]? = some (.ref T) ∧ xs[j]? = some x ∧ ys[j]? = some y ∧ H T = some (.frz o (.tup [x, y])) ∧ o.dict = none ∧ H0 T = none
def tLstZ (K : PySem.W.Frag) (ta : TA) : TE := fun σ H Q => ta σ H fun vs H1 => ∃ a b xs ys, vs = [.ref a, .ref b] ∧ SqT K H1 a xs ∧ SqT K H1 b ys ∧ xs.length = ys.length ∧ xs.length ≤ LIM ∧ ∀ S H' ws, Same H1 H' → H' S = some (.lst ws) → H1 S = none → MadeZ H1 H' xs ys xs.length ws → Q (.ref S) H'
/-- list(zip(s, t)) of tuples of one length -/
def rLZ (f g : E0f) : E0f := fun ρ => (f ρ).bind fun x => (g ρ).bind fun y => match x, y with
  | .tuple ds, .tuple es => if ds.length = es.length then .ok (.list (zipD ds es)) else .bad
  | _, _ => .bad
variable {T : Tk} {W : WX} {a b : Expr} {pos pos2 p p2 : Pos} {f g : E0f}
/-! ### len(set(t)) -/
def rLenSet (w : World) : List V → Hp → VK → Prop := fun xs H Q => ∃ (a : Addr) (S : Int → Bool) (n : Nat), xs = [.ref a] ∧ H a = some (SetO w a S n) ∧ n < 64 ∧ ((∃ ns : List Int, ns.Nodup ∧ (∀ k : Int, k ∈ ns ↔ S k = true) ∧ ns.length = n) → Q (.int n) H)
def dLenSet : D → R D
  | .list ds => match intsOf ds with
    | some ns => if ns.length ≤ 60 then .ok (.int (sortU ns).length) else .bad
    | none => .bad
  | .tuple ds => match intsOf ds with
    | some ns => if ns.length ≤ 60 then .ok (.int (sortU ns).length) else .bad
    | none => .bad
  | _ => .bad
end
end Rf

/-! Rf.e: s > t of tuples of ints. -/
namespace HT
open PySem PyProof.Rows
section
open PySem.SeqAt
open PySem.AutoSeq1 (wpAny_loadPart')
open PySem.MeetsSeq PySem.MeetsSeq2 PySem.MeetsSeq3
end
section
variable {prog : Program} {w : World} {A : Around} {E : Value → Shared → Prop} {s : Shared}
end
end HT
namespace Rf
open PySem PySem.Spec PyProof.Rows L2 LamX
section
variable {X : Cx}
def dGtT : D → D → R D
  | .tuple a, .tuple b => match intsOf a, intsOf b with
    | some x, some y => .ok (.bool (HT.lexLt y x))
    | _, _ => .bad
  | _, _ => .bad
end
end Rf

/-! Rf.f: comprehensions whose items have effects; item stores into own lists. -/
namespace Rf
open PySem PySem.Spec PyProof.Rows L2 LamX
def compE (own : List Nat) (g : Tg) (fe : Ef) : List D → Rho → Res (List D)
  | [], ρ => .ok [] ρ
  | d :: r, ρ => match g d ρ with
    | none => .bad
    | some ρ1 => match fe ρ1 with
      | .ok y ρ2 => (compE own g fe r (wipeR ρ2 own)).bind fun ys ρ3 => .ok (y :: ys) ρ3
      | _ => .bad
def eComp (fi : IEf) (g : Tg) (fe : Ef) (own : List Nat) : Ef := fun ρ => (fi ρ).bind fun ds ρ1 => (compE own g fe ds (wipeR ρ1 own)).bind fun ys ρ2 => .ok (.list ys) (wipeR ρ2 own)
section
variable {G : Gc} {T : Tk} {O : Own} {ρ : Rho} {σ : L2.St} {H : Hp} {p : Addr} {L : Nat}
end
section
variable {X : Cx} {T : Tk} {W : WX} {pos : Pos}
end
/-! ### xs[k] = v -/
def sLput (i : Nat) (fk fv : E0f) : Sf := fun ρ => match ρ[i]? with
  | some (some (.lst ds)) => (match fv ρ with
    | .ok d => (match fk ρ with
      | .ok k => (match k with
        | .int k => (match L2.ixN ds.length k with
          | some j => .ok .nx (ρ.set i (some (.lst (ds.set j d))))
          | none => .bad)
        | _ => .bad)
      | .exc c => .exc c ρ
      | .bad => .bad)
    | .exc c => .exc c ρ
    | .bad => .bad)
  | _ => .bad
section
variable {X : Cx} {T : Tk} {W : WX} {e a : Expr} {pos p pos2 : Pos} {fk fv : E0f} {x : Str}
end
/-! ### defs that write a thing of their caller and hold lambdas -/
section
variable {P : Program} {w : World} {K : PySem.W.Frag} {mg : Str → Option Value} {base : Heap} {tb : List (Addr × Str)}
end
end Rf

/-! Rf.g: a desk's attributes. -/
namespace Rf
open PySem PySem.Spec PyProof.Rows L2 LamX
/-- what the text says of the class of desks -/
structure DkC (K : PySem.W.Frag) (mg : Str → Option Value) (C : Addr) : Prop where
  cl : Cls K C
  nB : NoAttr K C "basis"
  nT : NoAttr K C "there"
  nL : NoAttr K C "links"
  nD : NoAttr K C "done"
  nU : NoAttr K C "undone"
  mgC : mg "Desk" = some (.ref C)
inductive Fd where
  | basis
  | there
  | links
def Fd.nm : Fd → Str
  | .basis => "basis"
  | .there => "there"
  | .links => "links"
def Fd.get {α : Type} (b t l : α) : Fd → α
  | .basis => b
  | .there => t
  | .links => l
inductive Sd where
  | done
  | undone
def Sd.nm : Sd → Str
  | .done => "done"
  | .undone => "undone"
def Sd.get {α : Type} (d u : α) : Sd → α
  | .done => d
  | .undone => u
def dkF (b t l p q : V) : List (Str × V) := [("basis", b), ("there", t), ("links", l), ("done", p), ("undone", q)]
theorem dkF_get {b t l p q : V} : ∀ f : Fd, (dkF b t l p q).lookup f.nm = some (f.get b t l)
  | .basis => by kernel_rfl
  | .there => by kernel_rfl
  | .links => by kernel_rfl
theorem dkF_getS {b t l p q : V} : ∀ f : Sd, (dkF b t l p q).lookup f.nm = some (f.get p q)
  | .done => by kernel_rfl
  | .undone => by kernel_rfl
/-- with another value in a field -/
def Fd.put {α β : Type} (F : α → α → α → β) (b t l x : α) : Fd → β
  | .basis => F x t l
  | .there => F b x l
  | .links => F b t x
theorem dkF_put {b t l p q x : V} : ∀ f : Fd, putF f.nm x (dkF b t l p q) = f.put (fun b t l => dkF b t l p q) b t l x
  | .basis => by kernel_rfl
  | .there => by kernel_rfl
  | .links => by kernel_rfl
theorem dkF_putS {b t l p q x : V} : ∀ f : Sd, putF f.nm x (dkF b t l p q) = dkF b t l (f.get x p) (f.get q x)
  | .done => by kernel_rfl
  | .undone => by kernel_rfl
section
variable {K : PySem.W.Frag} {mg : Str → Option Value} {C : Addr}
theorem DkC.no (c : DkC K mg C) : ∀ f : Fd, NoAttr K C f.nm
  | .basis => c.nB
  | .there => c.nT
  | .links => c.nL
theorem DkC.noS (c : DkC K mg C) : ∀ f : Sd, NoAttr K C f.nm
  | .done => c.nD
  | .undone => c.nU
end
/-- a desk as it stands -/
structure DkAt (G : Gc) (O : Own) (H : Hp) (j : Nat) (C a : Addr) (dx p q : Addr) (vb vt vl : V) (xs ys : List V) (ba th li : D) (dn un : List D) : Prop where
  oa : O a = some j
  op : O p = some j
  oq : O q = some j
  ap : a ≠ p
  aq : a ≠ q
  pq : p ≠ q
  ha : H a = some (.ins C dx (dkF vb vt vl (.ref p) (.ref q)))
  hp : H p = some (.lst xs)
  hq : H q = some (.lst ys)
  gb : Gd G.K O H vb ba
  gt : Gd G.K O H vt th
  gl : Gd G.K O H vl li
  gd : GdAll G.K O H xs dn
  gu : GdAll G.K O H ys un
  ld : dn.length ≤ LIM
  lu : un.length ≤ LIM
section
variable {G : Gc} {T : Tk} {O O' : Own} {H H' : Hp} {ρ : Rho} {σ : L2.St} {j : Nat} {C a dx p q : Addr} {v vb vt vl : V} {xs ys : List V} {ba th li d : D} {dn un ds : List D}
theorem DkAt.slot (h : DkAt G O H j C a dx p q vb vt vl xs ys ba th li dn un) (c : DkC G.K G.mg C) : SlotOk G O H j (.ref a) (.desk ba th li dn un) :=
  ⟨a, C, dx, p, q, vb, vt, vl, xs, ys, rfl, h.oa, h.op, h.oq, h.ap, h.aq, h.pq, c.mgC, h.ha, h.hp, h.hq, h.gb, h.gt, h.gl, h.gd, h.gu, h.ld, h.lu⟩
theorem SlotOk.dk (c : DkC G.K G.mg C) (h : SlotOk G O H j v (.desk ba th li dn un)) : ∃ a dx p q vb vt vl xs ys, v = .ref a ∧ DkAt G O H j C a dx p q vb vt vl xs ys ba th li dn un := by
  obtain ⟨a, C', dx, p, q, vb, vt, vl, xs, ys, h1, h2, h3, h4, h5, h6, h7, h8, h9, h10, h11, h12, h13, h14, h15, h16, h17, h18⟩ := h
  have e := h8.symm.trans c.mgC
  cases e
  exact ⟨a, dx, p, q, vb, vt, vl, xs, ys, h1, h2, h3, h4, h5, h6, h7, h9, h10, h11, h12, h13, h14, h15, h16, h17, h18⟩
theorem EnvOk.dk (E : EnvOk G T O ρ σ H) (c : DkC G.K G.mg C) (h : ρ[j]? = some (some (.desk ba th li dn un))) : ∃ a dx p q vb vt vl xs ys, σ[j]? = some (some (.ref a)) ∧ DkAt G O H j C a dx p q vb vt vl xs ys ba th li dn un := by
  obtain ⟨v, h1, h2⟩ := E.slot j _ h
  obtain ⟨a, dx, p, q, vb, vt, vl, xs, ys, rfl, h3⟩ := h2.dk c
  exact ⟨a, dx, p, q, vb, vt, vl, xs, ys, h1, h3⟩
theorem DkAt.ext (h : DkAt G O H j C a dx p q vb vt vl xs ys ba th li dn un) (s : ExtN H H') : DkAt G O H' j C a dx p q vb vt vl xs ys ba th li dn un where
  oa := h.oa
  op := h.op
  oq := h.oq
  ap := h.ap
  aq := h.aq
  pq := h.pq
  ha := s _ _ h.ha (fun _ z => by cases z)
  hp := s _ _ h.hp (fun _ z => by cases z)
  hq := s _ _ h.hq (fun _ z => by cases z)
  gb := h.gb.ext s
  gt := h.gt.ext s
  gl := h.gl.ext s
  gd := h.gd.ext s
  gu := h.gu.ext s
  ld := h.ld
  lu := h.lu
/-- a datum into a field -/
theorem DkAt.put (h : DkAt G O H j C a dx p q vb vt vl xs ys ba th li dn un) (g : Gd G.K O H v d) (f : Fd) : DkAt G O (upd H a (.ins C dx (putF f.nm v (dkF vb vt vl (.ref p) (.ref q))))) j C a dx p q (f.put (fun b _ _ => b) vb vt vl v) (f.put (fun _ t _ => t) vb vt vl v) (f.put (fun _ _ l => l) vb vt vl v) xs ys
    (f.put (fun b _ _ => b) ba th li d) (f.put (fun _ t _ => t) ba th li d) (f.put (fun _ _ l => l) ba th li d) dn un where
  oa := h.oa
  op := h.op
  oq := h.oq
  ap := h.ap
  aq := h.aq
  pq := h.pq
  ha := by rw [upd_same, dkF_put]; cases f <;> rfl
  hp := by rw [upd_ne h.ap.symm]; exact h.hp
  hq := by rw [upd_ne h.aq.symm]; exact h.hq
  gb := by cases f with
    | basis => exact g.wr h.oa
    | there => exact h.gb.wr h.oa
    | links => exact h.gb.wr h.oa
  gt := by cases f with
    | basis => exact h.gt.wr h.oa
    | there => exact g.wr h.oa
    | links => exact h.gt.wr h.oa
  gl := by cases f with
    | basis => exact h.gl.wr h.oa
    | there => exact h.gl.wr h.oa
    | links => exact g.wr h.oa
  gd := h.gd.wr h.oa
  gu := h.gu.wr h.oa
  ld := h.ld
  lu := h.lu
/-- another list in its place: at the same address -/
theorem DkAt.putL (h : DkAt G O H j C a dx p q vb vt vl xs ys ba th li dn un) {zs : List V} (g : GdAll G.K O H zs ds) (hl : ds.length ≤ LIM) : ∀ f : Sd, DkAt G O (upd H (f.get p q) (.lst zs)) j C a dx p q vb vt vl (f.get zs xs) (f.get ys zs) ba th li (f.get ds dn) (f.get un ds)
  | .done => ⟨h.oa, h.op, h.oq, h.ap, h.aq, h.pq, by show upd H p _ a = _; rw [upd_ne h.ap]; exact h.ha, upd_same, by show upd H p _ q = _; rw [upd_ne h.pq.symm]; exact h.hq, h.gb.wr h.op, h.gt.wr h.op, h.gl.wr h.op, g.wr h.op, h.gu.wr h.op, hl, h.lu⟩
  | .undone => ⟨h.oa, h.op, h.oq, h.ap, h.aq, h.pq, by show upd H q _ a = _; rw [upd_ne h.aq]; exact h.ha, by show upd H q _ p = _; rw [upd_ne h.pq]; exact h.hp, upd_same, h.gb.wr h.oq, h.gt.wr h.oq, h.gl.wr h.oq, h.gd.wr h.oq, g.wr h.oq, h.ld, hl⟩
/-- another list in its place: a new one -/
theorem DkAt.putN (h : DkAt G O H j C a dx p q vb vt vl xs ys ba th li dn un) {zs : List V} {r : Addr} (hr : H r = some (.lst zs)) (or : O r = some j) (np : r ≠ p) (nq : r ≠ q) (g : GdAll G.K O H zs ds) (hl : ds.length ≤ LIM) :
    ∀ f : Sd, DkAt G O (upd H a (.ins C dx (putF f.nm (.ref r) (dkF vb vt vl (.ref p) (.ref q))))) j C a dx (f.get r p) (f.get q r) vb vt vl (f.get zs xs) (f.get ys zs) ba th li (f.get ds dn) (f.get un ds)
  | .done => by
    have na : a ≠ r := fun e => by rw [← e, h.ha] at hr; cases hr
    exact ⟨h.oa, or, h.oq, na, h.aq, nq, by rw [upd_same, dkF_putS]; rfl, by show upd H a _ r = _; rw [upd_ne na.symm]; exact hr, by show upd H a _ q = _; rw [upd_ne h.aq.symm]; exact h.hq, h.gb.wr h.oa, h.gt.wr h.oa, h.gl.wr h.oa, g.wr h.oa, h.gu.wr h.oa, hl, h.lu⟩
  | .undone => by
    have na : a ≠ r := fun e => by rw [← e, h.ha] at hr; cases hr
    exact ⟨h.oa, h.op, or, h.ap, na, np.symm, by rw [upd_same, dkF_putS]; rfl, by show upd H a _ p = _; rw [upd_ne h.ap.symm]; exact h.hp, by show upd H a _ r = _; rw [upd_ne na.symm]; exact hr, h.gb.wr h.oa, h.gt.wr h.oa, h.gl.wr h.oa, h.gd.wr h.oa, g.wr h.oa, h.ld, hl⟩
end
/-! ### reading -/
def rFld (j : Nat) (f : Fd) : E0f := fun ρ => match ρ[j]? with
  | some (some (.desk ba th li _ _)) => .ok (f.get ba th li)
  | _ => .bad
def rFls (j : Nat) (f : Sd) : E0f := fun ρ => match ρ[j]? with
  | some (some (.desk _ _ _ dn un)) => .ok (.list (f.get dn un))
  | _ => .bad
section
variable {X : Cx} {T : Tk} {W : WX} {e a o : Expr} {pos p apos cpos pos' : Pos} {f g : E0f} {x : Str} {C : Addr}
theorem pp_fld (j : Nat) (f : Fd) (c : DkC X.K X.mg C) (hN : X.N[j]? = some x := by rfl) (hv : Vis X.env.scope x := by first | exact Or.inl rfl | exact Or.inr (Or.inl rfl) | exact Or.inr (Or.inr rfl)) (hd : (x == ("__debug__" : Str)) = false := by decide) (hcd : (x == ("__classdict__" : Str)) = false := by decide)
    (hb : attributeBase (.Name x p) f.nm X.env (eval (.Name x p) X.env) = eval (.Name x p) X.env := by rfl) : PP X T W (.Attribute (.Name x p) f.nm pos) (rFld j f) := PE.of (pe_fld (pe_var hN hv hd hcd) hb) fun σ H Q ⟨O, ρ, E, z⟩ => by
  unfold rFld at z
  cases hr : ρ[j]? with
  | none => rw [hr] at z; exact z.elim
  | some o =>
    rw [hr] at z
    rcases o with _ | s
    · exact z.elim
    · cases s with
      | desk ba th li dn un =>
        obtain ⟨b, dx, p, q, vb, vt, vl, xs, ys, h1, h⟩ := E.dk (G := gc X) c hr
        refine ⟨_, h1, b, C, dx, _, _, rfl, h.ha, c.cl, c.no f, dkF_get f, z _ H (Gr.refl E.tabs) ?_⟩
        cases f with
        | basis => exact h.gb
        | there => exact h.gt
        | links => exact h.gl
      | _ => exact (show False from z).elim
end
/-! ### writing -/
/-- self.f = e -/
def sFldD (j : Nat) (f : Fd) (g : E0f) : Sf := fun ρ => match g ρ with
  | .ok d => (match ρ[j]? with
    | some (some (.desk ba th li dn un)) => .ok .nx (ρ.set j (some (f.put (fun b t l => .desk b t l dn un) ba th li d)))
    | _ => .bad)
  | .exc c => .exc c ρ
  | .bad => .bad
/-- self.done = a new list -/
def sFldN (j : Nat) (f : Sd) (g : E0f) : Sf := fun ρ => match g ρ with
  | .ok (.list ds) => (match ρ[j]? with
    | some (some (.desk ba th li dn un)) => .ok .nx (ρ.set j (some (.desk ba th li (f.get ds dn) (f.get un ds))))
    | _ => .bad)
  | .exc c => .exc c ρ
  | _ => .bad
/-- self.there, self.links = e -/
def sFld2 (j : Nat) (g : E0f) : Sf := fun ρ => match g ρ with
  | .ok (.tuple [t, l]) => (match ρ[j]? with
    | some (some (.desk ba _ _ dn un)) => .ok .nx (ρ.set j (some (.desk ba t l dn un)))
    | _ => .bad)
  | .exc c => .exc c ρ
  | _ => .bad
def eAppF (j : Nat) (f : Sd) (g : E0f) : Ef := fun ρ => match ρ[j]? with
  | some (some (.desk ba th li dn un)) => (match g ρ with
    | .ok d => if (f.get dn un).length < LIM then .ok .none (ρ.set j (some (.desk ba th li (f.get (dn ++ [d]) dn) (f.get un (un ++ [d]))))) else .bad
    | .exc c => .exc c ρ
    | .bad => .bad)
  | _ => .bad
def ePopF (j : Nat) (f : Sd) : Ef := fun ρ => match ρ[j]? with
  | some (some (.desk ba th li dn un)) => (match (f.get dn un)[(f.get dn un).length - 1]? with
    | some d => .ok d (ρ.set j (some (.desk ba th li (f.get dn.dropLast dn) (f.get un un.dropLast))))
    | none => .bad)
  | _ => .bad
def gFld (K : PySem.W.Frag) (to : TE) (f : Str) : TG := fun v σ H Q => to σ H fun x H1 => ∃ a C dx fs, x = .ref a ∧ H1 a = some (.ins C dx fs) ∧ Cls K C ∧ NoAttr K C f ∧ fs.length < 1000 ∧ Q σ (upd H1 a (.ins C dx (putF f v fs)))
section
variable {X : Cx} {T : Tk} {W : WX} {e a o : Expr} {pos p p2 apos cpos pos' pos2 tpos : Pos} {f g : E0f} {x : Str} {C : Addr} {kt : Nat}
/-- o.f = .. as a target -/
theorem pg_fld {to : TE} {f : Str} (ho : PE X o to) (ha : ∀ v, assign (.Attribute o f pos) X.env v = (do
      let ov ← holding [v] (eval o X.env)
      standAt pos.atName
      holding [v, ov] (setAttr ov f v)
      release [v, ov] []) := by intro _; rfl) : PG X (.Attribute o f pos) (gFld X.K to f) := by
  refine ⟨fun pins s σ H v u Q I r h => ?_⟩
  rw [ha]
  refine wpAny_bind (wpAny_holding (thn (ho.run pins s σ H _ I h) fun ov s1 ⟨y, H1, I1, r1, b, C, dx, fs, ey, hb, c, n, l, q⟩ => ?_))
  subst ey
  obtain rfl : ov = Value.ref b := r1
  refine wpAny_bind (wpAny_standAt (wpAny_bind (wpAny_holding (setattr_ok I1 hb c n l r fun s2 I2 => wpAny_release ⟨σ, _, I2, q⟩))))
theorem psd_fldN (j : Nat) (f : Sd) (c : DkC X.K X.mg C) (he : PF X T W e g) (hj9 : j < 900 := by decide) (hN : X.N[j]? = some x := by rfl) (hv : Vis X.env.scope x := by first | exact Or.inl rfl | exact Or.inr (Or.inl rfl) | exact Or.inr (Or.inr rfl)) (hd : (x == ("__debug__" : Str)) = false := by decide) (hcd : (x == ("__classdict__" : Str)) = false := by decide)
    (hs : swapsWith e (some (.Attribute (.Name x p) f.nm pos')) pos.line X.env = pure false := by rfl) : PSD X T W (.Assign [.Attribute (.Name x p) f.nm pos'] e pos) (sFldN j f g) := PS.of (ps_fld (pe_var hN hv hd hcd) he hs) fun De σ H ⟨O, ρ, E, z⟩ => ⟨O, ρ, E, by
  unfold sFldN at z
  cases hg : g ρ with
  | bad => rw [hg] at z; exact z
  | exc c => rw [hg] at z; exact fun H' s => z O σ H' s.le (E.same s)
  | ok d =>
    rw [hg] at z
    cases d with
    | list ds =>
      dsimp only at z
      intro v H1 s1 ⟨r, zs, e1, n1, n2, n3, n4⟩
      subst e1
      cases hr : ρ[j]? with
      | none => rw [hr] at z; exact z.elim
      | some o =>
        rw [hr] at z
        rcases o with _ | s
        · exact z.elim
        · cases s with
          | desk ba th li dn un =>
            obtain ⟨b0, dx0, p0, q0, _, _, _, xs0, ys0, h10, h0⟩ := E.dk (G := gc X) c hr
            have E1 := E.own (j := j) n1 s1 ⟨_, n2, fun _ z => by cases z⟩
            obtain ⟨b, dx, p, q, vb, vt, vl, xs, ys, h1, h⟩ := E1.dk (G := gc X) c hr
            have eb : b = b0 := by rw [h10] at h1; cases h1; rfl
            subst eb
            have ha1 := s1.ex _ _ h0.ha (fun _ z => by cases z)
            rw [h.ha] at ha1
            injection ha1 with ha1
            injection ha1 with _ _ ha1
            have ep : p = p0 := by injection ha1 with _ ha1; injection ha1 with _ ha1; injection ha1 with _ ha1; injection ha1 with ha1 _; injection ha1 with _ ha1; injection ha1
            have eq : q = q0 := by injection ha1 with _ ha1; injection ha1 with _ ha1; injection ha1 with _ ha1; injection ha1 with _ ha1; injection ha1 with ha1 _; injection ha1 with _ ha1; injection ha1
            subst ep
            subst eq
            have np : r ≠ p := fun e => n1 (e ▸ ⟨_, h0.hp, fun _ z => by cases z⟩)
            have nq : r ≠ q := fun e => n1 (e ▸ ⟨_, h0.hq, fun _ z => by cases z⟩)
            refine ⟨_, h1, b, C, dx, _, rfl, h.ha, c.cl, c.noS f, by show 5 < 1000; decide, z (own1 O r (some j)) σ _ ((Le.ownN n1 s1).trans (Le.wr h.oa hj9)) ?_⟩
            exact E1.wr hj9 h.oa h.ha (fun _ z => by cases z) (fun _ _ z => by cases z) h1 ((h.putN n2 own1_same np nq (n3 j) n4 f).slot c)
          | _ => exact (show False from z).elim
    | _ => exact (show False from z).elim⟩
end
end Rf

/-! Rf.h: pairs of attributes, lists of a desk, its methods. -/
namespace Rf
open PySem PySem.Spec PyProof.Rows L2 LamX
section
variable {X : Cx} {T : Tk} {W : WX} {e a o : Expr} {pos p p2 apos cpos pos' pos2 tpos : Pos} {f g : E0f} {x : Str} {C : Addr} {kt : Nat}
theorem psd_fld2 (j : Nat) (c : DkC X.K X.mg C) (hc : X.calm = true) (he : PP X T W e g) (hj9 : j < 900 := by decide) (hN : X.N[j]? = some x := by rfl) (hv : Vis X.env.scope x := by first | exact Or.inl rfl | exact Or.inr (Or.inl rfl) | exact Or.inr (Or.inr rfl)) (hd : (x == ("__debug__" : Str)) = false := by decide) (hcd : (x == ("__classdict__" : Str)) = false := by decide)
    (hs : swapsWithSole [.Tuple [.Attribute (.Name x p) "there" pos', .Attribute (.Name x p2) "links" pos2] kt tpos] e pos.line X.env = pure false := by rfl) (hw : swappedStores [.Tuple [.Attribute (.Name x p) "there" pos', .Attribute (.Name x p2) "links" pos2] kt tpos] e X.env = pure none := by rfl)
    (h1 : (assignEach [.Tuple [.Attribute (.Name x p) "there" pos', .Attribute (.Name x p2) "links" pos2] kt tpos] X.env).map (·.2) = [assign (.Tuple [.Attribute (.Name x p) "there" pos', .Attribute (.Name x p2) "links" pos2] kt tpos) X.env] := by rfl)
    (h2 : (assignEach [.Attribute (.Name x p) "there" pos', .Attribute (.Name x p2) "links" pos2] X.env).map (·.2) = assign (.Attribute (.Name x p) "there" pos') X.env :: (assignEach [.Attribute (.Name x p2) "links" pos2] X.env).map (·.2) := by rfl)
    (h3 : (assignEach [.Attribute (.Name x p2) "links" pos2] X.env).map (·.2) = assign (.Attribute (.Name x p2) "links" pos2) X.env :: (assignEach [] X.env).map (·.2) := by rfl)
    (h4 : (assignEach [.Attribute (.Name x p) "there" pos', .Attribute (.Name x p2) "links" pos2] X.env).length = 2 := by rfl) (h5 : (assignEach [.Attribute (.Name x p) "there" pos', .Attribute (.Name x p2) "links" pos2] X.env).findIdx? (·.1) = none := by rfl) :
    PSD X T W (.Assign [.Tuple [.Attribute (.Name x p) "there" pos', .Attribute (.Name x p2) "links" pos2] kt tpos] e pos) (sFld2 j g) :=
  PS.of (ps_asg he (pg_tup hc (pgs_cons (pg_fld (f := "there") (pe_var hN hv hd hcd) (by intro v; rw [assign])) (pgs_cons (pg_fld (f := "links") (pe_var hN hv hd hcd) (by intro v; rw [assign])) pgs_nil h3) h2) h4 h5) hs hw h1) fun De σ H ⟨O, ρ, E, z⟩ => ⟨O, ρ, E, by
  unfold sFld2 at z
  cases hg : g ρ with
  | bad => rw [hg] at z; exact z
  | exc c => rw [hg] at z; exact fun H' s => z O σ H' s.le (E.same s)
  | ok d =>
    rw [hg] at z
    split at z
    · rename_i t l e1
      cases e1
      intro v H1 s1 g1
      cases g1 with
      | tup qt ga gl =>
        cases ga with
        | cons g1 ga =>
          cases ga with
          | cons g2 ga =>
            cases ga
            cases hr : ρ[j]? with
            | none => rw [hr] at z; exact z.elim
            | some o =>
              rw [hr] at z
              rcases o with _ | s
              · exact z.elim
              · cases s with
                | desk ba th li dn un =>
                  have E1 := E.same s1
                  obtain ⟨b, dx, p, q, vb, vt, vl, xs, ys, k1, h⟩ := E1.dk (G := gc X) c hr
                  have hh := h.put g1 .there
                  have hh2 := hh.put (g2.wr h.oa) .links
                  refine ⟨_, _, rfl, qt.sq, rfl, _, _, rfl, ⟨_, k1, b, C, dx, _, rfl, h.ha, c.cl, c.nT, by show 5 < 1000; decide, _, _, rfl, ⟨_, k1, b, C, dx, _, rfl, hh.ha, c.cl, c.nL, by show 5 < 1000; decide, rfl, ?_⟩⟩⟩
                  have E2 := E1.wr hj9 h.oa h.ha (fun _ z => by cases z) (fun _ _ z => by cases z) k1 (hh.slot c)
                  have E3 := E2.wr hj9 hh.oa hh.ha (fun _ z => by cases z) (fun _ _ z => by cases z) k1 (hh2.slot c)
                  rw [List.set_set] at E3
                  exact z O σ _ ((s1.le.trans (Le.wr h.oa hj9)).trans (Le.wr h.oa hj9)) E3
                | _ => exact (show False from z).elim
    · rename_i e1
      cases e1
    · exact z.elim⟩
theorem pee_appF (j : Nat) (f : Sd) {g : E0f} (c : DkC X.K X.mg C) (ha : PP X T W a g) (hj9 : j < 900 := by decide) (hN : X.N[j]? = some x := by rfl) (hv : Vis X.env.scope x := by first | exact Or.inl rfl | exact Or.inr (Or.inl rfl) | exact Or.inr (Or.inr rfl)) (hd : (x == ("__debug__" : Str)) = false := by decide) (hcd : (x == ("__classdict__" : Str)) = false := by decide)
    (hb : attributeBase (.Name x p) f.nm X.env (eval (.Name x p) X.env) = eval (.Name x p) X.env := by rfl) (hbase : attributeBase (.Attribute (.Name x p) f.nm pos) "append" X.env (eval (.Attribute (.Name x p) f.nm pos) X.env) = eval (.Attribute (.Name x p) f.nm pos) X.env := by rfl) (hline : (apos.endLine == cpos.line) = true := by rfl) (hs : starEach [a] X.env = (false, eval a X.env) :: starEach [] X.env := by rfl)
    (hfew : ((backTo cpos (starEach [a] X.env)).all (fun x => !x.1) && (backToKw cpos (keywordEach [] X.env)).all (fun x => x.1.isSome) && decide ([a].length + ([] : List Keyword).length + (if ([] : List Keyword).isEmpty then 0 else 1) < 30)) = true := by rfl) :
    PEE X T W (.Call (.Attribute (.Attribute (.Name x p) f.nm pos) "append" apos) [a] [] cpos) (eAppF j f g) :=
  PE.of (pe_bm PySem.F.plainAttrs_list PySem.F.slot_list_append (by rfl) mt_append (pe_fld (pe_var hN hv hd hcd) hb) (pa_cons ha pa_nil hs) hbase hfew hline hs (by rfl)) fun σ H Q ⟨O, ρ, E, z⟩ => by
    unfold eAppF at z
    cases hr : ρ[j]? with
    | none => rw [hr] at z; exact z.elim
    | some o =>
      rw [hr] at z
      rcases o with _ | s
      · exact z.elim
      · cases s with
        | desk ba th li dn un =>
          dsimp only at z
          obtain ⟨b, dx, p, q, vb, vt, vl, xs, ys, h1, h⟩ := E.dk (G := gc X) c hr
          refine ⟨_, h1, b, C, dx, _, _, rfl, h.ha, c.cl, c.noS f, dkF_getS f, ?_⟩
          have hx : H (f.get p q) = some (.lst (f.get xs ys)) := by cases f with
            | done => exact h.hp
            | undone => exact h.hq
          have ho : O (f.get p q) = some j := by cases f with
            | done => exact h.op
            | undone => exact h.oq
          have hg0 : GdAll X.K O H (f.get xs ys) (f.get dn un) := by cases f with
            | done => exact h.gd
            | undone => exact h.gu
          have er : (f.get (V.ref p) (V.ref q)) = V.ref (f.get p q) := by cases f <;> rfl
          rw [er]
          refine Or.inl ⟨rfl, f.get xs ys, SqL.of hx⟩ |> fun w => ⟨w, ⟨O, ρ, E, ?_⟩⟩
          cases hg : g ρ with
          | bad => rw [hg] at z; exact z
          | exc c => rw [hg] at z; exact fun H' s' => z O H' s'.le (E.same s')
          | ok d =>
            rw [hg] at z
            dsimp only at z
            intro v H1 s1 g1
            by_cases hl : (f.get dn un).length < LIM
            · rw [if_pos hl] at z
              have E1 := E.same s1
              have hh := h.ext s1.ex
              have hx1 := s1.ex _ _ hx (fun _ z => by cases z)
              have hp := hh.putL ((hg0.ext s1.ex).append (.cons g1 .nil)) (by rw [List.length_append]; exact hl) f
              refine ⟨_, _, v, rfl, rfl, hx1, by rw [hg0.length]; exact Nat.lt_trans hl (by decide), z _ O _ (s1.le.trans (Le.wr ho hj9)) ?_ .non⟩
              have hps := hp.slot c
              have e2 : Sl.desk ba th li (f.get (f.get dn un ++ [d]) dn) (f.get un (f.get dn un ++ [d])) = .desk ba th li (f.get (dn ++ [d]) dn) (f.get un (un ++ [d])) := by cases f <;> rfl
              rw [e2] at hps
              exact E1.wr hj9 ho hx1 (fun _ z => by cases z) (fun _ _ z => by cases z) h1 hps
            · rw [if_neg hl] at z
              exact z.elim
        | _ => exact (show False from z).elim
end
/-! ### methods -/
structure MetE (P : Program) (w : World) (K : PySem.W.Frag) (mg : Str → Option Value) (base : Heap) (tb : List (Addr × Str)) (m : Str) (ps : List Str) (k : Nat) (mir : List Sl → Ro) : Prop where
  ex : ∃ (C f : Addr) (fd : FuncData), DkC K mg C ∧ Meth K C m f ∧ FnOk P w K mg base (L2.CX P w) k f fd ps (spE ⟨P, w, K, mg⟩ tb ps.length 0 mir) ∧ L2.Binds K fd ps []
theorem metE_of {P : Program} {w : World} {K : PySem.W.Frag} {mg : Str → Option Value} {base : Heap} {tb : List (Addr × Str)} {x qual : Str} {params : Arguments} {body : List Stmt} {scope : Scope} {C f : Addr} {fd : FuncData} {N ps : List Str} {k : Nat} {m : List Sl → Ro} {s : Sf} (F : FunD K x qual params body scope [] [] f fd) (S : FnScope N ps scope) (c : DkC K mg C) (hM : Meth K C x f) (hm : m = fnE N.length 0 s)
    (hb : ∀ (u : V) (cdv : Value) (A : Around) (outer : List Env) (s0 : Shared) (H : Hp) (E : XK), Room k (A.deeper (envOfC qual scope s0.heap.objs.size f cdv)) →
      PSSD (cxOf (L2.CX P w) P w K mg base N qual scope f cdv A outer s0 H E) ⟨tb, [(0, u)]⟩ (fun cls d _ H => E cls d H) body s)
    (h1 : ∀ (kV doc pm : Value) (an : Option Addr) (cdv ct : Value) (us : List Value), us.length = ps.length → bindArgs (PySem.W.fnOf x qual params body scope .none kV doc pm an cdv ct) ⟨us, []⟩ = pure (ps.zip us)) :
    MetE P w K mg base tb x ps (k + 1) m :=
  ⟨C, f, fd, c, hM, ok_fnE F S hm hb, F.bindsN fun kV doc pm an cdv ct us hl => h1 kV doc pm an cdv ct us hl⟩
/-- o.m(..), what is raised wished for at the caller's slots -/
def tMethS (C : Addr) (m : Str) (sp : Sp) (E : L2.St → XK) (ta : TE) (t : TA) : TE := fun σ H Q => ta σ H fun x H1 => ∃ a dx fs, x = .ref a ∧ H1 a = some (.ins C dx fs) ∧ fs.lookup m = none ∧ t σ H1 fun vs H2 => sp (x :: vs) H2 Q (E σ)
section
variable {X : Cx} {k : Nat} {f C : Addr} {fd : FuncData} {ps : List Str} {sp : Sp} {E : L2.St → XK} {m : Str} {pos apos : Pos} {e o : Expr} {es : List Expr} {ta : TE} {t : TA}
theorem pe_methA {pl : Sem Bool} (he : PE X o ta) (c : Cls X.K C) (hm : Meth X.K C m f) (F : FnOk X.prog X.w X.K X.mg X.base (L2.CX X.prog X.w) k f fd ps sp) (hr : Room k X.A) (hb : L2.Binds X.K fd ps []) (hx : ∀ σ, PassesAt (L2.CX X.prog X.w) X σ (E σ)) (ha : PA X (e :: es) t)
    (hst : starEach (e :: es) X.env = (false, eval e X.env) :: starEach es X.env) (hpl : (backTo pos (starEach es X.env)).any (·.1) = false)
    (ht : eval (.Call (.Attribute o m apos) (e :: es) [] pos) X.env = (do
      let r ← eval o X.env
      standAt apos.atName
      let (g, fst) ← holding [r] (getMethod r m pl)
      callWith pos g fst (backTo pos (starEach (e :: es) X.env)) (backToKw pos (keywordEach [] X.env)))) :
    PE X (.Call (.Attribute o m apos) (e :: es) [] pos) (tMethS C m sp E ta t) := ⟨fun pins s σ H Q I h => by
  refine PySem.W.methodCall_KW (pl := pl) (thn (he.run pins s σ H _ I h) fun u s1 z => ?_) ht
  obtain ⟨y, H1, I1, ry, b, dx, fs, ey, hb1, nl, z⟩ := z
  subst ey
  obtain rfl : u = Value.ref b := ry
  exact getmeth_ok I1 hb1 c hm nl (PySem.W.callWith_K (first := [.ref b]) (h₀ := X.base) I.ok.mod.kin hm.kp (thn (ha.run pos pins s1 σ H1 _ I1 z) fun us s2 ⟨vs, H2, I2, r, z2⟩ => ⟨I2.kIn, run_fnS (us := .ref b :: us) (vs := .ref b :: vs) F hr hb (hx σ) I2 (.cons rfl r) z2⟩) hst hpl)⟩
end
section
variable {X : Cx} {T : Tk} {W : WX} {e : Expr} {es : List Expr} {pos p apos : Pos} {x m : Str} {r : A1f} {ps : List Str} {k l : Nat} {mir : List Sl → Ro}
/-- what a method's call wishes for, from what the mirror says -/
theorem meth_in {O : Own} {ρ : Rho} {σ : L2.St} {H : Hp} {Q : VK} {j0 : Nat} {a : V} {s0 : Sl} {vs : List V} {ss : List Sl} {H1 : Hp} (E : EnvOk (gc X) T O ρ σ H) (hj9 : j0 < 900) (h1 : σ[j0]? = some (some a)) (sl : SlotOk (gc X) O H j0 a s0) (hlk : isLk s0 = false) (s1 : Gr T H H1) (a1 : ArgsOk (gc X) (ownIn O j0 0) H1 1 vs ss) (hl : (s0 :: ss).length = ps.length)
    (z : match (match mir (s0 :: ss) with
      | .ok d s => if isLk s = false then (.ok d (ρ.set j0 (some s)) : Res D) else .bad
      | .exc c s => if isLk s = false then .exc c (ρ.set j0 (some s)) else .bad
      | .bad => .bad) with
      | .ok d ρ' => ∀ v O' H', Le O H O' H' → EnvOk (gc X) T O' ρ' σ H' → Gd X.K O' H' v d → Q v H'
      | .exc c ρ' => ∀ O' H', Le O H O' H' → EnvOk (gc X) T O' ρ' σ H' → exW (gc X) W c σ H'
      | .bad => False) : spE (gc X) T.tb ps.length 0 mir (a :: vs) H1 Q (WE W σ) := by
  have E1 := E.same s1
  have a2 : ArgsOk (gc X) (ownIn O j0 0) H1 0 (a :: vs) (s0 :: ss) := .cons ((sl.ext s1.ex).relabel (fun q hq => ownIn_here hq) (fun z => by rw [hlk] at z; cases z) fun q hq => ownIn_none.mpr hq) a1
  refine ⟨a2.length.trans hl, ownIn O j0 0, s0 :: ss, a, a2, rfl, s1.tb, fun q k hq => (by
      cases e : O q with
      | none => rw [ownIn_none.mpr e] at hq; cases hq
      | some k => exact E1.own_ q k e), ?_⟩
  cases hm : mir (s0 :: ss) with
  | bad => rw [hm] at z; exact z
  | exc c s =>
    rw [hm] at z
    dsimp only at z
    by_cases hlk : isLk s = false
    · rw [if_pos hlk] at z
      exact fun O' H' l sl tb fr => z _ H' (s1.le.trans (le_out (by decide) hj9 l)) (E1.back hlk (by decide) hj9 h1 l sl tb fr)
    · rw [if_neg hlk] at z
      exact z.elim
  | ok d s =>
    rw [hm] at z
    dsimp only at z
    by_cases hlk : isLk s = false
    · rw [if_pos hlk] at z
      exact fun v O' H' l sl tb fr gv => z v _ H' (s1.le.trans (le_out (by decide) hj9 l)) (E1.back hlk (by decide) hj9 h1 l sl tb fr) (gv.less fun q hq => ownOut_none.mpr hq)
    · rw [if_neg hlk] at z
      exact z.elim
/-- a slot's desk: its method is called -/
def eMeth (mir : List Sl → Ro) (j0 : Nat) (r : A1f) : Ef := fun ρ => match ρ[j0]? with
  | some (some (.desk ba th li dn un)) => (match r ρ with
    | .ok ss => (match mir (.desk ba th li dn un :: ss) with
      | .ok d s => if isLk s = false then .ok d (ρ.set j0 (some s)) else .bad
      | .exc c s => if isLk s = false then .exc c (ρ.set j0 (some s)) else .bad
      | .bad => .bad)
    | .exc c => .exc c ρ
    | .bad => .bad)
  | _ => .bad
theorem pee_meth (j0 : Nat) {pl : Sem Bool} (c : MetE X.prog X.w X.K X.mg X.base T.tb m ps k mir) (hr : Room l X.A) (hk : k ≤ l) (tk : Takes X W) (ha : PA X (e :: es) (tA1 (gc X) T W j0 0 1 r)) (hn : ∀ ρ ss, r ρ = .ok ss → ss.length + 1 = ps.length)
    (hj9 : j0 < 900 := by decide) (hN : X.N[j0]? = some x := by rfl) (hv : Vis X.env.scope x := by first | exact Or.inl rfl | exact Or.inr (Or.inl rfl) | exact Or.inr (Or.inr rfl)) (hd : (x == ("__debug__" : Str)) = false := by decide) (hcd : (x == ("__classdict__" : Str)) = false := by decide)
    (hnm : ∀ b t l p q, (dkF b t l p q).lookup m = none := by intros; kernel_rfl) (hst : starEach (e :: es) X.env = (false, eval e X.env) :: starEach es X.env := by rfl) (hpl : (backTo pos (starEach es X.env)).any (·.1) = false := by rfl)
    (ht : eval (.Call (.Attribute (.Name x p) m apos) (e :: es) [] pos) X.env = (do
      let r ← eval (.Name x p) X.env
      standAt apos.atName
      let (g, fst) ← holding [r] (getMethod r m pl)
      callWith pos g fst (backTo pos (starEach (e :: es) X.env)) (backToKw pos (keywordEach [] X.env))) := by rfl) :
    PEE X T W (.Call (.Attribute (.Name x p) m apos) (e :: es) [] pos) (eMeth mir j0 r) := by
  obtain ⟨C, f, fd, dc, hM, F, hb⟩ := c.ex
  refine PE.of (pe_methA (pl := pl) (pe_var hN hv hd hcd) dc.cl hM F (hr.mono hk) hb (fun σ => passAt tk σ) ha hst hpl ht) fun σ H Q ⟨O, ρ, E, z⟩ => ?_
  unfold eMeth at z
  cases hq : ρ[j0]? with
  | none => rw [hq] at z; exact z.elim
  | some o =>
    rw [hq] at z
    rcases o with _ | s
    · exact z.elim
    · cases s with
      | desk ba th li dn un =>
        obtain ⟨v, h1, h2⟩ := E.slot j0 _ hq
        obtain ⟨b, dx, p, q, vb, vt, vl, xs, ys, rfl, h⟩ := h2.dk (G := gc X) dc
        refine ⟨_, h1, b, dx, _, rfl, h.ha, hnm _ _ _ _ _, O, ρ, E, ?_⟩
        dsimp only at z
        cases hf : r ρ with
        | bad => rw [hf] at z; exact z
        | exc c => rw [hf] at z; exact fun H' s' => z O H' s'.le (E.same s')
        | ok ss =>
          rw [hf] at z
          exact fun vs H1 s1 a1 _ => meth_in E hj9 h1 h2 rfl s1 a1 (hn _ _ hf) z
      | _ => exact (show False from z).elim
end
end Rf

/-! Rf.i: a desk is made. -/
namespace Rf
open PySem PySem.Spec PyProof.Rows L2 LamX
section
variable {G : Gc} {T : Tk} {O O' : Own} {H H' : Hp} {ρ : Rho} {σ : L2.St} {i j : Nat} {C a p q x : Addr} {v : V} {o o0 : HO}
/-- something of a slot's that is not known yet is written -/
theorem EnvOk.wr0 (E : EnvOk G T O ρ σ H) (hi : i < 900) (hp : O p = some i) (h0 : H p = some o0) (n1 : ∀ ps, o0 ≠ .tbl ps) (n2 : ∀ c x, o0 ≠ CodeO c x) (hn : ∀ s, ρ[i]? ≠ some (some s)) (n3 : ∀ ps, o ≠ .tbl ps := by intro ps z; cases z) : EnvOk G T O ρ σ (upd H p o) where
  slot := fun k t e => by
    have hk : k ≠ i := fun z => hn t (by rw [← z]; exact e)
    obtain ⟨u, h1, h2⟩ := E.slot k t e
    exact ⟨u, h1, h2.wr hp hi hk⟩
  tabs := tabs_wr E.tabs h0 n1 n2
  own_ := fun b k h => by
    by_cases e : b = p
    · rw [e]; exact ⟨_, upd_same, n3⟩
    · obtain ⟨u, h1, t⟩ := E.own_ b k h
      exact ⟨u, by rw [upd_ne e]; exact h1, t⟩
  len := E.len
  kept := E.kept
end
def dk3 (b t l : V) : List (Str × V) := [("basis", b), ("there", t), ("links", l)]
def dk4 (b t l p : V) : List (Str × V) := [("basis", b), ("there", t), ("links", l), ("done", p)]
def initR (f0 f1 f2 f3 : E0f) : Rho → R Sl := fun ρ => (f0 ρ).bind fun _ => (f1 ρ).bind fun b => (f2 ρ).bind fun t => (f3 ρ).bind fun l => .ok (.desk b t l [] [])
def tInit (G : Gc) (T : Tk) (W : WX) (C : Addr) (m : Rho → R Sl) : TS := fun De σ H => ∃ O ρ x dx, EnvOk G T O ρ σ H ∧ σ[0]? = some (some (.ref x)) ∧ (∀ s, ρ[0]? ≠ some (some s)) ∧ O x = some 0 ∧ H x = some (.ins C dx []) ∧ match m ρ with
  | .ok s => ∀ O' H', Le O H O' H' → SlotOk G O' H' 0 (.ref x) s → EnvOk G T O' ρ σ H' → De.nx σ H'
  | .exc c => ∀ O' H', Le O H O' H' → EnvOk G T O' ρ σ H' → exW G W c σ H'
  | .bad => False
section
variable {X : Cx} {T : Tk} {W : WX} {e0 e1 e2 e3 : Expr} {f0 f1 f2 f3 : E0f} {C : Addr} {x : Str} {p0 q1 q2 q3 q4 q5 a1 a2 a3 a4 a5 b1 b2 b3 b4 b5 l4 l5 : Pos}
theorem pssd_init (c : DkC X.K X.mg C) (h0 : PP X T W e0 f0) (h1 : PP X T W e1 f1) (h2 : PP X T W e2 f2) (h3 : PP X T W e3 f3) (hN : X.N[0]? = some x := by rfl) (hv : Vis X.env.scope x := by first | exact Or.inl rfl | exact Or.inr (Or.inl rfl) | exact Or.inr (Or.inr rfl)) (hd : (x == ("__debug__" : Str)) = false := by decide) (hcd : (x == ("__classdict__" : Str)) = false := by decide)
    (s0 : swapsWith e0 none p0.line X.env = pure false := by rfl) (s1 : swapsWith e1 (some (.Attribute (.Name x a1) "basis" b1)) q1.line X.env = pure false := by rfl) (s2 : swapsWith e2 (some (.Attribute (.Name x a2) "there" b2)) q2.line X.env = pure false := by rfl)
    (s3 : swapsWith e3 (some (.Attribute (.Name x a3) "links" b3)) q3.line X.env = pure false := by rfl) (s4 : swapsWith (.List [] l4) (some (.Attribute (.Name x a4) "done" b4)) q4.line X.env = pure false := by rfl) (s5 : swapsWith (.List [] l5) (some (.Attribute (.Name x a5) "undone" b5)) q5.line X.env = pure false := by rfl) :
    PSs X [.Expr e0 p0, .Assign [.Attribute (.Name x a1) "basis" b1] e1 q1, .Assign [.Attribute (.Name x a2) "there" b2] e2 q2, .Assign [.Attribute (.Name x a3) "links" b3] e3 q3, .Assign [.Attribute (.Name x a4) "done" b4] (.List [] l4) q4, .Assign [.Attribute (.Name x a5) "undone" b5] (.List [] l5) q5] (tInit (gc X) T W C (initR f0 f1 f2 f3)) := by
  have pv := fun p => pe_var (pos := p) hN hv hd hcd
  refine PSs.of (pss_cons (ps_expr h0 s0) (pss_cons (ps_fld (pv a1) h1 s1) (pss_cons (ps_fld (pv a2) h2 s2) (pss_cons (ps_fld (pv a3) h3 s3) (pss_cons (ps_fld (pv a4) (pf_lst (T := T) (W := W) ppa_nil) s4) (pss_one (ps_fld (pv a5) (pf_lst (T := T) (W := W) ppa_nil) s5))))))) fun De σ H ⟨O, ρ, b, dx, E, k0, kn, ob, hb, z⟩ => ?_
  have nt1 : ∀ {fs : List (Str × V)} (ps), HO.ins C dx fs ≠ .tbl ps := fun _ z => by cases z
  have nt2 : ∀ {fs : List (Str × V)} (c' : Addr) (y : Str), HO.ins C dx fs ≠ CodeO c' y := fun _ _ z => by cases z
  have lw : ∀ {H1 : Hp} {o : HO} (_ : ∀ ps, o ≠ .tbl ps), Le O H1 O (upd H1 b o) := fun n => Le.wr ob (by decide) n
  unfold initR at z
  refine ⟨O, ρ, E, ?_⟩
  cases g0 : f0 ρ with
  | bad => rw [g0] at z; exact z
  | exc c => rw [g0] at z; exact fun H' s => z O H' s.le (E.same s)
  | ok d0 =>
  rw [g0] at z
  simp only [R.bind_ok] at z
  intro _ H1 r1 _
  have E1 := E.same r1
  have hb1 := r1.ex _ _ hb nt1
  refine ⟨O, ρ, E1, ?_⟩
  cases g1 : f1 ρ with
  | bad => rw [g1] at z; exact z
  | exc c => rw [g1] at z; exact fun H' s => z O H' (r1.trans s).le (E1.same s)
  | ok d1 =>
  rw [g1] at z
  simp only [R.bind_ok] at z
  intro v1 H2 r2 y1
  have E2 := E1.same r2
  have hb2 := r2.ex _ _ hb1 nt1
  refine ⟨_, k0, b, C, dx, _, rfl, hb2, c.cl, c.nB, by show 0 < 1000; decide, ?_⟩
  have E3 := E2.wr0 (o := .ins C dx (putF "basis" v1 [])) (by decide) ob hb2 nt1 nt2 kn
  have L3 : Le O H O (upd H2 b (.ins C dx (putF "basis" v1 []))) := (r1.trans r2).le.trans (lw nt1)
  have y1 := y1.wr (o := .ins C dx (putF "basis" v1 [])) ob
  refine ⟨O, ρ, E3, ?_⟩
  cases g2 : f2 ρ with
  | bad => rw [g2] at z; exact z
  | exc c => rw [g2] at z; exact fun H' s => z O H' (L3.trans s.le) (E3.same s)
  | ok d2 =>
  rw [g2] at z
  simp only [R.bind_ok] at z
  intro v2 H4 r4 y2
  have E4 := E3.same r4
  have hb4 := r4.ex _ _ upd_same nt1
  have y1 := y1.ext r4.ex
  refine ⟨_, k0, b, C, dx, _, rfl, hb4, c.cl, c.nT, by show 1 < 1000; decide, ?_⟩
  have E5 := E4.wr0 (o := .ins C dx (putF "there" v2 (putF "basis" v1 []))) (by decide) ob hb4 nt1 nt2 kn
  have L5 : Le O H O (upd H4 b (.ins C dx (putF "there" v2 (putF "basis" v1 [])))) := (L3.trans r4.le).trans (lw nt1)
  have y1 := y1.wr (o := .ins C dx (putF "there" v2 (putF "basis" v1 []))) ob
  have y2 := y2.wr (o := .ins C dx (putF "there" v2 (putF "basis" v1 []))) ob
  refine ⟨O, ρ, E5, ?_⟩
  cases g3 : f3 ρ with
  | bad => rw [g3] at z; exact z
  | exc c => rw [g3] at z; exact fun H' s => z O H' (L5.trans s.le) (E5.same s)
  | ok d3 =>
  rw [g3] at z
  simp only [R.bind_ok] at z
  intro v3 H6 r6 y3
  have E6 := E5.same r6
  have hb6 := r6.ex _ _ upd_same nt1
  have y1 := y1.ext r6.ex
  have y2 := y2.ext r6.ex
  refine ⟨_, k0, b, C, dx, _, rfl, hb6, c.cl, c.nL, by show 2 < 1000; decide, ?_⟩
  have e3 : putF "links" v3 (putF "there" v2 (putF "basis" v1 [])) = (dk3 v1 v2 v3) := by kernel_rfl
  rw [e3]
  have E7 := E6.wr0 (o := .ins C dx (dk3 v1 v2 v3)) (by decide) ob hb6 nt1 nt2 kn
  have L7 : Le O H O (upd H6 b (.ins C dx (dk3 v1 v2 v3))) := (L5.trans r6.le).trans (lw nt1)
  have y1 := y1.wr (o := .ins C dx (dk3 v1 v2 v3)) ob
  have y2 := y2.wr (o := .ins C dx (dk3 v1 v2 v3)) ob
  have y3 := y3.wr (o := .ins C dx (dk3 v1 v2 v3)) ob
  refine ⟨O, ρ, E7, ?_⟩
  intro w4 H8 r8 ⟨r, zs, e4, n1, n2, n3, n4⟩
  subst e4
  have hb8 := r8.ex _ _ upd_same nt1
  have nr : b ≠ r := fun e => n1 (e ▸ ⟨_, upd_same, nt1⟩)
  have E8 := E7.own (j := 0) n1 r8 ⟨_, n2, fun _ z => by cases z⟩
  have or8 : own1 O r (some 0) r = some 0 := own1_same
  have ob8 : own1 O r (some 0) b = some 0 := by rw [own1_ne nr]; exact ob
  have L8 : Le O H (own1 O r (some 0)) H8 := L7.trans (Le.ownN n1 r8)
  have y1 := (y1.own (i := some 0) n1).ext r8.ex
  have y2 := (y2.own (i := some 0) n1).ext r8.ex
  have y3 := (y3.own (i := some 0) n1).ext r8.ex
  refine ⟨_, k0, b, C, dx, _, rfl, hb8, c.cl, c.nD, by show 3 < 1000; decide, ?_⟩
  have e4 : putF "done" (.ref r) (dk3 v1 v2 v3) = (dk4 v1 v2 v3 (.ref r)) := by kernel_rfl
  rw [e4]
  have E9 := E8.wr0 (o := .ins C dx (dk4 v1 v2 v3 (.ref r))) (by decide) ob8 hb8 nt1 nt2 kn
  have L9 := L8.trans (Le.wr (H := H8) (o := .ins C dx (dk4 v1 v2 v3 (.ref r))) ob8 (by decide))
  have y1 := y1.wr (o := .ins C dx (dk4 v1 v2 v3 (.ref r))) ob8
  have y2 := y2.wr (o := .ins C dx (dk4 v1 v2 v3 (.ref r))) ob8
  have y3 := y3.wr (o := .ins C dx (dk4 v1 v2 v3 (.ref r))) ob8
  have y4 := (n3 0).wr (o := .ins C dx (dk4 v1 v2 v3 (.ref r))) ob8
  have n2 : upd H8 b (.ins C dx (dk4 v1 v2 v3 (.ref r))) r = some (.lst zs) := by rw [upd_ne nr.symm]; exact n2
  refine ⟨_, ρ, E9, ?_⟩
  intro w5 H10 r10 ⟨t, us, e5, m1, m2, m3, m4⟩
  subst e5
  have hb10 := r10.ex _ _ upd_same nt1
  have nb : b ≠ t := fun e => m1 (e ▸ ⟨_, upd_same, nt1⟩)
  have nrt : r ≠ t := fun e => m1 (e ▸ ⟨_, n2, fun _ z => by cases z⟩)
  have E10 := E9.own (j := 0) m1 r10 ⟨_, m2, fun _ z => by cases z⟩
  have ob10 : own1 (own1 O r (some 0)) t (some 0) b = some 0 := by rw [own1_ne nb]; exact ob8
  have or10 : own1 (own1 O r (some 0)) t (some 0) r = some 0 := by rw [own1_ne nrt]; exact or8
  have L10 := L9.trans (Le.ownN (j := 0) m1 r10)
  have y1 := (y1.own (i := some 0) m1).ext r10.ex
  have y2 := (y2.own (i := some 0) m1).ext r10.ex
  have y3 := (y3.own (i := some 0) m1).ext r10.ex
  have y4 := (y4.own (i := some 0) m1).ext r10.ex
  have n2 := r10.ex _ _ n2 (fun _ z => by cases z)
  refine ⟨_, k0, b, C, dx, _, rfl, hb10, c.cl, c.nU, by show 4 < 1000; decide, ?_⟩
  have e5 : putF "undone" (.ref t) (dk4 v1 v2 v3 (.ref r)) = dkF v1 v2 v3 (.ref r) (.ref t) := by kernel_rfl
  rw [e5]
  have E11 := E10.wr0 (o := .ins C dx (dkF v1 v2 v3 (.ref r) (.ref t))) (by decide) ob10 hb10 nt1 nt2 kn
  have L11 := L10.trans (Le.wr (H := H10) (o := .ins C dx (dkF v1 v2 v3 (.ref r) (.ref t))) ob10 (by decide))
  refine z _ _ L11 (DkAt.slot (G := gc X) (C := C) (dx := dx) (p := r) (q := t) ⟨ob10, or10, own1_same, nr, nb, nrt, upd_same, by rw [upd_ne nr.symm]; exact n2, by rw [upd_ne nb.symm]; exact m2, y1.wr ob10, y2.wr ob10, y3.wr ob10, y4.wr ob10, (m3 0).wr ob10, n4, m4⟩ c) E11
end
/-- __init__'s promise -/
def spI (G : Gc) (tb : List (Addr × Str)) (C : Addr) (m : D → R Sl) : Sp := fun vs H Q E => ∃ O x dx vt d, vs = [.ref x, vt] ∧ H x = some (.ins C dx []) ∧ O x = some 0 ∧ Gd G.K O H vt d ∧ Tabs tb H ∧ Fr O H ∧ match m d with
  | .ok s => ∀ O' H', Le O H O' H' → SlotOk G O' H' 0 (.ref x) s → Tabs tb H' → Fr O' H' → Q .non H'
  | .exc c => ∀ O' H', Le O H O' H' → Tabs tb H' → Fr O' H' → E ((G.mg c).getD .none) none H'
  | .bad => False
theorem ok_init {P : Program} {w : World} {K : PySem.W.Frag} {mg : Str → Option Value} {base : Heap} {x qual : Str} {params : Arguments} {body : List Stmt} {scope : Scope} {C f : Addr} {fd : FuncData} {N ps : List Str} {k : Nat} {tb : List (Addr × Str)} {s : Rho → R Sl} {m : D → R Sl} (F : FunD K x qual params body scope [] [] f fd) (S : FnScope N ps scope) (hp : ps.length = 2) (hN : N.length = 2) (hm : m = fun d => s [none, some (.dat d)])
    (hb : ∀ (cdv : Value) (A : Around) (outer : List Env) (s0 : Shared) (H : Hp) (E : XK), Room k (A.deeper (envOfC qual scope s0.heap.objs.size f cdv)) →
      PSs (cxOf (L2.CX P w) P w K mg base N qual scope f cdv A outer s0 H E) body (tInit ⟨P, w, K, mg⟩ ⟨tb, []⟩ (fun cls d _ H => E cls d H) C s)) :
    FnOk P w K mg base (L2.CX P w) (k + 1) f fd ps (spI ⟨P, w, K, mg⟩ tb C m) := by
  refine F.ok S (fun vs H Q E ⟨_, _, _, _, _, h, _⟩ => by rw [h, hp]; rfl) fun cdv A outer s0 H vs Q E hr h => ?_
  obtain ⟨O, y, dx, vt, d, rfl, hy, oy, gd, ht, fr, z⟩ := h
  refine ⟨_, hb cdv A outer s0 H E hr, ?_⟩
  have hst : L2.start N [V.ref y, vt] = [some (.ref y), some vt] := by
    unfold L2.start
    rw [hN]
    rfl
  rw [hst]
  refine ⟨O, [none, some (.dat d)], y, dx, ⟨fun i t e => ?_, ht, fr, rfl, fun p hp => nomatch hp⟩, rfl, ?_, oy, hy, ?_⟩
  · match i, e with
    | 1, e =>
      cases e
      exact ⟨vt, rfl, gd⟩
    | n + 2, e => simp at e
  · intro t e
    cases e
  · rw [hm] at z
    dsimp only at z
    cases hs : s [none, some (.dat d)] with
    | bad => rw [hs] at z; exact z
    | exc c => rw [hs] at z; exact fun O' H' l E' => z O' H' l E'.tabs E'.own_
    | ok t => rw [hs] at z; exact fun O' H' l sl E' => z O' H' l sl E'.tabs E'.own_
structure MkI (P : Program) (w : World) (K : PySem.W.Frag) (mg : Str → Option Value) (base : Heap) (tb : List (Addr × Str)) (k : Nat) (m : D → R Sl) : Prop where
  ex : ∃ (C f : Addr) (fd : FuncData), DkC K mg C ∧ Mk K C f ∧ FnOk P w K mg base (L2.CX P w) k f fd ["self", "table"] (spI ⟨P, w, K, mg⟩ tb C m) ∧ L2.Binds K fd ["self", "table"] []
/-- everything is kept -/
theorem keep_all {O Of : Own} {H H' : Hp} (hk : ∀ a o, H a = some o → (∀ ps, o ≠ .tbl ps) → H' a = some o) (ho : ∀ a, nt H a → Of a = O a) : Up O H Of H' ∧ Le O H Of H' := by
  have l : Le O H Of H' := ⟨fun a ⟨o, h, t⟩ => ⟨o, hk a o h t, t⟩, fun a h _ => ho a h, fun a o h _ t => hk a o h t⟩
  exact ⟨fun G i v s h => h.through l (fun b hb e => (ho b hb).trans e) (fun b hb e => (ho b hb).trans e) fun b o h1 _ t => hk b o h1 t, l⟩
theorem EnvOk.upAll {G : Gc} {T : Tk} {O Of : Own} {ρ : Rho} {σ : L2.St} {H H' : Hp} (E : EnvOk G T O ρ σ H) (u : Up O H Of H') (tb : Tabs T.tb H') (fr : Fr Of H') : EnvOk G T Of ρ σ H' where
  slot := fun i s h => by
    obtain ⟨v, h1, h2⟩ := E.slot i s h
    exact ⟨v, h1, u _ _ _ _ h2⟩
  tabs := tb
  own_ := fr
  len := E.len
  kept := E.kept
/-- owners inside __init__ -/
def inI (O : Own) (x : Addr) : Own := fun a => if a = x then some 0 else (O a).map fun _ => 999
/-- .. and behind it -/
def outI (O O' : Own) (i : Nat) : Own := fun a => (O' a).map fun k => if k = 0 then i else (O a).getD 999
/-- a desk is made: what __init__ is asked, and what is there behind it -/
theorem make_in {G : Gc} {T : Tk} {W : WX} {O : Own} {ρ : Rho} {σ : L2.St} {H : Hp} {Rq : V → Hp → Prop} {i : Nat} {C x dx : Addr} {vt : V} {d : D} {m : D → R Sl} (E : EnvOk G T O ρ σ H) (hx : H x = none) (hdx : H dx = none) (ne : dx ≠ x) (gd : Gd G.K O H vt d) (hnl : ∀ s, m d = .ok s → isLk s = false)
    (z : match m d with
      | .ok s => ∀ v O' H', Up O H O' H' → Le O H O' H' → EnvOk G T O' ρ σ H' → SlotOk G O' H' i v s → Rq v H'
      | .exc c => ∀ H', Gr T H H' → exW G W c σ H'
      | .bad => False) : spI G T.tb C m [.ref x, vt] (upd (upd H dx (.own x)) x (.ins C dx [])) (fun v H2 => v = .non ∧ Rq (.ref x) H2) (WE W σ) := by
  have sm : Same H (upd (upd H dx (.own x)) x (.ins C dx [])) := fun b o e => by
    rw [upd_ne (ne_of_none e hx), upd_ne (ne_of_none e hdx)]
    exact e
  have gr : Gr T H (upd (upd H dx (.own x)) x (.ins C dx [])) := Gr.of E.tabs sm
  have ox : O x = none := E.fresh x hx
  have nin : ∀ b, inI O x b = none ↔ b ≠ x ∧ O b = none := fun b => by
    unfold inI
    by_cases e : b = x
    · simp [e]
    · rw [if_neg e]
      simp [e]
  have notm : ∀ b, b ≠ x → ¬ mine (inI O x) b := fun b e ⟨q, q1, q2⟩ => by
    unfold inI at q1
    rw [if_neg e] at q1
    cases h : O b with
    | none => rw [h] at q1; cases q1
    | some k =>
      rw [h] at q1
      have q3 : 999 = q := Option.some.inj q1
      omega
  have fr1 : Fr (inI O x) (upd (upd H dx (.own x)) x (.ins C dx [])) := fun a k h => by
    by_cases e : a = x
    · rw [e]; exact ⟨_, upd_same, fun _ z => by cases z⟩
    · unfold inI at h
      rw [if_neg e] at h
      cases h2 : O a with
      | none => rw [h2] at h; cases h
      | some k => exact gr.th _ (E.own_ a k h2)
  have gd1 : Gd G.K (inI O x) (upd (upd H dx (.own x)) x (.ins C dx [])) vt d := by
    have g1 := gd.own (p := x) (i := some 0) (nt_none hx)
    exact (g1.ext gr.ex).less fun b hb => by
      unfold own1 at hb
      by_cases e : b = x
      · rw [if_pos e] at hb; cases hb
      · rw [if_neg e] at hb; exact (nin b).mpr ⟨e, hb⟩
  refine ⟨inI O x, x, dx, vt, d, rfl, upd_same, by unfold inI; rw [if_pos rfl], gd1, gr.tb, fr1, ?_⟩
  have nx : ∀ {a : Addr}, nt H a → a ≠ x := fun h e => h.not (by rw [e]; exact hx)
  have kp : ∀ {O' : Own} {H' : Hp}, Le (inI O x) (upd (upd H dx (.own x)) x (.ins C dx [])) O' H' → ∀ a o, H a = some o → (∀ ps, o ≠ .tbl ps) → H' a = some o := fun l a o h t => l.keep a o (sm a o h) (notm a (nx ⟨o, h, t⟩)) t
  cases hm : m d with
  | bad => rw [hm] at z; exact z
  | exc c =>
    rw [hm] at z
    exact fun O' H' l tb fr => z H' ⟨fun a o h t => kp l a o h t, tb⟩
  | ok s =>
    rw [hm] at z
    intro O' H' l sl tb fr
    have ho : ∀ a, nt H a → outI O O' i a = O a := fun a h => by
      have e := l.own a (gr.th a h) (notm a (nx h))
      unfold outI
      rw [e]
      unfold inI
      rw [if_neg (nx h)]
      cases O a with
      | none => rfl
      | some k => rfl
    obtain ⟨u, le⟩ := keep_all (kp l) ho
    have fr' : Fr (outI O O' i) H' := fun a k h => by
      cases e : O' a with
      | none => unfold outI at h; rw [e] at h; cases h
      | some k => exact fr a k e
    refine ⟨rfl, z _ _ H' u le (E.upAll u tb fr') (sl.relabel (fun b h => by unfold outI; rw [h]; rfl) (fun z => by rw [hnl s hm] at z; cases z) fun b h => by unfold outI; rw [h]; rfl)⟩
section
variable {X : Cx} {k : Nat} {f C : Addr} {fd : FuncData} {ps : List Str} {sp : Sp} {E : L2.St → XK} {x : Str} {p pos : Pos} {e : Expr} {es : List Expr} {t : TA}
/-- the class is called; what is raised wished for at the caller's slots -/
theorem run_makeA {pins : List (Addr × Obj)} {σ : L2.St} {H : Hp} {s : Shared} {Q : VK} {us : List Value} {vs : List V} (M : Mk X.K C f) (F : FnOk X.prog X.w X.K X.mg X.base (L2.CX X.prog X.w) k f fd ps sp) (hr : Room (k + 1) X.A) (hb : L2.Binds X.K fd ps []) (hx : PassesAt (L2.CX X.prog X.w) X σ (E σ)) (I : Inv X pins σ H s) (r : Vals vs us)
    (h : ∀ y dy, H y = none → H dy = none → dy ≠ y → sp (.ref y :: vs) (upd (upd H dy (.own y)) y (.ins C dy [])) (fun v H2 => v = .non ∧ Q (.ref y) H2) (E σ)) : wpAny (model X.prog X.w) X.A (call (.ref C) us) (EP X pins σ Q) X.xe s := by
  have N0 : s.heap.objs.size ≠ s.heap.objs.size + 1 := by omega
  have w := h _ _ (I.hok.fresh (a := s.heap.objs.size + 1) (by omega)) (I.hok.fresh (a := s.heap.objs.size) (by omega)) N0
  have J := Inv.made (C := C) I
  have lv := F.len _ _ _ _ w
  have lu : (Value.ref (s.heap.objs.size + 1) :: us).length = ps.length := by
    rw [← lv]
    simp [r.length]
  have bd := hb _ (Value.ref (s.heap.objs.size + 1) :: us) J.kIn (by rw [List.append_nil]; exact lu)
  rw [List.append_nil] at bd
  refine wpAny_call (make_map (f := f) I.kIn M.makes M.init (beq_iff_eq.mp M.fn) (codeAny_mono (F.run _ X.stack _ _ ⟨_, []⟩ _ _ _ (E σ) (hr.make C us []) (J.env0.make C us []) bd (.cons (show RelV (V.ref _) (Value.ref _) from rfl) r) w) fun fl s' q => ?_))
  match fl, q with
  | .error e, q => exact hx pins _ _ e s' J q
  | .ok (.ret u), q =>
    obtain ⟨v, H', J', rv, ev, q'⟩ := J.after q
    subst ev
    exact ⟨rv, V.ref (s.heap.objs.size + 1), H', J', rfl, q'⟩
  | .ok .next, q => exact False.elim q
  | .ok .brk, q => exact False.elim q
  | .ok .cont, q => exact False.elim q
def tMakeS (C : Addr) (sp : Sp) (E : L2.St → XK) (t : TA) : TE := fun σ H Q => t σ H fun vs H1 => ∀ y dy, H1 y = none → H1 dy = none → dy ≠ y → sp (.ref y :: vs) (upd (upd H1 dy (.own y)) y (.ins C dy [])) (fun v H2 => v = .non ∧ Q (.ref y) H2) (E σ)
theorem pe_makeA (M : Mk X.K C f) (F : FnOk X.prog X.w X.K X.mg X.base (L2.CX X.prog X.w) k f fd ps sp) (hr : Room (k + 1) X.A) (hg : Gl X x) (hm : X.mg x = some (.ref C)) (hb : L2.Binds X.K fd ps []) (hx : ∀ σ, PassesAt (L2.CX X.prog X.w) X σ (E σ)) (ha : PA X (e :: es) t)
    (hdb : (x == ("__debug__" : Str)) = false) (he : starEach (e :: es) X.env = (false, eval e X.env) :: starEach es X.env) (hpl : (backTo pos (starEach es X.env)).any (·.1) = false) :
    PE X (.Call (.Name x p) (e :: es) [] pos) (tMakeS C sp E t) := ⟨fun pins s σ H Q I h =>
  wpAny_Call_Name_kw (ld_glob I hg hm (PySem.W.callWith_K (h₀ := X.base) I.ok.mod.kin M.kp (thn (ha.run pos pins s σ H _ I h) fun us s1 ⟨vs, H1, I1, r, q⟩ => ⟨I1.kIn, run_makeA M F hr hb (hx σ) I1 r q⟩) he hpl) hdb)⟩
end
def mMk (m : D → R Sl) (g : E0f) : Mf := fun ρ => (g ρ).bind m
section
variable {X : Cx} {T : Tk} {W : WX} {e : Expr} {g : E0f} {p pos : Pos} {k l : Nat} {m : D → R Sl}
theorem pm_make (i : Nat) (c : MkI X.prog X.w X.K X.mg X.base T.tb k m) (hr : Room l X.A) (hk : k + 1 ≤ l) (hg : Gl X "Desk") (tk : Takes X W) (hnl : ∀ d s, m d = .ok s → isLk s = false) (ha : PP X T W e g) (he : starEach [e] X.env = (false, eval e X.env) :: starEach [] X.env := by rfl) : PM X T W i (.Call (.Name "Desk" p) [e] [] pos) (mMk m g) := by
  obtain ⟨C, f, fd, dc, M, F, hb⟩ := c.ex
  refine PE.of (pe_makeA M F (hr.mono hk) hg dc.mgC hb (fun σ => passAt tk σ) (pa_cons ha pa_nil he) (by decide) he (by rfl)) fun σ H Q ⟨O, ρ, E, z⟩ => ⟨O, ρ, E, ?_⟩
  unfold mMk at z
  cases hf : g ρ with
  | bad => rw [hf] at z; exact z
  | exc c => rw [hf] at z; exact z
  | ok d =>
    rw [hf] at z
    simp only [R.bind_ok] at z
    intro v H1 s1 g1 y dy h1 h2 h3
    refine make_in (W := W) (i := i) (E.same s1) h1 h2 h3 g1 (hnl d) ?_
    cases hm : m d with
    | bad => rw [hm] at z; exact z
    | exc c => rw [hm] at z; exact fun H' s => z H' (s1.trans s)
    | ok s => rw [hm] at z; exact fun v O' H' u l E' sl => z v O' H' ((Up.gr s1).trans u) (s1.le.trans l) E' sl
end
end Rf

/-! Rf.j: a method of a desk that nobody keeps; try: .. except C: .. -/
namespace Rf
open PySem PySem.Spec PyProof.Rows L2 LamX
section
variable {G : Gc} {O O' : Own} {H H' : Hp} {i j i0 j0 k : Nat} {v : V} {s : Sl}
theorem EnvOk.back0 {T : Tk} {ρ : Rho} {σ : L2.St} (hi : i0 < 900) (hj : j0 < 900) (E : EnvOk G T O ρ σ H) (hn : ∀ s, ρ[j0]? ≠ some (some s)) (l : Le (ownIn O j0 i0) H O' H') (tb : Tabs T.tb H') (fr : Fr O' H') : EnvOk G T (ownOut O O' j0 i0) ρ σ H' where
  slot := fun k t e => by
    have hk : k ≠ j0 := fun z => hn t (by rw [← z]; exact e)
    obtain ⟨w, h1, h2⟩ := E.slot k t e
    refine ⟨w, h1, h2.through (le_out hi hj l) (fun b hb h => out_other l hi hb h hk) (fun b hb h => out_other l hi hb h (by omega)) fun b o h1 h3 t => l.keep b o h1 (fun ⟨q, q1, q2⟩ => ?_) t⟩
    rw [ownIn_other h3 hk] at q1
    cases q1
    omega
  tabs := tb
  own_ := fun a k h => by
    cases e : O' a with
    | none => rw [ownOut_none.mpr e] at h; cases h
    | some k => exact fr a k e
  len := E.len
  kept := E.kept
end
/-- Desk(e).m(..) -/
def eTmp (mk : Mf) (mir : List Sl → Ro) (r : A1f) : Ef := fun ρ => if ρ.length < 899 then (match mk ρ with
  | .ok (.desk ba th li dn un) => (match r ρ with
    | .ok ss => (match mir (.desk ba th li dn un :: ss) with
      | .ok d _ => .ok d ρ
      | .exc c _ => .exc c ρ
      | .bad => .bad)
    | .exc c => .exc c ρ
    | .bad => .bad)
  | .exc c => .exc c ρ
  | _ => .bad) else .bad
section
variable {X : Cx} {T : Tk} {W : WX} {e a : Expr} {as : List Expr} {pos p apos q : Pos} {m : Str} {r : A1f} {ps : List Str} {k k2 l : Nat} {mir : List Sl → Ro} {mk : Mf} {o : Expr}
theorem pee_tmp {pl : Sem Bool} (c : MetE X.prog X.w X.K X.mg X.base T.tb m ps k mir) (hr : Room l X.A) (hk : k ≤ l) (tk : Takes X W) (ho : PM X T W 899 o mk) (ha : PA X (a :: as) (tA1 (gc X) T W 899 0 1 r)) (hn : ∀ ρ ss, r ρ = .ok ss → ss.length + 1 = ps.length)
    (hnm : ∀ b t l p q, (dkF b t l p q).lookup m = none := by intros; kernel_rfl) (hst : starEach (a :: as) X.env = (false, eval a X.env) :: starEach as X.env := by rfl) (hpl : (backTo pos (starEach as X.env)).any (·.1) = false := by rfl)
    (ht : eval (.Call (.Attribute o m apos) (a :: as) [] pos) X.env = (do
      let r ← eval o X.env
      standAt apos.atName
      let (g, fst) ← holding [r] (getMethod r m pl)
      callWith pos g fst (backTo pos (starEach (a :: as) X.env)) (backToKw pos (keywordEach [] X.env))) := by rfl) :
    PEE X T W (.Call (.Attribute o m apos) (a :: as) [] pos) (eTmp mk mir r) := by
  obtain ⟨C, f, fd, dc, hM, F, hb⟩ := c.ex
  refine PE.of (pe_methA (pl := pl) ho dc.cl hM F (hr.mono hk) hb (fun σ => passAt tk σ) ha hst hpl ht) fun σ H Q ⟨O, ρ, E, z⟩ => ⟨O, ρ, E, ?_⟩
  unfold eTmp at z
  by_cases hl9 : ρ.length < 899
  case neg => rw [if_neg hl9] at z; exact z.elim
  rw [if_pos hl9] at z
  cases hq : mk ρ with
  | bad => rw [hq] at z; exact z
  | exc c => rw [hq] at z; exact fun H' s' => z O H' s'.le (E.same s')
  | ok s =>
    rw [hq] at z
    cases s with
    | desk ba th li dn un =>
      intro v O1 H1 u1 l1 E1 s1
      obtain ⟨b, dx, p, q, vb, vt, vl, xs, ys, rfl, h⟩ := s1.dk (G := gc X) dc
      refine ⟨b, dx, _, rfl, h.ha, hnm _ _ _ _ _, O1, ρ, E1, ?_⟩
      dsimp only at z
      cases hf : r ρ with
      | bad => rw [hf] at z; exact z
      | exc c => rw [hf] at z; exact fun H' s' => z O1 H' (l1.trans s'.le) (E1.same s')
      | ok ss =>
        rw [hf] at z
        dsimp only at z
        intro vs H2 s2 a1 _
        have E2 := E1.same s2
        have a2 : ArgsOk (gc X) (ownIn O1 899 0) H2 0 (.ref b :: vs) (.desk ba th li dn un :: ss) := .cons ((s1.ext s2.ex).relabel (fun q hq => ownIn_here hq) (fun z => by cases z) fun q hq => ownIn_none.mpr hq) a1
        have hno : ∀ s, ρ[899]? ≠ some (some s) := fun s e => by
          rw [List.getElem?_eq_none (by omega)] at e
          cases e
        refine ⟨a2.length.trans (hn _ _ hf), ownIn O1 899 0, _, _, a2, rfl, s2.tb, fun q k hq => (by
          cases e : O1 q with
          | none => rw [ownIn_none.mpr e] at hq; cases hq
          | some k => exact E2.own_ q k e), ?_⟩
        cases hm : mir (.desk ba th li dn un :: ss) with
        | bad => rw [hm] at z; exact z
        | exc c s => rw [hm] at z; exact fun O' H' l sl tb fr => z _ H' ((l1.trans s2.le).trans (le_out (by decide) (by decide) l)) (E2.back0 (by decide) (by decide) hno l tb fr)
        | ok d s => rw [hm] at z; exact fun v O' H' l sl tb fr gv => z v _ H' ((l1.trans s2.le).trans (le_out (by decide) (by decide) l)) (E2.back0 (by decide) (by decide) hno l tb fr) (gv.less fun q hq => ownOut_none.mpr hq)
    | _ => exact (show False from z).elim
end
theorem initR_nl {f0 f1 f2 f3 : E0f} {ρ : Rho} {s : Sl} (h : initR f0 f1 f2 f3 ρ = .ok s) : isLk s = false := by
  unfold initR at h
  cases h0 : f0 ρ with
  | bad => rw [h0] at h; cases h
  | exc c => rw [h0] at h; cases h
  | ok d0 =>
    rw [h0, R.bind_ok] at h
    cases h1 : f1 ρ with
    | bad => rw [h1] at h; cases h
    | exc c => rw [h1] at h; cases h
    | ok d1 =>
      rw [h1, R.bind_ok] at h
      cases h2 : f2 ρ with
      | bad => rw [h2] at h; cases h
      | exc c => rw [h2] at h; cases h
      | ok d2 =>
        rw [h2, R.bind_ok] at h
        cases h3 : f3 ρ with
        | bad => rw [h3] at h; cases h
        | exc c => rw [h3] at h; cases h
        | ok d3 =>
          rw [h3, R.bind_ok] at h
          cases h
          rfl
/-! ### try -/
/-- a class of errors, and that it catches its own -/
structure ExS (K : PySem.W.Frag) (mg : Str → Option Value) (x : Str) : Prop where
  ex : ∃ A : Addr, mg x = some (.ref A) ∧ PySem.W.exmOne K (.ref A) (.ref A) = some true
def sTry (c : Str) (b s : Sf) : Sf := fun ρ => match b ρ with
  | .ok fl r => .ok fl r
  | .exc c' r => if c' = c then s r else .bad
  | .bad => .bad
theorem psd_try {X : Cx} {T : Tk} {W : WX} {x : Str} {body suite : List Stmt} {b₀ : Stmt} {np pos pos' : Pos} {fb fs : Sf} (c : ExS X.K X.mg x) (hs : X.stack = X.env :: X.outer) (hf : X.env.frame = some X.env.locals) (hg : Gl X x) (tk : Takes X W)
    (hb : ∀ (W' : WX) (pn : List (Addr × Obj)) (xe : Value → Shared → Prop), Takes (X.tr pn xe) W' → PSs (X.tr pn xe) body (tS (gc X) T W' fb)) (hsu : ∀ (a : Addr) (oe : Obj) (pn : List (Addr × Obj)), PSs (X.suite a ((a, oe) :: pn)) (b₀ :: suite) (tS (gc X) T W fs)) (hdb : (x == ("__debug__" : Str)) = false := by decide) :
    PSD X T W (.Try body [.ExceptHandler (some (.Name x np)) none (b₀ :: suite) pos'] [] [] pos) (sTry x fb fs) := by
  obtain ⟨A, hm, hx⟩ := c.ex
  refine PS.of (ps_try_only (Wout := W) (ts := fun _ _ _ => tS (gc X) T W fs) hs hf ⟨hg, hdb, .inl hm⟩ tk (fun W' pn xe tk' _ => hb W' pn xe tk') (fun a oe _ _ pn _ _ => hsu a oe pn)) fun De σ H ⟨O, ρ, E, z⟩ => ⟨O, ρ, E, ?_⟩
  unfold sTry at z
  cases hf : fb ρ with
  | bad => rw [hf] at z; exact z
  | ok fl r =>
    rw [hf] at z
    cases fl with
    | nx => exact z
    | rt d => exact z
    | bk => exact z
    | ct => exact z
  | exc c' r =>
    rw [hf] at z
    dsimp only at z
    by_cases hc : c' = x
    · rw [if_pos hc] at z
      subst hc
      intro O' σ' H' l E'
      show wOnly _ _ _ _ _ _ _ _ _
      refine ⟨true, ?_, fun _ a _ => ⟨O', r, E', Post.le l z⟩, fun h => nomatch h⟩
      show PySem.W.exmOne X.K ((X.mg c').getD .none) _ = _
      rw [hm]
      exact hx
    · rw [if_neg hc] at z
      exact z.elim
end Rf

/-! P0: mirrors of defs that read alike in all laws (printed by gen.py common). -/
namespace Rf
open PySem PySem.Spec
def m_is_ascending : List D → R D := fnD 3 (sRet (eP (r1 dAll (rComp (riZip (rV 0) (rSl (rV 0) (roSome (rC (.int 1))) (roNone))) (tgT (tgCons (tgV 1) (tgCons (tgV 2) (tgNil)))) (rYes) (r2 dLt (rV 1) (rV 2)) [1, 2]))))
def m_is_between : List D → R D := fnD 3 (sRet (eP (rAnd (r1 (dIsi "int") (rV 0)) (rAnd (rNot (r1 (dIsi "bool") (rV 0))) (rChain dLe dLe (rV 1) (rV 0) (rV 2))))))
def m_is_rule : List D → R D := fnD 1 (sRet (eP (rAnd (r1 (dIsi "str") (rV 0)) (r2 dIn (rV 0) (rC (.tuple ((["empty", "follow", "refuse"] : List Str).map PyData.str)))))))
def m_is_reference : List D → R D := fnD 2 (sSeq (sIf (eP (rOr (rNot (r1 (dIsi "tuple") (rV 1))) (rOr (r2 dNe (r1 dLen (rV 1)) (rC (.int 3))) (rNot (rCall m_is_rule (raCons (r2 dIx (rV 1) (rC (.int 2))) (raNil))))))) (sRet (eP (rC (.bool false)))) (sNil)) (sSeq (sIf (eP (rOr (rNot (rCall m_is_between (raCons (r2 dIx (rV 1) (rC (.int 0))) (raCons (rC (.int 0)) (raCons (r2 dSub (rV 0) (rC (.int 1))) (raNil)))))) (rNot (rCall m_is_between (raCons (r2 dIx (rV 1) (rC (.int 1))) (raCons (rC (.int 0)) (raCons (r2 dSub (rV 0) (rC (.int 1))) (raNil)))))))) (sRet (eP (rC (.bool false)))) (sNil)) (sRet (eP (r2 dNe (r2 dIx (rV 1) (rC (.int 0))) (r2 dIx (rV 1) (rC (.int 1))))))))
def m_is_table : List D → R D := fnD 4 (sSeq (sIf (eP (rOr (rNot (r1 (dIsi "tuple") (rV 0))) (rOr (r2 dNe (r1 dLen (rV 0)) (rC (.int 2))) (rNot (rCall m_is_between (raCons (r2 dIx (rV 0) (rC (.int 0))) (raCons (rC (.int 1)) (raCons (rC (.int 8)) (raNil))))))))) (sRet (eP (rC (.bool false)))) (sNil)) (sSeq (sAsg (eP (rV 0)) (tgT (tgCons (tgV 1) (tgCons (tgV 2) (tgNil))))) (sSeq (sIf (eP (rOr (rNot (r1 (dIsi "tuple") (rV 2))) (r2 dGt (r1 dLen (rV 2)) (rC (.int 12))))) (sRet (eP (rC (.bool false)))) (sNil)) (sSeq (sIf (eP (rNot (r1 dAll (rComp (riS (rV 2)) (tgV 3) (rYes) (rCall m_is_reference (raCons (rV 1) (raCons (rV 3) (raNil)))) [3])))) (sRet (eP (rC (.bool false)))) (sNil)) (sRet (eP (rCall m_is_ascending (raCons (rComp (riS (rV 2)) (tgV 3) (rYes) (rSl (rV 3) (roNone) (roSome (rC (.int 2)))) [3]) (raNil)))))))))
def m_check_table : List D → R D := fnD 1 (sIf (eP (rNot (rCall m_is_table (raCons (rV 0) (raNil))))) (sRaise "InvalidTable") (sNil))
def m_Desk___init__ : D → R Sl := fun d => initR (rCall m_check_table (raCons (rV 1) (raNil))) (rV 1) (rTR (riR1 (r2 dIx (rV 1) (rC (.int 0))))) (r2 dIx (rV 1) (rC (.int 1))) [none, some (.dat d)]
def m_Desk_become : List Sl → Ro := fnE 4 0 (sSeq (sDrop (eAppF 0 .done (rTup (raCons (rV 1) (raCons (rTup (raCons (rFld 0 .there) (raCons (rFld 0 .links) (raNil)))) (raNil)))))) (sSeq (sFldN 0 .undone (rLst (raNil))) (sFld2 0 (rTup (raCons (rV 2) (raCons (rV 3) (raNil)))))))
def m_Desk_check_pair : List Sl → Ro := fnE 3 0 (sSeq (sIf (eP (rOr (rNot (rCall m_is_between (raCons (rV 1) (raCons (rC (.int 0)) (raCons (rC (.int 7)) (raNil)))))) (r2 dNotIn (rV 1) (rFld 0 .there)))) (sRaise "InvalidRow") (sNil)) (sIf (eP (rOr (rNot (rCall m_is_between (raCons (rV 2) (raCons (rC (.int 0)) (raCons (rC (.int 7)) (raNil)))))) (rOr (r2 dNotIn (rV 2) (rFld 0 .there)) (r2 dEq (rV 2) (rV 1))))) (sRaise "InvalidRow") (sNil)))
def m_handled : List D → R D := fnD 3 (sSeq (sIf (eP (r2 dEq (r2 dIx (rV 2) (rC (.int 2))) (rC (.str "refuse")))) (sRet (eP (rC .none))) (sNil)) (sSeq (sIf (eP (r2 dEq (r2 dIx (rV 2) (rC (.int 2))) (rC (.str "follow")))) (sRet (eP (rTup (raCons (r1 dTuple (r1 dSorted (r2 dAdd (rV 0) (rTup (raCons (r2 dIx (rV 2) (rC (.int 0))) (raNil)))))) (raCons (rV 1) (raNil)))))) (sNil)) (sRet (eP (rTup (raCons (rV 0) (raCons (r1 dTuple (r1 dSorted (r2 dAdd (rV 1) (rTup (raCons (rV 2) (raNil)))))) (raNil))))))))
def m_open_in : List D → R D := fnD 4 (sRet (eP (rComp (riS (rV 0)) (tgV 3) (rAnd (r2 dIn (r2 dIx (rV 3) (rC (.int 1))) (rV 1)) (rAnd (r2 dNotIn (r2 dIx (rV 3) (rC (.int 0))) (rV 1)) (r2 dNotIn (rV 3) (rV 2)))) (rV 3) [3])))
def m_some_runs : List D → R D := fnD 13 (sSeq (sPar3 2 (mD (rC .none)) 3 (mD (rC .none)) 4 (mNk1 (rTup (raCons (rV 1) (raCons (rTup (raNil)) (raNil)))) (rC (.bool true)))) (sSeq (sAsg (eP (rLst (raCons (rTup (raCons (rV 1) (raCons (rTup (raNil)) (raCons (rTup (raNil)) (raNil))))) (raNil)))) (tgV 5)) (sSeq (sWhile 5000 (eP (r2 dNe (rV 5) (rLst (raNil)))) (sSeq (sPut 6 (nM (mL (rLst (raNil))))) (sSeq (sFor (riS (rV 5)) (tgT (tgCons (tgV 7) (tgCons (tgV 8) (tgCons (tgV 9) (tgNil))))) (sSeq (sAsg (eP (rCall m_open_in (raCons (rV 0) (raCons (rV 7) (raCons (rV 8) (raNil)))))) (tgV 10)) (sSeq (sIf (eP (rAnd (r2 dEq (rV 10) (rLst (raNil))) (r2 dIs (rV 2) (rC .none)))) (sAsg (eP (rV 9)) (tgV 2)) (sNil)) (sFor (riS (rV 10)) (tgV 11) (sSeq (sAsg (eP (rCall m_handled (raCons (rV 7) (raCons (rV 8) (raCons (rV 11) (raNil)))))) (tgV 12)) (sIf (eP (r2 dIs (rV 12) (rC .none))) (sAsg (eP (rIf (r2 dIsNot (rV 3) (rC .none)) (rV 3) (r2 dAdd (rV 9) (rTup (raCons (rV 11) (raNil)))))) (tgV 3)) (sIf (eP (rNk 4 (rV 12) nNotIn)) (sSeq (sNput 4 (rV 12) (rC (.bool true))) (sDrop (eApp 6 (rTup (raCons (r2 dIx (rV 12) (rC (.int 0))) (raCons (r2 dIx (rV 12) (rC (.int 1))) (raCons (r2 dAdd (rV 9) (rTup (raCons (rV 11) (raNil)))) (raNil)))))))) (sNil)))) []))) []) (sFz 6 (sAsg (eP (rV 6)) (tgV 5))))) [6, 7, 8, 9, 10, 11, 12]) (sRet (eP (rTup (raCons (rV 2) (raCons (rV 3) (raNil)))))))))
def m_verdict_of : List D → R D := fnD 4 (sSeq (sAsg (eP (rCall m_some_runs (raCons (rV 0) (raCons (rV 1) (raNil))))) (tgT (tgCons (tgV 2) (tgCons (tgV 3) (tgNil))))) (sSeq (sIf (eP (r2 dIs (rV 2) (rC .none))) (sRet (eP (rC (.str "fails")))) (sNil)) (sRet (eP (rIf (r2 dIs (rV 3) (rC .none)) (rC (.str "goes")) (rC (.str "parts")))))))
def m_Desk_could_go : List Sl → Ro := fnE 2 0 (sRet (eP (r1 dTuple (rComp (riS (rFld 0 .there)) (tgV 1) (r2 dEq (rCall m_verdict_of (raCons (rFld 0 .links) (raCons (rTup (raCons (rV 1) (raNil))) (raNil)))) (rC (.str "goes"))) (rV 1) [1]))))
def m_is_start : List D → R D := fnD 3 (sSeq (sIf (eP (rOr (rNot (r1 (dIsi "tuple") (rV 1))) (rOr (r2 dEq (rV 1) (rTup (raNil))) (rNot (r1 dAll (rComp (riS (rV 1)) (tgV 2) (rYes) (rCall m_is_between (raCons (rV 2) (raCons (rC (.int 0)) (raCons (rC (.int 7)) (raNil))))) [2])))))) (sRet (eP (rC (.bool false)))) (sNil)) (sRet (eP (rAnd (r1 dAll (rComp (riS (rV 1)) (tgV 2) (rYes) (r2 dIn (rV 2) (rV 0)) [2])) (rCall m_is_ascending (raCons (rV 1) (raNil)))))))
def m_taken_by : List D → R D := fnD 9 (sSeq (sPar2 3 (mL (r1 dList (rV 1))) 4 (mL (r1 dList (rV 1)))) (sSeq (sWhile 5000 (eP (r2 dNe (rL 4) (rLst (raNil)))) (sSeq (sAsg (ePop 4) (tgV 5)) (sFor (riS (rV 0)) (tgT (tgCons (tgV 6) (tgCons (tgV 7) (tgCons (tgV 8) (tgNil))))) (sIf (eP (rAnd (r2 dEq (rV 7) (rV 5)) (rAnd (r2 dEq (rV 8) (rC (.str "follow"))) (rAnd (r2 dNotIn (rV 6) (rL 3)) (r2 dNe (rV 6) (rV 2)))))) (sSeq (sDrop (eApp 3 (rV 6))) (sDrop (eApp 4 (rV 6)))) (sNil)) [])) [5, 6, 7, 8]) (sRet (eP (r1 dTuple (r1 dSorted (rL 3)))))))
def m_Desk_delete : List Sl → Ro := fnE 7 0 (sSeq (sIf (eP (rNot (rCall m_is_start (raCons (rFld 0 .there) (raCons (rV 1) (raNil)))))) (sRaise "InvalidStart") (sNil)) (sSeq (sIf (eP (r2 dNe (rCall m_verdict_of (raCons (rFld 0 .links) (raCons (rV 1) (raNil)))) (rC (.str "goes")))) (sRaise "Refused") (sNil)) (sSeq (sAsg (eP (rCall m_taken_by (raCons (rFld 0 .links) (raCons (rV 1) (raCons (rC .none) (raNil)))))) (tgV 2)) (sSeq (sAsg (eP (r1 dTuple (rComp (riS (rFld 0 .there)) (tgV 5) (r2 dNotIn (rV 5) (rV 2)) (rV 5) [5]))) (tgV 3)) (sSeq (sAsg (eP (r1 dTuple (rComp (riS (rFld 0 .links)) (tgV 6) (rAnd (r2 dIn (r2 dIx (rV 6) (rC (.int 0))) (rV 3)) (r2 dIn (r2 dIx (rV 6) (rC (.int 1))) (rV 3))) (rV 6) [6]))) (tgV 4)) (sSeq (sDrop (eMeth m_Desk_become 0 (a1D (rTup (raCons (rC (.str "delete")) (raCons (rV 1) (raNil)))) (a1D (rV 3) (a1D (rV 4) (a1Nil)))))) (sRet (eP (rV 2)))))))))
def m_Desk_link : List Sl → Ro := fnE 6 0 (sSeq (sDrop (eMeth m_Desk_check_pair 0 (a1D (rV 1) (a1D (rV 2) (a1Nil))))) (sSeq (sIf (eP (rNot (rCall m_is_rule (raCons (rV 3) (raNil))))) (sRaise "InvalidRule") (sNil)) (sSeq (sIf (eP (r2 dIn (rTup (raCons (rV 1) (raCons (rV 2) (raNil)))) (rComp (riS (rFld 0 .links)) (tgV 5) (rYes) (rSl (rV 5) (roNone) (roSome (rC (.int 2)))) [5]))) (sRaise "Linked") (sNil)) (sSeq (sIf (eP (r2 dEq (r1 dLen (rFld 0 .links)) (rC (.int 12)))) (sRaise "TooMany") (sNil)) (sSeq (sAsg (eP (r1 dTuple (r1 dSorted (r2 dAdd (rFld 0 .links) (rTup (raCons (rTup (raCons (rV 1) (raCons (rV 2) (raCons (rV 3) (raNil))))) (raNil))))))) (tgV 4)) (sSeq (sDrop (eMeth m_Desk_become 0 (a1D (rTup (raCons (rC (.str "link")) (raCons (rV 1) (raCons (rV 2) (raCons (rV 3) (raNil)))))) (a1D (rFld 0 .there) (a1D (rV 4) (a1Nil)))))) (sRet (eP (r1 dLen (rV 4))))))))))
def m_Desk_redo : List Sl → Ro := fnE 3 0 (sSeq (sIf (eP (r2 dEq (rFls 0 .undone) (rLst (raNil)))) (sRaise "NothingToUndo") (sNil)) (sSeq (sAsg (ePopF 0 .undone) (tgT (tgCons (tgV 1) (tgCons (tgV 2) (tgNil))))) (sSeq (sDrop (eAppF 0 .done (rTup (raCons (rV 1) (raCons (rTup (raCons (rFld 0 .there) (raCons (rFld 0 .links) (raNil)))) (raNil)))))) (sSeq (sFld2 0 (rV 2)) (sRet (eP (r2 dIx (rV 1) (rC (.int 0)))))))))
def m_Desk_references : List Sl → Ro := fnE 1 0 (sRet (eP (rFld 0 .links)))
def m_Desk_rows : List Sl → Ro := fnE 1 0 (sRet (eP (rFld 0 .there)))
def m_Desk_undo : List Sl → Ro := fnE 3 0 (sSeq (sIf (eP (r2 dEq (rFls 0 .done) (rLst (raNil)))) (sRaise "NothingToUndo") (sNil)) (sSeq (sAsg (ePopF 0 .done) (tgT (tgCons (tgV 1) (tgCons (tgV 2) (tgNil))))) (sSeq (sDrop (eAppF 0 .undone (rTup (raCons (rV 1) (raCons (rTup (raCons (rFld 0 .there) (raCons (rFld 0 .links) (raNil)))) (raNil)))))) (sSeq (sFld2 0 (rV 2)) (sRet (eP (r2 dIx (rV 1) (rC (.int 0)))))))))
def m_Desk_unlink : List Sl → Ro := fnE 5 0 (sSeq (sDrop (eMeth m_Desk_check_pair 0 (a1D (rV 1) (a1D (rV 2) (a1Nil))))) (sSeq (sIf (eP (r2 dNotIn (rTup (raCons (rV 1) (raCons (rV 2) (raNil)))) (rComp (riS (rFld 0 .links)) (tgV 4) (rYes) (rSl (rV 4) (roNone) (roSome (rC (.int 2)))) [4]))) (sRaise "NotLinked") (sNil)) (sSeq (sAsg (eP (r1 dTuple (rComp (riS (rFld 0 .links)) (tgV 4) (r2 dNe (rSl (rV 4) (roNone) (roSome (rC (.int 2)))) (rTup (raCons (rV 1) (raCons (rV 2) (raNil))))) (rV 4) [4]))) (tgV 3)) (sSeq (sDrop (eMeth m_Desk_become 0 (a1D (rTup (raCons (rC (.str "unlink")) (raCons (rV 1) (raCons (rV 2) (raNil))))) (a1D (rFld 0 .there) (a1D (rV 3) (a1Nil)))))) (sRet (eP (r1 dLen (rV 3))))))))
def m__law_is : List D → R D := fnD 2 (sRet (eP (rAnd (r1 (dIsi "bool") (rV 0)) (r2 dEq (rV 0) (rV 1)))))
def m__law_bounds : List D → R D := fnD 6 (sSeq (sFor (riS (rTup (raCons (rTup (raCons (rC (.int 1)) (raCons (rTup (raNil)) (raNil)))) (raCons (rTup (raCons (rC (.int 8)) (raCons (rTup (raNil)) (raNil)))) (raCons (rTup (raCons (rC (.int 2)) (raCons (rTup (raCons (rTup (raCons (rC (.int 0)) (raCons (rC (.int 1)) (raCons (rC (.str "empty")) (raNil))))) (raCons (rTup (raCons (rC (.int 1)) (raCons (rC (.int 0)) (raCons (rC (.str "refuse")) (raNil))))) (raNil)))) (raNil)))) (raNil)))))) (tgV 0) (sIf (eP (rNot (rCall m__law_is (raCons (rCall m_is_table (raCons (rV 0) (raNil))) (raCons (rC (.bool true)) (raNil)))))) (sRet (eP (rC (.bool false)))) (sNil)) [0]) (sSeq (sPut 1 (nM (mL (rLst (raCons (rTup (raCons (rC (.int 0)) (raCons (rTup (raNil)) (raNil)))) (raCons (rTup (raCons (rC (.int 9)) (raCons (rTup (raNil)) (raNil)))) (raCons (rTup (raCons (rC (.int 1)) (raCons (rTup (raCons (rTup (raCons (rC (.int 0)) (raCons (rC (.int 0)) (raCons (rC (.str "empty")) (raNil))))) (raNil))) (raNil)))) (raCons (rTup (raCons (rC (.int 2)) (raCons (rTup (raCons (rTup (raCons (rC (.int 0)) (raCons (rC (.int 2)) (raCons (rC (.str "empty")) (raNil))))) (raNil))) (raNil)))) (raCons (rTup (raCons (rC (.int 2)) (raCons (rTup (raCons (rTup (raCons (rC (.int 0)) (raCons (rC (.int 1)) (raCons (rC (.str "Empty")) (raNil))))) (raNil))) (raNil)))) (raCons (rC .none) (raCons (rTup (raCons (rC (.int 1)) (raNil))) (raCons (rC (.int 2)) (raNil))))))))))))) (sSeq (sPut 1 (nM (mL (r2 dCat (rL 1) (rLst (raCons (rTup (raCons (rC (.int 2)) (raCons (rTup (raCons (rTup (raCons (rC (.int 0)) (raCons (rC (.int 1)) (raCons (rC (.str "empty")) (raNil))))) (raCons (rTup (raCons (rC (.int 0)) (raCons (rC (.int 1)) (raCons (rC (.str "follow")) (raNil))))) (raNil)))) (raNil)))) (raCons (rTup (raCons (rC (.int 2)) (raCons (rTup (raCons (rTup (raCons (rC (.int 1)) (raCons (rC (.int 0)) (raCons (rC (.str "empty")) (raNil))))) (raCons (rTup (raCons (rC (.int 0)) (raCons (rC (.int 1)) (raCons (rC (.str "empty")) (raNil))))) (raNil)))) (raNil)))) (raCons (rLst (raCons (rC (.int 1)) (raCons (rTup (raNil)) (raNil)))) (raCons (rTup (raCons (rC (.int 1)) (raCons (rLst (raNil)) (raNil)))) (raNil)))))))))) (sSeq (sPut 1 (nM (mL (r2 dCat (rL 1) (rLst (raCons (rTup (raCons (rC (.bool true)) (raCons (rTup (raNil)) (raNil)))) (raCons (rTup (raCons (rC (.int 2)) (raCons (rTup (raCons (rTup (raCons (rC (.bool false)) (raCons (rC (.int 1)) (raCons (rC (.str "empty")) (raNil))))) (raNil))) (raNil)))) (raCons (rTup (raCons (rC (.int 2)) (raCons (rTup (raCons (rLst (raCons (rC (.int 0)) (raCons (rC (.int 1)) (raCons (rC (.str "empty")) (raNil))))) (raNil))) (raNil)))) (raCons (rTup (raCons (rC (.int 2)) (raCons (rTup (raCons (rTup (raCons (rC (.int 0)) (raCons (rC (.int 1)) (raNil)))) (raNil))) (raNil)))) (raNil)))))))))) (sSeq (sDrop (eApp 1 (rTup (raCons (rC (.int 2)) (raCons (rTup (raCons (rTup (raCons (rC (.int 0)) (raCons (rC (.int 1)) (raCons (rC .none) (raNil))))) (raNil))) (raNil)))))) (sSeq (sPut 2 (nM (mL (rLst (raNil))))) (sSeq (sFor (riR1 (rC (.int 4))) (tgV 3) (sDrop (eExt 2 (rComp (riR1 (rC (.int 5))) (tgV 5) (r2 dNe (rV 5) (rV 3)) (rTup (raCons (rV 3) (raCons (rV 5) (raCons (rC (.str "empty")) (raNil))))) [5]))) [3]) (sSeq (sIf (eP (rNot (rCall m__law_is (raCons (rCall m_is_table (raCons (rTup (raCons (rC (.int 5)) (raCons (r1 dTuple (rSl (rL 2) (roNone) (roSome (rC (.int 12))))) (raNil)))) (raNil))) (raCons (rC (.bool true)) (raNil)))))) (sRet (eP (rC (.bool false)))) (sNil)) (sSeq (sIf (eP (rNot (rCall m__law_is (raCons (rCall m_is_table (raCons (rTup (raCons (rC (.int 5)) (raCons (r1 dTuple (rSl (rL 2) (roNone) (roSome (rC (.int 13))))) (raNil)))) (raNil))) (raCons (rC (.bool false)) (raNil)))))) (sRet (eP (rC (.bool false)))) (sNil)) (sFz 1 (sRet (eP (r2 dEq (rComp (riS (rV 1)) (tgV 4) (rNot (rCall m__law_is (raCons (rCall m_is_table (raCons (rV 4) (raNil))) (raCons (rC (.bool false)) (raNil))))) (rV 4) [4]) (rLst (raNil)))))))))))))))
def m__law_call : List Sl → Ro := fnE 2 0 (sSeq (sIf (eP (r2 dEq (r2 dIx (rV 1) (rC (.int 0))) (rC (.str "delete")))) (sRet (eMeth m_Desk_delete 0 (a1D (r2 dIx (rV 1) (rC (.int 1))) (a1Nil)))) (sNil)) (sSeq (sIf (eP (r2 dEq (r2 dIx (rV 1) (rC (.int 0))) (rC (.str "link")))) (sRet (eMeth m_Desk_link 0 (a1D (r2 dIx (rV 1) (rC (.int 1))) (a1D (r2 dIx (rV 1) (rC (.int 2))) (a1D (r2 dIx (rV 1) (rC (.int 3))) (a1Nil)))))) (sNil)) (sRet (eMeth m_Desk_unlink 0 (a1D (r2 dIx (rV 1) (rC (.int 1))) (a1D (r2 dIx (rV 1) (rC (.int 2))) (a1Nil)))))))
def m_are_changes : List D → R D := fnD 3 (sSeq (sIf (eP (rOr (rNot (r1 (dIsi "tuple") (rV 1))) (rNot (r1 dAll (rComp (riS (rV 1)) (tgV 2) (rYes) (rAnd (r1 (dIsi "tuple") (rV 2)) (r2 dEq (r1 dLen (rV 2)) (rC (.int 2)))) [2]))))) (sRet (eP (rC (.bool false)))) (sNil)) (sSeq (sIf (eP (rNot (r1 dAll (rComp (riS (rV 1)) (tgV 2) (rYes) (rAnd (rCall m_is_between (raCons (r2 dIx (rV 2) (rC (.int 0))) (raCons (rC (.int 0)) (raCons (r2 dSub (r1 dLen (r2 dIx (rV 0) (rC (.int 1)))) (rC (.int 1))) (raNil))))) (rCall m_is_rule (raCons (r2 dIx (rV 2) (rC (.int 1))) (raNil)))) [2])))) (sRet (eP (rC (.bool false)))) (sNil)) (sRet (eP (rAnd (rCall m_is_ascending (raCons (rComp (riS (rV 1)) (tgV 2) (rYes) (r2 dIx (rV 2) (rC (.int 0))) [2]) (raNil))) (r1 dAll (rComp (riS (rV 1)) (tgV 2) (rYes) (r2 dNe (r2 dIx (r2 dIx (r2 dIx (rV 0) (rC (.int 1))) (r2 dIx (rV 2) (rC (.int 0)))) (rC (.int 2))) (r2 dIx (rV 2) (rC (.int 1)))) [2])))))))
def m_changed_to : List D → R D := fnD 8 (sSeq (sAsg (eP (r1 dDictP (rV 1))) (tgV 2)) (sSeq (sAsg (eP (rLE (r2 dIx (rV 0) (rC (.int 1))))) (tgV 3)) (sRet (eP (rTup (raCons (r2 dIx (rV 0) (rC (.int 0))) (raCons (r1 dTuple (rComp (riS (rV 3)) (tgT (tgCons (tgV 4) (tgCons (tgT (tgCons (tgV 5) (tgCons (tgV 6) (tgCons (tgV 7) (tgNil))))) (tgNil)))) (rYes) (rTup (raCons (rV 5) (raCons (rV 6) (raCons (rGetK (rV 2) (rV 4) (rV 7)) (raNil))))) [4, 5, 6, 7])) (raNil))))))))
def m_changed : List D → R D := fnD 2 (sSeq (sDrop (eP (rCall m_check_table (raCons (rV 0) (raNil))))) (sSeq (sIf (eP (rNot (rCall m_are_changes (raCons (rV 0) (raCons (rV 1) (raNil)))))) (sRaise "InvalidChanges") (sNil)) (sRet (eP (rCall m_changed_to (raCons (rV 0) (raCons (rV 1) (raNil))))))))
def m_check_start : List D → R D := fnD 2 (sSeq (sDrop (eP (rCall m_check_table (raCons (rV 0) (raNil))))) (sIf (eP (rNot (rCall m_is_start (raCons (rLR (riR1 (r2 dIx (rV 0) (rC (.int 0))))) (raCons (rV 1) (raNil)))))) (sRaise "InvalidStart") (sNil)))
def m_fewest_changes : List D → R D := fnD 9 (sSeq (sDrop (eP (rCall m_check_start (raCons (rV 0) (raCons (rV 1) (raNil)))))) (sSeq (sAsg (eP (rLst (raCons (rTup (raNil)) (raNil)))) (tgV 2)) (sSeq (sFor (riR1 (rC (.int 4))) (tgV 3) (sSeq (sFor (riS (rV 2)) (tgV 4) (sIf (eP (r2 dEq (rCall m_verdict_of (raCons (r2 dIx (rCall m_changed_to (raCons (rV 0) (raCons (rV 4) (raNil)))) (rC (.int 1))) (raCons (rV 1) (raNil)))) (rC (.str "goes")))) (sRet (eP (rV 4))) (sNil)) []) (sSeq (sPut 5 (nM (mL (rLst (raNil))))) (sSeq (sFor (riS (rV 2)) (tgV 4) (sSeq (sAsg (eP (rIf (r2 dNe (rV 4) (rTup (raNil))) (r2 dAdd (r2 dIx (r2 dIx (rV 4) (r1 dNeg (rC (.int 1)))) (rC (.int 0))) (rC (.int 1))) (rC (.int 0)))) (tgV 6)) (sFor (riR2 (rV 6) (r1 dLen (r2 dIx (rV 0) (rC (.int 1))))) (tgV 7) (sDrop (eExt 5 (rComp (riS (rC (.tuple ((["empty", "follow", "refuse"] : List Str).map PyData.str)))) (tgV 8) (r2 dNe (rV 8) (r2 dIx (r2 dIx (r2 dIx (rV 0) (rC (.int 1))) (rV 7)) (rC (.int 2)))) (r2 dAdd (rV 4) (rTup (raCons (rTup (raCons (rV 7) (raCons (rV 8) (raNil)))) (raNil)))) [8]))) [])) []) (sFz 5 (sAsg (eP (rV 5)) (tgV 2)))))) [3, 4, 5, 6, 7]) (sRaise "TooMany"))))
def m_verdict : List D → R D := fnD 2 (sSeq (sDrop (eP (rCall m_check_start (raCons (rV 0) (raCons (rV 1) (raNil)))))) (sRet (eP (rCall m_verdict_of (raCons (r2 dIx (rV 0) (rC (.int 1))) (raCons (rV 1) (raNil)))))))
def m__law_calmed : List D → R D := fnD 7 (sSeq (sAsg (eP (rLam csL (rCall m_fewest_changes (raCons (rV 0) (raCons (rV 1) (raNil)))))) (tgV 2)) (sSeq (sIf (eP (r2 dEq (r2 dIx (rV 2) (rC (.int 0))) (rC (.str "returns")))) (sSeq (sAsg (eP (r2 dIx (rV 2) (rC (.int 1)))) (tgV 3)) (sSeq (sIf (eP (r2 dNe (rCall m_verdict (raCons (rCall m_changed (raCons (rV 0) (raCons (rV 3) (raNil)))) (raCons (rV 1) (raNil)))) (rC (.str "goes")))) (sRet (eP (rC (.bool false)))) (sNil)) (sSeq (sIf (eP (r2 dNe (r2 dEq (rV 3) (rTup (raNil))) (r2 dEq (rCall m_verdict (raCons (rV 0) (raCons (rV 1) (raNil)))) (rC (.str "goes"))))) (sRet (eP (rC (.bool false)))) (sNil)) (sFor (riR1 (r1 dLen (rV 3))) (tgV 4) (sIf (eP (r2 dEq (rCall m_verdict (raCons (rCall m_changed (raCons (rV 0) (raCons (r2 dAdd (rSl (rV 3) (roNone) (roSome (rV 4))) (rSl (rV 3) (roSome (r2 dAdd (rV 4) (rC (.int 1)))) (roNone))) (raNil)))) (raCons (rV 1) (raNil)))) (rC (.str "goes")))) (sRet (eP (rC (.bool false)))) (sNil)) [])))) (sNil)) (sSeq (sAsg (eP (r1 dTuple (rComp (riEnum (r2 dIx (rV 0) (rC (.int 1)))) (tgT (tgCons (tgV 4) (tgCons (tgV 6) (tgNil)))) (r2 dEq (r2 dIx (rV 6) (rC (.int 2))) (rC (.str "refuse"))) (rTup (raCons (rV 4) (raCons (rC (.str "empty")) (raNil)))) [4, 6]))) (tgV 5)) (sSeq (sIf (eP (rOr (r2 dNe (rCall m_verdict (raCons (rCall m_changed (raCons (rV 0) (raCons (rV 5) (raNil)))) (raCons (rV 1) (raNil)))) (rC (.str "goes"))) (rAnd (r2 dEq (rV 2) (rTup (raCons (rC (.str "many")) (raNil)))) (r2 dLt (r1 dLen (rV 5)) (rC (.int 4)))))) (sRet (eP (rC (.bool false)))) (sNil)) (sRet (eP (rC (.bool true))))))))
def m__law_chain : List D → R D := fnD 3 (sRet (eP (rTup (raCons (rV 0) (raCons (r1 dTuple (rComp (riR1 (r2 dSub (rV 0) (rC (.int 1)))) (tgV 2) (rYes) (rTup (raCons (r2 dAdd (rV 2) (rC (.int 1))) (raCons (rV 2) (raCons (rV 1) (raNil))))) [2])) (raNil))))))
def m_needs_of : List D → R D := fnD 6 (sSeq (sPut 1 (nM (mL (rLst (raNil))))) (sSeq (sFor (riR1 (r2 dIx (rV 0) (rC (.int 0)))) (tgV 2) (sDrop (eApp 1 (rComp (riS (r2 dIx (rV 0) (rC (.int 1)))) (tgT (tgCons (tgV 3) (tgCons (tgV 4) (tgCons (tgV 5) (tgNil))))) (rAnd (r2 dEq (rV 3) (rV 2)) (r2 dNe (rV 5) (rC (.str "empty")))) (rV 4) [3, 4, 5]))) [2]) (sFz 1 (sRet (eP (rV 1))))))
def m_count_orders : List D → R D := fnD 9 (sSeq (sDrop (eP (rCall m_check_table (raCons (rV 0) (raNil))))) (sSeq (sPar2 1 (mD (rCall m_needs_of (raCons (rV 0) (raNil)))) 2 (mNk1 (rTup (raNil)) (rC (.int 1)))) (sSeq (sFor (riR1 (r2 dIx (rV 0) (rC (.int 0)))) (tgV 3) (sSeq (sPut 4 (nM (mNk0))) (sSeq (sForN 2 (tgV 5) (sFor (riR1 (r2 dIx (rV 0) (rC (.int 0)))) (tgV 6) (sIf (eP (rAnd (r2 dNotIn (rV 6) (rV 5)) (r1 dAll (rComp (riS (r2 dIx (rV 1) (rV 6))) (tgV 8) (rYes) (r2 dIn (rV 8) (rV 5)) [8])))) (sSeq (sAsg (eP (r1 dTuple (r1 dSorted (r2 dAdd (rV 5) (rTup (raCons (rV 6) (raNil))))))) (tgV 7)) (sNput 4 (rV 7) (r2 dAdd (rNgetD 4 (rV 7) (rC (.int 0))) (rNk 2 (rV 5) nIx)))) (sNil)) []) []) (sMv 2 4))) [3, 4, 5, 6, 7]) (sRet (eP (r1 dSum (rNvals 2)))))))
def m_counted : Nat → List Sl → Ro
  | 0 => fun _ => .bad
  | n + 1 => fnE 10 3 (sSeq (sIf (eP (rNk 3 (rTup (raCons (rV 1) (raCons (rV 2) (raNil)))) nNotIn)) (sSeq (sAsg (eP (rCall m_open_in (raCons (rV 0) (raCons (rV 1) (raCons (rV 2) (raNil)))))) (tgV 4)) (sSeq (sPar2 5 (mD (rIf (r2 dEq (rV 4) (rLst (raNil))) (rC (.int 1)) (rC (.int 0)))) 6 (mD (rC (.int 0)))) (sSeq (sFor (riS (rV 4)) (tgV 7) (sSeq (sAsg (eP (rCall m_handled (raCons (rV 1) (raCons (rV 2) (raCons (rV 7) (raNil)))))) (tgV 8)) (sSeq (sAsg (eIf (eP (r2 dIs (rV 8) (rC .none))) (eP (rTup (raCons (rC (.int 0)) (raCons (rC (.int 1)) (raNil))))) (eCallE (m_counted n) 3 (a1D (rV 0) (a1D (r2 dIx (rV 8) (rC (.int 0))) (a1D (r2 dIx (rV 8) (rC (.int 1))) (a1O 3 (a1Nil))))))) (tgV 9)) (sPar2 5 (mD (r2 dAdd (rV 5) (r2 dIx (rV 9) (rC (.int 0))))) 6 (mD (r2 dAdd (rV 6) (r2 dIx (rV 9) (rC (.int 1)))))))) [7, 8, 9]) (sNput 3 (rTup (raCons (rV 1) (raCons (rV 2) (raNil)))) (rTup (raCons (rV 5) (raCons (rV 6) (raNil)))))))) (sNil)) (sRet (eP (rNk 3 (rTup (raCons (rV 1) (raCons (rV 2) (raNil)))) nIx))))
def m_count_runs : List D → R D := fnD 2 (sSeq (sDrop (eP (rCall m_check_start (raCons (rV 0) (raCons (rV 1) (raNil)))))) (sRet (eP (rCallN (m_counted 20) (raCons (r2 dIx (rV 0) (rC (.int 1))) (raCons (rV 1) (raCons (rTup (raNil)) (raNil))))))))
def m_emptied : List D → R D := fnD 4 (sSeq (sDrop (eP (rCall m_check_start (raCons (rV 0) (raCons (rV 1) (raNil)))))) (sSeq (sAsg (eP (rCall m_taken_by (raCons (r2 dIx (rV 0) (rC (.int 1))) (raCons (rV 1) (raCons (rC .none) (raNil)))))) (tgV 2)) (sRet (eP (r1 dTuple (rComp (riS (r2 dIx (rV 0) (rC (.int 1)))) (tgV 3) (rAnd (r2 dEq (r2 dIx (rV 3) (rC (.int 2))) (rC (.str "empty"))) (rAnd (r2 dIn (r2 dIx (rV 3) (rC (.int 1))) (rV 2)) (r2 dNotIn (r2 dIx (rV 3) (rC (.int 0))) (rV 2)))) (rV 3) [3]))))))
def m_order_of : List D → R D := fnD 7 (sSeq (sPar2 1 (mD (rCall m_needs_of (raCons (rV 0) (raNil)))) 2 (mD (rTup (raNil)))) (sSeq (sAsg (eP (rLR (riR1 (r2 dIx (rV 0) (rC (.int 0)))))) (tgV 3)) (sSeq (sAsg (eP (rComp (riS (rV 3)) (tgV 5) (r2 dEq (r2 dIx (rV 1) (rV 5)) (rLst (raNil))) (rV 5) [5])) (tgV 4)) (sSeq (sWhile 5000 (eP (r2 dNe (rV 4) (rLst (raNil)))) (sSeq (sAsg (eP (r2 dAdd (rV 2) (rTup (raCons (r2 dIx (rV 4) (rC (.int 0))) (raNil))))) (tgV 2)) (sAsg (eP (rComp (riS (rV 3)) (tgV 5) (rAnd (r2 dNotIn (rV 5) (rV 2)) (r1 dAll (rComp (riS (r2 dIx (rV 1) (rV 5))) (tgV 6) (rYes) (r2 dIn (rV 6) (rV 2)) [6]))) (rV 5) [5])) (tgV 4))) []) (sRet (eP (rV 2)))))))
def m_first_order : List D → R D := fnD 2 (sSeq (sDrop (eP (rCall m_check_table (raCons (rV 0) (raNil))))) (sSeq (sAsg (eP (rCall m_order_of (raCons (rV 0) (raNil)))) (tgV 1)) (sRet (eP (rIf (r2 dEq (r1 dLen (rV 1)) (r2 dIx (rV 0) (rC (.int 0)))) (rV 1) (rC .none))))))
def m_check_row : List D → R D := fnD 2 (sIf (eP (rNot (rCall m_is_between (raCons (rV 1) (raCons (rC (.int 0)) (raCons (r2 dSub (r2 dIx (rV 0) (rC (.int 0))) (rC (.int 1))) (raNil))))))) (sRaise "InvalidRow") (sNil))
def m_comes_earlier : List D → R D := fnD 5 (sSeq (sAsg (eP (rCall m_taken_by (raCons (rV 0) (raCons (rV 1) (raCons (rC .none) (raNil)))))) (tgV 4)) (sSeq (sIf (eP (rOr (r2 dNotIn (rV 3) (rV 4)) (rOr (r2 dIn (rV 3) (rV 1)) (rOr (r2 dEq (rV 2) (rV 3)) (r2 dNotIn (rV 2) (rV 4)))))) (sRet (eP (rC (.bool false)))) (sNil)) (sRet (eP (rOr (r2 dIn (rV 2) (rV 1)) (r2 dNotIn (rV 3) (rCall m_taken_by (raCons (rV 0) (raCons (rV 1) (raCons (rV 2) (raNil)))))))))))
def m_is_earlier : List D → R D := fnD 4 (sSeq (sDrop (eP (rCall m_check_start (raCons (rV 0) (raCons (rV 1) (raNil)))))) (sSeq (sDrop (eP (rCall m_check_row (raCons (rV 0) (raCons (rV 2) (raNil)))))) (sSeq (sDrop (eP (rCall m_check_row (raCons (rV 0) (raCons (rV 3) (raNil)))))) (sRet (eP (rCall m_comes_earlier (raCons (r2 dIx (rV 0) (rC (.int 1))) (raCons (rV 1) (raCons (rV 2) (raCons (rV 3) (raNil)))))))))))
def m_left : List D → R D := fnD 9 (sSeq (sDrop (eP (rCall m_check_start (raCons (rV 0) (raCons (rV 1) (raNil)))))) (sSeq (sAsg (eP (rCall m_taken_by (raCons (r2 dIx (rV 0) (rC (.int 1))) (raCons (rV 1) (raCons (rC .none) (raNil)))))) (tgV 2)) (sSeq (sAsg (eP (rComp (riR1 (r2 dIx (rV 0) (rC (.int 0)))) (tgV 5) (r2 dNotIn (rV 5) (rV 2)) (rV 5) [5])) (tgV 3)) (sSeq (sIf (eP (r2 dEq (rV 3) (rLst (raNil)))) (sRaise "Empty") (sNil)) (sSeq (sAsg (eP (rComp (riS (r2 dIx (rV 0) (rC (.int 1)))) (tgV 6) (rAnd (r2 dIn (r2 dIx (rV 6) (rC (.int 0))) (rV 3)) (r2 dIn (r2 dIx (rV 6) (rC (.int 1))) (rV 3))) (rV 6) [6])) (tgV 4)) (sRet (eP (rTup (raCons (r1 dLen (rV 3)) (raCons (r1 dTuple (rComp (riS (rV 4)) (tgT (tgCons (tgV 6) (tgCons (tgV 7) (tgCons (tgV 8) (tgNil))))) (rYes) (rTup (raCons (rIndex (rV 3) (rV 6)) (raCons (rIndex (rV 3) (rV 7)) (raCons (rV 8) (raNil))))) [6, 7, 8])) (raNil)))))))))))
def m_needed : List D → R D := fnD 8 (sSeq (sDrop (eP (rCall m_check_table (raCons (rV 0) (raNil))))) (sSeq (sDrop (eP (rCall m_check_row (raCons (rV 0) (raCons (rV 1) (raNil)))))) (sSeq (sPar2 2 (mL (rLst (raCons (rV 1) (raNil)))) 3 (mL (rLst (raCons (rV 1) (raNil))))) (sSeq (sWhile 5000 (eP (r2 dNe (rL 3) (rLst (raNil)))) (sSeq (sAsg (ePop 3) (tgV 4)) (sFor (riS (r2 dIx (rV 0) (rC (.int 1)))) (tgT (tgCons (tgV 5) (tgCons (tgV 6) (tgCons (tgV 7) (tgNil))))) (sIf (eP (rAnd (r2 dEq (rV 6) (rV 4)) (rAnd (r2 dNe (rV 7) (rC (.str "empty"))) (r2 dNotIn (rV 5) (rL 2))))) (sSeq (sDrop (eApp 2 (rV 5))) (sDrop (eApp 3 (rV 5)))) (sNil)) [])) [4, 5, 6, 7]) (sRet (eP (r1 dTuple (r1 dSorted (rL 2)))))))))
def m_sure_starts : List D → R D := fnD 7 (sSeq (sAsg (eP (rLst (raCons (rTup (raCons (rV 1) (raNil))) (raNil)))) (tgV 2)) (sSeq (sFor (riR1 (r2 dIx (rV 0) (rC (.int 0)))) (tgV 3) (sIf (eP (r2 dNe (rV 3) (rV 1))) (sAsg (eP (r2 dAdd (rV 2) (rComp (riS (rV 2)) (tgV 6) (rYes) (r2 dAdd (rV 6) (rTup (raCons (rV 3) (raNil)))) [6]))) (tgV 2)) (sNil)) [3]) (sSeq (sAsg (eP (r1 dSorted (rComp (riS (rV 2)) (tgV 6) (rYes) (rTup (raCons (r1 dLen (rV 6)) (raCons (r1 dTuple (r1 dSorted (rV 6))) (raNil)))) [6]))) (tgV 4)) (sRet (eP (rComp (riS (rV 4)) (tgT (tgCons (tgV 5) (tgCons (tgV 6) (tgNil)))) (r2 dEq (rCall m_verdict_of (raCons (r2 dIx (rV 0) (rC (.int 1))) (raCons (rV 6) (raNil)))) (rC (.str "goes"))) (rV 6) [5, 6]))))))
def m_smallest_start : List D → R D := fnD 2 (sSeq (sDrop (eP (rCall m_check_table (raCons (rV 0) (raNil))))) (sSeq (sDrop (eP (rCall m_check_row (raCons (rV 0) (raCons (rV 1) (raNil)))))) (sRet (eP (r2 dIx (rCall m_sure_starts (raCons (rV 0) (raCons (rV 1) (raNil)))) (rC (.int 0)))))))
def m_steps : List D → R D := fnD 7 (sSeq (sDrop (eP (rCall m_check_table (raCons (rV 0) (raNil))))) (sSeq (sPar3 1 (mD (rCall m_needs_of (raCons (rV 0) (raNil)))) 2 (mL (rLst (raNil))) 3 (mD (rLst (raNil)))) (sSeq (sWhile 5000 (eP (r2 dLt (r1 dLen (rV 3)) (r2 dIx (rV 0) (rC (.int 0))))) (sSeq (sAsg (eP (rComp (riR1 (r2 dIx (rV 0) (rC (.int 0)))) (tgV 5) (rAnd (r2 dNotIn (rV 5) (rV 3)) (r1 dAll (rComp (riS (r2 dIx (rV 1) (rV 5))) (tgV 6) (rYes) (r2 dIn (rV 6) (rV 3)) [6]))) (rV 5) [5])) (tgV 4)) (sSeq (sIf (eP (r2 dEq (rV 4) (rLst (raNil)))) (sRaise "Circular") (sNil)) (sSeq (sDrop (eApp 2 (r1 dTuple (rV 4)))) (sAsg (eP (r2 dAdd (rV 3) (rV 4))) (tgV 3))))) [4]) (sRet (eP (r1 dTuple (rL 2)))))))
def m_taken : List D → R D := fnD 2 (sSeq (sDrop (eP (rCall m_check_start (raCons (rV 0) (raCons (rV 1) (raNil)))))) (sRet (eP (rCall m_taken_by (raCons (r2 dIx (rV 0) (rC (.int 1))) (raCons (rV 1) (raCons (rC .none) (raNil))))))))
def m__law_chains : List D → R D := fnD 6 (sSeq (sPar3 1 (mD (rCall m__law_chain (raCons (rV 0) (raCons (rC (.str "follow")) (raNil))))) 2 (mD (rCall m__law_chain (raCons (rV 0) (raCons (rC (.str "refuse")) (raNil))))) 3 (mD (rCall m__law_chain (raCons (rV 0) (raCons (rC (.str "empty")) (raNil)))))) (sSeq (sAsg (eP (rTR (riR1 (rV 0)))) (tgV 4)) (sSeq (sIf (eP (rOr (r2 dNe (rCall m_taken (raCons (rV 1) (raCons (rTup (raCons (rC (.int 0)) (raNil))) (raNil)))) (rV 4)) (rOr (r2 dNe (rCall m_verdict (raCons (rV 1) (raCons (rTup (raCons (rC (.int 0)) (raNil))) (raNil)))) (rC (.str "goes"))) (r2 dNe (rCall m_count_runs (raCons (rV 1) (raCons (rTup (raCons (rC (.int 0)) (raNil))) (raNil)))) (rTup (raCons (rC (.int 1)) (raCons (rC (.int 0)) (raNil)))))))) (sRet (eP (rC (.bool false)))) (sNil)) (sSeq (sIf (eP (rOr (r2 dNe (rCall m_verdict (raCons (rV 2) (raCons (rTup (raCons (rC (.int 0)) (raNil))) (raNil)))) (rC (.str "fails"))) (rOr (r2 dNe (rCall m_smallest_start (raCons (rV 2) (raCons (rC (.int 0)) (raNil)))) (rV 4)) (r2 dNe (rCall m_taken (raCons (rV 2) (raCons (rTup (raCons (rC (.int 0)) (raNil))) (raNil)))) (rTup (raCons (rC (.int 0)) (raNil))))))) (sRet (eP (rC (.bool false)))) (sNil)) (sSeq (sIf (eP (rOr (r2 dNe (rCall m_needed (raCons (rV 2) (raCons (rC (.int 0)) (raNil)))) (rV 4)) (rOr (r2 dNe (rCall m_fewest_changes (raCons (rV 2) (raCons (rTup (raCons (rC (.int 0)) (raNil))) (raNil)))) (rTup (raCons (rTup (raCons (rC (.int 0)) (raCons (rC (.str "empty")) (raNil)))) (raNil)))) (r2 dNe (rCall m_needed (raCons (rV 3) (raCons (rC (.int 0)) (raNil)))) (rTup (raCons (rC (.int 0)) (raNil))))))) (sRet (eP (rC (.bool false)))) (sNil)) (sSeq (sIf (eP (rOr (r2 dNe (rCall m_emptied (raCons (rV 3) (raCons (rTup (raCons (rC (.int 0)) (raNil))) (raNil)))) (rTup (raCons (rTup (raCons (rC (.int 1)) (raCons (rC (.int 0)) (raCons (rC (.str "empty")) (raNil))))) (raNil)))) (r2 dNe (rCall m_left (raCons (rV 3) (raCons (rTup (raCons (rC (.int 0)) (raNil))) (raNil)))) (rCall m__law_chain (raCons (r2 dSub (rV 0) (rC (.int 1))) (raCons (rC (.str "empty")) (raNil))))))) (sRet (eP (rC (.bool false)))) (sNil)) (sSeq (sIf (eP (r2 dNe (rCall m_first_order (raCons (rV 1) (raNil))) (rV 4))) (sRet (eP (rC (.bool false)))) (sNil)) (sSeq (sIf (eP (r2 dNe (rCall m_count_orders (raCons (rV 2) (raNil))) (rC (.int 1)))) (sRet (eP (rC (.bool false)))) (sNil)) (sSeq (sIf (eP (r2 dNe (rCall m_steps (raCons (rV 1) (raNil))) (r1 dTuple (rComp (riS (rV 4)) (tgV 5) (rYes) (rTup (raCons (rV 5) (raNil))) [5])))) (sRet (eP (rC (.bool false)))) (sNil)) (sRet (eP (rAnd (rCall m_is_earlier (raCons (rV 1) (raCons (rTup (raCons (rC (.int 0)) (raNil))) (raCons (rC (.int 0)) (raCons (r2 dSub (rV 0) (rC (.int 1))) (raNil)))))) (rNot (rCall m_is_earlier (raCons (rV 1) (raCons (rTup (raCons (rC (.int 0)) (raNil))) (raCons (r2 dSub (rV 0) (rC (.int 1))) (raCons (rC (.int 0)) (raNil)))))))))))))))))))
def m__law_closed : List D → R D := fnD 9 (sSeq (sAsg (eP (r1 dList (rV 1))) (tgV 4)) (sSeq (sFor (riR1 (rC (.int 8))) (tgV 5) (sSeq (sAsg (eP (rComp (riS (r2 dIx (rV 0) (rC (.int 1)))) (tgV 7) (rAnd (r2 dIn (r2 dIx (rV 7) (rC (.int 1))) (rV 4)) (r2 dIn (r2 dIx (rV 7) (rC (.int 2))) (rV 2))) (r2 dIx (rV 7) (rC (.int 0))) [7])) (tgV 6)) (sAsg (eP (r1 dSortSet (r2 dAdd (rV 4) (rComp (riS (rV 6)) (tgV 8) (r2 dNe (rV 8) (rV 3)) (rV 8) [8])))) (tgV 4))) [5, 6]) (sRet (eP (r1 dTuple (rV 4))))))
def m__law_draw : List Sl → Ro := fnE 6 1 (sSeq (sTcnt 1 (r2 dAdd (rTown 1 fun n _ => .ok (.int n)) (rC (.int 1)))) (sSeq (sAsg (eP (rIf (rScr 0 fun ns => .ok (.bool (!ns.isEmpty))) (r2 dMod (rTown 1 fun n _ => .ok (.int n)) (rScr 0 fun ns => .ok (.int ns.length))) (rC (.int 0)))) (tgV 3)) (sSeq (sAsg (eP (rTget 1 (rV 3) (rIf (rScr 0 fun ns => .ok (.bool (!ns.isEmpty))) (rSix 0 (rV 3)) (rC (.int 0))))) (tgV 4)) (sSeq (sIf (eP (r2 dGe (rV 4) (r2 dPow (rC (.int 10)) (rC (.int 18))))) (sSeq (sTrest 1 (rV 3) (r2 dFdiv (rV 4) (rV 2))) (sRet (eP (r2 dMod (rV 4) (rV 2))))) (sNil)) (sSeq (sAsg (eP (r2 dMod (r2 dAdd (rV 4) (r2 dMul (rC (.int 104729)) (rTown 1 fun n _ => .ok (.int n)))) (rC (.int 4294967291)))) (tgV 5)) (sSeq (sAsg (eP (r2 dMod (r2 dPow (rV 5) (rC (.int 5))) (rC (.int 4294967279)))) (tgV 5)) (sRet (eP (r2 dMod (r2 dFdiv (r2 dMod (r2 dAdd (r2 dMul (r2 dFdiv (rV 5) (rC (.int 64))) (rC (.int 69621))) (rV 5)) (rC (.int 4294967231))) (rC (.int 8))) (rV 2))))))))))
def m__law_drawn : List Sl → Ro := fnE 10 1 (sSeq (sAsg (e1 dTuple (eComp (ieR1 (e2 dAdd (eP (rC (.int 1))) (eCallE m__law_draw 1 (a1S 0 (a1O 1 (a1D (rC (.int 5)) (a1Nil))))))) (tgV 8) (eCallE m__law_draw 1 (a1S 0 (a1O 1 (a1D (r2 dIx (rV 2) (rC (.int 0))) (a1Nil))))) [8])) (tgV 3)) (sSeq (sPut 4 (nM (mL (rLst (raNil))))) (sSeq (sFor (riR1 (r1 dLen (rV 3))) (tgV 5) (sFor (riR1 (r1 dLen (rV 3))) (tgV 6) (sSeq (sAsg (eP (rComp (riS (r2 dIx (rV 2) (rC (.int 1)))) (tgV 9) (r2 dEq (rSl (rV 9) (roNone) (roSome (rC (.int 2)))) (rTup (raCons (r2 dIx (rV 3) (rV 5)) (raCons (r2 dIx (rV 3) (rV 6)) (raNil))))) (r2 dIx (rV 9) (rC (.int 2))) [9])) (tgV 7)) (sIf (eAnd (eP (r2 dNe (rV 5) (rV 6))) (eAnd (eP (r2 dNe (rV 7) (rLst (raNil)))) (eAnd (e2 dEq (eCallE m__law_draw 1 (a1S 0 (a1O 1 (a1D (rC (.int 2)) (a1Nil))))) (eP (rC (.int 0)))) (eP (r2 dLt (r1 dLen (rL 4)) (rC (.int 12))))))) (sDrop (eAppE 4 (eTup (eaCons (eP (rV 5)) (eaCons (eP (rV 6)) (eaCons (eIf (e2 dGt (eCallE m__law_draw 1 (a1S 0 (a1O 1 (a1D (rC (.int 12)) (a1Nil))))) (eP (rC (.int 0)))) (eP (r2 dIx (rV 7) (rC (.int 0)))) (eP (rC (.str "empty")))) (eaNil))))))) (sNil))) []) [5, 6, 7]) (sRet (eP (rTup (raCons (rV 3) (raCons (rTup (raCons (r1 dLen (rV 3)) (raCons (r1 dTuple (rL 4)) (raNil)))) (raNil)))))))))
def m__law_pair : List D → R D := fnD 8 (sSeq (sAsg (eP (rSl (rV 2) (roSome (rC (.int 1))) (roSome (rC (.int 3))))) (tgT (tgCons (tgV 3) (tgCons (tgV 4) (tgNil))))) (sSeq (sIf (eP (rOr (r2 dNotIn (rV 3) (rV 0)) (rOr (r2 dNotIn (rV 4) (rV 0)) (r2 dEq (rV 3) (rV 4))))) (sRet (eP (rTup (raCons (rTup (raCons (rC (.str "row")) (raNil))) (raCons (rV 1) (raNil)))))) (sNil)) (sSeq (sAsg (eP (rComp (riS (rV 1)) (tgV 7) (rYes) (rSl (rV 7) (roNone) (roSome (rC (.int 2)))) [7])) (tgV 5)) (sSeq (sIf (eP (r2 dEq (r2 dIx (rV 2) (rC (.int 0))) (rC (.str "unlink")))) (sSeq (sIf (eP (r2 dNotIn (rTup (raCons (rV 3) (raCons (rV 4) (raNil)))) (rV 5))) (sRet (eP (rTup (raCons (rTup (raCons (rC (.str "unlinked")) (raNil))) (raCons (rV 1) (raNil)))))) (sNil)) (sSeq (sAsg (eP (r1 dTuple (rComp (riS (rV 1)) (tgV 7) (r2 dNe (rSl (rV 7) (roNone) (roSome (rC (.int 2)))) (rTup (raCons (rV 3) (raCons (rV 4) (raNil))))) (rV 7) [7]))) (tgV 6)) (sRet (eP (rTup (raCons (rTup (raCons (rC (.str "returns")) (raCons (r1 dLen (rV 6)) (raNil)))) (raCons (rV 6) (raNil)))))))) (sNil)) (sSeq (sIf (eP (r2 dEq (r2 dIx (rV 2) (rC (.int 3))) (rC (.str "cascade")))) (sRet (eP (rTup (raCons (rTup (raCons (rC (.str "rule")) (raNil))) (raCons (rV 1) (raNil)))))) (sNil)) (sSeq (sIf (eP (r2 dIn (rTup (raCons (rV 3) (raCons (rV 4) (raNil)))) (rV 5))) (sRet (eP (rTup (raCons (rTup (raCons (rC (.str "linked")) (raNil))) (raCons (rV 1) (raNil)))))) (sNil)) (sSeq (sIf (eP (r2 dEq (r1 dLen (rV 1)) (rC (.int 12)))) (sRet (eP (rTup (raCons (rTup (raCons (rC (.str "many")) (raNil))) (raCons (rV 1) (raNil)))))) (sNil)) (sRet (eP (rTup (raCons (rTup (raCons (rC (.str "returns")) (raCons (r2 dAdd (r1 dLen (rV 1)) (rC (.int 1))) (raNil)))) (raCons (r1 dTuple (r1 dSorted (r2 dAdd (rV 1) (rTup (raCons (rSl (rV 2) (roSome (rC (.int 1))) (roNone)) (raNil)))))) (raNil)))))))))))))
def m__law_sure : List D → R D := fnD 2 (sRet (eP (r2 dEq (rCall m_verdict (raCons (rTup (raCons (rC (.int 8)) (raCons (rV 0) (raNil)))) (raCons (rV 1) (raNil)))) (rC (.str "goes")))))
def m__law_due : List D → R D := fnD 9 (sSeq (sIf (eP (r2 dNe (r2 dIx (rV 2) (rC (.int 0))) (rC (.str "delete")))) (sSeq (sAsg (eP (rCall m__law_pair (raCons (rV 0) (raCons (rV 1) (raCons (rV 2) (raNil)))))) (tgT (tgCons (tgV 3) (tgCons (tgV 4) (tgNil))))) (sRet (eP (rTup (raCons (rV 3) (raCons (rV 0) (raCons (rV 4) (raNil)))))))) (sNil)) (sSeq (sIf (eP (r2 dNe (rComp (riS (r2 dIx (rV 2) (rC (.int 1)))) (tgV 7) (r2 dNotIn (rV 7) (rV 0)) (rV 7) [7]) (rLst (raNil)))) (sRet (eP (rTup (raCons (rTup (raCons (rC (.str "start")) (raNil))) (raCons (rV 0) (raCons (rV 1) (raNil))))))) (sNil)) (sSeq (sIf (eP (rNot (rCall m__law_sure (raCons (rV 1) (raCons (r2 dIx (rV 2) (rC (.int 1))) (raNil)))))) (sRet (eP (rTup (raCons (rTup (raCons (rC (.str "refused")) (raNil))) (raCons (rV 0) (raCons (rV 1) (raNil))))))) (sNil)) (sSeq (sAsg (eP (rCall m__law_closed (raCons (rTup (raCons (rC (.int 8)) (raCons (rV 1) (raNil)))) (raCons (r2 dIx (rV 2) (rC (.int 1))) (raCons (rTup (raCons (rC (.str "follow")) (raNil))) (raCons (rC .none) (raNil))))))) (tgV 5)) (sSeq (sAsg (eP (r1 dTuple (rComp (riS (rV 0)) (tgV 7) (r2 dNotIn (rV 7) (rV 5)) (rV 7) [7]))) (tgV 6)) (sRet (eP (rTup (raCons (rTup (raCons (rC (.str "returns")) (raCons (rV 5) (raNil)))) (raCons (rV 6) (raCons (r1 dTuple (rComp (riS (rV 1)) (tgV 8) (rAnd (r2 dIn (r2 dIx (rV 8) (rC (.int 0))) (rV 6)) (r2 dIn (r2 dIx (rV 8) (rC (.int 1))) (rV 6))) (rV 8) [8])) (raNil))))))))))))
def m__law_open : List D → R D := fnD 5 (sSeq (sAsg (eP (rComp (riS (r2 dIx (rV 0) (rC (.int 1)))) (tgV 4) (rAnd (r2 dIn (r2 dIx (rV 4) (rC (.int 1))) (rV 1)) (r2 dNotIn (r2 dIx (rV 4) (rC (.int 0))) (rV 1))) (rV 4) [4])) (tgV 3)) (sRet (eP (rComp (riS (rV 3)) (tgV 4) (r2 dNotIn (rV 4) (rV 2)) (rV 4) [4]))))
def m__law_ends : Nat → List D → R D
  | 0 => fun _ => .bad
  | n + 1 => fnD 10 (sSeq (sAsg (eP (rCall m__law_open (raCons (rV 0) (raCons (rV 1) (raCons (rV 2) (raNil)))))) (tgV 3)) (sSeq (sIf (eP (r2 dEq (rV 3) (rLst (raNil)))) (sRet (eP (rLst (raCons (rTup (raCons (rTup (raNil)) (raCons (rC (.str "goes")) (raNil)))) (raNil))))) (sNil)) (sSeq (sPut 4 (nM (mL (rLst (raNil))))) (sSeq (sFor (riS (rV 3)) (tgV 5) (sSeq (sIf (eP (r2 dEq (r2 dIx (rV 5) (rC (.int 2))) (rC (.str "refuse")))) (sSeq (sDrop (eApp 4 (rTup (raCons (rTup (raCons (rV 5) (raNil))) (raCons (rC (.str "fails")) (raNil)))))) (sCont)) (sNil)) (sSeq (sAsg (eP (rIf (r2 dEq (r2 dIx (rV 5) (rC (.int 2))) (rC (.str "follow"))) (r2 dAdd (rV 1) (rLst (raCons (r2 dIx (rV 5) (rC (.int 0))) (raNil)))) (rV 1))) (tgV 6)) (sSeq (sAsg (eP (rIf (r2 dEq (r2 dIx (rV 5) (rC (.int 2))) (rC (.str "empty"))) (r2 dAdd (rV 2) (rLst (raCons (rV 5) (raNil)))) (rV 2))) (tgV 7)) (sDrop (eExt 4 (rComp (riS (rCall (m__law_ends n) (raCons (rV 0) (raCons (rV 6) (raCons (rV 7) (raNil)))))) (tgT (tgCons (tgV 8) (tgCons (tgV 9) (tgNil)))) (rYes) (rTup (raCons (r2 dAdd (rTup (raCons (rV 5) (raNil))) (rV 8)) (raCons (rV 9) (raNil)))) [8, 9])))))) [5, 6, 7]) (sFz 4 (sRet (eP (rV 4))))))))
def m__law_earlier : List D → R D := fnD 11 (sSeq (sAsg (eP (rC (.bool false))) (tgV 4)) (sSeq (sFor (riS (rCall (m__law_ends 20) (raCons (rV 0) (raCons (r1 dList (rV 1)) (raCons (rLst (raNil)) (raNil)))))) (tgT (tgCons (tgV 5) (tgCons (tgV 6) (tgNil)))) (sSeq (sPut 7 (nM (mDic0))) (sSeq (sFor (riS (rV 1)) (tgV 8) (sDput 7 (rV 8) (rC (.int 0))) []) (sSeq (sFor (riEnum (rV 5)) (tgT (tgCons (tgV 9) (tgCons (tgV 10) (tgNil)))) (sIf (eP (r2 dEq (r2 dIx (rV 10) (rC (.int 2))) (rC (.str "follow")))) (sDput 7 (r2 dIx (rV 10) (rC (.int 0))) (r2 dAdd (rV 9) (rC (.int 1)))) (sNil)) []) (sIf (eP (r2 dIn (rV 3) (rL 7))) (sSeq (sAsg (eP (rC (.bool true))) (tgV 4)) (sIf (eP (rOr (r2 dNotIn (rV 2) (rL 7)) (r2 dGe (r2 dIx (rL 7) (rV 2)) (r2 dIx (rL 7) (rV 3))))) (sRet (eP (rC (.bool false)))) (sNil))) (sNil))))) [5, 6, 7, 8, 9, 10]) (sRet (eP (rV 4)))))
def m__law_end : List D → R D := fnD 8 (sSeq (sPar3 3 (mD (r1 dList (rV 1))) 4 (mD (rLst (raNil))) 5 (mD (rC .none))) (sSeq (sIf (eP (rNot (r1 (dIsi "tuple") (rV 2)))) (sRet (eP (rC .none))) (sNil)) (sSeq (sFor (riS (rV 2)) (tgV 6) (sSeq (sIf (eP (rOr (r2 dIsNot (rV 5) (rC .none)) (r2 dNotIn (rV 6) (rCall m__law_open (raCons (rV 0) (raCons (rV 3) (raCons (rV 4) (raNil)))))))) (sRet (eP (rC .none))) (sNil)) (sSeq (sIf (eP (r2 dNe (rComp (riS (rV 6)) (tgV 7) (r1 (dIsi "bool") (rV 7)) (rC (.int 1)) [7]) (rLst (raNil)))) (sRet (eP (rC .none))) (sNil)) (sSeq (sAsg (eP (rIf (r2 dEq (r2 dIx (rV 6) (rC (.int 2))) (rC (.str "refuse"))) (rC (.str "fails")) (rC .none))) (tgV 5)) (sSeq (sAsg (eP (r2 dAdd (rV 3) (rIf (r2 dEq (r2 dIx (rV 6) (rC (.int 2))) (rC (.str "follow"))) (rLst (raCons (r2 dIx (rV 6) (rC (.int 0))) (raNil))) (rLst (raNil))))) (tgV 3)) (sAsg (eP (r2 dAdd (rV 4) (rIf (r2 dEq (r2 dIx (rV 6) (rC (.int 2))) (rC (.str "empty"))) (rLst (raCons (rV 6) (raNil))) (rLst (raNil))))) (tgV 4)))))) [6]) (sSeq (sIf (eP (r2 dIsNot (rV 5) (rC .none))) (sRet (eP (rV 5))) (sNil)) (sRet (eP (rIf (r2 dEq (rCall m__law_open (raCons (rV 0) (raCons (rV 3) (raCons (rV 4) (raNil))))) (rLst (raNil))) (rC (.str "goes")) (rC .none))))))))
def m_chains_from : List D → R D := fnD 8 (sSeq (sPar2 2 (mDic1 (rV 1) (rTup (raCons (rV 1) (raNil)))) 3 (mL (rLst (raCons (rV 1) (raNil))))) (sSeq (sWhile 5000 (eP (r2 dNe (rL 3) (rLst (raNil)))) (sSeq (sAsg (ePop0 3) (tgV 4)) (sFor (riS (r2 dIx (rV 0) (rC (.int 1)))) (tgT (tgCons (tgV 5) (tgCons (tgV 6) (tgCons (tgV 7) (tgNil))))) (sIf (eP (rAnd (r2 dEq (rV 6) (rV 4)) (rAnd (r2 dEq (rV 7) (rC (.str "follow"))) (r2 dNotIn (rV 5) (rL 2))))) (sSeq (sDput 2 (rV 5) (r2 dAdd (r2 dIx (rL 2) (rV 4)) (rTup (raCons (rV 5) (raNil))))) (sDrop (eApp 3 (rV 5)))) (sNil)) [])) [4, 5, 6, 7]) (sFzD 2 (sRet (eP (rV 2))))))
def m_is_column : List D → R D := fnD 2 (sSeq (sIf (eP (rOr (rNot (r1 (dIsi "tuple") (rV 1))) (rOr (r2 dNe (r1 dLen (rV 1)) (rC (.int 3))) (rNot (rCall m_is_rule (raCons (r2 dIx (rV 1) (rC (.int 2))) (raNil))))))) (sRet (eP (rC (.bool false)))) (sNil)) (sRet (eP (rAnd (rCall m_is_between (raCons (r2 dIx (rV 1) (rC (.int 0))) (raCons (rC (.int 0)) (raCons (r2 dSub (rV 0) (rC (.int 1))) (raNil))))) (rCall m_is_between (raCons (r2 dIx (rV 1) (rC (.int 1))) (raCons (rC (.int 0)) (raCons (r2 dSub (rV 0) (rC (.int 1))) (raNil)))))))))
def m_is_plan : List D → R D := fnD 4 (sSeq (sIf (eP (rOr (rNot (r1 (dIsi "tuple") (rV 0))) (rOr (r2 dNe (r1 dLen (rV 0)) (rC (.int 2))) (rNot (rCall m_is_between (raCons (r2 dIx (rV 0) (rC (.int 0))) (raCons (rC (.int 1)) (raCons (rC (.int 3)) (raNil))))))))) (sRet (eP (rC (.bool false)))) (sNil)) (sSeq (sAsg (eP (rV 0)) (tgT (tgCons (tgV 1) (tgCons (tgV 2) (tgNil))))) (sSeq (sIf (eP (rOr (rNot (r1 (dIsi "tuple") (rV 2))) (rOr (r2 dGt (r1 dLen (rV 2)) (rC (.int 6))) (rNot (r1 dAll (rComp (riS (rV 2)) (tgV 3) (rYes) (rCall m_is_column (raCons (rV 1) (raCons (rV 3) (raNil)))) [3])))))) (sRet (eP (rC (.bool false)))) (sNil)) (sRet (eP (rCall m_is_ascending (raCons (rComp (riS (rV 2)) (tgV 3) (rYes) (rSl (rV 3) (roNone) (roSome (rC (.int 2)))) [3]) (raNil))))))))
def m_check_plan : List D → R D := fnD 1 (sIf (eP (rNot (rCall m_is_plan (raCons (rV 0) (raNil))))) (sRaise "InvalidPlan") (sNil))
def m_check_home : List D → R D := fnD 2 (sSeq (sDrop (eP (rCall m_check_plan (raCons (rV 0) (raNil))))) (sIf (eP (rNot (rCall m_is_between (raCons (rV 1) (raCons (rC (.int 0)) (raCons (r2 dSub (r2 dIx (rV 0) (rC (.int 0))) (rC (.int 1))) (raNil))))))) (sRaise "InvalidHome") (sNil)))
def m_can_fail : List D → R D := fnD 6 (sSeq (sDrop (eP (rCall m_check_home (raCons (rV 0) (raCons (rV 1) (raNil)))))) (sSeq (sAsg (eP (rCall m_chains_from (raCons (rV 0) (raCons (rV 1) (raNil))))) (tgV 2)) (sRet (eP (r1 dAny (rComp (riS (r2 dIx (rV 0) (rC (.int 1)))) (tgT (tgCons (tgV 3) (tgCons (tgV 4) (tgCons (tgV 5) (tgNil))))) (rYes) (rAnd (r2 dEq (rV 5) (rC (.str "refuse"))) (r2 dIn (rV 4) (rV 2))) [3, 4, 5]))))))
def m_can_take : List D → R D := fnD 2 (sSeq (sDrop (eP (rCall m_check_home (raCons (rV 0) (raCons (rV 1) (raNil)))))) (sRet (eP (r1 dTuple (r1 dSortD (rCall m_chains_from (raCons (rV 0) (raCons (rV 1) (raNil)))))))))
def m_good_run : List D → R D := fnD 2 (sSeq (sDrop (eP (rCall m_check_start (raCons (rV 0) (raCons (rV 1) (raNil)))))) (sRet (eP (r2 dIx (rCall m_some_runs (raCons (r2 dIx (rV 0) (rC (.int 1))) (raCons (rV 1) (raNil)))) (rC (.int 0))))))
def m_does_fit : List D → R D := fnD 7 (sSeq (sIf (eP (rOr (rNot (rCall m_is_table (raCons (rV 2) (raNil)))) (rOr (rNot (r1 (dIsi "tuple") (rV 1))) (r2 dNe (r1 dLen (rV 1)) (r2 dIx (rV 2) (rC (.int 0))))))) (sRet (eP (rC (.bool false)))) (sNil)) (sSeq (sIf (eP (rNot (r1 dAll (rComp (riS (rV 1)) (tgV 6) (rYes) (rCall m_is_between (raCons (rV 6) (raCons (rC (.int 0)) (raCons (r2 dSub (r2 dIx (rV 0) (rC (.int 0))) (rC (.int 1))) (raNil))))) [6])))) (sRet (eP (rC (.bool false)))) (sNil)) (sRet (eP (r1 dAll (rComp (riS (r2 dIx (rV 2) (rC (.int 1)))) (tgT (tgCons (tgV 3) (tgCons (tgV 4) (tgCons (tgV 5) (tgNil))))) (rYes) (r2 dIn (rTup (raCons (r2 dIx (rV 1) (rV 3)) (raCons (r2 dIx (rV 1) (rV 4)) (raCons (rV 5) (raNil))))) (r2 dIx (rV 0) (rC (.int 1)))) [3, 4, 5]))))))
def m_is_example : List D → R D := fnD 6 (sSeq (sDrop (eP (rCall m_check_home (raCons (rV 0) (raCons (rV 1) (raNil)))))) (sSeq (sIf (eP (rOr (rNot (r1 (dIsi "tuple") (rV 2))) (rOr (r2 dNe (r1 dLen (rV 2)) (rC (.int 3))) (rNot (rCall m_does_fit (raCons (rV 0) (raCons (r2 dIx (rV 2) (rC (.int 1))) (raCons (r2 dIx (rV 2) (rC (.int 0))) (raNil))))))))) (sRet (eP (rC (.bool false)))) (sNil)) (sSeq (sAsg (eP (rV 2)) (tgT (tgCons (tgV 3) (tgCons (tgV 4) (tgCons (tgV 5) (tgNil)))))) (sSeq (sIf (eP (rOr (rNot (rCall m_is_between (raCons (rV 5) (raCons (rC (.int 0)) (raCons (r2 dSub (r2 dIx (rV 3) (rC (.int 0))) (rC (.int 1))) (raNil)))))) (r2 dNe (r2 dIx (rV 4) (rV 5)) (rV 1)))) (sRet (eP (rC (.bool false)))) (sNil)) (sRet (eP (r2 dEq (rCall m_verdict_of (raCons (r2 dIx (rV 3) (rC (.int 1))) (raCons (rTup (raCons (rV 5) (raNil))) (raNil)))) (rC (.str "parts")))))))))
def m_is_fitting : List D → R D := fnD 3 (sSeq (sDrop (eP (rCall m_check_plan (raCons (rV 0) (raNil))))) (sRet (eP (rCall m_does_fit (raCons (rV 0) (raCons (rV 1) (raCons (rV 2) (raNil))))))))
def m_refused : List D → R D := fnD 4 (sSeq (sDrop (eP (rCall m_check_start (raCons (rV 0) (raCons (rV 1) (raNil)))))) (sSeq (sAsg (eP (rCall m_taken_by (raCons (r2 dIx (rV 0) (rC (.int 1))) (raCons (rV 1) (raCons (rC .none) (raNil)))))) (tgV 2)) (sRet (eP (r1 dTuple (rComp (riS (r2 dIx (rV 0) (rC (.int 1)))) (tgV 3) (rAnd (r2 dEq (r2 dIx (rV 3) (rC (.int 2))) (rC (.str "refuse"))) (r2 dIn (r2 dIx (rV 3) (rC (.int 1))) (rV 2))) (rV 3) [3]))))))
def m__law_fine : List D → R D := fnD 8 (sSeq (sAsg (eP (rV 2)) (tgT (tgCons (tgV 3) (tgCons (tgV 4) (tgCons (tgV 5) (tgNil)))))) (sSeq (sIf (eP (rNot (rCall m_is_example (raCons (rV 0) (raCons (rV 1) (raCons (rV 2) (raNil))))))) (sRet (eP (rC (.bool false)))) (sNil)) (sSeq (sIf (eP (rNot (rCall m_is_fitting (raCons (rV 0) (raCons (rV 4) (raCons (rV 3) (raNil))))))) (sRet (eP (rC (.bool false)))) (sNil)) (sSeq (sIf (eP (r2 dNe (rCall m_verdict (raCons (rV 3) (raCons (rTup (raCons (rV 5) (raNil))) (raNil)))) (rC (.str "parts")))) (sRet (eP (rC (.bool false)))) (sNil)) (sSeq (sAsg (eP (rCall m_taken (raCons (rV 3) (raCons (rTup (raCons (rV 5) (raNil))) (raNil))))) (tgV 6)) (sSeq (sIf (eP (rOr (r2 dNe (rComp (riS (rV 6)) (tgV 7) (r2 dNotIn (r2 dIx (rV 4) (rV 7)) (rCall m_can_take (raCons (rV 0) (raCons (rV 1) (raNil))))) (rV 7) [7]) (rLst (raNil))) (r2 dIs (rCall m_good_run (raCons (rV 3) (raCons (rTup (raCons (rV 5) (raNil))) (raNil)))) (rC .none)))) (sRet (eP (rC (.bool false)))) (sNil)) (sSeq (sIf (eP (rOr (r2 dNe (r1 dLen (r2 dIx (rV 3) (rC (.int 1)))) (r2 dIx (rV 3) (rC (.int 0)))) (rOr (r2 dNe (rV 6) (rTR (riR1 (r2 dIx (rV 3) (rC (.int 0)))))) (r2 dNe (r1 dLen (rCall m_refused (raCons (rV 3) (raCons (rTup (raCons (rV 5) (raNil))) (raNil))))) (rC (.int 1)))))) (sRet (eP (rC (.bool false)))) (sNil)) (sRet (eP (rAnd (rCall m_can_fail (raCons (rV 0) (raCons (rV 1) (raNil)))) (r2 dGe (r2 dIx (rV 3) (rC (.int 0))) (rC (.int 3)))))))))))))
def m__law_needs : List D → R D := fnD 3 (sRet (eP (rComp (riS (r2 dIx (rV 0) (rC (.int 1)))) (tgV 2) (rAnd (r2 dEq (r2 dIx (rV 2) (rC (.int 0))) (rV 1)) (r2 dNe (r2 dIx (rV 2) (rC (.int 2))) (rC (.str "empty")))) (r2 dIx (rV 2) (rC (.int 1))) [2])))
def m__law_good : List D → R D := fnD 5 (sSeq (sFor (riEnum (rV 1)) (tgT (tgCons (tgV 2) (tgCons (tgV 3) (tgNil)))) (sIf (eP (r2 dNe (rComp (riS (rCall m__law_needs (raCons (rV 0) (raCons (rV 3) (raNil))))) (tgV 4) (r2 dNotIn (rV 4) (rSl (rV 1) (roNone) (roSome (rV 2)))) (rV 4) [4]) (rLst (raNil)))) (sRet (eP (rC (.bool false)))) (sNil)) [2, 3]) (sRet (eP (rC (.bool true)))))
def m__law_row : List D → R D := fnD 2 (sRet (eP (rAnd (r1 (dIsi "int") (rV 1)) (rAnd (rNot (r1 (dIsi "bool") (rV 1))) (rChain dLe dLt (rC (.int 0)) (rV 1) (rV 0))))))
def m_is_circle : List D → R D := fnD 6 (sSeq (sDrop (eP (rCall m_check_table (raCons (rV 0) (raNil))))) (sSeq (sIf (eP (rOr (rNot (r1 (dIsi "tuple") (rV 1))) (rOr (r2 dEq (rV 1) (rTup (raNil))) (rNot (r1 dAll (rComp (riS (rV 1)) (tgV 4) (rYes) (rCall m_is_between (raCons (rV 4) (raCons (rC (.int 0)) (raCons (r2 dSub (r2 dIx (rV 0) (rC (.int 0))) (rC (.int 1))) (raNil))))) [4])))))) (sRet (eP (rC (.bool false)))) (sNil)) (sSeq (sAsg (eP (rCall m_needs_of (raCons (rV 0) (raNil)))) (tgV 2)) (sSeq (sAsg (eP (rLZ (rV 1) (r2 dAdd (rSl (rV 1) (roSome (rC (.int 1))) (roNone)) (rSl (rV 1) (roNone) (roSome (rC (.int 1))))))) (tgV 3)) (sRet (eP (rAnd (r2 dEq (r1 dLenSet (rV 1)) (r1 dLen (rV 1))) (r1 dAll (rComp (riS (rV 3)) (tgT (tgCons (tgV 4) (tgCons (tgV 5) (tgNil)))) (rYes) (r2 dIn (rV 5) (r2 dIx (rV 2) (rV 4))) [4, 5])))))))))
def m_is_order : List D → R D := fnD 7 (sSeq (sDrop (eP (rCall m_check_table (raCons (rV 0) (raNil))))) (sSeq (sIf (eP (rOr (rNot (r1 (dIsi "tuple") (rV 1))) (rNot (r1 dAll (rComp (riS (rV 1)) (tgV 5) (rYes) (rCall m_is_between (raCons (rV 5) (raCons (rC (.int 0)) (raCons (r2 dSub (r2 dIx (rV 0) (rC (.int 0))) (rC (.int 1))) (raNil))))) [5]))))) (sRet (eP (rC (.bool false)))) (sNil)) (sSeq (sIf (eP (r2 dNe (r1 dSorted (rV 1)) (rLR (riR1 (r2 dIx (rV 0) (rC (.int 0))))))) (sRet (eP (rC (.bool false)))) (sNil)) (sSeq (sAsg (eP (rCall m_needs_of (raCons (rV 0) (raNil)))) (tgV 2)) (sRet (eP (r1 dAll (rComp (riEnum (rV 1)) (tgT (tgCons (tgV 3) (tgCons (tgV 4) (tgNil)))) (rYes) (r1 dAll (rComp (riS (r2 dIx (rV 2) (rV 4))) (tgV 6) (rYes) (r2 dIn (rV 6) (rSl (rV 1) (roNone) (roSome (rV 3)))) [6])) [3, 4]))))))))
def m__law_judged : List D → R D := fnD 8 (sSeq (sAsg (eP (r2 dIx (rV 0) (rC (.int 0)))) (tgV 2)) (sSeq (sAsg (eP (rAnd (r1 (dIsi "tuple") (rV 1)) (r2 dEq (rComp (riS (rV 1)) (tgV 6) (rNot (rCall m__law_row (raCons (rV 2) (raCons (rV 6) (raNil))))) (rC (.int 1)) [6]) (rLst (raNil))))) (tgV 3)) (sSeq (sAsg (eP (rAnd (rV 3) (rAnd (r2 dEq (r1 dSorted (rV 1)) (rLR (riR1 (rV 2)))) (rCall m__law_good (raCons (rV 0) (raCons (rV 1) (raNil))))))) (tgV 4)) (sSeq (sIf (eP (rNot (rCall m__law_is (raCons (rCall m_is_order (raApp (raCons (rV 0) (raNil)) (raCons (rV 1) (raNil)))) (raCons (rV 4) (raNil)))))) (sRet (eP (rC (.bool false)))) (sNil)) (sSeq (sAsg (eP (rAnd (rV 3) (rAnd (r2 dNe (rV 1) (rTup (raNil))) (r2 dEq (r1 dLenSet (rV 1)) (r1 dLen (rV 1)))))) (tgV 4)) (sSeq (sIf (eP (rV 4)) (sSeq (sAsg (eP (rLZ (rV 1) (r2 dAdd (rSl (rV 1) (roSome (rC (.int 1))) (roNone)) (rSl (rV 1) (roNone) (roSome (rC (.int 1))))))) (tgV 5)) (sAsg (eP (r2 dEq (rComp (riS (rV 5)) (tgT (tgCons (tgV 6) (tgCons (tgV 7) (tgNil)))) (r2 dNotIn (rV 7) (rCall m__law_needs (raCons (rV 0) (raCons (rV 6) (raNil))))) (rC (.int 1)) [6, 7]) (rLst (raNil)))) (tgV 4))) (sNil)) (sSeq (sIf (eP (rNot (rCall m__law_is (raCons (rCall m_is_circle (raApp (raCons (rV 0) (raNil)) (raCons (rV 1) (raNil)))) (raCons (rV 4) (raNil)))))) (sRet (eP (rC (.bool false)))) (sNil)) (sRet (eP (rC (.bool true)))))))))))
def m_rules_from : List D → R D := fnD 5 (sSeq (sDrop (eP (rCall m_check_table (raCons (rV 0) (raNil))))) (sSeq (sDrop (eP (rCall m_check_row (raCons (rV 0) (raCons (rV 1) (raNil)))))) (sRet (eP (r1 dTuple (rComp (riS (r2 dIx (rV 0) (rC (.int 1)))) (tgT (tgCons (tgV 2) (tgCons (tgV 3) (tgCons (tgV 4) (tgNil))))) (r2 dEq (rV 2) (rV 1)) (rTup (raCons (rV 3) (raCons (rV 4) (raNil)))) [2, 3, 4]))))))
def m_rules_to : List D → R D := fnD 5 (sSeq (sDrop (eP (rCall m_check_table (raCons (rV 0) (raNil))))) (sSeq (sDrop (eP (rCall m_check_row (raCons (rV 0) (raCons (rV 1) (raNil)))))) (sRet (eP (r1 dTuple (rComp (riS (r2 dIx (rV 0) (rC (.int 1)))) (tgT (tgCons (tgV 2) (tgCons (tgV 3) (tgCons (tgV 4) (tgNil))))) (r2 dEq (rV 3) (rV 1)) (rTup (raCons (rV 2) (raCons (rV 4) (raNil)))) [2, 3, 4]))))))
def m__law_kept : List D → R D := fnD 9 (sSeq (sAsg (eP (rComp (riR1 (r2 dIx (rV 0) (rC (.int 0)))) (tgV 5) (r2 dNotIn (rV 5) (rV 1)) (rV 5) [5])) (tgV 3)) (sSeq (sIf (eP (rOr (r2 dNe (r2 dIx (rV 2) (rC (.int 0))) (r1 dLen (rV 3))) (rNot (rCall m_is_table (raCons (rV 2) (raNil)))))) (sRet (eP (rC (.bool false)))) (sNil)) (sSeq (sFor (riEnum (rV 3)) (tgT (tgCons (tgV 4) (tgCons (tgV 5) (tgNil)))) (sSeq (sAsg (eP (rComp (riS (rCall m_rules_from (raCons (rV 0) (raCons (rV 5) (raNil))))) (tgT (tgCons (tgV 7) (tgCons (tgV 8) (tgNil)))) (r2 dIn (rV 7) (rV 3)) (rTup (raCons (rIndex (rV 3) (rV 7)) (raCons (rV 8) (raNil)))) [7, 8])) (tgV 6)) (sSeq (sIf (eP (r2 dNe (r1 dList (rCall m_rules_from (raCons (rV 2) (raCons (rV 4) (raNil))))) (rV 6))) (sRet (eP (rC (.bool false)))) (sNil)) (sSeq (sAsg (eP (rComp (riS (rCall m_rules_to (raCons (rV 0) (raCons (rV 5) (raNil))))) (tgT (tgCons (tgV 7) (tgCons (tgV 8) (tgNil)))) (r2 dIn (rV 7) (rV 3)) (rTup (raCons (rIndex (rV 3) (rV 7)) (raCons (rV 8) (raNil)))) [7, 8])) (tgV 6)) (sIf (eP (r2 dNe (r1 dList (rCall m_rules_to (raCons (rV 2) (raCons (rV 4) (raNil))))) (rV 6))) (sRet (eP (rC (.bool false)))) (sNil))))) [4, 5, 6]) (sRet (eP (rC (.bool true)))))))
def m__law_left : List D → R D := fnD 8 (sSeq (sAsg (eP (rComp (riR1 (r2 dIx (rV 0) (rC (.int 0)))) (tgV 7) (r2 dNotIn (rV 7) (rV 1)) (rV 7) [7])) (tgV 2)) (sSeq (sPut 3 (nM (mL (rLst (raNil))))) (sSeq (sFor (riS (r2 dIx (rV 0) (rC (.int 1)))) (tgT (tgCons (tgV 4) (tgCons (tgV 5) (tgCons (tgV 6) (tgNil))))) (sIf (eP (rAnd (r2 dIn (rV 4) (rV 2)) (r2 dIn (rV 5) (rV 2)))) (sDrop (eApp 3 (rTup (raCons (rIndex (rV 2) (rV 4)) (raCons (rIndex (rV 2) (rV 5)) (raCons (rV 6) (raNil))))))) (sNil)) [4, 5, 6]) (sRet (eP (rIf (r2 dNe (rV 2) (rLst (raNil))) (rTup (raCons (r1 dLen (rV 2)) (raCons (r1 dTuple (rL 3)) (raNil)))) (rC .none)))))))
def m__law_moved : List D → R D := fnD 6 (sSeq (sAsg (eP (rComp (riS (r2 dIx (rV 0) (rC (.int 1)))) (tgT (tgCons (tgV 3) (tgCons (tgV 4) (tgCons (tgV 5) (tgNil))))) (rYes) (rTup (raCons (r2 dIx (rV 1) (rV 3)) (raCons (r2 dIx (rV 1) (rV 4)) (raCons (rV 5) (raNil))))) [3, 4, 5])) (tgV 2)) (sRet (eP (rTup (raCons (r2 dIx (rV 0) (rC (.int 0))) (raCons (r1 dTuple (r1 dSorted (rV 2))) (raNil)))))))
def m__law_named : List D → R D := fnD 3 (sRet (eP (r1 dTuple (r1 dSorted (rComp (riS (rV 1)) (tgV 2) (rYes) (r2 dIx (rV 0) (rV 2)) [2])))))
def m__law_names : List Sl → Ro := fnE 7 1 (sSeq (sPar2 3 (mD (rLR (riR1 (rV 2)))) 4 (mL (rLst (raNil)))) (sSeq (sFor (riR1 (rV 2)) (tgV 5) (sSeq (sAsg (eCallE m__law_draw 1 (a1S 0 (a1O 1 (a1D (r1 dLen (rV 3)) (a1Nil))))) (tgV 6)) (sSeq (sDrop (eApp 4 (r2 dIx (rV 3) (rV 6)))) (sAsg (eP (r2 dAdd (rSl (rV 3) (roNone) (roSome (rV 6))) (rSl (rV 3) (roSome (r2 dAdd (rV 6) (rC (.int 1)))) (roNone)))) (tgV 3)))) [5, 6]) (sFz 4 (sRet (eP (rV 4))))))
def m_further_chains : List D → R D := fnD 8 (sSeq (sPut 2 (nM (mDic0))) (sSeq (sFor (riS (r2 dIx (rV 0) (rC (.int 1)))) (tgT (tgCons (tgV 3) (tgCons (tgV 4) (tgCons (tgV 5) (tgNil))))) (sIf (eP (rAnd (r2 dEq (rV 4) (rV 1)) (r2 dEq (rV 5) (rC (.str "follow"))))) (sSeq (sAsg (eP (rCall m_chains_from (raCons (rV 0) (raCons (rV 3) (raNil))))) (tgV 6)) (sForK 6 (tgV 7) (sIf (eP (rOr (r2 dNotIn (rV 7) (rL 2)) (r2 dLt (r2 dAdd (r1 dLen (r2 dIx (rV 6) (rV 7))) (rC (.int 1))) (r1 dLen (r2 dIx (rL 2) (rV 7)))))) (sDput 2 (rV 7) (r2 dAdd (rTup (raCons (rV 1) (raNil))) (r2 dIx (rV 6) (rV 7)))) (sNil)) [])) (sNil)) [3, 4, 5, 6, 7]) (sFzD 2 (sRet (eP (rV 2))))))
def m_forks_of : List D → R D := fnD 10 (sSeq (sPar2 2 (mL (rLst (raNil))) 3 (mD (rCall m_chains_from (raCons (rV 0) (raCons (rV 1) (raNil)))))) (sSeq (sForK 3 (tgV 4) (sSeq (sPar2 5 (mD (rCall m_further_chains (raCons (rV 0) (raCons (rV 4) (raNil))))) 6 (mD (rCall m_chains_from (raCons (rV 0) (raCons (rV 4) (raNil)))))) (sFor (riS (r2 dIx (rV 0) (rC (.int 1)))) (tgT (tgCons (tgV 7) (tgCons (tgV 8) (tgCons (tgV 9) (tgNil))))) (sIf (eP (rAnd (r2 dEq (rV 9) (rC (.str "refuse"))) (rAnd (r2 dIn (rV 7) (rV 5)) (r2 dIn (rV 8) (rV 6))))) (sDrop (eApp 2 (rTup (raCons (r2 dIx (rV 3) (rV 4)) (raCons (r2 dIx (rV 5) (rV 7)) (raCons (r2 dIx (rV 6) (rV 8)) (raNil))))))) (sNil)) [])) [4, 5, 6, 7, 8, 9]) (sFz 2 (sRet (eP (rV 2))))))
def m_can_part : List D → R D := fnD 2 (sSeq (sDrop (eP (rCall m_check_home (raCons (rV 0) (raCons (rV 1) (raNil)))))) (sRet (eP (r2 dNe (rCall m_forks_of (raCons (rV 0) (raCons (rV 1) (raNil)))) (rLst (raNil))))))
def m_built : List D → R D := fnD 11 (sSeq (sAsg (eP (r2 dAdd (r2 dAdd (r1 dList (rV 1)) (r1 dList (rSl (rV 2) (roSome (rC (.int 1))) (roNone)))) (r1 dList (rSl (rV 3) (roSome (rC (.int 1))) (roNone))))) (tgV 4)) (sSeq (sAsg (eP (r2 dSub (r1 dLen (rV 1)) (rC (.int 1)))) (tgV 5)) (sSeq (sAsg (eP (r2 dSub (r2 dAdd (rV 5) (r1 dLen (rV 2))) (rC (.int 1)))) (tgV 6)) (sSeq (sPut 7 (nM (mL (rComp (riR1 (rV 6)) (tgV 8) (rYes) (rTup (raCons (r2 dAdd (rV 8) (rC (.int 1))) (raCons (rV 8) (raCons (rC (.str "follow")) (raNil))))) [8])))) (sSeq (sFor (riR1 (r2 dSub (r1 dLen (rV 3)) (rC (.int 1)))) (tgV 8) (sDrop (eApp 7 (rTup (raCons (r2 dAdd (r2 dAdd (rV 6) (rV 8)) (rC (.int 1))) (raCons (rIf (r2 dEq (rV 8) (rC (.int 0))) (rV 5) (r2 dAdd (rV 6) (rV 8))) (raCons (rC (.str "follow")) (raNil))))))) [8]) (sSeq (sAsg (eP (rIf (r2 dEq (r1 dLen (rV 3)) (rC (.int 1))) (rV 5) (r2 dSub (r1 dLen (rV 4)) (rC (.int 1))))) (tgV 9)) (sSeq (sFz 7 (sPut 7 (nM (mL (rComp (riS (rV 7)) (tgV 10) (r2 dNe (rSl (rV 10) (roNone) (roSome (rC (.int 2)))) (rTup (raCons (rV 6) (raCons (rV 9) (raNil))))) (rV 10) [10]))))) (sRet (eP (rTup (raCons (rTup (raCons (r1 dLen (rV 4)) (raCons (r1 dTuple (r1 dSorted (r2 dAdd (rL 7) (rLst (raCons (rTup (raCons (rV 6) (raCons (rV 9) (raCons (rC (.str "refuse")) (raNil))))) (raNil)))))) (raNil)))) (raCons (r1 dTuple (rV 4)) (raCons (rC (.int 0)) (raNil))))))))))))))
def m_example : List D → R D := fnD 7 (sSeq (sDrop (eP (rCall m_check_home (raCons (rV 0) (raCons (rV 1) (raNil)))))) (sSeq (sAsg (eP (rComp (riS (rCall m_forks_of (raCons (rV 0) (raCons (rV 1) (raNil))))) (tgT (tgCons (tgV 4) (tgCons (tgV 5) (tgCons (tgV 6) (tgNil))))) (rYes) (rCall m_built (raCons (rV 0) (raCons (rV 4) (raCons (rV 5) (raCons (rV 6) (raNil)))))) [4, 5, 6])) (tgV 2)) (sSeq (sAsg (eP (rComp (riS (rV 2)) (tgV 5) (rYes) (rTup (raCons (r2 dIx (r2 dIx (rV 5) (rC (.int 0))) (rC (.int 0))) (raCons (r1 dLen (r2 dIx (r2 dIx (rV 5) (rC (.int 0))) (rC (.int 1)))) (raCons (rV 5) (raNil))))) [5])) (tgV 3)) (sRet (eP (rIf (r2 dNe (rV 3) (rLst (raNil))) (r2 dIx (r1 dMin1 (rV 3)) (rC (.int 2))) (rC .none)))))))
def m__law_odd_plans : List D → R D := fnD 3 (sSeq (sAsg (eP (rLst (raCons (rTup (raCons (rC (.int 0)) (raCons (rTup (raNil)) (raNil)))) (raCons (rTup (raCons (rC (.int 4)) (raCons (rTup (raNil)) (raNil)))) (raCons (rTup (raCons (rC (.int 1)) (raCons (rTup (raCons (rTup (raCons (rC (.int 0)) (raCons (rC (.int 1)) (raCons (rC (.str "empty")) (raNil))))) (raNil))) (raNil)))) (raCons (rTup (raCons (rC (.int 1)) (raCons (rTup (raCons (rTup (raCons (rC (.int 0)) (raCons (rC (.int 0)) (raCons (rC (.str "none")) (raNil))))) (raNil))) (raNil)))) (raCons (rLst (raCons (rC (.int 1)) (raCons (rTup (raNil)) (raNil)))) (raCons (rTup (raCons (rC (.int 1)) (raCons (rLst (raNil)) (raNil)))) (raCons (rC .none) (raCons (rTup (raCons (rC (.bool true)) (raCons (rTup (raNil)) (raNil)))) (raCons (rTup (raCons (rC (.int 1)) (raNil))) (raNil)))))))))))) (tgV 0)) (sSeq (sAsg (eP (r2 dAdd (rV 0) (rLst (raCons (rTup (raCons (rC (.int 2)) (raCons (rTup (raCons (rTup (raCons (rC (.int 0)) (raCons (rC (.int 1)) (raCons (rC (.str "empty")) (raNil))))) (raCons (rTup (raCons (rC (.int 0)) (raCons (rC (.int 1)) (raCons (rC (.str "follow")) (raNil))))) (raNil)))) (raNil)))) (raCons (rTup (raCons (rC (.int 2)) (raCons (rTup (raCons (rTup (raCons (rC (.int 1)) (raCons (rC (.int 0)) (raCons (rC (.str "empty")) (raNil))))) (raCons (rTup (raCons (rC (.int 0)) (raCons (rC (.int 1)) (raCons (rC (.str "empty")) (raNil))))) (raNil)))) (raNil)))) (raCons (rTup (raCons (rC (.int 1)) (raCons (rTup (raCons (rTup (raCons (rC (.int 0)) (raCons (rC (.int 0)) (raNil)))) (raNil))) (raNil)))) (raNil))))))) (tgV 0)) (sSeq (sFor (riS (rV 0)) (tgV 1) (sSeq (sIf (eP (rOr (rNot (rCall m__law_is (raCons (rCall m_is_plan (raCons (rV 1) (raNil))) (raCons (rC (.bool false)) (raNil))))) (r2 dNe (rLam csL (rCall m_is_fitting (raCons (rV 1) (raCons (rTup (raNil)) (raCons (rC .none) (raNil)))))) (rTup (raCons (rC (.str "plan")) (raNil)))))) (sRet (eP (rC (.bool false)))) (sNil)) (sForF 2 ["can_part", "example", "can_fail", "can_take"] (sIf (eP (r2 dNe (rLam csL (rCallV 2 [("can_part", m_can_part), ("example", m_example), ("can_fail", m_can_fail), ("can_take", m_can_take)] (raCons (rV 1) (raCons (rC .none) (raNil))))) (rTup (raCons (rC (.str "plan")) (raNil))))) (sRet (eP (rC (.bool false)))) (sNil)) [])) [1, 2]) (sRet (eP (rAnd (rCall m__law_is (raCons (rCall m_is_plan (raCons (rTup (raCons (rC (.int 1)) (raCons (rTup (raCons (rTup (raCons (rC (.int 0)) (raCons (rC (.int 0)) (raCons (rC (.str "follow")) (raNil))))) (raNil))) (raNil)))) (raNil))) (raCons (rC (.bool true)) (raNil)))) (r2 dEq (rLam csL (rCall m_is_example (raCons (rC .none) (raCons (rC (.int 0)) (raCons (rC (.int 0)) (raNil)))))) (rTup (raCons (rC (.str "plan")) (raNil))))))))))
def m__law_opened : List D → R D := fnD 5 (sSeq (sAsg (eP (rLE (r2 dIx (rV 0) (rC (.int 1))))) (tgV 2)) (sRet (eP (rTup (raCons (r2 dIx (rV 0) (rC (.int 0))) (raCons (r1 dTuple (rComp (riS (rV 2)) (tgT (tgCons (tgV 3) (tgCons (tgV 4) (tgNil)))) (rYes) (rIf (r2 dIn (rV 3) (rV 1)) (r2 dAdd (rSl (rV 4) (roNone) (roSome (rC (.int 2)))) (rTup (raCons (rC (.str "empty")) (raNil)))) (rV 4)) [3, 4])) (raNil)))))))
def m__law_operation : List Sl → Ro := fnE 6 1 (sSeq (sParE [2, 3, 4] (eaCons (eCallE m__law_draw 1 (a1S 0 (a1O 1 (a1D (rC (.int 4)) (a1Nil))))) (eaCons (eCallE m__law_draw 1 (a1S 0 (a1O 1 (a1D (rC (.int 9)) (a1Nil))))) (eaCons (eCallE m__law_draw 1 (a1S 0 (a1O 1 (a1D (rC (.int 9)) (a1Nil))))) (eaNil))))) (sSeq (sIf (eP (r2 dLt (rV 2) (rC (.int 2)))) (sSeq (sAsg (eIf (e2 dEq (eCallE m__law_draw 1 (a1S 0 (a1O 1 (a1D (rC (.int 3)) (a1Nil))))) (eP (rC (.int 0)))) (eP (r1 dTuple (r1 dSortSet (rLst (raCons (rV 3) (raCons (rV 4) (raNil))))))) (eP (rTup (raCons (rV 3) (raNil))))) (tgV 5)) (sRet (eP (rTup (raCons (rC (.str "delete")) (raCons (rV 5) (raNil))))))) (sNil)) (sSeq (sIf (eP (r2 dEq (rV 2) (rC (.int 2)))) (sRet (eTup (eaCons (eP (rC (.str "link"))) (eaCons (eP (rV 3)) (eaCons (eP (rV 4)) (eaCons (e2 dIx (eP (rTup (raCons (rC (.str "follow")) (raCons (rC (.str "refuse")) (raCons (rC (.str "empty")) (raCons (rC (.str "cascade")) (raNil))))))) (eCallE m__law_draw 1 (a1S 0 (a1O 1 (a1D (rC (.int 4)) (a1Nil)))))) (eaNil))))))) (sNil)) (sRet (eP (rTup (raCons (rC (.str "unlink")) (raCons (rV 3) (raCons (rV 4) (raNil))))))))))
def m_loosened : List D → R D := fnD 8 (sSeq (sDrop (eP (rCall m_check_table (raCons (rV 0) (raNil))))) (sSeq (sAsg (eP (rLst (raCons (rTup (raNil)) (raNil)))) (tgV 1)) (sSeq (sFor (riEnum (r2 dIx (rV 0) (rC (.int 1)))) (tgT (tgCons (tgV 2) (tgCons (tgV 3) (tgNil)))) (sIf (eP (r2 dNe (r2 dIx (rV 3) (rC (.int 2))) (rC (.str "empty")))) (sAsg (eP (r2 dAdd (rV 1) (rComp (riS (rV 1)) (tgV 5) (rYes) (r2 dAdd (rV 5) (rTup (raCons (rV 2) (raNil)))) [5]))) (tgV 1)) (sNil)) [3]) (sSeq (sFor (riS (r1 dSorted (rComp (riS (rV 1)) (tgV 5) (rYes) (rTup (raCons (r1 dLen (rV 5)) (raCons (rV 5) (raNil)))) [5]))) (tgT (tgCons (tgV 4) (tgCons (tgV 5) (tgNil)))) (sSeq (sAsg (eP (r1 dTuple (rComp (riEnum (r2 dIx (rV 0) (rC (.int 1)))) (tgT (tgCons (tgV 2) (tgCons (tgV 7) (tgNil)))) (r2 dNotIn (rV 2) (rV 5)) (rV 7) [2, 7]))) (tgV 6)) (sIf (eP (r2 dEq (r1 dLen (rCall m_order_of (raCons (rTup (raCons (r2 dIx (rV 0) (rC (.int 0))) (raCons (rV 6) (raNil)))) (raNil)))) (r2 dIx (rV 0) (rC (.int 0))))) (sRet (eP (rV 5))) (sNil))) [4, 5, 6]) (sRet (eP (rC .none)))))))
def m__law_ordered : List D → R D := fnD 8 (sSeq (sIf (eP (rOr (rNot (rCall m_is_order (raCons (rV 0) (raCons (rV 1) (raNil))))) (rOr (r2 dLt (rCall m_count_orders (raCons (rV 0) (raNil))) (rC (.int 1))) (r2 dNe (rCall m_loosened (raCons (rV 0) (raNil))) (rTup (raNil)))))) (sRet (eP (rC (.bool false)))) (sNil)) (sSeq (sAsg (eP (rTup (raNil))) (tgV 2)) (sSeq (sFor (riS (rCall m_steps (raCons (rV 0) (raNil)))) (tgV 3) (sAsg (eP (r2 dAdd (rV 2) (rV 3))) (tgV 2)) [3]) (sSeq (sIf (eP (rOr (rNot (rCall m_is_order (raCons (rV 0) (raCons (rV 2) (raNil))))) (r2 dGtT (rV 1) (rV 2)))) (sRet (eP (rC (.bool false)))) (sNil)) (sSeq (sFor (riEnum (rV 1)) (tgT (tgCons (tgV 4) (tgCons (tgV 5) (tgNil)))) (sSeq (sAsg (eP (rComp (riS (rCall m_taken (raCons (rV 0) (raCons (rTup (raCons (rV 5) (raNil))) (raNil))))) (tgV 7) (r2 dNe (rV 7) (rV 5)) (rV 7) [7])) (tgV 6)) (sIf (eP (r2 dNe (rComp (riS (rV 6)) (tgV 7) (r2 dIn (rV 7) (rSl (rV 1) (roNone) (roSome (rV 4)))) (rV 7) [7]) (rLst (raNil)))) (sRet (eP (rC (.bool false)))) (sNil))) [4, 5, 6]) (sRet (eP (rC (.bool true)))))))))
def m__law_orders : List D → R D := fnD 7 (sSeq (sFor (riR1 (r2 dIx (rV 0) (rC (.int 0)))) (tgV 3) (sFor (riR1 (r2 dIx (rV 0) (rC (.int 0)))) (tgV 4) (sSeq (sAsg (eP (rCall m_is_earlier (raCons (rV 0) (raCons (rV 1) (raCons (rV 3) (raCons (rV 4) (raNil))))))) (tgV 5)) (sSeq (sIf (eP (rAnd (rV 5) (rCall m_is_earlier (raCons (rV 0) (raCons (rV 1) (raCons (rV 4) (raCons (rV 3) (raNil)))))))) (sRet (eP (rC (.bool false)))) (sNil)) (sSeq (sIf (eP (rAnd (rV 5) (rOr (r2 dNotIn (rV 3) (rV 2)) (rOr (r2 dNotIn (rV 4) (rV 2)) (r2 dIn (rV 4) (rV 1)))))) (sRet (eP (rC (.bool false)))) (sNil)) (sSeq (sIf (eP (rAnd (r2 dIn (rV 3) (rV 1)) (rAnd (r2 dIn (rV 4) (rV 2)) (rAnd (r2 dNotIn (rV 4) (rV 1)) (rNot (rV 5)))))) (sRet (eP (rC (.bool false)))) (sNil)) (sFor (riS (rV 2)) (tgV 6) (sIf (eP (rAnd (rV 5) (rAnd (rCall m_is_earlier (raCons (rV 0) (raCons (rV 1) (raCons (rV 4) (raCons (rV 6) (raNil)))))) (rNot (rCall m_is_earlier (raCons (rV 0) (raCons (rV 1) (raCons (rV 3) (raCons (rV 6) (raNil)))))))))) (sRet (eP (rC (.bool false)))) (sNil)) []))))) []) [3, 4, 5, 6]) (sRet (eP (rC (.bool true)))))
def m__law_reach : List D → R D := fnD 7 (sSeq (sPar2 3 (mD (rLst (raNil))) 4 (mD (rLst (raCons (rV 1) (raNil))))) (sSeq (sFor (riR1 (rC (.int 8))) (tgV 5) (sSeq (sAsg (eP (r2 dAdd (rV 3) (rIf (r2 dGe (rV 5) (rV 2)) (rV 4) (rLst (raNil))))) (tgV 3)) (sSeq (sAsg (eP (rComp (riS (r2 dIx (rV 0) (rC (.int 1)))) (tgV 6) (rAnd (r2 dIn (r2 dIx (rV 6) (rC (.int 1))) (rV 4)) (r2 dEq (r2 dIx (rV 6) (rC (.int 2))) (rC (.str "follow")))) (r2 dIx (rV 6) (rC (.int 0))) [6])) (tgV 4)) (sAsg (eP (r1 dSortSet (rV 4))) (tgV 4)))) [5]) (sRet (eP (r1 dSortSet (rV 3))))))
def m__law_parts : List D → R D := fnD 7 (sSeq (sFor (riS (rCall m__law_reach (raCons (rV 0) (raCons (rV 1) (raCons (rC (.int 0)) (raNil)))))) (tgV 2) (sFor (riS (r2 dIx (rV 0) (rC (.int 1)))) (tgT (tgCons (tgV 3) (tgCons (tgV 4) (tgCons (tgV 5) (tgNil))))) (sSeq (sAsg (eP (rAnd (r2 dIn (rV 4) (rCall m__law_reach (raCons (rV 0) (raCons (rV 2) (raCons (rC (.int 0)) (raNil)))))) (r2 dIn (rV 3) (rCall m__law_reach (raCons (rV 0) (raCons (rV 2) (raCons (rC (.int 1)) (raNil)))))))) (tgV 6)) (sIf (eP (rAnd (r2 dEq (rV 5) (rC (.str "refuse"))) (rV 6))) (sRet (eP (rC (.bool true)))) (sNil))) []) [2, 3, 4, 5, 6]) (sRet (eP (rC (.bool false)))))
def m__law_plan : List Sl → Ro := fnE 9 1 (sSeq (sAsg (e2 dAdd (eP (rC (.int 1))) (eCallE m__law_draw 1 (a1S 0 (a1O 1 (a1D (rC (.int 3)) (a1Nil)))))) (tgV 2)) (sSeq (sPut 3 (nM (mL (rLst (raNil))))) (sSeq (sFor (riR1 (rV 2)) (tgV 4) (sDrop (eExt 3 (rComp (riR1 (rV 2)) (tgV 8) (rYes) (rTup (raCons (rV 4) (raCons (rV 8) (raNil)))) [8]))) [4]) (sSeq (sPut 5 (nM (mL (rLst (raNil))))) (sSeq (sForE (ieR1 (e2 dMin (eCallE m__law_draw 1 (a1S 0 (a1O 1 (a1D (rC (.int 7)) (a1Nil))))) (eP (r1 dLen (rL 3))))) (tgV 6) (sSeq (sAsg (eCallE m__law_draw 1 (a1S 0 (a1O 1 (a1D (r1 dLen (rL 3)) (a1Nil))))) (tgV 7)) (sSeq (sDrop (eAppE 5 (e2 dAdd (eP (r2 dIx (rL 3) (rV 7))) (eTup (eaCons (e2 dIx (eP (rTup (raCons (rC (.str "follow")) (raCons (rC (.str "follow")) (raCons (rC (.str "refuse")) (raCons (rC (.str "empty")) (raNil))))))) (eCallE m__law_draw 1 (a1S 0 (a1O 1 (a1D (rC (.int 4)) (a1Nil)))))) (eaNil)))))) (sPut 3 (nM (mL (r2 dCat (rSl (rL 3) (roNone) (roSome (rV 7))) (rSl (rL 3) (roSome (r2 dAdd (rV 7) (rC (.int 1)))) (roNone)))))))) [6, 7]) (sRet (eP (rTup (raCons (rV 2) (raCons (r1 dTuple (r1 dSorted (rL 5))) (raNil)))))))))))
def m__law_plans : List D → R D := fnD 6 (sSeq (sAsg (eP (rLst (raNil))) (tgV 1)) (sSeq (sFor (riR1 (rC (.int 3))) (tgV 2) (sAsg (eP (r2 dAdd (rV 1) (rComp (riR1 (rC (.int 3))) (tgV 5) (rYes) (rTup (raCons (rV 2) (raCons (rV 5) (raCons (rC (.str "follow")) (raNil))))) [5]))) (tgV 1)) [2]) (sSeq (sIf (eP (rOr (rNot (rCall m_is_plan (raCons (rTup (raCons (rC (.int 3)) (raCons (r1 dTuple (rSl (rV 1) (roNone) (roSome (rC (.int 6))))) (raNil)))) (raNil)))) (rOr (rCall m_is_plan (raCons (rTup (raCons (rC (.int 3)) (raCons (r1 dTuple (rSl (rV 1) (roNone) (roSome (rC (.int 7))))) (raNil)))) (raNil))) (rCall m_is_plan (raCons (rTup (raCons (rC (.int 1)) (raCons (rTup (raCons (rLst (raCons (rC (.int 0)) (raCons (rC (.int 0)) (raCons (rC (.str "follow")) (raNil))))) (raNil))) (raNil)))) (raNil)))))) (sRet (eP (rC (.bool false)))) (sNil)) (sSeq (sFor (riS (rTup (raCons (rTup (raCons (rV 0) (raCons (rC (.int 0)) (raCons (rC (.str "empty")) (raNil))))) (raCons (rTup (raCons (rC (.int 0)) (raCons (rV 0) (raCons (rC (.str "empty")) (raNil))))) (raCons (rTup (raCons (r1 dNeg (rC (.int 1))) (raCons (rC (.int 0)) (raCons (rC (.str "empty")) (raNil))))) (raCons (rTup (raCons (rC (.int 0)) (raCons (r1 dNeg (rC (.int 1))) (raCons (rC (.str "empty")) (raNil))))) (raCons (rC (.str "00e")) (raNil)))))))) (tgV 3) (sIf (eP (rCall m_is_plan (raCons (rTup (raCons (rV 0) (raCons (rTup (raCons (rV 3) (raNil))) (raNil)))) (raNil)))) (sRet (eP (rC (.bool false)))) (sNil)) []) (sSeq (sAsg (eP (rTup (raCons (rV 0) (raCons (rTup (raCons (rTup (raCons (rC (.int 0)) (raCons (r2 dSub (rV 0) (rC (.int 1))) (raCons (rC (.str "refuse")) (raNil))))) (raNil))) (raNil))))) (tgV 4)) (sSeq (sIf (eP (rNot (rCall m_is_plan (raCons (rV 4) (raNil))))) (sRet (eP (rC (.bool false)))) (sNil)) (sSeq (sIf (eP (rCall m_is_fitting (raCons (rV 4) (raCons (rTup (raCons (rV 0) (raNil))) (raCons (rTup (raCons (rC (.int 1)) (raCons (rTup (raNil)) (raNil)))) (raNil)))))) (sRet (eP (rC (.bool false)))) (sNil)) (sSeq (sIf (eP (rNot (rCall m_is_fitting (raCons (rV 4) (raCons (rTup (raCons (r2 dSub (rV 0) (rC (.int 1))) (raNil))) (raCons (rTup (raCons (rC (.int 1)) (raCons (rTup (raNil)) (raNil)))) (raNil))))))) (sRet (eP (rC (.bool false)))) (sNil)) (sSeq (sFor (riS (rTup (raCons (rC .none) (raCons (rTup (raCons (rC (.int 0)) (raCons (rTup (raNil)) (raNil)))) (raCons (rTup (raCons (rC (.int 1)) (raCons (rC .none) (raNil)))) (raCons (rC (.str "1")) (raCons (rTup (raCons (rTup (raCons (rC (.int 1)) (raCons (rTup (raNil)) (raNil)))) (raNil))) (raNil)))))))) (tgV 3) (sIf (eP (rCall m_is_fitting (raCons (rV 4) (raCons (rTup (raCons (rC (.int 0)) (raNil))) (raCons (rV 3) (raNil)))))) (sRet (eP (rC (.bool false)))) (sNil)) [3]) (sSeq (sIf (eP (rCall m_is_fitting (raCons (rV 4) (raCons (rLst (raCons (rC (.int 0)) (raNil))) (raCons (rTup (raCons (rC (.int 1)) (raCons (rTup (raNil)) (raNil)))) (raNil)))))) (sRet (eP (rC (.bool false)))) (sNil)) (sSeq (sIf (eP (rCall m_is_fitting (raCons (rV 4) (raCons (rTup (raCons (rC (.int 0)) (raCons (rC (.int 0)) (raNil)))) (raCons (rTup (raCons (rC (.int 1)) (raCons (rTup (raNil)) (raNil)))) (raNil)))))) (sRet (eP (rC (.bool false)))) (sNil)) (sSeq (sIf (eP (rCall m_is_fitting (raCons (rV 4) (raCons (rTup (raCons (rC (.bool true)) (raNil))) (raCons (rTup (raCons (rC (.int 1)) (raCons (rTup (raNil)) (raNil)))) (raNil)))))) (sRet (eP (rC (.bool false)))) (sNil)) (sRet (eP (rAnd (rNot (rCall m_is_example (raCons (rV 4) (raCons (rC (.int 0)) (raCons (rTup (raCons (rTup (raCons (rC (.int 1)) (raCons (rTup (raNil)) (raNil)))) (raCons (rTup (raCons (rC (.int 0)) (raNil))) (raCons (rC (.int 1)) (raNil))))) (raNil)))))) (rNot (rCall m_is_example (raCons (rV 4) (raCons (rC (.int 0)) (raCons (rTup (raCons (rTup (raCons (rC (.int 1)) (raCons (rTup (raNil)) (raNil)))) (raCons (rTup (raCons (rC (.int 0)) (raNil))) (raCons (r1 dNeg (rC (.int 1))) (raNil))))) (raNil)))))))))))))))))))))
def m__law_refused : List D → R D := fnD 3 (sSeq (sAsg (eP (rC (.bool false))) (tgV 2)) (sSeq (sTry "InvalidRow" (sDrop (eTmp (mMk m_Desk___init__ (rTup (raCons (rV 0) (raCons (rTup (raNil)) (raNil))))) m_Desk_link (a1D (rC (.int 0)) (a1D (rV 1) (a1D (rC (.str "follow")) (a1Nil)))))) (sAsg (eP (rC (.bool true))) (tgV 2))) (sRet (eP (rV 2)))))
def m_circle : List D → R D := fnD 7 (sSeq (sDrop (eP (rCall m_check_table (raCons (rV 0) (raNil))))) (sSeq (sPar2 1 (mD (rCall m_order_of (raCons (rV 0) (raNil)))) 2 (mD (rCall m_needs_of (raCons (rV 0) (raNil))))) (sSeq (sAsg (eP (rComp (riR1 (r2 dIx (rV 0) (rC (.int 0)))) (tgV 6) (r2 dNotIn (rV 6) (rV 1)) (rV 6) [6])) (tgV 3)) (sSeq (sIf (eP (r2 dEq (rV 3) (rLst (raNil)))) (sRet (eP (rC .none))) (sNil)) (sSeq (sAsg (eP (rTup (raCons (r2 dIx (rV 3) (rC (.int 0))) (raNil)))) (tgV 4)) (sWhile 5000 (eP (rC (.bool true))) (sSeq (sAsg (eP (r2 dIx (rComp (riS (r2 dIx (rV 2) (r2 dIx (rV 4) (r1 dNeg (rC (.int 1)))))) (tgV 6) (r2 dIn (rV 6) (rV 3)) (rV 6) [6]) (rC (.int 0)))) (tgV 5)) (sSeq (sIf (eP (r2 dIn (rV 5) (rV 4))) (sRet (eP (rSl (rV 4) (roSome (rTix (rV 4) (rV 5))) (roNone)))) (sNil)) (sAsg (eP (r2 dAdd (rV 4) (rTup (raCons (rV 5) (raNil))))) (tgV 4)))) [5]))))))
def m_starts : List D → R D := fnD 9 (sSeq (sDrop (eP (rCall m_check_table (raCons (rV 0) (raNil))))) (sSeq (sDrop (eP (rCall m_check_row (raCons (rV 0) (raCons (rV 1) (raNil)))))) (sSeq (sAsg (eP (rCall m_sure_starts (raCons (rV 0) (raCons (rV 1) (raNil))))) (tgV 2)) (sSeq (sPut 3 (nM (mL (rLst (raNil))))) (sSeq (sFor (riS (rV 2)) (tgV 4) (sSeq (sAsg (eP (rComp (riS (rV 4)) (tgV 6) (r2 dNe (rV 6) (rV 1)) (r1 dTuple (rComp (riS (rV 4)) (tgV 7) (r2 dNe (rV 7) (rV 6)) (rV 7) [7])) [6])) (tgV 5)) (sIf (eP (rNot (r1 dAny (rComp (riS (rV 5)) (tgV 8) (rYes) (r2 dIn (rV 8) (rV 2)) [8])))) (sDrop (eApp 3 (rV 4))) (sNil))) [4, 5]) (sRet (eP (r1 dTuple (r1 dSorted (rL 3))))))))))
def m__law_ring : List D → R D := fnD 5 (sSeq (sAsg (eP (rTup (raCons (rV 0) (raCons (r1 dTuple (r1 dSorted (rComp (riR1 (rV 0)) (tgV 4) (rYes) (rTup (raCons (rV 4) (raCons (r2 dMod (r2 dAdd (rV 4) (rC (.int 1))) (rV 0)) (raCons (rC (.str "follow")) (raNil))))) [4]))) (raNil))))) (tgV 1)) (sSeq (sIf (eP (rOr (r2 dNe (rCall m_taken (raCons (rV 1) (raCons (rTup (raCons (rC (.int 0)) (raNil))) (raNil)))) (rTR (riR1 (rV 0)))) (rOr (r2 dIsNot (rCall m_first_order (raCons (rV 1) (raNil))) (rC .none)) (r2 dNe (r1 dLen (rCall m_circle (raCons (rV 1) (raNil)))) (rV 0))))) (sRet (eP (rC (.bool false)))) (sNil)) (sSeq (sAsg (eP (rTup (raCons (rV 0) (raCons (r1 dTuple (rComp (riS (r2 dIx (rV 1) (rC (.int 1)))) (tgV 3) (rYes) (r2 dAdd (rSl (rV 3) (roNone) (roSome (rC (.int 2)))) (rTup (raCons (rC (.str "refuse")) (raNil)))) [3])) (raNil))))) (tgV 2)) (sSeq (sIf (eP (rOr (r2 dNe (rCall m_verdict (raCons (rV 2) (raCons (rTup (raCons (rC (.int 0)) (raNil))) (raNil)))) (rC (.str "fails"))) (rOr (r2 dNe (rCall m_starts (raCons (rV 2) (raCons (rC (.int 0)) (raNil)))) (rTup (raCons (rTR (riR1 (rV 0))) (raNil)))) (r2 dNe (rCall m_loosened (raCons (rV 2) (raNil))) (rTup (raCons (rC (.int 0)) (raNil))))))) (sRet (eP (rC (.bool false)))) (sNil)) (sRet (eP (r2 dEq (rCall m_count_orders (raCons (rTup (raCons (rV 0) (raCons (r1 dTuple (rComp (riS (r2 dIx (rV 1) (rC (.int 1)))) (tgV 3) (rYes) (r2 dAdd (rSl (rV 3) (roNone) (roSome (rC (.int 2)))) (rTup (raCons (rC (.str "empty")) (raNil)))) [3])) (raNil)))) (raNil))) (r2 dIx (rTup (raCons (rC (.int 2)) (raCons (rC (.int 6)) (raCons (rC (.int 24)) (raCons (rC (.int 120)) (raNil)))))) (r2 dSub (rV 0) (rC (.int 2)))))))))))
def m__law_rows : List D → R D := fnD 6 (sSeq (sAsg (eP (rLst (raCons (rTup (raNil)) (raNil)))) (tgV 1)) (sSeq (sFor (riR1 (rV 0)) (tgV 2) (sSeq (sPut 3 (nM (mL (rLst (raNil))))) (sSeq (sFor (riS (rV 1)) (tgV 4) (sDrop (eExt 3 (rComp (riR1 (rV 0)) (tgV 5) (r2 dNotIn (rV 5) (rV 4)) (r2 dAdd (rV 4) (rTup (raCons (rV 5) (raNil)))) [5]))) []) (sFz 3 (sAsg (eP (rV 3)) (tgV 1))))) [2, 3, 4]) (sRet (eP (rV 1)))))
def m__law_same : List D → R D := fnD 7 (sSeq (sAsg (eP (rCall m__law_named (raCons (rV 2) (raCons (rV 3) (raNil))))) (tgV 4)) (sSeq (sIf (eP (rOr (r2 dNe (rCall m_verdict (raCons (rV 1) (raCons (rV 4) (raNil)))) (rCall m_verdict (raCons (rV 0) (raCons (rV 3) (raNil))))) (r2 dNe (rCall m_count_runs (raCons (rV 1) (raCons (rV 4) (raNil)))) (rCall m_count_runs (raCons (rV 0) (raCons (rV 3) (raNil))))))) (sRet (eP (rC (.bool false)))) (sNil)) (sSeq (sIf (eP (r2 dNe (rCall m_taken (raCons (rV 1) (raCons (rV 4) (raNil)))) (rCall m__law_named (raCons (rV 2) (raCons (rCall m_taken (raCons (rV 0) (raCons (rV 3) (raNil)))) (raNil)))))) (sRet (eP (rC (.bool false)))) (sNil)) (sSeq (sIf (eP (r2 dNe (r1 dLen (rCall m_refused (raCons (rV 1) (raCons (rV 4) (raNil))))) (r1 dLen (rCall m_refused (raCons (rV 0) (raCons (rV 3) (raNil))))))) (sRet (eP (rC (.bool false)))) (sNil)) (sSeq (sPar2 5 (mD (r2 dIx (rV 3) (rC (.int 0)))) 6 (mD (r2 dSub (r2 dIx (rV 0) (rC (.int 0))) (rC (.int 1))))) (sRet (eP (r2 dEq (rCall m_is_earlier (raCons (rV 1) (raCons (rV 4) (raCons (r2 dIx (rV 2) (rV 5)) (raCons (r2 dIx (rV 2) (rV 6)) (raNil)))))) (rCall m_is_earlier (raCons (rV 0) (raCons (rV 3) (raCons (rV 5) (raCons (rV 6) (raNil))))))))))))))
def m_bad_run : List D → R D := fnD 2 (sSeq (sDrop (eP (rCall m_check_start (raCons (rV 0) (raCons (rV 1) (raNil)))))) (sRet (eP (r2 dIx (rCall m_some_runs (raCons (r2 dIx (rV 0) (rC (.int 1))) (raCons (rV 1) (raNil)))) (rC (.int 1))))))
def m__law_shop : List D → R D := fnD 3 (sSeq (sAsg (eP (rTup (raCons (rC (.int 3)) (raCons (rTup (raCons (rTup (raCons (rC (.int 1)) (raCons (rC (.int 0)) (raCons (rC (.str "follow")) (raNil))))) (raCons (rTup (raCons (rC (.int 2)) (raCons (rC (.int 0)) (raCons (rC (.str "refuse")) (raNil))))) (raCons (rTup (raCons (rC (.int 2)) (raCons (rC (.int 1)) (raCons (rC (.str "follow")) (raNil))))) (raNil))))) (raNil))))) (tgV 0)) (sSeq (sIf (eP (r2 dNe (rCall m_verdict (raCons (rV 0) (raCons (rTup (raCons (rC (.int 0)) (raNil))) (raNil)))) (rC (.str "parts")))) (sRet (eP (rC (.bool false)))) (sNil)) (sSeq (sIf (eP (r2 dNe (rCall m_count_runs (raCons (rV 0) (raCons (rTup (raCons (rC (.int 0)) (raNil))) (raNil)))) (rTup (raCons (rC (.int 1)) (raCons (rC (.int 2)) (raNil)))))) (sRet (eP (rC (.bool false)))) (sNil)) (sSeq (sIf (eP (r2 dNe (rCall m_refused (raCons (rV 0) (raCons (rTup (raCons (rC (.int 0)) (raNil))) (raNil)))) (rTup (raCons (rTup (raCons (rC (.int 2)) (raCons (rC (.int 0)) (raCons (rC (.str "refuse")) (raNil))))) (raNil))))) (sRet (eP (rC (.bool false)))) (sNil)) (sSeq (sIf (eP (rOr (r2 dNe (rCall m_good_run (raCons (rV 0) (raCons (rTup (raCons (rC (.int 0)) (raNil))) (raNil)))) (rTup (raCons (rTup (raCons (rC (.int 1)) (raCons (rC (.int 0)) (raCons (rC (.str "follow")) (raNil))))) (raCons (rTup (raCons (rC (.int 2)) (raCons (rC (.int 1)) (raCons (rC (.str "follow")) (raNil))))) (raNil))))) (r2 dNe (rCall m_starts (raCons (rV 0) (raCons (rC (.int 0)) (raNil)))) (rTup (raCons (rTup (raCons (rC (.int 0)) (raCons (rC (.int 2)) (raNil)))) (raNil)))))) (sRet (eP (rC (.bool false)))) (sNil)) (sSeq (sIf (eP (rOr (r2 dNe (r2 dIx (rCall m_bad_run (raCons (rV 0) (raCons (rTup (raCons (rC (.int 0)) (raNil))) (raNil)))) (r1 dNeg (rC (.int 1)))) (rTup (raCons (rC (.int 2)) (raCons (rC (.int 0)) (raCons (rC (.str "refuse")) (raNil)))))) (r2 dNe (rCall m_fewest_changes (raCons (rV 0) (raCons (rTup (raCons (rC (.int 0)) (raNil))) (raNil)))) (rTup (raCons (rTup (raCons (rC (.int 1)) (raCons (rC (.str "empty")) (raNil)))) (raNil)))))) (sRet (eP (rC (.bool false)))) (sNil)) (sSeq (sAsg (eP (rTup (raCons (rC (.int 3)) (raCons (rTup (raCons (rTup (raCons (rC (.int 1)) (raCons (rC (.int 0)) (raCons (rC (.str "follow")) (raNil))))) (raCons (rTup (raCons (rC (.int 2)) (raCons (rC (.int 0)) (raCons (rC (.str "refuse")) (raNil))))) (raCons (rTup (raCons (rC (.int 2)) (raCons (rC (.int 1)) (raCons (rC (.str "follow")) (raNil))))) (raNil))))) (raNil))))) (tgV 1)) (sSeq (sIf (eP (rOr (rNot (rCall m_can_part (raCons (rV 1) (raCons (rC (.int 0)) (raNil))))) (rOr (rCall m_can_part (raCons (rV 1) (raCons (rC (.int 1)) (raNil)))) (rOr (r2 dNe (rCall m_can_take (raCons (rV 1) (raCons (rC (.int 1)) (raNil)))) (rTup (raCons (rC (.int 1)) (raCons (rC (.int 2)) (raNil))))) (rCall m_can_fail (raCons (rV 1) (raCons (rC (.int 1)) (raNil)))))))) (sRet (eP (rC (.bool false)))) (sNil)) (sSeq (sAsg (eP (rCall m_example (raCons (rV 1) (raCons (rC (.int 0)) (raNil))))) (tgV 2)) (sSeq (sIf (eP (rOr (rNot (rCall m_is_example (raCons (rV 1) (raCons (rC (.int 0)) (raCons (rV 2) (raNil)))))) (rOr (r2 dNe (r2 dIx (r2 dIx (rV 2) (rC (.int 0))) (rC (.int 0))) (rC (.int 3))) (r2 dNe (r1 dLen (r2 dIx (r2 dIx (rV 2) (rC (.int 0))) (rC (.int 1)))) (rC (.int 3)))))) (sRet (eP (rC (.bool false)))) (sNil)) (sRet (eP (rAnd (rCall m_is_example (raCons (rV 1) (raCons (rC (.int 0)) (raCons (rTup (raCons (rV 0) (raCons (rTup (raCons (rC (.int 0)) (raCons (rC (.int 1)) (raCons (rC (.int 2)) (raNil))))) (raCons (rC (.int 0)) (raNil))))) (raNil))))) (r2 dIs (rCall m_example (raCons (rTup (raCons (rC (.int 1)) (raCons (rTup (raCons (rTup (raCons (rC (.int 0)) (raCons (rC (.int 0)) (raCons (rC (.str "refuse")) (raNil))))) (raNil))) (raNil)))) (raCons (rC (.int 0)) (raNil)))) (rC .none)))))))))))))))
def m__law_small : List D → R D := fnD 13 (sSeq (sAsg (eP (rLst (raCons (rTup (raCons (rV 1) (raNil))) (raNil)))) (tgV 3)) (sSeq (sFor (riR1 (r2 dSub (rV 2) (rC (.int 1)))) (tgV 4) (sSeq (sPut 5 (nM (mL (rLst (raNil))))) (sSeq (sFor (riS (rV 3)) (tgV 6) (sDrop (eExt 5 (rComp (riR1 (r2 dIx (rV 0) (rC (.int 0)))) (tgV 8) (rYes) (r2 dAdd (rV 6) (rTup (raCons (rV 8) (raNil)))) [8]))) []) (sFz 5 (sAsg (eP (rV 5)) (tgV 3))))) [4, 5]) (sSeq (sFor (riS (rV 3)) (tgV 6) (sSeq (sAsg (eP (rLst (raCons (rTup (raNil)) (raNil)))) (tgV 7)) (sSeq (sFor (riR1 (rV 2)) (tgV 8) (sFor (riR1 (rV 2)) (tgV 9) (sSeq (sAsg (eP (rComp (riS (r2 dIx (rV 0) (rC (.int 1)))) (tgV 12) (r2 dEq (rSl (rV 12) (roNone) (roSome (rC (.int 2)))) (rTup (raCons (r2 dIx (rV 6) (rV 8)) (raCons (r2 dIx (rV 6) (rV 9)) (raNil))))) (r2 dIx (rV 12) (rC (.int 2))) [12])) (tgV 10)) (sIf (eP (rAnd (r2 dNe (rV 8) (rV 9)) (r2 dNe (rV 10) (rLst (raNil))))) (sAsg (eP (r2 dAdd (rV 7) (rComp (riS (rV 7)) (tgV 11) (rYes) (r2 dAdd (rV 11) (rTup (raCons (rTup (raCons (rV 8) (raCons (rV 9) (raCons (r2 dIx (rV 10) (rC (.int 0))) (raNil))))) (raNil)))) [11]))) (tgV 7)) (sNil))) []) []) (sIf (eP (r2 dNe (rComp (riS (rV 7)) (tgV 11) (r2 dEq (rCall m_verdict (raCons (rTup (raCons (rV 2) (raCons (rV 11) (raNil)))) (raCons (rTup (raCons (rC (.int 0)) (raNil))) (raNil)))) (rC (.str "parts"))) (rC (.int 1)) [11]) (rLst (raNil)))) (sRet (eP (rC (.bool true)))) (sNil)))) [6, 7, 8, 9, 10]) (sRet (eP (rC (.bool false)))))))
def m__law_start : List Sl → Ro := fnE 5 1 (sSeq (sParE [3, 4] (eaCons (eCallE m__law_draw 1 (a1S 0 (a1O 1 (a1D (r2 dIx (rV 2) (rC (.int 0))) (a1Nil))))) (eaCons (eCallE m__law_draw 1 (a1S 0 (a1O 1 (a1D (r2 dIx (rV 2) (rC (.int 0))) (a1Nil))))) (eaNil)))) (sRet (eIf (e2 dEq (eCallE m__law_draw 1 (a1S 0 (a1O 1 (a1D (rC (.int 3)) (a1Nil))))) (eP (rC (.int 0)))) (eP (r1 dTuple (r1 dSortSet (rLst (raCons (rV 3) (raCons (rV 4) (raNil))))))) (eP (rTup (raCons (rV 3) (raNil)))))))
def m__law_starts : List D → R D := fnD 5 (sSeq (sAsg (eP (rLst (raCons (rTup (raNil)) (raNil)))) (tgV 2)) (sSeq (sFor (riR1 (r2 dIx (rV 0) (rC (.int 0)))) (tgV 3) (sAsg (eP (r2 dAdd (rV 2) (rComp (riS (rV 2)) (tgV 4) (rYes) (r2 dAdd (rV 4) (rTup (raCons (rV 3) (raNil)))) [4]))) (tgV 2)) [3]) (sRet (eP (rComp (riS (rV 2)) (tgV 4) (rAnd (r2 dIn (rV 1) (rV 4)) (r2 dEq (rCall m_verdict (raCons (rV 0) (raCons (rV 4) (raNil)))) (rC (.str "goes")))) (rV 4) [4])))))
def m__law_table : List Sl → Ro := fnE 12 1 (sSeq (sAsg (e2 dAdd (eP (rC (.int 1))) (eCallE m__law_draw 1 (a1S 0 (a1O 1 (a1D (rV 2) (a1Nil)))))) (tgV 4)) (sSeq (sPut 5 (nM (mL (rLst (raNil))))) (sSeq (sFor (riR1 (rV 4)) (tgV 6) (sDrop (eExt 5 (rComp (riR1 (rV 4)) (tgV 11) (r2 dNe (rV 11) (rV 6)) (rTup (raCons (rV 6) (raCons (rV 11) (raNil)))) [11]))) [6]) (sSeq (sPut 7 (nM (mL (rLst (raNil))))) (sSeq (sForE (ieR1 (e2 dMin (eCallE m__law_draw 1 (a1S 0 (a1O 1 (a1D (r2 dAdd (rV 3) (rC (.int 1))) (a1Nil))))) (eP (r1 dLen (rL 5))))) (tgV 8) (sSeq (sAsg (eCallE m__law_draw 1 (a1S 0 (a1O 1 (a1D (r1 dLen (rL 5)) (a1Nil))))) (tgV 9)) (sSeq (sAsg (e2 dIx (eP (rTup (raCons (rC (.str "follow")) (raCons (rC (.str "follow")) (raCons (rC (.str "refuse")) (raCons (rC (.str "refuse")) (raCons (rC (.str "empty")) (raNil)))))))) (eCallE m__law_draw 1 (a1S 0 (a1O 1 (a1D (rC (.int 5)) (a1Nil)))))) (tgV 10)) (sSeq (sDrop (eApp 7 (rTup (raCons (r2 dIx (r2 dIx (rL 5) (rV 9)) (rC (.int 0))) (raCons (r2 dIx (r2 dIx (rL 5) (rV 9)) (rC (.int 1))) (raCons (rV 10) (raNil))))))) (sPut 5 (nM (mL (r2 dCat (rSl (rL 5) (roNone) (roSome (rV 9))) (rSl (rL 5) (roSome (r2 dAdd (rV 9) (rC (.int 1)))) (roNone))))))))) [8, 9, 10]) (sRet (eP (rTup (raCons (rV 4) (raCons (r1 dTuple (r1 dSorted (rL 7))) (raNil)))))))))))
def m__law_turned : List D → R D := fnD 7 (sSeq (sAsg (eP (rLE (r2 dIx (rV 0) (rC (.int 1))))) (tgV 4)) (sRet (eP (r1 dTuple (rComp (riS (rV 4)) (tgT (tgCons (tgV 5) (tgCons (tgV 6) (tgNil)))) (rAnd (r2 dEq (r2 dIx (rV 6) (rC (.int 2))) (rV 1)) (rOr (r2 dIs (rV 3) (rC .none)) (r2 dEq (rV 5) (rV 3)))) (rTup (raCons (rV 5) (raCons (rV 2) (raNil)))) [5, 6])))))
def m__law_walk : List Sl → Ro := fnE 9 1 (sSeq (sPar3 4 (mD (r1 dList (rV 3))) 5 (mD (rLst (raNil))) 6 (mD (rTup (raNil)))) (sSeq (sAsg (eP (rCall m__law_open (raCons (rV 2) (raCons (rV 4) (raCons (rV 5) (raNil)))))) (tgV 7)) (sSeq (sWhile 5000 (eP (rAnd (r2 dNe (rV 7) (rLst (raNil))) (rOr (r2 dEq (rV 6) (rTup (raNil))) (r2 dNe (r2 dIx (r2 dIx (rV 6) (r1 dNeg (rC (.int 1)))) (rC (.int 2))) (rC (.str "refuse")))))) (sSeq (sAsg (e2 dIx (eP (rV 7)) (eCallE m__law_draw 1 (a1S 0 (a1O 1 (a1D (r1 dLen (rV 7)) (a1Nil)))))) (tgV 8)) (sSeq (sAsg (eP (r2 dAdd (rV 4) (rIf (r2 dEq (r2 dIx (rV 8) (rC (.int 2))) (rC (.str "follow"))) (rLst (raCons (r2 dIx (rV 8) (rC (.int 0))) (raNil))) (rLst (raNil))))) (tgV 4)) (sSeq (sPar2 5 (mD (r2 dAdd (rV 5) (rIf (r2 dEq (r2 dIx (rV 8) (rC (.int 2))) (rC (.str "empty"))) (rLst (raCons (rV 8) (raNil))) (rLst (raNil))))) 6 (mD (r2 dAdd (rV 6) (rTup (raCons (rV 8) (raNil)))))) (sAsg (eP (rCall m__law_open (raCons (rV 2) (raCons (rV 4) (raCons (rV 5) (raNil)))))) (tgV 7))))) [8]) (sRet (eP (rV 6))))))
def m_is_among : List D → R D := fnD 3 (sSeq (sIf (eP (rOr (rNot (r1 (dIsi "tuple") (rV 0))) (r2 dNe (r1 dLen (rV 0)) (rC (.int 3))))) (sRet (eP (rC (.bool false)))) (sNil)) (sSeq (sIf (eP (r1 dAny (rComp (riS (rSl (rV 0) (roNone) (roSome (rC (.int 2))))) (tgV 2) (rYes) (r1 (dIsi "bool") (rV 2)) [2]))) (sRet (eP (rC (.bool false)))) (sNil)) (sRet (eP (r2 dIn (rV 0) (rV 1))))))
def m_end_of : List D → R D := fnD 5 (sSeq (sIf (eP (rNot (r1 (dIsi "tuple") (rV 2)))) (sRet (eP (rC .none))) (sNil)) (sSeq (sAsg (eP (rTup (raCons (rV 1) (raCons (rTup (raNil)) (raNil))))) (tgV 3)) (sSeq (sFor (riS (rV 2)) (tgV 4) (sSeq (sIf (eP (rOr (r2 dIs (rV 3) (rC .none)) (rNot (rCall m_is_among (raCons (rV 4) (raCons (rCall m_open_in (raCons (rV 0) (raCons (r2 dIx (rV 3) (rC (.int 0))) (raCons (r2 dIx (rV 3) (rC (.int 1))) (raNil))))) (raNil))))))) (sRet (eP (rC .none))) (sNil)) (sAsg (eP (rCall m_handled (raCons (r2 dIx (rV 3) (rC (.int 0))) (raCons (r2 dIx (rV 3) (rC (.int 1))) (raCons (rV 4) (raNil)))))) (tgV 3))) [4]) (sSeq (sIf (eP (r2 dIs (rV 3) (rC .none))) (sRet (eP (rC (.str "fails")))) (sNil)) (sRet (eP (rIf (r2 dEq (rCall m_open_in (raCons (rV 0) (raCons (r2 dIx (rV 3) (rC (.int 0))) (raCons (r2 dIx (rV 3) (rC (.int 1))) (raNil))))) (rLst (raNil))) (rC (.str "goes")) (rC .none))))))))
def m_is_run : List D → R D := fnD 3 (sSeq (sDrop (eP (rCall m_check_start (raCons (rV 0) (raCons (rV 1) (raNil)))))) (sRet (eP (r2 dIsNot (rCall m_end_of (raCons (r2 dIx (rV 0) (rC (.int 1))) (raCons (rV 1) (raCons (rV 2) (raNil))))) (rC .none)))))
def m_run_ends : List D → R D := fnD 4 (sSeq (sDrop (eP (rCall m_check_start (raCons (rV 0) (raCons (rV 1) (raNil)))))) (sSeq (sAsg (eP (rCall m_end_of (raCons (r2 dIx (rV 0) (rC (.int 1))) (raCons (rV 1) (raCons (rV 2) (raNil)))))) (tgV 3)) (sSeq (sIf (eP (r2 dIs (rV 3) (rC .none))) (sRaise "InvalidRun") (sNil)) (sRet (eP (rV 3))))))
end Rf

/-! M0: data as codes of plain values; the combinators' plain laws. -/
namespace Rf
open PySem PySem.Spec
/-! ### codes -/
inductive Rule where
  | emp | fol | ref
  deriving DecidableEq
def Rule.str : Rule → Str
  | .emp => "empty"
  | .fol => "follow"
  | .ref => "refuse"
structure Edge where
  s : Int
  t : Int
  r : Rule
  deriving DecidableEq
/-- a code of values of α -/
class En (α : Type) where
  enc : α → D
  dep : Nat
  eqv : ∀ a b, PyData.eqv (enc a) (enc b) = true ↔ a = b
  lay : ∀ a, (enc a).canLay0 = true
  depth : ∀ a, (enc a).depth ≤ dep
open En (enc)
theorem eqvAll_map {α : Type} [En α] : ∀ (l m : List α), PyData.eqvAll (l.map enc) (m.map enc) = true ↔ l = m
  | [], [] => by simp [PyData.eqvAll]
  | [], _ :: _ => by simp [PyData.eqvAll]
  | _ :: _, [] => by simp [PyData.eqvAll]
  | a :: l, b :: m => by simp [PyData.eqvAll, En.eqv, eqvAll_map l m]
theorem layAll_map {α : Type} [En α] : ∀ l : List α, PyData.canLayAll0 (l.map enc) = true
  | [] => rfl
  | a :: l => by simp [PyData.canLayAll0, En.lay, layAll_map l]
theorem depthAll_map {α : Type} [En α] : ∀ l : List α, PyData.depthAll (l.map enc) ≤ En.dep α
  | [] => Nat.zero_le _
  | a :: l => by
    have h1 := En.depth a
    have h2 := depthAll_map l
    simp only [List.map_cons, PyData.depthAll]
    omega
instance : En Int where
  enc := .int
  dep := 0
  eqv a b := by simp [PyData.eqv]
  lay _ := rfl
  depth _ := by simp [PyData.depth]
instance : En Bool where
  enc := .bool
  dep := 0
  eqv a b := by simp [PyData.eqv]
  lay _ := rfl
  depth _ := by simp [PyData.depth]
theorem Rule.str_inj : ∀ {a b : Rule}, a.str = b.str → a = b := by
  intro a b h
  cases a <;> cases b <;> first | rfl | (exact absurd h (by decide +kernel))
instance : En Rule where
  enc r := .str r.str
  dep := 0
  eqv a b := by
    simp only [PyData.eqv, beq_iff_eq]
    exact ⟨Rule.str_inj, fun h => by rw [h]⟩
  lay r := by cases r <;> decide +kernel
  depth _ := by simp [PyData.depth]
instance : En Edge where
  enc e := .tuple [.int e.s, .int e.t, .str e.r.str]
  dep := 1
  eqv a b := by
    cases a; cases b
    simp only [PyData.eqv, PyData.eqvAll, beq_iff_eq, Bool.and_true, Bool.and_eq_true, Edge.mk.injEq]
    constructor
    · intro ⟨h1, h2, h3⟩
      exact ⟨h1, h2, Rule.str_inj h3⟩
    · intro ⟨h1, h2, h3⟩
      exact ⟨h1, h2, by rw [h3]⟩
  lay e := by
    have h : (PyData.str e.r.str).canLay0 = true := En.lay e.r
    simp only [PyData.canLay0, PyData.canLayAll0, Bool.true_and, Bool.and_true] at h ⊢
    exact h
  depth e := by simp [PyData.depth, PyData.depthAll]
instance {α β : Type} [En α] [En β] : En (α × β) where
  enc p := .tuple [enc p.1, enc p.2]
  dep := max (En.dep α) (En.dep β) + 1
  eqv a b := by
    cases a; cases b
    simp [PyData.eqv, PyData.eqvAll, En.eqv]
  lay p := by simp [PyData.canLay0, PyData.canLayAll0, En.lay]
  depth p := by
    have h1 := En.depth p.1
    have h2 := En.depth p.2
    simp only [PyData.depth, PyData.depthAll]
    omega
instance {α : Type} [En α] : En (List α) where
  enc l := .tuple (l.map enc)
  dep := En.dep α + 1
  eqv a b := by simp only [PyData.eqv]; exact eqvAll_map a b
  lay l := by simp only [PyData.canLay0]; exact layAll_map l
  depth l := by
    have h := depthAll_map l
    simp only [PyData.depth]
    omega
/-- a Python list -/
def encL {α : Type} [En α] (l : List α) : D := .list (l.map enc)
theorem eqv_dec {α : Type} [En α] [DecidableEq α] (a b : α) : PyData.eqv (enc a) (enc b) = decide (a = b) := by
  rw [Bool.eq_iff_iff]
  simp [En.eqv]
theorem shaped_enc {α : Type} [En α] (h : En.dep α ≤ 64) (a : α) : SeqAt.shaped (enc a) = true := by
  have h1 := En.depth a
  simp only [SeqAt.shaped, En.lay, Bool.true_and, decide_eq_true_eq]
  omega
theorem shaped_encL {α : Type} [En α] (h : En.dep α ≤ 63) (l : List α) : SeqAt.shaped (encL l) = true := by
  have h1 := depthAll_map l
  simp only [SeqAt.shaped, encL, PyData.canLay0, layAll_map, Bool.true_and, decide_eq_true_eq, PyData.depth]
  omega
theorem any_eqv {α : Type} [En α] [DecidableEq α] (l : List α) (a : α) : ((l.map enc).any fun z => PyData.eqv z (enc a)) = decide (a ∈ l) := by
  rw [Bool.eq_iff_iff]
  simp only [List.any_map, List.any_eq_true, Function.comp, decide_eq_true_eq]
  constructor
  · rintro ⟨x, h, e⟩
    rw [(En.eqv x a).mp e] at h
    exact h
  · intro h
    exact ⟨a, h, (En.eqv a a).mpr rfl⟩
/-! ### operators over codes -/
theorem dEq_enc {α : Type} [En α] [DecidableEq α] (a b : α) (h : En.dep α ≤ 64 := by decide) : dEq (enc a) (enc b) = .ok (.bool (decide (a = b))) := by
  unfold dEq
  rw [if_pos ⟨shaped_enc h a, shaped_enc h b⟩, eqv_dec]
theorem dNe_enc {α : Type} [En α] [DecidableEq α] (a b : α) (h : En.dep α ≤ 64 := by decide) : dNe (enc a) (enc b) = .ok (.bool (!decide (a = b))) := by
  unfold dNe
  rw [if_pos ⟨shaped_enc h a, shaped_enc h b⟩, eqv_dec]
theorem dIn_enc {α : Type} [En α] [DecidableEq α] (a : α) (l : List α) (h : En.dep α ≤ 63 := by decide) : dIn (enc a) (enc l) = .ok (.bool (decide (a ∈ l))) := by
  have h2 : SeqAt.shaped (PyData.tuple (l.map enc)) = true := shaped_enc (α := List α) (by show En.dep α + 1 ≤ 64; omega) l
  show (if SeqAt.shaped (enc a) = true ∧ SeqAt.shaped (PyData.tuple (l.map enc)) = true then (R.ok (.bool ((l.map enc).any fun z => PyData.eqv z (enc a))) : R D) else .bad) = _
  rw [if_pos ⟨shaped_enc (by omega) a, h2⟩, any_eqv]
theorem dNotIn_enc {α : Type} [En α] [DecidableEq α] (a : α) (l : List α) (h : En.dep α ≤ 63 := by decide) : dNotIn (enc a) (enc l) = .ok (.bool (!decide (a ∈ l))) := by
  have h2 : SeqAt.shaped (PyData.tuple (l.map enc)) = true := shaped_enc (α := List α) (by show En.dep α + 1 ≤ 64; omega) l
  show (if SeqAt.shaped (enc a) = true ∧ SeqAt.shaped (PyData.tuple (l.map enc)) = true then (R.ok (.bool (!(l.map enc).any fun z => PyData.eqv z (enc a))) : R D) else .bad) = _
  rw [if_pos ⟨shaped_enc (by omega) a, h2⟩, any_eqv]
theorem dIn_encL {α : Type} [En α] [DecidableEq α] (a : α) (l : List α) (h : En.dep α ≤ 63 := by decide) : dIn (enc a) (encL l) = .ok (.bool (decide (a ∈ l))) := by
  have h2 : SeqAt.shaped (PyData.list (l.map enc)) = true := shaped_encL h l
  show (if SeqAt.shaped (enc a) = true ∧ SeqAt.shaped (PyData.list (l.map enc)) = true then (R.ok (.bool ((l.map enc).any fun z => PyData.eqv z (enc a))) : R D) else .bad) = _
  rw [if_pos ⟨shaped_enc (by omega) a, h2⟩, any_eqv]
theorem dNotIn_encL {α : Type} [En α] [DecidableEq α] (a : α) (l : List α) (h : En.dep α ≤ 63 := by decide) : dNotIn (enc a) (encL l) = .ok (.bool (!decide (a ∈ l))) := by
  have h2 : SeqAt.shaped (PyData.list (l.map enc)) = true := shaped_encL h l
  show (if SeqAt.shaped (enc a) = true ∧ SeqAt.shaped (PyData.list (l.map enc)) = true then (R.ok (.bool (!(l.map enc).any fun z => PyData.eqv z (enc a))) : R D) else .bad) = _
  rw [if_pos ⟨shaped_enc (by omega) a, h2⟩, any_eqv]
theorem dEq_rule (a b : Rule) : dEq (.str a.str) (.str b.str) = .ok (.bool (decide (a = b))) := dEq_enc a b
theorem dNe_rule (a b : Rule) : dNe (.str a.str) (.str b.str) = .ok (.bool (!decide (a = b))) := dNe_enc a b
/-! ### comprehensions, loops -/
/-! ### the combinators, for simp -/
def andR (x y : R D) : R D := x.bind fun
  | .bool true => y
  | .bool false => .ok (.bool false)
  | _ => .bad
def orR (x y : R D) : R D := x.bind fun
  | .bool true => .ok (.bool true)
  | .bool false => y
  | _ => .bad
def ifR (t x y : R D) : R D := t.bind fun
  | .bool true => x
  | .bool false => y
  | _ => .bad
def notR (x : R D) : R D := x.bind fun
  | .bool b => .ok (.bool (!b))
  | _ => .bad
def chR (op' : D → D → R D) (y : D) (c : R D) (x : R D) : R D := x.bind fun
  | .bool true => c.bind fun z => op' y z
  | .bool false => .ok (.bool false)
  | _ => .bad
def upE (x : R D) (ρ : Rho) : Res D := match x with
  | .ok d => .ok d ρ
  | .exc c => .exc c ρ
  | .bad => .bad
def ifS (t : Res D) (a b : Sf) : Res Flw := t.bind fun d ρ1 => match d with
  | .bool true => a ρ1
  | .bool false => b ρ1
  | _ => .bad
def seqS (a : Res Flw) (b : Sf) : Res Flw := a.bind fun fl ρ1 => match fl with
  | .nx => b ρ1
  | fl => .ok fl ρ1
def retS (e : Res D) : Res Flw := e.bind fun d ρ1 => .ok (.rt d) ρ1
def asgS (e : Res D) (g : Tg) : Res Flw := e.bind fun d ρ1 => match g d ρ1 with
  | some ρ2 => .ok .nx ρ2
  | none => .bad
def dropS (e : Res D) : Res Flw := e.bind fun _ ρ1 => .ok .nx ρ1
def outD : Res Flw → R D
  | .ok (.rt d) _ => .ok d
  | .ok .nx _ => .ok .none
  | .exc c _ => .exc c
  | _ => .bad
theorem rAnd_eq (a b : E0f) (ρ : Rho) : rAnd a b ρ = andR (a ρ) (b ρ) := rfl
theorem rOr_eq (a b : E0f) (ρ : Rho) : rOr a b ρ = orR (a ρ) (b ρ) := rfl
theorem rNot_eq (a : E0f) (ρ : Rho) : rNot a ρ = notR (a ρ) := rfl
theorem rIf_eq (t a b : E0f) (ρ : Rho) : rIf t a b ρ = ifR (t ρ) (a ρ) (b ρ) := rfl
theorem rChain_eq (op op' : D → D → R D) (a b c : E0f) (ρ : Rho) : rChain op op' a b c ρ = (a ρ).bind fun x => (b ρ).bind fun y => chR op' y (c ρ) (op x y) := rfl
theorem eP_eq (f : E0f) (ρ : Rho) : eP f ρ = upE (f ρ) ρ := rfl
theorem sIf_eq (t : Ef) (a b : Sf) (ρ : Rho) : sIf t a b ρ = ifS (t ρ) a b := rfl
theorem sSeq_eq (a b : Sf) (ρ : Rho) : sSeq a b ρ = seqS (a ρ) b := rfl
theorem sRet_eq (e : Ef) (ρ : Rho) : sRet e ρ = retS (e ρ) := rfl
theorem sAsg_eq (e : Ef) (g : Tg) (ρ : Rho) : sAsg e g ρ = asgS (e ρ) g := rfl
theorem sDrop_eq (e : Ef) (ρ : Rho) : sDrop e ρ = dropS (e ρ) := rfl
theorem fnD_eq (n : Nat) (body : Sf) (ds : List D) : fnD n body ds = outD (body (ds.map (fun d => some (.dat d)) ++ List.replicate (n - ds.length) none)) := rfl
theorem andR_ok (b : Bool) (y : R D) : andR (.ok (.bool b)) y = if b = true then y else .ok (.bool false) := by cases b <;> rfl
theorem orR_ok (b : Bool) (y : R D) : orR (.ok (.bool b)) y = if b = true then .ok (.bool true) else y := by cases b <;> rfl
theorem ifR_ok (b : Bool) (x y : R D) : ifR (.ok (.bool b)) x y = if b = true then x else y := by cases b <;> rfl
theorem notR_ok (b : Bool) : notR (.ok (.bool b)) = .ok (.bool (!b)) := rfl
theorem chR_ok (op' : D → D → R D) (y : D) (c : R D) (b : Bool) : chR op' y c (.ok (.bool b)) = if b = true then c.bind (op' y) else .ok (.bool false) := by cases b <;> rfl
theorem upE_ok (d : D) (ρ : Rho) : upE (.ok d) ρ = .ok d ρ := rfl
theorem upE_exc (c : Str) (ρ : Rho) : upE (.exc c) ρ = .exc c ρ := rfl
theorem upE_ite (c : Prop) [Decidable c] (x y : R D) (ρ : Rho) : upE (if c then x else y) ρ = if c then upE x ρ else upE y ρ := by split <;> rfl
theorem ifS_ok (b : Bool) (ρ : Rho) (x y : Sf) : ifS (.ok (.bool b) ρ) x y = if b = true then x ρ else y ρ := by cases b <;> rfl
theorem ifS_exc (c : Str) (ρ : Rho) (x y : Sf) : ifS (.exc c ρ) x y = .exc c ρ := rfl
theorem ifS_ite (c : Prop) [Decidable c] (s t : Res D) (x y : Sf) : ifS (if c then s else t) x y = if c then ifS s x y else ifS t x y := by split <;> rfl
theorem seqS_nx (ρ : Rho) (b : Sf) : seqS (.ok .nx ρ) b = b ρ := rfl
theorem seqS_rt (d : D) (ρ : Rho) (b : Sf) : seqS (.ok (.rt d) ρ) b = .ok (.rt d) ρ := rfl
theorem seqS_exc (c : Str) (ρ : Rho) (b : Sf) : seqS (.exc c ρ) b = .exc c ρ := rfl
theorem seqS_ct (ρ : Rho) (b : Sf) : seqS (.ok .ct ρ) b = .ok .ct ρ := rfl
theorem seqS_ite (c : Prop) [Decidable c] (s t : Res Flw) (b : Sf) : seqS (if c then s else t) b = if c then seqS s b else seqS t b := by split <;> rfl
theorem retS_ok (d : D) (ρ : Rho) : retS (.ok d ρ) = .ok (.rt d) ρ := rfl
theorem retS_exc (c : Str) (ρ : Rho) : retS (.exc c ρ) = .exc c ρ := rfl
theorem retS_ite (c : Prop) [Decidable c] (s t : Res D) : retS (if c then s else t) = if c then retS s else retS t := by split <;> rfl
theorem asgS_ok (d : D) (ρ : Rho) (g : Tg) : asgS (.ok d ρ) g = match g d ρ with
  | some ρ2 => .ok .nx ρ2
  | none => .bad := rfl
theorem asgS_exc (c : Str) (ρ : Rho) (g : Tg) : asgS (.exc c ρ) g = .exc c ρ := rfl
theorem asgS_ite (c : Prop) [Decidable c] (s t : Res D) (g : Tg) : asgS (if c then s else t) g = if c then asgS s g else asgS t g := by split <;> rfl
theorem dropS_ok (d : D) (ρ : Rho) : dropS (.ok d ρ) = .ok .nx ρ := rfl
theorem dropS_exc (c : Str) (ρ : Rho) : dropS (.exc c ρ) = .exc c ρ := rfl
theorem dropS_ite (c : Prop) [Decidable c] (s t : Res D) : dropS (if c then s else t) = if c then dropS s else dropS t := by split <;> rfl
theorem outD_rt (d : D) (ρ : Rho) : outD (.ok (.rt d) ρ) = .ok d := rfl
theorem outD_nx (ρ : Rho) : outD (.ok .nx ρ) = .ok .none := rfl
theorem outD_exc (c : Str) (ρ : Rho) : outD (.exc c ρ) = .exc c := rfl
theorem outD_ite (c : Prop) [Decidable c] (s t : Res Flw) : outD (if c then s else t) = if c then outD s else outD t := by split <;> rfl
theorem bind_ite {α β : Type} (c : Prop) [Decidable c] (x y : R α) (f : α → R β) : (if c then x else y).bind f = if c then x.bind f else y.bind f := by split <;> rfl
theorem ite_and (b c : Bool) : (if b = true then (R.ok (.bool c) : R D) else .ok (.bool false)) = .ok (.bool (b && c)) := by cases b <;> rfl
theorem ite_or (b c : Bool) : (if b = true then (R.ok (.bool true) : R D) else .ok (.bool c)) = .ok (.bool (b || c)) := by cases b <;> rfl
theorem ite_nand (b c : Bool) : (if b = true then (R.ok (.bool false) : R D) else .ok (.bool c)) = .ok (.bool (!b && c)) := by cases b <;> rfl
def outE (i0 : Nat) : Res Flw → Ro
  | .ok (.rt d) r => (match r[i0]? with
    | some (some s) => .ok d s
    | _ => .bad)
  | .ok .nx r => (match r[i0]? with
    | some (some s) => .ok .none s
    | _ => .bad)
  | .exc c r => (match r[i0]? with
    | some (some s) => .exc c s
    | _ => .bad)
  | _ => .bad
theorem fnE_eq (n i0 : Nat) (body : Sf) (ss : List Sl) : fnE n i0 body ss = outE i0 (body (ss.map some ++ List.replicate (n - ss.length) none)) := rfl
theorem outE_rt (i0 : Nat) (d : D) (ρ : Rho) : outE i0 (.ok (.rt d) ρ) = match ρ[i0]? with
    | some (some s) => .ok d s
    | _ => .bad := rfl
theorem outE_ite (i0 : Nat) (c : Prop) [Decidable c] (s t : Res Flw) : outE i0 (if c then s else t) = if c then outE i0 s else outE i0 t := by split <;> rfl
def putE (j0 : Nat) (ρ : Rho) : Ro → Res D
  | .ok d s => if isLk s = false then .ok d (ρ.set j0 (some s)) else .bad
  | .exc c s => if isLk s = false then .exc c (ρ.set j0 (some s)) else .bad
  | .bad => .bad
def callE (m : List Sl → Ro) (j0 : Nat) (ρ : Rho) : R (List Sl) → Res D
  | .ok ss => putE j0 ρ (m ss)
  | .exc c => .exc c ρ
  | .bad => .bad
theorem eCallE_eq (m : List Sl → Ro) (j0 : Nat) (a : A1f) (ρ : Rho) : eCallE m j0 a ρ = callE m j0 ρ (a ρ) := by
  unfold eCallE callE
  cases a ρ with
  | ok ss => cases h : m ss <;> simp only [h] <;> rfl
  | exc c => rfl
  | bad => rfl
theorem callE_ok (m : List Sl → Ro) (j0 : Nat) (ρ : Rho) (ss : List Sl) : callE m j0 ρ (.ok ss) = putE j0 ρ (m ss) := rfl
theorem putE_ok (j0 : Nat) (ρ : Rho) (d : D) (s : Sl) : putE j0 ρ (.ok d s) = if isLk s = false then .ok d (ρ.set j0 (some s)) else .bad := rfl
theorem resbind_ite {α β : Type} (c : Prop) [Decidable c] (x y : Res α) (f : α → Rho → Res β) : (if c then x else y).bind f = if c then x.bind f else y.bind f := by split <;> rfl
def lamR (cs : List (Str × Str)) : R D → R D
  | .ok d => .ok (retD d)
  | .exc c => match cs.lookup c with
    | some s => .ok (.tuple [.str s])
    | none => .bad
  | .bad => .bad
theorem rLam_eq (cs : List (Str × Str)) (f : E0f) (ρ : Rho) : rLam cs f ρ = lamR cs (f ρ) := by
  unfold rLam lamR
  cases f ρ <;> rfl
theorem lamR_ok (cs : List (Str × Str)) (d : D) : lamR cs (.ok d) = .ok (retD d) := rfl
theorem lam_table : lamR csL (.exc "InvalidTable") = .ok (.tuple [.str "table"]) := by kernel_rfl
theorem lam_row : lamR csL (.exc "InvalidRow") = .ok (.tuple [.str "row"]) := by kernel_rfl
theorem lam_start : lamR csL (.exc "InvalidStart") = .ok (.tuple [.str "start"]) := by kernel_rfl
theorem lam_run : lamR csL (.exc "InvalidRun") = .ok (.tuple [.str "run"]) := by kernel_rfl
theorem lam_changes : lamR csL (.exc "InvalidChanges") = .ok (.tuple [.str "changes"]) := by kernel_rfl
theorem lam_plan : lamR csL (.exc "InvalidPlan") = .ok (.tuple [.str "plan"]) := by kernel_rfl
theorem lam_home : lamR csL (.exc "InvalidHome") = .ok (.tuple [.str "home"]) := by kernel_rfl
theorem lam_rule : lamR csL (.exc "InvalidRule") = .ok (.tuple [.str "rule"]) := by kernel_rfl
theorem lam_text : lamR csL (.exc "InvalidText") = .ok (.tuple [.str "text"]) := by kernel_rfl
theorem lam_many : lamR csL (.exc "TooMany") = .ok (.tuple [.str "many"]) := by kernel_rfl
theorem lam_nothing : lamR csL (.exc "Empty") = .ok (.tuple [.str "nothing"]) := by kernel_rfl
theorem lam_circular : lamR csL (.exc "Circular") = .ok (.tuple [.str "circular"]) := by kernel_rfl
theorem tgT_tup (gs : Tgs) (ds : List D) (ρ : Rho) : tgT gs (.tuple ds) ρ = gs ds ρ := rfl
def atR : Option D → R D
  | some d => .ok d
  | none => .bad
theorem atR_some (d : D) : atR (some d) = .ok d := rfl
theorem dIx_lst (ds : List D) (i : Int) : dIx (.list ds) (.int i) = atR (L2.atI ds i) := by
  simp only [dIx]
  cases L2.atI ds i <;> rfl
theorem dIx_tup (ds : List D) (i : Int) : dIx (.tuple ds) (.int i) = atR (L2.atI ds i) := by
  simp only [dIx]
  cases L2.atI ds i <;> rfl
theorem dIx_edge0 (e : Edge) : dIx (enc e) (.int 0) = .ok (.int e.s) := rfl
theorem dIx_edge1 (e : Edge) : dIx (enc e) (.int 1) = .ok (.int e.t) := rfl
theorem dIx_edge2 (e : Edge) : dIx (enc e) (.int 2) = .ok (.str e.r.str) := rfl
theorem dLen_lst (ds : List D) : dLen (.list ds) = .ok (.int ds.length) := rfl
theorem dLen_tup (ds : List D) : dLen (.tuple ds) = .ok (.int ds.length) := rfl
theorem dTuple_lst (ds : List D) : dTuple (.list ds) = .ok (.tuple ds) := rfl
theorem dTuple_tup (ds : List D) : dTuple (.tuple ds) = .ok (.tuple ds) := rfl
theorem dList_lst (ds : List D) : dList (.list ds) = .ok (.list ds) := rfl
theorem dList_tup (ds : List D) : dList (.tuple ds) = .ok (.list ds) := rfl
theorem dItems_lst (ds : List D) : dItems (.list ds) = .ok ds := rfl
theorem dItems_tup (ds : List D) : dItems (.tuple ds) = .ok ds := rfl
theorem dSl_lst (ds : List D) (lo hi : Option Int) : dSl (.list ds) lo hi = .ok (.list (cutD ds lo hi)) := rfl
theorem dSl_tup (ds : List D) (lo hi : Option Int) : dSl (.tuple ds) lo hi = .ok (.tuple (cutD ds lo hi)) := rfl
theorem dIs_non (x : D) : dIs x .none = .ok (.bool (isN x)) := by cases x <;> rfl
theorem dIsNot_non (x : D) : dIsNot x .none = .ok (.bool (!isN x)) := by cases x <;> rfl
theorem isN_non : isN .none = true := rfl
theorem isN_tup (ds : List D) : isN (.tuple ds) = false := rfl
theorem isN_str (x : Str) : isN (.str x) = false := rfl
theorem dInT_int (a : Int) (l : List Int) : dIn (.int a) (.tuple (l.map enc)) = .ok (.bool (decide (a ∈ l))) := dIn_enc a l
theorem dInL_int (a : Int) (l : List Int) : dIn (.int a) (.list (l.map enc)) = .ok (.bool (decide (a ∈ l))) := dIn_encL a l
theorem dNiT_int (a : Int) (l : List Int) : dNotIn (.int a) (.tuple (l.map enc)) = .ok (.bool (!decide (a ∈ l))) := dNotIn_enc a l
theorem dNiL_int (a : Int) (l : List Int) : dNotIn (.int a) (.list (l.map enc)) = .ok (.bool (!decide (a ∈ l))) := dNotIn_encL a l
theorem dInT_edge (a : Edge) (l : List Edge) : dIn (enc a) (.tuple (l.map enc)) = .ok (.bool (decide (a ∈ l))) := dIn_enc a l
theorem dInL_edge (a : Edge) (l : List Edge) : dIn (enc a) (.list (l.map enc)) = .ok (.bool (decide (a ∈ l))) := dIn_encL a l
theorem dNiT_edge (a : Edge) (l : List Edge) : dNotIn (enc a) (.tuple (l.map enc)) = .ok (.bool (!decide (a ∈ l))) := dNotIn_enc a l
theorem dNiL_edge (a : Edge) (l : List Edge) : dNotIn (enc a) (.list (l.map enc)) = .ok (.bool (!decide (a ∈ l))) := dNotIn_encL a l
theorem dEq_ref (r : Rule) : dEq (.str r.str) (.str "refuse") = .ok (.bool (decide (r = .ref))) := dEq_rule r .ref
theorem dEq_fol (r : Rule) : dEq (.str r.str) (.str "follow") = .ok (.bool (decide (r = .fol))) := dEq_rule r .fol
theorem dEq_emp (r : Rule) : dEq (.str r.str) (.str "empty") = .ok (.bool (decide (r = .emp))) := dEq_rule r .emp
theorem dNe_ref (r : Rule) : dNe (.str r.str) (.str "refuse") = .ok (.bool (!decide (r = .ref))) := dNe_rule r .ref
theorem dNe_fol (r : Rule) : dNe (.str r.str) (.str "follow") = .ok (.bool (!decide (r = .fol))) := dNe_rule r .fol
theorem dNe_emp (r : Rule) : dNe (.str r.str) (.str "empty") = .ok (.bool (!decide (r = .emp))) := dNe_rule r .emp
theorem lk_town (n : Int) (r : List (Int × Int)) : isLk (.town n r) = false := rfl
theorem lk_lst (l : List D) : isLk (.lst l) = false := rfl
theorem lk_dat (d : D) : isLk (.dat d) = false := rfl
def rng (k : Nat) : List Int := (List.range k).map fun i : Nat => (i : Int)
def rangeR : D → R (List D)
  | .int n => if -(LIM : Int) ≤ n ∧ n ≤ LIM then .ok (intsD 0 n.toNat) else .bad
  | _ => .bad
theorem riR1_eq (f : E0f) (ρ : Rho) : riR1 f ρ = (f ρ).bind rangeR := rfl
def upI (x : R (List D)) (ρ : Rho) : Res (List D) := match x with
  | .ok d => .ok d ρ
  | .exc c => .exc c ρ
  | .bad => .bad
def rangeE (d : D) (ρ : Rho) : Res (List D) := match d with
  | .int n => if -(LIM : Int) ≤ n ∧ n ≤ LIM then .ok (intsD 0 n.toNat) ρ else .bad
  | _ => .bad
theorem ieR1_eq (f : Ef) (ρ : Rho) : ieR1 f ρ = (f ρ).bind rangeE := rfl
/-! ### ascending rows of things -/
def adj {α : Type} (lt : α → α → Bool) : List α → Bool
  | x :: y :: r => lt x y && adj lt (y :: r)
  | _ => true
end Rf

/-! M1: tables (the defs of tables.py) over codes. -/
namespace Rf
open PySem PySem.Spec L2
open En (enc)
theorem atI_int {α : Type} (xs : List α) (k : Int) (h0 : 0 ≤ k) (h : k < xs.length) : atI xs k = xs[k.toNat]? := by
  unfold atI ixN
  rw [if_pos h0, if_pos h]
  rfl
/-! ### ascending -/
def ltP (p q : Int × Int) : Bool := decide (p.1 < q.1) || (decide (p.1 = q.1) && decide (p.2 < q.2))
def ltI (a b : Int) : Bool := decide (a < b)
/-! ### rules, references -/
def edgeOk (n : Int) (e : Edge) : Bool := decide (0 ≤ e.s) && decide (e.s ≤ n - 1) && (decide (0 ≤ e.t) && decide (e.t ≤ n - 1)) && !decide (e.s = e.t)
/-! ### tables -/
def encT (n : Int) (es : List Edge) : D := .tuple [.int n, .tuple (es.map enc)]
def Edge.key (e : Edge) : Int × Int := (e.s, e.t)
def tabB (n : Int) (es : List Edge) : Bool := (decide (1 ≤ n) && decide (n ≤ 8)) && (!decide (12 < (es.length : Int)) && (es.all (edgeOk n) && adj ltP (es.map Edge.key)))
end Rf

/-! M2: sorting over codes; draws; drawn tables. -/
namespace Rf
open PySem PySem.Spec L2
open En (enc)
/-! ### sorting -/
class EnS (α : Type) [En α] : Prop where
  alike : ∀ a b : α, PySem.W.alike (enc a) (enc b) = true
  kind : (∀ a : α, tup1 (enc a) = true) ∨ ∀ a : α, flat0 (enc a) = true
  dep60 : En.dep α ≤ 60
def leE {α : Type} [En α] (a b : α) : Bool := dle (enc a) (enc b)
instance : EnS Edge where
  alike a b := by simp [En.enc, PySem.W.alike, PySem.W.alikeAll]
  kind := .inl fun a => rfl
  dep60 := by decide
instance : EnS Int where
  alike a b := by simp [En.enc, PySem.W.alike]
  kind := .inr fun a => rfl
  dep60 := by decide
/-! ### draws -/
theorem pigeon : ∀ (n : Nat) (l : List Int), l.Nodup → (∀ x ∈ l, 0 ≤ x ∧ x < n) → l.length ≤ n
  | 0, l, _, h => by
    cases l with
    | nil => exact Nat.le_refl _
    | cons x r =>
      have := h x List.mem_cons_self
      omega
  | n + 1, l, hn, h => by
    by_cases hm : (n : Int) ∈ l
    · have ih := pigeon n (l.erase n) (hn.erase _) fun x hx => by
        have h1 := (hn.mem_erase_iff).mp hx
        have h2 := h x h1.2
        omega
      have h3 := List.length_erase_of_mem hm
      omega
    · have ih := pigeon n l hn fun x hx => by
        have h2 := h x hx
        have h3 : x ≠ n := fun e => hm (e ▸ hx)
        omega
      omega
/-- the town is in order -/
def Tw (s : Sl) : Prop := ∃ n rests, s = .town n rests ∧ (rests.map (·.1)).Nodup ∧ ∀ p ∈ rests, 0 ≤ p.1 ∧ p.1 < 63
theorem Tw.lk {s : Sl} (h : Tw s) : isLk s = false := by
  obtain ⟨n, r, rfl, _⟩ := h
  rfl
theorem Tw.begin : Tw (.town 0 []) := ⟨0, [], rfl, List.nodup_nil, fun _ h => nomatch h⟩
theorem rput_keys (rests : List (Int × Int)) (k v : Int) : (rput rests k v).map (·.1) = if k ∈ rests.map (·.1) then rests.map (·.1) else rests.map (·.1) ++ [k] := by
  have e : (rests.any fun p => decide (p.1 = k)) = decide (k ∈ rests.map (·.1)) := by
    rw [Bool.eq_iff_iff]
    simp
  unfold rput
  rw [e]
  by_cases h : k ∈ rests.map (·.1)
  · rw [if_pos (by simpa using h), if_pos h, List.map_map]
    apply List.map_congr_left
    intro p _
    by_cases q : p.1 = k <;> simp [q]
  · rw [if_neg (by simpa using h), if_neg h]
    simp
theorem tw_put {n : Int} {rests : List (Int × Int)} {k v : Int} (h : (rests.map (·.1)).Nodup) (h2 : ∀ p ∈ rests, 0 ≤ p.1 ∧ p.1 < 63) (h0 : 0 ≤ k) (h1 : k < 63) : Tw (.town n (rput rests k v)) := by
  refine ⟨n, _, rfl, ?_, fun p hp => ?_⟩
  · rw [rput_keys]
    split
    · exact h
    · rename_i q
      rw [List.nodup_append]
      refine ⟨h, by simp, fun a ha b hb e => ?_⟩
      rw [List.mem_singleton] at hb
      rw [← hb, ← e] at q
      exact q ha
  · have hm : p.1 ∈ (rput rests k v).map (·.1) := List.mem_map.mpr ⟨p, hp, rfl⟩
    rw [rput_keys] at hm
    have old : p.1 ∈ rests.map (·.1) → 0 ≤ p.1 ∧ p.1 < 63 := fun z => by
      obtain ⟨q, hq, e⟩ := List.mem_map.mp z
      rw [← e]
      exact h2 q hq
    split at hm
    · exact old hm
    · rcases List.mem_append.mp hm with z | z
      · exact old z
      · rw [List.mem_singleton] at z
        omega
def drawT : Sf := sSeq (sIf (eP (r2 dGe (rV 4) (r2 dPow (rC (.int 10)) (rC (.int 18))))) (sSeq (sTrest 1 (rV 3) (r2 dFdiv (rV 4) (rV 2))) (sRet (eP (r2 dMod (rV 4) (rV 2))))) (sNil)) (sSeq (sAsg (eP (r2 dMod (r2 dAdd (rV 4) (r2 dMul (rC (.int 104729)) (rTown 1 fun n _ => .ok (.int n)))) (rC (.int 4294967291)))) (tgV 5)) (sSeq (sAsg (eP (r2 dMod (r2 dPow (rV 5) (rC (.int 5))) (rC (.int 4294967279)))) (tgV 5)) (sRet (eP (r2 dMod (r2 dFdiv (r2 dMod (r2 dAdd (r2 dMul (r2 dFdiv (rV 5) (rC (.int 64))) (rC (.int 69621))) (rV 5)) (rC (.int 4294967231))) (rC (.int 8))) (rV 2))))))
theorem drawT_ok (ns : List Int) (n : Int) (rests : List (Int × Int)) (hn : (rests.map (·.1)).Nodup) (hr : ∀ p ∈ rests, 0 ≤ p.1 ∧ p.1 < 63) (m a r : Int) (h0 : 0 < m) (h1 : m < 1073741824) (ha : 0 ≤ a) (ha2 : a < 63) : ∃ v t', outE 1 (drawT [some (.scr ns), some (.town n rests), some (.dat (.int m)), some (.dat (.int a)), some (.dat (.int r)), none]) = .ok (.int v) t' ∧ 0 ≤ v ∧ v < m ∧ Tw t' := by
  have hl : rests.length ≤ 63 := by
    have := pigeon 63 (rests.map (·.1)) hn fun x hx => by
      obtain ⟨p, hp, rfl⟩ := List.mem_map.mp hx
      exact hr p hp
    simpa using this
  have e1 : dPow (.int 10) (.int 18) = .ok (.int 1000000000000000000) := rfl
  have e2 : dFdiv (.int r) (.int m) = .ok (.int (r / m)) := by simp only [dFdiv]; rw [if_pos ⟨h0, h1⟩]
  have e3 : ∀ z, dMod (.int z) (.int m) = .ok (.int (z % m)) := fun z => by simp only [dMod]; rw [if_pos h0]
  have e4 : dMul (.int 104729) (.int n) = .ok (.int (104729 * n)) := rfl
  have e5 : ∀ z, dMod (.int z) (.int 4294967291) = .ok (.int (z % 4294967291)) := fun z => rfl
  have e6 : ∀ z, dMod (.int z) (.int 4294967279) = .ok (.int (z % 4294967279)) := fun z => rfl
  have e7 : ∀ z, dMod (.int z) (.int 4294967231) = .ok (.int (z % 4294967231)) := fun z => rfl
  have e8 : ∀ z, dFdiv (.int z) (.int 64) = .ok (.int (z / 64)) := fun z => rfl
  have e9 : ∀ z, dFdiv (.int z) (.int 8) = .ok (.int (z / 8)) := fun z => rfl
  have e10 : ∀ z : Int, dPow (.int (z % 4294967291)) (.int 5) = .ok (.int ((z % 4294967291) ^ 5)) := fun z => by
    simp only [dPow]
    rw [if_pos ⟨by omega, by omega, by omega⟩]
    rfl
  have e11 : ∀ z : Int, dMul (.int (z % 4294967279 / 64)) (.int 69621) = .ok (.int (z % 4294967279 / 64 * 69621)) := fun z => by
    simp only [dMul]
    rw [if_pos (by omega)]
  have hl2 : rests.length < 100000 := by omega
  simp only [drawT, LIM, andR_ok, orR_ok, ifR_ok, notR_ok, chR_ok, upE_ok, upE_exc, upE_ite, ifS_ok, ifS_exc, ifS_ite, seqS_nx, seqS_rt, seqS_exc, seqS_ct, seqS_ite, retS_ok, retS_exc, retS_ite, asgS_ok, asgS_exc, asgS_ite, dropS_ok, dropS_exc, dropS_ite, outD_rt, outD_nx, outD_exc, outD_ite, bind_ite, ite_and, ite_or, ite_nand, rC, rV, rL, Rf.r1, Rf.r2, rNot_eq, rAnd_eq, rOr_eq, rIf_eq, rChain_eq, raNil, raCons, raApp, rTup, rLst, rSl, roNone, roSome, riS, riR1_eq, riR2, riZip, rComp, rCall, rLam_eq, lamR_ok, lam_table, lam_row, lam_start, lam_run, lam_changes, lam_plan, lam_home, lam_rule, lam_text, lam_many, lam_nothing, lam_circular, eP_eq, Rf.e1, Rf.e2, eaNil, eaCons, eTup, eLst, eCall, eNot, eAnd, eOr, eIf, sSeq_eq, sAsg_eq, sDrop_eq, sRet_eq, sIf_eq, sNil, sFor, sForE, sPut, sPar2, sPar3, sParE, setD, sFz, frzR, sRaise, sCont, sBrk, tgV, tgT_tup, tgCons, tgNil, rYes, fnD_eq, fnE_eq, outE_rt, outE_ite, R.bind_ok, R.bind_exc, R.bind_bad, Res.bind_ok, Res.bind_exc, Res.bind_bad, mD, mL, nM, eApp, eAppE, eExt, ePop, ePop0, eCallE_eq, callE_ok, putE_ok, resbind_ite, a1Nil, a1D, a1S, a1O, lk_town, lk_lst, lk_dat, ieR1_eq, rScr, rSix, rTown, rTget, sTcnt, sTrest, nTown, wipeR, dItems_lst, dItems_tup, dLen_lst, dLen_tup, dTuple_lst, dTuple_tup, dList_lst, dList_tup, dIx_lst, dIx_tup, atR_some, dIx_edge0, dIx_edge1, dIx_edge2, dSl_lst, dSl_tup, dInT_int, dInL_int, dNiT_int, dNiL_int, dInT_edge, dInL_edge, dNiT_edge, dNiL_edge, dEq_ref, dEq_fol, dEq_emp, dNe_ref, dNe_fol, dNe_emp, dNeg, dAdd, dSub, dCat, dLt, dLe, dGt, dGe, dIs_non, dIsNot_non, isN_non, isN_tup, isN_str, List.map, List.replicate, List.length, List.append_eq, List.cons_append, List.nil_append, List.getElem?_cons_zero, List.getElem?_cons_succ, List.set_cons_zero, List.set_cons_succ, Nat.reduceAdd, Nat.reduceSub, Nat.reduceLeDiff, Nat.zero_add, Option.bind_some, Bool.not_true, Bool.not_false, reduceIte, List.length_cons, List.length_nil, List.map_cons, List.map_nil, List.replicate_succ, List.replicate_zero, List.singleton_append, List.length_map, Nat.sub_self, Nat.add_one_sub_one, Int.cast_ofNat_Int, Int.reduceEq, decide_true, decide_false, Bool.false_or, Bool.or_false, Bool.true_and, Bool.and_true, Bool.false_and, Bool.and_false, Bool.true_or, Bool.or_true, Bool.false_eq_true, if_true, if_false, e1, e2, e3, e4, e5, e6, e7, e8, e9, e10, e11, hl2]
  by_cases hc : (1000000000000000000 : Int) ≤ r
  · simp only [hc, LIM, andR_ok, orR_ok, ifR_ok, notR_ok, chR_ok, upE_ok, upE_exc, upE_ite, ifS_ok, ifS_exc, ifS_ite, seqS_nx, seqS_rt, seqS_exc, seqS_ct, seqS_ite, retS_ok, retS_exc, retS_ite, asgS_ok, asgS_exc, asgS_ite, dropS_ok, dropS_exc, dropS_ite, outD_rt, outD_nx, outD_exc, outD_ite, bind_ite, ite_and, ite_or, ite_nand, rC, rV, rL, Rf.r1, Rf.r2, rNot_eq, rAnd_eq, rOr_eq, rIf_eq, rChain_eq, raNil, raCons, raApp, rTup, rLst, rSl, roNone, roSome, riS, riR1_eq, riR2, riZip, rComp, rCall, rLam_eq, lamR_ok, lam_table, lam_row, lam_start, lam_run, lam_changes, lam_plan, lam_home, lam_rule, lam_text, lam_many, lam_nothing, lam_circular, eP_eq, Rf.e1, Rf.e2, eaNil, eaCons, eTup, eLst, eCall, eNot, eAnd, eOr, eIf, sSeq_eq, sAsg_eq, sDrop_eq, sRet_eq, sIf_eq, sNil, sFor, sForE, sPut, sPar2, sPar3, sParE, setD, sFz, frzR, sRaise, sCont, sBrk, tgV, tgT_tup, tgCons, tgNil, rYes, fnD_eq, fnE_eq, outE_rt, outE_ite, R.bind_ok, R.bind_exc, R.bind_bad, Res.bind_ok, Res.bind_exc, Res.bind_bad, mD, mL, nM, eApp, eAppE, eExt, ePop, ePop0, eCallE_eq, callE_ok, putE_ok, resbind_ite, a1Nil, a1D, a1S, a1O, lk_town, lk_lst, lk_dat, ieR1_eq, rScr, rSix, rTown, rTget, sTcnt, sTrest, nTown, wipeR, dItems_lst, dItems_tup, dLen_lst, dLen_tup, dTuple_lst, dTuple_tup, dList_lst, dList_tup, dIx_lst, dIx_tup, atR_some, dIx_edge0, dIx_edge1, dIx_edge2, dSl_lst, dSl_tup, dInT_int, dInL_int, dNiT_int, dNiL_int, dInT_edge, dInL_edge, dNiT_edge, dNiL_edge, dEq_ref, dEq_fol, dEq_emp, dNe_ref, dNe_fol, dNe_emp, dNeg, dAdd, dSub, dCat, dLt, dLe, dGt, dGe, dIs_non, dIsNot_non, isN_non, isN_tup, isN_str, List.map, List.replicate, List.length, List.append_eq, List.cons_append, List.nil_append, List.getElem?_cons_zero, List.getElem?_cons_succ, List.set_cons_zero, List.set_cons_succ, Nat.reduceAdd, Nat.reduceSub, Nat.reduceLeDiff, Nat.zero_add, Option.bind_some, Bool.not_true, Bool.not_false, reduceIte, List.length_cons, List.length_nil, List.map_cons, List.map_nil, List.replicate_succ, List.replicate_zero, List.singleton_append, List.length_map, Nat.sub_self, Nat.add_one_sub_one, Int.cast_ofNat_Int, Int.reduceEq, decide_true, decide_false, Bool.false_or, Bool.or_false, Bool.true_and, Bool.and_true, Bool.false_and, Bool.and_false, Bool.true_or, Bool.or_true, Bool.false_eq_true, if_true, if_false]
    exact ⟨_, _, rfl, Int.emod_nonneg _ (by omega), Int.emod_lt_of_pos _ h0, tw_put hn hr ha ha2⟩
  · simp only [hc, LIM, andR_ok, orR_ok, ifR_ok, notR_ok, chR_ok, upE_ok, upE_exc, upE_ite, ifS_ok, ifS_exc, ifS_ite, seqS_nx, seqS_rt, seqS_exc, seqS_ct, seqS_ite, retS_ok, retS_exc, retS_ite, asgS_ok, asgS_exc, asgS_ite, dropS_ok, dropS_exc, dropS_ite, outD_rt, outD_nx, outD_exc, outD_ite, bind_ite, ite_and, ite_or, ite_nand, rC, rV, rL, Rf.r1, Rf.r2, rNot_eq, rAnd_eq, rOr_eq, rIf_eq, rChain_eq, raNil, raCons, raApp, rTup, rLst, rSl, roNone, roSome, riS, riR1_eq, riR2, riZip, rComp, rCall, rLam_eq, lamR_ok, lam_table, lam_row, lam_start, lam_run, lam_changes, lam_plan, lam_home, lam_rule, lam_text, lam_many, lam_nothing, lam_circular, eP_eq, Rf.e1, Rf.e2, eaNil, eaCons, eTup, eLst, eCall, eNot, eAnd, eOr, eIf, sSeq_eq, sAsg_eq, sDrop_eq, sRet_eq, sIf_eq, sNil, sFor, sForE, sPut, sPar2, sPar3, sParE, setD, sFz, frzR, sRaise, sCont, sBrk, tgV, tgT_tup, tgCons, tgNil, rYes, fnD_eq, fnE_eq, outE_rt, outE_ite, R.bind_ok, R.bind_exc, R.bind_bad, Res.bind_ok, Res.bind_exc, Res.bind_bad, mD, mL, nM, eApp, eAppE, eExt, ePop, ePop0, eCallE_eq, callE_ok, putE_ok, resbind_ite, a1Nil, a1D, a1S, a1O, lk_town, lk_lst, lk_dat, ieR1_eq, rScr, rSix, rTown, rTget, sTcnt, sTrest, nTown, wipeR, dItems_lst, dItems_tup, dLen_lst, dLen_tup, dTuple_lst, dTuple_tup, dList_lst, dList_tup, dIx_lst, dIx_tup, atR_some, dIx_edge0, dIx_edge1, dIx_edge2, dSl_lst, dSl_tup, dInT_int, dInL_int, dNiT_int, dNiL_int, dInT_edge, dInL_edge, dNiT_edge, dNiL_edge, dEq_ref, dEq_fol, dEq_emp, dNe_ref, dNe_fol, dNe_emp, dNeg, dAdd, dSub, dCat, dLt, dLe, dGt, dGe, dIs_non, dIsNot_non, isN_non, isN_tup, isN_str, List.map, List.replicate, List.length, List.append_eq, List.cons_append, List.nil_append, List.getElem?_cons_zero, List.getElem?_cons_succ, List.set_cons_zero, List.set_cons_succ, Nat.reduceAdd, Nat.reduceSub, Nat.reduceLeDiff, Nat.zero_add, Option.bind_some, Bool.not_true, Bool.not_false, reduceIte, List.length_cons, List.length_nil, List.map_cons, List.map_nil, List.replicate_succ, List.replicate_zero, List.singleton_append, List.length_map, Nat.sub_self, Nat.add_one_sub_one, Int.cast_ofNat_Int, Int.reduceEq, decide_true, decide_false, Bool.false_or, Bool.or_false, Bool.true_and, Bool.and_true, Bool.false_and, Bool.and_false, Bool.true_or, Bool.or_true, Bool.false_eq_true, if_true, if_false]
    exact ⟨_, _, rfl, Int.emod_nonneg _ (by omega), Int.emod_lt_of_pos _ h0, ⟨n, rests, rfl, hn, hr⟩⟩
theorem draw_ok (ns : List Int) (hns : ns.length ≤ 63) (t : Sl) (ht : Tw t) (m : Int) (h0 : 0 < m) (h1 : m < 1073741824) : ∃ v t', m__law_draw [.scr ns, t, .dat (.int m)] = .ok (.int v) t' ∧ 0 ≤ v ∧ v < m ∧ Tw t' := by
  obtain ⟨n, rests, rfl, hn, hr⟩ := ht
  have key : ∀ a r : Int, 0 ≤ a → a < 63 → ∃ v t', outE 1 (drawT [some (.scr ns), some (.town (n + 1) rests), some (.dat (.int m)), some (.dat (.int a)), some (.dat (.int r)), none]) = .ok (.int v) t' ∧ 0 ≤ v ∧ v < m ∧ Tw t' := fun a r ha ha2 => drawT_ok ns (n + 1) rests hn hr m a r h0 h1 ha ha2
  cases ns with
  | nil =>
    cases hg : rget rests 0 with
    | none =>
      have e : m__law_draw [.scr [], .town n rests, .dat (.int m)] = outE 1 (drawT [some (.scr []), some (.town (n + 1) rests), some (.dat (.int m)), some (.dat (.int 0)), some (.dat (.int 0)), none]) := by
        unfold m__law_draw
        simp only [fnE_eq, sSeq_eq (a := sTcnt _ _), sSeq_eq (a := sAsg _ _), LIM, andR_ok, orR_ok, ifR_ok, notR_ok, chR_ok, upE_ok, upE_exc, upE_ite, ifS_ok, ifS_exc, ifS_ite, seqS_nx, seqS_rt, seqS_exc, seqS_ct, seqS_ite, retS_ok, retS_exc, retS_ite, asgS_ok, asgS_exc, asgS_ite, dropS_ok, dropS_exc, dropS_ite, outD_rt, outD_nx, outD_exc, outD_ite, bind_ite, ite_and, ite_or, ite_nand, rC, rV, rL, Rf.r1, Rf.r2, rNot_eq, rAnd_eq, rOr_eq, rIf_eq, rChain_eq, raNil, raCons, raApp, rTup, rLst, rSl, roNone, roSome, riS, riR1_eq, riR2, riZip, rComp, rCall, rLam_eq, lamR_ok, lam_table, lam_row, lam_start, lam_run, lam_changes, lam_plan, lam_home, lam_rule, lam_text, lam_many, lam_nothing, lam_circular, eP_eq, Rf.e1, Rf.e2, eaNil, eaCons, eTup, eLst, eCall, eNot, eAnd, eOr, eIf, sSeq_eq, sAsg_eq, sDrop_eq, sRet_eq, sIf_eq, sNil, sFor, sForE, sPut, sPar2, sPar3, sParE, setD, sFz, frzR, sRaise, sCont, sBrk, tgV, tgT_tup, tgCons, tgNil, rYes, fnD_eq, fnE_eq, outE_rt, outE_ite, R.bind_ok, R.bind_exc, R.bind_bad, Res.bind_ok, Res.bind_exc, Res.bind_bad, mD, mL, nM, eApp, eAppE, eExt, ePop, ePop0, eCallE_eq, callE_ok, putE_ok, resbind_ite, a1Nil, a1D, a1S, a1O, lk_town, lk_lst, lk_dat, ieR1_eq, rScr, rSix, rTown, rTget, sTcnt, sTrest, nTown, wipeR, dItems_lst, dItems_tup, dLen_lst, dLen_tup, dTuple_lst, dTuple_tup, dList_lst, dList_tup, dIx_lst, dIx_tup, atR_some, dIx_edge0, dIx_edge1, dIx_edge2, dSl_lst, dSl_tup, dInT_int, dInL_int, dNiT_int, dNiL_int, dInT_edge, dInL_edge, dNiT_edge, dNiL_edge, dEq_ref, dEq_fol, dEq_emp, dNe_ref, dNe_fol, dNe_emp, dNeg, dAdd, dSub, dCat, dLt, dLe, dGt, dGe, dIs_non, dIsNot_non, isN_non, isN_tup, isN_str, List.map, List.replicate, List.length, List.append_eq, List.cons_append, List.nil_append, List.getElem?_cons_zero, List.getElem?_cons_succ, List.set_cons_zero, List.set_cons_succ, Nat.reduceAdd, Nat.reduceSub, Nat.reduceLeDiff, Nat.zero_add, Option.bind_some, Bool.not_true, Bool.not_false, reduceIte, List.length_cons, List.length_nil, List.map_cons, List.map_nil, List.replicate_succ, List.replicate_zero, List.singleton_append, List.length_map, Nat.sub_self, Nat.add_one_sub_one, Int.cast_ofNat_Int, Int.reduceEq, decide_true, decide_false, Bool.false_or, Bool.or_false, Bool.true_and, Bool.and_true, Bool.false_and, Bool.and_false, Bool.true_or, Bool.or_true, Bool.false_eq_true, if_true, if_false, List.isEmpty_nil, hg, drawT]
      rw [e]
      exact key 0 0 (by omega) (by omega)
    | some r =>
      have e : m__law_draw [.scr [], .town n rests, .dat (.int m)] = outE 1 (drawT [some (.scr []), some (.town (n + 1) rests), some (.dat (.int m)), some (.dat (.int 0)), some (.dat (.int r)), none]) := by
        unfold m__law_draw
        simp only [LIM, andR_ok, orR_ok, ifR_ok, notR_ok, chR_ok, upE_ok, upE_exc, upE_ite, ifS_ok, ifS_exc, ifS_ite, seqS_nx, seqS_rt, seqS_exc, seqS_ct, seqS_ite, retS_ok, retS_exc, retS_ite, asgS_ok, asgS_exc, asgS_ite, dropS_ok, dropS_exc, dropS_ite, outD_rt, outD_nx, outD_exc, outD_ite, bind_ite, ite_and, ite_or, ite_nand, rC, rV, rL, Rf.r1, Rf.r2, rNot_eq, rAnd_eq, rOr_eq, rIf_eq, rChain_eq, raNil, raCons, raApp, rTup, rLst, rSl, roNone, roSome, riS, riR1_eq, riR2, riZip, rComp, rCall, rLam_eq, lamR_ok, lam_table, lam_row, lam_start, lam_run, lam_changes, lam_plan, lam_home, lam_rule, lam_text, lam_many, lam_nothing, lam_circular, eP_eq, Rf.e1, Rf.e2, eaNil, eaCons, eTup, eLst, eCall, eNot, eAnd, eOr, eIf, sSeq_eq, sAsg_eq, sDrop_eq, sRet_eq, sIf_eq, sNil, sFor, sForE, sPut, sPar2, sPar3, sParE, setD, sFz, frzR, sRaise, sCont, sBrk, tgV, tgT_tup, tgCons, tgNil, rYes, fnD_eq, fnE_eq, outE_rt, outE_ite, R.bind_ok, R.bind_exc, R.bind_bad, Res.bind_ok, Res.bind_exc, Res.bind_bad, mD, mL, nM, eApp, eAppE, eExt, ePop, ePop0, eCallE_eq, callE_ok, putE_ok, resbind_ite, a1Nil, a1D, a1S, a1O, lk_town, lk_lst, lk_dat, ieR1_eq, rScr, rSix, rTown, rTget, sTcnt, sTrest, nTown, wipeR, dItems_lst, dItems_tup, dLen_lst, dLen_tup, dTuple_lst, dTuple_tup, dList_lst, dList_tup, dIx_lst, dIx_tup, atR_some, dIx_edge0, dIx_edge1, dIx_edge2, dSl_lst, dSl_tup, dInT_int, dInL_int, dNiT_int, dNiL_int, dInT_edge, dInL_edge, dNiT_edge, dNiL_edge, dEq_ref, dEq_fol, dEq_emp, dNe_ref, dNe_fol, dNe_emp, dNeg, dAdd, dSub, dCat, dLt, dLe, dGt, dGe, dIs_non, dIsNot_non, isN_non, isN_tup, isN_str, List.map, List.replicate, List.length, List.append_eq, List.cons_append, List.nil_append, List.getElem?_cons_zero, List.getElem?_cons_succ, List.set_cons_zero, List.set_cons_succ, Nat.reduceAdd, Nat.reduceSub, Nat.reduceLeDiff, Nat.zero_add, Option.bind_some, Bool.not_true, Bool.not_false, reduceIte, List.length_cons, List.length_nil, List.map_cons, List.map_nil, List.replicate_succ, List.replicate_zero, List.singleton_append, List.length_map, Nat.sub_self, Nat.add_one_sub_one, Int.cast_ofNat_Int, Int.reduceEq, decide_true, decide_false, Bool.false_or, Bool.or_false, Bool.true_and, Bool.and_true, Bool.false_and, Bool.and_false, Bool.true_or, Bool.or_true, Bool.false_eq_true, if_true, if_false, List.isEmpty_nil, hg, drawT]
      rw [e]
      exact key 0 r (by omega) (by omega)
  | cons x xs =>
    have hp : (0 : Int) < ((xs.length + 1 : Nat) : Int) := by omega
    have hm : dMod (.int (n + 1)) (.int ((xs.length + 1 : Nat) : Int)) = .ok (.int ((n + 1) % ((xs.length + 1 : Nat) : Int))) := by simp only [dMod]; rw [if_pos hp]
    have b1 : 0 ≤ (n + 1) % ((xs.length + 1 : Nat) : Int) := Int.emod_nonneg _ (by omega)
    have b2 : (n + 1) % ((xs.length + 1 : Nat) : Int) < ((xs.length + 1 : Nat) : Int) := Int.emod_lt_of_pos _ hp
    have b3 : (n + 1) % ((xs.length + 1 : Nat) : Int) < 63 := by simp only [List.length_cons] at hns; omega
    generalize hz : (n + 1) % ((xs.length + 1 : Nat) : Int) = z at *
    have ht : ∃ y, atI (x :: xs) z = some y := by
      rw [atI_int _ _ b1 (by simp only [List.length_cons]; exact b2)]
      exact ⟨_, List.getElem?_eq_getElem (by simp only [List.length_cons]; omega)⟩
    obtain ⟨y, hy⟩ := ht
    cases hg : rget rests z with
    | none =>
      have e : m__law_draw [.scr (x :: xs), .town n rests, .dat (.int m)] = outE 1 (drawT [some (.scr (x :: xs)), some (.town (n + 1) rests), some (.dat (.int m)), some (.dat (.int z)), some (.dat (.int y)), none]) := by
        unfold m__law_draw
        simp only [LIM, andR_ok, orR_ok, ifR_ok, notR_ok, chR_ok, upE_ok, upE_exc, upE_ite, ifS_ok, ifS_exc, ifS_ite, seqS_nx, seqS_rt, seqS_exc, seqS_ct, seqS_ite, retS_ok, retS_exc, retS_ite, asgS_ok, asgS_exc, asgS_ite, dropS_ok, dropS_exc, dropS_ite, outD_rt, outD_nx, outD_exc, outD_ite, bind_ite, ite_and, ite_or, ite_nand, rC, rV, rL, Rf.r1, Rf.r2, rNot_eq, rAnd_eq, rOr_eq, rIf_eq, rChain_eq, raNil, raCons, raApp, rTup, rLst, rSl, roNone, roSome, riS, riR1_eq, riR2, riZip, rComp, rCall, rLam_eq, lamR_ok, lam_table, lam_row, lam_start, lam_run, lam_changes, lam_plan, lam_home, lam_rule, lam_text, lam_many, lam_nothing, lam_circular, eP_eq, Rf.e1, Rf.e2, eaNil, eaCons, eTup, eLst, eCall, eNot, eAnd, eOr, eIf, sSeq_eq, sAsg_eq, sDrop_eq, sRet_eq, sIf_eq, sNil, sFor, sForE, sPut, sPar2, sPar3, sParE, setD, sFz, frzR, sRaise, sCont, sBrk, tgV, tgT_tup, tgCons, tgNil, rYes, fnD_eq, fnE_eq, outE_rt, outE_ite, R.bind_ok, R.bind_exc, R.bind_bad, Res.bind_ok, Res.bind_exc, Res.bind_bad, mD, mL, nM, eApp, eAppE, eExt, ePop, ePop0, eCallE_eq, callE_ok, putE_ok, resbind_ite, a1Nil, a1D, a1S, a1O, lk_town, lk_lst, lk_dat, ieR1_eq, rScr, rSix, rTown, rTget, sTcnt, sTrest, nTown, wipeR, dItems_lst, dItems_tup, dLen_lst, dLen_tup, dTuple_lst, dTuple_tup, dList_lst, dList_tup, dIx_lst, dIx_tup, atR_some, dIx_edge0, dIx_edge1, dIx_edge2, dSl_lst, dSl_tup, dInT_int, dInL_int, dNiT_int, dNiL_int, dInT_edge, dInL_edge, dNiT_edge, dNiL_edge, dEq_ref, dEq_fol, dEq_emp, dNe_ref, dNe_fol, dNe_emp, dNeg, dAdd, dSub, dCat, dLt, dLe, dGt, dGe, dIs_non, dIsNot_non, isN_non, isN_tup, isN_str, List.map, List.replicate, List.length, List.append_eq, List.cons_append, List.nil_append, List.getElem?_cons_zero, List.getElem?_cons_succ, List.set_cons_zero, List.set_cons_succ, Nat.reduceAdd, Nat.reduceSub, Nat.reduceLeDiff, Nat.zero_add, Option.bind_some, Bool.not_true, Bool.not_false, reduceIte, List.length_cons, List.length_nil, List.map_cons, List.map_nil, List.replicate_succ, List.replicate_zero, List.singleton_append, List.length_map, Nat.sub_self, Nat.add_one_sub_one, Int.cast_ofNat_Int, Int.reduceEq, decide_true, decide_false, Bool.false_or, Bool.or_false, Bool.true_and, Bool.and_true, Bool.false_and, Bool.and_false, Bool.true_or, Bool.or_true, Bool.false_eq_true, if_true, if_false, List.isEmpty_cons, hm, hy, hg, drawT]
      rw [e]
      exact key z y b1 b3
    | some r =>
      have e : m__law_draw [.scr (x :: xs), .town n rests, .dat (.int m)] = outE 1 (drawT [some (.scr (x :: xs)), some (.town (n + 1) rests), some (.dat (.int m)), some (.dat (.int z)), some (.dat (.int r)), none]) := by
        unfold m__law_draw
        simp only [LIM, andR_ok, orR_ok, ifR_ok, notR_ok, chR_ok, upE_ok, upE_exc, upE_ite, ifS_ok, ifS_exc, ifS_ite, seqS_nx, seqS_rt, seqS_exc, seqS_ct, seqS_ite, retS_ok, retS_exc, retS_ite, asgS_ok, asgS_exc, asgS_ite, dropS_ok, dropS_exc, dropS_ite, outD_rt, outD_nx, outD_exc, outD_ite, bind_ite, ite_and, ite_or, ite_nand, rC, rV, rL, Rf.r1, Rf.r2, rNot_eq, rAnd_eq, rOr_eq, rIf_eq, rChain_eq, raNil, raCons, raApp, rTup, rLst, rSl, roNone, roSome, riS, riR1_eq, riR2, riZip, rComp, rCall, rLam_eq, lamR_ok, lam_table, lam_row, lam_start, lam_run, lam_changes, lam_plan, lam_home, lam_rule, lam_text, lam_many, lam_nothing, lam_circular, eP_eq, Rf.e1, Rf.e2, eaNil, eaCons, eTup, eLst, eCall, eNot, eAnd, eOr, eIf, sSeq_eq, sAsg_eq, sDrop_eq, sRet_eq, sIf_eq, sNil, sFor, sForE, sPut, sPar2, sPar3, sParE, setD, sFz, frzR, sRaise, sCont, sBrk, tgV, tgT_tup, tgCons, tgNil, rYes, fnD_eq, fnE_eq, outE_rt, outE_ite, R.bind_ok, R.bind_exc, R.bind_bad, Res.bind_ok, Res.bind_exc, Res.bind_bad, mD, mL, nM, eApp, eAppE, eExt, ePop, ePop0, eCallE_eq, callE_ok, putE_ok, resbind_ite, a1Nil, a1D, a1S, a1O, lk_town, lk_lst, lk_dat, ieR1_eq, rScr, rSix, rTown, rTget, sTcnt, sTrest, nTown, wipeR, dItems_lst, dItems_tup, dLen_lst, dLen_tup, dTuple_lst, dTuple_tup, dList_lst, dList_tup, dIx_lst, dIx_tup, atR_some, dIx_edge0, dIx_edge1, dIx_edge2, dSl_lst, dSl_tup, dInT_int, dInL_int, dNiT_int, dNiL_int, dInT_edge, dInL_edge, dNiT_edge, dNiL_edge, dEq_ref, dEq_fol, dEq_emp, dNe_ref, dNe_fol, dNe_emp, dNeg, dAdd, dSub, dCat, dLt, dLe, dGt, dGe, dIs_non, dIsNot_non, isN_non, isN_tup, isN_str, List.map, List.replicate, List.length, List.append_eq, List.cons_append, List.nil_append, List.getElem?_cons_zero, List.getElem?_cons_succ, List.set_cons_zero, List.set_cons_succ, Nat.reduceAdd, Nat.reduceSub, Nat.reduceLeDiff, Nat.zero_add, Option.bind_some, Bool.not_true, Bool.not_false, reduceIte, List.length_cons, List.length_nil, List.map_cons, List.map_nil, List.replicate_succ, List.replicate_zero, List.singleton_append, List.length_map, Nat.sub_self, Nat.add_one_sub_one, Int.cast_ofNat_Int, Int.reduceEq, decide_true, decide_false, Bool.false_or, Bool.or_false, Bool.true_and, Bool.and_true, Bool.false_and, Bool.and_false, Bool.true_or, Bool.or_true, Bool.false_eq_true, if_true, if_false, List.isEmpty_cons, hm, hy, hg, drawT]
      rw [e]
      exact key z r b1 b3
end Rf

namespace Rf
open PySem PySem.Spec PyProof.Rows L2 LamX
def top (i : Nat) : Stmt := PySem.Challenge.pw_refrows_k34_bounds_by_hand.main.body.getD i (.Pass ⟨0, 0, 0, 0⟩)
theorem hu1_ {k : Nat} {A : Around} (hr : Room k A) : A.units + 1 < cLine := by have := hr.un; omega
theorem hu_ {k : Nat} {A : Around} (hr : Room k A) : A.units + 65 < cLine := by have := hr.un; omega
structure Bt (K : PySem.W.Frag) (mg : Str → Option Value) : Prop where
  isinstance_ : mg "isinstance" = none
  int_ : mg "int" = none
  bool_ : mg "bool" = none
  all_ : mg "all" = none
  zip_ : mg "zip" = none
  str_ : mg "str" = none
  tuple_ : mg "tuple" = none
  len_ : mg "len" = none
  list_ : mg "list" = none
  range_ : mg "range" = none
  sorted_ : mg "sorted" = none
  any_ : mg "any" = none
  dict_ : mg "dict" = none
  enumerate_ : mg "enumerate" = none
  InvalidTable : ExD K mg "InvalidTable"
  InvalidStart : ExD K mg "InvalidStart"
  InvalidPlan : ExD K mg "InvalidPlan"
  InvalidHome : ExD K mg "InvalidHome"
  InvalidChanges : ExD K mg "InvalidChanges"
  TooMany : ExD K mg "TooMany"
  InvalidRow : ExD K mg "InvalidRow"
  InvalidRule : ExD K mg "InvalidRule"
  Linked : ExD K mg "Linked"
  NotLinked : ExD K mg "NotLinked"
  xs_TooMany : ExS K mg "TooMany"
  xs_InvalidRow : ExS K mg "InvalidRow"
  RULES : ∃ a, mg "RULES" = some (.ref a) ∧ KTx K a ((["empty", "follow", "refuse"] : List Str).map V.str)
  MOST : ∃ t, mg "MOST" = some (.int 12 t)
def m__law_changes : List D → R D := fnD 5 (sSeq (sAsg (eP (rTup (raCons (r2 dAdd (rC (.int 4)) (rV 0)) (raCons (r1 dTuple (rComp (riS (rTup (raCons (rC (.int 1)) (raCons (rC (.int 2)) (raCons (rC (.int 3)) (raNil)))))) (tgV 4) (rYes) (rTup (raCons (rV 4) (raCons (rC (.int 0)) (raCons (rC (.str "refuse")) (raNil))))) [4])) (raNil))))) (tgV 1)) (sSeq (sAsg (eP (rTup (raCons (rTup (raCons (rC (.int 0)) (raCons (rC (.str "empty")) (raNil)))) (raCons (rTup (raCons (rC (.int 1)) (raCons (rC (.str "empty")) (raNil)))) (raCons (rTup (raCons (rC (.int 2)) (raCons (rC (.str "empty")) (raNil)))) (raNil)))))) (tgV 2)) (sSeq (sIf (eP (r2 dNe (rCall m_fewest_changes (raCons (rV 1) (raCons (rTup (raCons (rC (.int 0)) (raNil))) (raNil)))) (rV 2))) (sRet (eP (rC (.bool false)))) (sNil)) (sSeq (sIf (eP (r2 dNe (r2 dIx (rCall m_changed (raCons (rV 1) (raCons (rV 2) (raNil)))) (rC (.int 1))) (r1 dTuple (rComp (riS (rTup (raCons (rC (.int 1)) (raCons (rC (.int 2)) (raCons (rC (.int 3)) (raNil)))))) (tgV 4) (rYes) (rTup (raCons (rV 4) (raCons (rC (.int 0)) (raCons (rC (.str "empty")) (raNil))))) [4])))) (sRet (eP (rC (.bool false)))) (sNil)) (sSeq (sAsg (eP (rC (.bool false))) (tgV 3)) (sSeq (sTry "TooMany" (sDrop (eP (rCall m_fewest_changes (raCons (rTup (raCons (rC (.int 5)) (raCons (r1 dTuple (rComp (riS (rTup (raCons (rC (.int 1)) (raCons (rC (.int 2)) (raCons (rC (.int 3)) (raCons (rC (.int 4)) (raNil))))))) (tgV 4) (rYes) (rTup (raCons (rV 4) (raCons (rC (.int 0)) (raCons (rC (.str "refuse")) (raNil))))) [4])) (raNil)))) (raCons (rTup (raCons (rC (.int 0)) (raNil))) (raNil)))))) (sAsg (eP (rC (.bool true))) (tgV 3))) (sRet (eP (rV 3)))))))))
def s_law : Sf := sSeq (sPut 1 nTown) (sSeq (sAsg (e2 dAdd (eP (rC (.int 2))) (eCallE m__law_draw 1 (a1S 0 (a1O 1 (a1D (rC (.int 7)) (a1Nil)))))) (tgV 2)) (sSeq (sIf (eP (rCall m_is_table (raCons (rTup (raCons (rV 2) (raCons (rTup (raCons (rTup (raCons (rC (.int 0)) (raCons (rV 2) (raCons (rC (.str "follow")) (raNil))))) (raNil))) (raNil)))) (raNil)))) (sRet (eP (rC (.bool false)))) (sNil)) (sSeq (sIf (eP (rCall m_is_table (raCons (rTup (raCons (rV 2) (raCons (rTup (raCons (rTup (raCons (rV 2) (raCons (rC (.int 0)) (raCons (rC (.str "follow")) (raNil))))) (raNil))) (raNil)))) (raNil)))) (sRet (eP (rC (.bool false)))) (sNil)) (sSeq (sIf (eP (rNot (rCall m_is_table (raCons (rTup (raCons (rV 2) (raCons (rTup (raCons (rTup (raCons (r2 dSub (rV 2) (rC (.int 1))) (raCons (rC (.int 0)) (raCons (rC (.str "follow")) (raNil))))) (raNil))) (raNil)))) (raNil))))) (sRet (eP (rC (.bool false)))) (sNil)) (sSeq (sAsg (eP (rTup (raCons (rV 2) (raCons (rTup (raCons (rTup (raCons (r2 dSub (rV 2) (rC (.int 1))) (raCons (rC (.int 0)) (raCons (rC (.str "follow")) (raNil))))) (raNil))) (raNil))))) (tgV 3)) (sSeq (sIf (eP (rNot (rCall m_is_run (raCons (rV 3) (raCons (rTup (raCons (rC (.int 0)) (raNil))) (raCons (rTup (raCons (rTup (raCons (r2 dSub (rV 2) (rC (.int 1))) (raCons (rC (.int 0)) (raCons (rC (.str "follow")) (raNil))))) (raNil))) (raNil))))))) (sRet (eP (rC (.bool false)))) (sNil)) (sSeq (sIf (eP (rCall m_is_run (raCons (rV 3) (raCons (rTup (raCons (rC (.int 0)) (raNil))) (raCons (rTup (raCons (rTup (raCons (r2 dSub (rV 2) (rC (.int 1))) (raCons (rC (.bool false)) (raCons (rC (.str "follow")) (raNil))))) (raNil))) (raNil)))))) (sRet (eP (rC (.bool false)))) (sNil)) (sSeq (sAsg (eP (rTup (raCons (rC (.int 2)) (raCons (rTup (raCons (rTup (raCons (rC (.int 1)) (raCons (rC (.int 0)) (raCons (rC (.str "follow")) (raNil))))) (raNil))) (raNil))))) (tgV 4)) (sSeq (sIf (eP (rCall m_is_run (raCons (rV 4) (raCons (rTup (raCons (rC (.int 0)) (raNil))) (raCons (rTup (raCons (rTup (raCons (rC (.bool true)) (raCons (rC (.int 0)) (raCons (rC (.str "follow")) (raNil))))) (raNil))) (raNil)))))) (sRet (eP (rC (.bool false)))) (sNil)) (sSeq (sIf (eP (rNot (rCall m__law_refused (raCons (rV 2) (raCons (rV 2) (raNil)))))) (sRet (eP (rC (.bool false)))) (sNil)) (sSeq (sIf (eP (rNot (rCall m__law_refused (raCons (rV 2) (raCons (rC (.bool true)) (raNil)))))) (sRet (eP (rC (.bool false)))) (sNil)) (sSeq (sPut 5 (nM (mMk m_Desk___init__ (rTup (raCons (rV 2) (raCons (rTup (raNil)) (raNil))))))) (sSeq (sIf (e2 dNe (eMeth m_Desk_link 5 (a1D (r2 dSub (rV 2) (rC (.int 1))) (a1D (rC (.int 0)) (a1D (rC (.str "follow")) (a1Nil))))) (eP (rC (.int 1)))) (sRet (eP (rC (.bool false)))) (sNil)) (sSeq (sIf (e2 dNe (eMeth m_Desk_link 5 (a1D (rC (.int 0)) (a1D (r2 dSub (rV 2) (rC (.int 1))) (a1D (rC (.str "empty")) (a1Nil))))) (eP (rC (.int 2)))) (sRet (eP (rC (.bool false)))) (sNil)) (sSeq (sIf (e2 dNe (eMeth m_Desk_unlink 5 (a1D (r2 dSub (rV 2) (rC (.int 1))) (a1D (rC (.int 0)) (a1Nil)))) (eP (rC (.int 1)))) (sRet (eP (rC (.bool false)))) (sNil)) (sRet (eAnd (eCall m__law_changes (eaCons (eCallE m__law_draw 1 (a1S 0 (a1O 1 (a1D (rC (.int 4)) (a1Nil))))) (eaNil))) (eCall m__law_plans (eaCons (e2 dAdd (eP (rC (.int 1))) (eCallE m__law_draw 1 (a1S 0 (a1O 1 (a1D (rC (.int 3)) (a1Nil)))))) (eaNil))))))))))))))))))))
theorem sc_is_between : FnScope ["value", "low", "high"] ["value", "low", "high"] (defScope (top 16)) := ⟨rfl, rfl, rfl, by decide +kernel, rfl, by decide +kernel, by decide +kernel⟩
theorem sc_is_ascending : FnScope ["values", "one", "other"] ["values"] (defScope (top 17)) := ⟨rfl, rfl, rfl, by decide +kernel, rfl, by decide +kernel, by decide +kernel⟩
theorem sc_is_rule : FnScope ["value"] ["value"] (defScope (top 18)) := ⟨rfl, rfl, rfl, by decide +kernel, rfl, by decide +kernel, by decide +kernel⟩
theorem sc_is_reference : FnScope ["rows", "value"] ["rows", "value"] (defScope (top 19)) := ⟨rfl, rfl, rfl, by decide +kernel, rfl, by decide +kernel, by decide +kernel⟩
theorem sc_is_table : FnScope ["value", "rows", "references", "one"] ["value"] (defScope (top 20)) := ⟨rfl, rfl, rfl, by decide +kernel, rfl, by decide +kernel, by decide +kernel⟩
theorem sc_check_table : FnScope ["table"] ["table"] (defScope (top 21)) := ⟨rfl, rfl, rfl, by decide +kernel, rfl, by decide +kernel, by decide +kernel⟩
theorem sc_is_start : FnScope ["rows", "value", "one"] ["rows", "value"] (defScope (top 22)) := ⟨rfl, rfl, rfl, by decide +kernel, rfl, by decide +kernel, by decide +kernel⟩
theorem sc_check_start : FnScope ["table", "start"] ["table", "start"] (defScope (top 23)) := ⟨rfl, rfl, rfl, by decide +kernel, rfl, by decide +kernel, by decide +kernel⟩
theorem sc_open_in : FnScope ["references", "gone", "emptied", "one"] ["references", "gone", "emptied"] (defScope (top 25)) := ⟨rfl, rfl, rfl, by decide +kernel, rfl, by decide +kernel, by decide +kernel⟩
theorem sc_handled : FnScope ["gone", "emptied", "reference"] ["gone", "emptied", "reference"] (defScope (top 26)) := ⟨rfl, rfl, rfl, by decide +kernel, rfl, by decide +kernel, by decide +kernel⟩
theorem sc_end_of : FnScope ["references", "start", "run", "state", "reference"] ["references", "start", "run"] (defScope (top 27)) := ⟨rfl, rfl, rfl, by decide +kernel, rfl, by decide +kernel, by decide +kernel⟩
theorem sc_is_among : FnScope ["reference", "some", "one"] ["reference", "some"] (defScope (top 28)) := ⟨rfl, rfl, rfl, by decide +kernel, rfl, by decide +kernel, by decide +kernel⟩
theorem sc_is_run : FnScope ["table", "start", "value"] ["table", "start", "value"] (defScope (top 29)) := ⟨rfl, rfl, rfl, by decide +kernel, rfl, by decide +kernel, by decide +kernel⟩
theorem sc_some_runs : FnScope ["references", "start", "good", "bad", "known", "level", "further", "gone", "emptied", "run", "some", "reference", "there"] ["references", "start"] (defScope (top 30)) := ⟨rfl, rfl, rfl, by decide +kernel, rfl, by decide +kernel, by decide +kernel⟩
theorem sc_verdict_of : FnScope ["references", "start", "good", "bad"] ["references", "start"] (defScope (top 31)) := ⟨rfl, rfl, rfl, by decide +kernel, rfl, by decide +kernel, by decide +kernel⟩
theorem sc_is_column : FnScope ["tables", "value"] ["tables", "value"] (defScope (top 33)) := ⟨rfl, rfl, rfl, by decide +kernel, rfl, by decide +kernel, by decide +kernel⟩
theorem sc_is_plan : FnScope ["value", "tables", "columns", "one"] ["value"] (defScope (top 34)) := ⟨rfl, rfl, rfl, by decide +kernel, rfl, by decide +kernel, by decide +kernel⟩
theorem sc_check_plan : FnScope ["plan"] ["plan"] (defScope (top 35)) := ⟨rfl, rfl, rfl, by decide +kernel, rfl, by decide +kernel, by decide +kernel⟩
theorem sc_check_home : FnScope ["plan", "home"] ["plan", "home"] (defScope (top 36)) := ⟨rfl, rfl, rfl, by decide +kernel, rfl, by decide +kernel, by decide +kernel⟩
theorem sc_does_fit : FnScope ["plan", "homes", "value", "one", "other", "rule", "home"] ["plan", "homes", "value"] (defScope (top 37)) := ⟨rfl, rfl, rfl, by decide +kernel, rfl, by decide +kernel, by decide +kernel⟩
theorem sc_is_fitting : FnScope ["plan", "homes", "value"] ["plan", "homes", "value"] (defScope (top 38)) := ⟨rfl, rfl, rfl, by decide +kernel, rfl, by decide +kernel, by decide +kernel⟩
theorem sc_is_example : FnScope ["plan", "home", "value", "table", "homes", "row"] ["plan", "home", "value"] (defScope (top 39)) := ⟨rfl, rfl, rfl, by decide +kernel, rfl, by decide +kernel, by decide +kernel⟩
theorem sc_are_changes : FnScope ["table", "value", "one"] ["table", "value"] (defScope (top 43)) := ⟨rfl, rfl, rfl, by decide +kernel, rfl, by decide +kernel, by decide +kernel⟩
theorem sc_changed_to : FnScope ["table", "changes", "known", "rows", "at", "one", "other", "rule"] ["table", "changes"] (defScope (top 44)) := ⟨rfl, rfl, rfl, by decide +kernel, rfl, by decide +kernel, by decide +kernel⟩
theorem sc_changed : FnScope ["table", "changes"] ["table", "changes"] (defScope (top 45)) := ⟨rfl, rfl, rfl, by decide +kernel, rfl, by decide +kernel, by decide +kernel⟩
theorem sc_fewest_changes : FnScope ["table", "start", "rows", "size", "changes", "longer", "begin", "at", "rule"] ["table", "start"] (defScope (top 46)) := ⟨rfl, rfl, rfl, by decide +kernel, rfl, by decide +kernel, by decide +kernel⟩
theorem sc__law_draw : FnScope ["script", "town", "many", "at", "rest", "number"] ["script", "town", "many"] (defScope (top 48)) := ⟨rfl, rfl, rfl, by decide +kernel, rfl, by decide +kernel, by decide +kernel⟩
theorem sc__law_begun : FnScope [] [] (defScope (top 49)) := ⟨rfl, rfl, rfl, by decide +kernel, rfl, by decide +kernel, by decide +kernel⟩
theorem sc__law_changes : FnScope ["rest", "three", "due", "caught", "row"] ["rest"] (defScope (top 50)) := ⟨rfl, rfl, rfl, by decide +kernel, rfl, by decide +kernel, by decide +kernel⟩
theorem sc__law_refused : FnScope ["rows", "other", "caught"] ["rows", "other"] (defScope (top 51)) := ⟨rfl, rfl, rfl, by decide +kernel, rfl, by decide +kernel, by decide +kernel⟩
theorem sc__law_plans : FnScope ["tables", "rows", "one", "odd", "plan", "other"] ["tables"] (defScope (top 52)) := ⟨rfl, rfl, rfl, by decide +kernel, rfl, by decide +kernel, by decide +kernel⟩
theorem sc_law : FnScope ["script", "town", "rows", "table", "two", "desk"] ["script"] (defScope (top 53)) := ⟨rfl, rfl, rfl, by decide +kernel, rfl, by decide +kernel, by decide +kernel⟩
theorem sc_Desk___init__ : FnScope ["self", "table"] ["self", "table"] (defScope (inClass (top 41) 0)) := ⟨rfl, rfl, rfl, by decide +kernel, rfl, by decide +kernel, by decide +kernel⟩
theorem sc_Desk_check_pair : FnScope ["self", "source", "target"] ["self", "source", "target"] (defScope (inClass (top 41) 1)) := ⟨rfl, rfl, rfl, by decide +kernel, rfl, by decide +kernel, by decide +kernel⟩
theorem sc_Desk_become : FnScope ["self", "operation", "there", "links"] ["self", "operation", "there", "links"] (defScope (inClass (top 41) 2)) := ⟨rfl, rfl, rfl, by decide +kernel, rfl, by decide +kernel, by decide +kernel⟩
theorem sc_Desk_link : FnScope ["self", "source", "target", "rule", "links", "one"] ["self", "source", "target", "rule"] (defScope (inClass (top 41) 4)) := ⟨rfl, rfl, rfl, by decide +kernel, rfl, by decide +kernel, by decide +kernel⟩
theorem sc_Desk_unlink : FnScope ["self", "source", "target", "links", "one"] ["self", "source", "target"] (defScope (inClass (top 41) 5)) := ⟨rfl, rfl, rfl, by decide +kernel, rfl, by decide +kernel, by decide +kernel⟩
section
variable {P : Program} {w : World} {K : PySem.W.Frag} {mg : Str → Option Value} {base : Heap} {tb : List (Addr × Str)} {f : Addr} {fd : FuncData}
theorem w_is_between (F : FunD K "is_between" "is_between" (defArgs (top 16)) (defBody (top 16)) (defScope (top 16)) [] [] f fd) (hg : mg "is_between" = some (.ref f)) (B : Bt K mg) : CalD P w K mg base tb "is_between" ["value", "low", "high"] 1 m_is_between :=
  cal_of F sc_is_between hg rfl (fun cdv A outer s0 H E hr => by
    have tk : Takes (cxOf (L2.CX P w) P w K mg base ["value", "low", "high"] "is_between" (defScope (top 16)) f cdv A outer s0 H E) (fun cls d _ H => E cls d H) := takes_of rfl rfl rfl rfl
    exact pssd_one (psd_ret (pee (pp_and (pp_isi B.isinstance_ rfl B.int_ rfl bb_int (pq (pp_var 0))) (pp_and (pp_not (pp_isi B.isinstance_ rfl B.bool_ rfl bb_bool (pq (pp_var 0)))) (pp_one (pp_chain od_le od_le nex_dLe nex_dLe (pq (pp_var 1)) (pq (pp_var 0)) (pq (pp_var 2))))))))) (fun kV doc pm an cdv ct us ws ks a1 a2 a3 => by
    subst a3
    exact match us, ws, a1, a2 with | [], [_, _, _], _, _ => rfl | [_], [_, _], _, _ => rfl | [_, _], [_], _, _ => rfl | [_, _, _], [], _, _ => rfl)
theorem w_is_ascending (F : FunD K "is_ascending" "is_ascending" (defArgs (top 17)) (defBody (top 17)) (defScope (top 17)) [] [] f fd) (hg : mg "is_ascending" = some (.ref f)) (B : Bt K mg) : CalD P w K mg base tb "is_ascending" ["values"] 1 m_is_ascending :=
  cal_of F sc_is_ascending hg rfl (fun cdv A outer s0 H E hr => by
    have tk : Takes (cxOf (L2.CX P w) P w K mg base ["values", "one", "other"] "is_ascending" (defScope (top 17)) f cdv A outer s0 H E) (fun cls d _ H => E cls d H) := takes_of rfl rfl rfl rfl
    exact pssd_one (psd_ret (pee (pp_b1 (cb_all rfl) nex_dAll rfl B.all_ bb_all (pq (pp_lc (own := [("one", 1), ("other", 2)]) rfl sc_is_ascending.nd (pip_zip rfl B.zip_ (pp_var 0) (pp_sl (pq (pp_var 0)) (ppo_some (pp_int)) (ppo_none))) (blkOk_by (by kernel_rfl)) (fun _ _ _ _ _ => pgd_tup rfl (pgds_cons (pgd_name 1 sc_is_ascending.nd) (pgds_cons (pgd_name 2 sc_is_ascending.nd) (pgds_nil))) (tl_cons (tl_cons tl_nil))) (fun _ _ _ _ _ => pts_yes) (fun _ _ _ _ _ => pp_cmp (od_lt (hu_ hr)) nex_dLt (pq (pp_var 1)) (pq (pp_var 2)) (nomark _)))))))) (fun kV doc pm an cdv ct us ws ks a1 a2 a3 => by
    subst a3
    exact match us, ws, a1, a2 with | [], [_], _, _ => rfl | [_], [], _, _ => rfl)
theorem w_is_rule (F : FunD K "is_rule" "is_rule" (defArgs (top 18)) (defBody (top 18)) (defScope (top 18)) [] [] f fd) (hg : mg "is_rule" = some (.ref f)) (B : Bt K mg) : CalD P w K mg base tb "is_rule" ["value"] 1 m_is_rule :=
  cal_of F sc_is_rule hg rfl (fun cdv A outer s0 H E hr => by
    have tk : Takes (cxOf (L2.CX P w) P w K mg base ["value"] "is_rule" (defScope (top 18)) f cdv A outer s0 H E) (fun cls d _ H => E cls d H) := takes_of rfl rfl rfl rfl
    exact pssd_one (psd_ret (pee (pp_and (pp_isi B.isinstance_ rfl B.str_ rfl bb_str (pq (pp_var 0))) (pp_one (pp_cmp (od_in (hu_ hr)) nex_dIn (pq (pp_var 0)) (pq (pp_gstrs B.RULES (by decide) rfl)) (by rfl))))))) (fun kV doc pm an cdv ct us ws ks a1 a2 a3 => by
    subst a3
    exact match us, ws, a1, a2 with | [], [_], _, _ => rfl | [_], [], _, _ => rfl)
theorem w_is_reference (F : FunD K "is_reference" "is_reference" (defArgs (top 19)) (defBody (top 19)) (defScope (top 19)) [] [] f fd) (hg : mg "is_reference" = some (.ref f)) (B : Bt K mg) (c_is_rule : CalD P w K mg base tb "is_rule" ["value"] 1 m_is_rule) (c_is_between : CalD P w K mg base tb "is_between" ["value", "low", "high"] 1 m_is_between) : CalD P w K mg base tb "is_reference" ["rows", "value"] 2 m_is_reference :=
  cal_of F sc_is_reference hg rfl (fun cdv A outer s0 H E hr => by
    have tk : Takes (cxOf (L2.CX P w) P w K mg base ["rows", "value"] "is_reference" (defScope (top 19)) f cdv A outer s0 H E) (fun cls d _ H => E cls d H) := takes_of rfl rfl rfl rfl
    exact pssd_cons (psd_if (pte (PW.pt (ptw_or (ptp_not (ptp_val (pp_isi B.isinstance_ rfl B.tuple_ rfl bb_tuple (pq (pp_var 1))))) (ptw_or (ptp_cmp (od_ne (hu_ hr)) nex_dNe (pq (pp_b1 cb_len nex_dLen rfl B.len_ bb_len (pq (pp_var 1)))) (pq (pp_int)) (nomark _)) (ptw_or1 (ptp_not (ptp_val (pp_c c_is_rule hr (by decide) rfl tk (ppa_cons (pp_ix (hu1_ hr) (pq (pp_var 1)) (pq (pp_int))) (ppa_nil)) (al_cons al_nil))))))))) (pssd_one (psd_ret (pee (pp_bl)))) (pssd_nil)) (pssd_cons (psd_if (pte (PW.pt (ptw_or (ptp_not (ptp_val (pp_c c_is_between hr (by decide) rfl tk (ppa_cons (pp_ix (hu1_ hr) (pq (pp_var 1)) (pq (pp_int))) (ppa_cons (pp_int) (ppa_cons (pp_op od_sub nex_dSub (pq (pp_var 0)) (pq (pp_int))) (ppa_nil)))) (al_cons (al_cons (al_cons al_nil)))))) (ptw_or1 (ptp_not (ptp_val (pp_c c_is_between hr (by decide) rfl tk (ppa_cons (pp_ix (hu1_ hr) (pq (pp_var 1)) (pq (pp_int))) (ppa_cons (pp_int) (ppa_cons (pp_op od_sub nex_dSub (pq (pp_var 0)) (pq (pp_int))) (ppa_nil)))) (al_cons (al_cons (al_cons al_nil)))))))))) (pssd_one (psd_ret (pee (pp_bl)))) (pssd_nil)) (pssd_one (psd_ret (pee (pp_cmp (od_ne (hu_ hr)) nex_dNe (pq (pp_ix (hu1_ hr) (pq (pp_var 1)) (pq (pp_int)))) (pq (pp_ix (hu1_ hr) (pq (pp_var 1)) (pq (pp_int)))) (nomark _))))))) (fun kV doc pm an cdv ct us ws ks a1 a2 a3 => by
    subst a3
    exact match us, ws, a1, a2 with | [], [_, _], _, _ => rfl | [_], [_], _, _ => rfl | [_, _], [], _, _ => rfl)
theorem w_is_table (F : FunD K "is_table" "is_table" (defArgs (top 20)) (defBody (top 20)) (defScope (top 20)) [] [] f fd) (hg : mg "is_table" = some (.ref f)) (B : Bt K mg) (c_is_between : CalD P w K mg base tb "is_between" ["value", "low", "high"] 1 m_is_between) (c_is_reference : CalD P w K mg base tb "is_reference" ["rows", "value"] 2 m_is_reference) (c_is_ascending : CalD P w K mg base tb "is_ascending" ["values"] 1 m_is_ascending) : CalD P w K mg base tb "is_table" ["value"] 3 m_is_table :=
  cal_of F sc_is_table hg rfl (fun cdv A outer s0 H E hr => by
    have tk : Takes (cxOf (L2.CX P w) P w K mg base ["value", "rows", "references", "one"] "is_table" (defScope (top 20)) f cdv A outer s0 H E) (fun cls d _ H => E cls d H) := takes_of rfl rfl rfl rfl
    exact pssd_cons (psd_if (pte (PW.pt (ptw_or (ptp_not (ptp_val (pp_isi B.isinstance_ rfl B.tuple_ rfl bb_tuple (pq (pp_var 0))))) (ptw_or (ptp_cmp (od_ne (hu_ hr)) nex_dNe (pq (pp_b1 cb_len nex_dLen rfl B.len_ bb_len (pq (pp_var 0)))) (pq (pp_int)) (nomark _)) (ptw_or1 (ptp_not (ptp_val (pp_c c_is_between hr (by decide) rfl tk (ppa_cons (pp_ix (hu1_ hr) (pq (pp_var 0)) (pq (pp_int))) (ppa_cons (pp_int) (ppa_cons (pp_int) (ppa_nil)))) (al_cons (al_cons (al_cons al_nil))))))))))) (pssd_one (psd_ret (pee (pp_bl)))) (pssd_nil)) (pssd_cons (psd_asg (pee (pp_var 0)) (pgd_tup rfl (pgds_cons (pgd_name 1 sc_is_table.nd) (pgds_cons (pgd_name 2 sc_is_table.nd) (pgds_nil))) (tl_cons (tl_cons tl_nil)))) (pssd_cons (psd_if (pte (PW.pt (ptw_or (ptp_not (ptp_val (pp_isi B.isinstance_ rfl B.tuple_ rfl bb_tuple (pq (pp_var 2))))) (ptw_or1 (ptp_cmp od_gt nex_dGt (pq (pp_b1 cb_len nex_dLen rfl B.len_ bb_len (pq (pp_var 2)))) (pq (pp_gint B.MOST rfl)) (nomark _)))))) (pssd_one (psd_ret (pee (pp_bl)))) (pssd_nil)) (pssd_cons (psd_if (pte (ptp_not (ptp_val (pp_b1 (cb_all rfl) nex_dAll rfl B.all_ bb_all (pq (pp_lc (own := [("one", 3)]) rfl sc_is_table.nd (pip_seq (pp_var 2)) (blkOk_by (by kernel_rfl)) (fun _ _ _ _ _ => pgd_name 3 sc_is_table.nd) (fun _ _ _ _ _ => pts_yes) (fun _ _ _ _ _ => pp_c c_is_reference hr (by decide) rfl L2.takes0 (ppa_cons (pp_var 1) (ppa_cons (pp_var 3) (ppa_nil))) (al_cons (al_cons al_nil))))))))) (pssd_one (psd_ret (pee (pp_bl)))) (pssd_nil)) (pssd_one (psd_ret (pee (pp_c c_is_ascending hr (by decide) rfl tk (ppa_cons (pp_lc (own := [("one", 3)]) rfl sc_is_table.nd (pip_seq (pp_var 2)) (blkOk_by (by kernel_rfl)) (fun _ _ _ _ _ => pgd_name 3 sc_is_table.nd) (fun _ _ _ _ _ => pts_yes) (fun _ _ _ _ _ => pp_sl (pq (pp_var 3)) (ppo_none) (ppo_some (pp_int)))) (ppa_nil)) (al_cons al_nil))))))))) (fun kV doc pm an cdv ct us ws ks a1 a2 a3 => by
    subst a3
    exact match us, ws, a1, a2 with | [], [_], _, _ => rfl | [_], [], _, _ => rfl)
theorem w_check_table (F : FunD K "check_table" "check_table" (defArgs (top 21)) (defBody (top 21)) (defScope (top 21)) [] [] f fd) (hg : mg "check_table" = some (.ref f)) (B : Bt K mg) (c_is_table : CalD P w K mg base tb "is_table" ["value"] 3 m_is_table) : CalD P w K mg base tb "check_table" ["table"] 4 m_check_table :=
  cal_of F sc_check_table hg rfl (fun cdv A outer s0 H E hr => by
    have tk : Takes (cxOf (L2.CX P w) P w K mg base ["table"] "check_table" (defScope (top 21)) f cdv A outer s0 H E) (fun cls d _ H => E cls d H) := takes_of rfl rfl rfl rfl
    exact pssd_one (psd_if (pte (ptp_not (ptp_val (pp_c c_is_table hr (by decide) rfl tk (ppa_cons (pp_var 0) (ppa_nil)) (al_cons al_nil))))) (pssd_one (psd_raiseD B.InvalidTable rfl tk rfl)) (pssd_nil))) (fun kV doc pm an cdv ct us ws ks a1 a2 a3 => by
    subst a3
    exact match us, ws, a1, a2 with | [], [_], _, _ => rfl | [_], [], _, _ => rfl)
theorem w_is_start (F : FunD K "is_start" "is_start" (defArgs (top 22)) (defBody (top 22)) (defScope (top 22)) [] [] f fd) (hg : mg "is_start" = some (.ref f)) (B : Bt K mg) (c_is_between : CalD P w K mg base tb "is_between" ["value", "low", "high"] 1 m_is_between) (c_is_ascending : CalD P w K mg base tb "is_ascending" ["values"] 1 m_is_ascending) : CalD P w K mg base tb "is_start" ["rows", "value"] 2 m_is_start :=
  cal_of F sc_is_start hg rfl (fun cdv A outer s0 H E hr => by
    have tk : Takes (cxOf (L2.CX P w) P w K mg base ["rows", "value", "one"] "is_start" (defScope (top 22)) f cdv A outer s0 H E) (fun cls d _ H => E cls d H) := takes_of rfl rfl rfl rfl
    exact pssd_cons (psd_if (pte (PW.pt (ptw_or (ptp_not (ptp_val (pp_isi B.isinstance_ rfl B.tuple_ rfl bb_tuple (pq (pp_var 1))))) (ptw_or (ptp_cmp (od_eq (hu_ hr)) nex_dEq (pq (pp_var 1)) (pq (pp_tup (ppa_nil))) (nomark _)) (ptw_or1 (ptp_not (ptp_val (pp_b1 (cb_all rfl) nex_dAll rfl B.all_ bb_all (pq (pp_lc (own := [("one", 2)]) rfl sc_is_start.nd (pip_seq (pp_var 1)) (blkOk_by (by kernel_rfl)) (fun _ _ _ _ _ => pgd_name 2 sc_is_start.nd) (fun _ _ _ _ _ => pts_yes) (fun _ _ _ _ _ => pp_c c_is_between hr (by decide) rfl L2.takes0 (ppa_cons (pp_var 2) (ppa_cons (pp_int) (ppa_cons (pp_int) (ppa_nil)))) (al_cons (al_cons (al_cons al_nil)))))))))))))) (pssd_one (psd_ret (pee (pp_bl)))) (pssd_nil)) (pssd_one (psd_ret (pee (pp_and (pp_b1 (cb_all rfl) nex_dAll rfl B.all_ bb_all (pq (pp_lc (own := [("one", 2)]) rfl sc_is_start.nd (pip_seq (pp_var 1)) (blkOk_by (by kernel_rfl)) (fun _ _ _ _ _ => pgd_name 2 sc_is_start.nd) (fun _ _ _ _ _ => pts_yes) (fun _ _ _ _ _ => pp_cmp (od_in (hu_ hr)) nex_dIn (pq (pp_var 2)) (pq (pp_var 0)) (by rfl))))) (pp_one (pp_c c_is_ascending hr (by decide) rfl tk (ppa_cons (pp_var 1) (ppa_nil)) (al_cons al_nil)))))))) (fun kV doc pm an cdv ct us ws ks a1 a2 a3 => by
    subst a3
    exact match us, ws, a1, a2 with | [], [_, _], _, _ => rfl | [_], [_], _, _ => rfl | [_, _], [], _, _ => rfl)
theorem w_check_start (F : FunD K "check_start" "check_start" (defArgs (top 23)) (defBody (top 23)) (defScope (top 23)) [] [] f fd) (hg : mg "check_start" = some (.ref f)) (B : Bt K mg) (c_check_table : CalD P w K mg base tb "check_table" ["table"] 4 m_check_table) (c_is_start : CalD P w K mg base tb "is_start" ["rows", "value"] 2 m_is_start) : CalD P w K mg base tb "check_start" ["table", "start"] 5 m_check_start :=
  cal_of F sc_check_start hg rfl (fun cdv A outer s0 H E hr => by
    have tk : Takes (cxOf (L2.CX P w) P w K mg base ["table", "start"] "check_start" (defScope (top 23)) f cdv A outer s0 H E) (fun cls d _ H => E cls d H) := takes_of rfl rfl rfl rfl
    exact pssd_cons (psd_drop (pee (pp_c c_check_table hr (by decide) rfl tk (ppa_cons (pp_var 0) (ppa_nil)) (al_cons al_nil)))) (pssd_one (psd_if (pte (ptp_not (ptp_val (pp_c c_is_start hr (by decide) rfl tk (ppa_cons (pp_f isL_rLR (pf_listR1 rfl rfl B.list_ rfl B.range_ (pp_ix (hu1_ hr) (pq (pp_var 0)) (pq (pp_int))))) (ppa_cons (pp_var 1) (ppa_nil))) (al_cons (al_cons al_nil)))))) (pssd_one (psd_raiseD B.InvalidStart rfl tk rfl)) (pssd_nil)))) (fun kV doc pm an cdv ct us ws ks a1 a2 a3 => by
    subst a3
    exact match us, ws, a1, a2 with | [], [_, _], _, _ => rfl | [_], [_], _, _ => rfl | [_, _], [], _, _ => rfl)
theorem w_open_in (F : FunD K "open_in" "open_in" (defArgs (top 25)) (defBody (top 25)) (defScope (top 25)) [] [] f fd) (hg : mg "open_in" = some (.ref f)) (B : Bt K mg) : CalD P w K mg base tb "open_in" ["references", "gone", "emptied"] 1 m_open_in :=
  cal_of F sc_open_in hg rfl (fun cdv A outer s0 H E hr => by
    have tk : Takes (cxOf (L2.CX P w) P w K mg base ["references", "gone", "emptied", "one"] "open_in" (defScope (top 25)) f cdv A outer s0 H E) (fun cls d _ H => E cls d H) := takes_of rfl rfl rfl rfl
    exact pssd_one (psd_ret (pee (pp_lc (own := [("one", 3)]) rfl sc_open_in.nd (pip_seq (pp_var 0)) (blkOk_by (by kernel_rfl)) (fun _ _ _ _ _ => pgd_name 3 sc_open_in.nd) (fun _ _ _ _ _ => pts_one (PW.pt (ptw_and (ptp_cmp (od_in (hu_ hr)) nex_dIn (pq (pp_ix (hu1_ hr) (pq (pp_var 3)) (pq (pp_int)))) (pq (pp_var 1)) (by rfl)) (ptw_and (ptp_cmp (od_notIn (hu_ hr)) nex_dNotIn (pq (pp_ix (hu1_ hr) (pq (pp_var 3)) (pq (pp_int)))) (pq (pp_var 1)) (by rfl)) (ptw_and1 (ptp_cmp (od_notIn (hu_ hr)) nex_dNotIn (pq (pp_var 3)) (pq (pp_var 2)) (by rfl))))))) (fun _ _ _ _ _ => pp_var 3))))) (fun kV doc pm an cdv ct us ws ks a1 a2 a3 => by
    subst a3
    exact match us, ws, a1, a2 with | [], [_, _, _], _, _ => rfl | [_], [_, _], _, _ => rfl | [_, _], [_], _, _ => rfl | [_, _, _], [], _, _ => rfl)
theorem w_handled (F : FunD K "handled" "handled" (defArgs (top 26)) (defBody (top 26)) (defScope (top 26)) [] [] f fd) (hg : mg "handled" = some (.ref f)) (B : Bt K mg) : CalD P w K mg base tb "handled" ["gone", "emptied", "reference"] 1 m_handled :=
  cal_of F sc_handled hg rfl (fun cdv A outer s0 H E hr => by
    have tk : Takes (cxOf (L2.CX P w) P w K mg base ["gone", "emptied", "reference"] "handled" (defScope (top 26)) f cdv A outer s0 H E) (fun cls d _ H => E cls d H) := takes_of rfl rfl rfl rfl
    exact pssd_cons (psd_if (pte (ptp_cmp (od_eq (hu_ hr)) nex_dEq (pq (pp_ix (hu1_ hr) (pq (pp_var 2)) (pq (pp_int)))) (pq (pp_str)) (nomark _))) (pssd_one (psd_ret (pee (pp_non)))) (pssd_nil)) (pssd_cons (psd_if (pte (ptp_cmp (od_eq (hu_ hr)) nex_dEq (pq (pp_ix (hu1_ hr) (pq (pp_var 2)) (pq (pp_int)))) (pq (pp_str)) (nomark _))) (pssd_one (psd_ret (pee (pp_tup (ppa_cons (pp_t1 cb_tuple nex_dTuple rfl B.tuple_ bb_tuple (pq (pp_b1 (cb_sorted (hu_ hr)) nex_dSorted rfl B.sorted_ bb_sorted (pq (pp_op od_add nex_dAdd (pq (pp_var 0)) (pq (pp_tup (ppa_cons (pp_ix (hu1_ hr) (pq (pp_var 2)) (pq (pp_int))) (ppa_nil))))))))) (ppa_cons (pp_var 1) (ppa_nil))))))) (pssd_nil)) (pssd_one (psd_ret (pee (pp_tup (ppa_cons (pp_var 0) (ppa_cons (pp_t1 cb_tuple nex_dTuple rfl B.tuple_ bb_tuple (pq (pp_b1 (cb_sorted (hu_ hr)) nex_dSorted rfl B.sorted_ bb_sorted (pq (pp_op od_add nex_dAdd (pq (pp_var 1)) (pq (pp_tup (ppa_cons (pp_var 2) (ppa_nil))))))))) (ppa_nil))))))))) (fun kV doc pm an cdv ct us ws ks a1 a2 a3 => by
    subst a3
    exact match us, ws, a1, a2 with | [], [_, _, _], _, _ => rfl | [_], [_, _], _, _ => rfl | [_, _], [_], _, _ => rfl | [_, _, _], [], _, _ => rfl)
theorem w_end_of (F : FunD K "end_of" "end_of" (defArgs (top 27)) (defBody (top 27)) (defScope (top 27)) [] [] f fd) (hg : mg "end_of" = some (.ref f)) (B : Bt K mg) (c_is_among : CalD P w K mg base tb "is_among" ["reference", "some"] 1 m_is_among) (c_open_in : CalD P w K mg base tb "open_in" ["references", "gone", "emptied"] 1 m_open_in) (c_handled : CalD P w K mg base tb "handled" ["gone", "emptied", "reference"] 1 m_handled) : CalD P w K mg base tb "end_of" ["references", "start", "run"] 2 m_end_of :=
  cal_of F sc_end_of hg rfl (fun cdv A outer s0 H E hr => by
    have tk : Takes (cxOf (L2.CX P w) P w K mg base ["references", "start", "run", "state", "reference"] "end_of" (defScope (top 27)) f cdv A outer s0 H E) (fun cls d _ H => E cls d H) := takes_of rfl rfl rfl rfl
    exact pssd_cons (psd_if (pte (ptp_not (ptp_val (pp_isi B.isinstance_ rfl B.tuple_ rfl bb_tuple (pq (pp_var 2)))))) (pssd_one (psd_ret (pee (pp_non)))) (pssd_nil)) (pssd_cons (psd_set 3 sc_end_of.nd (pee (pp_tup (ppa_cons (pp_var 1) (ppa_cons (pp_tup (ppa_nil)) (ppa_nil)))))) (pssd_cons (psd_for (passes_of rfl) rfl (pip_seq (pp_var 2)) (pgd_name 4 sc_end_of.nd) (pssd_cons (psd_if (pte (PW.pt (ptw_or (ptp_cmp od_is nex_dIs (pq (pp_var 3)) (pq (pp_non)) (nomark _)) (ptw_or1 (ptp_not (ptp_val (pp_c c_is_among hr (by decide) rfl tk (ppa_cons (pp_var 4) (ppa_cons (pp_c c_open_in hr (by decide) rfl tk (ppa_cons (pp_var 0) (ppa_cons (pp_ix (hu1_ hr) (pq (pp_var 3)) (pq (pp_int))) (ppa_cons (pp_ix (hu1_ hr) (pq (pp_var 3)) (pq (pp_int))) (ppa_nil)))) (al_cons (al_cons (al_cons al_nil)))) (ppa_nil))) (al_cons (al_cons al_nil))))))))) (pssd_one (psd_ret (pee (pp_non)))) (pssd_nil)) (pssd_one (psd_set 3 sc_end_of.nd (pee (pp_c c_handled hr (by decide) rfl tk (ppa_cons (pp_ix (hu1_ hr) (pq (pp_var 3)) (pq (pp_int))) (ppa_cons (pp_ix (hu1_ hr) (pq (pp_var 3)) (pq (pp_int))) (ppa_cons (pp_var 4) (ppa_nil)))) (al_cons (al_cons (al_cons al_nil))))))))) (pssd_cons (psd_if (pte (ptp_cmp od_is nex_dIs (pq (pp_var 3)) (pq (pp_non)) (nomark _))) (pssd_one (psd_ret (pee (pp_str)))) (pssd_nil)) (pssd_one (psd_ret (pee (pp_if (ptp_cmp (od_eq (hu_ hr)) nex_dEq (pq (pp_c c_open_in hr (by decide) rfl tk (ppa_cons (pp_var 0) (ppa_cons (pp_ix (hu1_ hr) (pq (pp_var 3)) (pq (pp_int))) (ppa_cons (pp_ix (hu1_ hr) (pq (pp_var 3)) (pq (pp_int))) (ppa_nil)))) (al_cons (al_cons (al_cons al_nil))))) (pq (pp_lst (ppa_nil))) (nomark _)) (pp_str) (pp_non))))))))) (fun kV doc pm an cdv ct us ws ks a1 a2 a3 => by
    subst a3
    exact match us, ws, a1, a2 with | [], [_, _, _], _, _ => rfl | [_], [_, _], _, _ => rfl | [_, _], [_], _, _ => rfl | [_, _, _], [], _, _ => rfl)
theorem w_is_among (F : FunD K "is_among" "is_among" (defArgs (top 28)) (defBody (top 28)) (defScope (top 28)) [] [] f fd) (hg : mg "is_among" = some (.ref f)) (B : Bt K mg) : CalD P w K mg base tb "is_among" ["reference", "some"] 1 m_is_among :=
  cal_of F sc_is_among hg rfl (fun cdv A outer s0 H E hr => by
    have tk : Takes (cxOf (L2.CX P w) P w K mg base ["reference", "some", "one"] "is_among" (defScope (top 28)) f cdv A outer s0 H E) (fun cls d _ H => E cls d H) := takes_of rfl rfl rfl rfl
    exact pssd_cons (psd_if (pte (PW.pt (ptw_or (ptp_not (ptp_val (pp_isi B.isinstance_ rfl B.tuple_ rfl bb_tuple (pq (pp_var 0))))) (ptw_or1 (ptp_cmp (od_ne (hu_ hr)) nex_dNe (pq (pp_b1 cb_len nex_dLen rfl B.len_ bb_len (pq (pp_var 0)))) (pq (pp_int)) (nomark _)))))) (pssd_one (psd_ret (pee (pp_bl)))) (pssd_nil)) (pssd_cons (psd_if (pte (ptp_val (pp_b1 (cb_any rfl) nex_dAny rfl B.any_ bb_any (pq (pp_lc (own := [("one", 2)]) rfl sc_is_among.nd (pip_seq (pp_sl (pq (pp_var 0)) (ppo_none) (ppo_some (pp_int)))) (blkOk_by (by kernel_rfl)) (fun _ _ _ _ _ => pgd_name 2 sc_is_among.nd) (fun _ _ _ _ _ => pts_yes) (fun _ _ _ _ _ => pp_isi B.isinstance_ rfl B.bool_ rfl bb_bool (pq (pp_var 2)))))))) (pssd_one (psd_ret (pee (pp_bl)))) (pssd_nil)) (pssd_one (psd_ret (pee (pp_cmp (od_in (hu_ hr)) nex_dIn (pq (pp_var 0)) (pq (pp_var 1)) (by rfl))))))) (fun kV doc pm an cdv ct us ws ks a1 a2 a3 => by
    subst a3
    exact match us, ws, a1, a2 with | [], [_, _], _, _ => rfl | [_], [_], _, _ => rfl | [_, _], [], _, _ => rfl)
theorem w_is_run (F : FunD K "is_run" "is_run" (defArgs (top 29)) (defBody (top 29)) (defScope (top 29)) [] [] f fd) (hg : mg "is_run" = some (.ref f)) (B : Bt K mg) (c_check_start : CalD P w K mg base tb "check_start" ["table", "start"] 5 m_check_start) (c_end_of : CalD P w K mg base tb "end_of" ["references", "start", "run"] 2 m_end_of) : CalD P w K mg base tb "is_run" ["table", "start", "value"] 6 m_is_run :=
  cal_of F sc_is_run hg rfl (fun cdv A outer s0 H E hr => by
    have tk : Takes (cxOf (L2.CX P w) P w K mg base ["table", "start", "value"] "is_run" (defScope (top 29)) f cdv A outer s0 H E) (fun cls d _ H => E cls d H) := takes_of rfl rfl rfl rfl
    exact pssd_cons (psd_drop (pee (pp_c c_check_start hr (by decide) rfl tk (ppa_cons (pp_var 0) (ppa_cons (pp_var 1) (ppa_nil))) (al_cons (al_cons al_nil))))) (pssd_one (psd_ret (pee (pp_cmp od_isNot nex_dIsNot (pq (pp_c c_end_of hr (by decide) rfl tk (ppa_cons (pp_ix (hu1_ hr) (pq (pp_var 0)) (pq (pp_int))) (ppa_cons (pp_var 1) (ppa_cons (pp_var 2) (ppa_nil)))) (al_cons (al_cons (al_cons al_nil))))) (pq (pp_non)) (nomark _)))))) (fun kV doc pm an cdv ct us ws ks a1 a2 a3 => by
    subst a3
    exact match us, ws, a1, a2 with | [], [_, _, _], _, _ => rfl | [_], [_, _], _, _ => rfl | [_, _], [_], _, _ => rfl | [_, _, _], [], _, _ => rfl)
theorem w_some_runs (F : FunD K "some_runs" "some_runs" (defArgs (top 30)) (defBody (top 30)) (defScope (top 30)) [] [] f fd) (hg : mg "some_runs" = some (.ref f)) (B : Bt K mg) (c_open_in : CalD P w K mg base tb "open_in" ["references", "gone", "emptied"] 1 m_open_in) (c_handled : CalD P w K mg base tb "handled" ["gone", "emptied", "reference"] 1 m_handled) : CalD P w K mg base tb "some_runs" ["references", "start"] 2 m_some_runs :=
  cal_of F sc_some_runs hg rfl (fun cdv A outer s0 H E hr => by
    have tk : Takes (cxOf (L2.CX P w) P w K mg base ["references", "start", "good", "bad", "known", "level", "further", "gone", "emptied", "run", "some", "reference", "there"] "some_runs" (defScope (top 30)) f cdv A outer s0 H E) (fun cls d _ H => E cls d H) := takes_of rfl rfl rfl rfl
    exact pssd_cons (psd_par3 2 3 4 rfl sc_some_runs.nd (pm_dat (pp_non)) (pm_dat (pp_non)) (pm_nk1 4 (hu_ hr) (pp_tup (ppa_cons (pp_var 1) (ppa_cons (pp_tup (ppa_nil)) (ppa_nil)))) (pp_bl)) (by kernel_rfl)) (pssd_cons (psd_set 5 sc_some_runs.nd (pee (pp_lst (ppa_cons (pp_tup (ppa_cons (pp_var 1) (ppa_cons (pp_tup (ppa_nil)) (ppa_cons (pp_tup (ppa_nil)) (ppa_nil))))) (ppa_nil))))) (pssd_cons (psd_while (passes_of rfl) (pte (ptp_cmp (od_ne (hu_ hr)) nex_dNe (pq (pp_var 5)) (pq (pp_lst (ppa_nil))) (nomark _))) (pssd_cons (psd_put 6 sc_some_runs.nd (pn_m (pm_new (pf_lst (ppa_nil))))) (pssd_cons (psd_for (passes_of rfl) rfl (pip_seq (pp_var 5)) (pgd_tup rfl (pgds_cons (pgd_name 7 sc_some_runs.nd) (pgds_cons (pgd_name 8 sc_some_runs.nd) (pgds_cons (pgd_name 9 sc_some_runs.nd) (pgds_nil)))) (tl_cons (tl_cons (tl_cons tl_nil)))) (pssd_cons (psd_set 10 sc_some_runs.nd (pee (pp_c c_open_in hr (by decide) rfl tk (ppa_cons (pp_var 0) (ppa_cons (pp_var 7) (ppa_cons (pp_var 8) (ppa_nil)))) (al_cons (al_cons (al_cons al_nil)))))) (pssd_cons (psd_if (pte (PW.pt (ptw_and (ptp_cmp (od_eq (hu_ hr)) nex_dEq (pq (pp_var 10)) (pq (pp_lst (ppa_nil))) (nomark _)) (ptw_and1 (ptp_cmp od_is nex_dIs (pq (pp_var 2)) (pq (pp_non)) (nomark _)))))) (pssd_one (psd_set 2 sc_some_runs.nd (pee (pp_var 9)))) (pssd_nil)) (pssd_one (psd_for (passes_of rfl) rfl (pip_seq (pp_var 10)) (pgd_name 11 sc_some_runs.nd) (pssd_cons (psd_set 12 sc_some_runs.nd (pee (pp_c c_handled hr (by decide) rfl tk (ppa_cons (pp_var 7) (ppa_cons (pp_var 8) (ppa_cons (pp_var 11) (ppa_nil)))) (al_cons (al_cons (al_cons al_nil)))))) (pssd_one (psd_if (pte (ptp_cmp od_is nex_dIs (pq (pp_var 12)) (pq (pp_non)) (nomark _))) (pssd_one (psd_set 3 sc_some_runs.nd (pee (pp_if (ptp_cmp od_isNot nex_dIsNot (pq (pp_var 3)) (pq (pp_non)) (nomark _)) (pp_var 3) (pp_op od_add nex_dAdd (pq (pp_var 9)) (pq (pp_tup (ppa_cons (pp_var 11) (ppa_nil))))))))) (pssd_one (psd_if (pte (ptp_nnotin 4 (hu_ hr) (pp_var 12) rfl)) (pssd_cons (psd_nput 4 (hu_ hr) (pp_var 12) (pp_bl)) (pssd_one (psd_drop (pee_app 6 (pp_tup (ppa_cons (pp_ix (hu1_ hr) (pq (pp_var 12)) (pq (pp_int))) (ppa_cons (pp_ix (hu1_ hr) (pq (pp_var 12)) (pq (pp_int))) (ppa_cons (pp_op od_add nex_dAdd (pq (pp_var 9)) (pq (pp_tup (ppa_cons (pp_var 11) (ppa_nil))))) (ppa_nil))))))))) (pssd_nil))))))))))) (pssd_one (psd_fz 6 (psd_set 5 sc_some_runs.nd (pee (pp_var 6)))))))) (pssd_one (psd_ret (pee (pp_tup (ppa_cons (pp_var 2) (ppa_cons (pp_var 3) (ppa_nil)))))))))) (fun kV doc pm an cdv ct us ws ks a1 a2 a3 => by
    subst a3
    exact match us, ws, a1, a2 with | [], [_, _], _, _ => rfl | [_], [_], _, _ => rfl | [_, _], [], _, _ => rfl)
theorem w_verdict_of (F : FunD K "verdict_of" "verdict_of" (defArgs (top 31)) (defBody (top 31)) (defScope (top 31)) [] [] f fd) (hg : mg "verdict_of" = some (.ref f)) (B : Bt K mg) (c_some_runs : CalD P w K mg base tb "some_runs" ["references", "start"] 2 m_some_runs) : CalD P w K mg base tb "verdict_of" ["references", "start"] 3 m_verdict_of :=
  cal_of F sc_verdict_of hg rfl (fun cdv A outer s0 H E hr => by
    have tk : Takes (cxOf (L2.CX P w) P w K mg base ["references", "start", "good", "bad"] "verdict_of" (defScope (top 31)) f cdv A outer s0 H E) (fun cls d _ H => E cls d H) := takes_of rfl rfl rfl rfl
    exact pssd_cons (psd_asg (pee (pp_c c_some_runs hr (by decide) rfl tk (ppa_cons (pp_var 0) (ppa_cons (pp_var 1) (ppa_nil))) (al_cons (al_cons al_nil)))) (pgd_tup rfl (pgds_cons (pgd_name 2 sc_verdict_of.nd) (pgds_cons (pgd_name 3 sc_verdict_of.nd) (pgds_nil))) (tl_cons (tl_cons tl_nil)))) (pssd_cons (psd_if (pte (ptp_cmp od_is nex_dIs (pq (pp_var 2)) (pq (pp_non)) (nomark _))) (pssd_one (psd_ret (pee (pp_str)))) (pssd_nil)) (pssd_one (psd_ret (pee (pp_if (ptp_cmp od_is nex_dIs (pq (pp_var 3)) (pq (pp_non)) (nomark _)) (pp_str) (pp_str))))))) (fun kV doc pm an cdv ct us ws ks a1 a2 a3 => by
    subst a3
    exact match us, ws, a1, a2 with | [], [_, _], _, _ => rfl | [_], [_], _, _ => rfl | [_, _], [], _, _ => rfl)
theorem w_is_column (F : FunD K "is_column" "is_column" (defArgs (top 33)) (defBody (top 33)) (defScope (top 33)) [] [] f fd) (hg : mg "is_column" = some (.ref f)) (B : Bt K mg) (c_is_rule : CalD P w K mg base tb "is_rule" ["value"] 1 m_is_rule) (c_is_between : CalD P w K mg base tb "is_between" ["value", "low", "high"] 1 m_is_between) : CalD P w K mg base tb "is_column" ["tables", "value"] 2 m_is_column :=
  cal_of F sc_is_column hg rfl (fun cdv A outer s0 H E hr => by
    have tk : Takes (cxOf (L2.CX P w) P w K mg base ["tables", "value"] "is_column" (defScope (top 33)) f cdv A outer s0 H E) (fun cls d _ H => E cls d H) := takes_of rfl rfl rfl rfl
    exact pssd_cons (psd_if (pte (PW.pt (ptw_or (ptp_not (ptp_val (pp_isi B.isinstance_ rfl B.tuple_ rfl bb_tuple (pq (pp_var 1))))) (ptw_or (ptp_cmp (od_ne (hu_ hr)) nex_dNe (pq (pp_b1 cb_len nex_dLen rfl B.len_ bb_len (pq (pp_var 1)))) (pq (pp_int)) (nomark _)) (ptw_or1 (ptp_not (ptp_val (pp_c c_is_rule hr (by decide) rfl tk (ppa_cons (pp_ix (hu1_ hr) (pq (pp_var 1)) (pq (pp_int))) (ppa_nil)) (al_cons al_nil))))))))) (pssd_one (psd_ret (pee (pp_bl)))) (pssd_nil)) (pssd_one (psd_ret (pee (pp_and (pp_c c_is_between hr (by decide) rfl tk (ppa_cons (pp_ix (hu1_ hr) (pq (pp_var 1)) (pq (pp_int))) (ppa_cons (pp_int) (ppa_cons (pp_op od_sub nex_dSub (pq (pp_var 0)) (pq (pp_int))) (ppa_nil)))) (al_cons (al_cons (al_cons al_nil)))) (pp_one (pp_c c_is_between hr (by decide) rfl tk (ppa_cons (pp_ix (hu1_ hr) (pq (pp_var 1)) (pq (pp_int))) (ppa_cons (pp_int) (ppa_cons (pp_op od_sub nex_dSub (pq (pp_var 0)) (pq (pp_int))) (ppa_nil)))) (al_cons (al_cons (al_cons al_nil)))))))))) (fun kV doc pm an cdv ct us ws ks a1 a2 a3 => by
    subst a3
    exact match us, ws, a1, a2 with | [], [_, _], _, _ => rfl | [_], [_], _, _ => rfl | [_, _], [], _, _ => rfl)
theorem w_is_plan (F : FunD K "is_plan" "is_plan" (defArgs (top 34)) (defBody (top 34)) (defScope (top 34)) [] [] f fd) (hg : mg "is_plan" = some (.ref f)) (B : Bt K mg) (c_is_between : CalD P w K mg base tb "is_between" ["value", "low", "high"] 1 m_is_between) (c_is_column : CalD P w K mg base tb "is_column" ["tables", "value"] 2 m_is_column) (c_is_ascending : CalD P w K mg base tb "is_ascending" ["values"] 1 m_is_ascending) : CalD P w K mg base tb "is_plan" ["value"] 3 m_is_plan :=
  cal_of F sc_is_plan hg rfl (fun cdv A outer s0 H E hr => by
    have tk : Takes (cxOf (L2.CX P w) P w K mg base ["value", "tables", "columns", "one"] "is_plan" (defScope (top 34)) f cdv A outer s0 H E) (fun cls d _ H => E cls d H) := takes_of rfl rfl rfl rfl
    exact pssd_cons (psd_if (pte (PW.pt (ptw_or (ptp_not (ptp_val (pp_isi B.isinstance_ rfl B.tuple_ rfl bb_tuple (pq (pp_var 0))))) (ptw_or (ptp_cmp (od_ne (hu_ hr)) nex_dNe (pq (pp_b1 cb_len nex_dLen rfl B.len_ bb_len (pq (pp_var 0)))) (pq (pp_int)) (nomark _)) (ptw_or1 (ptp_not (ptp_val (pp_c c_is_between hr (by decide) rfl tk (ppa_cons (pp_ix (hu1_ hr) (pq (pp_var 0)) (pq (pp_int))) (ppa_cons (pp_int) (ppa_cons (pp_int) (ppa_nil)))) (al_cons (al_cons (al_cons al_nil))))))))))) (pssd_one (psd_ret (pee (pp_bl)))) (pssd_nil)) (pssd_cons (psd_asg (pee (pp_var 0)) (pgd_tup rfl (pgds_cons (pgd_name 1 sc_is_plan.nd) (pgds_cons (pgd_name 2 sc_is_plan.nd) (pgds_nil))) (tl_cons (tl_cons tl_nil)))) (pssd_cons (psd_if (pte (PW.pt (ptw_or (ptp_not (ptp_val (pp_isi B.isinstance_ rfl B.tuple_ rfl bb_tuple (pq (pp_var 2))))) (ptw_or (ptp_cmp od_gt nex_dGt (pq (pp_b1 cb_len nex_dLen rfl B.len_ bb_len (pq (pp_var 2)))) (pq (pp_int)) (nomark _)) (ptw_or1 (ptp_not (ptp_val (pp_b1 (cb_all rfl) nex_dAll rfl B.all_ bb_all (pq (pp_lc (own := [("one", 3)]) rfl sc_is_plan.nd (pip_seq (pp_var 2)) (blkOk_by (by kernel_rfl)) (fun _ _ _ _ _ => pgd_name 3 sc_is_plan.nd) (fun _ _ _ _ _ => pts_yes) (fun _ _ _ _ _ => pp_c c_is_column hr (by decide) rfl L2.takes0 (ppa_cons (pp_var 1) (ppa_cons (pp_var 3) (ppa_nil))) (al_cons (al_cons al_nil))))))))))))) (pssd_one (psd_ret (pee (pp_bl)))) (pssd_nil)) (pssd_one (psd_ret (pee (pp_c c_is_ascending hr (by decide) rfl tk (ppa_cons (pp_lc (own := [("one", 3)]) rfl sc_is_plan.nd (pip_seq (pp_var 2)) (blkOk_by (by kernel_rfl)) (fun _ _ _ _ _ => pgd_name 3 sc_is_plan.nd) (fun _ _ _ _ _ => pts_yes) (fun _ _ _ _ _ => pp_sl (pq (pp_var 3)) (ppo_none) (ppo_some (pp_int)))) (ppa_nil)) (al_cons al_nil)))))))) (fun kV doc pm an cdv ct us ws ks a1 a2 a3 => by
    subst a3
    exact match us, ws, a1, a2 with | [], [_], _, _ => rfl | [_], [], _, _ => rfl)
theorem w_check_plan (F : FunD K "check_plan" "check_plan" (defArgs (top 35)) (defBody (top 35)) (defScope (top 35)) [] [] f fd) (hg : mg "check_plan" = some (.ref f)) (B : Bt K mg) (c_is_plan : CalD P w K mg base tb "is_plan" ["value"] 3 m_is_plan) : CalD P w K mg base tb "check_plan" ["plan"] 4 m_check_plan :=
  cal_of F sc_check_plan hg rfl (fun cdv A outer s0 H E hr => by
    have tk : Takes (cxOf (L2.CX P w) P w K mg base ["plan"] "check_plan" (defScope (top 35)) f cdv A outer s0 H E) (fun cls d _ H => E cls d H) := takes_of rfl rfl rfl rfl
    exact pssd_one (psd_if (pte (ptp_not (ptp_val (pp_c c_is_plan hr (by decide) rfl tk (ppa_cons (pp_var 0) (ppa_nil)) (al_cons al_nil))))) (pssd_one (psd_raiseD B.InvalidPlan rfl tk rfl)) (pssd_nil))) (fun kV doc pm an cdv ct us ws ks a1 a2 a3 => by
    subst a3
    exact match us, ws, a1, a2 with | [], [_], _, _ => rfl | [_], [], _, _ => rfl)
theorem w_check_home (F : FunD K "check_home" "check_home" (defArgs (top 36)) (defBody (top 36)) (defScope (top 36)) [] [] f fd) (hg : mg "check_home" = some (.ref f)) (B : Bt K mg) (c_check_plan : CalD P w K mg base tb "check_plan" ["plan"] 4 m_check_plan) (c_is_between : CalD P w K mg base tb "is_between" ["value", "low", "high"] 1 m_is_between) : CalD P w K mg base tb "check_home" ["plan", "home"] 5 m_check_home :=
  cal_of F sc_check_home hg rfl (fun cdv A outer s0 H E hr => by
    have tk : Takes (cxOf (L2.CX P w) P w K mg base ["plan", "home"] "check_home" (defScope (top 36)) f cdv A outer s0 H E) (fun cls d _ H => E cls d H) := takes_of rfl rfl rfl rfl
    exact pssd_cons (psd_drop (pee (pp_c c_check_plan hr (by decide) rfl tk (ppa_cons (pp_var 0) (ppa_nil)) (al_cons al_nil)))) (pssd_one (psd_if (pte (ptp_not (ptp_val (pp_c c_is_between hr (by decide) rfl tk (ppa_cons (pp_var 1) (ppa_cons (pp_int) (ppa_cons (pp_op od_sub nex_dSub (pq (pp_ix (hu1_ hr) (pq (pp_var 0)) (pq (pp_int)))) (pq (pp_int))) (ppa_nil)))) (al_cons (al_cons (al_cons al_nil))))))) (pssd_one (psd_raiseD B.InvalidHome rfl tk rfl)) (pssd_nil)))) (fun kV doc pm an cdv ct us ws ks a1 a2 a3 => by
    subst a3
    exact match us, ws, a1, a2 with | [], [_, _], _, _ => rfl | [_], [_], _, _ => rfl | [_, _], [], _, _ => rfl)
theorem w_does_fit (F : FunD K "does_fit" "does_fit" (defArgs (top 37)) (defBody (top 37)) (defScope (top 37)) [] [] f fd) (hg : mg "does_fit" = some (.ref f)) (B : Bt K mg) (c_is_table : CalD P w K mg base tb "is_table" ["value"] 3 m_is_table) (c_is_between : CalD P w K mg base tb "is_between" ["value", "low", "high"] 1 m_is_between) : CalD P w K mg base tb "does_fit" ["plan", "homes", "value"] 4 m_does_fit :=
  cal_of F sc_does_fit hg rfl (fun cdv A outer s0 H E hr => by
    have tk : Takes (cxOf (L2.CX P w) P w K mg base ["plan", "homes", "value", "one", "other", "rule", "home"] "does_fit" (defScope (top 37)) f cdv A outer s0 H E) (fun cls d _ H => E cls d H) := takes_of rfl rfl rfl rfl
    exact pssd_cons (psd_if (pte (PW.pt (ptw_or (ptp_not (ptp_val (pp_c c_is_table hr (by decide) rfl tk (ppa_cons (pp_var 2) (ppa_nil)) (al_cons al_nil)))) (ptw_or (ptp_not (ptp_val (pp_isi B.isinstance_ rfl B.tuple_ rfl bb_tuple (pq (pp_var 1))))) (ptw_or1 (ptp_cmp (od_ne (hu_ hr)) nex_dNe (pq (pp_b1 cb_len nex_dLen rfl B.len_ bb_len (pq (pp_var 1)))) (pq (pp_ix (hu1_ hr) (pq (pp_var 2)) (pq (pp_int)))) (nomark _))))))) (pssd_one (psd_ret (pee (pp_bl)))) (pssd_nil)) (pssd_cons (psd_if (pte (ptp_not (ptp_val (pp_b1 (cb_all rfl) nex_dAll rfl B.all_ bb_all (pq (pp_lc (own := [("home", 6)]) rfl sc_does_fit.nd (pip_seq (pp_var 1)) (blkOk_by (by kernel_rfl)) (fun _ _ _ _ _ => pgd_name 6 sc_does_fit.nd) (fun _ _ _ _ _ => pts_yes) (fun _ _ _ _ _ => pp_c c_is_between hr (by decide) rfl L2.takes0 (ppa_cons (pp_var 6) (ppa_cons (pp_int) (ppa_cons (pp_op od_sub nex_dSub (pq (pp_ix (hu1_ hr) (pq (pp_var 0)) (pq (pp_int)))) (pq (pp_int))) (ppa_nil)))) (al_cons (al_cons (al_cons al_nil)))))))))) (pssd_one (psd_ret (pee (pp_bl)))) (pssd_nil)) (pssd_one (psd_ret (pee (pp_b1 (cb_all rfl) nex_dAll rfl B.all_ bb_all (pq (pp_lc (own := [("one", 3), ("other", 4), ("rule", 5)]) rfl sc_does_fit.nd (pip_seq (pp_ix (hu1_ hr) (pq (pp_var 2)) (pq (pp_int)))) (blkOk_by (by kernel_rfl)) (fun _ _ _ _ _ => pgd_tup rfl (pgds_cons (pgd_name 3 sc_does_fit.nd) (pgds_cons (pgd_name 4 sc_does_fit.nd) (pgds_cons (pgd_name 5 sc_does_fit.nd) (pgds_nil)))) (tl_cons (tl_cons (tl_cons tl_nil)))) (fun _ _ _ _ _ => pts_yes) (fun _ _ _ _ _ => pp_cmp (od_in (hu_ hr)) nex_dIn (pq (pp_tup (ppa_cons (pp_ix (hu1_ hr) (pq (pp_var 1)) (pq (pp_var 3))) (ppa_cons (pp_ix (hu1_ hr) (pq (pp_var 1)) (pq (pp_var 4))) (ppa_cons (pp_var 5) (ppa_nil)))))) (pq (pp_ix (hu1_ hr) (pq (pp_var 0)) (pq (pp_int)))) (by rfl)))))))))) (fun kV doc pm an cdv ct us ws ks a1 a2 a3 => by
    subst a3
    exact match us, ws, a1, a2 with | [], [_, _, _], _, _ => rfl | [_], [_, _], _, _ => rfl | [_, _], [_], _, _ => rfl | [_, _, _], [], _, _ => rfl)
theorem w_is_fitting (F : FunD K "is_fitting" "is_fitting" (defArgs (top 38)) (defBody (top 38)) (defScope (top 38)) [] [] f fd) (hg : mg "is_fitting" = some (.ref f)) (B : Bt K mg) (c_check_plan : CalD P w K mg base tb "check_plan" ["plan"] 4 m_check_plan) (c_does_fit : CalD P w K mg base tb "does_fit" ["plan", "homes", "value"] 4 m_does_fit) : CalD P w K mg base tb "is_fitting" ["plan", "homes", "value"] 5 m_is_fitting :=
  cal_of F sc_is_fitting hg rfl (fun cdv A outer s0 H E hr => by
    have tk : Takes (cxOf (L2.CX P w) P w K mg base ["plan", "homes", "value"] "is_fitting" (defScope (top 38)) f cdv A outer s0 H E) (fun cls d _ H => E cls d H) := takes_of rfl rfl rfl rfl
    exact pssd_cons (psd_drop (pee (pp_c c_check_plan hr (by decide) rfl tk (ppa_cons (pp_var 0) (ppa_nil)) (al_cons al_nil)))) (pssd_one (psd_ret (pee (pp_c c_does_fit hr (by decide) rfl tk (ppa_cons (pp_var 0) (ppa_cons (pp_var 1) (ppa_cons (pp_var 2) (ppa_nil)))) (al_cons (al_cons (al_cons al_nil)))))))) (fun kV doc pm an cdv ct us ws ks a1 a2 a3 => by
    subst a3
    exact match us, ws, a1, a2 with | [], [_, _, _], _, _ => rfl | [_], [_, _], _, _ => rfl | [_, _], [_], _, _ => rfl | [_, _, _], [], _, _ => rfl)
theorem w_is_example (F : FunD K "is_example" "is_example" (defArgs (top 39)) (defBody (top 39)) (defScope (top 39)) [] [] f fd) (hg : mg "is_example" = some (.ref f)) (B : Bt K mg) (c_check_home : CalD P w K mg base tb "check_home" ["plan", "home"] 5 m_check_home) (c_does_fit : CalD P w K mg base tb "does_fit" ["plan", "homes", "value"] 4 m_does_fit) (c_is_between : CalD P w K mg base tb "is_between" ["value", "low", "high"] 1 m_is_between) (c_verdict_of : CalD P w K mg base tb "verdict_of" ["references", "start"] 3 m_verdict_of) : CalD P w K mg base tb "is_example" ["plan", "home", "value"] 6 m_is_example :=
  cal_of F sc_is_example hg rfl (fun cdv A outer s0 H E hr => by
    have tk : Takes (cxOf (L2.CX P w) P w K mg base ["plan", "home", "value", "table", "homes", "row"] "is_example" (defScope (top 39)) f cdv A outer s0 H E) (fun cls d _ H => E cls d H) := takes_of rfl rfl rfl rfl
    exact pssd_cons (psd_drop (pee (pp_c c_check_home hr (by decide) rfl tk (ppa_cons (pp_var 0) (ppa_cons (pp_var 1) (ppa_nil))) (al_cons (al_cons al_nil))))) (pssd_cons (psd_if (pte (PW.pt (ptw_or (ptp_not (ptp_val (pp_isi B.isinstance_ rfl B.tuple_ rfl bb_tuple (pq (pp_var 2))))) (ptw_or (ptp_cmp (od_ne (hu_ hr)) nex_dNe (pq (pp_b1 cb_len nex_dLen rfl B.len_ bb_len (pq (pp_var 2)))) (pq (pp_int)) (nomark _)) (ptw_or1 (ptp_not (ptp_val (pp_c c_does_fit hr (by decide) rfl tk (ppa_cons (pp_var 0) (ppa_cons (pp_ix (hu1_ hr) (pq (pp_var 2)) (pq (pp_int))) (ppa_cons (pp_ix (hu1_ hr) (pq (pp_var 2)) (pq (pp_int))) (ppa_nil)))) (al_cons (al_cons (al_cons al_nil))))))))))) (pssd_one (psd_ret (pee (pp_bl)))) (pssd_nil)) (pssd_cons (psd_asg (pee (pp_var 2)) (pgd_tup rfl (pgds_cons (pgd_name 3 sc_is_example.nd) (pgds_cons (pgd_name 4 sc_is_example.nd) (pgds_cons (pgd_name 5 sc_is_example.nd) (pgds_nil)))) (tl_cons (tl_cons (tl_cons tl_nil))))) (pssd_cons (psd_if (pte (PW.pt (ptw_or (ptp_not (ptp_val (pp_c c_is_between hr (by decide) rfl tk (ppa_cons (pp_var 5) (ppa_cons (pp_int) (ppa_cons (pp_op od_sub nex_dSub (pq (pp_ix (hu1_ hr) (pq (pp_var 3)) (pq (pp_int)))) (pq (pp_int))) (ppa_nil)))) (al_cons (al_cons (al_cons al_nil)))))) (ptw_or1 (ptp_cmp (od_ne (hu_ hr)) nex_dNe (pq (pp_ix (hu1_ hr) (pq (pp_var 4)) (pq (pp_var 5)))) (pq (pp_var 1)) (nomark _)))))) (pssd_one (psd_ret (pee (pp_bl)))) (pssd_nil)) (pssd_one (psd_ret (pee (pp_cmp (od_eq (hu_ hr)) nex_dEq (pq (pp_c c_verdict_of hr (by decide) rfl tk (ppa_cons (pp_ix (hu1_ hr) (pq (pp_var 3)) (pq (pp_int))) (ppa_cons (pp_tup (ppa_cons (pp_var 5) (ppa_nil))) (ppa_nil))) (al_cons (al_cons al_nil)))) (pq (pp_str)) (nomark _))))))))) (fun kV doc pm an cdv ct us ws ks a1 a2 a3 => by
    subst a3
    exact match us, ws, a1, a2 with | [], [_, _, _], _, _ => rfl | [_], [_, _], _, _ => rfl | [_, _], [_], _, _ => rfl | [_, _, _], [], _, _ => rfl)
theorem w_are_changes (F : FunD K "are_changes" "are_changes" (defArgs (top 43)) (defBody (top 43)) (defScope (top 43)) [] [] f fd) (hg : mg "are_changes" = some (.ref f)) (B : Bt K mg) (c_is_between : CalD P w K mg base tb "is_between" ["value", "low", "high"] 1 m_is_between) (c_is_rule : CalD P w K mg base tb "is_rule" ["value"] 1 m_is_rule) (c_is_ascending : CalD P w K mg base tb "is_ascending" ["values"] 1 m_is_ascending) : CalD P w K mg base tb "are_changes" ["table", "value"] 2 m_are_changes :=
  cal_of F sc_are_changes hg rfl (fun cdv A outer s0 H E hr => by
    have tk : Takes (cxOf (L2.CX P w) P w K mg base ["table", "value", "one"] "are_changes" (defScope (top 43)) f cdv A outer s0 H E) (fun cls d _ H => E cls d H) := takes_of rfl rfl rfl rfl
    exact pssd_cons (psd_if (pte (PW.pt (ptw_or (ptp_not (ptp_val (pp_isi B.isinstance_ rfl B.tuple_ rfl bb_tuple (pq (pp_var 1))))) (ptw_or1 (ptp_not (ptp_val (pp_b1 (cb_all rfl) nex_dAll rfl B.all_ bb_all (pq (pp_lc (own := [("one", 2)]) rfl sc_are_changes.nd (pip_seq (pp_var 1)) (blkOk_by (by kernel_rfl)) (fun _ _ _ _ _ => pgd_name 2 sc_are_changes.nd) (fun _ _ _ _ _ => pts_yes) (fun _ _ _ _ _ => pp_and (pp_isi B.isinstance_ rfl B.tuple_ rfl bb_tuple (pq (pp_var 2))) (pp_one (pp_cmp (od_eq (hu_ hr)) nex_dEq (pq (pp_b1 cb_len nex_dLen rfl B.len_ bb_len (pq (pp_var 2)))) (pq (pp_int)) (nomark _))))))))))))) (pssd_one (psd_ret (pee (pp_bl)))) (pssd_nil)) (pssd_cons (psd_if (pte (ptp_not (ptp_val (pp_b1 (cb_all rfl) nex_dAll rfl B.all_ bb_all (pq (pp_lc (own := [("one", 2)]) rfl sc_are_changes.nd (pip_seq (pp_var 1)) (blkOk_by (by kernel_rfl)) (fun _ _ _ _ _ => pgd_name 2 sc_are_changes.nd) (fun _ _ _ _ _ => pts_yes) (fun _ _ _ _ _ => pp_and (pp_c c_is_between hr (by decide) rfl L2.takes0 (ppa_cons (pp_ix (hu1_ hr) (pq (pp_var 2)) (pq (pp_int))) (ppa_cons (pp_int) (ppa_cons (pp_op od_sub nex_dSub (pq (pp_b1 cb_len nex_dLen rfl B.len_ bb_len (pq (pp_ix (hu1_ hr) (pq (pp_var 0)) (pq (pp_int)))))) (pq (pp_int))) (ppa_nil)))) (al_cons (al_cons (al_cons al_nil)))) (pp_one (pp_c c_is_rule hr (by decide) rfl L2.takes0 (ppa_cons (pp_ix (hu1_ hr) (pq (pp_var 2)) (pq (pp_int))) (ppa_nil)) (al_cons al_nil)))))))))) (pssd_one (psd_ret (pee (pp_bl)))) (pssd_nil)) (pssd_one (psd_ret (pee (pp_and (pp_c c_is_ascending hr (by decide) rfl tk (ppa_cons (pp_lc (own := [("one", 2)]) rfl sc_are_changes.nd (pip_seq (pp_var 1)) (blkOk_by (by kernel_rfl)) (fun _ _ _ _ _ => pgd_name 2 sc_are_changes.nd) (fun _ _ _ _ _ => pts_yes) (fun _ _ _ _ _ => pp_ix (hu1_ hr) (pq (pp_var 2)) (pq (pp_int)))) (ppa_nil)) (al_cons al_nil)) (pp_one (pp_b1 (cb_all rfl) nex_dAll rfl B.all_ bb_all (pq (pp_lc (own := [("one", 2)]) rfl sc_are_changes.nd (pip_seq (pp_var 1)) (blkOk_by (by kernel_rfl)) (fun _ _ _ _ _ => pgd_name 2 sc_are_changes.nd) (fun _ _ _ _ _ => pts_yes) (fun _ _ _ _ _ => pp_cmp (od_ne (hu_ hr)) nex_dNe (pq (pp_ix (hu1_ hr) (pq (pp_ix (hu1_ hr) (pq (pp_ix (hu1_ hr) (pq (pp_var 0)) (pq (pp_int)))) (pq (pp_ix (hu1_ hr) (pq (pp_var 2)) (pq (pp_int)))))) (pq (pp_int)))) (pq (pp_ix (hu1_ hr) (pq (pp_var 2)) (pq (pp_int)))) (nomark _)))))))))))) (fun kV doc pm an cdv ct us ws ks a1 a2 a3 => by
    subst a3
    exact match us, ws, a1, a2 with | [], [_, _], _, _ => rfl | [_], [_], _, _ => rfl | [_, _], [], _, _ => rfl)
theorem w_changed_to (F : FunD K "changed_to" "changed_to" (defArgs (top 44)) (defBody (top 44)) (defScope (top 44)) [] [] f fd) (hg : mg "changed_to" = some (.ref f)) (B : Bt K mg) : CalD P w K mg base tb "changed_to" ["table", "changes"] 1 m_changed_to :=
  cal_of F sc_changed_to hg rfl (fun cdv A outer s0 H E hr => by
    have tk : Takes (cxOf (L2.CX P w) P w K mg base ["table", "changes", "known", "rows", "at", "one", "other", "rule"] "changed_to" (defScope (top 44)) f cdv A outer s0 H E) (fun cls d _ H => E cls d H) := takes_of rfl rfl rfl rfl
    exact pssd_cons (psd_set 2 sc_changed_to.nd (pee (pp_t1 (cb_dictP rfl) nex_dDictP rfl B.dict_ bb_dict (pq (pp_var 1))))) (pssd_cons (psd_set 3 sc_changed_to.nd (pee (pp_listEn rfl rfl B.list_ rfl B.enumerate_ (pp_ix (hu1_ hr) (pq (pp_var 0)) (pq (pp_int)))))) (pssd_one (psd_ret (pee (pp_tup (ppa_cons (pp_ix (hu1_ hr) (pq (pp_var 0)) (pq (pp_int))) (ppa_cons (pp_t1 cb_tuple nex_dTuple rfl B.tuple_ bb_tuple (pq (pp_lc (own := [("at", 4), ("one", 5), ("other", 6), ("rule", 7)]) rfl sc_changed_to.nd (pip_seq (pp_var 3)) (blkOk_by (by kernel_rfl)) (fun _ _ _ _ _ => pgd_tup rfl (pgds_cons (pgd_name 4 sc_changed_to.nd) (pgds_cons (pgd_tup rfl (pgds_cons (pgd_name 5 sc_changed_to.nd) (pgds_cons (pgd_name 6 sc_changed_to.nd) (pgds_cons (pgd_name 7 sc_changed_to.nd) (pgds_nil)))) (tl_cons (tl_cons (tl_cons tl_nil)))) (pgds_nil))) (tl_cons (tl_cons tl_nil))) (fun _ _ _ _ _ => pts_yes) (fun _ _ _ _ _ => pp_tup (ppa_cons (pp_var 5) (ppa_cons (pp_var 6) (ppa_cons (pp_getK (hu1_ hr) (pp_var 2) (pp_var 4) (pp_var 7) ⟨rfl, rfl, rfl, rfl⟩) (ppa_nil)))))))) (ppa_nil))))))))) (fun kV doc pm an cdv ct us ws ks a1 a2 a3 => by
    subst a3
    exact match us, ws, a1, a2 with | [], [_, _], _, _ => rfl | [_], [_], _, _ => rfl | [_, _], [], _, _ => rfl)
theorem w_changed (F : FunD K "changed" "changed" (defArgs (top 45)) (defBody (top 45)) (defScope (top 45)) [] [] f fd) (hg : mg "changed" = some (.ref f)) (B : Bt K mg) (c_check_table : CalD P w K mg base tb "check_table" ["table"] 4 m_check_table) (c_are_changes : CalD P w K mg base tb "are_changes" ["table", "value"] 2 m_are_changes) (c_changed_to : CalD P w K mg base tb "changed_to" ["table", "changes"] 1 m_changed_to) : CalD P w K mg base tb "changed" ["table", "changes"] 5 m_changed :=
  cal_of F sc_changed hg rfl (fun cdv A outer s0 H E hr => by
    have tk : Takes (cxOf (L2.CX P w) P w K mg base ["table", "changes"] "changed" (defScope (top 45)) f cdv A outer s0 H E) (fun cls d _ H => E cls d H) := takes_of rfl rfl rfl rfl
    exact pssd_cons (psd_drop (pee (pp_c c_check_table hr (by decide) rfl tk (ppa_cons (pp_var 0) (ppa_nil)) (al_cons al_nil)))) (pssd_cons (psd_if (pte (ptp_not (ptp_val (pp_c c_are_changes hr (by decide) rfl tk (ppa_cons (pp_var 0) (ppa_cons (pp_var 1) (ppa_nil))) (al_cons (al_cons al_nil)))))) (pssd_one (psd_raiseD B.InvalidChanges rfl tk rfl)) (pssd_nil)) (pssd_one (psd_ret (pee (pp_c c_changed_to hr (by decide) rfl tk (ppa_cons (pp_var 0) (ppa_cons (pp_var 1) (ppa_nil))) (al_cons (al_cons al_nil)))))))) (fun kV doc pm an cdv ct us ws ks a1 a2 a3 => by
    subst a3
    exact match us, ws, a1, a2 with | [], [_, _], _, _ => rfl | [_], [_], _, _ => rfl | [_, _], [], _, _ => rfl)
theorem w_fewest_changes (F : FunD K "fewest_changes" "fewest_changes" (defArgs (top 46)) (defBody (top 46)) (defScope (top 46)) [] [] f fd) (hg : mg "fewest_changes" = some (.ref f)) (B : Bt K mg) (c_check_start : CalD P w K mg base tb "check_start" ["table", "start"] 5 m_check_start) (c_verdict_of : CalD P w K mg base tb "verdict_of" ["references", "start"] 3 m_verdict_of) (c_changed_to : CalD P w K mg base tb "changed_to" ["table", "changes"] 1 m_changed_to) : CalD P w K mg base tb "fewest_changes" ["table", "start"] 6 m_fewest_changes :=
  cal_of F sc_fewest_changes hg rfl (fun cdv A outer s0 H E hr => by
    have tk : Takes (cxOf (L2.CX P w) P w K mg base ["table", "start", "rows", "size", "changes", "longer", "begin", "at", "rule"] "fewest_changes" (defScope (top 46)) f cdv A outer s0 H E) (fun cls d _ H => E cls d H) := takes_of rfl rfl rfl rfl
    exact pssd_cons (psd_drop (pee (pp_c c_check_start hr (by decide) rfl tk (ppa_cons (pp_var 0) (ppa_cons (pp_var 1) (ppa_nil))) (al_cons (al_cons al_nil))))) (pssd_cons (psd_set 2 sc_fewest_changes.nd (pee (pp_lst (ppa_cons (pp_tup (ppa_nil)) (ppa_nil))))) (pssd_cons (psd_for (passes_of rfl) rfl (pip_range1 rfl B.range_ (pp_int)) (pgd_name 3 sc_fewest_changes.nd) (pssd_cons (psd_for (passes_of rfl) rfl (pip_seq (pp_var 2)) (pgd_name 4 sc_fewest_changes.nd) (pssd_one (psd_if (pte (ptp_cmp (od_eq (hu_ hr)) nex_dEq (pq (pp_c c_verdict_of hr (by decide) rfl tk (ppa_cons (pp_ix (hu1_ hr) (pq (pp_c c_changed_to hr (by decide) rfl tk (ppa_cons (pp_var 0) (ppa_cons (pp_var 4) (ppa_nil))) (al_cons (al_cons al_nil)))) (pq (pp_int))) (ppa_cons (pp_var 1) (ppa_nil))) (al_cons (al_cons al_nil)))) (pq (pp_str)) (nomark _))) (pssd_one (psd_ret (pee (pp_var 4)))) (pssd_nil)))) (pssd_cons (psd_put 5 sc_fewest_changes.nd (pn_m (pm_new (pf_lst (ppa_nil))))) (pssd_cons (psd_for (passes_of rfl) rfl (pip_seq (pp_var 2)) (pgd_name 4 sc_fewest_changes.nd) (pssd_cons (psd_set 6 sc_fewest_changes.nd (pee (pp_if (ptp_cmp (od_ne (hu_ hr)) nex_dNe (pq (pp_var 4)) (pq (pp_tup (ppa_nil))) (nomark _)) (pp_op od_add nex_dAdd (pq (pp_ix (hu1_ hr) (pq (pp_ix (hu1_ hr) (pq (pp_var 4)) (pq (pp_neg (pq (pp_int)))))) (pq (pp_int)))) (pq (pp_int))) (pp_int)))) (pssd_one (psd_for (passes_of rfl) rfl (pip_range2 rfl B.range_ (pp_var 6) (pp_b1 cb_len nex_dLen rfl B.len_ bb_len (pq (pp_ix (hu1_ hr) (pq (pp_var 0)) (pq (pp_int)))))) (pgd_name 7 sc_fewest_changes.nd) (pssd_one (psd_drop (pee_ext 5 (pp_lc (own := [("rule", 8)]) rfl sc_fewest_changes.nd (pip_seq (pp_gstrs B.RULES (by decide) rfl)) (blkOk_by (by kernel_rfl)) (fun _ _ _ _ _ => pgd_name 8 sc_fewest_changes.nd) (fun _ _ _ _ _ => pts_one (ptp_cmp (od_ne (hu_ hr)) nex_dNe (pq (pp_var 8)) (pq (pp_ix (hu1_ hr) (pq (pp_ix (hu1_ hr) (pq (pp_ix (hu1_ hr) (pq (pp_var 0)) (pq (pp_int)))) (pq (pp_var 7)))) (pq (pp_int)))) (nomark _))) (fun _ _ _ _ _ => pp_op od_add nex_dAdd (pq (pp_var 4)) (pq (pp_tup (ppa_cons (pp_tup (ppa_cons (pp_var 7) (ppa_cons (pp_var 8) (ppa_nil)))) (ppa_nil))))))))))))) (pssd_one (psd_fz 5 (psd_set 2 sc_fewest_changes.nd (pee (pp_var 5))))))))) (pssd_one (psd_raiseD B.TooMany rfl tk rfl))))) (fun kV doc pm an cdv ct us ws ks a1 a2 a3 => by
    subst a3
    exact match us, ws, a1, a2 with | [], [_, _], _, _ => rfl | [_], [_], _, _ => rfl | [_, _], [], _, _ => rfl)
theorem w__law_draw (F : FunD K "_law_draw" "_law_draw" (defArgs (top 48)) (defBody (top 48)) (defScope (top 48)) [] [] f fd) (hg : mg "_law_draw" = some (.ref f)) (B : Bt K mg) : CalE P w K mg base tb "_law_draw" ["script", "town", "many"] 1 1 m__law_draw :=
  calE_of F sc__law_draw hg rfl (fun u cdv A outer s0 H E hr => by
    have tk : Takes (cxOf (L2.CX P w) P w K mg base ["script", "town", "many", "at", "rest", "number"] "_law_draw" (defScope (top 48)) f cdv A outer s0 H E) (fun cls d _ H => E cls d H) := takes_of rfl rfl rfl rfl
    exact pssd_cons (psd_tcnt 1 (hu1_ hr) (pp_op od_add nex_dAdd (pq (pp_tcnt 1 (hu1_ hr))) (pq (pp_int)))) (pssd_cons (psd_set 3 sc__law_draw.nd (pee (pp_if (ptp_scr 0) (pp_op od_mod nex_dMod (pq (pp_tcnt 1 (hu1_ hr))) (pq (pp_slen 0 rfl B.len_))) (pp_int)))) (pssd_cons (psd_set 4 sc__law_draw.nd (pee (pp_tget 1 (hu1_ hr) (pp_var 3) (pp_if (ptp_scr 0) (pp_six 0 (pp_var 3)) (pp_int)) ⟨rfl, rfl, rfl, rfl⟩))) (pssd_cons (psd_if (pte (ptp_cmp od_ge nex_dGe (pq (pp_var 4)) (pq (pp_op od_pow nex_dPow (pq (pp_int)) (pq (pp_int)))) (nomark _))) (pssd_cons (psd_trest 1 (hu1_ hr) (pp_var 3) (pp_op od_fdiv nex_dFdiv (pq (pp_var 4)) (pq (pp_var 2)))) (pssd_one (psd_ret (pee (pp_op od_mod nex_dMod (pq (pp_var 4)) (pq (pp_var 2))))))) (pssd_nil)) (pssd_cons (psd_set 5 sc__law_draw.nd (pee (pp_op od_mod nex_dMod (pq (pp_op od_add nex_dAdd (pq (pp_var 4)) (pq (pp_op od_mul nex_dMul (pq (pp_int)) (pq (pp_tcnt 1 (hu1_ hr))))))) (pq (pp_int))))) (pssd_cons (psd_set 5 sc__law_draw.nd (pee (pp_op od_mod nex_dMod (pq (pp_op od_pow nex_dPow (pq (pp_var 5)) (pq (pp_int)))) (pq (pp_int))))) (pssd_one (psd_ret (pee (pp_op od_mod nex_dMod (pq (pp_op od_fdiv nex_dFdiv (pq (pp_op od_mod nex_dMod (pq (pp_op od_add nex_dAdd (pq (pp_op od_mul nex_dMul (pq (pp_op od_fdiv nex_dFdiv (pq (pp_var 5)) (pq (pp_int)))) (pq (pp_int)))) (pq (pp_var 5)))) (pq (pp_int)))) (pq (pp_int)))) (pq (pp_var 2)))))))))))) (fun kV doc pm an cdv ct us a1 => by
    exact match us, a1 with | [_, _, _], _ => rfl)
theorem w__law_begun (F : FunD K "_law_begun" "_law_begun" (defArgs (top 49)) (defBody (top 49)) (defScope (top 49)) [] [] f fd) (hg : mg "_law_begun" = some (.ref f)) (B : Bt K mg) : CalB P w K mg base "_law_begun" 1 :=
  calB_of F sc__law_begun hg (fun _ _ _ _ _ _ => rfl)
theorem w__law_changes (F : FunD K "_law_changes" "_law_changes" (defArgs (top 50)) (defBody (top 50)) (defScope (top 50)) [] [] f fd) (hg : mg "_law_changes" = some (.ref f)) (B : Bt K mg) (c_fewest_changes : CalD P w K mg base tb "fewest_changes" ["table", "start"] 6 m_fewest_changes) (c_changed : CalD P w K mg base tb "changed" ["table", "changes"] 5 m_changed) : CalD P w K mg base tb "_law_changes" ["rest"] 7 m__law_changes :=
  cal_of F sc__law_changes hg rfl (fun cdv A outer s0 H E hr => by
    have tk : Takes (cxOf (L2.CX P w) P w K mg base ["rest", "three", "due", "caught", "row"] "_law_changes" (defScope (top 50)) f cdv A outer s0 H E) (fun cls d _ H => E cls d H) := takes_of rfl rfl rfl rfl
    exact pssd_cons (psd_set 1 sc__law_changes.nd (pee (pp_tup (ppa_cons (pp_op od_add nex_dAdd (pq (pp_int)) (pq (pp_var 0))) (ppa_cons (pp_t1 cb_tuple nex_dTuple rfl B.tuple_ bb_tuple (pq (pp_lc (own := [("row", 4)]) rfl sc__law_changes.nd (pip_seq (pp_tup (ppa_cons (pp_int) (ppa_cons (pp_int) (ppa_cons (pp_int) (ppa_nil)))))) (blkOk_by (by kernel_rfl)) (fun _ _ _ _ _ => pgd_name 4 sc__law_changes.nd) (fun _ _ _ _ _ => pts_yes) (fun _ _ _ _ _ => pp_tup (ppa_cons (pp_var 4) (ppa_cons (pp_int) (ppa_cons (pp_str) (ppa_nil)))))))) (ppa_nil)))))) (pssd_cons (psd_set 2 sc__law_changes.nd (pee (pp_tup (ppa_cons (pp_tup (ppa_cons (pp_int) (ppa_cons (pp_str) (ppa_nil)))) (ppa_cons (pp_tup (ppa_cons (pp_int) (ppa_cons (pp_str) (ppa_nil)))) (ppa_cons (pp_tup (ppa_cons (pp_int) (ppa_cons (pp_str) (ppa_nil)))) (ppa_nil))))))) (pssd_cons (psd_if (pte (ptp_cmp (od_ne (hu_ hr)) nex_dNe (pq (pp_c c_fewest_changes hr (by decide) rfl tk (ppa_cons (pp_var 1) (ppa_cons (pp_tup (ppa_cons (pp_int) (ppa_nil))) (ppa_nil))) (al_cons (al_cons al_nil)))) (pq (pp_var 2)) (nomark _))) (pssd_one (psd_ret (pee (pp_bl)))) (pssd_nil)) (pssd_cons (psd_if (pte (ptp_cmp (od_ne (hu_ hr)) nex_dNe (pq (pp_ix (hu1_ hr) (pq (pp_c c_changed hr (by decide) rfl tk (ppa_cons (pp_var 1) (ppa_cons (pp_var 2) (ppa_nil))) (al_cons (al_cons al_nil)))) (pq (pp_int)))) (pq (pp_t1 cb_tuple nex_dTuple rfl B.tuple_ bb_tuple (pq (pp_lc (own := [("row", 4)]) rfl sc__law_changes.nd (pip_seq (pp_tup (ppa_cons (pp_int) (ppa_cons (pp_int) (ppa_cons (pp_int) (ppa_nil)))))) (blkOk_by (by kernel_rfl)) (fun _ _ _ _ _ => pgd_name 4 sc__law_changes.nd) (fun _ _ _ _ _ => pts_yes) (fun _ _ _ _ _ => pp_tup (ppa_cons (pp_var 4) (ppa_cons (pp_int) (ppa_cons (pp_str) (ppa_nil))))))))) (nomark _))) (pssd_one (psd_ret (pee (pp_bl)))) (pssd_nil)) (pssd_cons (psd_set 3 sc__law_changes.nd (pee (pp_bl))) (pssd_cons (psd_try B.xs_TooMany rfl rfl rfl tk (fun W' pn xe tk => pssd_one (psd_drop (pee (pp_c c_fewest_changes hr (by decide) rfl tk (ppa_cons (pp_tup (ppa_cons (pp_int) (ppa_cons (pp_t1 cb_tuple nex_dTuple rfl B.tuple_ bb_tuple (pq (pp_lc (own := [("row", 4)]) rfl sc__law_changes.nd (pip_seq (pp_tup (ppa_cons (pp_int) (ppa_cons (pp_int) (ppa_cons (pp_int) (ppa_cons (pp_int) (ppa_nil))))))) (blkOk_by (by kernel_rfl)) (fun _ _ _ _ _ => pgd_name 4 sc__law_changes.nd) (fun _ _ _ _ _ => pts_yes) (fun _ _ _ _ _ => pp_tup (ppa_cons (pp_var 4) (ppa_cons (pp_int) (ppa_cons (pp_str) (ppa_nil)))))))) (ppa_nil)))) (ppa_cons (pp_tup (ppa_cons (pp_int) (ppa_nil))) (ppa_nil))) (al_cons (al_cons al_nil)))))) (fun a oe pn => pssd_one (psd_set 3 sc__law_changes.nd (pee (pp_bl))))) (pssd_one (psd_ret (pee (pp_var 3)))))))))) (fun kV doc pm an cdv ct us ws ks a1 a2 a3 => by
    subst a3
    exact match us, ws, a1, a2 with | [], [_], _, _ => rfl | [_], [], _, _ => rfl)
theorem w__law_refused (F : FunD K "_law_refused" "_law_refused" (defArgs (top 51)) (defBody (top 51)) (defScope (top 51)) [] [] f fd) (hg : mg "_law_refused" = some (.ref f)) (B : Bt K mg) (c_Desk_link : MetE P w K mg base tb "link" ["self", "source", "target", "rule"] 3 m_Desk_link) (c_Desk___init__ : MkI P w K mg base tb 5 m_Desk___init__) : CalD P w K mg base tb "_law_refused" ["rows", "other"] 7 m__law_refused :=
  cal_of F sc__law_refused hg rfl (fun cdv A outer s0 H E hr => by
    have tk : Takes (cxOf (L2.CX P w) P w K mg base ["rows", "other", "caught"] "_law_refused" (defScope (top 51)) f cdv A outer s0 H E) (fun cls d _ H => E cls d H) := takes_of rfl rfl rfl rfl
    exact pssd_cons (psd_set 2 sc__law_refused.nd (pee (pp_bl))) (pssd_cons (psd_try B.xs_InvalidRow rfl rfl rfl tk (fun W' pn xe tk => pssd_one (psd_drop (pee_tmp c_Desk_link hr (by decide) tk (pm_make 899 c_Desk___init__ hr (by decide) rfl tk (fun d s h => initR_nl h) (pp_tup (ppa_cons (pp_var 0) (ppa_cons (pp_tup (ppa_nil)) (ppa_nil))))) (pa1_d (pp_int) (pa1_d (pp_var 1) (pa1_d (pp_str) (pa1_nil)))) (fun ρ ss h => congrArg (· + 1) ((al1_d (al1_d (al1_d al1_nil))) ρ ss h))))) (fun a oe pn => pssd_one (psd_set 2 sc__law_refused.nd (pee (pp_bl))))) (pssd_one (psd_ret (pee (pp_var 2)))))) (fun kV doc pm an cdv ct us ws ks a1 a2 a3 => by
    subst a3
    exact match us, ws, a1, a2 with | [], [_, _], _, _ => rfl | [_], [_], _, _ => rfl | [_, _], [], _, _ => rfl)
theorem w__law_plans (F : FunD K "_law_plans" "_law_plans" (defArgs (top 52)) (defBody (top 52)) (defScope (top 52)) [] [] f fd) (hg : mg "_law_plans" = some (.ref f)) (B : Bt K mg) (c_is_plan : CalD P w K mg base tb "is_plan" ["value"] 3 m_is_plan) (c_is_fitting : CalD P w K mg base tb "is_fitting" ["plan", "homes", "value"] 5 m_is_fitting) (c_is_example : CalD P w K mg base tb "is_example" ["plan", "home", "value"] 6 m_is_example) : CalD P w K mg base tb "_law_plans" ["tables"] 7 m__law_plans :=
  cal_of F sc__law_plans hg rfl (fun cdv A outer s0 H E hr => by
    have tk : Takes (cxOf (L2.CX P w) P w K mg base ["tables", "rows", "one", "odd", "plan", "other"] "_law_plans" (defScope (top 52)) f cdv A outer s0 H E) (fun cls d _ H => E cls d H) := takes_of rfl rfl rfl rfl
    exact pssd_cons (psd_set 1 sc__law_plans.nd (pee (pp_lst (ppa_nil)))) (pssd_cons (psd_for (passes_of rfl) rfl (pip_range1 rfl B.range_ (pp_int)) (pgd_name 2 sc__law_plans.nd) (pssd_one (psd_set 1 sc__law_plans.nd (pee (pp_op od_add nex_dAdd (pq (pp_var 1)) (pq (pp_lc (own := [("other", 5)]) rfl sc__law_plans.nd (pip_range1 rfl B.range_ (pp_int)) (blkOk_by (by kernel_rfl)) (fun _ _ _ _ _ => pgd_name 5 sc__law_plans.nd) (fun _ _ _ _ _ => pts_yes) (fun _ _ _ _ _ => pp_tup (ppa_cons (pp_var 2) (ppa_cons (pp_var 5) (ppa_cons (pp_str) (ppa_nil)))))))))))) (pssd_cons (psd_if (pte (PW.pt (ptw_or (ptp_not (ptp_val (pp_c c_is_plan hr (by decide) rfl tk (ppa_cons (pp_tup (ppa_cons (pp_int) (ppa_cons (pp_t1 cb_tuple nex_dTuple rfl B.tuple_ bb_tuple (pq (pp_sl (pq (pp_var 1)) (ppo_none) (ppo_some (pp_int))))) (ppa_nil)))) (ppa_nil)) (al_cons al_nil)))) (ptw_or (ptp_val (pp_c c_is_plan hr (by decide) rfl tk (ppa_cons (pp_tup (ppa_cons (pp_int) (ppa_cons (pp_t1 cb_tuple nex_dTuple rfl B.tuple_ bb_tuple (pq (pp_sl (pq (pp_var 1)) (ppo_none) (ppo_some (pp_int))))) (ppa_nil)))) (ppa_nil)) (al_cons al_nil))) (ptw_or1 (ptp_val (pp_c c_is_plan hr (by decide) rfl tk (ppa_cons (pp_tup (ppa_cons (pp_int) (ppa_cons (pp_tup (ppa_cons (pp_lst (ppa_cons (pp_int) (ppa_cons (pp_int) (ppa_cons (pp_str) (ppa_nil))))) (ppa_nil))) (ppa_nil)))) (ppa_nil)) (al_cons al_nil)))))))) (pssd_one (psd_ret (pee (pp_bl)))) (pssd_nil)) (pssd_cons (psd_for (passes_of rfl) rfl (pip_seq (pp_tup (ppa_cons (pp_tup (ppa_cons (pp_var 0) (ppa_cons (pp_int) (ppa_cons (pp_str) (ppa_nil))))) (ppa_cons (pp_tup (ppa_cons (pp_int) (ppa_cons (pp_var 0) (ppa_cons (pp_str) (ppa_nil))))) (ppa_cons (pp_tup (ppa_cons (pp_neg (pq (pp_int))) (ppa_cons (pp_int) (ppa_cons (pp_str) (ppa_nil))))) (ppa_cons (pp_tup (ppa_cons (pp_int) (ppa_cons (pp_neg (pq (pp_int))) (ppa_cons (pp_str) (ppa_nil))))) (ppa_cons (pp_str) (ppa_nil)))))))) (pgd_name 3 sc__law_plans.nd) (pssd_one (psd_if (pte (ptp_val (pp_c c_is_plan hr (by decide) rfl tk (ppa_cons (pp_tup (ppa_cons (pp_var 0) (ppa_cons (pp_tup (ppa_cons (pp_var 3) (ppa_nil))) (ppa_nil)))) (ppa_nil)) (al_cons al_nil)))) (pssd_one (psd_ret (pee (pp_bl)))) (pssd_nil)))) (pssd_cons (psd_set 4 sc__law_plans.nd (pee (pp_tup (ppa_cons (pp_var 0) (ppa_cons (pp_tup (ppa_cons (pp_tup (ppa_cons (pp_int) (ppa_cons (pp_op od_sub nex_dSub (pq (pp_var 0)) (pq (pp_int))) (ppa_cons (pp_str) (ppa_nil))))) (ppa_nil))) (ppa_nil)))))) (pssd_cons (psd_if (pte (ptp_not (ptp_val (pp_c c_is_plan hr (by decide) rfl tk (ppa_cons (pp_var 4) (ppa_nil)) (al_cons al_nil))))) (pssd_one (psd_ret (pee (pp_bl)))) (pssd_nil)) (pssd_cons (psd_if (pte (ptp_val (pp_c c_is_fitting hr (by decide) rfl tk (ppa_cons (pp_var 4) (ppa_cons (pp_tup (ppa_cons (pp_var 0) (ppa_nil))) (ppa_cons (pp_tup (ppa_cons (pp_int) (ppa_cons (pp_tup (ppa_nil)) (ppa_nil)))) (ppa_nil)))) (al_cons (al_cons (al_cons al_nil)))))) (pssd_one (psd_ret (pee (pp_bl)))) (pssd_nil)) (pssd_cons (psd_if (pte (ptp_not (ptp_val (pp_c c_is_fitting hr (by decide) rfl tk (ppa_cons (pp_var 4) (ppa_cons (pp_tup (ppa_cons (pp_op od_sub nex_dSub (pq (pp_var 0)) (pq (pp_int))) (ppa_nil))) (ppa_cons (pp_tup (ppa_cons (pp_int) (ppa_cons (pp_tup (ppa_nil)) (ppa_nil)))) (ppa_nil)))) (al_cons (al_cons (al_cons al_nil))))))) (pssd_one (psd_ret (pee (pp_bl)))) (pssd_nil)) (pssd_cons (psd_for (passes_of rfl) rfl (pip_seq (pp_tup (ppa_cons (pp_non) (ppa_cons (pp_tup (ppa_cons (pp_int) (ppa_cons (pp_tup (ppa_nil)) (ppa_nil)))) (ppa_cons (pp_tup (ppa_cons (pp_int) (ppa_cons (pp_non) (ppa_nil)))) (ppa_cons (pp_str) (ppa_cons (pp_tup (ppa_cons (pp_tup (ppa_cons (pp_int) (ppa_cons (pp_tup (ppa_nil)) (ppa_nil)))) (ppa_nil))) (ppa_nil)))))))) (pgd_name 3 sc__law_plans.nd) (pssd_one (psd_if (pte (ptp_val (pp_c c_is_fitting hr (by decide) rfl tk (ppa_cons (pp_var 4) (ppa_cons (pp_tup (ppa_cons (pp_int) (ppa_nil))) (ppa_cons (pp_var 3) (ppa_nil)))) (al_cons (al_cons (al_cons al_nil)))))) (pssd_one (psd_ret (pee (pp_bl)))) (pssd_nil)))) (pssd_cons (psd_if (pte (ptp_val (pp_c c_is_fitting hr (by decide) rfl tk (ppa_cons (pp_var 4) (ppa_cons (pp_lst (ppa_cons (pp_int) (ppa_nil))) (ppa_cons (pp_tup (ppa_cons (pp_int) (ppa_cons (pp_tup (ppa_nil)) (ppa_nil)))) (ppa_nil)))) (al_cons (al_cons (al_cons al_nil)))))) (pssd_one (psd_ret (pee (pp_bl)))) (pssd_nil)) (pssd_cons (psd_if (pte (ptp_val (pp_c c_is_fitting hr (by decide) rfl tk (ppa_cons (pp_var 4) (ppa_cons (pp_tup (ppa_cons (pp_int) (ppa_cons (pp_int) (ppa_nil)))) (ppa_cons (pp_tup (ppa_cons (pp_int) (ppa_cons (pp_tup (ppa_nil)) (ppa_nil)))) (ppa_nil)))) (al_cons (al_cons (al_cons al_nil)))))) (pssd_one (psd_ret (pee (pp_bl)))) (pssd_nil)) (pssd_cons (psd_if (pte (ptp_val (pp_c c_is_fitting hr (by decide) rfl tk (ppa_cons (pp_var 4) (ppa_cons (pp_tup (ppa_cons (pp_bl) (ppa_nil))) (ppa_cons (pp_tup (ppa_cons (pp_int) (ppa_cons (pp_tup (ppa_nil)) (ppa_nil)))) (ppa_nil)))) (al_cons (al_cons (al_cons al_nil)))))) (pssd_one (psd_ret (pee (pp_bl)))) (pssd_nil)) (pssd_one (psd_ret (pee (pp_and (pp_not (pp_c c_is_example hr (by decide) rfl tk (ppa_cons (pp_var 4) (ppa_cons (pp_int) (ppa_cons (pp_tup (ppa_cons (pp_tup (ppa_cons (pp_int) (ppa_cons (pp_tup (ppa_nil)) (ppa_nil)))) (ppa_cons (pp_tup (ppa_cons (pp_int) (ppa_nil))) (ppa_cons (pp_int) (ppa_nil))))) (ppa_nil)))) (al_cons (al_cons (al_cons al_nil))))) (pp_one (pp_not (pp_c c_is_example hr (by decide) rfl tk (ppa_cons (pp_var 4) (ppa_cons (pp_int) (ppa_cons (pp_tup (ppa_cons (pp_tup (ppa_cons (pp_int) (ppa_cons (pp_tup (ppa_nil)) (ppa_nil)))) (ppa_cons (pp_tup (ppa_cons (pp_int) (ppa_nil))) (ppa_cons (pp_neg (pq (pp_int))) (ppa_nil))))) (ppa_nil)))) (al_cons (al_cons (al_cons al_nil)))))))))))))))))))))) (fun kV doc pm an cdv ct us ws ks a1 a2 a3 => by
    subst a3
    exact match us, ws, a1, a2 with | [], [_], _, _ => rfl | [_], [], _, _ => rfl)
theorem w_law {c : Addr} (F : FunD K "law" "law" (defArgs (top 53)) (defBody (top 53)) (defScope (top 53)) [] [] f fd) (hc : fd.code = .ref c) (B : Bt K mg) (c__law_begun : CalB P w K mg base "_law_begun" 1) (c__law_draw : CalE P w K mg base tb "_law_draw" ["script", "town", "many"] 1 1 m__law_draw) (c_is_table : CalD P w K mg base tb "is_table" ["value"] 3 m_is_table) (c_is_run : CalD P w K mg base tb "is_run" ["table", "start", "value"] 6 m_is_run) (c__law_refused : CalD P w K mg base tb "_law_refused" ["rows", "other"] 7 m__law_refused) (c_Desk___init__ : MkI P w K mg base tb 5 m_Desk___init__) (c_Desk_link : MetE P w K mg base tb "link" ["self", "source", "target", "rule"] 3 m_Desk_link) (c_Desk_unlink : MetE P w K mg base tb "unlink" ["self", "source", "target"] 3 m_Desk_unlink) (c__law_changes : CalD P w K mg base tb "_law_changes" ["rest"] 7 m__law_changes) (c__law_plans : CalD P w K mg base tb "_law_plans" ["tables"] 7 m__law_plans) : FnOk P w K mg base (L2.CX P w) 8 f fd ["script"] (spL K tb 5 s_law) :=
  ok_law F hc sc_law rfl (fun A outer s0 H E hr => by
    have tk : Takes (cxOf (L2.CX P w) P w K mg base ["script", "town", "rows", "table", "two", "desk"] "law" (defScope (top 53)) f (.ref c) A outer s0 H E) (fun cls d _ H => E cls d H) := takes_of rfl rfl rfl rfl
    exact pssd_cons (psd_put 1 sc_law.nd (pn_begun c__law_begun hr (by decide) rfl tk)) (pssd_cons (psd_set 2 sc_law.nd (pee_op od_add (pee (pp_int)) (pee_callE c__law_draw hr (by decide) rfl tk (pa1_s 0 (pa1_o (pa1_d (pp_int) (pa1_nil)))) (al1_s (al1_o (al1_d al1_nil)))))) (pssd_cons (psd_if (pte (ptp_val (pp_c c_is_table hr (by decide) rfl tk (ppa_cons (pp_tup (ppa_cons (pp_var 2) (ppa_cons (pp_tup (ppa_cons (pp_tup (ppa_cons (pp_int) (ppa_cons (pp_var 2) (ppa_cons (pp_str) (ppa_nil))))) (ppa_nil))) (ppa_nil)))) (ppa_nil)) (al_cons al_nil)))) (pssd_one (psd_ret (pee (pp_bl)))) (pssd_nil)) (pssd_cons (psd_if (pte (ptp_val (pp_c c_is_table hr (by decide) rfl tk (ppa_cons (pp_tup (ppa_cons (pp_var 2) (ppa_cons (pp_tup (ppa_cons (pp_tup (ppa_cons (pp_var 2) (ppa_cons (pp_int) (ppa_cons (pp_str) (ppa_nil))))) (ppa_nil))) (ppa_nil)))) (ppa_nil)) (al_cons al_nil)))) (pssd_one (psd_ret (pee (pp_bl)))) (pssd_nil)) (pssd_cons (psd_if (pte (ptp_not (ptp_val (pp_c c_is_table hr (by decide) rfl tk (ppa_cons (pp_tup (ppa_cons (pp_var 2) (ppa_cons (pp_tup (ppa_cons (pp_tup (ppa_cons (pp_op od_sub nex_dSub (pq (pp_var 2)) (pq (pp_int))) (ppa_cons (pp_int) (ppa_cons (pp_str) (ppa_nil))))) (ppa_nil))) (ppa_nil)))) (ppa_nil)) (al_cons al_nil))))) (pssd_one (psd_ret (pee (pp_bl)))) (pssd_nil)) (pssd_cons (psd_set 3 sc_law.nd (pee (pp_tup (ppa_cons (pp_var 2) (ppa_cons (pp_tup (ppa_cons (pp_tup (ppa_cons (pp_op od_sub nex_dSub (pq (pp_var 2)) (pq (pp_int))) (ppa_cons (pp_int) (ppa_cons (pp_str) (ppa_nil))))) (ppa_nil))) (ppa_nil)))))) (pssd_cons (psd_if (pte (ptp_not (ptp_val (pp_c c_is_run hr (by decide) rfl tk (ppa_cons (pp_var 3) (ppa_cons (pp_tup (ppa_cons (pp_int) (ppa_nil))) (ppa_cons (pp_tup (ppa_cons (pp_tup (ppa_cons (pp_op od_sub nex_dSub (pq (pp_var 2)) (pq (pp_int))) (ppa_cons (pp_int) (ppa_cons (pp_str) (ppa_nil))))) (ppa_nil))) (ppa_nil)))) (al_cons (al_cons (al_cons al_nil))))))) (pssd_one (psd_ret (pee (pp_bl)))) (pssd_nil)) (pssd_cons (psd_if (pte (ptp_val (pp_c c_is_run hr (by decide) rfl tk (ppa_cons (pp_var 3) (ppa_cons (pp_tup (ppa_cons (pp_int) (ppa_nil))) (ppa_cons (pp_tup (ppa_cons (pp_tup (ppa_cons (pp_op od_sub nex_dSub (pq (pp_var 2)) (pq (pp_int))) (ppa_cons (pp_bl) (ppa_cons (pp_str) (ppa_nil))))) (ppa_nil))) (ppa_nil)))) (al_cons (al_cons (al_cons al_nil)))))) (pssd_one (psd_ret (pee (pp_bl)))) (pssd_nil)) (pssd_cons (psd_set 4 sc_law.nd (pee (pp_tup (ppa_cons (pp_int) (ppa_cons (pp_tup (ppa_cons (pp_tup (ppa_cons (pp_int) (ppa_cons (pp_int) (ppa_cons (pp_str) (ppa_nil))))) (ppa_nil))) (ppa_nil)))))) (pssd_cons (psd_if (pte (ptp_val (pp_c c_is_run hr (by decide) rfl tk (ppa_cons (pp_var 4) (ppa_cons (pp_tup (ppa_cons (pp_int) (ppa_nil))) (ppa_cons (pp_tup (ppa_cons (pp_tup (ppa_cons (pp_bl) (ppa_cons (pp_int) (ppa_cons (pp_str) (ppa_nil))))) (ppa_nil))) (ppa_nil)))) (al_cons (al_cons (al_cons al_nil)))))) (pssd_one (psd_ret (pee (pp_bl)))) (pssd_nil)) (pssd_cons (psd_if (pte (ptp_not (ptp_val (pp_c c__law_refused hr (by decide) rfl tk (ppa_cons (pp_var 2) (ppa_cons (pp_var 2) (ppa_nil))) (al_cons (al_cons al_nil)))))) (pssd_one (psd_ret (pee (pp_bl)))) (pssd_nil)) (pssd_cons (psd_if (pte (ptp_not (ptp_val (pp_c c__law_refused hr (by decide) rfl tk (ppa_cons (pp_var 2) (ppa_cons (pp_bl) (ppa_nil))) (al_cons (al_cons al_nil)))))) (pssd_one (psd_ret (pee (pp_bl)))) (pssd_nil)) (pssd_cons (psd_put 5 sc_law.nd (pn_m (pm_make 5 c_Desk___init__ hr (by decide) rfl tk (fun d s h => initR_nl h) (pp_tup (ppa_cons (pp_var 2) (ppa_cons (pp_tup (ppa_nil)) (ppa_nil))))))) (pssd_cons (psd_if (pte_cmp (od_ne (hu_ hr)) (pee_meth 5 c_Desk_link hr (by decide) tk (pa1_d (pp_op od_sub nex_dSub (pq (pp_var 2)) (pq (pp_int))) (pa1_d (pp_int) (pa1_d (pp_str) (pa1_nil)))) (fun ρ ss h => congrArg (· + 1) ((al1_d (al1_d (al1_d al1_nil))) ρ ss h))) (pee (pp_int)) (nomark _)) (pssd_one (psd_ret (pee (pp_bl)))) (pssd_nil)) (pssd_cons (psd_if (pte_cmp (od_ne (hu_ hr)) (pee_meth 5 c_Desk_link hr (by decide) tk (pa1_d (pp_int) (pa1_d (pp_op od_sub nex_dSub (pq (pp_var 2)) (pq (pp_int))) (pa1_d (pp_str) (pa1_nil)))) (fun ρ ss h => congrArg (· + 1) ((al1_d (al1_d (al1_d al1_nil))) ρ ss h))) (pee (pp_int)) (nomark _)) (pssd_one (psd_ret (pee (pp_bl)))) (pssd_nil)) (pssd_cons (psd_if (pte_cmp (od_ne (hu_ hr)) (pee_meth 5 c_Desk_unlink hr (by decide) tk (pa1_d (pp_op od_sub nex_dSub (pq (pp_var 2)) (pq (pp_int))) (pa1_d (pp_int) (pa1_nil))) (fun ρ ss h => congrArg (· + 1) ((al1_d (al1_d al1_nil)) ρ ss h))) (pee (pp_int)) (nomark _)) (pssd_one (psd_ret (pee (pp_bl)))) (pssd_nil)) (pssd_one (psd_ret (pee_and (pee_c c__law_changes hr (by decide) rfl tk (pea_cons (pee_callE c__law_draw hr (by decide) rfl tk (pa1_s 0 (pa1_o (pa1_d (pp_int) (pa1_nil)))) (al1_s (al1_o (al1_d al1_nil)))) (pea_nil)) (ael_cons ael_nil)) (pee_one (pee_c c__law_plans hr (by decide) rfl tk (pea_cons (pee_op od_add (pee (pp_int)) (pee_callE c__law_draw hr (by decide) rfl tk (pa1_s 0 (pa1_o (pa1_d (pp_int) (pa1_nil)))) (al1_s (al1_o (al1_d al1_nil))))) (pea_nil)) (ael_cons ael_nil))))))))))))))))))))))
theorem w_Desk___init__ {C : Addr} (F : FunD K "__init__" "Desk.__init__" (defArgs (inClass (top 41) 0)) (defBody (inClass (top 41) 0)) (defScope (inClass (top 41) 0)) [] [] f fd) (D : DkC K mg C) (hM : Mk K C f) (B : Bt K mg) (c_check_table : CalD P w K mg base tb "check_table" ["table"] 4 m_check_table) : MkI P w K mg base tb 5 m_Desk___init__ :=
  ⟨C, f, fd, D, hM, ok_init F sc_Desk___init__ rfl rfl rfl (fun cdv A outer s0 H E hr => by
    have tk : Takes (cxOf (L2.CX P w) P w K mg base ["self", "table"] "Desk.__init__" (defScope (inClass (top 41) 0)) f cdv A outer s0 H E) (fun cls d _ H => E cls d H) := takes_of rfl rfl rfl rfl
    exact pssd_init D (pp_c c_check_table hr (by decide) rfl tk (ppa_cons (pp_var 1) (ppa_nil)) (al_cons al_nil)) (pp_var 1) (pp_tupR1 rfl rfl B.tuple_ rfl B.range_ (pp_ix (hu1_ hr) (pq (pp_var 1)) (pq (pp_int)))) (pp_ix (hu1_ hr) (pq (pp_var 1)) (pq (pp_int)))), F.bindsN (fun kV doc pm an cdv ct us a1 => by
    exact match us, a1 with | [_, _], _ => rfl)⟩
theorem w_Desk_check_pair {C : Addr} (F : FunD K "check_pair" "Desk.check_pair" (defArgs (inClass (top 41) 1)) (defBody (inClass (top 41) 1)) (defScope (inClass (top 41) 1)) [] [] f fd) (D : DkC K mg C) (hM : Meth K C "check_pair" f) (B : Bt K mg) (c_is_between : CalD P w K mg base tb "is_between" ["value", "low", "high"] 1 m_is_between) : MetE P w K mg base tb "check_pair" ["self", "source", "target"] 2 m_Desk_check_pair :=
  metE_of F sc_Desk_check_pair D hM rfl (fun u cdv A outer s0 H E hr => by
    have tk : Takes (cxOf (L2.CX P w) P w K mg base ["self", "source", "target"] "Desk.check_pair" (defScope (inClass (top 41) 1)) f cdv A outer s0 H E) (fun cls d _ H => E cls d H) := takes_of rfl rfl rfl rfl
    exact pssd_cons (psd_if (pte (PW.pt (ptw_or (ptp_not (ptp_val (pp_c c_is_between hr (by decide) rfl tk (ppa_cons (pp_var 1) (ppa_cons (pp_int) (ppa_cons (pp_int) (ppa_nil)))) (al_cons (al_cons (al_cons al_nil)))))) (ptw_or1 (ptp_cmp (od_notIn (hu_ hr)) nex_dNotIn (pq (pp_var 1)) (pq (pp_fld 0 .there D)) (by rfl)))))) (pssd_one (psd_raiseD B.InvalidRow rfl tk rfl)) (pssd_nil)) (pssd_one (psd_if (pte (PW.pt (ptw_or (ptp_not (ptp_val (pp_c c_is_between hr (by decide) rfl tk (ppa_cons (pp_var 2) (ppa_cons (pp_int) (ppa_cons (pp_int) (ppa_nil)))) (al_cons (al_cons (al_cons al_nil)))))) (ptw_or (ptp_cmp (od_notIn (hu_ hr)) nex_dNotIn (pq (pp_var 2)) (pq (pp_fld 0 .there D)) (by rfl)) (ptw_or1 (ptp_cmp (od_eq (hu_ hr)) nex_dEq (pq (pp_var 2)) (pq (pp_var 1)) (nomark _))))))) (pssd_one (psd_raiseD B.InvalidRow rfl tk rfl)) (pssd_nil)))) (fun kV doc pm an cdv ct us a1 => by
    exact match us, a1 with | [_, _, _], _ => rfl)
theorem w_Desk_become {C : Addr} (F : FunD K "become" "Desk.become" (defArgs (inClass (top 41) 2)) (defBody (inClass (top 41) 2)) (defScope (inClass (top 41) 2)) [] [] f fd) (D : DkC K mg C) (hM : Meth K C "become" f) (B : Bt K mg) : MetE P w K mg base tb "become" ["self", "operation", "there", "links"] 1 m_Desk_become :=
  metE_of F sc_Desk_become D hM rfl (fun u cdv A outer s0 H E hr => by
    have tk : Takes (cxOf (L2.CX P w) P w K mg base ["self", "operation", "there", "links"] "Desk.become" (defScope (inClass (top 41) 2)) f cdv A outer s0 H E) (fun cls d _ H => E cls d H) := takes_of rfl rfl rfl rfl
    exact pssd_cons (psd_drop (pee_appF 0 .done D (pp_tup (ppa_cons (pp_var 1) (ppa_cons (pp_tup (ppa_cons (pp_fld 0 .there D) (ppa_cons (pp_fld 0 .links D) (ppa_nil)))) (ppa_nil)))))) (pssd_cons (psd_fldN 0 .undone D (pf_lst (ppa_nil))) (pssd_one (psd_fld2 0 D rfl (pp_tup (ppa_cons (pp_var 2) (ppa_cons (pp_var 3) (ppa_nil)))))))) (fun kV doc pm an cdv ct us a1 => by
    exact match us, a1 with | [_, _, _, _], _ => rfl)
theorem w_Desk_link {C : Addr} (F : FunD K "link" "Desk.link" (defArgs (inClass (top 41) 4)) (defBody (inClass (top 41) 4)) (defScope (inClass (top 41) 4)) [] [] f fd) (D : DkC K mg C) (hM : Meth K C "link" f) (B : Bt K mg) (c_Desk_check_pair : MetE P w K mg base tb "check_pair" ["self", "source", "target"] 2 m_Desk_check_pair) (c_is_rule : CalD P w K mg base tb "is_rule" ["value"] 1 m_is_rule) (c_Desk_become : MetE P w K mg base tb "become" ["self", "operation", "there", "links"] 1 m_Desk_become) : MetE P w K mg base tb "link" ["self", "source", "target", "rule"] 3 m_Desk_link :=
  metE_of F sc_Desk_link D hM rfl (fun u cdv A outer s0 H E hr => by
    have tk : Takes (cxOf (L2.CX P w) P w K mg base ["self", "source", "target", "rule", "links", "one"] "Desk.link" (defScope (inClass (top 41) 4)) f cdv A outer s0 H E) (fun cls d _ H => E cls d H) := takes_of rfl rfl rfl rfl
    exact pssd_cons (psd_drop (pee_meth 0 c_Desk_check_pair hr (by decide) tk (pa1_d (pp_var 1) (pa1_d (pp_var 2) (pa1_nil))) (fun ρ ss h => congrArg (· + 1) ((al1_d (al1_d al1_nil)) ρ ss h)))) (pssd_cons (psd_if (pte (ptp_not (ptp_val (pp_c c_is_rule hr (by decide) rfl tk (ppa_cons (pp_var 3) (ppa_nil)) (al_cons al_nil))))) (pssd_one (psd_raiseD B.InvalidRule rfl tk rfl)) (pssd_nil)) (pssd_cons (psd_if (pte (ptp_cmp (od_in (hu_ hr)) nex_dIn (pq (pp_tup (ppa_cons (pp_var 1) (ppa_cons (pp_var 2) (ppa_nil))))) (pq (pp_lc (own := [("one", 5)]) rfl sc_Desk_link.nd (pip_seq (pp_fld 0 .links D)) (blkOk_by (by kernel_rfl)) (fun _ _ _ _ _ => pgd_name 5 sc_Desk_link.nd) (fun _ _ _ _ _ => pts_yes) (fun _ _ _ _ _ => pp_sl (pq (pp_var 5)) (ppo_none) (ppo_some (pp_int))))) (by rfl))) (pssd_one (psd_raiseD B.Linked rfl tk rfl)) (pssd_nil)) (pssd_cons (psd_if (pte (ptp_cmp (od_eq (hu_ hr)) nex_dEq (pq (pp_b1 cb_len nex_dLen rfl B.len_ bb_len (pq (pp_fld 0 .links D)))) (pq (pp_gint B.MOST rfl)) (nomark _))) (pssd_one (psd_raiseD B.TooMany rfl tk rfl)) (pssd_nil)) (pssd_cons (psd_set 4 sc_Desk_link.nd (pee (pp_t1 cb_tuple nex_dTuple rfl B.tuple_ bb_tuple (pq (pp_b1 (cb_sorted (hu_ hr)) nex_dSorted rfl B.sorted_ bb_sorted (pq (pp_op od_add nex_dAdd (pq (pp_fld 0 .links D)) (pq (pp_tup (ppa_cons (pp_tup (ppa_cons (pp_var 1) (ppa_cons (pp_var 2) (ppa_cons (pp_var 3) (ppa_nil))))) (ppa_nil))))))))))) (pssd_cons (psd_drop (pee_meth 0 c_Desk_become hr (by decide) tk (pa1_d (pp_tup (ppa_cons (pp_str) (ppa_cons (pp_var 1) (ppa_cons (pp_var 2) (ppa_cons (pp_var 3) (ppa_nil)))))) (pa1_d (pp_fld 0 .there D) (pa1_d (pp_var 4) (pa1_nil)))) (fun ρ ss h => congrArg (· + 1) ((al1_d (al1_d (al1_d al1_nil))) ρ ss h)))) (pssd_one (psd_ret (pee (pp_b1 cb_len nex_dLen rfl B.len_ bb_len (pq (pp_var 4)))))))))))) (fun kV doc pm an cdv ct us a1 => by
    exact match us, a1 with | [_, _, _, _], _ => rfl)
theorem w_Desk_unlink {C : Addr} (F : FunD K "unlink" "Desk.unlink" (defArgs (inClass (top 41) 5)) (defBody (inClass (top 41) 5)) (defScope (inClass (top 41) 5)) [] [] f fd) (D : DkC K mg C) (hM : Meth K C "unlink" f) (B : Bt K mg) (c_Desk_check_pair : MetE P w K mg base tb "check_pair" ["self", "source", "target"] 2 m_Desk_check_pair) (c_Desk_become : MetE P w K mg base tb "become" ["self", "operation", "there", "links"] 1 m_Desk_become) : MetE P w K mg base tb "unlink" ["self", "source", "target"] 3 m_Desk_unlink :=
  metE_of F sc_Desk_unlink D hM rfl (fun u cdv A outer s0 H E hr => by
    have tk : Takes (cxOf (L2.CX P w) P w K mg base ["self", "source", "target", "links", "one"] "Desk.unlink" (defScope (inClass (top 41) 5)) f cdv A outer s0 H E) (fun cls d _ H => E cls d H) := takes_of rfl rfl rfl rfl
    exact pssd_cons (psd_drop (pee_meth 0 c_Desk_check_pair hr (by decide) tk (pa1_d (pp_var 1) (pa1_d (pp_var 2) (pa1_nil))) (fun ρ ss h => congrArg (· + 1) ((al1_d (al1_d al1_nil)) ρ ss h)))) (pssd_cons (psd_if (pte (ptp_cmp (od_notIn (hu_ hr)) nex_dNotIn (pq (pp_tup (ppa_cons (pp_var 1) (ppa_cons (pp_var 2) (ppa_nil))))) (pq (pp_lc (own := [("one", 4)]) rfl sc_Desk_unlink.nd (pip_seq (pp_fld 0 .links D)) (blkOk_by (by kernel_rfl)) (fun _ _ _ _ _ => pgd_name 4 sc_Desk_unlink.nd) (fun _ _ _ _ _ => pts_yes) (fun _ _ _ _ _ => pp_sl (pq (pp_var 4)) (ppo_none) (ppo_some (pp_int))))) (by rfl))) (pssd_one (psd_raiseD B.NotLinked rfl tk rfl)) (pssd_nil)) (pssd_cons (psd_set 3 sc_Desk_unlink.nd (pee (pp_t1 cb_tuple nex_dTuple rfl B.tuple_ bb_tuple (pq (pp_lc (own := [("one", 4)]) rfl sc_Desk_unlink.nd (pip_seq (pp_fld 0 .links D)) (blkOk_by (by kernel_rfl)) (fun _ _ _ _ _ => pgd_name 4 sc_Desk_unlink.nd) (fun _ _ _ _ _ => pts_one (ptp_cmp (od_ne (hu_ hr)) nex_dNe (pq (pp_sl (pq (pp_var 4)) (ppo_none) (ppo_some (pp_int)))) (pq (pp_tup (ppa_cons (pp_var 1) (ppa_cons (pp_var 2) (ppa_nil))))) (nomark _))) (fun _ _ _ _ _ => pp_var 4)))))) (pssd_cons (psd_drop (pee_meth 0 c_Desk_become hr (by decide) tk (pa1_d (pp_tup (ppa_cons (pp_str) (ppa_cons (pp_var 1) (ppa_cons (pp_var 2) (ppa_nil))))) (pa1_d (pp_fld 0 .there D) (pa1_d (pp_var 3) (pa1_nil)))) (fun ρ ss h => congrArg (· + 1) ((al1_d (al1_d (al1_d al1_nil))) ρ ss h)))) (pssd_one (psd_ret (pee (pp_b1 cb_len nex_dLen rfl B.len_ bb_len (pq (pp_var 3)))))))))) (fun kV doc pm an cdv ct us a1 => by
    exact match us, a1 with | [_, _, _], _ => rfl)
end
end Rf

/-! L34: the law k34 is true of the mirrors: they are reckoned by the kernel. -/
namespace Rf
open PySem PySem.Spec L2
open En (enc)
def midR (k : Sf) : Sf := sSeq (sIf (eP (rCall m_is_table (raCons (rTup (raCons (rV 2) (raCons (rTup (raCons (rTup (raCons (rC (.int 0)) (raCons (rV 2) (raCons (rC (.str "follow")) (raNil))))) (raNil))) (raNil)))) (raNil)))) (sRet (eP (rC (.bool false)))) (sNil)) (sSeq (sIf (eP (rCall m_is_table (raCons (rTup (raCons (rV 2) (raCons (rTup (raCons (rTup (raCons (rV 2) (raCons (rC (.int 0)) (raCons (rC (.str "follow")) (raNil))))) (raNil))) (raNil)))) (raNil)))) (sRet (eP (rC (.bool false)))) (sNil)) (sSeq (sIf (eP (rNot (rCall m_is_table (raCons (rTup (raCons (rV 2) (raCons (rTup (raCons (rTup (raCons (r2 dSub (rV 2) (rC (.int 1))) (raCons (rC (.int 0)) (raCons (rC (.str "follow")) (raNil))))) (raNil))) (raNil)))) (raNil))))) (sRet (eP (rC (.bool false)))) (sNil)) (sSeq (sAsg (eP (rTup (raCons (rV 2) (raCons (rTup (raCons (rTup (raCons (r2 dSub (rV 2) (rC (.int 1))) (raCons (rC (.int 0)) (raCons (rC (.str "follow")) (raNil))))) (raNil))) (raNil))))) (tgV 3)) (sSeq (sIf (eP (rNot (rCall m_is_run (raCons (rV 3) (raCons (rTup (raCons (rC (.int 0)) (raNil))) (raCons (rTup (raCons (rTup (raCons (r2 dSub (rV 2) (rC (.int 1))) (raCons (rC (.int 0)) (raCons (rC (.str "follow")) (raNil))))) (raNil))) (raNil))))))) (sRet (eP (rC (.bool false)))) (sNil)) (sSeq (sIf (eP (rCall m_is_run (raCons (rV 3) (raCons (rTup (raCons (rC (.int 0)) (raNil))) (raCons (rTup (raCons (rTup (raCons (r2 dSub (rV 2) (rC (.int 1))) (raCons (rC (.bool false)) (raCons (rC (.str "follow")) (raNil))))) (raNil))) (raNil)))))) (sRet (eP (rC (.bool false)))) (sNil)) (sSeq (sAsg (eP (rTup (raCons (rC (.int 2)) (raCons (rTup (raCons (rTup (raCons (rC (.int 1)) (raCons (rC (.int 0)) (raCons (rC (.str "follow")) (raNil))))) (raNil))) (raNil))))) (tgV 4)) (sSeq (sIf (eP (rCall m_is_run (raCons (rV 4) (raCons (rTup (raCons (rC (.int 0)) (raNil))) (raCons (rTup (raCons (rTup (raCons (rC (.bool true)) (raCons (rC (.int 0)) (raCons (rC (.str "follow")) (raNil))))) (raNil))) (raNil)))))) (sRet (eP (rC (.bool false)))) (sNil)) (sSeq (sIf (eP (rNot (rCall m__law_refused (raCons (rV 2) (raCons (rV 2) (raNil)))))) (sRet (eP (rC (.bool false)))) (sNil)) (sSeq (sIf (eP (rNot (rCall m__law_refused (raCons (rV 2) (raCons (rC (.bool true)) (raNil)))))) (sRet (eP (rC (.bool false)))) (sNil)) (sSeq (sPut 5 (nM (mMk m_Desk___init__ (rTup (raCons (rV 2) (raCons (rTup (raNil)) (raNil))))))) (sSeq (sIf (e2 dNe (eMeth m_Desk_link 5 (a1D (r2 dSub (rV 2) (rC (.int 1))) (a1D (rC (.int 0)) (a1D (rC (.str "follow")) (a1Nil))))) (eP (rC (.int 1)))) (sRet (eP (rC (.bool false)))) (sNil)) (sSeq (sIf (e2 dNe (eMeth m_Desk_link 5 (a1D (rC (.int 0)) (a1D (r2 dSub (rV 2) (rC (.int 1))) (a1D (rC (.str "empty")) (a1Nil))))) (eP (rC (.int 2)))) (sRet (eP (rC (.bool false)))) (sNil)) (sSeq (sIf (e2 dNe (eMeth m_Desk_unlink 5 (a1D (r2 dSub (rV 2) (rC (.int 1))) (a1D (rC (.int 0)) (a1Nil)))) (eP (rC (.int 1)))) (sRet (eP (rC (.bool false)))) (sNil)) (k))))))))))))))
def retG (fd : List Sl → Ro) (fc fp : List D → R D) : Sf := sRet (eAnd (eCall fc (eaCons (eCallE fd 1 (a1S 0 (a1O 1 (a1D (rC (.int 4)) (a1Nil))))) (eaNil))) (eCall fp (eaCons (e2 dAdd (eP (rC (.int 1))) (eCallE fd 1 (a1S 0 (a1O 1 (a1D (rC (.int 3)) (a1Nil)))))) (eaNil))))
def beg (fd : List Sl → Ro) (k : Sf) : Sf := sSeq (sPut 1 nTown) (sSeq (sAsg (e2 dAdd (eP (rC (.int 2))) (eCallE fd 1 (a1S 0 (a1O 1 (a1D (rC (.int 7)) (a1Nil)))))) (tgV 2)) k)
theorem beg_ok (fd : List Sl → Ro) (k : Sf) (ns : List Int) (v : Int) (t1 : Sl) (ht1 : Tw t1) (q1 : fd [.scr ns, .town 0 [], .dat (.int 7)] = .ok (.int v) t1) : beg fd k (some (.scr ns) :: List.replicate 5 none) = k [some (.scr ns), some t1, some (.dat (.int (2 + v))), none, none, none] := by
  simp only [beg, sSeq_eq, LIM, andR_ok, orR_ok, ifR_ok, notR_ok, chR_ok, upE_ok, upE_exc, upE_ite, ifS_ok, ifS_exc, ifS_ite, seqS_nx, seqS_rt, seqS_exc, seqS_ct, seqS_ite, retS_ok, retS_exc, retS_ite, asgS_ok, asgS_exc, asgS_ite, dropS_ok, dropS_exc, dropS_ite, outD_rt, outD_nx, outD_exc, outD_ite, bind_ite, ite_and, ite_or, ite_nand, rC, rV, rL, Rf.r1, Rf.r2, rNot_eq, rAnd_eq, rOr_eq, rIf_eq, rChain_eq, raNil, raCons, raApp, rTup, rLst, rSl, roNone, roSome, riS, riR1_eq, riR2, riZip, rComp, rCall, rLam_eq, lamR_ok, lam_table, lam_row, lam_start, lam_run, lam_changes, lam_plan, lam_home, lam_rule, lam_text, lam_many, lam_nothing, lam_circular, eP_eq, Rf.e1, Rf.e2, eaNil, eaCons, eTup, eLst, eCall, eNot, eAnd, eOr, eIf, sSeq_eq, sAsg_eq, sDrop_eq, sRet_eq, sIf_eq, sNil, sFor, sForE, sPut, sPar2, sPar3, sParE, setD, sFz, frzR, sRaise, sCont, sBrk, tgV, tgT_tup, tgCons, tgNil, rYes, fnD_eq, fnE_eq, outE_rt, outE_ite, R.bind_ok, R.bind_exc, R.bind_bad, Res.bind_ok, Res.bind_exc, Res.bind_bad, mD, mL, nM, eApp, eAppE, eExt, ePop, ePop0, eCallE_eq, callE_ok, putE_ok, resbind_ite, a1Nil, a1D, a1S, a1O, lk_town, lk_lst, lk_dat, ieR1_eq, rScr, rSix, rTown, rTget, sTcnt, sTrest, nTown, wipeR, dItems_lst, dItems_tup, dLen_lst, dLen_tup, dTuple_lst, dTuple_tup, dList_lst, dList_tup, dIx_lst, dIx_tup, atR_some, dIx_edge0, dIx_edge1, dIx_edge2, dSl_lst, dSl_tup, dInT_int, dInL_int, dNiT_int, dNiL_int, dInT_edge, dInL_edge, dNiT_edge, dNiL_edge, dEq_ref, dEq_fol, dEq_emp, dNe_ref, dNe_fol, dNe_emp, dNeg, dAdd, dSub, dCat, dLt, dLe, dGt, dGe, dIs_non, dIsNot_non, isN_non, isN_tup, isN_str, List.map, List.replicate, List.length, List.append_eq, List.cons_append, List.nil_append, List.getElem?_cons_zero, List.getElem?_cons_succ, List.set_cons_zero, List.set_cons_succ, Nat.reduceAdd, Nat.reduceSub, Nat.reduceLeDiff, Nat.reduceLT, Nat.zero_add, Option.bind_some, Bool.not_true, Bool.not_false, reduceIte, List.length_cons, List.length_nil, List.map_cons, List.map_nil, List.replicate_succ, List.replicate_zero, List.singleton_append, List.length_map, Nat.sub_self, Nat.add_one_sub_one, Int.cast_ofNat_Int, Int.reduceEq, decide_true, decide_false, Bool.false_or, Bool.or_false, Bool.true_and, Bool.and_true, Bool.false_and, Bool.and_false, Bool.true_or, Bool.or_true, Bool.false_eq_true, if_true, if_false, Tw.begin.lk, ht1.lk, q1]
theorem ret_ok (fd : List Sl → Ro) (fc fp : List D → R D) (ns : List Int) (x y : Int) (r a b c : Option Sl) (t1 t2 t3 : Sl) (ht1 : Tw t1) (ht2 : Tw t2) (ht3 : Tw t3) (q2 : fd [.scr ns, t1, .dat (.int 4)] = .ok (.int x) t2) (q3 : fd [.scr ns, t2, .dat (.int 3)] = .ok (.int y) t3) (cc : fc [.int x] = .ok (.bool true)) (pp : fp [.int (1 + y)] = .ok (.bool true)) :
    retG fd fc fp [some (.scr ns), some t1, r, a, b, c] = .ok (.rt (.bool true)) [some (.scr ns), some t3, r, a, b, c] := by
  simp only [retG, LIM, andR_ok, orR_ok, ifR_ok, notR_ok, chR_ok, upE_ok, upE_exc, upE_ite, ifS_ok, ifS_exc, ifS_ite, seqS_nx, seqS_rt, seqS_exc, seqS_ct, seqS_ite, retS_ok, retS_exc, retS_ite, asgS_ok, asgS_exc, asgS_ite, dropS_ok, dropS_exc, dropS_ite, outD_rt, outD_nx, outD_exc, outD_ite, bind_ite, ite_and, ite_or, ite_nand, rC, rV, rL, Rf.r1, Rf.r2, rNot_eq, rAnd_eq, rOr_eq, rIf_eq, rChain_eq, raNil, raCons, raApp, rTup, rLst, rSl, roNone, roSome, riS, riR1_eq, riR2, riZip, rComp, rCall, rLam_eq, lamR_ok, lam_table, lam_row, lam_start, lam_run, lam_changes, lam_plan, lam_home, lam_rule, lam_text, lam_many, lam_nothing, lam_circular, eP_eq, Rf.e1, Rf.e2, eaNil, eaCons, eTup, eLst, eCall, eNot, eAnd, eOr, eIf, sSeq_eq, sAsg_eq, sDrop_eq, sRet_eq, sIf_eq, sNil, sFor, sForE, sPut, sPar2, sPar3, sParE, setD, sFz, frzR, sRaise, sCont, sBrk, tgV, tgT_tup, tgCons, tgNil, rYes, fnD_eq, fnE_eq, outE_rt, outE_ite, R.bind_ok, R.bind_exc, R.bind_bad, Res.bind_ok, Res.bind_exc, Res.bind_bad, mD, mL, nM, eApp, eAppE, eExt, ePop, ePop0, eCallE_eq, callE_ok, putE_ok, resbind_ite, a1Nil, a1D, a1S, a1O, lk_town, lk_lst, lk_dat, ieR1_eq, rScr, rSix, rTown, rTget, sTcnt, sTrest, nTown, wipeR, dItems_lst, dItems_tup, dLen_lst, dLen_tup, dTuple_lst, dTuple_tup, dList_lst, dList_tup, dIx_lst, dIx_tup, atR_some, dIx_edge0, dIx_edge1, dIx_edge2, dSl_lst, dSl_tup, dInT_int, dInL_int, dNiT_int, dNiL_int, dInT_edge, dInL_edge, dNiT_edge, dNiL_edge, dEq_ref, dEq_fol, dEq_emp, dNe_ref, dNe_fol, dNe_emp, dNeg, dAdd, dSub, dCat, dLt, dLe, dGt, dGe, dIs_non, dIsNot_non, isN_non, isN_tup, isN_str, List.map, List.replicate, List.length, List.append_eq, List.cons_append, List.nil_append, List.getElem?_cons_zero, List.getElem?_cons_succ, List.set_cons_zero, List.set_cons_succ, Nat.reduceAdd, Nat.reduceSub, Nat.reduceLeDiff, Nat.reduceLT, Nat.zero_add, Option.bind_some, Bool.not_true, Bool.not_false, reduceIte, List.length_cons, List.length_nil, List.map_cons, List.map_nil, List.replicate_succ, List.replicate_zero, List.singleton_append, List.length_map, Nat.sub_self, Nat.add_one_sub_one, Int.cast_ofNat_Int, Int.reduceEq, decide_true, decide_false, Bool.false_or, Bool.or_false, Bool.true_and, Bool.and_true, Bool.false_and, Bool.and_false, Bool.true_or, Bool.or_true, Bool.false_eq_true, if_true, if_false, ht1.lk, ht2.lk, ht3.lk, q2, q3, cc, pp]
theorem law_split : s_law = beg m__law_draw (midR (retG m__law_draw m__law_changes m__law_plans)) := rfl
theorem mid_2 (k : Sf) (s t : Option Sl) : midR k [s, t, some (.dat (.int 2)), none, none, none] = k [s, t, some (.dat (.int 2)), some (.dat (.tuple [.int 2, .tuple [.tuple [.int 1, .int 0, .str "follow"]]])), some (.dat (.tuple [.int 2, .tuple [.tuple [.int 1, .int 0, .str "follow"]]])), some (.desk (.tuple [.int 2, .tuple []]) (.tuple [.int 0, .int 1]) (.tuple [.tuple [.int 0, .int 1, .str "empty"]]) [.tuple [.tuple [.str "link", .int 1, .int 0, .str "follow"], .tuple [.tuple [.int 0, .int 1], .tuple []]], .tuple [.tuple [.str "link", .int 0, .int 1, .str "empty"], .tuple [.tuple [.int 0, .int 1], .tuple [.tuple [.int 1, .int 0, .str "follow"]]]], .tuple [.tuple [.str "unlink", .int 1, .int 0], .tuple [.tuple [.int 0, .int 1], .tuple [.tuple [.int 0, .int 1, .str "empty"], .tuple [.int 1, .int 0, .str "follow"]]]]] [])] := by kernel_rfl
theorem mid_3 (k : Sf) (s t : Option Sl) : midR k [s, t, some (.dat (.int 3)), none, none, none] = k [s, t, some (.dat (.int 3)), some (.dat (.tuple [.int 3, .tuple [.tuple [.int 2, .int 0, .str "follow"]]])), some (.dat (.tuple [.int 2, .tuple [.tuple [.int 1, .int 0, .str "follow"]]])), some (.desk (.tuple [.int 3, .tuple []]) (.tuple [.int 0, .int 1, .int 2]) (.tuple [.tuple [.int 0, .int 2, .str "empty"]]) [.tuple [.tuple [.str "link", .int 2, .int 0, .str "follow"], .tuple [.tuple [.int 0, .int 1, .int 2], .tuple []]], .tuple [.tuple [.str "link", .int 0, .int 2, .str "empty"], .tuple [.tuple [.int 0, .int 1, .int 2], .tuple [.tuple [.int 2, .int 0, .str "follow"]]]], .tuple [.tuple [.str "unlink", .int 2, .int 0], .tuple [.tuple [.int 0, .int 1, .int 2], .tuple [.tuple [.int 0, .int 2, .str "empty"], .tuple [.int 2, .int 0, .str "follow"]]]]] [])] := by kernel_rfl
theorem mid_4 (k : Sf) (s t : Option Sl) : midR k [s, t, some (.dat (.int 4)), none, none, none] = k [s, t, some (.dat (.int 4)), some (.dat (.tuple [.int 4, .tuple [.tuple [.int 3, .int 0, .str "follow"]]])), some (.dat (.tuple [.int 2, .tuple [.tuple [.int 1, .int 0, .str "follow"]]])), some (.desk (.tuple [.int 4, .tuple []]) (.tuple [.int 0, .int 1, .int 2, .int 3]) (.tuple [.tuple [.int 0, .int 3, .str "empty"]]) [.tuple [.tuple [.str "link", .int 3, .int 0, .str "follow"], .tuple [.tuple [.int 0, .int 1, .int 2, .int 3], .tuple []]], .tuple [.tuple [.str "link", .int 0, .int 3, .str "empty"], .tuple [.tuple [.int 0, .int 1, .int 2, .int 3], .tuple [.tuple [.int 3, .int 0, .str "follow"]]]], .tuple [.tuple [.str "unlink", .int 3, .int 0], .tuple [.tuple [.int 0, .int 1, .int 2, .int 3], .tuple [.tuple [.int 0, .int 3, .str "empty"], .tuple [.int 3, .int 0, .str "follow"]]]]] [])] := by kernel_rfl
theorem mid_5 (k : Sf) (s t : Option Sl) : midR k [s, t, some (.dat (.int 5)), none, none, none] = k [s, t, some (.dat (.int 5)), some (.dat (.tuple [.int 5, .tuple [.tuple [.int 4, .int 0, .str "follow"]]])), some (.dat (.tuple [.int 2, .tuple [.tuple [.int 1, .int 0, .str "follow"]]])), some (.desk (.tuple [.int 5, .tuple []]) (.tuple [.int 0, .int 1, .int 2, .int 3, .int 4]) (.tuple [.tuple [.int 0, .int 4, .str "empty"]]) [.tuple [.tuple [.str "link", .int 4, .int 0, .str "follow"], .tuple [.tuple [.int 0, .int 1, .int 2, .int 3, .int 4], .tuple []]], .tuple [.tuple [.str "link", .int 0, .int 4, .str "empty"], .tuple [.tuple [.int 0, .int 1, .int 2, .int 3, .int 4], .tuple [.tuple [.int 4, .int 0, .str "follow"]]]], .tuple [.tuple [.str "unlink", .int 4, .int 0], .tuple [.tuple [.int 0, .int 1, .int 2, .int 3, .int 4], .tuple [.tuple [.int 0, .int 4, .str "empty"], .tuple [.int 4, .int 0, .str "follow"]]]]] [])] := by kernel_rfl
theorem mid_6 (k : Sf) (s t : Option Sl) : midR k [s, t, some (.dat (.int 6)), none, none, none] = k [s, t, some (.dat (.int 6)), some (.dat (.tuple [.int 6, .tuple [.tuple [.int 5, .int 0, .str "follow"]]])), some (.dat (.tuple [.int 2, .tuple [.tuple [.int 1, .int 0, .str "follow"]]])), some (.desk (.tuple [.int 6, .tuple []]) (.tuple [.int 0, .int 1, .int 2, .int 3, .int 4, .int 5]) (.tuple [.tuple [.int 0, .int 5, .str "empty"]]) [.tuple [.tuple [.str "link", .int 5, .int 0, .str "follow"], .tuple [.tuple [.int 0, .int 1, .int 2, .int 3, .int 4, .int 5], .tuple []]], .tuple [.tuple [.str "link", .int 0, .int 5, .str "empty"], .tuple [.tuple [.int 0, .int 1, .int 2, .int 3, .int 4, .int 5], .tuple [.tuple [.int 5, .int 0, .str "follow"]]]], .tuple [.tuple [.str "unlink", .int 5, .int 0], .tuple [.tuple [.int 0, .int 1, .int 2, .int 3, .int 4, .int 5], .tuple [.tuple [.int 0, .int 5, .str "empty"], .tuple [.int 5, .int 0, .str "follow"]]]]] [])] := by kernel_rfl
theorem mid_7 (k : Sf) (s t : Option Sl) : midR k [s, t, some (.dat (.int 7)), none, none, none] = k [s, t, some (.dat (.int 7)), some (.dat (.tuple [.int 7, .tuple [.tuple [.int 6, .int 0, .str "follow"]]])), some (.dat (.tuple [.int 2, .tuple [.tuple [.int 1, .int 0, .str "follow"]]])), some (.desk (.tuple [.int 7, .tuple []]) (.tuple [.int 0, .int 1, .int 2, .int 3, .int 4, .int 5, .int 6]) (.tuple [.tuple [.int 0, .int 6, .str "empty"]]) [.tuple [.tuple [.str "link", .int 6, .int 0, .str "follow"], .tuple [.tuple [.int 0, .int 1, .int 2, .int 3, .int 4, .int 5, .int 6], .tuple []]], .tuple [.tuple [.str "link", .int 0, .int 6, .str "empty"], .tuple [.tuple [.int 0, .int 1, .int 2, .int 3, .int 4, .int 5, .int 6], .tuple [.tuple [.int 6, .int 0, .str "follow"]]]], .tuple [.tuple [.str "unlink", .int 6, .int 0], .tuple [.tuple [.int 0, .int 1, .int 2, .int 3, .int 4, .int 5, .int 6], .tuple [.tuple [.int 0, .int 6, .str "empty"], .tuple [.int 6, .int 0, .str "follow"]]]]] [])] := by kernel_rfl
theorem mid_8 (k : Sf) (s t : Option Sl) : midR k [s, t, some (.dat (.int 8)), none, none, none] = k [s, t, some (.dat (.int 8)), some (.dat (.tuple [.int 8, .tuple [.tuple [.int 7, .int 0, .str "follow"]]])), some (.dat (.tuple [.int 2, .tuple [.tuple [.int 1, .int 0, .str "follow"]]])), some (.desk (.tuple [.int 8, .tuple []]) (.tuple [.int 0, .int 1, .int 2, .int 3, .int 4, .int 5, .int 6, .int 7]) (.tuple [.tuple [.int 0, .int 7, .str "empty"]]) [.tuple [.tuple [.str "link", .int 7, .int 0, .str "follow"], .tuple [.tuple [.int 0, .int 1, .int 2, .int 3, .int 4, .int 5, .int 6, .int 7], .tuple []]], .tuple [.tuple [.str "link", .int 0, .int 7, .str "empty"], .tuple [.tuple [.int 0, .int 1, .int 2, .int 3, .int 4, .int 5, .int 6, .int 7], .tuple [.tuple [.int 7, .int 0, .str "follow"]]]], .tuple [.tuple [.str "unlink", .int 7, .int 0], .tuple [.tuple [.int 0, .int 1, .int 2, .int 3, .int 4, .int 5, .int 6, .int 7], .tuple [.tuple [.int 0, .int 7, .str "empty"], .tuple [.int 7, .int 0, .str "follow"]]]]] [])] := by kernel_rfl
theorem mid_ok (v : Int) (h0 : 0 ≤ v) (h1 : v < 7) (k : Sf) (s t : Option Sl) : ∃ a b c, midR k [s, t, some (.dat (.int (2 + v))), none, none, none] = k [s, t, some (.dat (.int (2 + v))), a, b, c] := by
  have : v = 0 ∨ v = 1 ∨ v = 2 ∨ v = 3 ∨ v = 4 ∨ v = 5 ∨ v = 6 := by omega
  rcases this with rfl | rfl | rfl | rfl | rfl | rfl | rfl
  · exact ⟨_, _, _, mid_2 k s t⟩
  · exact ⟨_, _, _, mid_3 k s t⟩
  · exact ⟨_, _, _, mid_4 k s t⟩
  · exact ⟨_, _, _, mid_5 k s t⟩
  · exact ⟨_, _, _, mid_6 k s t⟩
  · exact ⟨_, _, _, mid_7 k s t⟩
  · exact ⟨_, _, _, mid_8 k s t⟩
theorem changes_0 : m__law_changes [.int 0] = .ok (.bool true) := by kernel_rfl
theorem changes_1 : m__law_changes [.int 1] = .ok (.bool true) := by kernel_rfl
theorem changes_2 : m__law_changes [.int 2] = .ok (.bool true) := by kernel_rfl
theorem changes_3 : m__law_changes [.int 3] = .ok (.bool true) := by kernel_rfl
theorem plans_1 : m__law_plans [.int 1] = .ok (.bool true) := by kernel_rfl
theorem plans_2 : m__law_plans [.int 2] = .ok (.bool true) := by kernel_rfl
theorem plans_3 : m__law_plans [.int 3] = .ok (.bool true) := by kernel_rfl
theorem changes_ok (v : Int) (h0 : 0 ≤ v) (h1 : v < 4) : m__law_changes [.int v] = .ok (.bool true) := by
  have : v = 0 ∨ v = 1 ∨ v = 2 ∨ v = 3 := by omega
  rcases this with rfl | rfl | rfl | rfl
  · exact changes_0
  · exact changes_1
  · exact changes_2
  · exact changes_3
theorem plans_ok (v : Int) (h0 : 0 ≤ v) (h1 : v < 3) : m__law_plans [.int (1 + v)] = .ok (.bool true) := by
  have : v = 0 ∨ v = 1 ∨ v = 2 := by omega
  rcases this with rfl | rfl | rfl
  · exact plans_1
  · exact plans_2
  · exact plans_3
theorem law_true (ns : List Int) (hl : ns.length ≤ 63) (_hb : ∀ z ∈ ns, Builtin.Int.intBits z ≤ 1048576) : ∃ r, s_law (some (.scr ns) :: List.replicate 5 none) = .ok (.rt (.bool true)) r := by
  obtain ⟨v, t1, q1, v0, v1, ht1⟩ := draw_ok ns hl (.town 0 []) Tw.begin 7 (by omega) (by omega)
  obtain ⟨x, t2, q2, x0, x1, ht2⟩ := draw_ok ns hl t1 ht1 4 (by omega) (by omega)
  obtain ⟨y, t3, q3, y0, y1, ht3⟩ := draw_ok ns hl t2 ht2 3 (by omega) (by omega)
  obtain ⟨a, b, c, em⟩ := mid_ok v v0 v1 (retG m__law_draw m__law_changes m__law_plans) (some (.scr ns)) (some t1)
  have cc := changes_ok x x0 x1
  have pp := plans_ok y y0 y1
  exact ⟨_, ((congrFun law_split _).trans ((beg_ok m__law_draw _ ns v t1 ht1 q1).trans em)).trans (ret_ok m__law_draw _ _ ns x y _ a b c t1 t2 t3 ht1 ht2 ht3 q2 q3 cc pp)⟩
end Rf

namespace Rf
open PySem PySem.Spec PyProof.Rows L2 LamX
def d_is_between : He.DefD := ⟨("is_between", none), "is_between", "is_between", defArgs (top 16), defBody (top 16), defScope (top 16), [], []⟩
def d_is_ascending : He.DefD := ⟨("is_ascending", none), "is_ascending", "is_ascending", defArgs (top 17), defBody (top 17), defScope (top 17), [], []⟩
def d_is_rule : He.DefD := ⟨("is_rule", none), "is_rule", "is_rule", defArgs (top 18), defBody (top 18), defScope (top 18), [], []⟩
def d_is_reference : He.DefD := ⟨("is_reference", none), "is_reference", "is_reference", defArgs (top 19), defBody (top 19), defScope (top 19), [], []⟩
def d_is_table : He.DefD := ⟨("is_table", none), "is_table", "is_table", defArgs (top 20), defBody (top 20), defScope (top 20), [], []⟩
def d_check_table : He.DefD := ⟨("check_table", none), "check_table", "check_table", defArgs (top 21), defBody (top 21), defScope (top 21), [], []⟩
def d_is_start : He.DefD := ⟨("is_start", none), "is_start", "is_start", defArgs (top 22), defBody (top 22), defScope (top 22), [], []⟩
def d_check_start : He.DefD := ⟨("check_start", none), "check_start", "check_start", defArgs (top 23), defBody (top 23), defScope (top 23), [], []⟩
def d_open_in : He.DefD := ⟨("open_in", none), "open_in", "open_in", defArgs (top 25), defBody (top 25), defScope (top 25), [], []⟩
def d_handled : He.DefD := ⟨("handled", none), "handled", "handled", defArgs (top 26), defBody (top 26), defScope (top 26), [], []⟩
def d_end_of : He.DefD := ⟨("end_of", none), "end_of", "end_of", defArgs (top 27), defBody (top 27), defScope (top 27), [], []⟩
def d_is_among : He.DefD := ⟨("is_among", none), "is_among", "is_among", defArgs (top 28), defBody (top 28), defScope (top 28), [], []⟩
def d_is_run : He.DefD := ⟨("is_run", none), "is_run", "is_run", defArgs (top 29), defBody (top 29), defScope (top 29), [], []⟩
def d_some_runs : He.DefD := ⟨("some_runs", none), "some_runs", "some_runs", defArgs (top 30), defBody (top 30), defScope (top 30), [], []⟩
def d_verdict_of : He.DefD := ⟨("verdict_of", none), "verdict_of", "verdict_of", defArgs (top 31), defBody (top 31), defScope (top 31), [], []⟩
def d_is_column : He.DefD := ⟨("is_column", none), "is_column", "is_column", defArgs (top 33), defBody (top 33), defScope (top 33), [], []⟩
def d_is_plan : He.DefD := ⟨("is_plan", none), "is_plan", "is_plan", defArgs (top 34), defBody (top 34), defScope (top 34), [], []⟩
def d_check_plan : He.DefD := ⟨("check_plan", none), "check_plan", "check_plan", defArgs (top 35), defBody (top 35), defScope (top 35), [], []⟩
def d_check_home : He.DefD := ⟨("check_home", none), "check_home", "check_home", defArgs (top 36), defBody (top 36), defScope (top 36), [], []⟩
def d_does_fit : He.DefD := ⟨("does_fit", none), "does_fit", "does_fit", defArgs (top 37), defBody (top 37), defScope (top 37), [], []⟩
def d_is_fitting : He.DefD := ⟨("is_fitting", none), "is_fitting", "is_fitting", defArgs (top 38), defBody (top 38), defScope (top 38), [], []⟩
def d_is_example : He.DefD := ⟨("is_example", none), "is_example", "is_example", defArgs (top 39), defBody (top 39), defScope (top 39), [], []⟩
def d_are_changes : He.DefD := ⟨("are_changes", none), "are_changes", "are_changes", defArgs (top 43), defBody (top 43), defScope (top 43), [], []⟩
def d_changed_to : He.DefD := ⟨("changed_to", none), "changed_to", "changed_to", defArgs (top 44), defBody (top 44), defScope (top 44), [], []⟩
def d_changed : He.DefD := ⟨("changed", none), "changed", "changed", defArgs (top 45), defBody (top 45), defScope (top 45), [], []⟩
def d_fewest_changes : He.DefD := ⟨("fewest_changes", none), "fewest_changes", "fewest_changes", defArgs (top 46), defBody (top 46), defScope (top 46), [], []⟩
def d__law_draw : He.DefD := ⟨("_law_draw", none), "_law_draw", "_law_draw", defArgs (top 48), defBody (top 48), defScope (top 48), [], []⟩
def d__law_begun : He.DefD := ⟨("_law_begun", none), "_law_begun", "_law_begun", defArgs (top 49), defBody (top 49), defScope (top 49), [], []⟩
def d__law_changes : He.DefD := ⟨("_law_changes", none), "_law_changes", "_law_changes", defArgs (top 50), defBody (top 50), defScope (top 50), [], []⟩
def d__law_refused : He.DefD := ⟨("_law_refused", none), "_law_refused", "_law_refused", defArgs (top 51), defBody (top 51), defScope (top 51), [], []⟩
def d__law_plans : He.DefD := ⟨("_law_plans", none), "_law_plans", "_law_plans", defArgs (top 52), defBody (top 52), defScope (top 52), [], []⟩
def d_law : He.DefD := ⟨("law", none), "law", "law", defArgs (top 53), defBody (top 53), defScope (top 53), [], []⟩
def d_Desk___init__ : He.DefD := ⟨("Desk", some "__init__"), "__init__", "Desk.__init__", defArgs (inClass (top 41) 0), defBody (inClass (top 41) 0), defScope (inClass (top 41) 0), [], []⟩
def d_Desk_check_pair : He.DefD := ⟨("Desk", some "check_pair"), "check_pair", "Desk.check_pair", defArgs (inClass (top 41) 1), defBody (inClass (top 41) 1), defScope (inClass (top 41) 1), [], []⟩
def d_Desk_become : He.DefD := ⟨("Desk", some "become"), "become", "Desk.become", defArgs (inClass (top 41) 2), defBody (inClass (top 41) 2), defScope (inClass (top 41) 2), [], []⟩
def d_Desk_link : He.DefD := ⟨("Desk", some "link"), "link", "Desk.link", defArgs (inClass (top 41) 4), defBody (inClass (top 41) 4), defScope (inClass (top 41) 4), [], []⟩
def d_Desk_unlink : He.DefD := ⟨("Desk", some "unlink"), "unlink", "Desk.unlink", defArgs (inClass (top 41) 5), defBody (inClass (top 41) 5), defScope (inClass (top 41) 5), [], []⟩
def hfn0 : List He.DefD := [d_is_between, d_is_ascending, d_is_rule, d_is_reference, d_is_table, d_check_table, d_is_start, d_check_start, d_open_in, d_handled, d_end_of, d_is_among, d_is_run, d_some_runs, d_verdict_of, d_is_column, d_is_plan, d_check_plan, d_check_home, d_does_fit, d_is_fitting, d_is_example, d_are_changes, d_changed_to, d_changed, d_fewest_changes, d__law_draw, d__law_begun, d__law_changes, d__law_refused]
def hfn1 : List He.DefD := [d__law_plans, d_law, d_Desk___init__, d_Desk_check_pair, d_Desk_become, d_Desk_link, d_Desk_unlink]
def hfn : List He.DefD := hfn0 ++ hfn1
def hfa0 : List He.Fa := [.glo "_wall", .glo "RowError", .glo "InvalidTable", .glo "InvalidRow", .glo "InvalidStart", .glo "InvalidChanges", .glo "InvalidPlan", .glo "InvalidHome", .glo "InvalidRule", .glo "TooMany", .glo "Linked", .glo "NotLinked", .glo "is_between", .glo "is_ascending", .glo "is_rule", .glo "is_reference", .glo "is_table", .glo "check_table", .glo "is_start", .glo "check_start", .glo "open_in", .glo "handled", .glo "end_of", .glo "is_among", .glo "is_run", .glo "some_runs", .glo "verdict_of", .glo "is_column", .glo "is_plan", .glo "check_plan"]
def hfa1 : List He.Fa := [.glo "check_home", .glo "does_fit", .glo "is_fitting", .glo "is_example", .glo "Desk", .glo "are_changes", .glo "changed_to", .glo "changed", .glo "fewest_changes", .glo "_law_draw", .glo "_law_begun", .glo "_law_changes", .glo "_law_refused", .glo "_law_plans", .glo "law", .free "isinstance", .free "int", .free "bool", .free "all", .free "zip", .free "str", .free "tuple", .free "len", .free "list", .free "range", .free "sorted", .free "any", .free "dict", .free "enumerate", .exc "InvalidTable"]
def hfa2 : List He.Fa := [.exc "InvalidStart", .exc "InvalidPlan", .exc "InvalidHome", .exc "InvalidChanges", .exc "TooMany", .exc "InvalidRow", .exc "InvalidRule", .exc "Linked", .exc "NotLinked", .exm "TooMany" "TooMany" true, .exm "InvalidRow" "InvalidRow" true, .cls "Desk", .mkr "Desk", .noat "Desk" "basis", .noat "Desk" "there", .noat "Desk" "links", .noat "Desk" "done", .noat "Desk" "undone", .meth "Desk" "check_pair", .meth "Desk" "become", .meth "Desk" "link", .meth "Desk" "unlink", .int "MOST" 12, .glo "RULES"]
def hfa : List He.Fa := hfa0 ++ hfa1 ++ hfa2
def htf0 : List He.Defn := []
def htf : List He.Defn := htf0
def hloose0 : List PySem.Str := ["_wall", "RowError", "InvalidTable", "InvalidRow", "InvalidStart", "InvalidChanges", "InvalidPlan", "InvalidHome", "InvalidRule", "TooMany", "Linked", "NotLinked", "is_between", "is_ascending", "is_rule", "is_reference", "is_table", "check_table", "is_start", "check_start", "open_in", "handled", "end_of", "is_among", "is_run", "some_runs", "verdict_of", "is_column", "is_plan", "check_plan"]
def hloose1 : List PySem.Str := ["check_home", "does_fit", "is_fitting", "is_example", "Desk", "are_changes", "changed_to", "changed", "fewest_changes", "_law_draw", "_law_begun", "_law_changes", "_law_refused", "_law_plans", "MOST", "RULES"]
def hloose : List PySem.Str := hloose0 ++ hloose1
def hexb (K : PySem.W.Frag) : Bool := tupXB K "RULES" [.str "empty", .str "follow", .str "refuse"]
abbrev HR : PySem.W.OpenRow := PySem.W.OpenLaw.row PySem.Challenge.rw_refrows_k34_bounds_by_hand
abbrev hhk : PySem.W.Hook := He.hookX 5 hfa hfn [] htf hexb
def hob (s : PySem.W.SharedT) : He.AlX := He.obsX 5 hfa hfn [] htf hexb (HandSHeadRun.getT s)
theorem hob_eq (s : PySem.W.SharedT) : hob s = hhk.obs s.abs := He.obsX_eq (HandSHeadRun.getT_eq s)
theorem hrun (w : World) : HandSHeadRun.RunEq HR (PySem.W.view HR.prog [53]) hhk hob 6000 hloose w := by
  intro os
  kernel_rfl
theorem hfacts {w : World} {K : PySem.W.Frag} {h : Heap} {mg : Str → Option Value} {f : Addr} (X : K.In h) (G : h.Ns mainGlobals mg) (hfa_ : mg ("law" : Str) = some (.ref f)) (c : He.SaysX hfa hfn [] htf hexb w h K) : LawAtS PySem.Challenge.rw_refrows_k34_bounds_by_hand w K (L2.CX (PySem.Challenge.rw_refrows_k34_bounds_by_hand).prog w) 8 63 "script" mg f h := by
  have hm := c.more
  have hm0 : (tupXB K "RULES" [.str "empty", .str "follow", .str "refuse"]) = true := hm
  have hRU := hm0
  have B : Bt K mg := ⟨He.free_ok X G (c.t.d.facts (f := .free "isinstance") (List.mem_of_getElem? (i := 45) rfl)),
    He.free_ok X G (c.t.d.facts (f := .free "int") (List.mem_of_getElem? (i := 46) rfl)),
    He.free_ok X G (c.t.d.facts (f := .free "bool") (List.mem_of_getElem? (i := 47) rfl)),
    He.free_ok X G (c.t.d.facts (f := .free "all") (List.mem_of_getElem? (i := 48) rfl)),
    He.free_ok X G (c.t.d.facts (f := .free "zip") (List.mem_of_getElem? (i := 49) rfl)),
    He.free_ok X G (c.t.d.facts (f := .free "str") (List.mem_of_getElem? (i := 50) rfl)),
    He.free_ok X G (c.t.d.facts (f := .free "tuple") (List.mem_of_getElem? (i := 51) rfl)),
    He.free_ok X G (c.t.d.facts (f := .free "len") (List.mem_of_getElem? (i := 52) rfl)),
    He.free_ok X G (c.t.d.facts (f := .free "list") (List.mem_of_getElem? (i := 53) rfl)),
    He.free_ok X G (c.t.d.facts (f := .free "range") (List.mem_of_getElem? (i := 54) rfl)),
    He.free_ok X G (c.t.d.facts (f := .free "sorted") (List.mem_of_getElem? (i := 55) rfl)),
    He.free_ok X G (c.t.d.facts (f := .free "any") (List.mem_of_getElem? (i := 56) rfl)),
    He.free_ok X G (c.t.d.facts (f := .free "dict") (List.mem_of_getElem? (i := 57) rfl)),
    He.free_ok X G (c.t.d.facts (f := .free "enumerate") (List.mem_of_getElem? (i := 58) rfl)),
    exD_of X G (c.t.d.facts (f := .glo "InvalidTable") (List.mem_of_getElem? (i := 2) rfl)) (c.t.d.facts (f := .exc "InvalidTable") (List.mem_of_getElem? (i := 59) rfl)),
    exD_of X G (c.t.d.facts (f := .glo "InvalidStart") (List.mem_of_getElem? (i := 4) rfl)) (c.t.d.facts (f := .exc "InvalidStart") (List.mem_of_getElem? (i := 60) rfl)),
    exD_of X G (c.t.d.facts (f := .glo "InvalidPlan") (List.mem_of_getElem? (i := 6) rfl)) (c.t.d.facts (f := .exc "InvalidPlan") (List.mem_of_getElem? (i := 61) rfl)),
    exD_of X G (c.t.d.facts (f := .glo "InvalidHome") (List.mem_of_getElem? (i := 7) rfl)) (c.t.d.facts (f := .exc "InvalidHome") (List.mem_of_getElem? (i := 62) rfl)),
    exD_of X G (c.t.d.facts (f := .glo "InvalidChanges") (List.mem_of_getElem? (i := 5) rfl)) (c.t.d.facts (f := .exc "InvalidChanges") (List.mem_of_getElem? (i := 63) rfl)),
    exD_of X G (c.t.d.facts (f := .glo "TooMany") (List.mem_of_getElem? (i := 9) rfl)) (c.t.d.facts (f := .exc "TooMany") (List.mem_of_getElem? (i := 64) rfl)),
    exD_of X G (c.t.d.facts (f := .glo "InvalidRow") (List.mem_of_getElem? (i := 3) rfl)) (c.t.d.facts (f := .exc "InvalidRow") (List.mem_of_getElem? (i := 65) rfl)),
    exD_of X G (c.t.d.facts (f := .glo "InvalidRule") (List.mem_of_getElem? (i := 8) rfl)) (c.t.d.facts (f := .exc "InvalidRule") (List.mem_of_getElem? (i := 66) rfl)),
    exD_of X G (c.t.d.facts (f := .glo "Linked") (List.mem_of_getElem? (i := 10) rfl)) (c.t.d.facts (f := .exc "Linked") (List.mem_of_getElem? (i := 67) rfl)),
    exD_of X G (c.t.d.facts (f := .glo "NotLinked") (List.mem_of_getElem? (i := 11) rfl)) (c.t.d.facts (f := .exc "NotLinked") (List.mem_of_getElem? (i := 68) rfl)),
    ⟨_, He.glo_ok X G (c.t.d.facts (f := .glo "TooMany") (List.mem_of_getElem? (i := 9) rfl)), He.exm_ok (c.t.d.facts (f := .exm "TooMany" "TooMany" true) (List.mem_of_getElem? (i := 69) rfl))⟩,
    ⟨_, He.glo_ok X G (c.t.d.facts (f := .glo "InvalidRow") (List.mem_of_getElem? (i := 3) rfl)), He.exm_ok (c.t.d.facts (f := .exm "InvalidRow" "InvalidRow" true) (List.mem_of_getElem? (i := 70) rfl))⟩,
    ⟨_, He.glo_ok X G (c.t.d.facts (f := .glo "RULES") (List.mem_of_getElem? (i := 83) rfl)), ktx_of (K := K) (x := "RULES") (vs := [.str "empty", .str "follow", .str "refuse"]) hRU⟩,
    He.int_ok X G (c.t.d.facts (f := .int "MOST" 12) (List.mem_of_getElem? (i := 82) rfl))⟩
  have DC : DkC K mg (He.ga K "Desk") := ⟨He.cls_ok (c.t.d.facts (f := .cls "Desk") (List.mem_of_getElem? (i := 71) rfl)), He.noat_ok (c.t.d.facts (f := .noat "Desk" "basis") (List.mem_of_getElem? (i := 73) rfl)), He.noat_ok (c.t.d.facts (f := .noat "Desk" "there") (List.mem_of_getElem? (i := 74) rfl)), He.noat_ok (c.t.d.facts (f := .noat "Desk" "links") (List.mem_of_getElem? (i := 75) rfl)), He.noat_ok (c.t.d.facts (f := .noat "Desk" "done") (List.mem_of_getElem? (i := 76) rfl)), He.noat_ok (c.t.d.facts (f := .noat "Desk" "undone") (List.mem_of_getElem? (i := 77) rfl)), He.glo_ok X G (c.t.d.facts (f := .glo "Desk") (List.mem_of_getElem? (i := 34) rfl))⟩
  obtain ⟨fd_is_between, F_is_between⟩ := c.t.d.def_ 0 (d := d_is_between) rfl
  have g_is_between : mg "is_between" = some (.ref (He.fAd K ("is_between", none))) := He.glo_ok X G (c.t.d.facts (f := .glo "is_between") (List.mem_of_getElem? (i := 12) rfl))
  obtain ⟨fd_is_ascending, F_is_ascending⟩ := c.t.d.def_ 1 (d := d_is_ascending) rfl
  have g_is_ascending : mg "is_ascending" = some (.ref (He.fAd K ("is_ascending", none))) := He.glo_ok X G (c.t.d.facts (f := .glo "is_ascending") (List.mem_of_getElem? (i := 13) rfl))
  obtain ⟨fd_is_rule, F_is_rule⟩ := c.t.d.def_ 2 (d := d_is_rule) rfl
  have g_is_rule : mg "is_rule" = some (.ref (He.fAd K ("is_rule", none))) := He.glo_ok X G (c.t.d.facts (f := .glo "is_rule") (List.mem_of_getElem? (i := 14) rfl))
  obtain ⟨fd_is_reference, F_is_reference⟩ := c.t.d.def_ 3 (d := d_is_reference) rfl
  have g_is_reference : mg "is_reference" = some (.ref (He.fAd K ("is_reference", none))) := He.glo_ok X G (c.t.d.facts (f := .glo "is_reference") (List.mem_of_getElem? (i := 15) rfl))
  obtain ⟨fd_is_table, F_is_table⟩ := c.t.d.def_ 4 (d := d_is_table) rfl
  have g_is_table : mg "is_table" = some (.ref (He.fAd K ("is_table", none))) := He.glo_ok X G (c.t.d.facts (f := .glo "is_table") (List.mem_of_getElem? (i := 16) rfl))
  obtain ⟨fd_check_table, F_check_table⟩ := c.t.d.def_ 5 (d := d_check_table) rfl
  have g_check_table : mg "check_table" = some (.ref (He.fAd K ("check_table", none))) := He.glo_ok X G (c.t.d.facts (f := .glo "check_table") (List.mem_of_getElem? (i := 17) rfl))
  obtain ⟨fd_is_start, F_is_start⟩ := c.t.d.def_ 6 (d := d_is_start) rfl
  have g_is_start : mg "is_start" = some (.ref (He.fAd K ("is_start", none))) := He.glo_ok X G (c.t.d.facts (f := .glo "is_start") (List.mem_of_getElem? (i := 18) rfl))
  obtain ⟨fd_check_start, F_check_start⟩ := c.t.d.def_ 7 (d := d_check_start) rfl
  have g_check_start : mg "check_start" = some (.ref (He.fAd K ("check_start", none))) := He.glo_ok X G (c.t.d.facts (f := .glo "check_start") (List.mem_of_getElem? (i := 19) rfl))
  obtain ⟨fd_open_in, F_open_in⟩ := c.t.d.def_ 8 (d := d_open_in) rfl
  have g_open_in : mg "open_in" = some (.ref (He.fAd K ("open_in", none))) := He.glo_ok X G (c.t.d.facts (f := .glo "open_in") (List.mem_of_getElem? (i := 20) rfl))
  obtain ⟨fd_handled, F_handled⟩ := c.t.d.def_ 9 (d := d_handled) rfl
  have g_handled : mg "handled" = some (.ref (He.fAd K ("handled", none))) := He.glo_ok X G (c.t.d.facts (f := .glo "handled") (List.mem_of_getElem? (i := 21) rfl))
  obtain ⟨fd_end_of, F_end_of⟩ := c.t.d.def_ 10 (d := d_end_of) rfl
  have g_end_of : mg "end_of" = some (.ref (He.fAd K ("end_of", none))) := He.glo_ok X G (c.t.d.facts (f := .glo "end_of") (List.mem_of_getElem? (i := 22) rfl))
  obtain ⟨fd_is_among, F_is_among⟩ := c.t.d.def_ 11 (d := d_is_among) rfl
  have g_is_among : mg "is_among" = some (.ref (He.fAd K ("is_among", none))) := He.glo_ok X G (c.t.d.facts (f := .glo "is_among") (List.mem_of_getElem? (i := 23) rfl))
  obtain ⟨fd_is_run, F_is_run⟩ := c.t.d.def_ 12 (d := d_is_run) rfl
  have g_is_run : mg "is_run" = some (.ref (He.fAd K ("is_run", none))) := He.glo_ok X G (c.t.d.facts (f := .glo "is_run") (List.mem_of_getElem? (i := 24) rfl))
  obtain ⟨fd_some_runs, F_some_runs⟩ := c.t.d.def_ 13 (d := d_some_runs) rfl
  have g_some_runs : mg "some_runs" = some (.ref (He.fAd K ("some_runs", none))) := He.glo_ok X G (c.t.d.facts (f := .glo "some_runs") (List.mem_of_getElem? (i := 25) rfl))
  obtain ⟨fd_verdict_of, F_verdict_of⟩ := c.t.d.def_ 14 (d := d_verdict_of) rfl
  have g_verdict_of : mg "verdict_of" = some (.ref (He.fAd K ("verdict_of", none))) := He.glo_ok X G (c.t.d.facts (f := .glo "verdict_of") (List.mem_of_getElem? (i := 26) rfl))
  obtain ⟨fd_is_column, F_is_column⟩ := c.t.d.def_ 15 (d := d_is_column) rfl
  have g_is_column : mg "is_column" = some (.ref (He.fAd K ("is_column", none))) := He.glo_ok X G (c.t.d.facts (f := .glo "is_column") (List.mem_of_getElem? (i := 27) rfl))
  obtain ⟨fd_is_plan, F_is_plan⟩ := c.t.d.def_ 16 (d := d_is_plan) rfl
  have g_is_plan : mg "is_plan" = some (.ref (He.fAd K ("is_plan", none))) := He.glo_ok X G (c.t.d.facts (f := .glo "is_plan") (List.mem_of_getElem? (i := 28) rfl))
  obtain ⟨fd_check_plan, F_check_plan⟩ := c.t.d.def_ 17 (d := d_check_plan) rfl
  have g_check_plan : mg "check_plan" = some (.ref (He.fAd K ("check_plan", none))) := He.glo_ok X G (c.t.d.facts (f := .glo "check_plan") (List.mem_of_getElem? (i := 29) rfl))
  obtain ⟨fd_check_home, F_check_home⟩ := c.t.d.def_ 18 (d := d_check_home) rfl
  have g_check_home : mg "check_home" = some (.ref (He.fAd K ("check_home", none))) := He.glo_ok X G (c.t.d.facts (f := .glo "check_home") (List.mem_of_getElem? (i := 30) rfl))
  obtain ⟨fd_does_fit, F_does_fit⟩ := c.t.d.def_ 19 (d := d_does_fit) rfl
  have g_does_fit : mg "does_fit" = some (.ref (He.fAd K ("does_fit", none))) := He.glo_ok X G (c.t.d.facts (f := .glo "does_fit") (List.mem_of_getElem? (i := 31) rfl))
  obtain ⟨fd_is_fitting, F_is_fitting⟩ := c.t.d.def_ 20 (d := d_is_fitting) rfl
  have g_is_fitting : mg "is_fitting" = some (.ref (He.fAd K ("is_fitting", none))) := He.glo_ok X G (c.t.d.facts (f := .glo "is_fitting") (List.mem_of_getElem? (i := 32) rfl))
  obtain ⟨fd_is_example, F_is_example⟩ := c.t.d.def_ 21 (d := d_is_example) rfl
  have g_is_example : mg "is_example" = some (.ref (He.fAd K ("is_example", none))) := He.glo_ok X G (c.t.d.facts (f := .glo "is_example") (List.mem_of_getElem? (i := 33) rfl))
  obtain ⟨fd_are_changes, F_are_changes⟩ := c.t.d.def_ 22 (d := d_are_changes) rfl
  have g_are_changes : mg "are_changes" = some (.ref (He.fAd K ("are_changes", none))) := He.glo_ok X G (c.t.d.facts (f := .glo "are_changes") (List.mem_of_getElem? (i := 35) rfl))
  obtain ⟨fd_changed_to, F_changed_to⟩ := c.t.d.def_ 23 (d := d_changed_to) rfl
  have g_changed_to : mg "changed_to" = some (.ref (He.fAd K ("changed_to", none))) := He.glo_ok X G (c.t.d.facts (f := .glo "changed_to") (List.mem_of_getElem? (i := 36) rfl))
  obtain ⟨fd_changed, F_changed⟩ := c.t.d.def_ 24 (d := d_changed) rfl
  have g_changed : mg "changed" = some (.ref (He.fAd K ("changed", none))) := He.glo_ok X G (c.t.d.facts (f := .glo "changed") (List.mem_of_getElem? (i := 37) rfl))
  obtain ⟨fd_fewest_changes, F_fewest_changes⟩ := c.t.d.def_ 25 (d := d_fewest_changes) rfl
  have g_fewest_changes : mg "fewest_changes" = some (.ref (He.fAd K ("fewest_changes", none))) := He.glo_ok X G (c.t.d.facts (f := .glo "fewest_changes") (List.mem_of_getElem? (i := 38) rfl))
  obtain ⟨fd__law_draw, F__law_draw⟩ := c.t.d.def_ 26 (d := d__law_draw) rfl
  have g__law_draw : mg "_law_draw" = some (.ref (He.fAd K ("_law_draw", none))) := He.glo_ok X G (c.t.d.facts (f := .glo "_law_draw") (List.mem_of_getElem? (i := 39) rfl))
  obtain ⟨fd__law_begun, F__law_begun⟩ := c.t.d.def_ 27 (d := d__law_begun) rfl
  have g__law_begun : mg "_law_begun" = some (.ref (He.fAd K ("_law_begun", none))) := He.glo_ok X G (c.t.d.facts (f := .glo "_law_begun") (List.mem_of_getElem? (i := 40) rfl))
  obtain ⟨fd__law_changes, F__law_changes⟩ := c.t.d.def_ 28 (d := d__law_changes) rfl
  have g__law_changes : mg "_law_changes" = some (.ref (He.fAd K ("_law_changes", none))) := He.glo_ok X G (c.t.d.facts (f := .glo "_law_changes") (List.mem_of_getElem? (i := 41) rfl))
  obtain ⟨fd__law_refused, F__law_refused⟩ := c.t.d.def_ 29 (d := d__law_refused) rfl
  have g__law_refused : mg "_law_refused" = some (.ref (He.fAd K ("_law_refused", none))) := He.glo_ok X G (c.t.d.facts (f := .glo "_law_refused") (List.mem_of_getElem? (i := 42) rfl))
  obtain ⟨fd__law_plans, F__law_plans⟩ := c.t.d.def_ 30 (d := d__law_plans) rfl
  have g__law_plans : mg "_law_plans" = some (.ref (He.fAd K ("_law_plans", none))) := He.glo_ok X G (c.t.d.facts (f := .glo "_law_plans") (List.mem_of_getElem? (i := 43) rfl))
  obtain ⟨fd_law, F_law⟩ := c.t.d.def_ 31 (d := d_law) rfl
  obtain ⟨fd_Desk___init__, F_Desk___init__⟩ := c.t.d.def_ 32 (d := d_Desk___init__) rfl
  obtain ⟨fd_Desk_check_pair, F_Desk_check_pair⟩ := c.t.d.def_ 33 (d := d_Desk_check_pair) rfl
  obtain ⟨fd_Desk_become, F_Desk_become⟩ := c.t.d.def_ 34 (d := d_Desk_become) rfl
  obtain ⟨fd_Desk_link, F_Desk_link⟩ := c.t.d.def_ 35 (d := d_Desk_link) rfl
  obtain ⟨fd_Desk_unlink, F_Desk_unlink⟩ := c.t.d.def_ 36 (d := d_Desk_unlink) rfl
  have e := hfa_.symm.trans (He.glo_ok X G (c.t.d.facts (f := .glo "law") (List.mem_of_getElem? (i := 44) rfl)))
  cases e
  have b := FunD.bindsA (ps := ["script"]) F_law fun _ _ _ _ _ _ us hl => match us, hl with | [_], _ => rfl
  obtain ⟨oc, od, dV, kV, doc, pm, an, cdv, ct, osl, hfd, lk, hcd, hD, hK⟩ := F_law.ex
  obtain ⟨cc, hcc⟩ := He.codeIn_ref hcd
  have hc : fd_law.code = .ref cc := by rw [hfd]; exact hcc
  have hce : He.codeOf K ("law", none) = cc := He.codeOf_eq (K := K) (p := ("law", none)) (fd := fd_law) (by first | exact lk | (rw [hfd]; exact lk)) hc
  refine ⟨fd_law, htf.map (He.cT K), spL K [] 5 s_law, fun p hp => ?_, fun p hp => ?_, fun p hp => ?_, fun s v => b s [v] rfl, fun H a ns hl hb hT hS => ?_, fun base KB GB TB => ?_⟩
  · obtain ⟨q, hq, rfl⟩ := List.mem_map.mp hp
    exact c.empty q hq
  · obtain ⟨q, hq, rfl⟩ := List.mem_map.mp hp
    exact c.out q hq
  · obtain ⟨q, hq, rfl⟩ := List.mem_map.mp hp
    exact PySem.W.codeHd_of_K X (c.hd q hq)
  · exact ⟨a, ns, rfl, hS, (fun p hp => nomatch hp), law_true ns hl hb, fun _ => rfl⟩
  · skip
    have c_is_between : CalD (PySem.Challenge.rw_refrows_k34_bounds_by_hand).prog w K mg base ([]) "is_between" ["value", "low", "high"] 1 m_is_between := w_is_between F_is_between g_is_between B
    have c_is_ascending : CalD (PySem.Challenge.rw_refrows_k34_bounds_by_hand).prog w K mg base ([]) "is_ascending" ["values"] 1 m_is_ascending := w_is_ascending F_is_ascending g_is_ascending B
    have c_is_rule : CalD (PySem.Challenge.rw_refrows_k34_bounds_by_hand).prog w K mg base ([]) "is_rule" ["value"] 1 m_is_rule := w_is_rule F_is_rule g_is_rule B
    have c_open_in : CalD (PySem.Challenge.rw_refrows_k34_bounds_by_hand).prog w K mg base ([]) "open_in" ["references", "gone", "emptied"] 1 m_open_in := w_open_in F_open_in g_open_in B
    have c_handled : CalD (PySem.Challenge.rw_refrows_k34_bounds_by_hand).prog w K mg base ([]) "handled" ["gone", "emptied", "reference"] 1 m_handled := w_handled F_handled g_handled B
    have c_is_among : CalD (PySem.Challenge.rw_refrows_k34_bounds_by_hand).prog w K mg base ([]) "is_among" ["reference", "some"] 1 m_is_among := w_is_among F_is_among g_is_among B
    have c_changed_to : CalD (PySem.Challenge.rw_refrows_k34_bounds_by_hand).prog w K mg base ([]) "changed_to" ["table", "changes"] 1 m_changed_to := w_changed_to F_changed_to g_changed_to B
    have c__law_draw : CalE (PySem.Challenge.rw_refrows_k34_bounds_by_hand).prog w K mg base ([]) "_law_draw" ["script", "town", "many"] 1 1 m__law_draw := w__law_draw F__law_draw g__law_draw B
    have c__law_begun : CalB (PySem.Challenge.rw_refrows_k34_bounds_by_hand).prog w K mg base "_law_begun" 1 := w__law_begun F__law_begun g__law_begun B
    have c_Desk_become : MetE (PySem.Challenge.rw_refrows_k34_bounds_by_hand).prog w K mg base ([]) "become" ["self", "operation", "there", "links"] 1 m_Desk_become := w_Desk_become F_Desk_become DC (He.meth_ok (c.t.d.facts (f := .meth "Desk" "become") (List.mem_of_getElem? (i := 79) rfl))) B
    have c_is_reference : CalD (PySem.Challenge.rw_refrows_k34_bounds_by_hand).prog w K mg base ([]) "is_reference" ["rows", "value"] 2 m_is_reference := w_is_reference F_is_reference g_is_reference B c_is_rule c_is_between
    have c_is_start : CalD (PySem.Challenge.rw_refrows_k34_bounds_by_hand).prog w K mg base ([]) "is_start" ["rows", "value"] 2 m_is_start := w_is_start F_is_start g_is_start B c_is_between c_is_ascending
    have c_end_of : CalD (PySem.Challenge.rw_refrows_k34_bounds_by_hand).prog w K mg base ([]) "end_of" ["references", "start", "run"] 2 m_end_of := w_end_of F_end_of g_end_of B c_is_among c_open_in c_handled
    have c_some_runs : CalD (PySem.Challenge.rw_refrows_k34_bounds_by_hand).prog w K mg base ([]) "some_runs" ["references", "start"] 2 m_some_runs := w_some_runs F_some_runs g_some_runs B c_open_in c_handled
    have c_is_column : CalD (PySem.Challenge.rw_refrows_k34_bounds_by_hand).prog w K mg base ([]) "is_column" ["tables", "value"] 2 m_is_column := w_is_column F_is_column g_is_column B c_is_rule c_is_between
    have c_are_changes : CalD (PySem.Challenge.rw_refrows_k34_bounds_by_hand).prog w K mg base ([]) "are_changes" ["table", "value"] 2 m_are_changes := w_are_changes F_are_changes g_are_changes B c_is_between c_is_rule c_is_ascending
    have c_Desk_check_pair : MetE (PySem.Challenge.rw_refrows_k34_bounds_by_hand).prog w K mg base ([]) "check_pair" ["self", "source", "target"] 2 m_Desk_check_pair := w_Desk_check_pair F_Desk_check_pair DC (He.meth_ok (c.t.d.facts (f := .meth "Desk" "check_pair") (List.mem_of_getElem? (i := 78) rfl))) B c_is_between
    have c_is_table : CalD (PySem.Challenge.rw_refrows_k34_bounds_by_hand).prog w K mg base ([]) "is_table" ["value"] 3 m_is_table := w_is_table F_is_table g_is_table B c_is_between c_is_reference c_is_ascending
    have c_verdict_of : CalD (PySem.Challenge.rw_refrows_k34_bounds_by_hand).prog w K mg base ([]) "verdict_of" ["references", "start"] 3 m_verdict_of := w_verdict_of F_verdict_of g_verdict_of B c_some_runs
    have c_is_plan : CalD (PySem.Challenge.rw_refrows_k34_bounds_by_hand).prog w K mg base ([]) "is_plan" ["value"] 3 m_is_plan := w_is_plan F_is_plan g_is_plan B c_is_between c_is_column c_is_ascending
    have c_Desk_link : MetE (PySem.Challenge.rw_refrows_k34_bounds_by_hand).prog w K mg base ([]) "link" ["self", "source", "target", "rule"] 3 m_Desk_link := w_Desk_link F_Desk_link DC (He.meth_ok (c.t.d.facts (f := .meth "Desk" "link") (List.mem_of_getElem? (i := 80) rfl))) B c_Desk_check_pair c_is_rule c_Desk_become
    have c_Desk_unlink : MetE (PySem.Challenge.rw_refrows_k34_bounds_by_hand).prog w K mg base ([]) "unlink" ["self", "source", "target"] 3 m_Desk_unlink := w_Desk_unlink F_Desk_unlink DC (He.meth_ok (c.t.d.facts (f := .meth "Desk" "unlink") (List.mem_of_getElem? (i := 81) rfl))) B c_Desk_check_pair c_Desk_become
    have c_check_table : CalD (PySem.Challenge.rw_refrows_k34_bounds_by_hand).prog w K mg base ([]) "check_table" ["table"] 4 m_check_table := w_check_table F_check_table g_check_table B c_is_table
    have c_check_plan : CalD (PySem.Challenge.rw_refrows_k34_bounds_by_hand).prog w K mg base ([]) "check_plan" ["plan"] 4 m_check_plan := w_check_plan F_check_plan g_check_plan B c_is_plan
    have c_does_fit : CalD (PySem.Challenge.rw_refrows_k34_bounds_by_hand).prog w K mg base ([]) "does_fit" ["plan", "homes", "value"] 4 m_does_fit := w_does_fit F_does_fit g_does_fit B c_is_table c_is_between
    have c_check_start : CalD (PySem.Challenge.rw_refrows_k34_bounds_by_hand).prog w K mg base ([]) "check_start" ["table", "start"] 5 m_check_start := w_check_start F_check_start g_check_start B c_check_table c_is_start
    have c_check_home : CalD (PySem.Challenge.rw_refrows_k34_bounds_by_hand).prog w K mg base ([]) "check_home" ["plan", "home"] 5 m_check_home := w_check_home F_check_home g_check_home B c_check_plan c_is_between
    have c_is_fitting : CalD (PySem.Challenge.rw_refrows_k34_bounds_by_hand).prog w K mg base ([]) "is_fitting" ["plan", "homes", "value"] 5 m_is_fitting := w_is_fitting F_is_fitting g_is_fitting B c_check_plan c_does_fit
    have c_changed : CalD (PySem.Challenge.rw_refrows_k34_bounds_by_hand).prog w K mg base ([]) "changed" ["table", "changes"] 5 m_changed := w_changed F_changed g_changed B c_check_table c_are_changes c_changed_to
    have c_Desk___init__ : MkI (PySem.Challenge.rw_refrows_k34_bounds_by_hand).prog w K mg base ([]) 5 m_Desk___init__ := w_Desk___init__ F_Desk___init__ DC (He.mkr_ok (c.t.d.facts (f := .mkr "Desk") (List.mem_of_getElem? (i := 72) rfl))) B c_check_table
    have c_is_run : CalD (PySem.Challenge.rw_refrows_k34_bounds_by_hand).prog w K mg base ([]) "is_run" ["table", "start", "value"] 6 m_is_run := w_is_run F_is_run g_is_run B c_check_start c_end_of
    have c_is_example : CalD (PySem.Challenge.rw_refrows_k34_bounds_by_hand).prog w K mg base ([]) "is_example" ["plan", "home", "value"] 6 m_is_example := w_is_example F_is_example g_is_example B c_check_home c_does_fit c_is_between c_verdict_of
    have c_fewest_changes : CalD (PySem.Challenge.rw_refrows_k34_bounds_by_hand).prog w K mg base ([]) "fewest_changes" ["table", "start"] 6 m_fewest_changes := w_fewest_changes F_fewest_changes g_fewest_changes B c_check_start c_verdict_of c_changed_to
    have c__law_changes : CalD (PySem.Challenge.rw_refrows_k34_bounds_by_hand).prog w K mg base ([]) "_law_changes" ["rest"] 7 m__law_changes := w__law_changes F__law_changes g__law_changes B c_fewest_changes c_changed
    have c__law_refused : CalD (PySem.Challenge.rw_refrows_k34_bounds_by_hand).prog w K mg base ([]) "_law_refused" ["rows", "other"] 7 m__law_refused := w__law_refused F__law_refused g__law_refused B c_Desk_link c_Desk___init__
    have c__law_plans : CalD (PySem.Challenge.rw_refrows_k34_bounds_by_hand).prog w K mg base ([]) "_law_plans" ["tables"] 7 m__law_plans := w__law_plans F__law_plans g__law_plans B c_is_plan c_is_fitting c_is_example
    exact w_law F_law hc B c__law_begun c__law_draw c_is_table c_is_run c__law_refused c_Desk___init__ c_Desk_link c_Desk_unlink c__law_changes c__law_plans
end Rf
open PySem PySem.W PySem.Calls PyProof.Rows
theorem PySem.Challenge.cw_refrows_k34_bounds_by_hand_holds : PySem.Challenge.rw_refrows_k34_bounds_by_hand.Holds := by
  w_on; o_law
  refine HandSHeadRun.head_any (r := OpenLaw.row PySem.Challenge.rw_refrows_k34_bounds_by_hand) (q := view (OpenLaw.row PySem.Challenge.rw_refrows_k34_bounds_by_hand).prog [53]) (H := Rf.hhk) (ob := Rf.hob) (M := 6000) (loose := Rf.hloose) (d := HandSHeadRun.topDef (OpenLaw.row PySem.Challenge.rw_refrows_k34_bounds_by_hand).prog 53) (kwd := []) Rf.hob_eq
    (by kernel_rfl) (fun s => by kernel_rfl) Rf.hrun (by kernel_rfl) (by kernel_rfl) (by kernel_rfl) (by rfl) (by first | assumption | decide +kernel) (by decide +kernel) ⟨rfl, rfl, rfl, rfl, rfl, by decide +kernel⟩ ?hw ?hc
  case hw => w_witness2
  case hc =>
    refine LamX.walk_ofTsE (l := PySem.Challenge.rw_refrows_k34_bounds_by_hand) (n := 63) (k := 8) (x := "script") (CX := fun w => L2.CX (PySem.Challenge.rw_refrows_k34_bounds_by_hand).prog w) rfl (by decide) (by kernel_rfl) ⟨rfl, by decide, by decide⟩ ?F ?G
    case F =>
      intro w mg fa h Y G hmg0
      obtain ⟨K, KX, c⟩ := Y
      have hmg : mg ("law" : PySem.Str) = some (.ref fa) := by
        have e : (HandSHeadRun.topDef (OpenLaw.row PySem.Challenge.rw_refrows_k34_bounds_by_hand).prog 53).name = ("law" : PySem.Str) := by kernel_rfl
        rw [← e]
        exact hmg0
      exact ⟨K, KX, Rf.hfacts KX G hmg c⟩
    case G =>
      intro w H s e s' z
      obtain ⟨_, _, _, _, _, _, _, _, _, _, _, _, _, _, _, _, z⟩ := z

