import PyProof.Rows.All
import HandS.Zip
import HandS.TupAny
import Wide.All
import OpenK.AllK
import Wide.FinOn
import HandS.ForMost
import HandS.ForExc
import HandS.ExcValue
import KE.KeyNested
import PyProof.DictRoadsH
import HandS.TupMul
import HandS.Wide
import HandS.Deep
import HandS.Conv
import HandS.IsInst
import KE.DataMinMax
import PyProof.Rows.TupReads
import HandS.ExcIs
import HandS.More
import PyProof.SeqIndex
import KE.SortData
import PyProof.Rows.SortShell
import HandS.Text
import PyProof.P3In
import HandS.SetFor
import KE.KRevSl
import PyProof.SliceList
import HandS.TryOnly
import HandS.Dict
import KE.KDictSum
import KE.KDictWalk
import KE.DataCmp
import KE.KDictPairs
import HandS.NoneIn
import HandS.TupSets
import PyProof.LongRange
import KE.KDictDisplayH
import PyProof.DictTable
import HandS.Ends
import PySem.Challenge.RW_swivelweb_k23_kinds_told
set_option Elab.async false
set_option linter.all false
set_option maxRecDepth 100000
set_option maxHeartbeats 4000000
/-! Sw0: tuples that are made here are known to have no dict. -/
namespace SW
open PySem PySem.Spec PyProof.Rows L2 RZ
def ItL (K : PySem.W.Frag) (a b : Addr) : It :=
  ⟨(Itz K a b).go, fun i H v H' => ∃ T x y o, v = .ref T ∧ o.dict = none ∧ H T = none ∧ H' = upd H T (.frz o (.tup [x, y])) ∧ (∀ xs, SqL K H a xs → xs[i]? = some x) ∧ ∀ ys, SqL K H b ys → ys[i]? = some y, (Itz K a b).stop⟩
def ItT (K : PySem.W.Frag) (a b : Addr) : It :=
  ⟨(ItzT K a b).go, fun i H v H' => ∃ T x y o, v = .ref T ∧ o.dict = none ∧ H T = none ∧ H' = upd H T (.frz o (.tup [x, y])) ∧ (∀ xs, SqT K H a xs → xs[i]? = some x) ∧ ∀ ys, SqT K H b ys → ys[i]? = some y, (ItzT K a b).stop⟩
theorem turn_pairsL {P : Program} {w : World} {K : PySem.W.Frag} {elts : List Expr} {kk : Nat} {tpos : Pos} {a b z TI TO i1 i2 : Addr} (D : ZipApart z TI TO i1 i2 a b) :
    Turn P w K (.Tuple elts kk tpos) (ItL K a b) [z, TI, TO, i1, i2] z (fun i h => IsZip h z TI TO .none ∧ IsPair h TI (.ref i1) (.ref i2) ∧ (∃ x y, IsPair h TO x y) ∧ h.IsListIter i1 a i ∧ h.IsListIter i2 b i) where
  mem := by simp
  obj := fun i h sta c cc0 => by
    obtain ⟨jz, jI, ⟨x, y, jO⟩, ⟨w1, a1, _, c1⟩, ⟨w2, a2, _, c2⟩⟩ := sta
    have ez : c = z ∨ c = TI ∨ c = TO ∨ c = i1 ∨ c = i2 := by simpa using cc0
    rcases ez with q | q | q | q | q
    · rw [q]; exact ⟨_, jz, fun v q => nomatch q⟩
    · rw [q]; exact ⟨_, jI, fun v q => nomatch q⟩
    · rw [q]; exact ⟨_, jO, fun v q => nomatch q⟩
    · rw [q]; exact ⟨w1, a1, fun v q => by rw [c1] at q; cases q⟩
    · rw [q]; exact ⟨w2, a2, fun v q => by rw [c2] at q; cases q⟩
  keep := fun i h h' sta k => by
    obtain ⟨jz, jI, ⟨x, y, jO⟩, g1, g2⟩ := sta
    exact ⟨k z (by simp) _ jz, k TI (by simp) _ jI, ⟨x, y, k TO (by simp) _ jO⟩, g1.at fun o q => k i1 (by simp) o q, g2.at fun o q => k i2 (by simp) o q⟩
  item := by
    intro X hP hw hK cc0 i pins s σ H E I ff0 sta gg0
    subst hP hw hK
    obtain ⟨jz, jI, ⟨m0, n0, jO⟩, g1, g2⟩ := sta
    obtain ⟨xs, ys, x, y, fx, fy, ex1, ey1⟩ := gg0
    obtain ⟨us1, vv1, p, _⟩ := I.list fx
    obtain ⟨us2, vv2, p2, _⟩ := I.list fy
    obtain ⟨u, gu, tu⟩ := vv1.get ex1
    obtain ⟨u2, gu2, tu2⟩ := vv2.get ey1
    have zl0 : z < s.heap.objs.size := Heap.lt_size jz
    refine wpAny_pyNext_zip_item D jz jI jO g1 g2 p.isList p2.isList (x := u) (y := u2) (by simpa using gu) (by simpa using gu2) fun h' zz1 TO1 g11 g22 oT sz0 kk0 => ?_
    refine ⟨_, rfl, wpAny_letOwnedTupleGo_zip (s := { s with heap := h' }) zz1 fun h'' zz2 sb => ?_⟩
    have oT2 : h''.get? s.heap.objs.size = some { cls := .type "tuple", data := .seq #[u, u2] } := (sb.2 _ (Nat.ne_of_gt zl0)).trans oT
    have fresh1 : ObjOk X.prog X.w (upd H s.heap.objs.size (.frz { cls := .type "tuple", data := .seq #[u, u2] } (.tup [x, y]))) h'' s.heap.objs.size (.frz { cls := .type "tuple", data := .seq #[u, u2] } (.tup [x, y])) :=
      ⟨oT2, by show 2 ≤ sizeLine; decide, [u, u2], .cons tu (.cons tu2 .nil), ⟨_, oT2, rfl, _, rfl⟩⟩
    have J1 : Inv X pins σ (upd H s.heap.objs.size (.frz { cls := .type "tuple", data := .seq #[u, u2] } (.tup [x, y]))) { s with heap := h'' } :=
      I.turnedNew (t' := s.toks) (ch := [z, TI, TO, i1, i2]) (fun c o hb q => (sb.2 c (fun qq => hb (by simp [qq]))).trans (kk0 c o (fun qq => hb (by simp [qq])) (fun qq => hb (by simp [qq])) (fun qq => hb (by simp [qq])) (fun qq => hb (by simp [qq])) q)) ff0 (Nat.le_refl _) fresh1
    refine ⟨.ref s.heap.objs.size, _, J1, rfl, ⟨_, x, y, _, rfl, rfl, I.hok.fresh (Nat.le_refl _), rfl, fun l hl => by rw [I.list_inj hl fx]; exact ex1, fun l hl => by rw [I.list_inj hl fy]; exact ey1⟩, ⟨zz2, ?_, ⟨u, u2, ?_⟩, ?_, ?_⟩, fun c mem1 => ?_⟩
    · exact (sb.2 _ D.TIz).trans (kk0 _ _ D.TIz D.TITO D.TIi1 D.TIi2 jI)
    · exact (sb.2 _ D.TOz).trans TO1
    · exact g11.at fun o q => (sb.2 _ D.i1z).trans q
    · exact g22.at fun o q => (sb.2 _ D.i2z).trans q
    · have lt0 : c < s.heap.objs.size := by
        have ez : c = z ∨ c = TI ∨ c = TO ∨ c = i1 ∨ c = i2 := by simpa using mem1
        rcases ez with q | q | q | q | q
        · rw [q]; exact zl0
        · rw [q]; exact Heap.lt_size jI
        · rw [q]; exact Heap.lt_size jO
        · rw [q]; obtain ⟨_, a1, _⟩ := g1; exact Heap.lt_size a1
        · rw [q]; obtain ⟨_, a2, _⟩ := g2; exact Heap.lt_size a2
      rw [upd_ne (Nat.ne_of_lt lt0)]
      exact (ff0 c mem1).1
  done := by
    intro X hP hw hK cc0 i pins s σ H E I ff0 sta gg0
    subst hP hw hK
    obtain ⟨jz, jI, ⟨m0, n0, jO⟩, g1, g2⟩ := sta
    obtain ⟨xs, ys, fx, fy, end0⟩ := gg0
    obtain ⟨us1, vv1, p, _⟩ := I.list fx
    obtain ⟨us2, vv2, p2, _⟩ := I.list fy
    have n1 := vv1.length
    have n2 := vv2.length
    have ee0 : us1.toArray[i]? = none ∨ us2.toArray[i]? = none := by
      rcases end0 with q | q
      · exact .inl (by simp; omega)
      · exact .inr (by simp; omega)
    exact wpAny_pyNext_zip_end (I.ok.hd cc0) D jz jI jO g1 g2 p.isList p2.isList ee0 fun h' kk0 => ⟨rfl, I.turnedL (t' := s.toks) (ch := [z, TI, TO, i1, i2]) (fun c o hb q =>
      kk0 c o (fun qq => hb (by simp [qq])) (fun qq => hb (by simp [qq])) (fun qq => hb (by simp [qq])) (fun qq => hb (by simp [qq])) q) ff0⟩
  self := fun A i s Q E sta h => wpAny_pyIter_zip sta.1 h
theorem turn_pairsT {P : Program} {w : World} {K : PySem.W.Frag} {elts : List Expr} {kk : Nat} {tpos : Pos} {a b z TI TO i1 i2 : Addr} (D : ZipApart z TI TO i1 i2 a b) :
    Turn P w K (.Tuple elts kk tpos) (ItT K a b) [z, TI, TO, i1, i2] z (fun i h => IsZip h z TI TO .none ∧ IsPair h TI (.ref i1) (.ref i2) ∧ (∃ x y, IsPair h TO x y) ∧ h.IsTupleIter i1 a i ∧ h.IsTupleIter i2 b i) where
  mem := by simp
  obj := fun i h sta c cc0 => by
    obtain ⟨jz, jI, ⟨x, y, jO⟩, ⟨w1, a1, _, c1⟩, ⟨w2, a2, _, c2⟩⟩ := sta
    have ez : c = z ∨ c = TI ∨ c = TO ∨ c = i1 ∨ c = i2 := by simpa using cc0
    rcases ez with q | q | q | q | q
    · rw [q]; exact ⟨_, jz, fun v q => nomatch q⟩
    · rw [q]; exact ⟨_, jI, fun v q => nomatch q⟩
    · rw [q]; exact ⟨_, jO, fun v q => nomatch q⟩
    · rw [q]; exact ⟨w1, a1, fun v q => by rw [c1] at q; cases q⟩
    · rw [q]; exact ⟨w2, a2, fun v q => by rw [c2] at q; cases q⟩
  keep := fun i h h' sta k => by
    obtain ⟨jz, jI, ⟨x, y, jO⟩, g1, g2⟩ := sta
    exact ⟨k z (by simp) _ jz, k TI (by simp) _ jI, ⟨x, y, k TO (by simp) _ jO⟩, g1.at fun o q => k i1 (by simp) o q, g2.at fun o q => k i2 (by simp) o q⟩
  item := by
    intro X hP hw hK cc0 i pins s σ H E I ff0 sta gg0
    subst hP hw hK
    obtain ⟨jz, jI, ⟨m0, n0, jO⟩, g1, g2⟩ := sta
    obtain ⟨xs, ys, x, y, fx, fy, ex1, ey1⟩ := gg0
    obtain ⟨us1, vv1, p, _⟩ := I.tuple fx
    obtain ⟨us2, vv2, p2, _⟩ := I.tuple fy
    obtain ⟨u, gu, tu⟩ := vv1.get ex1
    obtain ⟨u2, gu2, tu2⟩ := vv2.get ey1
    have zl0 : z < s.heap.objs.size := Heap.lt_size jz
    refine pyNext_zipT_item D jz jI jO g1 g2 p p2 (x := u) (y := u2) (by simpa using gu) (by simpa using gu2) fun h' zz1 TO1 g11 g22 oT sz0 kk0 => ?_
    refine ⟨_, rfl, wpAny_letOwnedTupleGo_zip (s := { s with heap := h' }) zz1 fun h'' zz2 sb => ?_⟩
    have oT2 : h''.get? s.heap.objs.size = some { cls := .type "tuple", data := .seq #[u, u2] } := (sb.2 _ (Nat.ne_of_gt zl0)).trans oT
    have fresh1 : ObjOk X.prog X.w (upd H s.heap.objs.size (.frz { cls := .type "tuple", data := .seq #[u, u2] } (.tup [x, y]))) h'' s.heap.objs.size (.frz { cls := .type "tuple", data := .seq #[u, u2] } (.tup [x, y])) :=
      ⟨oT2, by show 2 ≤ sizeLine; decide, [u, u2], .cons tu (.cons tu2 .nil), ⟨_, oT2, rfl, _, rfl⟩⟩
    have J1 : Inv X pins σ (upd H s.heap.objs.size (.frz { cls := .type "tuple", data := .seq #[u, u2] } (.tup [x, y]))) { s with heap := h'' } :=
      I.turnedNew (t' := s.toks) (ch := [z, TI, TO, i1, i2]) (fun c o hb q => (sb.2 c (fun qq => hb (by simp [qq]))).trans (kk0 c o (fun qq => hb (by simp [qq])) (fun qq => hb (by simp [qq])) (fun qq => hb (by simp [qq])) (fun qq => hb (by simp [qq])) q)) ff0 (Nat.le_refl _) fresh1
    refine ⟨.ref s.heap.objs.size, _, J1, rfl, ⟨_, x, y, _, rfl, rfl, I.hok.fresh (Nat.le_refl _), rfl, fun l hl => by rw [I.tuple_inj hl fx]; exact ex1, fun l hl => by rw [I.tuple_inj hl fy]; exact ey1⟩, ⟨zz2, ?_, ⟨u, u2, ?_⟩, ?_, ?_⟩, fun c mem1 => ?_⟩
    · exact (sb.2 _ D.TIz).trans (kk0 _ _ D.TIz D.TITO D.TIi1 D.TIi2 jI)
    · exact (sb.2 _ D.TOz).trans TO1
    · exact g11.at fun o q => (sb.2 _ D.i1z).trans q
    · exact g22.at fun o q => (sb.2 _ D.i2z).trans q
    · have lt0 : c < s.heap.objs.size := by
        have ez : c = z ∨ c = TI ∨ c = TO ∨ c = i1 ∨ c = i2 := by simpa using mem1
        rcases ez with q | q | q | q | q
        · rw [q]; exact zl0
        · rw [q]; exact Heap.lt_size jI
        · rw [q]; exact Heap.lt_size jO
        · rw [q]; obtain ⟨_, a1, _⟩ := g1; exact Heap.lt_size a1
        · rw [q]; obtain ⟨_, a2, _⟩ := g2; exact Heap.lt_size a2
      rw [upd_ne (Nat.ne_of_lt lt0)]
      exact (ff0 c mem1).1
  done := by
    intro X hP hw hK cc0 i pins s σ H E I ff0 sta gg0
    subst hP hw hK
    obtain ⟨jz, jI, ⟨m0, n0, jO⟩, g1, g2⟩ := sta
    obtain ⟨xs, ys, fx, fy, end0⟩ := gg0
    obtain ⟨us1, vv1, p, _⟩ := I.tuple fx
    obtain ⟨us2, vv2, p2, _⟩ := I.tuple fy
    have n1 := vv1.length
    have n2 := vv2.length
    have ee0 : us1.toArray[i]? = none ∨ us2.toArray[i]? = none := by
      rcases end0 with q | q
      · exact .inl (by simp; omega)
      · exact .inr (by simp; omega)
    exact pyNext_zipT_end (I.ok.hd cc0) D jz jI jO g1 g2 p p2 ee0 fun h' kk0 => ⟨rfl, I.turnedL (t' := s.toks) (ch := [z, TI, TO, i1, i2]) (fun c o hb q =>
      kk0 c o (fun qq => hb (by simp [qq])) (fun qq => hb (by simp [qq])) (fun qq => hb (by simp [qq])) (fun qq => hb (by simp [qq])) q) ff0⟩
  self := fun A i s Q E sta h => wpAny_pyIter_zip sta.1 h


def iPairs (K : PySem.W.Frag) (ta : TA) : TI := fun σ H R => ta σ H fun vs H1 => ∃ a b xs ys, vs = [.ref a, .ref b] ∧ ((SqL K H1 a xs ∧ SqL K H1 b ys ∧ R (ItL K a b) H1) ∨ (SqT K H1 a xs ∧ SqT K H1 b ys ∧ R (ItT K a b) H1))
theorem pi_pairs {X : Cx} {e a2 : Expr} {ta : TA} {p pos tpos : Pos} {elts : List Expr} {kk : Nat} (gg0 : Gl X "zip") (hm : X.mg "zip" = none) (ha : PA X [e, a2] ta)
    (hs : starEach [e, a2] X.env = (false, eval e X.env) :: starEach [a2] X.env := by rfl) (hpl : (backTo pos (starEach [a2] X.env)).any (·.1) = false := by rfl) :
    PI X (.Tuple elts kk tpos) (.Call (.Name "zip" p) [e, a2] [] pos) (iPairs X.K ta) := by
  refine ⟨fun pins s σ H R I h => ?_⟩
  refine Call_ (ld_blt I gg0 hm PyProof.Rows.boot_zip (PyProof.Rows.callWith_type1 (thn (ha.run pos pins s σ H _ I h) fun us s1 ⟨vs, H1, J1, r1, q1⟩ => ?_) hs hpl))
  obtain ⟨a, b, xs, ys, ex, q1⟩ := q1
  subst ex
  cases r1 with
  | cons r rr =>
    cases rr with
    | cons r' rr =>
      cases rr
      cases r
      cases r'
      have five5 : ∀ c, c ∈ [s1.heap.objs.size + 4, s1.heap.objs.size + 2, s1.heap.objs.size + 3, s1.heap.objs.size, s1.heap.objs.size + 1] → FpOk X pins H1 c := fun c mem1 => by
        have ez : c = s1.heap.objs.size + 4 ∨ c = s1.heap.objs.size + 2 ∨ c = s1.heap.objs.size + 3 ∨ c = s1.heap.objs.size ∨ c = s1.heap.objs.size + 1 := by simpa using mem1
        have le0 : s1.heap.objs.size ≤ c := by
          rcases ez with z | z | z | z | z
          · rw [z]; exact Nat.le_add_right _ _
          · rw [z]; exact Nat.le_add_right _ _
          · rw [z]; exact Nat.le_add_right _ _
          · rw [z]; exact Nat.le_refl _
          · rw [z]; exact Nat.le_add_right _ _
        exact J1.fpOk le0 (J1.hok.fresh le0)
      rcases q1 with ⟨fx, fy, q⟩ | ⟨fx, fy, q⟩
      · obtain ⟨us1, vv1, p1, _⟩ := J1.list fx
        obtain ⟨us2, vv2, p2, _⟩ := J1.list fy
        refine call_zip_2 p1.isList p2.isList fun h' jz jI jO g1 g2 sz0 kk0 => wpAny_pyIter_zip jz ?_
        have J2 : Inv X pins σ H1 { s1 with heap := h' } := J1.kept (t' := s1.toks) kk0
        exact ⟨s1.heap.objs.size + 4, [s1.heap.objs.size + 4, s1.heap.objs.size + 2, s1.heap.objs.size + 3, s1.heap.objs.size, s1.heap.objs.size + 1], _, _, H1, rfl, J2, turn_pairsL (PySem.W.ktu_apart s1.heap.objs.size a b p1.lt p2.lt), ⟨jz, jI, ⟨_, _, jO⟩, g1, g2⟩, five5, q⟩
      · obtain ⟨us1, vv1, p1, _⟩ := J1.tuple fx
        obtain ⟨us2, vv2, p2, _⟩ := J1.tuple fy
        obtain ⟨w1, jo1, _⟩ := id p1
        obtain ⟨w2, jo2, _⟩ := id p2
        refine call_zipT (show s1.heap.IsTuple a us1.toArray from p1) (show s1.heap.IsTuple b us2.toArray from p2) fun h' jz jI jO g1 g2 sz0 kk0 => wpAny_pyIter_zip jz ?_
        have J2 : Inv X pins σ H1 { s1 with heap := h' } := J1.kept (t' := s1.toks) kk0
        exact ⟨s1.heap.objs.size + 4, [s1.heap.objs.size + 4, s1.heap.objs.size + 2, s1.heap.objs.size + 3, s1.heap.objs.size, s1.heap.objs.size + 1], _, _, H1, rfl, J2, turn_pairsT (PySem.W.ktu_apart s1.heap.objs.size a b (Heap.lt_size jo1) (Heap.lt_size jo2)), ⟨jz, jI, ⟨_, _, jO⟩, g1, g2⟩, five5, q⟩



/-! ### the other makers -/
section
variable {X : Cx}
/-- what a maker promises of a new tuple -/
def NewT (vs : List V) (H : Hp) (Q : VK) : Prop := ∀ p o, H p = none → o.dict = none → Q (.ref p) (upd H p (.frz o (.tup vs)))
theorem laid_tup {pins : List (Addr × Obj)} {σ : L2.St} {H : Hp} {s : Shared} {vs : List V} {us : List Value} {Q : VK} {n : Nat} (J : Inv X pins σ H s) (r : Vals vs us) (hn : vs.length ≤ sizeLine) (q : NewT vs H Q) :
    EP X pins σ Q (.ref s.heap.objs.size) { s with heap := s.heap.push { cls := .type "tuple", data := .seq us.toArray n } } := by
  have g : (s.heap.push { cls := .type "tuple", data := .seq us.toArray n }).get? s.heap.objs.size = some { cls := .type "tuple", data := .seq us.toArray n } := Heap.get?_push_size _ rfl
  exact ⟨V.ref s.heap.objs.size, _, J.laid (t' := s.toks) (o := .frz { cls := .type "tuple", data := .seq us.toArray n } (.tup vs)) (fun c u e => Heap.get?_push_of_some _ e) (Nat.le_refl _) ⟨g, hn, us, r, ⟨_, g, rfl, _, rfl⟩⟩, rfl, q _ _ (J.hok.fresh (Nat.le_refl _)) rfl⟩
def tTupN (t : TA) : TE := fun σ H Q => t σ H fun xs H1 => xs.length ≤ sizeLine ∧ NewT xs H1 Q
theorem pe_tupN {es : List Expr} {t : TA} {pos : Pos} {k : Nat} (h : PA X es t) : PE X (.Tuple es k pos) (tTupN t) := by
  refine ⟨fun pins s σ H Q I hq => wpAny_Tuple_spliced (thn (h.run pos pins s σ H _ I hq) fun us s1 ⟨xs, H1, J, r, z, q⟩ => ⟨by rw [← r.length]; exact z, ?_⟩)⟩
  exact laid_tup J r z q
/-- t + u -/
def rCatN (K : PySem.W.Frag) : R2 := fun x y H Q => ∃ a b xs ys, x = .ref a ∧ y = .ref b ∧ SqT K H a xs ∧ SqT K H b ys ∧ xs.length + ys.length ≤ sizeLine ∧ (xs = [] → Q (.ref b) H) ∧ (ys = [] → Q (.ref a) H) ∧ NewT (xs ++ ys) H Q
theorem op_catN : OpR X (binaryOp .Add) (rCatN X.K) := by
  intro pins s σ H x y v u Q I rx ry h
  obtain ⟨a, b, xs, ys, rfl, rfl, ta, tb, hn, k0, k1, k2⟩ := h
  cases rx
  cases ry
  obtain ⟨us, ra, ma, _⟩ := I.tuple ta
  obtain ⟨ws, rb, mb, _⟩ := I.tuple tb
  cases xs with
  | nil =>
    cases ra
    exact cat_tup0 ma mb ⟨V.ref b, H, I, rfl, k0 rfl⟩
  | cons c xs =>
    refine HT.cat_tup ma mb (fun z => ?_) (fun z => ⟨V.ref a, H, I, rfl, k1 (rb.nil_iff.mp z)⟩) (fun _ => ?_) (by rw [← ra.length, ← rb.length]; exact hn)
    · cases ra.nil_iff.mp z
    · exact laid_tup I (ra.append rb) (by rw [List.length_append]; exact hn) k2
/-- t[lo:hi] -/
def rSlN (K : PySem.W.Frag) : V → Option Int → Option Int → Hp → VK → Prop := fun x lo hi H Q => ∃ a xs, x = .ref a ∧ SqT K H a xs ∧
  (HT.sIx xs.length 0 lo = 0 ∧ HT.sIx xs.length xs.length hi = xs.length → Q (.ref a) H) ∧ (¬ (HT.sIx xs.length 0 lo = 0 ∧ HT.sIx xs.length xs.length hi = xs.length) → NewT (cutV xs lo hi) H Q)
theorem sl_tupN : SlR X (rSlN X.K) := by
  intro pins s σ H x v vl vu lo hi sl Q I rx hs pl pu h
  obtain ⟨a, xs, rfl, ta, k1, k2⟩ := h
  cases rx
  obtain ⟨us, ra, ma, hn⟩ := I.tuple ta
  have hu : us.toArray.size = xs.length := by rw [List.size_toArray]; exact ra.length.symm
  refine ⟨"tuple", _, PyProof.Rows.slot_tuple_getitem.lookup, ma.typeIs, ?_⟩
  by_cases w : HT.sIx xs.length 0 lo = 0 ∧ HT.sIx xs.length xs.length hi = xs.length
  · exact getItem_tuple_whole ma hs pl pu (by rw [hu]; exact w) ⟨V.ref a, H, I, rfl, k1 w⟩
  · refine HT.getItem_tuple_cut ma hs pl pu (by rw [hu]; exact w) ?_ (by rw [hu]; exact hn)
    rw [hu]
    exact laid_tup I ((ra.drop (HT.sIx xs.length 0 lo)).take (HT.sIx xs.length xs.length hi - HT.sIx xs.length 0 lo)) (Nat.le_trans (cutV_length xs lo hi) hn) (k2 w)
/-- tuple(xs) -/
theorem call_tupleN : CallR X (.type "tuple") (fun xs H Q => ∃ p ys, xs = [.ref p] ∧ ((SqL X.K H p ys ∧ NewT ys H Q) ∨ (SqT X.K H p ys ∧ Q (.ref p) H))) := by
  intro pins s σ H xs us Q I r h
  obtain ⟨p, ys, rfl, h⟩ := h
  obtain ⟨u, rfl, rx⟩ := vals1 r
  cases rx
  rcases h with ⟨tl, q⟩ | ⟨tt, q⟩
  · obtain ⟨ws, rw1, ml, hn⟩ := I.list tl
    have lw := rw1.length
    refine call_tuple_list ml.isList (fun h' kp => ?_) (by simp only [List.size_toArray] <;> omega)
    exact laid_tup (s := { s with heap := h' }) (I.kept (t' := s.toks) kp) rw1 hn q
  · obtain ⟨ws, _, mt, _⟩ := I.tuple tt
    exact call_tuple_same mt ⟨V.ref p, H, I, rfl, q⟩
end
end SW

set_option Elab.async false
set_option linter.all false
set_option maxRecDepth 100000
set_option maxHeartbeats 4000000
/-! Sw1: data without a heap (D, C), slots of data (Env), results (R); how they lie in the abstract heap (Rz, RC, Fr). -/
namespace SW
open PySem PySem.Spec PyProof.Rows L2

/-- immutable data -/
inductive D where
  | non | bl (b : Bool) | int (i : Int) | str (x : Str) | ty (n : String) | cls (n : String) | exc (n : String)
  | tup (xs : List D) | lst (xs : List D)
/-- what a slot may hold: data, or a list / a list of lists / a dict of one's own -/
inductive C where
  | v (d : D) | l (xs : List D) | ll (xs : List (List D)) | dc (kvs : List (D × D))
abbrev Env := List (Option C)
inductive R (α : Type) where
  | ok (a : α) (ρ : Env) | exn (n : String) (ρ : Env) | stuck
def R.bind {α β : Type} (r : R α) (f : α → Env → R β) : R β := match r with
  | .ok a ρ => f a ρ
  | .exn n ρ => .exn n ρ
  | .stuck => .stuck
theorem R.bind_ok {α β : Type} (a : α) (ρ : Env) (f : α → Env → R β) : R.bind (.ok a ρ) f = f a ρ := rfl
theorem R.bind_exn {α β : Type} (n : String) (ρ : Env) (f : α → Env → R β) : R.bind (.exn n ρ) f = .exn n ρ := rfl
theorem R.bind_stuck {α β : Type} (f : α → Env → R β) : R.bind (.stuck : R α) f = .stuck := rfl
inductive Fl where
  | nx | rt (c : C)

/-- an object that never changes -/
def StO : HO → Prop
  | .tup _ => True
  | .frz _ _ => True
  | _ => False
def Sb (H H' : Hp) : Prop := ∀ a o, H a = some o → StO o → H' a = some o
theorem Sb.refl (H : Hp) : Sb H H := fun _ _ h _ => h
theorem Sb.trans {H H1 H2 : Hp} (a : Sb H H1) (b : Sb H1 H2) : Sb H H2 := fun c o h s => b c o (a c o h s) s
theorem Sb.same {H H' : Hp} (e : Same H H') : Sb H H' := fun c o h _ => e c o h
/-- a list that never changes -/
def SqF (K : PySem.W.Frag) (H : Hp) (a : Addr) (xs : List V) : Prop :=
  (∃ o, H a = some (.frz o (.lst xs))) ∨
    ∃ (o : Obj) (its : Array Value) (n : Nat), K.lookup a = some o ∧ o.cls = .type "list" ∧ o.dict = none ∧ o.data = .seq its n ∧ its.size ≤ sizeLine ∧ Vals xs its.toList
theorem SqF.sql {K : PySem.W.Frag} {H : Hp} {a : Addr} {xs : List V} (h : SqF K H a xs) : SqL K H a xs := by
  rcases h with h | h
  · exact .inl (.inr h)
  · exact .inr h
theorem SqF.st {K : PySem.W.Frag} {H H' : Hp} {a : Addr} {xs : List V} (s : Sb H H') (h : SqF K H a xs) : SqF K H' a xs := by
  rcases h with ⟨o, h⟩ | h
  · exact .inl ⟨o, s _ _ h trivial⟩
  · exact .inr h
/-- a tuple that has no dict -/
def SqD (H : Hp) (a : Addr) (xs : List V) : Prop := ∃ o, H a = some (.frz o (.tup xs)) ∧ o.dict = none
theorem SqD.sqt {K : PySem.W.Frag} {H : Hp} {a : Addr} {xs : List V} (h : SqD H a xs) : SqT K H a xs := by
  obtain ⟨o, e, _⟩ := h
  exact .inl (.inr ⟨o, e⟩)
theorem SqD.st {H H' : Hp} {a : Addr} {xs : List V} (s : Sb H H') (h : SqD H a xs) : SqD H' a xs := by
  obtain ⟨o, e, d⟩ := h
  exact ⟨o, s _ _ e trivial, d⟩
theorem SqT_st {K : PySem.W.Frag} {H H' : Hp} {a : Addr} {xs : List V} (s : Sb H H') (h : SqT K H a xs) : SqT K H' a xs := by
  rcases h with (h | ⟨o, h⟩) | h
  · exact .inl (.inl (s _ _ h trivial))
  · exact .inl (.inr ⟨o, s _ _ h trivial⟩)
  · exact .inr h

mutual
/-- a value stands for data -/
def Rz (K : PySem.W.Frag) (κ : String → Addr) (H : Hp) : D → V → Prop
  | .non, v => v = .non
  | .bl b, v => v = .bl b
  | .int i, v => v = .int i
  | .str x, v => v = .str x
  | .ty n, v => v = .ty n
  | .cls n, v => v = .ref (κ n)
  | .exc n, v => ∃ a oe vs, v = .ref a ∧ H a = some (.frz oe (.own a)) ∧ Zc (.ref (κ n)) none oe ∧ oe.data = .fields vs
  | .tup ds, v => ∃ a vs, v = .ref a ∧ SqD H a vs ∧ Rzs K κ H ds vs
  | .lst ds, v => ∃ a vs, v = .ref a ∧ SqF K H a vs ∧ Rzs K κ H ds vs
def Rzs (K : PySem.W.Frag) (κ : String → Addr) (H : Hp) : List D → List V → Prop
  | [], vs => vs = []
  | d :: ds, vs => ∃ v r, vs = v :: r ∧ Rz K κ H d v ∧ Rzs K κ H ds r
end
section
variable {K : PySem.W.Frag} {κ : String → Addr} {H H' : Hp}
mutual
theorem Rz.st (s : Sb H H') : ∀ (d : D) (v : V), Rz K κ H d v → Rz K κ H' d v
  | .non, _, h => by unfold Rz at *; exact h
  | .bl _, _, h => by unfold Rz at *; exact h
  | .int _, _, h => by unfold Rz at *; exact h
  | .str _, _, h => by unfold Rz at *; exact h
  | .ty _, _, h => by unfold Rz at *; exact h
  | .cls _, _, h => by unfold Rz at *; exact h
  | .exc n, _, h => by
    unfold Rz at *
    obtain ⟨a, oe, vs, e, h, q⟩ := h
    exact ⟨a, oe, vs, e, s _ _ h trivial, q⟩
  | .tup ds, _, h => by
    unfold Rz at *
    obtain ⟨a, vs, e, h, q⟩ := h
    exact ⟨a, vs, e, h.st s, Rzs.st s ds vs q⟩
  | .lst ds, _, h => by
    unfold Rz at *
    obtain ⟨a, vs, e, h, q⟩ := h
    exact ⟨a, vs, e, h.st s, Rzs.st s ds vs q⟩
theorem Rzs.st (s : Sb H H') : ∀ (ds : List D) (vs : List V), Rzs K κ H ds vs → Rzs K κ H' ds vs
  | [], _, h => by unfold Rzs at *; exact h
  | d :: ds, _, h => by
    unfold Rzs at *
    obtain ⟨v, r, e, h1, h2⟩ := h
    exact ⟨v, r, e, Rz.st s d v h1, Rzs.st s ds r h2⟩
end
theorem Rzs.nil : Rzs K κ H [] [] := by unfold Rzs; rfl
theorem Rzs.cons {d : D} {ds : List D} {v : V} {vs : List V} (h : Rz K κ H d v) (t : Rzs K κ H ds vs) : Rzs K κ H (d :: ds) (v :: vs) := by
  unfold Rzs; exact ⟨v, vs, rfl, h, t⟩
theorem Rzs.length : ∀ {ds : List D} {vs : List V}, Rzs K κ H ds vs → ds.length = vs.length
  | [], _, h => by unfold Rzs at h; subst h; rfl
  | d :: ds, _, h => by
    unfold Rzs at h
    obtain ⟨v, r, rfl, _, q⟩ := h
    simp [Rzs.length q]
theorem Rzs.get : ∀ {ds : List D} {vs : List V} {i : Nat} {d : D}, Rzs K κ H ds vs → ds[i]? = some d → ∃ v, vs[i]? = some v ∧ Rz K κ H d v
  | [], _, _, _, _, e => by simp at e
  | d :: ds, _, 0, _, h, e => by
    unfold Rzs at h
    obtain ⟨v, r, rfl, h1, _⟩ := h
    simp at e; subst e
    exact ⟨v, rfl, h1⟩
  | d :: ds, _, i + 1, _, h, e => by
    unfold Rzs at h
    obtain ⟨v, r, rfl, _, q⟩ := h
    obtain ⟨u, e1, e2⟩ := Rzs.get (i := i) q (by simpa using e)
    exact ⟨u, by simpa using e1, e2⟩
theorem Rzs.append : ∀ {ds es : List D} {vs us : List V}, Rzs K κ H ds vs → Rzs K κ H es us → Rzs K κ H (ds ++ es) (vs ++ us)
  | [], _, _, _, h, q => by unfold Rzs at h; subst h; exact q
  | d :: ds, _, _, _, h, q => by
    unfold Rzs at h
    obtain ⟨v, r, rfl, h1, h2⟩ := h
    exact Rzs.cons h1 (Rzs.append h2 q)
theorem Rzs.take : ∀ {ds : List D} {vs : List V} (n : Nat), Rzs K κ H ds vs → Rzs K κ H (ds.take n) (vs.take n)
  | _, _, 0, _ => Rzs.nil
  | [], _, n + 1, h => by unfold Rzs at h; subst h; exact Rzs.nil
  | d :: ds, _, n + 1, h => by
    unfold Rzs at h
    obtain ⟨v, r, rfl, h1, h2⟩ := h
    exact Rzs.cons h1 (Rzs.take n h2)
theorem Rzs.drop : ∀ {ds : List D} {vs : List V} (n : Nat), Rzs K κ H ds vs → Rzs K κ H (ds.drop n) (vs.drop n)
  | _, _, 0, h => h
  | [], _, n + 1, h => by unfold Rzs at h; subst h; exact Rzs.nil
  | d :: ds, _, n + 1, h => by
    unfold Rzs at h
    obtain ⟨v, r, rfl, h1, h2⟩ := h
    exact Rzs.drop n h2
theorem Rzs.set {d : D} {v : V} (h : Rz K κ H d v) : ∀ {ds : List D} {vs : List V} (n : Nat), Rzs K κ H ds vs → Rzs K κ H (ds.set n d) (vs.set n v)
  | [], _, _, q => by unfold Rzs at q; subst q; exact Rzs.nil
  | e :: ds, _, 0, q => by
    unfold Rzs at q
    obtain ⟨u, r, rfl, _, h2⟩ := q
    exact Rzs.cons h h2
  | e :: ds, _, n + 1, q => by
    unfold Rzs at q
    obtain ⟨u, r, rfl, h1, h2⟩ := q
    exact Rzs.cons h1 (Rzs.set h n h2)
theorem Rzs.eraseIdx : ∀ {ds : List D} {vs : List V} (n : Nat), Rzs K κ H ds vs → Rzs K κ H (ds.eraseIdx n) (vs.eraseIdx n)
  | [], _, _, q => by unfold Rzs at q; subst q; exact Rzs.nil
  | e :: ds, _, 0, q => by
    unfold Rzs at q
    obtain ⟨u, r, rfl, _, h2⟩ := q
    exact h2
  | e :: ds, _, n + 1, q => by
    unfold Rzs at q
    obtain ⟨u, r, rfl, h1, h2⟩ := q
    exact Rzs.cons h1 (Rzs.eraseIdx n h2)
theorem Rzs.reverse : ∀ {ds : List D} {vs : List V}, Rzs K κ H ds vs → Rzs K κ H ds.reverse vs.reverse
  | [], _, q => by unfold Rzs at q; subst q; exact Rzs.nil
  | e :: ds, _, q => by
    unfold Rzs at q
    obtain ⟨u, r, rfl, h1, h2⟩ := q
    rw [List.reverse_cons, List.reverse_cons]
    exact (Rzs.reverse h2).append (Rzs.cons h1 Rzs.nil)
theorem Rzs.ints : ∀ {ns : List Int} {vs : List V}, Rzs K κ H (ns.map D.int) vs → vs = ns.map V.int
  | [], _, h => by unfold Rzs at h; exact h
  | n :: ns, _, h => by
    rw [List.map_cons] at h
    unfold Rzs at h
    obtain ⟨v, r, rfl, h1, h2⟩ := h
    unfold Rz at h1
    rw [h1, Rzs.ints h2]; rfl
theorem Rzs.of_ints : ∀ (ns : List Int), Rzs K κ H (ns.map D.int) (ns.map V.int)
  | [] => Rzs.nil
  | n :: ns => Rzs.cons (by unfold Rz; rfl) (Rzs.of_ints ns)
theorem Rzs.bls : ∀ {ns : List Bool} {vs : List V}, Rzs K κ H (ns.map D.bl) vs → vs = ns.map V.bl
  | [], _, h => by unfold Rzs at h; exact h
  | n :: ns, _, h => by
    rw [List.map_cons] at h
    unfold Rzs at h
    obtain ⟨v, r, rfl, h1, h2⟩ := h
    unfold Rz at h1
    rw [h1, Rzs.bls h2]; rfl
theorem Rzs.strs' : ∀ {ns : List Str} {vs : List V}, Rzs K κ H (ns.map D.str) vs → vs = ns.map V.str
  | [], _, h => by unfold Rzs at h; exact h
  | n :: ns, _, h => by
    rw [List.map_cons] at h
    unfold Rzs at h
    obtain ⟨v, r, rfl, h1, h2⟩ := h
    unfold Rz at h1
    rw [h1, Rzs.strs' h2]; rfl
theorem Rzs.of_strs' : ∀ (ns : List Str), Rzs K κ H (ns.map D.str) (ns.map V.str)
  | [] => Rzs.nil
  | n :: ns => Rzs.cons (by unfold Rz; rfl) (Rzs.of_strs' ns)

/-! ### lists of lists, dicts -/
def RLs (K : PySem.W.Frag) (κ : String → Addr) (H : Hp) : List (List D) → List Addr → Prop
  | [], as => as = []
  | ds :: r, as => ∃ a as', as = a :: as' ∧ (∃ vs, H a = some (.lst vs) ∧ Rzs K κ H ds vs) ∧ RLs K κ H r as'
theorem RLs.st : ∀ {dss : List (List D)} {as : List Addr}, RLs K κ H dss as → Sb H H' → (∀ a ∈ as, H' a = H a) → RLs K κ H' dss as
  | [], _, h, _, _ => by unfold RLs at *; exact h
  | ds :: r, _, h, s, q => by
    unfold RLs at *
    obtain ⟨a, as', rfl, ⟨vs, h1, h2⟩, h3⟩ := h
    exact ⟨a, as', rfl, ⟨vs, by rw [q a (by simp)]; exact h1, Rzs.st s _ _ h2⟩, RLs.st h3 s fun b hb => q b (by simp [hb])⟩
theorem RLs.length : ∀ {dss : List (List D)} {as : List Addr}, RLs K κ H dss as → dss.length = as.length
  | [], _, h => by unfold RLs at h; subst h; rfl
  | ds :: r, _, h => by
    unfold RLs at h
    obtain ⟨a, as', rfl, _, h3⟩ := h
    simp [RLs.length h3]
theorem RLs.own : ∀ {dss : List (List D)} {as : List Addr}, RLs K κ H dss as → ∀ a ∈ as, ∃ vs, H a = some (.lst vs)
  | [], _, h => by unfold RLs at h; subst h; intro a ha; simp at ha
  | ds :: r, _, h => by
    unfold RLs at h
    obtain ⟨a, as', rfl, ⟨vs, h1, _⟩, h3⟩ := h
    intro b hb
    rcases List.mem_cons.mp hb with rfl | hb
    · exact ⟨vs, h1⟩
    · exact RLs.own h3 b hb
theorem RLs.get : ∀ {dss : List (List D)} {as : List Addr} {i : Nat} {ds : List D}, RLs K κ H dss as → dss[i]? = some ds → ∃ a vs, as[i]? = some a ∧ H a = some (.lst vs) ∧ Rzs K κ H ds vs
  | [], _, _, _, _, e => by simp at e
  | ds :: r, _, 0, _, h, e => by
    unfold RLs at h
    obtain ⟨a, as', rfl, ⟨vs, h1, h2⟩, _⟩ := h
    simp at e; subst e
    exact ⟨a, vs, rfl, h1, h2⟩
  | ds :: r, _, i + 1, _, h, e => by
    unfold RLs at h
    obtain ⟨a, as', rfl, _, q⟩ := h
    obtain ⟨b, vs, e1, e2, e3⟩ := RLs.get (i := i) q (by simpa using e)
    exact ⟨b, vs, by simpa using e1, e2, e3⟩
theorem RLs.append : ∀ {dss ess : List (List D)} {as bs : List Addr}, RLs K κ H dss as → RLs K κ H ess bs → RLs K κ H (dss ++ ess) (as ++ bs)
  | [], _, _, _, h, q => by unfold RLs at h; subst h; exact q
  | ds :: r, _, _, _, h, q => by
    unfold RLs at h
    obtain ⟨a, as', rfl, h1, h2⟩ := h
    show RLs K κ H (ds :: (r ++ _)) (a :: (as' ++ _))
    rw [RLs]
    exact ⟨a, as' ++ _, rfl, h1, RLs.append h2 q⟩

/-! ### dicts: keys of numbers and None, and tuples of these, nested -/
mutual
def dKey : D → Option NestedKey
  | .non => some .none
  | .int i => some (.num i)
  | .tup ds => match dKeys ds with
    | some ks => some (.tup ks)
    | none => none
  | _ => none
def dKeys : List D → Option (List NestedKey)
  | [] => some []
  | d :: ds => match dKey d, dKeys ds with
    | some k, some ks => some (k :: ks)
    | _, _ => none
end
/-- what the dict's own object says: entries xs: key, the key's tuple, value -/
def RawD (a : Addr) (xs : List (NestedKey × Addr × V)) (h : Heap) : Prop :=
  ∃ o es ep us, h.get? a = some o ∧ o.ExactDict ∧ o.data = .dict es ep ∧ Vals (xs.map fun x => x.2.2) us ∧ ∀ w : World, es.toList = List.zipWith (fun x u => (⟨x.1.hash w, .ref x.2.1, u⟩ : DictEntry)) xs us
/-- the pairs of data stand in the entries -/
def RDs (K : PySem.W.Frag) (κ : String → Addr) (H : Hp) : List (D × D) → List (NestedKey × Addr × V) → Prop
  | [], xs => xs = []
  | kv :: r, xs => ∃ x xs', xs = x :: xs' ∧ (dKey kv.1 = some x.1 ∧ x.1.depth ≤ 8) ∧ Rz K κ H kv.1 (.ref x.2.1) ∧ Rz K κ H kv.2 x.2.2 ∧ RDs K κ H r xs'
theorem RDs.st (s : Sb H H') : ∀ {kvs : List (D × D)} {xs : List (NestedKey × Addr × V)}, RDs K κ H kvs xs → RDs K κ H' kvs xs
  | [], _, h => by unfold RDs at *; exact h
  | kv :: r, _, h => by
    unfold RDs at *
    obtain ⟨x, xs', e, h1, h2, h3, h4⟩ := h
    exact ⟨x, xs', e, h1, Rz.st s _ _ h2, Rz.st s _ _ h3, RDs.st s h4⟩
/-- a dict by its pairs -/
def DcR (K : PySem.W.Frag) (κ : String → Addr) (H : Hp) (kvs : List (D × D)) (a : Addr) : Prop :=
  ∃ xs, H a = some (.ext (RawD a xs)) ∧ (a == sysModules) = false ∧ (xs.map fun x => x.1).Nodup ∧ RDs K κ H kvs xs

/-- a value stands for content, which owns the objects at os -/
def RC (K : PySem.W.Frag) (κ : String → Addr) (H : Hp) : C → V → List Addr → Prop
  | .v d, v, os => os = [] ∧ Rz K κ H d v
  | .l ds, v, os => ∃ a vs, v = .ref a ∧ os = [a] ∧ H a = some (.lst vs) ∧ Rzs K κ H ds vs
  | .ll dss, v, os => ∃ a as, v = .ref a ∧ os = a :: as ∧ (a :: as).Nodup ∧ H a = some (.lst (as.map V.ref)) ∧ RLs K κ H dss as
  | .dc kvs, v, os => ∃ a, v = .ref a ∧ os = [a] ∧ DcR K κ H kvs a
theorem DcR.st {kvs : List (D × D)} {a : Addr} (h : DcR K κ H kvs a) (s : Sb H H') (q : H' a = H a) : DcR K κ H' kvs a := by
  obtain ⟨xs, h1, h2, h3, h4⟩ := h
  exact ⟨xs, by rw [q]; exact h1, h2, h3, h4.st s⟩
theorem RC.st {c : C} {v : V} {os : List Addr} (h : RC K κ H c v os) (s : Sb H H') (q : ∀ a ∈ os, H' a = H a) : RC K κ H' c v os := by
  cases c with
  | v d => exact ⟨h.1, Rz.st s _ _ h.2⟩
  | l ds =>
    obtain ⟨a, vs, e, rfl, h1, h2⟩ := h
    exact ⟨a, vs, e, rfl, by rw [q a (by simp)]; exact h1, Rzs.st s _ _ h2⟩
  | ll dss =>
    obtain ⟨a, as, e, rfl, nd, h1, h2⟩ := h
    exact ⟨a, as, e, rfl, nd, by rw [q a (by simp)]; exact h1, h2.st s fun b hb => q b (by simp [hb])⟩
  | dc kvs =>
    obtain ⟨a, e, rfl, h1⟩ := h
    exact ⟨a, e, rfl, h1.st s (q a (by simp))⟩
/-- what is owned may be written -/
theorem RC.own {c : C} {v : V} {os : List Addr} (h : RC K κ H c v os) : ∀ a ∈ os, ∃ o, H a = some o ∧ ¬ StO o := by
  cases c with
  | v d => obtain ⟨rfl, _⟩ := h; intro a ha; simp at ha
  | l ds =>
    obtain ⟨a, vs, e, rfl, h1, h2⟩ := h
    intro b hb
    have : b = a := by simpa using hb
    subst this
    exact ⟨_, h1, fun z => z⟩
  | ll dss =>
    obtain ⟨a, as, e, rfl, nd, h1, h2⟩ := h
    intro b hb
    rcases List.mem_cons.mp hb with rfl | hb
    · exact ⟨_, h1, fun z => z⟩
    · obtain ⟨vs, q⟩ := h2.own b hb
      exact ⟨_, q, fun z => z⟩
  | dc kvs =>
    obtain ⟨a, e, rfl, h1⟩ := h
    intro b hb
    have : b = a := by simpa using hb
    subst this
    obtain ⟨xs, h1, _⟩ := h1
    exact ⟨_, h1, fun z => z⟩
/-- from one heap to the next: what was tracked and not owned stays; what is owned was owned, or is new -/
structure Nx (H H' : Hp) (O O' : Nat → List Addr) (ov : List Addr) : Prop where
  gw : ∀ a o, H a = some o → (StO o ∨ ∀ i, a ∉ O i) → H' a = some o
  nw : ∀ a, (a ∈ ov ∨ ∃ i, a ∈ O' i) → (∃ i, a ∈ O i) ∨ H a = none
theorem Nx.sb {O O' : Nat → List Addr} {ov : List Addr} (n : Nx H H' O O' ov) : Sb H H' := fun a o h s => n.gw a o h (.inl s)
theorem Nx.refl {O : Nat → List Addr} : Nx H H O O [] := ⟨fun _ _ h _ => h, fun a h => by
  rcases h with h | h
  · simp at h
  · exact .inl h⟩
theorem Nx.trans {H1 H2 : Hp} {O O1 O2 : Nat → List Addr} {o1 o2 : List Addr} (a : Nx H H1 O O1 o1) (b : Nx H1 H2 O1 O2 o2) : Nx H H2 O O2 o2 where
  gw := fun c o h s => by
    refine b.gw c o (a.gw c o h s) ?_
    rcases s with s | s
    · exact .inl s
    · refine .inr fun i hi => ?_
      rcases a.nw c (.inr ⟨i, hi⟩) with ⟨j, hj⟩ | z
      · exact s j hj
      · rw [h] at z; cases z
  nw := fun c hc => by
    rcases b.nw c hc with z | z
    · exact a.nw c (.inr z)
    · cases q : H c with
      | none => exact .inr rfl
      | some o =>
        by_cases s : ∀ i, c ∉ O i
        · rw [a.gw c o q (.inr s)] at z; cases z
        · exact .inl (by simpa using s)
/-- with what is held beside -/
theorem Nx.keepOv {H1 H2 : Hp} {O O1 O2 : Nat → List Addr} {o1 o2 : List Addr} (a : Nx H H1 O O1 o1) (b : Nx H1 H2 O1 O2 o2) : Nx H H2 O O2 (o1 ++ o2) where
  gw := (a.trans b).gw
  nw := fun c hc => by
    rcases hc with hc | hc
    · rcases List.mem_append.mp hc with h | h
      · exact a.nw c (.inl h)
      · exact (a.trans b).nw c (.inl h)
    · exact (a.trans b).nw c (.inr hc)
theorem Nx.drop {O O' : Nat → List Addr} {ov : List Addr} (n : Nx H H' O O' ov) : Nx H H' O O' [] := ⟨n.gw, fun a h => by
  rcases h with h | h
  · simp at h
  · exact n.nw a (.inr h)⟩
theorem Nx.same {O : Nat → List Addr} {ov : List Addr} (s : Same H H') (h : ∀ a ∈ ov, H a = none) : Nx H H' O O ov := ⟨fun a o e _ => s a o e, fun a q => by
  rcases q with q | q
  · exact .inr (h a q)
  · exact .inl q⟩

/-- the slots hold the contents ρ; slot i owns O i -/
structure Fr (K : PySem.W.Frag) (κ : String → Addr) (H : Hp) (σ : L2.St) (ρ : Env) (O : Nat → List Addr) : Prop where
  len : ρ.length = σ.length
  cv : ∀ i c, ρ[i]? = some (some c) → ∃ v, σ[i]? = some (some v) ∧ RC K κ H c v (O i)
  em : ∀ i, (∀ c, ρ[i]? ≠ some (some c)) → O i = []
  dj : ∀ i j a, a ∈ O i → a ∈ O j → i = j
theorem Fr.own {σ : L2.St} {ρ : Env} {O : Nat → List Addr} (F : Fr K κ H σ ρ O) {i : Nat} {a : Addr} (h : a ∈ O i) : ∃ o, H a = some o ∧ ¬ StO o := by
  by_cases q : ∃ c, ρ[i]? = some (some c)
  · obtain ⟨c, q⟩ := q
    obtain ⟨v, _, r⟩ := F.cv i c q
    exact r.own a h
  · rw [F.em i (fun c z => q ⟨c, z⟩)] at h; simp at h
/-- what is held beside the frame stays -/
theorem RC.beside {O O' : Nat → List Addr} {c : C} {v : V} {ov o2 : List Addr} (r : RC K κ H c v ov) (d : ∀ a ∈ ov, ∀ i, a ∉ O i) (n : Nx H H' O O' o2) : RC K κ H' c v ov :=
  r.st n.sb fun a ha => by
    obtain ⟨o, e, _⟩ := r.own a ha
    rw [e]; exact n.gw a o e (.inr (d a ha))
theorem beside_dj {O O' : Nat → List Addr} {c : C} {v : V} {ov o2 : List Addr} (r : RC K κ H c v ov) (d : ∀ a ∈ ov, ∀ i, a ∉ O i) (n : Nx H H' O O' o2) : ∀ a ∈ ov, (∀ i, a ∉ O' i) ∧ a ∉ o2 := fun a ha => by
  obtain ⟨o, e, _⟩ := r.own a ha
  have key : ∀ b, (b ∈ o2 ∨ ∃ i, b ∈ O' i) → b ≠ a := fun b hb z => by
    subst z
    rcases n.nw b hb with ⟨i, hi⟩ | z
    · exact d b ha i hi
    · rw [e] at z; cases z
  exact ⟨fun i hi => key a (.inr ⟨i, hi⟩) rfl, fun hi => key a (.inl hi) rfl⟩
end
end SW

set_option Elab.async false
set_option linter.all false
set_option maxRecDepth 100000
set_option maxHeartbeats 4000000
/-! Sw2: judgements over data: expressions, operands, tests. -/
namespace SW
open PySem PySem.Spec PyProof.Rows L2

/-! ### what code does, as it is -/
def semE (X : Cx) (e : Expr) : TE := fun σ H Q => ∀ pins s, Inv X pins σ H s → wpAny (model X.prog X.w) X.A (eval e X.env) (EP X pins σ Q) X.xe s
theorem pe_sem (X : Cx) (e : Expr) : PE X e (semE X e) := ⟨fun pins s σ H Q I h => h pins s I⟩
theorem sem_of {X : Cx} {e : Expr} {t : TE} {σ : L2.St} {H : Hp} {Q : VK} (p : PE X e t) (h : t σ H Q) : semE X e σ H Q := fun pins s I => p.run pins s σ H Q I h
def semT (X : Cx) (e : Expr) : TT := fun σ H Q => ∀ pins s, Inv X pins σ H s → wpAny (model X.prog X.w) X.A (isTrue e X.env (eval e X.env)) (TP X pins σ Q) X.xe s
theorem pt_sem (X : Cx) (e : Expr) : PT X e (semT X e) := ⟨fun pins s σ H Q I h => h pins s I⟩
theorem semT_of {X : Cx} {e : Expr} {t : TT} {σ : L2.St} {H : Hp} {Q : Bool → Hp → Prop} (p : PT X e t) (h : t σ H Q) : semT X e σ H Q := fun pins s I => p.run pins s σ H Q I h
def semW (X : Cx) (e : Expr) : TT := fun σ H Q => ∀ whole pins s, Inv X pins σ H s → wpAny (model X.prog X.w) X.A (isTrue e X.env whole) (TP X pins σ Q) X.xe s
theorem pw_sem (X : Cx) (e : Expr) : PW X e (semW X e) := ⟨fun wh pins s σ H Q I h => h wh pins s I⟩
theorem semW_of {X : Cx} {e : Expr} {t : TT} {σ : L2.St} {H : Hp} {Q : Bool → Hp → Prop} (p : PW X e t) (h : t σ H Q) : semW X e σ H Q := fun wh pins s I => p.run wh pins s σ H Q I h
def semS (X : Cx) (st : Stmt) : TS := fun D σ H => ∀ pins s, Inv X pins σ H s → wpAny (model X.prog X.w) X.A (exec st X.env) (SP X pins D) X.xe s
theorem ps_sem (X : Cx) (e : Stmt) : PS X e (semS X e) := ⟨fun pins s σ H Q I h => h pins s I⟩
theorem semS_of {X : Cx} {e : Stmt} {t : TS} {σ : L2.St} {H : Hp} {D : Ends} (p : PS X e t) (h : t D σ H) : semS X e D σ H := fun pins s I => p.run pins s σ H D I h
def semSs (X : Cx) (st : List Stmt) : TS := fun D σ H => ∀ pins s, Inv X pins σ H s → wpAny (model X.prog X.w) X.A (execs st X.env) (SP X pins D) X.xe s
theorem pss_sem (X : Cx) (e : List Stmt) : PSs X e (semSs X e) := ⟨fun pins s σ H Q I h => h pins s I⟩
theorem semSs_of {X : Cx} {e : List Stmt} {t : TS} {σ : L2.St} {H : Hp} {D : Ends} (p : PSs X e t) (h : t D σ H) : semSs X e D σ H := fun pins s I => p.run pins s σ H D I h
def semI (X : Cx) (tg iter : Expr) : TI := fun σ H R => ∀ pins s, Inv X pins σ H s →
    wpAny (model X.prog X.w) X.A (eval iter X.env) (fun v s1 => wpAny (model X.prog X.w) X.A (pyIter v) (PIE X pins σ tg R) X.xe s1) X.xe s
theorem pi_sem (X : Cx) (tg e : Expr) : PI X tg e (semI X tg e) := ⟨fun pins s σ H Q I h => h pins s I⟩
theorem semI_of {X : Cx} {tg e : Expr} {t : TI} {σ : L2.St} {H : Hp} {R : It → Hp → Prop} (p : PI X tg e t) (h : t σ H R) : semI X tg e σ H R := fun pins s I => p.run pins s σ H R I h
/-- several expressions, from the left -/
def semL (X : Cx) : List Expr → TA
  | [] => fun _ H Q => Q [] H
  | e :: es => fun σ H Q => semE X e σ H fun x H1 => semL X es σ H1 fun xs H2 => Q (x :: xs) H2
/-- an operation on two values, on one, a call -/
def semR (X : Cx) (f : Value → Value → Sem Value) : R2 := fun x y H Q => ∀ pins s σ v u, Inv X pins σ H s → RelV x v → RelV y u → wpAny (model X.prog X.w) X.A (f v u) (EP X pins σ Q) X.xe s
theorem opr_sem (X : Cx) (f : Value → Value → Sem Value) : OpR X f (semR X f) := fun pins s σ H x y v u Q I rx ry h => h pins s σ v u I rx ry
theorem semR_of {X : Cx} {f : Value → Value → Sem Value} {r : R2} {x y : V} {H : Hp} {Q : VK} (p : OpR X f r) (h : r x y H Q) : semR X f x y H Q := fun pins s σ v u I rx ry => p pins s σ H x y v u Q I rx ry h
def semU (X : Cx) (f : Value → Sem Value) : V → Hp → VK → Prop := fun x H Q => ∀ pins s σ v, Inv X pins σ H s → RelV x v → wpAny (model X.prog X.w) X.A (f v) (EP X pins σ Q) X.xe s
theorem unr_sem (X : Cx) (f : Value → Sem Value) : UnR X f (semU X f) := fun pins s σ H x v Q I rx h => h pins s σ v I rx
theorem semU_of {X : Cx} {f : Value → Sem Value} {r : V → Hp → VK → Prop} {x : V} {H : Hp} {Q : VK} (p : UnR X f r) (h : r x H Q) : semU X f x H Q := fun pins s σ v I rx => p pins s σ H x v Q I rx h
def semC (X : Cx) (f : Value) : List V → Hp → VK → Prop := fun xs H Q => ∀ pins s σ us, Inv X pins σ H s → Vals xs us → wpAny (model X.prog X.w) X.A (call f us) (EP X pins σ Q) X.xe s
theorem callr_sem (X : Cx) (f : Value) : CallR X f (semC X f) := fun pins s σ H xs us Q I r h => h pins s σ us I r
theorem semC_of {X : Cx} {f : Value} {r : List V → Hp → VK → Prop} {xs : List V} {H : Hp} {Q : VK} (p : CallR X f r) (h : r xs H Q) : semC X f xs H Q := fun pins s σ us I rx => p pins s σ H xs us Q I rx h
def semIx (X : Cx) : R2 := fun x y H Q => ∀ (value slice : Expr) pins s σ v u, Inv X pins σ H s → RelV x v → RelV y u → subscripted slice false v u = operate [v, u] (getItem v u) → wpAny (model X.prog X.w) X.A (subscriptTail value slice v u) (EP X pins σ Q) X.xe s
theorem ixr_sem (X : Cx) : IxR X (semIx X) := fun value slice pins s σ H x y v u Q I rx ry h hs => h value slice pins s σ v u I rx ry hs
theorem semIx_of {X : Cx} {r : R2} {x y : V} {H : Hp} {Q : VK} (p : IxR X r) (h : r x y H Q) : semIx X x y H Q := fun value slice pins s σ v u I rx ry hs => p value slice pins s σ H x y v u Q I rx ry h hs
theorem semE_mono {X : Cx} {e : Expr} {σ : L2.St} {H : Hp} {Q Q' : VK} (h : semE X e σ H Q) (m : ∀ v H', Q v H' → Q' v H') : semE X e σ H Q' := fun pins s I =>
  thn (h pins s I) fun u s' ⟨v, H', I', r, q⟩ => ⟨v, H', I', r, m v H' q⟩

/-- what every context here gives -/
structure Xg (X : Cx) : Prop where
  calm : X.calm = true
  un : X.A.units + 100 < cLine
  nd : X.N.Nodup
theorem Xg.blk {X : Cx} (h : Xg X) {s : Shared} {H : Hp} {scope : Scope} {cenv : PySem.Env} {fp : List Addr} : Xg (X.blk s H scope cenv fp) := ⟨h.calm, h.un, h.nd⟩

/-! ### the judgements -/
section
variable (X : Cx) (κ : String → Addr) (W : WX)
def PsE (σ : L2.St) (H : Hp) (O : Nat → List Addr) (Q : VK) : R C → Prop
  | .ok c ρ' => ∀ v H' O' ov, Fr X.K κ H' σ ρ' O' → RC X.K κ H' c v ov → (∀ a ∈ ov, ∀ i, a ∉ O' i) → Nx H H' O O' ov → Q v H'
  | .exn n ρ' => ∀ H' O', Fr X.K κ H' σ ρ' O' → Nx H H' O O' [] → W (.ref (κ n)) none σ H'
  | .stuck => False
/-- the expression e does what c says -/
def DE (e : Expr) (c : Env → R C) : Prop := ∀ σ ρ H O Q, Fr X.K κ H σ ρ O → PsE X κ W σ H O Q (c ρ) → semE X e σ H Q
def PsT (σ : L2.St) (H : Hp) (O : Nat → List Addr) (Q : Bool → Hp → Prop) : R Bool → Prop
  | .ok b ρ' => ∀ H' O', Fr X.K κ H' σ ρ' O' → Nx H H' O O' [] → Q b H'
  | .exn n ρ' => ∀ H' O', Fr X.K κ H' σ ρ' O' → Nx H H' O O' [] → W (.ref (κ n)) none σ H'
  | .stuck => False
def DT (e : Expr) (c : Env → R Bool) : Prop := ∀ σ ρ H O Q, Fr X.K κ H σ ρ O → PsT X κ W σ H O Q (c ρ) → semT X e σ H Q
def DW (e : Expr) (c : Env → R Bool) : Prop := ∀ σ ρ H O Q, Fr X.K κ H σ ρ O → PsT X κ W σ H O Q (c ρ) → semW X e σ H Q
/-- contents, whoever owns them -/
def RCs (K : PySem.W.Frag) (κ : String → Addr) (H : Hp) : List C → List V → Prop
  | [], vs => vs = []
  | c :: cs, vs => ∃ v r, vs = v :: r ∧ (∃ ov, RC K κ H c v ov) ∧ RCs K κ H cs r
def PsL (σ : L2.St) (H : Hp) (O : Nat → List Addr) (Q : List V → Hp → Prop) : R (List C) → Prop
  | .ok cs ρ' => ∀ vs H' O', Fr X.K κ H' σ ρ' O' → RCs X.K κ H' cs vs → Nx H H' O O' [] → Q vs H'
  | .exn n ρ' => ∀ H' O', Fr X.K κ H' σ ρ' O' → Nx H H' O O' [] → W (.ref (κ n)) none σ H'
  | .stuck => False
/-- operands: values made, or slots read when all stand -/
def DL (es : List Expr) (c : Env → R (List C)) : Prop := ∀ σ ρ H O Q, Fr X.K κ H σ ρ O → PsL X κ W σ H O Q (c ρ) → semL X es σ H Q
/-- an operation on contents -/
def OpN (sem : List V → Hp → VK → Prop) (g : List C → Option C) : Prop := ∀ cs c vs H Q, g cs = some c → RCs X.K κ H cs vs →
  (∀ v H' ov, RC X.K κ H' c v ov → Same H H' → (∀ a ∈ ov, H a = none) → Q v H') → sem vs H Q
end

section
variable {X : Cx} {κ : String → Addr} {W : WX}
/-! ### operands -/
def cNil : Env → R (List C) := fun ρ => .ok [] ρ
def cCons (ce : Env → R C) (cs : Env → R (List C)) : Env → R (List C) := fun ρ => (ce ρ).bind fun c ρ1 => (cs ρ1).bind fun r ρ2 => .ok (c :: r) ρ2
def cSlot (i : Nat) (cs : Env → R (List C)) : Env → R (List C) := fun ρ => match ρ[i]? with
  | some (some _) => (cs ρ).bind fun r ρ2 => match ρ2[i]? with
    | some (some c) => .ok (c :: r) ρ2
    | _ => .stuck
  | _ => .stuck
theorem dl_nil : DL X κ W [] cNil := fun σ ρ H O Q F h => h [] H O F (by unfold RCs; rfl) Nx.refl
theorem dl_e {e : Expr} {es : List Expr} {ce : Env → R C} {cs : Env → R (List C)} (he : DE X κ W e ce) (hs : DL X κ W es cs) : DL X κ W (e :: es) (cCons ce cs) := by
  intro σ ρ H O Q F h
  refine he σ ρ H O _ F ?_
  unfold cCons at h
  cases h1 : ce ρ with
  | stuck => rw [h1] at h; exact h
  | exn n ρ1 => rw [h1] at h; exact h
  | ok c ρ1 =>
    rw [h1, R.bind_ok] at h
    intro v H1 O1 ov F1 r1 d1 n1
    refine hs σ ρ1 H1 O1 _ F1 ?_
    cases h2 : cs ρ1 with
    | stuck => rw [h2] at h; exact h
    | exn n ρ2 =>
      rw [h2] at h
      exact fun H' O' F' n' => h H' O' F' (n1.trans n')
    | ok r ρ2 =>
      rw [h2, R.bind_ok] at h
      intro vs H2 O2 F2 r2 n2
      exact h (v :: vs) H2 O2 F2 (by unfold RCs; exact ⟨v, vs, rfl, ⟨ov, r1.beside d1 n2⟩, r2⟩) (n1.trans n2)
theorem dl_s {i : Nat} {x : Str} {pos : Pos} {es : List Expr} {cs : Env → R (List C)} (hs : DL X κ W es cs) (hN : X.N[i]? = some x := by rfl) (hv : Vis X.env.scope x := by first | exact Or.inl rfl | exact Or.inr (Or.inl rfl) | exact Or.inr (Or.inr rfl)) (hd : (x == ("__debug__" : Str)) = false := by decide)
    (hcd : (x == ("__classdict__" : Str)) = false := by decide) : DL X κ W (.Name x pos :: es) (cSlot i cs) := by
  intro σ ρ H O Q F h
  unfold cSlot at h
  split at h
  · rename_i c0 hc0
    obtain ⟨v, ev, _⟩ := F.cv i c0 hc0
    refine sem_of (pe_var hN hv hd hcd) ⟨v, ev, ?_⟩
    refine hs σ ρ H O _ F ?_
    cases h2 : cs ρ with
    | stuck => rw [h2] at h; exact h
    | exn n ρ2 => rw [h2] at h; exact h
    | ok r ρ2 =>
      rw [h2, R.bind_ok] at h
      intro vs H2 O2 F2 r2 n2
      split at h
      · rename_i c hc
        obtain ⟨v', ev', rc⟩ := F2.cv i c hc
        rw [ev] at ev'
        cases ev'
        exact h (v :: vs) H2 O2 F2 (by unfold RCs; exact ⟨v, vs, rfl, ⟨_, rc⟩, r2⟩) n2
      · exact h.elim
  · exact h.elim

/-! ### names, constants -/
def C.frz : C → D
  | .v d => d
  | .l xs => .lst xs
  | .ll xss => .lst (xss.map D.lst)
  | .dc _ => .non
/-- the data in a slot; an owned list is never written from then on -/
def cVar (i : Nat) : Env → R C := fun ρ => match ρ[i]? with
  | some (some (.v d)) => .ok (.v d) ρ
  | _ => .stuck
theorem RC.v_iff {K : PySem.W.Frag} {H : Hp} {d : D} {v : V} {os : List Addr} : RC K κ H (.v d) v os ↔ os = [] ∧ Rz K κ H d v := Iff.rfl
theorem de_var (i : Nat) {x : Str} {pos : Pos} (hN : X.N[i]? = some x := by rfl) (hv : Vis X.env.scope x := by first | exact Or.inl rfl | exact Or.inr (Or.inl rfl) | exact Or.inr (Or.inr rfl)) (hd : (x == ("__debug__" : Str)) = false := by decide)
    (hcd : (x == ("__classdict__" : Str)) = false := by decide) : DE X κ W (.Name x pos) (cVar i) := by
  intro σ ρ H O Q F h
  unfold cVar at h
  split at h
  · rename_i d hc
    obtain ⟨v, ev, rc⟩ := F.cv i _ hc
    obtain ⟨e, rz⟩ := rc
    exact sem_of (pe_var hN hv hd hcd) ⟨v, ev, h v H O [] F ⟨rfl, rz⟩ (fun a ha => by simp at ha) Nx.refl⟩
  · exact h.elim
def cC (d : D) : Env → R C := fun ρ => .ok (.v d) ρ
theorem de_const {e : Expr} {v : V} {d : D} (p : PE X e (tC v)) (r : ∀ H, Rz X.K κ H d v) : DE X κ W e (cC d) := by
  intro σ ρ H O Q F h
  exact sem_of p (h v H O [] F ⟨rfl, r H⟩ (fun a ha => by simp at ha) Nx.refl)
theorem de_int {i : Int} {j pos} : DE X κ W (.Constant (.int i) j pos) (cC (.int i)) := de_const pe_int fun _ => by unfold Rz; rfl
theorem de_bl {b : Bool} {j pos} : DE X κ W (.Constant (.bool b) j pos) (cC (.bl b)) := de_const pe_bl fun _ => by unfold Rz; rfl
theorem de_non {j pos} : DE X κ W (.Constant .none j pos) (cC .non) := de_const pe_non fun _ => by unfold Rz; rfl
theorem de_str {x : Str} {j pos} : DE X κ W (.Constant (.str x) j pos) (cC (.str x)) := de_const pe_str fun _ => by unfold Rz; rfl
/-- a global constant: an int or a text -/
theorem de_gint {x : Str} {i : Int} {pos : Pos} (hm : ∃ t, X.mg x = some (.int i t)) (hg : Gl X x := by rfl) (hd : (x == ("__debug__" : Str)) = false := by decide) : DE X κ W (.Name x pos) (cC (.int i)) := by
  obtain ⟨t, hm⟩ := hm
  exact de_const (v := .int i) (pe_glob hg hm ⟨t, rfl⟩ hd) fun _ => by unfold Rz; rfl
theorem de_gstr {x y : Str} {pos : Pos} (hm : ∃ t, X.mg x = some (.str y t)) (hg : Gl X x := by rfl) (hd : (x == ("__debug__" : Str)) = false := by decide) : DE X κ W (.Name x pos) (cC (.str y)) := by
  obtain ⟨t, hm⟩ := hm
  exact de_const (v := .str y) (pe_glob hg hm ⟨t, rfl⟩ hd) fun _ => by unfold Rz; rfl
/-- a built-in class by its name -/
theorem de_gty {x : Str} {n : String} {pos : Pos} (hm : X.mg x = none) (hv : bootBuiltins x = some (.type n)) (hg : Gl X x := by rfl) (hn : x ≠ "__name__" := by decide) (hd : (x == ("__debug__" : Str)) = false := by decide) : DE X κ W (.Name x pos) (cC (.ty n)) :=
  de_const (v := .ty n) (pe_bltn hg hm hv rfl hn hd) fun _ => by unfold Rz; rfl

/-! ### operations -/
def cOp (g : List C → Option C) (cl : Env → R (List C)) : Env → R C := fun ρ => (cl ρ).bind fun cs ρ1 => match g cs with
  | some c => .ok c ρ1
  | none => .stuck
theorem op_end {sem : List V → Hp → VK → Prop} {g : List C → Option C} {σ : L2.St} {H : Hp} {O : Nat → List Addr} {Q : VK} {cl : Env → R (List C)} {ρ : Env} (ho : OpN X κ sem g) (h : PsE X κ W σ H O Q (cOp g cl ρ)) :
    PsL X κ W σ H O (fun vs H1 => sem vs H1 Q) (cl ρ) := by
  unfold cOp at h
  cases h1 : cl ρ with
  | stuck => rw [h1] at h; exact h
  | exn n ρ1 => rw [h1] at h; exact h
  | ok cs ρ1 =>
    rw [h1, R.bind_ok] at h
    intro vs H1 O1 F1 r1 n1
    split at h
    · rename_i c hc
      refine ho cs c vs H1 Q hc r1 fun v H2 ov rc sm fr => ?_
      have n2 : Nx H1 H2 O1 O1 ov := Nx.same sm fr
      refine h v H2 O1 ov ⟨F1.len, fun i c0 e0 => ?_, F1.em, F1.dj⟩ rc (fun a ha i hi => ?_) (n1.trans n2)
      · obtain ⟨u, e1, r⟩ := F1.cv i c0 e0
        refine ⟨u, e1, r.st (Sb.same sm) fun a ha => ?_⟩
        obtain ⟨o, eo, _⟩ := r.own a ha
        rw [eo]; exact sm a o eo
      · obtain ⟨o, eo, _⟩ := F1.own hi
        rw [fr a ha] at eo; cases eo
    · exact h.elim
def sem2 (r : R2) : List V → Hp → VK → Prop := fun vs H Q => ∃ x y, vs = [x, y] ∧ r x y H Q
def sem1 (r : V → Hp → VK → Prop) : List V → Hp → VK → Prop := fun vs H Q => ∃ x, vs = [x] ∧ r x H Q
theorem semL2 {a b : Expr} {σ : L2.St} {H : Hp} {Q : VK} {r : R2} (h : semL X [a, b] σ H fun vs H1 => sem2 r vs H1 Q) : tOp r (semE X a) (semE X b) σ H Q := by
  refine semE_mono h fun x H1 h1 => semE_mono h1 fun y H2 h2 => ?_
  obtain ⟨x', y', e, q⟩ := h2
  injection e with e1 e2
  injection e2 with e2 _
  subst e1 e2
  exact q
theorem semL1 {a : Expr} {σ : L2.St} {H : Hp} {Q : VK} {r : V → Hp → VK → Prop} (h : semL X [a] σ H fun vs H1 => sem1 r vs H1 Q) : tUn r (semE X a) σ H Q := by
  refine semE_mono h fun x H1 h1 => ?_
  obtain ⟨x', e, q⟩ := h1
  injection e with e1 _
  subst e1
  exact q
theorem de_bin {a b : Expr} {op : Operator} {pos : Pos} {g : List C → Option C} {cl : Env → R (List C)} (ho : OpN X κ (sem2 (semR X (binaryOp op))) g) (hl : DL X κ W [a, b] cl) : DE X κ W (.BinOp a op b pos) (cOp g cl) :=
  fun σ ρ H O Q F h => sem_of (pe_op (opr_sem X _) (pe_sem X a) (pe_sem X b)) (semL2 (hl σ ρ H O _ F (op_end ho h)))
theorem de_un {a : Expr} {op : UnaryOp} {pos : Pos} {g : List C → Option C} {cl : Env → R (List C)} (ho : OpN X κ (sem1 (semU X (unaryOp op))) g) (hl : DL X κ W [a] cl) : DE X κ W (.UnaryOp op a pos) (cOp g cl) :=
  fun σ ρ H O Q F h => sem_of (pe_un (unr_sem X _) (pe_sem X a)) (semL1 (hl σ ρ H O _ F (op_end ho h)))
theorem de_cmp {a b : Expr} {op : CmpOp} {pos : Pos} {g : List C → Option C} {cl : Env → R (List C)} (ho : OpN X κ (sem2 (semR X (compareOp op))) g) (hl : DL X κ W [a, b] cl)
    (hm : behindInMarks op b = false := by first | exact nomark _ (by decide) (by decide) | with_unfolding_all rfl) : DE X κ W (.Compare a [op] [b] pos) (cOp g cl) :=
  fun σ ρ H O Q F h => sem_of (pe_cmpR (opr_sem X _) (pe_sem X a) (pe_sem X b) hm) (semL2 (hl σ ρ H O _ F (op_end ho h)))
theorem de_ix {a b : Expr} {pos : Pos} {g : List C → Option C} {cl : Env → R (List C)} (ho : OpN X κ (sem2 (semIx X)) g) (hl : DL X κ W [a, b] cl) (hs : PlainIx b := by exact fun _ _ => rfl) : DE X κ W (.Subscript a b pos) (cOp g cl) :=
  fun σ ρ H O Q F h => sem_of (pe_ix (ixr_sem X) (pe_sem X a) (pe_sem X b) hs) (semL2 (hl σ ρ H O _ F (op_end ho h)))

/-! ### argument lists for the library -/
theorem pa_sem : ∀ (es : List Expr), (∀ e ∈ es, ∀ r : List Expr, starEach (e :: r) X.env = (false, eval e X.env) :: starEach r X.env) → PA X es (semL X es)
  | [], _ => pa_nil
  | e :: es, h => pa_cons (pe_sem X e) (pa_sem es fun e' he' => h e' (List.mem_cons_of_mem _ he')) (h e List.mem_cons_self es)
/-- no star among them -/
def noStar : Expr → Bool
  | .Starred _ _ => false
  | _ => true
theorem starEach_of {e : Expr} (h : noStar e = true) (r : List Expr) (env : PySem.Env) : starEach (e :: r) env = (false, eval e env) :: starEach r env := by
  cases e <;> first | rfl | cases h
theorem pa_semB {es : List Expr} (h : es.all noStar = true) : PA X es (semL X es) := pa_sem es fun e he r => starEach_of (List.all_eq_true.mp h e he) r X.env
theorem starEach_plain : ∀ {es : List Expr} {env : PySem.Env}, es.all noStar = true → ∀ p ∈ starEach es env, p.1 = false
  | [], env, _, p, hp => by unfold starEach at hp; cases hp
  | e :: es, env, h, p, hp => by
    rw [List.all_cons, Bool.and_eq_true] at h
    rw [starEach_of h.1] at hp
    rcases List.mem_cons.mp hp with rfl | hp
    · rfl
    · exact starEach_plain h.2 p hp
theorem plainStar {es : List Expr} {env : PySem.Env} {pos : Pos} (h : es.all noStar = true) : (backTo pos (starEach es env)).any (·.1) = false := by
  rw [List.any_eq_false]
  intro p hp
  unfold backTo at hp
  obtain ⟨q, hq, rfl⟩ := List.mem_map.mp hp
  have := starEach_plain h q hq
  simp [this]

/-! ### an owned list is locked for good -/
def C.fz : C → Option D
  | .v d => some d
  | .l xs => some (.lst xs)
  | .ll xss => some (.lst (xss.map D.lst))
  | .dc _ => none
theorem lock_all {pins : List (Addr × Obj)} {σ : L2.St} {s : Shared} : ∀ {dss : List (List D)} {as : List Addr} {H : Hp}, as.Nodup → RLs X.K κ H dss as → Inv X pins σ H s →
    ∃ H', Inv X pins σ H' s ∧ Rzs X.K κ H' (dss.map D.lst) (as.map V.ref) ∧ (∀ a o, H a = some o → a ∉ as → H' a = some o) ∧ Sb H H'
  | [], as, H, _, h, I => by
    unfold RLs at h; subst h
    exact ⟨H, I, Rzs.nil, fun _ _ e _ => e, Sb.refl H⟩
  | ds :: r, as, H, nd, h, I => by
    unfold RLs at h
    obtain ⟨a, as', rfl, ⟨vs, h1, h2⟩, h3⟩ := h
    obtain ⟨na, nd'⟩ := List.nodup_cons.mp nd
    obtain ⟨od, I1⟩ := I.lock h1 trivial
    have sb1 : Sb H (upd H a (.frz od (.lst vs))) := fun b o e st => by
      by_cases hb : b = a
      · subst hb; rw [h1] at e; cases e; exact st.elim
      · rw [upd_ne hb]; exact e
    have h3' : RLs X.K κ (upd H a (.frz od (.lst vs))) r as' := h3.st sb1 fun b hb => upd_ne fun e => na (e ▸ hb)
    obtain ⟨H', I', rz, kp, sb⟩ := lock_all nd' h3' I1
    refine ⟨H', I', Rzs.cons ?_ rz, fun b o e hb => kp b o ?_ fun q => hb (List.mem_cons_of_mem _ q), sb1.trans sb⟩
    · unfold Rz
      exact ⟨a, vs, rfl, .inl ⟨od, sb _ _ upd_same trivial⟩, Rzs.st (sb1.trans sb) _ _ h2⟩
    · rw [upd_ne (fun e' => hb (by rw [e']; simp))]; exact e
theorem lock_c {pins : List (Addr × Obj)} {σ : L2.St} {s : Shared} {H : Hp} {c : C} {d : D} {v : V} {ov : List Addr} (r : RC X.K κ H c v ov) (e : c.fz = some d) (I : Inv X pins σ H s) :
    ∃ H', Inv X pins σ H' s ∧ Rz X.K κ H' d v ∧ (∀ a o, H a = some o → a ∉ ov → H' a = some o) ∧ Sb H H' := by
  cases c with
  | v d' =>
    cases e
    exact ⟨H, I, r.2, fun _ _ e _ => e, Sb.refl H⟩
  | l ds =>
    cases e
    obtain ⟨a, vs, rfl, rfl, h1, h2⟩ := r
    obtain ⟨od, I1⟩ := I.lock h1 trivial
    have sb1 : Sb H (upd H a (.frz od (.lst vs))) := fun b o e st => by
      by_cases hb : b = a
      · subst hb; rw [h1] at e; cases e; exact st.elim
      · rw [upd_ne hb]; exact e
    refine ⟨_, I1, ?_, fun b o e hb => ?_, sb1⟩
    · unfold Rz
      exact ⟨a, vs, rfl, .inl ⟨od, upd_same⟩, Rzs.st sb1 _ _ h2⟩
    · rw [upd_ne (fun z => hb (by rw [z]; simp))]; exact e
  | ll dss =>
    cases e
    obtain ⟨a, as, rfl, rfl, nd, h1, h2⟩ := r
    obtain ⟨na, nd'⟩ := List.nodup_cons.mp nd
    obtain ⟨H1, I1, rz, kp, sb⟩ := lock_all nd' h2 I
    have h1' : H1 a = some (.lst (as.map V.ref)) := kp a _ h1 na
    obtain ⟨od, I2⟩ := I1.lock h1' trivial
    have sb1 : Sb H1 (upd H1 a (.frz od (.lst (as.map V.ref)))) := fun b o e st => by
      by_cases hb : b = a
      · subst hb; rw [h1'] at e; cases e; exact st.elim
      · rw [upd_ne hb]; exact e
    refine ⟨_, I2, ?_, fun b o e hb => ?_, sb.trans sb1⟩
    · unfold Rz
      exact ⟨a, _, rfl, .inl ⟨od, upd_same⟩, Rzs.st sb1 _ _ rz⟩
    · rw [upd_ne (fun z => hb (by rw [z]; simp))]
      exact kp b o e fun q => hb (List.mem_cons_of_mem _ q)
  | dc kvs => cases e
theorem semE_ghost {e : Expr} {σ : L2.St} {H : Hp} {Q Q' : VK} (h : semE X e σ H Q) (m : ∀ v H1 pins s, Inv X pins σ H1 s → Q v H1 → ∃ H2, Inv X pins σ H2 s ∧ Q' v H2) : semE X e σ H Q' := fun pins s I =>
  thn (h pins s I) fun u s' ⟨v, H1, I1, r, q⟩ => by
    obtain ⟨H2, I2, q2⟩ := m v H1 pins s' I1 q
    exact ⟨v, H2, I2, r, q2⟩
def cFz (c : Env → R C) : Env → R C := fun ρ => (c ρ).bind fun x ρ1 => match x.fz with
  | some d => .ok (.v d) ρ1
  | none => .stuck
theorem de_fz {e : Expr} {c : Env → R C} (he : DE X κ W e c) : DE X κ W e (cFz c) := by
  intro σ ρ H O Q F h
  unfold cFz at h
  cases h1 : c ρ with
  | stuck => rw [h1] at h; exact h.elim
  | exn n ρ1 =>
    rw [h1] at h
    exact he σ ρ H O Q F (by rw [h1]; exact h)
  | ok x ρ1 =>
    rw [h1, R.bind_ok] at h
    split at h
    · rename_i d hd
      refine semE_ghost (Q := fun v H1 => ∃ O1 ov, Fr X.K κ H1 σ ρ1 O1 ∧ RC X.K κ H1 x v ov ∧ (∀ a ∈ ov, ∀ i, a ∉ O1 i) ∧ Nx H H1 O O1 ov) (he σ ρ H O _ F (by rw [h1]; exact fun v H1 O1 ov F1 r1 d1 n1 => ⟨O1, ov, F1, r1, d1, n1⟩)) ?_
      rintro v H1 pins s I1 ⟨O1, ov, F1, r1, d1, n1⟩
      obtain ⟨H2, I2, rz, kp, sb⟩ := lock_c r1 hd I1
      refine ⟨H2, I2, h v H2 O1 [] ⟨F1.len, fun i c0 e0 => ?_, F1.em, F1.dj⟩ ⟨rfl, rz⟩ (fun a ha => by simp at ha) ⟨fun a o ea s => ?_, fun a ha => ?_⟩⟩
      · obtain ⟨u, e1, rc⟩ := F1.cv i c0 e0
        refine ⟨u, e1, rc.st sb fun a ha => ?_⟩
        obtain ⟨o, eo, _⟩ := rc.own a ha
        rw [eo]
        exact kp a o eo fun q => d1 a q i ha
      · have e1 := n1.gw a o ea s
        rcases s with s | s
        · exact sb a o e1 s
        · refine kp a o e1 fun q => ?_
          rcases n1.nw a (.inl q) with ⟨i, hi⟩ | z
          · exact s i hi
          · rw [ea] at z; cases z
      · rcases ha with ha | ha
        · simp at ha
        · exact n1.nw a (.inr ha)
    · exact h.elim
/-- a slot's content as data: an owned list in it is never written from then on -/
def cVarF (i : Nat) : Env → R C := fun ρ => match ρ[i]? with
  | some (some c) => match c.fz with
    | some d => .ok (.v d) (ρ.set i (some (.v d)))
    | none => .stuck
  | _ => .stuck
theorem Fr.put {H : Hp} {σ : L2.St} {ρ : Env} {O : Nat → List Addr} (F : Fr X.K κ H σ ρ O) {i : Nat} {c : C} {v : V} {ov : List Addr} (hi : i < ρ.length) (r : RC X.K κ H c v ov) (d : ∀ a ∈ ov, ∀ j, j ≠ i → a ∉ O j) :
    Fr X.K κ H (σ.set i (some v)) (ρ.set i (some c)) (fun j => if j = i then ov else O j) where
  len := by simp [F.len]
  cv := fun j c' e => by
    by_cases hj : j = i
    · subst hj
      rw [List.getElem?_set_self hi] at e
      cases e
      refine ⟨v, List.getElem?_set_self (by rw [← F.len]; exact hi), ?_⟩
      simp only [if_true]; exact r
    · rw [List.getElem?_set_ne (Ne.symm hj)] at e
      obtain ⟨u, e1, r1⟩ := F.cv j c' e
      refine ⟨u, by rw [List.getElem?_set_ne (Ne.symm hj)]; exact e1, ?_⟩
      simp only [if_neg hj]; exact r1
  em := fun j h => by
    by_cases hj : j = i
    · subst hj
      exact absurd (List.getElem?_set_self hi) (h c)
    · simp only [if_neg hj]
      exact F.em j fun c' e => h c' (by rw [List.getElem?_set_ne (Ne.symm hj)]; exact e)
  dj := fun j k a h1 h2 => by
    by_cases hj : j = i <;> by_cases hk : k = i
    · rw [hj, hk]
    · simp only [if_pos hj] at h1; simp only [if_neg hk] at h2
      exact absurd h2 (d a h1 k hk)
    · simp only [if_neg hj] at h1; simp only [if_pos hk] at h2
      exact absurd h1 (d a h2 j hj)
    · simp only [if_neg hj] at h1; simp only [if_neg hk] at h2
      exact F.dj j k a h1 h2
theorem set_self {α : Type} : ∀ {l : List α} {i : Nat} {x : α}, l[i]? = some x → l.set i x = l
  | [], _, _, h => by simp at h
  | y :: l, 0, x, h => by simp at h; subst h; rfl
  | y :: l, i + 1, x, h => by
    simp only [List.set_cons_succ]
    rw [set_self (by simpa using h)]
theorem de_varF (i : Nat) {x : Str} {pos : Pos} (hN : X.N[i]? = some x := by rfl) (hv : Vis X.env.scope x := by first | exact Or.inl rfl | exact Or.inr (Or.inl rfl) | exact Or.inr (Or.inr rfl)) (hd : (x == ("__debug__" : Str)) = false := by decide)
    (hcd : (x == ("__classdict__" : Str)) = false := by decide) : DE X κ W (.Name x pos) (cVarF i) := by
  intro σ ρ H O Q F h
  unfold cVarF at h
  split at h
  · rename_i c hc
    split at h
    · rename_i d hd'
      obtain ⟨v, ev, rc⟩ := F.cv i _ hc
      refine semE_ghost (Q := fun v' H1 => v' = v ∧ H1 = H) (sem_of (pe_var hN hv hd hcd) ⟨v, ev, rfl, rfl⟩) ?_
      rintro v' H1 pins s I1 ⟨rfl, rfl⟩
      obtain ⟨H2, I2, rz, kp, sb⟩ := lock_c rc hd' I1
      have hi : i < ρ.length := (List.getElem?_eq_some_iff.mp hc).1
      have F2 : Fr X.K κ H2 (σ.set i (some v')) (ρ.set i (some (.v d))) (fun j => if j = i then [] else O j) := by
        refine Fr.mk (by simp [F.len]) (fun j c' e => ?_) (fun j h => ?_) (fun j k a h1 h2 => ?_)
        · by_cases hj : j = i
          · subst hj
            rw [List.getElem?_set_self hi] at e
            cases e
            refine ⟨v', List.getElem?_set_self (by rw [← F.len]; exact hi), ?_⟩
            simp only [if_true]; exact ⟨rfl, rz⟩
          · rw [List.getElem?_set_ne (Ne.symm hj)] at e
            obtain ⟨u, e1, r1⟩ := F.cv j c' e
            refine ⟨u, by rw [List.getElem?_set_ne (Ne.symm hj)]; exact e1, ?_⟩
            simp only [if_neg hj]
            refine r1.st sb fun a ha => ?_
            obtain ⟨o, eo, _⟩ := r1.own a ha
            rw [eo]
            exact kp a o eo fun q => hj (F.dj j i a ha q)
        · by_cases hj : j = i
          · simp [hj]
          · simp only [if_neg hj]
            exact F.em j fun c' e => h c' (by rw [List.getElem?_set_ne (Ne.symm hj)]; exact e)
        · by_cases hj : j = i
          · simp only [if_pos hj] at h1; simp at h1
          · by_cases hk : k = i
            · simp only [if_pos hk] at h2; simp at h2
            · simp only [if_neg hj] at h1; simp only [if_neg hk] at h2
              exact F.dj j k a h1 h2
      rw [set_self ev] at F2
      refine ⟨H2, I2, h v' H2 _ [] F2 ⟨rfl, rz⟩ (fun a ha => by simp at ha) ⟨fun a o ea s => ?_, fun a ha => ?_⟩⟩
      · rcases s with s | s
        · exact sb a o ea s
        · exact kp a o ea fun q => s i q
      · rcases ha with ha | ⟨j, hj⟩
        · simp at ha
        · by_cases q : j = i
          · simp [q] at hj
          · simp only [if_neg q] at hj; exact .inl ⟨j, hj⟩
    · exact h.elim
  · exact h.elim
end
end SW

set_option Elab.async false
set_option linter.all false
set_option maxRecDepth 100000
set_option maxHeartbeats 4000000
/-! Sw3: tests, truth, displays, calls of built-ins. -/
namespace SW
open PySem PySem.Spec PyProof.Rows L2
section
variable {X : Cx} {κ : String → Addr} {W : WX}
/-! ### tests -/
def cTest (c : Env → R C) : Env → R Bool := fun ρ => (c ρ).bind fun x ρ1 => match x with
  | .v (.bl b) => .ok b ρ1
  | _ => .stuck
theorem PsE_test {σ : L2.St} {H : Hp} {O : Nat → List Addr} {Q : Bool → Hp → Prop} {c : Env → R C} {ρ : Env} (h : PsT X κ W σ H O Q (cTest c ρ)) : PsE X κ W σ H O (fun x H1 => ∃ k, x = .bl k ∧ Q k H1) (c ρ) := by
  unfold cTest at h
  cases h1 : c ρ with
  | stuck => rw [h1] at h; exact h
  | exn n ρ1 => rw [h1] at h; exact h
  | ok x ρ1 =>
    rw [h1, R.bind_ok] at h
    split at h
    · rename_i b
      intro v H1 O1 ov F1 r1 d1 n1
      obtain ⟨e, rz⟩ := r1
      unfold Rz at rz
      exact ⟨b, rz, h H1 O1 F1 n1.drop⟩
    · exact h.elim
/-- a value that is a bool, as a test -/
theorem dt_val {e : Expr} {c : Env → R C} (hc : DE X κ W e c) (he : ∀ whole, isTrue e X.env whole = (do let v ← whole; standAt e.pos; holding [v] (truthy v)) := by intro _; rfl) : DT X κ W e (cTest c) :=
  fun σ ρ H O Q F h => semT_of (pt_val (pe_sem X e) he) (semE_mono (hc σ ρ H O _ F (PsE_test h)) fun v H1 q => q)
theorem dt_cmp {a b : Expr} {op : CmpOp} {pos : Pos} {g : List C → Option C} {cl : Env → R (List C)} (ho : OpN X κ (sem2 (semR X (compareOp op))) g) (hl : DL X κ W [a, b] cl)
    (hm : behindInMarks op b = false := by first | exact nomark _ (by decide) (by decide) | with_unfolding_all rfl) : DT X κ W (.Compare a [op] [b] pos) (cTest (cOp g cl)) :=
  fun σ ρ H O Q F h => semT_of (pt_cmpR (opr_sem X _) (pe_sem X a) (pe_sem X b) hm) (semL2 (hl σ ρ H O _ F (op_end ho (PsE_test h))))
def cAnd (a b : Env → R Bool) : Env → R Bool := fun ρ => (a ρ).bind fun x ρ1 => if x = true then b ρ1 else .ok false ρ1
def cOr (a b : Env → R Bool) : Env → R Bool := fun ρ => (a ρ).bind fun x ρ1 => if x = true then .ok true ρ1 else b ρ1
def cNot (a : Env → R Bool) : Env → R Bool := fun ρ => (a ρ).bind fun x ρ1 => .ok (!x) ρ1
/-- a test, then what follows -/
theorem PsT_bind {σ : L2.St} {H : Hp} {O : Nat → List Addr} {Q : Bool → Hp → Prop} {a : Env → R Bool} {f : Bool → Env → R Bool} {ρ : Env} {P : Bool → Hp → Prop}
    (h : PsT X κ W σ H O Q ((a ρ).bind f)) (k : ∀ b ρ1 H1 O1, Fr X.K κ H1 σ ρ1 O1 → PsT X κ W σ H1 O1 Q (f b ρ1) → P b H1) : PsT X κ W σ H O P (a ρ) := by
  cases h1 : a ρ with
  | stuck => rw [h1] at h; exact h
  | exn n ρ1 => rw [h1] at h; exact h
  | ok b ρ1 =>
    rw [h1, R.bind_ok] at h
    intro H1 O1 F1 n1
    refine k b ρ1 H1 O1 F1 ?_
    cases h2 : f b ρ1 with
    | stuck => rw [h2] at h; exact h
    | exn n ρ2 => rw [h2] at h; exact fun H' O' F' n' => h H' O' F' (n1.trans n')
    | ok b2 ρ2 => rw [h2] at h; exact fun H' O' F' n' => h H' O' F' (n1.trans n')
theorem dw_and1 {a : Expr} {pos : Pos} {ca : Env → R Bool} (ha : DT X κ W a ca) : DW X κ W (.BoolOp .And [a] pos) ca := fun σ ρ H O Q F h => semW_of (pw_and1 (pt_sem X a)) (ha σ ρ H O Q F h)
theorem dw_or1 {a : Expr} {pos : Pos} {ca : Env → R Bool} (ha : DT X κ W a ca) : DW X κ W (.BoolOp .Or [a] pos) ca := fun σ ρ H O Q F h => semW_of (pw_or1 (pt_sem X a)) (ha σ ρ H O Q F h)
theorem dw_and {a b : Expr} {rest : List Expr} {pos : Pos} {ca cb : Env → R Bool} (ha : DT X κ W a ca) (hb : DW X κ W (.BoolOp .And (b :: rest) pos) cb) : DW X κ W (.BoolOp .And (a :: b :: rest) pos) (cAnd ca cb) := by
  intro σ ρ H O Q F h
  refine semW_of (pw_and (pt_sem X a) (pw_sem X _)) (ha σ ρ H O _ F ?_)
  refine PsT_bind h fun x ρ1 H1 O1 F1 q => ?_
  cases x with
  | true => rw [if_pos rfl] at q ⊢; exact hb σ ρ1 H1 O1 Q F1 q
  | false => rw [if_neg Bool.false_ne_true] at q ⊢; exact q H1 O1 F1 Nx.refl
theorem dw_or {a b : Expr} {rest : List Expr} {pos : Pos} {ca cb : Env → R Bool} (ha : DT X κ W a ca) (hb : DW X κ W (.BoolOp .Or (b :: rest) pos) cb) : DW X κ W (.BoolOp .Or (a :: b :: rest) pos) (cOr ca cb) := by
  intro σ ρ H O Q F h
  refine semW_of (pw_or (pt_sem X a) (pw_sem X _)) (ha σ ρ H O _ F ?_)
  refine PsT_bind h fun x ρ1 H1 O1 F1 q => ?_
  cases x with
  | true => rw [if_pos rfl] at q ⊢; exact q H1 O1 F1 Nx.refl
  | false => rw [if_neg Bool.false_ne_true] at q ⊢; exact hb σ ρ1 H1 O1 Q F1 q
theorem dt_w {e : Expr} {c : Env → R Bool} (h : DW X κ W e c) : DT X κ W e c := fun σ ρ H O Q F q => semT_of (pw_sem X e).pt (h σ ρ H O Q F q)
theorem dt_not {a : Expr} {pos : Pos} {ca : Env → R Bool} (ha : DT X κ W a ca) : DT X κ W (.UnaryOp .Not a pos) (cNot ca) := by
  intro σ ρ H O Q F h
  refine semT_of (pt_not (pt_sem X a)) (ha σ ρ H O _ F ?_)
  exact PsT_bind h fun x ρ1 H1 O1 F1 q => q H1 O1 F1 Nx.refl
/-! ### and, or, not as values (bools) -/
def cBl (a : Env → R Bool) : Env → R C := fun ρ => (a ρ).bind fun b ρ1 => .ok (.v (.bl b)) ρ1
theorem PsE_then {σ : L2.St} {H : Hp} {O : Nat → List Addr} {Q : VK} {a : Env → R C} {f : Bool → Env → R Bool} {ρ : Env} {P : VK}
    (h : PsE X κ W σ H O Q (cBl (fun ρ => (cTest a ρ).bind f) ρ)) (k : ∀ b ρ1 H1 O1, Fr X.K κ H1 σ ρ1 O1 → PsE X κ W σ H1 O1 Q (cBl (f b) ρ1) → P (.bl b) H1) : PsE X κ W σ H O P (a ρ) := by
  unfold cBl cTest at h
  dsimp only at h
  cases h1 : a ρ with
  | stuck => rw [h1] at h; exact h
  | exn n ρ1 => rw [h1] at h; exact h
  | ok x ρ1 =>
    rw [h1, R.bind_ok] at h
    split at h
    · rename_i b
      rw [R.bind_ok] at h
      intro v H1 O1 ov F1 r1 d1 n1
      obtain ⟨_, rz⟩ := r1
      unfold Rz at rz
      subst rz
      refine k b ρ1 H1 O1 F1 ?_
      unfold cBl
      cases h2 : f b ρ1 with
      | stuck => rw [h2] at h; exact h
      | exn n ρ2 => rw [h2] at h; exact fun H' O' F' n' => h H' O' F' (n1.trans n')
      | ok b2 ρ2 => rw [h2] at h; exact fun v H' O' ov F' r' d' n' => h v H' O' ov F' r' d' (n1.trans n')
    · exact h.elim
theorem de_one {a : Expr} {op : BoolOp} {pos : Pos} {ca : Env → R C} (ha : DE X κ W a ca) : DE X κ W (.BoolOp op [a] pos) ca := fun σ ρ H O Q F h => sem_of (pe_one (pe_sem X a)) (ha σ ρ H O Q F h)
theorem de_oneB {a : Expr} {op : BoolOp} {pos : Pos} {ca : Env → R C} (ha : DE X κ W a ca) : DE X κ W (.BoolOp op [a] pos) (cBl (cTest ca)) := by
  intro σ ρ H O Q F h
  refine sem_of (pe_one (pe_sem X a)) (ha σ ρ H O Q F ?_)
  unfold cBl cTest at h
  cases h1 : ca ρ with
  | stuck => rw [h1] at h; exact h
  | exn n ρ1 => rw [h1] at h; exact h
  | ok x ρ1 =>
    rw [h1, R.bind_ok] at h
    split at h
    · exact h
    · exact h.elim
theorem de_and {a b : Expr} {rest : List Expr} {pos : Pos} {ca : Env → R C} {cb : Env → R Bool} (ha : DE X κ W a ca) (hb : DE X κ W (.BoolOp .And (b :: rest) pos) (cBl cb)) : DE X κ W (.BoolOp .And (a :: b :: rest) pos) (cBl (cAnd (cTest ca) cb)) := by
  intro σ ρ H O Q F h
  refine sem_of (pe_and (pe_sem X a) (pe_sem X _)) (ha σ ρ H O _ F ?_)
  refine PsE_then h fun x ρ1 H1 O1 F1 q => ⟨x, rfl, ?_⟩
  cases x with
  | true => exact hb σ ρ1 H1 O1 Q F1 q
  | false => exact q _ H1 O1 [] F1 ⟨rfl, by unfold Rz; rfl⟩ (fun a ha => by simp at ha) Nx.refl
theorem de_or {a b : Expr} {rest : List Expr} {pos : Pos} {ca : Env → R C} {cb : Env → R Bool} (ha : DE X κ W a ca) (hb : DE X κ W (.BoolOp .Or (b :: rest) pos) (cBl cb)) : DE X κ W (.BoolOp .Or (a :: b :: rest) pos) (cBl (cOr (cTest ca) cb)) := by
  intro σ ρ H O Q F h
  refine sem_of (pe_or (pe_sem X a) (pe_sem X _)) (ha σ ρ H O _ F ?_)
  refine PsE_then h fun x ρ1 H1 O1 F1 q => ⟨x, rfl, ?_⟩
  cases x with
  | false => exact hb σ ρ1 H1 O1 Q F1 q
  | true => exact q _ H1 O1 [] F1 ⟨rfl, by unfold Rz; rfl⟩ (fun a ha => by simp at ha) Nx.refl
theorem de_not {a : Expr} {pos : Pos} {ca : Env → R C} (ha : DE X κ W a ca) : DE X κ W (.UnaryOp .Not a pos) (cBl (cNot (cTest ca))) := by
  intro σ ρ H O Q F h
  refine sem_of (pe_not (pe_sem X a)) (ha σ ρ H O _ F ?_)
  exact PsE_then h fun x ρ1 H1 O1 F1 q => ⟨x, rfl, q _ H1 O1 [] F1 ⟨rfl, by unfold Rz; rfl⟩ (fun a ha => by simp at ha) Nx.refl⟩
/-! ### a if t else b -/
def cIf {α : Type} (t : Env → R Bool) (a b : Env → R α) : Env → R α := fun ρ => (t ρ).bind fun x ρ1 => if x = true then a ρ1 else b ρ1
theorem de_if {t a b : Expr} {pos : Pos} {ct : Env → R Bool} {ca cb : Env → R C} (ht : DT X κ W t ct) (ha : DE X κ W a ca) (hb : DE X κ W b cb) : DE X κ W (.IfExp t a b pos) (cIf ct ca cb) := by
  intro σ ρ H O Q F h
  refine sem_of (pe_ifExp (pt_sem X t) (pe_sem X a) (pe_sem X b)) (ht σ ρ H O _ F ?_)
  unfold cIf at h
  cases h1 : ct ρ with
  | stuck => rw [h1] at h; exact h
  | exn n ρ1 => rw [h1] at h; exact h
  | ok x ρ1 =>
    rw [h1, R.bind_ok] at h
    intro H1 O1 F1 n1
    have key : ∀ {e : Expr} {c : Env → R C}, DE X κ W e c → PsE X κ W σ H O Q (c ρ1) → semE X e σ H1 Q := fun {e c} he hq => by
      refine he σ ρ1 H1 O1 Q F1 ?_
      cases h2 : c ρ1 with
      | stuck => rw [h2] at hq; exact hq
      | exn n ρ2 => rw [h2] at hq; exact fun H' O' F' n' => hq H' O' F' (n1.trans n')
      | ok y ρ2 => rw [h2] at hq; exact fun v H' O' ov F' r' d' n' => hq v H' O' ov F' r' d' (n1.trans n')
    cases x with
    | true => rw [if_pos rfl] at h ⊢; exact key ha h
    | false => rw [if_neg Bool.false_ne_true] at h ⊢; exact key hb h

/-! ### displays, calls: an operation on a list of operands -/
def vOf : C → Option D
  | .v d => some d
  | _ => none
def vsOf : List C → Option (List D)
  | [] => some []
  | c :: cs => match vOf c, vsOf cs with
    | some d, some ds => some (d :: ds)
    | _, _ => none
theorem RCs_vs {K : PySem.W.Frag} {H : Hp} : ∀ {cs : List C} {vs : List V} {ds : List D}, RCs K κ H cs vs → vsOf cs = some ds → Rzs K κ H ds vs
  | [], _, _, h, e => by unfold RCs at h; subst h; cases e; exact Rzs.nil
  | c :: cs, _, ds, h, e => by
    unfold RCs at h
    obtain ⟨v, r, rfl, ⟨ov, hc⟩, hr⟩ := h
    unfold vsOf at e
    split at e
    · rename_i d ds' e1 e2
      cases e
      cases c with
      | v d' => cases e1; exact Rzs.cons hc.2 (RCs_vs hr e2)
      | _ => cases e1
    · cases e
def gTup : List C → Option C := fun cs => match vsOf cs with
  | some ds => if ds.length ≤ sizeLine then some (.v (.tup ds)) else none
  | none => none
def gLst : List C → Option C := fun cs => match vsOf cs with
  | some ds => if ds.length ≤ sizeLine then some (.l ds) else none
  | none => none
theorem same_upd {H : Hp} {p : Addr} {o : HO} (h : H p = none) : Same H (upd H p o) := fun b u e => by
  rw [upd_ne (ne_of_none e h)]; exact e
theorem opn_tup : OpN X κ (fun vs H Q => vs.length ≤ sizeLine ∧ NewT vs H Q) gTup := by
  intro cs c vs H Q e r k
  unfold gTup at e
  split at e
  · rename_i ds hds
    split at e
    · rename_i hz
      cases e
      have rz := RCs_vs r hds
      refine ⟨by rw [← rz.length]; exact hz, fun p o hp hd => k _ _ [] ⟨rfl, ?_⟩ (same_upd hp) fun a ha => by simp at ha⟩
      unfold Rz
      exact ⟨p, vs, rfl, ⟨o, upd_same, hd⟩, Rzs.st (Sb.same (same_upd hp)) _ _ rz⟩
    · cases e
  · cases e
theorem opn_lst : OpN X κ (fun vs H Q => vs.length ≤ sizeLine ∧ ∀ p, H p = none → Q (.ref p) (upd H p (.lst vs))) gLst := by
  intro cs c vs H Q e r k
  unfold gLst at e
  split at e
  · rename_i ds hds
    split at e
    · rename_i hz
      cases e
      have rz := RCs_vs r hds
      refine ⟨by rw [← rz.length]; exact hz, fun p hp => k _ _ [p] ⟨p, vs, rfl, rfl, upd_same, Rzs.st (Sb.same (same_upd hp)) _ _ rz⟩ (same_upd hp) fun a ha => ?_⟩
      have : a = p := by simpa using ha
      rw [this]; exact hp
    · cases e
  · cases e
theorem de_tup {es : List Expr} {k : Nat} {pos : Pos} {cl : Env → R (List C)} (hl : DL X κ W es cl) (hs : es.all noStar = true := by rfl) : DE X κ W (.Tuple es k pos) (cOp gTup cl) :=
  fun σ ρ H O Q F h => sem_of (pe_tupN (pa_semB hs)) (hl σ ρ H O _ F (op_end opn_tup h))
theorem de_lst {es : List Expr} {pos : Pos} {cl : Env → R (List C)} (hl : DL X κ W es cl) (hs : es.all noStar = true := by rfl) : DE X κ W (.List es pos) (cOp gLst cl) :=
  fun σ ρ H O Q F h => sem_of (pe_lst (pa_semB hs)) (hl σ ρ H O _ F (op_end opn_lst h))
/-- f(e, ..), f a built-in function -/
theorem de_callB {id : String} {x : Str} {e : Expr} {es : List Expr} {p pos : Pos} {g : List C → Option C} {cl : Env → R (List C)} (ho : OpN X κ (semC X (.builtin id)) g) (hm : X.mg x = none) (hv : bootBuiltins x = some (.builtin id)) (hl : DL X κ W (e :: es) cl)
    (hg : Gl X x := by rfl) (hn : x ≠ "__name__" := by decide) (hdb : (x == ("__debug__" : Str)) = false := by decide) (hs : (e :: es).all noStar = true := by rfl) : DE X κ W (.Call (.Name x p) (e :: es) [] pos) (cOp g cl) :=
  fun σ ρ H O Q F h => sem_of (pe_callB (callr_sem X _) hg hm hv (pa_semB hs) hn hdb (starEach_of (by rw [List.all_cons, Bool.and_eq_true] at hs; exact hs.1) es X.env) (plainStar (by rw [List.all_cons, Bool.and_eq_true] at hs; exact hs.2))) (hl σ ρ H O _ F (op_end ho h))
/-- T(e, ..), T a built-in type -/
theorem de_callT {T : String} {x : Str} {e : Expr} {es : List Expr} {p pos : Pos} {g : List C → Option C} {cl : Env → R (List C)} (ho : OpN X κ (semC X (.type T)) g) (hm : X.mg x = none) (hv : bootBuiltins x = some (.type T)) (hl : DL X κ W (e :: es) cl)
    (hg : Gl X x := by rfl) (hn : x ≠ "__name__" := by decide) (hdb : (x == ("__debug__" : Str)) = false := by decide) (hs : (e :: es).all noStar = true := by rfl) : DE X κ W (.Call (.Name x p) (e :: es) [] pos) (cOp g cl) :=
  fun σ ρ H O Q F h => sem_of (pe_callTy (callr_sem X _) hg hm hv (pa_semB hs) hn hdb (starEach_of (by rw [List.all_cons, Bool.and_eq_true] at hs; exact hs.1) es X.env) (plainStar (by rw [List.all_cons, Bool.and_eq_true] at hs; exact hs.2))) (hl σ ρ H O _ F (op_end ho h))
/-- a op1 b op2 c; the middle one a slot or a constant (it is read twice) -/
def cChain (g g' : List C → Option C) (cab : Env → R (List C)) (cc : Env → R (List C)) : Env → R Bool := fun ρ => (cab ρ).bind fun ab ρ1 => match ab with
  | [a, b] => match g [a, b] with
    | some (.v (.bl true)) => (cc ρ1).bind fun cs ρ2 => match cs with
      | [c] => match g' [b, c] with
        | some (.v (.bl k)) => .ok k ρ2
        | _ => .stuck
      | _ => .stuck
    | some (.v (.bl false)) => .ok false ρ1
    | _ => .stuck
  | _ => .stuck
end
end SW

set_option Elab.async false
set_option linter.all false
set_option maxRecDepth 100000
set_option maxHeartbeats 4000000
/-! Sw4: statements. -/
namespace SW
open PySem PySem.Spec PyProof.Rows L2
/-- the slots that code leaves as they are -/
def Kp (kp : List Nat) (σ σ' : L2.St) : Prop := ∀ i ∈ kp, σ'[i]? = σ[i]?
theorem Kp.refl {kp : List Nat} {σ : L2.St} : Kp kp σ σ := fun _ _ => rfl
theorem Kp.trans {kp : List Nat} {σ σ1 σ2 : L2.St} (a : Kp kp σ σ1) (b : Kp kp σ1 σ2) : Kp kp σ σ2 := fun i hi => (b i hi).trans (a i hi)
theorem Kp.set {kp : List Nat} {σ : L2.St} {i : Nat} {x : Option V} (h : i ∉ kp) : Kp kp σ (σ.set i x) := fun j hj => List.getElem?_set_ne fun e => h (by rw [e]; exact hj)
section
variable (X : Cx) (κ : String → Addr) (W : WX) (kp : List Nat)
def PsS (σ : L2.St) (H : Hp) (O : Nat → List Addr) (D : Ends) : R Fl → Prop
  | .ok .nx ρ' => ∀ σ' H' O', Fr X.K κ H' σ' ρ' O' → Kp kp σ σ' → Nx H H' O O' [] → D.nx σ' H'
  | .ok (.rt c) ρ' => ∀ v σ' H' O' ov, Fr X.K κ H' σ' ρ' O' → RC X.K κ H' c v ov → (∀ a ∈ ov, ∀ i, a ∉ O' i) → Kp kp σ σ' → Nx H H' O O' ov → D.rt v H'
  | .exn n ρ' => ∀ σ' H' O', Fr X.K κ H' σ' ρ' O' → Kp kp σ σ' → Nx H H' O O' [] → W (.ref (κ n)) none σ' H'
  | .stuck => False
def DS (st : Stmt) (c : Env → R Fl) : Prop := ∀ σ ρ H O D, Fr X.K κ H σ ρ O → PsS X κ W kp σ H O D (c ρ) → semS X st D σ H
def DSs (st : List Stmt) (c : Env → R Fl) : Prop := ∀ σ ρ H O D, Fr X.K κ H σ ρ O → PsS X κ W kp σ H O D (c ρ) → semSs X st D σ H
end
section
variable {X : Cx} {κ : String → Addr} {W : WX} {kp : List Nat}
/-- seen from an earlier state -/
theorem PsS.back {σ σ1 : L2.St} {H H1 : Hp} {O O1 : Nat → List Addr} {D : Ends} {r : R Fl} (h : PsS X κ W kp σ H O D r) (k : Kp kp σ σ1) (n : Nx H H1 O O1 []) : PsS X κ W kp σ1 H1 O1 D r := by
  match r, h with
  | .ok .nx ρ', h => exact fun σ' H' O' F' k' n' => h σ' H' O' F' (k.trans k') (n.trans n')
  | .ok (.rt c) ρ', h => exact fun v σ' H' O' ov F' r' d' k' n' => h v σ' H' O' ov F' r' d' (k.trans k') (n.trans n')
  | .exn m ρ', h => exact fun σ' H' O' F' k' n' => h σ' H' O' F' (k.trans k') (n.trans n')
  | .stuck, h => exact h.elim
theorem semS_mono {st : Stmt} {σ : L2.St} {H : Hp} {D D' : Ends} (h : semS X st D σ H) (m1 : ∀ σ' H', D.nx σ' H' → D'.nx σ' H') (m2 : ∀ v H', D.rt v H' → D'.rt v H') (m3 : ∀ σ' H', D.bk σ' H' → D'.bk σ' H') (m4 : ∀ σ' H', D.ct σ' H' → D'.ct σ' H') : semS X st D' σ H := fun pins s I =>
  thn (h pins s I) fun f s' q => by
    cases f with
    | next => obtain ⟨a, b, c, d⟩ := q; exact ⟨a, b, c, m1 _ _ d⟩
    | brk => obtain ⟨a, b, c, d⟩ := q; exact ⟨a, b, c, m3 _ _ d⟩
    | cont => obtain ⟨a, b, c, d⟩ := q; exact ⟨a, b, c, m4 _ _ d⟩
    | ret u => obtain ⟨v, a, b, c, r, d⟩ := q; exact ⟨v, a, b, c, r, m2 _ _ d⟩
/-! ### blocks -/
def sNil : Env → R Fl := fun ρ => .ok .nx ρ
def sSeq (a b : Env → R Fl) : Env → R Fl := fun ρ => match a ρ with
  | .ok .nx ρ1 => b ρ1
  | r => r
theorem ds_nil : DSs X κ W kp [] sNil := fun σ ρ H O D F h => semSs_of pss_nil (h σ H O F Kp.refl Nx.refl)
theorem ds_one {st : Stmt} {c : Env → R Fl} (h1 : DS X κ W kp st c) : DSs X κ W kp [st] c := fun σ ρ H O D F h => semSs_of (pss_one (ps_sem X st)) (h1 σ ρ H O D F h)
theorem ds_cons {st : Stmt} {rest : List Stmt} {a b : Env → R Fl} (h1 : DS X κ W kp st a) (h2 : DSs X κ W kp rest b) : DSs X κ W kp (st :: rest) (sSeq a b) := by
  intro σ ρ H O D F h
  refine semSs_of (pss_cons (ps_sem X st) (pss_sem X rest)) (h1 σ ρ H O _ F ?_)
  unfold sSeq at h
  match e : a ρ with
  | .ok .nx ρ1 =>
    rw [e] at h
    exact fun σ' H' O' F' k' n' => h2 σ' ρ1 H' O' D F' (h.back k' n')
  | .ok (.rt c) ρ1 => rw [e] at h; exact h
  | .exn n ρ1 => rw [e] at h; exact h
  | .stuck => rw [e] at h; exact h
/-! ### small statements -/
theorem ds_pass {pos : Pos} : DS X κ W kp (.Pass pos) sNil := fun σ ρ H O D F h => semS_of ps_pass (h σ H O F Kp.refl Nx.refl)
theorem ds_doc {x j pos pos'} : DS X κ W kp (.Expr (.Constant (.str x) j pos) pos') sNil := fun σ ρ H O D F h => semS_of ps_doc (h σ H O F Kp.refl Nx.refl)
def sRet (c : Env → R C) : Env → R Fl := fun ρ => (c ρ).bind fun x ρ1 => .ok (.rt x) ρ1
theorem ds_ret {e : Expr} {pos : Pos} {c : Env → R C} (he : DE X κ W e c) : DS X κ W kp (.Return (some e) pos) (sRet c) := by
  intro σ ρ H O D F h
  refine semS_of (ps_ret (pe_sem X e)) (he σ ρ H O _ F ?_)
  unfold sRet at h
  cases e1 : c ρ with
  | stuck => rw [e1] at h; exact h
  | exn n ρ1 => rw [e1] at h; exact fun H' O' F' n' => h σ H' O' F' Kp.refl n'
  | ok x ρ1 => rw [e1] at h; exact fun v H' O' ov F' r' d' n' => h v σ H' O' ov F' r' d' Kp.refl n'
def sRetN : Env → R Fl := fun ρ => .ok (.rt (.v .non)) ρ
theorem ds_retN {pos : Pos} : DS X κ W kp (.Return none pos) sRetN := fun σ ρ H O D F h => semS_of ps_retN (h .non σ H O [] F ⟨rfl, by unfold Rz; rfl⟩ (fun a ha => by simp at ha) Kp.refl Nx.refl)
/-- return x, whatever x holds -/
def cTake (i : Nat) : Env → R C := fun ρ => match ρ[i]? with
  | some (some c) => .ok c (ρ.set i none)
  | _ => .stuck
theorem Fr.drop {H : Hp} {σ : L2.St} {ρ : Env} {O : Nat → List Addr} (F : Fr X.K κ H σ ρ O) {i : Nat} : Fr X.K κ H σ (ρ.set i none) (fun j => if j = i then [] else O j) where
  len := by simp [F.len]
  cv := fun j c' e => by
    by_cases hj : j = i
    · subst hj
      by_cases hl : j < ρ.length
      · rw [List.getElem?_set_self hl] at e; cases e
      · rw [List.getElem?_eq_none (by simpa using hl)] at e; cases e
    · rw [List.getElem?_set_ne (Ne.symm hj)] at e
      simp only [if_neg hj]; exact F.cv j c' e
  em := fun j h => by
    by_cases hj : j = i
    · simp [hj]
    · simp only [if_neg hj]
      exact F.em j fun c' e => h c' (by rw [List.getElem?_set_ne (Ne.symm hj)]; exact e)
  dj := fun j k a h1 h2 => by
    by_cases hj : j = i
    · simp [hj] at h1
    · by_cases hk : k = i
      · simp [hk] at h2
      · simp only [if_neg hj] at h1; simp only [if_neg hk] at h2
        exact F.dj j k a h1 h2
theorem de_take (i : Nat) {x : Str} {pos : Pos} (hN : X.N[i]? = some x := by rfl) (hv : Vis X.env.scope x := by first | exact Or.inl rfl | exact Or.inr (Or.inl rfl) | exact Or.inr (Or.inr rfl)) (hd : (x == ("__debug__" : Str)) = false := by decide)
    (hcd : (x == ("__classdict__" : Str)) = false := by decide) : DE X κ W (.Name x pos) (cTake i) := by
  intro σ ρ H O Q F h
  unfold cTake at h
  split at h
  · rename_i c hc
    obtain ⟨v, ev, rc⟩ := F.cv i _ hc
    refine sem_of (pe_var hN hv hd hcd) ⟨v, ev, h v H _ (O i) F.drop rc (fun a ha j hj => ?_) ⟨fun _ _ e _ => e, fun a ha => ?_⟩⟩
    · by_cases q : j = i
      · simp [q] at hj
      · simp only [if_neg q] at hj; exact q (F.dj j i a hj ha)
    · rcases ha with ha | ⟨j, hj⟩
      · exact .inl ⟨i, ha⟩
      · by_cases q : j = i
        · simp [q] at hj
        · simp only [if_neg q] at hj; exact .inl ⟨j, hj⟩
  · exact h.elim
/-- an expression whose value is dropped -/
def sEx (c : Env → R C) : Env → R Fl := fun ρ => (c ρ).bind fun _ ρ1 => .ok .nx ρ1
theorem ds_ex {e : Expr} {pos : Pos} {c : Env → R C} (he : DE X κ W e c) (hs : swapsWith e none pos.line X.env = pure false := by rfl) : DS X κ W kp (.Expr e pos) (sEx c) := by
  intro σ ρ H O D F h
  refine semS_of (ps_expr (pe_sem X e) hs) (he σ ρ H O _ F ?_)
  unfold sEx at h
  cases e1 : c ρ with
  | stuck => rw [e1] at h; exact h
  | exn n ρ1 => rw [e1] at h; exact fun H' O' F' n' => h σ H' O' F' Kp.refl n'
  | ok x ρ1 => rw [e1] at h; exact fun v H' O' ov F' r' d' n' => h σ H' O' F' Kp.refl n'.drop
/-! ### if -/
theorem ds_if {t : Expr} {a b : List Stmt} {pos : Pos} {ct : Env → R Bool} {ca cb : Env → R Fl} (ht : DT X κ W t ct) (ha : DSs X κ W kp a ca) (hb : DSs X κ W kp b cb) : DS X κ W kp (.If t a b pos) (cIf ct ca cb) := by
  intro σ ρ H O D F h
  refine semS_of (ps_if (pt_sem X t) (pss_sem X a) (pss_sem X b)) (ht σ ρ H O _ F ?_)
  unfold cIf at h
  cases e1 : ct ρ with
  | stuck => rw [e1] at h; exact h
  | exn n ρ1 => rw [e1] at h; exact fun H' O' F' n' => h σ H' O' F' Kp.refl n'
  | ok x ρ1 =>
    rw [e1, R.bind_ok] at h
    intro H1 O1 F1 n1
    cases x with
    | true => rw [if_pos rfl] at h ⊢; exact ha σ ρ1 H1 O1 D F1 (h.back Kp.refl n1)
    | false => rw [if_neg Bool.false_ne_true] at h ⊢; exact hb σ ρ1 H1 O1 D F1 (h.back Kp.refl n1)
/-! ### targets -/
/-- what a target is: a slot, or a tuple of targets -/
inductive Tg where
  | nm (i : Nat) | tp (ts : List Tg)
mutual
def Tg.put : Tg → C → Env → Option Env
  | .nm i, c, ρ => if i < ρ.length then some (ρ.set i (some c)) else none
  | .tp ts, c, ρ => match c with
    | .v (.tup ds) => Tg.puts ts ds ρ
    | _ => none
def Tg.puts : List Tg → List D → Env → Option Env
  | [], [], ρ => some ρ
  | t :: ts, d :: ds, ρ => match t.put (.v d) ρ with
    | some ρ1 => Tg.puts ts ds ρ1
    | none => none
  | _, _, _ => none
end
mutual
theorem put_length : ∀ {t : Tg} {c : C} {ρ ρ' : Env}, t.put c ρ = some ρ' → ρ'.length = ρ.length
  | .nm i, c, ρ, ρ', e => by
    unfold Tg.put at e
    split at e
    · cases e; simp
    · cases e
  | .tp ts, c, ρ, ρ', e => by
    unfold Tg.put at e
    split at e
    · exact puts_length e
    · cases e
theorem puts_length : ∀ {ts : List Tg} {ds : List D} {ρ ρ' : Env}, Tg.puts ts ds ρ = some ρ' → ρ'.length = ρ.length
  | [], [], ρ, ρ', e => by unfold Tg.puts at e; cases e; rfl
  | [], d :: ds, ρ, ρ', e => by unfold Tg.puts at e; cases e
  | t :: ts, [], ρ, ρ', e => by unfold Tg.puts at e; cases e
  | t :: ts, d :: ds, ρ, ρ', e => by
    unfold Tg.puts at e
    split at e
    · rename_i ρ1 e1
      rw [puts_length e, put_length e1]
    · cases e
end
mutual
def Tg.slots : Tg → List Nat
  | .nm i => [i]
  | .tp ts => Tg.slotsL ts
def Tg.slotsL : List Tg → List Nat
  | [] => []
  | t :: ts => t.slots ++ Tg.slotsL ts
end
/-- all slots but these are as they were -/
def But (is : List Nat) (σ σ' : L2.St) : Prop := ∀ i, i ∉ is → σ'[i]? = σ[i]?
theorem But.keeps {is : List Nat} {σ σ' : L2.St} (h : But is σ σ') (d : ∀ i ∈ is, i ∉ kp) : Kp kp σ σ' := fun i hi => h i fun q => d i q hi
/-- behind a target: the frame with its new slots -/
def PsG (κ : String → Addr) (X : Cx) (is : List Nat) (σ : L2.St) (H : Hp) (O : Nat → List Addr) (ov : List Addr) (Q : L2.St → Hp → Prop) (ρ' : Env) : Prop :=
  ∀ σ' O', Fr X.K κ H σ' ρ' O' → But is σ σ' → (∀ a, (∃ i, a ∈ O' i) → (∃ i, a ∈ O i) ∨ a ∈ ov) → Q σ' H
def semG (X : Cx) (tg : Expr) : TG := fun v σ H Q => ∀ pins s u, Inv X pins σ H s → RelV v u → wpAny (model X.prog X.w) X.A (assign tg X.env u) (fun _ s' => ∃ σ' H', Inv X pins σ' H' s' ∧ Q σ' H') X.xe s
theorem pg_sem (X : Cx) (tg : Expr) : PG X tg (semG X tg) := ⟨fun pins s σ H v u Q I r h => h pins s u I r⟩
theorem semG_of {tg : Expr} {t : TG} {v : V} {σ : L2.St} {H : Hp} {Q : L2.St → Hp → Prop} (p : PG X tg t) (h : t v σ H Q) : semG X tg v σ H Q := fun pins s u I r => p.run pins s σ H v u Q I r h
def semGs (X : Cx) (ts : List Expr) : TGs := fun vs σ H Q => ∀ pins s us, Inv X pins σ H s → Vals vs us → wpAny (model X.prog X.w) X.A (assignInOrder ((assignEach ts X.env).map (·.2)) us) (fun _ s' => ∃ σ' H', Inv X pins σ' H' s' ∧ Q σ' H') X.xe s
theorem pgs_sem (X : Cx) (tg : List Expr) : PGs X tg (semGs X tg) := ⟨fun pins s σ H v u Q I r h => h pins s u I r⟩
theorem semGs_of {tg : List Expr} {t : TGs} {v : List V} {σ : L2.St} {H : Hp} {Q : L2.St → Hp → Prop} (p : PGs X tg t) (h : t v σ H Q) : semGs X tg v σ H Q := fun pins s u I r => p.run pins s σ H v u Q I r h
variable (X κ) in
def DG (tg : Expr) (t : Tg) : Prop := ∀ σ ρ ρ' H O c v ov Q, Fr X.K κ H σ ρ O → RC X.K κ H c v ov → (∀ a ∈ ov, ∀ i, a ∉ O i) → t.put c ρ = some ρ' → PsG κ X t.slots σ H O ov Q ρ' → semG X tg v σ H Q
variable (X κ) in
def DGs (tgs : List Expr) (ts : List Tg) : Prop := ∀ σ ρ ρ' H O ds vs Q, Fr X.K κ H σ ρ O → Rzs X.K κ H ds vs → Tg.puts ts ds ρ = some ρ' → PsG κ X (Tg.slotsL ts) σ H O [] Q ρ' → semGs X tgs vs σ H Q
theorem Fr.bind {H : Hp} {σ : L2.St} {ρ : Env} {O : Nat → List Addr} (F : Fr X.K κ H σ ρ O) {i : Nat} {c : C} {v : V} {ov : List Addr} {Q : L2.St → Hp → Prop} (hi : i < ρ.length) (r : RC X.K κ H c v ov) (d : ∀ a ∈ ov, ∀ j, a ∉ O j)
    (h : PsG κ X [i] σ H O ov Q (ρ.set i (some c))) : Q (σ.set i (some v)) H := by
  refine h _ _ (F.put hi r fun a ha j _ => d a ha j) (fun j hj => List.getElem?_set_ne fun e => hj (by simp [e])) fun a ⟨j, hj⟩ => ?_
  by_cases q : j = i
  · simp only [if_pos q] at hj; exact .inr hj
  · simp only [if_neg q] at hj; exact .inl ⟨j, hj⟩
theorem dg_n (i : Nat) {x : Str} {pos : Pos} (hN : X.N.Nodup) (hi : X.N[i]? = some x := by rfl) (hx : Loc X.env.scope x := by first | exact Or.inl rfl | exact Or.inr rfl)
    (hf : X.fn x = true ∨ X.env.scope.names.lookup x = some .local := by first | exact .inl rfl | exact .inr rfl) : DG X κ (.Name x pos) (.nm i) := by
  intro σ ρ ρ' H O c v ov Q F r d e h
  unfold Tg.put at e
  split at e
  · rename_i hl
    cases e
    exact semG_of (pg_name hN hi hx hf) (F.bind hl r d h)
  · cases e
theorem dgs_nil : DGs X κ [] [] := by
  intro σ ρ ρ' H O ds vs Q F r e h
  cases ds with
  | nil =>
    unfold Tg.puts at e
    cases e
    unfold Rzs at r
    exact semGs_of pgs_nil ⟨r, h σ O F (fun _ _ => rfl) fun a ha => .inl ha⟩
  | cons d ds => unfold Tg.puts at e; cases e
theorem dgs_cons {tg : Expr} {tgs : List Expr} {t : Tg} {ts : List Tg} (h1 : DG X κ tg t) (h2 : DGs X κ tgs ts)
    (hs : (assignEach (tg :: tgs) X.env).map (·.2) = assign tg X.env :: (assignEach tgs X.env).map (·.2) := by rfl) : DGs X κ (tg :: tgs) (t :: ts) := by
  intro σ ρ ρ' H O ds vs Q F r e h
  cases ds with
  | nil => unfold Tg.puts at e; cases e
  | cons d ds =>
    unfold Rzs at r
    obtain ⟨v, vr, rfl, r1, r2⟩ := r
    unfold Tg.puts at e
    split at e
    · rename_i ρ1 e1
      refine semGs_of (pgs_cons (pg_sem X tg) (pgs_sem X tgs) hs) ⟨v, vr, rfl, ?_⟩
      refine h1 σ ρ ρ1 H O (.v d) v [] _ F ⟨rfl, r1⟩ (fun a ha => by simp at ha) e1 ?_
      intro σ1 O1 F1 k1 n1
      refine h2 σ1 ρ1 ρ' H O1 ds vr Q F1 r2 e ?_
      intro σ2 O2 F2 k2 n2
      refine h σ2 O2 F2 (fun i hi => ?_) fun a ha => ?_
      · unfold Tg.slotsL at hi
        rw [List.mem_append, not_or] at hi
        exact (k2 i hi.2).trans (k1 i hi.1)
      · rcases n2 a ha with z | z
        · exact n1 a z
        · simp at z
    · cases e
theorem dg_t {es : List Expr} {k : Nat} {pos : Pos} {ts : List Tg} (hc : X.calm = true) (h : DGs X κ es ts)
    (hn : (assignEach es X.env).length = es.length := by rfl) (hst : (assignEach es X.env).findIdx? (·.1) = none := by rfl) (hl : es.length = ts.length := by rfl) : DG X κ (.Tuple es k pos) (.tp ts) := by
  intro σ ρ ρ' H O c v ov Q F r d e hq
  unfold Tg.put at e
  split at e
  · rename_i ds
    obtain ⟨eo, rz⟩ := r
    subst eo
    unfold Rz at rz
    obtain ⟨a, vs, rfl, ht, rzs⟩ := rz
    have len : ∀ {ts : List Tg} {ds : List D} {ρ ρ' : Env}, Tg.puts ts ds ρ = some ρ' → ts.length = ds.length := by
      intro ts
      induction ts with
      | nil => intro ds ρ ρ' e; cases ds with
        | nil => rfl
        | cons d ds => unfold Tg.puts at e; cases e
      | cons t ts ih => intro ds ρ ρ' e; cases ds with
        | nil => unfold Tg.puts at e; cases e
        | cons d ds =>
          unfold Tg.puts at e
          split at e
          · simp [ih e]
          · cases e
    refine semG_of (pg_tup hc (pgs_sem X es) hn hst) ⟨a, vs, rfl, ht.sqt, ?_, ?_⟩
    · rw [← rzs.length, ← len e, hl]
    · exact h σ ρ ρ' H O ds vs Q F rzs e hq
  · cases e
/-! ### target = value -/
def sSet (t : Tg) (c : Env → R C) : Env → R Fl := fun ρ => (c ρ).bind fun x ρ1 => match t.put x ρ1 with
  | some ρ2 => .ok .nx ρ2
  | none => .stuck
theorem PsS_set {σ : L2.St} {H : Hp} {O : Nat → List Addr} {D : Ends} {t : Tg} {c : Env → R C} {ρ : Env} (h : PsS X κ W kp σ H O D (sSet t c ρ)) {P : VK}
    (k : ∀ x ρ1 ρ2 v H1 O1 ov, Fr X.K κ H1 σ ρ1 O1 → RC X.K κ H1 x v ov → (∀ a ∈ ov, ∀ i, a ∉ O1 i) → t.put x ρ1 = some ρ2 → PsG κ X t.slots σ H1 O1 ov D.nx ρ2 → P v H1) (hk : ∀ i ∈ t.slots, i ∉ kp) : PsE X κ W σ H O P (c ρ) := by
  unfold sSet at h
  cases e1 : c ρ with
  | stuck => rw [e1] at h; exact h
  | exn n ρ1 => rw [e1] at h; exact fun H' O' F' n' => h σ H' O' F' Kp.refl n'
  | ok x ρ1 =>
    rw [e1, R.bind_ok] at h
    intro v H1 O1 ov F1 r1 d1 n1
    split at h
    · rename_i ρ2 e2
      refine k x ρ1 ρ2 v H1 O1 ov F1 r1 d1 e2 fun σ' O' F' k' q' => ?_
      refine h σ' H1 O' F' (k'.keeps hk) ⟨fun a o ea s => n1.gw a o ea s, fun a ha => ?_⟩
      rcases ha with ha | ha
      · simp at ha
      · rcases q' a ha with z | z
        · exact n1.nw a (.inr z)
        · exact n1.nw a (.inl z)
    · exact h.elim
theorem ds_set {tg e : Expr} {pos : Pos} {t : Tg} {c : Env → R C} (hg : DG X κ tg t) (he : DE X κ W e c) (hk : ∀ i ∈ t.slots, i ∉ kp := by decide) (hs : swapsWithSole [tg] e pos.line X.env = pure false := by rfl) (hw : swappedStores [tg] e X.env = pure none := by rfl)
    (h1 : (assignEach [tg] X.env).map (·.2) = [assign tg X.env] := by rfl) : DS X κ W kp (.Assign [tg] e pos) (sSet t c) := by
  intro σ ρ H O D F h
  refine semS_of (ps_asg (pe_sem X e) (pg_sem X tg) hs hw h1) (he σ ρ H O _ F ?_)
  exact PsS_set h (fun x ρ1 ρ2 v H1 O1 ov F1 r1 d1 e2 q => hg σ ρ1 ρ2 H1 O1 x v ov _ F1 r1 d1 e2 q) hk
theorem ds_setN {i : Nat} {x : Str} {e : Expr} {pos pos' : Pos} {c : Env → R C} (hN : X.N.Nodup) (he : DE X κ W e c) (hi : X.N[i]? = some x := by rfl) (hx : Loc X.env.scope x := by first | exact Or.inl rfl | exact Or.inr rfl) (hk : i ∉ kp := by decide)
    (hs : swapsWith e (some (.Name x pos')) pos.line X.env = pure false := by rfl) (hf : X.fn x = true ∨ X.env.scope.names.lookup x = some .local := by first | exact .inl rfl | exact .inr rfl) : DS X κ W kp (.Assign [.Name x pos'] e pos) (sSet (.nm i) c) := by
  intro σ ρ H O D F h
  refine semS_of (ps_set hN hi hx (pe_sem X e) hs hf) (he σ ρ H O _ F ?_)
  refine PsS_set h (fun x ρ1 ρ2 v H1 O1 ov F1 r1 d1 e2 q => ?_) (fun (j : Nat) (hj : j ∈ (Tg.nm i).slots) => by simp [Tg.slots] at hj; subst hj; exact hk)
  unfold Tg.put at e2
  split at e2
  · rename_i hl
    cases e2
    exact F1.bind hl r1 d1 q
  · cases e2
/-! ### while -/
def whileR (ct : Env → R Bool) (cb : Env → R Fl) : Nat → Env → R Fl
  | 0, _ => .stuck
  | n + 1, ρ => (ct ρ).bind fun b ρ1 => if b = true then (match cb ρ1 with
    | .ok .nx ρ2 => whileR ct cb n ρ2
    | r => r) else .ok .nx ρ1
def sWhile (fuel : Env → Nat) (ct : Env → R Bool) (cb : Env → R Fl) : Env → R Fl := fun ρ => whileR ct cb (fuel ρ) ρ
theorem semT_mono {e : Expr} {σ : L2.St} {H : Hp} {Q Q' : Bool → Hp → Prop} (h : semT X e σ H Q) (m : ∀ v H', Q v H' → Q' v H') : semT X e σ H Q' := fun pins s I =>
  thn (h pins s I) fun u s' ⟨H', I', q⟩ => ⟨H', I', m u H' q⟩
theorem ds_while {t : Expr} {body : List Stmt} {pos : Pos} {ct : Env → R Bool} {cb : Env → R Fl} (fuel : Env → Nat) (hp : PassesOwn (model X.prog X.w) X.A X.env X.xe) (ht : DT X κ W t ct) (hb : DSs X κ W kp body cb) : DS X κ W kp (.While t body [] pos) (sWhile fuel ct cb) := by
  intro σ0 ρ0 H0 O0 D F0 h0
  refine semS_of (ps_while hp (pt_sem X t) (pss_sem X body)) ?_
  refine ⟨fun m σ H => ∃ ρ O, Fr X.K κ H σ ρ O ∧ Kp kp σ0 σ ∧ Nx H0 H O0 O [] ∧ PsS X κ W kp σ0 H0 O0 D (whileR ct cb m ρ), ⟨fuel ρ0, ρ0, O0, F0, Kp.refl, Nx.refl, h0⟩, ?_⟩
  rintro m σ H ⟨ρ, O, F, k, n, h⟩
  cases m with
  | zero => exact False.elim h
  | succ m =>
    refine ht σ ρ H O _ F ?_
    unfold whileR at h
    cases e1 : ct ρ with
    | stuck => rw [e1] at h; exact h
    | exn x ρ1 => rw [e1] at h; exact fun H' O' F' n' => h σ H' O' F' k (n.trans n')
    | ok b ρ1 =>
      rw [e1, R.bind_ok] at h
      intro H1 O1 F1 n1
      cases b with
      | false =>
        rw [if_neg Bool.false_ne_true] at h ⊢
        exact h σ H1 O1 F1 k (n.trans n1)
      | true =>
        rw [if_pos rfl] at h ⊢
        refine ⟨fun σ' H' => ∃ ρ O, Fr X.K κ H' σ' ρ O ∧ Kp kp σ0 σ' ∧ Nx H0 H' O0 O [] ∧ PsS X κ W kp σ0 H0 O0 D (whileR ct cb m ρ), fun σ' H' q => ⟨m, Nat.lt_succ_self m, q⟩, ?_⟩
        refine hb σ ρ1 H1 O1 _ F1 ?_
        match e2 : cb ρ1 with
        | .ok .nx ρ2 =>
          rw [e2] at h
          exact fun σ' H' O' F' k' n' => ⟨ρ2, O', F', k.trans k', (n.trans n1).trans n', h⟩
        | .ok (.rt c) ρ2 => rw [e2] at h; exact h.back k (n.trans n1)
        | .exn x ρ2 => rw [e2] at h; exact h.back k (n.trans n1)
        | .stuck => rw [e2] at h; exact h
/-! ### for -/
/-- an iterator that will give these items, whatever the frame does with its own -/
structure ItOk (K : PySem.W.Frag) (κ : String → Addr) (J : It) (H0 : Hp) (O0 : Nat → List Addr) (ds : List D) : Prop where
  go : ∀ H, (∀ a o, H0 a = some o → (StO o ∨ ∀ i, a ∉ O0 i) → H a = some o) → ∀ i d, ds[i]? = some d → J.go i H ∧ ∀ x H', J.yld i H x H' → Same H H' ∧ Rz K κ H' d x
  stop : ∀ H, (∀ a o, H0 a = some o → (StO o ∨ ∀ i, a ∉ O0 i) → H a = some o) → J.stop ds.length H
variable (X κ W) in
def PsI (σ : L2.St) (H : Hp) (O : Nat → List Addr) (Q : It → Hp → Prop) : R (List D) → Prop
  | .ok ds ρ' => ∀ J H' O', Fr X.K κ H' σ ρ' O' → Nx H H' O O' [] → ItOk X.K κ J H' O' ds → Q J H'
  | .exn n ρ' => ∀ H' O', Fr X.K κ H' σ ρ' O' → Nx H H' O O' [] → W (.ref (κ n)) none σ H'
  | .stuck => False
variable (X κ W) in
def DI (tg e : Expr) (c : Env → R (List D)) : Prop := ∀ σ ρ H O R, Fr X.K κ H σ ρ O → PsI X κ W σ H O R (c ρ) → semI X tg e σ H R
def forR (t : Tg) (cb : Env → R Fl) : List D → Env → R Fl
  | [], ρ => .ok .nx ρ
  | d :: ds, ρ => match t.put (.v d) ρ with
    | none => .stuck
    | some ρ1 => match cb ρ1 with
      | .ok .nx ρ2 => forR t cb ds ρ2
      | r => r
def sFor (ci : Env → R (List D)) (t : Tg) (cb : Env → R Fl) : Env → R Fl := fun ρ => (ci ρ).bind fun ds ρ1 => forR t cb ds ρ1
theorem Fr.same {H H' : Hp} {σ : L2.St} {ρ : Env} {O : Nat → List Addr} (F : Fr X.K κ H σ ρ O) (s : Same H H') : Fr X.K κ H' σ ρ O :=
  ⟨F.len, fun i c e => by
    obtain ⟨v, e1, r⟩ := F.cv i c e
    refine ⟨v, e1, r.st (Sb.same s) fun a ha => ?_⟩
    obtain ⟨o, eo, _⟩ := r.own a ha
    rw [eo]; exact s a o eo, F.em, F.dj⟩
theorem drop_get {α : Type} {l : List α} {i : Nat} {d : α} {r : List α} (h : l.drop i = d :: r) : l[i]? = some d ∧ l.drop (i + 1) = r := by
  have h1 : l[i]? = some d := by
    have := congrArg (·[0]?) h
    simpa [List.getElem?_drop] using this
  refine ⟨h1, ?_⟩
  have := congrArg List.tail h
  simpa [List.tail_drop] using this
theorem ds_for {tg e : Expr} {body : List Stmt} {pos : Pos} {t : Tg} {ci : Env → R (List D)} {cb : Env → R Fl} (hp : PassesOwn (model X.prog X.w) X.A X.env X.xe) (hc : X.calm = true) (hi : DI X κ W tg e ci) (hg : DG X κ tg t) (hb : DSs X κ W kp body cb) (hk : ∀ i ∈ t.slots, i ∉ kp := by decide)
    (hs : ∀ x, foldedSetIterable e X.env x = pure x := by intro _; rfl) : DS X κ W kp (.For tg e body [] pos) (sFor ci t cb) := by
  intro σ0 ρ0 H0 O0 D F0 h0
  refine semS_of (ps_for hp hc (pi_sem X tg e) (pg_sem X tg) (pss_sem X body) hs) (hi σ0 ρ0 H0 O0 _ F0 ?_)
  unfold sFor at h0
  cases e1 : ci ρ0 with
  | stuck => rw [e1] at h0; exact h0
  | exn n ρ1 => rw [e1] at h0; exact fun H' O' F' n' => h0 σ0 H' O' F' Kp.refl n'
  | ok ds ρ1 =>
    rw [e1, R.bind_ok] at h0
    intro J H1 O1 F1 n1 it
    refine ⟨fun i m σ H => m = ds.length - i ∧ i ≤ ds.length ∧ ∃ ρ O, Fr X.K κ H σ ρ O ∧ Kp kp σ0 σ ∧ Nx H1 H O1 O [] ∧ PsS X κ W kp σ0 H0 O0 D (forR t cb (ds.drop i) ρ), ⟨_, rfl, Nat.zero_le _, ρ1, O1, F1, Kp.refl, Nx.refl, h0⟩, ?_⟩
    rintro i m σ H ⟨rfl, hle, ρ, O, F, k, n, h⟩
    cases hd : ds.drop i with
    | nil =>
      have : i = ds.length := by
        have := congrArg List.length hd
        simp at this; omega
      subst this
      rw [hd] at h
      unfold forR at h
      exact .inl ⟨it.stop H fun a o ea s => n.gw a o ea s, h σ H O F k (n1.trans n)⟩
    | cons d r =>
      rw [hd] at h
      obtain ⟨hg1, hr⟩ := drop_get hd
      have hlt : i < ds.length := (List.getElem?_eq_some_iff.mp hg1).1
      unfold forR at h
      obtain ⟨go, yl⟩ := it.go H (fun a o ea s => n.gw a o ea s) i d hg1
      refine .inr ⟨go, fun σ' H' => ∃ ρ O, Fr X.K κ H' σ' ρ O ∧ Kp kp σ0 σ' ∧ Nx H1 H' O1 O [] ∧ PsS X κ W kp σ0 H0 O0 D (forR t cb r ρ), fun σ' H' ⟨ρ, O, F', k', n', q⟩ => ⟨ds.length - (i + 1), by omega, rfl, hlt, ρ, O, F', k', n', by rw [hr]; exact q⟩, fun x H2 y => ?_⟩
      obtain ⟨sm, rz⟩ := yl x H2 y
      have F2 := F.same sm
      split at h
      · exact h.elim
      · rename_i ρ2 ep
        refine hg σ ρ ρ2 H2 O (.v d) x [] _ F2 ⟨rfl, rz⟩ (fun a ha => by simp at ha) ep ?_
        intro σ3 O3 F3 k3' q3
        have k3 := k3'.keeps hk
        have n3 : Nx H1 H2 O1 O3 [] := by
          have n2 : Nx H1 H2 O1 O [] := n.trans (Nx.same sm fun a ha => by simp at ha)
          refine ⟨n2.gw, fun a ha => ?_⟩
          rcases ha with ha | ha
          · simp at ha
          · rcases q3 a ha with z | z
            · exact n2.nw a (.inr z)
            · simp at z
        refine hb σ3 ρ2 H2 O3 _ F3 ?_
        match e2 : cb ρ2 with
        | .ok .nx ρ4 =>
          rw [e2] at h
          exact fun σ' H' O' F' k' n' => ⟨ρ4, O', F', (k.trans k3).trans k', n3.trans n', h⟩
        | .ok (.rt c) ρ4 => rw [e2] at h; exact h.back (k.trans k3) (n1.trans n3)
        | .exn x ρ4 => rw [e2] at h; exact h.back (k.trans k3) (n1.trans n3)
        | .stuck => rw [e2] at h; exact h
end
end SW

set_option Elab.async false
set_option linter.all false
set_option maxRecDepth 100000
set_option maxHeartbeats 4000000
/-! Sw5: defs and their calls. -/
namespace SW
open PySem PySem.Spec PyProof.Rows L2
/-- what a call gives: its value, and what the arguments hold then -/
inductive FR where
  | ok (r : C) (as : Env) | exn (n : String) (as : Env) | stuck
abbrev FSem := List C → FR
/-- a def's promise -/
def spF (K : PySem.W.Frag) (κ : String → Addr) (n : Nat) (f : FSem) : Sp := fun vs H Q E =>
  ∃ (cs : List C) (O : Nat → List Addr), vs.length = n ∧ Fr K κ H (vs.map some) (cs.map some) O ∧ match f cs with
    | .ok r as => ∀ v H' O' ov, Fr K κ H' (vs.map some) as O' → RC K κ H' r v ov → (∀ a ∈ ov, ∀ i, a ∉ O' i) → Nx H H' O O' ov → Q v H'
    | .exn m as => ∀ H' O', Fr K κ H' (vs.map some) as O' → Nx H H' O O' [] → E (.ref (κ m)) none H'
    | .stuck => False
/-- what stands behind a def's run in the arguments' objects; kp: parameters that the body never stores -/
def fins (kp : List Nat) (ρ : Env) : Nat → List C → Env
  | _, [] => []
  | i, c :: cs => (match c with
    | .v d => some (.v d)
    | _ => if i ∈ kp then (ρ[i]?).getD none else none) :: fins kp ρ (i + 1) cs
def runF (kp : List Nat) (cs : List C) : R Fl → FR
  | .ok .nx ρ => .ok (.v .non) (fins kp ρ 0 cs)
  | .ok (.rt r) ρ => .ok r (fins kp ρ 0 cs)
  | .exn m ρ => .exn m (fins kp ρ 0 cs)
  | .stuck => .stuck
/-- a def as a function: n parameters, m other names -/
def mkF (n m : Nat) (kp : List Nat) (c : Env → R Fl) : FSem := fun cs => if cs.length = n then runF kp cs (c (cs.map some ++ List.replicate m none)) else .stuck
theorem fins_length (kp : List Nat) (ρ : Env) : ∀ (i : Nat) (cs : List C), (fins kp ρ i cs).length = cs.length
  | _, [] => rfl
  | i, c :: cs => by unfold fins; simp [fins_length kp ρ (i + 1) cs]
theorem fins_get (kp : List Nat) (ρ : Env) : ∀ (i j : Nat) (cs : List C), (fins kp ρ i cs)[j]? = (cs[j]?).map fun c => match c with
    | .v d => some (.v d)
    | _ => if i + j ∈ kp then (ρ[i + j]?).getD none else none
  | _, _, [] => by simp [fins]
  | i, 0, c :: cs => by unfold fins; simp
  | i, j + 1, c :: cs => by
    unfold fins
    rw [List.getElem?_cons_succ, fins_get kp ρ (i + 1) j cs, List.getElem?_cons_succ]
    rw [show i + 1 + j = i + (j + 1) by omega]
/-- everything a body's rules ask of their context -/
structure Bd (X : Cx) (W : WX) (k : Nat) : Prop where
  g : Xg X
  tk : Takes X W
  po : PassesOwn (model X.prog X.w) X.A X.env X.xe
  rm : Room k X.A
section
variable {P : Program} {w : World} {K : PySem.W.Frag} {mg : Str → Option Value} {base : Heap} {κ : String → Addr}
theorem fr_start {H : Hp} {vs : List V} {cs : List C} {O : Nat → List Addr} {N : List Str} {m : Nat} (F : Fr K κ H (vs.map some) (cs.map some) O) (hm : N.length = vs.length + m) : Fr K κ H (L2.start N vs) (cs.map some ++ List.replicate m none) O := by
  have hl : cs.length = vs.length := by simpa using F.len
  have es : L2.start N vs = vs.map some ++ List.replicate m none := by unfold L2.start; rw [hm, Nat.add_sub_cancel_left]
  rw [es]
  refine ⟨by simp [hl], fun i c e => ?_, fun i h => F.em i fun c e => h c ?_, F.dj⟩
  · by_cases hi : i < cs.length
    · rw [List.getElem?_append_left (by simpa using hi)] at e
      obtain ⟨v, e1, r⟩ := F.cv i c e
      exact ⟨v, by rw [List.getElem?_append_left (by simp; omega)]; exact e1, r⟩
    · rw [List.getElem?_append_right (by simpa using Nat.le_of_not_lt hi), List.getElem?_replicate] at e
      split at e <;> cases e
  · by_cases hi : i < cs.length
    · rw [List.getElem?_append_left (by simpa using hi)]; exact e
    · rw [List.getElem?_eq_none (by simpa using Nat.le_of_not_lt hi)] at e; cases e
/-- THE RULE for a def -/
theorem fn_ok {x qual : Str} {st : Stmt} {f : Addr} {fd : FuncData} {N ps : List Str} {k m : Nat} {kp : List Nat} {c : Env → R Fl} (F : Fun K x qual st f fd) (S : FnScope N ps (defScope st)) (hm : N.length = ps.length + m)
    (hb : ∀ (cdv : Value) (A : Around) (outer : List PySem.Env) (s : Shared) (H : Hp) (E : XK), Bd (cxOf (L2.CX P w) P w K mg base N qual (defScope st) f cdv A outer s H E) (fun cls d _ H => E cls d H) k →
      DSs (cxOf (L2.CX P w) P w K mg base N qual (defScope st) f cdv A outer s H E) κ (fun cls d _ H => E cls d H) kp (defBody st) c) :
    FnOk P w K mg base (L2.CX P w) (k + 1) f fd ps (spF K κ ps.length (mkF ps.length m kp c)) := by
  refine F.okX S (fun vs H Q E h => ?_) (fun cdv A outer s H vs Q E hr h => ?_)
  · obtain ⟨cs, O, hl, _⟩ := h
    exact hl
  · obtain ⟨cs, O, hl, Fa, h⟩ := h
    have hcs : cs.length = vs.length := by simpa using Fa.len
    have B : Bd (cxOf (L2.CX P w) P w K mg base N qual (defScope st) f cdv A outer s H E) (fun cls d _ H => E cls d H) k :=
      ⟨⟨rfl, by have := hr.un; show (A.deeper (envOfC qual (defScope st) s.heap.objs.size f cdv)).units + 100 < cLine; omega, S.nd⟩, takes_of rfl rfl rfl rfl, passes_of rfl, hr⟩
    refine ⟨semSs _ (defBody st), pss_sem _ _, ?_⟩
    have F0 : Fr K κ H (L2.start N vs) (cs.map some ++ List.replicate m none) O := fr_start Fa (by rw [hm, hl])
    refine hb cdv A outer s H E B (L2.start N vs) _ H O _ F0 ?_
    unfold mkF at h
    rw [if_pos (by rw [hcs, hl])] at h
    -- the arguments behind the run
    have fin : ∀ {σ' : L2.St} {ρ' : Env} {H' : Hp} {O' : Nat → List Addr} {ov : List Addr}, Fr K κ H' σ' ρ' O' → Kp kp (L2.start N vs) σ' → Nx H H' O O' ov → ∃ O2 : Nat → List Addr, Fr K κ H' (vs.map some) (fins kp ρ' 0 cs) O2 ∧ (∀ i a, a ∈ O2 i → a ∈ O' i) := by
      intro σ' ρ' H' O' ov F' k' n'
      refine ⟨fun i => match cs[i]? with
        | some (.v _) => []
        | some _ => if i ∈ kp then O' i else []
        | none => [], ⟨by rw [fins_length]; simp [hcs], fun i c0 e0 => ?_, fun i h0 => ?_, fun i j a h1 h2 => ?_⟩, fun i a ha => ?_⟩
      · rw [fins_get, Nat.zero_add] at e0
        cases ec : cs[i]? with
        | none => rw [ec] at e0; cases e0
        | some c1 =>
          rw [ec] at e0
          have ec' : (cs.map some)[i]? = some (some c1) := by rw [List.getElem?_map, ec]; rfl
          obtain ⟨v, ev, rc⟩ := Fa.cv i c1 ec'
          have hi : i < vs.length := by
            have := (List.getElem?_eq_some_iff.mp ev).1
            simpa using this
          have evs : (L2.start N vs)[i]? = some (some v) := by
            unfold L2.start
            rw [List.getElem?_append_left (by simpa using hi)]; exact ev
          have own : ∀ (hnv : ∀ d, c1 ≠ .v d) (e1 : (if i ∈ kp then (ρ'[i]?).getD none else none) = some c0), ∃ v, (vs.map some)[i]? = some (some v) ∧ RC K κ H' c0 v (if i ∈ kp then O' i else []) := by
            intro hnv e1
            by_cases hk : i ∈ kp
            · rw [if_pos hk] at e1 ⊢
              have e2 : ρ'[i]? = some (some c0) := by
                cases q : ρ'[i]? with
                | none => rw [q] at e1; cases e1
                | some y => rw [q] at e1; simp only [Option.getD_some] at e1; rw [e1]
              obtain ⟨v', ev', rc'⟩ := F'.cv i c0 e2
              rw [k' i hk, evs] at ev'
              cases ev'
              exact ⟨v, ev, rc'⟩
            · rw [if_neg hk] at e1; cases e1
          cases c1 with
          | v d =>
            simp only [Option.map_some, Option.some.injEq] at e0
            subst e0
            obtain ⟨eo, rz⟩ := rc
            exact ⟨v, ev, rfl, Rz.st n'.sb _ _ rz⟩
          | l ds => exact own (fun _ z => by cases z) (by simpa using e0)
          | ll ds => exact own (fun _ z => by cases z) (by simpa using e0)
          | dc ds => exact own (fun _ z => by cases z) (by simpa using e0)
      · cases ec : cs[i]? with
        | none => rfl
        | some c1 =>
          have hf := fun c0 => h0 c0
          rw [fins_get, Nat.zero_add, ec] at hf
          have own : (∀ c0, (some (if i ∈ kp then (ρ'[i]?).getD none else none) : Option (Option C)) ≠ some (some c0)) → (if i ∈ kp then O' i else []) = [] := by
            intro q
            by_cases hk : i ∈ kp
            · rw [if_pos hk]
              refine F'.em i fun c0 e => q c0 ?_
              rw [if_pos hk, e]; rfl
            · rw [if_neg hk]
          cases c1 with
          | v d => rfl
          | l ds => exact own (by simpa using hf)
          | ll ds => exact own (by simpa using hf)
          | dc ds => exact own (by simpa using hf)
      · have sub : ∀ i a, a ∈ (match cs[i]? with
            | some (.v _) => []
            | some _ => if i ∈ kp then O' i else []
            | none => []) → a ∈ O' i := fun i a ha => by
          split at ha
          · simp at ha
          · split at ha
            · exact ha
            · simp at ha
          · simp at ha
        exact F'.dj i j a (sub i a h1) (sub j a h2)
      · dsimp only at ha
        split at ha
        · simp at ha
        · split at ha
          · exact ha
          · simp at ha
        · simp at ha
    match e : c (cs.map some ++ List.replicate m none) with
    | .ok .nx ρ' =>
      rw [e] at h
      intro σ' H' O' F' k' n'
      obtain ⟨O2, F2, sub⟩ := fin F' k' n'
      exact h .non H' O2 [] F2 ⟨rfl, by unfold Rz; rfl⟩ (fun a ha => by simp at ha) ⟨n'.gw, fun a ha => by
        rcases ha with ha | ⟨i, hi⟩
        · simp at ha
        · exact n'.nw a (.inr ⟨i, sub i a hi⟩)⟩
    | .ok (.rt r) ρ' =>
      rw [e] at h
      intro v σ' H' O' ov F' r' d' k' n'
      obtain ⟨O2, F2, sub⟩ := fin F' k' n'
      exact h v H' O2 ov F2 r' (fun a ha i hi => d' a ha i (sub i a hi)) ⟨n'.gw, fun a ha => by
        rcases ha with ha | ⟨i, hi⟩
        · exact n'.nw a (.inl ha)
        · exact n'.nw a (.inr ⟨i, sub i a hi⟩)⟩
    | .exn q ρ' =>
      rw [e] at h
      intro σ' H' O' F' k' n'
      obtain ⟨O2, F2, sub⟩ := fin F' k' n'
      exact h H' O2 F2 ⟨n'.gw, fun a ha => by
        rcases ha with ha | ⟨i, hi⟩
        · simp at ha
        · exact n'.nw a (.inr ⟨i, sub i a hi⟩)⟩
    | .stuck => rw [e] at h; exact h.elim
end
/-- a def that may be called: its name, its function, its level -/
structure Cal (P : Program) (w : World) (K : PySem.W.Frag) (mg : Str → Option Value) (base : Heap) (κ : String → Addr) (x : Str) (n : Nat) (f : FSem) (k : Nat) : Prop where
  ex : ∃ (fa : Addr) (fd : FuncData) (ps : List Str), ps.length = n ∧ FnOk P w K mg base (L2.CX P w) k fa fd ps (spF K κ n f) ∧ mg x = some (.ref fa) ∧ PySem.W.keepIn K (.ref fa) = true ∧ Binds K fd ps []
/-! ### arguments: data, or slots whose objects the callee may change -/
inductive AK where
  | d (d : D) | s (i : Nat)
def AK.at_ (i : Nat) : AK → Bool
  | .s j => i == j
  | _ => false
def Avs (K : PySem.W.Frag) (κ : String → Addr) (H : Hp) (σ : L2.St) : List AK → List V → Prop
  | [], vs => vs = []
  | .d d :: as, vs => ∃ v r, vs = v :: r ∧ Rz K κ H d v ∧ Avs K κ H σ as r
  | .s i :: as, vs => ∃ v r, vs = v :: r ∧ σ[i]? = some (some v) ∧ Avs K κ H σ as r
section
variable {X : Cx} {κ : String → Addr} {W : WX}
theorem Avs.st {K : PySem.W.Frag} {H H' : Hp} {σ : L2.St} (s : Sb H H') : ∀ {as : List AK} {vs : List V}, Avs K κ H σ as vs → Avs K κ H' σ as vs
  | [], _, h => h
  | .d d :: as, _, h => by
    obtain ⟨v, r, rfl, h1, h2⟩ := h
    exact ⟨v, r, rfl, Rz.st s _ _ h1, h2.st s⟩
  | .s i :: as, _, h => by
    obtain ⟨v, r, rfl, h1, h2⟩ := h
    exact ⟨v, r, rfl, h1, h2.st s⟩
theorem Avs.length {K : PySem.W.Frag} {H : Hp} {σ : L2.St} : ∀ {as : List AK} {vs : List V}, Avs K κ H σ as vs → as.length = vs.length
  | [], _, h => by subst h; rfl
  | .d d :: as, _, h => by obtain ⟨v, r, rfl, h1, h2⟩ := h; simp [h2.length]
  | .s i :: as, _, h => by obtain ⟨v, r, rfl, h1, h2⟩ := h; simp [h2.length]
theorem Avs.get {K : PySem.W.Frag} {H : Hp} {σ : L2.St} : ∀ {as : List AK} {vs : List V} {j : Nat} {a : AK}, Avs K κ H σ as vs → as[j]? = some a → ∃ v, vs[j]? = some v ∧ match a with
    | .d d => Rz K κ H d v
    | .s i => σ[i]? = some (some v)
  | [], _, _, _, h, e => by simp at e
  | .d d :: as, _, 0, _, h, e => by obtain ⟨v, r, rfl, h1, h2⟩ := h; simp at e; subst e; exact ⟨v, rfl, h1⟩
  | .s i :: as, _, 0, _, h, e => by obtain ⟨v, r, rfl, h1, h2⟩ := h; simp at e; subst e; exact ⟨v, rfl, h1⟩
  | .d d :: as, _, j + 1, _, h, e => by
    obtain ⟨v, r, rfl, h1, h2⟩ := h
    obtain ⟨u, e1, q⟩ := h2.get (j := j) (by simpa using e)
    exact ⟨u, by simpa using e1, q⟩
  | .s i :: as, _, j + 1, _, h, e => by
    obtain ⟨v, r, rfl, h1, h2⟩ := h
    obtain ⟨u, e1, q⟩ := h2.get (j := j) (by simpa using e)
    exact ⟨u, by simpa using e1, q⟩
variable (X κ W) in
def PsA (σ : L2.St) (H : Hp) (O : Nat → List Addr) (Q : List V → Hp → Prop) : R (List AK) → Prop
  | .ok as ρ' => ∀ vs H' O', Fr X.K κ H' σ ρ' O' → Avs X.K κ H' σ as vs → Nx H H' O O' [] → Q vs H'
  | .exn n ρ' => ∀ H' O', Fr X.K κ H' σ ρ' O' → Nx H H' O O' [] → W (.ref (κ n)) none σ H'
  | .stuck => False
variable (X κ W) in
def DA (es : List Expr) (c : Env → R (List AK)) : Prop := ∀ σ ρ H O Q, Fr X.K κ H σ ρ O → PsA X κ W σ H O Q (c ρ) → semL X es σ H Q
def aNil : Env → R (List AK) := fun ρ => .ok [] ρ
def aVal (c : Env → R C) (r : Env → R (List AK)) : Env → R (List AK) := fun ρ => (c ρ).bind fun x ρ1 => match x with
  | .v d => (r ρ1).bind fun as ρ2 => .ok (.d d :: as) ρ2
  | _ => .stuck
def aSlot (i : Nat) (r : Env → R (List AK)) : Env → R (List AK) := fun ρ => match ρ[i]? with
  | some (some _) => (r ρ).bind fun as ρ2 => .ok (.s i :: as) ρ2
  | _ => .stuck
theorem da_nil : DA X κ W [] aNil := fun σ ρ H O Q F h => h [] H O F rfl Nx.refl
theorem da_v {e : Expr} {es : List Expr} {c : Env → R C} {r : Env → R (List AK)} (he : DE X κ W e c) (hs : DA X κ W es r) : DA X κ W (e :: es) (aVal c r) := by
  intro σ ρ H O Q F h
  refine he σ ρ H O _ F ?_
  unfold aVal at h
  cases h1 : c ρ with
  | stuck => rw [h1] at h; exact h
  | exn n ρ1 => rw [h1] at h; exact h
  | ok x ρ1 =>
    rw [h1, R.bind_ok] at h
    split at h
    · rename_i d
      intro v H1 O1 ov F1 r1 d1 n1
      obtain ⟨eo, rz⟩ := r1
      subst eo
      refine hs σ ρ1 H1 O1 _ F1 ?_
      cases h2 : r ρ1 with
      | stuck => rw [h2] at h; exact h
      | exn n ρ2 => rw [h2] at h; exact fun H' O' F' n' => h H' O' F' (n1.trans n')
      | ok as ρ2 =>
        rw [h2, R.bind_ok] at h
        intro vs H2 O2 F2 r2 n2
        exact h (v :: vs) H2 O2 F2 ⟨v, vs, rfl, Rz.st n2.sb _ _ rz, r2⟩ (n1.trans n2)
    · exact h.elim
theorem da_s (i : Nat) {x : Str} {pos : Pos} {es : List Expr} {r : Env → R (List AK)} (hs : DA X κ W es r) (hN : X.N[i]? = some x := by rfl) (hv : Vis X.env.scope x := by first | exact Or.inl rfl | exact Or.inr (Or.inl rfl) | exact Or.inr (Or.inr rfl)) (hd : (x == ("__debug__" : Str)) = false := by decide)
    (hcd : (x == ("__classdict__" : Str)) = false := by decide) : DA X κ W (.Name x pos :: es) (aSlot i r) := by
  intro σ ρ H O Q F h
  unfold aSlot at h
  split at h
  · rename_i c0 hc0
    obtain ⟨v, ev, _⟩ := F.cv i c0 hc0
    refine sem_of (pe_var hN hv hd hcd) ⟨v, ev, ?_⟩
    refine hs σ ρ H O _ F ?_
    cases h2 : r ρ with
    | stuck => rw [h2] at h; exact h
    | exn n ρ2 => rw [h2] at h; exact h
    | ok as ρ2 =>
      rw [h2, R.bind_ok] at h
      intro vs H2 O2 F2 r2 n2
      exact h (v :: vs) H2 O2 F2 ⟨v, vs, rfl, ev, r2⟩ n2
  · exact h.elim
theorem semL_mono : ∀ {es : List Expr} {σ : L2.St} {H : Hp} {Q Q' : List V → Hp → Prop}, semL X es σ H Q → (∀ vs H1, Q vs H1 → Q' vs H1) → semL X es σ H Q'
  | [], _, _, _, _, h, m => m _ _ h
  | e :: es, _, _, _, _, h, m => semE_mono h fun x H1 h1 => semL_mono (es := es) h1 fun vs H2 h2 => m _ _ h2
/-- the contents handed in -/
def conts (ρ : Env) : List AK → Option (List C)
  | [] => some []
  | .d d :: as => (conts ρ as).map (.v d :: ·)
  | .s i :: as => match ρ[i]? with
    | some (some c) => (conts ρ as).map (c :: ·)
    | _ => none
theorem conts_length {ρ : Env} : ∀ {as : List AK} {cs : List C}, conts ρ as = some cs → cs.length = as.length
  | [], _, e => by cases e; rfl
  | .d d :: as, _, e => by
    unfold conts at e
    obtain ⟨r, e1, rfl⟩ := Option.map_eq_some_iff.mp e
    simp [conts_length e1]
  | .s i :: as, _, e => by
    unfold conts at e
    split at e
    · obtain ⟨r, e1, rfl⟩ := Option.map_eq_some_iff.mp e
      simp [conts_length e1]
    · cases e
theorem conts_get {ρ : Env} : ∀ {as : List AK} {cs : List C} {j : Nat} {c : C}, conts ρ as = some cs → cs[j]? = some c → ∃ a, as[j]? = some a ∧ match a with
    | .d d => c = .v d
    | .s i => ρ[i]? = some (some c)
  | [], _, j, _, e, q => by cases e; simp at q
  | .d d :: as, _, j, _, e, q => by
    unfold conts at e
    obtain ⟨r, e1, rfl⟩ := Option.map_eq_some_iff.mp e
    cases j with
    | zero => simp at q; exact ⟨_, rfl, q.symm⟩
    | succ j =>
      obtain ⟨a, h1, h2⟩ := conts_get (j := j) e1 (by simpa using q)
      exact ⟨a, by simpa using h1, h2⟩
  | .s i :: as, _, j, _, e, q => by
    unfold conts at e
    split at e
    · rename_i c' hc'
      obtain ⟨r, e1, rfl⟩ := Option.map_eq_some_iff.mp e
      cases j with
      | zero => simp at q; subst q; exact ⟨_, rfl, hc'⟩
      | succ j =>
        obtain ⟨a, h1, h2⟩ := conts_get (j := j) e1 (by simpa using q)
        exact ⟨a, by simpa using h1, h2⟩
    · cases e
/-- no slot twice -/
def dist : List AK → Bool
  | [] => true
  | .d _ :: as => dist as
  | .s i :: as => !as.any (AK.at_ i) && dist as
theorem at_eq {i : Nat} {a : AK} (h : a.at_ i = true) : a = .s i := by
  cases a with
  | d _ => cases h
  | s j => simp [AK.at_] at h; rw [h]
theorem dist_inj : ∀ {as : List AK} {i j k : Nat}, dist as = true → as[j]? = some (AK.s i) → as[k]? = some (AK.s i) → j = k
  | [], _, _, _, _, h, _ => by simp at h
  | a :: as, i, 0, 0, _, _, _ => rfl
  | a :: as, i, 0, k + 1, h, h1, h2 => by
    simp at h1; subst h1
    unfold dist at h
    simp only [Bool.and_eq_true, Bool.not_eq_true'] at h
    have hm : AK.s i ∈ as := List.mem_of_getElem? (by simpa using h2)
    have := List.any_eq_false.mp h.1 _ hm
    simp [AK.at_] at this
  | a :: as, i, j + 1, 0, h, h1, h2 => by
    simp at h2; subst h2
    unfold dist at h
    simp only [Bool.and_eq_true, Bool.not_eq_true'] at h
    have hm : AK.s i ∈ as := List.mem_of_getElem? (by simpa using h1)
    have := List.any_eq_false.mp h.1 _ hm
    simp [AK.at_] at this
  | a :: as, i, j + 1, k + 1, h, h1, h2 => by
    have h' : dist as = true := by
      cases a with
      | d _ => exact h
      | s _ => unfold dist at h; simp only [Bool.and_eq_true] at h; exact h.2
    rw [dist_inj (j := j) (k := k) h' (by simpa using h1) (by simpa using h2)]
/-- the slots behind a call -/
def back (fs : Env) : Nat → List AK → Env → Env
  | _, [], ρ => ρ
  | j, .d _ :: as, ρ => back fs (j + 1) as ρ
  | j, .s i :: as, ρ => back fs (j + 1) as (ρ.set i ((fs[j]?).getD none))
theorem back_length (fs : Env) : ∀ (j : Nat) (as : List AK) (ρ : Env), (back fs j as ρ).length = ρ.length
  | _, [], _ => rfl
  | j, .d _ :: as, ρ => back_length fs (j + 1) as ρ
  | j, .s i :: as, ρ => by unfold back; rw [back_length fs (j + 1) as _, List.length_set]
theorem back_other (fs : Env) {i : Nat} : ∀ (j : Nat) (as : List AK) (ρ : Env), (∀ k : Nat, as[k]? ≠ some (AK.s i)) → (back fs j as ρ)[i]? = ρ[i]?
  | _, [], _, _ => rfl
  | j, .d _ :: as, ρ, h => back_other fs (j + 1) as ρ fun k => by have := h (k + 1); simpa using this
  | j, .s i' :: as, ρ, h => by
    have ne : i' ≠ i := fun e => h 0 (by rw [e]; rfl)
    unfold back
    rw [back_other fs (j + 1) as _ fun k => by have := h (k + 1); simpa using this, List.getElem?_set_ne ne]
theorem back_at (fs : Env) {i k : Nat} : ∀ (j : Nat) (as : List AK) (ρ : Env), dist as = true → as[k]? = some (AK.s i) → i < ρ.length → (back fs j as ρ)[i]? = some ((fs[j + k]?).getD none)
  | _, [], _, _, h, _ => by simp at h
  | j, .d _ :: as, ρ, hd, h, hi => by
    cases k with
    | zero => simp at h
    | succ k =>
      unfold back
      rw [back_at fs (k := k) (j + 1) as ρ hd (by simpa using h) hi, show j + 1 + k = j + (k + 1) by omega]
  | j, .s i' :: as, ρ, hd, h, hi => by
    have hd' : dist as = true := by unfold dist at hd; simp only [Bool.and_eq_true] at hd; exact hd.2
    cases k with
    | zero =>
      simp at h; subst h
      unfold back
      rw [back_other fs (j + 1) as _ fun k e => by
        have := dist_inj (j := 0) (k := k + 1) hd rfl (by simpa using e)
        omega]
      rw [List.getElem?_set_self hi]; rfl
    | succ k =>
      unfold back
      rw [back_at fs (k := k) (j + 1) as _ hd' (by simpa using h) (by rw [List.length_set]; exact hi), show j + 1 + k = j + (k + 1) by omega]
def cCall (f : FSem) (ca : Env → R (List AK)) : Env → R C := fun ρ => (ca ρ).bind fun as ρ1 => match conts ρ1 as with
  | none => .stuck
  | some cs => if dist as = true then (match f cs with
    | .ok r fs => .ok r (back fs 0 as ρ1)
    | .exn m fs => .exn m (back fs 0 as ρ1)
    | .stuck => .stuck) else .stuck
/-- which argument a slot is -/
def argOf (as : List AK) (i : Nat) : Option Nat := as.findIdx? (AK.at_ i)
theorem argOf_some {as : List AK} {i j : Nat} (h : argOf as i = some j) : as[j]? = some (AK.s i) := by
  unfold argOf at h
  obtain ⟨h1, h2, _⟩ := List.findIdx?_eq_some_iff_getElem.mp h
  rw [List.getElem?_eq_getElem h1, at_eq h2]
theorem argOf_none {as : List AK} {i : Nat} (h : argOf as i = none) : ∀ k : Nat, as[k]? ≠ some (AK.s i) := fun k e => by
  unfold argOf at h
  have := List.findIdx?_eq_none_iff.mp h _ (List.mem_of_getElem? e)
  simp [AK.at_] at this
theorem call_frame {H H' : Hp} {σ : L2.St} {ρ : Env} {O Oc Oc' : Nat → List Addr} {as : List AK} {cs : List C} {vs : List V} {fs : Env} {ov : List Addr} (F : Fr X.K κ H σ ρ O) (ec : conts ρ as = some cs) (hd : dist as = true) (av : Avs X.K κ H σ as vs)
    (eOc : Oc = fun j => match as[j]? with
      | some (.s i) => O i
      | _ => [])
    (Fc : Fr X.K κ H' (vs.map some) fs Oc') (n : Nx H H' Oc Oc' ov) :
    ∃ O', Fr X.K κ H' σ (back fs 0 as ρ) O' ∧ Nx H H' O O' ov ∧ ∀ i a, a ∈ O' i → (∃ j, a ∈ Oc' j) ∨ (a ∈ O i ∧ ∀ j, a ∉ Oc j) := by
  have slotLt : ∀ {i j : Nat}, as[j]? = some (AK.s i) → i < ρ.length := fun {i j} h => by
    have hj : j < cs.length := by rw [conts_length ec]; exact (List.getElem?_eq_some_iff.mp h).1
    obtain ⟨a, h1, h2⟩ := conts_get (j := j) ec (List.getElem?_eq_getElem hj)
    rw [h] at h1; cases h1
    exact (List.getElem?_eq_some_iff.mp h2).1
  have inO : ∀ j a, a ∈ Oc j → ∃ i, as[j]? = some (AK.s i) ∧ a ∈ O i := fun j a ha => by
    rw [eOc] at ha; dsimp only at ha
    split at ha
    · rename_i i e; exact ⟨i, e, ha⟩
    · simp at ha
  have outOc : ∀ {i : Nat} {a : Addr}, argOf as i = none → a ∈ O i → ∀ j, a ∉ Oc j := fun {i a} h ha j hj => by
    obtain ⟨i', e, hi'⟩ := inO j a hj
    have : i = i' := F.dj i i' a ha hi'
    subst this
    exact argOf_none h j e
  refine ⟨fun i => match argOf as i with
    | some j => Oc' j
    | none => O i, ⟨by rw [back_length, F.len], fun i c e => ?_, fun i h => ?_, fun i j a h1 h2 => ?_⟩, ⟨fun a o ea s => ?_, fun a ha => ?_⟩, fun i a ha => ?_⟩
  · cases q : argOf as i with
    | none =>
      rw [back_other fs 0 as ρ (argOf_none q)] at e
      obtain ⟨v, ev, rc⟩ := F.cv i c e
      refine ⟨v, ev, rc.st n.sb fun a ha => ?_⟩
      obtain ⟨o, eo, _⟩ := rc.own a ha
      rw [eo]
      exact n.gw a o eo (.inr fun j => outOc q ha j)
    | some j =>
      have ej := argOf_some q
      rw [back_at fs 0 as ρ hd ej (slotLt ej), Nat.zero_add] at e
      have e2 : fs[j]? = some (some c) := by
        cases z : fs[j]? with
        | none => rw [z] at e; cases e
        | some y => rw [z] at e; simp only [Option.getD_some, Option.some.injEq] at e; rw [e]
      obtain ⟨v, ev, rc⟩ := Fc.cv j c e2
      obtain ⟨u, eu, su⟩ := av.get ej
      have : u = v := by
        rw [List.getElem?_map, eu] at ev
        simpa using ev
      subst this
      exact ⟨u, su, rc⟩
  · cases q : argOf as i with
    | none =>
      exact F.em i fun c e => h c (by rw [back_other fs 0 as ρ (argOf_none q)]; exact e)
    | some j =>
      have ej := argOf_some q
      refine Fc.em j fun c e => h c ?_
      rw [back_at fs 0 as ρ hd ej (slotLt ej), Nat.zero_add, e]; rfl
  · have key : ∀ {i j a}, argOf as i = none → a ∈ O i → a ∉ Oc' j := fun {i j a} q ha hj => by
      rcases n.nw a (.inr ⟨j, hj⟩) with ⟨j', hj'⟩ | z
      · exact outOc q ha j' hj'
      · obtain ⟨o, eo, _⟩ := F.own ha
        rw [eo] at z; cases z
    skip
    split at h1 <;> split at h2
    · rename_i j1 q1 _ j2 q2
      have : j1 = j2 := Fc.dj _ _ a h1 h2
      subst this
      have e1 := argOf_some q1
      rw [argOf_some q2] at e1
      injection e1 with e1
      injection e1 with e1
      exact e1.symm
    · rename_i q1 _ q2; exact absurd h1 (key q2 h2)
    · rename_i q1 _ _ q2; exact absurd h2 (key q1 h1)
    · exact F.dj i j a h1 h2
  · refine n.gw a o ea ?_
    rcases s with s | s
    · exact .inl s
    · exact .inr fun j hj => by
        obtain ⟨i, _, hi⟩ := inO j a hj
        exact s i hi
  · have lift : ((∃ j, a ∈ Oc j) ∨ H a = none) → (∃ i, a ∈ O i) ∨ H a = none := fun z => by
      rcases z with ⟨j, hj⟩ | z
      · obtain ⟨i, _, hi⟩ := inO j a hj
        exact .inl ⟨i, hi⟩
      · exact .inr z
    rcases ha with ha | ⟨i, hi⟩
    · exact lift (n.nw a (.inl ha))
    · skip
      split at hi
      · rename_i j _
        exact lift (n.nw a (.inr ⟨_, hi⟩))
      · exact .inl ⟨i, hi⟩
  · dsimp only at ha
    split at ha
    · exact .inl ⟨_, ha⟩
    · rename_i q
      exact .inr ⟨ha, outOc q ha⟩
theorem call_args {H : Hp} {σ : L2.St} {ρ : Env} {O : Nat → List Addr} {as : List AK} {cs : List C} {vs : List V} (F : Fr X.K κ H σ ρ O) (ec : conts ρ as = some cs) (hd : dist as = true) (av : Avs X.K κ H σ as vs) :
    Fr X.K κ H (vs.map some) (cs.map some) (fun j => match as[j]? with
      | some (.s i) => O i
      | _ => []) := by
  have lv := av.length
  have lc := conts_length ec
  refine ⟨by simp [lc, lv], fun j c e => ?_, fun j h => ?_, fun j k a h1 h2 => ?_⟩
  · have e' : cs[j]? = some c := by
      rw [List.getElem?_map] at e
      cases q : cs[j]? with
      | none => rw [q] at e; cases e
      | some y => rw [q] at e; simpa using e
    obtain ⟨a, h1, h2⟩ := conts_get ec e'
    obtain ⟨v, ev, hv⟩ := av.get h1
    refine ⟨v, by rw [List.getElem?_map, ev]; rfl, ?_⟩
    cases a with
    | d d =>
      dsimp only at h2 hv
      subst h2
      rw [h1]
      exact ⟨rfl, hv⟩
    | s i =>
      dsimp only at h2 hv
      obtain ⟨u, eu, rc⟩ := F.cv i c h2
      rw [hv] at eu; cases eu
      rw [h1]
      exact rc
  · skip
    split
    · rename_i i e
      have hj : j < cs.length := by rw [lc]; exact (List.getElem?_eq_some_iff.mp e).1
      exact absurd (show (cs.map some)[j]? = some (some cs[j]) by rw [List.getElem?_map, List.getElem?_eq_getElem hj]; rfl) (h _)
    · rfl
  · skip
    split at h1
    · rename_i i e1
      split at h2
      · rename_i i' e2
        have : i = i' := F.dj i i' a h1 h2
        subst this
        exact dist_inj hd e1 e2
      · simp at h2
    · simp at h1
theorem semL_len : ∀ {es : List Expr} {σ : L2.St} {H : Hp} {Q : List V → Hp → Prop}, semL X es σ H (fun vs H1 => vs.length = es.length → Q vs H1) → semL X es σ H Q
  | [], _, _, _, h => h rfl
  | e :: es, _, _, _, h => semE_mono h fun x H1 h1 => semL_len (es := es) (semL_mono h1 fun vs H2 h2 hl => h2 (by simp [hl]))
/-- f(e, ..), f a def of the text -/
theorem de_call {n k k' : Nat} {f : FSem} {x : Str} {e : Expr} {es : List Expr} {p pos : Pos} {ca : Env → R (List AK)} (B : Bd X W k') (h : Cal X.prog X.w X.K X.mg X.base κ x n f k) (ha : DA X κ W (e :: es) ca) (hk : k ≤ k' := by decide)
    (hn : (e :: es).length = n := by rfl) (hg : Gl X x := by rfl) (hdb : (x == ("__debug__" : Str)) = false := by decide) (hs : (e :: es).all noStar = true := by rfl) : DE X κ W (.Call (.Name x p) (e :: es) [] pos) (cCall f ca) := by
  intro σ ρ H O Q F hq
  obtain ⟨fa, fd, ps, hl, Fn, hm, hkp, hb⟩ := h.ex
  refine sem_of (pe_callS Fn (B.rm.mono hk) hg hm hkp hb (fun σ => passAt B.tk σ) (pa_semB hs) hdb (starEach_of (by rw [List.all_cons, Bool.and_eq_true] at hs; exact hs.1) es X.env) (plainStar (by rw [List.all_cons, Bool.and_eq_true] at hs; exact hs.2))) ?_
  refine semL_len (ha σ ρ H O _ F ?_)
  unfold cCall at hq
  cases h1 : ca ρ with
  | stuck => rw [h1] at hq; exact hq
  | exn n ρ1 => rw [h1] at hq; exact hq
  | ok as ρ1 =>
    rw [h1, R.bind_ok] at hq
    split at hq
    · exact hq.elim
    · rename_i cs ec
      split at hq
      · rename_i hd
        intro vs H1 O1 F1 av n1 hlen
        refine ⟨cs, _, hlen.trans hn, call_args F1 ec hd av, ?_⟩
        · split at hq
          · rename_i r fs ef
            intro v H2 Oc' ov Fc rc dj n2
            obtain ⟨O2, F2, n3, sub⟩ := call_frame F1 ec hd av rfl Fc n2
            exact hq v H2 O2 ov F2 rc (fun a ha i hi => by
              rcases sub i a hi with ⟨j, hj⟩ | ⟨z, z'⟩
              · exact dj a ha j hj
              · rcases n2.nw a (.inl ha) with ⟨j, hj⟩ | y
                · exact z' j hj
                · obtain ⟨o, eo, _⟩ := F1.own z
                  rw [eo] at y; cases y) (n1.trans n3)
          · rename_i m fs ef
            intro H2 Oc' Fc n2
            obtain ⟨O2, F2, n3, sub⟩ := call_frame F1 ec hd av rfl Fc n2
            exact hq H2 O2 F2 (n1.trans n3)
          · exact hq.elim
      · exact hq.elim
end
end SW

set_option Elab.async false
set_option linter.all false
set_option maxRecDepth 100000
set_option maxHeartbeats 4000000
/-! Sw6: what loops walk, comprehensions, methods of a slot's list, stores. -/
namespace SW
open PySem PySem.Spec PyProof.Rows L2
section
variable {X : Cx} {κ : String → Addr} {W : WX}
/-! ### what is walked -/
/-- any items that stand: a tuple, a list that is locked, a list beside the frame -/
theorem itok_T {K : PySem.W.Frag} {H0 : Hp} {O0 : Nat → List Addr} {a : Addr} {vs : List V} {ds : List D} (h : SqT K H0 a vs) (r : Rzs K κ H0 ds vs) : ItOk K κ (Itt K a) H0 O0 ds where
  go := fun H g i d e => by
    have sb : Sb H0 H := fun a o ea s => g a o ea (.inl s)
    obtain ⟨v, ev, rv⟩ := r.get e
    refine ⟨⟨vs, v, SqT_st sb h, ev⟩, fun x H' y => ?_⟩
    obtain ⟨rfl, y⟩ := y
    have := y vs (SqT_st sb h)
    rw [ev] at this; cases this
    exact ⟨Same.refl _, Rz.st sb _ _ rv⟩
  stop := fun H g => ⟨vs, SqT_st (fun a o ea s => g a o ea (.inl s)) h, by rw [r.length]; exact Nat.le_refl _⟩
theorem itok_L {K : PySem.W.Frag} {H0 : Hp} {O0 : Nat → List Addr} {a : Addr} {vs : List V} {ds : List D} (h : ∀ H, (∀ a o, H0 a = some o → (StO o ∨ ∀ i, a ∉ O0 i) → H a = some o) → SqL K H a vs) (r : Rzs K κ H0 ds vs) : ItOk K κ (Itl K a) H0 O0 ds where
  go := fun H g i d e => by
    have sb : Sb H0 H := fun a o ea s => g a o ea (.inl s)
    obtain ⟨v, ev, rv⟩ := r.get e
    refine ⟨⟨vs, v, h H g, ev⟩, fun x H' y => ?_⟩
    obtain ⟨rfl, y⟩ := y
    have := y vs (h _ g)
    rw [ev] at this; cases this
    exact ⟨Same.refl _, Rz.st sb _ _ rv⟩
  stop := fun H g => ⟨vs, h H g, by rw [r.length]; exact Nat.le_refl _⟩
theorem semI_mono {tg e : Expr} {σ : L2.St} {H : Hp} {R R' : It → Hp → Prop} (h : semI X tg e σ H R) (m : ∀ J H', R J H' → R' J H') : semI X tg e σ H R' := fun pins s I =>
  thn (h pins s I) fun v s1 h1 => thn h1 fun u s2 ⟨it, fp, tn, J, H', e1, I', T, t0, fo, q⟩ => ⟨it, fp, tn, J, H', e1, I', T, t0, fo, m J H' q⟩
def itemsOf : C → Option (List D)
  | .v (.tup ds) => some ds
  | .v (.lst ds) => some ds
  | .l ds => some ds
  | .v (.str x) => some (x.cps.toList.map fun c => .str ⟨#[c]⟩)
  | _ => none
def iVal (c : Env → R C) : Env → R (List D) := fun ρ => (c ρ).bind fun x ρ1 => match itemsOf x with
  | some ds => .ok ds ρ1
  | none => .stuck
theorem di_val {tg e : Expr} {c : Env → R C} (he : DE X κ W e c) : DI X κ W tg e (iVal c) := by
  intro σ ρ H O Rq F h
  unfold iVal at h
  cases h1 : c ρ with
  | stuck => rw [h1] at h; exact h.elim
  | exn n ρ1 =>
    rw [h1] at h
    exact semI_of (pi_tup (pe_sem X e)) (he σ ρ H O _ F (by rw [h1]; exact h))
  | ok x ρ1 =>
    rw [h1, R.bind_ok] at h
    split at h
    · rename_i ds hds
      unfold itemsOf at hds
      split at hds
      · cases hds
        refine semI_of (pi_tup (pe_sem X e)) (he σ ρ H O _ F ?_)
        rw [h1]
        intro v H1 O1 ov F1 r1 d1 n1
        obtain ⟨_, rz⟩ := r1
        unfold Rz at rz
        obtain ⟨a, vs, rfl, ht, rs⟩ := rz
        exact ⟨a, rfl, ⟨vs, ht.sqt⟩, h _ H1 O1 F1 n1.drop (itok_T ht.sqt rs)⟩
      · cases hds
        refine semI_of (pi_list (pe_sem X e)) (he σ ρ H O _ F ?_)
        rw [h1]
        intro v H1 O1 ov F1 r1 d1 n1
        obtain ⟨_, rz⟩ := r1
        unfold Rz at rz
        obtain ⟨a, vs, rfl, ht, rs⟩ := rz
        exact ⟨a, rfl, ⟨vs, ht.sql⟩, h _ H1 O1 F1 n1.drop (itok_L (fun H' g => (ht.st fun a o ea s => g a o ea (.inl s)).sql) rs)⟩
      · cases hds
        refine semI_of (pi_list (pe_sem X e)) (he σ ρ H O _ F ?_)
        rw [h1]
        intro v H1 O1 ov F1 r1 d1 n1
        obtain ⟨a, vs, rfl, rfl, ht, rs⟩ := r1
        exact ⟨a, rfl, ⟨vs, SqL.of ht⟩, h _ H1 O1 F1 n1.drop (itok_L (fun H' g => SqL.of (g a _ ht (.inr fun i => d1 a (by simp) i))) rs)⟩
      · rename_i x
        cases hds
        refine semI_of (pi_str (pe_sem X e)) (he σ ρ H O _ F ?_)
        rw [h1]
        intro v H1 O1 ov F1 r1 d1 n1
        obtain ⟨_, rz⟩ := r1
        unfold Rz at rz
        subst rz
        refine ⟨x, rfl, h _ H1 O1 F1 n1.drop ⟨fun H' g i d e => ?_, fun H' g => ?_⟩⟩
        · rw [List.getElem?_map] at e
          obtain ⟨c', ec, rfl⟩ := Option.map_eq_some_iff.mp e
          have hc : x.cps[i]? = some c' := by simpa using ec
          refine ⟨(Array.getElem?_eq_some_iff.mp hc).1, fun y H2 yl => ?_⟩
          obtain ⟨rfl, c2, e2, rfl⟩ := yl
          rw [hc] at e2; cases e2
          exact ⟨Same.refl _, by unfold Rz; rfl⟩
        · show x.cps.size ≤ _
          simp
      · cases hds
    · exact h.elim
def rangeD (lo : Int) (n : Nat) : List D := (List.range n).map fun (i : Nat) => D.int (lo + (i : Int))
theorem itok_R {K : PySem.W.Frag} {H0 : Hp} {O0 : Nat → List Addr} (lo : Int) (n : Nat) : ItOk K κ (Itr lo n) H0 O0 (rangeD lo n) where
  go := fun H g i d e => by
    unfold rangeD at e
    rw [List.getElem?_map] at e
    obtain ⟨j, ej, rfl⟩ := Option.map_eq_some_iff.mp e
    have hi : i < n := by
      have := (List.getElem?_eq_some_iff.mp ej).1
      simpa using this
    rw [List.getElem?_range hi] at ej
    cases ej
    refine ⟨hi, fun x H' y => ?_⟩
    obtain ⟨rfl, rfl⟩ := y
    exact ⟨Same.refl _, by unfold Rz; rfl⟩
  stop := fun H g => by show n ≤ _; simp [rangeD]
def gRange : List C → Option (List D)
  | [.v (.int j)] => if -(2 ^ 62) ≤ j ∧ j < 2 ^ 62 then some (rangeD 0 j.toNat) else none
  | [.v (.int i), .v (.int j)] => if -(2 ^ 62) ≤ i ∧ i < 2 ^ 62 ∧ -(2 ^ 62) ≤ j ∧ j < 2 ^ 62 then some (rangeD i (j - i).toNat) else none
  | _ => none
def iRange (cl : Env → R (List C)) : Env → R (List D) := fun ρ => (cl ρ).bind fun cs ρ1 => match gRange cs with
  | some ds => .ok ds ρ1
  | none => .stuck
theorem RCs.one {K : PySem.W.Frag} {H : Hp} {c : C} {vs : List V} (h : RCs K κ H [c] vs) : ∃ v ov, vs = [v] ∧ RC K κ H c v ov := by
  unfold RCs at h
  obtain ⟨v, r, rfl, ⟨ov, hc⟩, hr⟩ := h
  unfold RCs at hr
  subst hr
  exact ⟨v, ov, rfl, hc⟩
theorem RCs.two {K : PySem.W.Frag} {H : Hp} {c d : C} {vs : List V} (h : RCs K κ H [c, d] vs) : ∃ v u ov ou, vs = [v, u] ∧ RC K κ H c v ov ∧ RC K κ H d u ou := by
  unfold RCs at h
  obtain ⟨v, r, rfl, ⟨ov, hc⟩, hr⟩ := h
  obtain ⟨u, ou, rfl, hd⟩ := hr.one
  exact ⟨v, u, ov, ou, rfl, hc, hd⟩
theorem Rz_int {K : PySem.W.Frag} {H : Hp} {i : Int} {v : V} : Rz K κ H (.int i) v ↔ v = .int i := by unfold Rz; exact Iff.rfl
theorem range_end {σ : L2.St} {H : Hp} {O : Nat → List Addr} {Q : It → Hp → Prop} {cl : Env → R (List C)} {ρ : Env} (h : PsI X κ W σ H O Q (iRange cl ρ)) {P : List V → Hp → Prop}
    (k : ∀ cs ds vs H1 (F : ∀ n lo, ds = rangeD lo n → Q (Itr lo n) H1), RCs X.K κ H1 cs vs → gRange cs = some ds → P vs H1) : PsL X κ W σ H O P (cl ρ) := by
  unfold iRange at h
  cases h1 : cl ρ with
  | stuck => rw [h1] at h; exact h
  | exn n ρ1 => rw [h1] at h; exact h
  | ok cs ρ1 =>
    rw [h1, R.bind_ok] at h
    intro vs H1 O1 F1 r1 n1
    split at h
    · rename_i ds hds
      exact k cs ds vs H1 (fun n lo e => h _ H1 O1 F1 n1 (by rw [e]; exact itok_R lo n)) r1 hds
    · exact h.elim
theorem di_range1 {tg a : Expr} {p pos : Pos} {cl : Env → R (List C)} (hm : X.mg "range" = none) (hl : DL X κ W [a] cl) (hg : Gl X "range" := by rfl) (hs : noStar a = true := by rfl) :
    DI X κ W tg (.Call (.Name "range" p) [a] [] pos) (iRange cl) := by
  intro σ ρ H O Rq F h
  refine semI_of (pi_range1 hg hm (pa_semB (es := [a]) (by simp [hs])) (by rw [starEach_of hs]; rfl)) (semL_len (hl σ ρ H O _ F (range_end h ?_)))
  intro cs ds vs H1 k r e hlen
  unfold gRange at e
  split at e
  · rename_i j
    split at e
    · rename_i hj
      cases e
      obtain ⟨v, ov, rfl, rc⟩ := r.one
      have := Rz_int.mp rc.2
      subst this
      exact ⟨j, rfl, hj.1, hj.2, k _ _ rfl⟩
    · cases e
  · split at e
    · rename_i i j _
      cases e
      obtain ⟨v, u, ov, ou, rfl, _, _⟩ := r.two
      simp at hlen
    · cases e
  · cases e
theorem di_range2 {tg a b : Expr} {p pos : Pos} {cl : Env → R (List C)} (hm : X.mg "range" = none) (hl : DL X κ W [a, b] cl) (hg : Gl X "range" := by rfl) (hs : noStar a = true := by rfl) (hs2 : noStar b = true := by rfl) :
    DI X κ W tg (.Call (.Name "range" p) [a, b] [] pos) (iRange cl) := by
  intro σ ρ H O Rq F h
  refine semI_of (pi_range2 hg hm (pa_semB (es := [a, b]) (by simp [hs, hs2])) (by rw [starEach_of hs, starEach_of hs2]; rfl) (by rw [starEach_of hs2]; rfl)) (semL_len (hl σ ρ H O _ F (range_end h ?_)))
  intro cs ds vs H1 k r e hlen
  unfold gRange at e
  split at e
  · split at e
    · cases e
      obtain ⟨v, ov, rfl, rc⟩ := r.one
      simp at hlen
    · cases e
  · rename_i i j
    split at e
    · rename_i hj
      cases e
      obtain ⟨v, u, ov, ou, rfl, rc, rd⟩ := r.two
      have := Rz_int.mp rc.2
      subst this
      have := Rz_int.mp rd.2
      subst this
      exact ⟨i, j, rfl, hj, k _ _ rfl⟩
    · cases e
  · cases e
end
end SW

set_option Elab.async false
set_option linter.all false
set_option maxRecDepth 100000
set_option maxHeartbeats 4000000
/-! Sw7: comprehensions. -/
namespace SW
open PySem PySem.Spec PyProof.Rows L2
abbrev W0 : WX := fun _ _ _ _ => False
section
variable {X : Cx} {κ : String → Addr} {W : WX}
theorem Bd.blk {k : Nat} (B : Bd X W k) {s : Shared} {H : Hp} {scope : Scope} {cenv : PySem.Env} {fp : List Addr} : Bd (X.blk s H scope cenv fp) W0 k :=
  ⟨B.g.blk, takes0, PassesOwn.never, B.rm⟩
/-- the slots of a block's own names forgotten -/
def wipeE (own : List Nat) (ρ : Env) : Env := own.foldr (fun i r => r.set i none) ρ
/-- and put back -/
def putBack (own : List Nat) (ρ0 ρ : Env) : Env := own.foldr (fun i r => r.set i ((ρ0[i]?).getD none)) ρ
theorem wipeE_length (own : List Nat) (ρ : Env) : (wipeE own ρ).length = ρ.length := by
  induction own with
  | nil => rfl
  | cons i own ih => show ((wipeE own ρ).set i none).length = _; rw [List.length_set, ih]
theorem wipeE_in {own : List Nat} {ρ : Env} {i : Nat} (h : i ∈ own) : ∀ c, (wipeE own ρ)[i]? ≠ some (some c) := by
  induction own with
  | nil => simp at h
  | cons j own ih =>
    intro c e
    have e : ((wipeE own ρ).set j none)[i]? = some (some c) := e
    by_cases q : j = i
    · subst q
      by_cases hl : j < (wipeE own ρ).length
      · rw [List.getElem?_set_self hl] at e; cases e
      · rw [List.getElem?_eq_none (by simpa using hl)] at e; cases e
    · rw [List.getElem?_set_ne q] at e
      rcases List.mem_cons.mp h with h | h
      · exact q h.symm
      · exact ih h c e
theorem wipeE_out {own : List Nat} {ρ : Env} {i : Nat} (h : i ∉ own) : (wipeE own ρ)[i]? = ρ[i]? := by
  induction own with
  | nil => rfl
  | cons j own ih =>
    simp only [List.mem_cons, not_or] at h
    show ((wipeE own ρ).set j none)[i]? = _
    rw [List.getElem?_set_ne (fun e => h.1 e.symm), ih h.2]
theorem putBack_length (own : List Nat) (ρ0 ρ : Env) : (putBack own ρ0 ρ).length = ρ.length := by
  induction own with
  | nil => rfl
  | cons i own ih => show ((putBack own ρ0 ρ).set i _).length = _; rw [List.length_set, ih]
theorem putBack_in {own : List Nat} {ρ0 ρ : Env} {i : Nat} (h : i ∈ own) (hl : i < ρ.length) : (putBack own ρ0 ρ)[i]? = some ((ρ0[i]?).getD none) := by
  induction own with
  | nil => simp at h
  | cons j own ih =>
    show ((putBack own ρ0 ρ).set j _)[i]? = _
    by_cases q : j = i
    · subst q
      rw [List.getElem?_set_self (by rw [putBack_length]; exact hl)]
    · rw [List.getElem?_set_ne q]
      rcases List.mem_cons.mp h with h | h
      · exact absurd h.symm q
      · exact ih h
theorem putBack_out {own : List Nat} {ρ0 ρ : Env} {i : Nat} (h : i ∉ own) : (putBack own ρ0 ρ)[i]? = ρ[i]? := by
  induction own with
  | nil => rfl
  | cons j own ih =>
    simp only [List.mem_cons, not_or] at h
    show ((putBack own ρ0 ρ).set j _)[i]? = _
    rw [List.getElem?_set_ne (fun e => h.1 e.symm), ih h.2]
theorem wipe_in {σ : L2.St} {i : Nat} {own : List Nat} (h : i ∈ own) : (wipe σ own)[i]? = none ∨ (wipe σ own)[i]? = some none := by
  induction own with
  | nil => simp at h
  | cons j own ih =>
    show ((wipe σ own).set j none)[i]? = none ∨ ((wipe σ own).set j none)[i]? = some none
    by_cases q : j = i
    · subst q
      by_cases hl : j < (wipe σ own).length
      · exact .inr (List.getElem?_set_self hl)
      · exact .inl (List.getElem?_eq_none (by simpa using hl))
    · rw [List.getElem?_set_ne q]
      rcases List.mem_cons.mp h with h | h
      · exact absurd h.symm q
      · exact ih h
theorem wipe_out' {σ : L2.St} {i : Nat} {own : List Nat} (h : i ∉ own) : (wipe σ own)[i]? = σ[i]? := by
  induction own with
  | nil => rfl
  | cons j own ih =>
    simp only [List.mem_cons, not_or] at h
    show ((wipe σ own).set j none)[i]? = _
    rw [List.getElem?_set_ne (fun e => h.1 e.symm), ih h.2]
theorem wipe_but {σ σ2 : L2.St} {own is : List Nat} (hl : σ2.length = σ.length) (b : But is (wipe σ own) σ2) (h : ∀ i ∈ is, i ∈ own) : wipe σ2 own = wipe σ own := by
  apply List.ext_getElem?
  intro i
  by_cases hi : i ∈ own
  · by_cases hb : i < σ.length
    · have h1 : i < (wipe σ own).length := by rw [wipe_length]; exact hb
      have h2 : i < (wipe σ2 own).length := by rw [wipe_length, hl]; exact hb
      have e1 := (wipe_in (σ := σ) hi).resolve_left (fun z => by rw [List.getElem?_eq_getElem h1] at z; cases z)
      have e2 := (wipe_in (σ := σ2) hi).resolve_left (fun z => by rw [List.getElem?_eq_getElem h2] at z; cases z)
      rw [e1, e2]
    · rw [List.getElem?_eq_none (by rw [wipe_length, hl]; omega), List.getElem?_eq_none (by rw [wipe_length]; omega)]
  · rw [wipe_out' hi, b i fun q => hi (h i q), wipe_out' hi]
theorem Fr.wiped {H : Hp} {σ : L2.St} {ρ : Env} {O : Nat → List Addr} (F : Fr X.K κ H σ ρ O) (own : List Nat) : Fr X.K κ H (wipe σ own) (wipeE own ρ) (fun i => if i ∈ own then [] else O i) where
  len := by rw [wipeE_length, wipe_length, F.len]
  cv := fun i c e => by
    by_cases hi : i ∈ own
    · exact absurd e (wipeE_in hi c)
    · rw [wipeE_out hi] at e
      rw [wipe_out' hi, if_neg hi]
      exact F.cv i c e
  em := fun i h => by
    by_cases hi : i ∈ own
    · rw [if_pos hi]
    · rw [if_neg hi]
      exact F.em i fun c e => h c (by rw [wipeE_out hi]; exact e)
  dj := fun i j a h1 h2 => by
    try dsimp only at h1 h2
    split at h1
    · simp at h1
    · split at h2
      · simp at h2
      · exact F.dj i j a h1 h2
def compR (own : List Nat) (t : Tg) (ct : Env → R Bool) (ce : Env → R C) (ρ0 : Env) : List D → List D → Env → R C
  | [], acc, ρ => .ok (.l acc) (putBack own ρ0 ρ)
  | d :: ds, acc, ρ => match t.put (.v d) ρ with
    | none => .stuck
    | some ρ1 => match ct ρ1 with
      | .ok true ρ2 => (match ce ρ2 with
        | .ok (.v y) ρ3 => if acc.length < sizeLine then compR own t ct ce ρ0 ds (acc ++ [y]) (wipeE own ρ3) else .stuck
        | _ => .stuck)
      | .ok false ρ2 => compR own t ct ce ρ0 ds acc (wipeE own ρ2)
      | _ => .stuck
def cComp (own : List Nat) (t : Tg) (ci : Env → R (List D)) (ct : Env → R Bool) (ce : Env → R C) : Env → R C := fun ρ => (ci ρ).bind fun ds ρ1 => compR own t ct ce ρ1 ds [] (wipeE own ρ1)
def cYes : Env → R Bool := fun ρ => .ok true ρ
variable (X κ) in
/-- a clause's tests, in a block -/
def DTs (ifs : List Expr) (c : Env → R Bool) : Prop := ∀ σ ρ H O Q, Fr X.K κ H σ ρ O → PsT X κ W0 σ H O Q (c ρ) →
  ∀ pins s, Inv X pins σ H s → wpAny (model X.prog X.w) X.A (forIn ifs true fun c r => if r = true then do let ok ← isTrue c X.env (eval c X.env); pure (ForInStep.yield ok) else pure (ForInStep.yield r)) (TP X pins σ Q) X.xe s
theorem dts_nil : DTs X κ [] cYes := fun σ ρ H O Q F h pins s I => pts_nil.run pins s σ H Q I (h H O F Nx.refl)
theorem dts_one {e : Expr} {c : Env → R Bool} (he : DT X κ W0 e c) : DTs X κ [e] c := fun σ ρ H O Q F h pins s I => (pts_one (pt_sem X e)).run pins s σ H Q I (he σ ρ H O Q F h)
/-- the parts of a comprehension's rule -/
def gC (X : Cx) (tg : Expr) (scope : Scope) : TG := fun v σ H Q => ∀ (s : Shared) (H0 : Hp) (C : Addr) (cl : List (Str × Addr)) (fp : List Addr), semG (X.blk s H0 scope (compEnvC scope cl C X.env) fp) tg v σ H Q
def ttC (X : Cx) (ifs : List Expr) (scope : Scope) : TT := fun σ H Q => ∀ (s0 : Shared) (H0 : Hp) (C : Addr) (cl : List (Str × Addr)) (fp : List Addr) pins s, Inv (X.blk s0 H0 scope (compEnvC scope cl C X.env) fp) pins σ H s → wpAny (model X.prog X.w) X.A (forIn ifs true fun c r => if r = true then do let ok ← isTrue c (compEnvC scope cl C X.env) (eval c (compEnvC scope cl C X.env)); pure (ForInStep.yield ok) else pure (ForInStep.yield r)) (TP (X.blk s0 H0 scope (compEnvC scope cl C X.env) fp) pins σ Q) (fun _ _ => False) s
def teC (X : Cx) (elt : Expr) (scope : Scope) : TE := fun σ H Q => ∀ (s : Shared) (H0 : Hp) (C : Addr) (cl : List (Str × Addr)) (fp : List Addr), semE (X.blk s H0 scope (compEnvC scope cl C X.env) fp) elt σ H Q
theorem comp_core {tg iter elt : Expr} {ifs : List Expr} {scope : Scope} {ow : List Nat} {t : Tg} {ci : Env → R (List D)} {ct : Env → R Bool} {ce : Env → R C} (hi : DI X κ W tg iter ci)
    (hg : ∀ (s : Shared) (H : Hp) (C : Addr) (cl : List (Str × Addr)) (fp : List Addr), DG (X.blk s H scope (compEnvC scope cl C X.env) fp) κ tg t)
    (ht : ∀ (s : Shared) (H : Hp) (C : Addr) (cl : List (Str × Addr)) (fp : List Addr), DTs (X.blk s H scope (compEnvC scope cl C X.env) fp) κ ifs ct)
    (he : ∀ (s : Shared) (H : Hp) (C : Addr) (cl : List (Str × Addr)) (fp : List Addr), DE (X.blk s H scope (compEnvC scope cl C X.env) fp) κ W0 elt ce)
    (hk : ∀ i ∈ t.slots, i ∈ ow) {σ : L2.St} {ρ : Env} {H : Hp} {O : Nat → List Addr} {Q : VK} (F : Fr X.K κ H σ ρ O) (h : PsE X κ W σ H O Q (cComp ow t ci ct ce ρ)) :
    tLc (semI X tg iter) (gC X tg scope) (ttC X ifs scope) (teC X elt scope) ow σ H Q := by
  refine hi σ ρ H O _ F ?_
  unfold cComp at h
  cases h1 : ci ρ with
  | stuck => rw [h1] at h; exact h
  | exn n ρ1 => rw [h1] at h; exact h
  | ok ds ρ1 =>
    rw [h1, R.bind_ok] at h
    intro J H1 O1 F1 n1 it D hD
    refine ⟨fun i m H2 => m = ds.length - i ∧ i ≤ ds.length ∧ ∃ acc vs ρw Ow, H2 D = some (.lst vs) ∧ Rzs X.K κ H2 acc vs ∧ Fr X.K κ H2 (wipe σ ow) (wipeE ow ρw) Ow ∧ (∀ i, D ∉ Ow i) ∧ (∀ i ∈ ow, Ow i = []) ∧ ρw.length = ρ1.length ∧ Nx H1 H2 (fun i => if i ∈ ow then [] else O1 i) Ow [D] ∧ PsE X κ W σ H O Q (compR ow t ct ce ρ1 (ds.drop i) acc (wipeE ow ρw)),
      ⟨_, rfl, Nat.zero_le _, [], [], ρ1, _, upd_same, Rzs.nil, (F1.wiped ow).same (same_upd hD), fun i hi => ?_, fun i hi => if_pos hi, rfl, Nx.same (same_upd hD) fun a ha => by
        have : a = D := by simpa using ha
        rw [this]; exact hD, h⟩, ?_⟩
    · obtain ⟨o, eo, _⟩ := (F1.wiped ow).own hi
      rw [hD] at eo; cases eo
    rintro i m H2 ⟨rfl, hle, acc, vs, ρw, Ow, hD2, ra, F2, dD, oe, lw, n2, h⟩
    have gw : ∀ a o, H1 a = some o → (StO o ∨ ∀ i, a ∉ O1 i) → H2 a = some o := fun a o ea s => by
      refine n2.gw a o ea ?_
      rcases s with s | s
      · exact .inl s
      · refine .inr fun i hi => ?_
        try dsimp only at hi
        split at hi
        · simp at hi
        · exact s i hi
    cases hd : ds.drop i with
    | nil =>
      have : i = ds.length := by
        have := congrArg List.length hd
        simp at this; omega
      subst this
      rw [hd] at h
      unfold compR at h
      refine .inl ⟨it.stop H2 gw, h (.ref D) H2 (fun i => if i ∈ ow then O1 i else Ow i) [D] ⟨?_, fun i c e => ?_, fun i hn => ?_, fun i j a ha hb => ?_⟩ ⟨D, vs, rfl, rfl, hD2, ra⟩ (fun a ha i hi => ?_) ⟨fun a o ea s => ?_, fun a ha => ?_⟩⟩
      · rw [putBack_length, wipeE_length, lw, F1.len]
      · by_cases q : i ∈ ow
        · rw [if_pos q]
          by_cases hl : i < ρ1.length
          · rw [putBack_in q (by rw [wipeE_length, lw]; exact hl)] at e
            have e2 : ρ1[i]? = some (some c) := by
              cases z : ρ1[i]? with
              | none => rw [z] at e; cases e
              | some y => rw [z] at e; simp only [Option.getD_some, Option.some.injEq] at e; rw [e]
            obtain ⟨v, ev, rc⟩ := F1.cv i c e2
            refine ⟨v, ev, rc.st (fun a o ea s => gw a o ea (.inl s)) fun a ha => ?_⟩
            obtain ⟨o, eo, _⟩ := rc.own a ha
            rw [eo]
            refine n2.gw a o eo (.inr fun j hj => ?_)
            try dsimp only at hj
            split at hj
            · simp at hj
            · rename_i hnj
              exact hnj (F1.dj i j a ha hj ▸ q)
          · rw [List.getElem?_eq_none (by rw [putBack_length, wipeE_length, lw]; omega)] at e; cases e
        · rw [if_neg q]
          rw [putBack_out q] at e
          obtain ⟨v, ev, rc⟩ := F2.cv i c e
          rw [wipe_out' q] at ev
          exact ⟨v, ev, rc⟩
      · by_cases q : i ∈ ow
        · rw [if_pos q]
          refine F1.em i fun c e => hn c ?_
          have hl : i < ρ1.length := (List.getElem?_eq_some_iff.mp e).1
          rw [putBack_in q (by rw [wipeE_length, lw]; exact hl), e]; rfl
        · rw [if_neg q]
          exact F2.em i fun c e => hn c (by rw [putBack_out q]; exact e)
      · have key : ∀ {i j a}, i ∈ ow → a ∈ O1 i → a ∉ Ow j := fun {i j a} q ha hj => by
          obtain ⟨o, eo, _⟩ := F1.own ha
          rcases n2.nw a (.inr ⟨j, hj⟩) with ⟨k, hk'⟩ | z
          · try dsimp only at hk'
            split at hk'
            · simp at hk'
            · rename_i hnk
              exact hnk (F1.dj i k a ha hk' ▸ q)
          · rw [eo] at z; cases z
        try dsimp only at ha hb
        split at ha <;> split at hb
        · exact F1.dj i j a ha hb
        · rename_i q _; exact absurd hb (key q ha)
        · rename_i _ q; exact absurd ha (key q hb)
        · exact F2.dj i j a ha hb
      · have : a = D := by simpa using ha
        subst this
        try dsimp only at hi
        split at hi
        · obtain ⟨o, eo, _⟩ := F1.own hi
          rw [hD] at eo; cases eo
        · exact dD i hi
      · exact gw a o (n1.gw a o ea s) (by
          rcases s with s | s
          · exact .inl s
          · refine .inr fun i hi => ?_
            rcases n1.nw a (.inr ⟨i, hi⟩) with ⟨j, hj⟩ | z
            · exact s j hj
            · rw [ea] at z; cases z)
      · have lift : (∃ i, a ∈ O1 i) ∨ H1 a = none → (∃ i, a ∈ O i) ∨ H a = none := fun z => by
          rcases z with z | z
          · exact n1.nw a (.inr z)
          · cases q : H a with
            | none => exact .inr rfl
            | some o =>
              by_cases s : ∀ i, a ∉ O i
              · rw [n1.gw a o q (.inr s)] at z; cases z
              · exact .inl (by simpa using s)
        have low : (∃ i, a ∈ (if i ∈ ow then [] else O1 i)) ∨ H1 a = none → (∃ i, a ∈ O i) ∨ H a = none := fun z => by
          refine lift ?_
          rcases z with ⟨i, hi⟩ | z
          · split at hi
            · simp at hi
            · exact .inl ⟨i, hi⟩
          · exact .inr z
        rcases ha with ha | ⟨i, hi⟩
        · exact low (n2.nw a (.inl ha))
        · try dsimp only at hi
          split at hi
          · exact lift (.inl ⟨i, hi⟩)
          · exact low (n2.nw a (.inr ⟨i, hi⟩))
    | cons d r =>
      rw [hd] at h
      obtain ⟨hg1, hr⟩ := drop_get hd
      have hlt : i < ds.length := (List.getElem?_eq_some_iff.mp hg1).1
      unfold compR at h
      obtain ⟨go, yl⟩ := it.go H2 gw i d hg1
      refine .inr ⟨go, fun H' => ∃ acc vs ρw Ow, H' D = some (.lst vs) ∧ Rzs X.K κ H' acc vs ∧ Fr X.K κ H' (wipe σ ow) (wipeE ow ρw) Ow ∧ (∀ i, D ∉ Ow i) ∧ (∀ i ∈ ow, Ow i = []) ∧ ρw.length = ρ1.length ∧ Nx H1 H' (fun i => if i ∈ ow then [] else O1 i) Ow [D] ∧ PsE X κ W σ H O Q (compR ow t ct ce ρ1 r acc (wipeE ow ρw)),
        fun H' ⟨acc, vs, ρw, Ow, q⟩ => ⟨ds.length - (i + 1), by omega, rfl, hlt, acc, vs, ρw, Ow, by rw [hr]; exact q⟩, fun x H3 y => ?_⟩
      obtain ⟨sm, rz⟩ := yl x H3 y
      have F3 := F2.same sm
      split at h
      · exact h.elim
      · rename_i ρ2 ep
        intro s0 H00 C cl fp
        refine hg s0 H00 C cl fp (wipe σ ow) _ ρ2 H3 Ow (.v d) x [] _ F3 ⟨rfl, rz⟩ (fun a ha => by simp at ha) ep ?_
        intro σ3 O3 F3' k3 q3
        have l3 : σ3.length = σ.length := by
          have e1 := F3'.len
          have e2 := F2.len
          have e3 : ∀ {t : Tg} {c : SW.C} {ρ ρ' : Env}, t.put c ρ = some ρ' → ρ'.length = ρ.length := put_length
          have := e3 ep
          rw [wipe_length] at e2
          omega
        refine ⟨wipe_but l3 k3 hk, ?_⟩
        intro s1 H01 C1 cl1 fp1 pins1 s2 I2
        have n3 : Nx H1 H3 (fun i => if i ∈ ow then [] else O1 i) O3 [D] := by
          have n2' : Nx H1 H3 (fun i => if i ∈ ow then [] else O1 i) Ow [D] := ⟨fun a o ea s => sm a o (n2.gw a o ea s), n2.nw⟩
          refine ⟨n2'.gw, fun a ha => ?_⟩
          rcases ha with ha | ha
          · exact n2'.nw a (.inl ha)
          · rcases q3 a ha with z | z
            · exact n2'.nw a (.inr z)
            · simp at z
        have dD3 : ∀ i, D ∉ O3 i := fun i hi => by
          rcases q3 D ⟨i, hi⟩ with ⟨j, hj⟩ | z
          · exact dD j hj
          · simp at z
        have hD3 : H3 D = some (.lst vs) := sm D _ hD2
        refine ht s1 H01 C1 cl1 fp1 σ3 ρ2 H3 O3 _ F3' ?_ pins1 s2 I2
        -- the turn's end: the frame wiped again
        have wipedAgain : ∀ {H4 : Hp} {ρ4 : Env} {O4 : Nat → List Addr}, Fr X.K κ H4 σ3 ρ4 O4 → Nx H3 H4 O3 O4 [] → ρ4.length = ρ1.length ∧ Fr X.K κ H4 (wipe σ ow) (wipeE ow ρ4) (fun i => if i ∈ ow then [] else O4 i) ∧ (∀ i, D ∉ (fun i => if i ∈ ow then [] else O4 i) i) ∧ H4 D = some (.lst vs) ∧ Nx H1 H4 (fun i => if i ∈ ow then [] else O1 i) (fun i => if i ∈ ow then [] else O4 i) [D] := by
          intro H4 ρ4 O4 F4 n4
          have F5 := F4.wiped ow
          rw [wipe_but l3 k3 hk] at F5
          have hD4 : H4 D = some (.lst vs) := n4.gw D _ hD3 (.inr dD3)
          have dD4 : ∀ i, D ∉ O4 i := fun i hi => by
            rcases n4.nw D (.inr ⟨i, hi⟩) with ⟨j, hj⟩ | z
            · exact dD3 j hj
            · rw [hD3] at z; cases z
          refine ⟨by rw [F4.len, l3, F1.len], F5, fun i hi => ?_, hD4, ⟨fun a o ea s => (n3.trans n4).gw a o ea s, fun a ha => ?_⟩⟩
          · try dsimp only at hi
            split at hi
            · simp at hi
            · exact dD4 i hi
          · rcases ha with ha | ⟨i, hi⟩
            · exact n3.nw a (.inl ha)
            · try dsimp only at hi
              split at hi
              · simp at hi
              · exact (n3.trans n4).nw a (.inr ⟨i, hi⟩)
        have ra3 : Rzs X.K κ H3 acc vs := Rzs.st (Sb.same sm) _ _ ra
        match et : ct ρ2 with
        | .ok false ρ4 =>
          rw [et] at h
          intro H4 O4 F4 n4
          rw [if_neg Bool.false_ne_true]
          obtain ⟨e1, F5, d5, hD5, n5⟩ := wipedAgain F4 n4
          exact ⟨acc, vs, ρ4, _, hD5, Rzs.st n4.sb _ _ ra3, F5, d5, fun i hi => if_pos hi, e1, n5, h⟩
        | .ok true ρ4 =>
          rw [et] at h
          intro H4 O4 F4 n4
          rw [if_pos rfl]
          intro s5 H05 C5 cl5 fp5
          refine he s5 H05 C5 cl5 fp5 σ3 ρ4 H4 O4 _ F4 ?_
          match ee : ce ρ4 with
          | .ok (.v y) ρ5 =>
            simp only [ee] at h
            intro v H5 O5 ov F5 r5 d5 n5
            obtain ⟨eo, rz5⟩ := r5
            subst eo
            obtain ⟨e1, F6, d6, hD6, n6⟩ := wipedAgain F5 (n4.trans n5)
            by_cases hz : acc.length < sizeLine
            · rw [if_pos hz] at h
              have rl := ra.length
              have sbD : Sb H5 (upd H5 D (.lst (vs ++ [v]))) := fun a o ea s => by
                by_cases q : a = D
                · subst q; rw [hD6] at ea; cases ea; exact s.elim
                · rw [upd_ne q]; exact ea
              refine ⟨vs, hD6, by omega, acc ++ [y], vs ++ [v], ρ5, _, upd_same, Rzs.st sbD _ _ ((Rzs.st (n4.trans n5).sb _ _ ra3).append (Rzs.cons rz5 Rzs.nil)), ⟨F6.len, fun i c e => ?_, F6.em, F6.dj⟩, d6, fun i hi => if_pos hi, e1, ⟨fun a o ea s => ?_, n6.nw⟩, h⟩
              · obtain ⟨u, eu, rc⟩ := F6.cv i c e
                refine ⟨u, eu, rc.st sbD fun a ha => upd_ne fun q => d6 i (q ▸ ha)⟩
              · rw [upd_ne (fun q => by rw [q, hD] at ea; cases ea)]
                exact n6.gw a o ea s
            · rw [if_neg hz] at h; exact h.elim
          | .ok (.l _) ρ5 => simp only [ee] at h; exact h.elim
          | .ok (.ll _) ρ5 => simp only [ee] at h; exact h.elim
          | .ok (.dc _) ρ5 => simp only [ee] at h; exact h.elim
          | .exn n ρ5 => simp only [ee] at h; exact h.elim
          | .stuck => simp only [ee] at h; exact h.elim
        | .exn n ρ4 => rw [et] at h; exact h.elim
        | .stuck => rw [et] at h; exact h.elim
theorem de_comp {tg iter elt : Expr} {ifs : List Expr} {scope : Scope} {own : List (Str × Nat)} {pos : Pos} {t : Tg} {ci : Env → R (List D)} {ct : Env → R Bool} {ce : Env → R C} (hc : X.calm = true) (hN : X.N.Nodup) (hi : DI X κ W tg iter ci) (ok : BlkOk X.N X.env.scope scope own)
    (hg : ∀ (s : Shared) (H : Hp) (C : Addr) (cl : List (Str × Addr)) (fp : List Addr), DG (X.blk s H scope (compEnvC scope cl C X.env) fp) κ tg t)
    (ht : ∀ (s : Shared) (H : Hp) (C : Addr) (cl : List (Str × Addr)) (fp : List Addr), DTs (X.blk s H scope (compEnvC scope cl C X.env) fp) κ ifs ct)
    (he : ∀ (s : Shared) (H : Hp) (C : Addr) (cl : List (Str × Addr)) (fp : List Addr), DE (X.blk s H scope (compEnvC scope cl C X.env) fp) κ W0 elt ce)
    (hk : ∀ i ∈ t.slots, i ∈ own.map (·.2) := by decide) (hs : ∀ x, foldedSetIterable iter X.env x = pure x := by intro _; rfl) :
    DE X κ W (.ListComp elt [⟨tg, iter, ifs, 0⟩] scope pos) (cComp (own.map (·.2)) t ci ct ce) := by
  intro σ ρ H O Q F h
  exact sem_of (pe_lc (pos := pos) (wi := semI X tg iter) (g := gC X tg scope) (tt := ttC X ifs scope) (te := teC X elt scope)
    hc hN (pi_sem X tg iter) ok (fun s H C cl fp => ⟨fun pins s σ H v u Q I r h => h _ _ _ _ _ pins s u I r⟩) (fun s H C cl fp => ⟨fun pins s σ H Q I h => h _ _ _ _ _ pins s I⟩) (fun s H C cl fp => ⟨fun pins s σ H Q I h => h _ _ _ _ _ pins s I⟩) hs) (comp_core hi hg ht he hk F h)
/-- x = [..] on one line -/
theorem ds_setC {kp : List Nat} {i : Nat} {y : Str} {py : Pos} {tg iter elt : Expr} {ifs : List Expr} {scope : Scope} {own : List (Str × Nat)} {pos spos : Pos} {t : Tg} {ci : Env → R (List D)} {ct : Env → R Bool} {ce : Env → R C} (hc : X.calm = true) (hN : X.N.Nodup) (hi : DI X κ W tg iter ci) (ok : BlkOk X.N X.env.scope scope own)
    (hg : ∀ (s : Shared) (H : Hp) (C : Addr) (cl : List (Str × Addr)) (fp : List Addr), DG (X.blk s H scope (compEnvC scope cl C X.env) fp) κ tg t)
    (ht : ∀ (s : Shared) (H : Hp) (C : Addr) (cl : List (Str × Addr)) (fp : List Addr), DTs (X.blk s H scope (compEnvC scope cl C X.env) fp) κ ifs ct)
    (he : ∀ (s : Shared) (H : Hp) (C : Addr) (cl : List (Str × Addr)) (fp : List Addr), DE (X.blk s H scope (compEnvC scope cl C X.env) fp) κ W0 elt ce)
    (hk : ∀ i ∈ t.slots, i ∈ own.map (·.2) := by decide) (hy : X.N[i]? = some y := by rfl) (hyl : X.env.scope.names.lookup y = some .local := by rfl) (hkp : i ∉ kp := by decide)
    (hsw : swapsWith (.ListComp elt [⟨tg, iter, ifs, 0⟩] scope pos) (some (.Name y py)) spos.line X.env = pure true := by rfl) (hs : ∀ x, foldedSetIterable iter X.env x = pure x := by intro _; rfl) :
    DS X κ W kp (.Assign [.Name y py] (.ListComp elt [⟨tg, iter, ifs, 0⟩] scope pos) spos) (sSet (.nm i) (cComp (own.map (·.2)) t ci ct ce)) := by
  intro σ ρ H O D F h
  refine semS_of (ps_setLc (pos := pos) (wi := semI X tg iter) (g := gC X tg scope) (tt := ttC X ifs scope) (te := teC X elt scope)
    hc hN hy hyl hsw (pi_sem X tg iter) ok (fun s H C cl fp => ⟨fun pins s σ H v u Q I r h => h _ _ _ _ _ pins s u I r⟩) (fun s H C cl fp => ⟨fun pins s σ H Q I h => h _ _ _ _ _ pins s I⟩) (fun s H C cl fp => ⟨fun pins s σ H Q I h => h _ _ _ _ _ pins s I⟩) hs) ?_
  refine comp_core hi hg ht he hk F ?_
  refine PsS_set h (fun x ρ1 ρ2 v H1 O1 ov F1 r1 d1 e2 q => ?_) (fun (j : Nat) (hj : j ∈ (Tg.nm i).slots) => by simp [Tg.slots] at hj; subst hj; exact hkp)
  unfold Tg.put at e2
  split at e2
  · rename_i hl
    cases e2
    exact F1.bind hl r1 d1 q
  · cases e2
def compLR (own : List Nat) (t : Tg) (ct : Env → R Bool) (ce : Env → R C) (ρ0 : Env) : List D → List (List D) → Env → R C
  | [], acc, ρ => .ok (.ll acc) (putBack own ρ0 ρ)
  | d :: ds, acc, ρ => match t.put (.v d) ρ with
    | none => .stuck
    | some ρ1 => match ct ρ1 with
      | .ok true ρ2 => (match ce ρ2 with
        | .ok (.l y) ρ3 => if acc.length < sizeLine then compLR own t ct ce ρ0 ds (acc ++ [y]) (wipeE own ρ3) else .stuck
        | _ => .stuck)
      | .ok false ρ2 => compLR own t ct ce ρ0 ds acc (wipeE own ρ2)
      | _ => .stuck
def cCompL (own : List Nat) (t : Tg) (ci : Env → R (List D)) (ct : Env → R Bool) (ce : Env → R C) : Env → R C := fun ρ => (ci ρ).bind fun ds ρ1 => compLR own t ct ce ρ1 ds [] (wipeE own ρ1)
/-- a comprehension whose items are lists of their own -/
theorem compL_core {tg iter elt : Expr} {ifs : List Expr} {scope : Scope} {ow : List Nat} {t : Tg} {ci : Env → R (List D)} {ct : Env → R Bool} {ce : Env → R C} (hi : DI X κ W tg iter ci)
    (hg : ∀ (s : Shared) (H : Hp) (C : Addr) (cl : List (Str × Addr)) (fp : List Addr), DG (X.blk s H scope (compEnvC scope cl C X.env) fp) κ tg t)
    (ht : ∀ (s : Shared) (H : Hp) (C : Addr) (cl : List (Str × Addr)) (fp : List Addr), DTs (X.blk s H scope (compEnvC scope cl C X.env) fp) κ ifs ct)
    (he : ∀ (s : Shared) (H : Hp) (C : Addr) (cl : List (Str × Addr)) (fp : List Addr), DE (X.blk s H scope (compEnvC scope cl C X.env) fp) κ W0 elt ce)
    (hk : ∀ i ∈ t.slots, i ∈ ow) {σ : L2.St} {ρ : Env} {H : Hp} {O : Nat → List Addr} {Q : VK} (F : Fr X.K κ H σ ρ O) (h : PsE X κ W σ H O Q (cCompL ow t ci ct ce ρ)) :
    tLc (semI X tg iter) (gC X tg scope) (ttC X ifs scope) (teC X elt scope) ow σ H Q := by
  refine hi σ ρ H O _ F ?_
  unfold cCompL at h
  cases h1 : ci ρ with
  | stuck => rw [h1] at h; exact h
  | exn n ρ1 => rw [h1] at h; exact h
  | ok ds ρ1 =>
    rw [h1, R.bind_ok] at h
    intro J H1 O1 F1 n1 it D hD
    refine ⟨fun i m H2 => m = ds.length - i ∧ i ≤ ds.length ∧ ∃ acc as ρw Ow, H2 D = some (.lst (as.map V.ref)) ∧ RLs X.K κ H2 acc as ∧ (D :: as).Nodup ∧ Fr X.K κ H2 (wipe σ ow) (wipeE ow ρw) Ow ∧ (∀ b ∈ D :: as, ∀ i, b ∉ Ow i) ∧ (∀ i ∈ ow, Ow i = []) ∧ ρw.length = ρ1.length ∧ Nx H1 H2 (fun i => if i ∈ ow then [] else O1 i) Ow (D :: as) ∧ PsE X κ W σ H O Q (compLR ow t ct ce ρ1 (ds.drop i) acc (wipeE ow ρw)),
      ⟨_, rfl, Nat.zero_le _, [], [], ρ1, _, upd_same, (by unfold RLs; rfl), (by simp), (F1.wiped ow).same (same_upd hD), fun b hb i hi => ?_, fun i hi => if_pos hi, rfl, Nx.same (same_upd hD) fun a ha => by
        have : a = D := by simpa using ha
        rw [this]; exact hD, h⟩, ?_⟩
    · have : b = D := by simpa using hb
      subst this
      obtain ⟨o, eo, _⟩ := (F1.wiped ow).own hi
      rw [hD] at eo; cases eo
    rintro i m H2 ⟨rfl, hle, acc, as, ρw, Ow, hD2, ra, nd, F2, dD, oe, lw, n2, h⟩
    have gw : ∀ a o, H1 a = some o → (StO o ∨ ∀ i, a ∉ O1 i) → H2 a = some o := fun a o ea s => by
      refine n2.gw a o ea ?_
      rcases s with s | s
      · exact .inl s
      · refine .inr fun i hi => ?_
        try dsimp only at hi
        split at hi
        · simp at hi
        · exact s i hi
    cases hd : ds.drop i with
    | nil =>
      have : i = ds.length := by
        have := congrArg List.length hd
        simp at this; omega
      subst this
      rw [hd] at h
      unfold compLR at h
      refine .inl ⟨it.stop H2 gw, h (.ref D) H2 (fun i => if i ∈ ow then O1 i else Ow i) (D :: as) ⟨?_, fun i c e => ?_, fun i hn => ?_, fun i j a ha hb => ?_⟩ ⟨D, as, rfl, rfl, nd, hD2, ra⟩ (fun a ha i hi => ?_) ⟨fun a o ea s => ?_, fun a ha => ?_⟩⟩
      · rw [putBack_length, wipeE_length, lw, F1.len]
      · by_cases q : i ∈ ow
        · rw [if_pos q]
          by_cases hl : i < ρ1.length
          · rw [putBack_in q (by rw [wipeE_length, lw]; exact hl)] at e
            have e2 : ρ1[i]? = some (some c) := by
              cases z : ρ1[i]? with
              | none => rw [z] at e; cases e
              | some y => rw [z] at e; simp only [Option.getD_some, Option.some.injEq] at e; rw [e]
            obtain ⟨v, ev, rc⟩ := F1.cv i c e2
            refine ⟨v, ev, rc.st (fun a o ea s => gw a o ea (.inl s)) fun a ha => ?_⟩
            obtain ⟨o, eo, _⟩ := rc.own a ha
            rw [eo]
            refine n2.gw a o eo (.inr fun j hj => ?_)
            try dsimp only at hj
            split at hj
            · simp at hj
            · rename_i hnj
              exact hnj (F1.dj i j a ha hj ▸ q)
          · rw [List.getElem?_eq_none (by rw [putBack_length, wipeE_length, lw]; omega)] at e; cases e
        · rw [if_neg q]
          rw [putBack_out q] at e
          obtain ⟨v, ev, rc⟩ := F2.cv i c e
          rw [wipe_out' q] at ev
          exact ⟨v, ev, rc⟩
      · by_cases q : i ∈ ow
        · rw [if_pos q]
          refine F1.em i fun c e => hn c ?_
          have hl : i < ρ1.length := (List.getElem?_eq_some_iff.mp e).1
          rw [putBack_in q (by rw [wipeE_length, lw]; exact hl), e]; rfl
        · rw [if_neg q]
          exact F2.em i fun c e => hn c (by rw [putBack_out q]; exact e)
      · have key : ∀ {i j a}, i ∈ ow → a ∈ O1 i → a ∉ Ow j := fun {i j a} q ha hj => by
          obtain ⟨o, eo, _⟩ := F1.own ha
          rcases n2.nw a (.inr ⟨j, hj⟩) with ⟨k, hk'⟩ | z
          · try dsimp only at hk'
            split at hk'
            · simp at hk'
            · rename_i hnk
              exact hnk (F1.dj i k a ha hk' ▸ q)
          · rw [eo] at z; cases z
        try dsimp only at ha hb
        split at ha <;> split at hb
        · exact F1.dj i j a ha hb
        · rename_i q _; exact absurd hb (key q ha)
        · rename_i _ q; exact absurd ha (key q hb)
        · exact F2.dj i j a ha hb
      · try dsimp only at hi
        split at hi
        · rename_i hin
          obtain ⟨o, eo, _⟩ := F1.own hi
          rcases n2.nw a (.inl ha) with ⟨j, hj⟩ | z
          · try dsimp only at hj
            split at hj
            · simp at hj
            · rename_i hnj
              exact hnj (F1.dj _ _ a hi hj ▸ hin)
          · rw [eo] at z; cases z
        · exact dD a ha i hi
      · exact gw a o (n1.gw a o ea s) (by
          rcases s with s | s
          · exact .inl s
          · refine .inr fun i hi => ?_
            rcases n1.nw a (.inr ⟨i, hi⟩) with ⟨j, hj⟩ | z
            · exact s j hj
            · rw [ea] at z; cases z)
      · have lift : (∃ i, a ∈ O1 i) ∨ H1 a = none → (∃ i, a ∈ O i) ∨ H a = none := fun z => by
          rcases z with z | z
          · exact n1.nw a (.inr z)
          · cases q : H a with
            | none => exact .inr rfl
            | some o =>
              by_cases s : ∀ i, a ∉ O i
              · rw [n1.gw a o q (.inr s)] at z; cases z
              · exact .inl (by simpa using s)
        have low : (∃ i, a ∈ (if i ∈ ow then [] else O1 i)) ∨ H1 a = none → (∃ i, a ∈ O i) ∨ H a = none := fun z => by
          refine lift ?_
          rcases z with ⟨i, hi⟩ | z
          · split at hi
            · simp at hi
            · exact .inl ⟨i, hi⟩
          · exact .inr z
        rcases ha with ha | ⟨i, hi⟩
        · exact low (n2.nw a (.inl ha))
        · try dsimp only at hi
          split at hi
          · exact lift (.inl ⟨i, hi⟩)
          · exact low (n2.nw a (.inr ⟨i, hi⟩))
    | cons d r =>
      rw [hd] at h
      obtain ⟨hg1, hr⟩ := drop_get hd
      have hlt : i < ds.length := (List.getElem?_eq_some_iff.mp hg1).1
      unfold compLR at h
      obtain ⟨go, yl⟩ := it.go H2 gw i d hg1
      refine .inr ⟨go, fun H' => ∃ acc as ρw Ow, H' D = some (.lst (as.map V.ref)) ∧ RLs X.K κ H' acc as ∧ (D :: as).Nodup ∧ Fr X.K κ H' (wipe σ ow) (wipeE ow ρw) Ow ∧ (∀ b ∈ D :: as, ∀ i, b ∉ Ow i) ∧ (∀ i ∈ ow, Ow i = []) ∧ ρw.length = ρ1.length ∧ Nx H1 H' (fun i => if i ∈ ow then [] else O1 i) Ow (D :: as) ∧ PsE X κ W σ H O Q (compLR ow t ct ce ρ1 r acc (wipeE ow ρw)),
        fun H' ⟨acc, as, ρw, Ow, q⟩ => ⟨ds.length - (i + 1), by omega, rfl, hlt, acc, as, ρw, Ow, by rw [hr]; exact q⟩, fun x H3 y => ?_⟩
      obtain ⟨sm, rz⟩ := yl x H3 y
      have F3 := F2.same sm
      split at h
      · exact h.elim
      · rename_i ρ2 ep
        intro s0 H00 C cl fp
        refine hg s0 H00 C cl fp (wipe σ ow) _ ρ2 H3 Ow (.v d) x [] _ F3 ⟨rfl, rz⟩ (fun a ha => by simp at ha) ep ?_
        intro σ3 O3 F3' k3 q3
        have l3 : σ3.length = σ.length := by
          have e1 := F3'.len
          have e2 := F2.len
          have e3 : ∀ {t : Tg} {c : SW.C} {ρ ρ' : Env}, t.put c ρ = some ρ' → ρ'.length = ρ.length := put_length
          have := e3 ep
          rw [wipe_length] at e2
          omega
        refine ⟨wipe_but l3 k3 hk, ?_⟩
        intro s1 H01 C1 cl1 fp1 pins1 s2 I2
        have n3 : Nx H1 H3 (fun i => if i ∈ ow then [] else O1 i) O3 (D :: as) := by
          have n2' : Nx H1 H3 (fun i => if i ∈ ow then [] else O1 i) Ow (D :: as) := ⟨fun a o ea s => sm a o (n2.gw a o ea s), n2.nw⟩
          refine ⟨n2'.gw, fun a ha => ?_⟩
          rcases ha with ha | ha
          · exact n2'.nw a (.inl ha)
          · rcases q3 a ha with z | z
            · exact n2'.nw a (.inr z)
            · simp at z
        have dD3 : ∀ b ∈ D :: as, ∀ i, b ∉ O3 i := fun b hb i hi => by
          rcases q3 b ⟨i, hi⟩ with ⟨j, hj⟩ | z
          · exact dD b hb j hj
          · simp at z
        have hD3 : H3 D = some (.lst (as.map V.ref)) := sm D _ hD2
        have hAs : ∀ b ∈ D :: as, ∃ o, H3 b = some o := fun b hb => by
          rcases List.mem_cons.mp hb with rfl | hb
          · exact ⟨_, hD3⟩
          · obtain ⟨vs, q⟩ := ra.own b hb
            exact ⟨_, sm b _ q⟩
        refine ht s1 H01 C1 cl1 fp1 σ3 ρ2 H3 O3 _ F3' ?_ pins1 s2 I2
        -- the turn's end: the frame wiped again
        have wipedAgain : ∀ {H4 : Hp} {ρ4 : Env} {O4 : Nat → List Addr}, Fr X.K κ H4 σ3 ρ4 O4 → Nx H3 H4 O3 O4 [] → ρ4.length = ρ1.length ∧ Fr X.K κ H4 (wipe σ ow) (wipeE ow ρ4) (fun i => if i ∈ ow then [] else O4 i) ∧ (∀ b ∈ D :: as, ∀ i, b ∉ (fun i => if i ∈ ow then [] else O4 i) i) ∧ H4 D = some (.lst (as.map V.ref)) ∧ (∀ b ∈ D :: as, H4 b = H3 b) ∧ Nx H1 H4 (fun i => if i ∈ ow then [] else O1 i) (fun i => if i ∈ ow then [] else O4 i) (D :: as) := by
          intro H4 ρ4 O4 F4 n4
          have F5 := F4.wiped ow
          rw [wipe_but l3 k3 hk] at F5
          have hk4 : ∀ b ∈ D :: as, H4 b = H3 b := fun b hb => by
            obtain ⟨o, eo⟩ := hAs b hb
            rw [eo]; exact n4.gw b o eo (.inr (dD3 b hb))
          have hD4 : H4 D = some (.lst (as.map V.ref)) := by rw [hk4 D (by simp)]; exact hD3
          have dD4 : ∀ b ∈ D :: as, ∀ i, b ∉ O4 i := fun b hb i hi => by
            rcases n4.nw b (.inr ⟨i, hi⟩) with ⟨j, hj⟩ | z
            · exact dD3 b hb j hj
            · obtain ⟨o, eo⟩ := hAs b hb
              rw [eo] at z; cases z
          refine ⟨by rw [F4.len, l3, F1.len], F5, fun b hb i hi => ?_, hD4, hk4, ⟨fun a o ea s => (n3.trans n4).gw a o ea s, fun a ha => ?_⟩⟩
          · try dsimp only at hi
            split at hi
            · simp at hi
            · exact dD4 b hb i hi
          · rcases ha with ha | ⟨i, hi⟩
            · exact n3.nw a (.inl ha)
            · try dsimp only at hi
              split at hi
              · simp at hi
              · exact (n3.trans n4).nw a (.inr ⟨i, hi⟩)
        have ra3 : RLs X.K κ H3 acc as := ra.st (Sb.same sm) fun b hb => by
          obtain ⟨vs, q⟩ := ra.own b hb
          rw [q]; exact sm b _ q
        match et : ct ρ2 with
        | .ok false ρ4 =>
          rw [et] at h
          intro H4 O4 F4 n4
          rw [if_neg Bool.false_ne_true]
          obtain ⟨e1, F5, d5, hD5, hk5, n5⟩ := wipedAgain F4 n4
          exact ⟨acc, as, ρ4, _, hD5, ra3.st n4.sb fun b hb => hk5 b (by simp [hb]), nd, F5, d5, fun i hi => if_pos hi, e1, n5, h⟩
        | .ok true ρ4 =>
          rw [et] at h
          intro H4 O4 F4 n4
          rw [if_pos rfl]
          intro s5 H05 C5 cl5 fp5
          refine he s5 H05 C5 cl5 fp5 σ3 ρ4 H4 O4 _ F4 ?_
          match ee : ce ρ4 with
          | .ok (.l y) ρ5 =>
            simp only [ee] at h
            intro v H5 O5 ov F5 r5 d5 n5
            obtain ⟨b, ws, rfl, rfl, hb5, rzb⟩ := r5
            obtain ⟨e1, F6, d6, hD6, hk6, n6⟩ := wipedAgain F5 (n4.trans n5.drop)
            by_cases hz : acc.length < sizeLine
            · rw [if_pos hz] at h
              have rl := ra.length
              have sbD : Sb H5 (upd H5 D (.lst ((as ++ [b]).map V.ref))) := fun a o ea s => by
                by_cases q : a = D
                · subst q; rw [hD6] at ea; cases ea; exact s.elim
                · rw [upd_ne q]; exact ea
              have bnew : ∀ a ∈ D :: as, a ≠ b := fun a ha q => by
                subst q
                obtain ⟨o, eo⟩ := hAs a ha
                rcases (n4.trans n5).nw a (.inl (by simp)) with ⟨i, hi⟩ | z
                · exact dD3 a ha i hi
                · rw [eo] at z; cases z
              have nd' : (D :: (as ++ [b])).Nodup := by
                have : (D :: (as ++ [b])) = (D :: as) ++ [b] := rfl
                rw [this, List.nodup_append]
                refine ⟨nd, by simp, fun a ha c hc => ?_⟩
                have : c = b := by simpa using hc
                rw [this]; exact bnew a ha
              have hnD : ∀ a ∈ as, a ≠ D := fun a ha q => (List.nodup_cons.mp nd).1 (q ▸ ha)
              have ra5 : RLs X.K κ (upd H5 D (.lst ((as ++ [b]).map V.ref))) acc as := ra3.st ((n4.trans n5).sb.trans sbD) fun a ha => by
                rw [upd_ne (hnD a ha)]; exact hk6 a (by simp [ha])
              have rb : RLs X.K κ (upd H5 D (.lst ((as ++ [b]).map V.ref))) [y] [b] := by
                unfold RLs
                exact ⟨b, [], rfl, ⟨ws, by rw [upd_ne (fun q => bnew D (by simp) q.symm)]; exact hb5, Rzs.st sbD _ _ rzb⟩, by unfold RLs; rfl⟩
              have db : ∀ i, b ∉ (fun i => if i ∈ ow then [] else O5 i) i := fun i hi => by
                try dsimp only at hi
                split at hi
                · simp at hi
                · exact d5 b (by simp) i hi
              refine ⟨as.map V.ref, hD6, by rw [List.length_map]; omega, acc ++ [y], as ++ [b], ρ5, _, by rw [upd_same, List.map_append]; rfl, ?_, nd', ⟨F6.len, fun i c e => ?_, F6.em, F6.dj⟩, fun a ha i hi => ?_, fun i hi => if_pos hi, e1, ⟨fun a o ea s => ?_, fun a ha => ?_⟩, h⟩
              · have := ra5.append rb
                rw [List.map_append] at this
                exact this
              · obtain ⟨u, eu, rc⟩ := F6.cv i c e
                have sbD' : Sb H5 (upd H5 D (.lst (as.map V.ref ++ [V.ref b]))) := by rw [List.map_append] at sbD; exact sbD
                refine ⟨u, eu, rc.st sbD' fun a ha => upd_ne fun q => d6 D (by simp) i (q ▸ ha)⟩
              · rcases List.mem_cons.mp ha with rfl | ha
                · exact d6 _ (by simp) i hi
                · rcases List.mem_append.mp ha with ha | ha
                  · exact d6 a (by simp [ha]) i hi
                  · have : a = b := by simpa using ha
                    subst this
                    exact db i hi
              · rw [upd_ne (fun q => by rw [q, hD] at ea; cases ea)]
                exact n6.gw a o ea s
              · rcases ha with ha | ha
                · rcases List.mem_cons.mp ha with rfl | ha
                  · exact n6.nw _ (.inl (by simp))
                  · rcases List.mem_append.mp ha with ha | ha
                    · exact n6.nw a (.inl (by simp [ha]))
                    · have : a = b := by simpa using ha
                      subst this
                      exact (n3.trans (n4.trans n5)).nw a (.inl (by simp))
                · exact n6.nw a (.inr ha)
            · rw [if_neg hz] at h; exact h.elim
          | .ok (.v _) ρ5 => simp only [ee] at h; exact h.elim
          | .ok (.ll _) ρ5 => simp only [ee] at h; exact h.elim
          | .ok (.dc _) ρ5 => simp only [ee] at h; exact h.elim
          | .exn n ρ5 => simp only [ee] at h; exact h.elim
          | .stuck => simp only [ee] at h; exact h.elim
        | .exn n ρ4 => rw [et] at h; exact h.elim
        | .stuck => rw [et] at h; exact h.elim
theorem de_compL {tg iter elt : Expr} {ifs : List Expr} {scope : Scope} {own : List (Str × Nat)} {pos : Pos} {t : Tg} {ci : Env → R (List D)} {ct : Env → R Bool} {ce : Env → R C} (hc : X.calm = true) (hN : X.N.Nodup) (hi : DI X κ W tg iter ci) (ok : BlkOk X.N X.env.scope scope own)
    (hg : ∀ (s : Shared) (H : Hp) (C : Addr) (cl : List (Str × Addr)) (fp : List Addr), DG (X.blk s H scope (compEnvC scope cl C X.env) fp) κ tg t)
    (ht : ∀ (s : Shared) (H : Hp) (C : Addr) (cl : List (Str × Addr)) (fp : List Addr), DTs (X.blk s H scope (compEnvC scope cl C X.env) fp) κ ifs ct)
    (he : ∀ (s : Shared) (H : Hp) (C : Addr) (cl : List (Str × Addr)) (fp : List Addr), DE (X.blk s H scope (compEnvC scope cl C X.env) fp) κ W0 elt ce)
    (hk : ∀ i ∈ t.slots, i ∈ own.map (·.2) := by decide) (hs : ∀ x, foldedSetIterable iter X.env x = pure x := by intro _; rfl) :
    DE X κ W (.ListComp elt [⟨tg, iter, ifs, 0⟩] scope pos) (cCompL (own.map (·.2)) t ci ct ce) := by
  intro σ ρ H O Q F h
  exact sem_of (pe_lc (pos := pos) (wi := semI X tg iter) (g := gC X tg scope) (tt := ttC X ifs scope) (te := teC X elt scope)
    hc hN (pi_sem X tg iter) ok (fun s H C cl fp => ⟨fun pins s σ H v u Q I r h => h _ _ _ _ _ pins s u I r⟩) (fun s H C cl fp => ⟨fun pins s σ H Q I h => h _ _ _ _ _ pins s I⟩) (fun s H C cl fp => ⟨fun pins s σ H Q I h => h _ _ _ _ _ pins s I⟩) hs) (compL_core hi hg ht he hk F h)
/-- x = [..] on one line -/
theorem ds_setCL {kp : List Nat} {i : Nat} {y : Str} {py : Pos} {tg iter elt : Expr} {ifs : List Expr} {scope : Scope} {own : List (Str × Nat)} {pos spos : Pos} {t : Tg} {ci : Env → R (List D)} {ct : Env → R Bool} {ce : Env → R C} (hc : X.calm = true) (hN : X.N.Nodup) (hi : DI X κ W tg iter ci) (ok : BlkOk X.N X.env.scope scope own)
    (hg : ∀ (s : Shared) (H : Hp) (C : Addr) (cl : List (Str × Addr)) (fp : List Addr), DG (X.blk s H scope (compEnvC scope cl C X.env) fp) κ tg t)
    (ht : ∀ (s : Shared) (H : Hp) (C : Addr) (cl : List (Str × Addr)) (fp : List Addr), DTs (X.blk s H scope (compEnvC scope cl C X.env) fp) κ ifs ct)
    (he : ∀ (s : Shared) (H : Hp) (C : Addr) (cl : List (Str × Addr)) (fp : List Addr), DE (X.blk s H scope (compEnvC scope cl C X.env) fp) κ W0 elt ce)
    (hk : ∀ i ∈ t.slots, i ∈ own.map (·.2) := by decide) (hy : X.N[i]? = some y := by rfl) (hyl : X.env.scope.names.lookup y = some .local := by rfl) (hkp : i ∉ kp := by decide)
    (hsw : swapsWith (.ListComp elt [⟨tg, iter, ifs, 0⟩] scope pos) (some (.Name y py)) spos.line X.env = pure true := by rfl) (hs : ∀ x, foldedSetIterable iter X.env x = pure x := by intro _; rfl) :
    DS X κ W kp (.Assign [.Name y py] (.ListComp elt [⟨tg, iter, ifs, 0⟩] scope pos) spos) (sSet (.nm i) (cCompL (own.map (·.2)) t ci ct ce)) := by
  intro σ ρ H O D F h
  refine semS_of (ps_setLc (pos := pos) (wi := semI X tg iter) (g := gC X tg scope) (tt := ttC X ifs scope) (te := teC X elt scope)
    hc hN hy hyl hsw (pi_sem X tg iter) ok (fun s H C cl fp => ⟨fun pins s σ H v u Q I r h => h _ _ _ _ _ pins s u I r⟩) (fun s H C cl fp => ⟨fun pins s σ H Q I h => h _ _ _ _ _ pins s I⟩) (fun s H C cl fp => ⟨fun pins s σ H Q I h => h _ _ _ _ _ pins s I⟩) hs) ?_
  refine compL_core hi hg ht he hk F ?_
  refine PsS_set h (fun x ρ1 ρ2 v H1 O1 ov F1 r1 d1 e2 q => ?_) (fun (j : Nat) (hj : j ∈ (Tg.nm i).slots) => by simp [Tg.slots] at hj; subst hj; exact hkp)
  unfold Tg.put at e2
  split at e2
  · rename_i hl
    cases e2
    exact F1.bind hl r1 d1 q
  · cases e2
end
end SW

set_option Elab.async false
set_option linter.all false
set_option maxRecDepth 100000
set_option maxHeartbeats 4000000
/-! Sw8: methods of a slot's list; stores into it. -/
namespace SW
open PySem PySem.Spec PyProof.Rows L2
section
variable {X : Cx} {κ : String → Addr} {W : WX} {kp : List Nat}
def semM (X : Cx) (id : String) : V → List V → Hp → VK → Prop := fun x xs H Q => ∀ pins s σ v us, Inv X pins σ H s → RelV x v → Vals xs us → wpAny (model X.prog X.w) X.A (call (.builtin id) (v :: us)) (EP X pins σ Q) X.xe s
theorem mtr_sem (X : Cx) (id : String) : MtR X id (semM X id) := fun pins s σ H x xs v us Q I rx rs h => h pins s σ v us I rx rs
theorem semM_of {id : String} {r : V → List V → Hp → VK → Prop} {x : V} {xs : List V} {H : Hp} {Q : VK} (p : MtR X id r) (h : r x xs H Q) : semM X id x xs H Q := fun pins s σ v us I rx rs => p pins s σ H x xs v us Q I rx rs h
/-- an operation that changes the content of a slot: the objects that it owns stay the same ones -/
def MutN (X : Cx) (κ : String → Addr) (sem : V → List V → Hp → VK → Prop) (g : C → List C → Option (D × C)) : Prop := ∀ c cs d c' x vs ov H Q, g c cs = some (d, c') → RC X.K κ H c x ov → RCs X.K κ H cs vs →
  (∀ v H', Rz X.K κ H' d v → RC X.K κ H' c' x ov → (∀ a o, H a = some o → a ∉ ov → H' a = some o) → Q v H') → sem x vs H Q
def cMeth (i : Nat) (g : C → List C → Option (D × C)) (cl : Env → R (List C)) : Env → R C := fun ρ => match ρ[i]? with
  | some (some (.l _)) => (cl ρ).bind fun cs ρ1 => match ρ1[i]? with
    | some (some c) => match g c cs with
      | some (d, c') => .ok (.v d) (ρ1.set i (some c'))
      | none => .stuck
    | _ => .stuck
  | _ => .stuck
theorem sb_mut {H H' : Hp} {c : C} {x : V} {ov : List Addr} (r : RC X.K κ H c x ov) (k : ∀ a o, H a = some o → a ∉ ov → H' a = some o) : Sb H H' := fun a o e s => by
  refine k a o e fun ha => ?_
  obtain ⟨u, eu, ns⟩ := r.own a ha
  rw [e] at eu; cases eu
  exact ns s
theorem Fr.mut {H H' : Hp} {σ : L2.St} {ρ : Env} {O : Nat → List Addr} (F : Fr X.K κ H σ ρ O) {i : Nat} {c c' : C} {x : V} (hc : ρ[i]? = some (some c)) (hx : σ[i]? = some (some x)) (r : RC X.K κ H c x (O i)) (r' : RC X.K κ H' c' x (O i)) (k : ∀ a o, H a = some o → a ∉ O i → H' a = some o) :
    Fr X.K κ H' σ (ρ.set i (some c')) O := by
  have hi : i < ρ.length := (List.getElem?_eq_some_iff.mp hc).1
  refine ⟨by simp [F.len], fun j c0 e => ?_, fun j h => ?_, F.dj⟩
  · by_cases hj : j = i
    · subst hj
      rw [List.getElem?_set_self hi] at e
      cases e
      exact ⟨x, hx, r'⟩
    · rw [List.getElem?_set_ne (Ne.symm hj)] at e
      obtain ⟨u, eu, rc⟩ := F.cv j c0 e
      refine ⟨u, eu, rc.st (sb_mut r k) fun a ha => ?_⟩
      obtain ⟨o, eo, _⟩ := rc.own a ha
      rw [eo]
      exact k a o eo fun q => hj (F.dj j i a ha q)
  · by_cases hj : j = i
    · subst hj
      exact absurd (List.getElem?_set_self hi) (h c')
    · exact F.em j fun c0 e => h c0 (by rw [List.getElem?_set_ne (Ne.symm hj)]; exact e)
theorem Nx.mut {H H' : Hp} {O : Nat → List Addr} {i : Nat} (sb : Sb H H') (k : ∀ a o, H a = some o → a ∉ O i → H' a = some o) : Nx H H' O O [] := ⟨fun a o e s => by
  rcases s with s | s
  · exact sb a o e s
  · exact k a o e (s i), fun a ha => by
  rcases ha with ha | ha
  · simp at ha
  · exact .inl ha⟩
theorem meth_end {i : Nat} {id : String} {g : C → List C → Option (D × C)} {cl : Env → R (List C)} {σ : L2.St} {ρ : Env} {H : Hp} {O : Nat → List Addr} {Q : VK} (ho : MutN X κ (semM X id) g) (h : PsE X κ W σ H O Q (cMeth i g cl ρ)) (F : Fr X.K κ H σ ρ O) :
    ∃ (v : V) (zs : List V), σ[i]? = some (some v) ∧ (∃ a, v = .ref a ∧ H a = some (.lst zs)) ∧ PsL X κ W σ H O (fun vs H1 => semM X id v vs H1 Q) (cl ρ) := by
  unfold cMeth at h
  split at h
  · rename_i ds hc0
    obtain ⟨v, ev, a, zs, e1, eo, h1, _⟩ := F.cv i _ hc0
    refine ⟨v, zs, ev, ⟨a, e1, h1⟩, ?_⟩
    cases e2 : cl ρ with
    | stuck => rw [e2] at h; exact h
    | exn n ρ1 => rw [e2] at h; exact h
    | ok cs ρ1 =>
      rw [e2, R.bind_ok] at h
      intro vs H1 O1 F1 r1 n1
      split at h
      · rename_i c hc
        split at h
        · rename_i d c' eg
          obtain ⟨v', ev', rc⟩ := F1.cv i c hc
          rw [ev] at ev'; cases ev'
          refine ho c cs d c' v vs (O1 i) H1 Q eg rc r1 fun u H2 rz rc' kp => ?_
          exact h u H2 O1 [] (F1.mut hc ev rc rc' kp) ⟨rfl, rz⟩ (fun a ha => by simp at ha) (n1.trans (Nx.mut (sb_mut rc kp) kp))
        · exact h.elim
      · exact h.elim
  · exact h.elim
theorem de_meth {i : Nat} {x name : Str} {id : String} {pN apos cpos : Pos} {e : Expr} {es : List Expr} {g : C → List C → Option (D × C)} {cl : Env → R (List C)} (slot : Slot "list" name id) (hty : typeOf (.builtin id) = pure (.type "method_descriptor")) (ho : MutN X κ (semM X id) g)
    (hl : DL X κ W (e :: es) cl) (hN : X.N[i]? = some x := by rfl) (hv : Vis X.env.scope x := by first | exact Or.inl rfl | exact Or.inr (Or.inl rfl) | exact Or.inr (Or.inr rfl)) (hd : (x == ("__debug__" : Str)) = false := by decide)
    (hcd : (x == ("__classdict__" : Str)) = false := by decide) (hs : (e :: es).all noStar = true := by rfl)
    (hbase : attributeBase (.Name x pN) name X.env (eval (.Name x pN) X.env) = eval (.Name x pN) X.env := by rfl)
    (hfew : ((backTo cpos (starEach (e :: es) X.env)).all (fun x => !x.1) && (backToKw cpos (keywordEach [] X.env)).all (fun x => x.1.isSome)
      && decide ((e :: es).length + ([] : List Keyword).length + (if ([] : List Keyword).isEmpty then 0 else 1) < 30)) = true := by rfl)
    (hline : (apos.endLine == cpos.line) = true := by rfl) : DE X κ W (.Call (.Attribute (.Name x pN) name apos) (e :: es) [] cpos) (cMeth i g cl) := by
  intro σ ρ H O Q F h
  obtain ⟨v, zs, ev, ⟨a, rfl, ha⟩, q⟩ := meth_end ho h F
  refine sem_of (pe_bm PySem.F.plainAttrs_list slot hty (mtr_sem X id) (pe_var hN hv hd hcd) (pa_semB hs) hbase hfew hline (starEach_of (by rw [List.all_cons, Bool.and_eq_true] at hs; exact hs.1) es X.env) (plainStar (by rw [List.all_cons, Bool.and_eq_true] at hs; exact hs.2))) ?_
  exact ⟨_, ev, .inl ⟨rfl, zs, SqL.of ha⟩, hl σ ρ H O _ F q⟩
theorem de_meth0 {i : Nat} {x name : Str} {id : String} {pN apos cpos : Pos} {g : C → List C → Option (D × C)} (slot : Slot "list" name id) (hty : typeOf (.builtin id) = pure (.type "method_descriptor")) (ho : MutN X κ (semM X id) g)
    (hN : X.N[i]? = some x := by rfl) (hv : Vis X.env.scope x := by first | exact Or.inl rfl | exact Or.inr (Or.inl rfl) | exact Or.inr (Or.inr rfl)) (hd : (x == ("__debug__" : Str)) = false := by decide)
    (hcd : (x == ("__classdict__" : Str)) = false := by decide)
    (hbase : attributeBase (.Name x pN) name X.env (eval (.Name x pN) X.env) = eval (.Name x pN) X.env := by rfl)
    (hline : (apos.endLine == cpos.line) = true := by rfl) : DE X κ W (.Call (.Attribute (.Name x pN) name apos) [] [] cpos) (cMeth i g cNil) := by
  intro σ ρ H O Q F h
  obtain ⟨v, zs, ev, ⟨a, rfl, ha⟩, q⟩ := meth_end ho h F
  refine sem_of (pe_bm0 PySem.F.plainAttrs_list slot hty (mtr_sem X id) (pe_var hN hv hd hcd) hbase hline) ?_
  exact ⟨_, ev, .inl ⟨rfl, zs, SqL.of ha⟩, q [] H O F (by unfold RCs; rfl) Nx.refl⟩
/-! ### the operations -/
theorem Rz_non {K : PySem.W.Frag} {H : Hp} : Rz K κ H .non .non := by unfold Rz; rfl
theorem upd_kept {H : Hp} {a : Addr} {o : HO} : ∀ b u, H b = some u → b ∉ [a] → upd H a o b = some u := fun b u e h => by
  rw [upd_ne (by simpa using h)]; exact e
/-- from a list written anew -/
theorem mut_lst {H : Hp} {a : Addr} {vs vs' : List V} (h : H a = some (.lst vs)) : Sb H (upd H a (.lst vs')) := fun b o e s => by
  by_cases q : b = a
  · subst q; rw [h] at e; cases e; exact s.elim
  · rw [upd_ne q]; exact e
def gAppend : C → List C → Option (D × C)
  | .l ds, [.v d] => if ds.length < sizeLine then some (.non, .l (ds ++ [d])) else none
  | _, _ => none
theorem mut_append : MutN X κ (semM X "list.append") gAppend := by
  intro c cs d c' x vs ov H Q e r rs k
  unfold gAppend at e
  split at e
  · rename_i ds d1
    split at e
    · rename_i hz
      cases e
      obtain ⟨a, zs, rfl, rfl, ha, rz⟩ := r
      obtain ⟨v, o2, rfl, r2⟩ := rs.one
      obtain ⟨_, rd⟩ := r2
      refine semM_of mt_append ⟨a, zs, v, rfl, rfl, ha, by rw [← rz.length]; exact hz, ?_⟩
      have sb := mut_lst (vs' := zs ++ [v]) ha
      exact k .non _ Rz_non ⟨a, _, rfl, rfl, upd_same, (Rzs.st sb _ _ rz).append (Rzs.cons (Rz.st sb _ _ rd) Rzs.nil)⟩ upd_kept
    · cases e
  · cases e
def gPop : C → List C → Option (D × C)
  | .l ds, [] => match ds[ds.length - 1]? with
    | some d => some (d, .l ds.dropLast)
    | none => none
  | .l ds, [.v (.int i)] => if -(2 ^ 63) ≤ i ∧ i < 2 ^ 63 then (match seqIndex? i ds.length with
    | some k => (match ds[k]? with
      | some d => some (d, .l (ds.eraseIdx k))
      | none => none)
    | none => none) else none
  | _, _ => none
theorem mut_pop : MutN X κ (semM X "list.pop") gPop := by
  intro c cs d c' x vs ov H Q e r rs k
  unfold gPop at e
  split at e
  · rename_i ds
    split at e
    · rename_i d1 hd1
      cases e
      obtain ⟨a, zs, rfl, rfl, ha, rz⟩ := r
      unfold RCs at rs
      subst rs
      obtain ⟨y, ey, ry⟩ := rz.get hd1
      have hl := rz.length
      refine semM_of mt_pop ⟨a, zs, y, rfl, rfl, ha, by rw [← hl]; exact ey, ?_⟩
      have sb := mut_lst (vs' := zs.dropLast) ha
      refine k y _ (Rz.st sb _ _ ry) ⟨a, _, rfl, rfl, upd_same, ?_⟩ upd_kept
      have e1 : ds.dropLast = ds.take (zs.length - 1) := by rw [List.dropLast_eq_take, hl]
      have q := (Rzs.st sb _ _ rz).take (zs.length - 1)
      rw [show zs.take (zs.length - 1) = zs.dropLast from List.dropLast_eq_take.symm] at q
      rw [e1]; exact q
    · cases e
  · rename_i ds i
    split at e
    · rename_i hi
      split at e
      · rename_i j hj
        split at e
        · rename_i d1 hd1
          cases e
          obtain ⟨a, zs, rfl, rfl, ha, rz⟩ := r
          obtain ⟨v, o2, rfl, r2⟩ := rs.one
          have := Rz_int.mp r2.2
          subst this
          obtain ⟨y, ey, ry⟩ := rz.get hd1
          have hl := rz.length
          refine semM_of mt_popAt ⟨a, zs, i, j, y, rfl, rfl, ha, hi.1, hi.2, by rw [← hl]; exact hj, ey, ?_⟩
          have sb := mut_lst (vs' := zs.eraseIdx j) ha
          exact k y _ (Rz.st sb _ _ ry) ⟨a, _, rfl, rfl, upd_same, (Rzs.st sb _ _ rz).eraseIdx j⟩ upd_kept
        · cases e
      · cases e
    · cases e
  · cases e
/-- x.extend(ys), ys a list made for it -/
def gExtend : C → List C → Option (D × C)
  | .l ds, [.l es] => if ds.length + es.length ≤ sizeLine then some (.non, .l (ds ++ es)) else none
  | _, _ => none
theorem mut_extend : MutN X κ (semM X "list.extend") gExtend := by
  intro c cs d c' x vs ov H Q e r rs k
  unfold gExtend at e
  split at e
  · rename_i ds es
    split at e
    · rename_i hz
      cases e
      obtain ⟨a, zs, rfl, rfl, ha, rz⟩ := r
      obtain ⟨v, o2, rfl, r2⟩ := rs.one
      obtain ⟨b, ys, rfl, rfl, hb, ry⟩ := r2
      refine semM_of mt_extend ⟨a, b, zs, ys, rfl, rfl, ha, hb, by rw [← rz.length, ← ry.length]; exact hz, ?_⟩
      have sb := mut_lst (vs' := zs ++ ys) ha
      exact k .non _ Rz_non ⟨a, _, rfl, rfl, upd_same, (Rzs.st sb _ _ rz).append (Rzs.st sb _ _ ry)⟩ upd_kept
    · cases e
  · cases e
/-! ### x[i] = e -/
def semSet (X : Cx) : V → V → V → Hp → (Hp → Prop) → Prop := fun o i v H Q => ∀ pins s σ ov iv u, Inv X pins σ H s → RelV o ov → RelV i iv → RelV v u → wpAny (model X.prog X.w) X.A (setItem ov iv u) (fun _ s' => ∃ H', Inv X pins σ H' s' ∧ Q H') X.xe s
theorem pset_sem (X : Cx) : PSet X (semSet X) := fun pins s σ H o i v ov iv u Q I ro ri rv h => h pins s σ ov iv u I ro ri rv
theorem semSet_of {t : TSet} {o i v : V} {H : Hp} {Q : Hp → Prop} (p : PSet X t) (h : t o i v H Q) : semSet X o i v H Q := fun pins s σ ov iv u I ro ri rv => p pins s σ H o i v ov iv u Q I ro ri rv h
def gSetIx : C → D → D → Option C
  | .l ds, .int i, d => match ixN ds.length i with
    | some j => some (.l (ds.set j d))
    | none => none
  | _, _, _ => none
/-- a store into a slot's object -/
def StoN (X : Cx) (κ : String → Addr) (g : C → D → D → Option C) : Prop := ∀ c k d c' x kv dv ov H Q, g c k d = some c' → RC X.K κ H c x ov → Rz X.K κ H k kv → Rz X.K κ H d dv →
  (∀ H', RC X.K κ H' c' x ov → (∀ a o, H a = some o → a ∉ ov → H' a = some o) → Q H') → semSet X x kv dv H Q
theorem sto_ix : StoN X κ gSetIx := by
  intro c k d c' x kv dv ov H Q e r rk rd kq
  unfold gSetIx at e
  split at e
  · rename_i ds i
    split at e
    · rename_i j hj
      cases e
      obtain ⟨a, zs, rfl, rfl, ha, rz⟩ := r
      have := Rz_int.mp rk
      subst this
      refine semSet_of set_list ⟨a, zs, i, j, rfl, rfl, ha, by rw [← rz.length]; exact hj, ?_⟩
      have sb := mut_lst (vs' := zs.set j dv) ha
      exact kq _ ⟨a, _, rfl, rfl, upd_same, (Rzs.st sb _ _ rz).set (Rz.st sb _ _ rd) j⟩ upd_kept
    · cases e
  · cases e
def sSetIx (i : Nat) (g : C → D → D → Option C) (ck cv : Env → R C) : Env → R Fl := fun ρ => (cv ρ).bind fun v ρ1 => match v with
  | .v d => match ρ1[i]? with
    | some (some _) => (ck ρ1).bind fun k ρ2 => match k with
      | .v kd => match ρ2[i]? with
        | some (some c) => match g c kd d with
          | some c' => .ok .nx (ρ2.set i (some c'))
          | none => .stuck
        | _ => .stuck
      | _ => .stuck
    | _ => .stuck
  | _ => .stuck
theorem ds_setIx {i : Nat} {x : Str} {ek ev : Expr} {pN pT pos : Pos} {g : C → D → D → Option C} {ck cv : Env → R C} (ho : StoN X κ g) (hk : DE X κ W ek ck) (hv : DE X κ W ev cv) (hN : X.N[i]? = some x := by rfl) (hvis : Vis X.env.scope x := by first | exact Or.inl rfl | exact Or.inr (Or.inl rfl) | exact Or.inr (Or.inr rfl)) (hd : (x == ("__debug__" : Str)) = false := by decide)
    (hcd : (x == ("__classdict__" : Str)) = false := by decide)
    (ha : ∀ v, assign (.Subscript (.Name x pN) ek pT) X.env v = (do
      let ov ← holding [v] (eval (.Name x pN) X.env)
      let iv ← holding [v, ov] (eval ek X.env)
      standAt pT
      holding [v, ov, iv] (setItem ov iv v)
      release [v, ov, iv] []) := by intro _; rfl)
    (hs : swapsWithSole [.Subscript (.Name x pN) ek pT] ev pos.line X.env = pure false := by rfl) (hw : swappedStores [.Subscript (.Name x pN) ek pT] ev X.env = pure none := by rfl)
    (h1 : (assignEach [.Subscript (.Name x pN) ek pT] X.env).map (·.2) = [assign (.Subscript (.Name x pN) ek pT) X.env] := by rfl) : DS X κ W kp (.Assign [.Subscript (.Name x pN) ek pT] ev pos) (sSetIx i g ck cv) := by
  intro σ ρ H O D F h
  refine semS_of (ps_asg (pe_sem X ev) (pg_sub (pe_var hN hvis hd hcd) (pe_sem X ek) (pset_sem X) ha) hs hw h1) (hv σ ρ H O _ F ?_)
  unfold sSetIx at h
  cases e1 : cv ρ with
  | stuck => rw [e1] at h; exact h
  | exn n ρ1 => rw [e1] at h; exact fun H' O' F' n' => h σ H' O' F' Kp.refl n'
  | ok v ρ1 =>
    rw [e1, R.bind_ok] at h
    split at h
    · rename_i d
      intro dv H1 O1 ov1 F1 r1 d1 n1
      obtain ⟨eo, rd⟩ := r1
      subst eo
      split at h
      · rename_i c0 hc0
        obtain ⟨xv, ex, _⟩ := F1.cv i c0 hc0
        refine ⟨xv, ex, ?_⟩
        refine hk σ ρ1 H1 O1 _ F1 ?_
        cases e2 : ck ρ1 with
        | stuck => rw [e2] at h; exact h
        | exn n ρ2 => rw [e2] at h; exact fun H' O' F' n' => h σ H' O' F' Kp.refl (n1.trans n')
        | ok k ρ2 =>
          rw [e2, R.bind_ok] at h
          split at h
          · rename_i kd
            intro kv H2 O2 ov2 F2 r2 d2 n2
            obtain ⟨eo, rk⟩ := r2
            subst eo
            split at h
            · rename_i c hc
              split at h
              · rename_i c' eg
                obtain ⟨xv', ex', rc⟩ := F2.cv i c hc
                rw [ex] at ex'; cases ex'
                refine ho c kd d c' xv kv dv (O2 i) H2 _ eg rc rk (Rz.st n2.sb _ _ rd) fun H3 rc' kq => ?_
                exact h σ H3 O2 (F2.mut hc ex rc rc' kq) Kp.refl ((n1.trans n2).trans (Nx.mut (sb_mut rc kq) kq))
              · exact h.elim
            · exact h.elim
          · exact h.elim
      · exact h.elim
    · exact h.elim
/-! ### atoms: names and constants, read without a trace -/
variable (X κ) in
def At (e : Expr) (a : Env → Option D) : Prop := ∀ σ ρ H O d, Fr X.K κ H σ ρ O → a ρ = some d → ∃ v, Rz X.K κ H d v ∧ ∀ Q : VK, Q v H → semE X e σ H Q
def aVar (i : Nat) : Env → Option D := fun ρ => match ρ[i]? with
  | some (some (.v d)) => some d
  | _ => none
def aInt (i : Int) : Env → Option D := fun _ => some (.int i)
theorem at_var (i : Nat) {x : Str} {pos : Pos} (hN : X.N[i]? = some x := by rfl) (hv : Vis X.env.scope x := by first | exact Or.inl rfl | exact Or.inr (Or.inl rfl) | exact Or.inr (Or.inr rfl)) (hd : (x == ("__debug__" : Str)) = false := by decide)
    (hcd : (x == ("__classdict__" : Str)) = false := by decide) : At X κ (.Name x pos) (aVar i) := by
  intro σ ρ H O d F e
  unfold aVar at e
  split at e
  · rename_i d' hc
    cases e
    obtain ⟨v, ev, r⟩ := F.cv i _ hc
    exact ⟨v, r.2, fun Q q => sem_of (pe_var hN hv hd hcd) ⟨v, ev, q⟩⟩
  · cases e
theorem at_int {i : Int} {j pos} : At X κ (.Constant (.int i) j pos) (aInt i) := by
  intro σ ρ H O d F e
  cases e
  exact ⟨.int i, by unfold Rz; rfl, fun Q q => sem_of pe_int q⟩
/-! ### a slot's list of lists -/
def gSet2 : C → D → D → D → Option C
  | .ll dss, .int i, .int j, d => match ixN dss.length i with
    | some a => match dss[a]? with
      | some ds => match ixN ds.length j with
        | some b => some (.ll (dss.set a (ds.set b d)))
        | none => none
      | none => none
    | none => none
  | _, _, _, _ => none
theorem RLs_set {K : PySem.W.Frag} {H : Hp} : ∀ {dss : List (List D)} {as : List Addr} {i : Nat} {a : Addr} {ds' : List D} {vs' : List V}, RLs K κ H dss as → as.Nodup → as[i]? = some a → Sb H (upd H a (.lst vs')) → Rzs K κ (upd H a (.lst vs')) ds' vs' → RLs K κ (upd H a (.lst vs')) (dss.set i ds') as
  | [], _, _, _, _, _, h, _, e, _, _ => by unfold RLs at h; subst h; simp at e
  | ds :: r, _, 0, a, ds', vs', h, nd, e, sb, rz => by
    unfold RLs at h
    obtain ⟨b, as', rfl, h1, h2⟩ := h
    simp at e; subst e
    rw [List.set_cons_zero]
    unfold RLs
    exact ⟨b, as', rfl, ⟨vs', upd_same, rz⟩, h2.st sb fun c hc => upd_ne fun q => (List.nodup_cons.mp nd).1 (q ▸ hc)⟩
  | ds :: r, _, i + 1, a, ds', vs', h, nd, e, sb, rz => by
    unfold RLs at h
    obtain ⟨b, as', rfl, ⟨vs, h1, h3⟩, h2⟩ := h
    have e' : as'[i]? = some a := by simpa using e
    rw [List.set_cons_succ]
    unfold RLs
    exact ⟨b, as', rfl, ⟨vs, by rw [upd_ne (fun q => (List.nodup_cons.mp nd).1 (by rw [q]; exact List.mem_of_getElem? e'))]; exact h1, Rzs.st sb _ _ h3⟩, RLs_set h2 (List.nodup_cons.mp nd).2 e' sb rz⟩
def sSet2 (i : Nat) (a1 a2 : Env → Option D) (cv : Env → R C) : Env → R Fl := fun ρ => (cv ρ).bind fun v ρ1 => match v with
  | .v d => match ρ1[i]?, a1 ρ1, a2 ρ1 with
    | some (some c), some k1, some k2 => match gSet2 c k1 k2 d with
      | some c' => .ok .nx (ρ1.set i (some c'))
      | none => .stuck
    | _, _, _ => .stuck
  | _ => .stuck
theorem ds_set2 {i : Nat} {x : Str} {e1 e2 ev : Expr} {pN pI pT pos : Pos} {a1 a2 : Env → Option D} {cv : Env → R C} (h1 : At X κ e1 a1) (h2 : At X κ e2 a2) (hv : DE X κ W ev cv) (hN : X.N[i]? = some x := by rfl) (hvis : Vis X.env.scope x := by first | exact Or.inl rfl | exact Or.inr (Or.inl rfl) | exact Or.inr (Or.inr rfl)) (hd : (x == ("__debug__" : Str)) = false := by decide)
    (hcd : (x == ("__classdict__" : Str)) = false := by decide) (hpl : PlainIx e1 := by exact fun _ _ => rfl)
    (ha : ∀ v, assign (.Subscript (.Subscript (.Name x pN) e1 pI) e2 pT) X.env v = (do
      let ov ← holding [v] (eval (.Subscript (.Name x pN) e1 pI) X.env)
      let iv ← holding [v, ov] (eval e2 X.env)
      standAt pT
      holding [v, ov, iv] (setItem ov iv v)
      release [v, ov, iv] []) := by intro _; rfl)
    (hs : swapsWithSole [.Subscript (.Subscript (.Name x pN) e1 pI) e2 pT] ev pos.line X.env = pure false := by rfl) (hw : swappedStores [.Subscript (.Subscript (.Name x pN) e1 pI) e2 pT] ev X.env = pure none := by rfl)
    (he : (assignEach [.Subscript (.Subscript (.Name x pN) e1 pI) e2 pT] X.env).map (·.2) = [assign (.Subscript (.Subscript (.Name x pN) e1 pI) e2 pT) X.env] := by rfl) : DS X κ W kp (.Assign [.Subscript (.Subscript (.Name x pN) e1 pI) e2 pT] ev pos) (sSet2 i a1 a2 cv) := by
  intro σ ρ H O D F h
  refine semS_of (ps_asg (pe_sem X ev) (pg_sub (pe_ix ix_list (pe_var hN hvis hd hcd) (pe_sem X e1) hpl) (pe_sem X e2) set_list ha) hs hw he) (hv σ ρ H O _ F ?_)
  unfold sSet2 at h
  cases c1 : cv ρ with
  | stuck => rw [c1] at h; exact h
  | exn n ρ1 => rw [c1] at h; exact fun H' O' F' n' => h σ H' O' F' Kp.refl n'
  | ok v ρ1 =>
    rw [c1, R.bind_ok] at h
    split at h
    · rename_i d
      intro dv H1 O1 ov1 F1 r1 d1 n1
      obtain ⟨eo, rd⟩ := r1
      subst eo
      split at h
      · rename_i c k1 k2 hc hk1 hk2
        split at h
        · rename_i c' eg
          obtain ⟨xv, ex, rc⟩ := F1.cv i c hc
          obtain ⟨v1, rv1, q1⟩ := h1 σ ρ1 H1 O1 k1 F1 hk1
          obtain ⟨v2, rv2, q2⟩ := h2 σ ρ1 H1 O1 k2 F1 hk2
          unfold gSet2 at eg
          split at eg
          · rename_i dss ii jj
            split at eg
            · rename_i a ha1
              split at eg
              · rename_i ds hds
                split at eg
                · rename_i b hb
                  cases eg
                  obtain ⟨p, as, rfl, eO, nd, hp, rl⟩ := id rc
                  have e1' := Rz_int.mp rv1
                  have e2' := Rz_int.mp rv2
                  subst e1' e2'
                  obtain ⟨pa, vs, epa, hpa, rz⟩ := rl.get hds
                  refine ⟨_, ex, q1 _ ⟨p, as.map V.ref, ii, .ref pa, rfl, rfl, SqL.of hp, ?_, q2 _ ⟨pa, vs, jj, b, rfl, rfl, hpa, by rw [← rz.length]; exact hb, ?_⟩⟩⟩
                  · unfold atI
                    rw [List.length_map, ← rl.length, ha1]
                    show (as.map V.ref)[a]? = _
                    rw [List.getElem?_map, epa]; rfl
                  · have hmem : pa ∈ as := List.mem_of_getElem? epa
                    have hne : p ≠ pa := fun q => (List.nodup_cons.mp nd).1 (q ▸ hmem)
                    have sb := mut_lst (vs' := vs.set b dv) hpa
                    have kq : ∀ c o, H1 c = some o → c ∉ O1 i → upd H1 pa (.lst (vs.set b dv)) c = some o := fun c o eo hc' => by
                      rw [upd_ne (fun q => hc' (by rw [eO, q]; simp [hmem]))]; exact eo
                    have rc' : RC X.K κ (upd H1 pa (.lst (vs.set b dv))) (.ll (dss.set a (ds.set b d))) (.ref p) (O1 i) :=
                      ⟨p, as, rfl, eO, nd, by rw [upd_ne hne]; exact hp, RLs_set rl (List.nodup_cons.mp nd).2 epa sb ((Rzs.st sb _ _ rz).set (Rz.st sb _ _ rd) b)⟩
                    exact h σ _ O1 (F1.mut hc ex rc rc' kq) Kp.refl (n1.trans (Nx.mut (sb_mut rc kq) kq))
                · cases eg
              · cases eg
            · cases eg
          · cases eg
        · exact h.elim
      · exact h.elim
    · exact h.elim
/-- x[i][j] of a slot's list of lists -/
def gGet2 : C → D → D → Option D
  | .ll dss, .int i, .int j => match ixN dss.length i with
    | some a => match dss[a]? with
      | some ds => atI ds j
      | none => none
    | none => none
  | _, _, _ => none
def cGet2 (i : Nat) (a1 a2 : Env → Option D) : Env → R C := fun ρ => match ρ[i]?, a1 ρ, a2 ρ with
  | some (some c), some k1, some k2 => match gGet2 c k1 k2 with
    | some d => .ok (.v d) ρ
    | none => .stuck
  | _, _, _ => .stuck
theorem atI_map {K : PySem.W.Frag} {H : Hp} {ds : List D} {vs : List V} {i : Int} {d : D} (r : Rzs K κ H ds vs) (e : atI ds i = some d) : ∃ v, atI vs i = some v ∧ Rz K κ H d v := by
  unfold atI at e ⊢
  rw [← r.length]
  cases q : ixN ds.length i with
  | none => rw [q] at e; cases e
  | some j =>
    rw [q] at e
    exact r.get e
theorem de_get2 {i : Nat} {x : Str} {e1 e2 : Expr} {pN pI pos : Pos} {a1 a2 : Env → Option D} (h1 : At X κ e1 a1) (h2 : At X κ e2 a2) (hN : X.N[i]? = some x := by rfl) (hvis : Vis X.env.scope x := by first | exact Or.inl rfl | exact Or.inr (Or.inl rfl) | exact Or.inr (Or.inr rfl)) (hd : (x == ("__debug__" : Str)) = false := by decide)
    (hcd : (x == ("__classdict__" : Str)) = false := by decide) (hpl : PlainIx e1 := by exact fun _ _ => rfl) (hpl2 : PlainIx e2 := by exact fun _ _ => rfl) : DE X κ W (.Subscript (.Subscript (.Name x pN) e1 pI) e2 pos) (cGet2 i a1 a2) := by
  intro σ ρ H O Q F h
  unfold cGet2 at h
  split at h
  · rename_i c k1 k2 hc hk1 hk2
    split at h
    · rename_i d eg
      obtain ⟨xv, ex, rc⟩ := F.cv i c hc
      obtain ⟨v1, rv1, q1⟩ := h1 σ ρ H O k1 F hk1
      obtain ⟨v2, rv2, q2⟩ := h2 σ ρ H O k2 F hk2
      unfold gGet2 at eg
      split at eg
      · rename_i dss ii jj
        split at eg
        · rename_i a ha1
          split at eg
          · rename_i ds hds
            obtain ⟨p, as, rfl, eO, nd, hp, rl⟩ := id rc
            have e1' := Rz_int.mp rv1
            have e2' := Rz_int.mp rv2
            subst e1' e2'
            obtain ⟨pa, vs, epa, hpa, rz⟩ := rl.get hds
            obtain ⟨v, ev, rv⟩ := atI_map rz eg
            refine sem_of (pe_ix ix_list (pe_ix ix_list (pe_var hN hvis hd hcd) (pe_sem X e1) hpl) (pe_sem X e2) hpl2) ⟨_, ex, q1 _ ⟨p, as.map V.ref, ii, .ref pa, rfl, rfl, SqL.of hp, ?_, q2 _ ⟨pa, vs, jj, v, rfl, rfl, SqL.of hpa, ev, ?_⟩⟩⟩
            · unfold atI
              rw [List.length_map, ← rl.length, ha1]
              show (as.map V.ref)[a]? = _
              rw [List.getElem?_map, epa]; rfl
            · exact h v H O [] F ⟨rfl, rv⟩ (fun a ha => by simp at ha) Nx.refl
          · cases eg
        · cases eg
      · cases eg
    · exact h.elim
  · exact h.elim
end
end SW

set_option Elab.async false
set_option linter.all false
set_option maxRecDepth 100000
set_option maxHeartbeats 4000000
/-! Sw9: operations on contents. -/
namespace SW
open PySem PySem.Spec PyProof.Rows L2
section
variable {X : Cx} {κ : String → Addr} {W : WX}
def lstOf : C → Option (List D)
  | .l ds => some ds
  | .v (.lst ds) => some ds
  | _ => none
def tupOf : C → Option (List D)
  | .v (.tup ds) => some ds
  | _ => none
def seqOf : C → Option (List D)
  | .l ds => some ds
  | .v (.lst ds) => some ds
  | .v (.tup ds) => some ds
  | _ => none
theorem RC.lst {K : PySem.W.Frag} {H : Hp} {c : C} {v : V} {ov : List Addr} {ds : List D} (r : RC K κ H c v ov) (e : lstOf c = some ds) : ∃ a vs, v = .ref a ∧ SqL K H a vs ∧ Rzs K κ H ds vs := by
  unfold lstOf at e
  split at e
  · cases e
    obtain ⟨a, vs, h1, _, h2, h3⟩ := r
    exact ⟨a, vs, h1, SqL.of h2, h3⟩
  · cases e
    obtain ⟨_, rz⟩ := r
    unfold Rz at rz
    obtain ⟨a, vs, h1, h2, h3⟩ := rz
    exact ⟨a, vs, h1, h2.sql, h3⟩
  · cases e
theorem RC.tup {K : PySem.W.Frag} {H : Hp} {c : C} {v : V} {ov : List Addr} {ds : List D} (r : RC K κ H c v ov) (e : tupOf c = some ds) : ∃ a vs, v = .ref a ∧ SqT K H a vs ∧ Rzs K κ H ds vs := by
  unfold tupOf at e
  split at e
  · cases e
    obtain ⟨_, rz⟩ := r
    unfold Rz at rz
    obtain ⟨a, vs, e, h, q⟩ := rz
    exact ⟨a, vs, e, h.sqt, q⟩
  · cases e
theorem RC.seq {K : PySem.W.Frag} {H : Hp} {c : C} {v : V} {ov : List Addr} {ds : List D} (r : RC K κ H c v ov) (e : seqOf c = some ds) : ∃ a vs, v = .ref a ∧ (SqL K H a vs ∨ SqT K H a vs) ∧ Rzs K κ H ds vs := by
  unfold seqOf at e
  split at e
  · cases e
    obtain ⟨a, vs, h1, h2, h3⟩ := r.lst (ds := _) rfl
    exact ⟨a, vs, h1, .inl h2, h3⟩
  · cases e
    obtain ⟨a, vs, h1, h2, h3⟩ := r.lst (ds := _) rfl
    exact ⟨a, vs, h1, .inl h2, h3⟩
  · cases e
    obtain ⟨a, vs, h1, h2, h3⟩ := r.tup (ds := _) rfl
    exact ⟨a, vs, h1, .inr h2, h3⟩
  · cases e
/-- a way to show an operation: by what its operands are -/
theorem opn2 {r : R2} {g : List C → Option C} (h : ∀ c1 c2 c x y o1 o2 H (Q : VK), g [c1, c2] = some c → RC X.K κ H c1 x o1 → RC X.K κ H c2 y o2 → (∀ v H' ov, RC X.K κ H' c v ov → Same H H' → (∀ a ∈ ov, H a = none) → Q v H') → r x y H Q)
    (hg : ∀ cs c, g cs = some c → ∃ c1 c2, cs = [c1, c2]) : OpN X κ (sem2 r) g := by
  intro cs c vs H Q e rs k
  obtain ⟨c1, c2, rfl⟩ := hg cs c e
  obtain ⟨x, y, o1, o2, rfl, r1, r2⟩ := rs.two
  exact ⟨x, y, rfl, h c1 c2 c x y o1 o2 H Q e r1 r2 k⟩
theorem opn1 {r : V → Hp → VK → Prop} {g : List C → Option C} (h : ∀ c1 c x o1 H (Q : VK), g [c1] = some c → RC X.K κ H c1 x o1 → (∀ v H' ov, RC X.K κ H' c v ov → Same H H' → (∀ a ∈ ov, H a = none) → Q v H') → r x H Q)
    (hg : ∀ cs c, g cs = some c → ∃ c1, cs = [c1]) : OpN X κ (sem1 r) g := by
  intro cs c vs H Q e rs k
  obtain ⟨c1, rfl⟩ := hg cs c e
  obtain ⟨x, o1, rfl, r1⟩ := rs.one
  exact ⟨x, rfl, h c1 c x o1 H Q e r1 k⟩
/-- a value without a new object -/
theorem kval {H : Hp} {d : D} {v : V} {Q : VK} (k : ∀ v H' ov, RC X.K κ H' (.v d) v ov → Same H H' → (∀ a ∈ ov, H a = none) → Q v H') (r : Rz X.K κ H d v) : Q v H := k v H [] ⟨rfl, r⟩ (Same.refl H) (fun a ha => by simp at ha)
theorem kint {H : Hp} {i : Int} {Q : VK} (k : ∀ v H' ov, RC X.K κ H' (.v (.int i)) v ov → Same H H' → (∀ a ∈ ov, H a = none) → Q v H') : Q (.int i) H := kval k (by unfold Rz; rfl)
theorem kbl {H : Hp} {i : Bool} {Q : VK} (k : ∀ v H' ov, RC X.K κ H' (.v (.bl i)) v ov → Same H H' → (∀ a ∈ ov, H a = none) → Q v H') : Q (.bl i) H := kval k (by unfold Rz; rfl)
theorem kstr {H : Hp} {i : Str} {Q : VK} (k : ∀ v H' ov, RC X.K κ H' (.v (.str i)) v ov → Same H H' → (∀ a ∈ ov, H a = none) → Q v H') : Q (.str i) H := kval k (by unfold Rz; rfl)
theorem ktup {H : Hp} {ds : List D} {vs : List V} {Q : VK} (k : ∀ v H' ov, RC X.K κ H' (.v (.tup ds)) v ov → Same H H' → (∀ a ∈ ov, H a = none) → Q v H') (rz : Rzs X.K κ H ds vs) : NewT vs H Q := fun p o hp hd =>
  k _ _ [] ⟨rfl, by unfold Rz; exact ⟨p, vs, rfl, ⟨o, upd_same, hd⟩, Rzs.st (Sb.same (same_upd hp)) _ _ rz⟩⟩ (same_upd hp) (fun a ha => by simp at ha)
theorem klst {H : Hp} {ds : List D} {vs : List V} {p : Addr} {Q : VK} (k : ∀ v H' ov, RC X.K κ H' (.l ds) v ov → Same H H' → (∀ a ∈ ov, H a = none) → Q v H') (rz : Rzs X.K κ H ds vs) (hp : H p = none) : Q (.ref p) (upd H p (.lst vs)) :=
  k _ _ [p] ⟨p, vs, rfl, rfl, upd_same, Rzs.st (Sb.same (same_upd hp)) _ _ rz⟩ (same_upd hp) (fun a ha => by
    have : a = p := by simpa using ha
    rw [this]; exact hp)
theorem RC_int {K : PySem.W.Frag} {H : Hp} {i : Int} {v : V} {ov : List Addr} (r : RC K κ H (.v (.int i)) v ov) : v = .int i := Rz_int.mp r.2
theorem RC_str {K : PySem.W.Frag} {H : Hp} {i : Str} {v : V} {ov : List Addr} (r : RC K κ H (.v (.str i)) v ov) : v = .str i := by have := r.2; unfold Rz at this; exact this
theorem RC_bl {K : PySem.W.Frag} {H : Hp} {i : Bool} {v : V} {ov : List Addr} (r : RC K κ H (.v (.bl i)) v ov) : v = .bl i := by have := r.2; unfold Rz at this; exact this
/-- int, int -/
def gI (C : Int → Int → Bool) (f : Int → Int → D) : List SW.C → Option SW.C
  | [.v (.int i), .v (.int j)] => if C i j then some (.v (f i j)) else none
  | _ => none
theorem gI_two {C : Int → Int → Bool} {f : Int → Int → D} : ∀ cs c, gI C f cs = some c → ∃ c1 c2, cs = [c1, c2] := by
  intro cs c e
  unfold gI at e
  split at e
  · exact ⟨_, _, rfl⟩
  · cases e
theorem opn_I {f : Value → Value → Sem Value} {C : Int → Int → Prop} {Cb : Int → Int → Bool} {g : Int → Int → Int} (h : OpR X f (rI C fun i j => .int (g i j))) (hc : ∀ i j, Cb i j = true → C i j) : OpN X κ (sem2 (semR X f)) (gI Cb fun i j => .int (g i j)) := by
  refine opn2 (fun c1 c2 c x y o1 o2 H Q e r1 r2 k => ?_) gI_two
  unfold gI at e
  split at e
  · rename_i i j heq
    injection heq with h1 h2
    injection h2 with h2 _
    subst h1 h2
    split at e
    · rename_i hC
      cases e
      have := RC_int r1; subst this
      have := RC_int r2; subst this
      exact semR_of h ⟨i, j, rfl, rfl, hc i j hC, kint k⟩
    · cases e
  · cases e
theorem opn_I0 {f : Value → Value → Sem Value} {g : Int → Int → Int} (h : OpR X f (rI0 fun i j => .int (g i j))) : OpN X κ (sem2 (semR X f)) (gI (fun _ _ => true) fun i j => .int (g i j)) :=
  opn_I (C := fun _ _ => True) (fun pins s σ H x y v u Q I rx ry ⟨i, j, e1, e2, _, q⟩ => h pins s σ H x y v u Q I rx ry ⟨i, j, e1, e2, q⟩) fun _ _ _ => trivial
theorem opn_B {f : Value → Value → Sem Value} {g : Int → Int → Bool} (h : OpR X f (rI0 fun i j => .bl (g i j))) : OpN X κ (sem2 (semR X f)) (gI (fun _ _ => true) fun i j => .bl (g i j)) := by
  refine opn2 (fun c1 c2 c x y o1 o2 H Q e r1 r2 k => ?_) gI_two
  unfold gI at e
  split at e
  · rename_i i j heq
    injection heq with h1 h2
    injection h2 with h2 _
    subst h1 h2
    split at e
    · cases e
      have := RC_int r1; subst this
      have := RC_int r2; subst this
      exact semR_of h ⟨i, j, rfl, rfl, kbl k⟩
    · cases e
  · cases e
abbrev gLt := gI (fun _ _ => true) fun i j => .bl (decide (i < j))
abbrev gLe := gI (fun _ _ => true) fun i j => .bl (decide (i ≤ j))
abbrev gGt := gI (fun _ _ => true) fun i j => .bl (decide (j < i))
abbrev gGe := gI (fun _ _ => true) fun i j => .bl (decide (j ≤ i))
theorem opn_lt : OpN X κ (sem2 (semR X (compareOp .Lt))) gLt := opn_B op_lt
theorem opn_le : OpN X κ (sem2 (semR X (compareOp .LtE))) gLe := opn_B op_le
theorem opn_gt : OpN X κ (sem2 (semR X (compareOp .Gt))) gGt := opn_B op_gt
theorem opn_ge : OpN X κ (sem2 (semR X (compareOp .GtE))) gGe := opn_B op_ge
abbrev gSub := gI (fun _ _ => true) fun i j => .int (i - j)
theorem opn_sub : OpN X κ (sem2 (semR X (binaryOp .Sub))) gSub := opn_I0 op_sub
/-- i * j of together less than a million bits -/
def bitsOk (i j : Int) : Bool := decide (i.natAbs.log2 + j.natAbs.log2 < 1000000)
/-- the divisor is not too great -/
def divOk (_ j : Int) : Bool := decide (0 < j ∧ j.natAbs.log2 < 9000)
abbrev gFdiv := gI divOk fun i j => .int (i / j)
theorem opn_fdiv : OpN X κ (sem2 (semR X (binaryOp .FloorDiv))) gFdiv := opn_I op_fdivW fun i j h => by simpa [divOk, CDivW] using h
abbrev gMod := gI (fun _ j => decide (0 < j)) fun i j => .int (i % j)
theorem opn_mod : OpN X κ (sem2 (semR X (binaryOp .Mod))) gMod := opn_I op_mod fun i j h => by simpa using h
abbrev gPow := gI (fun i j => decide (0 ≤ j ∧ j ≤ 1000000 ∧ i.natAbs < 2 ^ 64)) fun i j => .int (i ^ j.toNat)
theorem opn_pow : OpN X κ (sem2 (semR X (binaryOp .Pow))) gPow := opn_I op_pow fun i j h => by simpa [CPow] using h
/-! ### + -/
def gAdd : List C → Option C
  | [.v (.int i), .v (.int j)] => some (.v (.int (i + j)))
  | [.v (.tup xs), .v (.tup ys)] => if xs.length + ys.length ≤ sizeLine then some (.v (.tup (xs ++ ys))) else none
  | [.v (.str x), .v (.str y)] => if x.length + y.length ≤ sizeLine then some (.v (.str (x ++ y))) else none
  | [c, d] => match lstOf c, lstOf d with
    | some xs, some ys => if xs.length + ys.length ≤ sizeLine then some (.l (xs ++ ys)) else none
    | _, _ => none
  | _ => none
/-- list + list, of lists that are read -/
def rCatL (K : PySem.W.Frag) : R2 := fun x y H Q => ∃ l b xs zs, x = .ref l ∧ y = .ref b ∧ SqL K H l xs ∧ SqL K H b zs ∧ xs.length + zs.length ≤ sizeLine ∧ ∀ p, H p = none → Q (.ref p) (upd H p (.lst (xs ++ zs)))
theorem op_catL : OpR X (binaryOp .Add) (rCatL X.K) := by
  intro pins s σ H x y v u Q I rx ry h
  obtain ⟨l, b, xs, zs, rfl, rfl, hH, hB, hz, q⟩ := h
  cases rx
  cases ry
  obtain ⟨its, r1, ⟨⟨cls, dd, data, sl⟩, n, ho, hc, hd1, hd⟩, _⟩ := I.list hH
  obtain ⟨its2, r2, ⟨⟨cls2, dd2, data2, sl2⟩, n2, ho2, hc2, hd2, hd2'⟩, _⟩ := I.list hB
  simp only at hc hd1 hd hc2 hd2 hd2'
  subst hc hd1 hd hc2 hd2 hd2'
  have l1 := r1.length
  have l2 := r2.length
  have e : its.toArray ++ its2.toArray = (its ++ its2).toArray := by simp
  refine concat_meets ⟨_, ho, rfl⟩ ⟨_, ho2, rfl⟩ noFill_list_add seq_list_add PySem.F.slot_list_add PySem.F.entry_list_add (PySem.F.args_list_add_2 _ _) (list_addW l b its.toArray its2.toArray n n2 none none sl sl2 (by simp only [List.size_toArray]; omega)) ⟨ho, ho2, ?_⟩
  rw [e]
  exact ⟨.ref _, _, I.lnew (t' := s.toks) (r1.append r2) (by rw [List.length_append]; omega), rfl, q _ I.fresh⟩
theorem opn_add : OpN X κ (sem2 (semR X (binaryOp .Add))) gAdd := by
  refine opn2 (fun c1 c2 c x y o1 o2 H Q e r1 r2 k => ?_) fun cs c e => ?_
  · unfold gAdd at e
    split at e
    · rename_i i j heq
      injection heq with h1 h2
      injection h2 with h2 _
      subst h1 h2
      cases e
      have := RC_int r1; subst this
      have := RC_int r2; subst this
      exact semR_of op_add ⟨i, j, rfl, rfl, kint k⟩
    · rename_i xs ys heq
      injection heq with h1 h2
      injection h2 with h2 _
      subst h1 h2
      split at e
      · rename_i hz
        cases e
        obtain ⟨a, vs, rfl, ha, ra⟩ := r1.tup (ds := _) rfl
        obtain ⟨b, us, rfl, hb, rb⟩ := r2.tup (ds := _) rfl
        have la := ra.length
        have lb := rb.length
        refine semR_of op_catN ⟨a, b, vs, us, rfl, rfl, ha, hb, by omega, fun z => ?_, fun z => ?_, ktup k (ra.append rb)⟩
        · subst z
          have : xs = [] := List.length_eq_zero_iff.mp (by simpa using la)
          subst this
          exact kval k r2.2
        · subst z
          have : ys = [] := List.length_eq_zero_iff.mp (by simpa using lb)
          subst this
          rw [List.append_nil] at k
          exact kval k r1.2
      · cases e
    · rename_i xs ys heq
      injection heq with h1 h2
      injection h2 with h2 _
      subst h1 h2
      split at e
      · rename_i hz
        cases e
        have := RC_str r1; subst this
        have := RC_str r2; subst this
        exact semR_of op_add_str ⟨xs, ys, rfl, rfl, hz, kstr k⟩
      · cases e
    · rename_i heq
      injection heq with h1 h2
      injection h2 with h2 _
      subst h1 h2
      split at e
      · rename_i xs ys hx hy
        split at e
        · rename_i hz
          cases e
          obtain ⟨a, vs, rfl, ha, ra⟩ := r1.lst hx
          obtain ⟨b, us, rfl, hb, rb⟩ := r2.lst hy
          exact semR_of op_catL ⟨a, b, vs, us, rfl, rfl, ha, hb, by rw [← ra.length, ← rb.length]; exact hz, fun p hp => klst k (ra.append rb) hp⟩
        · cases e
      · cases e
    · cases e
  · unfold gAdd at e
    split at e
    · exact ⟨_, _, rfl⟩
    · exact ⟨_, _, rfl⟩
    · exact ⟨_, _, rfl⟩
    · exact ⟨_, _, rfl⟩
    · cases e
/-! ### * -/
def gMul : List C → Option C
  | [.v (.int i), .v (.int j)] => if bitsOk i j then some (.v (.int (i * j))) else none
  | [.l ds, .v (.int k)] => if -(2 ^ 63) ≤ k ∧ k < 2 ^ 63 ∧ ds.length * k.toNat ≤ sizeLine then some (.l (List.replicate k.toNat ds).flatten) else none
  | _ => none
theorem rep_rz {K : PySem.W.Frag} {H : Hp} {ds : List D} {vs : List V} (r : Rzs K κ H ds vs) : ∀ n : Nat, Rzs K κ H (List.replicate n ds).flatten (List.replicate n vs).flatten
  | 0 => Rzs.nil
  | n + 1 => by
    rw [List.replicate_succ, List.replicate_succ, List.flatten_cons, List.flatten_cons]
    exact r.append (rep_rz r n)
theorem opn_mul : OpN X κ (sem2 (semR X (binaryOp .Mult))) gMul := by
  refine opn2 (fun c1 c2 c x y o1 o2 H Q e r1 r2 k => ?_) fun cs c e => ?_
  · unfold gMul at e
    split at e
    · rename_i i j heq
      injection heq with h1 h2
      injection h2 with h2 _
      subst h1 h2
      split at e
      · rename_i hb
        cases e
        have := RC_int r1; subst this
        have := RC_int r2; subst this
        exact semR_of op_mulW ⟨i, j, rfl, rfl, by simpa [bitsOk, CMulW] using hb, kint k⟩
      · cases e
    · rename_i ds j heq
      injection heq with h1 h2
      injection h2 with h2 _
      subst h1 h2
      split at e
      · rename_i hb
        cases e
        obtain ⟨a, vs, rfl, rfl, ha, ra⟩ := r1
        have := RC_int r2; subst this
        exact semR_of op_rep ⟨a, j, vs, rfl, rfl, ha, hb.1, hb.2.1, by rw [← ra.length]; exact hb.2.2, fun p hp => klst k (rep_rz ra _) hp⟩
      · cases e
    · cases e
  · unfold gMul at e
    split at e
    · exact ⟨_, _, rfl⟩
    · exact ⟨_, _, rfl⟩
    · cases e
def gNeg : List C → Option C
  | [.v (.int i)] => some (.v (.int (-i)))
  | _ => none
theorem opn_neg : OpN X κ (sem1 (semU X (unaryOp .USub))) gNeg := by
  refine opn1 (fun c1 c x o1 H Q e r1 k => ?_) fun cs c e => ?_
  · unfold gNeg at e
    split at e
    · rename_i i heq
      injection heq with h1 _
      subst h1
      cases e
      have := RC_int r1; subst this
      exact semU_of un_neg ⟨i, rfl, kint k⟩
    · cases e
  · unfold gNeg at e
    split at e
    · exact ⟨_, rfl⟩
    · cases e
/-! ### == and != at any depth -/
mutual
def toP : D → Option PyData
  | .non => some .none
  | .bl b => some (.bool b)
  | .int i => some (.int i)
  | .str x => some (.str x)
  | .tup xs => match toPs xs with
    | some ps => some (.tuple ps)
    | none => none
  | .lst xs => match toPs xs with
    | some ps => some (.list ps)
    | none => none
  | _ => none
def toPs : List D → Option (List PyData)
  | [] => some []
  | d :: ds => match toP d, toPs ds with
    | some p, some ps => some (p :: ps)
    | _, _ => none
end
def toPss : List (List D) → Option (List PyData)
  | [] => some []
  | ds :: r => match toPs ds, toPss r with
    | some p, some ps => some (.list p :: ps)
    | _, _ => none
def toPC : C → Option PyData
  | .v d => toP d
  | .l ds => (toPs ds).map .list
  | .ll dss => (toPss dss).map .list
  | .dc _ => none
mutual
theorem dp_of {K : PySem.W.Frag} {H : Hp} : ∀ (d : D) (v : V) (p : PyData), Rz K κ H d v → toP d = some p → Dp K H v p
  | .non, v, p, r, e => by unfold Rz at r; unfold toP at e; cases e; subst r; exact Dp.non
  | .bl b, v, p, r, e => by unfold Rz at r; unfold toP at e; cases e; subst r; exact Dp.bl b
  | .int b, v, p, r, e => by unfold Rz at r; unfold toP at e; cases e; subst r; exact Dp.int b
  | .str b, v, p, r, e => by unfold Rz at r; unfold toP at e; cases e; subst r; exact Dp.str b
  | .ty _, v, p, r, e => by unfold toP at e; cases e
  | .cls _, v, p, r, e => by unfold toP at e; cases e
  | .exc _, v, p, r, e => by unfold toP at e; cases e
  | .tup xs, v, p, r, e => by
    unfold Rz at r
    obtain ⟨a, vs, rfl, h, rs⟩ := r
    unfold toP at e
    split at e
    · rename_i ps hp
      cases e
      exact Dp.tup h.sqt (dps_of xs vs ps rs hp)
    · cases e
  | .lst xs, v, p, r, e => by
    unfold Rz at r
    obtain ⟨a, vs, rfl, h, rs⟩ := r
    unfold toP at e
    split at e
    · rename_i ps hp
      cases e
      exact Dp.lst h.sql (dps_of xs vs ps rs hp)
    · cases e
theorem dps_of {K : PySem.W.Frag} {H : Hp} : ∀ (ds : List D) (vs : List V) (ps : List PyData), Rzs K κ H ds vs → toPs ds = some ps → DpAll K H vs ps
  | [], vs, ps, r, e => by unfold Rzs at r; unfold toPs at e; cases e; subst r; exact DpAll.nil
  | d :: ds, vs, ps, r, e => by
    unfold Rzs at r
    obtain ⟨v, r', rfl, h1, h2⟩ := r
    unfold toPs at e
    split at e
    · rename_i p ps' hp hps
      cases e
      exact DpAll.cons (dp_of d v p h1 hp) (dps_of ds r' ps' h2 hps)
    · cases e
end
theorem dpss_of {K : PySem.W.Frag} {H : Hp} : ∀ (dss : List (List D)) (as : List Addr) (ps : List PyData), RLs K κ H dss as → toPss dss = some ps → DpAll K H (as.map V.ref) ps
  | [], as, ps, r, e => by unfold RLs at r; unfold toPss at e; cases e; subst r; exact DpAll.nil
  | ds :: dss, as, ps, r, e => by
    unfold RLs at r
    obtain ⟨a, as', rfl, ⟨vs, h1, h2⟩, h3⟩ := r
    unfold toPss at e
    split at e
    · rename_i p ps' hp hps
      cases e
      exact DpAll.cons (Dp.lst (SqL.of h1) (dps_of ds vs p h2 hp)) (dpss_of dss as' ps' h3 hps)
    · cases e
theorem dpc_of {K : PySem.W.Frag} {H : Hp} {c : C} {v : V} {ov : List Addr} {p : PyData} (r : RC K κ H c v ov) (e : toPC c = some p) : Dp K H v p := by
  cases c with
  | v d => exact dp_of d v p r.2 e
  | l ds =>
    obtain ⟨a, vs, rfl, _, h, rs⟩ := r
    obtain ⟨ps, hp, rfl⟩ := Option.map_eq_some_iff.mp e
    exact Dp.lst (SqL.of h) (dps_of ds vs ps rs hp)
  | ll dss =>
    obtain ⟨a, as, rfl, _, nd, h, rs⟩ := r
    obtain ⟨ps, hp, rfl⟩ := Option.map_eq_some_iff.mp e
    exact Dp.lst (SqL.of h) (dpss_of dss as ps rs hp)
  | dc _ => cases e
def eqC (neg : Bool) (a b : C) : Option C := match toPC a, toPC b with
  | some p, some q => if SeqAt.shaped p = true ∧ SeqAt.shaped q = true then some (.v (.bl (neg ^^ PyData.eqv p q))) else none
  | _, _ => none
def gEq : List C → Option C
  | [a, b] => eqC false a b
  | _ => none
def gNe : List C → Option C
  | [a, b] => eqC true a b
  | _ => none
theorem opn_eq (hX : Xg X) : OpN X κ (sem2 (semR X (compareOp .Eq))) gEq := by
  refine opn2 (fun c1 c2 c x y o1 o2 H Q e r1 r2 k => ?_) fun cs c e => ?_
  · unfold gEq eqC at e
    dsimp only at e
    split at e
    · rename_i p q hp hq
      split at e
      · rename_i hs
        cases e
        refine semR_of (op_eqD (by have := hX.un; omega)) ⟨p, q, dpc_of r1 hp, dpc_of r2 hq, hs.1, hs.2, ?_⟩
        have := kbl k
        simpa using this
      · cases e
    · cases e
  · unfold gEq at e
    split at e
    · exact ⟨_, _, rfl⟩
    · cases e
theorem opn_ne (hX : Xg X) : OpN X κ (sem2 (semR X (compareOp .NotEq))) gNe := by
  refine opn2 (fun c1 c2 c x y o1 o2 H Q e r1 r2 k => ?_) fun cs c e => ?_
  · unfold gNe eqC at e
    dsimp only at e
    split at e
    · rename_i p q hp hq
      split at e
      · rename_i hs
        cases e
        refine semR_of (op_neD (by have := hX.un; omega)) ⟨p, q, dpc_of r1 hp, dpc_of r2 hq, hs.1, hs.2, ?_⟩
        have := kbl k
        simpa using this
      · cases e
    · cases e
  · unfold gNe at e
    split at e
    · exact ⟨_, _, rfl⟩
    · cases e
/-! ### is None -/
def gIsN : List C → Option C
  | [.v d, .v .non] => match d with
    | .non => some (.v (.bl true))
    | _ => some (.v (.bl false))
  | _ => none
def gNotN : List C → Option C
  | [.v d, .v .non] => match d with
    | .non => some (.v (.bl false))
    | _ => some (.v (.bl true))
  | _ => none
theorem Rz_isnon {K : PySem.W.Frag} {H : Hp} {d : D} {v : V} (r : Rz K κ H d v) : (v = .non ↔ d = .non) := by
  cases d <;> unfold Rz at r
  case non => subst r; simp
  case bl => subst r; simp
  case int => subst r; simp
  case str => subst r; simp
  case ty => subst r; simp
  case cls => subst r; simp
  case exc => obtain ⟨a, oe, vs, rfl, _⟩ := r; simp
  case tup => obtain ⟨a, vs, rfl, _⟩ := r; simp
  case lst => obtain ⟨a, vs, rfl, _⟩ := r; simp
theorem opn_isN : OpN X κ (sem2 (semR X (compareOp .Is))) gIsN := by
  refine opn2 (fun c1 c2 c x y o1 o2 H Q e r1 r2 k => ?_) fun cs c e => ?_
  · unfold gIsN at e
    split at e
    · rename_i d heq
      injection heq with h1 h2
      injection h2 with h2 _
      subst h1 h2
      have hy : y = .non := by have := r2.2; unfold Rz at this; exact this
      subst hy
      have hi := Rz_isnon r1.2
      refine semR_of op_isN ⟨rfl, ?_⟩
      split at e
      · cases e
        rw [decide_eq_true (hi.mpr rfl)]
        exact kbl k
      · rename_i hne
        cases e
        rw [decide_eq_false (fun z => hne (hi.mp z))]
        exact kbl k
    · cases e
  · unfold gIsN at e
    split at e
    · exact ⟨_, _, rfl⟩
    · cases e
theorem opn_notN : OpN X κ (sem2 (semR X (compareOp .IsNot))) gNotN := by
  refine opn2 (fun c1 c2 c x y o1 o2 H Q e r1 r2 k => ?_) fun cs c e => ?_
  · unfold gNotN at e
    split at e
    · rename_i d heq
      injection heq with h1 h2
      injection h2 with h2 _
      subst h1 h2
      have hy : y = .non := by have := r2.2; unfold Rz at this; exact this
      subst hy
      have hi := Rz_isnon r1.2
      refine semR_of op_notN ⟨rfl, ?_⟩
      split at e
      · cases e
        rw [decide_eq_true (hi.mpr rfl)]
        exact kbl k
      · rename_i hne
        cases e
        rw [decide_eq_false (fun z => hne (hi.mp z))]
        exact kbl k
    · cases e
  · unfold gNotN at e
    split at e
    · exact ⟨_, _, rfl⟩
    · cases e
/-! ### a[i] -/
def gIx : List C → Option C
  | [.v (.str x), .v (.int i)] => if x.length ≤ sizeLine then (match atI x.cps.toList i with
    | some c => some (.v (.str ⟨#[c]⟩))
    | none => none) else none
  | [c, .v (.int i)] => match seqOf c with
    | some ds => (match atI ds i with
      | some d => some (.v d)
      | none => none)
    | none => none
  | _ => none
theorem opn_ix : OpN X κ (sem2 (semIx X)) gIx := by
  refine opn2 (fun c1 c2 c x y o1 o2 H Q e r1 r2 k => ?_) fun cs c e => ?_
  · unfold gIx at e
    split at e
    · rename_i z i heq
      injection heq with h1 h2
      injection h2 with h2 _
      subst h1 h2
      split at e
      · rename_i hz
        split at e
        · rename_i ch hch
          cases e
          have := RC_str r1; subst this
          have := RC_int r2; subst this
          exact semIx_of ix_str ⟨z, i, ch, rfl, rfl, hz, hch, kstr k⟩
        · cases e
      · cases e
    · rename_i cc i _ heq
      injection heq with h1 h2
      injection h2 with h2 _
      subst h1 h2
      split at e
      · rename_i ds hds
        split at e
        · rename_i d hd
          cases e
          have := RC_int r2; subst this
          obtain ⟨a, vs, rfl, hs, rz⟩ := r1.seq hds
          obtain ⟨v, ev, rv⟩ := atI_map rz hd
          rcases hs with hs | hs
          · exact semIx_of ix_list ⟨a, vs, i, v, rfl, rfl, hs, ev, kval k rv⟩
          · exact semIx_of ix_tup ⟨a, vs, i, v, rfl, rfl, hs, ev, kval k rv⟩
        · cases e
      · cases e
    · cases e
  · unfold gIx at e
    split at e
    · exact ⟨_, _, rfl⟩
    · exact ⟨_, _, rfl⟩
    · cases e
/-! ### built-in functions -/
theorem opnC1 {f : Value} {g : List C → Option C} (h : ∀ c1 c x o1 H (Q : VK), g [c1] = some c → RC X.K κ H c1 x o1 → (∀ v H' ov, RC X.K κ H' c v ov → Same H H' → (∀ a ∈ ov, H a = none) → Q v H') → semC X f [x] H Q)
    (hg : ∀ cs c, g cs = some c → ∃ c1, cs = [c1]) : OpN X κ (semC X f) g := by
  intro cs c vs H Q e rs k
  obtain ⟨c1, rfl⟩ := hg cs c e
  obtain ⟨x, o1, rfl, r1⟩ := rs.one
  exact h c1 c x o1 H Q e r1 k
theorem opnC2 {f : Value} {g : List C → Option C} (h : ∀ c1 c2 c x y o1 o2 H (Q : VK), g [c1, c2] = some c → RC X.K κ H c1 x o1 → RC X.K κ H c2 y o2 → (∀ v H' ov, RC X.K κ H' c v ov → Same H H' → (∀ a ∈ ov, H a = none) → Q v H') → semC X f [x, y] H Q)
    (hg : ∀ cs c, g cs = some c → ∃ c1 c2, cs = [c1, c2]) : OpN X κ (semC X f) g := by
  intro cs c vs H Q e rs k
  obtain ⟨c1, c2, rfl⟩ := hg cs c e
  obtain ⟨x, y, o1, o2, rfl, r1, r2⟩ := rs.two
  exact h c1 c2 c x y o1 o2 H Q e r1 r2 k
def gLen : List C → Option C
  | [.v (.str x)] => if x.length ≤ sizeLine then some (.v (.int x.length)) else none
  | [.ll dss] => some (.v (.int dss.length))
  | [c] => match seqOf c with
    | some ds => some (.v (.int ds.length))
    | none => none
  | _ => none
theorem opn_len : OpN X κ (semC X (.builtin "len")) gLen := by
  refine opnC1 (fun c1 c x o1 H Q e r1 k => ?_) fun cs c e => ?_
  · unfold gLen at e
    split at e
    · rename_i z heq
      injection heq with h1 _
      subst h1
      split at e
      · rename_i hz
        cases e
        have := RC_str r1; subst this
        exact semC_of call_len_str ⟨z, rfl, hz, kint k⟩
      · cases e
    · rename_i dss heq
      injection heq with h1 _
      subst h1
      cases e
      obtain ⟨a, as, rfl, _, nd, h, rl⟩ := r1
      refine semC_of call_len_seq ⟨a, _, rfl, .inl (SqL.of h), ?_⟩
      rw [List.length_map, ← rl.length]
      exact kint k
    · rename_i cc _ _ heq
      injection heq with h1 _
      subst h1
      split at e
      · rename_i ds hds
        cases e
        obtain ⟨a, vs, rfl, hs, rz⟩ := r1.seq hds
        refine semC_of call_len_seq ⟨a, vs, rfl, hs, ?_⟩
        rw [← rz.length]
        exact kint k
      · cases e
    · cases e
  · unfold gLen at e
    split at e
    · exact ⟨_, rfl⟩
    · exact ⟨_, rfl⟩
    · exact ⟨_, rfl⟩
    · cases e
def gAbs : List C → Option C
  | [.v (.int i)] => some (.v (.int (if i < 0 then -i else i)))
  | _ => none
theorem opn_abs : OpN X κ (semC X (.builtin "abs")) gAbs := by
  refine opnC1 (fun c1 c x o1 H Q e r1 k => ?_) fun cs c e => ?_
  · unfold gAbs at e
    split at e
    · rename_i i heq
      injection heq with h1 _
      subst h1
      cases e
      have := RC_int r1; subst this
      exact semC_of call_abs ⟨i, rfl, kint k⟩
    · cases e
  · unfold gAbs at e
    split at e
    · exact ⟨_, rfl⟩
    · cases e
def intsOf : List D → Option (List Int)
  | [] => some []
  | .int i :: ds => (intsOf ds).map (i :: ·)
  | _ :: _ => none
theorem intsOf_eq : ∀ {ds : List D} {ns : List Int}, intsOf ds = some ns → ds = ns.map D.int
  | [], ns, e => by cases e; rfl
  | .int i :: ds, ns, e => by
    unfold intsOf at e
    obtain ⟨r, h, rfl⟩ := Option.map_eq_some_iff.mp e
    rw [intsOf_eq h]; rfl
  | .non :: _, _, e => by cases e
  | .bl _ :: _, _, e => by cases e
  | .str _ :: _, _, e => by cases e
  | .ty _ :: _, _, e => by cases e
  | .cls _ :: _, _, e => by cases e
  | .exc _ :: _, _, e => by cases e
  | .tup _ :: _, _, e => by cases e
  | .lst _ :: _, _, e => by cases e
theorem intsOf_map : ∀ ns : List Int, intsOf (ns.map D.int) = some ns
  | [] => rfl
  | n :: ns => by rw [List.map_cons]; unfold intsOf; rw [intsOf_map ns]; rfl
/-- the greatest of some ints -/
def maxI : List Int → Int
  | [] => 0
  | n :: ns => ns.foldl (fun a b => if a < b then b else a) n
def minI : List Int → Int
  | [] => 0
  | n :: ns => ns.foldl (fun a b => if b < a then b else a) n
theorem maxI_spec : ∀ {ns : List Int} {m : Int}, 0 < ns.length → m ∈ ns → (∀ y, y ∈ ns → y ≤ m) → m = maxI ns := by
  have key : ∀ (ns : List Int) (a : Int), a ≤ ns.foldl (fun a b => if a < b then b else a) a ∧ (∀ y ∈ ns, y ≤ ns.foldl (fun a b => if a < b then b else a) a) ∧ (ns.foldl (fun a b => if a < b then b else a) a = a ∨ ns.foldl (fun a b => if a < b then b else a) a ∈ ns) := by
    intro ns
    induction ns with
    | nil => intro a; simp
    | cons n ns ih =>
      intro a
      rw [List.foldl_cons]
      obtain ⟨h1, h2, h3⟩ := ih (if a < n then n else a)
      refine ⟨?_, fun y hy => ?_, ?_⟩
      · split at h1 <;> split <;> omega
      · rcases List.mem_cons.mp hy with rfl | hy
        · split at h1 <;> split <;> omega
        · exact h2 y hy
      · rcases h3 with h3 | h3
        · split
          · rename_i hlt
            rw [if_pos hlt] at h3
            exact .inr (by rw [h3]; simp)
          · rename_i hlt
            rw [if_neg hlt] at h3
            exact .inl h3
        · exact .inr (List.mem_cons_of_mem _ h3)
  intro ns m hl hm hy
  cases ns with
  | nil => simp at hl
  | cons n ns =>
    obtain ⟨h1, h2, h3⟩ := key ns n
    show m = ns.foldl _ n
    have a1 : m ≤ ns.foldl (fun a b => if a < b then b else a) n := by
      rcases List.mem_cons.mp hm with rfl | hm
      · exact h1
      · exact h2 m hm
    have a2 : ns.foldl (fun a b => if a < b then b else a) n ≤ m := by
      rcases h3 with h3 | h3
      · rw [h3]; exact hy n (by simp)
      · exact hy _ (List.mem_cons_of_mem _ h3)
    omega
theorem minI_spec : ∀ {ns : List Int} {m : Int}, 0 < ns.length → m ∈ ns → (∀ y, y ∈ ns → m ≤ y) → m = minI ns := by
  have key : ∀ (ns : List Int) (a : Int), ns.foldl (fun a b => if b < a then b else a) a ≤ a ∧ (∀ y ∈ ns, ns.foldl (fun a b => if b < a then b else a) a ≤ y) ∧ (ns.foldl (fun a b => if b < a then b else a) a = a ∨ ns.foldl (fun a b => if b < a then b else a) a ∈ ns) := by
    intro ns
    induction ns with
    | nil => intro a; simp
    | cons n ns ih =>
      intro a
      rw [List.foldl_cons]
      obtain ⟨h1, h2, h3⟩ := ih (if n < a then n else a)
      refine ⟨?_, fun y hy => ?_, ?_⟩
      · split at h1 <;> split <;> omega
      · rcases List.mem_cons.mp hy with rfl | hy
        · split at h1 <;> split <;> omega
        · exact h2 y hy
      · rcases h3 with h3 | h3
        · split
          · rename_i hlt
            rw [if_pos hlt] at h3
            exact .inr (by rw [h3]; simp)
          · rename_i hlt
            rw [if_neg hlt] at h3
            exact .inl h3
        · exact .inr (List.mem_cons_of_mem _ h3)
  intro ns m hl hm hy
  cases ns with
  | nil => simp at hl
  | cons n ns =>
    obtain ⟨h1, h2, h3⟩ := key ns n
    show m = ns.foldl _ n
    have a1 : ns.foldl (fun a b => if b < a then b else a) n ≤ m := by
      rcases List.mem_cons.mp hm with rfl | hm
      · exact h1
      · exact h2 m hm
    have a2 : m ≤ ns.foldl (fun a b => if b < a then b else a) n := by
      rcases h3 with h3 | h3
      · rw [h3]; exact hy n (by simp)
      · exact hy _ (List.mem_cons_of_mem _ h3)
    omega
def gMax : List C → Option C
  | [.v (.int i), .v (.int j)] => some (.v (.int (if j > i then j else i)))
  | [c] => match seqOf c with
    | some ds => (match intsOf ds with
      | some ns => if 0 < ns.length then some (.v (.int (maxI ns))) else none
      | none => none)
    | none => none
  | _ => none
def gMin : List C → Option C
  | [.v (.int i), .v (.int j)] => some (.v (.int (if j < i then j else i)))
  | [c] => match seqOf c with
    | some ds => (match intsOf ds with
      | some ns => if 0 < ns.length then some (.v (.int (minI ns))) else none
      | none => none)
    | none => none
  | _ => none
theorem foldmax_eq : ∀ (ns : List Int) (n : Int), ns.foldl max n = ns.foldl (fun a b => if a < b then b else a) n
  | [], _ => rfl
  | k :: ns, n => by
    rw [List.foldl_cons, List.foldl_cons, foldmax_eq ns]
    congr 1
    split <;> omega
theorem foldmin_eq : ∀ (ns : List Int) (n : Int), ns.foldl min n = ns.foldl (fun a b => if b < a then b else a) n
  | [], _ => rfl
  | k :: ns, n => by
    rw [List.foldl_cons, List.foldl_cons, foldmin_eq ns]
    congr 1
    split <;> omega
theorem alike_ofints (ns : List Int) : PySem.W.AlikeAll (ns.map PyData.int) := by
  refine ⟨fun x hx y hy => ?_, fun x hx => ?_⟩
  · obtain ⟨i, _, rfl⟩ := List.mem_map.mp hx
    obtain ⟨j, _, rfl⟩ := List.mem_map.mp hy
    rfl
  · obtain ⟨i, _, rfl⟩ := List.mem_map.mp hx
    intro z; cases z
theorem depth_ofints : ∀ ns : List Int, PyData.depthAll (ns.map PyData.int) = 0
  | [] => by simp [PyData.depthAll]
  | n :: ns => by simp [PyData.depthAll, PyData.depth, depth_ofints ns]
theorem max_tupI (hX : Xg X) {a : Addr} {n : Int} {ns : List Int} {H : Hp} {Q : VK} (h : SqT X.K H a ((n :: ns).map V.int)) (q : Q (.int (maxI (n :: ns))) H) : semC X (.builtin "max") [.ref a] H Q := by
  intro pins s σ us I rs
  obtain ⟨its, rv, ht, _⟩ := I.tuple h
  rw [Vals.ref1 rs]
  refine PySem.W.max_tuple_data (I.ok.hd hX.calm) ht (IntsAre.reads s.heap rv.ints) (alike_ofints (n :: ns)) (by
    have := depth_ofints (n :: ns); rw [List.map_cons] at this; rw [this]; have := hX.un; omega) fun i v h' tk bs _ r hk => ?_
  rw [PySem.W.maxD_ints, foldmax_eq] at r
  cases r
  exact ⟨.int _, H, I.kept hk, ⟨_, rfl⟩, q⟩
theorem min_tupI (hX : Xg X) {a : Addr} {n : Int} {ns : List Int} {H : Hp} {Q : VK} (h : SqT X.K H a ((n :: ns).map V.int)) (q : Q (.int (minI (n :: ns))) H) : semC X (.builtin "min") [.ref a] H Q := by
  intro pins s σ us I rs
  obtain ⟨its, rv, ht, _⟩ := I.tuple h
  rw [Vals.ref1 rs]
  refine PySem.W.min_tuple_data (I.ok.hd hX.calm) ht (IntsAre.reads s.heap rv.ints) (alike_ofints (n :: ns)) (by
    have := depth_ofints (n :: ns); rw [List.map_cons] at this; rw [this]; have := hX.un; omega) fun i v h' tk bs _ r hk => ?_
  rw [PySem.W.minD_ints, foldmin_eq] at r
  cases r
  exact ⟨.int _, H, I.kept hk, ⟨_, rfl⟩, q⟩
theorem opn_max (hX : Xg X) : OpN X κ (semC X (.builtin "max")) gMax := by
  intro cs c vs H Q e rs k
  unfold gMax at e
  split at e
  · rename_i i j
    cases e
    obtain ⟨x, y, o1, o2, rfl, r1, r2⟩ := rs.two
    have := RC_int r1; subst this
    have := RC_int r2; subst this
    exact semC_of (call_max2 hX.calm) ⟨i, j, rfl, kint k⟩
  · obtain ⟨x, o1, rfl, r1⟩ := rs.one
    split at e
    · rename_i ds hds
      split at e
      · rename_i ns hns
        split at e
        · rename_i hl
          cases e
          obtain ⟨a, zs, rfl, hs, rz⟩ := r1.seq hds
          rw [intsOf_eq hns] at rz
          rw [rz.ints] at hs
          rcases hs with hs | hs
          case inr =>
            cases ns with
            | nil => simp at hl
            | cons n ns => exact max_tupI hX hs (kint k)
          exact semC_of (cr_max hX.calm) ⟨a, ns, rfl, hs, hl, fun m hm hy => by rw [maxI_spec hl hm hy]; exact kint k⟩
        · cases e
      · cases e
    · cases e
  · cases e
theorem opn_min (hX : Xg X) : OpN X κ (semC X (.builtin "min")) gMin := by
  intro cs c vs H Q e rs k
  unfold gMin at e
  split at e
  · rename_i i j
    cases e
    obtain ⟨x, y, o1, o2, rfl, r1, r2⟩ := rs.two
    have := RC_int r1; subst this
    have := RC_int r2; subst this
    exact semC_of (call_min2 hX.calm) ⟨i, j, rfl, kint k⟩
  · obtain ⟨x, o1, rfl, r1⟩ := rs.one
    split at e
    · rename_i ds hds
      split at e
      · rename_i ns hns
        split at e
        · rename_i hl
          cases e
          obtain ⟨a, zs, rfl, hs, rz⟩ := r1.seq hds
          rw [intsOf_eq hns] at rz
          rw [rz.ints] at hs
          rcases hs with hs | hs
          case inr =>
            cases ns with
            | nil => simp at hl
            | cons n ns => exact min_tupI hX hs (kint k)
          exact semC_of (cr_min hX.calm) ⟨a, ns, rfl, hs, hl, fun m hm hy => by rw [minI_spec hl hm hy]; exact kint k⟩
        · cases e
      · cases e
    · cases e
  · cases e
def gSum : List C → Option C
  | [c] => match lstOf c with
    | some ds => (match intsOf ds with
      | some ns => some (.v (.int ns.sum))
      | none => none)
    | none => none
  | _ => none
theorem opn_sum (hX : Xg X) : OpN X κ (semC X (.builtin "sum")) gSum := by
  intro cs c vs H Q e rs k
  unfold gSum at e
  split at e
  · obtain ⟨x, o1, rfl, r1⟩ := rs.one
    split at e
    · rename_i ds hds
      split at e
      · rename_i ns hns
        cases e
        obtain ⟨a, zs, rfl, hs, rz⟩ := r1.lst hds
        rw [intsOf_eq hns] at rz
        rw [rz.ints] at hs
        exact semC_of (cr_sum hX.calm) ⟨a, ns, rfl, hs, kint k⟩
      · cases e
    · cases e
  · cases e
def blsOf : List D → Option (List Bool)
  | [] => some []
  | .bl i :: ds => (blsOf ds).map (i :: ·)
  | _ :: _ => none
theorem blsOf_eq : ∀ {ds : List D} {ns : List Bool}, blsOf ds = some ns → ds = ns.map D.bl
  | [], ns, e => by cases e; rfl
  | .bl i :: ds, ns, e => by
    unfold blsOf at e
    obtain ⟨r, h, rfl⟩ := Option.map_eq_some_iff.mp e
    rw [blsOf_eq h]; rfl
  | .non :: _, _, e => by cases e
  | .int _ :: _, _, e => by cases e
  | .str _ :: _, _, e => by cases e
  | .ty _ :: _, _, e => by cases e
  | .cls _ :: _, _, e => by cases e
  | .exc _ :: _, _, e => by cases e
  | .tup _ :: _, _, e => by cases e
  | .lst _ :: _, _, e => by cases e
theorem blsOf_map : ∀ ns : List Bool, blsOf (ns.map D.bl) = some ns
  | [] => rfl
  | n :: ns => by rw [List.map_cons]; unfold blsOf; rw [blsOf_map ns]; rfl
def gAll : List C → Option C
  | [c] => match lstOf c with
    | some ds => (match blsOf ds with
      | some ns => some (.v (.bl (ns.all id)))
      | none => none)
    | none => none
  | _ => none
theorem opn_all (hX : Xg X) : OpN X κ (semC X (.builtin "all")) gAll := by
  intro cs c vs H Q e rs k
  unfold gAll at e
  split at e
  · obtain ⟨x, o1, rfl, r1⟩ := rs.one
    split at e
    · rename_i ds hds
      split at e
      · rename_i ns hns
        cases e
        obtain ⟨a, zs, rfl, hs, rz⟩ := r1.lst hds
        rw [blsOf_eq hns] at rz
        rw [rz.bls] at hs
        exact semC_of (cr_all hX.calm) ⟨a, ns, rfl, hs, kbl k⟩
      · cases e
    · cases e
  · cases e
def gTuple : List C → Option C
  | [.v (.tup ds)] => some (.v (.tup ds))
  | [c] => match lstOf c with
    | some ds => some (.v (.tup ds))
    | none => none
  | _ => none
theorem opn_tuple : OpN X κ (semC X (.type "tuple")) gTuple := by
  intro cs c vs H Q e rs k
  unfold gTuple at e
  split at e
  · cases e
    obtain ⟨x, o1, rfl, r1⟩ := rs.one
    obtain ⟨a, zs, rfl, hs, rz⟩ := r1.tup (ds := _) rfl
    exact semC_of call_tupleN ⟨a, zs, rfl, .inr ⟨hs, kval k r1.2⟩⟩
  · obtain ⟨x, o1, rfl, r1⟩ := rs.one
    split at e
    · rename_i ds hds
      cases e
      obtain ⟨a, zs, rfl, hs, rz⟩ := r1.lst hds
      exact semC_of call_tupleN ⟨a, zs, rfl, .inl ⟨hs, ktup k rz⟩⟩
    · cases e
  · cases e
def gList : List C → Option C
  | [c] => match seqOf c with
    | some ds => some (.l ds)
    | none => none
  | _ => none
theorem opn_list : OpN X κ (semC X (.type "list")) gList := by
  intro cs c vs H Q e rs k
  unfold gList at e
  split at e
  · obtain ⟨x, o1, rfl, r1⟩ := rs.one
    split at e
    · rename_i ds hds
      cases e
      obtain ⟨a, zs, rfl, hs, rz⟩ := r1.seq hds
      exact semC_of call_list_of ⟨a, zs, rfl, hs, fun p hp => klst k rz hp⟩
    · cases e
  · cases e
def gInt : List C → Option C
  | [.v (.int i)] => some (.v (.int i))
  | [.v (.bl b)] => some (.v (.int (if b then 1 else 0)))
  | _ => none
theorem opn_int : OpN X κ (semC X (.type "int")) gInt := by
  intro cs c vs H Q e rs k
  unfold gInt at e
  split at e
  · rename_i i
    cases e
    obtain ⟨x, o1, rfl, r1⟩ := rs.one
    have := RC_int r1; subst this
    exact semC_of call_int1 (.inl ⟨i, rfl, kint k⟩)
  · rename_i b
    cases e
    obtain ⟨x, o1, rfl, r1⟩ := rs.one
    have := RC_bl r1; subst this
    exact semC_of call_int1 (.inr ⟨b, rfl, kint k⟩)
  · cases e
/-! ### isinstance of data -/
def tyOf : D → Option String
  | .non => some "NoneType"
  | .bl _ => some "bool"
  | .int _ => some "int"
  | .str _ => some "str"
  | .tup _ => some "tuple"
  | .lst _ => some "list"
  | _ => none
def gIsi : List C → Option C
  | [.v d, .v (.ty n)] => match tyOf d with
    | some t => (match kitB t n with
      | some b => some (.v (.bl b))
      | none => none)
    | none => none
  | _ => none
theorem tyx_of {K : PySem.W.Frag} {H : Hp} {d : D} {v : V} {t : String} (r : Rz K κ H d v) (e : tyOf d = some t) : TyX K H v (.type t) := by
  unfold tyOf at e
  split at e
  · cases e; unfold Rz at r; subst r; exact .base .non
  · cases e; unfold Rz at r; subst r; exact .base (.bl _)
  · cases e; unfold Rz at r; subst r; exact .base (.int _)
  · cases e; unfold Rz at r; subst r; exact .base (.str _)
  · cases e
    unfold Rz at r
    obtain ⟨a, vs, rfl, h, _⟩ := r
    obtain ⟨o, h, _⟩ := h
    exact .fTuple h
  · cases e
    unfold Rz at r
    obtain ⟨a, vs, rfl, h, _⟩ := r
    rcases h with ⟨o, h⟩ | ⟨o, its, n, h, hc, _⟩
    · exact .base (.frz h)
    · exact .kList h hc
  · cases e
theorem opn_isi : OpN X κ (semC X (.builtin "isinstance")) gIsi := by
  intro cs c vs H Q e rs k
  unfold gIsi at e
  split at e
  · rename_i d n
    split at e
    · rename_i t ht
      split at e
      · rename_i b hb
        cases e
        obtain ⟨x, y, o1, o2, rfl, r1, r2⟩ := rs.two
        have hy : y = .ty n := by have := r2.2; unfold Rz at this; exact this
        subst hy
        exact semC_of call_isi ⟨x, .ty n, .type t, .type n, b, rfl, .ty n, tyx_of r1.2 ht, kit_ty hb, kbl k⟩
      · cases e
    · cases e
  · cases e
end
end SW

set_option Elab.async false
set_option linter.all false
set_option maxRecDepth 100000
set_option maxHeartbeats 4000000
/-! Sw10: slices, list(range(..)), chains of comparisons. -/
namespace SW
open PySem PySem.Spec PyProof.Rows L2
section
variable {X : Cx} {κ : String → Addr} {W : WX}
/-! ### slices -/
def semP (X : Cx) : Option Expr → TO
  | none => tNoPart
  | some e => tPart (semE X e)
theorem po_sem (X : Cx) : ∀ o : Option Expr, PO X o (semP X o)
  | none => po_none
  | some e => po_some (pe_sem X e)
def semSl (X : Cx) : V → Option Int → Option Int → Hp → VK → Prop := fun x lo hi H Q => ∀ pins s σ v vl vu sl, Inv X pins σ H s → RelV x v → s.heap.IsSliceOf sl vl vu .none → IsPart vl lo → IsPart vu hi →
    ∃ T id, typeLookup (.type T) "__getitem__" = pure (some (.builtin id)) ∧ s.TypeIs v T ∧ wpAny (model X.prog X.w) X.A (getItem v (.ref sl)) (EP X pins σ Q) X.xe s
theorem slr_sem (X : Cx) : SlR X (semSl X) := fun pins s σ H x v vl vu lo hi sl Q I rx hs pl pu h => h pins s σ v vl vu sl I rx hs pl pu
theorem semSl_of {r : V → Option Int → Option Int → Hp → VK → Prop} {x : V} {lo hi : Option Int} {H : Hp} {Q : VK} (p : SlR X r) (h : r x lo hi H Q) : semSl X x lo hi H Q := fun pins s σ v vl vu sl I rx hs pl pu => p pins s σ H x v vl vu lo hi sl Q I rx hs pl pu h
variable (X κ W) in
def PsP (σ : L2.St) (H : Hp) (O : Nat → List Addr) (Q : Option Int → Hp → Prop) : R (Option Int) → Prop
  | .ok i ρ' => ∀ H' O', Fr X.K κ H' σ ρ' O' → Nx H H' O O' [] → Q i H'
  | .exn n ρ' => ∀ H' O', Fr X.K κ H' σ ρ' O' → Nx H H' O O' [] → W (.ref (κ n)) none σ H'
  | .stuck => False
variable (X κ W) in
def DP (o : Option Expr) (c : Env → R (Option Int)) : Prop := ∀ σ ρ H O Q, Fr X.K κ H σ ρ O → PsP X κ W σ H O Q (c ρ) → semP X o σ H Q
def pNone : Env → R (Option Int) := fun ρ => .ok none ρ
def pSome (c : Env → R C) : Env → R (Option Int) := fun ρ => (c ρ).bind fun x ρ1 => match x with
  | .v (.int i) => .ok (some i) ρ1
  | _ => .stuck
theorem dp_none : DP X κ W none pNone := fun σ ρ H O Q F h => h H O F Nx.refl
theorem dp_some {e : Expr} {c : Env → R C} (he : DE X κ W e c) : DP X κ W (some e) (pSome c) := by
  intro σ ρ H O Q F h
  refine he σ ρ H O _ F ?_
  unfold pSome at h
  cases h1 : c ρ with
  | stuck => rw [h1] at h; exact h
  | exn n ρ1 => rw [h1] at h; exact h
  | ok x ρ1 =>
    rw [h1, R.bind_ok] at h
    split at h
    · rename_i i
      intro v H1 O1 ov F1 r1 d1 n1
      have := RC_int r1
      exact ⟨i, this, h H1 O1 F1 n1.drop⟩
    · exact h.elim
def OpSl (X : Cx) (κ : String → Addr) (g : C → Option Int → Option Int → Option C) : Prop := ∀ c lo hi c' x ov H Q, g c lo hi = some c' → RC X.K κ H c x ov →
  (∀ v H' ov, RC X.K κ H' c' v ov → Same H H' → (∀ a ∈ ov, H a = none) → Q v H') → semSl X x lo hi H Q
def cSl (g : C → Option Int → Option Int → Option C) (c : Env → R C) (cl ch : Env → R (Option Int)) : Env → R C := fun ρ => (c ρ).bind fun x ρ1 => (cl ρ1).bind fun lo ρ2 => (ch ρ2).bind fun hi ρ3 => match g x lo hi with
  | some y => .ok y ρ3
  | none => .stuck
theorem PsP_bind {β : Type} {σ : L2.St} {H : Hp} {O : Nat → List Addr} {c : Env → R (Option Int)} {f : Option Int → Env → R β} {ρ : Env} {P : Option Int → Hp → Prop} {Good : Hp → (Nat → List Addr) → R β → Prop}
    (hs : Good H O .stuck → False) (hx : ∀ n ρ', Good H O (.exn n ρ') → ∀ H' O', Fr X.K κ H' σ ρ' O' → Nx H H' O O' [] → W (.ref (κ n)) none σ H')
    (h : Good H O ((c ρ).bind f)) (k : ∀ i ρ1 H1 O1, Fr X.K κ H1 σ ρ1 O1 → Nx H H1 O O1 [] → Good H O (f i ρ1) → P i H1) : PsP X κ W σ H O P (c ρ) := by
  cases h1 : c ρ with
  | stuck => rw [h1] at h; exact hs h
  | exn n ρ1 => rw [h1] at h; exact hx n ρ1 h
  | ok i ρ1 =>
    rw [h1, R.bind_ok] at h
    exact fun H1 O1 F1 n1 => k i ρ1 H1 O1 F1 n1 h
theorem de_sl {e : Expr} {lo hi : Option Expr} {p2 pos : Pos} {g : C → Option Int → Option Int → Option C} {c : Env → R C} {cl ch : Env → R (Option Int)} (ho : OpSl X κ g) (he : DE X κ W e c) (hl : DP X κ W lo cl) (hh : DP X κ W hi ch) :
    DE X κ W (.Subscript e (.Slice lo hi none p2) pos) (cSl g c cl ch) := by
  intro σ ρ H O Q F h
  refine sem_of (pe_slice (slr_sem X) (pe_sem X e) (po_sem X lo) (po_sem X hi)) (he σ ρ H O _ F ?_)
  unfold cSl at h
  cases h1 : c ρ with
  | stuck => rw [h1] at h; exact h
  | exn n ρ1 => rw [h1] at h; exact h
  | ok x ρ1 =>
    rw [h1, R.bind_ok] at h
    intro v H1 O1 ov F1 r1 d1 n1
    refine hl σ ρ1 H1 O1 _ F1 ?_
    cases h2 : cl ρ1 with
    | stuck => rw [h2] at h; exact h
    | exn n ρ2 => rw [h2] at h; exact fun H' O' F' n' => h H' O' F' (n1.trans n')
    | ok l ρ2 =>
      rw [h2, R.bind_ok] at h
      intro H2 O2 F2 n2
      refine hh σ ρ2 H2 O2 _ F2 ?_
      cases h3 : ch ρ2 with
      | stuck => rw [h3] at h; exact h
      | exn n ρ3 => rw [h3] at h; exact fun H' O' F' n' => h H' O' F' ((n1.trans n2).trans n')
      | ok u ρ3 =>
        rw [h3, R.bind_ok] at h
        intro H3 O3 F3 n3
        split at h
        · rename_i y hy
          have n23 : Nx H1 H3 O1 O3 [] := n2.trans n3
          refine ho x l u y v ov H3 _ hy (r1.beside d1 n23) fun w H4 ow rw' sm fr => ?_
          have n4 : Nx H3 H4 O3 O3 ow := Nx.same sm fr
          refine h w H4 O3 ow (F3.same sm) rw' (fun a ha i hi => ?_) ((n1.trans n23).trans n4)
          obtain ⟨o, eo, _⟩ := F3.own hi
          rw [fr a ha] at eo; cases eo
        · exact h.elim
/-- of a slot's list -/
def cSlS (g : C → Option Int → Option Int → Option C) (i : Nat) (cl ch : Env → R (Option Int)) : Env → R C := fun ρ => match ρ[i]? with
  | some (some _) => (cl ρ).bind fun lo ρ2 => (ch ρ2).bind fun hi ρ3 => match ρ3[i]? with
    | some (some x) => match g x lo hi with
      | some y => .ok y ρ3
      | none => .stuck
    | _ => .stuck
  | _ => .stuck
theorem de_slS (i : Nat) {x : Str} {lo hi : Option Expr} {pN p2 pos : Pos} {g : C → Option Int → Option Int → Option C} {cl ch : Env → R (Option Int)} (ho : OpSl X κ g) (hl : DP X κ W lo cl) (hh : DP X κ W hi ch)
    (hN : X.N[i]? = some x := by rfl) (hv : Vis X.env.scope x := by first | exact Or.inl rfl | exact Or.inr (Or.inl rfl) | exact Or.inr (Or.inr rfl)) (hd : (x == ("__debug__" : Str)) = false := by decide) (hcd : (x == ("__classdict__" : Str)) = false := by decide) :
    DE X κ W (.Subscript (.Name x pN) (.Slice lo hi none p2) pos) (cSlS g i cl ch) := by
  intro σ ρ H O Q F h
  unfold cSlS at h
  split at h
  · rename_i c0 hc0
    obtain ⟨v, ev, _⟩ := F.cv i c0 hc0
    refine sem_of (pe_slice (slr_sem X) (pe_var hN hv hd hcd) (po_sem X lo) (po_sem X hi)) ⟨v, ev, ?_⟩
    refine hl σ ρ H O _ F ?_
    cases h2 : cl ρ with
    | stuck => rw [h2] at h; exact h
    | exn n ρ2 => rw [h2] at h; exact h
    | ok l ρ2 =>
      rw [h2, R.bind_ok] at h
      intro H2 O2 F2 n2
      refine hh σ ρ2 H2 O2 _ F2 ?_
      cases h3 : ch ρ2 with
      | stuck => rw [h3] at h; exact h
      | exn n ρ3 => rw [h3] at h; exact fun H' O' F' n' => h H' O' F' (n2.trans n')
      | ok u ρ3 =>
        rw [h3, R.bind_ok] at h
        intro H3 O3 F3 n3
        split at h
        · rename_i c hc
          split at h
          · rename_i y hy
            obtain ⟨v', ev', rc⟩ := F3.cv i c hc
            rw [ev] at ev'; cases ev'
            refine ho c l u y v _ H3 _ hy rc fun w H4 ow rw' sm fr => ?_
            have n4 : Nx H3 H4 O3 O3 ow := Nx.same sm fr
            refine h w H4 O3 ow (F3.same sm) rw' (fun a ha i hi => ?_) ((n2.trans n3).trans n4)
            obtain ⟨o, eo, _⟩ := F3.own hi
            rw [fr a ha] at eo; cases eo
          · exact h.elim
        · exact h.elim
  · exact h.elim
def cutD {α : Type} (xs : List α) (lo hi : Option Int) : List α := (xs.drop (HT.sIx xs.length 0 lo)).take (HT.sIx xs.length xs.length hi - HT.sIx xs.length 0 lo)
def gSl : C → Option Int → Option Int → Option C
  | .v (.tup ds), lo, hi => some (.v (.tup (cutD ds lo hi)))
  | c, lo, hi => match lstOf c with
    | some ds => some (.l (cutD ds lo hi))
    | none => none
theorem cut_rz {K : PySem.W.Frag} {H : Hp} {ds : List D} {vs : List V} (r : Rzs K κ H ds vs) (lo hi : Option Int) : Rzs K κ H (cutD ds lo hi) (cutV vs lo hi) := by
  unfold cutD cutV
  rw [r.length]
  exact (r.drop _).take _
theorem ops_sl : OpSl X κ gSl := by
  intro c lo hi c' x ov H Q e r k
  by_cases ht : ∃ ds, c = .v (.tup ds)
  · obtain ⟨ds, rfl⟩ := ht
    unfold gSl at e
    cases e
    obtain ⟨a, vs, rfl, hs, rz⟩ := r.tup (ds := _) rfl
    refine semSl_of sl_tupN ⟨a, vs, rfl, hs, fun hw => ?_, fun _ => ktup k (cut_rz rz lo hi)⟩
    have e1 : cutD ds lo hi = ds := by
      unfold cutD
      rw [rz.length, hw.1, hw.2, List.drop_zero, Nat.sub_zero, ← rz.length, List.take_length]
    rw [e1] at k
    exact kval k r.2
  · have e' : (match lstOf c with
        | some ds => some (C.l (cutD ds lo hi))
        | none => none) = some c' := by
      unfold gSl at e
      split at e
      · exact absurd ⟨_, rfl⟩ ht
      · exact e
    split at e'
    · rename_i ds hds
      cases e'
      obtain ⟨a, vs, rfl, hs, rz⟩ := r.lst hds
      exact semSl_of sl_list ⟨a, vs, rfl, hs, fun p hp => klst k (cut_rz rz _ _) hp⟩
    · cases e'
/-! ### list(range(..)) -/
def gListR : List C → Option C
  | [.v (.int j)] => if -(2 ^ 62) ≤ j ∧ j ≤ 2 ^ 24 then some (.l (rangeD 0 j.toNat)) else none
  | _ => none
theorem rg_rz {K : PySem.W.Frag} {H : Hp} (a b : Int) : Rzs K κ H (rangeD a (b - a).toNat) (rgV a b) := by
  unfold rangeD rgV
  generalize (b - a).toNat = n
  generalize List.range n = l
  induction l with
  | nil => exact Rzs.nil
  | cons i l ih => exact Rzs.cons (by unfold Rz; rfl) ih
theorem prg_sem1 {a : Expr} {p pos : Pos} (hg : Gl X "range") (hm : X.mg "range" = none) (hs : noStar a = true) : PRg X (.Call (.Name "range" p) [a] [] pos) (tRg1 (semE X a)) := by
  intro pins s σ H Q I h
  exact prg_1 hg hm (pe_sem X a) (starEach_of hs [] X.env) pins s σ H Q I h
theorem de_listR1 {a : Expr} {p q pos pos' : Pos} {cl : Env → R (List C)} (hX : Xg X) (hm : X.mg "list" = none) (hm2 : X.mg "range" = none) (hl : DL X κ W [a] cl) (hg : Gl X "list" := by rfl) (hg2 : Gl X "range" := by rfl) (hs : noStar a = true := by rfl) :
    DE X κ W (.Call (.Name "list" p) [.Call (.Name "range" q) [a] [] pos'] [] pos) (cOp gListR cl) := by
  intro σ ρ H O Q F h
  refine sem_of (pe_listRg hX.calm hg hm (prg_sem1 hg2 hm2 hs)) ?_
  have hO : OpN X κ (fun vs H Q => ∃ n, vs = [.int n] ∧ RgOk 0 n ∧ ∀ q, H q = none → Q (.ref q) (upd H q (.lst (rgV 0 n)))) gListR := by
    intro cs c vs H Q e rs k
    unfold gListR at e
    split at e
    · rename_i j
      split at e
      · rename_i hj
        cases e
        obtain ⟨x, o1, rfl, r1⟩ := rs.one
        have := RC_int r1; subst this
        refine ⟨j, rfl, ⟨by omega, by omega, hj.1, by omega, by omega⟩, fun q hq => ?_⟩
        have := rg_rz (K := X.K) (κ := κ) (H := H) 0 j
        rw [Int.sub_zero] at this
        exact klst k this hq
      · cases e
    · cases e
  refine semE_mono (Q := fun x H1 => ∃ n, x = .int n ∧ RgOk 0 n ∧ ∀ q, H1 q = none → Q (.ref q) (upd H1 q (.lst (rgV 0 n)))) ?_ fun x H1 ⟨n, e, q⟩ => ⟨n, e, q⟩
  have := hl σ ρ H O _ F (op_end hO h)
  exact semE_mono this fun x H1 ⟨n, e, q⟩ => ⟨n, by injection e, q⟩
theorem prg_sem2 {a b : Expr} {p pos : Pos} (hg : Gl X "range") (hm : X.mg "range" = none) (hs : noStar a = true) (hs2 : noStar b = true) : PRg X (.Call (.Name "range" p) [a, b] [] pos) (tRg2 (semE X a) (semE X b)) := by
  intro pins s σ H Q I h
  exact prg_2 hg hm (pe_sem X a) (pe_sem X b) (starEach_of hs [b] X.env) (starEach_of hs2 [] X.env) (plainStar (by simp [hs2])) pins s σ H Q I h
def gListR2 : List C → Option C
  | [.v (.int i), .v (.int j)] => if -(2 ^ 62) ≤ i ∧ i < 2 ^ 62 ∧ -(2 ^ 62) ≤ j ∧ j < 2 ^ 62 ∧ (j - i).toNat ≤ 2 ^ 24 then some (.l (rangeD i (j - i).toNat)) else none
  | _ => none
theorem de_listR2 {a b : Expr} {p q pos pos' : Pos} {cl : Env → R (List C)} (hX : Xg X) (hm : X.mg "list" = none) (hm2 : X.mg "range" = none) (hl : DL X κ W [a, b] cl) (hg : Gl X "list" := by rfl) (hg2 : Gl X "range" := by rfl) (hs : noStar a = true := by rfl) (hs2 : noStar b = true := by rfl) :
    DE X κ W (.Call (.Name "list" p) [.Call (.Name "range" q) [a, b] [] pos'] [] pos) (cOp gListR2 cl) := by
  intro σ ρ H O Q F h
  refine sem_of (pe_listRg hX.calm hg hm (prg_sem2 hg2 hm2 hs hs2)) ?_
  have hO : OpN X κ (fun vs H Q => ∃ m n, vs = [.int m, .int n] ∧ RgOk m n ∧ ∀ q, H q = none → Q (.ref q) (upd H q (.lst (rgV m n)))) gListR2 := by
    intro cs c vs H Q e rs k
    unfold gListR2 at e
    split at e
    · rename_i i j
      split at e
      · rename_i hj
        cases e
        obtain ⟨x, y, o1, o2, rfl, r1, r2⟩ := rs.two
        have := RC_int r1; subst this
        have := RC_int r2; subst this
        exact ⟨i, j, rfl, ⟨hj.1, hj.2.1, hj.2.2.1, hj.2.2.2.1, hj.2.2.2.2⟩, fun q hq => klst k (rg_rz i j) hq⟩
      · cases e
    · cases e
  have := hl σ ρ H O _ F (op_end hO h)
  refine semE_mono this fun x H1 h1 => semE_mono h1 fun y H2 ⟨m, n, e, q⟩ => ⟨m, n, by injection e, by injection e with _ e; injection e, q⟩
/-! ### a op1 b op2 c, data all three -/
def cCh (g g' : List C → Option C) (ca cb cc : Env → R C) : Env → R C := fun ρ => (ca ρ).bind fun a ρ1 => match a with
  | .v a => (cb ρ1).bind fun b ρ2 => match b with
    | .v b => match g [.v a, .v b] with
      | some (.v (.bl true)) => (cc ρ2).bind fun c ρ3 => match c with
        | .v c => match g' [.v b, .v c] with
          | some (.v (.bl k)) => .ok (.v (.bl k)) ρ3
          | _ => .stuck
        | _ => .stuck
      | some (.v (.bl false)) => .ok (.v (.bl false)) ρ2
      | _ => .stuck
    | _ => .stuck
  | _ => .stuck
theorem RCs_2 {K : PySem.W.Frag} {H : Hp} {a b : D} {x y : V} (ra : Rz K κ H a x) (rb : Rz K κ H b y) : RCs K κ H [.v a, .v b] [x, y] := by
  unfold RCs
  refine ⟨x, [y], rfl, ⟨[], rfl, ra⟩, ?_⟩
  unfold RCs
  exact ⟨y, [], rfl, ⟨[], rfl, rb⟩, by unfold RCs; rfl⟩
theorem ch_core {a b c : Expr} {op op' : CmpOp} {g g' : List C → Option C} {ca cb cc : Env → R C} (ho : OpN X κ (sem2 (semR X (compareOp op))) g) (ho' : OpN X κ (sem2 (semR X (compareOp op'))) g') (ha : DE X κ W a ca) (hb : DE X κ W b cb) (hc : DE X κ W c cc) {σ : L2.St} {ρ : Env} {H : Hp} {O : Nat → List Addr} {Q : VK} (F : Fr X.K κ H σ ρ O) (h : PsE X κ W σ H O Q (cCh g g' ca cb cc ρ)) :
    tChain (semR X (compareOp op)) (semR X (compareOp op')) (semE X a) (semE X b) (semE X c) σ H Q := by
  refine ha σ ρ H O _ F ?_
  unfold cCh at h
  cases h1 : ca ρ with
  | stuck => rw [h1] at h; exact h
  | exn n ρ1 => rw [h1] at h; exact h
  | ok x ρ1 =>
    rw [h1, R.bind_ok] at h
    split at h
    · rename_i da
      intro v H1 O1 ov F1 r1 d1 n1
      obtain ⟨_, ra⟩ := r1
      refine hb σ ρ1 H1 O1 _ F1 ?_
      cases h2 : cb ρ1 with
      | stuck => rw [h2] at h; exact h
      | exn n ρ2 => rw [h2] at h; exact fun H' O' F' n' => h H' O' F' (n1.drop.trans n')
      | ok y ρ2 =>
        rw [h2, R.bind_ok] at h
        split at h
        · rename_i db
          intro u H2 O2 ou F2 r2 d2 n2
          obtain ⟨_, rb⟩ := r2
          have ra2 := Rz.st n2.sb _ _ ra
          have n12 : Nx H H2 O O2 [] := n1.drop.trans n2.drop
          split at h
          · rename_i eg
            obtain ⟨x', y', e, q⟩ := ho [.v da, .v db] (.v (.bl true)) [v, u] H2 (fun z H3 => ∃ k, z = .bl k ∧ (if k = true then semE X c σ H3 fun w' H4 => semR X (compareOp op') u w' H4 Q else Q (.bl false) H3)) eg (RCs_2 ra2 rb) (fun z H3 oz rz sm fr => by
              have := RC_bl rz
              refine ⟨true, this, ?_⟩
              rw [if_pos rfl]
              have F3 := F2.same sm
              have n3 : Nx H2 H3 O2 O2 [] := Nx.same sm (fun a ha => by simp at ha)
              refine hc σ ρ2 H3 O2 _ F3 ?_
              cases h3 : cc ρ2 with
              | stuck => rw [h3] at h; exact h
              | exn n ρ3 => rw [h3] at h; exact fun H' O' F' n' => h H' O' F' ((n12.trans n3).trans n')
              | ok t ρ3 =>
                rw [h3, R.bind_ok] at h
                split at h
                · rename_i dc
                  intro w H4 O4 ow F4 r4 d4 n4
                  obtain ⟨_, rc⟩ := r4
                  have rb4 := Rz.st n4.sb _ _ (Rz.st (Sb.same sm) _ _ rb)
                  split at h
                  · rename_i k eg'
                    obtain ⟨x', y', e, q⟩ := ho' [.v db, .v dc] (.v (.bl k)) [u, w] H4 Q eg' (RCs_2 rb4 rc) (fun z H5 oz rz' sm' fr' => by
                      have n5 : Nx H4 H5 O4 O4 oz := Nx.same sm' fr'
                      refine h z H5 O4 oz (F4.same sm') rz' (fun a ha i hi => ?_) (((n12.trans n3).trans n4.drop).trans n5)
                      obtain ⟨o, eo, _⟩ := F4.own hi
                      rw [fr' a ha] at eo; cases eo)
                    injection e with e1 e2
                    injection e2 with e2 _
                    subst e1 e2
                    exact q
                  · exact h.elim
                · exact h.elim)
            injection e with e1 e2
            injection e2 with e2 _
            subst e1 e2
            exact q
          · rename_i eg
            obtain ⟨x', y', e, q⟩ := ho [.v da, .v db] (.v (.bl false)) [v, u] H2 (fun z H3 => ∃ k, z = .bl k ∧ (if k = true then semE X c σ H3 fun w' H4 => semR X (compareOp op') u w' H4 Q else Q (.bl false) H3)) eg (RCs_2 ra2 rb) (fun z H3 oz rz sm fr => by
              have := RC_bl rz
              refine ⟨false, this, ?_⟩
              rw [if_neg Bool.false_ne_true]
              have n3 : Nx H2 H3 O2 O2 [] := Nx.same sm (fun a ha => by simp at ha)
              exact h _ H3 O2 [] (F2.same sm) ⟨rfl, by unfold Rz; rfl⟩ (fun a ha => by simp at ha) (n12.trans n3))
            injection e with e1 e2
            injection e2 with e2 _
            subst e1 e2
            exact q
          · exact h.elim
        · exact h.elim
    · exact h.elim
theorem de_ch {a b c : Expr} {op op' : CmpOp} {pos : Pos} {g g' : List C → Option C} {ca cb cc : Env → R C} (ho : OpN X κ (sem2 (semR X (compareOp op))) g) (ho' : OpN X κ (sem2 (semR X (compareOp op'))) g') (ha : DE X κ W a ca) (hb : DE X κ W b cb) (hc : DE X κ W c cc)
    (hm : lastMarks [op, op'] [b, c] = false := by with_unfolding_all rfl) : DE X κ W (.Compare a [op, op'] [b, c] pos) (cCh g g' ca cb cc) :=
  fun σ ρ H O Q F h => sem_of (pe_chain (opr_sem X _) (opr_sem X _) (pe_sem X a) (pe_sem X b) (pe_sem X c) hm) (ch_core ho ho' ha hb hc F h)
theorem dt_ch {a b c : Expr} {op op' : CmpOp} {pos : Pos} {g g' : List C → Option C} {ca cb cc : Env → R C} (ho : OpN X κ (sem2 (semR X (compareOp op))) g) (ho' : OpN X κ (sem2 (semR X (compareOp op'))) g') (ha : DE X κ W a ca) (hb : DE X κ W b cb) (hc : DE X κ W c cc)
    (hm : lastMarks [op, op'] [b, c] = false := by with_unfolding_all rfl) : DT X κ W (.Compare a [op, op'] [b, c] pos) (cTest (cCh g g' ca cb cc)) :=
  fun σ ρ H O Q F h => semT_of (pt_chain (opr_sem X _) (opr_sem X _) (pe_sem X a) (pe_sem X b) (pe_sem X c) hm) (ch_core ho ho' ha hb hc F (PsE_test h))
end
end SW

set_option Elab.async false
set_option linter.all false
set_option maxRecDepth 100000
set_option maxHeartbeats 4000000
/-! Sw11: the rules again, led by the body's facts (so that the unifier meets the context first). -/
namespace SW
open PySem PySem.Spec PyProof.Rows L2
section
variable {X : Cx} {κ : String → Addr} {W : WX} {kp : List Nat} {kB : Nat}
theorem dsb_set (B : Bd X W kB) {i : Nat} {x : Str} {e : Expr} {pos pos' : Pos} {c : Env → R C} (he : DE X κ W e c) (hi : X.N[i]? = some x := by rfl) (hx : Loc X.env.scope x := by first | exact Or.inl rfl | exact Or.inr rfl) (hk : i ∉ kp := by decide)
    (hs : swapsWith e (some (.Name x pos')) pos.line X.env = pure false := by rfl) (hf : X.fn x = true ∨ X.env.scope.names.lookup x = some .local := by first | exact .inl rfl | exact .inr rfl) : DS X κ W kp (.Assign [.Name x pos'] e pos) (sSet (.nm i) c) := ds_setN B.g.nd he hi hx hk hs hf
theorem dgb_n {V : WX} (B : Bd X V kB) (i : Nat) {x : Str} {pos : Pos} (hi : X.N[i]? = some x := by rfl) (hx : Loc X.env.scope x := by first | exact Or.inl rfl | exact Or.inr rfl)
    (hf : X.fn x = true ∨ X.env.scope.names.lookup x = some .local := by first | exact .inl rfl | exact .inr rfl) : DG X κ (.Name x pos) (.nm i) := dg_n i B.g.nd hi hx hf
theorem dgb_t {V : WX} (B : Bd X V kB) {es : List Expr} {k : Nat} {pos : Pos} {ts : List Tg} (h : DGs X κ es ts)
    (hn : (assignEach es X.env).length = es.length := by rfl) (hst : (assignEach es X.env).findIdx? (·.1) = none := by rfl) (hl : es.length = ts.length := by rfl) : DG X κ (.Tuple es k pos) (.tp ts) := dg_t B.g.calm h hn hst hl
theorem dsb_while (B : Bd X W kB) {t : Expr} {body : List Stmt} {pos : Pos} {ct : Env → R Bool} {cb : Env → R Fl} (fuel : Env → Nat) (ht : DT X κ W t ct) (hb : DSs X κ W kp body cb) : DS X κ W kp (.While t body [] pos) (sWhile fuel ct cb) := ds_while fuel B.po ht hb
theorem dsb_for (B : Bd X W kB) {tg e : Expr} {body : List Stmt} {pos : Pos} {t : Tg} {ci : Env → R (List D)} {cb : Env → R Fl} (hi : DI X κ W tg e ci) (hg : DG X κ tg t) (hb : DSs X κ W kp body cb) (hk : ∀ i ∈ t.slots, i ∉ kp := by decide)
    (hs : ∀ x, foldedSetIterable e X.env x = pure x := by intro _; rfl) : DS X κ W kp (.For tg e body [] pos) (sFor ci t cb) := ds_for B.po B.g.calm hi hg hb hk hs
theorem deb_comp (B : Bd X W kB) {tg iter elt : Expr} {ifs : List Expr} {scope : Scope} {own : List (Str × Nat)} {pos : Pos} {t : Tg} {ci : Env → R (List D)} {ct : Env → R Bool} {ce : Env → R C} (hi : DI X κ W tg iter ci) (ok : BlkOk X.N X.env.scope scope own)
    (hg : ∀ (s : Shared) (H : Hp) (C : Addr) (cl : List (Str × Addr)) (fp : List Addr), DG (X.blk s H scope (compEnvC scope cl C X.env) fp) κ tg t)
    (ht : ∀ (s : Shared) (H : Hp) (C : Addr) (cl : List (Str × Addr)) (fp : List Addr), DTs (X.blk s H scope (compEnvC scope cl C X.env) fp) κ ifs ct)
    (he : ∀ (s : Shared) (H : Hp) (C : Addr) (cl : List (Str × Addr)) (fp : List Addr), DE (X.blk s H scope (compEnvC scope cl C X.env) fp) κ W0 elt ce)
    (hk : ∀ i ∈ t.slots, i ∈ own.map (·.2) := by decide) (hs : ∀ x, foldedSetIterable iter X.env x = pure x := by intro _; rfl) :
    DE X κ W (.ListComp elt [⟨tg, iter, ifs, 0⟩] scope pos) (cComp (own.map (·.2)) t ci ct ce) := de_comp B.g.calm B.g.nd hi ok hg ht he hk hs
theorem deb_compL (B : Bd X W kB) {tg iter elt : Expr} {ifs : List Expr} {scope : Scope} {own : List (Str × Nat)} {pos : Pos} {t : Tg} {ci : Env → R (List D)} {ct : Env → R Bool} {ce : Env → R C} (hi : DI X κ W tg iter ci) (ok : BlkOk X.N X.env.scope scope own)
    (hg : ∀ (s : Shared) (H : Hp) (C : Addr) (cl : List (Str × Addr)) (fp : List Addr), DG (X.blk s H scope (compEnvC scope cl C X.env) fp) κ tg t)
    (ht : ∀ (s : Shared) (H : Hp) (C : Addr) (cl : List (Str × Addr)) (fp : List Addr), DTs (X.blk s H scope (compEnvC scope cl C X.env) fp) κ ifs ct)
    (he : ∀ (s : Shared) (H : Hp) (C : Addr) (cl : List (Str × Addr)) (fp : List Addr), DE (X.blk s H scope (compEnvC scope cl C X.env) fp) κ W0 elt ce)
    (hk : ∀ i ∈ t.slots, i ∈ own.map (·.2) := by decide) (hs : ∀ x, foldedSetIterable iter X.env x = pure x := by intro _; rfl) :
    DE X κ W (.ListComp elt [⟨tg, iter, ifs, 0⟩] scope pos) (cCompL (own.map (·.2)) t ci ct ce) := de_compL B.g.calm B.g.nd hi ok hg ht he hk hs
end
end SW
namespace SW
open PySem PySem.Spec PyProof.Rows L2
section
variable {X : Cx} {κ : String → Addr} {W : WX} {kp : List Nat} {kB : Nat}
theorem dsb_setC (B : Bd X W kB) {i : Nat} {y : Str} {py : Pos} {tg iter elt : Expr} {ifs : List Expr} {scope : Scope} {own : List (Str × Nat)} {pos spos : Pos} {t : Tg} {ci : Env → R (List D)} {ct : Env → R Bool} {ce : Env → R C} (hi : DI X κ W tg iter ci) (ok : BlkOk X.N X.env.scope scope own)
    (hg : ∀ (s : Shared) (H : Hp) (C : Addr) (cl : List (Str × Addr)) (fp : List Addr), DG (X.blk s H scope (compEnvC scope cl C X.env) fp) κ tg t)
    (ht : ∀ (s : Shared) (H : Hp) (C : Addr) (cl : List (Str × Addr)) (fp : List Addr), DTs (X.blk s H scope (compEnvC scope cl C X.env) fp) κ ifs ct)
    (he : ∀ (s : Shared) (H : Hp) (C : Addr) (cl : List (Str × Addr)) (fp : List Addr), DE (X.blk s H scope (compEnvC scope cl C X.env) fp) κ W0 elt ce)
    (hk : ∀ i ∈ t.slots, i ∈ own.map (·.2) := by decide) (hy : X.N[i]? = some y := by rfl) (hyl : X.env.scope.names.lookup y = some .local := by rfl) (hkp : i ∉ kp := by decide)
    (hsw : swapsWith (.ListComp elt [⟨tg, iter, ifs, 0⟩] scope pos) (some (.Name y py)) spos.line X.env = pure true := by rfl) (hs : ∀ x, foldedSetIterable iter X.env x = pure x := by intro _; rfl) :
    DS X κ W kp (.Assign [.Name y py] (.ListComp elt [⟨tg, iter, ifs, 0⟩] scope pos) spos) (sSet (.nm i) (cComp (own.map (·.2)) t ci ct ce)) := ds_setC B.g.calm B.g.nd hi ok hg ht he hk hy hyl hkp hsw hs
theorem dsb_setCL (B : Bd X W kB) {i : Nat} {y : Str} {py : Pos} {tg iter elt : Expr} {ifs : List Expr} {scope : Scope} {own : List (Str × Nat)} {pos spos : Pos} {t : Tg} {ci : Env → R (List D)} {ct : Env → R Bool} {ce : Env → R C} (hi : DI X κ W tg iter ci) (ok : BlkOk X.N X.env.scope scope own)
    (hg : ∀ (s : Shared) (H : Hp) (C : Addr) (cl : List (Str × Addr)) (fp : List Addr), DG (X.blk s H scope (compEnvC scope cl C X.env) fp) κ tg t)
    (ht : ∀ (s : Shared) (H : Hp) (C : Addr) (cl : List (Str × Addr)) (fp : List Addr), DTs (X.blk s H scope (compEnvC scope cl C X.env) fp) κ ifs ct)
    (he : ∀ (s : Shared) (H : Hp) (C : Addr) (cl : List (Str × Addr)) (fp : List Addr), DE (X.blk s H scope (compEnvC scope cl C X.env) fp) κ W0 elt ce)
    (hk : ∀ i ∈ t.slots, i ∈ own.map (·.2) := by decide) (hy : X.N[i]? = some y := by rfl) (hyl : X.env.scope.names.lookup y = some .local := by rfl) (hkp : i ∉ kp := by decide)
    (hsw : swapsWith (.ListComp elt [⟨tg, iter, ifs, 0⟩] scope pos) (some (.Name y py)) spos.line X.env = pure true := by rfl) (hs : ∀ x, foldedSetIterable iter X.env x = pure x := by intro _; rfl) :
    DS X κ W kp (.Assign [.Name y py] (.ListComp elt [⟨tg, iter, ifs, 0⟩] scope pos) spos) (sSet (.nm i) (cCompL (own.map (·.2)) t ci ct ce)) := ds_setCL B.g.calm B.g.nd hi ok hg ht he hk hy hyl hkp hsw hs
end
end SW

set_option Elab.async false
set_option linter.all false
set_option maxRecDepth 100000
set_option maxHeartbeats 4000000
set_option autoImplicit false
/-! Sw12: a caught exception is kept. -/
namespace SW
open PySem PySem.Spec PyProof.Rows L2
theorem track {X : Cx} {pins : List (Addr × Obj)} {σ : L2.St} {H : Hp} {s : Shared} {a : Addr} {cls : Value} {oe : Obj} {vs : Array Value} (I : Inv X pins σ H s)
    (he : s.heap.get? a = some oe) (hz : Zc cls none oe) (hd : oe.data = .fields vs) (na : H a = none) (new : X.s_0.heap.get? a = none) (np : ∀ p ∈ X.pn ++ pins, p.1 ≠ a) (nL : a ≠ X.env.locals) (nC : ∀ x c, X.env.cells.lookup x = some c → c ≠ a) :
    Inv X pins σ (upd H a (.frz oe (.own a))) s where
  ok := I.ok
  os := I.os
  bare := I.bare
  base :=
    { keep := I.base.keep
      slot := I.base.slot
      there := I.base.there
      free := fun b o e n x => by
        have hb : b ≠ a := fun q => by rw [q, new] at e; cases e
        rw [upd_ne hb]; exact I.base.free b o e n x
      tups := fun b xs e => by
        have q := I.base.tups b xs e
        rw [upd_ne (fun z => by rw [z, na] at q; cases q)]; exact q
      frzs := fun b o u e => by
        have q := I.base.frzs b o u e
        rw [upd_ne (fun z => by rw [z, na] at q; cases q)]; exact q
      tbls := fun b ps e => by
        obtain ⟨m, q⟩ := I.base.tbls b ps e
        exact ⟨m, by rw [upd_ne (fun z => by rw [z, na] at q; cases q)]; exact q⟩ }
  loc := I.loc
  cell := I.cell
  free := by rw [upd_ne (Ne.symm nL)]; exact I.free
  freeC := fun x c e => by rw [upd_ne (nC x c e)]; exact I.freeC x c e
  pin := fun p hp => by
    obtain ⟨q1, q2, q3⟩ := I.pin p hp
    exact ⟨q1, by rw [upd_ne (np p hp)]; exact q2, q3⟩
  hok := I.hok.laidN (fun _ _ e => e) na ⟨he, oe, he⟩
  len := I.len
end SW
namespace SW
open PySem PySem.Spec PyProof.Rows L2
/-- into a suite's context and back, the exception tracked and not pinned -/
theorem intoSuite {X : Cx} {pins : List (Addr × Obj)} {σ : L2.St} {H : Hp} {s : Shared} (a : Addr) (I : Inv X pins σ H s) : Inv (X.suite a (X.pn ++ pins)) [] σ H s :=
  { ok := I.ok.suite a (X.pn ++ pins), os := I.os, bare := I.bare, base := I.base, loc := I.loc, cell := I.cell, free := I.free, freeC := I.freeC, pin := fun p hp => I.pin p (by simpa using hp), hok := I.hok, len := I.len }
theorem outOfSuite {X : Cx} {pins pn' : List (Addr × Obj)} {σ : L2.St} {H : Hp} {s : Shared} {a : Addr} (ok : X.Ok) (I : Inv (X.suite a (X.pn ++ pins)) pn' σ H s) : Inv X pins σ H s :=
  { ok := ok, os := I.os, bare := I.bare, base := I.base, loc := I.loc, cell := I.cell, free := I.free, freeC := I.freeC, pin := fun p hp => I.pin p (List.mem_append_left pn' hp), hok := I.hok, len := I.len }
/-- what the clause wishes: the suite starts with the error tracked -/
def wKeep (K : PySem.W.Frag) (c : Value) (i : Nat) (ts : Addr → TS) (Wout : WX) (D : Ends) : WX := fun cls d σ H =>
  ∃ b, PySem.W.exmOne K cls c = some b ∧
    (b = true → d = none ∧ ∀ a oe, H a = none → Zc cls none oe → (∃ vs, oe.data = .fields vs) → ts a ⟨fun σ1 H1 => D.nx (σ1.set i none) H1, D.rt, fun σ1 H1 => D.bk (σ1.set i none) H1, fun σ1 H1 => D.ct (σ1.set i none) H1⟩ (σ.set i (some (.ref a))) (upd H a (.frz oe (.own a)))) ∧
    (b = false → Wout cls d σ H)
section
variable {X : Cx} {x n : Str} {c : Value} {i : Nat} {body suite : List Stmt} {b₀ : Stmt} {np pos pos' : Pos} {tb : WX → TS} {ts : Addr → TS} {Wout : WX}
theorem ps_keep (hs : X.stack = X.env :: X.outer) (hf : X.env.frame = some X.env.locals) (hN : X.N.Nodup) (hi : X.N[i]? = some n) (hln : X.env.kindOf n = some .local) (hc : Names X x c) (tk : Takes X Wout) (hcell : X.env.cells = []) (hex : X.ex = [])
    (hb : ∀ (W : WX) (pn : List (Addr × Obj)) (xe : Value → Shared → Prop), Takes (X.tr pn xe) W → PassesOwn (model X.prog X.w) X.A X.env xe → PSs (X.tr pn xe) body (tb W))
    (hsu : ∀ (a : Addr) (pn : List (Addr × Obj)), PSs (X.suite a pn) (b₀ :: suite) (ts a)) :
    PS X (.Try body [.ExceptHandler (some (.Name x np)) (some n) (b₀ :: suite) pos'] [] [] pos) (fun D σ H => tb (wKeep X.K c i ts Wout D) D σ H) where
  run := by
    intro pins s σ H D I h
    have ok := I.ok
    have frames := ok.frames.trans (congrArg some hs)
    refine wpAny_Try_except (wpAny_mono ((hb (wKeep X.K c i ts Wout D) (X.pn ++ pins) (fun e t1 => wpAny (model X.prog X.w) X.A (noteFrame e X.env) (fun _ t2 => wpAny (model X.prog X.w) X.A (setFlight e none)
      (fun _ t3 => wpAny (model X.prog X.w) X.A (handleBy e X.env [.ExceptHandler (some (.Name x np)) (some n) (b₀ :: suite) pos']) (SP X pins D) X.xe t3) X.xe t2) X.xe t1) ?caught PassesOwn.looking).run [] s σ H D (I.toTry _) h) ?went fun _ _ z => z)
    case went =>
      intro f s1 q
      rcases f with _ | _ | _ | v
      · exact q.elim fun σ1 q => q.elim fun H1 q => wpAny_execs_nil ⟨σ1, H1, q.1.ofTry ok, q.2⟩
      · exact q.elim fun σ1 q => q.elim fun H1 q => ⟨σ1, H1, q.1.ofTry ok, q.2⟩
      · exact q.elim fun σ1 q => q.elim fun H1 q => ⟨σ1, H1, q.1.ofTry ok, q.2⟩
      · obtain ⟨v1, σ1, H1, J1, r1, q1⟩ := q
        exact ⟨v1, σ1, H1, J1.ofTry ok, r1, q1⟩
    case caught =>
      rintro u s' ⟨a, B, sI, p', σ1, H1, cls, d, rfl, J0, nb, up, sky, na, os, ag, b, hb1, hyes, hno⟩
      have J := J0.ofTry ok
      rw [show (X.tr (X.pn ++ pins) _).stack = X.env :: X.outer from hs] at sky
      refine Sky.land Zc.steady frames hf sky fun h3 fl3 up3 => ?_
      have I3 : Inv X pins σ1 H1 { s' with heap := h3 } := J.landed nb fl3.1 (up.trans up3) os ag
      obtain ⟨o3, v3, e3, z3, d3⟩ := fl3.there
      have off : a ∉ frs (X.env :: X.outer) := fun hm => by
        obtain ⟨_, o', e', hnf⟩ := fl3.2.2.1.mem hm
        cases e3.symm.trans e'
        exact hnf _ d3
      have nL : a ≠ X.env.locals := fun z => off (List.mem_filterMap.mpr ⟨X.env, List.mem_cons_self, by rw [hf, z]⟩)
      have newI : sI.heap.get? a = none := by
        cases q : sI.heap.get? a with
        | none => rfl
        | some o =>
          have := nb a o q (by rw [show (X.tr (X.pn ++ pins) _).stack = X.env :: X.outer from hs]; exact off)
          rw [fl3.2.1] at this; cases this
      have new0 : X.s_0.heap.get? a = none := by
        cases q : X.s_0.heap.get? a with
        | none => rfl
        | some o =>
          obtain ⟨o', e'⟩ := J.base.there a o q (by rw [hex]; simp)
          rw [newI] at e'; cases e'
      have npin : ∀ p ∈ X.pn ++ pins, p.1 ≠ a := fun p hp z => by
        have := (J.pin p hp).1
        rw [z, newI] at this; cases this
      have ncell : ∀ y k, X.env.cells.lookup y = some k → k ≠ a := fun y k e => by rw [hcell] at e; cases e
      have typ : PySem.W.Looks (model X.prog X.w) h3 (typeOf (.ref a)) cls := fun A' Q' E' t kk q' => wpAny_typeOf_ref (kk _ _ e3) (by rw [z3.1]; exact q')
      refine wpAny_handleBy_cons (codeAny_handlers_test ?_) (by intro q; cases q)
      have I3s := intoSuite a I3
      have asked : ∀ {Q' : Value → Shared → Prop} {E' : Value → Shared → Prop}, Q' c { s' with heap := h3 } → wpAny (model X.prog X.w) (X.A.mark (some (.ref a))) (eval (.Name x np) X.env) Q' E' { s' with heap := h3 } := by
        intro Q' E' q'
        obtain ⟨g1, g2, g3⟩ := hc
        rcases g3 with m1 | ⟨m1, m2, m3⟩
        · exact ld_glob I3s g1 m1 q' g2
        · exact ld_blt I3s g1 m1 m2 q' m3 g2
      refine asked ((PySem.W.exm_one (M := model X.prog X.w) I3.kIn typ hb1).here ?_)
      cases b with
      | true =>
        obtain ⟨hd0, hyes2⟩ := hyes rfl
        subst hd0
        refine codeAny_handlers_suite_as (HandSPX.lands_againZ fl3 fun h4 fl4 up4 => ?_)
        have I4 : Inv X pins σ1 H1 { s' with heap := h4 } := J.landed nb fl4.1 ((up.trans up3).trans up4) os ag
        obtain ⟨o4, v4, e4, z4, d4⟩ := fl4.there
        have T4 := intoSuite a (track I4 e4 z4 d4 na new0 npin nL ncell)
        refine store_ok (X := X.suite a (X.pn ++ pins)) (v := .ref a) T4 hN hi (.inl hln) rfl (fun s5 S5 => ?_) (.inr hln)
        refine wpAny_mono ((hsu a (X.pn ++ pins)).run [] s5 _ _ _ S5 (hyes2 a o4 na z4 ⟨v4, d4⟩)) (fun f s6 q => ?_) fun _ _ z => False.elim z
        have leave : ∀ {σ6 : L2.St} {H6 : Hp} {Q' : Shared → Prop}, Inv (X.suite a (X.pn ++ pins)) [] σ6 H6 s6 → (∀ s7, Inv X pins (σ6.set i none) H6 s7 → Q' s7) →
            wpAny (model X.prog X.w) X.A (do bindName X.env n .none; unbindBehindTheSuite X.env n pos') (fun _ s7 => Q' s7) X.xe s6 := fun S6 k => gone_ok (outOfSuite ok S6) hN hi hln k
        rcases f with _ | _ | _ | v
        · obtain ⟨σ6, H6, S6, q6⟩ := q
          exact leave S6 fun s7 J7 => ⟨_, _, J7, q6⟩
        · obtain ⟨σ6, H6, S6, q6⟩ := q
          exact leave S6 fun s7 J7 => ⟨_, _, J7, q6⟩
        · obtain ⟨σ6, H6, S6, q6⟩ := q
          exact leave S6 fun s7 J7 => ⟨_, _, J7, q6⟩
        · obtain ⟨v6, σ6, H6, S6, r6, q6⟩ := q
          exact leave S6 fun s7 J7 => ⟨_, _, _, J7, r6, q6⟩
      | false =>
        refine (show wpAny (model X.prog X.w) X.A (handleBy (.ref a) X.env []) (SP X pins D) X.xe _ from wpAny_handleBy_nil ?_)
        have fly := fl3
        obtain ⟨_, _, _, o5, v5, T5, oT5, w5, e5, z5, d5, h15, hr5⟩ := fly
        have goes : wpAny (model X.prog X.w) X.A (setFlight (.ref a) X.env.frame) (fun _ s4 => wpAny (model X.prog X.w) X.A (throw (.ref a) : Sem Flow) (SP X pins D) X.xe s4) X.xe { s' with heap := h3 } := by
          rw [hf]
          exact HandSPX.setFlight_upZ fl3 fun h4 hh4 up4 => wpAny_throw (tk _ _ ⟨a, B, sI, pins, σ1, H1, cls, d, rfl, J, nb, (up.trans up3).trans up4, .inr (.inr (by rw [hs]; exact hh4)), na, os, ag, hno rfl⟩)
        unfold PySem.passOn
        refine wpAny_bind (wpAny_field e5 d5 h15 ?_)
        rw [if_neg (show ¬ (Value.ref T5 == Value.none) = true by simp)]
        first
          | exact wpAny_bind (wpAny_pure (wpAny_bind goes))
          | exact wpAny_bind goes
end
end SW

set_option Elab.async false
set_option linter.all false
set_option maxRecDepth 100000
set_option maxHeartbeats 4000000
set_option autoImplicit false
/-! Sw13: try/except as a judgement. -/
namespace SW
open PySem PySem.Spec PyProof.Rows L2
/-- try body, except X as slot i: caught tells of each error whether the clause takes it -/
def sTry (caught : String → Option Bool) (i : Nat) (cb cs : Env → R Fl) : Env → R Fl := fun ρ => match cb ρ with
  | .exn n ρ1 => match caught n with
    | some true => if i < ρ1.length then (match cs (ρ1.set i (some (.v (.exc n)))) with
      | .ok .nx ρ2 => .ok .nx (ρ2.set i none)
      | .ok (.rt c) ρ2 => .ok (.rt c) (ρ2.set i none)
      | _ => .stuck) else .stuck
    | some false => .exn n ρ1
    | none => .stuck
  | r => r
section
variable {X : Cx} {κ : String → Addr} {W : WX} {kp : List Nat} {kB : Nat}
theorem dsb_try (B : Bd X W kB) {x n : Str} {c : Value} {i : Nat} {body suite : List Stmt} {b₀ : Stmt} {np pos pos' : Pos} {caught : String → Option Bool} {cb cs : Env → R Fl}
    (hq : ∀ m b, caught m = some b → PySem.W.exmOne X.K (.ref (κ m)) c = some b) (hc : Names X x c)
    (hb : ∀ (W' : WX) (pn : List (Addr × Obj)) (xe : Value → Shared → Prop), Bd (X.tr pn xe) W' kB → DSs (X.tr pn xe) κ W' kp body cb)
    (hsu : ∀ (a : Addr) (pn : List (Addr × Obj)), DSs (X.suite a pn) κ W0 kp (b₀ :: suite) cs)
    (hk : i ∉ kp := by decide) (hs : X.stack = X.env :: X.outer := by rfl) (hf : X.env.frame = some X.env.locals := by rfl) (hi : X.N[i]? = some n := by rfl) (hln : X.env.kindOf n = some .local := by rfl) (hcell : X.env.cells = [] := by rfl) (hex : X.ex = [] := by rfl) :
    DS X κ W kp (.Try body [.ExceptHandler (some (.Name x np)) (some n) (b₀ :: suite) pos'] [] [] pos) (sTry caught i cb cs) := by
  intro σ ρ H O D F h
  refine semS_of (ps_keep (i := i) (tb := fun W' D σ H => ∀ pn xe, Takes (X.tr pn xe) W' → PassesOwn (model X.prog X.w) X.A X.env xe → semSs (X.tr pn xe) body D σ H) (ts := fun a D σ H => ∀ pn, semSs (X.suite a pn) (b₀ :: suite) D σ H)
    hs hf B.g.nd hi hln hc B.tk hcell hex (fun W' pn xe tk po => ⟨fun pins s σ H D I q => q pn xe tk po pins s I⟩) fun a pn => ⟨fun pins s σ H D I q => q pn pins s I⟩) ?_
  intro pn xe tk po
  refine hb _ pn xe ⟨⟨B.g.calm, B.g.un, B.g.nd⟩, tk, po, B.rm⟩ σ ρ H O D F ?_
  unfold sTry at h
  match e : cb ρ with
  | .ok .nx ρ1 => rw [e] at h; exact h
  | .ok (.rt v) ρ1 => rw [e] at h; exact h
  | .stuck => rw [e] at h; exact h
  | .exn m ρ1 =>
    rw [e] at h
    dsimp only at h
    intro σ1 H1 O1 F1 k1 n1
    match eq : caught m with
    | none => rw [eq] at h; exact h.elim
    | some false =>
      rw [eq] at h
      exact ⟨false, hq m false eq, (fun z => by cases z), fun _ => h σ1 H1 O1 F1 k1 n1⟩
    | some true =>
      rw [eq] at h
      refine ⟨true, hq m true eq, fun _ => ⟨rfl, fun a oe na hz hd pn' => ?_⟩, fun z => by cases z⟩
      dsimp only at h
      split at h
      · rename_i hil
        have same : Same H1 (upd H1 a (.frz oe (.own a))) := same_upd na
        have F2 : Fr X.K κ (upd H1 a (.frz oe (.own a))) (σ1.set i (some (.ref a))) (ρ1.set i (some (.v (.exc m)))) (fun j => if j = i then [] else O1 j) :=
          (F1.same same).put hil (c := .v (.exc m)) (v := .ref a) (ov := []) ⟨rfl, by unfold Rz; exact ⟨a, oe, hd.choose, rfl, upd_same, hz, hd.choose_spec⟩⟩ fun a' ha' => by simp at ha'
        refine hsu a pn' _ _ _ _ _ F2 ?_
        have n2 : Nx H1 (upd H1 a (.frz oe (.own a))) O1 (fun j => if j = i then [] else O1 j) [] := ⟨fun b o eb _ => same b o eb, fun b hb' => by
          rcases hb' with hb' | ⟨j, hj⟩
          · simp at hb'
          · by_cases z : j = i
            · simp [z] at hj
            · simp only [if_neg z] at hj; exact .inl ⟨j, hj⟩⟩
        have n12 := n1.trans n2
        have kset : ∀ (τ : L2.St) (y : Option V), Kp kp τ (τ.set i y) := fun τ y => Kp.set hk
        have drop : ∀ {H2 : Hp} {σ2 : L2.St} {ρ2 : Env} {O2 : Nat → List Addr}, Fr X.K κ H2 σ2 ρ2 O2 → Fr X.K κ H2 (σ2.set i none) (ρ2.set i none) (fun j => if j = i then [] else O2 j) := fun {H2 σ2 ρ2 O2} G =>
          { len := by simp [G.len]
            cv := fun j c' ej => by
              by_cases z : j = i
              · subst z
                by_cases hl : j < ρ2.length
                · rw [List.getElem?_set_self hl] at ej; cases ej
                · rw [List.getElem?_eq_none (by simpa using hl)] at ej; cases ej
              · rw [List.getElem?_set_ne (Ne.symm z)] at ej ⊢
                simp only [if_neg z]; exact G.cv j c' ej
            em := G.drop (i := i).em
            dj := G.drop (i := i).dj }
        have ndrop : ∀ {H2 : Hp} {O2 : Nat → List Addr} {ov : List Addr}, Nx H H2 O O2 ov → Nx H H2 O (fun j => if j = i then [] else O2 j) ov := fun {H2 O2 ov} N => ⟨N.gw, fun b hb' => by
          rcases hb' with hb' | ⟨j, hj⟩
          · exact N.nw b (.inl hb')
          · by_cases z : j = i
            · simp [z] at hj
            · simp only [if_neg z] at hj; exact N.nw b (.inr ⟨j, hj⟩)⟩
        match ec : cs (ρ1.set i (some (.v (.exc m)))) with
        | .ok .nx ρ2 =>
          rw [ec] at h
          intro σ2 H2 O2 F3 k3 n3
          exact h _ H2 _ (drop F3) ((k1.trans (kset _ _)).trans (k3.trans (kset _ _))) (ndrop (n12.trans n3))
        | .ok (.rt v) ρ2 =>
          rw [ec] at h
          intro u σ2 H2 O2 ov F3 r3 d3 k3 n3
          refine h u _ H2 _ ov (drop F3) r3 (fun b hb' j hj => ?_) ((k1.trans (kset _ _)).trans (k3.trans (kset _ _))) (ndrop (n12.trans n3))
          by_cases z : j = i
          · simp [z] at hj
          · simp only [if_neg z] at hj; exact d3 b hb' j hj
        | .exn m2 ρ2 => rw [ec] at h; exact h.elim
        | .stuck => rw [ec] at h; exact h.elim
      · exact h.elim
end
end SW
namespace SW
open PySem PySem.Spec PyProof.Rows L2
/-- what the module tells of an own exception class over ValueError -/
structure ExcOk (K : PySem.W.Frag) (κ : String → Addr) (mg : Str → Option Value) (x : String) : Prop where
  g : mg (Str.ofString x) = some (.ref (κ x))
  e : PySem.W.excIn K (κ x) [.type "ValueError", .type "Exception", .type "BaseException", .type "object"] "ValueError.__new__" = true
  k : PySem.W.keepIn K (.ref (κ x)) = true
  s : PySem.W.subIn K (.ref (κ x)) (.type "BaseException") = some true
  t : PySem.W.typeIn K (.ref (κ x)) = some (.type "type")
def sRaise (n : String) : Env → R Fl := fun ρ => .exn n ρ
section
variable {X : Cx} {κ : String → Addr} {W : WX} {kp : List Nat} {kB : Nat}
theorem dsb_raise (B : Bd X W kB) {x : String} {m : Str} {j : Nat} {p p2 pos pos' : Pos} (hx : ExcOk X.K κ X.mg x) (hg : Gl X (Str.ofString x) := by rfl) (hdb : (Str.ofString x == ("__debug__" : Str)) = false := by decide) :
    DS X κ W kp (.Raise (some (.Call (.Name (Str.ofString x) p) [.Constant (.str m) j p2] [] pos)) none pos') (sRaise x) := by
  intro σ ρ H O D F h
  exact semS_of (ps_raise B.g.calm B.tk (pmk_own PySem.F.excBase_ValueError hx.e hx.g hx.k (raises_own hx.s hx.t) hg hdb)) (h σ H O F Kp.refl Nx.refl)
end
end SW

set_option Elab.async false
set_option linter.all false
set_option maxRecDepth 100000
set_option maxHeartbeats 4000000
set_option autoImplicit false
/-! Sw14: isinstance of a kept exception. -/
namespace SW
open PySem PySem.Spec PyProof.Rows L2
/-- sub n m: is the class n below the own class m; subT: below the builtin class m -/
def gIsE (sub subT : String → String → Option Bool) : List C → Option C
  | [.v (.exc n), .v (.cls m)] => match sub n m with
    | some b => some (.v (.bl b))
    | none => none
  | [.v (.exc n), .v (.ty m)] => match subT n m with
    | some b => some (.v (.bl b))
    | none => none
  | _ => none
/-- what the tables say is so -/
structure SubOk (K : PySem.W.Frag) (κ : String → Addr) (sub subT : String → String → Option Bool) : Prop where
  c : ∀ n m b, sub n m = some b → PySem.W.kitOne K (.ref (κ n)) (.ref (κ m)) = some b ∧ ExcC K (κ n)
  t : ∀ n m b, subT n m = some b → PySem.W.kitOne K (.ref (κ n)) (.type m) = some b ∧ ExcC K (κ n)
theorem isE {X : Cx} {κ : String → Addr} {n : String} {b : Bool} {x y : V} {H : Hp} {cv : Value} {Q : VK} (C : ExcC X.K (κ n)) (e : PySem.W.kitOne X.K (.ref (κ n)) cv = some b) (hy : ∀ u, RelV y u → u = cv) (r : Rz X.K κ H (.exc n) x) (q : Q (.bl b) H) : semC X (.builtin "isinstance") [x, y] H Q := by
  intro pins s σ us I rs
  unfold Rz at r
  obtain ⟨a, ⟨oc, od, oda, osl⟩, vs, rfl, ha, ⟨h2, h3⟩, h4⟩ := r
  have h1 := (I.hok a _ ha).1
  match us, rs with
  | [u, w], .cons ru (.cons rw .nil) =>
    cases ru
    cases hy _ rw
    dsimp only at h2 h3 h4
    subst h2 h3 h4
    exact PySem.W.kia_one (PySem.W.handS_kitx_exc C.hg C.hk C.hs C.hd C.ha C.hn C.ht C.hm) I.kIn ⟨h1, rfl, rfl, trivial⟩ e (fun z => nomatch z) fun tk => ⟨.bl b, H, I.kept (t' := tk) fun _ _ z => z, rfl, q⟩
theorem opn_isE {X : Cx} {κ : String → Addr} {sub subT : String → String → Option Bool} (S : SubOk X.K κ sub subT) : OpN X κ (semC X (.builtin "isinstance")) (gIsE sub subT) := by
  intro cs c vs H Q e rs k
  unfold gIsE at e
  split at e
  · rename_i n m
    split at e
    · rename_i b hb
      cases e
      obtain ⟨x, y, o1, o2, rfl, r1, r2⟩ := rs.two
      obtain ⟨h1, h2⟩ := S.c n m b hb
      have hy : y = .ref (κ m) := by have := r2.2; unfold Rz at this; exact this
      subst hy
      exact isE h2 h1 (fun u r => by cases r; rfl) r1.2 (kbl k)
    · cases e
  · rename_i n m
    split at e
    · rename_i b hb
      cases e
      obtain ⟨x, y, o1, o2, rfl, r1, r2⟩ := rs.two
      obtain ⟨h1, h2⟩ := S.t n m b hb
      have hy : y = .ty m := by have := r2.2; unfold Rz at this; exact this
      subst hy
      exact isE h2 h1 (fun u r => by cases r; rfl) r1.2 (kbl k)
    · cases e
  · cases e
end SW
namespace SW
open PySem PySem.Spec PyProof.Rows L2
section
variable {X : Cx} {κ : String → Addr} {W : WX}
/-- an own class by its name -/
theorem de_cls {x : String} {pos : Pos} (hm : X.mg (Str.ofString x) = some (.ref (κ x))) (hg : Gl X (Str.ofString x) := by rfl) (hd : (Str.ofString x == ("__debug__" : Str)) = false := by decide) : DE X κ W (.Name (Str.ofString x) pos) (cC (.cls x)) :=
  de_const (v := .ref (κ x)) (pe_glob hg hm rfl hd) fun _ => by unfold Rz; rfl
end
end SW

set_option Elab.async false
set_option linter.all false
set_option maxRecDepth 100000
set_option maxHeartbeats 4000000
set_option autoImplicit false
/-! Sw15: what stands in an except suite. -/
namespace SW
open PySem PySem.Spec PyProof.Rows L2
section
variable {X : Cx} {κ : String → Addr} {W : WX} {kp : List Nat} {kB : Nat}
theorem dss_set (B : Bd X W kB) {a : Addr} {pn : List (Addr × Obj)} {i : Nat} {x : Str} {e : Expr} {pos pos' : Pos} {c : Env → R C} (he : DE (X.suite a pn) κ W0 e c) (hi : X.N[i]? = some x := by rfl) (hx : Loc X.env.scope x := by first | exact Or.inl rfl | exact Or.inr rfl) (hk : i ∉ kp := by decide)
    (hs : swapsWith e (some (.Name x pos')) pos.line X.env = pure false := by rfl) (hf : X.fn x = true ∨ X.env.scope.names.lookup x = some .local := by first | exact .inl rfl | exact .inr rfl) : DS (X.suite a pn) κ W0 kp (.Assign [.Name x pos'] e pos) (sSet (.nm i) c) :=
  ds_setN (X := X.suite a pn) B.g.nd he hi hx hk hs hf
end
end SW

set_option Elab.async false
set_option linter.all false
set_option maxRecDepth 100000
set_option maxHeartbeats 4000000
set_option autoImplicit false
/-! Sw16: methods that only read; count, index, insert. -/
namespace SW
open PySem PySem.Spec PyProof.Rows L2
section
variable {X : Cx} {κ : String → Addr} {W : WX}
/-- l.count(x), by equality of data -/
def rCountD (K : PySem.W.Frag) : V → List V → Hp → VK → Prop := fun x xs H Q => ∃ (a : Addr) (y : V) (d : PyData) (ds : List PyData), x = V.ref a ∧ xs = [y] ∧ Dp K H (V.ref a) (.list ds) ∧ Dp K H y d ∧ SeqAt.shaped (.list ds) = true ∧ SeqAt.shaped d = true ∧
  Q (.int (ds.countP fun z => PyData.eqv z d : Nat)) H
theorem mt_countD (hu : X.A.units + 65 < cLine) : MtR X "list.count" (rCountD X.K) := by
  rintro pins s σ H x xs v us Q I rx rxs ⟨a, y, d, ds, rfl, rfl, hl, hy, sl, sd, q⟩
  cases rx
  obtain ⟨u, rfl, ru⟩ := rxs.one
  obtain ⟨bs, rd⟩ := Dp.reads I d y u hy ru
  cases hl with
  | lst hs ha =>
    obtain ⟨its, rv, ⟨⟨cl, dd, dat, slt⟩, n, ho, hc, _, hd⟩, hlen⟩ := I.list hs
    dsimp only at hc hd
    subst hc hd
    obtain ⟨as, ra⟩ := Dp.readsAll I ds _ its ha rv
    have lay := SeqAt.canLay_of_shaped sl
    have same := SeqAt.readsAll_map ds its as lay ra
    refine call_meets PySem.F.slot_list_count ⟨_, ho, rfl⟩ PySem.F.entry_list_count (PySem.F.args_list_count_2 _ _)
      (SeqAt.list_countAt a its.toArray n dd slt u fun w => PyData.eqv (SeqAt.readOf s.heap w) d) ⟨ho, SeqAt.items_eqAt (vs := its.toArray) ra rd lay (SeqAt.canLay_of_shaped sd) (room_in_shaped sd hu), ?_⟩
    have ec : its.toArray.toList.countP (fun w => PyData.eqv (SeqAt.readOf s.heap w) d) = ds.countP fun z => PyData.eqv z d := by
      rw [← same, List.countP_map]; rfl
    refine ⟨.int (ds.countP fun z => PyData.eqv z d : Nat), H, I.tok _, ⟨s.toks, ?_⟩, q⟩
    rw [ec]
/-- t.index(x), t a tuple: the first place of an equal one -/
def rIndexTD (K : PySem.W.Frag) : V → List V → Hp → VK → Prop := fun x xs H Q => ∃ (a : Addr) (y : V) (d : PyData) (ds : List PyData) (j : Nat) (z : PyData), x = V.ref a ∧ xs = [y] ∧ Dp K H (V.ref a) (.tuple ds) ∧ Dp K H y d ∧
  SeqAt.shaped (.tuple ds) = true ∧ SeqAt.shaped d = true ∧ ds[j]? = some z ∧ PyData.eqv z d = true ∧ (∀ (m : Nat) (w : PyData), m < j → ds[m]? = some w → PyData.eqv w d = false) ∧ Q (.int (j : Nat)) H
theorem mt_indexTD (hu : X.A.units + 65 < cLine) : MtR X "tuple.index" (rIndexTD X.K) := by
  rintro pins s σ H x xs v us Q I rx rxs ⟨a, y, d, ds, j, z, rfl, rfl, hl, hy, sl, sd, hz, hit, hno, q⟩
  cases rx
  obtain ⟨u, rfl, ru⟩ := rxs.one
  obtain ⟨bs, rd⟩ := Dp.reads I d y u hy ru
  cases hl with
  | tup hs ha =>
    obtain ⟨its, rv, ⟨⟨cl, dd, dat, slt⟩, ho, hc, n, hd⟩, hlen⟩ := I.tuple hs
    dsimp only at hc hd
    subst hc hd
    obtain ⟨as, ra⟩ := Dp.readsAll I ds _ its ha rv
    have lay := SeqAt.canLay_of_shaped sl
    have same := SeqAt.readsAll_map ds its as lay ra
    have hn : its.length = ds.length := by rw [← same, List.length_map]
    have hj : j < its.length := by rw [hn]; exact (List.getElem?_eq_some_iff.mp hz).1
    have at_ : ∀ (m : Nat) (hm : m < its.length) (w : PyData), ds[m]? = some w → SeqAt.readOf s.heap its[m] = w := fun m hm w hw => by
      rw [← same, List.getElem?_map, List.getElem?_eq_getElem hm] at hw
      exact Option.some.inj hw
    refine call_meets PySem.F.slot_tuple_index ⟨_, ho, rfl⟩ PySem.F.entry_tuple_index (PySem.F.args_tuple_index_2 _ _)
      (SeqAt.tuple_index2_found a its.toArray n dd slt u (fun m => match its[m]? with
        | some w => PyData.eqv (SeqAt.readOf s.heap w) d
        | none => false) j (by simpa using hj) (Nat.zero_le _) (by simpa using hj) ?_ ?_) ⟨ho, fun m hm => ?_, ?_⟩
    · rw [List.getElem?_eq_getElem hj]
      show PyData.eqv (SeqAt.readOf s.heap its[j]) d = true
      rw [at_ j hj z hz]; exact hit
    · intro m hm _ hmj
      have hm' : m < its.length := by simpa using hm
      rw [List.getElem?_eq_getElem hm']
      have hw : ds[m]? = some ds[m] := List.getElem?_eq_getElem (by omega)
      show PyData.eqv (SeqAt.readOf s.heap its[m]) d = false
      rw [at_ m hm' _ hw]; exact hno m _ hmj hw
    · have hm' : m < its.length := by simpa using hm
      have := SeqAt.items_eqAt (vs := its.toArray) ra rd lay (SeqAt.canLay_of_shaped sd) (room_in_shaped sd hu) its[m] (by simp)
      rw [List.getElem?_eq_getElem hm']
      simpa using this
    · exact ⟨.int (j : Nat), H, I.tok _, ⟨_, rfl⟩, q⟩
/-! ### a method of data -/
def tyM (T : String) : D → Bool
  | .str _ => T == "str"
  | .lst _ => T == "list"
  | .tup _ => T == "tuple"
  | _ => false
/-- the value has the type T, by any heap that the abstract one tells of -/
def TyIs (X : Cx) (T : String) (x : V) (H : Hp) : Prop := ∀ (pins : List (Addr × Obj)) (σ : L2.St) (s : Shared) (v : Value), Inv X pins σ H s → RelV x v → s.TypeIs v T ∧ ∀ a, v = .ref a → ∃ ob, s.heap.get? a = some ob ∧ ob.dict = none
theorem tyIs_of {T : String} {d : D} {v : V} {H : Hp} (r : Rz X.K κ H d v) (h : tyM T d = true) : TyIs X T v H := by
  intro pins σ s u I ru
  unfold tyM at h
  split at h
  · have e : T = "str" := by simpa using h
    subst e
    unfold Rz at r; subst r
    exact tyV_is (T := "str") I ru rfl
  · have e : T = "list" := by simpa using h
    subst e
    unfold Rz at r
    obtain ⟨a, vs, rfl, hs, _⟩ := r
    exact tyV_is I ru (.inl ⟨rfl, vs, hs.sql⟩)
  · have e : T = "tuple" := by simpa using h
    subst e
    unfold Rz at r
    obtain ⟨a, vs, rfl, hs, _⟩ := r
    obtain ⟨o, ho, hdn⟩ := id hs
    cases ru
    obtain ⟨us, _, mt, _⟩ := I.tuple hs.sqt
    refine ⟨mt.typeIs, fun b eb => ?_⟩
    cases eb
    exact ⟨o, (I.hok a _ ho).1, hdn⟩
  · cases h
def semMm (X : Cx) (id : String) : List V → Hp → VK → Prop := fun vs H Q => ∃ x xs, vs = x :: xs ∧ semM X id x xs H Q
def tMW (X : Cx) (T : String) (r : V → List V → Hp → VK → Prop) (ob : TE) (t : TA) : TE := fun σ H Q => ob σ H fun x H1 => TyIs X T x H1 ∧ t σ H1 fun xs H2 => r x xs H2 Q
theorem pe_mW {T name id : String} {r : V → List V → Hp → VK → Prop} {ob e : Expr} {es : List Expr} {tb : TE} {t : TA} {apos cpos : Pos} (pa : PlainAttrs T) (slot : Slot T (Str.ofString name) id) (hty : typeOf (.builtin id) = pure (.type "method_descriptor")) (mt : MtR X id r) (hb : PE X ob tb) (ha : PA X (e :: es) t)
    (h1 : attributeBase ob (Str.ofString name) X.env (eval ob X.env) = eval ob X.env := by rfl)
    (h2 : ((backTo cpos (starEach (e :: es) X.env)).all (fun p => !p.1) && (backToKw cpos (keywordEach [] X.env)).all (fun p => p.1.isSome) && decide ((e :: es).length + ([] : List Keyword).length + (if ([] : List Keyword).isEmpty then 0 else 1) < 30)) = true := by rfl)
    (h3 : (apos.endLine == cpos.line) = true := by rfl) (h4 : starEach (e :: es) X.env = (false, eval e X.env) :: starEach es X.env := by rfl) (h5 : (backTo cpos (starEach es X.env)).any (·.1) = false := by rfl) :
    PE X (.Call (.Attribute ob (Str.ofString name) apos) (e :: es) [] cpos) (tMW X T r tb t) := ⟨fun pins s σ H Q I h =>
  wpAny_Call_method_late h1 h2 h3 rfl (thn (hb.run pins s σ H _ I h) fun v s1 ⟨x, H1, I1, r1, ty, q1⟩ => by
    obtain ⟨y1, y2⟩ := ty _ _ _ _ I1 r1
    refine ⟨T, id, pa, slot, hty, y1, y2, ?_⟩
    have w := ha.run cpos pins s1 σ H1 _ I1 q1
    rw [h4] at w ⊢
    exact Calls.callWith_builtin (by show (false || (backTo cpos (starEach es X.env)).any (·.1)) = false; rw [h5] <;> rfl) (Calls.evalArgs_plain (thn w fun us s2 ⟨vs, H2, I2, r2, q2⟩ => mt pins s2 σ H2 x vs v us Q I2 r1 r2 q2)))⟩
/-- o.name(e, ..), o data of the type T: only read -/
def cRM (T : String) (g : List C → Option C) (co : Env → R C) (cl : Env → R (List C)) : Env → R C := fun ρ => (co ρ).bind fun c ρ1 => match c with
  | .v d => if tyM T d = true then (cl ρ1).bind fun cs ρ2 => match g (.v d :: cs) with
    | some r => .ok r ρ2
    | none => .stuck
    else .stuck
  | _ => .stuck
theorem de_rm {T name id : String} {g : List C → Option C} {ob e : Expr} {es : List Expr} {apos cpos : Pos} {co : Env → R C} {cl : Env → R (List C)} (pa : PlainAttrs T) (slot : Slot T (Str.ofString name) id) (hty : typeOf (.builtin id) = pure (.type "method_descriptor")) (ho : OpN X κ (semMm X id) g)
    (hb : DE X κ W ob co) (hl : DL X κ W (e :: es) cl) (hs : (e :: es).all noStar = true := by rfl)
    (h1 : attributeBase ob (Str.ofString name) X.env (eval ob X.env) = eval ob X.env := by rfl)
    (h2 : ((backTo cpos (starEach (e :: es) X.env)).all (fun p => !p.1) && (backToKw cpos (keywordEach [] X.env)).all (fun p => p.1.isSome) && decide ((e :: es).length + ([] : List Keyword).length + (if ([] : List Keyword).isEmpty then 0 else 1) < 30)) = true := by rfl)
    (h3 : (apos.endLine == cpos.line) = true := by rfl) : DE X κ W (.Call (.Attribute ob (Str.ofString name) apos) (e :: es) [] cpos) (cRM T g co cl) := by
  intro σ ρ H O Q F h
  have hs' : noStar e = true ∧ es.all noStar = true := by rw [List.all_cons, Bool.and_eq_true] at hs; exact hs
  refine sem_of (pe_mW pa slot hty (mtr_sem X id) (pe_sem X ob) (pa_semB hs) h1 h2 h3 (starEach_of hs'.1 es X.env) (plainStar hs'.2)) (hb σ ρ H O _ F ?_)
  unfold cRM at h
  cases e1 : co ρ with
  | stuck => rw [e1] at h; exact h
  | exn n ρ1 => rw [e1] at h; exact h
  | ok c ρ1 =>
    rw [e1, R.bind_ok] at h
    split at h
    · rename_i d
      split at h
      · rename_i ht
        intro v H1 O1 ov F1 r1 d1 n1
        refine ⟨tyIs_of r1.2 ht, hl σ ρ1 H1 O1 _ F1 ?_⟩
        cases e2 : cl ρ1 with
        | stuck => rw [e2] at h; exact h
        | exn n ρ2 => rw [e2] at h; exact fun H' O' F' n' => h H' O' F' (n1.drop.trans n')
        | ok cs ρ2 =>
          rw [e2, R.bind_ok] at h
          intro vs H2 O2 F2 r2 n2
          split at h
          · rename_i r eg
            obtain ⟨x', xs', ex, q⟩ := ho (.v d :: cs) r (v :: vs) H2 Q eg (by
              unfold RCs
              exact ⟨v, vs, rfl, ⟨[], rfl, Rz.st n2.sb _ _ r1.2⟩, r2⟩) (fun z H3 oz rc sm fr => by
                refine h z H3 O2 oz (F2.same sm) rc (fun a ha i hi => ?_) ((n1.drop.trans n2).trans (Nx.same sm fr))
                obtain ⟨o, eo, _⟩ := F2.own hi
                rw [fr a ha] at eo; cases eo)
            injection ex with ex1 ex2
            subst ex1 ex2
            exact q
          · exact h.elim
      · exact h.elim
    · exact h.elim
/-- of a slot's own list -/
def gRd (g : List C → Option C) : C → List C → Option (D × C) := fun c cs => match g (c :: cs) with
  | some (.v d) => some (d, c)
  | _ => none
theorem mut_rd {id : String} {g : List C → Option C} (ho : OpN X κ (semMm X id) g) : MutN X κ (semM X id) (gRd g) := by
  intro c cs d c' x vs ov H Q e r rs k
  unfold gRd at e
  split at e
  · rename_i d' eg
    cases e
    obtain ⟨x', xs', ex, q⟩ := ho (c :: cs) (.v d) (x :: vs) H Q eg (by unfold RCs; exact ⟨x, vs, rfl, ⟨ov, r⟩, rs⟩) (fun z H3 oz rc sm fr => by
      refine k z H3 rc.2 (r.st (Sb.same sm) fun a ha => ?_) fun a o ea _ => sm a o ea
      obtain ⟨o, eo, _⟩ := r.own a ha
      rw [eo]; exact sm a o eo)
    injection ex with ex1 ex2
    subst ex1 ex2
    exact q
  · cases e
/-! ### count, index -/
def gCount : List C → Option C
  | [c, .v d] => match lstOf c with
    | some xs => (match toPs xs, toP d with
      | some ps, some q => if SeqAt.shaped (.list ps) = true ∧ SeqAt.shaped q = true then some (.v (.int (ps.countP fun z => PyData.eqv z q : Nat))) else none
      | _, _ => none)
    | none => none
  | _ => none
theorem opn_count (hX : Xg X) : OpN X κ (semMm X "list.count") gCount := by
  intro cs c vs H Q e rs k
  unfold gCount at e
  split at e
  · rename_i c0 d
    split at e
    · rename_i xs hx
      split at e
      · rename_i ps q hp hq
        split at e
        · rename_i hsh
          cases e
          obtain ⟨x, y, o1, o2, rfl, r1, r2⟩ := rs.two
          obtain ⟨a, zs, rfl, hs, rz⟩ := r1.lst hx
          exact ⟨_, _, rfl, semM_of (mt_countD (by have := hX.un; omega)) ⟨a, y, q, ps, rfl, rfl, .lst hs (dps_of _ _ _ rz hp), dp_of _ _ _ r2.2 hq, hsh.1, hsh.2, kint k⟩⟩
        · cases e
      · cases e
    · cases e
  · cases e
def gIndex : List C → Option C
  | [c, .v d] => match lstOf c with
    | some xs => (match toPs xs, toP d with
      | some ps, some q => if SeqAt.shaped (.list ps) = true ∧ SeqAt.shaped q = true then (ps.findIdx? fun z => PyData.eqv z q).map fun j => .v (.int (j : Nat)) else none
      | _, _ => none)
    | none => none
  | _ => none
theorem findIdx_facts {ps : List PyData} {q : PyData} {j : Nat} (h : (ps.findIdx? fun z => PyData.eqv z q) = some j) : ∃ z, ps[j]? = some z ∧ PyData.eqv z q = true ∧ ∀ (m : Nat) (w : PyData), m < j → ps[m]? = some w → PyData.eqv w q = false := by
  obtain ⟨h1, h2, h3⟩ := List.findIdx?_eq_some_iff_getElem.mp h
  refine ⟨ps[j], List.getElem?_eq_getElem h1, h2, fun m w hm hw => ?_⟩
  obtain ⟨hml, rfl⟩ := List.getElem?_eq_some_iff.mp hw
  simpa using h3 m hm
theorem opn_index (hX : Xg X) : OpN X κ (semMm X "list.index") gIndex := by
  intro cs c vs H Q e rs k
  unfold gIndex at e
  split at e
  · rename_i c0 d
    split at e
    · rename_i xs hx
      split at e
      · rename_i ps q hp hq
        split at e
        · rename_i hsh
          obtain ⟨j, hj, rfl⟩ := Option.map_eq_some_iff.mp e
          obtain ⟨z, hz, hit, hno⟩ := findIdx_facts hj
          obtain ⟨x, y, o1, o2, rfl, r1, r2⟩ := rs.two
          obtain ⟨a, zs, rfl, hs, rz⟩ := r1.lst hx
          exact ⟨_, _, rfl, semM_of (mt_indexD (by have := hX.un; omega)) ⟨a, y, q, ps, j, z, rfl, rfl, .lst hs (dps_of _ _ _ rz hp), dp_of _ _ _ r2.2 hq, hsh.1, hsh.2, hz, hit, hno, kint k⟩⟩
        · cases e
      · cases e
    · cases e
  · cases e
def gIndexT : List C → Option C
  | [c, .v d] => match tupOf c with
    | some xs => (match toPs xs, toP d with
      | some ps, some q => if SeqAt.shaped (.tuple ps) = true ∧ SeqAt.shaped q = true then (ps.findIdx? fun z => PyData.eqv z q).map fun j => .v (.int (j : Nat)) else none
      | _, _ => none)
    | none => none
  | _ => none
theorem opn_indexT (hX : Xg X) : OpN X κ (semMm X "tuple.index") gIndexT := by
  intro cs c vs H Q e rs k
  unfold gIndexT at e
  split at e
  · rename_i c0 d
    split at e
    · rename_i xs hx
      split at e
      · rename_i ps q hp hq
        split at e
        · rename_i hsh
          obtain ⟨j, hj, rfl⟩ := Option.map_eq_some_iff.mp e
          obtain ⟨z, hz, hit, hno⟩ := findIdx_facts hj
          obtain ⟨x, y, o1, o2, rfl, r1, r2⟩ := rs.two
          obtain ⟨a, zs, rfl, hs, rz⟩ := r1.tup hx
          exact ⟨_, _, rfl, semM_of (mt_indexTD (by have := hX.un; omega)) ⟨a, y, q, ps, j, z, rfl, rfl, .tup hs (dps_of _ _ _ rz hp), dp_of _ _ _ r2.2 hq, hsh.1, hsh.2, hz, hit, hno, kint k⟩⟩
        · cases e
      · cases e
    · cases e
  · cases e
def gInsert : C → List C → Option (D × C)
  | .l ds, [.v (.int i), .v d] => if ds.length < sizeLine ∧ 0 ≤ i ∧ i < 2 ^ 63 then some (.non, .l (ds.take i.toNat ++ [d] ++ ds.drop i.toNat)) else none
  | _, _ => none
theorem mut_insert : MutN X κ (semM X "list.insert") gInsert := by
  intro c cs d c' x vs ov H Q e r rs k
  unfold gInsert at e
  split at e
  · rename_i ds i dd
    split at e
    · rename_i hz
      cases e
      obtain ⟨a, zs, rfl, rfl, ha, rz⟩ := r
      obtain ⟨u, w, o1, o2, rfl, r1, r2⟩ := rs.two
      have := RC_int r1; subst this
      refine semM_of mt_insert ⟨a, zs, i, w, rfl, rfl, ha, by rw [← rz.length]; exact hz.1, hz.2.1, hz.2.2, ?_⟩
      have sb := mut_lst (vs' := zs.take i.toNat ++ [w] ++ zs.drop i.toNat) ha
      have rz' := Rzs.st sb _ _ rz
      exact k .non _ Rz_non ⟨a, _, rfl, rfl, upd_same, ((rz'.take i.toNat).append (Rzs.cons (Rz.st sb _ _ r2.2) Rzs.nil)).append (rz'.drop i.toNat)⟩ upd_kept
    · cases e
  · cases e
end
end SW

set_option Elab.async false
set_option linter.all false
set_option maxRecDepth 100000
set_option maxHeartbeats 4000000
set_option autoImplicit false
/-! Sw17: order of data at any depth: <, min, max, sorted. -/
namespace SW
open PySem PySem.Spec PyProof.Rows L2
def toPd (d : D) : PyData := (toP d).getD .none
mutual
theorem toP_inj : ∀ (a b : D) (p : PyData), toP a = some p → toP b = some p → a = b
  | a, b, p, ea, eb => by
    cases a with
    | tup xs =>
      unfold toP at ea
      split at ea
      · rename_i ps hp
        cases ea
        cases b with
        | tup ys =>
          unfold toP at eb
          split at eb
          · rename_i qs hq
            injection eb with eb; injection eb with eb; subst eb
            rw [toPs_inj xs ys qs hp hq]
          · cases eb
        | lst ys =>
          unfold toP at eb
          split at eb <;> cases eb
        | _ => cases eb
      · cases ea
    | lst xs =>
      unfold toP at ea
      split at ea
      · rename_i ps hp
        cases ea
        cases b with
        | lst ys =>
          unfold toP at eb
          split at eb
          · rename_i qs hq
            injection eb with eb; injection eb with eb; subst eb
            rw [toPs_inj xs ys qs hp hq]
          · cases eb
        | tup ys =>
          unfold toP at eb
          split at eb <;> cases eb
        | _ => cases eb
      · cases ea
    | non =>
      cases ea
      cases b with
      | tup ys => unfold toP at eb; split at eb <;> cases eb
      | lst ys => unfold toP at eb; split at eb <;> cases eb
      | non => rfl
      | _ => cases eb
    | bl k =>
      cases ea
      cases b with
      | tup ys => unfold toP at eb; split at eb <;> cases eb
      | lst ys => unfold toP at eb; split at eb <;> cases eb
      | bl k => cases eb; rfl
      | _ => cases eb
    | int k =>
      cases ea
      cases b with
      | tup ys => unfold toP at eb; split at eb <;> cases eb
      | lst ys => unfold toP at eb; split at eb <;> cases eb
      | int k => cases eb; rfl
      | _ => cases eb
    | str k =>
      cases ea
      cases b with
      | tup ys => unfold toP at eb; split at eb <;> cases eb
      | lst ys => unfold toP at eb; split at eb <;> cases eb
      | str k => cases eb; rfl
      | _ => cases eb
    | _ => cases ea
theorem toPs_inj : ∀ (xs ys : List D) (ps : List PyData), toPs xs = some ps → toPs ys = some ps → xs = ys
  | [], ys, ps, ea, eb => by
    cases ea
    cases ys with
    | nil => rfl
    | cons y ys => unfold toPs at eb; split at eb <;> cases eb
  | x :: xs, ys, ps, ea, eb => by
    unfold toPs at ea
    split at ea
    · rename_i p ps' hp hps
      cases ea
      cases ys with
      | nil => cases eb
      | cons y ys =>
        unfold toPs at eb
        split at eb
        · rename_i q qs hq hqs
          injection eb with eb; injection eb with e1 e2; subst e1 e2
          rw [toP_inj x y q hp hq, toPs_inj xs ys qs hps hqs]
        · cases eb
    · cases ea
end
theorem toPs_map : ∀ {ds : List D} {ps : List PyData}, toPs ds = some ps → ps = ds.map toPd ∧ ∀ d ∈ ds, toP d = some (toPd d)
  | [], ps, e => by cases e; exact ⟨rfl, fun d hd => by cases hd⟩
  | d :: ds, ps, e => by
    unfold toPs at e
    split at e
    · rename_i p ps' hp hps
      cases e
      obtain ⟨h1, h2⟩ := toPs_map hps
      have e1 : toPd d = p := by unfold toPd; rw [hp]; rfl
      refine ⟨by rw [List.map_cons, e1, ← h1], fun x hx => ?_⟩
      rcases List.mem_cons.mp hx with rfl | hx
      · rw [e1]; exact hp
      · exact h2 x hx
    · cases e
/-- these can be compared with one another -/
def alikeB (ps : List PyData) : Bool := ps.all fun p => ps.all fun q => PySem.W.alike p q
def noNon (ps : List PyData) : Bool := ps.all fun p => match p with
  | .none => false
  | _ => true
theorem alikeB_all {ps : List PyData} (h : alikeB ps = true) : ∀ p ∈ ps, ∀ q ∈ ps, PySem.W.alike p q = true := fun p hp q hq => by
  unfold alikeB at h
  exact List.all_eq_true.mp (List.all_eq_true.mp h p hp) q hq
theorem noNon_all {ps : List PyData} (h : noNon ps = true) : ∀ p ∈ ps, p ≠ .none := fun p hp e => by
  have := List.all_eq_true.mp h p hp
  subst e
  cases this
section
variable {X : Cx} {κ : String → Addr} {W : WX}
/-! ### a < b -/
def gLtD : List C → Option C
  | [.v a, .v b] => match toP a, toP b with
    | some p, some q => if PySem.W.alike p q = true ∧ noNon [p] = true ∧ p.depth ≤ 60 then some (.v (.bl (PySem.W.dataLt p q))) else none
    | _, _ => none
  | _ => none
theorem opn_ltD (hX : Xg X) : OpN X κ (sem2 (semR X (compareOp .Lt))) gLtD := by
  refine opn2 (fun c1 c2 c x y o1 o2 H Q e r1 r2 k => ?_) fun cs c e => ?_
  · unfold gLtD at e
    split at e
    · rename_i a b heq
      injection heq with h1 h2
      injection h2 with h2 _
      subst h1 h2
      split at e
      · rename_i p q hp hq
        split at e
        · rename_i hc
          cases e
          intro pins s σ v u I rx ry
          obtain ⟨as, ra⟩ := Dp.reads I p x v (dp_of _ _ _ r1.2 hp) rx
          obtain ⟨bs, rb⟩ := Dp.reads I q y u (dp_of _ _ _ r2.2 hq) ry
          refine PySem.W.lt_data ra rb hc.1 (noNon_all hc.2.1 p (by simp)) ?_ ⟨.bl (PySem.W.dataLt p q), H, I, rfl, kbl k⟩
          have := hX.un
          have := Nat.min_le_left p.depth q.depth
          omega
        · cases e
      · cases e
    · cases e
  · unfold gLtD at e
    split at e
    · exact ⟨_, _, rfl⟩
    · cases e
/-! ### min, max -/
def bestMin (d : D) (ds : List D) : D := ds.foldl (fun a y => if PySem.W.dataLt (toPd y) (toPd a) then y else a) d
def bestMax (d : D) (ds : List D) : D := ds.foldl (fun a y => if PySem.W.dataLt (toPd a) (toPd y) then y else a) d
theorem bestMin_toP : ∀ (ds : List D) (d : D), toPd (bestMin d ds) = PySem.W.minD (toPd d) (ds.map toPd)
  | [], _ => rfl
  | y :: ds, d => by
    show toPd (bestMin (if PySem.W.dataLt (toPd y) (toPd d) then y else d) ds) = PySem.W.minD (if PySem.W.dataLt (toPd y) (toPd d) then toPd y else toPd d) (ds.map toPd)
    rw [bestMin_toP ds]
    congr 1
    split <;> rfl
theorem bestMax_toP : ∀ (ds : List D) (d : D), toPd (bestMax d ds) = PySem.W.maxD (toPd d) (ds.map toPd)
  | [], _ => rfl
  | y :: ds, d => by
    show toPd (bestMax (if PySem.W.dataLt (toPd d) (toPd y) then y else d) ds) = PySem.W.maxD (if PySem.W.dataLt (toPd d) (toPd y) then toPd y else toPd d) (ds.map toPd)
    rw [bestMax_toP ds]
    congr 1
    split <;> rfl
theorem bestMin_mem : ∀ (ds : List D) (d : D), bestMin d ds ∈ d :: ds
  | [], d => by simp [bestMin]
  | y :: ds, d => by
    have := bestMin_mem ds (if PySem.W.dataLt (toPd y) (toPd d) then y else d)
    show bestMin (if PySem.W.dataLt (toPd y) (toPd d) then y else d) ds ∈ _
    rcases List.mem_cons.mp this with e | h
    · rw [e]; split <;> simp
    · simp [h]
theorem bestMax_mem : ∀ (ds : List D) (d : D), bestMax d ds ∈ d :: ds
  | [], d => by simp [bestMax]
  | y :: ds, d => by
    have := bestMax_mem ds (if PySem.W.dataLt (toPd d) (toPd y) then y else d)
    show bestMax (if PySem.W.dataLt (toPd d) (toPd y) then y else d) ds ∈ _
    rcases List.mem_cons.mp this with e | h
    · rw [e]; split <;> simp
    · simp [h]
theorem vals_at : ∀ {vs : List V} {us : List Value} {i : Nat} {u : Value}, Vals vs us → us[i]? = some u → ∃ v, vs[i]? = some v ∧ RelV v u
  | _, _, _, _, .nil, e => by simp at e
  | _, _, 0, _, .cons r _, e => by simp at e; subst e; exact ⟨_, rfl, r⟩
  | _, _, i + 1, _, .cons _ t, e => by
    obtain ⟨v, e1, e2⟩ := vals_at (i := i) t (by simpa using e)
    exact ⟨v, by simpa using e1, e2⟩
theorem Rzs.back {K : PySem.W.Frag} {H : Hp} : ∀ {ds : List D} {vs : List V} {i : Nat} {v : V}, Rzs K κ H ds vs → vs[i]? = some v → ∃ d, ds[i]? = some d ∧ Rz K κ H d v
  | [], _, _, _, h, e => by unfold Rzs at h; subst h; simp at e
  | d :: ds, _, 0, _, h, e => by
    unfold Rzs at h
    obtain ⟨v, r, rfl, h1, _⟩ := h
    simp at e; subst e
    exact ⟨d, rfl, h1⟩
  | d :: ds, _, i + 1, _, h, e => by
    unfold Rzs at h
    obtain ⟨v, r, rfl, _, q⟩ := h
    obtain ⟨u, e1, e2⟩ := Rzs.back (i := i) q (by simpa using e)
    exact ⟨u, by simpa using e1, e2⟩
theorem depthAll_le : ∀ {ps : List PyData} {n : Nat}, (∀ p ∈ ps, p.depth ≤ n) → PyData.depthAll ps ≤ n
  | [], n, _ => by simp [PyData.depthAll]
  | p :: ps, n, h => by
    have h1 := h p (by simp)
    have h2 := depthAll_le (ps := ps) fun q hq => h q (by simp [hq])
    simp [PyData.depthAll]; omega
def okOrd (ps : List PyData) : Bool := alikeB ps && noNon ps && ps.all fun p => decide (p.depth ≤ 60)
theorem okOrd_all {ps : List PyData} (h : okOrd ps = true) : PySem.W.AlikeAll ps ∧ PyData.depthAll ps ≤ 60 := by
  unfold okOrd at h
  rw [Bool.and_eq_true, Bool.and_eq_true] at h
  exact ⟨⟨alikeB_all h.1.1, noNon_all h.1.2⟩, depthAll_le fun p hp => by simpa using List.all_eq_true.mp h.2 p hp⟩
/-- the item that is told stands at some place of what was handed in -/
theorem pick {pins : List (Addr × Obj)} {σ : L2.St} {H : Hp} {s : Shared} {ds : List D} {xs : List V} {its : List Value} {d : D} {i : Nat} {v : Value} {h' : Heap} {bs : List Addr} (I : Inv X pins σ H s) (rz : Rzs X.K κ H ds xs) (rv : Vals xs its)
    (hp : ∀ x ∈ ds, toP x = some (toPd x)) (al : ∀ x ∈ ds, ∀ y ∈ ds, PySem.W.alike (toPd x) (toPd y) = true) (hd : d ∈ ds) (hv : its[i]? = some v) (r : Reads h' v (toPd d) bs) (k : ∀ b o, s.heap.get? b = some o → h'.get? b = some o) : ∃ x, RelV x v ∧ Rz X.K κ H d x := by
  obtain ⟨x, ex, rx⟩ := vals_at rv hv
  obtain ⟨e, ee, re⟩ := rz.back ex
  have he : e ∈ ds := List.mem_of_getElem? ee
  obtain ⟨as, ra⟩ := Dp.reads I (toPd e) x v (dp_of _ _ _ re (hp e he)) rx
  have := PySem.W.alike_unique _ _ _ _ _ (al e he d hd) (PySem.W.reads_keeps k ra) r
  have : e = d := toP_inj e d (toPd d) (by rw [hp e he, this]) (hp d hd)
  subst this
  exact ⟨x, rx, re⟩
def gMinD : List C → Option C
  | [c] => match seqOf c with
    | some (d :: ds) => (match toPs (d :: ds) with
      | some ps => if okOrd ps = true then some (.v (bestMin d ds)) else none
      | none => none)
    | _ => none
  | _ => none
def gMaxD : List C → Option C
  | [c] => match seqOf c with
    | some (d :: ds) => (match toPs (d :: ds) with
      | some ps => if okOrd ps = true then some (.v (bestMax d ds)) else none
      | none => none)
    | _ => none
  | _ => none
theorem opn_minD (hX : Xg X) : OpN X κ (semC X (.builtin "min")) gMinD := by
  intro cs c vs H Q e rs k
  unfold gMinD at e
  split at e
  · obtain ⟨x, o1, rfl, r1⟩ := rs.one
    split at e
    · rename_i d ds hds
      split at e
      · rename_i ps hps
        split at e
        · rename_i hok
          cases e
          obtain ⟨em, hp⟩ := toPs_map hps
          obtain ⟨al, dp⟩ := okOrd_all hok
          rw [List.map_cons] at em
          have alD : ∀ x ∈ d :: ds, ∀ y ∈ d :: ds, PySem.W.alike (toPd x) (toPd y) = true := fun x hx y hy => al.1 _ (by rw [em, ← List.map_cons]; exact List.mem_map.mpr ⟨x, hx, rfl⟩) _ (by rw [em, ← List.map_cons]; exact List.mem_map.mpr ⟨y, hy, rfl⟩)
          obtain ⟨a, zs, rfl, hs, rz⟩ := r1.seq hds
          intro pins s σ us I rv1
          rw [Vals.ref1 rv1]
          have hu : X.A.units + 1 + PyData.depthAll ps < cLine := by have := hX.un; omega
          have fin : ∀ (its : List Value), Vals zs its → ∀ (i : Nat) v h' tk bs, its.toArray[i]? = some v → Reads h' v (PySem.W.minD (toPd d) (ds.map toPd)) bs → (∀ b o, s.heap.get? b = some o → h'.get? b = some o) → EP X pins σ Q v { s with heap := h', toks := tk } := fun its rv i v h' tk bs hv r hk => by
            rw [← bestMin_toP] at r
            obtain ⟨x, rx, rzx⟩ := pick I rz rv hp alD (bestMin_mem ds d) (by simpa using hv) r hk
            exact ⟨x, H, I.kept hk, rx, kval k rzx⟩
          rcases hs with hs | hs
          · obtain ⟨its, rv, hl, _⟩ := I.list hs
            obtain ⟨as, ra⟩ := Dp.readsAll I ps _ its (dps_of _ _ _ rz hps) rv
            rw [em] at ra al hu
            exact PySem.W.min_list_data (I.ok.hd hX.calm) hl.isList ra al hu (fin its rv)
          · obtain ⟨its, rv, hl, _⟩ := I.tuple hs
            obtain ⟨as, ra⟩ := Dp.readsAll I ps _ its (dps_of _ _ _ rz hps) rv
            rw [em] at ra al hu
            exact PySem.W.min_tuple_data (I.ok.hd hX.calm) hl ra al hu (fin its rv)
        · cases e
      · cases e
    · cases e
  · cases e
theorem opn_maxD (hX : Xg X) : OpN X κ (semC X (.builtin "max")) gMaxD := by
  intro cs c vs H Q e rs k
  unfold gMaxD at e
  split at e
  · obtain ⟨x, o1, rfl, r1⟩ := rs.one
    split at e
    · rename_i d ds hds
      split at e
      · rename_i ps hps
        split at e
        · rename_i hok
          cases e
          obtain ⟨em, hp⟩ := toPs_map hps
          obtain ⟨al, dp⟩ := okOrd_all hok
          rw [List.map_cons] at em
          have alD : ∀ x ∈ d :: ds, ∀ y ∈ d :: ds, PySem.W.alike (toPd x) (toPd y) = true := fun x hx y hy => al.1 _ (by rw [em, ← List.map_cons]; exact List.mem_map.mpr ⟨x, hx, rfl⟩) _ (by rw [em, ← List.map_cons]; exact List.mem_map.mpr ⟨y, hy, rfl⟩)
          obtain ⟨a, zs, rfl, hs, rz⟩ := r1.seq hds
          intro pins s σ us I rv1
          rw [Vals.ref1 rv1]
          have hu : X.A.units + 1 + PyData.depthAll ps < cLine := by have := hX.un; omega
          have fin : ∀ (its : List Value), Vals zs its → ∀ (i : Nat) v h' tk bs, its.toArray[i]? = some v → Reads h' v (PySem.W.maxD (toPd d) (ds.map toPd)) bs → (∀ b o, s.heap.get? b = some o → h'.get? b = some o) → EP X pins σ Q v { s with heap := h', toks := tk } := fun its rv i v h' tk bs hv r hk => by
            rw [← bestMax_toP] at r
            obtain ⟨x, rx, rzx⟩ := pick I rz rv hp alD (bestMax_mem ds d) (by simpa using hv) r hk
            exact ⟨x, H, I.kept hk, rx, kval k rzx⟩
          rcases hs with hs | hs
          · obtain ⟨its, rv, hl, _⟩ := I.list hs
            obtain ⟨as, ra⟩ := Dp.readsAll I ps _ its (dps_of _ _ _ rz hps) rv
            rw [em] at ra al hu
            exact PySem.W.max_list_data (I.ok.hd hX.calm) hl.isList ra al hu (fin its rv)
          · obtain ⟨its, rv, hl, _⟩ := I.tuple hs
            obtain ⟨as, ra⟩ := Dp.readsAll I ps _ its (dps_of _ _ _ rz hps) rv
            rw [em] at ra al hu
            exact PySem.W.max_tuple_data (I.ok.hd hX.calm) hl ra al hu (fin its rv)
        · cases e
      · cases e
    · cases e
  · cases e
end
end SW

set_option Elab.async false
set_option linter.all false
set_option maxRecDepth 100000
set_option maxHeartbeats 4000000
set_option autoImplicit false
/-! Sw18: sorted of a list or a tuple of data. -/
namespace SW
open PySem PySem.Spec PyProof.Rows L2
section
variable {prog : Program} {w : World} {A : Around} {E : Value → Shared → Prop} {s : Shared}
/-- what gathers the items of l -/
def Gathers (prog : Program) (w : World) (s : Shared) (l : Addr) (vs : List Value) : Prop := ∀ (A : Around) (E : Value → Shared → Prop) (Q : List Value → Shared → Prop),
  Q vs { s with heap := (s.heap.push (seqObj "list" #[] 0)).update s.heap.objs.size (Obj.mapSeq (· ++ vs.toArray)) } → wpAny (model prog w) A (collect (.ref l)) Q E s
theorem gathers_list {l : Addr} {vs : List Value} (hl : s.heap.IsList l vs.toArray) (hz : vs.length ≤ sizeLine) : Gathers prog w s l vs := fun A E Q h => collect_list hl h hz
theorem gathers_tuple {t : Addr} {xs : List Value} (ht : s.heap.IsTuple t xs.toArray) (hz : xs.length ≤ sizeLine) : Gathers prog w s t xs := by
  intro A E Q h
  obtain ⟨ob, hob, hcl, n, hdat⟩ := id ht
  unfold collect
  refine wpAny_bind (wpAny_runValue (codeAny_builtin entry_proto_collect' ?_))
  show wpAny _ _ (do again (.builtin "list.__iadd__" ⟨[← newList [], .ref t], []⟩)) _ _ s
  refine wpAny_bind (wpAny_newList (wpAny_pure ⟨Code.quiet_builtin _ (by decide +kernel), codeAny_builtin entry_list_iadd' ?_⟩))
  show wpAny _ _ (Builtin.List.listExtendWith (.ref s.heap.objs.size) (.ref t) (.ref s.heap.objs.size)) _ _ { s with heap := s.heap.push (seqObj "list" #[] 0) }
  unfold Builtin.List.listExtendWith
  have hob' : (s.heap.push (seqObj "list" #[] 0)).get? t = some ob := Heap.get?_push_of_some _ hob
  have mine : (s.heap.push (seqObj "list" #[] 0)).get? s.heap.objs.size = some (seqObj "list" #[] 0) := Heap.get?_push_size _ rfl
  refine wpAny_bind (wpAny_typeOf (T := "tuple") ⟨ob, hob', hcl⟩ ?_)
  have same : (Value.type "tuple" == Value.type "tuple") = true := by rfl
  rw [if_pos (by rw [same]; simp)]
  refine wpAny_bind (listItems_at hob' hdat ?_)
  refine wpAny_bind (listItems_at (xs := #[]) (n := 0) mine rfl ?_)
  rw [if_neg (by simp)]
  refine wpAny_bind (listUpdate_at (xs := #[]) (n := 0) mine rfl ?_ (Nat.zero_le _) (by show (#[] ++ xs.toArray).size ≤ sizeLine + 1; rw [Array.size_append, List.size_toArray, List.size_toArray]; show 0 + xs.length ≤ _; omega))
  refine wpAny_pure ?_
  show wpAny (model prog w) A (do
      let ob ← load s.heap.objs.size
      match ob.data with
      | .seq ys _ => pure ys.toList
      | _ => unsupported "internal:collect") Q E { s with heap := (s.heap.push (seqObj "list" #[] 0)).update s.heap.objs.size (Obj.mapSeq (· ++ xs.toArray)) }
  refine wpAny_bind (wpAny_load (get?_update_seq mine _) ?_)
  show wpAny _ _ (pure ((#[] : Array Value) ++ xs.toArray).toList) Q E _
  have e : ((#[] : Array Value) ++ xs.toArray).toList = xs := by simp
  rw [e]
  exact wpAny_pure h
theorem sorted_by {l : Addr} {vs : List Value} {Q : Value → Shared → Prop} (g : Gathers prog w s l vs) (hL : vs.length ≤ sizeLine)
    (go : ∀ E' : Value → Shared → Prop, wpAny (model prog w) A.in1.in1 (Builtin.«list.sort» ⟨[.ref (s.heap.objs.size + 1)], []⟩) (fun f s' => f = .done (.ret .none) ∧ Q (.ref (s.heap.objs.size + 1)) s') E' { s with heap := PySem.W.copyHeap s.heap vs }) :
    wpAny (model prog w) A (call (.builtin "sorted") [.ref l]) Q E s := by
  refine Calls.call_function_entry kind_sorted plain_sorted entry_sorted (args_sorted1 _) ?_
  unfold Builtin.«sorted»
  refine wpAny_bind (m := checkCount "sorted" 1 1 _) (wpAny_pure ?_)
  refine wpAny_bind (g _ _ _ ?_)
  refine wpAny_bind (wpAny_newList ?_ hL)
  have size : ((s.heap.push (seqObj "list" #[] 0)).update s.heap.objs.size (Obj.mapSeq (· ++ vs.toArray))).objs.size = s.heap.objs.size + 1 := by
    rw [Heap.size_update]; exact size_push' _ _
  show wpAny _ _ _ _ _ { s with heap := PySem.W.copyHeap s.heap vs }
  rw [size]
  refine wpAny_bind (wpAny_holding (wpAny_call_entry slot_list_sort ⟨_, PySem.W.copyHeap_at s.heap vs, rfl⟩ entry_list_sort ?_ (args_list_sort _)))
  show wpAny (model prog w) A.in1.in1 (Builtin.«list.sort» ⟨[.ref (s.heap.objs.size + 1)], []⟩) _ _ _
  refine wpAny_mono (go _) (fun f s' hf => ?_) fun _ _ z => z
  obtain ⟨rfl, hq⟩ := hf
  exact ⟨_, rfl, wpAny_pure ⟨_, rfl, hq⟩⟩
end
section
variable {X : Cx} {κ : String → Addr} {W : WX}
/-- all are tuples with an item at least, or none is a tuple -/
def sortB (ps : List PyData) : Bool := (ps.all fun p => match p with
  | .tuple (_ :: _) => true
  | _ => false) || (ps.all fun p => match p with
  | .tuple _ => false
  | .none => false
  | _ => true)
theorem sortB_all {ps : List PyData} (h : sortB ps = true) : PySem.W.Sortable ps := by
  unfold sortB at h
  rw [Bool.or_eq_true] at h
  rcases h with h | h
  · refine .inl fun p hp => ?_
    have := List.all_eq_true.mp h p hp
    split at this
    · exact ⟨_, _, rfl⟩
    · cases this
  · refine .inr fun p hp => ?_
    have := List.all_eq_true.mp h p hp
    split at this
    · cases this
    · cases this
    · rename_i h1 h2
      exact ⟨fun e => h2 e, fun xs e => h1 xs e⟩
def leD (a b : D) : Bool := !PySem.W.dataLt (toPd b) (toPd a)
theorem dataLe_leD : PySem.W.dataLe false toPd = leD := by
  rw [PySem.W.dataLe_eq]; rfl
def gSorted : List C → Option C
  | [c] => match seqOf c with
    | some ds => (match toPs ds with
      | some ps => if okOrd ps = true ∧ sortB ps = true ∧ ds.length ≤ sizeLine then some (.l (ds.mergeSort leD)) else none
      | none => none)
    | none => none
  | _ => none
theorem each_of {K : PySem.W.Frag} {H : Hp} : ∀ {ds : List D} {vs : List V} {us : List Value}, Rzs K κ H ds vs → Vals vs us → PySem.W.EachIs (fun u d => ∃ x : V, RelV x u ∧ Rz K κ H d x) us ds
  | [], _, _, h, r => by
    unfold Rzs at h; subst h
    cases r
    exact .nil
  | d :: ds, _, _, h, r => by
    unfold Rzs at h
    obtain ⟨v, t, rfl, h1, h2⟩ := h
    cases r with
    | cons r1 r2 => exact .cons ⟨v, r1, h1⟩ (each_of h2 r2)
theorem of_each {K : PySem.W.Frag} {H : Hp} : ∀ {us : List Value} {ds : List D}, PySem.W.EachIs (fun u d => ∃ x : V, RelV x u ∧ Rz K κ H d x) us ds → ∃ vs, Vals vs us ∧ Rzs K κ H ds vs
  | _, _, .nil => ⟨[], .nil, Rzs.nil⟩
  | _, _, .cons ⟨x, r1, h1⟩ t => by
    obtain ⟨vs, r2, h2⟩ := of_each t
    exact ⟨x :: vs, .cons r1 r2, Rzs.cons h1 h2⟩
theorem each_reads {pins : List (Addr × Obj)} {σ : L2.St} {H : Hp} {s : Shared} (I : Inv X pins σ H s) : ∀ {ds : List D} {vs : List V} {us : List Value}, Rzs X.K κ H ds vs → Vals vs us → (∀ d ∈ ds, toP d = some (toPd d)) → PySem.W.EachIs (fun u d => ∃ as, Reads s.heap u (toPd d) as) us ds
  | [], _, _, h, r, _ => by
    unfold Rzs at h; subst h
    cases r
    exact .nil
  | d :: ds, _, _, h, r, hp => by
    unfold Rzs at h
    obtain ⟨v, t, rfl, h1, h2⟩ := h
    cases r with
    | cons r1 r2 => exact .cons (Dp.reads I _ _ _ (dp_of _ _ _ h1 (hp d (by simp))) r1) (each_reads I h2 r2 fun x hx => hp x (by simp [hx]))
theorem opn_sorted (hX : Xg X) : OpN X κ (semC X (.builtin "sorted")) gSorted := by
  intro cs c vs H Q e rs k
  unfold gSorted at e
  split at e
  · obtain ⟨x, o1, rfl, r1⟩ := rs.one
    split at e
    · rename_i ds hds
      split at e
      · rename_i ps hps
        split at e
        · rename_i hok
          cases e
          obtain ⟨em, hp⟩ := toPs_map hps
          obtain ⟨al, dp⟩ := okOrd_all hok.1
          have so := sortB_all hok.2.1
          subst em
          have hal : PySem.W.AllAlike (ds.map toPd) := fun p hp q hq => al.1 p hp q hq
          obtain ⟨a, zs, rfl, hs, rz⟩ := r1.seq hds
          intro pins s σ us I rv1
          rw [Vals.ref1 rv1]
          obtain ⟨its, rv, hz, g⟩ : ∃ its : List Value, Vals zs its ∧ zs.length ≤ sizeLine ∧ Gathers X.prog X.w s a its := by
            rcases hs with hs | hs
            · obtain ⟨its, rv, hl, hz⟩ := I.list hs
              exact ⟨its, rv, hz, gathers_list hl.isList (by rw [← rv.length]; exact hz)⟩
            · obtain ⟨its, rv, hl, hz⟩ := I.tuple hs
              exact ⟨its, rv, hz, gathers_tuple hl (by rw [← rv.length]; exact hz)⟩
          have hz' : its.length ≤ sizeLine := by rw [← rv.length]; exact hz
          have ei := each_of rz rv
          have er := each_reads I rz rv hp
          refine sorted_by g hz' fun E' => ?_
          have er2 : PySem.W.EachIs (fun u d => ∃ as, Reads (PySem.W.sortingHeap (PySem.W.copyHeap s.heap its) (s.heap.objs.size + 1) its) u (toPd d) as) its ds := er.mono fun _ _ ⟨as, r⟩ => ⟨as, PyProof.Rows.Reads.keeps (fun _ _ => PySem.W.sorting_copy_old) r⟩
          have room : ∀ p, p ∈ ds.map toPd → X.A.in1.in1.units + p.depth < cLine := fun p hp => by
            have h1 : p.depth ≤ 60 := by
              have := hok.1
              unfold okOrd at this
              rw [Bool.and_eq_true] at this
              simpa using List.all_eq_true.mp this.2 p hp
            have := hX.un
            show X.A.units + 1 + 1 + p.depth < cLine
            omega
          refine PySem.W.list_sort_vals (κ := PySem.W.dataKind (PySem.W.sortingHeap (PySem.W.copyHeap s.heap its) (s.heap.objs.size + 1) its) (ds.map toPd)) (s := { s with heap := PySem.W.copyHeap s.heap its }) (PySem.W.copyHeap_at s.heap its)
            (PySem.W.SortsAt.data (s := { s with heap := PySem.W.sortingHeap (PySem.W.copyHeap s.heap its) (s.heap.objs.size + 1) its }) (PySem.W.each_map (R := fun v p => ∃ as, Reads (PySem.W.sortingHeap (PySem.W.copyHeap s.heap its) (s.heap.objs.size + 1) its) v p as) toPd er2) hal so room) hz' ⟨rfl, ?_⟩
          have eo := PySem.W.sortVals_data (h' := PySem.W.sortingHeap (PySem.W.copyHeap s.heap its) (s.heap.objs.size + 1) its) false ei er2 hal
          rw [dataLe_leD] at eo
          obtain ⟨ws, rw1, rw2⟩ := of_each eo
          obtain ⟨ep, hep⟩ := PyProof.Rows.sortedAll_at s.heap its (PySem.W.sortVals (PySem.W.dataKind (PySem.W.sortingHeap (PySem.W.copyHeap s.heap its) (s.heap.objs.size + 1) its) (ds.map toPd)) false its its).toArray
          have lw : ws.length ≤ sizeLine := by
            rw [← rw2.length, List.length_mergeSort]; exact hok.2.2
          refine ⟨.ref (s.heap.objs.size + 1), upd H (s.heap.objs.size + 1) (.lst ws), I.laid (t' := s.toks) (fun _ _ => PyProof.Rows.sortedAll_old) (Nat.le_succ _) ⟨lw, _, ep, rw1, hep⟩, rfl, klst k rw2 (I.hok.fresh (Nat.le_succ _))⟩
        · cases e
      · cases e
    · cases e
  · cases e
end
end SW

set_option Elab.async false
set_option linter.all false
set_option maxRecDepth 100000
set_option maxHeartbeats 4000000
set_option autoImplicit false
/-! Sw19: x in c, x not in c: lists and tuples of data, signs of a text. -/
namespace SW
open PySem PySem.Spec PyProof.Rows L2
section
variable {X : Cx} {κ : String → Addr} {W : WX}
def inC (neg : Bool) : List C → Option C
  | [.v (.str x), .v (.str z)] => match x.cps.toList with
    | [c] => some (.v (.bl (neg ^^ decide (c ∈ z.cps.toList))))
    | _ => none
  | [.v d, c] => match seqOf c with
    | some xs => (match toPs xs, toP d with
      | some ps, some q => if SeqAt.shaped (.list ps) = true ∧ SeqAt.shaped q = true then some (.v (.bl (neg ^^ ps.any fun z => PyData.eqv z q))) else none
      | _, _ => none)
    | none => none
  | _ => none
def gIn : List C → Option C := inC false
def gNotIn : List C → Option C := inC true
theorem shaped_tl {ps : List PyData} (h : SeqAt.shaped (.list ps) = true) : SeqAt.shaped (.tuple ps) = true := by
  simp only [SeqAt.shaped, PyData.canLay0, PyData.depth] at h ⊢
  exact h
theorem opn_in (hX : Xg X) : OpN X κ (sem2 (semR X (compareOp .In))) gIn := by
  refine opn2 (fun c1 c2 c x y o1 o2 H Q e r1 r2 k => ?_) fun cs c e => ?_
  · unfold gIn inC at e
    split at e
    · rename_i x z heq
      injection heq with h1 h2
      injection h2 with h2 _
      subst h1 h2
      split at e
      · rename_i ch hch
        cases e
        have e0 : x = ⟨#[ch]⟩ := by
          cases x with
          | mk cps => congr 1; exact Array.toList_inj.mp hch
        subst e0
        have := RC_str r1; subst this
        have := RC_str r2; subst this
        refine semR_of op_in_sign ⟨ch, z, rfl, rfl, ?_⟩
        have := kbl k
        simpa using this
      · cases e
    · rename_i d c0 _ heq
      injection heq with h1 h2
      injection h2 with h2 _
      subst h1 h2
      split at e
      · rename_i xs hx
        split at e
        · rename_i ps q hp hq
          split at e
          · rename_i hsh
            cases e
            obtain ⟨a, zs, rfl, hs, rz⟩ := r2.seq hx
            have kk := kbl k
            rw [Bool.false_xor] at kk
            rcases hs with hs | hs
            · exact semR_of (op_inD (by have := hX.un; omega)) ⟨q, ps, dp_of _ _ _ r1.2 hq, .lst hs (dps_of _ _ _ rz hp), hsh.2, hsh.1, kk⟩
            · intro pins s σ v u I rx ry
              obtain ⟨as, ra⟩ := Dp.reads I q x v (dp_of _ _ _ r1.2 hq) rx
              obtain ⟨bs, rb⟩ := Dp.reads I (.tuple ps) _ u (.tup hs (dps_of _ _ _ rz hp)) ry
              have hu : X.A.units + 1 + min (PyData.depthAll ps) q.depth < cLine := room_in_shaped hsh.2 (by have := hX.un; omega)
              exact SeqAt.in_tuple_reads rb ra (SeqAt.canLay_of_shaped hsh.1) (SeqAt.canLay_of_shaped hsh.2) hu ⟨.bl _, H, I, rfl, kk⟩
          · cases e
        · cases e
      · cases e
    · cases e
  · unfold gIn inC at e
    split at e
    · exact ⟨_, _, rfl⟩
    · exact ⟨_, _, rfl⟩
    · cases e
theorem opn_notIn (hX : Xg X) : OpN X κ (sem2 (semR X (compareOp .NotIn))) gNotIn := by
  refine opn2 (fun c1 c2 c x y o1 o2 H Q e r1 r2 k => ?_) fun cs c e => ?_
  · unfold gNotIn inC at e
    split at e
    · rename_i x z heq
      injection heq with h1 h2
      injection h2 with h2 _
      subst h1 h2
      split at e
      · rename_i ch hch
        cases e
        have e0 : x = ⟨#[ch]⟩ := by
          cases x with
          | mk cps => congr 1; exact Array.toList_inj.mp hch
        subst e0
        have := RC_str r1; subst this
        have := RC_str r2; subst this
        refine semR_of op_notIn_sign ⟨ch, z, rfl, rfl, ?_⟩
        have := kbl k
        simpa using this
      · cases e
    · rename_i d c0 _ heq
      injection heq with h1 h2
      injection h2 with h2 _
      subst h1 h2
      split at e
      · rename_i xs hx
        split at e
        · rename_i ps q hp hq
          split at e
          · rename_i hsh
            cases e
            obtain ⟨a, zs, rfl, hs, rz⟩ := r2.seq hx
            have kk := kbl k
            rw [Bool.true_xor] at kk
            rcases hs with hs | hs
            · exact semR_of (op_notInD (by have := hX.un; omega)) ⟨q, ps, dp_of _ _ _ r1.2 hq, .lst hs (dps_of _ _ _ rz hp), hsh.2, hsh.1, kk⟩
            · intro pins s σ v u I rx ry
              obtain ⟨as, ra⟩ := Dp.reads I q x v (dp_of _ _ _ r1.2 hq) rx
              obtain ⟨bs, rb⟩ := Dp.reads I (.tuple ps) _ u (.tup hs (dps_of _ _ _ rz hp)) ry
              have hu : X.A.units + 1 + min (PyData.depthAll ps) q.depth < cLine := room_in_shaped hsh.2 (by have := hX.un; omega)
              exact SeqAt.notIn_tuple_reads rb ra (SeqAt.canLay_of_shaped hsh.1) (SeqAt.canLay_of_shaped hsh.2) hu ⟨.bl _, H, I, rfl, kk⟩
          · cases e
        · cases e
      · cases e
    · cases e
  · unfold gNotIn inC at e
    split at e
    · exact ⟨_, _, rfl⟩
    · exact ⟨_, _, rfl⟩
    · cases e
end
end SW

set_option Elab.async false
set_option linter.all false
set_option maxRecDepth 100000
set_option maxHeartbeats 4000000
set_option autoImplicit false
/-! Sw20: remove; c[::-1]; len(set(c)) of unlike numbers. -/
namespace SW
open PySem PySem.Spec PyProof.Rows L2
section
variable {X : Cx} {κ : String → Addr} {W : WX}
/-! ### xs.remove(k), numbers -/
def gRemove : C → List C → Option (D × C)
  | .l ds, [.v (.int k)] => match intsOf ds with
    | some ns => (match ns.findIdx? (· == k) with
      | some j => some (.non, .l (ds.eraseIdx j))
      | none => none)
    | none => none
  | _, _ => none
theorem mut_remove : MutN X κ (semM X "list.remove") gRemove := by
  intro c cs d c' x vs ov H Q e r rs k
  unfold gRemove at e
  split at e
  · rename_i ds i
    split at e
    · rename_i ns hns
      split at e
      · rename_i j hj
        cases e
        have ed := intsOf_eq hns
        subst ed
        obtain ⟨a, zs, rfl, rfl, ha, rz⟩ := r
        obtain ⟨u, o1, rfl, r1⟩ := rs.one
        have := RC_int r1; subst this
        have ez := rz.ints
        subst ez
        obtain ⟨h1, h2, h3⟩ := List.findIdx?_eq_some_iff_getElem.mp hj
        have hjk : ns[j] = i := by simpa using h2
        refine semM_of mt_remove ⟨a, ns, i, j, rfl, rfl, ha, by rw [List.getElem?_eq_getElem h1, hjk], fun m hm e => ?_, ?_⟩
        · have hml : m < ns.length := by omega
          rw [List.getElem?_eq_getElem hml] at e
          have := h3 m hm
          simp at this
          exact this (Option.some.inj e)
        · have sb := mut_lst (vs' := (ns.eraseIdx j).map V.int) ha
          have em : (ns.map D.int).eraseIdx j = (ns.eraseIdx j).map D.int := by
            simp only [List.eraseIdx_eq_take_drop_succ, List.map_append, List.map_take, List.map_drop]
          exact k .non _ Rz_non ⟨a, _, rfl, rfl, upd_same, by rw [em]; exact Rzs.of_ints _⟩ upd_kept
      · cases e
    · cases e
  · cases e
/-! ### c[::-1] -/
/-- turned about: by what an object answers to a slice with the step -1 -/
def semRv (X : Cx) : V → Hp → VK → Prop := fun x H Q => ∀ pins s σ v vk sl, Inv X pins σ H s → RelV x v → s.heap.IsSliceOf sl .none .none vk → IsPart vk (some (-1)) →
    ∃ T id, typeLookup (.type T) "__getitem__" = pure (some (.builtin id)) ∧ s.TypeIs v T ∧ wpAny (model X.prog X.w) X.A (getItem v (.ref sl)) (EP X pins σ Q) X.xe s
theorem pe_rev {e st : Expr} {te : TE} {ts : TO} {p2 pos : Pos} (he : PE X e te) (hs : PO X (some st) ts) (hop : ∀ v a, subscripted (.Slice none none (some st) p2) false v (.ref a) = operate [v, .ref a] (getItem v (.ref a))) : PE X (.Subscript e (.Slice none none (some st) p2) pos) (fun σ H Q => te σ H fun x H1 => ts σ H1 fun o H2 => o = some (-1) ∧ semRv X x H2 Q) := by
  refine ⟨fun pins s σ H Q I h => ?_⟩
  refine Subscript_ (thn (he.run pins s σ H _ I h) fun v s1 ⟨x, H1, I1, r1, q1⟩ => ?_)
  refine wpAny_Slice ?_
  rw [evalPart_none]
  refine wpAny_pure ?_
  refine wpAny_pure (thn (hs.run pins s1 σ H1 _ I1 q1) fun vk s2 ⟨o, H2, I2, pk, eo, q2⟩ => ?_)
  subst eo
  have I3 : Inv X pins σ H2 { s2 with heap := s2.heap.push { cls := .type "slice", data := .fields #[.none, .none, vk] } } := I2.kept (t' := s2.toks) fun b ob q => Heap.get?_push_of_some _ q
  obtain ⟨T, id, hT, ht, hg⟩ := q2 pins _ σ v vk s2.heap.objs.size I3 r1 (Heap.IsSliceOf.new ..) pk
  show wpAny (model X.prog X.w) X.A (subscriptTail e (.Slice none none (some st) p2) v (.ref s2.heap.objs.size)) (EP X pins σ Q) X.xe { s2 with heap := s2.heap.push { cls := .type "slice", data := .fields #[.none, .none, vk] } }
  exact tail_any (ops := [v, .ref s2.heap.objs.size]) ht hT hg (hop _ _)
def gRev : List C → Option C
  | [.v (.tup _)] => none
  | [c] => match lstOf c with
    | some ds => some (.l ds.reverse)
    | none => none
  | _ => none
theorem opn_rev : OpN X κ (sem1 (semRv X)) gRev := by
  refine opn1 (fun c1 c x o1 H Q e r1 k => ?_) fun cs c e => ?_
  · unfold gRev at e
    split at e
    · cases e
    · rename_i c0 _ heq
      injection heq with h1 _
      subst h1
      split at e
      · rename_i ds hds
        cases e
        obtain ⟨a, zs, rfl, hs, rz⟩ := r1.lst hds
        intro pins s σ v vk sl I rx hsl pk
        cases rx
        obtain ⟨its, r, ht, hz⟩ := I.list hs
        have hlen := r.length
        refine ⟨"list", _, slot_list_getitem.lookup, ht.isList.typeIs, ?_⟩
        refine wpAny_getItem_list_slice ht.isList hsl .none .none pk (by decide) ?_ (by rw [List.size_toArray] <;> omega)
        rw [PySem.W.krv_pick]
        have rv : Vals zs.reverse its.reverse := by
          clear hlen hz rz k hs ht
          induction r with
          | nil => exact .nil
          | cons h t ih =>
            rw [List.reverse_cons, List.reverse_cons]
            exact ih.append (.cons h .nil)
        refine ⟨.ref s.heap.objs.size, _, I.laid (t' := s.toks) (o := .lst zs.reverse) (fun b ob q => Heap.get?_push_of_some _ q) (Nat.le_refl _) ⟨by rw [List.length_reverse]; exact hz, its.reverse, 0, rv, by simpa using Heap.get?_push_size _ rfl⟩, rfl, klst k rz.reverse (I.hok.fresh (Nat.le_refl _))⟩
      · cases e
    · cases e
  · unfold gRev at e
    split at e
    · cases e
    · exact ⟨_, rfl⟩
    · cases e
/-- e[::-1] -/
theorem de_rev {e : Expr} {j : Nat} {p1 p3 p2 pos : Pos} {cl : Env → R (List C)} (hl : DL X κ W [e] cl) : DE X κ W (.Subscript e (.Slice none none (some (.UnaryOp .USub (.Constant (.int 1) j p1) p3)) p2) pos) (cOp gRev cl) := by
  intro σ ρ H O Q F h
  refine sem_of (pe_rev (pe_sem X e) (po_some (pe_un un_neg pe_int)) (fun _ _ => rfl)) ?_
  have := hl σ ρ H O _ F (op_end opn_rev h)
  exact semE_mono this fun x H1 ⟨y, e1, q⟩ => by
    injection e1 with e1 _
    subst e1
    exact ⟨1, rfl, -1, rfl, rfl, q⟩
/-! ### len(set(t)), t a tuple of unlike numbers -/
theorem keyOf_len {es : List (Int × Value)} {ns : List Int} (h1 : (es.map L2.keyOf).Nodup) (h2 : ∀ k, decide (k ∈ ns) = true ↔ k ∈ es.map L2.keyOf) (h3 : ns.Nodup) : es.length = ns.length := by
  have : (es.map L2.keyOf).Perm ns := (List.perm_ext_iff_of_nodup h1 h3).mpr fun k => by
    rw [← h2 k, decide_eq_true_eq]
  have := this.length_eq
  simpa using this
theorem pe_setT {e : Expr} {te : TE} {p p2 q pos : Pos} (hX : Xg X) (hg : Gl X "len") (hm : X.mg "len" = none) (hg2 : Gl X "set") (hm2 : X.mg "set" = none) (he : PE X e te) (ns0 : starEach [e] X.env = (false, eval e X.env) :: starEach [] X.env) :
    PE X (.Call (.Name "len" p) [.Call (.Name "set" p2) [e] [] q] [] pos) (fun σ H Q => te σ H fun x H1 => ∃ (l : Addr) (ns : List Int), x = V.ref l ∧ SqT X.K H1 l (ns.map V.int) ∧ ns.Nodup ∧ ns.length ≤ 4000 ∧ Q (.int (ns.length : Nat)) H1) := by
  refine ⟨fun pins s σ H Q I h => ?_⟩
  refine Call_ (ld_blt I hg hm PySem.boot_len ?_)
  refine PyProof.Rows.callWith_builtin1 (PyProof.Rows.args_cons ?_ rfl) rfl rfl
  refine Call_ (ld_blt I hg2 hm2 PyProof.Rows.boot_set ?_)
  refine PyProof.Rows.callWith_type1 (PyProof.Rows.args_cons (thn (he.run pins s σ H _ I h) fun v t ⟨x, G, J, rx, w⟩ => PyProof.Rows.args_nil ?_) ns0) ns0 rfl
  obtain ⟨l, ns, rfl, hs, hnd, hle, w⟩ := w
  cases rx
  obtain ⟨its, rv, ht, hz⟩ := J.tuple hs
  refine L2.call_set_tupI ns (J.ok.hd hX.calm) ht (by simpa using rv.ints) (by unfold scanBound; omega) fun h' tk c hS hc hk => ?_
  refine PyProof.Rows.args_nil ?_
  obtain ⟨o, es, ep, tb, ho, hex, hd, _, hn1, hn2, _, hf, _⟩ := hS
  have el := keyOf_len hn1 hn2 hnd
  have es' : es.size = ns.length := by rw [← Array.length_toList]; exact el
  have J2 : Inv X pins σ G { t with heap := h', toks := tk } := J.kept hk
  exact call_len_set ho hex hd hf (by rw [es'] <;> omega) ⟨.int (ns.length : Nat), G, J2.tok _, ⟨_, by rw [es']⟩, w⟩
def gLenSet : List C → Option C
  | [.v (.tup ds)] => match intsOf ds with
    | some ns => if ns.Nodup ∧ ns.length ≤ 4000 then some (.v (.int ns.length)) else none
    | none => none
  | _ => none
theorem de_lenSet {e : Expr} {p p2 q pos : Pos} {cl : Env → R (List C)} (hX : Xg X) (hm : X.mg "len" = none) (hm2 : X.mg "set" = none) (hl : DL X κ W [e] cl) (hg : Gl X "len" := by rfl) (hg2 : Gl X "set" := by rfl) (hs : noStar e = true := by rfl) :
    DE X κ W (.Call (.Name "len" p) [.Call (.Name "set" p2) [e] [] q] [] pos) (cOp gLenSet cl) := by
  intro σ ρ H O Q F h
  refine sem_of (pe_setT hX hg hm hg2 hm2 (pe_sem X e) (starEach_of hs [] X.env)) ?_
  have hO : OpN X κ (fun vs H Q => ∃ x, vs = [x] ∧ ∃ (l : Addr) (ns : List Int), x = V.ref l ∧ SqT X.K H l (ns.map V.int) ∧ ns.Nodup ∧ ns.length ≤ 4000 ∧ Q (.int (ns.length : Nat)) H) gLenSet := by
    intro cs c vs H Q e rs k
    unfold gLenSet at e
    split at e
    · rename_i ds
      split at e
      · rename_i ns hns
        split at e
        · rename_i hc
          cases e
          have ed := intsOf_eq hns
          subst ed
          obtain ⟨x, o1, rfl, r1⟩ := rs.one
          obtain ⟨a, zs, rfl, hs, rz⟩ := r1.tup (ds := _) rfl
          rw [rz.ints] at hs
          exact ⟨_, rfl, a, ns, rfl, hs, hc.1, hc.2, kint k⟩
        · cases e
      · cases e
    · cases e
  have := hl σ ρ H O _ F (op_end hO h)
  exact semE_mono this fun x H1 ⟨y, e1, q⟩ => by
    injection e1 with e1 _
    subst e1
    exact q
end
end SW

set_option Elab.async false
set_option linter.all false
set_option maxRecDepth 100000
set_option maxHeartbeats 4000000
set_option autoImplicit false
/-! Sw21: an own list lent: it is data while an expression is worked out, and one's own again behind it. -/
namespace SW
open PySem PySem.Spec PyProof.Rows L2
def plainC : Option C → Bool
  | none => true
  | some (.v _) => true
  | _ => false
def plainE : Env → Bool
  | [] => true
  | c :: ρ => plainC c && plainE ρ
def flatD : D → Bool
  | .non => true
  | .bl _ => true
  | .int _ => true
  | .str _ => true
  | .ty _ => true
  | _ => false
def flatDs : List D → Bool
  | [] => true
  | d :: ds => flatD d && flatDs ds
def safeD : D → Bool
  | .tup ds => flatDs ds
  | d => flatD d
def safeC : C → Bool
  | .v d => safeD d
  | .l ds => flatDs ds
  | _ => false
def cLoan (w : List Nat) (i : Nat) (c : Env → R C) : Env → R C := fun ρ => match ρ[i]? with
  | some (some (.l ds)) => if plainE (wipeE (i :: w) ρ) = true then (match c ((wipeE w ρ).set i (some (.v (.lst ds)))) with
    | .ok x _ => if safeC x = true then .ok x ρ else .stuck
    | .exn n _ => .exn n (ρ.set i (some (.v (.lst ds))))
    | .stuck => .stuck) else .stuck
  | _ => .stuck
theorem plainE_at : ∀ {ρ : Env} {i : Nat} {c : C}, plainE ρ = true → ρ[i]? = some (some c) → ∃ d, c = .v d
  | [], _, _, _, e => by simp at e
  | x :: ρ, 0, c, h, e => by
    simp at e; subst e
    unfold plainE at h
    rw [Bool.and_eq_true] at h
    cases c with
    | v d => exact ⟨d, rfl⟩
    | _ => exact absurd h.1 (by simp [plainC])
  | x :: ρ, i + 1, c, h, e => by
    unfold plainE at h
    rw [Bool.and_eq_true] at h
    exact plainE_at h.2 (by simpa using e)
section
variable {X : Cx} {κ : String → Addr} {W : WX} {K : PySem.W.Frag}
theorem Rz.flat {H H' : Hp} {d : D} {v : V} (hd : flatD d = true) (h : Rz K κ H d v) : Rz K κ H' d v := by
  cases d with
  | non => unfold Rz at h ⊢; exact h
  | bl b => unfold Rz at h ⊢; exact h
  | int b => unfold Rz at h ⊢; exact h
  | str b => unfold Rz at h ⊢; exact h
  | ty b => unfold Rz at h ⊢; exact h
  | _ => cases hd
theorem Rzs.flat {H H' : Hp} : ∀ {ds : List D} {vs : List V}, flatDs ds = true → Rzs K κ H ds vs → Rzs K κ H' ds vs
  | [], _, _, h => by unfold Rzs at h; subst h; exact Rzs.nil
  | d :: ds, _, hd, h => by
    unfold flatDs at hd
    rw [Bool.and_eq_true] at hd
    unfold Rzs at h
    obtain ⟨v, r, rfl, h1, h2⟩ := h
    exact Rzs.cons (h1.flat hd.1) (Rzs.flat hd.2 h2)
theorem Rz.safe {H : Hp} {a : Addr} {od : Obj} {vs : List V} {d : D} {v : V} (hd : safeD d = true) (h : Rz K κ H d v) (ha : H a = some (.frz od (.lst vs))) (o : HO) : Rz K κ (upd H a o) d v := by
  cases d with
  | tup ds =>
    unfold Rz at h ⊢
    obtain ⟨b, us, rfl, hs, rz⟩ := h
    refine ⟨b, us, rfl, ?_, rz.flat hd⟩
    obtain ⟨o', hs, hdict⟩ := hs
    have nb : b ≠ a := fun e => by rw [e, ha] at hs; cases hs
    exact ⟨o', by rw [upd_ne nb]; exact hs, hdict⟩
  | non => exact h.flat hd
  | bl b => exact h.flat hd
  | int b => exact h.flat hd
  | str b => exact h.flat hd
  | ty b => exact h.flat hd
  | _ => cases hd
theorem loan_in {pins : List (Addr × Obj)} {σ : L2.St} {s : Shared} {H : Hp} {ρ : Env} {O : Nat → List Addr} {w : List Nat} {i : Nat} {ds : List D} (F : Fr X.K κ H σ ρ O) (hi : ρ[i]? = some (some (.l ds))) (hp : plainE (wipeE (i :: w) ρ) = true) (I : Inv X pins σ H s) :
    ∃ a vs od, O i = [a] ∧ H a = some (.lst vs) ∧ Inv X pins σ (upd H a (.frz od (.lst vs))) s ∧ (∀ o' u', X.H_0 a ≠ some (.frz o' u')) ∧ Fr X.K κ (upd H a (.frz od (.lst vs))) σ ((wipeE w ρ).set i (some (.v (.lst ds)))) (fun _ => []) := by
  obtain ⟨u, eu, a, vs, rfl, hO, ha, rz⟩ := F.cv i _ hi
  obtain ⟨od, I1⟩ := I.lock ha trivial
  have sb1 : Sb H (upd H a (.frz od (.lst vs))) := fun b o e st => by
    by_cases hb : b = a
    · subst hb; rw [ha] at e; cases e; exact st.elim
    · rw [upd_ne hb]; exact e
  refine ⟨a, vs, od, hO, ha, I1, I.nofrz ha trivial, ?_⟩
  have hl : i < (wipeE w ρ).length := by rw [wipeE_length]; exact (List.getElem?_eq_some_iff.mp hi).1
  refine ⟨by rw [List.length_set, wipeE_length, F.len], fun j c e => ?_, fun _ _ => rfl, fun _ _ _ h => by simp at h⟩
  by_cases hj : j = i
  · subst hj
    rw [List.getElem?_set_self hl] at e
    cases e
    refine ⟨_, eu, rfl, ?_⟩
    unfold Rz
    exact ⟨a, vs, rfl, .inl ⟨od, upd_same⟩, Rzs.st sb1 _ _ rz⟩
  · rw [List.getElem?_set_ne (Ne.symm hj)] at e
    by_cases hw : j ∈ w
    · exact absurd e (wipeE_in hw c)
    · have e1 : (wipeE (i :: w) ρ)[j]? = some (some c) := by
        rw [wipeE_out (by simp; exact ⟨hj, hw⟩), ← wipeE_out hw]; exact e
      obtain ⟨d, rfl⟩ := plainE_at hp e1
      rw [wipeE_out hw] at e
      obtain ⟨v, ev, r1⟩ := F.cv j _ e
      exact ⟨v, ev, rfl, Rz.st sb1 _ _ r1.2⟩
theorem loan_out {σ : L2.St} {H H1 : Hp} {ρ : Env} {O O1 : Nat → List Addr} {i : Nat} {ds : List D} {a : Addr} {vs : List V} {od : Obj} {x : C} {v : V} {ov : List Addr} (F : Fr K κ H σ ρ O) (hO : O i = [a]) (ha : H a = some (.lst vs))
    (r1 : RC K κ H1 x v ov) (n1 : Nx (upd H a (.frz od (.lst vs))) H1 (fun _ => []) O1 ov) (hs : safeC x = true) :
    H1 a = some (.frz od (.lst vs)) ∧ Fr K κ (upd H1 a (.lst vs)) σ ρ O ∧ RC K κ (upd H1 a (.lst vs)) x v ov ∧ (∀ b ∈ ov, ∀ j, b ∉ O j) ∧ Nx H (upd H1 a (.lst vs)) O O ov := by
  have e1 : H1 a = some (.frz od (.lst vs)) := n1.gw a _ upd_same (.inl trivial)
  have keep : ∀ b o, b ≠ a → H b = some o → H1 b = some o := fun b o hb e => n1.gw b o (by rw [upd_ne hb]; exact e) (.inr fun _ h => by simp at h)
  have keep3 : ∀ b o, H b = some o → upd H1 a (.lst vs) b = some o := fun b o e => by
    by_cases hb : b = a
    · subst hb; rw [upd_same, ← ha]; exact e
    · rw [upd_ne hb]; exact keep b o hb e
  have fresh : ∀ b ∈ ov, H b = none ∧ b ≠ a := fun b hb => by
    rcases n1.nw b (.inl hb) with ⟨k, hk⟩ | z
    · simp at hk
    · by_cases q : b = a
      · subst q; rw [upd_same] at z; cases z
      · rw [upd_ne q] at z; exact ⟨z, q⟩
  refine ⟨e1, ⟨F.len, fun j c e => ?_, F.em, F.dj⟩, ?_, fun b hb j hj => ?_, fun b o e _ => keep3 b o e, fun b hb => ?_⟩
  · obtain ⟨u, e2, rc⟩ := F.cv j c e
    refine ⟨u, e2, rc.st (fun b o e _ => keep3 b o e) fun b hb => ?_⟩
    obtain ⟨o, eo, _⟩ := rc.own b hb
    rw [eo]; exact keep3 b o eo
  · cases x with
    | v d => exact ⟨r1.1, r1.2.safe hs e1 _⟩
    | l es =>
      obtain ⟨b, us, e2, rfl, h1, h2⟩ := r1
      have nb := (fresh b (by simp)).2
      exact ⟨b, us, e2, rfl, by rw [upd_ne nb]; exact h1, h2.flat hs⟩
    | ll _ => cases hs
    | dc _ => cases hs
  · obtain ⟨o, eo, _⟩ := F.own hj
    rw [(fresh b hb).1] at eo; cases eo
  · rcases hb with hb | hb
    · exact .inr (fresh b hb).1
    · exact .inl hb
theorem loan_exn {σ : L2.St} {H H1 : Hp} {ρ : Env} {O O1 : Nat → List Addr} {i : Nat} {ds : List D} {a : Addr} {vs : List V} {od : Obj} (F : Fr K κ H σ ρ O) (hi : ρ[i]? = some (some (.l ds))) (hO : O i = [a]) (ha : H a = some (.lst vs))
    (n1 : Nx (upd H a (.frz od (.lst vs))) H1 (fun _ => []) O1 []) :
    Fr K κ H1 σ (ρ.set i (some (.v (.lst ds)))) (fun j => if j = i then [] else O j) ∧ Nx H H1 O (fun j => if j = i then [] else O j) [] := by
  have keep : ∀ b o, b ≠ a → H b = some o → H1 b = some o := fun b o hb e => n1.gw b o (by rw [upd_ne hb]; exact e) (.inr fun _ h => by simp at h)
  have ea : H1 a = some (.frz od (.lst vs)) := n1.gw a _ upd_same (.inl trivial)
  have sb : Sb H H1 := fun b o e st => by
    by_cases hb : b = a
    · subst hb; rw [ha] at e; cases e; exact st.elim
    · exact keep b o hb e
  have hl : i < ρ.length := (List.getElem?_eq_some_iff.mp hi).1
  have ne : ∀ j, j ≠ i → ∀ b ∈ O j, b ≠ a := fun j hj b hb q => hj (F.dj j i b hb (by rw [hO, q]; simp))
  refine ⟨⟨by rw [List.length_set]; exact F.len, fun j c e => ?_, fun j h => ?_, fun j k b h1 h2 => ?_⟩, fun b o e st => ?_, fun b hb => ?_⟩
  · by_cases hj : j = i
    · subst hj
      rw [List.getElem?_set_self hl] at e
      cases e
      obtain ⟨u, eu, a', vs', rfl, hO', ha', rz⟩ := F.cv j _ hi
      rw [hO] at hO'
      injection hO' with hO' _
      subst hO'
      rw [ha] at ha'
      cases ha'
      refine ⟨_, eu, by rw [if_pos rfl], ?_⟩
      unfold Rz
      exact ⟨a, vs, rfl, .inl ⟨od, ea⟩, Rzs.st sb _ _ rz⟩
    · rw [List.getElem?_set_ne (Ne.symm hj)] at e
      obtain ⟨u, e2, rc⟩ := F.cv j c e
      refine ⟨u, e2, ?_⟩
      rw [if_neg hj]
      refine rc.st sb fun b hb => ?_
      obtain ⟨o, eo, _⟩ := rc.own b hb
      rw [eo]; exact keep b o (ne j hj b hb) eo
  · by_cases hj : j = i
    · subst hj; rw [if_pos rfl]
    · rw [if_neg hj]
      exact F.em j fun c' e => h c' (by rw [List.getElem?_set_ne (Ne.symm hj)]; exact e)
  · split at h1
    · simp at h1
    · split at h2
      · simp at h2
      · exact F.dj j k b h1 h2
  · by_cases hb : b = a
    · subst hb
      rcases st with st | st
      · rw [ha] at e; cases e; exact st.elim
      · exact (st i (by rw [hO]; simp)).elim
    · exact keep b o hb e
  · rcases hb with hb | ⟨j, hj⟩
    · simp at hb
    · split at hj
      · simp at hj
      · exact .inl ⟨j, hj⟩
theorem de_loan {e : Expr} {c : Env → R C} (w : List Nat) (i : Nat) (he : DE X κ W e c) : DE X κ W e (cLoan w i c) := by
  intro σ ρ H O Q F h pins s I
  unfold cLoan at h
  split at h
  · rename_i ds hi
    split at h
    · rename_i hp
      obtain ⟨a, vs, od, hO, ha, I1, hn, F1⟩ := loan_in F hi hp I
      cases e1 : c ((wipeE w ρ).set i (some (.v (.lst ds)))) with
      | stuck => rw [e1] at h; exact h.elim
      | exn n ρ' =>
        rw [e1] at h
        refine thn (he σ _ _ _ (fun _ _ => False) F1 (by
          rw [e1]
          intro H1 O1 F2 n1
          obtain ⟨F3, n3⟩ := loan_exn F hi hO ha n1
          exact h H1 _ F3 n3) pins s I1) fun u s' ⟨v, H1, I2, ru, z⟩ => z.elim
      | ok x ρ' =>
        rw [e1] at h
        dsimp only at h
        split at h
        · rename_i hs
          refine thn (he σ _ _ _ (fun v H1 => ∃ O1 ov, RC X.K κ H1 x v ov ∧ Nx (upd H a (.frz od (.lst vs))) H1 (fun _ => []) O1 ov) F1 (by rw [e1]; exact fun v H1 O1 ov _ r1 _ n1 => ⟨O1, ov, r1, n1⟩) pins s I1) fun u s' ⟨v, H1, I2, ru, O1, ov, r1, n1⟩ => ?_
          obtain ⟨ea, F3, r3, d3, n3⟩ := loan_out (ds := ds) F hO ha r1 n1 hs
          exact ⟨v, _, I2.unlock ea hn, ru, h v _ O ov F3 r3 d3 n3⟩
        · exact h.elim
    · exact h.elim
  · exact h.elim
/-- x = [..] on one line, over a lent list -/
theorem ds_setCloan {kp : List Nat} {i : Nat} {y : Str} {py : Pos} {tg iter elt : Expr} {ifs : List Expr} {scope : Scope} {own : List (Str × Nat)} {pos spos : Pos} {t : Tg} {ci : Env → R (List D)} {ct : Env → R Bool} {ce : Env → R C} (w : List Nat) (k : Nat) (hc : X.calm = true) (hN : X.N.Nodup) (hi : DI X κ W tg iter ci) (ok : BlkOk X.N X.env.scope scope own)
    (hg : ∀ (s : Shared) (H : Hp) (C : Addr) (cl : List (Str × Addr)) (fp : List Addr), DG (X.blk s H scope (compEnvC scope cl C X.env) fp) κ tg t)
    (ht : ∀ (s : Shared) (H : Hp) (C : Addr) (cl : List (Str × Addr)) (fp : List Addr), DTs (X.blk s H scope (compEnvC scope cl C X.env) fp) κ ifs ct)
    (he : ∀ (s : Shared) (H : Hp) (C : Addr) (cl : List (Str × Addr)) (fp : List Addr), DE (X.blk s H scope (compEnvC scope cl C X.env) fp) κ W0 elt ce)
    (hk : ∀ i ∈ t.slots, i ∈ own.map (·.2) := by decide) (hy : X.N[i]? = some y := by rfl) (hyl : X.env.scope.names.lookup y = some .local := by rfl) (hkp : i ∉ kp := by decide)
    (hsw : swapsWith (.ListComp elt [⟨tg, iter, ifs, 0⟩] scope pos) (some (.Name y py)) spos.line X.env = pure true := by rfl) (hs : ∀ x, foldedSetIterable iter X.env x = pure x := by intro _; rfl) :
    DS X κ W kp (.Assign [.Name y py] (.ListComp elt [⟨tg, iter, ifs, 0⟩] scope pos) spos) (sSet (.nm i) (cLoan w k (cComp (own.map (·.2)) t ci ct ce))) := by
  intro σ ρ H O D F h pins s I
  have g : PsE X κ W σ H O (fun v H1 => D.nx (σ.set i (some v)) H1) (cLoan w k (cComp (own.map (·.2)) t ci ct ce) ρ) := by
    refine PsS_set h (fun x ρ1 ρ2 v H1 O1 ov F1 r1 d1 e2 q => ?_) (fun (j : Nat) (hj : j ∈ (Tg.nm i).slots) => by simp [Tg.slots] at hj; subst hj; exact hkp)
    unfold Tg.put at e2
    split at e2
    · rename_i hl
      cases e2
      exact F1.bind hl r1 d1 q
    · cases e2
  unfold cLoan at g
  split at g
  · rename_i ds hi'
    split at g
    · rename_i hp
      obtain ⟨a, vs, od, hO, ha, I1, hn, F1⟩ := loan_in F hi' hp I
      cases e1 : cComp (own.map (·.2)) t ci ct ce ((wipeE w ρ).set k (some (.v (.lst ds)))) with
      | stuck => rw [e1] at g; exact g.elim
      | exn n ρ' =>
        rw [e1] at g
        have run := semS_of (ps_setLc (pos := pos) (wi := semI X tg iter) (g := gC X tg scope) (tt := ttC X ifs scope) (te := teC X elt scope)
          hc hN hy hyl hsw (pi_sem X tg iter) ok (fun s H C cl fp => ⟨fun pins s σ H v u Q I r h => h _ _ _ _ _ pins s u I r⟩) (fun s H C cl fp => ⟨fun pins s σ H Q I h => h _ _ _ _ _ pins s I⟩) (fun s H C cl fp => ⟨fun pins s σ H Q I h => h _ _ _ _ _ pins s I⟩) hs)
          (D := { nx := fun σ' H1 => False, rt := fun _ _ => False })
          (comp_core hi hg ht he hk F1 (W := W) (O := fun _ => []) (by
            rw [e1]
            intro H1 O1 F2 n1
            obtain ⟨F3, n3⟩ := loan_exn F hi' hO ha n1
            exact g H1 _ F3 n3))
        refine thn (run pins s I1) fun f s' q => ?_
        cases f with
        | next => obtain ⟨_, _, _, z⟩ := q; exact z.elim
        | brk => obtain ⟨_, _, _, z⟩ := q; exact z.elim
        | cont => obtain ⟨_, _, _, z⟩ := q; exact z.elim
        | ret u => obtain ⟨_, _, _, _, _, z⟩ := q; exact z.elim
      | ok x ρ' =>
        rw [e1] at g
        dsimp only at g
        split at g
        · rename_i hs'
          have run := semS_of (ps_setLc (pos := pos) (wi := semI X tg iter) (g := gC X tg scope) (tt := ttC X ifs scope) (te := teC X elt scope)
            hc hN hy hyl hsw (pi_sem X tg iter) ok (fun s H C cl fp => ⟨fun pins s σ H v u Q I r h => h _ _ _ _ _ pins s u I r⟩) (fun s H C cl fp => ⟨fun pins s σ H Q I h => h _ _ _ _ _ pins s I⟩) (fun s H C cl fp => ⟨fun pins s σ H Q I h => h _ _ _ _ _ pins s I⟩) hs)
            (D := { nx := fun σ' H1 => ∃ v O1 ov, σ' = σ.set i (some v) ∧ RC X.K κ H1 x v ov ∧ Nx (upd H a (.frz od (.lst vs))) H1 (fun _ => []) O1 ov, rt := fun _ _ => False })
            (comp_core hi hg ht he hk F1 (W := W) (O := fun _ => []) (by rw [e1]; exact fun v H1 O1 ov _ r1 _ n1 => ⟨v, O1, ov, rfl, r1, n1⟩))
          refine thn (run pins s I1) fun f s' q => ?_
          cases f with
          | next =>
            obtain ⟨σ', H1, I2, v, O1, ov, rfl, r1, n1⟩ := q
            obtain ⟨ea, F3, r3, d3, n3⟩ := loan_out (ds := ds) F hO ha r1 n1 hs'
            exact ⟨_, _, I2.unlock ea hn, g v _ O ov F3 r3 d3 n3⟩
          | brk => obtain ⟨_, _, _, z⟩ := q; exact z.elim
          | cont => obtain ⟨_, _, _, z⟩ := q; exact z.elim
          | ret u => obtain ⟨_, _, _, _, _, z⟩ := q; exact z.elim
        · exact g.elim
    · exact g.elim
  · exact g.elim
end
section
variable {X : Cx} {κ : String → Addr} {W : WX} {kB : Nat} {kp : List Nat}
theorem dsb_setCloan (w : List Nat) (k : Nat) (B : Bd X W kB) {i : Nat} {y : Str} {py : Pos} {tg iter elt : Expr} {ifs : List Expr} {scope : Scope} {own : List (Str × Nat)} {pos spos : Pos} {t : Tg} {ci : Env → R (List D)} {ct : Env → R Bool} {ce : Env → R C} (hi : DI X κ W tg iter ci) (ok : BlkOk X.N X.env.scope scope own)
    (hg : ∀ (s : Shared) (H : Hp) (C : Addr) (cl : List (Str × Addr)) (fp : List Addr), DG (X.blk s H scope (compEnvC scope cl C X.env) fp) κ tg t)
    (ht : ∀ (s : Shared) (H : Hp) (C : Addr) (cl : List (Str × Addr)) (fp : List Addr), DTs (X.blk s H scope (compEnvC scope cl C X.env) fp) κ ifs ct)
    (he : ∀ (s : Shared) (H : Hp) (C : Addr) (cl : List (Str × Addr)) (fp : List Addr), DE (X.blk s H scope (compEnvC scope cl C X.env) fp) κ W0 elt ce)
    (hk : ∀ i ∈ t.slots, i ∈ own.map (·.2) := by decide) (hy : X.N[i]? = some y := by rfl) (hyl : X.env.scope.names.lookup y = some .local := by rfl) (hkp : i ∉ kp := by decide)
    (hsw : swapsWith (.ListComp elt [⟨tg, iter, ifs, 0⟩] scope pos) (some (.Name y py)) spos.line X.env = pure true := by rfl) (hs : ∀ x, foldedSetIterable iter X.env x = pure x := by intro _; rfl) :
    DS X κ W kp (.Assign [.Name y py] (.ListComp elt [⟨tg, iter, ifs, 0⟩] scope pos) spos) (sSet (.nm i) (cLoan w k (cComp (own.map (·.2)) t ci ct ce))) := ds_setCloan w k B.g.calm B.g.nd hi ok hg ht he hk hy hyl hkp hsw hs
end
end SW

set_option Elab.async false
set_option linter.all false
set_option maxRecDepth 100000
set_option maxHeartbeats 4000000
set_option autoImplicit false
/-! Sw22: zip of two tuples, of two lists. -/
namespace SW
open PySem PySem.Spec PyProof.Rows L2
def zipD : List D → List D → List D
  | x :: xs, y :: ys => .tup [x, y] :: zipD xs ys
  | _, _ => []
theorem zipD_length : ∀ (xs ys : List D), (zipD xs ys).length = min xs.length ys.length
  | [], ys => by simp [zipD]
  | x :: xs, [] => by simp [zipD]
  | x :: xs, y :: ys => by simp [zipD, zipD_length xs ys]
theorem zipD_get : ∀ {xs ys : List D} {i : Nat} {d : D}, (zipD xs ys)[i]? = some d → ∃ x y, xs[i]? = some x ∧ ys[i]? = some y ∧ d = .tup [x, y]
  | [], ys, i, d, e => by simp [zipD] at e
  | x :: xs, [], i, d, e => by simp [zipD] at e
  | x :: xs, y :: ys, 0, d, e => by
    simp [zipD] at e
    exact ⟨x, y, rfl, rfl, e.symm⟩
  | x :: xs, y :: ys, i + 1, d, e => by
    obtain ⟨a, b, h1, h2, h3⟩ := zipD_get (xs := xs) (ys := ys) (i := i) (by simpa [zipD] using e)
    exact ⟨a, b, by simpa using h1, by simpa using h2, h3⟩
def gZip : List C → Option (List D)
  | [.v (.tup xs), .v (.tup ys)] => some (zipD xs ys)
  | [.v (.lst xs), .v (.lst ys)] => some (zipD xs ys)
  | _ => none
def iZip (cl : Env → R (List C)) : Env → R (List D) := fun ρ => (cl ρ).bind fun cs ρ1 => match gZip cs with
  | some ds => .ok ds ρ1
  | none => .stuck
section
variable {X : Cx} {κ : String → Addr} {W : WX}
theorem pair_rz {K : PySem.W.Frag} {H : Hp} {T : Addr} {x y : V} {d e : D} {o : Obj} (hT : H T = none) (ho : o.dict = none) (rx : Rz K κ H d x) (ry : Rz K κ H e y) : Same H (upd H T (.frz o (.tup [x, y]))) ∧ Rz K κ (upd H T (.frz o (.tup [x, y]))) (.tup [d, e]) (.ref T) := by
  have sm : Same H (upd H T (.frz o (.tup [x, y]))) := same_upd hT
  refine ⟨sm, ?_⟩
  have sb := Sb.same sm
  unfold Rz
  exact ⟨T, [x, y], rfl, ⟨o, upd_same, ho⟩, Rzs.cons (Rz.st sb _ _ rx) (Rzs.cons (Rz.st sb _ _ ry) Rzs.nil)⟩
theorem itok_ZT {K : PySem.W.Frag} {H0 : Hp} {O0 : Nat → List Addr} {a b : Addr} {vs us : List V} {ds es : List D} (h : SqT K H0 a vs) (r : Rzs K κ H0 ds vs) (h' : SqT K H0 b us) (r' : Rzs K κ H0 es us) : ItOk K κ (ItT K a b) H0 O0 (zipD ds es) where
  go := fun H g i d e => by
    have sb : Sb H0 H := fun a o ea s => g a o ea (.inl s)
    obtain ⟨x, y, ex, ey, rfl⟩ := zipD_get e
    obtain ⟨v, ev, rv⟩ := r.get ex
    obtain ⟨u, eu, ru⟩ := r'.get ey
    refine ⟨⟨vs, us, v, u, SqT_st sb h, SqT_st sb h', ev, eu⟩, fun z H' q => ?_⟩
    obtain ⟨T, p, q, o, rfl, ho, hT, rfl, hp, hq⟩ := q
    have e1 := hp vs (SqT_st sb h)
    have e2 := hq us (SqT_st sb h')
    rw [ev] at e1; cases e1
    rw [eu] at e2; cases e2
    exact pair_rz hT ho (Rz.st sb _ _ rv) (Rz.st sb _ _ ru)
  stop := fun H g => by
    have sb : Sb H0 H := fun a o ea s => g a o ea (.inl s)
    refine ⟨vs, us, SqT_st sb h, SqT_st sb h', ?_⟩
    rw [zipD_length, ← r.length, ← r'.length]; omega
theorem itok_ZL {K : PySem.W.Frag} {H0 : Hp} {O0 : Nat → List Addr} {a b : Addr} {vs us : List V} {ds es : List D} (h : SqF K H0 a vs) (r : Rzs K κ H0 ds vs) (h' : SqF K H0 b us) (r' : Rzs K κ H0 es us) : ItOk K κ (ItL K a b) H0 O0 (zipD ds es) where
  go := fun H g i d e => by
    have sb : Sb H0 H := fun a o ea s => g a o ea (.inl s)
    obtain ⟨x, y, ex, ey, rfl⟩ := zipD_get e
    obtain ⟨v, ev, rv⟩ := r.get ex
    obtain ⟨u, eu, ru⟩ := r'.get ey
    refine ⟨⟨vs, us, v, u, (h.st sb).sql, (h'.st sb).sql, ev, eu⟩, fun z H' q => ?_⟩
    obtain ⟨T, p, q, o, rfl, ho, hT, rfl, hp, hq⟩ := q
    have e1 := hp vs (h.st sb).sql
    have e2 := hq us (h'.st sb).sql
    rw [ev] at e1; cases e1
    rw [eu] at e2; cases e2
    exact pair_rz hT ho (Rz.st sb _ _ rv) (Rz.st sb _ _ ru)
  stop := fun H g => by
    have sb : Sb H0 H := fun a o ea s => g a o ea (.inl s)
    refine ⟨vs, us, (h.st sb).sql, (h'.st sb).sql, ?_⟩
    rw [zipD_length, ← r.length, ← r'.length]; omega
theorem di_zip {a b : Expr} {p pos tpos : Pos} {elts : List Expr} {kk : Nat} {cl : Env → R (List C)} (hm : X.mg "zip" = none) (hl : DL X κ W [a, b] cl) (hg : Gl X "zip" := by rfl) (hs : noStar a = true := by rfl) (hs2 : noStar b = true := by rfl) :
    DI X κ W (.Tuple elts kk tpos) (.Call (.Name "zip" p) [a, b] [] pos) (iZip cl) := by
  intro σ ρ H O Rq F h
  refine semI_of (pi_pairs hg hm (pa_semB (es := [a, b]) (by simp [hs, hs2])) (by rw [starEach_of hs, starEach_of hs2]) (by rw [starEach_of hs2]; rfl)) (hl σ ρ H O _ F ?_)
  unfold iZip at h
  cases h1 : cl ρ with
  | stuck => rw [h1] at h; exact h
  | exn n ρ1 => rw [h1] at h; exact h
  | ok cs ρ1 =>
    rw [h1, R.bind_ok] at h
    intro vs H1 O1 F1 r1 n1
    split at h
    · rename_i ds hds
      unfold gZip at hds
      split at hds
      · cases hds
        obtain ⟨v, u, ov, ou, rfl, rc, rd⟩ := r1.two
        obtain ⟨a1, vs1, rfl, ha, ra⟩ := rc.tup (ds := _) rfl
        obtain ⟨b1, us1, rfl, hb, rb⟩ := rd.tup (ds := _) rfl
        exact ⟨a1, b1, vs1, us1, rfl, .inr ⟨ha, hb, h _ H1 O1 F1 n1 (itok_ZT ha ra hb rb)⟩⟩
      · cases hds
        obtain ⟨v, u, ov, ou, rfl, rc, rd⟩ := r1.two
        obtain ⟨_, rz⟩ := rc
        obtain ⟨_, rz2⟩ := rd
        unfold Rz at rz rz2
        obtain ⟨a1, vs1, rfl, ha, ra⟩ := rz
        obtain ⟨b1, us1, rfl, hb, rb⟩ := rz2
        exact ⟨a1, b1, vs1, us1, rfl, .inl ⟨ha.sql, hb.sql, h _ H1 O1 F1 n1 (itok_ZL ha ra hb rb)⟩⟩
      · cases hds
    · exact h.elim
end
end SW

set_option Elab.async false
set_option linter.all false
set_option maxRecDepth 100000
set_option maxHeartbeats 4000000
set_option autoImplicit false
/-! Sw23: isinstance of what may be an own list. -/
namespace SW
open PySem PySem.Spec PyProof.Rows L2
section
variable {X : Cx} {κ : String → Addr} {W : WX}
def gIsiC : List C → Option C
  | [.l _, .v (.ty n)] => match kitB "list" n with
    | some b => some (.v (.bl b))
    | none => none
  | cs => gIsi cs
theorem opn_isiC : OpN X κ (semC X (.builtin "isinstance")) gIsiC := by
  intro cs c vs H Q e rs k
  unfold gIsiC at e
  split at e
  · rename_i ds n
    split at e
    · rename_i b hb
      cases e
      obtain ⟨x, y, o1, o2, rfl, r1, r2⟩ := rs.two
      have hy : y = .ty n := by have := r2.2; unfold Rz at this; exact this
      subst hy
      obtain ⟨a, zs, rfl, rfl, ha, rz⟩ := r1
      exact semC_of call_isi ⟨.ref a, .ty n, .type "list", .type n, b, rfl, .ty n, .base (.lst ha), kit_ty hb, kbl k⟩
    · cases e
  · exact opn_isi _ c vs H Q e rs k
end
end SW

set_option Elab.async false
set_option linter.all false
set_option maxRecDepth 100000
set_option maxHeartbeats 4000000
set_option autoImplicit false
/-! Sw24: except without a name. -/
namespace SW
open PySem PySem.Spec PyProof.Rows L2
/-- try body, except X: the error is forgotten -/
def sTryO (caught : String → Option Bool) (cb cs : Env → R Fl) : Env → R Fl := fun ρ => match cb ρ with
  | .exn n ρ1 => match caught n with
    | some true => (match cs ρ1 with
      | .ok f ρ2 => .ok f ρ2
      | _ => .stuck)
    | some false => .exn n ρ1
    | none => .stuck
  | r => r
section
variable {X : Cx} {κ : String → Addr} {W : WX} {kp : List Nat} {kB : Nat}
theorem dsb_tryO (B : Bd X W kB) {x : Str} {c : Value} {body suite : List Stmt} {b₀ : Stmt} {np pos pos' : Pos} {caught : String → Option Bool} {cb cs : Env → R Fl}
    (hq : ∀ m b, caught m = some b → PySem.W.exmOne X.K (.ref (κ m)) c = some b) (hc : Names X x c)
    (hb : ∀ (W' : WX) (pn : List (Addr × Obj)) (xe : Value → Shared → Prop), Bd (X.tr pn xe) W' kB → DSs (X.tr pn xe) κ W' kp body cb)
    (hsu : ∀ (a : Addr) (pn : List (Addr × Obj)), DSs (X.suite a pn) κ W0 kp (b₀ :: suite) cs)
    (hs : X.stack = X.env :: X.outer := by rfl) (hf : X.env.frame = some X.env.locals := by rfl) :
    DS X κ W kp (.Try body [.ExceptHandler (some (.Name x np)) none (b₀ :: suite) pos'] [] [] pos) (sTryO caught cb cs) := by
  intro σ ρ H O D F h
  refine semS_of (ps_try_only (tb := fun W' D σ H => ∀ pn xe, Takes (X.tr pn xe) W' → PassesOwn (model X.prog X.w) X.A X.env xe → semSs (X.tr pn xe) body D σ H) (ts := fun a cls d D σ H => ∀ pn, semSs (X.suite a pn) (b₀ :: suite) D σ H)
    hs hf hc B.tk (fun W' pn xe tk po => ⟨fun pins s σ H D I q => q pn xe tk po pins s I⟩) fun a oe cls d pn _ _ => ⟨fun pins s σ H D I q => q _ pins s I⟩) ?_
  intro pn xe tk po
  refine hb _ pn xe ⟨⟨B.g.calm, B.g.un, B.g.nd⟩, tk, po, B.rm⟩ σ ρ H O D F ?_
  unfold sTryO at h
  match e : cb ρ with
  | .ok .nx ρ1 => rw [e] at h; exact h
  | .ok (.rt v) ρ1 => rw [e] at h; exact h
  | .stuck => rw [e] at h; exact h
  | .exn m ρ1 =>
    rw [e] at h
    dsimp only at h
    intro σ1 H1 O1 F1 k1 n1
    match eq : caught m with
    | none => rw [eq] at h; exact h.elim
    | some false =>
      rw [eq] at h
      exact ⟨false, hq m false eq, (fun z => by cases z), fun _ => h σ1 H1 O1 F1 k1 n1⟩
    | some true =>
      rw [eq] at h
      refine ⟨true, hq m true eq, fun _ a na pn' => ?_, fun z => by cases z⟩
      dsimp only at h
      refine hsu a pn' _ _ _ _ _ F1 ?_
      match ec : cs ρ1 with
      | .ok .nx ρ2 =>
        rw [ec] at h
        exact fun σ2 H2 O2 F3 k3 n3 => h σ2 H2 O2 F3 (k1.trans k3) (n1.trans n3)
      | .ok (.rt v) ρ2 =>
        rw [ec] at h
        exact fun u σ2 H2 O2 ov F3 r3 d3 k3 n3 => h u σ2 H2 O2 ov F3 r3 d3 (k1.trans k3) (n1.trans n3)
      | .exn m2 ρ2 => rw [ec] at h; exact h.elim
      | .stuck => rw [ec] at h; exact h.elim
end
end SW

set_option Elab.async false
set_option linter.all false
set_option maxRecDepth 100000
set_option maxHeartbeats 4000000
set_option autoImplicit false
/-! Sw25: dicts of one's own, with keys of numbers and tuples of these. -/
namespace SW
open PySem PySem.Spec PyProof.Rows L2
mutual
/-- such a key's hash is no world's -/
theorem hash_any (w w' : World) : ∀ (d : D) (k : NestedKey), dKey d = some k → k.hash w = k.hash w'
  | .non, k, e => by cases e; rfl
  | .int i, k, e => by cases e; rfl
  | .tup ds, k, e => by
    unfold dKey at e
    split at e
    · rename_i ks hk
      cases e
      show reduceHash _ = reduceHash _
      rw [hashes_any w w' ds ks hk]
    · cases e
  | .bl _, k, e => by cases e
  | .str _, k, e => by cases e
  | .ty _, k, e => by cases e
  | .cls _, k, e => by cases e
  | .exc _, k, e => by cases e
  | .lst _, k, e => by cases e
theorem hashes_any (w w' : World) : ∀ (ds : List D) (ks : List NestedKey), dKeys ds = some ks → NestedKey.hashes w ks = NestedKey.hashes w' ks
  | [], ks, e => by cases e; rfl
  | d :: ds, ks, e => by
    unfold dKeys at e
    split at e
    · rename_i k ks' h1 h2
      cases e
      show k.hash w :: NestedKey.hashes w ks' = k.hash w' :: NestedKey.hashes w' ks'
      rw [hash_any w w' d k h1, hashes_any w w' ds ks' h2]
    · cases e
end
section
variable {X : Cx} {κ : String → Addr} {W : WX}
mutual
theorem nested_of {pins : List (Addr × Obj)} {σ : L2.St} {H : Hp} {s : Shared} (I : Inv X pins σ H s) : ∀ (d : D) (k : NestedKey) (v : V) (u : Value), dKey d = some k → Rz X.K κ H d v → RelV v u → NestedIs s.heap k u
  | .non, k, v, u, e, r, ru => by
    cases e; unfold Rz at r; subst r; cases ru; exact .none
  | .int i, k, v, u, e, r, ru => by
    cases e; unfold Rz at r; subst r
    obtain ⟨t, rfl⟩ := ru
    exact .int i t
  | .tup ds, k, v, u, e, r, ru => by
    unfold dKey at e
    split at e
    · rename_i ks hk
      cases e
      unfold Rz at r
      obtain ⟨a, vs, rfl, hs, rz⟩ := r
      cases ru
      obtain ⟨us, rv, ⟨o, ho, hc, m, hd⟩, _⟩ := I.tuple hs.sqt
      exact .tup ho hc hd (by
        have := nesteds_of I ds ks vs us hk rz rv
        simpa using this)
    · cases e
  | .bl _, k, _, _, e, _, _ => by cases e
  | .str _, k, _, _, e, _, _ => by cases e
  | .ty _, k, _, _, e, _, _ => by cases e
  | .cls _, k, _, _, e, _, _ => by cases e
  | .exc _, k, _, _, e, _, _ => by cases e
  | .lst _, k, _, _, e, _, _ => by cases e
theorem nesteds_of {pins : List (Addr × Obj)} {σ : L2.St} {H : Hp} {s : Shared} (I : Inv X pins σ H s) : ∀ (ds : List D) (ks : List NestedKey) (vs : List V) (us : List Value), dKeys ds = some ks → Rzs X.K κ H ds vs → Vals vs us → NestedAll s.heap ks us
  | [], ks, vs, us, e, r, ru => by
    cases e; unfold Rzs at r; subst r; cases ru; exact .nil
  | d :: ds, ks, vs, us, e, r, ru => by
    unfold dKeys at e
    split at e
    · rename_i k ks' h1 h2
      cases e
      unfold Rzs at r
      obtain ⟨v, vs', rfl, r1, r2⟩ := r
      cases ru with
      | cons q1 q2 => exact .cons (nested_of I d k v _ h1 r1 q1) (nesteds_of I ds ks' vs' _ h2 r2 q2)
    · cases e
end
def ez (xs : List (NestedKey × Addr × V)) (us : List Value) : List (NestedKey × Addr × Value) := List.zipWith (fun x u => (x.1, x.2.1, u)) xs us
theorem ez_keys : ∀ {xs : List (NestedKey × Addr × V)} {us : List Value}, xs.length = us.length → (ez xs us).map (fun x => x.1) = xs.map fun x => x.1
  | [], [], _ => rfl
  | [], _ :: _, h => by simp at h
  | _ :: _, [], h => by simp at h
  | x :: xs, u :: us, h => by
    have := ez_keys (xs := xs) (us := us) (by simpa using h)
    simp only [ez, List.zipWith_cons_cons, List.map_cons] at this ⊢
    rw [this]
theorem RDs.mem {K : PySem.W.Frag} {H : Hp} : ∀ {kvs : List (D × D)} {xs : List (NestedKey × Addr × V)}, RDs K κ H kvs xs → ∀ x ∈ xs, ∃ d, dKey d = some x.1 ∧ x.1.depth ≤ 8 ∧ Rz K κ H d (.ref x.2.1)
  | [], _, h, x, hx => by unfold RDs at h; subst h; simp at hx
  | kv :: r, _, h, x, hx => by
    unfold RDs at h
    obtain ⟨y, xs', rfl, h1, h2, h3, h4⟩ := h
    rcases List.mem_cons.mp hx with rfl | hx
    · exact ⟨kv.1, h1.1, h1.2, h2⟩
    · exact RDs.mem h4 x hx
theorem ez_mem {xs : List (NestedKey × Addr × V)} {us : List Value} {y : NestedKey × Addr × Value} (h : y ∈ ez xs us) : ∃ x ∈ xs, x.1 = y.1 ∧ x.2.1 = y.2.1 := by
  unfold ez at h
  induction xs generalizing us with
  | nil => simp at h
  | cons x xs ih =>
    cases us with
    | nil => simp at h
    | cons u us =>
      rw [List.zipWith_cons_cons] at h
      rcases List.mem_cons.mp h with rfl | h
      · exact ⟨x, by simp, rfl, rfl⟩
      · obtain ⟨z, hz, e⟩ := ih h
        exact ⟨z, by simp [hz], e⟩
/-- the dict as the library tells it -/
theorem dict_of {pins : List (Addr × Obj)} {σ : L2.St} {H : Hp} {s : Shared} {a : Addr} {kvs : List (D × D)} (I : Inv X pins σ H s) (h : DcR X.K κ H kvs a) :
    ∃ xs us, H a = some (.ext (RawD a xs)) ∧ (a == sysModules) = false ∧ (xs.map fun x => x.1).Nodup ∧ RDs X.K κ H kvs xs ∧ Vals (xs.map fun x => x.2.2) us ∧ s.heap.DictOfH (nestedKind X.prog X.w) a (ez xs us) := by
  obtain ⟨xs, h1, h2, h3, h4⟩ := h
  obtain ⟨⟨o, es, ep, us, g1, g2, g3, g4, g5⟩, _, _⟩ := I.hok a _ h1
  have hl : xs.length = us.length := by simpa using g4.length
  refine ⟨xs, us, h1, h2, h3, h4, g4, o, es, ep, g1, g2, g3, ?_, fun y hy => ?_, by rw [ez_keys hl]; exact h3⟩
  · rw [g5 X.w]
    unfold ez
    rw [List.map_zipWith]
    rfl
  · obtain ⟨x, hx, e1, e2⟩ := ez_mem hy
    obtain ⟨d, q1, q2, q3⟩ := h4.mem x hx
    refine ⟨?_, by rw [← e1]; exact q2⟩
    rw [← e1, ← e2]
    exact nested_of I d x.1 (.ref x.2.1) (.ref x.2.1) q1 q3 rfl
/-! ### reading -/
def dFind (kvs : List (D × D)) (k : NestedKey) : Option D := (kvs.find? fun kv => dKey kv.1 == some k).map fun kv => kv.2
theorem find_rel {H : Hp} {k : NestedKey} : ∀ {kvs : List (D × D)} {xs : List (NestedKey × Addr × V)} {us : List Value}, RDs X.K κ H kvs xs → Vals (xs.map fun x => x.2.2) us →
    match dFind kvs k, atKey (ez xs us) k with
    | none, none => True
    | some d, some p => ∃ v, Rz X.K κ H d v ∧ RelV v p.2
    | _, _ => False
  | [], xs, us, h, r => by
    unfold RDs at h; subst h
    cases r
    simp [dFind, atKey, ez]
  | kv :: rest, xs, us, h, r => by
    unfold RDs at h
    obtain ⟨x, xs', rfl, h1, h2, h3, h4⟩ := h
    cases r with
    | cons r1 r2 =>
      rename_i u us'
      have ih := find_rel (k := k) h4 r2
      by_cases e : x.1 = k
      · have e1 : (dKey kv.1 == some k) = true := by rw [h1.1, e]; simp
        simp only [dFind, List.find?_cons, e1, atKey, ez, List.zipWith_cons_cons, e, decide_true, Option.map_some]
        exact ⟨_, h3, r1⟩
      · have e1 : (dKey kv.1 == some k) = false := by rw [h1.1]; simpa using e
        have e2 : decide (x.1 = k) = false := by simpa using e
        simp only [dFind, List.find?_cons, e1, atKey, ez, List.zipWith_cons_cons, e2]
        simpa only [dFind, atKey, ez] using ih
/-! ### d[k] = v -/
def dPut (kvs : List (D × D)) (k : D) (kk : NestedKey) (d : D) : List (D × D) :=
  if (dFind kvs kk).isSome then kvs.map (fun kv => if dKey kv.1 == some kk then (kv.1, d) else kv) else kvs ++ [(k, d)]
def gDPut : C → D → D → Option C
  | .dc kvs, .tup ds, d => match dKey (.tup ds) with
    | some kk => if kk.depth ≤ 8 ∧ kvs.length < sizeLine then some (.dc (dPut kvs (.tup ds) kk d)) else none
    | none => none
  | _, _, _ => none
theorem RDs.length {K : PySem.W.Frag} {H : Hp} : ∀ {kvs : List (D × D)} {xs : List (NestedKey × Addr × V)}, RDs K κ H kvs xs → kvs.length = xs.length
  | [], _, h => by unfold RDs at h; subst h; rfl
  | kv :: r, _, h => by
    unfold RDs at h
    obtain ⟨y, xs', rfl, _, _, _, h4⟩ := h
    simp [RDs.length h4]
theorem RDs.snoc {K : PySem.W.Frag} {H : Hp} {k d : D} {kk : NestedKey} {b : Addr} {dv : V} (h1 : dKey k = some kk ∧ kk.depth ≤ 8) (h2 : Rz K κ H k (.ref b)) (h3 : Rz K κ H d dv) : ∀ {kvs : List (D × D)} {xs : List (NestedKey × Addr × V)}, RDs K κ H kvs xs → RDs K κ H (kvs ++ [(k, d)]) (xs ++ [(kk, b, dv)])
  | [], _, h => by
    unfold RDs at h; subst h
    exact ⟨_, _, rfl, h1, h2, h3, rfl⟩
  | kv :: r, _, h => by
    unfold RDs at h
    obtain ⟨y, xs', rfl, g1, g2, g3, g4⟩ := h
    exact ⟨y, xs' ++ [(kk, b, dv)], rfl, g1, g2, g3, RDs.snoc h1 h2 h3 g4⟩
def vSet (kk : NestedKey) (dv : V) (x : NestedKey × Addr × V) : NestedKey × Addr × V := if x.1 = kk then (x.1, x.2.1, dv) else x
theorem RDs.over {K : PySem.W.Frag} {H : Hp} {d : D} {kk : NestedKey} {dv : V} (h3 : Rz K κ H d dv) : ∀ {kvs : List (D × D)} {xs : List (NestedKey × Addr × V)}, RDs K κ H kvs xs → RDs K κ H (kvs.map (fun kv => if dKey kv.1 == some kk then (kv.1, d) else kv)) (xs.map (vSet kk dv))
  | [], _, h => by
    unfold RDs at h; subst h
    exact rfl
  | kv :: r, _, h => by
    unfold RDs at h
    obtain ⟨y, xs', rfl, g1, g2, g3, g4⟩ := h
    have ih := RDs.over (kk := kk) h3 g4
    rw [List.map_cons, List.map_cons]
    unfold RDs
    by_cases e : y.1 = kk
    · have e1 : (dKey kv.1 == some kk) = true := by rw [g1.1, e]; simp
      refine ⟨_, _, rfl, ?_⟩
      rw [e1]
      unfold vSet
      rw [if_pos e]
      exact ⟨g1, g2, h3, ih⟩
    · have e1 : (dKey kv.1 == some kk) = false := by rw [g1.1]; simpa using e
      refine ⟨_, _, rfl, ?_⟩
      rw [e1]
      unfold vSet
      rw [if_neg e]
      exact ⟨g1, g2, g3, ih⟩
theorem ez_over {kk : NestedKey} {dv : V} {u : Value} (rv : RelV dv u) : ∀ {xs : List (NestedKey × Addr × V)} {us : List Value}, Vals (xs.map fun x => x.2.2) us → ∃ us2, Vals ((xs.map (vSet kk dv)).map fun x => x.2.2) us2 ∧ (ez xs us).map (putAt kk u) = ez (xs.map (vSet kk dv)) us2
  | [], us, r => by cases r; exact ⟨[], .nil, rfl⟩
  | x :: xs, us, r => by
    cases r with
    | cons r1 r2 =>
      rename_i w ws
      obtain ⟨us2, q1, q2⟩ := ez_over rv r2
      by_cases e : x.1 = kk
      · refine ⟨u :: us2, ?_, ?_⟩
        · rw [List.map_cons, List.map_cons]
          unfold vSet
          rw [if_pos e]
          exact .cons rv q1
        · simp only [ez, List.zipWith_cons_cons, List.map_cons] at q2 ⊢
          rw [q2]
          unfold putAt vSet
          rw [if_pos e]; simp [e]
      · refine ⟨w :: us2, ?_, ?_⟩
        · rw [List.map_cons, List.map_cons]
          unfold vSet
          rw [if_neg e]
          exact .cons r1 q1
        · simp only [ez, List.zipWith_cons_cons, List.map_cons] at q2 ⊢
          rw [q2]
          unfold putAt vSet
          rw [if_neg e]; simp [e]
theorem ez_snoc {kk : NestedKey} {b : Addr} {dv : V} {u : Value} : ∀ {xs : List (NestedKey × Addr × V)} {us : List Value}, xs.length = us.length → ez xs us ++ [(kk, b, u)] = ez (xs ++ [(kk, b, dv)]) (us ++ [u])
  | [], [], _ => rfl
  | [], _ :: _, h => by simp at h
  | _ :: _, [], h => by simp at h
  | x :: xs, w :: us, h => by
    have := ez_snoc (kk := kk) (b := b) (dv := dv) (u := u) (xs := xs) (us := us) (by simpa using h)
    simp only [ez, List.zipWith_cons_cons, List.cons_append] at this ⊢
    rw [this]
theorem raw_of {h : Heap} {a : Addr} {xs : List (NestedKey × Addr × V)} {us : List Value} (hm : h.DictOfH (nestedKind X.prog X.w) a (ez xs us)) (rv : Vals (xs.map fun x => x.2.2) us) (hk : ∀ x ∈ xs, ∃ d, dKey d = some x.1) : RawD a xs h ∧ (xs.map fun x => x.1).Nodup ∧ ∃ o, h.get? a = some o := by
  obtain ⟨o, es, ep, g1, g2, g3, g4, g5, g6⟩ := hm
  have hl : xs.length = us.length := by simpa using rv.length
  refine ⟨⟨o, es, ep, us, g1, g2, g3, rv, fun w => ?_⟩, by rw [ez_keys hl] at g6; exact g6, o, g1⟩
  rw [g4]
  unfold ez
  rw [List.map_zipWith]
  clear g4 g5 g6 rv hl
  induction xs generalizing us with
  | nil => rfl
  | cons x xs ih =>
    cases us with
    | nil => rfl
    | cons u us =>
      obtain ⟨d, hd⟩ := hk x (by simp)
      rw [List.zipWith_cons_cons, List.zipWith_cons_cons, ih fun y hy => hk y (by simp [hy])]
      have : (nestedKind X.prog X.w).hash x.1 = x.1.hash w := hash_any X.w w d x.1 hd
      unfold entryOfKey
      rw [this]
theorem sto_d (hX : Xg X) : StoN X κ gDPut := by
  intro c k d c' x kv dv ov H Q e r rk rd kq
  unfold gDPut at e
  split at e
  · rename_i kvs ds
    split at e
    · rename_i kk hkk
      split at e
      · rename_i hc
        cases e
        obtain ⟨a, rfl, rfl, hdc⟩ := r
        intro pins s σ o0 iv u I ro ri rv
        cases ro
        have rk' := rk
        unfold Rz at rk'
        obtain ⟨b, vs, rfl, _, _⟩ := rk'
        have nk := nested_of I _ kk _ iv hkk rk ri
        cases ri
        obtain ⟨xs, us, h1, h2, h3, h4, h5, hm⟩ := dict_of I hdc
        have hl : xs.length = us.length := by simpa using h5.length
        have room : (nestedKind X.prog X.w).room X.A.in1 := by
          have := hX.un
          show X.A.in1.units + 8 < cLine
          have e1 : X.A.in1.units ≤ X.A.units + 1 := by first | exact Nat.le_refl _ | simp [Around.in1]
          omega
        refine wpAny_setItem_heap (knd := nestedKind X.prog X.w) (k := kk) room ⟨nk, hc.1⟩ hm (fun h' hm' sb => ?_) (by
          have : (ez xs us).length = xs.length := by simp [ez, hl]
          rw [this, ← h4.length]; omega)
        have fr := find_rel (k := kk) h4 h5
        obtain ⟨xs2, us2, e2, r2, k2⟩ : ∃ xs2 us2, storedH (ez xs us) kk b u = ez xs2 us2 ∧ Vals (xs2.map fun x => x.2.2) us2 ∧ ∀ H', Sb H H' → RDs X.K κ H' (dPut kvs (.tup ds) kk d) xs2 := by
          unfold dPut
          cases ef : dFind kvs kk with
          | some d0 =>
            rw [ef] at fr
            cases eg : atKey (ez xs us) kk with
            | none => rw [eg] at fr; exact fr.elim
            | some p =>
              obtain ⟨us2, q1, q2⟩ := ez_over (kk := kk) rv h5
              exact ⟨xs.map (vSet kk dv), us2, by rw [storedH_old eg, q2], q1, fun H' sb' => (h4.st sb').over (Rz.st sb' _ _ rd)⟩
          | none =>
            rw [ef] at fr
            cases eg : atKey (ez xs us) kk with
            | some p => rw [eg] at fr; exact fr.elim
            | none =>
              exact ⟨xs ++ [(kk, b, dv)], us ++ [u], by rw [storedH_new eg, ez_snoc hl], by rw [List.map_append]; exact h5.append (.cons rv .nil), fun H' sb' => (h4.st sb').snoc ⟨hkk, hc.1⟩ (Rz.st sb' _ _ rk) (Rz.st sb' _ _ rd)⟩
        rw [e2] at hm'
        have kd := k2 H (Sb.refl H)
        obtain ⟨raw, nd, ob⟩ := raw_of hm' r2 fun y hy => by
          obtain ⟨d', q1, _⟩ := kd.mem y hy
          exact ⟨d', q1⟩
        have sbH : Sb H (upd H a (.ext (RawD a xs2))) := fun c o ec st => by
          by_cases hb : c = a
          · subst hb; rw [h1] at ec; cases ec; exact st.elim
          · rw [upd_ne hb]; exact ec
        have new : ObjOk X.prog X.w (upd H a (.ext (RawD a xs2))) h' a (.ext (RawD a xs2)) :=
          ⟨raw, ob, fun g1 g2 ⟨o, es, ep, us, q1, q2⟩ k => ⟨o, es, ep, us, k o q1, q2⟩⟩
        refine ⟨_, I.write (x := a) (e := a) (by rw [h1]; trivial) (.inl rfl) (fun c w hc' ec => (sb.2 c hc').trans ec) ob new, ?_⟩
        exact kq _ ⟨a, rfl, rfl, xs2, upd_same, h2, nd, k2 _ sbH⟩ fun c o ec nm => by
          rw [upd_ne (fun z => nm (by rw [z]; simp))]; exact ec
      · cases e
    · cases e
  · cases e
end
end SW

set_option Elab.async false
set_option linter.all false
set_option maxRecDepth 100000
set_option maxHeartbeats 4000000
set_option autoImplicit false
/-! Sw26: {}, d[k], d.get(k, x) for a slot's own dict. -/
namespace SW
open PySem PySem.Spec PyProof.Rows L2
section
variable {X : Cx} {κ : String → Addr} {W : WX}
/-! ### {} -/
def cDict0 : Env → R C := fun ρ => .ok (.dc []) ρ
theorem raw_new {P : Program} {w : World} {H : Hp} (h : Heap) : ObjOk P w H (h.push { cls := .type "dict", data := .dict #[] }) h.objs.size (.ext (RawD h.objs.size [])) :=
  ⟨⟨_, #[], 0, [], Heap.get?_push_size _ rfl, ⟨rfl, rfl, rfl⟩, rfl, .nil, fun _ => rfl⟩, ⟨_, Heap.get?_push_size _ rfl⟩, fun g1 g2 ⟨o, es, ep, us, q1, q2⟩ k => ⟨o, es, ep, us, k o q1, q2⟩⟩
theorem pe_dict0 {pos : Pos} : PE X (.Dict [] [] pos) (fun _ H Q => ∀ p, H p = none → (p == sysModules) = false → Q (.ref p) (upd H p (.ext (RawD p [])))) := ⟨fun pins s σ H Q I h =>
  wpAny_Dict_empty ⟨V.ref s.heap.objs.size, _, I.laid (a := s.heap.objs.size) (o := .ext (RawD s.heap.objs.size [])) (t' := s.toks) (fun _ _ q => Heap.get?_push_of_some _ q) (Nat.le_refl _) (raw_new s.heap), rfl,
    h _ (I.hok.fresh (Nat.le_refl _)) (beq_eq_false_iff_ne.mpr (Ne.symm (Nat.ne_of_lt I.big)))⟩⟩
theorem de_dict0 {pos : Pos} : DE X κ W (.Dict [] [] pos) cDict0 := by
  intro σ ρ H O Q F h
  refine sem_of pe_dict0 fun p hp hs => ?_
  have sm : Same H (upd H p (.ext (RawD p []))) := same_upd hp
  refine h (.ref p) _ O [p] (F.same sm) ⟨p, rfl, rfl, [], upd_same, hs, List.nodup_nil, rfl⟩ (fun a ha i hi => ?_) (Nx.same sm fun a ha => ?_)
  · have : a = p := by simpa using ha
    subst this
    obtain ⟨o, eo, _⟩ := F.own hi
    rw [hp] at eo; cases eo
  · have : a = p := by simpa using ha
    subst this; exact hp
/-! ### d[k] -/
theorem room_k (hX : Xg X) : (nestedKind X.prog X.w).room X.A.in1 := by
  have := hX.un
  show X.A.in1.units + 8 < cLine
  have e1 : X.A.in1.units ≤ X.A.units + 1 := by first | exact Nat.le_refl _ | simp [Around.in1]
  omega
def gDIx : List C → Option C
  | [.dc kvs, .v (.tup ds)] => match dKey (.tup ds) with
    | some kk => if kk.depth ≤ 8 then (match dFind kvs kk with
      | some d => some (.v d)
      | none => none) else none
    | none => none
  | _ => none
theorem opn_dix (hX : Xg X) : OpN X κ (sem2 (semIx X)) gDIx := by
  refine opn2 (fun c1 c2 c x y o1 o2 H Q e r1 r2 k => ?_) fun cs c e => ?_
  · unfold gDIx at e
    split at e
    · rename_i kvs ds heq
      injection heq with h1 h2
      injection h2 with h2 _
      subst h1 h2
      split at e
      · rename_i kk hkk
        split at e
        · rename_i hc
          split at e
          · rename_i d hd
            cases e
            obtain ⟨a, rfl, rfl, hdc⟩ := r1
            have rk := r2.2
            intro value slice pins s σ v u I rx ry hs
            cases rx
            have rk' := rk
            unfold Rz at rk'
            obtain ⟨b, vs, rfl, _, _⟩ := rk'
            have nk := nested_of I _ kk _ u hkk rk ry
            cases ry
            obtain ⟨xs, us, g1, g2, g3, g4, g5, hm⟩ := dict_of I hdc
            have fr := find_rel (k := kk) g4 g5
            rw [hd] at fr
            cases eg : atKey (ez xs us) kk with
            | none => rw [eg] at fr; exact fr.elim
            | some p =>
              rw [eg] at fr
              obtain ⟨v', rv, rr⟩ := fr
              refine tail_any hm.typeIs slot_dict_getitem.lookup (wpAny_getItem_heap (knd := nestedKind X.prog X.w) (room_k hX) ⟨nk, hc⟩ hm eg ?_) hs
              exact ⟨v', H, I.kept (t' := s.toks + (nestedKind X.prog X.w).draws kk) fun _ _ q => q, rr, kval k rv⟩
          · cases e
        · cases e
      · cases e
    · cases e
  · unfold gDIx at e
    split at e
    · exact ⟨_, _, rfl⟩
    · cases e
/-! ### d.get(k, x) -/
theorem tyIs_d {H : Hp} {kvs : List (D × D)} {a : Addr} (h : DcR X.K κ H kvs a) : TyIs X "dict" (.ref a) H := by
  intro pins σ s v I rv
  cases rv
  obtain ⟨xs, us, g1, g2, g3, g4, g5, hm⟩ := dict_of I h
  obtain ⟨o, es, ep, ho, he, _⟩ := id hm
  exact ⟨hm.typeIs, fun b eb => by cases eb; exact ⟨o, ho, he.2.1⟩⟩
def gDGet : List C → Option C
  | [.dc kvs, .v (.tup ds), .v x] => match dKey (.tup ds) with
    | some kk => if kk.depth ≤ 8 then some (.v ((dFind kvs kk).getD x)) else none
    | none => none
  | _ => none
theorem opn_dget (hX : Xg X) : OpN X κ (semMm X "dict.get") gDGet := by
  intro cs c vs H Q e rs k
  unfold gDGet at e
  split at e
  · rename_i kvs ds x
    split at e
    · rename_i kk hkk
      split at e
      · rename_i hc
        cases e
        unfold RCs at rs
        obtain ⟨v1, r1, rfl, ⟨o1, q1⟩, rs⟩ := rs
        obtain ⟨v2, v3, o2, o3, rfl, q2, q3⟩ := rs.two
        refine ⟨_, _, rfl, ?_⟩
        obtain ⟨a, rfl, rfl, hdc⟩ := q1
        have rk := q2.2
        intro pins s σ v us I rx ru
        cases rx
        have rk' := rk
        unfold Rz at rk'
        obtain ⟨b, ws, rfl, _, _⟩ := rk'
        match us, ru with
        | [u2, u3], .cons ry (.cons rz .nil) =>
          have nk := nested_of I _ kk _ u2 hkk rk ry
          cases ry
          obtain ⟨xs, vs2, g1, g2, g3, g4, g5, hm⟩ := dict_of I hdc
          have fr := find_rel (k := kk) g4 g5
          refine call_meetsIn PySem.F.slot_dict_get hm.typeIs PySem.F.entry_dict_get (PySem.F.args_dict_get_3 _ _ _) (meetsH_dict_get_default (nestedKind X.prog X.w) a b g2 u3) ⟨room_k hX, kk, _, ⟨nk, hc⟩, hm, ?_⟩
          have J : Inv X pins σ H { s with toks := s.toks + (nestedKind X.prog X.w).draws kk } := I.kept (t' := s.toks + (nestedKind X.prog X.w).draws kk) fun _ _ q => q
          cases ed : dFind kvs kk with
          | none =>
            rw [ed] at fr k
            cases eg : atKey (ez xs vs2) kk with
            | some p => rw [eg] at fr; exact fr.elim
            | none => exact ⟨v3, H, J, rz, kval k q3.2⟩
          | some d =>
            rw [ed] at fr k
            cases eg : atKey (ez xs vs2) kk with
            | none => rw [eg] at fr; exact fr.elim
            | some p =>
              rw [eg] at fr
              obtain ⟨v', rv, rr⟩ := fr
              exact ⟨v', H, J, rr, kval k rv⟩
      · cases e
    · cases e
  · cases e
/-- d.name(e, ..), d a slot's own dict: only read -/
def cRMs (i : Nat) (g : List C → Option C) (cl : Env → R (List C)) : Env → R C := fun ρ => match ρ[i]? with
  | some (some (.dc _)) => (cl ρ).bind fun cs ρ1 => match ρ1[i]? with
    | some (some c) => (match g (c :: cs) with
      | some r => .ok r ρ1
      | none => .stuck)
    | _ => .stuck
  | _ => .stuck
theorem de_rs {i : Nat} {x : Str} {name id : String} {g : List C → Option C} {e : Expr} {es : List Expr} {pN apos cpos : Pos} {cl : Env → R (List C)} (slot : Slot "dict" (Str.ofString name) id) (hty : typeOf (.builtin id) = pure (.type "method_descriptor")) (ho : OpN X κ (semMm X id) g)
    (hl : DL X κ W (e :: es) cl) (hN : X.N[i]? = some x := by rfl) (hvis : Vis X.env.scope x := by first | exact Or.inl rfl | exact Or.inr (Or.inl rfl) | exact Or.inr (Or.inr rfl)) (hd : (x == ("__debug__" : Str)) = false := by decide)
    (hcd : (x == ("__classdict__" : Str)) = false := by decide) (hs : (e :: es).all noStar = true := by rfl)
    (h1 : attributeBase (.Name x pN) (Str.ofString name) X.env (eval (.Name x pN) X.env) = eval (.Name x pN) X.env := by rfl)
    (h2 : ((backTo cpos (starEach (e :: es) X.env)).all (fun p => !p.1) && (backToKw cpos (keywordEach [] X.env)).all (fun p => p.1.isSome) && decide ((e :: es).length + ([] : List Keyword).length + (if ([] : List Keyword).isEmpty then 0 else 1) < 30)) = true := by rfl)
    (h3 : (apos.endLine == cpos.line) = true := by rfl) : DE X κ W (.Call (.Attribute (.Name x pN) (Str.ofString name) apos) (e :: es) [] cpos) (cRMs i g cl) := by
  intro σ ρ H O Q F h
  have hs' : noStar e = true ∧ es.all noStar = true := by rw [List.all_cons, Bool.and_eq_true] at hs; exact hs
  unfold cRMs at h
  split at h
  · rename_i kvs hc0
    obtain ⟨v, ev, a, e1, eo, hdc⟩ := F.cv i _ hc0
    subst e1
    refine sem_of (pe_mW PySem.F.plainAttrs_dict slot hty (mtr_sem X id) (pe_var hN hvis hd hcd) (pa_semB hs) h1 h2 h3 (starEach_of hs'.1 es X.env) (plainStar hs'.2)) ⟨_, ev, tyIs_d hdc, hl σ ρ H O _ F ?_⟩
    cases e2 : cl ρ with
    | stuck => rw [e2] at h; exact h
    | exn n ρ1 => rw [e2] at h; exact h
    | ok cs ρ1 =>
      rw [e2, R.bind_ok] at h
      intro vs H1 O1 F1 r1 n1
      split at h
      · rename_i c hc
        split at h
        · rename_i r eg
          obtain ⟨v', ev', rc⟩ := F1.cv i c hc
          rw [ev] at ev'; cases ev'
          obtain ⟨x', xs', ex, q⟩ := ho (c :: cs) r (.ref a :: vs) H1 Q eg (by
            unfold RCs
            exact ⟨.ref a, vs, rfl, ⟨_, rc⟩, r1⟩) (fun z H3 oz rz sm fr => by
              refine h z H3 O1 oz (F1.same sm) rz (fun b hb j hj => ?_) (n1.trans (Nx.same sm fr))
              obtain ⟨o, eo', _⟩ := F1.own hj
              rw [fr b hb] at eo'; cases eo')
          injection ex with ex1 ex2
          subst ex1 ex2
          exact q
        · exact h.elim
      · exact h.elim
  · exact h.elim
end
end SW

set_option Elab.async false
set_option linter.all false
set_option maxRecDepth 100000
set_option maxHeartbeats 4000000
set_option autoImplicit false
/-! Sw27: sorted(d): the keys of a slot's own dict. -/
namespace SW
open PySem PySem.Spec PyProof.Rows L2 PySem.W
section
variable {prog : Program} {w : World} {A : Around} {E : Value → Shared → Prop} {s : Shared} {d : Addr} {es : Array DictEntry} {ep : Nat}
theorem src_raw (lo : (d == sysModules) = false) : KdlSrc prog w "dict" d d es.size (fun i v => ∃ hi : i < es.size, v = es[i].key) (fun h => h.DictRaw d es ep) where
  type := fun s hm => Heap.DictRaw.typeIs (s := s) hm
  there := fun h hm => by
    obtain ⟨o, ho, _⟩ := hm
    exact ⟨Heap.lt_size ho, Heap.lt_size ho⟩
  keep := fun _ _ hm hk => hm.at fun o e => hk d (.inl rfl) o e
  notList := by decide
  notTuple := by decide
  hint := fun _ _ s _ hm hq => kdl_hint_dict (Heap.DictRaw.typeIs (s := s) hm) hq
  iter := fun _ s hh hm => by
    have lt : d < s.heap.objs.size := by
      obtain ⟨o, ho, _⟩ := id hm
      exact Heap.lt_size ho
    exact ⟨_, _, (fun _ _ hq => wpAny_pyIter_dict_raw lo hm hq), Walks.rawKeys hh _ d (Nat.ne_of_lt lt) es ep, ⟨⟨_, Heap.get?_push_size _ rfl, rfl, rfl⟩, hm.at fun o e => Heap.get?_push_of_some _ e⟩⟩
theorem collect_d {Q : List Value → Shared → Prop} (hh : A.handled = none) (lo : (d == sysModules) = false) (hm : s.heap.DictRaw d es ep) (hn : es.size ≤ sizeLine)
    (h : ∀ (h' : Heap) (tk : Nat), (∀ b o, s.heap.get? b = some o → h'.get? b = some o) → Q (es.toList.map fun e => e.key) { s with heap := h', toks := tk }) : wpAny (model prog w) A (collect (.ref d)) Q E s := by
  refine kdu_collect (src_raw lo) hh hm hn fun h' tk acc hk hacc => ?_
  have e : acc.toList = es.toList.map fun e => e.key := by
    obtain ⟨h1, h2⟩ := hacc
    refine List.ext_getElem (by simp [h1]) fun j j1 j2 => ?_
    have hj : j < acc.size := by simpa using j1
    obtain ⟨hi, e⟩ := h2 j acc[j] (by rw [Array.getElem?_eq_getElem hj])
    simp [e]
  rw [e]
  exact h h' tk hk
theorem sorted_d {Q : Value → Shared → Prop} (hh : A.handled = none) (lo : (d == sysModules) = false) (hm : s.heap.DictRaw d es ep) (hn : es.size ≤ sizeLine)
    (go : ∀ (h' : Heap) (tk : Nat), (∀ b o, s.heap.get? b = some o → h'.get? b = some o) → ∀ E' : Value → Shared → Prop,
      wpAny (model prog w) A.in1.in1 (Builtin.«list.sort» ⟨[.ref h'.objs.size], []⟩) (fun f s' => f = .done (.ret .none) ∧ Q (.ref h'.objs.size) s') E' { s with heap := h'.push (seqObj "list" (es.toList.map fun e => e.key).toArray 0), toks := tk }) :
    wpAny (model prog w) A (call (.builtin "sorted") [.ref d]) Q E s := by
  refine Calls.call_function_entry kind_sorted plain_sorted entry_sorted (args_sorted1 _) ?_
  unfold Builtin.«sorted»
  refine wpAny_bind (m := checkCount "sorted" 1 1 _) (wpAny_pure ?_)
  refine wpAny_bind (collect_d (A := A.in1) hh lo hm hn fun h' tk kp => ?_)
  refine wpAny_bind (wpAny_newList ?_ (by simpa using hn))
  refine wpAny_bind (wpAny_holding (wpAny_call_entry slot_list_sort ⟨_, Heap.get?_push_size _ rfl, rfl⟩ entry_list_sort ?_ (args_list_sort _)))
  refine wpAny_mono (go h' tk kp _) (fun f s' hf => ?_) fun _ _ z => z
  obtain ⟨rfl, hq⟩ := hf
  exact ⟨_, rfl, wpAny_pure ⟨_, rfl, hq⟩⟩
end
section
variable {X : Cx} {κ : String → Addr} {W : WX}
theorem keys_vals {K : PySem.W.Frag} {H : Hp} : ∀ {kvs : List (D × D)} {xs : List (NestedKey × Addr × V)}, RDs K κ H kvs xs → Rzs K κ H (kvs.map fun kv => kv.1) (xs.map fun x => V.ref x.2.1)
  | [], _, h => by unfold RDs at h; subst h; exact Rzs.nil
  | kv :: r, _, h => by
    unfold RDs at h
    obtain ⟨x, xs', rfl, _, h2, _, h4⟩ := h
    exact Rzs.cons h2 (keys_vals h4)
theorem refs_vals : ∀ as : List Addr, Vals (as.map V.ref) (as.map Value.ref)
  | [] => .nil
  | a :: as => .cons rfl (refs_vals as)
theorem raw_keys {h : Heap} {a : Addr} {xs : List (NestedKey × Addr × V)} {us : List Value} (hl : xs.length = us.length) (hm : h.DictOfH (nestedKind X.prog X.w) a (ez xs us)) : ∃ es ep, h.DictRaw a es ep ∧ es.size = xs.length ∧ (es.toList.map fun e => e.key) = (xs.map fun x => x.2.1).map Value.ref := by
  obtain ⟨es, ep, h1, h2, h3⟩ := hm.raw
  have hz : (ez xs us).length = xs.length := by simp [ez, hl]
  refine ⟨es, ep, h1, by rw [h2, hz], List.ext_getElem (by simp [h2, hz]) fun j j1 j2 => ?_⟩
  have hj : j < es.size := by simpa using j1
  have hx : j < xs.length := by simpa using j2
  obtain ⟨y, e1, e2, _⟩ := h3 j hj
  have : (ez xs us)[j]? = some (xs[j].1, xs[j].2.1, us[j]'(by omega)) := by
    unfold ez
    rw [List.getElem?_zipWith, List.getElem?_eq_getElem hx, List.getElem?_eq_getElem (by omega)]
  rw [this] at e1
  cases e1
  simp [e2]
def gSortedD : List C → Option C
  | [.dc kvs] => match toPs (kvs.map fun kv => kv.1) with
    | some ps => if okOrd ps = true ∧ sortB ps = true ∧ kvs.length ≤ sizeLine then some (.l ((kvs.map fun kv => kv.1).mergeSort leD)) else none
    | none => none
  | _ => none
theorem opn_sortedD (hX : Xg X) : OpN X κ (semC X (.builtin "sorted")) gSortedD := by
  intro cs c vs H Q e rs k
  unfold gSortedD at e
  split at e
  · rename_i kvs
    obtain ⟨x, o1, rfl, r1⟩ := rs.one
    split at e
    · rename_i ps hps
      split at e
      · rename_i hok
        cases e
        obtain ⟨em, hp⟩ := toPs_map hps
        obtain ⟨al, dp⟩ := okOrd_all hok.1
        have so := sortB_all hok.2.1
        subst em
        have hal : PySem.W.AllAlike ((kvs.map fun kv => kv.1).map toPd) := fun p hp q hq => al.1 p hp q hq
        obtain ⟨a, rfl, rfl, hdc⟩ := r1
        intro pins s σ us I rv1
        rw [Vals.ref1 rv1]
        obtain ⟨xs, us2, g1, lo, g3, g4, g5, hm⟩ := dict_of I hdc
        have hl : xs.length = us2.length := by simpa using g5.length
        obtain ⟨es, ep, hr, hs, hk⟩ := raw_keys hl hm
        have rz := keys_vals g4
        have rv := refs_vals (xs.map fun x => x.2.1)
        have e0 : (xs.map fun x => V.ref x.2.1) = (xs.map fun x => x.2.1).map V.ref := by rw [List.map_map]; rfl
        rw [e0] at rz
        have hn : es.size ≤ sizeLine := by rw [hs, ← g4.length]; exact hok.2.2
        refine sorted_d (I.ok.hd hX.calm) lo hr hn fun h' tk kp E' => ?_
        rw [hk]
        generalize hits : (xs.map fun x => x.2.1).map Value.ref = its at rv hk ⊢
        generalize (xs.map fun x => x.2.1).map V.ref = zs at rv rz
        have hz' : its.length ≤ sizeLine := by rw [← hits]; simp; rw [← hs]; exact hn
        have J : Inv X pins σ H { s with heap := h', toks := tk } := I.kept kp
        have lb : ∀ b o, h'.get? b = some o → b ≠ h'.objs.size := fun b o eb => Nat.ne_of_lt (Heap.lt_size eb)
        have at1 : (h'.push (seqObj "list" its.toArray 0)).get? h'.objs.size = some (seqObj "list" its.toArray 0) := Heap.get?_push_size _ rfl
        generalize hp2 : h'.push (seqObj "list" its.toArray 0) = h2 at at1 ⊢
        have old2 : ∀ b o, h'.get? b = some o → h2.get? b = some o := fun b o eb => by rw [← hp2]; exact Heap.get?_push_of_some _ eb
        have ei := each_of rz rv
        have er := each_reads J rz rv hp
        have er2 : PySem.W.EachIs (fun u d => ∃ as, Reads (PySem.W.sortingHeap h2 h'.objs.size its) u (toPd d) as) its (kvs.map fun kv => kv.1) := er.mono fun _ _ ⟨as, r⟩ => ⟨as, PyProof.Rows.Reads.keeps (fun b o eb => PySem.W.sortingHeap_old (lb b o eb) (old2 b o eb)) r⟩
        have room : ∀ p, p ∈ (kvs.map fun kv => kv.1).map toPd → X.A.in1.in1.units + p.depth < cLine := fun p hp => by
          have h1 : p.depth ≤ 60 := by
            have := hok.1
            unfold okOrd at this
            rw [Bool.and_eq_true] at this
            simpa using List.all_eq_true.mp this.2 p hp
          have := hX.un
          show X.A.units + 1 + 1 + p.depth < cLine
          omega
        refine PySem.W.list_sort_vals (κ := PySem.W.dataKind (PySem.W.sortingHeap h2 h'.objs.size its) ((kvs.map fun kv => kv.1).map toPd)) (s := { s with heap := h2, toks := tk }) at1
          (PySem.W.SortsAt.data (s := { s with heap := PySem.W.sortingHeap h2 h'.objs.size its, toks := tk }) (PySem.W.each_map (R := fun v p => ∃ as, Reads (PySem.W.sortingHeap h2 h'.objs.size its) v p as) toPd er2) hal so room) hz' ⟨rfl, ?_⟩
        have eo := PySem.W.sortVals_data (h' := PySem.W.sortingHeap h2 h'.objs.size its) false ei er2 hal
        rw [dataLe_leD] at eo
        obtain ⟨ws, rw1, rw2⟩ := of_each eo
        obtain ⟨ep2, hep⟩ := PyProof.Rows.sortedHeap_at (out := (PySem.W.sortVals (PySem.W.dataKind (PySem.W.sortingHeap h2 h'.objs.size its) ((kvs.map fun kv => kv.1).map toPd)) false its its).toArray) at1
        have lw : ws.length ≤ sizeLine := by
          rw [← rw2.length, List.length_mergeSort, List.length_map]; exact hok.2.2
        have lt2 : ∀ b o, h'.get? b = some o → b < h2.objs.size := fun b o eb => Heap.lt_size (old2 b o eb)
        exact ⟨V.ref h'.objs.size, upd H h'.objs.size (.lst ws), J.laid (t' := tk) (fun b o eb => (PyProof.Rows.sortedHeap_old (lb b o eb) (lt2 b o eb)).trans (old2 b o eb)) (Nat.le_refl _) ⟨lw, _, ep2, rw1, hep⟩, rfl, klst k rw2 (J.hok.fresh (Nat.le_refl _))⟩
      · cases e
    · cases e
  · cases e
end
end SW

set_option Elab.async false
set_option linter.all false
set_option maxRecDepth 100000
set_option maxHeartbeats 4000000
set_option autoImplicit false
/-! Sw28: t[::-1] of a tuple; a >= b of data. -/
namespace SW
open PySem PySem.Spec PyProof.Rows L2 HT
section
variable {prog : Program} {w : World} {A : Around} {E : Value → Shared → Prop} {s : Shared}
theorem adjust_rev (n : Nat) : Builtin.Slice.sliceAdjust none none (-1) (n : Int) = ((n : Int) - 1, -1) := rfl
theorem places_rev (n : Nat) : Builtin.Slice.slicePlaces ((n : Int) - 1) (-1) (-1) = n := by
  unfold Builtin.Slice.slicePlaces
  rw [if_neg (by decide)]
  by_cases h : n = 0
  · subst h; rfl
  · rw [if_pos (by omega)]
    simp
theorem applied_rev {sl : Addr} {vs : Value} {n : Nat} {Q : Int × Int × Nat → Shared → Prop} (hs : s.heap.IsSliceOf sl .none .none vs) (ps : IsPart vs (some (-1)))
    (h : Q ((n : Int) - 1, -1, n) s) : wpAny (model prog w) A (Builtin.Slice.sliceApplied (.ref sl) (pure (n : Int))) Q E s := by
  obtain ⟨os, hos, hcs, hds⟩ := id hs
  unfold Builtin.Slice.sliceApplied Builtin.Slice.sliceFields
  refine wpAny_bind (wpAny_bind (wpAny_field hos hds (x := .none) rfl (wpAny_bind (wpAny_field hos hds (x := .none) rfl (wpAny_bind (wpAny_field hos hds (x := vs) rfl (wpAny_pure ?_)))))))
  refine wpAny_bind (slicePart_ ps ?_)
  show wpAny _ _ (if ((-1 : Int) == 0) = true then _ else _) _ _ s
  rw [if_neg (by decide)]
  refine wpAny_bind (slicePart_none (wpAny_bind (slicePart_none (wpAny_bind (wpAny_pure ?_)))))
  show wpAny _ _ (match Builtin.Slice.sliceAdjust none none (-1) (n : Int) with | (lo, hi) => pure (lo, (-1 : Int), Builtin.Slice.slicePlaces lo hi (-1))) _ _ s
  rw [adjust_rev n]
  show wpAny _ _ (pure ((n : Int) - 1, (-1 : Int), Builtin.Slice.slicePlaces ((n : Int) - 1) (-1) (-1))) _ _ s
  rw [places_rev]
  exact wpAny_pure h
theorem pick_rev (xs : Array Value) : ((List.range xs.size).filterMap fun (m : Nat) => xs[((xs.size : Int) - 1 + (m : Int) * -1).toNat]?).toArray = xs.toList.reverse.toArray := by
  have e : (List.range xs.size).filterMap (fun (m : Nat) => xs[((xs.size : Int) - 1 + (m : Int) * -1).toNat]?) = ((List.range xs.size).map fun k => xs.size - 1 - k).filterMap (xs[·]?) := by
    rw [List.filterMap_map]
    have : (fun (m : Nat) => xs[((xs.size : Int) - 1 + (m : Int) * -1).toNat]?) = (xs[·]?) ∘ fun k => xs.size - 1 - k := funext fun m => by
      have : ((xs.size : Int) - 1 + (m : Int) * -1).toNat = xs.size - 1 - m := by omega
      simp only [Function.comp_apply, this]
    rw [this]
  rw [e, PySem.W.krv_range, List.filterMap_reverse, PySem.W.krv_all]
theorem getItem_tuple_rev {t sl : Addr} {items : Array Value} {vs : Value} {Q : Value → Shared → Prop} (ht : IsTup s.heap t items) (hs : s.heap.IsSliceOf sl .none .none vs) (ps : IsPart vs (some (-1)))
    (h : Q (.ref s.heap.objs.size) { s with heap := s.heap.push { cls := .type "tuple", data := .seq items.toList.reverse.toArray } })
    (hsz : items.size ≤ sizeLine) : wpAny (model prog w) A (getItem (.ref t) (.ref sl)) Q E s := by
  have htake : sizeOk (.seq items.toList.reverse.toArray) := by
    show items.toList.reverse.toArray.size ≤ sizeLine
    rw [List.size_toArray, List.length_reverse, Array.length_toList]
    exact hsz
  obtain ⟨os, hos, hcs, hds⟩ := id hs
  have hTs : s.TypeIs (.ref sl) "slice" := ⟨os, hos, hcs⟩
  unfold getItem
  try with_reducible refine wpAny_holding ?_
  first | refine wpAny_bind (wpAny_pure ?_) | skip
  refine wpAny_bind (wpAny_sequenceKey ht.typeIs (by decide) ?_)
  refine wpAny_bind (wpAny_callSpecial?_slot (name := Str.ofString "__getitem__") ht.typeIs PyProof.Rows.slot_tuple_getitem
    (wpAny_call_entry PyProof.Rows.slot_tuple_getitem ht.typeIs entry_tuple_getitem ?_ (args_tuple_getitem _ _)))
  show wpAny _ _ (Builtin.Tuple.tupleItemsOf (.ref t) >>= _) _ _ s
  refine wpAny_bind (tupleItemsOf_ ht ?_)
  refine wpAny_bind (wpAny_typeOf hTs ?_)
  rw [if_pos (by decide)]
  refine wpAny_bind (applied_rev hs ps ?_)
  have hno : ¬ ((((items.size : Int) - 1) == 0 && (-1 : Int) == 1 && items.size == items.size) = true) := by
    intro q
    rw [Bool.and_eq_true, Bool.and_eq_true] at q
    exact absurd q.1.2 (by decide)
  show wpAny _ _ (if ((((items.size : Int) - 1) == 0 && (-1 : Int) == 1 && items.size == items.size) = true) then _ else _) _ _ s
  rw [if_neg hno, pick_rev]
  first
    | exact wpAny_bind (m := Builtin.Tuple.tupleExact _) (wpAny_newObj_type (wpAny_pure ⟨_, rfl, wpAny_pure h⟩) htake)
    | exact wpAny_bind (m := Builtin.Tuple.tupleExact _) (wpAny_newObj_type (wpAny_bind (wpAny_pure (wpAny_pure ⟨_, rfl, wpAny_pure h⟩))) htake)
    | exact wpAny_bind (wpAny_bind (m := Builtin.Tuple.tupleExact _) (wpAny_newObj_type (wpAny_pure (wpAny_pure ⟨_, rfl, wpAny_pure h⟩)) htake))
    | exact wpAny_bind (wpAny_bind (m := Builtin.Tuple.tupleExact _) (wpAny_newObj_type (wpAny_pure ⟨_, rfl, wpAny_pure h⟩) htake))
end
section
variable {X : Cx} {κ : String → Addr} {W : WX}
def gRevT : List C → Option C
  | [.v (.tup ds)] => some (.v (.tup ds.reverse))
  | _ => none
theorem vals_rev {vs : List V} {us : List Value} (r : Vals vs us) : Vals vs.reverse us.reverse := by
  induction r with
  | nil => exact .nil
  | cons h t ih =>
    rw [List.reverse_cons, List.reverse_cons]
    exact ih.append (.cons h .nil)
theorem opn_revT : OpN X κ (sem1 (semRv X)) gRevT := by
  refine opn1 (fun c1 c x o1 H Q e r1 k => ?_) fun cs c e => ?_
  · unfold gRevT at e
    split at e
    · rename_i ds heq
      injection heq with h1 _
      subst h1
      cases e
      obtain ⟨a, zs, rfl, hs, rz⟩ := r1.tup (ds := _) rfl
      intro pins s σ v vk sl I rx hsl pk
      cases rx
      obtain ⟨its, r, ht, hz⟩ := I.tuple hs
      have hlen := r.length
      refine ⟨"tuple", _, PyProof.Rows.slot_tuple_getitem.lookup, ht.typeIs, ?_⟩
      refine getItem_tuple_rev ht hsl pk ?_ (by rw [List.size_toArray] <;> omega)
      exact laid_tup I (vals_rev r) (by rw [List.length_reverse]; exact hz) (ktup k rz.reverse)
    · cases e
  · unfold gRevT at e
    split at e
    · exact ⟨_, rfl⟩
    · cases e
/-- t[::-1], t a tuple -/
theorem de_revT {e : Expr} {j : Nat} {p1 p3 p2 pos : Pos} {cl : Env → R (List C)} (hl : DL X κ W [e] cl) : DE X κ W (.Subscript e (.Slice none none (some (.UnaryOp .USub (.Constant (.int 1) j p1) p3)) p2) pos) (cOp gRevT cl) := by
  intro σ ρ H O Q F h
  refine sem_of (pe_rev (pe_sem X e) (po_some (pe_un un_neg pe_int)) (fun _ _ => rfl)) ?_
  have := hl σ ρ H O _ F (op_end opn_revT h)
  exact semE_mono this fun x H1 ⟨y, e1, q⟩ => by
    injection e1 with e1 _
    subst e1
    exact ⟨1, rfl, -1, rfl, rfl, q⟩
/-! ### a >= b -/
def gGeD : List C → Option C
  | [.v a, .v b] => match toP a, toP b with
    | some p, some q => if PySem.W.alike p q = true ∧ noNon [p] = true ∧ p.depth ≤ 60 then some (.v (.bl (!PySem.W.dataLt p q))) else none
    | _, _ => none
  | _ => none
theorem opn_geD (hX : Xg X) : OpN X κ (sem2 (semR X (compareOp .GtE))) gGeD := by
  refine opn2 (fun c1 c2 c x y o1 o2 H Q e r1 r2 k => ?_) fun cs c e => ?_
  · unfold gGeD at e
    split at e
    · rename_i a b heq
      injection heq with h1 h2
      injection h2 with h2 _
      subst h1 h2
      split at e
      · rename_i p q hp hq
        split at e
        · rename_i hc
          cases e
          intro pins s σ v u I rx ry
          obtain ⟨as, ra⟩ := Dp.reads I p x v (dp_of _ _ _ r1.2 hp) rx
          obtain ⟨bs, rb⟩ := Dp.reads I q y u (dp_of _ _ _ r2.2 hq) ry
          refine PySem.W.ge_data ra rb hc.1 (noNon_all hc.2.1 p (by simp)) ?_ ⟨.bl (!PySem.W.dataLt p q), H, I, rfl, kbl k⟩
          have := hX.un
          have := Nat.min_le_left p.depth q.depth
          omega
        · cases e
      · cases e
    · cases e
  · unfold gGeD at e
    split at e
    · exact ⟨_, _, rfl⟩
    · cases e
end
end SW

set_option Elab.async false
set_option linter.all false
set_option maxRecDepth 100000
set_option maxHeartbeats 4000000
set_option autoImplicit false
/-! Sw29: dict(t), t a tuple of pairs with unlike keys. -/
namespace SW
open PySem PySem.Spec PyProof.Rows L2 PySem.W
section
variable {X : Cx} {κ : String → Addr} {W : WX}
def pairsOf : List D → Option (List (D × D))
  | [] => some []
  | .tup [k, v] :: r => match pairsOf r with
    | some kvs => some ((k, v) :: kvs)
    | none => none
  | _ => none
def okKey : D → Bool
  | .tup ds => match dKey (.tup ds) with
    | some kk => decide (kk.depth ≤ 8)
    | none => false
  | _ => false
def nkOf (d : D) : NestedKey := (dKey d).getD .none
theorem okKey_of {d : D} (h : okKey d = true) : dKey d = some (nkOf d) ∧ (nkOf d).depth ≤ 8 ∧ ∃ ds, d = .tup ds := by
  unfold okKey at h
  split at h
  · rename_i ds
    split at h
    · rename_i kk hk
      have e : nkOf (.tup ds) = kk := by unfold nkOf; rw [hk]; rfl
      rw [e]
      exact ⟨hk, by simpa using h, ds, rfl⟩
    · cases h
  · cases h
theorem pairs_rel {K : PySem.W.Frag} {H : Hp} : ∀ {ds : List D} {kvs : List (D × D)} {vs : List V}, pairsOf ds = some kvs → (∀ kv ∈ kvs, okKey kv.1 = true) → Rzs K κ H ds vs →
    ∃ (Ts : List Addr) (xs : List (NestedKey × Addr × V)), vs = Ts.map V.ref ∧ RDs K κ H kvs xs ∧ (xs.map fun x => x.1) = kvs.map (fun kv => nkOf kv.1) ∧ Ts.length = xs.length ∧ ∀ (j : Nat) x T, xs[j]? = some x → Ts[j]? = some T → SqD H T [V.ref x.2.1, x.2.2]
  | [], kvs, vs, e, _, r => by
    cases e
    unfold Rzs at r; subst r
    exact ⟨[], [], rfl, rfl, rfl, rfl, fun j x T h => by simp at h⟩
  | d :: ds, kvs, vs, e, ok, r => by
    unfold pairsOf at e
    split at e
    · rename_i h0; cases h0
    · rename_i k v r0 h0
      injection h0 with h1 h2
      subst h1 h2
      split at e
      · rename_i kvs' hk
        cases e
        unfold Rzs at r
        obtain ⟨w, vs', rfl, r1, r2⟩ := r
        obtain ⟨Ts, xs, rfl, rd, ek, el, hp⟩ := pairs_rel hk (fun kv hkv => ok kv (by simp [hkv])) r2
        unfold Rz at r1
        obtain ⟨T, ws, rfl, hs, rz⟩ := r1
        unfold Rzs at rz
        obtain ⟨kv, ws', rfl, rk, rz⟩ := rz
        unfold Rzs at rz
        obtain ⟨vv, ws'', rfl, rv, rz⟩ := rz
        unfold Rzs at rz; subst rz
        obtain ⟨k1, k2, kds, rfl⟩ := okKey_of (ok (k, v) (by simp))
        have rk' := rk
        unfold Rz at rk'
        obtain ⟨b, _, rfl, _, _⟩ := rk'
        refine ⟨T :: Ts, (nkOf (.tup kds), b, vv) :: xs, rfl, ⟨_, _, rfl, ⟨k1, k2⟩, rk, rv, rd⟩, by simp [ek], by simp [el], fun j x T' hx hT => ?_⟩
        cases j with
        | zero => simp at hx hT; subst hx hT; exact hs
        | succ j => exact hp j x T' (by simpa using hx) (by simpa using hT)
      · cases e
    · cases e
theorem pairs_vals {pins : List (Addr × Obj)} {σ : L2.St} {H : Hp} {s : Shared} (I : Inv X pins σ H s) : ∀ {Ts : List Addr} {xs : List (NestedKey × Addr × V)}, Ts.length = xs.length → (∀ (j : Nat) x T, xs[j]? = some x → Ts[j]? = some T → SqD H T [V.ref x.2.1, x.2.2]) →
    ∃ us, Vals (xs.map fun x => x.2.2) us ∧ ∀ (j : Nat) x u, xs[j]? = some x → us[j]? = some u → PairAt s.heap ((Ts[j]?).getD 0) (.ref x.2.1) u
  | [], [], _, _ => ⟨[], .nil, fun j x u h => by simp at h⟩
  | [], _ :: _, h, _ => by simp at h
  | _ :: _, [], h, _ => by simp at h
  | T :: Ts, x :: xs, h, hp => by
    obtain ⟨us, rv, hu⟩ := pairs_vals I (Ts := Ts) (xs := xs) (by simpa using h) fun j y T' h1 h2 => hp (j + 1) y T' (by simpa using h1) (by simpa using h2)
    have h0 := hp 0 x T rfl rfl
    obtain ⟨ws, r, ⟨o, ho, hc, m, hd⟩, _⟩ := I.tuple h0.sqt
    cases r with
    | cons r1 r2 =>
      cases r2 with
      | cons r2 r3 =>
        cases r3
        cases r1
        rename_i u
        refine ⟨u :: us, .cons r2 rv, fun j y w h1 h2 => ?_⟩
        cases j with
        | zero =>
          simp at h1 h2; subst h1 h2
          exact .inl ⟨o, ho, hc, m, hd⟩
        | succ j => simpa using hu j y w (by simpa using h1) (by simpa using h2)
theorem stored_id {K : Type} [DecidableEq K] : ∀ (ps xs : List (K × Addr × Value)), ((xs ++ ps).map fun x => x.1).Nodup → PySem.storedAllH xs ps = xs ++ ps
  | [], xs, _ => by simp [PySem.storedAllH]
  | p :: ps, xs, h => by
    have h' : (((xs ++ [p]) ++ ps).map fun x => x.1).Nodup := by simpa using h
    have hn : atKey xs p.1 = none := by
      unfold atKey
      have : xs.find? (fun x => decide (x.1 = p.1)) = none := by
        rw [List.find?_eq_none]
        intro x hx e
        have e : x.1 = p.1 := by simpa using e
        rw [List.map_append, List.nodup_append] at h
        exact h.2.2 x.1 (List.mem_map.mpr ⟨x, hx, rfl⟩) p.1 (by simp) e
      simp [this]
    have := stored_id ps (xs ++ [p]) h'
    unfold PySem.storedAllH at this ⊢
    rw [List.foldl_cons, storedH_new hn]
    rw [this]; simp
def gDictT : List C → Option C
  | [.v (.tup ds)] => match pairsOf ds with
    | some kvs => if (kvs.all fun kv => okKey kv.1) = true ∧ (kvs.map fun kv => nkOf kv.1).Nodup ∧ kvs.length ≤ sizeLine then some (.dc kvs) else none
    | none => none
  | _ => none
theorem pairsOf_len : ∀ {ds : List D} {kvs : List (D × D)}, pairsOf ds = some kvs → ds.length = kvs.length
  | [], kvs, e => by cases e; rfl
  | d :: ds, kvs, e => by
    unfold pairsOf at e
    split at e
    · rename_i h0; cases h0
    · rename_i k v r0 h0
      injection h0 with h1 h2
      subst h1 h2
      split at e
      · rename_i kvs' hk
        cases e
        simp [pairsOf_len hk]
      · cases e
    · cases e
theorem opn_dictT (hX : Xg X) : OpN X κ (semC X (.type "dict")) gDictT := by
  intro cs c vs H Q e rs k
  unfold gDictT at e
  split at e
  · rename_i ds
    obtain ⟨x, o1, rfl, r1⟩ := rs.one
    split at e
    · rename_i kvs hkv
      split at e
      · rename_i hc
        cases e
        obtain ⟨hk, hnd, hz⟩ := hc
        have hk' : ∀ kv ∈ kvs, okKey kv.1 = true := fun kv h => List.all_eq_true.mp hk kv h
        have rk := r1.2
        unfold Rz at rk
        obtain ⟨a, zs, rfl, hs, rz⟩ := rk
        intro pins s σ us I rv1
        rw [Vals.ref1 rv1]
        obtain ⟨Ts, xs, rfl, rd, ek, el, hp⟩ := pairs_rel hkv hk' rz
        obtain ⟨us, rv, hpa⟩ := pairs_vals I el hp
        obtain ⟨o, ho, hod⟩ := hs
        obtain ⟨its, rit, mt, hn⟩ := I.tuple (.inl (.inr ⟨o, ho⟩) : SqT X.K H a (Ts.map V.ref))
        have g0 : s.heap.get? a = some o := (I.hok a _ ho).1
        obtain ⟨o', ho', hc', m, hd'⟩ := mt
        rw [g0] at ho'; cases ho'
        have hl : xs.length = us.length := by simpa using rv.length
        have ei : its = Ts.map Value.ref := by
          clear g0 hc' hd' hp hpa rv el ek rd
          have : ∀ (Ts : List Addr) (its : List Value), Vals (Ts.map V.ref) its → its = Ts.map Value.ref := by
            intro Ts
            induction Ts with
            | nil => intro its r; cases r; rfl
            | cons t Ts ih =>
              intro its r
              rw [List.map_cons] at r
              cases r with
              | cons r1 r2 => cases r1; rw [List.map_cons, ← ih _ r2]
          exact this _ _ rit
        subst ei
        let ps : List (Value × Value) := List.zipWith (fun x u => (.ref x.2.1, u)) xs us
        have lp : ps.length = xs.length := by simp [ps, hl]
        have psat : ∀ (j : Nat) k v, ps[j]? = some (k, v) → ∃ x, xs[j]? = some x ∧ us[j]? = some v ∧ k = .ref x.2.1 := fun j k v e => by
          have e : (List.zipWith (fun (x : NestedKey × Addr × V) (u : Value) => (Value.ref x.2.1, u)) xs us)[j]? = some (k, v) := e
          rw [List.getElem?_zipWith] at e
          cases e1 : xs[j]? with
          | none => rw [e1] at e; cases e
          | some x =>
            cases e2 : us[j]? with
            | none => rw [e1, e2] at e; cases e
            | some u =>
              rw [e1, e2] at e
              cases e
              exact ⟨x, rfl, rfl, rfl⟩
        have items : PairItems s.heap (Ts.map Value.ref).toArray (fun j => (Ts[j]?).getD 0) ps := by
          refine ⟨by simp [lp, el], fun j k v e => ?_⟩
          obtain ⟨x, e1, e2, rfl⟩ := psat j k v e
          have hj : j < Ts.length := by rw [el]; exact (List.getElem?_eq_some_iff.mp e1).1
          exact ⟨by simp [hj], hpa j x v e1 e2⟩
        have mem : ∀ x ∈ ez xs us, ∃ y ∈ xs, y.1 = x.1 ∧ y.2.1 = x.2.1 := fun x hx => ez_mem hx
        refine PySem.call_dict_pairsH (knd := nestedKind X.prog X.w) (ps := ez xs us) (PairArg.tuple a (Ts.map Value.ref).toArray (fun j => (Ts[j]?).getD 0) ps) (I.ok.hd hX.calm) ?_ ⟨⟨o, m, g0, hc', hod, hd'⟩, items⟩ ?_ ?_ ?_ fun h' tk hd hkeep => ?_
        · have := hX.un
          show X.A.in1.in1.units + 8 < cLine
          show X.A.units + 1 + 1 + 8 < cLine
          omega
        · refine ⟨by simp [ez, hl, lp], fun i key v e => ?_⟩
          obtain ⟨x, e1, e2, rfl⟩ := psat i key v e
          exact ⟨x.1, x.2.1, by unfold ez; rw [List.getElem?_zipWith, e1, e2], rfl⟩
        · intro h2 hk2 x hx
          obtain ⟨y, hy, e1, e2⟩ := mem x hx
          obtain ⟨d, q1, q2, q3⟩ := rd.mem y hy
          rw [← e1, ← e2]
          have hk3 : ∀ b o, s.heap.get? b = some o → h2.get? b = some o := fun b o e => hk2 b o (Nat.ne_of_lt (Heap.lt_size e)) (by simp) e
          exact ⟨NestedIs.at (fun a o _ _ e _ => hk3 a o e) _ _ (nested_of I d y.1 (.ref y.2.1) (.ref y.2.1) q1 q3 rfl), q2⟩
        · rw [lp, ← rd.length]; exact hz
        · have hk3 : ∀ b o, s.heap.get? b = some o → h'.get? b = some o := fun b o e => hkeep b o (by simp) e
          rw [stored_id _ _ (by simp only [List.nil_append]; rw [ez_keys hl, ek]; exact hnd), List.nil_append] at hd
          obtain ⟨raw, nd, ob⟩ := raw_of hd rv fun y hy => by
            obtain ⟨d', q1, _⟩ := rd.mem y hy
            exact ⟨d', q1⟩
          have fr : H s.heap.objs.size = none := I.hok.fresh (Nat.le_refl _)
          refine ⟨V.ref s.heap.objs.size, upd H s.heap.objs.size (.ext (RawD s.heap.objs.size xs)), I.laid (t' := tk) hk3 (Nat.le_refl _) (show ObjOk X.prog X.w _ _ _ (.ext (RawD s.heap.objs.size xs)) from ⟨raw, ob, fun g1 g2 ⟨o, es, ep, us, q1, q2⟩ k => ⟨o, es, ep, us, k o q1, q2⟩⟩), rfl, ?_⟩
          exact k _ _ [s.heap.objs.size] ⟨s.heap.objs.size, rfl, rfl, xs, upd_same, beq_eq_false_iff_ne.mpr (Ne.symm (Nat.ne_of_lt I.big)), nd, rd.st (Sb.same (same_upd fr))⟩ (same_upd fr) fun b hb => by
            have : b = s.heap.objs.size := by simpa using hb
            rw [this]; exact fr
      · cases e
    · cases e
  · cases e
end
end SW

set_option Elab.async false
set_option linter.all false
set_option maxRecDepth 100000
set_option maxHeartbeats 4000000
set_option autoImplicit false
/-! Sw30: a, b = x, y with two names (the stores go from the right). -/
namespace SW
open PySem PySem.Spec PyProof.Rows L2
section
variable {X : Cx} {κ : String → Addr} {W : WX} {kp : List Nat}
def sPar (i j : Nat) (cl : Env → R (List C)) : Env → R Fl := fun ρ => (cl ρ).bind fun cs ρ1 => match cs with
  | [.v a, .v b] => if i < ρ1.length ∧ j < ρ1.length then .ok .nx ((ρ1.set i (some (.v a))).set j (some (.v b))) else .stuck
  | _ => .stuck
theorem ds_par {i j : Nat} {x y : Str} {a b : Expr} {px py pt pos : Pos} {kt k2 : Nat} {pt2 : Pos} {cl : Env → R (List C)} (hB : X.calm = true) (hN : X.N.Nodup) (hl : DL X κ W [a, b] cl) (hi : X.N[i]? = some x := by rfl) (hj : X.N[j]? = some y := by rfl) (hij : i ≠ j := by decide) (hki : i ∉ kp := by decide) (hkj : j ∉ kp := by decide)
    (hx : X.env.scope.names.lookup x = some .local := by rfl) (hy : X.env.scope.names.lookup y = some .local := by rfl) (hns : [a, b].all noStar = true := by rfl)
    (hw : swappedStores [.Tuple [.Name x px, .Name y py] kt pt] (.Tuple [a, b] k2 pt2) X.env = pure (some [x, y]) := by rfl)
    (hs : swapsWithSole [.Tuple [.Name x px, .Name y py] kt pt] (.Tuple [a, b] k2 pt2) pos.line X.env = pure false := by rfl) :
    DS X κ W kp (.Assign [.Tuple [.Name x px, .Name y py] kt pt] (.Tuple [a, b] k2 pt2) pos) (sPar i j cl) := by
  intro σ ρ H O D F h
  refine semS_of (ps_par hB hN hi hj hij hx hy (pa_semB hns) hw hs) ?_
  refine hl σ ρ H O _ F ?_
  unfold sPar at h
  cases e1 : cl ρ with
  | stuck => rw [e1] at h; exact h
  | exn n ρ1 => rw [e1] at h; exact fun H' O' F' n' => h σ H' O' F' Kp.refl n'
  | ok cs ρ1 =>
    rw [e1, R.bind_ok] at h
    intro vs H1 O1 F1 r1 n1
    split at h
    · rename_i d1 d2
      split at h
      · rename_i hlen
        obtain ⟨v1, v2, o1, o2, rfl, q1, q2⟩ := r1.two
        obtain ⟨rfl, z1⟩ := q1
        obtain ⟨rfl, z2⟩ := q2
        have F2 := F1.put (c := .v d1) (v := v1) (ov := []) hlen.1 ⟨rfl, z1⟩ (fun a ha => by simp at ha)
        have F3 := F2.put (c := .v d2) (v := v2) (ov := []) (i := j) (by simpa using hlen.2) ⟨rfl, z2⟩ (fun a ha => by simp at ha)
        refine ⟨v1, v2, rfl, h _ _ _ F3 ((Kp.set hki).trans (Kp.set hkj)) ⟨n1.gw, fun a ha => ?_⟩⟩
        rcases ha with ha | ⟨k, hk⟩
        · simp at ha
        · refine n1.nw a (.inr ⟨k, ?_⟩)
          by_cases e1 : k = j
          · simp [e1] at hk
          · by_cases e2 : k = i
            · simp [e2] at hk
            · simpa [e1, e2] using hk
      · exact h.elim
    · exact h.elim
/-- a, b, .. = a list -/
def sUnl (ts : List Tg) (c : Env → R C) : Env → R Fl := fun ρ => (c ρ).bind fun x ρ1 => match x with
  | .v (.lst ds) => (match Tg.puts ts ds ρ1 with
    | some ρ2 => .ok .nx ρ2
    | none => .stuck)
  | _ => .stuck
theorem puts_len : ∀ {ts : List Tg} {ds : List D} {ρ ρ' : Env}, Tg.puts ts ds ρ = some ρ' → ts.length = ds.length
  | [], [], _, _, _ => rfl
  | [], _ :: _, _, _, e => by unfold Tg.puts at e; cases e
  | _ :: _, [], _, _, e => by unfold Tg.puts at e; cases e
  | t :: ts, d :: ds, ρ, ρ', e => by
    unfold Tg.puts at e
    split at e
    · simp [puts_len e]
    · cases e
theorem ds_unl {es : List Expr} {k : Nat} {tpos pos : Pos} {e : Expr} {ts : List Tg} {c : Env → R C} (hc : X.calm = true) (hg : DGs X κ es ts) (he : DE X κ W e c) (hk : ∀ i ∈ Tg.slotsL ts, i ∉ kp := by decide)
    (hn : (assignEach es X.env).length = es.length := by rfl) (hst : (assignEach es X.env).findIdx? (·.1) = none := by rfl) (hl : es.length = ts.length := by rfl)
    (hs : swapsWithSole [.Tuple es k tpos] e pos.line X.env = pure false := by rfl) (hw : swappedStores [.Tuple es k tpos] e X.env = pure none := by rfl)
    (h1 : (assignEach [.Tuple es k tpos] X.env).map (·.2) = [assign (.Tuple es k tpos) X.env] := by rfl) : DS X κ W kp (.Assign [.Tuple es k tpos] e pos) (sUnl ts c) := by
  intro σ ρ H O D F h
  refine semS_of (ps_asg (pe_sem X e) (pg_unl hc (pgs_sem X es) hn hst) hs hw h1) (he σ ρ H O _ F ?_)
  unfold sUnl at h
  cases e1 : c ρ with
  | stuck => rw [e1] at h; exact h
  | exn n ρ1 => rw [e1] at h; exact fun H' O' F' n' => h σ H' O' F' Kp.refl n'
  | ok x ρ1 =>
    rw [e1, R.bind_ok] at h
    intro v H1 O1 ov F1 r1 d1 n1
    split at h
    · rename_i ds
      split at h
      · rename_i ρ2 e2
        obtain ⟨rfl, rz⟩ := r1
        unfold Rz at rz
        obtain ⟨a, vs, rfl, ht, rzs⟩ := rz
        refine ⟨a, vs, rfl, ht.sql, by rw [← rzs.length, ← puts_len e2, hl], ?_⟩
        refine hg σ ρ1 ρ2 H1 O1 ds vs _ F1 rzs e2 fun σ' O' F' k' q' => ?_
        refine h σ' H1 O' F' (k'.keeps hk) ⟨fun a o ea s => n1.gw a o ea s, fun a ha => ?_⟩
        rcases ha with ha | ha
        · simp at ha
        · rcases q' a ha with z | z
          · exact n1.nw a (.inr z)
          · simp at z
      · exact h.elim
    · exact h.elim
theorem dsb_par {kB : Nat} (B : Bd X W kB) {i j : Nat} {x y : Str} {a b : Expr} {px py pt pos : Pos} {kt k2 : Nat} {pt2 : Pos} {cl : Env → R (List C)} (hl : DL X κ W [a, b] cl) (hi : X.N[i]? = some x := by rfl) (hj : X.N[j]? = some y := by rfl) (hij : i ≠ j := by decide) (hki : i ∉ kp := by decide) (hkj : j ∉ kp := by decide)
    (hx : X.env.scope.names.lookup x = some .local := by rfl) (hy : X.env.scope.names.lookup y = some .local := by rfl) (hns : [a, b].all noStar = true := by rfl)
    (hw : swappedStores [.Tuple [.Name x px, .Name y py] kt pt] (.Tuple [a, b] k2 pt2) X.env = pure (some [x, y]) := by rfl)
    (hs : swapsWithSole [.Tuple [.Name x px, .Name y py] kt pt] (.Tuple [a, b] k2 pt2) pos.line X.env = pure false := by rfl) :
    DS X κ W kp (.Assign [.Tuple [.Name x px, .Name y py] kt pt] (.Tuple [a, b] k2 pt2) pos) (sPar i j cl) := ds_par B.g.calm B.g.nd hl hi hj hij hki hkj hx hy hns hw hs
theorem dsb_unl {kB : Nat} (B : Bd X W kB) {es : List Expr} {k : Nat} {tpos pos : Pos} {e : Expr} {ts : List Tg} {c : Env → R C} (hg : DGs X κ es ts) (he : DE X κ W e c) (hk : ∀ i ∈ Tg.slotsL ts, i ∉ kp := by decide)
    (hn : (assignEach es X.env).length = es.length := by rfl) (hst : (assignEach es X.env).findIdx? (·.1) = none := by rfl) (hl : es.length = ts.length := by rfl)
    (hs : swapsWithSole [.Tuple es k tpos] e pos.line X.env = pure false := by rfl) (hw : swappedStores [.Tuple es k tpos] e X.env = pure none := by rfl)
    (h1 : (assignEach [.Tuple es k tpos] X.env).map (·.2) = [assign (.Tuple es k tpos) X.env] := by rfl) : DS X κ W kp (.Assign [.Tuple es k tpos] e pos) (sUnl ts c) := ds_unl B.g.calm hg he hk hn hst hl hs hw h1
end
/-- turns of a while loop: by a slot's number -/
def fuelI (i : Nat) : Env → Nat := fun ρ => match ρ[i]? with
  | some (some (.v (.int j))) => j.natAbs + 2
  | _ => 0
end SW

set_option Elab.async false
set_option linter.all false
set_option maxRecDepth 100000
set_option maxHeartbeats 4000000
set_option autoImplicit false
/-! Sw31: a < b < c < d of names; len(set(t)) of a tuple of rows of numbers. -/
namespace SW
open PySem PySem.Spec PyProof.Rows L2
section
variable {X : Cx} {κ : String → Addr} {W : WX}
def ltB4 (a b c d : Int) : Bool := decide (a < b) && decide (b < c) && decide (c < d)
def tLt4 (i j k l : Nat) : TE := fun σ H Q => ∃ a b c d : Int, σ[i]? = some (some (.int a)) ∧ σ[j]? = some (some (.int b)) ∧ σ[k]? = some (some (.int c)) ∧ σ[l]? = some (some (.int d)) ∧ Q (.bl (ltB4 a b c d)) H
theorem pe_lt4 {i j k l : Nat} {e1 e2 e3 e4 : Expr} {pos : Pos} (h1 : PE X e1 (tVar i)) (h2 : PE X e2 (tVar j)) (h3 : PE X e3 (tVar k)) (h4 : PE X e4 (tVar l))
    (hm : lastMarks [.Lt, .Lt, .Lt] [e2, e3, e4] = false := by with_unfolding_all rfl) : PE X (.Compare e1 [.Lt, .Lt, .Lt] [e2, e3, e4] pos) (tLt4 i j k l) := by
  refine ⟨fun pins s σ H Q I h => ?_⟩
  obtain ⟨a, b, c, d, q1, q2, q3, q4, hq⟩ := h
  refine Compare_chain (thn (h1.run pins s σ H (fun x G => x = .int a ∧ G = H) I ⟨_, q1, rfl, rfl⟩) fun v1 s1 ⟨x1, H1, I1, r1, y1, z1⟩ => ?_) hm
  subst y1 z1
  refine chain_link (thn (h2.run pins s1 σ H1 (fun x G => x = .int b ∧ G = H1) I1 ⟨_, q2, rfl, rfl⟩) fun v2 s2 ⟨x2, H2, I2, r2, y2, z2⟩ => ?_)
  subst y2 z2
  refine thn (op_lt pins s2 σ H2 (.int a) (.int b) v1 v2 (fun x G => x = .bl (decide (a < b)) ∧ G = H2) I2 r1 r2 ⟨a, b, rfl, rfl, rfl, rfl⟩) fun u1 t1 ⟨w1, G1, J1, p1, y3, z3⟩ => ?_
  subst y3 z3
  cases p1
  refine wpAny_truthy_bool ?_
  by_cases c1 : a < b
  · rw [decide_eq_true c1]
    refine ite_tt ?_
    refine chain_link (thn (h3.run pins t1 σ G1 (fun x G => x = .int c ∧ G = G1) J1 ⟨_, q3, rfl, rfl⟩) fun v3 s3 ⟨x3, H3, I3, r3, y4, z4⟩ => ?_)
    subst y4 z4
    refine thn (op_lt pins s3 σ H3 (.int b) (.int c) v2 v3 (fun x G => x = .bl (decide (b < c)) ∧ G = H3) I3 r2 r3 ⟨b, c, rfl, rfl, rfl, rfl⟩) fun u2 t2 ⟨w2, G2, J2, p2, y5, z5⟩ => ?_
    subst y5 z5
    cases p2
    refine wpAny_truthy_bool ?_
    by_cases c2 : b < c
    · rw [decide_eq_true c2]
      refine ite_tt ?_
      refine chain_last (thn (h4.run pins t2 σ G2 (fun x G => x = .int d ∧ G = G2) J2 ⟨_, q4, rfl, rfl⟩) fun v4 s4 ⟨x4, H4, I4, r4, y6, z6⟩ => ?_)
      subst y6 z6
      refine op_lt pins s4 σ H4 (.int c) (.int d) v3 v4 Q I4 r3 r4 ⟨c, d, rfl, rfl, ?_⟩
      unfold ltB4 at hq
      rw [decide_eq_true c1, decide_eq_true c2] at hq
      exact hq
    · rw [decide_eq_false c2]
      unfold ltB4 at hq
      rw [decide_eq_false c2, Bool.and_false, Bool.false_and] at hq
      exact ite_ff ⟨.bl false, G2, J2, rfl, hq⟩
  · rw [decide_eq_false c1]
    unfold ltB4 at hq
    rw [decide_eq_false c1, Bool.false_and, Bool.false_and] at hq
    exact ite_ff ⟨.bl false, G1, J1, rfl, hq⟩
def cLt4 (i j k l : Nat) : Env → R C := fun ρ => match ρ[i]?, ρ[j]?, ρ[k]?, ρ[l]? with
  | some (some (.v (.int a))), some (some (.v (.int b))), some (some (.v (.int c))), some (some (.v (.int d))) => .ok (.v (.bl (ltB4 a b c d))) ρ
  | _, _, _, _ => .stuck
theorem slot_int {σ : L2.St} {ρ : Env} {H : Hp} {O : Nat → List Addr} (F : Fr X.K κ H σ ρ O) {i : Nat} {a : Int} (e : ρ[i]? = some (some (.v (.int a)))) : σ[i]? = some (some (.int a)) := by
  obtain ⟨v, ev, rc⟩ := F.cv i _ e
  have := rc.2
  unfold Rz at this
  rw [ev, this]
theorem de_lt4 {i j k l : Nat} {x y z w : Str} {p1 p2 p3 p4 pos : Pos} (h1 : X.N[i]? = some x := by rfl) (h2 : X.N[j]? = some y := by rfl) (h3 : X.N[k]? = some z := by rfl) (h4 : X.N[l]? = some w := by rfl)
    (g1 : Vis X.env.scope x := by first | exact Or.inl rfl | exact Or.inr (Or.inl rfl) | exact Or.inr (Or.inr rfl)) (g2 : Vis X.env.scope y := by first | exact Or.inl rfl | exact Or.inr (Or.inl rfl) | exact Or.inr (Or.inr rfl)) (g3 : Vis X.env.scope z := by first | exact Or.inl rfl | exact Or.inr (Or.inl rfl) | exact Or.inr (Or.inr rfl)) (g4 : Vis X.env.scope w := by first | exact Or.inl rfl | exact Or.inr (Or.inl rfl) | exact Or.inr (Or.inr rfl))
    (d1 : (x == ("__debug__" : Str)) = false := by decide) (d2 : (y == ("__debug__" : Str)) = false := by decide) (d3 : (z == ("__debug__" : Str)) = false := by decide) (d4 : (w == ("__debug__" : Str)) = false := by decide)
    (c1 : (x == ("__classdict__" : Str)) = false := by decide) (c2 : (y == ("__classdict__" : Str)) = false := by decide) (c3 : (z == ("__classdict__" : Str)) = false := by decide) (c4 : (w == ("__classdict__" : Str)) = false := by decide) :
    DE X κ W (.Compare (.Name x p1) [.Lt, .Lt, .Lt] [.Name y p2, .Name z p3, .Name w p4] pos) (cLt4 i j k l) := by
  intro σ ρ H O Q F h
  refine sem_of (pe_lt4 (pe_var h1 g1 d1 c1) (pe_var h2 g2 d2 c2) (pe_var h3 g3 d3 c3) (pe_var h4 g4 d4 c4)) ?_
  unfold cLt4 at h
  split at h
  · rename_i a b c d e1 e2 e3 e4
    exact ⟨a, b, c, d, slot_int F e1, slot_int F e2, slot_int F e3, slot_int F e4, h _ H O [] F ⟨rfl, by unfold Rz; rfl⟩ (fun a ha => by simp at ha) Nx.refl⟩
  · exact h.elim
end
end SW

namespace SW
open PySem PySem.Spec PyProof.Rows L2
/-! ### set(t), t a tuple of rows of numbers -/
section
variable {P : Program} {w : World} {A : Around} {E : Value → Shared → Prop} {s : Shared}
set_option maxHeartbeats 3200000 in
theorem set_of_rows {t0 : Addr} {arr : Array Value} (rows : List (Addr × List Int)) {Q : Value → Shared → Prop} (nh : A.handled = none) (isT0 : s.heap.IsTuple t0 arr) (arrE : arr.toList = rows.map fun p => Value.ref p.1)
    (rowsT : ∀ p ∈ rows, IsT P w s.heap p.2 p.1) (small : rows.length < 64) (room0 : A.units + 3 < cLine)
    (fin : ∀ (g : Heap) (tk : Nat) L es ep t, SetTR P w g s.heap.objs.size L es ep t → Got rows rows.length L → (∀ b o, s.heap.get? b = some o → g.get? b = some o) → Q (.ref s.heap.objs.size) { s with heap := g, toks := tk }) :
    wpAny (model P w) A (call (.type "set") [.ref t0]) Q E s := by
  have szE : arr.size = rows.length := by
    have z := congrArg List.length arrE
    rw [Array.length_toList, List.length_map] at z; exact z
  have none0 : ∀ b, s.heap.objs.size ≤ b → s.heap.get? b = none := fun b hb => by
    cases z : s.heap.get? b with
    | none => rfl
    | some o => exact (Nat.lt_irrefl _ (Nat.lt_of_lt_of_le (Heap.lt_size z) hb)).elim
  obtain ⟨cM, tM, mroE⟩ := F.called_set.mro
  have madeE := F.called_set.made
  have subE := F.called_set.sub
  refine wpAny_call (codeAny_of_tree (show wpAny _ _ (callAny (.type "set") _) _ _ _ from wpAny_pure ⟨Code.quiet_builtin _ (by decide +kernel), codeAny_builtin F.entry_type_call ?_⟩))
  rw [Around.under_plain (weight_type_call_type "set" [.ref t0] []) rfl]
  have nT := F.called_set.notType; have cC := F.called_set.canCreate; have tC := F.typeCall_set_1 (.ref t0)
  repeat (any_goals (first | assumption | wp_step))
  refine codeAny_mono (code_set_led1 (.ref t0) (E := E) (Q₁ := fun b s₁ => b = .ref s.heap.objs.size ∧ s₁ = { s with heap := s.heap.push ({ cls := .type "set", dict := none, data := .set #[] 0 (.fresh 0 0 (!w.params.followText "set-order")) } : Obj) }) ⟨rfl, rfl⟩) fun r s₁ hr => ?_
  cases r with
  | error e => exact hr
  | ok fl =>
    cases fl with
    | ret b0 =>
      obtain ⟨rfl, rfl⟩ := hr
      have gS : (s.heap.push ({ cls := .type "set", dict := none, data := .set #[] 0 (.fresh 0 0 (!w.params.followText "set-order")) } : Obj)).get? s.heap.objs.size = some ({ cls := .type "set", dict := none, data := .set #[] 0 (.fresh 0 0 (!w.params.followText "set-order")) } : Obj) := Heap.get?_push_size _ rfl
      have tS : Shared.TypeIs { s with heap := s.heap.push ({ cls := .type "set", dict := none, data := .set #[] 0 (.fresh 0 0 (!w.params.followText "set-order")) } : Obj) } (.ref s.heap.objs.size) "set" := ⟨_, gS, rfl⟩
      have lI := F.called_set.init.lookup; have bI := F.called_set.init.bind (.ref s.heap.objs.size)
      repeat (any_goals (first | assumption | wp_step))
      refine codeAny_mono (codeAny_call_builtin (R := wants (fun r s₂ => r = .none ∧ ∃ g tk L es ep t, s₂ = { s with heap := g, toks := tk } ∧ SetTR P w g s.heap.objs.size L es ep t ∧ Got rows rows.length L ∧ (∀ b o, s.heap.get? b = some o → g.get? b = some o)) E)
        F.called_set.init.plain F.entry_set_init (check_set_init_1 tS ?_)) fun r₂ s₂ hr₂ => ?_
      · obtain ⟨oT, gT, cT, mT, dT⟩ := isT0
        obtain ⟨cls0, dict0, data0, slots0⟩ := oT
        simp only at cT dT
        subst cT; subst dT
        have gT1 : (s.heap.push ({ cls := .type "set", dict := none, data := .set #[] 0 (.fresh 0 0 (!w.params.followText "set-order")) } : Obj)).get? t0 = some { cls := .type "tuple", dict := dict0, data := .seq arr mT, slots := slots0 } := Heap.get?_push_of_some _ gT
        have sb1 := F.sub_tuple_set; have sb2 := F.sub_tuple_frozenset
        have nD : (Value.type "tuple" == Value.type "dict") = false := by decide
        have isT1 : (s.heap.push ({ cls := .type "set", dict := none, data := .set #[] 0 (.fresh 0 0 (!w.params.followText "set-order")) } : Obj)).IsTuple t0 arr := ⟨_, gT1, rfl, mT, rfl⟩
        unfold Builtin.«set.__init__» noKeywords Builtin.Frozenset.updateFrom
        generalize hit : pyIter = IT
        wp_walk
        subst hit
        refine wpAny_pyIter_tuple (s := { s with heap := s.heap.push ({ cls := .type "set", dict := none, data := .set #[] 0 (.fresh 0 0 (!w.params.followText "set-order")) } : Obj) }) isT1 ?_
        refine wpAny_bind (wpAny_runValue ?_)
        have ltT : t0 < s.heap.objs.size := Heap.lt_size gT
        have nh3 : A.in1.in1.in1.handled = none := by simp [nh]
        have neI : t0 ≠ (s.heap.push ({ cls := .type "set", dict := none, data := .set #[] 0 (.fresh 0 0 (!w.params.followText "set-order")) } : Obj)).objs.size := by rw [Heap.size_push]; exact Nat.ne_of_lt (Nat.lt_succ_of_lt ltT)
        have offS : s.heap.objs.size ∉ [(s.heap.push ({ cls := .type "set", dict := none, data := .set #[] 0 (.fresh 0 0 (!w.params.followText "set-order")) } : Obj)).objs.size, t0] := by
          rw [Heap.size_push]
          simp only [List.mem_cons, List.mem_singleton, List.not_mem_nil, or_false, not_or]
          exact ⟨Nat.ne_of_lt (Nat.lt_succ_self _), Nat.ne_of_gt ltT⟩
        have vals : ∀ (i : Nat) (v : Value), arr[i]? = some v → ∃ p, rows[i]? = some p ∧ v = .ref p.1 := fun i v e => by
          have z : arr.toList[i]? = some v := by rw [Array.getElem?_toList]; exact e
          rw [arrE, List.getElem?_map] at z
          cases zz : rows[i]? with
          | none => rw [zz] at z; cases z
          | some p => rw [zz] at z; exact ⟨p, rfl, (Option.some.inj z).symm⟩
        have gS1 : ((s.heap.push ({ cls := .type "set", dict := none, data := .set #[] 0 (.fresh 0 0 (!w.params.followText "set-order")) } : Obj)).push { cls := .type "tuple_iterator", data := .fields #[.ref t0, .int 0 0] }).get? s.heap.objs.size = some ({ cls := .type "set", dict := none, data := .set #[] 0 (.fresh 0 0 (!w.params.followText "set-order")) } : Obj) := Heap.get?_push_of_some _ gS
        refine set_update_tups ((Walks.tuple nh3 _ t0 neI arr).toS) s.heap.objs.size offS rows szE small vals s.heap rowsT (none0 _ (Nat.le_refl _)) (fun b hb => none0 b (by rw [List.mem_singleton.mp hb, Heap.size_push]; exact Nat.le_succ _))
          room0 (arr.size - 0) 0 _ (by omega) (Nat.zero_le _) ⟨⟨_, Heap.get?_push_size _ rfl, rfl, rfl⟩, isT1.push _⟩ (fun b o e => Heap.get?_push_of_some _ (Heap.get?_push_of_some _ e)) ⟨[], #[], 0, _, setTR_fresh gS1, Got.zero rows⟩ ?_
        intro s' L es ep t mv tr gt kp
        obtain ⟨g, gens2, drawn2, tk2, os2⟩ := s'
        have z1 : gens2 = s.gens := mv.gens; have z2 : drawn2 = s.drawn := mv.drawn; have z3 : os2 = s.os := mv.os
        subst z1; subst z2; subst z3
        show wpAny _ _ _ _ _ _
        refine wpAny_pure ?_
        show wpAny _ _ (ret Value.none) _ _ _
        rw [szE] at gt
        exact wpAny_pure ⟨rfl, g, tk2, L, es, ep, t, rfl, tr, gt, kp⟩
      · cases r₂ with
        | error e => exact hr₂
        | ok fl₂ =>
          cases fl₂ with
          | ret r =>
            obtain ⟨rfl, g, tk, L, es, ep, t, rfl, tr, gt, kp⟩ := hr₂
            repeat (any_goals (first | assumption | wp_step))
            exact fin _ _ _ _ _ _ tr gt kp
          | _ => exact hr₂.elim
    | _ => exact hr.elim
end
end SW

set_option Elab.async false
set_option linter.all false
set_option maxRecDepth 100000
set_option maxHeartbeats 4000000
set_option autoImplicit false
/-! Sw32: len(set(t)), t a tuple of rows of numbers. -/
namespace SW
open PySem PySem.Spec PyProof.Rows L2
section
variable {X : Cx} {κ : String → Addr} {W : WX}
def rowsI : List D → Option (List (List Int))
  | [] => some []
  | .tup ds :: r => match intsOf ds, rowsI r with
    | some ns, some rs => some (ns :: rs)
    | _, _ => none
  | _ => none
/-- each once -/
def once : List (List Int) → List (List Int)
  | [] => []
  | x :: r => if x ∈ r then once r else x :: once r
theorem once_mem : ∀ {rs : List (List Int)} {x : List Int}, x ∈ once rs ↔ x ∈ rs
  | [], x => by simp [once]
  | y :: r, x => by
    unfold once
    split
    · rename_i h
      rw [once_mem]
      constructor
      · intro q; simp [q]
      · intro q
        rcases List.mem_cons.mp q with rfl | q
        · exact h
        · exact q
    · rw [List.mem_cons, once_mem, List.mem_cons]
theorem once_nodup : ∀ rs : List (List Int), (once rs).Nodup
  | [] => List.nodup_nil
  | y :: r => by
    unfold once
    split
    · exact once_nodup r
    · rename_i h
      exact List.nodup_cons.mpr ⟨fun q => h (once_mem.mp q), once_nodup r⟩
theorem rowsI_eq : ∀ {ds : List D} {rs : List (List Int)}, rowsI ds = some rs → ds = rs.map fun r => D.tup (r.map .int)
  | [], rs, e => by cases e; rfl
  | d :: ds, rs, e => by
    unfold rowsI at e
    split at e
    · rename_i h0; cases h0
    · rename_i xs r h0
      injection h0 with h1 h2
      subst h1 h2
      split at e
      · rename_i ns rs' e1 e2
        cases e
        rw [List.map_cons, ← rowsI_eq e2, intsOf_eq e1]
      · cases e
    · cases e
def gLenSetT : List C → Option C
  | [.v (.tup ds)] => match rowsI ds with
    | some rs => if rs.length < 64 then some (.v (.int (once rs).length)) else none
    | none => none
  | _ => none
theorem rows_addr {K : PySem.W.Frag} {H : Hp} : ∀ {rs : List (List Int)} {vs : List V}, Rzs K κ H (rs.map fun r => D.tup (r.map .int)) vs → ∃ ks : List (Addr × List Int), vs = ks.map (fun p => V.ref p.1) ∧ ks.map (fun p => p.2) = rs ∧ ∀ p ∈ ks, SqD H p.1 (p.2.map V.int)
  | [], vs, h => by
    unfold Rzs at h
    subst h
    exact ⟨[], rfl, rfl, fun p hp => by simp at hp⟩
  | r :: rs, vs, h => by
    rw [List.map_cons] at h
    unfold Rzs at h
    obtain ⟨v, vs', rfl, h1, h2⟩ := h
    obtain ⟨ks, rfl, e2, hk⟩ := rows_addr h2
    unfold Rz at h1
    obtain ⟨a, ws, rfl, hs, rz⟩ := h1
    rw [rz.ints] at hs
    refine ⟨(a, r) :: ks, rfl, by simp [e2], fun p hp => ?_⟩
    rcases List.mem_cons.mp hp with rfl | hp
    · exact hs
    · exact hk p hp
theorem items_ints {P : Program} {w : World} : ∀ {ns : List Int} {us : List Value}, Vals (ns.map V.int) us → ItemsAre (intKind P w) ns us
  | [], us, h => by cases h; exact .nil
  | n :: ns, us, h => by
    rw [List.map_cons] at h
    cases h with
    | cons r1 r2 =>
      obtain ⟨t, rfl⟩ := r1
      exact .cons (intKind_is _ _ _ _) (items_ints r2)
theorem pe_setR {e : Expr} {te : TE} {p p2 q pos : Pos} (hX : Xg X) (hg : Gl X "len") (hm : X.mg "len" = none) (hg2 : Gl X "set") (hm2 : X.mg "set" = none) (he : PE X e te) (ns0 : starEach [e] X.env = (false, eval e X.env) :: starEach [] X.env) :
    PE X (.Call (.Name "len" p) [.Call (.Name "set" p2) [e] [] q] [] pos) (fun σ H Q => te σ H fun x H1 => ∃ (l : Addr) (ks : List (Addr × List Int)), x = V.ref l ∧ SqT X.K H1 l (ks.map fun p => V.ref p.1) ∧ (∀ p ∈ ks, SqD H1 p.1 (p.2.map V.int)) ∧ ks.length < 64 ∧ Q (.int ((once (ks.map fun p => p.2)).length : Nat)) H1) := by
  refine ⟨fun pins s σ H Q I h => ?_⟩
  refine Call_ (ld_blt I hg hm PySem.boot_len ?_)
  refine PyProof.Rows.callWith_builtin1 (PyProof.Rows.args_cons ?_ rfl) rfl rfl
  refine Call_ (ld_blt I hg2 hm2 PyProof.Rows.boot_set ?_)
  refine PyProof.Rows.callWith_type1 (PyProof.Rows.args_cons (thn (he.run pins s σ H _ I h) fun v t ⟨x, G, J, rx, w⟩ => PyProof.Rows.args_nil ?_) ns0) ns0 rfl
  obtain ⟨l, ks, rfl, hs, hk, hle, w⟩ := w
  cases rx
  obtain ⟨its, rv, ht, hz⟩ := J.tuple hs
  have e0 : its = ks.map fun p => Value.ref p.1 := by
    clear hk hle w hz ht hs h
    have : ∀ (ks : List (Addr × List Int)) (its : List Value), Vals (ks.map fun p => V.ref p.1) its → its = ks.map fun p => Value.ref p.1 := by
      intro ks
      induction ks with
      | nil => intro its r; cases r; rfl
      | cons k ks ih =>
        intro its r
        rw [List.map_cons] at r
        cases r with
        | cons r1 r2 => cases r1; rw [List.map_cons, ← ih _ r2]
    exact this _ _ rv
  subst e0
  have hu := hX.un
  refine set_of_rows ks (J.ok.hd hX.calm) ht (by simp) (fun p hp => ?_) hle (by omega) fun h' tk L es ep tb R g hkp => ?_
  · obtain ⟨us, r, ⟨o, ho, hc, n, hd⟩, _⟩ := J.tuple (hk p hp).sqt
    exact ⟨o, us.toArray, n, ho, hc, hd, by simpa using items_ints r⟩
  refine PyProof.Rows.args_nil ?_
  have J2 : Inv X pins σ G { t with heap := h', toks := tk } := J.kept hkp
  have R2 : SetTR X.prog X.w ({ t with heap := h', toks := tk } : Shared).heap t.heap.objs.size L es ep tb := R
  obtain ⟨o, ho, hex, hd⟩ := R2.ob
  have sz := R2.size
  have el : L.length = (once (ks.map fun p => p.2)).length := by
    have pm : (L.map fun p => p.2).Perm (once (ks.map fun p => p.2)) := (List.perm_ext_iff_of_nodup R.nd (once_nodup _)).mpr fun x => by
      rw [once_mem, List.mem_map, List.mem_map]
      constructor
      · rintro ⟨p, hp, rfl⟩
        exact ⟨p, List.mem_of_mem_take (g.sub p hp), rfl⟩
      · rintro ⟨p, hp, rfl⟩
        obtain ⟨q, hq, e⟩ := List.mem_map.mp (g.all p (by rw [List.take_length]; exact hp))
        exact ⟨q, hq, e⟩
    have := pm.length_eq
    simpa using this
  exact call_len_set ho hex hd R2.fits (by rw [sz] <;> have := R.few <;> omega) ⟨.int ((once (ks.map fun p => p.2)).length : Nat), G, J2.tok _, ⟨_, by rw [sz, el]⟩, w⟩
theorem de_lenSetT {e : Expr} {p p2 q pos : Pos} {cl : Env → R (List C)} (hX : Xg X) (hm : X.mg "len" = none) (hm2 : X.mg "set" = none) (hl : DL X κ W [e] cl) (hg : Gl X "len" := by rfl) (hg2 : Gl X "set" := by rfl) (hs : noStar e = true := by rfl) :
    DE X κ W (.Call (.Name "len" p) [.Call (.Name "set" p2) [e] [] q] [] pos) (cOp gLenSetT cl) := by
  intro σ ρ H O Q F h
  refine sem_of (pe_setR hX hg hm hg2 hm2 (pe_sem X e) (starEach_of hs [] X.env)) ?_
  have hO : OpN X κ (fun vs H Q => ∃ x, vs = [x] ∧ ∃ (l : Addr) (ks : List (Addr × List Int)), x = V.ref l ∧ SqT X.K H l (ks.map fun p => V.ref p.1) ∧ (∀ p ∈ ks, SqD H p.1 (p.2.map V.int)) ∧ ks.length < 64 ∧ Q (.int ((once (ks.map fun p => p.2)).length : Nat)) H) gLenSetT := by
    intro cs c vs H Q e rs k
    unfold gLenSetT at e
    split at e
    · rename_i ds
      split at e
      · rename_i rows hrows
        split at e
        · rename_i hc
          cases e
          have ed := rowsI_eq hrows
          subst ed
          obtain ⟨x, o1, rfl, r1⟩ := rs.one
          obtain ⟨a, zs, rfl, hs, rz⟩ := r1.tup (ds := _) rfl
          obtain ⟨ks, rfl, e2, hk⟩ := rows_addr rz
          subst e2
          exact ⟨_, rfl, a, ks, rfl, hs, hk, by simpa using hc, kint k⟩
        · cases e
      · cases e
    · cases e
  have := hl σ ρ H O _ F (op_end hO h)
  exact semE_mono this fun x H1 ⟨y, e1, q⟩ => by
    injection e1 with e1 _
    subst e1
    exact q
end
end SW

set_option Elab.async false
set_option linter.all false
set_option maxRecDepth 100000
set_option maxHeartbeats 4000000
set_option autoImplicit false
/-! Sw33: x op= k, and x[a][b] op= k of a slot's list of lists; k a number that is written. -/
namespace SW
open PySem PySem.Spec PyProof.Rows L2
section
variable {X : Cx} {κ : String → Addr} {W : WX} {kp : List Nat}
def sAug (i : Nat) (f : Int → Int → Int) (k : Int) : Env → R Fl := fun ρ => match ρ[i]? with
  | some (some (.v (.int x))) => .ok .nx (ρ.set i (some (.v (.int (f x k)))))
  | _ => .stuck
theorem ds_aug {i : Nat} {x : Str} {k : Int} {f : Int → Int → Int} {op : Operator} {n : Nat} {p1 p2 pos : Pos} (hN : X.N.Nodup) (ho : PIp X op (ipI f)) (hi : X.N[i]? = some x := by rfl) (hx : Loc X.env.scope x := by first | exact Or.inl rfl | exact Or.inr rfl) (hkp : i ∉ kp := by decide)
    (hf : X.fn x = true ∨ X.env.scope.names.lookup x = some .local := by first | exact .inl rfl | exact .inr rfl) : DS X κ W kp (.AugAssign (.Name x p1) op (.Constant (.int k) n p2) pos) (sAug i f k) := by
  intro σ ρ H O D F h
  refine semS_of (ps_aug hN hi hx pe_int ho hf) ?_
  unfold sAug at h
  split at h
  · rename_i z hz
    obtain ⟨v, ev, rc⟩ := F.cv i _ hz
    have hv := rc.2
    unfold Rz at hv
    subst hv
    have hl : i < ρ.length := (List.getElem?_eq_some_iff.mp hz).1
    have F2 := F.put (c := .v (.int (f z k))) (v := .int (f z k)) (ov := []) hl ⟨rfl, by unfold Rz; rfl⟩ (fun a ha => by simp at ha)
    refine ⟨_, ev, z, k, rfl, rfl, h _ _ _ F2 (Kp.set hkp) ⟨fun a o e _ => e, fun a ha => ?_⟩⟩
    rcases ha with ha | ⟨j, hj⟩
    · simp at ha
    · by_cases e : j = i
      · simp [e] at hj
      · exact .inl ⟨j, by simpa [e] using hj⟩
  · exact h.elim
def rGetL : V → V → Hp → VK → Prop := fun o i H Q => ∃ p xs k z, o = .ref p ∧ i = .int k ∧ H p = some (.lst xs) ∧ atI xs k = some z ∧ Q z H
theorem get_list : PGet X rGetL := by
  intro pins s σ H o i ov iv Q I ro ri h
  obtain ⟨p, xs, k, z, rfl, rfl, hp, he, q⟩ := h
  cases ro
  obtain ⟨t, rfl⟩ := ri
  obtain ⟨its, n, r, ho, hz⟩ := I.lst hp
  have pl : s.heap.IsList p its.toArray := ⟨_, ho, rfl, n, rfl⟩
  obtain ⟨j, h1, h2, h3, h4, h5⟩ := atI_get he
  obtain ⟨w, ew, rw'⟩ := r.get h2
  have hl := r.length
  have hn := line63
  by_cases h0 : 0 ≤ k
  · have hj : k.toNat = j := by
      rw [seqIndex_of h0 h5] at h1
      exact Option.some.inj h1
    exact wpAny_getItem_list pl h0 (by omega) (by rw [hj]; simpa using ew) ⟨z, H, I, rw', q⟩
  · have hj : (k + (its.toArray.size : Int)).toNat = j := by
      rw [seqIndex_neg (by omega) h4] at h1
      rw [List.size_toArray, ← hl]
      exact Option.some.inj h1
    exact wpAny_getItem_list_neg pl (by omega) (by rw [List.size_toArray] <;> omega) (by omega) (by rw [hj]; simpa using ew) ⟨z, H, I, rw', q⟩
def sAug2 (i : Nat) (a1 a2 : Env → Option D) (f : Int → Int → Int) (k : Int) : Env → R Fl := fun ρ => match ρ[i]?, a1 ρ, a2 ρ with
  | some (some c), some k1, some k2 => match gGet2 c k1 k2 with
    | some (.int x) => match gSet2 c k1 k2 (.int (f x k)) with
      | some c' => .ok .nx (ρ.set i (some c'))
      | none => .stuck
    | _ => .stuck
  | _, _, _ => .stuck
theorem ds_aug2 {i : Nat} {x : Str} {e1 e2 : Expr} {k : Int} {f : Int → Int → Int} {op : Operator} {n : Nat} {pN pI pT p2 pos : Pos} {a1 a2 : Env → Option D} (ho : PIp X op (ipI f)) (h1 : At X κ e1 a1) (h2 : At X κ e2 a2) (hN : X.N[i]? = some x := by rfl) (hvis : Vis X.env.scope x := by first | exact Or.inl rfl | exact Or.inr (Or.inl rfl) | exact Or.inr (Or.inr rfl)) (hd : (x == ("__debug__" : Str)) = false := by decide)
    (hcd : (x == ("__classdict__" : Str)) = false := by decide) (hpl : PlainIx e1 := by exact fun _ _ => rfl)
    (ha : ∀ ov iv new, augStore e2 ov iv new = (do holding [new, ov, iv] (setItem ov iv new); release [new, ov, iv] []; pure .next) := by intros; rfl) :
    DS X κ W kp (.AugAssign (.Subscript (.Subscript (.Name x pN) e1 pI) e2 pT) op (.Constant (.int k) n p2) pos) (sAug2 i a1 a2 f k) := by
  intro σ ρ H O D F h
  refine semS_of (ps_augS (pe_ix ix_list (pe_var hN hvis hd hcd) (pe_sem X e1) hpl) (pe_sem X e2) get_list pe_int ho set_list ha) ?_
  unfold sAug2 at h
  split at h
  · rename_i c k1 k2 hc hk1 hk2
    split at h
    · rename_i z eg
      split at h
      · rename_i c' es
        obtain ⟨xv, ex, rc⟩ := F.cv i c hc
        obtain ⟨v1, rv1, q1⟩ := h1 σ ρ H O k1 F hk1
        obtain ⟨v2, rv2, q2⟩ := h2 σ ρ H O k2 F hk2
        unfold gGet2 at eg
        split at eg
        · rename_i dss ii jj
          split at eg
          · rename_i a ha1
            split at eg
            · rename_i ds hds
              unfold gSet2 at es
              simp only [ha1, hds] at es
              split at es
              · rename_i b hb
                cases es
                obtain ⟨p, as, rfl, eO, nd, hp, rl⟩ := id rc
                have e1' := Rz_int.mp rv1
                have e2' := Rz_int.mp rv2
                subst e1' e2'
                obtain ⟨pa, vs, epa, hpa, rz⟩ := rl.get hds
                obtain ⟨v, ev, rv⟩ := atI_map rz eg
                have ev' := Rz_int.mp rv
                subst ev'
                have hmem : pa ∈ as := List.mem_of_getElem? epa
                have hne : p ≠ pa := fun q => (List.nodup_cons.mp nd).1 (q ▸ hmem)
                have sb := mut_lst (vs' := vs.set b (.int (f z k))) hpa
                have kq : ∀ c o, H c = some o → c ∉ O i → upd H pa (.lst (vs.set b (.int (f z k)))) c = some o := fun c o eo hc' => by
                  rw [upd_ne (fun q => hc' (by rw [eO, q]; simp [hmem]))]; exact eo
                have rc' : RC X.K κ (upd H pa (.lst (vs.set b (.int (f z k))))) (.ll (dss.set a (ds.set b (.int (f z k))))) (.ref p) (O i) :=
                  ⟨p, as, rfl, eO, nd, by rw [upd_ne hne]; exact hp, RLs_set rl (List.nodup_cons.mp nd).2 epa sb ((Rzs.st sb _ _ rz).set (by unfold Rz; rfl) b)⟩
                refine ⟨_, ex, q1 _ ⟨p, as.map V.ref, ii, .ref pa, rfl, rfl, SqL.of hp, ?_, q2 _ ⟨pa, vs, jj, .int z, rfl, rfl, hpa, ev, z, k, rfl, rfl, pa, vs, jj, b, rfl, rfl, hpa, by rw [← rz.length]; exact hb, ?_⟩⟩⟩
                · unfold atI
                  rw [List.length_map, ← rl.length, ha1]
                  show (as.map V.ref)[a]? = _
                  rw [List.getElem?_map, epa]; rfl
                · exact h σ _ O (F.mut hc ex rc rc' kq) Kp.refl (Nx.mut (sb_mut rc kq) kq)
              · cases es
            · cases eg
          · cases eg
        · cases eg
      · exact h.elim
    · exact h.elim
  · exact h.elim
theorem dsb_aug {kB : Nat} (B : Bd X W kB) {i : Nat} {x : Str} {k : Int} {f : Int → Int → Int} {op : Operator} {n : Nat} {p1 p2 pos : Pos} (ho : PIp X op (ipI f)) (hi : X.N[i]? = some x := by rfl) (hx : Loc X.env.scope x := by first | exact Or.inl rfl | exact Or.inr rfl) (hkp : i ∉ kp := by decide)
    (hf : X.fn x = true ∨ X.env.scope.names.lookup x = some .local := by first | exact .inl rfl | exact .inr rfl) : DS X κ W kp (.AugAssign (.Name x p1) op (.Constant (.int k) n p2) pos) (sAug i f k) := ds_aug B.g.nd ho hi hx hkp hf
end
end SW

set_option Elab.async false
set_option linter.all false
set_option maxRecDepth 100000
set_option maxHeartbeats 4000000
set_option autoImplicit false
/-! Sw34: range(n) for a number n of any size. -/
namespace SW
open PySem PySem.Spec PyProof.Rows L2
theorem turn_rangeL {P : Program} {w : World} {K : PySem.W.Frag} {tg : Expr} (it : Addr) (lo c : Int) (n : Nat) : Turn P w K tg (Itc lo c n) [it] it (fun i h => IsLongIter h it (lo + (i : Nat) * c) ((n : Int) - (i : Nat)) c) where
  mem := by simp
  obj := fun i h st b hb => by
    have e : b = it := by simpa using hb
    subst e
    exact ⟨_, st, fun v z => nomatch z⟩
  keep := fun i h h' st k => k it (by simp) _ st
  item := by
    intro X hP hw hK hc i pins s σ H E I hf st hg
    subst hP hw hK
    obtain ⟨f0, f1, f2, f3, f4, f5⟩ := hf it (by simp)
    have W := Walks.longrange (prog := X.prog) (w := X.w) (I.ok.hd hc) it lo c n
    refine W.item i s _ _ hg st fun v h' tk hv st' kk => ?_
    obtain ⟨t, rfl⟩ := hv
    have I1 : Inv X pins σ H { s with heap := h', toks := tk } := I.turned (fun b o hb e => kk b o (by simpa using hb) e) f0 f1 f3 f4 f5
    exact ⟨_, rfl, go_of (s := { s with heap := h', toks := tk }) (n := "longrange_iterator") st' rfl rfl (by decide) ⟨.int (lo + (i : Nat) * c), H, I1, ⟨t, rfl⟩, ⟨rfl, rfl⟩, st', fun b hb => (hf b hb).1⟩⟩
  done := by
    intro X hP hw hK hc i pins s σ H E I hf st hg
    subst hP hw hK
    obtain ⟨f0, f1, f2, f3, f4, f5⟩ := hf it (by simp)
    exact wpAny_pyNext_long_end (I.ok.hd hc) st (by have : n ≤ i := hg; omega) fun h' eb => ⟨rfl, I.turned (t' := s.toks) (fun b o hb e => eb b o hb e) f0 f1 f3 f4 f5⟩
  self := fun A i s Q E st h => wpAny_pyIter_longiter st h
section
variable {X : Cx} {κ : String → Addr} {W : WX} {tg : Expr}
def iRngB (ta : TA) : TI := fun σ H R => ta σ H fun vs H1 => ∃ j : Int, vs = [.int j] ∧ R (Itc 0 1 j.toNat) H1
theorem pi_rangeB {a : Expr} {ta : TA} {p pos : Pos} (hg : Gl X "range") (hm : X.mg "range" = none) (ha : PA X [a] ta) (hs : starEach [a] X.env = [(false, eval a X.env)] := by rfl) : PI X tg (.Call (.Name "range" p) [a] [] pos) (iRngB ta) := by
  refine ⟨fun pins s σ H R I h => ?_⟩
  refine Call_ (ld_blt I hg hm boot_range (PyProof.Rows.callWith_type1 (thn (ha.run pos pins s σ H _ I h) fun us s1 ⟨vs, H1, I1, r1, q1⟩ => ?_) hs rfl))
  obtain ⟨j, e, q⟩ := q1
  subst e
  cases r1 with
  | cons r rr =>
    cases rr
    obtain ⟨t, rfl⟩ := r
    refine call_range_1 ?_
    have e1 : (0 : Int) + ((0 : Nat) : Int) * 1 = 0 := by simp
    have e2 : ((j.toNat : Nat) : Int) - ((0 : Nat) : Int) = Builtin.Range.rangeSize 0 j 1 := by rw [rangeSize_one]; split <;> omega
    have I2 : Inv X pins σ H1 { s1 with heap := s1.heap.push { cls := .type "range", data := .fields #[.int 0 s1.toks, .int j t, .int 1 (s1.toks + 1)] }, toks := s1.toks + 1 + 1 } := I1.kept (t' := s1.toks + 1 + 1) fun b o e => Heap.get?_push_of_some _ e
    cases hsm : Builtin.Range.small 0 j 1 with
    | true =>
      refine wpAny_pyIter_range (IsRange.new ..) hsm ?_
      refine pi_one (tk := s1.toks + 1 + 1) I2 _ (turn_rangeC _ 0 1 j.toNat) ?_ q
      show IsRangeIter _ _ ((0 : Int) + ((0 : Nat) : Int) * 1) (((j.toNat : Nat) : Int) - ((0 : Nat) : Int)) 1
      rw [e1, e2]
      exact Heap.get?_push_size _ rfl
    | false =>
      refine wpAny_pyIter_longrange (IsRange.new ..) hsm ?_
      refine pi_one (tk := s1.toks + 1 + 1) I2 _ (turn_rangeL _ 0 1 j.toNat) ?_ q
      show IsLongIter _ _ ((0 : Int) + ((0 : Nat) : Int) * 1) (((j.toNat : Nat) : Int) - ((0 : Nat) : Int)) 1
      rw [e1, e2]
      exact Heap.get?_push_size _ rfl
theorem itok_C {K : PySem.W.Frag} {H0 : Hp} {O0 : Nat → List Addr} (n : Nat) : ItOk K κ (Itc 0 1 n) H0 O0 (rangeD 0 n) where
  go := fun H g i d e => by
    unfold rangeD at e
    rw [List.getElem?_map] at e
    obtain ⟨j, ej, rfl⟩ := Option.map_eq_some_iff.mp e
    have hi : i < n := by
      have := (List.getElem?_eq_some_iff.mp ej).1
      simpa using this
    rw [List.getElem?_range hi] at ej
    cases ej
    refine ⟨hi, fun x H' y => ?_⟩
    obtain ⟨rfl, rfl⟩ := y
    refine ⟨Same.refl _, ?_⟩
    unfold Rz
    rw [Int.mul_one]
  stop := fun H g => by show n ≤ _; simp [rangeD]
def gRangeB : List C → Option (List D)
  | [.v (.int j)] => some (rangeD 0 j.toNat)
  | _ => none
def iRangeB (cl : Env → R (List C)) : Env → R (List D) := fun ρ => (cl ρ).bind fun cs ρ1 => match gRangeB cs with
  | some ds => .ok ds ρ1
  | none => .stuck
theorem di_rangeB {a : Expr} {p pos : Pos} {cl : Env → R (List C)} (hm : X.mg "range" = none) (hl : DL X κ W [a] cl) (hg : Gl X "range" := by rfl) (hs : noStar a = true := by rfl) :
    DI X κ W tg (.Call (.Name "range" p) [a] [] pos) (iRangeB cl) := by
  intro σ ρ H O Rq F h
  refine semI_of (pi_rangeB hg hm (pa_semB (es := [a]) (by simp [hs])) (by rw [starEach_of hs]; rfl)) (semL_len (hl σ ρ H O _ F ?_))
  unfold iRangeB at h
  cases h1 : cl ρ with
  | stuck => rw [h1] at h; exact h
  | exn n ρ1 => rw [h1] at h; exact h
  | ok cs ρ1 =>
    rw [h1, R.bind_ok] at h
    intro vs H1 O1 F1 r1 n1 hlen
    unfold gRangeB at h
    split at h
    · rename_i ds hds
      split at hds
      · rename_i j
        cases hds
        obtain ⟨v, ov, rfl, rc⟩ := r1.one
        have := Rz_int.mp rc.2
        subst this
        exact ⟨j, rfl, h _ H1 O1 F1 n1 (itok_C _)⟩
      · cases hds
    · exact h.elim
end
end SW

set_option Elab.async false
set_option linter.all false
set_option maxRecDepth 100000
set_option maxHeartbeats 4000000
set_option autoImplicit false
/-! Sw35: tuple * int. -/
namespace SW
open PySem PySem.Spec PyProof.Rows L2
theorem tuple_mul1 (l : Addr) (items : Array Value) (n : Nat) (dd : Option Addr) (sl : Array (Option Value)) (u : Tok) :
    Meets (Builtin.«tuple.__mul__» ⟨[.ref l, .int 1 u], []⟩) (fun _ R s => s.heap.get? l = some { cls := .type "tuple", dict := dd, data := .seq items n, slots := sl } ∧
      R (.ok (.ret (Value.ref l))) s) :=
  .of_wp fun prog w A R s h => by
    obtain ⟨hp, g, d, tk, os⟩ := s
    obtain ⟨hl, h⟩ := h
    have f1 := AutoSeq1.idx_int
    have c0 : (decide ((1 : Int) < -(2 ^ 63)) || decide ((1 : Int) ≥ 2 ^ 63)) = false := by decide
    have c1 : (items.isEmpty || (1 : Int) == 1) = true := by simp
    wp_walk using wpAny_loadPart' hl
    exact ⟨_, rfl, h⟩
/-- t * k, k from 1 on -/
def rRepN (K : PySem.W.Frag) : R2 := fun x y H Q => ∃ l k xs, x = .ref l ∧ y = .int k ∧ SqT K H l xs ∧ xs ≠ [] ∧ 1 ≤ k ∧ k ≤ 1000 ∧ xs.length ≤ 1000 ∧ (k = 1 → Q (.ref l) H) ∧ NewT (List.replicate k.toNat xs).flatten H Q
section
variable {X : Cx}
theorem op_repN : OpR X (binaryOp .Mult) (rRepN X.K) := by
  intro pins s σ H x y v u Q I rx ry h
  obtain ⟨l, k, xs, rfl, rfl, hT, hne, h1, h2, hz, q1, q⟩ := h
  cases rx
  obtain ⟨t, rfl⟩ := ry
  obtain ⟨its, r, ⟨⟨cls, dd, data, sl⟩, ho, hc, n, hd⟩, hs⟩ := I.tuple hT
  simp only at hc hd
  subst hc hd
  by_cases hk : k = 1
  · subst hk
    exact wpAny_binaryOp_repeat_ref (T := "tuple") (U := "int") (by decide) ⟨_, ho, rfl⟩ (fun s' => typeIs_int s' 1 t) noFill_tuple_mul F.fills_int_mul F.slot_int_rmul repeat_tuple F.slot_int_index.lookup
      (call_meets F.slot_int_rmul (typeIs_int s 1 t) F.entry_int_rmul (F.args_int_rmul_2 _ _) (int_rmul_tuple 1 t l its.toArray n dd sl)
        ⟨ho, rfl, ⟨_, ho, rfl⟩, call_meets F.slot_tuple_mul ⟨_, ho, rfl⟩ F.entry_tuple_mul (F.args_tuple_mul_2 _ _) (tuple_mul1 l its.toArray n dd sl t) ⟨ho, V.ref l, H, I, rfl, q1 rfl⟩⟩)
  have hle : its.length = xs.length := r.length.symm
  have hn : its ≠ [] := fun e => hne (by
    rw [e] at hle
    exact List.eq_nil_of_length_eq_zero hle.symm)
  have hi : its.toArray.isEmpty = false := by
    cases its with
    | nil => exact absurd rfl hn
    | cons a b => rfl
  have hsz0 : its.toArray.size = xs.length := by rw [List.size_toArray, hle]
  have hm : ((its.toArray.size : Nat) : Int) * k ≤ 1000000 := by
    rw [hsz0]
    have a1 : ((xs.length : Nat) : Int) * k ≤ 1000 * k := Int.mul_le_mul_of_nonneg_right (by omega) (by omega)
    omega
  have flen : (List.replicate k.toNat its).flatten.length ≤ sizeLine := by
    rw [PyProof.Rows.lm_len_rep_flat, hle, sizeLine_eq]
    have a1 : k.toNat * xs.length ≤ 1000 * 1000 := Nat.mul_le_mul (by omega) hz
    omega
  have c0 : (decide (k < -(2 ^ 63)) || decide (k ≥ 2 ^ 63)) = false := by
    rw [decide_eq_false (by omega), decide_eq_false (by omega)] <;> rfl
  have c1 : (its.toArray.isEmpty || k == 1) = false := by
    rw [hi, Bool.false_or]
    exact beq_eq_false_iff_ne.mpr hk
  have c2 : (decide (k ≤ 0) || its.toArray.isEmpty) = false := by
    rw [hi, Bool.or_false]
    exact decide_eq_false (by omega)
  have c4 : Builtin.Tuple.tupleTooMany (((its.toArray.size : Nat) : Int) * k) = false := by
    unfold Builtin.Tuple.tupleTooMany
    rw [sizeLine_eq]
    exact decide_eq_false (by omega)
  refine wpAny_binaryOp_repeat_ref (T := "tuple") (U := "int") (by decide) ⟨_, ho, rfl⟩ (fun s' => typeIs_int s' k t) noFill_tuple_mul F.fills_int_mul F.slot_int_rmul repeat_tuple F.slot_int_index.lookup
    (call_meets F.slot_int_rmul (typeIs_int s k t) F.entry_int_rmul (F.args_int_rmul_2 _ _) (int_rmul_tuple k t l its.toArray n dd sl)
      ⟨ho, rfl, ⟨_, ho, rfl⟩, call_meets F.slot_tuple_mul ⟨_, ho, rfl⟩ F.entry_tuple_mul (F.args_tuple_mul_2 _ _) (tuple_mulW l its.toArray n dd sl k t c0 c1 c2 (by omega) c4 (by rw [size_rep, List.size_toArray]; exact flen)) ⟨ho, ?_⟩⟩)
  rw [size_rep]
  exact laid_tup I (r.rep k.toNat) (by rw [PyProof.Rows.lm_len_rep_flat, sizeLine_eq]; have a1 : k.toNat * xs.length ≤ 1000 * 1000 := Nat.mul_le_mul (by omega) hz; omega) q
end
section
variable {X : Cx} {κ : String → Addr}
def gMulT : List C → Option C
  | [.v (.tup ds), .v (.int k)] => if ds ≠ [] ∧ 1 ≤ k ∧ k ≤ 1000 ∧ ds.length ≤ 1000 then some (.v (.tup (List.replicate k.toNat ds).flatten)) else none
  | _ => none
theorem opn_mulT : OpN X κ (sem2 (semR X (binaryOp .Mult))) gMulT := by
  refine opn2 (fun c1 c2 c x y o1 o2 H Q e r1 r2 k => ?_) fun cs c e => ?_
  · unfold gMulT at e
    split at e
    · rename_i ds j heq
      injection heq with h1 h2
      injection h2 with h2 _
      subst h1 h2
      split at e
      · rename_i hb
        cases e
        obtain ⟨a, vs, rfl, ha, ra⟩ := r1.tup (ds := _) rfl
        have := RC_int r2; subst this
        have la := ra.length
        refine semR_of op_repN ⟨a, j, vs, rfl, rfl, ha, fun z => ?_, hb.2.1, hb.2.2.1, by rw [← la]; exact hb.2.2.2, fun z => ?_, ktup k (rep_rz ra _)⟩
        · subst z
          exact hb.1 (List.length_eq_zero_iff.mp (by simpa using la))
        · subst z
          have e1 : (List.replicate (1 : Int).toNat ds).flatten = ds := by simp
          rw [e1] at k
          exact kval k r1.2
      · cases e
    · cases e
  · unfold gMulT at e
    split at e
    · exact ⟨_, _, rfl⟩
    · cases e
end
end SW

set_option Elab.async false
set_option linter.all false
set_option maxRecDepth 100000
set_option maxHeartbeats 4000000
set_option autoImplicit false
/-! Sw36: k in d, k not in d, {k: v} for a slot's own dict. -/
namespace SW
open PySem PySem.Spec PyProof.Rows L2
section
variable {prog : Program} {w : World} {K : Type} [DecidableEq K] {knd : HeapKind prog w K} {A : Around} {E : Value → Shared → Prop} {s : Shared} {d a : Addr} {k : K} {xs : List (K × Addr × Value)}
theorem wpAny_notIn_heap {Q : Value → Shared → Prop} (hu : knd.room A.in1) (hkey : knd.is s.heap k a) (hd : (d == sysModules) = false) (hm : s.heap.DictOfH knd d xs)
    (h : Q (.bool (!(atKey xs k).isSome)) { s with toks := s.toks + knd.draws k }) : wpAny (model prog w) A (compareOp .NotIn (.ref a) (.ref d)) Q E s := by
  show wpAny _ _ (do return .bool (!(← contains (.ref d) (.ref a)))) Q E s
  refine wpAny_bind ?_
  unfold contains
  try with_reducible refine wpAny_holding ?_
  refine wpAny_bind (wpAny_specialOf hm.typeIs slot_dict_contains.lookup ?_)
  show wpAny _ _ (if (some (Value.builtin "dict.__contains__") == some Value.none) = true then _ else _) _ E s
  rw [if_neg (by rw [beq_builtin_none]; exact Bool.false_ne_true)]
  refine wpAny_bind (wpAny_callSpecialUnlessNone?_slot (name := Str.ofString "__contains__") hm.typeIs slot_dict_contains
    (wpAny_call_entry slot_dict_contains hm.typeIs entry_dict_contains ?_ (args_dict_contains _ _)))
  show wpAny _ _ (dictGet d (.ref a) >>= _) _ _ s
  refine wpAny_bind (wpAny_dictGet_heap hu hkey hm ?_)
  cases hf : atKey xs k with
  | some p =>
    rw [hf] at h
    show wpAny _ _ (ret (.bool true)) _ _ _
    exact wpAny_pure ⟨_, rfl, wpAny_truthy_bool (wpAny_pure h)⟩
  | none =>
    rw [hf] at h
    show wpAny _ _ (Builtin.Dict.pendingKey? d (.ref a) >>= _) _ _ _
    exact wpAny_bind (wpAny_pendingKey_other hd (wpAny_pure ⟨_, rfl, wpAny_truthy_bool (wpAny_pure h)⟩))
end
section
variable {X : Cx} {κ : String → Addr} {W : WX}
/-! ### k in d -/
def dIn (neg : Bool) : List C → Option C
  | [.v (.tup ds), .dc kvs] => match dKey (.tup ds) with
    | some kk => if kk.depth ≤ 8 then some (.v (.bl (neg ^^ (dFind kvs kk).isSome))) else none
    | none => none
  | _ => none
def gDIn : List C → Option C := dIn false
def gDNotIn : List C → Option C := dIn true
theorem opn_dnotIn (hX : Xg X) : OpN X κ (sem2 (semR X (compareOp .NotIn))) gDNotIn := by
  refine opn2 (fun c1 c2 c x y o1 o2 H Q e r1 r2 k => ?_) fun cs c e => ?_
  · unfold gDNotIn dIn at e
    split at e
    · rename_i ds kvs heq
      injection heq with h1 h2
      injection h2 with h2 _
      subst h1 h2
      split at e
      · rename_i kk hkk
        split at e
        · rename_i hc
          cases e
          obtain ⟨a, rfl, rfl, hdc⟩ := r2
          have rk := r1.2
          intro pins s σ u v I rx ry
          cases ry
          have rk' := rk
          unfold Rz at rk'
          obtain ⟨b, vs, rfl, _, _⟩ := rk'
          have nk := nested_of I _ kk _ u hkk rk rx
          cases rx
          obtain ⟨xs, us, g1, g2, g3, g4, g5, hm⟩ := dict_of I hdc
          have fr := find_rel (k := kk) g4 g5
          have es : (dFind kvs kk).isSome = (atKey (ez xs us) kk).isSome := by
            cases ef : dFind kvs kk with
            | none =>
              rw [ef] at fr
              cases eg : atKey (ez xs us) kk with
              | none => rfl
              | some p => rw [eg] at fr; exact fr.elim
            | some d =>
              rw [ef] at fr
              cases eg : atKey (ez xs us) kk with
              | none => rw [eg] at fr; exact fr.elim
              | some p => rfl
          have kk2 := kbl k
          rw [Bool.true_xor, es] at kk2
          exact wpAny_notIn_heap (knd := nestedKind X.prog X.w) (room_k hX) ⟨nk, hc⟩ g2 hm ⟨.bl _, H, I.kept (t' := s.toks + (nestedKind X.prog X.w).draws kk) fun _ _ q => q, rfl, kk2⟩
        · cases e
      · cases e
    · cases e
  · unfold gDNotIn dIn at e
    split at e
    · exact ⟨_, _, rfl⟩
    · cases e
/-! ### {k: v} -/
def cDict1 (ck cv : Env → R C) : Env → R C := fun ρ => match ck ρ with
  | .ok (.v (.tup ds)) ρ1 => (match cv ρ1 with
    | .ok (.v d) ρ2 => (match dKey (.tup ds) with
      | some kk => if kk.depth ≤ 8 then .ok (.dc [(.tup ds, d)]) ρ2 else .stuck
      | none => .stuck)
    | _ => .stuck)
  | _ => .stuck
theorem de_dict1 (hX : Xg X) {ek ev : Expr} {ck cv : Env → R C} {pos : Pos} (hk : DE X κ W ek ck) (hv : DE X κ W ev cv) : DE X κ W (.Dict [some ek] [ev] pos) (cDict1 ck cv) := by
  intro σ ρ H O Q F h pins s I
  unfold cDict1 at h
  cases e1 : ck ρ with
  | stuck => rw [e1] at h; exact h.elim
  | exn n ρ1 => rw [e1] at h; exact h.elim
  | ok c1 ρ1 =>
    rw [e1] at h
    try dsimp only at h
    split at h
    · rename_i ds ρ1' heq
      injection heq with hc1 hr1
      subst hc1 hr1
      cases e2 : cv ρ1 with
      | stuck => rw [e2] at h; exact h.elim
      | exn n ρ2 => rw [e2] at h; exact h.elim
      | ok c2 ρ2 =>
        rw [e2] at h
        try dsimp only at h
        split at h
        · rename_i d ρ2' heq2
          injection heq2 with hc2 hr2
          subst hc2 hr2
          split at h
          · rename_i kk hkk
            split at h
            · rename_i hdep
              have room : (nestedKind X.prog X.w).room X.A := by
                have := hX.un
                show X.A.units + 8 < cLine
                omega
              rw [arm_eval_Dict, zip_pairTrees [some ek] [ev] X.env pos rfl rfl, dictDisplay_pairs _ (by simp [pairTrees]) (by simp [pairTrees])]
              refine wpAny_bind (wpAny_standAt (wpAny_bind (wpAny_subDictH (knd := nestedKind X.prog X.w) (Q := fun d s' => wpAny (model X.prog X.w) X.A (pure (Value.ref d)) (EP X pins σ Q) X.xe s') room (by simp [pairTrees]) ?_)))
              have hp : H s.heap.objs.size = none := I.hok.fresh (Nat.le_refl _)
              have hs : (s.heap.objs.size == sysModules) = false := beq_eq_false_iff_ne.mpr (Ne.symm (Nat.ne_of_lt I.big))
              have I1 : Inv X pins σ (upd H s.heap.objs.size (.ext (RawD s.heap.objs.size []))) { s with heap := s.heap.push { cls := .type "dict", data := .dict #[] } } := I.laid (a := s.heap.objs.size) (o := .ext (RawD s.heap.objs.size [])) (t' := s.toks) (fun _ _ q => Heap.get?_push_of_some _ q) (Nat.le_refl _) (raw_new s.heap)
              generalize s.heap.objs.size = p at *
              have sm : Same H (upd H p (.ext (RawD p []))) := same_upd hp
              have pO : ∀ i, p ∉ O i := fun i hi => by
                obtain ⟨o, eo, _⟩ := F.own hi
                rw [hp] at eo; cases eo
              refine pairTrees_cons_walk (thn (hk σ ρ _ O (fun v H1 => ∃ O1, Fr X.K κ H1 σ ρ1 O1 ∧ RC X.K κ H1 (.v (.tup ds)) v [] ∧ Nx (upd H p (.ext (RawD p []))) H1 O O1 []) (F.same sm) (by
                rw [e1]
                intro v H1 O1 ov F1 r1 d1 n1
                have := r1.1
                subst this
                exact ⟨O1, F1, r1, n1⟩) pins _ I1) fun u1 s1 ⟨v1, H1, I2, ru1, O1, F1, r1, n1⟩ => ?_)
              refine thn (hv σ ρ1 H1 O1 (fun v H2 => ∃ O2, Fr X.K κ H2 σ ρ2 O2 ∧ RC X.K κ H2 (.v d) v [] ∧ Nx H1 H2 O1 O2 []) F1 (by
                rw [e2]
                intro v H2 O2 ov F2 r2 d2 n2
                have := r2.1
                subst this
                exact ⟨O2, F2, r2, n2⟩) pins _ I2) fun u2 s2 ⟨v2, H2, I3, ru2, O2, F2, r2, n2⟩ => pairTrees_nil_walk ?_
              have h1p : H1 p = some (.ext (RawD p [])) := n1.gw p _ upd_same (.inr pO)
              have pO1 : ∀ i, p ∉ O1 i := fun i hi => by
                rcases n1.nw p (.inr ⟨i, hi⟩) with ⟨j, hj⟩ | z
                · exact pO j hj
                · rw [upd_same] at z; cases z
              have h2p : H2 p = some (.ext (RawD p [])) := n2.gw p _ h1p (.inr pO1)
              have nn := n1.trans n2
              have pO2 : ∀ i, p ∉ O2 i := fun i hi => by
                rcases nn.nw p (.inr ⟨i, hi⟩) with ⟨j, hj⟩ | z
                · exact pO j hj
                · rw [upd_same] at z; cases z
              have hdc : DcR X.K κ H2 [] p := ⟨[], h2p, hs, List.nodup_nil, rfl⟩
              obtain ⟨xs, us, g1, g2, g3, g4, g5, hm⟩ := dict_of I3 hdc
              have xl := g4.length
              have : xs = [] := List.length_eq_zero_iff.mp (by simpa using xl.symm)
              subst this
              have rk : Rz X.K κ H2 (.tup ds) v1 := Rz.st n2.sb _ _ r1.2
              have rd : Rz X.K κ H2 d v2 := r2.2
              have rk' := rk
              unfold Rz at rk'
              obtain ⟨b, vs, rfl, _, _⟩ := rk'
              have nk := nested_of I3 _ kk _ u1 hkk rk ru1
              cases ru1
              refine ⟨[(kk, b, u2)], ⟨rfl, rfl, ⟨nk, hdep⟩, trivial⟩, hm, fun h' tk hm' sb => wpAny_pure ?_⟩
              have hm2 : h'.DictOfH (nestedKind X.prog X.w) p (ez [(kk, b, v2)] [u2]) := hm'
              obtain ⟨raw, nd, ob⟩ := raw_of hm2 (.cons ru2 .nil) fun y hy => by
                rw [List.mem_singleton.mp hy]; exact ⟨_, hkk⟩
              have new : ObjOk X.prog X.w (upd H2 p (.ext (RawD p [(kk, b, v2)]))) h' p (.ext (RawD p [(kk, b, v2)])) :=
                ⟨raw, ob, fun g1 g2 ⟨o, es, ep, us, q1, q2⟩ k => ⟨o, es, ep, us, k o q1, q2⟩⟩
              have sbH : Sb H2 (upd H2 p (.ext (RawD p [(kk, b, v2)]))) := fun c o ec st => by
                by_cases hb : c = p
                · subst hb; rw [h2p] at ec; cases ec; exact st.elim
                · rw [upd_ne hb]; exact ec
              refine ⟨V.ref p, _, I3.write (x := p) (e := p) (by rw [h2p]; trivial) (.inl rfl) (fun c w hc' ec => (sb.2 c hc').trans ec) ob new, rfl, ?_⟩
              refine h (.ref p) _ O2 [p] ⟨F2.len, fun i c e => ?_, F2.em, F2.dj⟩ ⟨p, rfl, rfl, [(kk, b, v2)], upd_same, hs, nd, ?_⟩ (fun a ha i hi => ?_) ⟨fun a o ea st => ?_, fun a ha => ?_⟩
              · obtain ⟨v, e1, r⟩ := F2.cv i c e
                exact ⟨v, e1, r.st sbH fun a ha => upd_ne fun z => pO2 i (z ▸ ha)⟩
              · have := RDs.snoc (K := X.K) (κ := κ) (H := upd H2 p (.ext (RawD p [(kk, b, v2)]))) (k := .tup ds) (d := d) (kk := kk) (b := b) (dv := v2) ⟨hkk, hdep⟩ (Rz.st sbH _ _ rk) (Rz.st sbH _ _ rd) (kvs := []) (xs := []) rfl
                exact this
              · have : a = p := by simpa using ha
                subst this; exact pO2 i hi
              · have ne : a ≠ p := fun z => by rw [z, hp] at ea; cases ea
                rw [upd_ne ne]
                exact nn.gw a o (by rw [upd_ne ne]; exact ea) st
              · rcases ha with ha | ⟨i, hi⟩
                · have : a = p := by simpa using ha
                  subst this; exact .inr hp
                · rcases nn.nw a (.inr ⟨i, hi⟩) with z | z
                  · exact .inl z
                  · refine .inr ?_
                    by_cases e : a = p
                    · rw [e, upd_same] at z; cases z
                    · rw [upd_ne e] at z; exact z
            · exact h.elim
          · exact h.elim
        · exact h.elim
    · exact h.elim
end
end SW

set_option Elab.async false
set_option linter.all false
set_option maxRecDepth 100000
set_option maxHeartbeats 4000000
namespace SW
open PySem PySem.Spec PyProof.Rows L2
/-! ### need_corner: 0 web, 1 k -/
def c_need_corner : Env → R Fl :=
  (cIf (cOr (cTest (cOp gLt (cSlot 1 (cCons (cC (.int 0)) cNil)))) (cTest (cOp gGe (cSlot 1 (cCons (cOp gLen (cSlot 0 cNil)) cNil)))))
    (sRaise "NoCorner")
    sNil)
def f_need_corner : FSem := mkF 2 0 [] c_need_corner
/-! ### arrows: 0 web, 1 i, 2 j -/
def c_arrows : Env → R Fl :=
  (sRet (cOp gMax (cCons (cC (.int 0)) (cCons (cOp gIx (cCons (cOp gIx (cSlot 0 (cSlot 1 cNil))) (cSlot 2 cNil))) cNil))))
def f_arrows : FSem := mkF 3 0 [] c_arrows
/-! ### number_behind: 0 web, 1 k, 2 i, 3 j -/
def c_number_behind : Env → R Fl :=
  (sSeq (cIf (cOr (cTest (cOp gEq (cSlot 2 (cSlot 1 cNil)))) (cTest (cOp gEq (cSlot 3 (cSlot 1 cNil)))))
    (sRet (cOp gNeg (cCons (cOp gIx (cCons (cOp gIx (cSlot 0 (cSlot 2 cNil))) (cSlot 3 cNil))) cNil)))
    sNil)
  (sRet (cOp gSub (cCons (cOp gAdd (cCons (cOp gIx (cCons (cOp gIx (cSlot 0 (cSlot 2 cNil))) (cSlot 3 cNil))) (cCons (cOp gMul (cCons (cCall f_arrows (aVal (cVar 0) (aVal (cVar 2) (aVal (cVar 1) aNil)))) (cCons (cCall f_arrows (aVal (cVar 0) (aVal (cVar 1) (aVal (cVar 3) aNil)))) cNil))) cNil))) (cCons (cOp gMul (cCons (cCall f_arrows (aVal (cVar 0) (aVal (cVar 3) (aVal (cVar 1) aNil)))) (cCons (cCall f_arrows (aVal (cVar 0) (aVal (cVar 1) (aVal (cVar 2) aNil)))) cNil))) cNil)))))
def f_number_behind : FSem := mkF 4 0 [] c_number_behind
/-! ### turned: 0 web, 1 k, 2 many, 3 rows, 4 j, 5 i, 6 row -/
def c_turned : Env → R Fl :=
  (sSeq (sEx (cCall f_need_corner (aVal (cVar 0) (aVal (cVar 1) aNil))))
  (sSeq (sSet (.nm 2) (cOp gLen (cSlot 0 cNil)))
  (sSeq (sSet (.nm 3) (cComp [5] (.nm 5) (iRange (cSlot 2 cNil)) cYes (cOp gTuple (cCons (cComp [4] (.nm 4) (iRange (cSlot 2 cNil)) cYes (cCall f_number_behind (aVal (cVar 0) (aVal (cVar 1) (aVal (cVar 5) (aVal (cVar 4) aNil)))))) cNil))))
  (sSeq (sFor (iVal (cVarF 3)) (.nm 6)
    (cIf (cOr (cTest (cOp gGt (cCons (cOp gMax (cSlot 6 cNil)) (cCons (cC (.int 1000000000000000000000000000000)) cNil)))) (cTest (cOp gLt (cCons (cOp gMin (cSlot 6 cNil)) (cCons (cOp gNeg (cCons (cC (.int 1000000000000000000000000000000)) cNil)) cNil)))))
    (sRaise "TooMany")
    sNil))
  (sRet (cOp gTuple (cSlot 3 cNil)))))))
def f_turned : FSem := mkF 2 5 [] c_turned
/-! ### _law_draw: 0 _law_tape, 1 _law_many, 2 _law_prime, 3 _law_cell, 4 _law_found -/
def c_law_draw : Env → R Fl :=
  (sSeq (sSet (.nm 2) (cC (.int 2305843009213693951)))
  (sSeq (cIf (cTest (cOp gLt (cCons (cOp gIx (cSlot 0 (cCons (cC (.int 2)) cNil))) (cSlot 1 cNil))))
    (sSeq (sSet (.nm 3) (cC (.int 0)))
  (sSeq (cIf (cTest (cOp gGt (cCons (cOp gLen (cCons (cOp gIx (cSlot 0 (cCons (cC (.int 0)) cNil))) cNil)) (cCons (cC (.int 0)) cNil))))
    (sSet (.nm 3) (cOp gIx (cCons (cOp gIx (cSlot 0 (cCons (cC (.int 0)) cNil))) (cCons (cOp gMod (cCons (cOp gIx (cSlot 0 (cCons (cC (.int 1)) cNil))) (cCons (cOp gLen (cCons (cOp gIx (cSlot 0 (cCons (cC (.int 0)) cNil))) cNil)) cNil))) cNil))))
    sNil)
  (sSeq (cIf (cOr (cTest (cOp gGe (cCons (cOp gIx (cSlot 0 (cCons (cC (.int 1)) cNil))) (cCons (cOp gLen (cCons (cOp gIx (cSlot 0 (cCons (cC (.int 0)) cNil))) cNil)) cNil)))) (cTest (cOp gLt (cSlot 3 (cCons (cOp gPow (cCons (cC (.int 10)) (cCons (cC (.int 18)) cNil))) cNil)))))
    (sSeq (sSet (.nm 3) (cOp gMod (cCons (cOp gAdd (cSlot 3 (cCons (cOp gMul (cCons (cC (.int 1000003)) (cCons (cOp gIx (cSlot 0 (cCons (cC (.int 1)) cNil))) cNil))) cNil))) (cSlot 2 cNil))))
  (sSeq (sSet (.nm 3) (cOp gMod (cCons (cOp gAdd (cCons (cOp gAdd (cCons (cOp gMul (cSlot 3 (cSlot 3 cNil))) (cCons (cOp gMul (cCons (cC (.int 1181783497276652981)) (cSlot 3 cNil))) cNil))) (cCons (cC (.int 2049848353892358983)) cNil))) (cSlot 2 cNil))))
  (sSet (.nm 3) (cOp gMod (cCons (cOp gAdd (cCons (cOp gMul (cSlot 3 (cSlot 3 cNil))) (cCons (cC (.int 1442695040888963407)) cNil))) (cSlot 2 cNil))))))
    sNil)
  (sSeq (sSetIx 0 gSetIx (cC (.int 1)) (cOp gAdd (cCons (cOp gIx (cSlot 0 (cCons (cC (.int 1)) cNil))) (cCons (cC (.int 1)) cNil))))
  (sSetIx 0 gSetIx (cC (.int 2)) (cVar 3))))))
    sNil)
  (sSeq (sSet (.nm 4) (cOp gMod (cCons (cOp gIx (cSlot 0 (cCons (cC (.int 2)) cNil))) (cSlot 1 cNil))))
  (sSeq (sSetIx 0 gSetIx (cC (.int 2)) (cOp gFdiv (cCons (cOp gIx (cSlot 0 (cCons (cC (.int 2)) cNil))) (cSlot 1 cNil))))
  (sRet (cVar 4))))))
def f_law_draw : FSem := mkF 2 3 [0] c_law_draw
/-! ### _law_whole: 0 _law_thing -/
def c_law_whole : Env → R Fl :=
  (sRet (cBl (cAnd (cTest (cOp gIsi (cSlot 0 (cCons (cC (.ty "int")) cNil)))) (cTest (cBl (cNot (cTest (cOp gIsi (cSlot 0 (cCons (cC (.ty "bool")) cNil))))))))))
def f_law_whole : FSem := mkF 1 0 [] c_law_whole
/-! ### _law_table: 0 _law_many, 1 _law_ties, 2 _law_rows, 3 _law_i, 4 _law_j, 5 _law_often, 6 _law_row -/
def c_law_table : Env → R Fl :=
  (sSeq (sSet (.nm 2) (cCompL [3] (.nm 3) (iRange (cSlot 0 cNil)) cYes (cOp gMul (cCons (cOp gLst (cCons (cC (.int 0)) cNil)) (cSlot 0 cNil)))))
  (sSeq (sFor (iVal (cVar 1)) (.tp [(.nm 3), (.nm 4), (.nm 5)])
    (sSeq (sSet2 2 (aVar 3) (aVar 4) (cOp gAdd (cCons (cGet2 2 (aVar 3) (aVar 4)) (cSlot 5 cNil))))
  (sSet2 2 (aVar 4) (aVar 3) (cOp gSub (cCons (cGet2 2 (aVar 4) (aVar 3)) (cSlot 5 cNil))))))
  (sRet (cOp gTuple (cCons (cComp [6] (.nm 6) (iVal (cVarF 2)) cYes (cOp gTuple (cSlot 6 cNil))) cNil)))))
def f_law_table : FSem := mkF 2 5 [] c_law_table
/-! ### _law_line: 0 _law_tape, 1 _law_many, 2 _law_ties, 3 _law_i, 4 _law_at -/
def c_law_line : Env → R Fl :=
  (sSeq (sSet (.nm 2) (cOp gLst cNil))
  (sSeq (sFor (iRange (cCons (cC (.int 1)) (cSlot 1 cNil))) (.nm 3)
    (sSeq (sSet (.nm 4) (cOp gSub (cSlot 3 (cCons (cC (.int 1)) cNil))))
  (sSeq (cIf (cAnd (cTest (cOp gGt (cSlot 3 (cCons (cC (.int 2)) cNil)))) (cAnd (cTest (cOp gEq (cSlot 3 (cCons (cOp gSub (cSlot 1 (cCons (cC (.int 1)) cNil))) cNil)))) (cTest (cOp gEq (cCons (cCall f_law_draw (aSlot 0 (aVal (cC (.int 3)) aNil))) (cCons (cC (.int 0)) cNil))))))
    (sSet (.nm 4) (cOp gSub (cSlot 3 (cCons (cC (.int 2)) cNil))))
    sNil)
  (sEx (cMeth 2 gAppend (cCons (cOp gIx (cCons (cOp gLst (cCons (cOp gTup (cCons (cVar 4) (cCons (cVar 3) (cCons (cC (.int 1)) cNil)))) (cCons (cOp gTup (cCons (cVar 3) (cCons (cVar 4) (cCons (cC (.int 1)) cNil)))) cNil))) (cCons (cCall f_law_draw (aSlot 0 (aVal (cC (.int 2)) aNil))) cNil))) cNil))))))
  (sRet (cCall f_law_table (aVal (cVar 1) (aVal (cVarF 2) aNil))))))
def f_law_line : FSem := mkF 2 3 [0] c_law_line
/-! ### _law_numbered: 0 _law_web_here, 1 _law_order_here, 2 _law_j, 3 _law_i -/
def c_law_numbered : Env → R Fl :=
  (sRet (cOp gTuple (cCons (cComp [3] (.nm 3) (iVal (cVar 1)) cYes (cOp gTuple (cCons (cComp [2] (.nm 2) (iVal (cVar 1)) cYes (cOp gIx (cCons (cOp gIx (cSlot 0 (cSlot 3 cNil))) (cSlot 2 cNil)))) cNil))) cNil)))
def f_law_numbered : FSem := mkF 2 2 [] c_law_numbered
/-! ### _law_order: 0 _law_tape, 1 _law_many, 2 _law_left, 3 _law_found -/
def c_law_order : Env → R Fl :=
  (sSeq (sSet (.nm 2) (cOp gListR (cSlot 1 cNil)))
  (sSeq (sSet (.nm 3) (cOp gLst cNil))
  (sSeq (sWhile (fun _ => 1000000) (cTest (cOp gNe (cSlot 2 (cCons (cOp gLst cNil) cNil))))
    (sEx (cMeth 3 gAppend (cCons (cMeth 2 gPop (cCons (cCall f_law_draw (aSlot 0 (aVal (cOp gLen (cSlot 2 cNil)) aNil))) cNil)) cNil))))
  (sRet (cOp gTuple (cSlot 3 cNil))))))
def f_law_order : FSem := mkF 2 2 [0] c_law_order
/-! ### _law_shuffled_web: 0 _law_tape, 1 _law_web_here -/
def c_law_shuffled_web : Env → R Fl :=
  (sRet (cCall f_law_numbered (aVal (cVar 1) (aVal (cCall f_law_order (aSlot 0 (aVal (cOp gLen (cSlot 1 cNil)) aNil))) aNil))))
def f_law_shuffled_web : FSem := mkF 2 0 [0] c_law_shuffled_web
/-! ### _law_web: 0 _law_tape, 1 _law_most, 2 _law_many, 3 _law_way, 4 _law_i, 5 _law_ties, 6 _law_j, 7 _law_often -/
def c_law_web : Env → R Fl :=
  (sSeq (sSet (.nm 2) (cOp gAdd (cCons (cC (.int 1)) (cCons (cCall f_law_draw (aSlot 0 (aVal (cVar 1) aNil))) cNil))))
  (sSeq (sSet (.nm 3) (cCall f_law_draw (aSlot 0 (aVal (cC (.int 6)) aNil))))
  (sSeq (cIf (cTest (cOp gEq (cSlot 3 (cCons (cC (.int 0)) cNil))))
    (sRet (cCall f_law_shuffled_web (aSlot 0 (aVal (cCall f_law_line (aSlot 0 (aVal (cVar 2) aNil))) aNil))))
    sNil)
  (sSeq (cIf (cAnd (cTest (cOp gEq (cSlot 3 (cCons (cC (.int 1)) cNil)))) (cTest (cOp gGt (cSlot 2 (cCons (cC (.int 2)) cNil)))))
    (sRet (cCall f_law_shuffled_web (aSlot 0 (aVal (cCall f_law_table (aVal (cVar 2) (aVal (cFz (cComp [4] (.nm 4) (iRange (cSlot 2 cNil)) cYes (cOp gTup (cCons (cVar 4) (cCons (cOp gMod (cCons (cOp gAdd (cSlot 4 (cCons (cC (.int 1)) cNil))) (cSlot 2 cNil))) (cCons (cC (.int 1)) cNil)))))) aNil))) aNil))))
    sNil)
  (sSeq (sSet (.nm 5) (cOp gLst cNil))
  (sSeq (sFor (iRange (cSlot 2 cNil)) (.nm 4)
    (sFor (iRange (cCons (cOp gAdd (cSlot 4 (cCons (cC (.int 1)) cNil))) (cSlot 2 cNil))) (.nm 6)
    (sSeq (sSet (.nm 7) (cOp gIx (cCons (cOp gLst (cCons (cOp gSub (cCons (cCall f_law_draw (aSlot 0 (aVal (cC (.int 3)) aNil))) (cCons (cC (.int 1)) cNil))) (cCons (cOp gSub (cCons (cCall f_law_draw (aSlot 0 (aVal (cC (.int 5)) aNil))) (cCons (cC (.int 2)) cNil))) (cCons (cOp gSub (cCons (cCall f_law_draw (aSlot 0 (aVal (cC (.int 19)) aNil))) (cCons (cC (.int 9)) cNil))) cNil)))) (cCons (cOp gMod (cSlot 3 (cCons (cC (.int 3)) cNil))) cNil))))
  (sEx (cMeth 5 gAppend (cCons (cOp gTup (cCons (cVar 4) (cCons (cVar 6) (cCons (cOp gMul (cSlot 7 (cCons (cOp gInt (cCons (cBl (cOr (cTest (cOp gEq (cSlot 3 (cCons (cC (.int 5)) cNil)))) (cTest (cOp gGt (cCons (cCall f_law_draw (aSlot 0 (aVal (cC (.int 3)) aNil))) (cCons (cC (.int 0)) cNil)))))) cNil)) cNil))) cNil)))) cNil))))))
  (sRet (cCall f_law_table (aVal (cVar 2) (aVal (cVarF 5) aNil))))))))))
def f_law_web : FSem := mkF 2 6 [0] c_law_web
/-! ### _law_turn: 0 _law_web_here, 1 _law_k, 2 _law_many, 3 _law_rows, 4 _law_i, 5 _law_row, 6 _law_j, 7 _law_one, 8 _law_two, 9 _law_both -/
def c_law_turn : Env → R Fl :=
  (sSeq (sSet (.nm 2) (cOp gLen (cSlot 0 cNil)))
  (sSeq (sSet (.nm 3) (cOp gLst cNil))
  (sSeq (sFor (iRange (cSlot 2 cNil)) (.nm 4)
    (sSeq (sSet (.nm 5) (cOp gLst cNil))
  (sSeq (sFor (iRange (cSlot 2 cNil)) (.nm 6)
    (cIf (cOr (cTest (cOp gEq (cSlot 4 (cSlot 1 cNil)))) (cTest (cOp gEq (cSlot 6 (cSlot 1 cNil)))))
    (sEx (cMeth 5 gAppend (cCons (cOp gSub (cCons (cC (.int 0)) (cCons (cOp gIx (cCons (cOp gIx (cSlot 0 (cSlot 4 cNil))) (cSlot 6 cNil))) cNil))) cNil)))
    (sSeq (sSet (.nm 7) (cOp gIx (cCons (cOp gIx (cSlot 0 (cSlot 4 cNil))) (cSlot 1 cNil))))
  (sSeq (sSet (.nm 8) (cOp gIx (cCons (cOp gIx (cSlot 0 (cSlot 1 cNil))) (cSlot 6 cNil))))
  (sSeq (sSet (.nm 9) (cOp gAdd (cCons (cOp gMul (cCons (cOp gAbs (cSlot 7 cNil)) (cSlot 8 cNil))) (cCons (cOp gMul (cSlot 7 (cCons (cOp gAbs (cSlot 8 cNil)) cNil))) cNil))))
  (sEx (cMeth 5 gAppend (cCons (cOp gAdd (cCons (cOp gIx (cCons (cOp gIx (cSlot 0 (cSlot 4 cNil))) (cSlot 6 cNil))) (cCons (cOp gFdiv (cSlot 9 (cCons (cC (.int 2)) cNil))) cNil))) cNil))))))))
  (sEx (cMeth 3 gAppend (cCons (cOp gTuple (cSlot 5 cNil)) cNil))))))
  (sRet (cOp gTuple (cSlot 3 cNil))))))
def f_law_turn : FSem := mkF 2 8 [] c_law_turn
/-! ### _law_odd_corner: 0 _law_tape, 1 _law_many -/
def c_law_odd_corner : Env → R Fl :=
  (sRet (cOp gIx (cCons (cOp gLst (cCons (cOp gNeg (cCons (cC (.int 1)) cNil)) (cCons (cVar 1) (cCons (cOp gAdd (cSlot 1 (cCons (cCall f_law_draw (aSlot 0 (aVal (cOp gPow (cCons (cC (.int 10)) (cCons (cC (.int 40)) cNil))) aNil))) cNil))) (cCons (cOp gSub (cCons (cOp gNeg (cCons (cC (.int 1)) cNil)) (cCons (cCall f_law_draw (aSlot 0 (aVal (cOp gPow (cCons (cC (.int 10)) (cCons (cC (.int 40)) cNil))) aNil))) cNil))) cNil))))) (cCons (cCall f_law_draw (aSlot 0 (aVal (cC (.int 4)) aNil))) cNil))))
def f_law_odd_corner : FSem := mkF 2 0 [0] c_law_odd_corner
end SW

set_option Elab.async false
set_option linter.all false
set_option maxRecDepth 100000
set_option maxHeartbeats 4000000
namespace SW
open PySem PySem.Spec PyProof.Rows L2
def caught_WebError : String → Option Bool := fun n => if n = "NoCorner" then some true else if n = "TooMany" then some true else none
def subE : String → String → Option Bool := fun n m => if n = "NoCorner" ∧ m = "NoCorner" then some true else if n = "NoCorner" ∧ m = "NoCut" then some false else if n = "NoCorner" ∧ m = "NoCuts" then some false else if n = "NoCorner" ∧ m = "NoName" then some false else if n = "NoCorner" ∧ m = "NoOrder" then some false else if n = "NoCorner" ∧ m = "NoPart" then some false else if n = "NoCorner" ∧ m = "NoRow" then some false else if n = "NoCorner" ∧ m = "NoSum" then some false else if n = "NoCorner" ∧ m = "NoText" then some false else if n = "NoCorner" ∧ m = "NoWeb" then some false else if n = "NoCorner" ∧ m = "NothingLeft" then some false else if n = "NoCorner" ∧ m = "TooMany" then some false else if n = "TooMany" ∧ m = "NoCorner" then some false else if n = "TooMany" ∧ m = "NoCut" then some false else if n = "TooMany" ∧ m = "NoCuts" then some false else if n = "TooMany" ∧ m = "NoName" then some false else if n = "TooMany" ∧ m = "NoOrder" then some false else if n = "TooMany" ∧ m = "NoPart" then some false else if n = "TooMany" ∧ m = "NoRow" then some false else if n = "TooMany" ∧ m = "NoSum" then some false else if n = "TooMany" ∧ m = "NoText" then some false else if n = "TooMany" ∧ m = "NoWeb" then some false else if n = "TooMany" ∧ m = "NothingLeft" then some false else if n = "TooMany" ∧ m = "TooMany" then some true else none
def subTE : String → String → Option Bool := fun n m => if n = "NoCorner" ∧ m = "ValueError" then some true else if n = "TooMany" ∧ m = "ValueError" then some true else none
/-! ### _law_word: 0 _law_error, 1 _law_sorts, 2 _law_words -/
def c_law_word : Env → R Fl :=
  (sSeq (sSet (.nm 1) (cFz (cOp gLst (cCons (cOp (gIsE subE subTE) (cSlot 0 (cCons (cC (.cls "NoWeb")) cNil))) (cCons (cOp (gIsE subE subTE) (cSlot 0 (cCons (cC (.cls "NoCorner")) cNil))) (cCons (cOp (gIsE subE subTE) (cSlot 0 (cCons (cC (.cls "NoOrder")) cNil))) cNil))))))
  (sSeq (sSet (.nm 1) (cFz (cOp gAdd (cSlot 1 (cCons (cOp gLst (cCons (cOp (gIsE subE subTE) (cSlot 0 (cCons (cC (.cls "NoSum")) cNil))) (cCons (cOp (gIsE subE subTE) (cSlot 0 (cCons (cC (.cls "NoPart")) cNil))) (cCons (cOp (gIsE subE subTE) (cSlot 0 (cCons (cC (.cls "TooMany")) cNil))) cNil)))) cNil)))))
  (sSeq (sSet (.nm 1) (cFz (cOp gAdd (cSlot 1 (cCons (cOp gLst (cCons (cOp (gIsE subE subTE) (cSlot 0 (cCons (cC (.cls "NoCuts")) cNil))) (cCons (cOp (gIsE subE subTE) (cSlot 0 (cCons (cC (.cls "NoCut")) cNil))) (cCons (cOp (gIsE subE subTE) (cSlot 0 (cCons (cC (.cls "NothingLeft")) cNil))) cNil)))) cNil)))))
  (sSeq (sSet (.nm 1) (cFz (cOp gAdd (cSlot 1 (cCons (cOp gLst (cCons (cOp (gIsE subE subTE) (cSlot 0 (cCons (cC (.cls "NoText")) cNil))) (cCons (cOp (gIsE subE subTE) (cSlot 0 (cCons (cC (.cls "NoName")) cNil))) (cCons (cOp (gIsE subE subTE) (cSlot 0 (cCons (cC (.cls "NoRow")) cNil))) cNil)))) cNil)))))
  (sSeq (cIf (cOr (cNot (cTest (cOp (gIsE subE subTE) (cSlot 0 (cCons (cC (.ty "ValueError")) cNil))))) (cTest (cOp gNe (cCons (cRM "list" gCount (cVar 1) (cCons (cC (.bl true)) cNil)) (cCons (cC (.int 1)) cNil)))))
    (sRet (cOp gTup (cCons (cC (.str "another")) cNil)))
    sNil)
  (sSeq (sSet (.nm 2) (cFz (cOp gLst (cCons (cC (.str "web")) (cCons (cC (.str "corner")) (cCons (cC (.str "order")) (cCons (cC (.str "sum")) (cCons (cC (.str "part")) (cCons (cC (.str "many")) (cCons (cC (.str "cuts")) (cCons (cC (.str "cut")) (cCons (cC (.str "nothing")) (cCons (cC (.str "text")) (cCons (cC (.str "name")) (cCons (cC (.str "row")) cNil)))))))))))))))
  (sRet (cOp gTup (cCons (cOp gIx (cSlot 2 (cCons (cRM "list" gIndex (cVar 1) (cCons (cC (.bl true)) cNil)) cNil))) cNil)))))))))
def f_law_word : FSem := mkF 1 2 [] c_law_word
end SW

set_option Elab.async false
set_option linter.all false
set_option maxRecDepth 100000
set_option maxHeartbeats 4000000
namespace SW
open PySem PySem.Spec PyProof.Rows L2
/-! ### turned_by: 0 web, 1 row, 2 k -/
def c_turned_by : Env → R Fl :=
  (sSeq (sFor (iVal (cVar 1)) (.nm 2)
    (sEx (cCall f_need_corner (aVal (cVar 0) (aVal (cVar 2) aNil)))))
  (sSeq (sFor (iVal (cVar 1)) (.nm 2)
    (sSet (.nm 0) (cCall f_turned (aVal (cVar 0) (aVal (cVar 2) aNil)))))
  (sRet (cVar 0))))
def f_turned_by : FSem := mkF 2 1 [] c_turned_by
/-! ### _law_too_great: 0 _law_web_here, 1 _law_number, 2 _law_row -/
def c_law_too_great : Env → R Fl :=
  (sRet (cOp gGt (cCons (cOp gMax (cCons (cComp [2] (.nm 2) (iVal (cVar 0)) cYes (cOp gMax (cCons (cComp [1] (.nm 1) (iVal (cVar 2)) cYes (cOp gAbs (cSlot 1 cNil))) cNil))) cNil)) (cCons (cOp gPow (cCons (cC (.int 10)) (cCons (cC (.int 30)) cNil))) cNil))))
def f_law_too_great : FSem := mkF 1 2 [] c_law_too_great
/-! ### _law_turns: 0 _law_tape, 1 _law_many, 2 _law_most, 3 _law_row, 4 _law_k, 5 _law_corner -/
def c_law_turns : Env → R Fl :=
  (sSeq (sSet (.nm 3) (cOp gLst cNil))
  (sSeq (sFor (iRange (cCons (cCall f_law_draw (aSlot 0 (aVal (cOp gAdd (cSlot 2 (cCons (cC (.int 1)) cNil))) aNil))) cNil)) (.nm 4)
    (sSeq (sSet (.nm 5) (cCall f_law_draw (aSlot 0 (aVal (cVar 1) aNil))))
  (sSeq (cIf (cAnd (cTest (cOp gNe (cSlot 3 (cCons (cOp gLst cNil) cNil)))) (cAnd (cTest (cOp gEq (cCons (cOp gIx (cSlot 3 (cCons (cOp gNeg (cCons (cC (.int 1)) cNil)) cNil))) (cSlot 5 cNil)))) (cTest (cOp gGt (cCons (cCall f_law_draw (aSlot 0 (aVal (cC (.int 4)) aNil))) (cCons (cC (.int 0)) cNil))))))
    (sSet (.nm 5) (cOp gMod (cCons (cOp gAdd (cSlot 5 (cCons (cC (.int 1)) cNil))) (cSlot 1 cNil))))
    sNil)
  (sEx (cMeth 3 gAppend (cCons (cVar 5) cNil))))))
  (sRet (cTake 3))))
def f_law_turns : FSem := mkF 3 3 [0] c_law_turns
/-! ### _law_web_behind: 0 _law_web_here, 1 _law_row, 2 _law_k -/
def c_law_web_behind : Env → R Fl :=
  (sSeq (sFor (iVal (cVar 1)) (.nm 2)
    (cIf (cTest (cOp gNotN (cSlot 0 (cCons (cC .non) cNil))))
    (sSeq (sSet (.nm 0) (cCall f_law_turn (aVal (cVar 0) (aVal (cVar 2) aNil))))
  (cIf (cTest (cCall f_law_too_great (aVal (cVar 0) aNil)))
    (sSet (.nm 0) (cC .non))
    sNil))
    sNil))
  (sRet (cVar 0)))
def f_law_web_behind : FSem := mkF 2 1 [] c_law_web_behind
/-! ### _law_row_due: 0 _law_web_here, 1 _law_row, 2 _law_k -/
def c_law_row_due : Env → R Fl :=
  (sSeq (cIf (cTest (cOp gNe (cCons (cComp [2] (.nm 2) (iVal (cVar 1)) (cNot (cTest (cCh gLe gLt (cC (.int 0)) (cVar 2) (cOp gLen (cSlot 0 cNil))))) (cVar 2)) (cCons (cOp gLst cNil) cNil))))
    (sRet (cOp gTup (cCons (cC (.str "corner")) cNil)))
    sNil)
  (sSeq (cIf (cTest (cOp gIsN (cCons (cCall f_law_web_behind (aVal (cVar 0) (aVal (cVar 1) aNil))) (cCons (cC .non) cNil))))
    (sRet (cOp gTup (cCons (cC (.str "many")) cNil)))
    sNil)
  (sRet (cC .non))))
def f_law_row_due : FSem := mkF 2 1 [] c_law_row_due
end SW

set_option Elab.async false
set_option linter.all false
set_option maxRecDepth 100000
set_option maxHeartbeats 4000000
namespace SW
open PySem PySem.Spec PyProof.Rows L2
/-! ### renumbered_by: 0 web, 1 order, 2 j, 3 i -/
def c_renumbered_by : Env → R Fl :=
  (sRet (cOp gTuple (cCons (cComp [3] (.nm 3) (iVal (cVar 1)) cYes (cOp gTuple (cCons (cComp [2] (.nm 2) (iVal (cVar 1)) cYes (cOp gIx (cCons (cOp gIx (cSlot 0 (cSlot 3 cNil))) (cSlot 2 cNil)))) cNil))) cNil)))
def f_renumbered_by : FSem := mkF 2 2 [] c_renumbered_by
/-! ### renumbered: 0 web, 1 order -/
def c_renumbered : Env → R Fl :=
  (sSeq (cIf (cTest (cOp gNe (cCons (cOp gSorted (cSlot 1 cNil)) (cCons (cOp gListR (cCons (cOp gLen (cSlot 0 cNil)) cNil)) cNil))))
    (sRaise "NoOrder")
    sNil)
  (sRet (cCall f_renumbered_by (aVal (cVar 0) (aVal (cVar 1) aNil)))))
def f_renumbered : FSem := mkF 2 0 [] c_renumbered
end SW

set_option Elab.async false
set_option linter.all false
set_option maxRecDepth 100000
set_option maxHeartbeats 4000000
namespace SW
open PySem PySem.Spec PyProof.Rows L2
/-! ### orders: 0 many, 1 found, 2 turn, 3 longer, 4 order, 5 corner -/
def c_orders : Env → R Fl :=
  (sSeq (sSet (.nm 1) (cFz (cOp gLst (cCons (cOp gTup cNil) cNil))))
  (sSeq (sFor (iRange (cSlot 0 cNil)) (.nm 2)
    (sSeq (sSet (.nm 3) (cOp gLst cNil))
  (sSeq (sFor (iVal (cVar 1)) (.nm 4)
    (sEx (cMeth 3 gExtend (cCons (cComp [5] (.nm 5) (iRange (cSlot 0 cNil)) (cTest (cOp gNotIn (cSlot 5 (cSlot 4 cNil)))) (cOp gAdd (cSlot 4 (cCons (cOp gTup (cCons (cVar 5) cNil)) cNil)))) cNil))))
  (sSet (.nm 1) (cVarF 3)))))
  (sRet (cVar 1))))
def f_orders : FSem := mkF 1 5 [] c_orders
/-! ### leading: 0 one, 1 other, 2 order -/
def c_leading : Env → R Fl :=
  (sSeq (cIf (cTest (cOp gNe (cCons (cOp gLen (cSlot 0 cNil)) (cCons (cOp gLen (cSlot 1 cNil)) cNil))))
    (sRet (cC .non))
    sNil)
  (sSeq (sFor (iVal (cCall f_orders (aVal (cOp gLen (cSlot 0 cNil)) aNil))) (.nm 2)
    (cIf (cTest (cOp gEq (cCons (cCall f_renumbered_by (aVal (cVar 0) (aVal (cVar 2) aNil))) (cSlot 1 cNil))))
    (sRet (cVar 2))
    sNil))
  (sRet (cC .non))))
def f_leading : FSem := mkF 2 1 [] c_leading
end SW

set_option Elab.async false
set_option linter.all false
set_option maxRecDepth 100000
set_option maxHeartbeats 4000000
namespace SW
open PySem PySem.Spec PyProof.Rows L2
/-! ### _law_orders: 0 _law_many, 1 _law_found, 2 _law_turn, 3 _law_longer, 4 _law_order_here, 5 _law_corner -/
def c_law_orders : Env → R Fl :=
  (sSeq (sSet (.nm 1) (cFz (cOp gLst (cCons (cOp gTup cNil) cNil))))
  (sSeq (sFor (iRange (cSlot 0 cNil)) (.nm 2)
    (sSeq (sSet (.nm 3) (cOp gLst cNil))
  (sSeq (sFor (iVal (cVar 1)) (.nm 4)
    (sEx (cMeth 3 gExtend (cCons (cComp [5] (.nm 5) (iRange (cSlot 0 cNil)) (cTest (cOp gNotIn (cSlot 5 (cSlot 4 cNil)))) (cOp gAdd (cSlot 4 (cCons (cOp gTup (cCons (cVar 5) cNil)) cNil)))) cNil))))
  (sSet (.nm 1) (cVarF 3)))))
  (sRet (cVar 1))))
def f_law_orders : FSem := mkF 1 5 [] c_law_orders
end SW

set_option Elab.async false
set_option linter.all false
set_option maxRecDepth 100000
set_option maxHeartbeats 4000000
namespace SW
open PySem PySem.Spec PyProof.Rows L2
/-! ### least_form: 0 web, 1 order -/
def c_least_form : Env → R Fl :=
  (sRet (cOp gMinD (cCons (cComp [1] (.nm 1) (iVal (cCall f_orders (aVal (cOp gLen (cSlot 0 cNil)) aNil))) cYes (cCall f_renumbered_by (aVal (cVar 0) (aVal (cVar 1) aNil)))) cNil)))
def f_least_form : FSem := mkF 1 1 [] c_least_form
end SW

set_option Elab.async false
set_option linter.all false
set_option maxRecDepth 100000
set_option maxHeartbeats 4000000
namespace SW
open PySem PySem.Spec PyProof.Rows L2
/-! ### kinds: 0 web, 1 most, 2 found, 3 there, 4 at, 5 row, 6 own, 7 k, 8 form -/
def c_kinds : Env → R Fl :=
  (sSeq (sSet (.nm 2) (cOp gLst (cCons (cOp gTup (cCons (cCall f_least_form (aVal (cVar 0) aNil)) (cCons (cOp gTup cNil) cNil))) cNil)))
  (sSeq (sSet (.nm 3) (cDict1 (cOp gIx (cCons (cOp gIx (cSlot 2 (cCons (cC (.int 0)) cNil))) (cCons (cC (.int 0)) cNil))) (cC (.bl true))))
  (sSeq (sSet (.nm 4) (cC (.int 0)))
  (sSeq (sWhile (fun _ => 1000000) (cTest (cOp gLt (cSlot 4 (cCons (cOp gLen (cSlot 2 cNil)) cNil))))
    (sSeq (sSet (.nm 5) (cOp gIx (cCons (cOp gIx (cSlot 2 (cSlot 4 cNil))) (cCons (cC (.int 1)) cNil))))
  (sSeq (sSet (.nm 6) (cCall f_turned_by (aVal (cVar 0) (aVal (cVar 5) aNil))))
  (sSeq (sFor (iRange (cCons (cOp gLen (cSlot 0 cNil)) cNil)) (.nm 7)
    (sSeq (sSet (.nm 8) (cCall f_least_form (aVal (cCall f_turned (aVal (cVar 6) (aVal (cVar 7) aNil))) aNil)))
  (cIf (cTest (cOp gDNotIn (cSlot 8 (cSlot 3 cNil))))
    (sSeq (cIf (cTest (cOp gEq (cCons (cOp gLen (cSlot 2 cNil)) (cSlot 1 cNil))))
    (sRaise "TooMany")
    sNil)
  (sSeq (sSetIx 3 gDPut (cVar 8) (cC (.bl true)))
  (sEx (cMeth 2 gAppend (cCons (cOp gTup (cCons (cVar 8) (cCons (cOp gAdd (cSlot 5 (cCons (cOp gTup (cCons (cVar 7) cNil)) cNil))) cNil))) cNil)))))
    sNil)))
  (sAug 4 (fun i j => i + j) 1)))))
  (sRet (cTake 2))))))
def f_kinds : FSem := mkF 2 7 [] c_kinds
/-! ### _law_least: 0 _law_web_here, 1 _law_order_here -/
def c_law_least : Env → R Fl :=
  (sRet (cOp gMinD (cCons (cComp [1] (.nm 1) (iVal (cCall f_law_orders (aVal (cOp gLen (cSlot 0 cNil)) aNil))) cYes (cCall f_law_numbered (aVal (cVar 0) (aVal (cVar 1) aNil)))) cNil)))
def f_law_least : FSem := mkF 1 1 [] c_law_least
/-! ### _law_due: 0 _law_web_here, 1 _law_most, 2 _law_found, 3 _law_there, 4 _law_at, 5 _law_row, 6 _law_own, 7 _law_k, 8 _law_later, 9 _law_form -/
def c_law_due : Env → R Fl :=
  (sSeq (sSet (.nm 2) (cOp gLst (cCons (cOp gTup (cCons (cCall f_law_least (aVal (cVar 0) aNil)) (cCons (cOp gTup cNil) cNil))) cNil)))
  (sSeq (sSet (.nm 3) (cDict1 (cOp gIx (cCons (cOp gIx (cSlot 2 (cCons (cC (.int 0)) cNil))) (cCons (cC (.int 0)) cNil))) (cC (.bl true))))
  (sSeq (sSet (.nm 4) (cC (.int 0)))
  (sSeq (sWhile (fun _ => 1000000) (cTest (cOp gLt (cSlot 4 (cCons (cOp gLen (cSlot 2 cNil)) cNil))))
    (sSeq (sSet (.nm 5) (cOp gIx (cCons (cOp gIx (cSlot 2 (cSlot 4 cNil))) (cCons (cC (.int 1)) cNil))))
  (sSeq (sSet (.nm 6) (cCall f_law_web_behind (aVal (cVar 0) (aVal (cFz (cOp gList (cSlot 5 cNil))) aNil))))
  (sSeq (sFor (iRange (cCons (cOp gLen (cSlot 0 cNil)) cNil)) (.nm 7)
    (sSeq (sSet (.nm 8) (cCall f_law_turn (aVal (cVar 6) (aVal (cVar 7) aNil))))
  (sSeq (cIf (cTest (cCall f_law_too_great (aVal (cVar 8) aNil)))
    (sRet (cC .non))
    sNil)
  (sSeq (sSet (.nm 9) (cCall f_law_least (aVal (cVar 8) aNil)))
  (cIf (cTest (cOp gDNotIn (cSlot 9 (cSlot 3 cNil))))
    (sSeq (cIf (cTest (cOp gEq (cCons (cOp gLen (cSlot 2 cNil)) (cSlot 1 cNil))))
    (sRet (cC .non))
    sNil)
  (sSeq (sSetIx 3 gDPut (cVar 9) (cC (.bl true)))
  (sEx (cMeth 2 gAppend (cCons (cOp gTup (cCons (cVar 9) (cCons (cOp gAdd (cSlot 5 (cCons (cOp gTup (cCons (cVar 7) cNil)) cNil))) cNil))) cNil)))))
    sNil)))))
  (sSet (.nm 4) (cOp gAdd (cSlot 4 (cCons (cC (.int 1)) cNil))))))))
  (sRet (cTake 2))))))
def f_law_due : FSem := mkF 2 8 [] c_law_due
/-! ### _law_tried: 0 _law_web_here, 1 _law_most, 2 _law_error, 3 _law_found, 4 e -/
def c_law_tried : Env → R Fl :=
  (sSeq (sSet (.nm 2) (cC .non))
  (sSeq (sSet (.nm 3) (cC .non))
  (sSeq (sTry caught_WebError 4
    (sSet (.nm 3) (cFz (cCall f_kinds (aVal (cVar 0) (aVal (cVar 1) aNil)))))
    (sSet (.nm 2) (cVar 4)))
  (sSeq (cIf (cTest (cOp gIsN (cSlot 2 (cCons (cC .non) cNil))))
    (sRet (cVar 3))
    sNil)
  (sRet (cCall f_law_word (aVal (cVar 2) aNil)))))))
def f_law_tried : FSem := mkF 2 3 [] c_law_tried
/-! ### law: 0 _law_script, 1 _law_tape, 2 _law_web_here, 3 _law_whole, 4 _law_some, 5 _law_most, 6 _law_due_here, 7 _law_found -/
def c_law : Env → R Fl :=
  (sSeq (sSet (.nm 1) (cOp gLst (cCons (cFz (cOp gList (cSlot 0 cNil))) (cCons (cC (.int 0)) (cCons (cC (.int 0)) cNil)))))
  (sSeq (sSet (.nm 2) (cCall f_law_web (aSlot 1 (aVal (cC (.int 4)) aNil))))
  (sSeq (cIf (cTest (cOp gEq (cCons (cCall f_law_draw (aSlot 1 (aVal (cC (.int 4)) aNil))) (cCons (cC (.int 0)) cNil))))
    (sSet (.nm 2) (cCall f_law_shuffled_web (aSlot 1 (aVal (cCall f_law_line (aSlot 1 (aVal (cC (.int 5)) aNil))) aNil))))
    sNil)
  (sSeq (sSet (.nm 3) (cFz (cCall f_law_due (aVal (cVar 2) (aVal (cC (.int 40)) aNil)))))
  (sSeq (sSet (.nm 4) (cFz (cOp gLst (cCons (cOp gAdd (cCons (cC (.int 1)) (cCons (cCall f_law_draw (aSlot 1 (aVal (cC (.int 12)) aNil))) cNil))) cNil))))
  (sSeq (cIf (cTest (cOp gNotN (cSlot 3 (cCons (cC .non) cNil))))
    (sSet (.nm 4) (cFz (cOp gAdd (cSlot 4 (cCons (cOp gLst (cCons (cOp gLen (cSlot 3 cNil)) (cCons (cOp gMax (cCons (cC (.int 1)) (cCons (cOp gSub (cCons (cOp gLen (cSlot 3 cNil)) (cCons (cC (.int 1)) cNil))) cNil))) (cCons (cOp gMin (cCons (cC (.int 60)) (cCons (cOp gAdd (cCons (cOp gLen (cSlot 3 cNil)) (cCons (cC (.int 1)) cNil))) cNil))) cNil)))) cNil)))))
    sNil)
  (sSeq (sFor (iVal (cVar 4)) (.nm 5)
    (sSeq (sSet (.nm 6) (cFz (cCall f_law_due (aVal (cVar 2) (aVal (cVar 5) aNil)))))
  (sSeq (sSet (.nm 7) (cCall f_law_tried (aVal (cVar 2) (aVal (cVar 5) aNil))))
  (cIf (cTest (cOp gIsN (cSlot 6 (cCons (cC .non) cNil))))
    (cIf (cTest (cOp gNe (cSlot 7 (cCons (cOp gTup (cCons (cC (.str "many")) cNil)) cNil))))
    (sRet (cC (.bl false)))
    sNil)
    (cIf (cOr (cNot (cTest (cOp gIsi (cSlot 7 (cCons (cC (.ty "list")) cNil))))) (cTest (cOp gNe (cSlot 7 (cSlot 6 cNil)))))
    (sRet (cC (.bl false)))
    sNil)))))
  (sRet (cC (.bl true))))))))))
def f_law : FSem := mkF 1 7 [] c_law
end SW

set_option Elab.async false
set_option linter.all false
set_option maxRecDepth 100000
set_option maxHeartbeats 4000000
namespace SW
open PySem PySem.Spec PyProof.Rows L2
def top (i : Nat) : Stmt := PySem.Challenge.pw_swivelweb_k23_kinds_told.main.body.getD i (.Pass ⟨0, 0, 0, 0⟩)
abbrev s_orders : Stmt := top 15
abbrev N_orders : List Str := ["many", "found", "turn", "longer", "order", "corner"]
abbrev s_renumbered_by : Stmt := top 16
abbrev N_renumbered_by : List Str := ["web", "order", "j", "i"]
abbrev s_least_form : Stmt := top 17
abbrev N_least_form : List Str := ["web", "order"]
abbrev s_need_corner : Stmt := top 20
abbrev N_need_corner : List Str := ["web", "k"]
abbrev s_arrows : Stmt := top 21
abbrev N_arrows : List Str := ["web", "i", "j"]
abbrev s_number_behind : Stmt := top 22
abbrev N_number_behind : List Str := ["web", "k", "i", "j"]
abbrev s_turned : Stmt := top 23
abbrev N_turned : List Str := ["web", "k", "many", "rows", "j", "i", "row"]
abbrev s_turned_by : Stmt := top 24
abbrev N_turned_by : List Str := ["web", "row", "k"]
abbrev s_kinds : Stmt := top 26
abbrev N_kinds : List Str := ["web", "most", "found", "there", "at", "row", "own", "k", "form"]
abbrev s_law_draw : Stmt := top 28
abbrev N_law_draw : List Str := ["_law_tape", "_law_many", "_law_prime", "_law_cell", "_law_found"]
abbrev s_law_word : Stmt := top 29
abbrev N_law_word : List Str := ["_law_error", "_law_sorts", "_law_words"]
abbrev s_law_table : Stmt := top 30
abbrev N_law_table : List Str := ["_law_many", "_law_ties", "_law_rows", "_law_i", "_law_j", "_law_often", "_law_row"]
abbrev s_law_line : Stmt := top 31
abbrev N_law_line : List Str := ["_law_tape", "_law_many", "_law_ties", "_law_i", "_law_at"]
abbrev s_law_numbered : Stmt := top 34
abbrev N_law_numbered : List Str := ["_law_web_here", "_law_order_here", "_law_j", "_law_i"]
abbrev s_law_order : Stmt := top 33
abbrev N_law_order : List Str := ["_law_tape", "_law_many", "_law_left", "_law_found"]
abbrev s_law_shuffled_web : Stmt := top 35
abbrev N_law_shuffled_web : List Str := ["_law_tape", "_law_web_here"]
abbrev s_law_web : Stmt := top 32
abbrev N_law_web : List Str := ["_law_tape", "_law_most", "_law_many", "_law_way", "_law_i", "_law_ties", "_law_j", "_law_often"]
abbrev s_law_turn : Stmt := top 36
abbrev N_law_turn : List Str := ["_law_web_here", "_law_k", "_law_many", "_law_rows", "_law_i", "_law_row", "_law_j", "_law_one", "_law_two", "_law_both"]
abbrev s_law_too_great : Stmt := top 37
abbrev N_law_too_great : List Str := ["_law_web_here", "_law_number", "_law_row"]
abbrev s_law_web_behind : Stmt := top 38
abbrev N_law_web_behind : List Str := ["_law_web_here", "_law_row", "_law_k"]
abbrev s_law_orders : Stmt := top 39
abbrev N_law_orders : List Str := ["_law_many", "_law_found", "_law_turn_here", "_law_longer", "_law_order_here", "_law_corner"]
abbrev s_law_least : Stmt := top 40
abbrev N_law_least : List Str := ["_law_web_here", "_law_order_here"]
abbrev s_law_due : Stmt := top 41
abbrev N_law_due : List Str := ["_law_web_here", "_law_most", "_law_found", "_law_there", "_law_at", "_law_row", "_law_own", "_law_k", "_law_later", "_law_form"]
abbrev s_law_tried : Stmt := top 42
abbrev N_law_tried : List Str := ["_law_web_here", "_law_most", "_law_error", "_law_found", "e"]
abbrev s_law : Stmt := top 43
abbrev N_law : List Str := ["_law_script", "_law_tape", "_law_web_here", "_law_whole", "_law_some", "_law_most", "_law_due_here", "_law_found"]
/-- what the walks ask of the module -/
structure Txt (K : PySem.W.Frag) (κ : String → Addr) (mg : Str → Option Value) : Prop where
  b_ValueError : mg "ValueError" = none
  b_abs : mg "abs" = none
  b_int : mg "int" = none
  b_isinstance : mg "isinstance" = none
  b_len : mg "len" = none
  b_list : mg "list" = none
  b_max : mg "max" = none
  b_min : mg "min" = none
  b_range : mg "range" = none
  b_tuple : mg "tuple" = none
  x_NoCorner : ExcOk K κ mg "NoCorner"
  x_NoCut : ExcOk K κ mg "NoCut"
  x_NoCuts : ExcOk K κ mg "NoCuts"
  x_NoName : ExcOk K κ mg "NoName"
  x_NoOrder : ExcOk K κ mg "NoOrder"
  x_NoPart : ExcOk K κ mg "NoPart"
  x_NoRow : ExcOk K κ mg "NoRow"
  x_NoSum : ExcOk K κ mg "NoSum"
  x_NoText : ExcOk K κ mg "NoText"
  x_NoWeb : ExcOk K κ mg "NoWeb"
  x_NothingLeft : ExcOk K κ mg "NothingLeft"
  x_TooMany : ExcOk K κ mg "TooMany"
  x_WebError : ExcOk K κ mg "WebError"
  q_WebError : ∀ m b, caught_WebError m = some b → PySem.W.exmOne K (.ref (κ m)) (.ref (κ "WebError")) = some b
  sub : SubOk K κ subE subTE
section
variable {P : Program} {w : World} {K : PySem.W.Frag} {mg : Str → Option Value} {base : Heap} {κ : String → Addr}
theorem sc_orders : FnScope N_orders ["many"] (defScope s_orders) := ⟨rfl, rfl, rfl, by decide +kernel, rfl, by decide +kernel, by decide +kernel⟩
theorem ok_orders {fa : Addr} {fd : FuncData} (F : Fun K "orders" "orders" s_orders fa fd) (T : Txt K κ mg) : FnOk P w K mg base (L2.CX P w) (1) fa fd ["many"] (spF K κ 1 (mkF 1 5 [] (c_orders))) := by
  refine fn_ok (k := 0) (N := N_orders) F sc_orders (by decide +kernel) fun cdv A outer s H E B => ?_
  refine ds_cons ?_ ?_
  refine dsb_set B ?_
  refine de_fz ?_
  refine de_lst ?_
  refine dl_e ?_ ?_
  refine de_tup ?_
  exact dl_nil
  exact dl_nil
  refine ds_cons ?_ ?_
  refine dsb_for B ?_ ?_ ?_
  refine di_range1 T.b_range ?_
  refine dl_s (i := 0) ?_
  exact dl_nil
  exact dgb_n B 2
  refine ds_cons ?_ ?_
  refine dsb_set B ?_
  refine de_lst ?_
  exact dl_nil
  refine ds_cons ?_ ?_
  refine dsb_for B ?_ ?_ ?_
  refine di_val ?_
  exact de_var 1
  exact dgb_n B 4
  refine ds_one ?_
  refine ds_ex ?_
  refine de_meth (i := 3) PySem.F.slot_list_extend PySem.F.type_list_extend mut_extend ?_
  refine dl_e ?_ ?_
  refine deb_comp B (own := [("corner", 5)]) ?_ (blkOk_by (N := N_orders) (sc := (defScope s_orders)) (by decide +kernel)) ?_ ?_ ?_
  refine di_range1 T.b_range ?_
  refine dl_s (i := 0) ?_
  exact dl_nil
  intro _ _ _ _ _; exact dgb_n B.blk 5
  intro _ _ _ _ _; refine dts_one ?_
  refine dt_cmp (opn_notIn B.blk.g) ?_
  refine dl_s (i := 5) ?_
  refine dl_s (i := 4) ?_
  exact dl_nil
  intro _ _ _ _ _; refine de_bin opn_add ?_
  refine dl_s (i := 4) ?_
  refine dl_e ?_ ?_
  refine de_tup ?_
  refine dl_e ?_ ?_
  exact de_var 5
  exact dl_nil
  exact dl_nil
  exact dl_nil
  refine ds_one ?_
  refine dsb_set B ?_
  exact de_varF 3
  refine ds_one ?_
  refine ds_ret ?_
  exact de_var 1
theorem sc_renumbered_by : FnScope N_renumbered_by ["web", "order"] (defScope s_renumbered_by) := ⟨rfl, rfl, rfl, by decide +kernel, rfl, by decide +kernel, by decide +kernel⟩
theorem ok_renumbered_by {fa : Addr} {fd : FuncData} (F : Fun K "renumbered_by" "renumbered_by" s_renumbered_by fa fd) (T : Txt K κ mg) : FnOk P w K mg base (L2.CX P w) (1) fa fd ["web", "order"] (spF K κ 2 (mkF 2 2 [] (c_renumbered_by))) := by
  refine fn_ok (k := 0) (N := N_renumbered_by) F sc_renumbered_by (by decide +kernel) fun cdv A outer s H E B => ?_
  refine ds_one ?_
  refine ds_ret ?_
  refine de_callT opn_tuple T.b_tuple (by decide +kernel) ?_
  refine dl_e ?_ ?_
  refine deb_comp B (own := [("i", 3)]) ?_ (blkOk_by (N := N_renumbered_by) (sc := (defScope s_renumbered_by)) (by decide +kernel)) ?_ ?_ ?_
  refine di_val ?_
  exact de_var 1
  intro _ _ _ _ _; exact dgb_n B.blk 3
  intro _ _ _ _ _; exact dts_nil
  intro _ _ _ _ _; refine de_callT opn_tuple T.b_tuple (by decide +kernel) ?_
  refine dl_e ?_ ?_
  refine deb_comp B.blk (own := [("j", 2)]) ?_ (blkOk_by (N := N_renumbered_by) (sc := (L2.relS _ (defScope s_renumbered_by))) (by decide +kernel)) ?_ ?_ ?_
  refine di_val ?_
  exact de_var 1
  intro _ _ _ _ _; exact dgb_n B.blk.blk 2
  intro _ _ _ _ _; exact dts_nil
  intro _ _ _ _ _; refine de_ix opn_ix ?_
  refine dl_e ?_ ?_
  refine de_ix opn_ix ?_
  refine dl_s (i := 0) ?_
  refine dl_s (i := 3) ?_
  exact dl_nil
  refine dl_s (i := 2) ?_
  exact dl_nil
  exact dl_nil
  exact dl_nil
theorem sc_least_form : FnScope N_least_form ["web"] (defScope s_least_form) := ⟨rfl, rfl, rfl, by decide +kernel, rfl, by decide +kernel, by decide +kernel⟩
theorem ok_least_form {fa : Addr} {fd : FuncData} (F : Fun K "least_form" "least_form" s_least_form fa fd) (T : Txt K κ mg) (k_orders : Cal P w K mg base κ "orders" 1 f_orders 1) (k_renumbered_by : Cal P w K mg base κ "renumbered_by" 2 f_renumbered_by 1) : FnOk P w K mg base (L2.CX P w) (2) fa fd ["web"] (spF K κ 1 (mkF 1 1 [] (c_least_form))) := by
  refine fn_ok (k := 1) (N := N_least_form) F sc_least_form (by decide +kernel) fun cdv A outer s H E B => ?_
  refine ds_one ?_
  refine ds_ret ?_
  refine de_callB (opn_minD B.g) T.b_min (by decide +kernel) ?_
  refine dl_e ?_ ?_
  refine deb_comp B (own := [("order", 1)]) ?_ (blkOk_by (N := N_least_form) (sc := (defScope s_least_form)) (by decide +kernel)) ?_ ?_ ?_
  refine di_val ?_
  refine de_call B k_orders ?_
  refine da_v ?_ ?_
  refine de_callB opn_len T.b_len (by decide +kernel) ?_
  refine dl_s (i := 0) ?_
  exact dl_nil
  exact da_nil
  intro _ _ _ _ _; exact dgb_n B.blk 1
  intro _ _ _ _ _; exact dts_nil
  intro _ _ _ _ _; refine de_call B.blk k_renumbered_by ?_
  refine da_v ?_ ?_
  exact de_var 0
  refine da_v ?_ ?_
  exact de_var 1
  exact da_nil
  exact dl_nil
theorem sc_need_corner : FnScope N_need_corner ["web", "k"] (defScope s_need_corner) := ⟨rfl, rfl, rfl, by decide +kernel, rfl, by decide +kernel, by decide +kernel⟩
theorem ok_need_corner {fa : Addr} {fd : FuncData} (F : Fun K "need_corner" "need_corner" s_need_corner fa fd) (T : Txt K κ mg) : FnOk P w K mg base (L2.CX P w) (1) fa fd ["web", "k"] (spF K κ 2 (mkF 2 0 [] (c_need_corner))) := by
  refine fn_ok (k := 0) (N := N_need_corner) F sc_need_corner (by decide +kernel) fun cdv A outer s H E B => ?_
  refine ds_one ?_
  refine ds_if ?_ ?_ ?_
  refine dt_w ?_
  refine dw_or ?_ ?_
  refine dt_cmp opn_lt ?_
  refine dl_s (i := 1) ?_
  refine dl_e ?_ ?_
  exact de_int
  exact dl_nil
  refine dw_or1 ?_
  refine dt_cmp opn_ge ?_
  refine dl_s (i := 1) ?_
  refine dl_e ?_ ?_
  refine de_callB opn_len T.b_len (by decide +kernel) ?_
  refine dl_s (i := 0) ?_
  exact dl_nil
  exact dl_nil
  refine ds_one ?_
  exact dsb_raise B (x := "NoCorner") T.x_NoCorner
  exact ds_nil
theorem sc_arrows : FnScope N_arrows ["web", "i", "j"] (defScope s_arrows) := ⟨rfl, rfl, rfl, by decide +kernel, rfl, by decide +kernel, by decide +kernel⟩
theorem ok_arrows {fa : Addr} {fd : FuncData} (F : Fun K "arrows" "arrows" s_arrows fa fd) (T : Txt K κ mg) : FnOk P w K mg base (L2.CX P w) (1) fa fd ["web", "i", "j"] (spF K κ 3 (mkF 3 0 [] (c_arrows))) := by
  refine fn_ok (k := 0) (N := N_arrows) F sc_arrows (by decide +kernel) fun cdv A outer s H E B => ?_
  refine ds_one ?_
  refine ds_ret ?_
  refine de_callB (opn_max B.g) T.b_max (by decide +kernel) ?_
  refine dl_e ?_ ?_
  exact de_int
  refine dl_e ?_ ?_
  refine de_ix opn_ix ?_
  refine dl_e ?_ ?_
  refine de_ix opn_ix ?_
  refine dl_s (i := 0) ?_
  refine dl_s (i := 1) ?_
  exact dl_nil
  refine dl_s (i := 2) ?_
  exact dl_nil
  exact dl_nil
theorem sc_number_behind : FnScope N_number_behind ["web", "k", "i", "j"] (defScope s_number_behind) := ⟨rfl, rfl, rfl, by decide +kernel, rfl, by decide +kernel, by decide +kernel⟩
theorem ok_number_behind {fa : Addr} {fd : FuncData} (F : Fun K "number_behind" "number_behind" s_number_behind fa fd) (T : Txt K κ mg) (k_arrows : Cal P w K mg base κ "arrows" 3 f_arrows 1) : FnOk P w K mg base (L2.CX P w) (2) fa fd ["web", "k", "i", "j"] (spF K κ 4 (mkF 4 0 [] (c_number_behind))) := by
  refine fn_ok (k := 1) (N := N_number_behind) F sc_number_behind (by decide +kernel) fun cdv A outer s H E B => ?_
  refine ds_cons ?_ ?_
  refine ds_if ?_ ?_ ?_
  refine dt_w ?_
  refine dw_or ?_ ?_
  refine dt_cmp (opn_eq B.g) ?_
  refine dl_s (i := 2) ?_
  refine dl_s (i := 1) ?_
  exact dl_nil
  refine dw_or1 ?_
  refine dt_cmp (opn_eq B.g) ?_
  refine dl_s (i := 3) ?_
  refine dl_s (i := 1) ?_
  exact dl_nil
  refine ds_one ?_
  refine ds_ret ?_
  refine de_un opn_neg ?_
  refine dl_e ?_ ?_
  refine de_ix opn_ix ?_
  refine dl_e ?_ ?_
  refine de_ix opn_ix ?_
  refine dl_s (i := 0) ?_
  refine dl_s (i := 2) ?_
  exact dl_nil
  refine dl_s (i := 3) ?_
  exact dl_nil
  exact dl_nil
  exact ds_nil
  refine ds_one ?_
  refine ds_ret ?_
  refine de_bin opn_sub ?_
  refine dl_e ?_ ?_
  refine de_bin opn_add ?_
  refine dl_e ?_ ?_
  refine de_ix opn_ix ?_
  refine dl_e ?_ ?_
  refine de_ix opn_ix ?_
  refine dl_s (i := 0) ?_
  refine dl_s (i := 2) ?_
  exact dl_nil
  refine dl_s (i := 3) ?_
  exact dl_nil
  refine dl_e ?_ ?_
  refine de_bin opn_mul ?_
  refine dl_e ?_ ?_
  refine de_call B k_arrows ?_
  refine da_v ?_ ?_
  exact de_var 0
  refine da_v ?_ ?_
  exact de_var 2
  refine da_v ?_ ?_
  exact de_var 1
  exact da_nil
  refine dl_e ?_ ?_
  refine de_call B k_arrows ?_
  refine da_v ?_ ?_
  exact de_var 0
  refine da_v ?_ ?_
  exact de_var 1
  refine da_v ?_ ?_
  exact de_var 3
  exact da_nil
  exact dl_nil
  exact dl_nil
  refine dl_e ?_ ?_
  refine de_bin opn_mul ?_
  refine dl_e ?_ ?_
  refine de_call B k_arrows ?_
  refine da_v ?_ ?_
  exact de_var 0
  refine da_v ?_ ?_
  exact de_var 3
  refine da_v ?_ ?_
  exact de_var 1
  exact da_nil
  refine dl_e ?_ ?_
  refine de_call B k_arrows ?_
  refine da_v ?_ ?_
  exact de_var 0
  refine da_v ?_ ?_
  exact de_var 1
  refine da_v ?_ ?_
  exact de_var 2
  exact da_nil
  exact dl_nil
  exact dl_nil
theorem sc_turned : FnScope N_turned ["web", "k"] (defScope s_turned) := ⟨rfl, rfl, rfl, by decide +kernel, rfl, by decide +kernel, by decide +kernel⟩
theorem ok_turned {fa : Addr} {fd : FuncData} (F : Fun K "turned" "turned" s_turned fa fd) (T : Txt K κ mg) (k_need_corner : Cal P w K mg base κ "need_corner" 2 f_need_corner 1) (k_number_behind : Cal P w K mg base κ "number_behind" 4 f_number_behind 2) (g_GREATEST : ∃ t, mg "GREATEST" = some (.int 1000000000000000000000000000000 t)) : FnOk P w K mg base (L2.CX P w) (3) fa fd ["web", "k"] (spF K κ 2 (mkF 2 5 [] (c_turned))) := by
  refine fn_ok (k := 2) (N := N_turned) F sc_turned (by decide +kernel) fun cdv A outer s H E B => ?_
  refine ds_cons ?_ ?_
  refine ds_ex ?_
  refine de_call B k_need_corner ?_
  refine da_v ?_ ?_
  exact de_var 0
  refine da_v ?_ ?_
  exact de_var 1
  exact da_nil
  refine ds_cons ?_ ?_
  refine dsb_set B ?_
  refine de_callB opn_len T.b_len (by decide +kernel) ?_
  refine dl_s (i := 0) ?_
  exact dl_nil
  refine ds_cons ?_ ?_
  first | refine dsb_setC B (own := [("i", 5)]) ?_ (blkOk_by (N := N_turned) (sc := (defScope s_turned)) (by decide +kernel)) ?_ ?_ ?_ | (refine dsb_set B ?_; refine deb_comp B (own := [("i", 5)]) ?_ (blkOk_by (N := N_turned) (sc := (defScope s_turned)) (by decide +kernel)) ?_ ?_ ?_)
  refine di_range1 T.b_range ?_
  refine dl_s (i := 2) ?_
  exact dl_nil
  intro _ _ _ _ _; exact dgb_n B.blk 5
  intro _ _ _ _ _; exact dts_nil
  intro _ _ _ _ _; refine de_callT opn_tuple T.b_tuple (by decide +kernel) ?_
  refine dl_e ?_ ?_
  refine deb_comp B.blk (own := [("j", 4)]) ?_ (blkOk_by (N := N_turned) (sc := (L2.relS _ (defScope s_turned))) (by decide +kernel)) ?_ ?_ ?_
  refine di_range1 T.b_range ?_
  refine dl_s (i := 2) ?_
  exact dl_nil
  intro _ _ _ _ _; exact dgb_n B.blk.blk 4
  intro _ _ _ _ _; exact dts_nil
  intro _ _ _ _ _; refine de_call B.blk.blk k_number_behind ?_
  refine da_v ?_ ?_
  exact de_var 0
  refine da_v ?_ ?_
  exact de_var 1
  refine da_v ?_ ?_
  exact de_var 5
  refine da_v ?_ ?_
  exact de_var 4
  exact da_nil
  exact dl_nil
  refine ds_cons ?_ ?_
  refine dsb_for B ?_ ?_ ?_
  refine di_val ?_
  exact de_varF 3
  exact dgb_n B 6
  refine ds_one ?_
  refine ds_if ?_ ?_ ?_
  refine dt_w ?_
  refine dw_or ?_ ?_
  refine dt_cmp opn_gt ?_
  refine dl_e ?_ ?_
  refine de_callB (opn_max B.g) T.b_max (by decide +kernel) ?_
  refine dl_s (i := 6) ?_
  exact dl_nil
  refine dl_e ?_ ?_
  exact de_gint g_GREATEST
  exact dl_nil
  refine dw_or1 ?_
  refine dt_cmp opn_lt ?_
  refine dl_e ?_ ?_
  refine de_callB (opn_min B.g) T.b_min (by decide +kernel) ?_
  refine dl_s (i := 6) ?_
  exact dl_nil
  refine dl_e ?_ ?_
  refine de_un opn_neg ?_
  refine dl_e ?_ ?_
  exact de_gint g_GREATEST
  exact dl_nil
  exact dl_nil
  refine ds_one ?_
  exact dsb_raise B (x := "TooMany") T.x_TooMany
  exact ds_nil
  refine ds_one ?_
  refine ds_ret ?_
  refine de_callT opn_tuple T.b_tuple (by decide +kernel) ?_
  refine dl_s (i := 3) ?_
  exact dl_nil
theorem sc_turned_by : FnScope N_turned_by ["web", "row"] (defScope s_turned_by) := ⟨rfl, rfl, rfl, by decide +kernel, rfl, by decide +kernel, by decide +kernel⟩
theorem ok_turned_by {fa : Addr} {fd : FuncData} (F : Fun K "turned_by" "turned_by" s_turned_by fa fd) (T : Txt K κ mg) (k_need_corner : Cal P w K mg base κ "need_corner" 2 f_need_corner 1) (k_turned : Cal P w K mg base κ "turned" 2 f_turned 3) : FnOk P w K mg base (L2.CX P w) (4) fa fd ["web", "row"] (spF K κ 2 (mkF 2 1 [] (c_turned_by))) := by
  refine fn_ok (k := 3) (N := N_turned_by) F sc_turned_by (by decide +kernel) fun cdv A outer s H E B => ?_
  refine ds_cons ?_ ?_
  refine dsb_for B ?_ ?_ ?_
  refine di_val ?_
  exact de_var 1
  exact dgb_n B 2
  refine ds_one ?_
  refine ds_ex ?_
  refine de_call B k_need_corner ?_
  refine da_v ?_ ?_
  exact de_var 0
  refine da_v ?_ ?_
  exact de_var 2
  exact da_nil
  refine ds_cons ?_ ?_
  refine dsb_for B ?_ ?_ ?_
  refine di_val ?_
  exact de_var 1
  exact dgb_n B 2
  refine ds_one ?_
  refine dsb_set B ?_
  refine de_call B k_turned ?_
  refine da_v ?_ ?_
  exact de_var 0
  refine da_v ?_ ?_
  exact de_var 2
  exact da_nil
  refine ds_one ?_
  refine ds_ret ?_
  exact de_var 0
theorem sc_kinds : FnScope N_kinds ["web", "most"] (defScope s_kinds) := ⟨rfl, rfl, rfl, by decide +kernel, rfl, by decide +kernel, by decide +kernel⟩
theorem ok_kinds {fa : Addr} {fd : FuncData} (F : Fun K "kinds" "kinds" s_kinds fa fd) (T : Txt K κ mg) (k_least_form : Cal P w K mg base κ "least_form" 1 f_least_form 2) (k_turned_by : Cal P w K mg base κ "turned_by" 2 f_turned_by 4) (k_turned : Cal P w K mg base κ "turned" 2 f_turned 3) : FnOk P w K mg base (L2.CX P w) (5) fa fd ["web", "most"] (spF K κ 2 (mkF 2 7 [] (c_kinds))) := by
  refine fn_ok (k := 4) (N := N_kinds) F sc_kinds (by decide +kernel) fun cdv A outer s H E B => ?_
  refine ds_cons ?_ ?_
  refine dsb_set B ?_
  refine de_lst ?_
  refine dl_e ?_ ?_
  refine de_tup ?_
  refine dl_e ?_ ?_
  refine de_call B k_least_form ?_
  refine da_v ?_ ?_
  exact de_var 0
  exact da_nil
  refine dl_e ?_ ?_
  refine de_tup ?_
  exact dl_nil
  exact dl_nil
  exact dl_nil
  refine ds_cons ?_ ?_
  refine dsb_set B ?_
  refine de_dict1 B.g ?_ ?_
  refine de_ix opn_ix ?_
  refine dl_e ?_ ?_
  refine de_ix opn_ix ?_
  refine dl_s (i := 2) ?_
  refine dl_e ?_ ?_
  exact de_int
  exact dl_nil
  refine dl_e ?_ ?_
  exact de_int
  exact dl_nil
  exact de_bl
  refine ds_cons ?_ ?_
  refine dsb_set B ?_
  exact de_int
  refine ds_cons ?_ ?_
  refine dsb_while B (fun _ => 1000000) ?_ ?_
  refine dt_cmp opn_lt ?_
  refine dl_s (i := 4) ?_
  refine dl_e ?_ ?_
  refine de_callB opn_len T.b_len (by decide +kernel) ?_
  refine dl_s (i := 2) ?_
  exact dl_nil
  exact dl_nil
  refine ds_cons ?_ ?_
  refine dsb_set B ?_
  refine de_ix opn_ix ?_
  refine dl_e ?_ ?_
  refine de_ix opn_ix ?_
  refine dl_s (i := 2) ?_
  refine dl_s (i := 4) ?_
  exact dl_nil
  refine dl_e ?_ ?_
  exact de_int
  exact dl_nil
  refine ds_cons ?_ ?_
  refine dsb_set B ?_
  refine de_call B k_turned_by ?_
  refine da_v ?_ ?_
  exact de_var 0
  refine da_v ?_ ?_
  exact de_var 5
  exact da_nil
  refine ds_cons ?_ ?_
  refine dsb_for B ?_ ?_ ?_
  refine di_range1 T.b_range ?_
  refine dl_e ?_ ?_
  refine de_callB opn_len T.b_len (by decide +kernel) ?_
  refine dl_s (i := 0) ?_
  exact dl_nil
  exact dl_nil
  exact dgb_n B 7
  refine ds_cons ?_ ?_
  refine dsb_set B ?_
  refine de_call B k_least_form ?_
  refine da_v ?_ ?_
  refine de_call B k_turned ?_
  refine da_v ?_ ?_
  exact de_var 6
  refine da_v ?_ ?_
  exact de_var 7
  exact da_nil
  exact da_nil
  refine ds_one ?_
  refine ds_if ?_ ?_ ?_
  refine dt_cmp (opn_dnotIn B.g) ?_
  refine dl_s (i := 8) ?_
  refine dl_s (i := 3) ?_
  exact dl_nil
  refine ds_cons ?_ ?_
  refine ds_if ?_ ?_ ?_
  refine dt_cmp (opn_eq B.g) ?_
  refine dl_e ?_ ?_
  refine de_callB opn_len T.b_len (by decide +kernel) ?_
  refine dl_s (i := 2) ?_
  exact dl_nil
  refine dl_s (i := 1) ?_
  exact dl_nil
  refine ds_one ?_
  exact dsb_raise B (x := "TooMany") T.x_TooMany
  exact ds_nil
  refine ds_cons ?_ ?_
  refine ds_setIx (i := 3) (sto_d B.g) ?_ ?_
  exact de_var 8
  exact de_bl
  refine ds_one ?_
  refine ds_ex ?_
  refine de_meth (i := 2) PySem.F.slot_list_append PySem.F.type_list_append mut_append ?_
  refine dl_e ?_ ?_
  refine de_tup ?_
  refine dl_e ?_ ?_
  exact de_var 8
  refine dl_e ?_ ?_
  refine de_bin opn_add ?_
  refine dl_s (i := 5) ?_
  refine dl_e ?_ ?_
  refine de_tup ?_
  refine dl_e ?_ ?_
  exact de_var 7
  exact dl_nil
  exact dl_nil
  exact dl_nil
  exact dl_nil
  exact ds_nil
  refine ds_one ?_
  exact dsb_aug B (i := 4) ip_add
  refine ds_one ?_
  refine ds_ret ?_
  exact de_take 2
theorem sc_law_draw : FnScope N_law_draw ["_law_tape", "_law_many"] (defScope s_law_draw) := ⟨rfl, rfl, rfl, by decide +kernel, rfl, by decide +kernel, by decide +kernel⟩
theorem ok_law_draw {fa : Addr} {fd : FuncData} (F : Fun K "_law_draw" "_law_draw" s_law_draw fa fd) (T : Txt K κ mg) : FnOk P w K mg base (L2.CX P w) (1) fa fd ["_law_tape", "_law_many"] (spF K κ 2 (mkF 2 3 [0] (c_law_draw))) := by
  refine fn_ok (k := 0) (N := N_law_draw) F sc_law_draw (by decide +kernel) fun cdv A outer s H E B => ?_
  refine ds_cons ?_ ?_
  refine dsb_set B ?_
  exact de_int
  refine ds_cons ?_ ?_
  refine ds_if ?_ ?_ ?_
  refine dt_cmp opn_lt ?_
  refine dl_e ?_ ?_
  refine de_ix opn_ix ?_
  refine dl_s (i := 0) ?_
  refine dl_e ?_ ?_
  exact de_int
  exact dl_nil
  refine dl_s (i := 1) ?_
  exact dl_nil
  refine ds_cons ?_ ?_
  refine dsb_set B ?_
  exact de_int
  refine ds_cons ?_ ?_
  refine ds_if ?_ ?_ ?_
  refine dt_cmp opn_gt ?_
  refine dl_e ?_ ?_
  refine de_callB opn_len T.b_len (by decide +kernel) ?_
  refine dl_e ?_ ?_
  refine de_ix opn_ix ?_
  refine dl_s (i := 0) ?_
  refine dl_e ?_ ?_
  exact de_int
  exact dl_nil
  exact dl_nil
  refine dl_e ?_ ?_
  exact de_int
  exact dl_nil
  refine ds_one ?_
  refine dsb_set B ?_
  refine de_ix opn_ix ?_
  refine dl_e ?_ ?_
  refine de_ix opn_ix ?_
  refine dl_s (i := 0) ?_
  refine dl_e ?_ ?_
  exact de_int
  exact dl_nil
  refine dl_e ?_ ?_
  refine de_bin opn_mod ?_
  refine dl_e ?_ ?_
  refine de_ix opn_ix ?_
  refine dl_s (i := 0) ?_
  refine dl_e ?_ ?_
  exact de_int
  exact dl_nil
  refine dl_e ?_ ?_
  refine de_callB opn_len T.b_len (by decide +kernel) ?_
  refine dl_e ?_ ?_
  refine de_ix opn_ix ?_
  refine dl_s (i := 0) ?_
  refine dl_e ?_ ?_
  exact de_int
  exact dl_nil
  exact dl_nil
  exact dl_nil
  exact dl_nil
  exact ds_nil
  refine ds_cons ?_ ?_
  refine ds_if ?_ ?_ ?_
  refine dt_w ?_
  refine dw_or ?_ ?_
  refine dt_cmp opn_ge ?_
  refine dl_e ?_ ?_
  refine de_ix opn_ix ?_
  refine dl_s (i := 0) ?_
  refine dl_e ?_ ?_
  exact de_int
  exact dl_nil
  refine dl_e ?_ ?_
  refine de_callB opn_len T.b_len (by decide +kernel) ?_
  refine dl_e ?_ ?_
  refine de_ix opn_ix ?_
  refine dl_s (i := 0) ?_
  refine dl_e ?_ ?_
  exact de_int
  exact dl_nil
  exact dl_nil
  exact dl_nil
  refine dw_or1 ?_
  refine dt_cmp opn_lt ?_
  refine dl_s (i := 3) ?_
  refine dl_e ?_ ?_
  refine de_bin opn_pow ?_
  refine dl_e ?_ ?_
  exact de_int
  refine dl_e ?_ ?_
  exact de_int
  exact dl_nil
  exact dl_nil
  refine ds_cons ?_ ?_
  refine dsb_set B ?_
  refine de_bin opn_mod ?_
  refine dl_e ?_ ?_
  refine de_bin opn_add ?_
  refine dl_s (i := 3) ?_
  refine dl_e ?_ ?_
  refine de_bin opn_mul ?_
  refine dl_e ?_ ?_
  exact de_int
  refine dl_e ?_ ?_
  refine de_ix opn_ix ?_
  refine dl_s (i := 0) ?_
  refine dl_e ?_ ?_
  exact de_int
  exact dl_nil
  exact dl_nil
  exact dl_nil
  refine dl_s (i := 2) ?_
  exact dl_nil
  refine ds_cons ?_ ?_
  refine dsb_set B ?_
  refine de_bin opn_mod ?_
  refine dl_e ?_ ?_
  refine de_bin opn_add ?_
  refine dl_e ?_ ?_
  refine de_bin opn_add ?_
  refine dl_e ?_ ?_
  refine de_bin opn_mul ?_
  refine dl_s (i := 3) ?_
  refine dl_s (i := 3) ?_
  exact dl_nil
  refine dl_e ?_ ?_
  refine de_bin opn_mul ?_
  refine dl_e ?_ ?_
  exact de_int
  refine dl_s (i := 3) ?_
  exact dl_nil
  exact dl_nil
  refine dl_e ?_ ?_
  exact de_int
  exact dl_nil
  refine dl_s (i := 2) ?_
  exact dl_nil
  refine ds_one ?_
  refine dsb_set B ?_
  refine de_bin opn_mod ?_
  refine dl_e ?_ ?_
  refine de_bin opn_add ?_
  refine dl_e ?_ ?_
  refine de_bin opn_mul ?_
  refine dl_s (i := 3) ?_
  refine dl_s (i := 3) ?_
  exact dl_nil
  refine dl_e ?_ ?_
  exact de_int
  exact dl_nil
  refine dl_s (i := 2) ?_
  exact dl_nil
  exact ds_nil
  refine ds_cons ?_ ?_
  refine ds_setIx (i := 0) sto_ix ?_ ?_
  exact de_int
  refine de_bin opn_add ?_
  refine dl_e ?_ ?_
  refine de_ix opn_ix ?_
  refine dl_s (i := 0) ?_
  refine dl_e ?_ ?_
  exact de_int
  exact dl_nil
  refine dl_e ?_ ?_
  exact de_int
  exact dl_nil
  refine ds_one ?_
  refine ds_setIx (i := 0) sto_ix ?_ ?_
  exact de_int
  exact de_var 3
  exact ds_nil
  refine ds_cons ?_ ?_
  refine dsb_set B ?_
  refine de_bin opn_mod ?_
  refine dl_e ?_ ?_
  refine de_ix opn_ix ?_
  refine dl_s (i := 0) ?_
  refine dl_e ?_ ?_
  exact de_int
  exact dl_nil
  refine dl_s (i := 1) ?_
  exact dl_nil
  refine ds_cons ?_ ?_
  refine ds_setIx (i := 0) sto_ix ?_ ?_
  exact de_int
  refine de_bin opn_fdiv ?_
  refine dl_e ?_ ?_
  refine de_ix opn_ix ?_
  refine dl_s (i := 0) ?_
  refine dl_e ?_ ?_
  exact de_int
  exact dl_nil
  refine dl_s (i := 1) ?_
  exact dl_nil
  refine ds_one ?_
  refine ds_ret ?_
  exact de_var 4
theorem sc_law_word : FnScope N_law_word ["_law_error"] (defScope s_law_word) := ⟨rfl, rfl, rfl, by decide +kernel, rfl, by decide +kernel, by decide +kernel⟩
theorem ok_law_word {fa : Addr} {fd : FuncData} (F : Fun K "_law_word" "_law_word" s_law_word fa fd) (T : Txt K κ mg) : FnOk P w K mg base (L2.CX P w) (1) fa fd ["_law_error"] (spF K κ 1 (mkF 1 2 [] (c_law_word))) := by
  refine fn_ok (k := 0) (N := N_law_word) F sc_law_word (by decide +kernel) fun cdv A outer s H E B => ?_
  refine ds_cons ?_ ?_
  refine dsb_set B ?_
  refine de_fz ?_
  refine de_lst ?_
  refine dl_e ?_ ?_
  refine de_callB (opn_isE T.sub) T.b_isinstance (by decide +kernel) ?_
  refine dl_s (i := 0) ?_
  refine dl_e ?_ ?_
  exact de_cls (x := "NoWeb") T.x_NoWeb.g
  exact dl_nil
  refine dl_e ?_ ?_
  refine de_callB (opn_isE T.sub) T.b_isinstance (by decide +kernel) ?_
  refine dl_s (i := 0) ?_
  refine dl_e ?_ ?_
  exact de_cls (x := "NoCorner") T.x_NoCorner.g
  exact dl_nil
  refine dl_e ?_ ?_
  refine de_callB (opn_isE T.sub) T.b_isinstance (by decide +kernel) ?_
  refine dl_s (i := 0) ?_
  refine dl_e ?_ ?_
  exact de_cls (x := "NoOrder") T.x_NoOrder.g
  exact dl_nil
  exact dl_nil
  refine ds_cons ?_ ?_
  refine dsb_set B ?_
  refine de_fz ?_
  refine de_bin opn_add ?_
  refine dl_s (i := 1) ?_
  refine dl_e ?_ ?_
  refine de_lst ?_
  refine dl_e ?_ ?_
  refine de_callB (opn_isE T.sub) T.b_isinstance (by decide +kernel) ?_
  refine dl_s (i := 0) ?_
  refine dl_e ?_ ?_
  exact de_cls (x := "NoSum") T.x_NoSum.g
  exact dl_nil
  refine dl_e ?_ ?_
  refine de_callB (opn_isE T.sub) T.b_isinstance (by decide +kernel) ?_
  refine dl_s (i := 0) ?_
  refine dl_e ?_ ?_
  exact de_cls (x := "NoPart") T.x_NoPart.g
  exact dl_nil
  refine dl_e ?_ ?_
  refine de_callB (opn_isE T.sub) T.b_isinstance (by decide +kernel) ?_
  refine dl_s (i := 0) ?_
  refine dl_e ?_ ?_
  exact de_cls (x := "TooMany") T.x_TooMany.g
  exact dl_nil
  exact dl_nil
  exact dl_nil
  refine ds_cons ?_ ?_
  refine dsb_set B ?_
  refine de_fz ?_
  refine de_bin opn_add ?_
  refine dl_s (i := 1) ?_
  refine dl_e ?_ ?_
  refine de_lst ?_
  refine dl_e ?_ ?_
  refine de_callB (opn_isE T.sub) T.b_isinstance (by decide +kernel) ?_
  refine dl_s (i := 0) ?_
  refine dl_e ?_ ?_
  exact de_cls (x := "NoCuts") T.x_NoCuts.g
  exact dl_nil
  refine dl_e ?_ ?_
  refine de_callB (opn_isE T.sub) T.b_isinstance (by decide +kernel) ?_
  refine dl_s (i := 0) ?_
  refine dl_e ?_ ?_
  exact de_cls (x := "NoCut") T.x_NoCut.g
  exact dl_nil
  refine dl_e ?_ ?_
  refine de_callB (opn_isE T.sub) T.b_isinstance (by decide +kernel) ?_
  refine dl_s (i := 0) ?_
  refine dl_e ?_ ?_
  exact de_cls (x := "NothingLeft") T.x_NothingLeft.g
  exact dl_nil
  exact dl_nil
  exact dl_nil
  refine ds_cons ?_ ?_
  refine dsb_set B ?_
  refine de_fz ?_
  refine de_bin opn_add ?_
  refine dl_s (i := 1) ?_
  refine dl_e ?_ ?_
  refine de_lst ?_
  refine dl_e ?_ ?_
  refine de_callB (opn_isE T.sub) T.b_isinstance (by decide +kernel) ?_
  refine dl_s (i := 0) ?_
  refine dl_e ?_ ?_
  exact de_cls (x := "NoText") T.x_NoText.g
  exact dl_nil
  refine dl_e ?_ ?_
  refine de_callB (opn_isE T.sub) T.b_isinstance (by decide +kernel) ?_
  refine dl_s (i := 0) ?_
  refine dl_e ?_ ?_
  exact de_cls (x := "NoName") T.x_NoName.g
  exact dl_nil
  refine dl_e ?_ ?_
  refine de_callB (opn_isE T.sub) T.b_isinstance (by decide +kernel) ?_
  refine dl_s (i := 0) ?_
  refine dl_e ?_ ?_
  exact de_cls (x := "NoRow") T.x_NoRow.g
  exact dl_nil
  exact dl_nil
  exact dl_nil
  refine ds_cons ?_ ?_
  refine ds_if ?_ ?_ ?_
  refine dt_w ?_
  refine dw_or ?_ ?_
  refine dt_not ?_
  refine dt_val ?_
  refine de_callB (opn_isE T.sub) T.b_isinstance (by decide +kernel) ?_
  refine dl_s (i := 0) ?_
  refine dl_e ?_ ?_
  exact de_gty T.b_ValueError (by decide +kernel)
  exact dl_nil
  refine dw_or1 ?_
  refine dt_cmp (opn_ne B.g) ?_
  refine dl_e ?_ ?_
  refine de_rm (T := "list") (name := "count") PySem.F.plainAttrs_list PySem.F.slot_list_count PySem.F.type_list_count (opn_count B.g) ?_ ?_
  exact de_var 1
  refine dl_e ?_ ?_
  exact de_bl
  exact dl_nil
  refine dl_e ?_ ?_
  exact de_int
  exact dl_nil
  refine ds_one ?_
  refine ds_ret ?_
  refine de_tup ?_
  refine dl_e ?_ ?_
  exact de_str
  exact dl_nil
  exact ds_nil
  refine ds_cons ?_ ?_
  refine dsb_set B ?_
  refine de_fz ?_
  refine de_lst ?_
  refine dl_e ?_ ?_
  exact de_str
  refine dl_e ?_ ?_
  exact de_str
  refine dl_e ?_ ?_
  exact de_str
  refine dl_e ?_ ?_
  exact de_str
  refine dl_e ?_ ?_
  exact de_str
  refine dl_e ?_ ?_
  exact de_str
  refine dl_e ?_ ?_
  exact de_str
  refine dl_e ?_ ?_
  exact de_str
  refine dl_e ?_ ?_
  exact de_str
  refine dl_e ?_ ?_
  exact de_str
  refine dl_e ?_ ?_
  exact de_str
  refine dl_e ?_ ?_
  exact de_str
  exact dl_nil
  refine ds_one ?_
  refine ds_ret ?_
  refine de_tup ?_
  refine dl_e ?_ ?_
  refine de_ix opn_ix ?_
  refine dl_s (i := 2) ?_
  refine dl_e ?_ ?_
  refine de_rm (T := "list") (name := "index") PySem.F.plainAttrs_list PySem.F.slot_list_index PySem.F.type_list_index (opn_index B.g) ?_ ?_
  exact de_var 1
  refine dl_e ?_ ?_
  exact de_bl
  exact dl_nil
  exact dl_nil
  exact dl_nil
theorem sc_law_table : FnScope N_law_table ["_law_many", "_law_ties"] (defScope s_law_table) := ⟨rfl, rfl, rfl, by decide +kernel, rfl, by decide +kernel, by decide +kernel⟩
theorem ok_law_table {fa : Addr} {fd : FuncData} (F : Fun K "_law_table" "_law_table" s_law_table fa fd) (T : Txt K κ mg) : FnOk P w K mg base (L2.CX P w) (1) fa fd ["_law_many", "_law_ties"] (spF K κ 2 (mkF 2 5 [] (c_law_table))) := by
  refine fn_ok (k := 0) (N := N_law_table) F sc_law_table (by decide +kernel) fun cdv A outer s H E B => ?_
  refine ds_cons ?_ ?_
  first | refine dsb_setCL B (own := [("_law_i", 3)]) ?_ (blkOk_by (N := N_law_table) (sc := (defScope s_law_table)) (by decide +kernel)) ?_ ?_ ?_ | (refine dsb_set B ?_; refine deb_compL B (own := [("_law_i", 3)]) ?_ (blkOk_by (N := N_law_table) (sc := (defScope s_law_table)) (by decide +kernel)) ?_ ?_ ?_)
  refine di_range1 T.b_range ?_
  refine dl_s (i := 0) ?_
  exact dl_nil
  intro _ _ _ _ _; exact dgb_n B.blk 3
  intro _ _ _ _ _; exact dts_nil
  intro _ _ _ _ _; refine de_bin opn_mul ?_
  refine dl_e ?_ ?_
  refine de_lst ?_
  refine dl_e ?_ ?_
  exact de_int
  exact dl_nil
  refine dl_s (i := 0) ?_
  exact dl_nil
  refine ds_cons ?_ ?_
  refine dsb_for B ?_ ?_ ?_
  refine di_val ?_
  exact de_var 1
  refine dgb_t B ?_
  refine dgs_cons ?_ ?_
  exact dgb_n B 3
  refine dgs_cons ?_ ?_
  exact dgb_n B 4
  refine dgs_cons ?_ ?_
  exact dgb_n B 5
  exact dgs_nil
  refine ds_cons ?_ ?_
  refine ds_set2 (i := 2) ?_ ?_ ?_
  exact at_var 3
  exact at_var 4
  refine de_bin opn_add ?_
  refine dl_e ?_ ?_
  refine de_get2 (i := 2) ?_ ?_
  exact at_var 3
  exact at_var 4
  refine dl_s (i := 5) ?_
  exact dl_nil
  refine ds_one ?_
  refine ds_set2 (i := 2) ?_ ?_ ?_
  exact at_var 4
  exact at_var 3
  refine de_bin opn_sub ?_
  refine dl_e ?_ ?_
  refine de_get2 (i := 2) ?_ ?_
  exact at_var 4
  exact at_var 3
  refine dl_s (i := 5) ?_
  exact dl_nil
  refine ds_one ?_
  refine ds_ret ?_
  refine de_callT opn_tuple T.b_tuple (by decide +kernel) ?_
  refine dl_e ?_ ?_
  refine deb_comp B (own := [("_law_row", 6)]) ?_ (blkOk_by (N := N_law_table) (sc := (defScope s_law_table)) (by decide +kernel)) ?_ ?_ ?_
  refine di_val ?_
  exact de_varF 2
  intro _ _ _ _ _; exact dgb_n B.blk 6
  intro _ _ _ _ _; exact dts_nil
  intro _ _ _ _ _; refine de_callT opn_tuple T.b_tuple (by decide +kernel) ?_
  refine dl_s (i := 6) ?_
  exact dl_nil
  exact dl_nil
theorem sc_law_line : FnScope N_law_line ["_law_tape", "_law_many"] (defScope s_law_line) := ⟨rfl, rfl, rfl, by decide +kernel, rfl, by decide +kernel, by decide +kernel⟩
theorem ok_law_line {fa : Addr} {fd : FuncData} (F : Fun K "_law_line" "_law_line" s_law_line fa fd) (T : Txt K κ mg) (k_law_draw : Cal P w K mg base κ "_law_draw" 2 f_law_draw 1) (k_law_table : Cal P w K mg base κ "_law_table" 2 f_law_table 1) : FnOk P w K mg base (L2.CX P w) (2) fa fd ["_law_tape", "_law_many"] (spF K κ 2 (mkF 2 3 [0] (c_law_line))) := by
  refine fn_ok (k := 1) (N := N_law_line) F sc_law_line (by decide +kernel) fun cdv A outer s H E B => ?_
  refine ds_cons ?_ ?_
  refine dsb_set B ?_
  refine de_lst ?_
  exact dl_nil
  refine ds_cons ?_ ?_
  refine dsb_for B ?_ ?_ ?_
  refine di_range2 T.b_range ?_
  refine dl_e ?_ ?_
  exact de_int
  refine dl_s (i := 1) ?_
  exact dl_nil
  exact dgb_n B 3
  refine ds_cons ?_ ?_
  refine dsb_set B ?_
  refine de_bin opn_sub ?_
  refine dl_s (i := 3) ?_
  refine dl_e ?_ ?_
  exact de_int
  exact dl_nil
  refine ds_cons ?_ ?_
  refine ds_if ?_ ?_ ?_
  refine dt_w ?_
  refine dw_and ?_ ?_
  refine dt_cmp opn_gt ?_
  refine dl_s (i := 3) ?_
  refine dl_e ?_ ?_
  exact de_int
  exact dl_nil
  refine dw_and ?_ ?_
  refine dt_cmp (opn_eq B.g) ?_
  refine dl_s (i := 3) ?_
  refine dl_e ?_ ?_
  refine de_bin opn_sub ?_
  refine dl_s (i := 1) ?_
  refine dl_e ?_ ?_
  exact de_int
  exact dl_nil
  exact dl_nil
  refine dw_and1 ?_
  refine dt_cmp (opn_eq B.g) ?_
  refine dl_e ?_ ?_
  refine de_call B k_law_draw ?_
  refine da_s 0 ?_
  refine da_v ?_ ?_
  exact de_int
  exact da_nil
  refine dl_e ?_ ?_
  exact de_int
  exact dl_nil
  refine ds_one ?_
  refine dsb_set B ?_
  refine de_bin opn_sub ?_
  refine dl_s (i := 3) ?_
  refine dl_e ?_ ?_
  exact de_int
  exact dl_nil
  exact ds_nil
  refine ds_one ?_
  refine ds_ex ?_
  refine de_meth (i := 2) PySem.F.slot_list_append PySem.F.type_list_append mut_append ?_
  refine dl_e ?_ ?_
  refine de_ix opn_ix ?_
  refine dl_e ?_ ?_
  refine de_lst ?_
  refine dl_e ?_ ?_
  refine de_tup ?_
  refine dl_e ?_ ?_
  exact de_var 4
  refine dl_e ?_ ?_
  exact de_var 3
  refine dl_e ?_ ?_
  exact de_int
  exact dl_nil
  refine dl_e ?_ ?_
  refine de_tup ?_
  refine dl_e ?_ ?_
  exact de_var 3
  refine dl_e ?_ ?_
  exact de_var 4
  refine dl_e ?_ ?_
  exact de_int
  exact dl_nil
  exact dl_nil
  refine dl_e ?_ ?_
  refine de_call B k_law_draw ?_
  refine da_s 0 ?_
  refine da_v ?_ ?_
  exact de_int
  exact da_nil
  exact dl_nil
  exact dl_nil
  refine ds_one ?_
  refine ds_ret ?_
  refine de_call B k_law_table ?_
  refine da_v ?_ ?_
  exact de_var 1
  refine da_v ?_ ?_
  exact de_varF 2
  exact da_nil
theorem sc_law_numbered : FnScope N_law_numbered ["_law_web_here", "_law_order_here"] (defScope s_law_numbered) := ⟨rfl, rfl, rfl, by decide +kernel, rfl, by decide +kernel, by decide +kernel⟩
theorem ok_law_numbered {fa : Addr} {fd : FuncData} (F : Fun K "_law_numbered" "_law_numbered" s_law_numbered fa fd) (T : Txt K κ mg) : FnOk P w K mg base (L2.CX P w) (1) fa fd ["_law_web_here", "_law_order_here"] (spF K κ 2 (mkF 2 2 [] (c_law_numbered))) := by
  refine fn_ok (k := 0) (N := N_law_numbered) F sc_law_numbered (by decide +kernel) fun cdv A outer s H E B => ?_
  refine ds_one ?_
  refine ds_ret ?_
  refine de_callT opn_tuple T.b_tuple (by decide +kernel) ?_
  refine dl_e ?_ ?_
  refine deb_comp B (own := [("_law_i", 3)]) ?_ (blkOk_by (N := N_law_numbered) (sc := (defScope s_law_numbered)) (by decide +kernel)) ?_ ?_ ?_
  refine di_val ?_
  exact de_var 1
  intro _ _ _ _ _; exact dgb_n B.blk 3
  intro _ _ _ _ _; exact dts_nil
  intro _ _ _ _ _; refine de_callT opn_tuple T.b_tuple (by decide +kernel) ?_
  refine dl_e ?_ ?_
  refine deb_comp B.blk (own := [("_law_j", 2)]) ?_ (blkOk_by (N := N_law_numbered) (sc := (L2.relS _ (defScope s_law_numbered))) (by decide +kernel)) ?_ ?_ ?_
  refine di_val ?_
  exact de_var 1
  intro _ _ _ _ _; exact dgb_n B.blk.blk 2
  intro _ _ _ _ _; exact dts_nil
  intro _ _ _ _ _; refine de_ix opn_ix ?_
  refine dl_e ?_ ?_
  refine de_ix opn_ix ?_
  refine dl_s (i := 0) ?_
  refine dl_s (i := 3) ?_
  exact dl_nil
  refine dl_s (i := 2) ?_
  exact dl_nil
  exact dl_nil
  exact dl_nil
theorem sc_law_order : FnScope N_law_order ["_law_tape", "_law_many"] (defScope s_law_order) := ⟨rfl, rfl, rfl, by decide +kernel, rfl, by decide +kernel, by decide +kernel⟩
theorem ok_law_order {fa : Addr} {fd : FuncData} (F : Fun K "_law_order" "_law_order" s_law_order fa fd) (T : Txt K κ mg) (k_law_draw : Cal P w K mg base κ "_law_draw" 2 f_law_draw 1) : FnOk P w K mg base (L2.CX P w) (2) fa fd ["_law_tape", "_law_many"] (spF K κ 2 (mkF 2 2 [0] (c_law_order))) := by
  refine fn_ok (k := 1) (N := N_law_order) F sc_law_order (by decide +kernel) fun cdv A outer s H E B => ?_
  refine ds_cons ?_ ?_
  refine dsb_set B ?_
  refine de_listR1 B.g T.b_list T.b_range ?_
  refine dl_s (i := 1) ?_
  exact dl_nil
  refine ds_cons ?_ ?_
  refine dsb_set B ?_
  refine de_lst ?_
  exact dl_nil
  refine ds_cons ?_ ?_
  refine dsb_while B (fun _ => 1000000) ?_ ?_
  refine dt_cmp (opn_ne B.g) ?_
  refine dl_s (i := 2) ?_
  refine dl_e ?_ ?_
  refine de_lst ?_
  exact dl_nil
  exact dl_nil
  refine ds_one ?_
  refine ds_ex ?_
  refine de_meth (i := 3) PySem.F.slot_list_append PySem.F.type_list_append mut_append ?_
  refine dl_e ?_ ?_
  refine de_meth (i := 2) PySem.F.slot_list_pop PySem.F.type_list_pop mut_pop ?_
  refine dl_e ?_ ?_
  refine de_call B k_law_draw ?_
  refine da_s 0 ?_
  refine da_v ?_ ?_
  refine de_callB opn_len T.b_len (by decide +kernel) ?_
  refine dl_s (i := 2) ?_
  exact dl_nil
  exact da_nil
  exact dl_nil
  exact dl_nil
  refine ds_one ?_
  refine ds_ret ?_
  refine de_callT opn_tuple T.b_tuple (by decide +kernel) ?_
  refine dl_s (i := 3) ?_
  exact dl_nil
theorem sc_law_shuffled_web : FnScope N_law_shuffled_web ["_law_tape", "_law_web_here"] (defScope s_law_shuffled_web) := ⟨rfl, rfl, rfl, by decide +kernel, rfl, by decide +kernel, by decide +kernel⟩
theorem ok_law_shuffled_web {fa : Addr} {fd : FuncData} (F : Fun K "_law_shuffled_web" "_law_shuffled_web" s_law_shuffled_web fa fd) (T : Txt K κ mg) (k_law_numbered : Cal P w K mg base κ "_law_numbered" 2 f_law_numbered 1) (k_law_order : Cal P w K mg base κ "_law_order" 2 f_law_order 2) : FnOk P w K mg base (L2.CX P w) (3) fa fd ["_law_tape", "_law_web_here"] (spF K κ 2 (mkF 2 0 [0] (c_law_shuffled_web))) := by
  refine fn_ok (k := 2) (N := N_law_shuffled_web) F sc_law_shuffled_web (by decide +kernel) fun cdv A outer s H E B => ?_
  refine ds_one ?_
  refine ds_ret ?_
  refine de_call B k_law_numbered ?_
  refine da_v ?_ ?_
  exact de_var 1
  refine da_v ?_ ?_
  refine de_call B k_law_order ?_
  refine da_s 0 ?_
  refine da_v ?_ ?_
  refine de_callB opn_len T.b_len (by decide +kernel) ?_
  refine dl_s (i := 1) ?_
  exact dl_nil
  exact da_nil
  exact da_nil
theorem sc_law_web : FnScope N_law_web ["_law_tape", "_law_most"] (defScope s_law_web) := ⟨rfl, rfl, rfl, by decide +kernel, rfl, by decide +kernel, by decide +kernel⟩
theorem ok_law_web {fa : Addr} {fd : FuncData} (F : Fun K "_law_web" "_law_web" s_law_web fa fd) (T : Txt K κ mg) (k_law_draw : Cal P w K mg base κ "_law_draw" 2 f_law_draw 1) (k_law_shuffled_web : Cal P w K mg base κ "_law_shuffled_web" 2 f_law_shuffled_web 3) (k_law_line : Cal P w K mg base κ "_law_line" 2 f_law_line 2) (k_law_table : Cal P w K mg base κ "_law_table" 2 f_law_table 1) : FnOk P w K mg base (L2.CX P w) (4) fa fd ["_law_tape", "_law_most"] (spF K κ 2 (mkF 2 6 [0] (c_law_web))) := by
  refine fn_ok (k := 3) (N := N_law_web) F sc_law_web (by decide +kernel) fun cdv A outer s H E B => ?_
  refine ds_cons ?_ ?_
  refine dsb_set B ?_
  refine de_bin opn_add ?_
  refine dl_e ?_ ?_
  exact de_int
  refine dl_e ?_ ?_
  refine de_call B k_law_draw ?_
  refine da_s 0 ?_
  refine da_v ?_ ?_
  exact de_var 1
  exact da_nil
  exact dl_nil
  refine ds_cons ?_ ?_
  refine dsb_set B ?_
  refine de_call B k_law_draw ?_
  refine da_s 0 ?_
  refine da_v ?_ ?_
  exact de_int
  exact da_nil
  refine ds_cons ?_ ?_
  refine ds_if ?_ ?_ ?_
  refine dt_cmp (opn_eq B.g) ?_
  refine dl_s (i := 3) ?_
  refine dl_e ?_ ?_
  exact de_int
  exact dl_nil
  refine ds_one ?_
  refine ds_ret ?_
  refine de_call B k_law_shuffled_web ?_
  refine da_s 0 ?_
  refine da_v ?_ ?_
  refine de_call B k_law_line ?_
  refine da_s 0 ?_
  refine da_v ?_ ?_
  exact de_var 2
  exact da_nil
  exact da_nil
  exact ds_nil
  refine ds_cons ?_ ?_
  refine ds_if ?_ ?_ ?_
  refine dt_w ?_
  refine dw_and ?_ ?_
  refine dt_cmp (opn_eq B.g) ?_
  refine dl_s (i := 3) ?_
  refine dl_e ?_ ?_
  exact de_int
  exact dl_nil
  refine dw_and1 ?_
  refine dt_cmp opn_gt ?_
  refine dl_s (i := 2) ?_
  refine dl_e ?_ ?_
  exact de_int
  exact dl_nil
  refine ds_one ?_
  refine ds_ret ?_
  refine de_call B k_law_shuffled_web ?_
  refine da_s 0 ?_
  refine da_v ?_ ?_
  refine de_call B k_law_table ?_
  refine da_v ?_ ?_
  exact de_var 2
  refine da_v ?_ ?_
  refine de_fz ?_
  refine deb_comp B (own := [("_law_i", 4)]) ?_ (blkOk_by (N := N_law_web) (sc := (defScope s_law_web)) (by decide +kernel)) ?_ ?_ ?_
  refine di_range1 T.b_range ?_
  refine dl_s (i := 2) ?_
  exact dl_nil
  intro _ _ _ _ _; exact dgb_n B.blk 4
  intro _ _ _ _ _; exact dts_nil
  intro _ _ _ _ _; refine de_tup ?_
  refine dl_e ?_ ?_
  exact de_var 4
  refine dl_e ?_ ?_
  refine de_bin opn_mod ?_
  refine dl_e ?_ ?_
  refine de_bin opn_add ?_
  refine dl_s (i := 4) ?_
  refine dl_e ?_ ?_
  exact de_int
  exact dl_nil
  refine dl_s (i := 2) ?_
  exact dl_nil
  refine dl_e ?_ ?_
  exact de_int
  exact dl_nil
  exact da_nil
  exact da_nil
  exact ds_nil
  refine ds_cons ?_ ?_
  refine dsb_set B ?_
  refine de_lst ?_
  exact dl_nil
  refine ds_cons ?_ ?_
  refine dsb_for B ?_ ?_ ?_
  refine di_range1 T.b_range ?_
  refine dl_s (i := 2) ?_
  exact dl_nil
  exact dgb_n B 4
  refine ds_one ?_
  refine dsb_for B ?_ ?_ ?_
  refine di_range2 T.b_range ?_
  refine dl_e ?_ ?_
  refine de_bin opn_add ?_
  refine dl_s (i := 4) ?_
  refine dl_e ?_ ?_
  exact de_int
  exact dl_nil
  refine dl_s (i := 2) ?_
  exact dl_nil
  exact dgb_n B 6
  refine ds_cons ?_ ?_
  refine dsb_set B ?_
  refine de_ix opn_ix ?_
  refine dl_e ?_ ?_
  refine de_lst ?_
  refine dl_e ?_ ?_
  refine de_bin opn_sub ?_
  refine dl_e ?_ ?_
  refine de_call B k_law_draw ?_
  refine da_s 0 ?_
  refine da_v ?_ ?_
  exact de_int
  exact da_nil
  refine dl_e ?_ ?_
  exact de_int
  exact dl_nil
  refine dl_e ?_ ?_
  refine de_bin opn_sub ?_
  refine dl_e ?_ ?_
  refine de_call B k_law_draw ?_
  refine da_s 0 ?_
  refine da_v ?_ ?_
  exact de_int
  exact da_nil
  refine dl_e ?_ ?_
  exact de_int
  exact dl_nil
  refine dl_e ?_ ?_
  refine de_bin opn_sub ?_
  refine dl_e ?_ ?_
  refine de_call B k_law_draw ?_
  refine da_s 0 ?_
  refine da_v ?_ ?_
  exact de_int
  exact da_nil
  refine dl_e ?_ ?_
  exact de_int
  exact dl_nil
  exact dl_nil
  refine dl_e ?_ ?_
  refine de_bin opn_mod ?_
  refine dl_s (i := 3) ?_
  refine dl_e ?_ ?_
  exact de_int
  exact dl_nil
  exact dl_nil
  refine ds_one ?_
  refine ds_ex ?_
  refine de_meth (i := 5) PySem.F.slot_list_append PySem.F.type_list_append mut_append ?_
  refine dl_e ?_ ?_
  refine de_tup ?_
  refine dl_e ?_ ?_
  exact de_var 4
  refine dl_e ?_ ?_
  exact de_var 6
  refine dl_e ?_ ?_
  refine de_bin opn_mul ?_
  refine dl_s (i := 7) ?_
  refine dl_e ?_ ?_
  refine de_callT opn_int T.b_int (by decide +kernel) ?_
  refine dl_e ?_ ?_
  refine de_or ?_ ?_
  refine de_cmp (opn_eq B.g) ?_
  refine dl_s (i := 3) ?_
  refine dl_e ?_ ?_
  exact de_int
  exact dl_nil
  refine de_oneB ?_
  refine de_cmp opn_gt ?_
  refine dl_e ?_ ?_
  refine de_call B k_law_draw ?_
  refine da_s 0 ?_
  refine da_v ?_ ?_
  exact de_int
  exact da_nil
  refine dl_e ?_ ?_
  exact de_int
  exact dl_nil
  exact dl_nil
  exact dl_nil
  exact dl_nil
  exact dl_nil
  refine ds_one ?_
  refine ds_ret ?_
  refine de_call B k_law_table ?_
  refine da_v ?_ ?_
  exact de_var 2
  refine da_v ?_ ?_
  exact de_varF 5
  exact da_nil
theorem sc_law_turn : FnScope N_law_turn ["_law_web_here", "_law_k"] (defScope s_law_turn) := ⟨rfl, rfl, rfl, by decide +kernel, rfl, by decide +kernel, by decide +kernel⟩
theorem ok_law_turn {fa : Addr} {fd : FuncData} (F : Fun K "_law_turn" "_law_turn" s_law_turn fa fd) (T : Txt K κ mg) : FnOk P w K mg base (L2.CX P w) (1) fa fd ["_law_web_here", "_law_k"] (spF K κ 2 (mkF 2 8 [] (c_law_turn))) := by
  refine fn_ok (k := 0) (N := N_law_turn) F sc_law_turn (by decide +kernel) fun cdv A outer s H E B => ?_
  refine ds_cons ?_ ?_
  refine dsb_set B ?_
  refine de_callB opn_len T.b_len (by decide +kernel) ?_
  refine dl_s (i := 0) ?_
  exact dl_nil
  refine ds_cons ?_ ?_
  refine dsb_set B ?_
  refine de_lst ?_
  exact dl_nil
  refine ds_cons ?_ ?_
  refine dsb_for B ?_ ?_ ?_
  refine di_range1 T.b_range ?_
  refine dl_s (i := 2) ?_
  exact dl_nil
  exact dgb_n B 4
  refine ds_cons ?_ ?_
  refine dsb_set B ?_
  refine de_lst ?_
  exact dl_nil
  refine ds_cons ?_ ?_
  refine dsb_for B ?_ ?_ ?_
  refine di_range1 T.b_range ?_
  refine dl_s (i := 2) ?_
  exact dl_nil
  exact dgb_n B 6
  refine ds_one ?_
  refine ds_if ?_ ?_ ?_
  refine dt_w ?_
  refine dw_or ?_ ?_
  refine dt_cmp (opn_eq B.g) ?_
  refine dl_s (i := 4) ?_
  refine dl_s (i := 1) ?_
  exact dl_nil
  refine dw_or1 ?_
  refine dt_cmp (opn_eq B.g) ?_
  refine dl_s (i := 6) ?_
  refine dl_s (i := 1) ?_
  exact dl_nil
  refine ds_one ?_
  refine ds_ex ?_
  refine de_meth (i := 5) PySem.F.slot_list_append PySem.F.type_list_append mut_append ?_
  refine dl_e ?_ ?_
  refine de_bin opn_sub ?_
  refine dl_e ?_ ?_
  exact de_int
  refine dl_e ?_ ?_
  refine de_ix opn_ix ?_
  refine dl_e ?_ ?_
  refine de_ix opn_ix ?_
  refine dl_s (i := 0) ?_
  refine dl_s (i := 4) ?_
  exact dl_nil
  refine dl_s (i := 6) ?_
  exact dl_nil
  exact dl_nil
  exact dl_nil
  refine ds_cons ?_ ?_
  refine dsb_set B ?_
  refine de_ix opn_ix ?_
  refine dl_e ?_ ?_
  refine de_ix opn_ix ?_
  refine dl_s (i := 0) ?_
  refine dl_s (i := 4) ?_
  exact dl_nil
  refine dl_s (i := 1) ?_
  exact dl_nil
  refine ds_cons ?_ ?_
  refine dsb_set B ?_
  refine de_ix opn_ix ?_
  refine dl_e ?_ ?_
  refine de_ix opn_ix ?_
  refine dl_s (i := 0) ?_
  refine dl_s (i := 1) ?_
  exact dl_nil
  refine dl_s (i := 6) ?_
  exact dl_nil
  refine ds_cons ?_ ?_
  refine dsb_set B ?_
  refine de_bin opn_add ?_
  refine dl_e ?_ ?_
  refine de_bin opn_mul ?_
  refine dl_e ?_ ?_
  refine de_callB opn_abs T.b_abs (by decide +kernel) ?_
  refine dl_s (i := 7) ?_
  exact dl_nil
  refine dl_s (i := 8) ?_
  exact dl_nil
  refine dl_e ?_ ?_
  refine de_bin opn_mul ?_
  refine dl_s (i := 7) ?_
  refine dl_e ?_ ?_
  refine de_callB opn_abs T.b_abs (by decide +kernel) ?_
  refine dl_s (i := 8) ?_
  exact dl_nil
  exact dl_nil
  exact dl_nil
  refine ds_one ?_
  refine ds_ex ?_
  refine de_meth (i := 5) PySem.F.slot_list_append PySem.F.type_list_append mut_append ?_
  refine dl_e ?_ ?_
  refine de_bin opn_add ?_
  refine dl_e ?_ ?_
  refine de_ix opn_ix ?_
  refine dl_e ?_ ?_
  refine de_ix opn_ix ?_
  refine dl_s (i := 0) ?_
  refine dl_s (i := 4) ?_
  exact dl_nil
  refine dl_s (i := 6) ?_
  exact dl_nil
  refine dl_e ?_ ?_
  refine de_bin opn_fdiv ?_
  refine dl_s (i := 9) ?_
  refine dl_e ?_ ?_
  exact de_int
  exact dl_nil
  exact dl_nil
  exact dl_nil
  refine ds_one ?_
  refine ds_ex ?_
  refine de_meth (i := 3) PySem.F.slot_list_append PySem.F.type_list_append mut_append ?_
  refine dl_e ?_ ?_
  refine de_callT opn_tuple T.b_tuple (by decide +kernel) ?_
  refine dl_s (i := 5) ?_
  exact dl_nil
  exact dl_nil
  refine ds_one ?_
  refine ds_ret ?_
  refine de_callT opn_tuple T.b_tuple (by decide +kernel) ?_
  refine dl_s (i := 3) ?_
  exact dl_nil
theorem sc_law_too_great : FnScope N_law_too_great ["_law_web_here"] (defScope s_law_too_great) := ⟨rfl, rfl, rfl, by decide +kernel, rfl, by decide +kernel, by decide +kernel⟩
theorem ok_law_too_great {fa : Addr} {fd : FuncData} (F : Fun K "_law_too_great" "_law_too_great" s_law_too_great fa fd) (T : Txt K κ mg) : FnOk P w K mg base (L2.CX P w) (1) fa fd ["_law_web_here"] (spF K κ 1 (mkF 1 2 [] (c_law_too_great))) := by
  refine fn_ok (k := 0) (N := N_law_too_great) F sc_law_too_great (by decide +kernel) fun cdv A outer s H E B => ?_
  refine ds_one ?_
  refine ds_ret ?_
  refine de_cmp opn_gt ?_
  refine dl_e ?_ ?_
  refine de_callB (opn_max B.g) T.b_max (by decide +kernel) ?_
  refine dl_e ?_ ?_
  refine deb_comp B (own := [("_law_row", 2)]) ?_ (blkOk_by (N := N_law_too_great) (sc := (defScope s_law_too_great)) (by decide +kernel)) ?_ ?_ ?_
  refine di_val ?_
  exact de_var 0
  intro _ _ _ _ _; exact dgb_n B.blk 2
  intro _ _ _ _ _; exact dts_nil
  intro _ _ _ _ _; refine de_callB (opn_max B.blk.g) T.b_max (by decide +kernel) ?_
  refine dl_e ?_ ?_
  refine deb_comp B.blk (own := [("_law_number", 1)]) ?_ (blkOk_by (N := N_law_too_great) (sc := (L2.relS _ (defScope s_law_too_great))) (by decide +kernel)) ?_ ?_ ?_
  refine di_val ?_
  exact de_var 2
  intro _ _ _ _ _; exact dgb_n B.blk.blk 1
  intro _ _ _ _ _; exact dts_nil
  intro _ _ _ _ _; refine de_callB opn_abs T.b_abs (by decide +kernel) ?_
  refine dl_s (i := 1) ?_
  exact dl_nil
  exact dl_nil
  exact dl_nil
  refine dl_e ?_ ?_
  refine de_bin opn_pow ?_
  refine dl_e ?_ ?_
  exact de_int
  refine dl_e ?_ ?_
  exact de_int
  exact dl_nil
  exact dl_nil
theorem sc_law_web_behind : FnScope N_law_web_behind ["_law_web_here", "_law_row"] (defScope s_law_web_behind) := ⟨rfl, rfl, rfl, by decide +kernel, rfl, by decide +kernel, by decide +kernel⟩
theorem ok_law_web_behind {fa : Addr} {fd : FuncData} (F : Fun K "_law_web_behind" "_law_web_behind" s_law_web_behind fa fd) (T : Txt K κ mg) (k_law_turn : Cal P w K mg base κ "_law_turn" 2 f_law_turn 1) (k_law_too_great : Cal P w K mg base κ "_law_too_great" 1 f_law_too_great 1) : FnOk P w K mg base (L2.CX P w) (2) fa fd ["_law_web_here", "_law_row"] (spF K κ 2 (mkF 2 1 [] (c_law_web_behind))) := by
  refine fn_ok (k := 1) (N := N_law_web_behind) F sc_law_web_behind (by decide +kernel) fun cdv A outer s H E B => ?_
  refine ds_cons ?_ ?_
  refine dsb_for B ?_ ?_ ?_
  refine di_val ?_
  exact de_var 1
  exact dgb_n B 2
  refine ds_one ?_
  refine ds_if ?_ ?_ ?_
  refine dt_cmp opn_notN ?_
  refine dl_s (i := 0) ?_
  refine dl_e ?_ ?_
  exact de_non
  exact dl_nil
  refine ds_cons ?_ ?_
  refine dsb_set B ?_
  refine de_call B k_law_turn ?_
  refine da_v ?_ ?_
  exact de_var 0
  refine da_v ?_ ?_
  exact de_var 2
  exact da_nil
  refine ds_one ?_
  refine ds_if ?_ ?_ ?_
  refine dt_val ?_
  refine de_call B k_law_too_great ?_
  refine da_v ?_ ?_
  exact de_var 0
  exact da_nil
  refine ds_one ?_
  refine dsb_set B ?_
  exact de_non
  exact ds_nil
  exact ds_nil
  refine ds_one ?_
  refine ds_ret ?_
  exact de_var 0
theorem sc_law_orders : FnScope N_law_orders ["_law_many"] (defScope s_law_orders) := ⟨rfl, rfl, rfl, by decide +kernel, rfl, by decide +kernel, by decide +kernel⟩
theorem ok_law_orders {fa : Addr} {fd : FuncData} (F : Fun K "_law_orders" "_law_orders" s_law_orders fa fd) (T : Txt K κ mg) : FnOk P w K mg base (L2.CX P w) (1) fa fd ["_law_many"] (spF K κ 1 (mkF 1 5 [] (c_law_orders))) := by
  refine fn_ok (k := 0) (N := N_law_orders) F sc_law_orders (by decide +kernel) fun cdv A outer s H E B => ?_
  refine ds_cons ?_ ?_
  refine dsb_set B ?_
  refine de_fz ?_
  refine de_lst ?_
  refine dl_e ?_ ?_
  refine de_tup ?_
  exact dl_nil
  exact dl_nil
  refine ds_cons ?_ ?_
  refine dsb_for B ?_ ?_ ?_
  refine di_range1 T.b_range ?_
  refine dl_s (i := 0) ?_
  exact dl_nil
  exact dgb_n B 2
  refine ds_cons ?_ ?_
  refine dsb_set B ?_
  refine de_lst ?_
  exact dl_nil
  refine ds_cons ?_ ?_
  refine dsb_for B ?_ ?_ ?_
  refine di_val ?_
  exact de_var 1
  exact dgb_n B 4
  refine ds_one ?_
  refine ds_ex ?_
  refine de_meth (i := 3) PySem.F.slot_list_extend PySem.F.type_list_extend mut_extend ?_
  refine dl_e ?_ ?_
  refine deb_comp B (own := [("_law_corner", 5)]) ?_ (blkOk_by (N := N_law_orders) (sc := (defScope s_law_orders)) (by decide +kernel)) ?_ ?_ ?_
  refine di_range1 T.b_range ?_
  refine dl_s (i := 0) ?_
  exact dl_nil
  intro _ _ _ _ _; exact dgb_n B.blk 5
  intro _ _ _ _ _; refine dts_one ?_
  refine dt_cmp (opn_notIn B.blk.g) ?_
  refine dl_s (i := 5) ?_
  refine dl_s (i := 4) ?_
  exact dl_nil
  intro _ _ _ _ _; refine de_bin opn_add ?_
  refine dl_s (i := 4) ?_
  refine dl_e ?_ ?_
  refine de_tup ?_
  refine dl_e ?_ ?_
  exact de_var 5
  exact dl_nil
  exact dl_nil
  exact dl_nil
  refine ds_one ?_
  refine dsb_set B ?_
  exact de_varF 3
  refine ds_one ?_
  refine ds_ret ?_
  exact de_var 1
theorem sc_law_least : FnScope N_law_least ["_law_web_here"] (defScope s_law_least) := ⟨rfl, rfl, rfl, by decide +kernel, rfl, by decide +kernel, by decide +kernel⟩
theorem ok_law_least {fa : Addr} {fd : FuncData} (F : Fun K "_law_least" "_law_least" s_law_least fa fd) (T : Txt K κ mg) (k_law_orders : Cal P w K mg base κ "_law_orders" 1 f_law_orders 1) (k_law_numbered : Cal P w K mg base κ "_law_numbered" 2 f_law_numbered 1) : FnOk P w K mg base (L2.CX P w) (2) fa fd ["_law_web_here"] (spF K κ 1 (mkF 1 1 [] (c_law_least))) := by
  refine fn_ok (k := 1) (N := N_law_least) F sc_law_least (by decide +kernel) fun cdv A outer s H E B => ?_
  refine ds_one ?_
  refine ds_ret ?_
  refine de_callB (opn_minD B.g) T.b_min (by decide +kernel) ?_
  refine dl_e ?_ ?_
  refine deb_comp B (own := [("_law_order_here", 1)]) ?_ (blkOk_by (N := N_law_least) (sc := (defScope s_law_least)) (by decide +kernel)) ?_ ?_ ?_
  refine di_val ?_
  refine de_call B k_law_orders ?_
  refine da_v ?_ ?_
  refine de_callB opn_len T.b_len (by decide +kernel) ?_
  refine dl_s (i := 0) ?_
  exact dl_nil
  exact da_nil
  intro _ _ _ _ _; exact dgb_n B.blk 1
  intro _ _ _ _ _; exact dts_nil
  intro _ _ _ _ _; refine de_call B.blk k_law_numbered ?_
  refine da_v ?_ ?_
  exact de_var 0
  refine da_v ?_ ?_
  exact de_var 1
  exact da_nil
  exact dl_nil
theorem sc_law_due : FnScope N_law_due ["_law_web_here", "_law_most"] (defScope s_law_due) := ⟨rfl, rfl, rfl, by decide +kernel, rfl, by decide +kernel, by decide +kernel⟩
theorem ok_law_due {fa : Addr} {fd : FuncData} (F : Fun K "_law_due" "_law_due" s_law_due fa fd) (T : Txt K κ mg) (k_law_least : Cal P w K mg base κ "_law_least" 1 f_law_least 2) (k_law_web_behind : Cal P w K mg base κ "_law_web_behind" 2 f_law_web_behind 2) (k_law_turn : Cal P w K mg base κ "_law_turn" 2 f_law_turn 1) (k_law_too_great : Cal P w K mg base κ "_law_too_great" 1 f_law_too_great 1) : FnOk P w K mg base (L2.CX P w) (3) fa fd ["_law_web_here", "_law_most"] (spF K κ 2 (mkF 2 8 [] (c_law_due))) := by
  refine fn_ok (k := 2) (N := N_law_due) F sc_law_due (by decide +kernel) fun cdv A outer s H E B => ?_
  refine ds_cons ?_ ?_
  refine dsb_set B ?_
  refine de_lst ?_
  refine dl_e ?_ ?_
  refine de_tup ?_
  refine dl_e ?_ ?_
  refine de_call B k_law_least ?_
  refine da_v ?_ ?_
  exact de_var 0
  exact da_nil
  refine dl_e ?_ ?_
  refine de_tup ?_
  exact dl_nil
  exact dl_nil
  exact dl_nil
  refine ds_cons ?_ ?_
  refine dsb_set B ?_
  refine de_dict1 B.g ?_ ?_
  refine de_ix opn_ix ?_
  refine dl_e ?_ ?_
  refine de_ix opn_ix ?_
  refine dl_s (i := 2) ?_
  refine dl_e ?_ ?_
  exact de_int
  exact dl_nil
  refine dl_e ?_ ?_
  exact de_int
  exact dl_nil
  exact de_bl
  refine ds_cons ?_ ?_
  refine dsb_set B ?_
  exact de_int
  refine ds_cons ?_ ?_
  refine dsb_while B (fun _ => 1000000) ?_ ?_
  refine dt_cmp opn_lt ?_
  refine dl_s (i := 4) ?_
  refine dl_e ?_ ?_
  refine de_callB opn_len T.b_len (by decide +kernel) ?_
  refine dl_s (i := 2) ?_
  exact dl_nil
  exact dl_nil
  refine ds_cons ?_ ?_
  refine dsb_set B ?_
  refine de_ix opn_ix ?_
  refine dl_e ?_ ?_
  refine de_ix opn_ix ?_
  refine dl_s (i := 2) ?_
  refine dl_s (i := 4) ?_
  exact dl_nil
  refine dl_e ?_ ?_
  exact de_int
  exact dl_nil
  refine ds_cons ?_ ?_
  refine dsb_set B ?_
  refine de_call B k_law_web_behind ?_
  refine da_v ?_ ?_
  exact de_var 0
  refine da_v ?_ ?_
  refine de_fz ?_
  refine de_callT opn_list T.b_list (by decide +kernel) ?_
  refine dl_s (i := 5) ?_
  exact dl_nil
  exact da_nil
  refine ds_cons ?_ ?_
  refine dsb_for B ?_ ?_ ?_
  refine di_range1 T.b_range ?_
  refine dl_e ?_ ?_
  refine de_callB opn_len T.b_len (by decide +kernel) ?_
  refine dl_s (i := 0) ?_
  exact dl_nil
  exact dl_nil
  exact dgb_n B 7
  refine ds_cons ?_ ?_
  refine dsb_set B ?_
  refine de_call B k_law_turn ?_
  refine da_v ?_ ?_
  exact de_var 6
  refine da_v ?_ ?_
  exact de_var 7
  exact da_nil
  refine ds_cons ?_ ?_
  refine ds_if ?_ ?_ ?_
  refine dt_val ?_
  refine de_call B k_law_too_great ?_
  refine da_v ?_ ?_
  exact de_var 8
  exact da_nil
  refine ds_one ?_
  refine ds_ret ?_
  exact de_non
  exact ds_nil
  refine ds_cons ?_ ?_
  refine dsb_set B ?_
  refine de_call B k_law_least ?_
  refine da_v ?_ ?_
  exact de_var 8
  exact da_nil
  refine ds_one ?_
  refine ds_if ?_ ?_ ?_
  refine dt_cmp (opn_dnotIn B.g) ?_
  refine dl_s (i := 9) ?_
  refine dl_s (i := 3) ?_
  exact dl_nil
  refine ds_cons ?_ ?_
  refine ds_if ?_ ?_ ?_
  refine dt_cmp (opn_eq B.g) ?_
  refine dl_e ?_ ?_
  refine de_callB opn_len T.b_len (by decide +kernel) ?_
  refine dl_s (i := 2) ?_
  exact dl_nil
  refine dl_s (i := 1) ?_
  exact dl_nil
  refine ds_one ?_
  refine ds_ret ?_
  exact de_non
  exact ds_nil
  refine ds_cons ?_ ?_
  refine ds_setIx (i := 3) (sto_d B.g) ?_ ?_
  exact de_var 9
  exact de_bl
  refine ds_one ?_
  refine ds_ex ?_
  refine de_meth (i := 2) PySem.F.slot_list_append PySem.F.type_list_append mut_append ?_
  refine dl_e ?_ ?_
  refine de_tup ?_
  refine dl_e ?_ ?_
  exact de_var 9
  refine dl_e ?_ ?_
  refine de_bin opn_add ?_
  refine dl_s (i := 5) ?_
  refine dl_e ?_ ?_
  refine de_tup ?_
  refine dl_e ?_ ?_
  exact de_var 7
  exact dl_nil
  exact dl_nil
  exact dl_nil
  exact dl_nil
  exact ds_nil
  refine ds_one ?_
  refine dsb_set B ?_
  refine de_bin opn_add ?_
  refine dl_s (i := 4) ?_
  refine dl_e ?_ ?_
  exact de_int
  exact dl_nil
  refine ds_one ?_
  refine ds_ret ?_
  exact de_take 2
theorem sc_law_tried : FnScope N_law_tried ["_law_web_here", "_law_most"] (defScope s_law_tried) := ⟨rfl, rfl, rfl, by decide +kernel, rfl, by decide +kernel, by decide +kernel⟩
theorem ok_law_tried {fa : Addr} {fd : FuncData} (F : Fun K "_law_tried" "_law_tried" s_law_tried fa fd) (T : Txt K κ mg) (k_kinds : Cal P w K mg base κ "kinds" 2 f_kinds 5) (k_law_word : Cal P w K mg base κ "_law_word" 1 f_law_word 1) : FnOk P w K mg base (L2.CX P w) (6) fa fd ["_law_web_here", "_law_most"] (spF K κ 2 (mkF 2 3 [] (c_law_tried))) := by
  refine fn_ok (k := 5) (N := N_law_tried) F sc_law_tried (by decide +kernel) fun cdv A outer s H E B => ?_
  refine ds_cons ?_ ?_
  refine dsb_set B ?_
  exact de_non
  refine ds_cons ?_ ?_
  refine dsb_set B ?_
  exact de_non
  refine ds_cons ?_ ?_
  refine dsb_try B (x := "WebError") (i := 4) T.q_WebError ⟨rfl, by decide, .inl T.x_WebError.g⟩ ?_ ?_
  intro W1 pn1 xe1 B1; refine ds_one ?_
  refine dsb_set B1 ?_
  refine de_fz ?_
  refine de_call B1 k_kinds ?_
  refine da_v ?_ ?_
  exact de_var 0
  refine da_v ?_ ?_
  exact de_var 1
  exact da_nil
  intro a1 pn1; refine ds_one ?_
  refine dss_set B ?_
  exact de_var 4
  refine ds_cons ?_ ?_
  refine ds_if ?_ ?_ ?_
  refine dt_cmp opn_isN ?_
  refine dl_s (i := 2) ?_
  refine dl_e ?_ ?_
  exact de_non
  exact dl_nil
  refine ds_one ?_
  refine ds_ret ?_
  exact de_var 3
  exact ds_nil
  refine ds_one ?_
  refine ds_ret ?_
  refine de_call B k_law_word ?_
  refine da_v ?_ ?_
  exact de_var 2
  exact da_nil
theorem sc_law : FnScope N_law ["_law_script"] (defScope s_law) := ⟨rfl, rfl, rfl, by decide +kernel, rfl, by decide +kernel, by decide +kernel⟩
theorem ok_law {fa : Addr} {fd : FuncData} (F : Fun K "law" "law" s_law fa fd) (T : Txt K κ mg) (k_law_web : Cal P w K mg base κ "_law_web" 2 f_law_web 4) (k_law_draw : Cal P w K mg base κ "_law_draw" 2 f_law_draw 1) (k_law_shuffled_web : Cal P w K mg base κ "_law_shuffled_web" 2 f_law_shuffled_web 3) (k_law_line : Cal P w K mg base κ "_law_line" 2 f_law_line 2) (k_law_due : Cal P w K mg base κ "_law_due" 2 f_law_due 3) (k_law_tried : Cal P w K mg base κ "_law_tried" 2 f_law_tried 6) : FnOk P w K mg base (L2.CX P w) (7) fa fd ["_law_script"] (spF K κ 1 (mkF 1 7 [] (c_law))) := by
  refine fn_ok (k := 6) (N := N_law) F sc_law (by decide +kernel) fun cdv A outer s H E B => ?_
  refine ds_cons ?_ ?_
  refine dsb_set B ?_
  refine de_lst ?_
  refine dl_e ?_ ?_
  refine de_fz ?_
  refine de_callT opn_list T.b_list (by decide +kernel) ?_
  refine dl_s (i := 0) ?_
  exact dl_nil
  refine dl_e ?_ ?_
  exact de_int
  refine dl_e ?_ ?_
  exact de_int
  exact dl_nil
  refine ds_cons ?_ ?_
  refine dsb_set B ?_
  refine de_call B k_law_web ?_
  refine da_s 1 ?_
  refine da_v ?_ ?_
  exact de_int
  exact da_nil
  refine ds_cons ?_ ?_
  refine ds_if ?_ ?_ ?_
  refine dt_cmp (opn_eq B.g) ?_
  refine dl_e ?_ ?_
  refine de_call B k_law_draw ?_
  refine da_s 1 ?_
  refine da_v ?_ ?_
  exact de_int
  exact da_nil
  refine dl_e ?_ ?_
  exact de_int
  exact dl_nil
  refine ds_one ?_
  refine dsb_set B ?_
  refine de_call B k_law_shuffled_web ?_
  refine da_s 1 ?_
  refine da_v ?_ ?_
  refine de_call B k_law_line ?_
  refine da_s 1 ?_
  refine da_v ?_ ?_
  exact de_int
  exact da_nil
  exact da_nil
  exact ds_nil
  refine ds_cons ?_ ?_
  refine dsb_set B ?_
  refine de_fz ?_
  refine de_call B k_law_due ?_
  refine da_v ?_ ?_
  exact de_var 2
  refine da_v ?_ ?_
  exact de_int
  exact da_nil
  refine ds_cons ?_ ?_
  refine dsb_set B ?_
  refine de_fz ?_
  refine de_lst ?_
  refine dl_e ?_ ?_
  refine de_bin opn_add ?_
  refine dl_e ?_ ?_
  exact de_int
  refine dl_e ?_ ?_
  refine de_call B k_law_draw ?_
  refine da_s 1 ?_
  refine da_v ?_ ?_
  exact de_int
  exact da_nil
  exact dl_nil
  exact dl_nil
  refine ds_cons ?_ ?_
  refine ds_if ?_ ?_ ?_
  refine dt_cmp opn_notN ?_
  refine dl_s (i := 3) ?_
  refine dl_e ?_ ?_
  exact de_non
  exact dl_nil
  refine ds_one ?_
  refine dsb_set B ?_
  refine de_fz ?_
  refine de_bin opn_add ?_
  refine dl_s (i := 4) ?_
  refine dl_e ?_ ?_
  refine de_lst ?_
  refine dl_e ?_ ?_
  refine de_callB opn_len T.b_len (by decide +kernel) ?_
  refine dl_s (i := 3) ?_
  exact dl_nil
  refine dl_e ?_ ?_
  refine de_callB (opn_max B.g) T.b_max (by decide +kernel) ?_
  refine dl_e ?_ ?_
  exact de_int
  refine dl_e ?_ ?_
  refine de_bin opn_sub ?_
  refine dl_e ?_ ?_
  refine de_callB opn_len T.b_len (by decide +kernel) ?_
  refine dl_s (i := 3) ?_
  exact dl_nil
  refine dl_e ?_ ?_
  exact de_int
  exact dl_nil
  exact dl_nil
  refine dl_e ?_ ?_
  refine de_callB (opn_min B.g) T.b_min (by decide +kernel) ?_
  refine dl_e ?_ ?_
  exact de_int
  refine dl_e ?_ ?_
  refine de_bin opn_add ?_
  refine dl_e ?_ ?_
  refine de_callB opn_len T.b_len (by decide +kernel) ?_
  refine dl_s (i := 3) ?_
  exact dl_nil
  refine dl_e ?_ ?_
  exact de_int
  exact dl_nil
  exact dl_nil
  exact dl_nil
  exact dl_nil
  exact ds_nil
  refine ds_cons ?_ ?_
  refine dsb_for B ?_ ?_ ?_
  refine di_val ?_
  exact de_var 4
  exact dgb_n B 5
  refine ds_cons ?_ ?_
  refine dsb_set B ?_
  refine de_fz ?_
  refine de_call B k_law_due ?_
  refine da_v ?_ ?_
  exact de_var 2
  refine da_v ?_ ?_
  exact de_var 5
  exact da_nil
  refine ds_cons ?_ ?_
  refine dsb_set B ?_
  refine de_call B k_law_tried ?_
  refine da_v ?_ ?_
  exact de_var 2
  refine da_v ?_ ?_
  exact de_var 5
  exact da_nil
  refine ds_one ?_
  refine ds_if ?_ ?_ ?_
  refine dt_cmp opn_isN ?_
  refine dl_s (i := 6) ?_
  refine dl_e ?_ ?_
  exact de_non
  exact dl_nil
  refine ds_one ?_
  refine ds_if ?_ ?_ ?_
  refine dt_cmp (opn_ne B.g) ?_
  refine dl_s (i := 7) ?_
  refine dl_e ?_ ?_
  refine de_tup ?_
  refine dl_e ?_ ?_
  exact de_str
  exact dl_nil
  exact dl_nil
  refine ds_one ?_
  refine ds_ret ?_
  exact de_bl
  exact ds_nil
  refine ds_one ?_
  refine ds_if ?_ ?_ ?_
  refine dt_w ?_
  refine dw_or ?_ ?_
  refine dt_not ?_
  refine dt_val ?_
  refine de_callB opn_isi T.b_isinstance (by decide +kernel) ?_
  refine dl_s (i := 7) ?_
  refine dl_e ?_ ?_
  exact de_gty T.b_list (by decide +kernel)
  exact dl_nil
  refine dw_or1 ?_
  refine dt_cmp (opn_ne B.g) ?_
  refine dl_s (i := 7) ?_
  refine dl_s (i := 6) ?_
  exact dl_nil
  refine ds_one ?_
  refine ds_ret ?_
  exact de_bl
  exact ds_nil
  refine ds_one ?_
  refine ds_ret ?_
  exact de_bl
end
end SW

set_option Elab.async false
set_option linter.all false
set_option maxRecDepth 100000
set_option maxHeartbeats 4000000
namespace SW
open PySem PySem.Spec PyProof.Rows L2
/-! ### _law_powers_of: 0 _law_tape, 1 _law_letters, 2 _law_far, 3 _law_k -/
def c_law_powers_of : Env → R Fl :=
  (sRet (cOp gTuple (cCons (cComp [3] (.nm 3) (iRange (cSlot 1 cNil)) cYes (cOp gSub (cCons (cCall f_law_draw (aSlot 0 (aVal (cOp gAdd (cCons (cOp gMul (cCons (cC (.int 2)) (cSlot 2 cNil))) (cCons (cC (.int 1)) cNil))) aNil))) (cSlot 2 cNil)))) cNil)))
def f_law_powers_of : FSem := mkF 3 1 [0] c_law_powers_of
/-! ### _law_made: 0 _law_counts, 1 _law_powers -/
def c_law_made : Env → R Fl :=
  (sRet (cOp gTuple (cCons (cComp [1] (.nm 1) (iVal (cOp gSortedD (cSlot 0 cNil))) (cTest (cOp gNe (cCons (cOp gDIx (cSlot 0 (cSlot 1 cNil))) (cCons (cC (.int 0)) cNil)))) (cOp gTup (cCons (cVar 1) (cCons (cOp gDIx (cSlot 0 (cSlot 1 cNil))) cNil)))) cNil)))
def f_law_made : FSem := mkF 1 1 [0] c_law_made
/-! ### _law_some_sum: 0 _law_tape, 1 _law_letters, 2 _law_most, 3 _law_far, 4 _law_counts, 5 _law_k, 6 _law_many -/
def c_law_some_sum : Env → R Fl :=
  (sSeq (sSet (.nm 4) cDict0)
  (sSeq (sFor (iRange (cCons (cCall f_law_draw (aSlot 0 (aVal (cOp gAdd (cSlot 2 (cCons (cC (.int 1)) cNil))) aNil))) cNil)) (.nm 5)
    (sSeq (sSet (.nm 6) (cOp gIx (cCons (cOp gLst (cCons (cC (.int 1)) (cCons (cC (.int 1)) (cCons (cOp gNeg (cCons (cC (.int 1)) cNil)) (cCons (cOp gSub (cCons (cCall f_law_draw (aSlot 0 (aVal (cC (.int 19)) aNil))) (cCons (cC (.int 9)) cNil))) (cCons (cCall f_law_draw (aSlot 0 (aVal (cOp gPow (cCons (cC (.int 10)) (cCons (cC (.int 12)) cNil))) aNil))) cNil)))))) (cCons (cCall f_law_draw (aSlot 0 (aVal (cC (.int 5)) aNil))) cNil))))
  (sSetIx 4 gDPut (cCall f_law_powers_of (aSlot 0 (aVal (cVar 1) (aVal (cVar 3) aNil)))) (cVar 6))))
  (sRet (cCall f_law_made (aSlot 4 aNil)))))
def f_law_some_sum : FSem := mkF 4 3 [0] c_law_some_sum
end SW

set_option Elab.async false
set_option linter.all false
set_option maxRecDepth 100000
set_option maxHeartbeats 4000000
namespace SW
open PySem PySem.Spec PyProof.Rows L2
/-! ### first_marks: 0 many, 1 j, 2 i -/
def c_first_marks : Env → R Fl :=
  (sRet (cOp gTuple (cCons (cComp [2] (.nm 2) (iRange (cSlot 0 cNil)) cYes (cOp gTuple (cCons (cComp [1] (.nm 1) (iRange (cSlot 0 cNil)) cYes (cOp gInt (cCons (cOp gEq (cSlot 2 (cSlot 1 cNil))) cNil))) cNil))) cNil)))
def f_first_marks : FSem := mkF 1 2 [] c_first_marks
/-! ### is_green: 0 own -/
def c_is_green : Env → R Fl :=
  (sRet (cOp gGe (cCons (cOp gMin (cSlot 0 cNil)) (cCons (cC (.int 0)) cNil))))
def f_is_green : FSem := mkF 1 0 [] c_is_green
/-! ### marks_turned: 0 web, 1 rows, 2 k, 3 found, 4 i, 5 one, 6 often, 7 more -/
def c_marks_turned : Env → R Fl :=
  (sSeq (sSet (.nm 3) (cOp gLst cNil))
  (sSeq (sFor (iRange (cCons (cOp gLen (cSlot 0 cNil)) cNil)) (.nm 4)
    (cIf (cTest (cOp gEq (cSlot 4 (cSlot 2 cNil))))
    (sEx (cMeth 3 gAppend (cCons (cOp gTuple (cCons (cComp [5] (.nm 5) (iVal (cOp gIx (cSlot 1 (cSlot 2 cNil)))) cYes (cOp gNeg (cSlot 5 cNil))) cNil)) cNil)))
    (sSeq (sSet (.nm 6) (cIf (cTest (cCall f_is_green (aVal (cOp gIx (cSlot 1 (cSlot 2 cNil))) aNil))) (cCall f_arrows (aVal (cVar 0) (aVal (cVar 4) (aVal (cVar 2) aNil)))) (cCall f_arrows (aVal (cVar 0) (aVal (cVar 2) (aVal (cVar 4) aNil))))))
  (sEx (cMeth 3 gAppend (cCons (cOp gTuple (cCons (cComp [5, 7] (.tp [(.nm 5), (.nm 7)]) (iZip (cCons (cOp gIx (cSlot 1 (cSlot 4 cNil))) (cCons (cOp gIx (cSlot 1 (cSlot 2 cNil))) cNil))) cYes (cOp gAdd (cSlot 5 (cCons (cOp gMul (cSlot 6 (cSlot 7 cNil))) cNil)))) cNil)) cNil))))))
  (sRet (cOp gTuple (cSlot 3 cNil)))))
def f_marks_turned : FSem := mkF 3 5 [] c_marks_turned
/-! ### _law_marked: 0 _law_web_here, 1 _law_rows, 2 _law_k, 3 _law_found, 4 _law_i, 5 _law_number, 6 _law_row, 7 _law_j, 8 _law_one, 9 _law_two, 10 _law_both -/
def c_law_marked : Env → R Fl :=
  (sSeq (sSet (.nm 3) (cOp gLst cNil))
  (sSeq (sFor (iRange (cCons (cOp gLen (cSlot 0 cNil)) cNil)) (.nm 4)
    (cIf (cTest (cOp gEq (cSlot 4 (cSlot 2 cNil))))
    (sEx (cMeth 3 gAppend (cCons (cOp gTuple (cCons (cComp [5] (.nm 5) (iVal (cOp gIx (cSlot 1 (cSlot 2 cNil)))) cYes (cOp gSub (cCons (cC (.int 0)) (cSlot 5 cNil)))) cNil)) cNil)))
    (sSeq (sSet (.nm 6) (cOp gLst cNil))
  (sSeq (sFor (iRange (cCons (cOp gLen (cSlot 0 cNil)) cNil)) (.nm 7)
    (sSeq (sSet (.nm 8) (cOp gIx (cCons (cOp gIx (cSlot 0 (cSlot 4 cNil))) (cSlot 2 cNil))))
  (sSeq (sSet (.nm 9) (cOp gIx (cCons (cOp gIx (cSlot 1 (cSlot 2 cNil))) (cSlot 7 cNil))))
  (sSeq (sSet (.nm 10) (cOp gAdd (cCons (cOp gMul (cCons (cOp gAbs (cSlot 8 cNil)) (cSlot 9 cNil))) (cCons (cOp gMul (cSlot 8 (cCons (cOp gAbs (cSlot 9 cNil)) cNil))) cNil))))
  (sEx (cMeth 6 gAppend (cCons (cOp gAdd (cCons (cOp gIx (cCons (cOp gIx (cSlot 1 (cSlot 4 cNil))) (cSlot 7 cNil))) (cCons (cOp gFdiv (cSlot 10 (cCons (cC (.int 2)) cNil))) cNil))) cNil)))))))
  (sEx (cMeth 3 gAppend (cCons (cOp gTuple (cSlot 6 cNil)) cNil)))))))
  (sRet (cOp gTuple (cSlot 3 cNil)))))
def f_law_marked : FSem := mkF 3 8 [] c_law_marked
end SW

set_option Elab.async false
set_option linter.all false
set_option maxRecDepth 100000
set_option maxHeartbeats 4000000
set_option autoImplicit false
/-! Pl0: what a meaning gives (the plain side): weakest preconditions over the meanings of Sw. -/
namespace SW.Dd
open PySem PySem.Spec PyProof.Rows L2
/-- r ends well with Q, or with an exception that E takes -/
def Wp {α : Type} (E : String → Env → Prop) (r : R α) (Q : α → Env → Prop) : Prop := match r with
  | .ok a ρ => Q a ρ
  | .exn n ρ => E n ρ
  | .stuck => False
def Wf (E : String → Env → Prop) (r : FR) (Q : C → Env → Prop) : Prop := match r with
  | .ok a ρ => Q a ρ
  | .exn n ρ => E n ρ
  | .stuck => False
/-- no exception -/
def _root_.SW.X0 : String → Env → Prop := fun _ _ => False
section
variable {E : String → Env → Prop} {α β : Type}
theorem Wp.mono {r : R α} {Q Q' : α → Env → Prop} (h : Wp E r Q) (k : ∀ a ρ, Q a ρ → Q' a ρ) : Wp E r Q' := by
  cases r with
  | ok a ρ => exact k a ρ h
  | exn n ρ => exact h
  | stuck => exact h
theorem Wf.mono {r : FR} {Q Q' : C → Env → Prop} (h : Wf E r Q) (k : ∀ a ρ, Q a ρ → Q' a ρ) : Wf E r Q' := by
  cases r with
  | ok a ρ => exact k a ρ h
  | exn n ρ => exact h
  | stuck => exact h
theorem Wf.monoX {E' : String → Env → Prop} {r : FR} {Q Q' : C → Env → Prop} (h : Wf E r Q) (k : ∀ a ρ, Q a ρ → Q' a ρ) (x : ∀ n ρ, E n ρ → E' n ρ) : Wf E' r Q' := by
  cases r with
  | ok a ρ => exact k a ρ h
  | exn n ρ => exact x n ρ h
  | stuck => exact h
theorem wp_ok {a : α} {ρ : Env} {Q : α → Env → Prop} : Wp E (.ok a ρ) Q ↔ Q a ρ := Iff.rfl
theorem wp_bind {r : R α} {f : α → Env → R β} {Q : β → Env → Prop} : Wp E (r.bind f) Q ↔ Wp E r fun a ρ => Wp E (f a ρ) Q := by
  cases r <;> rfl
theorem wp_seq {a b : Env → R Fl} {ρ : Env} {Q : Fl → Env → Prop} : Wp E (sSeq a b ρ) Q ↔ Wp E (a ρ) fun f ρ1 => match f with
    | .nx => Wp E (b ρ1) Q
    | .rt c => Q (.rt c) ρ1 := by
  unfold sSeq
  cases a ρ with
  | ok f ρ1 => cases f <;> rfl
  | exn n ρ1 => rfl
  | stuck => rfl
theorem wp_nil {ρ : Env} {Q : Fl → Env → Prop} : Wp E (sNil ρ) Q ↔ Q .nx ρ := Iff.rfl
theorem wp_ret {c : Env → R C} {ρ : Env} {Q : Fl → Env → Prop} : Wp E (sRet c ρ) Q ↔ Wp E (c ρ) fun x ρ1 => Q (.rt x) ρ1 := wp_bind
theorem wp_retN {ρ : Env} {Q : Fl → Env → Prop} : Wp E (sRetN ρ) Q ↔ Q (.rt (.v .non)) ρ := Iff.rfl
theorem wp_ex {c : Env → R C} {ρ : Env} {Q : Fl → Env → Prop} : Wp E (sEx c ρ) Q ↔ Wp E (c ρ) fun _ ρ1 => Q .nx ρ1 := wp_bind
theorem wp_if {t : Env → R Bool} {a b : Env → R α} {ρ : Env} {Q : α → Env → Prop} : Wp E (cIf t a b ρ) Q ↔ Wp E (t ρ) fun x ρ1 => if x = true then Wp E (a ρ1) Q else Wp E (b ρ1) Q := by
  unfold cIf
  rw [wp_bind]
  constructor <;> intro h <;> refine h.mono fun x ρ1 h => ?_ <;> cases x <;> exact h
theorem wp_setN {i : Nat} {c : Env → R C} {ρ : Env} {Q : Fl → Env → Prop} : Wp E (sSet (.nm i) c ρ) Q ↔ Wp E (c ρ) fun x ρ1 => i < ρ1.length ∧ Q .nx (ρ1.set i (some x)) := by
  unfold sSet
  rw [wp_bind]
  constructor <;> intro h <;> refine h.mono fun x ρ1 h => ?_
  · unfold Tg.put at h
    by_cases q : i < ρ1.length
    · rw [if_pos q] at h; exact ⟨q, h⟩
    · rw [if_neg q] at h; exact h.elim
  · unfold Tg.put
    rw [if_pos h.1]; exact h.2
theorem wp_set {t : Tg} {c : Env → R C} {ρ : Env} {Q : Fl → Env → Prop} : Wp E (sSet t c ρ) Q ↔ Wp E (c ρ) fun x ρ1 => ∃ ρ2, t.put x ρ1 = some ρ2 ∧ Q .nx ρ2 := by
  unfold sSet
  rw [wp_bind]
  constructor <;> intro h <;> refine h.mono fun x ρ1 h => ?_
  · split at h
    · exact ⟨_, by assumption, h⟩
    · exact h.elim
  · obtain ⟨ρ2, e, h⟩ := h
    rw [e]; exact h
theorem wp_op {g : List C → Option C} {cl : Env → R (List C)} {ρ : Env} {Q : C → Env → Prop} : Wp E (cOp g cl ρ) Q ↔ Wp E (cl ρ) fun cs ρ1 => ∃ c, g cs = some c ∧ Q c ρ1 := by
  unfold cOp
  rw [wp_bind]
  constructor <;> intro h <;> refine h.mono fun x ρ1 h => ?_
  · split at h
    · exact ⟨_, by assumption, h⟩
    · exact h.elim
  · obtain ⟨ρ2, e, h⟩ := h
    rw [e]; exact h
theorem wp_cnil {ρ : Env} {Q : List C → Env → Prop} : Wp E (cNil ρ) Q ↔ Q [] ρ := Iff.rfl
theorem wp_ccons {ce : Env → R C} {cs : Env → R (List C)} {ρ : Env} {Q : List C → Env → Prop} : Wp E (cCons ce cs ρ) Q ↔ Wp E (ce ρ) fun c ρ1 => Wp E (cs ρ1) fun r ρ2 => Q (c :: r) ρ2 := by
  unfold cCons
  rw [wp_bind]
  constructor <;> intro h <;> refine h.mono fun x ρ1 h => ?_
  · exact wp_bind.mp h
  · exact wp_bind.mpr h
theorem wp_slot {i : Nat} {cs : Env → R (List C)} {ρ : Env} {Q : List C → Env → Prop} : Wp E (cSlot i cs ρ) Q ↔ (∃ c, ρ[i]? = some (some c)) ∧ Wp E (cs ρ) fun r ρ2 => ∃ c, ρ2[i]? = some (some c) ∧ Q (c :: r) ρ2 := by
  unfold cSlot
  split
  · rename_i c e
    rw [wp_bind]
    constructor
    · intro h
      refine ⟨⟨c, e⟩, h.mono fun r ρ2 h => ?_⟩
      split at h
      · exact ⟨_, by assumption, h⟩
      · exact h.elim
    · rintro ⟨_, h⟩
      refine h.mono fun r ρ2 h => ?_
      obtain ⟨c, e, h⟩ := h
      rw [e]; exact h
  · rename_i h0
    exact ⟨fun h => h.elim, fun h => by obtain ⟨⟨c, e⟩, _⟩ := h; exact (h0 c e).elim⟩
theorem wp_var {i : Nat} {ρ : Env} {Q : C → Env → Prop} : Wp E (cVar i ρ) Q ↔ ∃ d, ρ[i]? = some (some (.v d)) ∧ Q (.v d) ρ := by
  unfold cVar
  split
  · rename_i d e
    exact ⟨fun h => ⟨d, e, h⟩, fun ⟨d', e', h⟩ => by rw [e] at e'; cases e'; exact h⟩
  · rename_i h0
    exact ⟨fun h => h.elim, fun ⟨d', e', h⟩ => (h0 d' e').elim⟩
theorem wp_varF {i : Nat} {ρ : Env} {Q : C → Env → Prop} : Wp E (cVarF i ρ) Q ↔ ∃ c, ρ[i]? = some (some c) ∧ ∃ d, c.fz = some d ∧ Q (.v d) (ρ.set i (some (.v d))) := by
  unfold cVarF
  split
  · rename_i c e
    split
    · rename_i d ed
      exact ⟨fun h => ⟨c, e, d, ed, h⟩, fun ⟨c', e', d', ed', h⟩ => by rw [e] at e'; cases e'; rw [ed] at ed'; cases ed'; exact h⟩
    · rename_i ed
      exact ⟨fun h => h.elim, fun ⟨c', e', d', ed', h⟩ => by rw [e] at e'; cases e'; rw [ed] at ed'; cases ed'⟩
  · rename_i h0
    exact ⟨fun h => h.elim, fun ⟨c', e', _⟩ => (h0 c' e').elim⟩
theorem wp_take {i : Nat} {ρ : Env} {Q : C → Env → Prop} : Wp E (cTake i ρ) Q ↔ ∃ c, ρ[i]? = some (some c) ∧ Q c (ρ.set i none) := by
  unfold cTake
  split
  · rename_i d e
    exact ⟨fun h => ⟨d, e, h⟩, fun ⟨d', e', h⟩ => by rw [e] at e'; cases e'; exact h⟩
  · rename_i h0
    exact ⟨fun h => h.elim, fun ⟨d', e', h⟩ => (h0 d' e').elim⟩
theorem wp_c {d : D} {ρ : Env} {Q : C → Env → Prop} : Wp E (cC d ρ) Q ↔ Q (.v d) ρ := Iff.rfl
theorem wp_fz {c : Env → R C} {ρ : Env} {Q : C → Env → Prop} : Wp E (cFz c ρ) Q ↔ Wp E (c ρ) fun x ρ1 => ∃ d, x.fz = some d ∧ Q (.v d) ρ1 := by
  unfold cFz
  rw [wp_bind]
  constructor <;> intro h <;> refine h.mono fun x ρ1 h => ?_
  · split at h
    · exact ⟨_, by assumption, h⟩
    · exact h.elim
  · obtain ⟨d, e, h⟩ := h
    rw [e]; exact h
theorem wp_test {c : Env → R C} {ρ : Env} {Q : Bool → Env → Prop} : Wp E (cTest c ρ) Q ↔ Wp E (c ρ) fun x ρ1 => ∃ b, x = .v (.bl b) ∧ Q b ρ1 := by
  unfold cTest
  rw [wp_bind]
  constructor <;> intro h <;> refine h.mono fun x ρ1 h => ?_
  · split at h
    · exact ⟨_, rfl, h⟩
    · exact h.elim
  · obtain ⟨d, rfl, h⟩ := h
    exact h
theorem wp_and {a b : Env → R Bool} {ρ : Env} {Q : Bool → Env → Prop} : Wp E (cAnd a b ρ) Q ↔ Wp E (a ρ) fun x ρ1 => if x = true then Wp E (b ρ1) Q else Q false ρ1 := by
  unfold cAnd
  rw [wp_bind]
  constructor <;> intro h <;> refine h.mono fun x ρ1 h => ?_ <;> cases x <;> exact h
theorem wp_or {a b : Env → R Bool} {ρ : Env} {Q : Bool → Env → Prop} : Wp E (cOr a b ρ) Q ↔ Wp E (a ρ) fun x ρ1 => if x = true then Q true ρ1 else Wp E (b ρ1) Q := by
  unfold cOr
  rw [wp_bind]
  constructor <;> intro h <;> refine h.mono fun x ρ1 h => ?_ <;> cases x <;> exact h
theorem wp_not {a : Env → R Bool} {ρ : Env} {Q : Bool → Env → Prop} : Wp E (cNot a ρ) Q ↔ Wp E (a ρ) fun x ρ1 => Q (!x) ρ1 := by
  unfold cNot
  exact wp_bind
theorem wp_bl {a : Env → R Bool} {ρ : Env} {Q : C → Env → Prop} : Wp E (cBl a ρ) Q ↔ Wp E (a ρ) fun x ρ1 => Q (.v (.bl x)) ρ1 := by
  unfold cBl
  exact wp_bind
theorem wp_yes {ρ : Env} {Q : Bool → Env → Prop} : Wp E (cYes ρ) Q ↔ Q true ρ := Iff.rfl
theorem wp_pnone {ρ : Env} {Q : Option Int → Env → Prop} : Wp E (pNone ρ) Q ↔ Q none ρ := Iff.rfl
theorem wp_psome {c : Env → R C} {ρ : Env} {Q : Option Int → Env → Prop} : Wp E (pSome c ρ) Q ↔ Wp E (c ρ) fun x ρ1 => ∃ i, x = .v (.int i) ∧ Q (some i) ρ1 := by
  unfold pSome
  rw [wp_bind]
  constructor <;> intro h <;> refine h.mono fun x ρ1 h => ?_
  · split at h
    · exact ⟨_, rfl, h⟩
    · exact h.elim
  · obtain ⟨d, rfl, h⟩ := h
    exact h
theorem wp_sl {g : C → Option Int → Option Int → Option C} {c : Env → R C} {cl ch : Env → R (Option Int)} {ρ : Env} {Q : C → Env → Prop} : Wp E (cSl g c cl ch ρ) Q ↔ Wp E (c ρ) fun x ρ1 => Wp E (cl ρ1) fun lo ρ2 => Wp E (ch ρ2) fun hi ρ3 => ∃ y, g x lo hi = some y ∧ Q y ρ3 := by
  unfold cSl
  rw [wp_bind]
  constructor <;> intro h <;> refine h.mono fun x ρ1 h => ?_
  · refine (wp_bind.mp h).mono fun lo ρ2 h => (wp_bind.mp h).mono fun hi ρ3 h => ?_
    split at h
    · exact ⟨_, by assumption, h⟩
    · exact h.elim
  · refine wp_bind.mpr (h.mono fun lo ρ2 h => wp_bind.mpr (h.mono fun hi ρ3 h => ?_))
    obtain ⟨y, e, h⟩ := h
    rw [e]; exact h
theorem wp_slS {g : C → Option Int → Option Int → Option C} {i : Nat} {cl ch : Env → R (Option Int)} {ρ : Env} {Q : C → Env → Prop} (k : ∃ c, ρ[i]? = some (some c)) (h : Wp E (cl ρ) fun lo ρ2 => Wp E (ch ρ2) fun hi ρ3 => ∃ x, ρ3[i]? = some (some x) ∧ ∃ y, g x lo hi = some y ∧ Q y ρ3) : Wp E (cSlS g i cl ch ρ) Q := by
  obtain ⟨c, e⟩ := k
  unfold cSlS
  rw [e]
  refine wp_bind.mpr (h.mono fun lo ρ2 h => wp_bind.mpr (h.mono fun hi ρ3 h => ?_))
  obtain ⟨x, e, y, e2, h⟩ := h
  rw [e]
  dsimp only
  rw [e2]; exact h
theorem wp_ch {g g' : List C → Option C} {ca cb cc : Env → R C} {ρ : Env} {Q : C → Env → Prop} (h : Wp E (ca ρ) fun a ρ1 => ∃ a', a = .v a' ∧ Wp E (cb ρ1) fun b ρ2 => ∃ b', b = .v b' ∧ ∃ t, g [.v a', .v b'] = some (.v (.bl t)) ∧ if t = true then Wp E (cc ρ2) (fun c ρ3 => ∃ c', c = .v c' ∧ ∃ k, g' [.v b', .v c'] = some (.v (.bl k)) ∧ Q (.v (.bl k)) ρ3) else Q (.v (.bl false)) ρ2) : Wp E (cCh g g' ca cb cc ρ) Q := by
  unfold cCh
  refine wp_bind.mpr (h.mono fun a ρ1 h => ?_)
  obtain ⟨a', rfl, h⟩ := h
  refine wp_bind.mpr (h.mono fun b ρ2 h => ?_)
  obtain ⟨b', rfl, t, e, h⟩ := h
  dsimp only
  rw [e]
  cases t with
  | false => exact h
  | true =>
    rw [if_pos rfl] at h
    refine wp_bind.mpr (h.mono fun c ρ3 h => ?_)
    obtain ⟨c', rfl, k, e2, h⟩ := h
    dsimp only
    rw [e2]; exact h
/-! ### calls -/
theorem wp_anil {ρ : Env} {Q : List AK → Env → Prop} : Wp E (aNil ρ) Q ↔ Q [] ρ := Iff.rfl
theorem wp_aval {c : Env → R C} {r : Env → R (List AK)} {ρ : Env} {Q : List AK → Env → Prop} : Wp E (aVal c r ρ) Q ↔ Wp E (c ρ) fun x ρ1 => ∃ d, x = .v d ∧ Wp E (r ρ1) fun as ρ2 => Q (.d d :: as) ρ2 := by
  unfold aVal
  rw [wp_bind]
  constructor <;> intro h <;> refine h.mono fun x ρ1 h => ?_
  · split at h
    · exact ⟨_, rfl, wp_bind.mp h⟩
    · exact h.elim
  · obtain ⟨d, rfl, h⟩ := h
    exact wp_bind.mpr h
theorem wp_aslot {i : Nat} {r : Env → R (List AK)} {ρ : Env} {Q : List AK → Env → Prop} : Wp E (aSlot i r ρ) Q ↔ (∃ c, ρ[i]? = some (some c)) ∧ Wp E (r ρ) fun as ρ2 => Q (.s i :: as) ρ2 := by
  unfold aSlot
  split
  · rename_i c e
    rw [wp_bind]
    exact ⟨fun h => ⟨⟨c, e⟩, h⟩, fun h => h.2⟩
  · rename_i h0
    exact ⟨fun h => h.elim, fun h => by obtain ⟨⟨c, e⟩, _⟩ := h; exact (h0 c e).elim⟩
theorem wp_call {f : FSem} {ca : Env → R (List AK)} {ρ : Env} {Q : C → Env → Prop} : Wp E (cCall f ca ρ) Q ↔ Wp E (ca ρ) fun as ρ1 => ∃ cs, conts ρ1 as = some cs ∧ dist as = true ∧ Wf (fun n fs => E n (back fs 0 as ρ1)) (f cs) fun r fs => Q r (back fs 0 as ρ1) := by
  unfold cCall
  rw [wp_bind]
  constructor <;> intro h <;> refine h.mono fun as ρ1 h => ?_
  · split at h
    · exact h.elim
    · rename_i cs e
      refine ⟨cs, e, ?_⟩
      by_cases hd : dist as = true
      · rw [if_pos hd] at h
        refine ⟨hd, ?_⟩
        cases hf : f cs <;> rw [hf] at h <;> exact h
      · rw [if_neg hd] at h; exact h.elim
  · obtain ⟨cs, e, hd, h⟩ := h
    rw [e]
    dsimp only
    rw [if_pos hd]
    cases hf : f cs <;> rw [hf] at h <;> exact h
theorem wf_mk {n m : Nat} {kp : List Nat} {c : Env → R Fl} {cs : List C} {Q : C → Env → Prop} : Wf E (mkF n m kp c cs) Q ↔ cs.length = n ∧ Wp (fun x ρ => E x (fins kp ρ 0 cs)) (c (cs.map some ++ List.replicate m none)) fun f ρ => match f with
    | .nx => Q (.v .non) (fins kp ρ 0 cs)
    | .rt r => Q r (fins kp ρ 0 cs) := by
  unfold mkF
  by_cases h : cs.length = n
  · rw [if_pos h]
    unfold runF
    cases c (cs.map some ++ List.replicate m none) with
    | ok f ρ => cases f <;> exact ⟨fun q => ⟨h, q⟩, fun q => q.2⟩
    | exn x ρ => exact ⟨fun q => ⟨h, q⟩, fun q => q.2⟩
    | stuck => exact ⟨fun q => q.elim, fun q => q.2⟩
  · rw [if_neg h]
    exact ⟨fun q => q.elim, fun q => (h q.1).elim⟩
/-! ### slot methods and stores -/
theorem wp_meth {i : Nat} {g : C → List C → Option (D × C)} {cl : Env → R (List C)} {ρ : Env} {Q : C → Env → Prop} (k : ∃ ds, ρ[i]? = some (some (.l ds))) (h : Wp E (cl ρ) fun cs ρ1 => ∃ c, ρ1[i]? = some (some c) ∧ ∃ d c', g c cs = some (d, c') ∧ Q (.v d) (ρ1.set i (some c'))) : Wp E (cMeth i g cl ρ) Q := by
  obtain ⟨ds, e⟩ := k
  unfold cMeth
  rw [e]
  refine wp_bind.mpr (h.mono fun cs ρ1 h => ?_)
  obtain ⟨c, e, d, c', e2, h⟩ := h
  rw [e]
  dsimp only
  rw [e2]; exact h
theorem wp_setIx_mpr {i : Nat} {g : C → D → D → Option C} {ck cv : Env → R C} {ρ : Env} {Q : Fl → Env → Prop} (h : Wp E (cv ρ) fun v ρ1 => ∃ d, v = .v d ∧ (∃ c, ρ1[i]? = some (some c)) ∧ Wp E (ck ρ1) fun k ρ2 => ∃ kd, k = .v kd ∧ ∃ c, ρ2[i]? = some (some c) ∧ ∃ c', g c kd d = some c' ∧ Q .nx (ρ2.set i (some c'))) : Wp E (sSetIx i g ck cv ρ) Q := by
  unfold sSetIx
  refine wp_bind.mpr (h.mono fun v ρ1 h => ?_)
  obtain ⟨d, rfl, ⟨c, e⟩, h⟩ := h
  dsimp only
  rw [e]
  refine wp_bind.mpr (h.mono fun k ρ2 h => ?_)
  obtain ⟨kd, rfl, c, e, c', e2, h⟩ := h
  dsimp only
  rw [e]
  dsimp only
  rw [e2]; exact h
theorem wp_setIx_iff {i : Nat} {g : C → D → D → Option C} {ck cv : Env → R C} {ρ : Env} {Q : Fl → Env → Prop} : Wp E (sSetIx i g ck cv ρ) Q ↔ Wp E (cv ρ) fun v ρ1 => ∃ d, v = .v d ∧ (∃ c, ρ1[i]? = some (some c)) ∧ Wp E (ck ρ1) fun k ρ2 => ∃ kd, k = .v kd ∧ ∃ c, ρ2[i]? = some (some c) ∧ ∃ c', g c kd d = some c' ∧ Q .nx (ρ2.set i (some c')) := by
  refine ⟨fun h => ?_, wp_setIx_mpr⟩
  unfold sSetIx at h
  refine (wp_bind.mp h).mono fun v ρ1 h => ?_
  split at h
  · split at h
    · refine ⟨_, rfl, ⟨_, by assumption⟩, (wp_bind.mp h).mono fun k ρ2 h => ?_⟩
      split at h
      · split at h
        · split at h
          · exact ⟨_, rfl, _, by assumption, _, by assumption, h⟩
          · exact h.elim
        · exact h.elim
      · exact h.elim
    · exact h.elim
  · exact h.elim
theorem wp_set2_iff {i : Nat} {a1 a2 : Env → Option D} {cv : Env → R C} {ρ : Env} {Q : Fl → Env → Prop} : Wp E (sSet2 i a1 a2 cv ρ) Q ↔ Wp E (cv ρ) fun v ρ1 => ∃ d, v = .v d ∧ ∃ c, ρ1[i]? = some (some c) ∧ ∃ k1, a1 ρ1 = some k1 ∧ ∃ k2, a2 ρ1 = some k2 ∧ ∃ c', gSet2 c k1 k2 d = some c' ∧ Q .nx (ρ1.set i (some c')) := by
  constructor
  · intro h
    unfold sSet2 at h
    refine (wp_bind.mp h).mono fun v ρ1 h => ?_
    split at h
    · split at h
      · split at h
        · exact ⟨_, rfl, _, by assumption, _, by assumption, _, by assumption, _, by assumption, h⟩
        · exact h.elim
      · exact h.elim
    · exact h.elim
  · intro h
    unfold sSet2
    refine wp_bind.mpr (h.mono fun v ρ1 h => ?_)
    obtain ⟨d, rfl, c, e, k1, e1, k2, e2, c', e3, h⟩ := h
    dsimp only
    rw [e, e1, e2]
    dsimp only
    rw [e3]; exact h
theorem wp_get2_iff {i : Nat} {a1 a2 : Env → Option D} {ρ : Env} {Q : C → Env → Prop} : Wp E (cGet2 i a1 a2 ρ) Q ↔ ∃ c, ρ[i]? = some (some c) ∧ ∃ k1, a1 ρ = some k1 ∧ ∃ k2, a2 ρ = some k2 ∧ ∃ d, gGet2 c k1 k2 = some d ∧ Q (.v d) ρ := by
  constructor
  · intro h
    unfold cGet2 at h
    split at h
    · split at h
      · exact ⟨_, by assumption, _, by assumption, _, by assumption, _, by assumption, h⟩
      · exact h.elim
    · exact h.elim
  · rintro ⟨c, e, k1, e1, k2, e2, d, e3, h⟩
    unfold cGet2
    rw [e, e1, e2]
    dsimp only
    rw [e3]; exact h
theorem wp_set2 {i : Nat} {a1 a2 : Env → Option D} {cv : Env → R C} {ρ : Env} {Q : Fl → Env → Prop} (h : Wp E (cv ρ) fun v ρ1 => ∃ d, v = .v d ∧ ∃ c, ρ1[i]? = some (some c) ∧ ∃ k1, a1 ρ1 = some k1 ∧ ∃ k2, a2 ρ1 = some k2 ∧ ∃ c', gSet2 c k1 k2 d = some c' ∧ Q .nx (ρ1.set i (some c'))) : Wp E (sSet2 i a1 a2 cv ρ) Q := by
  unfold sSet2
  refine wp_bind.mpr (h.mono fun v ρ1 h => ?_)
  obtain ⟨d, rfl, c, e, k1, e1, k2, e2, c', e3, h⟩ := h
  dsimp only
  rw [e, e1, e2]
  dsimp only
  rw [e3]; exact h
theorem wp_get2 {i : Nat} {a1 a2 : Env → Option D} {ρ : Env} {Q : C → Env → Prop} (h : ∃ c, ρ[i]? = some (some c) ∧ ∃ k1, a1 ρ = some k1 ∧ ∃ k2, a2 ρ = some k2 ∧ ∃ d, gGet2 c k1 k2 = some d ∧ Q (.v d) ρ) : Wp E (cGet2 i a1 a2 ρ) Q := by
  obtain ⟨c, e, k1, e1, k2, e2, d, e3, h⟩ := h
  unfold cGet2
  rw [e, e1, e2]
  dsimp only
  rw [e3]; exact h
/-! ### iterables, loops -/
theorem wp_ival {c : Env → R C} {ρ : Env} {Q : List D → Env → Prop} : Wp E (iVal c ρ) Q ↔ Wp E (c ρ) fun x ρ1 => ∃ ds, itemsOf x = some ds ∧ Q ds ρ1 := by
  unfold iVal
  rw [wp_bind]
  constructor <;> intro h <;> refine h.mono fun x ρ1 h => ?_
  · split at h
    · exact ⟨_, by assumption, h⟩
    · exact h.elim
  · obtain ⟨d, e, h⟩ := h
    rw [e]; exact h
theorem wp_irange {cl : Env → R (List C)} {ρ : Env} {Q : List D → Env → Prop} : Wp E (iRange cl ρ) Q ↔ Wp E (cl ρ) fun cs ρ1 => ∃ ds, gRange cs = some ds ∧ Q ds ρ1 := by
  unfold iRange
  rw [wp_bind]
  constructor <;> intro h <;> refine h.mono fun x ρ1 h => ?_
  · split at h
    · exact ⟨_, by assumption, h⟩
    · exact h.elim
  · obtain ⟨d, e, h⟩ := h
    rw [e]; exact h
/-- a for loop by its invariant over the items still to come -/
theorem wp_for {ci : Env → R (List D)} {t : Tg} {cb : Env → R Fl} {ρ : Env} {Q : Fl → Env → Prop} (I : List D → Env → Prop)
    (h : Wp E (ci ρ) I)
    (step : ∀ d r ρ, I (d :: r) ρ → ∃ ρ1, t.put (.v d) ρ = some ρ1 ∧ Wp E (cb ρ1) fun f ρ2 => match f with
      | .nx => I r ρ2
      | .rt c => Q (.rt c) ρ2)
    (fin : ∀ ρ, I [] ρ → Q .nx ρ) : Wp E (sFor ci t cb ρ) Q := by
  unfold sFor
  refine wp_bind.mpr (h.mono fun ds ρ1 h => ?_)
  induction ds generalizing ρ1 with
  | nil => exact fin _ h
  | cons d r ih =>
    obtain ⟨ρ2, e, h2⟩ := step d r ρ1 h
    unfold forR
    rw [e]
    dsimp only
    cases hc : cb ρ2 with
    | ok f ρ3 => cases f with
      | nx => rw [hc] at h2; exact ih ρ3 h2
      | rt c => rw [hc] at h2; exact h2
    | exn n ρ3 => rw [hc] at h2; exact h2
    | stuck => rw [hc] at h2; exact h2
theorem wp_while {fuel : Env → Nat} {ct : Env → R Bool} {cb : Env → R Fl} {ρ : Env} {Q : Fl → Env → Prop} (I : Nat → Env → Prop) (n0 : Nat) (h : I n0 ρ) (hf : n0 < fuel ρ)
    (step : ∀ n ρ, I n ρ → Wp E (ct ρ) fun b ρ1 => if b = true then Wp E (cb ρ1) (fun f ρ2 => match f with
      | .nx => ∃ m, m < n ∧ I m ρ2
      | .rt c => Q (.rt c) ρ2) else Q .nx ρ1) : Wp E (sWhile fuel ct cb ρ) Q := by
  unfold sWhile
  revert hf
  generalize fuel ρ = k
  intro hf
  induction k generalizing n0 ρ with
  | zero => omega
  | succ k ih =>
    unfold whileR
    refine wp_bind.mpr ((step n0 ρ h).mono fun b ρ1 h1 => ?_)
    cases b with
    | false => exact h1
    | true =>
      rw [if_pos rfl] at h1 ⊢
      cases hc : cb ρ1 with
      | ok f ρ3 => cases f with
        | nx =>
          rw [hc] at h1
          obtain ⟨m, hm, hI⟩ := h1
          exact ih m hI (by omega)
        | rt c => rw [hc] at h1; exact h1
      | exn n ρ3 => rw [hc] at h1; exact h1
      | stuck => rw [hc] at h1; exact h1
/-- a comprehension by its invariant: items to come, items made, the frame -/
theorem wp_comp {own : List Nat} {t : Tg} {ci : Env → R (List D)} {ct : Env → R Bool} {ce : Env → R C} {ρ : Env} {Q : C → Env → Prop} (I : List D → List D → Env → Prop)
    (h : Wp E (ci ρ) fun ds ρ1 => I ds [] (wipeE own ρ1) ∧
      (∀ ρ2 acc, I [] acc ρ2 → Q (.l acc) (putBack own ρ1 ρ2)))
    (step : ∀ d r acc ρ, I (d :: r) acc ρ → ∃ ρ1, t.put (.v d) ρ = some ρ1 ∧ Wp X0 (ct ρ1) fun b ρ2 => if b = true then Wp X0 (ce ρ2) (fun y ρ3 => ∃ v, y = .v v ∧ acc.length < sizeLine ∧ I r (acc ++ [v]) (wipeE own ρ3)) else I r acc (wipeE own ρ2)) : Wp E (cComp own t ci ct ce ρ) Q := by
  unfold cComp
  refine wp_bind.mpr (h.mono fun ds ρ1 h => ?_)
  obtain ⟨hI, fin⟩ := h
  revert hI
  generalize wipeE own ρ1 = ρw
  generalize ([] : List D) = acc
  intro hI
  clear h
  induction ds generalizing acc ρw with
  | nil => exact fin _ _ hI
  | cons d r ih =>
    obtain ⟨ρ2, e, h2⟩ := step d r acc ρw hI
    unfold compR
    rw [e]
    dsimp only
    cases hc : ct ρ2 with
    | ok b ρ3 =>
      rw [hc] at h2
      cases b with
      | false => exact ih _ _ h2
      | true =>
        have h3 : Wp X0 (ce ρ3) _ := h2
        dsimp only
        cases he : ce ρ3 with
        | ok y ρ4 =>
          rw [he] at h3
          obtain ⟨v, rfl, hz, hI2⟩ := h3
          dsimp only
          rw [if_pos hz]
          exact ih _ _ hI2
        | exn n ρ4 => rw [he] at h3; exact h3.elim
        | stuck => rw [he] at h3; exact h3.elim
    | exn n ρ3 => rw [hc] at h2; exact h2.elim
    | stuck => rw [hc] at h2; exact h2.elim
theorem wp_compL {own : List Nat} {t : Tg} {ci : Env → R (List D)} {ct : Env → R Bool} {ce : Env → R C} {ρ : Env} {Q : C → Env → Prop} (I : List D → List (List D) → Env → Prop)
    (h : Wp E (ci ρ) fun ds ρ1 => I ds [] (wipeE own ρ1) ∧
      (∀ ρ2 acc, I [] acc ρ2 → Q (.ll acc) (putBack own ρ1 ρ2)))
    (step : ∀ d r acc ρ, I (d :: r) acc ρ → ∃ ρ1, t.put (.v d) ρ = some ρ1 ∧ Wp X0 (ct ρ1) fun b ρ2 => if b = true then Wp X0 (ce ρ2) (fun y ρ3 => ∃ v, y = .l v ∧ acc.length < sizeLine ∧ I r (acc ++ [v]) (wipeE own ρ3)) else I r acc (wipeE own ρ2)) : Wp E (cCompL own t ci ct ce ρ) Q := by
  unfold cCompL
  refine wp_bind.mpr (h.mono fun ds ρ1 h => ?_)
  obtain ⟨hI, fin⟩ := h
  revert hI
  generalize wipeE own ρ1 = ρw
  generalize ([] : List (List D)) = acc
  intro hI
  clear h
  induction ds generalizing acc ρw with
  | nil => exact fin _ _ hI
  | cons d r ih =>
    obtain ⟨ρ2, e, h2⟩ := step d r acc ρw hI
    unfold compLR
    rw [e]
    dsimp only
    cases hc : ct ρ2 with
    | ok b ρ3 =>
      rw [hc] at h2
      cases b with
      | false => exact ih _ _ h2
      | true =>
        have h3 : Wp X0 (ce ρ3) _ := h2
        dsimp only
        cases he : ce ρ3 with
        | ok y ρ4 =>
          rw [he] at h3
          obtain ⟨v, rfl, hz, hI2⟩ := h3
          dsimp only
          rw [if_pos hz]
          exact ih _ _ hI2
        | exn n ρ4 => rw [he] at h3; exact h3.elim
        | stuck => rw [he] at h3; exact h3.elim
    | exn n ρ3 => rw [hc] at h2; exact h2.elim
    | stuck => rw [hc] at h2; exact h2.elim
end
/-! ### operations on the usual contents -/
@[simp] theorem _root_.SW.gI_ii {Cb : Int → Int → Bool} {f : Int → Int → D} {i j : Int} : gI Cb f [.v (.int i), .v (.int j)] = if Cb i j = true then some (.v (f i j)) else none := rfl
theorem _root_.SW.divOk_iff {i j : Int} : divOk i j = true ↔ 0 < j ∧ j.natAbs.log2 < 9000 := by simp [divOk]
theorem _root_.SW.bitsOk_iff {i j : Int} : bitsOk i j = true ↔ i.natAbs.log2 + j.natAbs.log2 < 1000000 := by simp [bitsOk]
theorem _root_.SW.log2_lt_of {n : Nat} (k : Nat) (h : n < 2 ^ k) (hk : 0 < k) : n.log2 < k := by
  by_cases z : n = 0
  · subst z; simpa using hk
  · exact (Nat.log2_lt z).mpr h
/-- small numbers multiply -/
theorem _root_.SW.bitsOk_of {i j : Int} (hi : i.natAbs < 2 ^ 400) (hj : j.natAbs < 2 ^ 400) : bitsOk i j = true := by
  rw [bitsOk_iff]
  have h1 := log2_lt_of 400 hi (by decide)
  have h2 := log2_lt_of 400 hj (by decide)
  omega
theorem _root_.SW.divOk_of {i j : Int} (h0 : 0 < j) (hj : j.natAbs < 2 ^ 400) : divOk i j = true := by
  rw [divOk_iff]
  have h2 := log2_lt_of 400 hj (by decide)
  exact ⟨h0, by omega⟩
theorem _root_.SW.shaped_int (i : Int) : SeqAt.shaped (.int i) = true := by
  simp only [SeqAt.shaped, PyData.canLay0, PyData.depth]; rfl
@[simp] theorem _root_.SW.gEq_ii {i j : Int} : gEq [.v (.int i), .v (.int j)] = some (.v (.bl (decide (i = j)))) := by
  by_cases h : i = j <;> simp [gEq, eqC, toPC, toP, shaped_int, PyData.eqv, h]
@[simp] theorem _root_.SW.gNe_ii {i j : Int} : gNe [.v (.int i), .v (.int j)] = some (.v (.bl (!decide (i = j)))) := by
  by_cases h : i = j <;> simp [gNe, eqC, toPC, toP, shaped_int, PyData.eqv, h]
end SW.Dd
namespace SW.Dd
open PySem PySem.Spec PyProof.Rows L2
section
variable {E : String → Env → Prop}
/-- the same, of code not looked at yet -/
def Wq (E : String → Env → Prop) (c : Env → R Fl) (ρ : Env) (Q : Fl → Env → Prop) : Prop := Wp E (c ρ) Q
theorem wq {c : Env → R Fl} {ρ : Env} {Q : Fl → Env → Prop} (h : Wp E (c ρ) Q) : Wq E c ρ Q := h
theorem wq_iff {c : Env → R Fl} {ρ : Env} {Q : Fl → Env → Prop} : Wq E c ρ Q ↔ Wp E (c ρ) Q := Iff.rfl
theorem wpq_seq {a b : Env → R Fl} {ρ : Env} {Q : Fl → Env → Prop} : Wp E (sSeq a b ρ) Q ↔ Wp E (a ρ) fun f ρ1 => match f with
    | .nx => Wq E b ρ1 Q
    | .rt c => Q (.rt c) ρ1 := wp_seq
theorem _root_.SW.ite_and {x : Bool} {A B : Prop} : (if x = true then A else B) ↔ (x = true → A) ∧ (x = false → B) := by cases x <;> simp
theorem wpq_if {t : Env → R Bool} {a b : Env → R Fl} {ρ : Env} {Q : Fl → Env → Prop} : Wp E (cIf t a b ρ) Q ↔ Wp E (t ρ) fun x ρ1 => (x = true → Wq E a ρ1 Q) ∧ (x = false → Wq E b ρ1 Q) := by
  rw [wp_if]; simp only [ite_and]; rfl
theorem wpe_if {t : Env → R Bool} {a b : Env → R C} {ρ : Env} {Q : C → Env → Prop} : Wp E (cIf t a b ρ) Q ↔ Wp E (t ρ) fun x ρ1 => (x = true → Wp E (a ρ1) Q) ∧ (x = false → Wp E (b ρ1) Q) := by
  rw [wp_if]; simp only [ite_and]
theorem wpa_and {a b : Env → R Bool} {ρ : Env} {Q : Bool → Env → Prop} : Wp E (cAnd a b ρ) Q ↔ Wp E (a ρ) fun x ρ1 => (x = true → Wp E (b ρ1) Q) ∧ (x = false → Q false ρ1) := by
  rw [wp_and]; simp only [ite_and]
theorem wpa_or {a b : Env → R Bool} {ρ : Env} {Q : Bool → Env → Prop} : Wp E (cOr a b ρ) Q ↔ Wp E (a ρ) fun x ρ1 => (x = true → Q true ρ1) ∧ (x = false → Wp E (b ρ1) Q) := by
  rw [wp_or]; simp only [ite_and]
theorem wp_call0 {f : FSem} {ca : Env → R (List AK)} {ρ : Env} {Q : C → Env → Prop} : Wp X0 (cCall f ca ρ) Q ↔ Wp X0 (ca ρ) fun as ρ1 => ∃ cs, conts ρ1 as = some cs ∧ dist as = true ∧ Wf X0 (f cs) fun r fs => Q r (back fs 0 as ρ1) := wp_call
theorem wf_mk0 {n m : Nat} {kp : List Nat} {c : Env → R Fl} {cs : List C} {Q : C → Env → Prop} (hl : cs.length = n) (h : Wq X0 c (cs.map some ++ List.replicate m none) fun f ρ => match f with
    | .nx => Q (.v .non) (fins kp ρ 0 cs)
    | .rt r => Q r (fins kp ρ 0 cs)) : Wf X0 (mkF n m kp c cs) Q := wf_mk.mpr ⟨hl, h⟩
/-- a statement, then the rest from what is known between -/
theorem wq_cut {a b : Env → R Fl} {ρ : Env} {Q : Fl → Env → Prop} (M : Env → Prop) (h1 : ∀ K : Fl → Env → Prop, (∀ ρ1, M ρ1 → K .nx ρ1) → (∀ c ρ1, Q (.rt c) ρ1 → K (.rt c) ρ1) → Wq E a ρ K) (h2 : ∀ ρ1, M ρ1 → Wq E b ρ1 Q) : Wq E (sSeq a b) ρ Q :=
  wp_seq.mpr (h1 _ (fun ρ1 h => h2 ρ1 h) fun _ _ h => h)
theorem _root_.SW.wp_meth_iff {i : Nat} {g : C → List C → Option (D × C)} {cl : Env → R (List C)} {ρ : Env} {Q : C → Env → Prop} : Wp E (cMeth i g cl ρ) Q ↔ (∃ ds, ρ[i]? = some (some (.l ds))) ∧ Wp E (cl ρ) fun cs ρ1 => ∃ c, ρ1[i]? = some (some c) ∧ ∃ d c', g c cs = some (d, c') ∧ Q (.v d) (ρ1.set i (some c')) := by
  refine ⟨fun h => ?_, fun h => wp_meth h.1 h.2⟩
  unfold cMeth at h
  split at h
  · rename_i ds e
    refine ⟨⟨ds, e⟩, (wp_bind.mp h).mono fun cs ρ1 h => ?_⟩
    split at h
    · rename_i c e1
      split at h
      · rename_i d c' e2
        exact ⟨c, e1, d, c', e2, h⟩
      · exact h.elim
    · exact h.elim
  · exact h.elim
end
end SW.Dd
namespace SW.Dd
open PySem PySem.Spec PyProof.Rows L2
def _root_.SW.isS {α : Type} (o : Option α) (P : α → Prop) : Prop := match o with
  | some a => P a
  | none => False
def _root_.SW.isSS {α : Type} (o : Option (Option α)) (P : α → Prop) : Prop := match o with
  | some (some a) => P a
  | _ => False
def _root_.SW.isB (x : C) (P : Bool → Prop) : Prop := match x with
  | .v (.bl b) => P b
  | _ => False
def _root_.SW.isV (x : C) (P : D → Prop) : Prop := match x with
  | .v d => P d
  | _ => False
def _root_.SW.isI (x : C) (P : Int → Prop) : Prop := match x with
  | .v (.int i) => P i
  | _ => False
def _root_.SW.isL (x : C) (P : List D → Prop) : Prop := match x with
  | .l ds => P ds
  | _ => False
theorem _root_.SW.isS_iff {α : Type} {o : Option α} {P : α → Prop} : isS o P ↔ ∃ a, o = some a ∧ P a := by cases o <;> simp [isS]
theorem _root_.SW.isSS_iff {α : Type} {o : Option (Option α)} {P : α → Prop} : isSS o P ↔ ∃ a, o = some (some a) ∧ P a := by
  cases o with
  | none => simp [isSS]
  | some o => cases o <;> simp [isSS]
theorem _root_.SW.isB_iff {x : C} {P : Bool → Prop} : isB x P ↔ ∃ b, x = .v (.bl b) ∧ P b := by
  unfold isB
  split
  · rename_i b
    exact ⟨fun h => ⟨b, rfl, h⟩, fun ⟨_, e, h⟩ => by cases e; exact h⟩
  · rename_i h
    exact ⟨fun q => q.elim, fun ⟨b, e, _⟩ => h b e⟩
theorem _root_.SW.isV_iff {x : C} {P : D → Prop} : isV x P ↔ ∃ b, x = .v b ∧ P b := by cases x <;> simp [isV]
theorem _root_.SW.isL_iff {x : C} {P : List D → Prop} : isL x P ↔ ∃ b, x = .l b ∧ P b := by cases x <;> simp [isL]
theorem _root_.SW.isI_iff {x : C} {P : Int → Prop} : isI x P ↔ ∃ b, x = .v (.int b) ∧ P b := by
  unfold isI
  split
  · rename_i b
    exact ⟨fun h => ⟨b, rfl, h⟩, fun ⟨_, e, h⟩ => by cases e; exact h⟩
  · rename_i h
    exact ⟨fun q => q.elim, fun ⟨b, e, _⟩ => h b e⟩
section
variable {α : Type} {P : α → Prop} {a : α}
@[simp] theorem _root_.SW.isS_some : isS (some a) P ↔ P a := Iff.rfl
@[simp] theorem _root_.SW.isS_none : isS (none : Option α) P ↔ False := Iff.rfl
@[simp] theorem _root_.SW.isS_ite {p : Prop} [Decidable p] {o : Option α} : isS (if p then o else none) P ↔ p ∧ isS o P := by
  by_cases h : p <;> simp [h]
@[simp] theorem _root_.SW.isSS_some : isSS (some (some a)) P ↔ P a := Iff.rfl
@[simp] theorem _root_.SW.isB_v {b : Bool} {P : Bool → Prop} : isB (.v (.bl b)) P ↔ P b := Iff.rfl
@[simp] theorem _root_.SW.isV_v {b : D} {P : D → Prop} : isV (.v b) P ↔ P b := Iff.rfl
@[simp] theorem _root_.SW.isL_v {b : List D} {P : List D → Prop} : isL (.l b) P ↔ P b := Iff.rfl
@[simp] theorem _root_.SW.isI_v {b : Int} {P : Int → Prop} : isI (.v (.int b)) P ↔ P b := Iff.rfl
end
theorem _root_.SW.isS.mono {α : Type} {o : Option α} {P P' : α → Prop} (h : isS o P) (k : ∀ a, P a → P' a) : isS o P' := by
  cases o with
  | none => exact h
  | some a => exact k a h
section
variable {E : String → Env → Prop}
theorem wpi_op {g : List C → Option C} {cl : Env → R (List C)} {ρ : Env} {Q : C → Env → Prop} : Wp E (cOp g cl ρ) Q ↔ Wp E (cl ρ) fun cs ρ1 => isS (g cs) fun c => Q c ρ1 := by
  simp only [isS_iff]; exact wp_op
theorem wpi_slot {i : Nat} {cs : Env → R (List C)} {ρ : Env} {Q : List C → Env → Prop} : Wp E (cSlot i cs ρ) Q ↔ (isSS ρ[i]? fun _ => True) ∧ Wp E (cs ρ) fun r ρ2 => isSS ρ2[i]? fun c => Q (c :: r) ρ2 := by
  simp only [isSS_iff, and_true]; exact wp_slot
theorem wpi_var {i : Nat} {ρ : Env} {Q : C → Env → Prop} : Wp E (cVar i ρ) Q ↔ isSS ρ[i]? fun c => isV c fun d => Q (.v d) ρ := by
  simp only [isSS_iff, isV_iff]
  rw [wp_var]
  exact ⟨fun ⟨d, e, h⟩ => ⟨_, e, d, rfl, h⟩, fun ⟨c, e, d, e2, h⟩ => ⟨d, e2 ▸ e, h⟩⟩
theorem wpi_varF {i : Nat} {ρ : Env} {Q : C → Env → Prop} : Wp E (cVarF i ρ) Q ↔ isSS ρ[i]? fun c => isS c.fz fun d => Q (.v d) (ρ.set i (some (.v d))) := by
  simp only [isSS_iff, isS_iff]; exact wp_varF
theorem wpi_take {i : Nat} {ρ : Env} {Q : C → Env → Prop} : Wp E (cTake i ρ) Q ↔ isSS ρ[i]? fun c => Q c (ρ.set i none) := by
  simp only [isSS_iff]; exact wp_take
theorem wpi_fz {c : Env → R C} {ρ : Env} {Q : C → Env → Prop} : Wp E (cFz c ρ) Q ↔ Wp E (c ρ) fun x ρ1 => isS x.fz fun d => Q (.v d) ρ1 := by
  simp only [isS_iff]; exact wp_fz
theorem wpi_test {c : Env → R C} {ρ : Env} {Q : Bool → Env → Prop} : Wp E (cTest c ρ) Q ↔ Wp E (c ρ) fun x ρ1 => isB x fun b => Q b ρ1 := by
  simp only [isB_iff]; exact wp_test
theorem wpi_psome {c : Env → R C} {ρ : Env} {Q : Option Int → Env → Prop} : Wp E (pSome c ρ) Q ↔ Wp E (c ρ) fun x ρ1 => isI x fun i => Q (some i) ρ1 := by
  simp only [isI_iff]; exact wp_psome
theorem wpi_sl {g : C → Option Int → Option Int → Option C} {c : Env → R C} {cl ch : Env → R (Option Int)} {ρ : Env} {Q : C → Env → Prop} : Wp E (cSl g c cl ch ρ) Q ↔ Wp E (c ρ) fun x ρ1 => Wp E (cl ρ1) fun lo ρ2 => Wp E (ch ρ2) fun hi ρ3 => isS (g x lo hi) fun y => Q y ρ3 := by
  simp only [isS_iff]; exact wp_sl
theorem wpi_aval {c : Env → R C} {r : Env → R (List AK)} {ρ : Env} {Q : List AK → Env → Prop} : Wp E (aVal c r ρ) Q ↔ Wp E (c ρ) fun x ρ1 => isV x fun d => Wp E (r ρ1) fun as ρ2 => Q (.d d :: as) ρ2 := by
  simp only [isV_iff]; exact wp_aval
theorem wpi_aslot {i : Nat} {r : Env → R (List AK)} {ρ : Env} {Q : List AK → Env → Prop} : Wp E (aSlot i r ρ) Q ↔ (isSS ρ[i]? fun _ => True) ∧ Wp E (r ρ) fun as ρ2 => Q (.s i :: as) ρ2 := by
  simp only [isSS_iff, and_true]; exact wp_aslot
theorem wpi_ival {c : Env → R C} {ρ : Env} {Q : List D → Env → Prop} : Wp E (iVal c ρ) Q ↔ Wp E (c ρ) fun x ρ1 => isS (itemsOf x) fun ds => Q ds ρ1 := by
  simp only [isS_iff]; exact wp_ival
theorem wpi_irange {cl : Env → R (List C)} {ρ : Env} {Q : List D → Env → Prop} : Wp E (iRange cl ρ) Q ↔ Wp E (cl ρ) fun cs ρ1 => isS (gRange cs) fun ds => Q ds ρ1 := by
  simp only [isS_iff]; exact wp_irange
theorem wpi_call0 {f : FSem} {ca : Env → R (List AK)} {ρ : Env} {Q : C → Env → Prop} : Wp X0 (cCall f ca ρ) Q ↔ Wp X0 (ca ρ) fun as ρ1 => isS (conts ρ1 as) fun cs => dist as = true ∧ Wf X0 (f cs) fun r fs => Q r (back fs 0 as ρ1) := by
  simp only [isS_iff]; exact wp_call0
theorem wpi_meth {i : Nat} {g : C → List C → Option (D × C)} {cl : Env → R (List C)} {ρ : Env} {Q : C → Env → Prop} : Wp E (cMeth i g cl ρ) Q ↔ (isSS ρ[i]? fun c => isL c fun _ => True) ∧ Wp E (cl ρ) fun cs ρ1 => isSS ρ1[i]? fun c => isS (g c cs) fun dc => Q (.v dc.1) (ρ1.set i (some dc.2)) := by
  simp only [isSS_iff, isL_iff, isS_iff, and_true]
  rw [wp_meth_iff]
  constructor
  · rintro ⟨⟨ds, e⟩, h⟩
    exact ⟨⟨_, e, ds, rfl⟩, h.mono fun cs ρ1 ⟨c, e, d, c', e2, h⟩ => ⟨c, e, _, e2, h⟩⟩
  · rintro ⟨⟨_, e, ds, rfl⟩, h⟩
    exact ⟨⟨ds, e⟩, h.mono fun cs ρ1 ⟨c, e, ⟨d, c'⟩, e2, h⟩ => ⟨c, e, d, c', e2, h⟩⟩
theorem wpi_setIx {i : Nat} {g : C → D → D → Option C} {ck cv : Env → R C} {ρ : Env} {Q : Fl → Env → Prop} : Wp E (sSetIx i g ck cv ρ) Q ↔ Wp E (cv ρ) fun v ρ1 => isV v fun d => (isSS ρ1[i]? fun _ => True) ∧ Wp E (ck ρ1) fun k ρ2 => isV k fun kd => isSS ρ2[i]? fun c => isS (g c kd d) fun c' => Q .nx (ρ2.set i (some c')) := by
  simp only [isSS_iff, isV_iff, isS_iff, and_true]; exact wp_setIx_iff
theorem wpi_set2 {i : Nat} {a1 a2 : Env → Option D} {cv : Env → R C} {ρ : Env} {Q : Fl → Env → Prop} : Wp E (sSet2 i a1 a2 cv ρ) Q ↔ Wp E (cv ρ) fun v ρ1 => isV v fun d => isSS ρ1[i]? fun c => isS (a1 ρ1) fun k1 => isS (a2 ρ1) fun k2 => isS (gSet2 c k1 k2 d) fun c' => Q .nx (ρ1.set i (some c')) := by
  simp only [isSS_iff, isV_iff, isS_iff]; exact wp_set2_iff
theorem wpi_get2 {i : Nat} {a1 a2 : Env → Option D} {ρ : Env} {Q : C → Env → Prop} : Wp E (cGet2 i a1 a2 ρ) Q ↔ isSS ρ[i]? fun c => isS (a1 ρ) fun k1 => isS (a2 ρ) fun k2 => isS (gGet2 c k1 k2) fun d => Q (.v d) ρ := by
  simp only [isSS_iff, isS_iff]; exact wp_get2_iff
end
end SW.Dd
namespace SW.Dd
open PySem PySem.Spec PyProof.Rows L2
/-- an item at a place that is there -/
theorem _root_.SW.atI_in {α : Type} {xs : List α} {i : Int} (h0 : 0 ≤ i) (h1 : i < xs.length) : ∃ (x : α) (h : i.toNat < xs.length), x = xs[i.toNat] ∧ x ∈ xs ∧ L2.atI xs i = some x := by
  have h : i.toNat < xs.length := by omega
  refine ⟨xs[i.toNat], h, rfl, List.getElem_mem h, ?_⟩
  unfold L2.atI L2.ixN
  rw [if_pos h0, if_pos h1]
  simp [h]
theorem _root_.SW.atI_nat {α : Type} {xs : List α} {i : Nat} (h : i < xs.length) : L2.atI xs (i : Int) = some xs[i] := by
  unfold L2.atI L2.ixN
  rw [if_pos (by omega), if_pos (by omega)]
  simp [h]
end SW.Dd
namespace SW.Dd
open PySem PySem.Spec PyProof.Rows L2
section
variable {α : Type} {a b c d : α} {xs : List α}
@[simp] theorem _root_.SW.atI_0 : L2.atI (a :: xs) 0 = some a := atI_nat (xs := a :: xs) (i := 0) (by simp)
@[simp] theorem _root_.SW.atI_1 : L2.atI (a :: b :: xs) 1 = some b := atI_nat (xs := a :: b :: xs) (i := 1) (by simp)
@[simp] theorem _root_.SW.atI_2 : L2.atI (a :: b :: c :: xs) 2 = some c := atI_nat (xs := a :: b :: c :: xs) (i := 2) (by simp)
@[simp] theorem _root_.SW.atI_3 : L2.atI (a :: b :: c :: d :: xs) 3 = some d := atI_nat (xs := a :: b :: c :: d :: xs) (i := 3) (by simp)
end
end SW.Dd
namespace SW.Dd
open PySem PySem.Spec PyProof.Rows L2
section
variable {E : String → Env → Prop}
/-- a statement that just computes -/
theorem wq_step {a b : Env → R Fl} {ρ : Env} (ρ1 : Env) {Q : Fl → Env → Prop} (h : a ρ = .ok .nx ρ1) (k : Wq E b ρ1 Q) : Wq E (sSeq a b) ρ Q := by
  refine wp_seq.mpr ?_
  rw [h]; exact k
theorem wp_eval {α : Type} {c : Env → R α} {ρ ρ1 : Env} {x : α} {Q : α → Env → Prop} (h : c ρ = .ok x ρ1) (k : Q x ρ1) : Wp E (c ρ) Q := by
  rw [h]; exact k
end
end SW.Dd
namespace SW.Dd
open PySem PySem.Spec PyProof.Rows L2
section
variable {E : String → Env → Prop}
/-- a comprehension that leaves the frame as it is -/
theorem wp_comp_map {own : List Nat} {t : Tg} {ci : Env → R (List D)} {ct : Env → R Bool} {ce : Env → R C} {ρ : Env} {Q : C → Env → Prop} (F : Env) (keep : D → Bool) (g : D → D)
    (h : Wp E (ci ρ) fun ds ρ1 => wipeE own ρ1 = F ∧ ds.length ≤ sizeLine ∧ Q (.l ((ds.filter keep).map g)) (putBack own ρ1 F) ∧
      ∀ d ∈ ds, ∃ ρ2, t.put (.v d) F = some ρ2 ∧ Wp X0 (ct ρ2) fun b ρ3 => b = keep d ∧ (b = true → Wp X0 (ce ρ3) fun y ρ4 => y = .v (g d) ∧ wipeE own ρ4 = F) ∧ (b = false → wipeE own ρ3 = F)) : Wp E (cComp own t ci ct ce ρ) Q := by
  unfold cComp
  refine wp_bind.mpr (h.mono fun ds ρ1 h => ?_)
  obtain ⟨hw, hl, hq, step⟩ := h
  rw [hw]
  have gen : ∀ (ds : List D) (acc : List D), (acc.length + ds.length ≤ sizeLine) → (∀ d ∈ ds, ∃ ρ2, t.put (.v d) F = some ρ2 ∧ Wp X0 (ct ρ2) fun b ρ3 => b = keep d ∧ (b = true → Wp X0 (ce ρ3) fun y ρ4 => y = .v (g d) ∧ wipeE own ρ4 = F) ∧ (b = false → wipeE own ρ3 = F)) →
      compR own t ct ce ρ1 ds acc F = .ok (.l (acc ++ (ds.filter keep).map g)) (putBack own ρ1 F) := by
    intro ds
    induction ds with
    | nil => intro acc _ _; unfold compR; simp
    | cons d r ih =>
      intro acc ha hs
      obtain ⟨ρ2, e, h2⟩ := hs d (by simp)
      unfold compR
      rw [e]
      dsimp only
      cases hc : ct ρ2 with
      | ok b ρ3 =>
        rw [hc] at h2
        obtain ⟨hb, ht, hf⟩ := h2
        cases b with
        | false =>
          dsimp only
          rw [hf rfl, ih acc (by simp at ha; omega) fun d' hd' => hs d' (by simp [hd'])]
          rw [List.filter_cons, ← hb]; rfl
        | true =>
          have h3 := ht rfl
          dsimp only
          cases he : ce ρ3 with
          | ok y ρ4 =>
            rw [he] at h3
            obtain ⟨rfl, hw4⟩ := h3
            dsimp only
            simp at ha
            rw [if_pos (by omega), hw4, ih _ (by simp; omega) fun d' hd' => hs d' (by simp [hd'])]
            rw [List.filter_cons, ← hb]; simp
          | exn n ρ4 => rw [he] at h3; exact h3.elim
          | stuck => rw [he] at h3; exact h3.elim
      | exn n ρ3 => rw [hc] at h2; exact h2.elim
      | stuck => rw [hc] at h2; exact h2.elim
  rw [gen ds [] (by simpa using hl) step]
  rw [List.nil_append]; exact hq
theorem wp_compL_map {own : List Nat} {t : Tg} {ci : Env → R (List D)} {ct : Env → R Bool} {ce : Env → R C} {ρ : Env} {Q : C → Env → Prop} (F : Env) (keep : D → Bool) (g : D → List D)
    (h : Wp E (ci ρ) fun ds ρ1 => wipeE own ρ1 = F ∧ ds.length ≤ sizeLine ∧ Q (.ll ((ds.filter keep).map g)) (putBack own ρ1 F) ∧
      ∀ d ∈ ds, ∃ ρ2, t.put (.v d) F = some ρ2 ∧ Wp X0 (ct ρ2) fun b ρ3 => b = keep d ∧ (b = true → Wp X0 (ce ρ3) fun y ρ4 => y = .l (g d) ∧ wipeE own ρ4 = F) ∧ (b = false → wipeE own ρ3 = F)) : Wp E (cCompL own t ci ct ce ρ) Q := by
  unfold cCompL
  refine wp_bind.mpr (h.mono fun ds ρ1 h => ?_)
  obtain ⟨hw, hl, hq, step⟩ := h
  rw [hw]
  have gen : ∀ (ds : List D) (acc : List (List D)), (acc.length + ds.length ≤ sizeLine) → (∀ d ∈ ds, ∃ ρ2, t.put (.v d) F = some ρ2 ∧ Wp X0 (ct ρ2) fun b ρ3 => b = keep d ∧ (b = true → Wp X0 (ce ρ3) fun y ρ4 => y = .l (g d) ∧ wipeE own ρ4 = F) ∧ (b = false → wipeE own ρ3 = F)) →
      compLR own t ct ce ρ1 ds acc F = .ok (.ll (acc ++ (ds.filter keep).map g)) (putBack own ρ1 F) := by
    intro ds
    induction ds with
    | nil => intro acc _ _; unfold compLR; simp
    | cons d r ih =>
      intro acc ha hs
      obtain ⟨ρ2, e, h2⟩ := hs d (by simp)
      unfold compLR
      rw [e]
      dsimp only
      cases hc : ct ρ2 with
      | ok b ρ3 =>
        rw [hc] at h2
        obtain ⟨hb, ht, hf⟩ := h2
        cases b with
        | false =>
          dsimp only
          rw [hf rfl, ih acc (by simp at ha; omega) fun d' hd' => hs d' (by simp [hd'])]
          rw [List.filter_cons, ← hb]; rfl
        | true =>
          have h3 := ht rfl
          dsimp only
          cases he : ce ρ3 with
          | ok y ρ4 =>
            rw [he] at h3
            obtain ⟨rfl, hw4⟩ := h3
            dsimp only
            simp at ha
            rw [if_pos (by omega), hw4, ih _ (by simp; omega) fun d' hd' => hs d' (by simp [hd'])]
            rw [List.filter_cons, ← hb]; simp
          | exn n ρ4 => rw [he] at h3; exact h3.elim
          | stuck => rw [he] at h3; exact h3.elim
      | exn n ρ3 => rw [hc] at h2; exact h2.elim
      | stuck => rw [hc] at h2; exact h2.elim
  rw [gen ds [] (by simpa using hl) step]
  rw [List.nil_append]; exact hq
end
theorem _root_.SW.ixN_in {n : Nat} {i : Int} (h0 : 0 ≤ i) (h1 : i < n) : L2.ixN n i = some i.toNat := by
  unfold L2.ixN
  rw [if_pos h0, if_pos h1]
end SW.Dd

set_option Elab.async false
set_option linter.all false
set_option maxRecDepth 100000
set_option maxHeartbeats 4000000
set_option autoImplicit false
/-! Pl1: what a meaning gives (the plain side): weakest preconditions over the meanings of Sw. -/

/-! Pl1: the same statements over predicates that do not unfold. -/
namespace SW
open PySem PySem.Spec PyProof.Rows L2
/-- r ends well with Q, or with an exception that E takes -/
structure Wp {α : Type} (E : String → Env → Prop) (r : R α) (Q : α → Env → Prop) : Prop where
  of ::
  d : Dd.Wp E r Q
structure Wf (E : String → Env → Prop) (r : FR) (Q : C → Env → Prop) : Prop where
  of ::
  d : Dd.Wf E r Q
/-- the same, of code not looked at yet -/
structure Wq (E : String → Env → Prop) (c : Env → R Fl) (ρ : Env) (Q : Fl → Env → Prop) : Prop where
  of ::
  d : Dd.Wq E c ρ Q
section
variable {E : String → Env → Prop} {α β : Type}
theorem wpw {r : R α} {Q : α → Env → Prop} : Wp E r Q ↔ Dd.Wp E r Q := ⟨fun h => h.d, .of⟩
theorem wfw {r : FR} {Q : C → Env → Prop} : Wf E r Q ↔ Dd.Wf E r Q := ⟨fun h => h.d, .of⟩
theorem wqw {c : Env → R Fl} {ρ : Env} {Q : Fl → Env → Prop} : Wq E c ρ Q ↔ Dd.Wq E c ρ Q := ⟨fun h => h.d, .of⟩
@[simp] theorem wp_ok {a : α} {ρ : Env} {Q : α → Env → Prop} : Wp E (.ok a ρ) Q ↔ Q a ρ := by
  simp only [wpw, wfw, wqw]; exact Dd.wp_ok
theorem wp_bind {r : R α} {f : α → Env → R β} {Q : β → Env → Prop} : Wp E (r.bind f) Q ↔ Wp E r fun a ρ => Wp E (f a ρ) Q := by
  simp only [wpw, wfw, wqw]; exact Dd.wp_bind
theorem wp_seq {a b : Env → R Fl} {ρ : Env} {Q : Fl → Env → Prop} : Wp E (sSeq a b ρ) Q ↔ Wp E (a ρ) fun f ρ1 => match f with
    | .nx => Wp E (b ρ1) Q
    | .rt c => Q (.rt c) ρ1 := by
  simp only [wpw, wfw, wqw]; exact Dd.wp_seq
@[simp] theorem wp_nil {ρ : Env} {Q : Fl → Env → Prop} : Wp E (sNil ρ) Q ↔ Q .nx ρ := by
  simp only [wpw, wfw, wqw]; exact Dd.wp_nil
@[simp] theorem wp_ret {c : Env → R C} {ρ : Env} {Q : Fl → Env → Prop} : Wp E (sRet c ρ) Q ↔ Wp E (c ρ) fun x ρ1 => Q (.rt x) ρ1 := by
  simp only [wpw, wfw, wqw]; exact Dd.wp_ret
@[simp] theorem wp_retN {ρ : Env} {Q : Fl → Env → Prop} : Wp E (sRetN ρ) Q ↔ Q (.rt (.v .non)) ρ := by
  simp only [wpw, wfw, wqw]; exact Dd.wp_retN
@[simp] theorem wp_ex {c : Env → R C} {ρ : Env} {Q : Fl → Env → Prop} : Wp E (sEx c ρ) Q ↔ Wp E (c ρ) fun _ ρ1 => Q .nx ρ1 := by
  simp only [wpw, wfw, wqw]; exact Dd.wp_ex
theorem wp_if {t : Env → R Bool} {a b : Env → R α} {ρ : Env} {Q : α → Env → Prop} : Wp E (cIf t a b ρ) Q ↔ Wp E (t ρ) fun x ρ1 => if x = true then Wp E (a ρ1) Q else Wp E (b ρ1) Q := by
  simp only [wpw, wfw, wqw]; exact Dd.wp_if
@[simp] theorem wp_setN {i : Nat} {c : Env → R C} {ρ : Env} {Q : Fl → Env → Prop} : Wp E (sSet (.nm i) c ρ) Q ↔ Wp E (c ρ) fun x ρ1 => i < ρ1.length ∧ Q .nx (ρ1.set i (some x)) := by
  simp only [wpw, wfw, wqw]; exact Dd.wp_setN
theorem wp_set {t : Tg} {c : Env → R C} {ρ : Env} {Q : Fl → Env → Prop} : Wp E (sSet t c ρ) Q ↔ Wp E (c ρ) fun x ρ1 => ∃ ρ2, t.put x ρ1 = some ρ2 ∧ Q .nx ρ2 := by
  simp only [wpw, wfw, wqw]; exact Dd.wp_set
theorem wp_op {g : List C → Option C} {cl : Env → R (List C)} {ρ : Env} {Q : C → Env → Prop} : Wp E (cOp g cl ρ) Q ↔ Wp E (cl ρ) fun cs ρ1 => ∃ c, g cs = some c ∧ Q c ρ1 := by
  simp only [wpw, wfw, wqw]; exact Dd.wp_op
@[simp] theorem wp_cnil {ρ : Env} {Q : List C → Env → Prop} : Wp E (cNil ρ) Q ↔ Q [] ρ := by
  simp only [wpw, wfw, wqw]; exact Dd.wp_cnil
@[simp] theorem wp_ccons {ce : Env → R C} {cs : Env → R (List C)} {ρ : Env} {Q : List C → Env → Prop} : Wp E (cCons ce cs ρ) Q ↔ Wp E (ce ρ) fun c ρ1 => Wp E (cs ρ1) fun r ρ2 => Q (c :: r) ρ2 := by
  simp only [wpw, wfw, wqw]; exact Dd.wp_ccons
theorem wp_slot {i : Nat} {cs : Env → R (List C)} {ρ : Env} {Q : List C → Env → Prop} : Wp E (cSlot i cs ρ) Q ↔ (∃ c, ρ[i]? = some (some c)) ∧ Wp E (cs ρ) fun r ρ2 => ∃ c, ρ2[i]? = some (some c) ∧ Q (c :: r) ρ2 := by
  simp only [wpw, wfw, wqw]; exact Dd.wp_slot
theorem wp_var {i : Nat} {ρ : Env} {Q : C → Env → Prop} : Wp E (cVar i ρ) Q ↔ ∃ d, ρ[i]? = some (some (.v d)) ∧ Q (.v d) ρ := by
  simp only [wpw, wfw, wqw]; exact Dd.wp_var
theorem wp_varF {i : Nat} {ρ : Env} {Q : C → Env → Prop} : Wp E (cVarF i ρ) Q ↔ ∃ c, ρ[i]? = some (some c) ∧ ∃ d, c.fz = some d ∧ Q (.v d) (ρ.set i (some (.v d))) := by
  simp only [wpw, wfw, wqw]; exact Dd.wp_varF
theorem wp_take {i : Nat} {ρ : Env} {Q : C → Env → Prop} : Wp E (cTake i ρ) Q ↔ ∃ c, ρ[i]? = some (some c) ∧ Q c (ρ.set i none) := by
  simp only [wpw, wfw, wqw]; exact Dd.wp_take
@[simp] theorem wp_c {d : D} {ρ : Env} {Q : C → Env → Prop} : Wp E (cC d ρ) Q ↔ Q (.v d) ρ := by
  simp only [wpw, wfw, wqw]; exact Dd.wp_c
theorem wp_fz {c : Env → R C} {ρ : Env} {Q : C → Env → Prop} : Wp E (cFz c ρ) Q ↔ Wp E (c ρ) fun x ρ1 => ∃ d, x.fz = some d ∧ Q (.v d) ρ1 := by
  simp only [wpw, wfw, wqw]; exact Dd.wp_fz
theorem wp_test {c : Env → R C} {ρ : Env} {Q : Bool → Env → Prop} : Wp E (cTest c ρ) Q ↔ Wp E (c ρ) fun x ρ1 => ∃ b, x = .v (.bl b) ∧ Q b ρ1 := by
  simp only [wpw, wfw, wqw]; exact Dd.wp_test
theorem wp_and {a b : Env → R Bool} {ρ : Env} {Q : Bool → Env → Prop} : Wp E (cAnd a b ρ) Q ↔ Wp E (a ρ) fun x ρ1 => if x = true then Wp E (b ρ1) Q else Q false ρ1 := by
  simp only [wpw, wfw, wqw]; exact Dd.wp_and
theorem wp_or {a b : Env → R Bool} {ρ : Env} {Q : Bool → Env → Prop} : Wp E (cOr a b ρ) Q ↔ Wp E (a ρ) fun x ρ1 => if x = true then Q true ρ1 else Wp E (b ρ1) Q := by
  simp only [wpw, wfw, wqw]; exact Dd.wp_or
@[simp] theorem wp_not {a : Env → R Bool} {ρ : Env} {Q : Bool → Env → Prop} : Wp E (cNot a ρ) Q ↔ Wp E (a ρ) fun x ρ1 => Q (!x) ρ1 := by
  simp only [wpw, wfw, wqw]; exact Dd.wp_not
@[simp] theorem wp_bl {a : Env → R Bool} {ρ : Env} {Q : C → Env → Prop} : Wp E (cBl a ρ) Q ↔ Wp E (a ρ) fun x ρ1 => Q (.v (.bl x)) ρ1 := by
  simp only [wpw, wfw, wqw]; exact Dd.wp_bl
@[simp] theorem wp_yes {ρ : Env} {Q : Bool → Env → Prop} : Wp E (cYes ρ) Q ↔ Q true ρ := by
  simp only [wpw, wfw, wqw]; exact Dd.wp_yes
@[simp] theorem wp_pnone {ρ : Env} {Q : Option Int → Env → Prop} : Wp E (pNone ρ) Q ↔ Q none ρ := by
  simp only [wpw, wfw, wqw]; exact Dd.wp_pnone
theorem wp_psome {c : Env → R C} {ρ : Env} {Q : Option Int → Env → Prop} : Wp E (pSome c ρ) Q ↔ Wp E (c ρ) fun x ρ1 => ∃ i, x = .v (.int i) ∧ Q (some i) ρ1 := by
  simp only [wpw, wfw, wqw]; exact Dd.wp_psome
theorem wp_sl {g : C → Option Int → Option Int → Option C} {c : Env → R C} {cl ch : Env → R (Option Int)} {ρ : Env} {Q : C → Env → Prop} : Wp E (cSl g c cl ch ρ) Q ↔ Wp E (c ρ) fun x ρ1 => Wp E (cl ρ1) fun lo ρ2 => Wp E (ch ρ2) fun hi ρ3 => ∃ y, g x lo hi = some y ∧ Q y ρ3 := by
  simp only [wpw, wfw, wqw]; exact Dd.wp_sl
@[simp] theorem wp_anil {ρ : Env} {Q : List AK → Env → Prop} : Wp E (aNil ρ) Q ↔ Q [] ρ := by
  simp only [wpw, wfw, wqw]; exact Dd.wp_anil
theorem wp_aval {c : Env → R C} {r : Env → R (List AK)} {ρ : Env} {Q : List AK → Env → Prop} : Wp E (aVal c r ρ) Q ↔ Wp E (c ρ) fun x ρ1 => ∃ d, x = .v d ∧ Wp E (r ρ1) fun as ρ2 => Q (.d d :: as) ρ2 := by
  simp only [wpw, wfw, wqw]; exact Dd.wp_aval
theorem wp_aslot {i : Nat} {r : Env → R (List AK)} {ρ : Env} {Q : List AK → Env → Prop} : Wp E (aSlot i r ρ) Q ↔ (∃ c, ρ[i]? = some (some c)) ∧ Wp E (r ρ) fun as ρ2 => Q (.s i :: as) ρ2 := by
  simp only [wpw, wfw, wqw]; exact Dd.wp_aslot
theorem wp_call {f : FSem} {ca : Env → R (List AK)} {ρ : Env} {Q : C → Env → Prop} : Wp E (cCall f ca ρ) Q ↔ Wp E (ca ρ) fun as ρ1 => ∃ cs, conts ρ1 as = some cs ∧ dist as = true ∧ Wf (fun n fs => E n (back fs 0 as ρ1)) (f cs) fun r fs => Q r (back fs 0 as ρ1) := by
  simp only [wpw, wfw, wqw]; exact Dd.wp_call
theorem wf_mk {n m : Nat} {kp : List Nat} {c : Env → R Fl} {cs : List C} {Q : C → Env → Prop} : Wf E (mkF n m kp c cs) Q ↔ cs.length = n ∧ Wp (fun x ρ => E x (fins kp ρ 0 cs)) (c (cs.map some ++ List.replicate m none)) fun f ρ => match f with
    | .nx => Q (.v .non) (fins kp ρ 0 cs)
    | .rt r => Q r (fins kp ρ 0 cs) := by
  simp only [wpw, wfw, wqw]; exact Dd.wf_mk
theorem wp_setIx_iff {i : Nat} {g : C → D → D → Option C} {ck cv : Env → R C} {ρ : Env} {Q : Fl → Env → Prop} : Wp E (sSetIx i g ck cv ρ) Q ↔ Wp E (cv ρ) fun v ρ1 => ∃ d, v = .v d ∧ (∃ c, ρ1[i]? = some (some c)) ∧ Wp E (ck ρ1) fun k ρ2 => ∃ kd, k = .v kd ∧ ∃ c, ρ2[i]? = some (some c) ∧ ∃ c', g c kd d = some c' ∧ Q .nx (ρ2.set i (some c')) := by
  simp only [wpw, wfw, wqw]; exact Dd.wp_setIx_iff
theorem wp_set2_iff {i : Nat} {a1 a2 : Env → Option D} {cv : Env → R C} {ρ : Env} {Q : Fl → Env → Prop} : Wp E (sSet2 i a1 a2 cv ρ) Q ↔ Wp E (cv ρ) fun v ρ1 => ∃ d, v = .v d ∧ ∃ c, ρ1[i]? = some (some c) ∧ ∃ k1, a1 ρ1 = some k1 ∧ ∃ k2, a2 ρ1 = some k2 ∧ ∃ c', gSet2 c k1 k2 d = some c' ∧ Q .nx (ρ1.set i (some c')) := by
  simp only [wpw, wfw, wqw]; exact Dd.wp_set2_iff
theorem wp_get2_iff {i : Nat} {a1 a2 : Env → Option D} {ρ : Env} {Q : C → Env → Prop} : Wp E (cGet2 i a1 a2 ρ) Q ↔ ∃ c, ρ[i]? = some (some c) ∧ ∃ k1, a1 ρ = some k1 ∧ ∃ k2, a2 ρ = some k2 ∧ ∃ d, gGet2 c k1 k2 = some d ∧ Q (.v d) ρ := by
  simp only [wpw, wfw, wqw]; exact Dd.wp_get2_iff
theorem wp_ival {c : Env → R C} {ρ : Env} {Q : List D → Env → Prop} : Wp E (iVal c ρ) Q ↔ Wp E (c ρ) fun x ρ1 => ∃ ds, itemsOf x = some ds ∧ Q ds ρ1 := by
  simp only [wpw, wfw, wqw]; exact Dd.wp_ival
theorem wp_irange {cl : Env → R (List C)} {ρ : Env} {Q : List D → Env → Prop} : Wp E (iRange cl ρ) Q ↔ Wp E (cl ρ) fun cs ρ1 => ∃ ds, gRange cs = some ds ∧ Q ds ρ1 := by
  simp only [wpw, wfw, wqw]; exact Dd.wp_irange
theorem wq_iff {c : Env → R Fl} {ρ : Env} {Q : Fl → Env → Prop} : Wq E c ρ Q ↔ Wp E (c ρ) Q := by
  simp only [wpw, wfw, wqw]; exact Dd.wq_iff
@[simp] theorem wpq_seq {a b : Env → R Fl} {ρ : Env} {Q : Fl → Env → Prop} : Wp E (sSeq a b ρ) Q ↔ Wp E (a ρ) fun f ρ1 => match f with
    | .nx => Wq E b ρ1 Q
    | .rt c => Q (.rt c) ρ1 := by
  simp only [wpw, wfw, wqw]; exact Dd.wpq_seq
@[simp] theorem wpq_if {t : Env → R Bool} {a b : Env → R Fl} {ρ : Env} {Q : Fl → Env → Prop} : Wp E (cIf t a b ρ) Q ↔ Wp E (t ρ) fun x ρ1 => (x = true → Wq E a ρ1 Q) ∧ (x = false → Wq E b ρ1 Q) := by
  simp only [wpw, wfw, wqw]; exact Dd.wpq_if
@[simp] theorem wpe_if {t : Env → R Bool} {a b : Env → R C} {ρ : Env} {Q : C → Env → Prop} : Wp E (cIf t a b ρ) Q ↔ Wp E (t ρ) fun x ρ1 => (x = true → Wp E (a ρ1) Q) ∧ (x = false → Wp E (b ρ1) Q) := by
  simp only [wpw, wfw, wqw]; exact Dd.wpe_if
@[simp] theorem wpa_and {a b : Env → R Bool} {ρ : Env} {Q : Bool → Env → Prop} : Wp E (cAnd a b ρ) Q ↔ Wp E (a ρ) fun x ρ1 => (x = true → Wp E (b ρ1) Q) ∧ (x = false → Q false ρ1) := by
  simp only [wpw, wfw, wqw]; exact Dd.wpa_and
@[simp] theorem wpa_or {a b : Env → R Bool} {ρ : Env} {Q : Bool → Env → Prop} : Wp E (cOr a b ρ) Q ↔ Wp E (a ρ) fun x ρ1 => (x = true → Q true ρ1) ∧ (x = false → Wp E (b ρ1) Q) := by
  simp only [wpw, wfw, wqw]; exact Dd.wpa_or
theorem wp_call0 {f : FSem} {ca : Env → R (List AK)} {ρ : Env} {Q : C → Env → Prop} : Wp X0 (cCall f ca ρ) Q ↔ Wp X0 (ca ρ) fun as ρ1 => ∃ cs, conts ρ1 as = some cs ∧ dist as = true ∧ Wf X0 (f cs) fun r fs => Q r (back fs 0 as ρ1) := by
  simp only [wpw, wfw, wqw]; exact Dd.wp_call0
@[simp] theorem wpi_op {g : List C → Option C} {cl : Env → R (List C)} {ρ : Env} {Q : C → Env → Prop} : Wp E (cOp g cl ρ) Q ↔ Wp E (cl ρ) fun cs ρ1 => isS (g cs) fun c => Q c ρ1 := by
  simp only [wpw, wfw, wqw]; exact Dd.wpi_op
@[simp] theorem wpi_slot {i : Nat} {cs : Env → R (List C)} {ρ : Env} {Q : List C → Env → Prop} : Wp E (cSlot i cs ρ) Q ↔ (isSS ρ[i]? fun _ => True) ∧ Wp E (cs ρ) fun r ρ2 => isSS ρ2[i]? fun c => Q (c :: r) ρ2 := by
  simp only [wpw, wfw, wqw]; exact Dd.wpi_slot
@[simp] theorem wpi_var {i : Nat} {ρ : Env} {Q : C → Env → Prop} : Wp E (cVar i ρ) Q ↔ isSS ρ[i]? fun c => isV c fun d => Q (.v d) ρ := by
  simp only [wpw, wfw, wqw]; exact Dd.wpi_var
@[simp] theorem wpi_varF {i : Nat} {ρ : Env} {Q : C → Env → Prop} : Wp E (cVarF i ρ) Q ↔ isSS ρ[i]? fun c => isS c.fz fun d => Q (.v d) (ρ.set i (some (.v d))) := by
  simp only [wpw, wfw, wqw]; exact Dd.wpi_varF
@[simp] theorem wpi_take {i : Nat} {ρ : Env} {Q : C → Env → Prop} : Wp E (cTake i ρ) Q ↔ isSS ρ[i]? fun c => Q c (ρ.set i none) := by
  simp only [wpw, wfw, wqw]; exact Dd.wpi_take
@[simp] theorem wpi_fz {c : Env → R C} {ρ : Env} {Q : C → Env → Prop} : Wp E (cFz c ρ) Q ↔ Wp E (c ρ) fun x ρ1 => isS x.fz fun d => Q (.v d) ρ1 := by
  simp only [wpw, wfw, wqw]; exact Dd.wpi_fz
@[simp] theorem wpi_test {c : Env → R C} {ρ : Env} {Q : Bool → Env → Prop} : Wp E (cTest c ρ) Q ↔ Wp E (c ρ) fun x ρ1 => isB x fun b => Q b ρ1 := by
  simp only [wpw, wfw, wqw]; exact Dd.wpi_test
@[simp] theorem wpi_psome {c : Env → R C} {ρ : Env} {Q : Option Int → Env → Prop} : Wp E (pSome c ρ) Q ↔ Wp E (c ρ) fun x ρ1 => isI x fun i => Q (some i) ρ1 := by
  simp only [wpw, wfw, wqw]; exact Dd.wpi_psome
@[simp] theorem wpi_sl {g : C → Option Int → Option Int → Option C} {c : Env → R C} {cl ch : Env → R (Option Int)} {ρ : Env} {Q : C → Env → Prop} : Wp E (cSl g c cl ch ρ) Q ↔ Wp E (c ρ) fun x ρ1 => Wp E (cl ρ1) fun lo ρ2 => Wp E (ch ρ2) fun hi ρ3 => isS (g x lo hi) fun y => Q y ρ3 := by
  simp only [wpw, wfw, wqw]; exact Dd.wpi_sl
@[simp] theorem wpi_aval {c : Env → R C} {r : Env → R (List AK)} {ρ : Env} {Q : List AK → Env → Prop} : Wp E (aVal c r ρ) Q ↔ Wp E (c ρ) fun x ρ1 => isV x fun d => Wp E (r ρ1) fun as ρ2 => Q (.d d :: as) ρ2 := by
  simp only [wpw, wfw, wqw]; exact Dd.wpi_aval
@[simp] theorem wpi_aslot {i : Nat} {r : Env → R (List AK)} {ρ : Env} {Q : List AK → Env → Prop} : Wp E (aSlot i r ρ) Q ↔ (isSS ρ[i]? fun _ => True) ∧ Wp E (r ρ) fun as ρ2 => Q (.s i :: as) ρ2 := by
  simp only [wpw, wfw, wqw]; exact Dd.wpi_aslot
@[simp] theorem wpi_ival {c : Env → R C} {ρ : Env} {Q : List D → Env → Prop} : Wp E (iVal c ρ) Q ↔ Wp E (c ρ) fun x ρ1 => isS (itemsOf x) fun ds => Q ds ρ1 := by
  simp only [wpw, wfw, wqw]; exact Dd.wpi_ival
@[simp] theorem wpi_irange {cl : Env → R (List C)} {ρ : Env} {Q : List D → Env → Prop} : Wp E (iRange cl ρ) Q ↔ Wp E (cl ρ) fun cs ρ1 => isS (gRange cs) fun ds => Q ds ρ1 := by
  simp only [wpw, wfw, wqw]; exact Dd.wpi_irange
@[simp] theorem wpi_call0 {f : FSem} {ca : Env → R (List AK)} {ρ : Env} {Q : C → Env → Prop} : Wp X0 (cCall f ca ρ) Q ↔ Wp X0 (ca ρ) fun as ρ1 => isS (conts ρ1 as) fun cs => dist as = true ∧ Wf X0 (f cs) fun r fs => Q r (back fs 0 as ρ1) := by
  simp only [wpw, wfw, wqw]; exact Dd.wpi_call0
@[simp] theorem wpi_meth {i : Nat} {g : C → List C → Option (D × C)} {cl : Env → R (List C)} {ρ : Env} {Q : C → Env → Prop} : Wp E (cMeth i g cl ρ) Q ↔ (isSS ρ[i]? fun c => isL c fun _ => True) ∧ Wp E (cl ρ) fun cs ρ1 => isSS ρ1[i]? fun c => isS (g c cs) fun dc => Q (.v dc.1) (ρ1.set i (some dc.2)) := by
  simp only [wpw, wfw, wqw]; exact Dd.wpi_meth
@[simp] theorem wpi_setIx {i : Nat} {g : C → D → D → Option C} {ck cv : Env → R C} {ρ : Env} {Q : Fl → Env → Prop} : Wp E (sSetIx i g ck cv ρ) Q ↔ Wp E (cv ρ) fun v ρ1 => isV v fun d => (isSS ρ1[i]? fun _ => True) ∧ Wp E (ck ρ1) fun k ρ2 => isV k fun kd => isSS ρ2[i]? fun c => isS (g c kd d) fun c' => Q .nx (ρ2.set i (some c')) := by
  simp only [wpw, wfw, wqw]; exact Dd.wpi_setIx
@[simp] theorem wpi_set2 {i : Nat} {a1 a2 : Env → Option D} {cv : Env → R C} {ρ : Env} {Q : Fl → Env → Prop} : Wp E (sSet2 i a1 a2 cv ρ) Q ↔ Wp E (cv ρ) fun v ρ1 => isV v fun d => isSS ρ1[i]? fun c => isS (a1 ρ1) fun k1 => isS (a2 ρ1) fun k2 => isS (gSet2 c k1 k2 d) fun c' => Q .nx (ρ1.set i (some c')) := by
  simp only [wpw, wfw, wqw]; exact Dd.wpi_set2
@[simp] theorem wpi_get2 {i : Nat} {a1 a2 : Env → Option D} {ρ : Env} {Q : C → Env → Prop} : Wp E (cGet2 i a1 a2 ρ) Q ↔ isSS ρ[i]? fun c => isS (a1 ρ) fun k1 => isS (a2 ρ) fun k2 => isS (gGet2 c k1 k2) fun d => Q (.v d) ρ := by
  simp only [wpw, wfw, wqw]; exact Dd.wpi_get2
theorem Wp.mono {r : R α} {Q Q' : α → Env → Prop} (h : Wp E r Q) (k : ∀ a ρ, Q a ρ → Q' a ρ) : Wp E r Q' := .of (Dd.Wp.mono h.d k)
theorem Wf.mono {r : FR} {Q Q' : C → Env → Prop} (h : Wf E r Q) (k : ∀ a ρ, Q a ρ → Q' a ρ) : Wf E r Q' := .of (Dd.Wf.mono h.d k)
theorem Wf.monoX {E' : String → Env → Prop} {r : FR} {Q Q' : C → Env → Prop} (h : Wf E r Q) (k : ∀ a ρ, Q a ρ → Q' a ρ) (x : ∀ n ρ, E n ρ → E' n ρ) : Wf E' r Q' := .of (Dd.Wf.monoX h.d k x)
theorem wp_slS {g : C → Option Int → Option Int → Option C} {i : Nat} {cl ch : Env → R (Option Int)} {ρ : Env} {Q : C → Env → Prop} (k : ∃ c, ρ[i]? = some (some c)) (h : Wp E (cl ρ) fun lo ρ2 => Wp E (ch ρ2) fun hi ρ3 => ∃ x, ρ3[i]? = some (some x) ∧ ∃ y, g x lo hi = some y ∧ Q y ρ3) : Wp E (cSlS g i cl ch ρ) Q := by
  simp only [wpw] at h ⊢; exact Dd.wp_slS k h
theorem wp_ch {g g' : List C → Option C} {ca cb cc : Env → R C} {ρ : Env} {Q : C → Env → Prop} (h : Wp E (ca ρ) fun a ρ1 => ∃ a', a = .v a' ∧ Wp E (cb ρ1) fun b ρ2 => ∃ b', b = .v b' ∧ ∃ t, g [.v a', .v b'] = some (.v (.bl t)) ∧ if t = true then Wp E (cc ρ2) (fun c ρ3 => ∃ c', c = .v c' ∧ ∃ k, g' [.v b', .v c'] = some (.v (.bl k)) ∧ Q (.v (.bl k)) ρ3) else Q (.v (.bl false)) ρ2) : Wp E (cCh g g' ca cb cc ρ) Q := by
  simp only [wpw] at h ⊢; exact Dd.wp_ch h
theorem wp_for {ci : Env → R (List D)} {t : Tg} {cb : Env → R Fl} {ρ : Env} {Q : Fl → Env → Prop} (I : List D → Env → Prop)
    (h : Wp E (ci ρ) I)
    (step : ∀ d r ρ, I (d :: r) ρ → ∃ ρ1, t.put (.v d) ρ = some ρ1 ∧ Wp E (cb ρ1) fun f ρ2 => match f with
      | .nx => I r ρ2
      | .rt c => Q (.rt c) ρ2)
    (fin : ∀ ρ, I [] ρ → Q .nx ρ) : Wp E (sFor ci t cb ρ) Q := by
  simp only [wpw] at h step ⊢; exact Dd.wp_for I h step fin
theorem wp_while {fuel : Env → Nat} {ct : Env → R Bool} {cb : Env → R Fl} {ρ : Env} {Q : Fl → Env → Prop} (I : Nat → Env → Prop) (n0 : Nat) (h : I n0 ρ) (hf : n0 < fuel ρ)
    (step : ∀ n ρ, I n ρ → Wp E (ct ρ) fun b ρ1 => if b = true then Wp E (cb ρ1) (fun f ρ2 => match f with
      | .nx => ∃ m, m < n ∧ I m ρ2
      | .rt c => Q (.rt c) ρ2) else Q .nx ρ1) : Wp E (sWhile fuel ct cb ρ) Q := by
  simp only [wpw] at step ⊢; exact Dd.wp_while I n0 h hf step
theorem wp_comp {own : List Nat} {t : Tg} {ci : Env → R (List D)} {ct : Env → R Bool} {ce : Env → R C} {ρ : Env} {Q : C → Env → Prop} (I : List D → List D → Env → Prop)
    (h : Wp E (ci ρ) fun ds ρ1 => I ds [] (wipeE own ρ1) ∧
      (∀ ρ2 acc, I [] acc ρ2 → Q (.l acc) (putBack own ρ1 ρ2)))
    (step : ∀ d r acc ρ, I (d :: r) acc ρ → ∃ ρ1, t.put (.v d) ρ = some ρ1 ∧ Wp X0 (ct ρ1) fun b ρ2 => if b = true then Wp X0 (ce ρ2) (fun y ρ3 => ∃ v, y = .v v ∧ acc.length < sizeLine ∧ I r (acc ++ [v]) (wipeE own ρ3)) else I r acc (wipeE own ρ2)) : Wp E (cComp own t ci ct ce ρ) Q := by
  simp only [wpw] at h step ⊢; exact Dd.wp_comp I h step
theorem wp_compL {own : List Nat} {t : Tg} {ci : Env → R (List D)} {ct : Env → R Bool} {ce : Env → R C} {ρ : Env} {Q : C → Env → Prop} (I : List D → List (List D) → Env → Prop)
    (h : Wp E (ci ρ) fun ds ρ1 => I ds [] (wipeE own ρ1) ∧
      (∀ ρ2 acc, I [] acc ρ2 → Q (.ll acc) (putBack own ρ1 ρ2)))
    (step : ∀ d r acc ρ, I (d :: r) acc ρ → ∃ ρ1, t.put (.v d) ρ = some ρ1 ∧ Wp X0 (ct ρ1) fun b ρ2 => if b = true then Wp X0 (ce ρ2) (fun y ρ3 => ∃ v, y = .l v ∧ acc.length < sizeLine ∧ I r (acc ++ [v]) (wipeE own ρ3)) else I r acc (wipeE own ρ2)) : Wp E (cCompL own t ci ct ce ρ) Q := by
  simp only [wpw] at h step ⊢; exact Dd.wp_compL I h step
theorem wq {c : Env → R Fl} {ρ : Env} {Q : Fl → Env → Prop} (h : Wp E (c ρ) Q) : Wq E c ρ Q := .of h.d
theorem wf_mk0 {n m : Nat} {kp : List Nat} {c : Env → R Fl} {cs : List C} {Q : C → Env → Prop} (hl : cs.length = n) (h : Wq X0 c (cs.map some ++ List.replicate m none) fun f ρ => match f with
    | .nx => Q (.v .non) (fins kp ρ 0 cs)
    | .rt r => Q r (fins kp ρ 0 cs)) : Wf X0 (mkF n m kp c cs) Q := by
  simp only [wfw, wqw] at h ⊢; exact Dd.wf_mk0 hl h
theorem wq_cut {a b : Env → R Fl} {ρ : Env} {Q : Fl → Env → Prop} (M : Env → Prop) (h1 : ∀ K : Fl → Env → Prop, (∀ ρ1, M ρ1 → K .nx ρ1) → (∀ c ρ1, Q (.rt c) ρ1 → K (.rt c) ρ1) → Wq E a ρ K) (h2 : ∀ ρ1, M ρ1 → Wq E b ρ1 Q) : Wq E (sSeq a b) ρ Q := by
  simp only [wqw] at h1 h2 ⊢; exact Dd.wq_cut M h1 h2
theorem wq_step {a b : Env → R Fl} {ρ : Env} (ρ1 : Env) {Q : Fl → Env → Prop} (h : a ρ = .ok .nx ρ1) (k : Wq E b ρ1 Q) : Wq E (sSeq a b) ρ Q := by
  simp only [wqw] at k ⊢; exact Dd.wq_step ρ1 h k
theorem wp_eval {α : Type} {c : Env → R α} {ρ ρ1 : Env} {x : α} {Q : α → Env → Prop} (h : c ρ = .ok x ρ1) (k : Q x ρ1) : Wp E (c ρ) Q := .of (Dd.wp_eval h k)
theorem wp_comp_map {own : List Nat} {t : Tg} {ci : Env → R (List D)} {ct : Env → R Bool} {ce : Env → R C} {ρ : Env} {Q : C → Env → Prop} (F : Env) (keep : D → Bool) (g : D → D)
    (h : Wp E (ci ρ) fun ds ρ1 => wipeE own ρ1 = F ∧ ds.length ≤ sizeLine ∧ Q (.l ((ds.filter keep).map g)) (putBack own ρ1 F) ∧
      ∀ d ∈ ds, ∃ ρ2, t.put (.v d) F = some ρ2 ∧ Wp X0 (ct ρ2) fun b ρ3 => b = keep d ∧ (b = true → Wp X0 (ce ρ3) fun y ρ4 => y = .v (g d) ∧ wipeE own ρ4 = F) ∧ (b = false → wipeE own ρ3 = F)) : Wp E (cComp own t ci ct ce ρ) Q := by
  simp only [wpw] at h ⊢; exact Dd.wp_comp_map F keep g h
theorem wp_compL_map {own : List Nat} {t : Tg} {ci : Env → R (List D)} {ct : Env → R Bool} {ce : Env → R C} {ρ : Env} {Q : C → Env → Prop} (F : Env) (keep : D → Bool) (g : D → List D)
    (h : Wp E (ci ρ) fun ds ρ1 => wipeE own ρ1 = F ∧ ds.length ≤ sizeLine ∧ Q (.ll ((ds.filter keep).map g)) (putBack own ρ1 F) ∧
      ∀ d ∈ ds, ∃ ρ2, t.put (.v d) F = some ρ2 ∧ Wp X0 (ct ρ2) fun b ρ3 => b = keep d ∧ (b = true → Wp X0 (ce ρ3) fun y ρ4 => y = .l (g d) ∧ wipeE own ρ4 = F) ∧ (b = false → wipeE own ρ3 = F)) : Wp E (cCompL own t ci ct ce ρ) Q := by
  simp only [wpw] at h ⊢; exact Dd.wp_compL_map F keep g h
/-- a for loop by its invariant, with what follows kept out of sight -/
theorem wq_for {ci : Env → R (List D)} {t : Tg} {cb : Env → R Fl} {ρ : Env} {Q : Fl → Env → Prop} (I : List D → Env → Prop)
    (h : ∀ J : List D → Env → Prop, (∀ r ρ1, I r ρ1 → J r ρ1) → Wp E (ci ρ) J)
    (step : ∀ d r ρ, I (d :: r) ρ → ∃ ρ1, t.put (.v d) ρ = some ρ1 ∧ ∀ K : Fl → Env → Prop, (∀ ρ2, I r ρ2 → K .nx ρ2) → (∀ c ρ2, Q (.rt c) ρ2 → K (.rt c) ρ2) → Wq E cb ρ1 K)
    (fin : ∀ ρ, I [] ρ → Q .nx ρ) : Wq E (sFor ci t cb) ρ Q := by
  refine wq (wp_for I (h I fun _ _ q => q) (fun d r ρ hI => ?_) fin)
  obtain ⟨ρ1, e, hk⟩ := step d r ρ hI
  refine ⟨ρ1, e, ?_⟩
  have := hk (fun f ρ2 => match f with
    | .nx => I r ρ2
    | .rt c => Q (.rt c) ρ2) (fun _ q => q) (fun _ _ q => q)
  exact .of this.d
/-- a while loop: its invariant with a measure -/
theorem wq_while {fuel : Env → Nat} {ct : Env → R Bool} {cb : Env → R Fl} {ρ : Env} {Q : Fl → Env → Prop} (I : Nat → Env → Prop) (n0 : Nat) (h : I n0 ρ) (hf : n0 < fuel ρ)
    (step : ∀ n ρ, I n ρ → ∀ (K : Fl → Env → Prop) (Z : Bool → Env → Prop), (∀ ρ1, Wq E cb ρ1 K → Z true ρ1) → (∀ ρ1, Q .nx ρ1 → Z false ρ1) → (∀ m ρ2, m < n → I m ρ2 → K .nx ρ2) → (∀ c ρ2, Q (.rt c) ρ2 → K (.rt c) ρ2) → Wp E (ct ρ) Z) : Wq E (sWhile fuel ct cb) ρ Q := by
  refine wq (wp_while I n0 h hf fun n ρ hI => ?_)
  refine step n ρ hI (fun f ρ2 => match f with
    | .nx => ∃ m, m < n ∧ I m ρ2
    | .rt c => Q (.rt c) ρ2) _ (fun ρ1 h => ?_) (fun ρ1 h => ?_) (fun m ρ2 h1 h2 => ⟨m, h1, h2⟩) fun _ _ q => q
  · rw [if_pos rfl]; exact .of h.d
  · rw [if_neg Bool.false_ne_true]; exact h
end
end SW

set_option Elab.async false
set_option linter.all false
set_option maxRecDepth 100000
set_option maxHeartbeats 4000000
set_option exponentiation.threshold 500
namespace SW
open PySem PySem.Spec PyProof.Rows L2
/-- the tape: n draws at least are still free -/
def Tape (n : Nat) (c : C) : Prop := ∃ (ns : List Int) (p a : Int), c = .l [.lst (ns.map .int), .int p, .int a] ∧ 0 ≤ p ∧ p + n < 2 ^ 390
theorem Tape.le {n m : Nat} {c : C} (h : Tape n c) (k : m ≤ n) : Tape m c := by
  obtain ⟨ns, p, a, e, h0, h1⟩ := h
  exact ⟨ns, p, a, e, h0, by omega⟩
theorem Tape.own {n : Nat} {c : C} (h : Tape n c) : ∃ ds, c = .l ds := by
  obtain ⟨ns, p, a, e, h0, h1⟩ := h
  exact ⟨_, e⟩
theorem mod_bits {i m : Int} (hm : 0 < m) (h : m < 2 ^ 62) : (i % m).natAbs < 2 ^ 400 := by
  have h1 := Int.emod_nonneg i (by omega : m ≠ 0)
  have h2 := Int.emod_lt_of_pos i hm
  omega
theorem draw_big {n : Nat} {c : C} {m : Int} (h : Tape (n + 1) c) (hm : 1 ≤ m) (hm2 : m < 2 ^ 390) {Q : C → Env → Prop} (k : ∀ x c', 0 ≤ x → x < m → Tape n c' → Q (.v (.int x)) [some c', some (.v (.int m))]) : Wf X0 (f_law_draw [c, .v (.int m)]) Q := by
  obtain ⟨ns, p, a, rfl, h0, h1⟩ := h
  refine wf_mk0 rfl ?_
  unfold c_law_draw
  refine wq ?_
  simp [List.replicate]
  -- the redraw
  refine wq_cut (fun ρ => ∃ p' a' cell, ρ = [some (.l [.lst (ns.map .int), .int p', .int a']), some (.v (.int m)), some (.v (.int 2305843009213693951)), cell, none] ∧ 0 ≤ p' ∧ p' + n < 2 ^ 390) (fun K k1 k2 => ?_) ?_
  · refine wq ?_
    simp [gIx, seqOf, ixN]
    refine ⟨fun _ => ?_, fun _ => ?_⟩
    · refine wq ?_
      simp
      refine wq_cut (fun ρ => ∃ cell, ρ = [some (.l [.lst (ns.map .int), .int p, .int a]), some (.v (.int m)), some (.v (.int 2305843009213693951)), some (.v (.int cell)), none]) (fun K k1 k2 => ?_) ?_
      · refine wq ?_
        simp [gIx, seqOf, ixN, gLen]
        refine ⟨fun hl => wq ?_, fun _ => wq (wp_nil.mpr (k1 _ ⟨_, rfl⟩))⟩
        have hz : (0 : Int) < ns.length := by omega
        obtain ⟨x, _, _, hx, ex⟩ := atI_in (xs := ns.map D.int) (i := p % ns.length) (Int.emod_nonneg _ (by omega)) (by simpa using Int.emod_lt_of_pos p hz)
        obtain ⟨z, _, rfl⟩ := List.mem_map.mp hx
        simp [gIx, seqOf, ixN, gLen, hz, ex]
        exact ⟨hl, k1 _ ⟨_, rfl⟩⟩
      · rintro _ ⟨cell, rfl⟩
        refine wq_cut (fun ρ => ∃ cell, ρ = [some (.l [.lst (ns.map .int), .int p, .int a]), some (.v (.int m)), some (.v (.int 2305843009213693951)), some (.v (.int cell)), none]) (fun K k1 k2 => ?_) ?_
        · refine wq ?_
          simp [gIx, seqOf, ixN, gLen]
          have key : ∀ cell : Int, Wq X0 ((sSeq (sSet (.nm 3) (cOp gMod (cCons (cOp gAdd (cSlot 3 (cCons (cOp gMul (cCons (cC (.int 1000003)) (cCons (cOp gIx (cSlot 0 (cCons (cC (.int 1)) cNil))) cNil))) cNil))) (cSlot 2 cNil))))
  (sSeq (sSet (.nm 3) (cOp gMod (cCons (cOp gAdd (cCons (cOp gAdd (cCons (cOp gMul (cSlot 3 (cSlot 3 cNil))) (cCons (cOp gMul (cCons (cC (.int 1181783497276652981)) (cSlot 3 cNil))) cNil))) (cCons (cC (.int 2049848353892358983)) cNil))) (cSlot 2 cNil))))
  (sSet (.nm 3) (cOp gMod (cCons (cOp gAdd (cCons (cOp gMul (cSlot 3 (cSlot 3 cNil))) (cCons (cC (.int 1442695040888963407)) cNil))) (cSlot 2 cNil))))))) [some (.l [.lst (ns.map .int), .int p, .int a]), some (.v (.int m)), some (.v (.int 2305843009213693951)), some (.v (.int cell)), none] K := by
            intro cell
            refine wq ?_
            simp [gIx, seqOf, ixN, gAdd, gMul]
            refine ⟨bitsOk_of (by decide) (by omega), wq ?_⟩
            have b1 := mod_bits (i := cell + 1000003 * p) (m := 2305843009213693951) (by decide) (by decide)
            simp [gIx, seqOf, ixN, gAdd, gMul, bitsOk_of b1 b1, bitsOk_of (i := 1181783497276652981) (by decide) b1]
            refine wq ?_
            generalize ((cell + 1000003 * p) % 2305843009213693951 * ((cell + 1000003 * p) % 2305843009213693951) + 1181783497276652981 * ((cell + 1000003 * p) % 2305843009213693951) + 2049848353892358983) = y
            have b2 := mod_bits (i := y) (m := 2305843009213693951) (by decide) (by decide)
            simp [gIx, seqOf, ixN, gAdd, gMul, bitsOk_of b2 b2]
            exact k1 _ ⟨_, rfl⟩
          exact ⟨fun _ => key _, fun _ => ⟨fun _ => key _, fun _ => wq (wp_nil.mpr (k1 _ ⟨_, rfl⟩))⟩⟩
        · rintro _ ⟨cell, rfl⟩
          refine wq ?_
          simp [gIx, seqOf, ixN, gAdd, gSetIx]
          refine wq ?_
          simp [gIx, seqOf, ixN, gAdd, gSetIx]
          exact k1 _ ⟨_, _, _, rfl, by omega, by omega⟩
    · refine wq ?_
      simp
      exact k1 _ ⟨_, _, _, rfl, by omega, by omega⟩
  · rintro _ ⟨p', a', cell, rfl, hp, hp'⟩
    refine wq ?_
    simp [gIx, seqOf, ixN, gAdd]
    refine ⟨by omega, wq ?_⟩
    simp [gIx, seqOf, ixN, gAdd, gSetIx]
    refine ⟨divOk_of (by omega) (by omega), wq ?_⟩
    simp [fins]
    exact k _ _ (Int.emod_nonneg _ (by omega)) (Int.emod_lt_of_pos _ (by omega)) ⟨_, _, _, rfl, hp, hp'⟩
theorem draw_ok {n : Nat} {c : C} {m : Int} (h : Tape (n + 1) c) (hm : 1 ≤ m) (hm2 : m < 2 ^ 60) {Q : C → Env → Prop} (k : ∀ x c', 0 ≤ x → x < m → Tape n c' → Q (.v (.int x)) [some c', some (.v (.int m))]) : Wf X0 (f_law_draw [c, .v (.int m)]) Q := draw_big h hm (by omega) k
end SW

set_option Elab.async false
set_option linter.all false
set_option maxRecDepth 100000
set_option maxHeartbeats 4000000
/-! Pl2: plain data. -/
namespace SW
open PySem PySem.Spec PyProof.Rows L2
/-- plain data: at most k items in a row, nested at most n deep -/
inductive Pn (k : Nat) : Nat → D → Prop
  | non {n : Nat} : Pn k n .non
  | bl {n : Nat} (b : Bool) : Pn k n (.bl b)
  | int {n : Nat} (i : Int) : Pn k n (.int i)
  | str {n : Nat} (x : Str) (h : PyData.strOk x = true) : Pn k n (.str x)
  | tup {n : Nat} {xs : List D} (hl : xs.length ≤ k) (h : ∀ x ∈ xs, Pn k n x) : Pn k (n + 1) (.tup xs)
  | lst {n : Nat} {xs : List D} (hl : xs.length ≤ k) (h : ∀ x ∈ xs, Pn k n x) : Pn k (n + 1) (.lst xs)
theorem Pn.le {k k' : Nat} (hk : k ≤ k') : ∀ {n n' : Nat} {d : D}, Pn k n d → n ≤ n' → Pn k' n' d
  | _, _, _, .non, _ => .non
  | _, _, _, .bl b, _ => .bl b
  | _, _, _, .int i, _ => .int i
  | _, _, _, .str x h, _ => .str x h
  | _, n' + 1, _, .tup hl h, hn => .tup (by omega) fun x hx => (h x hx).le hk (by omega)
  | _, n' + 1, _, .lst hl h, hn => .lst (by omega) fun x hx => (h x hx).le hk (by omega)
theorem toPs_of {k n : Nat} : ∀ {xs : List D}, (∀ x ∈ xs, ∃ p, toP x = some p ∧ p.canLay0 = true ∧ p.depth ≤ n) → ∃ ps, toPs xs = some ps ∧ PyData.canLayAll0 ps = true ∧ PyData.depthAll ps ≤ n
  | [], _ => ⟨[], rfl, rfl, by simp [PyData.depthAll]⟩
  | x :: xs, h => by
    obtain ⟨p, e1, h1, h2⟩ := h x (by simp)
    obtain ⟨ps, e2, h3, h4⟩ := toPs_of (k := k) (n := n) (xs := xs) fun y hy => h y (by simp [hy])
    exact ⟨p :: ps, by unfold toPs; rw [e1, e2], by simp [PyData.canLayAll0, h1, h3], by simp [PyData.depthAll]; omega⟩
theorem Pn.toP {k : Nat} : ∀ {n : Nat} {d : D}, Pn k n d → ∃ p, SW.toP d = some p ∧ p.canLay0 = true ∧ p.depth ≤ n
  | _, _, .non => ⟨_, rfl, rfl, by simp [PyData.depth]⟩
  | _, _, .bl b => ⟨_, rfl, rfl, by simp [PyData.depth]⟩
  | _, _, .int i => ⟨_, rfl, rfl, by simp [PyData.depth]⟩
  | _, _, .str x h => ⟨_, rfl, by simpa [PyData.canLay0] using h, by simp [PyData.depth]⟩
  | _, _, .tup (n := n) (xs := xs) hl h => by
    obtain ⟨ps, e, h1, h2⟩ := toPs_of (k := k) (n := n) (xs := xs) fun x hx => (h x hx).toP
    exact ⟨.tuple ps, by unfold SW.toP; rw [e], by simpa [PyData.canLay0] using h1, by simp [PyData.depth]; omega⟩
  | _, _, .lst (n := n) (xs := xs) hl h => by
    obtain ⟨ps, e, h1, h2⟩ := toPs_of (k := k) (n := n) (xs := xs) fun x hx => (h x hx).toP
    exact ⟨.list ps, by unfold SW.toP; rw [e], by simpa [PyData.canLay0] using h1, by simp [PyData.depth]; omega⟩
theorem shaped_of {p : PyData} (h1 : p.canLay0 = true) (h2 : p.depth ≤ 64) : SeqAt.shaped p = true := by
  simp [SeqAt.shaped, h1, h2]
theorem Pns.toP {k n : Nat} {xs : List D} (h : ∀ x ∈ xs, Pn k n x) (hn : n ≤ 60) : ∃ ps, toPs xs = some ps ∧ ps.length = xs.length ∧ SeqAt.shaped (.list ps) = true ∧ SeqAt.shaped (.tuple ps) = true := by
  obtain ⟨ps, e, h1, h2⟩ := toPs_of (k := k) (n := n) (xs := xs) fun x hx => (h x hx).toP
  refine ⟨ps, e, ?_, shaped_of (by simpa [PyData.canLay0] using h1) (by simp [PyData.depth]; omega), shaped_of (by simpa [PyData.canLay0] using h1) (by simp [PyData.depth]; omega)⟩
  clear h h1 h2
  induction xs generalizing ps with
  | nil => cases e; rfl
  | cons x xs ih =>
    unfold toPs at e
    split at e
    · rename_i p ps' _ e2
      cases e
      simp [ih ps' e2]
    · cases e
theorem eqC_of {neg : Bool} {a b : C} {p q : PyData} (ea : toPC a = some p) (eb : toPC b = some q) (ha : SeqAt.shaped p = true) (hb : SeqAt.shaped q = true) : eqC neg a b = some (.v (.bl (neg ^^ PyData.eqv p q))) := by
  unfold eqC
  rw [ea, eb]
  simp [ha, hb]
/-- a list against the empty list -/
theorem gNe_nil {k n : Nat} {xs : List D} (h : ∀ x ∈ xs, Pn k n x) (hn : n ≤ 60) : gNe [.l xs, .l []] = some (.v (.bl (!xs.isEmpty))) := by
  obtain ⟨ps, e, hl, h1, _⟩ := Pns.toP h hn
  have e1 : toPC (.l xs) = some (.list ps) := by simp [toPC, e]
  have e2 : toPC (.l []) = some (.list []) := by simp [toPC, toPs]
  have := eqC_of (neg := true) e1 e2 h1 (by rfl)
  rw [show gNe [C.l xs, C.l []] = eqC true (C.l xs) (C.l []) from rfl, this]
  cases xs with
  | nil =>
    cases ps with
    | nil => simp [PyData.eqv, PyData.eqvAll]
    | cons p ps => simp at hl
  | cons x xs =>
    cases ps with
    | nil => simp at hl
    | cons p ps => simp [PyData.eqv, PyData.eqvAll]
@[simp] theorem gNe_bb {a b : Bool} : gNe [.v (.bl a), .v (.bl b)] = some (.v (.bl (a != b))) := by
  cases a <;> cases b <;> rfl
@[simp] theorem gEq_bb {a b : Bool} : gEq [.v (.bl a), .v (.bl b)] = some (.v (.bl (a == b))) := by
  cases a <;> cases b <;> rfl
/-! ### kinds of data -/
def isTup : D → Bool
  | .tup _ => true
  | _ => false
def isInt : D → Bool
  | .int _ => true
  | .bl _ => true
  | _ => false
def isBl : D → Bool
  | .bl _ => true
  | _ => false
theorem gIsi_tup {k n : Nat} {d : D} (h : Pn k n d) : gIsi [.v d, .v (.ty "tuple")] = some (.v (.bl (isTup d))) := by
  have e1 : kitB "NoneType" "tuple" = some false := by decide +kernel
  have e2 : kitB "bool" "tuple" = some false := by decide +kernel
  have e3 : kitB "int" "tuple" = some false := by decide +kernel
  have e4 : kitB "str" "tuple" = some false := by decide +kernel
  have e5 : kitB "tuple" "tuple" = some true := by decide +kernel
  have e6 : kitB "list" "tuple" = some false := by decide +kernel
  cases h <;> simp only [gIsi, tyOf, e1, e2, e3, e4, e5, e6, isTup]
theorem gIsi_int {k n : Nat} {d : D} (h : Pn k n d) : gIsi [.v d, .v (.ty "int")] = some (.v (.bl (isInt d))) := by
  have e1 : kitB "NoneType" "int" = some false := by decide +kernel
  have e2 : kitB "bool" "int" = some true := by decide +kernel
  have e3 : kitB "int" "int" = some true := by decide +kernel
  have e4 : kitB "str" "int" = some false := by decide +kernel
  have e5 : kitB "tuple" "int" = some false := by decide +kernel
  have e6 : kitB "list" "int" = some false := by decide +kernel
  cases h <;> simp only [gIsi, tyOf, e1, e2, e3, e4, e5, e6, isInt]
theorem gIsi_bool {k n : Nat} {d : D} (h : Pn k n d) : gIsi [.v d, .v (.ty "bool")] = some (.v (.bl (isBl d))) := by
  have e1 : kitB "NoneType" "bool" = some false := by decide +kernel
  have e2 : kitB "bool" "bool" = some true := by decide +kernel
  have e3 : kitB "int" "bool" = some false := by decide +kernel
  have e4 : kitB "str" "bool" = some false := by decide +kernel
  have e5 : kitB "tuple" "bool" = some false := by decide +kernel
  have e6 : kitB "list" "bool" = some false := by decide +kernel
  cases h <;> simp only [gIsi, tyOf, e1, e2, e3, e4, e5, e6, isBl]
end SW
namespace SW
open PySem PySem.Spec PyProof.Rows L2
mutual
def pnB (k : Nat) : Nat → D → Bool
  | _, .non => true
  | _, .bl _ => true
  | _, .int _ => true
  | _, .str x => PyData.strOk x
  | n + 1, .tup xs => decide (xs.length ≤ k) && pnsB k n xs
  | n + 1, .lst xs => decide (xs.length ≤ k) && pnsB k n xs
  | _, _ => false
def pnsB (k : Nat) : Nat → List D → Bool
  | _, [] => true
  | n, x :: xs => pnB k n x && pnsB k n xs
end
mutual
theorem pn_of {k : Nat} : ∀ (n : Nat) (d : D), pnB k n d = true → Pn k n d
  | _, .non, _ => .non
  | _, .bl _, _ => .bl _
  | _, .int _, _ => .int _
  | _, .str x, h => .str x (by unfold pnB at h; exact h)
  | n + 1, .tup xs, h => by
    unfold pnB at h
    rw [Bool.and_eq_true, decide_eq_true_eq] at h
    exact .tup h.1 (pns_of n xs h.2)
  | n + 1, .lst xs, h => by
    unfold pnB at h
    rw [Bool.and_eq_true, decide_eq_true_eq] at h
    exact .lst h.1 (pns_of n xs h.2)
  | 0, .tup xs, h => by unfold pnB at h; cases h
  | 0, .lst xs, h => by unfold pnB at h; cases h
  | _, .ty _, h => by unfold pnB at h; cases h
  | _, .cls _, h => by unfold pnB at h; cases h
  | _, .exc _, h => by unfold pnB at h; cases h
theorem pns_of {k : Nat} : ∀ (n : Nat) (ds : List D), pnsB k n ds = true → ∀ x ∈ ds, Pn k n x
  | _, [], _ => fun x hx => by cases hx
  | n, d :: ds, h => by
    unfold pnsB at h
    rw [Bool.and_eq_true] at h
    intro x hx
    rcases List.mem_cons.mp hx with e | hx
    · rw [e]; exact pn_of n d h.1
    · exact pns_of n ds h.2 x hx
end
theorem fins_v {kp : List Nat} {ρ : Env} {i : Nat} {d : D} {cs : List C} : fins kp ρ i (.v d :: cs) = some (.v d) :: fins kp ρ (i + 1) cs := by
  rw [fins]
theorem fins_nil {kp : List Nat} {ρ : Env} {i : Nat} : fins kp ρ i [] = [] := by
  rw [fins]
theorem fins_own {kp : List Nat} {ρ : Env} {i : Nat} {c : C} {cs : List C} (h : ∃ ds, c = .l ds) : fins kp ρ i (c :: cs) = (if i ∈ kp then (ρ[i]?).getD none else none) :: fins kp ρ (i + 1) cs := by
  obtain ⟨ds, rfl⟩ := h
  rw [fins]
  exact fun d e => by cases e
end SW
namespace SW
open PySem PySem.Spec PyProof.Rows L2
section
variable {α : Type} {xs : List α}
theorem sIx_in {n d : Nat} {i : Int} (h0 : 0 ≤ i) (h1 : i ≤ n) : HT.sIx n d (some i) = i.toNat := by
  unfold HT.sIx
  dsimp only
  rw [if_neg (by omega)]
  omega
theorem cutD_take {i : Int} (h0 : 0 ≤ i) (h1 : i ≤ xs.length) : cutD xs none (some i) = xs.take i.toNat := by
  unfold cutD
  rw [sIx_in h0 h1]
  simp [HT.sIx]
theorem cutD_drop {i : Int} (h0 : 0 ≤ i) (h1 : i ≤ xs.length) : cutD xs (some i) none = xs.drop i.toNat := by
  unfold cutD
  rw [sIx_in h0 h1]
  simp [HT.sIx]
  exact List.take_of_length_le (by simp)
theorem cutD_mid {i j : Int} (h0 : 0 ≤ i) (h1 : i ≤ j) (h2 : j ≤ xs.length) : cutD xs (some i) (some j) = (xs.drop i.toNat).take (j.toNat - i.toNat) := by
  unfold cutD
  rw [sIx_in h0 (by omega), sIx_in (by omega) h2]
end
end SW

set_option Elab.async false
set_option linter.all false
set_option maxRecDepth 100000
set_option maxHeartbeats 4000000
set_option autoImplicit false
/-! Pl6: the plain side of exceptions, of calls that may raise, of reading methods. -/
namespace SW
open PySem PySem.Spec PyProof.Rows L2
section
variable {E : String → Env → Prop} {α β : Type}
@[simp] theorem wp_exn {n : String} {ρ : Env} {Q : α → Env → Prop} : Wp E (.exn n ρ : R α) Q ↔ E n ρ := by
  rw [wpw]; exact Iff.rfl
@[simp] theorem wp_raise {n : String} {ρ : Env} {Q : Fl → Env → Prop} : Wp E (sRaise n ρ) Q ↔ E n ρ := by
  unfold sRaise; exact wp_exn
theorem Wf.up {r : FR} {Q : C → Env → Prop} (h : Wf X0 r Q) : Wf E r Q := h.monoX (fun _ _ q => q) fun _ _ z => z.elim
theorem Wp.up {r : R α} {Q : α → Env → Prop} (h : Wp X0 r Q) : Wp E r Q := by
  rw [wpw] at h ⊢
  cases r with
  | ok a ρ => exact h
  | exn n ρ => exact h.elim
  | stuck => exact h
/-- a def that may raise -/
theorem wf_mkE {n m : Nat} {kp : List Nat} {c : Env → R Fl} {cs : List C} {Q : C → Env → Prop} (hl : cs.length = n) (h : ∀ E' : String → Env → Prop, (∀ x ρ, E x (fins kp ρ 0 cs) → E' x ρ) → Wq E' c (cs.map some ++ List.replicate m none) fun f ρ => match f with
    | .nx => Q (.v .non) (fins kp ρ 0 cs)
    | .rt r => Q r (fins kp ρ 0 cs)) : Wf E (mkF n m kp c cs) Q := by
  rw [wfw, Dd.wf_mk]
  have := h (fun x ρ => E x (fins kp ρ 0 cs)) fun _ _ q => q
  rw [wqw, Dd.wq_iff] at this
  exact ⟨hl, this⟩
theorem wp_callE {f : FSem} {ca : Env → R (List AK)} {ρ : Env} {Q : C → Env → Prop} : Wp E (cCall f ca ρ) Q ↔ Wp E (ca ρ) fun as ρ1 => isS (conts ρ1 as) fun cs => dist as = true ∧ Wf (fun n fs => E n (back fs 0 as ρ1)) (f cs) fun r fs => Q r (back fs 0 as ρ1) := by
  simp only [wpw, wfw, isS_iff]; exact Dd.wp_call
/-- a call of what does not raise -/
theorem wp_callU {f : FSem} {ca : Env → R (List AK)} {ρ : Env} {Q : C → Env → Prop} (h : Wp E (ca ρ) fun as ρ1 => isS (conts ρ1 as) fun cs => dist as = true ∧ Wf X0 (f cs) fun r fs => Q r (back fs 0 as ρ1)) : Wp E (cCall f ca ρ) Q := by
  refine wp_callE.mpr (h.mono fun as ρ1 q => q.mono fun cs q => ⟨q.1, q.2.up⟩)
/-- try: the clause takes what caught says -/
theorem wp_try {caught : String → Option Bool} {i : Nat} {cb cs : Env → R Fl} {ρ : Env} {Q : Fl → Env → Prop} : Wp E (sTry caught i cb cs ρ) Q ↔ Wp (fun n ρ1 => match caught n with
    | some true => i < ρ1.length ∧ Wp X0 (cs (ρ1.set i (some (.v (.exc n))))) (fun f ρ2 => Q f (ρ2.set i none))
    | some false => E n ρ1
    | none => False) (cb ρ) Q := by
  simp only [wpw]
  unfold sTry
  cases cb ρ with
  | ok f ρ1 => exact Iff.rfl
  | stuck => exact Iff.rfl
  | exn n ρ1 =>
    show Dd.Wp E (match caught n with
      | some true => _
      | some false => _
      | none => _) Q ↔ (match caught n with
      | some true => _
      | some false => _
      | none => _)
    cases caught n with
    | none => exact Iff.rfl
    | some b =>
      cases b with
      | false => exact Iff.rfl
      | true =>
        dsimp only
        by_cases h : i < ρ1.length
        · rw [if_pos h]
          cases cs (ρ1.set i (some (.v (.exc n)))) with
          | ok f ρ2 => cases f <;> exact ⟨fun q => ⟨h, q⟩, fun q => q.2⟩
          | exn m ρ2 => exact ⟨fun q => q.elim, fun q => q.2.elim⟩
          | stuck => exact ⟨fun q => q.elim, fun q => q.2⟩
        · rw [if_neg h]
          exact ⟨fun q => q.elim, fun q => (h q.1).elim⟩
@[simp] theorem wpi_rm {T : String} {g : List C → Option C} {co : Env → R C} {cl : Env → R (List C)} {ρ : Env} {Q : C → Env → Prop} : Wp E (cRM T g co cl ρ) Q ↔ Wp E (co ρ) fun c ρ1 => isV c fun d => tyM T d = true ∧ Wp E (cl ρ1) fun cs ρ2 => isS (g (.v d :: cs)) fun r => Q r ρ2 := by
  simp only [wpw]
  unfold cRM
  cases co ρ with
  | stuck => exact Iff.rfl
  | exn n ρ1 => exact Iff.rfl
  | ok c ρ1 =>
    rw [R.bind_ok]
    show _ ↔ isV c _
    cases c with
    | v d =>
      dsimp only
      by_cases ht : tyM T d = true
      · rw [if_pos ht]
        show Dd.Wp E ((cl ρ1).bind _) Q ↔ tyM T d = true ∧ _
        cases cl ρ1 with
        | stuck => exact ⟨fun q => q.elim, fun q => q.2⟩
        | exn n ρ2 => exact ⟨fun q => ⟨ht, q⟩, fun q => q.2⟩
        | ok cs ρ2 =>
          rw [R.bind_ok]
          show Dd.Wp E (match g (.v d :: cs) with
            | some r => _
            | none => _) Q ↔ tyM T d = true ∧ isS (g (.v d :: cs)) _
          cases g (.v d :: cs) with
          | none => exact ⟨fun q => q.elim, fun q => q.2⟩
          | some r => exact ⟨fun q => ⟨ht, q⟩, fun q => q.2⟩
      · rw [if_neg ht]
        exact ⟨fun q => q.elim, fun q => (ht q.1).elim⟩
    | l _ => exact Iff.rfl
    | ll _ => exact Iff.rfl
    | dc _ => exact Iff.rfl
end
end SW

set_option Elab.async false
set_option linter.all false
set_option maxRecDepth 100000
set_option maxHeartbeats 4000000
set_option autoImplicit false
/-! Pl7: equality of data without truths. -/
namespace SW
open PySem PySem.Spec PyProof.Rows L2
noncomputable instance decD : DecidableEq D := fun _ _ => Classical.propDecidable _
mutual
/-- no truths within -/
def cl : D → Bool
  | .non => true
  | .int _ => true
  | .str _ => true
  | .tup xs => cls xs
  | .lst xs => cls xs
  | _ => false
def cls : List D → Bool
  | [] => true
  | x :: xs => cl x && cls xs
end
mutual
theorem eqv_cl : ∀ (a b : D) (p q : PyData), cl a = true → cl b = true → toP a = some p → toP b = some q → (PyData.eqv p q = true ↔ a = b)
  | a, b, p, q, ha, hb, ea, eb => by
    cases a with
    | non =>
      cases ea
      cases b with
      | non => cases eb; simp [PyData.eqv]
      | int j => cases eb; simp [PyData.eqv]
      | str y => cases eb; simp [PyData.eqv]
      | tup ys =>
        unfold toP at eb
        split at eb
        · cases eb; simp [PyData.eqv]
        · cases eb
      | lst ys =>
        unfold toP at eb
        split at eb
        · cases eb; simp [PyData.eqv]
        · cases eb
      | _ => cases hb
    | int i =>
      cases ea
      cases b with
      | non => cases eb; simp [PyData.eqv]
      | int j => cases eb; simp [PyData.eqv]
      | str y => cases eb; simp [PyData.eqv]
      | tup ys =>
        unfold toP at eb
        split at eb
        · cases eb; simp [PyData.eqv]
        · cases eb
      | lst ys =>
        unfold toP at eb
        split at eb
        · cases eb; simp [PyData.eqv]
        · cases eb
      | _ => cases hb
    | str x =>
      cases ea
      cases b with
      | non => cases eb; simp [PyData.eqv]
      | int j => cases eb; simp [PyData.eqv]
      | str y => cases eb; simp [PyData.eqv]
      | tup ys =>
        unfold toP at eb
        split at eb
        · cases eb; simp [PyData.eqv]
        · cases eb
      | lst ys =>
        unfold toP at eb
        split at eb
        · cases eb; simp [PyData.eqv]
        · cases eb
      | _ => cases hb
    | tup xs =>
      unfold toP at ea
      split at ea
      · rename_i ps hp
        cases ea
        cases b with
        | non => cases eb; simp [PyData.eqv]
        | int j => cases eb; simp [PyData.eqv]
        | str y => cases eb; simp [PyData.eqv]
        | tup ys =>
          unfold toP at eb
          split at eb
          · rename_i qs hq
            cases eb
            unfold cl at ha hb
            have := eqvs_cl xs ys ps qs ha hb hp hq
            simp [PyData.eqv, this]
          · cases eb
        | lst ys =>
          unfold toP at eb
          split at eb
          · cases eb; simp [PyData.eqv]
          · cases eb
        | _ => cases hb
      · cases ea
    | lst xs =>
      unfold toP at ea
      split at ea
      · rename_i ps hp
        cases ea
        cases b with
        | non => cases eb; simp [PyData.eqv]
        | int j => cases eb; simp [PyData.eqv]
        | str y => cases eb; simp [PyData.eqv]
        | lst ys =>
          unfold toP at eb
          split at eb
          · rename_i qs hq
            cases eb
            unfold cl at ha hb
            have := eqvs_cl xs ys ps qs ha hb hp hq
            simp [PyData.eqv, this]
          · cases eb
        | tup ys =>
          unfold toP at eb
          split at eb
          · cases eb; simp [PyData.eqv]
          · cases eb
        | _ => cases hb
      · cases ea
    | _ => cases ha
theorem eqvs_cl : ∀ (xs ys : List D) (ps qs : List PyData), cls xs = true → cls ys = true → toPs xs = some ps → toPs ys = some qs → (PyData.eqvAll ps qs = true ↔ xs = ys)
  | [], ys, ps, qs, ha, hb, ea, eb => by
    cases ea
    cases ys with
    | nil => cases eb; simp [PyData.eqvAll]
    | cons y ys =>
      unfold toPs at eb
      split at eb
      · cases eb; simp [PyData.eqvAll]
      · cases eb
  | x :: xs, ys, ps, qs, ha, hb, ea, eb => by
    unfold toPs at ea
    split at ea
    · rename_i p ps' hp hps
      cases ea
      cases ys with
      | nil => cases eb; simp [PyData.eqvAll]
      | cons y ys =>
        unfold toPs at eb
        split at eb
        · rename_i q qs' hq hqs
          cases eb
          unfold cls at ha hb
          rw [Bool.and_eq_true] at ha hb
          have h1 := eqv_cl x y p q ha.1 hb.1 hp hq
          have h2 := eqvs_cl xs ys ps' qs' ha.2 hb.2 hps hqs
          simp [PyData.eqvAll, h1, h2]
        · cases eb
    · cases ea
end
/-- what may be compared -/
structure Cq (c : C) (d : D) : Prop where
  fz : c.fz = some d
  cl : cl d = true
  pn : ∃ k n, Pn k n d ∧ n ≤ 60
theorem toPss_eq : ∀ (dss : List (List D)), toPss dss = toPs (dss.map D.lst)
  | [] => rfl
  | ds :: r => by
    have e : toP (.lst ds) = (toPs ds).map .list := by
      rw [toP]
      cases toPs ds <;> rfl
    rw [List.map_cons, toPss, toPs, e, toPss_eq r]
    cases toPs ds <;> cases toPs (r.map D.lst) <;> rfl
theorem toPC_fz {c : C} {d : D} (h : c.fz = some d) : toPC c = toP d := by
  cases c with
  | v x => cases h; rfl
  | l xs =>
    cases h
    rw [toPC, toP]
    cases toPs xs <;> rfl
  | ll xss =>
    cases h
    rw [toPC, toP, toPss_eq]
    cases toPs (xss.map D.lst) <;> rfl
  | dc _ => cases h
theorem eqC_cq {neg : Bool} {c1 c2 : C} {a b : D} (ha : Cq c1 a) (hb : Cq c2 b) : eqC neg c1 c2 = some (.v (.bl (neg ^^ decide (a = b)))) := by
  obtain ⟨k, n, pa, hn⟩ := ha.pn
  obtain ⟨k', n', pb, hn'⟩ := hb.pn
  obtain ⟨p, ep, lp, dp⟩ := pa.toP
  obtain ⟨q, eq, lq, dq⟩ := pb.toP
  rw [eqC_of (p := p) (q := q) (by rw [toPC_fz ha.fz, ep]) (by rw [toPC_fz hb.fz, eq]) (shaped_of lp (by omega)) (shaped_of lq (by omega))]
  have := eqv_cl a b p q ha.cl hb.cl ep eq
  have : PyData.eqv p q = decide (a = b) := by
    rw [Bool.eq_iff_iff, this, decide_eq_true_eq]
  rw [this]
theorem gEq_cq {c1 c2 : C} {a b : D} (ha : Cq c1 a) (hb : Cq c2 b) : gEq [c1, c2] = some (.v (.bl (decide (a = b)))) := by
  rw [show gEq [c1, c2] = eqC false c1 c2 from rfl, eqC_cq ha hb]; simp
theorem gNe_cq {c1 c2 : C} {a b : D} (ha : Cq c1 a) (hb : Cq c2 b) : gNe [c1, c2] = some (.v (.bl (!decide (a = b)))) := by
  rw [show gNe [c1, c2] = eqC true c1 c2 from rfl, eqC_cq ha hb]; simp
theorem cls_all : ∀ {xs : List D}, cls xs = true ↔ ∀ x ∈ xs, cl x = true
  | [] => by simp [cls]
  | x :: xs => by simp [cls, cls_all (xs := xs)]
theorem Cq.v {d : D} {k n : Nat} (h : Pn k n d) (hn : n ≤ 60) (hc : SW.cl d = true) : Cq (.v d) d := ⟨rfl, hc, k, n, h, hn⟩
theorem Cq.l {xs : List D} {k n : Nat} (hl : xs.length ≤ k) (h : ∀ x ∈ xs, Pn k n x) (hn : n < 60) (hc : ∀ x ∈ xs, SW.cl x = true) : Cq (.l xs) (.lst xs) := ⟨rfl, by unfold SW.cl; exact cls_all.mpr hc, k, n + 1, .lst hl h, by omega⟩
end SW
namespace SW
theorem filter_no {α : Type} (l : List α) : l.filter (fun _ => false) = [] := by simp
theorem filter_yes {α : Type} (l : List α) : l.filter (fun _ => true) = l := List.filter_eq_self.mpr (by simp)
theorem size_ge : (100000 : Nat) ≤ PySem.sizeLine := by decide
end SW
namespace SW
open PySem PySem.Spec PyProof.Rows L2
theorem cutD_takeAny {α : Type} {xs : List α} {i : Int} (h0 : 0 ≤ i) : cutD xs none (some i) = xs.take i.toNat := by
  unfold cutD HT.sIx
  simp [h0]
  rw [if_neg (by omega)]

  omega
section
variable {E : String → Env → Prop}
theorem wpi_slS {g : C → Option Int → Option Int → Option C} {i : Nat} {cl ch : Env → R (Option Int)} {ρ : Env} {Q : C → Env → Prop} (h : (isSS ρ[i]? fun _ => True) ∧ Wp E (cl ρ) fun lo ρ2 => Wp E (ch ρ2) fun hi ρ3 => isSS ρ3[i]? fun x => isS (g x lo hi) fun y => Q y ρ3) : Wp E (cSlS g i cl ch ρ) Q := by
  obtain ⟨h1, h2⟩ := h
  refine wp_slS ?_ (h2.mono fun lo ρ2 h => h.mono fun hi ρ3 h => ?_)
  · obtain ⟨c, e, _⟩ := isSS_iff.mp h1
    exact ⟨c, e⟩
  · obtain ⟨x, e, h⟩ := isSS_iff.mp h
    obtain ⟨y, e2, h⟩ := isS_iff.mp h
    exact ⟨x, e, y, e2, h⟩
end
end SW

set_option Elab.async false
set_option linter.all false
set_option maxRecDepth 100000
set_option maxHeartbeats 4000000
set_option autoImplicit false
/-! Pl3: square tables of numbers. -/
namespace SW
open PySem PySem.Spec PyProof.Rows L2
abbrev Mat := List (List Int)
def rowD (r : List Int) : D := .tup (r.map .int)
def webD (M : Mat) : D := .tup (M.map rowD)
def llM (M : Mat) : List (List D) := M.map fun r => r.map .int
structure Sq (n : Nat) (M : Mat) : Prop where
  len : M.length = n
  row : ∀ r ∈ M, r.length = n
def at2 (M : Mat) (i j : Nat) : Int := (((M[i]?).getD [])[j]?).getD 0
def set2 (M : Mat) (i j : Nat) (x : Int) : Mat := M.set i (((M[i]?).getD []).set j x)
theorem Sq.get {n : Nat} {M : Mat} (h : Sq n M) {i : Nat} (hi : i < n) : ∃ r, M[i]? = some r ∧ r.length = n := by
  have := h.len
  exact ⟨M[i], List.getElem?_eq_getElem (by omega), h.row _ (List.getElem_mem _)⟩
theorem Sq.set2 {n : Nat} {M : Mat} (h : Sq n M) (i j : Nat) (x : Int) : Sq n (set2 M i j x) := by
  by_cases hi : i < n
  · refine ⟨by simp [SW.set2, h.len], fun r hr => ?_⟩
    obtain ⟨q, e, hq⟩ := h.get hi
    rcases List.mem_or_eq_of_mem_set hr with hr | rfl
    · exact h.row r hr
    · simp [e, hq]
  · have : SW.set2 M i j x = M := by
      unfold SW.set2
      exact List.set_eq_of_length_le (by have := h.len; omega)
    rw [this]; exact h
theorem at2_set2 {n : Nat} {M : Mat} (h : Sq n M) {i j : Nat} (hi : i < n) (hj : j < n) (x : Int) (k l : Nat) : at2 (set2 M i j x) k l = if k = i ∧ l = j then x else at2 M k l := by
  obtain ⟨r, e, hr⟩ := h.get hi
  have hl := h.len
  unfold at2 set2
  rw [e]
  by_cases hk : k = i
  · subst hk
    rw [List.getElem?_set_self (by omega), e]
    simp only [Option.getD_some, true_and]
    by_cases hm : l = j
    · subst hm
      rw [List.getElem?_set_self (by omega), if_pos rfl]; rfl
    · rw [List.getElem?_set_ne (Ne.symm hm), if_neg hm]
  · rw [List.getElem?_set_ne (Ne.symm hk), if_neg (fun q => hk q.1)]
theorem ext2 {n : Nat} {M N : Mat} (hM : Sq n M) (hN : Sq n N) (h : ∀ i < n, ∀ j < n, at2 M i j = at2 N i j) : M = N := by
  apply List.ext_getElem?
  intro i
  by_cases hi : i < n
  · obtain ⟨r, e, hr⟩ := hM.get hi
    obtain ⟨s, e2, hs⟩ := hN.get hi
    rw [e, e2]
    congr 1
    apply List.ext_getElem?
    intro j
    by_cases hj : j < n
    · have := h i hi j hj
      unfold at2 at this
      rw [e, e2] at this
      simp only [Option.getD_some] at this
      rw [List.getElem?_eq_getElem (by omega), List.getElem?_eq_getElem (by omega)] at this ⊢
      simpa using this
    · rw [List.getElem?_eq_none (by omega), List.getElem?_eq_none (by omega)]
  · have := hM.len; have := hN.len
    rw [List.getElem?_eq_none (by omega), List.getElem?_eq_none (by omega)]
/-! ### as contents -/
theorem gGet2_of {n : Nat} {M : Mat} (h : Sq n M) {i j : Int} (hi : 0 ≤ i) (hi2 : i < n) (hj : 0 ≤ j) (hj2 : j < n) : gGet2 (.ll (llM M)) (.int i) (.int j) = some (.int (at2 M i.toNat j.toNat)) := by
  obtain ⟨r, e, hr⟩ := h.get (i := i.toNat) (by omega)
  have hl : (llM M).length = n := by simp [llM, h.len]
  have hg : (llM M)[i.toNat]? = some (r.map .int) := by simp [llM, e]
  have hjr : (r.map D.int).length = n := by simp [hr]
  unfold gGet2
  simp only [hl, ixN_in hi hi2, hg, atI, hjr, ixN_in hj hj2]
  simp only [Option.bind_some, List.getElem?_map]
  unfold at2
  rw [e]
  simp only [Option.getD_some]
  rw [List.getElem?_eq_getElem (by omega)]
  rfl
theorem gSet2_of {n : Nat} {M : Mat} (h : Sq n M) {i j x : Int} (hi : 0 ≤ i) (hi2 : i < n) (hj : 0 ≤ j) (hj2 : j < n) : gSet2 (.ll (llM M)) (.int i) (.int j) (.int x) = some (.ll (llM (set2 M i.toNat j.toNat x))) := by
  obtain ⟨r, e, hr⟩ := h.get (i := i.toNat) (by omega)
  have hl : (llM M).length = n := by simp [llM, h.len]
  have hg : (llM M)[i.toNat]? = some (r.map .int) := by simp [llM, e]
  have hjr : (r.map D.int).length = n := by simp [hr]
  unfold gSet2
  simp only [hl, ixN_in hi hi2, hg, hjr, ixN_in hj hj2]
  simp only [set2, e, Option.getD_some, llM, List.map_set]
/-- an entry of a web, by two steps -/
theorem atI_webD {n : Nat} {M : Mat} (h : Sq n M) {i : Int} (hi : 0 ≤ i) (hi2 : i < n) : ∃ r, M[i.toNat]? = some r ∧ r.length = n ∧ atI (M.map rowD) i = some (rowD r) := by
  obtain ⟨r, e, hr⟩ := h.get (i := i.toNat) (by omega)
  refine ⟨r, e, hr, ?_⟩
  have hl : (M.map rowD).length = n := by simp [h.len]
  simp only [atI, hl, ixN_in hi hi2]
  simp [e]
theorem atI_row {n : Nat} {M : Mat} {i : Nat} {r : List Int} (e : M[i]? = some r) (hr : r.length = n) {j : Int} (hj : 0 ≤ j) (hj2 : j < n) : atI (r.map D.int) j = some (.int (at2 M i j.toNat)) := by
  have hjr : (r.map D.int).length = n := by simp [hr]
  simp only [atI, hjr, ixN_in hj hj2]
  simp only [Option.bind_some, List.getElem?_map]
  unfold at2
  rw [e]
  simp only [Option.getD_some]
  rw [List.getElem?_eq_getElem (by omega)]
  rfl
/-! ### a web's first table -/
def zeros (n : Nat) : Mat := List.replicate n (List.replicate n 0)
theorem zeros_sq (n : Nat) : Sq n (zeros n) := ⟨by simp [zeros], fun r hr => by simp [zeros] at hr; rw [hr.2]; simp⟩
theorem zeros_at (n i j : Nat) : at2 (zeros n) i j = 0 := by
  unfold at2 zeros
  rw [List.getElem?_replicate]
  split
  · rw [Option.getD_some, List.getElem?_replicate]; split <;> rfl
  · rfl
/-- a tie: from, to, how often -/
structure Tie where
  i : Nat
  j : Nat
  o : Int
def tieD (t : Tie) : D := .tup [.int t.i, .int t.j, .int t.o]
def tieStep (M : Mat) (t : Tie) : Mat := set2 (set2 M t.i t.j (at2 M t.i t.j + t.o)) t.j t.i (at2 (set2 M t.i t.j (at2 M t.i t.j + t.o)) t.j t.i - t.o)
def tab (n : Nat) (ts : List Tie) : Mat := ts.foldl tieStep (zeros n)
theorem tieStep_sq {n : Nat} {M : Mat} (h : Sq n M) (t : Tie) : Sq n (tieStep M t) := (h.set2 _ _ _).set2 _ _ _
theorem tab_sq (n : Nat) (ts : List Tie) : Sq n (tab n ts) := by
  unfold tab
  have : ∀ (ts : List Tie) (M : Mat), Sq n M → Sq n (ts.foldl tieStep M) := by
    intro ts
    induction ts with
    | nil => exact fun M h => h
    | cons t ts ih => exact fun M h => ih _ (tieStep_sq h t)
  exact this ts _ (zeros_sq n)
/-- the same both ways, turned -/
def Skew (M : Mat) : Prop := ∀ i j, at2 M i j = - at2 M j i
theorem tieStep_at {n : Nat} {M : Mat} (h : Sq n M) (t : Tie) (hi : t.i < n) (hj : t.j < n) (hij : t.i ≠ t.j) (k l : Nat) : at2 (tieStep M t) k l = at2 M k l + (if k = t.i ∧ l = t.j then t.o else 0) - (if k = t.j ∧ l = t.i then t.o else 0) := by
  unfold tieStep
  rw [at2_set2 (h.set2 _ _ _) hj hi, at2_set2 h hi hj, at2_set2 h hi hj]
  by_cases h1 : k = t.j ∧ l = t.i
  · rw [if_pos h1, if_pos h1, if_neg (fun q => hij (q.1.symm)), if_neg (fun q => hij (q.1.symm.trans h1.1)), h1.1, h1.2]; omega
  · rw [if_neg h1, if_neg h1]
    by_cases h2 : k = t.i ∧ l = t.j
    · rw [if_pos h2, if_pos h2, h2.1, h2.2]; omega
    · rw [if_neg h2, if_neg h2]; omega
theorem tieStep_skew {n : Nat} {M : Mat} (h : Sq n M) (s : Skew M) (t : Tie) (hi : t.i < n) (hj : t.j < n) (hij : t.i ≠ t.j) : Skew (tieStep M t) := by
  intro k l
  rw [tieStep_at h t hi hj hij, tieStep_at h t hi hj hij, s k l]
  by_cases h1 : k = t.i ∧ l = t.j
  · by_cases h2 : k = t.j ∧ l = t.i
    · exact absurd (h1.1.symm.trans h2.1) hij
    · rw [if_pos h1, if_neg h2, if_neg (fun q => h2 ⟨q.2, q.1⟩), if_pos ⟨h1.2, h1.1⟩]; omega
  · by_cases h2 : k = t.j ∧ l = t.i
    · rw [if_neg h1, if_pos h2, if_pos ⟨h2.2, h2.1⟩, if_neg (fun q => h1 ⟨q.2, q.1⟩)]; omega
    · rw [if_neg h1, if_neg h2, if_neg (fun q => h2 ⟨q.2, q.1⟩), if_neg (fun q => h1 ⟨q.2, q.1⟩)]; omega
end SW
namespace SW
open PySem PySem.Spec PyProof.Rows L2
@[simp] theorem rangeD_length {lo : Int} {n : Nat} : (rangeD lo n).length = n := by simp [rangeD]
theorem mem_rangeD {lo : Int} {n : Nat} {d : D} : d ∈ rangeD lo n ↔ ∃ i : Nat, i < n ∧ d = .int (lo + i) := by
  simp [rangeD, eq_comm]
theorem rangeD_zero {lo : Int} : rangeD lo 0 = [] := rfl
theorem rangeD_succ {lo : Int} {n : Nat} : rangeD lo (n + 1) = .int lo :: rangeD (lo + 1) n := by
  unfold rangeD
  rw [List.range_succ_eq_map]
  simp only [List.map_cons, List.map_map, List.cons.injEq]
  refine ⟨by simp, List.map_congr_left fun i _ => ?_⟩
  simp only [Function.comp_apply, D.int.injEq]
  omega
theorem rangeD_const {lo : Int} {n : Nat} {α : Type} (x : α) : (rangeD lo n).map (fun _ => x) = List.replicate n x := by
  simp only [rangeD, List.map_map]
  show (List.range n).map (fun _ => x) = _
  simp [List.map_const']
end SW
namespace SW
open PySem PySem.Spec PyProof.Rows L2
/-- a row of small numbers -/
def natsD (l : List Nat) : List D := l.map fun (i : Nat) => D.int i
theorem natsD_range (n : Nat) : natsD (List.range n) = rangeD 0 n := by
  unfold natsD rangeD
  refine List.map_congr_left fun i _ => ?_
  simp
theorem natsD_pn {k n : Nat} (l : List Nat) : ∀ x ∈ natsD l, Pn k n x := fun x hx => by
  obtain ⟨i, _, rfl⟩ := List.mem_map.mp hx
  exact .int _
def numM (M : Mat) (o : List Nat) : Mat := o.map fun i => o.map fun j => at2 M i j
theorem numM_sq {M : Mat} {o : List Nat} {n : Nat} (h : o.length = n) : Sq n (numM M o) := ⟨by simp [numM, h], fun r hr => by
  obtain ⟨i, _, rfl⟩ := List.mem_map.mp hr
  simp [h]⟩
end SW

set_option Elab.async false
set_option linter.all false
set_option maxRecDepth 100000
set_option maxHeartbeats 4000000
set_option autoImplicit false
/-! Pl5: webs as tables: made of ties, renumbered, turned. -/
namespace SW
open PySem PySem.Spec PyProof.Rows L2
def mk2 (n : Nat) (f : Nat → Nat → Int) : Mat := (List.range n).map fun i => (List.range n).map fun j => f i j
theorem mk2_sq (n : Nat) (f : Nat → Nat → Int) : Sq n (mk2 n f) := ⟨by simp [mk2], fun r hr => by
  obtain ⟨i, _, rfl⟩ := List.mem_map.mp hr
  simp⟩
theorem mk2_at {n : Nat} {f : Nat → Nat → Int} {i j : Nat} (hi : i < n) (hj : j < n) : at2 (mk2 n f) i j = f i j := by
  unfold at2 mk2
  simp [hi, hj]
theorem at2_out {n : Nat} {M : Mat} (h : Sq n M) {i j : Nat} (o : ¬ (i < n ∧ j < n)) : at2 M i j = 0 := by
  unfold at2
  by_cases hi : i < n
  · obtain ⟨r, e, hr⟩ := h.get hi
    rw [e]
    show (r[j]?).getD 0 = 0
    rw [List.getElem?_eq_none (by omega)]; rfl
  · have e : M[i]? = none := List.getElem?_eq_none (by have := h.len; omega)
    rw [e]; rfl
theorem mk2_eq {n : Nat} {M : Mat} (h : Sq n M) : mk2 n (at2 M) = M := ext2 (mk2_sq n _) h fun i hi j hj => mk2_at hi hj
theorem mk2_congr {n : Nat} {f g : Nat → Nat → Int} (h : ∀ i < n, ∀ j < n, f i j = g i j) : mk2 n f = mk2 n g := ext2 (mk2_sq n _) (mk2_sq n _) fun i hi j hj => by rw [mk2_at hi hj, mk2_at hi hj, h i hi j hj]
/-- a web: square, skew, its numbers at most b -/
structure Wb (b : Int) (n : Nat) (M : Mat) : Prop where
  sq : Sq n M
  skew : Skew M
  small : ∀ i j, -b ≤ at2 M i j ∧ at2 M i j ≤ b
/-! ### made of ties -/
def Tie.on (t : Tie) (k l : Nat) : Prop := (k = t.i ∧ l = t.j) ∨ (k = t.j ∧ l = t.i)
structure TsOk (n : Nat) (ts : List Tie) : Prop where
  lt : ∀ t ∈ ts, t.i < n ∧ t.j < n
  ne : ∀ t ∈ ts, t.i ≠ t.j
  sm : ∀ t ∈ ts, -9 ≤ t.o ∧ t.o ≤ 9
  ds : ts.Pairwise fun a b => ¬ a.on b.i b.j
theorem tab_wb {n : Nat} {ts : List Tie} (h : TsOk n ts) : Wb 9 n (tab n ts) := by
  refine ⟨tab_sq n ts, ?_, fun k l => ?_⟩
  · have : ∀ (ts : List Tie) (M : Mat), (∀ t ∈ ts, t.i < n ∧ t.j < n) → (∀ t ∈ ts, t.i ≠ t.j) → Sq n M → Skew M → Skew (ts.foldl tieStep M) := by
      intro ts
      induction ts with
      | nil => exact fun M _ _ _ s => s
      | cons t ts ih =>
        intro M h1 h2 h3 h4
        exact ih _ (fun t' h' => h1 t' (by simp [h'])) (fun t' h' => h2 t' (by simp [h'])) (tieStep_sq h3 t) (tieStep_skew h3 h4 t (h1 t (by simp)).1 (h1 t (by simp)).2 (h2 t (by simp)))
    exact this ts _ h.lt h.ne (zeros_sq n) (fun i j => by rw [zeros_at, zeros_at]; rfl)
  · have : ∀ (ts : List Tie) (M : Mat), TsOk n ts → Sq n M → (-9 ≤ at2 M k l ∧ at2 M k l ≤ 9) → ((∃ t ∈ ts, t.on k l) → at2 M k l = 0) → (-9 ≤ at2 (ts.foldl tieStep M) k l ∧ at2 (ts.foldl tieStep M) k l ≤ 9) := by
      intro ts
      induction ts with
      | nil => exact fun M _ _ s _ => s
      | cons t ts ih =>
        intro M h1 h3 h4 h5
        have hl := h1.lt t (by simp)
        have hn := h1.ne t (by simp)
        have hs := h1.sm t (by simp)
        have hp := List.pairwise_cons.mp h1.ds
        have ok : TsOk n ts := ⟨fun t' h' => h1.lt t' (by simp [h']), fun t' h' => h1.ne t' (by simp [h']), fun t' h' => h1.sm t' (by simp [h']), hp.2⟩
        rw [List.foldl_cons]
        have e := tieStep_at h3 t hl.1 hl.2 hn k l
        by_cases ht : t.on k l
        · have z := h5 ⟨t, by simp, ht⟩
          refine ih _ ok (tieStep_sq h3 t) ?_ ?_
          · rw [e, z]
            rcases ht with ⟨a, b⟩ | ⟨a, b⟩
            · rw [if_pos ⟨a, b⟩, if_neg (fun q => hn (a.symm.trans q.1))]; omega
            · rw [if_neg (fun q => hn (q.1.symm.trans a)), if_pos ⟨a, b⟩]; omega
          · rintro ⟨t', h', q⟩
            exfalso
            refine hp.1 t' h' ?_
            unfold Tie.on at *
            omega
        · have z1 : ¬ (k = t.i ∧ l = t.j) := fun q => ht (.inl q)
          have z2 : ¬ (k = t.j ∧ l = t.i) := fun q => ht (.inr q)
          rw [if_neg z1, if_neg z2] at e
          refine ih _ ok (tieStep_sq h3 t) (by rw [e]; omega) ?_
          rintro ⟨t', h', q⟩
          have := h5 ⟨t', by simp [h'], q⟩
          omega
    exact this ts _ h (zeros_sq n) (by rw [zeros_at]; omega) (fun _ => zeros_at n k l)
/-! ### renumbered -/
theorem numM_at {M : Mat} {o : List Nat} {i j : Nat} (hi : i < o.length) (hj : j < o.length) : at2 (numM M o) i j = at2 M o[i] o[j] := by
  unfold numM
  show (((List.map _ o)[i]?.getD [])[j]?).getD 0 = _
  simp [hi, hj]
theorem numM_wb {b : Int} {n m : Nat} {M : Mat} {o : List Nat} (hb : 0 ≤ b) (h : Wb b n M) (hl : o.length = m) : Wb b m (numM M o) := by
  have sq := numM_sq (M := M) hl
  refine ⟨sq, fun i j => ?_, fun i j => ?_⟩
  · by_cases hh : i < m ∧ j < m
    · rw [numM_at (by omega) (by omega), numM_at (by omega) (by omega)]; exact h.skew _ _
    · rw [at2_out sq hh, at2_out sq (fun q => hh ⟨q.2, q.1⟩)]; rfl
  · by_cases hh : i < m ∧ j < m
    · rw [numM_at (by omega) (by omega)]; exact h.small _ _
    · rw [at2_out sq hh]; omega
theorem Wb.le {b c : Int} {n : Nat} {M : Mat} (h : Wb b n M) (k : b ≤ c) : Wb c n M := ⟨h.sq, h.skew, fun i j => by have := h.small i j; omega⟩
theorem Wb.diag {b : Int} {n : Nat} {M : Mat} (h : Wb b n M) (i : Nat) : at2 M i i = 0 := by have := h.skew i i; omega
/-! ### turned -/
def pz (x : Int) : Int := if x > 0 then x else 0
def turnE (M : Mat) (k i j : Nat) : Int := if i = k ∨ j = k then - at2 M i j else at2 M i j + pz (at2 M i k) * pz (at2 M k j) - pz (at2 M j k) * pz (at2 M k i)
def turnM (n : Nat) (M : Mat) (k : Nat) : Mat := mk2 n (turnE M k)
def ab (x : Int) : Int := if x < 0 then -x else x
def halfE (M : Mat) (k i j : Nat) : Int := if i = k ∨ j = k then 0 - at2 M i j else at2 M i j + (ab (at2 M i k) * at2 M k j + at2 M i k * ab (at2 M k j)) / 2
def halfM (n : Nat) (M : Mat) (k : Nat) : Mat := mk2 n (halfE M k)
theorem half_pz (a b : Int) : (ab a * b + a * ab b) / 2 = pz a * pz b - pz (-b) * pz (-a) := by
  unfold ab pz
  have e : ∀ x : Int, (x + x) / 2 = x := fun x => by omega
  have n1 : (-b) * (-a) = a * b := by rw [Int.neg_mul_neg, Int.mul_comm]
  have n2 : (-a) * b = -(a * b) := Int.neg_mul a b
  have n3 : a * (-b) = -(a * b) := Int.mul_neg a b
  by_cases h1 : a < 0 <;> by_cases h2 : b < 0
  · rw [if_pos h1, if_pos h2, if_neg (by omega : ¬ a > 0), if_neg (by omega : ¬ b > 0), if_pos (by omega : -b > 0), if_pos (by omega : -a > 0), n1, n2, n3]
    generalize a * b = p; omega
  · rw [if_pos h1, if_neg h2, if_neg (by omega : ¬ a > 0), if_neg (by omega : ¬ -b > 0), n2]
    rw [Int.zero_mul, Int.zero_mul]
    generalize a * b = p; omega
  · rw [if_neg h1, if_pos h2, if_neg (by omega : ¬ b > 0), if_neg (by omega : ¬ -a > 0), n3]
    rw [Int.mul_zero, Int.mul_zero]
    generalize a * b = p; omega
  · rw [if_neg h1, if_neg h2, if_neg (by omega : ¬ -b > 0), if_neg (by omega : ¬ -a > 0)]
    rw [Int.mul_zero, e]
    by_cases h3 : a > 0 <;> by_cases h4 : b > 0
    · rw [if_pos h3, if_pos h4]; omega
    · have : b = 0 := by omega
      subst this; simp
    · have : a = 0 := by omega
      subst this; simp
    · have : a = 0 := by omega
      subst this; simp
theorem halfE_eq {M : Mat} (s : Skew M) (k i j : Nat) : halfE M k i j = turnE M k i j := by
  unfold halfE turnE
  rw [half_pz, ← s j k, ← s k i]
  by_cases h : i = k ∨ j = k
  · rw [if_pos h, if_pos h]; omega
  · rw [if_neg h, if_neg h]; omega
theorem halfM_eq {n : Nat} {M : Mat} (s : Skew M) (k : Nat) : halfM n M k = turnM n M k := mk2_congr fun i _ j _ => halfE_eq s k i j
theorem turnM_sq (n : Nat) (M : Mat) (k : Nat) : Sq n (turnM n M k) := mk2_sq n _
theorem turnE_skew {M : Mat} (s : Skew M) (k i j : Nat) : turnE M k i j = - turnE M k j i := by
  unfold turnE
  by_cases h : i = k ∨ j = k
  · rw [if_pos h, if_pos h.symm, s i j]
  · rw [if_neg h, if_neg (fun q => h q.symm), s i j]; omega
theorem turnM_skew {n : Nat} {M : Mat} (s : Skew M) (k : Nat) : Skew (turnM n M k) := fun i j => by
  by_cases h : i < n ∧ j < n
  · unfold turnM
    rw [mk2_at h.1 h.2, mk2_at h.2 h.1]; exact turnE_skew s k i j
  · rw [at2_out (turnM_sq n M k) h, at2_out (turnM_sq n M k) (fun q => h ⟨q.2, q.1⟩)]; rfl
theorem pz_bound {b x : Int} (h : -b ≤ x ∧ x ≤ b) : 0 ≤ pz x ∧ pz x ≤ b := by
  unfold pz; split <;> omega
theorem turnM_bound {b : Int} {n : Nat} {M : Mat} (h : Wb b n M) (k : Nat) : Wb (b + b * b) n (turnM n M k) := by
  have hb : 0 ≤ b := by have := h.small 0 0; omega
  have bb : 0 ≤ b * b := Int.mul_nonneg hb hb
  refine ⟨turnM_sq n M k, turnM_skew h.skew k, fun i j => ?_⟩
  by_cases hh : i < n ∧ j < n
  · unfold turnM
    rw [mk2_at hh.1 hh.2]
    unfold turnE
    have s1 := h.small i j
    split
    · omega
    · have p1 := pz_bound (h.small i k)
      have p2 := pz_bound (h.small k j)
      have p3 := pz_bound (h.small j k)
      have p4 := pz_bound (h.small k i)
      have m1 := Int.mul_le_mul p1.2 p2.2 p2.1 hb
      have m2 := Int.mul_nonneg p1.1 p2.1
      have m3 := Int.mul_le_mul p3.2 p4.2 p4.1 hb
      have m4 := Int.mul_nonneg p3.1 p4.1
      omega
  · rw [at2_out (turnM_sq n M k) hh]; omega
/-- turned twice -/
theorem turn_turn {n : Nat} {M : Mat} (h : Sq n M) (s : Skew M) {k : Nat} (hk : k < n) : turnM n (turnM n M k) k = M := by
  refine ext2 (turnM_sq _ _ _) h fun i hi j hj => ?_
  have at_ : ∀ a b, a < n → b < n → at2 (turnM n M k) a b = turnE M k a b := fun a b ha hb => mk2_at ha hb
  show at2 (mk2 n (turnE (turnM n M k) k)) i j = _
  rw [mk2_at hi hj]
  unfold turnE
  rw [at_ i j hi hj, at_ i k hi hk, at_ k j hk hj, at_ j k hj hk, at_ k i hk hi]
  by_cases hh : i = k ∨ j = k
  · rw [if_pos hh]; unfold turnE; rw [if_pos hh]; omega
  · rw [if_neg hh]
    have e1 : turnE M k i k = - at2 M i k := by unfold turnE; rw [if_pos (.inr rfl)]
    have e2 : turnE M k k j = - at2 M k j := by unfold turnE; rw [if_pos (.inl rfl)]
    have e3 : turnE M k j k = - at2 M j k := by unfold turnE; rw [if_pos (.inr rfl)]
    have e4 : turnE M k k i = - at2 M k i := by unfold turnE; rw [if_pos (.inl rfl)]
    rw [e1, e2, e3, e4, ← s k i, ← s j k, ← s k j, ← s i k]
    unfold turnE
    rw [if_neg hh, Int.mul_comm (pz (at2 M k i)), Int.mul_comm (pz (at2 M k j))]
    omega
end SW
namespace SW
theorem TsOk.nil {n : Nat} : TsOk n [] := ⟨by simp, by simp, by simp, List.Pairwise.nil⟩
theorem TsOk.le {n m : Nat} {ts : List Tie} (h : TsOk n ts) (k : n ≤ m) : TsOk m ts := ⟨fun t ht => by have := h.lt t ht; omega, h.ne, h.sm, h.ds⟩
theorem TsOk.snoc {n m : Nat} {ts : List Tie} {t : Tie} (h : TsOk n ts) (k : n ≤ m) (h1 : t.i < m) (h2 : t.j < m) (h3 : t.i ≠ t.j) (h4 : -9 ≤ t.o ∧ t.o ≤ 9) (h5 : ∀ a ∈ ts, ¬ a.on t.i t.j) : TsOk m (ts ++ [t]) := by
  refine ⟨fun x hx => ?_, fun x hx => ?_, fun x hx => ?_, ?_⟩
  · rcases List.mem_append.mp hx with hx | hx
    · have := h.lt x hx; omega
    · have : x = t := by simpa using hx
      subst this; exact ⟨h1, h2⟩
  · rcases List.mem_append.mp hx with hx | hx
    · exact h.ne x hx
    · have : x = t := by simpa using hx
      subst this; exact h3
  · rcases List.mem_append.mp hx with hx | hx
    · exact h.sm x hx
    · have : x = t := by simpa using hx
      subst this; exact h4
  · refine List.pairwise_append.mpr ⟨h.ds, by simp, fun a ha b hb => ?_⟩
    have : b = t := by simpa using hb
    subst this; exact h5 a ha
theorem TsOk.line {n : Nat} {ts : List Tie} {t : Tie} (h : TsOk n ts) (h1 : (t.i = n ∧ t.j < n) ∨ (t.j = n ∧ t.i < n)) (h4 : -9 ≤ t.o ∧ t.o ≤ 9) : TsOk (n + 1) (ts ++ [t]) :=
  h.snoc (by omega) (by omega) (by omega) (by omega) h4 fun a ha q => by
    have := h.lt a ha
    unfold Tie.on at q
    omega
theorem ring_ok {q : Nat} (hq : 2 < q) : TsOk q ((List.range q).map fun i => (⟨i, (i + 1) % q, 1⟩ : Tie)) := by
  have md : ∀ i, i < q → (i + 1) % q = if i + 1 = q then 0 else i + 1 := fun i hi => by
    split
    · rename_i e; rw [e]; exact Nat.mod_self q
    · exact Nat.mod_eq_of_lt (by omega)
  refine ⟨fun t ht => ?_, fun t ht => ?_, fun t ht => ?_, ?_⟩
  · obtain ⟨i, hi, rfl⟩ := List.mem_map.mp ht
    exact ⟨by simpa using hi, Nat.mod_lt _ (by omega)⟩
  · obtain ⟨i, hi, rfl⟩ := List.mem_map.mp ht
    have hi : i < q := by simpa using hi
    show i ≠ (i + 1) % q
    rw [md i hi]; split <;> omega
  · obtain ⟨i, hi, rfl⟩ := List.mem_map.mp ht
    exact ⟨by show (-9 : Int) ≤ 1; decide, by show (1 : Int) ≤ 9; decide⟩
  · refine List.pairwise_map.mpr ?_
    refine List.Pairwise.imp_of_mem ?_ (List.pairwise_lt_range)
    intro a b ha hb hab
    have ha : a < q := by simpa using ha
    have hb : b < q := by simpa using hb
    unfold Tie.on
    show ¬ ((b = a ∧ (b + 1) % q = (a + 1) % q) ∨ (b = (a + 1) % q ∧ (b + 1) % q = a))
    rw [md a ha, md b hb]
    split <;> split <;> omega
end SW
namespace SW
open PySem PySem.Spec PyProof.Rows L2
/-- what a loop has put together behind j turns -/
def accD (f : Nat → D) (j : Nat) : List D := (List.range j).map f
theorem accD_zero (f : Nat → D) : accD f 0 = [] := rfl
theorem accD_snoc {f : Nat → D} {j : Nat} {d : D} (h : f j = d) : accD f j ++ [d] = accD f (j + 1) := by
  unfold accD
  rw [List.range_succ, List.map_append, ← h]; rfl
@[simp] theorem accD_length {f : Nat → D} {j : Nat} : (accD f j).length = j := by simp [accD]
theorem accD_row (n : Nat) (f : Nat → Int) : D.tup (accD (fun j => .int (f j)) n) = rowD ((List.range n).map f) := by
  unfold accD rowD
  rw [List.map_map]; rfl
theorem accD_web (n : Nat) (f : Nat → Nat → Int) : D.tup (accD (fun i => rowD ((List.range n).map (f i))) n) = webD (mk2 n f) := by
  unfold accD webD mk2
  rw [List.map_map]; rfl
end SW

set_option Elab.async false
set_option linter.all false
set_option maxRecDepth 100000
set_option maxHeartbeats 4000000
set_option exponentiation.threshold 500
namespace SW
open PySem PySem.Spec PyProof.Rows L2
theorem ix_web {n : Nat} {M : Mat} (h : Sq n M) {i : Nat} (hi : i < n) : gIx [.v (webD M), .v (.int i)] = some (.v (rowD ((M[i]?).getD []))) := by
  obtain ⟨r, e, hr, ea⟩ := atI_webD h (i := i) (by omega) (by omega)
  simp only [Int.toNat_natCast] at e
  simp [gIx, webD, seqOf, ea, e]
theorem ix_row {n : Nat} {M : Mat} (h : Sq n M) {i j : Nat} (hi : i < n) (hj : j < n) : gIx [.v (rowD ((M[i]?).getD [])), .v (.int j)] = some (.v (.int (at2 M i j))) := by
  obtain ⟨r, e, hr⟩ := h.get hi
  have := atI_row e hr (j := j) (by omega) (by omega)
  simp only [Int.toNat_natCast] at this
  simp [gIx, rowD, seqOf, e, this]
theorem len_web {n : Nat} {M : Mat} (h : Sq n M) : gLen [.v (webD M)] = some (.v (.int n)) := by simp [gLen, webD, seqOf, h.len]
@[simp] theorem gMax_ii {i j : Int} : gMax [.v (.int i), .v (.int j)] = some (.v (.int (if j > i then j else i))) := rfl
@[simp] theorem gMin_ii {i j : Int} : gMin [.v (.int i), .v (.int j)] = some (.v (.int (if j < i then j else i))) := rfl
@[simp] theorem gNeg_i {i : Int} : gNeg [.v (.int i)] = some (.v (.int (-i))) := rfl
@[simp] theorem gAdd_ii {i j : Int} : gAdd [.v (.int i), .v (.int j)] = some (.v (.int (i + j))) := rfl
theorem gMul_ok {i j : Int} (hi : i.natAbs < 2 ^ 400) (hj : j.natAbs < 2 ^ 400) : gMul [.v (.int i), .v (.int j)] = some (.v (.int (i * j))) := by
  simp [gMul, bitsOk_of hi hj]
theorem Pn_row {k : Nat} {r : List Int} (h : r.length ≤ k) (n : Nat) : Pn k (n + 1) (rowD r) := .tup (by simpa using h) fun x hx => by
  obtain ⟨i, _, rfl⟩ := List.mem_map.mp hx
  exact .int _
theorem Pn_web {n : Nat} {M : Mat} (h : Sq n M) : Pn n 2 (webD M) := .tup (by simp [h.len]) fun x hx => by
  obtain ⟨r, hr, rfl⟩ := List.mem_map.mp hx
  exact Pn_row (by rw [h.row r hr]; exact Nat.le_refl _) 0
theorem cls_ints (r : List Int) : cls (r.map D.int) = true := cls_all.mpr fun x hx => by
  obtain ⟨i, _, rfl⟩ := List.mem_map.mp hx
  rfl
theorem cl_web (M : Mat) : cl (webD M) = true := by
  unfold webD cl
  refine cls_all.mpr fun x hx => ?_
  obtain ⟨r, _, rfl⟩ := List.mem_map.mp hx
  unfold rowD cl
  exact cls_ints r
theorem Cq_web {n : Nat} {M : Mat} (h : Sq n M) : Cq (.v (webD M)) (webD M) := .v (Pn_web h) (by omega) (cl_web M)
theorem rowD_inj {r s : List Int} (h : rowD r = rowD s) : r = s := by
  unfold rowD at h
  injection h with h
  have : ∀ (a b : List Int), a.map D.int = b.map D.int → a = b := by
    intro a
    induction a with
    | nil => intro b h; cases b with
      | nil => rfl
      | cons y b => cases h
    | cons x a ih => intro b h; cases b with
      | nil => cases h
      | cons y b =>
        rw [List.map_cons, List.map_cons] at h
        injection h with h1 h2
        injection h1 with h1
        rw [h1, ih b h2]
  exact this r s h
theorem webD_injM {M N : Mat} (h : webD M = webD N) : M = N := by
  unfold webD at h
  injection h with h
  revert N
  induction M with
  | nil => intro N h; cases N with
    | nil => rfl
    | cons y b => cases h
  | cons x a ih => intro N h; cases N with
    | nil => cases h
    | cons y b =>
      rw [List.map_cons, List.map_cons] at h
      injection h with h1 h2
      rw [rowD_inj h1, ih h2]
/-! ### arrows, turned -/
section
variable {E : String → Env → Prop}
theorem arrows_ok {n : Nat} {M : Mat} (h : Sq n M) {i j : Nat} (hi : i < n) (hj : j < n) {Q : C → Env → Prop} (q : Q (.v (.int (pz (at2 M i j)))) [some (.v (webD M)), some (.v (.int i)), some (.v (.int j))]) : Wf X0 (f_arrows [.v (webD M), .v (.int i), .v (.int j)]) Q := by
  refine wf_mk0 rfl ?_
  unfold c_arrows
  refine wq ?_
  simp [List.replicate, ix_web h hi, ix_row h hi hj, fins_v, fins_nil]
  exact q
theorem number_behind_ok {b : Int} {n : Nat} {M : Mat} (h : Wb b n M) (hb : b < 2 ^ 399) {k i j : Nat} (hk : k < n) (hi : i < n) (hj : j < n) {Q : C → Env → Prop} (q : Q (.v (.int (turnE M k i j))) [some (.v (webD M)), some (.v (.int k)), some (.v (.int i)), some (.v (.int j))]) : Wf X0 (f_number_behind [.v (webD M), .v (.int k), .v (.int i), .v (.int j)]) Q := by
  refine wf_mk0 rfl ?_
  unfold c_number_behind
  have pb : ∀ a c, (pz (at2 M a c)).natAbs < 2 ^ 400 := fun a c => by have := pz_bound (h.small a c); omega
  refine wq_cut (fun ρ => ¬ (i = k ∨ j = k) ∧ ρ = [some (.v (webD M)), some (.v (.int k)), some (.v (.int i)), some (.v (.int j))]) (fun K k1 k2 => wq ?_) ?_
  · simp [List.replicate]
    have yes : (i = k ∨ j = k) → Wq X0 (sRet (cOp gNeg (cCons (cOp gIx (cCons (cOp gIx (cSlot 0 (cSlot 2 cNil))) (cSlot 3 cNil))) cNil))) [some (.v (webD M)), some (.v (.int k)), some (.v (.int i)), some (.v (.int j))] K := fun hh => by
      refine wq ?_
      simp [ix_web h.sq hi, ix_row h.sq hi hj]
      refine k2 _ _ ?_
      simp [fins_v, fins_nil]
      unfold turnE at q
      rw [if_pos hh] at q
      exact q
    exact ⟨fun e => yes (.inl (by omega)), fun e => ⟨fun e2 => yes (.inr (by omega)), fun e2 => wq (wp_nil.mpr (k1 _ ⟨by omega, rfl⟩))⟩⟩
  · rintro _ ⟨hh, rfl⟩
    refine wq ?_
    simp [ix_web h.sq hi, ix_row h.sq hi hj, conts, dist]
    refine arrows_ok h.sq hi hk ?_
    simp [back]
    refine arrows_ok h.sq hk hj ?_
    simp [back, gMul_ok (pb i k) (pb k j)]
    refine arrows_ok h.sq hj hk ?_
    refine arrows_ok h.sq hk hi ?_
    simp [back, gMul_ok (pb j k) (pb k i), fins_v, fins_nil]
    unfold turnE at q
    rw [if_neg hh] at q
    exact q
theorem maxI_le {ns : List Int} (h : 0 < ns.length) : maxI ns ∈ ns ∧ ∀ y ∈ ns, y ≤ maxI ns := by
  have ex : ∀ ns : List Int, 0 < ns.length → ∃ m, m ∈ ns ∧ ∀ y ∈ ns, y ≤ m := by
    intro ns
    induction ns with
    | nil => intro h; simp at h
    | cons n ns ih =>
      intro _
      cases ns with
      | nil => exact ⟨n, by simp, by simp⟩
      | cons k r =>
        obtain ⟨m, hm, hy⟩ := ih (by simp)
        by_cases c : m ≤ n
        · exact ⟨n, by simp, fun y h => by rcases List.mem_cons.mp h with rfl | h; exact Int.le_refl _; have := hy y h; omega⟩
        · exact ⟨m, List.mem_cons_of_mem _ hm, fun y h => by rcases List.mem_cons.mp h with rfl | h; omega; exact hy y h⟩
  obtain ⟨m, hm, hy⟩ := ex ns h
  rw [← maxI_spec h hm hy]
  exact ⟨hm, hy⟩
theorem minI_le {ns : List Int} (h : 0 < ns.length) : minI ns ∈ ns ∧ ∀ y ∈ ns, minI ns ≤ y := by
  have ex : ∀ ns : List Int, 0 < ns.length → ∃ m, m ∈ ns ∧ ∀ y ∈ ns, m ≤ y := by
    intro ns
    induction ns with
    | nil => intro h; simp at h
    | cons n ns ih =>
      intro _
      cases ns with
      | nil => exact ⟨n, by simp, by simp⟩
      | cons k r =>
        obtain ⟨m, hm, hy⟩ := ih (by simp)
        by_cases c : n ≤ m
        · exact ⟨n, by simp, fun y h => by rcases List.mem_cons.mp h with rfl | h; exact Int.le_refl _; have := hy y h; omega⟩
        · exact ⟨m, List.mem_cons_of_mem _ hm, fun y h => by rcases List.mem_cons.mp h with rfl | h; omega; exact hy y h⟩
  obtain ⟨m, hm, hy⟩ := ex ns h
  rw [← minI_spec h hm hy]
  exact ⟨hm, hy⟩
theorem gMax_row {r : List Int} (h : 0 < r.length) : gMax [.v (rowD r)] = some (.v (.int (maxI r))) := by
  simp [gMax, rowD, seqOf, intsOf_map, h]
theorem gMin_row {r : List Int} (h : 0 < r.length) : gMin [.v (rowD r)] = some (.v (.int (minI r))) := by
  simp [gMin, rowD, seqOf, intsOf_map, h]
/-- no number too great -/
def Sm (M : Mat) : Prop := ∀ r ∈ M, ∀ x ∈ r, -(10 ^ 30) ≤ x ∧ x ≤ 10 ^ 30
theorem Sm.at {M : Mat} (h : Sm M) (i j : Nat) : -(10 ^ 30) ≤ at2 M i j ∧ at2 M i j ≤ 10 ^ 30 := by
  unfold at2
  cases e : M[i]? with
  | none =>
    show -(10 ^ 30) ≤ (([] : List Int)[j]?).getD 0 ∧ (([] : List Int)[j]?).getD 0 ≤ 10 ^ 30
    rw [List.getElem?_nil]; decide
  | some r =>
    show -(10 ^ 30) ≤ (r[j]?).getD 0 ∧ (r[j]?).getD 0 ≤ 10 ^ 30
    cases e2 : r[j]? with
    | none => decide
    | some x => exact h r (List.mem_of_getElem? e) x (List.mem_of_getElem? e2)
theorem Sm.of {n : Nat} {M : Mat} (s : Sq n M) (h : ∀ i j, -(10 ^ 30) ≤ at2 M i j ∧ at2 M i j ≤ 10 ^ 30) : Sm M := by
  intro r hr x hx
  obtain ⟨i, hi, e⟩ := List.getElem_of_mem hr
  obtain ⟨j, hj, e2⟩ := List.getElem_of_mem hx
  have := h i j
  unfold at2 at this
  rw [List.getElem?_eq_getElem hi, e] at this
  simp only [Option.getD_some] at this
  rw [List.getElem?_eq_getElem hj, e2] at this
  exact this
theorem need_corner_ok {n : Nat} {M : Mat} (h : Sq n M) {k : Int} {Q : C → Env → Prop} (q1 : (0 ≤ k ∧ k < n) → Q (.v .non) [some (.v (webD M)), some (.v (.int k))]) (q2 : ¬ (0 ≤ k ∧ k < n) → E "NoCorner" [some (.v (webD M)), some (.v (.int k))]) : Wf E (f_need_corner [.v (webD M), .v (.int k)]) Q := by
  refine wf_mkE rfl fun E' he => ?_
  unfold c_need_corner
  refine wq ?_
  simp [List.replicate, len_web h]
  have bad : ∀ {K : Fl → Env → Prop}, ¬ (0 ≤ k ∧ k < n) → Wq E' (sRaise "NoCorner") [some (.v (webD M)), some (.v (.int k))] K := fun {K} hh => wq (wp_raise.mpr (he _ _ (by simp [fins_v, fins_nil]; exact q2 hh)))
  refine ⟨fun e => bad (by omega), fun e => ⟨fun e2 => bad (by omega), fun e2 => wq (wp_nil.mpr ?_)⟩⟩
  simp [fins_v, fins_nil]
  exact q1 (by omega)
theorem turned_ok {b : Int} {n : Nat} {M : Mat} (h : Wb b n M) (hb : b < 2 ^ 399) (h1 : 1 ≤ n) (hn : n ≤ 1000) {k : Int} {Q : C → Env → Prop}
    (q1 : ¬ (0 ≤ k ∧ k < n) → E "NoCorner" [some (.v (webD M)), some (.v (.int k))])
    (q2 : (0 ≤ k ∧ k < n) → ¬ Sm (turnM n M k.toNat) → E "TooMany" [some (.v (webD M)), some (.v (.int k))])
    (q3 : (0 ≤ k ∧ k < n) → Sm (turnM n M k.toNat) → Q (.v (webD (turnM n M k.toNat))) [some (.v (webD M)), some (.v (.int k))]) : Wf E (f_turned [.v (webD M), .v (.int k)]) Q := by
  have sz : (1000 : Nat) ≤ sizeLine := by decide
  refine wf_mkE rfl fun E' he => ?_
  unfold c_turned
  refine wq ?_
  simp [List.replicate]
  refine wp_callE.mpr ?_
  simp [conts, dist]
  refine need_corner_ok h.sq (fun hk => ?_) (fun hk => he _ _ (by simp [back, fins_v, fins_nil]; exact q1 hk))
  simp [back]
  refine wq ?_
  simp [len_web h.sq]
  obtain ⟨z, rfl⟩ : ∃ z : Nat, k = z := ⟨k.toNat, by omega⟩
  have hz : z < n := by omega
  simp only [Int.toNat_natCast] at q2 q3
  refine wq_cut (fun ρ => ∃ a d c, ρ = [some (.v (webD M)), some (.v (.int z)), some (.v (.int n)), some (.l ((turnM n M z).map rowD)), a, d, c]) (fun K k1 k2 => wq ?_) ?_
  · simp
    refine wp_comp_map [some (.v (webD M)), some (.v (.int z)), some (.v (.int n)), none, none, none, none] (fun _ => true) (fun d => match d with
      | .int i => rowD ((List.range n).map fun j => turnE M z i.toNat j)
      | d => d) ?_
    simp [gRange, wipeE]
    refine ⟨by omega, by omega, ⟨by simp [putBack], ?_⟩, fun d hd => ?_⟩
    · simp [putBack]
      refine k1 _ ⟨none, none, none, ?_⟩
      rw [List.filter_eq_self.mpr (by simp), ← natsD_range]
      simp [natsD, turnM, mk2]
    · obtain ⟨i, hi, rfl⟩ := mem_rangeD.mp hd
      simp [Tg.put]
      refine wp_comp_map [some (.v (webD M)), some (.v (.int z)), some (.v (.int n)), none, none, some (.v (.int i)), none] (fun _ => true) (fun d => match d with
        | .int j => .int (turnE M z i j.toNat)
        | d => d) ?_
      simp [gRange, wipeE]
      refine ⟨by omega, by omega, ?_, fun d hd => ?_⟩
      · rw [List.filter_eq_self.mpr (by simp), ← natsD_range]
        simp [natsD, gTuple, lstOf, putBack, rowD]
      · obtain ⟨j, hj, rfl⟩ := mem_rangeD.mp hd
        simp [Tg.put, conts, dist]
        refine number_behind_ok h hb hz hi hj ?_
        simp [back]
  · rintro _ ⟨a, d, c, rfl⟩
    have sq := turnM_sq n M z
    refine wq_cut (fun ρ => Sm (turnM n M z) ∧ ∃ c, ρ = [some (.v (webD M)), some (.v (.int z)), some (.v (.int n)), some (.v (.lst ((turnM n M z).map rowD))), a, d, c]) (fun K k1 k2 => ?_) ?_
    · refine wq_for (fun r ρ => ∃ (R : Mat) (c : Option C), r = R.map rowD ∧ (∀ x ∈ R, x ∈ turnM n M z) ∧ (Sm R → Sm (turnM n M z)) ∧ ρ = [some (.v (webD M)), some (.v (.int z)), some (.v (.int n)), some (.v (.lst ((turnM n M z).map rowD))), a, d, c]) (fun J jk => ?_) ?_ ?_
      · simp [C.fz, itemsOf]
        exact jk _ _ ⟨_, c, rfl, fun _ x => x, fun x => x, rfl⟩
      · rintro x r ρ ⟨R, c, er, hR, hs, rfl⟩
        cases R with
        | nil => cases er
        | cons y R =>
          simp only [List.map_cons, List.cons.injEq] at er
          obtain ⟨rfl, rfl⟩ := er
          have hy := hR y (by simp)
          have ly : 0 < y.length := by rw [sq.row y hy]; omega
          obtain ⟨m1, m2⟩ := maxI_le ly
          obtain ⟨m3, m4⟩ := minI_le ly
          refine ⟨_, rfl, fun K' l1 l2 => wq ?_⟩
          simp [gMax_row ly, gMin_row ly]
          have bad : (1000000000000000000000000000000 < maxI y ∨ minI y < -1000000000000000000000000000000) → Wq E' (sRaise "TooMany") [some (.v (webD M)), some (.v (.int z)), some (.v (.int n)), some (.v (.lst ((turnM n M z).map rowD))), a, d, some (.v (rowD y))] K' := fun hh => by
            refine wq (wp_raise.mpr (he _ _ ?_))
            simp [fins_v, fins_nil]
            refine q2 ⟨by omega, by omega⟩ fun q => ?_
            have t1 := q y hy _ m1
            have t2 := q y hy _ m3
            omega
          refine ⟨fun e => bad (.inl e), fun e => ⟨fun e2 => bad (.inr e2), fun e2 => wq (wp_nil.mpr (l1 _ ⟨R, _, rfl, fun x hx => hR x (by simp [hx]), fun q => hs fun r hr => ?_, rfl⟩))⟩⟩
          rcases List.mem_cons.mp hr with rfl | hr
          · intro x hx
            have t1 := m2 x hx
            have t2 := m4 x hx
            omega
          · exact q r hr
      · rintro ρ ⟨R, c, er, hR, hs, rfl⟩
        have : R = [] := by cases R with
          | nil => rfl
          | cons y R => cases er
        subst this
        exact k1 _ ⟨hs (fun r hr => by simp at hr), c, rfl⟩
    · rintro _ ⟨hs, c, rfl⟩
      refine wq ?_
      simp [gTuple, lstOf, fins_v, fins_nil]
      exact q3 ⟨by omega, by omega⟩ hs
end
end SW

set_option Elab.async false
set_option linter.all false
set_option maxRecDepth 100000
set_option maxHeartbeats 4000000
set_option exponentiation.threshold 500
namespace SW
open PySem PySem.Spec PyProof.Rows L2
@[simp] theorem gAbs_i {i : Int} : gAbs [.v (.int i)] = some (.v (.int (ab i))) := rfl
theorem ab_bound {b x : Int} (h : -b ≤ x ∧ x ≤ b) : 0 ≤ ab x ∧ ab x ≤ b := by
  unfold ab; split <;> omega
theorem rangeD_stop {i n : Nat} (h : rangeD i (n - i) = []) : n ≤ i := by
  cases e : n - i with
  | zero => omega
  | succ p => rw [e, rangeD_succ] at h; cases h
theorem rangeD_step {i n : Nat} {d : D} {r : List D} (h : d :: r = rangeD i (n - i)) : i < n ∧ d = .int i ∧ r = rangeD ((i + 1 : Nat) : Int) (n - (i + 1)) := by
  cases e : n - i with
  | zero => rw [e] at h; cases h
  | succ p =>
    rw [e, rangeD_succ] at h
    injection h with h1 h2
    refine ⟨by omega, h1, ?_⟩
    have : n - (i + 1) = p := by omega
    rw [this, h2]
    simp
theorem law_turn_ok {b : Int} {n : Nat} {M : Mat} (h : Wb b n M) (hb : b < 2 ^ 399) (hn : n ≤ 1000) {z : Nat} (hz : z < n) {Q : C → Env → Prop}
    (q : Q (.v (webD (turnM n M z))) [some (.v (webD M)), some (.v (.int z))]) : Wf X0 (f_law_turn [.v (webD M), .v (.int z)]) Q := by
  have sz : (1000 : Nat) + 1000 ≤ sizeLine := by decide
  rw [← halfM_eq h.skew] at q
  refine wf_mk0 rfl ?_
  unfold c_law_turn
  refine wq ?_
  simp [List.replicate, len_web h.sq]
  refine wq ?_
  simp [gLst, vsOf]
  refine wq_cut (fun ρ => ∃ i w j x y u, ρ = [some (.v (webD M)), some (.v (.int z)), some (.v (.int n)), some (.l (accD (fun i => rowD ((List.range n).map (halfE M z i))) n)), i, w, j, x, y, u]) (fun K k1 k2 => ?_) ?_
  · refine wq_for (fun r ρ => ∃ (i : Nat) (a w j x y u : Option C), r = rangeD i (n - i) ∧ i ≤ n ∧ ρ = [some (.v (webD M)), some (.v (.int z)), some (.v (.int n)), some (.l (accD (fun i => rowD ((List.range n).map (halfE M z i))) i)), a, w, j, x, y, u]) (fun J jk => ?_) ?_ ?_
    · simp [gRange]
      exact ⟨by omega, jk _ _ ⟨0, none, none, none, none, none, none, by simp, by omega, rfl⟩⟩
    · rintro d r ρ ⟨i, a, w, j, x, y, u, er, hi, rfl⟩
      obtain ⟨hin, rfl, rfl⟩ := rangeD_step er
      refine ⟨_, rfl, fun K' l1 l2 => wq ?_⟩
      simp [gLst, vsOf]
      generalize hL : accD (fun i => rowD ((List.range n).map (halfE M z i))) i = L
      refine wq_cut (fun ρ => ∃ j x y u, ρ = [some (.v (webD M)), some (.v (.int z)), some (.v (.int n)), some (.l L), some (.v (.int i)), some (.l (accD (fun j => .int (halfE M z i j)) n)), j, x, y, u]) (fun K2 m1 m2 => ?_) ?_
      · refine wq_for (fun r ρ => ∃ (j : Nat) (a x y u : Option C), r = rangeD j (n - j) ∧ j ≤ n ∧ ρ = [some (.v (webD M)), some (.v (.int z)), some (.v (.int n)), some (.l L), some (.v (.int i)), some (.l (accD (fun j => .int (halfE M z i j)) j)), a, x, y, u]) (fun J jk => ?_) ?_ ?_
        · simp [gRange]
          exact ⟨by omega, jk _ _ ⟨0, j, x, y, u, by simp, by omega, rfl⟩⟩
        · rintro d r ρ ⟨j, a, x, y, u, er, hj, rfl⟩
          obtain ⟨hjn, rfl, rfl⟩ := rangeD_step er
          refine ⟨_, rfl, fun K3 n1 n2 => wq ?_⟩
          simp [ix_web h.sq hin, ix_row h.sq hin hjn]
          refine ⟨fun e => ?_, fun e => ⟨fun e2 => ?_, fun e2 => ?_⟩⟩
          iterate 2
            refine wq ?_
            have e : D.int (halfE M z i j) = .int (-at2 M i j) := by unfold halfE; rw [if_pos (by omega)]; congr 1; omega
            simp [ix_web h.sq hin, ix_row h.sq hin hjn, gAppend]
            refine ⟨by omega, ?_⟩
            rw [accD_snoc e]
            exact n1 _ ⟨j + 1, _, _, _, _, rfl, by omega, rfl⟩
          refine wq ?_
          have b1 := h.small i z
          have b2 := h.small z j
          have b3 := ab_bound b1
          have b4 := ab_bound b2
          have w1 : (at2 M i z).natAbs < 2 ^ 400 := by omega
          have w2 : (at2 M z j).natAbs < 2 ^ 400 := by omega
          have w3 : (ab (at2 M i z)).natAbs < 2 ^ 400 := by omega
          have w4 : (ab (at2 M z j)).natAbs < 2 ^ 400 := by omega
          simp [ix_web h.sq hin, ix_row h.sq hin hz]
          refine wq ?_
          simp [ix_web h.sq hz, ix_row h.sq hz hjn]
          refine wq ?_
          simp [gMul_ok w3 w2, gMul_ok w1 w4]
          refine wq ?_
          simp [ix_web h.sq hin, ix_row h.sq hin hjn, gAppend, divOk_iff]
          refine ⟨by decide, by omega, ?_⟩
          rw [accD_snoc (by unfold halfE; rw [if_neg (by omega)])]
          exact n1 _ ⟨j + 1, _, _, _, _, rfl, by omega, rfl⟩
        · rintro ρ ⟨j, a, x, y, u, er, hj, rfl⟩
          have : n = j := by have := rangeD_stop er.symm; omega
          subst this
          exact m1 _ ⟨_, _, _, _, rfl⟩
      · rintro _ ⟨j, x, y, u, rfl⟩
        refine wq ?_
        have hl : L.length < sizeLine := by rw [← hL]; simp; omega
        simp [gTuple, lstOf, gAppend, hl]
        rw [accD_row, ← hL, accD_snoc rfl]
        exact l1 _ ⟨i + 1, _, _, _, _, _, _, rfl, by omega, rfl⟩
    · rintro ρ ⟨i, a, w, j, x, y, u, er, hi, rfl⟩
      have : n = i := by have := rangeD_stop er.symm; omega
      subst this
      exact k1 _ ⟨a, w, j, x, y, u, rfl⟩
  · rintro _ ⟨i, w, j, x, y, u, rfl⟩
    refine wq ?_
    simp [gTuple, lstOf, fins_v, fins_nil]
    rw [accD_web]
    exact q
theorem gPow_ok {i j : Int} (h : 0 ≤ j ∧ j ≤ 1000000 ∧ i.natAbs < 2 ^ 64) : gPow [.v (.int i), .v (.int j)] = some (.v (.int (i ^ j.toNat))) := by
  simp [gPow, h]
theorem odd_corner_ok {n m : Nat} {c : C} (hn : n ≤ 1000) (hT : Tape (m + 3) c) {Q : C → Env → Prop} (k : ∀ (z : Int) c', (z < 0 ∨ (n : Int) ≤ z) → z.natAbs < 2 ^ 300 → Tape m c' → Q (.v (.int z)) [some c', some (.v (.int n))]) : Wf X0 (f_law_odd_corner [c, .v (.int n)]) Q := by
  refine wf_mk0 rfl ?_
  unfold c_law_odd_corner
  refine wq ?_
  have p40 : gPow [.v (.int 10), .v (.int 40)] = some (.v (.int 10000000000000000000000000000000000000000)) := gPow_ok (by decide)
  simp [List.replicate, p40, conts, dist, AK.at_]
  refine draw_big (n := m + 2) hT (by omega) (by omega) fun x c1 x0 x1 hT1 => ?_
  simp [back, p40, conts, dist, AK.at_]
  refine draw_big (n := m + 1) hT1 (by omega) (by omega) fun y c2 y0 y1 hT2 => ?_
  simp [back, gLst, vsOf, vOf, sizeLine, conts, dist, AK.at_]
  refine draw_ok (n := m) hT2 (by omega) (by omega) fun w c3 w0 w1 hT3 => ?_
  simp [back, gIx, seqOf]
  obtain ⟨d, _, _, hd, ed⟩ := atI_in (xs := [D.int (-1), .int n, .int (n + x), .int (-1 - y)]) (i := w) w0 (by simpa using w1)
  rw [ed]
  have : ∃ z : Int, d = .int z ∧ (z < 0 ∨ (n : Int) ≤ z) ∧ z.natAbs < 2 ^ 300 := by
    simp at hd
    rcases hd with rfl | rfl | rfl | rfl
    · exact ⟨_, rfl, by omega, by omega⟩
    · exact ⟨_, rfl, by omega, by omega⟩
    · exact ⟨_, rfl, by omega, by omega⟩
    · exact ⟨_, rfl, by omega, by omega⟩
  obtain ⟨z, rfl, h1, h2⟩ := this
  simp [fins_own hT.own, fins_v, fins_nil]
  exact k z c3 h1 h2 hT3
end SW

set_option Elab.async false
set_option linter.all false
set_option maxRecDepth 100000
set_option maxHeartbeats 4000000
set_option autoImplicit false
/-! Pl8: sorted rows of numbers; orders. -/
namespace SW
open PySem PySem.Spec PyProof.Rows L2
theorem sorted_uniq : ∀ {a b : List Int}, a.Perm b → a.Pairwise (· ≤ ·) → b.Pairwise (· ≤ ·) → a = b
  | [], b, h, _, _ => (List.Perm.nil_eq h)
  | x :: a, [], h, _, _ => by have := h.length_eq; simp at this
  | x :: a, y :: b, h, ha, hb => by
    obtain ⟨a1, a2⟩ := List.pairwise_cons.mp ha
    obtain ⟨b1, b2⟩ := List.pairwise_cons.mp hb
    have h1 : x ≤ y := by
      rcases List.mem_cons.mp (h.mem_iff.mpr (List.mem_cons_self (a := y) (l := b))) with e | e
      · omega
      · exact a1 y e
    have h2 : y ≤ x := by
      rcases List.mem_cons.mp (h.mem_iff.mp (List.mem_cons_self (a := x) (l := a))) with e | e
      · omega
      · exact b1 x e
    have : x = y := by omega
    subst this
    rw [sorted_uniq h.cons_inv a2 b2]
def sortI (l : List Int) : List Int := l.mergeSort fun a b => decide (a ≤ b)
theorem sortI_perm (l : List Int) : (sortI l).Perm l := List.mergeSort_perm l _
theorem sortI_sorted (l : List Int) : (sortI l).Pairwise (· ≤ ·) := by
  have := List.pairwise_mergeSort (le := fun a b : Int => decide (a ≤ b)) (fun a b c h1 h2 => by simp at *; omega) (fun a b => by simp; omega) l
  exact this.imp fun h => by simpa using h
theorem toPs_ints : ∀ l : List Int, toPs (l.map D.int) = some (l.map PyData.int)
  | [] => rfl
  | b :: bs => by
    rw [List.map_cons, toPs, toPs_ints bs]
    rfl
theorem okOrd_ints (l : List Int) : okOrd (l.map PyData.int) = true := by
  unfold okOrd alikeB noNon
  simp only [Bool.and_eq_true, List.all_eq_true, List.mem_map]
  refine ⟨⟨?_, ?_⟩, ?_⟩
  · rintro _ ⟨i, _, rfl⟩ _ ⟨j, _, rfl⟩; rfl
  · rintro _ ⟨i, _, rfl⟩; rfl
  · rintro _ ⟨i, _, rfl⟩; simp [PyData.depth]
theorem sortB_ints (l : List Int) : sortB (l.map PyData.int) = true := by
  unfold sortB
  rw [Bool.or_eq_true]
  refine .inr (List.all_eq_true.mpr fun p hp => ?_)
  obtain ⟨i, _, rfl⟩ := List.mem_map.mp hp
  rfl
theorem leD_int (a b : Int) : leD (.int a) (.int b) = decide (a ≤ b) := by
  unfold leD toPd toP
  show (!PySem.W.dataLt (.int b) (.int a)) = _
  rw [PySem.W.dataLt_int]
  by_cases h : a ≤ b
  · simp [h]
  · simp [h]; omega
theorem sort_ints (l : List Int) : (l.map D.int).mergeSort leD = (sortI l).map D.int := by
  unfold sortI
  rw [List.map_mergeSort]
  intro a _ b _
  rw [leD_int]
theorem gSorted_row {r : List Int} (h : r.length ≤ 100000) : gSorted [.v (.tup (r.map D.int))] = some (.l ((sortI r).map D.int)) := by
  have := size_ge
  simp only [gSorted, seqOf, toPs_ints]
  rw [if_pos ⟨okOrd_ints r, sortB_ints r, by simp; omega⟩, sort_ints]
theorem gSorted_list {r : List Int} (h : r.length ≤ 100000) : gSorted [.l (r.map D.int)] = some (.l ((sortI r).map D.int)) := by
  have := size_ge
  simp only [gSorted, seqOf, toPs_ints]
  rw [if_pos ⟨okOrd_ints r, sortB_ints r, by simp; omega⟩, sort_ints]
/-- an order of all corners -/
def IsOrd (n : Nat) (r : List Int) : Prop := r.Perm ((List.range n).map fun (i : Nat) => (i : Int))
theorem range_sorted (n : Nat) : ((List.range n).map fun (i : Nat) => (i : Int)).Pairwise (· ≤ ·) := by
  refine List.pairwise_map.mpr ?_
  exact List.pairwise_lt_range.imp fun h => by omega
theorem sortI_ord {n : Nat} {r : List Int} : sortI r = (List.range n).map (fun (i : Nat) => (i : Int)) ↔ IsOrd n r := by
  constructor
  · intro e
    unfold IsOrd
    rw [← e]
    exact (sortI_perm r).symm
  · intro h
    exact sorted_uniq ((sortI_perm r).trans h) (sortI_sorted r) (range_sorted n)
theorem ints_inj {a b : List Int} (h : a.map D.int = b.map D.int) : a = b := by
  induction a generalizing b with
  | nil => cases b with
    | nil => rfl
    | cons y b => cases h
  | cons x a ih => cases b with
    | nil => cases h
    | cons y b =>
      rw [List.map_cons, List.map_cons] at h
      injection h with h1 h2
      injection h1 with h1
      rw [h1, ih h2]
theorem cls_intsL (r : List Int) : ∀ x ∈ r.map D.int, cl x = true := fun x hx => by
  obtain ⟨i, _, rfl⟩ := List.mem_map.mp hx
  rfl
theorem pn_intsL (r : List Int) : ∀ x ∈ r.map D.int, Pn 0 0 x := fun x hx => by
  obtain ⟨i, _, rfl⟩ := List.mem_map.mp hx
  exact .int _
theorem Cq_ints (r : List Int) : Cq (.l (r.map D.int)) (.lst (r.map D.int)) := .l (k := r.length) (n := 0) (by simp) (fun x hx => (pn_intsL r x hx).le (by omega) (by omega)) (by omega) (cls_intsL r)
theorem rangeD_ints (n : Nat) : rangeD 0 n = ((List.range n).map fun (i : Nat) => (i : Int)).map D.int := by
  unfold rangeD
  rw [List.map_map]
  refine List.map_congr_left fun i _ => ?_
  simp
/-- sorted(order) != list(range(n)) -/
theorem gNe_order {n : Nat} {r : List Int} {b : Bool} (hb : b = true ↔ ¬ IsOrd n r) : gNe [.l ((sortI r).map D.int), .l (rangeD 0 n)] = some (.v (.bl b)) := by
  rw [rangeD_ints, gNe_cq (Cq_ints _) (Cq_ints _)]
  congr 3
  rw [Bool.eq_iff_iff, hb]
  simp only [Bool.not_eq_true', decide_eq_false_iff_not]
  rw [← sortI_ord]
  constructor
  · exact fun h e => h (by rw [e])
  · intro h e
    injection e with e
    exact h (ints_inj e)
theorem isOrd_nats {n : Nat} {r : List Int} (h : IsOrd n r) : ∃ o : List Nat, o.Perm (List.range n) ∧ r = o.map fun (i : Nat) => (i : Int) := by
  refine ⟨r.map Int.toNat, ?_, ?_⟩
  · have := h.map Int.toNat
    rw [List.map_map] at this
    refine this.trans (List.Perm.of_eq ?_)
    have e : (Int.toNat ∘ fun (i : Nat) => (i : Int)) = id := funext fun i => by simp
    rw [e, List.map_id]
  · rw [List.map_map]
    refine (List.map_id r).symm.trans (List.map_congr_left fun x hx => ?_)
    obtain ⟨i, _, e⟩ := List.mem_map.mp (h.mem_iff.mp hx)
    subst e
    simp
theorem isOrd_of {n : Nat} {o : List Nat} (h : o.Perm (List.range n)) : IsOrd n (o.map fun (i : Nat) => (i : Int)) := h.map _
end SW

set_option Elab.async false
set_option linter.all false
set_option maxRecDepth 100000
set_option maxHeartbeats 4000000
set_option autoImplicit false
/-! Pl9: lent lists; own lists of numbers: membership, index, cuts, removal. -/
namespace SW
open PySem PySem.Spec PyProof.Rows L2
section
variable {E : String → Env → Prop}
theorem wp_loan {w : List Nat} {i : Nat} {c : Env → R C} {ρ : Env} {Q : C → Env → Prop} {ds : List D} (hi : ρ[i]? = some (some (.l ds))) (hp : plainE (wipeE (i :: w) ρ) = true)
    (h : Wp X0 (c ((wipeE w ρ).set i (some (.v (.lst ds))))) fun x _ => safeC x = true ∧ Q x ρ) : Wp E (cLoan w i c ρ) Q := by
  unfold cLoan
  rw [hi]
  simp only [hp, if_true]
  have h := h.d
  cases e : c ((wipeE w ρ).set i (some (.v (.lst ds)))) with
  | stuck => rw [e] at h; exact h.elim
  | exn n ρ' => rw [e] at h; exact h.elim
  | ok x ρ' =>
    rw [e] at h
    obtain ⟨h1, h2⟩ : safeC x = true ∧ Q x ρ := h
    simp only [h1, if_true]
    exact wp_ok.mpr h2
theorem wp_loanE {w : List Nat} {i : Nat} {c : Env → R C} {ρ : Env} {Q : C → Env → Prop} {ds : List D} (hi : ρ[i]? = some (some (.l ds))) (hp : plainE (wipeE (i :: w) ρ) = true)
    (h : Wp (fun n _ => E n (ρ.set i (some (.v (.lst ds))))) (c ((wipeE w ρ).set i (some (.v (.lst ds))))) fun x _ => safeC x = true ∧ Q x ρ) : Wp E (cLoan w i c ρ) Q := by
  unfold cLoan
  rw [hi]
  simp only [hp, if_true]
  have h := h.d
  cases e : c ((wipeE w ρ).set i (some (.v (.lst ds)))) with
  | stuck => rw [e] at h; exact h.elim
  | exn n ρ' =>
    rw [e] at h
    rw [wpw]; exact h
  | ok x ρ' =>
    rw [e] at h
    obtain ⟨h1, h2⟩ : safeC x = true ∧ Q x ρ := h
    simp only [h1, if_true]
    exact wp_ok.mpr h2
theorem wp_tryO {caught : String → Option Bool} {cb cs : Env → R Fl} {ρ : Env} {Q : Fl → Env → Prop} : Wp E (sTryO caught cb cs ρ) Q ↔ Wp (fun n ρ1 => match caught n with
    | some true => Wp X0 (cs ρ1) Q
    | some false => E n ρ1
    | none => False) (cb ρ) Q := by
  simp only [wpw]
  unfold sTryO
  cases cb ρ with
  | ok f ρ1 => exact Iff.rfl
  | stuck => exact Iff.rfl
  | exn n ρ1 =>
    show Dd.Wp E (match caught n with
      | some true => _
      | some false => _
      | none => _) Q ↔ (match caught n with
      | some true => _
      | some false => _
      | none => _)
    cases caught n with
    | none => exact Iff.rfl
    | some b =>
      cases b with
      | false => exact Iff.rfl
      | true =>
        dsimp only
        cases cs ρ1 with
        | ok f ρ2 => exact Iff.rfl
        | exn n ρ2 => exact Iff.rfl
        | stuck => exact Iff.rfl
@[simp] theorem wpi_izip {cl : Env → R (List C)} {ρ : Env} {Q : List D → Env → Prop} : Wp E (iZip cl ρ) Q ↔ Wp E (cl ρ) fun cs ρ1 => isS (gZip cs) fun ds => Q ds ρ1 := by
  unfold iZip
  rw [wp_bind]
  constructor <;> intro h <;> refine h.mono fun x ρ1 h => ?_
  · split at h
    · rename_i ds e; rw [e, isS_some]; exact wp_ok.mp h
    · rw [wpw] at h; exact h.elim
  · obtain ⟨d, e, h⟩ := isS_iff.mp h
    rw [e]; exact wp_ok.mpr h
end
theorem natsD_int' (o : List Nat) : natsD o = (o.map fun (i : Nat) => (i : Int)).map D.int := by
  unfold natsD; rw [List.map_map]; rfl
theorem flat_nats (l : List Nat) : flatDs (natsD l) = true := by
  induction l with
  | nil => rfl
  | cons x l ih => simp only [natsD, List.map_cons, flatDs, flatD, Bool.true_and]; exact ih
theorem mem_cast {c : Nat} {o : List Nat} : ((c : Int) ∈ o.map fun (i : Nat) => (i : Int)) ↔ c ∈ o := by
  simp only [List.mem_map]
  exact ⟨fun ⟨a, ha, e⟩ => by have : a = c := by omega
                              subst this; exact ha, fun h => ⟨c, h, rfl⟩⟩
theorem shapedI (l : List Int) : SeqAt.shaped (.list (l.map PyData.int)) = true := by
  have h1 : ∀ bs : List Int, PyData.canLayAll0 (bs.map PyData.int) = true := by
    intro bs
    induction bs with
    | nil => rfl
    | cons b bs ih => simp [PyData.canLayAll0, PyData.canLay0, ih]
  have h2 : ∀ bs : List Int, PyData.depthAll (bs.map PyData.int) = 0 := by
    intro bs
    induction bs with
    | nil => rfl
    | cons b bs ih => simp [PyData.depthAll, PyData.depth, ih]
  exact shaped_of (by simp [PyData.canLay0, h1]) (by simp [PyData.depth, h2])
theorem shapedi (c : Int) : SeqAt.shaped (.int c) = true := by rfl
theorem any_ints {c : Int} {l : List Int} : ((l.map PyData.int).any fun z => PyData.eqv z (.int c)) = decide (c ∈ l) := by
  rw [Bool.eq_iff_iff]
  simp only [List.any_map, List.any_eq_true, decide_eq_true_eq, Function.comp_apply, PyData.eqv, beq_iff_eq]
  exact ⟨fun ⟨x, hx, e⟩ => e ▸ hx, fun h => ⟨c, h, rfl⟩⟩
theorem gNotIn_l {c : Nat} {o : List Nat} : gNotIn [.v (.int c), .l (natsD o)] = some (.v (.bl (!decide (c ∈ o)))) := by
  rw [natsD_int']
  simp only [gNotIn, inC, seqOf, toPs_ints, toP, shapedI, shapedi, and_self, if_true, any_ints, Bool.true_xor]
  rw [decide_eq_decide.mpr mem_cast]
theorem gIn_l {c : Nat} {o : List Nat} : gIn [.v (.int c), .l (natsD o)] = some (.v (.bl (decide (c ∈ o)))) := by
  rw [natsD_int']
  simp only [gIn, inC, seqOf, toPs_ints, toP, shapedI, shapedi, and_self, if_true, any_ints, Bool.false_xor]
  rw [decide_eq_decide.mpr mem_cast]
theorem gIndex_l {c j : Nat} {o : List Nat} (h : o.findIdx? (· == c) = some j) : gIndex [.l (natsD o), .v (.int c)] = some (.v (.int j)) := by
  have e : ((o.map fun (i : Nat) => (i : Int)).map PyData.int).findIdx? (fun z => PyData.eqv z (.int c)) = some j := by
    rw [List.map_map, List.findIdx?_map, ← h]
    refine congrArg (List.findIdx? · o) (funext fun b => ?_)
    simp only [Function.comp_apply, PyData.eqv]
    rw [Bool.eq_iff_iff]
    simp only [beq_iff_eq]
    omega
  have e2 : lstOf (.l (natsD o)) = some (natsD o) := rfl
  simp only [gIndex, e2]
  rw [natsD_int']
  simp only [toPs_ints, toP, shapedI, shapedi, and_self, if_true, e, Option.map_some]
theorem intsOf_nats' (l : List Nat) : intsOf (natsD l) = some (l.map fun (i : Nat) => (i : Int)) := by rw [natsD_int', intsOf_map]
theorem gRemove_l {c : Nat} {o : List Nat} (h : c ∈ o) : gRemove (.l (natsD o)) [.v (.int c)] = some (.non, .l (natsD (o.erase c))) := by
  have e : (o.map fun (i : Nat) => (i : Int)).findIdx? (· == (c : Int)) = o.findIdx? (· == c) := by
    rw [List.findIdx?_map]
    refine congrArg (List.findIdx? · o) (funext fun b => ?_)
    simp only [Function.comp_apply]
    rw [Bool.eq_iff_iff]
    simp only [beq_iff_eq]
    omega
  simp only [gRemove, intsOf_nats', e]
  have key : ∀ o : List Nat, c ∈ o → ∃ j, o.findIdx? (· == c) = some j ∧ o.eraseIdx j = o.erase c := by
    intro o
    induction o with
    | nil => intro h; simp at h
    | cons x o ih =>
      intro h
      by_cases q : x = c
      · subst q
        exact ⟨0, by simp [List.findIdx?_cons], by simp⟩
      · obtain ⟨j, h1, h2⟩ := ih (by rcases List.mem_cons.mp h with e | e; exact (q e.symm).elim; exact e)
        have qb : (x == c) = false := by simpa using q
        refine ⟨j + 1, by simp [List.findIdx?_cons, qb, h1], ?_⟩
        rw [List.erase_cons, if_neg (by simp [qb])]
        simp [h2]
  obtain ⟨j, h1, h2⟩ := key o h
  rw [h1]
  simp only
  rw [← h2]
  simp only [natsD, List.eraseIdx_eq_take_drop_succ, List.map_append, List.map_take, List.map_drop]
theorem gIx_l {o : List Nat} {i : Nat} (h : i < o.length) : gIx [.l (natsD o), .v (.int i)] = some (.v (.int o[i])) := by
  have : L2.atI (natsD o) (i : Int) = some (.int o[i]) := by
    unfold L2.atI L2.ixN
    rw [if_pos (by omega)]
    simp [natsD, h]
  simp [gIx, seqOf, this]
theorem gIx_t {o : List Nat} {i : Nat} (h : i < o.length) : gIx [.v (.tup (natsD o)), .v (.int i)] = some (.v (.int o[i])) := by
  have : L2.atI (natsD o) (i : Int) = some (.int o[i]) := by
    unfold L2.atI L2.ixN
    rw [if_pos (by omega)]
    simp [natsD, h]
  simp [gIx, seqOf, this]
theorem atI_last {o : List Nat} (h : 0 < o.length) : L2.atI (natsD o) (-1) = some (.int (o[o.length - 1]'(by omega))) := by
  have hl : (natsD o).length = o.length := by simp [natsD]
  unfold L2.atI L2.ixN
  rw [if_neg (by decide), hl, if_pos (by omega)]
  have : ((-1 : Int) + (o.length : Int)).toNat = o.length - 1 := by omega
  simp only [this, Option.bind_some]
  have hz : o.length - 1 < o.length := by omega
  simp [natsD, List.getElem?_eq_getElem hz]
theorem gIx_lm {o : List Nat} (h : 0 < o.length) : gIx [.l (natsD o), .v (.int (-1))] = some (.v (.int (o[o.length - 1]'(by omega)))) := by
  simp [gIx, seqOf, atI_last h]
theorem gIx_tm {o : List Nat} (h : 0 < o.length) : gIx [.v (.tup (natsD o)), .v (.int (-1))] = some (.v (.int (o[o.length - 1]'(by omega)))) := by
  simp [gIx, seqOf, atI_last h]
theorem gNe_nats {l : List Nat} : gNe [.l (natsD l), .l []] = some (.v (.bl (decide (l ≠ [])))) := by
  rw [gNe_nil (k := 0) (n := 0) (natsD_pn l) (by decide)]
  cases l <;> simp [natsD]
theorem gEq_nats {l : List Nat} : gEq [.l (natsD l), .l []] = some (.v (.bl (decide (l = [])))) := by
  have h1 : Cq (.l (natsD l)) (.lst (natsD l)) := .l (k := (natsD l).length) (n := 0) (Nat.le_refl _) (natsD_pn l) (by omega) (fun x hx => by
    obtain ⟨i, _, rfl⟩ := List.mem_map.mp hx
    rfl)
  have h2 : Cq (.l []) (.lst []) := .l (k := 0) (n := 0) (by simp) (by simp) (by omega) (by simp)
  rw [gEq_cq h1 h2]
  cases l <;> simp [natsD]
end SW

set_option Elab.async false
set_option linter.all false
set_option maxRecDepth 100000
set_option maxHeartbeats 4000000
set_option autoImplicit false
/-! Q17: great numbers by their bits. -/
namespace SW
open PySem PySem.Spec PyProof.Rows L2
def Bt (b : Nat) (x : Int) : Prop := x.natAbs < 2 ^ b
theorem Bt.le {a b : Nat} {x : Int} (h : Bt a x) (k : a ≤ b) : Bt b x := Nat.lt_of_lt_of_le h (Nat.pow_le_pow_right (by omega) k)
theorem Bt.mul {a b : Nat} {x y : Int} (h : Bt a x) (k : Bt b y) : Bt (a + b) (x * y) := by
  unfold Bt at *
  rw [Int.natAbs_mul, Nat.pow_add]
  exact Nat.mul_lt_mul'' h k
theorem Bt.add {a : Nat} {x y : Int} (h : Bt a x) (k : Bt a y) : Bt (a + 1) (x + y) := by
  unfold Bt at *
  rw [Nat.pow_succ]
  omega
theorem Bt.sub {a : Nat} {x y : Int} (h : Bt a x) (k : Bt a y) : Bt (a + 1) (x - y) := by
  unfold Bt at *
  rw [Nat.pow_succ]
  omega
theorem Bt.neg {a : Nat} {x : Int} (h : Bt a x) : Bt a (-x) := by
  unfold Bt at *; omega
theorem Bt.log {a : Nat} {x : Int} (h : Bt a x) : x.natAbs.log2 ≤ a := by
  unfold Bt at h
  by_cases q : x.natAbs = 0
  · rw [q]; simp
  · have := (Nat.log2_lt q).mpr h
    omega
theorem gMul_bt {a b : Nat} {x y : Int} (h : Bt a x) (k : Bt b y) (hab : a + b < 1000000) : gMul [.v (.int x), .v (.int y)] = some (.v (.int (x * y))) := by
  have h1 := h.log
  have h2 := k.log
  have : bitsOk x y = true := by
    unfold bitsOk
    rw [decide_eq_true_eq]; omega
  simp [gMul, this]
theorem Bt.zero {a : Nat} : Bt a 0 := by unfold Bt; exact Nat.pos_of_ne_zero (by simp)
theorem Bt.pz {a : Nat} {x : Int} (h : Bt a x) : Bt a (SW.pz x) := by
  unfold SW.pz; split
  · exact h
  · exact .zero
theorem Bt.ab {a : Nat} {x : Int} (h : Bt a x) : Bt a (SW.ab x) := by
  unfold SW.ab; split
  · exact h.neg
  · exact h
theorem Bt.sm {x : Int} (h : -(10 ^ 30) ≤ x ∧ x ≤ 10 ^ 30) : Bt 100 x := by
  unfold Bt
  have : (10 : Nat) ^ 30 < 2 ^ 100 := by decide
  omega
theorem Bt.one {a : Nat} {x : Int} (h : -1 ≤ x ∧ x ≤ 1) : Bt (a + 1) x := by
  unfold Bt
  have : 2 ≤ 2 ^ (a + 1) := by rw [Nat.pow_succ]; have := Nat.pos_of_ne_zero (n := 2 ^ a) (by simp); omega
  omega
/-! ### rows as they are read -/
theorem zipD_map {α : Type} (f g : α → D) : ∀ l : List α, zipD (l.map f) (l.map g) = l.map fun x => D.tup [f x, g x]
  | [] => rfl
  | x :: l => by
    simp only [List.map_cons, zipD, zipD_map f g l]
theorem row_range {n : Nat} {N : Mat} (h : Sq n N) {i : Nat} (hi : i < n) : ((N[i]?).getD []) = (List.range n).map fun j => at2 N i j := by
  obtain ⟨r, e, hr⟩ := h.get hi
  rw [e]
  refine List.ext_getElem (by simp [hr]) fun j h1 h2 => ?_
  have hj : j < n := by rw [← hr]; exact h1
  simp only [Option.getD_some, List.getElem_map, List.getElem_range]
  unfold at2
  simp only [e, Option.getD_some]
  have h3 : j < r.length := h1
  rw [List.getElem?_eq_getElem h3]; rfl
theorem ix_webR {n : Nat} {N : Mat} (h : Sq n N) {i : Nat} (hi : i < n) : gIx [.v (webD N), .v (.int i)] = some (.v (rowD ((List.range n).map fun j => at2 N i j))) := by
  rw [ix_web h hi, row_range h hi]
theorem ix_r {f : Nat → Int} {n j : Nat} (hj : j < n) : gIx [.v (rowD ((List.range n).map f)), .v (.int j)] = some (.v (.int (f j))) := by
  have : L2.atI (((List.range n).map f).map D.int) (j : Int) = some (.int (f j)) := by
    unfold L2.atI L2.ixN
    rw [if_pos (by omega)]
    simp [hj]
  simp only [gIx, rowD, seqOf, this]
end SW

set_option Elab.async false
set_option linter.all false
set_option maxRecDepth 100000
set_option maxHeartbeats 4000000
namespace SW
open PySem PySem.Spec PyProof.Rows L2
theorem renumbered_by_ok {n : Nat} {M : Mat} {o : List Nat} (hn : n ≤ 1000) (hM : Sq n M) (ho : o.length ≤ n) (hb : ∀ i ∈ o, i < n) {Q : C → Env → Prop} (k : Q (.v (webD (numM M o))) [some (.v (webD M)), some (.v (.tup (natsD o)))]) : Wf X0 (f_renumbered_by [.v (webD M), .v (.tup (natsD o))]) Q := by
  have sz : (1000 : Nat) ≤ sizeLine := by decide
  refine wf_mk0 rfl ?_
  unfold c_renumbered_by
  refine wq ?_
  simp [List.replicate]
  refine wp_comp_map [some (.v (webD M)), some (.v (.tup (natsD o))), none, none] (fun _ => true) (fun d => match d with
    | .int i => rowD (o.map fun j => at2 M i.toNat j)
    | d => d) ?_
  simp [itemsOf, wipeE]
  refine ⟨by simp [natsD]; omega, ?_, fun d hd => ?_⟩
  · rw [List.filter_eq_self.mpr (by simp)]
    simp [gTuple, lstOf, fins_v, fins_nil]
    have : List.map (fun d => match d with
      | .int i => rowD (o.map fun j => at2 M i.toNat j)
      | d => d) (natsD o) = (numM M o).map rowD := by
      simp only [natsD, numM, List.map_map]
      refine List.map_congr_left fun i hi => ?_
      simp
    rw [this]
    exact k
  · obtain ⟨i, hi, rfl⟩ := List.mem_map.mp hd
    simp [Tg.put]
    refine wp_comp_map [some (.v (webD M)), some (.v (.tup (natsD o))), none, some (.v (.int i))] (fun _ => true) (fun d => match d with
      | .int j => .int (at2 M i j.toNat)
      | d => d) ?_
    simp [itemsOf, wipeE]
    refine ⟨by simp [natsD]; omega, ?_, fun d2 hd2 => ?_⟩
    · rw [List.filter_eq_self.mpr (by simp)]
      simp [gTuple, lstOf, putBack, rowD]
      simp only [natsD, List.map_map]
      refine List.map_congr_left fun j hj => ?_
      simp
    · obtain ⟨j, hj, rfl⟩ := List.mem_map.mp hd2
      obtain ⟨r, er, hr, ea⟩ := atI_webD hM (i := i) (by omega) (by have := hb i hi; omega)
      have eb := atI_row er hr (j := j) (by omega) (by have := hb j hj; omega)
      simp [Tg.put, gIx, webD, seqOf, ea, rowD]
      simp at eb
      simp [eb]
theorem natsD_int (o : List Nat) : natsD o = (o.map fun (i : Nat) => (i : Int)).map D.int := by
  unfold natsD; rw [List.map_map]; rfl
theorem perm_lt' {n : Nat} {o : List Nat} (h : o.Perm (List.range n)) : o.length = n ∧ ∀ i ∈ o, i < n :=
  ⟨by simpa using h.length_eq, fun i hi => by simpa using h.mem_iff.mp hi⟩
theorem gListR_n {n : Nat} (hn : n ≤ 1000) : gListR [.v (.int n)] = some (.l (rangeD 0 n)) := by
  simp [gListR]; omega
section
variable {E : String → Env → Prop}
theorem renumbered_ok {n : Nat} {M : Mat} {r : List Int} (h : Sq n M) (hn : n ≤ 1000) (hr : r.length ≤ 1000) {Q : C → Env → Prop}
    (q1 : ¬ IsOrd n r → E "NoOrder" [some (.v (webD M)), some (.v (rowD r))])
    (q2 : ∀ o : List Nat, o.Perm (List.range n) → r = o.map (fun (i : Nat) => (i : Int)) → Q (.v (webD (numM M o))) [some (.v (webD M)), some (.v (rowD r))]) : Wf E (f_renumbered [.v (webD M), .v (rowD r)]) Q := by
  refine wf_mkE rfl fun E' he => ?_
  unfold c_renumbered
  simp only [fins_v, fins_nil] at he ⊢
  have sr := gSorted_row (r := r) (by omega)
  obtain ⟨b, hb⟩ : ∃ b : Bool, b = true ↔ ¬ IsOrd n r := by
    by_cases q : IsOrd n r
    · exact ⟨false, by simp [q]⟩
    · exact ⟨true, by simp [q]⟩
  have ne := gNe_order hb
  refine wq_cut (fun ρ => IsOrd n r ∧ ρ = [some (.v (webD M)), some (.v (rowD r))]) (fun K k1 k2 => wq ?_) ?_
  · simp [List.replicate, len_web h, gListR_n hn]
    unfold rowD at *
    rw [sr]
    simp [ne]
    refine ⟨fun e => wq (wp_raise.mpr (he _ _ (q1 (hb.mp e)))), fun e => wq (wp_nil.mpr (k1 _ ⟨?_, rfl⟩))⟩
    exact Classical.byContradiction fun z => by rw [hb.mpr z] at e; cases e
  · rintro _ ⟨hp, rfl⟩
    obtain ⟨o, ho, rfl⟩ := isOrd_nats hp
    obtain ⟨h1, h2⟩ := perm_lt' ho
    refine wq ?_
    simp
    refine wp_callU ?_
    simp [conts, dist]
    have er : rowD (o.map fun (i : Nat) => (i : Int)) = .tup (natsD o) := by unfold rowD; rw [natsD_int]
    rw [er]
    refine renumbered_by_ok hn h (by omega) h2 ?_
    have q := q2 o ho rfl
    rw [er] at q
    exact q
end
end SW

set_option Elab.async false
set_option linter.all false
set_option maxRecDepth 100000
set_option maxHeartbeats 4000000
namespace SW
open PySem PySem.Spec PyProof.Rows L2
/-- the orders of i of n corners -/
def ords (n : Nat) : Nat → List (List Nat)
  | 0 => [[]]
  | i + 1 => (ords n i).flatMap fun o => ((List.range n).filter fun c => decide (c ∉ o)).map fun c => o ++ [c]
theorem ords_mem {n : Nat} : ∀ {i : Nat} {o : List Nat}, o ∈ ords n i ↔ o.length = i ∧ o.Nodup ∧ ∀ c ∈ o, c < n
  | 0, o => by
    simp [ords]
    rintro rfl; simp
  | i + 1, o => by
    simp only [ords, List.mem_flatMap, List.mem_map, List.mem_filter, List.mem_range, decide_eq_true_eq]
    constructor
    · rintro ⟨p, hp, c, ⟨hc, hn⟩, rfl⟩
      obtain ⟨h1, h2, h3⟩ := ords_mem.mp hp
      refine ⟨by simp [h1], ?_, fun x hx => ?_⟩
      · rw [List.nodup_append]
        refine ⟨h2, by simp, fun a ha b hb e => hn ?_⟩
        have : b = c := by simpa using hb
        subst this; subst e; exact ha
      · rcases List.mem_append.mp hx with hx | hx
        · exact h3 x hx
        · have : x = c := by simpa using hx
          subst this; exact hc
    · rintro ⟨h1, h2, h3⟩
      obtain ⟨p, c, rfl⟩ : ∃ p c, o = p ++ [c] := by
        rcases List.eq_nil_or_concat o with e | ⟨p, c, e⟩
        · subst e; simp at h1
        · exact ⟨p, c, by rw [e]; simp⟩
      rw [List.nodup_append] at h2
      refine ⟨p, ords_mem.mpr ⟨by simpa using h1, h2.1, fun x hx => h3 x (by simp [hx])⟩, c, ⟨h3 c (by simp), fun hm => h2.2.2 c hm c (by simp) rfl⟩, rfl⟩
theorem ords_len {n : Nat} : ∀ i, (ords n i).length ≤ n ^ i
  | 0 => by simp [ords]
  | i + 1 => by
    have ih := ords_len (n := n) i
    have key : ∀ l : List (List Nat), (l.flatMap fun o => ((List.range n).filter fun c => decide (c ∉ o)).map fun c => o ++ [c]).length ≤ l.length * n := by
      intro l
      induction l with
      | nil => simp
      | cons o l ih =>
        rw [List.flatMap_cons, List.length_append, List.length_cons, Nat.succ_mul]
        have : (((List.range n).filter fun c => decide (c ∉ o)).map fun c => o ++ [c]).length ≤ n := by
          rw [List.length_map]
          exact Nat.le_trans (List.length_filter_le _ _) (by simp)
        omega
    show ((ords n i).flatMap _).length ≤ n ^ i * n
    exact Nat.le_trans (key _) (Nat.mul_le_mul_right n ih)
theorem perm_of_nodup {n : Nat} {o : List Nat} (h1 : o.length = n) (h2 : o.Nodup) (h3 : ∀ c ∈ o, c < n) : o.Perm (List.range n) := by
  have : ∀ (n : Nat) (o : List Nat), o.Nodup → (∀ c ∈ o, c < n) → o.length ≤ n ∧ (o.length = n → ∀ c, c < n → c ∈ o) := by
    intro n
    induction n with
    | zero =>
      intro o _ h
      cases o with
      | nil => exact ⟨by simp, fun _ c hc => by omega⟩
      | cons c o => have := h c (by simp); omega
    | succ n ih =>
      intro o hd h
      by_cases hm : n ∈ o
      · have e := List.length_erase_of_mem hm
        have := ih (o.erase n) (hd.erase n) fun c hc => by
          have h1 := h c (List.mem_of_mem_erase hc)
          have h2 : c ≠ n := fun q => by
            subst q
            exact (List.Nodup.not_mem_erase hd) hc
          omega
        have pos : 0 < o.length := List.length_pos_of_mem hm
        refine ⟨by omega, fun hl c hc => ?_⟩
        by_cases q : c = n
        · subst q; exact hm
        · exact List.mem_of_mem_erase (this.2 (by omega) c (by omega))
      · have := ih o hd fun c hc => by
          have h1 := h c hc
          have h2 : c ≠ n := fun q => by subst q; exact hm hc
          omega
        exact ⟨by omega, fun hl => by omega⟩
  have k := (this n o h2 h3).2 h1
  exact (List.perm_ext_iff_of_nodup h2 List.nodup_range).mpr fun c => ⟨fun hc => by simpa using h3 c hc, fun hc => k c (by simpa using hc)⟩
theorem ords_perm {n : Nat} {o : List Nat} : o ∈ ords n n ↔ o.Perm (List.range n) := by
  rw [ords_mem]
  constructor
  · rintro ⟨h1, h2, h3⟩; exact perm_of_nodup h1 h2 h3
  · intro h
    exact ⟨by simpa using h.length_eq, h.nodup_iff.mpr List.nodup_range, fun c hc => by simpa using h.mem_iff.mp hc⟩
def ordD (o : List Nat) : D := .tup (natsD o)
theorem shapedL_ints (l : List Int) : SeqAt.shaped (.list (l.map PyData.int)) = true := by
  have h1 : ∀ bs : List Int, PyData.canLayAll0 (bs.map PyData.int) = true := by
    intro bs
    induction bs with
    | nil => rfl
    | cons b bs ih => simp [PyData.canLayAll0, PyData.canLay0, ih]
  have h2 : ∀ bs : List Int, PyData.depthAll (bs.map PyData.int) = 0 := by
    intro bs
    induction bs with
    | nil => rfl
    | cons b bs ih => simp [PyData.depthAll, PyData.depth, ih]
  exact shaped_of (by simp [PyData.canLay0, h1]) (by simp [PyData.depth, h2])
theorem in_ints {c : Int} {l : List Int} : ((l.map PyData.int).any fun z => PyData.eqv z (.int c)) = decide (c ∈ l) := by
  rw [Bool.eq_iff_iff]
  simp only [List.any_map, List.any_eq_true, decide_eq_true_eq, Function.comp_apply, PyData.eqv, beq_iff_eq]
  exact ⟨fun ⟨x, hx, e⟩ => e ▸ hx, fun h => ⟨c, h, rfl⟩⟩
theorem gNotIn_ints {c : Int} {l : List Int} : gNotIn [.v (.int c), .v (.tup (l.map D.int))] = some (.v (.bl (!decide (c ∈ l)))) := by
  simp only [gNotIn, inC, seqOf, toPs_ints, toP, shapedL_ints, shaped_int, and_self, if_true, in_ints, Bool.true_xor]
theorem gIn_ints {c : Int} {l : List Int} : gIn [.v (.int c), .v (.tup (l.map D.int))] = some (.v (.bl (decide (c ∈ l)))) := by
  simp only [gIn, inC, seqOf, toPs_ints, toP, shapedL_ints, shaped_int, and_self, if_true, in_ints, Bool.false_xor]
theorem gNotIn_nats {c : Nat} {o : List Nat} : gNotIn [.v (.int c), .v (ordD o)] = some (.v (.bl (!decide (c ∈ o)))) := by
  unfold ordD
  rw [natsD_int, gNotIn_ints]
  have : decide ((c : Int) ∈ o.map fun (i : Nat) => (i : Int)) = decide (c ∈ o) := by
    rw [decide_eq_decide]
    simp only [List.mem_map]
    refine ⟨fun ⟨a, ha, e⟩ => ?_, fun h => ⟨c, h, rfl⟩⟩
    have : a = c := by omega
    subst this; exact ha
  rw [this]
theorem orders_ok {n : Nat} (hn : n ≤ 6) {Q : C → Env → Prop} (q : Q (.v (.lst ((ords n n).map ordD))) [some (.v (.int n))]) : Wf X0 (f_orders [.v (.int n)]) Q := by
  have sz := size_ge
  have bound : ∀ i, i ≤ n → (ords n i).length ≤ 46656 := fun i hi => by
    have h1 := ords_len (n := n) i
    have h2 : n ^ i ≤ 6 ^ i := Nat.pow_le_pow_left hn i
    have h3 : (6 : Nat) ^ i ≤ 6 ^ 6 := Nat.pow_le_pow_right (by omega) (by omega)
    omega
  refine wf_mk0 rfl ?_
  unfold c_orders
  simp only [fins_v, fins_nil]
  refine wq ?_
  simp [List.replicate, gTup, vsOf, vOf, gLst, C.fz]
  refine ⟨Nat.le_trans (by decide) sz, ?_⟩
  refine wq_cut (fun ρ => ∃ a b c d, ρ = [some (.v (.int n)), some (.v (.lst ((ords n n).map ordD))), a, b, c, d]) (fun K k1 k2 => ?_) ?_
  · refine wq_for (fun r ρ => ∃ (i : Nat) (a b c d : Option C), r = rangeD i (n - i) ∧ i ≤ n ∧ ρ = [some (.v (.int n)), some (.v (.lst ((ords n i).map ordD))), a, b, c, d]) (fun J jk => ?_) ?_ ?_
    · simp [gRange]
      exact ⟨by omega, jk _ _ ⟨0, none, none, none, none, by simp, by omega, rfl⟩⟩
    · rintro d r ρ ⟨i, a, b, c, d', er, hi, rfl⟩
      obtain ⟨hin, rfl, rfl⟩ := rangeD_step er
      refine ⟨_, rfl, fun K' l1 l2 => wq ?_⟩
      simp [gLst, vsOf]
      refine wq_cut (fun ρ => ∃ c d, ρ = [some (.v (.int n)), some (.v (.lst ((ords n i).map ordD))), some (.v (.int i)), some (.l ((ords n (i + 1)).map ordD)), c, d]) (fun K2 m1 m2 => ?_) ?_
      · refine wq_for (fun r ρ => ∃ (ds us : List (List Nat)) (c d : Option C), r = us.map ordD ∧ ords n i = ds ++ us ∧ ρ = [some (.v (.int n)), some (.v (.lst ((ords n i).map ordD))), some (.v (.int i)), some (.l ((ds.flatMap fun o => ((List.range n).filter fun c => decide (c ∉ o)).map fun c => o ++ [c]).map ordD)), c, d]) (fun J jk => ?_) ?_ ?_
        · simp [itemsOf]
          exact jk _ _ ⟨[], ords n i, c, d', rfl, rfl, rfl⟩
        · rintro d r ρ ⟨ds, us, c, d', er, e2, rfl⟩
          cases us with
          | nil => cases er
          | cons o us =>
            simp only [List.map_cons, List.cons.injEq] at er
            obtain ⟨rfl, rfl⟩ := er
            have ho := ords_mem.mp (show o ∈ ords n i by rw [e2]; simp)
            refine ⟨_, rfl, fun K3 n1 n2 => wq ?_⟩
            generalize hX : (ds.flatMap fun o => ((List.range n).filter fun c => decide (c ∉ o)).map fun c => o ++ [c]) = DS at *
            simp
            refine wp_comp_map [some (.v (.int n)), some (.v (.lst ((ords n i).map ordD))), some (.v (.int i)), some (.l (DS.map ordD)), some (.v (ordD o)), none] (fun d => match d with
              | .int c => !decide (c.toNat ∈ o)
              | _ => false) (fun d => match d with
              | .int c => ordD (o ++ [c.toNat])
              | d => d) ?_
            simp [gRange, wipeE]
            refine ⟨by omega, by omega, ?_, fun d hd => ?_⟩
            · have e : List.map (fun d => match d with
                | .int c => ordD (o ++ [c.toNat])
                | d => d) (List.filter (fun d => match d with
                | .int c => !decide (c.toNat ∈ o)
                | _ => false) (rangeD 0 n)) = (((List.range n).filter fun c => decide (c ∉ o)).map fun c => o ++ [c]).map ordD := by
                rw [← natsD_range]
                unfold natsD
                rw [List.filter_map, List.map_map, List.map_map]
                have : ((fun d => match d with
                  | D.int c => !decide (c.toNat ∈ o)
                  | _ => false) ∘ fun (i : Nat) => D.int i) = fun c => decide (c ∉ o) := funext fun c => by simp
                rw [this]
                refine List.map_congr_left fun c _ => ?_
                simp
              rw [e]
              have hl : DS.length + (((List.range n).filter fun c => decide (c ∉ o)).map fun c => o ++ [c]).length ≤ 46656 := by
                have h1 := bound (i + 1) (by omega)
                have h2 : ords n (i + 1) = DS ++ ((((List.range n).filter fun c => decide (c ∉ o)).map fun c => o ++ [c]) ++ us.flatMap fun o => ((List.range n).filter fun c => decide (c ∉ o)).map fun c => o ++ [c]) := by
                  rw [ords, e2, List.flatMap_append, List.flatMap_cons, hX]
                rw [h2] at h1
                simp only [List.length_append] at h1
                omega
              simp only [putBack]
              simp [gExtend]
              simp at hl
              refine ⟨by omega, n1 _ ⟨ds ++ [o], us, some (.v (ordD o)), d', rfl, by simp [e2], ?_⟩⟩
              rw [List.flatMap_append, hX]
              simp
            · obtain ⟨c, hc, rfl⟩ := mem_rangeD.mp hd
              have gn : gNotIn [.v (.int c), .v (.tup (natsD o))] = _ := gNotIn_nats (c := c) (o := o)
              simp [Tg.put, gn, gTup, vsOf, vOf, gAdd, ordD]
              intro _
              refine ⟨by omega, ?_⟩
              simp [natsD, ho.1]
              omega
        · rintro ρ ⟨ds, us, c, d', er, e2, rfl⟩
          have : us = [] := by cases us with
            | nil => rfl
            | cons y R => cases er
          subst this
          rw [List.append_nil] at e2
          refine m1 _ ⟨c, d', ?_⟩
          rw [ords, ← e2]
      · rintro _ ⟨c, d, rfl⟩
        refine wq ?_
        simp [C.fz]
        exact l1 _ ⟨i + 1, _, _, _, _, rfl, by omega, rfl⟩
    · rintro ρ ⟨i, a, b, c, d', er, hi, rfl⟩
      have : n = i := by have := rangeD_stop er.symm; omega
      subst this
      exact k1 _ ⟨a, b, c, d', rfl⟩
  · rintro _ ⟨a, b, c, d, rfl⟩
    refine wq ?_
    simp
    exact q
end SW

set_option Elab.async false
set_option linter.all false
set_option maxRecDepth 100000
set_option maxHeartbeats 4000000
namespace SW
open PySem PySem.Spec PyProof.Rows L2
theorem Wf.ex {r : FR} {Q : C → Env → Prop} (h : Wf X0 r Q) : ∃ a ρ, r = .ok a ρ ∧ Q a ρ := by
  rw [wfw] at h
  cases r with
  | ok a ρ => exact ⟨a, ρ, rfl, h⟩
  | exn n ρ => exact h.elim
  | stuck => exact h.elim
theorem Wf.of_eq {r : FR} {a : C} {ρ : Env} {Q : C → Env → Prop} (e : r = .ok a ρ) (q : Q a ρ) : Wf X0 r Q := by
  rw [wfw, e]; exact q
/-- the first order that renumbers the one to the other -/
def leadO (n : Nat) (M N : Mat) : Option (List Nat) := if M.length = N.length then (ords n n).find? fun o => decide (numM M o = N) else none
def optD : Option (List Nat) → D
  | some o => ordD o
  | none => .non
theorem optD_cq {n : Nat} {M N : Mat} (hn : n ≤ 1000) : Cq (.v (optD (leadO n M N))) (optD (leadO n M N)) := by
  cases e : leadO n M N with
  | none => exact .v (k := 0) (n := 0) .non (by omega) rfl
  | some o =>
    unfold optD ordD
    refine .v (k := o.length) (n := 1) (.tup (by simp [natsD]) (natsD_pn o)) (by omega) ?_
    unfold cl
    rw [natsD_int]
    exact cls_ints _
theorem numM_ok_sq {n : Nat} {M : Mat} {o : List Nat} (h : o ∈ ords n n) : Sq n (numM M o) := numM_sq (ords_mem.mp h).1
theorem leading_ok {n m : Nat} {M N : Mat} (hM : Sq n M) (hN : Sq m N) (hn : n ≤ 6) (hm : m ≤ 6) {Q : C → Env → Prop} (q : Q (.v (optD (leadO n M N))) [some (.v (webD M)), some (.v (webD N))]) : Wf X0 (f_leading [.v (webD M), .v (webD N)]) Q := by
  refine wf_mk0 rfl ?_
  unfold c_leading
  simp only [fins_v, fins_nil]
  have cN := Cq_web hN
  refine wq_cut (fun ρ => n = m ∧ ρ = [some (.v (webD M)), some (.v (webD N)), none]) (fun K k1 k2 => wq ?_) ?_
  · simp [List.replicate, len_web hM, len_web hN]
    refine ⟨fun e => wq ?_, fun e => wq (wp_nil.mpr (k1 _ ⟨by omega, rfl⟩))⟩
    simp
    refine k2 _ _ ?_
    unfold leadO at q
    rw [if_neg (by rw [hM.len, hN.len]; omega)] at q
    exact q
  · rintro _ ⟨rfl, rfl⟩
    have el : leadO n M N = (ords n n).find? fun o => decide (numM M o = N) := by
      unfold leadO
      rw [if_pos (by rw [hM.len, hN.len])]
    refine wq_cut (fun ρ => leadO n M N = none ∧ ∃ a, ρ = [some (.v (webD M)), some (.v (webD N)), a]) (fun K k1 k2 => ?_) ?_
    · refine wq_for (fun r ρ => ∃ (us : List (List Nat)) (a : Option C), r = us.map ordD ∧ (∀ o ∈ us, o ∈ ords n n) ∧ (us.find? fun o => decide (numM M o = N)) = leadO n M N ∧ ρ = [some (.v (webD M)), some (.v (webD N)), a]) (fun J jk => ?_) ?_ ?_
      · simp [len_web hM, conts, dist]
        refine orders_ok hn ?_
        simp [back, itemsOf]
        exact jk _ _ ⟨ords n n, none, rfl, fun _ h => h, el.symm, rfl⟩
      · rintro d r ρ ⟨us, a, er, hu, ef, rfl⟩
        cases us with
        | nil => cases er
        | cons o us =>
          simp only [List.map_cons, List.cons.injEq] at er
          obtain ⟨rfl, rfl⟩ := er
          have ho := hu o (by simp)
          obtain ⟨o1, o2, o3⟩ := ords_mem.mp ho
          have cO := Cq_web (numM_ok_sq (M := M) ho)
          refine ⟨_, rfl, fun K' l1 l2 => wq ?_⟩
          simp [conts, dist]
          refine renumbered_by_ok (by omega) hM (by omega) o3 ?_
          rw [List.find?_cons] at ef
          simp [back, gEq_cq cO cN]
          refine ⟨fun e => wq ?_, fun e => wq (wp_nil.mpr (l1 _ ⟨us, _, rfl, fun o h => hu o (by simp [h]), ?_, rfl⟩))⟩
          · have := webD_injM e
            rw [decide_eq_true this] at ef
            simp
            refine l2 _ _ (k2 _ _ ?_)
            rw [← ef] at q
            exact q
          · have : ¬ numM M o = N := fun z => e (by rw [z])
            rw [decide_eq_false this] at ef
            exact ef
      · rintro ρ ⟨us, a, er, hu, ef, rfl⟩
        have : us = [] := by cases us with
          | nil => rfl
          | cons y R => cases er
        subst this
        exact k1 _ ⟨ef.symm, a, rfl⟩
    · rintro _ ⟨e, a, rfl⟩
      refine wq ?_
      simp
      rw [e] at q
      exact q
end SW

set_option Elab.async false
set_option linter.all false
set_option maxRecDepth 100000
set_option maxHeartbeats 4000000
namespace SW
open PySem PySem.Spec PyProof.Rows L2
/-! ### an order of webs -/
def rowP (r : List Int) : PyData := .tuple (r.map .int)
def webP (M : Mat) : PyData := .tuple (M.map rowP)
theorem toP_row (r : List Int) : toP (rowD r) = some (rowP r) := by
  unfold rowD
  rw [toP, toPs_ints]
  rfl
theorem toPs_rows : ∀ M : Mat, toPs (M.map rowD) = some (M.map rowP)
  | [] => rfl
  | r :: M => by
    rw [List.map_cons, toPs, toPs_rows M, toP_row]
    rfl
theorem toP_web (M : Mat) : toP (webD M) = some (webP M) := by
  unfold webD
  rw [toP, toPs_rows]
  rfl
theorem toPs_webs : ∀ L : List Mat, toPs (L.map webD) = some (L.map webP)
  | [] => rfl
  | M :: L => by
    rw [List.map_cons, toPs, toPs_webs L, toP_web]
    rfl
theorem toPd_web (M : Mat) : toPd (webD M) = webP M := by
  unfold toPd
  rw [toP_web]
  rfl
theorem alike_rows : ∀ r s : List Int, PySem.W.alikeAll (r.map PyData.int) (s.map PyData.int) = true := PySem.W.alike_ints
theorem alike_webs (M N : Mat) : PySem.W.alike (webP M) (webP N) = true := by
  have : ∀ M N : Mat, PySem.W.alikeAll (M.map rowP) (N.map rowP) = true := by
    intro M
    induction M with
    | nil => intro N; simp [PySem.W.alikeAll]
    | cons r M ih =>
      intro N
      cases N with
      | nil => simp [PySem.W.alikeAll]
      | cons s N =>
        rw [List.map_cons, List.map_cons, PySem.W.alikeAll, ih N, Bool.and_true]
        unfold rowP
        rw [PySem.W.alike]
        exact alike_rows r s
  unfold webP
  rw [PySem.W.alike]
  exact this M N
theorem depth_web (M : Mat) : (webP M).depth ≤ 2 := by
  have h1 : ∀ r : List Int, (rowP r).depth ≤ 1 := fun r => by
    unfold rowP
    rw [PyData.depth, depth_ofints]
    omega
  unfold webP
  rw [PyData.depth]
  have := depthAll_le (ps := M.map rowP) (n := 1) fun p hp => by
    obtain ⟨r, _, rfl⟩ := List.mem_map.mp hp
    exact h1 r
  omega
theorem okOrd_webs (L : List Mat) : okOrd (L.map webP) = true := by
  unfold okOrd alikeB noNon
  simp only [Bool.and_eq_true, List.all_eq_true, List.mem_map]
  refine ⟨⟨?_, ?_⟩, ?_⟩
  · rintro _ ⟨i, _, rfl⟩ _ ⟨j, _, rfl⟩; exact alike_webs i j
  · rintro _ ⟨i, _, rfl⟩; rfl
  · rintro _ ⟨i, _, rfl⟩
    have := depth_web i
    simp; omega
def webLt (a b : Mat) : Bool := PySem.W.dataLt (webP a) (webP b)
theorem toks_eq {x y : PyData} (h : PySem.W.alike x y = true) (e : PySem.W.keyToks x = PySem.W.keyToks y) : PyData.eqv x y = true := by
  cases q : PyData.eqv x y with
  | true => rfl
  | false =>
    have := (PySem.W.toks_eqv x y h).2 q [] [.inl 0]
    rw [e, PySem.W.lex_pre, PyProof.Rows.lex_irrefl] at this
    cases this
theorem webLt_total {a b : Mat} (h1 : webLt a b = false) (h2 : webLt b a = false) : a = b := by
  have e := (PyProof.Rows.listOrd PyProof.Rows.itemOrd).total _ _ h1 h2
  have q := toks_eq (alike_webs a b) e
  have := (eqv_cl (webD a) (webD b) _ _ (cl_web a) (cl_web b) (toP_web a) (toP_web b)).mp q
  exact webD_injM this
def minW (M : Mat) (L : List Mat) : Mat := L.foldl (fun a y => if webLt y a then y else a) M
theorem bestMin_webs : ∀ (L : List Mat) (M : Mat), bestMin (webD M) (L.map webD) = webD (minW M L)
  | [], _ => rfl
  | N :: L, M => by
    show bestMin (if PySem.W.dataLt (toPd (webD N)) (toPd (webD M)) then webD N else webD M) (L.map webD) = webD (minW (if webLt N M then N else M) L)
    rw [← bestMin_webs L]
    rw [toPd_web, toPd_web]
    unfold webLt
    split <;> rfl
theorem minW_mem : ∀ (L : List Mat) (M : Mat), minW M L ∈ M :: L
  | [], M => by simp [minW]
  | N :: L, M => by
    have := minW_mem L (if webLt N M then N else M)
    show minW (if webLt N M then N else M) L ∈ _
    rcases List.mem_cons.mp this with e | h
    · rw [e]; split <;> simp
    · simp [h]
theorem minW_le : ∀ (L : List Mat) (M : Mat), ∀ y ∈ M :: L, webLt y (minW M L) = false
  | [], M => fun y hy => by
    have : y = M := by simpa using hy
    subst this
    exact PyProof.Rows.lex_irrefl _
  | N :: L, M => by
    intro y hy
    have ih := minW_le L (if webLt N M then N else M)
    show webLt y (minW (if webLt N M then N else M) L) = false
    have step : ∀ z, webLt z (if webLt N M then N else M) = false → webLt z (minW (if webLt N M then N else M) L) = false := fun z hz => by
      have h1 := ih _ (List.mem_cons_self ..)
      exact PyProof.Rows.KeyOrd.kle_trans (O := PyProof.Rows.listOrd PyProof.Rows.itemOrd) h1 hz
    rcases List.mem_cons.mp hy with rfl | hy
    · refine step _ ?_
      split
      · rename_i h
        exact PyProof.Rows.KeyOrd.klt_asymm (O := PyProof.Rows.listOrd PyProof.Rows.itemOrd) h
      · exact PyProof.Rows.lex_irrefl _
    · rcases List.mem_cons.mp hy with rfl | hy
      · refine step _ ?_
        split
        · exact PyProof.Rows.lex_irrefl _
        · rename_i h; simpa using h
      · exact ih y (List.mem_cons_of_mem _ hy)
theorem minW_set {M N : Mat} {L K : List Mat} (h1 : ∀ x ∈ M :: L, x ∈ N :: K) (h2 : ∀ x ∈ N :: K, x ∈ M :: L) : minW M L = minW N K :=
  webLt_total (minW_le K N _ (h1 _ (minW_mem L M))) (minW_le L M _ (h2 _ (minW_mem K N)))
/-! ### the least form -/
def least (n : Nat) (M : Mat) : Mat := match (ords n n).map (numM M) with
  | [] => M
  | N :: L => minW N L
theorem least_spec (n : Nat) (M : Mat) : ∃ N L, (ords n n).map (numM M) = N :: L ∧ least n M = minW N L := by
  have hm : List.range n ∈ ords n n := ords_perm.mpr (List.Perm.refl _)
  unfold least
  cases e : (ords n n).map (numM M) with
  | nil =>
    have : numM M (List.range n) ∈ (ords n n).map (numM M) := List.mem_map.mpr ⟨_, hm, rfl⟩
    rw [e] at this; cases this
  | cons N L => exact ⟨N, L, rfl, rfl⟩
theorem least_mem (n : Nat) (M : Mat) : ∃ o ∈ ords n n, least n M = numM M o := by
  obtain ⟨N, L, e1, e2⟩ := least_spec n M
  have := minW_mem L N
  rw [← e1] at this
  obtain ⟨o, ho, e⟩ := List.mem_map.mp this
  exact ⟨o, ho, by rw [e2, e]⟩
theorem least_congr {n : Nat} {M N : Mat} (h1 : ∀ o ∈ ords n n, ∃ p ∈ ords n n, numM M o = numM N p) (h2 : ∀ o ∈ ords n n, ∃ p ∈ ords n n, numM N o = numM M p) : least n M = least n N := by
  obtain ⟨A, L, e1, e2⟩ := least_spec n M
  obtain ⟨B, K, f1, f2⟩ := least_spec n N
  rw [e2, f2]
  refine minW_set (fun x hx => ?_) fun x hx => ?_
  · rw [← e1] at hx
    obtain ⟨o, ho, rfl⟩ := List.mem_map.mp hx
    obtain ⟨p, hp, e⟩ := h1 o ho
    rw [← f1, e]
    exact List.mem_map.mpr ⟨p, hp, rfl⟩
  · rw [← f1] at hx
    obtain ⟨o, ho, rfl⟩ := List.mem_map.mp hx
    obtain ⟨p, hp, e⟩ := h2 o ho
    rw [← e1, e]
    exact List.mem_map.mpr ⟨p, hp, rfl⟩
/-- one order behind another -/
def comp (o p : List Nat) : List Nat := p.map fun i => (o[i]?).getD 0
theorem numM_comp {M : Mat} {o p : List Nat} (hp : ∀ i ∈ p, i < o.length) : numM (numM M o) p = numM M (comp o p) := by
  have key : ∀ i ∈ p, ∀ j ∈ p, at2 (numM M o) i j = at2 M ((o[i]?).getD 0) ((o[j]?).getD 0) := fun i hi j hj => by
    have h1 := hp i hi
    have h2 := hp j hj
    rw [numM_at h1 h2, List.getElem?_eq_getElem h1, List.getElem?_eq_getElem h2]
    rfl
  show (p.map fun i => p.map fun j => at2 (numM M o) i j) = (comp o p).map fun i => (comp o p).map fun j => at2 M i j
  unfold comp
  rw [List.map_map]
  refine List.map_congr_left fun i hi => ?_
  show (p.map fun j => at2 (numM M o) i j) = (p.map fun i => (o[i]?).getD 0).map fun j => at2 M ((o[i]?).getD 0) j
  rw [List.map_map]
  exact List.map_congr_left fun j hj => key i hi j hj
theorem comp_ord {n : Nat} {o p : List Nat} (ho : o ∈ ords n n) (hp : p ∈ ords n n) : comp o p ∈ ords n n := by
  obtain ⟨o1, o2, o3⟩ := ords_mem.mp ho
  obtain ⟨p1, p2, p3⟩ := ords_mem.mp hp
  refine ords_mem.mpr ⟨by simp [comp, p1], ?_, fun c hc => ?_⟩
  · unfold comp
    rw [List.Nodup, List.pairwise_map]
    refine List.Pairwise.imp_of_mem ?_ p2
    intro a b ha hb hab e
    have h1 : a < o.length := by have := p3 a ha; omega
    have h2 : b < o.length := by have := p3 b hb; omega
    rw [List.getElem?_eq_getElem h1, List.getElem?_eq_getElem h2] at e
    refine hab ((List.getElem?_inj h1 o2).mp ?_)
    rw [List.getElem?_eq_getElem h1, List.getElem?_eq_getElem h2]
    congr 1
  · obtain ⟨i, hi, rfl⟩ := List.mem_map.mp hc
    have h1 : i < o.length := by have := p3 i hi; omega
    rw [List.getElem?_eq_getElem h1]
    exact o3 _ (List.getElem_mem h1)
def inv (n : Nat) (o : List Nat) : List Nat := (List.range n).map fun i => o.idxOf i
theorem inv_ord {n : Nat} {o : List Nat} (ho : o ∈ ords n n) : inv n o ∈ ords n n ∧ comp o (inv n o) = List.range n := by
  have hp := ords_perm.mp ho
  obtain ⟨o1, o2, o3⟩ := ords_mem.mp ho
  have hm : ∀ i, i < n → i ∈ o := fun i hi => hp.mem_iff.mpr (by simpa using hi)
  have hl : ∀ i, i < n → o.idxOf i < o.length := fun i hi => List.idxOf_lt_length_iff.mpr (hm i hi)
  have hg : ∀ i, i < n → (o[o.idxOf i]?).getD 0 = i := fun i hi => by
    rw [List.getElem?_eq_getElem (hl i hi), Option.getD_some, List.getElem_idxOf]
  refine ⟨ords_mem.mpr ⟨by simp [inv], ?_, fun c hc => ?_⟩, ?_⟩
  · unfold inv
    rw [List.Nodup, List.pairwise_map]
    refine List.Pairwise.imp_of_mem ?_ List.nodup_range
    intro a b ha hb hab e
    have ha : a < n := by simpa using ha
    have hb : b < n := by simpa using hb
    have := hg a ha
    rw [e, hg b hb] at this
    exact hab this.symm
  · obtain ⟨i, hi, rfl⟩ := List.mem_map.mp hc
    have := hl i (by simpa using hi)
    omega
  · unfold comp inv
    rw [List.map_map]
    refine (List.map_congr_left fun i hi => ?_).trans (List.map_id _)
    exact hg i (by simpa using hi)
theorem numM_range {n : Nat} {M : Mat} (h : Sq n M) : numM M (List.range n) = M := mk2_eq h
theorem least_num {n : Nat} {M : Mat} {o : List Nat} (h : Sq n M) (ho : o ∈ ords n n) : least n (numM M o) = least n M := by
  have lo := (ords_mem.mp ho).1
  obtain ⟨h1, h2⟩ := inv_ord ho
  have back : numM (numM M o) (inv n o) = M := by
    rw [numM_comp (fun i hi => by have := (ords_mem.mp h1).2.2 i hi; omega), h2, numM_range h]
  refine least_congr (fun p hp => ⟨comp o p, comp_ord ho hp, numM_comp fun i hi => by have := (ords_mem.mp hp).2.2 i hi; omega⟩) fun p hp => ⟨comp (inv n o) p, comp_ord h1 hp, ?_⟩
  have li := (ords_mem.mp h1).1
  rw [← numM_comp (fun i hi => by have := (ords_mem.mp hp).2.2 i hi; omega), back]
theorem least_sq {n : Nat} {M : Mat} : Sq n (least n M) := by
  obtain ⟨o, ho, e⟩ := least_mem n M
  rw [e]; exact numM_ok_sq ho
theorem least_least {n : Nat} {M : Mat} (h : Sq n M) : least n (least n M) = least n M := by
  obtain ⟨o, ho, e⟩ := least_mem n M
  rw [e, least_num h ho, e]
theorem gMinD_webs {M : Mat} {L : List Mat} : gMinD [.l (webD M :: L.map webD)] = some (.v (webD (minW M L))) := by
  have e := toPs_webs (M :: L)
  rw [List.map_cons] at e
  simp only [gMinD, seqOf, e]
  rw [if_pos (okOrd_webs (M :: L)), bestMin_webs]
theorem least_form_ok {n : Nat} {M : Mat} (h : Sq n M) (hn : n ≤ 6) {Q : C → Env → Prop} (q : Q (.v (webD (least n M))) [some (.v (webD M))]) : Wf X0 (f_least_form [.v (webD M)]) Q := by
  have sz := size_ge
  refine wf_mk0 rfl ?_
  unfold c_least_form
  simp only [fins_v, fins_nil]
  refine wq ?_
  simp [List.replicate]
  refine wp_comp_map [some (.v (webD M)), none] (fun _ => true) (fun d => match d with
    | .tup xs => webD (numM M (((intsOf xs).getD []).map Int.toNat))
    | d => d) ?_
  simp [len_web h, conts, dist]
  refine orders_ok hn ?_
  simp [back, itemsOf, wipeE]
  have lb : (ords n n).length ≤ 46656 := by
    have h1 := ords_len (n := n) n
    have h2 : n ^ n ≤ 6 ^ n := Nat.pow_le_pow_left hn n
    have h3 : (6 : Nat) ^ n ≤ 6 ^ 6 := Nat.pow_le_pow_right (by omega) (by omega)
    omega
  have un : ∀ o : List Nat, ((intsOf (natsD o)).getD []).map Int.toNat = o := fun o => by
    rw [natsD_int, intsOf_map, Option.getD_some, List.map_map]
    refine (List.map_congr_left fun i _ => ?_).trans (List.map_id _)
    simp
  refine ⟨by omega, ?_, fun o ho => ?_⟩
  · rw [filter_yes]
    have e : List.map (fun d => match d with
      | .tup xs => webD (numM M (((intsOf xs).getD []).map Int.toNat))
      | d => d) ((ords n n).map ordD) = ((ords n n).map (numM M)).map webD := by
      rw [List.map_map, List.map_map]
      refine List.map_congr_left fun o _ => ?_
      show webD (numM M (((intsOf (natsD o)).getD []).map Int.toNat)) = _
      rw [un]; rfl
    obtain ⟨N, L, e1, e2⟩ := least_spec n M
    rw [e, e1, List.map_cons, gMinD_webs, ← e2]
    simp [putBack]
    exact q
  · obtain ⟨o1, o2, o3⟩ := ords_mem.mp ho
    simp [Tg.put, conts, dist]
    refine renumbered_by_ok (by omega) h (by omega) o3 ?_
    simp [back]
    show webD (numM M o) = webD (numM M (((intsOf (natsD o)).getD []).map Int.toNat))
    rw [un]
end SW

set_option Elab.async false
set_option linter.all false
set_option maxRecDepth 100000
set_option maxHeartbeats 4000000
set_option autoImplicit false
/-! Q20: sorted lists of rows of numbers. -/
namespace SW
open PySem PySem.Spec PyProof.Rows L2
theorem leD_trans (a b c : D) (h1 : leD a b = true) (h2 : leD b c = true) : leD a c = true := by
  unfold leD at *
  simp only [Bool.not_eq_true'] at *
  exact PyProof.Rows.KeyOrd.kle_trans (O := PyProof.Rows.listOrd PyProof.Rows.itemOrd) h1 h2
theorem leD_total (a b : D) : (leD a b || leD b a) = true := by
  unfold leD
  cases h : PySem.W.dataLt (toPd b) (toPd a) with
  | false => simp
  | true =>
    have := PyProof.Rows.KeyOrd.klt_asymm (O := PyProof.Rows.listOrd PyProof.Rows.itemOrd) h
    have h2 : PySem.W.dataLt (toPd a) (toPd b) = false := this
    rw [h2]; rfl
theorem toPd_row (r : List Int) : toPd (rowD r) = rowP r := by
  unfold toPd
  rw [toP_row]
  rfl
theorem cl_row (r : List Int) : cl (rowD r) = true := by
  unfold rowD cl
  exact cls_all.mpr (cls_intsL r)
theorem alike_row (a b : List Int) : PySem.W.alike (rowP a) (rowP b) = true := by
  unfold rowP
  rw [PySem.W.alike]
  exact alike_rows a b
theorem leD_anti {a b : List Int} (h1 : leD (rowD a) (rowD b) = true) (h2 : leD (rowD b) (rowD a) = true) : rowD a = rowD b := by
  unfold leD at h1 h2
  simp only [Bool.not_eq_true', toPd_row] at h1 h2
  have e := (PyProof.Rows.listOrd PyProof.Rows.itemOrd).total _ _ h2 h1
  have q := toks_eq (alike_row a b) e
  exact (eqv_cl (rowD a) (rowD b) _ _ (cl_row a) (cl_row b) (toP_row a) (toP_row b)).mp q
theorem sort_rows {A B : List (List Int)} (h : A.Perm B) : (A.map rowD).mergeSort leD = (B.map rowD).mergeSort leD := by
  refine List.Perm.eq_of_pairwise (le := fun a b => leD a b = true) (fun a b ha hb h1 h2 => ?_) (List.pairwise_mergeSort leD_trans leD_total _) (List.pairwise_mergeSort leD_trans leD_total _) ?_
  · have ha := (List.mergeSort_perm _ _).mem_iff.mp ha
    have hb := (List.mergeSort_perm _ _).mem_iff.mp hb
    obtain ⟨x, _, rfl⟩ := List.mem_map.mp ha
    obtain ⟨y, _, rfl⟩ := List.mem_map.mp hb
    exact leD_anti h1 h2
  · exact (List.mergeSort_perm _ _).trans ((h.map _).trans (List.mergeSort_perm _ _).symm)
theorem depth_row (r : List Int) : (rowP r).depth ≤ 1 := by
  unfold rowP
  rw [PyData.depth, depth_ofints]
  omega
theorem okOrd_rows (L : List (List Int)) : okOrd (L.map rowP) = true := by
  unfold okOrd alikeB noNon
  simp only [Bool.and_eq_true, List.all_eq_true, List.mem_map]
  refine ⟨⟨?_, ?_⟩, ?_⟩
  · rintro _ ⟨i, _, rfl⟩ _ ⟨j, _, rfl⟩; exact alike_row i j
  · rintro _ ⟨i, _, rfl⟩; rfl
  · rintro _ ⟨i, _, rfl⟩
    have := depth_row i
    simp; omega
theorem sortB_rows {L : List (List Int)} (h : ∀ r ∈ L, r ≠ []) : sortB (L.map rowP) = true := by
  unfold sortB
  rw [Bool.or_eq_true]
  refine .inl ?_
  rw [List.all_eq_true]
  intro p hp
  obtain ⟨r, hr, rfl⟩ := List.mem_map.mp hp
  cases r with
  | nil => exact (h [] hr rfl).elim
  | cons x r => rfl
theorem gSorted_rows {L : List (List Int)} (h : ∀ r ∈ L, r ≠ []) (hl : L.length ≤ 100000) : gSorted [.l (L.map rowD)] = some (.l ((L.map rowD).mergeSort leD)) := by
  have := size_ge
  simp only [gSorted, seqOf, toPs_rows]
  rw [if_pos ⟨okOrd_rows L, sortB_rows h, by simp; omega⟩]
theorem Cq_rows {L : List (List Int)} (hk : ∀ r ∈ L, r.length ≤ 100) : Cq (.l ((L.map rowD).mergeSort leD)) (.lst ((L.map rowD).mergeSort leD)) := by
  have mem : ∀ x ∈ (L.map rowD).mergeSort leD, ∃ r ∈ L, x = rowD r := fun x hx => by
    have hx := (List.mergeSort_perm _ _).mem_iff.mp hx
    obtain ⟨r, hr, rfl⟩ := List.mem_map.mp hx
    exact ⟨r, hr, rfl⟩
  refine .l (k := L.length + 100) (n := 1) (by simp) (fun x hx => ?_) (by omega) (fun x hx => ?_)
  · obtain ⟨r, hr, rfl⟩ := mem x hx
    refine .tup (by simp; have := hk r hr; omega) fun y hy => ?_
    obtain ⟨i, _, rfl⟩ := List.mem_map.mp hy
    exact .int _
  · obtain ⟨r, hr, rfl⟩ := mem x hx
    exact cl_row r
end SW

set_option Elab.async false
set_option linter.all false
set_option maxRecDepth 100000
set_option maxHeartbeats 4000000
set_option autoImplicit false
/-! Q30: counts by powers (dicts), and the sums made of them. -/
namespace SW
open PySem PySem.Spec PyProof.Rows L2
abbrev Cts := List (List Int × Int)
def ctD (A : Cts) : List (D × D) := A.map fun pc => (rowD pc.1, .int pc.2)
def keyP (p : List Int) : NestedKey := .tup (p.map .num)
theorem dKeys_ints : ∀ p : List Int, dKeys (p.map D.int) = some (p.map .num)
  | [] => rfl
  | x :: p => by
    rw [List.map_cons, List.map_cons, dKeys, dKeys_ints p]
    rfl
theorem dKey_row (p : List Int) : dKey (rowD p) = some (keyP p) := by
  unfold rowD dKey
  rw [dKeys_ints]; rfl
theorem num_inj : ∀ {p q : List Int}, p.map NestedKey.num = q.map NestedKey.num → p = q
  | [], [], _ => rfl
  | [], _ :: _, h => by simp at h
  | _ :: _, [], h => by simp at h
  | x :: p, y :: q, h => by
    simp only [List.map_cons, List.cons.injEq, NestedKey.num.injEq] at h
    rw [h.1, num_inj h.2]
theorem keyP_inj {p q : List Int} (h : keyP p = keyP q) : p = q := by
  unfold keyP at h
  injection h with h
  exact num_inj h
theorem depth_keyP (p : List Int) : (keyP p).depth ≤ 8 := by
  have : ∀ p : List Int, NestedKey.depthAll (p.map NestedKey.num) = 0 := by
    intro p
    induction p with
    | nil => rfl
    | cons x p ih => rw [List.map_cons, NestedKey.depthAll, ih]; rfl
  unfold keyP
  rw [NestedKey.depth, this]; omega
/-- the count of p -/
def cnt (A : Cts) (p : List Int) : Option Int := (A.find? fun pc => decide (pc.1 = p)).map fun pc => pc.2
def cput (A : Cts) (p : List Int) (c : Int) : Cts := if (cnt A p).isSome then A.map (fun pc => if pc.1 = p then (pc.1, c) else pc) else A ++ [(p, c)]
theorem key_eq {p q : List Int} : (dKey (rowD p) == some (keyP q)) = decide (p = q) := by
  rw [dKey_row, Bool.eq_iff_iff]
  simp only [beq_iff_eq, Option.some.injEq, decide_eq_true_eq]
  exact ⟨keyP_inj, fun h => by rw [h]⟩
theorem dFind_ct (A : Cts) (p : List Int) : dFind (ctD A) (keyP p) = (cnt A p).map D.int := by
  unfold dFind cnt ctD
  rw [List.find?_map]
  have : ((fun kv : D × D => dKey kv.1 == some (keyP p)) ∘ fun pc : List Int × Int => (rowD pc.1, D.int pc.2)) = fun pc => decide (pc.1 = p) := funext fun pc => by
    simp only [Function.comp_apply, key_eq]
  rw [this]
  cases A.find? fun pc => decide (pc.1 = p) <;> rfl
theorem dPut_ct (A : Cts) (p : List Int) (c : Int) : dPut (ctD A) (rowD p) (keyP p) (.int c) = ctD (cput A p c) := by
  unfold dPut cput
  rw [dFind_ct]
  cases h : cnt A p with
  | some x =>
    simp only [Option.map_some, Option.isSome_some, if_true]
    unfold ctD
    rw [List.map_map, List.map_map]
    refine List.map_congr_left fun pc _ => ?_
    simp only [Function.comp_apply, key_eq]
    by_cases e : pc.1 = p
    · simp [e]
    · simp [e]
  | none =>
    simp only [Option.map_none, Option.isSome_none, Bool.false_eq_true, if_false]
    simp [ctD]
theorem gDPut_ct {A : Cts} {p : List Int} {c : Int} (hl : A.length < sizeLine) : gDPut (.dc (ctD A)) (rowD p) (.int c) = some (.dc (ctD (cput A p c))) := by
  have e := dKey_row p
  have e2 := dPut_ct A p c
  unfold rowD at e e2 ⊢
  simp only [gDPut, e]
  rw [if_pos ⟨depth_keyP p, by simpa [ctD] using hl⟩, e2]
theorem gDIx_ct {A : Cts} {p : List Int} {c : Int} (h : cnt A p = some c) : gDIx [.dc (ctD A), .v (rowD p)] = some (.v (.int c)) := by
  have e := dKey_row p
  have e2 := dFind_ct A p
  rw [h] at e2
  unfold rowD at e ⊢
  simp only [gDIx, e, e2, Option.map_some]
  rw [if_pos (depth_keyP p)]
theorem gDGet_ct {A : Cts} {p : List Int} {c : Int} : gDGet [.dc (ctD A), .v (rowD p), .v (.int c)] = some (.v (.int ((cnt A p).getD c))) := by
  have e := dKey_row p
  have e2 := dFind_ct A p
  unfold rowD at e ⊢
  simp only [gDGet, e, e2]
  rw [if_pos (depth_keyP p)]
  cases cnt A p <;> rfl
/-- counts with each power once -/
def Uq (A : Cts) : Prop := (A.map fun pc => pc.1).Nodup
theorem cnt_mem {A : Cts} (h : Uq A) {p : List Int} {c : Int} : cnt A p = some c ↔ (p, c) ∈ A := by
  induction A with
  | nil => simp [cnt]
  | cons x A ih =>
    obtain ⟨q, d⟩ := x
    have hu : Uq A ∧ q ∉ A.map fun pc => pc.1 := by
      unfold Uq at h
      rw [List.map_cons, List.nodup_cons] at h
      exact ⟨h.2, h.1⟩
    have ih := ih hu.1
    by_cases e : q = p
    · subst e
      simp only [cnt, List.find?_cons, decide_true, Option.map_some, Option.some.injEq, List.mem_cons, Prod.mk.injEq, true_and]
      refine ⟨fun h => .inl h.symm, fun h => ?_⟩
      rcases h with h | h
      · exact h.symm
      · exact (hu.2 (List.mem_map.mpr ⟨_, h, rfl⟩)).elim
    · have e2 : decide (q = p) = false := by simpa using e
      simp only [cnt, List.find?_cons, e2] at ih ⊢
      rw [ih]
      simp only [List.mem_cons, Prod.mk.injEq]
      exact ⟨.inr, fun h => h.elim (fun z => (e z.1.symm).elim) id⟩
theorem cput_uq {A : Cts} (h : Uq A) (p : List Int) (c : Int) : Uq (cput A p c) := by
  unfold cput
  split
  · unfold Uq
    rw [List.map_map]
    have : ((fun pc : List Int × Int => pc.1) ∘ fun pc => if pc.1 = p then (pc.1, c) else pc) = fun pc => pc.1 := funext fun pc => by
      simp only [Function.comp_apply]; split <;> rfl
    rw [this]; exact h
  · rename_i hn
    unfold Uq
    rw [List.map_append, List.nodup_append]
    refine ⟨h, by simp, fun a ha b hb e => ?_⟩
    have : b = p := by simpa using hb
    subst this; subst e
    obtain ⟨⟨q, d⟩, hq, e2⟩ := List.mem_map.mp ha
    dsimp only at e2; subst e2
    rw [(cnt_mem h).mpr hq] at hn
    simp at hn
theorem cnt_put {A : Cts} (p q : List Int) (c : Int) : cnt (cput A p c) q = if q = p then some c else cnt A q := by
  unfold cput
  split
  · rename_i hs
    induction A with
    | nil => simp [cnt] at hs
    | cons x A ih =>
      obtain ⟨r, d⟩ := x
      by_cases e1 : r = p
      · subst e1
        by_cases e2 : q = r
        · subst e2; simp [cnt]
        · have e3 : ¬ r = q := fun z => e2 z.symm
          simp only [List.map_cons, if_true, cnt, List.find?_cons, e3, decide_false, if_neg e2]
          have : ∀ B : Cts, (B.map fun pc => if pc.1 = r then (pc.1, c) else pc).find? (fun pc => decide (pc.1 = q)) = B.find? fun pc => decide (pc.1 = q) := by
            intro B
            induction B with
            | nil => rfl
            | cons y B ihB =>
              by_cases e4 : y.1 = r
              · have e5 : ¬ y.1 = q := fun z => e3 (e4 ▸ z)
                simp only [List.map_cons, if_pos e4, List.find?_cons, e5, decide_false, ihB]
              · simp only [List.map_cons, if_neg e4, List.find?_cons, ihB]
          rw [this]
      · have hs' : (cnt A p).isSome = true := by simpa [cnt, List.find?_cons, e1] using hs
        have ih := ih hs'
        by_cases e2 : r = q
        · subst e2
          simp [cnt, e1]
        · simp only [List.map_cons, if_neg e1, cnt, List.find?_cons, e2, decide_false] at ih ⊢
          exact ih
  · rename_i hn
    have hn' : cnt A p = none := by simpa using hn
    unfold cnt at hn' ⊢
    rw [List.find?_append]
    by_cases e : q = p
    · subst e
      have : (A.find? fun pc => decide (pc.1 = q)) = none := by simpa using hn'
      rw [this]; simp
    · have e3 : ¬ p = q := fun z => e z.symm
      rw [if_neg e]
      simp [e3]
end SW

set_option Elab.async false
set_option linter.all false
set_option maxRecDepth 100000
set_option maxHeartbeats 4000000
set_option autoImplicit false
/-! Q67: webs as keys of a dict. -/
namespace SW
open PySem PySem.Spec PyProof.Rows L2
def keyW (M : Mat) : NestedKey := .tup (M.map keyP)
theorem dKeys_rows : ∀ M : Mat, dKeys (M.map rowD) = some (M.map keyP)
  | [] => rfl
  | r :: M => by
    rw [List.map_cons, List.map_cons, dKeys, dKeys_rows M, dKey_row]
theorem dKey_web (M : Mat) : dKey (webD M) = some (keyW M) := by
  unfold webD dKey
  rw [dKeys_rows]; rfl
theorem rows_inj : ∀ {M N : Mat}, M.map keyP = N.map keyP → M = N
  | [], [], _ => rfl
  | [], _ :: _, h => by simp at h
  | _ :: _, [], h => by simp at h
  | x :: p, y :: q, h => by
    simp only [List.map_cons, List.cons.injEq] at h
    rw [keyP_inj h.1, rows_inj h.2]
theorem keyW_inj {M N : Mat} (h : keyW M = keyW N) : M = N := by
  unfold keyW at h
  injection h with h
  exact rows_inj h
theorem depthAll_num : ∀ p : List Int, NestedKey.depthAll (p.map NestedKey.num) = 0
  | [] => rfl
  | x :: p => by rw [List.map_cons, NestedKey.depthAll, depthAll_num p]; rfl
theorem depthAll_rows : ∀ M : Mat, NestedKey.depthAll (M.map keyP) ≤ 1
  | [] => by simp [NestedKey.depthAll]
  | r :: M => by
    have := depthAll_rows M
    have d : (keyP r).depth ≤ 1 := by unfold keyP; rw [NestedKey.depth, depthAll_num]; omega
    rw [List.map_cons, NestedKey.depthAll]
    omega
theorem depth_keyW (M : Mat) : (keyW M).depth ≤ 8 := by
  have := depthAll_rows M
  unfold keyW
  rw [NestedKey.depth]
  omega
/-- webs that are there -/
def thereD (L : List Mat) : List (D × D) := L.map fun M => (webD M, .bl true)
theorem key_eqW {M N : Mat} : (dKey (webD M) == some (keyW N)) = decide (M = N) := by
  rw [dKey_web, Bool.eq_iff_iff]
  simp only [beq_iff_eq, Option.some.injEq, decide_eq_true_eq]
  exact ⟨keyW_inj, fun h => by rw [h]⟩
theorem dFind_web (L : List Mat) (M : Mat) : (dFind (thereD L) (keyW M)).isSome = decide (M ∈ L) := by
  unfold dFind thereD
  rw [List.find?_map]
  have : ((fun kv : D × D => dKey kv.1 == some (keyW M)) ∘ fun N : Mat => (webD N, D.bl true)) = fun N => decide (N = M) := funext fun N => by
    simp only [Function.comp_apply, key_eqW]
  rw [this, Bool.eq_iff_iff, decide_eq_true_eq, Option.isSome_map, Option.isSome_map, List.find?_isSome]
  simp
theorem gDNotIn_web {L : List Mat} {M : Mat} : gDNotIn [.v (webD M), .dc (thereD L)] = some (.v (.bl (!decide (M ∈ L)))) := by
  have e := dKey_web M
  have e2 := dFind_web L M
  unfold webD at e ⊢
  simp only [gDNotIn, dIn, e, e2, Bool.true_xor]
  rw [if_pos (depth_keyW M)]
theorem gDPut_web {L : List Mat} {M : Mat} (hM : M ∉ L) (hl : L.length < sizeLine) : gDPut (.dc (thereD L)) (webD M) (.bl true) = some (.dc (thereD (L ++ [M]))) := by
  have e := dKey_web M
  have e2 := dFind_web L M
  unfold webD at e ⊢
  simp only [gDPut, e]
  rw [if_pos ⟨depth_keyW M, by simpa [thereD] using hl⟩]
  unfold dPut
  rw [e2, if_neg (by simpa using hM)]
  simp [thereD, webD]
section
variable {E : String → Env → Prop}
theorem wp_dict1 {ck cv : Env → R C} {ρ ρ1 ρ2 : Env} {M : Mat} {Q : C → Env → Prop} (h1 : ck ρ = .ok (.v (webD M)) ρ1) (h2 : cv ρ1 = .ok (.v (.bl true)) ρ2) (q : Q (.dc (thereD [M])) ρ2) : Wp E (cDict1 ck cv ρ) Q := by
  have e := dKey_web M
  have d := depth_keyW M
  unfold webD at e h1
  unfold cDict1
  rw [h1]
  dsimp only
  rw [h2]
  dsimp only
  rw [e]
  dsimp only
  rw [if_pos d]
  exact wp_ok.mpr q
end
end SW

set_option Elab.async false
set_option linter.all false
set_option maxRecDepth 100000
set_option maxHeartbeats 4000000
namespace SW
open PySem PySem.Spec PyProof.Rows L2
theorem toPs_bls : ∀ bs : List Bool, toPs (bs.map D.bl) = some (bs.map PyData.bool)
  | [] => rfl
  | b :: bs => by
    rw [List.map_cons, toPs, toPs_bls bs]
    rfl
theorem shaped_bls (bs : List Bool) : SeqAt.shaped (.list (bs.map PyData.bool)) = true := by
  have h1 : ∀ bs : List Bool, PyData.canLayAll0 (bs.map PyData.bool) = true := by
    intro bs
    induction bs with
    | nil => rfl
    | cons b bs ih => simp [PyData.canLayAll0, PyData.canLay0, ih]
  have h2 : ∀ bs : List Bool, PyData.depthAll (bs.map PyData.bool) = 0 := by
    intro bs
    induction bs with
    | nil => rfl
    | cons b bs ih => simp [PyData.depthAll, PyData.depth, ih]
  exact shaped_of (by simp [PyData.canLay0, h1]) (by simp [PyData.depth, h2])
theorem gCount_bls (bs : List Bool) : gCount [.v (.lst (bs.map .bl)), .v (.bl true)] = some (.v (.int (bs.count true : Nat))) := by
  have hb : SeqAt.shaped (.bool true) = true := by decide
  have e : (bs.map PyData.bool).countP (fun z => PyData.eqv z (.bool true)) = bs.count true := by
    rw [List.countP_map, List.count]
    refine congrArg (List.countP · bs) (funext fun b => ?_)
    simp [PyData.eqv]
  simp [gCount, lstOf, toPs_bls, toP, shaped_bls, hb, e]
theorem gIndex_bls (bs : List Bool) {j : Nat} (h : bs.findIdx? (· == true) = some j) : gIndex [.v (.lst (bs.map .bl)), .v (.bl true)] = some (.v (.int j)) := by
  have hb : SeqAt.shaped (.bool true) = true := by decide
  have e : (bs.map PyData.bool).findIdx? (fun z => PyData.eqv z (.bool true)) = some j := by
    rw [List.findIdx?_map, ← h]
    refine congrArg (List.findIdx? · bs) (funext fun b => ?_)
    simp [PyData.eqv]
  simp [gIndex, lstOf, toPs_bls, toP, shaped_bls, hb, e]
theorem whole_int {i : Int} {Q : C → Env → Prop} (q : Q (.v (.bl true)) [some (.v (.int i))]) : Wf X0 (f_law_whole [.v (.int i)]) Q := by
  refine wf_mk0 rfl ?_
  unfold c_law_whole
  refine wq ?_
  simp [List.replicate, gIsi_int (k := 0) (n := 0) (.int i), gIsi_bool (k := 0) (n := 0) (.int i), isInt, isBl, fins_v, fins_nil]
  exact q
/-- a tuple of one text -/
theorem Cq_word {x : Str} (h : PyData.strOk x = true) : Cq (.v (.tup [.str x])) (.tup [.str x]) := .v (k := 1) (n := 1) (.tup (by simp) fun y hy => by
  have : y = .str x := by simpa using hy
  subst this
  exact .str x h) (by omega) (by simp [cl, cls])
end SW

set_option Elab.async false
set_option linter.all false
set_option maxRecDepth 100000
set_option maxHeartbeats 4000000
set_option exponentiation.threshold 500
namespace SW
open PySem PySem.Spec PyProof.Rows L2
/-- the web behind a row of turns, none where a number is too great on the way -/
noncomputable def behind (n : Nat) : Mat → List Nat → Option Mat
  | M, [] => some M
  | M, k :: r => match Classical.propDecidable (Sm (turnM n M k)) with
    | .isTrue _ => behind n (turnM n M k) r
    | .isFalse _ => none
theorem behind_yes {n k : Nat} {M : Mat} {r : List Nat} (h : Sm (turnM n M k)) : behind n M (k :: r) = behind n (turnM n M k) r := by
  rw [behind]
  cases Classical.propDecidable (Sm (turnM n M k)) with
  | isTrue _ => rfl
  | isFalse g => exact (g h).elim
theorem behind_no {n k : Nat} {M : Mat} {r : List Nat} (h : ¬ Sm (turnM n M k)) : behind n M (k :: r) = none := by
  rw [behind]
  cases Classical.propDecidable (Sm (turnM n M k)) with
  | isTrue g => exact (h g).elim
  | isFalse g => rfl
theorem Wb.turned {b : Int} {n : Nat} {M : Mat} (h : Wb b n M) {k : Nat} (hs : Sm (turnM n M k)) : Wb (10 ^ 30) n (turnM n M k) := ⟨turnM_sq n M k, turnM_skew h.skew k, hs.at⟩
theorem behind_wb {n : Nat} : ∀ {r : List Nat} {M N : Mat}, Wb (10 ^ 30) n M → behind n M r = some N → Wb (10 ^ 30) n N
  | [], M, N, h, e => by cases e; exact h
  | k :: r, M, N, h, e => by
    by_cases hs : Sm (turnM n M k)
    · rw [behind_yes hs] at e; exact behind_wb (h.turned hs) e
    · rw [behind_no hs] at e; cases e
def InR (n : Nat) (rs : List Int) : Prop := ∀ k ∈ rs, 0 ≤ k ∧ k < n
section
variable {E : String → Env → Prop}
theorem turned_by_ok {n : Nat} {M : Mat} {rs : List Int} (h : Wb (10 ^ 30) n M) (h1 : 1 ≤ n) (hn : n ≤ 1000) {Q : C → Env → Prop}
    (q1 : ¬ InR n rs → E "NoCorner" [some (.v (webD M)), some (.v (rowD rs))])
    (q2 : InR n rs → behind n M (rs.map Int.toNat) = none → E "TooMany" [some (.v (webD M)), some (.v (rowD rs))])
    (q3 : ∀ N, InR n rs → behind n M (rs.map Int.toNat) = some N → Q (.v (webD N)) [some (.v (webD M)), some (.v (rowD rs))]) : Wf E (f_turned_by [.v (webD M), .v (rowD rs)]) Q := by
  refine wf_mkE rfl fun E' he => ?_
  unfold c_turned_by
  simp only [fins_v, fins_nil] at he ⊢
  refine wq_cut (fun ρ => InR n rs ∧ ∃ a, ρ = [some (.v (webD M)), some (.v (rowD rs)), a]) (fun K k1 k2 => ?_) ?_
  · refine wq_for (fun r ρ => ∃ (ts us : List Int) (a : Option C), r = ts.map D.int ∧ rs = us ++ ts ∧ InR n us ∧ ρ = [some (.v (webD M)), some (.v (rowD rs)), a]) (fun J jk => ?_) ?_ ?_
    · simp [List.replicate]
      exact jk _ _ ⟨rs, [], none, rfl, rfl, (fun k hk => by simp at hk), rfl⟩
    · rintro d r ρ ⟨ts, us, a, er, e2, hu, rfl⟩
      cases ts with
      | nil => cases er
      | cons t ts =>
        simp only [List.map_cons, List.cons.injEq] at er
        obtain ⟨rfl, rfl⟩ := er
        refine ⟨_, rfl, fun K' l1 l2 => wq ?_⟩
        simp
        refine wp_callE.mpr ?_
        simp [conts, dist]
        refine need_corner_ok h.sq (fun hk => ?_) (fun hk => he _ _ (q1 fun q => hk (q t (by rw [e2]; simp))))
        simp [back]
        refine l1 _ ⟨ts, us ++ [t], _, rfl, by simp [e2], fun k hk => ?_, rfl⟩
        rcases List.mem_append.mp hk with hk | hk
        · exact hu k hk
        · have : k = t := by simpa using hk
          subst this; assumption
    · rintro ρ ⟨ts, us, a, er, e2, hu, rfl⟩
      have : ts = [] := by cases ts with
        | nil => rfl
        | cons t ts => cases er
      subst this
      rw [List.append_nil] at e2
      subst e2
      exact k1 _ ⟨hu, a, rfl⟩
  · rintro _ ⟨hr, a, rfl⟩
    refine wq_cut (fun ρ => ∃ N a, behind n M (rs.map Int.toNat) = some N ∧ ρ = [some (.v (webD N)), some (.v (rowD rs)), a]) (fun K k1 k2 => ?_) ?_
    · refine wq_for (fun r ρ => ∃ (ts : List Int) (N : Mat) (a : Option C), r = ts.map D.int ∧ InR n ts ∧ Wb (10 ^ 30) n N ∧ behind n N (ts.map Int.toNat) = behind n M (rs.map Int.toNat) ∧ ρ = [some (.v (webD N)), some (.v (rowD rs)), a]) (fun J jk => ?_) ?_ ?_
      · simp
        exact jk _ _ ⟨rs, M, a, rfl, hr, h, rfl, rfl⟩
      · rintro d r ρ ⟨ts, N, a, er, hi, hN, hb, rfl⟩
        cases ts with
        | nil => cases er
        | cons t ts =>
          simp only [List.map_cons, List.cons.injEq] at er
          obtain ⟨rfl, rfl⟩ := er
          have ht := hi t (by simp)
          refine ⟨_, rfl, fun K' l1 l2 => wq ?_⟩
          simp
          refine wp_callE.mpr ?_
          simp [conts, dist]
          refine turned_ok hN (by omega) h1 hn (fun e => (e ht).elim) (fun _ e => he _ _ (q2 hr ?_)) fun _ hs => ?_
          · rw [← hb, List.map_cons, behind_no e]
          · simp [back]
            rw [List.map_cons, behind_yes hs] at hb
            exact l1 _ ⟨ts, _, _, rfl, fun k hk => hi k (by simp [hk]), hN.turned hs, hb, rfl⟩
      · rintro ρ ⟨ts, N, a, er, hi, hN, hb, rfl⟩
        have : ts = [] := by cases ts with
          | nil => rfl
          | cons t ts => cases er
        subst this
        exact k1 _ ⟨N, a, hb.symm, rfl⟩
    · rintro _ ⟨N, a, hb, rfl⟩
      refine wq ?_
      simp
      exact q3 N hr hb
end
theorem ab_le {b x : Int} : ab x ≤ b ↔ -b ≤ x ∧ x ≤ b := by unfold ab; split <;> omega
theorem great_iff {n : Nat} {M : Mat} (h : Sq n M) (h1 : 1 ≤ n) : maxI (M.map fun r => maxI (r.map ab)) ≤ 10 ^ 30 ↔ Sm M := by
  have hl : 0 < (M.map fun r => maxI (r.map ab)).length := by simp [h.len]; omega
  obtain ⟨m1, m2⟩ := maxI_le hl
  have hr : ∀ r ∈ M, 0 < (r.map ab).length := fun r hr => by simp [h.row r hr]; omega
  constructor
  · intro q r hr' x hx
    have t1 := m2 _ (List.mem_map.mpr ⟨r, hr', rfl⟩)
    have t2 := (maxI_le (hr r hr')).2 _ (List.mem_map.mpr ⟨x, hx, rfl⟩)
    exact ab_le.mp (by omega)
  · intro q
    obtain ⟨r, hr', e⟩ := List.mem_map.mp m1
    obtain ⟨x, hx, e2⟩ := List.mem_map.mp (maxI_le (hr r hr')).1
    rw [← e, ← e2]
    exact ab_le.mpr (q r hr' x hx)
theorem intsOf_nats (l : List Int) : intsOf (l.map D.int) = some l := intsOf_map l
theorem gMax_l {r : List Int} (h : 0 < r.length) : gMax [.l (r.map D.int)] = some (.v (.int (maxI r))) := by
  simp [gMax, seqOf, intsOf_map, h]
theorem too_great_ok {n : Nat} {M : Mat} (h : Sq n M) (h1 : 1 ≤ n) (hn : n ≤ 1000) {Q : C → Env → Prop} (q : ∀ b, (b = true ↔ ¬ Sm M) → Q (.v (.bl b)) [some (.v (webD M))]) : Wf X0 (f_law_too_great [.v (webD M)]) Q := by
  have sz := size_ge
  refine wf_mk0 rfl ?_
  unfold c_law_too_great
  refine wq ?_
  simp [List.replicate]
  refine wp_comp_map [some (.v (webD M)), none, none] (fun _ => true) (fun d => match d with
    | .tup xs => .int (maxI (((intsOf xs).getD []).map ab))
    | d => d) ?_
  simp [wipeE]
  refine ⟨by simp [h.len]; omega, ?_, fun x hx => ?_⟩
  · rw [filter_yes]
    have e : List.map (fun d => match d with
      | .tup xs => D.int (maxI (((intsOf xs).getD []).map ab))
      | d => d) (M.map rowD) = (M.map fun r => maxI (r.map ab)).map D.int := by
      rw [List.map_map, List.map_map]
      refine List.map_congr_left fun r _ => ?_
      simp [rowD, intsOf_map]
    rw [e, gMax_l (by simp [h.len]; omega)]
    simp [fins_v, fins_nil, putBack]
    refine q _ ?_
    rw [decide_eq_true_eq, ← great_iff h h1]
    omega
  · obtain ⟨r, hr, rfl⟩ := List.mem_map.mp hx
    have lr := h.row r hr
    simp [Tg.put]
    refine wp_comp_map [some (.v (webD M)), none, some (.v (rowD r))] (fun _ => true) (fun d => match d with
      | .int i => .int (ab i)
      | d => d) ?_
    simp [wipeE]
    refine ⟨by simp [lr]; omega, ?_, fun x hx => ?_⟩
    · rw [filter_yes]
      have e : List.map (fun d => match d with
        | .int i => D.int (ab i)
        | d => d) (r.map D.int) = (r.map ab).map D.int := by
        rw [List.map_map, List.map_map]
        exact List.map_congr_left fun r _ => rfl
      rw [e, gMax_l (by simp [lr]; omega)]
      simp [putBack, rowD, intsOf_map]
    · obtain ⟨i, hi, rfl⟩ := List.mem_map.mp hx
      simp [Tg.put]
theorem turns_ok {n mo m : Nat} {c : C} (h1 : 1 ≤ n) (hn : n ≤ 1000) (hmo : mo ≤ 1000) (hT : Tape (m + 2 * mo + 1) c) {Q : C → Env → Prop}
    (k : ∀ (ks : List Nat) c', (∀ i ∈ ks, i < n) → ks.length ≤ mo → Tape m c' → Q (.l (natsD ks)) [some c', some (.v (.int n)), some (.v (.int mo))]) : Wf X0 (f_law_turns [c, .v (.int n), .v (.int mo)]) Q := by
  have sz := size_ge
  refine wf_mk0 rfl ?_
  unfold c_law_turns
  refine wq_step [some c, some (.v (.int n)), some (.v (.int mo)), some (.l []), none, none] rfl ?_
  refine wq_cut (fun ρ => ∃ (ks : List Nat) (c' : C) (a b : Option C), (∀ i ∈ ks, i < n) ∧ ks.length ≤ mo ∧ Tape m c' ∧ ρ = [some c', some (.v (.int n)), some (.v (.int mo)), some (.l (natsD ks)), a, b]) (fun K k1 k2 => ?_) ?_
  · refine wq_for (fun r ρ => ∃ (ks : List Nat) (c' : C) (a b : Option C), (∀ i ∈ ks, i < n) ∧ ks.length + r.length ≤ mo ∧ Tape (m + 2 * r.length) c' ∧ ρ = [some c', some (.v (.int n)), some (.v (.int mo)), some (.l (natsD ks)), a, b]) (fun J jk => ?_) ?_ ?_
    · simp [conts, dist, AK.at_]
      refine draw_ok (n := m + 2 * mo) hT (by omega) (by omega) fun x c1 x0 x1 hT1 => ?_
      simp [back, gRange]
      exact ⟨by omega, jk _ _ ⟨[], c1, none, none, by simp, by simp; omega, hT1.le (by simp; omega), rfl⟩⟩
    · rintro d r ρ ⟨ks, c', a, b, hk, hl, hT', rfl⟩
      refine ⟨_, rfl, fun K' l1 l2 => wq ?_⟩
      simp at hl hT'
      simp [conts, dist, AK.at_]
      refine draw_ok (n := m + 2 * r.length + 1) (hT'.le (by omega)) (by omega) (by omega) fun x c1 x0 x1 hT1 => ?_
      obtain ⟨z, rfl⟩ : ∃ z : Nat, x = z := ⟨x.toNat, by omega⟩
      simp [back]
      have fin : ∀ (z : Nat) (c2 : C), z < n → Tape (m + 2 * r.length) c2 → Wq X0 (sEx (cMeth 3 gAppend (cCons (cVar 5) cNil))) [some c2, some (.v (.int n)), some (.v (.int mo)), some (.l (natsD ks)), some (.v d), some (.v (.int z))] K' := fun z c2 hz hT2 => by
        refine wq ?_
        simp [gAppend]
        have e : natsD ks ++ [D.int z] = natsD (ks ++ [z]) := by simp [natsD]
        refine ⟨by simp [natsD]; omega, ?_⟩
        rw [e]
        refine l1 _ ⟨_, _, _, _, fun i hi => ?_, by simp; omega, hT2, rfl⟩
        rcases List.mem_append.mp hi with hi | hi
        · exact hk i hi
        · have : i = z := by simpa using hi
          omega
      refine wq_cut (fun ρ => ∃ (z : Nat) (c2 : C), z < n ∧ Tape (m + 2 * r.length) c2 ∧ ρ = [some c2, some (.v (.int n)), some (.v (.int mo)), some (.l (natsD ks)), some (.v d), some (.v (.int z))]) (fun K2 m1 m2 => wq ?_) ?_
      · simp [gLst, vsOf]
        rw [gNe_nil (k := 0) (n := 0) (natsD_pn ks) (by decide)]
        have nope : ∀ c2, Tape (m + 2 * r.length) c2 → Wq X0 sNil [some c2, some (.v (.int n)), some (.v (.int mo)), some (.l (natsD ks)), some (.v d), some (.v (.int z))] K2 := fun c2 h2 => wq (wp_nil.mpr (m1 _ ⟨z, c2, by omega, h2, rfl⟩))
        simp
        refine ⟨fun e => ?_, fun _ => nope _ (hT1.le (by omega))⟩
        obtain ⟨j, rs, hj⟩ : ∃ j rs, ks = rs ++ [j] := by
          rcases List.eq_nil_or_concat ks with q | ⟨rs, j, q⟩
          · subst q; simp [natsD] at e
          · exact ⟨j, rs, by rw [q]; simp⟩
        have ea : L2.atI (natsD ks) (-1) = some (.int j) := by
          have hlen : (natsD ks).length = rs.length + 1 := by simp [natsD, hj]
          unfold L2.atI L2.ixN
          rw [if_neg (by decide), hlen, if_pos (by omega)]
          have : ((-1 : Int) + ((rs.length + 1 : Nat) : Int)).toNat = rs.length := by omega
          simp only [this, Option.bind_some]
          simp [natsD, hj]
        simp [gIx, seqOf, ea, conts, dist, AK.at_]
        refine ⟨fun _ => draw_ok (n := m + 2 * r.length) (hT1.le (by omega)) (by omega) (by omega) fun y c2 y0 y1 hT2 => ?_, fun _ => nope _ (hT1.le (by omega))⟩
        simp [back]
        refine ⟨fun _ => wq ?_, fun _ => nope _ hT2⟩
        simp
        refine ⟨by omega, m1 _ ⟨(z + 1) % n, c2, Nat.mod_lt _ (by omega), hT2, ?_⟩⟩
        simp
      · rintro _ ⟨z, c2, hz, hT2, rfl⟩
        exact fin z c2 hz hT2
    · rintro ρ ⟨ks, c', a, b, hk, hl, hT', rfl⟩
      exact k1 _ ⟨ks, c', a, b, hk, by simpa using hl, by simpa using hT', rfl⟩
  · rintro _ ⟨ks, c', a, b, hk, hl, hT', rfl⟩
    refine wq ?_
    simp [fins_own hT.own, fins_v, fins_nil]
    exact k ks c' hk hl hT'
def webO : Option Mat → D
  | some N => webD N
  | none => .non
theorem webD_ne_non (M : Mat) : webD M ≠ .non := by unfold webD; exact fun e => by cases e
@[simp] theorem gNotN_web (M : Mat) : gNotN [.v (webD M), .v .non] = some (.v (.bl true)) := rfl
@[simp] theorem gIsN_web (M : Mat) : gIsN [.v (webD M), .v .non] = some (.v (.bl false)) := rfl
@[simp] theorem gNotN_non : gNotN [.v .non, .v .non] = some (.v (.bl false)) := rfl
@[simp] theorem gIsN_non : gIsN [.v .non, .v .non] = some (.v (.bl true)) := rfl
theorem web_behind_okD {n : Nat} {M : Mat} {ks : List Nat} {dr : D} (hd : itemsOf (.v dr) = some (natsD ks)) (h : Wb (10 ^ 30) n M) (h1 : 1 ≤ n) (hn : n ≤ 1000) (hk : ∀ i ∈ ks, i < n) {Q : C → Env → Prop}
    (q : Q (.v (webO (behind n M ks))) [some (.v (webD M)), some (.v dr)]) : Wf X0 (f_law_web_behind [.v (webD M), .v (dr)]) Q := by
  refine wf_mk0 rfl ?_
  unfold c_law_web_behind
  simp only [fins_v, fins_nil]
  refine wq_cut (fun ρ => ∃ a, ρ = [some (.v (webO (behind n M ks))), some (.v dr), a]) (fun K k1 k2 => ?_) ?_
  · refine wq_for (fun r ρ => ∃ (ts : List Nat) (N : Option Mat) (a : Option C), r = natsD ts ∧ (∀ i ∈ ts, i < n) ∧ (∀ N', N = some N' → Wb (10 ^ 30) n N') ∧ (N.bind fun N => behind n N ts) = behind n M ks ∧ ρ = [some (.v (webO N)), some (.v dr), a]) (fun J jk => ?_) ?_ ?_
    · simp [List.replicate, hd]
      exact jk _ _ ⟨ks, some M, none, rfl, hk, fun N' e => by cases e; exact h, rfl, rfl⟩
    · rintro d r ρ ⟨ts, N, a, er, ht, hN, hb, rfl⟩
      cases ts with
      | nil => cases er
      | cons t ts =>
        simp only [natsD, List.map_cons, List.cons.injEq] at er
        obtain ⟨rfl, rfl⟩ := er
        have htn := ht t (by simp)
        refine ⟨_, rfl, fun K' l1 l2 => wq ?_⟩
        cases N with
        | none =>
          simp [webO]
          refine wq (wp_nil.mpr (l1 _ ⟨ts, none, _, rfl, fun i hi => ht i (by simp [hi]), (fun _ e => by cases e), hb, rfl⟩))
        | some N =>
          have hw := hN N rfl
          simp [webO]
          refine wq ?_
          simp [conts, dist]
          refine law_turn_ok hw (by omega) hn htn ?_
          simp [back]
          refine wq ?_
          simp [conts, dist]
          refine too_great_ok (turnM_sq n N t) h1 hn fun b hbb => ?_
          simp [back]
          refine ⟨fun e => wq ?_, fun e => wq (wp_nil.mpr (l1 _ ⟨ts, some (turnM n N t), _, rfl, fun i hi => ht i (by simp [hi]), fun N' e' => by cases e'; exact hw.turned (Classical.byContradiction fun z => by rw [hbb.mpr z] at e; cases e), ?_, rfl⟩))⟩
          · simp
            refine l1 _ ⟨ts, none, _, rfl, fun i hi => ht i (by simp [hi]), (fun _ e => by cases e), ?_, rfl⟩
            rw [← hb, Option.bind_some, behind_no (hbb.mp e)]; rfl
          · have hs : Sm (turnM n N t) := Classical.byContradiction fun z => by rw [hbb.mpr z] at e; cases e
            rw [← hb, Option.bind_some, Option.bind_some, behind_yes hs]
    · rintro ρ ⟨ts, N, a, er, ht, hN, hb, rfl⟩
      have : ts = [] := by cases ts with
        | nil => rfl
        | cons t ts => cases er
      subst this
      refine k1 _ ⟨a, ?_⟩
      rw [← hb]
      cases N <;> rfl
  · rintro _ ⟨a, rfl⟩
    refine wq ?_
    simp
    exact q
theorem web_behind_ok {n : Nat} {M : Mat} {ks : List Nat} (h : Wb (10 ^ 30) n M) (h1 : 1 ≤ n) (hn : n ≤ 1000) (hk : ∀ i ∈ ks, i < n) {Q : C → Env → Prop}
    (q : Q (.v (webO (behind n M ks))) [some (.v (webD M)), some (.v (.tup (natsD ks)))]) : Wf X0 (f_law_web_behind [.v (webD M), .v (.tup (natsD ks))]) Q := web_behind_okD rfl h h1 hn hk q
end SW

set_option Elab.async false
set_option linter.all false
set_option maxRecDepth 100000
set_option maxHeartbeats 4000000
set_option exponentiation.threshold 500
namespace SW
open PySem PySem.Spec PyProof.Rows L2
theorem natsD_ints (l : List Nat) : natsD l = (l.map fun (i : Nat) => (i : Int)).map D.int := by
  unfold natsD; rw [List.map_map]; rfl
theorem inR_nats {n : Nat} {rs : List Int} (h : InR n rs) : rs.map D.int = natsD (rs.map Int.toNat) ∧ ∀ i ∈ rs.map Int.toNat, i < n := by
  refine ⟨?_, fun i hi => ?_⟩
  · unfold natsD
    rw [List.map_map]
    refine List.map_congr_left fun k hk => ?_
    have := h k hk
    show D.int k = D.int ((k.toNat : Nat) : Int)
    congr 1; omega
  · obtain ⟨k, hk, rfl⟩ := List.mem_map.mp hi
    have := h k hk
    omega
theorem corner_filter {n : Nat} (rs : List Int) : ((rs.map D.int).filter (fun d => match d with
    | .int k => !(decide (0 ≤ k ∧ k < n))
    | _ => false)) = [] ↔ InR n rs := by
  rw [List.filter_eq_nil_iff]
  constructor
  · intro h k hk
    have := h (.int k) (List.mem_map.mpr ⟨k, hk, rfl⟩)
    simpa using this
  · intro h d hd
    obtain ⟨k, hk, rfl⟩ := List.mem_map.mp hd
    have := h k hk
    simpa using this
theorem gCh_test {k : Int} {n : Nat} : (0 ≤ k ∧ k < n) ∨ ¬ (0 ≤ k ∧ k < n) := Classical.em _
theorem row_due_ok {n : Nat} {M : Mat} {rs : List Int} (h : Wb (10 ^ 30) n M) (h1 : 1 ≤ n) (hn : n ≤ 1000) (hl : rs.length ≤ 1000) {Q : C → Env → Prop}
    (q1 : ¬ InR n rs → Q (.v (.tup [.str "corner"])) [some (.v (webD M)), some (.v (rowD rs))])
    (q2 : InR n rs → behind n M (rs.map Int.toNat) = none → Q (.v (.tup [.str "many"])) [some (.v (webD M)), some (.v (rowD rs))])
    (q3 : ∀ N, InR n rs → behind n M (rs.map Int.toNat) = some N → Q (.v .non) [some (.v (webD M)), some (.v (rowD rs))]) : Wf X0 (f_law_row_due [.v (webD M), .v (rowD rs)]) Q := by
  have sz := size_ge
  refine wf_mk0 rfl ?_
  unfold c_law_row_due
  simp only [fins_v, fins_nil]
  refine wq_cut (fun ρ => InR n rs ∧ ρ = [some (.v (webD M)), some (.v (rowD rs)), none]) (fun K k1 k2 => wq ?_) ?_
  · simp [List.replicate]
    refine wp_comp_map [some (.v (webD M)), some (.v (rowD rs)), none] (fun d => match d with
      | .int k => !(decide (0 ≤ k ∧ k < n))
      | _ => false) id ?_
    simp only [wpi_ival, wpi_var, isSS_some, isV_v, List.getElem?_cons_succ, List.getElem?_cons_zero]
    simp [wipeE, rowD, itemsOf]
    refine ⟨by omega, ?_, fun k hk => ?_⟩
    · simp [putBack, gLst, vsOf]
      have pn : ∀ x ∈ (rs.map D.int).filter (fun d => match d with
          | .int k => !(decide (0 ≤ k ∧ k < n))
          | _ => false), Pn 0 0 x := fun x hx => by
        obtain ⟨i, _, rfl⟩ := List.mem_map.mp (List.mem_filter.mp hx).1
        exact .int _
      have gn := gNe_nil pn (by omega)
      have cf := corner_filter (n := n) rs
      simp at gn cf
      rw [gn]
      simp
      refine ⟨fun x hx hx2 => wq ?_, fun hr => wq (wp_nil.mpr (k1 _ ⟨hr, rfl⟩))⟩
      simp [gTup, vsOf, vOf, sizeLine]
      exact k2 _ _ (q1 fun q => by have := q x hx; have := hx2 this.1; omega)
    · simp [Tg.put]
      refine wp_ch ?_
      have hlen : gLen [.v (webD M)] = some (.v (.int n)) := len_web h.sq
      by_cases c1 : 0 ≤ k <;> simp [c1, hlen] <;> omega
  · rintro _ ⟨hr, rfl⟩
    obtain ⟨e1, e2⟩ := inR_nats hr
    have er : rowD rs = .tup (natsD (rs.map Int.toNat)) := by unfold rowD; rw [e1]
    refine wq ?_
    rw [er]
    simp [conts, dist]
    refine web_behind_ok h h1 hn e2 ?_
    cases hb : behind n M (rs.map Int.toNat) with
    | none =>
      simp [back, webO]
      refine wq ?_
      simp [gTup, vsOf, vOf, sizeLine]
      have q := q2 hr hb
      rw [er] at q; exact q
    | some N =>
      simp [back, webO]
      refine wq ?_
      simp
      refine wq ?_
      simp
      have q := q3 N hr hb
      rw [er] at q; exact q
end SW

set_option Elab.async false
set_option linter.all false
set_option maxRecDepth 100000
set_option maxHeartbeats 4000000
namespace SW
open PySem PySem.Spec PyProof.Rows L2
theorem word_NoCorner {Q : C → Env → Prop} (q : Q (.v (.tup [.str "corner"])) [some (.v (.exc "NoCorner"))]) : Wf X0 (f_law_word [.v (.exc "NoCorner")]) Q := by
  refine wf_mk0 rfl ?_
  unfold c_law_word
  refine wq ?_
  simp [List.replicate, gIsE, subE, gLst, vsOf, vOf, sizeLine, C.fz]
  refine wq ?_
  simp [gIsE, subE, gLst, vsOf, vOf, sizeLine, C.fz, gAdd, lstOf]
  refine wq ?_
  simp [gIsE, subE, gLst, vsOf, vOf, sizeLine, C.fz, gAdd, lstOf]
  refine wq ?_
  simp [gIsE, subE, gLst, vsOf, vOf, sizeLine, C.fz, gAdd, lstOf]
  refine wq ?_
  have e1 := gCount_bls [false, true, false, false, false, false, false, false, false, false, false, false]
  have e2 := gIndex_bls [false, true, false, false, false, false, false, false, false, false, false, false] (j := 1) rfl
  simp at e1 e2
  simp [gIsE, subTE, tyM, e1]
  refine wq ?_
  simp [gLst, vsOf, vOf, sizeLine, C.fz]
  refine wq ?_
  simp [gLst, vsOf, vOf, sizeLine, C.fz]
  refine wq ?_
  simp [tyM, e2, gIx, seqOf, gTup, vsOf, vOf, sizeLine, fins_v, fins_nil]
  exact q
theorem word_TooMany {Q : C → Env → Prop} (q : Q (.v (.tup [.str "many"])) [some (.v (.exc "TooMany"))]) : Wf X0 (f_law_word [.v (.exc "TooMany")]) Q := by
  refine wf_mk0 rfl ?_
  unfold c_law_word
  refine wq ?_
  simp [List.replicate, gIsE, subE, gLst, vsOf, vOf, sizeLine, C.fz]
  refine wq ?_
  simp [gIsE, subE, gLst, vsOf, vOf, sizeLine, C.fz, gAdd, lstOf]
  refine wq ?_
  simp [gIsE, subE, gLst, vsOf, vOf, sizeLine, C.fz, gAdd, lstOf]
  refine wq ?_
  simp [gIsE, subE, gLst, vsOf, vOf, sizeLine, C.fz, gAdd, lstOf]
  refine wq ?_
  have e1 := gCount_bls [false, false, false, false, false, true, false, false, false, false, false, false]
  have e2 := gIndex_bls [false, false, false, false, false, true, false, false, false, false, false, false] (j := 5) rfl
  simp at e1 e2
  simp [gIsE, subTE, tyM, e1]
  refine wq ?_
  simp [gLst, vsOf, vOf, sizeLine, C.fz]
  refine wq ?_
  simp [gLst, vsOf, vOf, sizeLine, C.fz]
  refine wq ?_
  simp [tyM, e2, gIx, seqOf, gTup, vsOf, vOf, sizeLine, fins_v, fins_nil]
  exact q
theorem caught_NoCorner : caught_WebError "NoCorner" = some true := by simp [caught_WebError]
theorem caught_TooMany : caught_WebError "TooMany" = some true := by simp [caught_WebError]
theorem strOk_corner : PyData.strOk "corner" = true := by decide +kernel
theorem strOk_many : PyData.strOk "many" = true := by decide +kernel
end SW

set_option Elab.async false
set_option linter.all false
set_option maxRecDepth 100000
set_option maxHeartbeats 4000000
namespace SW
open PySem PySem.Spec PyProof.Rows L2
def unlst : D → D
  | .lst r => .tup r
  | d => d
theorem table_ok {n : Nat} {ts : List Tie} (hn : n ≤ 1000) (ht : ∀ t ∈ ts, t.i < n ∧ t.j < n) {Q : C → Env → Prop} (k : Q (.v (webD (tab n ts))) [some (.v (.int n)), some (.v (.lst (ts.map tieD)))]) : Wf X0 (f_law_table [.v (.int n), .v (.lst (ts.map tieD))]) Q := by
  have sz : (1000 : Nat) ≤ sizeLine := by decide
  unfold f_law_table
  refine wf_mk0 rfl ?_
  unfold c_law_table
  refine wq_cut (fun ρ => ρ = [some (.v (.int n)), some (.v (.lst (ts.map tieD))), some (.ll (llM (zeros n))), none, none, none, none]) (fun K k1 k2 => ?_) ?_
  · refine wq ?_
    simp [List.replicate]
    refine wp_compL_map [some (.v (.int n)), some (.v (.lst (ts.map tieD))), none, none, none, none, none] (fun _ => true) (fun _ => List.replicate n (.int 0)) ?_
    simp [gRange, wipeE]
    refine ⟨by omega, by omega, ⟨by simp [putBack], ?_⟩, fun d hd => ?_⟩
    · simp [putBack]
      refine k1 _ ?_
      rw [List.filter_eq_self.mpr (by simp), rangeD_const]
      simp [llM, zeros]
    · obtain ⟨i, hi, rfl⟩ := mem_rangeD.mp hd
      simp [Tg.put, gLst, vsOf, vOf, gMul, sizeLine]
      exact ⟨by omega, by omega⟩
  · rintro _ rfl
    refine wq_cut (fun ρ => ∃ a b c, ρ = [some (.v (.int n)), some (.v (.lst (ts.map tieD))), some (.ll (llM (tab n ts))), a, b, c, none]) (fun K k1 k2 => ?_) ?_
    · refine wq_for (fun r ρ => ∃ (ts' : List Tie) (M : Mat) (a b c : Option C), r = ts'.map tieD ∧ Sq n M ∧ ts'.foldl tieStep M = tab n ts ∧ (∀ t ∈ ts', t.i < n ∧ t.j < n) ∧ ρ = [some (.v (.int n)), some (.v (.lst (ts.map tieD))), some (.ll (llM M)), a, b, c, none]) (fun J j => ?_) ?_ ?_
      · simp [itemsOf]
        exact j _ _ ⟨ts, zeros n, none, none, none, rfl, zeros_sq n, rfl, ht, rfl⟩
      · rintro d r ρ ⟨ts', M, a, b, c, er, hM, hf, hb, rfl⟩
        cases ts' with
        | nil => cases er
        | cons t ts' =>
          simp only [List.map_cons, List.cons.injEq] at er
          obtain ⟨rfl, rfl⟩ := er
          obtain ⟨h1, h2⟩ := hb t (by simp)
          refine ⟨_, rfl, fun K j1 j2 => wq ?_⟩
          have g1 := gGet2_of hM (i := t.i) (j := t.j) (by omega) (by omega) (by omega) (by omega)
          have g2 := fun x => gSet2_of hM (i := t.i) (j := t.j) (x := x) (by omega) (by omega) (by omega) (by omega)
          simp only [Int.toNat_natCast] at g1 g2
          simp [aVar, g1, gAdd, g2]
          have hM2 := hM.set2 t.i t.j (at2 M t.i t.j + t.o)
          have g3 := gGet2_of hM2 (i := t.j) (j := t.i) (by omega) (by omega) (by omega) (by omega)
          have g4 := fun x => gSet2_of hM2 (i := t.j) (j := t.i) (x := x) (by omega) (by omega) (by omega) (by omega)
          simp only [Int.toNat_natCast] at g3 g4
          refine wq ?_
          simp [aVar, g3, g4]
          exact j1 _ ⟨ts', tieStep M t, _, _, _, rfl, tieStep_sq hM t, hf, fun t' h' => hb t' (by simp [h']), rfl⟩
      · rintro ρ ⟨ts', M, a, b, c, er, hM, hf, hb, rfl⟩
        cases ts' with
        | nil => exact k1 _ ⟨a, b, c, by rw [← hf]; rfl⟩
        | cons t ts' => cases er
    · rintro _ ⟨a, b, c, rfl⟩
      refine wq ?_
      have hS := tab_sq n ts
      simp
      refine wp_comp_map [some (.v (.int n)), some (.v (.lst (ts.map tieD))), some (.v (.lst ((llM (tab n ts)).map .lst))), a, b, c, none] (fun _ => true) unlst ?_
      simp [C.fz, itemsOf, wipeE]
      refine ⟨by simp [llM, hS.len]; omega, ?_, fun r hr => ?_⟩
      · rw [List.filter_eq_self.mpr (by simp)]
        simp [gTuple, lstOf, fins_v, fins_nil]
        have : List.map (unlst ∘ D.lst) (llM (tab n ts)) = (tab n ts).map rowD := by
          simp [llM, rowD, unlst]
        rw [this]
        exact k
      · simp [Tg.put, gTuple, lstOf, unlst]
end SW

set_option Elab.async false
set_option linter.all false
set_option maxRecDepth 100000
set_option maxHeartbeats 4000000
namespace SW
open PySem PySem.Spec PyProof.Rows L2
theorem numbered_ok {n : Nat} {M : Mat} {o : List Nat} (hn : n ≤ 1000) (hM : Sq n M) (ho : o.length ≤ n) (hb : ∀ i ∈ o, i < n) {Q : C → Env → Prop} (k : Q (.v (webD (numM M o))) [some (.v (webD M)), some (.v (.tup (natsD o)))]) : Wf X0 (f_law_numbered [.v (webD M), .v (.tup (natsD o))]) Q := by
  have sz : (1000 : Nat) ≤ sizeLine := by decide
  refine wf_mk0 rfl ?_
  unfold c_law_numbered
  refine wq ?_
  simp [List.replicate]
  refine wp_comp_map [some (.v (webD M)), some (.v (.tup (natsD o))), none, none] (fun _ => true) (fun d => match d with
    | .int i => rowD (o.map fun j => at2 M i.toNat j)
    | d => d) ?_
  simp [itemsOf, wipeE]
  refine ⟨by simp [natsD]; omega, ?_, fun d hd => ?_⟩
  · rw [List.filter_eq_self.mpr (by simp)]
    simp [gTuple, lstOf, fins_v, fins_nil]
    have : List.map (fun d => match d with
      | .int i => rowD (o.map fun j => at2 M i.toNat j)
      | d => d) (natsD o) = (numM M o).map rowD := by
      simp only [natsD, numM, List.map_map]
      refine List.map_congr_left fun i hi => ?_
      simp
    rw [this]
    exact k
  · obtain ⟨i, hi, rfl⟩ := List.mem_map.mp hd
    simp [Tg.put]
    refine wp_comp_map [some (.v (webD M)), some (.v (.tup (natsD o))), none, some (.v (.int i))] (fun _ => true) (fun d => match d with
      | .int j => .int (at2 M i j.toNat)
      | d => d) ?_
    simp [itemsOf, wipeE]
    refine ⟨by simp [natsD]; omega, ?_, fun d2 hd2 => ?_⟩
    · rw [List.filter_eq_self.mpr (by simp)]
      simp [gTuple, lstOf, putBack, rowD]
      simp only [natsD, List.map_map]
      refine List.map_congr_left fun j hj => ?_
      simp
    · obtain ⟨j, hj, rfl⟩ := List.mem_map.mp hd2
      obtain ⟨r, er, hr, ea⟩ := atI_webD hM (i := i) (by omega) (by have := hb i hi; omega)
      have eb := atI_row er hr (j := j) (by omega) (by have := hb j hj; omega)
      simp [Tg.put, gIx, webD, seqOf, ea, rowD]
      simp at eb
      simp [eb]
theorem order_ok {n m : Nat} {c : C} (hn : n ≤ 1000) (hT : Tape (m + n) c) {Q : C → Env → Prop} (k : ∀ o c', o.Perm (List.range n) → Tape m c' → Q (.v (.tup (natsD o))) [some c', some (.v (.int n))]) : Wf X0 (f_law_order [c, .v (.int n)]) Q := by
  have sz : (1000 : Nat) + 1000 ≤ sizeLine := by decide
  have big : (1000 : Int) < 2 ^ 62 := by decide
  refine wf_mk0 rfl ?_
  unfold c_law_order
  refine wq ?_
  simp [List.replicate, gListR]
  refine ⟨by omega, wq ?_⟩
  simp [gLst, vsOf]
  rw [← natsD_range]
  refine wq_cut (fun ρ => ∃ o c', o.Perm (List.range n) ∧ Tape m c' ∧ ρ = [some c', some (.v (.int n)), some (.l []), some (.l (natsD o))]) (fun K k1 k2 => ?_) ?_
  · refine wq_while (fun z ρ => ∃ (l f : List Nat) (c' : C), z = l.length ∧ (f ++ l).Perm (List.range n) ∧ Tape (m + l.length) c' ∧ ρ = [some c', some (.v (.int n)), some (.l (natsD l)), some (.l (natsD f))]) n ⟨List.range n, [], c, by simp, by simp, by simpa using hT, rfl⟩ (by omega) ?_
    rintro z ρ ⟨l, f, c', rfl, hp, hT', rfl⟩ K' Z zt zf kn kr
    simp [gLst, vsOf]
    rw [gNe_nil (k := 0) (n := 0) (natsD_pn l) (by decide)]
    cases l with
    | nil =>
      simp [natsD]
      exact zf _ (k1 _ ⟨f, c', by simpa using hp, by simpa using hT', rfl⟩)
    | cons x l =>
      simp [natsD]
      refine zt _ (wq ?_)
      simp [gLen, seqOf, conts, dist, AK.at_]
      refine draw_ok (n := m + l.length) hT' (by omega) (by have := hp.length_eq; simp at this; omega) fun i c2 h0 h1 hT2 => ?_
      have hx : i.toNat < (x :: l).length := by simp; omega
      have es : seqIndex? i (l.length + 1) = some i.toNat := by
        exact seqIndex_of h0 (by simpa using h1)
      have eg : (D.int ↑x :: List.map (fun (i : Nat) => D.int i) l)[i.toNat]? = some (.int ((x :: l)[i.toNat])) := by
        have : (D.int ↑x :: List.map (fun (i : Nat) => D.int i) l) = natsD (x :: l) := rfl
        rw [this]
        simp only [natsD, List.getElem?_map]
        rw [List.getElem?_eq_getElem hx]
        rfl
      have ee : (D.int ↑x :: List.map (fun (i : Nat) => D.int i) l).eraseIdx i.toNat = natsD ((x :: l).eraseIdx i.toNat) := by
        have : (D.int ↑x :: List.map (fun (i : Nat) => D.int i) l) = natsD (x :: l) := rfl
        rw [this]
        simp only [natsD, List.eraseIdx_eq_take_drop_succ, List.map_append, List.map_take, List.map_drop]
      have hlen : f.length + (l.length + 1) = n := by have := hp.length_eq; simpa using this
      simp [back, gPop, es, eg, ee, gAppend]
      refine ⟨by omega, by omega, ?_⟩
      have hl2 : ((x :: l).eraseIdx i.toNat).length = l.length := by rw [List.length_eraseIdx_of_lt hx]; simp
      refine kn ((x :: l).eraseIdx i.toNat).length _ (by rw [hl2]; simp) ⟨(x :: l).eraseIdx i.toNat, f ++ [(x :: l)[i.toNat]], c2, rfl, ?_, by rw [hl2]; exact hT2, ?_⟩
      · refine List.Perm.trans ?_ hp
        rw [List.append_assoc]
        refine List.Perm.append_left f ?_
        rw [List.eraseIdx_eq_take_drop_succ]
        show ((x :: l)[i.toNat] :: (List.take i.toNat (x :: l) ++ List.drop (i.toNat + 1) (x :: l))).Perm (x :: l)
        refine List.perm_middle.symm.trans ?_
        rw [List.getElem_cons_drop, List.take_append_drop]
      · simp [natsD]
  · rintro _ ⟨o, c', hp, hT', rfl⟩
    refine wq ?_
    simp [gTuple, lstOf, fins_own hT.own, fins_v, fins_nil]
    exact k o c' hp hT'
end SW

set_option Elab.async false
set_option linter.all false
set_option maxRecDepth 100000
set_option maxHeartbeats 4000000
namespace SW
open PySem PySem.Spec PyProof.Rows L2
theorem perm_lt {n : Nat} {o : List Nat} (h : o.Perm (List.range n)) : o.length = n ∧ ∀ i ∈ o, i < n :=
  ⟨by simpa using h.length_eq, fun i hi => by simpa using h.mem_iff.mp hi⟩
theorem shuffled_ok {n m : Nat} {c : C} {M : Mat} (hn : n ≤ 1000) (hM : Sq n M) (hT : Tape (m + n) c) {Q : C → Env → Prop} (k : ∀ o c', o.Perm (List.range n) → Tape m c' → Q (.v (webD (numM M o))) [some c', some (.v (webD M))]) : Wf X0 (f_law_shuffled_web [c, .v (webD M)]) Q := by
  refine wf_mk0 rfl ?_
  unfold c_law_shuffled_web
  refine wq ?_
  have hl : gLen [C.v (webD M)] = some (.v (.int n)) := by simp [gLen, webD, seqOf, hM.len]
  simp [List.replicate, hl, conts, dist, AK.at_]
  refine order_ok hn hT fun o c' ho hT' => ?_
  obtain ⟨h1, h2⟩ := perm_lt ho
  simp [back, conts, dist]
  refine numbered_ok hn hM (by omega) h2 ?_
  simp [back, fins_own hT.own, fins_v, fins_nil]
  exact k o c' ho hT'
theorem line_ok {n m : Nat} {c : C} (hn1 : 1 ≤ n) (hn : n ≤ 1000) (hT : Tape (m + 2 * n) c) {Q : C → Env → Prop} (k : ∀ (ts : List Tie) (c' : C), TsOk n ts → Tape m c' → Q (.v (webD (tab n ts))) [some c', some (.v (.int n))]) : Wf X0 (f_law_line [c, .v (.int n)]) Q := by
  have sz : (1000 : Nat) + 1000 ≤ sizeLine := by decide
  refine wf_mk0 rfl ?_
  unfold c_law_line
  refine wq_step [some c, some (.v (.int n)), some (.l []), none, none] rfl ?_
  refine wq_cut (fun ρ => ∃ (ts : List Tie) (c' : C) (a b : Option C), TsOk n ts ∧ Tape m c' ∧ ρ = [some c', some (.v (.int n)), some (.l (ts.map tieD)), a, b]) (fun K k1 k2 => ?_) ?_
  · refine wq_for (fun r ρ => ∃ (i : Nat) (ts : List Tie) (c' : C) (a b : Option C), r = rangeD i (n - i) ∧ 1 ≤ i ∧ i ≤ n ∧ TsOk i ts ∧ ts.length < i ∧ Tape (m + 2 * (n - i)) c' ∧ ρ = [some c', some (.v (.int n)), some (.l (ts.map tieD)), a, b]) (fun J j => ?_) ?_ ?_
    · simp [gRange]
      refine ⟨by omega, j _ _ ⟨1, [], c, none, none, ?_, by omega, hn1, .nil, by simp, hT.le (by omega), rfl⟩⟩
      have : (n : Int).toNat - 1 = n - 1 := by simp
      simp
    · rintro d r ρ ⟨i, ts, c', a, b, er, h1, h2, hts, hl, hT', rfl⟩
      obtain ⟨q, hq⟩ : ∃ q, n - i = q + 1 := by
        cases h : n - i with
        | zero => rw [h] at er; cases er
        | succ q => exact ⟨q, rfl⟩
      rw [hq, rangeD_succ] at er
      cases er
      refine ⟨_, rfl, fun K j1 j2 => wq ?_⟩
      simp
      have fin : ∀ (at_ : Nat) (c2 : C), at_ < i → Tape (m + 2 * q + 1) c2 → Wq X0 (sEx (cMeth 2 gAppend (cCons (cOp gIx (cCons (cOp gLst (cCons (cOp gTup (cCons (cVar 4) (cCons (cVar 3) (cCons (cC (.int 1)) cNil)))) (cCons (cOp gTup (cCons (cVar 3) (cCons (cVar 4) (cCons (cC (.int 1)) cNil)))) cNil))) (cCons (cCall f_law_draw (aSlot 0 (aVal (cC (.int 2)) aNil))) cNil))) cNil))) [some c2, some (.v (.int n)), some (.l (ts.map tieD)), some (.v (.int i)), some (.v (.int at_))] K := by
        intro at_ c2 ha hT2
        refine wq ?_
        simp [gTup, gLst, vsOf, vOf, sizeLine, conts, dist, AK.at_]
        refine draw_ok (m := 2) hT2 (by decide) (by decide) fun x c3 h0 h1 hT3 => ?_
        simp [back, gIx, seqOf]
        obtain ⟨y, _, _, hy, ey⟩ := atI_in (xs := [tieD ⟨at_, i, 1⟩, tieD ⟨i, at_, 1⟩]) (i := x) h0 (by simpa using h1)
        simp only [tieD] at ey
        rw [ey]
        have : ∃ t : Tie, y = tieD t ∧ ((t.i = i ∧ t.j < i) ∨ (t.j = i ∧ t.i < i)) ∧ t.o = 1 := by
          simp at hy
          rcases hy with rfl | rfl
          · exact ⟨_, rfl, .inr ⟨rfl, ha⟩, rfl⟩
          · exact ⟨_, rfl, .inl ⟨rfl, ha⟩, rfl⟩
        obtain ⟨t, rfl, ht1, ht2⟩ := this
        simp [gAppend]
        refine ⟨by omega, j1 _ ⟨i + 1, ts ++ [t], c3, some (.v (.int i)), some (.v (.int at_)), ?_, by omega, by omega, hts.line ht1 (by omega), by simp; omega, ?_, ?_⟩⟩
        · have : n - (i + 1) = q := by omega
          rw [this]; simp
        · have : n - (i + 1) = q := by omega
          rw [this]; exact hT3
        · simp
      refine wq_cut (fun ρ => ∃ (at_ : Nat) (c2 : C), at_ < i ∧ Tape (m + 2 * q + 1) c2 ∧ ρ = [some c2, some (.v (.int n)), some (.l (ts.map tieD)), some (.v (.int i)), some (.v (.int at_))]) (fun K' k1' k2' => wq ?_) ?_
      · have hT3 : Tape (m + 2 * q + 1 + 1) c' := by rw [hq] at hT'; exact hT'.le (by omega)
        simp [conts, dist, AK.at_]
        have nope : ∀ c2, Tape (m + 2 * q + 1) c2 → Wq X0 sNil [some c2, some (.v (.int n)), some (.l (ts.map tieD)), some (.v (.int i)), some (.v (.int ((i : Int) - 1)))] K' := by
          intro c2 hT2
          refine wq (wp_nil.mpr (k1' _ ⟨i - 1, c2, by omega, hT2, ?_⟩))
          rw [show ((i - 1 : Nat) : Int) = (i : Int) - 1 by omega]
        refine ⟨fun h3 => ⟨fun _ => draw_ok (m := 3) hT3 (by decide) (by decide) fun x c2 _ _ hT4 => ?_, fun _ => nope _ (hT3.le (by omega))⟩, fun _ => nope _ (hT3.le (by omega))⟩
        simp [back]
        refine ⟨fun _ => wq ?_, fun _ => nope _ hT4⟩
        simp
        refine k1' _ ⟨i - 2, c2, by omega, hT4, ?_⟩
        rw [show ((i - 2 : Nat) : Int) = (i : Int) - 2 by omega]
      · rintro _ ⟨at_, c2, ha, hT2, rfl⟩
        exact fin at_ c2 ha hT2
    · rintro ρ ⟨i, ts, c', a, b, er, h1, h2, hts, hl, hT', rfl⟩
      exact k1 _ ⟨ts, c', a, b, hts.le h2, hT'.le (by omega), rfl⟩
  · rintro _ ⟨ts, c', a, b, hts, hT', rfl⟩
    refine wq ?_
    simp [C.fz, conts, dist]
    refine table_ok hn hts.lt ?_
    simp [back, fins_own hT.own, fins_v, fins_nil]
    exact k ts c' hts hT'
end SW

set_option Elab.async false
set_option linter.all false
set_option maxRecDepth 100000
set_option maxHeartbeats 4000000
namespace SW
open PySem PySem.Spec PyProof.Rows L2
theorem web_ok {n m : Nat} {c : C} {Q : C → Env → Prop} (hn : 1 ≤ n) (hn6 : n ≤ 6) (hT : Tape (m + 1000) c) (k : ∀ q M c', 1 ≤ q → q ≤ n → Wb 9 q M → Tape m c' → Q (.v (webD M)) [some c', some (.v (.int n))]) : Wf X0 (f_law_web [c, .v (.int n)]) Q := by
  have sz : (1000 : Nat) + 1000 ≤ sizeLine := by decide
  refine wf_mk0 rfl ?_
  unfold c_law_web
  refine wq ?_
  simp [List.replicate, conts, dist, AK.at_]
  refine draw_ok (n := m + 999) hT (by omega) (by omega) fun x c1 x0 x1 hT1 => ?_
  obtain ⟨z, rfl⟩ : ∃ z : Nat, x = z := ⟨x.toNat, by omega⟩
  simp [back, gAdd]
  have e1 : (1 : Int) + z = ((z + 1 : Nat) : Int) := by omega
  rw [e1]
  generalize hq : z + 1 = q
  have q1 : 1 ≤ q := by omega
  have q6 : q ≤ n := by omega
  refine wq ?_
  simp [conts, dist, AK.at_]
  refine draw_ok (m := 6) (n := m + 998) hT1 (by decide) (by decide) fun w c2 w0 w1 hT2 => ?_
  simp [back]
  refine wq_cut (fun ρ => ρ = [some c2, some (.v (.int n)), some (.v (.int q)), some (.v (.int w)), none, none, none, none]) (fun K k1 k2 => wq ?_) ?_
  · simp
    refine ⟨fun _ => wq ?_, fun _ => wq (wp_nil.mpr (k1 _ rfl))⟩
    simp [conts, dist, AK.at_]
    refine line_ok (m := m + 900) q1 (by omega) (hT2.le (by omega)) fun ts c3 hts hT3 => ?_
    simp [back, conts, dist, AK.at_]
    refine shuffled_ok (m := m) (by omega) (tab_sq q ts) (hT3.le (by omega)) fun o c4 ho hT4 => ?_
    simp [back]
    refine k2 _ _ ?_
    simp [fins_own hT.own, fins_v, fins_nil]
    exact k q _ c4 q1 q6 (numM_wb (by omega) (tab_wb hts) (perm_lt ho).1) hT4
  · rintro _ rfl
    refine wq_cut (fun ρ => ρ = [some c2, some (.v (.int n)), some (.v (.int q)), some (.v (.int w)), none, none, none, none]) (fun K k1 k2 => wq ?_) ?_
    · simp
      refine ⟨fun _ => ⟨fun hq2 => wq ?_, fun _ => wq (wp_nil.mpr (k1 _ rfl))⟩, fun _ => wq (wp_nil.mpr (k1 _ rfl))⟩
      simp
      refine wp_comp_map [some c2, some (.v (.int n)), some (.v (.int q)), some (.v (.int w)), none, none, none, none] (fun _ => true) (fun d => match d with
        | .int i => tieD ⟨i.toNat, (i.toNat + 1) % q, 1⟩
        | d => d) ?_
      simp [gRange, wipeE]
      refine ⟨by omega, by omega, ?_, fun d hd => ?_⟩
      · rw [List.filter_eq_self.mpr (by simp), ← natsD_range]
        have : List.map (fun d => match d with
          | .int i => tieD ⟨i.toNat, (i.toNat + 1) % q, 1⟩
          | d => d) (natsD (List.range q)) = ((List.range q).map fun i => (⟨i, (i + 1) % q, 1⟩ : Tie)).map tieD := by
          simp only [natsD, List.map_map]
          refine List.map_congr_left fun i _ => ?_
          simp
        rw [this]
        have hts := ring_ok (q := q) (by omega)
        generalize ((List.range q).map fun i => (⟨i, (i + 1) % q, 1⟩ : Tie)) = ts at hts
        simp [putBack, C.fz, conts, dist, AK.at_]
        refine table_ok (by omega) hts.lt ?_
        simp [back]
        refine shuffled_ok (m := m) (by omega) (tab_sq q ts) (hT2.le (by omega)) fun o c4 ho hT4 => ?_
        simp [back]
        refine k2 _ _ ?_
        simp [fins_own hT.own, fins_v, fins_nil]
        exact k q _ c4 q1 q6 (numM_wb (by omega) (tab_wb hts) (perm_lt ho).1) hT4
      · obtain ⟨i, hi, rfl⟩ := mem_rangeD.mp hd
        simp [Tg.put, gAdd, gTup, vsOf, vOf, sizeLine, tieD]
        omega
    · rintro _ rfl
      refine wq_step [some c2, some (.v (.int n)), some (.v (.int q)), some (.v (.int w)), none, some (.l []), none, none] rfl ?_
      refine wq_cut (fun ρ => ∃ (ts : List Tie) (c' : C) (a b d : Option C), TsOk q ts ∧ Tape m c' ∧ ρ = [some c', some (.v (.int n)), some (.v (.int q)), some (.v (.int w)), a, some (.l (ts.map tieD)), b, d]) (fun K k1 k2 => ?_) ?_
      · refine wq_for (fun r ρ => ∃ (i : Nat) (ts : List Tie) (c' : C) (a b d : Option C), r = rangeD i (q - i) ∧ i ≤ q ∧ (TsOk q ts ∧ ∀ t ∈ ts, t.i < t.j ∧ t.i < i) ∧ ts.length ≤ 10 * i ∧ Tape (m + 40 * (q - i) + 10) c' ∧ ρ = [some c', some (.v (.int n)), some (.v (.int q)), some (.v (.int w)), a, some (.l (ts.map tieD)), b, d]) (fun J j => ?_) ?_ ?_
        · simp [gRange]
          exact ⟨by omega, j _ _ ⟨0, [], c2, none, none, none, by simp, by omega, ⟨.nil, by simp⟩, by simp, hT2.le (by omega), rfl⟩⟩
        · rintro d r ρ ⟨i, ts, c', a, b, d', er, h2, hts, hl, hT', rfl⟩
          obtain ⟨p, hp⟩ : ∃ p, q - i = p + 1 := by
            cases h : q - i with
            | zero => rw [h] at er; cases er
            | succ p => exact ⟨p, rfl⟩
          rw [hp, rangeD_succ] at er
          cases er
          refine ⟨_, rfl, fun K j1 j2 => ?_⟩
          refine wq_for (fun r ρ => ∃ (j : Nat) (ts : List Tie) (c' : C) (b d : Option C), r = rangeD j (q - j) ∧ i + 1 ≤ j ∧ j ≤ q ∧ (TsOk q ts ∧ ∀ t ∈ ts, t.i < t.j ∧ (t.i < i ∨ t.i = i ∧ t.j < j)) ∧ ts.length ≤ 10 * i + (j - i - 1) ∧ Tape (m + 40 * p + 10 + 5 * (q - j)) c' ∧ ρ = [some c', some (.v (.int n)), some (.v (.int q)), some (.v (.int w)), some (.v (.int i)), some (.l (ts.map tieD)), b, d]) (fun J j => ?_) ?_ ?_
          · simp [gRange, gAdd]
            refine ⟨by omega, j _ _ ⟨i + 1, ts, c', b, d', ?_, by omega, by omega, ⟨hts.1, fun t ht => ⟨(hts.2 t ht).1, .inl (hts.2 t ht).2⟩⟩, by omega, hT'.le (by omega), rfl⟩⟩
            have : ((q : Int) - (i + 1)).toNat = q - (i + 1) := by omega
            simp [this]
          · rintro d r ρ ⟨jj, ts, c', b, d', er, h3, h4, hts, hl, hT', rfl⟩
            obtain ⟨s, hs⟩ : ∃ s, q - jj = s + 1 := by
              cases h : q - jj with
              | zero => rw [h] at er; cases er
              | succ p => exact ⟨p, rfl⟩
            rw [hs, rangeD_succ] at er
            cases er
            refine ⟨_, rfl, fun K' l1 l2 => wq ?_⟩
            simp [conts, dist, AK.at_]
            refine draw_ok (m := 3) (n := m + 40 * p + 10 + 5 * s + 4) (hT'.le (by omega)) (by decide) (by decide) fun a1 c3 a10 a11 hT3 => ?_
            simp [back, conts, dist, AK.at_]
            refine draw_ok (m := 5) (n := m + 40 * p + 10 + 5 * s + 3) hT3 (by decide) (by decide) fun a2 c4 a20 a21 hT4 => ?_
            simp [back, conts, dist, AK.at_]
            refine draw_ok (m := 19) (n := m + 40 * p + 10 + 5 * s + 2) hT4 (by decide) (by decide) fun a3 c5 a30 a31 hT5 => ?_
            simp [back, gLst, vsOf, vOf, sizeLine, gIx, seqOf]
            obtain ⟨y, _, _, hy, ey⟩ := atI_in (xs := [D.int (a1 - 1), .int (a2 - 2), .int (a3 - 9)]) (i := w % 3) (by omega) (by simp; omega)
            rw [ey]
            obtain ⟨o, rfl, ho1, ho2⟩ : ∃ o, y = .int o ∧ -9 ≤ o ∧ o ≤ 9 := by
              simp at hy
              rcases hy with rfl | rfl | rfl
              · exact ⟨_, rfl, by omega, by omega⟩
              · exact ⟨_, rfl, by omega, by omega⟩
              · exact ⟨_, rfl, by omega, by omega⟩
            simp
            have fin : ∀ (u : Int) (c6 : C), (-9 ≤ u ∧ u ≤ 9) → Tape (m + 40 * p + 10 + 5 * s) c6 → K' .nx [some c6, some (.v (.int n)), some (.v (.int q)), some (.v (.int w)), some (.v (.int i)), some (.l (ts.map tieD ++ [tieD ⟨i, jj, u⟩])), some (.v (.int jj)), some (.v (.int o))] := by
              intro u c6 hu hT6
              refine l1 _ ⟨jj + 1, ts ++ [⟨i, jj, u⟩], c6, some (.v (.int jj)), some (.v (.int o)), ?_, by omega, by omega, ?_, by simp; omega, ?_, by simp⟩
              · have : q - (jj + 1) = s := by omega
                rw [this]; simp
              · refine ⟨hts.1.snoc (Nat.le_refl _) (by show i < q; omega) (by show jj < q; omega) (by show i ≠ jj; omega) hu fun a ha q => ?_, fun t' h' => ?_⟩
                · have := hts.2 a ha
                  unfold Tie.on at q
                  dsimp only at q
                  omega
                · rcases List.mem_append.mp h' with h' | h'
                  · have := hts.2 t' h'
                    omega
                  · simp at h'; subst h'; dsimp only; omega
              · have : q - (jj + 1) = s := by omega
                rw [this]; exact hT6
            refine wq ?_
            simp [conts, dist, AK.at_]
            have mul : ∀ b : Bool, gMul [C.v (D.int o), .v (.int (if b = true then 1 else 0))] = some (.v (.int (o * (if b = true then 1 else 0)))) := fun b => by
              have hb : ((if b = true then 1 else 0 : Int)).natAbs < 2 ^ 400 := by cases b <;> decide
              have ho : o.natAbs < 2 ^ 400 := by omega
              simp only [gMul, bitsOk_of ho hb, if_true]
            have sm : ∀ b : Bool, -9 ≤ o * (if b = true then 1 else 0) ∧ o * (if b = true then 1 else 0) ≤ 9 := fun b => by cases b <;> simp <;> omega
            refine ⟨fun _ => ?_, fun _ => draw_ok (m := 3) (n := m + 40 * p + 10 + 5 * s + 1) hT5 (by decide) (by decide) fun a4 c6 a40 a41 hT6 => ?_⟩
            · have mul1 := mul true
              simp only [if_true] at mul1
              simp [gInt, mul1, gTup, vsOf, vOf, gAppend, sizeLine]
              have := fin (o * 1) c5 (by simpa using sm true) (hT5.le (by omega))
              simp [tieD] at this
              exact ⟨by omega, this⟩
            · simp only [gI_ii, if_true, isS_some, isB_v]
              generalize decide (0 < a4) = bb
              simp [back, gInt, mul bb, gTup, vsOf, vOf, gAppend, sizeLine]
              have := fin (o * (if bb = true then 1 else 0)) c6 (sm bb) (hT6.le (by omega))
              simp [tieD] at this
              exact ⟨by omega, this⟩
          · rintro ρ ⟨jj, ts, c', b, d', er, h3, h4, hts, hl, hT', rfl⟩
            refine j1 _ ⟨i + 1, ts, c', some (.v (.int i)), b, d', ?_, by omega, ⟨hts.1, fun t ht => by have := hts.2 t ht; omega⟩, by omega, ?_, rfl⟩
            · have : q - (i + 1) = p := by omega
              rw [this]; simp
            · have : q - (i + 1) = p := by omega
              rw [this]; exact hT'.le (by omega)
        · rintro ρ ⟨i, ts, c', a, b, d', er, h2, hts, hl, hT', rfl⟩
          exact k1 _ ⟨ts, c', a, b, d', hts.1, hT'.le (by omega), rfl⟩
      · rintro _ ⟨ts, c', a, b, d', hts, hT', rfl⟩
        refine wq ?_
        simp [C.fz, conts, dist]
        refine table_ok (by omega) hts.lt ?_
        simp [back, fins_own hT.own, fins_v, fins_nil]
        exact k q _ c' q1 q6 (tab_wb hts) hT'
end SW

set_option Elab.async false
set_option linter.all false
set_option maxRecDepth 100000
set_option maxHeartbeats 4000000
set_option autoImplicit false
/-! Pl10: own dicts that are only read. -/
namespace SW
open PySem PySem.Spec PyProof.Rows L2
def isDc (c : C) (P : List (D × D) → Prop) : Prop := match c with
  | .dc kvs => P kvs
  | _ => False
@[simp] theorem isDc_dc {kvs : List (D × D)} {P : List (D × D) → Prop} : isDc (.dc kvs) P ↔ P kvs := Iff.rfl
section
variable {E : String → Env → Prop}
@[simp] theorem wpi_rms {i : Nat} {g : List C → Option C} {cl : Env → R (List C)} {ρ : Env} {Q : C → Env → Prop} : Wp E (cRMs i g cl ρ) Q ↔ (isSS ρ[i]? fun c => isDc c fun _ => True) ∧ Wp E (cl ρ) fun cs ρ1 => isSS ρ1[i]? fun c => isS (g (c :: cs)) fun r => Q r ρ1 := by
  unfold cRMs
  split
  · rename_i kvs e
    rw [e, wp_bind]
    simp only [isSS_some, isDc_dc, true_and]
    constructor <;> intro h <;> refine h.mono fun x ρ1 h => ?_
    · split at h
      · rename_i c e1
        split at h
        · rename_i r e2
          rw [e1, isSS_some, e2, isS_some]; exact wp_ok.mp h
        · rw [wpw] at h; exact h.elim
      · rw [wpw] at h; exact h.elim
    · obtain ⟨c, e1, h⟩ := isSS_iff.mp h
      obtain ⟨r, e2, h⟩ := isS_iff.mp h
      rw [e1]
      dsimp only
      rw [e2]; exact wp_ok.mpr h
  · rename_i hn
    constructor
    · intro h; rw [wpw] at h; exact h.elim
    · rintro ⟨h, _⟩
      obtain ⟨c, e1, h⟩ := isSS_iff.mp h
      cases c <;> first | exact h.elim | exact (hn _ e1).elim
end
end SW

set_option Elab.async false
set_option linter.all false
set_option maxRecDepth 100000
set_option maxHeartbeats 4000000
set_option autoImplicit false
/-! Pl11: a, b = x, y; a, b = a list. -/
namespace SW
open PySem PySem.Spec PyProof.Rows L2
def isVV (cs : List C) (P : D → D → Prop) : Prop := match cs with
  | [.v a, .v b] => P a b
  | _ => False
@[simp] theorem isVV_vv {a b : D} {P : D → D → Prop} : isVV [.v a, .v b] P ↔ P a b := Iff.rfl
def isLs (c : C) (P : List D → Prop) : Prop := match c with
  | .v (.lst ds) => P ds
  | _ => False
@[simp] theorem isLs_l {ds : List D} {P : List D → Prop} : isLs (.v (.lst ds)) P ↔ P ds := Iff.rfl
section
variable {E : String → Env → Prop}
@[simp] theorem wpi_par {i j : Nat} {cl : Env → R (List C)} {ρ : Env} {Q : Fl → Env → Prop} : Wp E (sPar i j cl ρ) Q ↔ Wp E (cl ρ) fun cs ρ1 => isVV cs fun a b => (i < ρ1.length ∧ j < ρ1.length) ∧ Q .nx ((ρ1.set i (some (.v a))).set j (some (.v b))) := by
  unfold sPar
  rw [wp_bind]
  constructor <;> intro h <;> refine h.mono fun cs ρ1 h => ?_
  · split at h
    · split at h
      · rename_i hl
        exact ⟨hl, wp_ok.mp h⟩
      · rw [wpw] at h; exact h.elim
    · rw [wpw] at h; exact h.elim
  · unfold isVV at h
    split at h
    · try dsimp only
      rw [if_pos h.1]; exact wp_ok.mpr h.2
    · exact h.elim
@[simp] theorem wpi_unl {ts : List Tg} {c : Env → R C} {ρ : Env} {Q : Fl → Env → Prop} : Wp E (sUnl ts c ρ) Q ↔ Wp E (c ρ) fun x ρ1 => isLs x fun ds => isS (Tg.puts ts ds ρ1) fun ρ2 => Q .nx ρ2 := by
  unfold sUnl
  rw [wp_bind]
  constructor <;> intro h <;> refine h.mono fun x ρ1 h => ?_
  · split at h
    · split at h
      · rename_i ρ2 e
        simp only [isLs_l, e, isS_some]; exact wp_ok.mp h
      · rw [wpw] at h; exact h.elim
    · rw [wpw] at h; exact h.elim
  · unfold isLs at h
    split at h
    · obtain ⟨ρ2, e, h⟩ := isS_iff.mp h
      try dsimp only
      rw [e]; exact wp_ok.mpr h
    · exact h.elim
end
end SW

set_option Elab.async false
set_option linter.all false
set_option maxRecDepth 100000
set_option maxHeartbeats 4000000
set_option autoImplicit false
/-! Pl12: a < b < c < d of slots. -/
namespace SW
open PySem PySem.Spec PyProof.Rows L2
section
variable {E : String → Env → Prop}
theorem wpi_lt4 {i j k l : Nat} {a b c d : Int} {ρ : Env} {Q : C → Env → Prop} (h1 : ρ[i]? = some (some (.v (.int a)))) (h2 : ρ[j]? = some (some (.v (.int b)))) (h3 : ρ[k]? = some (some (.v (.int c)))) (h4 : ρ[l]? = some (some (.v (.int d)))) (h : Q (.v (.bl (ltB4 a b c d))) ρ) : Wp E (cLt4 i j k l ρ) Q := by
  unfold cLt4
  rw [h1, h2, h3, h4]
  exact wp_ok.mpr h
end
end SW

set_option Elab.async false
set_option linter.all false
set_option maxRecDepth 100000
set_option maxHeartbeats 4000000
set_option autoImplicit false
/-! Pl13: x in c, c.index(x) for data without truths; x op= k. -/
namespace SW
open PySem PySem.Spec PyProof.Rows L2
theorem any_cl {q : PyData} {d : D} (hd : cl d = true) (eq : toP d = some q) : ∀ {xs : List D} {ps : List PyData}, (∀ x ∈ xs, cl x = true) → toPs xs = some ps → (ps.any fun z => PyData.eqv z q) = decide (d ∈ xs)
  | [], ps, _, e => by cases e; simp
  | x :: xs, ps, h, e => by
    unfold toPs at e
    split at e
    · rename_i p ps' hp hps
      cases e
      have ih := any_cl hd eq (fun y hy => h y (by simp [hy])) hps
      have := eqv_cl x d p q (h x (by simp)) hd hp eq
      rw [List.any_cons, ih, Bool.eq_iff_iff]
      simp only [Bool.or_eq_true, this, decide_eq_true_eq, List.mem_cons]
      constructor
      · rintro (h | h)
        · exact .inl h.symm
        · exact .inr h
      · rintro (h | h)
        · exact .inl h.symm
        · exact .inr h
    · cases e
theorem idx_cl {q : PyData} {d : D} (hd : cl d = true) (eq : toP d = some q) : ∀ {xs : List D} {ps : List PyData}, (∀ x ∈ xs, cl x = true) → toPs xs = some ps → d ∈ xs → (ps.findIdx? fun z => PyData.eqv z q) = some (xs.findIdx fun x => decide (x = d))
  | [], ps, _, e, h => by simp at h
  | x :: xs, ps, h, e, hm => by
    unfold toPs at e
    split at e
    · rename_i p ps' hp hps
      cases e
      have := eqv_cl x d p q (h x (by simp)) hd hp eq
      rw [List.findIdx?_cons, List.findIdx_cons]
      by_cases hx : x = d
      · rw [this.mpr hx]; simp [hx]
      · have hf : PyData.eqv p q = false := by rw [Bool.eq_false_iff]; exact fun z => hx (this.mp z)
        have ih := idx_cl hd eq (fun y hy => h y (by simp [hy])) hps (by
          rcases List.mem_cons.mp hm with e | e
          · exact (hx e.symm).elim
          · exact e)
        rw [hf, ih]
        simp [hx]
    · cases e
/-- rows of data that may be looked through -/
structure Ck (xs : List D) : Prop where
  cl : ∀ x ∈ xs, cl x = true
  pn : ∃ k n, (∀ x ∈ xs, Pn k n x) ∧ n ≤ 50
theorem gIn_cq {neg : Bool} {c : C} {xs : List D} {d : D} (hs : seqOf c = some xs) (hx : Ck xs) (hd : Cq (.v d) d) (hns : ∀ x, d ≠ .str x) : inC neg [.v d, c] = some (.v (.bl (neg ^^ decide (d ∈ xs)))) := by
  obtain ⟨k, n, pn, hn⟩ := hx.pn
  obtain ⟨k', n', pd, hn'⟩ := hd.pn
  obtain ⟨ps, e1, el, s1, s2⟩ := Pns.toP pn (by omega)
  obtain ⟨q, e2, lq, dq⟩ := pd.toP
  have sq := shaped_of lq (by omega)
  have ha := any_cl hd.cl e2 hx.cl e1
  have key : (match seqOf c with
    | some xs => (match toPs xs, toP d with
      | some ps, some q => if SeqAt.shaped (.list ps) = true ∧ SeqAt.shaped q = true then some (C.v (.bl (neg ^^ ps.any fun z => PyData.eqv z q))) else none
      | _, _ => none)
    | none => none) = some (.v (.bl (neg ^^ decide (d ∈ xs)))) := by
    simp only [hs, e1, e2, s1, sq, and_self, if_true, ha]
  unfold inC
  split
  · rename_i x z h1
    injection h1 with h1 _
    injection h1 with h1
    exact (hns x h1).elim
  · rename_i d' c' h0 h1
    injection h1 with h1 h2
    injection h1 with h1
    injection h2 with h2 _
    subst h1 h2
    exact key
  · rename_i h0 h1
    exact (h1 d c rfl).elim
theorem gIndexT_cq {xs : List D} {d : D} (hx : Ck xs) (hd : Cq (.v d) d) (hm : d ∈ xs) : gIndexT [.v (.tup xs), .v d] = some (.v (.int (xs.findIdx fun x => decide (x = d)))) := by
  obtain ⟨k, n, pn, hn⟩ := hx.pn
  obtain ⟨k', n', pd, hn'⟩ := hd.pn
  obtain ⟨ps, e1, el, s1, s2⟩ := Pns.toP pn (by omega)
  obtain ⟨q, e2, lq, dq⟩ := pd.toP
  have sq := shaped_of lq (by omega)
  have ha := idx_cl hd.cl e2 hx.cl e1 hm
  have ht : tupOf (.v (.tup xs)) = some xs := rfl
  simp only [gIndexT, ht, e1, e2, s2, sq, and_self, if_true, ha, Option.map_some]
section
variable {E : String → Env → Prop}
theorem wpi_aug {i : Nat} {f : Int → Int → Int} {k x : Int} {ρ : Env} {Q : Fl → Env → Prop} (h1 : ρ[i]? = some (some (.v (.int x)))) (h : Q .nx (ρ.set i (some (.v (.int (f x k)))))) : Wp E (sAug i f k ρ) Q := by
  unfold sAug
  rw [h1]
  exact wp_ok.mpr h
theorem wpi_aug2 {i : Nat} {a1 a2 : Env → Option D} {f : Int → Int → Int} {k x : Int} {c c' : C} {d1 d2 : D} {ρ : Env} {Q : Fl → Env → Prop} (h1 : ρ[i]? = some (some c)) (h2 : a1 ρ = some d1) (h3 : a2 ρ = some d2) (h4 : gGet2 c d1 d2 = some (.int x)) (h5 : gSet2 c d1 d2 (.int (f x k)) = some c')
    (h : Q .nx (ρ.set i (some c'))) : Wp E (sAug2 i a1 a2 f k ρ) Q := by
  unfold sAug2
  rw [h1, h2, h3]
  dsimp only
  rw [h4]
  dsimp only
  rw [h5]
  exact wp_ok.mpr h
end
end SW

set_option Elab.async false
set_option linter.all false
set_option maxRecDepth 100000
set_option maxHeartbeats 4000000
set_option autoImplicit false
set_option exponentiation.threshold 500
/-! G23: which forms come up. -/
namespace SW
open PySem PySem.Spec PyProof.Rows L2
abbrev Ent := Mat × List Nat
def entD (e : Ent) : D := .tup [webD e.1, .tup (natsD e.2)]
def frm (f : List Ent) : List Mat := f.map fun e => e.1
/-- the turns of one web, one after the other -/
noncomputable def innerO (n most : Nat) (W : Mat) (row : List Nat) : List Nat → List Ent → Option (List Ent)
  | [], f => some f
  | k :: ks, f => match Classical.propDecidable (Sm (turnM n W k)) with
    | .isFalse _ => none
    | .isTrue _ => if least n (turnM n W k) ∈ frm f then innerO n most W row ks f else if f.length = most then none else innerO n most W row ks (f ++ [(least n (turnM n W k), row ++ [k])])
theorem inner_great {n most k : Nat} {W : Mat} {row ks : List Nat} {f : List Ent} (h : ¬ Sm (turnM n W k)) : innerO n most W row (k :: ks) f = none := by
  rw [innerO]
  cases Classical.propDecidable (Sm (turnM n W k)) with
  | isTrue g => exact (h g).elim
  | isFalse _ => rfl
theorem inner_sm {n most k : Nat} {W : Mat} {row ks : List Nat} {f : List Ent} (h : Sm (turnM n W k)) : innerO n most W row (k :: ks) f = if least n (turnM n W k) ∈ frm f then innerO n most W row ks f else if f.length = most then none else innerO n most W row ks (f ++ [(least n (turnM n W k), row ++ [k])]) := by
  rw [innerO]
  cases Classical.propDecidable (Sm (turnM n W k)) with
  | isTrue _ => rfl
  | isFalse g => exact (g h).elim
/-- the web behind an entry's row -/
noncomputable def ownW (n : Nat) (M : Mat) (row : List Nat) : Mat := (behind n M row).getD M
noncomputable def kindsO (n most : Nat) (M : Mat) : Nat → Nat → List Ent → Option (List Ent)
  | 0, _, f => some f
  | l + 1, i, f => match f[i]? with
    | none => some f
    | some e => match innerO n most (ownW n M e.2) e.2 (List.range n) f with
      | none => none
      | some f' => kindsO n most M l (i + 1) f'
/-- entries whose rows can be gone -/
def EntOk (n : Nat) (M : Mat) (f : List Ent) : Prop := ∀ e ∈ f, ((∀ k ∈ e.2, k < n) ∧ e.2.length ≤ f.length) ∧ ∃ W, behind n M e.2 = some W
theorem behind_snoc {n : Nat} : ∀ {r : List Nat} {M W : Mat} {k : Nat}, behind n M r = some W → Sm (turnM n W k) → behind n M (r ++ [k]) = some (turnM n W k)
  | [], M, W, k, h, s => by
    cases h
    rw [List.nil_append, behind_yes s]; rfl
  | a :: r, M, W, k, h, s => by
    by_cases sa : Sm (turnM n M a)
    · rw [behind_yes sa] at h
      rw [List.cons_append, behind_yes sa]
      exact behind_snoc h s
    · rw [behind_no sa] at h; cases h
theorem natsD_rows (l : List Nat) : D.tup (natsD l) = rowD (l.map fun (i : Nat) => (i : Int)) := by unfold rowD; rw [natsD_int]
theorem inR_of {n : Nat} {l : List Nat} (h : ∀ i ∈ l, i < n) : InR n (l.map fun (i : Nat) => (i : Int)) := fun k hk => by
  obtain ⟨i, hi, rfl⟩ := List.mem_map.mp hk
  have := h i hi
  omega
theorem toNat_map (l : List Nat) : (l.map fun (i : Nat) => (i : Int)).map Int.toNat = l := by
  rw [List.map_map]
  have : (Int.toNat ∘ fun (i : Nat) => (i : Int)) = id := funext fun i => by simp
  rw [this]; simp
theorem gIx_ent {f : List Ent} {i : Nat} (h : i < f.length) : gIx [.l (f.map entD), .v (.int i)] = some (.v (entD f[i])) := by
  simp [gIx, seqOf, L2.atI, L2.ixN, h]
theorem lleast_eq : f_law_least = f_least_form := rfl
section
variable {E : String → Env → Prop}
theorem kinds_ok {n most : Nat} {M : Mat} (hM : Wb (10 ^ 30) n M) (h1 : 1 ≤ n) (h6 : n ≤ 6) (hm1 : 1 ≤ most) (hm : most ≤ 1000) {Q : C → Env → Prop}
    (q1 : kindsO n most M 2000 0 [(least n M, [])] = none → E "TooMany" [some (.v (webD M)), some (.v (.int most))])
    (q2 : ∀ f, f.length ≤ most → kindsO n most M 2000 0 [(least n M, [])] = some f → Q (.l (f.map entD)) [some (.v (webD M)), some (.v (.int most))]) : Wf E (f_kinds [.v (webD M), .v (.int most)]) Q := by
  have sz := size_ge
  refine wf_mkE rfl fun E' he => ?_
  unfold c_kinds
  simp only [fins_v, fins_nil] at he ⊢
  generalize hO : kindsO n most M 2000 0 [(least n M, [])] = O at q1 q2
  refine wq_cut (fun ρ => ρ = [some (.v (webD M)), some (.v (.int most)), some (.l ([((least n M, []) : Ent)].map entD)), none, none, none, none, none, none]) (fun J k1 k2 => wq ?_) ?_
  · simp [List.replicate]
    refine wp_callU ?_
    simp [conts, dist]
    refine least_form_ok hM.sq h6 ?_
    simp [back, gTup, vsOf, vOf, gLst]
    exact ⟨by omega, by omega, k1 _ rfl⟩
  rintro _ rfl
  refine wq_cut (fun ρ => ρ = [some (.v (webD M)), some (.v (.int most)), some (.l ([((least n M, []) : Ent)].map entD)), some (.dc (thereD (frm [(least n M, [])]))), none, none, none, none, none]) (fun J k1 k2 => wq ?_) ?_
  · refine wp_setN.mpr ?_
    refine wp_dict1 (M := least n M) rfl rfl ?_
    exact ⟨by simp, k1 _ rfl⟩
  rintro _ rfl
  refine wq_step [some (.v (webD M)), some (.v (.int most)), some (.l ([((least n M, []) : Ent)].map entD)), some (.dc (thereD (frm [(least n M, [])]))), some (.v (.int (0 : Nat))), none, none, none, none] rfl ?_
  have e0 : EntOk n M [(least n M, [])] := fun e he => by
    rw [List.mem_singleton.mp he]
    exact ⟨⟨by simp, by simp⟩, M, rfl⟩
  refine wq_cut (fun ρ => ∃ f a b c d e g, f.length ≤ most ∧ O = some f ∧ ρ = [some (.v (webD M)), some (.v (.int most)), some (.l (f.map entD)), a, b, c, d, e, g]) (fun J k1 k2 => ?_) ?_
  · refine wq_while (fun z ρ => ∃ (i : Nat) (f : List Ent) (c d e g : Option C), z = 2000 - i ∧ i ≤ f.length ∧ f.length ≤ most ∧ EntOk n M f ∧ kindsO n most M (2000 - i) i f = O ∧ ρ = [some (.v (webD M)), some (.v (.int most)), some (.l (f.map entD)), some (.dc (thereD (frm f))), some (.v (.int i)), c, d, e, g]) 2000 ⟨0, [(least n M, [])], none, none, none, none, rfl, by simp, by simpa using hm1, e0, hO, rfl⟩ (by omega) ?_
    rintro z ρ ⟨i, f, c, d, e, g, rfl, hi, hf, hE, hk, rfl⟩ K' Z zt zf kn kr
    have lf : gLen [.l (f.map entD)] = some (.v (.int f.length)) := by simp [gLen, seqOf]
    simp [lf]
    by_cases hlt : i < f.length
    · simp only [hlt, decide_true]
      refine zt _ ?_
      have em : 2000 - i = (2000 - (i + 1)) + 1 := by omega
      rw [em, kindsO, List.getElem?_eq_getElem hlt] at hk
      dsimp only at hk
      obtain ⟨⟨rl, rlen⟩, W, hW⟩ := hE f[i] (List.getElem_mem hlt)
      have eW : ownW n M f[i].2 = W := by unfold ownW; rw [hW]; rfl
      have wW := behind_wb hM hW
      rw [eW] at hk
      have gi := gIx_ent hlt
      have hi2 : i < f.length := hlt
      generalize f[i] = en at *
      obtain ⟨F, row⟩ := en
      dsimp only at rl rlen hW hk
      have ix1' : gIx [.v (entD (F, row)), .v (.int 1)] = some (.v (.tup (natsD row))) := rfl
      refine wq_cut (fun ρ => ρ = [some (.v (webD M)), some (.v (.int most)), some (.l (f.map entD)), some (.dc (thereD (frm f))), some (.v (.int i)), some (.v (.tup (natsD row))), d, e, g]) (fun J m1 m2 => wq ?_) ?_
      · simp [gi, ix1']
        exact m1 _ rfl
      rintro _ rfl
      refine wq_cut (fun ρ => ρ = [some (.v (webD M)), some (.v (.int most)), some (.l (f.map entD)), some (.dc (thereD (frm f))), some (.v (.int i)), some (.v (.tup (natsD row))), some (.v (webD W)), e, g]) (fun J m1 m2 => wq ?_) ?_
      · simp
        refine wp_callE.mpr ?_
        simp [conts, dist]
        rw [natsD_rows row]
        refine turned_by_ok hM h1 (by omega) (fun z => (z (inR_of rl)).elim) (fun _ z => ?_) fun N _ z => ?_
        · rw [toNat_map, hW] at z; cases z
        · rw [toNat_map, hW] at z
          cases z
          simp [back]
          exact m1 _ (by rw [← natsD_rows row])
      rintro _ rfl
      have kfin : ∀ f' : List Ent, innerO n most W row (List.range n) f = some f' → kindsO n most M (2000 - (i + 1)) (i + 1) f' = O := fun f' z => by rw [z] at hk; exact hk
      have kbad : innerO n most W row (List.range n) f = none → O = none := fun z => by rw [z] at hk; exact hk.symm
      refine wq_cut (fun ρ => ∃ (f' : List Ent) (e g : Option C), f.length ≤ f'.length ∧ f'.length ≤ most ∧ EntOk n M f' ∧ kindsO n most M (2000 - (i + 1)) (i + 1) f' = O ∧ ρ = [some (.v (webD M)), some (.v (.int most)), some (.l (f'.map entD)), some (.dc (thereD (frm f'))), some (.v (.int i)), some (.v (.tup (natsD row))), some (.v (webD W)), e, g]) (fun J m1 m2 => ?_) ?_
      · refine wq_for (fun r ρ => ∃ (k : Nat) (f' : List Ent) (e g : Option C), r = rangeD k (n - k) ∧ k ≤ n ∧ f.length ≤ f'.length ∧ f'.length ≤ most ∧ EntOk n M f' ∧ innerO n most W row ((List.range n).drop k) f' = innerO n most W row (List.range n) f ∧ ρ = [some (.v (webD M)), some (.v (.int most)), some (.l (f'.map entD)), some (.dc (thereD (frm f'))), some (.v (.int i)), some (.v (.tup (natsD row))), some (.v (webD W)), e, g]) (fun J jk => ?_) ?_ ?_
        · simp [len_web hM.sq, gRange]
          exact ⟨by omega, jk _ _ ⟨0, f, e, g, by simp, by omega, Nat.le_refl _, hf, hE, by simp, rfl⟩⟩
        · rintro dd r ρ ⟨k, f', e, g, er, hkn, hff, hf', hE', hin, rfl⟩
          obtain ⟨hk', rfl, rfl⟩ := rangeD_step er
          refine ⟨_, rfl, fun K2 o1 o2 => ?_⟩
          have ed : (List.range n).drop k = k :: (List.range n).drop (k + 1) := by
            rw [List.drop_eq_getElem_cons (by simpa using hk')]
            simp
          rw [ed] at hin
          refine wq_cut (fun ρ => Sm (turnM n W k) ∧ ρ = [some (.v (webD M)), some (.v (.int most)), some (.l (f'.map entD)), some (.dc (thereD (frm f'))), some (.v (.int i)), some (.v (.tup (natsD row))), some (.v (webD W)), some (.v (.int k)), some (.v (webD (least n (turnM n W k))))]) (fun J m1 m2 => wq ?_) ?_
          · simp
            refine wp_callE.mpr ?_
            simp
            refine wp_callE.mpr ?_
            simp [conts, dist]
            refine turned_ok wW (by decide) h1 (by omega) (fun z => (z ⟨by omega, by omega⟩).elim) (fun _ z => ?_) fun _ z => ?_
            · simp [back]
              refine he _ _ (q1 (kbad ?_))
              rw [← hin, inner_great (by simpa using z)]
            · have z : Sm (turnM n W k) := by simpa using z
              simp [back, conts, dist]
              refine (least_form_ok (turnM_sq n W k) h6 ?_).up
              try simp [back]
              exact m1 _ ⟨z, rfl⟩
          rintro _ ⟨hs, rfl⟩
          rw [inner_sm hs] at hin
          have snoc := behind_snoc hW hs
          generalize least n (turnM n W k) = L at *
          refine wq ?_
          rw [wpq_if]
          simp only [wpi_test, wpi_op, wpi_slot, wp_cnil]
          simp [gDNotIn_web]
          refine ⟨fun hL => ?_, fun hL => wq (wp_nil.mpr (o1 _ ⟨k + 1, f', _, _, rfl, by omega, hff, hf', hE', by rw [← hin, if_pos hL], rfl⟩))⟩
          rw [if_neg hL] at hin
          have lf' : gLen [.l (f'.map entD)] = some (.v (.int f'.length)) := by simp [gLen, seqOf]
          refine wq_cut (fun ρ => f'.length ≠ most ∧ ρ = [some (.v (webD M)), some (.v (.int most)), some (.l (f'.map entD)), some (.dc (thereD (frm f'))), some (.v (.int i)), some (.v (.tup (natsD row))), some (.v (webD W)), some (.v (.int k)), some (.v (webD L))]) (fun J m1 m2 => wq ?_) ?_
          · simp [lf']
            refine ⟨fun z => wq ?_, fun z => wq (wp_nil.mpr (m1 _ ⟨by omega, rfl⟩))⟩
            simp
            refine he _ _ (q1 (kbad ?_))
            rw [← hin, if_pos (by omega)]
          rintro _ ⟨hne, rfl⟩
          rw [if_neg hne] at hin
          have sl : (frm f').length < sizeLine := by unfold frm; simp; omega
          refine wq_cut (fun ρ => ρ = [some (.v (webD M)), some (.v (.int most)), some (.l (f'.map entD)), some (.dc (thereD (frm f' ++ [L]))), some (.v (.int i)), some (.v (.tup (natsD row))), some (.v (webD W)), some (.v (.int k)), some (.v (webD L))]) (fun J m1 m2 => wq ?_) ?_
          · simp [gDPut_web hL sl]
            exact m1 _ rfl
          rintro _ rfl
          have rl1 : (natsD row).length = row.length := by simp [natsD]
          have sl2 : f'.length < sizeLine := by omega
          have s12 : 1 ≤ sizeLine ∧ 2 ≤ sizeLine := by omega
          refine wq ?_
          simp [gTup, vsOf, vOf, gAdd, s12.1, s12.2, gAppend, sl2]
          have ed2 : natsD row ++ [D.int k] = natsD (row ++ [k]) := by simp [natsD]
          rw [ed2]
          refine ⟨by omega, o1 _ ⟨k + 1, f' ++ [(L, row ++ [k])], some (.v (.int k)), some (.v (webD L)), rfl, by omega, by simp; omega, by simp; omega, fun e he' => ?_, hin, ?_⟩⟩
          · rcases List.mem_append.mp he' with h | h
            · obtain ⟨⟨a1, a2⟩, a3⟩ := hE' e h
              exact ⟨⟨a1, by simp; omega⟩, a3⟩
            · rw [List.mem_singleton.mp h]
              refine ⟨⟨fun x hx => ?_, by simp; omega⟩, _, snoc⟩
              rcases List.mem_append.mp hx with hx | hx
              · exact rl x hx
              · rw [List.mem_singleton.mp hx]; exact hk'
          · simp [frm, entD]
        · rintro ρ ⟨k, f', e, g, er, hkn, hff, hf', hE', hin, rfl⟩
          have : k = n := by have := rangeD_stop er.symm; omega
          subst this
          have e1 : (List.range k).drop k = [] := by simp
          rw [e1] at hin
          exact m1 _ ⟨f', e, g, hff, hf', hE', kfin f' (by rw [← hin]; rfl), rfl⟩
      rintro _ ⟨f', e, g, hff, hf', hE', hO', rfl⟩
      refine wq ?_
      refine wpi_aug rfl ?_
      exact kn (2000 - (i + 1)) _ (by omega) ⟨i + 1, f', _, _, _, _, rfl, by omega, hf', hE', hO', rfl⟩
    · simp only [hlt, decide_false]
      refine zf _ (k1 _ ⟨f, _, _, _, _, _, _, hf, ?_, rfl⟩)
      have em : 2000 - i = (2000 - (i + 1)) + 1 := by omega
      rw [em, kindsO, List.getElem?_eq_none (by omega)] at hk
      exact hk.symm
  rintro _ ⟨f, a, b, c, d, e, g, hf, eO, rfl⟩
  refine wq ?_
  simp
  exact q2 f hf eO
end
end SW

set_option Elab.async false
set_option linter.all false
set_option maxRecDepth 100000
set_option maxHeartbeats 4000000
set_option autoImplicit false
set_option exponentiation.threshold 500
/-! H23: the law's own search. -/
namespace SW
open PySem PySem.Spec PyProof.Rows L2
theorem law_due_ok {n most : Nat} {M : Mat} (hM : Wb (10 ^ 30) n M) (h1 : 1 ≤ n) (h6 : n ≤ 6) (hm1 : 1 ≤ most) (hm : most ≤ 1000) {Q : C → Env → Prop}
    (q1 : kindsO n most M 2000 0 [(least n M, [])] = none → Q (.v .non) [some (.v (webD M)), some (.v (.int most))])
    (q2 : ∀ f, f.length ≤ most → kindsO n most M 2000 0 [(least n M, [])] = some f → Q (.l (f.map entD)) [some (.v (webD M)), some (.v (.int most))]) : Wf X0 (f_law_due [.v (webD M), .v (.int most)]) Q := by
  have sz := size_ge
  refine wf_mk0 rfl ?_
  unfold c_law_due
  simp only [fins_v, fins_nil]
  generalize hO : kindsO n most M 2000 0 [(least n M, [])] = O at q1 q2
  refine wq_cut (fun ρ => ρ = [some (.v (webD M)), some (.v (.int most)), some (.l ([((least n M, []) : Ent)].map entD)), none, none, none, none, none, none, none]) (fun J k1 k2 => wq ?_) ?_
  · simp [List.replicate]
    simp [conts, dist]
    rw [lleast_eq]
    refine least_form_ok hM.sq h6 ?_
    simp [back, gTup, vsOf, vOf, gLst]
    exact ⟨by omega, by omega, k1 _ rfl⟩
  rintro _ rfl
  refine wq_cut (fun ρ => ρ = [some (.v (webD M)), some (.v (.int most)), some (.l ([((least n M, []) : Ent)].map entD)), some (.dc (thereD (frm [(least n M, [])]))), none, none, none, none, none, none]) (fun J k1 k2 => wq ?_) ?_
  · refine wp_setN.mpr ?_
    refine wp_dict1 (M := least n M) rfl rfl ?_
    exact ⟨by simp, k1 _ rfl⟩
  rintro _ rfl
  refine wq_step [some (.v (webD M)), some (.v (.int most)), some (.l ([((least n M, []) : Ent)].map entD)), some (.dc (thereD (frm [(least n M, [])]))), some (.v (.int (0 : Nat))), none, none, none, none, none] rfl ?_
  have e0 : EntOk n M [(least n M, [])] := fun e he => by
    rw [List.mem_singleton.mp he]
    exact ⟨⟨by simp, by simp⟩, M, rfl⟩
  refine wq_cut (fun ρ => ∃ f a b c d e g h, f.length ≤ most ∧ O = some f ∧ ρ = [some (.v (webD M)), some (.v (.int most)), some (.l (f.map entD)), a, b, c, d, e, g, h]) (fun J k1 k2 => ?_) ?_
  · refine wq_while (fun z ρ => ∃ (i : Nat) (f : List Ent) (c d e g h : Option C), z = 2000 - i ∧ i ≤ f.length ∧ f.length ≤ most ∧ EntOk n M f ∧ kindsO n most M (2000 - i) i f = O ∧ ρ = [some (.v (webD M)), some (.v (.int most)), some (.l (f.map entD)), some (.dc (thereD (frm f))), some (.v (.int i)), c, d, e, g, h]) 2000 ⟨0, [(least n M, [])], none, none, none, none, none, rfl, by simp, by simpa using hm1, e0, hO, rfl⟩ (by omega) ?_
    rintro z ρ ⟨i, f, c, d, e, g, h, rfl, hi, hf, hE, hk, rfl⟩ K' Z zt zf kn kr
    have lf : gLen [.l (f.map entD)] = some (.v (.int f.length)) := by simp [gLen, seqOf]
    simp [lf]
    by_cases hlt : i < f.length
    · simp only [hlt, decide_true]
      refine zt _ ?_
      have em : 2000 - i = (2000 - (i + 1)) + 1 := by omega
      rw [em, kindsO, List.getElem?_eq_getElem hlt] at hk
      dsimp only at hk
      obtain ⟨⟨rl, rlen⟩, W, hW⟩ := hE f[i] (List.getElem_mem hlt)
      have eW : ownW n M f[i].2 = W := by unfold ownW; rw [hW]; rfl
      have wW := behind_wb hM hW
      rw [eW] at hk
      have gi := gIx_ent hlt
      have hi2 : i < f.length := hlt
      generalize f[i] = en at *
      obtain ⟨F, row⟩ := en
      dsimp only at rl rlen hW hk
      have ix1' : gIx [.v (entD (F, row)), .v (.int 1)] = some (.v (.tup (natsD row))) := rfl
      refine wq_cut (fun ρ => ρ = [some (.v (webD M)), some (.v (.int most)), some (.l (f.map entD)), some (.dc (thereD (frm f))), some (.v (.int i)), some (.v (.tup (natsD row))), d, e, g, h]) (fun J m1 m2 => wq ?_) ?_
      · simp [gi, ix1']
        exact m1 _ rfl
      rintro _ rfl
      refine wq_cut (fun ρ => ρ = [some (.v (webD M)), some (.v (.int most)), some (.l (f.map entD)), some (.dc (thereD (frm f))), some (.v (.int i)), some (.v (.tup (natsD row))), some (.v (webD W)), e, g, h]) (fun J m1 m2 => wq ?_) ?_
      · have gl : gList [.v (.tup (natsD row))] = some (.l (natsD row)) := rfl
        simp [gl, C.fz, conts, dist]
        refine web_behind_okD (ks := row) rfl hM h1 (by omega) rl ?_
        rw [hW]
        simp [back, webO]
        exact m1 _ rfl
      rintro _ rfl
      have kfin : ∀ f' : List Ent, innerO n most W row (List.range n) f = some f' → kindsO n most M (2000 - (i + 1)) (i + 1) f' = O := fun f' z => by rw [z] at hk; exact hk
      have kbad : innerO n most W row (List.range n) f = none → O = none := fun z => by rw [z] at hk; exact hk.symm
      refine wq_cut (fun ρ => ∃ (f' : List Ent) (e g h : Option C), f.length ≤ f'.length ∧ f'.length ≤ most ∧ EntOk n M f' ∧ kindsO n most M (2000 - (i + 1)) (i + 1) f' = O ∧ ρ = [some (.v (webD M)), some (.v (.int most)), some (.l (f'.map entD)), some (.dc (thereD (frm f'))), some (.v (.int i)), some (.v (.tup (natsD row))), some (.v (webD W)), e, g, h]) (fun J m1 m2 => ?_) ?_
      · refine wq_for (fun r ρ => ∃ (k : Nat) (f' : List Ent) (e g h : Option C), r = rangeD k (n - k) ∧ k ≤ n ∧ f.length ≤ f'.length ∧ f'.length ≤ most ∧ EntOk n M f' ∧ innerO n most W row ((List.range n).drop k) f' = innerO n most W row (List.range n) f ∧ ρ = [some (.v (webD M)), some (.v (.int most)), some (.l (f'.map entD)), some (.dc (thereD (frm f'))), some (.v (.int i)), some (.v (.tup (natsD row))), some (.v (webD W)), e, g, h]) (fun J jk => ?_) ?_ ?_
        · simp [len_web hM.sq, gRange]
          exact ⟨by omega, jk _ _ ⟨0, f, e, g, h, by simp, by omega, Nat.le_refl _, hf, hE, by simp, rfl⟩⟩
        · rintro dd r ρ ⟨k, f', e, g, h, er, hkn, hff, hf', hE', hin, rfl⟩
          obtain ⟨hk', rfl, rfl⟩ := rangeD_step er
          refine ⟨_, rfl, fun K2 o1 o2 => ?_⟩
          have ed : (List.range n).drop k = k :: (List.range n).drop (k + 1) := by
            rw [List.drop_eq_getElem_cons (by simpa using hk')]
            simp
          rw [ed] at hin
          have ret : innerO n most W row (k :: (List.range n).drop (k + 1)) f' = none → ∀ ρ K', (∀ c ρ2, K2 (.rt c) ρ2 → K' (.rt c) ρ2) → Wq X0 (sRet (cC D.non)) ρ K' := fun z ρ K' hK => by
            refine wq ?_
            simp
            refine hK _ _ (o2 _ _ (m2 _ _ (kr _ _ (k2 _ _ (q1 (kbad ?_))))))
            rw [← hin, z]
          refine wq_cut (fun ρ => ρ = [some (.v (webD M)), some (.v (.int most)), some (.l (f'.map entD)), some (.dc (thereD (frm f'))), some (.v (.int i)), some (.v (.tup (natsD row))), some (.v (webD W)), some (.v (.int k)), some (.v (webD (turnM n W k))), h]) (fun J m1 m2 => wq ?_) ?_
          · simp [conts, dist]
            refine law_turn_ok wW (by decide) (by omega) hk' ?_
            simp [back]
            exact m1 _ rfl
          rintro _ rfl
          refine wq_cut (fun ρ => Sm (turnM n W k) ∧ ρ = [some (.v (webD M)), some (.v (.int most)), some (.l (f'.map entD)), some (.dc (thereD (frm f'))), some (.v (.int i)), some (.v (.tup (natsD row))), some (.v (webD W)), some (.v (.int k)), some (.v (webD (turnM n W k))), h]) (fun J m1 m2 => wq ?_) ?_
          · simp [conts, dist]
            refine too_great_ok (turnM_sq n W k) h1 (by omega) fun b hb => ?_
            simp [back]
            refine ⟨fun z => ret (inner_great (hb.mp z)) _ _ m2, fun z => wq (wp_nil.mpr (m1 _ ⟨?_, rfl⟩))⟩
            exact Classical.byContradiction fun y => by rw [hb.mpr y] at z; cases z
          rintro _ ⟨hs, rfl⟩
          refine wq_cut (fun ρ => ρ = [some (.v (webD M)), some (.v (.int most)), some (.l (f'.map entD)), some (.dc (thereD (frm f'))), some (.v (.int i)), some (.v (.tup (natsD row))), some (.v (webD W)), some (.v (.int k)), some (.v (webD (turnM n W k))), some (.v (webD (least n (turnM n W k))))]) (fun J m1 m2 => wq ?_) ?_
          · simp [conts, dist]
            rw [lleast_eq]
            refine least_form_ok (turnM_sq n W k) h6 ?_
            try simp [back]
            exact m1 _ rfl
          rintro _ rfl
          rw [inner_sm hs] at ret
          rw [inner_sm hs] at hin
          have snoc := behind_snoc hW hs
          have lat := turnM_sq n W k
          generalize least n (turnM n W k) = L at *
          generalize turnM n W k = LA at *
          refine wq ?_
          rw [wpq_if]
          simp only [wpi_test, wpi_op, wpi_slot, wp_cnil]
          simp [gDNotIn_web]
          refine ⟨fun hL => ?_, fun hL => wq (wp_nil.mpr (o1 _ ⟨k + 1, f', _, _, _, rfl, by omega, hff, hf', hE', by rw [← hin, if_pos hL], rfl⟩))⟩
          rw [if_neg hL] at hin
          have lf' : gLen [.l (f'.map entD)] = some (.v (.int f'.length)) := by simp [gLen, seqOf]
          refine wq_cut (fun ρ => f'.length ≠ most ∧ ρ = [some (.v (webD M)), some (.v (.int most)), some (.l (f'.map entD)), some (.dc (thereD (frm f'))), some (.v (.int i)), some (.v (.tup (natsD row))), some (.v (webD W)), some (.v (.int k)), some (.v (webD LA)), some (.v (webD L))]) (fun J m1 m2 => wq ?_) ?_
          · simp [lf']
            refine ⟨fun z => ret (by rw [if_neg hL, if_pos (by omega)]) _ _ m2, fun z => wq (wp_nil.mpr (m1 _ ⟨by omega, rfl⟩))⟩
          rintro _ ⟨hne, rfl⟩
          rw [if_neg hne] at hin
          have sl : (frm f').length < sizeLine := by unfold frm; simp; omega
          refine wq_cut (fun ρ => ρ = [some (.v (webD M)), some (.v (.int most)), some (.l (f'.map entD)), some (.dc (thereD (frm f' ++ [L]))), some (.v (.int i)), some (.v (.tup (natsD row))), some (.v (webD W)), some (.v (.int k)), some (.v (webD LA)), some (.v (webD L))]) (fun J m1 m2 => wq ?_) ?_
          · simp [gDPut_web hL sl]
            exact m1 _ rfl
          rintro _ rfl
          have rl1 : (natsD row).length = row.length := by simp [natsD]
          have sl2 : f'.length < sizeLine := by omega
          have s12 : 1 ≤ sizeLine ∧ 2 ≤ sizeLine := by omega
          refine wq ?_
          simp [gTup, vsOf, vOf, gAdd, s12.1, s12.2, gAppend, sl2]
          have ed2 : natsD row ++ [D.int k] = natsD (row ++ [k]) := by simp [natsD]
          rw [ed2]
          refine ⟨by omega, o1 _ ⟨k + 1, f' ++ [(L, row ++ [k])], some (.v (.int k)), some (.v (webD LA)), some (.v (webD L)), rfl, by omega, by simp; omega, by simp; omega, fun e he' => ?_, hin, ?_⟩⟩
          · rcases List.mem_append.mp he' with h | h
            · obtain ⟨⟨a1, a2⟩, a3⟩ := hE' e h
              exact ⟨⟨a1, by simp; omega⟩, a3⟩
            · rw [List.mem_singleton.mp h]
              refine ⟨⟨fun x hx => ?_, by simp; omega⟩, _, snoc⟩
              rcases List.mem_append.mp hx with hx | hx
              · exact rl x hx
              · rw [List.mem_singleton.mp hx]; exact hk'
          · simp [frm, entD]
        · rintro ρ ⟨k, f', e, g, h, er, hkn, hff, hf', hE', hin, rfl⟩
          have : k = n := by have := rangeD_stop er.symm; omega
          subst this
          have e1 : (List.range k).drop k = [] := by simp
          rw [e1] at hin
          exact m1 _ ⟨f', e, g, h, hff, hf', hE', kfin f' (by rw [← hin]; rfl), rfl⟩
      rintro _ ⟨f', e, g, h, hff, hf', hE', hO', rfl⟩
      refine wq ?_
      simp
      exact kn (2000 - (i + 1)) _ (by omega) ⟨i + 1, f', _, _, _, _, _, rfl, by omega, hf', hE', hO', rfl⟩
    · simp only [hlt, decide_false]
      refine zf _ (k1 _ ⟨f, _, _, _, _, _, _, _, hf, ?_, rfl⟩)
      have em : 2000 - i = (2000 - (i + 1)) + 1 := by omega
      rw [em, kindsO, List.getElem?_eq_none (by omega)] at hk
      exact hk.symm
  rintro _ ⟨f, a, b, c, d, e, g, h, hf, eO, rfl⟩
  refine wq ?_
  simp
  exact q2 f hf eO
end SW

set_option Elab.async false
set_option linter.all false
set_option maxRecDepth 100000
set_option maxHeartbeats 4000000
set_option autoImplicit false
set_option exponentiation.threshold 500
namespace SW
open PySem PySem.Spec PyProof.Rows L2
theorem tried_ok {n most : Nat} {M : Mat} (hM : Wb (10 ^ 30) n M) (h1 : 1 ≤ n) (h6 : n ≤ 6) (hm1 : 1 ≤ most) (hm : most ≤ 1000) {Q : C → Env → Prop}
    (q1 : kindsO n most M 2000 0 [(least n M, [])] = none → Q (.v (.tup [.str "many"])) [some (.v (webD M)), some (.v (.int most))])
    (q2 : ∀ f, f.length ≤ most → kindsO n most M 2000 0 [(least n M, [])] = some f → Q (.v (.lst (f.map entD))) [some (.v (webD M)), some (.v (.int most))]) : Wf X0 (f_law_tried [.v (webD M), .v (.int most)]) Q := by
  refine wf_mk0 rfl ?_
  unfold c_law_tried
  simp only [fins_v, fins_nil]
  refine wq ?_
  simp [List.replicate]
  refine wq ?_
  simp
  refine wq ?_
  refine wpq_seq.mpr ?_
  refine wp_try.mpr ?_
  simp
  refine wp_callE.mpr ?_
  simp [conts, dist]
  refine kinds_ok hM h1 h6 hm1 hm (fun e => ?_) fun f hf e => ?_
  · simp [back, caught_TooMany]
    refine wq ?_
    simp [gIsN]
    refine wq ?_
    simp
    refine wq ?_
    simp [conts, dist]
    refine word_TooMany ?_
    exact q1 e
  · simp [back, C.fz]
    refine wq ?_
    simp [gIsN]
    refine wq ?_
    simp
    exact q2 f hf e
theorem gIsi_lst (ds : List D) : gIsi [.v (.lst ds), .v (.ty "list")] = some (.v (.bl true)) := by
  have e6 : kitB "list" "list" = some true := by decide +kernel
  simp only [gIsi, tyOf, e6]
theorem innerO_all {n most : Nat} {W : Mat} {row : List Nat} {P : Ent → Prop} (hP : ∀ (N : Mat) (r : List Nat), Sq n N → P (N, r)) : ∀ (ks : List Nat) (f g : List Ent), innerO n most W row ks f = some g → (∀ e ∈ f, P e) → (∀ e ∈ g, P e) ∧ f.length ≤ g.length
  | [], f, g, h, a => by cases h; exact ⟨a, Nat.le_refl _⟩
  | k :: ks, f, g, h, a => by
    by_cases s : Sm (turnM n W k)
    · rw [inner_sm s] at h
      by_cases hm : least n (turnM n W k) ∈ frm f
      · rw [if_pos hm] at h
        exact innerO_all hP ks f g h a
      · rw [if_neg hm] at h
        by_cases hl : f.length = most
        · rw [if_pos hl] at h; cases h
        · rw [if_neg hl] at h
          have := innerO_all hP ks _ g h fun e he => by
            rcases List.mem_append.mp he with he | he
            · exact a e he
            · rw [List.mem_singleton.mp he]; exact hP _ _ least_sq
          exact ⟨this.1, by have := this.2; simp at this; omega⟩
    · rw [inner_great s] at h; cases h
theorem kindsO_all {n most : Nat} {M : Mat} {P : Ent → Prop} (hP : ∀ (N : Mat) (r : List Nat), Sq n N → P (N, r)) : ∀ (l i : Nat) (f g : List Ent), kindsO n most M l i f = some g → (∀ e ∈ f, P e) → (∀ e ∈ g, P e) ∧ f.length ≤ g.length
  | 0, i, f, g, h, a => by
    rw [kindsO] at h
    cases h; exact ⟨a, Nat.le_refl _⟩
  | l + 1, i, f, g, h, a => by
    rw [kindsO] at h
    cases e : f[i]? with
    | none => rw [e] at h; cases h; exact ⟨a, Nat.le_refl _⟩
    | some en =>
      rw [e] at h
      dsimp only at h
      cases e2 : innerO n most (ownW n M en.2) en.2 (List.range n) f with
      | none => rw [e2] at h; cases h
      | some f' =>
        rw [e2] at h
        have h1 := innerO_all hP _ _ _ e2 a
        have h2 := kindsO_all hP l (i + 1) f' g h h1.1
        exact ⟨h2.1, by omega⟩
theorem ent_pn {n : Nat} {e : Ent} (h : Sq n e.1) : ∃ k, Pn k 3 (entD e) := by
  refine ⟨n + e.2.length + 2, .tup (by simp) fun x hx => ?_⟩
  simp at hx
  rcases hx with rfl | rfl
  · obtain ⟨k, m, hk, hm⟩ := (Cq_web h).pn
    exact (Pn_web h).le (by omega) (by omega)
  · refine Pn.tup (by simp [natsD]; omega) fun y hy => ?_
    simp only [natsD, List.mem_map] at hy
    obtain ⟨i, _, rfl⟩ := hy
    exact .int _
theorem ent_cl (e : Ent) : SW.cl (entD e) = true := by
  unfold entD SW.cl
  refine cls_all.mpr fun x hx => ?_
  simp at hx
  rcases hx with rfl | rfl
  · exact cl_web _
  · unfold SW.cl
    refine cls_all.mpr fun y hy => ?_
    simp only [natsD, List.mem_map] at hy
    obtain ⟨i, _, rfl⟩ := hy
    unfold SW.cl; rfl
theorem ents_pn {n : Nat} : ∀ {f : List Ent}, (∀ e ∈ f, Sq n e.1) → ∃ k, f.length ≤ k ∧ ∀ x ∈ f.map entD, Pn k 3 x
  | [], _ => ⟨0, by simp, by simp⟩
  | e :: f, h => by
    obtain ⟨k1, h1⟩ := ent_pn (h e (by simp))
    obtain ⟨k2, l2, h2⟩ := ents_pn (f := f) fun x hx => h x (by simp [hx])
    refine ⟨k1 + k2 + 1, by simp; omega, fun x hx => ?_⟩
    simp only [List.map_cons, List.mem_cons] at hx
    rcases hx with rfl | hx
    · exact h1.le (by omega) (Nat.le_refl _)
    · exact (h2 x hx).le (by omega) (Nat.le_refl _)
theorem ents_cq {n : Nat} {f : List Ent} (h : ∀ e ∈ f, Sq n e.1) : Cq (.v (.lst (f.map entD))) (.lst (f.map entD)) := by
  obtain ⟨k, l, hk⟩ := ents_pn h
  refine .v (.lst (by simpa using l) hk) (by omega) ?_
  unfold SW.cl
  refine cls_all.mpr fun x hx => ?_
  obtain ⟨e, _, rfl⟩ := List.mem_map.mp hx
  exact ent_cl e
/-- what is due -/
noncomputable def dueK (n most : Nat) (M : Mat) : Option (List Ent) := kindsO n most M 2000 0 [(least n M, [])]
theorem dueK_sq {n most : Nat} {M : Mat} {f : List Ent} (h : dueK n most M = some f) : (∀ e ∈ f, Sq n e.1) ∧ 1 ≤ f.length := by
  have := kindsO_all (P := fun e => Sq n e.1) (fun N r h => h) _ _ _ _ h fun e he => by rw [List.mem_singleton.mp he]; exact least_sq
  exact ⟨this.1, by simpa using this.2⟩
def dueD : Option (List Ent) → D
  | none => .non
  | some f => .lst (f.map entD)
theorem loop_ok {n : Nat} {M : Mat} (hM : Wb (10 ^ 30) n M) (h1 : 1 ≤ n) (h6 : n ≤ 6) {a b c : Option C} {ms : List Nat} (hms : ∀ m ∈ ms, 1 ≤ m ∧ m ≤ 1000) {K : Fl → Env → Prop}
    (k : ∀ x y z, K .nx [a, b, some (.v (webD M)), c, some (.v (.lst (natsD ms))), x, y, z]) : Wq X0 
  (sFor (iVal (cVar 4)) (.nm 5)
    (sSeq (sSet (.nm 6) (cFz (cCall f_law_due (aVal (cVar 2) (aVal (cVar 5) aNil)))))
  (sSeq (sSet (.nm 7) (cCall f_law_tried (aVal (cVar 2) (aVal (cVar 5) aNil))))
  (cIf (cTest (cOp gIsN (cSlot 6 (cCons (cC .non) cNil))))
    (cIf (cTest (cOp gNe (cSlot 7 (cCons (cOp gTup (cCons (cC (.str "many")) cNil)) cNil))))
    (sRet (cC (.bl false)))
    sNil)
    (cIf (cOr (cNot (cTest (cOp gIsi (cSlot 7 (cCons (cC (.ty "list")) cNil))))) (cTest (cOp gNe (cSlot 7 (cSlot 6 cNil)))))
    (sRet (cC (.bl false)))
    sNil))))) [a, b, some (.v (webD M)), c, some (.v (.lst (natsD ms))), none, none, none] K := by
  have sz := size_ge
  refine wq_for (fun r ρ => ∃ (l : List Nat) (x y z : Option C), r = natsD l ∧ (∀ m ∈ l, 1 ≤ m ∧ m ≤ 1000) ∧ ρ = [a, b, some (.v (webD M)), c, some (.v (.lst (natsD ms))), x, y, z]) (fun J jk => ?_) ?_ ?_
  · simp [itemsOf]
    exact jk _ _ ⟨ms, none, none, none, rfl, hms, rfl⟩
  · rintro dd r ρ ⟨l, x, y, z, er, hl, rfl⟩
    cases l with
    | nil => cases er
    | cons mo l =>
      simp only [natsD, List.map_cons, List.cons.injEq] at er
      obtain ⟨rfl, rfl⟩ := er
      have hmo := hl mo (by simp)
      refine ⟨_, rfl, fun K' l1 l2 => ?_⟩
      refine wq_cut (fun ρ => ρ = [a, b, some (.v (webD M)), c, some (.v (.lst (natsD ms))), some (.v (.int mo)), some (.v (dueD (dueK n mo M))), z]) (fun J m1 m2 => wq ?_) ?_
      · simp [conts, dist]
        refine law_due_ok hM h1 h6 hmo.1 hmo.2 (fun e => ?_) fun f hf e => ?_
        · simp [back, C.fz]
          refine m1 _ ?_
          rw [show dueK n mo M = none from e]; rfl
        · simp [back, C.fz]
          refine m1 _ ?_
          rw [show dueK n mo M = some f from e]; rfl
      rintro _ rfl
      cases eD : dueK n mo M with
      | none =>
        refine wq_cut (fun ρ => ρ = [a, b, some (.v (webD M)), c, some (.v (.lst (natsD ms))), some (.v (.int mo)), some (.v .non), some (.v (.tup [.str "many"]))]) (fun J m1 m2 => wq ?_) ?_
        · simp [conts, dist]
          refine tried_ok hM h1 h6 hmo.1 hmo.2 (fun e => ?_) fun f hf e => ?_
          · simp [back]
            exact m1 _ rfl
          · rw [show dueK n mo M = some f from e] at eD; cases eD
        rintro _ rfl
        refine wq ?_
        simp [gIsN]
        refine wq ?_
        have cw := Cq_word (x := Str.ofString "many") (by decide +kernel)
        simp [gTup, vsOf, vOf]
        refine ⟨by omega, ?_⟩
        rw [gNe_cq cw cw]
        simp
        exact wq (wp_nil.mpr (l1 _ ⟨l, _, _, _, rfl, fun m h => hl m (by simp [h]), rfl⟩))
      | some f =>
        refine wq_cut (fun ρ => ρ = [a, b, some (.v (webD M)), c, some (.v (.lst (natsD ms))), some (.v (.int mo)), some (.v (.lst (f.map entD))), some (.v (.lst (f.map entD)))]) (fun J m1 m2 => wq ?_) ?_
        · simp [conts, dist]
          refine tried_ok hM h1 h6 hmo.1 hmo.2 (fun e => ?_) fun g hg e => ?_
          · rw [show dueK n mo M = none from e] at eD; cases eD
          · rw [show dueK n mo M = some g from e] at eD; cases eD
            simp [back]
            exact m1 _ rfl
        rintro _ rfl
        have cq := ents_cq (dueK_sq eD).1
        generalize f.map entD = Y at cq ⊢
        refine wq ?_
        have gn : gIsN [.v (.lst Y), .v .non] = some (.v (.bl false)) := rfl
        simp [gn]
        refine wq ?_
        simp [gIsi_lst, gNe_cq cq cq]
        exact wq (wp_nil.mpr (l1 _ ⟨l, _, _, _, rfl, fun m h => hl m (by simp [h]), rfl⟩))
  · rintro ρ ⟨l, x, y, z, er, hl, rfl⟩
    exact k _ _ _
theorem law_ok (ns : List Int) : Wf X0 (f_law [.v (.lst (ns.map .int))]) fun r _ => r = .v (.bl true) := by
  have sz : (200000 : Nat) ≤ sizeLine := by decide
  refine wf_mk0 rfl ?_
  unfold c_law
  generalize hsc : D.lst (ns.map .int) = sc
  refine wq_cut (fun ρ => ∃ c', Tape 100000 c' ∧ ρ = [some (.v sc), some c', none, none, none, none, none, none]) (fun K k1 k2 => wq ?_) ?_
  · subst hsc
    simp [List.replicate, gList, seqOf, gLst, vsOf, vOf, C.fz, sizeLine]
    exact k1 _ ⟨_, ⟨ns, 0, 0, rfl, by omega, by omega⟩, rfl⟩
  rintro _ ⟨c', hT, rfl⟩
  refine wq_cut (fun ρ => ∃ (n : Nat) (M : Mat) (c' : C), 1 ≤ n ∧ n ≤ 6 ∧ Wb (10 ^ 30) n M ∧ Tape 90000 c' ∧ ρ = [some (.v sc), some c', some (.v (webD M)), none, none, none, none, none]) (fun K m1 m2 => wq ?_) ?_
  · simp [conts, dist, AK.at_]
    refine web_ok (n := 4) (m := 90000) (by omega) (by omega) (hT.le (by omega)) fun n M c1 n1 n4 hM hT1 => ?_
    simp [back]
    exact m1 _ ⟨n, M, c1, n1, by omega, hM.le (by decide), hT1, rfl⟩
  rintro _ ⟨n, M, c', n1, n6, hM, hT, rfl⟩
  refine wq_cut (fun ρ => ∃ (n : Nat) (M : Mat) (c' : C), 1 ≤ n ∧ n ≤ 6 ∧ Wb (10 ^ 30) n M ∧ Tape 80000 c' ∧ ρ = [some (.v sc), some c', some (.v (webD M)), none, none, none, none, none]) (fun K m1 m2 => wq ?_) ?_
  · simp [conts, dist, AK.at_]
    refine draw_ok (n := 89000) (hT.le (by omega)) (by omega) (by omega) fun z c1 z0 z1 hT1 => ?_
    simp [back]
    refine ⟨fun _ => wq ?_, fun _ => wq (wp_nil.mpr (m1 _ ⟨n, M, c1, n1, n6, hM, hT1.le (by omega), rfl⟩))⟩
    simp [conts, dist, AK.at_]
    refine line_ok (n := 5) (m := 85000) (by omega) (by omega) (hT1.le (by omega)) fun ts c3 hts hT3 => ?_
    simp [back, conts, dist, AK.at_]
    refine shuffled_ok (n := 5) (m := 80000) (by omega) (tab_sq 5 ts) (hT3.le (by omega)) fun o c4 ho hT4 => ?_
    simp [back]
    exact m1 _ ⟨5, _, c4, by omega, by omega, (numM_wb (by omega) (tab_wb hts) (perm_lt ho).1).le (by decide), hT4, rfl⟩
  rintro _ ⟨n, M, c', n1, n6, hM, hT, rfl⟩
  refine wq_cut (fun ρ => (∀ f, dueK n 40 M = some f → f.length ≤ 40) ∧ ρ = [some (.v sc), some c', some (.v (webD M)), some (.v (dueD (dueK n 40 M))), none, none, none, none]) (fun K m1 m2 => wq ?_) ?_
  · simp [conts, dist]
    refine law_due_ok (most := 40) hM n1 n6 (by omega) (by omega) (fun e => ?_) fun f hf e => ?_
    · simp [back, C.fz]
      have e : dueK n 40 M = none := e
      refine m1 _ ⟨fun f h => ?_, ?_⟩
      · rw [e] at h; cases h
      · rw [e]; rfl
    · simp [back, C.fz]
      have e : dueK n 40 M = some f := e
      refine m1 _ ⟨fun g h => ?_, ?_⟩
      · rw [e] at h; cases h; exact hf
      · rw [e]; rfl
  rintro _ ⟨f40, rfl⟩
  refine wq_cut (fun ρ => ∃ (c' : C) (mo : Nat), 1 ≤ mo ∧ mo ≤ 12 ∧ ρ = [some (.v sc), some c', some (.v (webD M)), some (.v (dueD (dueK n 40 M))), some (.v (.lst (natsD [mo]))), none, none, none]) (fun K m1 m2 => wq ?_) ?_
  · simp [conts, dist, AK.at_]
    refine draw_ok (n := 79000) (hT.le (by omega)) (by omega) (by omega) fun z c1 z0 z1 hT1 => ?_
    obtain ⟨z, rfl⟩ : ∃ y : Nat, z = y := ⟨z.toNat, by omega⟩
    simp [back, gLst, vsOf, vOf, C.fz]
    refine ⟨by omega, m1 _ ⟨c1, z + 1, by omega, by omega, ?_⟩⟩
    simp [natsD]; omega
  rintro _ ⟨c', mo, mo1, mo2, rfl⟩
  refine wq_cut (fun ρ => ∃ ms : List Nat, (∀ m ∈ ms, 1 ≤ m ∧ m ≤ 1000) ∧ ρ = [some (.v sc), some c', some (.v (webD M)), some (.v (dueD (dueK n 40 M))), some (.v (.lst (natsD ms))), none, none, none]) (fun K m1 m2 => wq ?_) ?_
  · cases eD : dueK n 40 M with
    | none =>
      have gn : gNotN [.v (dueD none), .v .non] = some (.v (.bl false)) := rfl
      simp [gn]
      exact wq (wp_nil.mpr (m1 _ ⟨[mo], by simp; omega, by rw [eD]⟩))
    | some f =>
      have f1 := (dueK_sq eD).2
      have gn : gNotN [.v (dueD (some f)), .v .non] = some (.v (.bl true)) := rfl
      have gl : gLen [.v (dueD (some f))] = some (.v (.int f.length)) := by simp [gLen, seqOf, dueD]
      simp [gn]
      refine wq ?_
      simp [gl, gLst, vsOf, vOf, gAdd, C.fz]
      have f4 := f40 f eD
      have e1 : lstOf (.v (.lst (natsD [mo]))) = some (natsD [mo]) := rfl
      rw [e1]
      generalize hx : (if (1 : Int) < f.length - 1 then (f.length : Int) - 1 else 1) = x
      generalize hy : (if (f.length : Int) + 1 < 60 then (f.length : Int) + 1 else 60) = y
      obtain ⟨x, rfl⟩ : ∃ z : Nat, x = z := ⟨x.toNat, by split at hx <;> omega⟩
      obtain ⟨y, rfl⟩ : ∃ z : Nat, y = z := ⟨y.toNat, by split at hy <;> omega⟩
      have e2 : lstOf (.l [.int f.length, .int x, .int y]) = some [.int f.length, .int x, .int y] := rfl
      rw [e2]
      have e3 : natsD [mo] ++ [.int f.length, .int x, .int y] = natsD [mo, f.length, x, y] := rfl
      simp only [e3]
      have e4 : (natsD [mo]).length = 1 := rfl
      rw [e4]
      refine ⟨by omega, ?_⟩
      rw [if_pos (by simp; omega)]
      simp
      refine m1 _ ⟨[mo, f.length, x, y], ?_, by rw [eD]⟩
      intro m hm
      simp at hm
      split at hx <;> split at hy <;> omega
  rintro _ ⟨ms, hms, rfl⟩
  refine wq_cut (fun ρ => ρ.length = 8) (fun K k1 k2 => ?_) ?_
  · exact loop_ok hM n1 n6 hms fun _ _ _ => k1 _ rfl
  · intro ρ hρ
    refine wq ?_
    simp
end SW

set_option Elab.async false
set_option linter.all false
set_option maxRecDepth 100000
set_option maxHeartbeats 4000000
set_option autoImplicit false
/-! Pl4: the law's own head. -/
namespace SW
open PySem PySem.Spec PyProof.Rows L2
def spLaw (K : PySem.W.Frag) : Sp := fun vs H Q E => ∃ (a : Addr) (ns : List Int), vs = [.ref a] ∧ SqF K H a (ns.map V.int) ∧ ns.length ≤ 63 ∧ ∀ H', Q (.bl true) H'
theorem sp_of {K : PySem.W.Frag} {κ : String → Addr} {f : FSem} (h : ∀ ns : List Int, ns.length ≤ 63 → Wf X0 (f [.v (.lst (ns.map .int))]) fun r _ => r = .v (.bl true)) : ∀ vs H Q E, spLaw K vs H Q E → spF K κ 1 f vs H Q E := by
  rintro vs H Q E ⟨a, ns, rfl, hS, hl, q⟩
  have rz : Rzs K κ H (ns.map D.int) (ns.map V.int) := by
    clear hS hl h q
    induction ns with
    | nil => exact Rzs.nil
    | cons n ns ih => exact Rzs.cons (by unfold Rz; rfl) ih
  refine ⟨[.v (.lst (ns.map .int))], fun _ => [], rfl, ⟨rfl, fun i c e => ?_, fun _ _ => rfl, fun _ _ _ ha _ => by simp at ha⟩, ?_⟩
  · cases i with
    | zero =>
      cases e
      exact ⟨.ref a, rfl, rfl, by unfold Rz; exact ⟨a, _, rfl, hS, rz⟩⟩
    | succ i => cases e
  · have w := (h ns hl).d
    cases e : f [.v (.lst (ns.map .int))] with
    | ok r as =>
      rw [e] at w
      have w : r = .v (.bl true) := w
      subst w
      intro v H' O' ov _ rc _ _
      have : v = .bl true := by have := rc.2; unfold Rz at this; exact this
      subst this
      exact q H'
    | exn n as => rw [e] at w; exact (show False from w).elim
    | stuck => rw [e] at w; exact (show False from w).elim
theorem sqf_of {K : PySem.W.Frag} {H : Hp} {a : Addr} {xs : List V} (ho : Only H) (h : SqL K H a xs) : SqF K H a xs := by
  rcases h with (h | ⟨o, h⟩) | h
  · rcases ho a with e | ⟨o, ys, e⟩
    · rw [h] at e; cases e
    · rw [h] at e; cases e
  · exact .inl ⟨o, h⟩
  · exact .inr h
theorem cx_no {P : Program} {w : World} {H : Hp} {s : Shared} {e : Value} {s' : Shared} (h : L2.CX P w [] H s (fun _ _ _ => False) e s') : False := by
  obtain ⟨_, _, _, _, _, _, _, _, _, _, _, _, z⟩ := h
  exact z
/-- a def that is never run -/
theorem cal_zero {P : Program} {w : World} {K : PySem.W.Frag} {mg : Str → Option Value} {base : Heap} {κ : String → Addr} {x : Str} {n k : Nat} {f : FSem} (hf : ∀ cs, f cs = .stuck) (ex : ∃ (fa : Addr) (fd : FuncData) (ps : List Str), ps.length = n ∧ mg x = some (.ref fa) ∧ PySem.W.keepIn K (.ref fa) = true ∧ Binds K fd ps []) : Cal P w K mg base κ x n f k := by
  obtain ⟨fa, fd, ps, h1, h2, h3, h4⟩ := ex
  have no : ∀ vs H Q E, spF K κ n f vs H Q E → False := by
    rintro vs H Q E ⟨cs, O, _, _, h⟩
    rw [hf cs] at h
    exact h
  exact ⟨fa, fd, ps, h1, ⟨fun vs H Q E h => (no _ _ _ _ h).elim, fun A outer s H args us vs Q E hr he hb hv hs => (no _ _ _ _ hs).elim⟩, h2, h3, h4⟩
end SW

set_option Elab.async false
set_option linter.all false
set_option maxRecDepth 100000
set_option maxHeartbeats 4000000
namespace SW
theorem law_all (ns : List Int) (h : ns.length ≤ 63) : Wf X0 (f_law [.v (.lst (ns.map .int))]) fun r _ => r = .v (.bl true) := law_ok ns
end SW
namespace SW
open PySem PySem.Spec PyProof.Rows L2
theorem all_mk {l : PySem.W.OpenLaw} {w : World} {K : PySem.W.Frag} {h : Heap} {mg : Str → Option Value} {fa : Addr} (X : K.In h) (G : h.Ns mainGlobals mg) (hfa : mg "law" = some (.ref fa))
    {f0 f1 f2 f3 f4 f5 f6 f7 f8 f9 f10 f11 f12 f13 f14 f15 f16 f17 f18 f19 f20 f21 f22 f23 f24 : Addr} {od0 od1 od2 od3 od4 od5 od6 od7 od8 od9 od10 od11 od12 od13 od14 od15 od16 od17 od18 od19 od20 od21 od22 od23 od24 an0 an1 an2 an3 an4 an5 an6 an7 an8 an9 an10 an11 an12 an13 an14 an15 an16 an17 an18 an19 an20 an21 an22 an23 an24 : Option Addr} {sl0 sl1 sl2 sl3 sl4 sl5 sl6 sl7 sl8 sl9 sl10 sl11 sl12 sl13 sl14 sl15 sl16 sl17 sl18 sl19 sl20 sl21 sl22 sl23 sl24 : Array (Option Value)} {oc0 oc1 oc2 oc3 oc4 oc5 oc6 oc7 oc8 oc9 oc10 oc11 oc12 oc13 oc14 oc15 oc16 oc17 oc18 oc19 oc20 oc21 oc22 oc23 oc24 kV0 kV1 kV2 kV3 kV4 kV5 kV6 kV7 kV8 kV9 kV10 kV11 kV12 kV13 kV14 kV15 kV16 kV17 kV18 kV19 kV20 kV21 kV22 kV23 kV24 dc0 dc1 dc2 dc3 dc4 dc5 dc6 dc7 dc8 dc9 dc10 dc11 dc12 dc13 dc14 dc15 dc16 dc17 dc18 dc19 dc20 dc21 dc22 dc23 dc24 pm0 pm1 pm2 pm3 pm4 pm5 pm6 pm7 pm8 pm9 pm10 pm11 pm12 pm13 pm14 pm15 pm16 pm17 pm18 pm19 pm20 pm21 pm22 pm23 pm24 cd0 cd1 cd2 cd3 cd4 cd5 cd6 cd7 cd8 cd9 cd10 cd11 cd12 cd13 cd14 cd15 cd16 cd17 cd18 cd19 cd20 cd21 cd22 cd23 cd24 ct0 ct1 ct2 ct3 ct4 ct5 ct6 ct7 ct8 ct9 ct10 ct11 ct12 ct13 ct14 ct15 ct16 ct17 ct18 ct19 ct20 ct21 ct22 ct23 ct24 : Value}
    (a0 : PySem.W.nsIn K mainGlobals "orders" = some (some (.ref f0))) (l0 : K.lookup f0 = some ⟨oc0, od0, .func (PySem.W.fnOf "orders" "orders" (defArgs s_orders) (defBody s_orders) (defScope s_orders) .none kV0 dc0 pm0 an0 cd0 ct0), sl0⟩) (c0 : PySem.W.codeIn K cd0 "orders" = true) (k0 : PySem.W.keepIn K (.ref f0) = true)
    (a1 : PySem.W.nsIn K mainGlobals "renumbered_by" = some (some (.ref f1))) (l1 : K.lookup f1 = some ⟨oc1, od1, .func (PySem.W.fnOf "renumbered_by" "renumbered_by" (defArgs s_renumbered_by) (defBody s_renumbered_by) (defScope s_renumbered_by) .none kV1 dc1 pm1 an1 cd1 ct1), sl1⟩) (c1 : PySem.W.codeIn K cd1 "renumbered_by" = true) (k1 : PySem.W.keepIn K (.ref f1) = true)
    (a2 : PySem.W.nsIn K mainGlobals "least_form" = some (some (.ref f2))) (l2 : K.lookup f2 = some ⟨oc2, od2, .func (PySem.W.fnOf "least_form" "least_form" (defArgs s_least_form) (defBody s_least_form) (defScope s_least_form) .none kV2 dc2 pm2 an2 cd2 ct2), sl2⟩) (c2 : PySem.W.codeIn K cd2 "least_form" = true) (k2 : PySem.W.keepIn K (.ref f2) = true)
    (a3 : PySem.W.nsIn K mainGlobals "need_corner" = some (some (.ref f3))) (l3 : K.lookup f3 = some ⟨oc3, od3, .func (PySem.W.fnOf "need_corner" "need_corner" (defArgs s_need_corner) (defBody s_need_corner) (defScope s_need_corner) .none kV3 dc3 pm3 an3 cd3 ct3), sl3⟩) (c3 : PySem.W.codeIn K cd3 "need_corner" = true) (k3 : PySem.W.keepIn K (.ref f3) = true)
    (a4 : PySem.W.nsIn K mainGlobals "arrows" = some (some (.ref f4))) (l4 : K.lookup f4 = some ⟨oc4, od4, .func (PySem.W.fnOf "arrows" "arrows" (defArgs s_arrows) (defBody s_arrows) (defScope s_arrows) .none kV4 dc4 pm4 an4 cd4 ct4), sl4⟩) (c4 : PySem.W.codeIn K cd4 "arrows" = true) (k4 : PySem.W.keepIn K (.ref f4) = true)
    (a5 : PySem.W.nsIn K mainGlobals "number_behind" = some (some (.ref f5))) (l5 : K.lookup f5 = some ⟨oc5, od5, .func (PySem.W.fnOf "number_behind" "number_behind" (defArgs s_number_behind) (defBody s_number_behind) (defScope s_number_behind) .none kV5 dc5 pm5 an5 cd5 ct5), sl5⟩) (c5 : PySem.W.codeIn K cd5 "number_behind" = true) (k5 : PySem.W.keepIn K (.ref f5) = true)
    (a6 : PySem.W.nsIn K mainGlobals "turned" = some (some (.ref f6))) (l6 : K.lookup f6 = some ⟨oc6, od6, .func (PySem.W.fnOf "turned" "turned" (defArgs s_turned) (defBody s_turned) (defScope s_turned) .none kV6 dc6 pm6 an6 cd6 ct6), sl6⟩) (c6 : PySem.W.codeIn K cd6 "turned" = true) (k6 : PySem.W.keepIn K (.ref f6) = true)
    (a7 : PySem.W.nsIn K mainGlobals "turned_by" = some (some (.ref f7))) (l7 : K.lookup f7 = some ⟨oc7, od7, .func (PySem.W.fnOf "turned_by" "turned_by" (defArgs s_turned_by) (defBody s_turned_by) (defScope s_turned_by) .none kV7 dc7 pm7 an7 cd7 ct7), sl7⟩) (c7 : PySem.W.codeIn K cd7 "turned_by" = true) (k7 : PySem.W.keepIn K (.ref f7) = true)
    (a8 : PySem.W.nsIn K mainGlobals "kinds" = some (some (.ref f8))) (l8 : K.lookup f8 = some ⟨oc8, od8, .func (PySem.W.fnOf "kinds" "kinds" (defArgs s_kinds) (defBody s_kinds) (defScope s_kinds) .none kV8 dc8 pm8 an8 cd8 ct8), sl8⟩) (c8 : PySem.W.codeIn K cd8 "kinds" = true) (k8 : PySem.W.keepIn K (.ref f8) = true)
    (a9 : PySem.W.nsIn K mainGlobals "_law_draw" = some (some (.ref f9))) (l9 : K.lookup f9 = some ⟨oc9, od9, .func (PySem.W.fnOf "_law_draw" "_law_draw" (defArgs s_law_draw) (defBody s_law_draw) (defScope s_law_draw) .none kV9 dc9 pm9 an9 cd9 ct9), sl9⟩) (c9 : PySem.W.codeIn K cd9 "_law_draw" = true) (k9 : PySem.W.keepIn K (.ref f9) = true)
    (a10 : PySem.W.nsIn K mainGlobals "_law_word" = some (some (.ref f10))) (l10 : K.lookup f10 = some ⟨oc10, od10, .func (PySem.W.fnOf "_law_word" "_law_word" (defArgs s_law_word) (defBody s_law_word) (defScope s_law_word) .none kV10 dc10 pm10 an10 cd10 ct10), sl10⟩) (c10 : PySem.W.codeIn K cd10 "_law_word" = true) (k10 : PySem.W.keepIn K (.ref f10) = true)
    (a11 : PySem.W.nsIn K mainGlobals "_law_table" = some (some (.ref f11))) (l11 : K.lookup f11 = some ⟨oc11, od11, .func (PySem.W.fnOf "_law_table" "_law_table" (defArgs s_law_table) (defBody s_law_table) (defScope s_law_table) .none kV11 dc11 pm11 an11 cd11 ct11), sl11⟩) (c11 : PySem.W.codeIn K cd11 "_law_table" = true) (k11 : PySem.W.keepIn K (.ref f11) = true)
    (a12 : PySem.W.nsIn K mainGlobals "_law_line" = some (some (.ref f12))) (l12 : K.lookup f12 = some ⟨oc12, od12, .func (PySem.W.fnOf "_law_line" "_law_line" (defArgs s_law_line) (defBody s_law_line) (defScope s_law_line) .none kV12 dc12 pm12 an12 cd12 ct12), sl12⟩) (c12 : PySem.W.codeIn K cd12 "_law_line" = true) (k12 : PySem.W.keepIn K (.ref f12) = true)
    (a13 : PySem.W.nsIn K mainGlobals "_law_numbered" = some (some (.ref f13))) (l13 : K.lookup f13 = some ⟨oc13, od13, .func (PySem.W.fnOf "_law_numbered" "_law_numbered" (defArgs s_law_numbered) (defBody s_law_numbered) (defScope s_law_numbered) .none kV13 dc13 pm13 an13 cd13 ct13), sl13⟩) (c13 : PySem.W.codeIn K cd13 "_law_numbered" = true) (k13 : PySem.W.keepIn K (.ref f13) = true)
    (a14 : PySem.W.nsIn K mainGlobals "_law_order" = some (some (.ref f14))) (l14 : K.lookup f14 = some ⟨oc14, od14, .func (PySem.W.fnOf "_law_order" "_law_order" (defArgs s_law_order) (defBody s_law_order) (defScope s_law_order) .none kV14 dc14 pm14 an14 cd14 ct14), sl14⟩) (c14 : PySem.W.codeIn K cd14 "_law_order" = true) (k14 : PySem.W.keepIn K (.ref f14) = true)
    (a15 : PySem.W.nsIn K mainGlobals "_law_shuffled_web" = some (some (.ref f15))) (l15 : K.lookup f15 = some ⟨oc15, od15, .func (PySem.W.fnOf "_law_shuffled_web" "_law_shuffled_web" (defArgs s_law_shuffled_web) (defBody s_law_shuffled_web) (defScope s_law_shuffled_web) .none kV15 dc15 pm15 an15 cd15 ct15), sl15⟩) (c15 : PySem.W.codeIn K cd15 "_law_shuffled_web" = true) (k15 : PySem.W.keepIn K (.ref f15) = true)
    (a16 : PySem.W.nsIn K mainGlobals "_law_web" = some (some (.ref f16))) (l16 : K.lookup f16 = some ⟨oc16, od16, .func (PySem.W.fnOf "_law_web" "_law_web" (defArgs s_law_web) (defBody s_law_web) (defScope s_law_web) .none kV16 dc16 pm16 an16 cd16 ct16), sl16⟩) (c16 : PySem.W.codeIn K cd16 "_law_web" = true) (k16 : PySem.W.keepIn K (.ref f16) = true)
    (a17 : PySem.W.nsIn K mainGlobals "_law_turn" = some (some (.ref f17))) (l17 : K.lookup f17 = some ⟨oc17, od17, .func (PySem.W.fnOf "_law_turn" "_law_turn" (defArgs s_law_turn) (defBody s_law_turn) (defScope s_law_turn) .none kV17 dc17 pm17 an17 cd17 ct17), sl17⟩) (c17 : PySem.W.codeIn K cd17 "_law_turn" = true) (k17 : PySem.W.keepIn K (.ref f17) = true)
    (a18 : PySem.W.nsIn K mainGlobals "_law_too_great" = some (some (.ref f18))) (l18 : K.lookup f18 = some ⟨oc18, od18, .func (PySem.W.fnOf "_law_too_great" "_law_too_great" (defArgs s_law_too_great) (defBody s_law_too_great) (defScope s_law_too_great) .none kV18 dc18 pm18 an18 cd18 ct18), sl18⟩) (c18 : PySem.W.codeIn K cd18 "_law_too_great" = true) (k18 : PySem.W.keepIn K (.ref f18) = true)
    (a19 : PySem.W.nsIn K mainGlobals "_law_web_behind" = some (some (.ref f19))) (l19 : K.lookup f19 = some ⟨oc19, od19, .func (PySem.W.fnOf "_law_web_behind" "_law_web_behind" (defArgs s_law_web_behind) (defBody s_law_web_behind) (defScope s_law_web_behind) .none kV19 dc19 pm19 an19 cd19 ct19), sl19⟩) (c19 : PySem.W.codeIn K cd19 "_law_web_behind" = true) (k19 : PySem.W.keepIn K (.ref f19) = true)
    (a20 : PySem.W.nsIn K mainGlobals "_law_orders" = some (some (.ref f20))) (l20 : K.lookup f20 = some ⟨oc20, od20, .func (PySem.W.fnOf "_law_orders" "_law_orders" (defArgs s_law_orders) (defBody s_law_orders) (defScope s_law_orders) .none kV20 dc20 pm20 an20 cd20 ct20), sl20⟩) (c20 : PySem.W.codeIn K cd20 "_law_orders" = true) (k20 : PySem.W.keepIn K (.ref f20) = true)
    (a21 : PySem.W.nsIn K mainGlobals "_law_least" = some (some (.ref f21))) (l21 : K.lookup f21 = some ⟨oc21, od21, .func (PySem.W.fnOf "_law_least" "_law_least" (defArgs s_law_least) (defBody s_law_least) (defScope s_law_least) .none kV21 dc21 pm21 an21 cd21 ct21), sl21⟩) (c21 : PySem.W.codeIn K cd21 "_law_least" = true) (k21 : PySem.W.keepIn K (.ref f21) = true)
    (a22 : PySem.W.nsIn K mainGlobals "_law_due" = some (some (.ref f22))) (l22 : K.lookup f22 = some ⟨oc22, od22, .func (PySem.W.fnOf "_law_due" "_law_due" (defArgs s_law_due) (defBody s_law_due) (defScope s_law_due) .none kV22 dc22 pm22 an22 cd22 ct22), sl22⟩) (c22 : PySem.W.codeIn K cd22 "_law_due" = true) (k22 : PySem.W.keepIn K (.ref f22) = true)
    (a23 : PySem.W.nsIn K mainGlobals "_law_tried" = some (some (.ref f23))) (l23 : K.lookup f23 = some ⟨oc23, od23, .func (PySem.W.fnOf "_law_tried" "_law_tried" (defArgs s_law_tried) (defBody s_law_tried) (defScope s_law_tried) .none kV23 dc23 pm23 an23 cd23 ct23), sl23⟩) (c23 : PySem.W.codeIn K cd23 "_law_tried" = true) (k23 : PySem.W.keepIn K (.ref f23) = true)
    (a24 : PySem.W.nsIn K mainGlobals "law" = some (some (.ref f24))) (l24 : K.lookup f24 = some ⟨oc24, od24, .func (PySem.W.fnOf "law" "law" (defArgs s_law) (defBody s_law) (defScope s_law) .none kV24 dc24 pm24 an24 cd24 ct24), sl24⟩) (c24 : PySem.W.codeIn K cd24 "law" = true) (k24 : PySem.W.keepIn K (.ref f24) = true)
    (n_GREATEST : ∃ t, PySem.W.nsIn K mainGlobals "GREATEST" = some (some (.int 1000000000000000000000000000000 t)))
    (z_ValueError : PySem.W.nsIn K mainGlobals "ValueError" = some none)
    (z_abs : PySem.W.nsIn K mainGlobals "abs" = some none)
    (z_int : PySem.W.nsIn K mainGlobals "int" = some none)
    (z_isinstance : PySem.W.nsIn K mainGlobals "isinstance" = some none)
    (z_len : PySem.W.nsIn K mainGlobals "len" = some none)
    (z_list : PySem.W.nsIn K mainGlobals "list" = some none)
    (z_max : PySem.W.nsIn K mainGlobals "max" = some none)
    (z_min : PySem.W.nsIn K mainGlobals "min" = some none)
    (z_range : PySem.W.nsIn K mainGlobals "range" = some none)
    (z_tuple : PySem.W.nsIn K mainGlobals "tuple" = some none)
    {cC_NoCorner cC_NoCut cC_NoCuts cC_NoName cC_NoOrder cC_NoPart cC_NoRow cC_NoSum cC_NoText cC_NoWeb cC_NothingLeft cC_TooMany cC_WebError : Addr}
    (aC_NoCorner : PySem.W.nsIn K mainGlobals "NoCorner" = some (some (.ref cC_NoCorner)))
    (xC_NoCorner : PySem.W.excIn K cC_NoCorner [.type "ValueError", .type "Exception", .type "BaseException", .type "object"] "ValueError.__new__" = true)
    (kC_NoCorner : PySem.W.keepIn K (.ref cC_NoCorner) = true)
    (sC_NoCorner : PySem.W.subIn K (.ref cC_NoCorner) (.type "BaseException") = some true)
    (tC_NoCorner : PySem.W.typeIn K (.ref cC_NoCorner) = some (.type "type"))
    (aC_NoCut : PySem.W.nsIn K mainGlobals "NoCut" = some (some (.ref cC_NoCut)))
    (xC_NoCut : PySem.W.excIn K cC_NoCut [.type "ValueError", .type "Exception", .type "BaseException", .type "object"] "ValueError.__new__" = true)
    (kC_NoCut : PySem.W.keepIn K (.ref cC_NoCut) = true)
    (sC_NoCut : PySem.W.subIn K (.ref cC_NoCut) (.type "BaseException") = some true)
    (tC_NoCut : PySem.W.typeIn K (.ref cC_NoCut) = some (.type "type"))
    (aC_NoCuts : PySem.W.nsIn K mainGlobals "NoCuts" = some (some (.ref cC_NoCuts)))
    (xC_NoCuts : PySem.W.excIn K cC_NoCuts [.type "ValueError", .type "Exception", .type "BaseException", .type "object"] "ValueError.__new__" = true)
    (kC_NoCuts : PySem.W.keepIn K (.ref cC_NoCuts) = true)
    (sC_NoCuts : PySem.W.subIn K (.ref cC_NoCuts) (.type "BaseException") = some true)
    (tC_NoCuts : PySem.W.typeIn K (.ref cC_NoCuts) = some (.type "type"))
    (aC_NoName : PySem.W.nsIn K mainGlobals "NoName" = some (some (.ref cC_NoName)))
    (xC_NoName : PySem.W.excIn K cC_NoName [.type "ValueError", .type "Exception", .type "BaseException", .type "object"] "ValueError.__new__" = true)
    (kC_NoName : PySem.W.keepIn K (.ref cC_NoName) = true)
    (sC_NoName : PySem.W.subIn K (.ref cC_NoName) (.type "BaseException") = some true)
    (tC_NoName : PySem.W.typeIn K (.ref cC_NoName) = some (.type "type"))
    (aC_NoOrder : PySem.W.nsIn K mainGlobals "NoOrder" = some (some (.ref cC_NoOrder)))
    (xC_NoOrder : PySem.W.excIn K cC_NoOrder [.type "ValueError", .type "Exception", .type "BaseException", .type "object"] "ValueError.__new__" = true)
    (kC_NoOrder : PySem.W.keepIn K (.ref cC_NoOrder) = true)
    (sC_NoOrder : PySem.W.subIn K (.ref cC_NoOrder) (.type "BaseException") = some true)
    (tC_NoOrder : PySem.W.typeIn K (.ref cC_NoOrder) = some (.type "type"))
    (aC_NoPart : PySem.W.nsIn K mainGlobals "NoPart" = some (some (.ref cC_NoPart)))
    (xC_NoPart : PySem.W.excIn K cC_NoPart [.type "ValueError", .type "Exception", .type "BaseException", .type "object"] "ValueError.__new__" = true)
    (kC_NoPart : PySem.W.keepIn K (.ref cC_NoPart) = true)
    (sC_NoPart : PySem.W.subIn K (.ref cC_NoPart) (.type "BaseException") = some true)
    (tC_NoPart : PySem.W.typeIn K (.ref cC_NoPart) = some (.type "type"))
    (aC_NoRow : PySem.W.nsIn K mainGlobals "NoRow" = some (some (.ref cC_NoRow)))
    (xC_NoRow : PySem.W.excIn K cC_NoRow [.type "ValueError", .type "Exception", .type "BaseException", .type "object"] "ValueError.__new__" = true)
    (kC_NoRow : PySem.W.keepIn K (.ref cC_NoRow) = true)
    (sC_NoRow : PySem.W.subIn K (.ref cC_NoRow) (.type "BaseException") = some true)
    (tC_NoRow : PySem.W.typeIn K (.ref cC_NoRow) = some (.type "type"))
    (aC_NoSum : PySem.W.nsIn K mainGlobals "NoSum" = some (some (.ref cC_NoSum)))
    (xC_NoSum : PySem.W.excIn K cC_NoSum [.type "ValueError", .type "Exception", .type "BaseException", .type "object"] "ValueError.__new__" = true)
    (kC_NoSum : PySem.W.keepIn K (.ref cC_NoSum) = true)
    (sC_NoSum : PySem.W.subIn K (.ref cC_NoSum) (.type "BaseException") = some true)
    (tC_NoSum : PySem.W.typeIn K (.ref cC_NoSum) = some (.type "type"))
    (aC_NoText : PySem.W.nsIn K mainGlobals "NoText" = some (some (.ref cC_NoText)))
    (xC_NoText : PySem.W.excIn K cC_NoText [.type "ValueError", .type "Exception", .type "BaseException", .type "object"] "ValueError.__new__" = true)
    (kC_NoText : PySem.W.keepIn K (.ref cC_NoText) = true)
    (sC_NoText : PySem.W.subIn K (.ref cC_NoText) (.type "BaseException") = some true)
    (tC_NoText : PySem.W.typeIn K (.ref cC_NoText) = some (.type "type"))
    (aC_NoWeb : PySem.W.nsIn K mainGlobals "NoWeb" = some (some (.ref cC_NoWeb)))
    (xC_NoWeb : PySem.W.excIn K cC_NoWeb [.type "ValueError", .type "Exception", .type "BaseException", .type "object"] "ValueError.__new__" = true)
    (kC_NoWeb : PySem.W.keepIn K (.ref cC_NoWeb) = true)
    (sC_NoWeb : PySem.W.subIn K (.ref cC_NoWeb) (.type "BaseException") = some true)
    (tC_NoWeb : PySem.W.typeIn K (.ref cC_NoWeb) = some (.type "type"))
    (aC_NothingLeft : PySem.W.nsIn K mainGlobals "NothingLeft" = some (some (.ref cC_NothingLeft)))
    (xC_NothingLeft : PySem.W.excIn K cC_NothingLeft [.type "ValueError", .type "Exception", .type "BaseException", .type "object"] "ValueError.__new__" = true)
    (kC_NothingLeft : PySem.W.keepIn K (.ref cC_NothingLeft) = true)
    (sC_NothingLeft : PySem.W.subIn K (.ref cC_NothingLeft) (.type "BaseException") = some true)
    (tC_NothingLeft : PySem.W.typeIn K (.ref cC_NothingLeft) = some (.type "type"))
    (aC_TooMany : PySem.W.nsIn K mainGlobals "TooMany" = some (some (.ref cC_TooMany)))
    (xC_TooMany : PySem.W.excIn K cC_TooMany [.type "ValueError", .type "Exception", .type "BaseException", .type "object"] "ValueError.__new__" = true)
    (kC_TooMany : PySem.W.keepIn K (.ref cC_TooMany) = true)
    (sC_TooMany : PySem.W.subIn K (.ref cC_TooMany) (.type "BaseException") = some true)
    (tC_TooMany : PySem.W.typeIn K (.ref cC_TooMany) = some (.type "type"))
    (aC_WebError : PySem.W.nsIn K mainGlobals "WebError" = some (some (.ref cC_WebError)))
    (xC_WebError : PySem.W.excIn K cC_WebError [.type "ValueError", .type "Exception", .type "BaseException", .type "object"] "ValueError.__new__" = true)
    (kC_WebError : PySem.W.keepIn K (.ref cC_WebError) = true)
    (sC_WebError : PySem.W.subIn K (.ref cC_WebError) (.type "BaseException") = some true)
    (tC_WebError : PySem.W.typeIn K (.ref cC_WebError) = some (.type "type"))
    (eC_NoCorner_WebError : PySem.W.exmOne K (.ref cC_NoCorner) (.ref cC_WebError) = some true)
    (eC_TooMany_WebError : PySem.W.exmOne K (.ref cC_TooMany) (.ref cC_WebError) = some true)
    (iC_NoCorner_NoCorner : PySem.W.kitOne K (.ref cC_NoCorner) (.ref cC_NoCorner) = some true)
    (iC_NoCorner_NoCut : PySem.W.kitOne K (.ref cC_NoCorner) (.ref cC_NoCut) = some false)
    (iC_NoCorner_NoCuts : PySem.W.kitOne K (.ref cC_NoCorner) (.ref cC_NoCuts) = some false)
    (iC_NoCorner_NoName : PySem.W.kitOne K (.ref cC_NoCorner) (.ref cC_NoName) = some false)
    (iC_NoCorner_NoOrder : PySem.W.kitOne K (.ref cC_NoCorner) (.ref cC_NoOrder) = some false)
    (iC_NoCorner_NoPart : PySem.W.kitOne K (.ref cC_NoCorner) (.ref cC_NoPart) = some false)
    (iC_NoCorner_NoRow : PySem.W.kitOne K (.ref cC_NoCorner) (.ref cC_NoRow) = some false)
    (iC_NoCorner_NoSum : PySem.W.kitOne K (.ref cC_NoCorner) (.ref cC_NoSum) = some false)
    (iC_NoCorner_NoText : PySem.W.kitOne K (.ref cC_NoCorner) (.ref cC_NoText) = some false)
    (iC_NoCorner_NoWeb : PySem.W.kitOne K (.ref cC_NoCorner) (.ref cC_NoWeb) = some false)
    (iC_NoCorner_NothingLeft : PySem.W.kitOne K (.ref cC_NoCorner) (.ref cC_NothingLeft) = some false)
    (iC_NoCorner_TooMany : PySem.W.kitOne K (.ref cC_NoCorner) (.ref cC_TooMany) = some false)
    (uC_NoCorner_ValueError : PySem.W.kitOne K (.ref cC_NoCorner) (.type "ValueError") = some true)
    (gC_NoCorner : PySem.W.findIn K (.ref cC_NoCorner) "__getattribute__" = some (some (.builtin "BaseException.__getattribute__")))
    (hC_NoCorner : PySem.W.findIn K (.ref cC_NoCorner) "__getattr__" = some none)
    (dC_NoCorner : PySem.W.hasDictIn K cC_NoCorner = true)
    (oC_NoCorner : PySem.W.findIn K (.ref cC_NoCorner) "__class__" = some (some (.builtin "object.__class__")))
    (mC_NoCorner : PySem.W.mroIn K cC_NoCorner (.type "object") = some true)
    (iC_TooMany_NoCorner : PySem.W.kitOne K (.ref cC_TooMany) (.ref cC_NoCorner) = some false)
    (iC_TooMany_NoCut : PySem.W.kitOne K (.ref cC_TooMany) (.ref cC_NoCut) = some false)
    (iC_TooMany_NoCuts : PySem.W.kitOne K (.ref cC_TooMany) (.ref cC_NoCuts) = some false)
    (iC_TooMany_NoName : PySem.W.kitOne K (.ref cC_TooMany) (.ref cC_NoName) = some false)
    (iC_TooMany_NoOrder : PySem.W.kitOne K (.ref cC_TooMany) (.ref cC_NoOrder) = some false)
    (iC_TooMany_NoPart : PySem.W.kitOne K (.ref cC_TooMany) (.ref cC_NoPart) = some false)
    (iC_TooMany_NoRow : PySem.W.kitOne K (.ref cC_TooMany) (.ref cC_NoRow) = some false)
    (iC_TooMany_NoSum : PySem.W.kitOne K (.ref cC_TooMany) (.ref cC_NoSum) = some false)
    (iC_TooMany_NoText : PySem.W.kitOne K (.ref cC_TooMany) (.ref cC_NoText) = some false)
    (iC_TooMany_NoWeb : PySem.W.kitOne K (.ref cC_TooMany) (.ref cC_NoWeb) = some false)
    (iC_TooMany_NothingLeft : PySem.W.kitOne K (.ref cC_TooMany) (.ref cC_NothingLeft) = some false)
    (iC_TooMany_TooMany : PySem.W.kitOne K (.ref cC_TooMany) (.ref cC_TooMany) = some true)
    (uC_TooMany_ValueError : PySem.W.kitOne K (.ref cC_TooMany) (.type "ValueError") = some true)
    (gC_TooMany : PySem.W.findIn K (.ref cC_TooMany) "__getattribute__" = some (some (.builtin "BaseException.__getattribute__")))
    (hC_TooMany : PySem.W.findIn K (.ref cC_TooMany) "__getattr__" = some none)
    (dC_TooMany : PySem.W.hasDictIn K cC_TooMany = true)
    (oC_TooMany : PySem.W.findIn K (.ref cC_TooMany) "__class__" = some (some (.builtin "object.__class__")))
    (mC_TooMany : PySem.W.mroIn K cC_TooMany (.type "object") = some true)
    (nC : PySem.W.specialIn K (.builtin "object.__class__") "__get__" = some (some (.builtin "getset_descriptor.__get__")))
    (vC : PySem.W.takesIn K (.builtin "object.__class__") = some true)
    (hlaw : ∀ ns : List Int, ns.length ≤ 63 → Wf X0 (f_law [.v (.lst (ns.map .int))]) fun r _ => r = .v (.bl true)) :
    ∃ fd : FuncData, (∀ (s : Shared) (v : Value), BindsTo s fd ⟨[v], []⟩ [("_law_script", v)]) ∧ ∀ base : Heap, K.In base → base.Ns mainGlobals mg → FnOk l.prog w K mg base (L2.CX l.prog w) 7 fa fd ["_law_script"] (spLaw K) := by
  have e := hfa.symm.trans (PySem.W.mg_of X G a24)
  cases e
  obtain ⟨κ, K_NoCorner, K_NoCut, K_NoCuts, K_NoName, K_NoOrder, K_NoPart, K_NoRow, K_NoSum, K_NoText, K_NoWeb, K_NothingLeft, K_TooMany, K_WebError⟩ : ∃ κ : String → Addr, κ "NoCorner" = cC_NoCorner ∧ κ "NoCut" = cC_NoCut ∧ κ "NoCuts" = cC_NoCuts ∧ κ "NoName" = cC_NoName ∧ κ "NoOrder" = cC_NoOrder ∧ κ "NoPart" = cC_NoPart ∧ κ "NoRow" = cC_NoRow ∧ κ "NoSum" = cC_NoSum ∧ κ "NoText" = cC_NoText ∧ κ "NoWeb" = cC_NoWeb ∧ κ "NothingLeft" = cC_NothingLeft ∧ κ "TooMany" = cC_TooMany ∧ κ "WebError" = cC_WebError := ⟨fun x => if x = "NoCorner" then cC_NoCorner else if x = "NoCut" then cC_NoCut else if x = "NoCuts" then cC_NoCuts else if x = "NoName" then cC_NoName else if x = "NoOrder" then cC_NoOrder else if x = "NoPart" then cC_NoPart else if x = "NoRow" then cC_NoRow else if x = "NoSum" then cC_NoSum else if x = "NoText" then cC_NoText else if x = "NoWeb" then cC_NoWeb else if x = "NothingLeft" then cC_NothingLeft else if x = "TooMany" then cC_TooMany else if x = "WebError" then cC_WebError else 0, by simp, by simp, by simp, by simp, by simp, by simp, by simp, by simp, by simp, by simp, by simp, by simp, by simp⟩
  have X_NoCorner : ExcOk K κ mg "NoCorner" := ⟨by rw [K_NoCorner]; exact PySem.W.mg_of X G aC_NoCorner, by rw [K_NoCorner]; exact xC_NoCorner, by rw [K_NoCorner]; exact kC_NoCorner, by rw [K_NoCorner]; exact sC_NoCorner, by rw [K_NoCorner]; exact tC_NoCorner⟩
  have X_NoCut : ExcOk K κ mg "NoCut" := ⟨by rw [K_NoCut]; exact PySem.W.mg_of X G aC_NoCut, by rw [K_NoCut]; exact xC_NoCut, by rw [K_NoCut]; exact kC_NoCut, by rw [K_NoCut]; exact sC_NoCut, by rw [K_NoCut]; exact tC_NoCut⟩
  have X_NoCuts : ExcOk K κ mg "NoCuts" := ⟨by rw [K_NoCuts]; exact PySem.W.mg_of X G aC_NoCuts, by rw [K_NoCuts]; exact xC_NoCuts, by rw [K_NoCuts]; exact kC_NoCuts, by rw [K_NoCuts]; exact sC_NoCuts, by rw [K_NoCuts]; exact tC_NoCuts⟩
  have X_NoName : ExcOk K κ mg "NoName" := ⟨by rw [K_NoName]; exact PySem.W.mg_of X G aC_NoName, by rw [K_NoName]; exact xC_NoName, by rw [K_NoName]; exact kC_NoName, by rw [K_NoName]; exact sC_NoName, by rw [K_NoName]; exact tC_NoName⟩
  have X_NoOrder : ExcOk K κ mg "NoOrder" := ⟨by rw [K_NoOrder]; exact PySem.W.mg_of X G aC_NoOrder, by rw [K_NoOrder]; exact xC_NoOrder, by rw [K_NoOrder]; exact kC_NoOrder, by rw [K_NoOrder]; exact sC_NoOrder, by rw [K_NoOrder]; exact tC_NoOrder⟩
  have X_NoPart : ExcOk K κ mg "NoPart" := ⟨by rw [K_NoPart]; exact PySem.W.mg_of X G aC_NoPart, by rw [K_NoPart]; exact xC_NoPart, by rw [K_NoPart]; exact kC_NoPart, by rw [K_NoPart]; exact sC_NoPart, by rw [K_NoPart]; exact tC_NoPart⟩
  have X_NoRow : ExcOk K κ mg "NoRow" := ⟨by rw [K_NoRow]; exact PySem.W.mg_of X G aC_NoRow, by rw [K_NoRow]; exact xC_NoRow, by rw [K_NoRow]; exact kC_NoRow, by rw [K_NoRow]; exact sC_NoRow, by rw [K_NoRow]; exact tC_NoRow⟩
  have X_NoSum : ExcOk K κ mg "NoSum" := ⟨by rw [K_NoSum]; exact PySem.W.mg_of X G aC_NoSum, by rw [K_NoSum]; exact xC_NoSum, by rw [K_NoSum]; exact kC_NoSum, by rw [K_NoSum]; exact sC_NoSum, by rw [K_NoSum]; exact tC_NoSum⟩
  have X_NoText : ExcOk K κ mg "NoText" := ⟨by rw [K_NoText]; exact PySem.W.mg_of X G aC_NoText, by rw [K_NoText]; exact xC_NoText, by rw [K_NoText]; exact kC_NoText, by rw [K_NoText]; exact sC_NoText, by rw [K_NoText]; exact tC_NoText⟩
  have X_NoWeb : ExcOk K κ mg "NoWeb" := ⟨by rw [K_NoWeb]; exact PySem.W.mg_of X G aC_NoWeb, by rw [K_NoWeb]; exact xC_NoWeb, by rw [K_NoWeb]; exact kC_NoWeb, by rw [K_NoWeb]; exact sC_NoWeb, by rw [K_NoWeb]; exact tC_NoWeb⟩
  have X_NothingLeft : ExcOk K κ mg "NothingLeft" := ⟨by rw [K_NothingLeft]; exact PySem.W.mg_of X G aC_NothingLeft, by rw [K_NothingLeft]; exact xC_NothingLeft, by rw [K_NothingLeft]; exact kC_NothingLeft, by rw [K_NothingLeft]; exact sC_NothingLeft, by rw [K_NothingLeft]; exact tC_NothingLeft⟩
  have X_TooMany : ExcOk K κ mg "TooMany" := ⟨by rw [K_TooMany]; exact PySem.W.mg_of X G aC_TooMany, by rw [K_TooMany]; exact xC_TooMany, by rw [K_TooMany]; exact kC_TooMany, by rw [K_TooMany]; exact sC_TooMany, by rw [K_TooMany]; exact tC_TooMany⟩
  have X_WebError : ExcOk K κ mg "WebError" := ⟨by rw [K_WebError]; exact PySem.W.mg_of X G aC_WebError, by rw [K_WebError]; exact xC_WebError, by rw [K_WebError]; exact kC_WebError, by rw [K_WebError]; exact sC_WebError, by rw [K_WebError]; exact tC_WebError⟩
  have Q_WebError : ∀ m b, caught_WebError m = some b → PySem.W.exmOne K (.ref (κ m)) (.ref (κ "WebError")) = some b := by
    intro m b e
    unfold caught_WebError at e
    by_cases h0 : m = "NoCorner"
    · subst h0; rw [if_pos rfl] at e; cases e; rw [K_NoCorner, K_WebError]; exact eC_NoCorner_WebError
    rw [if_neg h0] at e
    by_cases h1 : m = "TooMany"
    · subst h1; rw [if_pos rfl] at e; cases e; rw [K_TooMany, K_WebError]; exact eC_TooMany_WebError
    rw [if_neg h1] at e
    cases e
  have D_NoCorner : ExcC K (κ "NoCorner") := by rw [K_NoCorner]; exact ⟨gC_NoCorner, hC_NoCorner, sC_NoCorner, dC_NoCorner, oC_NoCorner, nC, vC, mC_NoCorner⟩
  have D_TooMany : ExcC K (κ "TooMany") := by rw [K_TooMany]; exact ⟨gC_TooMany, hC_TooMany, sC_TooMany, dC_TooMany, oC_TooMany, nC, vC, mC_TooMany⟩
  have S_E : SubOk K κ subE subTE := by
    refine ⟨fun n m b e => ?_, fun n m b e => ?_⟩
    · unfold subE at e
      by_cases h0 : n = "NoCorner" ∧ m = "NoCorner"
      · obtain ⟨rfl, rfl⟩ := h0; rw [if_pos ⟨rfl, rfl⟩] at e; cases e; exact ⟨by rw [K_NoCorner]; exact iC_NoCorner_NoCorner, D_NoCorner⟩
      rw [if_neg h0] at e
      by_cases h1 : n = "NoCorner" ∧ m = "NoCut"
      · obtain ⟨rfl, rfl⟩ := h1; rw [if_pos ⟨rfl, rfl⟩] at e; cases e; exact ⟨by rw [K_NoCorner, K_NoCut]; exact iC_NoCorner_NoCut, D_NoCorner⟩
      rw [if_neg h1] at e
      by_cases h2 : n = "NoCorner" ∧ m = "NoCuts"
      · obtain ⟨rfl, rfl⟩ := h2; rw [if_pos ⟨rfl, rfl⟩] at e; cases e; exact ⟨by rw [K_NoCorner, K_NoCuts]; exact iC_NoCorner_NoCuts, D_NoCorner⟩
      rw [if_neg h2] at e
      by_cases h3 : n = "NoCorner" ∧ m = "NoName"
      · obtain ⟨rfl, rfl⟩ := h3; rw [if_pos ⟨rfl, rfl⟩] at e; cases e; exact ⟨by rw [K_NoCorner, K_NoName]; exact iC_NoCorner_NoName, D_NoCorner⟩
      rw [if_neg h3] at e
      by_cases h4 : n = "NoCorner" ∧ m = "NoOrder"
      · obtain ⟨rfl, rfl⟩ := h4; rw [if_pos ⟨rfl, rfl⟩] at e; cases e; exact ⟨by rw [K_NoCorner, K_NoOrder]; exact iC_NoCorner_NoOrder, D_NoCorner⟩
      rw [if_neg h4] at e
      by_cases h5 : n = "NoCorner" ∧ m = "NoPart"
      · obtain ⟨rfl, rfl⟩ := h5; rw [if_pos ⟨rfl, rfl⟩] at e; cases e; exact ⟨by rw [K_NoCorner, K_NoPart]; exact iC_NoCorner_NoPart, D_NoCorner⟩
      rw [if_neg h5] at e
      by_cases h6 : n = "NoCorner" ∧ m = "NoRow"
      · obtain ⟨rfl, rfl⟩ := h6; rw [if_pos ⟨rfl, rfl⟩] at e; cases e; exact ⟨by rw [K_NoCorner, K_NoRow]; exact iC_NoCorner_NoRow, D_NoCorner⟩
      rw [if_neg h6] at e
      by_cases h7 : n = "NoCorner" ∧ m = "NoSum"
      · obtain ⟨rfl, rfl⟩ := h7; rw [if_pos ⟨rfl, rfl⟩] at e; cases e; exact ⟨by rw [K_NoCorner, K_NoSum]; exact iC_NoCorner_NoSum, D_NoCorner⟩
      rw [if_neg h7] at e
      by_cases h8 : n = "NoCorner" ∧ m = "NoText"
      · obtain ⟨rfl, rfl⟩ := h8; rw [if_pos ⟨rfl, rfl⟩] at e; cases e; exact ⟨by rw [K_NoCorner, K_NoText]; exact iC_NoCorner_NoText, D_NoCorner⟩
      rw [if_neg h8] at e
      by_cases h9 : n = "NoCorner" ∧ m = "NoWeb"
      · obtain ⟨rfl, rfl⟩ := h9; rw [if_pos ⟨rfl, rfl⟩] at e; cases e; exact ⟨by rw [K_NoCorner, K_NoWeb]; exact iC_NoCorner_NoWeb, D_NoCorner⟩
      rw [if_neg h9] at e
      by_cases h10 : n = "NoCorner" ∧ m = "NothingLeft"
      · obtain ⟨rfl, rfl⟩ := h10; rw [if_pos ⟨rfl, rfl⟩] at e; cases e; exact ⟨by rw [K_NoCorner, K_NothingLeft]; exact iC_NoCorner_NothingLeft, D_NoCorner⟩
      rw [if_neg h10] at e
      by_cases h11 : n = "NoCorner" ∧ m = "TooMany"
      · obtain ⟨rfl, rfl⟩ := h11; rw [if_pos ⟨rfl, rfl⟩] at e; cases e; exact ⟨by rw [K_NoCorner, K_TooMany]; exact iC_NoCorner_TooMany, D_NoCorner⟩
      rw [if_neg h11] at e
      by_cases h12 : n = "TooMany" ∧ m = "NoCorner"
      · obtain ⟨rfl, rfl⟩ := h12; rw [if_pos ⟨rfl, rfl⟩] at e; cases e; exact ⟨by rw [K_TooMany, K_NoCorner]; exact iC_TooMany_NoCorner, D_TooMany⟩
      rw [if_neg h12] at e
      by_cases h13 : n = "TooMany" ∧ m = "NoCut"
      · obtain ⟨rfl, rfl⟩ := h13; rw [if_pos ⟨rfl, rfl⟩] at e; cases e; exact ⟨by rw [K_TooMany, K_NoCut]; exact iC_TooMany_NoCut, D_TooMany⟩
      rw [if_neg h13] at e
      by_cases h14 : n = "TooMany" ∧ m = "NoCuts"
      · obtain ⟨rfl, rfl⟩ := h14; rw [if_pos ⟨rfl, rfl⟩] at e; cases e; exact ⟨by rw [K_TooMany, K_NoCuts]; exact iC_TooMany_NoCuts, D_TooMany⟩
      rw [if_neg h14] at e
      by_cases h15 : n = "TooMany" ∧ m = "NoName"
      · obtain ⟨rfl, rfl⟩ := h15; rw [if_pos ⟨rfl, rfl⟩] at e; cases e; exact ⟨by rw [K_TooMany, K_NoName]; exact iC_TooMany_NoName, D_TooMany⟩
      rw [if_neg h15] at e
      by_cases h16 : n = "TooMany" ∧ m = "NoOrder"
      · obtain ⟨rfl, rfl⟩ := h16; rw [if_pos ⟨rfl, rfl⟩] at e; cases e; exact ⟨by rw [K_TooMany, K_NoOrder]; exact iC_TooMany_NoOrder, D_TooMany⟩
      rw [if_neg h16] at e
      by_cases h17 : n = "TooMany" ∧ m = "NoPart"
      · obtain ⟨rfl, rfl⟩ := h17; rw [if_pos ⟨rfl, rfl⟩] at e; cases e; exact ⟨by rw [K_TooMany, K_NoPart]; exact iC_TooMany_NoPart, D_TooMany⟩
      rw [if_neg h17] at e
      by_cases h18 : n = "TooMany" ∧ m = "NoRow"
      · obtain ⟨rfl, rfl⟩ := h18; rw [if_pos ⟨rfl, rfl⟩] at e; cases e; exact ⟨by rw [K_TooMany, K_NoRow]; exact iC_TooMany_NoRow, D_TooMany⟩
      rw [if_neg h18] at e
      by_cases h19 : n = "TooMany" ∧ m = "NoSum"
      · obtain ⟨rfl, rfl⟩ := h19; rw [if_pos ⟨rfl, rfl⟩] at e; cases e; exact ⟨by rw [K_TooMany, K_NoSum]; exact iC_TooMany_NoSum, D_TooMany⟩
      rw [if_neg h19] at e
      by_cases h20 : n = "TooMany" ∧ m = "NoText"
      · obtain ⟨rfl, rfl⟩ := h20; rw [if_pos ⟨rfl, rfl⟩] at e; cases e; exact ⟨by rw [K_TooMany, K_NoText]; exact iC_TooMany_NoText, D_TooMany⟩
      rw [if_neg h20] at e
      by_cases h21 : n = "TooMany" ∧ m = "NoWeb"
      · obtain ⟨rfl, rfl⟩ := h21; rw [if_pos ⟨rfl, rfl⟩] at e; cases e; exact ⟨by rw [K_TooMany, K_NoWeb]; exact iC_TooMany_NoWeb, D_TooMany⟩
      rw [if_neg h21] at e
      by_cases h22 : n = "TooMany" ∧ m = "NothingLeft"
      · obtain ⟨rfl, rfl⟩ := h22; rw [if_pos ⟨rfl, rfl⟩] at e; cases e; exact ⟨by rw [K_TooMany, K_NothingLeft]; exact iC_TooMany_NothingLeft, D_TooMany⟩
      rw [if_neg h22] at e
      by_cases h23 : n = "TooMany" ∧ m = "TooMany"
      · obtain ⟨rfl, rfl⟩ := h23; rw [if_pos ⟨rfl, rfl⟩] at e; cases e; exact ⟨by rw [K_TooMany]; exact iC_TooMany_TooMany, D_TooMany⟩
      rw [if_neg h23] at e
      cases e
    · unfold subTE at e
      by_cases h0 : n = "NoCorner" ∧ m = "ValueError"
      · obtain ⟨rfl, rfl⟩ := h0; rw [if_pos ⟨rfl, rfl⟩] at e; cases e; exact ⟨by rw [K_NoCorner]; exact uC_NoCorner_ValueError, D_NoCorner⟩
      rw [if_neg h0] at e
      by_cases h1 : n = "TooMany" ∧ m = "ValueError"
      · obtain ⟨rfl, rfl⟩ := h1; rw [if_pos ⟨rfl, rfl⟩] at e; cases e; exact ⟨by rw [K_TooMany]; exact uC_TooMany_ValueError, D_TooMany⟩
      rw [if_neg h1] at e
      cases e
  have T : Txt K κ mg := ⟨PySem.W.mg_none_of X G z_ValueError, PySem.W.mg_none_of X G z_abs, PySem.W.mg_none_of X G z_int, PySem.W.mg_none_of X G z_isinstance, PySem.W.mg_none_of X G z_len, PySem.W.mg_none_of X G z_list, PySem.W.mg_none_of X G z_max, PySem.W.mg_none_of X G z_min, PySem.W.mg_none_of X G z_range, PySem.W.mg_none_of X G z_tuple, X_NoCorner, X_NoCut, X_NoCuts, X_NoName, X_NoOrder, X_NoPart, X_NoRow, X_NoSum, X_NoText, X_NoWeb, X_NothingLeft, X_TooMany, X_WebError, Q_WebError, S_E⟩
  have F0 := fun_mk (st := s_orders) l0 c0 k0
  have F1 := fun_mk (st := s_renumbered_by) l1 c1 k1
  have F2 := fun_mk (st := s_least_form) l2 c2 k2
  have F3 := fun_mk (st := s_need_corner) l3 c3 k3
  have F4 := fun_mk (st := s_arrows) l4 c4 k4
  have F5 := fun_mk (st := s_number_behind) l5 c5 k5
  have F6 := fun_mk (st := s_turned) l6 c6 k6
  have F7 := fun_mk (st := s_turned_by) l7 c7 k7
  have F8 := fun_mk (st := s_kinds) l8 c8 k8
  have F9 := fun_mk (st := s_law_draw) l9 c9 k9
  have F10 := fun_mk (st := s_law_word) l10 c10 k10
  have F11 := fun_mk (st := s_law_table) l11 c11 k11
  have F12 := fun_mk (st := s_law_line) l12 c12 k12
  have F13 := fun_mk (st := s_law_numbered) l13 c13 k13
  have F14 := fun_mk (st := s_law_order) l14 c14 k14
  have F15 := fun_mk (st := s_law_shuffled_web) l15 c15 k15
  have F16 := fun_mk (st := s_law_web) l16 c16 k16
  have F17 := fun_mk (st := s_law_turn) l17 c17 k17
  have F18 := fun_mk (st := s_law_too_great) l18 c18 k18
  have F19 := fun_mk (st := s_law_web_behind) l19 c19 k19
  have F20 := fun_mk (st := s_law_orders) l20 c20 k20
  have F21 := fun_mk (st := s_law_least) l21 c21 k21
  have F22 := fun_mk (st := s_law_due) l22 c22 k22
  have F23 := fun_mk (st := s_law_tried) l23 c23 k23
  have F24 := fun_mk (st := s_law) l24 c24 k24
  have g_GREATEST := n_GREATEST.imp fun t e => PySem.W.mg_of X G e
  refine ⟨PySem.W.fnOf "law" "law" (defArgs s_law) (defBody s_law) (defScope s_law) .none kV24 dc24 pm24 an24 cd24 ct24, fun s v => .of_eq rfl, fun base _ _ => ?_⟩
  have C_orders : Cal l.prog w K mg base κ "orders" 1 f_orders 1 := ⟨f0, _, ["many"], rfl, ok_orders F0 T  , PySem.W.mg_of X G a0, k0, (F0.binds (ps := ["many"]) fun _ _ _ _ _ _ us hl => match us, hl with | [_], _ => rfl)⟩
  have C_renumbered_by : Cal l.prog w K mg base κ "renumbered_by" 2 f_renumbered_by 1 := ⟨f1, _, ["web", "order"], rfl, ok_renumbered_by F1 T  , PySem.W.mg_of X G a1, k1, (F1.binds (ps := ["web", "order"]) fun _ _ _ _ _ _ us hl => match us, hl with | [_, _], _ => rfl)⟩
  have C_least_form : Cal l.prog w K mg base κ "least_form" 1 f_least_form 2 := ⟨f2, _, ["web"], rfl, ok_least_form F2 T C_orders C_renumbered_by , PySem.W.mg_of X G a2, k2, (F2.binds (ps := ["web"]) fun _ _ _ _ _ _ us hl => match us, hl with | [_], _ => rfl)⟩
  have C_need_corner : Cal l.prog w K mg base κ "need_corner" 2 f_need_corner 1 := ⟨f3, _, ["web", "k"], rfl, ok_need_corner F3 T  , PySem.W.mg_of X G a3, k3, (F3.binds (ps := ["web", "k"]) fun _ _ _ _ _ _ us hl => match us, hl with | [_, _], _ => rfl)⟩
  have C_arrows : Cal l.prog w K mg base κ "arrows" 3 f_arrows 1 := ⟨f4, _, ["web", "i", "j"], rfl, ok_arrows F4 T  , PySem.W.mg_of X G a4, k4, (F4.binds (ps := ["web", "i", "j"]) fun _ _ _ _ _ _ us hl => match us, hl with | [_, _, _], _ => rfl)⟩
  have C_number_behind : Cal l.prog w K mg base κ "number_behind" 4 f_number_behind 2 := ⟨f5, _, ["web", "k", "i", "j"], rfl, ok_number_behind F5 T C_arrows , PySem.W.mg_of X G a5, k5, (F5.binds (ps := ["web", "k", "i", "j"]) fun _ _ _ _ _ _ us hl => match us, hl with | [_, _, _, _], _ => rfl)⟩
  have C_turned : Cal l.prog w K mg base κ "turned" 2 f_turned 3 := ⟨f6, _, ["web", "k"], rfl, ok_turned F6 T C_need_corner C_number_behind g_GREATEST, PySem.W.mg_of X G a6, k6, (F6.binds (ps := ["web", "k"]) fun _ _ _ _ _ _ us hl => match us, hl with | [_, _], _ => rfl)⟩
  have C_turned_by : Cal l.prog w K mg base κ "turned_by" 2 f_turned_by 4 := ⟨f7, _, ["web", "row"], rfl, ok_turned_by F7 T C_need_corner C_turned , PySem.W.mg_of X G a7, k7, (F7.binds (ps := ["web", "row"]) fun _ _ _ _ _ _ us hl => match us, hl with | [_, _], _ => rfl)⟩
  have C_kinds : Cal l.prog w K mg base κ "kinds" 2 f_kinds 5 := ⟨f8, _, ["web", "most"], rfl, ok_kinds F8 T C_least_form C_turned_by C_turned , PySem.W.mg_of X G a8, k8, (F8.binds (ps := ["web", "most"]) fun _ _ _ _ _ _ us hl => match us, hl with | [_, _], _ => rfl)⟩
  have C_law_draw : Cal l.prog w K mg base κ "_law_draw" 2 f_law_draw 1 := ⟨f9, _, ["_law_tape", "_law_many"], rfl, ok_law_draw F9 T  , PySem.W.mg_of X G a9, k9, (F9.binds (ps := ["_law_tape", "_law_many"]) fun _ _ _ _ _ _ us hl => match us, hl with | [_, _], _ => rfl)⟩
  have C_law_word : Cal l.prog w K mg base κ "_law_word" 1 f_law_word 1 := ⟨f10, _, ["_law_error"], rfl, ok_law_word F10 T  , PySem.W.mg_of X G a10, k10, (F10.binds (ps := ["_law_error"]) fun _ _ _ _ _ _ us hl => match us, hl with | [_], _ => rfl)⟩
  have C_law_table : Cal l.prog w K mg base κ "_law_table" 2 f_law_table 1 := ⟨f11, _, ["_law_many", "_law_ties"], rfl, ok_law_table F11 T  , PySem.W.mg_of X G a11, k11, (F11.binds (ps := ["_law_many", "_law_ties"]) fun _ _ _ _ _ _ us hl => match us, hl with | [_, _], _ => rfl)⟩
  have C_law_line : Cal l.prog w K mg base κ "_law_line" 2 f_law_line 2 := ⟨f12, _, ["_law_tape", "_law_many"], rfl, ok_law_line F12 T C_law_draw C_law_table , PySem.W.mg_of X G a12, k12, (F12.binds (ps := ["_law_tape", "_law_many"]) fun _ _ _ _ _ _ us hl => match us, hl with | [_, _], _ => rfl)⟩
  have C_law_numbered : Cal l.prog w K mg base κ "_law_numbered" 2 f_law_numbered 1 := ⟨f13, _, ["_law_web_here", "_law_order_here"], rfl, ok_law_numbered F13 T  , PySem.W.mg_of X G a13, k13, (F13.binds (ps := ["_law_web_here", "_law_order_here"]) fun _ _ _ _ _ _ us hl => match us, hl with | [_, _], _ => rfl)⟩
  have C_law_order : Cal l.prog w K mg base κ "_law_order" 2 f_law_order 2 := ⟨f14, _, ["_law_tape", "_law_many"], rfl, ok_law_order F14 T C_law_draw , PySem.W.mg_of X G a14, k14, (F14.binds (ps := ["_law_tape", "_law_many"]) fun _ _ _ _ _ _ us hl => match us, hl with | [_, _], _ => rfl)⟩
  have C_law_shuffled_web : Cal l.prog w K mg base κ "_law_shuffled_web" 2 f_law_shuffled_web 3 := ⟨f15, _, ["_law_tape", "_law_web_here"], rfl, ok_law_shuffled_web F15 T C_law_numbered C_law_order , PySem.W.mg_of X G a15, k15, (F15.binds (ps := ["_law_tape", "_law_web_here"]) fun _ _ _ _ _ _ us hl => match us, hl with | [_, _], _ => rfl)⟩
  have C_law_web : Cal l.prog w K mg base κ "_law_web" 2 f_law_web 4 := ⟨f16, _, ["_law_tape", "_law_most"], rfl, ok_law_web F16 T C_law_draw C_law_shuffled_web C_law_line C_law_table , PySem.W.mg_of X G a16, k16, (F16.binds (ps := ["_law_tape", "_law_most"]) fun _ _ _ _ _ _ us hl => match us, hl with | [_, _], _ => rfl)⟩
  have C_law_turn : Cal l.prog w K mg base κ "_law_turn" 2 f_law_turn 1 := ⟨f17, _, ["_law_web_here", "_law_k"], rfl, ok_law_turn F17 T  , PySem.W.mg_of X G a17, k17, (F17.binds (ps := ["_law_web_here", "_law_k"]) fun _ _ _ _ _ _ us hl => match us, hl with | [_, _], _ => rfl)⟩
  have C_law_too_great : Cal l.prog w K mg base κ "_law_too_great" 1 f_law_too_great 1 := ⟨f18, _, ["_law_web_here"], rfl, ok_law_too_great F18 T  , PySem.W.mg_of X G a18, k18, (F18.binds (ps := ["_law_web_here"]) fun _ _ _ _ _ _ us hl => match us, hl with | [_], _ => rfl)⟩
  have C_law_web_behind : Cal l.prog w K mg base κ "_law_web_behind" 2 f_law_web_behind 2 := ⟨f19, _, ["_law_web_here", "_law_row"], rfl, ok_law_web_behind F19 T C_law_turn C_law_too_great , PySem.W.mg_of X G a19, k19, (F19.binds (ps := ["_law_web_here", "_law_row"]) fun _ _ _ _ _ _ us hl => match us, hl with | [_, _], _ => rfl)⟩
  have C_law_orders : Cal l.prog w K mg base κ "_law_orders" 1 f_law_orders 1 := ⟨f20, _, ["_law_many"], rfl, ok_law_orders F20 T  , PySem.W.mg_of X G a20, k20, (F20.binds (ps := ["_law_many"]) fun _ _ _ _ _ _ us hl => match us, hl with | [_], _ => rfl)⟩
  have C_law_least : Cal l.prog w K mg base κ "_law_least" 1 f_law_least 2 := ⟨f21, _, ["_law_web_here"], rfl, ok_law_least F21 T C_law_orders C_law_numbered , PySem.W.mg_of X G a21, k21, (F21.binds (ps := ["_law_web_here"]) fun _ _ _ _ _ _ us hl => match us, hl with | [_], _ => rfl)⟩
  have C_law_due : Cal l.prog w K mg base κ "_law_due" 2 f_law_due 3 := ⟨f22, _, ["_law_web_here", "_law_most"], rfl, ok_law_due F22 T C_law_least C_law_web_behind C_law_turn C_law_too_great , PySem.W.mg_of X G a22, k22, (F22.binds (ps := ["_law_web_here", "_law_most"]) fun _ _ _ _ _ _ us hl => match us, hl with | [_, _], _ => rfl)⟩
  have C_law_tried : Cal l.prog w K mg base κ "_law_tried" 2 f_law_tried 6 := ⟨f23, _, ["_law_web_here", "_law_most"], rfl, ok_law_tried F23 T C_kinds C_law_word , PySem.W.mg_of X G a23, k23, (F23.binds (ps := ["_law_web_here", "_law_most"]) fun _ _ _ _ _ _ us hl => match us, hl with | [_, _], _ => rfl)⟩
  exact (ok_law F24 T C_law_web C_law_draw C_law_shuffled_web C_law_line C_law_due C_law_tried ).imp (sp_of hlaw)
theorem walk {l : PySem.W.OpenLaw} {q : Program} {loose : List Str} {XP : (Str → Option Value) → Heap → Prop} {YP : World → Heap → Prop} {d : DefRec} {K : Params → PySem.W.Frag} (hn : l.most = some 63) (hdf : d.params.defaults = [])
    (hY : ∀ (w : World) (h : Heap), YP w h → (K w.params).In h)
    (F : ∀ (w : World) (mg : Str → Option Value) (fa : Addr) (h : Heap), (K w.params).In h → h.Ns mainGlobals mg → mg d.name = some (.ref fa) →
      ∃ fd : FuncData, (∀ (s : Shared) (u : Value), BindsTo s fd ⟨[u], []⟩ [("_law_script", u)]) ∧ ∀ base : Heap, (K w.params).In base → base.Ns mainGlobals mg → FnOk l.prog w (K w.params) mg base (L2.CX l.prog w) 7 fa fd ["_law_script"] (spLaw (K w.params))) :
    PySem.W.WalkO q loose XP YP l.row.toRowW d [] (fun f vs => PySem.call f vs) :=
  L2.walk_of (n := 63) (k := 7) (x := "_law_script") (CX := fun w => L2.CX l.prog w) (sp := fun w => spLaw (K w.params)) hn (by decide) hdf ⟨rfl, by decide, by decide⟩ hY F (fun _ _ a ns hl ho hS => ⟨a, ns, rfl, sqf_of ho hS, hl, fun _ => rfl⟩) fun _ _ _ _ _ z => cx_no z
end SW
open PySem PySem.W PyProof.Rows
set_option maxRecDepth 100000 in
set_option maxHeartbeats 0 in
theorem PySem.Challenge.cw_swivelweb_k23_kinds_told_holds : PySem.Challenge.rw_swivelweb_k23_kinds_told.Holds := by
  w_on; o_law; k_head; (case hw => w_witness2)
  k_fill
  refine SW.walk (l := PySem.Challenge.rw_swivelweb_k23_kinds_told) rfl rfl (fun w h Y => PySem.W.kIn_of Y) ?F
  case F =>
    intro w mg fa h KX G hmg
    refine' SW.all_mk KX G hmg ?a0 ?l0 ?c0 ?k0 ?a1 ?l1 ?c1 ?k1 ?a2 ?l2 ?c2 ?k2 ?a3 ?l3 ?c3 ?k3 ?a4 ?l4 ?c4 ?k4 ?a5 ?l5 ?c5 ?k5 ?a6 ?l6 ?c6 ?k6 ?a7 ?l7 ?c7 ?k7 ?a8 ?l8 ?c8 ?k8 ?a9 ?l9 ?c9 ?k9 ?a10 ?l10 ?c10 ?k10 ?a11 ?l11 ?c11 ?k11 ?a12 ?l12 ?c12 ?k12 ?a13 ?l13 ?c13 ?k13 ?a14 ?l14 ?c14 ?k14 ?a15 ?l15 ?c15 ?k15 ?a16 ?l16 ?c16 ?k16 ?a17 ?l17 ?c17 ?k17 ?a18 ?l18 ?c18 ?k18 ?a19 ?l19 ?c19 ?k19 ?a20 ?l20 ?c20 ?k20 ?a21 ?l21 ?c21 ?k21 ?a22 ?l22 ?c22 ?k22 ?a23 ?l23 ?c23 ?k23 ?a24 ?l24 ?c24 ?k24 ?n_GREATEST ?z_ValueError ?z_abs ?z_int ?z_isinstance ?z_len ?z_list ?z_max ?z_min ?z_range ?z_tuple ?aC_NoCorner ?xC_NoCorner ?kC_NoCorner ?sC_NoCorner ?tC_NoCorner ?aC_NoCut ?xC_NoCut ?kC_NoCut ?sC_NoCut ?tC_NoCut ?aC_NoCuts ?xC_NoCuts ?kC_NoCuts ?sC_NoCuts ?tC_NoCuts ?aC_NoName ?xC_NoName ?kC_NoName ?sC_NoName ?tC_NoName ?aC_NoOrder ?xC_NoOrder ?kC_NoOrder ?sC_NoOrder ?tC_NoOrder ?aC_NoPart ?xC_NoPart ?kC_NoPart ?sC_NoPart ?tC_NoPart ?aC_NoRow ?xC_NoRow ?kC_NoRow ?sC_NoRow ?tC_NoRow ?aC_NoSum ?xC_NoSum ?kC_NoSum ?sC_NoSum ?tC_NoSum ?aC_NoText ?xC_NoText ?kC_NoText ?sC_NoText ?tC_NoText ?aC_NoWeb ?xC_NoWeb ?kC_NoWeb ?sC_NoWeb ?tC_NoWeb ?aC_NothingLeft ?xC_NothingLeft ?kC_NothingLeft ?sC_NothingLeft ?tC_NothingLeft ?aC_TooMany ?xC_TooMany ?kC_TooMany ?sC_TooMany ?tC_TooMany ?aC_WebError ?xC_WebError ?kC_WebError ?sC_WebError ?tC_WebError ?eC_NoCorner_WebError ?eC_TooMany_WebError ?iC_NoCorner_NoCorner ?iC_NoCorner_NoCut ?iC_NoCorner_NoCuts ?iC_NoCorner_NoName ?iC_NoCorner_NoOrder ?iC_NoCorner_NoPart ?iC_NoCorner_NoRow ?iC_NoCorner_NoSum ?iC_NoCorner_NoText ?iC_NoCorner_NoWeb ?iC_NoCorner_NothingLeft ?iC_NoCorner_TooMany ?uC_NoCorner_ValueError ?gC_NoCorner ?hC_NoCorner ?dC_NoCorner ?oC_NoCorner ?mC_NoCorner ?iC_TooMany_NoCorner ?iC_TooMany_NoCut ?iC_TooMany_NoCuts ?iC_TooMany_NoName ?iC_TooMany_NoOrder ?iC_TooMany_NoPart ?iC_TooMany_NoRow ?iC_TooMany_NoSum ?iC_TooMany_NoText ?iC_TooMany_NoWeb ?iC_TooMany_NothingLeft ?iC_TooMany_TooMany ?uC_TooMany_ValueError ?gC_TooMany ?hC_TooMany ?dC_TooMany ?oC_TooMany ?mC_TooMany ?nC ?vC SW.law_all
    (case a0 => k_is)
    (case l0 => k_is)
    (case c0 => k_is)
    (case k0 => k_is)
    (case a1 => k_is)
    (case l1 => k_is)
    (case c1 => k_is)
    (case k1 => k_is)
    (case a2 => k_is)
    (case l2 => k_is)
    (case c2 => k_is)
    (case k2 => k_is)
    (case a3 => k_is)
    (case l3 => k_is)
    (case c3 => k_is)
    (case k3 => k_is)
    (case a4 => k_is)
    (case l4 => k_is)
    (case c4 => k_is)
    (case k4 => k_is)
    (case a5 => k_is)
    (case l5 => k_is)
    (case c5 => k_is)
    (case k5 => k_is)
    (case a6 => k_is)
    (case l6 => k_is)
    (case c6 => k_is)
    (case k6 => k_is)
    (case a7 => k_is)
    (case l7 => k_is)
    (case c7 => k_is)
    (case k7 => k_is)
    (case a8 => k_is)
    (case l8 => k_is)
    (case c8 => k_is)
    (case k8 => k_is)
    (case a9 => k_is)
    (case l9 => k_is)
    (case c9 => k_is)
    (case k9 => k_is)
    (case a10 => k_is)
    (case l10 => k_is)
    (case c10 => k_is)
    (case k10 => k_is)
    (case a11 => k_is)
    (case l11 => k_is)
    (case c11 => k_is)
    (case k11 => k_is)
    (case a12 => k_is)
    (case l12 => k_is)
    (case c12 => k_is)
    (case k12 => k_is)
    (case a13 => k_is)
    (case l13 => k_is)
    (case c13 => k_is)
    (case k13 => k_is)
    (case a14 => k_is)
    (case l14 => k_is)
    (case c14 => k_is)
    (case k14 => k_is)
    (case a15 => k_is)
    (case l15 => k_is)
    (case c15 => k_is)
    (case k15 => k_is)
    (case a16 => k_is)
    (case l16 => k_is)
    (case c16 => k_is)
    (case k16 => k_is)
    (case a17 => k_is)
    (case l17 => k_is)
    (case c17 => k_is)
    (case k17 => k_is)
    (case a18 => k_is)
    (case l18 => k_is)
    (case c18 => k_is)
    (case k18 => k_is)
    (case a19 => k_is)
    (case l19 => k_is)
    (case c19 => k_is)
    (case k19 => k_is)
    (case a20 => k_is)
    (case l20 => k_is)
    (case c20 => k_is)
    (case k20 => k_is)
    (case a21 => k_is)
    (case l21 => k_is)
    (case c21 => k_is)
    (case k21 => k_is)
    (case a22 => k_is)
    (case l22 => k_is)
    (case c22 => k_is)
    (case k22 => k_is)
    (case a23 => k_is)
    (case l23 => k_is)
    (case c23 => k_is)
    (case k23 => k_is)
    (case a24 => k_is)
    (case l24 => k_is)
    (case c24 => k_is)
    (case k24 => k_is)
    (case n_GREATEST => exact ⟨_, by k_is⟩)
    (case z_ValueError => k_is)
    (case z_abs => k_is)
    (case z_int => k_is)
    (case z_isinstance => k_is)
    (case z_len => k_is)
    (case z_list => k_is)
    (case z_max => k_is)
    (case z_min => k_is)
    (case z_range => k_is)
    (case z_tuple => k_is)
    (case aC_NoCorner => k_is)
    (case xC_NoCorner => k_exc)
    (case kC_NoCorner => k_is)
    (case sC_NoCorner => k_is)
    (case tC_NoCorner => k_is)
    (case aC_NoCut => k_is)
    (case xC_NoCut => k_exc)
    (case kC_NoCut => k_is)
    (case sC_NoCut => k_is)
    (case tC_NoCut => k_is)
    (case aC_NoCuts => k_is)
    (case xC_NoCuts => k_exc)
    (case kC_NoCuts => k_is)
    (case sC_NoCuts => k_is)
    (case tC_NoCuts => k_is)
    (case aC_NoName => k_is)
    (case xC_NoName => k_exc)
    (case kC_NoName => k_is)
    (case sC_NoName => k_is)
    (case tC_NoName => k_is)
    (case aC_NoOrder => k_is)
    (case xC_NoOrder => k_exc)
    (case kC_NoOrder => k_is)
    (case sC_NoOrder => k_is)
    (case tC_NoOrder => k_is)
    (case aC_NoPart => k_is)
    (case xC_NoPart => k_exc)
    (case kC_NoPart => k_is)
    (case sC_NoPart => k_is)
    (case tC_NoPart => k_is)
    (case aC_NoRow => k_is)
    (case xC_NoRow => k_exc)
    (case kC_NoRow => k_is)
    (case sC_NoRow => k_is)
    (case tC_NoRow => k_is)
    (case aC_NoSum => k_is)
    (case xC_NoSum => k_exc)
    (case kC_NoSum => k_is)
    (case sC_NoSum => k_is)
    (case tC_NoSum => k_is)
    (case aC_NoText => k_is)
    (case xC_NoText => k_exc)
    (case kC_NoText => k_is)
    (case sC_NoText => k_is)
    (case tC_NoText => k_is)
    (case aC_NoWeb => k_is)
    (case xC_NoWeb => k_exc)
    (case kC_NoWeb => k_is)
    (case sC_NoWeb => k_is)
    (case tC_NoWeb => k_is)
    (case aC_NothingLeft => k_is)
    (case xC_NothingLeft => k_exc)
    (case kC_NothingLeft => k_is)
    (case sC_NothingLeft => k_is)
    (case tC_NothingLeft => k_is)
    (case aC_TooMany => k_is)
    (case xC_TooMany => k_exc)
    (case kC_TooMany => k_is)
    (case sC_TooMany => k_is)
    (case tC_TooMany => k_is)
    (case aC_WebError => k_is)
    (case xC_WebError => k_exc)
    (case kC_WebError => k_is)
    (case sC_WebError => k_is)
    (case tC_WebError => k_is)
    (case eC_NoCorner_WebError => first | rfl | k_is)
    (case eC_TooMany_WebError => first | rfl | k_is)
    (case iC_NoCorner_NoCorner => first | rfl | k_is)
    (case iC_NoCorner_NoCut => first | rfl | k_is)
    (case iC_NoCorner_NoCuts => first | rfl | k_is)
    (case iC_NoCorner_NoName => first | rfl | k_is)
    (case iC_NoCorner_NoOrder => first | rfl | k_is)
    (case iC_NoCorner_NoPart => first | rfl | k_is)
    (case iC_NoCorner_NoRow => first | rfl | k_is)
    (case iC_NoCorner_NoSum => first | rfl | k_is)
    (case iC_NoCorner_NoText => first | rfl | k_is)
    (case iC_NoCorner_NoWeb => first | rfl | k_is)
    (case iC_NoCorner_NothingLeft => first | rfl | k_is)
    (case iC_NoCorner_TooMany => first | rfl | k_is)
    (case uC_NoCorner_ValueError => first | rfl | k_is)
    (case gC_NoCorner => k_is)
    (case hC_NoCorner => k_is)
    (case dC_NoCorner => k_is)
    (case oC_NoCorner => k_is)
    (case mC_NoCorner => k_is)
    (case iC_TooMany_NoCorner => first | rfl | k_is)
    (case iC_TooMany_NoCut => first | rfl | k_is)
    (case iC_TooMany_NoCuts => first | rfl | k_is)
    (case iC_TooMany_NoName => first | rfl | k_is)
    (case iC_TooMany_NoOrder => first | rfl | k_is)
    (case iC_TooMany_NoPart => first | rfl | k_is)
    (case iC_TooMany_NoRow => first | rfl | k_is)
    (case iC_TooMany_NoSum => first | rfl | k_is)
    (case iC_TooMany_NoText => first | rfl | k_is)
    (case iC_TooMany_NoWeb => first | rfl | k_is)
    (case iC_TooMany_NothingLeft => first | rfl | k_is)
    (case iC_TooMany_TooMany => first | rfl | k_is)
    (case uC_TooMany_ValueError => first | rfl | k_is)
    (case gC_TooMany => k_is)
    (case hC_TooMany => k_is)
    (case dC_TooMany => k_is)
    (case oC_TooMany => k_is)
    (case mC_TooMany => k_is)
    (case nC => k_is)
    (case vC => k_is)

