import PyProof.Rows.All
import Wide.All
import OpenK.AllK
import Wide.FinOn
import HandS.ForMost
import HandS.Exc
import HandS.TryOnly
import HandS.ExcOwn
import HandS.WordsExc
import HandS.Zip
import HandS.Iter
import HandS.Rev
import KE.GoesEnum
import KE.KDictKeyed
import KE.KDictDisplayH
import KE.LtData
import HandS.Wide
import HandS.Deep
import HandS.Style
import HandS.Text
import HandS.IsInst
import HandS.Conv
import HandS.SortInts
import HandS.Comp
import HandS.Strs
import HandS.Ends
import HandS.TryElse
import HandS.ExcIs
import HandS.More
import HandS.Dict
import KE.DataMinMax
import KE.DataCmp
import KE.SortData
import HandS.MapObj
import PyProof.Rows.StrMul
import HandS.HotCalls
import HandS.Defaults
import HandS.CallSlots
import PyProof.P3In
import HandS.SetFor
import HandS.Replace
import HandS.SetKeys
import PySem.Challenge.RW_squaresheet_k74_whole_row_sheets_counted
set_option Elab.async false
set_option linter.all false
set_option maxRecDepth 100000
/-! New tuples, known to the object: they have no dict. -/
namespace Sq
open PySem PySem.Spec PyProof.Rows L2
/-- the tuple at p is new, its object known -/
def NewT (H : Hp) (p : Addr) (xs : List V) (H' : Hp) : Prop := ∃ o : Obj, o.dict = none ∧ H' = upd H p (.frz o (.tup xs))
section
variable {X : Cx} {es : List Expr} {t : TA} {pos : Pos}
theorem laidT {pins : List (Addr × Obj)} {σ : L2.St} {H : Hp} {s : Shared} {h' : Heap} {t' : Nat} {p : Addr} {xs : List V} {its : List Value} {ob : Obj} (I : Inv X pins σ H s) (k : ∀ b o, s.heap.get? b = some o → h'.get? b = some o) (hp : s.heap.objs.size ≤ p)
    (e : h'.get? p = some ob) (hc : ob.cls = .type "tuple") (hd : ob.data = .seq its.toArray 0) (rv : Vals xs its) (hz : xs.length ≤ sizeLine) : Inv X pins σ (upd H p (.frz ob (.tup xs))) { s with heap := h', toks := t' } :=
  I.laid (o := .frz ob (.tup xs)) k hp ⟨e, hz, its, rv, ob, e, hc, _, hd⟩
def tTupF (t : TA) : TE := fun σ H Q => t σ H fun xs H1 => xs.length ≤ sizeLine ∧ ∀ p H', H1 p = none → NewT H1 p xs H' → Q (.ref p) H'
theorem pe_tupF {x1} (h : PA X es t) : PE X (.Tuple es x1 pos) (tTupF t) := by
  refine ⟨fun pins s σ H Q I hq => wpAny_Tuple_spliced (thn (h.run pos pins s σ H _ I hq) fun us s1 ⟨xs, H1, I1, r, z, q⟩ => ⟨by rw [← r.length]; exact z, ?_⟩)⟩
  have hf : H1 s1.heap.objs.size = none := I1.hok.fresh (Nat.le_refl _)
  exact ⟨.ref s1.heap.objs.size, _, laidT (t' := s1.toks) I1 (fun b u e => Heap.get?_push_of_some _ e) (Nat.le_refl _) (Heap.get?_push_size _ rfl) rfl rfl r z, rfl, q _ _ hf ⟨_, rfl, rfl⟩⟩
/-- t + u -/
def rCatF (K : PySem.W.Frag) : R2 := fun x y H Q => ∃ a b xs ys, x = .ref a ∧ y = .ref b ∧ SqT K H a xs ∧ SqT K H b ys ∧ xs ≠ [] ∧ xs.length + ys.length ≤ sizeLine ∧ (ys = [] → Q (.ref a) H) ∧ (ys ≠ [] → ∀ p H', H p = none → NewT H p (xs ++ ys) H' → Q (.ref p) H')
theorem op_catF : OpR X (binaryOp .Add) (rCatF X.K) := by
  intro pins s σ H x y v u Q I rx ry h
  obtain ⟨a, b, xs, ys, rfl, rfl, ha, hb, hx, hz, q1, q2⟩ := h
  cases rx
  cases ry
  obtain ⟨its, r1, p1, _⟩ := I.tuple ha
  obtain ⟨its2, r2, p2, _⟩ := I.tuple hb
  refine HT.cat_tup p1 p2 (fun z => hx (r1.nil_iff.mp z)) (fun z => ⟨.ref a, H, I, rfl, q1 (r2.nil_iff.mp z)⟩) (fun z => ?_) (by rw [← r1.length, ← r2.length]; exact hz)
  exact ⟨.ref s.heap.objs.size, _, laidT (t' := s.toks) I (fun b ob q => Heap.get?_push_of_some _ q) (Nat.le_refl _) (Heap.get?_push_size _ rfl) rfl rfl (r1.append r2) (by rw [List.length_append]; exact hz), rfl, q2 (fun w => z (r2.nil_iff.mpr w)) _ _ (I.hok.fresh (Nat.le_refl _)) ⟨_, rfl, rfl⟩⟩
/-- t[lo:hi], not the whole of it -/
def rSlF (K : PySem.W.Frag) : V → Option Int → Option Int → Hp → VK → Prop := fun x lo hi H Q => ∃ a xs, x = .ref a ∧ SqT K H a xs ∧
  ¬ (HT.sIx xs.length 0 lo = 0 ∧ HT.sIx xs.length xs.length hi = xs.length) ∧ ∀ p H', H p = none → NewT H p (cutV xs lo hi) H' → Q (.ref p) H'
theorem sl_tupF : SlR X (rSlF X.K) := by
  intro pins s σ H x v vl vu lo hi sl Q I rx hs pl pu h
  obtain ⟨a, xs, rfl, hx, hw, q⟩ := h
  cases rx
  obtain ⟨its, r, ht, hz⟩ := I.tuple hx
  have hlen : its.toArray.size = xs.length := by rw [List.size_toArray]; exact r.length.symm
  refine ⟨"tuple", _, PyProof.Rows.slot_tuple_getitem.lookup, ht.typeIs, HT.getItem_tuple_cut ht hs pl pu (by rw [hlen]; exact hw) ?_ (by rw [hlen]; exact hz)⟩
  rw [hlen]
  exact ⟨.ref s.heap.objs.size, _, laidT (t' := s.toks) I (fun b ob q => Heap.get?_push_of_some _ q) (Nat.le_refl _) (Heap.get?_push_size _ rfl) rfl rfl ((r.drop (HT.sIx xs.length 0 lo)).take (HT.sIx xs.length xs.length hi - HT.sIx xs.length 0 lo)) (Nat.le_trans (cutV_length xs lo hi) hz), rfl, q _ _ (I.hok.fresh (Nat.le_refl _)) ⟨_, rfl, rfl⟩⟩
/-- tuple(xs), tuple(t) -/
theorem call_tupleF : CallR X (.type "tuple") (fun xs H Q => ∃ p ys, xs = [.ref p] ∧ ((SqL X.K H p ys ∧ ∀ l H', H l = none → NewT H l ys H' → Q (.ref l) H') ∨ (SqT X.K H p ys ∧ Q (.ref p) H))) := by
  intro pins s σ H xs us Q I r h
  obtain ⟨p, ys, rfl, h⟩ := h
  obtain ⟨u, rfl, rx⟩ := vals1 r
  cases rx
  rcases h with ⟨hq, q⟩ | ⟨hq, q⟩
  · obtain ⟨its, r', pl, hz⟩ := I.list hq
    have hlen := r'.length
    refine call_tuple_list pl.isList (fun h' kp => ?_) (by simp only [List.size_toArray] <;> omega)
    have I1 : Inv X pins σ H { s with heap := h' } := I.kept (t' := s.toks) kp
    exact ⟨.ref h'.objs.size, _, laidT (s := { s with heap := h' }) (h' := h'.push { cls := .type "tuple", data := .seq its.toArray }) (t' := s.toks) I1 (fun b o e => Heap.get?_push_of_some _ e) (Nat.le_refl _) (Heap.get?_push_size _ rfl) rfl rfl r' hz, rfl, q _ _ (I1.hok.fresh (Nat.le_refl _)) ⟨_, rfl, rfl⟩⟩
  · obtain ⟨its, r', pl, hz⟩ := I.tuple hq
    exact call_tuple_same pl ⟨.ref p, H, I, rfl, q⟩
end
/-! enumerate(x), zip(x, y): each item in a new pair -/
/-- what is walked: the items of a list or a tuple -/
def Wk (K : PySem.W.Frag) (l : Bool) (H : Hp) (a : Addr) (xs : List V) : Prop := bif l then SqL K H a xs else SqT K H a xs
def IteF (K : PySem.W.Frag) (l : Bool) (a : Addr) : It :=
  ⟨fun i H => ∃ (xs : List V) (x : V), Wk K l H a xs ∧ xs[i]? = some x, fun i H v H' => ∃ T x, v = .ref T ∧ H T = none ∧ NewT H T [.int (i : Nat), x] H' ∧ ∀ xs, Wk K l H a xs → xs[i]? = some x, fun i H => ∃ xs : List V, Wk K l H a xs ∧ xs.length ≤ i⟩
def ItzF (K : PySem.W.Frag) (l : Bool) (a b : Addr) : It :=
  ⟨fun i H => ∃ (xs ys : List V) (x y : V), Wk K l H a xs ∧ Wk K l H b ys ∧ xs[i]? = some x ∧ ys[i]? = some y,
    fun i H v H' => ∃ T x y, v = .ref T ∧ H T = none ∧ NewT H T [x, y] H' ∧ (∀ xs, Wk K l H a xs → xs[i]? = some x) ∧ ∀ ys, Wk K l H b ys → ys[i]? = some y,
    fun i H => ∃ xs ys : List V, Wk K l H a xs ∧ Wk K l H b ys ∧ (xs.length ≤ i ∨ ys.length ≤ i)⟩
section
variable {P : Program} {w : World} {K : PySem.W.Frag} {elts : List Expr} {kk : Nat} {tpos : Pos}
theorem turned2 {X : Cx} {pins : List (Addr × Obj)} {σ : L2.St} {H : Hp} {s : Shared} {h'' : Heap} {t' : Nat} {ch : List Addr} {x y : V} {u u2 : Value} (I : Inv X pins σ H s) (hf : ∀ b ∈ ch, FpOk X pins H b)
    (k : ∀ b o, b ∉ ch → s.heap.get? b = some o → h''.get? b = some o) (e : h''.get? s.heap.objs.size = some { cls := .type "tuple", data := .seq #[u, u2] }) (ru : RelV x u) (ru2 : RelV y u2) :
    Inv X pins σ (upd H s.heap.objs.size (.frz { cls := .type "tuple", data := .seq #[u, u2] } (.tup [x, y]))) { s with heap := h'', toks := t' } :=
  I.turnedNew (ch := ch) k hf (Nat.le_refl _) ⟨e, by show 2 ≤ sizeLine; decide, [u, u2], .cons ru (.cons ru2 .nil), ⟨_, e, rfl, _, rfl⟩⟩
theorem turn_enF (a e it : Addr) : Turn P w K (.Tuple elts kk tpos) (IteF K true a) [e, it] e (fun i h => (∃ old, IsEnum h e it ((i : Nat) : Int) old) ∧ h.IsListIter it a i ∧ e ≠ it) where
  mem := (turn_enum (P := P) (w := w) (K := K) (elts := elts) (kk := kk) (tpos := tpos) a e it).mem
  obj := (turn_enum (P := P) (w := w) (K := K) (elts := elts) (kk := kk) (tpos := tpos) a e it).obj
  keep := (turn_enum (P := P) (w := w) (K := K) (elts := elts) (kk := kk) (tpos := tpos) a e it).keep
  done := (turn_enum (P := P) (w := w) (K := K) (elts := elts) (kk := kk) (tpos := tpos) a e it).done
  self := (turn_enum (P := P) (w := w) (K := K) (elts := elts) (kk := kk) (tpos := tpos) a e it).self
  item := by
    intro X hP hw hK hc i pins s σ H E I hf st hg
    subst hP hw hK
    obtain ⟨⟨old, he⟩, hit, hne⟩ := st
    obtain ⟨xs, x, hq, hx⟩ := hg
    obtain ⟨its, rv, p, hz⟩ := I.list (show SqL X.K H a xs from hq)
    obtain ⟨u, hu, ru⟩ := rv.get hx
    have hel : e < s.heap.objs.size := Heap.lt_size he
    have hil : it < s.heap.objs.size := by obtain ⟨_, q, _⟩ := hit; exact Heap.lt_size q
    refine wpAny_pyNext_enum_item he hit p.isList (x := u) (by simpa using hu) hne fun h' ho hit' hT hsz hk => ⟨_, rfl, wpAny_letOwnedTupleGo_enum (s := { s with heap := h', toks := s.toks + 1 }) ho fun h'' he' sb => ?_⟩
    have hT2 := (sb.2 _ (Nat.ne_of_gt hel)).trans hT
    have I1 := turned2 (t' := s.toks + 1) (x := .int (i : Nat)) I (ch := [e, it]) hf (fun b ob hb q => (sb.2 b (fun z => hb (by simp [z]))).trans (hk b ob (fun z => hb (by simp [z])) (fun z => hb (by simp [z])) q)) hT2 ⟨_, rfl⟩ ru
    refine ⟨.ref s.heap.objs.size, _, I1, rfl, ⟨_, x, rfl, I.hok.fresh (Nat.le_refl _), ⟨_, rfl, rfl⟩, fun ys hy => by rw [I.list_inj (show SqL X.K H a ys from hy) hq]; exact hx⟩, ⟨⟨u, ?_⟩, hit'.at fun o q => (sb.2 it (Ne.symm hne)).trans q, hne⟩, fun b hb => ?_⟩
    · rw [show ((i + 1 : Nat) : Int) = (i : Int) + 1 by omega]
      exact he'
    · have hb' : b < s.heap.objs.size := by
        have e' : b = e ∨ b = it := by simpa using hb
        rcases e' with z | z
        · rw [z]; exact hel
        · rw [z]; exact hil
      rw [upd_ne (Nat.ne_of_lt hb')]
      exact (hf b hb).1
theorem turn_zpF {a b z TI TO i1 i2 : Addr} (D : ZipApart z TI TO i1 i2 a b) :
    Turn P w K (.Tuple elts kk tpos) (ItzF K true a b) [z, TI, TO, i1, i2] z (fun i h => IsZip h z TI TO .none ∧ IsPair h TI (.ref i1) (.ref i2) ∧ (∃ x y, IsPair h TO x y) ∧ h.IsListIter i1 a i ∧ h.IsListIter i2 b i) where
  mem := (turn_zip (P := P) (w := w) (K := K) (elts := elts) (kk := kk) (tpos := tpos) D).mem
  obj := (turn_zip (P := P) (w := w) (K := K) (elts := elts) (kk := kk) (tpos := tpos) D).obj
  keep := (turn_zip (P := P) (w := w) (K := K) (elts := elts) (kk := kk) (tpos := tpos) D).keep
  done := (turn_zip (P := P) (w := w) (K := K) (elts := elts) (kk := kk) (tpos := tpos) D).done
  self := (turn_zip (P := P) (w := w) (K := K) (elts := elts) (kk := kk) (tpos := tpos) D).self
  item := by
    intro X hP hw hK hc i pins s σ H E I hf st hg
    subst hP hw hK
    obtain ⟨hz, hTI, ⟨x0, y0, hTO⟩, h1, h2⟩ := st
    obtain ⟨xs, ys, x, y, hqx, hqy, hx, hy⟩ := hg
    obtain ⟨its, rv, p, _⟩ := I.list (show SqL X.K H a xs from hqx)
    obtain ⟨its2, rv2, p2, _⟩ := I.list (show SqL X.K H b ys from hqy)
    obtain ⟨u, hu, ru⟩ := rv.get hx
    obtain ⟨u2, hu2, ru2⟩ := rv2.get hy
    have hzl : z < s.heap.objs.size := Heap.lt_size hz
    refine wpAny_pyNext_zip_item D hz hTI hTO h1 h2 p.isList p2.isList (x := u) (y := u2) (by simpa using hu) (by simpa using hu2) fun h' z' TO' h1' h2' hT hsz hk => ⟨_, rfl, wpAny_letOwnedTupleGo_zip (s := { s with heap := h' }) z' fun h'' z'' sb => ?_⟩
    have hT2 := (sb.2 _ (Nat.ne_of_gt hzl)).trans hT
    have I1 := turned2 (t' := s.toks) I (ch := [z, TI, TO, i1, i2]) hf (fun c o hb q => (sb.2 c (fun q' => hb (by simp [q']))).trans (hk c o (fun q' => hb (by simp [q'])) (fun q' => hb (by simp [q'])) (fun q' => hb (by simp [q'])) (fun q' => hb (by simp [q'])) q)) hT2 ru ru2
    refine ⟨.ref s.heap.objs.size, _, I1, rfl, ⟨_, x, y, rfl, I.hok.fresh (Nat.le_refl _), ⟨_, rfl, rfl⟩, fun l hl => by rw [I.list_inj (show SqL X.K H a l from hl) hqx]; exact hx, fun l hl => by rw [I.list_inj (show SqL X.K H b l from hl) hqy]; exact hy⟩, ⟨z'', (sb.2 _ D.TIz).trans (hk _ _ D.TIz D.TITO D.TIi1 D.TIi2 hTI), ⟨u, u2, (sb.2 _ D.TOz).trans TO'⟩, h1'.at fun o q => (sb.2 _ D.i1z).trans q, h2'.at fun o q => (sb.2 _ D.i2z).trans q⟩, fun c hcm => ?_⟩
    have hlt : c < s.heap.objs.size := by
      have e' : c = z ∨ c = TI ∨ c = TO ∨ c = i1 ∨ c = i2 := by simpa using hcm
      rcases e' with q | q | q | q | q
      · rw [q]; exact hzl
      · rw [q]; exact Heap.lt_size hTI
      · rw [q]; exact Heap.lt_size hTO
      · rw [q]; obtain ⟨_, e1, _⟩ := h1; exact Heap.lt_size e1
      · rw [q]; obtain ⟨_, e2, _⟩ := h2; exact Heap.lt_size e2
    rw [upd_ne (Nat.ne_of_lt hlt)]
    exact (hf c hcm).1
theorem turn_zpTF {a b z TI TO i1 i2 : Addr} (D : ZipApart z TI TO i1 i2 a b) :
    Turn P w K (.Tuple elts kk tpos) (ItzF K false a b) [z, TI, TO, i1, i2] z (fun i h => IsZip h z TI TO .none ∧ IsPair h TI (.ref i1) (.ref i2) ∧ (∃ x y, IsPair h TO x y) ∧ h.IsTupleIter i1 a i ∧ h.IsTupleIter i2 b i) where
  mem := (RZ.turn_zipT (P := P) (w := w) (K := K) (elts := elts) (kk := kk) (tpos := tpos) D).mem
  obj := (RZ.turn_zipT (P := P) (w := w) (K := K) (elts := elts) (kk := kk) (tpos := tpos) D).obj
  keep := (RZ.turn_zipT (P := P) (w := w) (K := K) (elts := elts) (kk := kk) (tpos := tpos) D).keep
  done := (RZ.turn_zipT (P := P) (w := w) (K := K) (elts := elts) (kk := kk) (tpos := tpos) D).done
  self := (RZ.turn_zipT (P := P) (w := w) (K := K) (elts := elts) (kk := kk) (tpos := tpos) D).self
  item := by
    intro X hP hw hK hc i pins s σ H E I hf st hg
    subst hP hw hK
    obtain ⟨hz, hTI, ⟨x0, y0, hTO⟩, h1, h2⟩ := st
    obtain ⟨xs, ys, x, y, hqx, hqy, hx, hy⟩ := hg
    obtain ⟨its, rv, p, _⟩ := I.tuple (show SqT X.K H a xs from hqx)
    obtain ⟨its2, rv2, p2, _⟩ := I.tuple (show SqT X.K H b ys from hqy)
    obtain ⟨u, hu, ru⟩ := rv.get hx
    obtain ⟨u2, hu2, ru2⟩ := rv2.get hy
    have hzl : z < s.heap.objs.size := Heap.lt_size hz
    refine RZ.pyNext_zipT_item D hz hTI hTO h1 h2 p p2 (x := u) (y := u2) (by simpa using hu) (by simpa using hu2) fun h' z' TO' h1' h2' hT hsz hk => ⟨_, rfl, wpAny_letOwnedTupleGo_zip (s := { s with heap := h' }) z' fun h'' z'' sb => ?_⟩
    have hT2 := (sb.2 _ (Nat.ne_of_gt hzl)).trans hT
    have I1 := turned2 (t' := s.toks) I (ch := [z, TI, TO, i1, i2]) hf (fun c o hb q => (sb.2 c (fun q' => hb (by simp [q']))).trans (hk c o (fun q' => hb (by simp [q'])) (fun q' => hb (by simp [q'])) (fun q' => hb (by simp [q'])) (fun q' => hb (by simp [q'])) q)) hT2 ru ru2
    refine ⟨.ref s.heap.objs.size, _, I1, rfl, ⟨_, x, y, rfl, I.hok.fresh (Nat.le_refl _), ⟨_, rfl, rfl⟩, fun l hl => by rw [I.tuple_inj (show SqT X.K H a l from hl) hqx]; exact hx, fun l hl => by rw [I.tuple_inj (show SqT X.K H b l from hl) hqy]; exact hy⟩, ⟨z'', (sb.2 _ D.TIz).trans (hk _ _ D.TIz D.TITO D.TIi1 D.TIi2 hTI), ⟨u, u2, (sb.2 _ D.TOz).trans TO'⟩, h1'.at fun o q => (sb.2 _ D.i1z).trans q, h2'.at fun o q => (sb.2 _ D.i2z).trans q⟩, fun c hcm => ?_⟩
    have hlt : c < s.heap.objs.size := by
      have e' : c = z ∨ c = TI ∨ c = TO ∨ c = i1 ∨ c = i2 := by simpa using hcm
      rcases e' with q | q | q | q | q
      · rw [q]; exact hzl
      · rw [q]; exact Heap.lt_size hTI
      · rw [q]; exact Heap.lt_size hTO
      · rw [q]; obtain ⟨_, e1, _⟩ := h1; exact Heap.lt_size e1
      · rw [q]; obtain ⟨_, e2, _⟩ := h2; exact Heap.lt_size e2
    rw [upd_ne (Nat.ne_of_lt hlt)]
    exact (hf c hcm).1
end
section
variable {X : Cx} {e e2 : Expr} {ta : TA} {p pos tpos : Pos} {elts : List Expr} {kk : Nat}
def iZipF (K : PySem.W.Frag) (ta : TA) : TI := fun σ H R => ta σ H fun vs H1 => ∃ a b xs ys, vs = [.ref a, .ref b] ∧ ((SqL K H1 a xs ∧ SqL K H1 b ys ∧ R (ItzF K true a b) H1) ∨ (SqT K H1 a xs ∧ SqT K H1 b ys ∧ R (ItzF K false a b) H1))
theorem pi_zipF (hg : Gl X "zip") (hm : X.mg "zip" = none) (ha : PA X [e, e2] ta)
    (hs : starEach [e, e2] X.env = (false, eval e X.env) :: starEach [e2] X.env := by rfl) (hpl : (backTo pos (starEach [e2] X.env)).any (·.1) = false := by rfl) :
    PI X (.Tuple elts kk tpos) (.Call (.Name "zip" p) [e, e2] [] pos) (iZipF X.K ta) := by
  refine ⟨fun pins s σ H R I h => Call_ (ld_blt I hg hm PyProof.Rows.boot_zip (PyProof.Rows.callWith_type1 (thn (ha.run pos pins s σ H _ I h) fun us s1 ⟨vs, H1, I1, r1, q1⟩ => ?_) hs hpl))⟩
  obtain ⟨a, b, xs, ys, rfl, q1⟩ := q1
  cases r1 with
  | cons r rr =>
    cases rr with
    | cons r' rr =>
      cases rr
      cases r
      cases r'
      have fresh5 : ∀ c, c ∈ [s1.heap.objs.size + 4, s1.heap.objs.size + 2, s1.heap.objs.size + 3, s1.heap.objs.size, s1.heap.objs.size + 1] → FpOk X pins H1 c := fun c hcm => by
        have hle : s1.heap.objs.size ≤ c := by
          simp only [List.mem_cons, List.not_mem_nil, or_false] at hcm
          rcases hcm with z | z | z | z | z <;> rw [z] <;> first | exact Nat.le_add_right _ _ | exact Nat.le_refl _
        exact I1.fpOk hle (I1.hok.fresh hle)
      rcases q1 with ⟨hqx, hqy, q⟩ | ⟨hqx, hqy, q⟩
      · obtain ⟨its, rv, p1, _⟩ := I1.list hqx
        obtain ⟨its2, rv2, p2, _⟩ := I1.list hqy
        exact call_zip_2 p1.isList p2.isList fun h' hz hTI hTO h1 h2 hsz hk => wpAny_pyIter_zip hz ⟨s1.heap.objs.size + 4, _, _, _, H1, rfl, I1.kept (t' := s1.toks) hk, turn_zpF (PySem.W.ktu_apart s1.heap.objs.size a b p1.lt p2.lt), ⟨hz, hTI, ⟨_, _, hTO⟩, h1, h2⟩, fresh5, q⟩
      · obtain ⟨its, rv, p1, _⟩ := I1.tuple hqx
        obtain ⟨its2, rv2, p2, _⟩ := I1.tuple hqy
        obtain ⟨o1, ho1, _⟩ := id p1
        obtain ⟨o2, ho2, _⟩ := id p2
        exact RZ.call_zipT (show s1.heap.IsTuple a its.toArray from p1) (show s1.heap.IsTuple b its2.toArray from p2) fun h' hz hTI hTO h1 h2 hsz hk => wpAny_pyIter_zip hz ⟨s1.heap.objs.size + 4, _, _, _, H1, rfl, I1.kept (t' := s1.toks) hk, turn_zpTF (PySem.W.ktu_apart s1.heap.objs.size a b (Heap.lt_size ho1) (Heap.lt_size ho2)), ⟨hz, hTI, ⟨_, _, hTO⟩, h1, h2⟩, fresh5, q⟩
end
end Sq

/-! Pure readings: values as data, own lists as slots; the core. -/
namespace Sq
open PySem PySem.Spec PyProof.Rows L2

abbrev D := PyData

def Ex (H H' : Hp) : Prop := ∀ a o, H a = some o → H' a = some o
theorem Ex.refl (H : Hp) : Ex H H := fun _ _ h => h
theorem Ex.trans {H H1 H2 : Hp} (a : Ex H H1) (b : Ex H1 H2) : Ex H H2 := fun x o h => b x o (a x o h)
theorem Ex.new {H : Hp} {p : Addr} {o : HO} (h : H p = none) : Ex H (upd H p o) := fun a u e => by
  rw [upd_ne (ne_of_none e h)]
  exact e
theorem Ex.mut {H H' : Hp} {p : Addr} {o : HO} (e : Ex H H') (h : H p = none) : Ex H (upd H' p o) := fun a u ha => by
  rw [upd_ne (ne_of_none ha h)]
  exact e a u ha
theorem Ex.both {H H' : Hp} {p : Addr} {o : HO} (e : Ex H H') : Ex (upd H p o) (upd H' p o) := fun a u ha => by
  by_cases h : a = p
  · subst h
    rw [upd_same] at ha ⊢
    exact ha
  · rw [upd_ne h] at ha ⊢
    exact e a u ha
theorem Ex.back {H H' : Hp} {p : Addr} (e : Ex H H') (h : H' p = none) : H p = none := by
  cases h1 : H p with
  | none => rfl
  | some o =>
    rw [e p o h1] at h
    cases h
theorem ex_rd {H H' : Hp} {a : Addr} {u : HO} (e : Ex H H') (h : Rd H a u) : Rd H' a u := by
  rcases h with h | ⟨o, h⟩
  · exact .inl (e a _ h)
  · exact .inr ⟨o, e a _ h⟩
theorem ex_l {K : PySem.W.Frag} {H H' : Hp} {a : Addr} {xs : List V} (e : Ex H H') (h : SqL K H a xs) : SqL K H' a xs := by
  rcases h with h | h
  · exact .inl (ex_rd e h)
  · exact .inr h
theorem ex_t {K : PySem.W.Frag} {H H' : Hp} {a : Addr} {xs : List V} (e : Ex H H') (h : SqT K H a xs) : SqT K H' a xs := by
  rcases h with h | h
  · exact .inl (ex_rd e h)
  · exact .inr h
/-- the class of a name -/
def clsOf (K : PySem.W.Frag) (c : Str) : Addr := match PySem.W.nsIn K mainGlobals c with
  | some (some (.ref a)) => a
  | _ => 0
/-! data: as in the library, but a tuple is known to have no dict; and instances -/
mutual
inductive Dp (K : PySem.W.Frag) (H : Hp) : V → PyData → Prop
  | non : Dp K H .non .none
  | bl (b : Bool) : Dp K H (.bl b) (.bool b)
  | int (i : Int) : Dp K H (.int i) (.int i)
  | str (x : Str) : Dp K H (.str x) (.str x)
  | lst {a : Addr} {xs : List V} {ds : List PyData} : SqL K H a xs → DpAll K H xs ds → Dp K H (.ref a) (.list ds)
  | tup {a : Addr} {o : Obj} {xs : List V} {ds : List PyData} : H a = some (.frz o (.tup xs)) → o.dict = none → DpAll K H xs ds → Dp K H (.ref a) (.tuple ds)
  | obj {a dx : Addr} {c : Str} {vs : List (Str × V)} {fs : List (PyData × PyData)} : H a = some (.ins (clsOf K c) dx vs) → DpFs K H vs fs → Dp K H (.ref a) (.dict ((.str c, .none) :: fs))
inductive DpAll (K : PySem.W.Frag) (H : Hp) : List V → List PyData → Prop
  | nil : DpAll K H [] []
  | cons {v : V} {vs : List V} {d : PyData} {ds : List PyData} : Dp K H v d → DpAll K H vs ds → DpAll K H (v :: vs) (d :: ds)
inductive DpFs (K : PySem.W.Frag) (H : Hp) : List (Str × V) → List (PyData × PyData) → Prop
  | nil : DpFs K H [] []
  | cons {f : Str} {v : V} {vs : List (Str × V)} {d : PyData} {ds : List (PyData × PyData)} : Dp K H v d → DpFs K H vs ds → DpFs K H ((f, v) :: vs) ((.str f, d) :: ds)
end
mutual
theorem ex_dp {K : PySem.W.Frag} {H H' : Hp} (e : Ex H H') : ∀ {v : V} {d : D}, Dp K H v d → Dp K H' v d
  | _, _, .non => .non
  | _, _, .bl b => .bl b
  | _, _, .int i => .int i
  | _, _, .str x => .str x
  | _, _, .lst h ha => .lst (ex_l e h) (ex_dpa e ha)
  | _, _, .tup h hd ha => .tup (e _ _ h) hd (ex_dpa e ha)
  | _, _, .obj h hf => .obj (e _ _ h) (ex_dpf e hf)
theorem ex_dpa {K : PySem.W.Frag} {H H' : Hp} (e : Ex H H') : ∀ {vs : List V} {ds : List D}, DpAll K H vs ds → DpAll K H' vs ds
  | _, _, .nil => .nil
  | _, _, .cons h t => .cons (ex_dp e h) (ex_dpa e t)
theorem ex_dpf {K : PySem.W.Frag} {H H' : Hp} (e : Ex H H') : ∀ {vs : List (Str × V)} {ds : List (PyData × PyData)}, DpFs K H vs ds → DpFs K H' vs ds
  | _, _, .nil => .nil
  | _, _, .cons h t => .cons (ex_dp e h) (ex_dpf e t)
end
/-! no instance within: data as in the library -/
mutual
def noOb : D → Bool
  | .list xs => noObA xs
  | .tuple xs => noObA xs
  | .dict _ => false
  | .none => true
  | .bool _ => true
  | .int _ => true
  | .str _ => true
def noObA : List D → Bool
  | [] => true
  | x :: xs => noOb x && noObA xs
end
mutual
theorem Dp.l2 {K : PySem.W.Frag} {H : Hp} : ∀ {v : V} {d : D}, Dp K H v d → noOb d = true → L2.Dp K H v d
  | _, _, .non, _ => .non
  | _, _, .bl b, _ => .bl b
  | _, _, .int i, _ => .int i
  | _, _, .str x, _ => .str x
  | _, _, .lst h ha, n => .lst h (DpAll.l2 ha (by rw [noOb] at n; exact n))
  | _, _, .tup h _ ha, n => .tup (.inl (.inr ⟨_, h⟩)) (DpAll.l2 ha (by rw [noOb] at n; exact n))
  | _, _, .obj h hf, n => absurd n (by rw [noOb]; decide)
theorem DpAll.l2 {K : PySem.W.Frag} {H : Hp} : ∀ {vs : List V} {ds : List D}, DpAll K H vs ds → noObA ds = true → L2.DpAll K H vs ds
  | _, _, .nil, _ => .nil
  | _, _, .cons h t, n => by
    rw [noObA, Bool.and_eq_true] at n
    exact .cons (Dp.l2 h n.1) (DpAll.l2 t n.2)
end
mutual
theorem noOb_lay : ∀ d : D, d.canLay0 = true → noOb d = true
  | .none, _ => by rw [noOb]
  | .bool _, _ => by rw [noOb]
  | .int _, _ => by rw [noOb]
  | .str _, _ => by rw [noOb]
  | .list xs, h => by rw [noOb]; rw [PyData.canLay0] at h; exact noOb_layA xs h
  | .tuple xs, h => by rw [noOb]; rw [PyData.canLay0] at h; exact noOb_layA xs h
  | .dict _, h => by rw [PyData.canLay0] at h; cases h
theorem noOb_layA : ∀ ds : List D, PyData.canLayAll0 ds = true → noObA ds = true
  | [], _ => by rw [noObA]
  | x :: xs, h => by
    rw [PyData.canLayAll0, Bool.and_eq_true] at h
    rw [noObA, noOb_lay x h.1, noOb_layA xs h.2]
    rfl
end
theorem noOb_shaped {d : D} (h : SeqAt.shaped d = true) : noOb d = true := by
  unfold SeqAt.shaped at h
  rw [Bool.and_eq_true] at h
  exact noOb_lay d h.1
mutual
theorem noOb_alike : ∀ d : D, PySem.W.alike d d = true → noOb d = true
  | .none, _ => by rw [noOb]
  | .bool _, _ => by rw [noOb]
  | .int _, _ => by rw [noOb]
  | .str _, _ => by rw [noOb]
  | .list xs, h => by rw [noOb]; rw [PySem.W.alike] at h; exact noOb_alikeA xs h
  | .tuple xs, h => by rw [noOb]; rw [PySem.W.alike] at h; exact noOb_alikeA xs h
  | .dict _, h => by simp [PySem.W.alike] at h
theorem noOb_alikeA : ∀ ds : List D, PySem.W.alikeAll ds ds = true → noObA ds = true
  | [], _ => by rw [noObA]
  | x :: xs, h => by
    rw [PySem.W.alikeAll, Bool.and_eq_true] at h
    rw [noObA, noOb_alike x h.1, noOb_alikeA xs h.2]
    rfl
end
theorem noObA_all {ds : List D} : noObA ds = ds.all noOb := by
  induction ds with
  | nil => rw [noObA]; rfl
  | cons x xs ih => rw [noObA, ih, List.all_cons]
theorem DpAll.len {K : PySem.W.Frag} {H : Hp} : ∀ {vs : List V} {ds : List PyData}, DpAll K H vs ds → vs.length = ds.length
  | _, _, .nil => rfl
  | _, _, .cons _ t => congrArg (· + 1) (DpAll.len t)
theorem DpAll.get {K : PySem.W.Frag} {H : Hp} : ∀ {vs : List V} {ds : List PyData} {i : Nat} {d : PyData}, DpAll K H vs ds → ds[i]? = some d → ∃ v, vs[i]? = some v ∧ Dp K H v d
  | _, _, _, _, .nil, e => by simp at e
  | _, _, 0, _, .cons h t, e => ⟨_, rfl, by
    have e' : some _ = some _ := e
    cases e'
    exact h⟩
  | _, _, i + 1, d, .cons h t, e => by
    obtain ⟨v, h1, h2⟩ := DpAll.get (i := i) (d := d) t (by simpa using e)
    exact ⟨v, by simpa using h1, h2⟩
theorem DpAll.getV {K : PySem.W.Frag} {H : Hp} : ∀ {vs : List V} {ds : List PyData} {i : Nat} {v : V}, DpAll K H vs ds → vs[i]? = some v → ∃ d, ds[i]? = some d ∧ Dp K H v d
  | _, _, _, _, .nil, e => by simp at e
  | _, _, 0, _, .cons h t, e => ⟨_, rfl, by
    have e' : some _ = some _ := e
    cases e'
    exact h⟩
  | _, _, i + 1, v, .cons h t, e => by
    obtain ⟨d, h1, h2⟩ := DpAll.getV (i := i) (v := v) t (by simpa using e)
    exact ⟨d, by simpa using h1, h2⟩
theorem DpAll.append {K : PySem.W.Frag} {H : Hp} : ∀ {vs ws : List V} {ds es : List PyData}, DpAll K H vs ds → DpAll K H ws es → DpAll K H (vs ++ ws) (ds ++ es)
  | _, _, _, _, .nil, s => s
  | _, _, _, _, .cons r t, s => .cons r (DpAll.append t s)
theorem DpAll.set {K : PySem.W.Frag} {H : Hp} {v : V} {d : PyData} (r : Dp K H v d) : ∀ {vs : List V} {ds : List PyData} (i : Nat), DpAll K H vs ds → DpAll K H (vs.set i v) (ds.set i d)
  | _, _, _, .nil => .nil
  | _, _, 0, .cons _ t => .cons r t
  | _, _, i + 1, .cons q t => .cons q (DpAll.set r i t)
theorem DpAll.take {K : PySem.W.Frag} {H : Hp} : ∀ {vs : List V} {ds : List PyData} (n : Nat), DpAll K H vs ds → DpAll K H (vs.take n) (ds.take n)
  | _, _, 0, _ => .nil
  | _, _, _ + 1, .nil => .nil
  | _, _, n + 1, .cons r t => .cons r (DpAll.take n t)
theorem DpAll.drop {K : PySem.W.Frag} {H : Hp} : ∀ {vs : List V} {ds : List PyData} (n : Nat), DpAll K H vs ds → DpAll K H (vs.drop n) (ds.drop n)
  | _, _, 0, r => r
  | _, _, _ + 1, .nil => .nil
  | _, _, n + 1, .cons _ t => DpAll.drop n t
theorem DpAll.eraseIdx {K : PySem.W.Frag} {H : Hp} : ∀ {vs : List V} {ds : List PyData} (n : Nat), DpAll K H vs ds → DpAll K H (vs.eraseIdx n) (ds.eraseIdx n)
  | _, _, _, .nil => .nil
  | _, _, 0, .cons _ t => t
  | _, _, n + 1, .cons r t => .cons r (DpAll.eraseIdx n t)
theorem DpAll.snoc {K : PySem.W.Frag} {H : Hp} {vs : List V} {ds : List PyData} {v : V} {d : PyData} (a : DpAll K H vs ds) (h : Dp K H v d) : DpAll K H (vs ++ [v]) (ds ++ [d]) := a.append (.cons h .nil)
theorem DpAll.reverse {K : PySem.W.Frag} {H : Hp} : ∀ {vs : List V} {ds : List PyData}, DpAll K H vs ds → DpAll K H vs.reverse ds.reverse
  | _, _, .nil => .nil
  | _, _, .cons r t => by
    rw [List.reverse_cons, List.reverse_cons]
    exact (DpAll.reverse t).snoc r

/-! ### slots, results -/
inductive Sl where
  /-- not known -/
  | u
  /-- data that stays; data that stays while the call runs (it may lie in an argument that the caller changes later) -/
  | v (d : D)
  | b (d : D)
  /-- a list of one's own, a dict of one's own -/
  | o (xs : List D)
  | k (kvs : List (Key × D))
  | t (kvs : List (List Key × D))
  /-- the exception of a suite -/
  | x (a : Addr)
  /-- an instance of one's own -/
  | i (c : Str) (fs : List (Str × D))
  /-- the instance at that address -/
  | j (a : Addr) (c : Str) (fs : List (Str × D))
  /-- a list of one's own, of new lists of flat things; such a one that stays for a while, at that address -/
  | y (xss : List (List D))
  | z (l : Addr) (xss : List (List D))
  /-- a list of flat things that stays for a while, that no data holds -/
  | e (xs : List D)
  /-- a dict of one's own whose keys are nested tuples of ints: the keys -/
  | n (ks : List D)
abbrev Env := List Sl
/-- what an expression gives -/
inductive Rv where
  | v (d : D)
  | b (d : D)
  /-- readable here and now -/
  | r (d : D)
  /-- an own list seen; a new list -/
  | w (xs : List D)
  | o (xs : List D)
  /-- own dicts seen; new ones -/
  | wk (kvs : List (Key × D))
  | ok (kvs : List (Key × D))
  | wt (kvs : List (List Key × D))
  | ot (kvs : List (List Key × D))
  | wn (ks : List D)
  | on (ks : List D)
  /-- two new lists in a new tuple -/
  | p2 (xs ys : List D)
  /-- an own instance seen; a new one -/
  | wi (c : Str) (fs : List (Str × D))
  | oi (c : Str) (fs : List (Str × D))
  /-- a new list of new lists of flat things -/
  | y (xss : List (List D))
  /-- a value, and the own instance at that address as it is then -/
  | sj (d : D) (l : Addr) (c : Str) (fs : List (Str × D))
inductive Er (α : Type) where
  | ok (a : α)
  | exc (c : Str) (p : Option (Str × D))
  | bad
def Er.bind {α β : Type} : Er α → (α → Er β) → Er β
  | .ok a, f => f a
  | .exc c p, _ => .exc c p
  | .bad, _ => .bad
/-- an instance as data -/
def ob (c : Str) (fs : List (Str × D)) : D := .dict ((.str c, .none) :: fs.map fun p => (.str p.1, p.2))
def Rv.dat : Rv → Option D
  | .v d => some d
  | .b d => some d
  | .r d => some d
  | .w xs => some (.list xs)
  | .o xs => some (.list xs)
  | .wi c fs => some (ob c fs)
  | .oi c fs => some (ob c fs)
  | _ => none
abbrev EF := Env → Er Rv

/-- three heaps: what stays, what stays while the call runs, all -/
structure Hs where
  G : Hp
  F : Hp
  H : Hp
structure Ch (h : Hs) : Prop where
  gf : Ex h.G h.F
  fh : Ex h.F h.H
theorem Ch.gh {h : Hs} (c : Ch h) : Ex h.G h.H := c.gf.trans c.fh

def KvD (K : PySem.W.Frag) (G : Hp) {κ : Type} : List (κ × V) → List (κ × D) → Prop := Paired fun p q => p.1 = q.1 ∧ Dp K G p.2 q.2
theorem kv_dpfs {K : PySem.W.Frag} {G : Hp} : ∀ {vs : List (Str × V)} {fs : List (Str × D)}, KvD K G vs fs → DpFs K G vs (fs.map fun p => (.str p.1, p.2))
  | _, _, .nil => .nil
  | (f, v) :: vs, (g, d) :: fs, .cons ⟨e, h⟩ t => by
    cases (show f = g from e)
    exact .cons h (kv_dpfs t)
theorem dpfs_kv {K : PySem.W.Frag} {G : Hp} : ∀ {vs : List (Str × V)} {ds : List (PyData × PyData)}, DpFs K G vs ds → ∃ fs : List (Str × D), ds = fs.map (fun p => (.str p.1, p.2)) ∧ KvD K G vs fs
  | _, _, .nil => ⟨[], rfl, .nil⟩
  | _, _, .cons (f := f) (d := d) h t => by
    obtain ⟨fs, e, k⟩ := dpfs_kv t
    exact ⟨(f, d) :: fs, by rw [e]; rfl, .cons ⟨rfl, h⟩ k⟩
theorem KvD.ex {K : PySem.W.Frag} {G G' : Hp} {κ : Type} {l : List (κ × V)} {m : List (κ × D)} (e : Ex G G') (h : KvD K G l m) : KvD K G' l m := Paired.mapP h fun _ _ q => ⟨q.1, ex_dp e q.2⟩

/-- lists of flat things that no data holds -/
def Ys (K : PySem.W.Frag) (F G : Hp) : List Addr → List (List D) → Prop := Paired fun m xs => ∃ vs, F m = some (.lst vs) ∧ G m = none ∧ ∀ G0, DpAll K G0 vs xs
theorem gNone {F G G' : Hp} {m : Addr} {u : HO} (gn : ∀ a o, G' a = some o → G a = none → F a = none) (a : F m = some u) (b : G m = none) : G' m = none := by
  cases q : G' m with
  | none => rfl
  | some o =>
    rw [gn m o q b] at a
    cases a
theorem Ys.ex {K : PySem.W.Frag} {F G F' G' : Hp} {ms : List Addr} {xss : List (List D)} (f : Ex F F') (gn : ∀ a o, G' a = some o → G a = none → F a = none) (h : Ys K F G ms xss) : Ys K F' G' ms xss := Paired.mapP h fun m xs ⟨vs, a, b, c⟩ => ⟨vs, f _ _ a, gNone gn a b, c⟩
def refsOf (ms : List Addr) : List V := ms.map V.ref

/-! dicts whose keys are nested tuples of ints -/
mutual
def nk : D → Option NestedKey
  | .int i => some (.num i)
  | .tuple ds => (nkA ds).map .tup
  | _ => none
def nkA : List D → Option (List NestedKey)
  | [] => some []
  | d :: ds => match nk d, nkA ds with
    | some k, some ks => some (k :: ks)
    | _, _ => none
end
/-- the entry of the key d, whose tuple is at a -/
def NkAt (K : PySem.W.Frag) (G : Hp) (e : DictEntry) (d : D) : Prop := ∃ a k v, nk d = some k ∧ k.depth ≤ 8 ∧ (∀ w, e = ⟨k.hash w, .ref a, v⟩) ∧ Dp K G (.ref a) d
def NkOk (K : PySem.W.Frag) (G : Hp) (es : List DictEntry) (ks : List D) : Prop := Paired (NkAt K G) es ks ∧ ks.Nodup ∧ es.length ≤ 100000
theorem NkOk.ex {K : PySem.W.Frag} {G G' : Hp} {es : List DictEntry} {ks : List D} (e : Ex G G') (h : NkOk K G es ks) : NkOk K G' es ks := ⟨Paired.mapP h.1 fun _ _ ⟨a, k, v, h1, h2, h3, h4⟩ => ⟨a, k, v, h1, h2, h3, ex_dp e h4⟩, h.2⟩
def nDat (l : Addr) (es : List DictEntry) : Heap → Prop := fun h => (l == sysModules) = false ∧ ∃ o ep, h.get? l = some o ∧ o.ExactDict ∧ o.data = .dict es.toArray ep
def nHO (l : Addr) (es : List DictEntry) : HO := .ext (nDat l es)

/-- what stands in a slot -/
def SlOk (K : PySem.W.Frag) (h : Hs) (x : Option V) : Sl → Prop
  | .u => True
  | .x a => x = some (.ref a)
  | .v d => ∃ v, x = some v ∧ Dp K h.G v d
  | .b d => ∃ v, x = some v ∧ Dp K h.F v d
  | .o xs => ∃ l vs, x = some (.ref l) ∧ h.H l = some (.lst vs) ∧ h.F l = none ∧ DpAll K h.G vs xs
  | .k kvs => ∃ l vs, x = some (.ref l) ∧ h.H l = some (.dK vs) ∧ h.F l = none ∧ KvD K h.G vs kvs
  | .t kvs => ∃ l vs, x = some (.ref l) ∧ h.H l = some (.dT vs) ∧ h.F l = none ∧ KvD K h.G vs kvs
  | .n kvs => ∃ l vs, x = some (.ref l) ∧ h.H l = some (nHO l vs) ∧ h.F l = none ∧ NkOk K h.G vs kvs
  | .i c fs => ∃ l vs dx, x = some (.ref l) ∧ h.H l = some (.ins (clsOf K c) dx vs) ∧ h.F l = none ∧ KvD K h.G vs fs
  | .j l c fs => ∃ vs dx, x = some (.ref l) ∧ h.H l = some (.ins (clsOf K c) dx vs) ∧ h.F l = none ∧ KvD K h.G vs fs
  | .y xss => ∃ l ms, x = some (.ref l) ∧ h.H l = some (.lst (refsOf ms)) ∧ h.F l = none ∧ Ys K h.F h.G ms xss
  | .z l xss => ∃ ms, x = some (.ref l) ∧ h.F l = some (.lst (refsOf ms)) ∧ h.G l = none ∧ Ys K h.F h.G ms xss
  | .e xs => ∃ m vs, x = some (.ref m) ∧ h.F m = some (.lst vs) ∧ h.G m = none ∧ ∀ G0, DpAll K G0 vs xs
def Sl.own : Sl → Bool
  | .o _ => true
  | .k _ => true
  | .t _ => true
  | .n _ => true
  | .i _ _ => true
  | .j _ _ _ => true
  | .y _ => true
  | _ => false
structure Rel (K : PySem.W.Frag) (h : Hs) (ρ : Env) (σ : L2.St) : Prop where
  ch : Ch h
  len : ρ.length = σ.length
  at_ : ∀ (i : Nat) (s : Sl) (x : Option V), ρ[i]? = some s → σ[i]? = some x → SlOk K h x s
  dis : ∀ (i j : Nat) (s t : Sl) (l m : Addr), i ≠ j → ρ[i]? = some s → ρ[j]? = some t → s.own = true → t.own = true → σ[i]? = some (some (.ref l)) → σ[j]? = some (some (.ref m)) → l ≠ m
/-- how the heaps grow: through an expression; through a statement -/
structure Gr (h h' : Hs) : Prop where
  g : Ex h.G h'.G
  f : Ex h.F h'.F
  x : Ex h.H h'.H
  gn : ∀ a o, h'.G a = some o → h.G a = none → h.F a = none
  fn : ∀ a o, h'.F a = some o → h.F a = none → h.H a = none
structure SG (h h' : Hs) : Prop where
  g : Ex h.G h'.G
  f : Ex h.F h'.F
  gn : ∀ a o, h'.G a = some o → h.G a = none → h.F a = none
theorem Gr.sg {h h' : Hs} (g : Gr h h') : SG h h' := ⟨g.g, g.f, g.gn⟩
theorem Gr.refl (h : Hs) : Gr h h := ⟨Ex.refl _, Ex.refl _, Ex.refl _, fun a o e n => by (rw [n] at e; cases e), fun a o e n => by (rw [n] at e; cases e)⟩
theorem SG.refl (h : Hs) : SG h h := (Gr.refl h).sg
theorem SG.trans {h h1 h2 : Hs} (a : SG h h1) (b : SG h1 h2) : SG h h2 := ⟨a.g.trans b.g, a.f.trans b.f, fun x o e n => by
  cases q : h1.G x with
  | none => exact a.f.back (b.gn x o e q)
  | some u => exact a.gn x u q n⟩
theorem Gr.trans {h h1 h2 : Hs} (a : Gr h h1) (b : Gr h1 h2) : Gr h h2 := ⟨a.g.trans b.g, a.f.trans b.f, a.x.trans b.x, (a.sg.trans b.sg).gn, fun x o e n => by
  cases q : h1.F x with
  | none => exact a.x.back (b.fn x o e q)
  | some u => exact a.fn x u q n⟩
theorem Gr.keepN {h h' : Hs} (g : Gr h h') {l : Addr} {o : HO} (a : h.F l = none) (b : h.H l = some o) : h'.F l = none := by
  cases q : h'.F l with
  | none => rfl
  | some u =>
    rw [g.fn l u q a] at b
    cases b
theorem SlOk.grow {K : PySem.W.Frag} {h h' : Hs} {x : Option V} (g : Gr h h') : ∀ {s : Sl}, SlOk K h x s → SlOk K h' x s
  | .u, _ => trivial
  | .x a, q => q
  | .v d, ⟨v, e, q⟩ => ⟨v, e, ex_dp g.g q⟩
  | .b d, ⟨v, e, q⟩ => ⟨v, e, ex_dp g.f q⟩
  | .o xs, ⟨l, vs, e, a, b, q⟩ => ⟨l, vs, e, g.x _ _ a, g.keepN b a, ex_dpa g.g q⟩
  | .k xs, ⟨l, vs, e, a, b, q⟩ => ⟨l, vs, e, g.x _ _ a, g.keepN b a, q.ex g.g⟩
  | .t xs, ⟨l, vs, e, a, b, q⟩ => ⟨l, vs, e, g.x _ _ a, g.keepN b a, q.ex g.g⟩
  | .n xs, ⟨l, vs, e, a, b, q⟩ => ⟨l, vs, e, g.x _ _ a, g.keepN b a, q.ex g.g⟩
  | .i c xs, ⟨l, vs, dx, e, a, b, q⟩ => ⟨l, vs, dx, e, g.x _ _ a, g.keepN b a, q.ex g.g⟩
  | .j l c xs, ⟨vs, dx, e, a, b, q⟩ => ⟨vs, dx, e, g.x _ _ a, g.keepN b a, q.ex g.g⟩
  | .y xss, ⟨l, ms, e, a, b, q⟩ => ⟨l, ms, e, g.x _ _ a, g.keepN b a, q.ex g.f g.gn⟩
  | .z l xss, ⟨ms, e, a, b, q⟩ => ⟨ms, e, g.f _ _ a, gNone g.gn a b, q.ex g.f g.gn⟩
  | .e xs, ⟨m, vs, e, a, b, q⟩ => ⟨m, vs, e, g.f _ _ a, gNone g.gn a b, q⟩
theorem Rel.grow {K : PySem.W.Frag} {h h' : Hs} {ρ : Env} {σ : L2.St} (r : Rel K h ρ σ) (g : Gr h h') (c : Ch h') : Rel K h' ρ σ :=
  ⟨c, r.len, fun i s x a b => (r.at_ i s x a b).grow g, r.dis⟩
/-- the own object of a slot is known to all -/
theorem Rel.ownH {K : PySem.W.Frag} {h : Hs} {ρ : Env} {σ : L2.St} (r : Rel K h ρ σ) {i : Nat} {s : Sl} {l : Addr} (a : ρ[i]? = some s) (b : s.own = true) (c : σ[i]? = some (some (.ref l))) : (∃ o, h.H l = some o) ∧ h.F l = none := by
  have q := r.at_ i s _ a c
  cases s with
  | o xs =>
    obtain ⟨m, vs, e, x, y, _⟩ := q
    cases e
    exact ⟨⟨_, x⟩, y⟩
  | k xs =>
    obtain ⟨m, vs, e, x, y, _⟩ := q
    cases e
    exact ⟨⟨_, x⟩, y⟩
  | t xs =>
    obtain ⟨m, vs, e, x, y, _⟩ := q
    cases e
    exact ⟨⟨_, x⟩, y⟩
  | n xs =>
    obtain ⟨m, vs, e, x, y, _⟩ := q
    cases e
    exact ⟨⟨_, x⟩, y⟩
  | i c xs =>
    obtain ⟨m, vs, dx, e, x, y, _⟩ := q
    cases e
    exact ⟨⟨_, x⟩, y⟩
  | j m c xs =>
    obtain ⟨vs, dx, e, x, y, _⟩ := q
    cases e
    exact ⟨⟨_, x⟩, y⟩
  | y xss =>
    obtain ⟨m, ms, e, x, y, _⟩ := q
    cases e
    exact ⟨⟨_, x⟩, y⟩
  | z l xss => cases b
  | e xs => cases b
  | u => cases b
  | x a => cases b
  | v d => cases b
  | b d => cases b
theorem Rel.ownRef {K : PySem.W.Frag} {h : Hs} {ρ : Env} {σ : L2.St} (r : Rel K h ρ σ) {i : Nat} {s : Sl} (a : ρ[i]? = some s) (b : s.own = true) : ∃ l, σ[i]? = some (some (.ref l)) := by
  have hi : i < σ.length := by
    rw [← r.len]
    exact (List.getElem?_eq_some_iff.mp a).1
  have e : σ[i]? = some σ[i] := List.getElem?_eq_getElem hi
  have q := r.at_ i s _ a e
  cases s with
  | o xs =>
    obtain ⟨m, vs, e2, _⟩ := q
    exact ⟨m, by rw [e, e2]⟩
  | k xs =>
    obtain ⟨m, vs, e2, _⟩ := q
    exact ⟨m, by rw [e, e2]⟩
  | t xs =>
    obtain ⟨m, vs, e2, _⟩ := q
    exact ⟨m, by rw [e, e2]⟩
  | n xs =>
    obtain ⟨m, vs, e2, _⟩ := q
    exact ⟨m, by rw [e, e2]⟩
  | i c xs =>
    obtain ⟨m, vs, dx, e2, _⟩ := q
    exact ⟨m, by rw [e, e2]⟩
  | j m c xs =>
    obtain ⟨vs, dx, e2, _⟩ := q
    exact ⟨m, by rw [e, e2]⟩
  | y xss =>
    obtain ⟨m, ms, e2, _⟩ := q
    exact ⟨m, by rw [e, e2]⟩
  | z l xss => cases b
  | e xs => cases b
  | u => cases b
  | x a => cases b
  | v d => cases b
  | b d => cases b

/-- a result lies there; h0: the heap ahead of it -/
def RvOk (K : PySem.W.Frag) (H0 : Hp) (h : Hs) (v : V) : Rv → Prop
  | .v d => Dp K h.G v d
  | .b d => Dp K h.F v d
  | .r d => Dp K h.H v d
  | .w xs => ∃ l vs, v = .ref l ∧ h.H l = some (.lst vs) ∧ DpAll K h.G vs xs
  | .o xs => ∃ l vs, v = .ref l ∧ H0 l = none ∧ h.H l = some (.lst vs) ∧ h.F l = none ∧ DpAll K h.G vs xs
  | .wk xs => ∃ l vs, v = .ref l ∧ h.H l = some (.dK vs) ∧ KvD K h.G vs xs
  | .ok xs => ∃ l vs, v = .ref l ∧ H0 l = none ∧ h.H l = some (.dK vs) ∧ h.F l = none ∧ KvD K h.G vs xs
  | .wt xs => ∃ l vs, v = .ref l ∧ h.H l = some (.dT vs) ∧ KvD K h.G vs xs
  | .wn xs => ∃ l vs, v = .ref l ∧ h.H l = some (nHO l vs) ∧ NkOk K h.G vs xs
  | .ot xs => ∃ l vs, v = .ref l ∧ H0 l = none ∧ h.H l = some (.dT vs) ∧ h.F l = none ∧ KvD K h.G vs xs
  | .on xs => ∃ l vs, v = .ref l ∧ H0 l = none ∧ h.H l = some (nHO l vs) ∧ h.F l = none ∧ NkOk K h.G vs xs
  | .wi c fs => ∃ l vs dx, v = .ref l ∧ h.H l = some (.ins (clsOf K c) dx vs) ∧ KvD K h.G vs fs
  | .oi c fs => ∃ l vs dx, v = .ref l ∧ H0 l = none ∧ h.H l = some (.ins (clsOf K c) dx vs) ∧ h.F l = none ∧ KvD K h.G vs fs
  | .p2 xs ys => ∃ t l m vs ws, v = .ref t ∧ h.H t = some (.tup [.ref l, .ref m]) ∧ l ≠ m ∧ (H0 l = none ∧ h.H l = some (.lst vs) ∧ h.F l = none ∧ DpAll K h.G vs xs) ∧ (H0 m = none ∧ h.H m = some (.lst ws) ∧ h.F m = none ∧ DpAll K h.G ws ys)
  | .y _ => False
  | .sj _ _ _ _ => False
theorem RvOk.grow {K : PySem.W.Frag} {H0 : Hp} {h h' : Hs} {v : V} (g : Gr h h') : ∀ {r : Rv}, RvOk K H0 h v r → RvOk K H0 h' v r
  | .v d, q => ex_dp g.g q
  | .b d, q => ex_dp g.f q
  | .r d, q => ex_dp g.x q
  | .w xs, ⟨l, vs, e, a, q⟩ => ⟨l, vs, e, g.x _ _ a, ex_dpa g.g q⟩
  | .o xs, ⟨l, vs, e, n, a, b, q⟩ => ⟨l, vs, e, n, g.x _ _ a, g.keepN b a, ex_dpa g.g q⟩
  | .wk xs, ⟨l, vs, e, a, q⟩ => ⟨l, vs, e, g.x _ _ a, q.ex g.g⟩
  | .ok xs, ⟨l, vs, e, n, a, b, q⟩ => ⟨l, vs, e, n, g.x _ _ a, g.keepN b a, q.ex g.g⟩
  | .wt xs, ⟨l, vs, e, a, q⟩ => ⟨l, vs, e, g.x _ _ a, q.ex g.g⟩
  | .wn xs, ⟨l, vs, e, a, q⟩ => ⟨l, vs, e, g.x _ _ a, q.ex g.g⟩
  | .ot xs, ⟨l, vs, e, n, a, b, q⟩ => ⟨l, vs, e, n, g.x _ _ a, g.keepN b a, q.ex g.g⟩
  | .on xs, ⟨l, vs, e, n, a, b, q⟩ => ⟨l, vs, e, n, g.x _ _ a, g.keepN b a, q.ex g.g⟩
  | .wi c xs, ⟨l, vs, dx, e, a, q⟩ => ⟨l, vs, dx, e, g.x _ _ a, q.ex g.g⟩
  | .oi c xs, ⟨l, vs, dx, e, n, a, b, q⟩ => ⟨l, vs, dx, e, n, g.x _ _ a, g.keepN b a, q.ex g.g⟩
  | .p2 xs ys, ⟨t, l, m, vs, ws, e, ht, ne, ⟨n, a, b, q⟩, ⟨n2, a2, b2, q2⟩⟩ => ⟨t, l, m, vs, ws, e, g.x _ _ ht, ne, ⟨n, g.x _ _ a, g.keepN b a, ex_dpa g.g q⟩, ⟨n2, g.x _ _ a2, g.keepN b2 a2, ex_dpa g.g q2⟩⟩
  | .y _, q => q
  | .sj _ _ _ _, q => q
theorem RvOk.old {K : PySem.W.Frag} {H0 H1 : Hp} {h : Hs} {v : V} (g : Ex H0 H1) : ∀ {r : Rv}, RvOk K H1 h v r → RvOk K H0 h v r
  | .v d, q => q
  | .b d, q => q
  | .r d, q => q
  | .w xs, q => q
  | .o xs, ⟨l, vs, e, n, q⟩ => ⟨l, vs, e, g.back n, q⟩
  | .wk xs, q => q
  | .ok xs, ⟨l, vs, e, n, q⟩ => ⟨l, vs, e, g.back n, q⟩
  | .wt xs, q => q
  | .wn xs, q => q
  | .ot xs, ⟨l, vs, e, n, q⟩ => ⟨l, vs, e, g.back n, q⟩
  | .on xs, ⟨l, vs, e, n, q⟩ => ⟨l, vs, e, g.back n, q⟩
  | .wi c xs, q => q
  | .oi c xs, ⟨l, vs, dx, e, n, q⟩ => ⟨l, vs, dx, e, g.back n, q⟩
  | .p2 xs ys, ⟨t, l, m, vs, ws, e, ht, ne, ⟨n, q⟩, ⟨n2, q2⟩⟩ => ⟨t, l, m, vs, ws, e, ht, ne, ⟨g.back n, q⟩, ⟨g.back n2, q2⟩⟩
  | .y _, q => q
  | .sj _ _ _ _, q => q
/-- read as data -/
theorem RvOk.dp {K : PySem.W.Frag} {H0 : Hp} {h : Hs} {v : V} (c : Ch h) : ∀ {r : Rv} {d : D}, RvOk K H0 h v r → r.dat = some d → Dp K h.H v d
  | .v _, _, q, e => by cases e; exact ex_dp c.gh q
  | .b _, _, q, e => by cases e; exact ex_dp c.fh q
  | .r _, _, q, e => by cases e; exact q
  | .w _, _, ⟨l, vs, e1, a, q⟩, e => by cases e; subst e1; exact .lst (.of a) (ex_dpa c.gh q)
  | .o _, _, ⟨l, vs, e1, n, a, b, q⟩, e => by cases e; subst e1; exact .lst (.of a) (ex_dpa c.gh q)
  | .wi _ _, _, ⟨l, vs, dx, e1, a, q⟩, e => by cases e; subst e1; exact .obj a (kv_dpfs (q.ex c.gh))
  | .oi _ _, _, ⟨l, vs, dx, e1, n, a, b, q⟩, e => by cases e; subst e1; exact .obj a (kv_dpfs (q.ex c.gh))

/-! ### readings -/
/-- what is wanted of an exception: its class by name, its one field -/
abbrev WF := Str → Option (Str × D) → L2.St → Hs → Prop
section
variable (K : PySem.W.Frag) (W : WF)
def tX (f : EF) : TE := fun σ H Q => ∃ h ρ, h.H = H ∧ Rel K h ρ σ ∧
  match f ρ with
  | .ok r => ∀ v h', Rel K h' ρ σ → Gr h h' → RvOk K h.H h' v r → Q v h'.H
  | .exc c p => ∀ h', Rel K h' ρ σ → Gr h h' → W c p σ h'
  | .bad => False
/-- a test -/
def tXt (f : Env → Er Bool) : TT := fun σ H Q => ∃ h ρ, h.H = H ∧ Rel K h ρ σ ∧
  match f ρ with
  | .ok b => ∀ h', Rel K h' ρ σ → Gr h h' → Q b h'.H
  | .exc c p => ∀ h', Rel K h' ρ σ → Gr h h' → W c p σ h'
  | .bad => False
end
/-- a result as it is put into something else: new lists are frozen -/
def Rv.frz : Rv → Er Rv
  | .v d => .ok (.v d)
  | .b d => .ok (.b d)
  | .r d => .ok (.r d)
  | .w xs => .ok (.r (.list xs))
  | .o xs => .ok (.v (.list xs))
  | .wi c fs => .ok (.r (ob c fs))
  | .oi c fs => .ok (.v (ob c fs))
  | _ => .bad
end Sq

/-! Expressions. -/
namespace Sq
open PySem PySem.Spec PyProof.Rows L2

theorem peTo {X : Cx} {e : Expr} {t t' : TE} (h : PE X e t) (i : ∀ σ H Q, t' σ H Q → t σ H Q) : PE X e t' := ⟨fun pins s σ H Q I hw => h.run pins s σ H Q I (i σ H Q hw)⟩
theorem ptTo {X : Cx} {e : Expr} {t t' : TT} (h : PT X e t) (i : ∀ σ H Q, t' σ H Q → t σ H Q) : PT X e t' := ⟨fun pins s σ H Q I hw => h.run pins s σ H Q I (i σ H Q hw)⟩
theorem pwTo {X : Cx} {e : Expr} {t t' : TT} (h : PW X e t) (i : ∀ σ H Q, t' σ H Q → t σ H Q) : PW X e t' := ⟨fun wh pins s σ H Q I hw => h.run wh pins s σ H Q I (i σ H Q hw)⟩
theorem paTo {X : Cx} {e : List Expr} {t t' : TA} (h : PA X e t) (i : ∀ σ H Q, t' σ H Q → t σ H Q) : PA X e t' := ⟨fun pos pins s σ H Q I hw => h.run pos pins s σ H Q I (i σ H Q hw)⟩
theorem psTo {X : Cx} {e : Stmt} {t t' : TS} (h : PS X e t) (i : ∀ D σ H, t' D σ H → t D σ H) : PS X e t' := ⟨fun pins s σ H D I hw => h.run pins s σ H D I (i D σ H hw)⟩
theorem pssTo {X : Cx} {e : List Stmt} {t t' : TS} (h : PSs X e t) (i : ∀ D σ H, t' D σ H → t D σ H) : PSs X e t' := ⟨fun pins s σ H D I hw => h.run pins s σ H D I (i D σ H hw)⟩
theorem peOr {X : Cx} {e : Expr} {t t' : TE} (h : PE X e t) (h' : PE X e t') : PE X e (fun σ H Q => t σ H Q ∨ t' σ H Q) := ⟨fun pins s σ H Q I hw => hw.elim (h.run pins s σ H Q I) (h'.run pins s σ H Q I)⟩
theorem ptOr {X : Cx} {e : Expr} {t t' : TT} (h : PT X e t) (h' : PT X e t') : PT X e (fun σ H Q => t σ H Q ∨ t' σ H Q) := ⟨fun pins s σ H Q I hw => hw.elim (h.run pins s σ H Q I) (h'.run pins s σ H Q I)⟩

section
variable {K : PySem.W.Frag} {W : WF}
/-- what is wanted of a result at h -/
def PE1 (K : PySem.W.Frag) (W : WF) (h : Hs) (ρ : Env) (σ : L2.St) (Q : VK) : Er Rv → Prop
  | .ok r => ∀ v h', Rel K h' ρ σ → Gr h h' → RvOk K h.H h' v r → Q v h'.H
  | .exc c p => ∀ h', Rel K h' ρ σ → Gr h h' → W c p σ h'
  | .bad => False
def PT1 (K : PySem.W.Frag) (W : WF) (h : Hs) (ρ : Env) (σ : L2.St) (Q : Bool → Hp → Prop) : Er Bool → Prop
  | .ok b => ∀ h', Rel K h' ρ σ → Gr h h' → Q b h'.H
  | .exc c p => ∀ h', Rel K h' ρ σ → Gr h h' → W c p σ h'
  | .bad => False
theorem tX_iff {f : EF} {σ : L2.St} {H : Hp} {Q : VK} : tX K W f σ H Q ↔ ∃ h ρ, h.H = H ∧ Rel K h ρ σ ∧ PE1 K W h ρ σ Q (f ρ) := by
  constructor
  · rintro ⟨h, ρ, e, r, q⟩
    refine ⟨h, ρ, e, r, ?_⟩
    unfold PE1
    split at q <;> simp_all
  · rintro ⟨h, ρ, e, r, q⟩
    refine ⟨h, ρ, e, r, ?_⟩
    unfold PE1 at q
    split <;> simp_all
theorem tXt_iff {f : Env → Er Bool} {σ : L2.St} {H : Hp} {Q : Bool → Hp → Prop} : tXt K W f σ H Q ↔ ∃ h ρ, h.H = H ∧ Rel K h ρ σ ∧ PT1 K W h ρ σ Q (f ρ) := by
  constructor
  · rintro ⟨h, ρ, e, r, q⟩
    refine ⟨h, ρ, e, r, ?_⟩
    unfold PT1
    split at q <;> simp_all
  · rintro ⟨h, ρ, e, r, q⟩
    refine ⟨h, ρ, e, r, ?_⟩
    unfold PT1 at q
    split <;> simp_all
theorem tX_mk {f : EF} {σ : L2.St} {h : Hs} {ρ : Env} {Q : VK} (r : Rel K h ρ σ) (q : PE1 K W h ρ σ Q (f ρ)) : tX K W f σ h.H Q := tX_iff.mpr ⟨h, ρ, rfl, r, q⟩
theorem tXt_mk {f : Env → Er Bool} {σ : L2.St} {h : Hs} {ρ : Env} {Q : Bool → Hp → Prop} (r : Rel K h ρ σ) (q : PT1 K W h ρ σ Q (f ρ)) : tXt K W f σ h.H Q := tXt_iff.mpr ⟨h, ρ, rfl, r, q⟩
variable {h h' h1 : Hs} {ρ : Env} {σ : L2.St} {Q : VK} {QB : Bool → Hp → Prop}
theorem PE1.shift (g : Gr h h1) : ∀ {e : Er Rv}, PE1 K W h ρ σ Q e → PE1 K W h1 ρ σ Q e
  | .ok r, q => fun v h' R g' ok => q v h' R (g.trans g') (ok.old g.x)
  | .exc c p, q => fun h' R g' => q h' R (g.trans g')
  | .bad, q => q
theorem PT1.shift (g : Gr h h1) : ∀ {e : Er Bool}, PT1 K W h ρ σ QB e → PT1 K W h1 ρ σ QB e
  | .ok r, q => fun h' R g' => q h' R (g.trans g')
  | .exc c p, q => fun h' R g' => q h' R (g.trans g')
  | .bad, q => q
/-- first e, then what follows -/
theorem PE1.bind {e : Er Rv} {k : Rv → Er Rv} (q : PE1 K W h ρ σ Q (e.bind k)) {Q' : VK}
    (hk : ∀ a v h', e = .ok a → Rel K h' ρ σ → Gr h h' → RvOk K h.H h' v a → PE1 K W h' ρ σ Q (k a) → Q' v h'.H) : PE1 K W h ρ σ Q' e := by
  cases e with
  | ok a => exact fun v h' R g ok => hk a v h' rfl R g ok (PE1.shift g q)
  | exc c p => exact q
  | bad => exact q
theorem PE1.bindT {e : Er Rv} {k : Rv → Er Bool} (q : PT1 K W h ρ σ QB (e.bind k)) {Q' : VK}
    (hk : ∀ a v h', e = .ok a → Rel K h' ρ σ → Gr h h' → RvOk K h.H h' v a → PT1 K W h' ρ σ QB (k a) → Q' v h'.H) : PE1 K W h ρ σ Q' e := by
  cases e with
  | ok a => exact fun v h' R g ok => hk a v h' rfl R g ok (PT1.shift g q)
  | exc c p => exact q
  | bad => exact q
theorem PT1.bind {e : Er Bool} {k : Bool → Er Rv} (q : PE1 K W h ρ σ Q (e.bind k)) {Q' : Bool → Hp → Prop}
    (hk : ∀ a h', e = .ok a → Rel K h' ρ σ → Gr h h' → PE1 K W h' ρ σ Q (k a) → Q' a h'.H) : PT1 K W h ρ σ Q' e := by
  cases e with
  | ok a => exact fun h' R g => hk a h' rfl R g (PE1.shift g q)
  | exc c p => exact q
  | bad => exact q
theorem PT1.bindT {e : Er Bool} {k : Bool → Er Bool} (q : PT1 K W h ρ σ QB (e.bind k)) {Q' : Bool → Hp → Prop}
    (hk : ∀ a h', e = .ok a → Rel K h' ρ σ → Gr h h' → PT1 K W h' ρ σ QB (k a) → Q' a h'.H) : PT1 K W h ρ σ Q' e := by
  cases e with
  | ok a => exact fun h' R g => hk a h' rfl R g (PT1.shift g q)
  | exc c p => exact q
  | bad => exact q
/-- the value is there without a step -/
theorem PE1.now {r : Rv} {v : V} (q : PE1 K W h ρ σ Q (.ok r)) (R : Rel K h ρ σ) (ok : RvOk K h.H h v r) : Q v h.H := q v h R (Gr.refl h) ok

/-! ### new objects -/
def Hs.newV (h : Hs) (p : Addr) (o : HO) : Hs := ⟨upd h.G p o, upd h.F p o, upd h.H p o⟩
def Hs.newB (h : Hs) (p : Addr) (o : HO) : Hs := ⟨h.G, upd h.F p o, upd h.H p o⟩
def Hs.newO (h : Hs) (p : Addr) (o : HO) : Hs := ⟨h.G, h.F, upd h.H p o⟩
theorem Ch.fN (c : Ch h) {p : Addr} (n : h.H p = none) : h.F p = none := c.fh.back n
theorem Ch.gN (c : Ch h) {p : Addr} (n : h.H p = none) : h.G p = none := c.gh.back n
theorem upd_case {H : Hp} {p a : Addr} {o u : HO} (e : upd H p o a = some u) (n : H a = none) : a = p ∧ u = o := by
  by_cases z : a = p
  · subst z
    rw [upd_same] at e
    exact ⟨rfl, (Option.some.inj e).symm⟩
  · rw [upd_ne z, n] at e
    cases e
theorem Gr.newV (c : Ch h) {p : Addr} {o : HO} (n : h.H p = none) : Gr h (h.newV p o) :=
  ⟨Ex.new (c.gN n), Ex.new (c.fN n), Ex.new n, fun a u e z => by
    obtain ⟨rfl, _⟩ := upd_case e z
    exact c.fN n, fun a u e z => by
    obtain ⟨rfl, _⟩ := upd_case e z
    exact n⟩
theorem no_sm {α : Type} {x : Option α} {u : α} {P : Prop} (e : x = some u) (z : x = none) : P := by
  rw [z] at e
  cases e
theorem Gr.newB (c : Ch h) {p : Addr} {o : HO} (n : h.H p = none) : Gr h (h.newB p o) :=
  ⟨Ex.refl _, Ex.new (c.fN n), Ex.new n, fun a u e z => no_sm (show h.G a = some u from e) z, fun a u e z => by
    obtain ⟨rfl, _⟩ := upd_case e z
    exact n⟩
theorem Gr.newO (c : Ch h) {p : Addr} {o : HO} (n : h.H p = none) : Gr h (h.newO p o) :=
  ⟨Ex.refl _, Ex.refl _, Ex.new n, fun a u e z => no_sm (show h.G a = some u from e) z, fun a u e z => no_sm (show h.F a = some u from e) z⟩
theorem Ch.newV (c : Ch h) {p : Addr} {o : HO} : Ch (h.newV p o) := ⟨c.gf.both, c.fh.both⟩
theorem Ch.newB (c : Ch h) {p : Addr} {o : HO} (n : h.H p = none) : Ch (h.newB p o) := ⟨c.gf.trans (Ex.new (c.fN n)), c.fh.both⟩
theorem Ch.newO (c : Ch h) {p : Addr} {o : HO} (n : h.H p = none) : Ch (h.newO p o) := ⟨c.gf, c.fh.trans (Ex.new n)⟩
theorem Rel.newV (R : Rel K h ρ σ) {p : Addr} {o : HO} (n : h.H p = none) : Rel K (h.newV p o) ρ σ := R.grow (Gr.newV R.ch n) R.ch.newV
theorem Rel.newB (R : Rel K h ρ σ) {p : Addr} {o : HO} (n : h.H p = none) : Rel K (h.newB p o) ρ σ := R.grow (Gr.newB R.ch n) (R.ch.newB n)
theorem Rel.newO (R : Rel K h ρ σ) {p : Addr} {o : HO} (n : h.H p = none) : Rel K (h.newO p o) ρ σ := R.grow (Gr.newO R.ch n) (R.ch.newO n)
/-- an own new object is frozen -/
def Hs.fz (h : Hs) (p : Addr) (o : HO) : Hs := ⟨upd h.G p o, upd h.F p o, h.H⟩
theorem Ch.fz (c : Ch h) {p : Addr} {o : HO} (e : h.H p = some o) : Ch (h.fz p o) := ⟨c.gf.both, fun a u z => by
  by_cases q : a = p
  · subst q
    have z' : upd h.F a o a = some u := z
    rw [upd_same] at z'
    cases z'
    exact e
  · have z' : upd h.F p o a = some u := z
    rw [upd_ne q] at z'
    exact c.fh a u z'⟩
/-- .. one that was made behind h0 -/
theorem Gr.fz {h0 : Hs} (g : Gr h0 h) (c0 : Ch h0) {p : Addr} {o : HO} (n : h0.H p = none) (f : h.F p = none) (c : Ch h) : Gr h0 (h.fz p o) :=
  ⟨g.g.trans (Ex.new (c.gf.back f)), g.f.trans (Ex.new f), g.x, fun a u e z => by
    by_cases q : a = p
    · subst q
      exact c0.fN n
    · have e' : upd h.G p o a = some u := e
      rw [upd_ne q] at e'
      exact g.gn a u e' z, fun a u e z => by
    by_cases q : a = p
    · subst q
      exact n
    · have e' : upd h.F p o a = some u := e
      rw [upd_ne q] at e'
      exact g.fn a u e' z⟩
theorem Rel.fz {h0 : Hs} (R0 : Rel K h0 ρ σ) (R : Rel K h ρ σ) (g : Gr h0 h) {p : Addr} {o : HO} (n : h0.H p = none) (f : h.F p = none) (e : h.H p = some o) : Rel K (h.fz p o) ρ σ :=
  R0.grow (g.fz R0.ch n f R.ch) (R.ch.fz e)
/-- frozen -/
theorem frz_ok {h0 : Hs} (R0 : Rel K h0 ρ σ) (R : Rel K h ρ σ) (g : Gr h0 h) {v : V} : ∀ {a a' : Rv}, a.frz = .ok a' → RvOk K h0.H h v a → ∃ h', h'.H = h.H ∧ Rel K h' ρ σ ∧ Gr h0 h' ∧ RvOk K h0.H h' v a'
  | .v d, a', e, q => by cases e; exact ⟨h, rfl, R, g, q⟩
  | .b d, a', e, q => by cases e; exact ⟨h, rfl, R, g, q⟩
  | .r d, a', e, q => by cases e; exact ⟨h, rfl, R, g, q⟩
  | .w xs, a', e, q => by cases e; exact ⟨h, rfl, R, g, q.dp (r := .w xs) R.ch rfl⟩
  | .o xs, a', e, ⟨l, vs, e1, n, x, y, z⟩ => by
    cases e
    subst e1
    refine ⟨h.fz l (.lst vs), rfl, R0.fz R g n y x, g.fz R0.ch n y R.ch, ?_⟩
    exact .lst (.of upd_same) (ex_dpa (Ex.new (R.ch.gf.back y)) z)
  | .wk _, _, e, _ => by cases e
  | .ok _, _, e, _ => by cases e
  | .wt _, _, e, _ => by cases e
  | .wn _, _, e, _ => by cases e
  | .ot _, _, e, _ => by cases e
  | .on _, _, e, _ => by cases e
  | .p2 _ _, _, e, _ => by cases e
  | .sj _ _ _ _, _, e, _ => by cases e
  | .wi _ _, a', e, q => by cases e; exact ⟨h, rfl, R, g, q.dp (r := .wi _ _) R.ch rfl⟩
  | .oi c fs, a', e, ⟨l, vs, dx, e1, n, x, y, z⟩ => by
    cases e
    subst e1
    refine ⟨h.fz l (.ins (clsOf K c) dx vs), rfl, R0.fz R g n y x, g.fz R0.ch n y R.ch, ?_⟩
    exact .obj upd_same (kv_dpfs (z.ex (Ex.new (R.ch.gf.back y))))
end

/-! ### names, constants -/
def Sl.rd : Sl → Er Rv
  | .v d => .ok (.v d)
  | .b d => .ok (.b d)
  | .o xs => .ok (.w xs)
  | .k kvs => .ok (.wk kvs)
  | .t kvs => .ok (.wt kvs)
  | .n kvs => .ok (.wn kvs)
  | .i c fs => .ok (.wi c fs)
  | .j _ c fs => .ok (.wi c fs)
  | .u => .bad
  | .x _ => .bad
  | .y _ => .bad
  | .z _ xss => .ok (.b (.list (xss.map .list)))
  | .e xs => .ok (.b (.list xs))
theorem ys_dpa {K : PySem.W.Frag} {F G : Hp} : ∀ {ms : List Addr} {xss : List (List D)}, Ys K F G ms xss → DpAll K F (refsOf ms) (xss.map .list)
  | _, _, .nil => .nil
  | _, _, .cons ⟨vs, a, _, c⟩ t => .cons (.lst (.of a) (c F)) (ys_dpa t)
def slot (ρ : Env) (i : Nat) : Sl := ρ.getD i .u
def varF (i : Nat) : EF := fun ρ => (slot ρ i).rd
def cF (d : D) : EF := fun _ => .ok (.v d)
section
variable {X : Cx} {W : WF} {h : Hs} {ρ : Env} {σ : L2.St} {H : Hp} {Q : VK}
theorem slot_some {ρ : Env} {i : Nat} {s : Sl} (e : slot ρ i = s) (n : s ≠ .u) : ρ[i]? = some s := by
  unfold slot at e
  rw [List.getD_eq_getElem?_getD] at e
  cases q : ρ[i]? with
  | none =>
    rw [q] at e
    exact absurd e.symm n
  | some t =>
    rw [q] at e
    exact congrArg some e
theorem Rel.get {K : PySem.W.Frag} (R : Rel K h ρ σ) {i : Nat} {s : Sl} (e : ρ[i]? = some s) : ∃ x, σ[i]? = some x ∧ SlOk K h x s := by
  have hi : i < σ.length := by
    rw [← R.len]
    exact (List.getElem?_eq_some_iff.mp e).1
  exact ⟨σ[i], List.getElem?_eq_getElem hi, R.at_ i s _ e (List.getElem?_eq_getElem hi)⟩
theorem var_of {K : PySem.W.Frag} {i : Nat} : ∀ σ H Q, tX K W (varF i) σ H Q → tVar i σ H Q := by
  intro σ H Q q
  obtain ⟨h, ρ, rfl, R, q⟩ := tX_iff.mp q
  unfold varF at q
  cases es : slot ρ i with
  | u => rw [es] at q; exact q.elim
  | x a => rw [es] at q; exact q.elim
  | y a => rw [es] at q; exact q.elim
  | e xs =>
    rw [es] at q
    obtain ⟨x, ex, m, vs, rfl, h1, h2, h3⟩ := R.get (slot_some es (by intro z; cases z))
    exact ⟨.ref m, ex, q.now R (Dp.lst (.of h1) (h3 _))⟩
  | z l xss =>
    rw [es] at q
    obtain ⟨x, ex, ms, rfl, h1, h2, h3⟩ := R.get (slot_some es (by intro z; cases z))
    exact ⟨.ref l, ex, q.now R (Dp.lst (.of h1) (ys_dpa h3))⟩
  | v d =>
    rw [es] at q
    obtain ⟨x, ex, v, rfl, hd⟩ := R.get (slot_some es (by intro z; cases z))
    exact ⟨v, ex, q.now R hd⟩
  | b d =>
    rw [es] at q
    obtain ⟨x, ex, v, rfl, hd⟩ := R.get (slot_some es (by intro z; cases z))
    exact ⟨v, ex, q.now R hd⟩
  | o xs =>
    rw [es] at q
    obtain ⟨x, ex, l, vs, rfl, h1, h2, h3⟩ := R.get (slot_some es (by intro z; cases z))
    exact ⟨.ref l, ex, q.now R ⟨l, vs, rfl, h1, h3⟩⟩
  | k xs =>
    rw [es] at q
    obtain ⟨x, ex, l, vs, rfl, h1, h2, h3⟩ := R.get (slot_some es (by intro z; cases z))
    exact ⟨.ref l, ex, q.now R ⟨l, vs, rfl, h1, h3⟩⟩
  | t xs =>
    rw [es] at q
    obtain ⟨x, ex, l, vs, rfl, h1, h2, h3⟩ := R.get (slot_some es (by intro z; cases z))
    exact ⟨.ref l, ex, q.now R ⟨l, vs, rfl, h1, h3⟩⟩
  | n xs =>
    rw [es] at q
    obtain ⟨x, ex, l, vs, rfl, h1, h2, h3⟩ := R.get (slot_some es (by intro z; cases z))
    exact ⟨.ref l, ex, q.now R ⟨l, vs, rfl, h1, h3⟩⟩
  | i c xs =>
    rw [es] at q
    obtain ⟨x, ex, l, vs, dx, rfl, h1, h2, h3⟩ := R.get (slot_some es (by intro z; cases z))
    exact ⟨.ref l, ex, q.now R ⟨l, vs, dx, rfl, h1, h3⟩⟩
  | j l c xs =>
    rw [es] at q
    obtain ⟨x, ex, vs, dx, rfl, h1, h2, h3⟩ := R.get (slot_some es (by intro z; cases z))
    exact ⟨.ref l, ex, q.now R ⟨l, vs, dx, rfl, h1, h3⟩⟩
theorem xv (i : Nat) {x : Str} {pos : Pos} (hN : X.N[i]? = some x := by rfl) (hv : Vis X.env.scope x := by first | exact Or.inl rfl | exact Or.inr (Or.inl rfl) | exact Or.inr (Or.inr rfl)) (hd : (x == ("__debug__" : Str)) = false := by decide)
    (hcd : (x == ("__classdict__" : Str)) = false := by decide) : PE X (.Name x pos) (tX X.K W (varF i)) := peTo (pe_var hN hv hd hcd) var_of
/-- the V of a flat datum -/
def scV : D → Option V
  | .none => some .non
  | .bool b => some (.bl b)
  | .int i => some (.int i)
  | .str x => some (.str x)
  | _ => none
theorem scV_dp {K : PySem.W.Frag} {G : Hp} {d : D} {v : V} (e : scV d = some v) : Dp K G v d := by
  cases d <;> first | (cases e; done) | skip
  · cases e; exact .non
  · cases e; exact .bl _
  · cases e; exact .int _
  · cases e; exact .str _
theorem scV_un {K : PySem.W.Frag} {G : Hp} {d : D} {v w : V} (e : scV d = some v) (q : Dp K G w d) : w = v := by
  cases q <;> cases e <;> rfl
theorem c_of {K : PySem.W.Frag} {d : D} {v : V} (e : scV d = some v) : ∀ σ H Q, tX K W (cF d) σ H Q → tC v σ H Q := by
  intro σ H Q q
  obtain ⟨h, ρ, rfl, R, q⟩ := tX_iff.mp q
  exact q.now R (scV_dp (d := d) e)
theorem xint {i j pos} : PE X (.Constant (.int i) j pos) (tX X.K W (cF (.int i))) := peTo pe_int (c_of rfl)
theorem xbl {b j pos} : PE X (.Constant (.bool b) j pos) (tX X.K W (cF (.bool b))) := peTo pe_bl (c_of rfl)
theorem xnon {j pos} : PE X (.Constant .none j pos) (tX X.K W (cF .none)) := peTo pe_non (c_of rfl)
theorem xstr {x j pos} : PE X (.Constant (.str x) j pos) (tX X.K W (cF (.str x))) := peTo pe_str (c_of rfl)
/-- a module's constant -/
theorem xglob {x : Str} {d : D} {v : V} {u : Value} {pos : Pos} (hg : Gl X x) (hm : X.mg x = some u) (e : scV d = some v) (r : RelV v u) (hd : (x == ("__debug__" : Str)) = false := by decide) : PE X (.Name x pos) (tX X.K W (cF d)) := peTo (pe_glob hg hm r hd) (c_of e)

/-! ### operators on values -/
def binF (φ : Rv → Rv → Er Rv) (f g : EF) : EF := fun ρ => (f ρ).bind fun a => (g ρ).bind fun b => φ a b
/-- what a two-place operation asks -/
def OpOk (K : PySem.W.Frag) (W : WF) (φ : Rv → Rv → Er Rv) (r : R2) : Prop :=
  ∀ (h0 h : Hs) (ρ : Env) (σ : L2.St) (x y : V) (a b : Rv) (Q : VK), Rel K h0 ρ σ → Rel K h ρ σ → Gr h0 h → RvOk K h0.H h x a → RvOk K h0.H h y b → PE1 K W h ρ σ Q (φ a b) → r x y h.H Q
theorem bin_of {K : PySem.W.Frag} {φ : Rv → Rv → Er Rv} {r : R2} {f g : EF} (hr : OpOk K W φ r) : ∀ σ H Q, tX K W (binF φ f g) σ H Q → tOp r (tX K W f) (tX K W g) σ H Q := by
  intro σ H Q q
  obtain ⟨h, ρ, rfl, R, q⟩ := tX_iff.mp q
  refine tX_mk R (q.bind fun a x h1 _ R1 g1 ok1 q1 => ?_)
  refine tX_mk R1 (q1.bind fun b y h2 _ R2 g2 ok2 q2 => ?_)
  exact hr h h2 ρ σ x y a b Q R R2 (g1.trans g2) (ok1.grow g2) (ok2.old g1.x) q2
/-- two flat data give a flat datum -/
def flat2 (φ : D → D → Er D) (a b : Rv) : Er Rv := match a.dat, b.dat with
  | some x, some y => (φ x y).bind fun d => .ok (.v d)
  | _, _ => .bad
def unF (φ : Rv → Er Rv) (f : EF) : EF := fun ρ => (f ρ).bind φ
end
end Sq

/-! Operators. -/
namespace Sq
open PySem PySem.Spec PyProof.Rows L2

section
variable {K : PySem.W.Frag} {W : WF} {h : Hs} {ρ : Env} {σ : L2.St} {Q : VK}
/-- flat2, backwards -/
theorem flat2_ok {φ : D → D → Er D} {a b r : Rv} (e : flat2 φ a b = .ok r) : ∃ x y d, a.dat = some x ∧ b.dat = some y ∧ φ x y = .ok d ∧ r = .v d := by
  unfold flat2 at e
  split at e
  · rename_i x y ex ey
    cases q : φ x y with
    | ok d =>
      rw [q] at e
      cases e
      exact ⟨x, y, d, ex, ey, q, rfl⟩
    | exc c p => rw [q] at e; cases e
    | bad => rw [q] at e; cases e
  · cases e
def NoExc (φ : Rv → Rv → Er Rv) : Prop := ∀ a b c p, φ a b ≠ .exc c p
theorem PE1.split {φ : Rv → Rv → Er Rv} (ne : NoExc φ) {a b : Rv} (q : PE1 K W h ρ σ Q (φ a b)) : ∃ r, φ a b = .ok r ∧ PE1 K W h ρ σ Q (.ok r) := by
  cases e : φ a b with
  | ok r => rw [e] at q; exact ⟨r, rfl, q⟩
  | exc c p => exact absurd e (ne a b c p)
  | bad => rw [e] at q; exact q.elim
theorem flat2_ne {φ : D → D → Er D} (ne : ∀ x y c p, φ x y ≠ .exc c p) : NoExc (flat2 φ) := by
  intro a b c p e
  unfold flat2 at e
  split at e
  · rename_i x y _ _
    cases q : φ x y with
    | ok d => rw [q] at e; cases e
    | exc c p => exact ne x y c p q
    | bad => rw [q] at e; cases e
  · cases e
/-- an operation on data that gives a flat datum -/
theorem flat_ok {φ : D → D → Er D} {r : R2} (ne : ∀ x y c p, φ x y ≠ .exc c p)
    (hr : ∀ (H : Hp) (x y : V) (d e f : D) (Q : VK), Dp K H x d → Dp K H y e → φ d e = .ok f → (∀ v, scV f = some v → Q v H) → r x y H Q) (fl : ∀ d e f, φ d e = .ok f → (scV f).isSome = true) : OpOk K W (flat2 φ) r := by
  intro h0 h ρ σ x y a b Q R0 R g oka okb q
  obtain ⟨res, e, q⟩ := q.split (flat2_ne ne)
  obtain ⟨d, e', f, ha, hb, hφ, rfl⟩ := flat2_ok e
  exact hr h.H x y d e' f Q (oka.dp R.ch ha) (okb.dp R.ch hb) hφ fun v ev => q.now R (scV_dp ev)
theorem OpOk.orL {φ : Rv → Rv → Er Rv} {r r' : R2} (a : OpOk K W φ r) : OpOk K W φ (fun x y H Q => r x y H Q ∨ r' x y H Q) := fun h0 h ρ σ x y a' b' Q R0 R g o1 o2 q => .inl (a h0 h ρ σ x y a' b' Q R0 R g o1 o2 q)
/-- by cases on what the operands are -/
def alt (φ ψ : Rv → Rv → Er Rv) : Rv → Rv → Er Rv := fun a b => match φ a b with
  | .bad => ψ a b
  | r => r
theorem OpOk.alt {φ ψ : Rv → Rv → Er Rv} {r r' : R2} (a : OpOk K W φ r) (b : OpOk K W ψ r') : OpOk K W (alt φ ψ) (fun x y H Q => r x y H Q ∨ r' x y H Q) := fun h0 h ρ σ x y a' b' Q R0 R g o1 o2 q => by
  unfold Sq.alt at q
  cases e : φ a' b' with
  | ok z =>
    rw [e] at q
    exact .inl (a h0 h ρ σ x y a' b' Q R0 R g o1 o2 (by rw [e]; exact q))
  | exc c p =>
    rw [e] at q
    exact .inl (a h0 h ρ σ x y a' b' Q R0 R g o1 o2 (by rw [e]; exact q))
  | bad =>
    rw [e] at q
    exact .inr (b h0 h ρ σ x y a' b' Q R0 R g o1 o2 q)
end

/-! ### arithmetic -/
def int2 (φ : Int → Int → Er D) : D → D → Er D := fun x y => match x, y with
  | .int i, .int j => φ i j
  | _, _ => .bad
theorem int2_ok {φ : Int → Int → Er D} {x y f : D} (e : int2 φ x y = .ok f) : ∃ i j, x = .int i ∧ y = .int j ∧ φ i j = .ok f := by
  unfold int2 at e
  split at e
  · exact ⟨_, _, rfl, rfl, e⟩
  · cases e
theorem int2_ne {φ : Int → Int → Er D} (ne : ∀ i j c p, φ i j ≠ .exc c p) : ∀ x y c p, int2 φ x y ≠ .exc c p := by
  intro x y c p e
  unfold int2 at e
  split at e
  · exact ne _ _ _ _ e
  · cases e
theorem dp_int {K : PySem.W.Frag} {H : Hp} {x : V} {i : Int} (h : Dp K H x (.int i)) : x = .int i := by cases h; rfl
theorem dp_str {K : PySem.W.Frag} {H : Hp} {x : V} {i : Str} (h : Dp K H x (.str i)) : x = .str i := by cases h; rfl
theorem dp_bl {K : PySem.W.Frag} {H : Hp} {x : V} {i : Bool} (h : Dp K H x (.bool i)) : x = .bl i := by cases h; rfl
theorem int_ok {K : PySem.W.Frag} {W : WF} {φ : Int → Int → Er D} {r : R2} (ne : ∀ i j c p, φ i j ≠ .exc c p) (fl : ∀ i j f, φ i j = .ok f → (scV f).isSome = true)
    (hr : ∀ (H : Hp) (i j : Int) (f : D) (Q : VK), φ i j = .ok f → (∀ v, scV f = some v → Q v H) → r (.int i) (.int j) H Q) : OpOk K W (flat2 (int2 φ)) r := by
  refine flat_ok (int2_ne ne) (fun H x y d e f Q h1 h2 e1 q => ?_) fun d e f e1 => ?_
  · obtain ⟨i, j, rfl, rfl, e2⟩ := int2_ok e1
    rw [dp_int h1, dp_int h2]
    exact hr H i j f Q e2 q
  · obtain ⟨i, j, rfl, rfl, e2⟩ := int2_ok e1
    exact fl i j f e2
def iadd : Int → Int → Er D := fun i j => .ok (.int (i + j))
def isub : Int → Int → Er D := fun i j => .ok (.int (i - j))
def imul : Int → Int → Er D := fun i j => if (-(2 ^ 64) < i ∧ i < 2 ^ 64) ∨ (-(2 ^ 64) < j ∧ j < 2 ^ 64) ∨ i.natAbs.log2 + j.natAbs.log2 < 1000000 then .ok (.int (i * j)) else .bad
def idiv : Int → Int → Er D := fun i j => if 0 < j ∧ (j < 1073741824 ∨ j.natAbs.log2 < 9000) then .ok (.int (i / j)) else if j < 0 ∧ (-1073741824 < j ∨ j.natAbs.log2 < 9000) then .ok (.int (i.fdiv j)) else .bad
def imod : Int → Int → Er D := fun i j => if 0 < j then .ok (.int (i % j)) else if j < 0 then .ok (.int (i.fmod j)) else .bad
def ipow : Int → Int → Er D := fun i j => if 0 ≤ j ∧ j ≤ 1000 ∧ i.natAbs < 2 ^ 64 then .ok (.int (i ^ j.toNat)) else .bad
section
variable {K : PySem.W.Frag} {W : WF} {X : Cx}
theorem ok_add : OpOk K W (flat2 (int2 iadd)) (rI0 fun i j => .int (i + j)) := int_ok (fun _ _ _ _ e => nomatch e) (fun _ _ _ e => by cases e; rfl) fun H i j f Q e q => ⟨i, j, rfl, rfl, by cases e; exact q _ rfl⟩
theorem ok_sub : OpOk K W (flat2 (int2 isub)) (rI0 fun i j => .int (i - j)) := int_ok (fun _ _ _ _ e => nomatch e) (fun _ _ _ e => by cases e; rfl) fun H i j f Q e q => ⟨i, j, rfl, rfl, by cases e; exact q _ rfl⟩
def rMulA : R2 := fun x y H Q => rI CMul (fun i j => .int (i * j)) x y H Q ∨ rI CMulW (fun i j => .int (i * j)) x y H Q
theorem op_mulA : OpR X (binaryOp .Mult) rMulA := op_mul.or op_mulW
theorem ok_mul : OpOk K W (flat2 (int2 imul)) rMulA := by
  refine int_ok (fun i j c p e => ?_) (fun i j f e => ?_) fun H i j f Q e q => ?_
  · unfold imul at e; split at e <;> cases e
  · unfold imul at e; split at e <;> cases e; rfl
  · unfold imul at e
    split at e
    · rename_i hc
      cases e
      rcases hc with hc | hc | hc
      · exact .inl ⟨i, j, rfl, rfl, .inl hc, q _ rfl⟩
      · exact .inl ⟨i, j, rfl, rfl, .inr hc, q _ rfl⟩
      · exact .inr ⟨i, j, rfl, rfl, hc, q _ rfl⟩
    · cases e
def CDivNW (_ j : Int) : Prop := j ≠ 0 ∧ (j.natAbs < 1073741824 ∨ j.natAbs.log2 < 9000)
theorem op_fdivNW : OpR X (binaryOp .FloorDiv) (rI CDivNW fun i j => .int (i.fdiv j)) := opI fun _ _ _ _ _ _ _ hc q => by
  rcases hc.2 with h | h
  · exact floordiv_int hc.1 q (.inl (PyProof.noPylong_small h))
  · exact floordiv_int hc.1 q (.inl (PyProof.noPylong_of_log2 h))
def rDivA : R2 := fun x y H Q => rI CDiv (fun i j => .int (i / j)) x y H Q ∨ (rI CDivW (fun i j => .int (i / j)) x y H Q ∨ rI CDivNW (fun i j => .int (i.fdiv j)) x y H Q)
theorem op_divA : OpR X (binaryOp .FloorDiv) rDivA := op_fdiv.or (op_fdivW.or op_fdivNW)
theorem ok_div : OpOk K W (flat2 (int2 idiv)) rDivA := by
  refine int_ok (fun i j c p e => ?_) (fun i j f e => ?_) fun H i j f Q e q => ?_
  · unfold idiv at e; split at e; (· cases e); split at e <;> cases e
  · unfold idiv at e; split at e; (· cases e; rfl); split at e <;> cases e; rfl
  · unfold idiv at e
    split at e
    · rename_i hc
      cases e
      rcases hc with ⟨h0, hc | hc⟩
      · exact .inl ⟨i, j, rfl, rfl, ⟨h0, hc⟩, q _ rfl⟩
      · exact .inr (.inl ⟨i, j, rfl, rfl, ⟨h0, hc⟩, q _ rfl⟩)
    · split at e
      · rename_i hc
        cases e
        exact .inr (.inr ⟨i, j, rfl, rfl, ⟨by omega, hc.2.elim (fun z => .inl (by omega)) .inr⟩, q _ rfl⟩)
      · cases e
def rModA : R2 := fun x y H Q => rI (fun _ j => 0 < j) (fun i j => .int (i % j)) x y H Q ∨ rI (fun _ j => j ≠ 0) (fun i j => .int (i.fmod j)) x y H Q
theorem op_modA : OpR X (binaryOp .Mod) rModA := op_mod.or op_modN
theorem ok_mod : OpOk K W (flat2 (int2 imod)) rModA := by
  refine int_ok (fun i j c p e => ?_) (fun i j f e => ?_) fun H i j f Q e q => ?_
  · unfold imod at e; split at e; (· cases e); split at e <;> cases e
  · unfold imod at e; split at e; (· cases e; rfl); split at e <;> cases e; rfl
  · unfold imod at e
    split at e
    · cases e
      exact .inl ⟨i, j, rfl, rfl, by assumption, q _ rfl⟩
    · split at e
      · cases e
        exact .inr ⟨i, j, rfl, rfl, by omega, q _ rfl⟩
      · cases e
theorem ok_pow : OpOk K W (flat2 (int2 ipow)) (rI CPow fun i j => .int (i ^ j.toNat)) := by
  refine int_ok (fun i j c p e => ?_) (fun i j f e => ?_) fun H i j f Q e q => ?_
  · unfold ipow at e; split at e <;> cases e
  · unfold ipow at e; split at e <;> cases e; rfl
  · unfold ipow at e
    split at e
    · rename_i hc
      cases e
      exact ⟨i, j, rfl, rfl, ⟨hc.1, by omega, hc.2.2⟩, q _ rfl⟩
    · cases e
/-- texts, tuples, lists put behind one another -/
def sadd : D → D → Er D := fun x y => match x, y with
  | .str a, .str b => if a.length + b.length ≤ 100000 then .ok (.str (a ++ b)) else .bad
  | _, _ => .bad
def rStrA : R2 := fun x y H Q => ∃ i j, x = .str i ∧ y = .str j ∧ i.length + j.length ≤ sizeLine ∧ Q (.str (i ++ j)) H
theorem sz100 {n : Nat} (h : n ≤ 100000) : n ≤ sizeLine := Nat.le_trans h (by decide)
theorem ok_sadd : OpOk K W (flat2 sadd) rStrA := by
  refine flat_ok (fun x y c p e => ?_) (fun H x y d e f Q h1 h2 e1 q => ?_) fun d e f e1 => ?_
  · unfold sadd at e; split at e; (· split at e <;> cases e); cases e
  · unfold sadd at e1
    split at e1
    · split at e1
      · cases e1
        exact ⟨_, _, dp_str h1, dp_str h2, sz100 (by assumption), q _ rfl⟩
      · cases e1
    · cases e1
  · unfold sadd at e1
    split at e1
    · split at e1
      · cases e1; rfl
      · cases e1
    · cases e1
/-- tuples -/
def tcat (a b : Rv) : Er Rv := match a, b with
  | .v (.tuple xs), .v (.tuple ys) => if xs ≠ [] ∧ xs.length + ys.length ≤ 100000 then .ok (.v (.tuple (xs ++ ys))) else .bad
  | _, _ => .bad
theorem dp_tup {H : Hp} {x : V} {ds : List D} (h : Dp K H x (.tuple ds)) : ∃ a vs, x = .ref a ∧ SqT K H a vs ∧ DpAll K H vs ds := by
  cases h with
  | tup h1 hd h2 => exact ⟨_, _, rfl, .inl (.inr ⟨_, h1⟩), h2⟩
theorem dp_lst {H : Hp} {x : V} {ds : List D} (h : Dp K H x (.list ds)) : ∃ a vs, x = .ref a ∧ SqL K H a vs ∧ DpAll K H vs ds := by
  cases h with
  | lst h1 h2 => exact ⟨_, _, rfl, h1, h2⟩
theorem ok_tcat : OpOk K W tcat (rCatF K) := by
  intro h0 h ρ σ x y a b Q R0 R g oka okb q
  unfold tcat at q
  split at q
  · rename_i xs ys
    split at q
    · rename_i hc
      obtain ⟨p1, vs, rfl, s1, d1⟩ := dp_tup oka
      obtain ⟨p2, ws, rfl, s2, d2⟩ := dp_tup okb
      refine ⟨p1, p2, vs, ws, rfl, rfl, ex_t R.ch.gh s1, ex_t R.ch.gh s2, fun z => ?_, ?_, fun z => ?_, fun z p H' hp nt => ?_⟩
      · subst z
        have := d1.len
        exact hc.1 (List.length_eq_zero_iff.mp this.symm)
      · rw [d1.len, d2.len]
        exact sz100 hc.2
      · subst z
        have e : ys = [] := List.length_eq_zero_iff.mp d2.len.symm
        subst e
        rw [List.append_nil] at q
        exact q.now R oka
      · obtain ⟨o, od, rfl⟩ := nt
        refine q _ _ (R.newV hp) (Gr.newV R.ch hp) ?_
        exact .tup upd_same od (ex_dpa (Ex.new (R.ch.gN hp)) (d1.append d2))
    · exact q.elim
  · exact q.elim
/-- lists of one's own, new ones -/
def Rv.lst : Rv → Option (List D)
  | .w xs => some xs
  | .o xs => some xs
  | _ => none
theorem RvOk.lst {H0 : Hp} {h : Hs} {v : V} : ∀ {a : Rv} {xs : List D}, a.lst = some xs → RvOk K H0 h v a → ∃ l vs, v = .ref l ∧ h.H l = some (.lst vs) ∧ DpAll K h.G vs xs
  | .w _, _, e, ⟨l, vs, e1, x, y⟩ => by cases e; exact ⟨l, vs, e1, x, y⟩
  | .o _, _, e, ⟨l, vs, e1, n, x, f, y⟩ => by cases e; exact ⟨l, vs, e1, x, y⟩
def lcat (a b : Rv) : Er Rv := match a.lst, b.lst with
  | some xs, some ys => if xs.length + ys.length ≤ 100000 then .ok (.o (xs ++ ys)) else .bad
  | _, _ => .bad
/-- a new own list -/
theorem PE1.newL {h : Hs} {ρ : Env} {σ : L2.St} {Q : VK} {xs : List D} {vs : List V} (q : PE1 K W h ρ σ Q (.ok (.o xs))) (R : Rel K h ρ σ) (d : DpAll K h.G vs xs) {p : Addr} (hp : h.H p = none) : Q (.ref p) (upd h.H p (.lst vs)) :=
  q _ _ (R.newO hp) (Gr.newO R.ch hp) ⟨p, vs, rfl, hp, upd_same, R.ch.fN hp, d⟩
theorem PE1.newT {h : Hs} {ρ : Env} {σ : L2.St} {Q : VK} {xs : List D} {vs : List V} (q : PE1 K W h ρ σ Q (.ok (.v (.tuple xs)))) (R : Rel K h ρ σ) (d : DpAll K h.G vs xs) {p : Addr} {H' : Hp} (hp : h.H p = none) (nt : NewT h.H p vs H') : Q (.ref p) H' := by
  obtain ⟨o, od, rfl⟩ := nt
  exact q _ _ (R.newV hp) (Gr.newV R.ch hp) (.tup upd_same od (ex_dpa (Ex.new (R.ch.gN hp)) d))
theorem PE1.newTB {h : Hs} {ρ : Env} {σ : L2.St} {Q : VK} {xs : List D} {vs : List V} (q : PE1 K W h ρ σ Q (.ok (.b (.tuple xs)))) (R : Rel K h ρ σ) (d : DpAll K h.F vs xs) {p : Addr} {H' : Hp} (hp : h.H p = none) (nt : NewT h.H p vs H') : Q (.ref p) H' := by
  obtain ⟨o, od, rfl⟩ := nt
  exact q _ _ (R.newB hp) (Gr.newB R.ch hp) (.tup upd_same od (ex_dpa (Ex.new (R.ch.fN hp)) d))
theorem PE1.newTR {h : Hs} {ρ : Env} {σ : L2.St} {Q : VK} {xs : List D} {vs : List V} (q : PE1 K W h ρ σ Q (.ok (.r (.tuple xs)))) (R : Rel K h ρ σ) (d : DpAll K h.H vs xs) {p : Addr} {H' : Hp} (hp : h.H p = none) (nt : NewT h.H p vs H') : Q (.ref p) H' := by
  obtain ⟨o, od, rfl⟩ := nt
  exact q _ _ (R.newO hp) (Gr.newO R.ch hp) (.tup upd_same od (ex_dpa (Ex.new hp) d))
theorem ok_lcat : OpOk K W lcat rCat := by
  intro h0 h ρ σ x y a b Q R0 R g oka okb q
  unfold lcat at q
  split at q
  · rename_i xs ys ea eb
    split at q
    · obtain ⟨l, vs, rfl, h1, d1⟩ := oka.lst ea
      obtain ⟨m, ws, rfl, h2, d2⟩ := okb.lst eb
      exact ⟨l, m, vs, ws, rfl, rfl, h1, h2, by rw [d1.len, d2.len]; exact sz100 (by assumption), fun p hp => q.newL R (d1.append d2) hp⟩
    · exact q.elim
  · exact q.elim
def addR : Rv → Rv → Er Rv := alt (flat2 (int2 iadd)) (alt (flat2 sadd) (alt tcat lcat))
def rAddA (K : PySem.W.Frag) : R2 := fun x y H Q => rI0 (fun i j => .int (i + j)) x y H Q ∨ (rStrA x y H Q ∨ (rCatF K x y H Q ∨ rCat x y H Q))
theorem op_addA : OpR X (binaryOp .Add) (rAddA X.K) := op_add.or (OpR.or op_add_str (OpR.or op_catF op_cat))
theorem ok_addA : OpOk K W addR (rAddA K) := ok_add.alt (ok_sadd.alt (ok_tcat.alt ok_lcat))

variable {a b : Expr} {f g : EF} {pos : Pos}
theorem xadd (ha : PE X a (tX X.K W f)) (hb : PE X b (tX X.K W g)) : PE X (.BinOp a .Add b pos) (tX X.K W (binF addR f g)) := peTo (pe_op op_addA ha hb) (bin_of ok_addA)
theorem xsub (ha : PE X a (tX X.K W f)) (hb : PE X b (tX X.K W g)) : PE X (.BinOp a .Sub b pos) (tX X.K W (binF (flat2 (int2 isub)) f g)) := peTo (pe_op op_sub ha hb) (bin_of ok_sub)
theorem xmul (ha : PE X a (tX X.K W f)) (hb : PE X b (tX X.K W g)) : PE X (.BinOp a .Mult b pos) (tX X.K W (binF (flat2 (int2 imul)) f g)) := peTo (pe_op op_mulA ha hb) (bin_of ok_mul)
theorem xdiv (ha : PE X a (tX X.K W f)) (hb : PE X b (tX X.K W g)) : PE X (.BinOp a .FloorDiv b pos) (tX X.K W (binF (flat2 (int2 idiv)) f g)) := peTo (pe_op op_divA ha hb) (bin_of ok_div)
theorem xmod (ha : PE X a (tX X.K W f)) (hb : PE X b (tX X.K W g)) : PE X (.BinOp a .Mod b pos) (tX X.K W (binF (flat2 (int2 imod)) f g)) := peTo (pe_op op_modA ha hb) (bin_of ok_mod)
theorem xpow (ha : PE X a (tX X.K W f)) (hb : PE X b (tX X.K W g)) : PE X (.BinOp a .Pow b pos) (tX X.K W (binF (flat2 (int2 ipow)) f g)) := peTo (pe_op op_pow ha hb) (bin_of ok_pow)
/-- -a -/
def negR (a : Rv) : Er Rv := match a.dat with
  | some (.int i) => .ok (.v (.int (-i)))
  | _ => .bad
theorem un_of {φ : Rv → Er Rv} {r : V → Hp → VK → Prop} (hr : ∀ (h0 h : Hs) (ρ : Env) (σ : L2.St) (x : V) (a : Rv) (Q : VK), Rel K h0 ρ σ → Rel K h ρ σ → Gr h0 h → RvOk K h0.H h x a → PE1 K W h ρ σ Q (φ a) → r x h.H Q) :
    ∀ σ H Q, tX K W (unF φ f) σ H Q → tUn r (tX K W f) σ H Q := by
  intro σ H Q q
  obtain ⟨h, ρ, rfl, R, q⟩ := tX_iff.mp q
  exact tX_mk R (q.bind fun a x h1 _ R1 g1 ok1 q1 => hr h h1 ρ σ x a Q R R1 g1 ok1 q1)
theorem xneg (ha : PE X a (tX X.K W f)) : PE X (.UnaryOp .USub a pos) (tX X.K W (unF negR f)) := by
  refine peTo (pe_un un_neg ha) (un_of fun h0 h ρ σ x a Q R0 R g ok q => ?_)
  unfold negR at q
  split at q
  · rename_i i e
    have e1 := dp_int (ok.dp R.ch e)
    subst e1
    exact ⟨i, rfl, q.now R (.int _)⟩
  · exact q.elim
end
end Sq

/-! Comparisons, tests, displays, subscripts. -/
namespace Sq
open PySem PySem.Spec PyProof.Rows L2

/-! ### dicts by keys -/
section
variable {κ : Type} [DecidableEq κ]
def getK (kvs : List (κ × D)) (k : κ) : Option D := (kvs.find? fun kv => decide (kv.1 = k)).map (·.2)
def setK (kvs : List (κ × D)) (k : κ) (v : D) : List (κ × D) :=
  if (kvs.any fun kv => decide (kv.1 = k)) = true then kvs.map (fun kv => if kv.1 = k then (kv.1, v) else kv) else kvs ++ [(k, v)]
theorem KvD.get {K : PySem.W.Frag} {G : Hp} {l : List (κ × V)} {m : List (κ × D)} (h : KvD K G l m) (k : κ) : (∃ v d, valV l k = some v ∧ getK m k = some d ∧ Dp K G v d) ∨ (valV l k = none ∧ getK m k = none) := by
  induction h with
  | nil => exact .inr ⟨rfl, rfl⟩
  | @cons p q l m r t ih =>
    by_cases e : p.1 = k
    · refine .inl ⟨p.2, q.2, valV_pos e, ?_, r.2⟩
      unfold getK
      rw [List.find?_cons, decide_eq_true (r.1 ▸ e)]
      rfl
    · have e2 : getK (q :: m) k = getK m k := by
        unfold getK
        rw [List.find?_cons, decide_eq_false (show ¬ q.1 = k from r.1 ▸ e)]
      rw [valV_neg e, e2]
      exact ih
theorem KvD.any {K : PySem.W.Frag} {G : Hp} {l : List (κ × V)} {m : List (κ × D)} (h : KvD K G l m) (k : κ) : (l.any fun kv => decide (kv.1 = k)) = (m.any fun kv => decide (kv.1 = k)) := by
  induction h with
  | nil => rfl
  | @cons p q l m r t ih => rw [List.any_cons, List.any_cons, ih, r.1]
theorem KvD.map {K : PySem.W.Frag} {G : Hp} {l : List (κ × V)} {m : List (κ × D)} (h : KvD K G l m) (k : κ) {v : V} {d : D} (hv : Dp K G v d) : KvD K G (l.map fun kv => if kv.1 = k then (kv.1, v) else kv) (m.map fun kv => if kv.1 = k then (kv.1, d) else kv) := by
  induction h with
  | nil => exact .nil
  | @cons p q l m r t ih =>
    refine .cons ?_ ih
    dsimp only
    by_cases e : p.1 = k
    · rw [if_pos e, if_pos (r.1 ▸ e)]
      exact ⟨r.1, hv⟩
    · rw [if_neg e, if_neg (show ¬ q.1 = k from r.1 ▸ e)]
      exact r
theorem KvD.snoc {K : PySem.W.Frag} {G : Hp} {l : List (κ × V)} {m : List (κ × D)} (h : KvD K G l m) (k : κ) {v : V} {d : D} (hv : Dp K G v d) : KvD K G (l ++ [(k, v)]) (m ++ [(k, d)]) := by
  induction h with
  | nil => exact .cons ⟨rfl, hv⟩ .nil
  | @cons p q l m r t ih => exact .cons r ih
theorem KvD.set {K : PySem.W.Frag} {G : Hp} {l : List (κ × V)} {m : List (κ × D)} (h : KvD K G l m) (k : κ) {v : V} {d : D} (hv : Dp K G v d) : KvD K G (putK l k v) (setK m k d) := by
  unfold putK setK
  rw [h.any k]
  split
  · exact h.map k hv
  · exact h.snoc k hv
theorem KvD.len {K : PySem.W.Frag} {G : Hp} {l : List (κ × V)} {m : List (κ × D)} (h : KvD K G l m) : l.length = m.length := Paired.length h
end
def keyD : D → Option Key
  | .int i => some (.inl i)
  | .str x => some (.inr x)
  | _ => none
theorem keyD_v {K : PySem.W.Frag} {H : Hp} {v : V} {d : D} {k : Key} (e : keyD d = some k) (h : Dp K H v d) : v = kV k := by
  cases h <;> cases e <;> rfl
def keysD : List D → Option (List Key)
  | [] => some []
  | d :: ds => match keyD d, keysD ds with
    | some k, some ks => some (k :: ks)
    | _, _ => none
theorem keysD_v {K : PySem.W.Frag} {H : Hp} : ∀ {ds : List D} {vs : List V} {ks : List Key}, keysD ds = some ks → DpAll K H vs ds → vs = ks.map kV
  | [], _, _, e, h => by
    cases h
    cases e
    rfl
  | d :: ds, _, ks, e, h => by
    cases h with
    | cons h t =>
      unfold keysD at e
      split at e
      · rename_i k ks' e1 e2
        cases e
        rw [keyD_v e1 h, keysD_v e2 t]
        rfl
      · cases e

section
variable {K : PySem.W.Frag} {W : WF} {X : Cx} {a b c : Expr} {f g : EF} {pos : Pos}

/-! ### comparisons -/
def ilt : Int → Int → Er D := fun i j => .ok (.bool (decide (i < j)))
def ile : Int → Int → Er D := fun i j => .ok (.bool (decide (i ≤ j)))
def igt : Int → Int → Er D := fun i j => .ok (.bool (decide (j < i)))
def ige : Int → Int → Er D := fun i j => .ok (.bool (decide (j ≤ i)))
theorem icmp_ok {p : Int → Int → Bool} : OpOk K W (flat2 (int2 fun i j => .ok (.bool (p i j)))) (rI0 fun i j => .bl (p i j)) := int_ok (fun _ _ _ _ e => nomatch e) (fun _ _ _ e => by cases e; rfl) fun H i j f Q e q => ⟨i, j, rfl, rfl, by cases e; exact q _ rfl⟩
def deq (ne : Bool) : D → D → Er D := fun x y => if SeqAt.shaped x = true ∧ SeqAt.shaped y = true then .ok (.bool (if ne then !PyData.eqv x y else PyData.eqv x y)) else .bad
theorem deq_ne {n : Bool} : ∀ x y c p, deq n x y ≠ .exc c p := by
  intro x y c p e
  unfold deq at e
  split at e <;> cases e
theorem ok_eqD : OpOk K W (flat2 (deq false)) (rEqD K) := by
  refine flat_ok deq_ne (fun H x y d e f Q h1 h2 e1 q => ?_) fun d e f e1 => ?_
  · unfold deq at e1
    split at e1
    · rename_i hc
      cases e1
      exact ⟨d, e, h1.l2 (noOb_shaped hc.1), h2.l2 (noOb_shaped hc.2), hc.1, hc.2, q _ rfl⟩
    · cases e1
  · unfold deq at e1
    split at e1
    · cases e1; rfl
    · cases e1
theorem ok_neD : OpOk K W (flat2 (deq true)) (rNeD K) := by
  refine flat_ok deq_ne (fun H x y d e f Q h1 h2 e1 q => ?_) fun d e f e1 => ?_
  · unfold deq at e1
    split at e1
    · rename_i hc
      cases e1
      exact ⟨d, e, h1.l2 (noOb_shaped hc.1), h2.l2 (noOb_shaped hc.2), hc.1, hc.2, q _ rfl⟩
    · cases e1
  · unfold deq at e1
    split at e1
    · cases e1; rfl
    · cases e1
/-- x is None; True is False .. -/
def dis (n : Bool) : D → D → Er D := fun x y => match x, y with
  | .none, .none => .ok (.bool (!n))
  | .bool i, .bool j => .ok (.bool (if n then !decide (i = j) else decide (i = j)))
  | .bool _, .none => .ok (.bool n)
  | .int _, .none => .ok (.bool n)
  | .str _, .none => .ok (.bool n)
  | .list _, .none => .ok (.bool n)
  | .tuple _, .none => .ok (.bool n)
  | .dict _, .none => .ok (.bool n)
  | _, _ => .bad
theorem dis_ne {n : Bool} : ∀ x y c p, dis n x y ≠ .exc c p := by
  intro x y c p e
  unfold dis at e
  split at e <;> cases e
def rIsA : R2 := fun x y H Q => (y = .non ∧ Q (.bl (decide (x = .non))) H) ∨ rIsB x y H Q
def rNotA : R2 := fun x y H Q => (y = .non ∧ Q (.bl (!decide (x = .non))) H) ∨ rNotB x y H Q
theorem op_isA : OpR X (compareOp .Is) rIsA := op_isN.or op_isBl
theorem op_notA : OpR X (compareOp .IsNot) rNotA := op_notN.or op_notBl
theorem ok_is : OpOk K W (flat2 (dis false)) rIsA := by
  refine flat_ok dis_ne (fun H x y d e f Q h1 h2 e1 q => ?_) fun d e f e1 => ?_
  · unfold dis at e1
    split at e1 <;> first | (cases e1; done) | skip
    · cases e1; cases h1; cases h2; exact .inl ⟨rfl, q _ rfl⟩
    · cases e1; cases h1; cases h2; exact .inr ⟨_, _, rfl, rfl, q _ rfl⟩
    all_goals (cases e1; cases h1; cases h2; exact .inl ⟨rfl, q _ rfl⟩)
  · unfold dis at e1
    split at e1 <;> cases e1 <;> rfl
theorem ok_not : OpOk K W (flat2 (dis true)) rNotA := by
  refine flat_ok dis_ne (fun H x y d e f Q h1 h2 e1 q => ?_) fun d e f e1 => ?_
  · unfold dis at e1
    split at e1 <;> first | (cases e1; done) | skip
    · cases e1; cases h1; cases h2; exact .inl ⟨rfl, q _ rfl⟩
    · cases e1; cases h1; cases h2; exact .inr ⟨_, _, rfl, rfl, q _ rfl⟩
    all_goals (cases e1; cases h1; cases h2; exact .inl ⟨rfl, q _ rfl⟩)
  · unfold dis at e1
    split at e1 <;> cases e1 <;> rfl
/-- a bool as a test -/
def Rv.tst : Rv → Er Bool
  | .v (.bool k) => .ok k
  | .b (.bool k) => .ok k
  | .r (.bool k) => .ok k
  | _ => .bad
def tstF (f : EF) : Env → Er Bool := fun ρ => (f ρ).bind Rv.tst
theorem RvOk.tst {H0 : Hp} {h : Hs} {v : V} {a : Rv} {k : Bool} (ok : RvOk K H0 h v a) (e : a.tst = .ok k) : v = .bl k := by
  unfold Rv.tst at e
  split at e
  · cases e; exact dp_bl ok
  · cases e; exact dp_bl ok
  · cases e; exact dp_bl ok
  · cases e
theorem Rv.tst_ne {a : Rv} {c : Str} {p : Option (Str × D)} : a.tst ≠ .exc c p := by
  intro e
  unfold Rv.tst at e
  split at e <;> cases e
theorem tst_now {h : Hs} {ρ : Env} {σ : L2.St} {Q : Bool → Hp → Prop} {H0 : Hp} {v : V} {a : Rv} (q : PT1 K W h ρ σ Q a.tst) (R : Rel K h ρ σ) (ok : RvOk K H0 h v a) : ∃ k, v = .bl k ∧ Q k h.H := by
  cases e : a.tst with
  | ok k =>
    rw [e] at q
    exact ⟨k, ok.tst e, q h R (Gr.refl h)⟩
  | exc c p => exact absurd e Rv.tst_ne
  | bad => rw [e] at q; exact q.elim
theorem tst_of : ∀ σ H Q, tXt K W (tstF f) σ H Q → tTest (tX K W f) σ H Q := by
  intro σ H Q q
  obtain ⟨h, ρ, rfl, R, q⟩ := tXt_iff.mp q
  exact tX_mk R (PE1.bindT q fun a v h1 _ R1 g1 ok1 q1 => tst_now q1 R1 ok1)
theorem tTest_mono {t t' : TE} (i : ∀ σ H Q, t' σ H Q → t σ H Q) : ∀ σ H Q, tTest t' σ H Q → tTest t σ H Q := fun σ H Q q => i σ H _ q
section
variable {op : CmpOp} {r : R2} {φ : Rv → Rv → Er Rv}
theorem xcmp (ho : OpR X (compareOp op) r) (hφ : OpOk X.K W φ r) (ha : PE X a (tX X.K W f)) (hb : PE X b (tX X.K W g)) (hm : behindInMarks op b = false) : PE X (.Compare a [op] [b] pos) (tX X.K W (binF φ f g)) := peTo (pe_cmpR ho ha hb hm) (bin_of hφ)
theorem xtcmp (ho : OpR X (compareOp op) r) (hφ : OpOk X.K W φ r) (ha : PE X a (tX X.K W f)) (hb : PE X b (tX X.K W g)) (hm : behindInMarks op b = false) : PT X (.Compare a [op] [b] pos) (tXt X.K W (tstF (binF φ f g))) :=
  ptTo (pt_cmpR ho ha hb hm) fun σ H Q q => tTest_mono (bin_of hφ) σ H Q (tst_of σ H Q q)
end
abbrev ltR := flat2 (int2 ilt)
abbrev leR := flat2 (int2 ile)
abbrev gtR := flat2 (int2 igt)
abbrev geR := flat2 (int2 ige)
abbrev eqR := flat2 (deq false)
abbrev neR := flat2 (deq true)
abbrev isR := flat2 (dis false)
abbrev notR := flat2 (dis true)
theorem xlt (ha : PE X a (tX X.K W f)) (hb : PE X b (tX X.K W g)) : PE X (.Compare a [.Lt] [b] pos) (tX X.K W (binF ltR f g)) := xcmp op_lt icmp_ok ha hb (nomark _)
theorem xle (ha : PE X a (tX X.K W f)) (hb : PE X b (tX X.K W g)) : PE X (.Compare a [.LtE] [b] pos) (tX X.K W (binF leR f g)) := xcmp op_le icmp_ok ha hb (nomark _)
theorem xgt (ha : PE X a (tX X.K W f)) (hb : PE X b (tX X.K W g)) : PE X (.Compare a [.Gt] [b] pos) (tX X.K W (binF gtR f g)) := xcmp op_gt icmp_ok ha hb (nomark _)
theorem xge (ha : PE X a (tX X.K W f)) (hb : PE X b (tX X.K W g)) : PE X (.Compare a [.GtE] [b] pos) (tX X.K W (binF geR f g)) := xcmp op_ge icmp_ok ha hb (nomark _)
theorem xeq (hu : X.A.units + 64 < cLine) (ha : PE X a (tX X.K W f)) (hb : PE X b (tX X.K W g)) : PE X (.Compare a [.Eq] [b] pos) (tX X.K W (binF eqR f g)) := xcmp (op_eqD hu) ok_eqD ha hb (nomark _)
theorem xne (hu : X.A.units + 64 < cLine) (ha : PE X a (tX X.K W f)) (hb : PE X b (tX X.K W g)) : PE X (.Compare a [.NotEq] [b] pos) (tX X.K W (binF neR f g)) := xcmp (op_neD hu) ok_neD ha hb (nomark _)
theorem xis (ha : PE X a (tX X.K W f)) (hb : PE X b (tX X.K W g)) : PE X (.Compare a [.Is] [b] pos) (tX X.K W (binF isR f g)) := xcmp op_isA ok_is ha hb (nomark _)
theorem xisnot (ha : PE X a (tX X.K W f)) (hb : PE X b (tX X.K W g)) : PE X (.Compare a [.IsNot] [b] pos) (tX X.K W (binF notR f g)) := xcmp op_notA ok_not ha hb (nomark _)
theorem xtlt (ha : PE X a (tX X.K W f)) (hb : PE X b (tX X.K W g)) : PT X (.Compare a [.Lt] [b] pos) (tXt X.K W (tstF (binF ltR f g))) := xtcmp op_lt icmp_ok ha hb (nomark _)
theorem xtle (ha : PE X a (tX X.K W f)) (hb : PE X b (tX X.K W g)) : PT X (.Compare a [.LtE] [b] pos) (tXt X.K W (tstF (binF leR f g))) := xtcmp op_le icmp_ok ha hb (nomark _)
theorem xtgt (ha : PE X a (tX X.K W f)) (hb : PE X b (tX X.K W g)) : PT X (.Compare a [.Gt] [b] pos) (tXt X.K W (tstF (binF gtR f g))) := xtcmp op_gt icmp_ok ha hb (nomark _)
theorem xtge (ha : PE X a (tX X.K W f)) (hb : PE X b (tX X.K W g)) : PT X (.Compare a [.GtE] [b] pos) (tXt X.K W (tstF (binF geR f g))) := xtcmp op_ge icmp_ok ha hb (nomark _)
theorem xteq (hu : X.A.units + 64 < cLine) (ha : PE X a (tX X.K W f)) (hb : PE X b (tX X.K W g)) : PT X (.Compare a [.Eq] [b] pos) (tXt X.K W (tstF (binF eqR f g))) := xtcmp (op_eqD hu) ok_eqD ha hb (nomark _)
theorem xtne (hu : X.A.units + 64 < cLine) (ha : PE X a (tX X.K W f)) (hb : PE X b (tX X.K W g)) : PT X (.Compare a [.NotEq] [b] pos) (tXt X.K W (tstF (binF neR f g))) := xtcmp (op_neD hu) ok_neD ha hb (nomark _)
theorem xtis (ha : PE X a (tX X.K W f)) (hb : PE X b (tX X.K W g)) : PT X (.Compare a [.Is] [b] pos) (tXt X.K W (tstF (binF isR f g))) := xtcmp op_isA ok_is ha hb (nomark _)
theorem xtisnot (ha : PE X a (tX X.K W f)) (hb : PE X b (tX X.K W g)) : PT X (.Compare a [.IsNot] [b] pos) (tXt X.K W (tstF (binF notR f g))) := xtcmp op_notA ok_not ha hb (nomark _)

/-! ### in -/
def flatD : D → Bool
  | .none => true
  | .bool _ => true
  | .int _ => true
  | .str _ => true
  | _ => false
theorem dp_flat {H : Hp} {v : V} {d : D} (h : Dp K H v d) (e : flatD d = true) : flatV v = true := by cases h <;> first | rfl | cases e
theorem dp_flats {H : Hp} : ∀ {vs : List V} {ds : List D}, DpAll K H vs ds → ds.all flatD = true → vs.all flatV = true
  | _, _, .nil, _ => rfl
  | _, _, .cons h t, e => by
    rw [List.all_cons, Bool.and_eq_true] at e
    rw [List.all_cons, dp_flat h e.1, dp_flats t e.2]
    rfl
theorem dp_eqV {H : Hp} {v w : V} {d e : D} (h1 : Dp K H v d) (h2 : Dp K H w e) (f1 : flatD d = true) (f2 : flatD e = true) : eqV v w = PyData.eqv d e := by
  cases h1 <;> first | (cases f1; done) | (cases h2 <;> first | (cases f2; done) | rfl)
theorem dp_inV {H : Hp} {x : V} {e : D} (hx : Dp K H x e) (fx : flatD e = true) : ∀ {vs : List V} {ds : List D}, DpAll K H vs ds → ds.all flatD = true → inV x vs = ds.any fun z => PyData.eqv z e
  | _, _, .nil, _ => rfl
  | _, _, .cons h t, f => by
    rw [List.all_cons, Bool.and_eq_true] at f
    have ih := dp_inV hx fx t f.2
    unfold inV at ih ⊢
    rw [List.any_cons, List.any_cons, ih, dp_eqV h hx f.1 fx]
def Rv.seq (a : Rv) : Option (List D) := match a.dat with
  | some (.list xs) => some xs
  | some (.tuple xs) => some xs
  | _ => none
theorem RvOk.seq {H0 : Hp} {h : Hs} {v : V} {a : Rv} {xs : List D} (c : Ch h) (ok : RvOk K H0 h v a) (e : a.seq = some xs) : ∃ p vs, v = .ref p ∧ (SqL K h.H p vs ∨ SqT K h.H p vs) ∧ DpAll K h.H vs xs := by
  unfold Rv.seq at e
  split at e
  · rename_i ys e1
    cases e
    obtain ⟨p, vs, rfl, s, d⟩ := dp_lst (ok.dp c e1)
    exact ⟨p, vs, rfl, .inl s, d⟩
  · rename_i ys e1
    cases e
    obtain ⟨p, vs, rfl, s, d⟩ := dp_tup (ok.dp c e1)
    exact ⟨p, vs, rfl, .inr s, d⟩
  · cases e
def inSeq (n : Bool) (a b : Rv) : Er Rv := match a.dat, b.seq with
  | some x, some ys => if flatD x = true ∧ ys.all flatD = true then .ok (.v (.bool (if n then !(ys.any fun z => PyData.eqv z x) else ys.any fun z => PyData.eqv z x))) else .bad
  | _, _ => .bad
theorem ok_inSeq {n : Bool} : OpOk K W (inSeq n) (rIn K n) := by
  intro h0 h ρ σ x y a b Q R0 R g oka okb q
  unfold inSeq at q
  split at q
  · rename_i d ys ea eb
    split at q
    · rename_i hc
      obtain ⟨p, vs, rfl, s, da⟩ := okb.seq R.ch eb
      have hx := oka.dp R.ch ea
      refine ⟨p, vs, rfl, s, dp_flat hx hc.1, dp_flats da hc.2, ?_⟩
      rw [dp_inV hx hc.1 da hc.2]
      exact q.now R (.bl _)
    · exact q.elim
  · exact q.elim
def inStr (n : Bool) : D → D → Er D := fun x y => match x, y with
  | .str i, .str j => .ok (.bool (if n then !(!(Builtin.Str.occurrences j i 0 j.length 1).isEmpty) else !(Builtin.Str.occurrences j i 0 j.length 1).isEmpty))
  | _, _ => .bad
def rInStr (n : Bool) : R2 := fun x y H Q => ∃ i j, x = .str i ∧ y = .str j ∧ Q (.bl (if n then !(!(Builtin.Str.occurrences j i 0 j.length 1).isEmpty) else !(Builtin.Str.occurrences j i 0 j.length 1).isEmpty)) H
theorem ok_inStr {n : Bool} : OpOk K W (flat2 (inStr n)) (rInStr n) := by
  refine flat_ok (fun x y c p e => ?_) (fun H x y d e f Q h1 h2 e1 q => ?_) fun d e f e1 => ?_
  · unfold inStr at e; split at e <;> cases e
  · unfold inStr at e1
    split at e1
    · cases e1; exact ⟨_, _, dp_str h1, dp_str h2, q _ rfl⟩
    · cases e1
  · unfold inStr at e1
    split at e1
    · cases e1; rfl
    · cases e1
/-- a key is asked of an own dict -/
def inDic (n : Bool) (a b : Rv) : Er Rv := match b with
  | .wk kvs => match a.dat.bind keyD with
    | some k => .ok (.v (.bool (if n then !(getK kvs k).isSome else (getK kvs k).isSome)))
    | none => .bad
  | _ => .bad
/-- what stands at a key -/
theorem dget_ok {h : Hs} {H0 : Hp} {x y : V} {a : Rv} {kvs : List (Key × D)} {k : Key} (c : Ch h) (e : a.dat.bind keyD = some k) (oka : RvOk K H0 h y a) (okb : RvOk K H0 h x (.wk kvs)) :
    ∃ p o, x = .ref p ∧ DGet h.H p y o ∧ ((∃ v d, o = some v ∧ getK kvs k = some d ∧ Dp K h.G v d) ∨ (o = none ∧ getK kvs k = none)) := by
  obtain ⟨d, e1, e2⟩ := Option.bind_eq_some_iff.mp e
  have ey := keyD_v e2 (oka.dp c e1)
  subst ey
  obtain ⟨l, vs, rfl, hl, kd⟩ := okb
  refine ⟨l, valV vs k, rfl, DGet.k hl, ?_⟩
  rcases kd.get k with ⟨v, d, e3, e4, e5⟩ | ⟨e3, e4⟩
  · exact .inl ⟨v, d, e3, e4, e5⟩
  · exact .inr ⟨e3, e4⟩
theorem xin_of {n : Bool} : ∀ σ H Q, tX K W (binF (alt (inDic n) (alt (inSeq n) (flat2 (inStr n)))) f g) σ H Q →
    (fun σ H Q => tX K W f σ H fun y H1 => tX K W g σ H1 fun x H2 => ∃ a o, x = .ref a ∧ DGet H2 a y o ∧ Q (.bl (if n then !o.isSome else o.isSome)) H2) σ H Q ∨
    tOp (fun x y H Q => rIn K n x y H Q ∨ rInStr n x y H Q) (tX K W f) (tX K W g) σ H Q := by
  intro σ H Q q
  have q0 := q
  obtain ⟨h, ρ, rfl, R, q⟩ := tX_iff.mp q
  -- is the second one a dict
  have e0 : (∀ a, f ρ = .ok a → ∀ kvs, g ρ = .ok (.wk kvs) → inDic n a (.wk kvs) = .bad) ∨ ∃ a kvs, f ρ = .ok a ∧ g ρ = .ok (.wk kvs) ∧ inDic n a (.wk kvs) ≠ .bad := by
    by_cases z : ∃ a kvs, f ρ = .ok a ∧ g ρ = .ok (.wk kvs) ∧ inDic n a (.wk kvs) ≠ .bad
    · exact .inr z
    · exact .inl fun a ea kvs eg => Classical.byContradiction fun y => z ⟨a, kvs, ea, eg, y⟩
  rcases e0 with e0 | ⟨a, kvs, ea, eg, e0⟩
  · refine .inr (tX_mk R (q.bind fun a y h1 ea R1 g1 ok1 q1 => tX_mk R1 (q1.bind fun b x h2 eb R2 g2 ok2 q2 => ?_)))
    have e1 : inDic n a b = .bad := by
      cases b with
      | wk kvs => exact e0 a ea kvs eb
      | _ => rfl
    have e2 : alt (inDic n) (alt (inSeq n) (flat2 (inStr n))) a b = alt (inSeq n) (flat2 (inStr n)) a b := by
      unfold Sq.alt
      rw [e1]
    rw [e2] at q2
    exact (ok_inSeq.alt ok_inStr) h h2 ρ σ y x a b Q R R2 (g1.trans g2) (ok1.grow g2) (ok2.old g1.x) q2
  · refine .inl (tX_mk R (q.bind fun a' y h1 ea' R1 g1 ok1 q1 => tX_mk R1 (q1.bind fun b x h2 eb R2 g2 ok2 q2 => ?_)))
    rw [ea] at ea'
    cases ea'
    rw [eg] at eb
    cases eb
    have e2 : alt (inDic n) (alt (inSeq n) (flat2 (inStr n))) a (.wk kvs) = inDic n a (.wk kvs) := by
      unfold Sq.alt
      cases q : inDic n a (.wk kvs) with
      | bad => exact absurd q e0
      | ok _ => rfl
      | exc _ _ => rfl
    rw [e2] at q2
    cases ek : a.dat.bind keyD with
    | none =>
      unfold inDic at e0
      rw [ek] at e0
      exact absurd rfl e0
    | some k =>
      obtain ⟨p, o, ex, dg, ho⟩ := dget_ok R2.ch ek (ok1.grow g2) ok2
      refine ⟨p, o, ex, dg, ?_⟩
      unfold inDic at q2
      dsimp only at q2
      rw [ek] at q2
      have eo : o.isSome = (getK kvs k).isSome := by
        rcases ho with ⟨v, d, e3, e4, _⟩ | ⟨e3, e4⟩
        · rw [e3, e4]; rfl
        · rw [e3, e4]; rfl
      rw [eo]
      exact q2.now R2 (.bl _)
abbrev inR (n : Bool) := alt (inDic n) (alt (inSeq n) (flat2 (inStr n)))
theorem xin (hu : X.A.units + 1 < cLine) (ha : PE X a (tX X.K W f)) (hb : PE X b (tX X.K W g)) (hm : behindInMarks .In b = false := by first | exact nobehind _ (by decide) (by decide) | rfl) : PE X (.Compare a [.In] [b] pos) (tX X.K W (binF (inR false) f g)) :=
  peTo (peOr (pe_cmp (pc_din hu ha hb) hm) (pe_cmpR (op_in_seq.or op_in_str) ha hb hm)) xin_of
theorem xnotin (hu : X.A.units + 1 < cLine) (ha : PE X a (tX X.K W f)) (hb : PE X b (tX X.K W g)) (hm : behindInMarks .NotIn b = false := by first | exact nobehind _ (by decide) (by decide) | rfl) : PE X (.Compare a [.NotIn] [b] pos) (tX X.K W (binF (inR true) f g)) :=
  peTo (peOr (pe_cmp (pc_dnotin hu ha hb) hm) (pe_cmpR (op_notIn_seq.or op_notIn_str) ha hb hm)) xin_of
theorem xtin (hu : X.A.units + 1 < cLine) (ha : PE X a (tX X.K W f)) (hb : PE X b (tX X.K W g)) (hm : behindInMarks .In b = false := by first | exact nobehind _ (by decide) (by decide) | rfl) : PT X (.Compare a [.In] [b] pos) (tXt X.K W (tstF (binF (inR false) f g))) :=
  ptTo (ptOr (pt_cmp (pc_din hu ha hb) hm) (pt_cmpR (op_in_seq.or op_in_str) ha hb hm)) fun σ H Q q => xin_of (n := false) σ H _ (tst_of σ H Q q)
theorem xtnotin (hu : X.A.units + 1 < cLine) (ha : PE X a (tX X.K W f)) (hb : PE X b (tX X.K W g)) (hm : behindInMarks .NotIn b = false := by first | exact nobehind _ (by decide) (by decide) | rfl) : PT X (.Compare a [.NotIn] [b] pos) (tXt X.K W (tstF (binF (inR true) f g))) :=
  ptTo (ptOr (pt_cmp (pc_dnotin hu ha hb) hm) (pt_cmpR (op_notIn_seq.or op_notIn_str) ha hb hm)) fun σ H Q q => xin_of (n := true) σ H _ (tst_of σ H Q q)
end
end Sq

/-! and, or, not, if; displays; subscripts. -/
namespace Sq
open PySem PySem.Spec PyProof.Rows L2
section
variable {K : PySem.W.Frag} {W : WF} {X : Cx} {a b c : Expr} {f g k : EF} {t u : Env → Er Bool} {pos : Pos} {rest : List Expr}

def andF (f g : EF) : EF := fun ρ => (f ρ).bind fun a => a.tst.bind fun k => if k = true then g ρ else .ok (.v (.bool false))
def orF (f g : EF) : EF := fun ρ => (f ρ).bind fun a => a.tst.bind fun k => if k = true then .ok (.v (.bool true)) else g ρ
def notF (f : EF) : EF := fun ρ => (f ρ).bind fun a => a.tst.bind fun k => .ok (.v (.bool (!k)))
theorem tst_nowE {h : Hs} {ρ : Env} {σ : L2.St} {Q : VK} {H0 : Hp} {v : V} {a : Rv} {k : Bool → Er Rv} (q : PE1 K W h ρ σ Q (a.tst.bind k)) (ok : RvOk K H0 h v a) : ∃ c, v = .bl c ∧ PE1 K W h ρ σ Q (k c) := by
  cases e : a.tst with
  | ok c =>
    rw [e] at q
    exact ⟨c, ok.tst e, q⟩
  | exc c p => exact absurd e Rv.tst_ne
  | bad => rw [e] at q; exact q.elim
theorem xand (ha : PE X a (tX X.K W f)) (hb : PE X (.BoolOp .And (b :: rest) pos) (tX X.K W g)) : PE X (.BoolOp .And (a :: b :: rest) pos) (tX X.K W (andF f g)) := by
  refine peTo (pe_and ha hb) fun σ H Q q => ?_
  obtain ⟨h, ρ, rfl, R, q⟩ := tX_iff.mp q
  refine tX_mk R (q.bind fun a v h1 _ R1 g1 ok1 q1 => ?_)
  obtain ⟨c, ev, q2⟩ := tst_nowE q1 ok1
  refine ⟨c, ev, ?_⟩
  cases c with
  | true => exact tX_mk R1 q2
  | false => exact q2.now R1 (.bl _)
theorem xor (ha : PE X a (tX X.K W f)) (hb : PE X (.BoolOp .Or (b :: rest) pos) (tX X.K W g)) : PE X (.BoolOp .Or (a :: b :: rest) pos) (tX X.K W (orF f g)) := by
  refine peTo (pe_or ha hb) fun σ H Q q => ?_
  obtain ⟨h, ρ, rfl, R, q⟩ := tX_iff.mp q
  refine tX_mk R (q.bind fun a v h1 _ R1 g1 ok1 q1 => ?_)
  obtain ⟨c, ev, q2⟩ := tst_nowE q1 ok1
  refine ⟨c, ev, ?_⟩
  cases c with
  | true => exact q2.now R1 (.bl _)
  | false => exact tX_mk R1 q2
theorem xone {op} (ha : PE X a (tX X.K W f)) : PE X (.BoolOp op [a] pos) (tX X.K W f) := pe_one ha
theorem xnot (ha : PE X a (tX X.K W f)) : PE X (.UnaryOp .Not a pos) (tX X.K W (notF f)) := by
  refine peTo (pe_not ha) fun σ H Q q => ?_
  obtain ⟨h, ρ, rfl, R, q⟩ := tX_iff.mp q
  refine tX_mk R (q.bind fun a v h1 _ R1 g1 ok1 q1 => ?_)
  obtain ⟨c, ev, q2⟩ := tst_nowE q1 ok1
  exact ⟨c, ev, q2.now R1 (.bl _)⟩
/-! tests -/
theorem xtval {e : Expr} (h : PE X e (tX X.K W f)) (he : ∀ whole, isTrue e X.env whole = (do let v ← whole; standAt e.pos; holding [v] (truthy v)) := by intro _; rfl) : PT X e (tXt X.K W (tstF f)) := ptTo (pt_val h he) tst_of
def andT (t u : Env → Er Bool) : Env → Er Bool := fun ρ => (t ρ).bind fun k => if k = true then u ρ else .ok false
def orT (t u : Env → Er Bool) : Env → Er Bool := fun ρ => (t ρ).bind fun k => if k = true then .ok true else u ρ
def notT (t : Env → Er Bool) : Env → Er Bool := fun ρ => (t ρ).bind fun k => .ok (!k)
theorem xwand1 (ha : PT X a (tXt X.K W t)) : PW X (.BoolOp .And [a] pos) (tXt X.K W t) := pw_and1 ha
theorem xwor1 (ha : PT X a (tXt X.K W t)) : PW X (.BoolOp .Or [a] pos) (tXt X.K W t) := pw_or1 ha
theorem xwand (ha : PT X a (tXt X.K W t)) (hb : PW X (.BoolOp .And (b :: rest) pos) (tXt X.K W u)) : PW X (.BoolOp .And (a :: b :: rest) pos) (tXt X.K W (andT t u)) := by
  refine pwTo (pw_and ha hb) fun σ H Q q => ?_
  obtain ⟨h, ρ, rfl, R, q⟩ := tXt_iff.mp q
  refine tXt_mk R (q.bindT fun k h1 _ R1 g1 q1 => ?_)
  cases k with
  | true => exact tXt_mk R1 q1
  | false => exact q1 h1 R1 (Gr.refl _)
theorem xwor (ha : PT X a (tXt X.K W t)) (hb : PW X (.BoolOp .Or (b :: rest) pos) (tXt X.K W u)) : PW X (.BoolOp .Or (a :: b :: rest) pos) (tXt X.K W (orT t u)) := by
  refine pwTo (pw_or ha hb) fun σ H Q q => ?_
  obtain ⟨h, ρ, rfl, R, q⟩ := tXt_iff.mp q
  refine tXt_mk R (q.bindT fun k h1 _ R1 g1 q1 => ?_)
  cases k with
  | true => exact q1 h1 R1 (Gr.refl _)
  | false => exact tXt_mk R1 q1
theorem xtnot (ha : PT X a (tXt X.K W t)) : PT X (.UnaryOp .Not a pos) (tXt X.K W (notT t)) := by
  refine ptTo (pt_not ha) fun σ H Q q => ?_
  obtain ⟨h, ρ, rfl, R, q⟩ := tXt_iff.mp q
  exact tXt_mk R (q.bindT fun k h1 _ R1 g1 q1 => q1 h1 R1 (Gr.refl _))
/-- truth of data -/
def Rv.tru (a : Rv) : Er Bool := match a.dat with
  | some .none => .ok false
  | some (.bool k) => .ok k
  | some (.int i) => .ok (i != 0)
  | some (.str s) => if s.length ≤ 100000 then .ok (s.length != 0) else .bad
  | some (.list xs) => .ok (!xs.isEmpty)
  | some (.tuple xs) => .ok (!xs.isEmpty)
  | _ => .bad
def ifF (t : Env → Er Bool) (f g : EF) : EF := fun ρ => (t ρ).bind fun k => if k = true then f ρ else g ρ
theorem xif (hc : PT X c (tXt X.K W t)) (ha : PE X a (tX X.K W f)) (hb : PE X b (tX X.K W g)) : PE X (.IfExp c a b pos) (tX X.K W (ifF t f g)) := by
  refine peTo (pe_ifExp hc ha hb) fun σ H Q q => ?_
  obtain ⟨h, ρ, rfl, R, q⟩ := tX_iff.mp q
  refine tXt_mk R (PT1.bind q fun k h1 _ R1 g1 q1 => ?_)
  cases k with
  | true => exact tX_mk R1 q1
  | false => exact tX_mk R1 q1

/-! ### several expressions, each frozen -/
def RvF (K : PySem.W.Frag) (h : Hs) (v : V) : Rv → Prop
  | .v d => Dp K h.G v d
  | .b d => Dp K h.F v d
  | .r d => Dp K h.H v d
  | _ => False
theorem RvF.grow {h h' : Hs} {v : V} (g : Gr h h') : ∀ {r : Rv}, RvF K h v r → RvF K h' v r
  | .v d, q => ex_dp g.g q
  | .b d, q => ex_dp g.f q
  | .r d, q => ex_dp g.x q
  | .w _, q => q
  | .o _, q => q
  | .wk _, q => q
  | .ok _, q => q
  | .wt _, q => q
  | .wn _, q => q
  | .ot _, q => q
  | .on _, q => q
  | .p2 _ _, q => q
  | .sj _ _ _ _, q => q
  | .wi _ _, q => q
  | .oi _ _, q => q
theorem RvF.of {H0 : Hp} {h : Hs} {v : V} {a a' : Rv} (e : a.frz = .ok a') (ok : RvOk K H0 h v a') : RvF K h v a' := by
  cases a <;> cases e <;> exact ok
theorem RvF.dp {h : Hs} {v : V} {r : Rv} (c : Ch h) (q : RvF K h v r) : ∃ d, r.dat = some d ∧ Dp K h.H v d := by
  cases r with
  | v d => exact ⟨d, rfl, ex_dp c.gh q⟩
  | b d => exact ⟨d, rfl, ex_dp c.fh q⟩
  | r d => exact ⟨d, rfl, q⟩
  | _ => exact q.elim
def RvsOk (K : PySem.W.Frag) (h : Hs) : List V → List Rv → Prop
  | [], [] => True
  | v :: vs, r :: rs => RvF K h v r ∧ RvsOk K h vs rs
  | _, _ => False
theorem RvsOk.grow {h h' : Hs} (g : Gr h h') : ∀ {vs : List V} {rs : List Rv}, RvsOk K h vs rs → RvsOk K h' vs rs
  | [], [], _ => trivial
  | _ :: _, _ :: _, ⟨a, b⟩ => ⟨a.grow g, b.grow g⟩
  | [], _ :: _, q => q
  | _ :: _, [], q => q
theorem RvsOk.len {h : Hs} : ∀ {vs : List V} {rs : List Rv}, RvsOk K h vs rs → vs.length = rs.length
  | [], [], _ => rfl
  | _ :: _, _ :: _, ⟨a, b⟩ => congrArg (· + 1) b.len
  | [], _ :: _, q => q.elim
  | _ :: _, [], q => q.elim
abbrev AF := Env → Er (List Rv)
def aNil : AF := fun _ => .ok []
def aCons (f : EF) (r : AF) : AF := fun ρ => (f ρ).bind fun a => a.frz.bind fun a' => (r ρ).bind fun as => .ok (a' :: as)
def PA1 (K : PySem.W.Frag) (W : WF) (h : Hs) (ρ : Env) (σ : L2.St) (Q : List V → Hp → Prop) : Er (List Rv) → Prop
  | .ok rs => ∀ vs h', Rel K h' ρ σ → Gr h h' → RvsOk K h' vs rs → Q vs h'.H
  | .exc c p => ∀ h', Rel K h' ρ σ → Gr h h' → W c p σ h'
  | .bad => False
def tXa (K : PySem.W.Frag) (W : WF) (f : AF) : TA := fun σ H Q => ∃ h ρ, h.H = H ∧ Rel K h ρ σ ∧ PA1 K W h ρ σ Q (f ρ)
theorem PA1.shift {h h1 : Hs} {ρ : Env} {σ : L2.St} {Q : List V → Hp → Prop} (g : Gr h h1) : ∀ {e : Er (List Rv)}, PA1 K W h ρ σ Q e → PA1 K W h1 ρ σ Q e
  | .ok r, q => fun v h' R g' ok => q v h' R (g.trans g') ok
  | .exc c p, q => fun h' R g' => q h' R (g.trans g')
  | .bad, q => q
theorem PA1.bindE {h : Hs} {ρ : Env} {σ : L2.St} {QA : List V → Hp → Prop} {e : Er Rv} {k : Rv → Er (List Rv)} (q : PA1 K W h ρ σ QA (e.bind k)) {Q' : VK}
    (hk : ∀ a v h', e = .ok a → Rel K h' ρ σ → Gr h h' → RvOk K h.H h' v a → PA1 K W h' ρ σ QA (k a) → Q' v h'.H) : PE1 K W h ρ σ Q' e := by
  cases e with
  | ok a => exact fun v h' R g ok => hk a v h' rfl R g ok (PA1.shift g q)
  | exc c p => exact q
  | bad => exact q
theorem PA1.bindA {h : Hs} {ρ : Env} {σ : L2.St} {QA : List V → Hp → Prop} {e : Er (List Rv)} {k : List Rv → Er (List Rv)} (q : PA1 K W h ρ σ QA (e.bind k)) {Q' : List V → Hp → Prop}
    (hk : ∀ a v h', e = .ok a → Rel K h' ρ σ → Gr h h' → RvsOk K h' v a → PA1 K W h' ρ σ QA (k a) → Q' v h'.H) : PA1 K W h ρ σ Q' e := by
  cases e with
  | ok a => exact fun v h' R g ok => hk a v h' rfl R g ok (PA1.shift g q)
  | exc c p => exact q
  | bad => exact q
theorem PE1.bindA {h : Hs} {ρ : Env} {σ : L2.St} {Q : VK} {e : Er (List Rv)} {k : List Rv → Er Rv} (q : PE1 K W h ρ σ Q (e.bind k)) {Q' : List V → Hp → Prop}
    (hk : ∀ a v h', e = .ok a → Rel K h' ρ σ → Gr h h' → RvsOk K h' v a → PE1 K W h' ρ σ Q (k a) → Q' v h'.H) : PA1 K W h ρ σ Q' e := by
  cases e with
  | ok a => exact fun v h' R g ok => hk a v h' rfl R g ok (PE1.shift g q)
  | exc c p => exact q
  | bad => exact q
theorem frz_ne {a : Rv} {c : Str} {p : Option (Str × D)} : a.frz ≠ .exc c p := by
  intro e
  cases a <;> cases e
theorem xanil : PA X [] (tXa X.K W aNil) := paTo pa_nil fun σ H Q ⟨h, ρ, e, R, q⟩ => by
  subst e
  exact q [] h R (Gr.refl _) trivial
theorem xacons {e : Expr} {es : List Expr} {r : AF} (ha : PE X e (tX X.K W f)) (hr : PA X es (tXa X.K W r)) (hs : starEach (e :: es) X.env = (false, eval e X.env) :: starEach es X.env := by rfl) : PA X (e :: es) (tXa X.K W (aCons f r)) := by
  refine paTo (pa_cons ha hr hs) fun σ H Q q => ?_
  obtain ⟨h, ρ, rfl, R, q⟩ := q
  refine tX_mk R (PA1.bindE q fun a v h1 _ R1 g1 ok1 q1 => ?_)
  cases ez : a.frz with
  | exc c p => exact absurd ez frz_ne
  | bad => rw [ez] at q1; exact q1.elim
  | ok a' =>
    rw [ez] at q1
    obtain ⟨h2, eh, R2, g2, ok2⟩ := frz_ok R R1 g1 ez ok1
    rw [← eh]
    -- what follows, from h2: q says it from h
    have q2 : PA1 X.K W h2 ρ σ Q ((r ρ).bind fun as => .ok (a' :: as)) := by
      have q0 : PA1 X.K W h ρ σ Q ((r ρ).bind fun as => .ok (a' :: as)) := by
        have e0 : aCons f r ρ = (r ρ).bind fun as => .ok (a' :: as) := by
          unfold aCons
          rw [show f ρ = .ok a by assumption]
          show (a.frz.bind _) = _
          rw [ez]
          rfl
        rw [e0] at q
        exact q
      exact PA1.shift g2 q0
    refine ⟨h2, ρ, rfl, R2, PA1.bindA q2 fun as vs h3 _ R3 g3 ok3 q3 => ?_⟩
    exact q3 _ h3 R3 (Gr.refl _) ⟨(RvF.of ez ok2).grow g3, ok3⟩
end
end Sq

/-! Displays, subscripts, calls of what is built in. -/
namespace Sq
open PySem PySem.Spec PyProof.Rows L2
section
variable {K : PySem.W.Frag} {W : WF} {X : Cx} {a b c e : Expr} {es : List Expr} {f g k : EF} {r : AF} {pos p : Pos}

/-! ### displays -/
def allV : List Rv → Option (List D)
  | [] => some []
  | .v d :: rs => (allV rs).map (d :: ·)
  | _ => none
def allB : List Rv → Option (List D)
  | [] => some []
  | .v d :: rs => (allB rs).map (d :: ·)
  | .b d :: rs => (allB rs).map (d :: ·)
  | _ => none
def allR : List Rv → Option (List D)
  | [] => some []
  | .v d :: rs => (allR rs).map (d :: ·)
  | .b d :: rs => (allR rs).map (d :: ·)
  | .r d :: rs => (allR rs).map (d :: ·)
  | _ => none
theorem allV_ok {h : Hs} (ch : Ch h) : ∀ {vs : List V} {rs : List Rv} {ds : List D}, allV rs = some ds → RvsOk K h vs rs → DpAll K h.G vs ds
  | [], [], _, e, _ => by cases e; exact .nil
  | _ :: _, .v d :: rs, ds, e, ⟨a, b⟩ => by
    obtain ⟨ds', e1, rfl⟩ := Option.map_eq_some_iff.mp e
    exact .cons a (allV_ok ch e1 b)
  | _ :: _, .b _ :: _, _, e, _ => by cases e
  | _ :: _, .r _ :: _, _, e, _ => by cases e
  | _ :: _, .w _ :: _, _, e, _ => by cases e
  | _ :: _, .o _ :: _, _, e, _ => by cases e
  | _ :: _, .wk _ :: _, _, e, _ => by cases e
  | _ :: _, .ok _ :: _, _, e, _ => by cases e
  | _ :: _, .wt _ :: _, _, e, _ => by cases e
  | _ :: _, .wn _ :: _, _, e, _ => by cases e
  | _ :: _, .ot _ :: _, _, e, _ => by cases e
  | _ :: _, .on _ :: _, _, e, _ => by cases e
  | _ :: _, .p2 _ _ :: _, _, e, _ => by cases e
  | _ :: _, .sj _ _ _ _ :: _, _, e, _ => by cases e
  | _ :: _, .wi _ _ :: _, _, e, _ => by cases e
  | _ :: _, .oi _ _ :: _, _, e, _ => by cases e
  | [], _ :: _, _, _, q => q.elim
  | _ :: _, [], _, _, q => q.elim
theorem allB_ok {h : Hs} (ch : Ch h) : ∀ {vs : List V} {rs : List Rv} {ds : List D}, allB rs = some ds → RvsOk K h vs rs → DpAll K h.F vs ds
  | [], [], _, e, _ => by cases e; exact .nil
  | _ :: _, .v d :: rs, ds, e, ⟨a, b⟩ => by
    obtain ⟨ds', e1, rfl⟩ := Option.map_eq_some_iff.mp e
    exact .cons (ex_dp ch.gf a) (allB_ok ch e1 b)
  | _ :: _, .b d :: rs, ds, e, ⟨a, b⟩ => by
    obtain ⟨ds', e1, rfl⟩ := Option.map_eq_some_iff.mp e
    exact .cons a (allB_ok ch e1 b)
  | _ :: _, .r _ :: _, _, e, _ => by cases e
  | _ :: _, .w _ :: _, _, e, _ => by cases e
  | _ :: _, .o _ :: _, _, e, _ => by cases e
  | _ :: _, .wk _ :: _, _, e, _ => by cases e
  | _ :: _, .ok _ :: _, _, e, _ => by cases e
  | _ :: _, .wt _ :: _, _, e, _ => by cases e
  | _ :: _, .wn _ :: _, _, e, _ => by cases e
  | _ :: _, .ot _ :: _, _, e, _ => by cases e
  | _ :: _, .on _ :: _, _, e, _ => by cases e
  | _ :: _, .p2 _ _ :: _, _, e, _ => by cases e
  | _ :: _, .sj _ _ _ _ :: _, _, e, _ => by cases e
  | _ :: _, .wi _ _ :: _, _, e, _ => by cases e
  | _ :: _, .oi _ _ :: _, _, e, _ => by cases e
  | [], _ :: _, _, _, q => q.elim
  | _ :: _, [], _, _, q => q.elim
theorem allR_ok {h : Hs} (ch : Ch h) : ∀ {vs : List V} {rs : List Rv} {ds : List D}, allR rs = some ds → RvsOk K h vs rs → DpAll K h.H vs ds
  | [], [], _, e, _ => by cases e; exact .nil
  | _ :: _, .v d :: rs, ds, e, ⟨a, b⟩ => by
    obtain ⟨ds', e1, rfl⟩ := Option.map_eq_some_iff.mp e
    exact .cons (ex_dp ch.gh a) (allR_ok ch e1 b)
  | _ :: _, .b d :: rs, ds, e, ⟨a, b⟩ => by
    obtain ⟨ds', e1, rfl⟩ := Option.map_eq_some_iff.mp e
    exact .cons (ex_dp ch.fh a) (allR_ok ch e1 b)
  | _ :: _, .r d :: rs, ds, e, ⟨a, b⟩ => by
    obtain ⟨ds', e1, rfl⟩ := Option.map_eq_some_iff.mp e
    exact .cons a (allR_ok ch e1 b)
  | _ :: _, .w _ :: _, _, e, _ => by cases e
  | _ :: _, .o _ :: _, _, e, _ => by cases e
  | _ :: _, .wk _ :: _, _, e, _ => by cases e
  | _ :: _, .ok _ :: _, _, e, _ => by cases e
  | _ :: _, .wt _ :: _, _, e, _ => by cases e
  | _ :: _, .wn _ :: _, _, e, _ => by cases e
  | _ :: _, .ot _ :: _, _, e, _ => by cases e
  | _ :: _, .on _ :: _, _, e, _ => by cases e
  | _ :: _, .p2 _ _ :: _, _, e, _ => by cases e
  | _ :: _, .sj _ _ _ _ :: _, _, e, _ => by cases e
  | _ :: _, .wi _ _ :: _, _, e, _ => by cases e
  | _ :: _, .oi _ _ :: _, _, e, _ => by cases e
  | [], _ :: _, _, _, q => q.elim
  | _ :: _, [], _, _, q => q.elim
def tupR (rs : List Rv) : Er Rv := if rs.length ≤ 1000 then (match allV rs with
  | some ds => .ok (.v (.tuple ds))
  | none => match allB rs with
    | some ds => .ok (.b (.tuple ds))
    | none => match allR rs with
      | some ds => .ok (.r (.tuple ds))
      | none => .bad) else .bad
def tupF (r : AF) : EF := fun ρ => (r ρ).bind tupR
theorem xtup {x1} (h : PA X es (tXa X.K W r)) : PE X (.Tuple es x1 pos) (tX X.K W (tupF r)) := by
  refine peTo (pe_tupF h) fun σ H Q q => ?_
  obtain ⟨h, ρ, rfl, R, q⟩ := tX_iff.mp q
  refine ⟨h, ρ, rfl, R, PE1.bindA q fun rs vs h1 _ R1 g1 ok1 q1 => ?_⟩
  unfold tupR at q1
  split at q1
  · refine ⟨by rw [ok1.len]; exact sz100 (by omega), fun p H' hp nt => ?_⟩
    split at q1
    · rename_i e
      exact q1.newT R1 (allV_ok R1.ch e ok1) hp nt
    · split at q1
      · rename_i e
        exact q1.newTB R1 (allB_ok R1.ch e ok1) hp nt
      · split at q1
        · rename_i e
          exact q1.newTR R1 (allR_ok R1.ch e ok1) hp nt
        · exact q1.elim
  · exact q1.elim
def lstR (rs : List Rv) : Er Rv := if rs.length ≤ 1000 then (match allV rs with
  | some ds => .ok (.o ds)
  | none => match allB rs with
    | some ds => .ok (.b (.list ds))
    | none => .bad) else .bad
def lstF (r : AF) : EF := fun ρ => (r ρ).bind lstR
theorem PE1.newLB {h : Hs} {ρ : Env} {σ : L2.St} {Q : VK} {xs : List D} {vs : List V} (q : PE1 K W h ρ σ Q (.ok (.b (.list xs)))) (R : Rel K h ρ σ) (d : DpAll K h.F vs xs) {p : Addr} (hp : h.H p = none) : Q (.ref p) (upd h.H p (.lst vs)) :=
  q _ _ (R.newB hp) (Gr.newB R.ch hp) (Dp.lst (SqL.of upd_same) (ex_dpa (Ex.new (R.ch.fN hp)) d))
theorem xlst (h : PA X es (tXa X.K W r)) : PE X (.List es pos) (tX X.K W (lstF r)) := by
  refine peTo (pe_lst h) fun σ H Q q => ?_
  obtain ⟨h, ρ, rfl, R, q⟩ := tX_iff.mp q
  refine ⟨h, ρ, rfl, R, PE1.bindA q fun rs vs h1 _ R1 g1 ok1 q1 => ?_⟩
  unfold lstR at q1
  split at q1
  · refine ⟨by rw [ok1.len]; exact sz100 (by omega), fun p hp => ?_⟩
    split at q1
    · rename_i e
      exact q1.newL R1 (allV_ok R1.ch e ok1) hp
    · split at q1
      · rename_i e
        exact q1.newLB R1 (allB_ok R1.ch e ok1) hp
      · exact q1.elim
  · exact q1.elim
/-- {} -/
theorem xdnew : PE X (.Dict [] [] pos) (tX X.K W (fun _ => .ok (.ok []))) := by
  refine peTo pe_dnewK fun σ H Q q => ?_
  obtain ⟨h, ρ, rfl, R, q⟩ := tX_iff.mp q
  exact fun p hp => q _ _ (R.newO hp) (Gr.newO R.ch hp) ⟨p, [], rfl, hp, upd_same, R.ch.fN hp, .nil⟩

/-! ### subscripts -/
/-- an item of a list or tuple, as its holder is -/
def Rv.item : Rv → Int → Option Rv
  | .v (.tuple xs), i => (atI xs i).map .v
  | .v (.list xs), i => (atI xs i).map .v
  | .b (.tuple xs), i => (atI xs i).map .b
  | .b (.list xs), i => (atI xs i).map .b
  | .r (.tuple xs), i => (atI xs i).map .r
  | .r (.list xs), i => (atI xs i).map .r
  | .w xs, i => (atI xs i).map .v
  | .o xs, i => (atI xs i).map .v
  | _, _ => none
def ixSeq (a i : Rv) : Er Rv := match i.dat with
  | some (.int z) => match a.item z with
    | some r => .ok r
    | none => .bad
  | _ => .bad
theorem atI_dp {H : Hp} {vs : List V} {ds : List D} {i : Int} {d : D} (h : DpAll K H vs ds) (e : atI ds i = some d) : ∃ v, atI vs i = some v ∧ Dp K H v d := by
  unfold atI at e ⊢
  rw [h.len]
  obtain ⟨j, e1, e2⟩ := Option.bind_eq_some_iff.mp e
  obtain ⟨v, e3, e4⟩ := h.get e2
  exact ⟨v, by rw [e1]; exact e3, e4⟩
theorem ixL_ok {h : Hs} {H1 : Hp} {p : Addr} {vs : List V} {ds : List D} {i : Int} {d : D} {Q : V → Prop} (hs : SqL K h.H p vs) (hd : DpAll K H1 vs ds) (e : atI ds i = some d) (q : ∀ v, Dp K H1 v d → Q v) : rIx K (.ref p) (.int i) h.H (fun v H => H = h.H → Q v) := by
  obtain ⟨v, e1, e2⟩ := atI_dp hd e
  exact .inl ⟨p, vs, i, v, rfl, rfl, hs, e1, fun _ => q v e2⟩
theorem ok_ixSeq : OpOk K W ixSeq (rIx K) := by
  intro h0 h ρ σ x y a b Q R0 R g oka okb q
  unfold ixSeq at q
  split at q
  · rename_i i ei
    split at q
    · rename_i res er
      have ey := dp_int (okb.dp R.ch ei)
      subst ey
      -- the holder's list
      have fin : ∀ {H1 : Hp} {p : Addr} {vs : List V} {ds : List D} {d : D} {mk : D → Rv}, (SqL K h.H p vs ∨ SqT K h.H p vs) → DpAll K H1 vs ds → atI ds i = some d → res = mk d → (∀ v, Dp K H1 v d → RvOk K h.H h v (mk d)) → rIx K (.ref p) (.int i) h.H Q := by
        intro H1 p vs ds d mk hs hd e em hk
        obtain ⟨v, e1, e2⟩ := atI_dp hd e
        have fq : Q v h.H := by
          rw [em] at q
          exact q.now R (hk v e2)
        rcases hs with hs | hs
        · exact .inl ⟨p, vs, i, v, rfl, rfl, hs, e1, fq⟩
        · exact .inr (.inl ⟨p, vs, i, v, rfl, rfl, hs, e1, fq⟩)
      unfold Rv.item at er
      split at er
      · obtain ⟨d, e1, e2⟩ := Option.map_eq_some_iff.mp er
        obtain ⟨p, vs, rfl, hs, hd⟩ := dp_tup oka
        exact fin (mk := .v) (.inr (ex_t R.ch.gh hs)) hd e1 e2.symm fun v hv => hv
      · obtain ⟨d, e1, e2⟩ := Option.map_eq_some_iff.mp er
        obtain ⟨p, vs, rfl, hs, hd⟩ := dp_lst oka
        exact fin (mk := .v) (.inl (ex_l R.ch.gh hs)) hd e1 e2.symm fun v hv => hv
      · obtain ⟨d, e1, e2⟩ := Option.map_eq_some_iff.mp er
        obtain ⟨p, vs, rfl, hs, hd⟩ := dp_tup oka
        exact fin (mk := .b) (.inr (ex_t R.ch.fh hs)) hd e1 e2.symm fun v hv => hv
      · obtain ⟨d, e1, e2⟩ := Option.map_eq_some_iff.mp er
        obtain ⟨p, vs, rfl, hs, hd⟩ := dp_lst oka
        exact fin (mk := .b) (.inl (ex_l R.ch.fh hs)) hd e1 e2.symm fun v hv => hv
      · obtain ⟨d, e1, e2⟩ := Option.map_eq_some_iff.mp er
        obtain ⟨p, vs, rfl, hs, hd⟩ := dp_tup oka
        exact fin (mk := .r) (.inr hs) hd e1 e2.symm fun v hv => hv
      · obtain ⟨d, e1, e2⟩ := Option.map_eq_some_iff.mp er
        obtain ⟨p, vs, rfl, hs, hd⟩ := dp_lst oka
        exact fin (mk := .r) (.inl hs) hd e1 e2.symm fun v hv => hv
      · obtain ⟨d, e1, e2⟩ := Option.map_eq_some_iff.mp er
        obtain ⟨p, vs, rfl, hl, hd⟩ := oka
        exact fin (mk := .v) (.inl (.of hl)) hd e1 e2.symm fun v hv => hv
      · obtain ⟨d, e1, e2⟩ := Option.map_eq_some_iff.mp er
        obtain ⟨p, vs, rfl, _, hl, _, hd⟩ := oka
        exact fin (mk := .v) (.inl (.of hl)) hd e1 e2.symm fun v hv => hv
      · cases er
    · exact q.elim
  · exact q.elim
/-- a sign of a text -/
def ixStr : D → D → Er D := fun x y => match x, y with
  | .str z, .int i => if z.length ≤ 100000 then (match atI z.cps.toList i with
    | some c => .ok (.str ⟨#[c]⟩)
    | none => .bad) else .bad
  | _, _ => .bad
theorem ok_ixStr : OpOk K W (flat2 ixStr) rIxS := by
  refine flat_ok (fun x y c p e => ?_) (fun H x y d e f Q h1 h2 e1 q => ?_) fun d e f e1 => ?_
  · unfold ixStr at e
    split at e
    · split at e
      · split at e <;> cases e
      · cases e
    · cases e
  · unfold ixStr at e1
    split at e1
    · split at e1
      · split at e1
        · rename_i hz _ c ec
          cases e1
          exact ⟨_, _, c, dp_str h1, dp_int h2, sz100 hz, ec, q _ rfl⟩
        · cases e1
      · cases e1
    · cases e1
  · unfold ixStr at e1
    split at e1
    · split at e1
      · split at e1
        · cases e1; rfl
        · cases e1
      · cases e1
    · cases e1
def ixDic (a i : Rv) : Er Rv := match a with
  | .wk kvs => match i.dat.bind keyD with
    | some k => match getK kvs k with
      | some d => .ok (.v d)
      | none => .bad
    | none => .bad
  | _ => .bad
abbrev ixR := alt ixDic (alt ixSeq (flat2 ixStr))
theorem ix_of : ∀ σ H Q, tX K W (binF ixR f g) σ H Q → tDGet (tX K W f) (tX K W g) σ H Q ∨ tOp (rIx K) (tX K W f) (tX K W g) σ H Q := by
  intro σ H Q q
  obtain ⟨h, ρ, rfl, R, q⟩ := tX_iff.mp q
  by_cases e0 : ∃ kvs i, f ρ = .ok (.wk kvs) ∧ g ρ = .ok i ∧ ixDic (.wk kvs) i ≠ .bad
  · obtain ⟨kvs, i, ef, eg, nb⟩ := e0
    refine .inl (tX_mk R (q.bind fun a x h1 ea R1 g1 ok1 q1 => tX_mk R1 (q1.bind fun i' y h2 ei R2 g2 ok2 q2 => ?_)))
    rw [ef] at ea
    cases ea
    rw [eg] at ei
    cases ei
    have e2 : ixR (.wk kvs) i = ixDic (.wk kvs) i := by
      show alt ixDic (alt ixSeq (flat2 ixStr)) (.wk kvs) i = _
      unfold Sq.alt
      cases z : ixDic (.wk kvs) i with
      | bad => exact absurd z nb
      | ok _ => rfl
      | exc _ _ => rfl
    rw [e2] at q2
    unfold ixDic at q2 nb
    dsimp only at q2 nb
    cases ek : i.dat.bind keyD with
    | none => rw [ek] at nb; exact absurd rfl nb
    | some k =>
      rw [ek] at q2 nb
      dsimp only at q2 nb
      obtain ⟨p, o, ex, dg, ho⟩ := dget_ok R2.ch ek ok2 (ok1.grow g2)
      rcases ho with ⟨v, d, e3, e4, e5⟩ | ⟨e3, e4⟩
      · rw [e4] at q2
        rw [e3] at dg
        exact ⟨p, v, ex, dg, q2.now R2 e5⟩
      · rw [e4] at nb
        exact absurd rfl nb
  · refine .inr (tX_mk R (q.bind fun a x h1 ea R1 g1 ok1 q1 => tX_mk R1 (q1.bind fun i y h2 ei R2 g2 ok2 q2 => ?_)))
    have e1 : ixDic a i = .bad := by
      cases a with
      | wk kvs => exact Classical.byContradiction fun z => e0 ⟨kvs, i, ea, ei, z⟩
      | _ => rfl
    have e2 : ixR a i = alt ixSeq (flat2 ixStr) a i := by
      show (match ixDic a i with | .bad => _ | r => r) = _
      rw [e1]
    rw [e2] at q2
    rcases (ok_ixSeq.alt ok_ixStr) h h2 ρ σ x y a i Q R R2 (g1.trans g2) (ok1.grow g2) (ok2.old g1.x) q2 with z | z
    · exact z
    · exact .inr (.inr z)
theorem xix (hu : X.A.units + 1 < cLine) (ha : PE X a (tX X.K W f)) (hb : PE X b (tX X.K W g)) (hs : PlainIx b := by exact fun _ _ => rfl) (hn : NoSl b := by exact fun _ _ => rfl) : PE X (.Subscript a b pos) (tX X.K W (binF ixR f g)) :=
  peTo (peOr (pe_dget hu ha hb hn) (pe_ix ix_seq ha hb hs)) ix_of

/-! ### slices -/
def ptF (o : Option EF) : Env → Er (Option Int) := fun ρ => match o with
  | none => .ok none
  | some f => (f ρ).bind fun a => match a.dat with
    | some (.int i) => .ok (some i)
    | _ => .bad
def PO1 (K : PySem.W.Frag) (W : WF) (h : Hs) (ρ : Env) (σ : L2.St) (Q : Option Int → Hp → Prop) : Er (Option Int) → Prop
  | .ok r => ∀ h', Rel K h' ρ σ → Gr h h' → Q r h'.H
  | .exc c p => ∀ h', Rel K h' ρ σ → Gr h h' → W c p σ h'
  | .bad => False
def tXo (K : PySem.W.Frag) (W : WF) (o : Option EF) : TO := fun σ H Q => ∃ h ρ, h.H = H ∧ Rel K h ρ σ ∧ PO1 K W h ρ σ Q (ptF o ρ)
theorem xonone : PO X none (tXo X.K W none) := ⟨fun pins s σ H Q I hw => po_none.run pins s σ H Q I (by
  obtain ⟨h, ρ, rfl, R, q⟩ := hw
  exact q h R (Gr.refl h))⟩
theorem xosome (ha : PE X e (tX X.K W f)) : PO X (some e) (tXo X.K W (some f)) := ⟨fun pins s σ H Q I hw => (po_some ha).run pins s σ H Q I (by
  obtain ⟨h, ρ, rfl, R, q⟩ := hw
  have q : PO1 X.K W h ρ σ Q ((f ρ).bind fun a => match a.dat with
    | some (.int i) => .ok (some i)
    | _ => .bad) := q
  refine tX_mk R ?_
  cases e1 : f ρ with
  | bad => rw [e1] at q; exact q
  | exc c p => rw [e1] at q; exact q
  | ok a =>
    rw [e1] at q
    intro v h' R' g' ok'
    dsimp only [Er.bind] at q
    split at q
    · rename_i i ei
      exact ⟨i, dp_int (ok'.dp R'.ch ei), q h' R' g'⟩
    · exact q.elim)⟩
def cutD (xs : List D) (lo hi : Option Int) : List D := (xs.drop (HT.sIx xs.length 0 lo)).take (HT.sIx xs.length xs.length hi - HT.sIx xs.length 0 lo)
theorem cut_dp {H : Hp} {vs : List V} {ds : List D} (h : DpAll K H vs ds) (lo hi : Option Int) : DpAll K H (cutV vs lo hi) (cutD ds lo hi) := by
  unfold cutV cutD
  rw [h.len]
  exact (h.drop _).take _
/-- a cut: a new list, tuple, a text -/
def slR (a : Rv) (lo hi : Option Int) : Er Rv := match a with
  | .v (.list xs) => .ok (.o (cutD xs lo hi))
  | .w xs => .ok (.o (cutD xs lo hi))
  | .o xs => .ok (.o (cutD xs lo hi))
  | .b (.list xs) => .ok (.b (.list (cutD xs lo hi)))
  | .v (.tuple xs) => if HT.sIx xs.length 0 lo = 0 ∧ HT.sIx xs.length xs.length hi = xs.length then .bad else .ok (.v (.tuple (cutD xs lo hi)))
  | .v (.str z) => if z.length ≤ 100000 then .ok (.v (.str (cutS z lo hi))) else .bad
  | _ => .bad
def slF (f : EF) (lo hi : Option EF) : EF := fun ρ => (f ρ).bind fun a => (ptF lo ρ).bind fun l => (ptF hi ρ).bind fun u => slR a l u
theorem PE1.bindO {h : Hs} {ρ : Env} {σ : L2.St} {Q : VK} {e : Er (Option Int)} {k : Option Int → Er Rv} (q : PE1 K W h ρ σ Q (e.bind k)) {Q' : Option Int → Hp → Prop}
    (hk : ∀ a h', e = .ok a → Rel K h' ρ σ → Gr h h' → PE1 K W h' ρ σ Q (k a) → Q' a h'.H) : PO1 K W h ρ σ Q' e := by
  cases e with
  | ok a => exact fun h' R g => hk a h' rfl R g (PE1.shift g q)
  | exc c p => exact q
  | bad => exact q
theorem xsl {lo hi : Option Expr} {l u : Option EF} {p2 : Pos} (he : PE X e (tX X.K W f)) (hl : PO X lo (tXo X.K W l)) (hu : PO X hi (tXo X.K W u)) : PE X (.Subscript e (.Slice lo hi none p2) pos) (tX X.K W (slF f l u)) := by
  refine peTo (pe_slice ((sl_list.or sl_tupF).or sl_str) he hl hu) fun σ H Q q => ?_
  obtain ⟨h, ρ, rfl, R, q⟩ := tX_iff.mp q
  refine tX_mk R (q.bind fun a x h1 _ R1 g1 ok1 q1 => ?_)
  refine ⟨h1, ρ, rfl, R1, PE1.bindO q1 fun l h2 _ R2 g2 q2 => ?_⟩
  refine ⟨h2, ρ, rfl, R2, PE1.bindO q2 fun u h3 _ R3 g3 q3 => ?_⟩
  have ok3 := (ok1.grow g2).grow g3
  unfold slR at q3
  split at q3
  · obtain ⟨p, vs, rfl, hs, hd⟩ := dp_lst ok3
    exact .inl (.inl ⟨p, vs, rfl, ex_l R3.ch.gh hs, fun p hp => q3.newL R3 (cut_dp hd _ _) hp⟩)
  · obtain ⟨p, vs, rfl, hl, hd⟩ := ok3
    exact .inl (.inl ⟨p, vs, rfl, .of hl, fun p hp => q3.newL R3 (cut_dp hd _ _) hp⟩)
  · obtain ⟨p, vs, rfl, _, hl, _, hd⟩ := ok3
    exact .inl (.inl ⟨p, vs, rfl, .of hl, fun p hp => q3.newL R3 (cut_dp hd _ _) hp⟩)
  · obtain ⟨p, vs, rfl, hs, hd⟩ := dp_lst ok3
    exact .inl (.inl ⟨p, vs, rfl, ex_l R3.ch.fh hs, fun p hp => q3.newLB R3 (cut_dp hd _ _) hp⟩)
  · obtain ⟨p, vs, rfl, hs, hd⟩ := dp_tup ok3
    split at q3
    · exact q3.elim
    · rename_i hn
      exact .inl (.inr ⟨p, vs, rfl, ex_t R3.ch.gh hs, by rw [hd.len]; exact hn, fun p H' hp nt => q3.newT R3 (cut_dp hd _ _) hp nt⟩)
  · split at q3
    · rename_i hz
      have e := dp_str ok3
      subst e
      exact .inr ⟨_, rfl, sz100 hz, q3.now R3 (.str _)⟩
    · exact q3.elim
  · exact q3.elim
end
end Sq

/-! enumerate of a tuple. -/
namespace Sq
open PySem PySem.Spec PyProof.Rows L2
set_option maxHeartbeats 1000000 in
theorem meets_enumerate_new1 {v : Value} {o : Obj} {H : Heap → Prop} (B : Begins v o H) :
    Meets (Builtin.«enumerate.__new__» ⟨[.type "enumerate", v], []⟩) (fun _ R s => H s.heap ∧
      R (.ok (.ret (.ref (s.heap.push o).objs.size))) { s with heap := (s.heap.push o).push { cls := .type "enumerate", data := .fields #[.none, .bool false, .ref s.heap.objs.size, rawInt 0, .none, .none] } }) :=
  .of_wp fun prog w A R s h => by
    obtain ⟨hp, g, d, tk, os⟩ := s; obtain ⟨h1, h⟩ := h
    have hsub := sub_enumerate
    have q1 : ∀ {A' : Around} {E : Value → Shared → Prop} {Q : Value → Shared → Prop}, Q (.ref hp.objs.size) ⟨hp.push o, g, d, tk, os⟩ → wpAny (model prog w) A' (pyIter v) Q E ⟨hp, g, d, tk, os⟩ :=
      fun q => B.iter prog w _ _ ⟨hp, g, d, tk, os⟩ _ h1 q
    wp_walk using q1
    refine wpAny_stack_any fun st => wpAny_pure ?_
    split
    · rename_i c _ _ _ _ _
      cases (c == Value.type "enumerate")
      · wp_walk using q1
        exact ⟨_, rfl, h⟩
      · wp_walk using q1
        exact ⟨_, rfl, h⟩
    · wp_walk using q1
      exact ⟨_, rfl, h⟩
theorem enum_begins1 {prog : Program} {w : World} {A : Around} {E : Value → Shared → Prop} {s : Shared} {v : Value} {o : Obj} {H : Heap → Prop} {Q : Value → Shared → Prop} (B : Begins v o H) (h1 : H s.heap)
    (h : ∀ h', IsEnum h' (s.heap.objs.size + 1) s.heap.objs.size 0 .none → h'.get? s.heap.objs.size = some o → h'.objs.size = s.heap.objs.size + 2 →
      (∀ b o, s.heap.get? b = some o → h'.get? b = some o) → Q (.ref (s.heap.objs.size + 1)) { s with heap := h' }) :
    wpAny (model prog w) A (call (.type "enumerate") [v]) Q E s := by
  refine callType_new F.called_enumerate (by decide) (F.typeCall_enumerate_1 _) (F.newCall_enumerate_1 _) (fun obj => F.args_object_init_2 obj _) F.entry_enumerate_new
    (meets_enumerate_new1 B) ⟨h1, ?_⟩
  have hz : (s.heap.push o).objs.size = s.heap.objs.size + 1 := Heap.size_push ..
  show _ ∧ _
  rw [hz]
  have he : IsEnum ((s.heap.push o).push { cls := .type "enumerate", data := .fields #[.none, .bool false, .ref s.heap.objs.size, rawInt 0, .none, .none] }) (s.heap.objs.size + 1) s.heap.objs.size 0 .none := by
    have := Heap.get?_push_size (s.heap.push o) (o := { cls := .type "enumerate", data := .fields #[.none, .bool false, .ref s.heap.objs.size, rawInt 0, .none, .none] }) rfl
    rw [hz] at this; exact this
  refine ⟨⟨_, he, rfl⟩, h _ he (Heap.get?_push_of_some _ (Heap.get?_push_size _ B.free)) (by rw [Heap.size_push, hz]) fun b o x => Heap.get?_push_of_some _ (Heap.get?_push_of_some _ x)⟩
/-- the tuple at a at each turn, each item in a new pair -/
def IteT (K : PySem.W.Frag) (a : Addr) : It :=
  ⟨fun i H => ∃ (xs : List V) (x : V), SqT K H a xs ∧ xs[i]? = some x, fun i H v H' => ∃ T x, v = .ref T ∧ H T = none ∧ H' = upd H T (.tup [.int (i : Nat), x]) ∧ ∀ xs, SqT K H a xs → xs[i]? = some x, fun i H => ∃ xs : List V, SqT K H a xs ∧ xs.length ≤ i⟩
theorem turn_enumT {P : Program} {w : World} {K : PySem.W.Frag} {elts : List Expr} {kk : Nat} {tpos : Pos} (a e it : Addr) (hai : a ≠ it) :
    Turn P w K (.Tuple elts kk tpos) (IteT K a) [e, it] e (fun i h => (∃ old, IsEnum h e it ((i : Nat) : Int) old) ∧ h.IsTupleIter it a i ∧ e ≠ it ∧ a ≠ e) where
  mem := by simp
  obj := fun i h st b hb => by
    obtain ⟨⟨old, he⟩, ⟨o, ho, hc, hd⟩, _⟩ := st
    have e' : b = e ∨ b = it := by simpa using hb
    rcases e' with z | z
    · rw [z]; exact ⟨_, he, fun v q => nomatch q⟩
    · rw [z]; exact ⟨o, ho, fun v q => by rw [hd] at q; cases q⟩
  keep := fun i h h' st k => let ⟨⟨old, he⟩, hi, hne⟩ := st; ⟨⟨old, k e (by simp) _ he⟩, hi.at fun o q => k it (by simp) o q, hne⟩
  item := by
    intro X hP hw hK hc i pins s σ H E I hf st hg
    subst hP hw hK
    obtain ⟨⟨old, he⟩, hit, hne, hae⟩ := st
    obtain ⟨xs, x, hq, hx⟩ := hg
    obtain ⟨its, rv, p, hz⟩ := I.tuple hq
    obtain ⟨u, hu, ru⟩ := rv.get hx
    have hel : e < s.heap.objs.size := Heap.lt_size he
    have hil : it < s.heap.objs.size := by obtain ⟨_, q, _⟩ := hit; exact Heap.lt_size q
    have hu' : its.toArray[i]? = some u := by simpa using hu
    have hlt : i < its.toArray.size := (Array.getElem?_eq_some_iff.mp hu').1
    have D := Draws.tuple (prog := X.prog) (w := X.w) (A := X.A.in1) (I.ok.hd hc) it a hai its.toArray
    refine wpAny_pyNext_enum_itemD D he ⟨hit, p⟩ hlt hne (by simp only [List.mem_cons, List.not_mem_nil, or_false, not_or]; exact ⟨hne, Ne.symm hae⟩) fun x' h' tk hP ho hst' hT hsz hk => ?_
    obtain ⟨hit', p'⟩ := hst'
    have ex : x' = u := Option.some.inj (hP.symm.trans hu')
    subst ex
    refine ⟨_, rfl, wpAny_letOwnedTupleGo_enum (s := { s with heap := h', toks := tk + 1 }) ho fun h'' he' sb => ?_⟩
    have hT2 : h''.get? s.heap.objs.size = some { cls := .type "tuple", data := .seq #[.int i tk, x'] } := (sb.2 _ (Nat.ne_of_gt hel)).trans hT
    have new : ObjOk X.prog X.w (upd H s.heap.objs.size (.tup [.int (i : Nat), x])) h'' s.heap.objs.size (.tup [.int (i : Nat), x]) :=
      ⟨by show 2 ≤ sizeLine; decide, [.int i tk, x'], .cons ⟨_, rfl⟩ (.cons ru .nil), ⟨_, hT2, rfl, _, rfl⟩⟩
    have I1 : Inv X pins σ (upd H s.heap.objs.size (.tup [.int (i : Nat), x])) { s with heap := h'', toks := tk + 1 } :=
      I.turnedNew (ch := [e, it]) (fun b ob hb q => (sb.2 b (fun z => hb (by simp [z]))).trans (hk b ob (fun z => hb (by simp [z])) (fun z => hb (by simp [z])) q)) hf (Nat.le_refl _) new
    refine ⟨.ref s.heap.objs.size, _, I1, rfl, ⟨_, x, rfl, I.hok.fresh (Nat.le_refl _), rfl, fun ys hy => by rw [I.tuple_inj hy hq]; exact hx⟩, ⟨⟨x', ?_⟩, hit'.at fun o q => (sb.2 it (Ne.symm hne)).trans q, hne, hae⟩, fun b hb => ?_⟩
    · have e1 : ((i + 1 : Nat) : Int) = (i : Int) + 1 := by omega
      rw [e1]; exact he'
    · have hb' : b < s.heap.objs.size := by
        have e' : b = e ∨ b = it := by simpa using hb
        rcases e' with z | z
        · rw [z]; exact hel
        · rw [z]; exact hil
      rw [upd_ne (Nat.ne_of_lt hb')]
      exact (hf b hb).1
  done := by
    intro X hP hw hK hc i pins s σ H E I hf st hg
    subst hP hw hK
    obtain ⟨⟨old, he⟩, hit, hne, hae⟩ := st
    obtain ⟨xs, hq, hx⟩ := hg
    obtain ⟨its, rv, p, hz⟩ := I.tuple hq
    obtain ⟨f0, f1, f2, f3, f4, f5⟩ := hf it (by simp)
    have hl := rv.length
    have hT : s.TypeIs (.ref e) "enumerate" := ⟨_, he, rfl⟩
    unfold pyNext
    refine wpAny_bind (wpAny_attempt (wpAny_callSpecial?_slot (name := Str.ofString "__next__") hT F.slot_enumerate_next
      (wpAny_call_entry F.slot_enumerate_next hT F.entry_enumerate_next ?_ (F.args_enumerate_next_1 _))))
    show wpAny _ _ (field (.ref e) 2 >>= _) _ _ _
    refine wpAny_bind (wpAny_field he rfl (x := .ref it) rfl ?_)
    refine wpAny_bind (wpAny_nextOf_tuple_end (I.ok.hd hc) hit p (by simp; omega) fun h' x he' hx' => ?_)
    obtain ⟨o, ho, hc'⟩ := hx'
    refine wpAny_bind (wpAny_isInstance (T := "StopIteration") (b := true) ⟨o, ho, hc'⟩ isSubtype_stop ?_)
    exact wpAny_pure ⟨rfl, I.turned (t' := s.toks) (fun b o hb q => he' b o hb q) f0 f1 f3 f4 f5⟩
  self := fun A i s Q E st h => let ⟨⟨_, he⟩, _⟩ := st; wpAny_pyIter_enum he h
theorem turn_enTF {P : Program} {w : World} {K : PySem.W.Frag} {elts : List Expr} {kk : Nat} {tpos : Pos} (a e it : Addr) (hai : a ≠ it) :
    Turn P w K (.Tuple elts kk tpos) (IteF K false a) [e, it] e (fun i h => (∃ old, IsEnum h e it ((i : Nat) : Int) old) ∧ h.IsTupleIter it a i ∧ e ≠ it ∧ a ≠ e) where
  mem := (turn_enumT (P := P) (w := w) (K := K) (elts := elts) (kk := kk) (tpos := tpos) a e it hai).mem
  obj := (turn_enumT (P := P) (w := w) (K := K) (elts := elts) (kk := kk) (tpos := tpos) a e it hai).obj
  keep := (turn_enumT (P := P) (w := w) (K := K) (elts := elts) (kk := kk) (tpos := tpos) a e it hai).keep
  done := (turn_enumT (P := P) (w := w) (K := K) (elts := elts) (kk := kk) (tpos := tpos) a e it hai).done
  self := (turn_enumT (P := P) (w := w) (K := K) (elts := elts) (kk := kk) (tpos := tpos) a e it hai).self
  item := by
    intro X hP hw hK hc i pins s σ H E I hf st hg
    subst hP hw hK
    obtain ⟨⟨old, he⟩, hit, hne, hae⟩ := st
    obtain ⟨xs, x, hq, hx⟩ := hg
    obtain ⟨its, rv, p, hz⟩ := I.tuple (show SqT X.K H a xs from hq)
    obtain ⟨u, hu, ru⟩ := rv.get hx
    have hel : e < s.heap.objs.size := Heap.lt_size he
    have hil : it < s.heap.objs.size := by obtain ⟨_, q, _⟩ := hit; exact Heap.lt_size q
    have hu' : its.toArray[i]? = some u := by simpa using hu
    have hlt : i < its.toArray.size := (Array.getElem?_eq_some_iff.mp hu').1
    have D := Draws.tuple (prog := X.prog) (w := X.w) (A := X.A.in1) (I.ok.hd hc) it a hai its.toArray
    refine wpAny_pyNext_enum_itemD D he ⟨hit, p⟩ hlt hne (by simp only [List.mem_cons, List.not_mem_nil, or_false, not_or]; exact ⟨hne, Ne.symm hae⟩) fun x' h' tk hP ho hst' hT hsz hk => ?_
    obtain ⟨hit', p'⟩ := hst'
    have ex : x' = u := Option.some.inj (hP.symm.trans hu')
    subst ex
    refine ⟨_, rfl, wpAny_letOwnedTupleGo_enum (s := { s with heap := h', toks := tk + 1 }) ho fun h'' he' sb => ?_⟩
    have hT2 := (sb.2 _ (Nat.ne_of_gt hel)).trans hT
    have I1 := turned2 (t' := tk + 1) (x := .int (i : Nat)) I (ch := [e, it]) hf (fun b ob hb q => (sb.2 b (fun z => hb (by simp [z]))).trans (hk b ob (fun z => hb (by simp [z])) (fun z => hb (by simp [z])) q)) hT2 ⟨_, rfl⟩ ru
    refine ⟨.ref s.heap.objs.size, _, I1, rfl, ⟨_, x, rfl, I.hok.fresh (Nat.le_refl _), ⟨_, rfl, rfl⟩, fun ys hy => by rw [I.tuple_inj (show SqT X.K H a ys from hy) hq]; exact hx⟩, ⟨⟨x', ?_⟩, hit'.at fun o q => (sb.2 it (Ne.symm hne)).trans q, hne, hae⟩, fun b hb => ?_⟩
    · rw [show ((i + 1 : Nat) : Int) = (i : Int) + 1 by omega]
      exact he'
    · have hb' : b < s.heap.objs.size := by
        have e' : b = e ∨ b = it := by simpa using hb
        rcases e' with z | z
        · rw [z]; exact hel
        · rw [z]; exact hil
      rw [upd_ne (Nat.ne_of_lt hb')]
      exact (hf b hb).1
/-- enumerate(x), x a list or a tuple -/
def iEnumA (K : PySem.W.Frag) (ta : TE) : TI := fun σ H R => ta σ H fun v H1 => ∃ a xs, v = .ref a ∧ ((SqL K H1 a xs ∧ R (IteF K true a) H1) ∨ (SqT K H1 a xs ∧ R (IteF K false a) H1))
theorem pi_enumA {X : Cx} {e : Expr} {ta : TE} {p pos tpos : Pos} {elts : List Expr} {kk : Nat} (hg : Gl X "enumerate") (hm : X.mg "enumerate" = none) (ha : PE X e ta) (hs : starEach [e] X.env = (false, eval e X.env) :: starEach [] X.env := by rfl) (hs2 : starEach [e] X.env = [(false, eval e X.env)] := by rfl) :
    PI X (.Tuple elts kk tpos) (.Call (.Name "enumerate" p) [e] [] pos) (iEnumA X.K ta) := by
  refine ⟨fun pins s σ H R I h => ?_⟩
  refine Call_ (ld_blt I hg hm boot_enumerate (PyProof.Rows.callWith_type1 (args_cons (thn (ha.run pins s σ H _ I h) fun u s1 ⟨v, H1, I1, r1, q1⟩ => args_nil ?_) hs) hs2 rfl))
  obtain ⟨a, xs, ex, q⟩ := q1
  subst ex
  obtain rfl : u = Value.ref a := r1
  have fin : ∀ {b : Addr}, b ∈ [s1.heap.objs.size + 1, s1.heap.objs.size] → FpOk X pins H1 b := fun {b} hb => by
    have e' : b = s1.heap.objs.size + 1 ∨ b = s1.heap.objs.size := by simpa using hb
    have hle : s1.heap.objs.size ≤ b := by
      rcases e' with z | z
      · rw [z]; exact Nat.le_add_right _ _
      · rw [z]; exact Nat.le_refl _
    exact I1.fpOk hle (I1.hok.fresh hle)
  rcases q with ⟨hq, q⟩ | ⟨hq, q⟩
  · obtain ⟨its, rv, p', hz⟩ := I1.list hq
    refine call_enumerate_list p'.isList fun h' he hit hsz hk => wpAny_pyIter_enum he ?_
    have I2 : Inv X pins σ H1 { s1 with heap := h' } := I1.kept (t' := s1.toks) hk
    exact ⟨s1.heap.objs.size + 1, [s1.heap.objs.size + 1, s1.heap.objs.size], _, _, H1, rfl, I2, turn_enF a (s1.heap.objs.size + 1) s1.heap.objs.size, ⟨⟨.none, he⟩, hit, Nat.succ_ne_self _⟩, fun b hb => fin hb, q⟩
  · obtain ⟨its, rv, p', hz⟩ := I1.tuple hq
    have hal : a < s1.heap.objs.size := p'.lt
    refine enum_begins1 (begins_tuple a its.toArray) p' fun h' he hit hsz hk => wpAny_pyIter_enum he ?_
    have I2 : Inv X pins σ H1 { s1 with heap := h' } := I1.kept (t' := s1.toks) hk
    exact ⟨s1.heap.objs.size + 1, [s1.heap.objs.size + 1, s1.heap.objs.size], _, _, H1, rfl, I2, turn_enTF a (s1.heap.objs.size + 1) s1.heap.objs.size (Nat.ne_of_lt hal), ⟨⟨.none, he⟩, ⟨_, hit, rfl, rfl⟩, Nat.succ_ne_self _, Nat.ne_of_lt (Nat.lt_succ_of_lt hal)⟩, fun b hb => fin hb, q⟩
end Sq

/-! Targets, what is walked, comprehensions. -/
namespace Sq
open PySem PySem.Spec PyProof.Rows L2
section
variable {K : PySem.W.Frag} {W : WF} {X : Cx}

/-! ### targets -/
abbrev TF := Rv → Env → Er Env
def asgn (i : Nat) : TF := fun r ρ => match r with
  | .v d => .ok (ρ.set i (.v d))
  | .b d => .ok (ρ.set i (.b d))
  | .o xs => .ok (ρ.set i (.o xs))
  | .ok kvs => .ok (ρ.set i (.k kvs))
  | .ot kvs => .ok (ρ.set i (.t kvs))
  | .on kvs => .ok (ρ.set i (.n kvs))
  | .oi c fs => .ok (ρ.set i (.i c fs))
  | .r d => if flatD d = true then .ok (ρ.set i (.v d)) else .bad
  | _ => .bad
theorem dp_flatG {H H' : Hp} {v : V} {d : D} (e : flatD d = true) (h : Dp K H v d) : Dp K H' v d := by
  cases h <;> first | (cases e; done) | constructor
/-- a slot is stored -/
theorem Rel.set {h : Hs} {ρ : Env} {σ : L2.St} (R : Rel K h ρ σ) (i : Nat) {s : Sl} {v : V} (ok : SlOk K h (some v) s)
    (fr : ∀ (j : Nat) (t : Sl) (l : Addr), s.own = true → v = .ref l → ρ[j]? = some t → t.own = true → σ[j]? ≠ some (some (.ref l))) : Rel K h (ρ.set i s) (σ.set i (some v)) := by
  refine ⟨R.ch, by simp [R.len], fun j t x e1 e2 => ?_, fun j k t u l m hjk e1 e2 o1 o2 e3 e4 => ?_⟩
  · by_cases hj : i = j
    · subst hj
      rw [List.getElem?_set] at e1 e2
      simp only [if_true] at e1 e2
      split at e1
      · split at e2
        · cases e1; cases e2; exact ok
        · cases e2
      · cases e1
    · rw [List.getElem?_set_ne hj] at e1 e2
      exact R.at_ j t x e1 e2
  · by_cases hj : i = j
    · subst hj
      rw [List.getElem?_set_ne hjk] at e2 e4
      rw [List.getElem?_set] at e1 e3
      simp only [if_true] at e1 e3
      split at e1
      · split at e3
        · cases e1; cases e3
          intro z
          subst z
          exact fr k u l o1 rfl e2 o2 e4
        · cases e3
      · cases e1
    · by_cases hk : i = k
      · subst hk
        rw [List.getElem?_set_ne hj] at e1 e3
        rw [List.getElem?_set] at e2 e4
        simp only [if_true] at e2 e4
        split at e2
        · split at e4
          · cases e2; cases e4
            intro z
            subst z
            exact fr j t l o2 rfl e1 o1 e3
          · cases e4
        · cases e2
      · rw [List.getElem?_set_ne hj] at e1 e3
        rw [List.getElem?_set_ne hk] at e2 e4
        exact R.dis j k t u l m hjk e1 e2 o1 o2 e3 e4
theorem Rel.fresh {h : Hs} {ρ : Env} {σ : L2.St} (R : Rel K h ρ σ) {j : Nat} {t : Sl} {l : Addr} (n : h.H l = none) (a : ρ[j]? = some t) (b : t.own = true) : σ[j]? ≠ some (some (.ref l)) := fun e => by
  obtain ⟨⟨o, z⟩, _⟩ := R.ownH a b e
  rw [n] at z
  cases z
theorem asgn_ok {h0 h : Hs} {ρ ρ' : Env} {σ : L2.St} {i : Nat} {r : Rv} {v : V} (R0 : Rel K h0 ρ σ) (R : Rel K h ρ σ) (ok : RvOk K h0.H h v r) (e : asgn i r ρ = .ok ρ') : Rel K h ρ' (σ.set i (some v)) := by
  unfold asgn at e
  split at e
  · cases e; exact R.set i ⟨v, rfl, ok⟩ fun _ _ _ z => by cases z
  · cases e; exact R.set i ⟨v, rfl, ok⟩ fun _ _ _ z => by cases z
  · cases e
    obtain ⟨l, vs, rfl, n, a, b, q⟩ := ok
    exact R.set i ⟨l, vs, rfl, a, b, q⟩ fun j t m _ em e1 o1 => by cases em; exact R0.fresh n e1 o1
  · cases e
    obtain ⟨l, vs, rfl, n, a, b, q⟩ := ok
    exact R.set i ⟨l, vs, rfl, a, b, q⟩ fun j t m _ em e1 o1 => by cases em; exact R0.fresh n e1 o1
  · cases e
    obtain ⟨l, vs, rfl, n, a, b, q⟩ := ok
    exact R.set i ⟨l, vs, rfl, a, b, q⟩ fun j t m _ em e1 o1 => by cases em; exact R0.fresh n e1 o1
  · cases e
    obtain ⟨l, vs, rfl, n, a, b, q⟩ := ok
    exact R.set i ⟨l, vs, rfl, a, b, q⟩ fun j t m _ em e1 o1 => by cases em; exact R0.fresh n e1 o1
  · cases e
    obtain ⟨l, vs, dx, rfl, n, a, b, q⟩ := ok
    exact R.set i ⟨l, vs, dx, rfl, a, b, q⟩ fun j t m _ em e1 o1 => by cases em; exact R0.fresh n e1 o1
  · split at e
    · cases e; exact R.set i ⟨v, rfl, dp_flatG (by assumption) ok⟩ fun _ _ _ z => by cases z
    · cases e
  · cases e
/-- nothing but the slots fp is stored -/
def Fp (fp : List Nat) (σ σ' : L2.St) : Prop := σ'.length = σ.length ∧ ∀ k, k ∉ fp → σ'[k]? = σ[k]?
theorem wipe_get {σ : L2.St} : ∀ {vs : List Nat} {k : Nat}, (L2.wipe σ vs)[k]? = if k ∈ vs then (if k < σ.length then some none else none) else σ[k]?
  | [], k => by simp [L2.wipe]
  | v :: vs, k => by
    unfold L2.wipe
    rw [List.getElem?_set]
    by_cases e : v = k
    · subst e
      simp [wipe_length]
    · rw [if_neg e, wipe_get (vs := vs)]
      have e2 : (k ∈ v :: vs) ↔ k ∈ vs := by simp [Ne.symm e]
      simp only [e2]
theorem Fp.wipe {fp : List Nat} {σ σ' : L2.St} (f : Fp fp σ σ') : L2.wipe σ' fp = L2.wipe σ fp := by
  apply List.ext_getElem?
  intro k
  rw [wipe_get, wipe_get, f.1]
  by_cases e : k ∈ fp
  · rw [if_pos e, if_pos e]
  · rw [if_neg e, if_neg e, f.2 k e]
theorem wipe_twice {fp : List Nat} (σ : L2.St) : L2.wipe (L2.wipe σ fp) fp = L2.wipe σ fp := by
  apply List.ext_getElem?
  intro k
  rw [wipe_get, wipe_length, wipe_get]
  by_cases e : k ∈ fp
  · rw [if_pos e, if_pos e]
  · rw [if_neg e, if_neg e]
theorem Fp.trans {a b : List Nat} {σ σ1 σ2 : L2.St} (f : Fp a σ σ1) (g : Fp b σ1 σ2) : Fp (a ++ b) σ σ2 :=
  ⟨g.1.trans f.1, fun k hk => by
    rw [List.mem_append, not_or] at hk
    exact (g.2 k hk.2).trans (f.2 k hk.1)⟩
def tG (K : PySem.W.Frag) (fp : List Nat) (φ : TF) : TG := fun v σ H Q => ∃ h0 h ρ r ρ', h.H = H ∧ Rel K h0 ρ σ ∧ Rel K h ρ σ ∧ RvOk K h0.H h v r ∧ φ r ρ = .ok ρ' ∧ ∀ σ', Rel K h ρ' σ' → Fp fp σ σ' → Q σ' h.H
theorem pgTo {tg : Expr} {t t' : TG} (h : PG X tg t) (i : ∀ v σ H Q, t' v σ H Q → t v σ H Q) : PG X tg t' := ⟨fun pins s σ H v u Q I r hw => h.run pins s σ H v u Q I r (i v σ H Q hw)⟩
theorem xgn (i : Nat) {x : Str} {pos : Pos} (hN : X.N.Nodup) (hi : X.N[i]? = some x := by rfl) (hx : Loc X.env.scope x := by first | exact Or.inl rfl | exact Or.inr rfl) (hf : X.fn x = true ∨ X.env.scope.names.lookup x = some .local := by first | exact .inl rfl | exact .inr rfl | assumption) : PG X (.Name x pos) (tG X.K [i] (asgn i)) :=
  pgTo (pg_name hN hi hx hf) fun v σ H Q ⟨h0, h, ρ, r, ρ', eh, R0, R, ok, e, q⟩ => by
    subst eh
    exact q _ (asgn_ok R0 R ok e) ⟨by simp, fun k hk => List.getElem?_set_ne (fun z => hk (by simp [z]))⟩
/-- several targets, the values of a tuple or list -/
def unpk : List TF → List Rv → Env → Er Env
  | [], [], ρ => .ok ρ
  | φ :: φs, r :: rs, ρ => (φ r ρ).bind fun ρ' => unpk φs rs ρ'
  | _, _, _ => .bad
def Rv.items (a : Rv) : Option (List Rv) := match a with
  | .v (.tuple xs) => some (xs.map .v)
  | .v (.list xs) => some (xs.map .v)
  | .b (.tuple xs) => some (xs.map .b)
  | .b (.list xs) => some (xs.map .b)
  | .r (.tuple xs) => some (xs.map .r)
  | .r (.list xs) => some (xs.map .r)
  | .w xs => some (xs.map .v)
  | .o xs => some (xs.map .v)
  | _ => none
def unpT (φs : List TF) : TF := fun r ρ => match r.items with
  | some rs => if rs.length = φs.length then unpk φs rs ρ else .bad
  | none => .bad
def VsF (K : PySem.W.Frag) (h : Hs) : List V → List Rv → Prop
  | [], [] => True
  | v :: vs, r :: rs => RvF K h v r ∧ VsF K h vs rs
  | _, _ => False
theorem vsf_map {h : Hs} {H1 : Hp} {mk : D → Rv} (hk : ∀ v d, Dp K H1 v d → RvF K h v (mk d)) : ∀ {vs : List V} {ds : List D}, DpAll K H1 vs ds → VsF K h vs (ds.map mk)
  | _, _, .nil => trivial
  | _, _, .cons a t => ⟨hk _ _ a, vsf_map hk t⟩
theorem RvF.rv {H0 : Hp} {h : Hs} {v : V} {r : Rv} (q : RvF K h v r) : RvOk K H0 h v r := by
  cases r <;> first | exact q | exact q.elim
/-- what a tuple or list holds -/
theorem items_ok {H0 : Hp} {h : Hs} (c : Ch h) {v : V} {a : Rv} {rs : List Rv} (e : a.items = some rs) (ok : RvOk K H0 h v a) : ∃ p vs, v = .ref p ∧ (SqL K h.H p vs ∨ SqT K h.H p vs) ∧ VsF K h vs rs := by
  unfold Rv.items at e
  split at e
  · cases e
    obtain ⟨p, vs, rfl, s, d⟩ := dp_tup ok
    exact ⟨p, vs, rfl, .inr (ex_t c.gh s), vsf_map (mk := Rv.v) (fun _ _ q => q) d⟩
  · cases e
    obtain ⟨p, vs, rfl, s, d⟩ := dp_lst ok
    exact ⟨p, vs, rfl, .inl (ex_l c.gh s), vsf_map (mk := Rv.v) (fun _ _ q => q) d⟩
  · cases e
    obtain ⟨p, vs, rfl, s, d⟩ := dp_tup ok
    exact ⟨p, vs, rfl, .inr (ex_t c.fh s), vsf_map (mk := Rv.b) (fun _ _ q => q) d⟩
  · cases e
    obtain ⟨p, vs, rfl, s, d⟩ := dp_lst ok
    exact ⟨p, vs, rfl, .inl (ex_l c.fh s), vsf_map (mk := Rv.b) (fun _ _ q => q) d⟩
  · cases e
    obtain ⟨p, vs, rfl, s, d⟩ := dp_tup ok
    exact ⟨p, vs, rfl, .inr s, vsf_map (mk := Rv.r) (fun _ _ q => q) d⟩
  · cases e
    obtain ⟨p, vs, rfl, s, d⟩ := dp_lst ok
    exact ⟨p, vs, rfl, .inl s, vsf_map (mk := Rv.r) (fun _ _ q => q) d⟩
  · cases e
    obtain ⟨p, vs, rfl, l, d⟩ := ok
    exact ⟨p, vs, rfl, .inl (.of l), vsf_map (mk := Rv.v) (fun _ _ q => q) d⟩
  · cases e
    obtain ⟨p, vs, rfl, _, l, _, d⟩ := ok
    exact ⟨p, vs, rfl, .inl (.of l), vsf_map (mk := Rv.v) (fun _ _ q => q) d⟩
  · cases e
theorem VsF.len {h : Hs} : ∀ {vs : List V} {rs : List Rv}, VsF K h vs rs → vs.length = rs.length
  | [], [], _ => rfl
  | _ :: _, _ :: _, q => congrArg (· + 1) (VsF.len q.2)
  | [], _ :: _, q => q.elim
  | _ :: _, [], q => q.elim
theorem VsF.get {h : Hs} : ∀ {vs : List V} {rs : List Rv} {i : Nat} {v : V}, VsF K h vs rs → vs[i]? = some v → ∃ r, rs[i]? = some r ∧ RvF K h v r
  | [], [], _, _, _, e => by simp at e
  | w :: _, r :: _, 0, v, q, e => by
    have e' : w = v := by simpa using e
    subst e'
    exact ⟨r, rfl, q.1⟩
  | _ :: _, _ :: _, i + 1, v, q, e => VsF.get (i := i) q.2 (by simpa using e)
  | [], _ :: _, _, _, q, _ => q.elim
  | _ :: _, [], _, _, q, _ => q.elim
def tGs (K : PySem.W.Frag) (fp : List Nat) (φs : List TF) : TGs := fun vs σ H Q => ∃ h ρ rs ρ', h.H = H ∧ Rel K h ρ σ ∧ VsF K h vs rs ∧ unpk φs rs ρ = .ok ρ' ∧ ∀ σ', Rel K h ρ' σ' → Fp fp σ σ' → Q σ' h.H
theorem pgsTo {tgs : List Expr} {t t' : TGs} (h : PGs X tgs t) (i : ∀ v σ H Q, t' v σ H Q → t v σ H Q) : PGs X tgs t' := ⟨fun pins s σ H v u Q I r hw => h.run pins s σ H v u Q I r (i v σ H Q hw)⟩
theorem xgnil : PGs X [] (tGs X.K [] []) := pgsTo pgs_nil fun vs σ H Q ⟨h, ρ, rs, ρ', eh, R, q, e, k⟩ => by
  subst eh
  cases vs with
  | nil =>
    cases rs with
    | nil =>
      cases e
      exact ⟨rfl, k σ R ⟨rfl, fun _ _ => rfl⟩⟩
    | cons _ _ => exact q.elim
  | cons _ _ =>
    cases rs with
    | nil => exact q.elim
    | cons _ _ => cases e
theorem xgcons {e : Expr} {es : List Expr} {φ : TF} {φs : List TF} {fa fb : List Nat} (h1 : PG X e (tG X.K fa φ)) (h2 : PGs X es (tGs X.K fb φs)) (hs : (assignEach (e :: es) X.env).map (·.2) = assign e X.env :: (assignEach es X.env).map (·.2) := by rfl) : PGs X (e :: es) (tGs X.K (fa ++ fb) (φ :: φs)) :=
  pgsTo (pgs_cons h1 h2 hs) fun vs σ H Q ⟨h, ρ, rs, ρ', eh, R, q, e, k⟩ => by
    subst eh
    cases vs with
    | nil =>
      cases rs with
      | nil => cases e
      | cons _ _ => exact q.elim
    | cons v vs =>
      cases rs with
      | nil => exact q.elim
      | cons r rs =>
        unfold unpk at e
        cases e1 : φ r ρ with
        | bad => rw [e1] at e; cases e
        | exc c p => rw [e1] at e; cases e
        | ok ρ1 =>
          rw [e1] at e
          exact ⟨v, vs, rfl, h, h, ρ, r, ρ1, rfl, R, R, q.1.rv, e1, fun σ1 R1 F1 => ⟨h, ρ1, rs, ρ', rfl, R1, q.2, e, fun σ2 R2 F2 => k σ2 R2 (F1.trans F2)⟩⟩
theorem xgtup {es : List Expr} {k : Nat} {φs : List TF} {n : Nat} {fp : List Nat} {pos : Pos} (hc : X.calm = true) (h : PGs X es (tGs X.K fp φs)) (hl : φs.length = n := by rfl)
    (hn : (assignEach es X.env).length = n := by rfl) (hst : (assignEach es X.env).findIdx? (·.1) = none := by rfl) : PG X (.Tuple es k pos) (tG X.K fp (unpT φs)) := by
  have p1 := pg_tup (k := k) (pos := pos) hc h hn hst
  have p2 := pg_lst (k := k) (pos := pos) hc h hn hst
  refine pgTo (t := fun v σ H Q => gTup X.K n (tGs X.K fp φs) v σ H Q ∨ gLst X.K n (tGs X.K fp φs) v σ H Q) ⟨fun pins s σ H v u Q I r hw => hw.elim (p1.run pins s σ H v u Q I r) (p2.run pins s σ H v u Q I r)⟩ ?_
  rintro v σ H Q ⟨h0, h, ρ, r, ρ', eh, R0, R, ok, e, k⟩
  subst eh
  unfold unpT at e
  split at e
  · rename_i rs er
    split at e
    · rename_i hlen
      obtain ⟨p, vs, rfl, hs, q⟩ := items_ok R.ch er ok
      have hlv : vs.length = n := by rw [q.len, hlen, hl]
      rcases hs with hs | hs
      · exact .inr ⟨p, vs, rfl, hs, hlv, h, ρ, rs, ρ', rfl, R, q, e, k⟩
      · exact .inl ⟨p, vs, rfl, hs, hlv, h, ρ, rs, ρ', rfl, R, q, e, k⟩
    · cases e
  · cases e
end
end Sq

/-! What is walked. -/
namespace Sq
open PySem PySem.Spec PyProof.Rows L2
/-- what a walk needs to stay: P h0 h tells how h came from h0 -/
structure ItOk (P : Hs → Hs → Prop) (K : PySem.W.Frag) (J : It) (h0 : Hs) (rs : List Rv) : Prop where
  go : ∀ i h, P h0 h → Ch h → i < rs.length → J.go i h.H
  stop : ∀ i h, P h0 h → Ch h → rs.length ≤ i → J.stop i h.H
  yld : ∀ i h v H', P h0 h → Ch h → i < rs.length → J.yld i h.H v H' → ∃ h' r, h'.H = H' ∧ Gr h h' ∧ Ch h' ∧ rs[i]? = some r ∧ RvF K h' v r
abbrev IF := Env → Er (List Rv)
def PI1 (P : Hs → Hs → Prop) (K : PySem.W.Frag) (W : WF) (h : Hs) (ρ : Env) (σ : L2.St) (R : It → Hp → Prop) : Er (List Rv) → Prop
  | .ok rs => ∀ J h', Rel K h' ρ σ → Gr h h' → ItOk P K J h' rs → R J h'.H
  | .exc c p => ∀ h', Rel K h' ρ σ → Gr h h' → W c p σ h'
  | .bad => False
def tI (P : Hs → Hs → Prop) (K : PySem.W.Frag) (W : WF) (f : IF) : TI := fun σ H R => ∃ h ρ, h.H = H ∧ Rel K h ρ σ ∧ PI1 P K W h ρ σ R (f ρ)
section
variable {K : PySem.W.Frag} {W : WF} {X : Cx} {e a b : Expr} {tg : Expr} {f g : EF} {p pos : Pos} {P : Hs → Hs → Prop}
theorem piTo {t t' : TI} (h : PI X tg e t) (i : ∀ σ H R, t' σ H R → t σ H R) : PI X tg e t' := ⟨fun pins s σ H R I hw => h.run pins s σ H R I (i σ H R hw)⟩
theorem piOr {t t' : TI} (h : PI X tg e t) (h' : PI X tg e t') : PI X tg e (fun σ H R => t σ H R ∨ t' σ H R) := ⟨fun pins s σ H R I hw => hw.elim (h.run pins s σ H R I) (h'.run pins s σ H R I)⟩
theorem PI1.shift {h h1 : Hs} {ρ : Env} {σ : L2.St} {R : It → Hp → Prop} (g : Gr h h1) : ∀ {e : Er (List Rv)}, PI1 P K W h ρ σ R e → PI1 P K W h1 ρ σ R e
  | .ok r, q => fun J h' R g' ok => q J h' R (g.trans g') ok
  | .exc c p, q => fun h' R g' => q h' R (g.trans g')
  | .bad, q => q
theorem PI1.bindE {h : Hs} {ρ : Env} {σ : L2.St} {QA : It → Hp → Prop} {e : Er Rv} {k : Rv → Er (List Rv)} (q : PI1 P K W h ρ σ QA (e.bind k)) {Q' : VK}
    (hk : ∀ a v h', e = .ok a → Rel K h' ρ σ → Gr h h' → RvOk K h.H h' v a → PI1 P K W h' ρ σ QA (k a) → Q' v h'.H) : PE1 K W h ρ σ Q' e := by
  cases e with
  | ok a => exact fun v h' R g ok => hk a v h' rfl R g ok (PI1.shift g q)
  | exc c p => exact q
  | bad => exact q
theorem PI1.bindA {h : Hs} {ρ : Env} {σ : L2.St} {QA : It → Hp → Prop} {e : Er (List Rv)} {k : List Rv → Er (List Rv)} (q : PI1 P K W h ρ σ QA (e.bind k)) {Q' : List V → Hp → Prop}
    (hk : ∀ a v h', e = .ok a → Rel K h' ρ σ → Gr h h' → RvsOk K h' v a → PI1 P K W h' ρ σ QA (k a) → Q' v h'.H) : PA1 K W h ρ σ Q' e := by
  cases e with
  | ok a => exact fun v h' R g ok => hk a v h' rfl R g ok (PI1.shift g q)
  | exc c p => exact q
  | bad => exact q
/-- in statements: what is walked must stay for good -/
def itS (a : Rv) : Er (List Rv) := match a with
  | .v (.tuple xs) => .ok (xs.map .v)
  | .v (.list xs) => .ok (xs.map .v)
  | .b (.tuple xs) => .ok (xs.map .b)
  | .b (.list xs) => .ok (xs.map .b)
  | .o xs => .ok (xs.map .v)
  | _ => .bad
/-- in comprehensions -/
def itC (a : Rv) : Er (List Rv) := match a.items with
  | some rs => .ok rs
  | none => .bad
/-- a walk over a list, a tuple whose holder's items are known by mk at the heap proj -/
theorem itl_ok {h0 : Hs} {rs : List Rv} {a : Addr} {vs : List V} (hs : ∀ h, P h0 h → Ch h → SqL K h.H a vs) (hv : ∀ h, P h0 h → Ch h → VsF K h vs rs) : ItOk P K (Itl K a) h0 rs where
  go := fun i h p c hi => by
    have q := hv h p c
    have hi' : i < vs.length := by rw [q.len]; exact hi
    exact ⟨vs, vs[i], hs h p c, List.getElem?_eq_getElem hi'⟩
  stop := fun i h p c hi => ⟨vs, hs h p c, by rw [(hv h p c).len]; exact hi⟩
  yld := fun i h v H' p c hi y => by
    obtain ⟨e, y⟩ := y
    subst e
    obtain ⟨r, e1, e2⟩ := (hv h p c).get (y vs (hs h p c))
    exact ⟨h, r, rfl, Gr.refl h, c, e1, e2⟩
theorem itt_ok {h0 : Hs} {rs : List Rv} {a : Addr} {vs : List V} (hs : ∀ h, P h0 h → Ch h → SqT K h.H a vs) (hv : ∀ h, P h0 h → Ch h → VsF K h vs rs) : ItOk P K (Itt K a) h0 rs where
  go := fun i h p c hi => by
    have q := hv h p c
    have hi' : i < vs.length := by rw [q.len]; exact hi
    exact ⟨vs, vs[i], hs h p c, List.getElem?_eq_getElem hi'⟩
  stop := fun i h p c hi => ⟨vs, hs h p c, by rw [(hv h p c).len]; exact hi⟩
  yld := fun i h v H' p c hi y => by
    obtain ⟨e, y⟩ := y
    subst e
    obtain ⟨r, e1, e2⟩ := (hv h p c).get (y vs (hs h p c))
    exact ⟨h, r, rfl, Gr.refl h, c, e1, e2⟩
theorem VsF.grow {h h' : Hs} (g : Gr h h') : ∀ {vs : List V} {rs : List Rv}, VsF K h vs rs → VsF K h' vs rs
  | [], [], _ => trivial
  | _ :: _, _ :: _, q => ⟨q.1.grow g, VsF.grow g q.2⟩
  | [], _ :: _, q => q
  | _ :: _, [], q => q
/-- what holds a statement's walk: data that stays -/
theorem keepS {h0 h : Hs} {ρ : Env} {σ : L2.St} (R0 : Rel K h0 ρ σ) (R : Rel K h ρ σ) (g : Gr h0 h) {v : V} {a : Rv} {rs : List Rv} (e : itS a = .ok rs) (ok : RvOk K h0.H h v a) :
    ∃ h' p vs, h'.H = h.H ∧ Rel K h' ρ σ ∧ Gr h0 h' ∧ v = .ref p ∧ (∀ h2, SG h' h2 → Ch h2 → VsF K h2 vs rs) ∧ ((∀ h2, SG h' h2 → Ch h2 → SqL K h2.H p vs) ∨ (∀ h2, SG h' h2 → Ch h2 → SqT K h2.H p vs)) := by
  unfold itS at e
  split at e
  · cases e
    obtain ⟨p, vs, rfl, s, d⟩ := dp_tup ok
    exact ⟨h, p, vs, rfl, R, g, rfl, fun h2 s2 c2 => vsf_map (mk := Rv.v) (fun _ _ q => q) (ex_dpa s2.g d), .inr fun h2 s2 c2 => ex_t (s2.g.trans c2.gh) s⟩
  · cases e
    obtain ⟨p, vs, rfl, s, d⟩ := dp_lst ok
    exact ⟨h, p, vs, rfl, R, g, rfl, fun h2 s2 c2 => vsf_map (mk := Rv.v) (fun _ _ q => q) (ex_dpa s2.g d), .inl fun h2 s2 c2 => ex_l (s2.g.trans c2.gh) s⟩
  · cases e
    obtain ⟨p, vs, rfl, s, d⟩ := dp_tup ok
    exact ⟨h, p, vs, rfl, R, g, rfl, fun h2 s2 c2 => vsf_map (mk := Rv.b) (fun _ _ q => q) (ex_dpa s2.f d), .inr fun h2 s2 c2 => ex_t (s2.f.trans c2.fh) s⟩
  · cases e
    obtain ⟨p, vs, rfl, s, d⟩ := dp_lst ok
    exact ⟨h, p, vs, rfl, R, g, rfl, fun h2 s2 c2 => vsf_map (mk := Rv.b) (fun _ _ q => q) (ex_dpa s2.f d), .inl fun h2 s2 c2 => ex_l (s2.f.trans c2.fh) s⟩
  · rename_i xs
    cases e
    obtain ⟨h', eh, R', g', ok'⟩ := frz_ok R0 R g (a := .o xs) rfl ok
    obtain ⟨p, vs, rfl, s, d⟩ := dp_lst ok'
    exact ⟨h', p, vs, eh, R', g', rfl, fun h2 s2 c2 => vsf_map (mk := Rv.v) (fun _ _ q => q) (ex_dpa s2.g d), .inl fun h2 s2 c2 => ex_l (s2.g.trans c2.gh) s⟩
  · cases e
theorem keepC {h0 h : Hs} {ρ : Env} {σ : L2.St} (R : Rel K h ρ σ) {v : V} {a : Rv} {rs : List Rv} (e : itC a = .ok rs) (ok : RvOk K h0.H h v a) :
    ∃ p vs, v = .ref p ∧ (∀ h2, Gr h h2 → Ch h2 → VsF K h2 vs rs) ∧ ((∀ h2, Gr h h2 → Ch h2 → SqL K h2.H p vs) ∨ (∀ h2, Gr h h2 → Ch h2 → SqT K h2.H p vs)) := by
  unfold itC at e
  split at e
  · rename_i rs' e'
    cases e
    obtain ⟨p, vs, rfl, hs, q⟩ := items_ok R.ch e' ok
    refine ⟨p, vs, rfl, fun h2 g c => q.grow g, ?_⟩
    rcases hs with hs | hs
    · exact .inl fun h2 g c => ex_l g.x hs
    · exact .inr fun h2 g c => ex_t g.x hs
  · cases e
def itF (it : Rv → Er (List Rv)) (f : EF) : IF := fun ρ => (f ρ).bind it
/-- a list or a tuple walked -/
def iSeq (K : PySem.W.Frag) (tl : TE) : TI := fun σ H R => tl σ H fun x H1 => ∃ a xs, x = .ref a ∧ ((SqL K H1 a xs ∧ R (Itl K a) H1) ∨ (SqT K H1 a xs ∧ R (Itt K a) H1))
theorem pi_seq {tl : TE} (hl : PE X e tl) : PI X tg e (iSeq X.K tl) := by
  refine ⟨fun pins s σ H R I h => ?_⟩
  refine thn (hl.run pins s σ H _ I h) fun v s1 ⟨x, H1, I1, r1, q1⟩ => ?_
  obtain ⟨a, xs, e, q⟩ := q1
  subst e
  cases r1
  rcases q with ⟨hq, q⟩ | ⟨hq, q⟩
  · obtain ⟨its, rv, p, hz⟩ := I1.list hq
    refine wpAny_pyIter_list p.isList ?_
    refine ⟨s1.heap.objs.size, [s1.heap.objs.size], _, _, H1, rfl, I1.kept (t' := s1.toks) fun b o e => Heap.get?_push_of_some _ e, turn_list a _, ⟨_, Heap.get?_push_size _ rfl, rfl, rfl⟩, fun b hb => ?_, q⟩
    have e : b = s1.heap.objs.size := by simpa using hb
    subst e
    exact I1.fpOk (Nat.le_refl _) (I1.hok.fresh (Nat.le_refl _))
  · obtain ⟨its, rv, p, hz⟩ := I1.tuple hq
    refine wpAny_pyIter_tuple (show s1.heap.IsTuple a its.toArray from p) ?_
    refine ⟨s1.heap.objs.size, [s1.heap.objs.size], _, _, H1, rfl, I1.kept (t' := s1.toks) fun b o e => Heap.get?_push_of_some _ e, turn_tuple a _, ⟨_, Heap.get?_push_size _ rfl, rfl, rfl⟩, fun b hb => ?_, q⟩
    have e : b = s1.heap.objs.size := by simpa using hb
    subst e
    exact I1.fpOk (Nat.le_refl _) (I1.hok.fresh (Nat.le_refl _))
theorem itS_ne {a : Rv} {c : Str} {p : Option (Str × D)} : itS a ≠ .exc c p := by
  intro e
  unfold itS at e
  split at e <;> cases e
theorem itC_ne {a : Rv} {c : Str} {p : Option (Str × D)} : itC a ≠ .exc c p := by
  intro e
  unfold itC at e
  split at e <;> cases e
theorem sgch {h' : Hs} (c : Ch h') : SG h' h' := SG.refl h'
/-- a sequence walked, in a statement -/
theorem xiS (he : PE X e (tX X.K W f)) : PI X tg e (tI SG X.K W (itF itS f)) := by
  refine piTo (pi_seq he) fun σ H R q => ?_
  obtain ⟨h, ρ, rfl, Rl, q⟩ := q
  refine tX_mk Rl (PI1.bindE q fun a v h1 _ R1 g1 ok1 q1 => ?_)
  cases ei : itS a with
  | bad => rw [ei] at q1; exact q1.elim
  | exc c p => exact absurd ei itS_ne
  | ok rs =>
    rw [ei] at q1
    obtain ⟨h2, p, vs, eh, R2, g2, rfl, hv, hs⟩ := keepS Rl R1 g1 ei ok1
    have q2 : PI1 SG X.K W h ρ σ R (.ok rs) := by
      unfold itF at q
      have : f ρ = .ok a := by assumption
      rw [this] at q
      have q' : PI1 SG X.K W h ρ σ R (itS a) := q
      rw [ei] at q'
      exact q'
    rw [← eh]
    have c2 := R2.ch
    rcases hs with hs | hs
    · exact ⟨p, vs, rfl, .inl ⟨hs h2 (SG.refl _) c2, q2 _ h2 R2 g2 (itl_ok hs hv)⟩⟩
    · exact ⟨p, vs, rfl, .inr ⟨hs h2 (SG.refl _) c2, q2 _ h2 R2 g2 (itt_ok hs hv)⟩⟩
/-- in a comprehension -/
theorem xiC (he : PE X e (tX X.K W f)) : PI X tg e (tI Gr X.K W (itF itC f)) := by
  refine piTo (pi_seq he) fun σ H R q => ?_
  obtain ⟨h, ρ, rfl, Rl, q⟩ := q
  refine tX_mk Rl (PI1.bindE q fun a v h1 _ R1 g1 ok1 q1 => ?_)
  cases ei : itC a with
  | bad => rw [ei] at q1; exact q1.elim
  | exc c p => exact absurd ei itC_ne
  | ok rs =>
    rw [ei] at q1
    obtain ⟨p, vs, rfl, hv, hs⟩ := keepC R1 ei ok1
    have c2 := R1.ch
    rcases hs with hs | hs
    · exact ⟨p, vs, rfl, .inl ⟨hs h1 (Gr.refl _) c2, q1 _ h1 R1 (Gr.refl _) (itl_ok hs hv)⟩⟩
    · exact ⟨p, vs, rfl, .inr ⟨hs h1 (Gr.refl _) c2, q1 _ h1 R1 (Gr.refl _) (itt_ok hs hv)⟩⟩
/-! range -/
def rgR (lo hi : Int) : List Rv := (List.range (hi - lo).toNat).map fun i => .v (.int (lo + (i : Nat)))
def rg1F (f : EF) : IF := fun ρ => (f ρ).bind fun a => match a.dat with
  | some (.int n) => if n ≤ 1000000 ∧ -1000000 ≤ n then .ok (rgR 0 n) else .bad
  | _ => .bad
def rg2F (f g : EF) : IF := fun ρ => (f ρ).bind fun a => (g ρ).bind fun b => match a.dat, b.dat with
  | some (.int i), some (.int j) => if (i ≤ 1000000 ∧ -1000000 ≤ i) ∧ (j ≤ 1000000 ∧ -1000000 ≤ j) then .ok (rgR i j) else .bad
  | _, _ => .bad
theorem itr_ok {h0 : Hs} {lo hi : Int} : ItOk P K (Itr lo (hi - lo).toNat) h0 (rgR lo hi) where
  go := fun i h p c hi' => by
    unfold rgR at hi'
    have hi2 : i < (hi - lo).toNat := by simpa using hi'
    exact hi2
  stop := fun i h p c hi' => by
    unfold rgR at hi'
    have : (hi - lo).toNat ≤ i := by simpa using hi'
    exact this
  yld := fun i h v H' p c hi' y => by
    obtain ⟨e1, e2⟩ := y
    unfold rgR at hi' ⊢
    subst e1 e2
    refine ⟨h, .v (.int (lo + (i : Nat))), rfl, Gr.refl h, c, ?_, .int _⟩
    rw [List.getElem?_map, List.getElem?_range (by simpa using hi')]
    rfl
theorem PI1.bindE2 {h : Hs} {ρ : Env} {σ : L2.St} {QA : It → Hp → Prop} {e : Er Rv} {k : Rv → Er (List Rv)} (q : PI1 P K W h ρ σ QA (e.bind k)) {Q' : List V → Hp → Prop}
    (hk : ∀ a v h', e = .ok a → Rel K h' ρ σ → Gr h h' → RvOk K h.H h' v a → PI1 P K W h' ρ σ QA (k a) → Q' [v] h'.H) : PE1 K W h ρ σ (fun v H => Q' [v] H) e := PI1.bindE q hk
theorem xrg1 (hg : Gl X "range") (hm : X.mg "range" = none) (ha : PE X a (tX X.K W f)) (hs : starEach [a] X.env = [(false, eval a X.env)] := by rfl) (hs1 : starEach [a] X.env = (false, eval a X.env) :: starEach [] X.env := by rfl) : PI X tg (.Call (.Name "range" p) [a] [] pos) (tI P X.K W (rg1F f)) := by
  refine piTo (pi_range1 hg hm (pa_cons ha pa_nil hs1) hs) fun σ H R q => ?_
  obtain ⟨h, ρ, rfl, Rl, q⟩ := q
  refine tX_mk Rl (PI1.bindE q fun a v h1 _ R1 g1 ok1 q1 => ?_)
  split at q1
  · rename_i n en
    split at q1
    · have ev := dp_int (ok1.dp R1.ch en)
      subst ev
      have e0 : n.toNat = (n - 0).toNat := by omega
      refine ⟨n, rfl, by omega, by omega, ?_⟩
      rw [e0]
      exact q1 _ h1 R1 (Gr.refl _) itr_ok
    · exact q1.elim
  · exact q1.elim
theorem xrg2 (hg : Gl X "range") (hm : X.mg "range" = none) (ha : PE X a (tX X.K W f)) (hb : PE X b (tX X.K W g)) (hs : starEach [a, b] X.env = [(false, eval a X.env), (false, eval b X.env)] := by rfl) (hs2 : starEach [b] X.env = [(false, eval b X.env)] := by rfl)
    (hs3 : starEach [a, b] X.env = (false, eval a X.env) :: starEach [b] X.env := by rfl) (hs4 : starEach [b] X.env = (false, eval b X.env) :: starEach [] X.env := by rfl) : PI X tg (.Call (.Name "range" p) [a, b] [] pos) (tI P X.K W (rg2F f g)) := by
  refine piTo (pi_range2 hg hm (pa_cons ha (pa_cons hb pa_nil hs4) hs3) hs hs2) fun σ H R q => ?_
  obtain ⟨h, ρ, rfl, Rl, q⟩ := q
  show tX X.K W f σ h.H fun x H1 => tX X.K W g σ H1 fun y H2 => ∃ i j : Int, [x, y] = [V.int i, V.int j] ∧ (-(2 ^ 62) ≤ i ∧ i < 2 ^ 62 ∧ -(2 ^ 62) ≤ j ∧ j < 2 ^ 62) ∧ R (Itr i (j - i).toNat) H2
  refine (tX_mk (f := f) Rl (PI1.bindE q fun a v h1 _ R1 g1 ok1 q1 => ?_) : tX X.K W f σ h.H _)
  refine (tX_mk (f := g) R1 (PI1.bindE q1 fun b v2 h2 _ R2 g2 ok2 q2 => ?_) : tX X.K W g σ h1.H _)
  split at q2
  · rename_i i j ei ej
    split at q2
    · have ev := dp_int ((ok1.grow g2).dp R2.ch ei)
      subst ev
      have ev := dp_int (ok2.dp R2.ch ej)
      subst ev
      exact ⟨i, j, rfl, ⟨by omega, by omega, by omega, by omega⟩, q2 _ h2 R2 (Gr.refl _) itr_ok⟩
    · exact q2.elim
  · exact q2.elim
/-! enumerate -/
def enR (n : Nat) : List Rv → List Rv
  | [] => []
  | .v d :: rs => .v (.tuple [.int n, d]) :: enR (n + 1) rs
  | .b d :: rs => .b (.tuple [.int n, d]) :: enR (n + 1) rs
  | .r d :: rs => .r (.tuple [.int n, d]) :: enR (n + 1) rs
  | r :: rs => r :: enR (n + 1) rs
theorem enR_len : ∀ (n : Nat) (rs : List Rv), (enR n rs).length = rs.length
  | _, [] => rfl
  | n, r :: rs => by cases r <;> simp [enR, enR_len (n + 1) rs]
theorem enR_get : ∀ {rs : List Rv} {n i : Nat} {r : Rv}, rs[i]? = some r → ∃ q, (enR n rs)[i]? = some q ∧ (∀ d, r = .v d → q = .v (.tuple [.int ((n + i : Nat) : Int), d])) ∧ (∀ d, r = .b d → q = .b (.tuple [.int ((n + i : Nat) : Int), d])) ∧ (∀ d, r = .r d → q = .r (.tuple [.int ((n + i : Nat) : Int), d]))
  | [], _, _, _, e => by simp at e
  | r' :: rs, n, 0, r, e => by
    have e' : r' = r := by simpa using e
    subst e'
    cases r' <;> exact ⟨_, rfl, fun d z => by cases z <;> rfl, fun d z => by cases z <;> rfl, fun d z => by cases z <;> rfl⟩
  | r' :: rs, n, i + 1, r, e => by
    obtain ⟨q, e1, e2⟩ := enR_get (n := n + 1) (i := i) (rs := rs) (r := r) (by simpa using e)
    have en : n + 1 + i = n + (i + 1) := by omega
    rw [en] at e2
    exact ⟨q, by cases r' <;> simpa [enR] using e1, e2⟩
/-- a new pair -/
theorem pair_new {h : Hs} (c : Ch h) {T : Addr} {H' : Hp} (n : h.H T = none) {v : V} {r q : Rv} {i : Nat} (ok : RvF K h v r) (hq : (∀ d, r = .v d → q = .v (.tuple [.int ((i : Nat) : Int), d])) ∧ (∀ d, r = .b d → q = .b (.tuple [.int ((i : Nat) : Int), d])) ∧ (∀ d, r = .r d → q = .r (.tuple [.int ((i : Nat) : Int), d])))
    (nt : NewT h.H T [.int (i : Nat), v] H') : ∃ h', h'.H = H' ∧ Gr h h' ∧ Ch h' ∧ RvF K h' (.ref T) q := by
  obtain ⟨o, od, rfl⟩ := nt
  cases r with
  | v d =>
    rw [hq.1 d rfl]
    exact ⟨h.newV T (.frz o (.tup [.int (i : Nat), v])), rfl, Gr.newV c n, c.newV, Dp.tup upd_same od (.cons (.int _) (.cons (ex_dp (Ex.new (c.gN n)) ok) .nil))⟩
  | b d =>
    rw [hq.2.1 d rfl]
    exact ⟨h.newB T (.frz o (.tup [.int (i : Nat), v])), rfl, Gr.newB c n, c.newB n, Dp.tup upd_same od (.cons (.int _) (.cons (ex_dp (Ex.new (c.fN n)) ok) .nil))⟩
  | r d =>
    rw [hq.2.2 d rfl]
    exact ⟨h.newO T (.frz o (.tup [.int (i : Nat), v])), rfl, Gr.newO c n, c.newO n, Dp.tup upd_same od (.cons (.int _) (.cons (ex_dp (Ex.new n) ok) .nil))⟩
  | _ => exact ok.elim
theorem ite_ok {h0 : Hs} {rs : List Rv} {a : Addr} {vs : List V} (hs : ∀ h, P h0 h → Ch h → SqL K h.H a vs) (hv : ∀ h, P h0 h → Ch h → VsF K h vs rs) : ItOk P K (IteF K true a) h0 (enR 0 rs) where
  go := fun i h p c hi => by
    rw [enR_len] at hi
    have hi' : i < vs.length := by rw [(hv h p c).len]; exact hi
    exact ⟨vs, vs[i], hs h p c, List.getElem?_eq_getElem hi'⟩
  stop := fun i h p c hi => ⟨vs, hs h p c, by rw [(hv h p c).len, ← enR_len 0 rs]; exact hi⟩
  yld := fun i h v H' p c hi y => by
    obtain ⟨T, x, rfl, n, nt, y⟩ := y
    obtain ⟨r, e1, e2⟩ := (hv h p c).get (y vs (hs h p c))
    obtain ⟨q, e3, e4⟩ := enR_get (n := 0) e1
    rw [Nat.zero_add] at e4
    obtain ⟨h', eh, g, c', ok⟩ := pair_new c n e2 e4 nt
    exact ⟨h', q, eh, g, c', e3, ok⟩
theorem itet_ok {h0 : Hs} {rs : List Rv} {a : Addr} {vs : List V} (hs : ∀ h, P h0 h → Ch h → SqT K h.H a vs) (hv : ∀ h, P h0 h → Ch h → VsF K h vs rs) : ItOk P K (IteF K false a) h0 (enR 0 rs) where
  go := fun i h p c hi => by
    rw [enR_len] at hi
    have hi' : i < vs.length := by rw [(hv h p c).len]; exact hi
    exact ⟨vs, vs[i], hs h p c, List.getElem?_eq_getElem hi'⟩
  stop := fun i h p c hi => ⟨vs, hs h p c, by rw [(hv h p c).len, ← enR_len 0 rs]; exact hi⟩
  yld := fun i h v H' p c hi y => by
    obtain ⟨T, x, rfl, n, nt, y⟩ := y
    obtain ⟨r, e1, e2⟩ := (hv h p c).get (y vs (hs h p c))
    obtain ⟨q, e3, e4⟩ := enR_get (n := 0) e1
    rw [Nat.zero_add] at e4
    obtain ⟨h', eh, g, c', ok⟩ := pair_new c n e2 e4 nt
    exact ⟨h', q, eh, g, c', e3, ok⟩
def enF (it : Rv → Er (List Rv)) (f : EF) : IF := fun ρ => (f ρ).bind fun a => (it a).bind fun rs => .ok (enR 0 rs)
section
variable {elts : List Expr} {kk : Nat} {tpos : Pos}
theorem xenS (hg : Gl X "enumerate") (hm : X.mg "enumerate" = none) (he : PE X e (tX X.K W f)) (hs : starEach [e] X.env = (false, eval e X.env) :: starEach [] X.env := by rfl) (hs2 : starEach [e] X.env = [(false, eval e X.env)] := by rfl) :
    PI X (.Tuple elts kk tpos) (.Call (.Name "enumerate" p) [e] [] pos) (tI SG X.K W (enF itS f)) := by
  refine piTo (pi_enumA hg hm he hs hs2) fun σ H R q => ?_
  obtain ⟨h, ρ, rfl, Rl, q⟩ := q
  refine tX_mk Rl (PI1.bindE q fun a v h1 _ R1 g1 ok1 q1 => ?_)
  cases ei : itS a with
  | bad => rw [ei] at q1; exact q1.elim
  | exc c p => exact absurd ei itS_ne
  | ok rs =>
    obtain ⟨h2, p, vs, eh, R2, g2, rfl, hv, hs⟩ := keepS Rl R1 g1 ei ok1
    have q2 : PI1 SG X.K W h ρ σ R (.ok (enR 0 rs)) := by
      unfold enF at q
      have : f ρ = .ok a := by assumption
      rw [this] at q
      have q' : PI1 SG X.K W h ρ σ R ((itS a).bind fun rs => .ok (enR 0 rs)) := q
      rw [ei] at q'
      exact q'
    rw [← eh]
    have c2 := R2.ch
    rcases hs with hs | hs
    · exact ⟨p, vs, rfl, .inl ⟨hs h2 (SG.refl _) c2, q2 _ h2 R2 g2 (ite_ok hs hv)⟩⟩
    · exact ⟨p, vs, rfl, .inr ⟨hs h2 (SG.refl _) c2, q2 _ h2 R2 g2 (itet_ok hs hv)⟩⟩
theorem xenC (hg : Gl X "enumerate") (hm : X.mg "enumerate" = none) (he : PE X e (tX X.K W f)) (hs : starEach [e] X.env = (false, eval e X.env) :: starEach [] X.env := by rfl) (hs2 : starEach [e] X.env = [(false, eval e X.env)] := by rfl) :
    PI X (.Tuple elts kk tpos) (.Call (.Name "enumerate" p) [e] [] pos) (tI Gr X.K W (enF itC f)) := by
  refine piTo (pi_enumA hg hm he hs hs2) fun σ H R q => ?_
  obtain ⟨h, ρ, rfl, Rl, q⟩ := q
  refine tX_mk Rl (PI1.bindE q fun a v h1 _ R1 g1 ok1 q1 => ?_)
  cases ei : itC a with
  | bad => rw [ei] at q1; exact q1.elim
  | exc c p => exact absurd ei itC_ne
  | ok rs =>
    rw [ei] at q1
    obtain ⟨p, vs, rfl, hv, hs⟩ := keepC R1 ei ok1
    have c2 := R1.ch
    rcases hs with hs | hs
    · exact ⟨p, vs, rfl, .inl ⟨hs h1 (Gr.refl _) c2, q1 _ h1 R1 (Gr.refl _) (ite_ok hs hv)⟩⟩
    · exact ⟨p, vs, rfl, .inr ⟨hs h1 (Gr.refl _) c2, q1 _ h1 R1 (Gr.refl _) (itet_ok hs hv)⟩⟩
end
end
end Sq

/-! Comprehensions. -/
namespace Sq
open PySem PySem.Spec PyProof.Rows L2
/-- nothing is raised -/
def WN : WF := fun _ _ _ _ => False
def Er.noX {α : Type} : Er α → Er α
  | .ok a => .ok a
  | _ => .bad
def wipeE (ρ : Env) : List Nat → Env
  | [] => ρ
  | v :: vs => (wipeE ρ vs).set v .u
/-- a result kept in a list -/
def Rv.keep (a : Rv) : Er D := match a with
  | .v d => .ok d
  | .o xs => .ok (.list xs)
  | .b d => if flatD d = true then .ok d else .bad
  | .r d => if flatD d = true then .ok d else .bad
  | _ => .bad
section
variable {φ : TF} {t : Env → Er Bool} {e : EF}
def lcLoop (φ : TF) (t : Env → Er Bool) (e : EF) (ρ : Env) : List Rv → Er (List D)
  | [] => .ok []
  | r :: rs => (φ r ρ).bind fun ρ' => (t ρ').noX.bind fun b =>
    if b = true then (e ρ').noX.bind fun a => a.keep.bind fun d => (lcLoop φ t e ρ rs).bind fun ds => .ok (d :: ds) else lcLoop φ t e ρ rs
def lcF (it : IF) (φ : TF) (vs : List Nat) (t : Env → Er Bool) (e : EF) : EF := fun ρ => (it ρ).bind fun rs => if rs.length ≤ 100000 then (lcLoop φ t e (wipeE ρ vs) rs).bind fun ds => .ok (.o ds) else .bad
def yesT : Env → Er Bool := fun _ => .ok true
end
section
variable {K : PySem.W.Frag} {W : WF} {X : Cx}
theorem noX_ok {α : Type} {e : Er α} {a : α} (h : e.noX = .ok a) : e = .ok a := by
  cases e <;> cases h
  rfl
theorem noX_exc {α : Type} {e : Er α} {c : Str} {p : Option (Str × D)} : e.noX ≠ .exc c p := by
  intro z
  cases e <;> cases z
theorem ebind_ok {α β : Type} {e : Er α} {k : α → Er β} {b : β} (h : e.bind k = .ok b) : ∃ a, e = .ok a ∧ k a = .ok b := by
  cases e with
  | ok a => exact ⟨a, rfl, h⟩
  | exc c p => cases h
  | bad => cases h
theorem keep_ne {a : Rv} {c : Str} {p : Option (Str × D)} : a.keep ≠ .exc c p := by
  intro z
  unfold Rv.keep at z
  split at z <;> first | (cases z; done) | (split at z <;> cases z)
theorem lcLoop_ne {φ : TF} {t : Env → Er Bool} {e : EF} {ρ : Env} (hφ : ∀ r ρ c p, φ r ρ ≠ .exc c p) : ∀ {rs : List Rv} {c : Str} {p : Option (Str × D)}, lcLoop φ t e ρ rs ≠ .exc c p
  | [], _, _, z => by cases z
  | r :: rs, c, p, z => by
    unfold lcLoop at z
    cases e1 : φ r ρ with
    | exc c p => exact hφ _ _ _ _ e1
    | bad => rw [e1] at z; cases z
    | ok ρ' =>
      rw [e1] at z
      dsimp only [Er.bind] at z
      cases e2 : (t ρ').noX with
      | exc c p => exact noX_exc e2
      | bad => rw [e2] at z; cases z
      | ok b =>
        rw [e2] at z
        dsimp only at z
        cases b with
        | false => exact lcLoop_ne hφ z
        | true =>
          rw [if_pos rfl] at z
          cases e3 : (e ρ').noX with
          | exc c p => exact noX_exc e3
          | bad => rw [e3] at z; cases z
          | ok a =>
            rw [e3] at z
            dsimp only at z
            cases e4 : a.keep with
            | exc c p => exact keep_ne e4
            | bad => rw [e4] at z; cases z
            | ok d =>
              rw [e4] at z
              dsimp only at z
              cases e5 : lcLoop φ t e ρ rs with
              | exc c p => exact lcLoop_ne hφ e5
              | bad => rw [e5] at z; cases z
              | ok ds => rw [e5] at z; cases z
theorem Rel.wipe {h : Hs} {ρ : Env} {σ : L2.St} (R : Rel K h ρ σ) : ∀ vs : List Nat, Rel K h (wipeE ρ vs) (wipe σ vs)
  | [] => R
  | v :: vs => by
    have ih := R.wipe vs
    refine ⟨ih.ch, by simp [wipeE, L2.wipe, ih.len], fun j s x e1 e2 => ?_, fun j k s u l m hjk e1 e2 o1 o2 e3 e4 => ?_⟩
    · unfold wipeE at e1
      unfold L2.wipe at e2
      by_cases hj : v = j
      · subst hj
        rw [List.getElem?_set] at e1
        simp only [if_true] at e1
        split at e1
        · cases e1; trivial
        · cases e1
      · rw [List.getElem?_set_ne hj] at e1 e2
        exact ih.at_ j s x e1 e2
    · unfold wipeE at e1 e2
      unfold L2.wipe at e3 e4
      have nj : v ≠ j := fun z => by
        subst z
        rw [List.getElem?_set] at e1
        simp only [if_true] at e1
        split at e1
        · cases e1; cases o1
        · cases e1
      have nk : v ≠ k := fun z => by
        subst z
        rw [List.getElem?_set] at e2
        simp only [if_true] at e2
        split at e2
        · cases e2; cases o2
        · cases e2
      rw [List.getElem?_set_ne nj] at e1 e3
      rw [List.getElem?_set_ne nk] at e2 e4
      exact ih.dis j k s u l m hjk e1 e2 o1 o2 e3 e4
/-- kept: frozen if new -/
theorem keep_ok {h0 h : Hs} {ρ : Env} {σ : L2.St} (R0 : Rel K h0 ρ σ) (R : Rel K h ρ σ) (g : Gr h0 h) {v : V} {a : Rv} {d : D} (e : a.keep = .ok d) (ok : RvOk K h0.H h v a) : ∃ h', h'.H = h.H ∧ Rel K h' ρ σ ∧ Gr h0 h' ∧ Dp K h'.G v d := by
  unfold Rv.keep at e
  split at e
  · cases e; exact ⟨h, rfl, R, g, ok⟩
  · rename_i xs
    cases e
    obtain ⟨h', eh, R', g', ok'⟩ := frz_ok R0 R g (a := .o xs) rfl ok
    exact ⟨h', eh, R', g', ok'⟩
  · split at e
    · cases e; exact ⟨h, rfl, R, g, dp_flatG (by assumption) ok⟩
    · cases e
  · split at e
    · cases e; exact ⟨h, rfl, R, g, dp_flatG (by assumption) ok⟩
    · cases e
  · cases e
/-- the reading of a comprehension -/
theorem lcX_of {it : IF} {φ : TF} {vs : List Nat} {t : Env → Er Bool} {e : EF} (hφ : ∀ r ρ c p, φ r ρ ≠ .exc c p) :
    ∀ σ H Q, tX K W (lcF it φ vs t e) σ H Q → tLc (tI Gr K W it) (tG K vs φ) (tXt K WN t) (tX K WN e) vs σ H Q := by
  intro σ H Q q
  obtain ⟨h, ρ, rfl, R, q⟩ := tX_iff.mp q
  unfold lcF at q
  refine ⟨h, ρ, rfl, R, ?_⟩
  cases ei : it ρ with
  | bad => rw [ei] at q; exact q
  | exc c p => rw [ei] at q; exact q
  | ok rs =>
    rw [ei] at q
    dsimp only [Er.bind] at q
    intro J h1 R1 g1 iok Dl hD
    split at q
    · rename_i hlen
      cases el : lcLoop φ t e (wipeE ρ vs) rs with
      | bad => rw [el] at q; exact q.elim
      | exc c p => exact absurd el (lcLoop_ne hφ)
      | ok ds =>
        rw [el] at q
        have q : PE1 K W h ρ σ Q (.ok (.o ds)) := q
        -- the invariant: done ++ rest = ds, the list holds done
        let Wv : Nat → Nat → Hp → Prop := fun i m H => m = rs.length - i ∧ i ≤ rs.length ∧ ∃ (h' : Hs) (done rest : List D) (acc : List V), h'.H = H ∧ Ch h' ∧ Gr h1 h' ∧ ds = done ++ rest ∧ done.length ≤ i ∧
          lcLoop φ t e (wipeE ρ vs) (rs.drop i) = .ok rest ∧ h'.H Dl = some (.lst acc) ∧ h'.F Dl = none ∧ DpAll K h'.G acc done
        refine ⟨Wv, ⟨rs.length, by omega, by omega, h1.newO Dl (.lst []), [], ds, [], rfl, R1.ch.newO hD, Gr.newO R1.ch hD, rfl, Nat.le_refl _, el, upd_same, R1.ch.fN hD, .nil⟩, ?_⟩
        rintro i m H1 ⟨em, hi, h2, done, rest, acc, rfl, c2, g2, eds, hdl, elr, hDl, fDl, dpa⟩
        have R2 : Rel K h2 ρ σ := R1.grow g2 c2
        by_cases hlt : i < rs.length
        · refine .inr ⟨iok.go i h2 g2 c2 hlt, fun H' => Wv (i + 1) (rs.length - (i + 1)) H', fun H' w => ⟨_, by omega, w⟩, fun x H' y => ?_⟩
          obtain ⟨h3, r, rfl, g3, c3, er, okr⟩ := iok.yld i h2 x H' g2 c2 hlt y
          have R3 : Rel K h3 ρ σ := R2.grow g3 c3
          have edrop : rs.drop i = r :: rs.drop (i + 1) := by
            obtain ⟨hh, e2⟩ := List.getElem?_eq_some_iff.mp er
            rw [List.drop_eq_getElem_cons hh, e2]
          rw [edrop] at elr
          unfold lcLoop at elr
          obtain ⟨ρ', e1, elr⟩ := ebind_ok elr
          obtain ⟨b, e2, elr⟩ := ebind_ok elr
          have e2 := noX_ok e2
          refine ⟨h3, h3, wipeE ρ vs, r, ρ', rfl, R3.wipe vs, R3.wipe vs, okr.rv, e1, fun σ' R' hw => ⟨hw.wipe.trans (wipe_twice σ), ?_⟩⟩
          refine tXt_mk R' ?_
          rw [e2]
          intro h4 R4 g4
          cases b with
          | false =>
            rw [if_neg (by decide)]
            rw [if_neg (by decide)] at elr
            exact ⟨rfl, hlt, h4, done, rest, acc, rfl, R4.ch, (g2.trans g3).trans g4, eds, by omega, elr, g4.x _ _ (g3.x _ _ hDl), g4.keepN (g3.keepN fDl hDl) (g3.x _ _ hDl), ex_dpa (g3.trans g4).g dpa⟩
          | true =>
            rw [if_pos rfl]
            rw [if_pos rfl] at elr
            obtain ⟨a, e3, elr⟩ := ebind_ok elr
            have e3 := noX_ok e3
            obtain ⟨d, e4, elr⟩ := ebind_ok elr
            obtain ⟨rest', e5, elr⟩ := ebind_ok elr
            cases elr
            refine tX_mk R4 ?_
            rw [e3]
            intro v h5 R5 g5 ok5
            obtain ⟨h6, eh, R6, g6, ok6⟩ := keep_ok R4 R5 g5 e4 ok5
            have g46 : Gr h2 h6 := (g3.trans g4).trans g6
            have hD6 : h6.H Dl = some (.lst acc) := g46.x _ _ hDl
            have fD6 : h6.F Dl = none := g46.keepN fDl hDl
            rw [← eh]
            refine ⟨acc, hD6, ?_, rfl, hlt, ⟨h6.G, h6.F, upd h6.H Dl (.lst (acc ++ [v]))⟩, done ++ [d], rest', acc ++ [v], rfl, ⟨R6.ch.gf, Ex.mut R6.ch.fh fD6⟩, ?_, ?_, ?_, e5, upd_same, fD6, ?_⟩
            · rw [dpa.len]
              exact Nat.lt_of_le_of_lt hdl (Nat.lt_of_lt_of_le hlt (sz100 hlen))
            · have gg := g2.trans g46
              exact ⟨gg.g, gg.f, Ex.mut gg.x hD, gg.gn, gg.fn⟩
            · rw [eds, List.append_assoc]
              rfl
            · rw [List.length_append]
              show done.length + 1 ≤ i + 1
              omega
            · exact (ex_dpa g46.g dpa).snoc ok6
        · have hi' : i = rs.length := by omega
          subst hi'
          rw [List.drop_length] at elr
          cases elr
          rw [List.append_nil] at eds
          subst eds
          refine .inl ⟨iok.stop _ h2 g2 c2 (Nat.le_refl _), ?_⟩
          exact q _ h2 R2 (g1.trans g2) ⟨Dl, acc, rfl, g1.x.back hD, hDl, fDl, dpa⟩
    · exact q.elim
variable {elt tg iter : Expr} {ifs : List Expr} {scope : Scope} {own : List (Str × Nat)} {pos : Pos} {it : IF} {φ : TF} {t : Env → Er Bool} {e : EF}
abbrev BlkE (X : Cx) (scope : Scope) (elt : Expr) (te : TE) : Prop := ∀ (s : Shared) (H : Hp) (C : Addr) (cl : List (Str × Addr)) (fp : List Addr), PE (X.blk s H scope (compEnvC scope cl C X.env) fp) elt te
abbrev BlkG (X : Cx) (scope : Scope) (tg : Expr) (g : TG) : Prop := ∀ (s : Shared) (H : Hp) (C : Addr) (cl : List (Str × Addr)) (fp : List Addr), PG (X.blk s H scope (compEnvC scope cl C X.env) fp) tg g
abbrev BlkT (X : Cx) (scope : Scope) (ifs : List Expr) (t : TT) : Prop := ∀ (s : Shared) (H : Hp) (C : Addr) (cl : List (Str × Addr)) (fp : List Addr), PTs (X.blk s H scope (compEnvC scope cl C X.env) fp) ifs t
theorem asgn_ne {i : Nat} : ∀ r ρ c p, asgn i r ρ ≠ .exc c p := by
  intro r ρ c p e
  unfold asgn at e
  split at e <;> first | (cases e; done) | (split at e <;> cases e)
theorem unpk_ne {φs : List TF} (h : ∀ φ ∈ φs, ∀ r ρ c p, φ r ρ ≠ .exc c p) : ∀ rs ρ c p, unpk φs rs ρ ≠ .exc c p := by
  induction φs with
  | nil =>
    intro rs ρ c p e
    cases rs <;> cases e
  | cons φ φs ih =>
    intro rs ρ c p e
    cases rs with
    | nil => cases e
    | cons r rs =>
      unfold unpk at e
      cases e1 : φ r ρ with
      | exc c p => exact h φ List.mem_cons_self _ _ _ _ e1
      | bad => rw [e1] at e; cases e
      | ok ρ' =>
        rw [e1] at e
        exact ih (fun ψ hψ => h ψ (List.mem_cons_of_mem _ hψ)) rs ρ' c p e
theorem unpT_ne {φs : List TF} (h : ∀ φ ∈ φs, ∀ r ρ c p, φ r ρ ≠ .exc c p) : ∀ r ρ c p, unpT φs r ρ ≠ .exc c p := by
  intro r ρ c p e
  unfold unpT at e
  split at e
  · split at e
    · exact unpk_ne h _ _ _ _ e
    · cases e
  · cases e
theorem xyes : PTs X [] (tXt X.K WN yesT) := ⟨fun pins s σ H Q I hw => pts_nil.run pins s σ H Q I (by
  obtain ⟨h, ρ, rfl, R, q⟩ := tXt_iff.mp hw
  exact q h R (Gr.refl h))⟩
theorem xlc (hc : X.calm = true) (hN : X.N.Nodup) (hφ : ∀ r ρ c p, φ r ρ ≠ .exc c p) (hi : PI X tg iter (tI Gr X.K W it)) (ok : BlkOk X.N X.env.scope scope own) (hg : BlkG X scope tg (tG X.K (own.map (·.2)) φ)) (ht : BlkT X scope ifs (tXt X.K WN t)) (he : BlkE X scope elt (tX X.K WN e))
    (hs : ∀ x, foldedSetIterable iter X.env x = pure x := by intro _; rfl) : PE X (.ListComp elt [⟨tg, iter, ifs, 0⟩] scope pos) (tX X.K W (lcF it φ (own.map (·.2)) t e)) :=
  peTo (pe_lc hc hN hi ok hg ht he hs) (lcX_of hφ)
/-- y = [..] -/
theorem xsetLcT {i : Nat} {y : Str} {py spos : Pos} (hc : X.calm = true) (hN : X.N.Nodup) (hy : X.N[i]? = some y) (hyl : X.env.scope.names.lookup y = some .local) (hsw : swapsWith (.ListComp elt [⟨tg, iter, ifs, 0⟩] scope pos) (some (.Name y py)) spos.line X.env = pure true)
    (hφ : ∀ r ρ c p, φ r ρ ≠ .exc c p) (hi : PI X tg iter (tI Gr X.K W it)) (ok : BlkOk X.N X.env.scope scope own) (hg : BlkG X scope tg (tG X.K (own.map (·.2)) φ)) (ht : BlkT X scope ifs (tXt X.K WN t)) (he : BlkE X scope elt (tX X.K WN e))
    (hs : ∀ x, foldedSetIterable iter X.env x = pure x := by intro _; rfl) : PS X (.Assign [.Name y py] (.ListComp elt [⟨tg, iter, ifs, 0⟩] scope pos) spos) (tAsg (tX X.K W (lcF it φ (own.map (·.2)) t e)) (gName i)) :=
  psTo (ps_setLc hc hN hy hyl hsw hi ok hg ht he hs) fun D σ H q => lcX_of hφ σ H _ q
end
end Sq

/-! Calls of what is built in. -/
namespace Sq
open PySem PySem.Spec PyProof.Rows L2
section
variable {K : PySem.W.Frag} {W : WF} {X : Cx} {a b e : Expr} {f g : EF} {p pos : Pos}
/-- one argument, as it is -/
def C1Ok (K : PySem.W.Frag) (W : WF) (φ : Rv → Er Rv) (r : List V → Hp → VK → Prop) : Prop :=
  ∀ (h0 h : Hs) (ρ : Env) (σ : L2.St) (x : V) (a : Rv) (Q : VK), Rel K h0 ρ σ → Rel K h ρ σ → Gr h0 h → RvOk K h0.H h x a → PE1 K W h ρ σ Q (φ a) → r [x] h.H Q
theorem c1_of {φ : Rv → Er Rv} {r : List V → Hp → VK → Prop} (hr : C1Ok K W φ r) : ∀ σ H Q, tX K W (unF φ f) σ H Q → tCB r (tCons (tX K W f) tNil) σ H Q := by
  intro σ H Q q
  obtain ⟨h, ρ, rfl, R, q⟩ := tX_iff.mp q
  exact tX_mk R (q.bind fun a x h1 _ R1 g1 ok1 q1 => hr h h1 ρ σ x a Q R R1 g1 ok1 q1)
theorem C1Ok.alt {φ ψ : Rv → Er Rv} {r r' : List V → Hp → VK → Prop} (a : C1Ok K W φ r) (b : C1Ok K W ψ r') : C1Ok K W (fun x => match φ x with | .bad => ψ x | q => q) (fun xs H Q => r xs H Q ∨ r' xs H Q) := fun h0 h ρ σ x a' Q R0 R g o q => by
  dsimp only at q
  cases e : φ a' with
  | ok z =>
    rw [e] at q
    exact .inl (a h0 h ρ σ x a' Q R0 R g o (by rw [e]; exact q))
  | exc c p =>
    rw [e] at q
    exact .inl (a h0 h ρ σ x a' Q R0 R g o (by rw [e]; exact q))
  | bad =>
    rw [e] at q
    exact .inr (b h0 h ρ σ x a' Q R0 R g o q)
/-- len -/
def lenR (a : Rv) : Er Rv := match a with
  | .wk kvs => .ok (.v (.int kvs.length))
  | a => match a.dat with
    | some (.list xs) => .ok (.v (.int xs.length))
    | some (.tuple xs) => .ok (.v (.int xs.length))
    | some (.str s) => if s.length ≤ 100000 then .ok (.v (.int s.length)) else .bad
    | _ => .bad
def rLenA (K : PySem.W.Frag) : List V → Hp → VK → Prop := fun xs H Q => (∃ p ys, xs = [.ref p] ∧ (SqL K H p ys ∨ SqT K H p ys) ∧ Q (.int ys.length) H) ∨ ((∃ z, xs = [.str z] ∧ z.length ≤ sizeLine ∧ Q (.int z.length) H) ∨ ∃ a kvs, xs = [.ref a] ∧ H a = some (.dK kvs) ∧ Q (.int kvs.length) H)
theorem dat_lenR {h : Hs} {ρ : Env} {σ : L2.St} {H0 : Hp} {x : V} {a : Rv} {Q : VK} (R : Rel K h ρ σ) (ok : RvOk K H0 h x a) (q : PE1 K W h ρ σ Q (match a.dat with
    | some (.list xs) => .ok (.v (.int xs.length))
    | some (.tuple xs) => .ok (.v (.int xs.length))
    | some (.str s) => if s.length ≤ 100000 then .ok (.v (.int s.length)) else .bad
    | _ => .bad)) : rLenA K [x] h.H Q := by
  split at q
  · rename_i xs e
    obtain ⟨p, vs, rfl, s, d⟩ := dp_lst (ok.dp R.ch e)
    exact .inl ⟨p, vs, rfl, .inl s, by rw [d.len]; exact q.now R (.int _)⟩
  · rename_i xs e
    obtain ⟨p, vs, rfl, s, d⟩ := dp_tup (ok.dp R.ch e)
    exact .inl ⟨p, vs, rfl, .inr s, by rw [d.len]; exact q.now R (.int _)⟩
  · rename_i s e
    split at q
    · have ex := dp_str (ok.dp R.ch e)
      subst ex
      exact .inr (.inl ⟨s, rfl, sz100 (by assumption), q.now R (.int _)⟩)
    · exact q.elim
  · exact q.elim
theorem ok_len : C1Ok K W lenR (rLenA K) := by
  intro h0 h ρ σ x a Q R0 R g ok q
  unfold lenR at q
  split at q
  · obtain ⟨l, vs, rfl, hl, kd⟩ := ok
    exact .inr (.inr ⟨l, vs, rfl, hl, by rw [kd.len]; exact q.now R (.int _)⟩)
  · exact dat_lenR R ok q
theorem call_lenA : CallR X (.builtin "len") (rLenA X.K) := call_len_seq.or (call_len_str.or call_lenD)
theorem xlen (hg : Gl X "len") (hm : X.mg "len" = none) (ha : PE X a (tX X.K W f)) (hs : starEach [a] X.env = (false, eval a X.env) :: starEach [] X.env := by rfl) : PE X (.Call (.Name "len" p) [a] [] pos) (tX X.K W (unF lenR f)) :=
  peTo (pe_callB call_lenA hg hm PySem.boot_len (pa_cons ha pa_nil hs) (he := hs)) (c1_of ok_len)
/-- list(x): a new list -/
def listR (a : Rv) : Er Rv := match a with
  | .v (.list xs) => .ok (.o xs)
  | .v (.tuple xs) => .ok (.o xs)
  | .w xs => .ok (.o xs)
  | .o xs => .ok (.o xs)
  | .b (.list xs) => if xs.all flatD = true then .ok (.o xs) else .bad
  | .b (.tuple xs) => if xs.all flatD = true then .ok (.o xs) else .bad
  | _ => .bad
theorem dp_flatsG {H H' : Hp} : ∀ {vs : List V} {ds : List D}, DpAll K H vs ds → ds.all flatD = true → DpAll K H' vs ds
  | _, _, .nil, _ => .nil
  | _, _, .cons h t, e => by
    rw [List.all_cons, Bool.and_eq_true] at e
    exact .cons (dp_flatG e.1 h) (dp_flatsG t e.2)
theorem ok_list : C1Ok K W listR (fun xs H Q => ∃ p ys, xs = [.ref p] ∧ (SqL K H p ys ∨ SqT K H p ys) ∧ ∀ l, H l = none → Q (.ref l) (upd H l (.lst ys))) := by
  intro h0 h ρ σ x a Q R0 R g ok q
  unfold listR at q
  split at q
  · obtain ⟨p, vs, rfl, s, d⟩ := dp_lst ok
    exact ⟨p, vs, rfl, .inl (ex_l R.ch.gh s), fun l hl => q.newL R d hl⟩
  · obtain ⟨p, vs, rfl, s, d⟩ := dp_tup ok
    exact ⟨p, vs, rfl, .inr (ex_t R.ch.gh s), fun l hl => q.newL R d hl⟩
  · obtain ⟨p, vs, rfl, s, d⟩ := ok
    exact ⟨p, vs, rfl, .inl (.of s), fun l hl => q.newL R d hl⟩
  · obtain ⟨p, vs, rfl, _, s, _, d⟩ := ok
    exact ⟨p, vs, rfl, .inl (.of s), fun l hl => q.newL R d hl⟩
  · split at q
    · obtain ⟨p, vs, rfl, s, d⟩ := dp_lst ok
      exact ⟨p, vs, rfl, .inl (ex_l R.ch.fh s), fun l hl => q.newL R (dp_flatsG d (by assumption)) hl⟩
    · exact q.elim
  · split at q
    · obtain ⟨p, vs, rfl, s, d⟩ := dp_tup ok
      exact ⟨p, vs, rfl, .inr (ex_t R.ch.fh s), fun l hl => q.newL R (dp_flatsG d (by assumption)) hl⟩
    · exact q.elim
  · exact q.elim
theorem xlistOf (hg : Gl X "list") (hm : X.mg "list" = none) (ha : PE X a (tX X.K W f)) (hs : starEach [a] X.env = (false, eval a X.env) :: starEach [] X.env := by rfl) : PE X (.Call (.Name "list" p) [a] [] pos) (tX X.K W (unF listR f)) :=
  peTo (pe_callTy call_list_of hg hm boot_list (pa_cons ha pa_nil hs) (he := hs)) (c1_of ok_list)
/-- tuple(x): a new tuple of a list, a tuple itself -/
def tupleR (a : Rv) : Er Rv := match a with
  | .v (.list xs) => .ok (.v (.tuple xs))
  | .w xs => .ok (.v (.tuple xs))
  | .o xs => .ok (.v (.tuple xs))
  | .b (.list xs) => if xs.all flatD = true then .ok (.v (.tuple xs)) else .bad
  | .v (.tuple xs) => .ok (.v (.tuple xs))
  | .b (.tuple xs) => .ok (.b (.tuple xs))
  | _ => .bad
theorem ok_tuple : C1Ok K W tupleR (fun xs H Q => ∃ p ys, xs = [.ref p] ∧ ((SqL K H p ys ∧ ∀ l H', H l = none → NewT H l ys H' → Q (.ref l) H') ∨ (SqT K H p ys ∧ Q (.ref p) H))) := by
  intro h0 h ρ σ x a Q R0 R g ok q
  unfold tupleR at q
  split at q
  · obtain ⟨p, vs, rfl, s, d⟩ := dp_lst ok
    exact ⟨p, vs, rfl, .inl ⟨ex_l R.ch.gh s, fun l H' hl nt => q.newT R d hl nt⟩⟩
  · obtain ⟨p, vs, rfl, s, d⟩ := ok
    exact ⟨p, vs, rfl, .inl ⟨.of s, fun l H' hl nt => q.newT R d hl nt⟩⟩
  · obtain ⟨p, vs, rfl, _, s, _, d⟩ := ok
    exact ⟨p, vs, rfl, .inl ⟨.of s, fun l H' hl nt => q.newT R d hl nt⟩⟩
  · split at q
    · obtain ⟨p, vs, rfl, s, d⟩ := dp_lst ok
      exact ⟨p, vs, rfl, .inl ⟨ex_l R.ch.fh s, fun l H' hl nt => q.newT R (dp_flatsG d (by assumption)) hl nt⟩⟩
    · exact q.elim
  · obtain ⟨p, vs, rfl, s, d⟩ := dp_tup ok
    exact ⟨p, vs, rfl, .inr ⟨ex_t R.ch.gh s, q.now R ok⟩⟩
  · obtain ⟨p, vs, rfl, s, d⟩ := dp_tup ok
    exact ⟨p, vs, rfl, .inr ⟨ex_t R.ch.fh s, q.now R ok⟩⟩
  · exact q.elim
theorem xtupleOf (hg : Gl X "tuple") (hm : X.mg "tuple" = none) (ha : PE X a (tX X.K W f)) (hs : starEach [a] X.env = (false, eval a X.env) :: starEach [] X.env := by rfl) : PE X (.Call (.Name "tuple" p) [a] [] pos) (tX X.K W (unF tupleR f)) :=
  peTo (pe_callTy call_tupleF hg hm boot_tuple (pa_cons ha pa_nil hs) (he := hs)) (c1_of ok_tuple)
/-- list(range(n)), list(range(a, b)) -/
def intsD (lo hi : Int) : List D := (List.range (hi - lo).toNat).map fun i => .int (lo + (i : Nat))
def lrgF (f g : EF) : EF := fun ρ => (f ρ).bind fun a => (g ρ).bind fun b => match a.dat, b.dat with
  | some (.int i), some (.int j) => if (0 ≤ i ∧ i ≤ 1000000) ∧ (0 ≤ j ∧ j ≤ 1000000) then .ok (.o (intsD i j)) else .bad
  | _, _ => .bad
theorem ints_dp {H : Hp} {lo hi : Int} : DpAll K H (rgV lo hi) (intsD lo hi) := by
  unfold rgV intsD
  have : ∀ l : List Nat, DpAll K H (l.map fun i => V.int (lo + (i : Nat))) (l.map fun i => PyData.int (lo + (i : Nat))) := by
    intro l
    induction l with
    | nil => exact .nil
    | cons x l ih => exact .cons (.int _) ih
  exact this _
theorem xlrg1 {p2 pos2 : Pos} (hc : X.calm = true) (hg : Gl X "list") (hm : X.mg "list" = none) (hg2 : Gl X "range") (hm2 : X.mg "range" = none) (ha : PE X a (tX X.K W g)) (na : starEach [a] X.env = (false, eval a X.env) :: starEach [] X.env := by rfl)
    (na2 : starEach [.Call (.Name "range" p2) [a] [] pos2] X.env = (false, eval (.Call (.Name "range" p2) [a] [] pos2) X.env) :: starEach [] X.env := by rfl) : PE X (.Call (.Name "list" p) [.Call (.Name "range" p2) [a] [] pos2] [] pos) (tX X.K W (lrgF (cF (.int 0)) g)) := by
  refine peTo (pe_listRg hc hg hm (prg_1 hg2 hm2 ha na) na2) fun σ H Q q => ?_
  obtain ⟨h, ρ, rfl, R, q⟩ := tX_iff.mp q
  have q : PE1 X.K W h ρ σ Q ((g ρ).bind fun b => match (some (.int 0) : Option D), b.dat with
    | some (.int i), some (.int j) => if (0 ≤ i ∧ i ≤ 1000000) ∧ (0 ≤ j ∧ j ≤ 1000000) then .ok (.o (intsD i j)) else .bad
    | _, _ => .bad) := q
  show tX X.K W g σ h.H fun x H1 => ∃ n, x = .int n ∧ RgOk 0 n ∧ ∀ q, H1 q = none → Q (.ref q) (upd H1 q (.lst (rgV 0 n)))
  refine (tX_mk (f := g) R (q.bind fun b v h1 _ R1 g1 ok1 q1 => ?_) : tX X.K W g σ h.H _)
  split at q1
  · rename_i i j e1 ej
    cases e1
    split at q1
    · have ev := dp_int (ok1.dp R1.ch ej)
      subst ev
      exact ⟨j, rfl, RgOk.of_le (by omega) (by omega) (by omega) (by omega), fun l hl => q1.newL R1 ints_dp hl⟩
    · exact q1.elim
  · exact q1.elim
/-- abs -/
def absR (a : Rv) : Er Rv := match a.dat with
  | some (.int i) => .ok (.v (.int (if i < 0 then -i else i)))
  | _ => .bad
theorem xabs (hg : Gl X "abs") (hm : X.mg "abs" = none) (ha : PE X a (tX X.K W f)) (hs : starEach [a] X.env = (false, eval a X.env) :: starEach [] X.env := by rfl) : PE X (.Call (.Name "abs" p) [a] [] pos) (tX X.K W (unF absR f)) := by
  refine peTo (pe_callB call_abs hg hm boot_abs (pa_cons ha pa_nil hs) (he := hs)) (c1_of fun h0 h ρ σ x a Q R0 R g ok q => ?_)
  unfold absR at q
  split at q
  · rename_i i e
    have ex := dp_int (ok.dp R.ch e)
    subst ex
    exact ⟨i, rfl, q.now R (.int _)⟩
  · exact q.elim
/-- int(True), int(3) -/
def intR (a : Rv) : Er Rv := match a.dat with
  | some (.int i) => .ok (.v (.int i))
  | some (.bool k) => .ok (.v (.int (if k then 1 else 0)))
  | _ => .bad
theorem xintOf (hg : Gl X "int") (hm : X.mg "int" = none) (ha : PE X a (tX X.K W f)) (hs : starEach [a] X.env = (false, eval a X.env) :: starEach [] X.env := by rfl) : PE X (.Call (.Name "int" p) [a] [] pos) (tX X.K W (unF intR f)) := by
  refine peTo (pe_callTy call_int1 hg hm boot_int (pa_cons ha pa_nil hs) (he := hs)) (c1_of fun h0 h ρ σ x a Q R0 R g ok q => ?_)
  unfold intR at q
  split at q
  · rename_i i e
    have ex := dp_int (ok.dp R.ch e)
    subst ex
    exact .inl ⟨i, rfl, q.now R (.int _)⟩
  · rename_i i e
    have ex := dp_bl (ok.dp R.ch e)
    subst ex
    exact .inr ⟨i, rfl, q.now R (.int _)⟩
  · exact q.elim
/-- str(n) -/
def strR (a : Rv) : Er Rv := match a.dat with
  | some (.int i) => if i.natAbs.log2 < 1920 then .ok (.v (.str (toString i))) else .bad
  | _ => .bad
theorem xstrOf (hg : Gl X "str") (hm : X.mg "str" = none) (ha : PE X a (tX X.K W f)) (hs : starEach [a] X.env = (false, eval a X.env) :: starEach [] X.env := by rfl) : PE X (.Call (.Name "str" p) [a] [] pos) (tX X.K W (unF strR f)) := by
  refine peTo (pe_callTy call_str_int hg hm boot_str (pa_cons ha pa_nil hs) (he := hs)) (c1_of fun h0 h ρ σ x a Q R0 R g ok q => ?_)
  unfold strR at q
  split at q
  · rename_i i e
    split at q
    · have ex := dp_int (ok.dp R.ch e)
      subst ex
      exact ⟨i, rfl, by assumption, q.now R (.str _)⟩
    · exact q.elim
  · exact q.elim
/-! a list of intsD, of bools -/
def dInts : List D → Option (List Int)
  | [] => some []
  | .int i :: ds => (dInts ds).map (i :: ·)
  | _ => none
def dBools : List D → Option (List Bool)
  | [] => some []
  | .bool i :: ds => (dBools ds).map (i :: ·)
  | _ => none
theorem dInts_v {H : Hp} : ∀ {ds : List D} {vs : List V} {ns : List Int}, dInts ds = some ns → DpAll K H vs ds → vs = ns.map V.int
  | [], _, _, e, h => by cases h; cases e; rfl
  | .int i :: ds, _, ns, e, h => by
    cases h with
    | cons h t =>
      obtain ⟨ns', e1, rfl⟩ := Option.map_eq_some_iff.mp e
      rw [dp_int h, dInts_v e1 t]
      rfl
  | .none :: _, _, _, e, _ => by cases e
  | .bool _ :: _, _, _, e, _ => by cases e
  | .str _ :: _, _, _, e, _ => by cases e
  | .list _ :: _, _, _, e, _ => by cases e
  | .tuple _ :: _, _, _, e, _ => by cases e
  | .dict _ :: _, _, _, e, _ => by cases e
theorem dBools_v {H : Hp} : ∀ {ds : List D} {vs : List V} {ns : List Bool}, dBools ds = some ns → DpAll K H vs ds → vs = ns.map V.bl
  | [], _, _, e, h => by cases h; cases e; rfl
  | .bool i :: ds, _, ns, e, h => by
    cases h with
    | cons h t =>
      obtain ⟨ns', e1, rfl⟩ := Option.map_eq_some_iff.mp e
      rw [dp_bl h, dBools_v e1 t]
      rfl
  | .none :: _, _, _, e, _ => by cases e
  | .int _ :: _, _, _, e, _ => by cases e
  | .str _ :: _, _, _, e, _ => by cases e
  | .list _ :: _, _, _, e, _ => by cases e
  | .tuple _ :: _, _, _, e, _ => by cases e
  | .dict _ :: _, _, _, e, _ => by cases e
def Rv.intsD (a : Rv) : Option (List Int) := match a.dat with
  | some (.list xs) => dInts xs
  | _ => none
def Rv.bools (a : Rv) : Option (List Bool) := match a.dat with
  | some (.list xs) => dBools xs
  | _ => none
theorem RvOk.intsD {H0 : Hp} {h : Hs} {v : V} {a : Rv} {ns : List Int} (c : Ch h) (ok : RvOk K H0 h v a) (e : a.intsD = some ns) : ∃ p, v = .ref p ∧ SqL K h.H p (ns.map V.int) := by
  unfold Rv.intsD at e
  split at e
  · rename_i xs e1
    obtain ⟨p, vs, rfl, s, d⟩ := dp_lst (ok.dp c e1)
    rw [dInts_v e d] at s
    exact ⟨p, rfl, s⟩
  · cases e
theorem RvOk.bools {H0 : Hp} {h : Hs} {v : V} {a : Rv} {ns : List Bool} (c : Ch h) (ok : RvOk K H0 h v a) (e : a.bools = some ns) : ∃ p, v = .ref p ∧ SqL K h.H p (ns.map V.bl) := by
  unfold Rv.bools at e
  split at e
  · rename_i xs e1
    obtain ⟨p, vs, rfl, s, d⟩ := dp_lst (ok.dp c e1)
    rw [dBools_v e d] at s
    exact ⟨p, rfl, s⟩
  · cases e
def sumR (a : Rv) : Er Rv := match a.intsD with
  | some ns => .ok (.v (.int ns.sum))
  | none => .bad
theorem xsum (hc : X.calm = true) (hg : Gl X "sum") (hm : X.mg "sum" = none) (ha : PE X a (tX X.K W f)) (hs : starEach [a] X.env = (false, eval a X.env) :: starEach [] X.env := by rfl) : PE X (.Call (.Name "sum" p) [a] [] pos) (tX X.K W (unF sumR f)) := by
  refine peTo (pe_callB (cr_sum hc) hg hm boot_sum (pa_cons ha pa_nil hs) (he := hs)) (c1_of fun h0 h ρ σ x a Q R0 R g ok q => ?_)
  unfold sumR at q
  split at q
  · rename_i ns e
    obtain ⟨l, rfl, s⟩ := ok.intsD R.ch e
    exact ⟨l, ns, rfl, s, q.now R (.int _)⟩
  · exact q.elim
def allA (a : Rv) : Er Rv := match a.bools with
  | some ns => .ok (.v (.bool (ns.all id)))
  | none => .bad
def anyA (a : Rv) : Er Rv := match a.bools with
  | some ns => .ok (.v (.bool (ns.any id)))
  | none => .bad
theorem xall (hc : X.calm = true) (hg : Gl X "all") (hm : X.mg "all" = none) (ha : PE X a (tX X.K W f)) (hs : starEach [a] X.env = (false, eval a X.env) :: starEach [] X.env := by rfl) : PE X (.Call (.Name "all" p) [a] [] pos) (tX X.K W (unF allA f)) := by
  refine peTo (pe_callB (cr_all hc) hg hm boot_all (pa_cons ha pa_nil hs) (he := hs)) (c1_of fun h0 h ρ σ x a Q R0 R g ok q => ?_)
  unfold allA at q
  split at q
  · rename_i ns e
    obtain ⟨l, rfl, s⟩ := ok.bools R.ch e
    exact ⟨l, ns, rfl, s, q.now R (.bl _)⟩
  · exact q.elim
theorem xany (hc : X.calm = true) (hg : Gl X "any") (hm : X.mg "any" = none) (ha : PE X a (tX X.K W f)) (hs : starEach [a] X.env = (false, eval a X.env) :: starEach [] X.env := by rfl) : PE X (.Call (.Name "any" p) [a] [] pos) (tX X.K W (unF anyA f)) := by
  refine peTo (pe_callB (cr_any hc) hg hm boot_any (pa_cons ha pa_nil hs) (he := hs)) (c1_of fun h0 h ρ σ x a Q R0 R g ok q => ?_)
  unfold anyA at q
  split at q
  · rename_i ns e
    obtain ⟨l, rfl, s⟩ := ok.bools R.ch e
    exact ⟨l, ns, rfl, s, q.now R (.bl _)⟩
  · exact q.elim
/-- the least, the greatest -/
def lstMin : List Int → Int
  | [] => 0
  | x :: xs => xs.foldl min x
def lstMax : List Int → Int
  | [] => 0
  | x :: xs => xs.foldl max x
theorem foldl_min_le : ∀ (xs : List Int) (x : Int), xs.foldl min x ≤ x ∧ (∀ y ∈ xs, xs.foldl min x ≤ y) ∧ (xs.foldl min x = x ∨ xs.foldl min x ∈ xs)
  | [], x => ⟨Int.le_refl _, (fun _ h => by cases h), Or.inl rfl⟩
  | y :: ys, x => by
    obtain ⟨h1, h2, h3⟩ := foldl_min_le ys (min x y)
    refine ⟨?_, fun z hz => ?_, ?_⟩
    · show ys.foldl min (min x y) ≤ x
      omega
    · show ys.foldl min (min x y) ≤ z
      rcases List.mem_cons.mp hz with rfl | hz
      · omega
      · exact h2 z hz
    · show ys.foldl min (min x y) = x ∨ ys.foldl min (min x y) ∈ y :: ys
      rcases h3 with h3 | h3
      · rw [h3]
        by_cases hxy : x ≤ y
        · exact .inl (by omega)
        · exact .inr (by rw [show min x y = y by omega]; exact List.mem_cons_self)
      · exact .inr (List.mem_cons_of_mem _ h3)
theorem foldl_max_le : ∀ (xs : List Int) (x : Int), x ≤ xs.foldl max x ∧ (∀ y ∈ xs, y ≤ xs.foldl max x) ∧ (xs.foldl max x = x ∨ xs.foldl max x ∈ xs)
  | [], x => ⟨Int.le_refl _, (fun _ h => by cases h), Or.inl rfl⟩
  | y :: ys, x => by
    obtain ⟨h1, h2, h3⟩ := foldl_max_le ys (max x y)
    refine ⟨?_, fun z hz => ?_, ?_⟩
    · show x ≤ ys.foldl max (max x y)
      omega
    · show z ≤ ys.foldl max (max x y)
      rcases List.mem_cons.mp hz with rfl | hz
      · omega
      · exact h2 z hz
    · show ys.foldl max (max x y) = x ∨ ys.foldl max (max x y) ∈ y :: ys
      rcases h3 with h3 | h3
      · rw [h3]
        by_cases hxy : y ≤ x
        · exact .inl (by omega)
        · exact .inr (by rw [show max x y = y by omega]; exact List.mem_cons_self)
      · exact .inr (List.mem_cons_of_mem _ h3)
theorem lstMin_is {ns : List Int} {m : Int} (h1 : m ∈ ns) (h2 : ∀ y ∈ ns, m ≤ y) : m = lstMin ns := by
  cases ns with
  | nil => cases h1
  | cons x xs =>
    obtain ⟨a, b, c⟩ := foldl_min_le xs x
    have d : lstMin (x :: xs) ∈ x :: xs := by
      rcases c with c | c
      · show xs.foldl min x ∈ _
        rw [c]
        exact List.mem_cons_self
      · exact List.mem_cons_of_mem _ c
    have e := h2 _ d
    have f : lstMin (x :: xs) ≤ m := by
      rcases List.mem_cons.mp h1 with rfl | h1
      · exact a
      · exact b m h1
    omega
theorem lstMax_is {ns : List Int} {m : Int} (h1 : m ∈ ns) (h2 : ∀ y ∈ ns, y ≤ m) : m = lstMax ns := by
  cases ns with
  | nil => cases h1
  | cons x xs =>
    obtain ⟨a, b, c⟩ := foldl_max_le xs x
    have d : lstMax (x :: xs) ∈ x :: xs := by
      rcases c with c | c
      · show xs.foldl max x ∈ _
        rw [c]
        exact List.mem_cons_self
      · exact List.mem_cons_of_mem _ c
    have e := h2 _ d
    have f : m ≤ lstMax (x :: xs) := by
      rcases List.mem_cons.mp h1 with rfl | h1
      · exact a
      · exact b m h1
    omega
def minR (a : Rv) : Er Rv := match a.intsD with
  | some ns => if 0 < ns.length then .ok (.v (.int (lstMin ns))) else .bad
  | none => .bad
def maxR (a : Rv) : Er Rv := match a.intsD with
  | some ns => if 0 < ns.length then .ok (.v (.int (lstMax ns))) else .bad
  | none => .bad
theorem xmin1 (hc : X.calm = true) (hg : Gl X "min") (hm : X.mg "min" = none) (ha : PE X a (tX X.K W f)) (hs : starEach [a] X.env = (false, eval a X.env) :: starEach [] X.env := by rfl) : PE X (.Call (.Name "min" p) [a] [] pos) (tX X.K W (unF minR f)) := by
  refine peTo (pe_callB (cr_min hc) hg hm boot_min (pa_cons ha pa_nil hs) (he := hs)) (c1_of fun h0 h ρ σ x a Q R0 R g ok q => ?_)
  unfold minR at q
  split at q
  · rename_i ns e
    split at q
    · obtain ⟨l, rfl, s⟩ := ok.intsD R.ch e
      refine ⟨l, ns, rfl, s, by assumption, fun m h1 h2 => ?_⟩
      rw [lstMin_is h1 h2]
      exact q.now R (.int _)
    · exact q.elim
  · exact q.elim
theorem xmax1 (hc : X.calm = true) (hg : Gl X "max") (hm : X.mg "max" = none) (ha : PE X a (tX X.K W f)) (hs : starEach [a] X.env = (false, eval a X.env) :: starEach [] X.env := by rfl) : PE X (.Call (.Name "max" p) [a] [] pos) (tX X.K W (unF maxR f)) := by
  refine peTo (pe_callB (cr_max hc) hg hm boot_max (pa_cons ha pa_nil hs) (he := hs)) (c1_of fun h0 h ρ σ x a Q R0 R g ok q => ?_)
  unfold maxR at q
  split at q
  · rename_i ns e
    split at q
    · obtain ⟨l, rfl, s⟩ := ok.intsD R.ch e
      refine ⟨l, ns, rfl, s, by assumption, fun m h1 h2 => ?_⟩
      rw [lstMax_is h1 h2]
      exact q.now R (.int _)
    · exact q.elim
  · exact q.elim
/-- min(a, b), max(a, b) -/
def imin2 : Int → Int → Er D := fun i j => .ok (.int (if j < i then j else i))
def imax2 : Int → Int → Er D := fun i j => .ok (.int (if j > i then j else i))
theorem c2_of {φ : Rv → Rv → Er Rv} {r : List V → Hp → VK → Prop} (hr : OpOk K W φ (fun x y H Q => r [x, y] H Q)) : ∀ σ H Q, tX K W (binF φ f g) σ H Q → tCB r (tCons (tX K W f) (tCons (tX K W g) tNil)) σ H Q := by
  intro σ H Q q
  exact bin_of hr σ H Q q
theorem xmin2 (hc : X.calm = true) (hg : Gl X "min") (hm : X.mg "min" = none) (ha : PE X a (tX X.K W f)) (hb : PE X b (tX X.K W g)) (hs : starEach [a, b] X.env = (false, eval a X.env) :: starEach [b] X.env := by rfl) (hs2 : starEach [b] X.env = (false, eval b X.env) :: starEach [] X.env := by rfl) :
    PE X (.Call (.Name "min" p) [a, b] [] pos) (tX X.K W (binF (flat2 (int2 imin2)) f g)) :=
  peTo (pe_callB (call_min2 hc) hg hm boot_min (pa_cons ha (pa_cons hb pa_nil hs2) hs) (he := hs) (hpl := by rw [hs2]; rfl)) (c2_of (int_ok (fun _ _ _ _ e => nomatch e) (fun _ _ _ e => by cases e; rfl) fun H i j f Q e q => ⟨i, j, rfl, by cases e; exact q _ rfl⟩))
theorem xmax2 (hc : X.calm = true) (hg : Gl X "max") (hm : X.mg "max" = none) (ha : PE X a (tX X.K W f)) (hb : PE X b (tX X.K W g)) (hs : starEach [a, b] X.env = (false, eval a X.env) :: starEach [b] X.env := by rfl) (hs2 : starEach [b] X.env = (false, eval b X.env) :: starEach [] X.env := by rfl) :
    PE X (.Call (.Name "max" p) [a, b] [] pos) (tX X.K W (binF (flat2 (int2 imax2)) f g)) :=
  peTo (pe_callB (call_max2 hc) hg hm boot_max (pa_cons ha (pa_cons hb pa_nil hs2) hs) (he := hs) (hpl := by rw [hs2]; rfl)) (c2_of (int_ok (fun _ _ _ _ e => nomatch e) (fun _ _ _ e => by cases e; rfl) fun H i j f Q e q => ⟨i, j, rfl, by cases e; exact q _ rfl⟩))
/-- sorted(xs), whole numbers -/
def srt (ns : List Int) : List Int := ns.mergeSort fun a b => decide (a ≤ b)
theorem srt_perm (ns : List Int) : (srt ns).Perm ns := List.mergeSort_perm _ _
theorem srt_le (ns : List Int) : (srt ns).Pairwise (· ≤ ·) := by
  have h := List.pairwise_mergeSort (le := fun a b : Int => decide (a ≤ b)) (fun a b c h1 h2 => by simp at *; omega) (fun a b => by simp; omega) ns
  exact h.imp fun h => by simpa using h
theorem perm_sorted_eq : ∀ {xs ys : List Int}, xs.Perm ys → xs.Pairwise (· ≤ ·) → ys.Pairwise (· ≤ ·) → xs = ys
  | [], ys, h, _, _ => (List.Perm.nil_eq h)
  | x :: xs, [], h, _, _ => by have := h.length_eq; simp at this
  | x :: xs, y :: ys, h, h1, h2 => by
    have hx : x ∈ y :: ys := h.subset List.mem_cons_self
    have hy : y ∈ x :: xs := h.symm.subset List.mem_cons_self
    have a1 : x ≤ y := by
      rcases List.mem_cons.mp hy with e | e
      · omega
      · exact (List.pairwise_cons.mp h1).1 y e
    have a2 : y ≤ x := by
      rcases List.mem_cons.mp hx with e | e
      · omega
      · exact (List.pairwise_cons.mp h2).1 x e
    have e : x = y := by omega
    subst e
    rw [perm_sorted_eq (List.Perm.cons_inv h) (List.pairwise_cons.mp h1).2 (List.pairwise_cons.mp h2).2]
def sortR (a : Rv) : Er Rv := match a.intsD with
  | some ns => .ok (.o ((srt ns).map .int))
  | none => .bad
theorem ints_all {H : Hp} : ∀ ns : List Int, DpAll K H (ns.map V.int) (ns.map PyData.int)
  | [] => .nil
  | n :: ns => .cons (.int n) (ints_all ns)
theorem xsorted (hg : Gl X "sorted") (hm : X.mg "sorted" = none) (ha : PE X a (tX X.K W f)) (hs : starEach [a] X.env = (false, eval a X.env) :: starEach [] X.env := by rfl) : PE X (.Call (.Name "sorted" p) [a] [] pos) (tX X.K W (unF sortR f)) := by
  refine peTo (pe_callB cr_sortedI hg hm boot_sorted (pa_cons ha pa_nil hs) (he := hs)) (c1_of fun h0 h ρ σ x a Q R0 R g ok q => ?_)
  unfold sortR at q
  split at q
  · rename_i ns e
    obtain ⟨l, rfl, s⟩ := ok.intsD R.ch e
    refine ⟨l, ns, rfl, s, fun ns' p h1 h2 hp => ?_⟩
    have e2 : ns' = srt ns := perm_sorted_eq (h1.trans (srt_perm ns).symm) h2 (srt_le ns)
    subst e2
    exact q.newL R (ints_all _) hp
  · exact q.elim
/-! isinstance(x, T), T built in -/
def tyD : D → Option String
  | .none => some "NoneType"
  | .bool _ => some "bool"
  | .int _ => some "int"
  | .str _ => some "str"
  | .list _ => some "list"
  | .tuple _ => some "tuple"
  | .dict _ => none
theorem tyx_of {H : Hp} {v : V} {d : D} {n : String} (h : Dp K H v d) (e : tyD d = some n) : TyX K H v (.type n) := by
  cases h with
  | non => cases e; exact .base .non
  | bl b => cases e; exact .base (.bl b)
  | int i => cases e; exact .base (.int i)
  | str x => cases e; exact .base (.str x)
  | lst hs _ =>
    cases e
    rcases hs with (hs | ⟨o, hs⟩) | ⟨o, its, n, hk, hc, _⟩
    · exact .base (.lst hs)
    · exact .base (.frz hs)
    · exact .kList hk hc
  | tup hs _ _ =>
    cases e
    exact .fTuple hs
  | obj _ _ => cases e
def isiR (T : String) (a : Rv) : Er Rv := match a.dat with
  | some d => match tyD d with
    | some n => match kitB n T with
      | some b => .ok (.v (.bool b))
      | none => .bad
    | none => .bad
  | none => .bad
theorem xisi {x T : String} {pT : Pos} (hg : Gl X "isinstance") (hm : X.mg "isinstance" = none) (ha : PE X a (tX X.K W f)) (hgT : Gl X (Str.ofString x)) (hmT : X.mg (Str.ofString x) = none) (hv : bootBuiltins (Str.ofString x) = some (.type T))
    (hn : Str.ofString x ≠ "__name__" := by decide) (hd : (Str.ofString x == ("__debug__" : Str)) = false := by decide)
    (hs : starEach [a, .Name (Str.ofString x) pT] X.env = (false, eval a X.env) :: starEach [.Name (Str.ofString x) pT] X.env := by rfl) (hs2 : starEach [.Name (Str.ofString x) pT] X.env = (false, eval (.Name (Str.ofString x) pT) X.env) :: starEach [] X.env := by rfl) :
    PE X (.Call (.Name "isinstance" p) [a, .Name (Str.ofString x) pT] [] pos) (tX X.K W (unF (isiR T) f)) := by
  have hT : PE X (.Name (Str.ofString x) pT) (tC (.ty T)) := pe_bltn hgT hmT hv rfl hn hd
  refine peTo (pe_callB call_isi hg hm boot_isinstance (pa_cons ha (pa_cons hT pa_nil hs2) hs) (he := hs) (hpl := by rw [hs2]; rfl)) fun σ H Q q => ?_
  obtain ⟨h, ρ, rfl, R, q⟩ := tX_iff.mp q
  refine (tX_mk (f := f) R (q.bind fun a v h1 _ R1 g1 ok1 q1 => ?_) : tX X.K W f σ h.H _)
  unfold isiR at q1
  split at q1
  · rename_i d e
    split at q1
    · rename_i n en
      split at q1
      · rename_i b eb
        exact ⟨v, .ty T, .type n, .type T, b, rfl, .ty T, tyx_of (ok1.dp R1.ch e) en, kit_ty eb, q1.now R1 (.bl _)⟩
      · exact q1.elim
    · exact q1.elim
  · exact q1.elim
end
end Sq

/-! Statements. -/
namespace Sq
open PySem PySem.Spec PyProof.Rows L2
inductive Res where
  | next (ρ : Env)
  | ret (r : Rv)
  | brk (ρ : Env)
  | cont (ρ : Env)
  | exc (c : Str) (p : Option (Str × D)) (ρ : Env)
  | bad
abbrev SF := Env → Res
def RetOk (K : PySem.W.Frag) (h : Hs) (v : V) : Rv → Prop
  | .v d => Dp K h.G v d
  | .b d => Dp K h.F v d
  | .o xs => ∃ l vs, v = .ref l ∧ h.H l = some (.lst vs) ∧ h.F l = none ∧ DpAll K h.G vs xs
  | .ok kvs => ∃ l vs, v = .ref l ∧ h.H l = some (.dK vs) ∧ h.F l = none ∧ KvD K h.G vs kvs
  | .y xss => ∃ l ms, v = .ref l ∧ h.H l = some (.lst (refsOf ms)) ∧ h.F l = none ∧ Ys K h.F h.G ms xss
  | .p2 xs ys => ∃ t l m vs ws, v = .ref t ∧ h.H t = some (.tup [.ref l, .ref m]) ∧ l ≠ m ∧ (h.H l = some (.lst vs) ∧ h.F l = none ∧ DpAll K h.G vs xs) ∧ (h.H m = some (.lst ws) ∧ h.F m = none ∧ DpAll K h.G ws ys)
  | .sj d l c fs => Dp K h.G v d ∧ ∃ vs dx, h.H l = some (.ins (clsOf K c) dx vs) ∧ h.F l = none ∧ KvD K h.G vs fs
  | _ => False
def Post (K : PySem.W.Frag) (W : WF) (D : Ends) (h : Hs) : Res → Prop
  | .next ρ' => ∀ σ' h', Rel K h' ρ' σ' → SG h h' → D.nx σ' h'.H
  | .brk ρ' => ∀ σ' h', Rel K h' ρ' σ' → SG h h' → D.bk σ' h'.H
  | .cont ρ' => ∀ σ' h', Rel K h' ρ' σ' → SG h h' → D.ct σ' h'.H
  | .ret r => ∀ v h', Ch h' → SG h h' → RetOk K h' v r → D.rt v h'.H
  | .exc c p ρ' => ∀ σ' h', Rel K h' ρ' σ' → SG h h' → W c p σ' h'
  | .bad => False
def tS (K : PySem.W.Frag) (W : WF) (f : SF) : TS := fun D σ H => ∃ h ρ, h.H = H ∧ Rel K h ρ σ ∧ Post K W D h (f ρ)
section
variable {K : PySem.W.Frag} {W : WF} {X : Cx} {D D' : Ends} {h h1 : Hs} {ρ : Env} {σ : L2.St}
theorem Post.shift (g : SG h h1) : ∀ {r : Res}, Post K W D h r → Post K W D h1 r
  | .next _, q => fun σ' h' R g' => q σ' h' R (g.trans g')
  | .brk _, q => fun σ' h' R g' => q σ' h' R (g.trans g')
  | .cont _, q => fun σ' h' R g' => q σ' h' R (g.trans g')
  | .ret _, q => fun v h' c g' => q v h' c (g.trans g')
  | .exc _ _ _, q => fun σ' h' R g' => q σ' h' R (g.trans g')
  | .bad, q => q
theorem tS_mk {f : SF} (R : Rel K h ρ σ) (q : Post K W D h (f ρ)) : tS K W f D σ h.H := ⟨h, ρ, rfl, R, q⟩
def liftE (ρ : Env) : Er Env → Res
  | .ok ρ' => .next ρ'
  | .exc c p => .exc c p ρ
  | .bad => .bad
/-- an expression ahead of the rest of a statement -/
def thenS (ρ : Env) (e : Er Rv) (k : Rv → Res) : Res := match e with
  | .ok r => k r
  | .exc c p => .exc c p ρ
  | .bad => .bad
def thenT (ρ : Env) (e : Er Bool) (k : Bool → Res) : Res := match e with
  | .ok r => k r
  | .exc c p => .exc c p ρ
  | .bad => .bad
theorem Post.then {e : Er Rv} {k : Rv → Res} (q : Post K W D h (thenS ρ e k)) {Q : VK} (hk : ∀ r v h', e = .ok r → Rel K h' ρ σ → Gr h h' → RvOk K h.H h' v r → Post K W D h (k r) → Q v h'.H) : PE1 K W h ρ σ Q e := by
  cases e with
  | ok r => exact fun v h' R g ok => hk r v h' rfl R g ok q
  | exc c p => exact fun h' R g => q σ h' R g.sg
  | bad => exact q
theorem Post.thenT {e : Er Bool} {k : Bool → Res} (q : Post K W D h (thenT ρ e k)) {Q : Bool → Hp → Prop} (hk : ∀ r h', e = .ok r → Rel K h' ρ σ → Gr h h' → Post K W D h' (k r) → Q r h'.H) : PT1 K W h ρ σ Q e := by
  cases e with
  | ok r => exact fun h' R g => hk r h' rfl R g (Post.shift g.sg q)
  | exc c p => exact fun h' R g => q σ h' R g.sg
  | bad => exact q

/-! ### blocks -/
def skipS : SF := fun ρ => .next ρ
def seqS (f g : SF) : SF := fun ρ => match f ρ with
  | .next ρ' => g ρ'
  | r => r
theorem xssnil : PSs X [] (tS X.K W skipS) := pssTo pss_nil fun D σ H ⟨h, ρ, e, R, q⟩ => by
  subst e
  exact q σ h R (SG.refl h)
theorem xsscons {st : Stmt} {rest : List Stmt} {f g : SF} (h1 : PS X st (tS X.K W f)) (h2 : PSs X rest (tS X.K W g)) : PSs X (st :: rest) (tS X.K W (seqS f g)) := by
  refine pssTo (pss_cons h1 h2) fun D σ H ⟨h, ρ, e, R, q⟩ => ?_
  subst e
  refine tS_mk R ?_
  unfold seqS at q
  cases ef : f ρ with
  | next ρ' =>
    rw [ef] at q
    exact fun σ' h' R' g' => tS_mk R' (Post.shift g' q)
  | ret r => rw [ef] at q; exact q
  | brk ρ' => rw [ef] at q; exact q
  | cont ρ' => rw [ef] at q; exact q
  | exc c p ρ' => rw [ef] at q; exact q
  | bad => rw [ef] at q; exact q
theorem xssone {st : Stmt} {f : SF} (h1 : PS X st (tS X.K W f)) : PSs X [st] (tS X.K W f) := pss_one h1
/-- what is the same for every environment -/
theorem xssTo {sts : List Stmt} {f g : SF} (h1 : PSs X sts (tS X.K W f)) (e : ∀ ρ, f ρ = g ρ) : PSs X sts (tS X.K W g) := by
  have : f = g := funext e
  subst this
  exact h1
/-- ghost: own objects of a slot are frozen -/
def Sl.frz : Sl → Sl
  | .o xs => .v (.list xs)
  | s => s
def frzE (ρ : Env) (i : Nat) : Env := ρ.set i (slot ρ i).frz
def frzS (i : Nat) (f : SF) : SF := fun ρ => f (frzE ρ i)
theorem frzE_ok (R : Rel K h ρ σ) (i : Nat) : ∃ h', h'.H = h.H ∧ Rel K h' (frzE ρ i) σ ∧ SG h h' := by
  have same : ∀ s, slot ρ i = s → s.frz = s → ∃ h', h'.H = h.H ∧ Rel K h' (frzE ρ i) σ ∧ SG h h' := fun s e1 e2 => by
    refine ⟨h, rfl, ?_, SG.refl h⟩
    have : frzE ρ i = ρ ∨ ρ.length ≤ i := by
      by_cases hi : i < ρ.length
      · left
        unfold frzE
        rw [e1, e2]
        apply List.ext_getElem?
        intro k
        rw [List.getElem?_set]
        split
        · rename_i hk
          subst hk
          unfold slot at e1
          rw [List.getD_eq_getElem?_getD, List.getElem?_eq_getElem hi] at e1
          rw [List.getElem?_eq_getElem hi]
          exact congrArg some e1.symm
        · rfl
      · exact .inr (by omega)
    rcases this with e | e
    · rw [e]; exact R
    · unfold frzE
      rw [List.set_eq_of_length_le e]
      exact R
  cases es : slot ρ i with
  | u => exact same _ es rfl
  | x a => exact same _ es rfl
  | v d => exact same _ es rfl
  | b d => exact same _ es rfl
  | k d => exact same _ es rfl
  | t d => exact same _ es rfl
  | n d => exact same _ es rfl
  | i c fs => exact same _ es rfl
  | j l c fs => exact same _ es rfl
  | y xss => exact same _ es rfl
  | z l xss => exact same _ es rfl
  | e xs => exact same _ es rfl
  | o xs =>
    have ei := slot_some es (by intro z; cases z)
    obtain ⟨x, ex, l, vs, rfl, hl, fl, hd⟩ := R.get ei
    have hi : i < ρ.length := (List.getElem?_eq_some_iff.mp ei).1
    refine ⟨h.fz l (.lst vs), rfl, ⟨R.ch.fz hl, by simp [frzE, R.len], fun j s x e1 e2 => ?_, fun j k s u m n hjk e1 e2 o1 o2 e3 e4 => ?_⟩, ⟨Ex.new (R.ch.gf.back fl), Ex.new fl, fun a o e z => by
      obtain ⟨rfl, _⟩ := upd_case e z
      exact fl⟩⟩
    · unfold frzE at e1
      rw [es] at e1
      by_cases hj : i = j
      · subst hj
        rw [List.getElem?_set] at e1
        simp only [if_true, hi] at e1
        cases e1
        rw [ex] at e2
        cases e2
        exact ⟨_, rfl, .lst (.of upd_same) (ex_dpa (Ex.new (R.ch.gf.back fl)) hd)⟩
      · rw [List.getElem?_set_ne hj] at e1
        have q := R.at_ j s x e1 e2
        have hm : ∀ m, s.own = true → x = some (.ref m) → m ≠ l := fun m os e z => by
          subst z
          exact R.dis i j (.o xs) s m m hj ei e1 rfl os ex (by rw [e2, e]) rfl
        cases s with
        | u => trivial
        | x a => exact q
        | v d =>
          obtain ⟨v, e, q⟩ := q
          exact ⟨v, e, ex_dp (Ex.new (R.ch.gf.back fl)) q⟩
        | b d =>
          obtain ⟨v, e, q⟩ := q
          exact ⟨v, e, ex_dp (Ex.new fl) q⟩
        | o ys =>
          obtain ⟨m, ws, e, a, b, q⟩ := q
          exact ⟨m, ws, e, a, (upd_ne (hm m rfl e)).trans b, ex_dpa (Ex.new (R.ch.gf.back fl)) q⟩
        | k ys =>
          obtain ⟨m, ws, e, a, b, q⟩ := q
          exact ⟨m, ws, e, a, (upd_ne (hm m rfl e)).trans b, q.ex (Ex.new (R.ch.gf.back fl))⟩
        | t ys =>
          obtain ⟨m, ws, e, a, b, q⟩ := q
          exact ⟨m, ws, e, a, (upd_ne (hm m rfl e)).trans b, q.ex (Ex.new (R.ch.gf.back fl))⟩
        | n ys =>
          obtain ⟨m, ws, e, a, b, q⟩ := q
          exact ⟨m, ws, e, a, (upd_ne (hm m rfl e)).trans b, q.ex (Ex.new (R.ch.gf.back fl))⟩
        | i c fs =>
          obtain ⟨m, ws, dx, e, a, b, q⟩ := q
          exact ⟨m, ws, dx, e, a, (upd_ne (hm m rfl e)).trans b, q.ex (Ex.new (R.ch.gf.back fl))⟩
        | j m c fs =>
          obtain ⟨ws, dx, e, a, b, q⟩ := q
          exact ⟨ws, dx, e, a, (upd_ne (hm m rfl e)).trans b, q.ex (Ex.new (R.ch.gf.back fl))⟩
        | y ys =>
          obtain ⟨m, ws, e, a, b, q⟩ := q
          exact ⟨m, ws, e, a, (upd_ne (hm m rfl e)).trans b, q.ex (Ex.new fl) fun a o e z => by
            obtain ⟨rfl, _⟩ := upd_case e z
            exact fl⟩
        | e ys =>
          obtain ⟨m, ws, e, a, b, q⟩ := q
          have gn : ∀ a o, (upd h.G l (.lst vs)) a = some o → h.G a = none → h.F a = none := fun a o e z => by
            obtain ⟨rfl, _⟩ := upd_case e z
            exact fl
          exact ⟨m, ws, e, Ex.new fl _ _ a, gNone gn a b, q⟩
        | z m ys =>
          obtain ⟨ws, e, a, b, q⟩ := q
          have gn : ∀ a o, (upd h.G l (.lst vs)) a = some o → h.G a = none → h.F a = none := fun a o e z => by
            obtain ⟨rfl, _⟩ := upd_case e z
            exact fl
          exact ⟨ws, e, Ex.new fl _ _ a, gNone gn a b, q.ex (Ex.new fl) gn⟩
    · unfold frzE at e1 e2
      rw [es] at e1 e2
      have nj : i ≠ j := fun z => by
        subst z
        rw [List.getElem?_set] at e1
        simp only [if_true, hi] at e1
        cases e1
        cases o1
      have nk : i ≠ k := fun z => by
        subst z
        rw [List.getElem?_set] at e2
        simp only [if_true, hi] at e2
        cases e2
        cases o2
      rw [List.getElem?_set_ne nj] at e1
      rw [List.getElem?_set_ne nk] at e2
      exact R.dis j k s u m n hjk e1 e2 o1 o2 e3 e4
theorem xfrz {sts : List Stmt} {f : SF} (i : Nat) (h1 : PSs X sts (tS X.K W f)) : PSs X sts (tS X.K W (frzS i f)) := pssTo h1 fun D σ H ⟨h, ρ, e, R, q⟩ => by
  subst e
  obtain ⟨h', eh, R', g⟩ := frzE_ok R i
  rw [← eh]
  exact tS_mk R' (Post.shift g q)

/-! ### small statements -/
theorem xpass {pos : Pos} : PS X (.Pass pos) (tS X.K W skipS) := psTo ps_pass fun D σ H ⟨h, ρ, e, R, q⟩ => by
  subst e
  exact q σ h R (SG.refl h)
def brkS : SF := fun ρ => .brk ρ
def contS : SF := fun ρ => .cont ρ
def badS : SF := fun _ => .bad
theorem xbreak {pos : Pos} : PS X (.Break pos) (tS X.K W brkS) := psTo ps_break fun D σ H ⟨h, ρ, e, R, q⟩ => by
  subst e
  exact q σ h R (SG.refl h)
theorem xcontinue {pos : Pos} : PS X (.Continue pos) (tS X.K W contS) := psTo ps_continue fun D σ H ⟨h, ρ, e, R, q⟩ => by
  subst e
  exact q σ h R (SG.refl h)
theorem xnever {st : Stmt} : PS X st (tS X.K W badS) := psTo ps_never fun D σ H ⟨h, ρ, e, R, q⟩ => q
def exprS (f : EF) : SF := fun ρ => thenS ρ (f ρ) fun _ => .next ρ
theorem xexpr {e : Expr} {f : EF} {pos : Pos} (he : PE X e (tX X.K W f)) (hs : swapsWith e none pos.line X.env = pure false := by rfl) : PS X (.Expr e pos) (tS X.K W (exprS f)) := psTo (ps_expr he hs) fun D σ H ⟨h, ρ, e, R, q⟩ => by
  subst e
  exact tX_mk R (q.then fun r v h' _ R' g' _ q' => q' σ h' R' g'.sg)
/-- x = e -/
def asgS (f : EF) (φ : TF) : SF := fun ρ => thenS ρ (f ρ) fun r => liftE ρ (φ r ρ)
theorem asg_of {f : EF} {φ : TF} {fp : List Nat} (hφ : ∀ r ρ c p, φ r ρ ≠ .exc c p) : ∀ D σ H, tS K W (asgS f φ) D σ H → tAsg (tX K W f) (tG K fp φ) D σ H := fun D σ H ⟨h, ρ, e, R, q⟩ => by
  subst e
  refine tX_mk R (q.then fun r v h' _ R' g' ok q' => ?_)
  cases e1 : φ r ρ with
  | bad => rw [e1] at q'; exact q'.elim
  | exc c p => exact absurd e1 (hφ _ _ _ _)
  | ok ρ' =>
    rw [e1] at q'
    exact ⟨h, h', ρ, r, ρ', rfl, R, R', ok, e1, fun σ' R2 _ => q' σ' h' R2 g'.sg⟩
theorem xasg {tg e : Expr} {f : EF} {φ : TF} {fp : List Nat} {pos : Pos} (hφ : ∀ r ρ c p, φ r ρ ≠ .exc c p) (he : PE X e (tX X.K W f)) (hg : PG X tg (tG X.K fp φ)) (hs : swapsWithSole [tg] e pos.line X.env = pure false := by rfl) (hw : swappedStores [tg] e X.env = pure none := by rfl)
    (h1 : (assignEach [tg] X.env).map (·.2) = [assign tg X.env] := by rfl) : PS X (.Assign [tg] e pos) (tS X.K W (asgS f φ)) := psTo (ps_asg he hg hs hw h1) (asg_of hφ)
theorem xset {i : Nat} {x : Str} {e : Expr} {f : EF} {pos pos' : Pos} (hN : X.N.Nodup) (he : PE X e (tX X.K W f)) (hi : X.N[i]? = some x := by rfl) (hx : Loc X.env.scope x := by first | exact Or.inl rfl | exact Or.inr rfl) (hs : swapsWith e (some (.Name x pos')) pos.line X.env = pure false := by rfl)
    (hf : X.fn x = true ∨ X.env.scope.names.lookup x = some .local := by first | exact .inl rfl | exact .inr rfl | assumption) : PS X (.Assign [.Name x pos'] e pos) (tS X.K W (asgS f (asgn i))) :=
  psTo (ps_set hN hi hx he hs hf) fun D σ H ⟨h, ρ, e, R, q⟩ => by
    subst e
    refine tX_mk R (q.then fun r v h' _ R' g' ok q' => ?_)
    cases e1 : asgn i r ρ with
    | bad => rw [e1] at q'; exact q'.elim
    | exc c p => exact absurd e1 (asgn_ne _ _ _ _)
    | ok ρ' =>
      rw [e1] at q'
      exact q' _ h' (asgn_ok R R' ok e1) g'.sg
/-- y = [.. for ..] -/
theorem xsetLc {elt tg iter : Expr} {ifs : List Expr} {scope : Scope} {own : List (Str × Nat)} {pos spos py : Pos} {it : IF} {φ : TF} {t : Env → Er Bool} {e : EF} {i : Nat} {y : Str} (hc : X.calm = true) (hN : X.N.Nodup) (hφ : ∀ r ρ c p, φ r ρ ≠ .exc c p) (hi : PI X tg iter (tI Gr X.K W it)) (ok : BlkOk X.N X.env.scope scope own) (hg : BlkG X scope tg (tG X.K (own.map (·.2)) φ)) (ht : BlkT X scope ifs (tXt X.K WN t)) (he : BlkE X scope elt (tX X.K WN e))
    (hsw : swapsWith (.ListComp elt [⟨tg, iter, ifs, 0⟩] scope pos) (some (.Name y py)) spos.line X.env = pure true) (hy : X.N[i]? = some y := by rfl) (hyl : X.env.scope.names.lookup y = some .local := by rfl)
    (hs : ∀ x, foldedSetIterable iter X.env x = pure x := by intro _; rfl) : PS X (.Assign [.Name y py] (.ListComp elt [⟨tg, iter, ifs, 0⟩] scope pos) spos) (tS X.K W (asgS (lcF it φ (own.map (·.2)) t e) (asgn i))) :=
  psTo (xsetLcT hc hN hy hyl hsw hφ hi ok hg ht he hs) fun D σ H ⟨h, ρ, e, R, q⟩ => by
    subst e
    refine tX_mk R (q.then fun r v h' _ R' g' ok q' => ?_)
    cases e1 : asgn i r ρ with
    | bad => rw [e1] at q'; exact q'.elim
    | exc c p => exact absurd e1 (asgn_ne _ _ _ _)
    | ok ρ' =>
      rw [e1] at q'
      exact q' _ h' (asgn_ok R R' ok e1) g'.sg
/-- return e -/
def retR (r : Rv) : Res := match r with
  | .v d => .ret (.v d)
  | .b d => .ret (.b d)
  | .o xs => .ret (.o xs)
  | .ok kvs => .ret (.ok kvs)
  | .r d => if flatD d = true then .ret (.v d) else .bad
  | _ => .bad
def retS (f : EF) : SF := fun ρ => thenS ρ (f ρ) retR
theorem ret_of {r : Rv} {v : V} {h' : Hs} (q : Post K W D h (retR r)) (c : Ch h') (g : SG h h') (H0 : Hp) (ok : RvOk K H0 h' v r) : D.rt v h'.H := by
  unfold retR at q
  split at q
  · exact q v h' c g ok
  · exact q v h' c g ok
  · obtain ⟨l, vs, e, _, a, b, d⟩ := ok
    exact q v h' c g ⟨l, vs, e, a, b, d⟩
  · obtain ⟨l, vs, e, _, a, b, d⟩ := ok
    exact q v h' c g ⟨l, vs, e, a, b, d⟩
  · split at q
    · exact q v h' c g (dp_flatG (by assumption) ok)
    · exact q.elim
  · exact q.elim
theorem xret {e : Expr} {f : EF} {pos : Pos} (he : PE X e (tX X.K W f)) : PS X (.Return (some e) pos) (tS X.K W (retS f)) := psTo (ps_ret he) fun D σ H ⟨h, ρ, e, R, q⟩ => by
  subst e
  exact tX_mk R (q.then fun r v h' _ R' g' ok q' => ret_of q' R'.ch g'.sg _ ok)
def retVar (i : Nat) : SF := fun ρ => match slot ρ i with
  | .v d => .ret (.v d)
  | .b d => .ret (.b d)
  | .o xs => .ret (.o xs)
  | .k kvs => .ret (.ok kvs)
  | .y xss => .ret (.y xss)
  | _ => .bad
theorem xretv (i : Nat) {x : Str} {pos p2 : Pos} (hN : X.N[i]? = some x := by rfl) (hv : Vis X.env.scope x := by first | exact Or.inl rfl | exact Or.inr (Or.inl rfl) | exact Or.inr (Or.inr rfl)) (hd : (x == ("__debug__" : Str)) = false := by decide)
    (hcd : (x == ("__classdict__" : Str)) = false := by decide) : PS X (.Return (some (.Name x pos)) p2) (tS X.K W (retVar i)) := psTo (ps_ret (pe_var hN hv hd hcd)) fun D σ H ⟨h, ρ, e, R, q⟩ => by
  subst e
  unfold retVar at q
  split at q
  · rename_i d es
    obtain ⟨x, ex, v, rfl, ok⟩ := R.get (slot_some es (by intro z; cases z))
    exact ⟨v, ex, q v h R.ch (SG.refl h) ok⟩
  · rename_i d es
    obtain ⟨x, ex, v, rfl, ok⟩ := R.get (slot_some es (by intro z; cases z))
    exact ⟨v, ex, q v h R.ch (SG.refl h) ok⟩
  · rename_i d es
    obtain ⟨x, ex, l, vs, rfl, a, b, c⟩ := R.get (slot_some es (by intro z; cases z))
    exact ⟨_, ex, q _ h R.ch (SG.refl h) ⟨l, vs, rfl, a, b, c⟩⟩
  · rename_i d es
    obtain ⟨x, ex, l, vs, rfl, a, b, c⟩ := R.get (slot_some es (by intro z; cases z))
    exact ⟨_, ex, q _ h R.ch (SG.refl h) ⟨l, vs, rfl, a, b, c⟩⟩
  · rename_i d es
    obtain ⟨x, ex, l, vs, rfl, a, b, c⟩ := R.get (slot_some es (by intro z; cases z))
    exact ⟨_, ex, q _ h R.ch (SG.refl h) ⟨l, vs, rfl, a, b, c⟩⟩
  · exact q.elim
/-- if -/
def ifS (t : Env → Er Bool) (f g : SF) : SF := fun ρ => thenT ρ (t ρ) fun b => if b = true then f ρ else g ρ
theorem xifs {c : Expr} {a b : List Stmt} {t : Env → Er Bool} {f g : SF} {pos : Pos} (hc : PT X c (tXt X.K W t)) (ha : PSs X a (tS X.K W f)) (hb : PSs X b (tS X.K W g)) : PS X (.If c a b pos) (tS X.K W (ifS t f g)) := psTo (ps_if hc ha hb) fun D σ H ⟨h, ρ, e, R, q⟩ => by
  subst e
  refine tXt_mk R (q.thenT fun r h' _ R' g' q' => ?_)
  cases r with
  | true =>
    rw [if_pos rfl] at q' ⊢
    exact tS_mk R' q'
  | false =>
    rw [if_neg (by decide)] at q' ⊢
    exact tS_mk R' q'
/-- for -/
def forL (φ : TF) (f : SF) : List Rv → SF
  | [], ρ => .next ρ
  | r :: rs, ρ => match φ r ρ with
    | .ok ρ1 => match f ρ1 with
      | .next ρ' => forL φ f rs ρ'
      | .cont ρ' => forL φ f rs ρ'
      | .brk ρ' => .next ρ'
      | x => x
    | _ => .bad
def thenI (ρ : Env) (e : Er (List Rv)) (k : List Rv → Res) : Res := match e with
  | .ok r => k r
  | .exc c p => .exc c p ρ
  | .bad => .bad
def forS (it : IF) (φ : TF) (f : SF) : SF := fun ρ => thenI ρ (it ρ) fun rs => forL φ f rs ρ
theorem xfor {iter tg : Expr} {body : List Stmt} {it : IF} {φ : TF} {fp : List Nat} {f : SF} {pos : Pos} (hp : PassesOwn (model X.prog X.w) X.A X.env X.xe) (hc : X.calm = true) (hi : PI X tg iter (tI SG X.K W it)) (hg : PG X tg (tG X.K fp φ)) (hb : PSs X body (tS X.K W f))
    (hs : ∀ x, foldedSetIterable iter X.env x = pure x := by intro _; rfl) : PS X (.For tg iter body [] pos) (tS X.K W (forS it φ f)) := psTo (ps_for hp hc hi hg hb hs) fun D σ H ⟨h, ρ, e, R, q⟩ => by
  subst e
  refine ⟨h, ρ, rfl, R, ?_⟩
  unfold forS at q
  cases ei : it ρ with
  | bad => rw [ei] at q; exact q
  | exc c p =>
    rw [ei] at q
    exact fun h' R' g' => q σ h' R' g'.sg
  | ok rs =>
    rw [ei] at q
    have q : Post X.K W D h (forL φ f rs ρ) := q
    intro J h1 R1 g1 iok
    refine ⟨fun i m σ' H' => m = rs.length - i ∧ i ≤ rs.length ∧ ∃ h' ρ', h'.H = H' ∧ Rel X.K h' ρ' σ' ∧ SG h1 h' ∧ Post X.K W D h' (forL φ f (rs.drop i) ρ'), ⟨rs.length, by omega, Nat.zero_le _, h1, ρ, rfl, R1, SG.refl _, Post.shift g1.sg q⟩, ?_⟩
    rintro i m σ' H' ⟨em, hi, h2, ρ2, rfl, R2, g2, q2⟩
    by_cases hlt : i < rs.length
    · refine .inr ⟨iok.go i h2 g2 R2.ch hlt, fun σ3 H3 => ∃ h' ρ', h'.H = H3 ∧ Rel X.K h' ρ' σ3 ∧ SG h1 h' ∧ Post X.K W D h' (forL φ f (rs.drop (i + 1)) ρ'), fun σ3 H3 n => ⟨_, by omega, rfl, hlt, n⟩, fun x H3 y => ?_⟩
      obtain ⟨h3, r, rfl, g3, c3, er, okr⟩ := iok.yld i h2 x H3 g2 R2.ch hlt y
      have edrop : rs.drop i = r :: rs.drop (i + 1) := by
        obtain ⟨hh, e2⟩ := List.getElem?_eq_some_iff.mp er
        rw [List.drop_eq_getElem_cons hh, e2]
      rw [edrop] at q2
      unfold forL at q2
      have R3 : Rel X.K h3 ρ2 σ' := R2.grow g3 c3
      cases e1 : φ r ρ2 with
      | bad => rw [e1] at q2; exact q2.elim
      | exc c p => rw [e1] at q2; exact q2.elim
      | ok ρ4 =>
        rw [e1] at q2
        dsimp only at q2
        refine ⟨h3, h3, ρ2, r, ρ4, rfl, R3, R3, okr.rv, e1, fun σ4 R4 _ => tS_mk R4 ?_⟩
        have q3 := Post.shift g3.sg q2
        cases ef : f ρ4 with
        | next ρ5 =>
          rw [ef] at q3
          exact fun σ5 h5 R5 g5 => ⟨h5, ρ5, rfl, R5, (g2.trans g3.sg).trans g5, Post.shift g5 q3⟩
        | cont ρ5 =>
          rw [ef] at q3
          exact fun σ5 h5 R5 g5 => ⟨h5, ρ5, rfl, R5, (g2.trans g3.sg).trans g5, Post.shift g5 q3⟩
        | brk ρ5 =>
          rw [ef] at q3
          exact fun σ5 h5 R5 g5 => q3 σ5 h5 R5 g5
        | ret r =>
          rw [ef] at q3
          exact q3
        | exc c p ρ5 =>
          rw [ef] at q3
          exact q3
        | bad =>
          rw [ef] at q3
          exact q3
    · have hi' : i = rs.length := by omega
      subst hi'
      rw [List.drop_length] at q2
      exact .inl ⟨iok.stop _ h2 g2 R2.ch (Nat.le_refl _), q2 σ' h2 R2 (SG.refl _)⟩
/-- while -/
def whileN (t : Env → Er Bool) (f : SF) : Nat → SF
  | 0, _ => .bad
  | n + 1, ρ => thenT ρ (t ρ) fun b => if b = true then (match f ρ with
      | .next ρ' => whileN t f n ρ'
      | .cont ρ' => whileN t f n ρ'
      | .brk ρ' => .next ρ'
      | x => x) else .next ρ
def whileS (t : Env → Er Bool) (f : SF) : SF := whileN t f 1000000
theorem xwhile {c : Expr} {body : List Stmt} {t : Env → Er Bool} {f : SF} {pos : Pos} (hp : PassesOwn (model X.prog X.w) X.A X.env X.xe) (hc : PT X c (tXt X.K W t)) (hb : PSs X body (tS X.K W f)) : PS X (.While c body [] pos) (tS X.K W (whileS t f)) := psTo (ps_while hp hc hb) fun D σ H ⟨h, ρ, e, R, q⟩ => by
  subst e
  refine ⟨fun m σ' H' => ∃ h' ρ', h'.H = H' ∧ Rel X.K h' ρ' σ' ∧ Post X.K W D h' (whileN t f m ρ'), ⟨1000000, h, ρ, rfl, R, q⟩, ?_⟩
  rintro m σ' H' ⟨h2, ρ2, rfl, R2, q2⟩
  cases m with
  | zero => exact q2.elim
  | succ m =>
    unfold whileN at q2
    refine tXt_mk R2 (q2.thenT fun r h3 _ R3 g3 q3 => ?_)
    cases r with
    | false =>
      rw [if_neg (by decide)] at q3 ⊢
      exact q3 σ' h3 R3 (SG.refl _)
    | true =>
      rw [if_pos rfl] at q3 ⊢
      refine ⟨fun σ3 H3 => ∃ h' ρ', h'.H = H3 ∧ Rel X.K h' ρ' σ3 ∧ Post X.K W D h' (whileN t f m ρ'), fun σ3 H3 n => ⟨m, Nat.lt_succ_self m, n⟩, tS_mk R3 ?_⟩
      cases ef : f ρ2 with
      | next ρ5 =>
        rw [ef] at q3
        exact fun σ5 h5 R5 g5 => ⟨h5, ρ5, rfl, R5, Post.shift g5 q3⟩
      | cont ρ5 =>
        rw [ef] at q3
        exact fun σ5 h5 R5 g5 => ⟨h5, ρ5, rfl, R5, Post.shift g5 q3⟩
      | brk ρ5 =>
        rw [ef] at q3
        exact fun σ5 h5 R5 g5 => q3 σ5 h5 R5 g5
      | ret r =>
        rw [ef] at q3
        exact q3
      | exc c p ρ5 =>
        rw [ef] at q3
        exact q3
      | bad =>
        rw [ef] at q3
        exact q3
end
end Sq

/-! Defs and their calls; own lists changed. -/
namespace Sq
open PySem PySem.Spec PyProof.Rows L2
inductive Fr where
  | ret (r : Rv)
  | exc (c : Str) (p : Option (Str × D))
  | bad
def fnR (f : SF) (n : Nat) (as : List Sl) : Fr := match f (as ++ List.replicate (n - as.length) .u) with
  | .ret r => .ret r
  | .next _ => .ret (.v .none)
  | .exc c p _ => .exc c p
  | _ => .bad
/-- classes by their names -/
def cmOf (mg : Str → Option Value) (c : Str) : Addr := match mg c with
  | some (.ref a) => a
  | _ => 0
theorem cmOf_eq {mg : Str → Option Value} {c : Str} {a : Addr} (h : mg c = some (.ref a)) : cmOf mg c = a := by
  unfold cmOf
  rw [h]
def WFx (K : PySem.W.Frag) (cm : Str → Addr) (Wx : WX) : WF := fun c p σ h => match p with
  | none => Wx (.ref (cm c)) none σ h.H
  | some (f, x) => ∀ d v, h.H d = some (.xd [(f, v)]) → Dp K h.G v x → Wx (.ref (cm c)) (some d) σ h.H
def ArgsOk (K : PySem.W.Frag) (G H : Hp) : List V → List Sl → Prop
  | [], [] => True
  | v :: vs, .v d :: as => Dp K G v d ∧ ArgsOk K G H vs as
  | v :: vs, .b d :: as => Dp K H v d ∧ ArgsOk K G H vs as
  | _, _ => False
def RtOk (K : PySem.W.Frag) (H G' H' : Hp) (v : V) : Rv → Prop
  | .v d => Dp K G' v d
  | .b d => Dp K H' v d
  | .o xs => ∃ l vs, v = .ref l ∧ H l = none ∧ H' l = some (.lst vs) ∧ G' l = none ∧ DpAll K G' vs xs
  | .ok kvs => ∃ l vs, v = .ref l ∧ H l = none ∧ H' l = some (.dK vs) ∧ G' l = none ∧ KvD K G' vs kvs
  | .y xss => ∃ l ms, v = .ref l ∧ H l = none ∧ H' l = some (.lst (refsOf ms)) ∧ G' l = none ∧ Ys K H' G' ms xss
  | .p2 xs ys => ∃ t l m vs ws, v = .ref t ∧ H' t = some (.tup [.ref l, .ref m]) ∧ l ≠ m ∧ (H l = none ∧ H' l = some (.lst vs) ∧ G' l = none ∧ DpAll K G' vs xs) ∧ (H m = none ∧ H' m = some (.lst ws) ∧ G' m = none ∧ DpAll K G' ws ys)
  | .sj d _ _ _ => Dp K G' v d
  | _ => False
structure CG (G H G' H' : Hp) : Prop where
  g : Ex G G'
  h : Ex H H'
  c : Ex G' H'
  n : ∀ a o, G' a = some o → G a = none → H a = none
/-- a def's promise: what the pure function g says -/
def fsp (K : PySem.W.Frag) (cm : Str → Addr) (n : Nat) (g : List Sl → Fr) : Sp := fun vs H Q E => vs.length = n ∧ ∃ (G : Hp) (as : List Sl), Ex G H ∧ ArgsOk K G H vs as ∧ match g as with
  | .ret r => ∀ v G' H', CG G H G' H' → RtOk K H G' H' v r → Q v H'
  | .exc c none => ∀ G' H', CG G H G' H' → E (.ref (cm c)) none H'
  | .exc c (some (f, x)) => ∀ G' H' d v, CG G H G' H' → H' d = some (.xd [(f, v)]) → Dp K G' v x → E (.ref (cm c)) (some d) H'
  | .bad => False
section
variable {P : Program} {w : World} {K : PySem.W.Frag} {mg : Str → Option Value} {base : Heap}
theorem ArgsOk.len {G H : Hp} : ∀ {vs : List V} {as : List Sl}, ArgsOk K G H vs as → vs.length = as.length
  | [], [], _ => rfl
  | _ :: _, .v _ :: _, q => congrArg (· + 1) (ArgsOk.len q.2)
  | _ :: _, .b _ :: _, q => congrArg (· + 1) (ArgsOk.len q.2)
  | [], _ :: _, q => q.elim
  | _ :: _, [], q => q.elim
  | _ :: _, .u :: _, q => q.elim
  | _ :: _, .o _ :: _, q => q.elim
  | _ :: _, .k _ :: _, q => q.elim
  | _ :: _, .t _ :: _, q => q.elim
  | _ :: _, .n _ :: _, q => q.elim
theorem ArgsOk.get {G H : Hp} : ∀ {vs : List V} {as : List Sl} {i : Nat} {s : Sl}, ArgsOk K G H vs as → as[i]? = some s → ∃ v, vs[i]? = some v ∧ ((∃ d, s = .v d ∧ Dp K G v d) ∨ ∃ d, s = .b d ∧ Dp K H v d)
  | v :: vs, .v d :: as, 0, s, q, e => by
    cases e
    exact ⟨v, rfl, .inl ⟨d, rfl, q.1⟩⟩
  | v :: vs, .b d :: as, 0, s, q, e => by
    cases e
    exact ⟨v, rfl, .inr ⟨d, rfl, q.1⟩⟩
  | _ :: _, .v _ :: as, i + 1, s, q, e => ArgsOk.get (i := i) q.2 (by simpa using e)
  | _ :: _, .b _ :: as, i + 1, s, q, e => ArgsOk.get (i := i) q.2 (by simpa using e)
  | [], [], _, _, _, e => by simp at e
  | [], _ :: _, _, _, q, _ => q.elim
  | _ :: _, [], _, _, q, _ => q.elim
  | _ :: _, .u :: _, _, _, q, _ => q.elim
  | _ :: _, .o _ :: _, _, _, q, _ => q.elim
  | _ :: _, .k _ :: _, _, _, q, _ => q.elim
  | _ :: _, .t _ :: _, _, _, q, _ => q.elim
  | _ :: _, .n _ :: _, _, _, q, _ => q.elim
theorem rel_start {N : List Str} {G H : Hp} {vs : List V} {as : List Sl} (c : Ex G H) (ok : ArgsOk K G H vs as) (hl : vs.length ≤ N.length) : Rel K ⟨G, H, H⟩ (as ++ List.replicate (N.length - as.length) .u) (L2.start N vs) := by
  have el := ok.len
  have cases_at : ∀ {i : Nat} {s : Sl}, (as ++ List.replicate (N.length - as.length) Sl.u)[i]? = some s → as[i]? = some s ∨ s = .u := fun {i s} e => by
    rw [List.getElem?_append] at e
    split at e
    · exact .inl e
    · rw [List.getElem?_replicate] at e
      split at e
      · cases e; exact .inr rfl
      · cases e
  refine ⟨⟨c, Ex.refl H⟩, ?_, fun i s x e1 e2 => ?_, fun i j s t l m hij e1 e2 o1 o2 _ _ => ?_⟩
  · unfold L2.start
    simp [el]
  · rcases cases_at e1 with e | e
    · obtain ⟨v, ev, q⟩ := ok.get e
      have ex : x = some v := by
        unfold L2.start at e2
        have hi : i < vs.length := (List.getElem?_eq_some_iff.mp ev).1
        rw [List.getElem?_append_left (by simpa using hi), List.getElem?_map, ev] at e2
        cases e2
        rfl
      rcases q with ⟨d, rfl, q⟩ | ⟨d, rfl, q⟩
      · exact ⟨v, ex, q⟩
      · exact ⟨v, ex, q⟩
    · subst e
      trivial
  · exfalso
    rcases cases_at e1 with e | e
    · obtain ⟨v, ev, q⟩ := ok.get e
      rcases q with ⟨d, rfl, q⟩ | ⟨d, rfl, q⟩ <;> cases o1
    · subst e
      cases o1
theorem cg_of {G H : Hp} {h' : Hs} (c : Ch h') (g : SG ⟨G, H, H⟩ h') : CG G H h'.G h'.H := ⟨g.g, g.f.trans c.fh, c.gh, g.gn⟩
abbrev bodyCx (P : Program) (w : World) (K : PySem.W.Frag) (mg : Str → Option Value) (base : Heap) (N : List Str) (qual : Str) (st : Stmt) (f : Addr) (cdv : Value) (A : Around) (outer : List PySem.Env) (s : Shared) (H : Hp) (E : XK) : Cx := cxOf (L2.CX P w) P w K mg base N qual (defScope st) f cdv A outer s H E
/-- THE RULE for a def -/
theorem fn_ok {cm : Str → Addr} {x qual : Str} {st : Stmt} {f : Addr} {fd : FuncData} {N ps : List Str} {k : Nat} {bf : SF} (F : Fun K x qual st f fd) (S : FnScope N ps (defScope st)) (hps : ps.length ≤ N.length)
    (body : ∀ (cdv : Value) (A : Around) (outer : List PySem.Env) (s : Shared) (H : Hp) (E : XK), Room k (A.deeper (envOfC qual (defScope st) s.heap.objs.size f cdv)) →
      PSs (bodyCx P w K mg base N qual st f cdv A outer s H E) (defBody st) (tS K (WFx K cm fun cls d _ H => E cls d H) bf)) :
    FnOk P w K mg base (L2.CX P w) (k + 1) f fd ps (fsp K cm ps.length (fnR bf N.length)) := by
  refine F.okX S (fun vs H Q E h => h.1) fun cdv A outer s H vs Q E hr h => ⟨_, body cdv A outer s H E hr, ?_⟩
  obtain ⟨hl, G, as, c, ok, q⟩ := h
  have R := rel_start (N := N) c ok (by omega)
  refine ⟨⟨G, H, H⟩, _, rfl, R, ?_⟩
  unfold fnR at q
  cases e : bf (as ++ List.replicate (N.length - as.length) .u) with
  | bad => rw [e] at q; exact q.elim
  | brk _ => rw [e] at q; exact q.elim
  | cont _ => rw [e] at q; exact q.elim
  | next ρ' =>
    rw [e] at q
    exact fun σ' h' R' g' => q .non h'.G h'.H (cg_of R'.ch g') .non
  | ret r =>
    rw [e] at q
    intro v h' c' g' ok'
    refine q v h'.G h'.H (cg_of c' g') ?_
    cases r with
    | v d => exact ok'
    | b d => exact ex_dp c'.fh ok'
    | o xs =>
      obtain ⟨l, vs, ev, a, b, d⟩ := ok'
      exact ⟨l, vs, ev, g'.f.back b, a, c'.gf.back b, d⟩
    | ok xs =>
      obtain ⟨l, vs, ev, a, b, d⟩ := ok'
      exact ⟨l, vs, ev, g'.f.back b, a, c'.gf.back b, d⟩
    | p2 xs ys =>
      obtain ⟨t, l, m, vs, ws, ev, ht, ne, ⟨a, b, d⟩, ⟨a2, b2, d2⟩⟩ := ok'
      exact ⟨t, l, m, vs, ws, ev, ht, ne, ⟨g'.f.back b, a, c'.gf.back b, d⟩, ⟨g'.f.back b2, a2, c'.gf.back b2, d2⟩⟩
    | y xss =>
      obtain ⟨l, ms, ev, a, b, d⟩ := ok'
      exact ⟨l, ms, ev, g'.f.back b, a, c'.gf.back b, Paired.mapP d fun m xs ⟨vs, x, y, z⟩ => ⟨vs, c'.fh _ _ x, y, z⟩⟩
    | sj d l c fs => exact ok'.1
    | _ => exact ok'.elim
  | exc cc p ρ' =>
    rw [e] at q
    intro σ' h' R' g'
    cases p with
    | none => exact q h'.G h'.H (cg_of R'.ch g')
    | some p =>
      obtain ⟨ff, xx⟩ := p
      exact fun d v hd hv => q h'.G h'.H d v (cg_of R'.ch g') hd hv
end

/-! ### calls -/
section
variable {X : Cx} {W : WF} {cm : Str → Addr}
/-- what is let out is taken -/
def Tk (X : Cx) (cm : Str → Addr) (W : WF) : Prop := ∃ Wx : WX, Takes X Wx ∧ ∀ c p σ h, W c p σ h → WFx X.K cm Wx c p σ h
theorem tkN : Tk X cm WN := ⟨fun _ _ _ _ => False, takes0, fun _ _ _ _ z => z.elim⟩
theorem tkOf {Wx : WX} (t : Takes X Wx) : Tk X cm (WFx X.K cm Wx) := ⟨Wx, t, fun _ _ _ _ z => z⟩
def Rv.sl : Rv → Sl
  | .v d => .v d
  | .b d => .b d
  | .r d => .b d
  | _ => .u
def Fr.rv : Fr → Er Rv
  | .ret (.v d) => .ok (.v d)
  | .ret (.b d) => .ok (.r d)
  | .ret (.o xs) => .ok (.o xs)
  | .ret (.ok xs) => .ok (.ok xs)
  | .ret (.p2 xs ys) => .ok (.p2 xs ys)
  | .ret _ => .bad
  | .exc c p => .exc c p
  | .bad => .bad
def callF (g : List Sl → Fr) (r : AF) : EF := fun ρ => (r ρ).bind fun rs => (g (rs.map Rv.sl)).rv
theorem args_of {K : PySem.W.Frag} {h : Hs} (c : Ch h) : ∀ {vs : List V} {rs : List Rv}, RvsOk K h vs rs → ArgsOk K h.G h.H vs (rs.map Rv.sl)
  | [], [], _ => trivial
  | _ :: _, .v _ :: _, q => ⟨q.1, args_of c q.2⟩
  | _ :: _, .b _ :: _, q => ⟨ex_dp c.fh q.1, args_of c q.2⟩
  | _ :: _, .r _ :: _, q => ⟨q.1, args_of c q.2⟩
  | [], _ :: _, q => q.elim
  | _ :: _, [], q => q.elim
  | _ :: _, .w _ :: _, q => q.1.elim
  | _ :: _, .o _ :: _, q => q.1.elim
  | _ :: _, .wk _ :: _, q => q.1.elim
  | _ :: _, .ok _ :: _, q => q.1.elim
  | _ :: _, .wt _ :: _, q => q.1.elim
  | _ :: _, .wn _ :: _, q => q.1.elim
  | _ :: _, .ot _ :: _, q => q.1.elim
  | _ :: _, .on _ :: _, q => q.1.elim
  | _ :: _, .p2 _ _ :: _, q => q.1.elim
  | _ :: _, .sj _ _ _ _ :: _, q => q.1.elim
/-- behind a call: the caller's heaps -/
def Hs.call (h : Hs) (G' H' : Hp) : Hs := ⟨G', fun a => match h.F a with | some o => some o | none => G' a, H'⟩
theorem call_gr {h : Hs} (c : Ch h) {G' H' : Hp} (g : CG h.G h.H G' H') : Gr h (h.call G' H') ∧ Ch (h.call G' H') := by
  have gf : Ex G' (h.call G' H').F := fun a o e => by
    show (match h.F a with | some o => some o | none => G' a) = some o
    cases q : h.F a with
    | none => exact e
    | some u =>
      cases z : h.G a with
      | none =>
        have := g.n a o e z
        rw [c.fh a u q] at this
        cases this
      | some t =>
        have e1 := g.g a t z
        rw [e] at e1
        cases e1
        have e2 := c.gf a _ z
        rw [q] at e2
        exact e2
  have ff : Ex h.F (h.call G' H').F := fun a o e => by
    show (match h.F a with | some o => some o | none => G' a) = some o
    rw [e]
  refine ⟨⟨g.g, ff, g.h, fun a o e z => ?_, fun a o e z => ?_⟩, ⟨gf, fun a o e => ?_⟩⟩
  · exact c.fh.back (g.n a o e z)
  · have e' : (match h.F a with | some o => some o | none => G' a) = some o := e
    rw [z] at e'
    exact g.n a o e' (c.gf.back z)
  · have e' : (match h.F a with | some o => some o | none => G' a) = some o := e
    cases q : h.F a with
    | none =>
      rw [q] at e'
      exact g.c a o e'
    | some u =>
      rw [q] at e'
      cases e'
      exact g.h a _ (c.fh a _ q)
theorem xcall {k : Nat} {f : Addr} {fd : FuncData} {ps : List Str} {g : List Sl → Fr} {x : Str} {p pos : Pos} {e : Expr} {es : List Expr} {r : AF} (tk : Tk X cm W) (F : FnOk X.prog X.w X.K X.mg X.base (L2.CX X.prog X.w) k f fd ps (fsp X.K cm ps.length g)) (hr : Room k X.A) (hg : Gl X x) (hm : X.mg x = some (.ref f)) (hk : PySem.W.keepIn X.K (.ref f) = true) (hb : Binds X.K fd ps [])
    (hlen : ps.length = (e :: es).length) (ha : PA X (e :: es) (tXa X.K W r)) (hrl : ∀ ρ rs, r ρ = .ok rs → rs.length = (e :: es).length) (hdb : (x == ("__debug__" : Str)) = false := by decide) (he : starEach (e :: es) X.env = (false, eval e X.env) :: starEach es X.env := by rfl) (hpl : (backTo pos (starEach es X.env)).any (·.1) = false := by rfl) :
    PE X (.Call (.Name x p) (e :: es) [] pos) (tX X.K W (callF g r)) := by
  obtain ⟨Wx, tk, hW⟩ := tk
  refine peTo (pe_callS F hr hg hm hk hb (E := WE Wx) (fun σ => passAt tk σ) ha hdb he hpl) fun σ H Q q => ?_
  obtain ⟨h, ρ, rfl, R, q⟩ := tX_iff.mp q
  refine ⟨h, ρ, rfl, R, PE1.bindA q fun rs vs h1 er R1 g1 ok1 q1 => ?_⟩
  refine ⟨by rw [ok1.len, hrl ρ rs er, hlen], h1.G, rs.map Rv.sl, R1.ch.gh, args_of R1.ch ok1, ?_⟩
  cases eg : g (rs.map Rv.sl) with
  | bad => rw [eg] at q1; exact q1.elim
  | exc c p =>
    rw [eg] at q1
    cases p with
    | none =>
      intro G' H' cg
      obtain ⟨gr, ch⟩ := call_gr R1.ch cg
      exact hW _ _ _ _ (q1 (h1.call G' H') (R1.grow gr ch) gr)
    | some p =>
      obtain ⟨ff, xx⟩ := p
      intro G' H' d v cg hd hv
      obtain ⟨gr, ch⟩ := call_gr R1.ch cg
      exact hW _ _ _ _ (q1 (h1.call G' H') (R1.grow gr ch) gr) d v hd hv
  | ret res =>
    rw [eg] at q1
    intro v G' H' cg ok'
    obtain ⟨gr, ch⟩ := call_gr R1.ch cg
    have R2 := R1.grow gr ch
    cases res with
    | v d => exact q1 v (h1.call G' H') R2 gr ok'
    | b d => exact q1 v (h1.call G' H') R2 gr ok'
    | o xs =>
      obtain ⟨l, ws, ev, n, a, b, d⟩ := ok'
      refine q1 v (h1.call G' H') R2 gr ⟨l, ws, ev, n, a, ?_, d⟩
      show (match h1.F l with | some o => some o | none => G' l) = none
      rw [R1.ch.fh.back n]
      exact b
    | ok xs =>
      obtain ⟨l, ws, ev, n, a, b, d⟩ := ok'
      refine q1 v (h1.call G' H') R2 gr ⟨l, ws, ev, n, a, ?_, d⟩
      show (match h1.F l with | some o => some o | none => G' l) = none
      rw [R1.ch.fh.back n]
      exact b
    | p2 xs ys =>
      obtain ⟨t, l, m, vs', ws, ev, ht, ne, ⟨n, a, b, d⟩, ⟨n2, a2, b2, d2⟩⟩ := ok'
      refine q1 v (h1.call G' H') R2 gr ⟨t, l, m, vs', ws, ev, ht, ne, ⟨n, a, ?_, d⟩, ⟨n2, a2, ?_, d2⟩⟩
      · show (match h1.F l with | some o => some o | none => G' l) = none
        rw [R1.ch.fh.back n]
        exact b
      · show (match h1.F m with | some o => some o | none => G' m) = none
        rw [R1.ch.fh.back n2]
        exact b2
    | _ => exact q1.elim
/-! ### raise -/
def excS (c : Str) : SF := fun ρ => .exc c none ρ
theorem xraise {c m : Str} {j : Nat} {p p2 pos pos2 : Pos} {bmB : List Value} {B newId initId : String} (tk : Tk X cm W) (hc : X.calm = true) (F : ExcBaseFacts B newId initId bmB) (q : PySem.W.excIn X.K (cm c) bmB newId = true) (gC : X.mg c = some (.ref (cm c))) (kC : PySem.W.keepIn X.K (.ref (cm c)) = true) (r : Raises X (.ref (cm c))) (hg : Gl X c)
    (hdb : (c == ("__debug__" : Str)) = false := by decide) : PS X (.Raise (some (.Call (.Name c p) [.Constant (.str m) j p2] [] pos)) none pos2) (tS X.K W (excS c)) := by
  obtain ⟨Wx, tk, hW⟩ := tk
  refine psTo (ps_raise hc tk (pmk_own F q gC kC r hg hdb)) fun D σ H ⟨h, ρ, e, R, q⟩ => ?_
  subst e
  exact hW _ _ _ _ (q σ h R (SG.refl h))

/-! ### own lists changed -/
/-- the own object of a slot is another one -/
theorem Rel.mut {K : PySem.W.Frag} {h : Hs} {ρ : Env} {σ : L2.St} (R : Rel K h ρ σ) {i : Nat} {s s' : Sl} {l : Addr} {o : HO} (e : ρ[i]? = some s) (os : s.own = true) (os' : s'.own = true) (el : σ[i]? = some (some (.ref l))) (ok : SlOk K ⟨h.G, h.F, upd h.H l o⟩ (some (.ref l)) s') :
    Rel K ⟨h.G, h.F, upd h.H l o⟩ (ρ.set i s') σ ∧ SG h ⟨h.G, h.F, upd h.H l o⟩ := by
  obtain ⟨_, fl⟩ := R.ownH e os el
  have hi : i < ρ.length := (List.getElem?_eq_some_iff.mp e).1
  refine ⟨⟨⟨R.ch.gf, Ex.mut R.ch.fh fl⟩, by simp [R.len], fun j t x e1 e2 => ?_, fun j k t u m n hjk e1 e2 o1 o2 e3 e4 => ?_⟩, ⟨Ex.refl _, Ex.refl _, fun a u e1 e2 => no_sm (show h.G a = some u from e1) e2⟩⟩
  · by_cases hj : i = j
    · subst hj
      rw [List.getElem?_set] at e1
      simp only [if_true, hi] at e1
      cases e1
      rw [el] at e2
      cases e2
      exact ok
    · rw [List.getElem?_set_ne hj] at e1
      have q := R.at_ j t x e1 e2
      have hm : ∀ m, t.own = true → x = some (.ref m) → m ≠ l := fun m ot z => by
        subst z
        exact Ne.symm (R.dis i j s t l m hj e e1 os ot el e2)
      cases t with
      | u => trivial
      | x a => exact q
      | v d => exact q
      | b d => exact q
      | o ys =>
        obtain ⟨m, ws, z, a, b, d⟩ := q
        exact ⟨m, ws, z, (upd_ne (hm m rfl z)).trans a, b, d⟩
      | k ys =>
        obtain ⟨m, ws, z, a, b, d⟩ := q
        exact ⟨m, ws, z, (upd_ne (hm m rfl z)).trans a, b, d⟩
      | t ys =>
        obtain ⟨m, ws, z, a, b, d⟩ := q
        exact ⟨m, ws, z, (upd_ne (hm m rfl z)).trans a, b, d⟩
      | n ys =>
        obtain ⟨m, ws, z, a, b, d⟩ := q
        exact ⟨m, ws, z, (upd_ne (hm m rfl z)).trans a, b, d⟩
      | i c ys =>
        obtain ⟨m, ws, dx, z, a, b, d⟩ := q
        exact ⟨m, ws, dx, z, (upd_ne (hm m rfl z)).trans a, b, d⟩
      | j m c ys =>
        obtain ⟨ws, dx, z, a, b, d⟩ := q
        exact ⟨ws, dx, z, (upd_ne (hm m rfl z)).trans a, b, d⟩
      | y ys =>
        obtain ⟨m, ws, z, a, b, d⟩ := q
        exact ⟨m, ws, z, (upd_ne (hm m rfl z)).trans a, b, d⟩
      | z m ys => exact q
      | e ys => exact q
  · have fix : ∀ {j : Nat} {t : Sl} {m : Addr}, (ρ.set i s')[j]? = some t → t.own = true → σ[j]? = some (some (.ref m)) → ∃ t', ρ[j]? = some t' ∧ t'.own = true := fun {j t m} e1 o1 e3 => by
      by_cases hj : i = j
      · subst hj
        exact ⟨s, e, os⟩
      · rw [List.getElem?_set_ne hj] at e1
        exact ⟨t, e1, o1⟩
    obtain ⟨t', a1, a2⟩ := fix e1 o1 e3
    obtain ⟨u', b1, b2⟩ := fix e2 o2 e4
    exact R.dis j k t' u' m n hjk a1 b1 a2 b2 e3 e4
/-- l.append(e), l a local -/
def appS (i : Nat) (f : EF) : SF := fun ρ => match slot ρ i with
  | .o xs => thenS ρ (f ρ) fun r => match r.keep with
    | .ok d => if xs.length < 100000 then .next (ρ.set i (.o (xs ++ [d]))) else .bad
    | _ => .bad
  | _ => .bad
theorem mut_now {K : PySem.W.Frag} {h : Hs} {ρ : Env} {σ : L2.St} (R : Rel K h ρ σ) {i : Nat} {xs : List D} (es : slot ρ i = .o xs) : ∃ l vs, σ[i]? = some (some (.ref l)) ∧ h.H l = some (.lst vs) ∧ DpAll K h.G vs xs ∧ vs.length = xs.length ∧
    ∀ (ws : List V) (ys : List D), DpAll K h.G ws ys → Rel K ⟨h.G, h.F, upd h.H l (.lst ws)⟩ (ρ.set i (.o ys)) σ ∧ SG h ⟨h.G, h.F, upd h.H l (.lst ws)⟩ := by
  have ei := slot_some es (by intro z; cases z)
  obtain ⟨x, ex, l, vs, rfl, hl, fl, hd⟩ := R.get ei
  exact ⟨l, vs, ex, hl, hd, hd.len, fun ws ys d => R.mut ei rfl rfl ex ⟨l, ws, rfl, upd_same, fl, d⟩⟩
theorem keep_okS {K : PySem.W.Frag} {h0 h : Hs} {ρ : Env} {σ : L2.St} (R0 : Rel K h0 ρ σ) (R : Rel K h ρ σ) (g : Gr h0 h) {v : V} {a : Rv} {d : D} (e : a.keep = .ok d) (ok : RvOk K h0.H h v a) : ∃ h', h'.H = h.H ∧ Rel K h' ρ σ ∧ Gr h0 h' ∧ Dp K h'.G v d := keep_ok R0 R g e ok
theorem xapp (i : Nat) {e o : Expr} {f : EF} {pos apos spos : Pos} (he : PE X (.Call (.Attribute o "append" apos) [e] [] pos) (tBM X.K "list" rAppend (tVar i) (tCons (tX X.K W f) tNil))) (hs : swapsWith (.Call (.Attribute o "append" apos) [e] [] pos) none spos.line X.env = pure false := by rfl) :
    PS X (.Expr (.Call (.Attribute o "append" apos) [e] [] pos) spos) (tS X.K W (appS i f)) := by
  refine psTo (ps_expr he hs) fun D σ H ⟨h, ρ, eh, R, q⟩ => ?_
  subst eh
  unfold appS at q
  split at q
  · rename_i xs es
    obtain ⟨l, vs, ex, hl, hd, hlen, _⟩ := mut_now R es
    refine ⟨.ref l, ex, .inl ⟨rfl, vs, .of hl⟩, ?_⟩
    refine (tX_mk (f := f) R (q.then fun r v h' _ R' g' ok q' => ?_) : tX X.K W f σ h.H _)
    cases ek : r.keep with
    | bad => rw [ek] at q'; exact q'.elim
    | exc c p => exact absurd ek keep_ne
    | ok d =>
      rw [ek] at q'
      dsimp only at q'
      split at q'
      · obtain ⟨h2, eh2, R2, g2, dv⟩ := keep_ok R R' g' ek ok
        obtain ⟨l2, vs2, ex2, hl2, hd2, hlen2, mt⟩ := mut_now R2 es
        rw [ex] at ex2
        cases ex2
        obtain ⟨R3, g3⟩ := mt (vs2 ++ [v]) (xs ++ [d]) (hd2.snoc dv)
        rw [← eh2]
        exact ⟨l, vs2, v, rfl, rfl, hl2, by rw [hlen2]; exact Nat.lt_of_lt_of_le (by assumption) (by decide), q' σ _ R3 (g2.sg.trans g3)⟩
      · exact q'.elim
  · exact q.elim
/-! an expression that changes an own list: its value, the environment behind it -/
abbrev MF := Env → Er (Rv × Env)
def PM1 (K : PySem.W.Frag) (W : WF) (h : Hs) (ρ : Env) (σ : L2.St) (Q : VK) : Er (Rv × Env) → Prop
  | .ok (r, ρ') => ∀ v h', Rel K h' ρ' σ → SG h h' → RvF K h' v r → Q v h'.H
  | .exc c p => ∀ h', Rel K h' ρ σ → SG h h' → W c p σ h'
  | .bad => False
def tM (K : PySem.W.Frag) (W : WF) (f : MF) : TE := fun σ H Q => ∃ h ρ, h.H = H ∧ Rel K h ρ σ ∧ PM1 K W h ρ σ Q (f ρ)
/-- l.pop(e), 0 ≤ e -/
def popAtM (j : Nat) (f : EF) : MF := fun ρ => match slot ρ j with
  | .o xs => (f ρ).bind fun r => match r.dat with
    | some (.int i) => if 0 ≤ i ∧ i < 1000000 then (match xs[i.toNat]? with
      | some d => .ok (.v d, ρ.set j (.o (xs.eraseIdx i.toNat)))
      | none => .bad) else .bad
    | _ => .bad
  | _ => .bad
theorem seqIx_nat {i : Int} {n : Nat} (h0 : 0 ≤ i) (h : i.toNat < n) : seqIndex? i n = some i.toNat := by
  have e : ixN n i = some i.toNat := by
    unfold ixN
    rw [if_pos h0, if_pos (by omega)]
  exact (ixN_seq e).1
theorem xpopAt (j : Nat) {e : Expr} {f : EF} (he : PE X e (tBM X.K "list" rPopAt (tVar j) (tCons (tX X.K W f) tNil))) : PE X e (tM X.K W (popAtM j f)) := by
  refine peTo he fun σ H Q ⟨h, ρ, eh, R, q⟩ => ?_
  subst eh
  unfold popAtM at q
  split at q
  · rename_i xs es
    obtain ⟨l, vs, ex, hl, hd, hlen, _⟩ := mut_now R es
    refine ⟨.ref l, ex, .inl ⟨rfl, vs, .of hl⟩, ?_⟩
    refine (tX_mk (f := f) R ?_ : tX X.K W f σ h.H _)
    cases ef : f ρ with
    | bad => rw [ef] at q; exact q
    | exc c p =>
      rw [ef] at q
      exact fun h' R' g' => q h' R' g'.sg
    | ok r =>
      rw [ef] at q
      have q : PM1 X.K W h ρ σ Q (match r.dat with
        | some (.int i) => if 0 ≤ i ∧ i < 1000000 then (match xs[i.toNat]? with
          | some d => .ok (.v d, ρ.set j (.o (xs.eraseIdx i.toNat)))
          | none => .bad) else .bad
        | _ => .bad) := q
      intro v h' R' g' ok
      split at q
      · rename_i i ei
        split at q
        · rename_i hi
          split at q
          · rename_i d hd1
            have ev := dp_int (ok.dp R'.ch ei)
            subst ev
            obtain ⟨l2, vs2, ex2, hl2, hd2, hlen2, mt⟩ := mut_now R' es
            rw [ex] at ex2
            cases ex2
            obtain ⟨y, ey, dy⟩ := hd2.get hd1
            have hlt : i.toNat < xs.length := (List.getElem?_eq_some_iff.mp hd1).1
            obtain ⟨R3, g3⟩ := mt (vs2.eraseIdx i.toNat) (xs.eraseIdx i.toNat) (hd2.eraseIdx _)
            exact ⟨l, vs2, i, i.toNat, y, rfl, rfl, hl2, by omega, by omega, seqIx_nat hi.1 (by rw [hlen2]; exact hlt), ey, q y _ R3 (g'.sg.trans g3) dy⟩
          · exact q.elim
        · exact q.elim
      · exact q.elim
  · exact q.elim
/-- l.pop() -/
def popM (j : Nat) : MF := fun ρ => match slot ρ j with
  | .o xs => match xs[xs.length - 1]? with
    | some d => .ok (.v d, ρ.set j (.o xs.dropLast))
    | none => .bad
  | _ => .bad
theorem DpAll.dropLast {K : PySem.W.Frag} {H : Hp} {vs : List V} {ds : List D} (h : DpAll K H vs ds) : DpAll K H vs.dropLast ds.dropLast := by
  rw [List.dropLast_eq_take, List.dropLast_eq_take, h.len]
  exact h.take _
theorem xpop (j : Nat) {e : Expr} (he : PE X e (tBM0 X.K "list" rPop (tVar j))) : PE X e (tM X.K W (popM j)) := by
  refine peTo he fun σ H Q ⟨h, ρ, eh, R, q⟩ => ?_
  subst eh
  unfold popM at q
  split at q
  · rename_i xs es
    obtain ⟨l, vs, ex, hl, hd, hlen, mt⟩ := mut_now R es
    split at q
    · rename_i d hd1
      obtain ⟨y, ey, dy⟩ := hd.get hd1
      obtain ⟨R3, g3⟩ := mt vs.dropLast xs.dropLast hd.dropLast
      exact ⟨.ref l, ex, .inl ⟨rfl, vs, .of hl⟩, l, vs, y, rfl, rfl, hl, by rw [hlen]; exact ey, q y _ R3 g3 dy⟩
    · exact q.elim
  · exact q.elim
def thenM (ρ : Env) (e : Er (Rv × Env)) (k : Rv → Env → Res) : Res := match e with
  | .ok (r, ρ') => k r ρ'
  | .exc c p => .exc c p ρ
  | .bad => .bad
theorem Post.thenM {D : Ends} {h : Hs} {ρ : Env} {σ : L2.St} {e : Er (Rv × Env)} {k : Rv → Env → Res} (q : Post X.K W D h (thenM ρ e k)) {Q : VK} (hk : ∀ r ρ' v h', e = .ok (r, ρ') → Rel X.K h' ρ' σ → SG h h' → RvF X.K h' v r → Post X.K W D h' (k r ρ') → Q v h'.H) : PM1 X.K W h ρ σ Q e := by
  cases e with
  | ok r => exact fun v h' R g ok => hk r.1 r.2 v h' rfl R g ok (Post.shift g q)
  | exc c p => exact fun h' R g => q σ h' R g
  | bad => exact q
/-- x = l.pop(..) -/
def asgM (f : MF) (φ : TF) : SF := fun ρ => thenM ρ (f ρ) fun r ρ' => liftE ρ' (φ r ρ')
theorem xasgM {tg e : Expr} {f : MF} {φ : TF} {fp : List Nat} {pos : Pos} (hφ : ∀ r ρ c p, φ r ρ ≠ .exc c p) (he : PE X e (tM X.K W f)) (hg : PG X tg (tG X.K fp φ)) (hs : swapsWithSole [tg] e pos.line X.env = pure false := by rfl) (hw : swappedStores [tg] e X.env = pure none := by rfl)
    (h1 : (assignEach [tg] X.env).map (·.2) = [assign tg X.env] := by rfl) : PS X (.Assign [tg] e pos) (tS X.K W (asgM f φ)) := psTo (ps_asg he hg hs hw h1) fun D σ H ⟨h, ρ, e, R, q⟩ => by
  subst e
  refine ⟨h, ρ, rfl, R, q.thenM fun r ρ' v h' _ R' g' ok q' => ?_⟩
  cases e1 : φ r ρ' with
  | bad => rw [e1] at q'; exact q'.elim
  | exc c p => exact absurd e1 (hφ _ _ _ _)
  | ok ρ2 =>
    rw [e1] at q'
    exact ⟨h', h', ρ', r, ρ2, rfl, R', R', ok.rv, e1, fun σ' R2 _ => q' σ' h' R2 (SG.refl _)⟩
/-- l.append(m.pop(..)) -/
def appM (i : Nat) (f : MF) : SF := fun ρ => match slot ρ i with
  | .o _ => thenM ρ (f ρ) fun r ρ' => match slot ρ' i, r with
    | .o xs, .v d => if xs.length < 100000 then .next (ρ'.set i (.o (xs ++ [d]))) else .bad
    | _, _ => .bad
  | _ => .bad
theorem xappM (i : Nat) {e o : Expr} {f : MF} {pos apos spos : Pos} (he : PE X (.Call (.Attribute o "append" apos) [e] [] pos) (tBM X.K "list" rAppend (tVar i) (tCons (tM X.K W f) tNil))) (hs : swapsWith (.Call (.Attribute o "append" apos) [e] [] pos) none spos.line X.env = pure false := by rfl) :
    PS X (.Expr (.Call (.Attribute o "append" apos) [e] [] pos) spos) (tS X.K W (appM i f)) := by
  refine psTo (ps_expr he hs) fun D σ H ⟨h, ρ, eh, R, q⟩ => ?_
  subst eh
  unfold appM at q
  split at q
  · rename_i xs0 es
    obtain ⟨l, vs, ex, hl, hd, hlen, _⟩ := mut_now R es
    refine ⟨.ref l, ex, .inl ⟨rfl, vs, .of hl⟩, ?_⟩
    refine ⟨h, ρ, rfl, R, q.thenM fun r ρ' v h' _ R' g' ok q' => ?_⟩
    cases es' : slot ρ' i with
    | o xs =>
      rw [es'] at q'
      cases r with
      | v d =>
        dsimp only at q'
        split at q'
        · obtain ⟨l2, vs2, ex2, hl2, hd2, hlen2, mt⟩ := mut_now R' es'
          rw [ex] at ex2
          cases ex2
          obtain ⟨R3, g3⟩ := mt (vs2 ++ [v]) (xs ++ [d]) (hd2.snoc ok)
          exact ⟨l, vs2, v, rfl, rfl, hl2, by rw [hlen2]; exact Nat.lt_of_lt_of_le (by assumption) (by decide), q' σ _ R3 g3⟩
        · exact q'.elim
      | _ => exact q'.elim
    | _ =>
      rw [es'] at q'
      exact q'.elim
  · exact q.elim
/-- l.reverse(), l.clear() -/
def mutS (i : Nat) (φ : List D → List D) : SF := fun ρ => match slot ρ i with
  | .o xs => .next (ρ.set i (.o (φ xs)))
  | _ => .bad
theorem xreverse (i : Nat) {e : Expr} {spos : Pos} (he : PE X e (tBM0 X.K "list" rReverse (tVar i))) (hs : swapsWith e none spos.line X.env = pure false := by rfl) : PS X (.Expr e spos) (tS X.K W (mutS i List.reverse)) := by
  refine psTo (ps_expr he hs) fun D σ H ⟨h, ρ, eh, R, q⟩ => ?_
  subst eh
  unfold mutS at q
  split at q
  · rename_i xs es
    obtain ⟨l, vs, ex, hl, hd, hlen, mt⟩ := mut_now R es
    obtain ⟨R3, g3⟩ := mt vs.reverse xs.reverse hd.reverse
    exact ⟨.ref l, ex, .inl ⟨rfl, vs, .of hl⟩, l, vs, rfl, rfl, hl, q σ _ R3 g3⟩
  · exact q.elim
theorem xclear (i : Nat) {e : Expr} {spos : Pos} (he : PE X e (tBM0 X.K "list" rClear (tVar i))) (hs : swapsWith e none spos.line X.env = pure false := by rfl) : PS X (.Expr e spos) (tS X.K W (mutS i fun _ => [])) := by
  refine psTo (ps_expr he hs) fun D σ H ⟨h, ρ, eh, R, q⟩ => ?_
  subst eh
  unfold mutS at q
  split at q
  · rename_i xs es
    obtain ⟨l, vs, ex, hl, hd, hlen, mt⟩ := mut_now R es
    obtain ⟨R3, g3⟩ := mt [] [] .nil
    exact ⟨.ref l, ex, .inl ⟨rfl, vs, .of hl⟩, l, vs, rfl, rfl, hl, q σ _ R3 g3⟩
  · exact q.elim
/-- l[i] = e, d[k] = e: l, d locals -/
def setIt (j : Nat) (g : EF) (f : EF) : SF := fun ρ => thenS ρ (f ρ) fun r => match r.keep with
  | .ok d => match slot ρ j with
    | .o xs => thenS ρ (g ρ) fun i => match i.dat with
      | some (.int z) => match ixN xs.length z with
        | some n => .next (ρ.set j (.o (xs.set n d)))
        | none => .bad
      | _ => .bad
    | .k kvs => thenS ρ (g ρ) fun i => match i.dat.bind keyD with
      | some k => if kvs.length < 100000 then .next (ρ.set j (.k (setK kvs k d))) else .bad
      | none => .bad
    | _ => .bad
  | _ => .bad
theorem xsetIt (j : Nat) {x : Str} {i e : Expr} {f g : EF} {p p2 pos : Pos} (hu : X.A.units + 1 < cLine) (he : PE X e (tX X.K W f)) (hi : PE X i (tX X.K W g)) (ho : PE X (.Name x p) (tVar j))
    (hs : swapsWith e (some (.Subscript (.Name x p) i p2)) pos.line X.env = pure false := by rfl) (hs1 : swapsWithSole [.Subscript (.Name x p) i p2] e pos.line X.env = pure false := by rfl) (hw : swappedStores [.Subscript (.Name x p) i p2] e X.env = pure none := by rfl)
    (h1 : (assignEach [.Subscript (.Name x p) i p2] X.env).map (·.2) = [assign (.Subscript (.Name x p) i p2) X.env] := by rfl)
    (ha : ∀ v, assign (.Subscript (.Name x p) i p2) X.env v = (do
      let ov ← holding [v] (eval (.Name x p) X.env)
      let iv ← holding [v, ov] (eval i X.env)
      standAt p2
      holding [v, ov, iv] (setItem ov iv v)
      release [v, ov, iv] []) := by intro _; rfl) : PS X (.Assign [.Subscript (.Name x p) i p2] e pos) (tS X.K W (setIt j g f)) := by
  have A := ps_asg (pos := pos) he (pg_sub ho hi set_list ha) hs1 hw h1
  have B := ps_dput (pos := pos) (pos' := p2) hu ho hi he hs
  refine psTo (t := fun D σ H => tAsg (tX X.K W f) (gSub (tVar j) (tX X.K W g) rSetL) D σ H ∨ sDPut (tVar j) (tX X.K W g) (tX X.K W f) D σ H) ⟨fun pins s σ H D I hw => hw.elim (A.run pins s σ H D I) (B.run pins s σ H D I)⟩ fun D σ H ⟨h, ρ, eh, R, q⟩ => ?_
  subst eh
  unfold setIt at q
  cases es : slot ρ j with
  | o xs =>
    refine .inl (tX_mk R (q.then fun r v h1 _ R1 g1 ok1 q1 => ?_))
    cases ek : r.keep with
    | bad => rw [ek] at q1; exact q1.elim
    | exc c p => exact absurd ek keep_ne
    | ok d =>
      rw [ek, es] at q1
      obtain ⟨h2, eh2, R2, g2, dv⟩ := keep_ok R R1 g1 ek ok1
      rw [← eh2]
      obtain ⟨l, vs, ex, hl, hd, hlen, _⟩ := mut_now R2 es
      refine ⟨.ref l, ex, ?_⟩
      refine (tX_mk (f := g) R2 ((Post.shift g2.sg q1).then fun iz v3 h3 _ R3 g3 ok3 q3 => ?_) : tX X.K W g σ h2.H _)
      split at q3
      · rename_i z ez
        split at q3
        · rename_i n en
          have ev := dp_int (ok3.dp R3.ch ez)
          subst ev
          obtain ⟨l2, vs2, ex2, hl2, hd2, hlen2, mt⟩ := mut_now R3 es
          rw [ex] at ex2
          cases ex2
          obtain ⟨R4, g4⟩ := mt (vs2.set n v) (xs.set n d) (hd2.set (ex_dp g3.g dv) n)
          exact ⟨l, vs2, z, n, rfl, rfl, hl2, by rw [hlen2]; exact en, q3 σ _ R4 (g3.sg.trans g4)⟩
        · exact q3.elim
      · exact q3.elim
  | k kvs =>
    refine .inr (tX_mk R (q.then fun r v h1 _ R1 g1 ok1 q1 => ?_))
    cases ek : r.keep with
    | bad => rw [ek] at q1; exact q1.elim
    | exc c p => exact absurd ek keep_ne
    | ok d =>
      rw [ek, es] at q1
      obtain ⟨h2, eh2, R2, g2, dv⟩ := keep_ok R R1 g1 ek ok1
      rw [← eh2]
      have ei := slot_some es (by intro z; cases z)
      obtain ⟨x', ex, l, vs, rfl, hl, fl, hd⟩ := R2.get ei
      refine ⟨.ref l, ex, ?_⟩
      refine (tX_mk (f := g) R2 ((Post.shift g2.sg q1).then fun iz v3 h3 _ R3 g3 ok3 q3 => ?_) : tX X.K W g σ h2.H _)
      split at q3
      · rename_i k ez
        split at q3
        · rename_i hlt
          obtain ⟨x2, ex2, l2, vs2, rfl, hl2, fl2, hd2⟩ := R3.get ei
          rw [ex] at ex2
          cases ex2
          obtain ⟨dk, e1, e2⟩ := Option.bind_eq_some_iff.mp ez
          have ev := keyD_v e2 (ok3.dp R3.ch e1)
          subst ev
          obtain ⟨R4, g4⟩ := R3.mut (s' := .k (setK kvs k d)) (o := .dK (putK vs2 k v)) ei rfl rfl ex ⟨l, _, rfl, upd_same, fl2, hd2.set k (ex_dp g3.g dv)⟩
          exact ⟨l, _, rfl, DPut.k hl2 (by rw [hd2.len]; exact Nat.lt_of_lt_of_le hlt (by decide)), q3 σ _ R4 (g3.sg.trans g4)⟩
        · exact q3.elim
      · exact q3.elim
  | _ =>
    refine .inl (tX_mk R (q.then fun r v h1 _ R1 g1 ok1 q1 => ?_))
    exfalso
    rw [es] at q1
    split at q1
    · exact q1
    · exact q1
end
end Sq

/-! list.index, chains of comparisons. -/
namespace Sq
open PySem PySem.Spec PyProof.Rows L2
section
variable {K : PySem.W.Frag} {W : WF} {X : Cx} {a b c e : Expr} {f g k : EF} {p pos : Pos}
/-- the first place of an equal item -/
def firstAt (y : D) : List D → Nat → Option Nat
  | [], _ => none
  | z :: zs, n => if PyData.eqv z y = true then some n else firstAt y zs (n + 1)
def indexR (ys : List D) (b : Rv) : Er Rv := match b.dat with
  | some y => if ys.all flatD = true ∧ flatD y = true then (match firstAt y ys 0 with
    | some j => .ok (.v (.int (j : Nat)))
    | none => .bad) else .bad
  | none => .bad
def indexF (f g : EF) : EF := fun ρ => (f ρ).bind fun a => match a.dat with
  | some (.list ys) => (g ρ).bind fun b => indexR ys b
  | _ => .bad
theorem firstAt_some {y : D} : ∀ {zs : List D} {n j : Nat}, firstAt y zs n = some j → n ≤ j ∧ ∃ z, zs[j - n]? = some z ∧ PyData.eqv z y = true ∧ ∀ m z', m < j - n → zs[m]? = some z' → PyData.eqv z' y = false
  | [], _, _, e => by cases e
  | z :: zs, n, j, e => by
    unfold firstAt at e
    split at e
    · cases e
      refine ⟨Nat.le_refl _, z, by simp, by assumption, fun m z' hm => by omega⟩
    · rename_i hne
      obtain ⟨h1, z1, h2, h3, h4⟩ := firstAt_some e
      refine ⟨by omega, z1, ?_, h3, fun m z' hm ez => ?_⟩
      · rw [show j - n = (j - (n + 1)) + 1 by omega]
        simpa using h2
      · cases m with
        | zero =>
          have : z = z' := by simpa using ez
          subst this
          simpa using hne
        | succ m => exact h4 m z' (by omega) (by simpa using ez)
theorem xindex {s : Expr} (he : PE X s (tBM X.K "list" (rIndex X.K) (tX X.K W f) (tCons (tX X.K W g) tNil))) : PE X s (tX X.K W (indexF f g)) := by
  refine peTo he fun σ H Q q => ?_
  obtain ⟨h, ρ, rfl, R, q⟩ := tX_iff.mp q
  refine (tX_mk (f := f) R (q.bind fun a x h1 ea R1 g1 ok1 q1 => ?_) : tX X.K W f σ h.H _)
  split at q1
  · rename_i xs exs
    obtain ⟨p1, vs, rfl, s1, d1⟩ := dp_lst (ok1.dp R1.ch exs)
    refine ⟨.inl ⟨rfl, vs, s1⟩, ?_⟩
    refine (tX_mk (f := g) R1 (q1.bind fun b y h2 _ R2 g2 ok2 q2 => ?_) : tX X.K W g σ h1.H _)
    unfold indexR at q2
    cases eb : b.dat with
    | none => rw [eb] at q2; exact q2.elim
    | some d =>
      rw [eb] at q2
      dsimp only at q2
      split at q2
      · rename_i hc
        split at q2
        · rename_i j ej
          obtain ⟨_, z, h3, h4, h5⟩ := firstAt_some ej
          simp only [Nat.sub_zero] at h3 h5
          have d2 := ex_dpa g2.x d1
          have dy := ok2.dp R2.ch eb
          obtain ⟨vz, e1, e2⟩ := d2.get h3
          have fz : ∀ (m : Nat) z', xs[m]? = some z' → flatD z' = true := fun m z' e => List.all_eq_true.mp hc.1 z' (List.mem_of_getElem? e)
          refine ⟨p1, vs, y, j, vz, rfl, rfl, ex_l g2.x s1, dp_flat dy hc.2, dp_flats d2 hc.1, e1, ?_, fun m v' hm ev => ?_, q2.now R2 (.int _)⟩
          · rw [dp_eqV e2 dy (fz _ _ h3) hc.2]
            exact h4
          · obtain ⟨z', e3, e4⟩ := d2.getV ev
            rw [dp_eqV e4 dy (fz _ _ e3) hc.2]
            exact h5 m z' hm e3
        · exact q2.elim
      · exact q2.elim
  · exact q1.elim
/-! a op b op' c -/
def chF (φ ψ : Rv → Rv → Er Rv) (f g k : EF) : EF := fun ρ => (f ρ).bind fun a => (g ρ).bind fun b => (φ a b).bind fun r => r.tst.bind fun c => if c = true then (k ρ).bind fun d => ψ b d else .ok (.v (.bool false))
theorem chain_of {φ ψ : Rv → Rv → Er Rv} {r r' : R2} (hφ : OpOk K W φ r) (hψ : OpOk K W ψ r') : ∀ σ H Q, tX K W (chF φ ψ f g k) σ H Q → tChain r r' (tX K W f) (tX K W g) (tX K W k) σ H Q := by
  intro σ H Q q
  obtain ⟨h, ρ, rfl, R, q⟩ := tX_iff.mp q
  refine tX_mk R (q.bind fun a x h1 _ R1 g1 ok1 q1 => ?_)
  refine tX_mk R1 (q1.bind fun b y h2 _ R2 g2 ok2 q2 => ?_)
  refine hφ h h2 ρ σ x y a b _ R R2 (g1.trans g2) (ok1.grow g2) (ok2.old g1.x) ?_
  refine q2.bind fun c z h3 _ R3 g3 ok3 q3 => ?_
  obtain ⟨kk, ez, q4⟩ := tst_nowE q3 ok3
  refine ⟨kk, ez, ?_⟩
  cases kk with
  | true =>
    rw [if_pos rfl] at q4 ⊢
    refine tX_mk R3 (q4.bind fun d u h5 _ R5 g5 ok5 q5 => ?_)
    exact hψ h1 h5 ρ σ y u b d _ R1 R5 (g2.trans (g3.trans g5)) ((ok2.grow g3).grow g5) (ok5.old (g2.trans g3).x) q5
  | false =>
    rw [if_neg (by decide)] at q4 ⊢
    exact q4.now R3 (.bl _)
section
variable {op op' : CmpOp} {r r' : R2} {φ ψ : Rv → Rv → Er Rv}
theorem xchain (ho : OpR X (compareOp op) r) (ho' : OpR X (compareOp op') r') (hφ : OpOk X.K W φ r) (hψ : OpOk X.K W ψ r') (ha : PE X a (tX X.K W f)) (hb : PE X b (tX X.K W g)) (hc : PE X c (tX X.K W k)) (hm : lastMarks [op, op'] [b, c] = false := by with_unfolding_all rfl) : PE X (.Compare a [op, op'] [b, c] pos) (tX X.K W (chF φ ψ f g k)) :=
  peTo (pe_chain ho ho' ha hb hc hm) (chain_of hφ hψ)
theorem xtchain (ho : OpR X (compareOp op) r) (ho' : OpR X (compareOp op') r') (hφ : OpOk X.K W φ r) (hψ : OpOk X.K W ψ r') (ha : PE X a (tX X.K W f)) (hb : PE X b (tX X.K W g)) (hc : PE X c (tX X.K W k)) (hm : lastMarks [op, op'] [b, c] = false := by with_unfolding_all rfl) : PT X (.Compare a [op, op'] [b, c] pos) (tXt X.K W (tstF (chF φ ψ f g k))) :=
  ptTo (pt_chain ho ho' ha hb hc hm) fun σ H Q q => tTest_mono (chain_of hφ hψ) σ H Q (tst_of σ H Q q)
end
theorem al_nil : ∀ ρ rs, aNil ρ = .ok rs → rs.length = 0 := fun ρ rs e => by cases e; rfl
theorem al_cons {f : EF} {r : AF} {n : Nat} (h : ∀ ρ rs, r ρ = .ok rs → rs.length = n) : ∀ ρ rs, aCons f r ρ = .ok rs → rs.length = n + 1 := fun ρ rs e => by
  unfold aCons at e
  obtain ⟨a, _, e⟩ := ebind_ok e
  obtain ⟨b, _, e⟩ := ebind_ok e
  obtain ⟨c, e1, e⟩ := ebind_ok e
  cases e
  rw [List.length_cons, h ρ c e1]
end
end Sq

/-! The law's own promise. -/
namespace Sq
open PySem PySem.Spec PyProof.Rows L2
def lawSp (K : PySem.W.Frag) : Sp := fun vs H Q _ => ∃ (a : Addr) (ns : List Int), vs = [.ref a] ∧ ns.length ≤ 63 ∧ SqL K H a (ns.map V.int) ∧ ∀ H', Q (.bl true) H'
theorem lawSp_imp {K : PySem.W.Frag} {cm : Str → Addr} {g : List Sl → Fr} (hg : ∀ ns : List Int, ns.length ≤ 63 → g [.v (.list (ns.map .int))] = .ret (.v (.bool true))) : ∀ vs H Q E, lawSp K vs H Q E → fsp K cm 1 g vs H Q E := by
  rintro vs H Q E ⟨a, ns, rfl, hl, hS, q⟩
  refine ⟨rfl, H, [.v (.list (ns.map .int))], Ex.refl H, ⟨.lst hS (ints_all ns), trivial⟩, ?_⟩
  rw [hg ns hl]
  intro v G' H' _ ok
  cases ok
  exact q H'
theorem law_sp {K : PySem.W.Frag} (H : Hp) (a : Addr) (ns : List Int) (hl : ns.length ≤ 63) (hS : SqL K H a (ns.map V.int)) : lawSp K [.ref a] H (fun v _ => v = .bl true) fun _ _ _ => False := ⟨a, ns, rfl, hl, hS, fun _ => rfl⟩
theorem cx_none {P : Program} {w : World} {H : Hp} {s : Shared} {e : Value} {s' : Shared} (h : L2.CX P w [] H s (fun _ _ _ => False) e s') : False := by
  obtain ⟨_, _, _, _, _, _, _, _, _, _, _, _, z⟩ := h
  exact z
end Sq

/-! How pure bodies are reckoned: rules for simp, loops by what holds. -/
namespace Sq
open PySem L2
section
variable {f g k : EF} {s s1 s2 : SF} {ρ : Env} {φ ψ : Rv → Rv → Er Rv}
@[simp] theorem bind_ok {α β : Type} (a : α) (h : α → Er β) : (Er.ok a).bind h = h a := (rfl)
@[simp] theorem bind_exc {α β : Type} (c : Str) (p) (h : α → Er β) : (Er.exc c p : Er α).bind h = .exc c p := (rfl)
@[simp] theorem bind_bad {α β : Type} (h : α → Er β) : (Er.bad : Er α).bind h = .bad := (rfl)
@[simp] theorem noX_okk {α : Type} (a : α) : (Er.ok a).noX = .ok a := (rfl)
@[simp] theorem varF_e (i : Nat) : varF i ρ = (slot ρ i).rd := (rfl)
@[simp] theorem rd_v (d : D) : (Sl.v d).rd = .ok (.v d) := (rfl)
@[simp] theorem rd_b (d : D) : (Sl.b d).rd = .ok (.b d) := (rfl)
@[simp] theorem rd_o (d : List D) : (Sl.o d).rd = .ok (.w d) := (rfl)
@[simp] theorem rd_k (d : List (Key × D)) : (Sl.k d).rd = .ok (.wk d) := (rfl)
@[simp] theorem cF_e (d : D) : cF d ρ = .ok (.v d) := (rfl)
@[simp] theorem binF_e : binF φ f g ρ = (f ρ).bind fun a => (g ρ).bind fun b => φ a b := (rfl)
@[simp] theorem unF_e (χ : Rv → Er Rv) : unF χ f ρ = (f ρ).bind χ := (rfl)
@[simp] theorem chF_e : chF φ ψ f g k ρ = (f ρ).bind fun a => (g ρ).bind fun b => (φ a b).bind fun r => r.tst.bind fun c => if c = true then (k ρ).bind fun d => ψ b d else .ok (.v (.bool false)) := (rfl)
@[simp] theorem dat_v (d : D) : (Rv.v d).dat = some d := (rfl)
@[simp] theorem dat_b (d : D) : (Rv.b d).dat = some d := (rfl)
@[simp] theorem dat_r (d : D) : (Rv.r d).dat = some d := (rfl)
@[simp] theorem dat_w (d : List D) : (Rv.w d).dat = some (.list d) := (rfl)
@[simp] theorem dat_o (d : List D) : (Rv.o d).dat = some (.list d) := (rfl)
@[simp] theorem flat2_e (χ : D → D → Er D) {a b : Rv} {x y : D} (ha : a.dat = some x) (hb : b.dat = some y) : flat2 χ a b = (χ x y).bind fun d => .ok (.v d) := by
  unfold flat2
  rw [ha, hb]
@[simp] theorem int2_e (χ : Int → Int → Er D) (i j : Int) : int2 χ (.int i) (.int j) = χ i j := (rfl)
@[simp] theorem iadd_e (i j : Int) : iadd i j = .ok (.int (i + j)) := (rfl)
@[simp] theorem isub_e (i j : Int) : isub i j = .ok (.int (i - j)) := (rfl)
theorem imul_l {i j : Int} (h : -(2 ^ 64) < i ∧ i < 2 ^ 64) : imul i j = .ok (.int (i * j)) := by
  unfold imul
  rw [if_pos (.inl h)]
theorem imul_r {i j : Int} (h : -(2 ^ 64) < j ∧ j < 2 ^ 64) : imul i j = .ok (.int (i * j)) := by
  unfold imul
  rw [if_pos (.inr (.inl h))]
theorem idiv_s {i j : Int} (h : 0 < j ∧ j < 1073741824) : idiv i j = .ok (.int (i / j)) := by
  unfold idiv
  rw [if_pos ⟨h.1, .inl h.2⟩]
theorem imod_s {i j : Int} (h : 0 < j) : imod i j = .ok (.int (i % j)) := by
  unfold imod
  rw [if_pos h]
@[simp] theorem addR_ii (i j : Int) : addR (.v (.int i)) (.v (.int j)) = .ok (.v (.int (i + j))) := (rfl)
@[simp] theorem negR_i (i : Int) : negR (.v (.int i)) = .ok (.v (.int (-i))) := (rfl)
@[simp] theorem ilt_e (i j : Int) : ilt i j = .ok (.bool (decide (i < j))) := (rfl)
@[simp] theorem ile_e (i j : Int) : ile i j = .ok (.bool (decide (i ≤ j))) := (rfl)
@[simp] theorem igt_e (i j : Int) : igt i j = .ok (.bool (decide (j < i))) := (rfl)
@[simp] theorem ige_e (i j : Int) : ige i j = .ok (.bool (decide (j ≤ i))) := (rfl)
@[simp] theorem tst_v (c : Bool) : (Rv.v (.bool c)).tst = .ok c := (rfl)
@[simp] theorem tstF_e : tstF f ρ = (f ρ).bind Rv.tst := (rfl)
variable {t u : Env → Er Bool}
@[simp] theorem andF_e : andF f g ρ = (f ρ).bind fun a => a.tst.bind fun k => if k = true then g ρ else .ok (.v (.bool false)) := (rfl)
@[simp] theorem orF_e : orF f g ρ = (f ρ).bind fun a => a.tst.bind fun k => if k = true then .ok (.v (.bool true)) else g ρ := (rfl)
@[simp] theorem notF_e : notF f ρ = (f ρ).bind fun a => a.tst.bind fun k => .ok (.v (.bool (!k))) := (rfl)
@[simp] theorem andT_e : andT t u ρ = (t ρ).bind fun k => if k = true then u ρ else .ok false := (rfl)
@[simp] theorem orT_e : orT t u ρ = (t ρ).bind fun k => if k = true then .ok true else u ρ := (rfl)
@[simp] theorem notT_e : notT t ρ = (t ρ).bind fun k => .ok (!k) := (rfl)
@[simp] theorem ifF_e : ifF t f g ρ = (t ρ).bind fun k => if k = true then f ρ else g ρ := (rfl)
@[simp] theorem frz_v (d : D) : (Rv.v d).frz = .ok (.v d) := (rfl)
@[simp] theorem frz_b (d : D) : (Rv.b d).frz = .ok (.b d) := (rfl)
@[simp] theorem frz_r (d : D) : (Rv.r d).frz = .ok (.r d) := (rfl)
@[simp] theorem frz_w (d : List D) : (Rv.w d).frz = .ok (.r (.list d)) := (rfl)
@[simp] theorem frz_o (d : List D) : (Rv.o d).frz = .ok (.v (.list d)) := (rfl)
@[simp] theorem aNil_e : aNil ρ = .ok [] := (rfl)
@[simp] theorem aCons_e (r : AF) : aCons f r ρ = (f ρ).bind fun a => a.frz.bind fun a' => (r ρ).bind fun as => .ok (a' :: as) := (rfl)
@[simp] theorem tupF_e (r : AF) : tupF r ρ = (r ρ).bind tupR := (rfl)
@[simp] theorem lstF_e (r : AF) : lstF r ρ = (r ρ).bind lstR := (rfl)
@[simp] theorem allV_nil : allV [] = some [] := (rfl)
@[simp] theorem allV_cons (d : D) (rs : List Rv) : allV (.v d :: rs) = (allV rs).map (d :: ·) := (rfl)
theorem tupR_v {rs : List Rv} {ds : List D} (h : allV rs = some ds) (hl : rs.length ≤ 1000) : tupR rs = .ok (.v (.tuple ds)) := by
  unfold tupR
  rw [if_pos hl, h]
theorem lstR_v {rs : List Rv} {ds : List D} (h : allV rs = some ds) (hl : rs.length ≤ 1000) : lstR rs = .ok (.o ds) := by
  unfold lstR
  rw [if_pos hl, h]
@[simp] theorem tupR_1 (a : D) : tupR [.v a] = .ok (.v (.tuple [a])) := (rfl)
@[simp] theorem tupR_2 (a b : D) : tupR [.v a, .v b] = .ok (.v (.tuple [a, b])) := (rfl)
@[simp] theorem tupR_2bb (a b : D) : tupR [.b a, .b b] = .ok (.b (.tuple [a, b])) := (rfl)
@[simp] theorem tupR_2vb (a b : D) : tupR [.v a, .b b] = .ok (.b (.tuple [a, b])) := (rfl)
@[simp] theorem tupR_2bv (a b : D) : tupR [.b a, .v b] = .ok (.b (.tuple [a, b])) := (rfl)
@[simp] theorem tupR_3 (a b c : D) : tupR [.v a, .v b, .v c] = .ok (.v (.tuple [a, b, c])) := (rfl)
@[simp] theorem tupR_4 (a b c d : D) : tupR [.v a, .v b, .v c, .v d] = .ok (.v (.tuple [a, b, c, d])) := (rfl)
@[simp] theorem lstR_0 : lstR [] = .ok (.o []) := (rfl)
@[simp] theorem lstR_1 (a : D) : lstR [.v a] = .ok (.o [a]) := (rfl)
@[simp] theorem lstR_2 (a b : D) : lstR [.v a, .v b] = .ok (.o [a, b]) := (rfl)
/-! subscripts -/
theorem alt_l {a b r : Rv} (h : φ a b = .ok r) : alt φ ψ a b = .ok r := by
  unfold Sq.alt
  rw [h]
theorem alt_r {a b : Rv} (h : φ a b = .bad) : alt φ ψ a b = ψ a b := by
  unfold Sq.alt
  rw [h]
theorem ixSeq_e {a : Rv} {i : Int} {r : Rv} (h : a.item i = some r) : ixSeq a (.v (.int i)) = .ok r := by
  show (match a.item i with | some r => Er.ok r | none => .bad) = _
  rw [h]
theorem ixR_vt {xs : List D} {i : Int} {d : D} (h : atI xs i = some d) : ixR (.v (.tuple xs)) (.v (.int i)) = .ok (.v d) := by
  refine (alt_r rfl).trans (alt_l (ixSeq_e ?_))
  show (atI xs i).map Rv.v = _
  rw [h]
  rfl
theorem ixR_vl {xs : List D} {i : Int} {d : D} (h : atI xs i = some d) : ixR (.v (.list xs)) (.v (.int i)) = .ok (.v d) := by
  refine (alt_r rfl).trans (alt_l (ixSeq_e ?_))
  show (atI xs i).map Rv.v = _
  rw [h]
  rfl
theorem ixR_bt {xs : List D} {i : Int} {d : D} (h : atI xs i = some d) : ixR (.b (.tuple xs)) (.v (.int i)) = .ok (.b d) := by
  refine (alt_r rfl).trans (alt_l (ixSeq_e ?_))
  show (atI xs i).map Rv.b = _
  rw [h]
  rfl
theorem ixR_bl {xs : List D} {i : Int} {d : D} (h : atI xs i = some d) : ixR (.b (.list xs)) (.v (.int i)) = .ok (.b d) := by
  refine (alt_r rfl).trans (alt_l (ixSeq_e ?_))
  show (atI xs i).map Rv.b = _
  rw [h]
  rfl
theorem ixR_w {xs : List D} {i : Int} {d : D} (h : atI xs i = some d) : ixR (.w xs) (.v (.int i)) = .ok (.v d) := by
  refine (alt_r rfl).trans (alt_l (ixSeq_e ?_))
  show (atI xs i).map Rv.v = _
  rw [h]
  rfl
theorem ixR_k {kvs : List (Key × D)} {b : Rv} {x : D} {q : Key} {d : D} (hb : b.dat = some x) (hk : keyD x = some q) (h : getK kvs q = some d) : ixR (.wk kvs) b = .ok (.v d) := by
  refine alt_l ?_
  unfold ixDic
  simp only [hb, Option.bind_some, hk, h]
@[simp] theorem at_nat {xs : List D} {i : Nat} : atI xs (i : Int) = xs[i]? := by
  unfold atI ixN
  rw [if_pos (Int.natCast_nonneg i)]
  by_cases h : i < xs.length
  · rw [if_pos (by omega)]
    rfl
  · rw [if_neg (by omega), List.getElem?_eq_none (by omega)]
    rfl
@[simp] theorem lenR_vt (xs : List D) : lenR (.v (.tuple xs)) = .ok (.v (.int xs.length)) := (rfl)
@[simp] theorem lenR_vl (xs : List D) : lenR (.v (.list xs)) = .ok (.v (.int xs.length)) := (rfl)
@[simp] theorem lenR_bt (xs : List D) : lenR (.b (.tuple xs)) = .ok (.v (.int xs.length)) := (rfl)
@[simp] theorem lenR_bl (xs : List D) : lenR (.b (.list xs)) = .ok (.v (.int xs.length)) := (rfl)
@[simp] theorem lenR_w (xs : List D) : lenR (.w xs) = .ok (.v (.int xs.length)) := (rfl)
@[simp] theorem lenR_o (xs : List D) : lenR (.o xs) = .ok (.v (.int xs.length)) := (rfl)
@[simp] theorem lenR_wk (xs : List (Key × D)) : lenR (.wk xs) = .ok (.v (.int xs.length)) := (rfl)
@[simp] theorem listR_vl (xs : List D) : listR (.v (.list xs)) = .ok (.o xs) := (rfl)
@[simp] theorem listR_vt (xs : List D) : listR (.v (.tuple xs)) = .ok (.o xs) := (rfl)
@[simp] theorem listR_w (xs : List D) : listR (.w xs) = .ok (.o xs) := (rfl)
@[simp] theorem listR_o (xs : List D) : listR (.o xs) = .ok (.o xs) := (rfl)
@[simp] theorem tupleR_vl (xs : List D) : tupleR (.v (.list xs)) = .ok (.v (.tuple xs)) := (rfl)
@[simp] theorem tupleR_vt (xs : List D) : tupleR (.v (.tuple xs)) = .ok (.v (.tuple xs)) := (rfl)
@[simp] theorem tupleR_bt (xs : List D) : tupleR (.b (.tuple xs)) = .ok (.b (.tuple xs)) := (rfl)
@[simp] theorem tupleR_w (xs : List D) : tupleR (.w xs) = .ok (.v (.tuple xs)) := (rfl)
@[simp] theorem tupleR_o (xs : List D) : tupleR (.o xs) = .ok (.v (.tuple xs)) := (rfl)
theorem tupleR_bl {xs : List D} (h : xs.all flatD = true) : tupleR (.b (.list xs)) = .ok (.v (.tuple xs)) := by
  show (if xs.all flatD = true then Er.ok (Rv.v (.tuple xs)) else .bad) = _
  rw [if_pos h]
theorem listR_bl {xs : List D} (h : xs.all flatD = true) : listR (.b (.list xs)) = .ok (.o xs) := by
  show (if xs.all flatD = true then Er.ok (Rv.o xs) else .bad) = _
  rw [if_pos h]
theorem listR_bt {xs : List D} (h : xs.all flatD = true) : listR (.b (.tuple xs)) = .ok (.o xs) := by
  show (if xs.all flatD = true then Er.ok (Rv.o xs) else .bad) = _
  rw [if_pos h]
@[simp] theorem absR_i (i : Int) : absR (.v (.int i)) = .ok (.v (.int (if i < 0 then -i else i))) := (rfl)
@[simp] theorem keep_v (d : D) : (Rv.v d).keep = .ok d := (rfl)
@[simp] theorem keep_o (d : List D) : (Rv.o d).keep = .ok (.list d) := (rfl)
@[simp] theorem keep_bi (i : Int) : (Rv.b (.int i)).keep = .ok (.int i) := (rfl)
@[simp] theorem keep_ri (i : Int) : (Rv.r (.int i)).keep = .ok (.int i) := (rfl)
/-! calls -/
@[simp] theorem callF_e (h : List Sl → Fr) (r : AF) : callF h r ρ = (r ρ).bind fun rs => (h (rs.map Rv.sl)).rv := (rfl)
@[simp] theorem sl_v (d : D) : (Rv.v d).sl = .v d := (rfl)
@[simp] theorem sl_b (d : D) : (Rv.b d).sl = .b d := (rfl)
@[simp] theorem sl_r (d : D) : (Rv.r d).sl = .b d := (rfl)
@[simp] theorem rv_v (d : D) : (Fr.ret (.v d)).rv = .ok (.v d) := (rfl)
@[simp] theorem rv_b (d : D) : (Fr.ret (.b d)).rv = .ok (.r d) := (rfl)
@[simp] theorem rv_o (d : List D) : (Fr.ret (.o d)).rv = .ok (.o d) := (rfl)
@[simp] theorem rv_exc (c : Str) (p) : (Fr.exc c p).rv = .exc c p := (rfl)
/-! statements -/
@[simp] theorem skipS_e : skipS ρ = .next ρ := (rfl)
@[simp] theorem brkS_e : brkS ρ = .brk ρ := (rfl)
@[simp] theorem contS_e : contS ρ = .cont ρ := (rfl)
def seqR (r : Res) (g : SF) : Res := match r with
  | .next ρ' => g ρ'
  | r => r
@[simp] theorem seqS_e : seqS s1 s2 ρ = seqR (s1 ρ) s2 := (rfl)
@[simp] theorem seqR_n (ρ' : Env) : seqR (.next ρ') s = s ρ' := (rfl)
@[simp] theorem seqR_r (r : Rv) : seqR (.ret r) s = .ret r := (rfl)
@[simp] theorem seqR_b (ρ' : Env) : seqR (.brk ρ') s = .brk ρ' := (rfl)
@[simp] theorem seqR_c (ρ' : Env) : seqR (.cont ρ') s = .cont ρ' := (rfl)
@[simp] theorem seqR_x (c : Str) (p) (ρ' : Env) : seqR (.exc c p ρ') s = .exc c p ρ' := (rfl)
@[simp] theorem seqR_d : seqR .bad s = .bad := (rfl)
theorem seqR_if (c : Bool) (a b : Res) : seqR (if c = true then a else b) s = if c = true then seqR a s else seqR b s := by
  cases c <;> rfl
@[simp] theorem thenS_ok (r : Rv) (h : Rv → Res) : thenS ρ (.ok r) h = h r := (rfl)
@[simp] theorem thenS_x (c : Str) (p) (h : Rv → Res) : thenS ρ (.exc c p) h = .exc c p ρ := (rfl)
@[simp] theorem thenT_ok (r : Bool) (h : Bool → Res) : thenT ρ (.ok r) h = h r := (rfl)
@[simp] theorem thenT_x (c : Str) (p) (h : Bool → Res) : thenT ρ (.exc c p) h = .exc c p ρ := (rfl)
@[simp] theorem thenI_ok (r : List Rv) (h : List Rv → Res) : thenI ρ (.ok r) h = h r := (rfl)
@[simp] theorem thenM_ok (r : Rv) (ρ' : Env) (h : Rv → Env → Res) : thenM ρ (.ok (r, ρ')) h = h r ρ' := (rfl)
@[simp] theorem liftE_ok (ρ' : Env) : liftE ρ (.ok ρ') = .next ρ' := (rfl)
variable {τ : TF}
@[simp] theorem asgS_e : asgS f τ ρ = thenS ρ (f ρ) fun r => liftE ρ (τ r ρ) := (rfl)
@[simp] theorem asgn_v (i : Nat) (d : D) : asgn i (.v d) ρ = .ok (ρ.set i (.v d)) := (rfl)
@[simp] theorem asgn_b (i : Nat) (d : D) : asgn i (.b d) ρ = .ok (ρ.set i (.b d)) := (rfl)
@[simp] theorem asgn_o (i : Nat) (d : List D) : asgn i (.o d) ρ = .ok (ρ.set i (.o d)) := (rfl)
@[simp] theorem asgn_okd (i : Nat) (d : List (Key × D)) : asgn i (.ok d) ρ = .ok (ρ.set i (.k d)) := (rfl)
@[simp] theorem asgn_ri (i : Nat) (d : Int) : asgn i (.r (.int d)) ρ = .ok (ρ.set i (.v (.int d))) := (rfl)
@[simp] theorem unpT_2 (τ1 τ2 : TF) (a b : D) : unpT [τ1, τ2] (.v (.tuple [a, b])) ρ = (τ1 (.v a) ρ).bind fun ρ' => (τ2 (.v b) ρ').bind fun ρ'' => .ok ρ'' := (rfl)
@[simp] theorem unpT_2b (τ1 τ2 : TF) (a b : D) : unpT [τ1, τ2] (.b (.tuple [a, b])) ρ = (τ1 (.b a) ρ).bind fun ρ' => (τ2 (.b b) ρ').bind fun ρ'' => .ok ρ'' := (rfl)
@[simp] theorem unpT_4 (τ1 τ2 τ3 τ4 : TF) (a b c d : D) : unpT [τ1, τ2, τ3, τ4] (.v (.tuple [a, b, c, d])) ρ = (τ1 (.v a) ρ).bind fun ρ' => (τ2 (.v b) ρ').bind fun ρ'' => (τ3 (.v c) ρ'').bind fun ρ3 => (τ4 (.v d) ρ3).bind fun ρ4 => .ok ρ4 := (rfl)
@[simp] theorem retS_e : retS f ρ = thenS ρ (f ρ) retR := (rfl)
@[simp] theorem retR_v (d : D) : retR (.v d) = .ret (.v d) := (rfl)
@[simp] theorem retR_b (d : D) : retR (.b d) = .ret (.b d) := (rfl)
@[simp] theorem retR_o (d : List D) : retR (.o d) = .ret (.o d) := (rfl)
@[simp] theorem retR_ri (d : Int) : retR (.r (.int d)) = .ret (.v (.int d)) := (rfl)
def retSl : Sl → Res
  | .v d => .ret (.v d)
  | .b d => .ret (.b d)
  | .o xs => .ret (.o xs)
  | .k kvs => .ret (.ok kvs)
  | .y xss => .ret (.y xss)
  | _ => .bad
@[simp] theorem retVar_e (i : Nat) : retVar i ρ = retSl (slot ρ i) := by
  unfold retVar retSl
  cases slot ρ i <;> rfl
@[simp] theorem retSl_v (d : D) : retSl (.v d) = .ret (.v d) := (rfl)
@[simp] theorem retSl_b (d : D) : retSl (.b d) = .ret (.b d) := (rfl)
@[simp] theorem retSl_o (d : List D) : retSl (.o d) = .ret (.o d) := (rfl)
@[simp] theorem retSl_y (d : List (List D)) : retSl (.y d) = .ret (.y d) := (rfl)
@[simp] theorem rd_ee (d : List D) : (Sl.e d).rd = .ok (.b (.list d)) := (rfl)
@[simp] theorem rd_z (l : Addr) (d : List (List D)) : (Sl.z l d).rd = .ok (.b (.list (d.map .list))) := (rfl)
@[simp] theorem ifS_e : ifS t s1 s2 ρ = thenT ρ (t ρ) fun b => if b = true then s1 ρ else s2 ρ := (rfl)
@[simp] theorem forS_e (it : IF) : forS it τ s ρ = thenI ρ (it ρ) fun rs => forL τ s rs ρ := (rfl)
@[simp] theorem exprS_e : exprS f ρ = thenS ρ (f ρ) fun _ => .next ρ := (rfl)
@[simp] theorem frzS_e (i : Nat) : frzS i s ρ = s (frzE ρ i) := (rfl)
@[simp] theorem frzE_e (i : Nat) : frzE ρ i = ρ.set i (slot ρ i).frz := (rfl)
@[simp] theorem sfrz_v (d : D) : (Sl.v d).frz = .v d := (rfl)
@[simp] theorem sfrz_b (d : D) : (Sl.b d).frz = .b d := (rfl)
@[simp] theorem sfrz_o (d : List D) : (Sl.o d).frz = .v (.list d) := (rfl)
@[simp] theorem sfrz_u : (Sl.u).frz = .u := (rfl)
@[simp] theorem sfrz_k (d : List (Key × D)) : (Sl.k d).frz = .k d := (rfl)
theorem appS_e {i : Nat} {xs : List D} (h : slot ρ i = .o xs) (hl : xs.length < 100000) : appS i f ρ = thenS ρ (f ρ) fun r => match r.keep with
    | .ok d => .next (ρ.set i (.o (xs ++ [d])))
    | _ => .bad := by
  unfold appS
  rw [h]
  show thenS ρ (f ρ) _ = _
  congr 1
  funext r
  cases r.keep <;> simp [hl]
theorem mutS_e {i : Nat} {xs : List D} {χ : List D → List D} (h : slot ρ i = .o xs) : mutS i χ ρ = .next (ρ.set i (.o (χ xs))) := by
  unfold mutS
  rw [h]
@[simp] theorem itF_e (it : Rv → Er (List Rv)) : itF it f ρ = (f ρ).bind it := (rfl)
@[simp] theorem enF_e (it : Rv → Er (List Rv)) : enF it f ρ = (f ρ).bind fun a => (it a).bind fun rs => .ok (enR 0 rs) := (rfl)
@[simp] theorem itS_vt (xs : List D) : itS (.v (.tuple xs)) = .ok (xs.map .v) := (rfl)
@[simp] theorem itS_vl (xs : List D) : itS (.v (.list xs)) = .ok (xs.map .v) := (rfl)
@[simp] theorem itS_bt (xs : List D) : itS (.b (.tuple xs)) = .ok (xs.map .b) := (rfl)
@[simp] theorem itS_bl (xs : List D) : itS (.b (.list xs)) = .ok (xs.map .b) := (rfl)
@[simp] theorem itS_o (xs : List D) : itS (.o xs) = .ok (xs.map .v) := (rfl)
@[simp] theorem itC_vt (xs : List D) : itC (.v (.tuple xs)) = .ok (xs.map .v) := (rfl)
@[simp] theorem itC_vl (xs : List D) : itC (.v (.list xs)) = .ok (xs.map .v) := (rfl)
@[simp] theorem itC_bt (xs : List D) : itC (.b (.tuple xs)) = .ok (xs.map .b) := (rfl)
@[simp] theorem itC_bl (xs : List D) : itC (.b (.list xs)) = .ok (xs.map .b) := (rfl)
@[simp] theorem itC_w (xs : List D) : itC (.w xs) = .ok (xs.map .v) := (rfl)
@[simp] theorem itC_o (xs : List D) : itC (.o xs) = .ok (xs.map .v) := (rfl)
theorem rg1_e {n : Int} {a : Rv} (h : f ρ = .ok a) (hd : a.dat = some (.int n)) (hn : n ≤ 1000000 ∧ -1000000 ≤ n) : rg1F f ρ = .ok (rgR 0 n) := by
  unfold rg1F
  rw [h]
  show (match a.dat with | some (.int n) => if n ≤ 1000000 ∧ -1000000 ≤ n then Er.ok (rgR 0 n) else .bad | _ => .bad) = _
  rw [hd]
  show (if n ≤ 1000000 ∧ -1000000 ≤ n then Er.ok (rgR 0 n) else .bad) = _
  rw [if_pos hn]
theorem rgR_nat (n : Nat) : rgR 0 (n : Int) = (List.range n).map fun (i : Nat) => Rv.v (.int (i : Int)) := by
  unfold rgR
  have : ((n : Int) - 0).toNat = n := by omega
  rw [this]
  congr 1
  funext i
  rw [Int.zero_add]
theorem lrg_e {n : Nat} {a : Rv} (h : f ρ = .ok a) (hd : a.dat = some (.int (n : Int))) (hn : n ≤ 1000000) : lrgF (cF (.int 0)) f ρ = .ok (.o ((List.range n).map fun (i : Nat) => .int (i : Int))) := by
  unfold lrgF
  rw [h]
  show (match (some (.int 0) : Option D), a.dat with | some (.int i), some (.int j) => if (0 ≤ i ∧ i ≤ 1000000) ∧ (0 ≤ j ∧ j ≤ 1000000) then Er.ok (Rv.o (intsD i j)) else .bad | _, _ => .bad) = _
  rw [hd]
  show (if ((0 : Int) ≤ 0 ∧ (0 : Int) ≤ 1000000) ∧ (0 ≤ (n : Int) ∧ (n : Int) ≤ 1000000) then Er.ok (Rv.o (intsD 0 n)) else .bad) = _
  rw [if_pos (by omega)]
  unfold intsD
  have : ((n : Int) - 0).toNat = n := by omega
  rw [this]
  congr 2
  apply List.map_congr_left
  intro i _
  rw [Int.zero_add]

@[simp] theorem slot_0 (a0 : Sl) (ρ : Env) : slot (a0 :: ρ) 0 = a0 := (rfl)
@[simp] theorem set_0 (a0 x : Sl) (ρ : Env) : List.set (a0 :: ρ) 0 x = x :: ρ := (rfl)
@[simp] theorem slot_1 (a0 a1 : Sl) (ρ : Env) : slot (a0 :: a1 :: ρ) 1 = a1 := (rfl)
@[simp] theorem set_1 (a0 a1 x : Sl) (ρ : Env) : List.set (a0 :: a1 :: ρ) 1 x = a0 :: x :: ρ := (rfl)
@[simp] theorem slot_2 (a0 a1 a2 : Sl) (ρ : Env) : slot (a0 :: a1 :: a2 :: ρ) 2 = a2 := (rfl)
@[simp] theorem set_2 (a0 a1 a2 x : Sl) (ρ : Env) : List.set (a0 :: a1 :: a2 :: ρ) 2 x = a0 :: a1 :: x :: ρ := (rfl)
@[simp] theorem slot_3 (a0 a1 a2 a3 : Sl) (ρ : Env) : slot (a0 :: a1 :: a2 :: a3 :: ρ) 3 = a3 := (rfl)
@[simp] theorem set_3 (a0 a1 a2 a3 x : Sl) (ρ : Env) : List.set (a0 :: a1 :: a2 :: a3 :: ρ) 3 x = a0 :: a1 :: a2 :: x :: ρ := (rfl)
@[simp] theorem slot_4 (a0 a1 a2 a3 a4 : Sl) (ρ : Env) : slot (a0 :: a1 :: a2 :: a3 :: a4 :: ρ) 4 = a4 := (rfl)
@[simp] theorem set_4 (a0 a1 a2 a3 a4 x : Sl) (ρ : Env) : List.set (a0 :: a1 :: a2 :: a3 :: a4 :: ρ) 4 x = a0 :: a1 :: a2 :: a3 :: x :: ρ := (rfl)
@[simp] theorem slot_5 (a0 a1 a2 a3 a4 a5 : Sl) (ρ : Env) : slot (a0 :: a1 :: a2 :: a3 :: a4 :: a5 :: ρ) 5 = a5 := (rfl)
@[simp] theorem set_5 (a0 a1 a2 a3 a4 a5 x : Sl) (ρ : Env) : List.set (a0 :: a1 :: a2 :: a3 :: a4 :: a5 :: ρ) 5 x = a0 :: a1 :: a2 :: a3 :: a4 :: x :: ρ := (rfl)
@[simp] theorem slot_6 (a0 a1 a2 a3 a4 a5 a6 : Sl) (ρ : Env) : slot (a0 :: a1 :: a2 :: a3 :: a4 :: a5 :: a6 :: ρ) 6 = a6 := (rfl)
@[simp] theorem set_6 (a0 a1 a2 a3 a4 a5 a6 x : Sl) (ρ : Env) : List.set (a0 :: a1 :: a2 :: a3 :: a4 :: a5 :: a6 :: ρ) 6 x = a0 :: a1 :: a2 :: a3 :: a4 :: a5 :: x :: ρ := (rfl)
@[simp] theorem slot_7 (a0 a1 a2 a3 a4 a5 a6 a7 : Sl) (ρ : Env) : slot (a0 :: a1 :: a2 :: a3 :: a4 :: a5 :: a6 :: a7 :: ρ) 7 = a7 := (rfl)
@[simp] theorem set_7 (a0 a1 a2 a3 a4 a5 a6 a7 x : Sl) (ρ : Env) : List.set (a0 :: a1 :: a2 :: a3 :: a4 :: a5 :: a6 :: a7 :: ρ) 7 x = a0 :: a1 :: a2 :: a3 :: a4 :: a5 :: a6 :: x :: ρ := (rfl)
@[simp] theorem slot_8 (a0 a1 a2 a3 a4 a5 a6 a7 a8 : Sl) (ρ : Env) : slot (a0 :: a1 :: a2 :: a3 :: a4 :: a5 :: a6 :: a7 :: a8 :: ρ) 8 = a8 := (rfl)
@[simp] theorem set_8 (a0 a1 a2 a3 a4 a5 a6 a7 a8 x : Sl) (ρ : Env) : List.set (a0 :: a1 :: a2 :: a3 :: a4 :: a5 :: a6 :: a7 :: a8 :: ρ) 8 x = a0 :: a1 :: a2 :: a3 :: a4 :: a5 :: a6 :: a7 :: x :: ρ := (rfl)
@[simp] theorem slot_9 (a0 a1 a2 a3 a4 a5 a6 a7 a8 a9 : Sl) (ρ : Env) : slot (a0 :: a1 :: a2 :: a3 :: a4 :: a5 :: a6 :: a7 :: a8 :: a9 :: ρ) 9 = a9 := (rfl)
@[simp] theorem set_9 (a0 a1 a2 a3 a4 a5 a6 a7 a8 a9 x : Sl) (ρ : Env) : List.set (a0 :: a1 :: a2 :: a3 :: a4 :: a5 :: a6 :: a7 :: a8 :: a9 :: ρ) 9 x = a0 :: a1 :: a2 :: a3 :: a4 :: a5 :: a6 :: a7 :: a8 :: x :: ρ := (rfl)
@[simp] theorem slot_10 (a0 a1 a2 a3 a4 a5 a6 a7 a8 a9 a10 : Sl) (ρ : Env) : slot (a0 :: a1 :: a2 :: a3 :: a4 :: a5 :: a6 :: a7 :: a8 :: a9 :: a10 :: ρ) 10 = a10 := (rfl)
@[simp] theorem set_10 (a0 a1 a2 a3 a4 a5 a6 a7 a8 a9 a10 x : Sl) (ρ : Env) : List.set (a0 :: a1 :: a2 :: a3 :: a4 :: a5 :: a6 :: a7 :: a8 :: a9 :: a10 :: ρ) 10 x = a0 :: a1 :: a2 :: a3 :: a4 :: a5 :: a6 :: a7 :: a8 :: a9 :: x :: ρ := (rfl)
@[simp] theorem slot_11 (a0 a1 a2 a3 a4 a5 a6 a7 a8 a9 a10 a11 : Sl) (ρ : Env) : slot (a0 :: a1 :: a2 :: a3 :: a4 :: a5 :: a6 :: a7 :: a8 :: a9 :: a10 :: a11 :: ρ) 11 = a11 := (rfl)
@[simp] theorem set_11 (a0 a1 a2 a3 a4 a5 a6 a7 a8 a9 a10 a11 x : Sl) (ρ : Env) : List.set (a0 :: a1 :: a2 :: a3 :: a4 :: a5 :: a6 :: a7 :: a8 :: a9 :: a10 :: a11 :: ρ) 11 x = a0 :: a1 :: a2 :: a3 :: a4 :: a5 :: a6 :: a7 :: a8 :: a9 :: a10 :: x :: ρ := (rfl)
@[simp] theorem slot_12 (a0 a1 a2 a3 a4 a5 a6 a7 a8 a9 a10 a11 a12 : Sl) (ρ : Env) : slot (a0 :: a1 :: a2 :: a3 :: a4 :: a5 :: a6 :: a7 :: a8 :: a9 :: a10 :: a11 :: a12 :: ρ) 12 = a12 := (rfl)
@[simp] theorem set_12 (a0 a1 a2 a3 a4 a5 a6 a7 a8 a9 a10 a11 a12 x : Sl) (ρ : Env) : List.set (a0 :: a1 :: a2 :: a3 :: a4 :: a5 :: a6 :: a7 :: a8 :: a9 :: a10 :: a11 :: a12 :: ρ) 12 x = a0 :: a1 :: a2 :: a3 :: a4 :: a5 :: a6 :: a7 :: a8 :: a9 :: a10 :: a11 :: x :: ρ := (rfl)
@[simp] theorem slot_13 (a0 a1 a2 a3 a4 a5 a6 a7 a8 a9 a10 a11 a12 a13 : Sl) (ρ : Env) : slot (a0 :: a1 :: a2 :: a3 :: a4 :: a5 :: a6 :: a7 :: a8 :: a9 :: a10 :: a11 :: a12 :: a13 :: ρ) 13 = a13 := (rfl)
@[simp] theorem set_13 (a0 a1 a2 a3 a4 a5 a6 a7 a8 a9 a10 a11 a12 a13 x : Sl) (ρ : Env) : List.set (a0 :: a1 :: a2 :: a3 :: a4 :: a5 :: a6 :: a7 :: a8 :: a9 :: a10 :: a11 :: a12 :: a13 :: ρ) 13 x = a0 :: a1 :: a2 :: a3 :: a4 :: a5 :: a6 :: a7 :: a8 :: a9 :: a10 :: a11 :: a12 :: x :: ρ := (rfl)
@[simp] theorem slot_14 (a0 a1 a2 a3 a4 a5 a6 a7 a8 a9 a10 a11 a12 a13 a14 : Sl) (ρ : Env) : slot (a0 :: a1 :: a2 :: a3 :: a4 :: a5 :: a6 :: a7 :: a8 :: a9 :: a10 :: a11 :: a12 :: a13 :: a14 :: ρ) 14 = a14 := (rfl)
@[simp] theorem set_14 (a0 a1 a2 a3 a4 a5 a6 a7 a8 a9 a10 a11 a12 a13 a14 x : Sl) (ρ : Env) : List.set (a0 :: a1 :: a2 :: a3 :: a4 :: a5 :: a6 :: a7 :: a8 :: a9 :: a10 :: a11 :: a12 :: a13 :: a14 :: ρ) 14 x = a0 :: a1 :: a2 :: a3 :: a4 :: a5 :: a6 :: a7 :: a8 :: a9 :: a10 :: a11 :: a12 :: a13 :: x :: ρ := (rfl)
@[simp] theorem slot_15 (a0 a1 a2 a3 a4 a5 a6 a7 a8 a9 a10 a11 a12 a13 a14 a15 : Sl) (ρ : Env) : slot (a0 :: a1 :: a2 :: a3 :: a4 :: a5 :: a6 :: a7 :: a8 :: a9 :: a10 :: a11 :: a12 :: a13 :: a14 :: a15 :: ρ) 15 = a15 := (rfl)
@[simp] theorem set_15 (a0 a1 a2 a3 a4 a5 a6 a7 a8 a9 a10 a11 a12 a13 a14 a15 x : Sl) (ρ : Env) : List.set (a0 :: a1 :: a2 :: a3 :: a4 :: a5 :: a6 :: a7 :: a8 :: a9 :: a10 :: a11 :: a12 :: a13 :: a14 :: a15 :: ρ) 15 x = a0 :: a1 :: a2 :: a3 :: a4 :: a5 :: a6 :: a7 :: a8 :: a9 :: a10 :: a11 :: a12 :: a13 :: a14 :: x :: ρ := (rfl)
@[simp] theorem slot_16 (a0 a1 a2 a3 a4 a5 a6 a7 a8 a9 a10 a11 a12 a13 a14 a15 a16 : Sl) (ρ : Env) : slot (a0 :: a1 :: a2 :: a3 :: a4 :: a5 :: a6 :: a7 :: a8 :: a9 :: a10 :: a11 :: a12 :: a13 :: a14 :: a15 :: a16 :: ρ) 16 = a16 := (rfl)
@[simp] theorem set_16 (a0 a1 a2 a3 a4 a5 a6 a7 a8 a9 a10 a11 a12 a13 a14 a15 a16 x : Sl) (ρ : Env) : List.set (a0 :: a1 :: a2 :: a3 :: a4 :: a5 :: a6 :: a7 :: a8 :: a9 :: a10 :: a11 :: a12 :: a13 :: a14 :: a15 :: a16 :: ρ) 16 x = a0 :: a1 :: a2 :: a3 :: a4 :: a5 :: a6 :: a7 :: a8 :: a9 :: a10 :: a11 :: a12 :: a13 :: a14 :: a15 :: x :: ρ := (rfl)
@[simp] theorem slot_17 (a0 a1 a2 a3 a4 a5 a6 a7 a8 a9 a10 a11 a12 a13 a14 a15 a16 a17 : Sl) (ρ : Env) : slot (a0 :: a1 :: a2 :: a3 :: a4 :: a5 :: a6 :: a7 :: a8 :: a9 :: a10 :: a11 :: a12 :: a13 :: a14 :: a15 :: a16 :: a17 :: ρ) 17 = a17 := (rfl)
@[simp] theorem set_17 (a0 a1 a2 a3 a4 a5 a6 a7 a8 a9 a10 a11 a12 a13 a14 a15 a16 a17 x : Sl) (ρ : Env) : List.set (a0 :: a1 :: a2 :: a3 :: a4 :: a5 :: a6 :: a7 :: a8 :: a9 :: a10 :: a11 :: a12 :: a13 :: a14 :: a15 :: a16 :: a17 :: ρ) 17 x = a0 :: a1 :: a2 :: a3 :: a4 :: a5 :: a6 :: a7 :: a8 :: a9 :: a10 :: a11 :: a12 :: a13 :: a14 :: a15 :: a16 :: x :: ρ := (rfl)
@[simp] theorem slot_18 (a0 a1 a2 a3 a4 a5 a6 a7 a8 a9 a10 a11 a12 a13 a14 a15 a16 a17 a18 : Sl) (ρ : Env) : slot (a0 :: a1 :: a2 :: a3 :: a4 :: a5 :: a6 :: a7 :: a8 :: a9 :: a10 :: a11 :: a12 :: a13 :: a14 :: a15 :: a16 :: a17 :: a18 :: ρ) 18 = a18 := (rfl)
@[simp] theorem set_18 (a0 a1 a2 a3 a4 a5 a6 a7 a8 a9 a10 a11 a12 a13 a14 a15 a16 a17 a18 x : Sl) (ρ : Env) : List.set (a0 :: a1 :: a2 :: a3 :: a4 :: a5 :: a6 :: a7 :: a8 :: a9 :: a10 :: a11 :: a12 :: a13 :: a14 :: a15 :: a16 :: a17 :: a18 :: ρ) 18 x = a0 :: a1 :: a2 :: a3 :: a4 :: a5 :: a6 :: a7 :: a8 :: a9 :: a10 :: a11 :: a12 :: a13 :: a14 :: a15 :: a16 :: a17 :: x :: ρ := (rfl)
@[simp] theorem slot_19 (a0 a1 a2 a3 a4 a5 a6 a7 a8 a9 a10 a11 a12 a13 a14 a15 a16 a17 a18 a19 : Sl) (ρ : Env) : slot (a0 :: a1 :: a2 :: a3 :: a4 :: a5 :: a6 :: a7 :: a8 :: a9 :: a10 :: a11 :: a12 :: a13 :: a14 :: a15 :: a16 :: a17 :: a18 :: a19 :: ρ) 19 = a19 := (rfl)
@[simp] theorem set_19 (a0 a1 a2 a3 a4 a5 a6 a7 a8 a9 a10 a11 a12 a13 a14 a15 a16 a17 a18 a19 x : Sl) (ρ : Env) : List.set (a0 :: a1 :: a2 :: a3 :: a4 :: a5 :: a6 :: a7 :: a8 :: a9 :: a10 :: a11 :: a12 :: a13 :: a14 :: a15 :: a16 :: a17 :: a18 :: a19 :: ρ) 19 x = a0 :: a1 :: a2 :: a3 :: a4 :: a5 :: a6 :: a7 :: a8 :: a9 :: a10 :: a11 :: a12 :: a13 :: a14 :: a15 :: a16 :: a17 :: a18 :: x :: ρ := (rfl)
@[simp] theorem wipe_nil : wipeE ρ [] = ρ := rfl
@[simp] theorem wipe_cons (v : Nat) (vs : List Nat) : wipeE ρ (v :: vs) = (wipeE ρ vs).set v .u := (rfl)
/-! loops -/
theorem forL_rule {τ : TF} {s : SF} (P : Nat → Env → Prop) (G : Res → Prop) : ∀ (rs : List Rv) (j : Nat) (ρ : Env), P j ρ →
    (∀ i r ρ, rs[i]? = some r → P (j + i) ρ → ∃ ρ1, τ r ρ = .ok ρ1 ∧ (match s ρ1 with | .next ρ' => P (j + i + 1) ρ' | .cont ρ' => P (j + i + 1) ρ' | .brk ρ' => G (.next ρ') | x => G x)) →
    (∀ ρ, P (j + rs.length) ρ → G (.next ρ)) → G (forL τ s rs ρ)
  | [], j, ρ, h0, _, hd => hd ρ h0
  | r :: rs, j, ρ, h0, hs, hd => by
    obtain ⟨ρ1, e1, h1⟩ := hs 0 r ρ rfl h0
    unfold forL
    rw [e1]
    show G (match s ρ1 with | .next ρ' => forL τ s rs ρ' | .cont ρ' => forL τ s rs ρ' | .brk ρ' => .next ρ' | x => x)
    have ih : ∀ ρ', P (j + 1) ρ' → G (forL τ s rs ρ') := fun ρ' h' => forL_rule P G rs (j + 1) ρ' h' (fun i r' ρ2 e p => by
      have := hs (i + 1) r' ρ2 (by simpa using e) (by rw [show j + (i + 1) = j + 1 + i by omega]; exact p)
      rw [show j + (i + 1) + 1 = j + 1 + i + 1 by omega] at this
      exact this) (fun ρ2 p => hd ρ2 (by rw [List.length_cons, show j + (rs.length + 1) = j + 1 + rs.length by omega]; exact p))
    cases e : s ρ1 with
    | next ρ' => rw [e] at h1; exact ih ρ' h1
    | cont ρ' => rw [e] at h1; exact ih ρ' h1
    | brk ρ' => rw [e] at h1; exact h1
    | ret v => rw [e] at h1; exact h1
    | exc c p ρ' => rw [e] at h1; exact h1
    | bad => rw [e] at h1; exact h1
/-- a loop that goes through, by what holds behind each turn -/
theorem forL_go {τ : TF} {s : SF} {rs : List Rv} {ρ : Env} (P : Nat → Env → Prop) (h0 : P 0 ρ) (hs : ∀ i r ρ, rs[i]? = some r → P i ρ → ∃ ρ1 ρ', τ r ρ = .ok ρ1 ∧ s ρ1 = .next ρ' ∧ P (i + 1) ρ') : ∃ ρ', forL τ s rs ρ = .next ρ' ∧ P rs.length ρ' := by
  refine forL_rule P (fun r => ∃ ρ', r = .next ρ' ∧ P rs.length ρ') rs 0 ρ h0 (fun i r ρ e p => ?_) (fun ρ p => ⟨ρ, rfl, by simpa using p⟩)
  rw [Nat.zero_add] at p ⊢
  obtain ⟨ρ1, ρ', e1, e2, p'⟩ := hs i r ρ e p
  refine ⟨ρ1, e1, ?_⟩
  rw [e2]
  exact p'
theorem whileN_rule {t : Env → Er Bool} {s : SF} (P : Env → Prop) (μ : Env → Nat) (G : Res → Prop)
    (hs : ∀ ρ, P ρ → ∃ b, t ρ = .ok b ∧ (b = true → match s ρ with | .next ρ' => P ρ' ∧ μ ρ' < μ ρ | .cont ρ' => P ρ' ∧ μ ρ' < μ ρ | .brk ρ' => G (.next ρ') | x => G x) ∧ (b = false → G (.next ρ))) :
    ∀ (n : Nat) (ρ : Env), P ρ → μ ρ < n → G (whileN t s n ρ)
  | 0, ρ, _, h => by omega
  | n + 1, ρ, p, h => by
    obtain ⟨b, e, h1, h2⟩ := hs ρ p
    unfold whileN
    rw [e]
    show G (if b = true then (match s ρ with | .next ρ' => whileN t s n ρ' | .cont ρ' => whileN t s n ρ' | .brk ρ' => .next ρ' | x => x) else .next ρ)
    cases b with
    | false => exact h2 rfl
    | true =>
      rw [if_pos rfl]
      have h1 := h1 rfl
      cases e : s ρ with
      | next ρ' => rw [e] at h1; exact whileN_rule P μ G hs n ρ' h1.1 (by omega)
      | cont ρ' => rw [e] at h1; exact whileN_rule P μ G hs n ρ' h1.1 (by omega)
      | brk ρ' => rw [e] at h1; exact h1
      | ret v => rw [e] at h1; exact h1
      | exc c p ρ' => rw [e] at h1; exact h1
      | bad => rw [e] at h1; exact h1
theorem whileS_rule {t : Env → Er Bool} {s : SF} {ρ : Env} (P : Env → Prop) (μ : Env → Nat) (G : Res → Prop) (h0 : P ρ) (hμ : μ ρ < 1000000)
    (hs : ∀ ρ, P ρ → ∃ b, t ρ = .ok b ∧ (b = true → match s ρ with | .next ρ' => P ρ' ∧ μ ρ' < μ ρ | .cont ρ' => P ρ' ∧ μ ρ' < μ ρ | .brk ρ' => G (.next ρ') | x => G x) ∧ (b = false → G (.next ρ))) : G (whileS t s ρ) :=
  whileN_rule P μ G hs _ ρ h0 hμ
theorem whileS_go {t : Env → Er Bool} {s : SF} {ρ : Env} (P : Env → Prop) (μ : Env → Nat) (h0 : P ρ) (hμ : μ ρ < 1000000)
    (hs : ∀ ρ, P ρ → ∃ b, t ρ = .ok b ∧ (b = true → ∃ ρ', s ρ = .next ρ' ∧ P ρ' ∧ μ ρ' < μ ρ)) : ∃ ρ', whileS t s ρ = .next ρ' ∧ P ρ' ∧ t ρ' = .ok false := by
  refine whileS_rule P μ (fun r => ∃ ρ', r = .next ρ' ∧ P ρ' ∧ t ρ' = .ok false) h0 hμ fun ρ p => ?_
  obtain ⟨b, e, h⟩ := hs ρ p
  refine ⟨b, e, fun hb => ?_, fun hb => ⟨ρ, rfl, p, by rw [e, hb]⟩⟩
  obtain ⟨ρ', e2, h2⟩ := h hb
  rw [e2]
  exact h2
/-- a comprehension without a test, by its items -/
theorem lc_all {τ : TF} {e : EF} {ρ : Env} (x : Nat → D) : ∀ (rs : List Rv) (j : Nat), (∀ i r, rs[i]? = some r → ∃ ρ' a, τ r ρ = .ok ρ' ∧ e ρ' = .ok a ∧ a.keep = .ok (x (j + i))) → lcLoop τ yesT e ρ rs = .ok ((List.range rs.length).map fun i => x (j + i))
  | [], j, _ => rfl
  | r :: rs, j, h => by
    obtain ⟨ρ', a, e1, e2, e3⟩ := h 0 r rfl
    have ih := lc_all x rs (j + 1) fun i r' er => by
      have := h (i + 1) r' (by simpa using er)
      rw [show j + (i + 1) = j + 1 + i by omega] at this
      exact this
    unfold lcLoop
    rw [e1]
    simp only [yesT, noX_okk, bind_ok, if_true, e2, e3, ih]
    rw [List.length_cons, List.range_succ_eq_map, List.map_cons, List.map_map]
    congr 2
    apply List.map_congr_left
    intro i _
    show x (j + 1 + i) = x (j + (i + 1))
    congr 1
    omega
theorem lcF_all {it : IF} {τ : TF} {vs : List Nat} {e : EF} {ρ : Env} {rs : List Rv} (x : Nat → D) (hi : it ρ = .ok rs) (hl : rs.length ≤ 100000) (h : ∀ i r, rs[i]? = some r → ∃ ρ' a, τ r (wipeE ρ vs) = .ok ρ' ∧ e ρ' = .ok a ∧ a.keep = .ok (x i)) :
    lcF it τ vs yesT e ρ = .ok (.o ((List.range rs.length).map x)) := by
  unfold lcF
  rw [hi]
  simp only [bind_ok]
  rw [if_pos hl, lc_all x rs 0 (by simpa using h)]
  simp only [bind_ok, Nat.zero_add]
end
end Sq

/-! Rows, sheets, and when two data are equal: plain Lean. -/
namespace Sq
open PySem L2
def nD (r : List Nat) : List D := r.map fun n : Nat => .int (n : Int)
def zD (r : List Int) : List D := r.map .int
@[simp] theorem nD_len (r : List Nat) : (nD r).length = r.length := by simp [nD]
@[simp] theorem zD_len (r : List Int) : (zD r).length = r.length := by simp [zD]
@[simp] theorem nD_get (r : List Nat) (i : Nat) : (nD r)[i]? = (r[i]?).map fun n : Nat => .int (n : Int) := by simp [nD]
theorem nD_app (r s : List Nat) : nD (r ++ s) = nD r ++ nD s := by simp [nD]
theorem nD_inj {r s : List Nat} (h : nD r = nD s) : r = s := by
  unfold nD at h
  exact List.map_inj_right (fun a b e => by injection e with e; omega) |>.mp h
/-! tidy data -/
def td : Nat → D → Bool
  | _, .int _ => true
  | _, .none => true
  | k + 1, .tuple xs => xs.all (td k)
  | k + 1, .list xs => xs.all (td k)
  | _, _ => false
theorem td_lay : ∀ (k : Nat) (d : D), td k d = true → d.canLay0 = true ∧ d.depth ≤ k := by
  have all : ∀ (k : Nat), (∀ d : D, td k d = true → d.canLay0 = true ∧ d.depth ≤ k) → ∀ xs : List D, xs.all (td k) = true → PyData.canLayAll0 xs = true ∧ PyData.depthAll xs ≤ k := by
    intro k ih xs
    induction xs with
    | nil => intro _; simp [PyData.canLayAll0, PyData.depthAll]
    | cons x xs ihx =>
      intro h
      rw [List.all_cons, Bool.and_eq_true] at h
      have h1 := ih x h.1
      have h2 := ihx h.2
      rw [PyData.canLayAll0, PyData.depthAll, h1.1, h2.1]
      exact ⟨rfl, by have := h1.2; have := h2.2; omega⟩
  intro k
  induction k with
  | zero => intro d h; cases d <;> simp [td, PyData.canLay0, PyData.depth] at h ⊢
  | succ k ih =>
    intro d h
    cases d with
    | int i => simp [PyData.canLay0, PyData.depth]
    | none => simp [PyData.canLay0, PyData.depth]
    | tuple xs =>
      have := all k ih xs h
      rw [PyData.canLay0, PyData.depth]
      exact ⟨this.1, by omega⟩
    | list xs =>
      have := all k ih xs h
      rw [PyData.canLay0, PyData.depth]
      exact ⟨this.1, by omega⟩
    | _ => simp [td] at h
theorem td_shaped {k : Nat} {d : D} (h : td k d = true) (hk : k ≤ 64 := by decide) : SeqAt.shaped d = true := by
  have := td_lay k d h
  unfold SeqAt.shaped
  rw [this.1]
  simp
  omega
theorem td_eqv : ∀ (k : Nat) (d e : D), td k d = true → td k e = true → PyData.eqv d e = true → d = e := by
  have all : ∀ (k : Nat), (∀ d e : D, td k d = true → td k e = true → PyData.eqv d e = true → d = e) → ∀ xs ys : List D, xs.all (td k) = true → ys.all (td k) = true → PyData.eqvAll xs ys = true → xs = ys := by
    intro k ih xs
    induction xs with
    | nil => intro ys _ _ h; cases ys with | nil => rfl | cons y ys => simp [PyData.eqvAll] at h
    | cons x xs ihx =>
      intro ys h1 h2 h
      cases ys with
      | nil => simp [PyData.eqvAll] at h
      | cons y ys =>
        rw [List.all_cons, Bool.and_eq_true] at h1 h2
        rw [PyData.eqvAll, Bool.and_eq_true] at h
        rw [ih x y h1.1 h2.1 h.1, ihx ys h1.2 h2.2 h.2]
  intro k
  induction k with
  | zero =>
    intro d e h1 h2 h
    cases d with
    | int i => cases e with
      | int j => rw [PyData.eqv] at h; rw [eq_of_beq h]
      | none => simp [PyData.eqv] at h
      | _ => exact absurd h2 Bool.false_ne_true
    | none => cases e with
      | int j => simp [PyData.eqv] at h
      | none => rfl
      | _ => exact absurd h2 Bool.false_ne_true
    | _ => exact absurd h1 Bool.false_ne_true
  | succ k ih =>
    intro d e h1 h2 h
    cases d with
    | int i => cases e with
      | int j => rw [PyData.eqv] at h; rw [eq_of_beq h]
      | none => simp [PyData.eqv] at h
      | tuple ys => simp [PyData.eqv] at h
      | list ys => simp [PyData.eqv] at h
      | _ => exact absurd h2 Bool.false_ne_true
    | none => cases e with
      | int j => simp [PyData.eqv] at h
      | none => rfl
      | tuple ys => simp [PyData.eqv] at h
      | list ys => simp [PyData.eqv] at h
      | _ => exact absurd h2 Bool.false_ne_true
    | tuple xs => cases e with
      | int j => simp [PyData.eqv] at h
      | none => simp [PyData.eqv] at h
      | tuple ys => rw [PyData.eqv] at h; rw [all k ih xs ys h1 h2 h]
      | list ys => simp [PyData.eqv] at h
      | _ => exact absurd h2 Bool.false_ne_true
    | list xs => cases e with
      | int j => simp [PyData.eqv] at h
      | none => simp [PyData.eqv] at h
      | tuple ys => simp [PyData.eqv] at h
      | list ys => rw [PyData.eqv] at h; rw [all k ih xs ys h1 h2 h]
      | _ => exact absurd h2 Bool.false_ne_true
    | _ => exact absurd h1 Bool.false_ne_true
theorem td_eq {k : Nat} {d e : D} (h1 : td k d = true) (h2 : td k e = true) : PyData.eqv d e = true ↔ d = e :=
  ⟨td_eqv k d e h1 h2, fun h => h ▸ SeqAt.eqv_refl d (td_lay k d h1).1⟩
theorem td_mono : ∀ (k : Nat) (d : D), td k d = true → td (k + 1) d = true := by
  intro k
  induction k with
  | zero => intro d h; cases d <;> simp_all [td]
  | succ k ih =>
    intro d h
    cases d with
    | tuple xs => exact List.all_eq_true.mpr fun x hx => ih x (List.all_eq_true.mp h x hx)
    | list xs => exact List.all_eq_true.mpr fun x hx => ih x (List.all_eq_true.mp h x hx)
    | int i => rfl
    | none => rfl
    | _ => simp [td] at h
@[simp] theorem td_int (k : Nat) (i : Int) : td k (.int i) = true := by cases k <;> rfl
@[simp] theorem td_none (k : Nat) : td k .none = true := by cases k <;> rfl
@[simp] theorem td_tup (k : Nat) (xs : List D) : td (k + 1) (.tuple xs) = xs.all (td k) := rfl
@[simp] theorem td_lst (k : Nat) (xs : List D) : td (k + 1) (.list xs) = xs.all (td k) := rfl
@[simp] theorem td_nD (k : Nat) (r : List Nat) : (nD r).all (td k) = true := by simp [nD]
@[simp] theorem td_zD (k : Nat) (r : List Int) : (zD r).all (td k) = true := by simp [zD]
theorem eq_td {x y : D} (k : Nat) (h1 : td k x = true) (h2 : td k y = true) (hk : k ≤ 64 := by decide) : deq false x y = .ok (.bool (PyData.eqv x y)) := by
  unfold deq
  rw [if_pos ⟨td_shaped h1 hk, td_shaped h2 hk⟩]
  rfl
theorem ne_td {x y : D} (k : Nat) (h1 : td k x = true) (h2 : td k y = true) (hk : k ≤ 64 := by decide) : deq true x y = .ok (.bool (!PyData.eqv x y)) := by
  unfold deq
  rw [if_pos ⟨td_shaped h1 hk, td_shaped h2 hk⟩]
  rfl
theorem eq_same {x : D} (k : Nat) (h1 : td k x = true) (hk : k ≤ 64 := by decide) : deq false x x = .ok (.bool true) := by
  rw [eq_td k h1 h1 hk, (td_eq h1 h1).mpr rfl]
theorem ne_same {x : D} (k : Nat) (h1 : td k x = true) (hk : k ≤ 64 := by decide) : deq true x x = .ok (.bool false) := by
  rw [ne_td k h1 h1 hk, (td_eq h1 h1).mpr rfl]
  rfl
theorem eq_dec {x y : D} (k : Nat) {p : Prop} [Decidable p] (h1 : td k x = true) (h2 : td k y = true) (hp : x = y ↔ p) (hk : k ≤ 64 := by decide) : deq false x y = .ok (.bool (decide p)) := by
  rw [eq_td k h1 h2 hk]
  congr 2
  exact Bool.eq_iff_iff.mpr (by rw [td_eq h1 h2, hp, decide_eq_true_eq])
theorem ne_dec {x y : D} (k : Nat) {p : Prop} [Decidable p] (h1 : td k x = true) (h2 : td k y = true) (hp : x = y ↔ p) (hk : k ≤ 64 := by decide) : deq true x y = .ok (.bool (decide ¬p)) := by
  rw [ne_td k h1 h2 hk]
  congr 2
  exact Bool.eq_iff_iff.mpr (by rw [Bool.not_eq_true', Bool.eq_false_iff, Ne, td_eq h1 h2, hp, decide_eq_true_eq])
@[simp] theorem eq_ii (i j : Int) : deq false (.int i) (.int j) = .ok (.bool (decide (i = j))) :=
  eq_dec 0 rfl rfl ⟨fun h => by injection h, fun h => by rw [h]⟩
@[simp] theorem ne_ii (i j : Int) : deq true (.int i) (.int j) = .ok (.bool (decide ¬(i = j))) :=
  ne_dec 0 rfl rfl ⟨fun h => by injection h, fun h => by rw [h]⟩
@[simp] theorem nat_eq (a b : Nat) : ((a : Int) = (b : Int)) ↔ a = b := by omega
@[simp] theorem eq_bb (a b : Bool) : deq false (.bool a) (.bool b) = .ok (.bool (a == b)) := by
  unfold deq
  rw [if_pos ⟨rfl, rfl⟩, PyData.eqv]
  rfl
@[simp] theorem ne_bb (a b : Bool) : deq true (.bool a) (.bool b) = .ok (.bool (!(a == b))) := by
  unfold deq
  rw [if_pos ⟨rfl, rfl⟩, PyData.eqv]
  rfl
/-! orders -/
def ap (a : List Nat) (x : Nat) : Nat := a.getD x 0
structure Pm (a : List Nat) (m : Nat) : Prop where
  len : a.length = m
  nd : a.Nodup
  lt : ∀ x ∈ a, x < m
theorem Pm.mem {a : List Nat} {m x : Nat} (h : Pm a m) (hx : x < m) : x ∈ a := by
  refine Classical.byContradiction fun hn => ?_
  have hs : (x :: a) ⊆ List.range m := fun y hy => by
    rw [List.mem_range]
    rcases List.mem_cons.mp hy with e | e
    · omega
    · exact h.lt y e
  have := List.Nodup.length_le_of_subset (List.nodup_cons.mpr ⟨hn, h.nd⟩) hs
  rw [List.length_cons, List.length_range, h.len] at this
  omega
theorem Pm.perm {a : List Nat} {m : Nat} (h : Pm a m) : a.Perm (List.range m) :=
  (List.perm_ext_iff_of_nodup h.nd List.nodup_range).mpr fun x => by
    rw [List.mem_range]
    exact ⟨h.lt x, h.mem⟩
theorem Pm.of_perm {a : List Nat} {m : Nat} (h : a.Perm (List.range m)) : Pm a m :=
  ⟨by rw [h.length_eq, List.length_range], h.nodup_iff.mpr List.nodup_range, fun x hx => List.mem_range.mp (h.mem_iff.mp hx)⟩
theorem ap_get {a : List Nat} {x : Nat} (h : x < a.length) : a[x]? = some (ap a x) := by
  unfold ap
  rw [List.getD_eq_getElem?_getD, List.getElem?_eq_getElem h]
  rfl
theorem ap_mem {a : List Nat} {x : Nat} (h : x < a.length) : ap a x ∈ a := List.mem_of_getElem? (ap_get h)
theorem ap_of {a : List Nat} {x y : Nat} (h : a[x]? = some y) : ap a x = y := by
  unfold ap
  rw [List.getD_eq_getElem?_getD, h]
  rfl
theorem Pm.get {a : List Nat} {m x : Nat} (h : Pm a m) (hx : x < m) : a[x]? = some (ap a x) := ap_get (by rw [h.len]; exact hx)
theorem Pm.ap_lt {a : List Nat} {m x : Nat} (h : Pm a m) (hx : x < m) : ap a x < m := h.lt _ (ap_mem (by rw [h.len]; exact hx))
theorem nodup_get {a : List Nat} (h : a.Nodup) {i j : Nat} {y : Nat} (hi : a[i]? = some y) (hj : a[j]? = some y) : i = j := by
  have ⟨hi1, e1⟩ := List.getElem?_eq_some_iff.mp hi
  have ⟨hj1, e2⟩ := List.getElem?_eq_some_iff.mp hj
  have := List.pairwise_iff_getElem.mp h
  rcases Nat.lt_trichotomy i j with c | c | c
  · exact absurd (e1.trans e2.symm) (this i j hi1 hj1 c)
  · exact c
  · exact absurd (e2.trans e1.symm) (this j i hj1 hi1 c)
theorem Pm.ap_inj {a : List Nat} {m x y : Nat} (h : Pm a m) (hx : x < m) (hy : y < m) (e : ap a x = ap a y) : x = y :=
  nodup_get h.nd (h.get hx) (by rw [e]; exact h.get hy)
theorem Pm.ap_surj {a : List Nat} {m y : Nat} (h : Pm a m) (hy : y < m) : ∃ x, x < m ∧ ap a x = y := by
  have ⟨x, hx, e⟩ := List.getElem_of_mem (h.mem hy)
  exact ⟨x, by rw [← h.len]; exact hx, ap_of (by rw [List.getElem?_eq_getElem hx, e])⟩
theorem ap_set_self {w : List Nat} {i y : Nat} (h : i < w.length) : ap (w.set i y) i = y := ap_of (by rw [List.getElem?_set_self h])
theorem ap_set_ne {w : List Nat} {i j y : Nat} (h : i ≠ j) : ap (w.set i y) j = ap w j := by
  unfold ap
  rw [List.getD_eq_getElem?_getD, List.getD_eq_getElem?_getD, List.getElem?_set_ne h]
/-- a row from a rule -/
def rowOf (m : Nat) (f : Nat → Nat) : List Nat := (List.range m).map f
@[simp] theorem rowOf_len (m : Nat) (f : Nat → Nat) : (rowOf m f).length = m := by simp [rowOf]
theorem ap_rowOf {m x : Nat} {f : Nat → Nat} (h : x < m) : ap (rowOf m f) x = f x := ap_of (by simp [rowOf, h])
theorem pm_rowOf {m : Nat} {f : Nat → Nat} (h1 : ∀ x, x < m → f x < m) (h2 : ∀ x y, x < m → y < m → f x = f y → x = y) : Pm (rowOf m f) m := by
  refine ⟨by simp, ?_, fun x hx => ?_⟩
  · unfold rowOf
    rw [List.nodup_iff_pairwise_ne, List.pairwise_map]
    refine List.Pairwise.imp_of_mem (fun {x y} hx hy hne e => hne (h2 x y (List.mem_range.mp hx) (List.mem_range.mp hy) e)) List.nodup_range
  · obtain ⟨y, hy, e⟩ := List.mem_map.mp hx
    exact e ▸ h1 y (List.mem_range.mp hy)
theorem row_ext {a b : List Nat} {m : Nat} (ha : a.length = m) (hb : b.length = m) (h : ∀ x, x < m → ap a x = ap b x) : a = b := by
  refine List.ext_getElem? fun x => ?_
  by_cases hx : x < m
  · rw [ap_get (by omega), ap_get (by omega), h x hx]
  · rw [List.getElem?_eq_none (by omega), List.getElem?_eq_none (by omega)]
/-- where a row holds a number -/
def inv (a : List Nat) (y : Nat) : Nat := a.idxOf y
theorem inv_get {a : List Nat} {y : Nat} (h : y ∈ a) : a[inv a y]? = some y := by
  have := List.idxOf_lt_length_iff.mpr h
  show a[a.idxOf y]? = _
  rw [List.getElem?_eq_getElem this, List.getElem_idxOf this]
theorem Pm.inv_lt {a : List Nat} {m y : Nat} (h : Pm a m) (hy : y < m) : inv a y < m := by
  have := List.idxOf_lt_length_iff.mpr (h.mem hy)
  rw [h.len] at this
  exact this
theorem Pm.ap_inv {a : List Nat} {m y : Nat} (h : Pm a m) (hy : y < m) : ap a (inv a y) = y := ap_of (inv_get (h.mem hy))
theorem Pm.inv_ap {a : List Nat} {m x : Nat} (h : Pm a m) (hx : x < m) : inv a (ap a x) = x :=
  h.ap_inj (h.inv_lt (h.ap_lt hx)) hx (h.ap_inv (h.ap_lt hx))
/-! sorting -/
def nsrt (r : List Nat) : List Nat := r.mergeSort fun a b => decide (a ≤ b)
theorem srt_nat (r : List Nat) : srt (r.map fun n : Nat => (n : Int)) = (nsrt r).map fun n : Nat => (n : Int) := by
  unfold srt nsrt
  exact (List.map_mergeSort fun a _ b _ => by simp).symm
theorem nsrt_perm (r : List Nat) : (nsrt r).Perm r := List.mergeSort_perm _ _
theorem nsrt_le (r : List Nat) : (nsrt r).Pairwise (· ≤ ·) := by
  have := List.pairwise_mergeSort (le := fun a b : Nat => decide (a ≤ b)) (fun a b c h1 h2 => by simp at *; omega) (fun a b => by simp; omega) r
  exact this.imp fun h => by simpa using h
theorem nsrt_pm {a : List Nat} {m : Nat} (h : Pm a m) : nsrt a = List.range m :=
  List.Perm.eq_of_pairwise (le := (· ≤ ·)) (fun a b _ _ h1 h2 => Nat.le_antisymm h1 h2) (nsrt_le a) (List.Pairwise.imp (fun h => Nat.le_of_lt h) List.pairwise_lt_range) ((nsrt_perm a).trans h.perm)
theorem dInts_nD : ∀ r : List Nat, dInts (nD r) = some (r.map fun n : Nat => (n : Int))
  | [] => rfl
  | n :: r => by
    show dInts (.int n :: nD r) = _
    unfold dInts
    rw [dInts_nD r]
    rfl
theorem nD_map (r : List Nat) : nD r = (r.map fun n : Nat => (n : Int)).map .int := by simp [nD]
theorem sort_nD {a : Rv} {r : List Nat} (h : a.intsD = some (r.map fun n : Nat => (n : Int))) : sortR a = .ok (.o (nD (nsrt r))) := by
  unfold sortR
  rw [h]
  show Er.ok (Rv.o ((srt _).map .int)) = _
  rw [srt_nat, ← nD_map]
@[simp] theorem ints_vl (r : List Nat) : (Rv.v (.list (nD r))).intsD = some (r.map fun n : Nat => (n : Int)) := dInts_nD r
@[simp] theorem ints_o (r : List Nat) : (Rv.o (nD r)).intsD = some (r.map fun n : Nat => (n : Int)) := dInts_nD r
@[simp] theorem sort_vl (r : List Nat) : sortR (.v (.list (nD r))) = .ok (.o (nD (nsrt r))) := sort_nD (ints_vl r)
@[simp] theorem sort_o (r : List Nat) : sortR (.o (nD r)) = .ok (.o (nD (nsrt r))) := sort_nD (ints_o r)
@[simp] theorem sort_w (r : List Nat) : sortR (.w (nD r)) = .ok (.o (nD (nsrt r))) := sort_nD (dInts_nD r)
/-! places -/
theorem eqv_nat (i j : Nat) : PyData.eqv (.int i) (.int j) = decide (i = j) := by
  rw [PyData.eqv]
  exact Bool.eq_iff_iff.mpr (by simp only [beq_iff_eq, decide_eq_true_eq]; omega)
theorem first_nD (y : Nat) : ∀ (r : List Nat) (k : Nat), y ∈ r → firstAt (.int y) (nD r) k = some (k + inv r y)
  | [], _, h => by cases h
  | x :: r, k, h => by
    show firstAt (.int y) (.int x :: nD r) k = _
    unfold firstAt
    rw [eqv_nat]
    by_cases e : x = y
    · rw [if_pos (by simpa using e)]
      unfold inv
      rw [List.idxOf_cons, e]
      simp
    · rw [if_neg (by simpa using e), first_nD y r (k + 1) ((List.mem_cons.mp h).resolve_left (Ne.symm e))]
      unfold inv
      rw [List.idxOf_cons, show (x == y) = false from beq_false_of_ne e]
      simp
      omega

theorem flat_nD (r : List Nat) : (nD r).all flatD = true := by simp [nD, flatD]
theorem any_nD (y : Nat) (r : List Nat) : ((nD r).any fun z => PyData.eqv z (.int y)) = decide (y ∈ r) := by
  induction r with
  | nil => simp [nD]
  | cons x r ih =>
    show (PyData.eqv (.int x) (.int y) || (nD r).any fun z => PyData.eqv z (.int y)) = _
    rw [ih, eqv_nat, ← Bool.decide_or]
    refine decide_eq_decide.mpr ?_
    rw [List.mem_cons]
    exact or_congr_left eq_comm
theorem inSeq_nD (n : Bool) (y : Nat) (r : List Nat) {a b : Rv} (ha : a.dat = some (.int y)) (hb : b.seq = some (nD r)) : inSeq n a b = .ok (.v (.bool (if n then !decide (y ∈ r) else decide (y ∈ r)))) := by
  unfold inSeq
  rw [ha, hb]
  simp only [any_nD, flat_nD, flatD, and_self, if_true]
@[simp] theorem in_w (n : Bool) (y : Nat) (r : List Nat) : inR n (.v (.int y)) (.w (nD r)) = .ok (.v (.bool (if n then !decide (y ∈ r) else decide (y ∈ r)))) :=
  (alt_r rfl).trans (alt_l (inSeq_nD n y r rfl rfl))
@[simp] theorem in_vt (n : Bool) (y : Nat) (r : List Nat) : inR n (.v (.int y)) (.v (.tuple (nD r))) = .ok (.v (.bool (if n then !decide (y ∈ r) else decide (y ∈ r)))) :=
  (alt_r rfl).trans (alt_l (inSeq_nD n y r rfl rfl))
@[simp] theorem in_vl (n : Bool) (y : Nat) (r : List Nat) : inR n (.v (.int y)) (.v (.list (nD r))) = .ok (.v (.bool (if n then !decide (y ∈ r) else decide (y ∈ r)))) :=
  (alt_r rfl).trans (alt_l (inSeq_nD n y r rfl rfl))
theorem indexR_nD {y : Nat} {r : List Nat} (h : y ∈ r) : indexR (nD r) (.v (.int y)) = .ok (.v (.int (inv r y : Nat))) := by
  unfold indexR
  simp only [dat_v, flat_nD, flatD, and_self, if_true, first_nD y r 0 h, Nat.zero_add]
theorem indexF_e {f g : EF} {ρ : Env} {a : Rv} {ys : List D} (h : f ρ = .ok a) (hd : a.dat = some (.list ys)) : indexF f g ρ = (g ρ).bind fun b => indexR ys b := by
  unfold indexF
  rw [h]
  simp only [bind_ok, hd]
theorem ix_row {a : List Nat} {x : Nat} (h : x < a.length) : ixR (.v (.list (nD a))) (.v (.int x)) = .ok (.v (.int (ap a x : Nat))) := ixR_vl (at_nat.trans (by simp [ap_get h]))
theorem ix_rowT {a : List Nat} {x : Nat} (h : x < a.length) : ixR (.v (.tuple (nD a))) (.v (.int x)) = .ok (.v (.int (ap a x : Nat))) := ixR_vt (at_nat.trans (by simp [ap_get h]))
theorem ixR_o {xs : List D} {i : Int} {d : D} (h : atI xs i = some d) : ixR (.o xs) (.v (.int i)) = .ok (.v d) := by
  refine (alt_r rfl).trans (alt_l (ixSeq_e ?_))
  show (atI xs i).map Rv.v = _
  rw [h]
  rfl
theorem ix_rowO {a : List Nat} {x : Nat} (h : x < a.length) : ixR (.o (nD a)) (.v (.int x)) = .ok (.v (.int (ap a x : Nat))) := ixR_o (at_nat.trans (by simp [ap_get h]))
theorem ix_rowW {a : List Nat} {x : Nat} (h : x < a.length) : ixR (.w (nD a)) (.v (.int x)) = .ok (.v (.int (ap a x : Nat))) := ixR_w (at_nat.trans (by simp [ap_get h]))
theorem isi_tt (xs : List D) : isiR "tuple" (.v (.tuple xs)) = .ok (.v (.bool true)) := (rfl)
theorem isi_ii (i : Int) : isiR "int" (.v (.int i)) = .ok (.v (.bool true)) := (rfl)
theorem isi_bi (i : Int) : isiR "bool" (.v (.int i)) = .ok (.v (.bool false)) := (rfl)
theorem isi_bb (b : Bool) : isiR "bool" (.v (.bool b)) = .ok (.v (.bool true)) := (rfl)
theorem dBools_all (b : Bool) : ∀ n : Nat, dBools (List.replicate n (.bool b)) = some (List.replicate n b)
  | 0 => rfl
  | n + 1 => by
    show dBools (.bool b :: List.replicate n (.bool b)) = _
    unfold dBools
    rw [dBools_all b n]
    rfl
theorem all_true (n : Nat) : allA (.o (List.replicate n (.bool true))) = .ok (.v (.bool true)) := by
  unfold allA Rv.bools
  simp [dBools_all]
/-- a comprehension without a test, over what a list gives -/
theorem lcL_map {α : Type} {τ : TF} {e : EF} {ρ : Env} (g : α → Rv) (h : α → D) : ∀ (xs : List α), (∀ x ∈ xs, ∃ ρ' a, τ (g x) ρ = .ok ρ' ∧ e ρ' = .ok a ∧ a.keep = .ok (h x)) → lcLoop τ yesT e ρ (xs.map g) = .ok (xs.map h)
  | [], _ => rfl
  | x :: xs, hs => by
    obtain ⟨ρ', a, e1, e2, e3⟩ := hs x (List.mem_cons_self ..)
    have ih := lcL_map g h xs fun y hy => hs y (List.mem_cons_of_mem _ hy)
    show lcLoop τ yesT e ρ (g x :: xs.map g) = _
    unfold lcLoop
    rw [e1]
    simp only [yesT, noX_okk, bind_ok, if_true, e2, e3, ih]
    rfl
theorem lcF_map {α : Type} {it : IF} {τ : TF} {vs : List Nat} {e : EF} {ρ : Env} (xs : List α) (g : α → Rv) (h : α → D) (hi : it ρ = .ok (xs.map g)) (hl : xs.length ≤ 100000) (hs : ∀ x ∈ xs, ∃ ρ' a, τ (g x) (wipeE ρ vs) = .ok ρ' ∧ e ρ' = .ok a ∧ a.keep = .ok (h x)) :
    lcF it τ vs yesT e ρ = .ok (.o (xs.map h)) := by
  unfold lcF
  rw [hi]
  simp only [bind_ok]
  rw [if_pos (by simpa using hl), lcL_map g h xs hs]
  rfl
theorem forL_cons {τ : TF} {s : SF} {r : Rv} {rs : List Rv} {ρ ρ1 : Env} (h : τ r ρ = .ok ρ1) : forL τ s (r :: rs) ρ = (match s ρ1 with | .next ρ' => forL τ s rs ρ' | .cont ρ' => forL τ s rs ρ' | .brk ρ' => .next ρ' | x => x) := by
  rw [forL, h] <;> rfl
theorem forL_next {τ : TF} {s : SF} {r : Rv} {rs : List Rv} {ρ ρ1 ρ2 : Env} (h : τ r ρ = .ok ρ1) (h2 : s ρ1 = .next ρ2) : forL τ s (r :: rs) ρ = forL τ s rs ρ2 := by
  rw [forL_cons h, h2]
@[simp] theorem forL_nil {τ : TF} {s : SF} {ρ : Env} : forL τ s [] ρ = .next ρ := (rfl)
/-- what a walk from 0 along two rows meets -/
inductive Re (a b : List Nat) : Nat → Prop
  | z : Re a b 0
  | fa {x : Nat} : Re a b x → Re a b (ap a x)
  | fb {x : Nat} : Re a b x → Re a b (ap b x)
/-- two rows that hold together -/
structure Sh (p q : List Nat) (n : Nat) : Prop where
  hp : Pm p n
  hq : Pm q n
  pos : 0 < n
  re : ∀ x, x < n → Re p q x
def sheet (p q : List Nat) : D := .tuple [.tuple (nD p), .tuple (nD q)]
@[simp] theorem td_sheet (k : Nat) (p q : List Nat) : td (k + 2) (sheet p q) = true := by
  show List.all _ _ = true
  simp
theorem sheet_inj {p q p' q' : List Nat} : sheet p q = sheet p' q' ↔ p = p' ∧ q = q' := by
  constructor
  · intro h
    injection h with h
    injection h with h1 h2
    injection h1 with h1
    injection h2 with h2
    injection h2 with h2
    exact ⟨nD_inj h1, nD_inj h2⟩
  · intro ⟨h1, h2⟩
    rw [h1, h2]
theorem sheet_e (p q : List Nat) : PyData.tuple [.tuple (nD p), .tuple (nD q)] = sheet p q := (rfl)
theorem ix_sh0 (p q : List Nat) : ixR (.v (sheet p q)) (.v (.int 0)) = .ok (.v (.tuple (nD p))) := ixR_vt rfl
theorem ix_sh1 (p q : List Nat) : ixR (.v (sheet p q)) (.v (.int 1)) = .ok (.v (.tuple (nD q))) := ixR_vt rfl
/-- the orbit as a sheet of its own -/
theorem orbit_sh {a b kept : List Nat} {m : Nat} (ha : Pm a m) (hb : Pm b m) (hn : kept.Nodup) (hlt : ∀ x ∈ kept, x < m) (h0 : 0 ∈ kept) (hs : kept.Pairwise (· ≤ ·)) (hc : ∀ x ∈ kept, ap a x ∈ kept ∧ ap b x ∈ kept) (hr : ∀ x ∈ kept, Re a b x) :
    Sh (kept.map fun x => inv kept (ap a x)) (kept.map fun x => inv kept (ap b x)) kept.length := by
  have key : ∀ c : List Nat, Pm c m → (∀ x ∈ kept, ap c x ∈ kept) → Pm (kept.map fun x => inv kept (ap c x)) kept.length := by
    intro c hcm hcc
    refine ⟨by simp, ?_, fun y hy => ?_⟩
    · rw [List.nodup_iff_pairwise_ne, List.pairwise_map]
      refine List.Pairwise.imp_of_mem (fun {x y} hx hy hne e => hne ?_) hn
      have h1 := inv_get (hcc x hx)
      have h2 := inv_get (hcc y hy)
      rw [e, h2] at h1
      exact hcm.ap_inj (hlt x hx) (hlt y hy) (Option.some.inj h1).symm
    · obtain ⟨x, hx, e⟩ := List.mem_map.mp hy
      exact e ▸ List.idxOf_lt_length_iff.mpr (hcc x hx)
  have hz : inv kept 0 = 0 := by
    cases kept with
    | nil => cases h0
    | cons x r =>
      have hx : x = 0 := by
        rcases List.mem_cons.mp h0 with e | e
        · exact e.symm
        · have := (List.pairwise_cons.mp hs).1 0 e
          omega
      unfold inv
      rw [List.idxOf_cons, hx]
      simp
  have hap : ∀ c : List Nat, ∀ x ∈ kept, ap (kept.map fun x => inv kept (ap c x)) (inv kept x) = inv kept (ap c x) := by
    intro c x hx
    refine ap_of ?_
    rw [List.getElem?_map, inv_get hx]
    rfl
  have hre : ∀ x, Re a b x → x ∈ kept ∧ Re (kept.map fun x => inv kept (ap a x)) (kept.map fun x => inv kept (ap b x)) (inv kept x) := by
    intro x h
    induction h with
    | z => exact ⟨h0, by rw [hz]; exact .z⟩
    | fa _ ih => exact ⟨(hc _ ih.1).1, by rw [← hap a _ ih.1]; exact .fa ih.2⟩
    | fb _ ih => exact ⟨(hc _ ih.1).2, by rw [← hap b _ ih.1]; exact .fb ih.2⟩
  refine ⟨key a ha fun x hx => (hc x hx).1, key b hb fun x hx => (hc x hx).2, List.length_pos_of_mem h0, fun i hi => ?_⟩
  have hm : kept[i] ∈ kept := List.getElem_mem hi
  have := (hre _ (hr _ hm)).2
  have e : inv kept kept[i] = i := nodup_get hn (inv_get hm) (List.getElem?_eq_getElem hi)
  rw [e] at this
  exact this

/-! ranges, shorter -/
def rgV (n : Nat) : List Rv := (List.range n).map fun (i : Nat) => Rv.v (.int (i : Int))
theorem rg1_nat {f : EF} {ρ : Env} {n : Nat} (h : f ρ = .ok (.v (.int n))) (hn : n ≤ 1000000) : rg1F f ρ = .ok (rgV n) := by
  rw [rg1_e h rfl (by omega), rgR_nat]
  rfl
theorem lc_rg {f e : EF} {ρ : Env} {n : Nat} (k : Nat) (g : Nat → Nat) (h : f ρ = .ok (.v (.int n))) (hn : n ≤ 100000) (he : ∀ x, x < n → ∃ a, e ((ρ.set k .u).set k (.v (.int x))) = .ok a ∧ a.keep = .ok (.int (g x : Nat))) : lcF (rg1F f) (asgn k) [k] yesT e ρ = .ok (.o (nD (rowOf n g))) := by
  rw [lcF_map (List.range n) (fun (i : Nat) => Rv.v (.int (i : Int))) (fun i : Nat => .int (g i : Nat)) (rg1_nat h (by omega)) (by simpa using hn) fun x hx => ?_]
  · simp [nD, rowOf]
  · obtain ⟨a, e1, e2⟩ := he x (List.mem_range.mp hx)
    exact ⟨_, a, rfl, e1, e2⟩
theorem for_rg {f : EF} {s : SF} {ρ : Env} {n : Nat} (k : Nat) (P : Nat → Env → Prop) (h : f ρ = .ok (.v (.int n))) (hn : n ≤ 1000000) (h0 : P 0 ρ) (hs : ∀ i ρ, i < n → P i ρ → ∃ ρ', s (ρ.set k (.v (.int i))) = .next ρ' ∧ P (i + 1) ρ') : ∃ ρ', forS (rg1F f) (asgn k) s ρ = .next ρ' ∧ P n ρ' := by
  obtain ⟨ρ', e, p⟩ := forL_go (τ := asgn k) (s := s) (rs := rgV n) (ρ := ρ) P h0 fun i r ρ hr hp => by
    obtain ⟨hi, er⟩ := List.getElem?_eq_some_iff.mp hr
    simp [rgV] at er hi
    subst er
    obtain ⟨ρ', e1, e2⟩ := hs i ρ hi hp
    exact ⟨_, _, rfl, e1, e2⟩
  refine ⟨ρ', ?_, by simpa [rgV] using p⟩
  simp [rg1_nat h hn, e]
/-- a loop over a range that may end early -/
theorem for_rgG {f : EF} {s : SF} {ρ : Env} {n : Nat} (k : Nat) (P : Nat → Env → Prop) (G : Res → Prop) (h : f ρ = .ok (.v (.int n))) (hn : n ≤ 1000000) (h0 : P 0 ρ) (hs : ∀ i ρ, i < n → P i ρ → (match s (ρ.set k (.v (.int i))) with | .next ρ' => P (i + 1) ρ' | .cont ρ' => P (i + 1) ρ' | .brk ρ' => G (.next ρ') | x => G x)) (hd : ∀ ρ, P n ρ → G (.next ρ)) : G (forS (rg1F f) (asgn k) s ρ) := by
  show G (thenI ρ (rg1F f ρ) fun rs => forL (asgn k) s rs ρ)
  rw [rg1_nat h hn]
  show G (forL (asgn k) s (rgV n) ρ)
  refine forL_rule P G (rgV n) 0 ρ h0 (fun i r ρ hr hp => ?_) (fun ρ hp => hd ρ (by simpa [rgV] using hp))
  obtain ⟨hi, er⟩ := List.getElem?_eq_some_iff.mp hr
  simp [rgV] at er hi
  subst er
  rw [Nat.zero_add] at hp ⊢
  exact ⟨_, rfl, hs i ρ hi hp⟩
theorem seq_go {s u : SF} {ρ ρ' : Env} (h : s ρ = .next ρ') : seqS s u ρ = u ρ' := by
  simp [h]
theorem seq_ret {s u : SF} {ρ : Env} {r : Rv} (h : s ρ = .ret r) : seqS s u ρ = .ret r := by
  simp [h]
@[simp] theorem lcat_oo (xs ys : List D) (h : xs.length + ys.length ≤ 100000) : addR (.o xs) (.o ys) = .ok (.o (xs ++ ys)) := by
  refine (alt_r rfl).trans ((alt_r rfl).trans ((alt_r rfl).trans ?_))
  show (if xs.length + ys.length ≤ 100000 then Er.ok (Rv.o (xs ++ ys)) else .bad) = _
  rw [if_pos h]
theorem tcat_vv {xs ys : List D} (h0 : xs ≠ []) (h : xs.length + ys.length ≤ 100000) : addR (.v (.tuple xs)) (.v (.tuple ys)) = .ok (.v (.tuple (xs ++ ys))) := by
  refine (alt_r rfl).trans ((alt_r rfl).trans (alt_l ?_))
  show (if xs ≠ [] ∧ xs.length + ys.length ≤ 100000 then Er.ok (Rv.v (.tuple (xs ++ ys))) else .bad) = _
  rw [if_pos ⟨h0, h⟩]
theorem ix_rowB {a : List Nat} {x : Nat} (h : x < a.length) : ixR (.b (.list (nD a))) (.v (.int x)) = .ok (.b (.int (ap a x : Nat))) := ixR_bl (at_nat.trans (by simp [ap_get h]))
theorem mod_ok {c : Int} (N : Nat) (h : 0 < N) : ∃ d : Nat, d < N ∧ imod c N = .ok (.int d) := by
  have h0 : 0 ≤ c % (N : Int) := Int.emod_nonneg _ (by omega)
  have h1 : c % (N : Int) < N := Int.emod_lt_of_pos _ (by omega)
  obtain ⟨d, hd⟩ := Int.eq_ofNat_of_zero_le h0
  exact ⟨d, by omega, by rw [imod_s (by omega), hd]⟩
theorem div_nat (a b : Nat) (h : 0 < b) (h2 : b < 1073741824) : idiv (a : Int) (b : Int) = .ok (.int (a / b : Nat)) := by
  rw [idiv_s (by omega)]
  rfl
theorem mod_nat (a b : Nat) (h : 0 < b) : imod (a : Int) (b : Int) = .ok (.int (a % b : Nat)) := by
  rw [imod_s (by omega)]
  rfl
theorem mul_nat (a b : Nat) (h : a < 2 ^ 64) : imul (a : Int) (b : Int) = .ok (.int (a * b : Nat)) := by
  rw [imul_l (by omega)]
  rfl
end Sq

/-! try .. except. -/
namespace Sq
open PySem PySem.Spec PyProof.Rows L2
section
variable {X : Cx} {W : WF} {cm : Str → Addr} {K : PySem.W.Frag} {D : Ends} {h : Hs} {ρ : Env} {σ : L2.St}
def noXS : Res → Res
  | .exc _ _ _ => .bad
  | r => r
theorem Post.noX {r : Res} (q : Post K W D h (noXS r)) : Post K WN D h r := by
  cases r with
  | exc c p ρ => exact q.elim
  | _ => exact q
def tryS (f : SF) (m : Str → Option Bool) (g u : SF) : SF := fun ρ => match f ρ with
  | .next ρ' => u ρ'
  | .exc c p ρ' => match m c with
    | some true => noXS (g ρ')
    | some false => .exc c p ρ'
    | none => .bad
  | r => r
/-- which classes a clause takes -/
def mL (yes no : List Str) : Str → Option Bool := fun c => if c ∈ yes then some true else if c ∈ no then some false else none
theorem mL_yes {yes no : List Str} {c : Str} (e : mL yes no c = some true) : c ∈ yes := by
  unfold mL at e
  split at e
  · assumption
  · split at e <;> cases e
theorem fa_nil {α : Type} {P : α → Prop} : ∀ c ∈ ([] : List α), P c := fun _ h => nomatch h
theorem fa_cons {α : Type} {P : α → Prop} {x : α} {xs : List α} (h : P x) (t : ∀ c ∈ xs, P c) : ∀ c ∈ x :: xs, P c := fun c hc => by
  rcases List.mem_cons.mp hc with e | e
  · exact e ▸ h
  · exact t c e
theorem mL_exm {cm : Str → Addr} {yes no : List Str} {v : Value} (hy : ∀ c ∈ yes, PySem.W.exmOne K (.ref (cm c)) v = some true) (hn : ∀ c ∈ no, PySem.W.exmOne K (.ref (cm c)) v = some false) {c : Str} {b : Bool} (e : mL yes no c = some b) : PySem.W.exmOne K (.ref (cm c)) v = some b := by
  unfold mL at e
  split at e
  · cases e
    exact hy c (by assumption)
  · split at e
    · cases e
      exact hn c (by assumption)
    · cases e
/-- a caught exception, with or without its own data -/
theorem wfx_both {cm : Str → Addr} {Wx : WX} {c : Str} {p : Option (Str × PyData)} {σ : L2.St} {h : Hs} (q : ∀ d, Wx (.ref (cm c)) d σ h.H) : WFx K cm Wx c p σ h := by
  cases p with
  | none => exact q none
  | some p => exact fun d _ _ _ => q (some d)
theorem xtry {x : Str} {c : Value} {body suite orelse : List Stmt} {b₀ : Stmt} {np pos pos' : Pos} {f g u : SF} {yes no : List Str} (tk : Tk X cm W) (hs : X.stack = X.env :: X.outer) (hf : X.env.frame = some X.env.locals) (hc : Names X x c)
    (hy : ∀ d ∈ yes, PySem.W.exmOne X.K (.ref (cm d)) c = some true) (hn : ∀ d ∈ no, PySem.W.exmOne X.K (.ref (cm d)) c = some false)
    (hb : ∀ (Wx : WX) (pn : List (Addr × Obj)) (xe : Value → Shared → Prop), Tk (X.tr pn xe) cm (WFx X.K cm Wx) → PassesOwn (model X.prog X.w) X.A X.env xe → PSs (X.tr pn xe) body (tS X.K (WFx X.K cm Wx) f))
    (hsu : ∀ (a : Addr) (pn : List (Addr × Obj)), PSs (X.suite a pn) (b₀ :: suite) (tS X.K WN g))
    (ho : PSs X orelse (tS X.K W u)) : PS X (.Try body [.ExceptHandler (some (.Name x np)) none (b₀ :: suite) pos'] orelse [] pos) (tS X.K W (tryS f (mL yes no) g u)) := by
  obtain ⟨Wx, tk, hW⟩ := tk
  refine psTo (ps_try_onlyE (tb := fun Wx => tS X.K (WFx X.K cm Wx) f) (ts := fun _ _ _ => tS X.K WN g) ho hs hf hc tk (fun Wx pn xe tk hpo => hb Wx pn xe (tkOf tk) hpo) fun a oe cls d pn _ _ => hsu a _) fun D σ H ⟨h, ρ, e, R, q⟩ => ?_
  subst e
  refine ⟨h, ρ, rfl, R, ?_⟩
  unfold tryS at q
  cases ef : f ρ with
  | next ρ' =>
    rw [ef] at q
    exact fun σ' h' R' g' => ⟨h', ρ', rfl, R', Post.shift g' q⟩
  | ret r => rw [ef] at q; exact q
  | brk ρ' => rw [ef] at q; exact q
  | cont ρ' => rw [ef] at q; exact q
  | bad => rw [ef] at q; exact q.elim
  | exc d p ρ' =>
    rw [ef] at q
    intro σ' h' R' g'
    dsimp only at q
    cases em : mL yes no d with
    | none => rw [em] at q; exact q.elim
    | some b =>
      rw [em] at q
      have hx := mL_exm hy hn em
      cases b with
      | true => exact wfx_both fun dd => ⟨true, hx, fun _ a _ => ⟨h', ρ', rfl, R', (Post.shift g' q).noX⟩, fun z => nomatch z⟩
      | false =>
        have := hW _ _ _ _ (q σ' h' R' g')
        cases p with
        | none => exact ⟨false, hx, fun z => (nomatch z), fun _ => this⟩
        | some p => exact fun dd v e1 e2 => ⟨false, hx, fun z => (nomatch z), fun _ => this dd v e1 e2⟩
/-! with a name -/
theorem Rel.u {K : PySem.W.Frag} {h : Hs} {ρ : Env} {σ : L2.St} (R : Rel K h ρ σ) (i : Nat) (x : Option V) : Rel K h (ρ.set i .u) (σ.set i x) := by
  have at' : ∀ j t, (ρ.set i .u)[j]? = some t → (j = i ∧ t = .u) ∨ (j ≠ i ∧ ρ[j]? = some t) := fun j t e => by
    by_cases hj : i = j
    · subst hj
      rw [List.getElem?_set] at e
      simp only [if_true] at e
      split at e
      · cases e; exact .inl ⟨rfl, rfl⟩
      · cases e
    · rw [List.getElem?_set_ne hj] at e
      exact .inr ⟨Ne.symm hj, e⟩
  refine ⟨R.ch, by simp [R.len], fun j t y e1 e2 => ?_, fun j k t u l m hjk e1 e2 o1 o2 e3 e4 => ?_⟩
  · rcases at' j t e1 with ⟨rfl, rfl⟩ | ⟨hj, e⟩
    · trivial
    · rw [List.getElem?_set_ne (Ne.symm hj)] at e2
      exact R.at_ j t y e e2
  · rcases at' j t e1 with ⟨rfl, rfl⟩ | ⟨hj, e⟩
    · cases o1
    · rcases at' k u e2 with ⟨rfl, rfl⟩ | ⟨hk, e'⟩
      · cases o2
      · rw [List.getElem?_set_ne (Ne.symm hj)] at e3
        rw [List.getElem?_set_ne (Ne.symm hk)] at e4
        exact R.dis j k t u l m hjk e e' o1 o2 e3 e4
def wipeRes (i : Nat) : Res → Res
  | .next ρ' => .next (ρ'.set i .u)
  | .ret r => .ret r
  | _ => .bad
def tryAsS (f : SF) (m : Str → Option Bool) (i : Nat) (g : Str → SF) : SF := fun ρ => match f ρ with
  | .exc c none ρ' => match m c with
    | some true => if i < ρ'.length then wipeRes i (g c (ρ'.set i .u)) else .bad
    | some false => .exc c none ρ'
    | none => .bad
  | .exc c (some p) ρ' => match m c with
    | some false => .exc c (some p) ρ'
    | _ => .bad
  | r => r
/-- a suite that holds the exception a in slot i -/
def tSu (K : PySem.W.Frag) (i : Nat) (a : Addr) (f : SF) : TS := fun D σ H => σ[i]? = some (some (.ref a)) ∧ tS K WN f D σ H
theorem xtryAs {x n : Str} {i : Nat} {c : Value} {body suite : List Stmt} {b₀ : Stmt} {np pos pos' : Pos} {f : SF} {g : Str → SF} {yes no : List Str} (tk : Tk X cm W) (hs : X.stack = X.env :: X.outer) (hf : X.env.frame = some X.env.locals) (hN : X.N.Nodup) (hi : X.N[i]? = some n) (hln : X.env.kindOf n = some .local) (hc : Names X x c)
    (hy : ∀ d ∈ yes, PySem.W.exmOne X.K (.ref (cm d)) c = some true) (hn : ∀ d ∈ no, PySem.W.exmOne X.K (.ref (cm d)) c = some false)
    (hb : ∀ (Wx : WX) (pn : List (Addr × Obj)) (xe : Value → Shared → Prop), Tk (X.tr pn xe) cm (WFx X.K cm Wx) → PassesOwn (model X.prog X.w) X.A X.env xe → PSs (X.tr pn xe) body (tS X.K (WFx X.K cm Wx) f))
    (hsu : ∀ d ∈ yes, ∀ (a : Addr) (oe : Obj) (pn : List (Addr × Obj)), Zc (.ref (cm d)) none oe → (∃ vs, oe.data = .fields vs) → PSs (X.suite a ((a, oe) :: pn)) (b₀ :: suite) (tSu X.K i a (g d))) :
    PS X (.Try body [.ExceptHandler (some (.Name x np)) (some n) (b₀ :: suite) pos'] [] [] pos) (tS X.K W (tryAsS f (mL yes no) i g)) := by
  obtain ⟨Wx, tk, hW⟩ := tk
  refine psTo (ps_try_as (tb := fun Wx => tS X.K (WFx X.K cm Wx) f) (ts := fun a cls d => fun D σ H => ∃ e, e ∈ yes ∧ cls = .ref (cm e) ∧ d = none ∧ tSu X.K i a (g e) D σ H) hs hf hN hi hln hc tk (fun Wx pn xe tk hpo => hb Wx pn xe (tkOf tk) hpo) fun a oe cls d pn hz hfl => ⟨fun pins s σ H D I hw => ?_⟩) fun D σ H hq => ?_
  · obtain ⟨e, he, rfl, rfl, hw⟩ := hw
    exact (hsu e he a oe pn hz hfl).run pins s σ H D I hw
  obtain ⟨h, ρ, e, R, q⟩ := id hq
  subst e
  refine ⟨h, ρ, rfl, R, ?_⟩
  unfold tryAsS at q
  cases ef : f ρ with
  | next ρ' => rw [ef] at q; exact q
  | ret r => rw [ef] at q; exact q
  | brk ρ' => rw [ef] at q; exact q
  | cont ρ' => rw [ef] at q; exact q
  | bad => rw [ef] at q; exact q.elim
  | exc d p ρ' =>
    rw [ef] at q
    intro σ' h' R' g'
    cases p with
    | none =>
      dsimp only at q
      cases em : mL yes no d with
      | none => rw [em] at q; exact q.elim
      | some b =>
        rw [em] at q
        have hx := mL_exm hy hn em
        cases b with
        | false => exact ⟨false, hx, fun z => (nomatch z), fun _ => hW _ _ _ _ (q σ' h' R' g')⟩
        | true =>
          dsimp only at q
          split at q
          rotate_left
          · exact q.elim
          rename_i hlt
          rw [R'.len] at hlt
          refine ⟨true, hx, fun _ a _ => ⟨d, mL_yes em, rfl, rfl, ?_, h', ρ'.set i .u, rfl, R'.u i _, ?_⟩, fun z => nomatch z⟩
          · rw [List.getElem?_set_self hlt]
          · have q' := Post.shift g' q
            cases eg : g d (ρ'.set i .u) with
            | next ρ2 =>
              rw [eg] at q'
              exact fun σ2 h2 R2 g2 => q' _ h2 (R2.u i none) g2
            | ret r => rw [eg] at q'; exact q'
            | _ => rw [eg] at q'; exact q'.elim
    | some p =>
      dsimp only at q
      cases em : mL yes no d with
      | none => rw [em] at q; exact q.elim
      | some b =>
        rw [em] at q
        have hx := mL_exm hy hn em
        cases b with
        | true => exact q.elim
        | false =>
          have := hW _ _ _ _ (q σ' h' R' g')
          exact fun dd v e1 e2 => ⟨false, hx, fun z => (nomatch z), fun _ => this dd v e1 e2⟩
theorem kit_ref {K : PySem.W.Frag} {C : Addr} {t : Value} {b : Bool} (hdct : PySem.W.hasDictIn K C = true) (ht : PySem.W.typeIn K (.ref C) = some (.type "type")) (h4 : PySem.W.subIn K t (.ref C) = some b) (h5 : PySem.W.subIn K (.ref C) (.ref C) = some true) : PySem.W.kitOne K t (.ref C) = some b := by
  obtain ⟨cd, hc, _⟩ := PySem.W.any_some hdct
  have e2 : ((PySem.W.clsIn K C).isSome && PySem.W.typeIn K (.ref C) == some (.type "type")) = true := by rw [hc, ht] <;> rfl
  show (if (t == Value.ref C) = true then some true else (if ((PySem.W.clsIn K C).isSome && PySem.W.typeIn K (.ref C) == some (.type "type")) = true then PySem.W.subIn K t (.ref C) else none)) = some b
  rw [if_pos e2, h4]
  by_cases h : (t == Value.ref C) = true
  · rw [if_pos h]
    have := eq_of_beq h
    subst this
    rw [h5] at h4
    exact h4
  · rw [if_neg h]
theorem kit_tyb {K : PySem.W.Frag} {C : Addr} {T : String} {b : Bool} (hm : PySem.W.kitMeta T = true) (h4 : PySem.W.subIn K (.ref C) (.type T) = some b) : PySem.W.kitOne K (.ref C) (.type T) = some b := by
  show (if (Value.ref C == Value.type T) = true then some true else (if PySem.W.kitMeta T = true then PySem.W.subIn K (.ref C) (.type T) else none)) = some b
  rw [if_pos hm, h4]
  by_cases h : (Value.ref C == Value.type T) = true
  · exact absurd (eq_of_beq h) (fun z => nomatch z)
  · rw [if_neg h]
/-! what a suite says of its exception -/
def tEc (i : Nat) (a : Addr) (b : Bool) : TE := fun σ H Q => σ[i]? = some (some (.ref a)) ∧ Q (.bl b) H
section
variable {i : Nat} {a : Addr} {b c : Bool} {p pos px pT : Pos} {e e1 e2 : Expr} {rest : List Expr}
theorem xisE {D : Addr} {oe : Obj} {pn : List (Addr × Obj)} {x y : Str} {cv : V} {cu : Value} (C : ExcC X.K D) (hz : Zc (.ref D) none oe) (hf : ∃ vs, oe.data = .fields vs) (hg : Gl (X.suite a ((a, oe) :: pn)) "isinstance") (hm : X.mg "isinstance" = none) (he : PE (X.suite a ((a, oe) :: pn)) (.Name x px) (tVar i)) (hT : PE (X.suite a ((a, oe) :: pn)) (.Name y pT) (tC cv)) (hcv : ∀ u, RelV cv u → u = cu) (hk : PySem.W.kitOne X.K (.ref D) cu = some b)
    (hs : starEach [.Name x px, .Name y pT] X.env = (false, eval (.Name x px) X.env) :: starEach [.Name y pT] X.env := by rfl) (hs2 : starEach [.Name y pT] X.env = (false, eval (.Name y pT) X.env) :: starEach [] X.env := by rfl) :
    PE (X.suite a ((a, oe) :: pn)) (.Call (.Name "isinstance" p) [.Name x px, .Name y pT] [] pos) (tEc i a b) := by
  refine peTo (pe_callB (call_isE C hz hf) hg hm boot_isinstance (pa_cons he (pa_cons hT pa_nil hs2) hs) (he := hs) (hpl := by rw [hs2]; rfl)) fun σ H Q q => ?_
  exact ⟨_, q.1, cv, cu, b, rfl, hcv, hk, q.2⟩
theorem xEnot (h : PE X e (tEc i a b)) : PE X (.UnaryOp .Not e pos) (tEc i a (!b)) := peTo (pe_not h) fun σ H Q q => ⟨q.1, b, rfl, q.2⟩
theorem xEone {op} (h : PE X e (tEc i a b)) : PE X (.BoolOp op [e] pos) (tEc i a b) := pe_one h
theorem xEand (h1 : PE X e1 (tEc i a b)) (h2 : PE X (.BoolOp .And (e2 :: rest) pos) (tEc i a c)) : PE X (.BoolOp .And (e1 :: e2 :: rest) pos) (tEc i a (b && c)) := peTo (pe_and h1 h2) fun σ H Q q => by
  refine ⟨q.1, b, rfl, ?_⟩
  cases b with
  | true => exact q
  | false => exact q.2
theorem xEor (h1 : PE X e1 (tEc i a b)) (h2 : PE X (.BoolOp .Or (e2 :: rest) pos) (tEc i a c)) : PE X (.BoolOp .Or (e1 :: e2 :: rest) pos) (tEc i a (b || c)) := peTo (pe_or h1 h2) fun σ H Q q => by
  refine ⟨q.1, b, rfl, ?_⟩
  cases b with
  | true => exact q.2
  | false => exact q
theorem xEset {j : Nat} {x : Str} {pos' : Pos} (hN : X.N.Nodup) (h : PE X e (tEc i a b)) (hi : X.N[j]? = some x := by rfl) (hx : Loc X.env.scope x := by first | exact Or.inl rfl | exact Or.inr rfl) (hs : swapsWith e (some (.Name x pos')) pos.line X.env = pure false := by rfl)
    (hf : X.fn x = true ∨ X.env.scope.names.lookup x = some .local := by first | exact .inl rfl | exact .inr rfl | assumption) : PS X (.Assign [.Name x pos'] e pos) (tSu X.K i a (asgS (cF (.bool b)) (asgn j))) :=
  psTo (ps_set hN hi hx h hs hf) fun D σ H ⟨hσ, h, ρ, e, R, q⟩ => by
    subst e
    exact ⟨hσ, q _ h (asgn_ok R R (i := j) (r := .v (.bool b)) (.bl b) rfl) (SG.refl h)⟩
theorem xEblk {s : Stmt} {f : SF} (h : PS X s (tSu X.K i a f)) : PSs X [s] (tSu X.K i a f) := pss_one h
end
end
end Sq

/-! a, b = x, y. -/
namespace Sq
open PySem PySem.Spec PyProof.Rows L2
section
variable {X : Cx} {W : WF}
def parS (i j : Nat) (r : AF) : SF := fun ρ => match r ρ with
  | .ok [a, b] => liftE ρ ((asgn i a ρ).bind fun ρ' => asgn j b ρ')
  | .ok _ => .bad
  | .exc c p => .exc c p ρ
  | .bad => .bad
def par3S (i j l : Nat) (r : AF) : SF := fun ρ => match r ρ with
  | .ok [a, b, c] => liftE ρ ((asgn i a ρ).bind fun ρ' => (asgn j b ρ').bind fun ρ2 => asgn l c ρ2)
  | .ok _ => .bad
  | .exc c p => .exc c p ρ
  | .bad => .bad
theorem asgn_two {h : Hs} {ρ ρ' : Env} {σ : L2.St} {i : Nat} {r : Rv} {v : V} {K : PySem.W.Frag} (R : Rel K h ρ σ) (ok : RvF K h v r) (e : asgn i r ρ = .ok ρ') : Rel K h ρ' (σ.set i (some v)) := asgn_ok R R (ok.rv) e
theorem xpar {i j : Nat} {x y : Str} {a b : Expr} {r : AF} {px py pt pos : Pos} {kt k2 pt2} (hc : X.calm = true) (hN : X.N.Nodup) (ha : PA X [a, b] (tXa X.K W r)) (hij : i ≠ j) (hw : swappedStores [.Tuple [.Name x px, .Name y py] kt pt] (.Tuple [a, b] k2 pt2) X.env = pure (some [x, y])) (hi : X.N[i]? = some x := by rfl) (hj : X.N[j]? = some y := by rfl)
    (hx : X.env.scope.names.lookup x = some .local := by rfl) (hy : X.env.scope.names.lookup y = some .local := by rfl)
    (hs : swapsWithSole [.Tuple [.Name x px, .Name y py] kt pt] (.Tuple [a, b] k2 pt2) pos.line X.env = pure false := by rfl) :
    PS X (.Assign [.Tuple [.Name x px, .Name y py] kt pt] (.Tuple [a, b] k2 pt2) pos) (tS X.K W (parS i j r)) :=
  psTo (ps_par hc hN hi hj hij hx hy ha hw hs) fun D σ H ⟨h, ρ, e, R, q⟩ => by
    subst e
    refine ⟨h, ρ, rfl, R, ?_⟩
    unfold parS at q
    cases er : r ρ with
    | bad => rw [er] at q; exact q.elim
    | exc c p => rw [er] at q; exact fun h' R' g => q σ h' R' g.sg
    | ok rs =>
      rw [er] at q
      intro vs h' R' g ok
      match rs, vs, q, ok with
      | [ra, rb], [v, w], q, ok =>
        obtain ⟨oa, ob, _⟩ := ok
        refine ⟨v, w, rfl, ?_⟩
        dsimp only at q
        cases e1 : asgn i ra ρ with
        | bad => rw [e1] at q; exact q.elim
        | exc c p => exact absurd e1 (asgn_ne _ _ _ _)
        | ok ρ1 =>
          rw [e1] at q
          have R1 := asgn_two R' oa e1
          have q1 : Post X.K W D h (liftE ρ (asgn j rb ρ1)) := q
          cases e2 : asgn j rb ρ1 with
          | bad => rw [e2] at q1; exact q1.elim
          | exc c p => exact absurd e2 (asgn_ne _ _ _ _)
          | ok ρ2 =>
            rw [e2] at q1
            exact q1 _ h' (asgn_two R1 ob e2) g.sg
      | [], _, q, _ => exact q.elim
      | [_], _, q, _ => exact q.elim
      | _ :: _ :: _ :: _, _, q, _ => exact q.elim
      | [_, _], [], _, ok => exact ok.elim
      | [_, _], [_], _, ok => exact ok.2.elim
      | [_, _], _ :: _ :: _ :: _, _, ok => exact ok.2.2.elim
theorem xpar3 {i j l : Nat} {x y z : Str} {a b c : Expr} {r : AF} {px py pz pt pos : Pos} {kt k2 pt2} (hc : X.calm = true) (hN : X.N.Nodup) (ha : PA X [a, b, c] (tXa X.K W r)) (hij : i ≠ j) (hil : i ≠ l) (hjl : j ≠ l) (hw : swappedStores [.Tuple [.Name x px, .Name y py, .Name z pz] kt pt] (.Tuple [a, b, c] k2 pt2) X.env = pure (some [x, y, z])) (hi : X.N[i]? = some x := by rfl) (hj : X.N[j]? = some y := by rfl) (hl : X.N[l]? = some z := by rfl)
    (hx : X.env.scope.names.lookup x = some .local := by rfl) (hy : X.env.scope.names.lookup y = some .local := by rfl) (hz : X.env.scope.names.lookup z = some .local := by rfl)
    (hs : swapsWithSole [.Tuple [.Name x px, .Name y py, .Name z pz] kt pt] (.Tuple [a, b, c] k2 pt2) pos.line X.env = pure false := by rfl) :
    PS X (.Assign [.Tuple [.Name x px, .Name y py, .Name z pz] kt pt] (.Tuple [a, b, c] k2 pt2) pos) (tS X.K W (par3S i j l r)) :=
  psTo (ps_par3 hc hN hi hj hl hij hil hjl hx hy hz ha hw hs) fun D σ H ⟨h, ρ, e, R, q⟩ => by
    subst e
    refine ⟨h, ρ, rfl, R, ?_⟩
    unfold par3S at q
    cases er : r ρ with
    | bad => rw [er] at q; exact q.elim
    | exc c p => rw [er] at q; exact fun h' R' g => q σ h' R' g.sg
    | ok rs =>
      rw [er] at q
      intro vs h' R' g ok
      match rs, vs, q, ok with
      | [ra, rb, rc], [v, w, u], q, ok =>
        obtain ⟨oa, ob, oc, _⟩ := ok
        refine ⟨v, w, u, rfl, ?_⟩
        dsimp only at q
        cases e1 : asgn i ra ρ with
        | bad => rw [e1] at q; exact q.elim
        | exc c p => exact absurd e1 (asgn_ne _ _ _ _)
        | ok ρ1 =>
          rw [e1] at q
          have R1 := asgn_two R' oa e1
          have q1 : Post X.K W D h (liftE ρ ((asgn j rb ρ1).bind fun ρ2 => asgn l rc ρ2)) := q
          cases e2 : asgn j rb ρ1 with
          | bad => rw [e2] at q1; exact q1.elim
          | exc c p => exact absurd e2 (asgn_ne _ _ _ _)
          | ok ρ2 =>
            rw [e2] at q1
            have R2 := asgn_two R1 ob e2
            have q2 : Post X.K W D h (liftE ρ (asgn l rc ρ2)) := q1
            cases e3 : asgn l rc ρ2 with
            | bad => rw [e3] at q2; exact q2.elim
            | exc c p => exact absurd e3 (asgn_ne _ _ _ _)
            | ok ρ3 =>
              rw [e3] at q2
              exact q2 _ h' (asgn_two R2 oc e3) g.sg
      | [], _, q, _ => exact q.elim
      | [_], _, q, _ => exact q.elim
      | [_, _], _, q, _ => exact q.elim
      | _ :: _ :: _ :: _ :: _, _, q, _ => exact q.elim
      | [_, _, _], [], _, ok => exact ok.elim
      | [_, _, _], [_], _, ok => exact ok.2.elim
      | [_, _, _], [_, _], _, ok => exact ok.2.2.elim
      | [_, _, _], _ :: _ :: _ :: _ :: _, _, ok => exact ok.2.2.2.elim
end
end Sq

/-! zip of two, range of three. -/
namespace Sq
open PySem PySem.Spec PyProof.Rows L2
section
variable {K : PySem.W.Frag} {W : WF} {X : Cx} {a b e e2 : Expr} {tg : Expr} {f g : EF} {p pos : Pos} {P : Hs → Hs → Prop}
def zArg : Rv → Option (Bool × List Rv)
  | .v (.list xs) => some (true, xs.map .v)
  | .v (.tuple xs) => some (false, xs.map .v)
  | .b (.list xs) => some (true, xs.map .b)
  | .b (.tuple xs) => some (false, xs.map .b)
  | _ => none
def pairR : Rv → Rv → Option Rv
  | .v x, .v y => some (.v (.tuple [x, y]))
  | .b x, .b y => some (.b (.tuple [x, y]))
  | .v x, .b y => some (.b (.tuple [x, y]))
  | .b x, .v y => some (.b (.tuple [x, y]))
  | _, _ => none
def zipR : List Rv → List Rv → Option (List Rv)
  | r :: rs, s :: ss => match pairR r s, zipR rs ss with
    | some q, some qs => some (q :: qs)
    | _, _ => none
  | _, _ => some []
theorem zipR_cons {r s : Rv} {rs ss qs : List Rv} (e : zipR (r :: rs) (s :: ss) = some qs) : ∃ q qs', pairR r s = some q ∧ zipR rs ss = some qs' ∧ qs = q :: qs' := by
  unfold zipR at e
  split at e
  · rename_i q qs' h1 h2
    cases e
    exact ⟨q, qs', h1, h2, rfl⟩
  · cases e
theorem zipR_len : ∀ {rs ss qs : List Rv}, zipR rs ss = some qs → qs.length = min rs.length ss.length
  | [], _, _, e => by
    unfold zipR at e
    cases e
    simp
  | _ :: _, [], _, e => by
    unfold zipR at e
    cases e
    simp
  | r :: rs, s :: ss, qs, e => by
    obtain ⟨q, qs', h1, h2, rfl⟩ := zipR_cons e
    have := zipR_len h2
    simp [this]
theorem zipR_get : ∀ {rs ss qs : List Rv} {i : Nat} {r s : Rv}, zipR rs ss = some qs → rs[i]? = some r → ss[i]? = some s → ∃ q, qs[i]? = some q ∧ pairR r s = some q
  | [], _, _, _, _, _, _, e, _ => by simp at e
  | _ :: _, [], _, _, _, _, _, _, e => by simp at e
  | r' :: rs, s' :: ss, qs, 0, r, s, e, e1, e2 => by
    obtain ⟨q, qs', h1, h2, rfl⟩ := zipR_cons e
    have e1' : r' = r := by simpa using e1
    have e2' : s' = s := by simpa using e2
    subst e1' e2'
    exact ⟨q, rfl, h1⟩
  | r' :: rs, s' :: ss, qs, i + 1, r, s, e, e1, e2 => by
    obtain ⟨q, qs', h1, h2, rfl⟩ := zipR_cons e
    obtain ⟨q2, h3, h4⟩ := zipR_get (i := i) h2 (by simpa using e1) (by simpa using e2)
    exact ⟨q2, by simpa using h3, h4⟩
theorem zArg_ok {h : Hs} {v : V} {a : Rv} {k : Bool} {rs : List Rv} (e : zArg a = some (k, rs)) (ok : RvF K h v a) : ∃ p vs, v = .ref p ∧ (∀ h2, SG h h2 → Ch h2 → VsF K h2 vs rs) ∧ (k = true → ∀ h2, SG h h2 → Ch h2 → SqL K h2.H p vs) ∧ (k = false → ∀ h2, SG h h2 → Ch h2 → SqT K h2.H p vs) := by
  unfold zArg at e
  split at e
  · cases e
    obtain ⟨p, vs, rfl, s, d⟩ := dp_lst ok
    exact ⟨p, vs, rfl, fun h2 s2 c2 => vsf_map (mk := Rv.v) (fun _ _ q => q) (ex_dpa s2.g d), fun _ h2 s2 c2 => ex_l (s2.g.trans c2.gh) s, fun z => nomatch z⟩
  · cases e
    obtain ⟨p, vs, rfl, s, d⟩ := dp_tup ok
    exact ⟨p, vs, rfl, fun h2 s2 c2 => vsf_map (mk := Rv.v) (fun _ _ q => q) (ex_dpa s2.g d), fun z => (nomatch z), fun _ h2 s2 c2 => ex_t (s2.g.trans c2.gh) s⟩
  · cases e
    obtain ⟨p, vs, rfl, s, d⟩ := dp_lst ok
    exact ⟨p, vs, rfl, fun h2 s2 c2 => vsf_map (mk := Rv.b) (fun _ _ q => q) (ex_dpa s2.f d), fun _ h2 s2 c2 => ex_l (s2.f.trans c2.fh) s, fun z => nomatch z⟩
  · cases e
    obtain ⟨p, vs, rfl, s, d⟩ := dp_tup ok
    exact ⟨p, vs, rfl, fun h2 s2 c2 => vsf_map (mk := Rv.b) (fun _ _ q => q) (ex_dpa s2.f d), fun z => (nomatch z), fun _ h2 s2 c2 => ex_t (s2.f.trans c2.fh) s⟩
  · cases e
theorem pair_new2 {h : Hs} (c : Ch h) {T : Addr} {H' : Hp} (n : h.H T = none) {v w : V} {r s q : Rv} (o1 : RvF K h v r) (o2 : RvF K h w s) (hq : pairR r s = some q) (nt : NewT h.H T [v, w] H') :
    ∃ h', h'.H = H' ∧ Gr h h' ∧ Ch h' ∧ RvF K h' (.ref T) q := by
  obtain ⟨o, od, rfl⟩ := nt
  unfold pairR at hq
  split at hq
  · cases hq
    exact ⟨h.newV T (.frz o (.tup [v, w])), rfl, Gr.newV c n, c.newV, Dp.tup upd_same od (.cons (ex_dp (Ex.new (c.gN n)) o1) (.cons (ex_dp (Ex.new (c.gN n)) o2) .nil))⟩
  · cases hq
    exact ⟨h.newB T (.frz o (.tup [v, w])), rfl, Gr.newB c n, c.newB n, Dp.tup upd_same od (.cons (ex_dp (Ex.new (c.fN n)) o1) (.cons (ex_dp (Ex.new (c.fN n)) o2) .nil))⟩
  · cases hq
    exact ⟨h.newB T (.frz o (.tup [v, w])), rfl, Gr.newB c n, c.newB n, Dp.tup upd_same od (.cons (ex_dp (Ex.new (c.fN n)) (ex_dp c.gf o1)) (.cons (ex_dp (Ex.new (c.fN n)) o2) .nil))⟩
  · cases hq
    exact ⟨h.newB T (.frz o (.tup [v, w])), rfl, Gr.newB c n, c.newB n, Dp.tup upd_same od (.cons (ex_dp (Ex.new (c.fN n)) o1) (.cons (ex_dp (Ex.new (c.fN n)) (ex_dp c.gf o2)) .nil))⟩
  · cases hq
theorem itz_ok {h0 : Hs} {rs ss qs : List Rv} {a b : Addr} {vs ws : List V} (hq : zipR rs ss = some qs) (ha : ∀ h, P h0 h → Ch h → SqL K h.H a vs) (hb : ∀ h, P h0 h → Ch h → SqL K h.H b ws) (hv : ∀ h, P h0 h → Ch h → VsF K h vs rs) (hw : ∀ h, P h0 h → Ch h → VsF K h ws ss) : ItOk P K (ItzF K true a b) h0 qs where
  go := fun i h p c hi => by
    have hl := zipR_len hq
    have h1 := (hv h p c).len
    have h2 := (hw h p c).len
    have i1 : i < vs.length := by omega
    have i2 : i < ws.length := by omega
    exact ⟨vs, ws, vs[i], ws[i], ha h p c, hb h p c, List.getElem?_eq_getElem i1, List.getElem?_eq_getElem i2⟩
  stop := fun i h p c hi => by
    have hl := zipR_len hq
    have h1 := (hv h p c).len
    have h2 := (hw h p c).len
    exact ⟨vs, ws, ha h p c, hb h p c, by omega⟩
  yld := fun i h v H' p c hi y => by
    obtain ⟨T, x, y', rfl, n, nt, y1, y2⟩ := y
    obtain ⟨r, e1, o1⟩ := (hv h p c).get (y1 vs (ha h p c))
    obtain ⟨s, e2, o2⟩ := (hw h p c).get (y2 ws (hb h p c))
    obtain ⟨q, e3, e4⟩ := zipR_get hq e1 e2
    obtain ⟨h', eh, g, c', ok⟩ := pair_new2 c n o1 o2 e4 nt
    exact ⟨h', q, eh, g, c', e3, ok⟩
theorem itzt_ok {h0 : Hs} {rs ss qs : List Rv} {a b : Addr} {vs ws : List V} (hq : zipR rs ss = some qs) (ha : ∀ h, P h0 h → Ch h → SqT K h.H a vs) (hb : ∀ h, P h0 h → Ch h → SqT K h.H b ws) (hv : ∀ h, P h0 h → Ch h → VsF K h vs rs) (hw : ∀ h, P h0 h → Ch h → VsF K h ws ss) : ItOk P K (ItzF K false a b) h0 qs where
  go := fun i h p c hi => by
    have hl := zipR_len hq
    have h1 := (hv h p c).len
    have h2 := (hw h p c).len
    have i1 : i < vs.length := by omega
    have i2 : i < ws.length := by omega
    exact ⟨vs, ws, vs[i], ws[i], ha h p c, hb h p c, List.getElem?_eq_getElem i1, List.getElem?_eq_getElem i2⟩
  stop := fun i h p c hi => by
    have hl := zipR_len hq
    have h1 := (hv h p c).len
    have h2 := (hw h p c).len
    exact ⟨vs, ws, ha h p c, hb h p c, by omega⟩
  yld := fun i h v H' p c hi y => by
    obtain ⟨T, x, y', rfl, n, nt, y1, y2⟩ := y
    obtain ⟨r, e1, o1⟩ := (hv h p c).get (y1 vs (ha h p c))
    obtain ⟨s, e2, o2⟩ := (hw h p c).get (y2 ws (hb h p c))
    obtain ⟨q, e3, e4⟩ := zipR_get hq e1 e2
    obtain ⟨h', eh, g, c', ok⟩ := pair_new2 c n o1 o2 e4 nt
    exact ⟨h', q, eh, g, c', e3, ok⟩
def zipK (as : List Rv) : Er (List Rv) := match as with
  | [a, b] => match zArg a, zArg b with
    | some (k, rs), some (k', ss) => if k = k' then (match zipR rs ss with
      | some qs => .ok qs
      | none => .bad) else .bad
    | _, _ => .bad
  | _ => .bad
def zipF (r : AF) : IF := fun ρ => (r ρ).bind zipK
theorem xzip {elts : List Expr} {kk : Nat} {tpos : Pos} {r : AF} (hP : ∀ h h2, P h h2 → SG h h2) (hg : Gl X "zip") (hm : X.mg "zip" = none) (ha : PA X [e, e2] (tXa X.K W r))
    (hs : starEach [e, e2] X.env = (false, eval e X.env) :: starEach [e2] X.env := by rfl) (hpl : (backTo pos (starEach [e2] X.env)).any (·.1) = false := by rfl) :
    PI X (.Tuple elts kk tpos) (.Call (.Name "zip" p) [e, e2] [] pos) (tI P X.K W (zipF r)) := by
  refine piTo (pi_zipF hg hm ha hs hpl) fun σ H R q => ?_
  obtain ⟨h, ρ, rfl, Rl, q⟩ := q
  refine ⟨h, ρ, rfl, Rl, PI1.bindA q fun as vs h1 _ R1 g1 ok q1 => ?_⟩
  unfold zipK at q1
  split at q1
  rotate_left
  · exact q1.elim
  rename_i a b
  split at q1
  rotate_left
  · exact q1.elim
  rename_i k rs k' ss ea eb
  split at q1
  rotate_left
  · exact q1.elim
  rename_i ek
  subst ek
  split at q1
  rotate_left
  · exact q1.elim
  rename_i qs hq
  match vs, ok with
  | [v, w], ok =>
    obtain ⟨oa, ob, _⟩ := ok
    obtain ⟨pa, va, rfl, ha1, ha2, ha3⟩ := zArg_ok ea oa
    obtain ⟨pb, vb, rfl, hb1, hb2, hb3⟩ := zArg_ok eb ob
    refine ⟨pa, pb, va, vb, rfl, ?_⟩
    cases k with
    | true => exact .inl ⟨ha2 rfl h1 (SG.refl _) R1.ch, hb2 rfl h1 (SG.refl _) R1.ch, q1 _ h1 R1 (Gr.refl _) (itz_ok hq (fun h p => ha2 rfl h (hP _ _ p)) (fun h p => hb2 rfl h (hP _ _ p)) (fun h p => ha1 h (hP _ _ p)) (fun h p => hb1 h (hP _ _ p)))⟩
    | false => exact .inr ⟨ha3 rfl h1 (SG.refl _) R1.ch, hb3 rfl h1 (SG.refl _) R1.ch, q1 _ h1 R1 (Gr.refl _) (itzt_ok hq (fun h p => ha3 rfl h (hP _ _ p)) (fun h p => hb3 rfl h (hP _ _ p)) (fun h p => ha1 h (hP _ _ p)) (fun h p => hb1 h (hP _ _ p)))⟩
  | [], ok => exact ok.elim
  | [_], ok => exact ok.2.elim
  | _ :: _ :: _ :: _, ok => exact ok.2.2.elim
theorem xzipS {elts : List Expr} {kk : Nat} {tpos : Pos} {r : AF} (hg : Gl X "zip") (hm : X.mg "zip" = none) (ha : PA X [e, e2] (tXa X.K W r))
    (hs : starEach [e, e2] X.env = (false, eval e X.env) :: starEach [e2] X.env := by rfl) (hpl : (backTo pos (starEach [e2] X.env)).any (·.1) = false := by rfl) :
    PI X (.Tuple elts kk tpos) (.Call (.Name "zip" p) [e, e2] [] pos) (tI SG X.K W (zipF r)) := xzip (fun _ _ q => q) hg hm ha hs hpl
theorem xzipC {elts : List Expr} {kk : Nat} {tpos : Pos} {r : AF} (hg : Gl X "zip") (hm : X.mg "zip" = none) (ha : PA X [e, e2] (tXa X.K W r))
    (hs : starEach [e, e2] X.env = (false, eval e X.env) :: starEach [e2] X.env := by rfl) (hpl : (backTo pos (starEach [e2] X.env)).any (·.1) = false := by rfl) :
    PI X (.Tuple elts kk tpos) (.Call (.Name "zip" p) [e, e2] [] pos) (tI Gr X.K W (zipF r)) := xzip (fun _ _ q => q.sg) hg hm ha hs hpl
/-! range of three -/
def rgC (lo c : Int) (n : Nat) : List Rv := (List.range n).map fun i : Nat => .v (.int (lo + (i : Nat) * c))
def rg3K (as : List Rv) : Er (List Rv) := match as with
  | [.v (.int i), .v (.int j), .v (.int c)] => if c ≠ 0 ∧ c.natAbs < 1073741824 ∧ Builtin.Range.small i j c = true then .ok (rgC i c (Builtin.Range.rangeSize i j c).toNat) else .bad
  | _ => .bad
def rg3F (r : AF) : IF := fun ρ => (r ρ).bind rg3K
theorem itc_ok {h0 : Hs} {lo c : Int} {n : Nat} : ItOk P K (Itc lo c n) h0 (rgC lo c n) where
  go := fun i h p _ hi => by
    have hi2 : i < n := by simpa [rgC] using hi
    exact hi2
  stop := fun i h p _ hi => by
    have : n ≤ i := by simpa [rgC] using hi
    exact this
  yld := fun i h v H' p ch hi y => by
    obtain ⟨e1, e2⟩ := y
    subst e1 e2
    have hi2 : i < n := by simpa [rgC] using hi
    refine ⟨h, .v (.int (lo + (i : Nat) * c)), rfl, Gr.refl h, ch, ?_, .int _⟩
    unfold rgC
    rw [List.getElem?_map, List.getElem?_range hi2]
    rfl
theorem xrg3 {a b c : Expr} {r : AF} (hg : Gl X "range") (hm : X.mg "range" = none) (ha : PA X [a, b, c] (tXa X.K W r))
    (hs : starEach [a, b, c] X.env = (false, eval a X.env) :: starEach [b, c] X.env := by rfl) (hpl : (backTo pos (starEach [b, c] X.env)).any (·.1) = false := by rfl) :
    PI X tg (.Call (.Name "range" p) [a, b, c] [] pos) (tI P X.K W (rg3F r)) := by
  refine piTo (pi_range3 hg hm ha hs hpl) fun σ H R q => ?_
  obtain ⟨h, ρ, rfl, Rl, q⟩ := q
  refine ⟨h, ρ, rfl, Rl, PI1.bindA q fun as vs h1 _ R1 g1 ok q1 => ?_⟩
  unfold rg3K at q1
  split at q1
  rotate_left
  · exact q1.elim
  rename_i i j c' _
  split at q1
  rotate_left
  · exact q1.elim
  rename_i hc
  match vs, ok with
  | [v, w, u], ok =>
    obtain ⟨o1, o2, o3, _⟩ := ok
    have e1 := dp_int o1
    have e2 := dp_int o2
    have e3 := dp_int o3
    subst e1 e2 e3
    exact ⟨i, j, c', _, rfl, ⟨hc.1, hc.2.1, hc.2.2, rangeSize_toNat i j c'⟩, q1 _ h1 R1 (Gr.refl _) itc_ok⟩
  | [], ok => exact ok.elim
  | [_], ok => exact ok.2.elim
  | [_, _], ok => exact ok.2.2.elim
  | _ :: _ :: _ :: _ :: _, ok => exact ok.2.2.2.elim
end
end Sq

/-! l.extend(m), m a list of any kind. -/
namespace Sq
open PySem PySem.Spec PyProof.Rows L2
theorem ext_any (l : Addr) (items : Array Value) (n : Nat) (b : Addr) (its : Array Value) (m : Nat) (sl : Array (Option Value)) (h0 : ¬(!items.isEmpty && Builtin.List.listTooLong (items.size + its.size)) = true) (h1 : items.size ≤ sizeLine) (h2 : items.size + its.size ≤ sizeLine + 1) :
    Meets (Builtin.«list.extend» ⟨[.ref l, .ref b], []⟩) (fun _ R s => s.heap.get? l = some { cls := .type "list", dict := none, data := .seq items n, slots := #[] } ∧ s.heap.get? b = some { cls := .type "list", dict := none, data := .seq its m, slots := sl } ∧ R (.ok (.ret Value.none)) { s with heap := s.heap.update l (Obj.mapSeq fun x => x ++ its), toks := s.toks }) :=
  .of_wp fun prog w A R s h => by
    obtain ⟨hp, g, d, tk, os⟩ := s
    obtain ⟨hl, hb, h⟩ := h
    have f1 := sub_list_list
    have f2 := sub_list_tuple
    have hz' : (items ++ its).size ≤ sizeLine + 1 := by rw [Array.size_append]; exact h2
    wp_walk using (wpAny_updateSeq hl rfl (hz := h1) (_hz' := hz')), wpAny_loadPart' hl, wpAny_loadPart' hb
    exact ⟨_, rfl, h⟩

def rExtA (K : PySem.W.Frag) : V → List V → Hp → VK → Prop := fun x vs H Q => ∃ l b xs zs, x = .ref l ∧ vs = [.ref b] ∧ H l = some (.lst xs) ∧ SqL K H b zs ∧ xs.length + zs.length ≤ sizeLine ∧ Q .non (upd H l (.lst (xs ++ zs)))
theorem mt_extA {X : Cx} : MtM X "list.extend" (rExtA X.K) := by
  intro pins s σ H x vs v us Q I rx rv h
  obtain ⟨l, b, xs, zs, rfl, rfl, hH, hB, hz, q⟩ := h
  cases rx
  obtain ⟨u, rfl, ru⟩ := rv.one
  cases ru
  obtain ⟨z, its, n, r, hl, e⟩ := I.lstM hH
  obtain ⟨its2, r2, p2, z2⟩ := I.list hB
  obtain ⟨o, n2, e2, hc, hd, hs⟩ := p2
  obtain ⟨oc, od, oda, osl⟩ := o
  dsimp only at hc hd hs
  subst hc hd hs
  have hl2 := r2.length
  have hsz : its.toArray.size + its2.toArray.size ≤ sizeLine := by rw [List.size_toArray, List.size_toArray]; omega
  have hlong : ¬ (!its.toArray.isEmpty && Builtin.List.listTooLong (its.toArray.size + its2.toArray.size)) = true := by
    rw [notLongL hsz, Bool.and_false]
    exact Bool.false_ne_true
  refine call_meets F.slot_list_extend ⟨_, e, rfl⟩ F.entry_list_extend (F.args_list_extend_2 _ _)
    (ext_any l its.toArray n b its2.toArray n2 osl hlong (by rw [List.size_toArray]; omega) (by omega)) ⟨e, e2, ?_⟩
  refine ⟨.non, _, I.lset (its' := its ++ its2) hH e (by simp) (r.append r2) ?_, rfl, q⟩
  rw [List.length_append]
  omega
section
variable {X : Cx} {W : WF}
/-- l.extend(e), l a local -/
def extS (i : Nat) (f : EF) : SF := fun ρ => match slot ρ i with
  | .o xs => thenS ρ (f ρ) fun r => match r with
    | .v (.list ys) => if xs.length + ys.length ≤ 100000 then .next (ρ.set i (.o (xs ++ ys))) else .bad
    | .w ys => if xs.length + ys.length ≤ 100000 then .next (ρ.set i (.o (xs ++ ys))) else .bad
    | .o ys => if xs.length + ys.length ≤ 100000 then .next (ρ.set i (.o (xs ++ ys))) else .bad
    | _ => .bad
  | _ => .bad
theorem ext_go {K : PySem.W.Frag} {D : Ends} {h : Hs} {ρ : Env} {σ : L2.St} {h' : Hs} {i : Nat} {xs ys : List PyData} (R' : Rel K h' ρ σ) (es : slot ρ i = .o xs) {p l : Addr} {ws : List V} (ex : σ[i]? = some (some (.ref l))) (s : SqL K h'.H p ws) (d : DpAll K h'.G ws ys) (g : SG h h')
    (q : Post K W D h (if xs.length + ys.length ≤ 100000 then .next (ρ.set i (.o (xs ++ ys))) else .bad)) :
    ∃ l' b xs' zs, (V.ref l) = .ref l' ∧ [V.ref p] = [.ref b] ∧ h'.H l' = some (.lst xs') ∧ SqL K h'.H b zs ∧ xs'.length + zs.length ≤ sizeLine ∧ D.nx σ (upd h'.H l' (.lst (xs' ++ zs))) := by
  split at q
  · rename_i hle
    obtain ⟨l2, vs2, ex2, hl2, hd2, hlen2, mt⟩ := mut_now R' es
    rw [ex] at ex2
    cases ex2
    obtain ⟨R3, g3⟩ := mt (vs2 ++ ws) (xs ++ ys) (hd2.append d)
    have := d.len
    exact ⟨l, p, vs2, ws, rfl, rfl, hl2, s, by rw [hlen2, this]; exact Nat.le_trans hle (by decide), q σ _ R3 (g.trans g3)⟩
  · exact q.elim
theorem xext (i : Nat) {e o : Expr} {f : EF} {pos apos spos : Pos} (he : PE X (.Call (.Attribute o "extend" apos) [e] [] pos) (tBM X.K "list" (rExtA X.K) (tVar i) (tCons (tX X.K W f) tNil))) (hs : swapsWith (.Call (.Attribute o "extend" apos) [e] [] pos) none spos.line X.env = pure false := by rfl) :
    PS X (.Expr (.Call (.Attribute o "extend" apos) [e] [] pos) spos) (tS X.K W (extS i f)) := by
  refine psTo (ps_expr he hs) fun D σ H ⟨h, ρ, eh, R, q⟩ => ?_
  subst eh
  unfold extS at q
  split at q
  · rename_i xs es
    obtain ⟨l, vs, ex, hl, hd, hlen, _⟩ := mut_now R es
    refine ⟨.ref l, ex, .inl ⟨rfl, vs, .of hl⟩, ?_⟩
    refine (tX_mk (f := f) R (q.then fun r v h' _ R' g' ok q' => ?_) : tX X.K W f σ h.H _)
    split at q'
    · obtain ⟨p, ws, rfl, s, d⟩ := dp_lst ok
      exact ext_go R' es ex (ex_l R'.ch.gh s) d g'.sg q'
    · obtain ⟨p, ws, rfl, s, d⟩ := ok
      exact ext_go R' es ex (.inl (.of s)) d g'.sg q'
    · obtain ⟨p, ws, rfl, n, s, fl, d⟩ := ok
      exact ext_go R' es ex (.inl (.of s)) d g'.sg q'
    · exact q'.elim
  · exact q.elim
end
end Sq

/-! [x] * n; a text walked. -/
namespace Sq
open PySem PySem.Spec PyProof.Rows L2
section
variable {X : Cx} {W : WF} {K : PySem.W.Frag} {a b e : Expr} {f g : EF} {pos : Pos} {P : Hs → Hs → Prop} {tg : Expr}
def lrep (a b : Rv) : Er Rv := match a.lst, b.dat with
  | some xs, some (.int k) => if -(2 ^ 63) ≤ k ∧ k < 2 ^ 63 ∧ xs.length * k.toNat ≤ 100000 then .ok (.o (List.replicate k.toNat xs).flatten) else .bad
  | _, _ => .bad
theorem dpa_app {H : Hp} : ∀ {vs ws : List V} {ds es : List D}, DpAll K H vs ds → DpAll K H ws es → DpAll K H (vs ++ ws) (ds ++ es)
  | _, _, _, _, .nil, q => q
  | _, _, _, _, .cons a t, q => .cons a (dpa_app t q)
theorem dpa_rep {H : Hp} {vs : List V} {ds : List D} (h : DpAll K H vs ds) : ∀ n : Nat, DpAll K H (List.replicate n vs).flatten (List.replicate n ds).flatten
  | 0 => .nil
  | n + 1 => by
    rw [List.replicate_succ, List.replicate_succ, List.flatten_cons, List.flatten_cons]
    exact dpa_app h (dpa_rep h n)
theorem ok_lrep : OpOk K W lrep rRep := by
  intro h0 h ρ σ x y a b Q R0 R g oka okb q
  unfold lrep at q
  split at q
  · rename_i xs k ea eb
    split at q
    · rename_i hk
      obtain ⟨l, vs, rfl, hl, d⟩ := RvOk.lst ea oka
      have ev := dp_int (okb.dp R.ch eb)
      subst ev
      refine ⟨l, k, vs, rfl, rfl, hl, hk.1, hk.2.1, by rw [d.len]; exact Nat.le_trans hk.2.2 (by decide), fun p hp => q.newL R (dpa_rep d _) hp⟩
    · exact q.elim
  · exact q.elim
theorem xrep (ha : PE X a (tX X.K W f)) (hb : PE X b (tX X.K W g)) : PE X (.BinOp a .Mult b pos) (tX X.K W (binF lrep f g)) := peTo (pe_op op_rep ha hb) (bin_of ok_lrep)
/-! a text walked -/
def chars (s : Str) : List Rv := s.cps.toList.map fun c => .v (.str ⟨#[c]⟩)
def itT (a : Rv) : Er (List Rv) := match a.dat with
  | some (.str s) => .ok (chars s)
  | _ => .bad
theorem its_ok {h0 : Hs} {s : Str} : ItOk P K (Its s) h0 (chars s) where
  go := fun i h p c hi => by
    have : i < s.cps.size := by simpa [chars] using hi
    exact this
  stop := fun i h p c hi => by
    have : s.cps.size ≤ i := by simpa [chars] using hi
    exact this
  yld := fun i h v H' p c hi y => by
    obtain ⟨e1, ch, e2, e3⟩ := y
    subst e1 e3
    refine ⟨h, .v (.str ⟨#[ch]⟩), rfl, Gr.refl h, c, ?_, .str _⟩
    unfold chars
    rw [List.getElem?_map, Array.getElem?_toList, e2]
    rfl
theorem xiT (he : PE X e (tX X.K W f)) : PI X tg e (tI P X.K W (itF itT f)) := by
  refine piTo (pi_str he) fun σ H R q => ?_
  obtain ⟨h, ρ, rfl, Rl, q⟩ := q
  refine tX_mk Rl (PI1.bindE q fun a v h1 _ R1 g1 ok1 q1 => ?_)
  unfold itT at q1
  split at q1
  · rename_i s ea
    have d := ok1.dp R1.ch ea
    cases d
    exact ⟨s, rfl, q1 _ h1 R1 (Gr.refl _) its_ok⟩
  · exact q1.elim
theorem itT_ne {a : Rv} {c : Str} {p : Option (Str × PyData)} : itT a ≠ .exc c p := by
  intro e
  unfold itT at e
  split at e <;> cases e
end
end Sq

/-! {k: v, ..}. -/
namespace Sq
open PySem PySem.Spec PyProof.Rows L2
section
variable {X : Cx} {W : WF} {K : PySem.W.Frag} {f g : EF} {r : AF}
theorem PE1.mono {h : Hs} {ρ : Env} {σ : L2.St} {Q Q' : VK} (k : ∀ v H, Q v H → Q' v H) : ∀ {e : Er Rv}, PE1 K W h ρ σ Q e → PE1 K W h ρ σ Q' e
  | .ok r, q => fun v h' R g ok => k _ _ (q v h' R g ok)
  | .exc c p, q => q
  | .bad, q => q
theorem tX_mono {σ : L2.St} {H : Hp} {Q Q' : VK} (k : ∀ v H, Q v H → Q' v H) (q : tX K W f σ H Q) : tX K W f σ H Q' := by
  obtain ⟨h, ρ, rfl, R, q⟩ := tX_iff.mp q
  exact tX_mk R (q.mono k)
theorem tXa_mono {σ : L2.St} {H : Hp} {Q Q' : List V → Hp → Prop} (k : ∀ v H, Q v H → Q' v H) (q : tXa K W r σ H Q) : tXa K W r σ H Q' := by
  obtain ⟨h, ρ, rfl, R, q⟩ := q
  refine ⟨h, ρ, rfl, R, ?_⟩
  cases er : r ρ with
  | ok rs => rw [er] at q; exact fun v h' R g ok => k _ _ (q v h' R g ok)
  | exc c p => rw [er] at q; exact q
  | bad => rw [er] at q; exact q
theorem acons_of {σ : L2.St} {H : Hp} {Q : List V → Hp → Prop} (q : tXa K W (aCons f r) σ H Q) : tX K W f σ H fun v H1 => tXa K W r σ H1 fun vs H2 => Q (v :: vs) H2 := by
  obtain ⟨h, ρ, rfl, R, q⟩ := q
  refine tX_mk R (PA1.bindE q fun a v h1 _ R1 g1 ok1 q1 => ?_)
  cases ez : a.frz with
  | exc c p => exact absurd ez frz_ne
  | bad => rw [ez] at q1; exact q1.elim
  | ok a' =>
    rw [ez] at q1
    obtain ⟨h2, eh, R2, g2, ok2⟩ := frz_ok R R1 g1 ez ok1
    rw [← eh]
    have q2 : PA1 K W h2 ρ σ Q ((r ρ).bind fun as => .ok (a' :: as)) := by
      have q0 : PA1 K W h ρ σ Q ((r ρ).bind fun as => .ok (a' :: as)) := by
        have e0 : aCons f r ρ = (r ρ).bind fun as => .ok (a' :: as) := by
          unfold aCons
          rw [show f ρ = .ok a by assumption]
          show (a.frz.bind _) = _
          rw [ez]
          rfl
        rw [e0] at q
        exact q
      exact PA1.shift g2 q0
    refine ⟨h2, ρ, rfl, R2, PA1.bindA q2 fun as vs h3 _ R3 g3 ok3 q3 => ?_⟩
    exact q3 _ h3 R3 (Gr.refl _) ⟨(RvF.of ez ok2).grow g3, ok3⟩
def flatA : List (EF × EF) → AF
  | [] => aNil
  | (f, g) :: r => aCons f (aCons g (flatA r))
def flatV : List (V × V) → List V
  | [] => []
  | (x, y) :: r => x :: y :: flatV r
theorem pairs_of : ∀ (fs : List (EF × EF)) (σ : L2.St) (H : Hp) (Q : List (V × V) → Hp → Prop), tXa K W (flatA fs) σ H (fun vs H' => ∃ ps, vs = flatV ps ∧ Q ps H') → tPairs (fs.map fun f => (tX K W f.1, tX K W f.2)) σ H Q
  | [], σ, H, Q, q => by
    obtain ⟨h, ρ, rfl, R, q⟩ := q
    obtain ⟨ps, e, q⟩ := q [] h R (Gr.refl _) trivial
    cases ps with
    | nil => exact q
    | cons p ps => cases e
  | (f, g) :: r, σ, H, Q, q => by
    refine tX_mono (fun x H1 q1 => ?_) (acons_of q)
    refine tX_mono (fun y H2 q2 => ?_) (acons_of q1)
    refine pairs_of r σ H2 _ (tXa_mono (fun vs H3 q3 => ?_) q2)
    obtain ⟨ps, e, q3⟩ := q3
    cases ps with
    | nil => cases e
    | cons p ps =>
      obtain ⟨a, b⟩ := p
      cases e
      exact ⟨ps, rfl, q3⟩
def dispK : List Rv → Option (List (Key × PyData))
  | [] => some []
  | a :: .v d :: rs => match a.dat.bind keyD, dispK rs with
    | some k, some m => some ((k, d) :: m)
    | _, _ => none
  | _ => none
def mergeD (m more : List (Key × PyData)) : List (Key × PyData) := more.foldl (fun acc kv => setK acc kv.1 kv.2) m
def dispF (r : AF) : EF := fun ρ => (r ρ).bind fun rs => match dispK rs with
  | some m => if m.length ≤ 15 then .ok (.ok (mergeD [] m)) else .bad
  | none => .bad
theorem disp_vals {h : Hs} (c : Ch h) : ∀ {rs : List Rv} {vs : List V} {m : List (Key × PyData)}, dispK rs = some m → RvsOk K h vs rs → ∃ kvs : List (Key × V), vs = flatV (kvs.map fun kv => (kV kv.1, kv.2)) ∧ KvD K h.G kvs m
  | [], [], m, e, _ => by
    cases e
    exact ⟨[], rfl, .nil⟩
  | [], _ :: _, _, _, q => q.elim
  | [_], _, _, e, _ => by cases e
  | a :: b :: rs, vs, m, e, q => by
    unfold dispK at e
    split at e
    · cases ‹_ = []›
    · rename_i a' d rs' e0
      injection e0 with e1 e2
      injection e2 with e2 e3
      subst e1 e2 e3
      split at e
      · rename_i k m' e1 e2
        cases e
        match vs, q with
        | x :: y :: vs, ⟨q1, q2, q3⟩ =>
          obtain ⟨kvs, e3, kd⟩ := disp_vals c e2 q3
          obtain ⟨dk, ed, ek⟩ := Option.bind_eq_some_iff.mp e1
          have hk := keyD_v ek ((q1.rv (H0 := h.H)).dp c ed)
          subst hk e3
          exact ⟨(k, y) :: kvs, rfl, .cons ⟨rfl, q2⟩ kd⟩
        | [_], ⟨_, q⟩ => exact q.elim
        | [], q => exact q.elim
      · cases e
    · cases e
theorem KvD.merge {G : Hp} : ∀ {more : List (Key × V)} {mored : List (Key × PyData)} {l : List (Key × V)} {m : List (Key × PyData)}, KvD K G more mored → KvD K G l m → KvD K G (mergeK l more) (mergeD m mored)
  | _, _, _, _, .nil, q => q
  | _, _, _, _, .cons (a := p) (b := p') e t, q => by
    have := q.set p.1 e.2
    rw [e.1] at this
    have r := KvD.merge t this
    show KvD K G (mergeK (putK _ p.1 p.2) _) _
    rw [e.1]
    exact r
/-- a new own dict is filled -/
theorem Rel.fill {h0 h2 : Hs} {ρ : Env} {σ : L2.St} {p : Addr} {o o' : HO} (R0 : Rel K h0 ρ σ) (n : h0.H p = none) (R : Rel K h2 ρ σ) (g : Gr (h0.newO p o) h2) : Rel K ⟨h2.G, h2.F, upd h2.H p o'⟩ ρ σ ∧ Gr h0 ⟨h2.G, h2.F, upd h2.H p o'⟩ ∧ h2.F p = none := by
  have hf : h2.F p = none := by
    cases e : h2.F p with
    | none => rfl
    | some u =>
      have := g.fn p u e (R0.ch.fN n)
      have h1 : (h0.newO p o).H p = some o := upd_same
      rw [h1] at this
      cases this
  have ne : ∀ a u, h0.H a = some u → a ≠ p := fun a u e z => by subst z; rw [n] at e; cases e
  have old : ∀ a u, h0.H a = some u → h2.H a = some u := fun a u e => g.x a u (by
    show upd h0.H p o a = some u
    rw [upd_ne (ne a u e)]
    exact e)
  refine ⟨⟨⟨R.ch.gf, Ex.mut R.ch.fh hf⟩, R.len, fun i s x e1 e2 => ?_, R.dis⟩, ⟨g.g, g.f, fun a u e => ?_, g.gn, fun a u e z => ?_⟩, hf⟩
  · have q := R.at_ i s x e1 e2
    cases s with
    | u => trivial
    | x a => exact q
    | v d => exact q
    | b d => exact q
    | o xs =>
      obtain ⟨l, vs, z, a, b, d⟩ := q
      subst z
      obtain ⟨⟨u, hu⟩, _⟩ := R0.ownH e1 rfl e2
      exact ⟨l, vs, rfl, (upd_ne (ne l u hu)).trans a, b, d⟩
    | k kvs =>
      obtain ⟨l, vs, z, a, b, d⟩ := q
      subst z
      obtain ⟨⟨u, hu⟩, _⟩ := R0.ownH e1 rfl e2
      exact ⟨l, vs, rfl, (upd_ne (ne l u hu)).trans a, b, d⟩
    | t kvs =>
      obtain ⟨l, vs, z, a, b, d⟩ := q
      subst z
      obtain ⟨⟨u, hu⟩, _⟩ := R0.ownH e1 rfl e2
      exact ⟨l, vs, rfl, (upd_ne (ne l u hu)).trans a, b, d⟩
    | n kvs =>
      obtain ⟨l, vs, z, a, b, d⟩ := q
      subst z
      obtain ⟨⟨u, hu⟩, _⟩ := R0.ownH e1 rfl e2
      exact ⟨l, vs, rfl, (upd_ne (ne l u hu)).trans a, b, d⟩
    | i c fs =>
      obtain ⟨l, vs, dx, z, a, b, d⟩ := q
      subst z
      obtain ⟨⟨u, hu⟩, _⟩ := R0.ownH e1 rfl e2
      exact ⟨l, vs, dx, rfl, (upd_ne (ne l u hu)).trans a, b, d⟩
    | y fs =>
      obtain ⟨l, vs, z, a, b, d⟩ := q
      subst z
      obtain ⟨⟨u, hu⟩, _⟩ := R0.ownH e1 rfl e2
      exact ⟨l, vs, rfl, (upd_ne (ne l u hu)).trans a, b, d⟩
    | z m fs => exact q
    | e fs => exact q
    | j l c fs =>
      obtain ⟨vs, dx, z, a, b, d⟩ := q
      subst z
      obtain ⟨⟨u, hu⟩, _⟩ := R0.ownH e1 rfl e2
      exact ⟨vs, dx, rfl, (upd_ne (ne l u hu)).trans a, b, d⟩
  · show upd h2.H p o' a = some u
    rw [upd_ne (ne a u e)]
    exact old a u e
  · have := g.fn a u e z
    cases q : h0.H a with
    | none => rfl
    | some t =>
      have h1 : (h0.newO p o).H a = some t := by
        show upd h0.H p o a = some t
        rw [upd_ne (ne a t q)]
        exact q
      rw [h1] at this
      cases this
theorem xdisp {pos : Pos} {keys : List (Option Expr)} {values : List Expr} (fs : List (EF × EF)) (hp : PPs X pos keys values (fs.map fun f => (tX X.K W f.1, tX X.K W f.2))) (h0 : keys ≠ []) (hall : keys.all (·.isSome) = true := by rfl) (hl : keys.length = values.length := by rfl)
    (h15 : keys.length ≤ 15 := by decide) : PE X (.Dict keys values pos) (tX X.K W (dispF (flatA fs))) := by
  refine peTo (pe_disp hp hall hl h0 h15) fun σ H Q q => ?_
  obtain ⟨h, ρ, rfl, R, q⟩ := tX_iff.mp q
  intro p hn
  have R1 := R.newO (o := .dK []) hn
  refine pairs_of fs σ _ _ ⟨h.newO p (.dK []), ρ, rfl, R1, ?_⟩
  unfold dispF at q
  cases er : flatA fs ρ with
  | bad => rw [er] at q; exact q.elim
  | exc c e => rw [er] at q; exact fun h' R' g => q h' R' ((Gr.newO R.ch hn).trans g)
  | ok rs =>
    rw [er] at q
    have q : PE1 X.K W h ρ σ Q (match dispK rs with
      | some m => if m.length ≤ 15 then .ok (.ok (mergeD [] m)) else .bad
      | none => .bad) := q
    intro vs h2 R2 g ok
    split at q
    · rename_i m em
      split at q
      · rename_i hm
        obtain ⟨kvs, rfl, kd⟩ := disp_vals R2.ch em ok
        obtain ⟨R3, g3, hf⟩ := Rel.fill (o' := .dK (mergeK [] kvs)) R hn R2 g
        refine ⟨_, rfl, g.x p _ upd_same, kvs, rfl, by rw [kd.len]; exact hm, ?_⟩
        exact q (.ref p) _ R3 g3 ⟨p, mergeK [] kvs, rfl, hn, upd_same, hf, kd.merge .nil⟩
      · exact q.elim
    · exact q.elim
end
end Sq

/-! Data in order: min, sorted, <=, in, of nested data. -/
namespace Sq
open PySem PySem.Spec PyProof.Rows L2 PySem.W
theorem hu2_of {A : Around} {k : Nat} (hr : Room k A) : A.units + 80 < cLine := by have := hr.un; omega
/-! one of two ways -/
section
variable {X : Cx} {K : PySem.W.Frag} {W : WF}
theorem bin_alt {φ ψ : Rv → Rv → Er Rv} {f g : EF} (ρ : Env) : binF (alt φ ψ) f g ρ = binF φ f g ρ ∨ binF (alt φ ψ) f g ρ = binF ψ f g ρ := by
  unfold binF
  cases f ρ with
  | bad => exact .inl rfl
  | exc c p => exact .inl rfl
  | ok a =>
    show ((g ρ).bind fun b => alt φ ψ a b) = ((g ρ).bind fun b => φ a b) ∨ ((g ρ).bind fun b => alt φ ψ a b) = ((g ρ).bind fun b => ψ a b)
    cases g ρ with
    | bad => exact .inl rfl
    | exc c p => exact .inl rfl
    | ok b =>
      show alt φ ψ a b = φ a b ∨ alt φ ψ a b = ψ a b
      unfold Sq.alt
      cases φ a b with
      | ok r => exact .inl rfl
      | exc c p => exact .inl rfl
      | bad => exact .inr rfl
theorem tX_alt {φ ψ : Rv → Rv → Er Rv} {f g : EF} : ∀ σ H Q, tX K W (binF (alt φ ψ) f g) σ H Q → tX K W (binF φ f g) σ H Q ∨ tX K W (binF ψ f g) σ H Q := by
  intro σ H Q q
  obtain ⟨h, ρ, rfl, R, q⟩ := tX_iff.mp q
  rcases bin_alt (φ := φ) (ψ := ψ) (f := f) (g := g) ρ with e | e
  · rw [e] at q
    exact .inl (tX_mk R q)
  · rw [e] at q
    exact .inr (tX_mk R q)
theorem tXt_alt {φ ψ : Rv → Rv → Er Rv} {f g : EF} : ∀ σ H Q, tXt K W (tstF (binF (alt φ ψ) f g)) σ H Q → tXt K W (tstF (binF φ f g)) σ H Q ∨ tXt K W (tstF (binF ψ f g)) σ H Q := by
  intro σ H Q q
  obtain ⟨h, ρ, rfl, R, q⟩ := tXt_iff.mp q
  unfold tstF at q
  rcases bin_alt (φ := φ) (ψ := ψ) (f := f) (g := g) ρ with e | e
  · rw [e] at q
    exact .inl (tXt_mk R q)
  · rw [e] at q
    exact .inr (tXt_mk R q)
theorem xaltE {φ ψ : Rv → Rv → Er Rv} {f g : EF} {e : Expr} (a : PE X e (tX X.K W (binF φ f g))) (b : PE X e (tX X.K W (binF ψ f g))) : PE X e (tX X.K W (binF (alt φ ψ) f g)) := peTo (peOr a b) tX_alt
theorem xaltT {φ ψ : Rv → Rv → Er Rv} {f g : EF} {e : Expr} (a : PT X e (tXt X.K W (tstF (binF φ f g)))) (b : PT X e (tXt X.K W (tstF (binF ψ f g)))) : PT X e (tXt X.K W (tstF (binF (alt φ ψ) f g))) := ptTo (ptOr a b) tXt_alt
def alt1 (φ ψ : Rv → Er Rv) : Rv → Er Rv := fun a => match φ a with
  | .bad => ψ a
  | q => q
theorem un_alt {φ ψ : Rv → Er Rv} {f : EF} (ρ : Env) : unF (alt1 φ ψ) f ρ = unF φ f ρ ∨ unF (alt1 φ ψ) f ρ = unF ψ f ρ := by
  unfold unF
  cases f ρ with
  | bad => exact .inl rfl
  | exc c p => exact .inl rfl
  | ok a =>
    show alt1 φ ψ a = φ a ∨ alt1 φ ψ a = ψ a
    unfold alt1
    cases φ a with
    | ok r => exact .inl rfl
    | exc c p => exact .inl rfl
    | bad => exact .inr rfl
theorem tX_alt1 {φ ψ : Rv → Er Rv} {f : EF} : ∀ σ H Q, tX K W (unF (alt1 φ ψ) f) σ H Q → tX K W (unF φ f) σ H Q ∨ tX K W (unF ψ f) σ H Q := by
  intro σ H Q q
  obtain ⟨h, ρ, rfl, R, q⟩ := tX_iff.mp q
  rcases un_alt (φ := φ) (ψ := ψ) (f := f) ρ with e | e
  · rw [e] at q
    exact .inl (tX_mk R q)
  · rw [e] at q
    exact .inr (tX_mk R q)
theorem xalt1 {φ ψ : Rv → Er Rv} {f : EF} {e : Expr} (a : PE X e (tX X.K W (unF φ f))) (b : PE X e (tX X.K W (unF ψ f))) : PE X e (tX X.K W (unF (alt1 φ ψ) f)) := peTo (peOr a b) tX_alt1
end
/-! lists seen -/
def Rv.listD : Rv → Option (List D)
  | .w xs => some xs
  | .o xs => some xs
  | .v (.list xs) => some xs
  | _ => none
theorem RvOk.listD {K : PySem.W.Frag} {H0 : Hp} {h : Hs} {v : V} (c : Ch h) : ∀ {a : Rv} {xs : List D}, a.listD = some xs → RvOk K H0 h v a → ∃ l vs, v = .ref l ∧ SqL K h.H l vs ∧ DpAll K h.G vs xs
  | .w _, _, e, ⟨l, vs, e1, x, y⟩ => by cases e; exact ⟨l, vs, e1, .inl (.inl x), y⟩
  | .o _, _, e, ⟨l, vs, e1, n, x, f, y⟩ => by cases e; exact ⟨l, vs, e1, .inl (.inl x), y⟩
  | .v (.list _), _, e, ok => by
    cases e
    obtain ⟨l, vs, e1, x, y⟩ := dp_lst ok
    exact ⟨l, vs, e1, ex_l c.gh x, y⟩
def nnB : D → Bool
  | .none => false
  | _ => true
theorem nnB_ne {d : D} (h : nnB d = true) : d ≠ .none := fun e => by subst e; exact absurd h (by decide)
def alikeB (ds : List D) : Bool := ds.all fun x => ds.all fun y => PySem.W.alike x y && nnB x
theorem alikeB_all {ds : List D} (h : alikeB ds = true) : PySem.W.AlikeAll ds := by
  unfold alikeB at h
  rw [List.all_eq_true] at h
  have h2 : ∀ x ∈ ds, ∀ y ∈ ds, PySem.W.alike x y = true ∧ x ≠ .none := fun x hx y hy => by
    have := List.all_eq_true.mp (h x hx) y hy
    rw [Bool.and_eq_true] at this
    exact ⟨this.1, nnB_ne this.2⟩
  exact ⟨fun x hx y hy => (h2 x hx y hy).1, fun x hx => (h2 x hx x hx).2⟩
theorem minD_mem (x : D) : ∀ (xs : List D), PySem.W.minD x xs ∈ x :: xs := by
  intro xs
  unfold PySem.W.minD
  induction xs generalizing x with
  | nil => exact List.mem_cons_self
  | cons y ys ih =>
    rw [List.foldl_cons]
    rcases List.mem_cons.mp (ih (if PySem.W.dataLt y x = true then y else x)) with e | e
    · rw [e]
      by_cases q : PySem.W.dataLt y x = true
      · rw [if_pos q]; exact List.mem_cons_of_mem _ List.mem_cons_self
      · rw [if_neg q]; exact List.mem_cons_self
    · exact List.mem_cons_of_mem _ (List.mem_cons_of_mem _ e)
theorem Vals.getV : ∀ {xs : List V} {us : List Value} {i : Nat} {u : Value}, Vals xs us → us[i]? = some u → ∃ x, xs[i]? = some x ∧ RelV x u := fun {xs us i u} r e => by
  cases hx : xs[i]? with
  | none =>
    have := Vals.none_of r hx
    rw [e] at this
    cases this
  | some x =>
    obtain ⟨u', e', q⟩ := Vals.get r hx
    rw [e] at e'
    cases e'
    exact ⟨x, rfl, q⟩
section
variable {X : Cx}
/-! min(xs) -/
def rMinDt (K : PySem.W.Frag) : List V → Hp → VK → Prop := fun vs H Q => ∃ (a : Addr) (xs : List V) (d : D) (ds : List D), vs = [V.ref a] ∧ SqL K H a xs ∧ DpAll K H xs (d :: ds) ∧ PySem.W.AlikeAll (d :: ds) ∧ PyData.depthAll (d :: ds) ≤ 60 ∧
  ∀ (i : Nat) (x : V) (e : D), xs[i]? = some x → (d :: ds)[i]? = some e → e = PySem.W.minD d ds → Q x H
theorem noObA_al {ds : List D} (h : ∀ x ∈ ds, PySem.W.alike x x = true) : noObA ds = true := by
  rw [noObA_all]
  exact List.all_eq_true.mpr fun x hx => noOb_alike x (h x hx)
theorem noOb_mem {ds : List D} (h : ∀ x ∈ ds, PySem.W.alike x x = true) {d : D} (hd : d ∈ ds) : noOb d = true := noOb_alike d (h d hd)
theorem cr_minDt (hc : X.calm = true) (hu : X.A.units + 80 < cLine) : CallR X (.builtin "min") (rMinDt X.K) := by
  intro pins s σ H vs us Q I r h
  obtain ⟨a, xs, d, ds, rfl, hs, hd, hal, hdp, q⟩ := h
  obtain ⟨its, rv, hl, _⟩ := I.list hs
  rw [Vals.ref1 r]
  obtain ⟨as, hr⟩ := L2.Dp.readsAll I _ _ its (hd.l2 (noObA_al fun x hx => hal.1 x hx x hx)) rv
  refine PySem.W.min_list_data (I.ok.hd hc) hl.isList (by simpa using hr) hal (by omega) fun i v h' tk bs hv hR hk => ?_
  have hv' : its[i]? = some v := by simpa using hv
  obtain ⟨x, hx, rx⟩ := Vals.getV rv hv'
  obtain ⟨e, he, hxe⟩ := DpAll.getV hd hx
  obtain ⟨as1, r1⟩ := L2.Dp.reads I e x v (hxe.l2 (noOb_mem (fun x hx => hal.1 x hx x hx) (List.mem_of_getElem? he))) rx
  have hee := PySem.W.alike_unique e _ v _ _ (hal.1 e (List.mem_of_getElem? he) _ (minD_mem d ds)) (PySem.W.reads_keeps hk r1) hR
  exact ⟨x, H, I.kept hk, rx, q i x e hx he hee⟩
def minDR (a : Rv) : Er Rv := match a.listD with
  | some (d :: ds) => if alikeB (d :: ds) = true ∧ PyData.depthAll (d :: ds) ≤ 60 then .ok (.v (PySem.W.minD d ds)) else .bad
  | _ => .bad
variable {W : WF} {a : Expr} {f : EF} {p pos : Pos}
theorem xminD (hc : X.calm = true) (hu : X.A.units + 80 < cLine) (hg : Gl X "min") (hm : X.mg "min" = none) (ha : PE X a (tX X.K W f)) (hs : starEach [a] X.env = (false, eval a X.env) :: starEach [] X.env := by rfl) : PE X (.Call (.Name "min" p) [a] [] pos) (tX X.K W (unF minDR f)) := by
  refine peTo (pe_callB (cr_minDt hc hu) hg hm boot_min (pa_cons ha pa_nil hs) (he := hs)) (c1_of fun h0 h ρ σ x a Q R0 R g ok q => ?_)
  unfold minDR at q
  split at q
  · rename_i d ds e
    split at q
    · rename_i hc2
      obtain ⟨l, vs, rfl, s, da⟩ := ok.listD R.ch e
      refine ⟨l, vs, d, ds, rfl, s, ex_dpa R.ch.gh da, alikeB_all hc2.1, hc2.2, fun i x e hx he hee => ?_⟩
      obtain ⟨e', he', hd⟩ := DpAll.getV da hx
      rw [he] at he'
      cases he'
      subst hee
      exact q.now R hd
    · exact q.elim
  · exact q.elim
def minA : Rv → Er Rv := alt1 minR minDR
theorem xminA (hc : X.calm = true) (hu : X.A.units + 80 < cLine) (hg : Gl X "min") (hm : X.mg "min" = none) (ha : PE X a (tX X.K W f)) (hs : starEach [a] X.env = (false, eval a X.env) :: starEach [] X.env := by rfl) : PE X (.Call (.Name "min" p) [a] [] pos) (tX X.K W (unF minA f)) :=
  xalt1 (xmin1 hc hg hm ha hs) (xminD hc hu hg hm ha hs)
/-! sorted(xs), items of one kind -/
abbrev VD := V × D
theorem dpa_pairs {K : PySem.W.Frag} {H : Hp} : ∀ {zs : List VD}, (∀ z ∈ zs, Dp K H z.1 z.2) → DpAll K H (zs.map (·.1)) (zs.map (·.2))
  | [], _ => .nil
  | z :: zs, h => .cons (h z List.mem_cons_self) (dpa_pairs fun y hy => h y (List.mem_cons_of_mem _ hy))
theorem dpa_zip {K : PySem.W.Frag} {H : Hp} : ∀ {xs : List V} {ds : List D}, DpAll K H xs ds → (∀ z ∈ xs.zip ds, Dp K H z.1 z.2) ∧ (xs.zip ds).map (·.1) = xs ∧ (xs.zip ds).map (·.2) = ds
  | _, _, .nil => ⟨fun _ h => by simp at h, rfl, rfl⟩
  | _, _, .cons h t => by
    obtain ⟨a, b, c⟩ := dpa_zip t
    refine ⟨fun z hz => ?_, by simp [b], by simp [c]⟩
    rw [List.zip_cons_cons] at hz
    rcases List.mem_cons.mp hz with e | e
    · subst e; exact h
    · exact a z e
def rSortDt (K : PySem.W.Frag) : List V → Hp → VK → Prop := fun vs H Q => ∃ (a : Addr) (xs : List V) (ds : List D), vs = [V.ref a] ∧ SqL K H a xs ∧ DpAll K H xs ds ∧ PySem.W.AllAlike ds ∧ PySem.W.Sortable ds ∧ PyData.depthAll ds ≤ 60 ∧
  ∀ p, H p = none → Q (.ref p) (upd H p (.lst (((xs.zip ds).mergeSort (PySem.W.dataLe false fun z : VD => z.2)).map (·.1))))
theorem depth_mem {d : D} : ∀ {ds : List D}, d ∈ ds → d.depth ≤ PyData.depthAll ds
  | [], h => by cases h
  | e :: ds, h => by
    rw [PyData.depthAll]
    rcases List.mem_cons.mp h with q | q
    · subst q; exact Nat.le_max_left _ _
    · exact Nat.le_trans (depth_mem q) (Nat.le_max_right _ _)
theorem each_zip {h : Heap} {pins : List (Addr × Obj)} {σ : L2.St} {H : Hp} {s : Shared} (I : Inv X pins σ H s) : ∀ {xs : List V} {its : List Value} {ds : List D}, Vals xs its → L2.DpAll X.K H xs ds → EachIs (fun v (z : VD) => RelV z.1 v) its (xs.zip ds) ∧ EachIs (fun v (z : VD) => ∃ as, Reads s.heap v z.2 as) its (xs.zip ds)
  | _, _, _, .nil, .nil => ⟨.nil, .nil⟩
  | _, _, _, .cons r t, .cons h u => by
    obtain ⟨a, b⟩ := each_zip (h := s.heap) I t u
    exact ⟨.cons r a, .cons (L2.Dp.reads I _ _ _ h r) b⟩
theorem vals_each : ∀ {out : List Value} {zs : List VD}, EachIs (fun v (z : VD) => RelV z.1 v) out zs → Vals (zs.map (·.1)) out
  | _, _, .nil => .nil
  | _, _, .cons r t => .cons r (vals_each t)
theorem cr_sortDt (hu : X.A.units + 80 < cLine) : CallR X (.builtin "sorted") (rSortDt X.K) := by
  intro pins s σ H vs us Q I r h
  obtain ⟨a, xs, ds, rfl, hs, hd, hal, hso, hdp, q⟩ := h
  obtain ⟨its, rv, hl, hz⟩ := I.list hs
  rw [Vals.ref1 r]
  obtain ⟨e1, e2⟩ := each_zip (h := s.heap) I rv (hd.l2 (noObA_al fun x hx => hal x hx x hx))
  obtain ⟨z1, z2, z3⟩ := dpa_zip hd
  have hlen : (xs.zip ds).length = xs.length := by rw [← List.length_map (f := (·.1)), z2]
  refine PySem.W.sorted_data (β := VD) (enc := (·.2)) hl.isList e1 e2 (by rw [z3]; exact hal) (by rw [z3]; exact hso) (by rw [hlen]; exact hz) (fun b hb => ?_) fun out hol ho => ?_
  · have := depth_mem (d := b.2) (ds := ds) (by rw [← z3]; exact List.mem_map_of_mem hb)
    omega
  · obtain ⟨ep, he'⟩ := PyProof.Rows.sortedAll_at s.heap its out.toArray
    have hv := vals_each ho
    refine ⟨.ref _, upd H (s.heap.objs.size + 1) (.lst (((xs.zip ds).mergeSort (PySem.W.dataLe false fun z : VD => z.2)).map (·.1))), I.laid (t' := s.toks) (fun _ _ => PyProof.Rows.sortedAll_old) (Nat.le_succ _) ⟨?_, out, ep, hv, by simpa using he'⟩, rfl, q _ (I.hok.fresh (Nat.le_succ _))⟩
    rw [List.length_map, (List.mergeSort_perm _ _).length_eq, hlen]
    exact hz
def sortD (ds : List D) : List D := ds.mergeSort (PySem.W.dataLe false fun d : D => d)
def listsB (ds : List D) : Bool := ds.all fun d => match d with | .list _ => true | _ => false
def tupsB (ds : List D) : Bool := ds.all fun d => match d with | .tuple (_ :: _) => true | _ => false
theorem sortable_lists {ds : List D} (h : listsB ds = true) : PySem.W.Sortable ds := .inr fun d hd => by
  have := List.all_eq_true.mp h d hd
  cases d <;> simp at this ⊢
theorem sortable_tups {ds : List D} (h : tupsB ds = true) : PySem.W.Sortable ds := .inl fun d hd => by
  have := List.all_eq_true.mp h d hd
  cases d with
  | tuple xs =>
    cases xs with
    | nil => simp at this
    | cons x r => exact ⟨x, r, rfl⟩
  | _ => simp at this
def sortDR (a : Rv) : Er Rv := match a.listD with
  | some ds => if alikeB ds = true ∧ PyData.depthAll ds ≤ 60 ∧ (listsB ds || tupsB ds) = true then .ok (.o (sortD ds)) else .bad
  | _ => .bad
theorem xsortedD (hu : X.A.units + 80 < cLine) (hg : Gl X "sorted") (hm : X.mg "sorted" = none) (ha : PE X a (tX X.K W f)) (hs : starEach [a] X.env = (false, eval a X.env) :: starEach [] X.env := by rfl) : PE X (.Call (.Name "sorted" p) [a] [] pos) (tX X.K W (unF sortDR f)) := by
  refine peTo (pe_callB (cr_sortDt hu) hg hm boot_sorted (pa_cons ha pa_nil hs) (he := hs)) (c1_of fun h0 h ρ σ x a Q R0 R g ok q => ?_)
  unfold sortDR at q
  split at q
  · rename_i ds e
    split at q
    · rename_i hc2
      obtain ⟨hc2, hc3, hc4⟩ := hc2
      obtain ⟨l, vs, rfl, s, da⟩ := ok.listD R.ch e
      have hal := alikeB_all hc2
      refine ⟨l, vs, ds, rfl, s, ex_dpa R.ch.gh da, fun x hx y hy => hal.1 x hx y hy, ?_, hc3, fun p hp => ?_⟩
      · rw [Bool.or_eq_true] at hc4
        rcases hc4 with z | z
        · exact sortable_lists z
        · exact sortable_tups z
      · obtain ⟨z1, z2, z3⟩ := dpa_zip da
        have e2 : sortD ds = ((vs.zip ds).mergeSort (PySem.W.dataLe false fun z : VD => z.2)).map (·.2) := by
          unfold sortD
          conv => lhs; rw [← z3]
          exact (List.map_mergeSort (f := fun z : VD => z.2) fun a _ b _ => rfl).symm
        refine PE1.newL (xs := sortD ds) q R ?_ hp
        rw [e2]
        exact dpa_pairs fun z hz => z1 z ((List.mergeSort_perm _ _).mem_iff.mp hz)
    · exact q.elim
  · exact q.elim
def sortA : Rv → Er Rv := alt1 sortR sortDR
theorem xsortedA (hu : X.A.units + 80 < cLine) (hg : Gl X "sorted") (hm : X.mg "sorted" = none) (ha : PE X a (tX X.K W f)) (hs : starEach [a] X.env = (false, eval a X.env) :: starEach [] X.env := by rfl) : PE X (.Call (.Name "sorted" p) [a] [] pos) (tX X.K W (unF sortA f)) :=
  xalt1 (xsorted hg hm ha hs) (xsortedD hu hg hm ha hs)
/-! x in xs, nested data -/
variable {b : Expr} {g : EF}
def inDeep (n : Bool) (a b : Rv) : Er Rv := match a.dat, b.listD with
  | some x, some ys => if SeqAt.shaped x = true ∧ SeqAt.shaped (.list ys) = true then .ok (.v (.bool (if n then !(ys.any fun z => PyData.eqv z x) else ys.any fun z => PyData.eqv z x))) else .bad
  | _, _ => .bad
theorem listD_dp {K : PySem.W.Frag} {H0 : Hp} {h : Hs} {v : V} (c : Ch h) {a : Rv} {xs : List D} (e : a.listD = some xs) (ok : RvOk K H0 h v a) : Dp K h.H v (.list xs) := by
  obtain ⟨l, vs, rfl, s, da⟩ := ok.listD c e
  exact .lst s (ex_dpa c.gh da)
theorem ok_inDeep {K : PySem.W.Frag} : OpOk K W (inDeep false) (rInD K) := by
  intro h0 h ρ σ x y a b Q R0 R g oka okb q
  unfold inDeep at q
  split at q
  · rename_i d ys ea eb
    split at q
    · rename_i hc
      exact ⟨d, ys, (oka.dp R.ch ea).l2 (noOb_shaped hc.1), (listD_dp R.ch eb okb).l2 (noOb_shaped hc.2), hc.1, hc.2, q.now R (.bl _)⟩
    · exact q.elim
  · exact q.elim
theorem ok_notInDeep {K : PySem.W.Frag} : OpOk K W (inDeep true) (rNotInD K) := by
  intro h0 h ρ σ x y a b Q R0 R g oka okb q
  unfold inDeep at q
  split at q
  · rename_i d ys ea eb
    split at q
    · rename_i hc
      exact ⟨d, ys, (oka.dp R.ch ea).l2 (noOb_shaped hc.1), (listD_dp R.ch eb okb).l2 (noOb_shaped hc.2), hc.1, hc.2, q.now R (.bl _)⟩
    · exact q.elim
  · exact q.elim
def inA (n : Bool) : Rv → Rv → Er Rv := alt (inR n) (inDeep n)
theorem hu65 {n : Nat} (h : n + 80 < cLine) : n + 65 < cLine := by omega
theorem hu01 {n : Nat} (h : n + 80 < cLine) : n + 1 < cLine := by omega
theorem xinA (hu : X.A.units + 80 < cLine) (ha : PE X a (tX X.K W f)) (hb : PE X b (tX X.K W g)) (hm : behindInMarks .In b = false := by first | exact nobehind _ (by decide) (by decide) | rfl) : PE X (.Compare a [.In] [b] pos) (tX X.K W (binF (inA false) f g)) :=
  xaltE (xin (hu01 hu) ha hb hm) (xcmp (op_inD (hu65 hu)) ok_inDeep ha hb hm)
theorem xnotinA (hu : X.A.units + 80 < cLine) (ha : PE X a (tX X.K W f)) (hb : PE X b (tX X.K W g)) (hm : behindInMarks .NotIn b = false := by first | exact nobehind _ (by decide) (by decide) | rfl) : PE X (.Compare a [.NotIn] [b] pos) (tX X.K W (binF (inA true) f g)) :=
  xaltE (xnotin (hu01 hu) ha hb hm) (xcmp (op_notInD (hu65 hu)) ok_notInDeep ha hb hm)
theorem xtinA (hu : X.A.units + 80 < cLine) (ha : PE X a (tX X.K W f)) (hb : PE X b (tX X.K W g)) (hm : behindInMarks .In b = false := by first | exact nobehind _ (by decide) (by decide) | rfl) : PT X (.Compare a [.In] [b] pos) (tXt X.K W (tstF (binF (inA false) f g))) :=
  xaltT (xtin (hu01 hu) ha hb hm) (xtcmp (op_inD (hu65 hu)) ok_inDeep ha hb hm)
theorem xtnotinA (hu : X.A.units + 80 < cLine) (ha : PE X a (tX X.K W f)) (hb : PE X b (tX X.K W g)) (hm : behindInMarks .NotIn b = false := by first | exact nobehind _ (by decide) (by decide) | rfl) : PT X (.Compare a [.NotIn] [b] pos) (tXt X.K W (tstF (binF (inA true) f g))) :=
  xaltT (xtnotin (hu01 hu) ha hb hm) (xtcmp (op_notInD (hu65 hu)) ok_notInDeep ha hb hm)
/-! <=, < of nested data -/
def rLeDt (K : PySem.W.Frag) : R2 := fun x y H Q => ∃ d e, Dp K H x d ∧ Dp K H y e ∧ PySem.W.alike d e = true ∧ d ≠ .none ∧ d.depth ≤ 60 ∧ noOb d = true ∧ noOb e = true ∧ Q (.bl (!PySem.W.dataLt e d)) H
def rLtDt (K : PySem.W.Frag) : R2 := fun x y H Q => ∃ d e, Dp K H x d ∧ Dp K H y e ∧ PySem.W.alike d e = true ∧ d ≠ .none ∧ d.depth ≤ 60 ∧ noOb d = true ∧ noOb e = true ∧ Q (.bl (PySem.W.dataLt d e)) H
theorem op_leDt (hu : X.A.units + 80 < cLine) : OpR X (compareOp .LtE) (rLeDt X.K) := by
  intro pins s σ H x y v u Q I rx ry h
  obtain ⟨d, e, hd, he, hal, hn, hdp, nd, ne, q⟩ := h
  obtain ⟨as, r1⟩ := L2.Dp.reads I d x v (hd.l2 nd) rx
  obtain ⟨bs, r2⟩ := L2.Dp.reads I e y u (he.l2 ne) ry
  have hm : min d.depth e.depth ≤ d.depth := Nat.min_le_left _ _
  exact PySem.W.rcLe_alike d e X.A s v u as bs r1 r2 hal hn (by omega) _ _ _ _ ⟨.bl _, H, I, rfl, q⟩
theorem op_ltDt (hu : X.A.units + 80 < cLine) : OpR X (compareOp .Lt) (rLtDt X.K) := by
  intro pins s σ H x y v u Q I rx ry h
  obtain ⟨d, e, hd, he, hal, hn, hdp, nd, ne, q⟩ := h
  obtain ⟨as, r1⟩ := L2.Dp.reads I d x v (hd.l2 nd) rx
  obtain ⟨bs, r2⟩ := L2.Dp.reads I e y u (he.l2 ne) ry
  have hm : min d.depth e.depth ≤ d.depth := Nat.min_le_left _ _
  exact PySem.W.rcLt_alike d e X.A s v u as bs r1 r2 hal hn (by omega) _ _ _ _ ⟨.bl _, H, I, rfl, q⟩
def leDt : Rv → Rv → Er Rv := fun a b => match a.dat, b.dat with
  | some x, some y => if PySem.W.alike x y = true ∧ nnB x = true ∧ x.depth ≤ 60 ∧ noOb x = true ∧ noOb y = true then .ok (.v (.bool (!PySem.W.dataLt y x))) else .bad
  | _, _ => .bad
def ltDt : Rv → Rv → Er Rv := fun a b => match a.dat, b.dat with
  | some x, some y => if PySem.W.alike x y = true ∧ nnB x = true ∧ x.depth ≤ 60 ∧ noOb x = true ∧ noOb y = true then .ok (.v (.bool (PySem.W.dataLt x y))) else .bad
  | _, _ => .bad
theorem ok_leDt {K : PySem.W.Frag} : OpOk K W leDt (rLeDt K) := by
  intro h0 h ρ σ x y a b Q R0 R g oka okb q
  unfold leDt at q
  split at q
  · rename_i d e ea eb
    split at q
    · rename_i hc
      exact ⟨d, e, oka.dp R.ch ea, okb.dp R.ch eb, hc.1, nnB_ne hc.2.1, hc.2.2.1, hc.2.2.2.1, hc.2.2.2.2, q.now R (.bl _)⟩
    · exact q.elim
  · exact q.elim
theorem ok_ltDt {K : PySem.W.Frag} : OpOk K W ltDt (rLtDt K) := by
  intro h0 h ρ σ x y a b Q R0 R g oka okb q
  unfold ltDt at q
  split at q
  · rename_i d e ea eb
    split at q
    · rename_i hc
      exact ⟨d, e, oka.dp R.ch ea, okb.dp R.ch eb, hc.1, nnB_ne hc.2.1, hc.2.2.1, hc.2.2.2.1, hc.2.2.2.2, q.now R (.bl _)⟩
    · exact q.elim
  · exact q.elim
def leA : Rv → Rv → Er Rv := alt leR leDt
def ltA : Rv → Rv → Er Rv := alt ltR ltDt
theorem xleA (hu : X.A.units + 80 < cLine) (ha : PE X a (tX X.K W f)) (hb : PE X b (tX X.K W g)) : PE X (.Compare a [.LtE] [b] pos) (tX X.K W (binF leA f g)) := xaltE (xle ha hb) (xcmp (op_leDt hu) ok_leDt ha hb (nomark _))
theorem xltA (hu : X.A.units + 80 < cLine) (ha : PE X a (tX X.K W f)) (hb : PE X b (tX X.K W g)) : PE X (.Compare a [.Lt] [b] pos) (tX X.K W (binF ltA f g)) := xaltE (xlt ha hb) (xcmp (op_ltDt hu) ok_ltDt ha hb (nomark _))
theorem xtleA (hu : X.A.units + 80 < cLine) (ha : PE X a (tX X.K W f)) (hb : PE X b (tX X.K W g)) : PT X (.Compare a [.LtE] [b] pos) (tXt X.K W (tstF (binF leA f g))) := xaltT (xtle ha hb) (xtcmp (op_leDt hu) ok_leDt ha hb (nomark _))
theorem xtltA (hu : X.A.units + 80 < cLine) (ha : PE X a (tX X.K W f)) (hb : PE X b (tX X.K W g)) : PT X (.Compare a [.Lt] [b] pos) (tXt X.K W (tstF (binF ltA f g))) := xaltT (xtlt ha hb) (xtcmp (op_ltDt hu) ok_ltDt ha hb (nomark _))
end
end Sq

/-! sorted(t), a tuple of whole numbers; pop as a row of its own. -/
namespace Sq
open PySem PySem.Spec PyProof.Rows L2
section
variable {prog : Program} {w : World} {A : Around} {E : Value → Shared → Prop} {s : Shared}
/-- the items of a tuple, as a new list -/
theorem gather_tup {t : Addr} {vs : List Value} {Q : List Value → Shared → Prop} (ht : s.heap.IsTuple t vs.toArray) (hz : vs.length ≤ sizeLine)
    (q : Q vs { s with heap := (s.heap.push (seqObj "list" #[] 0)).update s.heap.objs.size (Obj.mapSeq (· ++ vs.toArray)) }) : wpAny (model prog w) A (collect (.ref t)) Q E s := by
  obtain ⟨ob, e1, e2, n, e3⟩ := id ht
  have old : (s.heap.push (seqObj "list" #[] 0)).get? t = some ob := Heap.get?_push_of_some _ e1
  have new : (s.heap.push (seqObj "list" #[] 0)).get? s.heap.objs.size = some (seqObj "list" #[] 0) := Heap.get?_push_size _ rfl
  have hty : (Value.type "tuple" == Value.type "tuple") = true := by rfl
  have hlen : (#[] ++ vs.toArray).size ≤ sizeLine + 1 := by
    rw [Array.size_append, List.size_toArray]
    show 0 + vs.length ≤ _
    omega
  unfold collect
  refine wpAny_bind (wpAny_runValue (codeAny_builtin entry_proto_collect' (show wpAny (model prog w) _ (do again (.builtin "list.__iadd__" ⟨[← newList [], .ref t], []⟩)) _ _ s from ?_)))
  refine wpAny_bind (wpAny_newList (wpAny_pure ⟨Code.quiet_builtin _ (by decide +kernel), codeAny_builtin entry_list_iadd' (show wpAny (model prog w) _ (Builtin.List.listExtendWith (.ref s.heap.objs.size) (.ref t) (.ref s.heap.objs.size)) _ _ { s with heap := s.heap.push (seqObj "list" #[] 0) } from ?_)⟩))
  unfold Builtin.List.listExtendWith
  refine wpAny_bind (wpAny_typeOf (T := "tuple") ⟨ob, old, e2⟩ ?_)
  rw [if_pos (by rw [hty, Bool.or_true])]
  refine wpAny_bind (listItems_at old e3 (wpAny_bind (listItems_at (xs := #[]) (n := 0) new rfl ?_)))
  rw [if_neg (by simp)]
  refine wpAny_bind (listUpdate_at (xs := #[]) (n := 0) new rfl (wpAny_pure ?_) (Nat.zero_le _) hlen)
  refine (show wpAny (model prog w) A (do
      let ob ← load s.heap.objs.size
      match ob.data with
      | .seq ys _ => pure ys.toList
      | _ => unsupported "internal:collect") Q E { s with heap := (s.heap.push (seqObj "list" #[] 0)).update s.heap.objs.size (Obj.mapSeq (· ++ vs.toArray)) } from ?_)
  refine wpAny_bind (wpAny_load (get?_update_seq new _) (show wpAny (model prog w) A (pure ((#[] : Array Value) ++ vs.toArray).toList) Q E _ from ?_))
  rw [show ((#[] : Array Value) ++ vs.toArray).toList = vs by simp]
  exact wpAny_pure q
end
section
variable {X : Cx}
/-- sorted(t), a tuple of ints -/
def rSortTI (K : PySem.W.Frag) : List V → Hp → VK → Prop := fun vs H Q => ∃ (a : Addr) (ns : List Int), vs = [V.ref a] ∧ SqT K H a (ns.map V.int) ∧ ∀ (ns' : List Int) (p : Addr), ns'.Perm ns → ns'.Pairwise (· ≤ ·) → H p = none → Q (.ref p) (upd H p (.lst (ns'.map V.int)))
theorem cr_sortTI : CallR X (.builtin "sorted") (rSortTI X.K) := by
  intro pins s σ H vs us Q I r h
  obtain ⟨t, ns, rfl, hs, q⟩ := h
  obtain ⟨its, rv, hT, hz⟩ := I.tuple hs
  have hi := rv.ints
  have hlen : its.length ≤ sizeLine := by rw [← rv.length]; exact hz
  rw [Vals.ref1 r]
  refine Calls.call_function_entry kind_sorted plain_sorted entry_sorted (args_sorted1 _) (show wpAny (model X.prog X.w) _ (Builtin.«sorted» ⟨[.ref t], []⟩) _ _ s from ?_)
  unfold Builtin.«sorted»
  refine wpAny_bind (m := checkCount "sorted" 1 1 _) (wpAny_pure (wpAny_bind (gather_tup hT hlen (wpAny_bind (wpAny_newList ?_ hlen)))))
  have hsz : ((s.heap.push (seqObj "list" #[] 0)).update s.heap.objs.size (Obj.mapSeq (· ++ its.toArray))).objs.size = s.heap.objs.size + 1 := by rw [Heap.size_update, size_push']
  have hoL : (((s.heap.push (seqObj "list" #[] 0)).update s.heap.objs.size (Obj.mapSeq (· ++ its.toArray))).push (seqObj "list" its.toArray 0)).get? (s.heap.objs.size + 1) = some (seqObj "list" its.toArray 0) := hsz ▸ Heap.get?_push_size _ rfl
  refine (show wpAny _ _ _ _ _ { s with heap := ((s.heap.push (seqObj "list" #[] 0)).update s.heap.objs.size (Obj.mapSeq (· ++ its.toArray))).push (seqObj "list" its.toArray 0) } from ?_)
  rw [hsz]
  refine wpAny_bind (wpAny_holding (wpAny_call_entry slot_list_sort ⟨_, hoL, rfl⟩ entry_list_sort (SrtO.list_sort_ord SrtO.swo_int hoL hlen (fun h2 => SrtO.ints_sortable hi h2) fun out h1 h2 => ⟨_, rfl, wpAny_pure ⟨_, rfl, ?_⟩⟩) (args_list_sort _)))
  obtain ⟨k1, k2, k3⟩ := SrtO.ints_out hi h1 h2
  obtain ⟨ep, he'⟩ := PyProof.Rows.sortedAll_at s.heap its out.toArray
  have hl2 : ((out.map SrtO.iv).map V.int).length ≤ sizeLine := by
    rw [List.length_map, k2.length_eq]
    rw [List.length_map] at hz
    exact hz
  have J := I.laid (a := s.heap.objs.size + 1) (o := .lst ((out.map SrtO.iv).map V.int)) (t' := s.toks) (h' := sortedAll s.heap its out.toArray) (fun _ _ => PyProof.Rows.sortedAll_old) (Nat.le_succ _) ⟨hl2, out, ep, vals_of_ints k1, he'⟩
  exact ⟨.ref _, _, J, rfl, q _ _ k2 k3 (I.hok.fresh (Nat.le_succ _))⟩
/-- the whole numbers of a tuple -/
def Rv.tupI : Rv → Option (List Int)
  | .v (.tuple ds) => dInts ds
  | _ => none
def sortTR (a : Rv) : Er Rv := match a.tupI with
  | some ns => .ok (.o ((srt ns).map .int))
  | none => .bad
variable {W : WF} {a : Expr} {f : EF} {p pos : Pos}
theorem xsortedT (hg : Gl X "sorted") (hm : X.mg "sorted" = none) (ha : PE X a (tX X.K W f)) (hs : starEach [a] X.env = (false, eval a X.env) :: starEach [] X.env := by rfl) : PE X (.Call (.Name "sorted" p) [a] [] pos) (tX X.K W (unF sortTR f)) := by
  refine peTo (pe_callB cr_sortTI hg hm boot_sorted (pa_cons ha pa_nil hs) (he := hs)) (c1_of fun h0 h ρ σ x a Q R0 R g ok q => ?_)
  unfold sortTR at q
  split at q
  · rename_i ns e
    unfold Rv.tupI at e
    split at e
    · rename_i ds
      obtain ⟨t, vs, rfl, s, d⟩ := dp_tup ok
      rw [dInts_v e d] at s
      refine ⟨t, ns, rfl, ex_t R.ch.gh s, fun ns' p h1 h2 hp => ?_⟩
      have e2 : ns' = srt ns := perm_sorted_eq (h1.trans (srt_perm ns).symm) h2 (srt_le ns)
      subst e2
      exact q.newL R (ints_all _) hp
    · cases e
  · exact q.elim
def sortB : Rv → Er Rv := alt1 sortR sortTR
theorem xsortedB (hg : Gl X "sorted") (hm : X.mg "sorted" = none) (ha : PE X a (tX X.K W f)) (hs : starEach [a] X.env = (false, eval a X.env) :: starEach [] X.env := by rfl) : PE X (.Call (.Name "sorted" p) [a] [] pos) (tX X.K W (unF sortB f)) :=
  xalt1 (xsorted hg hm ha hs) (xsortedT hg hm ha hs)
/-- a row of its own that changes an own list -/
def exprM (f : MF) : SF := fun ρ => thenM ρ (f ρ) fun _ ρ' => .next ρ'
theorem xexprM {e : Expr} {f : MF} {pos : Pos} (he : PE X e (tM X.K W f)) (hs : swapsWith e none pos.line X.env = pure false := by rfl) : PS X (.Expr e pos) (tS X.K W (exprM f)) := psTo (ps_expr he hs) fun D σ H ⟨h, ρ, e, R, q⟩ => by
  subst e
  exact ⟨h, ρ, rfl, R, q.thenM fun r ρ' v h' _ R' g' _ q' => q' σ h' R' (SG.refl _)⟩
end
end Sq

/-! A def of the law that is asked about the exception of a suite. -/
namespace Sq
open PySem PySem.Spec PyProof.Rows L2 L2H
/-- its answer, by the exception's class -/
structure FnE (P : Program) (w : World) (K : PySem.W.Frag) (mg : Str → Option Value) (base : Heap) (CX : CXT) (k : Nat) (f : Addr) (fd : FuncData) (x : Str) (D : Addr) (b : Bool) : Prop where
  run : ∀ (A : Around) (outer : List PySem.Env) (s : Shared) (H : Hp) (args : Args) (Q : VK) (E : XK) (a : Addr) (oe : Obj), RoomH k A → PinOk outer H s (a, oe) → Zc (.ref D) none oe → (∃ vs, oe.data = .fields vs) → Env0 P w K mg base A outer s H →
    BindsTo s fd args [(x, .ref a)] → Q (.bl b) H → codeAny (model P w) A (.call (.ref f) args) (CR CX outer P w H s Q E) s
section
variable {X : Cx} {i : Nat} {a D : Addr} {oe : Obj} {b c : Bool} {p pos px pT q : Pos} {e e1 e2 : Expr} {rest : List Expr}
theorem call_isP (hp : (a, oe) ∈ X.pn) (C : ExcC X.K D) (hz : Zc (.ref D) none oe) (hf : ∃ vs, oe.data = .fields vs) : CallR X (.builtin "isinstance") (rIsE X.K D a) := by
  intro pins s σ H xs us Q I r h
  obtain ⟨y, cv, bb, rfl, hcv, e, q⟩ := h
  obtain ⟨u1, u2, rfl, r1, r2⟩ := Vals.two r
  have e1 : u1 = .ref a := r1
  have e2 := hcv _ r2
  subst e1 e2
  have hget := (I.pin (a, oe) (List.mem_append_left _ hp)).1
  obtain ⟨vs, hv⟩ := hf
  have J : PySem.W.InstAt s.heap a oe D none := by
    cases oe with
    | mk oc od oda osl =>
      have h1 : oc = .ref D := hz.1
      have h2 : od = none := hz.2
      have h3 : oda = .fields vs := hv
      subst h1 h2 h3
      exact ⟨hget, rfl, rfl, trivial⟩
  exact PySem.W.kia_one (PySem.W.handS_kitx_exc C.hg C.hk C.hs C.hd C.ha C.hn C.ht C.hm) I.kIn J e (fun z => nomatch z) fun tk => ⟨.bl bb, H, I.kept (t' := tk) fun _ _ z => z, rfl, q⟩
theorem xisP {x y : Str} {cv : V} {cu : Value} (hp : (a, oe) ∈ X.pn) (C : ExcC X.K D) (hz : Zc (.ref D) none oe) (hf : ∃ vs, oe.data = .fields vs) (hg : Gl X "isinstance") (hm : X.mg "isinstance" = none) (he : PE X (.Name x px) (tVar i)) (hT : PE X (.Name y pT) (tC cv)) (hcv : ∀ u, RelV cv u → u = cu) (hk : PySem.W.kitOne X.K (.ref D) cu = some b)
    (hs : starEach [.Name x px, .Name y pT] X.env = (false, eval (.Name x px) X.env) :: starEach [.Name y pT] X.env := by rfl) (hs2 : starEach [.Name y pT] X.env = (false, eval (.Name y pT) X.env) :: starEach [] X.env := by rfl) :
    PE X (.Call (.Name "isinstance" p) [.Name x px, .Name y pT] [] pos) (tEc i a b) :=
  peTo (pe_callB (call_isP hp C hz hf) hg hm boot_isinstance (pa_cons he (pa_cons hT pa_nil hs2) hs) (he := hs) (hpl := by rw [hs2]; rfl)) fun σ H Q q => ⟨_, q.1, cv, cu, b, rfl, hcv, hk, q.2⟩
/-! tests, rows -/
def tEt (i : Nat) (a : Addr) (b : Bool) : TT := fun σ H Q => σ[i]? = some (some (.ref a)) ∧ Q b H
def tNx (i : Nat) (a : Addr) : TS := fun D σ H => σ[i]? = some (some (.ref a)) ∧ D.nx σ H
def tRt (i : Nat) (a : Addr) (b : Bool) : TS := fun D σ H => σ[i]? = some (some (.ref a)) ∧ D.rt (.bl b) H
theorem xTv {e : Expr} (h : PE X e (tEc i a b)) (he : ∀ whole, isTrue e X.env whole = (do let v ← whole; standAt e.pos; holding [v] (truthy v)) := by intro _; rfl) : PT X e (tEt i a b) := ptTo (pt_val h he) fun σ H Q q => ⟨q.1, b, rfl, q.2⟩
theorem xTor1 (h : PT X e (tEt i a b)) : PW X (.BoolOp .Or [e] pos) (tEt i a b) := pw_or1 h
theorem xTor (h1 : PT X e1 (tEt i a b)) (h2 : PW X (.BoolOp .Or (e2 :: rest) pos) (tEt i a c)) : PW X (.BoolOp .Or (e1 :: e2 :: rest) pos) (tEt i a (b || c)) := pwTo (pw_or h1 h2) fun σ H Q q => by
  refine ⟨q.1, ?_⟩
  cases b with
  | true => exact q.2
  | false => exact q
theorem xEifN {body : List Stmt} {t : TS} (h : PT X e (tEt i a false)) (hb : PSs X body t) : PS X (.If e body [] pos) (tNx i a) := psTo (ps_if h hb pss_nil) fun D σ H q => ⟨q.1, q.2⟩
theorem xEret (h : PE X e (tEc i a b)) : PS X (.Return (some e) pos) (tRt i a b) := psTo (ps_ret h) fun D σ H q => q
theorem xElast {s : Stmt} (h : PS X s (tRt i a b)) : PSs X [s] (tRt i a b) := pss_one h
theorem xEthen {s : Stmt} {r : List Stmt} (h1 : PS X s (tNx i a)) (h2 : PSs X r (tRt i a b)) : PSs X (s :: r) (tRt i a b) := pssTo (pss_cons h1 h2) fun D σ H q => ⟨q.1, q⟩
end
section
variable {P : Program} {w : World} {K : PySem.W.Frag} {mg : Str → Option Value} {base : Heap}
/-- the body settles it -/
theorem fnE_ok {x qual y : Str} {st : Stmt} {f : Addr} {fd : FuncData} {N : List Str} {k : Nat} {CX : CXT} {D : Addr} {b : Bool} (F : Fun K x qual st f fd) (S : FnScope N [y] (defScope st))
    (body : ∀ (cdv : Value) (A : Around) (outer : List PySem.Env) (s : Shared) (H : Hp) (E : XK) (a : Addr) (oe : Obj), Zc (.ref D) none oe → (∃ vs, oe.data = .fields vs) → PSs (cxH CX P w K mg base N qual (defScope st) f cdv A outer s H E (a, oe)) (defBody st) (tRt 0 a b)) :
    FnE P w K mg base CX (k + 1) f fd y D b := by
  obtain ⟨oc, od, kV, doc, pm, an, cdv, ct, osl, rfl, lk, hcd⟩ := F.ex
  refine ⟨fun A outer s H args Q E a oe hr hpin hz hf e0 hb hq => ?_⟩
  have KX : K.In s.heap := e0.mod.kin.keeps fun c o e => (e0.bs c o e).1
  have lim : s.heap.NoLimit := e0.mod.nolimit.keeps fun c o e => (e0.bs c o e).1
  have kinds : ∀ z ∈ [(y, Value.ref a)], (defScope st).names.lookup z.1 = some .local ∨ ((defScope st).names.lookup z.1 = some .cell ∧ ((cellsFrom (s.heap.objs.size + 1) (defScope st).names []).lookup z.1).isSome = true) := fun z hz => by
    have e : z = (y, Value.ref a) := by simpa using hz
    subst e
    exact (S.par y List.mem_cons_self).imp id fun k => ⟨k, PySem.W.cellsFrom_some _ _ _ (.inl k)⟩
  refine codeAny_call_function hr.depth (KX _ _ lk) rfl S.co S.gen rfl (PySem.W.codeRec_of KX hcd) (hb _ _ _ _ (wpAny_newFunctionEnv_cells S.kind kinds fun env he s1 lay => ?_))
  subst he
  refine ⟨lim.keeps lay.toInCall.keep, codeAny_func ?_⟩
  have rv : Vals [V.ref a] [Value.ref a] := .cons rfl .nil
  have I := inv_startH (CX := CX) (E := E) (ps := [y]) (us := [Value.ref a]) S hpin e0 rfl rv lay
  have h0 : (L2.start N [V.ref a])[0]? = some (some (V.ref a)) := rfl
  refine wpAny_mono ((body cdv A outer s H E a oe hz hf).run [] s1 (L2.start N [V.ref a]) H { nx := fun _ _ => False, rt := Q } I ⟨h0, hq⟩) (fun r s2 done => ?_) fun _ _ z => z
  cases r with
  | ret u =>
    obtain ⟨v, σ2, H2, J, ru, q2⟩ := done
    exact ⟨v, H2, J.os, J.bare, J.base, J.hok, ru, q2⟩
  | next =>
    obtain ⟨_, _, _, z⟩ := done
    exact z.elim
  | brk =>
    obtain ⟨_, _, _, z⟩ := done
    exact z.elim
  | cont =>
    obtain ⟨_, _, _, z⟩ := done
    exact z.elim
end
section
variable {X : Cx} {i k : Nat} {a D f : Addr} {oe : Obj} {pn : List (Addr × Obj)} {b : Bool} {p pos px : Pos} {fd : FuncData} {x y n : Str}
/-- it is asked in the suite -/
theorem xEcall (F : FnE X.prog X.w X.K X.mg X.base (L2.CX X.prog X.w) k f fd y D b) (hr : Room k X.A) (hz : Zc (.ref D) none oe) (hf : ∃ vs, oe.data = .fields vs) (hg : Gl (X.suite a ((a, oe) :: pn)) x) (hm : X.mg x = some (.ref f)) (hk : PySem.W.keepIn X.K (.ref f) = true) (hb : Binds X.K fd [y] [])
    (he : PE (X.suite a ((a, oe) :: pn)) (.Name n px) (tVar i)) (hdb : (x == ("__debug__" : Str)) = false := by decide) (hs : starEach [.Name n px] X.env = (false, eval (.Name n px) X.env) :: starEach [] X.env := by rfl) :
    PE (X.suite a ((a, oe) :: pn)) (.Call (.Name x p) [.Name n px] [] pos) (tEc i a b) := by
  refine ⟨fun pins s σ H Q I q => ?_⟩
  refine wpAny_Call_Name_kw (ld_glob I hg hm (PySem.W.callWith_K (h₀ := X.base) I.ok.mod.kin hk (thn ((pa_cons he pa_nil hs).run pos pins s σ H (fun vs H2 => vs = [V.ref a] ∧ Q (.bl b) H2) I ⟨_, q.1, rfl, q.2⟩) fun us s1 ⟨vs, H1, I1, r, ev, q1⟩ => ⟨I1.kIn, ?_⟩) hs rfl) hdb)
  subst ev
  have eu := Vals.ref1 r
  subst eu
  have P1 := I1.pin (a, oe) (List.mem_append_left _ List.mem_cons_self)
  have hpin : PinOk X.stack H1 s1 (a, oe) := ⟨P1.1, P1.2.1, fun hm => (List.mem_cons.mp (I1.stkSub a hm)).elim P1.2.2.1 P1.2.2.2.1, P1.2.2.2.2⟩
  have bd := hb s1 [Value.ref a] I1.kIn rfl
  refine wpAny_call (codeAny_mono (F.run _ X.stack s1 H1 ⟨[.ref a], []⟩ Q (fun _ _ _ => False) a oe ⟨hr.dp, hr.un⟩ hpin hz hf I1.env0 bd q1) fun r s2 hq => ?_)
  cases r with
  | error e =>
    obtain ⟨_, _, _, _, _, _, _, _, _, _, _, _, z⟩ := hq
    exact z.elim
  | ok fl =>
    cases fl with
    | ret u => exact I1.after hq
    | next => exact False.elim hq
    | brk => exact False.elim hq
    | cont => exact False.elim hq
end
/-! ### suites as plain rows: the slot of the exception is .x -/
section
variable {X : Cx} {W : WF} {cm : Str → Addr} {K : PySem.W.Frag} {h : Hs} {ρ : Env} {σ : L2.St} {i j k : Nat} {a D : Addr} {b : Bool}
def isxF (a : Addr) (i : Nat) (b : Bool) : EF := fun ρ => match slot ρ i with
  | .x c => if c = a then .ok (.v (.bool b)) else .bad
  | _ => .bad
theorem isx_now {Q : VK} {h : Hs} (R : Rel K h ρ σ) (q : PE1 K W h ρ σ Q (isxF a i b ρ)) : σ[i]? = some (some (.ref a)) ∧ PE1 K W h ρ σ Q (.ok (.v (.bool b))) := by
  unfold isxF at q
  cases es : slot ρ i with
  | x c =>
    rw [es] at q
    dsimp only at q
    split at q
    · rename_i e
      subst e
      obtain ⟨x, ex, rfl⟩ := R.get (slot_some es (by intro z; cases z))
      exact ⟨ex, q⟩
    · exact q.elim
  | _ =>
    rw [es] at q
    exact q.elim
theorem xIx {e : Expr} (he : PE X e (tEc i a b)) : PE X e (tX X.K W (isxF a i b)) := peTo he fun σ H Q q => by
  obtain ⟨h, ρ, rfl, R, q⟩ := tX_iff.mp q
  obtain ⟨e1, q1⟩ := isx_now R q
  exact ⟨e1, q1.now R (.bl b)⟩
/-- isinstance(e, (C1, C2, ..)) -/
def rIsET (K : PySem.W.Frag) (D a : Addr) : List V → Hp → VK → Prop := fun xs H Q => ∃ (tp : Addr) (cs : List V) (us : List Value) (b : Bool), xs = [.ref a, .ref tp] ∧ H tp = some (.tup cs) ∧ Paired ClsV cs us ∧ PySem.W.kitAny K (.ref D) us = some b ∧ Q (.bl b) H
theorem call_isET {oe : Obj} {pn : List (Addr × Obj)} (C : ExcC X.K D) (hz : Zc (.ref D) none oe) (hf : ∃ vs, oe.data = .fields vs) : CallR (X.suite a ((a, oe) :: pn)) (.builtin "isinstance") (rIsET X.K D a) := by
  intro pins s σ H xs us Q I r h
  obtain ⟨tp, cs, ws, b, rfl, hT, k, e, q⟩ := h
  obtain ⟨u1, u2, rfl, r1, r2⟩ := Vals.two r
  cases (show u1 = Value.ref a from r1)
  cases (show u2 = Value.ref tp from r2)
  obtain ⟨hget, _⟩ := I.pin (a, oe) (List.mem_append.mpr (.inl List.mem_cons_self))
  obtain ⟨vs, hv⟩ := hf
  have J : PySem.W.InstAt s.heap a oe D none := by
    obtain ⟨oc, od, oda, osl⟩ := oe
    obtain ⟨h1, h2⟩ := hz
    dsimp only at h1 h2 hv
    subst h1 h2 hv
    exact ⟨hget, rfl, rfl, trivial⟩
  obtain ⟨_, its, rv, o, h1, h2, n, h3⟩ := (show ObjOk X.prog X.w H s.heap tp (.tup cs) from I.hok tp _ hT)
  have e3 := ClsV.all k rv
  subst e3
  obtain ⟨oc, od, dt, sl⟩ := o
  simp only at h2 h3
  subst h2 h3
  exact PySem.W.kia_tup (PySem.W.handS_kitx_exc C.hg C.hk C.hs C.hd C.ha C.hn C.ht C.hm) I.kIn J h1 e (fun z => nomatch z) fun tk => ⟨.bl b, H, I.kept (t' := tk) fun _ _ z => z, rfl, q⟩
/-- names of classes, one after the other -/
def tCls (cs : List V) : TA := fun σ H Q => Q cs H
theorem xcls_nil : PA X [] (tCls []) := paTo pa_nil fun σ H Q q => q
theorem xcls_cons {e : Expr} {es : List Expr} {c : V} {cs : List V} (he : PE X e (tC c)) (hr : PA X es (tCls cs)) (hs : starEach (e :: es) X.env = (false, eval e X.env) :: starEach es X.env := by rfl) : PA X (e :: es) (tCls (c :: cs)) := paTo (pa_cons he hr hs) fun σ H Q q => q
theorem xIxT {oe : Obj} {pn : List (Addr × Obj)} {x : Str} {es : List Expr} {p px pos pT : Pos} {x1} {cs : List V} {us : List Value} (C : ExcC X.K D) (hz : Zc (.ref D) none oe) (hf : ∃ vs, oe.data = .fields vs) (hg : Gl (X.suite a ((a, oe) :: pn)) "isinstance") (hm : X.mg "isinstance" = none) (he : PE (X.suite a ((a, oe) :: pn)) (.Name x px) (tVar i)) (hT : PA (X.suite a ((a, oe) :: pn)) es (tCls cs)) (hp : Paired ClsV cs us) (hk : PySem.W.kitAny X.K (.ref D) us = some b) (hl : cs.length ≤ 1000 := by exact Nat.le_of_ble_eq_true rfl)
    (hs : starEach [.Name x px, .Tuple es x1 pT] X.env = (false, eval (.Name x px) X.env) :: starEach [.Tuple es x1 pT] X.env := by rfl) (hs2 : starEach [.Tuple es x1 pT] X.env = (false, eval (.Tuple es x1 pT) X.env) :: starEach [] X.env := by rfl) :
    PE (X.suite a ((a, oe) :: pn)) (.Call (.Name "isinstance" p) [.Name x px, .Tuple es x1 pT] [] pos) (tX X.K W (isxF a i b)) := by
  refine peTo (pe_callB (call_isET C hz hf) hg hm boot_isinstance (pa_cons he (pa_cons (pe_tup hT) pa_nil hs2) hs) (he := hs) (hpl := by rw [hs2]; rfl)) fun σ H Q q => ?_
  obtain ⟨h, ρ, rfl, R, q⟩ := tX_iff.mp q
  obtain ⟨e1, q1⟩ := isx_now R q
  refine ⟨_, e1, sz100 (by omega), fun t ht => ?_⟩
  exact ⟨t, cs, us, b, rfl, upd_same, hp, hk, q1 (.bl b) (h.newO t (.tup cs)) (R.newO ht) (Gr.newO R.ch ht) (.bl b)⟩
theorem cls_nil : Paired ClsV [] [] := .nil
theorem cls_own {C : Addr} {cs : List V} {us : List Value} (h : Paired ClsV cs us) : Paired ClsV (.ref C :: cs) (.ref C :: us) := .cons (.own C) h
theorem cls_ty {n : String} {cs : List V} {us : List Value} (h : Paired ClsV cs us) : Paired ClsV (.ty n :: cs) (.type n :: us) := .cons (.ty n) h
theorem any_t {t c : Value} {cs : List Value} (h : PySem.W.kitOne K t c = some true) : PySem.W.kitAny K t (c :: cs) = some true := kitAny_cons h (fun z => nomatch z) fun _ => rfl
theorem any_f {t c : Value} {cs : List Value} {r : Bool} (h : PySem.W.kitOne K t c = some false) (hr : PySem.W.kitAny K t cs = some r) : PySem.W.kitAny K t (c :: cs) = some r := kitAny_cons h (fun _ => hr) fun z => nomatch z
theorem any_nil {t : Value} : PySem.W.kitAny K t [] = some false := kitAny_nil
/-! rows that do not look at the address -/
def Bl {α : Type} (i : Nat) (F : Addr → Env → α) : Prop := ∀ (a : Addr) (ρ : Env), F a (ρ.set i (.x a)) = F 0 (ρ.set i (.x 0))
def setX (i : Nat) (a : Addr) : Res → Res
  | .next ρ => .next (ρ.set i (.x a))
  | .ret r => .ret r
  | .brk ρ => .brk (ρ.set i (.x a))
  | .cont ρ => .cont (ρ.set i (.x a))
  | .exc c p ρ => .exc c p (ρ.set i (.x a))
  | .bad => .bad
def BlS (i : Nat) (F : Addr → SF) : Prop := ∀ (a : Addr) (ρ : Env), F a (ρ.set i (.x a)) = setX i a (F 0 (ρ.set i (.x 0)))
theorem slot_set_ne {s : Sl} (h : i ≠ k) : slot (ρ.set i s) k = slot ρ k := by
  unfold slot
  rw [List.getD_eq_getElem?_getD, List.getD_eq_getElem?_getD, List.getElem?_set_ne h]
theorem slot_set_x : slot (ρ.set i (.x a)) i = if i < ρ.length then .x a else .u := by
  unfold slot
  rw [List.getD_eq_getElem?_getD, List.getElem?_set]
  simp only [if_true]
  split <;> rfl
theorem bl_var : Bl i (fun _ => varF k) := fun a ρ => by
  show (slot (ρ.set i (.x a)) k).rd = (slot (ρ.set i (.x 0)) k).rd
  by_cases hk : i = k
  · subst hk
    rw [slot_set_x, slot_set_x]
    split <;> rfl
  · rw [slot_set_ne hk, slot_set_ne hk]
theorem bl_isx : Bl i (fun a => isxF a i b) := fun a ρ => by
  show isxF a i b (ρ.set i (.x a)) = isxF 0 i b (ρ.set i (.x 0))
  unfold isxF
  rw [slot_set_x, slot_set_x]
  by_cases hl : i < ρ.length
  · rw [if_pos hl, if_pos hl]
    simp
  · rw [if_neg hl, if_neg hl]
theorem bl_c {d : PyData} : Bl i (fun _ => cF d) := fun a ρ => rfl
theorem bl_bin {φ : Rv → Rv → Er Rv} {F G : Addr → EF} (h1 : Bl i F) (h2 : Bl i G) : Bl i (fun a => binF φ (F a) (G a)) := fun a ρ => by simp only [binF, h1 a ρ, h2 a ρ]
theorem bl_un {φ : Rv → Er Rv} {F : Addr → EF} (h1 : Bl i F) : Bl i (fun a => unF φ (F a)) := fun a ρ => by simp only [unF, h1 a ρ]
theorem bl_and {F G : Addr → EF} (h1 : Bl i F) (h2 : Bl i G) : Bl i (fun a => andF (F a) (G a)) := fun a ρ => by simp only [andF, h1 a ρ, h2 a ρ]
theorem bl_or {F G : Addr → EF} (h1 : Bl i F) (h2 : Bl i G) : Bl i (fun a => orF (F a) (G a)) := fun a ρ => by simp only [orF, h1 a ρ, h2 a ρ]
theorem bl_not {F : Addr → EF} (h1 : Bl i F) : Bl i (fun a => notF (F a)) := fun a ρ => by simp only [notF, h1 a ρ]
theorem bl_nil : Bl i (fun _ => aNil) := fun a ρ => rfl
theorem bl_cons {F : Addr → EF} {G : Addr → AF} (h1 : Bl i F) (h2 : Bl i G) : Bl i (fun a => aCons (F a) (G a)) := fun a ρ => by simp only [aCons, h1 a ρ, h2 a ρ]
theorem bl_lst {F : Addr → AF} (h1 : Bl i F) : Bl i (fun a => lstF (F a)) := fun a ρ => by simp only [lstF, h1 a ρ]
theorem bl_tup {F : Addr → AF} (h1 : Bl i F) : Bl i (fun a => tupF (F a)) := fun a ρ => by simp only [tupF, h1 a ρ]
theorem bl_call {g : List Sl → Fr} {F : Addr → AF} (h1 : Bl i F) : Bl i (fun a => callF g (F a)) := fun a ρ => by simp only [callF, h1 a ρ]
theorem bl_tst {F : Addr → EF} (h1 : Bl i F) : Bl i (fun a => tstF (F a)) := fun a ρ => by simp only [tstF, h1 a ρ]
theorem bl_andT {F G : Addr → Env → Er Bool} (h1 : Bl i F) (h2 : Bl i G) : Bl i (fun a => andT (F a) (G a)) := fun a ρ => by simp only [andT, h1 a ρ, h2 a ρ]
theorem bl_orT {F G : Addr → Env → Er Bool} (h1 : Bl i F) (h2 : Bl i G) : Bl i (fun a => orT (F a) (G a)) := fun a ρ => by simp only [orT, h1 a ρ, h2 a ρ]
theorem bl_notT {F : Addr → Env → Er Bool} (h1 : Bl i F) : Bl i (fun a => notT (F a)) := fun a ρ => by simp only [notT, h1 a ρ]
theorem set_again {s t : Sl} (h : j ≠ i) : (ρ.set i s).set j t = ((ρ.set i (.x 0)).set j t).set i s := by
  apply List.ext_getElem?
  intro k
  simp only [List.getElem?_set, List.length_set]
  by_cases h1 : j = k
  · subst h1
    simp [Ne.symm h]
  · by_cases h2 : i = k
    · subst h2
      simp [h]
    · simp [h1, h2]
theorem bls_asg {F : Addr → EF} (hj : j ≠ i) (h1 : Bl i F) : BlS i (fun a => asgS (F a) (asgn j)) := fun a ρ => by
  simp only [asgS, h1 a ρ]
  cases F 0 (ρ.set i (.x 0)) with
  | ok r =>
    cases r with
    | r d =>
      simp only [thenS, asgn]
      split
      · simp only [liftE, setX]; rw [← set_again hj]
      · rfl
    | v d => simp only [thenS, asgn, liftE, setX]; rw [← set_again hj]
    | b d => simp only [thenS, asgn, liftE, setX]; rw [← set_again hj]
    | o d => simp only [thenS, asgn, liftE, setX]; rw [← set_again hj]
    | ok d => simp only [thenS, asgn, liftE, setX]; rw [← set_again hj]
    | ot d => simp only [thenS, asgn, liftE, setX]; rw [← set_again hj]
    | on d => simp only [thenS, asgn, liftE, setX]; rw [← set_again hj]
    | oi c fs => simp only [thenS, asgn, liftE, setX]; rw [← set_again hj]
    | _ => rfl
  | exc c p => simp only [thenS, setX, List.set_set]
  | bad => rfl
theorem bls_seq {F G : Addr → SF} (h1 : BlS i F) (h2 : BlS i G) : BlS i (fun a => seqS (F a) (G a)) := fun a ρ => by
  have e0 := h1 0 ρ
  simp only [seqS, h1 a ρ]
  cases ef : F 0 (ρ.set i (.x 0)) with
  | next ρ1 =>
    rw [ef] at e0
    have e1 : ρ1 = ρ1.set i (.x 0) := Res.next.inj e0
    have e2 := h2 a ρ1
    rw [← e1] at e2
    exact e2
  | _ => rfl
theorem bls_skip : BlS i (fun _ => skipS) := fun a ρ => by simp only [skipS, setX, List.set_set]
theorem bls_if {T : Addr → Env → Er Bool} {F G : Addr → SF} (ht : Bl i T) (h1 : BlS i F) (h2 : BlS i G) : BlS i (fun a => ifS (T a) (F a) (G a)) := fun a ρ => by
  simp only [ifS, ht a ρ]
  cases T 0 (ρ.set i (.x 0)) with
  | ok b =>
    simp only [thenT]
    cases b with
    | true => exact h1 a ρ
    | false => exact h2 a ρ
  | exc c p => simp only [thenT, setX, List.set_set]
  | bad => rfl
theorem bls_frz {F : Addr → SF} (hj : j ≠ i) (h1 : BlS i F) : BlS i (fun a => frzS j (F a)) := fun a ρ => by
  have : ∀ a : Addr, frzE (ρ.set i (.x a)) j = (frzE ρ j).set i (.x a) := fun a => by
    unfold frzE
    rw [slot_set_ne (Ne.symm hj), List.set_comm _ _ hj]
  simp only [frzS, this]
  exact h1 a _
def tryXS (f : SF) (m : Str → Option Bool) (i : Nat) (g : Str → Addr → SF) : SF := fun ρ => match f ρ with
  | .exc c none ρ' => match m c with
    | some true => if i < ρ'.length then wipeRes i (g c 0 (ρ'.set i (.x 0))) else .bad
    | some false => .exc c none ρ'
    | none => .bad
  | .exc c (some p) ρ' => match m c with
    | some false => .exc c (some p) ρ'
    | _ => .bad
  | r => r
theorem Rel.x (R : Rel K h ρ σ) (i : Nat) (a : Addr) : Rel K h (ρ.set i (.x a)) (σ.set i (some (.ref a))) := R.set i rfl fun _ _ _ z => nomatch z
theorem xtryX {x n : Str} {c : Value} {body suite : List Stmt} {b₀ : Stmt} {np pos pos' : Pos} {f : SF} {g : Str → Addr → SF} {yes no : List Str} (tk : Tk X cm W) (hs : X.stack = X.env :: X.outer) (hf : X.env.frame = some X.env.locals) (hN : X.N.Nodup) (hi : X.N[i]? = some n) (hln : X.env.kindOf n = some .local) (hc : Names X x c)
    (hy : ∀ d ∈ yes, PySem.W.exmOne X.K (.ref (cm d)) c = some true) (hn : ∀ d ∈ no, PySem.W.exmOne X.K (.ref (cm d)) c = some false)
    (hb : ∀ (Wx : WX) (pn : List (Addr × Obj)) (xe : Value → Shared → Prop), Tk (X.tr pn xe) cm (WFx X.K cm Wx) → PassesOwn (model X.prog X.w) X.A X.env xe → PSs (X.tr pn xe) body (tS X.K (WFx X.K cm Wx) f))
    (hsu : ∀ d ∈ yes, ∀ (a : Addr) (oe : Obj) (pn : List (Addr × Obj)), Zc (.ref (cm d)) none oe → (∃ vs, oe.data = .fields vs) → PSs (X.suite a ((a, oe) :: pn)) (b₀ :: suite) (tS X.K WN (g d a)))
    (hbl : ∀ d ∈ yes, BlS i (g d)) :
    PS X (.Try body [.ExceptHandler (some (.Name x np)) (some n) (b₀ :: suite) pos'] [] [] pos) (tS X.K W (tryXS f (mL yes no) i g)) := by
  obtain ⟨Wx, tk, hW⟩ := tk
  refine psTo (ps_try_as (tb := fun Wx => tS X.K (WFx X.K cm Wx) f) (ts := fun a cls d => fun D σ H => ∃ e, e ∈ yes ∧ cls = .ref (cm e) ∧ d = none ∧ tS X.K WN (g e a) D σ H) hs hf hN hi hln hc tk (fun Wx pn xe tk hpo => hb Wx pn xe (tkOf tk) hpo) fun a oe cls d pn hz hfl => ⟨fun pins s σ H D I hw => ?_⟩) fun D σ H hq => ?_
  · obtain ⟨e, he, rfl, rfl, hw⟩ := hw
    exact (hsu e he a oe pn hz hfl).run pins s σ H D I hw
  obtain ⟨h, ρ, e, R, q⟩ := id hq
  subst e
  refine ⟨h, ρ, rfl, R, ?_⟩
  unfold tryXS at q
  cases ef : f ρ with
  | next ρ' => rw [ef] at q; exact q
  | ret r => rw [ef] at q; exact q
  | brk ρ' => rw [ef] at q; exact q
  | cont ρ' => rw [ef] at q; exact q
  | bad => rw [ef] at q; exact q.elim
  | exc d p ρ' =>
    rw [ef] at q
    intro σ' h' R' g'
    cases p with
    | none =>
      dsimp only at q
      cases em : mL yes no d with
      | none => rw [em] at q; exact q.elim
      | some b =>
        rw [em] at q
        have hx := mL_exm hy hn em
        cases b with
        | false => exact ⟨false, hx, fun z => (nomatch z), fun _ => hW _ _ _ _ (q σ' h' R' g')⟩
        | true =>
          dsimp only at q
          split at q
          rotate_left
          · exact q.elim
          refine ⟨true, hx, fun _ a _ => ⟨d, mL_yes em, rfl, rfl, h', ρ'.set i (.x a), rfl, R'.x i a, ?_⟩, fun z => nomatch z⟩
          rw [hbl d (mL_yes em) a ρ']
          have q' := Post.shift g' q
          cases eg : g d 0 (ρ'.set i (.x 0)) with
          | next ρ2 =>
            rw [eg] at q'
            exact fun σ2 h2 R2 g2 => q' _ h2 (by
              have := R2.u i none
              rw [List.set_set] at this
              exact this) g2
          | ret r => rw [eg] at q'; exact q'
          | _ => rw [eg] at q'; exact q'.elim
    | some p =>
      dsimp only at q
      cases em : mL yes no d with
      | none => rw [em] at q; exact q.elim
      | some b =>
        rw [em] at q
        have hx := mL_exm hy hn em
        cases b with
        | true => exact q.elim
        | false =>
          have := hW _ _ _ _ (q σ' h' R' g')
          exact fun dd v e1 e2 => ⟨false, hx, fun z => (nomatch z), fun _ => this dd v e1 e2⟩
end
/-! ### texts -/
section
variable {X : Cx} {W : WF} {cm : Str → Addr} {K : PySem.W.Frag} {a b e : Expr} {f g : EF} {pos : Pos}
def dStrs : List D → Option (List Str)
  | [] => some []
  | .str a :: r => (dStrs r).map (a :: ·)
  | _ => none
theorem dStrs_v {H : Hp} : ∀ {ds : List D} {vs : List V} {ns : List Str}, dStrs ds = some ns → DpAll K H vs ds → vs = ns.map V.str
  | [], _, _, e, h => by
    cases e
    cases h
    rfl
  | .str a :: r, _, _, e, h => by
    unfold dStrs at e
    cases h with
    | cons h t =>
      cases e1 : dStrs r with
      | none => rw [e1] at e; cases e
      | some ms =>
        rw [e1] at e
        cases e
        rw [dp_str h, dStrs_v e1 t]
        rfl
  | .none :: _, _, _, e, _ => by cases e
  | .int _ :: _, _, _, e, _ => by cases e
  | .bool _ :: _, _, _, e, _ => by cases e
  | .list _ :: _, _, _, e, _ => by cases e
  | .tuple _ :: _, _, _, e, _ => by cases e
  | .dict _ :: _, _, _, e, _ => by cases e
/-- s.m(b): s a text -/
def strM (χ : Str → Rv → Er Rv) (f g : EF) : EF := fun ρ => (f ρ).bind fun a => match a.dat with
  | some (.str s) => (g ρ).bind fun b => χ s b
  | _ => .bad
def MOk (K : PySem.W.Frag) (W : WF) (χ : Str → Rv → Er Rv) (r : V → List V → Hp → VK → Prop) : Prop :=
  ∀ (h0 h : Hs) (ρ : Env) (σ : L2.St) (s : Str) (y : V) (b : Rv) (Q : VK), Rel K h0 ρ σ → Rel K h ρ σ → Gr h0 h → RvOk K h0.H h y b → PE1 K W h ρ σ Q (χ s b) → r (.str s) [y] h.H Q
theorem strM_of {χ : Str → Rv → Er Rv} {r : V → List V → Hp → VK → Prop} (hr : MOk K W χ r) : ∀ σ H Q, tX K W (strM χ f g) σ H Q → tM1 r (tX K W f) (tX K W g) σ H Q := by
  intro σ H Q q
  obtain ⟨h, ρ, rfl, R, q⟩ := tX_iff.mp q
  refine (tX_mk (f := f) R (q.bind fun a x h1 ea R1 g1 ok1 q1 => ?_) : tX K W f σ h.H _)
  split at q1
  · rename_i s es
    have e1 := dp_str (ok1.dp R1.ch es)
    subst e1
    refine ⟨⟨s, rfl⟩, (tX_mk (f := g) R1 (q1.bind fun b y h2 _ R2 g2 ok2 q2 => ?_) : tX K W g σ h1.H _)⟩
    exact hr h1 h2 ρ σ s y b Q R1 R2 g2 ok2 q2
  · exact q1.elim
def joinR (s : Str) (b : Rv) : Er Rv := match b.dat with
  | some (.list ds) => (match dStrs ds with
    | some ys => if (ys.map (·.length)).sum + ys.length * s.length ≤ 16777216 then .ok (.v (.str (Txt.join s ys))) else .bad
    | none => .bad)
  | _ => .bad
theorem xjoin {apos : Pos} (ha : PE X a (tX X.K W f)) (hb : PE X b (tX X.K W g)) (hs : starEach [b] X.env = [(false, eval b X.env)] := by rfl) (hbase : attributeBase a "join" X.env (eval a X.env) = eval a X.env := by rfl) (hline : (apos.endLine == pos.line) = true := by rfl) :
    PE X (.Call (.Attribute a "join" apos) [b] [] pos) (tX X.K W (strM joinR f g)) := peTo (pe_join ha hb hs hbase hline) (strM_of fun h0 h ρ σ s y b Q R0 R g ok q => by
  unfold joinR at q
  split at q
  · rename_i ds ed
    obtain ⟨p, vs, rfl, sl, d⟩ := dp_lst (ok.dp R.ch ed)
    split at q
    · rename_i ys ey
      rw [dStrs_v ey d] at sl
      split at q
      · rename_i hz
        exact ⟨s, p, ys, rfl, rfl, .inl sl, hz, q.now R (.str _)⟩
      · exact q.elim
    · exact q.elim
  · exact q.elim)
def splitR (s : Str) (b : Rv) : Er Rv := match b.dat with
  | some (.str t) => if t.length ≠ 0 ∧ s.length + 2 ≤ 100000 then .ok (.o ((Txt.split s t).map .str)) else .bad
  | _ => .bad
theorem strs_dp {H : Hp} : ∀ ys : List Str, DpAll K H (ys.map V.str) (ys.map PyData.str)
  | [] => .nil
  | y :: ys => .cons (.str y) (strs_dp ys)
theorem xsplit {apos : Pos} (ha : PE X a (tX X.K W f)) (hb : PE X b (tX X.K W g)) (hs : starEach [b] X.env = [(false, eval b X.env)] := by rfl) (hbase : attributeBase a "split" X.env (eval a X.env) = eval a X.env := by rfl) (hline : (apos.endLine == pos.line) = true := by rfl) :
    PE X (.Call (.Attribute a "split" apos) [b] [] pos) (tX X.K W (strM splitR f g)) := peTo (pe_split ha hb hs hbase hline) (strM_of fun h0 h ρ σ s y b Q R0 R g ok q => by
  unfold splitR at q
  split at q
  · rename_i t et
    have e1 := dp_str (ok.dp R.ch et)
    subst e1
    split at q
    · rename_i hz
      exact ⟨s, t, rfl, rfl, by simpa using hz.1, sz100 hz.2, fun p hp => q.newL R (strs_dp _) hp⟩
    · exact q.elim
  · exact q.elim)
def findR (s : Str) (b : Rv) : Er Rv := match b.dat with
  | some (.str t) => .ok (.v (.int (Txt.find s t)))
  | _ => .bad
theorem xfind {apos : Pos} (ha : PE X a (tX X.K W f)) (hb : PE X b (tX X.K W g)) (hs : starEach [b] X.env = [(false, eval b X.env)] := by rfl) (hbase : attributeBase a "find" X.env (eval a X.env) = eval a X.env := by rfl) (hline : (apos.endLine == pos.line) = true := by rfl) :
    PE X (.Call (.Attribute a "find" apos) [b] [] pos) (tX X.K W (strM findR f g)) := peTo (pe_m1 F.slot_str_find F.type_str_find mt_find ha hb hs hbase hline) (strM_of fun h0 h ρ σ s y b Q R0 R g ok q => by
  unfold findR at q
  split at q
  · rename_i t et
    have e1 := dp_str (ok.dp R.ch et)
    subst e1
    exact ⟨s, t, rfl, rfl, q.now R (.int _)⟩
  · exact q.elim)
/-- a text, often -/
def srep : D → D → Er D := fun x y => match x, y with
  | .str s, .int k => if s.length ≤ 100 ∧ -(2 ^ 63) ≤ k ∧ k ≤ 10000 then .ok (.str (Txt.mul s k)) else .bad
  | _, _ => .bad
def rSrep : R2 := fun x y H Q => ∃ s k, x = .str s ∧ y = .int k ∧ (s.length ≤ 100 ∧ -(2 ^ 63) ≤ k ∧ k ≤ 10000) ∧ Q (.str (Txt.mul s k)) H
theorem op_srep : OpR X (binaryOp .Mult) rSrep := by
  intro pins s σ H x y v u Q I rx ry h
  obtain ⟨z, k, rfl, rfl, hc, q⟩ := h
  obtain ⟨t, rfl⟩ := rx
  obtain ⟨t2, rfl⟩ := ry
  exact SB.mul (mulOk_of 100 10000 hc.1 hc.2.2 hc.2.1 (by decide) (by decide)) fun t' k => ⟨.str _, H, I.tok k, ⟨t', rfl⟩, q⟩
theorem ok_srep : OpOk K W (flat2 srep) rSrep := by
  refine flat_ok (fun x y c p e => ?_) (fun H x y d e f Q h1 h2 e1 q => ?_) fun d e f e1 => ?_
  · unfold srep at e; split at e; (· split at e <;> cases e); cases e
  · unfold srep at e1
    split at e1
    · split at e1
      · rename_i hc
        cases e1
        exact ⟨_, _, dp_str h1, dp_int h2, hc, q _ rfl⟩
      · cases e1
    · cases e1
  · unfold srep at e1
    split at e1
    · split at e1
      · cases e1; rfl
      · cases e1
    · cases e1
theorem xsrep (ha : PE X a (tX X.K W f)) (hb : PE X b (tX X.K W g)) : PE X (.BinOp a .Mult b pos) (tX X.K W (binF (flat2 srep) f g)) := peTo (pe_op op_srep ha hb) (bin_of ok_srep)
/-- a call with nothing handed over -/
theorem xcall0 {k : Nat} {f : Addr} {fd : FuncData} {g : List Sl → Fr} {x : Str} {p pos : Pos} (tk : Tk X cm W) (F : FnOk X.prog X.w X.K X.mg X.base (L2.CX X.prog X.w) k f fd [] (fsp X.K cm 0 g)) (hr : Room k X.A) (hg : Gl X x) (hm : X.mg x = some (.ref f)) (hk : PySem.W.keepIn X.K (.ref f) = true) (hb : Binds X.K fd [] [])
    (hdb : (x == ("__debug__" : Str)) = false := by decide) :
    PE X (.Call (.Name x p) [] [] pos) (tX X.K W (callF g aNil)) := by
  obtain ⟨Wx, tk, hW⟩ := tk
  have hp : PE X (.Call (.Name x p) [] [] pos) (fun σ H Q => fsp X.K cm 0 g [] H Q (WE Wx σ)) := ⟨fun pins s σ H Q I h => by
    refine wpAny_Call_Name_kw (ld_glob I hg hm ?_ hdb)
    exact PySem.W.callWith_K0 I.kIn hk (run_fnS (E := WE Wx) (us := []) F hr hb (passAt tk σ) I .nil h)⟩
  refine peTo hp fun σ H Q q => ?_
  obtain ⟨h, ρ, rfl, R, q⟩ := tX_iff.mp q
  have q1 : PE1 X.K W h ρ σ Q (g []).rv := q
  refine ⟨rfl, h.G, [], R.ch.gh, trivial, ?_⟩
  cases eg : g [] with
  | bad => rw [eg] at q1; exact q1.elim
  | exc c p =>
    rw [eg] at q1
    cases p with
    | none =>
      intro G' H' cg
      obtain ⟨gr, ch⟩ := call_gr R.ch cg
      exact hW _ _ _ _ (q1 (h.call G' H') (R.grow gr ch) gr)
    | some p =>
      obtain ⟨ff, xx⟩ := p
      intro G' H' d v cg hd hv
      obtain ⟨gr, ch⟩ := call_gr R.ch cg
      exact hW _ _ _ _ (q1 (h.call G' H') (R.grow gr ch) gr) d v hd hv
  | ret res =>
    rw [eg] at q1
    intro v G' H' cg ok'
    obtain ⟨gr, ch⟩ := call_gr R.ch cg
    have R2 := R.grow gr ch
    cases res with
    | v d => exact q1 v (h.call G' H') R2 gr ok'
    | b d => exact q1 v (h.call G' H') R2 gr ok'
    | o xs =>
      obtain ⟨l, ws, ev, n, a, b, d⟩ := ok'
      refine q1 v (h.call G' H') R2 gr ⟨l, ws, ev, n, a, ?_, d⟩
      show (match h.F l with | some o => some o | none => G' l) = none
      rw [R.ch.fh.back n]
      exact b
    | ok xs =>
      obtain ⟨l, ws, ev, n, a, b, d⟩ := ok'
      refine q1 v (h.call G' H') R2 gr ⟨l, ws, ev, n, a, ?_, d⟩
      show (match h.F l with | some o => some o | none => G' l) = none
      rw [R.ch.fh.back n]
      exact b
    | p2 xs ys =>
      obtain ⟨t, l, m, vs', ws, ev, ht, ne, ⟨n, a, b, d⟩, ⟨n2, a2, b2, d2⟩⟩ := ok'
      refine q1 v (h.call G' H') R2 gr ⟨t, l, m, vs', ws, ev, ht, ne, ⟨n, a, ?_, d⟩, ⟨n2, a2, ?_, d2⟩⟩
      · show (match h.F l with | some o => some o | none => G' l) = none
        rw [R.ch.fh.back n]
        exact b
      · show (match h.F m with | some o => some o | none => G' m) = none
        rw [R.ch.fh.back n2]
        exact b2
    | _ => exact q1.elim
end
end Sq
/-! sep.join(reversed(a list)) -/
namespace RT
open PySem PySem.Spec PyProof.Rows L2
section
variable {prog : Program} {w : World} {A : Around} {E : Value → Shared → Prop} {s : Shared}
theorem join_rev {x : Str} {t : Tok} {ys : List Str} {it l : Addr} {items : Array Value} {Q : Value → Shared → Prop} (hh : A.handled = none) (hit : s.heap.IsRevIter it l ((items.size : Int) - 1)) (hl : s.heap.IsList l items) (hne : l ≠ it) (hn : items.size ≤ sizeLine)
    (hP : ∀ acc : Array Value, ItemsOf (fun i v => items[items.size - 1 - i]? = some v) acc items.size → StrsAre acc.toList ys) (hok : (ys.map (·.length)).sum + ys.length * x.length ≤ 16777216)
    (hq : ∀ (h' : Heap) (tk : Nat) (t' : Tok), (∀ b o, b ≠ it → s.heap.get? b = some o → h'.get? b = some o) → Q (.str (Txt.join x ys) t') { s with heap := h', toks := tk }) :
    wpAny (model prog w) A (call (.builtin "str.join") [.str x t, .ref it]) Q E s := by
  refine wpAny_call (codeAny_call_builtin F.slot_str_join.plain F.entry_str_join (F.slot_str_join.check _ _ _ _ _ _ _ _ (typeIs_str _ _ _) (F.args_str_join_2 _ _) ?_))
  rw [join_tree_other]
  refine wpAny_bind (wpAny_typeOf (Heap.IsRevIter.typeIs (s := s) hit) ?_)
  show wpAny _ A.in1 ((pyIter (.ref it)).tryCatch _ >>= fun it => collect it >>= fun items => joinTail x items) _ _ s
  refine wpAny_bind (wpAny_tryCatch (wpAny_pyIter_revIter (s := s) hit ?_))
  refine wpAny_bind (collect_rev (A := A.in1) hh hit hl hne hn fun h' tk acc hk hacc => ?_)
  obtain ⟨l', hl', ht⟩ := strsAre_values (hP acc hacc)
  subst ht
  rw [hl']
  have hok' := joinOk_of hok
  unfold JoinOk at hok'
  rw [Bool.not_eq_true'] at hok'
  have g : Gives (joinTail x (strValues l')) (joinMade x l') := by
    have g0 := gives_joinTail x l' hok'
    cases l' with
    | nil => exact g0
    | cons p r => cases r with
      | nil => exact g0
      | cons q r' => exact g0
  exact g prog w A (wants Q E) _ (post_join l' ⟨joinFit_length hok', fun t' k => hq h' k t' hk⟩)
end
section
variable {X : Cx}
def tJoinRev (K : PySem.W.Frag) (to te : TE) : TE := fun σ H Q => to σ H fun x H1 => (∃ a, x = .str a) ∧ te σ H1 fun v H2 => ∃ (a : Str) (p : Addr) (ys : List Str), x = .str a ∧ v = .ref p ∧ SqL K H2 p (ys.map V.str) ∧
  (ys.map (·.length)).sum + ys.length * a.length ≤ 16777216 ∧ Q (.str (Txt.join a ys.reverse)) H2
theorem pe_joinRev {o e : Expr} {to te : TE} {apos pos p2 pos2 : Pos} (hc : X.calm = true) (ho : PE X o to) (hg2 : Gl X "reversed") (hm2 : X.mg "reversed" = none) (he : PE X e te)
    (hs : starEach [e] X.env = (false, eval e X.env) :: starEach [] X.env := by rfl)
    (hs1 : starEach [.Call (.Name "reversed" p2) [e] [] pos2] X.env = [(false, eval (.Call (.Name "reversed" p2) [e] [] pos2) X.env)] := by rfl)
    (hbase : attributeBase o "join" X.env (eval o X.env) = eval o X.env := by rfl) (hline : (apos.endLine == pos.line) = true := by rfl) :
    PE X (.Call (.Attribute o "join" apos) [.Call (.Name "reversed" p2) [e] [] pos2] [] pos) (tJoinRev X.K to te) := by
  refine ⟨fun pins s σ H Q I h => ?_⟩
  refine PySem.Call_method1 hbase hs1 hline (thn (ho.run pins s σ H _ I h) fun v s1 ⟨x, H1, I1, r1, q1⟩ => ?_)
  obtain ⟨⟨a, rfl⟩, q1⟩ := q1
  obtain ⟨t, rfl⟩ := _root_.id r1
  refine ⟨"str", _, F.plainAttrs_str, F.slot_str_join, F.type_str_join, typeIs_str _ _ _, (fun _ e => nomatch e), Calls.callWith_builtin rfl (Calls.evalArgs_plain (Calls.spliced_cons ?_))⟩
  refine Call_ (ld_blt I1 hg2 hm2 PyProof.Rows.boot_reversed (PyProof.Rows.callWith_type1 (args_cons (thn (he.run pins s1 σ H1 _ I1 q1) fun u s2 ⟨v, H2, I2, r2, q2⟩ => args_nil ?_) hs) hs rfl))
  obtain ⟨a', l, ys, ea, ev, hq, hz, q⟩ := q2
  cases ea
  subst ev
  obtain rfl : u = Value.ref l := r2
  obtain ⟨its, rv, p', hz2⟩ := I2.list hq
  refine call_reversed_list p'.isList ?_
  have k0 : ∀ b o, s2.heap.get? b = some o → (s2.heap.push (revObj l ((its.toArray.size : Int) - 1))).get? b = some o := fun b o e => Heap.get?_push_of_some _ e
  have I3 : Inv X pins σ H2 { s2 with heap := s2.heap.push (revObj l ((its.toArray.size : Int) - 1)) } := I2.kept (t' := s2.toks) k0
  obtain ⟨f0, f1, f2, f3, f4, f5⟩ := I2.fpOk (H' := H2) (b := s2.heap.objs.size) (Nat.le_refl _) (I2.hok.fresh (Nat.le_refl _))
  have hl := p'.isList
  obtain ⟨ol, hol, _⟩ := id hl
  have hne : l ≠ s2.heap.objs.size := Nat.ne_of_lt (Heap.lt_size hol)
  have hn : its.toArray.size ≤ sizeLine := by rw [List.size_toArray, ← rv.length]; exact hz2
  refine Calls.spliced_nil ?_
  refine join_rev (ys := ys.reverse) (s := { s2 with heap := s2.heap.push (revObj l ((its.toArray.size : Int) - 1)) }) (I2.ok.hd hc) ⟨_, Heap.get?_push_size _ rfl, rfl, rfl⟩ (hl.push _) hne hn (fun acc hi => ?_) (by
    rw [List.map_reverse, List.sum_reverse, List.length_reverse]
    exact hz) fun h' tk t' hk => ?_
  · have := vals_rev rv hi
    rw [← List.map_reverse] at this
    exact strs_of_vals this
  · exact ⟨.str _, H2, I3.turned (t' := tk) (fun b o hb e => hk b o hb e) f0 f1 f3 f4 f5, ⟨t', rfl⟩, q⟩
end
end RT
namespace Sq
open PySem PySem.Spec PyProof.Rows L2
section
variable {X : Cx} {W : WF} {K : PySem.W.Frag} {a b : Expr} {f g : EF} {pos : Pos}
def joinRevR (s : Str) (b : Rv) : Er Rv := match b.dat with
  | some (.list ds) => (match dStrs ds with
    | some ys => if (ys.map (·.length)).sum + ys.length * s.length ≤ 16777216 then .ok (.v (.str (Txt.join s ys.reverse))) else .bad
    | none => .bad)
  | _ => .bad
theorem xjoinRev {apos p2 pos2 : Pos} (hc : X.calm = true) (hg2 : Gl X "reversed") (hm2 : X.mg "reversed" = none) (ha : PE X a (tX X.K W f)) (hb : PE X b (tX X.K W g))
    (hs : starEach [b] X.env = (false, eval b X.env) :: starEach [] X.env := by rfl)
    (hs1 : starEach [.Call (.Name "reversed" p2) [b] [] pos2] X.env = [(false, eval (.Call (.Name "reversed" p2) [b] [] pos2) X.env)] := by rfl)
    (hbase : attributeBase a "join" X.env (eval a X.env) = eval a X.env := by rfl) (hline : (apos.endLine == pos.line) = true := by rfl) :
    PE X (.Call (.Attribute a "join" apos) [.Call (.Name "reversed" p2) [b] [] pos2] [] pos) (tX X.K W (strM joinRevR f g)) := by
  refine peTo (RT.pe_joinRev hc ha hg2 hm2 hb hs hs1 hbase hline) fun σ H Q q => ?_
  obtain ⟨h, ρ, rfl, R, q⟩ := tX_iff.mp q
  refine (tX_mk (f := f) R (q.bind fun a x h1 ea R1 g1 ok1 q1 => ?_) : tX X.K W f σ h.H _)
  split at q1
  · rename_i s es
    have e1 := dp_str (ok1.dp R1.ch es)
    subst e1
    refine ⟨⟨s, rfl⟩, (tX_mk (f := g) R1 (q1.bind fun b y h2 _ R2 g2 ok2 q2 => ?_) : tX X.K W g σ h1.H _)⟩
    unfold joinRevR at q2
    split at q2
    · rename_i ds ed
      obtain ⟨p, vs, rfl, sl, d⟩ := dp_lst (ok2.dp R2.ch ed)
      split at q2
      · rename_i ys ey
        rw [dStrs_v ey d] at sl
        split at q2
        · rename_i hz
          exact ⟨s, p, ys, rfl, rfl, sl, hz, q2.now R2 (.str _)⟩
        · exact q2.elim
      · exact q2.elim
    · exact q2.elim
  · exact q1.elim
end
/-! ### l[i] += e: l an own list of whole numbers -/
section
variable {X : Cx} {W : WF} {K : PySem.W.Frag} {e i : Expr} {f g : EF} {pos p p2 : Pos}
def tgetL : V → V → Hp → VK → Prop := fun o i H Q => ∃ (l : Addr) (xs : List V) (n : Nat) (v : V), o = .ref l ∧ i = .int (n : Int) ∧ H l = some (.lst xs) ∧ xs[n]? = some v ∧ Q v H
theorem get_listL : PGet X tgetL := by
  intro pins s σ H o i ov iv Q I ro ri h
  obtain ⟨l, xs, n, v, rfl, rfl, hl, hx, q⟩ := h
  cases ro
  obtain ⟨t, rfl⟩ := ri
  obtain ⟨z, its, c, r, hn, hg⟩ := I.lstM hl
  obtain ⟨u, hu, ru⟩ := r.get hx
  have hlt : n < its.length := (List.getElem?_eq_some_iff.mp hu).1
  have h63 := line63
  exact wpAny_getItem_list (items := its.toArray) ⟨_, hg, rfl, _, rfl⟩ (by omega) (by omega) (by rw [Int.toNat_natCast]; simpa using hu) ⟨v, H, I, ru, q⟩
def augIt (j : Nat) (g f : EF) : SF := fun ρ => match slot ρ j with
  | .o xs => thenS ρ (g ρ) fun i => match i.dat with
    | some (.int z) => if 0 ≤ z then (match xs[z.toNat]? with
      | some (.int old) => thenS ρ (f ρ) fun r => (match r.dat with
        | some (.int k) => .next (ρ.set j (.o (xs.set z.toNat (.int (old + k)))))
        | _ => .bad)
      | _ => .bad) else .bad
    | _ => .bad
  | _ => .bad
theorem xaugIt (j : Nat) {x : Str} (ho : PE X (.Name x p) (tVar j)) (hi : PE X i (tX X.K W g)) (he : PE X e (tX X.K W f))
    (ha : ∀ ov iv new, augStore i ov iv new = (do holding [new, ov, iv] (setItem ov iv new); release [new, ov, iv] []; pure .next) := by intros; rfl) :
    PS X (.AugAssign (.Subscript (.Name x p) i p2) .Add e pos) (tS X.K W (augIt j g f)) := by
  refine psTo (ps_augS ho hi get_listL he ip_add set_list ha) fun D σ H ⟨h, ρ, eh, R, q⟩ => ?_
  subst eh
  unfold augIt at q
  split at q
  · rename_i xs es
    obtain ⟨l, vs, ex, hl, hd, hlen, _⟩ := mut_now R es
    refine ⟨.ref l, ex, ?_⟩
    refine (tX_mk (f := g) R (q.then fun iz v3 h3 _ R3 g3 ok3 q3 => ?_) : tX X.K W g σ h.H _)
    split at q3
    · rename_i z ez
      split at q3
      · rename_i hz
        split at q3
        · rename_i old eo
          have ev := dp_int (ok3.dp R3.ch ez)
          subst ev
          obtain ⟨l2, vs2, ex2, hl2, hd2, hlen2, _⟩ := mut_now R3 es
          rw [ex] at ex2
          cases ex2
          obtain ⟨w, ew, dw⟩ := hd2.get eo
          have ew2 := dp_int dw
          subst ew2
          refine ⟨l, vs2, z.toNat, _, rfl, by rw [Int.toNat_of_nonneg hz], hl2, ew, ?_⟩
          refine (tX_mk (f := f) R3 ((Post.shift g3.sg q3).then fun r v4 h4 _ R4 g4 ok4 q4 => ?_) : tX X.K W f σ h3.H _)
          split at q4
          · rename_i k ek
            have ev4 := dp_int (ok4.dp R4.ch ek)
            subst ev4
            obtain ⟨l5, vs5, ex5, hl5, hd5, hlen5, mt⟩ := mut_now R4 es
            rw [ex] at ex5
            cases ex5
            obtain ⟨R6, g6⟩ := mt (vs5.set z.toNat (.int (old + k))) (xs.set z.toNat (.int (old + k))) (hd5.set (.int _) _)
            refine ⟨old, k, rfl, rfl, l, vs5, z, z.toNat, rfl, rfl, hl5, ?_, q4 σ _ R6 (g4.sg.trans g6)⟩
            have hlt : z.toNat < vs5.length := by
              rw [hlen5]
              exact (List.getElem?_eq_some_iff.mp eo).1
            unfold ixN
            rw [if_pos hz, if_pos (by omega)]
          · exact q4.elim
        · exact q3.elim
      · exact q3.elim
    · exact q3.elim
  · exact q.elim
end
/-! ### two own lists told in a tuple, and taken -/
section
variable {X : Cx} {W : WF} {cm : Str → Addr} {K : PySem.W.Frag}
def retPair (i j : Nat) : SF := fun ρ => match slot ρ i, slot ρ j with
  | .o xs, .o ys => if i = j then .bad else .ret (.p2 xs ys)
  | _, _ => .bad
theorem own_now {h : Hs} {ρ : Env} {σ : L2.St} (R : Rel K h ρ σ) {i : Nat} {xs : List D} (es : slot ρ i = .o xs) : ∃ l vs, σ[i]? = some (some (.ref l)) ∧ h.H l = some (.lst vs) ∧ h.F l = none ∧ DpAll K h.G vs xs := by
  obtain ⟨x, ex, l, vs, rfl, hl, fl, hd⟩ := R.get (slot_some es (by intro z; cases z))
  exact ⟨l, vs, ex, hl, fl, hd⟩
theorem xretPair (i j : Nat) {x y : Str} {px py pt pos : Pos} {kt} (hx : PE X (.Name x px) (tVar i)) (hy : PE X (.Name y py) (tVar j))
    (h1 : starEach [.Name x px, .Name y py] X.env = (false, eval (.Name x px) X.env) :: starEach [.Name y py] X.env := by rfl) (h2 : starEach [.Name y py] X.env = (false, eval (.Name y py) X.env) :: starEach [] X.env := by rfl) :
    PS X (.Return (some (.Tuple [.Name x px, .Name y py] kt pt)) pos) (tS X.K W (retPair i j)) := by
  refine psTo (ps_ret (pe_tup (pa_cons hx (pa_cons hy pa_nil h2) h1))) fun D σ H ⟨h, ρ, e, R, q⟩ => ?_
  subst e
  unfold retPair at q
  split at q
  · rename_i xs ys e1 e2
    split at q
    · exact q.elim
    · rename_i hij
      obtain ⟨l, vs, ex, hl, fl, hd⟩ := own_now R e1
      obtain ⟨m, ws, ey, hm, fm, hd2⟩ := own_now R e2
      have hne := R.dis i j _ _ l m hij (slot_some e1 (by intro z; cases z)) (slot_some e2 (by intro z; cases z)) rfl rfl ex ey
      refine ⟨_, ex, _, ey, by show 2 ≤ sizeLine; decide, fun t ht => ?_⟩
      have hlt : l ≠ t := fun z => by rw [z, ht] at hl; cases hl
      have hmt : m ≠ t := fun z => by rw [z, ht] at hm; cases hm
      exact q (.ref t) (h.newO t (.tup [.ref l, .ref m])) (R.ch.newO ht) (Gr.newO R.ch ht).sg ⟨t, l, m, vs, ws, rfl, upd_same, hne, ⟨(upd_ne hlt).trans hl, fl, hd⟩, ⟨(upd_ne hmt).trans hm, fm, hd2⟩⟩
  · exact q.elim
def unpP (i j : Nat) : TF := fun r ρ => match r with
  | .p2 xs ys => .ok ((ρ.set i (.o xs)).set j (.o ys))
  | _ => .bad
theorem unpP_ne {i j : Nat} : ∀ r ρ c p, unpP i j r ρ ≠ .exc c p := by
  intro r ρ c p e
  unfold unpP at e
  split at e <;> cases e
theorem xgPair {i j : Nat} {x y : Str} {px py pt : Pos} {kt} (hc : X.calm = true) (hN : X.N.Nodup) (hij : i ≠ j) (hi : X.N[i]? = some x := by rfl) (hj : X.N[j]? = some y := by rfl) (hx : Loc X.env.scope x := by first | exact Or.inl rfl | exact Or.inr rfl) (hy : Loc X.env.scope y := by first | exact Or.inl rfl | exact Or.inr rfl)
    (hfx : X.fn x = true ∨ X.env.scope.names.lookup x = some .local := by first | exact .inl rfl | exact .inr rfl | assumption) (hfy : X.fn y = true ∨ X.env.scope.names.lookup y = some .local := by first | exact .inl rfl | exact .inr rfl | assumption)
    (hs1 : (assignEach [.Name x px, .Name y py] X.env).map (·.2) = assign (.Name x px) X.env :: (assignEach [.Name y py] X.env).map (·.2) := by rfl) (hs2 : (assignEach [.Name y py] X.env).map (·.2) = assign (.Name y py) X.env :: (assignEach [] X.env).map (·.2) := by rfl)
    (hn : (assignEach [.Name x px, .Name y py] X.env).length = 2 := by rfl) (hst : (assignEach [.Name x px, .Name y py] X.env).findIdx? (·.1) = none := by rfl) : PG X (.Tuple [.Name x px, .Name y py] kt pt) (tG X.K [i, j] (unpP i j)) := by
  refine pgTo (pg_tup (n := 2) hc (pgs_cons (pg_name hN hi hx hfx) (pgs_cons (pg_name hN hj hy hfy) pgs_nil hs2) hs1) hn hst) ?_
  rintro v σ H Q ⟨h0, h, ρ, r, ρ', eh, R0, R, ok, e, k⟩
  subst eh
  unfold unpP at e
  split at e
  · rename_i xs ys
    obtain ⟨t, l, m, vs, ws, rfl, ht, hne, ⟨n1, a1, b1, d1⟩, ⟨n2, a2, b2, d2⟩⟩ := ok
    cases e
    have R1 : Rel X.K h (ρ.set i (.o xs)) (σ.set i (some (.ref l))) := R.set i ⟨l, vs, rfl, a1, b1, d1⟩ fun k t' l' _ ev e1 o1 => by
      cases ev
      exact R0.fresh n1 e1 o1
    have R2 : Rel X.K h ((ρ.set i (.o xs)).set j (.o ys)) ((σ.set i (some (.ref l))).set j (some (.ref m))) := R1.set j ⟨m, ws, rfl, a2, b2, d2⟩ fun k t' l' _ ev e1 o1 => by
      cases ev
      by_cases hk : i = k
      · subst hk
        rw [List.getElem?_set]
        simp only [if_true]
        split
        · intro z
          cases z
          exact hne rfl
        · intro z
          cases z
      · rw [List.getElem?_set_ne hk] at e1
        rw [List.getElem?_set_ne hk]
        exact R0.fresh n2 e1 o1
    refine ⟨t, [.ref l, .ref m], rfl, .of ht, rfl, _, _, rfl, _, _, rfl, rfl, k _ R2 ⟨by simp, fun z hz => ?_⟩⟩
    rw [List.getElem?_set_ne (fun e => hz (by simp [e])), List.getElem?_set_ne (fun e => hz (by simp [e]))]
  · cases e
end
/-! ### a def that changes the list that is handed to it first, and tells it -/
structure CGm (G H : Hp) (l : Addr) (G' H' : Hp) : Prop where
  g : Ex G G'
  h : ∀ a o, a ≠ l → H a = some o → H' a = some o
  c : Ex G' H'
  n : ∀ a o, G' a = some o → G a = none → H a = none ∨ a = l
def fspM (K : PySem.W.Frag) (n : Nat) (g : List Sl → Fr) : Sp := fun vs H Q E => vs.length = n ∧ ∃ (G : Hp) (l : Addr) (ws : List V) (xs : List D) (vr : List V) (ds : List D), vs = .ref l :: vr ∧ Ex G H ∧ G l = none ∧ H l = some (.lst ws) ∧ DpAll K G ws xs ∧ DpAll K G vr ds ∧ match g (.o xs :: ds.map Sl.v) with
  | .ret (.o ys) => ∀ v G' H', CGm G H l G' H' → (∃ l' us, v = .ref l' ∧ (l' = l ∨ H l' = none) ∧ H' l' = some (.lst us) ∧ G' l' = none ∧ DpAll K G' us ys) → Q v H'
  | _ => False
section
variable {P : Program} {w : World} {K : PySem.W.Frag} {mg : Str → Option Value} {base : Heap}
def butl (H : Hp) (l : Addr) : Hp := fun a => if a = l then none else H a
theorem rel_startM {N : List Str} {G H : Hp} {l : Addr} {ws vr : List V} {xs ds : List D} (c : Ex G H) (gl : G l = none) (hl : H l = some (.lst ws)) (hd : DpAll K G ws xs) (ok : DpAll K G vr ds) (hn : (vr.length + 1) ≤ N.length) :
    Rel K ⟨G, butl H l, H⟩ ((.o xs :: ds.map Sl.v) ++ List.replicate (N.length - (ds.length + 1)) .u) (L2.start N (.ref l :: vr)) := by
  have el := ok.len
  have gf : Ex G (butl H l) := fun a o e => by
    unfold butl
    rw [if_neg (fun z => by rw [z, gl] at e; cases e)]
    exact c a o e
  have at' : ∀ {i : Nat} {s : Sl}, ((Sl.o xs :: ds.map Sl.v) ++ List.replicate (N.length - (ds.length + 1)) Sl.u)[i]? = some s → (i = 0 ∧ s = .o xs) ∨ (∃ j d, i = j + 1 ∧ ds[j]? = some d ∧ s = .v d) ∨ s = .u := fun {i s} e => by
    cases i with
    | zero =>
      left
      refine ⟨rfl, ?_⟩
      simpa using e.symm
    | succ j =>
      right
      rw [List.cons_append, List.getElem?_cons_succ, List.getElem?_append] at e
      split at e
      · left
        rw [List.getElem?_map] at e
        obtain ⟨d, e1, e2⟩ := Option.map_eq_some_iff.mp e
        exact ⟨j, d, rfl, e1, e2.symm⟩
      · right
        rw [List.getElem?_replicate] at e
        split at e
        · cases e; rfl
        · cases e
  refine ⟨⟨gf, fun a o e => ?_⟩, ?_, fun i s x e1 e2 => ?_, fun i j s t a b hij e1 e2 o1 o2 _ _ => ?_⟩
  · have e' : (if a = l then none else H a) = some o := e
    split at e'
    · cases e'
    · exact e'
  · unfold L2.start
    simp
    omega
  · rcases at' e1 with ⟨rfl, rfl⟩ | ⟨j, d, rfl, ed, rfl⟩ | rfl
    · have : x = some (.ref l) := by
        unfold L2.start at e2
        simp at e2
        exact e2.symm
      refine ⟨l, ws, this, hl, ?_, hd⟩
      show (if l = l then none else H l) = none
      rw [if_pos rfl]
    · obtain ⟨v, ev, dv⟩ := ok.get ed
      refine ⟨v, ?_, dv⟩
      unfold L2.start at e2
      have hi : j + 1 < (V.ref l :: vr).length := by
        have := (List.getElem?_eq_some_iff.mp ev).1
        simp
        omega
      rw [List.getElem?_append_left (by simpa using hi), List.getElem?_map, List.getElem?_cons_succ, ev] at e2
      cases e2
      rfl
    · trivial
  · exfalso
    rcases at' e1 with ⟨rfl, rfl⟩ | ⟨j', d, rfl, ed, rfl⟩ | rfl
    · rcases at' e2 with ⟨rfl, rfl⟩ | ⟨j'', d', rfl, ed', rfl⟩ | rfl
      · exact hij rfl
      · cases o2
      · cases o2
    · cases o1
    · cases o1
theorem fn_okM {cm : Str → Addr} {x qual : Str} {st : Stmt} {f : Addr} {fd : FuncData} {N ps : List Str} {k : Nat} {bf : SF} (F : Fun K x qual st f fd) (S : FnScope N ps (defScope st)) (hps : ps.length ≤ N.length)
    (body : ∀ (cdv : Value) (A : Around) (outer : List PySem.Env) (s : Shared) (H : Hp) (E : XK), Room k (A.deeper (envOfC qual (defScope st) s.heap.objs.size f cdv)) →
      PSs (bodyCx P w K mg base N qual st f cdv A outer s H E) (defBody st) (tS K (WFx K cm fun cls d _ H => E cls d H) bf)) :
    FnOk P w K mg base (L2.CX P w) (k + 1) f fd ps (fspM K ps.length (fnR bf N.length)) := by
  refine F.okX S (fun vs H Q E h => h.1) fun cdv A outer s H vs Q E hr h => ⟨_, body cdv A outer s H E hr, ?_⟩
  obtain ⟨hl, G, l, ws, xs, vr, ds, rfl, c, gl, hH, hd, ok, q⟩ := h
  have el := ok.len
  have R := rel_startM (N := N) c gl hH hd ok (by simp at hl; omega)
  refine ⟨⟨G, butl H l, H⟩, _, rfl, R, ?_⟩
  unfold fnR at q
  have e0 : (Sl.o xs :: ds.map Sl.v).length = ds.length + 1 := by simp
  rw [e0] at q
  cases e : bf ((Sl.o xs :: ds.map Sl.v) ++ List.replicate (N.length - (ds.length + 1)) .u) with
  | ret r =>
    rw [e] at q
    intro v h' c' g' ok'
    cases r with
    | o ys =>
      obtain ⟨l', us, ev, a, b, d⟩ := ok'
      have hf : ∀ a : Addr, butl H l a = none → a = l ∨ H a = none := fun a z => by
        unfold butl at z
        split at z
        · left; assumption
        · right; exact z
      refine q v h'.G h'.H ⟨g'.g, fun a o hne e => ?_, c'.gh, fun a o e z => ?_⟩ ⟨l', us, ev, hf l' (g'.f.back b), a, c'.gf.back b, d⟩
      · refine c'.fh a o (g'.f a o ?_)
        show (if a = l then none else H a) = some o
        rw [if_neg hne]
        exact e
      · rcases hf a (g'.gn a o e z) with z | z
        · exact .inr z
        · exact .inl z
    | _ => exact q.elim
  | _ => rw [e] at q; exact q.elim
end
section
variable {X : Cx} {W : WF} {cm : Str → Addr}
/-- return F(a, G(b, ..)): a stays, b is the list that G changes -/
def retX (k : Nat) (F : List Sl → Fr) (i : Nat) (G : List Sl → Fr) (r : AF) : SF := fun ρ => match slot ρ k, slot ρ i with
  | .v da, .o xs => (match r ρ with
    | .ok rs => (match allV rs with
      | some ds => (match G (.o xs :: ds.map Sl.v) with
        | .ret (.o ys) => (match F [.v da, .v (.list ys)] with
          | .ret (.v d) => .ret (.v d)
          | _ => .bad)
        | _ => .bad)
      | none => .bad)
    | _ => .bad)
  | _, _ => .bad
theorem xretX {k i kF kG : Nat} {fF fG : Addr} {fdF fdG : FuncData} {psF psG : List Str} {gF gG : List Sl → Fr} {x y a b : Str} {p1 p2 p3 p4 pa pb pos : Pos} {es : List Expr} {r : AF} (tk : Tk X cm W)
    (FF : FnOk X.prog X.w X.K X.mg X.base (L2.CX X.prog X.w) kF fF fdF psF (fsp X.K cm psF.length gF)) (hrF : Room kF X.A) (hgF : Gl X x) (hmF : X.mg x = some (.ref fF)) (hkF : PySem.W.keepIn X.K (.ref fF) = true) (hbF : Binds X.K fdF psF []) (hlF : psF.length = 2)
    (FG : FnOk X.prog X.w X.K X.mg X.base (L2.CX X.prog X.w) kG fG fdG psG (fspM X.K psG.length gG)) (hrG : Room kG X.A) (hgG : Gl X y) (hmG : X.mg y = some (.ref fG)) (hkG : PySem.W.keepIn X.K (.ref fG) = true) (hbG : Binds X.K fdG psG []) (hlG : psG.length = es.length + 1)
    (ha : PE X (.Name a pa) (tVar k)) (hb : PE X (.Name b pb) (tVar i)) (har : PA X es (tXa X.K W r)) (hrl : ∀ ρ rs, r ρ = .ok rs → rs.length = es.length) (hdF : (x == ("__debug__" : Str)) = false := by decide) (hdG : (y == ("__debug__" : Str)) = false := by decide)
    (s1 : starEach [.Name a pa, .Call (.Name y p3) (.Name b pb :: es) [] p4] X.env = (false, eval (.Name a pa) X.env) :: starEach [.Call (.Name y p3) (.Name b pb :: es) [] p4] X.env := by rfl) (s2 : starEach [.Call (.Name y p3) (.Name b pb :: es) [] p4] X.env = (false, eval (.Call (.Name y p3) (.Name b pb :: es) [] p4) X.env) :: starEach [] X.env := by rfl)
    (s3 : starEach (.Name b pb :: es) X.env = (false, eval (.Name b pb) X.env) :: starEach es X.env := by rfl) (hpl : (backTo p4 (starEach es X.env)).any (·.1) = false := by rfl) (hpl2 : (backTo p2 (starEach [.Call (.Name y p3) (.Name b pb :: es) [] p4] X.env)).any (·.1) = false := by rfl) :
    PS X (.Return (some (.Call (.Name x p1) [.Name a pa, .Call (.Name y p3) (.Name b pb :: es) [] p4] [] p2)) pos) (tS X.K W (retX k gF i gG r)) := by
  obtain ⟨Wx, tk, hW⟩ := tk
  have pG := pe_callS (pos := p4) (p := p3) FG hrG hgG hmG hkG hbG (E := WE Wx) (fun σ => passAt tk σ) (pa_cons hb har s3) hdG s3 hpl
  refine psTo (ps_ret (pe_callS FF hrF hgF hmF hkF hbF (E := WE Wx) (fun σ => passAt tk σ) (pa_cons ha (pa_cons pG pa_nil s2) s1) hdF s1 hpl2)) fun D σ H ⟨h, ρ, e, R, q⟩ => ?_
  subst e
  unfold retX at q
  split at q
  rotate_left
  · exact q.elim
  rename_i da xs ek ei
  split at q
  rotate_left
  · exact q.elim
  rename_i rs er
  split at q
  rotate_left
  · exact q.elim
  rename_i ds eds
  split at q
  rotate_left
  · exact q.elim
  rename_i ys eG
  split at q
  rotate_left
  · exact q.elim
  rename_i d eF
  obtain ⟨xv, exv, v, rfl, hda⟩ := R.get (slot_some ek (by intro z; cases z))
  obtain ⟨l, ws, ex, hl, fl, hd⟩ := own_now R ei
  refine ⟨v, exv, _, ex, h, ρ, rfl, R, ?_⟩
  rw [er]
  intro vs h1 R1 g1 ok1
  have hds := allV_ok R1.ch eds ok1
  obtain ⟨l1, ws1, ex1, hl1, fl1, hd1⟩ := own_now R1 ei
  rw [ex] at ex1
  cases ex1
  have hlen : vs.length = es.length := by rw [ok1.len, hrl ρ rs er]
  refine ⟨by simp [hlG, hlen], h1.G, l, ws1, xs, vs, ds, rfl, R1.ch.gh, R1.ch.gf.back fl1, hl1, hd1, hds, ?_⟩
  rw [eG]
  intro v2 G' H' cg ⟨l2, us, ev2, hl2, hH2, hG2, hd2⟩
  subst ev2
  have eG2 : Ex G' (upd G' l2 (.lst us)) := Ex.new hG2
  have eH2 : Ex (upd G' l2 (.lst us)) H' := fun c o e => by
    by_cases hc : c = l2
    · subst hc
      rw [upd_same] at e
      cases e
      exact hH2
    · rw [upd_ne hc] at e
      exact cg.c c o e
  refine ⟨by simp [hlF], upd G' l2 (.lst us), [.v da, .v (.list ys)], eH2, ⟨ex_dp (g1.g.trans (cg.g.trans eG2)) hda, .lst (.of upd_same) (ex_dpa eG2 hd2), trivial⟩, ?_⟩
  rw [eF]
  intro v3 G3 H3 cg3 ok3
  have hlF' : ∀ c o, h.F c = some o → H3 c = some o := fun c o e => by
    have hne : c ≠ l := fun z => by rw [z, fl] at e; cases e
    exact cg3.h c o (cg.h c o hne (g1.x c o (R.ch.fh c o e)))
  refine q v3 ⟨G3, fun c => match h.F c with | some o => some o | none => G3 c, H3⟩ ⟨fun c o e => ?_, fun c o e => ?_⟩ ⟨(g1.g.trans (cg.g.trans eG2)).trans cg3.g, fun c o e => ?_, fun c o e z => ?_⟩ ok3
  · show (match h.F c with | some o => some o | none => G3 c) = some o
    cases z : h.F c with
    | none => exact e
    | some u =>
      have e1 := hlF' c u z
      rw [cg3.c c o e] at e1
      exact e1.symm
  · have e' : (match h.F c with | some o => some o | none => G3 c) = some o := e
    cases z : h.F c with
    | none =>
      rw [z] at e'
      exact cg3.c c o e'
    | some u =>
      rw [z] at e'
      cases e'
      exact hlF' c _ z
  · show (match h.F c with | some o => some o | none => G3 c) = some o
    rw [e]
  · cases y : h.F c with
    | none => rfl
    | some u =>
      exfalso
      have hne : c ≠ l := fun z => by rw [z, fl] at y; cases y
      have y1 := g1.x c u (R.ch.fh c u y)
      have y2 := cg.h c u hne y1
      cases z2 : (upd G' l2 (.lst us)) c with
      | none =>
        have := cg3.n c o e z2
        rw [y2] at this
        cases this
      | some u2 =>
        by_cases hc : c = l2
        · subst hc
          rcases hl2 with z3 | z3
          · exact hne z3
          · rw [y1] at z3
            cases z3
        · rw [upd_ne hc] at z2
          cases z4 : h1.G c with
          | none =>
            rcases cg.n c u2 z2 z4 with z5 | z5
            · rw [y1] at z5
              cases z5
            · exact hne z5
          | some u4 =>
            have := g1.gn c u4 z4 z
            rw [y] at this
            cases this
end
end Sq

/-! Defs with defaults, called positionally. -/
namespace Sq
open PySem PySem.Spec PyProof.Rows L2
section
variable {P : Program} {w : World} {K : PySem.W.Frag} {mg : Str → Option Value} {base : Heap}
theorem fn_okD {cm : Str → Addr} {x qual : Str} {st : Stmt} {f : Addr} {fd : FuncData} {dvs : List V} {kws : List (Str × V)} {N ps : List Str} {k : Nat} {bf : SF} (F : FunD K x qual (defArgs st) (defBody st) (defScope st) dvs kws f fd) (S : FnScope N ps (defScope st)) (hps : ps.length ≤ N.length)
    (body : ∀ (cdv : Value) (A : Around) (outer : List PySem.Env) (s : Shared) (H : Hp) (E : XK), Room k (A.deeper (envOfC qual (defScope st) s.heap.objs.size f cdv)) →
      PSs (bodyCx P w K mg base N qual st f cdv A outer s H E) (defBody st) (tS K (WFx K cm fun cls d _ H => E cls d H) bf)) :
    FnOk P w K mg base (L2.CX P w) (k + 1) f fd ps (fsp K cm ps.length (fnR bf N.length)) := by
  refine F.ok S (fun vs H Q E h => h.1) fun cdv A outer s H vs Q E hr h => ⟨_, body cdv A outer s H E hr, ?_⟩
  obtain ⟨hl, G, as, c, ok, q⟩ := h
  have R := rel_start (N := N) c ok (by omega)
  refine ⟨⟨G, H, H⟩, _, rfl, R, ?_⟩
  unfold fnR at q
  cases e : bf (as ++ List.replicate (N.length - as.length) .u) with
  | bad => rw [e] at q; exact q.elim
  | brk _ => rw [e] at q; exact q.elim
  | cont _ => rw [e] at q; exact q.elim
  | next ρ' =>
    rw [e] at q
    exact fun σ' h' R' g' => q .non h'.G h'.H (cg_of R'.ch g') .non
  | ret r =>
    rw [e] at q
    intro v h' c' g' ok'
    refine q v h'.G h'.H (cg_of c' g') ?_
    cases r with
    | v d => exact ok'
    | b d => exact ex_dp c'.fh ok'
    | o xs =>
      obtain ⟨l, vs, ev, a, b, d⟩ := ok'
      exact ⟨l, vs, ev, g'.f.back b, a, c'.gf.back b, d⟩
    | ok xs =>
      obtain ⟨l, vs, ev, a, b, d⟩ := ok'
      exact ⟨l, vs, ev, g'.f.back b, a, c'.gf.back b, d⟩
    | p2 xs ys =>
      obtain ⟨t, l, m, vs, ws, ev, ht, ne, ⟨a, b, d⟩, ⟨a2, b2, d2⟩⟩ := ok'
      exact ⟨t, l, m, vs, ws, ev, ht, ne, ⟨g'.f.back b, a, c'.gf.back b, d⟩, ⟨g'.f.back b2, a2, c'.gf.back b2, d2⟩⟩
    | y xss =>
      obtain ⟨l, ms, ev, a, b, d⟩ := ok'
      exact ⟨l, ms, ev, g'.f.back b, a, c'.gf.back b, Paired.mapP d fun m xs ⟨vs, x, y, z⟩ => ⟨vs, c'.fh _ _ x, y, z⟩⟩
    | sj d l c fs => exact ok'.1
    | _ => exact ok'.elim
  | exc c p ρ' =>
    rw [e] at q
    cases p with
    | none => exact fun σ' h' R' g' => q h'.G h'.H (cg_of R'.ch g')
    | some p =>
      obtain ⟨ff, xx⟩ := p
      exact fun σ' h' R' g' d v hd hv => q h'.G h'.H d v (cg_of R'.ch g') hd hv
theorem binds_nil {fd : FuncData} {ps : List Str} (h : ∃ ds, Vals [] ds ∧ Binds K fd ps ds) : Binds K fd ps [] := by
  obtain ⟨ds, v, b⟩ := h
  cases v
  exact b
/-- one def with one default of the written part -/
theorem fund_mk {x qual : Str} {st : Stmt} {f T : Addr} {oc ocT : Value} {od odT an : Option Addr} {osl slT : Array (Option Value)} {kV doc pm cdv ct u : Value} {n : Nat} {v : V} (l : K.lookup f = some ⟨oc, od, .func (PySem.W.fnOf x qual (defArgs st) (defBody st) (defScope st) (.ref T) kV doc pm an cdv ct), osl⟩)
    (lT : K.lookup T = some ⟨ocT, odT, .seq #[u] n, slT⟩) (r : RelV v u) (c : PySem.W.codeIn K cdv qual = true) (k : PySem.W.keepIn K (.ref f) = true) : FunD K x qual (defArgs st) (defBody st) (defScope st) [v] [] f (PySem.W.fnOf x qual (defArgs st) (defBody st) (defScope st) (.ref T) kV doc pm an cdv ct) :=
  ⟨⟨oc, od, .ref T, kV, doc, pm, an, cdv, ct, osl, rfl, l, c, Or.inr ⟨(by intro z; cases z), ⟨T, _, [u], n, rfl, lT, rfl, .cons r .nil⟩⟩, Or.inl rfl⟩, k⟩
end
section
variable {X : Cx} {W : WF} {cm : Str → Addr}
def aDef (dd : List D) (r : AF) : AF := fun ρ => (r ρ).bind fun rs => .ok (rs ++ dd.map Rv.v)
@[simp] theorem aDef_e (dd : List D) (r : AF) (ρ : Env) : aDef dd r ρ = (r ρ).bind fun rs => .ok (rs ++ dd.map Rv.v) := (rfl)
theorem rvs_app {K : PySem.W.Frag} {h : Hs} : ∀ {vs : List V} {rs : List Rv} {ws : List V} {ss : List Rv}, RvsOk K h vs rs → RvsOk K h ws ss → RvsOk K h (vs ++ ws) (rs ++ ss)
  | [], [], _, _, _, b => b
  | _ :: _, _ :: _, _, _, ⟨a, as⟩, b => ⟨a, rvs_app as b⟩
theorem rvs_v {K : PySem.W.Frag} {h : Hs} : ∀ {ws : List V} {dd : List D}, DpAll K h.G ws dd → RvsOk K h ws (dd.map .v)
  | _, _, .nil => trivial
  | _, _, .cons a b => ⟨a, rvs_v b⟩
theorem xcallD {ds : List Value} {dvs : List V} {dd : List D} {k : Nat} {f : Addr} {fd : FuncData} {ps : List Str} {g : List Sl → Fr} {x : Str} {p pos : Pos} {e : Expr} {es : List Expr} {r : AF} (tk : Tk X cm W) (F : FnOk X.prog X.w X.K X.mg X.base (L2.CX X.prog X.w) k f fd ps (fsp X.K cm ps.length g)) (hr : Room k X.A) (hg : Gl X x) (hm : X.mg x = some (.ref f)) (hk : PySem.W.keepIn X.K (.ref f) = true) (hb : Binds X.K fd ps ds) (hd : Vals dvs ds) (hdd : ∀ G : Hp, DpAll X.K G dvs dd)
    (hlen : ps.length = (e :: es).length + dd.length) (ha : PA X (e :: es) (tXa X.K W r)) (hrl : ∀ ρ rs, r ρ = .ok rs → rs.length = (e :: es).length) (hdb : (x == ("__debug__" : Str)) = false := by decide) (he : starEach (e :: es) X.env = (false, eval e X.env) :: starEach es X.env := by rfl) (hpl : (backTo pos (starEach es X.env)).any (·.1) = false := by rfl) :
    PE X (.Call (.Name x p) (e :: es) [] pos) (tX X.K W (callF g (aDef dd r))) := by
  obtain ⟨Wx, tk, hW⟩ := tk
  refine peTo (pe_callSD F hr hg hm hk hb hd (E := WE Wx) (fun σ => passAt tk σ) ha hdb he hpl) fun σ H Q q => ?_
  obtain ⟨h, ρ, rfl, R, q⟩ := tX_iff.mp q
  have q : PE1 X.K W h ρ σ Q ((r ρ).bind fun rs => (g ((rs ++ dd.map Rv.v).map Rv.sl)).rv) := by
    unfold callF aDef at q
    cases er : r ρ with
    | ok rs => rw [er] at q; exact q
    | exc c p => rw [er] at q; exact q
    | bad => rw [er] at q; exact q
  refine ⟨h, ρ, rfl, R, PE1.bindA q fun rs vs h1 er R1 g1 ok1 q1 => ?_⟩
  have okk := rvs_app ok1 (rvs_v (hdd h1.G))
  have hdl : dvs.length = dd.length := (hdd h1.G).len
  refine ⟨by rw [List.length_append, ok1.len, hrl ρ rs er, hdl, hlen], h1.G, (rs ++ dd.map Rv.v).map Rv.sl, R1.ch.gh, args_of R1.ch okk, ?_⟩
  cases eg : g ((rs ++ dd.map Rv.v).map Rv.sl) with
  | bad => rw [eg] at q1; exact q1.elim
  | exc c p =>
    rw [eg] at q1
    cases p with
    | none =>
      intro G' H' cg
      obtain ⟨gr, ch⟩ := call_gr R1.ch cg
      exact hW _ _ _ _ (q1 (h1.call G' H') (R1.grow gr ch) gr)
    | some p =>
      obtain ⟨ff, xx⟩ := p
      intro G' H' d v cg hd hv
      obtain ⟨gr, ch⟩ := call_gr R1.ch cg
      exact hW _ _ _ _ (q1 (h1.call G' H') (R1.grow gr ch) gr) d v hd hv
  | ret res =>
    rw [eg] at q1
    intro v G' H' cg ok'
    obtain ⟨gr, ch⟩ := call_gr R1.ch cg
    have R2 := R1.grow gr ch
    cases res with
    | v d => exact q1 v (h1.call G' H') R2 gr ok'
    | b d => exact q1 v (h1.call G' H') R2 gr ok'
    | o xs =>
      obtain ⟨l, ws, ev, n, a, b, d⟩ := ok'
      refine q1 v (h1.call G' H') R2 gr ⟨l, ws, ev, n, a, ?_, d⟩
      show (match h1.F l with | some o => some o | none => G' l) = none
      rw [R1.ch.fh.back n]
      exact b
    | ok xs =>
      obtain ⟨l, ws, ev, n, a, b, d⟩ := ok'
      refine q1 v (h1.call G' H') R2 gr ⟨l, ws, ev, n, a, ?_, d⟩
      show (match h1.F l with | some o => some o | none => G' l) = none
      rw [R1.ch.fh.back n]
      exact b
    | p2 xs ys =>
      obtain ⟨t, l, m, vs', ws, ev, ht, ne, ⟨n, a, b, d⟩, ⟨n2, a2, b2, d2⟩⟩ := ok'
      refine q1 v (h1.call G' H') R2 gr ⟨t, l, m, vs', ws, ev, ht, ne, ⟨n, a, ?_, d⟩, ⟨n2, a2, ?_, d2⟩⟩
      · show (match h1.F l with | some o => some o | none => G' l) = none
        rw [R1.ch.fh.back n]
        exact b
      · show (match h1.F m with | some o => some o | none => G' m) = none
        rw [R1.ch.fh.back n2]
        exact b2
    | _ => exact q1.elim
end
end Sq

/-! x in a tuple, nested data. -/
namespace Sq
open PySem PySem.Spec PyProof.Rows L2
section
variable {X : Cx} {W : WF} {a b : Expr} {f g : EF} {pos : Pos}
def rInDT (K : PySem.W.Frag) : R2 := fun x y H Q => ∃ d ds, Dp K H x d ∧ Dp K H y (.tuple ds) ∧ SeqAt.shaped d = true ∧ SeqAt.shaped (.tuple ds) = true ∧ Q (.bl (ds.any fun z => PyData.eqv z d)) H
def rNotInDT (K : PySem.W.Frag) : R2 := fun x y H Q => ∃ d ds, Dp K H x d ∧ Dp K H y (.tuple ds) ∧ SeqAt.shaped d = true ∧ SeqAt.shaped (.tuple ds) = true ∧ Q (.bl (!ds.any fun z => PyData.eqv z d)) H
theorem op_inDT (hu : X.A.units + 65 < cLine) : OpR X (compareOp .In) (rInDT X.K) := by
  intro pins s σ H x y v u Q I rx ry h
  obtain ⟨d, ds, hd, he, sd, se, q⟩ := h
  obtain ⟨as, r1⟩ := L2.Dp.reads I d x v (hd.l2 (noOb_shaped sd)) rx
  obtain ⟨bs, r2⟩ := L2.Dp.reads I (.tuple ds) y u (he.l2 (noOb_shaped se)) ry
  exact SeqAt.in_tuple_reads r2 r1 (SeqAt.canLay_of_shaped se) (SeqAt.canLay_of_shaped sd) (room_in_shaped sd hu) ⟨.bl _, H, I, rfl, q⟩
theorem op_notInDT (hu : X.A.units + 65 < cLine) : OpR X (compareOp .NotIn) (rNotInDT X.K) := by
  intro pins s σ H x y v u Q I rx ry h
  obtain ⟨d, ds, hd, he, sd, se, q⟩ := h
  obtain ⟨as, r1⟩ := L2.Dp.reads I d x v (hd.l2 (noOb_shaped sd)) rx
  obtain ⟨bs, r2⟩ := L2.Dp.reads I (.tuple ds) y u (he.l2 (noOb_shaped se)) ry
  exact SeqAt.notIn_tuple_reads r2 r1 (SeqAt.canLay_of_shaped se) (SeqAt.canLay_of_shaped sd) (room_in_shaped sd hu) ⟨.bl _, H, I, rfl, q⟩
def inDeepT (n : Bool) (a b : Rv) : Er Rv := match a.dat, b.dat with
  | some x, some (.tuple ys) => if SeqAt.shaped x = true ∧ SeqAt.shaped (.tuple ys) = true then .ok (.v (.bool (if n then !(ys.any fun z => PyData.eqv z x) else ys.any fun z => PyData.eqv z x))) else .bad
  | _, _ => .bad
theorem ok_inDeepT {K : PySem.W.Frag} : OpOk K W (inDeepT false) (rInDT K) := by
  intro h0 h ρ σ x y a b Q R0 R g oka okb q
  unfold inDeepT at q
  split at q
  · rename_i d ys ea eb
    split at q
    · rename_i hc
      exact ⟨d, ys, oka.dp R.ch ea, okb.dp R.ch eb, hc.1, hc.2, q.now R (.bl _)⟩
    · exact q.elim
  · exact q.elim
theorem ok_notInDeepT {K : PySem.W.Frag} : OpOk K W (inDeepT true) (rNotInDT K) := by
  intro h0 h ρ σ x y a b Q R0 R g oka okb q
  unfold inDeepT at q
  split at q
  · rename_i d ys ea eb
    split at q
    · rename_i hc
      exact ⟨d, ys, oka.dp R.ch ea, okb.dp R.ch eb, hc.1, hc.2, q.now R (.bl _)⟩
    · exact q.elim
  · exact q.elim
def inB (n : Bool) : Rv → Rv → Er Rv := alt (inA n) (inDeepT n)
theorem xinB (hu : X.A.units + 80 < cLine) (ha : PE X a (tX X.K W f)) (hb : PE X b (tX X.K W g)) (hm : behindInMarks .In b = false := by first | exact nobehind _ (by decide) (by decide) | rfl) : PE X (.Compare a [.In] [b] pos) (tX X.K W (binF (inB false) f g)) :=
  xaltE (xinA hu ha hb hm) (xcmp (op_inDT (hu65 hu)) ok_inDeepT ha hb hm)
theorem xnotinB (hu : X.A.units + 80 < cLine) (ha : PE X a (tX X.K W f)) (hb : PE X b (tX X.K W g)) (hm : behindInMarks .NotIn b = false := by first | exact nobehind _ (by decide) (by decide) | rfl) : PE X (.Compare a [.NotIn] [b] pos) (tX X.K W (binF (inB true) f g)) :=
  xaltE (xnotinA hu ha hb hm) (xcmp (op_notInDT (hu65 hu)) ok_notInDeepT ha hb hm)
theorem xtinB (hu : X.A.units + 80 < cLine) (ha : PE X a (tX X.K W f)) (hb : PE X b (tX X.K W g)) (hm : behindInMarks .In b = false := by first | exact nobehind _ (by decide) (by decide) | rfl) : PT X (.Compare a [.In] [b] pos) (tXt X.K W (tstF (binF (inB false) f g))) :=
  xaltT (xtinA hu ha hb hm) (xtcmp (op_inDT (hu65 hu)) ok_inDeepT ha hb hm)
theorem xtnotinB (hu : X.A.units + 80 < cLine) (ha : PE X a (tX X.K W f)) (hb : PE X b (tX X.K W g)) (hm : behindInMarks .NotIn b = false := by first | exact nobehind _ (by decide) (by decide) | rfl) : PT X (.Compare a [.NotIn] [b] pos) (tXt X.K W (tstF (binF (inB true) f g))) :=
  xaltT (xtnotinA hu ha hb hm) (xtcmp (op_notInDT (hu65 hu)) ok_notInDeepT ha hb hm)
end
end Sq

/-! list.count of whole numbers; d.get(k, x). -/
namespace Sq
open PySem PySem.Spec PyProof.Rows L2
section
variable {K : PySem.W.Frag} {W : WF} {X : Cx} {f g k : EF}
def countF (f g : EF) : EF := fun ρ => (f ρ).bind fun a => match a.dat with
  | some (.list ys) => (match dInts ys with
    | some ns => (g ρ).bind fun b => (match b.dat with
      | some (.int j) => .ok (.v (.int (ns.count j : Nat)))
      | _ => .bad)
    | none => .bad)
  | _ => .bad
theorem xcount {s : Expr} (he : PE X s (tBM X.K "list" (rCntI X.K) (tX X.K W f) (tCons (tX X.K W g) tNil))) : PE X s (tX X.K W (countF f g)) := by
  refine peTo he fun σ H Q q => ?_
  obtain ⟨h, ρ, rfl, R, q⟩ := tX_iff.mp q
  refine (tX_mk (f := f) R (q.bind fun a x h1 ea R1 g1 ok1 q1 => ?_) : tX X.K W f σ h.H _)
  split at q1
  · rename_i xs exs
    obtain ⟨p1, vs, rfl, s1, d1⟩ := dp_lst (ok1.dp R1.ch exs)
    split at q1
    · rename_i ns ens
      refine ⟨.inl ⟨rfl, vs, s1⟩, ?_⟩
      refine (tX_mk (f := g) R1 (q1.bind fun b y h2 _ R2 g2 ok2 q2 => ?_) : tX X.K W g σ h1.H _)
      split at q2
      · rename_i j ej
        have hy := dp_int (ok2.dp R2.ch ej)
        subst hy
        have hv := dInts_v ens d1
        subst hv
        exact ⟨p1, ns, j, rfl, rfl, ex_l g2.x s1, q2.now R2 (.int _)⟩
      · exact q2.elim
    · exact q1.elim
  · exact q1.elim
def getF (f g k : EF) : EF := fun ρ => (f ρ).bind fun a => match a with
  | .wk kvs => (g ρ).bind fun b => (k ρ).bind fun c => (match b.dat.bind keyD, c with
    | some q, .v d0 => (match getK kvs q with
      | some d => .ok (.v d)
      | none => .ok (.v d0))
    | _, _ => .bad)
  | _ => .bad
theorem xgetD {a b c : Expr} {apos cpos : Pos} (hu : X.A.units + 1 < cLine) (ha : PE X a (tX X.K W f)) (hb : PE X b (tX X.K W g)) (hc : PE X c (tX X.K W k)) (m : M2 X a "get" apos b c cpos := by exact ⟨rfl, rfl, rfl, rfl⟩) : PE X (.Call (.Attribute a "get" apos) [b, c] [] cpos) (tX X.K W (getF f g k)) := by
  refine peTo (pe_dget2 hu ha hb hc m) fun σ H Q q => ?_
  obtain ⟨h, ρ, rfl, R, q⟩ := tX_iff.mp q
  refine (tX_mk (f := f) R (q.bind fun a x h1 ea R1 g1 ok1 q1 => ?_) : tX X.K W f σ h.H _)
  split at q1
  · rename_i kvs
    obtain ⟨l, vs, ex, hl, kd⟩ := id ok1
    subst ex
    refine ⟨l, rfl, .inl ⟨vs, .inl hl⟩, ?_⟩
    refine (tX_mk (f := g) R1 (q1.bind fun b y h2 _ R2 g2 ok2 q2 => ?_) : tX X.K W g σ h1.H _)
    refine (tX_mk (f := k) R2 (q2.bind fun c z h3 _ R3 g3 ok3 q3 => ?_) : tX X.K W k σ h2.H _)
    split at q3
    · rename_i kk d0 ek _
      obtain ⟨p, o, ep, dg, ho⟩ := dget_ok R3.ch ek (ok2.grow g3) ((ok1.grow g2).grow g3)
      cases ep
      refine ⟨o, dg, ?_⟩
      rcases ho with ⟨v, d, e1, e2, e3⟩ | ⟨e1, e2⟩
      · rw [e2] at q3
        subst e1
        exact q3.now R3 e3
      · rw [e2] at q3
        subst e1
        exact q3.now R3 ok3
    · exact q3.elim
  · exact q1.elim
end
end Sq

/-! len(set(xs)) of whole numbers that are unlike one another. -/
namespace Sq
open PySem PySem.Spec PyProof.Rows L2 RZ
section
variable {K : PySem.W.Frag} {W : WF} {X : Cx} {f : EF}
def lenSetF (f : EF) : EF := fun ρ => (f ρ).bind fun a => match a.dat with
  | some (.list ys) => (match dInts ys with
    | some ns => if ns.Nodup ∧ ns.length ≤ 4000 then .ok (.v (.int (ns.length : Nat))) else .bad
    | none => .bad)
  | _ => .bad
theorem xlenSet {a : Expr} {p p2 q pos : Pos} (hg : Gl X "len") (hm : X.mg "len" = none) (hg2 : Gl X "set") (hm2 : X.mg "set" = none) (ha : PE X a (tX X.K W f)) (hc : X.calm = true := by rfl)
    (na : starEach [a] X.env = (false, eval a X.env) :: starEach [] X.env := by rfl) : PE X (.Call (.Name "len" p) [.Call (.Name "set" p2) [a] [] q] [] pos) (tX X.K W (lenSetF f)) := by
  refine peTo (pe_lenSetI hg hm hg2 hm2 ha hc na) fun σ H Q q => ?_
  obtain ⟨h, ρ, rfl, R, q⟩ := tX_iff.mp q
  refine (tX_mk (f := f) R (q.bind fun a x h1 ea R1 g1 ok1 q1 => ?_) : tX X.K W f σ h.H _)
  split at q1
  · rename_i xs exs
    obtain ⟨p1, vs, rfl, s1, d1⟩ := dp_lst (ok1.dp R1.ch exs)
    split at q1
    · rename_i ns ens
      split at q1
      · rename_i hn
        have ev := dInts_v ens d1
        subst ev
        exact ⟨p1, ns, rfl, s1, hn.1, hn.2, q1.now R1 (.int _)⟩
      · exact q1.elim
    · exact q1.elim
  · exact q1.elim
/-! sorted(xs), xs nested data that is lent -/
variable {a : Expr} {p pos : Pos}
def sortBR (a : Rv) : Er Rv := match a with
  | .b (.list ds) => if alikeB ds = true ∧ PyData.depthAll ds ≤ 60 ∧ (listsB ds || tupsB ds) = true then .ok (.b (.list (sortD ds))) else .bad
  | _ => .bad
theorem xsortedBR (hu : X.A.units + 80 < cLine) (hg : Gl X "sorted") (hm : X.mg "sorted" = none) (ha : PE X a (tX X.K W f)) (hs : starEach [a] X.env = (false, eval a X.env) :: starEach [] X.env := by rfl) : PE X (.Call (.Name "sorted" p) [a] [] pos) (tX X.K W (unF sortBR f)) := by
  refine peTo (pe_callB (cr_sortDt hu) hg hm boot_sorted (pa_cons ha pa_nil hs) (he := hs)) (c1_of fun h0 h ρ σ x a Q R0 R g ok q => ?_)
  unfold sortBR at q
  split at q
  · rename_i ds
    split at q
    · rename_i hc2
      obtain ⟨hc2, hc3, hc4⟩ := hc2
      obtain ⟨l, vs, rfl, s, da⟩ := dp_lst (show Dp X.K h.F x (.list ds) from ok)
      have hal := alikeB_all hc2
      refine ⟨l, vs, ds, rfl, ex_l R.ch.fh s, ex_dpa R.ch.fh da, fun x hx y hy => hal.1 x hx y hy, ?_, hc3, fun p hp => ?_⟩
      · rw [Bool.or_eq_true] at hc4
        rcases hc4 with z | z
        · exact sortable_lists z
        · exact sortable_tups z
      · obtain ⟨z1, z2, z3⟩ := dpa_zip da
        have e2 : sortD ds = ((vs.zip ds).mergeSort (PySem.W.dataLe false fun z : VD => z.2)).map (·.2) := by
          unfold sortD
          conv => lhs; rw [← z3]
          exact (List.map_mergeSort (f := fun z : VD => z.2) fun a _ b _ => rfl).symm
        refine PE1.newLB (xs := sortD ds) q R ?_ hp
        rw [e2]
        exact dpa_pairs fun z hz => z1 z ((List.mergeSort_perm _ _).mem_iff.mp hz)
    · exact q.elim
  · exact q.elim
def sortLn : Rv → Er Rv := alt1 sortA sortBR
theorem xsortedLn (hu : X.A.units + 80 < cLine) (hg : Gl X "sorted") (hm : X.mg "sorted" = none) (ha : PE X a (tX X.K W f)) (hs : starEach [a] X.env = (false, eval a X.env) :: starEach [] X.env := by rfl) : PE X (.Call (.Name "sorted" p) [a] [] pos) (tX X.K W (unF sortLn f)) :=
  xalt1 (xsortedA hu hg hm ha hs) (xsortedBR hu hg hm ha hs)
/-! s.index(t) of texts -/
variable {b : Expr} {g : EF}
def sindexR (s : Str) (b : Rv) : Er Rv := match b.dat with
  | some (.str t) => (match Builtin.Str.occurrences s t 0 s.length 1 with
    | i :: _ => .ok (.v (.int (i : Nat)))
    | [] => .bad)
  | _ => .bad
theorem xsindex {apos : Pos} (ha : PE X a (tX X.K W f)) (hb : PE X b (tX X.K W g)) (hs : starEach [b] X.env = [(false, eval b X.env)] := by rfl) (hbase : attributeBase a "index" X.env (eval a X.env) = eval a X.env := by rfl) (hline : (apos.endLine == pos.line) = true := by rfl) :
    PE X (.Call (.Attribute a "index" apos) [b] [] pos) (tX X.K W (strM sindexR f g)) := peTo (pe_m1 F.slot_str_index F.type_str_index mt_sindex ha hb hs hbase hline) (strM_of fun h0 h ρ σ s y b Q R0 R g ok q => by
  unfold sindexR at q
  split at q
  · rename_i t et
    have e1 := dp_str (ok.dp R.ch et)
    subst e1
    split at q
    · rename_i i rest ei
      exact ⟨s, t, i, rest, rfl, rfl, ei, q.now R (.int _)⟩
    · exact q.elim
  · exact q.elim)
end
@[simp] theorem lenSetF_e (f : EF) (ρ : Env) : lenSetF f ρ = (f ρ).bind fun a => match a.dat with
  | some (.list ys) => (match dInts ys with
    | some ns => if ns.Nodup ∧ ns.length ≤ 4000 then .ok (.v (.int (ns.length : Nat))) else .bad
    | none => .bad)
  | _ => .bad := (rfl)
end Sq

/-! if d.setdefault(k, x) != y: .. (whole numbers). -/
namespace Sq
open PySem PySem.Spec PyProof.Rows L2
section
variable {K : PySem.W.Frag} {W : WF} {X : Cx}
def neIf (g : EF) (s : SF) (x : Int) : SF := fun ρ => thenS ρ (g ρ) fun c => match c.dat with
  | some (.int z) => if x = z then .next ρ else s ρ
  | _ => .bad
def setdIf (j : Nat) (kf df g : EF) (s : SF) : SF := fun ρ => match slot ρ j with
  | .k kvs => thenS ρ (kf ρ) fun a => thenS ρ (df ρ) fun b => match a.dat.bind keyD, b with
    | some q, .v (.int x) => if kvs.length < 100000 then (match getK kvs q with
      | some (.int y) => neIf g s y ρ
      | none => neIf g s x (ρ.set j (.k (setK kvs q (.int x))))
      | _ => .bad) else .bad
    | _, _ => .bad
  | _ => .bad
theorem ne_if {g : EF} {s : SF} {x : Int} {ρ : Env} {σ : L2.St} {D : Ends} {h : Hs} (R : Rel K h ρ σ) (q : Post K W D h (neIf g s x ρ)) :
    tX K W g σ h.H fun y H2 => rNeD K (.int x) y H2 fun z H3 => ∃ k, z = .bl k ∧ if k = true then tS K W s D σ H3 else tS K W skipS D σ H3 := by
  unfold neIf at q
  refine tX_mk R (q.then fun c y h1 _ R1 g1 ok1 q1 => ?_)
  split at q1
  · rename_i z ez
    have ey := dp_int (ok1.dp R1.ch ez)
    subst ey
    refine ⟨.int x, .int z, .int _, .int _, rfl, rfl, _, rfl, ?_⟩
    split at q1
    · rename_i hxz
      subst hxz
      have e : (!PyData.eqv (.int x) (.int x)) = false := by simp [PyData.eqv]
      rw [e]
      rw [if_neg (by decide)]
      exact tS_mk R1 (Post.shift g1.sg q1)
    · rename_i hxz
      have e : (!PyData.eqv (.int x) (.int z)) = true := by simp [PyData.eqv, hxz]
      rw [e, if_pos rfl]
      exact tS_mk R1 (Post.shift g1.sg q1)
  · exact q1.elim
theorem xsetd (j : Nat) {o ke de ge : Expr} {kf df g : EF} {s : SF} {apos cpos mpos pos : Pos} {body : List Stmt} (hu : X.A.units + 64 < cLine) (ho : PE X o (tVar j)) (hk : PE X ke (tX X.K W kf)) (hd : PE X de (tX X.K W df)) (hg : PE X ge (tX X.K W g)) (hb : PSs X body (tS X.K W s))
    (m : M2 X o "setdefault" apos ke de cpos := by exact ⟨rfl, rfl, rfl, rfl⟩) (hm : behindInMarks .NotEq ge = false := by exact nomark _) : PS X (.If (.Compare (.Call (.Attribute o "setdefault" apos) [ke, de] [] cpos) [.NotEq] [ge] mpos) body [] pos) (tS X.K W (setdIf j kf df g s)) := by
  refine psTo (ps_if (pt_cmpR (op_neD hu) (pe_dsetd ho hk hd m) hg hm) hb (xssnil (W := W))) fun D σ H ⟨h, ρ, eh, R, q⟩ => ?_
  subst eh
  unfold setdIf at q
  split at q
  · rename_i kvs es
    have ei := slot_some es (by intro z; cases z)
    obtain ⟨x', ex, l, vs, rfl, hl, fl, hkv⟩ := R.get ei
    refine ⟨.ref l, ex, l, rfl, .inl ⟨vs, .inl hl⟩, ?_⟩
    refine (tX_mk (f := kf) R (q.then fun a y h1 _ R1 g1 ok1 q1 => ?_) : tX X.K W kf σ h.H _)
    refine (tX_mk (f := df) R1 ((Post.shift g1.sg q1).then fun b z h2 _ R2 g2 ok2 q2 => ?_) : tX X.K W df σ h1.H _)
    split at q2
    · rename_i kk xx ek _
      split at q2
      · rename_i hlt
        obtain ⟨x2, ex2, l2, vs2, rfl, hl2, fl2, hd2⟩ := R2.get ei
        rw [ex] at ex2
        cases ex2
        obtain ⟨dk, e1, e2⟩ := Option.bind_eq_some_iff.mp ek
        have ev := keyD_v e2 ((ok1.grow g2).dp R2.ch e1)
        have ez := dp_int (show Dp X.K h2.G z (.int xx) from ok2)
        subst ev
        subst ez
        refine ⟨vs2, kk, hl2, rfl, by rw [hd2.len]; exact Nat.lt_of_lt_of_le hlt (by decide), fun v hv => ?_, fun hn => ?_⟩
        · rcases hd2.get kk with ⟨v2, d, e3, e4, e5⟩ | ⟨e3, e4⟩
          · rw [e3] at hv
            cases hv
            rw [e4] at q2
            split at q2
            · rename_i yy eyy
              cases eyy
              have ey := dp_int e5
              subst ey
              exact ne_if R2 (Post.shift g2.sg q2)
            · rename_i hc
              cases hc
            · exact q2.elim
          · rw [e3] at hv
            cases hv
        · rcases hd2.get kk with ⟨v2, d, e3, e4, e5⟩ | ⟨e3, e4⟩
          · rw [e3] at hn
            cases hn
          · rw [e4] at q2
            obtain ⟨R4, g4⟩ := R2.mut (s' := .k (setK kvs kk (.int xx))) (o := .dK (putK vs2 kk (.int xx))) ei rfl rfl ex ⟨l, _, rfl, upd_same, fl2, hd2.set kk ok2⟩
            exact ne_if R4 (Post.shift (g2.sg.trans g4) q2)
      · exact q2.elim
    · exact q2.elim
  · exact q.elim
end
@[simp] theorem neIf_e (g : EF) (s : SF) (x : Int) (ρ : Env) : neIf g s x ρ = thenS ρ (g ρ) fun c => match c.dat with
  | some (.int z) => if x = z then .next ρ else s ρ
  | _ => .bad := (rfl)
end Sq

/-! for x, y in ((xs, a), (ys, b)): .. x.append(e) ..: the target is one of two own lists. -/
namespace Sq
open PySem PySem.Spec PyProof.Rows L2
/-- some slots stand as they stood -/
def Kp (js : List Nat) (σ0 σ : L2.St) : Prop := ∀ j ∈ js, σ[j]? = σ0[j]?
theorem Kp.set {js : List Nat} {σ0 σ : L2.St} (k : Kp js σ0 σ) {i : Nat} (hi : js.contains i = false) (v : Option V) : Kp js σ0 (σ.set i v) := fun j hj => by
  have ne : i ≠ j := fun e => by
    subst e
    rw [List.contains_iff_mem.mpr hj] at hi
    cases hi
  rw [List.getElem?_set_ne ne]
  exact k j hj
theorem Kp.fp {js fp : List Nat} {σ0 σ σ' : L2.St} (k : Kp js σ0 σ) (hi : js.all (fun j => !fp.contains j) = true) (f : Fp fp σ σ') : Kp js σ0 σ' := fun j hj => by
  have h := List.all_eq_true.mp hi j hj
  have hn : j ∉ fp := fun e => by
    rw [List.contains_iff_mem.mpr e] at h
    cases h
  rw [f.2 j hn]
  exact k j hj
def PostA (js : List Nat) (σ0 : L2.St) (K : PySem.W.Frag) (W : WF) (D : Ends) (h : Hs) : Res → Prop
  | .next ρ' => ∀ σ' h', Rel K h' ρ' σ' → Kp js σ0 σ' → SG h h' → D.nx σ' h'.H
  | .brk ρ' => ∀ σ' h', Rel K h' ρ' σ' → Kp js σ0 σ' → SG h h' → D.bk σ' h'.H
  | .cont ρ' => ∀ σ' h', Rel K h' ρ' σ' → Kp js σ0 σ' → SG h h' → D.ct σ' h'.H
  | .exc c p ρ' => ∀ σ' h', Rel K h' ρ' σ' → SG h h' → W c p σ' h'
  | _ => False
def tSA (js : List Nat) (σ0 : L2.St) (K : PySem.W.Frag) (W : WF) (f : SF) : TS := fun D σ H => ∃ h ρ, h.H = H ∧ Rel K h ρ σ ∧ Kp js σ0 σ ∧ PostA js σ0 K W D h (f ρ)
section
variable {js : List Nat} {σ0 : L2.St} {K : PySem.W.Frag} {W : WF} {X : Cx} {D : Ends} {h h1 : Hs} {ρ : Env} {σ : L2.St}
theorem PostA.shift (g : SG h h1) : ∀ {r : Res}, PostA js σ0 K W D h r → PostA js σ0 K W D h1 r
  | .next _, q => fun σ' h' R k g' => q σ' h' R k (g.trans g')
  | .exc _ _ _, q => fun σ' h' R g' => q σ' h' R (g.trans g')
  | .brk _, q => fun σ' h' R k g' => q σ' h' R k (g.trans g')
  | .cont _, q => fun σ' h' R k g' => q σ' h' R k (g.trans g')
  | .ret _, q => q.elim
  | .bad, q => q.elim
theorem tSA_mk {f : SF} (R : Rel K h ρ σ) (k : Kp js σ0 σ) (q : PostA js σ0 K W D h (f ρ)) : tSA js σ0 K W f D σ h.H := ⟨h, ρ, rfl, R, k, q⟩
theorem PostA.then {e : Er Rv} {k : Rv → Res} (q : PostA js σ0 K W D h (thenS ρ e k)) {Q : VK} (hk : ∀ r v h', e = .ok r → Rel K h' ρ σ → Gr h h' → RvOk K h.H h' v r → PostA js σ0 K W D h (k r) → Q v h'.H) : PE1 K W h ρ σ Q e := by
  cases e with
  | ok r => exact fun v h' R g ok => hk r v h' rfl R g ok q
  | exc c p => exact fun h' R g => q σ h' R g.sg
  | bad => exact q.elim
theorem xssconsA {st : Stmt} {rest : List Stmt} {f g : SF} (h1 : PS X st (tSA js σ0 X.K W f)) (h2 : PSs X rest (tSA js σ0 X.K W g)) : PSs X (st :: rest) (tSA js σ0 X.K W (seqS f g)) := by
  refine pssTo (pss_cons h1 h2) fun D σ H ⟨h, ρ, e, R, kp, q⟩ => ?_
  subst e
  refine tSA_mk R kp ?_
  unfold seqS at q
  cases ef : f ρ with
  | next ρ' =>
    rw [ef] at q
    exact fun σ' h' R' k' g' => tSA_mk R' k' (PostA.shift g' q)
  | ret r => rw [ef] at q; exact q
  | brk ρ' => rw [ef] at q; exact q
  | cont ρ' => rw [ef] at q; exact q
  | exc c p ρ' => rw [ef] at q; exact q
  | bad => rw [ef] at q; exact q
theorem xssoneA {st : Stmt} {f : SF} (h1 : PS X st (tSA js σ0 X.K W f)) : PSs X [st] (tSA js σ0 X.K W f) := pss_one h1
/-- x = e -/
theorem xsetA {i : Nat} {x : Str} {e : Expr} {f : EF} {pos pos' : Pos} (hN : X.N.Nodup) (hj : js.contains i = false) (he : PE X e (tX X.K W f)) (hi : X.N[i]? = some x := by rfl) (hx : Loc X.env.scope x := by first | exact Or.inl rfl | exact Or.inr rfl) (hs : swapsWith e (some (.Name x pos')) pos.line X.env = pure false := by rfl)
    (hf : X.fn x = true ∨ X.env.scope.names.lookup x = some .local := by first | exact .inl rfl | exact .inr rfl | assumption) : PS X (.Assign [.Name x pos'] e pos) (tSA js σ0 X.K W (asgS f (asgn i))) :=
  psTo (ps_set hN hi hx he hs hf) fun D σ H ⟨h, ρ, e, R, kp, q⟩ => by
    subst e
    refine tX_mk R (q.then fun r v h' _ R' g' ok q' => ?_)
    cases e1 : asgn i r ρ with
    | bad => rw [e1] at q'; exact q'.elim
    | exc c p => exact absurd e1 (asgn_ne _ _ _ _)
    | ok ρ' =>
      rw [e1] at q'
      exact q' _ h' (asgn_ok R R' ok e1) (kp.set hj _) g'.sg
/-- the target's list is the owner's -/
theorem xappA (l i : Nat) {e o : Expr} {f : EF} {pos apos spos : Pos} (h0 : σ0[l]? = σ0[i]?) (hl : js.contains l = true) (hi : js.contains i = true) (he : PE X (.Call (.Attribute o "append" apos) [e] [] pos) (tBM X.K "list" rAppend (tVar l) (tCons (tX X.K W f) tNil))) (hs : swapsWith (.Call (.Attribute o "append" apos) [e] [] pos) none spos.line X.env = pure false := by rfl) :
    PS X (.Expr (.Call (.Attribute o "append" apos) [e] [] pos) spos) (tSA js σ0 X.K W (appS i f)) := by
  refine psTo (ps_expr he hs) fun D σ H ⟨h, ρ, eh, R, kp, q⟩ => ?_
  subst eh
  have hal : σ[l]? = σ[i]? := by rw [kp l (List.contains_iff_mem.mp hl), h0, kp i (List.contains_iff_mem.mp hi)]
  unfold appS at q
  split at q
  · rename_i xs es
    obtain ⟨a, vs, ex, hl, hd, hlen, _⟩ := mut_now R es
    refine ⟨.ref a, hal.trans ex, .inl ⟨rfl, vs, .of hl⟩, ?_⟩
    refine (tX_mk (f := f) R (q.then fun r v h' _ R' g' ok q' => ?_) : tX X.K W f σ h.H _)
    cases ek : r.keep with
    | bad => rw [ek] at q'; exact q'.elim
    | exc c p => exact absurd ek keep_ne
    | ok d =>
      rw [ek] at q'
      dsimp only at q'
      split at q'
      · obtain ⟨h2, eh2, R2, g2, dv⟩ := keep_ok R R' g' ek ok
        obtain ⟨a2, vs2, ex2, hl2, hd2, hlen2, mt⟩ := mut_now R2 es
        rw [ex] at ex2
        cases ex2
        obtain ⟨R3, g3⟩ := mt (vs2 ++ [v]) (xs ++ [d]) (hd2.snoc dv)
        rw [← eh2]
        exact ⟨a, vs2, v, rfl, rfl, hl2, by rw [hlen2]; exact Nat.lt_of_lt_of_le (by assumption) (by decide), q' σ _ R3 kp (g2.sg.trans g3)⟩
      · exact q'.elim
  · exact q.elim
/-- a loop within -/
theorem xforA {iter tg : Expr} {body : List Stmt} {it : IF} {φ : TF} {fp : List Nat} {f : SF} {pos : Pos} (hp : PassesOwn (model X.prog X.w) X.A X.env X.xe) (hc : X.calm = true) (hfp : js.all (fun j => !fp.contains j) = true) (hi : PI X tg iter (tI SG X.K W it)) (hg : PG X tg (tG X.K fp φ)) (hb : PSs X body (tSA js σ0 X.K W f))
    (hs : ∀ x, foldedSetIterable iter X.env x = pure x := by intro _; rfl) : PS X (.For tg iter body [] pos) (tSA js σ0 X.K W (forS it φ f)) := psTo (ps_for hp hc hi hg hb hs) fun D σ H ⟨h, ρ, e, R, kp, q⟩ => by
  subst e
  refine ⟨h, ρ, rfl, R, ?_⟩
  unfold forS at q
  cases ei : it ρ with
  | bad => rw [ei] at q; exact q
  | exc c p =>
    rw [ei] at q
    exact fun h' R' g' => q σ h' R' g'.sg
  | ok rs =>
    rw [ei] at q
    have q : PostA js σ0 X.K W D h (forL φ f rs ρ) := q
    intro J h1 R1 g1 iok
    refine ⟨fun i m σ' H' => m = rs.length - i ∧ i ≤ rs.length ∧ ∃ h' ρ', h'.H = H' ∧ Rel X.K h' ρ' σ' ∧ Kp js σ0 σ' ∧ SG h1 h' ∧ PostA js σ0 X.K W D h' (forL φ f (rs.drop i) ρ'), ⟨rs.length, by omega, Nat.zero_le _, h1, ρ, rfl, R1, kp, SG.refl _, PostA.shift g1.sg q⟩, ?_⟩
    rintro i m σ' H' ⟨em, hi, h2, ρ2, rfl, R2, k2, g2, q2⟩
    by_cases hlt : i < rs.length
    · refine .inr ⟨iok.go i h2 g2 R2.ch hlt, fun σ3 H3 => ∃ h' ρ', h'.H = H3 ∧ Rel X.K h' ρ' σ3 ∧ Kp js σ0 σ3 ∧ SG h1 h' ∧ PostA js σ0 X.K W D h' (forL φ f (rs.drop (i + 1)) ρ'), fun σ3 H3 n => ⟨_, by omega, rfl, hlt, n⟩, fun x H3 y => ?_⟩
      obtain ⟨h3, r, rfl, g3, c3, er, okr⟩ := iok.yld i h2 x H3 g2 R2.ch hlt y
      have edrop : rs.drop i = r :: rs.drop (i + 1) := by
        obtain ⟨hh, e2⟩ := List.getElem?_eq_some_iff.mp er
        rw [List.drop_eq_getElem_cons hh, e2]
      rw [edrop] at q2
      unfold forL at q2
      have R3 : Rel X.K h3 ρ2 σ' := R2.grow g3 c3
      cases e1 : φ r ρ2 with
      | bad => rw [e1] at q2; exact q2.elim
      | exc c p => rw [e1] at q2; exact q2.elim
      | ok ρ4 =>
        rw [e1] at q2
        dsimp only at q2
        refine ⟨h3, h3, ρ2, r, ρ4, rfl, R3, R3, okr.rv, e1, fun σ4 R4 f4 => ⟨h3, ρ4, rfl, R4, k2.fp hfp f4, ?_⟩⟩
        have q3 := PostA.shift g3.sg q2
        cases ef : f ρ4 with
        | next ρ5 =>
          rw [ef] at q3
          exact fun σ5 h5 R5 k5 g5 => ⟨h5, ρ5, rfl, R5, k5, (g2.trans g3.sg).trans g5, PostA.shift g5 q3⟩
        | cont ρ5 =>
          rw [ef] at q3
          exact fun σ5 h5 R5 k5 g5 => ⟨h5, ρ5, rfl, R5, k5, (g2.trans g3.sg).trans g5, PostA.shift g5 q3⟩
        | brk ρ5 =>
          rw [ef] at q3
          exact fun σ5 h5 R5 k5 g5 => q3 σ5 h5 R5 k5 g5
        | ret r =>
          rw [ef] at q3
          exact q3
        | exc c p ρ5 =>
          rw [ef] at q3
          exact q3
        | bad =>
          rw [ef] at q3
          exact q3
    · have hi' : i = rs.length := by omega
      subst hi'
      rw [List.drop_length] at q2
      exact .inl ⟨iok.stop _ h2 g2 R2.ch (Nat.le_refl _), q2 σ' h2 R2 k2 (SG.refl _)⟩
def for2S (l u r1 r2 : Nat) (f1 f2 : EF) (s1 s2 : SF) : SF := fun ρ => match slot ρ r1, slot ρ r2, ρ[l]? with
  | .o _, .o _, some _ => thenS ρ (f1 ρ) fun a => thenS ρ (f2 ρ) fun b => match a, b with
    | .v da, .v db => (match s1 ((ρ.set l .u).set u (.v da)) with
      | .next ρ1 => (match s2 ((ρ1.set l .u).set u (.v db)) with
        | .next ρ2 => .next ρ2
        | .exc c p ρ2 => .exc c p ρ2
        | _ => .bad)
      | .exc c p ρ1 => .exc c p ρ1
      | _ => .bad)
    | _, _ => .bad
  | _, _, _ => .bad
theorem sqt_F {K : PySem.W.Frag} {h h' : Hs} {t : Addr} {xs : List V} (e : h.F t = some (.tup xs)) (g : SG h h') (c : Ch h') : SqT K h'.H t xs := .of (c.fh _ _ (g.f _ _ e))
theorem sqt_uniq {K : PySem.W.Frag} {H : Hp} {t : Addr} {xs ys : List V} (e : H t = some (.tup xs)) (h : ∀ zs, SqT K H t zs → zs[0]? = ys[0]? ∧ zs[1]? = ys[1]?) : xs[0]? = ys[0]? ∧ xs[1]? = ys[1]? := h xs (.of e)
theorem xfor2 (l u r1 r2 : Nat) {iter tg : Expr} {body : List Stmt} {f1 f2 : EF} {s1 s2 : SF} {pos : Pos} (hp : PassesOwn (model X.prog X.w) X.A X.env X.xe) (hc : X.calm = true)
    (hl : PE X iter (tTup (tCons (tTup (tCons (tVar r1) (tCons (tX X.K W f1) tNil))) (tCons (tTup (tCons (tVar r2) (tCons (tX X.K W f2) tNil))) tNil)))) (hg : PG X tg (gTup X.K 2 (gCons (gName l) (gCons (gName u) gNil))))
    (n1 : l ≠ u ∧ r1 ≠ l ∧ r1 ≠ u ∧ r2 ≠ l ∧ r2 ≠ u) 
    (b1 : ∀ σ0 : L2.St, σ0[l]? = σ0[r1]? → PSs X body (tSA [l, r1, r2] σ0 X.K W s1)) (b2 : ∀ σ0 : L2.St, σ0[l]? = σ0[r2]? → PSs X body (tSA [l, r1, r2] σ0 X.K W s2))
    (hs : ∀ x, foldedSetIterable iter X.env x = pure x := by intro _; rfl) : PS X (.For tg iter body [] pos) (tS X.K W (for2S l u r1 r2 f1 f2 s1 s2)) := by
  have hb : PSs X body (fun D σ H => (∃ σ0 : L2.St, σ0[l]? = σ0[r1]? ∧ tSA [l, r1, r2] σ0 X.K W s1 D σ H) ∨ (∃ σ0 : L2.St, σ0[l]? = σ0[r2]? ∧ tSA [l, r1, r2] σ0 X.K W s2 D σ H)) :=
    ⟨fun pins s σ H D I hw => hw.elim (fun ⟨σ0, h0, q⟩ => (b1 σ0 h0).run pins s σ H D I q) (fun ⟨σ0, h0, q⟩ => (b2 σ0 h0).run pins s σ H D I q)⟩
  refine psTo (ps_for hp hc (pi_seq hl) hg hb hs) fun D σ H ⟨h, ρ, eh, R, q⟩ => ?_
  subst eh
  unfold for2S at q
  split at q
  · rename_i xs1 xs2 sl0 es1 es2 esl
    obtain ⟨l1, vs1, ex1, hl1, hd1, hlen1, _⟩ := mut_now R es1
    obtain ⟨l2, vs2, ex2, hl2, hd2, hlen2, _⟩ := mut_now R es2
    refine ⟨.ref l1, ex1, ?_⟩
    refine (tX_mk (f := f1) R (q.then fun a va h1 _ R1 g1 ok1 q1 => ?_) : tX X.K W f1 σ h.H _)
    refine ⟨by show 2 ≤ sizeLine; decide, fun t1 m1 => ?_⟩
    have G1 : Gr h1 (h1.newB t1 (.tup [.ref l1, va])) := Gr.newB R1.ch m1
    refine ⟨.ref l2, ex2, ?_⟩
    refine (tX_mk (f := f2) (R1.newB m1) ((Post.shift (g1.sg.trans G1.sg) q1).then fun b vb h2 _ R2 g2 ok2 q2 => ?_) : tX X.K W f2 σ (h1.newB t1 (.tup [.ref l1, va])).H _)
    refine ⟨by show 2 ≤ sizeLine; decide, fun t2 m2 => ?_⟩
    have G2 : Gr h2 (h2.newB t2 (.tup [.ref l2, vb])) := Gr.newB R2.ch m2
    refine ⟨by show 2 ≤ sizeLine; decide, fun t3 m3 => ?_⟩
    have R2' : Rel X.K (h2.newB t2 (.tup [.ref l2, vb])) ρ σ := R2.newB m2
    have G3 : Gr (h2.newB t2 (.tup [.ref l2, vb])) ((h2.newB t2 (.tup [.ref l2, vb])).newB t3 (.tup [.ref t1, .ref t2])) := Gr.newB R2'.ch m3
    have R3 : Rel X.K ((h2.newB t2 (.tup [.ref l2, vb])).newB t3 (.tup [.ref t1, .ref t2])) ρ σ := R2'.newB m3
    have F1 : ((h2.newB t2 (.tup [.ref l2, vb])).newB t3 (.tup [.ref t1, .ref t2])).F t1 = some (.tup [.ref l1, va]) := (G2.trans G3).sg.f _ _ (g2.sg.f _ _ upd_same)
    have F2 : ((h2.newB t2 (.tup [.ref l2, vb])).newB t3 (.tup [.ref t1, .ref t2])).F t2 = some (.tup [.ref l2, vb]) := G3.sg.f _ _ upd_same
    have F3 : ((h2.newB t2 (.tup [.ref l2, vb])).newB t3 (.tup [.ref t1, .ref t2])).F t3 = some (.tup [.ref t1, .ref t2]) := upd_same
    split at q2
    · rename_i da db _ _
      have da1 : Dp X.K ((h2.newB t2 (.tup [.ref l2, vb])).newB t3 (.tup [.ref t1, .ref t2])).G va da := ex_dp ((g2.trans (G2.trans G3)).g) (show Dp X.K h1.G va da from ok1)
      have db1 : Dp X.K ((h2.newB t2 (.tup [.ref l2, vb])).newB t3 (.tup [.ref t1, .ref t2])).G vb db := ex_dp ((G2.trans G3).g) (show Dp X.K h2.G vb db from ok2)
      replace q2 := Post.shift ((g2.sg.trans G2.sg).trans G3.sg) q2
      rw [show upd (upd h2.H t2 (.tup [.ref l2, vb])) t3 (.tup [.ref t1, .ref t2]) = ((h2.newB t2 (.tup [.ref l2, vb])).newB t3 (.tup [.ref t1, .ref t2])).H from rfl]
      generalize (h2.newB t2 (.tup [.ref l2, vb])).newB t3 (.tup [.ref t1, .ref t2]) = h3 at *
      have lls : l < σ.length := by rw [← R3.len]; exact (List.getElem?_eq_some_iff.mp esl).1
      obtain ⟨w1, w2, w3, w4, w5⟩ := n1
      refine ⟨t3, [.ref t1, .ref t2], rfl, .inr ⟨sqt_F F3 (SG.refl _) R3.ch, ?_⟩⟩
      refine ⟨fun i m σ' H' => (i = 0 ∧ m = 2 ∧ σ' = σ ∧ H' = h3.H) ∨ (i = 1 ∧ m = 1 ∧ ∃ h' ρ1, h'.H = H' ∧ Rel X.K h' ρ1 σ' ∧ SG h3 h' ∧ s1 ((ρ.set l .u).set u (.v da)) = .next ρ1 ∧ σ'[r2]? = some (some (.ref l2)) ∧ ∃ z, σ'[l]? = some z) ∨
        (i = 2 ∧ m = 0 ∧ ∃ h' ρ1 ρ2, h'.H = H' ∧ Rel X.K h' ρ2 σ' ∧ SG h3 h' ∧ s1 ((ρ.set l .u).set u (.v da)) = .next ρ1 ∧ s2 ((ρ1.set l .u).set u (.v db)) = .next ρ2), ⟨2, .inl ⟨rfl, rfl, rfl, rfl⟩⟩, ?_⟩
      rintro i m σ' H' hW
      rcases hW with ⟨rfl, rfl, rfl, rfl⟩ | ⟨rfl, rfl, h', ρ1, rfl, R', g', e1, hr2, z, hz⟩ | ⟨rfl, rfl, h', ρ1, ρ2, rfl, R', g', e1, e2⟩
      · refine .inr ⟨⟨_, _, sqt_F F3 (SG.refl _) R3.ch, rfl⟩, fun σ3 H3 => ∃ h' ρ1, h'.H = H3 ∧ Rel X.K h' ρ1 σ3 ∧ SG h3 h' ∧ s1 ((ρ.set l .u).set u (.v da)) = .next ρ1 ∧ σ3[r2]? = some (some (.ref l2)) ∧ ∃ z, σ3[l]? = some z, fun σ3 H3 n => ⟨1, by decide, .inr (.inl ⟨rfl, rfl, n⟩)⟩, fun x H3 y => ?_⟩
        obtain ⟨rfl, hy⟩ := y
        cases (hy _ (sqt_F F3 (SG.refl _) R3.ch))
        refine ⟨t1, [.ref l1, va], rfl, sqt_F F1 (SG.refl _) R3.ch, rfl, .ref l1, [va], rfl, va, [], rfl, rfl, .inl ?_⟩
        have a1 : ((σ'.set l (some (.ref l1))).set u (some va))[l]? = some (some (.ref l1)) := by
          rw [List.getElem?_set_ne (Ne.symm w1), List.getElem?_set_self lls]
        have a2 : ((σ'.set l (some (.ref l1))).set u (some va))[r1]? = some (some (.ref l1)) := by
          rw [List.getElem?_set_ne (Ne.symm w3), List.getElem?_set_ne (Ne.symm w2), ex1]
        have a3 : ((σ'.set l (some (.ref l1))).set u (some va))[r2]? = some (some (.ref l2)) := by
          rw [List.getElem?_set_ne (Ne.symm w5), List.getElem?_set_ne (Ne.symm w4), ex2]
        have Rr : Rel X.K h3 ((ρ.set l .u).set u (.v da)) ((σ'.set l (some (.ref l1))).set u (some va)) := (R3.set l (s := .u) (v := .ref l1) trivial (fun _ _ _ z => by cases z)).set u (s := .v da) (v := va) ⟨va, rfl, da1⟩ (fun _ _ _ z => by cases z)
        refine ⟨_, a1.trans a2.symm, tSA_mk Rr (fun _ _ => rfl) ?_⟩
        cases e1 : s1 ((ρ.set l .u).set u (.v da)) with
        | next ρ1 =>
          exact fun σ4 h4 R4 k4 g4 => ⟨h4, ρ1, rfl, R4, g4, rfl, (k4 r2 (by simp)).trans a3, _, (k4 l (by simp)).trans a1⟩
        | exc c p ρ1 => rw [e1] at q2; exact q2
        | ret r => rw [e1] at q2; exact q2.elim
        | brk r => rw [e1] at q2; exact q2.elim
        | cont r => rw [e1] at q2; exact q2.elim
        | bad => rw [e1] at q2; exact q2.elim
      · rw [e1] at q2
        refine .inr ⟨⟨_, _, sqt_F F3 g' R'.ch, rfl⟩, fun σ3 H3 => ∃ h' ρ1 ρ2, h'.H = H3 ∧ Rel X.K h' ρ2 σ3 ∧ SG h3 h' ∧ s1 ((ρ.set l .u).set u (.v da)) = .next ρ1 ∧ s2 ((ρ1.set l .u).set u (.v db)) = .next ρ2, fun σ3 H3 n => ⟨0, by decide, .inr (.inr ⟨rfl, rfl, n⟩)⟩, fun x H3 y => ?_⟩
        obtain ⟨rfl, hy⟩ := y
        cases (hy _ (sqt_F F3 g' R'.ch))
        refine ⟨t2, [.ref l2, vb], rfl, sqt_F F2 g' R'.ch, rfl, .ref l2, [vb], rfl, vb, [], rfl, rfl, .inr ?_⟩
        have a1 : ((σ'.set l (some (.ref l2))).set u (some vb))[l]? = some (some (.ref l2)) := by
          rw [List.getElem?_set_ne (Ne.symm w1), List.getElem?_set_self (List.getElem?_eq_some_iff.mp hz).1]
        have a2 : ((σ'.set l (some (.ref l2))).set u (some vb))[r2]? = some (some (.ref l2)) := by
          rw [List.getElem?_set_ne (Ne.symm w5), List.getElem?_set_ne (Ne.symm w4), hr2]
        have Rr : Rel X.K h' ((ρ1.set l .u).set u (.v db)) ((σ'.set l (some (.ref l2))).set u (some vb)) := (R'.set l (s := .u) (v := .ref l2) trivial (fun _ _ _ z => by cases z)).set u (s := .v db) (v := vb) ⟨vb, rfl, ex_dp g'.g db1⟩ (fun _ _ _ z => by cases z)
        refine ⟨_, a1.trans a2.symm, tSA_mk Rr (fun _ _ => rfl) ?_⟩
        dsimp only at q2
        cases e2 : s2 ((ρ1.set l .u).set u (.v db)) with
        | next ρ2 =>
          exact fun σ4 h4 R4 k4 g4 => ⟨h4, ρ1, ρ2, rfl, R4, g'.trans g4, e1, e2⟩
        | exc c p ρ2 => rw [e2] at q2; exact PostA.shift g' q2
        | ret r => rw [e2] at q2; exact q2.elim
        | brk r => rw [e2] at q2; exact q2.elim
        | cont r => rw [e2] at q2; exact q2.elim
        | bad => rw [e2] at q2; exact q2.elim
      · rw [e1] at q2
        dsimp only at q2
        rw [e2] at q2
        exact .inl ⟨⟨_, sqt_F F3 g' R'.ch, Nat.le_refl _⟩, q2 σ' h' R' g'⟩
    · exact q2.elim
  · exact q.elim
end
end Sq

/-! xs.insert(i, e). -/
namespace Sq
open PySem PySem.Spec PyProof.Rows L2
section
variable {W : WF} {X : Cx}
def insS (j : Nat) (g f : EF) : SF := fun ρ => match slot ρ j with
  | .o xs => thenS ρ (g ρ) fun i => thenS ρ (f ρ) fun r => match i.dat, r.keep with
    | some (.int z), .ok d => if 0 ≤ z ∧ z < 2 ^ 63 ∧ xs.length < 100000 then .next (ρ.set j (.o (xs.take z.toNat ++ [d] ++ xs.drop z.toNat))) else .bad
    | _, _ => .bad
  | _ => .bad
def rIns : V → List V → Hp → VK → Prop := fun x vs H Q => ∃ (l : Addr) (xs : List V) (i : Int) (y : V), x = .ref l ∧ vs = [.int i, y] ∧ H l = some (.lst xs) ∧ xs.length < sizeLine ∧ 0 ≤ i ∧ i < 2 ^ 63 ∧
    Q .non (upd H l (.lst (xs.take i.toNat ++ [y] ++ xs.drop i.toNat)))
theorem xinsert (j : Nat) {e1 e2 o : Expr} {g f : EF} {pos apos spos : Pos} (he : PE X (.Call (.Attribute o "insert" apos) [e1, e2] [] pos) (tBM X.K "list" rIns (tVar j) (tCons (tX X.K W g) (tCons (tX X.K W f) tNil)))) (hs : swapsWith (.Call (.Attribute o "insert" apos) [e1, e2] [] pos) none spos.line X.env = pure false := by rfl) :
    PS X (.Expr (.Call (.Attribute o "insert" apos) [e1, e2] [] pos) spos) (tS X.K W (insS j g f)) := by
  refine psTo (ps_expr he hs) fun D σ H ⟨h, ρ, eh, R, q⟩ => ?_
  subst eh
  unfold insS at q
  split at q
  · rename_i xs es
    obtain ⟨l, vs, ex, hl, hd, hlen, _⟩ := mut_now R es
    refine ⟨.ref l, ex, .inl ⟨rfl, vs, .of hl⟩, ?_⟩
    refine (tX_mk (f := g) R (q.then fun iz vz h1 _ R1 g1 ok1 q1 => ?_) : tX X.K W g σ h.H _)
    refine (tX_mk (f := f) R1 ((Post.shift g1.sg q1).then fun r v h2 _ R2 g2 ok2 q2 => ?_) : tX X.K W f σ h1.H _)
    split at q2
    · rename_i z d ez ek
      split at q2
      · rename_i hc
        have ev := dp_int (((ok1.grow g2).dp R2.ch ez))
        subst ev
        obtain ⟨h3, eh3, R3, g3, dv⟩ := keep_ok R1 R2 g2 ek ok2
        obtain ⟨l2, vs2, ex2, hl2, hd2, hlen2, mt⟩ := mut_now R3 es
        rw [ex] at ex2
        cases ex2
        have dd : DpAll X.K h3.G (vs2.take z.toNat ++ [v] ++ vs2.drop z.toNat) (xs.take z.toNat ++ [d] ++ xs.drop z.toNat) := by
          exact ((hd2.take _).append (.cons dv .nil)).append (hd2.drop _)
        obtain ⟨R4, g4⟩ := mt (vs2.take z.toNat ++ [v] ++ vs2.drop z.toNat) (xs.take z.toNat ++ [d] ++ xs.drop z.toNat) dd
        rw [← eh3]
        exact ⟨l, vs2, z, v, rfl, rfl, hl2, by rw [hlen2]; exact Nat.lt_of_lt_of_le hc.2.2 (by decide), hc.1, hc.2.1, q2 σ _ R4 (g3.sg.trans g4)⟩
      · exact q2.elim
    · exact q2.elim
  · exact q.elim
end
end Sq

/-! sorted(set(xs)), len(set(xs)) of whole numbers, some perhaps alike. -/
namespace Sq
open PySem PySem.Spec PyProof.Rows L2
abbrev setZ (w : World) : Obj := { cls := .type "set", dict := none, data := .set #[] 0 (.fresh 0 0 (!w.params.followText "set-order")) }
section
variable {P : Program} {w : World} {A : Around} {E : Value → Shared → Prop} {s : Shared}
set_option maxHeartbeats 3200000 in
theorem set_of_list {l : Addr} {items : Array Value} (ns : List Int) {Q : Value → Shared → Prop} (hh : A.handled = none) (hl : s.heap.IsList l items) (hit : IntsAre items.toList ns) (hb : ns.length + 1 < scanBound)
    (h : ∀ (h' : Heap) (tk c : Nat), SetR w h' s.heap.objs.size (fun j => decide (j ∈ ns)) c → c ≤ ns.length → (∀ b o, s.heap.get? b = some o → h'.get? b = some o) → Q (.ref s.heap.objs.size) { s with heap := h', toks := tk }) :
    wpAny (model P w) A (call (.type "set") [.ref l]) Q E s := by
  have hisz : items.size = ns.length := Array.length_toList.symm.trans (IntsAre.length hit)
  have hsz : (s.heap.push (setZ w)).objs.size = s.heap.objs.size + 1 := Heap.size_push ..
  have hS : (s.heap.push (setZ w)).get? s.heap.objs.size = some (setZ w) := Heap.get?_push_size _ rfl
  obtain ⟨c, tl, hmro⟩ := F.called_set.mro
  have m1 := F.called_set.made
  have m2 := F.called_set.sub
  have m3 := F.called_set.notType
  have m4 := F.called_set.canCreate
  have m5 := F.typeCall_set_1 (.ref l)
  refine wpAny_call (codeAny_of_tree (wpAny_pure ⟨Code.quiet_builtin _ (by decide +kernel), codeAny_builtin F.entry_type_call ?_⟩))
  rw [Around.under_plain (weight_type_call_type "set" [.ref l] []) rfl]
  repeat (any_goals (first | assumption | wp_step))
  refine codeAny_mono (code_set_led1 (.ref l) (E := E) (Q₁ := fun obj s₁ => obj = .ref s.heap.objs.size ∧ s₁ = { s with heap := s.heap.push (setZ w) }) ⟨rfl, rfl⟩) fun r s₁ hr => ?_
  cases r with
  | error e => exact hr
  | ok fl =>
    cases fl with
    | ret obj =>
      obtain ⟨rfl, rfl⟩ := hr
      have hT : Shared.TypeIs { s with heap := s.heap.push (setZ w) } (.ref s.heap.objs.size) "set" := ⟨_, hS, rfl⟩
      have n1 := F.called_set.init.lookup
      have n2 := F.called_set.init.bind (.ref s.heap.objs.size)
      repeat (any_goals (first | assumption | wp_step))
      refine codeAny_mono (codeAny_call_builtin (R := wants (fun r s₂ => r = .none ∧ ∃ h' tk c, s₂ = { s with heap := h', toks := tk } ∧ SetR w h' s.heap.objs.size (fun j => decide (j ∈ ns)) c ∧ c ≤ ns.length ∧
          (∀ b o, s.heap.get? b = some o → h'.get? b = some o)) E) F.called_set.init.plain F.entry_set_init (check_set_init_1 hT ?_)) fun r₂ s₂ hr₂ => ?_
      · obtain ⟨⟨oc, od, ot, osl⟩, hol, hcl, nl, hdl⟩ := hl
        dsimp only at hcl hdl
        subst hcl hdl
        have ho1 : (s.heap.push (setZ w)).get? l = some { cls := .type "list", dict := od, data := .seq items nl, slots := osl } := Heap.get?_push_of_some _ hol
        have k1 := F.sub_list_set
        have k2 := F.sub_list_frozenset
        have k3 : (Value.type "list" == Value.type "dict") = false := by decide
        have hl1 : (s.heap.push (setZ w)).IsList l items := ⟨_, ho1, rfl, nl, rfl⟩
        unfold Builtin.«set.__init__» noKeywords Builtin.Frozenset.updateFrom
        generalize hPI : pyIter = PI
        wp_walk
        subst hPI
        refine wpAny_pyIter_list hl1 ?_
        refine wpAny_bind (wpAny_runValue ?_)
        have hlS : l < s.heap.objs.size := Heap.lt_size hol
        have hh3 : A.in1.in1.in1.handled = none := by simp [hh]
        have ne1 : l ≠ (s.heap.push (setZ w)).objs.size := by rw [hsz]; exact Nat.ne_of_lt (Nat.lt_succ_of_lt hlS)
        have ne2 : s.heap.objs.size ∉ [(s.heap.push (setZ w)).objs.size, l] := by
          rw [hsz]
          simp only [List.mem_cons, List.not_mem_nil, or_false, not_or]
          exact ⟨Nat.ne_of_lt (Nat.lt_succ_self _), Nat.ne_of_gt hlS⟩
        have hval : ∀ (i : Nat) (v : Value), items[i]? = some v → ∃ k t, ns[i]? = some k ∧ v = .int k t := fun i v hv => by
          have hi : i < ns.length := hisz ▸ (Array.getElem?_eq_some_iff.mp hv).1
          obtain ⟨t, e⟩ := PyProof.Rows.IntsAre.int_at hit i v ((Array.getElem?_toList ..).trans hv)
          exact ⟨ns[i], t, List.getElem?_eq_getElem hi, by rw [e, List.getD_eq_getElem?_getD, List.getElem?_eq_getElem hi]; rfl⟩
        refine set_update_ints ((Walks.list hh3 _ l ne1 items).toS) s.heap.objs.size
          ne2 ns hisz hb hval (items.size - 0) 0 _ (by omega) (Nat.zero_le _)
          ⟨⟨_, Heap.get?_push_size _ rfl, rfl, rfl⟩, (hl1.push _)⟩ ⟨0, Nat.le_refl 0, setR_new_at (Heap.get?_push_of_some _ hS)⟩ ?hR
        case hR =>
          rintro ⟨h', g2, d', tk', os'⟩ c' hm hc' hS'
          cases (show g2 = s.gens from hm.gens)
          cases (show d' = s.drawn from hm.drawn)
          cases (show os' = s.os from hm.os)
          show wpAny _ _ _ _ _ _
          refine wpAny_pure ?_
          show wpAny _ _ (ret Value.none) _ _ _
          refine wpAny_pure ⟨rfl, h', tk', c', rfl, hS', hisz ▸ hc', fun b o e => hm.heap b o ?_ (Heap.get?_push_of_some _ (Heap.get?_push_of_some _ e))⟩
          have hb0 : b < s.heap.objs.size := Heap.lt_size e
          rw [hsz]
          simp only [List.mem_cons, List.not_mem_nil, or_false, not_or]
          exact ⟨Nat.ne_of_lt hb0, Nat.ne_of_lt (Nat.lt_succ_of_lt hb0)⟩
      · cases r₂ with
        | error e => exact hr₂
        | ok fl₂ =>
          cases fl₂ with
          | ret r =>
            obtain ⟨rfl, h', tk, c', rfl, hS', hc', hk'⟩ := hr₂
            repeat (any_goals (first | assumption | wp_step))
            exact h _ _ _ hS' hc' hk'
          | _ => exact hr₂.elim
    | _ => exact hr.elim
end
end Sq
namespace Sq
open PySem PySem.Spec PyProof.Rows L2
def ddp : List Int → List Int
  | [] => []
  | x :: xs => if x ∈ xs then ddp xs else x :: ddp xs
theorem mem_ddp {y : Int} : ∀ {xs : List Int}, y ∈ ddp xs ↔ y ∈ xs
  | [] => Iff.rfl
  | x :: xs => by
    unfold ddp
    split
    · rw [mem_ddp (xs := xs), List.mem_cons]
      exact ⟨.inr, fun h => h.elim (fun e => e ▸ (by assumption)) id⟩
    · rw [List.mem_cons, List.mem_cons, mem_ddp (xs := xs)]
theorem ddp_nodup : ∀ xs : List Int, (ddp xs).Nodup
  | [] => List.nodup_nil
  | x :: xs => by
    unfold ddp
    split
    · exact ddp_nodup xs
    · exact List.nodup_cons.mpr ⟨fun h => absurd (mem_ddp.mp h) (by assumption), ddp_nodup xs⟩
theorem ddp_len {xs ys : List Int} (n : ys.Nodup) (h : ∀ k, k ∈ ys ↔ k ∈ xs) : ys.Perm (ddp xs) :=
  (List.perm_ext_iff_of_nodup n (ddp_nodup xs)).mpr fun k => (h k).trans mem_ddp.symm
section
variable {K : PySem.W.Frag} {W : WF} {X : Cx} {f : EF} {a : Expr} {ta : TE} {p p2 q pos : Pos}
def tSrtSet (K : PySem.W.Frag) (ta : TE) : TE := fun σ H Q => ta σ H fun x H1 => ∃ (l : Addr) (ns : List Int), x = V.ref l ∧ SqL K H1 l (ns.map V.int) ∧ ns.length < 64 ∧ ∀ p, H1 p = none → Q (.ref p) (upd H1 p (.lst ((srt (ddp ns)).map V.int)))
theorem lt_nodup : ∀ {ns : List Int}, ns.Pairwise (· < ·) → ns.Nodup := fun h => h.imp fun h e => by omega
theorem pe_srtSet (hc : X.calm = true) (hg : Gl X "sorted") (hm : X.mg "sorted" = none) (hg2 : Gl X "set") (hm2 : X.mg "set" = none) (ha : PE X a ta)
    (na : starEach [a] X.env = (false, eval a X.env) :: starEach [] X.env := by rfl) : PE X (.Call (.Name "sorted" p) [.Call (.Name "set" p2) [a] [] q] [] pos) (tSrtSet X.K ta) := by
  refine ⟨fun pins s σ H Q I h => ?_⟩
  refine Call_ (ld_blt I hg hm boot_sorted ?_)
  refine PyProof.Rows.callWith_builtin1 (PyProof.Rows.args_cons ?_ rfl) rfl rfl
  refine Call_ (ld_blt I hg2 hm2 PyProof.Rows.boot_set ?_)
  refine PyProof.Rows.callWith_type1 (PyProof.Rows.args_cons (thn (ha.run pins s σ H _ I h) fun v s1 ⟨x, H1, I1, r1, q1⟩ => PyProof.Rows.args_nil ?_) na) na rfl
  obtain ⟨l, ns, rfl, hq, h1, q1⟩ := q1
  cases r1
  obtain ⟨its, r, pl, hz⟩ := I1.list hq
  refine set_of_list ns (I1.ok.hd hc) pl.isList (by simpa using r.ints) (by unfold scanBound; omega) fun h' tk c R hc' hk => ?_
  refine PyProof.Rows.args_nil ?_
  have I2 : Inv X pins σ H1 { s1 with heap := h', toks := tk } := I1.kept hk
  refine sorted_set R (I2.ok.hd hc) (by omega) fun s' p out c2 ms k g o hp hg hi hs hm hl => ?_
  have em : ms = srt (ddp ns) := perm_sorted_eq ((ddp_len (lt_nodup hs) fun k => (hm k).trans (by simp)).trans (srt_perm _).symm) (hs.imp fun h => Int.le_of_lt h) (srt_le _)
  subst em
  have hlen : ((srt (ddp ns)).map V.int).length ≤ sizeLine := by rw [List.length_map, hl, sizeLine_eq]; omega
  have hn : H1 p = none := I2.hok.fresh hp
  have J : Inv X pins σ (upd H1 p (.lst ((srt (ddp ns)).map V.int))) { ({ s1 with heap := h', toks := tk } : Shared) with heap := s'.heap, gens := s'.gens, drawn := s'.drawn, toks := s'.toks } :=
    I2.call (ch := []) (Un.laid k hp hn) (I2.hok.laid k hp ⟨hlen, out.toList, c2, vals_of_ints hi, hg⟩) (by rw [g]; exact I2.bare) (fun _ z => nomatch z)
  have e : s' = { ({ s1 with heap := h', toks := tk } : Shared) with heap := s'.heap, gens := s'.gens, drawn := s'.drawn, toks := s'.toks } := by
    cases s'
    cases o
    rfl
  rw [e]
  exact ⟨.ref p, _, J, rfl, q1 p hn⟩
def srtSetF (f : EF) : EF := fun ρ => (f ρ).bind fun a => match a.dat with
  | some (.list ys) => (match dInts ys with
    | some ns => if ns.length < 64 then .ok (.o ((srt (ddp ns)).map .int)) else .bad
    | none => .bad)
  | _ => .bad
theorem xsrtSet (hc : X.calm = true) (hg : Gl X "sorted") (hm : X.mg "sorted" = none) (hg2 : Gl X "set") (hm2 : X.mg "set" = none) (ha : PE X a (tX X.K W f))
    (na : starEach [a] X.env = (false, eval a X.env) :: starEach [] X.env := by rfl) : PE X (.Call (.Name "sorted" p) [.Call (.Name "set" p2) [a] [] q] [] pos) (tX X.K W (srtSetF f)) := by
  refine peTo (pe_srtSet hc hg hm hg2 hm2 ha na) fun σ H Q q => ?_
  obtain ⟨h, ρ, rfl, R, q⟩ := tX_iff.mp q
  refine (tX_mk (f := f) R (q.bind fun a x h1 ea R1 g1 ok1 q1 => ?_) : tX X.K W f σ h.H _)
  split at q1
  · rename_i xs exs
    obtain ⟨p1, vs, rfl, s1, d1⟩ := dp_lst (ok1.dp R1.ch exs)
    split at q1
    · rename_i ns ens
      split at q1
      · rename_i hn
        have ev := dInts_v ens d1
        subst ev
        exact ⟨p1, ns, rfl, s1, hn, fun p hp => q1.newL R1 (ints_all _) hp⟩
      · exact q1.elim
    · exact q1.elim
  · exact q1.elim
def tLenSetA (K : PySem.W.Frag) (ta : TE) : TE := fun σ H Q => ta σ H fun x H1 => ∃ (l : Addr) (ns : List Int), x = V.ref l ∧ SqL K H1 l (ns.map V.int) ∧ ns.length < 4000 ∧ Q (.int (ddp ns).length) H1
theorem pe_lenSetA (hc : X.calm = true) (hg : Gl X "len") (hm : X.mg "len" = none) (hg2 : Gl X "set") (hm2 : X.mg "set" = none) (ha : PE X a ta)
    (na : starEach [a] X.env = (false, eval a X.env) :: starEach [] X.env := by rfl) : PE X (.Call (.Name "len" p) [.Call (.Name "set" p2) [a] [] q] [] pos) (tLenSetA X.K ta) := by
  refine ⟨fun pins s σ H Q I h => ?_⟩
  refine Call_ (ld_blt I hg hm PySem.boot_len ?_)
  refine PyProof.Rows.callWith_builtin1 (PyProof.Rows.args_cons ?_ rfl) rfl rfl
  refine Call_ (ld_blt I hg2 hm2 PyProof.Rows.boot_set ?_)
  refine PyProof.Rows.callWith_type1 (PyProof.Rows.args_cons (thn (ha.run pins s σ H _ I h) fun v s1 ⟨x, H1, I1, r1, q1⟩ => PyProof.Rows.args_nil ?_) na) na rfl
  obtain ⟨l, ns, rfl, hq, h1, q1⟩ := q1
  cases r1
  obtain ⟨its, r, pl, hz⟩ := I1.list hq
  refine set_of_list ns (I1.ok.hd hc) pl.isList (by simpa using r.ints) (by unfold scanBound; omega) fun h' tk c R hc' hk => ?_
  refine PyProof.Rows.args_nil ?_
  have I2 : Inv X pins σ H1 { s1 with heap := h', toks := tk } := I1.kept hk
  obtain ⟨o, es, ep, t, ho, hex, hd, _, nd, hm, _, hf, hn, _⟩ := R
  have ec : es.size = (ddp ns).length := by
    have e := (ddp_len nd fun k => ((hm k).symm.trans (by simp)) : (es.toList.map keyOf).Perm (ddp ns)).length_eq
    rw [List.length_map, Array.length_toList] at e
    exact e
  refine call_len_set ho hex hd hf (by rw [hn]; omega) ⟨.int (ddp ns).length, H1, I2.tok _, ⟨_, by rw [ec]⟩, q1⟩
def lenSetA (f : EF) : EF := fun ρ => (f ρ).bind fun a => match a.dat with
  | some (.list ys) => (match dInts ys with
    | some ns => if ns.length < 4000 then .ok (.v (.int ((ddp ns).length : Nat))) else .bad
    | none => .bad)
  | _ => .bad
theorem xlenSetA (hc : X.calm = true) (hg : Gl X "len") (hm : X.mg "len" = none) (hg2 : Gl X "set") (hm2 : X.mg "set" = none) (ha : PE X a (tX X.K W f))
    (na : starEach [a] X.env = (false, eval a X.env) :: starEach [] X.env := by rfl) : PE X (.Call (.Name "len" p) [.Call (.Name "set" p2) [a] [] q] [] pos) (tX X.K W (lenSetA f)) := by
  refine peTo (pe_lenSetA hc hg hm hg2 hm2 ha na) fun σ H Q q => ?_
  obtain ⟨h, ρ, rfl, R, q⟩ := tX_iff.mp q
  refine (tX_mk (f := f) R (q.bind fun a x h1 ea R1 g1 ok1 q1 => ?_) : tX X.K W f σ h.H _)
  split at q1
  · rename_i xs exs
    obtain ⟨p1, vs, rfl, s1, d1⟩ := dp_lst (ok1.dp R1.ch exs)
    split at q1
    · rename_i ns ens
      split at q1
      · rename_i hn
        have ev := dInts_v ens d1
        subst ev
        exact ⟨p1, ns, rfl, s1, hn, q1.now R1 (.int _)⟩
      · exact q1.elim
    · exact q1.elim
  · exact q1.elim
end
@[simp] theorem srtSetF_e (f : EF) (ρ : Env) : srtSetF f ρ = (f ρ).bind fun a => match a.dat with
  | some (.list ys) => (match dInts ys with
    | some ns => if ns.length < 64 then .ok (.o ((srt (ddp ns)).map .int)) else .bad
    | none => .bad)
  | _ => .bad := (rfl)
@[simp] theorem lenSetA_e (f : EF) (ρ : Env) : lenSetA f ρ = (f ρ).bind fun a => match a.dat with
  | some (.list ys) => (match dInts ys with
    | some ns => if ns.length < 4000 then .ok (.v (.int ((ddp ns).length : Nat))) else .bad
    | none => .bad)
  | _ => .bad := (rfl)
end Sq

/-! In the body of a for whose target is one of two own lists: if, while, other own lists changed. -/
namespace Sq
open PySem PySem.Spec PyProof.Rows L2
section
variable {js : List Nat} {σ0 : L2.St} {K : PySem.W.Frag} {W : WF} {X : Cx} {D : Ends} {h h1 : Hs} {ρ : Env} {σ : L2.St}
theorem PostA.thenT {e : Er Bool} {k : Bool → Res} (q : PostA js σ0 K W D h (thenT ρ e k)) {Q : Bool → Hp → Prop} (hk : ∀ r h', e = .ok r → Rel K h' ρ σ → Gr h h' → PostA js σ0 K W D h' (k r) → Q r h'.H) : PT1 K W h ρ σ Q e := by
  cases e with
  | ok r => exact fun h' R g => hk r h' rfl R g (PostA.shift g.sg q)
  | exc c p => exact fun h' R g => q σ h' R g.sg
  | bad => exact q
theorem PostA.thenM {e : Er (Rv × Env)} {k : Rv → Env → Res} (q : PostA js σ0 K W D h (thenM ρ e k)) {Q : VK} (hk : ∀ r ρ' v h', e = .ok (r, ρ') → Rel K h' ρ' σ → SG h h' → RvF K h' v r → PostA js σ0 K W D h' (k r ρ') → Q v h'.H) : PM1 K W h ρ σ Q e := by
  cases e with
  | ok r => exact fun v h' R g ok => hk r.1 r.2 v h' rfl R g ok (PostA.shift g q)
  | exc c p => exact fun h' R g => q σ h' R g
  | bad => exact q
theorem xssnilA : PSs X [] (tSA js σ0 X.K W skipS) := pssTo pss_nil fun D σ H ⟨h, ρ, e, R, kp, q⟩ => by
  subst e
  exact q σ h R kp (SG.refl h)
theorem xfrzA {sts : List Stmt} {f : SF} (i : Nat) (h1 : PSs X sts (tSA js σ0 X.K W f)) : PSs X sts (tSA js σ0 X.K W (frzS i f)) := pssTo h1 fun D σ H ⟨h, ρ, e, R, kp, q⟩ => by
  subst e
  obtain ⟨h', eh, R', g⟩ := frzE_ok R i
  rw [← eh]
  exact tSA_mk R' kp (PostA.shift g q)
theorem xifsA {c : Expr} {a b : List Stmt} {t : Env → Er Bool} {f g : SF} {pos : Pos} (hc : PT X c (tXt X.K W t)) (ha : PSs X a (tSA js σ0 X.K W f)) (hb : PSs X b (tSA js σ0 X.K W g)) : PS X (.If c a b pos) (tSA js σ0 X.K W (ifS t f g)) := psTo (ps_if hc ha hb) fun D σ H ⟨h, ρ, e, R, kp, q⟩ => by
  subst e
  refine tXt_mk R (q.thenT fun r h' _ R' g' q' => ?_)
  cases r with
  | true =>
    rw [if_pos rfl] at q' ⊢
    exact tSA_mk R' kp q'
  | false =>
    rw [if_neg (by decide)] at q' ⊢
    exact tSA_mk R' kp q'
theorem xwhileA {c : Expr} {body : List Stmt} {t : Env → Er Bool} {f : SF} {pos : Pos} (hp : PassesOwn (model X.prog X.w) X.A X.env X.xe) (hc : PT X c (tXt X.K W t)) (hb : PSs X body (tSA js σ0 X.K W f)) : PS X (.While c body [] pos) (tSA js σ0 X.K W (whileS t f)) := psTo (ps_while hp hc hb) fun D σ H ⟨h, ρ, e, R, kp, q⟩ => by
  subst e
  refine ⟨fun m σ' H' => ∃ h' ρ', h'.H = H' ∧ Rel X.K h' ρ' σ' ∧ Kp js σ0 σ' ∧ PostA js σ0 X.K W D h' (whileN t f m ρ'), ⟨1000000, h, ρ, rfl, R, kp, q⟩, ?_⟩
  rintro m σ' H' ⟨h2, ρ2, rfl, R2, k2, q2⟩
  cases m with
  | zero => exact q2.elim
  | succ m =>
    unfold whileN at q2
    refine tXt_mk R2 (q2.thenT fun r h3 _ R3 g3 q3 => ?_)
    cases r with
    | false =>
      rw [if_neg (by decide)] at q3 ⊢
      exact q3 σ' h3 R3 k2 (SG.refl _)
    | true =>
      rw [if_pos rfl] at q3 ⊢
      refine ⟨fun σ3 H3 => ∃ h' ρ', h'.H = H3 ∧ Rel X.K h' ρ' σ3 ∧ Kp js σ0 σ3 ∧ PostA js σ0 X.K W D h' (whileN t f m ρ'), fun σ3 H3 n => ⟨m, Nat.lt_succ_self m, n⟩, tSA_mk R3 k2 ?_⟩
      cases ef : f ρ2 with
      | next ρ5 =>
        rw [ef] at q3
        exact fun σ5 h5 R5 k5 g5 => ⟨h5, ρ5, rfl, R5, k5, PostA.shift g5 q3⟩
      | cont ρ5 =>
        rw [ef] at q3
        exact fun σ5 h5 R5 k5 g5 => ⟨h5, ρ5, rfl, R5, k5, PostA.shift g5 q3⟩
      | brk ρ5 =>
        rw [ef] at q3
        exact fun σ5 h5 R5 k5 g5 => q3 σ5 h5 R5 k5 g5
      | ret r =>
        rw [ef] at q3
        exact q3
      | exc c p ρ5 =>
        rw [ef] at q3
        exact q3
      | bad =>
        rw [ef] at q3
        exact q3
/-- l.append(m.pop(..)), l not one of the two -/
theorem xappMA (i : Nat) {e o : Expr} {f : MF} {pos apos spos : Pos} (he : PE X (.Call (.Attribute o "append" apos) [e] [] pos) (tBM X.K "list" rAppend (tVar i) (tCons (tM X.K W f) tNil))) (hs : swapsWith (.Call (.Attribute o "append" apos) [e] [] pos) none spos.line X.env = pure false := by rfl) :
    PS X (.Expr (.Call (.Attribute o "append" apos) [e] [] pos) spos) (tSA js σ0 X.K W (appM i f)) := by
  refine psTo (ps_expr he hs) fun D σ H ⟨h, ρ, eh, R, kp, q⟩ => ?_
  subst eh
  unfold appM at q
  split at q
  · rename_i xs0 es
    obtain ⟨l, vs, ex, hl, hd, hlen, _⟩ := mut_now R es
    refine ⟨.ref l, ex, .inl ⟨rfl, vs, .of hl⟩, ?_⟩
    refine ⟨h, ρ, rfl, R, q.thenM fun r ρ' v h' _ R' g' ok q' => ?_⟩
    cases es' : slot ρ' i with
    | o xs =>
      rw [es'] at q'
      cases r with
      | v d =>
        dsimp only at q'
        split at q'
        · obtain ⟨l2, vs2, ex2, hl2, hd2, hlen2, mt⟩ := mut_now R' es'
          rw [ex] at ex2
          cases ex2
          obtain ⟨R3, g3⟩ := mt (vs2 ++ [v]) (xs ++ [d]) (hd2.snoc ok)
          exact ⟨l, vs2, v, rfl, rfl, hl2, by rw [hlen2]; exact Nat.lt_of_lt_of_le (by assumption) (by decide), q' σ _ R3 kp g3⟩
        · exact q'.elim
      | _ => exact q'.elim
    | _ =>
      rw [es'] at q'
      exact q'.elim
  · exact q.elim
end
end Sq

/-! t.index(x), t a tuple of one's own kind. -/
namespace Sq
open PySem PySem.Spec PyProof.Rows L2
def rIndexT (K : PySem.W.Frag) : V → List V → Hp → VK → Prop := fun x xs H Q => ∃ (a : Addr) (ys : List V) (y : V) (j : Nat) (z : V), x = .ref a ∧ xs = [y] ∧ SqT K H a ys ∧ L2.flatV y = true ∧ ys.all L2.flatV = true ∧ ys[j]? = some z ∧ eqV z y = true ∧
  (∀ (m : Nat) (z' : V), m < j → ys[m]? = some z' → eqV z' y = false) ∧ Q (.int (j : Nat)) H
theorem mt_indexT {X : Cx} : MtR X "tuple.index" (rIndexT X.K) := by
  intro pins s σ H x xs v us Q I rx rxs h
  obtain ⟨a, ys, y, j, z, rfl, rfl, hs, fy, fys, hz, hzj, hno, q⟩ := h
  cases rx
  cases rxs with
  | cons ry rt =>
    rename_i uy ut
    cases rt
    obtain ⟨its, rv, pl, hlen⟩ := I.tuple hs
    obtain ⟨⟨cls, dd, dt, sl⟩, ho, hc, n, hd⟩ := pl
    simp only at hc hd
    subst hc
    subst hd
    obtain ⟨u, hu, ru⟩ := rv.get hz
    obtain ⟨hjl, hje⟩ := List.getElem?_eq_some_iff.mp hu
    have hvl := rv.length
    have hj : j < its.toArray.size := by simpa using hjl
    refine call_meets PySem.F.slot_tuple_index ⟨_, ho, rfl⟩ PySem.F.entry_tuple_index (PySem.F.args_tuple_index_2 _ _)
      (TI.tuple_indexAt a its.toArray n dd sl uy (eqU y) j hj ?_ ?_) ⟨ho, fun u' hu' => mem_eqAt ry fy rv fys u' (by simpa using hu'), ?_⟩
    · have e1 : its.toArray[j] = u := by simpa using hje
      rw [e1, eqU_of ru (flat_at fys hz)]
      exact hzj
    · intro m hm hmj
      have hml : m < its.length := by simpa using hm
      have hmy : m < ys.length := by omega
      have hy' : ys[m]? = some ys[m] := List.getElem?_eq_getElem hmy
      obtain ⟨u2, hu2, ru2⟩ := rv.get hy'
      obtain ⟨_, hme⟩ := List.getElem?_eq_some_iff.mp hu2
      have e1 : its.toArray[m] = u2 := by simpa using hme
      rw [e1, eqU_of ru2 (flat_at fys hy')]
      exact hno m _ hmj hy'
    · exact ⟨.int (j : Nat), H, I.tok _, ⟨_, rfl⟩, q⟩

/-- the method of a tuple whose object is known -/
def tFM (r : V → List V → Hp → VK → Prop) (to : TE) (t : TA) : TE := fun σ H Q => to σ H fun x H1 => (∃ a o ys, x = .ref a ∧ H1 a = some (.frz o (.tup ys)) ∧ o.dict = none) ∧ t σ H1 fun xs H2 => r x xs H2 Q
section
variable {X : Cx} {o e : Expr} {es : List Expr} {to : TE} {t : TA} {name : Str} {apos cpos : Pos} {id : String} {r : V → List V → Hp → VK → Prop}
theorem pe_fm (slot : Slot "tuple" name id) (hty : typeOf (.builtin id) = pure (.type "method_descriptor")) (hm : MtR X id r) (ho : PE X o to) (ha : PA X (e :: es) t)
    (hbase : attributeBase o name X.env (eval o X.env) = eval o X.env := by rfl)
    (hfew : ((backTo cpos (starEach (e :: es) X.env)).all (fun x => !x.1) && (backToKw cpos (keywordEach [] X.env)).all (fun x => x.1.isSome)
      && decide ((e :: es).length + ([] : List Keyword).length + (if ([] : List Keyword).isEmpty then 0 else 1) < 30)) = true := by rfl)
    (hline : (apos.endLine == cpos.line) = true := by rfl) (hs : starEach (e :: es) X.env = (false, eval e X.env) :: starEach es X.env := by rfl) (hplain : (backTo cpos (starEach es X.env)).any (·.1) = false := by rfl) :
    PE X (.Call (.Attribute o name apos) (e :: es) [] cpos) (tFM r to t) := by
  refine ⟨fun pins s σ H Q I h => ?_⟩
  refine wpAny_Call_method_late hbase hfew hline rfl (thn (ho.run pins s σ H _ I h) fun v s1 ⟨x, H1, I1, r1, ⟨a, ob, ys, ex, hf, hd⟩, q1⟩ => ?_)
  subst ex
  have r0 := r1
  cases r1
  obtain ⟨e1, q2⟩ := I1.hok a _ hf
  have hcls : ob.cls = .type "tuple" := by
    obtain ⟨_, _, _, ob', e2, hc, _⟩ := q2
    rw [e1] at e2
    cases e2
    exact hc
  refine ⟨"tuple", id, PySem.F.plainAttrs_tuple, slot, hty, ⟨ob, e1, hcls⟩, fun a' e => by cases e; exact ⟨ob, e1, hd⟩, ?_⟩
  have hA := ha.run cpos pins s1 σ H1 _ I1 q1
  rw [hs] at hA ⊢
  refine Calls.callWith_builtin (by show (false || (backTo cpos (starEach es X.env)).any (·.1)) = false; rw [hplain] <;> rfl) (Calls.evalArgs_plain ?_)
  exact thn hA fun us s2 ⟨vs, H2, I2, r2, q2⟩ => hm pins s2 σ H2 _ vs _ us Q I2 r0 r2 q2
end
section
variable {K : PySem.W.Frag} {W : WF} {X : Cx} {f g : EF}
def indexTF (f g : EF) : EF := fun ρ => (f ρ).bind fun a => match a.dat with
  | some (.tuple ys) => (g ρ).bind fun b => indexR ys b
  | _ => .bad
theorem xindexT {s : Expr} (he : PE X s (tFM (rIndexT X.K) (tX X.K W f) (tCons (tX X.K W g) tNil))) : PE X s (tX X.K W (indexTF f g)) := by
  refine peTo he fun σ H Q q => ?_
  obtain ⟨h, ρ, rfl, R, q⟩ := tX_iff.mp q
  refine (tX_mk (f := f) R (q.bind fun a x h1 ea R1 g1 ok1 q1 => ?_) : tX X.K W f σ h.H _)
  split at q1
  · rename_i xs exs
    have dpx := ok1.dp R1.ch exs
    cases dpx with
    | @tup p1 ob vs ds hf hd d1 =>
    refine ⟨⟨p1, ob, vs, rfl, hf, hd⟩, ?_⟩
    refine (tX_mk (f := g) R1 (q1.bind fun b y h2 _ R2 g2 ok2 q2 => ?_) : tX X.K W g σ h1.H _)
    unfold indexR at q2
    cases eb : b.dat with
    | none => rw [eb] at q2; exact q2.elim
    | some d =>
      rw [eb] at q2
      dsimp only at q2
      split at q2
      · rename_i hc
        split at q2
        · rename_i j ej
          obtain ⟨_, z, h3, h4, h5⟩ := firstAt_some ej
          simp only [Nat.sub_zero] at h3 h5
          have d2 := ex_dpa g2.x d1
          have dy := ok2.dp R2.ch eb
          obtain ⟨vz, e1, e2⟩ := d2.get h3
          have fz : ∀ (m : Nat) z', xs[m]? = some z' → flatD z' = true := fun m z' e => List.all_eq_true.mp hc.1 z' (List.mem_of_getElem? e)
          refine ⟨p1, vs, y, j, vz, rfl, rfl, .inl (.inr ⟨ob, g2.x _ _ hf⟩), dp_flat dy hc.2, dp_flats d2 hc.1, e1, ?_, fun m v' hm ev => ?_, q2.now R2 (.int _)⟩
          · rw [dp_eqV e2 dy (fz _ _ h3) hc.2]
            exact h4
          · obtain ⟨z', e3, e4⟩ := d2.getV ev
            rw [dp_eqV e4 dy (fz _ _ e3) hc.2]
            exact h5 m z' hm e3
        · exact q2.elim
      · exact q2.elim
  · exact q1.elim
end
end Sq

/-! Own classes: fields read and written, methods called, instances made. -/
namespace Sq
open PySem PySem.Spec PyProof.Rows L2
def fldD (f : Str) : List (D × D) → Option D
  | [] => none
  | (.str g, d) :: r => if g = f then some d else fldD f r
  | _ :: r => fldD f r
theorem DpFs.fld {K : PySem.W.Frag} {H : Hp} {f : Str} : ∀ {vs : List (Str × V)} {fs : List (D × D)}, DpFs K H vs fs → (∀ d, fldD f fs = some d → ∃ v, vs.lookup f = some v ∧ Dp K H v d) ∧ (fldD f fs = none → vs.lookup f = none)
  | _, _, .nil => ⟨fun d e => (by cases e), fun _ => rfl⟩
  | _, _, .cons (f := g) (v := v) (vs := vs) (d := d) (ds := ds) h t => by
    obtain ⟨a, b⟩ := DpFs.fld (f := f) t
    by_cases e : g = f
    · subst e
      refine ⟨fun d' e2 => ⟨v, by rw [List.lookup_cons]; simp, ?_⟩, fun e2 => ?_⟩
      · have : fldD g ((.str g, d) :: ds) = some d := by rw [fldD, if_pos rfl]
        rw [this] at e2
        cases e2
        exact h
      · have : fldD g ((.str g, d) :: ds) = some d := by rw [fldD, if_pos rfl]
        rw [this] at e2
        cases e2
    · have e3 : fldD f ((.str g, d) :: ds) = fldD f ds := by rw [fldD, if_neg e]
      have e4 : ((g, v) :: vs).lookup f = vs.lookup f := by
        rw [List.lookup_cons]
        have : (f == g) = false := beq_eq_false_iff_ne.mpr fun z => e z.symm
        rw [this]
      rw [e3, e4]
      exact ⟨a, b⟩
/-- its fields, if it is an instance of c -/
def insD (c : Str) : D → Option (List (D × D))
  | .dict ((.str c', .none) :: fs) => if c' = c then some fs else none
  | _ => none
theorem insD_ob {c : Str} {fs : List (Str × D)} : insD c (ob c fs) = some (fs.map fun p => (.str p.1, p.2)) := by
  show (if c = c then some _ else none) = _
  rw [if_pos rfl]
theorem dp_ins {K : PySem.W.Frag} {H : Hp} {c : Str} {v : V} {d : D} {fs : List (D × D)} (e : insD c d = some fs) (h : Dp K H v d) : ∃ a dx vs, v = .ref a ∧ H a = some (.ins (clsOf K c) dx vs) ∧ DpFs K H vs fs := by
  cases h with
  | obj h1 h2 =>
    rename_i a dx c' vs fs'
    unfold insD at e
    dsimp only at e
    split at e
    · rename_i e2
      subst e2
      cases e
      exact ⟨a, dx, vs, rfl, h1, h2⟩
    · cases e
  | _ => cases e
def fldR (c f : Str) (a : Rv) : Er Rv := match a with
  | .v d => (match (insD c d).bind (fldD f) with | some x => .ok (.v x) | none => .bad)
  | .b d => (match (insD c d).bind (fldD f) with | some x => .ok (.b x) | none => .bad)
  | .r d => (match (insD c d).bind (fldD f) with | some x => .ok (.r x) | none => .bad)
  | .wi c' fs => (match (insD c (ob c' fs)).bind (fldD f) with | some x => .ok (.v x) | none => .bad)
  | _ => .bad
section
variable {K : PySem.W.Frag} {W : WF} {X : Cx} {cm : Str → Addr}
theorem fldR_ok {h0 h : Hs} {v : V} {c f : Str} {a : Rv} {Q : VK} {ρ : Env} {σ : L2.St} (R : Rel K h ρ σ) (g : Gr h0 h) (ok : RvOk K h0.H h v a) (q : PE1 K W h ρ σ Q (fldR c f a)) : ∃ l dx vs x, v = .ref l ∧ h.H l = some (.ins (clsOf K c) dx vs) ∧ vs.lookup f = some x ∧ Q x h.H := by
  have key : ∀ (Hq : Hp) (d x : D), (∀ a o, Hq a = some o → h.H a = some o) → Dp K Hq v d → (insD c d).bind (fldD f) = some x → ∃ l dx vs y, v = .ref l ∧ h.H l = some (.ins (clsOf K c) dx vs) ∧ vs.lookup f = some y ∧ Dp K Hq y x := fun Hq d x he hd e => by
    obtain ⟨fs, e1, e2⟩ := Option.bind_eq_some_iff.mp e
    obtain ⟨l, dx, vs, rfl, h1, h2⟩ := dp_ins e1 hd
    obtain ⟨y, h3, h4⟩ := (DpFs.fld h2).1 x e2
    exact ⟨l, dx, vs, y, rfl, he _ _ h1, h3, h4⟩
  unfold fldR at q
  split at q
  · rename_i d
    split at q
    · rename_i x e
      obtain ⟨l, dx, vs, y, e1, e2, e3, e4⟩ := key h.G d x R.ch.gh ok e
      exact ⟨l, dx, vs, y, e1, e2, e3, q.now R e4⟩
    · exact q.elim
  · rename_i d
    split at q
    · rename_i x e
      obtain ⟨l, dx, vs, y, e1, e2, e3, e4⟩ := key h.F d x R.ch.fh ok e
      exact ⟨l, dx, vs, y, e1, e2, e3, q.now R e4⟩
    · exact q.elim
  · rename_i d
    split at q
    · rename_i x e
      obtain ⟨l, dx, vs, y, e1, e2, e3, e4⟩ := key h.H d x (fun _ _ z => z) ok e
      exact ⟨l, dx, vs, y, e1, e2, e3, q.now R e4⟩
    · exact q.elim
  · rename_i c' fs
    split at q
    · rename_i x e
      obtain ⟨l, vs, dx, e1, e2, e3⟩ := ok
      obtain ⟨fs', f1, f2⟩ := Option.bind_eq_some_iff.mp e
      unfold ob insD at f1
      dsimp only at f1
      split at f1
      · rename_i ec
        subst ec
        cases f1
        obtain ⟨y, h3, h4⟩ := (DpFs.fld (kv_dpfs e3)).1 x f2
        exact ⟨l, dx, vs, y, e1, e2, h3, q.now R h4⟩
      · cases f1
    · exact q.elim
  · exact q.elim
/-- e.f -/
theorem xfld {e : Expr} {F : EF} {c f : Str} {pos : Pos} (hc : Cls X.K (clsOf X.K c)) (hn : NoAttr X.K (clsOf X.K c) f) (ha : PE X e (tX X.K W F)) (hb : attributeBase e f X.env (eval e X.env) = eval e X.env := by rfl) : PE X (.Attribute e f pos) (tX X.K W (unF (fldR c f) F)) := by
  refine peTo (pe_fld ha hb) fun σ H Q q => ?_
  obtain ⟨h, ρ, rfl, R, q⟩ := tX_iff.mp q
  refine (tX_mk (f := F) R (q.bind fun a v h1 _ R1 g1 ok1 q1 => ?_) : tX X.K W F σ h.H _)
  obtain ⟨l, dx, vs, x, e1, e2, e3, q2⟩ := fldR_ok R1 g1 ok1 q1
  exact ⟨l, _, dx, vs, x, e1, e2, hc, hn, e3, q2⟩
/-! e.f = value, e a local that holds an instance of one's own -/
def putD (f : Str) (d : D) : List (Str × D) → List (Str × D)
  | [] => [(f, d)]
  | (g, x) :: r => if g = f then (g, d) :: r else (g, x) :: putD f d r
theorem kv_put {G : Hp} {f : Str} {v : V} {d : D} (hd : Dp K G v d) : ∀ {vs : List (Str × V)} {fs : List (Str × D)}, KvD K G vs fs → KvD K G (putF f v vs) (putD f d fs)
  | _, _, .nil => .cons ⟨rfl, hd⟩ .nil
  | (g, x) :: vs, (g', y) :: fs, .cons ⟨e, h⟩ t => by
    cases (show g = g' from e)
    unfold putF putD
    by_cases e : g = f
    · rw [if_pos e, if_pos e]
      exact .cons ⟨rfl, hd⟩ t
    · rw [if_neg e, if_neg e]
      exact .cons ⟨rfl, h⟩ (kv_put hd t)
theorem kv_len {G : Hp} {κ : Type} : ∀ {vs : List (κ × V)} {fs : List (κ × D)}, KvD K G vs fs → vs.length = fs.length
  | _, _, .nil => rfl
  | _, _, .cons _ t => congrArg (· + 1) (kv_len t)
def fldS (c : Str) (i : Nat) (f : Str) (F : EF) : SF := fun ρ => match slot ρ i with
  | .j _ _ _ => thenS ρ (F ρ) fun r => match r.keep with
    | .ok d => match slot ρ i with
      | .j l c' fs => if c' = c ∧ fs.length < 900 then .next (ρ.set i (.j l c (putD f d fs))) else .bad
      | _ => .bad
    | _ => .bad
  | _ => .bad
theorem ins_now {h : Hs} {ρ : Env} {σ : L2.St} {i : Nat} {l : Addr} {c : Str} {fs : List (Str × D)} (R : Rel K h ρ σ) (es : slot ρ i = .j l c fs) : ∃ vs dx, σ[i]? = some (some (.ref l)) ∧ h.H l = some (.ins (clsOf K c) dx vs) ∧ h.F l = none ∧ KvD K h.G vs fs := by
  obtain ⟨x, ex, vs, dx, rfl, a, b, d⟩ := R.get (slot_some es (by intro z; cases z))
  exact ⟨vs, dx, ex, a, b, d⟩
theorem xsfld {o value : Expr} {F : EF} {c f : Str} {i : Nat} {pos pos' : Pos} (hc : Cls X.K (clsOf X.K c)) (hn : NoAttr X.K (clsOf X.K c) f) (ho : PE X o (tVar i)) (hv : PE X value (tX X.K W F)) (hs : swapsWith value (some (.Attribute o f pos')) pos.line X.env = pure false := by rfl) :
    PS X (.Assign [.Attribute o f pos'] value pos) (tS X.K W (fldS c i f F)) := by
  refine psTo (ps_fld ho hv hs) fun D σ H ⟨h, ρ, eh, R, q⟩ => ?_
  subst eh
  unfold fldS at q
  cases es : slot ρ i with
  | j l c0 fs0 =>
    rw [es] at q
    dsimp only at q
    refine (tX_mk (f := F) R (q.then fun r v h' _ R' g' ok q' => ?_) : tX X.K W F σ h.H _)
    cases ek : r.keep with
    | bad => rw [ek] at q'; exact q'.elim
    | exc c p => exact absurd ek keep_ne
    | ok d =>
      rw [ek] at q'
      dsimp only at q'
      split at q'
      · rename_i hcc
        obtain ⟨ec, hl⟩ := hcc
        subst ec
        obtain ⟨h2, eh2, R2, g2, dv⟩ := keep_ok R R' g' ek ok
        obtain ⟨vs, dx, ex, hl2, hf2, hd2⟩ := ins_now R2 es
        have M := R2.mut (i := i) (s := .j l c0 fs0) (s' := .j l c0 (putD f d fs0)) (l := l) (o := .ins (clsOf X.K c0) dx (putF f v vs)) (slot_some es (by intro z; cases z)) rfl rfl ex ⟨_, dx, rfl, upd_same, hf2, kv_put dv hd2⟩
        rw [← eh2]
        exact ⟨.ref l, ex, l, _, dx, vs, rfl, hl2, hc, hn, by rw [kv_len hd2]; omega, q' σ _ M.1 (g2.sg.trans M.2)⟩
      · exact q'.elim
  | _ =>
    rw [es] at q
    exact q.elim
/-! o.m(..) -/
/-- is it an instance of c, without an attribute m -/
def isI (c m : Str) (a : Rv) : Bool := match a.dat with
  | some d => (match insD c d with | some fs => (fldD m fs).isNone | none => false)
  | none => false
theorem isI_ok {h : Hs} {H0 : Hp} {v : V} {c m : Str} {a : Rv} (ch : Ch h) (e : isI c m a = true) (ok : RvOk K H0 h v a) : ∃ l dx vs, v = .ref l ∧ h.H l = some (.ins (clsOf K c) dx vs) ∧ vs.lookup m = none := by
  unfold isI at e
  split at e
  · rename_i d ed
    split at e
    · rename_i fs ef
      obtain ⟨l, dx, vs, e1, e2, e3⟩ := dp_ins ef (ok.dp ch ed)
      exact ⟨l, dx, vs, e1, e2, (DpFs.fld e3).2 (Option.isNone_iff_eq_none.mp e)⟩
    · cases e
  · cases e
def mthF (c m : Str) (g : List Sl → Fr) (f : EF) (r : AF) : EF := fun ρ => (f ρ).bind fun a => a.frz.bind fun a' => if isI c m a' = true then (r ρ).bind fun rs => (g ((a' :: rs).map Rv.sl)).rv else .bad
/-- a method within what may be let out -/
def tMethSq (C : Addr) (m : Str) (sp : Sp) (dvs : List V) (E : L2.St → XK) (ta : TE) (t : TA) : TE := fun σ H Q => ta σ H fun x H1 => ∃ a dx fs, x = .ref a ∧ H1 a = some (.ins C dx fs) ∧ fs.lookup m = none ∧ t σ H1 fun vs H2 => sp (x :: (vs ++ dvs)) H2 Q (E σ)
theorem run_fnSq {CX : CXT} {k : Nat} {f : Addr} {fd : FuncData} {ps : List Str} {sp : Sp} {dvs : List V} {ds : List Value} {E : L2.St → XK} {pins : List (Addr × Obj)} {σ : L2.St} {H : Hp} {s : Shared} {Q : VK} {us : List Value} {vs : List V} (F : FnOk X.prog X.w X.K X.mg X.base CX k f fd ps sp) (hr : Room k X.A) (hb : Binds X.K fd ps ds) (hd : Vals dvs ds) (hx : PassesAt CX X σ (E σ))
    (I : Inv X pins σ H s) (r : Vals vs us) (h : sp (vs ++ dvs) H Q (E σ)) : wpAny (model X.prog X.w) X.A (call (.ref f) us) (EP X pins σ Q) X.xe s := by
  have r2 := r.append hd
  have hl : (us ++ ds).length = ps.length := by rw [← r2.length]; exact F.len _ _ _ _ h
  refine wpAny_call (codeAny_mono (F.run X.A X.stack s H ⟨us, []⟩ (us ++ ds) _ Q (E σ) hr I.env0 (hb s us I.kIn hl) r2 h) fun r s' hq => ?_)
  cases r with
  | error e => exact hx pins H s e s' I hq
  | ok fl =>
    cases fl with
    | ret u => exact I.after hq
    | next => exact False.elim hq
    | brk => exact False.elim hq
    | cont => exact False.elim hq
theorem pe_methSq {CX : CXT} {k : Nat} {f C : Addr} {fd : FuncData} {ps : List Str} {sp : Sp} {dvs : List V} {ds : List Value} {E : L2.St → XK} {m : Str} {pos apos : Pos} {e o : Expr} {es : List Expr} {ta : TE} {t : TA} {pl : Sem Bool} (he : PE X o ta) (c : Cls X.K C) (hm : Meth X.K C m f)
    (F : FnOk X.prog X.w X.K X.mg X.base CX k f fd ps sp) (hr : Room k X.A) (hb : Binds X.K fd ps ds) (hd : Vals dvs ds) (hx : ∀ σ, PassesAt CX X σ (E σ)) (ha : PA X (e :: es) t)
    (hst : starEach (e :: es) X.env = (false, eval e X.env) :: starEach es X.env := by rfl) (hpl : (backTo pos (starEach es X.env)).any (·.1) = false := by rfl)
    (ht : eval (.Call (.Attribute o m apos) (e :: es) [] pos) X.env = (do
      let ov ← eval o X.env
      standAt apos.atName
      let (f, first) ← holding [ov] (getMethod ov m pl)
      callWith pos f first (backTo pos (starEach (e :: es) X.env)) (backToKw pos (keywordEach [] X.env))) := by rfl) :
    PE X (.Call (.Attribute o m apos) (e :: es) [] pos) (tMethSq C m sp dvs E ta t) := by
  refine ⟨fun pins s σ H Q I h => ?_⟩
  refine PySem.W.methodCall_KW (pl := pl) (thn (he.run pins s σ H _ I h) fun u s1 ⟨x, H1, I1, rx, a, dx, fs, ex, ea, l, q⟩ => ?_) ht
  subst ex
  obtain rfl : u = Value.ref a := rx
  refine getmeth_ok I1 ea c hm l ?_
  refine PySem.W.callWith_K (first := [.ref a]) (h₀ := X.base) I.ok.mod.kin hm.kp (thn (ha.run pos pins s1 σ H1 _ I1 q) fun us s2 ⟨vs, H2, I2, r, q2⟩ => ⟨I2.kIn, ?_⟩) hst hpl
  exact run_fnSq (us := .ref a :: us) (vs := .ref a :: vs) F hr hb hd (hx σ) I2 (.cons rfl r) q2
theorem pe_methSq0 {CX : CXT} {k : Nat} {f C : Addr} {fd : FuncData} {ps : List Str} {sp : Sp} {dvs : List V} {ds : List Value} {E : L2.St → XK} {m : Str} {pos apos : Pos} {o : Expr} {ta : TE} {pl : Sem Bool} (he : PE X o ta) (c : Cls X.K C) (hm : Meth X.K C m f)
    (F : FnOk X.prog X.w X.K X.mg X.base CX k f fd ps sp) (hr : Room k X.A) (hb : Binds X.K fd ps ds) (hd : Vals dvs ds) (hx : ∀ σ, PassesAt CX X σ (E σ))
    (ht : eval (.Call (.Attribute o m apos) [] [] pos) X.env = (do
      let ov ← eval o X.env
      standAt apos.atName
      let (f, first) ← holding [ov] (getMethod ov m pl)
      callWith pos f first (backTo pos (starEach [] X.env)) (backToKw pos (keywordEach [] X.env))) := by rfl) :
    PE X (.Call (.Attribute o m apos) [] [] pos) (tMethSq C m sp dvs E ta tNil) := by
  refine ⟨fun pins s σ H Q I h => ?_⟩
  refine PySem.W.methodCall_KW (pl := pl) (thn (he.run pins s σ H _ I h) fun u s1 ⟨x, H1, I1, rx, a, dx, fs, ex, ea, l, q⟩ => ?_) ht
  subst ex
  obtain rfl : u = Value.ref a := rx
  refine getmeth_ok I1 ea c hm l ?_
  exact PySem.W.callWith_K0 (first := [.ref a]) I1.kIn hm.kp (run_fnSq (us := [.ref a]) (vs := [.ref a]) F hr hb hd (hx σ) I1 (.cons rfl .nil) q)
/-- what the promise of a def gives its caller -/
theorem fsp_use {Wx : WX} {h : Hs} {ρ : Env} {σ : L2.St} {Q : VK} {g : List Sl → Fr} {vs : List V} {rs : List Rv} {n : Nat} (hW' : ∀ c p σ h, W c p σ h → WFx K cm Wx c p σ h) (R : Rel K h ρ σ) (ok : RvsOk K h vs rs) (hn : vs.length = n) (q : PE1 K W h ρ σ Q (g (rs.map Rv.sl)).rv) : fsp K cm n g vs h.H Q (WE Wx σ) := by
  refine ⟨hn, h.G, rs.map Rv.sl, R.ch.gh, args_of R.ch ok, ?_⟩
  cases eg : g (rs.map Rv.sl) with
  | bad => rw [eg] at q; exact q.elim
  | exc c p =>
    rw [eg] at q
    cases p with
    | none =>
      intro G' H' cg
      obtain ⟨gr, ch⟩ := call_gr R.ch cg
      exact hW' _ _ _ _ (q (h.call G' H') (R.grow gr ch) gr)
    | some p =>
      obtain ⟨ff, xx⟩ := p
      intro G' H' d v cg hd hv
      obtain ⟨gr, ch⟩ := call_gr R.ch cg
      exact hW' _ _ _ _ (q (h.call G' H') (R.grow gr ch) gr) d v hd hv
  | ret res =>
    rw [eg] at q
    intro v G' H' cg ok'
    obtain ⟨gr, ch⟩ := call_gr R.ch cg
    have R2 := R.grow gr ch
    cases res with
    | v d => exact q v (h.call G' H') R2 gr ok'
    | b d => exact q v (h.call G' H') R2 gr ok'
    | o xs =>
      obtain ⟨l, ws, ev, n, a, b, d⟩ := ok'
      refine q v (h.call G' H') R2 gr ⟨l, ws, ev, n, a, ?_, d⟩
      show (match h.F l with | some o => some o | none => G' l) = none
      rw [R.ch.fh.back n]
      exact b
    | ok xs =>
      obtain ⟨l, ws, ev, n, a, b, d⟩ := ok'
      refine q v (h.call G' H') R2 gr ⟨l, ws, ev, n, a, ?_, d⟩
      show (match h.F l with | some o => some o | none => G' l) = none
      rw [R.ch.fh.back n]
      exact b
    | p2 xs ys =>
      obtain ⟨t, l, m, vs', ws, ev, ht, ne, ⟨n, a, b, d⟩, ⟨n2, a2, b2, d2⟩⟩ := ok'
      refine q v (h.call G' H') R2 gr ⟨t, l, m, vs', ws, ev, ht, ne, ⟨n, a, ?_, d⟩, ⟨n2, a2, ?_, d2⟩⟩
      · show (match h.F l with | some o => some o | none => G' l) = none
        rw [R.ch.fh.back n]
        exact b
      · show (match h.F m with | some o => some o | none => G' m) = none
        rw [R.ch.fh.back n2]
        exact b2
    | _ => exact q.elim
end
end Sq

/-! Own classes: methods called, isinstance, instances made. -/
namespace Sq
open PySem PySem.Spec PyProof.Rows L2
section
variable {X : Cx} {W : WF} {cm : Str → Addr} {k : Nat} {fa : Addr} {fd : FuncData} {ps : List Str} {g : List Sl → Fr} {c m : Str} {p pos apos : Pos} {o e : Expr} {es : List Expr} {f : EF} {r : AF} {pl : Sem Bool}
theorem mth_now {h h1 : Hs} {ρ : Env} {σ : L2.St} {Q : VK} {a : Rv} {v : V} (R : Rel X.K h ρ σ) (R1 : Rel X.K h1 ρ σ) (g1 : Gr h h1) (ok1 : RvOk X.K h.H h1 v a) (ea : f ρ = .ok a) (q : PE1 X.K W h ρ σ Q (mthF c m g f r ρ)) :
    ∃ h2 a' l dx vs, h2.H = h1.H ∧ Rel X.K h2 ρ σ ∧ (∀ {h3 : Hs}, Gr h2 h3 → RvF X.K h3 v a') ∧ v = .ref l ∧ h2.H l = some (.ins (clsOf X.K c) dx vs) ∧ vs.lookup m = none ∧ PE1 X.K W h2 ρ σ Q ((r ρ).bind fun rs => (g ((a' :: rs).map Rv.sl)).rv) := by
  cases ez : a.frz with
  | exc c p => exact absurd ez frz_ne
  | bad =>
    have e0 : mthF c m g f r ρ = .bad := by
      unfold mthF
      rw [ea]
      show (a.frz.bind _) = _
      rw [ez]
      rfl
    rw [e0] at q
    exact q.elim
  | ok a' =>
    obtain ⟨h2, eh, R2, g2, ok2⟩ := frz_ok R R1 g1 ez ok1
    have e0 : mthF c m g f r ρ = if isI c m a' = true then (r ρ).bind fun rs => (g ((a' :: rs).map Rv.sl)).rv else .bad := by
      unfold mthF
      rw [ea]
      show (a.frz.bind _) = _
      rw [ez]
      rfl
    rw [e0] at q
    by_cases hI : isI c m a' = true
    · rw [if_pos hI] at q
      obtain ⟨l, dx, vs, e1, e2, e3⟩ := isI_ok R2.ch hI ok2
      exact ⟨h2, a', l, dx, vs, eh, R2, fun g3 => (RvF.of ez ok2).grow g3, e1, e2, e3, PE1.shift g2 q⟩
    · rw [if_neg hI] at q
      exact q.elim
theorem xmth (tk : Tk X cm W) (hc : Cls X.K (clsOf X.K c)) (hm : Meth X.K (clsOf X.K c) m fa) (F : FnOk X.prog X.w X.K X.mg X.base (L2.CX X.prog X.w) k fa fd ps (fsp X.K cm ps.length g)) (hr : Room k X.A) (hb : Binds X.K fd ps []) (hlen : ps.length = (e :: es).length + 1)
    (ho : PE X o (tX X.K W f)) (ha : PA X (e :: es) (tXa X.K W r)) (hrl : ∀ ρ rs, r ρ = .ok rs → rs.length = (e :: es).length)
    (hst : starEach (e :: es) X.env = (false, eval e X.env) :: starEach es X.env := by rfl) (hpl : (backTo pos (starEach es X.env)).any (·.1) = false := by rfl)
    (ht : eval (.Call (.Attribute o m apos) (e :: es) [] pos) X.env = (do
      let ov ← eval o X.env
      standAt apos.atName
      let (f, first) ← holding [ov] (getMethod ov m pl)
      callWith pos f first (backTo pos (starEach (e :: es) X.env)) (backToKw pos (keywordEach [] X.env))) := by rfl) :
    PE X (.Call (.Attribute o m apos) (e :: es) [] pos) (tX X.K W (mthF c m g f r)) := by
  obtain ⟨Wx, tk, hW⟩ := tk
  refine peTo (pe_methSq (pl := pl) ho hc hm F hr hb .nil (E := WE Wx) (fun σ => passAt tk σ) ha hst hpl ht) fun σ H Q q => ?_
  obtain ⟨h, ρ, rfl, R, q⟩ := tX_iff.mp q
  refine (tX_mk (f := f) R (q.bind fun a v h1 ea R1 g1 ok1 q1 => ?_) : tX X.K W f σ h.H _)
  obtain ⟨h2, a', l, dx, vs, eh, R2, okf, e1, e2, e3, q2⟩ := mth_now R R1 g1 ok1 ea q
  rw [← eh]
  refine ⟨l, dx, vs, e1, e2, e3, h2, ρ, rfl, R2, PE1.bindA q2 fun rs us h3 er R3 g3 ok3 q3 => ?_⟩
  have okk : RvsOk X.K h3 (v :: us) (a' :: rs) := ⟨okf g3, ok3⟩
  rw [List.append_nil]
  exact fsp_use hW R3 okk (by rw [List.length_cons, ok3.len, hrl ρ rs er, hlen]) q3
theorem xmth0 (tk : Tk X cm W) (hc : Cls X.K (clsOf X.K c)) (hm : Meth X.K (clsOf X.K c) m fa) (F : FnOk X.prog X.w X.K X.mg X.base (L2.CX X.prog X.w) k fa fd ps (fsp X.K cm ps.length g)) (hr : Room k X.A) (hb : Binds X.K fd ps []) (hlen : ps.length = 1)
    (ho : PE X o (tX X.K W f))
    (ht : eval (.Call (.Attribute o m apos) [] [] pos) X.env = (do
      let ov ← eval o X.env
      standAt apos.atName
      let (f, first) ← holding [ov] (getMethod ov m pl)
      callWith pos f first (backTo pos (starEach [] X.env)) (backToKw pos (keywordEach [] X.env))) := by rfl) :
    PE X (.Call (.Attribute o m apos) [] [] pos) (tX X.K W (mthF c m g f aNil)) := by
  obtain ⟨Wx, tk, hW⟩ := tk
  refine peTo (pe_methSq0 (pl := pl) ho hc hm F hr hb .nil (E := WE Wx) (fun σ => passAt tk σ) ht) fun σ H Q q => ?_
  obtain ⟨h, ρ, rfl, R, q⟩ := tX_iff.mp q
  refine (tX_mk (f := f) R (q.bind fun a v h1 ea R1 g1 ok1 q1 => ?_) : tX X.K W f σ h.H _)
  obtain ⟨h2, a', l, dx, vs, eh, R2, okf, e1, e2, e3, q2⟩ := mth_now R R1 g1 ok1 ea q
  rw [← eh]
  refine ⟨l, dx, vs, e1, e2, e3, ?_⟩
  have okk : RvsOk X.K h2 [v] [a'] := ⟨okf (Gr.refl _), trivial⟩
  have q3 : PE1 X.K W h2 ρ σ Q (g ([a'].map Rv.sl)).rv := q2
  exact fsp_use hW R2 okk (by rw [hlen]; rfl) q3
/-! isinstance(x, C), C an own class -/
structure ClsT (K : PySem.W.Frag) (C : Addr) : Prop where
  cl : Cls K C
  ha : PySem.W.findIn K (.ref C) "__class__" = some (some (.builtin "object.__class__"))
  hn : PySem.W.specialIn K (.builtin "object.__class__") "__get__" = some (some (.builtin "getset_descriptor.__get__"))
  ht : PySem.W.takesIn K (.builtin "object.__class__") = some true
  hm : PySem.W.mroIn K C (.type "object") = some true
theorem kitOne_self {K : PySem.W.Frag} {C : Addr} : PySem.W.kitOne K (.ref C) (.ref C) = some true := by
  unfold PySem.W.kitOne
  rw [if_pos (by simp)]
def isCR (c : Str) (a : Rv) : Er Rv := match a.dat with
  | some d => (match insD c d with | some _ => .ok (.v (.bool true)) | none => .bad)
  | none => .bad
theorem xisC {a : Expr} {F : EF} {pT : Pos} (hg : Gl X "isinstance") (hm : X.mg "isinstance" = none) (T : ClsT X.K (clsOf X.K c)) (ha : PE X a (tX X.K W F)) (hgT : Gl X c) (hmT : X.mg c = some (.ref (clsOf X.K c))) (hd : (c == ("__debug__" : Str)) = false := by decide)
    (hs : starEach [a, .Name c pT] X.env = (false, eval a X.env) :: starEach [.Name c pT] X.env := by rfl) (hs2 : starEach [.Name c pT] X.env = (false, eval (.Name c pT) X.env) :: starEach [] X.env := by rfl) :
    PE X (.Call (.Name "isinstance" p) [a, .Name c pT] [] pos) (tX X.K W (unF (isCR c) F)) := by
  have hT : PE X (.Name c pT) (tC (.ref (clsOf X.K c))) := pe_glob hgT hmT rfl hd
  refine peTo (pe_callB call_isi hg hm boot_isinstance (pa_cons ha (pa_cons hT pa_nil hs2) hs) (he := hs) (hpl := by rw [hs2]; rfl)) fun σ H Q q => ?_
  obtain ⟨h, ρ, rfl, R, q⟩ := tX_iff.mp q
  refine (tX_mk (f := F) R (q.bind fun a v h1 _ R1 g1 ok1 q1 => ?_) : tX X.K W F σ h.H _)
  unfold isCR at q1
  split at q1
  · rename_i d ed
    split at q1
    · rename_i fs ef
      obtain ⟨l, dx, vs, e1, e2, _⟩ := dp_ins ef (ok1.dp R1.ch ed)
      subst e1
      exact ⟨.ref l, .ref _, .ref _, .ref _, true, rfl, .own _, .base (.ins e2 T.cl T.ha T.hn T.ht T.hm), kitOne_self, q1.now R1 (.bl _)⟩
    · exact q1.elim
  · exact q1.elim
end
/-! ### __init__ -/
def fnIa (l : Addr) (c : Str) (bf : SF) (n : Nat) (as : List Sl) : Fr := match bf ((.j l c [] :: as) ++ List.replicate (n - (as.length + 1)) .u) with
  | .next ρ => (match slot ρ 0 with
    | .j l' c' fs => if l' = l ∧ c' = c then .ret (.oi c fs) else .bad
    | _ => .bad)
  | .exc c none _ => .exc c none
  | _ => .bad
def fnI (c : Str) (bf : SF) (n : Nat) (as : List Sl) : Fr := fnIa 0 c bf n as
/-! rows that do not look at the address -/
def swS (l : Addr) : Sl → Sl
  | .j _ c fs => .j l c fs
  | s => s
def swE (l : Addr) (ρ : Env) : Env := ρ.map (swS l)
def swV (l : Addr) : Rv → Rv
  | .sj d _ c fs => .sj d l c fs
  | r => r
def swR (l : Addr) : Res → Res
  | .next ρ => .next (swE l ρ)
  | .ret r => .ret (swV l r)
  | .brk ρ => .brk (swE l ρ)
  | .cont ρ => .cont (swE l ρ)
  | .exc c p ρ => .exc c p (swE l ρ)
  | .bad => .bad
def EqE {α : Type} (f : Env → α) : Prop := ∀ l ρ, f (swE l ρ) = f ρ
def EqG (τ : TF) : Prop := ∀ r l ρ, τ r (swE l ρ) = (match τ r ρ with | .ok ρ' => .ok (swE l ρ') | .exc c p => .exc c p | .bad => .bad)
def EqS (f : SF) : Prop := ∀ l ρ, f (swE l ρ) = swR l (f ρ)
theorem sw_slot (l : Addr) (ρ : Env) (i : Nat) : slot (swE l ρ) i = swS l (slot ρ i) := by
  unfold slot swE
  rw [List.getD_eq_getElem?_getD, List.getD_eq_getElem?_getD, List.getElem?_map]
  cases ρ[i]? <;> rfl
theorem sw_set (l : Addr) (ρ : Env) (i : Nat) (s : Sl) : (swE l ρ).set i (swS l s) = swE l (ρ.set i s) := by
  unfold swE
  rw [List.map_set]
theorem eqe_var (i : Nat) : EqE (varF i) := fun l ρ => by
  unfold varF
  rw [sw_slot]
  cases slot ρ i <;> rfl
theorem eqe_c (d : D) : EqE (cF d) := fun _ _ => rfl
theorem eqe_un {χ : Rv → Er Rv} {f : EF} (h : EqE f) : EqE (unF χ f) := fun l ρ => by simp only [unF, h l ρ]
theorem eqe_bin {χ : Rv → Rv → Er Rv} {f g : EF} (h : EqE f) (k : EqE g) : EqE (binF χ f g) := fun l ρ => by simp only [binF, h l ρ, k l ρ]
theorem eqe_anil : EqE aNil := fun _ _ => rfl
theorem eqe_acons {f : EF} {r : AF} (h : EqE f) (k : EqE r) : EqE (aCons f r) := fun l ρ => by simp only [aCons, h l ρ, k l ρ]
theorem eqe_call {g : List Sl → Fr} {r : AF} (h : EqE r) : EqE (callF g r) := fun l ρ => by simp only [callF, h l ρ]
theorem eqe_def {ds : List D} {r : AF} (h : EqE r) : EqE (aDef ds r) := fun l ρ => by simp only [aDef, h l ρ]
theorem eqe_tst {f : EF} (h : EqE f) : EqE (tstF f) := fun l ρ => by simp only [tstF, h l ρ]
theorem eqe_not {t : Env → Er Bool} (h : EqE t) : EqE (notT t) := fun l ρ => by simp only [notT, h l ρ]
theorem eqe_or {t u : Env → Er Bool} (h : EqE t) (k : EqE u) : EqE (orT t u) := fun l ρ => by simp only [orT, h l ρ, k l ρ]
theorem eqe_and {t u : Env → Er Bool} (h : EqE t) (k : EqE u) : EqE (andT t u) := fun l ρ => by simp only [andT, h l ρ, k l ρ]
theorem eqg_asgn (i : Nat) : EqG (asgn i) := fun r l ρ => by
  have key : ∀ s : Sl, swS l s = s → (swE l ρ).set i s = swE l (ρ.set i s) := fun s e => by rw [← sw_set, e]
  cases r with
  | v d => show Er.ok _ = Er.ok _; rw [key _ rfl]
  | b d => show Er.ok _ = Er.ok _; rw [key _ rfl]
  | o d => show Er.ok _ = Er.ok _; rw [key _ rfl]
  | ok d => show Er.ok _ = Er.ok _; rw [key _ rfl]
  | ot d => show Er.ok _ = Er.ok _; rw [key _ rfl]
  | on d => show Er.ok _ = Er.ok _; rw [key _ rfl]
  | oi c fs => show Er.ok _ = Er.ok _; rw [key _ rfl]
  | r d =>
    unfold asgn
    dsimp only
    split
    · dsimp only
      rw [key _ rfl]
    · rfl
  | _ => rfl
theorem eqs_asg {f : EF} {τ : TF} (h : EqE f) (k : EqG τ) : EqS (asgS f τ) := fun l ρ => by
  unfold asgS
  rw [h l ρ]
  cases f ρ with
  | ok r =>
    show liftE (swE l ρ) (τ r (swE l ρ)) = swR l (liftE ρ (τ r ρ))
    rw [k r l ρ]
    cases τ r ρ <;> rfl
  | exc c p => rfl
  | bad => rfl
theorem eqs_seq {f g : SF} (h : EqS f) (k : EqS g) : EqS (seqS f g) := fun l ρ => by
  unfold seqS
  rw [h l ρ]
  cases f ρ with
  | next ρ' => exact k l ρ'
  | _ => rfl
theorem eqs_if {t : Env → Er Bool} {f g : SF} (h : EqE t) (k : EqS f) (m : EqS g) : EqS (ifS t f g) := fun l ρ => by
  unfold ifS
  rw [h l ρ]
  cases t ρ with
  | ok b =>
    cases b with
    | true => exact k l ρ
    | false => exact m l ρ
  | exc c p => rfl
  | bad => rfl
theorem eqs_skip : EqS skipS := fun _ _ => rfl
theorem eqs_exc (c : Str) : EqS (excS c) := fun _ _ => rfl
theorem eqs_fld {c f : Str} {i : Nat} {F : EF} (h : EqE F) : EqS (fldS c i f F) := fun l ρ => by
  unfold fldS
  rw [sw_slot, h l ρ]
  cases slot ρ i with
  | j a c0 fs0 =>
    show thenS (swE l ρ) (F ρ) _ = swR l (thenS ρ (F ρ) _)
    cases F ρ with
    | ok r =>
      show (match r.keep with | .ok d => _ | _ => _) = swR l (match r.keep with | .ok d => _ | _ => _)
      cases r.keep with
      | ok d =>
        dsimp only
        show (if c0 = c ∧ fs0.length < 900 then Res.next ((swE l ρ).set i (.j l c (putD f d fs0))) else .bad) = swR l (if c0 = c ∧ fs0.length < 900 then Res.next (ρ.set i (.j a c (putD f d fs0))) else .bad)
        split
        · show Res.next _ = Res.next _
          rw [← sw_set]
          rfl
        · rfl
      | exc c p => rfl
      | bad => rfl
    | exc c p => rfl
    | bad => rfl
  | _ => rfl
/-- the address does not matter -/
theorem fnI_any {c : Str} {bf : SF} {n : Nat} {as : List Sl} {l : Addr} (h : EqS bf) (ha : ∀ s ∈ as, swS l s = s) : bf ((.j l c [] :: as) ++ List.replicate (n - (as.length + 1)) .u) = swR l (bf ((.j 0 c [] :: as) ++ List.replicate (n - (as.length + 1)) .u)) := by
  rw [← h l]
  congr 1
  unfold swE
  rw [List.map_append, List.map_cons, List.map_replicate]
  have : as.map (swS l) = as := by
    conv => rhs; rw [← List.map_id as]
    exact List.map_congr_left fun s hs => ha s hs
  rw [this]
  rfl
end Sq

/-! Own classes: __init__ and instances made. -/
namespace Sq
open PySem PySem.Spec PyProof.Rows L2
def fspI (K : PySem.W.Frag) (cm : Str → Addr) (c : Str) (n : Nat) (g : List Sl → Fr) : Sp := fun vs H Q E => vs.length = n ∧ ∃ (G : Hp) (l dx : Addr) (vr : List V) (as : List Sl), vs = .ref l :: vr ∧ Ex G H ∧ G l = none ∧ H l = some (.ins (clsOf K c) dx []) ∧ ArgsOk K G (butl H l) vr as ∧ match g as with
  | .ret (.oi c' fs) => c' = c ∧ ∀ G' H', CGm G H l G' H' → (∃ dx' us, H' l = some (.ins (clsOf K c) dx' us) ∧ G' l = none ∧ KvD K G' us fs) → Q .non H'
  | .exc e none => ∀ G' H', CGm G H l G' H' → E (.ref (cm e)) none H'
  | _ => False
section
variable {P : Program} {w : World} {K : PySem.W.Frag} {mg : Str → Option Value} {base : Heap}
theorem ArgsOk.sw {G H : Hp} : ∀ {vs : List V} {as : List Sl}, ArgsOk K G H vs as → ∀ l, ∀ s ∈ as, swS l s = s
  | _ :: _, .v _ :: _, q, l, s, hs => by
    rcases List.mem_cons.mp hs with e | e
    · rw [e]; rfl
    · exact ArgsOk.sw q.2 l s e
  | _ :: _, .b _ :: _, q, l, s, hs => by
    rcases List.mem_cons.mp hs with e | e
    · rw [e]; rfl
    · exact ArgsOk.sw q.2 l s e
  | [], [], _, _, s, hs => by cases hs
  | [], _ :: _, q, _, _, _ => q.elim
  | _ :: _, [], q, _, _, _ => q.elim
  | _ :: _, .u :: _, q, _, _, _ => q.elim
  | _ :: _, .x _ :: _, q, _, _, _ => q.elim
  | _ :: _, .o _ :: _, q, _, _, _ => q.elim
  | _ :: _, .k _ :: _, q, _, _, _ => q.elim
  | _ :: _, .t _ :: _, q, _, _, _ => q.elim
  | _ :: _, .n _ :: _, q, _, _, _ => q.elim
  | _ :: _, .i _ _ :: _, q, _, _, _ => q.elim
  | _ :: _, .j _ _ _ :: _, q, _, _, _ => q.elim
theorem rel_startI {N : List Str} {G H : Hp} {l dx : Addr} {c : Str} {vr : List V} {as : List Sl} (c0 : Ex G H) (gl : G l = none) (hl : H l = some (.ins (clsOf K c) dx [])) (ok : ArgsOk K G (butl H l) vr as) (hn : (vr.length + 1) ≤ N.length) :
    Rel K ⟨G, butl H l, H⟩ ((.j l c [] :: as) ++ List.replicate (N.length - (as.length + 1)) .u) (L2.start N (.ref l :: vr)) := by
  have el := ok.len
  have gf : Ex G (butl H l) := fun a o e => by
    unfold butl
    rw [if_neg (fun z => by rw [z, gl] at e; cases e)]
    exact c0 a o e
  have at' : ∀ {i : Nat} {s : Sl}, ((Sl.j l c [] :: as) ++ List.replicate (N.length - (as.length + 1)) Sl.u)[i]? = some s → (i = 0 ∧ s = .j l c []) ∨ (∃ j, i = j + 1 ∧ as[j]? = some s) ∨ s = .u := fun {i s} e => by
    cases i with
    | zero =>
      left
      refine ⟨rfl, ?_⟩
      simpa using e.symm
    | succ j =>
      right
      rw [List.cons_append, List.getElem?_cons_succ, List.getElem?_append] at e
      split at e
      · exact .inl ⟨j, rfl, e⟩
      · right
        rw [List.getElem?_replicate] at e
        split at e
        · cases e; rfl
        · cases e
  have noown : ∀ {j : Nat} {s : Sl}, as[j]? = some s → s.own = true → False := fun {j s} e o => by
    obtain ⟨v, _, q⟩ := ok.get e
    rcases q with ⟨d, rfl, _⟩ | ⟨d, rfl, _⟩ <;> cases o
  refine ⟨⟨gf, fun a o e => ?_⟩, ?_, fun i s x e1 e2 => ?_, fun i j s t a b hij e1 e2 o1 o2 _ _ => ?_⟩
  · have e' : (if a = l then none else H a) = some o := e
    split at e'
    · cases e'
    · exact e'
  · unfold L2.start
    simp
    omega
  · rcases at' e1 with ⟨rfl, rfl⟩ | ⟨j, rfl, ea⟩ | rfl
    · have : x = some (.ref l) := by
        unfold L2.start at e2
        simp at e2
        exact e2.symm
      refine ⟨[], dx, this, hl, ?_, .nil⟩
      show (if l = l then none else H l) = none
      rw [if_pos rfl]
    · obtain ⟨v, ev, q⟩ := ok.get ea
      have hx : x = some v := by
        unfold L2.start at e2
        have hi : j + 1 < (V.ref l :: vr).length := by
          have := (List.getElem?_eq_some_iff.mp ev).1
          simp
          omega
        rw [List.getElem?_append_left (by simpa using hi), List.getElem?_map, List.getElem?_cons_succ, ev] at e2
        cases e2
        rfl
      rcases q with ⟨d, rfl, q⟩ | ⟨d, rfl, q⟩
      · exact ⟨v, hx, q⟩
      · exact ⟨v, hx, q⟩
    · trivial
  · exfalso
    rcases at' e1 with ⟨rfl, rfl⟩ | ⟨j', rfl, ea⟩ | rfl
    · rcases at' e2 with ⟨rfl, rfl⟩ | ⟨j'', rfl, ea'⟩ | rfl
      · exact hij rfl
      · exact noown ea' o2
      · cases o2
    · exact noown ea o1
    · cases o1
theorem init_go {cm : Str → Addr} {c : Str} {N : List Str} {n : Nat} {bf : SF} {vs : List V} {H : Hp} {Q : VK} {E : XK} (hn : n ≤ N.length) (hbl : EqS bf) (h : fspI K cm c n (fnI c bf N.length) vs H Q E) : tS K (WFx K cm fun cls d _ H => E cls d H) bf { nx := fun _ H' => Q .non H', rt := Q } (L2.start N vs) H := by
  obtain ⟨hl, G, l, dx, vr, as, rfl, c0, gl, hH, ok, q⟩ := h
  have el := ok.len
  have R := rel_startI (N := N) c0 gl hH ok (by simp at hl; omega)
  refine ⟨⟨G, butl H l, H⟩, _, rfl, R, ?_⟩
  rw [fnI_any hbl (ok.sw l)]
  unfold fnI fnIa at q
  have hf : ∀ a : Addr, butl H l a = none → H a = none ∨ a = l := fun a z => by
    unfold butl at z
    split at z
    · right; assumption
    · left; exact z
  have cg : ∀ {h' : Hs}, Ch h' → SG ⟨G, butl H l, H⟩ h' → CGm G H l h'.G h'.H := fun {h'} c' g' => ⟨g'.g, fun a o hne e => by
    refine c'.fh a o (g'.f a o ?_)
    show (if a = l then none else H a) = some o
    rw [if_neg hne]
    exact e, c'.gh, fun a o e z => hf a (g'.gn a o e z)⟩
  cases e : bf ((Sl.j 0 c [] :: as) ++ List.replicate (N.length - (as.length + 1)) .u) with
  | next ρ' =>
    rw [e] at q
    dsimp only at q
    cases es : slot ρ' 0 with
    | j l' c' fs =>
      rw [es] at q
      dsimp only at q
      by_cases hcc : l' = 0 ∧ c' = c
      · rw [if_pos hcc] at q
        obtain ⟨rfl, rfl⟩ := hcc
        intro σ' h' R' g'
        have es2 : slot (swE l ρ') 0 = .j l c' fs := by rw [sw_slot, es]; rfl
        obtain ⟨us, dx', ex, a, b, d⟩ := ins_now R' es2
        exact q.2 h'.G h'.H (cg R'.ch g') ⟨dx', us, a, R'.ch.gf.back b, d⟩
      · rw [if_neg hcc] at q
        exact q.elim
    | _ =>
      rw [es] at q
      exact q.elim
  | exc cc p ρ' =>
    rw [e] at q
    cases p with
    | none =>
      intro σ' h' R' g'
      exact q h'.G h'.H (cg R'.ch g')
    | some p => exact q.elim
  | _ => rw [e] at q; exact q.elim
theorem fn_okI {cm : Str → Addr} {c : Str} {x qual : Str} {st : Stmt} {f : Addr} {fd : FuncData} {N ps : List Str} {k : Nat} {bf : SF} (F : Fun K x qual st f fd) (S : FnScope N ps (defScope st)) (hps : ps.length ≤ N.length) (hbl : EqS bf)
    (body : ∀ (cdv : Value) (A : Around) (outer : List PySem.Env) (s : Shared) (H : Hp) (E : XK), Room k (A.deeper (envOfC qual (defScope st) s.heap.objs.size f cdv)) →
      PSs (bodyCx P w K mg base N qual st f cdv A outer s H E) (defBody st) (tS K (WFx K cm fun cls d _ H => E cls d H) bf)) :
    FnOk P w K mg base (L2.CX P w) (k + 1) f fd ps (fspI K cm c ps.length (fnI c bf N.length)) :=
  F.okX S (fun vs H Q E h => h.1) fun cdv A outer s H vs Q E hr h => ⟨_, body cdv A outer s H E hr, init_go hps hbl h⟩
theorem fn_okID {cm : Str → Addr} {c : Str} {x qual : Str} {st : Stmt} {f : Addr} {fd : FuncData} {dvs : List V} {kws : List (Str × V)} {N ps : List Str} {k : Nat} {bf : SF} (F : FunD K x qual (defArgs st) (defBody st) (defScope st) dvs kws f fd) (S : FnScope N ps (defScope st)) (hps : ps.length ≤ N.length) (hbl : EqS bf)
    (body : ∀ (cdv : Value) (A : Around) (outer : List PySem.Env) (s : Shared) (H : Hp) (E : XK), Room k (A.deeper (envOfC qual (defScope st) s.heap.objs.size f cdv)) →
      PSs (bodyCx P w K mg base N qual st f cdv A outer s H E) (defBody st) (tS K (WFx K cm fun cls d _ H => E cls d H) bf)) :
    FnOk P w K mg base (L2.CX P w) (k + 1) f fd ps (fspI K cm c ps.length (fnI c bf N.length)) :=
  F.ok S (fun vs H Q E h => h.1) fun cdv A outer s H vs Q E hr h => ⟨_, body cdv A outer s H E hr, init_go hps hbl h⟩
/-- behind the making of an instance: the caller's heaps -/
theorem make_gr {h : Hs} (c : Ch h) {x dx : Addr} {o0 o1 : HO} (hx : h.H x = none) (hdx : h.H dx = none) {G' H' : Hp} (g : CGm h.G (upd (upd h.H dx o0) x o1) x G' H') : Gr h (h.call G' H') ∧ Ch (h.call G' H') := by
  have new : ∀ a o, h.H a = some o → upd (upd h.H dx o0) x o1 a = some o := fun a o e => by
    have n1 : a ≠ x := fun z => by rw [z, hx] at e; cases e
    have n2 : a ≠ dx := fun z => by rw [z, hdx] at e; cases e
    rw [upd_ne n1, upd_ne n2]
    exact e
  have old : ∀ a, (upd (upd h.H dx o0) x o1 a = none ∨ a = x) → h.H a = none := fun a z => by
    rcases z with z | z
    · cases e : h.H a with
      | none => rfl
      | some o => rw [new a o e] at z; cases z
    · rw [z]; exact hx
  have hx' : ∀ a o, h.H a = some o → H' a = some o := fun a o e => g.h a o (fun z => by rw [z, hx] at e; cases e) (new a o e)
  refine ⟨⟨g.g, fun a o e => ?_, hx', fun a o e z => c.fh.back (old a (g.n a o e z)), fun a o e z => ?_⟩, ⟨fun a o e => ?_, fun a o e => ?_⟩⟩
  · show (match h.F a with | some o => some o | none => G' a) = some o
    rw [e]
  · have e' : (match h.F a with | some o => some o | none => G' a) = some o := e
    rw [z] at e'
    exact old a (g.n a o e' (c.gf.back z))
  · show (match h.F a with | some o => some o | none => G' a) = some o
    cases q : h.F a with
    | none => exact e
    | some u =>
      cases z : h.G a with
      | none =>
        have := old a (g.n a o e z)
        rw [c.fh a u q] at this
        cases this
      | some t =>
        have e1 := g.g a t z
        have e0 : G' a = some o := e
        rw [e0] at e1
        cases e1
        have e2 := c.gf a _ z
        rw [q] at e2
        exact e2
  · have e' : (match h.F a with | some o => some o | none => G' a) = some o := e
    cases q : h.F a with
    | none =>
      rw [q] at e'
      exact g.c a o e'
    | some u =>
      rw [q] at e'
      cases e'
      exact hx' a _ (c.fh a _ q)
theorem ArgsOk.mono {G H H2 : Hp} (h : Ex H H2) : ∀ {vs : List V} {as : List Sl}, ArgsOk K G H vs as → ArgsOk K G H2 vs as
  | _ :: _, .v _ :: _, q => ⟨q.1, ArgsOk.mono h q.2⟩
  | _ :: _, .b _ :: _, q => ⟨ex_dp h q.1, ArgsOk.mono h q.2⟩
  | [], [], _ => trivial
  | [], _ :: _, q => q.elim
  | _ :: _, [], q => q.elim
  | _ :: _, .u :: _, q => q.elim
  | _ :: _, .x _ :: _, q => q.elim
  | _ :: _, .o _ :: _, q => q.elim
  | _ :: _, .k _ :: _, q => q.elim
  | _ :: _, .t _ :: _, q => q.elim
  | _ :: _, .n _ :: _, q => q.elim
  | _ :: _, .i _ _ :: _, q => q.elim
  | _ :: _, .j _ _ _ :: _, q => q.elim
end
section
variable {X : Cx} {W : WF} {cm : Str → Addr}
def makR (c : Str) : Fr → Er Rv
  | .ret (.oi c' fs) => if c' = c then .ok (.v (ob c fs)) else .bad
  | .exc e none => .exc e none
  | _ => .bad
/-- an instance is made, and stays as it is -/
def makF (c : Str) (g : List Sl → Fr) (r : AF) : EF := fun ρ => (r ρ).bind fun rs => makR c (g (rs.map Rv.sl))
/-- C(..) within what may be let out -/
def tMakeSq (C : Addr) (sp : Sp) (dvs : List V) (E : L2.St → XK) (t : TA) : TE := fun σ H Q => t σ H fun vs H1 => ∀ x dx, H1 x = none → H1 dx = none → dx ≠ x →
  sp (.ref x :: (vs ++ dvs)) (upd (upd H1 dx (.own x)) x (.ins C dx [])) (fun v H2 => v = .non ∧ Q (.ref x) H2) (E σ)
theorem run_makeSq {CX : CXT} {k : Nat} {f C : Addr} {fd : FuncData} {ps : List Str} {sp : Sp} {dvs : List V} {ds : List Value} {E : L2.St → XK} {pins : List (Addr × Obj)} {σ : L2.St} {H : Hp} {s : Shared} {Q : VK} {us : List Value} {vs : List V} (M : Mk X.K C f) (F : FnOk X.prog X.w X.K X.mg X.base CX k f fd ps sp) (hr : Room (k + 1) X.A) (hb : Binds X.K fd ps ds) (hd : Vals dvs ds)
    (hx : PassesAt CX X σ (E σ)) (I : Inv X pins σ H s) (r : Vals vs us)
    (h : ∀ x dx, H x = none → H dx = none → dx ≠ x → sp (.ref x :: (vs ++ dvs)) (upd (upd H dx (.own x)) x (.ins C dx [])) (fun v H2 => v = .non ∧ Q (.ref x) H2) (E σ)) :
    wpAny (model X.prog X.w) X.A (call (.ref C) us) (EP X pins σ Q) X.xe s := by
  have hq := h (s.heap.objs.size + 1) s.heap.objs.size (I.hok.fresh (Nat.le_succ _)) (I.hok.fresh (Nat.le_refl _)) (Nat.ne_of_lt (Nat.lt_succ_self _))
  have I2 := Inv.made (C := C) I
  have r2 : Vals (V.ref (s.heap.objs.size + 1) :: (vs ++ dvs)) (Value.ref (s.heap.objs.size + 1) :: (us ++ ds)) := .cons rfl (r.append hd)
  have hl : (Value.ref (s.heap.objs.size + 1) :: us ++ ds).length = ps.length := by
    have e := r2.length
    rw [F.len _ _ _ _ hq] at e
    exact e.symm
  refine wpAny_call (make_map (f := f) I.kIn M.makes M.init (beq_iff_eq.mp M.fn) (codeAny_mono (F.run _ X.stack _ _ ⟨Value.ref (s.heap.objs.size + 1) :: us, []⟩ (Value.ref (s.heap.objs.size + 1) :: (us ++ ds)) _ _ (E σ) (hr.make C us [])
    (I2.env0.make C us []) (hb _ (Value.ref (s.heap.objs.size + 1) :: us) I2.kIn hl) r2 hq) fun r s' hq' => ?_))
  cases r with
  | error e => exact hx pins _ _ e s' I2 hq'
  | ok fl =>
    cases fl with
    | ret u =>
      obtain ⟨v, H', I3, rv, ev, q3⟩ := I2.after hq'
      subst ev
      exact ⟨rv, ⟨V.ref (s.heap.objs.size + 1), H', I3, rfl, q3⟩⟩
    | next => exact False.elim hq'
    | brk => exact False.elim hq'
    | cont => exact False.elim hq'
theorem pe_makeSq {CX : CXT} {k : Nat} {f C : Addr} {fd : FuncData} {ps : List Str} {sp : Sp} {dvs : List V} {ds : List Value} {E : L2.St → XK} {x : Str} {p pos : Pos} {e : Expr} {es : List Expr} {t : TA} (M : Mk X.K C f) (F : FnOk X.prog X.w X.K X.mg X.base CX k f fd ps sp) (hr : Room (k + 1) X.A) (hg : Gl X x) (hm : X.mg x = some (.ref C)) (hb : Binds X.K fd ps ds) (hd : Vals dvs ds) (hx : ∀ σ, PassesAt CX X σ (E σ))
    (ha : PA X (e :: es) t) (hdb : (x == ("__debug__" : Str)) = false := by decide) (he : starEach (e :: es) X.env = (false, eval e X.env) :: starEach es X.env := by rfl) (hpl : (backTo pos (starEach es X.env)).any (·.1) = false := by rfl) :
    PE X (.Call (.Name x p) (e :: es) [] pos) (tMakeSq C sp dvs E t) := by
  refine ⟨fun pins s σ H Q I h => ?_⟩
  refine wpAny_Call_Name_kw (ld_glob I hg hm ?_ hdb)
  refine PySem.W.callWith_K (h₀ := X.base) I.ok.mod.kin M.kp (thn (ha.run pos pins s σ H _ I h) fun us s1 ⟨vs, H1, I1, r, q⟩ => ⟨I1.kIn, ?_⟩) he hpl
  exact run_makeSq M F hr hb hd (hx σ) I1 r q
theorem xmake {ds : List Value} {dvs : List V} {dd : List D} {k : Nat} {f : Addr} {fd : FuncData} {ps : List Str} {g : List Sl → Fr} {c : Str} {p pos : Pos} {e : Expr} {es : List Expr} {r : AF} (tk : Tk X cm W) (M : Mk X.K (clsOf X.K c) f) (F : FnOk X.prog X.w X.K X.mg X.base (L2.CX X.prog X.w) k f fd ps (fspI X.K cm c ps.length g)) (hr : Room (k + 1) X.A) (hg : Gl X c) (hm : X.mg c = some (.ref (clsOf X.K c))) (hb : Binds X.K fd ps ds) (hd : Vals dvs ds) (hdd : ∀ G : Hp, DpAll X.K G dvs dd)
    (hlen : ps.length = (e :: es).length + dd.length + 1) (ha : PA X (e :: es) (tXa X.K W r)) (hrl : ∀ ρ rs, r ρ = .ok rs → rs.length = (e :: es).length) (hdb : (c == ("__debug__" : Str)) = false := by decide) (he : starEach (e :: es) X.env = (false, eval e X.env) :: starEach es X.env := by rfl) (hpl : (backTo pos (starEach es X.env)).any (·.1) = false := by rfl) :
    PE X (.Call (.Name c p) (e :: es) [] pos) (tX X.K W (makF c g (aDef dd r))) := by
  obtain ⟨Wx, tk, hW⟩ := tk
  refine peTo (pe_makeSq M F hr hg hm hb hd (E := WE Wx) (fun σ => passAt tk σ) ha hdb he hpl) fun σ H Q q => ?_
  obtain ⟨h, ρ, rfl, R, q⟩ := tX_iff.mp q
  have q : PE1 X.K W h ρ σ Q ((r ρ).bind fun rs => makR c (g ((rs ++ dd.map Rv.v).map Rv.sl))) := by
    unfold makF aDef at q
    cases er : r ρ with
    | ok rs => rw [er] at q; exact q
    | exc c p => rw [er] at q; exact q
    | bad => rw [er] at q; exact q
  refine ⟨h, ρ, rfl, R, PE1.bindA q fun rs vs h1 er R1 g1 ok1 q1 => ?_⟩
  have okk := rvs_app ok1 (rvs_v (hdd h1.G))
  have hdl : dvs.length = dd.length := (hdd h1.G).len
  intro x dx hx hdx hne
  have ea := args_of R1.ch okk
  have emb : Ex h1.H (butl (upd (upd h1.H dx (.own x)) x (.ins (clsOf X.K c) dx [])) x) := fun a o ha => by
    have n1 : a ≠ x := fun z => by rw [z, hx] at ha; cases ha
    have n2 : a ≠ dx := fun z => by rw [z, hdx] at ha; cases ha
    unfold butl
    rw [if_neg n1, upd_ne n1, upd_ne n2]
    exact ha
  have new : Ex h1.H (upd (upd h1.H dx (.own x)) x (.ins (clsOf X.K c) dx [])) := fun a o ha => by
    have n1 : a ≠ x := fun z => by rw [z, hx] at ha; cases ha
    have n2 : a ≠ dx := fun z => by rw [z, hdx] at ha; cases ha
    rw [upd_ne n1, upd_ne n2]
    exact ha
  refine ⟨by rw [List.length_cons, List.length_append, ok1.len, hrl ρ rs er, hdl, hlen], h1.G, x, dx, vs ++ dvs, (rs ++ dd.map Rv.v).map Rv.sl, rfl, R1.ch.gh.trans new, R1.ch.gh.back hx, upd_same, ea.mono emb, ?_⟩
  cases eg : g ((rs ++ dd.map Rv.v).map Rv.sl) with
  | bad => rw [eg] at q1; exact q1.elim
  | exc c' p =>
    rw [eg] at q1
    cases p with
    | none =>
      intro G' H' cg
      obtain ⟨gr, ch⟩ := make_gr R1.ch hx hdx cg
      exact hW _ _ _ _ (q1 (h1.call G' H') (R1.grow gr ch) gr)
    | some p => exact q1.elim
  | ret res =>
    rw [eg] at q1
    cases res with
    | oi c' fs =>
      unfold makR at q1
      dsimp only at q1
      split at q1
      · rename_i ec
        subst ec
        refine ⟨rfl, fun G' H' cg ⟨dx', us, a, b, d⟩ => ⟨rfl, ?_⟩⟩
        have eG : Ex G' (upd G' x (.ins (clsOf X.K c') dx' us)) := Ex.new b
        have cg2 : CGm h1.G (upd (upd h1.H dx (.own x)) x (.ins (clsOf X.K c') dx [])) x (upd G' x (.ins (clsOf X.K c') dx' us)) H' := ⟨cg.g.trans eG, cg.h, fun z o hz => by
          by_cases hzx : z = x
          · subst hzx
            rw [upd_same] at hz
            cases hz
            exact a
          · rw [upd_ne hzx] at hz
            exact cg.c z o hz, fun z o hz hn => by
          by_cases hzx : z = x
          · exact .inr hzx
          · rw [upd_ne hzx] at hz
            exact cg.n z o hz hn⟩
        obtain ⟨gr, ch⟩ := make_gr R1.ch hx hdx cg2
        exact q1 (.ref x) (h1.call _ H') (R1.grow gr ch) gr (.obj upd_same (kv_dpfs (d.ex eG)))
      · exact q1.elim
    | _ => exact q1.elim
end
end Sq

/-! for x in reversed(xs), in a statement. -/
namespace Sq
open PySem PySem.Spec PyProof.Rows L2
section
variable {K : PySem.W.Frag} {W : WF} {X : Cx} {e : Expr} {tg : Expr} {f : EF} {p pos : Pos} {P : Hs → Hs → Prop}
theorem rev_at {α : Type} {xs : List α} {i : Nat} (h : i < xs.length) : xs.reverse[i]? = xs[xs.length - 1 - i]? := by
  rw [List.getElem?_reverse h]
theorem itv_ok {h0 : Hs} {rs : List Rv} {a : Addr} {vs : List V} (hs : ∀ h, P h0 h → Ch h → SqL K h.H a vs) (hv : ∀ h, P h0 h → Ch h → VsF K h vs rs) : ItOk P K (Itv K a vs.length) h0 rs.reverse where
  go := fun i h p c hi => by
    have q := hv h p c
    have hi' : i < vs.length := by rw [q.len]; simpa using hi
    have hj : vs.length - 1 - i < vs.length := by omega
    exact ⟨hi', vs, vs[vs.length - 1 - i], hs h p c, List.getElem?_eq_getElem hj⟩
  stop := fun i h p c hi => by
    show vs.length ≤ i
    rw [(hv h p c).len]
    simpa using hi
  yld := fun i h v H' p c hi y => by
    obtain ⟨e, y⟩ := y
    subst e
    have q := hv h p c
    obtain ⟨r, e1, e2⟩ := q.get (y vs (hs h p c))
    refine ⟨h, r, rfl, Gr.refl h, c, ?_, e2⟩
    rw [rev_at (by simpa using hi), ← q.len]
    exact e1
theorem itvt_ok {h0 : Hs} {rs : List Rv} {a : Addr} {vs : List V} (hs : ∀ h, P h0 h → Ch h → SqT K h.H a vs) (hv : ∀ h, P h0 h → Ch h → VsF K h vs rs) : ItOk P K (RT.ItvT K a vs.length) h0 rs.reverse where
  go := fun i h p c hi => by
    have q := hv h p c
    have hi' : i < vs.length := by rw [q.len]; simpa using hi
    have hj : vs.length - 1 - i < vs.length := by omega
    exact ⟨hi', vs, vs[vs.length - 1 - i], hs h p c, List.getElem?_eq_getElem hj⟩
  stop := fun i h p c hi => by
    show vs.length ≤ i
    rw [(hv h p c).len]
    simpa using hi
  yld := fun i h v H' p c hi y => by
    obtain ⟨e, y⟩ := y
    subst e
    have q := hv h p c
    obtain ⟨r, e1, e2⟩ := q.get (y vs (hs h p c))
    refine ⟨h, r, rfl, Gr.refl h, c, ?_, e2⟩
    rw [rev_at (by simpa using hi), ← q.len]
    exact e1
def rvF (it : Rv → Er (List Rv)) (f : EF) : IF := fun ρ => (f ρ).bind fun a => (it a).bind fun rs => .ok rs.reverse
theorem xrvS (hg : Gl X "reversed") (hm : X.mg "reversed" = none) (he : PE X e (tX X.K W f)) (hs : starEach [e] X.env = (false, eval e X.env) :: starEach [] X.env := by rfl) : PI X tg (.Call (.Name "reversed" p) [e] [] pos) (tI SG X.K W (rvF itS f)) := by
  refine piTo (RT.pi_revA hg hm he hs) fun σ H R q => ?_
  obtain ⟨h, ρ, rfl, Rl, q⟩ := q
  refine tX_mk Rl (PI1.bindE q fun a v h1 _ R1 g1 ok1 q1 => ?_)
  cases ei : itS a with
  | bad => rw [ei] at q1; exact q1.elim
  | exc c p => exact absurd ei itS_ne
  | ok rs =>
    obtain ⟨h2, p, vs, eh, R2, g2, rfl, hv, hs⟩ := keepS Rl R1 g1 ei ok1
    have q2 : PI1 SG X.K W h ρ σ R (.ok rs.reverse) := by
      unfold rvF at q
      have : f ρ = .ok a := by assumption
      rw [this] at q
      have q' : PI1 SG X.K W h ρ σ R ((itS a).bind fun rs => .ok rs.reverse) := q
      rw [ei] at q'
      exact q'
    rw [← eh]
    have c2 := R2.ch
    rcases hs with hs | hs
    · exact ⟨p, vs, rfl, .inl ⟨hs h2 (SG.refl _) c2, q2 _ h2 R2 g2 (itv_ok hs hv)⟩⟩
    · exact ⟨p, vs, rfl, .inr ⟨hs h2 (SG.refl _) c2, q2 _ h2 R2 g2 (itvt_ok hs hv)⟩⟩
end
end Sq

/-! A suite whose rows go by the exception's class. -/
namespace Sq
open PySem PySem.Spec PyProof.Rows L2
def pickX : List (Str × (Addr → SF)) → Str → Addr → SF
  | [], _ => fun _ _ => .bad
  | (c, s) :: r, x => if x = c then s else pickX r x
theorem pick_hd {c : Str} {s : Addr → SF} {r : List (Str × (Addr → SF))} : pickX ((c, s) :: r) c = s := by
  rw [pickX, if_pos rfl]
theorem pick_tl {c x : Str} {s t : Addr → SF} {r : List (Str × (Addr → SF))} (h : x ≠ c) (e : pickX r x = t) : pickX ((c, s) :: r) x = t := by
  rw [pickX, if_neg h, e]
section
variable {X : Cx} {W : WF} {K : PySem.W.Frag}
theorem pss_pick {sts : List Stmt} {s t : SF} (e : t = s) (h : PSs X sts (tS K W s)) : PSs X sts (tS K W t) := e ▸ h
theorem bls_pick {i : Nat} {F G : Addr → SF} (e : F = G) (h : BlS i G) : BlS i F := e ▸ h
end
end Sq

/-! Lists of new lists: made, told, and changed by the one who asked. -/
namespace Sq
open PySem PySem.Spec PyProof.Rows L2
section
variable {X : Cx} {W : WF} {K : PySem.W.Frag} {h : Hs} {ρ : Env} {σ : L2.St}
def flatL (xs : List PyData) : Bool := xs.all flatD
theorem dpa_flat {H : Hp} : ∀ {vs : List V} {xs : List PyData}, flatL xs = true → DpAll K H vs xs → ∀ G0, DpAll K G0 vs xs
  | _, _, _, .nil, _ => .nil
  | _, _, e, .cons d t, G0 => by
    unfold flatL at e
    rw [List.all_cons, Bool.and_eq_true] at e
    exact .cons (dp_flatG e.1 d) (dpa_flat e.2 t G0)
theorem refs_snoc {ms : List Addr} {m : Addr} : refsOf (ms ++ [m]) = refsOf ms ++ [.ref m] := by simp [refsOf]
/-- an own list of flat things goes into a list of such lists -/
theorem grabE_ok (R : Rel K h ρ σ) {i j : Nat} {l : Addr} {ms : List Addr} {xss : List (List PyData)} {xs : List PyData} {s : Sl} (ei : ρ[i]? = some s) (os : s.own = true) (el : σ[i]? = some (some (.ref l))) (hy : Ys K h.F h.G ms xss) (ej : ρ[j]? = some (.e xs)) :
    ∃ m, σ[j]? = some (some (.ref m)) ∧ Rel K ⟨h.G, h.F, upd h.H l (.lst (refsOf ms ++ [.ref m]))⟩ (ρ.set i (.y (xss ++ [xs]))) σ ∧ SG h ⟨h.G, h.F, upd h.H l (.lst (refsOf ms ++ [.ref m]))⟩ := by
  obtain ⟨x, ex, m, ws, rfl, fm, gm, hd⟩ := R.get ej
  obtain ⟨_, fl⟩ := R.ownH ei os el
  obtain ⟨R', g'⟩ := R.mut (s' := .y (xss ++ [xs])) (o := .lst (refsOf ms ++ [.ref m])) ei os rfl el ⟨l, ms ++ [m], rfl, by rw [refs_snoc]; exact upd_same, fl, Paired.snoc hy ⟨ws, fm, gm, hd⟩⟩
  exact ⟨m, ex, R', g'⟩
/-- ghost: an own list of flat things stays for a while -/
def eE (ρ : Env) (j : Nat) : Env := match slot ρ j with
  | .o xs => if flatL xs = true then ρ.set j (.e xs) else ρ
  | _ => ρ
def eS (j : Nat) (f : SF) : SF := fun ρ => f (eE ρ j)
theorem eE_ok (R : Rel K h ρ σ) (j : Nat) : ∃ h', h'.H = h.H ∧ Rel K h' (eE ρ j) σ ∧ SG h h' := by
  have same : ∃ h', h'.H = h.H ∧ Rel K h' ρ σ ∧ SG h h' := ⟨h, rfl, R, SG.refl h⟩
  unfold eE
  split
  rotate_left
  · exact same
  split
  rotate_left
  · exact same
  rename_i xs ej hf
  have ej := slot_some ej (by intro z; cases z)
  obtain ⟨x, ex, m, ws, rfl, hm, fm, hd⟩ := R.get ej
  have gm : h.G m = none := R.ch.gf.back fm
  have hj : j < ρ.length := (List.getElem?_eq_some_iff.mp ej).1
  refine ⟨⟨h.G, upd h.F m (.lst ws), h.H⟩, rfl, ⟨⟨R.ch.gf.trans (Ex.new fm), fun a o e => ?_⟩, by simp [R.len], fun k t x e1 e2 => ?_, fun k k' t u p p' hkk e1 e2 o1 o2 e3 e4 => ?_⟩, ⟨Ex.refl _, Ex.new fm, fun a o e z => no_sm (show h.G a = some o from e) z⟩⟩
  · have e' : upd h.F m (.lst ws) a = some o := e
    by_cases q : a = m
    · subst q
      rw [upd_same] at e'
      cases e'
      exact hm
    · rw [upd_ne q] at e'
      exact R.ch.fh a o e'
  · by_cases hk : j = k
    · subst hk
      rw [List.getElem?_set_self hj] at e1
      cases e1
      rw [ex] at e2
      cases e2
      exact ⟨m, ws, rfl, upd_same, gm, dpa_flat hf hd⟩
    · rw [List.getElem?_set_ne hk] at e1
      have q := R.at_ k t x e1 e2
      have nl : ∀ p, t.own = true → x = some (.ref p) → p ≠ m := fun p ot z => by
        subst z
        exact R.dis k j t (.o xs) p m (Ne.symm hk) e1 ej ot rfl e2 ex
      cases t with
      | u => trivial
      | x a => exact q
      | v d => exact q
      | b d =>
        obtain ⟨v, e, q⟩ := q
        exact ⟨v, e, ex_dp (Ex.new fm) q⟩
      | o ys =>
        obtain ⟨p, us, e, a, b, q⟩ := q
        exact ⟨p, us, e, a, (upd_ne (nl p rfl e)).trans b, q⟩
      | k ys =>
        obtain ⟨p, us, e, a, b, q⟩ := q
        exact ⟨p, us, e, a, (upd_ne (nl p rfl e)).trans b, q⟩
      | t ys =>
        obtain ⟨p, us, e, a, b, q⟩ := q
        exact ⟨p, us, e, a, (upd_ne (nl p rfl e)).trans b, q⟩
      | n ys =>
        obtain ⟨p, us, e, a, b, q⟩ := q
        exact ⟨p, us, e, a, (upd_ne (nl p rfl e)).trans b, q⟩
      | i c ys =>
        obtain ⟨p, us, dx, e, a, b, q⟩ := q
        exact ⟨p, us, dx, e, a, (upd_ne (nl p rfl e)).trans b, q⟩
      | j p c ys =>
        obtain ⟨us, dx, e, a, b, q⟩ := q
        exact ⟨us, dx, e, a, (upd_ne (nl p rfl e)).trans b, q⟩
      | y ys =>
        obtain ⟨p, us, e, a, b, q⟩ := q
        exact ⟨p, us, e, a, (upd_ne (nl p rfl e)).trans b, q.ex (Ex.new fm) fun a o e z => no_sm e z⟩
      | e ys =>
        obtain ⟨p, us, e, a, b, q⟩ := q
        exact ⟨p, us, e, Ex.new fm _ _ a, b, q⟩
      | z p ys =>
        obtain ⟨us, e, a, b, q⟩ := q
        exact ⟨us, e, Ex.new fm _ _ a, b, q.ex (Ex.new fm) fun a o e z => no_sm e z⟩
  · have fix : ∀ {n : Nat} {t : Sl}, (ρ.set j (.e xs))[n]? = some t → t.own = true → ρ[n]? = some t := fun {n t} e1 o1 => by
      by_cases hn : j = n
      · subst hn
        rw [List.getElem?_set_self hj] at e1
        cases e1
        cases o1
      · rw [List.getElem?_set_ne hn] at e1
        exact e1
    exact R.dis k k' t u p p' hkk (fix e1 o1) (fix e2 o2) o1 o2 e3 e4
theorem xeS {sts : List Stmt} {f : SF} (j : Nat) (h1 : PSs X sts (tS X.K W f)) : PSs X sts (tS X.K W (eS j f)) := pssTo h1 fun D σ H ⟨h, ρ, e, R, q⟩ => by
  subst e
  obtain ⟨h', eh, R', g⟩ := eE_ok R j
  rw [← eh]
  exact tS_mk R' (Post.shift g q)
/-- l.append(m): m goes into l -/
def appY (i j : Nat) : SF := fun ρ => match slot ρ j with
  | .e xs => (match slot ρ i with
    | .o [] => .next (ρ.set i (.y [xs]))
    | .y xss => if xss.length < 100000 then .next (ρ.set i (.y (xss ++ [xs]))) else .bad
    | _ => .bad)
  | _ => .bad
theorem Ys.len {F G : Hp} : ∀ {ms : List Addr} {xss : List (List PyData)}, Ys K F G ms xss → ms.length = xss.length
  | _, _, .nil => rfl
  | _, _, .cons _ t => congrArg (· + 1) (Ys.len t)
theorem xappY (i j : Nat) {e o : Expr} {pos apos spos : Pos} (he : PE X (.Call (.Attribute o "append" apos) [e] [] pos) (tBM X.K "list" rAppend (tVar i) (tCons (tVar j) tNil))) (hs : swapsWith (.Call (.Attribute o "append" apos) [e] [] pos) none spos.line X.env = pure false := by rfl) :
    PS X (.Expr (.Call (.Attribute o "append" apos) [e] [] pos) spos) (tS X.K W (appY i j)) := by
  refine psTo (ps_expr he hs) fun D σ H ⟨h, ρ, eh, R, q⟩ => ?_
  subst eh
  unfold appY at q
  split at q
  rotate_left
  · exact q.elim
  rename_i xs ej
  have ej := slot_some ej (by intro z; cases z)
  split at q
  · rename_i ei
    have ei := slot_some ei (by intro z; cases z)
    obtain ⟨x, ex, l, vs, rfl, hl, fl, hd⟩ := R.get ei
    cases hd
    obtain ⟨m, em, R', g'⟩ := grabE_ok R ei rfl ex (ms := []) (xss := []) .nil ej
    exact ⟨.ref l, ex, .inl ⟨rfl, [], .of hl⟩, .ref m, em, l, [], .ref m, rfl, rfl, hl, by decide, q σ _ R' g'⟩
  · rename_i xss ei
    have ei := slot_some ei (by intro z; cases z)
    split at q
    · obtain ⟨x, ex, l, ms, rfl, hl, fl, hy⟩ := R.get ei
      obtain ⟨m, em, R', g'⟩ := grabE_ok R ei rfl ex hy ej
      refine ⟨.ref l, ex, .inl ⟨rfl, refsOf ms, .of hl⟩, .ref m, em, l, refsOf ms, .ref m, rfl, rfl, hl, ?_, q σ _ R' g'⟩
      have : (refsOf ms).length = xss.length := by rw [← hy.len]; simp [refsOf]
      rw [this]
      exact Nat.lt_of_lt_of_le (by assumption) (by decide)
    · exact q.elim
  · exact q.elim
/-! ### a list of new lists is asked for, looked at, changed -/
/-- what was asked for is new to h0 -/
structure Zf (h0 h : Hs) (l : Addr) : Prop where
  f0 : h0.F l = none
  ms : ∀ ms, h.F l = some (.lst (refsOf ms)) → ∀ m ∈ ms, h0.F m = none
  th : ∃ ms, h.F l = some (.lst (refsOf ms))
theorem Zf.sg {h0 h h' : Hs} {l : Addr} (z : Zf h0 h l) (g : SG h h') : Zf h0 h' l := by
  obtain ⟨ns, e⟩ := z.th
  have e' := g.f _ _ e
  exact ⟨z.f0, fun ms e2 => by
    rw [e'] at e2
    exact z.ms ms (e.trans e2), ns, e'⟩
def tZ (K : PySem.W.Frag) (W : WF) (l : Addr) (g : SF) : TS := fun D σ H => ∃ h0 h ρ, h.H = H ∧ Rel K h ρ σ ∧ SG h0 h ∧ Ch h0 ∧ Zf h0 h l ∧ Post K W D h0 (g ρ)
theorem xthenZ {l : Addr} {st : Stmt} {rest : List Stmt} {f g : SF} (h1 : PS X st (tS X.K W f)) (h2 : PSs X rest (tZ X.K W l g)) : PSs X (st :: rest) (tZ X.K W l (seqS f g)) := by
  refine pssTo (pss_cons h1 h2) fun D σ H ⟨h0, h, ρ, e, R, g0, c0, zf, q⟩ => ?_
  subst e
  refine tS_mk R ?_
  unfold seqS at q
  cases ef : f ρ with
  | next ρ' =>
    rw [ef] at q
    exact fun σ' h' R' g' => ⟨h0, h', ρ', rfl, R', g0.trans g', c0, zf.sg g', q⟩
  | ret r => rw [ef] at q; exact Post.shift (r := .ret r) g0 q
  | brk ρ' => rw [ef] at q; exact Post.shift (r := .brk ρ') g0 q
  | cont ρ' => rw [ef] at q; exact Post.shift (r := .cont ρ') g0 q
  | exc c p ρ' => rw [ef] at q; exact Post.shift (r := .exc c p ρ') g0 q
  | bad => rw [ef] at q; exact q
/-- a statement that changes the list in slot i, no matter how -/
def sMut (i : Nat) : TS := fun D σ H => ∃ l ws, σ[i]? = some (some (.ref l)) ∧ H l = some (.lst ws) ∧ ws.length ≤ 100000 ∧ ∀ H', (∀ a o, a ≠ l → H a = some o → H' a = some o) → D.nx σ H'
theorem mutClear (i : Nat) {e : Expr} {spos : Pos} (he : PE X e (tBM0 X.K "list" rClear (tVar i))) (hs : swapsWith e none spos.line X.env = pure false := by rfl) : PS X (.Expr e spos) (sMut i) := by
  refine psTo (ps_expr he hs) fun D σ H ⟨l, ws, ex, hl, _, q⟩ => ?_
  exact ⟨.ref l, ex, .inl ⟨rfl, ws, .of hl⟩, l, ws, rfl, rfl, hl, q _ fun a o ne e => (upd_ne ne).trans e⟩
def wipeB (ρ : Env) : Env := ρ.map fun s => match s with
  | .b _ => .u
  | .y _ => .u
  | .z _ _ => .u
  | .e _ => .u
  | s => s
def endZ (i : Nat) (l : Addr) : SF := fun ρ => match slot ρ i with
  | .z l' (x :: xss) => if l' = l ∧ x.length < 100000 ∧ xss.length < 90000 then .next (wipeB ρ) else .bad
  | _ => .bad
end
end Sq

/-! The end and the beginning of such a stretch. -/
namespace Sq
open PySem PySem.Spec PyProof.Rows L2
section
variable {X : Cx} {W : WF} {K : PySem.W.Frag} {cm : Str → Addr} {h : Hs} {ρ : Env} {σ : L2.St}
theorem wipeB_get {i : Nat} {s : Sl} (e : (wipeB ρ)[i]? = some s) : s = .u ∨ (ρ[i]? = some s ∧ (∀ d, s ≠ .b d) ∧ (∀ d, s ≠ .y d) ∧ (∀ l d, s ≠ .z l d) ∧ ∀ d, s ≠ .e d) := by
  unfold wipeB at e
  rw [List.getElem?_map] at e
  obtain ⟨t, e1, e2⟩ := Option.map_eq_some_iff.mp e
  cases t <;> first | exact .inl e2.symm | (right; dsimp only at e2; subst e2; exact ⟨e1, (fun _ z => nomatch z), (fun _ z => nomatch z), (fun _ _ z => nomatch z), (fun _ z => nomatch z)⟩)
/-- what was seen is let go -/
theorem let_go {h0 : Hs} {l m : Addr} {H' : Hp} (R : Rel K h ρ σ) (g0 : SG h0 h) (c0 : Ch h0) (fl : h0.F l = none) (fm : h0.F m = none) (gl : h.G l = none) (gm : h.G m = none) (hl : ∃ o, h.F l = some o) (hm : ∃ o, h.F m = some o)
    (k : ∀ a o, a ≠ l → a ≠ m → h.H a = some o → H' a = some o) : ∃ h', h'.H = H' ∧ Rel K h' (wipeB ρ) σ ∧ SG h0 h' := by
  have sub : ∀ a o, (match h0.F a with | some o => some o | none => h.G a) = some o → h.F a = some o := fun a o e => by
    cases z : h0.F a with
    | none =>
      rw [z] at e
      exact R.ch.gf a o e
    | some u =>
      rw [z] at e
      cases e
      exact g0.f a _ z
  have ff : Ex (fun a => match h0.F a with | some o => some o | none => h.G a) h.F := sub
  refine ⟨⟨h.G, fun a => match h0.F a with | some o => some o | none => h.G a, H'⟩, rfl, ⟨⟨fun a o e => ?_, fun a o e => ?_⟩, by simp [wipeB, R.len], fun i s x e1 e2 => ?_, fun i j s t p q hij e1 e2 o1 o2 e3 e4 => ?_⟩, ⟨g0.g, fun a o e => ?_, g0.gn⟩⟩
  · show (match h0.F a with | some o => some o | none => h.G a) = some o
    cases z : h0.F a with
    | none => exact e
    | some u =>
      have e1 := R.ch.gf a o e
      rw [g0.f a u z] at e1
      exact e1
  · have e' : (match h0.F a with | some o => some o | none => h.G a) = some o := e
    refine k a o (fun z => ?_) (fun z => ?_) (R.ch.fh a o (sub a o e'))
    · subst z
      rw [fl] at e'
      rw [gl] at e'
      cases e'
    · subst z
      rw [fm] at e'
      rw [gm] at e'
      cases e'
  · rcases wipeB_get e1 with rfl | ⟨e1, nb, ny, nz, ne⟩
    · trivial
    · have q := R.at_ i s x e1 e2
      have nl : ∀ p, h.F p = none → p ≠ l ∧ p ≠ m := fun p fp => by
        refine ⟨fun z => ?_, fun z => ?_⟩
        · obtain ⟨o, e⟩ := hl
          rw [← z, fp] at e
          cases e
        · obtain ⟨o, e⟩ := hm
          rw [← z, fp] at e
          cases e
      cases s with
      | u => trivial
      | x a => exact q
      | v d => exact q
      | b d => exact absurd rfl (nb d)
      | y d => exact absurd rfl (ny d)
      | z a d => exact absurd rfl (nz a d)
      | e d => exact absurd rfl (ne d)
      | o ys =>
        obtain ⟨p, us, e, a, b, q⟩ := q
        exact ⟨p, us, e, k p _ (nl p b).1 (nl p b).2 a, ff.back b, q⟩
      | k ys =>
        obtain ⟨p, us, e, a, b, q⟩ := q
        exact ⟨p, us, e, k p _ (nl p b).1 (nl p b).2 a, ff.back b, q⟩
      | t ys =>
        obtain ⟨p, us, e, a, b, q⟩ := q
        exact ⟨p, us, e, k p _ (nl p b).1 (nl p b).2 a, ff.back b, q⟩
      | n ys =>
        obtain ⟨p, us, e, a, b, q⟩ := q
        exact ⟨p, us, e, k p _ (nl p b).1 (nl p b).2 a, ff.back b, q⟩
      | i c ys =>
        obtain ⟨p, us, dx, e, a, b, q⟩ := q
        exact ⟨p, us, dx, e, k p _ (nl p b).1 (nl p b).2 a, ff.back b, q⟩
      | j p c ys =>
        obtain ⟨us, dx, e, a, b, q⟩ := q
        exact ⟨us, dx, e, k p _ (nl p b).1 (nl p b).2 a, ff.back b, q⟩
  · have e1' : ρ[i]? = some s := by
      rcases wipeB_get e1 with rfl | ⟨e1, _⟩
      · cases o1
      · exact e1
    have e2' : ρ[j]? = some t := by
      rcases wipeB_get e2 with rfl | ⟨e2, _⟩
      · cases o2
      · exact e2
    exact R.dis i j s t p q hij e1' e2' o1 o2 e3 e4
  · show (match h0.F a with | some o => some o | none => h.G a) = some o
    rw [e]
theorem xendZ (i : Nat) {l : Addr} {g : SF} {n : Int} {e : Expr} {s4 : Stmt} {rest : List Stmt} {spos : Pos} (he : PE X e (tBM X.K "list" rAppend (tOp (rIx X.K) (tVar i) (tC (.int 0))) (tCons (tC (.int n)) tNil))) (h4 : PS X s4 (sMut i)) (hr : PSs X rest (tS X.K W g))
    (hs : swapsWith e none spos.line X.env = pure false := by rfl) : PSs X (.Expr e spos :: s4 :: rest) (tZ X.K W l (seqS (endZ i l) g)) := by
  refine pssTo (pss_cons (ps_expr he hs) (pss_cons h4 hr)) fun D σ H ⟨h0, h, ρ, eh, R, g0, c0, zf, q⟩ => ?_
  subst eh
  unfold seqS at q
  cases ez : endZ i l ρ with
  | next ρ' =>
    rw [ez] at q
    dsimp only at q
    unfold endZ at ez
    split at ez
    · rename_i l' x xss es
      split at ez
      · rename_i hc
        obtain ⟨rfl, hx, hxs⟩ := hc
        cases ez
        have ei := slot_some es (by intro z; cases z)
        obtain ⟨v, ex, ms, rfl, hl, gl, hy⟩ := R.get ei
        cases hy with
        | @cons m _ ms' _ hm ht =>
          obtain ⟨ws, fm, gm, hd⟩ := hm
          have hH := R.ch.fh _ _ hl
          have hM := R.ch.fh _ _ fm
          have hlen : ws.length = x.length := (hd h.G).len
          have f0 := zf.ms _ hl m List.mem_cons_self
          have hl1 : ∃ us, (upd h.H m (.lst (ws ++ [.int n]))) l' = some (.lst us) ∧ us.length ≤ 100000 := by
            by_cases z : l' = m
            · subst z
              exact ⟨_, upd_same, by simp [hlen]; omega⟩
            · refine ⟨_, (upd_ne z).trans hH, ?_⟩
              have := Ys.len ht
              simp [refsOf]
              omega
          obtain ⟨us, hu, hul⟩ := hl1
          refine ⟨.ref l', ex, .inl ⟨l', refsOf (m :: ms'), 0, .ref m, rfl, rfl, .of hH, (by unfold refsOf atI ixN; simp), .inl ⟨rfl, ws, .of hM⟩, m, ws, .int n, rfl, rfl, hM, ?_, l', us, ex, hu, hul, fun H' k => ?_⟩⟩
          · rw [hlen]
            exact Nat.lt_of_lt_of_le hx (by decide)
          · obtain ⟨h', e', R', g'⟩ := let_go (H' := H') R g0 c0 zf.f0 f0 gl gm ⟨_, hl⟩ ⟨_, fm⟩ fun a o n1 n2 e => k a o n1 ((upd_ne n2).trans e)
            exact ⟨h', _, e', R', Post.shift g' q⟩
      · cases ez
    · cases ez
  | bad => rw [ez] at q; exact q.elim
  | _ =>
    exfalso
    unfold endZ at ez
    split at ez
    · split at ez <;> cases ez
    · cases ez
/-- what is the same for each address -/
noncomputable def unif (F : Addr → Res) : Res := open Classical in if ∀ l, F l = F 0 then F 0 else .bad
theorem unif_eq {F : Addr → Res} {r : Res} (h : ∀ l, F l = r) : unif F = r := by
  unfold unif
  rw [if_pos (fun l => (h l).trans (h 0).symm)]
  exact h 0
noncomputable def scopeS (i : Nat) (g : List Sl → Fr) (r : AF) (k : Addr → SF) : SF := fun ρ => match r ρ with
  | .ok rs => match allV rs with
    | some ds => match g (ds.map Sl.v) with
      | .ret (.y xss) => unif fun l => k l (ρ.set i (.z l xss))
      | _ => .bad
    | none => .bad
  | _ => .bad
theorem argsV {H : Hp} : ∀ {vs : List V} {ds : List PyData}, DpAll K H vs ds → ArgsOk K H H vs (ds.map Sl.v)
  | _, _, .nil => trivial
  | _, _, .cons d t => ⟨d, argsV t⟩
theorem z_start {h : Hs} (c : Ch h) {l : Addr} {ms : List Addr} {xss : List (List PyData)} {G' H' : Hp} (cg : CG h.H h.H G' H') (n : h.H l = none) (a : H' l = some (.lst (refsOf ms))) (y : Ys K H' G' ms xss) :
    ∃ h', h'.H = H' ∧ Gr h h' ∧ Ch h' ∧ h'.F l = some (.lst (refsOf ms)) ∧ h'.G l = none ∧ Ys K h'.F h'.G ms xss ∧ ∀ m ∈ ms, h.H m = none := by
  have nm : ∀ m ∈ ms, h.H m = none := by
    have : ∀ {ms : List Addr} {xss : List (List PyData)}, Ys K H' G' ms xss → ∀ m ∈ ms, h.H m = none := by
      intro ms xss y
      induction y with
      | nil => exact fun m hm => nomatch hm
      | cons h1 _ ih =>
        intro m hm
        rcases List.mem_cons.mp hm with e | e
        · subst e
          obtain ⟨_, _, g, _⟩ := h1
          exact cg.g.back g
        · exact ih m e
    exact this y
  have fn : ∀ b, h.H b = none → h.F b = none := fun b e => c.fh.back e
  have gn : ∀ b, h.H b = none → h.G b = none := fun b e => c.gh.back e
  refine ⟨⟨h.G, fun b => match h.F b with | some o => some o | none => if b = l ∨ b ∈ ms then H' b else none, H'⟩, rfl, ⟨Ex.refl _, fun b o e => ?_, cg.h, fun b o e z => no_sm (show h.G b = some o from e) z, fun b o e z => ?_⟩, ⟨fun b o e => ?_, fun b o e => ?_⟩, ?_, gn l n, ?_, nm⟩
  · show (match h.F b with | some o => some o | none => if b = l ∨ b ∈ ms then H' b else none) = some o
    rw [e]
  · have e' : (match h.F b with | some o => some o | none => if b = l ∨ b ∈ ms then H' b else none) = some o := e
    rw [z] at e'
    dsimp only at e'
    split at e'
    · rename_i hb
      rcases hb with rfl | hb
      · exact n
      · exact nm b hb
    · cases e'
  · show (match h.F b with | some o => some o | none => if b = l ∨ b ∈ ms then H' b else none) = some o
    rw [c.gf b o e]
  · have e' : (match h.F b with | some o => some o | none => if b = l ∨ b ∈ ms then H' b else none) = some o := e
    cases z : h.F b with
    | some u =>
      rw [z] at e'
      cases e'
      exact cg.h b _ (c.fh b _ z)
    | none =>
      rw [z] at e'
      dsimp only at e'
      split at e'
      · exact e'
      · cases e'
  · show (match h.F l with | some o => some o | none => if l = l ∨ l ∈ ms then H' l else none) = _
    rw [fn l n]
    dsimp only
    rw [if_pos (.inl rfl)]
    exact a
  · have : ∀ {ns : List Addr} {xss : List (List PyData)}, (∀ m ∈ ns, m ∈ ms) → Ys K H' G' ns xss → Ys K (fun b => match h.F b with | some o => some o | none => if b = l ∨ b ∈ ms then H' b else none) h.G ns xss := by
      intro ns xss hs y
      induction y with
      | nil => exact .nil
      | @cons m _ _ _ h1 _ ih =>
        obtain ⟨vs, a1, a2, a3⟩ := h1
        have hm := hs m List.mem_cons_self
        refine .cons ⟨vs, ?_, gn m (nm m hm), a3⟩ (ih fun m' h' => hs m' (List.mem_cons_of_mem _ h'))
        show (match h.F m with | some o => some o | none => if m = l ∨ m ∈ ms then H' m else none) = _
        rw [fn m (nm m hm)]
        dsimp only
        rw [if_pos (.inr hm)]
        exact a1
    exact this (fun m h => h) y
theorem pss_all {sts : List Stmt} {T : Addr → TS} (h : ∀ l, PSs X sts (T l)) : PSs X sts (fun D σ H => ∃ l, T l D σ H) := ⟨fun pins s σ H D I ⟨l, hw⟩ => (h l).run pins s σ H D I hw⟩
theorem xscope (i : Nat) {k : Nat} {f : Addr} {fd : FuncData} {ps : List Str} {g : List Sl → Fr} {x y : Str} {p pos spos yp : Pos} {e : Expr} {es : List Expr} {r : AF} {rest : List Stmt} {kf : Addr → SF} (tk : Tk X cm W) (F : FnOk X.prog X.w X.K X.mg X.base (L2.CX X.prog X.w) k f fd ps (fsp X.K cm ps.length g)) (hr : Room k X.A) (hg : Gl X x) (hm : X.mg x = some (.ref f)) (hk : PySem.W.keepIn X.K (.ref f) = true) (hb : Binds X.K fd ps [])
    (hlen : ps.length = (e :: es).length) (ha : PA X (e :: es) (tXa X.K W r)) (hrl : ∀ ρ rs, r ρ = .ok rs → rs.length = (e :: es).length) (hN : X.N.Nodup) (hrest : ∀ l, PSs X rest (tZ X.K W l (kf l))) (hi : X.N[i]? = some y := by rfl) (hx : Loc X.env.scope y := by first | exact Or.inl rfl | exact Or.inr rfl) (hdb : (x == ("__debug__" : Str)) = false := by decide) (he : starEach (e :: es) X.env = (false, eval e X.env) :: starEach es X.env := by rfl) (hpl : (backTo pos (starEach es X.env)).any (·.1) = false := by rfl)
    (hs : swapsWith (.Call (.Name x p) (e :: es) [] pos) (some (.Name y yp)) spos.line X.env = pure false := by rfl) (hf : X.fn y = true ∨ X.env.scope.names.lookup y = some .local := by first | exact .inl rfl | exact .inr rfl | assumption) :
    PSs X (.Assign [.Name y yp] (.Call (.Name x p) (e :: es) [] pos) spos :: rest) (tS X.K W (scopeS i g r kf)) := by
  obtain ⟨Wx, tk, hW⟩ := tk
  have pc := pe_callS (pos := pos) (p := p) F hr hg hm hk hb (E := WE Wx) (fun σ => passAt tk σ) ha hdb he hpl
  refine pssTo (pss_cons (ps_set hN hi hx pc hs hf) (pss_all hrest)) fun D σ H ⟨h, ρ, eh, R, q⟩ => ?_
  subst eh
  unfold scopeS at q
  refine ⟨h, ρ, rfl, R, ?_⟩
  cases er : r ρ with
  | ok rs =>
    rw [er] at q
    dsimp only at q
    intro vs h1 R1 g1 ok1
    cases ea : allV rs with
    | none => rw [ea] at q; exact q.elim
    | some ds =>
      rw [ea] at q
      dsimp only at q
      have hd := ex_dpa R1.ch.gh (allV_ok R1.ch ea ok1)
      refine ⟨by rw [ok1.len, hrl ρ rs er, hlen], h1.H, ds.map Sl.v, Ex.refl _, argsV hd, ?_⟩
      cases eg : g (ds.map Sl.v) with
      | bad => rw [eg] at q; exact q.elim
      | exc c p => rw [eg] at q; exact q.elim
      | ret rr =>
        rw [eg] at q
        cases rr with
        | y xss =>
          dsimp only at q
          rintro v G' H' cg ⟨l, ms, rfl, n, a, gl, hy⟩
          obtain ⟨h2, e2, g2, c2, fl, gl2, hy2, nm⟩ := z_start R1.ch cg n a hy
          subst e2
          have R2 := R1.grow g2 c2
          have g02 := g1.trans g2
          have fn : ∀ b, h1.H b = none → h.F b = none := fun b e => g1.f.back (R1.ch.fh.back e)
          refine ⟨l, h, h2, ρ.set i (.z l xss), rfl, R2.set i ⟨ms, rfl, fl, gl2, hy2⟩ (fun _ _ _ z => by cases z), g02.sg, R.ch, ⟨fn l n, fun ns e m hm => ?_, ms, fl⟩, ?_⟩
          · rw [fl] at e
            have e' : refsOf ms = refsOf ns := by
              have := Option.some.inj e
              injection this
            have : m ∈ ms := by
              have h3 : V.ref m ∈ refsOf ns := List.mem_map.mpr ⟨m, hm, rfl⟩
              rw [← e'] at h3
              obtain ⟨m', h4, h5⟩ := List.mem_map.mp h3
              cases h5
              exact h4
            exact fn m (nm m this)
          · unfold unif at q
            split at q
            · rename_i hu
              rw [← hu l] at q
              exact q
            · exact q.elim
        | _ => exact q.elim
  | exc c p => rw [er] at q; exact q.elim
  | bad => rw [er] at q; exact q.elim
theorem mutApp (i : Nat) {e : Expr} {spos : Pos} (he : PE X e (tBM X.K "list" rAppend (tVar i) (tCons (tLst tNil) tNil))) (hs : swapsWith e none spos.line X.env = pure false := by rfl) : PS X (.Expr e spos) (sMut i) := by
  refine psTo (ps_expr he hs) fun D σ H ⟨l, ws, ex, hl, hz, q⟩ => ?_
  refine ⟨.ref l, ex, .inl ⟨rfl, ws, .of hl⟩, by decide, fun p hp => ?_⟩
  have hne : l ≠ p := fun z => by
    rw [z, hp] at hl
    cases hl
  refine ⟨l, ws, .ref p, rfl, rfl, (upd_ne hne).trans hl, Nat.lt_of_le_of_lt hz (by decide), q _ fun a o ne e => (upd_ne ne).trans ((upd_ne fun z => ?_).trans e)⟩
  rw [z, hp] at e
  cases e
theorem xfrzZ {l : Addr} {sts : List Stmt} {g : SF} (i : Nat) (h1 : PSs X sts (tZ X.K W l g)) : PSs X sts (tZ X.K W l (frzS i g)) := pssTo h1 fun D σ H ⟨h0, h, ρ, e, R, g0, c0, zf, q⟩ => by
  subst e
  obtain ⟨h', eh, R', g'⟩ := frzE_ok R i
  exact ⟨h0, h', _, eh, R', g0.trans g', c0, zf.sg g', q⟩
/-! ### a call that sees all as it is here and now, told a flat thing -/
def datL : List Rv → Option (List PyData)
  | [] => some []
  | r :: rs => r.dat.bind fun d => (datL rs).map (d :: ·)
def callH (g : List Sl → Fr) (r : AF) : EF := fun ρ => (r ρ).bind fun rs => match datL rs with
  | some ds => (match g (ds.map Sl.v) with
    | .ret (.v d) => if flatD d = true then .ok (.v d) else .bad
    | _ => .bad)
  | none => .bad
theorem datL_ok {h : Hs} (c : Ch h) : ∀ {vs : List V} {rs : List Rv} {ds : List PyData}, datL rs = some ds → RvsOk K h vs rs → DpAll K h.H vs ds
  | [], [], _, e, _ => by cases e; exact .nil
  | v :: vs, r :: rs, ds, e, q => by
    obtain ⟨d, e1, e2⟩ := Option.bind_eq_some_iff.mp e
    obtain ⟨ds', e3, rfl⟩ := Option.map_eq_some_iff.mp e2
    have tl : RvsOk K h vs rs ∧ Dp K h.H v d := by
      cases r with
      | v x => cases e1; exact ⟨q.2, ex_dp c.gh q.1⟩
      | b x => cases e1; exact ⟨q.2, ex_dp c.fh q.1⟩
      | r x => cases e1; exact ⟨q.2, q.1⟩
      | _ => exact q.1.elim
    exact .cons tl.2 (datL_ok c e3 tl.1)
  | [], _ :: _, _, _, q => q.elim
  | _ :: _, [], _, _, q => q.elim
theorem xcallH {k : Nat} {f : Addr} {fd : FuncData} {ps : List Str} {g : List Sl → Fr} {x : Str} {p pos : Pos} {e : Expr} {es : List Expr} {r : AF} (tk : Tk X cm W) (F : FnOk X.prog X.w X.K X.mg X.base (L2.CX X.prog X.w) k f fd ps (fsp X.K cm ps.length g)) (hr : Room k X.A) (hg : Gl X x) (hm : X.mg x = some (.ref f)) (hk : PySem.W.keepIn X.K (.ref f) = true) (hb : Binds X.K fd ps [])
    (hlen : ps.length = (e :: es).length) (ha : PA X (e :: es) (tXa X.K W r)) (hrl : ∀ ρ rs, r ρ = .ok rs → rs.length = (e :: es).length) (hdb : (x == ("__debug__" : Str)) = false := by decide) (he : starEach (e :: es) X.env = (false, eval e X.env) :: starEach es X.env := by rfl) (hpl : (backTo pos (starEach es X.env)).any (·.1) = false := by rfl) :
    PE X (.Call (.Name x p) (e :: es) [] pos) (tX X.K W (callH g r)) := by
  obtain ⟨Wx, tk, hW⟩ := tk
  refine peTo (pe_callS F hr hg hm hk hb (E := WE Wx) (fun σ => passAt tk σ) ha hdb he hpl) fun σ H Q q => ?_
  obtain ⟨h, ρ, rfl, R, q⟩ := tX_iff.mp q
  refine ⟨h, ρ, rfl, R, PE1.bindA q fun rs vs h1 er R1 g1 ok1 q1 => ?_⟩
  cases ed : datL rs with
  | none => rw [ed] at q1; exact q1.elim
  | some ds =>
    rw [ed] at q1
    dsimp only at q1
    refine ⟨by rw [ok1.len, hrl ρ rs er, hlen], h1.H, ds.map Sl.v, Ex.refl _, argsV (datL_ok R1.ch ed ok1), ?_⟩
    cases eg : g (ds.map Sl.v) with
    | bad => rw [eg] at q1; exact q1.elim
    | exc c p => rw [eg] at q1; exact q1.elim
    | ret rr =>
      rw [eg] at q1
      cases rr with
      | v d =>
        dsimp only at q1
        split at q1
        · rename_i hfl
          intro v G' H' cg ok'
          have gr : Gr h1 ⟨h1.G, h1.F, H'⟩ := ⟨Ex.refl _, Ex.refl _, cg.h, fun a o e z => no_sm (show h1.G a = some o from e) z, fun a o e z => no_sm (show h1.F a = some o from e) z⟩
          exact q1 v ⟨h1.G, h1.F, H'⟩ (R1.grow gr ⟨R1.ch.gf, R1.ch.fh.trans cg.h⟩) gr (dp_flatG hfl (show Dp X.K G' v d from ok'))
        · exact q1.elim
      | _ => exact q1.elim
end
end Sq

/-! Lists that stay for a while: taken over by extend, sorted. -/
namespace Sq
open PySem PySem.Spec PyProof.Rows L2
section
variable {X : Cx} {W : WF} {K : PySem.W.Frag}
/-- l.extend(m), m a list of flat things that stays for a while -/
def extF (i : Nat) (f : EF) : SF := fun ρ => match slot ρ i with
  | .o xs => thenS ρ (f ρ) fun r => match r with
    | .b (.list ys) => if flatL ys = true then (if xs.length + ys.length ≤ 100000 then .next (ρ.set i (.o (xs ++ ys))) else .bad) else .bad
    | _ => .bad
  | _ => .bad
theorem xextF (i : Nat) {e o : Expr} {f : EF} {pos apos spos : Pos} (he : PE X (.Call (.Attribute o "extend" apos) [e] [] pos) (tBM X.K "list" (rExtA X.K) (tVar i) (tCons (tX X.K W f) tNil))) (hs : swapsWith (.Call (.Attribute o "extend" apos) [e] [] pos) none spos.line X.env = pure false := by rfl) :
    PS X (.Expr (.Call (.Attribute o "extend" apos) [e] [] pos) spos) (tS X.K W (extF i f)) := by
  refine psTo (ps_expr he hs) fun D σ H ⟨h, ρ, eh, R, q⟩ => ?_
  subst eh
  unfold extF at q
  split at q
  · rename_i xs es
    obtain ⟨l, vs, ex, hl, hd, hlen, _⟩ := mut_now R es
    refine ⟨.ref l, ex, .inl ⟨rfl, vs, .of hl⟩, ?_⟩
    refine (tX_mk (f := f) R (q.then fun r v h' _ R' g' ok q' => ?_) : tX X.K W f σ h.H _)
    split at q'
    · split at q'
      · rename_i hf
        obtain ⟨p, ws, rfl, s, d⟩ := dp_lst ok
        exact ext_go R' es ex (ex_l R'.ch.fh s) (dpa_flat hf d _) g'.sg q'
      · exact q'.elim
    · exact q'.elim
  · exact q.elim
variable {f : EF} {a : Expr} {p pos : Pos}
def sortFR (a : Rv) : Er Rv := match a with
  | .b (.list ds) => if alikeB ds = true ∧ PyData.depthAll ds ≤ 60 ∧ (listsB ds || tupsB ds) = true then .ok (.b (.list (sortD ds))) else .bad
  | _ => .bad
theorem xsortedF (hu : X.A.units + 80 < cLine) (hg : Gl X "sorted") (hm : X.mg "sorted" = none) (ha : PE X a (tX X.K W f)) (hs : starEach [a] X.env = (false, eval a X.env) :: starEach [] X.env := by rfl) : PE X (.Call (.Name "sorted" p) [a] [] pos) (tX X.K W (unF sortFR f)) := by
  refine peTo (pe_callB (cr_sortDt hu) hg hm boot_sorted (pa_cons ha pa_nil hs) (he := hs)) (c1_of fun h0 h ρ σ x a Q R0 R g ok q => ?_)
  unfold sortFR at q
  split at q
  · rename_i ds
    split at q
    · rename_i hc2
      obtain ⟨hc2, hc3, hc4⟩ := hc2
      obtain ⟨l, vs, rfl, s, da⟩ := dp_lst ok
      have hal := alikeB_all hc2
      refine ⟨l, vs, ds, rfl, ex_l R.ch.fh s, ex_dpa R.ch.fh da, fun x hx y hy => hal.1 x hx y hy, ?_, hc3, fun p hp => ?_⟩
      · rw [Bool.or_eq_true] at hc4
        rcases hc4 with z | z
        · exact sortable_lists z
        · exact sortable_tups z
      · obtain ⟨z1, z2, z3⟩ := dpa_zip da
        have e2 : sortD ds = ((vs.zip ds).mergeSort (PySem.W.dataLe false fun z : VD => z.2)).map (·.2) := by
          unfold sortD
          conv => lhs; rw [← z3]
          exact (List.map_mergeSort (f := fun z : VD => z.2) fun a _ b _ => rfl).symm
        refine PE1.newLB (xs := sortD ds) q R ?_ hp
        rw [e2]
        exact dpa_pairs fun z hz => z1 z ((List.mergeSort_perm _ _).mem_iff.mp hz)
    · exact q.elim
  · exact q.elim
end
end Sq

/-! Several named clauses of one try. -/
namespace Sq
open PySem PySem.Spec PyProof.Rows L2
/-- the ends behind a named clause: its name is gone -/
def endN (i : Nat) (D : Ends) : Ends := { nx := fun σ H => D.nx (σ.set i none) H, rt := D.rt, bk := fun σ H => D.bk (σ.set i none) H, ct := fun σ H => D.ct (σ.set i none) H }
abbrev Cl := Value × Nat × (Addr → Value → Option Addr → TS)
/-- what the clauses wish of an exception, one after the other -/
def wCls (K : PySem.W.Frag) (Wout : WX) (D : Ends) : List Cl → WX
  | [] => Wout
  | (c, i, ts) :: r => fun cls d σ H => ∃ b, PySem.W.exmOne K cls c = some b ∧ (b = true → ∀ a, H a = none → ts a cls d (endN i D) (σ.set i (some (.ref a))) H) ∧ (b = false → wCls K Wout D r cls d σ H)
inductive ClsOk (X : Cx) : List ExceptHandler → List Cl → Prop
  | nil : ClsOk X [] []
  | cons {x n : Str} {i : Nat} {c : Value} {ts : Addr → Value → Option Addr → TS} {b₀ : Stmt} {suite : List Stmt} {np pos' : Pos} {hds : List ExceptHandler} {l : List Cl} (hc : Names X x c) (hi : X.N[i]? = some n) (hl : X.env.kindOf n = some .local)
      (hsu : ∀ (a : Addr) (oe : Obj) (cls : Value) (d : Option Addr) (pn : List (Addr × Obj)), Zc cls d oe → (∃ vs, oe.data = .fields vs) → PSs (X.suite a ((a, oe) :: pn)) (b₀ :: suite) (ts a cls d)) (r : ClsOk X hds l) :
      ClsOk X (.ExceptHandler (some (.Name x np)) (some n) (b₀ :: suite) pos' :: hds) ((c, i, ts) :: l)
section
variable {X : Cx} {body : List Stmt} {h₀ : ExceptHandler} {hds : List ExceptHandler} {l : List Cl} {pos : Pos} {tb : WX → TS} {Wout : WX}
theorem ps_try_cls (hs : X.stack = X.env :: X.outer) (hf : X.env.frame = some X.env.locals) (hN : X.N.Nodup) (tk : Takes X Wout)
    (hb : ∀ (W : WX) (pn : List (Addr × Obj)) (xe : Value → Shared → Prop), Takes (X.tr pn xe) W → PassesOwn (model X.prog X.w) X.A X.env xe → PSs (X.tr pn xe) body (tb W))
    (hh : ClsOk X (h₀ :: hds) l) : PS X (.Try body (h₀ :: hds) [] [] pos) (fun D σ H => tb (wCls X.K Wout D l) D σ H) := by
  refine ⟨fun pins s σ H D I h => ?_⟩
  have ok := I.ok
  have hfr : X.A.frames = some (X.env :: X.outer) := by rw [ok.frames, hs]
  refine wpAny_Try_except ?_
  refine wpAny_mono ((hb (wCls X.K Wout D l) (X.pn ++ pins) (fun e s₁ => wpAny (model X.prog X.w) X.A (noteFrame e X.env) (fun _ s₂ => wpAny (model X.prog X.w) X.A (setFlight e none) (fun _ s₃ =>
    wpAny (model X.prog X.w) X.A (handleBy e X.env (h₀ :: hds)) (SP X pins D) X.xe s₃) X.xe s₂) X.xe s₁) (fun u s' xx => ?_) PassesOwn.looking).run [] s σ H D (I.toTry _) h) (fun f s1 hsp => ?_) (fun e s1 he => he)
  · obtain ⟨a, B, sI, pins', σ', H', cls, d, rfl, J', nb, up, sky, na, os, ag, w⟩ := xx
    have J : Inv X pins σ' H' sI := J'.ofTry ok
    have sky' : Sky B (X.env :: X.outer) a (Zc cls d) X.env.locals s'.heap := by rw [← hs]; exact sky
    show wpAny (model X.prog X.w) X.A (noteFrame (.ref a) X.env) _ _ _
    refine Sky.land Zc.steady hfr hf sky' fun h3 fl3 up3 => ?_
    have J3 : Inv X pins σ' H' { s' with heap := h3 } := J.landed nb fl3.1 (up.trans up3) os ag
    obtain ⟨oe3, vs3, he3, hz3, hd3⟩ := fl3.there
    have nfr : a ∉ frs (X.env :: X.outer) := fun hm => by
      obtain ⟨_, o', e', hnf⟩ := fl3.2.2.1.mem hm
      rw [he3] at e'
      cases e'
      exact hnf _ hd3
    have nL : a ≠ X.env.locals := fun z => nfr (List.mem_filterMap.mpr ⟨X.env, List.mem_cons_self, by rw [hf, z]⟩)
    have nF : a ∉ X.fs := fun hm => by
      obtain ⟨e, he, q⟩ := List.mem_filterMap.mp hm
      exact nfr (List.mem_filterMap.mpr ⟨e, List.mem_cons_of_mem _ he, q⟩)
    have S3 := J3.suite he3 hd3 na nL nF
    have go : ∀ {hds' : List ExceptHandler} {l' : List Cl}, ClsOk X hds' l' → wCls X.K Wout D l' cls d σ' H' →
        wpAny (model X.prog X.w) X.A (handleBy (.ref a) X.env hds') (SP X pins D) X.xe { s' with heap := h3 } := by
      intro hds' l' hk
      induction hk with
      | nil =>
        intro w
        refine wpAny_handleBy_nil ?_
        obtain ⟨k1, k2, k3, oe, vs, T, oT, ts', he, hz, hd, h1, hr⟩ := id fl3
        unfold PySem.passOn
        refine wpAny_bind (wpAny_field he hd h1 ?_)
        rw [if_neg (show ¬ ((Value.ref T == Value.none) = true) from by simp)]
        have fin : wpAny (model X.prog X.w) X.A (setFlight (.ref a) X.env.frame) (fun _ s4 => wpAny (model X.prog X.w) X.A (throw (.ref a) : Sem Flow) (SP X pins D) X.xe s4) X.xe { s' with heap := h3 } := by
          rw [hf]
          refine HandSPX.setFlight_upZ fl3 fun h4 hh4 up4 => wpAny_throw (tk _ _ ?_)
          exact ⟨a, B, sI, pins, σ', H', cls, d, rfl, J, nb, (up.trans up3).trans up4, .inr (.inr (by rw [hs]; exact hh4)), na, os, ag, w⟩
        first
          | exact wpAny_bind (wpAny_pure (wpAny_bind fin))
          | exact wpAny_bind fin
      | @cons x n i c ts b₀ suite np pos' hds2 l2 hc hi hln hsu r ih =>
        intro w
        obtain ⟨b, hb1, hyes, hno⟩ := w
        refine wpAny_handleBy_cons (codeAny_handlers_test ?_) (by intro q; cases q)
        have LT : PySem.W.Looks (model X.prog X.w) h3 (typeOf (.ref a)) cls := fun A Q E s k q => wpAny_typeOf_ref (k _ _ he3) (by rw [hz3.1]; exact q)
        have LM := PySem.W.exm_one (M := model X.prog X.w) (J3.kIn) LT hb1
        have test : ∀ {Q : Value → Shared → Prop} {E : Value → Shared → Prop}, Q c { s' with heap := h3 } → wpAny (model X.prog X.w) (X.A.mark (some (.ref a))) (eval (.Name x np) X.env) Q E { s' with heap := h3 } := fun {Q E} q => by
          obtain ⟨hg, hdbg, hm | ⟨hm, hv, hnn⟩⟩ := hc
          · exact ld_glob (X := X.suite a ((a, oe3) :: (X.pn ++ pins))) S3 hg hm q hdbg
          · exact ld_blt (X := X.suite a ((a, oe3) :: (X.pn ++ pins))) S3 hg hm hv q hnn hdbg
        refine test (LM.here ?_)
        cases b with
        | true =>
          refine codeAny_handlers_suite_as ?_
          refine HandSPX.lands_againZ fl3 fun h4 fl4 up4 => ?_
          have J4 : Inv X pins σ' H' { s' with heap := h4 } := J.landed nb fl4.1 ((up.trans up3).trans up4) os ag
          obtain ⟨oe4, vs4, he4, hz4, hd4⟩ := fl4.there
          have S4 := J4.suite he4 hd4 na nL nF
          refine store_ok (X := X.suite a ((a, oe4) :: (X.pn ++ pins))) (v := .ref a) S4 hN hi (.inl hln) rfl (fun s5 S5 => ?_) (.inr hln)
          refine wpAny_mono ((hsu a oe4 cls d (X.pn ++ pins) hz4 ⟨_, hd4⟩).run [] s5 _ H' _ S5 (hyes rfl a na)) (fun f s6 hsp => ?_) (fun _ _ z => False.elim z)
          have end_ : ∀ {σ6 : L2.St} {H6 : Hp} {Q : Shared → Prop}, Inv (X.suite a ((a, oe4) :: (X.pn ++ pins))) [] σ6 H6 s6 → (∀ s7, Inv X pins (σ6.set i none) H6 s7 → Q s7) →
              wpAny (model X.prog X.w) X.A (do bindName X.env n .none; unbindBehindTheSuite X.env n pos') (fun _ s7 => Q s7) X.xe s6 := fun {σ6 H6 Q} S6 hq => gone_ok (S6.unsuite ok) hN hi hln hq
          cases f with
          | next =>
            obtain ⟨σ6, H6, S6, q6⟩ := hsp
            exact end_ S6 fun s7 J7 => ⟨_, _, J7, q6⟩
          | brk =>
            obtain ⟨σ6, H6, S6, q6⟩ := hsp
            exact end_ S6 fun s7 J7 => ⟨_, _, J7, q6⟩
          | cont =>
            obtain ⟨σ6, H6, S6, q6⟩ := hsp
            exact end_ S6 fun s7 J7 => ⟨_, _, J7, q6⟩
          | ret u =>
            obtain ⟨v6, σ6, H6, S6, r6, q6⟩ := hsp
            exact end_ S6 fun s7 J7 => ⟨_, _, _, J7, r6, q6⟩
        | false =>
          show wpAny _ X.A (handleBy (.ref a) X.env hds2) _ _ _
          exact ih (hno rfl)
    exact go hh w
  · cases f with
    | next =>
      obtain ⟨σ', H', J', q⟩ := hsp
      exact wpAny_execs_nil ⟨σ', H', J'.ofTry ok, q⟩
    | brk =>
      obtain ⟨σ', H', J', q⟩ := hsp
      exact ⟨σ', H', J'.ofTry ok, q⟩
    | cont =>
      obtain ⟨σ', H', J', q⟩ := hsp
      exact ⟨σ', H', J'.ofTry ok, q⟩
    | ret u =>
      obtain ⟨v, σ', H', J', r, q⟩ := hsp
      exact ⟨v, σ', H', J'.ofTry ok, r, q⟩
end
end Sq

/-! Several named clauses, as rows. -/
namespace Sq
open PySem PySem.Spec PyProof.Rows L2
abbrev ClS := (Str → Option Bool) × Nat × (Str → Addr → SF)
def goC : List ClS → Str → Env → Res
  | [], c, ρ => .exc c none ρ
  | (m, i, g) :: r, c, ρ => match m c with
    | some true => if i < ρ.length then wipeRes i (g c 0 (ρ.set i (.x 0))) else .bad
    | some false => goC r c ρ
    | none => .bad
def tryC (f : SF) (l : List ClS) : SF := fun ρ => match f ρ with
  | .exc c none ρ' => goC l c ρ'
  | .exc _ (some _) _ => .bad
  | r => r
section
variable {X : Cx} {W : WF} {cm : Str → Addr}
/-- the clauses as rows, one by one -/
inductive ClsS (X : Cx) (cm : Str → Addr) : List ExceptHandler → List Cl → List ClS → Prop
  | nil : ClsS X cm [] [] []
  | cons {x n : Str} {i : Nat} {c : Value} {b₀ : Stmt} {suite : List Stmt} {np pos' : Pos} {hds : List ExceptHandler} {l : List Cl} {s : List ClS} {g : Str → Addr → SF} {yes no : List Str} (hc : Names X x c) (hi : X.N[i]? = some n) (hl : X.env.kindOf n = some .local)
      (hy : ∀ d ∈ yes, PySem.W.exmOne X.K (.ref (cm d)) c = some true) (hn : ∀ d ∈ no, PySem.W.exmOne X.K (.ref (cm d)) c = some false)
      (hsu : ∀ d ∈ yes, ∀ (a : Addr) (oe : Obj) (pn : List (Addr × Obj)), Zc (.ref (cm d)) none oe → (∃ vs, oe.data = .fields vs) → PSs (X.suite a ((a, oe) :: pn)) (b₀ :: suite) (tS X.K WN (g d a)))
      (hbl : ∀ d ∈ yes, BlS i (g d)) (r : ClsS X cm hds l s) :
      ClsS X cm (.ExceptHandler (some (.Name x np)) (some n) (b₀ :: suite) pos' :: hds) ((c, i, fun a cls d => fun D σ H => ∃ e, e ∈ yes ∧ cls = .ref (cm e) ∧ d = none ∧ tS X.K WN (g e a) D σ H) :: l) ((mL yes no, i, g) :: s)
theorem ClsS.ok {hds : List ExceptHandler} {l : List Cl} {s : List ClS} (h : ClsS X cm hds l s) : ClsOk X hds l := by
  induction h with
  | nil => exact .nil
  | cons hc hi hl hy hn hsu hbl r ih =>
    exact .cons hc hi hl (fun a oe cls d pn hz hfl => ⟨fun pins s σ H D I hw => by
      obtain ⟨e, he, rfl, rfl, hw⟩ := hw
      exact (hsu e he a oe pn hz hfl).run pins s σ H D I hw⟩) ih
theorem cls_post {Wx : WX} (hW : ∀ c p σ h, W c p σ h → WFx X.K cm Wx c p σ h) {D : Ends} {h : Hs} {σ : L2.St} {ρ : Env} {c : Str} (R : Rel X.K h ρ σ) {hds : List ExceptHandler} {l : List Cl} {s : List ClS} (k : ClsS X cm hds l s) : Post X.K W D h (goC s c ρ) → wCls X.K Wx D l (.ref (cm c)) none σ h.H := by
  induction k with
  | nil => exact fun q => hW _ _ _ _ (q σ h R (SG.refl h))
  | @cons x n i cv b₀ suite np pos' hds l s g yes no hc hi hl hy hn hsu hbl r ih =>
    intro q
    unfold goC at q
    cases em : mL yes no c with
    | none => rw [em] at q; exact q.elim
    | some b =>
      rw [em] at q
      have hx := mL_exm hy hn em
      cases b with
      | false => exact ⟨false, hx, fun z => (nomatch z), fun _ => ih q⟩
      | true =>
        dsimp only at q
        split at q
        rotate_left
        · exact q.elim
        refine ⟨true, hx, fun _ a _ => ⟨c, mL_yes em, rfl, rfl, h, ρ.set i (.x a), rfl, R.x i a, ?_⟩, fun z => nomatch z⟩
        rw [hbl c (mL_yes em) a ρ]
        cases eg : g c 0 (ρ.set i (.x 0)) with
        | next ρ2 =>
          rw [eg] at q
          exact fun σ2 h2 R2 g2 => q _ h2 (by
            have := R2.u i none
            rw [List.set_set] at this
            exact this) g2
        | ret r => rw [eg] at q; exact q
        | _ => rw [eg] at q; exact q.elim
theorem xtryC {body : List Stmt} {h₀ : ExceptHandler} {hds : List ExceptHandler} {pos : Pos} {f : SF} {l : List Cl} {s : List ClS} (tk : Tk X cm W) (hs : X.stack = X.env :: X.outer) (hf : X.env.frame = some X.env.locals) (hN : X.N.Nodup)
    (hb : ∀ (Wx : WX) (pn : List (Addr × Obj)) (xe : Value → Shared → Prop), Tk (X.tr pn xe) cm (WFx X.K cm Wx) → PassesOwn (model X.prog X.w) X.A X.env xe → PSs (X.tr pn xe) body (tS X.K (WFx X.K cm Wx) f))
    (hh : ClsS X cm (h₀ :: hds) l s) : PS X (.Try body (h₀ :: hds) [] [] pos) (tS X.K W (tryC f s)) := by
  obtain ⟨Wx, tk, hW⟩ := tk
  refine psTo (ps_try_cls (tb := fun Wx => tS X.K (WFx X.K cm Wx) f) hs hf hN tk (fun Wx pn xe tk hpo => hb Wx pn xe (tkOf tk) hpo) hh.ok) fun D σ H hq => ?_
  obtain ⟨h, ρ, e, R, q⟩ := id hq
  subst e
  refine ⟨h, ρ, rfl, R, ?_⟩
  unfold tryC at q
  cases ef : f ρ with
  | next ρ' => rw [ef] at q; exact q
  | ret r => rw [ef] at q; exact q
  | brk ρ' => rw [ef] at q; exact q
  | cont ρ' => rw [ef] at q; exact q
  | bad => rw [ef] at q; exact q.elim
  | exc d p ρ' =>
    rw [ef] at q
    intro σ' h' R' g'
    cases p with
    | none => exact cls_post hW R' hh (Post.shift g' q)
    | some p => exact q.elim
end
end Sq

/-! Dicts whose keys are nested tuples of ints. -/
namespace Sq
open PySem PySem.Spec PyProof.Rows L2
mutual
theorem nk_hash : ∀ {d : D} {k : NestedKey}, nk d = some k → ∀ w w', k.hash w = k.hash w'
  | .int i, k, e, w, w' => by
    unfold nk at e
    cases e
    rfl
  | .tuple ds, k, e, w, w' => by
    unfold nk at e
    obtain ⟨ks, e1, rfl⟩ := Option.map_eq_some_iff.mp e
    rw [NestedKey.hash, NestedKey.hash, nkA_hash e1 w w']
  | .none, k, e, w, w' => by unfold nk at e; cases e
  | .bool _, k, e, w, w' => by unfold nk at e; cases e
  | .str _, k, e, w, w' => by unfold nk at e; cases e
  | .list _, k, e, w, w' => by unfold nk at e; cases e
  | .dict _, k, e, w, w' => by unfold nk at e; cases e
theorem nkA_hash : ∀ {ds : List D} {ks : List NestedKey}, nkA ds = some ks → ∀ w w', NestedKey.hashes w ks = NestedKey.hashes w' ks
  | [], ks, e, w, w' => by
    unfold nkA at e
    cases e
    rfl
  | d :: ds, ks, e, w, w' => by
    unfold nkA at e
    split at e
    · rename_i k ks' e1 e2
      cases e
      rw [NestedKey.hashes, NestedKey.hashes, nk_hash e1 w w', nkA_hash e2 w w']
    · cases e
end
mutual
theorem nk_data : ∀ {d : D} {k : NestedKey}, nk d = some k → k.data = d
  | .int i, k, e => by
    unfold nk at e
    cases e
    rfl
  | .tuple ds, k, e => by
    unfold nk at e
    obtain ⟨ks, e1, rfl⟩ := Option.map_eq_some_iff.mp e
    rw [NestedKey.data, nkA_data e1]
  | .none, k, e => by unfold nk at e; cases e
  | .bool _, k, e => by unfold nk at e; cases e
  | .str _, k, e => by unfold nk at e; cases e
  | .list _, k, e => by unfold nk at e; cases e
  | .dict _, k, e => by unfold nk at e; cases e
theorem nkA_data : ∀ {ds : List D} {ks : List NestedKey}, nkA ds = some ks → NestedKey.datas ks = ds
  | [], ks, e => by
    unfold nkA at e
    cases e
    rfl
  | d :: ds, ks, e => by
    unfold nkA at e
    split at e
    · rename_i k ks' e1 e2
      cases e
      rw [NestedKey.datas, nk_data e1, nkA_data e2]
    · cases e
end
theorem nkA_cons {d : D} {ds : List D} {ks : List NestedKey} (e : nkA (d :: ds) = some ks) : ∃ k ks', nk d = some k ∧ nkA ds = some ks' ∧ ks = k :: ks' := by
  unfold nkA at e
  split at e
  · rename_i k ks' e1 e2
    cases e
    exact ⟨k, ks', e1, e2, rfl⟩
  · cases e
mutual
theorem nk_eqv : ∀ {d e : D} {k q : NestedKey}, nk d = some k → nk e = some q → PyData.eqv d e = NestedKey.beq k q
  | .int i, e, k, q, h1, h2 => by
    unfold nk at h1
    cases h1
    cases e with
    | int j => unfold nk at h2; cases h2; rw [PyData.eqv, NestedKey.beq]; by_cases h : i = j <;> simp [h]
    | tuple es => unfold nk at h2; obtain ⟨ks, e1, rfl⟩ := Option.map_eq_some_iff.mp h2; rw [PyData.eqv, NestedKey.beq]
    | _ => unfold nk at h2; cases h2
  | .tuple ds, e, k, q, h1, h2 => by
    unfold nk at h1
    obtain ⟨ks, e1, rfl⟩ := Option.map_eq_some_iff.mp h1
    cases e with
    | int j => unfold nk at h2; cases h2; rw [PyData.eqv, NestedKey.beq]
    | tuple es =>
      unfold nk at h2
      obtain ⟨qs, e2, rfl⟩ := Option.map_eq_some_iff.mp h2
      rw [PyData.eqv, NestedKey.beq]
      exact nkA_eqv e1 e2
    | _ => unfold nk at h2; cases h2
  | .none, _, k, _, e, _ => by unfold nk at e; cases e
  | .bool _, _, k, _, e, _ => by unfold nk at e; cases e
  | .str _, _, k, _, e, _ => by unfold nk at e; cases e
  | .list _, _, k, _, e, _ => by unfold nk at e; cases e
  | .dict _, _, k, _, e, _ => by unfold nk at e; cases e
theorem nkA_eqv : ∀ {ds es : List D} {ks qs : List NestedKey}, nkA ds = some ks → nkA es = some qs → PyData.eqvAll ds es = NestedKey.beqAll ks qs
  | [], [], ks, qs, h1, h2 => by
    unfold nkA at h1 h2
    cases h1
    cases h2
    rfl
  | [], e :: es, ks, qs, h1, h2 => by
    unfold nkA at h1 h2
    split at h2
    · cases h1
      cases h2
      rw [PyData.eqvAll, NestedKey.beqAll]
    · cases h2
  | d :: ds, [], ks, qs, h1, h2 => by
    unfold nkA at h1 h2
    split at h1
    · cases h1
      cases h2
      rw [PyData.eqvAll, NestedKey.beqAll]
    · cases h1
  | d :: ds, e :: es, ks, qs, h1, h2 => by
    obtain ⟨k, ks', a1, a2, rfl⟩ := nkA_cons h1
    obtain ⟨q, qs', b1, b2, rfl⟩ := nkA_cons h2
    rw [PyData.eqvAll, NestedKey.beqAll, nk_eqv a1 b1, nkA_eqv a2 b2]
end
section
variable {P : Program} {w : World} {K : PySem.W.Frag} {H : Hp} {h : Heap}
mutual
theorem nk_is (ok : HOk P w H h) : ∀ {v : V} {d : D} {k : NestedKey} {u : Value}, Dp K H v d → nk d = some k → RelV v u → NestedIs h k u
  | _, _, k, u, .int i, e, r => by
    unfold nk at e
    cases e
    obtain ⟨t, rfl⟩ := r
    exact .int _ _
  | _, _, k, u, .tup (a := a) (ds := ds) hf hn ha, e, r => by
    unfold nk at e
    obtain ⟨ks, e1, rfl⟩ := Option.map_eq_some_iff.mp e
    cases (show u = Value.ref a from r)
    obtain ⟨_, _, its, rv, o, ho, hc, n, hd⟩ := ok a _ hf
    exact .tup ho hc hd (by simpa using nkA_is ok ha e1 rv)
  | _, _, k, u, .non, e, r => by unfold nk at e; cases e
  | _, _, k, u, .bl _, e, r => by unfold nk at e; cases e
  | _, _, k, u, .str _, e, r => by unfold nk at e; cases e
  | _, _, k, u, .lst _ _, e, r => by unfold nk at e; cases e
  | _, _, k, u, .obj _ _, e, r => by unfold nk at e; cases e
theorem nkA_is (ok : HOk P w H h) : ∀ {vs : List V} {ds : List D} {ks : List NestedKey} {us : List Value}, DpAll K H vs ds → nkA ds = some ks → Vals vs us → NestedAll h ks us
  | _, _, ks, us, .nil, e, r => by
    unfold nkA at e
    cases e
    cases r
    exact .nil
  | _, _, ks, us, .cons hd ht, e, r => by
    unfold nkA at e
    split at e
    · rename_i k ks' e1 e2
      cases e
      cases r with
      | cons r1 r2 => exact .cons (nk_is ok hd e1 r1) (nkA_is ok ht e2 r2)
    · cases e
end
/-- an entry with its key -/
def NkX (K : PySem.W.Frag) (H : Hp) (x : NestedKey × Addr × Value) (d : D) : Prop := nk d = some x.1 ∧ x.1.depth ≤ 8 ∧ Dp K H (.ref x.2.1) d
theorem nk_entries {es : List DictEntry} {ks : List D} (h : Paired (NkAt K H) es ks) : ∃ xs : List (NestedKey × Addr × Value), es = xs.map (entryOfKey (nestedKind P w)) ∧ Paired (NkX K H) xs ks := by
  induction h with
  | nil => exact ⟨[], rfl, .nil⟩
  | @cons e d es ks q t ih =>
    obtain ⟨a, k, v, h1, h2, h3, h4⟩ := q
    obtain ⟨xs, e1, e2⟩ := ih
    exact ⟨(k, a, v) :: xs, by rw [e1, h3 w]; rfl, .cons ⟨h1, h2, h4⟩ e2⟩
theorem nkx_data {xs : List (NestedKey × Addr × Value)} {ks : List D} (h : Paired (NkX K H) xs ks) : ks = xs.map fun x => x.1.data := by
  induction h with
  | nil => rfl
  | cons q t ih => rw [List.map_cons, nk_data q.1, ← ih]
theorem nkx_nodup {xs : List (NestedKey × Addr × Value)} {ks : List D} (h : Paired (NkX K H) xs ks) (hn : ks.Nodup) : (xs.map (·.1)).Nodup := by
  rw [nkx_data h] at hn
  have : xs.map (fun x => x.1.data) = (xs.map (·.1)).map NestedKey.data := by simp
  rw [this] at hn
  exact List.Pairwise.of_map NestedKey.data (fun a b hab e => hab (by rw [e])) hn
theorem nkx_at {xs : List (NestedKey × Addr × Value)} {ks : List D} (h : Paired (NkX K H) xs ks) {d : D} {k : NestedKey} (e : nk d = some k) : (atKey xs k).isSome = ks.any fun z => PyData.eqv z d := by
  induction h with
  | nil => rfl
  | @cons x z xs ks q t ih =>
    rw [List.any_cons, ← ih, nk_eqv q.1 e]
    unfold atKey
    rw [List.find?_cons, NestedKey.decide_eq]
    cases NestedKey.beq x.1 k <;> simp
theorem n_dict {l : Addr} {es : List DictEntry} {ks : List D} (ok : HOk P w H h) (e : H l = some (nHO l es)) (q : NkOk K H es ks) : (l == sysModules) = false ∧ ∃ xs, h.DictOfH (nestedKind P w) l xs ∧ es = xs.map (entryOfKey (nestedKind P w)) ∧ Paired (NkX K H) xs ks := by
  obtain ⟨⟨hl, o, ep, ho, hx, hd⟩, _, _⟩ := ok l _ e
  obtain ⟨xs, ex, hp⟩ := nk_entries (P := P) (w := w) q.1
  refine ⟨hl, xs, ⟨o, _, ep, ho, hx, hd, by rw [ex], fun x hm => ?_, nkx_nodup hp q.2.1⟩, ex, hp⟩
  have : ∀ {xs : List (NestedKey × Addr × Value)} {ks : List D}, Paired (NkX K H) xs ks → ∀ x ∈ xs, (nestedKind P w).is h x.1 x.2.1 := fun {xs ks} hp => by
    induction hp with
    | nil => exact fun x hm => nomatch hm
    | cons q t ih =>
      intro x hm
      rcases List.mem_cons.mp hm with rfl | hm
      · exact ⟨nk_is ok q.2.2 q.1 rfl, q.2.1⟩
      · exact ih x hm
  exact this hp x hm
theorem n_new {l : Addr} {xs : List (NestedKey × Addr × Value)} {H' : Hp} (hl : (l == sysModules) = false) (dd : h.DictOfH (nestedKind P w) l xs) : ObjOk P w H' h l (nHO l (xs.map (entryOfKey (nestedKind P w)))) := by
  obtain ⟨o, es, ep, ho, hx, hd, he, _, _⟩ := dd
  have hes : es = (xs.map (entryOfKey (nestedKind P w))).toArray := by rw [← he]
  refine ⟨⟨hl, o, ep, ho, hx, by rw [hd, hes]⟩, ⟨o, ho⟩, fun h1 h2 q k => ?_⟩
  obtain ⟨q1, o, ep, q2, q3, q4⟩ := q
  exact ⟨q1, o, ep, k _ q2, q3, q4⟩
end
/-- a key: a nested tuple of ints, not deep -/
def nkB (d : D) : Bool := match d, nk d with
  | .tuple _, some k => decide (k.depth ≤ 8)
  | _, _ => false
theorem nkB_of {d : D} (e : nkB d = true) : ∃ k, nk d = some k ∧ k.depth ≤ 8 ∧ ∃ ds, d = .tuple ds := by
  unfold nkB at e
  split at e
  · rename_i ds k ek
    exact ⟨k, ek, of_decide_eq_true e, ds, rfl⟩
  · cases e
theorem dp_tupref {K : PySem.W.Frag} {H : Hp} {v : V} {ds : List D} (h : Dp K H v (.tuple ds)) : ∃ a, v = .ref a := by
  cases h
  exact ⟨_, rfl⟩
/-! ### in -/
def inN (n : Bool) (a b : Rv) : Er Rv := match a.dat, b with
  | some d, .wn ks => if nkB d = true then .ok (.v (.bool (if n then !(ks.any fun z => PyData.eqv z d) else ks.any fun z => PyData.eqv z d))) else .bad
  | _, _ => .bad
def rInN (K : PySem.W.Frag) (n : Bool) : R2 := fun x y H Q => ∃ a d k l es ks, x = .ref a ∧ y = .ref l ∧ Dp K H x d ∧ nk d = some k ∧ k.depth ≤ 8 ∧ H l = some (nHO l es) ∧ NkOk K H es ks ∧ Q (.bl (if n then !(ks.any fun z => PyData.eqv z d) else ks.any fun z => PyData.eqv z d)) H
section
variable {X : Cx} {W : WF} {K : PySem.W.Frag} {f g : EF} {a b e : Expr} {pos : Pos}
theorem op_inN (hu : X.A.units + 80 < cLine) : OpR X (compareOp .In) (rInN X.K false) := by
  intro pins s σ H x y v u Q I rx ry h
  obtain ⟨ax, d, k, l, es, ks, rfl, rfl, hd, hk, hdp, hl, hn, q⟩ := h
  cases (show v = Value.ref ax from rx)
  cases (show u = Value.ref l from ry)
  obtain ⟨hs, xs, dd, _, hp⟩ := n_dict I.hok hl hn
  refine wpAny_in_heap (knd := nestedKind X.prog X.w) (k := k) (show X.A.in1.units + 8 < cLine from by show X.A.units + 1 + 8 < cLine; omega) ⟨nk_is I.hok hd hk rfl, hdp⟩ hs dd ?_
  rw [nkx_at hp hk]
  exact ⟨.bl _, H, I.tok _, rfl, q⟩
theorem op_notInN (hu : X.A.units + 80 < cLine) : OpR X (compareOp .NotIn) (rInN X.K true) := by
  intro pins s σ H x y v u Q I rx ry h
  obtain ⟨ax, d, k, l, es, ks, rfl, rfl, hd, hk, hdp, hl, hn, q⟩ := h
  cases (show v = Value.ref ax from rx)
  cases (show u = Value.ref l from ry)
  obtain ⟨hs, xs, dd, _, hp⟩ := n_dict I.hok hl hn
  refine wpAny_notIn_heap (knd := nestedKind X.prog X.w) (k := k) (show X.A.in1.units + 8 < cLine from by show X.A.units + 1 + 8 < cLine; omega) ⟨nk_is I.hok hd hk rfl, hdp⟩ hs dd ?_
  rw [nkx_at hp hk]
  exact ⟨.bl _, H, I.tok _, rfl, q⟩
theorem ok_inN {n : Bool} : OpOk K W (inN n) (rInN K n) := by
  intro h0 h ρ σ x y a b Q R0 R g oka okb q
  unfold inN at q
  split at q
  · rename_i d ks ea
    split at q
    · rename_i hc
      obtain ⟨k, ek, hdp, ds, rfl⟩ := nkB_of hc
      obtain ⟨l, es, rfl, hl, hn⟩ := okb
      have hx := oka.dp R.ch ea
      obtain ⟨ax, rfl⟩ := dp_tupref hx
      exact ⟨ax, _, k, l, es, ks, rfl, rfl, hx, ek, hdp, hl, hn.ex R.ch.gh, q.now R (.bl _)⟩
    · exact q.elim
  · exact q.elim
theorem xinN (hu : X.A.units + 80 < cLine) (ha : PE X a (tX X.K W f)) (hb : PE X b (tX X.K W g)) (hm : behindInMarks .In b = false := by first | exact nobehind _ (by decide) (by decide) | rfl) : PE X (.Compare a [.In] [b] pos) (tX X.K W (binF (inN false) f g)) := xcmp (op_inN hu) ok_inN ha hb hm
theorem xnotinN (hu : X.A.units + 80 < cLine) (ha : PE X a (tX X.K W f)) (hb : PE X b (tX X.K W g)) (hm : behindInMarks .NotIn b = false := by first | exact nobehind _ (by decide) (by decide) | rfl) : PE X (.Compare a [.NotIn] [b] pos) (tX X.K W (binF (inN true) f g)) := xcmp (op_notInN hu) ok_inN ha hb hm
theorem xtinN (hu : X.A.units + 80 < cLine) (ha : PE X a (tX X.K W f)) (hb : PE X b (tX X.K W g)) (hm : behindInMarks .In b = false := by first | exact nobehind _ (by decide) (by decide) | rfl) : PT X (.Compare a [.In] [b] pos) (tXt X.K W (tstF (binF (inN false) f g))) := xtcmp (op_inN hu) ok_inN ha hb hm
theorem xtnotinN (hu : X.A.units + 80 < cLine) (ha : PE X a (tX X.K W f)) (hb : PE X b (tX X.K W g)) (hm : behindInMarks .NotIn b = false := by first | exact nobehind _ (by decide) (by decide) | rfl) : PT X (.Compare a [.NotIn] [b] pos) (tXt X.K W (tstF (binF (inN true) f g))) := xtcmp (op_notInN hu) ok_inN ha hb hm
/-! ### d[k] = v, k is new -/
def rSetN (K : PySem.W.Frag) : TSet := fun o i v H Q => ∃ l a d k es ks, o = .ref l ∧ i = .ref a ∧ H l = some (nHO l es) ∧ NkOk K H es ks ∧ Dp K H (.ref a) d ∧ nk d = some k ∧ k.depth ≤ 8 ∧ (ks.any fun z => PyData.eqv z d) = false ∧ ks.length < 90000 ∧ ∀ e, (∃ v', ∀ w, e = (⟨k.hash w, .ref a, v'⟩ : DictEntry)) → Q (upd H l (nHO l (es ++ [e])))
theorem set_n (hu : X.A.units + 80 < cLine) : PSet X (rSetN X.K) := by
  intro pins s σ H o i v ov iv u Q I ro ri rv h
  obtain ⟨l, a, d, k, es, ks, rfl, rfl, hl, hn, hd, hk, hdp, hnew, hlen, q⟩ := h
  cases (show ov = Value.ref l from ro)
  cases (show iv = Value.ref a from ri)
  obtain ⟨hs, xs, dd, ees, hp⟩ := n_dict I.hok hl hn
  have hat : atKey xs k = none := by
    have := nkx_at hp hk
    rw [hnew] at this
    cases e : atKey xs k with
    | none => rfl
    | some z => rw [e] at this; cases this
  have hxl : xs.length ≤ sizeLine := by
    have h1 : xs.length = ks.length := Paired.length hp
    rw [h1]
    exact Nat.le_trans (Nat.le_of_lt hlen) (by decide)
  refine wpAny_setItem_heap (knd := nestedKind X.prog X.w) (k := k) (hsz := hxl) (show X.A.in1.units + 8 < cLine from by show X.A.units + 1 + 8 < cLine; omega) ⟨nk_is I.hok hd hk rfl, hdp⟩ dd fun h' dd' sb => ?_
  rw [storedH_new hat] at dd'
  have he : ∃ q, h'.get? l = some q := let ⟨q, _, _, hq, _⟩ := dd'; ⟨q, hq⟩
  have new := n_new (P := X.prog) (w := X.w) (H' := upd H l (nHO l ((xs ++ [(k, a, u)]).map (entryOfKey (nestedKind X.prog X.w))))) hs dd'
  refine ⟨_, d_write I (by rw [hl]; exact True.intro) sb he new, ?_⟩
  rw [List.map_append, ← ees]
  exact q _ ⟨u, fun w => by show DictEntry.mk (k.hash X.w) (.ref a) u = _; rw [nk_hash hk X.w w]⟩
def setN (j : Nat) (g : EF) (f : EF) : SF := fun ρ => thenS ρ (f ρ) fun r => match r.keep with
  | .ok d => match slot ρ j with
    | .n ks => thenS ρ (g ρ) fun i => match i with
      | .v q => if nkB q = true ∧ (ks.any fun z => PyData.eqv z q) = false ∧ ks.length < 90000 then .next (ρ.set j (.n (ks ++ [q]))) else .bad
      | _ => .bad
    | _ => .bad
  | _ => .bad
theorem nk_notin {ks : List D} {q : D} {k : NestedKey} (ek : nk q = some k) (h : (ks.any fun z => PyData.eqv z q) = false) : q ∉ ks := fun hm => by
  have := List.any_eq_false.mp h q hm
  rw [nk_eqv ek ek, NestedKey.beq_self] at this
  exact this rfl
theorem nk_app {G : Hp} {es : List DictEntry} {ks : List D} {e : DictEntry} {q : D} (h : NkOk K G es ks) (hq : NkAt K G e q) (hn : q ∉ ks) (hl : ks.length < 90000) : NkOk K G (es ++ [e]) (ks ++ [q]) := by
  have app : ∀ {es : List DictEntry} {ks : List D}, Paired (NkAt K G) es ks → Paired (NkAt K G) (es ++ [e]) (ks ++ [q]) := fun {es ks} h => by
    induction h with
    | nil => exact .cons hq .nil
    | cons a t ih => exact .cons a ih
  refine ⟨app h.1, ?_, ?_⟩
  · rw [List.nodup_append]
    exact ⟨h.2.1, by simp, fun a ha b hb z => hn (by rw [List.mem_singleton] at hb; rw [← hb, ← z]; exact ha)⟩
  · have := Paired.length h.1
    rw [List.length_append, this, List.length_singleton]
    omega
theorem xsetN (j : Nat) {x : Str} {i e : Expr} {f g : EF} {p p2 pos : Pos} (hu : X.A.units + 80 < cLine) (he : PE X e (tX X.K W f)) (hi : PE X i (tX X.K W g)) (ho : PE X (.Name x p) (tVar j))
    (hs1 : swapsWithSole [.Subscript (.Name x p) i p2] e pos.line X.env = pure false := by rfl) (hw : swappedStores [.Subscript (.Name x p) i p2] e X.env = pure none := by rfl)
    (h1 : (assignEach [.Subscript (.Name x p) i p2] X.env).map (·.2) = [assign (.Subscript (.Name x p) i p2) X.env] := by rfl)
    (ha : ∀ v, assign (.Subscript (.Name x p) i p2) X.env v = (do
      let ov ← holding [v] (eval (.Name x p) X.env)
      let iv ← holding [v, ov] (eval i X.env)
      standAt p2
      holding [v, ov, iv] (setItem ov iv v)
      release [v, ov, iv] []) := by intro _; rfl) : PS X (.Assign [.Subscript (.Name x p) i p2] e pos) (tS X.K W (setN j g f)) := by
  have A := ps_asg (pos := pos) he (pg_sub ho hi (set_n hu) ha) hs1 hw h1
  refine psTo A fun D σ H ⟨h, ρ, eh, R, q⟩ => ?_
  subst eh
  unfold setN at q
  refine tX_mk R (q.then fun r v h1 _ R1 g1 ok1 q1 => ?_)
  cases ek : r.keep with
  | bad => rw [ek] at q1; exact q1.elim
  | exc c p => exact absurd ek keep_ne
  | ok d =>
    rw [ek] at q1
    obtain ⟨h2, eh2, R2, g2, dv⟩ := keep_ok R R1 g1 ek ok1
    rw [← eh2]
    cases es : slot ρ j with
    | n ks =>
      rw [es] at q1
      have ei := slot_some es (by intro z; cases z)
      obtain ⟨x', ex, l, vs, rfl, hl, fl, hd⟩ := R2.get ei
      refine ⟨.ref l, ex, ?_⟩
      refine (tX_mk (f := g) R2 ((Post.shift g2.sg q1).then fun iz v3 h3 _ R3 g3 ok3 q3 => ?_) : tX X.K W g σ h2.H _)
      split at q3
      · rename_i qd
        split at q3
        · rename_i hc
          obtain ⟨x2, ex2, l2, vs2, rfl, hl2, fl2, hd2⟩ := R3.get ei
          rw [ex] at ex2
          cases ex2
          obtain ⟨k, enk, hdp, ds, rfl⟩ := nkB_of hc.1
          have hdp3 : Dp X.K h3.G v3 (.tuple ds) := ok3
          obtain ⟨a3, rfl⟩ := dp_tupref hdp3
          refine ⟨l, a3, _, k, vs2, ks, rfl, rfl, hl2, hd2.ex R3.ch.gh, ex_dp R3.ch.gh hdp3, enk, hdp, hc.2.1, hc.2.2, fun e ⟨v', hv⟩ => ?_⟩
          obtain ⟨R4, g4⟩ := R3.mut (s' := .n (ks ++ [.tuple ds])) (o := nHO l (vs2 ++ [e])) ei rfl rfl ex ⟨l, _, rfl, upd_same, fl2, nk_app hd2 ⟨a3, k, v', enk, hdp, hv, hdp3⟩ (nk_notin enk hc.2.1) hc.2.2⟩
          exact q3 σ _ R4 (g3.sg.trans g4)
        · exact q3.elim
      · exact q3.elim
    | _ => rw [es] at q1; exact q1.elim
/-! ### {k: v} -/
theorem wpAny_Dict_pairsG {prog : Program} {w : World} {A : Around} {E : Value → Shared → Prop} {s : Shared} {knd : HeapKind prog w NestedKey} {env : PySem.Env} {keys : List (Option Expr)} {values : List Expr} {pos : Pos} {pairs : List (Sem Value × Sem Value)} {Q : Value → Shared → Prop} (hu : knd.room A)
    (hshape : (evalEachOpt keys env).zip ((evalEach values env).map fun v => do let x ← v; standAt pos; pure x) = pairs.map fun p => (some p.1, p.2)) (h0 : pairs ≠ []) (hlen : pairs.length ≤ 15)
    (h : wpAny (model prog w) A (evalPairs pairs) (fun vs s₁ => ∃ ps, CarriesH knd s₁.heap vs ps ∧ s₁.heap.DictOfH knd s.heap.objs.size [] ∧
      ∀ h' tk, h'.DictOfH knd s.heap.objs.size (storedAllH [] ps) → Heap.SameBut s.heap.objs.size s₁.heap h' → Q (.ref s.heap.objs.size) { s₁ with heap := h', toks := tk }) E
      { s with heap := s.heap.push { cls := .type "dict", data := .dict #[] } }) :
    wpAny (model prog w) A (eval (.Dict keys values pos) env) Q E s := by
  rw [arm_eval_Dict, hshape, dictDisplay_pairs pairs h0 (by omega)]
  exact wpAny_bind (wpAny_standAt (wpAny_bind (wpAny_subDictH (knd := knd) (Q := fun d s' => wpAny (model prog w) A (pure (Value.ref d)) Q E s') hu hlen
    (wpAny_mono h (fun vs s₁ h₁ => by obtain ⟨ps, hc, hm, hq⟩ := h₁; exact ⟨ps, hc, hm, fun h' tk a b => wpAny_pure (hq h' tk a b)⟩) fun _ _ e => e))))
def tDispN (K : PySem.W.Frag) (trs : List (TE × TE)) : TE := fun σ H Q => ∀ p, H p = none → tPairs trs σ (upd H p (.dK [])) fun ps H2 => H2 p = some (.dK []) ∧ ∃ a d k y, ps = [(.ref a, y)] ∧ Dp K H2 (.ref a) d ∧ nk d = some k ∧ k.depth ≤ 8 ∧ ∀ e, (∃ v', ∀ w, e = (⟨k.hash w, .ref a, v'⟩ : DictEntry)) → Q (.ref p) (upd H2 p (nHO p [e]))
theorem pe_dispN {keys : List (Option Expr)} {values : List Expr} {trs : List (TE × TE)} (hu : X.A.units + 80 < cLine) (h : PPs X pos keys values trs) (hall : keys.all (·.isSome) = true) (hl : keys.length = values.length) (h0 : keys ≠ [])
    (h15 : keys.length ≤ 15) : PE X (.Dict keys values pos) (tDispN X.K trs) := by
  refine ⟨fun pins s σ H Q I q => ?_⟩
  have hn := I.hok.fresh (Nat.le_refl s.heap.objs.size)
  have I1 := I.laid (a := s.heap.objs.size) (o := .dK []) (h' := s.heap.push { cls := .type "dict", data := .dict #[] }) (t' := s.toks) (fun _ _ q => Heap.get?_push_of_some _ q) (Nat.le_refl _) (dk_empty s.heap I.big)
  have hpl := pairTrees_length keys values X.env pos hall hl
  refine wpAny_Dict_pairsG (knd := nestedKind X.prog X.w) (pairs := pairTrees keys values X.env pos) (show X.A.units + 8 < cLine from by omega) (zip_pairTrees keys values X.env pos hall hl) (fun he => ?_) (by rw [hpl]; exact h15) (thn (h.run pins _ σ _ _ I1 (q _ hn)) fun ws s2 ⟨ps, H2, I2, rel, e, a, d, k, y, ep, hd, hk, hdp, q2⟩ => ?_)
  · rw [he] at hpl
    exact h0 (List.length_eq_zero_iff.mp hpl.symm)
  subst ep
  obtain ⟨z, hsys, vs0, r0, dd⟩ := dk_of I2.hok e
  cases r0
  cases rel with
  | @cons p' q' as bs hr ht =>
    cases ht
    obtain ⟨u1, u2⟩ := q'
    cases (show u1 = Value.ref a from hr.1)
    have dd2 : s2.heap.DictOfH (nestedKind X.prog X.w) s.heap.objs.size [] := by
      obtain ⟨o, es, ep, g1, g2, g3, g4, g5, _⟩ := dd
      have e0 : es.toList = [] := by
        cases z : es.toList with
        | nil => rfl
        | cons a b => rw [z] at g5; cases g5
      exact ⟨o, es, ep, g1, g2, g3, by rw [e0]; rfl, (fun _ hx => nomatch hx), List.nodup_nil⟩
    refine ⟨[(k, a, u2)], ⟨rfl, rfl, ⟨nk_is I2.hok hd hk rfl, hdp⟩, trivial⟩, dd2, fun h' tk dd' sb => ⟨.ref s.heap.objs.size, _, ?_, rfl, q2 ⟨k.hash X.w, .ref a, u2⟩ ⟨u2, fun w => by rw [nk_hash hk X.w w]⟩⟩⟩
    have he : ∃ q, h'.get? s.heap.objs.size = some q := let ⟨q, _, _, hq, _⟩ := dd'; ⟨q, hq⟩
    exact d_write I2 (by rw [e]; exact True.intro) sb he (n_new (P := X.prog) (w := X.w) hsys dd')
def dispN1 : List Rv → Er Rv
  | [.v d, .v _] => if nkB d = true then .ok (.on [d]) else .bad
  | _ => .bad
def dispN (r : AF) : EF := fun ρ => (r ρ).bind dispN1
theorem xdispN {keys : List (Option Expr)} {values : List Expr} (f1 f2 : EF) (hu : X.A.units + 80 < cLine) (hp : PPs X pos keys values [(tX X.K W f1, tX X.K W f2)]) (h0 : keys ≠ []) (hall : keys.all (·.isSome) = true := by rfl) (hl : keys.length = values.length := by rfl)
    (h15 : keys.length ≤ 15 := by decide) : PE X (.Dict keys values pos) (tX X.K W (dispN (flatA [(f1, f2)]))) := by
  refine peTo (pe_dispN hu hp hall hl h0 h15) fun σ H Q q => ?_
  obtain ⟨h, ρ, rfl, R, q⟩ := tX_iff.mp q
  intro p hn
  have R1 := R.newO (o := .dK []) hn
  refine pairs_of [(f1, f2)] σ _ _ ⟨h.newO p (.dK []), ρ, rfl, R1, ?_⟩
  unfold dispN at q
  cases er : flatA [(f1, f2)] ρ with
  | bad => rw [er] at q; exact q.elim
  | exc c e => rw [er] at q; exact fun h' R' g => q h' R' ((Gr.newO R.ch hn).trans g)
  | ok rs =>
    rw [er] at q
    have q : PE1 X.K W h ρ σ Q (dispN1 rs) := q
    intro vs h2 R2 g ok
    unfold dispN1 at q
    split at q
    · rename_i d d2 _
      split at q
      · rename_i hm
        match vs, ok with
        | [x, y], ⟨ok1, ok2, _⟩ =>
          have hx : Dp X.K h2.G x d := ok1.rv (H0 := h.H)
          obtain ⟨k, ek, hdp, ds, rfl⟩ := nkB_of hm
          obtain ⟨a, rfl⟩ := dp_tupref hx
          refine ⟨_, rfl, g.x p _ upd_same, a, _, k, y, rfl, ex_dp R2.ch.gh hx, ek, hdp, fun e ⟨v', hv⟩ => ?_⟩
          obtain ⟨R3, g3, hf⟩ := Rel.fill (o' := nHO p [e]) R hn R2 g
          exact q (.ref p) _ R3 g3 ⟨p, [e], rfl, hn, upd_same, hf, .cons ⟨a, k, v', ek, hdp, hv, hx⟩ .nil, by simp, by simp⟩
      · exact q.elim
    · exact q.elim
end
end Sq

/-! tuple(range(n)). -/
namespace Sq
open PySem PySem.Spec PyProof.Rows L2
section
variable {X : Cx} {W : WF} {g : EF} {a e : Expr} {te : L2.St → Hp → (Int → Int → Hp → Prop) → Prop}
def tTupRgF (te : L2.St → Hp → (Int → Int → Hp → Prop) → Prop) : TE := fun σ H Q => te σ H fun a b H1 => RgOk a b ∧ ∀ q H', H1 q = none → NewT H1 q (L2.rgV a b) H' → Q (.ref q) H'
theorem pe_tupRgF {p pos : Pos} (hc : X.calm = true) (hg : Gl X "tuple") (hm : X.mg "tuple" = none) (he : PRg X e te) (na : starEach [e] X.env = (false, eval e X.env) :: starEach [] X.env := by rfl) : PE X (.Call (.Name "tuple" p) [e] [] pos) (tTupRgF te) := by
  refine ⟨fun pins s σ H Q I h => ?_⟩
  refine Call_ (ld_blt I hg hm boot_tuple (PyProof.Rows.callWith_type1 (args_cons (thn (he pins s σ H _ I h) fun x s1 ⟨r, a, b, t, u, v, H1, ex, hr, I1, ok, q⟩ => args_nil ?_) na) na))
  subst ex
  obtain ⟨b1, b2, b3, b4, b5⟩ := ok
  refine call_tuple_range (n := (b - a).toNat) (I1.ok.hd hc) hr (small_one b1 b2 b3 b4) (rangeSize_nat a b) b5 fun h' tk acc hk hi => ?_
  have I2 : Inv X pins σ H1 { s1 with heap := h', toks := tk } := I1.kept hk
  have hv := vals_rg hi
  have hz : (L2.rgV a b).length ≤ sizeLine := by rw [L2.rgV_length, sizeLine_eq]; omega
  refine ⟨.ref h'.objs.size, _, laidT (s := { s1 with heap := h', toks := tk }) (h' := h'.push { cls := .type "tuple", data := .seq acc }) (t' := tk) I2 (fun b o e => Heap.get?_push_of_some _ e) (Nat.le_refl _) (Heap.get?_push_size _ rfl) rfl (by rw [Array.toArray_toList]) hv hz, rfl, q _ _ (I2.hok.fresh (Nat.le_refl _)) ⟨_, rfl, rfl⟩⟩
def trgF (g : EF) : EF := fun ρ => (g ρ).bind fun b => match b.dat with
  | some (.int j) => if 0 ≤ j ∧ j ≤ 1000000 then .ok (.v (.tuple (intsD 0 j))) else .bad
  | _ => .bad
theorem xtrg1 {p p2 pos pos2 : Pos} (hc : X.calm = true) (hg : Gl X "tuple") (hm : X.mg "tuple" = none) (hg2 : Gl X "range") (hm2 : X.mg "range" = none) (ha : PE X a (tX X.K W g)) (na : starEach [a] X.env = (false, eval a X.env) :: starEach [] X.env := by rfl)
    (na2 : starEach [.Call (.Name "range" p2) [a] [] pos2] X.env = (false, eval (.Call (.Name "range" p2) [a] [] pos2) X.env) :: starEach [] X.env := by rfl) : PE X (.Call (.Name "tuple" p) [.Call (.Name "range" p2) [a] [] pos2] [] pos) (tX X.K W (trgF g)) := by
  refine peTo (pe_tupRgF hc hg hm (prg_1 hg2 hm2 ha na) na2) fun σ H Q q => ?_
  obtain ⟨h, ρ, rfl, R, q⟩ := tX_iff.mp q
  have q : PE1 X.K W h ρ σ Q ((g ρ).bind fun b => match b.dat with
    | some (.int j) => if 0 ≤ j ∧ j ≤ 1000000 then .ok (.v (.tuple (intsD 0 j))) else .bad
    | _ => .bad) := q
  show tX X.K W g σ h.H fun x H1 => ∃ n, x = .int n ∧ RgOk 0 n ∧ ∀ q H', H1 q = none → NewT H1 q (L2.rgV 0 n) H' → Q (.ref q) H'
  refine (tX_mk (f := g) R (q.bind fun b v h1 _ R1 g1 ok1 q1 => ?_) : tX X.K W g σ h.H _)
  split at q1
  · rename_i j ej
    split at q1
    · have ev := dp_int (ok1.dp R1.ch ej)
      subst ev
      exact ⟨j, rfl, RgOk.of_le (by omega) (by omega) (by omega) (by omega), fun l H' hl nt => q1.newT R1 ints_dp hl nt⟩
    · exact q1.elim
  · exact q1.elim
end
end Sq

/-! Own instances that change: methods that change self, a local that holds one. -/
namespace Sq
open PySem PySem.Spec PyProof.Rows L2
/-! ### rows that do not look at the address, more of them -/
theorem eqe_it {it : Rv → Er (List Rv)} {f : EF} (h : EqE f) : EqE (itF it f) := fun l ρ => by simp only [itF, h l ρ]
theorem eqe_tup {r : AF} (h : EqE r) : EqE (tupF r) := fun l ρ => by simp only [tupF, h l ρ]
theorem eqe_lst {r : AF} (h : EqE r) : EqE (lstF r) := fun l ρ => by simp only [lstF, h l ρ]
theorem eqe_notF {f : EF} (h : EqE f) : EqE (notF f) := fun l ρ => by simp only [notF, h l ρ]
theorem eqe_andF {f g : EF} (h : EqE f) (k : EqE g) : EqE (andF f g) := fun l ρ => by simp only [andF, h l ρ, k l ρ]
theorem eqe_orF {f g : EF} (h : EqE f) (k : EqE g) : EqE (orF f g) := fun l ρ => by simp only [orF, h l ρ, k l ρ]
theorem eqe_mth {c m : Str} {g : List Sl → Fr} {f : EF} {r : AF} (h : EqE f) (k : EqE r) : EqE (mthF c m g f r) := fun l ρ => by simp only [mthF, h l ρ, k l ρ]
theorem eqe_mak {c : Str} {g : List Sl → Fr} {r : AF} (k : EqE r) : EqE (makF c g r) := fun l ρ => by simp only [makF, k l ρ]
theorem eqs_for {it : IF} {τ : TF} {s : SF} (h : EqE it) (k : EqG τ) (m : EqS s) : EqS (forS it τ s) := fun l ρ => by
  have loop : ∀ (rs : List Rv) (ρ : Env), forL τ s rs (swE l ρ) = swR l (forL τ s rs ρ) := by
    intro rs
    induction rs with
    | nil => exact fun ρ => rfl
    | cons r rs ih =>
      intro ρ
      unfold forL
      rw [k r l ρ]
      cases τ r ρ with
      | ok ρ1 =>
        dsimp only
        rw [m l ρ1]
        cases s ρ1 with
        | next ρ' => exact ih ρ'
        | cont ρ' => exact ih ρ'
        | brk ρ' => rfl
        | ret r => rfl
        | exc c p ρ' => rfl
        | bad => rfl
      | exc c p => rfl
      | bad => rfl
  unfold forS
  rw [h l ρ]
  cases it ρ with
  | ok rs => exact loop rs ρ
  | exc c p => rfl
  | bad => rfl
theorem eqs_while {t : Env → Er Bool} {s : SF} (h : EqE t) (m : EqS s) : EqS (whileS t s) := fun l ρ => by
  have loop : ∀ (n : Nat) (ρ : Env), whileN t s n (swE l ρ) = swR l (whileN t s n ρ) := by
    intro n
    induction n with
    | zero => exact fun ρ => rfl
    | succ n ih =>
      intro ρ
      unfold whileN
      rw [h l ρ]
      cases t ρ with
      | ok b =>
        cases b with
        | false => rfl
        | true =>
          show (match s (swE l ρ) with | .next ρ' => whileN t s n ρ' | .cont ρ' => whileN t s n ρ' | .brk ρ' => .next ρ' | x => x) = swR l (match s ρ with | .next ρ' => whileN t s n ρ' | .cont ρ' => whileN t s n ρ' | .brk ρ' => .next ρ' | x => x)
          rw [m l ρ]
          cases s ρ with
          | next ρ' => exact ih ρ'
          | cont ρ' => exact ih ρ'
          | brk ρ' => rfl
          | ret r => rfl
          | exc c p ρ' => rfl
          | bad => rfl
      | exc c p => rfl
      | bad => rfl
  exact loop _ ρ
/-! ### return e, in a method that changes self -/
def retJ (f : EF) : SF := fun ρ => thenS ρ (f ρ) fun r => match r.keep with
  | .ok d => (match slot ρ 0 with
    | .j l c fs => .ret (.sj d l c fs)
    | _ => .bad)
  | _ => .bad
theorem eqs_retJ {f : EF} (h : EqE f) : EqS (retJ f) := fun l ρ => by
  unfold retJ
  rw [h l ρ, sw_slot]
  cases f ρ with
  | ok r =>
    show (match r.keep with | .ok d => _ | _ => _) = swR l (match r.keep with | .ok d => _ | _ => _)
    cases r.keep with
    | ok d => cases slot ρ 0 <;> rfl
    | exc c p => rfl
    | bad => rfl
  | exc c p => rfl
  | bad => rfl
section
variable {X : Cx} {W : WF} {cm : Str → Addr} {K : PySem.W.Frag}
theorem xretJ {e : Expr} {f : EF} {pos : Pos} (he : PE X e (tX X.K W f)) : PS X (.Return (some e) pos) (tS X.K W (retJ f)) := psTo (ps_ret he) fun D σ H ⟨h, ρ, e, R, q⟩ => by
  subst e
  unfold retJ at q
  refine tX_mk R (q.then fun r v h' _ R' g' ok q' => ?_)
  cases ek : r.keep with
  | bad => rw [ek] at q'; exact q'.elim
  | exc c p => exact absurd ek keep_ne
  | ok d =>
    rw [ek] at q'
    obtain ⟨h2, eh, R2, g2, dv⟩ := keep_ok R R' g' ek ok
    cases es : slot ρ 0 with
    | j l c fs =>
      rw [es] at q'
      obtain ⟨vs, dx, ex, a, b, kd⟩ := ins_now R2 es
      have := q' v h2 R2.ch g2.sg ⟨dv, vs, dx, a, b, kd⟩
      rw [eh] at this
      exact this
    | _ => rw [es] at q'; exact q'.elim
/-! ### a method that changes self: what it promises -/
def fnJa (l : Addr) (c : Str) (bf : SF) (n : Nat) (fs : List (Str × D)) (as : List Sl) : Fr := match bf ((.j l c fs :: as) ++ List.replicate (n - (as.length + 1)) .u) with
  | .next ρ => (match slot ρ 0 with
    | .j l' c' fs' => if l' = l ∧ c' = c then .ret (.sj .none 0 c fs') else .bad
    | _ => .bad)
  | .ret (.sj d l' c' fs') => if l' = l ∧ c' = c then .ret (.sj d 0 c fs') else .bad
  | _ => .bad
def fnJ (c : Str) (bf : SF) (n : Nat) (fs : List (Str × D)) (as : List Sl) : Fr := fnJa 0 c bf n fs as
def fspJ (K : PySem.W.Frag) (c : Str) (n : Nat) (g : List (Str × D) → List Sl → Fr) : Sp := fun vs H Q E => vs.length = n ∧ ∃ (G : Hp) (l dx : Addr) (vs0 : List (Str × V)) (fs : List (Str × D)) (vr : List V) (as : List Sl), vs = .ref l :: vr ∧ Ex G H ∧ G l = none ∧ H l = some (.ins (clsOf K c) dx vs0) ∧ KvD K G vs0 fs ∧ ArgsOk K G (butl H l) vr as ∧ match g fs as with
  | .ret (.sj d _ c' fs') => c' = c ∧ ∀ v G' H', CGm G H l G' H' → (∃ dx' us, H' l = some (.ins (clsOf K c) dx' us) ∧ G' l = none ∧ KvD K G' us fs') → Dp K G' v d → Q v H'
  | _ => False
theorem rel_startJ {N : List Str} {G H : Hp} {l dx : Addr} {c : Str} {vs0 : List (Str × V)} {fs : List (Str × D)} {vr : List V} {as : List Sl} (c0 : Ex G H) (gl : G l = none) (hl : H l = some (.ins (clsOf K c) dx vs0)) (kd : KvD K G vs0 fs) (ok : ArgsOk K G (butl H l) vr as) (hn : (vr.length + 1) ≤ N.length) :
    Rel K ⟨G, butl H l, H⟩ ((.j l c fs :: as) ++ List.replicate (N.length - (as.length + 1)) .u) (L2.start N (.ref l :: vr)) := by
  have el := ok.len
  have gf : Ex G (butl H l) := fun a o e => by
    unfold butl
    rw [if_neg (fun z => by rw [z, gl] at e; cases e)]
    exact c0 a o e
  have at' : ∀ {i : Nat} {s : Sl}, ((Sl.j l c fs :: as) ++ List.replicate (N.length - (as.length + 1)) Sl.u)[i]? = some s → (i = 0 ∧ s = .j l c fs) ∨ (∃ j, i = j + 1 ∧ as[j]? = some s) ∨ s = .u := fun {i s} e => by
    cases i with
    | zero =>
      left
      refine ⟨rfl, ?_⟩
      simpa using e.symm
    | succ j =>
      right
      rw [List.cons_append, List.getElem?_cons_succ, List.getElem?_append] at e
      split at e
      · exact .inl ⟨j, rfl, e⟩
      · right
        rw [List.getElem?_replicate] at e
        split at e
        · cases e; rfl
        · cases e
  have noown : ∀ {j : Nat} {s : Sl}, as[j]? = some s → s.own = true → False := fun {j s} e o => by
    obtain ⟨v, _, q⟩ := ok.get e
    rcases q with ⟨d, rfl, _⟩ | ⟨d, rfl, _⟩ <;> cases o
  refine ⟨⟨gf, fun a o e => ?_⟩, ?_, fun i s x e1 e2 => ?_, fun i j s t a b hij e1 e2 o1 o2 _ _ => ?_⟩
  · have e' : (if a = l then none else H a) = some o := e
    split at e'
    · cases e'
    · exact e'
  · unfold L2.start
    simp
    omega
  · rcases at' e1 with ⟨rfl, rfl⟩ | ⟨j, rfl, ea⟩ | rfl
    · have : x = some (.ref l) := by
        unfold L2.start at e2
        simp at e2
        exact e2.symm
      refine ⟨vs0, dx, this, hl, ?_, kd⟩
      show (if l = l then none else H l) = none
      rw [if_pos rfl]
    · obtain ⟨v, ev, q⟩ := ok.get ea
      have hx : x = some v := by
        unfold L2.start at e2
        have hi : j + 1 < (V.ref l :: vr).length := by
          have := (List.getElem?_eq_some_iff.mp ev).1
          simp
          omega
        rw [List.getElem?_append_left (by simpa using hi), List.getElem?_map, List.getElem?_cons_succ, ev] at e2
        cases e2
        rfl
      rcases q with ⟨d, rfl, q⟩ | ⟨d, rfl, q⟩
      · exact ⟨v, hx, q⟩
      · exact ⟨v, hx, q⟩
    · trivial
  · exfalso
    rcases at' e1 with ⟨rfl, rfl⟩ | ⟨j', rfl, ea⟩ | rfl
    · rcases at' e2 with ⟨rfl, rfl⟩ | ⟨j'', rfl, ea'⟩ | rfl
      · exact hij rfl
      · exact noown ea' o2
      · cases o2
    · exact noown ea o1
    · cases o1
theorem fnJ_any {c : Str} {bf : SF} {n : Nat} {fs : List (Str × D)} {as : List Sl} {l : Addr} (h : EqS bf) (ha : ∀ s ∈ as, swS l s = s) : bf ((.j l c fs :: as) ++ List.replicate (n - (as.length + 1)) .u) = swR l (bf ((.j 0 c fs :: as) ++ List.replicate (n - (as.length + 1)) .u)) := by
  rw [← h l]
  congr 1
  unfold swE
  rw [List.map_append, List.map_cons, List.map_replicate]
  have : as.map (swS l) = as := by
    conv => rhs; rw [← List.map_id as]
    exact List.map_congr_left fun s hs => ha s hs
  rw [this]
  rfl
end
section
variable {P : Program} {w : World} {K : PySem.W.Frag} {mg : Str → Option Value} {base : Heap}
theorem meth_go {cm : Str → Addr} {c : Str} {N : List Str} {n : Nat} {bf : SF} {vs : List V} {H : Hp} {Q : VK} {E : XK} (hn : n ≤ N.length) (hbl : EqS bf) (h : fspJ K c n (fnJ c bf N.length) vs H Q E) : tS K (WFx K cm fun cls d _ H => E cls d H) bf { nx := fun _ H' => Q .non H', rt := Q } (L2.start N vs) H := by
  obtain ⟨hl, G, l, dx, vs0, fs, vr, as, rfl, c0, gl, hH, kd, ok, q⟩ := h
  have el := ok.len
  have R := rel_startJ (N := N) c0 gl hH kd ok (by simp at hl; omega)
  refine ⟨⟨G, butl H l, H⟩, _, rfl, R, ?_⟩
  rw [fnJ_any hbl (ok.sw l)]
  unfold fnJ fnJa at q
  have hf : ∀ a : Addr, butl H l a = none → H a = none ∨ a = l := fun a z => by
    unfold butl at z
    split at z
    · right; assumption
    · left; exact z
  have cg : ∀ {h' : Hs}, Ch h' → SG ⟨G, butl H l, H⟩ h' → CGm G H l h'.G h'.H := fun {h'} c' g' => ⟨g'.g, fun a o hne e => by
    refine c'.fh a o (g'.f a o ?_)
    show (if a = l then none else H a) = some o
    rw [if_neg hne]
    exact e, c'.gh, fun a o e z => hf a (g'.gn a o e z)⟩
  cases e : bf ((Sl.j 0 c fs :: as) ++ List.replicate (N.length - (as.length + 1)) .u) with
  | next ρ' =>
    rw [e] at q
    dsimp only at q
    cases es : slot ρ' 0 with
    | j l' c' fs' =>
      rw [es] at q
      dsimp only at q
      by_cases hcc : l' = 0 ∧ c' = c
      · rw [if_pos hcc] at q
        obtain ⟨rfl, rfl⟩ := hcc
        intro σ' h' R' g'
        have es2 : slot (swE l ρ') 0 = .j l c' fs' := by rw [sw_slot, es]; rfl
        obtain ⟨us, dx', ex, a, b, d⟩ := ins_now R' es2
        exact q.2 .non h'.G h'.H (cg R'.ch g') ⟨dx', us, a, R'.ch.gf.back b, d⟩ .non
      · rw [if_neg hcc] at q
        exact q.elim
    | _ =>
      rw [es] at q
      exact q.elim
  | ret r =>
    rw [e] at q
    cases r with
    | sj d l' c' fs' =>
      dsimp only at q
      by_cases hcc : l' = 0 ∧ c' = c
      · rw [if_pos hcc] at q
        obtain ⟨rfl, rfl⟩ := hcc
        intro v h' c2 g' ok'
        obtain ⟨dv, us, dx', a, b, kd'⟩ := ok'
        exact q.2 v h'.G h'.H (cg c2 g') ⟨dx', us, a, c2.gf.back b, kd'⟩ dv
      · rw [if_neg hcc] at q
        exact q.elim
    | _ => exact q.elim
  | _ => rw [e] at q; exact q.elim
theorem fn_okJ {cm : Str → Addr} {c : Str} {x qual : Str} {st : Stmt} {f : Addr} {fd : FuncData} {N ps : List Str} {k : Nat} {bf : SF} (F : Fun K x qual st f fd) (S : FnScope N ps (defScope st)) (hps : ps.length ≤ N.length) (hbl : EqS bf)
    (body : ∀ (cdv : Value) (A : Around) (outer : List PySem.Env) (s : Shared) (H : Hp) (E : XK), Room k (A.deeper (envOfC qual (defScope st) s.heap.objs.size f cdv)) →
      PSs (bodyCx P w K mg base N qual st f cdv A outer s H E) (defBody st) (tS K (WFx K cm fun cls d _ H => E cls d H) bf)) :
    FnOk P w K mg base (L2.CX P w) (k + 1) f fd ps (fspJ K c ps.length (fnJ c bf N.length)) :=
  F.okX S (fun vs H Q E h => h.1) fun cdv A outer s H vs Q E hr h => ⟨_, body cdv A outer s H E hr, meth_go hps hbl h⟩
end
/-! ### the caller: its own instance is changed by a call -/
section
variable {K : PySem.W.Frag} {h : Hs} {ρ : Env} {σ : L2.St}
theorem Rel.callJ (R : Rel K h ρ σ) {i : Nat} {s s' : Sl} {l : Addr} {G' H' : Hp} (e : ρ[i]? = some s) (os : s.own = true) (el : σ[i]? = some (some (.ref l))) (cg : CGm h.G h.H l G' H') (os' : s'.own = true) (gl' : G' l = none) (ok : SlOk K (h.call G' H') (some (.ref l)) s') :
    Rel K (h.call G' H') (ρ.set i s') σ ∧ SG h (h.call G' H') := by
  obtain ⟨⟨ol, hol⟩, fl⟩ := R.ownH e os el
  have c := R.ch
  have hi : i < ρ.length := (List.getElem?_eq_some_iff.mp e).1
  have fne : ∀ a u, h.F a = some u → a ≠ l := fun a u z w => by rw [w, fl] at z; cases z
  have nF : ∀ a o, G' a = some o → h.G a = none → h.F a = none := fun a o z w => by
    rcases cg.n a o z w with q | q
    · exact c.fh.back q
    · rw [q]; exact fl
  have cF : ∀ a u, h.F a = some u → (h.call G' H').F a = some u := fun a u z => by
    show (match h.F a with | some o => some o | none => G' a) = some u
    rw [z]
  have sg : SG h (h.call G' H') := ⟨cg.g, cF, nF⟩
  have ch : Ch (h.call G' H') := ⟨fun a o z => by
    show (match h.F a with | some o => some o | none => G' a) = some o
    cases q : h.F a with
    | none => exact z
    | some u =>
      cases w : h.G a with
      | none =>
        have := nF a o z w
        rw [q] at this
        cases this
      | some t =>
        have e1 := cg.g a t w
        have z' : G' a = some o := z
        rw [z'] at e1
        cases e1
        have e2 := c.gf a _ w
        rw [q] at e2
        exact e2, fun a o z => by
    have z' : (match h.F a with | some o => some o | none => G' a) = some o := z
    cases q : h.F a with
    | none =>
      rw [q] at z'
      exact cg.c a o z'
    | some u =>
      rw [q] at z'
      cases z'
      exact cg.h a _ (fne a _ q) (c.fh a _ q)⟩
  have ownN : ∀ {m : Addr} {o : HO}, m ≠ l → h.H m = some o → h.F m = none → (h.call G' H').F m = none := fun {m o} ne hm fm => by
    show (match h.F m with | some o => some o | none => G' m) = none
    rw [fm]
    show G' m = none
    cases q : G' m with
    | none => rfl
    | some u =>
      exfalso
      rcases cg.n m u q (c.gf.back fm) with w | w
      · rw [hm] at w; cases w
      · exact ne w
  refine ⟨⟨ch, by simp [R.len], fun j t x e1 e2 => ?_, fun j k t u m n hjk e1 e2 o1 o2 e3 e4 => ?_⟩, sg⟩
  · by_cases hj : i = j
    · subst hj
      rw [List.getElem?_set] at e1
      simp only [if_true, hi] at e1
      cases e1
      rw [el] at e2
      cases e2
      exact ok
    · rw [List.getElem?_set_ne hj] at e1
      have q := R.at_ j t x e1 e2
      have hm : ∀ m, t.own = true → x = some (.ref m) → m ≠ l := fun m ot z => by
        subst z
        exact Ne.symm (R.dis i j s t l m hj e e1 os ot el e2)
      cases t with
      | u => trivial
      | x a => exact q
      | v d =>
        obtain ⟨v, z, q⟩ := q
        exact ⟨v, z, ex_dp sg.g q⟩
      | b d =>
        obtain ⟨v, z, q⟩ := q
        exact ⟨v, z, ex_dp sg.f q⟩
      | o ys =>
        obtain ⟨m, ws, z, a, b, d⟩ := q
        exact ⟨m, ws, z, cg.h m _ (hm m rfl z) a, ownN (hm m rfl z) a b, ex_dpa sg.g d⟩
      | k ys =>
        obtain ⟨m, ws, z, a, b, d⟩ := q
        exact ⟨m, ws, z, cg.h m _ (hm m rfl z) a, ownN (hm m rfl z) a b, d.ex sg.g⟩
      | t ys =>
        obtain ⟨m, ws, z, a, b, d⟩ := q
        exact ⟨m, ws, z, cg.h m _ (hm m rfl z) a, ownN (hm m rfl z) a b, d.ex sg.g⟩
      | n ys =>
        obtain ⟨m, ws, z, a, b, d⟩ := q
        exact ⟨m, ws, z, cg.h m _ (hm m rfl z) a, ownN (hm m rfl z) a b, d.ex sg.g⟩
      | i c ys =>
        obtain ⟨m, ws, dx, z, a, b, d⟩ := q
        exact ⟨m, ws, dx, z, cg.h m _ (hm m rfl z) a, ownN (hm m rfl z) a b, d.ex sg.g⟩
      | j m c ys =>
        obtain ⟨ws, dx, z, a, b, d⟩ := q
        exact ⟨ws, dx, z, cg.h m _ (hm m rfl z) a, ownN (hm m rfl z) a b, d.ex sg.g⟩
      | y ys =>
        obtain ⟨m, ws, z, a, b, d⟩ := q
        exact ⟨m, ws, z, cg.h m _ (hm m rfl z) a, ownN (hm m rfl z) a b, d.ex sg.f nF⟩
      | z m ys =>
        obtain ⟨ws, z, a, b, d⟩ := q
        exact ⟨ws, z, sg.f _ _ a, gNone nF a b, d.ex sg.f nF⟩
      | e ys =>
        obtain ⟨m, ws, z, a, b, d⟩ := q
        exact ⟨m, ws, z, sg.f _ _ a, gNone nF a b, d⟩
  · have fix : ∀ {j : Nat} {t : Sl} {m : Addr}, (ρ.set i s')[j]? = some t → t.own = true → σ[j]? = some (some (.ref m)) → ∃ t', ρ[j]? = some t' ∧ t'.own = true := fun {j t m} e1 o1 e3 => by
      by_cases hj : i = j
      · subst hj
        exact ⟨s, e, os⟩
      · rw [List.getElem?_set_ne hj] at e1
        exact ⟨t, e1, o1⟩
    obtain ⟨t', a1, a2⟩ := fix e1 o1 e3
    obtain ⟨u', b1, b2⟩ := fix e2 o2 e4
    exact R.dis j k t' u' m n hjk a1 b1 a2 b2 e3 e4
/-- the own instance in a slot -/
def insJ : Sl → Option (Str × List (Str × D))
  | .j _ c fs => some (c, fs)
  | .i c fs => some (c, fs)
  | _ => none
def putJ (fs' : List (Str × D)) : Sl → Sl
  | .j l c _ => .j l c fs'
  | .i c _ => .i c fs'
  | s => s
def setJ (i : Nat) (fs' : List (Str × D)) (ρ : Env) : Env := ρ.set i (putJ fs' (slot ρ i))
def callJ (c m : Str) (i : Nat) (g : List (Str × D) → List Sl → Fr) (r : AF) (k : D → SF) : SF := fun ρ => match insJ (slot ρ i) with
  | some (c', fs) => if c' = c ∧ fs.lookup m = none then (match r ρ with
    | .ok rs => (match allV rs with
      | some ds => (match g fs (ds.map Sl.v) with
        | .ret (.sj d _ c2 fs') => if c2 = c then k d (setJ i fs' ρ) else .bad
        | _ => .bad)
      | none => .bad)
    | _ => .bad) else .bad
  | none => .bad
theorem kvd_lookup {G : Hp} {m : Str} : ∀ {vs : List (Str × V)} {fs : List (Str × D)}, KvD K G vs fs → fs.lookup m = none → vs.lookup m = none
  | _, _, .nil, _ => rfl
  | (f, v) :: vs, (g, d) :: fs, .cons ⟨e, h⟩ t, q => by
    cases (show f = g from e)
    rw [List.lookup_cons] at q ⊢
    cases hb : m == f with
    | true => rw [hb] at q; cases q
    | false =>
      rw [hb] at q
      exact kvd_lookup t q
theorem insJ_now (R : Rel K h ρ σ) {i : Nat} {c : Str} {fs : List (Str × D)} (e : insJ (slot ρ i) = some (c, fs)) : ∃ l vs dx, σ[i]? = some (some (.ref l)) ∧ h.H l = some (.ins (clsOf K c) dx vs) ∧ h.F l = none ∧ KvD K h.G vs fs ∧ ρ[i]? = some (slot ρ i) ∧ (slot ρ i).own = true ∧ ∀ {h' : Hs} {fs' : List (Str × D)} {vs' : List (Str × V)} {dx' : Addr}, h'.H l = some (.ins (clsOf K c) dx' vs') → h'.F l = none → KvD K h'.G vs' fs' → SlOk K h' (some (.ref l)) (putJ fs' (slot ρ i)) ∧ (putJ fs' (slot ρ i)).own = true := by
  cases es : slot ρ i with
  | i c' fs' =>
    rw [es] at e
    cases e
    have ei := slot_some es (by intro z; cases z)
    obtain ⟨x, ex, l, vs, dx, rfl, a, b, d⟩ := R.get ei
    exact ⟨l, vs, dx, ex, a, b, d, ei, rfl, fun a b d => ⟨⟨l, _, _, rfl, a, b, d⟩, rfl⟩⟩
  | j l c' fs' =>
    rw [es] at e
    cases e
    have ei := slot_some es (by intro z; cases z)
    obtain ⟨x, ex, vs, dx, rfl, a, b, d⟩ := R.get ei
    exact ⟨l, vs, dx, ex, a, b, d, ei, rfl, fun a b d => ⟨⟨_, _, rfl, a, b, d⟩, rfl⟩⟩
  | _ => rw [es] at e; cases e
theorem allV_args {h : Hs} (c : Ch h) : ∀ {vs : List V} {rs : List Rv} {ds : List D} (H : Hp), allV rs = some ds → RvsOk K h vs rs → ArgsOk K h.G H vs (ds.map Sl.v)
  | [], [], ds, H, e, _ => by
    cases e
    trivial
  | v :: vs, .v d :: rs, ds, H, e, q => by
    obtain ⟨ds', e', rfl⟩ := Option.map_eq_some_iff.mp e
    exact ⟨q.1.rv (H0 := h.H), allV_args c H e' q.2⟩
  | [], _ :: _, _, _, _, q => q.elim
  | _ :: _, [], _, _, _, q => q.elim
  | _ :: _, .b _ :: _, _, _, e, _ => by cases e
  | _ :: _, .r _ :: _, _, _, e, _ => by cases e
  | _ :: _, .w _ :: _, _, _, e, _ => by cases e
  | _ :: _, .o _ :: _, _, _, e, _ => by cases e
  | _ :: _, .wk _ :: _, _, _, e, _ => by cases e
  | _ :: _, .ok _ :: _, _, _, e, _ => by cases e
  | _ :: _, .wt _ :: _, _, _, e, _ => by cases e
  | _ :: _, .ot _ :: _, _, _, e, _ => by cases e
  | _ :: _, .wn _ :: _, _, _, e, _ => by cases e
  | _ :: _, .on _ :: _, _, _, e, _ => by cases e
  | _ :: _, .p2 _ _ :: _, _, _, e, _ => by cases e
  | _ :: _, .wi _ _ :: _, _, _, e, _ => by cases e
  | _ :: _, .oi _ _ :: _, _, _, e, _ => by cases e
  | _ :: _, .y _ :: _, _, _, e, _ => by cases e
  | _ :: _, .sj _ _ _ _ :: _, _, _, e, _ => by cases e
end
section
variable {X : Cx} {W : WF} {cm : Str → Addr} {k : Nat} {fa : Addr} {fd : FuncData} {ps : List Str} {g : List (Str × D) → List Sl → Fr} {c m x : Str} {i : Nat} {p pos apos spos : Pos} {e : Expr} {es : List Expr} {r : AF} {kk : D → SF}
/-- the call, as far as the statement's own end -/
def tCallJ (X : Cx) (W : WF) (c m : Str) (i : Nat) (g : List (Str × D) → List Sl → Fr) (r : AF) : TE := fun σ H Q => ∃ h ρ, h.H = H ∧ Rel X.K h ρ σ ∧ match insJ (slot ρ i) with
  | some (c', fs) => c' = c ∧ fs.lookup m = none ∧ (match r ρ with
    | .ok rs => (match allV rs with
      | some ds => (match g fs (ds.map Sl.v) with
        | .ret (.sj d _ c2 fs') => c2 = c ∧ ∀ v h', Rel X.K h' (setJ i fs' ρ) σ → SG h h' → Dp X.K h'.G v d → Q v h'.H
        | _ => False)
      | none => False)
    | _ => False)
  | none => False
theorem callJ_mk {D : Ends} {h : Hs} {ρ : Env} {σ : L2.St} {Q : VK} (R : Rel X.K h ρ σ) (q : Post X.K W D h (callJ c m i g r kk ρ)) (hk : ∀ d fs' v h', Rel X.K h' (setJ i fs' ρ) σ → SG h h' → Dp X.K h'.G v d → Post X.K W D h' (kk d (setJ i fs' ρ)) → Q v h'.H) : tCallJ X W c m i g r σ h.H Q := by
  refine ⟨h, ρ, rfl, R, ?_⟩
  unfold callJ at q
  cases e1 : insJ (slot ρ i) with
  | none => rw [e1] at q; exact q.elim
  | some cf =>
    obtain ⟨c', fs⟩ := cf
    rw [e1] at q
    dsimp only at q ⊢
    split at q
    rotate_left
    · exact q.elim
    rename_i hcc
    refine ⟨hcc.1, hcc.2, ?_⟩
    cases er : r ρ with
    | exc c p => rw [er] at q; exact q.elim
    | bad => rw [er] at q; exact q.elim
    | ok rs =>
      rw [er] at q
      dsimp only at q ⊢
      cases ea : allV rs with
      | none => rw [ea] at q; exact q.elim
      | some ds =>
        rw [ea] at q
        dsimp only at q ⊢
        cases eg : g fs (ds.map Sl.v) with
        | bad => rw [eg] at q; exact q.elim
        | exc c p => rw [eg] at q; exact q.elim
        | ret rr =>
          rw [eg] at q
          cases rr with
          | sj d l2 c2 fs' =>
            dsimp only at q ⊢
            split at q
            · exact ⟨by assumption, fun v h' R' g' dv => hk d fs' v h' R' g' dv (Post.shift g' q)⟩
            · exact q.elim
          | _ => exact q.elim
theorem callJ_sq {E : L2.St → XK} {σ : L2.St} {H : Hp} {Q : VK} (hn : ps.length = es.length + 1) (hrl : ∀ ρ rs, r ρ = .ok rs → rs.length = es.length) (q : tCallJ X W c m i g r σ H Q) : tMethSq (clsOf X.K c) m (fspJ X.K c ps.length g) [] E (tVar i) (tXa X.K W r) σ H Q := by
  obtain ⟨h, ρ, rfl, R, q⟩ := q
  cases e1 : insJ (slot ρ i) with
  | none => rw [e1] at q; exact q.elim
  | some cf =>
    obtain ⟨c', fs⟩ := cf
    rw [e1] at q
    obtain ⟨rfl, hlk, q⟩ := q
    obtain ⟨l, vs0, dx, ex, hl, fl, kd, ei, ow, _⟩ := insJ_now R e1
    refine ⟨.ref l, ex, l, dx, vs0, rfl, hl, kvd_lookup kd hlk, h, ρ, rfl, R, ?_⟩
    cases er : r ρ with
    | exc c p => rw [er] at q; exact q.elim
    | bad => rw [er] at q; exact q.elim
    | ok rs =>
      rw [er] at q
      dsimp only at q
      intro vs h1 R1 g1 ok1
      cases ea : allV rs with
      | none => rw [ea] at q; exact q.elim
      | some ds =>
        rw [ea] at q
        dsimp only at q
        obtain ⟨l1, vs1, dx1, ex1, hl1, fl1, kd1, ei1, ow1, mk⟩ := insJ_now R1 e1
        rw [ex] at ex1
        cases ex1
        refine ⟨by rw [List.append_nil, List.length_cons, ok1.len, hrl ρ rs er, hn], h1.G, l, dx1, vs1, fs, vs, ds.map Sl.v, by rw [List.append_nil], R1.ch.gh, R1.ch.gf.back fl1, hl1, kd1, allV_args R1.ch _ ea ok1, ?_⟩
        cases eg : g fs (ds.map Sl.v) with
        | bad => rw [eg] at q; exact q.elim
        | exc c p => rw [eg] at q; exact q.elim
        | ret rr =>
          rw [eg] at q
          cases rr with
          | sj d l2 c2 fs' =>
            obtain ⟨rfl, q⟩ := q
            refine ⟨rfl, fun v G' H' cg ⟨dx', us, a, b, kd'⟩ dv => ?_⟩
            have fl' : (h1.call G' H').F l = none := by
              show (match h1.F l with | some o => some o | none => G' l) = none
              rw [fl1]
              exact b
            obtain ⟨ok', ow'⟩ := mk (h' := h1.call G' H') (fs' := fs') (vs' := us) (dx' := dx') a fl' kd'
            obtain ⟨R2, sg⟩ := R1.callJ ei1 ow1 ex cg ow' b ok'
            exact q v (h1.call G' H') R2 (g1.sg.trans sg) dv
          | _ => exact q.elim
theorem xjE (tk : Tk X cm W) (hc : Cls X.K (clsOf X.K c)) (hm : Meth X.K (clsOf X.K c) m fa) (F : FnOk X.prog X.w X.K X.mg X.base (L2.CX X.prog X.w) k fa fd ps (fspJ X.K c ps.length g)) (hr : Room k X.A) (hb : Binds X.K fd ps []) (hlen : ps.length = (e :: es).length + 1)
    (ho : PE X (.Name x p) (tVar i)) (ha : PA X (e :: es) (tXa X.K W r)) (hrl : ∀ ρ rs, r ρ = .ok rs → rs.length = (e :: es).length) {pl : Sem Bool}
    (hst : starEach (e :: es) X.env = (false, eval e X.env) :: starEach es X.env := by rfl) (hpl : (backTo pos (starEach es X.env)).any (·.1) = false := by rfl)
    (ht : eval (.Call (.Attribute (.Name x p) m apos) (e :: es) [] pos) X.env = (do
      let ov ← eval (.Name x p) X.env
      standAt apos.atName
      let (f, first) ← holding [ov] (getMethod ov m pl)
      callWith pos f first (backTo pos (starEach (e :: es) X.env)) (backToKw pos (keywordEach [] X.env))) := by rfl) :
    PE X (.Call (.Attribute (.Name x p) m apos) (e :: es) [] pos) (tCallJ X W c m i g r) := by
  obtain ⟨Wx, tk, hW⟩ := tk
  exact peTo (pe_methSq (pl := pl) ho hc hm F hr hb .nil (E := WE Wx) (fun σ => passAt tk σ) ha hst hpl ht) fun σ H Q q => callJ_sq hlen hrl q
theorem xjE0 (tk : Tk X cm W) (hc : Cls X.K (clsOf X.K c)) (hm : Meth X.K (clsOf X.K c) m fa) (F : FnOk X.prog X.w X.K X.mg X.base (L2.CX X.prog X.w) k fa fd ps (fspJ X.K c ps.length g)) (hr : Room k X.A) (hb : Binds X.K fd ps []) (hlen : ps.length = 1)
    (ho : PE X (.Name x p) (tVar i)) {pl : Sem Bool}
    (ht : eval (.Call (.Attribute (.Name x p) m apos) [] [] pos) X.env = (do
      let ov ← eval (.Name x p) X.env
      standAt apos.atName
      let (f, first) ← holding [ov] (getMethod ov m pl)
      callWith pos f first (backTo pos (starEach [] X.env)) (backToKw pos (keywordEach [] X.env))) := by rfl) :
    PE X (.Call (.Attribute (.Name x p) m apos) [] [] pos) (tCallJ X W c m i g aNil) := by
  obtain ⟨Wx, tk, hW⟩ := tk
  refine peTo (pe_methSq0 (pl := pl) ho hc hm F hr hb .nil (E := WE Wx) (fun σ => passAt tk σ) ht) fun σ H Q q => ?_
  obtain ⟨v, ev, a, dx, fs, ex, hl, lk, h, ρ, eh, R, q2⟩ := callJ_sq (es := []) (E := WE Wx) (ps := ps) hlen (fun ρ rs e => by cases e; rfl) q
  subst eh
  exact ⟨v, ev, a, dx, fs, ex, hl, lk, q2 [] h R (Gr.refl h) trivial⟩
/-! the statements -/
def nextS : D → SF := fun _ ρ => .next ρ
theorem xjexpr {ex : Expr} (he : PE X ex (tCallJ X W c m i g r)) (hs : swapsWith ex none spos.line X.env = pure false := by rfl) : PS X (.Expr ex spos) (tS X.K W (callJ c m i g r nextS)) := psTo (ps_expr he hs) fun D σ H ⟨h, ρ, e, R, q⟩ => by
  subst e
  exact callJ_mk R q fun d fs' v h' R' g' dv q' => q' σ h' R' (SG.refl h')
def asgD (j : Nat) : D → SF := fun d ρ => .next (ρ.set j (.v d))
theorem xjasg {ex : Expr} {j : Nat} {y : Str} {py : Pos} (he : PE X ex (tCallJ X W c m i g r)) (hN : X.N.Nodup) (hi : X.N[j]? = some y := by rfl) (hx : Loc X.env.scope y := by first | exact Or.inl rfl | exact Or.inr rfl) (hs : swapsWith ex (some (.Name y py)) spos.line X.env = pure false := by rfl)
    (hf : X.fn y = true ∨ X.env.scope.names.lookup y = some .local := by first | exact .inl rfl | exact .inr rfl | assumption) : PS X (.Assign [.Name y py] ex spos) (tS X.K W (callJ c m i g r (asgD j))) := psTo (ps_set hN hi hx he hs hf) fun D σ H ⟨h, ρ, e, R, q⟩ => by
  subst e
  exact callJ_mk R q fun d fs' v h' R' g' dv q' => q' _ h' (R'.set j ⟨v, rfl, dv⟩ fun _ _ _ z => by cases z) (SG.refl h')
def ifD (s u : SF) : D → SF := fun d ρ => match d with
  | .bool true => s ρ
  | .bool false => u ρ
  | _ => .bad
theorem xjif {ex : Expr} {a b : List Stmt} {s u : SF} (he : PE X ex (tCallJ X W c m i g r)) (ha : PSs X a (tS X.K W s)) (hb : PSs X b (tS X.K W u))
    (hv : ∀ whole, isTrue ex X.env whole = (do let v ← whole; standAt ex.pos; holding [v] (truthy v)) := by intro _; rfl) : PS X (.If ex a b spos) (tS X.K W (callJ c m i g r (ifD s u))) := psTo (ps_if (pt_val he hv) ha hb) fun D σ H ⟨h, ρ, e, R, q⟩ => by
  subst e
  show tCallJ X W c m i g r σ h.H fun x H1 => ∃ cc, x = .bl cc ∧ (if cc = true then tS X.K W s D σ H1 else tS X.K W u D σ H1)
  refine callJ_mk R q fun d fs' v h' R' g' dv q' => ?_
  unfold ifD at q'
  split at q'
  · cases dv
    exact ⟨true, rfl, tS_mk R' q'⟩
  · cases dv
    exact ⟨false, rfl, tS_mk R' q'⟩
  · exact q'.elim
/-! the address does not matter -/
theorem eqs_callJ (h : EqE r) (hk : ∀ d, EqS (kk d)) : EqS (callJ c m i g r kk) := fun l ρ => by
  have e1 : insJ (slot (swE l ρ) i) = insJ (slot ρ i) := by
    rw [sw_slot]
    cases slot ρ i <;> rfl
  have e2 : ∀ fs', setJ i fs' (swE l ρ) = swE l (setJ i fs' ρ) := fun fs' => by
    unfold setJ
    rw [sw_slot, ← sw_set]
    congr 1
    cases slot ρ i <;> rfl
  unfold callJ
  rw [e1, h l ρ]
  cases insJ (slot ρ i) with
  | none => rfl
  | some cf =>
    obtain ⟨c', fs⟩ := cf
    dsimp only
    split
    · cases r ρ with
      | ok rs =>
        dsimp only
        cases allV rs with
        | none => rfl
        | some ds =>
          dsimp only
          cases g fs (ds.map Sl.v) with
          | ret rr =>
            cases rr with
            | sj d l2 c2 fs' =>
              dsimp only
              split
              · rw [e2]
                exact hk d l _
              · rfl
            | _ => rfl
          | exc c p => rfl
          | bad => rfl
      | exc c p => rfl
      | bad => rfl
    · rfl
theorem eqs_nextS : ∀ d, EqS (nextS d) := fun _ _ _ => rfl
theorem eqs_asgD (j : Nat) : ∀ d, EqS (asgD j d) := fun d l ρ => by
  show Res.next ((swE l ρ).set j (.v d)) = Res.next (swE l (ρ.set j (.v d)))
  rw [← sw_set]
  rfl
theorem eqs_ifD {s u : SF} (hs : EqS s) (hu : EqS u) : ∀ d, EqS (ifD s u d) := fun d l ρ => by
  unfold ifD
  split
  · exact hs l ρ
  · exact hu l ρ
  · rfl
/-! ### a local holds a new one -/
def makOR (c : Str) : Fr → Er Rv
  | .ret (.oi c' fs) => if c' = c then .ok (.oi c fs) else .bad
  | .exc e none => .exc e none
  | _ => .bad
def makO (c : Str) (g : List Sl → Fr) (r : AF) : EF := fun ρ => (r ρ).bind fun rs => makOR c (g (rs.map Rv.sl))
end
section
variable {X : Cx} {W : WF} {cm : Str → Addr}
theorem xmakeO {ds : List Value} {dvs : List V} {dd : List D} {k : Nat} {f : Addr} {fd : FuncData} {ps : List Str} {g : List Sl → Fr} {c : Str} {p pos : Pos} {e : Expr} {es : List Expr} {r : AF} (tk : Tk X cm W) (M : Mk X.K (clsOf X.K c) f) (F : FnOk X.prog X.w X.K X.mg X.base (L2.CX X.prog X.w) k f fd ps (fspI X.K cm c ps.length g)) (hr : Room (k + 1) X.A) (hg : Gl X c) (hm : X.mg c = some (.ref (clsOf X.K c))) (hb : Binds X.K fd ps ds) (hd : Vals dvs ds) (hdd : ∀ G : Hp, DpAll X.K G dvs dd)
    (hlen : ps.length = (e :: es).length + dd.length + 1) (ha : PA X (e :: es) (tXa X.K W r)) (hrl : ∀ ρ rs, r ρ = .ok rs → rs.length = (e :: es).length) (hdb : (c == ("__debug__" : Str)) = false := by decide) (he : starEach (e :: es) X.env = (false, eval e X.env) :: starEach es X.env := by rfl) (hpl : (backTo pos (starEach es X.env)).any (·.1) = false := by rfl) :
    PE X (.Call (.Name c p) (e :: es) [] pos) (tX X.K W (makO c g (aDef dd r))) := by
  obtain ⟨Wx, tk, hW⟩ := tk
  refine peTo (pe_makeSq M F hr hg hm hb hd (E := WE Wx) (fun σ => passAt tk σ) ha hdb he hpl) fun σ H Q q => ?_
  obtain ⟨h, ρ, rfl, R, q⟩ := tX_iff.mp q
  have q : PE1 X.K W h ρ σ Q ((r ρ).bind fun rs => makOR c (g ((rs ++ dd.map Rv.v).map Rv.sl))) := by
    unfold makO aDef at q
    cases er : r ρ with
    | ok rs => rw [er] at q; exact q
    | exc c p => rw [er] at q; exact q
    | bad => rw [er] at q; exact q
  refine ⟨h, ρ, rfl, R, PE1.bindA q fun rs vs h1 er R1 g1 ok1 q1 => ?_⟩
  have okk := rvs_app ok1 (rvs_v (hdd h1.G))
  have hdl : dvs.length = dd.length := (hdd h1.G).len
  intro x dx hx hdx hne
  have ea := args_of R1.ch okk
  have emb : Ex h1.H (butl (upd (upd h1.H dx (.own x)) x (.ins (clsOf X.K c) dx [])) x) := fun a o ha => by
    have n1 : a ≠ x := fun z => by rw [z, hx] at ha; cases ha
    have n2 : a ≠ dx := fun z => by rw [z, hdx] at ha; cases ha
    unfold butl
    rw [if_neg n1, upd_ne n1, upd_ne n2]
    exact ha
  have new : Ex h1.H (upd (upd h1.H dx (.own x)) x (.ins (clsOf X.K c) dx [])) := fun a o ha => by
    have n1 : a ≠ x := fun z => by rw [z, hx] at ha; cases ha
    have n2 : a ≠ dx := fun z => by rw [z, hdx] at ha; cases ha
    rw [upd_ne n1, upd_ne n2]
    exact ha
  refine ⟨by rw [List.length_cons, List.length_append, ok1.len, hrl ρ rs er, hdl, hlen], h1.G, x, dx, vs ++ dvs, (rs ++ dd.map Rv.v).map Rv.sl, rfl, R1.ch.gh.trans new, R1.ch.gh.back hx, upd_same, ea.mono emb, ?_⟩
  cases eg : g ((rs ++ dd.map Rv.v).map Rv.sl) with
  | bad => rw [eg] at q1; exact q1.elim
  | exc c' p =>
    rw [eg] at q1
    cases p with
    | none =>
      intro G' H' cg
      obtain ⟨gr, ch⟩ := make_gr R1.ch hx hdx cg
      exact hW _ _ _ _ (q1 (h1.call G' H') (R1.grow gr ch) gr)
    | some p => exact q1.elim
  | ret res =>
    rw [eg] at q1
    cases res with
    | oi c' fs =>
      unfold makOR at q1
      dsimp only at q1
      split at q1
      · rename_i ec
        subst ec
        refine ⟨rfl, fun G' H' cg ⟨dx', us, a, b, d⟩ => ⟨rfl, ?_⟩⟩
        obtain ⟨gr, ch⟩ := make_gr R1.ch hx hdx cg
        refine q1 (.ref x) (h1.call _ H') (R1.grow gr ch) gr ⟨x, us, dx', rfl, hx, a, ?_, d⟩
        show (match h1.F x with | some o => some o | none => G' x) = none
        rw [R1.ch.fh.back hx]
        exact b
      · exact q1.elim
    | _ => exact q1.elim
end
end Sq

namespace Sq
open PySem L2
/-- _law_cell(_law_script, _law_k); slots: 0:_law_script 1:_law_k -/
def b_law_cell : SF :=
  (seqS (ifS (tstF (binF ltR (varF 1) (unF lenR (varF 0)))) (retS (binF ixR (varF 0) (varF 1)))
  skipS)
  (seqS (ifS (tstF (binF eqR (unF lenR (varF 0)) (cF (.int 0)))) (retS (cF (.int 0)))
  skipS)
  (retS (binF (flat2 (int2 imod)) (binF addR (binF (flat2 (int2 imul)) (binF (flat2 (int2 imod)) (binF ixR (varF 0) (binF (flat2 (int2 imod)) (varF 1) (unF lenR (varF 0)))) (cF (.int 1000003))) (cF (.int 48271))) (binF (flat2 (int2 imul)) (binF (flat2 (int2 imul)) (varF 1) (varF 1)) (cF (.int 7919)))) (cF (.int 1000003))))))
def f_law_cell : List Sl → Fr := fnR b_law_cell 2

/-- _law_free(_law_script); slots: 0:_law_script -/
def b_law_free : SF :=
  (retS (andF (binF gtR (unF lenR (varF 0)) (cF (.int 0))) (binF eqR (binF (flat2 (int2 imod)) (binF ixR (varF 0) (cF (.int 0))) (cF (.int 2))) (cF (.int 0)))))
def f_law_free : List Sl → Fr := fnR b_law_free 1

/-- _law_row(_law_script, _law_at, _law_many); slots: 0:_law_script 1:_law_at 2:_law_many 3:_law_left 4:_law_row_here 5:_law_cell_here 6:_law_k -/
def b_law_row_3 : SF :=
  (seqS (asgS (lrgF (cF (.int 0)) (varF 2)) (asgn 3))
  (seqS (asgS (lstF aNil) (asgn 4))
  (seqS (asgS (binF (flat2 (int2 imod)) (callF f_law_cell (aCons (varF 0) (aCons (varF 1) aNil))) (binF (flat2 (int2 ipow)) (cF (.int 10)) (cF (.int 60)))) (asgn 5))
  (seqS (forS (rg1F (varF 2)) (asgn 6)
  (seqS (ifS (notT (tstF (callF f_law_free (aCons (varF 0) aNil)))) (asgS (callF f_law_cell (aCons (varF 0) (aCons (binF addR (varF 1) (varF 6)) aNil))) (asgn 5))
  skipS)
  (seqS (appM 4 (popAtM 3 (binF (flat2 (int2 imod)) (varF 5) (unF lenR (varF 3)))))
  (asgS (binF (flat2 (int2 idiv)) (varF 5) (binF addR (unF lenR (varF 3)) (cF (.int 1)))) (asgn 5)))))
  (retVar 4)))))
def f_law_row_3 : List Sl → Fr := fnR b_law_row_3 7

/-- _law_back(_law_row_here); slots: 0:_law_row_here 1:_law_told 2:_law_k -/
def b_law_back : SF :=
  (seqS (asgS (lcF (itF itC (varF 0)) (asgn 2) [2] yesT (cF (.int 0))) (asgn 1))
  (seqS (forS (rg1F (unF lenR (varF 0))) (asgn 2)
  (setIt 1 (binF ixR (varF 0) (varF 2)) (varF 2)))
  (retVar 1)))
def f_law_back : List Sl → Fr := fnR b_law_back 3

/-- _law_moved(_law_sheet, _law_letter); slots: 0:_law_sheet 1:_law_letter 2:_law_first 3:_law_second 4:_law_left 5:_law_k -/
def b_law_moved_6 : SF :=
  (seqS (asgS (varF 0) (unpT [asgn 2, asgn 3]))
  (seqS (ifS (tstF (binF eqR (varF 1) (cF (.str "s")))) (seqS (asgS (callF f_law_back (aCons (varF 2) aNil)) (asgn 4))
  (frzS 4 (retS (tupF (aCons (varF 2) (aCons (unF tupleR (lcF (rg1F (unF lenR (varF 4))) (asgn 5) [5] yesT (binF ixR (varF 3) (binF ixR (varF 4) (varF 5))))) aNil))))))
  skipS)
  (retS (tupF (aCons (unF tupleR (callF f_law_back (aCons (varF 3) aNil))) (aCons (varF 2) aNil))))))
def f_law_moved_6 : List Sl → Fr := fnR b_law_moved_6 6

/-- size(sheet); slots: 0:sheet -/
def b_size : SF :=
  (retS (unF lenR (binF ixR (varF 0) (cF (.int 0)))))
def f_size : List Sl → Fr := fnR b_size 1

/-- renumbered(sheet, f); slots: 0:sheet 1:f 2:many 3:told 4:row 5:anew 6:square -/
def b_renumbered : SF :=
  (seqS (asgS (callF f_size (aCons (varF 0) aNil)) (asgn 2))
  (seqS (ifS (tstF (binF neR (unF sortR (varF 1)) (lrgF (cF (.int 0)) (varF 2)))) (excS "NoRenumbering")
  skipS)
  (seqS (asgS (lstF aNil) (asgn 3))
  (seqS (forS (itF itS (varF 0)) (asgn 4)
  (seqS (asgS (lcF (rg1F (varF 2)) (asgn 6) [6] yesT (cF (.int 0))) (asgn 5))
  (seqS (forS (rg1F (varF 2)) (asgn 6)
  (setIt 5 (binF ixR (varF 1) (varF 6)) (binF ixR (varF 1) (binF ixR (varF 4) (varF 6)))))
  (appS 3 (unF tupleR (varF 5))))))
  (frzS 3 (retS (tupF (aCons (binF ixR (varF 3) (cF (.int 0))) (aCons (binF ixR (varF 3) (cF (.int 1))) aNil)))))))))
def f_renumbered : List Sl → Fr := fnR b_renumbered 7

/-- is_square(square, many); slots: 0:square 1:many -/
def b_is_square : SF :=
  (seqS (ifS (orT (notT (tstF (unF (isiR "int") (varF 0)))) (tstF (unF (isiR "bool") (varF 0)))) (retS (cF (.bool false)))
  skipS)
  (retS (chF leR ltR (cF (.int 0)) (varF 0) (varF 1))))
def f_is_square : List Sl → Fr := fnR b_is_square 2

/-- check_square(sheet, square); slots: 0:sheet 1:square -/
def b_check_square : SF :=
  (ifS (notT (tstF (callF f_is_square (aCons (varF 1) (aCons (callF f_size (aCons (varF 0) aNil)) aNil))))) (excS "NoSquare")
  skipS)
def f_check_square : List Sl → Fr := fnR b_check_square 2

/-- met_from(right, up, first); slots: 0:right 1:up 2:first 3:met 4:at 5:square -/
def b_met_from : SF :=
  (seqS (asgS (lstF (aCons (varF 2) aNil)) (asgn 3))
  (seqS (asgS (cF (.int 0)) (asgn 4))
  (seqS (whileS (tstF (binF ltR (varF 4) (unF lenR (varF 3)))) (seqS (forS (itF itS (tupF (aCons (binF ixR (varF 0) (binF ixR (varF 3) (varF 4))) (aCons (binF ixR (varF 1) (binF ixR (varF 3) (varF 4))) aNil)))) (asgn 5)
  (ifS (tstF (binF (inR true) (varF 5) (varF 3))) (appS 3 (varF 5))
  skipS))
  (asgS (binF addR (varF 4) (cF (.int 1))) (asgn 4))))
  (retVar 3))))
def f_met_from : List Sl → Fr := fnR b_met_from 6

/-- numbering(sheet, first); slots: 0:sheet 1:first 2:met 3:numbers 4:number 5:square -/
def b_numbering : SF :=
  (seqS (exprS (callF f_check_square (aCons (varF 0) (aCons (varF 1) aNil))))
  (seqS (asgS (callF f_met_from (aCons (binF ixR (varF 0) (cF (.int 0))) (aCons (binF ixR (varF 0) (cF (.int 1))) (aCons (varF 1) aNil)))) (asgn 2))
  (seqS (asgS (lcF (itF itC (varF 2)) (asgn 5) [5] yesT (cF (.int 0))) (asgn 3))
  (frzS 2 (seqS (forS (enF itS (varF 2)) (unpT [asgn 4, asgn 5])
  (setIt 3 (varF 5) (varF 4)))
  (retVar 3))))))
def f_numbering : List Sl → Fr := fnR b_numbering 6

/-- form(sheet); slots: 0:sheet 1:first -/
def b_form_2 : SF :=
  (retS (unF minA (lcF (rg1F (callF f_size (aCons (varF 0) aNil))) (asgn 1) [1] yesT (callF f_renumbered (aCons (varF 0) (aCons (callF f_numbering (aCons (varF 0) (aCons (varF 1) aNil))) aNil))))))
def f_form_2 : List Sl → Fr := fnR b_form_2 2

/-- check_word(word); slots: 0:word 1:letter -/
def b_check_word_2 : SF :=
  (seqS (ifS (tstF (binF gtR (unF lenR (varF 0)) (cF (.int 1000)))) (excS "NoWord")
  skipS)
  (forS (itF itT (varF 0)) (asgn 1)
  (ifS (tstF (binF (inR true) (varF 1) (cF (.str "st")))) (excS "NoWord")
  skipS)))
def f_check_word_2 : List Sl → Fr := fnR b_check_word_2 2

/-- back_row(row); slots: 0:row 1:told 2:at 3:square -/
def b_back_row : SF :=
  (seqS (asgS (lcF (itF itC (varF 0)) (asgn 3) [3] yesT (cF (.int 0))) (asgn 1))
  (seqS (forS (enF itS (varF 0)) (unpT [asgn 2, asgn 3])
  (setIt 1 (varF 3) (varF 2)))
  (frzS 1 (retS (unF tupleR (varF 1))))))
def f_back_row : List Sl → Fr := fnR b_back_row 4

/-- sheared(sheet); slots: 0:sheet 1:left 2:right 3:up 4:square -/
def b_sheared : SF :=
  (seqS (asgS (varF 0) (unpT [asgn 2, asgn 3]))
  (seqS (asgS (callF f_back_row (aCons (varF 2) aNil)) (asgn 1))
  (frzS 1 (retS (tupF (aCons (varF 2) (aCons (unF tupleR (lcF (itF itC (varF 1)) (asgn 4) [4] yesT (binF ixR (varF 3) (varF 4)))) aNil)))))))
def f_sheared : List Sl → Fr := fnR b_sheared 5

/-- turned(sheet); slots: 0:sheet 1:right 2:up -/
def b_turned : SF :=
  (seqS (asgS (varF 0) (unpT [asgn 1, asgn 2]))
  (retS (tupF (aCons (callF f_back_row (aCons (varF 2) aNil)) (aCons (varF 1) aNil)))))
def f_turned : List Sl → Fr := fnR b_turned 3

/-- moved(sheet, word); slots: 0:sheet 1:word 2:letter -/
def b_moved_2 : SF :=
  (seqS (exprS (callF f_check_word_2 (aCons (varF 1) aNil)))
  (seqS (forS (itF itT (varF 1)) (asgn 2)
  (ifS (tstF (binF eqR (varF 2) (cF (.str "s")))) (asgS (callF f_sheared (aCons (varF 0) aNil)) (asgn 0))
  (asgS (callF f_turned (aCons (varF 0) aNil)) (asgn 0))))
  (retVar 0)))
def f_moved_2 : List Sl → Fr := fnR b_moved_2 3

/-- reached(sheet, most); slots: 0:sheet 1:most 2:found 3:have 4:at 5:letter 6:here 7:word 8:there -/
def b_reached_3 : SF :=
  (seqS (asgS (lstF (aCons (tupF (aCons (callF f_form_2 (aCons (varF 0) aNil)) (aCons (cF (.str "")) aNil))) aNil)) (asgn 2))
  (seqS (asgS (dispN (flatA [((binF ixR (binF ixR (varF 2) (cF (.int 0))) (cF (.int 0))), (cF (.bool true)))])) (asgn 3))
  (seqS (asgS (cF (.int 0)) (asgn 4))
  (seqS (whileS (tstF (binF ltR (varF 4) (unF lenR (varF 2)))) (seqS (asgS (binF ixR (varF 2) (varF 4)) (unpT [asgn 6, asgn 7]))
  (seqS (forS (itF itT (cF (.str "st"))) (asgn 5)
  (seqS (asgS (callF f_form_2 (aCons (callF f_moved_2 (aCons (varF 6) (aCons (varF 5) aNil))) aNil)) (asgn 8))
  (ifS (tstF (binF (inN true) (varF 8) (varF 3))) (seqS (ifS (tstF (binF geR (unF lenR (varF 2)) (varF 1))) (excS "TooMany")
  skipS)
  (seqS (setN 3 (varF 8) (cF (.bool true)))
  (appS 2 (tupF (aCons (varF 8) (aCons (binF addR (varF 7) (varF 5)) aNil))))))
  skipS)))
  (asgS (binF addR (varF 4) (cF (.int 1))) (asgn 4)))))
  (retVar 2)))))
def f_reached_3 : List Sl → Fr := fnR b_reached_3 9

/-- _law_refused(_law_sheet, _law_most); slots: 0:_law_sheet 1:_law_most 2:_law_refused_here 3:e -/
def b_law_refused_16 : SF :=
  (seqS (asgS (cF (.bool false)) (asgn 2))
  (seqS (tryAsS (exprS (callF f_reached_3 (aCons (varF 0) (aCons (varF 1) aNil)))) (mL ["TooMany"] ["NoRenumbering", "NoSquare", "NoWord"]) 3 fun _ => asgS (cF (.bool true)) (asgn 2))
  (retVar 2)))
def f_law_refused_16 : List Sl → Fr := fnR b_law_refused_16 4

/-- law(_law_script); slots: 0:_law_script 1:_law_cell_here 2:_law_many 3:_law_number 4:_law_first 5:_law_k 6:_law_sheet 7:_law_one 8:_law_due 9:_law_prime 10:_law_found 11:_law_there 12:_law_word 13:_law_right 14:_law_up -/
def b_law_k74_whole_row_sheets_counted : SF :=
  (seqS (asgS (callF f_law_cell (aCons (varF 0) (aCons (cF (.int 0)) aNil))) (asgn 1))
  (seqS (asgS (binF addR (cF (.int 1)) (binF (flat2 (int2 imod)) (binF (flat2 (int2 idiv)) (varF 1) (cF (.int 2))) (cF (.int 8)))) (asgn 2))
  (seqS (asgS (callF f_law_row_3 (aCons (varF 0) (aCons (cF (.int 1)) (aCons (varF 2) aNil)))) (asgn 3))
  (seqS (asgS (lcF (rg1F (varF 2)) (asgn 5) [5] yesT (cF (.int 0))) (asgn 4))
  (seqS (forS (rg1F (varF 2)) (asgn 5)
  (setIt 4 (binF ixR (varF 3) (varF 5)) (binF ixR (varF 3) (binF (flat2 (int2 imod)) (binF addR (varF 5) (cF (.int 1))) (varF 2)))))
  (seqS (asgS (tupF (aCons (unF tupleR (varF 4)) (aCons (trgF (varF 2)) aNil))) (asgn 6))
  (seqS (forS (itF itS (slF (varF 0) (some (cF (.int 9))) (some (cF (.int 63))))) (asgn 7)
  (asgS (callF f_law_moved_6 (aCons (varF 6) (aCons (binF ixR (cF (.str "st")) (binF (flat2 (int2 imod)) (varF 7) (cF (.int 2)))) aNil))) (asgn 6)))
  (seqS (asgS (varF 2) (asgn 8))
  (seqS (forS (itF itS (tupF (aCons (cF (.int 2)) (aCons (cF (.int 3)) (aCons (cF (.int 5)) (aCons (cF (.int 7)) aNil)))))) (asgn 9)
  (ifS (tstF (binF eqR (binF (flat2 (int2 imod)) (varF 2) (varF 9)) (cF (.int 0)))) (asgS (binF (flat2 (int2 imul)) (binF (flat2 (int2 idiv)) (varF 8) (varF 9)) (binF addR (varF 9) (cF (.int 1)))) (asgn 8))
  skipS))
  (seqS (ifS (andT (tstF (binF gtR (varF 2) (cF (.int 1)))) (andT (tstF (binF eqR (binF (flat2 (int2 imod)) (binF (flat2 (int2 idiv)) (varF 1) (cF (.int 16))) (cF (.int 3))) (cF (.int 1)))) (notT (tstF (callF f_law_refused_16 (aCons (varF 6) (aCons (binF (flat2 (int2 isub)) (varF 8) (cF (.int 1))) aNil))))))) (retS (cF (.bool false)))
  skipS)
  (seqS (asgS (callF f_reached_3 (aCons (varF 6) (aCons (binF ixR (lstF (aCons (varF 8) (aCons (cF (.int 200)) aNil))) (binF (flat2 (int2 imod)) (binF (flat2 (int2 idiv)) (varF 1) (cF (.int 48))) (cF (.int 2)))) aNil))) (asgn 10))
  (seqS (ifS (orT (notT (tstF (unF (isiR "list") (varF 10)))) (tstF (binF neR (unF lenR (varF 10)) (varF 8)))) (retS (cF (.bool false)))
  skipS)
  (frzS 10 (seqS (forS (itF itS (varF 10)) (unpT [asgn 11, asgn 12])
  (seqS (asgS (varF 11) (unpT [asgn 13, asgn 14]))
  (ifS (tstF (binF neR (lcF (rg1F (varF 2)) (asgn 5) [5] yesT (binF ixR (varF 14) (binF ixR (varF 13) (varF 5)))) (lcF (rg1F (varF 2)) (asgn 5) [5] yesT (binF ixR (varF 13) (binF ixR (varF 14) (varF 5)))))) (retS (cF (.bool false)))
  skipS)))
  (retS (cF (.bool true)))))))))))))))))
def f_law_k74_whole_row_sheets_counted : List Sl → Fr := fnR b_law_k74_whole_row_sheets_counted 15

theorem fnR_of {f : SF} {n : Nat} {as : List Sl} {r : Rv} (h : f (as ++ List.replicate (n - as.length) .u) = .ret r) : fnR f n as = .ret r := by
  unfold fnR
  rw [h]
theorem fnR_none {f : SF} {n : Nat} {as : List Sl} {ρ : Env} (h : f (as ++ List.replicate (n - as.length) .u) = .next ρ) : fnR f n as = .ret (.v .none) := by
  unfold fnR
  rw [h]
theorem fnR_exc {f : SF} {n : Nat} {as : List Sl} {ρ : Env} {c : Str} {p} (h : f (as ++ List.replicate (n - as.length) .u) = .exc c p ρ) : fnR f n as = .exc c p := by
  unfold fnR
  rw [h]
theorem zD_get {ns : List Int} {k : Nat} (h : k < ns.length) : (zD ns)[k]? = some (.int (ns.getD k 0)) := by
  simp [zD, List.getElem?_eq_getElem h, List.getD_eq_getElem?_getD]
theorem nD_one (x : Nat) : nD [x] = [.int (x : Int)] := rfl
theorem erase_map {α β : Type} (f : α → β) : ∀ (l : List α) (i : Nat), (l.map f).eraseIdx i = (l.eraseIdx i).map f
  | [], _ => rfl
  | _ :: _, 0 => rfl
  | a :: l, i + 1 => congrArg (f a :: ·) (erase_map f l i)
theorem nD_set (w : List Nat) (i y : Nat) : (nD w).set i (.int (y : Int)) = nD (w.set i y) := by simp [nD]
theorem ixN_nat {n i : Nat} (h : i < n) : ixN n (i : Int) = some i := by
  unfold ixN
  rw [if_pos (Int.natCast_nonneg i), if_pos (by omega)]
  rfl

def put (hv : List Nat) (y : Nat) : List Nat := if y ∈ hv then hv else hv ++ [y]
theorem put_sub {hv : List Nat} {y x : Nat} (h : x ∈ hv) : x ∈ put hv y := by
  unfold put
  split
  · exact h
  · exact List.mem_append_left _ h
theorem put_self {hv : List Nat} {y : Nat} : y ∈ put hv y := by
  unfold put
  split
  · assumption
  · simp
theorem put_mem {hv : List Nat} {y x : Nat} (h : x ∈ put hv y) : x ∈ hv ∨ x = y := by
  unfold put at h
  split at h
  · exact .inl h
  · simpa using h
theorem put_nd {hv : List Nat} {y : Nat} (h : hv.Nodup) : (put hv y).Nodup := by
  unfold put
  split
  · exact h
  · rename_i hn
    exact (List.perm_append_comm.nodup_iff).mpr (List.nodup_cons.mpr ⟨hn, h⟩)
theorem put_ap {hv : List Nat} {y i : Nat} (h : i < hv.length) : ap (put hv y) i = ap hv i := by
  unfold put
  split
  · rfl
  · refine ap_of ?_
    rw [List.getElem?_append_left h]
    exact ap_get h
theorem put_len {hv : List Nat} {y : Nat} : hv.length ≤ (put hv y).length := by
  unfold put
  split
  · exact Nat.le_refl _
  · simp
structure TogInv (a b : List Nat) (m : Nat) (hv : List Nat) (j : Nat) : Prop where
  nd : hv.Nodup
  lt : ∀ x ∈ hv, x < m
  z : 0 ∈ hv
  le : j ≤ hv.length
  done : ∀ i, i < j → ap a (ap hv i) ∈ hv ∧ ap b (ap hv i) ∈ hv
  re : ∀ x ∈ hv, Re a b x
theorem TogInv.len {a b hv : List Nat} {m j : Nat} (h : TogInv a b m hv j) : hv.length ≤ m := by
  have := List.Nodup.length_le_of_subset h.nd (l₂ := List.range m) fun x hx => List.mem_range.mpr (h.lt x hx)
  simpa using this
theorem TogInv.step {a b hv : List Nat} {m j : Nat} (ha : Pm a m) (hb : Pm b m) (h : TogInv a b m hv j) (hj : j < hv.length) : TogInv a b m (put (put hv (ap a (ap hv j))) (ap b (ap hv j))) (j + 1) := by
  have hm : ap hv j ∈ hv := ap_mem hj
  have hlt := h.lt _ hm
  refine ⟨put_nd (put_nd h.nd), fun x hx => ?_, put_sub (put_sub h.z), ?_, fun i hi => ?_, fun x hx => ?_⟩
  · rcases put_mem hx with e | e
    · rcases put_mem e with e | e
      · exact h.lt x e
      · rw [e]; exact ha.ap_lt hlt
    · rw [e]; exact hb.ap_lt hlt
  · have h1 := put_len (hv := hv) (y := ap a (ap hv j))
    have h2 := put_len (hv := put hv (ap a (ap hv j))) (y := ap b (ap hv j))
    omega
  · have hil : i < hv.length := by omega
    rw [put_ap (Nat.lt_of_lt_of_le hil put_len), put_ap hil]
    by_cases e : i = j
    · subst e
      exact ⟨put_sub put_self, put_self⟩
    · have := h.done i (by omega)
      exact ⟨put_sub (put_sub this.1), put_sub (put_sub this.2)⟩
  · rcases put_mem hx with e | e
    · rcases put_mem e with e | e
      · exact h.re x e
      · rw [e]; exact .fa (h.re _ hm)
    · rw [e]; exact .fb (h.re _ hm)
theorem pop_perm {left row : List Nat} {j : Nat} (hj : j < left.length) {m : Nat} (hp : (left ++ row).Perm (List.range m)) : (left.eraseIdx j ++ (row ++ [left[j]])).Perm (List.range m) := by
  refine List.Perm.trans ?_ hp
  have : (left[j] :: left.eraseIdx j).Perm left := by
    rw [List.eraseIdx_eq_take_drop_succ]
    have := (List.perm_middle (a := left[j]) (l₁ := left.take j) (l₂ := left.drop (j + 1))).symm
    refine this.trans ?_
    rw [List.getElem_cons_drop hj, List.take_append_drop]
  have h2 : (left.eraseIdx j ++ (row ++ [left[j]])).Perm ((left[j] :: left.eraseIdx j) ++ row) := by
    rw [← List.append_assoc]
    refine List.perm_append_comm.trans ?_
    simp
  exact h2.trans (this.append_right row)

theorem cell_ok (ns : List Int) (k : Nat) (hk : k < 2 ^ 32) : ∃ c : Int, f_law_cell [.v (.list (zD ns)), .v (.int k)] = .ret (.v (.int c)) := by
  by_cases h : k < ns.length
  · refine ⟨ns.getD k 0, fnR_of ?_⟩
    show b_law_cell [.v (.list (zD ns)), .v (.int k)] = _
    have hx : ixR (.v (.list (zD ns))) (.v (.int k)) = .ok (.v (.int (ns.getD k 0))) := ixR_vl (at_nat.trans (zD_get h))
    unfold b_law_cell
    simp [hx, h]
  · by_cases h0 : ns.length = 0
    · refine ⟨0, fnR_of ?_⟩
      show b_law_cell [.v (.list (zD ns)), .v (.int k)] = _
      have hk : ¬ (k : Int) < 0 := by omega
      unfold b_law_cell
      simp [h0, hk]
    · obtain ⟨q, hm, hq⟩ : ∃ q : Nat, imod (k : Int) (ns.length : Int) = .ok (.int (q : Int)) ∧ q < ns.length := ⟨k % ns.length, imod_s (by omega), Nat.mod_lt _ (by omega)⟩
      obtain ⟨v, hx⟩ : ∃ v : Int, ixR (.v (.list (zD ns))) (.v (.int q)) = .ok (.v (.int v)) := ⟨_, ixR_vl (at_nat.trans (zD_get hq))⟩
      obtain ⟨w, h1⟩ : ∃ w : Int, imod v 1000003 = .ok (.int w) := ⟨_, imod_s (by decide)⟩
      obtain ⟨x, h2⟩ : ∃ x : Int, imul w 48271 = .ok (.int x) := ⟨_, imul_r (by decide)⟩
      obtain ⟨y, h3⟩ : ∃ y : Int, imul (k : Int) (k : Int) = .ok (.int y) := ⟨_, imul_r (by omega)⟩
      obtain ⟨z, h4⟩ : ∃ z : Int, imul y 7919 = .ok (.int z) := ⟨_, imul_r (by decide)⟩
      obtain ⟨c, h5⟩ : ∃ c : Int, imod (x + z) 1000003 = .ok (.int c) := ⟨_, imod_s (by decide)⟩
      refine ⟨c, fnR_of ?_⟩
      show b_law_cell [.v (.list (zD ns)), .v (.int k)] = _
      unfold b_law_cell
      simp [h0, h, hm, hx, h1, h2, h3, h4, h5]

theorem free_ok (ns : List Int) : ∃ b, f_law_free [.v (.list (zD ns))] = .ret (.v (.bool b)) := by
  by_cases h0 : ns.length = 0
  · refine ⟨false, fnR_of ?_⟩
    show b_law_free [.v (.list (zD ns))] = _
    unfold b_law_free
    simp [h0]
  · have hx : ixR (.v (.list (zD ns))) (.v (.int (0 : Nat))) = .ok (.v (.int (ns.getD 0 0))) := ixR_vl (at_nat.trans (zD_get (by omega)))
    obtain ⟨w, h1⟩ : ∃ w : Int, imod (ns.getD 0 0) 2 = .ok (.int w) := ⟨_, imod_s (by decide)⟩
    generalize ns.getD 0 0 = v at *
    have hx' : ixR (.v (.list (zD ns))) (.v (.int 0)) = .ok (.v (.int v)) := hx
    refine ⟨decide (w = 0), fnR_of ?_⟩
    show b_law_free [.v (.list (zD ns))] = _
    have hpos : 0 < ns.length := by omega
    unfold b_law_free
    simp [hpos, hx', h1]
def r3Env (ns : List Int) (t m : Nat) (left row : List Nat) (c : Int) (x : Sl) : Env := [.v (.list (zD ns)), .v (.int t), .v (.int m), .o (nD left), .o (nD row), .v (.int c), x]
def r3Body : SF := (seqS (ifS (notT (tstF (callF f_law_free (aCons (varF 0) aNil)))) (asgS (callF f_law_cell (aCons (varF 0) (aCons (binF addR (varF 1) (varF 6)) aNil))) (asgn 5))
  skipS)
  (seqS (appM 4 (popAtM 3 (binF (flat2 (int2 imod)) (varF 5) (unF lenR (varF 3)))))
  (asgS (binF (flat2 (int2 idiv)) (varF 5) (binF addR (unF lenR (varF 3)) (cF (.int 1)))) (asgn 5))))
theorem r3_step (ns : List Int) (t m i : Nat) (left row : List Nat) (c : Int) (ht : t + i < 2 ^ 32) (hl : left.length < 100000) (hp : 0 < left.length) (hr : row.length < 100000) : ∃ j : Nat, ∃ h : j < left.length, ∃ c' : Int,
    r3Body (r3Env ns t m left row c (.v (.int i))) = .next (r3Env ns t m (left.eraseIdx j) (row ++ [left[j]]) c' (.v (.int i))) := by
  obtain ⟨b, hb⟩ := free_ok ns
  obtain ⟨c2, e1⟩ : ∃ c2 : Int, (ifS (notT (tstF (callF f_law_free (aCons (varF 0) aNil)))) (asgS (callF f_law_cell (aCons (varF 0) (aCons (binF addR (varF 1) (varF 6)) aNil))) (asgn 5)) skipS) (r3Env ns t m left row c (.v (.int i))) = .next (r3Env ns t m left row c2 (.v (.int i))) := by
    cases b with
    | true => exact ⟨c, by unfold r3Env; simp [hb]⟩
    | false =>
      obtain ⟨c2, hc⟩ := cell_ok ns (t + i) (by omega)
      have hc' : f_law_cell [.v (.list (zD ns)), .v (.int ((t : Int) + i))] = .ret (.v (.int c2)) := by rw [← Int.natCast_add]; exact hc
      exact ⟨c2, by unfold r3Env; simp [hb, hc']⟩
  have hmod : imod c2 (left.length : Int) = .ok (.int (c2 % left.length)) := imod_s (by omega)
  have h0 : 0 ≤ c2 % (left.length : Int) := Int.emod_nonneg _ (by omega)
  have h1 : c2 % (left.length : Int) < left.length := Int.emod_lt_of_pos _ (by omega)
  generalize hz : c2 % (left.length : Int) = z at *
  obtain ⟨j, rfl⟩ := Int.eq_ofNat_of_zero_le h0
  have hj : j < left.length := by omega
  have hg : (nD left)[j]? = some (.int (left[j] : Nat)) := by simp [nD, hj]
  have hin : (j : Int) < 1000000 := by omega
  have hd : (nD left).eraseIdx j = nD (left.eraseIdx j) := erase_map _ _ _
  have hel : (left.eraseIdx j).length < 100000 := by
    have := List.length_eraseIdx_le left j
    omega
  obtain ⟨c3, hc3⟩ : ∃ c3 : Int, idiv c2 (((left.eraseIdx j).length : Int) + 1) = .ok (.int c3) := ⟨_, idiv_s (by omega)⟩
  refine ⟨j, hj, c3, ?_⟩
  unfold r3Body
  rw [seq_go e1]
  rw [seq_go (ρ' := r3Env ns t m (left.eraseIdx j) (row ++ [left[j]]) c2 (.v (.int i))) (by
    unfold r3Env appM popAtM
    simp [hmod, hg, hin, hj, hr, hd, nD_app, nD_one])]
  generalize left.eraseIdx j = l2 at *
  unfold r3Env
  simp [hc3]
theorem row3_ok (ns : List Int) (t m : Nat) (ht : t < 2 ^ 31) (hm : m ≤ 1000) : ∃ r, Pm r m ∧ f_law_row_3 [.v (.list (zD ns)), .v (.int t), .v (.int m)] = .ret (.o (nD r)) := by
  obtain ⟨c, hc⟩ := cell_ok ns t (by omega)
  obtain ⟨T, hT, j3⟩ : ∃ T : Int, 0 < T ∧ ipow 10 60 = .ok (.int T) := by
    refine ⟨10 ^ 60, by decide, ?_⟩
    unfold ipow
    rw [if_pos (by decide)]
    rfl
  obtain ⟨c0, j4⟩ : ∃ w : Int, imod c T = .ok (.int w) := ⟨_, imod_s hT⟩
  obtain ⟨ρ', e, left, row, c', x, eρ, hp, hr⟩ := for_rg (f := varF 2) (s := r3Body) (ρ := r3Env ns t m (List.range m) [] c0 .u) (n := m) 6
    (fun i ρ => ∃ left row c' x, ρ = r3Env ns t m left row c' x ∧ (left ++ row).Perm (List.range m) ∧ row.length = i) (by unfold r3Env; simp) (by omega)
    ⟨List.range m, [], c0, .u, rfl, by simp, rfl⟩ fun i ρ hi ⟨left, row, c', x, eρ, hp, hri⟩ => by
      subst eρ
      have hlen := hp.length_eq
      simp at hlen
      obtain ⟨j, hj, c2, e⟩ := r3_step ns t m i left row c' (by omega) (by omega) (by omega) (by omega)
      exact ⟨_, e, left.eraseIdx j, row ++ [left[j]], c2, _, rfl, pop_perm hj hp, by simp [hri]⟩
  subst eρ
  have hlen := hp.length_eq
  simp at hlen hr
  have : left = [] := List.length_eq_zero_iff.mp (by omega)
  subst this
  refine ⟨row, Pm.of_perm (by simpa using hp), fnR_of ?_⟩
  have e1 : lrgF (cF (.int 0)) (varF 2) [.v (.list (zD ns)), .v (.int t), .v (.int m), .u, .u, .u, .u] = .ok (.o (nD (List.range m))) := lrg_e (a := .v (.int m)) rfl rfl (by omega)
  show (seqS _ (seqS _ (seqS _ (seqS (forS (rg1F (varF 2)) (asgn 6) r3Body) _)))) [.v (.list (zD ns)), .v (.int t), .v (.int m), .u, .u, .u, .u] = _
  rw [seq_go (ρ' := [.v (.list (zD ns)), .v (.int t), .v (.int m), .o (nD (List.range m)), .u, .u, .u]) (by rw [asgS_e, e1]; rfl)]
  rw [seq_go (ρ' := [.v (.list (zD ns)), .v (.int t), .v (.int m), .o (nD (List.range m)), .o [], .u, .u]) (by simp)]
  rw [seq_go (ρ' := r3Env ns t m (List.range m) [] c0 .u) (by
    show _ = Res.next [.v (.list (zD ns)), .v (.int t), .v (.int m), .o (nD (List.range m)), .o [], .v (.int c0), .u]
    simp [hc, j3, j4]), seq_go e]
  unfold r3Env
  simp

/-- a row turned round, told turn by turn -/
def BackInv (p : List Nat) (n i : Nat) (w : List Nat) : Prop := w.length = n ∧ ∀ s, s < i → ap w (ap p s) = s
theorem back_step {p w : List Nat} {n i : Nat} (hp : Pm p n) (h : BackInv p n i w) (hi : i < n) : BackInv p n (i + 1) (w.set (ap p i) i) := by
  refine ⟨by simpa using h.1, fun s hs => ?_⟩
  by_cases e : s = i
  · subst e
    exact ap_set_self (by rw [h.1]; exact hp.ap_lt hi)
  · rw [ap_set_ne (fun z => e (hp.ap_inj hi (by omega) z).symm)]
    exact h.2 s (by omega)
def bk (n : Nat) (p : List Nat) : List Nat := rowOf n (Sq.inv p)
theorem back_end {p w : List Nat} {n : Nat} (hp : Pm p n) (h : BackInv p n n w) : w = bk n p := by
  refine row_ext h.1 (by simp [bk]) fun y hy => ?_
  obtain ⟨s, hs, e⟩ := hp.ap_surj hy
  unfold bk
  rw [ap_rowOf hy, ← e, h.2 s hs, hp.inv_ap hs]
theorem bk_pm {n : Nat} {p : List Nat} (hp : Pm p n) : Pm (bk n p) n :=
  pm_rowOf (fun x hx => hp.inv_lt hx) fun x y hx hy e => by rw [← hp.ap_inv hx, ← hp.ap_inv hy, e]
theorem bk_ap {n s : Nat} {p : List Nat} (hp : Pm p n) (hs : s < n) : ap (bk n p) (ap p s) = s := by
  unfold bk
  rw [ap_rowOf (hp.ap_lt hs), hp.inv_ap hs]
theorem ap_bk {n s : Nat} {p : List Nat} (hp : Pm p n) (hs : s < n) : ap p (ap (bk n p) s) = s := by
  unfold bk
  rw [ap_rowOf hs, hp.ap_inv hs]
theorem bk_bk {n : Nat} {p : List Nat} (hp : Pm p n) : bk n (bk n p) = p :=
  row_ext (by simp [bk]) hp.len fun x hx => by
    have h := bk_ap (bk_pm hp) (hp.ap_lt hx)
    rw [bk_ap hp hx] at h
    exact h
theorem bset (w : List Nat) (i y : Nat) : (nD w).set i (.int (y : Int)) = nD (w.set i y) := by simp [nD]
theorem bixN {n i : Nat} (h : i < n) : ixN n (i : Int) = some i := by
  unfold ixN
  rw [if_pos (Int.natCast_nonneg i), if_pos (by omega)]
  rfl
theorem enR_nD {p : List Nat} {i : Nat} {r : Rv} (h : (enR 0 ((nD p).map Rv.v))[i]? = some r) : i < p.length ∧ r = .v (.tuple [.int (i : Nat), .int (ap p i : Nat)]) := by
  have hi : i < p.length := by
    have := (List.getElem?_eq_some_iff.mp h).1
    simpa [enR_len] using this
  refine ⟨hi, ?_⟩
  obtain ⟨q, e, h1, _⟩ := enR_get (rs := (nD p).map Rv.v) (n := 0) (i := i) (r := .v (.int (ap p i : Nat))) (by simp [ap_get hi])
  rw [e] at h
  cases h
  have := h1 _ rfl
  rw [Nat.zero_add] at this
  exact this
theorem enR_nD_len (p : List Nat) : (enR 0 ((nD p).map Rv.v)).length = p.length := by simp [enR_len]

theorem size_ok {p q : List Nat} {n : Nat} (hp : p.length = n) : f_size [.v (sheet p q)] = .ret (.v (.int n)) := by
  refine fnR_of ?_
  show b_size [.v (sheet p q)] = _
  unfold b_size
  simp [ix_sh0, hp]
theorem is_square_no {z : Int} {n : Nat} (h : z < 0 ∨ (n : Int) ≤ z) : f_is_square [.v (.int z), .v (.int n)] = .ret (.v (.bool false)) := by
  refine fnR_of ?_
  show b_is_square [.v (.int z), .v (.int n)] = _
  unfold b_is_square
  by_cases h0 : 0 ≤ z
  · have : ¬ z < n := by omega
    simp [isi_ii, isi_bi, h0, this]
  · simp [isi_ii, isi_bi, h0]
theorem is_square_yes {z n : Nat} (h : z < n) : f_is_square [.v (.int z), .v (.int n)] = .ret (.v (.bool true)) := by
  refine fnR_of ?_
  show b_is_square [.v (.int z), .v (.int n)] = _
  unfold b_is_square
  simp [isi_ii, isi_bi, h]
theorem check_yes {p q : List Nat} {z n : Nat} (hp : p.length = n) (h : z < n) : f_check_square [.v (sheet p q), .v (.int z)] = .ret (.v .none) := by
  refine fnR_none (ρ := [.v (sheet p q), .v (.int z)]) ?_
  show b_check_square [.v (sheet p q), .v (.int z)] = _
  unfold b_check_square
  simp [size_ok hp, is_square_yes h]
theorem check_no {p q : List Nat} {z : Int} {n : Nat} (hp : p.length = n) (h : z < 0 ∨ (n : Int) ≤ z) : f_check_square [.v (sheet p q), .v (.int z)] = .exc "NoSquare" none := by
  refine fnR_exc (ρ := [.v (sheet p q), .v (.int z)]) ?_
  show b_check_square [.v (sheet p q), .v (.int z)] = _
  unfold b_check_square
  simp [size_ok hp, is_square_no h, excS]

def bstep (p q met : List Nat) (j : Nat) : List Nat := put (put met (ap p (ap met j))) (ap q (ap met j))
def bseq (p q : List Nat) (a : Nat) : Nat → List Nat
  | 0 => [a]
  | j + 1 => if j < (bseq p q a j).length then bstep p q (bseq p q a j) j else bseq p q a j
/-- the squares met from a on -/
def mets (p q : List Nat) (n a : Nat) : List Nat := bseq p q a n
structure BInv (p q : List Nat) (n a : Nat) (met : List Nat) (j : Nat) : Prop where
  nd : met.Nodup
  lt : ∀ x ∈ met, x < n
  z : a ∈ met
  le : j ≤ met.length
  done : ∀ i, i < j → ap p (ap met i) ∈ met ∧ ap q (ap met i) ∈ met
theorem BInv.len {p q met : List Nat} {n a j : Nat} (h : BInv p q n a met j) : met.length ≤ n := by
  have := List.Nodup.length_le_of_subset h.nd (l₂ := List.range n) fun x hx => List.mem_range.mpr (h.lt x hx)
  simpa using this
theorem BInv.step {p q met : List Nat} {n a j : Nat} (hp : Pm p n) (hq : Pm q n) (h : BInv p q n a met j) (hj : j < met.length) : BInv p q n a (bstep p q met j) (j + 1) := by
  have hm : ap met j ∈ met := ap_mem hj
  have hlt := h.lt _ hm
  unfold bstep
  refine ⟨put_nd (put_nd h.nd), fun x hx => ?_, put_sub (put_sub h.z), ?_, fun i hi => ?_⟩
  · rcases put_mem hx with e | e
    · rcases put_mem e with e | e
      · exact h.lt x e
      · rw [e]; exact hp.ap_lt hlt
    · rw [e]; exact hq.ap_lt hlt
  · have h1 := put_len (hv := met) (y := ap p (ap met j))
    have h2 := put_len (hv := put met (ap p (ap met j))) (y := ap q (ap met j))
    omega
  · have hil : i < met.length := by omega
    rw [put_ap (Nat.lt_of_lt_of_le hil put_len), put_ap hil]
    by_cases e : i = j
    · subst e
      exact ⟨put_sub put_self, put_self⟩
    · have := h.done i (by omega)
      exact ⟨put_sub (put_sub this.1), put_sub (put_sub this.2)⟩
theorem bseq_inv {p q : List Nat} {n a : Nat} (hp : Pm p n) (hq : Pm q n) (ha : a < n) : ∀ j, (∀ i, i < j → i < (bseq p q a i).length) → BInv p q n a (bseq p q a j) j
  | 0, _ => ⟨by simp [bseq], by simpa [bseq] using ha, by simp [bseq], by omega, by simp⟩
  | j + 1, h => by
    have ih := bseq_inv hp hq ha j fun i hi => h i (by omega)
    have hj := h j (by omega)
    show BInv p q n a (if j < (bseq p q a j).length then bstep p q (bseq p q a j) j else bseq p q a j) (j + 1)
    rw [if_pos hj]
    exact ih.step hp hq hj
theorem bseq_stop {p q : List Nat} {a j : Nat} (h : (bseq p q a j).length ≤ j) : ∀ k, bseq p q a (j + k) = bseq p q a j
  | 0 => rfl
  | k + 1 => by
    have ih := bseq_stop h k
    show (if j + k < (bseq p q a (j + k)).length then _ else bseq p q a (j + k)) = _
    rw [ih, if_neg (by omega)]
/-- how a loop over what is met ends -/
theorem mets_end {p q : List Nat} {n a j : Nat} (hp : Pm p n) (hq : Pm q n) (ha : a < n) (hi : ∀ i, i < j → i < (bseq p q a i).length) (hl : (bseq p q a j).length ≤ j) : bseq p q a j = mets p q n a ∧ (mets p q n a).length = j := by
  have inv := bseq_inv hp hq ha j hi
  have h1 := inv.len
  have h2 := inv.le
  have e : mets p q n a = bseq p q a j := by
    unfold mets
    rw [show n = j + (n - j) by omega]
    exact bseq_stop hl _
  exact ⟨e.symm, by rw [e]; omega⟩
theorem mets_ex (p q : List Nat) (a : Nat) : ∀ m, (∃ j, j ≤ m ∧ (∀ i, i < j → i < (bseq p q a i).length) ∧ (bseq p q a j).length ≤ j) ∨ (∀ i, i ≤ m → i < (bseq p q a i).length)
  | 0 => .inr fun i hi => by
    have : i = 0 := by omega
    subst this
    simp [bseq]
  | m + 1 => by
    rcases mets_ex p q a m with ⟨j, h1, h2⟩ | h
    · exact .inl ⟨j, by omega, h2⟩
    · by_cases hm : m + 1 < (bseq p q a (m + 1)).length
      · exact .inr fun i hi => by
          by_cases e : i = m + 1
          · rw [e]; exact hm
          · exact h i (by omega)
      · exact .inl ⟨m + 1, by omega, fun i hi => h i (by omega), by omega⟩
theorem mets_inv {p q : List Nat} {n a : Nat} (hp : Pm p n) (hq : Pm q n) (ha : a < n) : BInv p q n a (mets p q n a) (mets p q n a).length := by
  rcases mets_ex p q a n with ⟨j, _, h1, h2⟩ | h
  · obtain ⟨e1, e2⟩ := mets_end hp hq ha h1 h2
    rw [e2, ← e1]
    exact bseq_inv hp hq ha j h1
  · have inv := bseq_inv hp hq ha n fun i hi => h i (by omega)
    have := inv.len
    have := h n (by omega)
    omega
theorem closed_back {p S : List Nat} {n : Nat} (hp : Pm p n) (hn : S.Nodup) (hlt : ∀ x ∈ S, x < n) (hc : ∀ x ∈ S, ap p x ∈ S) {x : Nat} (hx : x < n) (h : ap p x ∈ S) : x ∈ S := by
  have hnd : (S.map (ap p)).Nodup := by
    rw [List.nodup_iff_pairwise_ne, List.pairwise_map]
    exact List.Pairwise.imp_of_mem (fun {a b} ha hb hne e => hne (hp.ap_inj (hlt a ha) (hlt b hb) e)) hn
  have hsub : ∀ y ∈ S.map (ap p), y ∈ S := fun y hy => by
    obtain ⟨z, hz, e⟩ := List.mem_map.mp hy
    exact e ▸ hc z hz
  have hm : ap p x ∈ S.map (ap p) := by
    refine Classical.byContradiction fun hno => ?_
    have := List.Nodup.length_le_of_subset (List.nodup_cons.mpr ⟨hno, hnd⟩) (l₂ := S) fun y hy => by
      rcases List.mem_cons.mp hy with e | e
      · exact e ▸ h
      · exact hsub y e
    simp at this
    omega
  obtain ⟨y, hy, e⟩ := List.mem_map.mp hm
  exact hp.ap_inj (hlt y hy) hx e ▸ hy
theorem closed_full {p q S : List Nat} {n a : Nat} (h : Sh p q n) (hn : S.Nodup) (hlt : ∀ x ∈ S, x < n) (ha : a ∈ S) (hc : ∀ x ∈ S, ap p x ∈ S ∧ ap q x ∈ S) : Pm S n := by
  have h0 : 0 ∈ S := by
    refine Classical.byContradiction fun hno => ?_
    have : ∀ x, Re p q x → x < n ∧ x ∉ S := fun x hx => by
      induction hx with
      | z => exact ⟨h.pos, hno⟩
      | fa _ ih => exact ⟨h.hp.ap_lt ih.1, fun hm => ih.2 (closed_back h.hp hn hlt (fun x hx => (hc x hx).1) ih.1 hm)⟩
      | fb _ ih => exact ⟨h.hq.ap_lt ih.1, fun hm => ih.2 (closed_back h.hq hn hlt (fun x hx => (hc x hx).2) ih.1 hm)⟩
    exact (this a (h.re a (hlt a ha))).2 ha
  have hall : ∀ x, Re p q x → x ∈ S := fun x hx => by
    induction hx with
    | z => exact h0
    | fa _ ih => exact (hc _ ih).1
    | fb _ ih => exact (hc _ ih).2
  have h1 := List.Nodup.length_le_of_subset hn (l₂ := List.range n) fun x hx => List.mem_range.mpr (hlt x hx)
  have h2 := List.Nodup.length_le_of_subset (List.nodup_range (n := n)) (l₂ := S) fun x hx => hall x (h.re x (List.mem_range.mp hx))
  simp at h1 h2
  exact ⟨by omega, hn, hlt⟩
theorem mets_pm {p q : List Nat} {n a : Nat} (h : Sh p q n) (ha : a < n) : Pm (mets p q n a) n := by
  have inv := mets_inv h.hp h.hq ha
  refine closed_full h inv.nd inv.lt inv.z fun x hx => ?_
  obtain ⟨i, hi, e⟩ := List.getElem_of_mem hx
  have := inv.done i hi
  rw [show ap (mets p q n a) i = x from ap_of (by rw [List.getElem?_eq_getElem hi, e])] at this
  exact this

def mfEnv (p q : List Nat) (a : Nat) (met : List Nat) (j : Nat) (x : Sl) : Env := [.v (.tuple (nD p)), .v (.tuple (nD q)), .v (.int a), .o (nD met), .v (.int j), x]
def mfIn : SF := ifS (tstF (binF (inR true) (varF 5) (varF 3))) (appS 3 (varF 5)) skipS
theorem mf_in (p q : List Nat) (a : Nat) (met : List Nat) (j y : Nat) (hl : met.length < 100000) : mfIn (mfEnv p q a met j (.v (.int y))) = .next (mfEnv p q a (put met y) j (.v (.int y))) := by
  unfold mfIn mfEnv put
  by_cases h : y ∈ met
  · simp [h]
  · simp [h, appS, hl, nD_app, nD_one]
def mfBody : SF := (seqS (forS (itF itS (tupF (aCons (binF ixR (varF 0) (binF ixR (varF 3) (varF 4))) (aCons (binF ixR (varF 1) (binF ixR (varF 3) (varF 4))) aNil)))) (asgn 5) mfIn)
  (asgS (binF addR (varF 4) (cF (.int 1))) (asgn 4)))
theorem mf_body {p q : List Nat} {n a : Nat} {met : List Nat} {j : Nat} {x : Sl} (hp : p.length = n) (hq : q.length = n) (hlt : ap met j < n) (hj : j < met.length) (hl : met.length < 1000) : ∃ x', mfBody (mfEnv p q a met j x) = .next (mfEnv p q a (bstep p q met j) (j + 1) x') := by
  have e1 := ix_rowW hj
  have e2 := ix_rowT (a := p) (x := ap met j) (by omega)
  have e3 := ix_rowT (a := q) (x := ap met j) (by omega)
  have hl2 : (put met (ap p (ap met j))).length < 100000 := by
    unfold put
    split
    · omega
    · simp; omega
  refine ⟨.v (.int (ap q (ap met j) : Nat)), ?_⟩
  have e4 : forL (asgn 5) mfIn [.v (.int (ap p (ap met j) : Nat)), .v (.int (ap q (ap met j) : Nat))] (mfEnv p q a met j x) = .next (mfEnv p q a (bstep p q met j) j (.v (.int (ap q (ap met j) : Nat)))) := by
    rw [forL_next (ρ1 := mfEnv p q a met j (.v (.int (ap p (ap met j) : Nat)))) rfl (mf_in p q a met j _ (by omega)), forL_next (ρ1 := mfEnv p q a (put met (ap p (ap met j))) j (.v (.int (ap q (ap met j) : Nat)))) rfl (mf_in p q a _ j _ hl2)]
    rfl
  unfold mfBody
  unfold mfEnv at e4 ⊢
  simp [e1, e2, e3, e4]
theorem met_from_ok {p q : List Nat} {n a : Nat} (hp : Pm p n) (hq : Pm q n) (ha : a < n) (hn : n < 1000) : f_met_from [.v (.tuple (nD p)), .v (.tuple (nD q)), .v (.int a)] = .ret (.o (nD (mets p q n a))) := by
  have hw := whileS_go (t := tstF (binF ltR (varF 4) (unF lenR (varF 3)))) (s := mfBody) (ρ := mfEnv p q a [a] 0 .u) (fun ρ => ∃ j x, ρ = mfEnv p q a (bseq p q a j) j x ∧ ∀ i, i < j → i < (bseq p q a i).length) (fun ρ => n - (match slot ρ 4 with | .v (.int j) => j.toNat | _ => 0))
    ⟨0, .u, rfl, by simp⟩ (by show n - 0 < 1000000; omega) ?_
  · obtain ⟨ρ', e, ⟨j, x, eρ, hi⟩, ht⟩ := hw
    subst eρ
    have inv := bseq_inv hp hq ha j hi
    have hl : (bseq p q a j).length ≤ j := by
      unfold mfEnv at ht
      simp at ht
      omega
    obtain ⟨e1, e2⟩ := mets_end hp hq ha hi hl
    refine fnR_of ?_
    show (seqS (asgS (lstF (aCons (varF 2) aNil)) (asgn 3)) (seqS (asgS (cF (.int 0)) (asgn 4)) (seqS (whileS (tstF (binF ltR (varF 4) (unF lenR (varF 3)))) mfBody) (retVar 3)))) [.v (.tuple (nD p)), .v (.tuple (nD q)), .v (.int a), .u, .u, .u] = _
    rw [seq_go (ρ' := [.v (.tuple (nD p)), .v (.tuple (nD q)), .v (.int a), .o (nD [a]), .u, .u]) (by simp [nD_one])]
    rw [seq_go (ρ' := mfEnv p q a [a] 0 .u) (by unfold mfEnv; simp), seq_go e, e1]
    unfold mfEnv
    simp
  · intro ρ ⟨j, x, eρ, hi⟩
    subst eρ
    have inv := bseq_inv hp hq ha j hi
    have hlen := inv.len
    refine ⟨decide (j < (bseq p q a j).length), by unfold mfEnv; simp, fun hb => ?_⟩
    have hj : j < (bseq p q a j).length := by simpa using hb
    obtain ⟨x', e⟩ := mf_body (a := a) (x := x) hp.len hq.len (inv.lt _ (ap_mem hj)) hj (by omega)
    refine ⟨_, e, ⟨j + 1, x', ?_, fun i h => ?_⟩, ?_⟩
    · have : bseq p q a (j + 1) = bstep p q (bseq p q a j) j := by
        show (if j < (bseq p q a j).length then _ else _) = _
        rw [if_pos hj]
      rw [this] <;> rfl
    · by_cases e : i = j
      · rw [e]; exact hj
      · exact hi i (by omega)
    · show n - ((j + 1 : Nat) : Int).toNat < n - ((j : Nat) : Int).toNat
      omega
theorem numbering_ok {p q : List Nat} {n a : Nat} (h : Sh p q n) (ha : a < n) (hn : n < 1000) : f_numbering [.v (sheet p q), .v (.int a)] = .ret (.o (nD (bk n (mets p q n a)))) := by
  have hm := mets_pm h ha
  have hml := hm.len
  have e0 := check_yes (q := q) h.hp.len ha
  have e1 := met_from_ok h.hp h.hq ha hn
  refine fnR_of ?_
  show b_numbering [.v (sheet p q), .v (.int a), .u, .u, .u, .u] = _
  generalize mets p q n a = m at *
  have h1 : lcF (itF itC (varF 2)) (asgn 5) [5] yesT (cF (.int 0)) [.v (sheet p q), .v (.int a), .o (nD m), .u, .u, .u] = .ok (.o (nD (rowOf n fun _ => 0))) := by
    rw [lcF_map m (fun n : Nat => Rv.v (.int (n : Int))) (fun _ => .int 0) (by simp [nD]) (by omega) fun x _ => ⟨_, _, rfl, rfl, rfl⟩]
    simp [nD, rowOf, List.map_const', hml]
  have hl := forL_go (τ := unpT [asgn 4, asgn 5]) (s := setIt 3 (varF 5) (varF 4)) (rs := enR 0 ((nD m).map Rv.v)) (ρ := [.v (sheet p q), .v (.int a), .v (.list (nD m)), .o (nD (rowOf n fun _ => 0)), .u, .u])
    (fun i ρ => ∃ w x y, ρ = [.v (sheet p q), .v (.int a), .v (.list (nD m)), .o (nD w), x, y] ∧ BackInv m n i w) ⟨_, _, _, rfl, by simp, by simp⟩ ?_
  · obtain ⟨ρ', e, w, x, y, eρ, hw⟩ := hl
    subst eρ
    rw [enR_nD_len, hml] at hw
    have hb := back_end hm hw
    subst hb
    unfold b_numbering
    simp [e0, ix_sh0, ix_sh1, e1, h1, e]
  · intro i r ρ hr ⟨w, x, y, eρ, hw⟩
    subst eρ
    obtain ⟨hi, er⟩ := enR_nD hr
    subst er
    rw [hml] at hi
    refine ⟨[.v (sheet p q), .v (.int a), .v (.list (nD m)), .o (nD w), .v (.int i), .v (.int (ap m i : Nat))], [.v (sheet p q), .v (.int a), .v (.list (nD m)), .o (nD (w.set (ap m i) i)), .v (.int i), .v (.int (ap m i : Nat))], by simp, ?_, w.set (ap m i) i, _, _, rfl, back_step hm hw hi⟩
    have e3 := bixN (n := w.length) (i := ap m i) (by rw [hw.1]; exact hm.ap_lt hi)
    simp [setIt, e3, bset]
theorem numbering_no {p q : List Nat} {z : Int} {n : Nat} (hp : p.length = n) (h : z < 0 ∨ (n : Int) ≤ z) : f_numbering [.v (sheet p q), .v (.int z)] = .exc "NoSquare" none := by
  refine fnR_exc (ρ := [.v (sheet p q), .v (.int z), .u, .u, .u, .u]) ?_
  show b_numbering [.v (sheet p q), .v (.int z), .u, .u, .u, .u] = _
  unfold b_numbering
  simp [check_no hp h]

/-- a slot or a value that holds a row -/
structure RowR (a : Rv) (f : List Nat) : Prop where
  ix : ∀ x : Nat, x < f.length → ∃ y, ixR a (.v (.int x)) = .ok y ∧ y.keep = .ok (.int (ap f x : Nat)) ∧ y.dat = some (.int (ap f x : Nat))
  srt : sortR a = .ok (.o (nD (nsrt f)))
def RowS (s : Sl) (f : List Nat) : Prop := ∃ a, s.rd = .ok a ∧ RowR a f
theorem rowS_v (f : List Nat) : RowS (.v (.list (nD f))) f := ⟨_, rfl, fun x h => ⟨_, ix_row h, rfl, rfl⟩, sort_vl f⟩
theorem rowS_b (f : List Nat) : RowS (.b (.list (nD f))) f := ⟨_, rfl, fun x h => ⟨_, ixR_bl (at_nat.trans (by simp [ap_get h])), rfl, rfl⟩, sort_nD (dInts_nD f)⟩
def conj (n : Nat) (f p : List Nat) : List Nat := rowOf n fun y => ap f (ap p (Sq.inv f y))
theorem conj_pm {n : Nat} {f p : List Nat} (hf : Pm f n) (hp : Pm p n) : Pm (conj n f p) n := by
  refine pm_rowOf (fun x hx => hf.ap_lt (hp.ap_lt (hf.inv_lt hx))) fun x y hx hy e => ?_
  have := hp.ap_inj (hf.inv_lt hx) (hf.inv_lt hy) (hf.ap_inj (hp.ap_lt (hf.inv_lt hx)) (hp.ap_lt (hf.inv_lt hy)) e)
  rw [← hf.ap_inv hx, ← hf.ap_inv hy, this]
theorem conj_ap {n s : Nat} {f p : List Nat} (hf : Pm f n) (hs : s < n) : ap (conj n f p) (ap f s) = ap f (ap p s) := by
  unfold conj
  rw [ap_rowOf (hf.ap_lt hs), hf.inv_ap hs]
def renEnv (sh : D) (s1 : Sl) (n : Nat) (told : List D) (x4 x5 x6 : Sl) : Env := [.v sh, s1, .v (.int n), .o told, x4, x5, x6]
def renIn : SF := setIt 5 (binF ixR (varF 1) (varF 6)) (binF ixR (varF 1) (binF ixR (varF 4) (varF 6)))
theorem ren_in {sh : D} {s1 : Sl} {f p w : List Nat} {n i : Nat} {told : List D} (hs : RowS s1 f) (hf : Pm f n) (hp : Pm p n) (hw : w.length = n) (hi : i < n) :
    renIn (renEnv sh s1 n told (.v (.tuple (nD p))) (.o (nD w)) (.v (.int i))) = .next (renEnv sh s1 n told (.v (.tuple (nD p))) (.o (nD (w.set (ap f i) (ap f (ap p i))))) (.v (.int i))) := by
  obtain ⟨a, hrd, hr⟩ := hs
  have e0 := ix_rowT (a := p) (x := i) (by rw [hp.len]; exact hi)
  obtain ⟨y1, e1, k1, d1⟩ := hr.ix i (by rw [hf.len]; exact hi)
  obtain ⟨y2, e2, k2, d2⟩ := hr.ix (ap p i) (by rw [hf.len]; exact hp.ap_lt hi)
  have e3 := ixN_nat (n := w.length) (i := ap f i) (by rw [hw]; exact hf.ap_lt hi)
  unfold renIn renEnv setIt
  simp [hrd, e0, e1, e2, k1, k2, d1, d2, e3, nD_set]
def renBody : SF := seqS (asgS (lcF (rg1F (varF 2)) (asgn 6) [6] yesT (cF (.int 0))) (asgn 5))
  (seqS (forS (rg1F (varF 2)) (asgn 6) renIn) (appS 3 (unF tupleR (varF 5))))
theorem ren_body {sh : D} {s1 x5 x6 : Sl} {f p : List Nat} {n : Nat} {told : List D} (hs : RowS s1 f) (hf : Pm f n) (hp : Pm p n) (hn : n ≤ 1000) (ht : told.length < 1000) :
    ∃ x5' x6', renBody (renEnv sh s1 n told (.v (.tuple (nD p))) x5 x6) = .next (renEnv sh s1 n (told ++ [.tuple (nD (conj n f p))]) (.v (.tuple (nD p))) x5' x6') := by
  have h1 : rg1F (varF 2) (renEnv sh s1 n told (.v (.tuple (nD p))) x5 x6) = .ok ((List.range n).map fun (i : Nat) => Rv.v (.int (i : Int))) := by
    rw [rg1_e (a := .v (.int n)) rfl rfl (by omega), rgR_nat]
  have h2 : lcF (rg1F (varF 2)) (asgn 6) [6] yesT (cF (.int 0)) (renEnv sh s1 n told (.v (.tuple (nD p))) x5 x6) = .ok (.o (nD (rowOf n fun _ => 0))) := by
    rw [lcF_map (List.range n) _ (fun _ => .int 0) h1 (by simp; omega) fun x _ => ⟨_, _, rfl, rfl, rfl⟩]
    simp [nD, rowOf]
  have hl := forL_go (τ := asgn 6) (s := renIn) (rs := (List.range n).map fun (i : Nat) => Rv.v (.int (i : Int))) (ρ := renEnv sh s1 n told (.v (.tuple (nD p))) (.o (nD (rowOf n fun _ => 0))) x6)
    (fun i ρ => ∃ w x, ρ = renEnv sh s1 n told (.v (.tuple (nD p))) (.o (nD w)) x ∧ w.length = n ∧ ∀ s, s < i → ap w (ap f s) = ap f (ap p s))
    ⟨_, _, rfl, by simp, by simp⟩ ?_
  · obtain ⟨ρ', e, w, x, eρ, hw, hd⟩ := hl
    subst eρ
    have : w = conj n f p := row_ext hw (by simp [conj]) fun y hy => by
      obtain ⟨s, hs, e⟩ := hf.ap_surj hy
      rw [← e, hd s (by simpa using hs), conj_ap hf hs]
    subst this
    have h3 : rg1F (varF 2) (renEnv sh s1 n told (.v (.tuple (nD p))) (.o (nD (rowOf n fun _ => 0))) x6) = .ok ((List.range n).map fun (i : Nat) => Rv.v (.int (i : Int))) := by
      rw [rg1_e (a := .v (.int n)) rfl rfl (by omega), rgR_nat]
    refine ⟨.o (nD (conj n f p)), x, ?_⟩
    unfold renBody
    unfold renEnv at h1 h2 h3 e ⊢
    have ht' : told.length < 100000 := by omega
    simp [h2, h3, e, appS, ht']
  · intro i r ρ hr ⟨w, x, eρ, hw, hd⟩
    subst eρ
    obtain ⟨hi2, er⟩ := List.getElem?_eq_some_iff.mp hr
    simp at er hi2
    subst er
    refine ⟨_, _, rfl, ren_in hs hf hp hw hi2, _, _, rfl, by simpa using hw, fun s hsi => ?_⟩
    by_cases e : s = i
    · subst e
      exact ap_set_self (by rw [hw]; exact hf.ap_lt hi2)
    · have hne : ap f i ≠ ap f s := fun h => e (hf.ap_inj hi2 (by omega) h).symm
      rw [← hd s (by omega)]
      exact ap_set_ne hne
theorem renum_ok {s1 : Sl} {f p q : List Nat} {n : Nat} (hs : RowS s1 f) (hf : Pm f n) (hp : Pm p n) (hq : Pm q n) (hn : n ≤ 1000) :
    f_renumbered [.v (sheet p q), s1] = .ret (.v (sheet (conj n f p) (conj n f q))) := by
  refine fnR_of ?_
  show b_renumbered [.v (sheet p q), s1, .u, .u, .u, .u, .u] = _
  have hsz : f_size [.v (sheet p q)] = .ret (.v (.int n)) := by
    refine fnR_of ?_
    show b_size [.v (sheet p q)] = _
    unfold b_size
    simp [ix_sh0, hp.len]
  obtain ⟨a, hrd, hr⟩ := id hs
  have h1 : lrgF (cF (.int 0)) (varF 2) [.v (sheet p q), s1, .v (.int n), .u, .u, .u, .u] = .ok (.o (nD (List.range n))) := lrg_e (a := .v (.int n)) rfl rfl (by omega)
  obtain ⟨x5, x6, e1⟩ := ren_body (sh := sheet p q) (told := []) (x5 := .u) (x6 := .u) hs hf hp hn (by simp)
  obtain ⟨y5, y6, e2⟩ := ren_body (sh := sheet p q) (told := [.tuple (nD (conj n f p))]) (x5 := x5) (x6 := x6) hs hf hq hn (by simp)
  have e3 : forL (asgn 4) renBody [.v (.tuple (nD p)), .v (.tuple (nD q))] (renEnv (sheet p q) s1 n [] .u .u .u) = .next (renEnv (sheet p q) s1 n [.tuple (nD (conj n f p)), .tuple (nD (conj n f q))] (.v (.tuple (nD q))) y5 y6) := by
    rw [forL_next (ρ1 := renEnv (sheet p q) s1 n [] (.v (.tuple (nD p))) .u .u) rfl e1, forL_next (ρ1 := renEnv (sheet p q) s1 n [.tuple (nD (conj n f p))] (.v (.tuple (nD q))) x5 x6) rfl e2]
    rfl
  have e4 : itS (.v (sheet p q)) = .ok [.v (.tuple (nD p)), .v (.tuple (nD q))] := rfl
  have h2 : deq true (.list (nD (nsrt f))) (.list (nD (List.range n))) = .ok (.bool false) := by
    rw [nsrt_pm hf]
    exact ne_same 1 (by simp)
  have x1 : ixR (.v (.list [.tuple (nD (conj n f p)), .tuple (nD (conj n f q))])) (.v (.int 0)) = .ok (.v (.tuple (nD (conj n f p)))) := ixR_vl rfl
  have x2 : ixR (.v (.list [.tuple (nD (conj n f p)), .tuple (nD (conj n f q))])) (.v (.int 1)) = .ok (.v (.tuple (nD (conj n f q)))) := ixR_vl rfl
  show (seqS (asgS (callF f_size (aCons (varF 0) aNil)) (asgn 2)) (seqS _ (seqS (asgS (lstF aNil) (asgn 3)) (seqS (forS (itF itS (varF 0)) (asgn 4) renBody) _)))) _ = _
  unfold renEnv at e3
  simp [hsz, hrd, hr.srt, h1, h2, e4, e3, x1, x2, sheet_e]

/-! the order of sheets -/
theorem dlt_irr (x : D) : PySem.W.dataLt x x = false := PyProof.Rows.lex_irrefl (O := PyProof.Rows.itemOrd) _
theorem dlt_neg {a c : D} (b : D) (h : PySem.W.dataLt a c = true) : PySem.W.dataLt a b = true ∨ PySem.W.dataLt b c = true := PyProof.Rows.lex_negTrans (O := PyProof.Rows.itemOrd) _ _ _ h
theorem dlt_trans {a b c : D} (h : PySem.W.dataLt a b = true) (h2 : PySem.W.dataLt b c = true) : PySem.W.dataLt a c = true := PyProof.Rows.lex_trans (O := PyProof.Rows.itemOrd) _ _ _ h h2
theorem minD_least : ∀ (xs : List D) (x : D), ∀ y ∈ x :: xs, PySem.W.dataLt y (PySem.W.minD x xs) = false
  | [], x, y, hy => by
    rcases List.mem_cons.mp hy with e | e
    · subst e; exact dlt_irr y
    · cases e
  | z :: zs, x, y, hy => by
    have ih := minD_least zs (if PySem.W.dataLt z x = true then z else x)
    have em : PySem.W.minD x (z :: zs) = PySem.W.minD (if PySem.W.dataLt z x = true then z else x) zs := rfl
    rw [em]
    generalize PySem.W.minD (if PySem.W.dataLt z x = true then z else x) zs = m at *
    have ia := ih _ List.mem_cons_self
    have key : PySem.W.dataLt x m = false ∧ PySem.W.dataLt z m = false := by
      by_cases q : PySem.W.dataLt z x = true
      · rw [if_pos q] at ia
        refine ⟨Bool.eq_false_iff.mpr fun h => ?_, ia⟩
        rcases dlt_neg z h with h | h
        · have := dlt_trans q h
          rw [dlt_irr] at this
          cases this
        · rw [ia] at h; cases h
      · rw [if_neg q] at ia
        refine ⟨ia, Bool.eq_false_iff.mpr fun h => ?_⟩
        rcases dlt_neg x h with h | h
        · exact q h
        · rw [ia] at h; cases h
    rcases List.mem_cons.mp hy with e | e
    · subst e; exact key.1
    · rcases List.mem_cons.mp e with e | e
      · subst e; exact key.2
      · exact ih y (List.mem_cons_of_mem _ e)
theorem alike_nD (xs ys : List Nat) : PySem.W.alikeAll (nD xs) (nD ys) = true := by
  rw [nD_map, nD_map]
  exact PySem.W.alike_ints _ _
def shP (s : List Nat × List Nat) : D := sheet s.1 s.2
theorem shP_inj {s t : List Nat × List Nat} : shP s = shP t ↔ s = t := by
  unfold shP
  rw [sheet_inj]
  exact ⟨fun h => Prod.ext h.1 h.2, fun h => by rw [h]; exact ⟨rfl, rfl⟩⟩
@[simp] theorem td_shP (k : Nat) (s : List Nat × List Nat) : td (k + 2) (shP s) = true := td_sheet k _ _
theorem alike_sh (s t : List Nat × List Nat) : PySem.W.alike (shP s) (shP t) = true := by
  unfold shP sheet
  simp [PySem.W.alike, PySem.W.alikeAll, alike_nD]
theorem dlt_total {s t : List Nat × List Nat} (h1 : PySem.W.dataLt (shP s) (shP t) = false) (h2 : PySem.W.dataLt (shP t) (shP s) = false) : s = t := by
  have hk : PySem.W.keyToks (shP s) = PySem.W.keyToks (shP t) := PyProof.Rows.lex_total (O := PyProof.Rows.itemOrd) _ _ h1 h2
  have he : PyData.eqv (shP s) (shP t) = true := by
    cases e : PyData.eqv (shP s) (shP t) with
    | true => rfl
    | false =>
      have h3 := (PySem.W.toks_eqv _ _ (alike_sh s t)).2 e [] [.inl 0]
      rw [hk, PySem.W.lex_pre, PyProof.Rows.lex_irrefl] at h3
      exact absurd h3 (by decide)
  exact shP_inj.mp ((td_eq (k := 2) (td_shP 0 s) (td_shP 0 t)).mp he)
theorem depthAll_td {k : Nat} : ∀ {ds : List D}, ds.all (td k) = true → PyData.depthAll ds ≤ k
  | [], _ => by simp [PyData.depthAll]
  | d :: ds, h => by
    rw [List.all_cons, Bool.and_eq_true] at h
    have h1 := (td_lay k d h.1).2
    have h2 := depthAll_td h.2
    rw [PyData.depthAll]
    omega
theorem alikeB_sh (L : List (List Nat × List Nat)) : alikeB (L.map shP) = true := by
  unfold alikeB
  rw [List.all_eq_true]
  intro x hx
  rw [List.all_eq_true]
  intro y hy
  obtain ⟨s, _, rfl⟩ := List.mem_map.mp hx
  obtain ⟨t, _, rfl⟩ := List.mem_map.mp hy
  rw [alike_sh]
  rfl
theorem all_td_sh (k : Nat) (L : List (List Nat × List Nat)) : (L.map shP).all (td (k + 2)) = true := by simp
def minS (x : List Nat × List Nat) (xs : List (List Nat × List Nat)) : List Nat × List Nat := xs.foldl (fun a y => if PySem.W.dataLt (shP y) (shP a) = true then y else a) x
theorem minD_sh : ∀ (xs : List (List Nat × List Nat)) (x : List Nat × List Nat), PySem.W.minD (shP x) (xs.map shP) = shP (minS x xs)
  | [], _ => rfl
  | y :: ys, x => by
    have ih := minD_sh ys (if PySem.W.dataLt (shP y) (shP x) = true then y else x)
    show PySem.W.minD (if PySem.W.dataLt (shP y) (shP x) = true then shP y else shP x) (ys.map shP) = shP (minS (if PySem.W.dataLt (shP y) (shP x) = true then y else x) ys)
    rw [← ih]
    congr 1
    split <;> rfl
theorem minS_mem (x : List Nat × List Nat) (xs : List (List Nat × List Nat)) : minS x xs ∈ x :: xs := by
  have := minD_mem (shP x) (xs.map shP)
  rw [minD_sh, ← List.map_cons] at this
  obtain ⟨y, hy, e⟩ := List.mem_map.mp this
  exact shP_inj.mp e ▸ hy
theorem minS_least {x : List Nat × List Nat} {xs : List (List Nat × List Nat)} {y : List Nat × List Nat} (h : y ∈ x :: xs) : PySem.W.dataLt (shP y) (shP (minS x xs)) = false := by
  have := minD_least (xs.map shP) (shP x) (shP y) (by rw [← List.map_cons]; exact List.mem_map_of_mem h)
  rwa [minD_sh] at this
def minL : List (List Nat × List Nat) → List Nat × List Nat
  | [] => ([], [])
  | x :: xs => minS x xs
theorem minL_mem {L : List (List Nat × List Nat)} (h : L ≠ []) : minL L ∈ L := by
  cases L with
  | nil => exact absurd rfl h
  | cons x xs => exact minS_mem x xs
theorem minL_least {L : List (List Nat × List Nat)} {y : List Nat × List Nat} (h : y ∈ L) : PySem.W.dataLt (shP y) (shP (minL L)) = false := by
  cases L with
  | nil => cases h
  | cons x xs => exact minS_least h
/-- the same sheets, the same least one -/
theorem minL_congr {L M : List (List Nat × List Nat)} (h : ∀ y, y ∈ L ↔ y ∈ M) : minL L = minL M := by
  by_cases hL : L = []
  · subst hL
    have : M = [] := List.eq_nil_iff_forall_not_mem.mpr fun y hy => by
      have := (h y).mpr hy
      cases this
    rw [this]
  · have hM : M ≠ [] := fun e => by
      subst e
      have := (h _).mp (minL_mem hL)
      cases this
    exact dlt_total (minL_least ((h _).mpr (minL_mem hM)) |> fun a => by
      exact minL_least ((h _).mp (minL_mem hL))) (minL_least ((h _).mpr (minL_mem hM)))
theorem minA_sh {L : List (List Nat × List Nat)} (h : L ≠ []) : minA (.o (L.map shP)) = .ok (.v (shP (minL L))) := by
  cases L with
  | nil => exact absurd rfl h
  | cons x xs =>
    have h1 : minR (.o ((x :: xs).map shP)) = .bad := rfl
    have h2 := depthAll_td (all_td_sh 0 (x :: xs))
    unfold minA alt1
    rw [h1]
    show minDR (.o (shP x :: xs.map shP)) = _
    show (if alikeB ((x :: xs).map shP) = true ∧ PyData.depthAll ((x :: xs).map shP) ≤ 60 then Er.ok (Rv.v (PySem.W.minD (shP x) (xs.map shP))) else .bad) = _
    rw [if_pos ⟨alikeB_sh _, by omega⟩, minD_sh]
    rfl
theorem any_sh (L : List (List Nat × List Nat)) (s : List Nat × List Nat) : ((L.map shP).any fun z => PyData.eqv z (shP s)) = decide (s ∈ L) := by
  rw [Bool.eq_iff_iff, List.any_eq_true, decide_eq_true_eq]
  constructor
  · rintro ⟨z, hz, e⟩
    obtain ⟨t, ht, rfl⟩ := List.mem_map.mp hz
    have := shP_inj.mp ((td_eq (k := 2) (td_shP 0 t) (td_shP 0 s)).mp e)
    exact this ▸ ht
  · intro h
    exact ⟨shP s, List.mem_map_of_mem h, (td_eq (k := 2) (td_shP 0 s) (td_shP 0 s)).mpr rfl⟩
theorem shaped_shs (L : List (List Nat × List Nat)) : SeqAt.shaped (.list (L.map shP)) = true := td_shaped (k := 3) (by simp)
theorem inA_sh (n : Bool) {b : Rv} {L : List (List Nat × List Nat)} {s : List Nat × List Nat} (hb : b.listD = some (L.map shP)) (h0 : inR n (.v (shP s)) b = .bad) : inA n (.v (shP s)) b = .ok (.v (.bool (if n then !decide (s ∈ L) else decide (s ∈ L)))) := by
  refine (alt_r h0).trans ?_
  unfold inDeep
  rw [hb]
  simp only [dat_v]
  rw [if_pos ⟨td_shaped (k := 2) (td_shP 0 s), shaped_shs L⟩, any_sh]
theorem inR_sh_vl (n : Bool) (L : List D) (s : List Nat × List Nat) : inR n (.v (shP s)) (.v (.list L)) = .bad := rfl
theorem inR_sh_w (n : Bool) (L : List D) (s : List Nat × List Nat) : inR n (.v (shP s)) (.w L) = .bad := rfl
theorem inR_sh_o (n : Bool) (L : List D) (s : List Nat × List Nat) : inR n (.v (shP s)) (.o L) = .bad := rfl
theorem leA_sh (s t : List Nat × List Nat) : leA (.v (shP s)) (.v (shP t)) = .ok (.v (.bool (!PySem.W.dataLt (shP t) (shP s)))) := by
  have h1 := (td_lay 2 (shP s) (td_shP 0 s)).2
  refine (alt_r rfl).trans ?_
  unfold leDt
  simp only [dat_v]
  rw [if_pos ⟨alike_sh s t, rfl, by omega, noOb_alike _ (alike_sh s s), noOb_alike _ (alike_sh t t)⟩]
theorem lc_rgD {f e : EF} {ρ : Env} {n : Nat} (k : Nat) (g : Nat → D) (h : f ρ = .ok (.v (.int n))) (hn : n ≤ 100000) (he : ∀ x, x < n → ∃ a, e ((ρ.set k .u).set k (.v (.int x))) = .ok a ∧ a.keep = .ok (g x)) : lcF (rg1F f) (asgn k) [k] yesT e ρ = .ok (.o ((List.range n).map g)) := by
  rw [lcF_map (List.range n) (fun (i : Nat) => Rv.v (.int (i : Int))) g (rg1_nat h (by omega)) (by simpa using hn) fun x hx => ?_]
  obtain ⟨a, e1, e2⟩ := he x (List.mem_range.mp hx)
  exact ⟨_, a, rfl, e1, e2⟩
/-! the sheets numbered from each square -/
def rn (p q : List Nat) (n a : Nat) : List Nat × List Nat := (conj n (bk n (mets p q n a)) p, conj n (bk n (mets p q n a)) q)
def rns (p q : List Nat) (n : Nat) : List (List Nat × List Nat) := (List.range n).map (rn p q n)
def formOf (p q : List Nat) (n : Nat) : List Nat × List Nat := minL (rns p q n)
theorem rns_ne {p q : List Nat} {n : Nat} (h : 0 < n) : rns p q n ≠ [] := by
  unfold rns
  intro e
  have := congrArg List.length e
  simp at this
  omega
theorem rn_pm {p q : List Nat} {n a : Nat} (h : Sh p q n) (ha : a < n) : Pm (rn p q n a).1 n ∧ Pm (rn p q n a).2 n := by
  have hb := bk_pm (mets_pm h ha)
  exact ⟨conj_pm hb h.hp, conj_pm hb h.hq⟩
theorem formOf_pm {p q : List Nat} {n : Nat} (h : Sh p q n) : Pm (formOf p q n).1 n ∧ Pm (formOf p q n).2 n := by
  have := minL_mem (rns_ne (p := p) (q := q) h.pos)
  obtain ⟨a, ha, e⟩ := List.mem_map.mp this
  unfold formOf
  rw [← e]
  exact rn_pm h (List.mem_range.mp ha)

/-! sheets that lie over one another square by square -/
structure Iso (p q p' q' : List Nat) (n : Nat) (f : List Nat) : Prop where
  hf : Pm f n
  cp : ∀ x, x < n → ap f (ap p x) = ap p' (ap f x)
  cq : ∀ x, x < n → ap f (ap q x) = ap q' (ap f x)
theorem iso_conj {p q p' q' f : List Nat} {n : Nat} (h : Iso p q p' q' n f) (hp' : p'.length = n) (hq' : q'.length = n) : conj n f p = p' ∧ conj n f q = q' := by
  constructor
  · refine row_ext (m := n) (by simp [conj]) hp' fun y hy => ?_
    obtain ⟨x, hx, e⟩ := h.hf.ap_surj hy
    rw [← e, conj_ap h.hf hx, h.cp x hx]
  · refine row_ext (m := n) (by simp [conj]) hq' fun y hy => ?_
    obtain ⟨x, hx, e⟩ := h.hf.ap_surj hy
    rw [← e, conj_ap h.hf hx, h.cq x hx]
theorem conj_iso {p q f : List Nat} {n : Nat} (hf : Pm f n) : Iso p q (conj n f p) (conj n f q) n f :=
  ⟨hf, fun x hx => (conj_ap hf hx).symm, fun x hx => (conj_ap hf hx).symm⟩
theorem put_map {f : List Nat} {n : Nat} (hf : Pm f n) {hv : List Nat} {y : Nat} (hl : ∀ x ∈ hv, x < n) (hy : y < n) : (put hv y).map (ap f) = put (hv.map (ap f)) (ap f y) := by
  unfold put
  by_cases h : y ∈ hv
  · rw [if_pos h, if_pos (List.mem_map_of_mem h)]
  · rw [if_neg h, if_neg]
    · simp
    · intro hm
      obtain ⟨x, hx, e⟩ := List.mem_map.mp hm
      exact h (hf.ap_inj (hl x hx) hy e ▸ hx)
theorem ap_map {hv : List Nat} {g : Nat → Nat} {j : Nat} (h : j < hv.length) : ap (hv.map g) j = g (ap hv j) := ap_of (by rw [List.getElem?_map, ap_get h]; rfl)
theorem put_lt {hv : List Nat} {y n : Nat} (hl : ∀ x ∈ hv, x < n) (hy : y < n) : ∀ x ∈ put hv y, x < n := fun x hx => (put_mem hx).elim (hl x) (fun e => e ▸ hy)
theorem bseq_iso {p q p' q' f : List Nat} {n a : Nat} (hp : Pm p n) (hq : Pm q n) (h : Iso p q p' q' n f) (ha : a < n) : ∀ j, bseq p' q' (ap f a) j = (bseq p q a j).map (ap f) ∧ ∀ x ∈ bseq p q a j, x < n
  | 0 => ⟨rfl, fun x hx => by
    rcases List.mem_cons.mp hx with e | e
    · omega
    · cases e⟩
  | j + 1 => by
    obtain ⟨e, hl⟩ := bseq_iso hp hq h ha j
    have s1 : bseq p q a (j + 1) = if j < (bseq p q a j).length then bstep p q (bseq p q a j) j else bseq p q a j := rfl
    have s2 : bseq p' q' (ap f a) (j + 1) = if j < (bseq p' q' (ap f a) j).length then bstep p' q' (bseq p' q' (ap f a) j) j else bseq p' q' (ap f a) j := rfl
    rw [s1, s2, e, List.length_map]
    by_cases hj : j < (bseq p q a j).length
    · rw [if_pos hj, if_pos hj]
      have hx := hl _ (ap_mem hj)
      unfold bstep
      refine ⟨?_, put_lt (put_lt hl (hp.ap_lt hx)) (hq.ap_lt hx)⟩
      rw [put_map h.hf (put_lt hl (hp.ap_lt hx)) (hq.ap_lt hx), put_map h.hf hl (hp.ap_lt hx), ap_map hj, h.cp _ hx, h.cq _ hx]
    · rw [if_neg hj, if_neg hj]
      exact ⟨rfl, hl⟩
theorem mets_iso {p q p' q' f : List Nat} {n a : Nat} (hp : Pm p n) (hq : Pm q n) (h : Iso p q p' q' n f) (ha : a < n) : mets p' q' n (ap f a) = (mets p q n a).map (ap f) := (bseq_iso hp hq h ha n).1
/-- a sheet's twin hangs together -/
theorem iso_sh {p q p' q' f : List Nat} {n : Nat} (hs : Sh p q n) (h : Iso p q p' q' n f) (hp' : Pm p' n) (hq' : Pm q' n) : Sh p' q' n := by
  refine ⟨hp', hq', hs.pos, fun x hx => ?_⟩
  classical
  let S := (List.range n).filter fun x => decide (Re p' q' (ap f x))
  obtain ⟨z, hz, ez⟩ := h.hf.ap_surj hs.pos
  have hS : Pm S n := closed_full hs (List.nodup_range.filter _) (fun x hx => List.mem_range.mp (List.mem_filter.mp hx).1) (a := z) (List.mem_filter.mpr ⟨List.mem_range.mpr hz, by rw [ez]; simpa using Re.z⟩) fun x hx => by
    obtain ⟨h1, h2⟩ := List.mem_filter.mp hx
    have h1 := List.mem_range.mp h1
    have h2 : Re p' q' (ap f x) := by simpa using h2
    exact ⟨List.mem_filter.mpr ⟨List.mem_range.mpr (hs.hp.ap_lt h1), by rw [h.cp x h1]; simpa using Re.fa h2⟩, List.mem_filter.mpr ⟨List.mem_range.mpr (hs.hq.ap_lt h1), by rw [h.cq x h1]; simpa using Re.fb h2⟩⟩
  obtain ⟨y, hy, ey⟩ := h.hf.ap_surj hx
  have := (List.mem_filter.mp (hS.mem hy)).2
  rw [ey] at this
  simpa using this
theorem conj_sh {p q f : List Nat} {n : Nat} (hs : Sh p q n) (hf : Pm f n) : Sh (conj n f p) (conj n f q) n := iso_sh hs (conj_iso hf) (conj_pm hf hs.hp) (conj_pm hf hs.hq)
theorem Iso.inv {p q p' q' f : List Nat} {n : Nat} (h : Iso p q p' q' n f) (hp' : Pm p' n) (hq' : Pm q' n) (hp : Pm p n) (hq : Pm q n) : Iso p' q' p q n (bk n f) := by
  have hb := bk_pm h.hf
  refine ⟨hb, fun x hx => ?_, fun x hx => ?_⟩
  · have hy := hb.ap_lt hx
    have := h.cp _ hy
    rw [ap_bk h.hf hx] at this
    rw [← this, bk_ap h.hf (hp.ap_lt hy)]
  · have hy := hb.ap_lt hx
    have := h.cq _ hy
    rw [ap_bk h.hf hx] at this
    rw [← this, bk_ap h.hf (hq.ap_lt hy)]
def comp2 (n : Nat) (g f : List Nat) : List Nat := rowOf n fun x => ap g (ap f x)
theorem comp2_pm {f g : List Nat} {n : Nat} (hg : Pm g n) (hf : Pm f n) : Pm (comp2 n g f) n :=
  pm_rowOf (fun x hx => hg.ap_lt (hf.ap_lt hx)) fun x y hx hy e => hf.ap_inj hx hy (hg.ap_inj (hf.ap_lt hx) (hf.ap_lt hy) e)
theorem Iso.comp {p q p' q' p2 q2 f g : List Nat} {n : Nat} (h : Iso p q p' q' n f) (k : Iso p' q' p2 q2 n g) (hp : Pm p n) (hq : Pm q n) : Iso p q p2 q2 n (comp2 n g f) := by
  refine ⟨comp2_pm k.hf h.hf, fun x hx => ?_, fun x hx => ?_⟩
  · unfold comp2
    rw [ap_rowOf hx, ap_rowOf (hp.ap_lt hx), h.cp x hx, k.cp _ (h.hf.ap_lt hx)]
  · unfold comp2
    rw [ap_rowOf hx, ap_rowOf (hq.ap_lt hx), h.cq x hx, k.cq _ (h.hf.ap_lt hx)]
theorem Iso.id {p q : List Nat} {n : Nat} (hp : Pm p n) (hq : Pm q n) : Iso p q p q n (rowOf n fun x => x) :=
  ⟨pm_rowOf (fun _ h => h) fun _ _ _ _ e => e, fun x hx => by rw [ap_rowOf (hp.ap_lt hx), ap_rowOf hx], fun x hx => by rw [ap_rowOf (hq.ap_lt hx), ap_rowOf hx]⟩
/-- one is settled by one square -/
theorem iso_uniq {p q p' q' f g : List Nat} {n a : Nat} (hs : Sh p q n) (h : Iso p q p' q' n f) (k : Iso p q p' q' n g) (ha : a < n) (e : ap f a = ap g a) : f = g := by
  refine row_ext h.hf.len k.hf.len fun x hx => ?_
  have hm := mets_pm hs ha
  have e1 := mets_iso hs.hp hs.hq h ha
  have e2 := mets_iso hs.hp hs.hq k ha
  rw [e, e2] at e1
  have := List.map_inj_left.mp e1 x (hm.mem hx)
  exact this.symm
/-- the number of the first square is 0 -/
theorem mets_head {p q : List Nat} {n a : Nat} (hs : Sh p q n) (ha : a < n) : ap (mets p q n a) 0 = a := by
  have : ∀ j, ap (bseq p q a j) 0 = a ∧ 0 < (bseq p q a j).length := fun j => by
    induction j with
    | zero => exact ⟨rfl, by simp [bseq]⟩
    | succ j ih =>
      have s1 : bseq p q a (j + 1) = if j < (bseq p q a j).length then bstep p q (bseq p q a j) j else bseq p q a j := rfl
      rw [s1]
      by_cases hj : j < (bseq p q a j).length
      · rw [if_pos hj]
        unfold bstep
        exact ⟨by rw [put_ap (Nat.lt_of_lt_of_le ih.2 put_len), put_ap ih.2, ih.1], Nat.lt_of_lt_of_le (Nat.lt_of_lt_of_le ih.2 put_len) put_len⟩
      · rw [if_neg hj]; exact ih
  exact (this n).1
theorem num_first {p q : List Nat} {n a : Nat} (hs : Sh p q n) (ha : a < n) : ap (bk n (mets p q n a)) a = 0 := by
  have := bk_ap (mets_pm hs ha) hs.pos
  rwa [mets_head hs ha] at this
theorem rn_iso {p q : List Nat} {n a : Nat} (hs : Sh p q n) (ha : a < n) : Iso p q (rn p q n a).1 (rn p q n a).2 n (bk n (mets p q n a)) := conj_iso (bk_pm (mets_pm hs ha))
theorem rn_sh {p q : List Nat} {n a : Nat} (hs : Sh p q n) (ha : a < n) : Sh (rn p q n a).1 (rn p q n a).2 n := conj_sh hs (bk_pm (mets_pm hs ha))
/-- twins told from squares that lie over one another are the same -/
theorem iso_rn {p q p' q' f : List Nat} {n a : Nat} (hs : Sh p q n) (hs' : Sh p' q' n) (h : Iso p q p' q' n f) (ha : a < n) : rn p' q' n (ap f a) = rn p q n a := by
  have hm := mets_pm hs ha
  have hb := bk_pm hm
  have hfa := h.hf.ap_lt ha
  have hm' := mets_pm hs' hfa
  have e := mets_iso hs.hp hs.hq h ha
  have key : ∀ x, x < n → ap (bk n (mets p' q' n (ap f a))) (ap f x) = ap (bk n (mets p q n a)) x := fun x hx => by
    have hy := hb.ap_lt hx
    have h1 : ap (mets p' q' n (ap f a)) (ap (bk n (mets p q n a)) x) = ap f x := by
      rw [e, ap_map (by rw [hm.len]; exact hy), ap_bk hm hx]
    rw [← h1, bk_ap hm' hy]
  have hI : Iso p q (rn p' q' n (ap f a)).1 (rn p' q' n (ap f a)).2 n (bk n (mets p q n a)) := by
    have hr := rn_iso hs' hfa
    refine ⟨hb, fun x hx => ?_, fun x hx => ?_⟩
    · rw [← key _ (hs.hp.ap_lt hx), h.cp x hx, hr.cp _ (h.hf.ap_lt hx), key x hx]
    · rw [← key _ (hs.hq.ap_lt hx), h.cq x hx, hr.cq _ (h.hf.ap_lt hx), key x hx]
  obtain ⟨h1, h2⟩ := rn_pm hs' hfa
  obtain ⟨c1, c2⟩ := iso_conj hI h1.len h2.len
  exact Prod.ext c1.symm c2.symm
/-- the renumbering from square a on one sheet to square b on another one -/
def isoTo (p q p' q' : List Nat) (n a b : Nat) : List Nat := rowOf n fun x => ap (mets p' q' n b) (ap (bk n (mets p q n a)) x)
theorem isoTo_iso {p q p' q' : List Nat} {n a b : Nat} (hs : Sh p q n) (hs' : Sh p' q' n) (ha : a < n) (hb : b < n) (e : rn p q n a = rn p' q' n b) : Iso p q p' q' n (isoTo p q p' q' n a b) ∧ ap (isoTo p q p' q' n a b) a = b := by
  have h1 := rn_iso hs ha
  have h2 := (rn_iso hs' hb).inv (rn_pm hs' hb).1 (rn_pm hs' hb).2 hs'.hp hs'.hq
  rw [e] at h1
  have h3 := h1.comp h2 hs.hp hs.hq
  have hm' := mets_pm hs' hb
  rw [bk_bk hm'] at h3
  refine ⟨h3, ?_⟩
  show ap (rowOf n _) a = b
  rw [ap_rowOf ha, num_first hs ha, mets_head hs' hb]
theorem iso_isoTo {p q p' q' f : List Nat} {n a : Nat} (hs : Sh p q n) (hs' : Sh p' q' n) (h : Iso p q p' q' n f) (ha : a < n) : f = isoTo p q p' q' n a (ap f a) := by
  obtain ⟨h1, h2⟩ := isoTo_iso hs hs' ha (h.hf.ap_lt ha) (iso_rn hs hs' h ha).symm
  exact iso_uniq hs h h1 ha h2.symm
/-- twins have the same form -/
theorem rns_iso {p q p' q' f : List Nat} {n : Nat} (hs : Sh p q n) (hs' : Sh p' q' n) (h : Iso p q p' q' n f) (y : List Nat × List Nat) : y ∈ rns p q n ↔ y ∈ rns p' q' n := by
  unfold rns
  constructor
  · intro hy
    obtain ⟨a, ha, e⟩ := List.mem_map.mp hy
    have ha := List.mem_range.mp ha
    rw [← e, ← iso_rn hs hs' h ha]
    exact List.mem_map_of_mem (List.mem_range.mpr (h.hf.ap_lt ha))
  · intro hy
    obtain ⟨b, hb, e⟩ := List.mem_map.mp hy
    obtain ⟨a, ha, ea⟩ := h.hf.ap_surj (List.mem_range.mp hb)
    rw [← e, ← ea, iso_rn hs hs' h ha]
    exact List.mem_map_of_mem (List.mem_range.mpr ha)
theorem form_iso {p q p' q' f : List Nat} {n : Nat} (hs : Sh p q n) (hs' : Sh p' q' n) (h : Iso p q p' q' n f) : formOf p' q' n = formOf p q n := (minL_congr (rns_iso hs hs' h)).symm
theorem form_mem {p q : List Nat} {n : Nat} (hs : Sh p q n) : ∃ a, a < n ∧ rn p q n a = formOf p q n := by
  have := minL_mem (rns_ne (p := p) (q := q) hs.pos)
  obtain ⟨a, ha, e⟩ := List.mem_map.mp this
  exact ⟨a, List.mem_range.mp ha, e⟩
theorem form_sh {p q : List Nat} {n : Nat} (hs : Sh p q n) : Sh (formOf p q n).1 (formOf p q n).2 n := by
  obtain ⟨a, ha, e⟩ := form_mem hs
  rw [← e]
  exact rn_sh hs ha
theorem form_twin {p q : List Nat} {n : Nat} (hs : Sh p q n) : ∃ f, Iso p q (formOf p q n).1 (formOf p q n).2 n f := by
  obtain ⟨a, ha, e⟩ := form_mem hs
  rw [← e]
  exact ⟨_, rn_iso hs ha⟩
/-- of the same form, with a renumbering from one to the other -/
theorem form_same {p q p' q' : List Nat} {n : Nat} (hs : Sh p q n) (hs' : Sh p' q' n) : formOf p q n = formOf p' q' n ↔ ∃ b, b < n ∧ rn p q n 0 = rn p' q' n b := by
  constructor
  · intro e
    obtain ⟨f, hf⟩ := form_twin hs
    obtain ⟨g, hg⟩ := form_twin hs'
    rw [e] at hf
    have k := hf.comp (hg.inv (form_sh hs').hp (form_sh hs').hq hs'.hp hs'.hq) hs.hp hs.hq
    exact ⟨_, k.hf.ap_lt hs.pos, (iso_rn hs hs' k hs.pos).symm⟩
  · rintro ⟨b, hb, e⟩
    exact (form_iso hs hs' (isoTo_iso hs hs' hs.pos hb e).1).symm

theorem form_ok {p q : List Nat} {n : Nat} (h : Sh p q n) (hn : n < 1000) : f_form_2 [.v (sheet p q)] = .ret (.v (shP (formOf p q n))) := by
  refine fnR_of ?_
  show b_form_2 [.v (sheet p q), .u] = _
  have e0 := size_ok (p := p) (q := q) h.hp.len
  have l1 : lcF (rg1F (callF f_size (aCons (varF 0) aNil))) (asgn 1) [1] yesT (callF f_renumbered (aCons (varF 0) (aCons (callF f_numbering (aCons (varF 0) (aCons (varF 1) aNil))) aNil))) [.v (sheet p q), .u] = .ok (.o ((rns p q n).map shP)) := by
    rw [lc_rgD (n := n) 1 (fun x => shP (rn p q n x)) (by simp [e0]) (by omega) fun x hx => ⟨.v (shP (rn p q n x)), by
      have e1 := numbering_ok h hx hn
      have e2 := renum_ok (rowS_v (bk n (mets p q n x))) (bk_pm (mets_pm h hx)) h.hp h.hq (by omega)
      simp [e1, e2, rn, shP], rfl⟩]
    unfold rns
    rw [List.map_map]
    rfl
  have l2 := minA_sh (rns_ne (p := p) (q := q) h.pos)
  unfold b_form_2 formOf
  simp [l1, l2]

theorem back_row_ok {p : List Nat} {n : Nat} (hp : Pm p n) (hn : n ≤ 1000) : f_back_row [.v (.tuple (nD p))] = .ret (.v (.tuple (nD (bk n p)))) := by
  refine fnR_of ?_
  show b_back_row [.v (.tuple (nD p)), .u, .u, .u] = _
  have hpl := hp.len
  have h1 : lcF (itF itC (varF 0)) (asgn 3) [3] yesT (cF (.int 0)) [.v (.tuple (nD p)), .u, .u, .u] = .ok (.o (nD (rowOf n fun _ => 0))) := by
    rw [lcF_map p (fun n : Nat => Rv.v (.int (n : Int))) (fun _ => .int 0) (by simp [nD]) (by omega) fun x _ => ⟨_, _, rfl, rfl, rfl⟩]
    simp [nD, rowOf, List.map_const', hpl]
  have hl := forL_go (τ := unpT [asgn 2, asgn 3]) (s := setIt 1 (varF 3) (varF 2)) (rs := enR 0 ((nD p).map Rv.v)) (ρ := [.v (.tuple (nD p)), .o (nD (rowOf n fun _ => 0)), .u, .u])
    (fun i ρ => ∃ w x y, ρ = [.v (.tuple (nD p)), .o (nD w), x, y] ∧ BackInv p n i w) ⟨_, _, _, rfl, by simp, by simp⟩ ?_
  · obtain ⟨ρ', e, w, x, y, eρ, hw⟩ := hl
    subst eρ
    rw [enR_nD_len, hpl] at hw
    have hb := back_end hp hw
    subst hb
    unfold b_back_row
    simp [h1, e]
  · intro i r ρ hr ⟨w, x, y, eρ, hw⟩
    subst eρ
    obtain ⟨hi, er⟩ := enR_nD hr
    subst er
    rw [hpl] at hi
    refine ⟨[.v (.tuple (nD p)), .o (nD w), .v (.int i), .v (.int (ap p i : Nat))], [.v (.tuple (nD p)), .o (nD (w.set (ap p i) i)), .v (.int i), .v (.int (ap p i : Nat))], by simp, ?_, w.set (ap p i) i, _, _, rfl, back_step hp hw hi⟩
    have e3 := bixN (n := w.length) (i := ap p i) (by rw [hw.1]; exact hp.ap_lt hi)
    simp [setIt, e3, bset]

theorem unp_sheet {τ1 τ2 : TF} {p q : List Nat} {ρ : Env} : unpT [τ1, τ2] (.v (sheet p q)) ρ = (τ1 (.v (.tuple (nD p))) ρ).bind fun ρ' => (τ2 (.v (.tuple (nD q))) ρ').bind fun ρ'' => .ok ρ'' := (rfl)

/-- the upper row of the sheared sheet -/
def shr (n : Nat) (p q : List Nat) : List Nat := rowOf n fun x => ap q (ap (bk n p) x)
theorem shr_pm {n : Nat} {p q : List Nat} (hp : Pm p n) (hq : Pm q n) : Pm (shr n p q) n :=
  pm_rowOf (fun x hx => hq.ap_lt ((bk_pm hp).ap_lt hx)) fun x y hx hy e => (bk_pm hp).ap_inj hx hy (hq.ap_inj ((bk_pm hp).ap_lt hx) ((bk_pm hp).ap_lt hy) e)
theorem sheared_ok {p q : List Nat} {n : Nat} (hp : Pm p n) (hq : Pm q n) (hn : n ≤ 1000) : f_sheared [.v (sheet p q)] = .ret (.v (sheet p (shr n p q))) := by
  refine fnR_of ?_
  show b_sheared [.v (sheet p q), .u, .u, .u, .u] = _
  have e1 := back_row_ok hp hn
  have hb := bk_pm hp
  have e2 : lcF (itF itC (varF 1)) (asgn 4) [4] yesT (binF ixR (varF 3) (varF 4)) [.v (sheet p q), .v (.tuple (nD (bk n p))), .v (.tuple (nD p)), .v (.tuple (nD q)), .u] = .ok (.o (nD (shr n p q))) := by
    rw [lcF_map (bk n p) (fun n : Nat => Rv.v (.int (n : Int))) (fun x : Nat => .int (ap q x : Nat)) (by simp [nD]) (by rw [hb.len]; omega) fun x hx => ⟨[.v (sheet p q), .v (.tuple (nD (bk n p))), .v (.tuple (nD p)), .v (.tuple (nD q)), .v (.int x)], .v (.int (ap q x : Nat)), by simp, by
      have := ix_rowT (a := q) (x := x) (by rw [hq.len]; exact hb.lt x hx)
      simp [this], rfl⟩]
    have : (bk n p).map (ap q) = shr n p q := row_ext (m := n) (by simp [hb.len]) (by simp [shr]) fun x hx => by
      unfold shr
      rw [ap_rowOf hx]
      exact ap_of (by rw [List.getElem?_map, hb.get hx]; rfl)
    rw [← this]
    simp [nD]
  unfold b_sheared
  simp [unp_sheet, e1, e2, sheet_e]
theorem turned_ok {p q : List Nat} {n : Nat} (hq : Pm q n) (hn : n ≤ 1000) : f_turned [.v (sheet p q)] = .ret (.v (sheet (bk n q) p)) := by
  refine fnR_of ?_
  show b_turned [.v (sheet p q), .u, .u] = _
  have e1 := back_row_ok hq hn
  unfold b_turned
  simp [unp_sheet, e1, sheet_e]

theorem law_back_ok {p : List Nat} {n : Nat} (hp : Pm p n) (hn : n ≤ 1000) : f_law_back [.v (.tuple (nD p))] = .ret (.o (nD (bk n p))) := by
  refine fnR_of ?_
  show b_law_back [.v (.tuple (nD p)), .u, .u] = _
  have hpl := hp.len
  have h1 : lcF (itF itC (varF 0)) (asgn 2) [2] yesT (cF (.int 0)) [.v (.tuple (nD p)), .u, .u] = .ok (.o (nD (rowOf n fun _ => 0))) := by
    rw [lcF_map p (fun n : Nat => Rv.v (.int (n : Int))) (fun _ => .int 0) (by simp [nD]) (by omega) fun x _ => ⟨_, _, rfl, rfl, rfl⟩]
    simp [nD, rowOf, List.map_const', hpl]
  have h2 : rg1F (unF lenR (varF 0)) [.v (.tuple (nD p)), .o (nD (rowOf n fun _ => 0)), .u] = .ok ((List.range n).map fun (i : Nat) => Rv.v (.int (i : Int))) := by
    rw [rg1_e (n := (n : Int)) (a := .v (.int n)) (by simp [hpl]) rfl (by omega), rgR_nat]
  have hl := forL_go (τ := asgn 2) (s := setIt 1 (binF ixR (varF 0) (varF 2)) (varF 2)) (rs := (List.range n).map fun (i : Nat) => Rv.v (.int (i : Int))) (ρ := [.v (.tuple (nD p)), .o (nD (rowOf n fun _ => 0)), .u])
    (fun i ρ => ∃ w x, ρ = [.v (.tuple (nD p)), .o (nD w), x] ∧ BackInv p n i w) ⟨_, _, rfl, by simp, by simp⟩ ?_
  · obtain ⟨ρ', e, w, x, eρ, hw⟩ := hl
    subst eρ
    simp at hw
    have hb := back_end hp hw
    subst hb
    unfold b_law_back
    simp [h1, h2, e]
  · intro i r ρ hr ⟨w, x, eρ, hw⟩
    subst eρ
    obtain ⟨hi, er⟩ := List.getElem?_eq_some_iff.mp hr
    simp at er hi
    subst er
    refine ⟨[.v (.tuple (nD p)), .o (nD w), .v (.int i)], [.v (.tuple (nD p)), .o (nD (w.set (ap p i) i)), .v (.int i)], by simp, ?_, w.set (ap p i) i, _, rfl, back_step hp hw hi⟩
    have e3 := bixN (n := w.length) (i := ap p i) (by rw [hw.1]; exact hp.ap_lt hi)
    have e4 := ix_rowT (a := p) (x := i) (by omega)
    simp [setIt, e3, e4, bset]

/-! texts as rows of numbers -/
theorem atN {α : Type} (xs : List α) (i : Nat) : atI xs (i : Int) = xs[i]? := by
  unfold atI ixN
  rw [if_pos (Int.natCast_nonneg i)]
  by_cases h : i < xs.length
  · rw [if_pos (by omega)]
    rfl
  · rw [if_neg (by omega), List.getElem?_eq_none (by omega)]
    rfl
theorem str_ext {a b : Str} (h : a.cps.toList = b.cps.toList) : a = b := by
  cases a
  cases b
  have := Array.toList_inj.mp h
  simpa using this
def jl (s : List Nat) : List (List Nat) → List Nat
  | [] => []
  | [x] => x
  | x :: y :: r => x ++ s ++ jl s (y :: r)
theorem join_cps (sep : Str) : ∀ ys : List Str, (Txt.join sep ys).cps.toList = jl sep.cps.toList (ys.map fun y => y.cps.toList) := by
  intro ys
  show (Builtin.Str.glued sep ys).cps.toList = _
  rw [StrLaws.glued_eq_join]
  induction ys with
  | nil => rfl
  | cons x r ih =>
    cases r with
    | nil => rfl
    | cons y r =>
      show (x.cps ++ sep.cps ++ (Str.join sep (y :: r)).cps).toList = _
      rw [Array.toList_append, Array.toList_append, ih]
      rfl
theorem jl_nil : ∀ xs : List (List Nat), jl [] xs = xs.flatten
  | [] => rfl
  | [x] => by simp [jl]
  | x :: y :: r => by
    rw [jl, jl_nil (y :: r)]
    simp
theorem ixR_str {z : Str} {i c : Nat} (hz : z.length ≤ 100000) (h : z.cps.toList[i]? = some c) : ixR (.v (.str z)) (.v (.int i)) = .ok (.v (.str ⟨#[c]⟩)) := by
  have e : flat2 ixStr (.v (.str z)) (.v (.int i)) = .ok (.v (.str ⟨#[c]⟩)) := by
    unfold flat2 ixStr
    simp only [dat_v]
    rw [if_pos hz]
    have : atI z.cps.toList (i : Int) = some c := (atN z.cps.toList i).trans h
    rw [this]
    rfl
  have e2 : alt ixSeq (flat2 ixStr) (.v (.str z)) (.v (.int i)) = .ok (.v (.str ⟨#[c]⟩)) := by
    rw [alt_r (by rfl)]
    exact e
  show alt ixDic (alt ixSeq (flat2 ixStr)) _ _ = _
  rw [alt_r (by rfl)]
  exact e2
/-! the signs of squares -/
def sgS : Str := "0123456789abcdefghijklmnopqrstuvwxyz"
def sgn (i : Nat) : Nat := sgS.cps.toList.getD i 0
theorem sg_len : sgS.length = 36 := by decide +kernel
theorem sg_get {i : Nat} (h : i < 36) : sgS.cps.toList[i]? = some (sgn i) := by
  have hl : i < sgS.cps.toList.length := by
    have := sg_len
    unfold Str.length at this
    rw [Array.length_toList]
    omega
  unfold sgn
  rw [List.getD_eq_getElem?_getD, List.getElem?_eq_getElem hl]
  rfl
theorem find_all : (List.range 36).all (fun i => Txt.find sgS ⟨#[sgn i]⟩ == (i : Int)) = true := by decide +kernel
theorem find_sg {i : Nat} (h : i < 36) : Txt.find sgS ⟨#[sgn i]⟩ = i := by
  have := List.all_eq_true.mp find_all i (List.mem_range.mpr h)
  exact eq_of_beq this
theorem blank_all : (List.range 36).all (fun i => !(sgn i == 32)) = true := by decide +kernel
theorem sgn_ne {i : Nat} (h : i < 36) : sgn i ≠ 32 := by
  have := List.all_eq_true.mp blank_all i (List.mem_range.mpr h)
  simpa using this
/-- the word of a row -/
def wrd (r : List Nat) : Str := ⟨(r.map sgn).toArray⟩
def one (x : Nat) : Str := ⟨#[sgn x]⟩
theorem wrd_len (r : List Nat) : (wrd r).length = r.length := by simp [wrd, Str.length]
theorem wrd_chars (r : List Nat) : chars (wrd r) = r.map fun x => Rv.v (.str (one x)) := by
  unfold chars wrd one
  simp
theorem join_one (sep : Str) (hs : sep.cps.toList = []) (r : List Nat) : Txt.join sep (r.map one) = wrd r := by
  apply str_ext
  rw [join_cps, hs, jl_nil, List.map_map]
  unfold wrd one
  induction r with
  | nil => rfl
  | cons x r ih =>
    rw [List.map_cons, List.flatten_cons, ih]
    rfl
/-- two words with a blank between -/
def two (p q : List Nat) : Str := ⟨(p.map sgn ++ [32] ++ q.map sgn).toArray⟩
theorem blank_cps : ((" " : Str)).cps.toList = [32] := by decide +kernel
theorem empty_cps : (("" : Str)).cps.toList = [] := by decide +kernel
theorem join_two (p q : List Nat) : Txt.join " " [wrd p, wrd q] = two p q := by
  apply str_ext
  rw [join_cps, blank_cps]
  unfold wrd two
  simp [jl]
theorem cut_uniq {a b x y : List Nat} (ha : 32 ∉ a) (hx : 32 ∉ x) (h : a ++ 32 :: b = x ++ 32 :: y) : a = x ∧ b = y := by
  induction a generalizing x with
  | nil =>
    cases x with
    | nil => exact ⟨rfl, by simpa using h⟩
    | cons c x =>
      simp at h
      exact absurd (by rw [h.1]; exact List.mem_cons_self) hx
  | cons c a ih =>
    cases x with
    | nil =>
      simp at h
      exact absurd (by rw [h.1]; exact List.mem_cons_self) ha
    | cons d x =>
      simp at h
      obtain ⟨e1, e2⟩ := h
      obtain ⟨e3, e4⟩ := ih (fun z => ha (List.mem_cons_of_mem _ z)) (fun z => hx (List.mem_cons_of_mem _ z)) e2
      exact ⟨by rw [e1, e3], e4⟩
theorem jl_two {ps : List (List Nat)} {u v : List Nat} (hf : ∀ p ∈ ps, 32 ∉ p) (hu : 32 ∉ u) (hv : 32 ∉ v) (h : jl [32] ps = u ++ 32 :: v) : ps = [u, v] := by
  match ps with
  | [] => simp [jl] at h
  | [x] =>
    simp only [jl] at h
    exact absurd (by rw [h]; simp) (hf x (by simp))
  | x :: y :: r =>
    simp only [jl, List.append_assoc, List.singleton_append] at h
    obtain ⟨e1, e2⟩ := cut_uniq (hf x (by simp)) hu h
    cases r with
    | nil =>
      simp only [jl] at e2
      rw [e1, e2]
    | cons z r =>
      simp only [jl, List.append_assoc] at e2
      exact absurd (by rw [← e2]; simp) hv
theorem sg_free {r : List Nat} (h : ∀ x ∈ r, x < 36) : 32 ∉ r.map sgn := fun z => by
  obtain ⟨x, hx, e⟩ := List.mem_map.mp z
  exact sgn_ne (h x hx) e
theorem split_two {p q : List Nat} (hp : ∀ x ∈ p, x < 36) (hq : ∀ x ∈ q, x < 36) : Txt.split (two p q) " " = [wrd p, wrd q] := by
  have e0 : (" " : Str) = ⟨#[32]⟩ := by decide +kernel
  have h1 := StrLaws.join_split (two p q) " "
  have h2 := StrLaws.split_free (two p q) 32
  rw [← e0] at h2
  generalize Txt.split (two p q) " " = ps at h1 h2
  have h3 : jl [32] (ps.map fun y => y.cps.toList) = p.map sgn ++ 32 :: q.map sgn := by
    rw [← blank_cps, ← join_cps]
    show (Builtin.Str.glued " " ps).cps.toList = _
    rw [StrLaws.glued_eq_join, h1]
    simp [two]
  have h4 := jl_two (by
    intro y hy
    obtain ⟨z, hz, rfl⟩ := List.mem_map.mp hy
    exact h2 z hz) (sg_free hp) (sg_free hq) h3
  match ps, h4 with
  | [a, b], h4 =>
    simp at h4
    rw [show a = wrd p from str_ext (by simpa [wrd] using h4.1), show b = wrd q from str_ext (by simpa [wrd] using h4.2)]
  | [], h4 => simp at h4
  | [a], h4 => simp at h4
  | a :: b :: c :: r, h4 => simp at h4

theorem dStrs_map : ∀ ys : List Str, dStrs (ys.map .str) = some ys
  | [] => rfl
  | y :: ys => by
    rw [List.map_cons, dStrs, dStrs_map ys]
    rfl
theorem joinR_o {s : Str} {ys : List Str} (h : (ys.map (·.length)).sum + ys.length * s.length ≤ 16777216) : joinR s (.o (ys.map .str)) = .ok (.v (.str (Txt.join s ys))) := by
  unfold joinR
  simp only [dat_o]
  rw [dStrs_map]
  simp only
  rw [if_pos h]
theorem empty_len : ("" : Str).length = 0 := by decide +kernel
theorem blank_len : (" " : Str).length = 1 := by decide +kernel

/-! words of s and t -/
def tx (w : List Nat) : Str := ⟨w.toArray⟩
def ch1 (c : Nat) : Str := ⟨#[c]⟩
def St (w : List Nat) : Prop := ∀ c ∈ w, c = 115 ∨ c = 116
theorem tx_len (w : List Nat) : (tx w).length = w.length := by simp [tx, Str.length]
theorem tx_cps (w : List Nat) : (tx w).cps.toList = w := by simp [tx]
theorem tx_chars (w : List Nat) : chars (tx w) = w.map fun c => Rv.v (.str (ch1 c)) := by
  unfold chars tx ch1
  simp
theorem str_xt {a b : Str} (h : a.cps.toList = b.cps.toList) : a = b := by
  cases a
  cases b
  have := Array.toList_inj.mp h
  simpa using this
theorem tx_of {s : Str} {w : List Nat} (h : s.cps.toList = w) : s = tx w := str_xt (by rw [h, tx_cps])
theorem tx_app (u v : List Nat) : tx u ++ tx v = tx (u ++ v) := by
  apply tx_of
  show ((tx u).cps ++ (tx v).cps).toList = _
  rw [Array.toList_append, tx_cps, tx_cps]
theorem len_tx {w : List Nat} (h : w.length ≤ 100000) : lenR (.v (.str (tx w))) = .ok (.v (.int w.length)) := by
  unfold lenR
  simp only [dat_v, tx_len]
  rw [if_pos h]
theorem add_tx {u v : List Nat} (h : u.length + v.length ≤ 100000) : addR (.v (.str (tx u))) (.v (.str (tx v))) = .ok (.v (.str (tx (u ++ v)))) := by
  unfold addR
  rw [alt_r (by rfl)]
  refine alt_l ?_
  rw [flat2_e _ (dat_v _) (dat_v _)]
  unfold sadd
  simp only [tx_len]
  rw [if_pos h, tx_app]
  rfl
theorem cut_tx (w : List Nat) (k : Nat) : cutS (tx w) none (some (k : Int)) = tx (w.take k) := by
  apply tx_of
  unfold cutS
  rw [HT.sIx_none, HT.sIx_nat, tx_cps, tx_len]
  show (List.take (min k w.length - 0) (List.drop 0 w)).toArray.toList = _
  simp [List.take_eq_take_iff]
theorem cut_tx2 (w : List Nat) (k : Nat) : cutS (tx w) (some (k : Int)) none = tx (w.drop k) := by
  apply tx_of
  unfold cutS
  rw [HT.sIx_none, HT.sIx_nat, tx_cps, tx_len]
  show (List.take (w.length - min k w.length) (List.drop (min k w.length) w)).toArray.toList = _
  by_cases h : k ≤ w.length
  · rw [Nat.min_eq_left h]
    simp only [List.toList_toArray]
    exact List.take_of_length_le (by rw [List.length_drop]; omega)
  · rw [Nat.min_eq_right (by omega), List.drop_eq_nil_of_le (by omega), List.drop_eq_nil_of_le (by omega)]
    simp
theorem slR_l {w : List Nat} (k : Nat) (h : w.length ≤ 100000) : slR (.v (.str (tx w))) none (some (k : Int)) = .ok (.v (.str (tx (w.take k)))) := by
  show (if (tx w).length ≤ 100000 then Er.ok (Rv.v (.str (cutS (tx w) none (some (k : Int))))) else .bad) = _
  rw [if_pos (by rw [tx_len]; exact h), cut_tx]
theorem slR_r {w : List Nat} (k : Nat) (h : w.length ≤ 100000) : slR (.v (.str (tx w))) (some (k : Int)) none = .ok (.v (.str (tx (w.drop k)))) := by
  show (if (tx w).length ≤ 100000 then Er.ok (Rv.v (.str (cutS (tx w) (some (k : Int)) none))) else .bad) = _
  rw [if_pos (by rw [tx_len]; exact h), cut_tx2]
/-! the letters -/
theorem ok_ch1 {c : Nat} (h : c < 1114112) : PyData.strOk (ch1 c) = true := by
  unfold PyData.strOk ch1
  simp [h]
theorem deq_ch {c d : Nat} (hc : c < 1114112) (hd : d < 1114112) : deq false (.str (ch1 c)) (.str (ch1 d)) = .ok (.bool (decide (c = d))) := by
  have sh : ∀ c, c < 1114112 → SeqAt.shaped (.str (ch1 c)) = true := fun c h => by
    unfold SeqAt.shaped
    rw [PyData.canLay0, ok_ch1 h, PyData.depth]
    rfl
  unfold deq
  rw [if_pos ⟨sh c hc, sh d hd⟩, PyData.eqv]
  congr 2
  by_cases h : c = d
  · subst h
    simp
  · have : ch1 c ≠ ch1 d := fun z => h (by
      have := congrArg (fun s : Str => s.cps.toList) z
      simpa [ch1] using this)
    simp [h, this]

theorem s_is : ("s" : Str) = ch1 115 := by decide +kernel
theorem t_is : ("t" : Str) = ch1 116 := by decide +kernel
theorem is_s {c : Nat} (h : c = 115 ∨ c = 116) : deq false (.str (ch1 c)) (.str "s") = .ok (.bool (decide (c = 115))) := by
  rw [s_is]
  exact deq_ch (by omega) (by decide)
theorem inst_of {s : Str} {b : Bool} (h : inStr true (.str s) (.str "st") = .ok (.bool b)) : inR true (.v (.str s)) (.v (.str "st")) = .ok (.v (.bool b)) := by
  refine (alt_r rfl).trans ((alt_r rfl).trans ?_)
  rw [flat2_e _ rfl rfl, h]
  rfl
theorem in_s1 : inR true (.v (.str (ch1 115))) (.v (.str "st")) = .ok (.v (.bool false)) := inst_of (by
  show Er.ok (PyData.bool _) = _
  congr 2
  decide +kernel)
theorem in_t1 : inR true (.v (.str (ch1 116))) (.v (.str "st")) = .ok (.v (.bool false)) := inst_of (by
  show Er.ok (PyData.bool _) = _
  congr 2
  decide +kernel)
theorem in_st {c : Nat} (h : c = 115 ∨ c = 116) : inR true (.v (.str (ch1 c))) (.v (.str "st")) = .ok (.v (.bool false)) := by
  rcases h with rfl | rfl
  · exact in_s1
  · exact in_t1
/-! the table of a word -/

theorem st_rep {c : Nat} (h : c = 115 ∨ c = 116) (k : Nat) : St (List.replicate k c) := fun d hd => by
  rw [List.eq_of_mem_replicate hd]
  exact h
theorem st_flat {ws : List (List Nat)} (h : ∀ w ∈ ws, St w) : St ws.flatten := fun c hc => by
  obtain ⟨w, hw, hc⟩ := List.mem_flatten.mp hc
  exact h w hw c hc
theorem join_tx (ws : List (List Nat)) : Txt.join "" (ws.map tx) = tx ws.flatten := by
  apply tx_of
  rw [join_cps, empty_cps, jl_nil, List.map_map]
  congr 1
  induction ws with
  | nil => rfl
  | cons w ws ih =>
    rw [List.map_cons, ih]
    show (tx w).cps.toList :: ws = _
    rw [tx_cps]
theorem sum_tx (ws : List (List Nat)) : ((ws.map tx).map (·.length)).sum = ws.flatten.length := by
  induction ws with
  | nil => rfl
  | cons w ws ih =>
    rw [List.map_cons, List.map_cons, List.sum_cons, ih, tx_len, List.flatten_cons, List.length_append]
theorem sp_is : ("s" : Str) = tx [115] := by decide +kernel
theorem tp_is : ("t" : Str) = tx [116] := by decide +kernel
theorem sst_is : ("sst" : Str) = tx [115, 115, 116] := by decide +kernel
theorem flat_rep1 (c k : Nat) : (List.replicate k [c]).flatten = List.replicate k c := by
  induction k with
  | zero => rfl
  | succ k ih => rw [List.replicate_succ, List.flatten_cons, ih]; rfl
theorem forL_exc {τ : TF} {s : SF} {r : Rv} {rs : List Rv} {ρ ρ1 ρ2 : Env} {c : Str} {p : Option (Str × PyData)} (h : τ r ρ = .ok ρ1) (h2 : s ρ1 = .exc c p ρ2) : forL τ s (r :: rs) ρ = .exc c p ρ2 := by
  rw [forL_cons h, h2]
theorem its_tx {f : EF} {ρ : Env} {w : List Nat} (h : f ρ = .ok (.v (.str (tx w)))) : itF itT f ρ = .ok (w.map fun c => Rv.v (.str (ch1 c))) := by
  rw [itF_e, h, ← tx_chars]
  rfl

theorem st_ix (c : Int) : ∃ z : Nat, (z = 115 ∨ z = 116) ∧ ∃ i : Int, imod c 2 = .ok (.int i) ∧ ixR (.v (.str "st")) (.v (.int i)) = .ok (.v (.str (tx [z]))) := by
  have h2 : imod c 2 = .ok (.int (c % 2)) := imod_s (by decide)
  have := Int.emod_two_eq c
  rcases this with z | z
  · exact ⟨115, .inl rfl, 0, by rw [h2, z], rfl⟩
  · exact ⟨116, .inr rfl, 1, by rw [h2, z], rfl⟩

def cwIn2 : SF := (ifS (tstF (binF (inR true) (varF 1) (cF (.str "st")))) (excS "NoWord")
  skipS)
theorem cw_go2 {s0 : Sl} : ∀ (u : List Nat) (x : Sl), St u → ∃ x', forL (asgn 1) cwIn2 (u.map (fun c => Rv.v (.str (ch1 c)))) [s0, x] = .next [s0, x']
  | [], x, _ => ⟨x, rfl⟩
  | c :: u, x, h => by
    obtain ⟨x', e⟩ := cw_go2 (s0 := s0) u (.v (.str (ch1 c))) fun d hd => h d (List.mem_cons_of_mem _ hd)
    refine ⟨x', ?_⟩
    have st : cwIn2 [s0, .v (.str (ch1 c))] = .next [s0, .v (.str (ch1 c))] := by
      unfold cwIn2
      simp [in_st (h c List.mem_cons_self)]
    rw [List.map_cons, forL_next rfl st]
    exact e
theorem check_word2w_ok {w : List Nat} (h : St w) (hl : w.length ≤ 1000) : f_check_word_2 [.v (.str (tx w))] = .ret (.v .none) := by
  obtain ⟨x', e⟩ := cw_go2 (s0 := .v (.str (tx w))) w .u h
  refine fnR_none (ρ := [.v (.str (tx w)), x']) ?_
  show (seqS _ (forS (itF itT (varF 0)) (asgn 1) cwIn2)) [.v (.str (tx w)), .u] = _
  have z : ¬ (1000 : Int) < w.length := by omega
  rw [seq_go (ρ' := [.v (.str (tx w)), .u]) (by simp [len_tx (w := w) (by omega), z])]
  rw [forS_e, its_tx rfl]
  exact e
/-- a sheet moved by a word -/
def mvP (n : Nat) (s : List Nat × List Nat) (c : Nat) : List Nat × List Nat := if c = 115 then (s.1, shr n s.1 s.2) else (bk n s.2, s.1)
def mvW (n : Nat) (s : List Nat × List Nat) (w : List Nat) : List Nat × List Nat := w.foldl (mvP n) s
theorem mvP_pm {n c : Nat} {s : List Nat × List Nat} (h : Pm s.1 n ∧ Pm s.2 n) : Pm (mvP n s c).1 n ∧ Pm (mvP n s c).2 n := by
  unfold mvP
  split
  · exact ⟨h.1, shr_pm h.1 h.2⟩
  · exact ⟨bk_pm h.2, h.1⟩
theorem mvW_pm {n : Nat} (w : List Nat) : ∀ {s : List Nat × List Nat}, Pm s.1 n ∧ Pm s.2 n → Pm (mvW n s w).1 n ∧ Pm (mvW n s w).2 n := by
  induction w with
  | nil => exact fun h => h
  | cons c w ih => exact fun h => ih (mvP_pm h)
def mvIn : SF := (ifS (tstF (binF eqR (varF 2) (cF (.str "s")))) (asgS (callF f_sheared (aCons (varF 0) aNil)) (asgn 0))
  (asgS (callF f_turned (aCons (varF 0) aNil)) (asgn 0)))
theorem mv_loop {n : Nat} {s1 : Sl} (hn : n ≤ 1000) : ∀ (w : List Nat) (s : List Nat × List Nat) (x : Sl), St w → Pm s.1 n ∧ Pm s.2 n → ∃ x', forL (asgn 2) mvIn (w.map fun c => Rv.v (.str (ch1 c))) [.v (sheet s.1 s.2), s1, x] = .next [.v (sheet (mvW n s w).1 (mvW n s w).2), s1, x']
  | [], s, x, _, _ => ⟨x, rfl⟩
  | c :: w, s, x, h, hp => by
    have hc := h c List.mem_cons_self
    obtain ⟨x', e⟩ := mv_loop (s1 := s1) hn w (mvP n s c) (.v (.str (ch1 c))) (fun d hd => h d (List.mem_cons_of_mem _ hd)) (mvP_pm hp)
    refine ⟨x', ?_⟩
    have eq := is_s hc
    rw [List.map_cons, forL_next (ρ2 := [.v (sheet (mvP n s c).1 (mvP n s c).2), s1, .v (.str (ch1 c))]) rfl (by
      show mvIn [.v (sheet s.1 s.2), s1, .v (.str (ch1 c))] = _
      unfold mvIn mvP
      have e1 := sheared_ok hp.1 hp.2 hn
      have e2 := turned_ok (p := s.1) hp.2 hn
      rcases hc with rfl | rfl
      · simp [eq, e1]
      · simp [eq, e2])]
    exact e
theorem moved2w_ok {p q w : List Nat} {n : Nat} (hp : Pm p n) (hq : Pm q n) (hn : n ≤ 1000) (hw : St w) (hl : w.length ≤ 1000) : f_moved_2 [.v (sheet p q), .v (.str (tx w))] = .ret (.v (sheet (mvW n (p, q) w).1 (mvW n (p, q) w).2)) := by
  have e0 := check_word2w_ok hw hl
  obtain ⟨x', e⟩ := mv_loop (s1 := .v (.str (tx w))) hn w (p, q) .u hw ⟨hp, hq⟩
  refine fnR_of ?_
  show (seqS _ (seqS (forS (itF itT (varF 1)) (asgn 2) mvIn) _)) [.v (sheet p q), .v (.str (tx w)), .u] = _
  rw [seq_go (ρ' := [.v (sheet p q), .v (.str (tx w)), .u]) (by simp [e0])]
  rw [seq_go (by rw [forS_e, its_tx rfl]; exact e)]
  simp

theorem bk_cj {r s g : List Nat} {n : Nat} (hr : Pm r n) (hs : Pm s n) (hg : Pm g n) (e : ∀ x, x < n → ap s (ap g x) = ap g (ap r x)) : ∀ x, x < n → ap (bk n s) (ap g x) = ap g (ap (bk n r) x) := fun y hy => by
  have hb := (bk_pm hr).ap_lt hy
  have := e _ hb
  rw [ap_bk hr hy] at this
  rw [← this, bk_ap hs (hg.ap_lt hb)]

/-! rounds of an order -/
def it (r : List Nat) : Nat → Nat → Nat
  | 0, x => x
  | k + 1, x => ap r (it r k x)
theorem it_lt {r : List Nat} {n x : Nat} (h : Pm r n) (hx : x < n) : ∀ k, it r k x < n
  | 0 => hx
  | k + 1 => h.ap_lt (it_lt h hx k)
theorem it_add (r : List Nat) (x : Nat) (b : Nat) : ∀ a, it r (a + b) x = it r a (it r b x)
  | 0 => by rw [Nat.zero_add]; rfl
  | a + 1 => by
    rw [Nat.succ_add]
    show ap r (it r (a + b) x) = ap r (it r a (it r b x))
    rw [it_add r x b a]
theorem it_inj {r : List Nat} {n x y : Nat} (h : Pm r n) (hx : x < n) (hy : y < n) : ∀ k, it r k x = it r k y → x = y
  | 0, e => e
  | k + 1, e => it_inj h hx hy k (h.ap_inj (it_lt h hx k) (it_lt h hy k) e)
theorem it_back {r : List Nat} {n x : Nat} (h : Pm r n) (hx : x < n) {i j : Nat} (hij : i ≤ j) (e : it r i x = it r j x) : it r (j - i) x = x := by
  have : it r i (it r (j - i) x) = it r i x := by
    rw [← it_add, Nat.add_sub_cancel' hij, e]
  exact it_inj h (it_lt h hx _) hx i this
theorem it_ex {r : List Nat} {n x : Nat} (h : Pm r n) (hx : x < n) : ∃ k, k < n ∧ it r (k + 1) x = x := by
  refine Classical.byContradiction fun hno => ?_
  have hnd : ((List.range (n + 1)).map fun k => it r k x).Nodup := by
    rw [List.nodup_iff_pairwise_ne, List.pairwise_map]
    refine List.Pairwise.imp_of_mem (fun {i j} hi hj hlt e => ?_) (List.pairwise_lt_range (n := n + 1))
    have hi := List.mem_range.mp hi
    have hj := List.mem_range.mp hj
    refine hno ⟨j - i - 1, by omega, ?_⟩
    rw [show j - i - 1 + 1 = j - i by omega]
    exact it_back h hx (Nat.le_of_lt hlt) e
  have := List.Nodup.length_le_of_subset hnd (l₂ := List.range n) fun y hy => by
    obtain ⟨k, _, e⟩ := List.mem_map.mp hy
    exact List.mem_range.mpr (e ▸ it_lt h hx k)
  simp at this
  omega
/-- the least way round -/
theorem ord_ex {r : List Nat} {n x : Nat} (h : Pm r n) (hx : x < n) : ∃ k, 0 < k ∧ k ≤ n ∧ it r k x = x ∧ ∀ j, 0 < j → j < k → it r j x ≠ x := by
  obtain ⟨k, hk, e⟩ := it_ex h hx
  have : ∀ m, (∃ k, k < m ∧ it r (k + 1) x = x) → ∃ k, 0 < k ∧ k ≤ m ∧ it r k x = x ∧ ∀ j, 0 < j → j < k → it r j x ≠ x := by
    intro m
    induction m with
    | zero => intro ⟨k, hk, _⟩; omega
    | succ m ih =>
      intro ⟨k, hk, e⟩
      by_cases hm : ∃ k, k < m ∧ it r (k + 1) x = x
      · obtain ⟨k, a, b, c⟩ := ih hm
        exact ⟨k, a, by omega, c⟩
      · have : k = m := by
          refine Classical.byContradiction fun hne => hm ⟨k, by omega, e⟩
        subst this
        exact ⟨k + 1, by omega, by omega, e, fun j h1 h2 e2 => hm ⟨j - 1, by omega, by rw [show j - 1 + 1 = j by omega]; exact e2⟩⟩
  obtain ⟨k, a, b, c⟩ := this n ⟨k, hk, e⟩
  exact ⟨k, a, b, c⟩
def ordr (r : List Nat) (n x : Nat) : Nat := ((List.range n).find? fun k => decide (it r (k + 1) x = x)).getD 0 + 1
theorem ordr_spec {r : List Nat} {n x : Nat} (h : Pm r n) (hx : x < n) : 0 < ordr r n x ∧ ordr r n x ≤ n ∧ it r (ordr r n x) x = x ∧ ∀ j, 0 < j → j < ordr r n x → it r j x ≠ x := by
  obtain ⟨k, a, b, c, d⟩ := ord_ex h hx
  have e : (List.range n).find? (fun k => decide (it r (k + 1) x = x)) = some (k - 1) := List.find?_range_eq_some.mpr ⟨by rw [show k - 1 + 1 = k by omega]; simpa using c, List.mem_range.mpr (by omega), fun j hj => by
    have := d (j + 1) (by omega) (by omega)
    simpa using this⟩
  have e2 : ordr r n x = k := by
    unfold ordr
    rw [e]
    show k - 1 + 1 = k
    omega
  rw [e2]
  exact ⟨a, b, c, d⟩
theorem ordr_of {r : List Nat} {n x k : Nat} (h : Pm r n) (hx : x < n) (h0 : 0 < k) (e : it r k x = x) (hm : ∀ j, 0 < j → j < k → it r j x ≠ x) : ordr r n x = k := by
  obtain ⟨a, _, c, d⟩ := ordr_spec h hx
  rcases Nat.lt_trichotomy (ordr r n x) k with q | q | q
  · exact absurd c (hm _ a q)
  · exact q
  · exact absurd e (d k h0 q)
/-- the round from x on -/
def cyc (r : List Nat) (n x : Nat) : List Nat := (List.range (ordr r n x)).map fun k => it r k x
@[simp] theorem cyc_len (r : List Nat) (n x : Nat) : (cyc r n x).length = ordr r n x := by simp [cyc]
theorem cyc_mem {r : List Nat} {n x : Nat} (h : Pm r n) (hx : x < n) (k : Nat) : it r k x ∈ cyc r n x := by
  obtain ⟨a, _, c, _⟩ := ordr_spec h hx
  have key : ∀ q m, it r (m + q * ordr r n x) x = it r m x := by
    intro q
    induction q with
    | zero => intro m; simp
    | succ q ih =>
      intro m
      rw [Nat.succ_mul, ← Nat.add_assoc, it_add, c]
      exact ih m
  have e : it r k x = it r (k % ordr r n x) x := by
    have := key (k / ordr r n x) (k % ordr r n x)
    rw [Nat.mul_comm, Nat.mod_add_div] at this
    exact this
  rw [e]
  exact List.mem_map.mpr ⟨_, List.mem_range.mpr (Nat.mod_lt _ a), rfl⟩
theorem mem_cyc {r : List Nat} {n x y : Nat} (h : y ∈ cyc r n x) : ∃ k, k < ordr r n x ∧ it r k x = y := by
  obtain ⟨k, hk, e⟩ := List.mem_map.mp h
  exact ⟨k, List.mem_range.mp hk, e⟩
theorem cyc_self {r : List Nat} {n x : Nat} (h : Pm r n) (hx : x < n) : x ∈ cyc r n x := cyc_mem h hx 0
theorem cyc_lt {r : List Nat} {n x y : Nat} (h : Pm r n) (hx : x < n) (hy : y ∈ cyc r n x) : y < n := by
  obtain ⟨k, _, e⟩ := mem_cyc hy
  exact e ▸ it_lt h hx k
theorem cyc_nd {r : List Nat} {n x : Nat} (h : Pm r n) (hx : x < n) : (cyc r n x).Nodup := by
  obtain ⟨a, _, c, d⟩ := ordr_spec h hx
  unfold cyc
  rw [List.nodup_iff_pairwise_ne, List.pairwise_map]
  refine List.Pairwise.imp_of_mem (fun {i j} hi hj hlt e => ?_) (List.pairwise_lt_range (n := ordr r n x))
  have hj := List.mem_range.mp hj
  exact d (j - i) (by omega) (by omega) (it_back h hx (Nat.le_of_lt hlt) e)
/-- rounds are alike or apart -/
theorem cyc_sym {r : List Nat} {n x y : Nat} (h : Pm r n) (hx : x < n) (hy : y ∈ cyc r n x) : x ∈ cyc r n y := by
  obtain ⟨k, hk, e⟩ := mem_cyc hy
  obtain ⟨_, _, c, _⟩ := ordr_spec h hx
  have := cyc_mem h (cyc_lt h hx hy) (ordr r n x - k)
  rw [← e, ← it_add, Nat.sub_add_cancel (Nat.le_of_lt hk), c] at this
  rw [← e]
  exact this
theorem cyc_trans {r : List Nat} {n x y z : Nat} (h : Pm r n) (hx : x < n) (hy : y ∈ cyc r n x) (hz : z ∈ cyc r n y) : z ∈ cyc r n x := by
  obtain ⟨k, _, e⟩ := mem_cyc hy
  obtain ⟨l, _, e2⟩ := mem_cyc hz
  rw [← e2, ← e, ← it_add]
  exact cyc_mem h hx _
/-- who opens a round: the least of it -/
def opens (r : List Nat) (n x : Nat) : Bool := (List.range x).all fun y => decide (x ∉ cyc r n y)
def reps (r : List Nat) (n i : Nat) : List Nat := (List.range i).filter (opens r n)
theorem opens_iff {r : List Nat} {n x : Nat} : opens r n x = true ↔ ∀ y, y < x → x ∉ cyc r n y := by
  unfold opens
  rw [List.all_eq_true]
  exact ⟨fun h y hy => by simpa using h y (List.mem_range.mpr hy), fun h y hy => by simpa using h y (List.mem_range.mp hy)⟩
theorem reps_succ (r : List Nat) (n i : Nat) : reps r n (i + 1) = if opens r n i = true then reps r n i ++ [i] else reps r n i := by
  unfold reps
  rw [List.range_succ, List.filter_append]
  split
  · rename_i h; simp [h]
  · rename_i h; simp [h]
/-- each square stands in one round of an opener -/
theorem rep_ex {r : List Nat} {n : Nat} (h : Pm r n) : ∀ m x, x < m → x < n → ∃ y, y ≤ x ∧ opens r n y = true ∧ x ∈ cyc r n y
  | 0, _, hm, _ => by omega
  | m + 1, x, hm, hx => by
    by_cases ho : opens r n x = true
    · exact ⟨x, Nat.le_refl _, ho, cyc_self h hx⟩
    · have : ∃ y, y < x ∧ x ∈ cyc r n y := Classical.byContradiction fun hno => ho (opens_iff.mpr fun y hy hm => hno ⟨y, hy, hm⟩)
      obtain ⟨y, hy, hxy⟩ := this
      obtain ⟨z, hz, ho2, hyz⟩ := rep_ex h m y (by omega) (by omega)
      exact ⟨z, by omega, ho2, cyc_trans h (by omega) hyz hxy⟩
theorem rep_uniq {r : List Nat} {n x y z : Nat} (h : Pm r n) (hy : y < n) (hz : z < n) (oy : opens r n y = true) (oz : opens r n z = true) (a : x ∈ cyc r n y) (b : x ∈ cyc r n z) : y = z := by
  have h1 : z ∈ cyc r n y := cyc_trans h hy a (cyc_sym h hz b)
  have h2 : y ∈ cyc r n z := cyc_trans h hz b (cyc_sym h hy a)
  rcases Nat.lt_trichotomy y z with q | q | q
  · exact absurd h1 (opens_iff.mp oz y q)
  · exact q
  · exact absurd h2 (opens_iff.mp oy z q)
/-- all rounds together are all squares -/
theorem rounds_perm {r : List Nat} {n : Nat} (h : Pm r n) : ((reps r n n).map (cyc r n)).flatten.Perm (List.range n) := by
  have hlt : ∀ y ∈ reps r n n, y < n ∧ opens r n y = true := fun y hy => by
    have := List.mem_filter.mp hy
    exact ⟨List.mem_range.mp this.1, this.2⟩
  have hnd : (reps r n n).Nodup := List.Pairwise.filter _ List.nodup_range
  refine (List.perm_ext_iff_of_nodup ?_ List.nodup_range).mpr fun x => ?_
  · rw [List.nodup_iff_pairwise_ne, List.pairwise_flatten]
    refine ⟨fun l hl => ?_, ?_⟩
    · obtain ⟨y, hy, e⟩ := List.mem_map.mp hl
      exact e ▸ (List.nodup_iff_pairwise_ne.mp (cyc_nd h (hlt y hy).1))
    · rw [List.pairwise_map]
      refine List.Pairwise.imp_of_mem (fun {y z} hy hz hne => ?_) hnd
      intro u hu v hv e
      subst e
      exact hne (rep_uniq h (hlt y hy).1 (hlt z hz).1 (hlt y hy).2 (hlt z hz).2 hu hv)
  · rw [List.mem_flatten, List.mem_range]
    constructor
    · intro ⟨l, hl, hx⟩
      obtain ⟨y, hy, e⟩ := List.mem_map.mp hl
      exact cyc_lt h (hlt y hy).1 (e ▸ hx)
    · intro hx
      obtain ⟨y, hy, ho, hxy⟩ := rep_ex h (x + 1) x (by omega) hx
      exact ⟨_, List.mem_map.mpr ⟨y, List.mem_filter.mpr ⟨List.mem_range.mpr (by omega), ho⟩, rfl⟩, hxy⟩

theorem shr_ap {n x : Nat} {p q : List Nat} (hx : x < n) : ap (shr n p q) x = ap q (ap (bk n p) x) := ap_rowOf hx

/-! sheets turned about (as in bandmarks) -/
theorem re_it {a b : List Nat} {x : Nat} (h : Re a b x) : ∀ k, Re a b (it a k x)
  | 0 => h
  | k + 1 => .fa (re_it h k)
theorem re_it2 {a b : List Nat} {x : Nat} (h : Re a b x) : ∀ k, Re a b (it b k x)
  | 0 => h
  | k + 1 => .fb (re_it2 h k)
theorem bk_it {r : List Nat} {n x : Nat} (h : Pm r n) (hx : x < n) : ap (bk n r) x = it r (ordr r n x - 1) x := by
  obtain ⟨a, _, c, _⟩ := ordr_spec h hx
  have e : ap r (it r (ordr r n x - 1) x) = x := by
    show it r (ordr r n x - 1 + 1) x = x
    rw [Nat.sub_add_cancel a]
    exact c
  have := bk_ap h (it_lt h hx (ordr r n x - 1))
  rwa [e] at this
theorem re_lt {a b : List Nat} {n x : Nat} (ha : Pm a n) (hb : Pm b n) (h0 : 0 < n) (h : Re a b x) : x < n := by
  induction h with
  | z => exact h0
  | fa _ ih => exact ha.ap_lt ih
  | fb _ ih => exact hb.ap_lt ih
theorem re_bk {a b : List Nat} {n x : Nat} (ha : Pm a n) (hx : x < n) (h : Re a b x) : Re a b (ap (bk n a) x) := by
  rw [bk_it ha hx]
  exact re_it h _
theorem re_bk2 {a b : List Nat} {n x : Nat} (hb : Pm b n) (hx : x < n) (h : Re a b x) : Re a b (ap (bk n b) x) := by
  rw [bk_it hb hx]
  exact re_it2 h _
theorem sh_bkr {p q : List Nat} {n : Nat} (h : Sh p q n) : Sh (bk n p) q n := by
  have hb := bk_pm h.hp
  refine ⟨hb, h.hq, h.pos, fun x hx => ?_⟩
  have key : ∀ y, Re p q y → Re (bk n p) q y := fun y hy => by
    induction hy with
    | z => exact .z
    | fa hy ih =>
      have := re_bk hb (re_lt h.hp h.hq h.pos hy) ih
      rwa [bk_bk h.hp] at this
    | fb _ ih => exact .fb ih
  exact key x (h.re x hx)
theorem sh_swap {p q : List Nat} {n : Nat} (h : Sh p q n) : Sh q p n := by
  refine ⟨h.hq, h.hp, h.pos, fun x hx => ?_⟩
  have key : ∀ y, Re p q y → Re q p y := fun y hy => by
    induction hy with
    | z => exact .z
    | fa _ ih => exact .fb ih
    | fb _ ih => exact .fa ih
  exact key x (h.re x hx)
theorem sh_upr {p q : List Nat} {n : Nat} (h : Sh p q n) : Sh q (bk n p) n := sh_swap (sh_bkr h)

theorem sh_mvP {n c : Nat} {s : List Nat × List Nat} (h : Sh s.1 s.2 n) : Sh (mvP n s c).1 (mvP n s c).2 n := by
  have hp := h.hp
  have hq := h.hq
  unfold mvP
  split
  · refine ⟨hp, shr_pm hp hq, h.pos, fun x hx => ?_⟩
    have key : ∀ y, Re s.1 s.2 y → Re s.1 (shr n s.1 s.2) y := fun y hy => by
      induction hy with
      | z => exact .z
      | fa _ ih => exact .fa ih
      | fb hz ih =>
        rename_i z
        have hzn := re_lt hp hq h.pos hz
        have : ap s.2 z = ap (shr n s.1 s.2) (ap s.1 z) := by rw [shr_ap (hp.ap_lt hzn), bk_ap hp hzn]
        rw [this]
        exact .fb (.fa ih)
    exact key x (h.re x hx)
  · exact sh_bkr (sh_swap h)
theorem sh_mvW {n : Nat} : ∀ (w : List Nat) {s : List Nat × List Nat}, Sh s.1 s.2 n → Sh (mvW n s w).1 (mvW n s w).2 n
  | [], _, h => h
  | _ :: w, _, h => sh_mvW w (sh_mvP h)

/-! all forms to which the letters lead, one after the other -/
abbrev S2 := List Nat × List Nat
abbrev FW := S2 × List Nat
def FS (n : Nat) (s : S2) : Prop := ∃ p q, Sh p q n ∧ s = formOf p q n
theorem FS.sh {n : Nat} {s : S2} (h : FS n s) : Sh s.1 s.2 n := by
  obtain ⟨p, q, hs, rfl⟩ := h
  exact form_sh hs
theorem FS.self {n : Nat} {s : S2} (h : FS n s) : formOf s.1 s.2 n = s := by
  obtain ⟨p, q, hs, rfl⟩ := h
  obtain ⟨f, hf⟩ := form_twin hs
  exact form_iso hs (form_sh hs) hf
theorem mvP_isoI {p q p' q' f : List Nat} {n c : Nat} (hs : Sh p q n) (ht : Sh p' q' n) (h : Iso p q p' q' n f) : Iso (mvP n (p, q) c).1 (mvP n (p, q) c).2 (mvP n (p', q') c).1 (mvP n (p', q') c).2 n f := by
  have hp := hs.hp
  have hq := hs.hq
  have hp' := ht.hp
  have hq' := ht.hq
  have b1 := bk_cj hp hp' h.hf fun x hx => (h.cp x hx).symm
  have b2 := bk_cj hq hq' h.hf fun x hx => (h.cq x hx).symm
  unfold mvP
  split
  · refine ⟨h.hf, h.cp, fun x hx => ?_⟩
    show ap f (ap (shr n p q) x) = ap (shr n p' q') (ap f x)
    rw [shr_ap hx, shr_ap (h.hf.ap_lt hx), b1 x hx, h.cq _ ((bk_pm hp).ap_lt hx)]
  · exact ⟨h.hf, fun x hx => (b2 x hx).symm, h.cp⟩
def stepF (n : Nat) (s : S2) (c : Nat) : S2 := formOf (mvP n s c).1 (mvP n s c).2 n
theorem stepF_FS {n c : Nat} {s : S2} (h : Sh s.1 s.2 n) : FS n (stepF n s c) := ⟨_, _, sh_mvP h, rfl⟩
theorem form_mv {p q : List Nat} {n c : Nat} (h : Sh p q n) : stepF n (formOf p q n) c = formOf (mvP n (p, q) c).1 (mvP n (p, q) c).2 n := by
  obtain ⟨f, hf⟩ := form_twin h
  exact form_iso (sh_mvP (s := (p, q)) h) (sh_mvP (form_sh h)) (mvP_isoI h (form_sh h) hf)
theorem form_mvW {n : Nat} : ∀ (w : List Nat) {s : S2}, Sh s.1 s.2 n → w.foldl (stepF n) (formOf s.1 s.2 n) = formOf (mvW n s w).1 (mvW n s w).2 n
  | [], s, h => rfl
  | c :: w, s, h => by
    show w.foldl (stepF n) (stepF n (formOf s.1 s.2 n) c) = _
    rw [form_mv h]
    exact form_mvW w (s := mvP n s c) (sh_mvP h)
theorem stepW_FS {n : Nat} : ∀ (w : List Nat) {s : S2}, FS n s → FS n (w.foldl (stepF n) s)
  | [], s, h => h
  | c :: w, s, h => stepW_FS w (stepF_FS h.sh)
/-- one more -/
def rput (L : List FW) (t : S2) (w : List Nat) : List FW := if t ∈ L.map (·.1) then L else L ++ [(t, w)]
theorem rput_sub {L : List FW} {t : S2} {w : List Nat} {e : FW} (h : e ∈ L) : e ∈ rput L t w := by
  unfold rput
  split
  · exact h
  · exact List.mem_append_left _ h
theorem rput_sub1 {L : List FW} {t x : S2} {w : List Nat} (h : x ∈ L.map (·.1)) : x ∈ (rput L t w).map (·.1) := by
  obtain ⟨e, he, rfl⟩ := List.mem_map.mp h
  exact List.mem_map.mpr ⟨e, rput_sub he, rfl⟩
theorem rput_self {L : List FW} {t : S2} {w : List Nat} : t ∈ (rput L t w).map (·.1) := by
  unfold rput
  split
  · assumption
  · simp
theorem rput_get {L : List FW} {t : S2} {w : List Nat} {i : Nat} (h : i < L.length) : (rput L t w)[i]? = L[i]? := by
  unfold rput
  split
  · rfl
  · rw [List.getElem?_append_left h]
theorem rput_len {L : List FW} {t : S2} {w : List Nat} : L.length ≤ (rput L t w).length := by
  unfold rput
  split
  · exact Nat.le_refl _
  · simp
theorem rput_mem {L : List FW} {t : S2} {w : List Nat} {e : FW} (h : e ∈ rput L t w) : e ∈ L ∨ e = (t, w) := by
  unfold rput at h
  split at h
  · exact .inl h
  · rcases List.mem_append.mp h with h | h
    · exact .inl h
    · exact .inr (List.mem_singleton.mp h)
theorem rput_nd {L : List FW} {t : S2} {w : List Nat} (h : (L.map (·.1)).Nodup) : ((rput L t w).map (·.1)).Nodup := by
  unfold rput
  split
  · exact h
  · rename_i hn
    rw [List.map_append]
    exact (List.perm_append_comm.nodup_iff).mpr (List.nodup_cons.mpr ⟨hn, h⟩)
def rstep (n : Nat) (L : List FW) (e : FW) : List FW := rput (rput L (stepF n e.1 115) (e.2 ++ [115])) (stepF n e.1 116) (e.2 ++ [116])
def rseq (n : Nat) (s0 : S2) : Nat → List FW
  | 0 => [(s0, [])]
  | j + 1 => match (rseq n s0 j)[j]? with
    | some e => rstep n (rseq n s0 j) e
    | none => rseq n s0 j
structure RI (n : Nat) (s0 : S2) (L : List FW) (j : Nat) : Prop where
  nd : (L.map (·.1)).Nodup
  fs : ∀ e ∈ L, FS n e.1
  wd : ∀ e ∈ L, St e.2 ∧ e.2.length ≤ j ∧ e.2.foldl (stepF n) s0 = e.1
  hd : L[0]? = some (s0, [])
  le : j ≤ L.length
  done : ∀ i, i < j → ∀ e, L[i]? = some e → ∀ c, c = 115 ∨ c = 116 → stepF n e.1 c ∈ L.map (·.1)
theorem st_snoc {w : List Nat} {c : Nat} (h : St w) (hc : c = 115 ∨ c = 116) : St (w ++ [c]) := fun d hd => by
  rcases List.mem_append.mp hd with hd | hd
  · exact h d hd
  · rw [List.mem_singleton.mp hd]; exact hc
theorem RI.step {n j : Nat} {s0 : S2} {L : List FW} {e : FW} (h : RI n s0 L j) (he : L[j]? = some e) : RI n s0 (rstep n L e) (j + 1) := by
  have hj : j < L.length := (List.getElem?_eq_some_iff.mp he).1
  have hm : e ∈ L := List.mem_of_getElem? he
  have l1 := rput_len (L := L) (t := stepF n e.1 115) (w := e.2 ++ [115])
  have l2 := rput_len (L := rput L (stepF n e.1 115) (e.2 ++ [115])) (t := stepF n e.1 116) (w := e.2 ++ [116])
  have get : ∀ i, i < L.length → (rstep n L e)[i]? = L[i]? := fun i hi => by
    unfold rstep
    rw [rput_get (Nat.lt_of_lt_of_le hi l1), rput_get hi]
  obtain ⟨w1, w2, w3⟩ := h.wd e hm
  have mem : ∀ x ∈ rstep n L e, x ∈ L ∨ ∃ c, (c = 115 ∨ c = 116) ∧ x = (stepF n e.1 c, e.2 ++ [c]) := fun x hx => by
    rcases rput_mem hx with hx | hx
    · rcases rput_mem hx with hx | hx
      · exact .inl hx
      · exact .inr ⟨115, .inl rfl, hx⟩
    · exact .inr ⟨116, .inr rfl, hx⟩
  refine ⟨rput_nd (rput_nd h.nd), fun x hx => ?_, fun x hx => ?_, ?_, ?_, fun i hi x hx c hc => ?_⟩
  · rcases mem x hx with hx | ⟨c, _, rfl⟩
    · exact h.fs x hx
    · exact stepF_FS (h.fs e hm).sh
  · rcases mem x hx with hx | ⟨c, hc, rfl⟩
    · obtain ⟨a, b, d⟩ := h.wd x hx
      exact ⟨a, by omega, d⟩
    · refine ⟨st_snoc w1 hc, by simp; omega, ?_⟩
      show (e.2 ++ [c]).foldl (stepF n) s0 = _
      rw [List.foldl_append, w3]
      rfl
  · rw [get 0 (by omega)]
    exact h.hd
  · show j + 1 ≤ (rput _ _ _).length
    omega
  · have hil : i < L.length := by omega
    rw [get i hil] at hx
    by_cases e0 : i = j
    · subst e0
      rw [he] at hx
      cases hx
      rcases hc with rfl | rfl
      · exact rput_sub1 rput_self
      · exact rput_self
    · exact rput_sub1 (rput_sub1 (h.done i (by omega) x hx c hc))
theorem rseq_succ {n j : Nat} {s0 : S2} {e : FW} (h : (rseq n s0 j)[j]? = some e) : rseq n s0 (j + 1) = rstep n (rseq n s0 j) e := by
  show (match (rseq n s0 j)[j]? with | some e => rstep n (rseq n s0 j) e | none => rseq n s0 j) = _
  rw [h]
theorem rseq_inv {n : Nat} {s0 : S2} (h0 : FS n s0) : ∀ j, (∀ i, i < j → i < (rseq n s0 i).length) → RI n s0 (rseq n s0 j) j
  | 0, _ => ⟨by simp [rseq], by simpa [rseq] using h0, by simp [rseq, St], rfl, by omega, by omega⟩
  | j + 1, h => by
    have ih := rseq_inv h0 j fun i hi => h i (by omega)
    have he := List.getElem?_eq_getElem (h j (by omega))
    rw [rseq_succ he]
    exact ih.step he
theorem rseq_mono1 {n : Nat} {s0 : S2} (j : Nat) : (rseq n s0 j).length ≤ (rseq n s0 (j + 1)).length := by
  show _ ≤ (match (rseq n s0 j)[j]? with | some e => rstep n (rseq n s0 j) e | none => rseq n s0 j).length
  split
  · exact Nat.le_trans rput_len rput_len
  · exact Nat.le_refl _
theorem rseq_mono {n : Nat} {s0 : S2} {j : Nat} : ∀ k, (rseq n s0 j).length ≤ (rseq n s0 (j + k)).length
  | 0 => Nat.le_refl _
  | k + 1 => Nat.le_trans (rseq_mono k) (rseq_mono1 (j + k))
theorem rseq_stop {n j : Nat} {s0 : S2} (h : (rseq n s0 j).length ≤ j) : ∀ k, rseq n s0 (j + k) = rseq n s0 j
  | 0 => rfl
  | k + 1 => by
    have ih := rseq_stop h k
    show (match (rseq n s0 (j + k))[j + k]? with | some e => rstep n (rseq n s0 (j + k)) e | none => rseq n s0 (j + k)) = _
    rw [ih, List.getElem?_eq_none (by omega)]
/-- there are not many forms -/
def FB (n : Nat) (s0 : S2) : Prop := ∀ L : List S2, L.Nodup → (∀ s ∈ L, FS n s ∧ ∃ w, St w ∧ w.foldl (stepF n) s0 = s) → L.length ≤ 199
theorem RI.len {n j : Nat} {s0 : S2} {L : List FW} (hB : FB n s0) (h : RI n s0 L j) : L.length ≤ 199 := by
  have := hB (L.map (·.1)) h.nd fun s hs => by
    obtain ⟨e, he, rfl⟩ := List.mem_map.mp hs
    exact ⟨h.fs e he, e.2, (h.wd e he).1, (h.wd e he).2.2⟩
  simpa using this
def rfin (n : Nat) (s0 : S2) : List FW := rseq n s0 200
theorem rfin_of {n j : Nat} {s0 : S2} (hB : FB n s0) (h : RI n s0 (rseq n s0 j) j) (hl : (rseq n s0 j).length ≤ j) : rseq n s0 j = rfin n s0 := by
  have := h.len hB
  have := h.le
  unfold rfin
  rw [show 200 = j + (200 - j) by omega]
  exact (rseq_stop hl _).symm
theorem rseq_le {n j : Nat} {s0 : S2} (hj : j ≤ 200) : (rseq n s0 j).length ≤ (rfin n s0).length := by
  unfold rfin
  rw [show 200 = j + (200 - j) by omega]
  exact rseq_mono _
theorem rfin_ex {n : Nat} {s0 : S2} (h0 : FS n s0) (hB : FB n s0) : ∀ m, (∃ j, j ≤ m ∧ (∀ i, i < j → i < (rseq n s0 i).length) ∧ (rseq n s0 j).length ≤ j) ∨ ∀ i, i ≤ m → i < (rseq n s0 i).length
  | 0 => .inr fun i hi => by
    have : i = 0 := by omega
    subst this
    simp [rseq]
  | m + 1 => by
    rcases rfin_ex h0 hB m with ⟨j, h1, h2⟩ | h
    · exact .inl ⟨j, by omega, h2⟩
    · by_cases hm : m + 1 < (rseq n s0 (m + 1)).length
      · exact .inr fun i hi => by
          by_cases e : i = m + 1
          · rw [e]; exact hm
          · exact h i (by omega)
      · exact .inl ⟨m + 1, by omega, fun i hi => h i (by omega), by omega⟩
theorem rfin_inv {n : Nat} {s0 : S2} (h0 : FS n s0) (hB : FB n s0) : RI n s0 (rfin n s0) (rfin n s0).length := by
  rcases rfin_ex h0 hB 200 with ⟨j, _, h1, h2⟩ | h
  · have inv := rseq_inv h0 j h1
    have e := rfin_of hB inv h2
    have := inv.le
    rw [← e, show (rseq n s0 j).length = j by omega]
    exact inv
  · have inv := rseq_inv h0 200 fun i hi => h i (by omega)
    have := inv.len hB
    have := inv.le
    omega
theorem rfin_closed {n c : Nat} {s0 t : S2} (h0 : FS n s0) (hB : FB n s0) (ht : t ∈ (rfin n s0).map (·.1)) (hc : c = 115 ∨ c = 116) : stepF n t c ∈ (rfin n s0).map (·.1) := by
  obtain ⟨e, he, rfl⟩ := List.mem_map.mp ht
  obtain ⟨i, hi, e2⟩ := List.getElem_of_mem he
  exact (rfin_inv h0 hB).done i hi e (by rw [List.getElem?_eq_getElem hi, e2]) c hc
theorem rfin_walk {n : Nat} {s0 : S2} (h0 : FS n s0) (hB : FB n s0) : ∀ (w : List Nat) {t : S2}, St w → t ∈ (rfin n s0).map (·.1) → w.foldl (stepF n) t ∈ (rfin n s0).map (·.1)
  | [], _, _, h => h
  | c :: w, t, hw, h => rfin_walk h0 hB w (fun d hd => hw d (List.mem_cons_of_mem _ hd)) (rfin_closed h0 hB h (hw c List.mem_cons_self))
theorem rfin_z {n : Nat} {s0 : S2} (h0 : FS n s0) (hB : FB n s0) : s0 ∈ (rfin n s0).map (·.1) := List.mem_map.mpr ⟨_, List.mem_of_getElem? (rfin_inv h0 hB).hd, rfl⟩

/-! the program goes through them -/
def fwD (e : FW) : D := .tuple [shP e.1, .str (tx e.2)]
def keyL (L : List FW) : List D := (L.map (·.1)).map shP
theorem nkA_nD : ∀ l : List Nat, nkA (nD l) = some (l.map fun (x : Nat) => NestedKey.num (x : Int))
  | [] => rfl
  | x :: l => by
    show (match nk (.int x), nkA (nD l) with | some k, some ks => some (k :: ks) | _, _ => none) = _
    rw [nkA_nD l]
    rfl
theorem depth_nums : ∀ l : List Nat, NestedKey.depthAll (l.map fun (x : Nat) => NestedKey.num (x : Int)) ≤ 1
  | [] => by simp [NestedKey.depthAll]
  | x :: l => by
    have := depth_nums l
    simp only [List.map_cons, NestedKey.depthAll, NestedKey.depth]
    omega
theorem nkB_sh (s : S2) : nkB (shP s) = true := by
  have h1 : nk (.tuple (nD s.1)) = some (.tup (s.1.map fun (x : Nat) => NestedKey.num (x : Int))) := by
    unfold nk
    rw [nkA_nD]
    rfl
  have h2 : nk (.tuple (nD s.2)) = some (.tup (s.2.map fun (x : Nat) => NestedKey.num (x : Int))) := by
    unfold nk
    rw [nkA_nD]
    rfl
  have h : nk (.tuple [.tuple (nD s.1), .tuple (nD s.2)]) = some (.tup [.tup (s.1.map fun (x : Nat) => NestedKey.num (x : Int)), .tup (s.2.map fun (x : Nat) => NestedKey.num (x : Int))]) := by
    rw [nk, nkA, nkA, nkA, h1, h2]
    rfl
  have d1 := depth_nums s.1
  have d2 := depth_nums s.2
  show (match PyData.tuple [.tuple (nD s.1), .tuple (nD s.2)], nk (.tuple [.tuple (nD s.1), .tuple (nD s.2)]) with | .tuple _, some k => decide (k.depth ≤ 8) | _, _ => false) = true
  rw [h]
  refine decide_eq_true ?_
  simp only [NestedKey.depth, NestedKey.depthAll]
  omega
theorem inN_sh (b : Bool) (L : List FW) (t : S2) : inN b (.v (shP t)) (.wn (keyL L)) = .ok (.v (.bool (if b then !decide (t ∈ L.map (·.1)) else decide (t ∈ L.map (·.1))))) := by
  unfold inN
  simp only [dat_v]
  rw [if_pos (nkB_sh t)]
  unfold keyL
  rw [any_sh]
@[simp] theorem rd_n (ks : List D) : (Sl.n ks).rd = .ok (.wn ks) := rfl
def rchIn : SF := (seqS (asgS (callF f_form_2 (aCons (callF f_moved_2 (aCons (varF 6) (aCons (varF 5) aNil))) aNil)) (asgn 8))
  (ifS (tstF (binF (inN true) (varF 8) (varF 3))) (seqS (ifS (tstF (binF geR (unF lenR (varF 2)) (varF 1))) (excS "TooMany")
  skipS)
  (seqS (setN 3 (varF 8) (cF (.bool true)))
  (appS 2 (tupF (aCons (varF 8) (aCons (binF addR (varF 7) (varF 5)) aNil))))))
  skipS))
def rEnv (sh : D) (most : Int) (L : List FW) (j : Nat) (x5 x6 x7 x8 : Sl) : Env := [.v sh, .v (.int most), .o (L.map fwD), .n (keyL L), .v (.int j), x5, x6, x7, x8]
theorem moved_one {s : S2} {n c : Nat} (hp : Pm s.1 n) (hq : Pm s.2 n) (hn : n ≤ 1000) (hc : c = 115 ∨ c = 116) : f_moved_2 [.v (shP s), .v (.str (ch1 c))] = .ret (.v (shP (mvP n s c))) := by
  have := moved2w_ok (w := [c]) hp hq hn (fun d hd => by rw [List.mem_singleton.mp hd]; exact hc) (by simp)
  exact this
theorem rch_in {sh : D} {most : Int} {L : List FW} {j n c : Nat} {e : FW} {x8 : Sl} (hL : L.length ≤ 400) (hs : Sh e.1.1 e.1.2 n) (hn : n < 1000) (hc : c = 115 ∨ c = 116) (hw : e.2.length ≤ 1000) :
    (stepF n e.1 c ∈ L.map (·.1) ∨ (L.length : Int) < most → rchIn (rEnv sh most L j (.v (.str (ch1 c))) (.v (shP e.1)) (.v (.str (tx e.2))) x8) = .next (rEnv sh most (rput L (stepF n e.1 c) (e.2 ++ [c])) j (.v (.str (ch1 c))) (.v (shP e.1)) (.v (.str (tx e.2))) (.v (shP (stepF n e.1 c))))) ∧
    (stepF n e.1 c ∉ L.map (·.1) ∧ most ≤ (L.length : Int) → ∃ ρ', rchIn (rEnv sh most L j (.v (.str (ch1 c))) (.v (shP e.1)) (.v (.str (tx e.2))) x8) = .exc "TooMany" none ρ') := by
  have e1 := moved_one hs.hp hs.hq (by omega) hc
  have e2 := form_ok (sh_mvP (s := e.1) (c := c) hs) hn
  have e2 : f_form_2 [.v (shP (mvP n e.1 c))] = .ret (.v (shP (stepF n e.1 c))) := e2
  have e3 := inN_sh true L (stepF n e.1 c)
  have e4 : addR (.v (.str (tx e.2))) (.v (.str (ch1 c))) = .ok (.v (.str (tx (e.2 ++ [c])))) := add_tx (u := e.2) (v := [c]) (by simp; omega)
  have l1 : (L.map fwD).length = L.length := List.length_map ..
  have l2 : (keyL L).length = L.length := by simp [keyL]
  have ll : lenR (.w (L.map fwD)) = .ok (.v (.int L.length)) := by simp <;> omega
  generalize ht : stepF n e.1 c = t at *
  have st : (asgS (callF f_form_2 (aCons (callF f_moved_2 (aCons (varF 6) (aCons (varF 5) aNil))) aNil)) (asgn 8)) (rEnv sh most L j (.v (.str (ch1 c))) (.v (shP e.1)) (.v (.str (tx e.2))) x8) = .next (rEnv sh most L j (.v (.str (ch1 c))) (.v (shP e.1)) (.v (.str (tx e.2))) (.v (shP t))) := by
    unfold rEnv
    simp [e1, e2]
  constructor
  · intro h
    unfold rchIn
    rw [seq_go st]
    by_cases hm : t ∈ L.map (·.1)
    · have er : rput L t (e.2 ++ [c]) = L := if_pos hm
      rw [er]
      rw [decide_eq_true hm] at e3
      unfold rEnv
      simp [e3]
    · have hlt : (L.length : Int) < most := h.resolve_left hm
      have er : rput L t (e.2 ++ [c]) = L ++ [(t, e.2 ++ [c])] := if_neg hm
      rw [er]
      rw [decide_eq_false hm] at e3
      have hany : ((keyL L).any fun z => PyData.eqv z (shP t)) = false := by
        unfold keyL
        rw [any_sh, decide_eq_false hm]
      have hge : ¬ most ≤ (L.length : Int) := by omega
      have k1 : keyL (L ++ [(t, e.2 ++ [c])]) = keyL L ++ [shP t] := by simp [keyL]
      have k2 : (L ++ [(t, e.2 ++ [c])]).map fwD = L.map fwD ++ [fwD (t, e.2 ++ [c])] := by simp
      have es : setN 3 (varF 8) (cF (.bool true)) (rEnv sh most L j (.v (.str (ch1 c))) (.v (shP e.1)) (.v (.str (tx e.2))) (.v (shP t))) = .next [.v sh, .v (.int most), .o (L.map fwD), .n (keyL L ++ [shP t]), .v (.int j), .v (.str (ch1 c)), .v (shP e.1), .v (.str (tx e.2)), .v (shP t)] := by
        unfold setN rEnv
        simp only [cF, thenS_ok, Rv.keep]
        have hany2 : ∀ x ∈ keyL L, PyData.eqv x (shP t) = false := fun x hx => by simpa using List.any_eq_false.mp hany x hx
        simp [nkB_sh, l2, show L.length < 90000 by omega]
        exact hany2
      rw [k1.symm] at es
      unfold rEnv at es ⊢
      rw [k2]
      simp [e3, ll, hge, es, e4, appS, fwD]
      omega
  · intro h
    unfold rchIn
    rw [seq_go st]
    rw [decide_eq_false h.1] at e3
    refine ⟨rEnv sh most L j (.v (.str (ch1 c))) (.v (shP e.1)) (.v (.str (tx e.2))) (.v (shP t)), ?_⟩
    unfold rEnv
    simp [e3, ll, h.2, excS]
def rchB : SF := (seqS (asgS (binF ixR (varF 2) (varF 4)) (unpT [asgn 6, asgn 7]))
  (seqS (forS (itF itT (cF (.str "st"))) (asgn 5) rchIn)
  (asgS (binF addR (varF 4) (cF (.int 1))) (asgn 4))))
theorem st_tx : ("st" : Str) = tx [115, 116] := by decide +kernel
theorem unp_fw {τ1 τ2 : TF} {e : FW} {ρ : Env} : unpT [τ1, τ2] (.v (fwD e)) ρ = (τ1 (.v (shP e.1)) ρ).bind fun ρ' => (τ2 (.v (.str (tx e.2))) ρ').bind fun ρ'' => .ok ρ'' := (rfl)
theorem rch_body {sh : D} {most : Int} {L : List FW} {j n : Nat} {e : FW} {x5 x6 x7 x8 : Sl} (hL : L.length ≤ 300) (hm : (L.length : Int) ≤ most) (he : L[j]? = some e) (hs : Sh e.1.1 e.1.2 n) (hn : n < 1000) (hw : e.2.length ≤ 1000) :
    (((rstep n L e).length : Int) ≤ most → ∃ y5 y6 y7 y8, rchB (rEnv sh most L j x5 x6 x7 x8) = .next (rEnv sh most (rstep n L e) (j + 1) y5 y6 y7 y8)) ∧
    (most < ((rstep n L e).length : Int) → ∃ ρ', rchB (rEnv sh most L j x5 x6 x7 x8) = .exc "TooMany" none ρ') := by
  have hj : j < L.length := (List.getElem?_eq_some_iff.mp he).1
  have ei : ixR (.w (L.map fwD)) (.v (.int j)) = .ok (.v (fwD e)) := ixR_w (at_nat.trans (by rw [List.getElem?_map, he]; rfl))
  have s1 : (asgS (binF ixR (varF 2) (varF 4)) (unpT [asgn 6, asgn 7])) (rEnv sh most L j x5 x6 x7 x8) = .next (rEnv sh most L j x5 (.v (shP e.1)) (.v (.str (tx e.2))) x8) := by
    unfold rEnv
    simp [ei, unp_fw]
  have it : itF itT (cF (.str "st")) (rEnv sh most L j x5 (.v (shP e.1)) (.v (.str (tx e.2))) x8) = .ok [.v (.str (ch1 115)), .v (.str (ch1 116))] := by
    rw [st_tx, its_tx (w := [115, 116]) rfl]
    rfl
  generalize ht1 : stepF n e.1 115 = t1
  generalize ht2 : stepF n e.1 116 = t2
  have a1 := rch_in (sh := sh) (most := most) (L := L) (j := j) (e := e) (x8 := x8) (by omega) hs hn (.inl rfl) hw
  have lp := rput_len (L := L) (t := t1) (w := e.2 ++ [115])
  have lq : (rput L t1 (e.2 ++ [115])).length ≤ L.length + 1 := by
    unfold rput
    split
    · omega
    · simp
  have a2 := fun x => rch_in (sh := sh) (most := most) (L := rput L t1 (e.2 ++ [115])) (j := j) (e := e) (x8 := x) (by omega) hs hn (.inr rfl) hw
  have lp2 := rput_len (L := rput L t1 (e.2 ++ [115])) (t := t2) (w := e.2 ++ [116])
  rw [ht1] at a1
  rw [ht2] at a2
  have er : rstep n L e = rput (rput L t1 (e.2 ++ [115])) t2 (e.2 ++ [116]) := by unfold rstep; rw [ht1, ht2]
  rw [er]
  have go : ∀ r, forL (asgn 5) rchIn [.v (.str (ch1 115)), .v (.str (ch1 116))] (rEnv sh most L j x5 (.v (shP e.1)) (.v (.str (tx e.2))) x8) = r → rchB (rEnv sh most L j x5 x6 x7 x8) = (match r with | .next ρ' => asgS (binF addR (varF 4) (cF (.int 1))) (asgn 4) ρ' | x => x) := fun r hr => by
    unfold rchB
    rw [seq_go s1]
    show (match forS _ _ rchIn _ with | .next ρ' => asgS (binF addR (varF 4) (cF (.int 1))) (asgn 4) ρ' | x => x) = _
    rw [forS_e, it]
    show (match forL (asgn 5) rchIn _ _ with | .next ρ' => asgS (binF addR (varF 4) (cF (.int 1))) (asgn 4) ρ' | x => x) = _
    rw [hr]
  constructor
  · intro hle
    have c1 : t1 ∈ L.map (·.1) ∨ (L.length : Int) < most := by
      by_cases h1 : t1 ∈ L.map (·.1)
      · exact .inl h1
      · right
        have : (rput L t1 (e.2 ++ [115])).length = L.length + 1 := by
          unfold rput
          rw [if_neg h1]
          simp
        omega
    have c2 : t2 ∈ (rput L t1 (e.2 ++ [115])).map (·.1) ∨ ((rput L t1 (e.2 ++ [115])).length : Int) < most := by
      by_cases h1 : t2 ∈ (rput L t1 (e.2 ++ [115])).map (·.1)
      · exact .inl h1
      · right
        have : (rput (rput L t1 (e.2 ++ [115])) t2 (e.2 ++ [116])).length = (rput L t1 (e.2 ++ [115])).length + 1 := by
          generalize rput L t1 (e.2 ++ [115]) = M at *
          unfold rput
          rw [if_neg h1]
          simp
        omega
    have b1 := a1.1 c1
    have b2 := (a2 (.v (shP t1))).1 c2
    refine ⟨.v (.str (ch1 116)), .v (shP e.1), .v (.str (tx e.2)), .v (shP t2), (go (.next (rEnv sh most (rput (rput L t1 (e.2 ++ [115])) t2 (e.2 ++ [116])) j (.v (.str (ch1 116))) (.v (shP e.1)) (.v (.str (tx e.2))) (.v (shP t2)))) ?_).trans ?_⟩
    · rw [forL_next (ρ1 := rEnv sh most L j (.v (.str (ch1 115))) (.v (shP e.1)) (.v (.str (tx e.2))) x8) rfl b1, forL_next (ρ1 := rEnv sh most (rput L t1 (e.2 ++ [115])) j (.v (.str (ch1 116))) (.v (shP e.1)) (.v (.str (tx e.2))) (.v (shP t1))) rfl b2, forL_nil]
    · show asgS (binF addR (varF 4) (cF (.int 1))) (asgn 4) _ = _
      unfold rEnv
      simp
  · intro hgt
    by_cases c1 : t1 ∈ L.map (·.1) ∨ (L.length : Int) < most
    · have b1 := a1.1 c1
      have c2 : t2 ∉ (rput L t1 (e.2 ++ [115])).map (·.1) ∧ most ≤ ((rput L t1 (e.2 ++ [115])).length : Int) := by
        by_cases h1 : t2 ∈ (rput L t1 (e.2 ++ [115])).map (·.1)
        · exfalso
          have e2 : rput (rput L t1 (e.2 ++ [115])) t2 (e.2 ++ [116]) = rput L t1 (e.2 ++ [115]) := if_pos h1
          rw [e2] at hgt
          rcases c1 with c1 | c1
          · have e3 : rput L t1 (e.2 ++ [115]) = L := if_pos c1
            rw [e3] at hgt
            omega
          · omega
        · refine ⟨h1, ?_⟩
          have : (rput (rput L t1 (e.2 ++ [115])) t2 (e.2 ++ [116])).length = (rput L t1 (e.2 ++ [115])).length + 1 := by
            generalize rput L t1 (e.2 ++ [115]) = M at *
            unfold rput
            rw [if_neg h1]
            simp
          omega
      obtain ⟨ρ', b2⟩ := (a2 (.v (shP t1))).2 c2
      refine ⟨ρ', (go (.exc "TooMany" none ρ') ?_).trans rfl⟩
      rw [forL_next (ρ1 := rEnv sh most L j (.v (.str (ch1 115))) (.v (shP e.1)) (.v (.str (tx e.2))) x8) rfl b1]
      exact forL_exc (ρ1 := rEnv sh most (rput L t1 (e.2 ++ [115])) j (.v (.str (ch1 116))) (.v (shP e.1)) (.v (.str (tx e.2))) (.v (shP t1))) rfl b2
    · have c1' : t1 ∉ L.map (·.1) ∧ most ≤ (L.length : Int) := ⟨fun h => c1 (.inl h), by
        have : ¬ (L.length : Int) < most := fun h => c1 (.inr h)
        omega⟩
      obtain ⟨ρ', b1⟩ := a1.2 c1'
      refine ⟨ρ', (go (.exc "TooMany" none ρ') ?_).trans rfl⟩
      exact forL_exc (ρ1 := rEnv sh most L j (.v (.str (ch1 115))) (.v (shP e.1)) (.v (.str (tx e.2))) x8) rfl b1
theorem reached_ok {p q : List Nat} {n : Nat} {most : Int} (hs : Sh p q n) (hn : n < 1000) (hB : FB n (formOf p q n)) (hm : 1 ≤ most) :
    (((rfin n (formOf p q n)).length : Int) ≤ most → f_reached_3 [.v (sheet p q), .v (.int most)] = .ret (.o ((rfin n (formOf p q n)).map fwD))) ∧
    (most < ((rfin n (formOf p q n)).length : Int) → f_reached_3 [.v (sheet p q), .v (.int most)] = .exc "TooMany" none) := by
  have e0 := form_ok hs hn
  have h0 : FS n (formOf p q n) := ⟨p, q, hs, rfl⟩
  generalize hS : formOf p q n = s0 at *
  have key : ∀ G : Res → Prop, (∀ x5 x6 x7 x8, ((rfin n s0).length : Int) ≤ most → G (.next (rEnv (sheet p q) most (rfin n s0) (rfin n s0).length x5 x6 x7 x8))) → (∀ ρ', most < ((rfin n s0).length : Int) → G (.exc "TooMany" none ρ')) →
      G (whileS (tstF (binF ltR (varF 4) (unF lenR (varF 2)))) rchB (rEnv (sheet p q) most [(s0, [])] 0 .u .u .u .u)) := by
    intro G g1 g2
    refine whileS_rule (fun ρ => ∃ j x5 x6 x7 x8, ρ = rEnv (sheet p q) most (rseq n s0 j) j x5 x6 x7 x8 ∧ (∀ i, i < j → i < (rseq n s0 i).length) ∧ ((rseq n s0 j).length : Int) ≤ most) (fun ρ => 1000 - (match slot ρ 4 with | .v (.int j) => j.toNat | _ => 0)) G ⟨0, .u, .u, .u, .u, rfl, by simp, by simpa [rseq] using hm⟩ (by show 1000 - 0 < 1000000; omega) ?_
    intro ρ ⟨j, x5, x6, x7, x8, eρ, hi, hle⟩
    subst eρ
    have inv := rseq_inv h0 j hi
    have hlen := inv.len hB
    have hjl := inv.le
    refine ⟨decide (j < (rseq n s0 j).length), by unfold rEnv; simp <;> omega, fun hb => ?_, fun hb => ?_⟩
    · have hj : j < (rseq n s0 j).length := by simpa using hb
      have he := List.getElem?_eq_getElem hj
      generalize (rseq n s0 j)[j] = e at he
      have hme : e ∈ rseq n s0 j := List.mem_of_getElem? he
      obtain ⟨b1, b2⟩ := rch_body (sh := sheet p q) (x5 := x5) (x6 := x6) (x7 := x7) (x8 := x8) (by omega) hle he (inv.fs e hme).sh hn (by have := (inv.wd e hme).2.1; omega)
      rw [← rseq_succ he] at b1 b2
      by_cases hc : ((rseq n s0 (j + 1)).length : Int) ≤ most
      · obtain ⟨y5, y6, y7, y8, eb⟩ := b1 hc
        rw [eb]
        refine ⟨⟨j + 1, y5, y6, y7, y8, rfl, fun i h => ?_, hc⟩, ?_⟩
        · by_cases e : i = j
          · rw [e]; exact hj
          · exact hi i (by omega)
        · show 1000 - ((j + 1 : Nat) : Int).toNat < 1000 - ((j : Nat) : Int).toNat
          omega
      · obtain ⟨ρ', eb⟩ := b2 (by omega)
        rw [eb]
        refine g2 ρ' ?_
        have := rseq_le (n := n) (s0 := s0) (j := j + 1) (by omega)
        omega
    · have hj : (rseq n s0 j).length ≤ j := by
        have : ¬ j < (rseq n s0 j).length := by simpa using hb
        omega
      have ef := rfin_of hB inv hj
      have hjj : (rfin n s0).length = j := by rw [← ef]; omega
      have := g1 x5 x6 x7 x8 (by rw [← ef]; exact hle)
      rw [hjj] at this
      rw [ef]
      exact this
  have pre : ∀ r, whileS (tstF (binF ltR (varF 4) (unF lenR (varF 2)))) rchB (rEnv (sheet p q) most [(s0, [])] 0 .u .u .u .u) = r → b_reached_3 [.v (sheet p q), .v (.int most), .u, .u, .u, .u, .u, .u, .u] = (match r with | .next ρ' => retVar 2 ρ' | x => x) := by
    intro r hr
    show (seqS (asgS (lstF (aCons (tupF (aCons (callF f_form_2 (aCons (varF 0) aNil)) (aCons (cF (.str "")) aNil))) aNil)) (asgn 2)) (seqS (asgS (dispN (flatA [((binF ixR (binF ixR (varF 2) (cF (.int 0))) (cF (.int 0))), (cF (.bool true)))])) (asgn 3)) (seqS (asgS (cF (.int 0)) (asgn 4)) (seqS (whileS (tstF (binF ltR (varF 4) (unF lenR (varF 2)))) rchB) (retVar 2))))) [.v (sheet p q), .v (.int most), .u, .u, .u, .u, .u, .u, .u] = _
    have et : (PyData.str "" : D) = .str (tx []) := rfl
    rw [seq_go (ρ' := [.v (sheet p q), .v (.int most), .o [fwD (s0, [])], .u, .u, .u, .u, .u, .u]) (by simp [e0, fwD, et])]
    have i1 : ixR (.w [fwD (s0, [])]) (.v (.int 0)) = .ok (.v (fwD (s0, []))) := ixR_w rfl
    have i2 : ixR (.v (fwD (s0, []))) (.v (.int 0)) = .ok (.v (shP s0)) := ixR_vt rfl
    have ed : dispN (flatA [((binF ixR (binF ixR (varF 2) (cF (.int 0))) (cF (.int 0))), (cF (.bool true)))]) [.v (sheet p q), .v (.int most), .o [fwD (s0, [])], .u, .u, .u, .u, .u, .u] = .ok (.on [shP s0]) := by
      unfold dispN flatA flatA
      simp [i1, i2, dispN1, nkB_sh]
    rw [seq_go (ρ' := [.v (sheet p q), .v (.int most), .o [fwD (s0, [])], .n [shP s0], .u, .u, .u, .u, .u]) (by simp [ed, asgn])]
    rw [seq_go (ρ' := rEnv (sheet p q) most [(s0, [])] 0 .u .u .u .u) (by unfold rEnv keyL; simp)]
    show (match whileS _ rchB _ with | .next ρ' => retVar 2 ρ' | x => x) = _
    rw [hr]
  constructor
  · intro hle
    refine fnR_of ?_
    show b_reached_3 [.v (sheet p q), .v (.int most), .u, .u, .u, .u, .u, .u, .u] = _
    rw [pre _ rfl]
    refine key (fun r => (match r with | .next ρ' => retVar 2 ρ' | x => x) = .ret (.o ((rfin n s0).map fwD))) (fun x5 x6 x7 x8 _ => ?_) fun ρ' h => by omega
    unfold rEnv
    simp
  · intro hgt
    obtain ⟨ρ', e⟩ : ∃ ρ', b_reached_3 [.v (sheet p q), .v (.int most), .u, .u, .u, .u, .u, .u, .u] = .exc "TooMany" none ρ' := by
      rw [pre _ rfl]
      refine key (fun r => ∃ ρ', (match r with | .next ρ' => retVar 2 ρ' | x => x) = .exc "TooMany" none ρ') (fun x5 x6 x7 x8 h => by omega) fun ρ' h => ⟨ρ', rfl⟩
    exact fnR_exc (ρ := ρ') e

/-! forms with words: what == tells -/
theorem strOk_tx {w : List Nat} (h : St w) : PyData.strOk (tx w) = true := by
  unfold PyData.strOk tx
  simp only [List.all_toArray', List.all_eq_true, decide_eq_true_eq]
  intro c hc
  rcases h c hc with rfl | rfl <;> decide
theorem fw_lay {e : FW} (h : St e.2) : (fwD e).canLay0 = true ∧ (fwD e).depth ≤ 3 := by
  have h1 := td_lay 2 (shP e.1) (td_shP 0 e.1)
  have h2 := strOk_tx h
  unfold fwD
  rw [PyData.canLay0, PyData.canLayAll0, PyData.canLayAll0, PyData.canLayAll0, PyData.canLay0, h1.1, h2, PyData.depth, PyData.depthAll, PyData.depthAll, PyData.depthAll, PyData.depth]
  exact ⟨rfl, by omega⟩
theorem fws_lay : ∀ {L : List FW}, (∀ e ∈ L, St e.2) → PyData.canLayAll0 (L.map fwD) = true ∧ PyData.depthAll (L.map fwD) ≤ 3
  | [], _ => by simp [PyData.canLayAll0, PyData.depthAll]
  | e :: L, h => by
    have h1 := fw_lay (h e List.mem_cons_self)
    have h2 := fws_lay fun x hx => h x (List.mem_cons_of_mem _ hx)
    rw [List.map_cons, PyData.canLayAll0, PyData.depthAll, h1.1, h2.1]
    exact ⟨rfl, by omega⟩
theorem fws_shaped {L : List FW} (h : ∀ e ∈ L, St e.2) : SeqAt.shaped (.list (L.map fwD)) = true := by
  have := fws_lay h
  unfold SeqAt.shaped
  rw [PyData.canLay0, PyData.depth, this.1]
  simp
  omega
theorem deq_self {d : D} (h : SeqAt.shaped d = true) : deq false d d = .ok (.bool true) := by
  unfold deq
  rw [if_pos ⟨h, h⟩, SeqAt.eqv_refl d (SeqAt.canLay_of_shaped h)]
  rfl

theorem eqv_sh (s t : S2) : PyData.eqv (shP t) (shP s) = decide (t = s) := by
  have := any_sh [t] s
  simp only [List.map_cons, List.map_nil, List.any_cons, List.any_nil, Bool.or_false] at this
  rw [this]
  simp [eq_comm]
theorem deq_sh (s t : S2) : deq false (shP t) (shP s) = .ok (.bool (decide (t = s))) := by
  unfold deq
  rw [if_pos ⟨td_shaped (k := 2) (td_shP 0 t), td_shaped (k := 2) (td_shP 0 s)⟩, eqv_sh]
  rfl
def wayFind (L : List FW) (g : S2) : Option (List Nat) := (L.find? fun e => decide (e.1 = g)).map (·.2)

/-! what is reached reaches back -/
theorem mvP_unI {p q p' q' f : List Nat} {n c : Nat} (hs : Sh p q n) (ht : Sh p' q' n) (h : Iso (mvP n (p, q) c).1 (mvP n (p, q) c).2 (mvP n (p', q') c).1 (mvP n (p', q') c).2 n f) : Iso p q p' q' n f := by
  have hp := hs.hp
  have hq := hs.hq
  have hp' := ht.hp
  have hq' := ht.hq
  unfold mvP at h
  split at h
  · have h1 : ∀ x, x < n → ap f (ap p x) = ap p' (ap f x) := h.cp
    have h2 : ∀ x, x < n → ap f (ap (shr n p q) x) = ap (shr n p' q') (ap f x) := h.cq
    refine ⟨h.hf, h1, fun x hx => ?_⟩
    have h3 := h2 (ap p x) (hp.ap_lt hx)
    rw [shr_ap (hp.ap_lt hx), bk_ap hp hx, shr_ap (h.hf.ap_lt (hp.ap_lt hx)), h1 x hx, bk_ap hp' (h.hf.ap_lt hx)] at h3
    exact h3
  · have h1 : ∀ x, x < n → ap f (ap (bk n q) x) = ap (bk n q') (ap f x) := h.cp
    have h2 : ∀ x, x < n → ap f (ap p x) = ap p' (ap f x) := h.cq
    refine ⟨h.hf, h2, fun x hx => ?_⟩
    have := bk_cj (bk_pm hq) (bk_pm hq') h.hf (fun x hx => (h1 x hx).symm) x hx
    rw [bk_bk hq, bk_bk hq'] at this
    exact this.symm
theorem stepF_inj {n c : Nat} {s t : S2} (hs : FS n s) (ht : FS n t) (e : stepF n s c = stepF n t c) : s = t := by
  have s1 := sh_mvP (c := c) hs.sh
  have t1 := sh_mvP (c := c) ht.sh
  obtain ⟨f, hf⟩ := form_twin s1
  obtain ⟨g, hg⟩ := form_twin t1
  have e' : formOf (mvP n s c).1 (mvP n s c).2 n = formOf (mvP n t c).1 (mvP n t c).2 n := e
  rw [e'] at hf
  have k := hf.comp (hg.inv (form_sh t1).hp (form_sh t1).hq t1.hp t1.hq) s1.hp s1.hq
  have i := mvP_unI (p := s.1) (q := s.2) (p' := t.1) (q' := t.2) hs.sh ht.sh k
  have := form_iso hs.sh ht.sh i
  rw [hs.self, ht.self] at this
  exact this.symm
theorem closed_backS {n c : Nat} {S : List S2} (hn : S.Nodup) (hf : ∀ x ∈ S, FS n x) (hc : ∀ x ∈ S, stepF n x c ∈ S) {x : S2} (hx : FS n x) (h : stepF n x c ∈ S) : x ∈ S := by
  have hnd : (S.map fun x => stepF n x c).Nodup := by
    rw [List.nodup_iff_pairwise_ne, List.pairwise_map]
    exact List.Pairwise.imp_of_mem (fun {a b} ha hb hne e => hne (stepF_inj (hf a ha) (hf b hb) e)) hn
  have hm : stepF n x c ∈ S.map fun x => stepF n x c := by
    refine Classical.byContradiction fun hno => ?_
    have := List.Nodup.length_le_of_subset (List.nodup_cons.mpr ⟨hno, hnd⟩) (l₂ := S) fun y hy => by
      rcases List.mem_cons.mp hy with e | e
      · exact e ▸ h
      · obtain ⟨z, hz, e⟩ := List.mem_map.mp e
        exact e ▸ hc z hz
    simp at this
    omega
  obtain ⟨y, hy, e⟩ := List.mem_map.mp hm
  exact stepF_inj (hf y hy) hx e ▸ hy
theorem walk_back {n : Nat} {S : List S2} (hn : S.Nodup) (hf : ∀ x ∈ S, FS n x) (hc : ∀ x ∈ S, ∀ c, c = 115 ∨ c = 116 → stepF n x c ∈ S) : ∀ (w : List Nat) {x : S2}, St w → FS n x → w.foldl (stepF n) x ∈ S → x ∈ S
  | [], _, _, _, h => h
  | c :: w, x, hw, hx, h => closed_backS hn hf (fun y hy => hc y hy c (hw c List.mem_cons_self)) hx (walk_back hn hf hc w (fun d hd => hw d (List.mem_cons_of_mem _ hd)) (stepF_FS hx.sh) h)
theorem rfin_sym {n : Nat} {s t : S2} (hB : FB n s) (hB2 : FB n t) (hs : FS n s) (h : t ∈ (rfin n s).map (·.1)) : s ∈ (rfin n t).map (·.1) := by
  have inv := rfin_inv hs hB
  obtain ⟨e, he, rfl⟩ := List.mem_map.mp h
  have ht := inv.fs e he
  obtain ⟨w1, _, w3⟩ := inv.wd e he
  have inv2 := rfin_inv ht hB2
  refine walk_back inv2.nd (fun x hx => ?_) (fun x hx c hc => rfin_closed ht hB2 hx hc) e.2 w1 hs (by rw [w3]; exact rfin_z ht hB2)
  obtain ⟨y, hy, rfl⟩ := List.mem_map.mp hx
  exact inv2.fs y hy
theorem FS.len {n : Nat} {s : S2} (h : FS n s) : s.1.length = n := h.sh.hp.len
theorem wayFind_some {L : List FW} {g : S2} {w : List Nat} (h : wayFind L g = some w) : (g, w) ∈ L := by
  unfold wayFind at h
  obtain ⟨e, he, rfl⟩ := Option.map_eq_some_iff.mp h
  have h1 := List.find?_some he
  have h2 := List.mem_of_find?_eq_some he
  have : e.1 = g := of_decide_eq_true h1
  rw [← this]
  exact h2
theorem wayFind_none {L : List FW} {g : S2} : wayFind L g = none ↔ g ∉ L.map (·.1) := by
  unfold wayFind
  rw [Option.map_eq_none_iff, List.find?_eq_none]
  constructor
  · intro h hm
    obtain ⟨e, he, e1⟩ := List.mem_map.mp hm
    exact h e he (decide_eq_true e1)
  · intro h e he hd
    exact h (List.mem_map.mpr ⟨e, he, of_decide_eq_true hd⟩)
theorem way_self {n : Nat} {s0 : S2} (h0 : FS n s0) (hB : FB n s0) : wayFind (rfin n s0) s0 = some [] := by
  have h := (rfin_inv h0 hB).hd
  cases e : rfin n s0 with
  | nil => rw [e] at h; cases h
  | cons a L =>
    rw [e] at h
    cases h
    unfold wayFind
    rw [List.find?_cons, decide_eq_true rfl]
    rfl

/-! the sheets that a row of up to eight squares reaches: by their words -/
def cyc0 (n : Nat) : S2 := (rowOf n fun k => (k + 1) % n, List.range n)
def rowW : Nat → List (List Nat)
  | 1 => [[]]
  | 2 => [[], [115], [116]]
  | 3 => [[], [115], [116], [115, 115]]
  | 4 => [[], [115], [116], [115, 115], [115, 116], [115, 115, 116]]
  | 5 => [[], [115], [116], [115, 115], [115, 116], [115, 115, 115]]
  | 6 => [[], [115], [116], [115, 115], [115, 116], [115, 115, 115], [115, 115, 116], [115, 115, 115, 115], [115, 115, 115, 116], [115, 115, 116, 115], [115, 115, 115, 116, 115], [115, 115, 116, 115, 115]]
  | 7 => [[], [115], [116], [115, 115], [115, 116], [115, 115, 115], [115, 115, 115, 115], [115, 115, 115, 115, 115]]
  | 8 => [[], [115], [116], [115, 115], [115, 116], [115, 115, 115], [115, 115, 116], [115, 115, 115, 115], [115, 115, 115, 116], [115, 115, 116, 115], [115, 115, 115, 115, 116], [115, 115, 115, 116, 115]]
  | _ => []
def rowS (n : Nat) : S2 := formOf (cyc0 n).1 (cyc0 n).2 n
def rowC (n : Nat) : List S2 := (rowW n).map fun w => w.foldl (stepF n) (rowS n)
def comB (n : Nat) (s : S2) : Bool := (List.range n).all fun k => ap s.2 (ap s.1 k) == ap s.1 (ap s.2 k)
def rowOk (n : Nat) : Bool := (rowC n).all (fun t => (rowC n).contains (stepF n t 115) && (rowC n).contains (stepF n t 116) && comB n t) && decide (rowC n).Nodup
theorem row_ok1 : rowOk 1 = true := by decide +kernel
theorem row_ok2 : rowOk 2 = true := by decide +kernel
theorem row_ok3 : rowOk 3 = true := by decide +kernel
theorem row_ok4 : rowOk 4 = true := by decide +kernel
theorem row_ok5 : rowOk 5 = true := by decide +kernel
theorem row_ok6 : rowOk 6 = true := by decide +kernel
theorem row_ok7 : rowOk 7 = true := by decide +kernel
theorem row_ok8 : rowOk 8 = true := by decide +kernel

theorem rowW_st {n : Nat} : ∀ w ∈ rowW n, St w := by
  intro w hw
  have key : ∀ n, n ≤ 8 → (rowW n).all (fun w => w.all fun c => c == 115 || c == 116) = true := by decide +kernel
  by_cases hn : n ≤ 8
  · intro c hc
    have := List.all_eq_true.mp (List.all_eq_true.mp (key n hn) w hw) c hc
    simpa using this
  · exfalso
    have : rowW n = [] := by
      match n, hn with
      | n + 9, _ => rfl
    rw [this] at hw
    cases hw
theorem cyc0_sh {n : Nat} (h : 0 < n) : Sh (cyc0 n).1 (cyc0 n).2 n := by
  have ap1 : ∀ x, x < n → ap (cyc0 n).1 x = (x + 1) % n := fun x hx => ap_rowOf hx
  refine ⟨pm_rowOf (fun x hx => Nat.mod_lt _ h) fun x y hx hy e => ?_, ⟨by simp [cyc0], by simp [cyc0, List.nodup_range], by simp [cyc0]⟩, h, fun x hx => ?_⟩
  · by_cases h1 : x + 1 = n
    · by_cases h2 : y + 1 = n
      · omega
      · rw [h1, Nat.mod_self, Nat.mod_eq_of_lt (by omega)] at e
        omega
    · by_cases h2 : y + 1 = n
      · rw [h2, Nat.mod_self, Nat.mod_eq_of_lt (by omega)] at e
        omega
      · rw [Nat.mod_eq_of_lt (by omega), Nat.mod_eq_of_lt (by omega)] at e
        omega
  · induction x with
    | zero => exact .z
    | succ x ih =>
      have := Re.fa (b := (cyc0 n).2) (ih (by omega))
      rw [ap1 x (by omega), Nat.mod_eq_of_lt hx] at this
      exact this
theorem rowS_fs {n : Nat} (h : 0 < n) : FS n (rowS n) := ⟨_, _, cyc0_sh h, rfl⟩
theorem row_ok {n : Nat} (h0 : 0 < n) (h8 : n ≤ 8) : rowOk n = true := by
  have : n = 1 ∨ n = 2 ∨ n = 3 ∨ n = 4 ∨ n = 5 ∨ n = 6 ∨ n = 7 ∨ n = 8 := by omega
  rcases this with rfl | rfl | rfl | rfl | rfl | rfl | rfl | rfl
  · exact row_ok1
  · exact row_ok2
  · exact row_ok3
  · exact row_ok4
  · exact row_ok5
  · exact row_ok6
  · exact row_ok7
  · exact row_ok8
structure RowC (n : Nat) : Prop where
  cl : ∀ t ∈ rowC n, ∀ c, c = 115 ∨ c = 116 → stepF n t c ∈ rowC n
  com : ∀ t ∈ rowC n, comB n t = true
  nd : (rowC n).Nodup
theorem rowC_of {n : Nat} (h0 : 0 < n) (h8 : n ≤ 8) : RowC n := by
  have h := row_ok h0 h8
  unfold rowOk at h
  rw [Bool.and_eq_true, List.all_eq_true] at h
  have h2 := of_decide_eq_true h.2
  refine ⟨fun t ht c hc => ?_, fun t ht => ?_, h2⟩
  · have := h.1 t ht
    simp only [Bool.and_eq_true, List.contains_iff_mem] at this
    rcases hc with rfl | rfl
    · exact this.1.1
    · exact this.1.2
  · have := h.1 t ht
    simp only [Bool.and_eq_true, List.contains_iff_mem] at this
    exact this.2
theorem rowC_fs {n : Nat} (h0 : 0 < n) : ∀ t ∈ rowC n, FS n t := fun t ht => by
  obtain ⟨w, _, rfl⟩ := List.mem_map.mp ht
  exact stepW_FS w (rowS_fs h0)
theorem rowC_len {n : Nat} : (rowC n).length ≤ 12 := by
  unfold rowC
  rw [List.length_map]
  by_cases hn : n ≤ 8
  · have : ∀ n, n ≤ 8 → (rowW n).length ≤ 12 := by decide +kernel
    exact this n hn
  · match n, hn with
    | n + 9, _ => exact Nat.zero_le _
theorem rowS_mem {n : Nat} (h0 : 0 < n) (h8 : n ≤ 8) : rowS n ∈ rowC n := by
  refine List.mem_map.mpr ⟨[], ?_, rfl⟩
  have : n = 1 ∨ n = 2 ∨ n = 3 ∨ n = 4 ∨ n = 5 ∨ n = 6 ∨ n = 7 ∨ n = 8 := by omega
  rcases this with rfl | rfl | rfl | rfl | rfl | rfl | rfl | rfl <;> exact List.mem_cons_self
theorem rowC_word {n : Nat} {t : S2} (ht : t ∈ rowC n) : ∃ w, St w ∧ w.foldl (stepF n) (rowS n) = t := by
  obtain ⟨w, hw, e⟩ := List.mem_map.mp ht
  exact ⟨w, rowW_st w hw, e⟩
/-- from each of them just these are reached -/
theorem reach_all {n : Nat} {C : List S2} {s0 t : S2} (hlen : C.length ≤ 199) (cl : ∀ t ∈ C, ∀ c, c = 115 ∨ c = 116 → stepF n t c ∈ C) (nd : C.Nodup) (fs : ∀ t ∈ C, FS n t) (wd : ∀ t ∈ C, ∃ w, St w ∧ w.foldl (stepF n) s0 = t) (hs0 : s0 ∈ C) (ht : t ∈ C) :
    FB n t ∧ (rfin n t).length = C.length ∧ ∀ e ∈ rfin n t, e.1 ∈ C := by
  have walk : ∀ (w : List Nat) {t : S2}, St w → t ∈ C → w.foldl (stepF n) t ∈ C := fun w => by
    induction w with
    | nil => exact fun _ h => h
    | cons c w ih => exact fun hw h => ih (fun d hd => hw d (List.mem_cons_of_mem _ hd)) (cl _ h c (hw c List.mem_cons_self))
  have fb : ∀ t ∈ C, FB n t := fun t ht L hn hL => by
    have := List.Nodup.length_le_of_subset hn (l₂ := C) fun s hs => by
      obtain ⟨_, w, hw, e⟩ := hL s hs
      have h1 := walk w hw ht
      rw [e] at h1
      exact h1
    exact Nat.le_trans this hlen
  have hf := fs t ht
  have hf0 := fs s0 hs0
  have hB := fb t ht
  have hB0 := fb s0 hs0
  have inv := rfin_inv hf hB
  obtain ⟨w, hw, e⟩ := wd t ht
  have h1 := rfin_walk hf0 hB0 w hw (rfin_z hf0 hB0)
  rw [e] at h1
  have back := rfin_sym hB0 hB hf0 h1
  have sub : ∀ e ∈ rfin n t, e.1 ∈ C := fun e he => by
    obtain ⟨w1, _, w3⟩ := inv.wd e he
    have h1 := walk e.2 w1 ht
    rw [w3] at h1
    exact h1
  have sup : ∀ x ∈ C, x ∈ (rfin n t).map (·.1) := fun x hx => by
    obtain ⟨w, hw, e⟩ := wd x hx
    have h1 := rfin_walk hf hB w hw back
    rw [e] at h1
    exact h1
  have nd2 := inv.nd
  clear inv back h1
  generalize rfin n t = L at *
  have l1 := List.Nodup.length_le_of_subset nd2 (l₂ := C) fun x hx => by
    obtain ⟨e, he, e1⟩ := List.mem_map.mp hx
    exact e1 ▸ sub e he
  have l2 := List.Nodup.length_le_of_subset nd (l₂ := L.map (·.1)) fun x hx => sup x hx
  have hl : (L.map (·.1)).length = L.length := List.length_map ..
  rw [hl] at l1 l2
  exact ⟨hB, Nat.le_antisymm l1 l2, sub⟩
theorem row_reach {n : Nat} (h0 : 0 < n) (h8 : n ≤ 8) {t : S2} (ht : t ∈ rowC n) : FB n t ∧ (rfin n t).length = (rowC n).length ∧ ∀ e ∈ rfin n t, e.1 ∈ rowC n :=
  reach_all (s0 := rowS n) (Nat.le_trans rowC_len (by decide)) (rowC_of h0 h8).cl (rowC_of h0 h8).nd (rowC_fs h0) (fun _ h => rowC_word h) (rowS_mem h0 h8) ht

theorem law_moved6_ok {p q : List Nat} {n c : Nat} (hp : Pm p n) (hq : Pm q n) (hn : n ≤ 1000) (hc : c = 115 ∨ c = 116) : f_law_moved_6 [.v (sheet p q), .v (.str (ch1 c))] = .ret (.v (sheet (mvP n (p, q) c).1 (mvP n (p, q) c).2)) := by
  refine fnR_of ?_
  have eq := is_s hc
  have hb := bk_pm hp
  have b1 := law_back_ok hp hn
  have b2 := law_back_ok hq hn
  show b_law_moved_6 [.v (sheet p q), .v (.str (ch1 c)), .u, .u, .u, .u] = _
  have lb : lenR (.v (.list (nD (bk n p)))) = .ok (.v (.int n)) := by simp [hb.len] <;> omega
  have e2 : lcF (rg1F (unF lenR (varF 4))) (asgn 5) [5] yesT (binF ixR (varF 3) (binF ixR (varF 4) (varF 5))) [.v (sheet p q), .v (.str (ch1 c)), .v (.tuple (nD p)), .v (.tuple (nD q)), .v (.list (nD (bk n p))), .u] = .ok (.o (nD (shr n p q))) := by
    rw [lc_rgD (n := n) 5 (fun x => .int (ap q (ap (bk n p) x) : Nat)) (by simp [lb]) (by omega) fun x hx => ⟨.v (.int (ap q (ap (bk n p) x) : Nat)), by
      have i1 := ix_row (a := bk n p) (x := x) (by rw [hb.len]; exact hx)
      have i2 := ix_rowT (a := q) (x := ap (bk n p) x) (by rw [hq.len]; exact hb.ap_lt hx)
      simp [i1, i2], rfl⟩]
    congr 2
    unfold shr rowOf nD
    rw [List.map_map]
    rfl
  unfold b_law_moved_6 mvP
  rcases hc with rfl | rfl
  · simp [unp_sheet, eq, b1, e2, sheet_e]
  · simp [unp_sheet, eq, b2, sheet_e]
theorem law_moved6_one {s : S2} {n c : Nat} (hp : Pm s.1 n) (hq : Pm s.2 n) (hn : n ≤ 1000) (hc : c = 115 ∨ c = 116) : f_law_moved_6 [.v (shP s), .v (.str (ch1 c))] = .ret (.v (shP (mvP n s c))) := law_moved6_ok hp hq hn hc

theorem intsD_nD (n : Nat) : intsD 0 n = nD (List.range n) := by
  unfold intsD nD
  simp
theorem deqN_self {d : D} (h : SeqAt.shaped d = true) : deq true d d = .ok (.bool false) := by
  unfold deq
  rw [if_pos ⟨h, h⟩, SeqAt.eqv_refl d (SeqAt.canLay_of_shaped h)]
  rfl
theorem law_refused74_ok {p q : List Nat} {n : Nat} {most : Int} (hs : Sh p q n) (hn : n < 1000) (hB : FB n (formOf p q n)) (hm : 1 ≤ most) (hlt : most < ((rfin n (formOf p q n)).length : Int)) : f_law_refused_16 [.v (sheet p q), .v (.int most)] = .ret (.v (.bool true)) := by
  have e := (reached_ok hs hn hB hm).2 hlt
  refine fnR_of ?_
  show b_law_refused_16 [.v (sheet p q), .v (.int most), .u, .u] = _
  unfold b_law_refused_16
  rw [seq_go (ρ' := [.v (sheet p q), .v (.int most), .v (.bool false), .u]) (by simp)]
  have e2 : tryAsS (exprS (callF f_reached_3 (aCons (varF 0) (aCons (varF 1) aNil)))) (mL ["TooMany"] ["NoRenumbering", "NoSquare", "NoWord"]) 3 (fun _ => asgS (cF (.bool true)) (asgn 2)) [.v (sheet p q), .v (.int most), .v (.bool false), .u] = .next [.v (sheet p q), .v (.int most), .v (.bool true), .u] := by
    unfold tryAsS
    have : exprS (callF f_reached_3 (aCons (varF 0) (aCons (varF 1) aNil))) [.v (sheet p q), .v (.int most), .v (.bool false), .u] = .exc "TooMany" none [.v (sheet p q), .v (.int most), .v (.bool false), .u] := by simp [e]
    rw [this]
    rfl
  rw [seq_go e2]
  rfl
/-- the row is numbered anew -/
theorem first_loop {a0 a1 x5 x6 x7 x8 x9 x10 x11 x12 x13 x14 : Sl} {r : List Nat} {n : Nat} (hr : Pm r n) (hn : n ≤ 1000) (h0 : 0 < n) : ∃ x, forS (rg1F (varF 2)) (asgn 5) (setIt 4 (binF ixR (varF 3) (varF 5)) (binF ixR (varF 3) (binF (flat2 (int2 imod)) (binF addR (varF 5) (cF (.int 1))) (varF 2)))) [a0, a1, .v (.int n), .o (nD r), .o (nD (rowOf n fun _ => 0)), x5, x6, x7, x8, x9, x10, x11, x12, x13, x14] = .next [a0, a1, .v (.int n), .o (nD r), .o (nD (conj n r (cyc0 n).1)), x, x6, x7, x8, x9, x10, x11, x12, x13, x14] := by
  obtain ⟨ρ', e, w, x, eρ, hl, hw⟩ := for_rg (f := varF 2) (s := setIt 4 (binF ixR (varF 3) (varF 5)) (binF ixR (varF 3) (binF (flat2 (int2 imod)) (binF addR (varF 5) (cF (.int 1))) (varF 2)))) (ρ := [a0, a1, .v (.int n), .o (nD r), .o (nD (rowOf n fun _ => 0)), x5, x6, x7, x8, x9, x10, x11, x12, x13, x14]) (n := n) 5
    (fun i ρ => ∃ w x, ρ = [a0, a1, .v (.int n), .o (nD r), .o (nD w), x, x6, x7, x8, x9, x10, x11, x12, x13, x14] ∧ w.length = n ∧ ∀ k, k < i → ap w (ap r k) = ap r ((k + 1) % n)) (by simp) (by omega) ⟨_, _, rfl, by simp [rowOf], by omega⟩ fun i ρ hi ⟨w, x, eρ, hl, hw⟩ => by
      subst eρ
      have hm : (i + 1) % n < n := Nat.mod_lt _ h0
      have i1 := ix_rowW (a := r) (x := i) (by rw [hr.len]; exact hi)
      have i2 := ix_rowW (a := r) (x := (i + 1) % n) (by rw [hr.len]; exact hm)
      have e3 := bixN (n := w.length) (i := ap r i) (by rw [hl]; exact hr.ap_lt hi)
      have em : imod ((i : Int) + 1) n = .ok (.int ((i + 1) % n : Nat)) := by
        rw [imod_s (by omega)]
        simp
      generalize hj : (i + 1) % n = j at *
      refine ⟨[a0, a1, .v (.int n), .o (nD r), .o (nD (w.set (ap r i) (ap r j))), .v (.int i), x6, x7, x8, x9, x10, x11, x12, x13, x14], by simp [setIt, i1, em, i2, e3, bset], w.set (ap r i) (ap r j), _, rfl, by simp [hl], fun k hk => ?_⟩
      by_cases e : k = i
      · subst e
        rw [hj]
        exact ap_of (by rw [List.getElem?_set_self (by rw [hl]; exact hr.ap_lt hi)])
      · have hne : ap r i ≠ ap r k := fun h => e (hr.ap_inj hi (by omega) h).symm
        rw [← hw k (by omega)]
        show (w.set (ap r i) (ap r j)).getD (ap r k) 0 = w.getD (ap r k) 0
        rw [List.getD_eq_getElem?_getD, List.getD_eq_getElem?_getD, List.getElem?_set_ne hne]
  refine ⟨x, ?_⟩
  have : w = conj n r (cyc0 n).1 := row_ext (m := n) hl (by simp [conj]) fun y hy => by
    obtain ⟨k, hk, e⟩ := hr.ap_surj hy
    rw [← e, hw k hk, conj_ap hr hk]
    show _ = ap r (ap (rowOf n fun k => (k + 1) % n) k)
    rw [ap_rowOf hk]
  subst this
  rw [e, eρ]
theorem conj_id {n : Nat} {r : List Nat} (hr : Pm r n) : conj n r (List.range n) = List.range n := row_ext (m := n) (by simp [conj]) (by simp) fun y hy => by
  obtain ⟨k, hk, e⟩ := hr.ap_surj hy
  have hR : ∀ x, x < n → ap (List.range n) x = x := fun x hx => ap_of (List.getElem?_range hx)
  rw [← e, conj_ap hr hk, hR k hk, hR _ (hr.ap_lt hk)]
def dueB : SF := (ifS (tstF (binF eqR (binF (flat2 (int2 imod)) (varF 2) (varF 9)) (cF (.int 0)))) (asgS (binF (flat2 (int2 imul)) (binF (flat2 (int2 idiv)) (varF 8) (varF 9)) (binF addR (varF 9) (cF (.int 1)))) (asgn 8))
  skipS)
def dueS : SF := forS (itF itS (tupF (aCons (cF (.int 2)) (aCons (cF (.int 3)) (aCons (cF (.int 5)) (aCons (cF (.int 7)) aNil)))))) (asgn 9) dueB
theorem due_step {a0 a1 a3 a4 a5 a6 a7 x10 x11 x12 x13 x14 : Sl} {n d pr k m : Nat} (hpr : 0 < pr) (hk : n % pr = k) (hm : (if k = 0 then d / pr * (pr + 1) else d) = m) (hb : d ≤ 100) (hb2 : pr ≤ 10) : dueB [a0, a1, .v (.int n), a3, a4, a5, a6, a7, .v (.int d), .v (.int pr), x10, x11, x12, x13, x14] = .next [a0, a1, .v (.int n), a3, a4, a5, a6, a7, .v (.int m), .v (.int pr), x10, x11, x12, x13, x14] := by
  have em : imod (n : Int) pr = .ok (.int k) := by
    rw [imod_s (by omega), ← hk]
    simp
  have ed : idiv (d : Int) pr = .ok (.int (d / pr : Nat)) := by
    rw [idiv_s (by omega)]
    simp
  have hq : d / pr ≤ 100 := Nat.le_trans (Nat.div_le_self _ _) hb
  unfold dueB
  generalize d / pr = u at *
  by_cases h : k = 0
  · subst h
    rw [if_pos rfl] at hm
    have emul : imul (u : Int) ((pr : Int) + 1) = .ok (.int m) := by
      have : (u : Int) * ((pr : Int) + 1) = (m : Int) := by
        rw [← hm]
        simp
      unfold imul
      rw [this, if_pos (.inl ⟨by omega, by omega⟩)]
    simp [em, ed, emul]
  · rw [if_neg h] at hm
    subst hm
    have : ¬ (k : Int) = 0 := by omega
    simp [em, this, h]
theorem due_ok {a0 a1 a3 a4 a5 a6 a7 x9 x10 x11 x12 x13 x14 : Sl} {n : Nat} (h0 : 0 < n) (h8 : n ≤ 8) : ∃ x, dueS [a0, a1, .v (.int n), a3, a4, a5, a6, a7, .v (.int n), x9, x10, x11, x12, x13, x14] = .next [a0, a1, .v (.int n), a3, a4, a5, a6, a7, .v (.int (rowC n).length), x, x10, x11, x12, x13, x14] := by
  have it : ∀ d x9, itF itS (tupF (aCons (cF (.int 2)) (aCons (cF (.int 3)) (aCons (cF (.int 5)) (aCons (cF (.int 7)) aNil))))) [a0, a1, .v (.int n), a3, a4, a5, a6, a7, d, x9, x10, x11, x12, x13, x14] = .ok [.v (.int (2 : Nat)), .v (.int (3 : Nat)), .v (.int (5 : Nat)), .v (.int (7 : Nat))] := fun d x9 => rfl
  have go : ∀ m2 m3 m5 m7 : Nat, (if n % 2 = 0 then n / 2 * (2 + 1) else n) = m2 → (if n % 3 = 0 then m2 / 3 * (3 + 1) else m2) = m3 → (if n % 5 = 0 then m3 / 5 * (5 + 1) else m3) = m5 → (if n % 7 = 0 then m5 / 7 * (7 + 1) else m5) = m7 → m2 ≤ 100 → m3 ≤ 100 → m5 ≤ 100 → (rowC n).length = m7 → ∃ x, dueS [a0, a1, .v (.int n), a3, a4, a5, a6, a7, .v (.int n), x9, x10, x11, x12, x13, x14] = .next [a0, a1, .v (.int n), a3, a4, a5, a6, a7, .v (.int (rowC n).length), x, x10, x11, x12, x13, x14] := by
    intro m2 m3 m5 m7 e2 e3 e5 e7 b2 b3 b5 er
    refine ⟨.v (.int (7 : Nat)), ?_⟩
    unfold dueS
    rw [forS_e, it, er]
    show forL (asgn 9) dueB _ _ = _
    rw [forL_next (ρ1 := [a0, a1, .v (.int n), a3, a4, a5, a6, a7, .v (.int n), .v (.int (2 : Nat)), x10, x11, x12, x13, x14]) rfl (due_step (by omega) rfl e2 (by omega) (by omega))]
    rw [forL_next (ρ1 := [a0, a1, .v (.int n), a3, a4, a5, a6, a7, .v (.int m2), .v (.int (3 : Nat)), x10, x11, x12, x13, x14]) rfl (due_step (by omega) rfl e3 (by omega) (by omega))]
    rw [forL_next (ρ1 := [a0, a1, .v (.int n), a3, a4, a5, a6, a7, .v (.int m3), .v (.int (5 : Nat)), x10, x11, x12, x13, x14]) rfl (due_step (by omega) rfl e5 (by omega) (by omega))]
    rw [forL_next (ρ1 := [a0, a1, .v (.int n), a3, a4, a5, a6, a7, .v (.int m5), .v (.int (7 : Nat)), x10, x11, x12, x13, x14]) rfl (due_step (by omega) rfl e7 (by omega) (by omega)), forL_nil]
  have hl : (rowC n).length = (rowW n).length := List.length_map ..
  have : n = 1 ∨ n = 2 ∨ n = 3 ∨ n = 4 ∨ n = 5 ∨ n = 6 ∨ n = 7 ∨ n = 8 := by omega
  rcases this with rfl | rfl | rfl | rfl | rfl | rfl | rfl | rfl
  · exact go 1 1 1 1 rfl rfl rfl rfl (by omega) (by omega) (by omega) hl
  · exact go 3 3 3 3 rfl rfl rfl rfl (by omega) (by omega) (by omega) hl
  · exact go 3 4 4 4 rfl rfl rfl rfl (by omega) (by omega) (by omega) hl
  · exact go 6 6 6 6 rfl rfl rfl rfl (by omega) (by omega) (by omega) hl
  · exact go 5 5 6 6 rfl rfl rfl rfl (by omega) (by omega) (by omega) hl
  · exact go 9 12 12 12 rfl rfl rfl rfl (by omega) (by omega) (by omega) hl
  · exact go 7 7 7 8 rfl rfl rfl rfl (by omega) (by omega) (by omega) hl
  · exact go 12 12 12 12 rfl rfl rfl rfl (by omega) (by omega) (by omega) hl
theorem rowC_pos {n : Nat} (h0 : 0 < n) (h8 : n ≤ 8) : 1 ≤ (rowC n).length ∧ (1 < n → 3 ≤ (rowC n).length) := by
  have hl : (rowC n).length = (rowW n).length := List.length_map ..
  rw [hl]
  have : n = 1 ∨ n = 2 ∨ n = 3 ∨ n = 4 ∨ n = 5 ∨ n = 6 ∨ n = 7 ∨ n = 8 := by omega
  rcases this with rfl | rfl | rfl | rfl | rfl | rfl | rfl | rfl <;> decide
def comF : SF := (seqS (asgS (varF 11) (unpT [asgn 13, asgn 14]))
  (ifS (tstF (binF neR (lcF (rg1F (varF 2)) (asgn 5) [5] yesT (binF ixR (varF 14) (binF ixR (varF 13) (varF 5)))) (lcF (rg1F (varF 2)) (asgn 5) [5] yesT (binF ixR (varF 13) (binF ixR (varF 14) (varF 5)))))) (retS (cF (.bool false)))
  skipS))
theorem com_step {a0 a1 a3 a4 a5 a6 a7 a8 a9 a10 x12 x13 x14 : Sl} {n : Nat} {s : S2} (hs : Sh s.1 s.2 n) (hn : n ≤ 1000) (hc : comB n s = true) : ∃ y13 y14, comF [a0, a1, .v (.int n), a3, a4, a5, a6, a7, a8, a9, a10, .v (shP s), x12, x13, x14] = .next [a0, a1, .v (.int n), a3, a4, a5, a6, a7, a8, a9, a10, .v (shP s), x12, y13, y14] := by
  have hp := hs.hp
  have hq := hs.hq
  refine ⟨.v (.tuple (nD s.1)), .v (.tuple (nD s.2)), ?_⟩
  have st : (asgS (varF 11) (unpT [asgn 13, asgn 14])) [a0, a1, .v (.int n), a3, a4, a5, a6, a7, a8, a9, a10, .v (shP s), x12, x13, x14] = .next [a0, a1, .v (.int n), a3, a4, a5, a6, a7, a8, a9, a10, .v (shP s), x12, .v (.tuple (nD s.1)), .v (.tuple (nD s.2))] := by
    have : unpT [asgn 13, asgn 14] (.v (shP s)) [a0, a1, .v (.int n), a3, a4, a5, a6, a7, a8, a9, a10, .v (shP s), x12, x13, x14] = .ok [a0, a1, .v (.int n), a3, a4, a5, a6, a7, a8, a9, a10, .v (shP s), x12, .v (.tuple (nD s.1)), .v (.tuple (nD s.2))] := by
      unfold shP
      rw [unp_sheet]
      rfl
    simp [this]
  have l1 : lcF (rg1F (varF 2)) (asgn 5) [5] yesT (binF ixR (varF 14) (binF ixR (varF 13) (varF 5))) [a0, a1, .v (.int n), a3, a4, a5, a6, a7, a8, a9, a10, .v (shP s), x12, .v (.tuple (nD s.1)), .v (.tuple (nD s.2))] = .ok (.o (nD (rowOf n fun k => ap s.2 (ap s.1 k)))) := by
    rw [lc_rgD (n := n) 5 (fun k => .int (ap s.2 (ap s.1 k) : Nat)) (by simp) (by omega) fun k hk => ⟨.v (.int (ap s.2 (ap s.1 k) : Nat)), by
      have i1 := ix_rowT (a := s.1) (x := k) (by rw [hp.len]; exact hk)
      have i2 := ix_rowT (a := s.2) (x := ap s.1 k) (by rw [hq.len]; exact hp.ap_lt hk)
      simp [i1, i2], rfl⟩]
    congr 2
    unfold rowOf nD
    rw [List.map_map]
    rfl
  have l2 : lcF (rg1F (varF 2)) (asgn 5) [5] yesT (binF ixR (varF 13) (binF ixR (varF 14) (varF 5))) [a0, a1, .v (.int n), a3, a4, a5, a6, a7, a8, a9, a10, .v (shP s), x12, .v (.tuple (nD s.1)), .v (.tuple (nD s.2))] = .ok (.o (nD (rowOf n fun k => ap s.1 (ap s.2 k)))) := by
    rw [lc_rgD (n := n) 5 (fun k => .int (ap s.1 (ap s.2 k) : Nat)) (by simp) (by omega) fun k hk => ⟨.v (.int (ap s.1 (ap s.2 k) : Nat)), by
      have i1 := ix_rowT (a := s.2) (x := k) (by rw [hq.len]; exact hk)
      have i2 := ix_rowT (a := s.1) (x := ap s.2 k) (by rw [hp.len]; exact hq.ap_lt hk)
      simp [i1, i2], rfl⟩]
    congr 2
    unfold rowOf nD
    rw [List.map_map]
    rfl
  have he : rowOf n (fun k => ap s.1 (ap s.2 k)) = rowOf n fun k => ap s.2 (ap s.1 k) := by
    unfold rowOf
    refine List.map_congr_left fun k hk => ?_
    have := List.all_eq_true.mp hc k hk
    exact (eq_of_beq this).symm
  rw [he] at l2
  have hd := deqN_self (d := .list (nD (rowOf n fun k => ap s.2 (ap s.1 k)))) (td_shaped (k := 1) (by simp [td, nD]))
  unfold comF
  rw [seq_go st]
  simp [l1, l2, hd]
theorem law_true : ∀ ns : List Int, ns.length ≤ 63 → f_law_k74_whole_row_sheets_counted [.v (.list (ns.map .int))] = .ret (.v (.bool true)) := fun ns hlen => by
  obtain ⟨c, hc⟩ := cell_ok ns 0 (by decide)
  simp only [Int.natCast_zero] at hc
  have d2 : idiv c 2 = .ok (.int (c / 2)) := idiv_s (by decide)
  obtain ⟨a, ha, d3⟩ := mod_ok (c := c / 2) 8 (by decide)
  simp only [Int.cast_ofNat_Int] at d3
  obtain ⟨n, hn⟩ : ∃ n, n = 1 + a := ⟨_, rfl⟩
  have h0 : 0 < n := by omega
  have h8 : n ≤ 8 := by omega
  obtain ⟨r, hr, er⟩ := row3_ok ns 1 n (by omega) (by omega)
  simp only [Int.natCast_one] at er
  have hC := cyc0_sh h0
  have hS := conj_sh hC hr
  have hSid : conj n r (cyc0 n).2 = List.range n := conj_id hr
  rw [hSid] at hS
  -- the words
  obtain ⟨cs, hcs⟩ : ∃ cs : List Int, cutD (zD ns) (some 9) (some 63) = zD cs := ⟨_, by
    unfold cutD zD
    rw [← List.map_drop, ← List.map_take]⟩
  have hzl : cs.length ≤ 63 := by
    have h1 : (cutD (zD ns) (some 9) (some 63)).length ≤ (zD ns).length := by
      unfold cutD
      simp only [List.length_take, List.length_drop]
      omega
    rw [hcs] at h1
    simp [zD] at h1
    omega
  have loop : ∀ (cs : List Int) (a0 a1 a3 a4 a5 x7 x8 x9 x10 x11 x12 x13 x14 : Sl) (s : S2), Pm s.1 n ∧ Pm s.2 n → ∃ w x7', St w ∧ forL (asgn 7) (asgS (callF f_law_moved_6 (aCons (varF 6) (aCons (binF ixR (cF (.str "st")) (binF (flat2 (int2 imod)) (varF 7) (cF (.int 2)))) aNil))) (asgn 6)) (cs.map fun z => Rv.v (.int z)) [a0, a1, .v (.int n), a3, a4, a5, .v (shP s), x7, x8, x9, x10, x11, x12, x13, x14] = .next [a0, a1, .v (.int n), a3, a4, a5, .v (shP (mvW n s w)), x7', x8, x9, x10, x11, x12, x13, x14] := by
    intro cs
    induction cs with
    | nil => exact fun _ _ _ _ _ x7 _ _ _ _ _ _ _ s _ => ⟨[], x7, by simp [St], rfl⟩
    | cons z cs ih =>
      intro a0 a1 a3 a4 a5 x7 x8 x9 x10 x11 x12 x13 x14 s hp
      obtain ⟨k, hk, i, i1, i2⟩ := st_ix z
      have i2 : ixR (.v (.str "st")) (.v (.int i)) = .ok (.v (.str (ch1 k))) := i2
      obtain ⟨w, x4', hw, e⟩ := ih a0 a1 a3 a4 a5 (.v (.int z)) x8 x9 x10 x11 x12 x13 x14 (mvP n s k) (mvP_pm hp)
      refine ⟨k :: w, x4', fun d hd => (List.mem_cons.mp hd).elim (fun e => e ▸ hk) (hw d), ?_⟩
      have h2 := law_moved6_one hp.1 hp.2 (by omega) hk
      rw [List.map_cons, forL_next (ρ1 := [a0, a1, .v (.int n), a3, a4, a5, .v (shP s), .v (.int z), x8, x9, x10, x11, x12, x13, x14]) (ρ2 := [a0, a1, .v (.int n), a3, a4, a5, .v (shP (mvP n s k)), .v (.int z), x8, x9, x10, x11, x12, x13, x14]) rfl (by simp [i1, i2, h2])]
      exact e
  obtain ⟨S, hSe⟩ : ∃ S : S2, S = (conj n r (cyc0 n).1, List.range n) := ⟨_, rfl⟩
  have hSs : Sh S.1 S.2 n := by rw [hSe]; exact hS
  have hf0 : formOf S.1 S.2 n = rowS n := by
    have := form_iso hC (conj_sh hC hr) (conj_iso hr)
    rw [hSid] at this
    rw [hSe]
    exact this
  obtain ⟨x5, efirst⟩ := first_loop (a0 := .v (.list (zD ns))) (a1 := .v (.int c)) (x5 := .u) (x6 := .u) (x7 := .u) (x8 := .u) (x9 := .u) (x10 := .u) (x11 := .u) (x12 := .u) (x13 := .u) (x14 := .u) hr (by omega) h0
  obtain ⟨w, x7, hw, eloop⟩ := loop cs (.v (.list (zD ns))) (.v (.int c)) (.o (nD r)) (.o (nD (conj n r (cyc0 n).1))) x5 .u .u .u .u .u .u .u .u S ⟨hSs.hp, hSs.hq⟩
  have hT := sh_mvW w (s := S) hSs
  have hfT : formOf (mvW n S w).1 (mvW n S w).2 n ∈ rowC n := by
    rw [← form_mvW w hSs, hf0]
    have R := rowC_of h0 h8
    have walk : ∀ (w : List Nat) {t : S2}, St w → t ∈ rowC n → w.foldl (stepF n) t ∈ rowC n := fun w => by
      induction w with
      | nil => exact fun _ h => h
      | cons c w ih => exact fun hw h => ih (fun d hd => hw d (List.mem_cons_of_mem _ hd)) (R.cl _ h c (hw c List.mem_cons_self))
    exact walk w hw (rowS_mem h0 h8)
  obtain ⟨hB, hlen, hall⟩ := row_reach h0 h8 hfT
  have hcom := (rowC_of h0 h8).com
  have hfs := rowC_fs h0
  obtain ⟨hN1, hN3⟩ := rowC_pos h0 h8
  have hN12 := rowC_len (n := n)
  obtain ⟨x9, edue⟩ := due_ok (a0 := .v (.list (zD ns))) (a1 := .v (.int c)) (a3 := .o (nD r)) (a4 := .o (nD (conj n r (cyc0 n).1))) (a5 := x5) (a6 := .v (shP (mvW n S w))) (a7 := x7) (x9 := .u) (x10 := .u) (x11 := .u) (x12 := .u) (x13 := .u) (x14 := .u) h0 h8
  have hr1 := fun (most : Int) (hm : 1 ≤ most) (h : ((rfin n (formOf (mvW n S w).1 (mvW n S w).2 n)).length : Int) ≤ most) => (reached_ok hT (by omega) hB hm).1 h
  have hr2 := fun (most : Int) (hm : 1 ≤ most) (h : most < ((rfin n (formOf (mvW n S w).1 (mvW n S w).2 n)).length : Int)) => law_refused74_ok hT (by omega) hB hm h
  have hl2 := fun (e : FW) (he : e ∈ rfin n (formOf (mvW n S w).1 (mvW n S w).2 n)) => And.intro (hcom _ (hall e he)) (hfs _ (hall e he)).sh
  clear hB hall hcom hfs hfT
  generalize rfin n (formOf (mvW n S w).1 (mvW n S w).2 n) = L at *
  generalize (rowC n).length = N at *
  have hr1 : ∀ most : Int, 1 ≤ most → (L.length : Int) ≤ most → f_reached_3 [.v (shP (mvW n S w)), .v (.int most)] = .ret (.o (L.map fwD)) := hr1
  have hr2 : ∀ most : Int, 1 ≤ most → most < (L.length : Int) → f_law_refused_16 [.v (shP (mvW n S w)), .v (.int most)] = .ret (.v (.bool true)) := hr2
  have d16 : idiv c 16 = .ok (.int (c / 16)) := idiv_s (by decide)
  obtain ⟨b3, hb3, m3⟩ := mod_ok (c := c / 16) 3 (by decide)
  have d48 : idiv c 48 = .ok (.int (c / 48)) := idiv_s (by decide)
  obtain ⟨b2, hb2, m2⟩ := mod_ok (c := c / 48) 2 (by decide)
  simp only [Int.cast_ofNat_Int] at m3 m2
  refine fnR_of ?_
  show b_law_k74_whole_row_sheets_counted [.v (.list (zD ns)), .u, .u, .u, .u, .u, .u, .u, .u, .u, .u, .u, .u, .u, .u] = _
  unfold b_law_k74_whole_row_sheets_counted
  rw [seq_go (ρ' := [.v (.list (zD ns)), .v (.int c), .u, .u, .u, .u, .u, .u, .u, .u, .u, .u, .u, .u, .u]) (by simp [hc])]
  rw [seq_go (ρ' := [.v (.list (zD ns)), .v (.int c), .v (.int n), .u, .u, .u, .u, .u, .u, .u, .u, .u, .u, .u, .u]) (by simp [d2, d3, hn])]
  rw [seq_go (ρ' := [.v (.list (zD ns)), .v (.int c), .v (.int n), .o (nD r), .u, .u, .u, .u, .u, .u, .u, .u, .u, .u, .u]) (by simp [er])]
  have lz : lcF (rg1F (varF 2)) (asgn 5) [5] yesT (cF (.int 0)) [.v (.list (zD ns)), .v (.int c), .v (.int n), .o (nD r), .u, .u, .u, .u, .u, .u, .u, .u, .u, .u, .u] = .ok (.o (nD (rowOf n fun _ => 0))) := by
    rw [lc_rgD (n := n) 5 (fun _ => .int 0) (by simp) (by omega) fun x hx => ⟨.v (.int 0), rfl, rfl⟩]
    congr 2
    unfold rowOf nD
    rw [List.map_map]
    rfl
  rw [seq_go (ρ' := [.v (.list (zD ns)), .v (.int c), .v (.int n), .o (nD r), .o (nD (rowOf n fun _ => 0)), .u, .u, .u, .u, .u, .u, .u, .u, .u, .u]) (by simp [lz])]
  rw [seq_go efirst]
  have etr : trgF (varF 2) [.v (.list (zD ns)), .v (.int c), .v (.int n), .o (nD r), .o (nD (conj n r (cyc0 n).1)), x5, .u, .u, .u, .u, .u, .u, .u, .u, .u] = .ok (.v (.tuple (nD (List.range n)))) := by
    show (if 0 ≤ (n : Int) ∧ (n : Int) ≤ 1000000 then Er.ok (Rv.v (.tuple (intsD 0 n))) else .bad) = _
    rw [if_pos (by omega), intsD_nD]
  have eS : shP S = sheet (conj n r (cyc0 n).1) (List.range n) := by rw [hSe]; rfl
  rw [seq_go (ρ' := [.v (.list (zD ns)), .v (.int c), .v (.int n), .o (nD r), .o (nD (conj n r (cyc0 n).1)), x5, .v (shP S), .u, .u, .u, .u, .u, .u, .u, .u]) (by rw [eS]; simp [etr, sheet_e])]
  have sl : slR (.v (.list (zD ns))) (some 9) (some 63) = .ok (.o (zD cs)) := by
    show Er.ok (Rv.o (cutD (zD ns) (some 9) (some 63))) = _
    rw [hcs]
  have it : itF itS (slF (varF 0) (some (cF (.int 9))) (some (cF (.int 63)))) [.v (.list (zD ns)), .v (.int c), .v (.int n), .o (nD r), .o (nD (conj n r (cyc0 n).1)), x5, .v (shP S), .u, .u, .u, .u, .u, .u, .u, .u] = .ok (cs.map fun z => Rv.v (.int z)) := by
    rw [itF_e]
    simp [slF, ptF, sl]
    simp [zD] <;> omega
  rw [seq_go (by rw [forS_e, it]; exact eloop)]
  rw [seq_go (ρ' := [.v (.list (zD ns)), .v (.int c), .v (.int n), .o (nD r), .o (nD (conj n r (cyc0 n).1)), x5, .v (shP (mvW n S w)), x7, .v (.int n), .u, .u, .u, .u, .u, .u]) (by simp)]
  refine (seq_go edue).trans ?_
  have hif : (ifS (andT (tstF (binF gtR (varF 2) (cF (.int 1)))) (andT (tstF (binF eqR (binF (flat2 (int2 imod)) (binF (flat2 (int2 idiv)) (varF 1) (cF (.int 16))) (cF (.int 3))) (cF (.int 1)))) (notT (tstF (callF f_law_refused_16 (aCons (varF 6) (aCons (binF (flat2 (int2 isub)) (varF 8) (cF (.int 1))) aNil))))))) (retS (cF (.bool false)))
  skipS) [.v (.list (zD ns)), .v (.int c), .v (.int n), .o (nD r), .o (nD (conj n r (cyc0 n).1)), x5, .v (shP (mvW n S w)), x7, .v (.int N), x9, .u, .u, .u, .u, .u] = .next [.v (.list (zD ns)), .v (.int c), .v (.int n), .o (nD r), .o (nD (conj n r (cyc0 n).1)), x5, .v (shP (mvW n S w)), x7, .v (.int N), x9, .u, .u, .u, .u, .u] := by
    by_cases h1 : 1 < n
    · have := hN3 h1
      have q := hr2 ((N : Int) - 1) (by omega) (by omega)
      have h1' : (1 : Int) < n := by omega
      by_cases h3 : b3 = 1
      · subst h3
        simp [h1, h1', d16, m3, q]
      · have h3' : ¬ (b3 : Int) = 1 := by omega
        simp [h1, h1', d16, m3, h3, h3']
    · have h1' : ¬ (1 : Int) < n := by omega
      simp [h1, h1']
  rw [seq_go hif]
  have hq : ∃ most : Int, 1 ≤ most ∧ (L.length : Int) ≤ most ∧ ixR (.o [.int N, .int 200]) (.v (.int b2)) = .ok (.v (.int most)) := by
    have : b2 = 0 ∨ b2 = 1 := by omega
    rcases this with rfl | rfl
    · exact ⟨N, by omega, by omega, ixR_o rfl⟩
    · exact ⟨200, by omega, by omega, ixR_o rfl⟩
  obtain ⟨most, hm1, hm2, em⟩ := hq
  have el := hr1 most hm1 hm2
  rw [seq_go (ρ' := [.v (.list (zD ns)), .v (.int c), .v (.int n), .o (nD r), .o (nD (conj n r (cyc0 n).1)), x5, .v (shP (mvW n S w)), x7, .v (.int N), x9, .o (L.map fwD), .u, .u, .u, .u]) (by simp [d48, m2, em, el])]
  have hi : isiR "list" (.w (L.map fwD)) = .ok (.v (.bool true)) := rfl
  have ll : lenR (.w (L.map fwD)) = .ok (.v (.int N)) := by simp [hlen] <;> omega
  rw [seq_go (ρ' := [.v (.list (zD ns)), .v (.int c), .v (.int n), .o (nD r), .o (nD (conj n r (cyc0 n).1)), x5, .v (shP (mvW n S w)), x7, .v (.int N), x9, .o (L.map fwD), .u, .u, .u, .u]) (by simp [hi, ll])]
  have hfor := forL_go (τ := unpT [asgn 11, asgn 12]) (s := comF) (rs := (L.map fwD).map Rv.v) (ρ := [.v (.list (zD ns)), .v (.int c), .v (.int n), .o (nD r), .o (nD (conj n r (cyc0 n).1)), x5, .v (shP (mvW n S w)), x7, .v (.int N), x9, .v (.list (L.map fwD)), .u, .u, .u, .u])
    (fun _ ρ => ∃ y11 y12 y13 y14, ρ = [.v (.list (zD ns)), .v (.int c), .v (.int n), .o (nD r), .o (nD (conj n r (cyc0 n).1)), x5, .v (shP (mvW n S w)), x7, .v (.int N), x9, .v (.list (L.map fwD)), y11, y12, y13, y14]) ⟨_, _, _, _, rfl⟩ ?_
  · obtain ⟨ρ', e, y11, y12, y13, y14, eρ⟩ := hfor
    subst eρ
    have it2 : itF itS (varF 10) [.v (.list (zD ns)), .v (.int c), .v (.int n), .o (nD r), .o (nD (conj n r (cyc0 n).1)), x5, .v (shP (mvW n S w)), x7, .v (.int N), x9, .v (.list (L.map fwD)), .u, .u, .u, .u] = .ok ((L.map fwD).map Rv.v) := by
      rw [itF_e]
      simp <;> omega
    show frzS 10 (seqS (forS (itF itS (varF 10)) (unpT [asgn 11, asgn 12]) comF) (retS (cF (.bool true)))) _ = _
    have fz : frzS 10 (seqS (forS (itF itS (varF 10)) (unpT [asgn 11, asgn 12]) comF) (retS (cF (.bool true)))) [.v (.list (zD ns)), .v (.int c), .v (.int n), .o (nD r), .o (nD (conj n r (cyc0 n).1)), x5, .v (shP (mvW n S w)), x7, .v (.int N), x9, .o (L.map fwD), .u, .u, .u, .u] = (seqS (forS (itF itS (varF 10)) (unpT [asgn 11, asgn 12]) comF) (retS (cF (.bool true)))) [.v (.list (zD ns)), .v (.int c), .v (.int n), .o (nD r), .o (nD (conj n r (cyc0 n).1)), x5, .v (shP (mvW n S w)), x7, .v (.int N), x9, .v (.list (L.map fwD)), .u, .u, .u, .u] := by simp
    rw [fz, seq_go (by rw [forS_e, it2]; exact e)]
    rfl
  · intro i rv ρ hrv ⟨y11, y12, y13, y14, eρ⟩
    subst eρ
    have hm := List.mem_of_getElem? hrv
    rw [List.map_map, List.mem_map] at hm
    obtain ⟨e, he, rfl⟩ := hm
    obtain ⟨c1, c2⟩ := hl2 e he
    obtain ⟨z13, z14, est⟩ := com_step (a0 := .v (.list (zD ns))) (a1 := .v (.int c)) (a3 := .o (nD r)) (a4 := .o (nD (conj n r (cyc0 n).1))) (a5 := x5) (a6 := .v (shP (mvW n S w))) (a7 := x7) (a8 := .v (.int N)) (a9 := x9) (a10 := .v (.list (L.map fwD))) (x12 := .v (.str (tx e.2))) (x13 := y13) (x14 := y14) c2 (by omega) c1
    refine ⟨[.v (.list (zD ns)), .v (.int c), .v (.int n), .o (nD r), .o (nD (conj n r (cyc0 n).1)), x5, .v (shP (mvW n S w)), x7, .v (.int N), x9, .v (.list (L.map fwD)), .v (shP e.1), .v (.str (tx e.2)), y13, y14], _, ?_, est, _, _, _, _, rfl⟩
    show unpT [asgn 11, asgn 12] (.v (fwD e)) _ = _
    rw [unp_fw]
    rfl

end Sq
namespace Lw
open PySem PySem.Spec PyProof.Rows L2 Sq
/-! ### the text -/
def topS (i : Nat) : Stmt := PySem.Challenge.pw_squaresheet_k74_whole_row_sheets_counted.main.body.getD i (.Pass ⟨0, 0, 0, 0⟩)
abbrev s_law_cell : Stmt := topS 27
theorem sc_law_cell : FnScope ["_law_script", "_law_k"] ["_law_script", "_law_k"] (defScope s_law_cell) := ⟨rfl, rfl, rfl, by decide +kernel, rfl, by decide +kernel, by decide +kernel⟩
abbrev s_law_free : Stmt := topS 28
theorem sc_law_free : FnScope ["_law_script"] ["_law_script"] (defScope s_law_free) := ⟨rfl, rfl, rfl, by decide +kernel, rfl, by decide +kernel, by decide +kernel⟩
abbrev s_law_row : Stmt := topS 29
theorem sc_law_row : FnScope ["_law_script", "_law_at", "_law_many", "_law_left", "_law_row_here", "_law_cell_here", "_law_k"] ["_law_script", "_law_at", "_law_many"] (defScope s_law_row) := ⟨rfl, rfl, rfl, by decide +kernel, rfl, by decide +kernel, by decide +kernel⟩
abbrev s_law_back : Stmt := topS 30
theorem sc_law_back : FnScope ["_law_row_here", "_law_told", "_law_k"] ["_law_row_here"] (defScope s_law_back) := ⟨rfl, rfl, rfl, by decide +kernel, rfl, by decide +kernel, by decide +kernel⟩
abbrev s_law_moved : Stmt := topS 31
theorem sc_law_moved : FnScope ["_law_sheet", "_law_letter", "_law_first", "_law_second", "_law_left", "_law_k"] ["_law_sheet", "_law_letter"] (defScope s_law_moved) := ⟨rfl, rfl, rfl, by decide +kernel, rfl, by decide +kernel, by decide +kernel⟩
abbrev s_size : Stmt := topS 9
theorem sc_size : FnScope ["sheet"] ["sheet"] (defScope s_size) := ⟨rfl, rfl, rfl, by decide +kernel, rfl, by decide +kernel, by decide +kernel⟩
abbrev s_renumbered : Stmt := topS 13
theorem sc_renumbered : FnScope ["sheet", "f", "many", "told", "row", "anew", "square"] ["sheet", "f"] (defScope s_renumbered) := ⟨rfl, rfl, rfl, by decide +kernel, rfl, by decide +kernel, by decide +kernel⟩
abbrev s_is_square : Stmt := topS 7
theorem sc_is_square : FnScope ["square", "many"] ["square", "many"] (defScope s_is_square) := ⟨rfl, rfl, rfl, by decide +kernel, rfl, by decide +kernel, by decide +kernel⟩
abbrev s_check_square : Stmt := topS 11
theorem sc_check_square : FnScope ["sheet", "square"] ["sheet", "square"] (defScope s_check_square) := ⟨rfl, rfl, rfl, by decide +kernel, rfl, by decide +kernel, by decide +kernel⟩
abbrev s_met_from : Stmt := topS 8
theorem sc_met_from : FnScope ["right", "up", "first", "met", "at", "square"] ["right", "up", "first"] (defScope s_met_from) := ⟨rfl, rfl, rfl, by decide +kernel, rfl, by decide +kernel, by decide +kernel⟩
abbrev s_numbering : Stmt := topS 14
theorem sc_numbering : FnScope ["sheet", "first", "met", "numbers", "number", "square"] ["sheet", "first"] (defScope s_numbering) := ⟨rfl, rfl, rfl, by decide +kernel, rfl, by decide +kernel, by decide +kernel⟩
abbrev s_form : Stmt := topS 16
theorem sc_form : FnScope ["sheet", "first"] ["sheet"] (defScope s_form) := ⟨rfl, rfl, rfl, by decide +kernel, rfl, by decide +kernel, by decide +kernel⟩
abbrev s_check_word : Stmt := topS 19
theorem sc_check_word : FnScope ["word", "letter"] ["word"] (defScope s_check_word) := ⟨rfl, rfl, rfl, by decide +kernel, rfl, by decide +kernel, by decide +kernel⟩
abbrev s_back_row : Stmt := topS 10
theorem sc_back_row : FnScope ["row", "told", "at", "square"] ["row"] (defScope s_back_row) := ⟨rfl, rfl, rfl, by decide +kernel, rfl, by decide +kernel, by decide +kernel⟩
abbrev s_sheared : Stmt := topS 21
theorem sc_sheared : FnScope ["sheet", "left", "right", "up", "square"] ["sheet"] (defScope s_sheared) := ⟨rfl, rfl, rfl, by decide +kernel, rfl, by decide +kernel, by decide +kernel⟩
abbrev s_turned : Stmt := topS 22
theorem sc_turned : FnScope ["sheet", "right", "up"] ["sheet"] (defScope s_turned) := ⟨rfl, rfl, rfl, by decide +kernel, rfl, by decide +kernel, by decide +kernel⟩
abbrev s_moved : Stmt := topS 23
theorem sc_moved : FnScope ["sheet", "word", "letter"] ["sheet", "word"] (defScope s_moved) := ⟨rfl, rfl, rfl, by decide +kernel, rfl, by decide +kernel, by decide +kernel⟩
abbrev s_reached : Stmt := topS 25
theorem sc_reached : FnScope ["sheet", "most", "found", "have", "at", "letter", "here", "word", "there"] ["sheet", "most"] (defScope s_reached) := ⟨rfl, rfl, rfl, by decide +kernel, rfl, by decide +kernel, by decide +kernel⟩
abbrev s_law_refused : Stmt := topS 32
theorem sc_law_refused : FnScope ["_law_sheet", "_law_most", "_law_refused_here", "e"] ["_law_sheet", "_law_most"] (defScope s_law_refused) := ⟨rfl, rfl, rfl, by decide +kernel, rfl, by decide +kernel, by decide +kernel⟩
abbrev s_law : Stmt := topS 33
theorem sc_law : FnScope ["_law_script", "_law_cell_here", "_law_many", "_law_number", "_law_first", "_law_k", "_law_sheet", "_law_one", "_law_due", "_law_prime", "_law_found", "_law_there", "_law_word", "_law_right", "_law_up"] ["_law_script"] (defScope s_law) := ⟨rfl, rfl, rfl, by decide +kernel, rfl, by decide +kernel, by decide +kernel⟩
structure Ad where
  f_law_cell : Addr
  d_law_cell : FuncData
  f_law_free : Addr
  d_law_free : FuncData
  f_law_row : Addr
  d_law_row : FuncData
  f_law_back : Addr
  d_law_back : FuncData
  f_law_moved : Addr
  d_law_moved : FuncData
  f_size : Addr
  d_size : FuncData
  f_renumbered : Addr
  d_renumbered : FuncData
  f_is_square : Addr
  d_is_square : FuncData
  f_check_square : Addr
  d_check_square : FuncData
  f_met_from : Addr
  d_met_from : FuncData
  f_numbering : Addr
  d_numbering : FuncData
  f_form : Addr
  d_form : FuncData
  f_check_word : Addr
  d_check_word : FuncData
  f_back_row : Addr
  d_back_row : FuncData
  f_sheared : Addr
  d_sheared : FuncData
  f_turned : Addr
  d_turned : FuncData
  f_moved : Addr
  d_moved : FuncData
  f_reached : Addr
  d_reached : FuncData
  f_law_refused : Addr
  d_law_refused : FuncData
  f_law : Addr
  d_law : FuncData
structure Tx (K : PySem.W.Frag) (mg : Str → Option Value) (a : Ad) : Prop where
  F_law_cell : Fun K "_law_cell" "_law_cell" s_law_cell a.f_law_cell a.d_law_cell
  B_law_cell : Binds K a.d_law_cell ["_law_script", "_law_k"] []
  G_law_cell : mg "_law_cell" = some (.ref a.f_law_cell)
  F_law_free : Fun K "_law_free" "_law_free" s_law_free a.f_law_free a.d_law_free
  B_law_free : Binds K a.d_law_free ["_law_script"] []
  G_law_free : mg "_law_free" = some (.ref a.f_law_free)
  F_law_row : Fun K "_law_row" "_law_row" s_law_row a.f_law_row a.d_law_row
  B_law_row : Binds K a.d_law_row ["_law_script", "_law_at", "_law_many"] []
  G_law_row : mg "_law_row" = some (.ref a.f_law_row)
  F_law_back : Fun K "_law_back" "_law_back" s_law_back a.f_law_back a.d_law_back
  B_law_back : Binds K a.d_law_back ["_law_row_here"] []
  G_law_back : mg "_law_back" = some (.ref a.f_law_back)
  F_law_moved : Fun K "_law_moved" "_law_moved" s_law_moved a.f_law_moved a.d_law_moved
  B_law_moved : Binds K a.d_law_moved ["_law_sheet", "_law_letter"] []
  G_law_moved : mg "_law_moved" = some (.ref a.f_law_moved)
  F_size : Fun K "size" "size" s_size a.f_size a.d_size
  B_size : Binds K a.d_size ["sheet"] []
  G_size : mg "size" = some (.ref a.f_size)
  F_renumbered : Fun K "renumbered" "renumbered" s_renumbered a.f_renumbered a.d_renumbered
  B_renumbered : Binds K a.d_renumbered ["sheet", "f"] []
  G_renumbered : mg "renumbered" = some (.ref a.f_renumbered)
  F_is_square : Fun K "is_square" "is_square" s_is_square a.f_is_square a.d_is_square
  B_is_square : Binds K a.d_is_square ["square", "many"] []
  G_is_square : mg "is_square" = some (.ref a.f_is_square)
  F_check_square : Fun K "check_square" "check_square" s_check_square a.f_check_square a.d_check_square
  B_check_square : Binds K a.d_check_square ["sheet", "square"] []
  G_check_square : mg "check_square" = some (.ref a.f_check_square)
  F_met_from : Fun K "met_from" "met_from" s_met_from a.f_met_from a.d_met_from
  B_met_from : Binds K a.d_met_from ["right", "up", "first"] []
  G_met_from : mg "met_from" = some (.ref a.f_met_from)
  F_numbering : Fun K "numbering" "numbering" s_numbering a.f_numbering a.d_numbering
  B_numbering : Binds K a.d_numbering ["sheet", "first"] []
  G_numbering : mg "numbering" = some (.ref a.f_numbering)
  F_form : Fun K "form" "form" s_form a.f_form a.d_form
  B_form : Binds K a.d_form ["sheet"] []
  G_form : mg "form" = some (.ref a.f_form)
  F_check_word : Fun K "check_word" "check_word" s_check_word a.f_check_word a.d_check_word
  B_check_word : Binds K a.d_check_word ["word"] []
  G_check_word : mg "check_word" = some (.ref a.f_check_word)
  F_back_row : Fun K "back_row" "back_row" s_back_row a.f_back_row a.d_back_row
  B_back_row : Binds K a.d_back_row ["row"] []
  G_back_row : mg "back_row" = some (.ref a.f_back_row)
  F_sheared : Fun K "sheared" "sheared" s_sheared a.f_sheared a.d_sheared
  B_sheared : Binds K a.d_sheared ["sheet"] []
  G_sheared : mg "sheared" = some (.ref a.f_sheared)
  F_turned : Fun K "turned" "turned" s_turned a.f_turned a.d_turned
  B_turned : Binds K a.d_turned ["sheet"] []
  G_turned : mg "turned" = some (.ref a.f_turned)
  F_moved : Fun K "moved" "moved" s_moved a.f_moved a.d_moved
  B_moved : Binds K a.d_moved ["sheet", "word"] []
  G_moved : mg "moved" = some (.ref a.f_moved)
  F_reached : Fun K "reached" "reached" s_reached a.f_reached a.d_reached
  B_reached : Binds K a.d_reached ["sheet", "most"] []
  G_reached : mg "reached" = some (.ref a.f_reached)
  F_law_refused : Fun K "_law_refused" "_law_refused" s_law_refused a.f_law_refused a.d_law_refused
  B_law_refused : Binds K a.d_law_refused ["_law_sheet", "_law_most"] []
  G_law_refused : mg "_law_refused" = some (.ref a.f_law_refused)
  F_law : Fun K "law" "law" s_law a.f_law a.d_law
  z_len : mg "len" = none
  z_list : mg "list" = none
  z_range : mg "range" = none
  z_tuple : mg "tuple" = none
  z_sorted : mg "sorted" = none
  z_isinstance : mg "isinstance" = none
  z_int : mg "int" = none
  z_bool : mg "bool" = none
  z_enumerate : mg "enumerate" = none
  z_min : mg "min" = none
  z_ValueError : mg "ValueError" = none
  gv_MOST_LETTERS : ∃ t, mg "MOST_LETTERS" = some (.int (1000) t)
  gx_SheetError : mg "SheetError" = some (.ref (cmOf mg "SheetError"))
  sB_TooMany : PySem.W.subIn K (.ref (cmOf mg "TooMany")) (.type "BaseException") = some true
  hd_TooMany : PySem.W.hasDictIn K (cmOf mg "TooMany") = true
  ty_TooMany : PySem.W.typeIn K (.ref (cmOf mg "TooMany")) = some (.type "type")
  su_TooMany_TooMany : PySem.W.subIn K (.ref (cmOf mg "TooMany")) (.ref (cmOf mg "TooMany")) = some true
  su_NoWord_TooMany : PySem.W.subIn K (.ref (cmOf mg "NoWord")) (.ref (cmOf mg "TooMany")) = some false
  su_NoSquare_TooMany : PySem.W.subIn K (.ref (cmOf mg "NoSquare")) (.ref (cmOf mg "TooMany")) = some false
  su_NoRenumbering_TooMany : PySem.W.subIn K (.ref (cmOf mg "NoRenumbering")) (.ref (cmOf mg "TooMany")) = some false
  hd_SheetError : PySem.W.hasDictIn K (cmOf mg "SheetError") = true
  ty_SheetError : PySem.W.typeIn K (.ref (cmOf mg "SheetError")) = some (.type "type")
  su_TooMany_SheetError : PySem.W.subIn K (.ref (cmOf mg "TooMany")) (.ref (cmOf mg "SheetError")) = some true
  su_SheetError_SheetError : PySem.W.subIn K (.ref (cmOf mg "SheetError")) (.ref (cmOf mg "SheetError")) = some true
  e_TooMany : ExcC K (cmOf mg "TooMany")
  su_TooMany_ValueError : PySem.W.subIn K (.ref (cmOf mg "TooMany")) (.type "ValueError") = some true
  gx_NoRenumbering : mg "NoRenumbering" = some (.ref (cmOf mg "NoRenumbering"))
  x_NoRenumbering : PySem.W.excIn K (cmOf mg "NoRenumbering") [.type "ValueError", .type "Exception", .type "BaseException", .type "object"] "ValueError.__new__" = true
  kx_NoRenumbering : PySem.W.keepIn K (.ref (cmOf mg "NoRenumbering")) = true
  bx_NoRenumbering : PySem.W.subIn K (.ref (cmOf mg "NoRenumbering")) (.type "BaseException") = some true
  tx_NoRenumbering : PySem.W.typeIn K (.ref (cmOf mg "NoRenumbering")) = some (.type "type")
  gx_NoSquare : mg "NoSquare" = some (.ref (cmOf mg "NoSquare"))
  x_NoSquare : PySem.W.excIn K (cmOf mg "NoSquare") [.type "ValueError", .type "Exception", .type "BaseException", .type "object"] "ValueError.__new__" = true
  kx_NoSquare : PySem.W.keepIn K (.ref (cmOf mg "NoSquare")) = true
  bx_NoSquare : PySem.W.subIn K (.ref (cmOf mg "NoSquare")) (.type "BaseException") = some true
  tx_NoSquare : PySem.W.typeIn K (.ref (cmOf mg "NoSquare")) = some (.type "type")
  gx_NoWord : mg "NoWord" = some (.ref (cmOf mg "NoWord"))
  x_NoWord : PySem.W.excIn K (cmOf mg "NoWord") [.type "ValueError", .type "Exception", .type "BaseException", .type "object"] "ValueError.__new__" = true
  kx_NoWord : PySem.W.keepIn K (.ref (cmOf mg "NoWord")) = true
  bx_NoWord : PySem.W.subIn K (.ref (cmOf mg "NoWord")) (.type "BaseException") = some true
  tx_NoWord : PySem.W.typeIn K (.ref (cmOf mg "NoWord")) = some (.type "type")
  gx_TooMany : mg "TooMany" = some (.ref (cmOf mg "TooMany"))
  x_TooMany : PySem.W.excIn K (cmOf mg "TooMany") [.type "ValueError", .type "Exception", .type "BaseException", .type "object"] "ValueError.__new__" = true
  kx_TooMany : PySem.W.keepIn K (.ref (cmOf mg "TooMany")) = true
  bx_TooMany : PySem.W.subIn K (.ref (cmOf mg "TooMany")) (.type "BaseException") = some true
  tx_TooMany : PySem.W.typeIn K (.ref (cmOf mg "TooMany")) = some (.type "type")
section
variable {P : Program} {w : World} {K : PySem.W.Frag} {mg : Str → Option Value} {base : Heap} {ad : Ad}
theorem ok_law_cell (T : Tx K mg ad) : FnOk P w K mg base (L2.CX P w) 1 ad.f_law_cell ad.d_law_cell ["_law_script", "_law_k"] (fsp K (cmOf mg) 2 f_law_cell) := by
  refine fn_ok T.F_law_cell sc_law_cell (by decide) fun cdv A outer s H E hr => ?_
  have tk := tkOf (cm := cmOf mg) (X := bodyCx P w K mg base ["_law_script", "_law_k"] "_law_cell" s_law_cell ad.f_law_cell cdv A outer s H E) (takes_of rfl rfl rfl rfl)
  have hpo : PassesOwn (model P w) (bodyCx P w K mg base ["_law_script", "_law_k"] "_law_cell" s_law_cell ad.f_law_cell cdv A outer s H E).A (bodyCx P w K mg base ["_law_script", "_law_k"] "_law_cell" s_law_cell ad.f_law_cell cdv A outer s H E).env (bodyCx P w K mg base ["_law_script", "_law_k"] "_law_cell" s_law_cell ad.f_law_cell cdv A outer s H E).xe := passes_of rfl
  exact (xsscons (xifs (xtlt  (xv 1) (xlen (by rfl) T.z_len (xv 0))) (xssone (xret (xix (hu_of hr) (xv 0) (xv 1))))
  xssnil)
  (xsscons (xifs (xteq hr.units (xlen (by rfl) T.z_len (xv 0)) xint) (xssone (xret xint))
  xssnil)
  (xssone (xret (xmod (xadd (xmul (xmod (xix (hu_of hr) (xv 0) (xmod (xv 1) (xlen (by rfl) T.z_len (xv 0)))) xint) xint) (xmul (xmul (xv 1) (xv 1)) xint)) xint)))))
theorem ok_law_free (T : Tx K mg ad) : FnOk P w K mg base (L2.CX P w) 1 ad.f_law_free ad.d_law_free ["_law_script"] (fsp K (cmOf mg) 1 f_law_free) := by
  refine fn_ok T.F_law_free sc_law_free (by decide) fun cdv A outer s H E hr => ?_
  have tk := tkOf (cm := cmOf mg) (X := bodyCx P w K mg base ["_law_script"] "_law_free" s_law_free ad.f_law_free cdv A outer s H E) (takes_of rfl rfl rfl rfl)
  have hpo : PassesOwn (model P w) (bodyCx P w K mg base ["_law_script"] "_law_free" s_law_free ad.f_law_free cdv A outer s H E).A (bodyCx P w K mg base ["_law_script"] "_law_free" s_law_free ad.f_law_free cdv A outer s H E).env (bodyCx P w K mg base ["_law_script"] "_law_free" s_law_free ad.f_law_free cdv A outer s H E).xe := passes_of rfl
  exact (xssone (xret (xand (xgt  (xlen (by rfl) T.z_len (xv 0)) xint) (xone (xeq hr.units (xmod (xix (hu_of hr) (xv 0) xint) xint) xint)))))
theorem ok_law_row (T : Tx K mg ad) : FnOk P w K mg base (L2.CX P w) 2 ad.f_law_row ad.d_law_row ["_law_script", "_law_at", "_law_many"] (fsp K (cmOf mg) 3 f_law_row_3) := by
  refine fn_ok T.F_law_row sc_law_row (by decide) fun cdv A outer s H E hr => ?_
  have tk := tkOf (cm := cmOf mg) (X := bodyCx P w K mg base ["_law_script", "_law_at", "_law_many", "_law_left", "_law_row_here", "_law_cell_here", "_law_k"] "_law_row" s_law_row ad.f_law_row cdv A outer s H E) (takes_of rfl rfl rfl rfl)
  have hpo : PassesOwn (model P w) (bodyCx P w K mg base ["_law_script", "_law_at", "_law_many", "_law_left", "_law_row_here", "_law_cell_here", "_law_k"] "_law_row" s_law_row ad.f_law_row cdv A outer s H E).A (bodyCx P w K mg base ["_law_script", "_law_at", "_law_many", "_law_left", "_law_row_here", "_law_cell_here", "_law_k"] "_law_row" s_law_row ad.f_law_row cdv A outer s H E).env (bodyCx P w K mg base ["_law_script", "_law_at", "_law_many", "_law_left", "_law_row_here", "_law_cell_here", "_law_k"] "_law_row" s_law_row ad.f_law_row cdv A outer s H E).xe := passes_of rfl
  exact (xsscons (xset (i := 3) sc_law_row.nd (xlrg1 rfl (by rfl) T.z_list (by rfl) T.z_range (xv 2)))
  (xsscons (xset (i := 4) sc_law_row.nd (xlst xanil))
  (xsscons (xset (i := 5) sc_law_row.nd (xmod (xcall tk (ok_law_cell T) (hr.mono (by decide)) (by rfl) T.G_law_cell T.F_law_cell.kp T.B_law_cell rfl (xacons (xv 0) (xacons (xv 1) xanil)) (al_cons (al_cons al_nil))) (xpow xint xint)))
  (xsscons (xfor hpo rfl (xrg1 (by rfl) T.z_range (xv 2)) (xgn 6 sc_law_row.nd)
  (xsscons (xifs (xtnot (xtval (xcall tk (ok_law_free T) (hr.mono (by decide)) (by rfl) T.G_law_free T.F_law_free.kp T.B_law_free rfl (xacons (xv 0) xanil) (al_cons al_nil)))) (xssone (xset (i := 5) sc_law_row.nd (xcall tk (ok_law_cell T) (hr.mono (by decide)) (by rfl) T.G_law_cell T.F_law_cell.kp T.B_law_cell rfl (xacons (xv 0) (xacons (xadd (xv 1) (xv 6)) xanil)) (al_cons (al_cons al_nil)))))
  xssnil)
  (xsscons (xappM 4 (pe_bm PySem.F.plainAttrs_list PySem.F.slot_list_append PySem.F.type_list_append mt_append (pv 4) (pa_cons (xpopAt 3 (pe_bm PySem.F.plainAttrs_list PySem.F.slot_list_pop PySem.F.type_list_pop mt_popAt (pv 3) (pa_cons (xmod (xv 5) (xlen (by rfl) T.z_len (xv 3))) pa_nil))) pa_nil)))
  (xssone (xset (i := 5) sc_law_row.nd (xdiv (xv 5) (xadd (xlen (by rfl) T.z_len (xv 3)) xint)))))))
  (xssone (xretv 4))))))
theorem ok_law_back (T : Tx K mg ad) : FnOk P w K mg base (L2.CX P w) 1 ad.f_law_back ad.d_law_back ["_law_row_here"] (fsp K (cmOf mg) 1 f_law_back) := by
  refine fn_ok T.F_law_back sc_law_back (by decide) fun cdv A outer s H E hr => ?_
  have tk := tkOf (cm := cmOf mg) (X := bodyCx P w K mg base ["_law_row_here", "_law_told", "_law_k"] "_law_back" s_law_back ad.f_law_back cdv A outer s H E) (takes_of rfl rfl rfl rfl)
  have hpo : PassesOwn (model P w) (bodyCx P w K mg base ["_law_row_here", "_law_told", "_law_k"] "_law_back" s_law_back ad.f_law_back cdv A outer s H E).A (bodyCx P w K mg base ["_law_row_here", "_law_told", "_law_k"] "_law_back" s_law_back ad.f_law_back cdv A outer s H E).env (bodyCx P w K mg base ["_law_row_here", "_law_told", "_law_k"] "_law_back" s_law_back ad.f_law_back cdv A outer s H E).xe := passes_of rfl
  exact (xsscons (xsetLc (own := [("_law_k", 2)]) (i := 1) rfl sc_law_back.nd asgn_ne (xiC (xv 0)) (blkOk_by (own := [("_law_k", 2)]) (N := ["_law_row_here", "_law_told", "_law_k"]) (sc := defScope s_law_back) (by decide +kernel)) (fun _ _ _ _ _ => (xgn 2 sc_law_back.nd)) (fun _ _ _ _ _ => xyes) (fun _ _ _ _ _ => xint) (sw_true rfl rfl rfl (by decide +kernel)))
  (xsscons (xfor hpo rfl (xrg1 (by rfl) T.z_range (xlen (by rfl) T.z_len (xv 0))) (xgn 2 sc_law_back.nd)
  (xssone (xsetIt 1 (hu_of hr) (xv 2) (xix (hu_of hr) (xv 0) (xv 2)) (pv 1))))
  (xssone (xretv 1))))
theorem ok_law_moved (T : Tx K mg ad) : FnOk P w K mg base (L2.CX P w) 2 ad.f_law_moved ad.d_law_moved ["_law_sheet", "_law_letter"] (fsp K (cmOf mg) 2 f_law_moved_6) := by
  refine fn_ok T.F_law_moved sc_law_moved (by decide) fun cdv A outer s H E hr => ?_
  have tk := tkOf (cm := cmOf mg) (X := bodyCx P w K mg base ["_law_sheet", "_law_letter", "_law_first", "_law_second", "_law_left", "_law_k"] "_law_moved" s_law_moved ad.f_law_moved cdv A outer s H E) (takes_of rfl rfl rfl rfl)
  have hpo : PassesOwn (model P w) (bodyCx P w K mg base ["_law_sheet", "_law_letter", "_law_first", "_law_second", "_law_left", "_law_k"] "_law_moved" s_law_moved ad.f_law_moved cdv A outer s H E).A (bodyCx P w K mg base ["_law_sheet", "_law_letter", "_law_first", "_law_second", "_law_left", "_law_k"] "_law_moved" s_law_moved ad.f_law_moved cdv A outer s H E).env (bodyCx P w K mg base ["_law_sheet", "_law_letter", "_law_first", "_law_second", "_law_left", "_law_k"] "_law_moved" s_law_moved ad.f_law_moved cdv A outer s H E).xe := passes_of rfl
  exact (xsscons (xasg (unpT_ne (by simp only [List.forall_mem_cons]; exact ⟨asgn_ne, asgn_ne, by simp⟩)) (xv 0) (xgtup rfl (xgcons (xgn 2 sc_law_moved.nd) (xgcons (xgn 3 sc_law_moved.nd) xgnil))))
  (xsscons (xifs (xteq hr.units (xv 1) xstr) (xsscons (xset (i := 4) sc_law_moved.nd (xcall tk (ok_law_back T) (hr.mono (by decide)) (by rfl) T.G_law_back T.F_law_back.kp T.B_law_back rfl (xacons (xv 2) xanil) (al_cons al_nil)))
  (xfrz 4 (xssone (xret (xtup (xacons (xv 2) (xacons (xtupleOf (by rfl) T.z_tuple (xlc (own := [("_law_k", 5)]) rfl sc_law_moved.nd asgn_ne (xrg1 (by rfl) T.z_range (xlen (by rfl) T.z_len (xv 4))) (blkOk_by (own := [("_law_k", 5)]) (N := ["_law_sheet", "_law_letter", "_law_first", "_law_second", "_law_left", "_law_k"]) (sc := defScope s_law_moved) (by decide +kernel)) (fun _ _ _ _ _ => (xgn 5 sc_law_moved.nd)) (fun _ _ _ _ _ => xyes) (fun _ _ _ _ _ => (xix (hu_of hr) (xv 3) (xix (hu_of hr) (xv 4) (xv 5)))))) xanil)))))))
  xssnil)
  (xssone (xret (xtup (xacons (xtupleOf (by rfl) T.z_tuple (xcall tk (ok_law_back T) (hr.mono (by decide)) (by rfl) T.G_law_back T.F_law_back.kp T.B_law_back rfl (xacons (xv 3) xanil) (al_cons al_nil))) (xacons (xv 2) xanil)))))))
theorem ok_size (T : Tx K mg ad) : FnOk P w K mg base (L2.CX P w) 1 ad.f_size ad.d_size ["sheet"] (fsp K (cmOf mg) 1 f_size) := by
  refine fn_ok T.F_size sc_size (by decide) fun cdv A outer s H E hr => ?_
  have tk := tkOf (cm := cmOf mg) (X := bodyCx P w K mg base ["sheet"] "size" s_size ad.f_size cdv A outer s H E) (takes_of rfl rfl rfl rfl)
  have hpo : PassesOwn (model P w) (bodyCx P w K mg base ["sheet"] "size" s_size ad.f_size cdv A outer s H E).A (bodyCx P w K mg base ["sheet"] "size" s_size ad.f_size cdv A outer s H E).env (bodyCx P w K mg base ["sheet"] "size" s_size ad.f_size cdv A outer s H E).xe := passes_of rfl
  exact (xssone (xret (xlen (by rfl) T.z_len (xix (hu_of hr) (xv 0) xint))))
theorem ok_renumbered (T : Tx K mg ad) : FnOk P w K mg base (L2.CX P w) 2 ad.f_renumbered ad.d_renumbered ["sheet", "f"] (fsp K (cmOf mg) 2 f_renumbered) := by
  refine fn_ok T.F_renumbered sc_renumbered (by decide) fun cdv A outer s H E hr => ?_
  have tk := tkOf (cm := cmOf mg) (X := bodyCx P w K mg base ["sheet", "f", "many", "told", "row", "anew", "square"] "renumbered" s_renumbered ad.f_renumbered cdv A outer s H E) (takes_of rfl rfl rfl rfl)
  have hpo : PassesOwn (model P w) (bodyCx P w K mg base ["sheet", "f", "many", "told", "row", "anew", "square"] "renumbered" s_renumbered ad.f_renumbered cdv A outer s H E).A (bodyCx P w K mg base ["sheet", "f", "many", "told", "row", "anew", "square"] "renumbered" s_renumbered ad.f_renumbered cdv A outer s H E).env (bodyCx P w K mg base ["sheet", "f", "many", "told", "row", "anew", "square"] "renumbered" s_renumbered ad.f_renumbered cdv A outer s H E).xe := passes_of rfl
  exact (xsscons (xset (i := 2) sc_renumbered.nd (xcall tk (ok_size T) (hr.mono (by decide)) (by rfl) T.G_size T.F_size.kp T.B_size rfl (xacons (xv 0) xanil) (al_cons al_nil)))
  (xsscons (xifs (xtne hr.units (xsorted (by rfl) T.z_sorted (xv 1)) (xlrg1 rfl (by rfl) T.z_list (by rfl) T.z_range (xv 2))) (xssone (xraise tk rfl PySem.F.excBase_ValueError T.x_NoRenumbering T.gx_NoRenumbering T.kx_NoRenumbering (raises_own T.bx_NoRenumbering T.tx_NoRenumbering) (by rfl)))
  xssnil)
  (xsscons (xset (i := 3) sc_renumbered.nd (xlst xanil))
  (xsscons (xfor hpo rfl (xiS (xv 0)) (xgn 4 sc_renumbered.nd)
  (xsscons (xsetLc (own := [("square", 6)]) (i := 5) rfl sc_renumbered.nd asgn_ne (xrg1 (by rfl) T.z_range (xv 2)) (blkOk_by (own := [("square", 6)]) (N := ["sheet", "f", "many", "told", "row", "anew", "square"]) (sc := defScope s_renumbered) (by decide +kernel)) (fun _ _ _ _ _ => (xgn 6 sc_renumbered.nd)) (fun _ _ _ _ _ => xyes) (fun _ _ _ _ _ => xint) (sw_true rfl rfl rfl (by decide +kernel)))
  (xsscons (xfor hpo rfl (xrg1 (by rfl) T.z_range (xv 2)) (xgn 6 sc_renumbered.nd)
  (xssone (xsetIt 5 (hu_of hr) (xix (hu_of hr) (xv 1) (xix (hu_of hr) (xv 4) (xv 6))) (xix (hu_of hr) (xv 1) (xv 6)) (pv 5))))
  (xssone (xapp 3 (pe_bm PySem.F.plainAttrs_list PySem.F.slot_list_append PySem.F.type_list_append mt_append (pv 3) (pa_cons (xtupleOf (by rfl) T.z_tuple (xv 5)) pa_nil)))))))
  (xfrz 3 (xssone (xret (xtup (xacons (xix (hu_of hr) (xv 3) xint) (xacons (xix (hu_of hr) (xv 3) xint) xanil))))))))))
theorem ok_is_square (T : Tx K mg ad) : FnOk P w K mg base (L2.CX P w) 1 ad.f_is_square ad.d_is_square ["square", "many"] (fsp K (cmOf mg) 2 f_is_square) := by
  refine fn_ok T.F_is_square sc_is_square (by decide) fun cdv A outer s H E hr => ?_
  have tk := tkOf (cm := cmOf mg) (X := bodyCx P w K mg base ["square", "many"] "is_square" s_is_square ad.f_is_square cdv A outer s H E) (takes_of rfl rfl rfl rfl)
  have hpo : PassesOwn (model P w) (bodyCx P w K mg base ["square", "many"] "is_square" s_is_square ad.f_is_square cdv A outer s H E).A (bodyCx P w K mg base ["square", "many"] "is_square" s_is_square ad.f_is_square cdv A outer s H E).env (bodyCx P w K mg base ["square", "many"] "is_square" s_is_square ad.f_is_square cdv A outer s H E).xe := passes_of rfl
  exact (xsscons (xifs (PW.pt (xwor (xtnot (xtval (xisi (x := "int") (by rfl) T.z_isinstance (xv 0) (by rfl) T.z_int (by decide +kernel)))) (xwor1 (xtval (xisi (x := "bool") (by rfl) T.z_isinstance (xv 0) (by rfl) T.z_bool (by decide +kernel)))))) (xssone (xret xbl))
  xssnil)
  (xssone (xret (xchain op_le op_lt icmp_ok icmp_ok xint (xv 0) (xv 1)))))
theorem ok_check_square (T : Tx K mg ad) : FnOk P w K mg base (L2.CX P w) 2 ad.f_check_square ad.d_check_square ["sheet", "square"] (fsp K (cmOf mg) 2 f_check_square) := by
  refine fn_ok T.F_check_square sc_check_square (by decide) fun cdv A outer s H E hr => ?_
  have tk := tkOf (cm := cmOf mg) (X := bodyCx P w K mg base ["sheet", "square"] "check_square" s_check_square ad.f_check_square cdv A outer s H E) (takes_of rfl rfl rfl rfl)
  have hpo : PassesOwn (model P w) (bodyCx P w K mg base ["sheet", "square"] "check_square" s_check_square ad.f_check_square cdv A outer s H E).A (bodyCx P w K mg base ["sheet", "square"] "check_square" s_check_square ad.f_check_square cdv A outer s H E).env (bodyCx P w K mg base ["sheet", "square"] "check_square" s_check_square ad.f_check_square cdv A outer s H E).xe := passes_of rfl
  exact (xssone (xifs (xtnot (xtval (xcall tk (ok_is_square T) (hr.mono (by decide)) (by rfl) T.G_is_square T.F_is_square.kp T.B_is_square rfl (xacons (xv 1) (xacons (xcall tk (ok_size T) (hr.mono (by decide)) (by rfl) T.G_size T.F_size.kp T.B_size rfl (xacons (xv 0) xanil) (al_cons al_nil)) xanil)) (al_cons (al_cons al_nil))))) (xssone (xraise tk rfl PySem.F.excBase_ValueError T.x_NoSquare T.gx_NoSquare T.kx_NoSquare (raises_own T.bx_NoSquare T.tx_NoSquare) (by rfl)))
  xssnil))
theorem ok_met_from (T : Tx K mg ad) : FnOk P w K mg base (L2.CX P w) 1 ad.f_met_from ad.d_met_from ["right", "up", "first"] (fsp K (cmOf mg) 3 f_met_from) := by
  refine fn_ok T.F_met_from sc_met_from (by decide) fun cdv A outer s H E hr => ?_
  have tk := tkOf (cm := cmOf mg) (X := bodyCx P w K mg base ["right", "up", "first", "met", "at", "square"] "met_from" s_met_from ad.f_met_from cdv A outer s H E) (takes_of rfl rfl rfl rfl)
  have hpo : PassesOwn (model P w) (bodyCx P w K mg base ["right", "up", "first", "met", "at", "square"] "met_from" s_met_from ad.f_met_from cdv A outer s H E).A (bodyCx P w K mg base ["right", "up", "first", "met", "at", "square"] "met_from" s_met_from ad.f_met_from cdv A outer s H E).env (bodyCx P w K mg base ["right", "up", "first", "met", "at", "square"] "met_from" s_met_from ad.f_met_from cdv A outer s H E).xe := passes_of rfl
  exact (xsscons (xset (i := 3) sc_met_from.nd (xlst (xacons (xv 2) xanil)))
  (xsscons (xset (i := 4) sc_met_from.nd xint)
  (xsscons (xwhile hpo (xtlt  (xv 4) (xlen (by rfl) T.z_len (xv 3))) (xsscons (xfor hpo rfl (xiS (xtup (xacons (xix (hu_of hr) (xv 0) (xix (hu_of hr) (xv 3) (xv 4))) (xacons (xix (hu_of hr) (xv 1) (xix (hu_of hr) (xv 3) (xv 4))) xanil)))) (xgn 5 sc_met_from.nd)
  (xssone (xifs (xtnotin (hu_of hr) (xv 5) (xv 3)) (xssone (xapp 3 (pe_bm PySem.F.plainAttrs_list PySem.F.slot_list_append PySem.F.type_list_append mt_append (pv 3) (pa_cons (xv 5) pa_nil))))
  xssnil)))
  (xssone (xset (i := 4) sc_met_from.nd (xadd (xv 4) xint)))))
  (xssone (xretv 3)))))
theorem ok_numbering (T : Tx K mg ad) : FnOk P w K mg base (L2.CX P w) 3 ad.f_numbering ad.d_numbering ["sheet", "first"] (fsp K (cmOf mg) 2 f_numbering) := by
  refine fn_ok T.F_numbering sc_numbering (by decide) fun cdv A outer s H E hr => ?_
  have tk := tkOf (cm := cmOf mg) (X := bodyCx P w K mg base ["sheet", "first", "met", "numbers", "number", "square"] "numbering" s_numbering ad.f_numbering cdv A outer s H E) (takes_of rfl rfl rfl rfl)
  have hpo : PassesOwn (model P w) (bodyCx P w K mg base ["sheet", "first", "met", "numbers", "number", "square"] "numbering" s_numbering ad.f_numbering cdv A outer s H E).A (bodyCx P w K mg base ["sheet", "first", "met", "numbers", "number", "square"] "numbering" s_numbering ad.f_numbering cdv A outer s H E).env (bodyCx P w K mg base ["sheet", "first", "met", "numbers", "number", "square"] "numbering" s_numbering ad.f_numbering cdv A outer s H E).xe := passes_of rfl
  exact (xsscons (xexpr (xcall tk (ok_check_square T) (hr.mono (by decide)) (by rfl) T.G_check_square T.F_check_square.kp T.B_check_square rfl (xacons (xv 0) (xacons (xv 1) xanil)) (al_cons (al_cons al_nil))))
  (xsscons (xset (i := 2) sc_numbering.nd (xcall tk (ok_met_from T) (hr.mono (by decide)) (by rfl) T.G_met_from T.F_met_from.kp T.B_met_from rfl (xacons (xix (hu_of hr) (xv 0) xint) (xacons (xix (hu_of hr) (xv 0) xint) (xacons (xv 1) xanil))) (al_cons (al_cons (al_cons al_nil)))))
  (xsscons (xsetLc (own := [("square", 5)]) (i := 3) rfl sc_numbering.nd asgn_ne (xiC (xv 2)) (blkOk_by (own := [("square", 5)]) (N := ["sheet", "first", "met", "numbers", "number", "square"]) (sc := defScope s_numbering) (by decide +kernel)) (fun _ _ _ _ _ => (xgn 5 sc_numbering.nd)) (fun _ _ _ _ _ => xyes) (fun _ _ _ _ _ => xint) (sw_true rfl rfl rfl (by decide +kernel)))
  (xfrz 2 (xsscons (xfor hpo rfl (xenS (by rfl) T.z_enumerate (xv 2)) (xgtup rfl (xgcons (xgn 4 sc_numbering.nd) (xgcons (xgn 5 sc_numbering.nd) xgnil)))
  (xssone (xsetIt 3 (hu_of hr) (xv 4) (xv 5) (pv 3))))
  (xssone (xretv 3)))))))
theorem ok_form (T : Tx K mg ad) : FnOk P w K mg base (L2.CX P w) 4 ad.f_form ad.d_form ["sheet"] (fsp K (cmOf mg) 1 f_form_2) := by
  refine fn_ok T.F_form sc_form (by decide) fun cdv A outer s H E hr => ?_
  have tk := tkOf (cm := cmOf mg) (X := bodyCx P w K mg base ["sheet", "first"] "form" s_form ad.f_form cdv A outer s H E) (takes_of rfl rfl rfl rfl)
  have hpo : PassesOwn (model P w) (bodyCx P w K mg base ["sheet", "first"] "form" s_form ad.f_form cdv A outer s H E).A (bodyCx P w K mg base ["sheet", "first"] "form" s_form ad.f_form cdv A outer s H E).env (bodyCx P w K mg base ["sheet", "first"] "form" s_form ad.f_form cdv A outer s H E).xe := passes_of rfl
  exact (xssone (xret (xminA rfl (hu2_of hr) (by rfl) T.z_min (xlc (own := [("first", 1)]) rfl sc_form.nd asgn_ne (xrg1 (by rfl) T.z_range (xcall tk (ok_size T) (hr.mono (by decide)) (by rfl) T.G_size T.F_size.kp T.B_size rfl (xacons (xv 0) xanil) (al_cons al_nil))) (blkOk_by (own := [("first", 1)]) (N := ["sheet", "first"]) (sc := defScope s_form) (by decide +kernel)) (fun _ _ _ _ _ => (xgn 1 sc_form.nd)) (fun _ _ _ _ _ => xyes) (fun _ _ _ _ _ => (xcall tkN (ok_renumbered T) (hr.mono (by decide)) (by rfl) T.G_renumbered T.F_renumbered.kp T.B_renumbered rfl (xacons (xv 0) (xacons (xcall tkN (ok_numbering T) (hr.mono (by decide)) (by rfl) T.G_numbering T.F_numbering.kp T.B_numbering rfl (xacons (xv 0) (xacons (xv 1) xanil)) (al_cons (al_cons al_nil))) xanil)) (al_cons (al_cons al_nil))))))))
theorem ok_check_word (T : Tx K mg ad) : FnOk P w K mg base (L2.CX P w) 1 ad.f_check_word ad.d_check_word ["word"] (fsp K (cmOf mg) 1 f_check_word_2) := by
  obtain ⟨t_MOST_LETTERS, g_MOST_LETTERS⟩ := T.gv_MOST_LETTERS
  refine fn_ok T.F_check_word sc_check_word (by decide) fun cdv A outer s H E hr => ?_
  have tk := tkOf (cm := cmOf mg) (X := bodyCx P w K mg base ["word", "letter"] "check_word" s_check_word ad.f_check_word cdv A outer s H E) (takes_of rfl rfl rfl rfl)
  have hpo : PassesOwn (model P w) (bodyCx P w K mg base ["word", "letter"] "check_word" s_check_word ad.f_check_word cdv A outer s H E).A (bodyCx P w K mg base ["word", "letter"] "check_word" s_check_word ad.f_check_word cdv A outer s H E).env (bodyCx P w K mg base ["word", "letter"] "check_word" s_check_word ad.f_check_word cdv A outer s H E).xe := passes_of rfl
  exact (xsscons (xifs (xtgt  (xlen (by rfl) T.z_len (xv 0)) (xglob (by rfl) g_MOST_LETTERS rfl ⟨_, rfl⟩)) (xssone (xraise tk rfl PySem.F.excBase_ValueError T.x_NoWord T.gx_NoWord T.kx_NoWord (raises_own T.bx_NoWord T.tx_NoWord) (by rfl)))
  xssnil)
  (xssone (xfor hpo rfl (xiT (xv 0)) (xgn 1 sc_check_word.nd)
  (xssone (xifs (xtnotin (hu_of hr) (xv 1) xstr) (xssone (xraise tk rfl PySem.F.excBase_ValueError T.x_NoWord T.gx_NoWord T.kx_NoWord (raises_own T.bx_NoWord T.tx_NoWord) (by rfl)))
  xssnil)))))
theorem ok_back_row (T : Tx K mg ad) : FnOk P w K mg base (L2.CX P w) 1 ad.f_back_row ad.d_back_row ["row"] (fsp K (cmOf mg) 1 f_back_row) := by
  refine fn_ok T.F_back_row sc_back_row (by decide) fun cdv A outer s H E hr => ?_
  have tk := tkOf (cm := cmOf mg) (X := bodyCx P w K mg base ["row", "told", "at", "square"] "back_row" s_back_row ad.f_back_row cdv A outer s H E) (takes_of rfl rfl rfl rfl)
  have hpo : PassesOwn (model P w) (bodyCx P w K mg base ["row", "told", "at", "square"] "back_row" s_back_row ad.f_back_row cdv A outer s H E).A (bodyCx P w K mg base ["row", "told", "at", "square"] "back_row" s_back_row ad.f_back_row cdv A outer s H E).env (bodyCx P w K mg base ["row", "told", "at", "square"] "back_row" s_back_row ad.f_back_row cdv A outer s H E).xe := passes_of rfl
  exact (xsscons (xsetLc (own := [("square", 3)]) (i := 1) rfl sc_back_row.nd asgn_ne (xiC (xv 0)) (blkOk_by (own := [("square", 3)]) (N := ["row", "told", "at", "square"]) (sc := defScope s_back_row) (by decide +kernel)) (fun _ _ _ _ _ => (xgn 3 sc_back_row.nd)) (fun _ _ _ _ _ => xyes) (fun _ _ _ _ _ => xint) (sw_true rfl rfl rfl (by decide +kernel)))
  (xsscons (xfor hpo rfl (xenS (by rfl) T.z_enumerate (xv 0)) (xgtup rfl (xgcons (xgn 2 sc_back_row.nd) (xgcons (xgn 3 sc_back_row.nd) xgnil)))
  (xssone (xsetIt 1 (hu_of hr) (xv 2) (xv 3) (pv 1))))
  (xfrz 1 (xssone (xret (xtupleOf (by rfl) T.z_tuple (xv 1)))))))
theorem ok_sheared (T : Tx K mg ad) : FnOk P w K mg base (L2.CX P w) 2 ad.f_sheared ad.d_sheared ["sheet"] (fsp K (cmOf mg) 1 f_sheared) := by
  refine fn_ok T.F_sheared sc_sheared (by decide) fun cdv A outer s H E hr => ?_
  have tk := tkOf (cm := cmOf mg) (X := bodyCx P w K mg base ["sheet", "left", "right", "up", "square"] "sheared" s_sheared ad.f_sheared cdv A outer s H E) (takes_of rfl rfl rfl rfl)
  have hpo : PassesOwn (model P w) (bodyCx P w K mg base ["sheet", "left", "right", "up", "square"] "sheared" s_sheared ad.f_sheared cdv A outer s H E).A (bodyCx P w K mg base ["sheet", "left", "right", "up", "square"] "sheared" s_sheared ad.f_sheared cdv A outer s H E).env (bodyCx P w K mg base ["sheet", "left", "right", "up", "square"] "sheared" s_sheared ad.f_sheared cdv A outer s H E).xe := passes_of rfl
  exact (xsscons (xasg (unpT_ne (by simp only [List.forall_mem_cons]; exact ⟨asgn_ne, asgn_ne, by simp⟩)) (xv 0) (xgtup rfl (xgcons (xgn 2 sc_sheared.nd) (xgcons (xgn 3 sc_sheared.nd) xgnil))))
  (xsscons (xset (i := 1) sc_sheared.nd (xcall tk (ok_back_row T) (hr.mono (by decide)) (by rfl) T.G_back_row T.F_back_row.kp T.B_back_row rfl (xacons (xv 2) xanil) (al_cons al_nil)))
  (xfrz 1 (xssone (xret (xtup (xacons (xv 2) (xacons (xtupleOf (by rfl) T.z_tuple (xlc (own := [("square", 4)]) rfl sc_sheared.nd asgn_ne (xiC (xv 1)) (blkOk_by (own := [("square", 4)]) (N := ["sheet", "left", "right", "up", "square"]) (sc := defScope s_sheared) (by decide +kernel)) (fun _ _ _ _ _ => (xgn 4 sc_sheared.nd)) (fun _ _ _ _ _ => xyes) (fun _ _ _ _ _ => (xix (hu_of hr) (xv 3) (xv 4))))) xanil))))))))
theorem ok_turned (T : Tx K mg ad) : FnOk P w K mg base (L2.CX P w) 2 ad.f_turned ad.d_turned ["sheet"] (fsp K (cmOf mg) 1 f_turned) := by
  refine fn_ok T.F_turned sc_turned (by decide) fun cdv A outer s H E hr => ?_
  have tk := tkOf (cm := cmOf mg) (X := bodyCx P w K mg base ["sheet", "right", "up"] "turned" s_turned ad.f_turned cdv A outer s H E) (takes_of rfl rfl rfl rfl)
  have hpo : PassesOwn (model P w) (bodyCx P w K mg base ["sheet", "right", "up"] "turned" s_turned ad.f_turned cdv A outer s H E).A (bodyCx P w K mg base ["sheet", "right", "up"] "turned" s_turned ad.f_turned cdv A outer s H E).env (bodyCx P w K mg base ["sheet", "right", "up"] "turned" s_turned ad.f_turned cdv A outer s H E).xe := passes_of rfl
  exact (xsscons (xasg (unpT_ne (by simp only [List.forall_mem_cons]; exact ⟨asgn_ne, asgn_ne, by simp⟩)) (xv 0) (xgtup rfl (xgcons (xgn 1 sc_turned.nd) (xgcons (xgn 2 sc_turned.nd) xgnil))))
  (xssone (xret (xtup (xacons (xcall tk (ok_back_row T) (hr.mono (by decide)) (by rfl) T.G_back_row T.F_back_row.kp T.B_back_row rfl (xacons (xv 2) xanil) (al_cons al_nil)) (xacons (xv 1) xanil))))))
theorem ok_moved (T : Tx K mg ad) : FnOk P w K mg base (L2.CX P w) 3 ad.f_moved ad.d_moved ["sheet", "word"] (fsp K (cmOf mg) 2 f_moved_2) := by
  refine fn_ok T.F_moved sc_moved (by decide) fun cdv A outer s H E hr => ?_
  have tk := tkOf (cm := cmOf mg) (X := bodyCx P w K mg base ["sheet", "word", "letter"] "moved" s_moved ad.f_moved cdv A outer s H E) (takes_of rfl rfl rfl rfl)
  have hpo : PassesOwn (model P w) (bodyCx P w K mg base ["sheet", "word", "letter"] "moved" s_moved ad.f_moved cdv A outer s H E).A (bodyCx P w K mg base ["sheet", "word", "letter"] "moved" s_moved ad.f_moved cdv A outer s H E).env (bodyCx P w K mg base ["sheet", "word", "letter"] "moved" s_moved ad.f_moved cdv A outer s H E).xe := passes_of rfl
  exact (xsscons (xexpr (xcall tk (ok_check_word T) (hr.mono (by decide)) (by rfl) T.G_check_word T.F_check_word.kp T.B_check_word rfl (xacons (xv 1) xanil) (al_cons al_nil)))
  (xsscons (xfor hpo rfl (xiT (xv 1)) (xgn 2 sc_moved.nd)
  (xssone (xifs (xteq hr.units (xv 2) xstr) (xssone (xset (i := 0) sc_moved.nd (xcall tk (ok_sheared T) (hr.mono (by decide)) (by rfl) T.G_sheared T.F_sheared.kp T.B_sheared rfl (xacons (xv 0) xanil) (al_cons al_nil))))
  (xssone (xset (i := 0) sc_moved.nd (xcall tk (ok_turned T) (hr.mono (by decide)) (by rfl) T.G_turned T.F_turned.kp T.B_turned rfl (xacons (xv 0) xanil) (al_cons al_nil)))))))
  (xssone (xretv 0))))
theorem ok_reached (T : Tx K mg ad) : FnOk P w K mg base (L2.CX P w) 5 ad.f_reached ad.d_reached ["sheet", "most"] (fsp K (cmOf mg) 2 f_reached_3) := by
  refine fn_ok T.F_reached sc_reached (by decide) fun cdv A outer s H E hr => ?_
  have tk := tkOf (cm := cmOf mg) (X := bodyCx P w K mg base ["sheet", "most", "found", "have", "at", "letter", "here", "word", "there"] "reached" s_reached ad.f_reached cdv A outer s H E) (takes_of rfl rfl rfl rfl)
  have hpo : PassesOwn (model P w) (bodyCx P w K mg base ["sheet", "most", "found", "have", "at", "letter", "here", "word", "there"] "reached" s_reached ad.f_reached cdv A outer s H E).A (bodyCx P w K mg base ["sheet", "most", "found", "have", "at", "letter", "here", "word", "there"] "reached" s_reached ad.f_reached cdv A outer s H E).env (bodyCx P w K mg base ["sheet", "most", "found", "have", "at", "letter", "here", "word", "there"] "reached" s_reached ad.f_reached cdv A outer s H E).xe := passes_of rfl
  exact (xsscons (xset (i := 2) sc_reached.nd (xlst (xacons (xtup (xacons (xcall tk (ok_form T) (hr.mono (by decide)) (by rfl) T.G_form T.F_form.kp T.B_form rfl (xacons (xv 0) xanil) (al_cons al_nil)) (xacons xstr xanil))) xanil)))
  (xsscons (xset (i := 3) sc_reached.nd (xdispN (binF ixR (binF ixR (varF 2) (cF (.int 0))) (cF (.int 0))) (cF (.bool true)) (hu2_of hr) (pps_cons (xix (hu_of hr) (xix (hu_of hr) (xv 2) xint) xint) xbl pps_nil) (fun z => nomatch z)))
  (xsscons (xset (i := 4) sc_reached.nd xint)
  (xsscons (xwhile hpo (xtlt  (xv 4) (xlen (by rfl) T.z_len (xv 2))) (xsscons (xasg (unpT_ne (by simp only [List.forall_mem_cons]; exact ⟨asgn_ne, asgn_ne, by simp⟩)) (xix (hu_of hr) (xv 2) (xv 4)) (xgtup rfl (xgcons (xgn 6 sc_reached.nd) (xgcons (xgn 7 sc_reached.nd) xgnil))))
  (xsscons (xfor hpo rfl (xiT xstr) (xgn 5 sc_reached.nd)
  (xsscons (xset (i := 8) sc_reached.nd (xcall tk (ok_form T) (hr.mono (by decide)) (by rfl) T.G_form T.F_form.kp T.B_form rfl (xacons (xcall tk (ok_moved T) (hr.mono (by decide)) (by rfl) T.G_moved T.F_moved.kp T.B_moved rfl (xacons (xv 6) (xacons (xv 5) xanil)) (al_cons (al_cons al_nil))) xanil) (al_cons al_nil)))
  (xssone (xifs (xtnotinN (hu2_of hr) (xv 8) (xv 3)) (xsscons (xifs (xtge  (xlen (by rfl) T.z_len (xv 2)) (xv 1)) (xssone (xraise tk rfl PySem.F.excBase_ValueError T.x_TooMany T.gx_TooMany T.kx_TooMany (raises_own T.bx_TooMany T.tx_TooMany) (by rfl)))
  xssnil)
  (xsscons (xsetN 3 (hu2_of hr) xbl (xv 8) (pv 3))
  (xssone (xapp 2 (pe_bm PySem.F.plainAttrs_list PySem.F.slot_list_append PySem.F.type_list_append mt_append (pv 2) (pa_cons (xtup (xacons (xv 8) (xacons (xadd (xv 7) (xv 5)) xanil))) pa_nil))))))
  xssnil))))
  (xssone (xset (i := 4) sc_reached.nd (xadd (xv 4) xint))))))
  (xssone (xretv 2))))))
theorem ok_law_refused (T : Tx K mg ad) : FnOk P w K mg base (L2.CX P w) 6 ad.f_law_refused ad.d_law_refused ["_law_sheet", "_law_most"] (fsp K (cmOf mg) 2 f_law_refused_16) := by
  refine fn_ok T.F_law_refused sc_law_refused (by decide) fun cdv A outer s H E hr => ?_
  have tk := tkOf (cm := cmOf mg) (X := bodyCx P w K mg base ["_law_sheet", "_law_most", "_law_refused_here", "e"] "_law_refused" s_law_refused ad.f_law_refused cdv A outer s H E) (takes_of rfl rfl rfl rfl)
  have hpo : PassesOwn (model P w) (bodyCx P w K mg base ["_law_sheet", "_law_most", "_law_refused_here", "e"] "_law_refused" s_law_refused ad.f_law_refused cdv A outer s H E).A (bodyCx P w K mg base ["_law_sheet", "_law_most", "_law_refused_here", "e"] "_law_refused" s_law_refused ad.f_law_refused cdv A outer s H E).env (bodyCx P w K mg base ["_law_sheet", "_law_most", "_law_refused_here", "e"] "_law_refused" s_law_refused ad.f_law_refused cdv A outer s H E).xe := passes_of rfl
  exact (xsscons (xset (i := 2) sc_law_refused.nd xbl)
  (xsscons (xtryAs (yes := ["TooMany"]) (no := ["NoRenumbering", "NoSquare", "NoWord"]) (g := fun _ => asgS (cF (.bool true)) (asgn 2)) tk rfl rfl sc_law_refused.nd (i := 3) rfl rfl ⟨by rfl, by decide, .inl T.gx_TooMany⟩ (fa_cons (PySem.W.exm_ref T.sB_TooMany T.hd_TooMany T.ty_TooMany T.su_TooMany_TooMany) fa_nil) (fa_cons (PySem.W.exm_ref T.sB_TooMany T.hd_TooMany T.ty_TooMany T.su_NoRenumbering_TooMany) (fa_cons (PySem.W.exm_ref T.sB_TooMany T.hd_TooMany T.ty_TooMany T.su_NoSquare_TooMany) (fa_cons (PySem.W.exm_ref T.sB_TooMany T.hd_TooMany T.ty_TooMany T.su_NoWord_TooMany) fa_nil))) (fun _ _ _ tk hpo => (xssone (xexpr (xcall tk (ok_reached T) (hr.mono (by decide)) (by rfl) T.G_reached T.F_reached.kp T.B_reached rfl (xacons (xv 0) (xacons (xv 1) xanil)) (al_cons (al_cons al_nil)))))) (fa_cons (fun a oe pn hz hf => xEblk (xEset sc_law_refused.nd (xEand (xisE (X := bodyCx P w K mg base ["_law_sheet", "_law_most", "_law_refused_here", "e"] "_law_refused" s_law_refused ad.f_law_refused cdv A outer s H E) (a := a) (oe := oe) (pn := pn) T.e_TooMany hz hf (by rfl) T.z_isinstance (pv 3) (pe_glob (v := .ref (cmOf mg "SheetError")) (u := .ref (cmOf mg "SheetError")) (by rfl) T.gx_SheetError rfl) (fun _ h => h) (kit_ref T.hd_SheetError T.ty_SheetError T.su_TooMany_SheetError T.su_SheetError_SheetError)) (xEone (xisE (X := bodyCx P w K mg base ["_law_sheet", "_law_most", "_law_refused_here", "e"] "_law_refused" s_law_refused ad.f_law_refused cdv A outer s H E) (a := a) (oe := oe) (pn := pn) T.e_TooMany hz hf (by rfl) T.z_isinstance (pv 3) (pe_bltn (v := .ty "ValueError") (u := .type "ValueError") (by rfl) T.z_ValueError (by rfl) rfl) (fun _ h => h) (kit_tyb (by rfl) T.su_TooMany_ValueError)))))) fa_nil))
  (xssone (xretv 2))))
theorem ok_law (T : Tx K mg ad) : FnOk P w K mg base (L2.CX P w) 7 ad.f_law ad.d_law ["_law_script"] (fsp K (cmOf mg) 1 f_law_k74_whole_row_sheets_counted) := by
  refine fn_ok T.F_law sc_law (by decide) fun cdv A outer s H E hr => ?_
  have tk := tkOf (cm := cmOf mg) (X := bodyCx P w K mg base ["_law_script", "_law_cell_here", "_law_many", "_law_number", "_law_first", "_law_k", "_law_sheet", "_law_one", "_law_due", "_law_prime", "_law_found", "_law_there", "_law_word", "_law_right", "_law_up"] "law" s_law ad.f_law cdv A outer s H E) (takes_of rfl rfl rfl rfl)
  have hpo : PassesOwn (model P w) (bodyCx P w K mg base ["_law_script", "_law_cell_here", "_law_many", "_law_number", "_law_first", "_law_k", "_law_sheet", "_law_one", "_law_due", "_law_prime", "_law_found", "_law_there", "_law_word", "_law_right", "_law_up"] "law" s_law ad.f_law cdv A outer s H E).A (bodyCx P w K mg base ["_law_script", "_law_cell_here", "_law_many", "_law_number", "_law_first", "_law_k", "_law_sheet", "_law_one", "_law_due", "_law_prime", "_law_found", "_law_there", "_law_word", "_law_right", "_law_up"] "law" s_law ad.f_law cdv A outer s H E).env (bodyCx P w K mg base ["_law_script", "_law_cell_here", "_law_many", "_law_number", "_law_first", "_law_k", "_law_sheet", "_law_one", "_law_due", "_law_prime", "_law_found", "_law_there", "_law_word", "_law_right", "_law_up"] "law" s_law ad.f_law cdv A outer s H E).xe := passes_of rfl
  exact (xsscons (xset (i := 1) sc_law.nd (xcall tk (ok_law_cell T) (hr.mono (by decide)) (by rfl) T.G_law_cell T.F_law_cell.kp T.B_law_cell rfl (xacons (xv 0) (xacons xint xanil)) (al_cons (al_cons al_nil))))
  (xsscons (xset (i := 2) sc_law.nd (xadd xint (xmod (xdiv (xv 1) xint) xint)))
  (xsscons (xset (i := 3) sc_law.nd (xcall tk (ok_law_row T) (hr.mono (by decide)) (by rfl) T.G_law_row T.F_law_row.kp T.B_law_row rfl (xacons (xv 0) (xacons xint (xacons (xv 2) xanil))) (al_cons (al_cons (al_cons al_nil)))))
  (xsscons (xsetLc (own := [("_law_k", 5)]) (i := 4) rfl sc_law.nd asgn_ne (xrg1 (by rfl) T.z_range (xv 2)) (blkOk_by (own := [("_law_k", 5)]) (N := ["_law_script", "_law_cell_here", "_law_many", "_law_number", "_law_first", "_law_k", "_law_sheet", "_law_one", "_law_due", "_law_prime", "_law_found", "_law_there", "_law_word", "_law_right", "_law_up"]) (sc := defScope s_law) (by decide +kernel)) (fun _ _ _ _ _ => (xgn 5 sc_law.nd)) (fun _ _ _ _ _ => xyes) (fun _ _ _ _ _ => xint) (sw_true rfl rfl rfl (by decide +kernel)))
  (xsscons (xfor hpo rfl (xrg1 (by rfl) T.z_range (xv 2)) (xgn 5 sc_law.nd)
  (xssone (xsetIt 4 (hu_of hr) (xix (hu_of hr) (xv 3) (xmod (xadd (xv 5) xint) (xv 2))) (xix (hu_of hr) (xv 3) (xv 5)) (pv 4))))
  (xsscons (xset (i := 6) sc_law.nd (xtup (xacons (xtupleOf (by rfl) T.z_tuple (xv 4)) (xacons (xtrg1 rfl (by rfl) T.z_tuple (by rfl) T.z_range (xv 2)) xanil))))
  (xsscons (xfor hpo rfl (xiS (xsl (xv 0) (xosome xint) (xosome xint))) (xgn 7 sc_law.nd)
  (xssone (xset (i := 6) sc_law.nd (xcall tk (ok_law_moved T) (hr.mono (by decide)) (by rfl) T.G_law_moved T.F_law_moved.kp T.B_law_moved rfl (xacons (xv 6) (xacons (xix (hu_of hr) xstr (xmod (xv 7) xint)) xanil)) (al_cons (al_cons al_nil))))))
  (xsscons (xset (i := 8) sc_law.nd (xv 2))
  (xsscons (xfor hpo rfl (xiS (xtup (xacons xint (xacons xint (xacons xint (xacons xint xanil)))))) (xgn 9 sc_law.nd)
  (xssone (xifs (xteq hr.units (xmod (xv 2) (xv 9)) xint) (xssone (xset (i := 8) sc_law.nd (xmul (xdiv (xv 8) (xv 9)) (xadd (xv 9) xint))))
  xssnil)))
  (xsscons (xifs (PW.pt (xwand (xtgt  (xv 2) xint) (xwand (xteq hr.units (xmod (xdiv (xv 1) xint) xint) xint) (xwand1 (xtnot (xtval (xcall tk (ok_law_refused T) (hr.mono (by decide)) (by rfl) T.G_law_refused T.F_law_refused.kp T.B_law_refused rfl (xacons (xv 6) (xacons (xsub (xv 8) xint) xanil)) (al_cons (al_cons al_nil))))))))) (xssone (xret xbl))
  xssnil)
  (xsscons (xset (i := 10) sc_law.nd (xcall tk (ok_reached T) (hr.mono (by decide)) (by rfl) T.G_reached T.F_reached.kp T.B_reached rfl (xacons (xv 6) (xacons (xix (hu_of hr) (xlst (xacons (xv 8) (xacons xint xanil))) (xmod (xdiv (xv 1) xint) xint)) xanil)) (al_cons (al_cons al_nil))))
  (xsscons (xifs (PW.pt (xwor (xtnot (xtval (xisi (x := "list") (by rfl) T.z_isinstance (xv 10) (by rfl) T.z_list (by decide +kernel)))) (xwor1 (xtne hr.units (xlen (by rfl) T.z_len (xv 10)) (xv 8))))) (xssone (xret xbl))
  xssnil)
  (xfrz 10 (xsscons (xfor hpo rfl (xiS (xv 10)) (xgtup rfl (xgcons (xgn 11 sc_law.nd) (xgcons (xgn 12 sc_law.nd) xgnil)))
  (xsscons (xasg (unpT_ne (by simp only [List.forall_mem_cons]; exact ⟨asgn_ne, asgn_ne, by simp⟩)) (xv 11) (xgtup rfl (xgcons (xgn 13 sc_law.nd) (xgcons (xgn 14 sc_law.nd) xgnil))))
  (xssone (xifs (xtne hr.units (xlc (own := [("_law_k", 5)]) rfl sc_law.nd asgn_ne (xrg1 (by rfl) T.z_range (xv 2)) (blkOk_by (own := [("_law_k", 5)]) (N := ["_law_script", "_law_cell_here", "_law_many", "_law_number", "_law_first", "_law_k", "_law_sheet", "_law_one", "_law_due", "_law_prime", "_law_found", "_law_there", "_law_word", "_law_right", "_law_up"]) (sc := defScope s_law) (by decide +kernel)) (fun _ _ _ _ _ => (xgn 5 sc_law.nd)) (fun _ _ _ _ _ => xyes) (fun _ _ _ _ _ => (xix (hu_of hr) (xv 14) (xix (hu_of hr) (xv 13) (xv 5))))) (xlc (own := [("_law_k", 5)]) rfl sc_law.nd asgn_ne (xrg1 (by rfl) T.z_range (xv 2)) (blkOk_by (own := [("_law_k", 5)]) (N := ["_law_script", "_law_cell_here", "_law_many", "_law_number", "_law_first", "_law_k", "_law_sheet", "_law_one", "_law_due", "_law_prime", "_law_found", "_law_there", "_law_word", "_law_right", "_law_up"]) (sc := defScope s_law) (by decide +kernel)) (fun _ _ _ _ _ => (xgn 5 sc_law.nd)) (fun _ _ _ _ _ => xyes) (fun _ _ _ _ _ => (xix (hu_of hr) (xv 13) (xix (hu_of hr) (xv 14) (xv 5)))))) (xssone (xret xbl))
  xssnil))))
  (xssone (xret xbl))))))))))))))))
end
theorem all_mk {l : PySem.W.OpenLaw} {w : World} {K : PySem.W.Frag} {h : Heap} {mg : Str → Option Value} {fa f_law_cell f_law_free f_law_row f_law_back f_law_moved f_size f_renumbered f_is_square f_check_square f_met_from f_numbering f_form f_check_word f_back_row f_sheared f_turned f_moved f_reached f_law_refused f_law C_NoRenumbering C_NoSquare C_NoWord C_TooMany C_SheetError : Addr} (X : K.In h) (G : h.Ns mainGlobals mg) (hfa : mg "law" = some (.ref fa))
    {od_law_cell an_law_cell od_law_free an_law_free od_law_row an_law_row od_law_back an_law_back od_law_moved an_law_moved od_size an_size od_renumbered an_renumbered od_is_square an_is_square od_check_square an_check_square od_met_from an_met_from od_numbering an_numbering od_form an_form od_check_word an_check_word od_back_row an_back_row od_sheared an_sheared od_turned an_turned od_moved an_moved od_reached an_reached od_law_refused an_law_refused od_law an_law : Option Addr} {sl_law_cell sl_law_free sl_law_row sl_law_back sl_law_moved sl_size sl_renumbered sl_is_square sl_check_square sl_met_from sl_numbering sl_form sl_check_word sl_back_row sl_sheared sl_turned sl_moved sl_reached sl_law_refused sl_law : Array (Option Value)} {oc_law_cell kV_law_cell dc_law_cell pm_law_cell cd_law_cell ct_law_cell oc_law_free kV_law_free dc_law_free pm_law_free cd_law_free ct_law_free oc_law_row kV_law_row dc_law_row pm_law_row cd_law_row ct_law_row oc_law_back kV_law_back dc_law_back pm_law_back cd_law_back ct_law_back oc_law_moved kV_law_moved dc_law_moved pm_law_moved cd_law_moved ct_law_moved oc_size kV_size dc_size pm_size cd_size ct_size oc_renumbered kV_renumbered dc_renumbered pm_renumbered cd_renumbered ct_renumbered oc_is_square kV_is_square dc_is_square pm_is_square cd_is_square ct_is_square oc_check_square kV_check_square dc_check_square pm_check_square cd_check_square ct_check_square oc_met_from kV_met_from dc_met_from pm_met_from cd_met_from ct_met_from oc_numbering kV_numbering dc_numbering pm_numbering cd_numbering ct_numbering oc_form kV_form dc_form pm_form cd_form ct_form oc_check_word kV_check_word dc_check_word pm_check_word cd_check_word ct_check_word oc_back_row kV_back_row dc_back_row pm_back_row cd_back_row ct_back_row oc_sheared kV_sheared dc_sheared pm_sheared cd_sheared ct_sheared oc_turned kV_turned dc_turned pm_turned cd_turned ct_turned oc_moved kV_moved dc_moved pm_moved cd_moved ct_moved oc_reached kV_reached dc_reached pm_reached cd_reached ct_reached oc_law_refused kV_law_refused dc_law_refused pm_law_refused cd_law_refused ct_law_refused oc_law kV_law dc_law pm_law cd_law ct_law : Value} {t_MOST_LETTERS : Tok}
    (a_law_cell : PySem.W.nsIn K mainGlobals "_law_cell" = some (some (.ref f_law_cell))) (l_law_cell : K.lookup f_law_cell = some ⟨oc_law_cell, od_law_cell, .func (PySem.W.fnOf "_law_cell" "_law_cell" (defArgs s_law_cell) (defBody s_law_cell) (defScope s_law_cell) .none kV_law_cell dc_law_cell pm_law_cell an_law_cell cd_law_cell ct_law_cell), sl_law_cell⟩) (c_law_cell : PySem.W.codeIn K cd_law_cell "_law_cell" = true) (k_law_cell : PySem.W.keepIn K (.ref f_law_cell) = true)
    (a_law_free : PySem.W.nsIn K mainGlobals "_law_free" = some (some (.ref f_law_free))) (l_law_free : K.lookup f_law_free = some ⟨oc_law_free, od_law_free, .func (PySem.W.fnOf "_law_free" "_law_free" (defArgs s_law_free) (defBody s_law_free) (defScope s_law_free) .none kV_law_free dc_law_free pm_law_free an_law_free cd_law_free ct_law_free), sl_law_free⟩) (c_law_free : PySem.W.codeIn K cd_law_free "_law_free" = true) (k_law_free : PySem.W.keepIn K (.ref f_law_free) = true)
    (a_law_row : PySem.W.nsIn K mainGlobals "_law_row" = some (some (.ref f_law_row))) (l_law_row : K.lookup f_law_row = some ⟨oc_law_row, od_law_row, .func (PySem.W.fnOf "_law_row" "_law_row" (defArgs s_law_row) (defBody s_law_row) (defScope s_law_row) .none kV_law_row dc_law_row pm_law_row an_law_row cd_law_row ct_law_row), sl_law_row⟩) (c_law_row : PySem.W.codeIn K cd_law_row "_law_row" = true) (k_law_row : PySem.W.keepIn K (.ref f_law_row) = true)
    (a_law_back : PySem.W.nsIn K mainGlobals "_law_back" = some (some (.ref f_law_back))) (l_law_back : K.lookup f_law_back = some ⟨oc_law_back, od_law_back, .func (PySem.W.fnOf "_law_back" "_law_back" (defArgs s_law_back) (defBody s_law_back) (defScope s_law_back) .none kV_law_back dc_law_back pm_law_back an_law_back cd_law_back ct_law_back), sl_law_back⟩) (c_law_back : PySem.W.codeIn K cd_law_back "_law_back" = true) (k_law_back : PySem.W.keepIn K (.ref f_law_back) = true)
    (a_law_moved : PySem.W.nsIn K mainGlobals "_law_moved" = some (some (.ref f_law_moved))) (l_law_moved : K.lookup f_law_moved = some ⟨oc_law_moved, od_law_moved, .func (PySem.W.fnOf "_law_moved" "_law_moved" (defArgs s_law_moved) (defBody s_law_moved) (defScope s_law_moved) .none kV_law_moved dc_law_moved pm_law_moved an_law_moved cd_law_moved ct_law_moved), sl_law_moved⟩) (c_law_moved : PySem.W.codeIn K cd_law_moved "_law_moved" = true) (k_law_moved : PySem.W.keepIn K (.ref f_law_moved) = true)
    (a_size : PySem.W.nsIn K mainGlobals "size" = some (some (.ref f_size))) (l_size : K.lookup f_size = some ⟨oc_size, od_size, .func (PySem.W.fnOf "size" "size" (defArgs s_size) (defBody s_size) (defScope s_size) .none kV_size dc_size pm_size an_size cd_size ct_size), sl_size⟩) (c_size : PySem.W.codeIn K cd_size "size" = true) (k_size : PySem.W.keepIn K (.ref f_size) = true)
    (a_renumbered : PySem.W.nsIn K mainGlobals "renumbered" = some (some (.ref f_renumbered))) (l_renumbered : K.lookup f_renumbered = some ⟨oc_renumbered, od_renumbered, .func (PySem.W.fnOf "renumbered" "renumbered" (defArgs s_renumbered) (defBody s_renumbered) (defScope s_renumbered) .none kV_renumbered dc_renumbered pm_renumbered an_renumbered cd_renumbered ct_renumbered), sl_renumbered⟩) (c_renumbered : PySem.W.codeIn K cd_renumbered "renumbered" = true) (k_renumbered : PySem.W.keepIn K (.ref f_renumbered) = true)
    (a_is_square : PySem.W.nsIn K mainGlobals "is_square" = some (some (.ref f_is_square))) (l_is_square : K.lookup f_is_square = some ⟨oc_is_square, od_is_square, .func (PySem.W.fnOf "is_square" "is_square" (defArgs s_is_square) (defBody s_is_square) (defScope s_is_square) .none kV_is_square dc_is_square pm_is_square an_is_square cd_is_square ct_is_square), sl_is_square⟩) (c_is_square : PySem.W.codeIn K cd_is_square "is_square" = true) (k_is_square : PySem.W.keepIn K (.ref f_is_square) = true)
    (a_check_square : PySem.W.nsIn K mainGlobals "check_square" = some (some (.ref f_check_square))) (l_check_square : K.lookup f_check_square = some ⟨oc_check_square, od_check_square, .func (PySem.W.fnOf "check_square" "check_square" (defArgs s_check_square) (defBody s_check_square) (defScope s_check_square) .none kV_check_square dc_check_square pm_check_square an_check_square cd_check_square ct_check_square), sl_check_square⟩) (c_check_square : PySem.W.codeIn K cd_check_square "check_square" = true) (k_check_square : PySem.W.keepIn K (.ref f_check_square) = true)
    (a_met_from : PySem.W.nsIn K mainGlobals "met_from" = some (some (.ref f_met_from))) (l_met_from : K.lookup f_met_from = some ⟨oc_met_from, od_met_from, .func (PySem.W.fnOf "met_from" "met_from" (defArgs s_met_from) (defBody s_met_from) (defScope s_met_from) .none kV_met_from dc_met_from pm_met_from an_met_from cd_met_from ct_met_from), sl_met_from⟩) (c_met_from : PySem.W.codeIn K cd_met_from "met_from" = true) (k_met_from : PySem.W.keepIn K (.ref f_met_from) = true)
    (a_numbering : PySem.W.nsIn K mainGlobals "numbering" = some (some (.ref f_numbering))) (l_numbering : K.lookup f_numbering = some ⟨oc_numbering, od_numbering, .func (PySem.W.fnOf "numbering" "numbering" (defArgs s_numbering) (defBody s_numbering) (defScope s_numbering) .none kV_numbering dc_numbering pm_numbering an_numbering cd_numbering ct_numbering), sl_numbering⟩) (c_numbering : PySem.W.codeIn K cd_numbering "numbering" = true) (k_numbering : PySem.W.keepIn K (.ref f_numbering) = true)
    (a_form : PySem.W.nsIn K mainGlobals "form" = some (some (.ref f_form))) (l_form : K.lookup f_form = some ⟨oc_form, od_form, .func (PySem.W.fnOf "form" "form" (defArgs s_form) (defBody s_form) (defScope s_form) .none kV_form dc_form pm_form an_form cd_form ct_form), sl_form⟩) (c_form : PySem.W.codeIn K cd_form "form" = true) (k_form : PySem.W.keepIn K (.ref f_form) = true)
    (a_check_word : PySem.W.nsIn K mainGlobals "check_word" = some (some (.ref f_check_word))) (l_check_word : K.lookup f_check_word = some ⟨oc_check_word, od_check_word, .func (PySem.W.fnOf "check_word" "check_word" (defArgs s_check_word) (defBody s_check_word) (defScope s_check_word) .none kV_check_word dc_check_word pm_check_word an_check_word cd_check_word ct_check_word), sl_check_word⟩) (c_check_word : PySem.W.codeIn K cd_check_word "check_word" = true) (k_check_word : PySem.W.keepIn K (.ref f_check_word) = true)
    (a_back_row : PySem.W.nsIn K mainGlobals "back_row" = some (some (.ref f_back_row))) (l_back_row : K.lookup f_back_row = some ⟨oc_back_row, od_back_row, .func (PySem.W.fnOf "back_row" "back_row" (defArgs s_back_row) (defBody s_back_row) (defScope s_back_row) .none kV_back_row dc_back_row pm_back_row an_back_row cd_back_row ct_back_row), sl_back_row⟩) (c_back_row : PySem.W.codeIn K cd_back_row "back_row" = true) (k_back_row : PySem.W.keepIn K (.ref f_back_row) = true)
    (a_sheared : PySem.W.nsIn K mainGlobals "sheared" = some (some (.ref f_sheared))) (l_sheared : K.lookup f_sheared = some ⟨oc_sheared, od_sheared, .func (PySem.W.fnOf "sheared" "sheared" (defArgs s_sheared) (defBody s_sheared) (defScope s_sheared) .none kV_sheared dc_sheared pm_sheared an_sheared cd_sheared ct_sheared), sl_sheared⟩) (c_sheared : PySem.W.codeIn K cd_sheared "sheared" = true) (k_sheared : PySem.W.keepIn K (.ref f_sheared) = true)
    (a_turned : PySem.W.nsIn K mainGlobals "turned" = some (some (.ref f_turned))) (l_turned : K.lookup f_turned = some ⟨oc_turned, od_turned, .func (PySem.W.fnOf "turned" "turned" (defArgs s_turned) (defBody s_turned) (defScope s_turned) .none kV_turned dc_turned pm_turned an_turned cd_turned ct_turned), sl_turned⟩) (c_turned : PySem.W.codeIn K cd_turned "turned" = true) (k_turned : PySem.W.keepIn K (.ref f_turned) = true)
    (a_moved : PySem.W.nsIn K mainGlobals "moved" = some (some (.ref f_moved))) (l_moved : K.lookup f_moved = some ⟨oc_moved, od_moved, .func (PySem.W.fnOf "moved" "moved" (defArgs s_moved) (defBody s_moved) (defScope s_moved) .none kV_moved dc_moved pm_moved an_moved cd_moved ct_moved), sl_moved⟩) (c_moved : PySem.W.codeIn K cd_moved "moved" = true) (k_moved : PySem.W.keepIn K (.ref f_moved) = true)
    (a_reached : PySem.W.nsIn K mainGlobals "reached" = some (some (.ref f_reached))) (l_reached : K.lookup f_reached = some ⟨oc_reached, od_reached, .func (PySem.W.fnOf "reached" "reached" (defArgs s_reached) (defBody s_reached) (defScope s_reached) .none kV_reached dc_reached pm_reached an_reached cd_reached ct_reached), sl_reached⟩) (c_reached : PySem.W.codeIn K cd_reached "reached" = true) (k_reached : PySem.W.keepIn K (.ref f_reached) = true)
    (a_law_refused : PySem.W.nsIn K mainGlobals "_law_refused" = some (some (.ref f_law_refused))) (l_law_refused : K.lookup f_law_refused = some ⟨oc_law_refused, od_law_refused, .func (PySem.W.fnOf "_law_refused" "_law_refused" (defArgs s_law_refused) (defBody s_law_refused) (defScope s_law_refused) .none kV_law_refused dc_law_refused pm_law_refused an_law_refused cd_law_refused ct_law_refused), sl_law_refused⟩) (c_law_refused : PySem.W.codeIn K cd_law_refused "_law_refused" = true) (k_law_refused : PySem.W.keepIn K (.ref f_law_refused) = true)
    (a_law : PySem.W.nsIn K mainGlobals "law" = some (some (.ref f_law))) (l_law : K.lookup f_law = some ⟨oc_law, od_law, .func (PySem.W.fnOf "law" "law" (defArgs s_law) (defBody s_law) (defScope s_law) .none kV_law dc_law pm_law an_law cd_law ct_law), sl_law⟩) (c_law : PySem.W.codeIn K cd_law "law" = true) (k_law : PySem.W.keepIn K (.ref f_law) = true)
    (z_len : PySem.W.nsIn K mainGlobals "len" = some none)
    (z_list : PySem.W.nsIn K mainGlobals "list" = some none)
    (z_range : PySem.W.nsIn K mainGlobals "range" = some none)
    (z_tuple : PySem.W.nsIn K mainGlobals "tuple" = some none)
    (z_sorted : PySem.W.nsIn K mainGlobals "sorted" = some none)
    (z_isinstance : PySem.W.nsIn K mainGlobals "isinstance" = some none)
    (z_int : PySem.W.nsIn K mainGlobals "int" = some none)
    (z_bool : PySem.W.nsIn K mainGlobals "bool" = some none)
    (z_enumerate : PySem.W.nsIn K mainGlobals "enumerate" = some none)
    (z_min : PySem.W.nsIn K mainGlobals "min" = some none)
    (z_ValueError : PySem.W.nsIn K mainGlobals "ValueError" = some none)
    (g_MOST_LETTERS : PySem.W.nsIn K mainGlobals "MOST_LETTERS" = some (some (.int (1000) t_MOST_LETTERS)))
    (gx_NoRenumbering : PySem.W.nsIn K mainGlobals "NoRenumbering" = some (some (.ref C_NoRenumbering))) (x_NoRenumbering : PySem.W.excIn K C_NoRenumbering [.type "ValueError", .type "Exception", .type "BaseException", .type "object"] "ValueError.__new__" = true) (kx_NoRenumbering : PySem.W.keepIn K (.ref C_NoRenumbering) = true) (bx_NoRenumbering : PySem.W.subIn K (.ref C_NoRenumbering) (.type "BaseException") = some true) (tx_NoRenumbering : PySem.W.typeIn K (.ref C_NoRenumbering) = some (.type "type"))
    (gx_NoSquare : PySem.W.nsIn K mainGlobals "NoSquare" = some (some (.ref C_NoSquare))) (x_NoSquare : PySem.W.excIn K C_NoSquare [.type "ValueError", .type "Exception", .type "BaseException", .type "object"] "ValueError.__new__" = true) (kx_NoSquare : PySem.W.keepIn K (.ref C_NoSquare) = true) (bx_NoSquare : PySem.W.subIn K (.ref C_NoSquare) (.type "BaseException") = some true) (tx_NoSquare : PySem.W.typeIn K (.ref C_NoSquare) = some (.type "type"))
    (gx_NoWord : PySem.W.nsIn K mainGlobals "NoWord" = some (some (.ref C_NoWord))) (x_NoWord : PySem.W.excIn K C_NoWord [.type "ValueError", .type "Exception", .type "BaseException", .type "object"] "ValueError.__new__" = true) (kx_NoWord : PySem.W.keepIn K (.ref C_NoWord) = true) (bx_NoWord : PySem.W.subIn K (.ref C_NoWord) (.type "BaseException") = some true) (tx_NoWord : PySem.W.typeIn K (.ref C_NoWord) = some (.type "type"))
    (gx_TooMany : PySem.W.nsIn K mainGlobals "TooMany" = some (some (.ref C_TooMany))) (x_TooMany : PySem.W.excIn K C_TooMany [.type "ValueError", .type "Exception", .type "BaseException", .type "object"] "ValueError.__new__" = true) (kx_TooMany : PySem.W.keepIn K (.ref C_TooMany) = true) (bx_TooMany : PySem.W.subIn K (.ref C_TooMany) (.type "BaseException") = some true) (tx_TooMany : PySem.W.typeIn K (.ref C_TooMany) = some (.type "type"))
    (gx_SheetError : PySem.W.nsIn K mainGlobals "SheetError" = some (some (.ref C_SheetError)))
    (sB_TooMany : PySem.W.subIn K (.ref C_TooMany) (.type "BaseException") = some true)
    (hd_TooMany : PySem.W.hasDictIn K C_TooMany = true)
    (ty_TooMany : PySem.W.typeIn K (.ref C_TooMany) = some (.type "type"))
    (su_TooMany_TooMany : PySem.W.subIn K (.ref C_TooMany) (.ref C_TooMany) = some true)
    (su_NoWord_TooMany : PySem.W.subIn K (.ref C_NoWord) (.ref C_TooMany) = some false)
    (su_NoSquare_TooMany : PySem.W.subIn K (.ref C_NoSquare) (.ref C_TooMany) = some false)
    (su_NoRenumbering_TooMany : PySem.W.subIn K (.ref C_NoRenumbering) (.ref C_TooMany) = some false)
    (hd_SheetError : PySem.W.hasDictIn K C_SheetError = true)
    (ty_SheetError : PySem.W.typeIn K (.ref C_SheetError) = some (.type "type"))
    (su_TooMany_SheetError : PySem.W.subIn K (.ref C_TooMany) (.ref C_SheetError) = some true)
    (su_SheetError_SheetError : PySem.W.subIn K (.ref C_SheetError) (.ref C_SheetError) = some true)
    (e_TooMany_g : PySem.W.findIn K (.ref C_TooMany) "__getattribute__" = some (some (.builtin "BaseException.__getattribute__")))
    (e_TooMany_k : PySem.W.findIn K (.ref C_TooMany) "__getattr__" = some none)
    (e_TooMany_s : PySem.W.subIn K (.ref C_TooMany) (.type "BaseException") = some true)
    (e_TooMany_d : PySem.W.hasDictIn K C_TooMany = true)
    (e_TooMany_a : PySem.W.findIn K (.ref C_TooMany) "__class__" = some (some (.builtin "object.__class__")))
    (e_TooMany_n : PySem.W.specialIn K (.builtin "object.__class__") "__get__" = some (some (.builtin "getset_descriptor.__get__")))
    (e_TooMany_t : PySem.W.takesIn K (.builtin "object.__class__") = some true)
    (e_TooMany_m : PySem.W.mroIn K C_TooMany (.type "object") = some true)
    (su_TooMany_ValueError : PySem.W.subIn K (.ref C_TooMany) (.type "ValueError") = some true)
    : ∃ fd : FuncData, (∀ (s : Shared) (v : Value), BindsTo s fd ⟨[v], []⟩ [("_law_script", v)]) ∧ ∀ base : Heap, K.In base → base.Ns mainGlobals mg → FnOk l.prog w K mg base (L2.CX l.prog w) 7 fa fd ["_law_script"] (lawSp K) := by
  have e := hfa.symm.trans (PySem.W.mg_of X G a_law)
  cases e
  have F_law_cell := fun_mk (st := s_law_cell) l_law_cell c_law_cell k_law_cell
  have b_law_cell := F_law_cell.binds (ps := ["_law_script", "_law_k"]) fun _ _ _ _ _ _ us hl => match us, hl with | [_, _], _ => rfl
  have F_law_free := fun_mk (st := s_law_free) l_law_free c_law_free k_law_free
  have b_law_free := F_law_free.binds (ps := ["_law_script"]) fun _ _ _ _ _ _ us hl => match us, hl with | [_], _ => rfl
  have F_law_row := fun_mk (st := s_law_row) l_law_row c_law_row k_law_row
  have b_law_row := F_law_row.binds (ps := ["_law_script", "_law_at", "_law_many"]) fun _ _ _ _ _ _ us hl => match us, hl with | [_, _, _], _ => rfl
  have F_law_back := fun_mk (st := s_law_back) l_law_back c_law_back k_law_back
  have b_law_back := F_law_back.binds (ps := ["_law_row_here"]) fun _ _ _ _ _ _ us hl => match us, hl with | [_], _ => rfl
  have F_law_moved := fun_mk (st := s_law_moved) l_law_moved c_law_moved k_law_moved
  have b_law_moved := F_law_moved.binds (ps := ["_law_sheet", "_law_letter"]) fun _ _ _ _ _ _ us hl => match us, hl with | [_, _], _ => rfl
  have F_size := fun_mk (st := s_size) l_size c_size k_size
  have b_size := F_size.binds (ps := ["sheet"]) fun _ _ _ _ _ _ us hl => match us, hl with | [_], _ => rfl
  have F_renumbered := fun_mk (st := s_renumbered) l_renumbered c_renumbered k_renumbered
  have b_renumbered := F_renumbered.binds (ps := ["sheet", "f"]) fun _ _ _ _ _ _ us hl => match us, hl with | [_, _], _ => rfl
  have F_is_square := fun_mk (st := s_is_square) l_is_square c_is_square k_is_square
  have b_is_square := F_is_square.binds (ps := ["square", "many"]) fun _ _ _ _ _ _ us hl => match us, hl with | [_, _], _ => rfl
  have F_check_square := fun_mk (st := s_check_square) l_check_square c_check_square k_check_square
  have b_check_square := F_check_square.binds (ps := ["sheet", "square"]) fun _ _ _ _ _ _ us hl => match us, hl with | [_, _], _ => rfl
  have F_met_from := fun_mk (st := s_met_from) l_met_from c_met_from k_met_from
  have b_met_from := F_met_from.binds (ps := ["right", "up", "first"]) fun _ _ _ _ _ _ us hl => match us, hl with | [_, _, _], _ => rfl
  have F_numbering := fun_mk (st := s_numbering) l_numbering c_numbering k_numbering
  have b_numbering := F_numbering.binds (ps := ["sheet", "first"]) fun _ _ _ _ _ _ us hl => match us, hl with | [_, _], _ => rfl
  have F_form := fun_mk (st := s_form) l_form c_form k_form
  have b_form := F_form.binds (ps := ["sheet"]) fun _ _ _ _ _ _ us hl => match us, hl with | [_], _ => rfl
  have F_check_word := fun_mk (st := s_check_word) l_check_word c_check_word k_check_word
  have b_check_word := F_check_word.binds (ps := ["word"]) fun _ _ _ _ _ _ us hl => match us, hl with | [_], _ => rfl
  have F_back_row := fun_mk (st := s_back_row) l_back_row c_back_row k_back_row
  have b_back_row := F_back_row.binds (ps := ["row"]) fun _ _ _ _ _ _ us hl => match us, hl with | [_], _ => rfl
  have F_sheared := fun_mk (st := s_sheared) l_sheared c_sheared k_sheared
  have b_sheared := F_sheared.binds (ps := ["sheet"]) fun _ _ _ _ _ _ us hl => match us, hl with | [_], _ => rfl
  have F_turned := fun_mk (st := s_turned) l_turned c_turned k_turned
  have b_turned := F_turned.binds (ps := ["sheet"]) fun _ _ _ _ _ _ us hl => match us, hl with | [_], _ => rfl
  have F_moved := fun_mk (st := s_moved) l_moved c_moved k_moved
  have b_moved := F_moved.binds (ps := ["sheet", "word"]) fun _ _ _ _ _ _ us hl => match us, hl with | [_, _], _ => rfl
  have F_reached := fun_mk (st := s_reached) l_reached c_reached k_reached
  have b_reached := F_reached.binds (ps := ["sheet", "most"]) fun _ _ _ _ _ _ us hl => match us, hl with | [_, _], _ => rfl
  have F_law_refused := fun_mk (st := s_law_refused) l_law_refused c_law_refused k_law_refused
  have b_law_refused := F_law_refused.binds (ps := ["_law_sheet", "_law_most"]) fun _ _ _ _ _ _ us hl => match us, hl with | [_, _], _ => rfl
  have F_law := fun_mk (st := s_law) l_law c_law k_law
  have gg_NoRenumbering := PySem.W.mg_of X G gx_NoRenumbering
  have cc_NoRenumbering := cmOf_eq gg_NoRenumbering
  rw [← cc_NoRenumbering] at gg_NoRenumbering x_NoRenumbering kx_NoRenumbering bx_NoRenumbering tx_NoRenumbering
  have gg_NoSquare := PySem.W.mg_of X G gx_NoSquare
  have cc_NoSquare := cmOf_eq gg_NoSquare
  rw [← cc_NoSquare] at gg_NoSquare x_NoSquare kx_NoSquare bx_NoSquare tx_NoSquare
  have gg_NoWord := PySem.W.mg_of X G gx_NoWord
  have cc_NoWord := cmOf_eq gg_NoWord
  rw [← cc_NoWord] at gg_NoWord x_NoWord kx_NoWord bx_NoWord tx_NoWord
  have gg_TooMany := PySem.W.mg_of X G gx_TooMany
  have cc_TooMany := cmOf_eq gg_TooMany
  rw [← cc_TooMany] at gg_TooMany x_TooMany kx_TooMany bx_TooMany tx_TooMany
  have gg_SheetError := PySem.W.mg_of X G gx_SheetError
  have cc_SheetError := cmOf_eq gg_SheetError
  rw [← cc_SheetError] at gg_SheetError
  have sB_TooMany : PySem.W.subIn K (.ref (cmOf mg "TooMany")) (.type "BaseException") = some true := by rw [cc_TooMany]; exact sB_TooMany
  have hd_TooMany : PySem.W.hasDictIn K (cmOf mg "TooMany") = true := by rw [cc_TooMany]; exact hd_TooMany
  have ty_TooMany : PySem.W.typeIn K (.ref (cmOf mg "TooMany")) = some (.type "type") := by rw [cc_TooMany]; exact ty_TooMany
  have su_TooMany_TooMany : PySem.W.subIn K (.ref (cmOf mg "TooMany")) (.ref (cmOf mg "TooMany")) = some true := by rw [cc_TooMany]; exact su_TooMany_TooMany
  have su_NoWord_TooMany : PySem.W.subIn K (.ref (cmOf mg "NoWord")) (.ref (cmOf mg "TooMany")) = some false := by rw [cc_NoWord, cc_TooMany]; exact su_NoWord_TooMany
  have su_NoSquare_TooMany : PySem.W.subIn K (.ref (cmOf mg "NoSquare")) (.ref (cmOf mg "TooMany")) = some false := by rw [cc_NoSquare, cc_TooMany]; exact su_NoSquare_TooMany
  have su_NoRenumbering_TooMany : PySem.W.subIn K (.ref (cmOf mg "NoRenumbering")) (.ref (cmOf mg "TooMany")) = some false := by rw [cc_NoRenumbering, cc_TooMany]; exact su_NoRenumbering_TooMany
  have hd_SheetError : PySem.W.hasDictIn K (cmOf mg "SheetError") = true := by rw [cc_SheetError]; exact hd_SheetError
  have ty_SheetError : PySem.W.typeIn K (.ref (cmOf mg "SheetError")) = some (.type "type") := by rw [cc_SheetError]; exact ty_SheetError
  have su_TooMany_SheetError : PySem.W.subIn K (.ref (cmOf mg "TooMany")) (.ref (cmOf mg "SheetError")) = some true := by rw [cc_TooMany, cc_SheetError]; exact su_TooMany_SheetError
  have su_SheetError_SheetError : PySem.W.subIn K (.ref (cmOf mg "SheetError")) (.ref (cmOf mg "SheetError")) = some true := by rw [cc_SheetError]; exact su_SheetError_SheetError
  have e_TooMany : ExcC K (cmOf mg "TooMany") := by rw [cc_TooMany]; exact ⟨e_TooMany_g, e_TooMany_k, e_TooMany_s, e_TooMany_d, e_TooMany_a, e_TooMany_n, e_TooMany_t, e_TooMany_m⟩
  have su_TooMany_ValueError : PySem.W.subIn K (.ref (cmOf mg "TooMany")) (.type "ValueError") = some true := by rw [cc_TooMany]; exact su_TooMany_ValueError
  have T : Tx K mg ⟨f_law_cell, PySem.W.fnOf "_law_cell" "_law_cell" (defArgs s_law_cell) (defBody s_law_cell) (defScope s_law_cell) .none kV_law_cell dc_law_cell pm_law_cell an_law_cell cd_law_cell ct_law_cell, f_law_free, PySem.W.fnOf "_law_free" "_law_free" (defArgs s_law_free) (defBody s_law_free) (defScope s_law_free) .none kV_law_free dc_law_free pm_law_free an_law_free cd_law_free ct_law_free, f_law_row, PySem.W.fnOf "_law_row" "_law_row" (defArgs s_law_row) (defBody s_law_row) (defScope s_law_row) .none kV_law_row dc_law_row pm_law_row an_law_row cd_law_row ct_law_row, f_law_back, PySem.W.fnOf "_law_back" "_law_back" (defArgs s_law_back) (defBody s_law_back) (defScope s_law_back) .none kV_law_back dc_law_back pm_law_back an_law_back cd_law_back ct_law_back, f_law_moved, PySem.W.fnOf "_law_moved" "_law_moved" (defArgs s_law_moved) (defBody s_law_moved) (defScope s_law_moved) .none kV_law_moved dc_law_moved pm_law_moved an_law_moved cd_law_moved ct_law_moved, f_size, PySem.W.fnOf "size" "size" (defArgs s_size) (defBody s_size) (defScope s_size) .none kV_size dc_size pm_size an_size cd_size ct_size, f_renumbered, PySem.W.fnOf "renumbered" "renumbered" (defArgs s_renumbered) (defBody s_renumbered) (defScope s_renumbered) .none kV_renumbered dc_renumbered pm_renumbered an_renumbered cd_renumbered ct_renumbered, f_is_square, PySem.W.fnOf "is_square" "is_square" (defArgs s_is_square) (defBody s_is_square) (defScope s_is_square) .none kV_is_square dc_is_square pm_is_square an_is_square cd_is_square ct_is_square, f_check_square, PySem.W.fnOf "check_square" "check_square" (defArgs s_check_square) (defBody s_check_square) (defScope s_check_square) .none kV_check_square dc_check_square pm_check_square an_check_square cd_check_square ct_check_square, f_met_from, PySem.W.fnOf "met_from" "met_from" (defArgs s_met_from) (defBody s_met_from) (defScope s_met_from) .none kV_met_from dc_met_from pm_met_from an_met_from cd_met_from ct_met_from, f_numbering, PySem.W.fnOf "numbering" "numbering" (defArgs s_numbering) (defBody s_numbering) (defScope s_numbering) .none kV_numbering dc_numbering pm_numbering an_numbering cd_numbering ct_numbering, f_form, PySem.W.fnOf "form" "form" (defArgs s_form) (defBody s_form) (defScope s_form) .none kV_form dc_form pm_form an_form cd_form ct_form, f_check_word, PySem.W.fnOf "check_word" "check_word" (defArgs s_check_word) (defBody s_check_word) (defScope s_check_word) .none kV_check_word dc_check_word pm_check_word an_check_word cd_check_word ct_check_word, f_back_row, PySem.W.fnOf "back_row" "back_row" (defArgs s_back_row) (defBody s_back_row) (defScope s_back_row) .none kV_back_row dc_back_row pm_back_row an_back_row cd_back_row ct_back_row, f_sheared, PySem.W.fnOf "sheared" "sheared" (defArgs s_sheared) (defBody s_sheared) (defScope s_sheared) .none kV_sheared dc_sheared pm_sheared an_sheared cd_sheared ct_sheared, f_turned, PySem.W.fnOf "turned" "turned" (defArgs s_turned) (defBody s_turned) (defScope s_turned) .none kV_turned dc_turned pm_turned an_turned cd_turned ct_turned, f_moved, PySem.W.fnOf "moved" "moved" (defArgs s_moved) (defBody s_moved) (defScope s_moved) .none kV_moved dc_moved pm_moved an_moved cd_moved ct_moved, f_reached, PySem.W.fnOf "reached" "reached" (defArgs s_reached) (defBody s_reached) (defScope s_reached) .none kV_reached dc_reached pm_reached an_reached cd_reached ct_reached, f_law_refused, PySem.W.fnOf "_law_refused" "_law_refused" (defArgs s_law_refused) (defBody s_law_refused) (defScope s_law_refused) .none kV_law_refused dc_law_refused pm_law_refused an_law_refused cd_law_refused ct_law_refused, fa, PySem.W.fnOf "law" "law" (defArgs s_law) (defBody s_law) (defScope s_law) .none kV_law dc_law pm_law an_law cd_law ct_law⟩ := ⟨F_law_cell, b_law_cell, PySem.W.mg_of X G a_law_cell, F_law_free, b_law_free, PySem.W.mg_of X G a_law_free, F_law_row, b_law_row, PySem.W.mg_of X G a_law_row, F_law_back, b_law_back, PySem.W.mg_of X G a_law_back, F_law_moved, b_law_moved, PySem.W.mg_of X G a_law_moved, F_size, b_size, PySem.W.mg_of X G a_size, F_renumbered, b_renumbered, PySem.W.mg_of X G a_renumbered, F_is_square, b_is_square, PySem.W.mg_of X G a_is_square, F_check_square, b_check_square, PySem.W.mg_of X G a_check_square, F_met_from, b_met_from, PySem.W.mg_of X G a_met_from, F_numbering, b_numbering, PySem.W.mg_of X G a_numbering, F_form, b_form, PySem.W.mg_of X G a_form, F_check_word, b_check_word, PySem.W.mg_of X G a_check_word, F_back_row, b_back_row, PySem.W.mg_of X G a_back_row, F_sheared, b_sheared, PySem.W.mg_of X G a_sheared, F_turned, b_turned, PySem.W.mg_of X G a_turned, F_moved, b_moved, PySem.W.mg_of X G a_moved, F_reached, b_reached, PySem.W.mg_of X G a_reached, F_law_refused, b_law_refused, PySem.W.mg_of X G a_law_refused, F_law, PySem.W.mg_none_of X G z_len, PySem.W.mg_none_of X G z_list, PySem.W.mg_none_of X G z_range, PySem.W.mg_none_of X G z_tuple, PySem.W.mg_none_of X G z_sorted, PySem.W.mg_none_of X G z_isinstance, PySem.W.mg_none_of X G z_int, PySem.W.mg_none_of X G z_bool, PySem.W.mg_none_of X G z_enumerate, PySem.W.mg_none_of X G z_min, PySem.W.mg_none_of X G z_ValueError, ⟨_, PySem.W.mg_of X G g_MOST_LETTERS⟩, gg_SheetError, sB_TooMany, hd_TooMany, ty_TooMany, su_TooMany_TooMany, su_NoWord_TooMany, su_NoSquare_TooMany, su_NoRenumbering_TooMany, hd_SheetError, ty_SheetError, su_TooMany_SheetError, su_SheetError_SheetError, e_TooMany, su_TooMany_ValueError, gg_NoRenumbering, x_NoRenumbering, kx_NoRenumbering, bx_NoRenumbering, tx_NoRenumbering, gg_NoSquare, x_NoSquare, kx_NoSquare, bx_NoSquare, tx_NoSquare, gg_NoWord, x_NoWord, kx_NoWord, bx_NoWord, tx_NoWord, gg_TooMany, x_TooMany, kx_TooMany, bx_TooMany, tx_TooMany⟩
  exact ⟨_, fun s v => .of_eq rfl, fun base _ _ => (ok_law T).imp (lawSp_imp law_true)⟩
end Lw
open PySem PySem.W PyProof.Rows
set_option maxHeartbeats 0 in
theorem PySem.Challenge.cw_squaresheet_k74_whole_row_sheets_counted_holds : PySem.Challenge.rw_squaresheet_k74_whole_row_sheets_counted.Holds := by
  w_on; o_law; k_head; (case hw => w_witness2)
  k_fill
  refine L2.walk_of (l := PySem.Challenge.rw_squaresheet_k74_whole_row_sheets_counted) (n := 63) (k := 7) (x := "_law_script") (CX := fun w => L2.CX PySem.Challenge.rw_squaresheet_k74_whole_row_sheets_counted.prog w) (sp := fun w => Sq.lawSp _) rfl (by decide) rfl ⟨rfl, by decide, by decide⟩ (fun w h Y => PySem.W.kIn_of Y) ?F (fun _ H a ns hl _ hS => Sq.law_sp H a ns hl hS) (fun _ _ _ _ _ h => Sq.cx_none h)
  case F =>
    intro w mg fa h KX G hmg
    refine' Lw.all_mk KX G hmg ?a_law_cell ?l_law_cell ?c_law_cell ?k_law_cell ?a_law_free ?l_law_free ?c_law_free ?k_law_free ?a_law_row ?l_law_row ?c_law_row ?k_law_row ?a_law_back ?l_law_back ?c_law_back ?k_law_back ?a_law_moved ?l_law_moved ?c_law_moved ?k_law_moved ?a_size ?l_size ?c_size ?k_size ?a_renumbered ?l_renumbered ?c_renumbered ?k_renumbered ?a_is_square ?l_is_square ?c_is_square ?k_is_square ?a_check_square ?l_check_square ?c_check_square ?k_check_square ?a_met_from ?l_met_from ?c_met_from ?k_met_from ?a_numbering ?l_numbering ?c_numbering ?k_numbering ?a_form ?l_form ?c_form ?k_form ?a_check_word ?l_check_word ?c_check_word ?k_check_word ?a_back_row ?l_back_row ?c_back_row ?k_back_row ?a_sheared ?l_sheared ?c_sheared ?k_sheared ?a_turned ?l_turned ?c_turned ?k_turned ?a_moved ?l_moved ?c_moved ?k_moved ?a_reached ?l_reached ?c_reached ?k_reached ?a_law_refused ?l_law_refused ?c_law_refused ?k_law_refused ?a_law ?l_law ?c_law ?k_law ?z_len ?z_list ?z_range ?z_tuple ?z_sorted ?z_isinstance ?z_int ?z_bool ?z_enumerate ?z_min ?z_ValueError ?g_MOST_LETTERS ?gx_NoRenumbering ?x_NoRenumbering ?kx_NoRenumbering ?bx_NoRenumbering ?tx_NoRenumbering ?gx_NoSquare ?x_NoSquare ?kx_NoSquare ?bx_NoSquare ?tx_NoSquare ?gx_NoWord ?x_NoWord ?kx_NoWord ?bx_NoWord ?tx_NoWord ?gx_TooMany ?x_TooMany ?kx_TooMany ?bx_TooMany ?tx_TooMany ?gx_SheetError ?sB_TooMany ?hd_TooMany ?ty_TooMany ?su_TooMany_TooMany ?su_NoWord_TooMany ?su_NoSquare_TooMany ?su_NoRenumbering_TooMany ?hd_SheetError ?ty_SheetError ?su_TooMany_SheetError ?su_SheetError_SheetError ?e_TooMany_g ?e_TooMany_k ?e_TooMany_s ?e_TooMany_d ?e_TooMany_a ?e_TooMany_n ?e_TooMany_t ?e_TooMany_m ?su_TooMany_ValueError
    (case a_law_cell => k_is)
    (case l_law_cell => k_is)
    (case c_law_cell => k_is)
    (case k_law_cell => k_is)
    (case a_law_free => k_is)
    (case l_law_free => k_is)
    (case c_law_free => k_is)
    (case k_law_free => k_is)
    (case a_law_row => k_is)
    (case l_law_row => k_is)
    (case c_law_row => k_is)
    (case k_law_row => k_is)
    (case a_law_back => k_is)
    (case l_law_back => k_is)
    (case c_law_back => k_is)
    (case k_law_back => k_is)
    (case a_law_moved => k_is)
    (case l_law_moved => k_is)
    (case c_law_moved => k_is)
    (case k_law_moved => k_is)
    (case a_size => k_is)
    (case l_size => k_is)
    (case c_size => k_is)
    (case k_size => k_is)
    (case a_renumbered => k_is)
    (case l_renumbered => k_is)
    (case c_renumbered => k_is)
    (case k_renumbered => k_is)
    (case a_is_square => k_is)
    (case l_is_square => k_is)
    (case c_is_square => k_is)
    (case k_is_square => k_is)
    (case a_check_square => k_is)
    (case l_check_square => k_is)
    (case c_check_square => k_is)
    (case k_check_square => k_is)
    (case a_met_from => k_is)
    (case l_met_from => k_is)
    (case c_met_from => k_is)
    (case k_met_from => k_is)
    (case a_numbering => k_is)
    (case l_numbering => k_is)
    (case c_numbering => k_is)
    (case k_numbering => k_is)
    (case a_form => k_is)
    (case l_form => k_is)
    (case c_form => k_is)
    (case k_form => k_is)
    (case a_check_word => k_is)
    (case l_check_word => k_is)
    (case c_check_word => k_is)
    (case k_check_word => k_is)
    (case a_back_row => k_is)
    (case l_back_row => k_is)
    (case c_back_row => k_is)
    (case k_back_row => k_is)
    (case a_sheared => k_is)
    (case l_sheared => k_is)
    (case c_sheared => k_is)
    (case k_sheared => k_is)
    (case a_turned => k_is)
    (case l_turned => k_is)
    (case c_turned => k_is)
    (case k_turned => k_is)
    (case a_moved => k_is)
    (case l_moved => k_is)
    (case c_moved => k_is)
    (case k_moved => k_is)
    (case a_reached => k_is)
    (case l_reached => k_is)
    (case c_reached => k_is)
    (case k_reached => k_is)
    (case a_law_refused => k_is)
    (case l_law_refused => k_is)
    (case c_law_refused => k_is)
    (case k_law_refused => k_is)
    (case a_law => k_is)
    (case l_law => k_is)
    (case c_law => k_is)
    (case k_law => k_is)
    (case z_len => k_is)
    (case z_list => k_is)
    (case z_range => k_is)
    (case z_tuple => k_is)
    (case z_sorted => k_is)
    (case z_isinstance => k_is)
    (case z_int => k_is)
    (case z_bool => k_is)
    (case z_enumerate => k_is)
    (case z_min => k_is)
    (case z_ValueError => k_is)
    (case g_MOST_LETTERS => k_is)
    (case gx_NoRenumbering => k_is)
    (case x_NoRenumbering => k_exc)
    (case kx_NoRenumbering => k_is)
    (case bx_NoRenumbering => k_is)
    (case tx_NoRenumbering => k_is)
    (case gx_NoSquare => k_is)
    (case x_NoSquare => k_exc)
    (case kx_NoSquare => k_is)
    (case bx_NoSquare => k_is)
    (case tx_NoSquare => k_is)
    (case gx_NoWord => k_is)
    (case x_NoWord => k_exc)
    (case kx_NoWord => k_is)
    (case bx_NoWord => k_is)
    (case tx_NoWord => k_is)
    (case gx_TooMany => k_is)
    (case x_TooMany => k_exc)
    (case kx_TooMany => k_is)
    (case bx_TooMany => k_is)
    (case tx_TooMany => k_is)
    (case gx_SheetError => k_is)
    (case sB_TooMany => k_is)
    (case hd_TooMany => k_is)
    (case ty_TooMany => k_is)
    (case su_TooMany_TooMany => k_is)
    (case su_NoWord_TooMany => k_is)
    (case su_NoSquare_TooMany => k_is)
    (case su_NoRenumbering_TooMany => k_is)
    (case hd_SheetError => k_is)
    (case ty_SheetError => k_is)
    (case su_TooMany_SheetError => k_is)
    (case su_SheetError_SheetError => k_is)
    (case e_TooMany_g => k_is)
    (case e_TooMany_k => k_is)
    (case e_TooMany_s => k_is)
    (case e_TooMany_d => k_is)
    (case e_TooMany_a => k_is)
    (case e_TooMany_n => k_is)
    (case e_TooMany_t => k_is)
    (case e_TooMany_m => k_is)
    (case su_TooMany_ValueError => k_is)

