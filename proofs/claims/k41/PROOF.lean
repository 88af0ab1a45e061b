import PyProof.Rows.All
import Wide.All
import OpenK.AllK
import Wide.FinOn
import HandS.ForMost
import HandS.Exc
import HandS.TryOnly
import HandS.ExcOwn
import HandS.WordsExc
import HandS.Zip
import HandS.Iter
import HandS.Rev
import KE.GoesEnum
import KE.LtData
import HandS.Wide
import HandS.Deep
import HandS.Style
import HandS.Text
import HandS.IsInst
import HandS.Conv
import HandS.SortInts
import HandS.Comp
import HandS.Strs
import HandS.Ends
import HandS.TryElse
import HandS.ExcIs
import HandS.More
import HandS.Dict
import KE.DataMinMax
import KE.DataCmp
import KE.SortData
import HandS.MapObj
import PyProof.Rows.StrMul
import HandS.HotCalls
import HandS.Defaults
import HandS.CallSlots
import PyProof.P3In
import HandS.SetFor
import HandS.Replace
import HandS.SetKeys
import PySem.Challenge.RW_squaresheet_k41_rows_of_squares
set_option Elab.async false
set_option linter.all false
set_option maxRecDepth 100000
/-! New tuples, known to the object: they have no dict. -/
namespace Sq
open PySem PySem.Spec PyProof.Rows L2
/-- the tuple at p is new, its object known -/
def NewT (H : Hp) (p : Addr) (xs : List V) (H' : Hp) : Prop := ∃ o : Obj, o.dict = none ∧ H' = upd H p (.frz o (.tup xs))
section
variable {X : Cx} {es : List Expr} {t : TA} {pos : Pos}
theorem laidT {pins : List (Addr × Obj)} {σ : L2.St} {H : Hp} {s : Shared} {h' : Heap} {t' : Nat} {p : Addr} {xs : List V} {its : List Value} {ob : Obj} (I : Inv X pins σ H s) (k : ∀ b o, s.heap.get? b = some o → h'.get? b = some o) (hp : s.heap.objs.size ≤ p)
    (e : h'.get? p = some ob) (hc : ob.cls = .type "tuple") (hd : ob.data = .seq its.toArray 0) (rv : Vals xs its) (hz : xs.length ≤ sizeLine) : Inv X pins σ (upd H p (.frz ob (.tup xs))) { s with heap := h', toks := t' } :=
  I.laid (o := .frz ob (.tup xs)) k hp ⟨e, hz, its, rv, ob, e, hc, _, hd⟩
def tTupF (t : TA) : TE := fun σ H Q => t σ H fun xs H1 => xs.length ≤ sizeLine ∧ ∀ p H', H1 p = none → NewT H1 p xs H' → Q (.ref p) H'
theorem pe_tupF {x1} (h : PA X es t) : PE X (.Tuple es x1 pos) (tTupF t) := by
  refine ⟨fun pins s σ H Q I hq => wpAny_Tuple_spliced (thn (h.run pos pins s σ H _ I hq) fun us s1 ⟨xs, H1, I1, r, z, q⟩ => ⟨by rw [← r.length]; exact z, ?_⟩)⟩
  have hf : H1 s1.heap.objs.size = none := I1.hok.fresh (Nat.le_refl _)
  exact ⟨.ref s1.heap.objs.size, _, laidT (t' := s1.toks) I1 (fun b u e => Heap.get?_push_of_some _ e) (Nat.le_refl _) (Heap.get?_push_size _ rfl) rfl rfl r z, rfl, q _ _ hf ⟨_, rfl, rfl⟩⟩
/-- t + u -/
def rCatF (K : PySem.W.Frag) : R2 := fun x y H Q => ∃ a b xs ys, x = .ref a ∧ y = .ref b ∧ SqT K H a xs ∧ SqT K H b ys ∧ xs ≠ [] ∧ xs.length + ys.length ≤ sizeLine ∧ (ys = [] → Q (.ref a) H) ∧ (ys ≠ [] → ∀ p H', H p = none → NewT H p (xs ++ ys) H' → Q (.ref p) H')
theorem op_catF : OpR X (binaryOp .Add) (rCatF X.K) := by
  intro pins s σ H x y v u Q I rx ry h
  obtain ⟨a, b, xs, ys, rfl, rfl, ha, hb, hx, hz, q1, q2⟩ := h
  cases rx
  cases ry
  obtain ⟨its, r1, p1, _⟩ := I.tuple ha
  obtain ⟨its2, r2, p2, _⟩ := I.tuple hb
  refine HT.cat_tup p1 p2 (fun z => hx (r1.nil_iff.mp z)) (fun z => ⟨.ref a, H, I, rfl, q1 (r2.nil_iff.mp z)⟩) (fun z => ?_) (by rw [← r1.length, ← r2.length]; exact hz)
  exact ⟨.ref s.heap.objs.size, _, laidT (t' := s.toks) I (fun b ob q => Heap.get?_push_of_some _ q) (Nat.le_refl _) (Heap.get?_push_size _ rfl) rfl rfl (r1.append r2) (by rw [List.length_append]; exact hz), rfl, q2 (fun w => z (r2.nil_iff.mpr w)) _ _ (I.hok.fresh (Nat.le_refl _)) ⟨_, rfl, rfl⟩⟩
/-- t[lo:hi], not the whole of it -/
def rSlF (K : PySem.W.Frag) : V → Option Int → Option Int → Hp → VK → Prop := fun x lo hi H Q => ∃ a xs, x = .ref a ∧ SqT K H a xs ∧
  ¬ (HT.sIx xs.length 0 lo = 0 ∧ HT.sIx xs.length xs.length hi = xs.length) ∧ ∀ p H', H p = none → NewT H p (cutV xs lo hi) H' → Q (.ref p) H'
theorem sl_tupF : SlR X (rSlF X.K) := by
  intro pins s σ H x v vl vu lo hi sl Q I rx hs pl pu h
  obtain ⟨a, xs, rfl, hx, hw, q⟩ := h
  cases rx
  obtain ⟨its, r, ht, hz⟩ := I.tuple hx
  have hlen : its.toArray.size = xs.length := by rw [List.size_toArray]; exact r.length.symm
  refine ⟨"tuple", _, PyProof.Rows.slot_tuple_getitem.lookup, ht.typeIs, HT.getItem_tuple_cut ht hs pl pu (by rw [hlen]; exact hw) ?_ (by rw [hlen]; exact hz)⟩
  rw [hlen]
  exact ⟨.ref s.heap.objs.size, _, laidT (t' := s.toks) I (fun b ob q => Heap.get?_push_of_some _ q) (Nat.le_refl _) (Heap.get?_push_size _ rfl) rfl rfl ((r.drop (HT.sIx xs.length 0 lo)).take (HT.sIx xs.length xs.length hi - HT.sIx xs.length 0 lo)) (Nat.le_trans (cutV_length xs lo hi) hz), rfl, q _ _ (I.hok.fresh (Nat.le_refl _)) ⟨_, rfl, rfl⟩⟩
/-- tuple(xs), tuple(t) -/
theorem call_tupleF : CallR X (.type "tuple") (fun xs H Q => ∃ p ys, xs = [.ref p] ∧ ((SqL X.K H p ys ∧ ∀ l H', H l = none → NewT H l ys H' → Q (.ref l) H') ∨ (SqT X.K H p ys ∧ Q (.ref p) H))) := by
  intro pins s σ H xs us Q I r h
  obtain ⟨p, ys, rfl, h⟩ := h
  obtain ⟨u, rfl, rx⟩ := vals1 r
  cases rx
  rcases h with ⟨hq, q⟩ | ⟨hq, q⟩
  · obtain ⟨its, r', pl, hz⟩ := I.list hq
    have hlen := r'.length
    refine call_tuple_list pl.isList (fun h' kp => ?_) (by simp only [List.size_toArray] <;> omega)
    have I1 : Inv X pins σ H { s with heap := h' } := I.kept (t' := s.toks) kp
    exact ⟨.ref h'.objs.size, _, laidT (s := { s with heap := h' }) (h' := h'.push { cls := .type "tuple", data := .seq its.toArray }) (t' := s.toks) I1 (fun b o e => Heap.get?_push_of_some _ e) (Nat.le_refl _) (Heap.get?_push_size _ rfl) rfl rfl r' hz, rfl, q _ _ (I1.hok.fresh (Nat.le_refl _)) ⟨_, rfl, rfl⟩⟩
  · obtain ⟨its, r', pl, hz⟩ := I.tuple hq
    exact call_tuple_same pl ⟨.ref p, H, I, rfl, q⟩
end
/-! enumerate(x), zip(x, y): each item in a new pair -/
/-- what is walked: the items of a list or a tuple -/
def Wk (K : PySem.W.Frag) (l : Bool) (H : Hp) (a : Addr) (xs : List V) : Prop := bif l then SqL K H a xs else SqT K H a xs
def IteF (K : PySem.W.Frag) (l : Bool) (a : Addr) : It :=
  ⟨fun i H => ∃ (xs : List V) (x : V), Wk K l H a xs ∧ xs[i]? = some x, fun i H v H' => ∃ T x, v = .ref T ∧ H T = none ∧ NewT H T [.int (i : Nat), x] H' ∧ ∀ xs, Wk K l H a xs → xs[i]? = some x, fun i H => ∃ xs : List V, Wk K l H a xs ∧ xs.length ≤ i⟩
def ItzF (K : PySem.W.Frag) (l : Bool) (a b : Addr) : It :=
  ⟨fun i H => ∃ (xs ys : List V) (x y : V), Wk K l H a xs ∧ Wk K l H b ys ∧ xs[i]? = some x ∧ ys[i]? = some y,
    fun i H v H' => ∃ T x y, v = .ref T ∧ H T = none ∧ NewT H T [x, y] H' ∧ (∀ xs, Wk K l H a xs → xs[i]? = some x) ∧ ∀ ys, Wk K l H b ys → ys[i]? = some y,
    fun i H => ∃ xs ys : List V, Wk K l H a xs ∧ Wk K l H b ys ∧ (xs.length ≤ i ∨ ys.length ≤ i)⟩
section
variable {P : Program} {w : World} {K : PySem.W.Frag} {elts : List Expr} {kk : Nat} {tpos : Pos}
theorem turned2 {X : Cx} {pins : List (Addr × Obj)} {σ : L2.St} {H : Hp} {s : Shared} {h'' : Heap} {t' : Nat} {ch : List Addr} {x y : V} {u u2 : Value} (I : Inv X pins σ H s) (hf : ∀ b ∈ ch, FpOk X pins H b)
    (k : ∀ b o, b ∉ ch → s.heap.get? b = some o → h''.get? b = some o) (e : h''.get? s.heap.objs.size = some { cls := .type "tuple", data := .seq #[u, u2] }) (ru : RelV x u) (ru2 : RelV y u2) :
    Inv X pins σ (upd H s.heap.objs.size (.frz { cls := .type "tuple", data := .seq #[u, u2] } (.tup [x, y]))) { s with heap := h'', toks := t' } :=
  I.turnedNew (ch := ch) k hf (Nat.le_refl _) ⟨e, by show 2 ≤ sizeLine; decide, [u, u2], .cons ru (.cons ru2 .nil), ⟨_, e, rfl, _, rfl⟩⟩
theorem turn_enF (a e it : Addr) : Turn P w K (.Tuple elts kk tpos) (IteF K true a) [e, it] e (fun i h => (∃ old, IsEnum h e it ((i : Nat) : Int) old) ∧ h.IsListIter it a i ∧ e ≠ it) where
  mem := (turn_enum (P := P) (w := w) (K := K) (elts := elts) (kk := kk) (tpos := tpos) a e it).mem
  obj := (turn_enum (P := P) (w := w) (K := K) (elts := elts) (kk := kk) (tpos := tpos) a e it).obj
  keep := (turn_enum (P := P) (w := w) (K := K) (elts := elts) (kk := kk) (tpos := tpos) a e it).keep
  done := (turn_enum (P := P) (w := w) (K := K) (elts := elts) (kk := kk) (tpos := tpos) a e it).done
  self := (turn_enum (P := P) (w := w) (K := K) (elts := elts) (kk := kk) (tpos := tpos) a e it).self
  item := by
    intro X hP hw hK hc i pins s σ H E I hf st hg
    subst hP hw hK
    obtain ⟨⟨old, he⟩, hit, hne⟩ := st
    obtain ⟨xs, x, hq, hx⟩ := hg
    obtain ⟨its, rv, p, hz⟩ := I.list (show SqL X.K H a xs from hq)
    obtain ⟨u, hu, ru⟩ := rv.get hx
    have hel : e < s.heap.objs.size := Heap.lt_size he
    have hil : it < s.heap.objs.size := by obtain ⟨_, q, _⟩ := hit; exact Heap.lt_size q
    refine wpAny_pyNext_enum_item he hit p.isList (x := u) (by simpa using hu) hne fun h' ho hit' hT hsz hk => ⟨_, rfl, wpAny_letOwnedTupleGo_enum (s := { s with heap := h', toks := s.toks + 1 }) ho fun h'' he' sb => ?_⟩
    have hT2 := (sb.2 _ (Nat.ne_of_gt hel)).trans hT
    have I1 := turned2 (t' := s.toks + 1) (x := .int (i : Nat)) I (ch := [e, it]) hf (fun b ob hb q => (sb.2 b (fun z => hb (by simp [z]))).trans (hk b ob (fun z => hb (by simp [z])) (fun z => hb (by simp [z])) q)) hT2 ⟨_, rfl⟩ ru
    refine ⟨.ref s.heap.objs.size, _, I1, rfl, ⟨_, x, rfl, I.hok.fresh (Nat.le_refl _), ⟨_, rfl, rfl⟩, fun ys hy => by rw [I.list_inj (show SqL X.K H a ys from hy) hq]; exact hx⟩, ⟨⟨u, ?_⟩, hit'.at fun o q => (sb.2 it (Ne.symm hne)).trans q, hne⟩, fun b hb => ?_⟩
    · rw [show ((i + 1 : Nat) : Int) = (i : Int) + 1 by omega]
      exact he'
    · have hb' : b < s.heap.objs.size := by
        have e' : b = e ∨ b = it := by simpa using hb
        rcases e' with z | z
        · rw [z]; exact hel
        · rw [z]; exact hil
      rw [upd_ne (Nat.ne_of_lt hb')]
      exact (hf b hb).1
theorem turn_zpF {a b z TI TO i1 i2 : Addr} (D : ZipApart z TI TO i1 i2 a b) :
    Turn P w K (.Tuple elts kk tpos) (ItzF K true a b) [z, TI, TO, i1, i2] z (fun i h => IsZip h z TI TO .none ∧ IsPair h TI (.ref i1) (.ref i2) ∧ (∃ x y, IsPair h TO x y) ∧ h.IsListIter i1 a i ∧ h.IsListIter i2 b i) where
  mem := (turn_zip (P := P) (w := w) (K := K) (elts := elts) (kk := kk) (tpos := tpos) D).mem
  obj := (turn_zip (P := P) (w := w) (K := K) (elts := elts) (kk := kk) (tpos := tpos) D).obj
  keep := (turn_zip (P := P) (w := w) (K := K) (elts := elts) (kk := kk) (tpos := tpos) D).keep
  done := (turn_zip (P := P) (w := w) (K := K) (elts := elts) (kk := kk) (tpos := tpos) D).done
  self := (turn_zip (P := P) (w := w) (K := K) (elts := elts) (kk := kk) (tpos := tpos) D).self
  item := by
    intro X hP hw hK hc i pins s σ H E I hf st hg
    subst hP hw hK
    obtain ⟨hz, hTI, ⟨x0, y0, hTO⟩, h1, h2⟩ := st
    obtain ⟨xs, ys, x, y, hqx, hqy, hx, hy⟩ := hg
    obtain ⟨its, rv, p, _⟩ := I.list (show SqL X.K H a xs from hqx)
    obtain ⟨its2, rv2, p2, _⟩ := I.list (show SqL X.K H b ys from hqy)
    obtain ⟨u, hu, ru⟩ := rv.get hx
    obtain ⟨u2, hu2, ru2⟩ := rv2.get hy
    have hzl : z < s.heap.objs.size := Heap.lt_size hz
    refine wpAny_pyNext_zip_item D hz hTI hTO h1 h2 p.isList p2.isList (x := u) (y := u2) (by simpa using hu) (by simpa using hu2) fun h' z' TO' h1' h2' hT hsz hk => ⟨_, rfl, wpAny_letOwnedTupleGo_zip (s := { s with heap := h' }) z' fun h'' z'' sb => ?_⟩
    have hT2 := (sb.2 _ (Nat.ne_of_gt hzl)).trans hT
    have I1 := turned2 (t' := s.toks) I (ch := [z, TI, TO, i1, i2]) hf (fun c o hb q => (sb.2 c (fun q' => hb (by simp [q']))).trans (hk c o (fun q' => hb (by simp [q'])) (fun q' => hb (by simp [q'])) (fun q' => hb (by simp [q'])) (fun q' => hb (by simp [q'])) q)) hT2 ru ru2
    refine ⟨.ref s.heap.objs.size, _, I1, rfl, ⟨_, x, y, rfl, I.hok.fresh (Nat.le_refl _), ⟨_, rfl, rfl⟩, fun l hl => by rw [I.list_inj (show SqL X.K H a l from hl) hqx]; exact hx, fun l hl => by rw [I.list_inj (show SqL X.K H b l from hl) hqy]; exact hy⟩, ⟨z'', (sb.2 _ D.TIz).trans (hk _ _ D.TIz D.TITO D.TIi1 D.TIi2 hTI), ⟨u, u2, (sb.2 _ D.TOz).trans TO'⟩, h1'.at fun o q => (sb.2 _ D.i1z).trans q, h2'.at fun o q => (sb.2 _ D.i2z).trans q⟩, fun c hcm => ?_⟩
    have hlt : c < s.heap.objs.size := by
      have e' : c = z ∨ c = TI ∨ c = TO ∨ c = i1 ∨ c = i2 := by simpa using hcm
      rcases e' with q | q | q | q | q
      · rw [q]; exact hzl
      · rw [q]; exact Heap.lt_size hTI
      · rw [q]; exact Heap.lt_size hTO
      · rw [q]; obtain ⟨_, e1, _⟩ := h1; exact Heap.lt_size e1
      · rw [q]; obtain ⟨_, e2, _⟩ := h2; exact Heap.lt_size e2
    rw [upd_ne (Nat.ne_of_lt hlt)]
    exact (hf c hcm).1
theorem turn_zpTF {a b z TI TO i1 i2 : Addr} (D : ZipApart z TI TO i1 i2 a b) :
    Turn P w K (.Tuple elts kk tpos) (ItzF K false a b) [z, TI, TO, i1, i2] z (fun i h => IsZip h z TI TO .none ∧ IsPair h TI (.ref i1) (.ref i2) ∧ (∃ x y, IsPair h TO x y) ∧ h.IsTupleIter i1 a i ∧ h.IsTupleIter i2 b i) where
  mem := (RZ.turn_zipT (P := P) (w := w) (K := K) (elts := elts) (kk := kk) (tpos := tpos) D).mem
  obj := (RZ.turn_zipT (P := P) (w := w) (K := K) (elts := elts) (kk := kk) (tpos := tpos) D).obj
  keep := (RZ.turn_zipT (P := P) (w := w) (K := K) (elts := elts) (kk := kk) (tpos := tpos) D).keep
  done := (RZ.turn_zipT (P := P) (w := w) (K := K) (elts := elts) (kk := kk) (tpos := tpos) D).done
  self := (RZ.turn_zipT (P := P) (w := w) (K := K) (elts := elts) (kk := kk) (tpos := tpos) D).self
  item := by
    intro X hP hw hK hc i pins s σ H E I hf st hg
    subst hP hw hK
    obtain ⟨hz, hTI, ⟨x0, y0, hTO⟩, h1, h2⟩ := st
    obtain ⟨xs, ys, x, y, hqx, hqy, hx, hy⟩ := hg
    obtain ⟨its, rv, p, _⟩ := I.tuple (show SqT X.K H a xs from hqx)
    obtain ⟨its2, rv2, p2, _⟩ := I.tuple (show SqT X.K H b ys from hqy)
    obtain ⟨u, hu, ru⟩ := rv.get hx
    obtain ⟨u2, hu2, ru2⟩ := rv2.get hy
    have hzl : z < s.heap.objs.size := Heap.lt_size hz
    refine RZ.pyNext_zipT_item D hz hTI hTO h1 h2 p p2 (x := u) (y := u2) (by simpa using hu) (by simpa using hu2) fun h' z' TO' h1' h2' hT hsz hk => ⟨_, rfl, wpAny_letOwnedTupleGo_zip (s := { s with heap := h' }) z' fun h'' z'' sb => ?_⟩
    have hT2 := (sb.2 _ (Nat.ne_of_gt hzl)).trans hT
    have I1 := turned2 (t' := s.toks) I (ch := [z, TI, TO, i1, i2]) hf (fun c o hb q => (sb.2 c (fun q' => hb (by simp [q']))).trans (hk c o (fun q' => hb (by simp [q'])) (fun q' => hb (by simp [q'])) (fun q' => hb (by simp [q'])) (fun q' => hb (by simp [q'])) q)) hT2 ru ru2
    refine ⟨.ref s.heap.objs.size, _, I1, rfl, ⟨_, x, y, rfl, I.hok.fresh (Nat.le_refl _), ⟨_, rfl, rfl⟩, fun l hl => by rw [I.tuple_inj (show SqT X.K H a l from hl) hqx]; exact hx, fun l hl => by rw [I.tuple_inj (show SqT X.K H b l from hl) hqy]; exact hy⟩, ⟨z'', (sb.2 _ D.TIz).trans (hk _ _ D.TIz D.TITO D.TIi1 D.TIi2 hTI), ⟨u, u2, (sb.2 _ D.TOz).trans TO'⟩, h1'.at fun o q => (sb.2 _ D.i1z).trans q, h2'.at fun o q => (sb.2 _ D.i2z).trans q⟩, fun c hcm => ?_⟩
    have hlt : c < s.heap.objs.size := by
      have e' : c = z ∨ c = TI ∨ c = TO ∨ c = i1 ∨ c = i2 := by simpa using hcm
      rcases e' with q | q | q | q | q
      · rw [q]; exact hzl
      · rw [q]; exact Heap.lt_size hTI
      · rw [q]; exact Heap.lt_size hTO
      · rw [q]; obtain ⟨_, e1, _⟩ := h1; exact Heap.lt_size e1
      · rw [q]; obtain ⟨_, e2, _⟩ := h2; exact Heap.lt_size e2
    rw [upd_ne (Nat.ne_of_lt hlt)]
    exact (hf c hcm).1
end
section
variable {X : Cx} {e e2 : Expr} {ta : TA} {p pos tpos : Pos} {elts : List Expr} {kk : Nat}
def iZipF (K : PySem.W.Frag) (ta : TA) : TI := fun σ H R => ta σ H fun vs H1 => ∃ a b xs ys, vs = [.ref a, .ref b] ∧ ((SqL K H1 a xs ∧ SqL K H1 b ys ∧ R (ItzF K true a b) H1) ∨ (SqT K H1 a xs ∧ SqT K H1 b ys ∧ R (ItzF K false a b) H1))
theorem pi_zipF (hg : Gl X "zip") (hm : X.mg "zip" = none) (ha : PA X [e, e2] ta)
    (hs : starEach [e, e2] X.env = (false, eval e X.env) :: starEach [e2] X.env := by rfl) (hpl : (backTo pos (starEach [e2] X.env)).any (·.1) = false := by rfl) :
    PI X (.Tuple elts kk tpos) (.Call (.Name "zip" p) [e, e2] [] pos) (iZipF X.K ta) := by
  refine ⟨fun pins s σ H R I h => Call_ (ld_blt I hg hm PyProof.Rows.boot_zip (PyProof.Rows.callWith_type1 (thn (ha.run pos pins s σ H _ I h) fun us s1 ⟨vs, H1, I1, r1, q1⟩ => ?_) hs hpl))⟩
  obtain ⟨a, b, xs, ys, rfl, q1⟩ := q1
  cases r1 with
  | cons r rr =>
    cases rr with
    | cons r' rr =>
      cases rr
      cases r
      cases r'
      have fresh5 : ∀ c, c ∈ [s1.heap.objs.size + 4, s1.heap.objs.size + 2, s1.heap.objs.size + 3, s1.heap.objs.size, s1.heap.objs.size + 1] → FpOk X pins H1 c := fun c hcm => by
        have hle : s1.heap.objs.size ≤ c := by
          simp only [List.mem_cons, List.not_mem_nil, or_false] at hcm
          rcases hcm with z | z | z | z | z <;> rw [z] <;> first | exact Nat.le_add_right _ _ | exact Nat.le_refl _
        exact I1.fpOk hle (I1.hok.fresh hle)
      rcases q1 with ⟨hqx, hqy, q⟩ | ⟨hqx, hqy, q⟩
      · obtain ⟨its, rv, p1, _⟩ := I1.list hqx
        obtain ⟨its2, rv2, p2, _⟩ := I1.list hqy
        exact call_zip_2 p1.isList p2.isList fun h' hz hTI hTO h1 h2 hsz hk => wpAny_pyIter_zip hz ⟨s1.heap.objs.size + 4, _, _, _, H1, rfl, I1.kept (t' := s1.toks) hk, turn_zpF (PySem.W.ktu_apart s1.heap.objs.size a b p1.lt p2.lt), ⟨hz, hTI, ⟨_, _, hTO⟩, h1, h2⟩, fresh5, q⟩
      · obtain ⟨its, rv, p1, _⟩ := I1.tuple hqx
        obtain ⟨its2, rv2, p2, _⟩ := I1.tuple hqy
        obtain ⟨o1, ho1, _⟩ := id p1
        obtain ⟨o2, ho2, _⟩ := id p2
        exact RZ.call_zipT (show s1.heap.IsTuple a its.toArray from p1) (show s1.heap.IsTuple b its2.toArray from p2) fun h' hz hTI hTO h1 h2 hsz hk => wpAny_pyIter_zip hz ⟨s1.heap.objs.size + 4, _, _, _, H1, rfl, I1.kept (t' := s1.toks) hk, turn_zpTF (PySem.W.ktu_apart s1.heap.objs.size a b (Heap.lt_size ho1) (Heap.lt_size ho2)), ⟨hz, hTI, ⟨_, _, hTO⟩, h1, h2⟩, fresh5, q⟩
end
end Sq

/-! Pure readings: values as data, own lists as slots; the core. -/
namespace Sq
open PySem PySem.Spec PyProof.Rows L2

abbrev D := PyData

def Ex (H H' : Hp) : Prop := ∀ a o, H a = some o → H' a = some o
theorem Ex.refl (H : Hp) : Ex H H := fun _ _ h => h
theorem Ex.trans {H H1 H2 : Hp} (a : Ex H H1) (b : Ex H1 H2) : Ex H H2 := fun x o h => b x o (a x o h)
theorem Ex.new {H : Hp} {p : Addr} {o : HO} (h : H p = none) : Ex H (upd H p o) := fun a u e => by
  rw [upd_ne (ne_of_none e h)]
  exact e
theorem Ex.mut {H H' : Hp} {p : Addr} {o : HO} (e : Ex H H') (h : H p = none) : Ex H (upd H' p o) := fun a u ha => by
  rw [upd_ne (ne_of_none ha h)]
  exact e a u ha
theorem Ex.both {H H' : Hp} {p : Addr} {o : HO} (e : Ex H H') : Ex (upd H p o) (upd H' p o) := fun a u ha => by
  by_cases h : a = p
  · subst h
    rw [upd_same] at ha ⊢
    exact ha
  · rw [upd_ne h] at ha ⊢
    exact e a u ha
theorem Ex.back {H H' : Hp} {p : Addr} (e : Ex H H') (h : H' p = none) : H p = none := by
  cases h1 : H p with
  | none => rfl
  | some o =>
    rw [e p o h1] at h
    cases h
theorem ex_rd {H H' : Hp} {a : Addr} {u : HO} (e : Ex H H') (h : Rd H a u) : Rd H' a u := by
  rcases h with h | ⟨o, h⟩
  · exact .inl (e a _ h)
  · exact .inr ⟨o, e a _ h⟩
theorem ex_l {K : PySem.W.Frag} {H H' : Hp} {a : Addr} {xs : List V} (e : Ex H H') (h : SqL K H a xs) : SqL K H' a xs := by
  rcases h with h | h
  · exact .inl (ex_rd e h)
  · exact .inr h
theorem ex_t {K : PySem.W.Frag} {H H' : Hp} {a : Addr} {xs : List V} (e : Ex H H') (h : SqT K H a xs) : SqT K H' a xs := by
  rcases h with h | h
  · exact .inl (ex_rd e h)
  · exact .inr h
/-- the class of a name -/
def clsOf (K : PySem.W.Frag) (c : Str) : Addr := match PySem.W.nsIn K mainGlobals c with
  | some (some (.ref a)) => a
  | _ => 0
/-! data: as in the library, but a tuple is known to have no dict; and instances -/
mutual
inductive Dp (K : PySem.W.Frag) (H : Hp) : V → PyData → Prop
  | non : Dp K H .non .none
  | bl (b : Bool) : Dp K H (.bl b) (.bool b)
  | int (i : Int) : Dp K H (.int i) (.int i)
  | str (x : Str) : Dp K H (.str x) (.str x)
  | lst {a : Addr} {xs : List V} {ds : List PyData} : SqL K H a xs → DpAll K H xs ds → Dp K H (.ref a) (.list ds)
  | tup {a : Addr} {o : Obj} {xs : List V} {ds : List PyData} : H a = some (.frz o (.tup xs)) → o.dict = none → DpAll K H xs ds → Dp K H (.ref a) (.tuple ds)
  | obj {a dx : Addr} {c : Str} {vs : List (Str × V)} {fs : List (PyData × PyData)} : H a = some (.ins (clsOf K c) dx vs) → DpFs K H vs fs → Dp K H (.ref a) (.dict ((.str c, .none) :: fs))
inductive DpAll (K : PySem.W.Frag) (H : Hp) : List V → List PyData → Prop
  | nil : DpAll K H [] []
  | cons {v : V} {vs : List V} {d : PyData} {ds : List PyData} : Dp K H v d → DpAll K H vs ds → DpAll K H (v :: vs) (d :: ds)
inductive DpFs (K : PySem.W.Frag) (H : Hp) : List (Str × V) → List (PyData × PyData) → Prop
  | nil : DpFs K H [] []
  | cons {f : Str} {v : V} {vs : List (Str × V)} {d : PyData} {ds : List (PyData × PyData)} : Dp K H v d → DpFs K H vs ds → DpFs K H ((f, v) :: vs) ((.str f, d) :: ds)
end
mutual
theorem ex_dp {K : PySem.W.Frag} {H H' : Hp} (e : Ex H H') : ∀ {v : V} {d : D}, Dp K H v d → Dp K H' v d
  | _, _, .non => .non
  | _, _, .bl b => .bl b
  | _, _, .int i => .int i
  | _, _, .str x => .str x
  | _, _, .lst h ha => .lst (ex_l e h) (ex_dpa e ha)
  | _, _, .tup h hd ha => .tup (e _ _ h) hd (ex_dpa e ha)
  | _, _, .obj h hf => .obj (e _ _ h) (ex_dpf e hf)
theorem ex_dpa {K : PySem.W.Frag} {H H' : Hp} (e : Ex H H') : ∀ {vs : List V} {ds : List D}, DpAll K H vs ds → DpAll K H' vs ds
  | _, _, .nil => .nil
  | _, _, .cons h t => .cons (ex_dp e h) (ex_dpa e t)
theorem ex_dpf {K : PySem.W.Frag} {H H' : Hp} (e : Ex H H') : ∀ {vs : List (Str × V)} {ds : List (PyData × PyData)}, DpFs K H vs ds → DpFs K H' vs ds
  | _, _, .nil => .nil
  | _, _, .cons h t => .cons (ex_dp e h) (ex_dpf e t)
end
/-! no instance within: data as in the library -/
mutual
def noOb : D → Bool
  | .list xs => noObA xs
  | .tuple xs => noObA xs
  | .dict _ => false
  | .none => true
  | .bool _ => true
  | .int _ => true
  | .str _ => true
def noObA : List D → Bool
  | [] => true
  | x :: xs => noOb x && noObA xs
end
mutual
theorem Dp.l2 {K : PySem.W.Frag} {H : Hp} : ∀ {v : V} {d : D}, Dp K H v d → noOb d = true → L2.Dp K H v d
  | _, _, .non, _ => .non
  | _, _, .bl b, _ => .bl b
  | _, _, .int i, _ => .int i
  | _, _, .str x, _ => .str x
  | _, _, .lst h ha, n => .lst h (DpAll.l2 ha (by rw [noOb] at n; exact n))
  | _, _, .tup h _ ha, n => .tup (.inl (.inr ⟨_, h⟩)) (DpAll.l2 ha (by rw [noOb] at n; exact n))
  | _, _, .obj h hf, n => absurd n (by rw [noOb]; decide)
theorem DpAll.l2 {K : PySem.W.Frag} {H : Hp} : ∀ {vs : List V} {ds : List D}, DpAll K H vs ds → noObA ds = true → L2.DpAll K H vs ds
  | _, _, .nil, _ => .nil
  | _, _, .cons h t, n => by
    rw [noObA, Bool.and_eq_true] at n
    exact .cons (Dp.l2 h n.1) (DpAll.l2 t n.2)
end
mutual
theorem noOb_lay : ∀ d : D, d.canLay0 = true → noOb d = true
  | .none, _ => by rw [noOb]
  | .bool _, _ => by rw [noOb]
  | .int _, _ => by rw [noOb]
  | .str _, _ => by rw [noOb]
  | .list xs, h => by rw [noOb]; rw [PyData.canLay0] at h; exact noOb_layA xs h
  | .tuple xs, h => by rw [noOb]; rw [PyData.canLay0] at h; exact noOb_layA xs h
  | .dict _, h => by rw [PyData.canLay0] at h; cases h
theorem noOb_layA : ∀ ds : List D, PyData.canLayAll0 ds = true → noObA ds = true
  | [], _ => by rw [noObA]
  | x :: xs, h => by
    rw [PyData.canLayAll0, Bool.and_eq_true] at h
    rw [noObA, noOb_lay x h.1, noOb_layA xs h.2]
    rfl
end
theorem noOb_shaped {d : D} (h : SeqAt.shaped d = true) : noOb d = true := by
  unfold SeqAt.shaped at h
  rw [Bool.and_eq_true] at h
  exact noOb_lay d h.1
mutual
theorem noOb_alike : ∀ d : D, PySem.W.alike d d = true → noOb d = true
  | .none, _ => by rw [noOb]
  | .bool _, _ => by rw [noOb]
  | .int _, _ => by rw [noOb]
  | .str _, _ => by rw [noOb]
  | .list xs, h => by rw [noOb]; rw [PySem.W.alike] at h; exact noOb_alikeA xs h
  | .tuple xs, h => by rw [noOb]; rw [PySem.W.alike] at h; exact noOb_alikeA xs h
  | .dict _, h => by simp [PySem.W.alike] at h
theorem noOb_alikeA : ∀ ds : List D, PySem.W.alikeAll ds ds = true → noObA ds = true
  | [], _ => by rw [noObA]
  | x :: xs, h => by
    rw [PySem.W.alikeAll, Bool.and_eq_true] at h
    rw [noObA, noOb_alike x h.1, noOb_alikeA xs h.2]
    rfl
end
theorem noObA_all {ds : List D} : noObA ds = ds.all noOb := by
  induction ds with
  | nil => rw [noObA]; rfl
  | cons x xs ih => rw [noObA, ih, List.all_cons]
theorem DpAll.len {K : PySem.W.Frag} {H : Hp} : ∀ {vs : List V} {ds : List PyData}, DpAll K H vs ds → vs.length = ds.length
  | _, _, .nil => rfl
  | _, _, .cons _ t => congrArg (· + 1) (DpAll.len t)
theorem DpAll.get {K : PySem.W.Frag} {H : Hp} : ∀ {vs : List V} {ds : List PyData} {i : Nat} {d : PyData}, DpAll K H vs ds → ds[i]? = some d → ∃ v, vs[i]? = some v ∧ Dp K H v d
  | _, _, _, _, .nil, e => by simp at e
  | _, _, 0, _, .cons h t, e => ⟨_, rfl, by
    have e' : some _ = some _ := e
    cases e'
    exact h⟩
  | _, _, i + 1, d, .cons h t, e => by
    obtain ⟨v, h1, h2⟩ := DpAll.get (i := i) (d := d) t (by simpa using e)
    exact ⟨v, by simpa using h1, h2⟩
theorem DpAll.getV {K : PySem.W.Frag} {H : Hp} : ∀ {vs : List V} {ds : List PyData} {i : Nat} {v : V}, DpAll K H vs ds → vs[i]? = some v → ∃ d, ds[i]? = some d ∧ Dp K H v d
  | _, _, _, _, .nil, e => by simp at e
  | _, _, 0, _, .cons h t, e => ⟨_, rfl, by
    have e' : some _ = some _ := e
    cases e'
    exact h⟩
  | _, _, i + 1, v, .cons h t, e => by
    obtain ⟨d, h1, h2⟩ := DpAll.getV (i := i) (v := v) t (by simpa using e)
    exact ⟨d, by simpa using h1, h2⟩
theorem DpAll.append {K : PySem.W.Frag} {H : Hp} : ∀ {vs ws : List V} {ds es : List PyData}, DpAll K H vs ds → DpAll K H ws es → DpAll K H (vs ++ ws) (ds ++ es)
  | _, _, _, _, .nil, s => s
  | _, _, _, _, .cons r t, s => .cons r (DpAll.append t s)
theorem DpAll.set {K : PySem.W.Frag} {H : Hp} {v : V} {d : PyData} (r : Dp K H v d) : ∀ {vs : List V} {ds : List PyData} (i : Nat), DpAll K H vs ds → DpAll K H (vs.set i v) (ds.set i d)
  | _, _, _, .nil => .nil
  | _, _, 0, .cons _ t => .cons r t
  | _, _, i + 1, .cons q t => .cons q (DpAll.set r i t)
theorem DpAll.take {K : PySem.W.Frag} {H : Hp} : ∀ {vs : List V} {ds : List PyData} (n : Nat), DpAll K H vs ds → DpAll K H (vs.take n) (ds.take n)
  | _, _, 0, _ => .nil
  | _, _, _ + 1, .nil => .nil
  | _, _, n + 1, .cons r t => .cons r (DpAll.take n t)
theorem DpAll.drop {K : PySem.W.Frag} {H : Hp} : ∀ {vs : List V} {ds : List PyData} (n : Nat), DpAll K H vs ds → DpAll K H (vs.drop n) (ds.drop n)
  | _, _, 0, r => r
  | _, _, _ + 1, .nil => .nil
  | _, _, n + 1, .cons _ t => DpAll.drop n t
theorem DpAll.eraseIdx {K : PySem.W.Frag} {H : Hp} : ∀ {vs : List V} {ds : List PyData} (n : Nat), DpAll K H vs ds → DpAll K H (vs.eraseIdx n) (ds.eraseIdx n)
  | _, _, _, .nil => .nil
  | _, _, 0, .cons _ t => t
  | _, _, n + 1, .cons r t => .cons r (DpAll.eraseIdx n t)
theorem DpAll.snoc {K : PySem.W.Frag} {H : Hp} {vs : List V} {ds : List PyData} {v : V} {d : PyData} (a : DpAll K H vs ds) (h : Dp K H v d) : DpAll K H (vs ++ [v]) (ds ++ [d]) := a.append (.cons h .nil)
theorem DpAll.reverse {K : PySem.W.Frag} {H : Hp} : ∀ {vs : List V} {ds : List PyData}, DpAll K H vs ds → DpAll K H vs.reverse ds.reverse
  | _, _, .nil => .nil
  | _, _, .cons r t => by
    rw [List.reverse_cons, List.reverse_cons]
    exact (DpAll.reverse t).snoc r

/-! ### slots, results -/
inductive Sl where
  /-- not known -/
  | u
  /-- data that stays; data that stays while the call runs (it may lie in an argument that the caller changes later) -/
  | v (d : D)
  | b (d : D)
  /-- a list of one's own, a dict of one's own -/
  | o (xs : List D)
  | k (kvs : List (Key × D))
  | t (kvs : List (List Key × D))
  /-- the exception of a suite -/
  | x (a : Addr)
  /-- an instance of one's own -/
  | i (c : Str) (fs : List (Str × D))
  /-- the instance at that address -/
  | j (a : Addr) (c : Str) (fs : List (Str × D))
  /-- a list of one's own, of new lists of flat things; such a one that stays for a while, at that address -/
  | y (xss : List (List D))
  | z (l : Addr) (xss : List (List D))
  /-- a list of flat things that stays for a while, that no data holds -/
  | e (xs : List D)
abbrev Env := List Sl
/-- what an expression gives -/
inductive Rv where
  | v (d : D)
  | b (d : D)
  /-- readable here and now -/
  | r (d : D)
  /-- an own list seen; a new list -/
  | w (xs : List D)
  | o (xs : List D)
  /-- own dicts seen; new ones -/
  | wk (kvs : List (Key × D))
  | ok (kvs : List (Key × D))
  | wt (kvs : List (List Key × D))
  | ot (kvs : List (List Key × D))
  /-- two new lists in a new tuple -/
  | p2 (xs ys : List D)
  /-- an own instance seen; a new one -/
  | wi (c : Str) (fs : List (Str × D))
  | oi (c : Str) (fs : List (Str × D))
  /-- a new list of new lists of flat things -/
  | y (xss : List (List D))
inductive Er (α : Type) where
  | ok (a : α)
  | exc (c : Str) (p : Option (Str × D))
  | bad
def Er.bind {α β : Type} : Er α → (α → Er β) → Er β
  | .ok a, f => f a
  | .exc c p, _ => .exc c p
  | .bad, _ => .bad
/-- an instance as data -/
def ob (c : Str) (fs : List (Str × D)) : D := .dict ((.str c, .none) :: fs.map fun p => (.str p.1, p.2))
def Rv.dat : Rv → Option D
  | .v d => some d
  | .b d => some d
  | .r d => some d
  | .w xs => some (.list xs)
  | .o xs => some (.list xs)
  | .wi c fs => some (ob c fs)
  | .oi c fs => some (ob c fs)
  | _ => none
abbrev EF := Env → Er Rv

/-- three heaps: what stays, what stays while the call runs, all -/
structure Hs where
  G : Hp
  F : Hp
  H : Hp
structure Ch (h : Hs) : Prop where
  gf : Ex h.G h.F
  fh : Ex h.F h.H
theorem Ch.gh {h : Hs} (c : Ch h) : Ex h.G h.H := c.gf.trans c.fh

def KvD (K : PySem.W.Frag) (G : Hp) {κ : Type} : List (κ × V) → List (κ × D) → Prop := Paired fun p q => p.1 = q.1 ∧ Dp K G p.2 q.2
theorem kv_dpfs {K : PySem.W.Frag} {G : Hp} : ∀ {vs : List (Str × V)} {fs : List (Str × D)}, KvD K G vs fs → DpFs K G vs (fs.map fun p => (.str p.1, p.2))
  | _, _, .nil => .nil
  | (f, v) :: vs, (g, d) :: fs, .cons ⟨e, h⟩ t => by
    cases (show f = g from e)
    exact .cons h (kv_dpfs t)
theorem dpfs_kv {K : PySem.W.Frag} {G : Hp} : ∀ {vs : List (Str × V)} {ds : List (PyData × PyData)}, DpFs K G vs ds → ∃ fs : List (Str × D), ds = fs.map (fun p => (.str p.1, p.2)) ∧ KvD K G vs fs
  | _, _, .nil => ⟨[], rfl, .nil⟩
  | _, _, .cons (f := f) (d := d) h t => by
    obtain ⟨fs, e, k⟩ := dpfs_kv t
    exact ⟨(f, d) :: fs, by rw [e]; rfl, .cons ⟨rfl, h⟩ k⟩
theorem KvD.ex {K : PySem.W.Frag} {G G' : Hp} {κ : Type} {l : List (κ × V)} {m : List (κ × D)} (e : Ex G G') (h : KvD K G l m) : KvD K G' l m := Paired.mapP h fun _ _ q => ⟨q.1, ex_dp e q.2⟩

/-- lists of flat things that no data holds -/
def Ys (K : PySem.W.Frag) (F G : Hp) : List Addr → List (List D) → Prop := Paired fun m xs => ∃ vs, F m = some (.lst vs) ∧ G m = none ∧ ∀ G0, DpAll K G0 vs xs
theorem gNone {F G G' : Hp} {m : Addr} {u : HO} (gn : ∀ a o, G' a = some o → G a = none → F a = none) (a : F m = some u) (b : G m = none) : G' m = none := by
  cases q : G' m with
  | none => rfl
  | some o =>
    rw [gn m o q b] at a
    cases a
theorem Ys.ex {K : PySem.W.Frag} {F G F' G' : Hp} {ms : List Addr} {xss : List (List D)} (f : Ex F F') (gn : ∀ a o, G' a = some o → G a = none → F a = none) (h : Ys K F G ms xss) : Ys K F' G' ms xss := Paired.mapP h fun m xs ⟨vs, a, b, c⟩ => ⟨vs, f _ _ a, gNone gn a b, c⟩
def refsOf (ms : List Addr) : List V := ms.map V.ref

/-- what stands in a slot -/
def SlOk (K : PySem.W.Frag) (h : Hs) (x : Option V) : Sl → Prop
  | .u => True
  | .x a => x = some (.ref a)
  | .v d => ∃ v, x = some v ∧ Dp K h.G v d
  | .b d => ∃ v, x = some v ∧ Dp K h.F v d
  | .o xs => ∃ l vs, x = some (.ref l) ∧ h.H l = some (.lst vs) ∧ h.F l = none ∧ DpAll K h.G vs xs
  | .k kvs => ∃ l vs, x = some (.ref l) ∧ h.H l = some (.dK vs) ∧ h.F l = none ∧ KvD K h.G vs kvs
  | .t kvs => ∃ l vs, x = some (.ref l) ∧ h.H l = some (.dT vs) ∧ h.F l = none ∧ KvD K h.G vs kvs
  | .i c fs => ∃ l vs dx, x = some (.ref l) ∧ h.H l = some (.ins (clsOf K c) dx vs) ∧ h.F l = none ∧ KvD K h.G vs fs
  | .j l c fs => ∃ vs dx, x = some (.ref l) ∧ h.H l = some (.ins (clsOf K c) dx vs) ∧ h.F l = none ∧ KvD K h.G vs fs
  | .y xss => ∃ l ms, x = some (.ref l) ∧ h.H l = some (.lst (refsOf ms)) ∧ h.F l = none ∧ Ys K h.F h.G ms xss
  | .z l xss => ∃ ms, x = some (.ref l) ∧ h.F l = some (.lst (refsOf ms)) ∧ h.G l = none ∧ Ys K h.F h.G ms xss
  | .e xs => ∃ m vs, x = some (.ref m) ∧ h.F m = some (.lst vs) ∧ h.G m = none ∧ ∀ G0, DpAll K G0 vs xs
def Sl.own : Sl → Bool
  | .o _ => true
  | .k _ => true
  | .t _ => true
  | .i _ _ => true
  | .j _ _ _ => true
  | .y _ => true
  | _ => false
structure Rel (K : PySem.W.Frag) (h : Hs) (ρ : Env) (σ : L2.St) : Prop where
  ch : Ch h
  len : ρ.length = σ.length
  at_ : ∀ (i : Nat) (s : Sl) (x : Option V), ρ[i]? = some s → σ[i]? = some x → SlOk K h x s
  dis : ∀ (i j : Nat) (s t : Sl) (l m : Addr), i ≠ j → ρ[i]? = some s → ρ[j]? = some t → s.own = true → t.own = true → σ[i]? = some (some (.ref l)) → σ[j]? = some (some (.ref m)) → l ≠ m
/-- how the heaps grow: through an expression; through a statement -/
structure Gr (h h' : Hs) : Prop where
  g : Ex h.G h'.G
  f : Ex h.F h'.F
  x : Ex h.H h'.H
  gn : ∀ a o, h'.G a = some o → h.G a = none → h.F a = none
  fn : ∀ a o, h'.F a = some o → h.F a = none → h.H a = none
structure SG (h h' : Hs) : Prop where
  g : Ex h.G h'.G
  f : Ex h.F h'.F
  gn : ∀ a o, h'.G a = some o → h.G a = none → h.F a = none
theorem Gr.sg {h h' : Hs} (g : Gr h h') : SG h h' := ⟨g.g, g.f, g.gn⟩
theorem Gr.refl (h : Hs) : Gr h h := ⟨Ex.refl _, Ex.refl _, Ex.refl _, fun a o e n => by (rw [n] at e; cases e), fun a o e n => by (rw [n] at e; cases e)⟩
theorem SG.refl (h : Hs) : SG h h := (Gr.refl h).sg
theorem SG.trans {h h1 h2 : Hs} (a : SG h h1) (b : SG h1 h2) : SG h h2 := ⟨a.g.trans b.g, a.f.trans b.f, fun x o e n => by
  cases q : h1.G x with
  | none => exact a.f.back (b.gn x o e q)
  | some u => exact a.gn x u q n⟩
theorem Gr.trans {h h1 h2 : Hs} (a : Gr h h1) (b : Gr h1 h2) : Gr h h2 := ⟨a.g.trans b.g, a.f.trans b.f, a.x.trans b.x, (a.sg.trans b.sg).gn, fun x o e n => by
  cases q : h1.F x with
  | none => exact a.x.back (b.fn x o e q)
  | some u => exact a.fn x u q n⟩
theorem Gr.keepN {h h' : Hs} (g : Gr h h') {l : Addr} {o : HO} (a : h.F l = none) (b : h.H l = some o) : h'.F l = none := by
  cases q : h'.F l with
  | none => rfl
  | some u =>
    rw [g.fn l u q a] at b
    cases b
theorem SlOk.grow {K : PySem.W.Frag} {h h' : Hs} {x : Option V} (g : Gr h h') : ∀ {s : Sl}, SlOk K h x s → SlOk K h' x s
  | .u, _ => trivial
  | .x a, q => q
  | .v d, ⟨v, e, q⟩ => ⟨v, e, ex_dp g.g q⟩
  | .b d, ⟨v, e, q⟩ => ⟨v, e, ex_dp g.f q⟩
  | .o xs, ⟨l, vs, e, a, b, q⟩ => ⟨l, vs, e, g.x _ _ a, g.keepN b a, ex_dpa g.g q⟩
  | .k xs, ⟨l, vs, e, a, b, q⟩ => ⟨l, vs, e, g.x _ _ a, g.keepN b a, q.ex g.g⟩
  | .t xs, ⟨l, vs, e, a, b, q⟩ => ⟨l, vs, e, g.x _ _ a, g.keepN b a, q.ex g.g⟩
  | .i c xs, ⟨l, vs, dx, e, a, b, q⟩ => ⟨l, vs, dx, e, g.x _ _ a, g.keepN b a, q.ex g.g⟩
  | .j l c xs, ⟨vs, dx, e, a, b, q⟩ => ⟨vs, dx, e, g.x _ _ a, g.keepN b a, q.ex g.g⟩
  | .y xss, ⟨l, ms, e, a, b, q⟩ => ⟨l, ms, e, g.x _ _ a, g.keepN b a, q.ex g.f g.gn⟩
  | .z l xss, ⟨ms, e, a, b, q⟩ => ⟨ms, e, g.f _ _ a, gNone g.gn a b, q.ex g.f g.gn⟩
  | .e xs, ⟨m, vs, e, a, b, q⟩ => ⟨m, vs, e, g.f _ _ a, gNone g.gn a b, q⟩
theorem Rel.grow {K : PySem.W.Frag} {h h' : Hs} {ρ : Env} {σ : L2.St} (r : Rel K h ρ σ) (g : Gr h h') (c : Ch h') : Rel K h' ρ σ :=
  ⟨c, r.len, fun i s x a b => (r.at_ i s x a b).grow g, r.dis⟩
/-- the own object of a slot is known to all -/
theorem Rel.ownH {K : PySem.W.Frag} {h : Hs} {ρ : Env} {σ : L2.St} (r : Rel K h ρ σ) {i : Nat} {s : Sl} {l : Addr} (a : ρ[i]? = some s) (b : s.own = true) (c : σ[i]? = some (some (.ref l))) : (∃ o, h.H l = some o) ∧ h.F l = none := by
  have q := r.at_ i s _ a c
  cases s with
  | o xs =>
    obtain ⟨m, vs, e, x, y, _⟩ := q
    cases e
    exact ⟨⟨_, x⟩, y⟩
  | k xs =>
    obtain ⟨m, vs, e, x, y, _⟩ := q
    cases e
    exact ⟨⟨_, x⟩, y⟩
  | t xs =>
    obtain ⟨m, vs, e, x, y, _⟩ := q
    cases e
    exact ⟨⟨_, x⟩, y⟩
  | i c xs =>
    obtain ⟨m, vs, dx, e, x, y, _⟩ := q
    cases e
    exact ⟨⟨_, x⟩, y⟩
  | j m c xs =>
    obtain ⟨vs, dx, e, x, y, _⟩ := q
    cases e
    exact ⟨⟨_, x⟩, y⟩
  | y xss =>
    obtain ⟨m, ms, e, x, y, _⟩ := q
    cases e
    exact ⟨⟨_, x⟩, y⟩
  | z l xss => cases b
  | e xs => cases b
  | u => cases b
  | x a => cases b
  | v d => cases b
  | b d => cases b
theorem Rel.ownRef {K : PySem.W.Frag} {h : Hs} {ρ : Env} {σ : L2.St} (r : Rel K h ρ σ) {i : Nat} {s : Sl} (a : ρ[i]? = some s) (b : s.own = true) : ∃ l, σ[i]? = some (some (.ref l)) := by
  have hi : i < σ.length := by
    rw [← r.len]
    exact (List.getElem?_eq_some_iff.mp a).1
  have e : σ[i]? = some σ[i] := List.getElem?_eq_getElem hi
  have q := r.at_ i s _ a e
  cases s with
  | o xs =>
    obtain ⟨m, vs, e2, _⟩ := q
    exact ⟨m, by rw [e, e2]⟩
  | k xs =>
    obtain ⟨m, vs, e2, _⟩ := q
    exact ⟨m, by rw [e, e2]⟩
  | t xs =>
    obtain ⟨m, vs, e2, _⟩ := q
    exact ⟨m, by rw [e, e2]⟩
  | i c xs =>
    obtain ⟨m, vs, dx, e2, _⟩ := q
    exact ⟨m, by rw [e, e2]⟩
  | j m c xs =>
    obtain ⟨vs, dx, e2, _⟩ := q
    exact ⟨m, by rw [e, e2]⟩
  | y xss =>
    obtain ⟨m, ms, e2, _⟩ := q
    exact ⟨m, by rw [e, e2]⟩
  | z l xss => cases b
  | e xs => cases b
  | u => cases b
  | x a => cases b
  | v d => cases b
  | b d => cases b

/-- a result lies there; h0: the heap ahead of it -/
def RvOk (K : PySem.W.Frag) (H0 : Hp) (h : Hs) (v : V) : Rv → Prop
  | .v d => Dp K h.G v d
  | .b d => Dp K h.F v d
  | .r d => Dp K h.H v d
  | .w xs => ∃ l vs, v = .ref l ∧ h.H l = some (.lst vs) ∧ DpAll K h.G vs xs
  | .o xs => ∃ l vs, v = .ref l ∧ H0 l = none ∧ h.H l = some (.lst vs) ∧ h.F l = none ∧ DpAll K h.G vs xs
  | .wk xs => ∃ l vs, v = .ref l ∧ h.H l = some (.dK vs) ∧ KvD K h.G vs xs
  | .ok xs => ∃ l vs, v = .ref l ∧ H0 l = none ∧ h.H l = some (.dK vs) ∧ h.F l = none ∧ KvD K h.G vs xs
  | .wt xs => ∃ l vs, v = .ref l ∧ h.H l = some (.dT vs) ∧ KvD K h.G vs xs
  | .ot xs => ∃ l vs, v = .ref l ∧ H0 l = none ∧ h.H l = some (.dT vs) ∧ h.F l = none ∧ KvD K h.G vs xs
  | .wi c fs => ∃ l vs dx, v = .ref l ∧ h.H l = some (.ins (clsOf K c) dx vs) ∧ KvD K h.G vs fs
  | .oi c fs => ∃ l vs dx, v = .ref l ∧ H0 l = none ∧ h.H l = some (.ins (clsOf K c) dx vs) ∧ h.F l = none ∧ KvD K h.G vs fs
  | .p2 xs ys => ∃ t l m vs ws, v = .ref t ∧ h.H t = some (.tup [.ref l, .ref m]) ∧ l ≠ m ∧ (H0 l = none ∧ h.H l = some (.lst vs) ∧ h.F l = none ∧ DpAll K h.G vs xs) ∧ (H0 m = none ∧ h.H m = some (.lst ws) ∧ h.F m = none ∧ DpAll K h.G ws ys)
  | .y _ => False
theorem RvOk.grow {K : PySem.W.Frag} {H0 : Hp} {h h' : Hs} {v : V} (g : Gr h h') : ∀ {r : Rv}, RvOk K H0 h v r → RvOk K H0 h' v r
  | .v d, q => ex_dp g.g q
  | .b d, q => ex_dp g.f q
  | .r d, q => ex_dp g.x q
  | .w xs, ⟨l, vs, e, a, q⟩ => ⟨l, vs, e, g.x _ _ a, ex_dpa g.g q⟩
  | .o xs, ⟨l, vs, e, n, a, b, q⟩ => ⟨l, vs, e, n, g.x _ _ a, g.keepN b a, ex_dpa g.g q⟩
  | .wk xs, ⟨l, vs, e, a, q⟩ => ⟨l, vs, e, g.x _ _ a, q.ex g.g⟩
  | .ok xs, ⟨l, vs, e, n, a, b, q⟩ => ⟨l, vs, e, n, g.x _ _ a, g.keepN b a, q.ex g.g⟩
  | .wt xs, ⟨l, vs, e, a, q⟩ => ⟨l, vs, e, g.x _ _ a, q.ex g.g⟩
  | .ot xs, ⟨l, vs, e, n, a, b, q⟩ => ⟨l, vs, e, n, g.x _ _ a, g.keepN b a, q.ex g.g⟩
  | .wi c xs, ⟨l, vs, dx, e, a, q⟩ => ⟨l, vs, dx, e, g.x _ _ a, q.ex g.g⟩
  | .oi c xs, ⟨l, vs, dx, e, n, a, b, q⟩ => ⟨l, vs, dx, e, n, g.x _ _ a, g.keepN b a, q.ex g.g⟩
  | .p2 xs ys, ⟨t, l, m, vs, ws, e, ht, ne, ⟨n, a, b, q⟩, ⟨n2, a2, b2, q2⟩⟩ => ⟨t, l, m, vs, ws, e, g.x _ _ ht, ne, ⟨n, g.x _ _ a, g.keepN b a, ex_dpa g.g q⟩, ⟨n2, g.x _ _ a2, g.keepN b2 a2, ex_dpa g.g q2⟩⟩
  | .y _, q => q
theorem RvOk.old {K : PySem.W.Frag} {H0 H1 : Hp} {h : Hs} {v : V} (g : Ex H0 H1) : ∀ {r : Rv}, RvOk K H1 h v r → RvOk K H0 h v r
  | .v d, q => q
  | .b d, q => q
  | .r d, q => q
  | .w xs, q => q
  | .o xs, ⟨l, vs, e, n, q⟩ => ⟨l, vs, e, g.back n, q⟩
  | .wk xs, q => q
  | .ok xs, ⟨l, vs, e, n, q⟩ => ⟨l, vs, e, g.back n, q⟩
  | .wt xs, q => q
  | .ot xs, ⟨l, vs, e, n, q⟩ => ⟨l, vs, e, g.back n, q⟩
  | .wi c xs, q => q
  | .oi c xs, ⟨l, vs, dx, e, n, q⟩ => ⟨l, vs, dx, e, g.back n, q⟩
  | .p2 xs ys, ⟨t, l, m, vs, ws, e, ht, ne, ⟨n, q⟩, ⟨n2, q2⟩⟩ => ⟨t, l, m, vs, ws, e, ht, ne, ⟨g.back n, q⟩, ⟨g.back n2, q2⟩⟩
  | .y _, q => q
/-- read as data -/
theorem RvOk.dp {K : PySem.W.Frag} {H0 : Hp} {h : Hs} {v : V} (c : Ch h) : ∀ {r : Rv} {d : D}, RvOk K H0 h v r → r.dat = some d → Dp K h.H v d
  | .v _, _, q, e => by cases e; exact ex_dp c.gh q
  | .b _, _, q, e => by cases e; exact ex_dp c.fh q
  | .r _, _, q, e => by cases e; exact q
  | .w _, _, ⟨l, vs, e1, a, q⟩, e => by cases e; subst e1; exact .lst (.of a) (ex_dpa c.gh q)
  | .o _, _, ⟨l, vs, e1, n, a, b, q⟩, e => by cases e; subst e1; exact .lst (.of a) (ex_dpa c.gh q)
  | .wi _ _, _, ⟨l, vs, dx, e1, a, q⟩, e => by cases e; subst e1; exact .obj a (kv_dpfs (q.ex c.gh))
  | .oi _ _, _, ⟨l, vs, dx, e1, n, a, b, q⟩, e => by cases e; subst e1; exact .obj a (kv_dpfs (q.ex c.gh))

/-! ### readings -/
/-- what is wanted of an exception: its class by name, its one field -/
abbrev WF := Str → Option (Str × D) → L2.St → Hs → Prop
section
variable (K : PySem.W.Frag) (W : WF)
def tX (f : EF) : TE := fun σ H Q => ∃ h ρ, h.H = H ∧ Rel K h ρ σ ∧
  match f ρ with
  | .ok r => ∀ v h', Rel K h' ρ σ → Gr h h' → RvOk K h.H h' v r → Q v h'.H
  | .exc c p => ∀ h', Rel K h' ρ σ → Gr h h' → W c p σ h'
  | .bad => False
/-- a test -/
def tXt (f : Env → Er Bool) : TT := fun σ H Q => ∃ h ρ, h.H = H ∧ Rel K h ρ σ ∧
  match f ρ with
  | .ok b => ∀ h', Rel K h' ρ σ → Gr h h' → Q b h'.H
  | .exc c p => ∀ h', Rel K h' ρ σ → Gr h h' → W c p σ h'
  | .bad => False
end
/-- a result as it is put into something else: new lists are frozen -/
def Rv.frz : Rv → Er Rv
  | .v d => .ok (.v d)
  | .b d => .ok (.b d)
  | .r d => .ok (.r d)
  | .w xs => .ok (.r (.list xs))
  | .o xs => .ok (.v (.list xs))
  | .wi c fs => .ok (.r (ob c fs))
  | .oi c fs => .ok (.v (ob c fs))
  | _ => .bad
end Sq

/-! Expressions. -/
namespace Sq
open PySem PySem.Spec PyProof.Rows L2

theorem peTo {X : Cx} {e : Expr} {t t' : TE} (h : PE X e t) (i : ∀ σ H Q, t' σ H Q → t σ H Q) : PE X e t' := ⟨fun pins s σ H Q I hw => h.run pins s σ H Q I (i σ H Q hw)⟩
theorem ptTo {X : Cx} {e : Expr} {t t' : TT} (h : PT X e t) (i : ∀ σ H Q, t' σ H Q → t σ H Q) : PT X e t' := ⟨fun pins s σ H Q I hw => h.run pins s σ H Q I (i σ H Q hw)⟩
theorem pwTo {X : Cx} {e : Expr} {t t' : TT} (h : PW X e t) (i : ∀ σ H Q, t' σ H Q → t σ H Q) : PW X e t' := ⟨fun wh pins s σ H Q I hw => h.run wh pins s σ H Q I (i σ H Q hw)⟩
theorem paTo {X : Cx} {e : List Expr} {t t' : TA} (h : PA X e t) (i : ∀ σ H Q, t' σ H Q → t σ H Q) : PA X e t' := ⟨fun pos pins s σ H Q I hw => h.run pos pins s σ H Q I (i σ H Q hw)⟩
theorem psTo {X : Cx} {e : Stmt} {t t' : TS} (h : PS X e t) (i : ∀ D σ H, t' D σ H → t D σ H) : PS X e t' := ⟨fun pins s σ H D I hw => h.run pins s σ H D I (i D σ H hw)⟩
theorem pssTo {X : Cx} {e : List Stmt} {t t' : TS} (h : PSs X e t) (i : ∀ D σ H, t' D σ H → t D σ H) : PSs X e t' := ⟨fun pins s σ H D I hw => h.run pins s σ H D I (i D σ H hw)⟩
theorem peOr {X : Cx} {e : Expr} {t t' : TE} (h : PE X e t) (h' : PE X e t') : PE X e (fun σ H Q => t σ H Q ∨ t' σ H Q) := ⟨fun pins s σ H Q I hw => hw.elim (h.run pins s σ H Q I) (h'.run pins s σ H Q I)⟩
theorem ptOr {X : Cx} {e : Expr} {t t' : TT} (h : PT X e t) (h' : PT X e t') : PT X e (fun σ H Q => t σ H Q ∨ t' σ H Q) := ⟨fun pins s σ H Q I hw => hw.elim (h.run pins s σ H Q I) (h'.run pins s σ H Q I)⟩

section
variable {K : PySem.W.Frag} {W : WF}
/-- what is wanted of a result at h -/
def PE1 (K : PySem.W.Frag) (W : WF) (h : Hs) (ρ : Env) (σ : L2.St) (Q : VK) : Er Rv → Prop
  | .ok r => ∀ v h', Rel K h' ρ σ → Gr h h' → RvOk K h.H h' v r → Q v h'.H
  | .exc c p => ∀ h', Rel K h' ρ σ → Gr h h' → W c p σ h'
  | .bad => False
def PT1 (K : PySem.W.Frag) (W : WF) (h : Hs) (ρ : Env) (σ : L2.St) (Q : Bool → Hp → Prop) : Er Bool → Prop
  | .ok b => ∀ h', Rel K h' ρ σ → Gr h h' → Q b h'.H
  | .exc c p => ∀ h', Rel K h' ρ σ → Gr h h' → W c p σ h'
  | .bad => False
theorem tX_iff {f : EF} {σ : L2.St} {H : Hp} {Q : VK} : tX K W f σ H Q ↔ ∃ h ρ, h.H = H ∧ Rel K h ρ σ ∧ PE1 K W h ρ σ Q (f ρ) := by
  constructor
  · rintro ⟨h, ρ, e, r, q⟩
    refine ⟨h, ρ, e, r, ?_⟩
    unfold PE1
    split at q <;> simp_all
  · rintro ⟨h, ρ, e, r, q⟩
    refine ⟨h, ρ, e, r, ?_⟩
    unfold PE1 at q
    split <;> simp_all
theorem tXt_iff {f : Env → Er Bool} {σ : L2.St} {H : Hp} {Q : Bool → Hp → Prop} : tXt K W f σ H Q ↔ ∃ h ρ, h.H = H ∧ Rel K h ρ σ ∧ PT1 K W h ρ σ Q (f ρ) := by
  constructor
  · rintro ⟨h, ρ, e, r, q⟩
    refine ⟨h, ρ, e, r, ?_⟩
    unfold PT1
    split at q <;> simp_all
  · rintro ⟨h, ρ, e, r, q⟩
    refine ⟨h, ρ, e, r, ?_⟩
    unfold PT1 at q
    split <;> simp_all
theorem tX_mk {f : EF} {σ : L2.St} {h : Hs} {ρ : Env} {Q : VK} (r : Rel K h ρ σ) (q : PE1 K W h ρ σ Q (f ρ)) : tX K W f σ h.H Q := tX_iff.mpr ⟨h, ρ, rfl, r, q⟩
theorem tXt_mk {f : Env → Er Bool} {σ : L2.St} {h : Hs} {ρ : Env} {Q : Bool → Hp → Prop} (r : Rel K h ρ σ) (q : PT1 K W h ρ σ Q (f ρ)) : tXt K W f σ h.H Q := tXt_iff.mpr ⟨h, ρ, rfl, r, q⟩
variable {h h' h1 : Hs} {ρ : Env} {σ : L2.St} {Q : VK} {QB : Bool → Hp → Prop}
theorem PE1.shift (g : Gr h h1) : ∀ {e : Er Rv}, PE1 K W h ρ σ Q e → PE1 K W h1 ρ σ Q e
  | .ok r, q => fun v h' R g' ok => q v h' R (g.trans g') (ok.old g.x)
  | .exc c p, q => fun h' R g' => q h' R (g.trans g')
  | .bad, q => q
theorem PT1.shift (g : Gr h h1) : ∀ {e : Er Bool}, PT1 K W h ρ σ QB e → PT1 K W h1 ρ σ QB e
  | .ok r, q => fun h' R g' => q h' R (g.trans g')
  | .exc c p, q => fun h' R g' => q h' R (g.trans g')
  | .bad, q => q
/-- first e, then what follows -/
theorem PE1.bind {e : Er Rv} {k : Rv → Er Rv} (q : PE1 K W h ρ σ Q (e.bind k)) {Q' : VK}
    (hk : ∀ a v h', e = .ok a → Rel K h' ρ σ → Gr h h' → RvOk K h.H h' v a → PE1 K W h' ρ σ Q (k a) → Q' v h'.H) : PE1 K W h ρ σ Q' e := by
  cases e with
  | ok a => exact fun v h' R g ok => hk a v h' rfl R g ok (PE1.shift g q)
  | exc c p => exact q
  | bad => exact q
theorem PE1.bindT {e : Er Rv} {k : Rv → Er Bool} (q : PT1 K W h ρ σ QB (e.bind k)) {Q' : VK}
    (hk : ∀ a v h', e = .ok a → Rel K h' ρ σ → Gr h h' → RvOk K h.H h' v a → PT1 K W h' ρ σ QB (k a) → Q' v h'.H) : PE1 K W h ρ σ Q' e := by
  cases e with
  | ok a => exact fun v h' R g ok => hk a v h' rfl R g ok (PT1.shift g q)
  | exc c p => exact q
  | bad => exact q
theorem PT1.bind {e : Er Bool} {k : Bool → Er Rv} (q : PE1 K W h ρ σ Q (e.bind k)) {Q' : Bool → Hp → Prop}
    (hk : ∀ a h', e = .ok a → Rel K h' ρ σ → Gr h h' → PE1 K W h' ρ σ Q (k a) → Q' a h'.H) : PT1 K W h ρ σ Q' e := by
  cases e with
  | ok a => exact fun h' R g => hk a h' rfl R g (PE1.shift g q)
  | exc c p => exact q
  | bad => exact q
theorem PT1.bindT {e : Er Bool} {k : Bool → Er Bool} (q : PT1 K W h ρ σ QB (e.bind k)) {Q' : Bool → Hp → Prop}
    (hk : ∀ a h', e = .ok a → Rel K h' ρ σ → Gr h h' → PT1 K W h' ρ σ QB (k a) → Q' a h'.H) : PT1 K W h ρ σ Q' e := by
  cases e with
  | ok a => exact fun h' R g => hk a h' rfl R g (PT1.shift g q)
  | exc c p => exact q
  | bad => exact q
/-- the value is there without a step -/
theorem PE1.now {r : Rv} {v : V} (q : PE1 K W h ρ σ Q (.ok r)) (R : Rel K h ρ σ) (ok : RvOk K h.H h v r) : Q v h.H := q v h R (Gr.refl h) ok

/-! ### new objects -/
def Hs.newV (h : Hs) (p : Addr) (o : HO) : Hs := ⟨upd h.G p o, upd h.F p o, upd h.H p o⟩
def Hs.newB (h : Hs) (p : Addr) (o : HO) : Hs := ⟨h.G, upd h.F p o, upd h.H p o⟩
def Hs.newO (h : Hs) (p : Addr) (o : HO) : Hs := ⟨h.G, h.F, upd h.H p o⟩
theorem Ch.fN (c : Ch h) {p : Addr} (n : h.H p = none) : h.F p = none := c.fh.back n
theorem Ch.gN (c : Ch h) {p : Addr} (n : h.H p = none) : h.G p = none := c.gh.back n
theorem upd_case {H : Hp} {p a : Addr} {o u : HO} (e : upd H p o a = some u) (n : H a = none) : a = p ∧ u = o := by
  by_cases z : a = p
  · subst z
    rw [upd_same] at e
    exact ⟨rfl, (Option.some.inj e).symm⟩
  · rw [upd_ne z, n] at e
    cases e
theorem Gr.newV (c : Ch h) {p : Addr} {o : HO} (n : h.H p = none) : Gr h (h.newV p o) :=
  ⟨Ex.new (c.gN n), Ex.new (c.fN n), Ex.new n, fun a u e z => by
    obtain ⟨rfl, _⟩ := upd_case e z
    exact c.fN n, fun a u e z => by
    obtain ⟨rfl, _⟩ := upd_case e z
    exact n⟩
theorem no_sm {α : Type} {x : Option α} {u : α} {P : Prop} (e : x = some u) (z : x = none) : P := by
  rw [z] at e
  cases e
theorem Gr.newB (c : Ch h) {p : Addr} {o : HO} (n : h.H p = none) : Gr h (h.newB p o) :=
  ⟨Ex.refl _, Ex.new (c.fN n), Ex.new n, fun a u e z => no_sm (show h.G a = some u from e) z, fun a u e z => by
    obtain ⟨rfl, _⟩ := upd_case e z
    exact n⟩
theorem Gr.newO (c : Ch h) {p : Addr} {o : HO} (n : h.H p = none) : Gr h (h.newO p o) :=
  ⟨Ex.refl _, Ex.refl _, Ex.new n, fun a u e z => no_sm (show h.G a = some u from e) z, fun a u e z => no_sm (show h.F a = some u from e) z⟩
theorem Ch.newV (c : Ch h) {p : Addr} {o : HO} : Ch (h.newV p o) := ⟨c.gf.both, c.fh.both⟩
theorem Ch.newB (c : Ch h) {p : Addr} {o : HO} (n : h.H p = none) : Ch (h.newB p o) := ⟨c.gf.trans (Ex.new (c.fN n)), c.fh.both⟩
theorem Ch.newO (c : Ch h) {p : Addr} {o : HO} (n : h.H p = none) : Ch (h.newO p o) := ⟨c.gf, c.fh.trans (Ex.new n)⟩
theorem Rel.newV (R : Rel K h ρ σ) {p : Addr} {o : HO} (n : h.H p = none) : Rel K (h.newV p o) ρ σ := R.grow (Gr.newV R.ch n) R.ch.newV
theorem Rel.newB (R : Rel K h ρ σ) {p : Addr} {o : HO} (n : h.H p = none) : Rel K (h.newB p o) ρ σ := R.grow (Gr.newB R.ch n) (R.ch.newB n)
theorem Rel.newO (R : Rel K h ρ σ) {p : Addr} {o : HO} (n : h.H p = none) : Rel K (h.newO p o) ρ σ := R.grow (Gr.newO R.ch n) (R.ch.newO n)
/-- an own new object is frozen -/
def Hs.fz (h : Hs) (p : Addr) (o : HO) : Hs := ⟨upd h.G p o, upd h.F p o, h.H⟩
theorem Ch.fz (c : Ch h) {p : Addr} {o : HO} (e : h.H p = some o) : Ch (h.fz p o) := ⟨c.gf.both, fun a u z => by
  by_cases q : a = p
  · subst q
    have z' : upd h.F a o a = some u := z
    rw [upd_same] at z'
    cases z'
    exact e
  · have z' : upd h.F p o a = some u := z
    rw [upd_ne q] at z'
    exact c.fh a u z'⟩
/-- .. one that was made behind h0 -/
theorem Gr.fz {h0 : Hs} (g : Gr h0 h) (c0 : Ch h0) {p : Addr} {o : HO} (n : h0.H p = none) (f : h.F p = none) (c : Ch h) : Gr h0 (h.fz p o) :=
  ⟨g.g.trans (Ex.new (c.gf.back f)), g.f.trans (Ex.new f), g.x, fun a u e z => by
    by_cases q : a = p
    · subst q
      exact c0.fN n
    · have e' : upd h.G p o a = some u := e
      rw [upd_ne q] at e'
      exact g.gn a u e' z, fun a u e z => by
    by_cases q : a = p
    · subst q
      exact n
    · have e' : upd h.F p o a = some u := e
      rw [upd_ne q] at e'
      exact g.fn a u e' z⟩
theorem Rel.fz {h0 : Hs} (R0 : Rel K h0 ρ σ) (R : Rel K h ρ σ) (g : Gr h0 h) {p : Addr} {o : HO} (n : h0.H p = none) (f : h.F p = none) (e : h.H p = some o) : Rel K (h.fz p o) ρ σ :=
  R0.grow (g.fz R0.ch n f R.ch) (R.ch.fz e)
/-- frozen -/
theorem frz_ok {h0 : Hs} (R0 : Rel K h0 ρ σ) (R : Rel K h ρ σ) (g : Gr h0 h) {v : V} : ∀ {a a' : Rv}, a.frz = .ok a' → RvOk K h0.H h v a → ∃ h', h'.H = h.H ∧ Rel K h' ρ σ ∧ Gr h0 h' ∧ RvOk K h0.H h' v a'
  | .v d, a', e, q => by cases e; exact ⟨h, rfl, R, g, q⟩
  | .b d, a', e, q => by cases e; exact ⟨h, rfl, R, g, q⟩
  | .r d, a', e, q => by cases e; exact ⟨h, rfl, R, g, q⟩
  | .w xs, a', e, q => by cases e; exact ⟨h, rfl, R, g, q.dp (r := .w xs) R.ch rfl⟩
  | .o xs, a', e, ⟨l, vs, e1, n, x, y, z⟩ => by
    cases e
    subst e1
    refine ⟨h.fz l (.lst vs), rfl, R0.fz R g n y x, g.fz R0.ch n y R.ch, ?_⟩
    exact .lst (.of upd_same) (ex_dpa (Ex.new (R.ch.gf.back y)) z)
  | .wk _, _, e, _ => by cases e
  | .ok _, _, e, _ => by cases e
  | .wt _, _, e, _ => by cases e
  | .ot _, _, e, _ => by cases e
  | .p2 _ _, _, e, _ => by cases e
  | .wi _ _, a', e, q => by cases e; exact ⟨h, rfl, R, g, q.dp (r := .wi _ _) R.ch rfl⟩
  | .oi c fs, a', e, ⟨l, vs, dx, e1, n, x, y, z⟩ => by
    cases e
    subst e1
    refine ⟨h.fz l (.ins (clsOf K c) dx vs), rfl, R0.fz R g n y x, g.fz R0.ch n y R.ch, ?_⟩
    exact .obj upd_same (kv_dpfs (z.ex (Ex.new (R.ch.gf.back y))))
end

/-! ### names, constants -/
def Sl.rd : Sl → Er Rv
  | .v d => .ok (.v d)
  | .b d => .ok (.b d)
  | .o xs => .ok (.w xs)
  | .k kvs => .ok (.wk kvs)
  | .t kvs => .ok (.wt kvs)
  | .i c fs => .ok (.wi c fs)
  | .j _ c fs => .ok (.wi c fs)
  | .u => .bad
  | .x _ => .bad
  | .y _ => .bad
  | .z _ xss => .ok (.b (.list (xss.map .list)))
  | .e xs => .ok (.b (.list xs))
theorem ys_dpa {K : PySem.W.Frag} {F G : Hp} : ∀ {ms : List Addr} {xss : List (List D)}, Ys K F G ms xss → DpAll K F (refsOf ms) (xss.map .list)
  | _, _, .nil => .nil
  | _, _, .cons ⟨vs, a, _, c⟩ t => .cons (.lst (.of a) (c F)) (ys_dpa t)
def slot (ρ : Env) (i : Nat) : Sl := ρ.getD i .u
def varF (i : Nat) : EF := fun ρ => (slot ρ i).rd
def cF (d : D) : EF := fun _ => .ok (.v d)
section
variable {X : Cx} {W : WF} {h : Hs} {ρ : Env} {σ : L2.St} {H : Hp} {Q : VK}
theorem slot_some {ρ : Env} {i : Nat} {s : Sl} (e : slot ρ i = s) (n : s ≠ .u) : ρ[i]? = some s := by
  unfold slot at e
  rw [List.getD_eq_getElem?_getD] at e
  cases q : ρ[i]? with
  | none =>
    rw [q] at e
    exact absurd e.symm n
  | some t =>
    rw [q] at e
    exact congrArg some e
theorem Rel.get {K : PySem.W.Frag} (R : Rel K h ρ σ) {i : Nat} {s : Sl} (e : ρ[i]? = some s) : ∃ x, σ[i]? = some x ∧ SlOk K h x s := by
  have hi : i < σ.length := by
    rw [← R.len]
    exact (List.getElem?_eq_some_iff.mp e).1
  exact ⟨σ[i], List.getElem?_eq_getElem hi, R.at_ i s _ e (List.getElem?_eq_getElem hi)⟩
theorem var_of {K : PySem.W.Frag} {i : Nat} : ∀ σ H Q, tX K W (varF i) σ H Q → tVar i σ H Q := by
  intro σ H Q q
  obtain ⟨h, ρ, rfl, R, q⟩ := tX_iff.mp q
  unfold varF at q
  cases es : slot ρ i with
  | u => rw [es] at q; exact q.elim
  | x a => rw [es] at q; exact q.elim
  | y a => rw [es] at q; exact q.elim
  | e xs =>
    rw [es] at q
    obtain ⟨x, ex, m, vs, rfl, h1, h2, h3⟩ := R.get (slot_some es (by intro z; cases z))
    exact ⟨.ref m, ex, q.now R (Dp.lst (.of h1) (h3 _))⟩
  | z l xss =>
    rw [es] at q
    obtain ⟨x, ex, ms, rfl, h1, h2, h3⟩ := R.get (slot_some es (by intro z; cases z))
    exact ⟨.ref l, ex, q.now R (Dp.lst (.of h1) (ys_dpa h3))⟩
  | v d =>
    rw [es] at q
    obtain ⟨x, ex, v, rfl, hd⟩ := R.get (slot_some es (by intro z; cases z))
    exact ⟨v, ex, q.now R hd⟩
  | b d =>
    rw [es] at q
    obtain ⟨x, ex, v, rfl, hd⟩ := R.get (slot_some es (by intro z; cases z))
    exact ⟨v, ex, q.now R hd⟩
  | o xs =>
    rw [es] at q
    obtain ⟨x, ex, l, vs, rfl, h1, h2, h3⟩ := R.get (slot_some es (by intro z; cases z))
    exact ⟨.ref l, ex, q.now R ⟨l, vs, rfl, h1, h3⟩⟩
  | k xs =>
    rw [es] at q
    obtain ⟨x, ex, l, vs, rfl, h1, h2, h3⟩ := R.get (slot_some es (by intro z; cases z))
    exact ⟨.ref l, ex, q.now R ⟨l, vs, rfl, h1, h3⟩⟩
  | t xs =>
    rw [es] at q
    obtain ⟨x, ex, l, vs, rfl, h1, h2, h3⟩ := R.get (slot_some es (by intro z; cases z))
    exact ⟨.ref l, ex, q.now R ⟨l, vs, rfl, h1, h3⟩⟩
  | i c xs =>
    rw [es] at q
    obtain ⟨x, ex, l, vs, dx, rfl, h1, h2, h3⟩ := R.get (slot_some es (by intro z; cases z))
    exact ⟨.ref l, ex, q.now R ⟨l, vs, dx, rfl, h1, h3⟩⟩
  | j l c xs =>
    rw [es] at q
    obtain ⟨x, ex, vs, dx, rfl, h1, h2, h3⟩ := R.get (slot_some es (by intro z; cases z))
    exact ⟨.ref l, ex, q.now R ⟨l, vs, dx, rfl, h1, h3⟩⟩
theorem xv (i : Nat) {x : Str} {pos : Pos} (hN : X.N[i]? = some x := by rfl) (hv : Vis X.env.scope x := by first | exact Or.inl rfl | exact Or.inr (Or.inl rfl) | exact Or.inr (Or.inr rfl)) (hd : (x == ("__debug__" : Str)) = false := by decide)
    (hcd : (x == ("__classdict__" : Str)) = false := by decide) : PE X (.Name x pos) (tX X.K W (varF i)) := peTo (pe_var hN hv hd hcd) var_of
/-- the V of a flat datum -/
def scV : D → Option V
  | .none => some .non
  | .bool b => some (.bl b)
  | .int i => some (.int i)
  | .str x => some (.str x)
  | _ => none
theorem scV_dp {K : PySem.W.Frag} {G : Hp} {d : D} {v : V} (e : scV d = some v) : Dp K G v d := by
  cases d <;> first | (cases e; done) | skip
  · cases e; exact .non
  · cases e; exact .bl _
  · cases e; exact .int _
  · cases e; exact .str _
theorem scV_un {K : PySem.W.Frag} {G : Hp} {d : D} {v w : V} (e : scV d = some v) (q : Dp K G w d) : w = v := by
  cases q <;> cases e <;> rfl
theorem c_of {K : PySem.W.Frag} {d : D} {v : V} (e : scV d = some v) : ∀ σ H Q, tX K W (cF d) σ H Q → tC v σ H Q := by
  intro σ H Q q
  obtain ⟨h, ρ, rfl, R, q⟩ := tX_iff.mp q
  exact q.now R (scV_dp (d := d) e)
theorem xint {i j pos} : PE X (.Constant (.int i) j pos) (tX X.K W (cF (.int i))) := peTo pe_int (c_of rfl)
theorem xbl {b j pos} : PE X (.Constant (.bool b) j pos) (tX X.K W (cF (.bool b))) := peTo pe_bl (c_of rfl)
theorem xnon {j pos} : PE X (.Constant .none j pos) (tX X.K W (cF .none)) := peTo pe_non (c_of rfl)
theorem xstr {x j pos} : PE X (.Constant (.str x) j pos) (tX X.K W (cF (.str x))) := peTo pe_str (c_of rfl)
/-- a module's constant -/
theorem xglob {x : Str} {d : D} {v : V} {u : Value} {pos : Pos} (hg : Gl X x) (hm : X.mg x = some u) (e : scV d = some v) (r : RelV v u) (hd : (x == ("__debug__" : Str)) = false := by decide) : PE X (.Name x pos) (tX X.K W (cF d)) := peTo (pe_glob hg hm r hd) (c_of e)

/-! ### operators on values -/
def binF (φ : Rv → Rv → Er Rv) (f g : EF) : EF := fun ρ => (f ρ).bind fun a => (g ρ).bind fun b => φ a b
/-- what a two-place operation asks -/
def OpOk (K : PySem.W.Frag) (W : WF) (φ : Rv → Rv → Er Rv) (r : R2) : Prop :=
  ∀ (h0 h : Hs) (ρ : Env) (σ : L2.St) (x y : V) (a b : Rv) (Q : VK), Rel K h0 ρ σ → Rel K h ρ σ → Gr h0 h → RvOk K h0.H h x a → RvOk K h0.H h y b → PE1 K W h ρ σ Q (φ a b) → r x y h.H Q
theorem bin_of {K : PySem.W.Frag} {φ : Rv → Rv → Er Rv} {r : R2} {f g : EF} (hr : OpOk K W φ r) : ∀ σ H Q, tX K W (binF φ f g) σ H Q → tOp r (tX K W f) (tX K W g) σ H Q := by
  intro σ H Q q
  obtain ⟨h, ρ, rfl, R, q⟩ := tX_iff.mp q
  refine tX_mk R (q.bind fun a x h1 _ R1 g1 ok1 q1 => ?_)
  refine tX_mk R1 (q1.bind fun b y h2 _ R2 g2 ok2 q2 => ?_)
  exact hr h h2 ρ σ x y a b Q R R2 (g1.trans g2) (ok1.grow g2) (ok2.old g1.x) q2
/-- two flat data give a flat datum -/
def flat2 (φ : D → D → Er D) (a b : Rv) : Er Rv := match a.dat, b.dat with
  | some x, some y => (φ x y).bind fun d => .ok (.v d)
  | _, _ => .bad
def unF (φ : Rv → Er Rv) (f : EF) : EF := fun ρ => (f ρ).bind φ
end
end Sq

/-! Operators. -/
namespace Sq
open PySem PySem.Spec PyProof.Rows L2

section
variable {K : PySem.W.Frag} {W : WF} {h : Hs} {ρ : Env} {σ : L2.St} {Q : VK}
/-- flat2, backwards -/
theorem flat2_ok {φ : D → D → Er D} {a b r : Rv} (e : flat2 φ a b = .ok r) : ∃ x y d, a.dat = some x ∧ b.dat = some y ∧ φ x y = .ok d ∧ r = .v d := by
  unfold flat2 at e
  split at e
  · rename_i x y ex ey
    cases q : φ x y with
    | ok d =>
      rw [q] at e
      cases e
      exact ⟨x, y, d, ex, ey, q, rfl⟩
    | exc c p => rw [q] at e; cases e
    | bad => rw [q] at e; cases e
  · cases e
def NoExc (φ : Rv → Rv → Er Rv) : Prop := ∀ a b c p, φ a b ≠ .exc c p
theorem PE1.split {φ : Rv → Rv → Er Rv} (ne : NoExc φ) {a b : Rv} (q : PE1 K W h ρ σ Q (φ a b)) : ∃ r, φ a b = .ok r ∧ PE1 K W h ρ σ Q (.ok r) := by
  cases e : φ a b with
  | ok r => rw [e] at q; exact ⟨r, rfl, q⟩
  | exc c p => exact absurd e (ne a b c p)
  | bad => rw [e] at q; exact q.elim
theorem flat2_ne {φ : D → D → Er D} (ne : ∀ x y c p, φ x y ≠ .exc c p) : NoExc (flat2 φ) := by
  intro a b c p e
  unfold flat2 at e
  split at e
  · rename_i x y _ _
    cases q : φ x y with
    | ok d => rw [q] at e; cases e
    | exc c p => exact ne x y c p q
    | bad => rw [q] at e; cases e
  · cases e
/-- an operation on data that gives a flat datum -/
theorem flat_ok {φ : D → D → Er D} {r : R2} (ne : ∀ x y c p, φ x y ≠ .exc c p)
    (hr : ∀ (H : Hp) (x y : V) (d e f : D) (Q : VK), Dp K H x d → Dp K H y e → φ d e = .ok f → (∀ v, scV f = some v → Q v H) → r x y H Q) (fl : ∀ d e f, φ d e = .ok f → (scV f).isSome = true) : OpOk K W (flat2 φ) r := by
  intro h0 h ρ σ x y a b Q R0 R g oka okb q
  obtain ⟨res, e, q⟩ := q.split (flat2_ne ne)
  obtain ⟨d, e', f, ha, hb, hφ, rfl⟩ := flat2_ok e
  exact hr h.H x y d e' f Q (oka.dp R.ch ha) (okb.dp R.ch hb) hφ fun v ev => q.now R (scV_dp ev)
theorem OpOk.orL {φ : Rv → Rv → Er Rv} {r r' : R2} (a : OpOk K W φ r) : OpOk K W φ (fun x y H Q => r x y H Q ∨ r' x y H Q) := fun h0 h ρ σ x y a' b' Q R0 R g o1 o2 q => .inl (a h0 h ρ σ x y a' b' Q R0 R g o1 o2 q)
/-- by cases on what the operands are -/
def alt (φ ψ : Rv → Rv → Er Rv) : Rv → Rv → Er Rv := fun a b => match φ a b with
  | .bad => ψ a b
  | r => r
theorem OpOk.alt {φ ψ : Rv → Rv → Er Rv} {r r' : R2} (a : OpOk K W φ r) (b : OpOk K W ψ r') : OpOk K W (alt φ ψ) (fun x y H Q => r x y H Q ∨ r' x y H Q) := fun h0 h ρ σ x y a' b' Q R0 R g o1 o2 q => by
  unfold Sq.alt at q
  cases e : φ a' b' with
  | ok z =>
    rw [e] at q
    exact .inl (a h0 h ρ σ x y a' b' Q R0 R g o1 o2 (by rw [e]; exact q))
  | exc c p =>
    rw [e] at q
    exact .inl (a h0 h ρ σ x y a' b' Q R0 R g o1 o2 (by rw [e]; exact q))
  | bad =>
    rw [e] at q
    exact .inr (b h0 h ρ σ x y a' b' Q R0 R g o1 o2 q)
end

/-! ### arithmetic -/
def int2 (φ : Int → Int → Er D) : D → D → Er D := fun x y => match x, y with
  | .int i, .int j => φ i j
  | _, _ => .bad
theorem int2_ok {φ : Int → Int → Er D} {x y f : D} (e : int2 φ x y = .ok f) : ∃ i j, x = .int i ∧ y = .int j ∧ φ i j = .ok f := by
  unfold int2 at e
  split at e
  · exact ⟨_, _, rfl, rfl, e⟩
  · cases e
theorem int2_ne {φ : Int → Int → Er D} (ne : ∀ i j c p, φ i j ≠ .exc c p) : ∀ x y c p, int2 φ x y ≠ .exc c p := by
  intro x y c p e
  unfold int2 at e
  split at e
  · exact ne _ _ _ _ e
  · cases e
theorem dp_int {K : PySem.W.Frag} {H : Hp} {x : V} {i : Int} (h : Dp K H x (.int i)) : x = .int i := by cases h; rfl
theorem dp_str {K : PySem.W.Frag} {H : Hp} {x : V} {i : Str} (h : Dp K H x (.str i)) : x = .str i := by cases h; rfl
theorem dp_bl {K : PySem.W.Frag} {H : Hp} {x : V} {i : Bool} (h : Dp K H x (.bool i)) : x = .bl i := by cases h; rfl
theorem int_ok {K : PySem.W.Frag} {W : WF} {φ : Int → Int → Er D} {r : R2} (ne : ∀ i j c p, φ i j ≠ .exc c p) (fl : ∀ i j f, φ i j = .ok f → (scV f).isSome = true)
    (hr : ∀ (H : Hp) (i j : Int) (f : D) (Q : VK), φ i j = .ok f → (∀ v, scV f = some v → Q v H) → r (.int i) (.int j) H Q) : OpOk K W (flat2 (int2 φ)) r := by
  refine flat_ok (int2_ne ne) (fun H x y d e f Q h1 h2 e1 q => ?_) fun d e f e1 => ?_
  · obtain ⟨i, j, rfl, rfl, e2⟩ := int2_ok e1
    rw [dp_int h1, dp_int h2]
    exact hr H i j f Q e2 q
  · obtain ⟨i, j, rfl, rfl, e2⟩ := int2_ok e1
    exact fl i j f e2
def iadd : Int → Int → Er D := fun i j => .ok (.int (i + j))
def isub : Int → Int → Er D := fun i j => .ok (.int (i - j))
def imul : Int → Int → Er D := fun i j => if (-(2 ^ 64) < i ∧ i < 2 ^ 64) ∨ (-(2 ^ 64) < j ∧ j < 2 ^ 64) ∨ i.natAbs.log2 + j.natAbs.log2 < 1000000 then .ok (.int (i * j)) else .bad
def idiv : Int → Int → Er D := fun i j => if 0 < j ∧ (j < 1073741824 ∨ j.natAbs.log2 < 9000) then .ok (.int (i / j)) else if j < 0 ∧ (-1073741824 < j ∨ j.natAbs.log2 < 9000) then .ok (.int (i.fdiv j)) else .bad
def imod : Int → Int → Er D := fun i j => if 0 < j then .ok (.int (i % j)) else if j < 0 then .ok (.int (i.fmod j)) else .bad
def ipow : Int → Int → Er D := fun i j => if 0 ≤ j ∧ j ≤ 1000 ∧ i.natAbs < 2 ^ 64 then .ok (.int (i ^ j.toNat)) else .bad
section
variable {K : PySem.W.Frag} {W : WF} {X : Cx}
theorem ok_add : OpOk K W (flat2 (int2 iadd)) (rI0 fun i j => .int (i + j)) := int_ok (fun _ _ _ _ e => nomatch e) (fun _ _ _ e => by cases e; rfl) fun H i j f Q e q => ⟨i, j, rfl, rfl, by cases e; exact q _ rfl⟩
theorem ok_sub : OpOk K W (flat2 (int2 isub)) (rI0 fun i j => .int (i - j)) := int_ok (fun _ _ _ _ e => nomatch e) (fun _ _ _ e => by cases e; rfl) fun H i j f Q e q => ⟨i, j, rfl, rfl, by cases e; exact q _ rfl⟩
def rMulA : R2 := fun x y H Q => rI CMul (fun i j => .int (i * j)) x y H Q ∨ rI CMulW (fun i j => .int (i * j)) x y H Q
theorem op_mulA : OpR X (binaryOp .Mult) rMulA := op_mul.or op_mulW
theorem ok_mul : OpOk K W (flat2 (int2 imul)) rMulA := by
  refine int_ok (fun i j c p e => ?_) (fun i j f e => ?_) fun H i j f Q e q => ?_
  · unfold imul at e; split at e <;> cases e
  · unfold imul at e; split at e <;> cases e; rfl
  · unfold imul at e
    split at e
    · rename_i hc
      cases e
      rcases hc with hc | hc | hc
      · exact .inl ⟨i, j, rfl, rfl, .inl hc, q _ rfl⟩
      · exact .inl ⟨i, j, rfl, rfl, .inr hc, q _ rfl⟩
      · exact .inr ⟨i, j, rfl, rfl, hc, q _ rfl⟩
    · cases e
def CDivNW (_ j : Int) : Prop := j ≠ 0 ∧ (j.natAbs < 1073741824 ∨ j.natAbs.log2 < 9000)
theorem op_fdivNW : OpR X (binaryOp .FloorDiv) (rI CDivNW fun i j => .int (i.fdiv j)) := opI fun _ _ _ _ _ _ _ hc q => by
  rcases hc.2 with h | h
  · exact floordiv_int hc.1 q (.inl (PyProof.noPylong_small h))
  · exact floordiv_int hc.1 q (.inl (PyProof.noPylong_of_log2 h))
def rDivA : R2 := fun x y H Q => rI CDiv (fun i j => .int (i / j)) x y H Q ∨ (rI CDivW (fun i j => .int (i / j)) x y H Q ∨ rI CDivNW (fun i j => .int (i.fdiv j)) x y H Q)
theorem op_divA : OpR X (binaryOp .FloorDiv) rDivA := op_fdiv.or (op_fdivW.or op_fdivNW)
theorem ok_div : OpOk K W (flat2 (int2 idiv)) rDivA := by
  refine int_ok (fun i j c p e => ?_) (fun i j f e => ?_) fun H i j f Q e q => ?_
  · unfold idiv at e; split at e; (· cases e); split at e <;> cases e
  · unfold idiv at e; split at e; (· cases e; rfl); split at e <;> cases e; rfl
  · unfold idiv at e
    split at e
    · rename_i hc
      cases e
      rcases hc with ⟨h0, hc | hc⟩
      · exact .inl ⟨i, j, rfl, rfl, ⟨h0, hc⟩, q _ rfl⟩
      · exact .inr (.inl ⟨i, j, rfl, rfl, ⟨h0, hc⟩, q _ rfl⟩)
    · split at e
      · rename_i hc
        cases e
        exact .inr (.inr ⟨i, j, rfl, rfl, ⟨by omega, hc.2.elim (fun z => .inl (by omega)) .inr⟩, q _ rfl⟩)
      · cases e
def rModA : R2 := fun x y H Q => rI (fun _ j => 0 < j) (fun i j => .int (i % j)) x y H Q ∨ rI (fun _ j => j ≠ 0) (fun i j => .int (i.fmod j)) x y H Q
theorem op_modA : OpR X (binaryOp .Mod) rModA := op_mod.or op_modN
theorem ok_mod : OpOk K W (flat2 (int2 imod)) rModA := by
  refine int_ok (fun i j c p e => ?_) (fun i j f e => ?_) fun H i j f Q e q => ?_
  · unfold imod at e; split at e; (· cases e); split at e <;> cases e
  · unfold imod at e; split at e; (· cases e; rfl); split at e <;> cases e; rfl
  · unfold imod at e
    split at e
    · cases e
      exact .inl ⟨i, j, rfl, rfl, by assumption, q _ rfl⟩
    · split at e
      · cases e
        exact .inr ⟨i, j, rfl, rfl, by omega, q _ rfl⟩
      · cases e
theorem ok_pow : OpOk K W (flat2 (int2 ipow)) (rI CPow fun i j => .int (i ^ j.toNat)) := by
  refine int_ok (fun i j c p e => ?_) (fun i j f e => ?_) fun H i j f Q e q => ?_
  · unfold ipow at e; split at e <;> cases e
  · unfold ipow at e; split at e <;> cases e; rfl
  · unfold ipow at e
    split at e
    · rename_i hc
      cases e
      exact ⟨i, j, rfl, rfl, ⟨hc.1, by omega, hc.2.2⟩, q _ rfl⟩
    · cases e
/-- texts, tuples, lists put behind one another -/
def sadd : D → D → Er D := fun x y => match x, y with
  | .str a, .str b => if a.length + b.length ≤ 100000 then .ok (.str (a ++ b)) else .bad
  | _, _ => .bad
def rStrA : R2 := fun x y H Q => ∃ i j, x = .str i ∧ y = .str j ∧ i.length + j.length ≤ sizeLine ∧ Q (.str (i ++ j)) H
theorem sz100 {n : Nat} (h : n ≤ 100000) : n ≤ sizeLine := Nat.le_trans h (by decide)
theorem ok_sadd : OpOk K W (flat2 sadd) rStrA := by
  refine flat_ok (fun x y c p e => ?_) (fun H x y d e f Q h1 h2 e1 q => ?_) fun d e f e1 => ?_
  · unfold sadd at e; split at e; (· split at e <;> cases e); cases e
  · unfold sadd at e1
    split at e1
    · split at e1
      · cases e1
        exact ⟨_, _, dp_str h1, dp_str h2, sz100 (by assumption), q _ rfl⟩
      · cases e1
    · cases e1
  · unfold sadd at e1
    split at e1
    · split at e1
      · cases e1; rfl
      · cases e1
    · cases e1
/-- tuples -/
def tcat (a b : Rv) : Er Rv := match a, b with
  | .v (.tuple xs), .v (.tuple ys) => if xs ≠ [] ∧ xs.length + ys.length ≤ 100000 then .ok (.v (.tuple (xs ++ ys))) else .bad
  | _, _ => .bad
theorem dp_tup {H : Hp} {x : V} {ds : List D} (h : Dp K H x (.tuple ds)) : ∃ a vs, x = .ref a ∧ SqT K H a vs ∧ DpAll K H vs ds := by
  cases h with
  | tup h1 hd h2 => exact ⟨_, _, rfl, .inl (.inr ⟨_, h1⟩), h2⟩
theorem dp_lst {H : Hp} {x : V} {ds : List D} (h : Dp K H x (.list ds)) : ∃ a vs, x = .ref a ∧ SqL K H a vs ∧ DpAll K H vs ds := by
  cases h with
  | lst h1 h2 => exact ⟨_, _, rfl, h1, h2⟩
theorem ok_tcat : OpOk K W tcat (rCatF K) := by
  intro h0 h ρ σ x y a b Q R0 R g oka okb q
  unfold tcat at q
  split at q
  · rename_i xs ys
    split at q
    · rename_i hc
      obtain ⟨p1, vs, rfl, s1, d1⟩ := dp_tup oka
      obtain ⟨p2, ws, rfl, s2, d2⟩ := dp_tup okb
      refine ⟨p1, p2, vs, ws, rfl, rfl, ex_t R.ch.gh s1, ex_t R.ch.gh s2, fun z => ?_, ?_, fun z => ?_, fun z p H' hp nt => ?_⟩
      · subst z
        have := d1.len
        exact hc.1 (List.length_eq_zero_iff.mp this.symm)
      · rw [d1.len, d2.len]
        exact sz100 hc.2
      · subst z
        have e : ys = [] := List.length_eq_zero_iff.mp d2.len.symm
        subst e
        rw [List.append_nil] at q
        exact q.now R oka
      · obtain ⟨o, od, rfl⟩ := nt
        refine q _ _ (R.newV hp) (Gr.newV R.ch hp) ?_
        exact .tup upd_same od (ex_dpa (Ex.new (R.ch.gN hp)) (d1.append d2))
    · exact q.elim
  · exact q.elim
/-- lists of one's own, new ones -/
def Rv.lst : Rv → Option (List D)
  | .w xs => some xs
  | .o xs => some xs
  | _ => none
theorem RvOk.lst {H0 : Hp} {h : Hs} {v : V} : ∀ {a : Rv} {xs : List D}, a.lst = some xs → RvOk K H0 h v a → ∃ l vs, v = .ref l ∧ h.H l = some (.lst vs) ∧ DpAll K h.G vs xs
  | .w _, _, e, ⟨l, vs, e1, x, y⟩ => by cases e; exact ⟨l, vs, e1, x, y⟩
  | .o _, _, e, ⟨l, vs, e1, n, x, f, y⟩ => by cases e; exact ⟨l, vs, e1, x, y⟩
def lcat (a b : Rv) : Er Rv := match a.lst, b.lst with
  | some xs, some ys => if xs.length + ys.length ≤ 100000 then .ok (.o (xs ++ ys)) else .bad
  | _, _ => .bad
/-- a new own list -/
theorem PE1.newL {h : Hs} {ρ : Env} {σ : L2.St} {Q : VK} {xs : List D} {vs : List V} (q : PE1 K W h ρ σ Q (.ok (.o xs))) (R : Rel K h ρ σ) (d : DpAll K h.G vs xs) {p : Addr} (hp : h.H p = none) : Q (.ref p) (upd h.H p (.lst vs)) :=
  q _ _ (R.newO hp) (Gr.newO R.ch hp) ⟨p, vs, rfl, hp, upd_same, R.ch.fN hp, d⟩
theorem PE1.newT {h : Hs} {ρ : Env} {σ : L2.St} {Q : VK} {xs : List D} {vs : List V} (q : PE1 K W h ρ σ Q (.ok (.v (.tuple xs)))) (R : Rel K h ρ σ) (d : DpAll K h.G vs xs) {p : Addr} {H' : Hp} (hp : h.H p = none) (nt : NewT h.H p vs H') : Q (.ref p) H' := by
  obtain ⟨o, od, rfl⟩ := nt
  exact q _ _ (R.newV hp) (Gr.newV R.ch hp) (.tup upd_same od (ex_dpa (Ex.new (R.ch.gN hp)) d))
theorem PE1.newTB {h : Hs} {ρ : Env} {σ : L2.St} {Q : VK} {xs : List D} {vs : List V} (q : PE1 K W h ρ σ Q (.ok (.b (.tuple xs)))) (R : Rel K h ρ σ) (d : DpAll K h.F vs xs) {p : Addr} {H' : Hp} (hp : h.H p = none) (nt : NewT h.H p vs H') : Q (.ref p) H' := by
  obtain ⟨o, od, rfl⟩ := nt
  exact q _ _ (R.newB hp) (Gr.newB R.ch hp) (.tup upd_same od (ex_dpa (Ex.new (R.ch.fN hp)) d))
theorem PE1.newTR {h : Hs} {ρ : Env} {σ : L2.St} {Q : VK} {xs : List D} {vs : List V} (q : PE1 K W h ρ σ Q (.ok (.r (.tuple xs)))) (R : Rel K h ρ σ) (d : DpAll K h.H vs xs) {p : Addr} {H' : Hp} (hp : h.H p = none) (nt : NewT h.H p vs H') : Q (.ref p) H' := by
  obtain ⟨o, od, rfl⟩ := nt
  exact q _ _ (R.newO hp) (Gr.newO R.ch hp) (.tup upd_same od (ex_dpa (Ex.new hp) d))
theorem ok_lcat : OpOk K W lcat rCat := by
  intro h0 h ρ σ x y a b Q R0 R g oka okb q
  unfold lcat at q
  split at q
  · rename_i xs ys ea eb
    split at q
    · obtain ⟨l, vs, rfl, h1, d1⟩ := oka.lst ea
      obtain ⟨m, ws, rfl, h2, d2⟩ := okb.lst eb
      exact ⟨l, m, vs, ws, rfl, rfl, h1, h2, by rw [d1.len, d2.len]; exact sz100 (by assumption), fun p hp => q.newL R (d1.append d2) hp⟩
    · exact q.elim
  · exact q.elim
def addR : Rv → Rv → Er Rv := alt (flat2 (int2 iadd)) (alt (flat2 sadd) (alt tcat lcat))
def rAddA (K : PySem.W.Frag) : R2 := fun x y H Q => rI0 (fun i j => .int (i + j)) x y H Q ∨ (rStrA x y H Q ∨ (rCatF K x y H Q ∨ rCat x y H Q))
theorem op_addA : OpR X (binaryOp .Add) (rAddA X.K) := op_add.or (OpR.or op_add_str (OpR.or op_catF op_cat))
theorem ok_addA : OpOk K W addR (rAddA K) := ok_add.alt (ok_sadd.alt (ok_tcat.alt ok_lcat))

variable {a b : Expr} {f g : EF} {pos : Pos}
theorem xadd (ha : PE X a (tX X.K W f)) (hb : PE X b (tX X.K W g)) : PE X (.BinOp a .Add b pos) (tX X.K W (binF addR f g)) := peTo (pe_op op_addA ha hb) (bin_of ok_addA)
theorem xsub (ha : PE X a (tX X.K W f)) (hb : PE X b (tX X.K W g)) : PE X (.BinOp a .Sub b pos) (tX X.K W (binF (flat2 (int2 isub)) f g)) := peTo (pe_op op_sub ha hb) (bin_of ok_sub)
theorem xmul (ha : PE X a (tX X.K W f)) (hb : PE X b (tX X.K W g)) : PE X (.BinOp a .Mult b pos) (tX X.K W (binF (flat2 (int2 imul)) f g)) := peTo (pe_op op_mulA ha hb) (bin_of ok_mul)
theorem xdiv (ha : PE X a (tX X.K W f)) (hb : PE X b (tX X.K W g)) : PE X (.BinOp a .FloorDiv b pos) (tX X.K W (binF (flat2 (int2 idiv)) f g)) := peTo (pe_op op_divA ha hb) (bin_of ok_div)
theorem xmod (ha : PE X a (tX X.K W f)) (hb : PE X b (tX X.K W g)) : PE X (.BinOp a .Mod b pos) (tX X.K W (binF (flat2 (int2 imod)) f g)) := peTo (pe_op op_modA ha hb) (bin_of ok_mod)
theorem xpow (ha : PE X a (tX X.K W f)) (hb : PE X b (tX X.K W g)) : PE X (.BinOp a .Pow b pos) (tX X.K W (binF (flat2 (int2 ipow)) f g)) := peTo (pe_op op_pow ha hb) (bin_of ok_pow)
/-- -a -/
def negR (a : Rv) : Er Rv := match a.dat with
  | some (.int i) => .ok (.v (.int (-i)))
  | _ => .bad
theorem un_of {φ : Rv → Er Rv} {r : V → Hp → VK → Prop} (hr : ∀ (h0 h : Hs) (ρ : Env) (σ : L2.St) (x : V) (a : Rv) (Q : VK), Rel K h0 ρ σ → Rel K h ρ σ → Gr h0 h → RvOk K h0.H h x a → PE1 K W h ρ σ Q (φ a) → r x h.H Q) :
    ∀ σ H Q, tX K W (unF φ f) σ H Q → tUn r (tX K W f) σ H Q := by
  intro σ H Q q
  obtain ⟨h, ρ, rfl, R, q⟩ := tX_iff.mp q
  exact tX_mk R (q.bind fun a x h1 _ R1 g1 ok1 q1 => hr h h1 ρ σ x a Q R R1 g1 ok1 q1)
theorem xneg (ha : PE X a (tX X.K W f)) : PE X (.UnaryOp .USub a pos) (tX X.K W (unF negR f)) := by
  refine peTo (pe_un un_neg ha) (un_of fun h0 h ρ σ x a Q R0 R g ok q => ?_)
  unfold negR at q
  split at q
  · rename_i i e
    have e1 := dp_int (ok.dp R.ch e)
    subst e1
    exact ⟨i, rfl, q.now R (.int _)⟩
  · exact q.elim
end
end Sq

/-! Comparisons, tests, displays, subscripts. -/
namespace Sq
open PySem PySem.Spec PyProof.Rows L2

/-! ### dicts by keys -/
section
variable {κ : Type} [DecidableEq κ]
def getK (kvs : List (κ × D)) (k : κ) : Option D := (kvs.find? fun kv => decide (kv.1 = k)).map (·.2)
def setK (kvs : List (κ × D)) (k : κ) (v : D) : List (κ × D) :=
  if (kvs.any fun kv => decide (kv.1 = k)) = true then kvs.map (fun kv => if kv.1 = k then (kv.1, v) else kv) else kvs ++ [(k, v)]
theorem KvD.get {K : PySem.W.Frag} {G : Hp} {l : List (κ × V)} {m : List (κ × D)} (h : KvD K G l m) (k : κ) : (∃ v d, valV l k = some v ∧ getK m k = some d ∧ Dp K G v d) ∨ (valV l k = none ∧ getK m k = none) := by
  induction h with
  | nil => exact .inr ⟨rfl, rfl⟩
  | @cons p q l m r t ih =>
    by_cases e : p.1 = k
    · refine .inl ⟨p.2, q.2, valV_pos e, ?_, r.2⟩
      unfold getK
      rw [List.find?_cons, decide_eq_true (r.1 ▸ e)]
      rfl
    · have e2 : getK (q :: m) k = getK m k := by
        unfold getK
        rw [List.find?_cons, decide_eq_false (show ¬ q.1 = k from r.1 ▸ e)]
      rw [valV_neg e, e2]
      exact ih
theorem KvD.any {K : PySem.W.Frag} {G : Hp} {l : List (κ × V)} {m : List (κ × D)} (h : KvD K G l m) (k : κ) : (l.any fun kv => decide (kv.1 = k)) = (m.any fun kv => decide (kv.1 = k)) := by
  induction h with
  | nil => rfl
  | @cons p q l m r t ih => rw [List.any_cons, List.any_cons, ih, r.1]
theorem KvD.map {K : PySem.W.Frag} {G : Hp} {l : List (κ × V)} {m : List (κ × D)} (h : KvD K G l m) (k : κ) {v : V} {d : D} (hv : Dp K G v d) : KvD K G (l.map fun kv => if kv.1 = k then (kv.1, v) else kv) (m.map fun kv => if kv.1 = k then (kv.1, d) else kv) := by
  induction h with
  | nil => exact .nil
  | @cons p q l m r t ih =>
    refine .cons ?_ ih
    dsimp only
    by_cases e : p.1 = k
    · rw [if_pos e, if_pos (r.1 ▸ e)]
      exact ⟨r.1, hv⟩
    · rw [if_neg e, if_neg (show ¬ q.1 = k from r.1 ▸ e)]
      exact r
theorem KvD.snoc {K : PySem.W.Frag} {G : Hp} {l : List (κ × V)} {m : List (κ × D)} (h : KvD K G l m) (k : κ) {v : V} {d : D} (hv : Dp K G v d) : KvD K G (l ++ [(k, v)]) (m ++ [(k, d)]) := by
  induction h with
  | nil => exact .cons ⟨rfl, hv⟩ .nil
  | @cons p q l m r t ih => exact .cons r ih
theorem KvD.set {K : PySem.W.Frag} {G : Hp} {l : List (κ × V)} {m : List (κ × D)} (h : KvD K G l m) (k : κ) {v : V} {d : D} (hv : Dp K G v d) : KvD K G (putK l k v) (setK m k d) := by
  unfold putK setK
  rw [h.any k]
  split
  · exact h.map k hv
  · exact h.snoc k hv
theorem KvD.len {K : PySem.W.Frag} {G : Hp} {l : List (κ × V)} {m : List (κ × D)} (h : KvD K G l m) : l.length = m.length := Paired.length h
end
def keyD : D → Option Key
  | .int i => some (.inl i)
  | .str x => some (.inr x)
  | _ => none
theorem keyD_v {K : PySem.W.Frag} {H : Hp} {v : V} {d : D} {k : Key} (e : keyD d = some k) (h : Dp K H v d) : v = kV k := by
  cases h <;> cases e <;> rfl
def keysD : List D → Option (List Key)
  | [] => some []
  | d :: ds => match keyD d, keysD ds with
    | some k, some ks => some (k :: ks)
    | _, _ => none
theorem keysD_v {K : PySem.W.Frag} {H : Hp} : ∀ {ds : List D} {vs : List V} {ks : List Key}, keysD ds = some ks → DpAll K H vs ds → vs = ks.map kV
  | [], _, _, e, h => by
    cases h
    cases e
    rfl
  | d :: ds, _, ks, e, h => by
    cases h with
    | cons h t =>
      unfold keysD at e
      split at e
      · rename_i k ks' e1 e2
        cases e
        rw [keyD_v e1 h, keysD_v e2 t]
        rfl
      · cases e

section
variable {K : PySem.W.Frag} {W : WF} {X : Cx} {a b c : Expr} {f g : EF} {pos : Pos}

/-! ### comparisons -/
def ilt : Int → Int → Er D := fun i j => .ok (.bool (decide (i < j)))
def ile : Int → Int → Er D := fun i j => .ok (.bool (decide (i ≤ j)))
def igt : Int → Int → Er D := fun i j => .ok (.bool (decide (j < i)))
def ige : Int → Int → Er D := fun i j => .ok (.bool (decide (j ≤ i)))
theorem icmp_ok {p : Int → Int → Bool} : OpOk K W (flat2 (int2 fun i j => .ok (.bool (p i j)))) (rI0 fun i j => .bl (p i j)) := int_ok (fun _ _ _ _ e => nomatch e) (fun _ _ _ e => by cases e; rfl) fun H i j f Q e q => ⟨i, j, rfl, rfl, by cases e; exact q _ rfl⟩
def deq (ne : Bool) : D → D → Er D := fun x y => if SeqAt.shaped x = true ∧ SeqAt.shaped y = true then .ok (.bool (if ne then !PyData.eqv x y else PyData.eqv x y)) else .bad
theorem deq_ne {n : Bool} : ∀ x y c p, deq n x y ≠ .exc c p := by
  intro x y c p e
  unfold deq at e
  split at e <;> cases e
theorem ok_eqD : OpOk K W (flat2 (deq false)) (rEqD K) := by
  refine flat_ok deq_ne (fun H x y d e f Q h1 h2 e1 q => ?_) fun d e f e1 => ?_
  · unfold deq at e1
    split at e1
    · rename_i hc
      cases e1
      exact ⟨d, e, h1.l2 (noOb_shaped hc.1), h2.l2 (noOb_shaped hc.2), hc.1, hc.2, q _ rfl⟩
    · cases e1
  · unfold deq at e1
    split at e1
    · cases e1; rfl
    · cases e1
theorem ok_neD : OpOk K W (flat2 (deq true)) (rNeD K) := by
  refine flat_ok deq_ne (fun H x y d e f Q h1 h2 e1 q => ?_) fun d e f e1 => ?_
  · unfold deq at e1
    split at e1
    · rename_i hc
      cases e1
      exact ⟨d, e, h1.l2 (noOb_shaped hc.1), h2.l2 (noOb_shaped hc.2), hc.1, hc.2, q _ rfl⟩
    · cases e1
  · unfold deq at e1
    split at e1
    · cases e1; rfl
    · cases e1
/-- x is None; True is False .. -/
def dis (n : Bool) : D → D → Er D := fun x y => match x, y with
  | .none, .none => .ok (.bool (!n))
  | .bool i, .bool j => .ok (.bool (if n then !decide (i = j) else decide (i = j)))
  | .bool _, .none => .ok (.bool n)
  | .int _, .none => .ok (.bool n)
  | .str _, .none => .ok (.bool n)
  | .list _, .none => .ok (.bool n)
  | .tuple _, .none => .ok (.bool n)
  | .dict _, .none => .ok (.bool n)
  | _, _ => .bad
theorem dis_ne {n : Bool} : ∀ x y c p, dis n x y ≠ .exc c p := by
  intro x y c p e
  unfold dis at e
  split at e <;> cases e
def rIsA : R2 := fun x y H Q => (y = .non ∧ Q (.bl (decide (x = .non))) H) ∨ rIsB x y H Q
def rNotA : R2 := fun x y H Q => (y = .non ∧ Q (.bl (!decide (x = .non))) H) ∨ rNotB x y H Q
theorem op_isA : OpR X (compareOp .Is) rIsA := op_isN.or op_isBl
theorem op_notA : OpR X (compareOp .IsNot) rNotA := op_notN.or op_notBl
theorem ok_is : OpOk K W (flat2 (dis false)) rIsA := by
  refine flat_ok dis_ne (fun H x y d e f Q h1 h2 e1 q => ?_) fun d e f e1 => ?_
  · unfold dis at e1
    split at e1 <;> first | (cases e1; done) | skip
    · cases e1; cases h1; cases h2; exact .inl ⟨rfl, q _ rfl⟩
    · cases e1; cases h1; cases h2; exact .inr ⟨_, _, rfl, rfl, q _ rfl⟩
    all_goals (cases e1; cases h1; cases h2; exact .inl ⟨rfl, q _ rfl⟩)
  · unfold dis at e1
    split at e1 <;> cases e1 <;> rfl
theorem ok_not : OpOk K W (flat2 (dis true)) rNotA := by
  refine flat_ok dis_ne (fun H x y d e f Q h1 h2 e1 q => ?_) fun d e f e1 => ?_
  · unfold dis at e1
    split at e1 <;> first | (cases e1; done) | skip
    · cases e1; cases h1; cases h2; exact .inl ⟨rfl, q _ rfl⟩
    · cases e1; cases h1; cases h2; exact .inr ⟨_, _, rfl, rfl, q _ rfl⟩
    all_goals (cases e1; cases h1; cases h2; exact .inl ⟨rfl, q _ rfl⟩)
  · unfold dis at e1
    split at e1 <;> cases e1 <;> rfl
/-- a bool as a test -/
def Rv.tst : Rv → Er Bool
  | .v (.bool k) => .ok k
  | .b (.bool k) => .ok k
  | .r (.bool k) => .ok k
  | _ => .bad
def tstF (f : EF) : Env → Er Bool := fun ρ => (f ρ).bind Rv.tst
theorem RvOk.tst {H0 : Hp} {h : Hs} {v : V} {a : Rv} {k : Bool} (ok : RvOk K H0 h v a) (e : a.tst = .ok k) : v = .bl k := by
  unfold Rv.tst at e
  split at e
  · cases e; exact dp_bl ok
  · cases e; exact dp_bl ok
  · cases e; exact dp_bl ok
  · cases e
theorem Rv.tst_ne {a : Rv} {c : Str} {p : Option (Str × D)} : a.tst ≠ .exc c p := by
  intro e
  unfold Rv.tst at e
  split at e <;> cases e
theorem tst_now {h : Hs} {ρ : Env} {σ : L2.St} {Q : Bool → Hp → Prop} {H0 : Hp} {v : V} {a : Rv} (q : PT1 K W h ρ σ Q a.tst) (R : Rel K h ρ σ) (ok : RvOk K H0 h v a) : ∃ k, v = .bl k ∧ Q k h.H := by
  cases e : a.tst with
  | ok k =>
    rw [e] at q
    exact ⟨k, ok.tst e, q h R (Gr.refl h)⟩
  | exc c p => exact absurd e Rv.tst_ne
  | bad => rw [e] at q; exact q.elim
theorem tst_of : ∀ σ H Q, tXt K W (tstF f) σ H Q → tTest (tX K W f) σ H Q := by
  intro σ H Q q
  obtain ⟨h, ρ, rfl, R, q⟩ := tXt_iff.mp q
  exact tX_mk R (PE1.bindT q fun a v h1 _ R1 g1 ok1 q1 => tst_now q1 R1 ok1)
theorem tTest_mono {t t' : TE} (i : ∀ σ H Q, t' σ H Q → t σ H Q) : ∀ σ H Q, tTest t' σ H Q → tTest t σ H Q := fun σ H Q q => i σ H _ q
section
variable {op : CmpOp} {r : R2} {φ : Rv → Rv → Er Rv}
theorem xcmp (ho : OpR X (compareOp op) r) (hφ : OpOk X.K W φ r) (ha : PE X a (tX X.K W f)) (hb : PE X b (tX X.K W g)) (hm : behindInMarks op b = false) : PE X (.Compare a [op] [b] pos) (tX X.K W (binF φ f g)) := peTo (pe_cmpR ho ha hb hm) (bin_of hφ)
theorem xtcmp (ho : OpR X (compareOp op) r) (hφ : OpOk X.K W φ r) (ha : PE X a (tX X.K W f)) (hb : PE X b (tX X.K W g)) (hm : behindInMarks op b = false) : PT X (.Compare a [op] [b] pos) (tXt X.K W (tstF (binF φ f g))) :=
  ptTo (pt_cmpR ho ha hb hm) fun σ H Q q => tTest_mono (bin_of hφ) σ H Q (tst_of σ H Q q)
end
abbrev ltR := flat2 (int2 ilt)
abbrev leR := flat2 (int2 ile)
abbrev gtR := flat2 (int2 igt)
abbrev geR := flat2 (int2 ige)
abbrev eqR := flat2 (deq false)
abbrev neR := flat2 (deq true)
abbrev isR := flat2 (dis false)
abbrev notR := flat2 (dis true)
theorem xlt (ha : PE X a (tX X.K W f)) (hb : PE X b (tX X.K W g)) : PE X (.Compare a [.Lt] [b] pos) (tX X.K W (binF ltR f g)) := xcmp op_lt icmp_ok ha hb (nomark _)
theorem xle (ha : PE X a (tX X.K W f)) (hb : PE X b (tX X.K W g)) : PE X (.Compare a [.LtE] [b] pos) (tX X.K W (binF leR f g)) := xcmp op_le icmp_ok ha hb (nomark _)
theorem xgt (ha : PE X a (tX X.K W f)) (hb : PE X b (tX X.K W g)) : PE X (.Compare a [.Gt] [b] pos) (tX X.K W (binF gtR f g)) := xcmp op_gt icmp_ok ha hb (nomark _)
theorem xge (ha : PE X a (tX X.K W f)) (hb : PE X b (tX X.K W g)) : PE X (.Compare a [.GtE] [b] pos) (tX X.K W (binF geR f g)) := xcmp op_ge icmp_ok ha hb (nomark _)
theorem xeq (hu : X.A.units + 64 < cLine) (ha : PE X a (tX X.K W f)) (hb : PE X b (tX X.K W g)) : PE X (.Compare a [.Eq] [b] pos) (tX X.K W (binF eqR f g)) := xcmp (op_eqD hu) ok_eqD ha hb (nomark _)
theorem xne (hu : X.A.units + 64 < cLine) (ha : PE X a (tX X.K W f)) (hb : PE X b (tX X.K W g)) : PE X (.Compare a [.NotEq] [b] pos) (tX X.K W (binF neR f g)) := xcmp (op_neD hu) ok_neD ha hb (nomark _)
theorem xis (ha : PE X a (tX X.K W f)) (hb : PE X b (tX X.K W g)) : PE X (.Compare a [.Is] [b] pos) (tX X.K W (binF isR f g)) := xcmp op_isA ok_is ha hb (nomark _)
theorem xisnot (ha : PE X a (tX X.K W f)) (hb : PE X b (tX X.K W g)) : PE X (.Compare a [.IsNot] [b] pos) (tX X.K W (binF notR f g)) := xcmp op_notA ok_not ha hb (nomark _)
theorem xtlt (ha : PE X a (tX X.K W f)) (hb : PE X b (tX X.K W g)) : PT X (.Compare a [.Lt] [b] pos) (tXt X.K W (tstF (binF ltR f g))) := xtcmp op_lt icmp_ok ha hb (nomark _)
theorem xtle (ha : PE X a (tX X.K W f)) (hb : PE X b (tX X.K W g)) : PT X (.Compare a [.LtE] [b] pos) (tXt X.K W (tstF (binF leR f g))) := xtcmp op_le icmp_ok ha hb (nomark _)
theorem xtgt (ha : PE X a (tX X.K W f)) (hb : PE X b (tX X.K W g)) : PT X (.Compare a [.Gt] [b] pos) (tXt X.K W (tstF (binF gtR f g))) := xtcmp op_gt icmp_ok ha hb (nomark _)
theorem xtge (ha : PE X a (tX X.K W f)) (hb : PE X b (tX X.K W g)) : PT X (.Compare a [.GtE] [b] pos) (tXt X.K W (tstF (binF geR f g))) := xtcmp op_ge icmp_ok ha hb (nomark _)
theorem xteq (hu : X.A.units + 64 < cLine) (ha : PE X a (tX X.K W f)) (hb : PE X b (tX X.K W g)) : PT X (.Compare a [.Eq] [b] pos) (tXt X.K W (tstF (binF eqR f g))) := xtcmp (op_eqD hu) ok_eqD ha hb (nomark _)
theorem xtne (hu : X.A.units + 64 < cLine) (ha : PE X a (tX X.K W f)) (hb : PE X b (tX X.K W g)) : PT X (.Compare a [.NotEq] [b] pos) (tXt X.K W (tstF (binF neR f g))) := xtcmp (op_neD hu) ok_neD ha hb (nomark _)
theorem xtis (ha : PE X a (tX X.K W f)) (hb : PE X b (tX X.K W g)) : PT X (.Compare a [.Is] [b] pos) (tXt X.K W (tstF (binF isR f g))) := xtcmp op_isA ok_is ha hb (nomark _)
theorem xtisnot (ha : PE X a (tX X.K W f)) (hb : PE X b (tX X.K W g)) : PT X (.Compare a [.IsNot] [b] pos) (tXt X.K W (tstF (binF notR f g))) := xtcmp op_notA ok_not ha hb (nomark _)

/-! ### in -/
def flatD : D → Bool
  | .none => true
  | .bool _ => true
  | .int _ => true
  | .str _ => true
  | _ => false
theorem dp_flat {H : Hp} {v : V} {d : D} (h : Dp K H v d) (e : flatD d = true) : flatV v = true := by cases h <;> first | rfl | cases e
theorem dp_flats {H : Hp} : ∀ {vs : List V} {ds : List D}, DpAll K H vs ds → ds.all flatD = true → vs.all flatV = true
  | _, _, .nil, _ => rfl
  | _, _, .cons h t, e => by
    rw [List.all_cons, Bool.and_eq_true] at e
    rw [List.all_cons, dp_flat h e.1, dp_flats t e.2]
    rfl
theorem dp_eqV {H : Hp} {v w : V} {d e : D} (h1 : Dp K H v d) (h2 : Dp K H w e) (f1 : flatD d = true) (f2 : flatD e = true) : eqV v w = PyData.eqv d e := by
  cases h1 <;> first | (cases f1; done) | (cases h2 <;> first | (cases f2; done) | rfl)
theorem dp_inV {H : Hp} {x : V} {e : D} (hx : Dp K H x e) (fx : flatD e = true) : ∀ {vs : List V} {ds : List D}, DpAll K H vs ds → ds.all flatD = true → inV x vs = ds.any fun z => PyData.eqv z e
  | _, _, .nil, _ => rfl
  | _, _, .cons h t, f => by
    rw [List.all_cons, Bool.and_eq_true] at f
    have ih := dp_inV hx fx t f.2
    unfold inV at ih ⊢
    rw [List.any_cons, List.any_cons, ih, dp_eqV h hx f.1 fx]
def Rv.seq (a : Rv) : Option (List D) := match a.dat with
  | some (.list xs) => some xs
  | some (.tuple xs) => some xs
  | _ => none
theorem RvOk.seq {H0 : Hp} {h : Hs} {v : V} {a : Rv} {xs : List D} (c : Ch h) (ok : RvOk K H0 h v a) (e : a.seq = some xs) : ∃ p vs, v = .ref p ∧ (SqL K h.H p vs ∨ SqT K h.H p vs) ∧ DpAll K h.H vs xs := by
  unfold Rv.seq at e
  split at e
  · rename_i ys e1
    cases e
    obtain ⟨p, vs, rfl, s, d⟩ := dp_lst (ok.dp c e1)
    exact ⟨p, vs, rfl, .inl s, d⟩
  · rename_i ys e1
    cases e
    obtain ⟨p, vs, rfl, s, d⟩ := dp_tup (ok.dp c e1)
    exact ⟨p, vs, rfl, .inr s, d⟩
  · cases e
def inSeq (n : Bool) (a b : Rv) : Er Rv := match a.dat, b.seq with
  | some x, some ys => if flatD x = true ∧ ys.all flatD = true then .ok (.v (.bool (if n then !(ys.any fun z => PyData.eqv z x) else ys.any fun z => PyData.eqv z x))) else .bad
  | _, _ => .bad
theorem ok_inSeq {n : Bool} : OpOk K W (inSeq n) (rIn K n) := by
  intro h0 h ρ σ x y a b Q R0 R g oka okb q
  unfold inSeq at q
  split at q
  · rename_i d ys ea eb
    split at q
    · rename_i hc
      obtain ⟨p, vs, rfl, s, da⟩ := okb.seq R.ch eb
      have hx := oka.dp R.ch ea
      refine ⟨p, vs, rfl, s, dp_flat hx hc.1, dp_flats da hc.2, ?_⟩
      rw [dp_inV hx hc.1 da hc.2]
      exact q.now R (.bl _)
    · exact q.elim
  · exact q.elim
def inStr (n : Bool) : D → D → Er D := fun x y => match x, y with
  | .str i, .str j => .ok (.bool (if n then !(!(Builtin.Str.occurrences j i 0 j.length 1).isEmpty) else !(Builtin.Str.occurrences j i 0 j.length 1).isEmpty))
  | _, _ => .bad
def rInStr (n : Bool) : R2 := fun x y H Q => ∃ i j, x = .str i ∧ y = .str j ∧ Q (.bl (if n then !(!(Builtin.Str.occurrences j i 0 j.length 1).isEmpty) else !(Builtin.Str.occurrences j i 0 j.length 1).isEmpty)) H
theorem ok_inStr {n : Bool} : OpOk K W (flat2 (inStr n)) (rInStr n) := by
  refine flat_ok (fun x y c p e => ?_) (fun H x y d e f Q h1 h2 e1 q => ?_) fun d e f e1 => ?_
  · unfold inStr at e; split at e <;> cases e
  · unfold inStr at e1
    split at e1
    · cases e1; exact ⟨_, _, dp_str h1, dp_str h2, q _ rfl⟩
    · cases e1
  · unfold inStr at e1
    split at e1
    · cases e1; rfl
    · cases e1
/-- a key is asked of an own dict -/
def inDic (n : Bool) (a b : Rv) : Er Rv := match b with
  | .wk kvs => match a.dat.bind keyD with
    | some k => .ok (.v (.bool (if n then !(getK kvs k).isSome else (getK kvs k).isSome)))
    | none => .bad
  | _ => .bad
/-- what stands at a key -/
theorem dget_ok {h : Hs} {H0 : Hp} {x y : V} {a : Rv} {kvs : List (Key × D)} {k : Key} (c : Ch h) (e : a.dat.bind keyD = some k) (oka : RvOk K H0 h y a) (okb : RvOk K H0 h x (.wk kvs)) :
    ∃ p o, x = .ref p ∧ DGet h.H p y o ∧ ((∃ v d, o = some v ∧ getK kvs k = some d ∧ Dp K h.G v d) ∨ (o = none ∧ getK kvs k = none)) := by
  obtain ⟨d, e1, e2⟩ := Option.bind_eq_some_iff.mp e
  have ey := keyD_v e2 (oka.dp c e1)
  subst ey
  obtain ⟨l, vs, rfl, hl, kd⟩ := okb
  refine ⟨l, valV vs k, rfl, DGet.k hl, ?_⟩
  rcases kd.get k with ⟨v, d, e3, e4, e5⟩ | ⟨e3, e4⟩
  · exact .inl ⟨v, d, e3, e4, e5⟩
  · exact .inr ⟨e3, e4⟩
theorem xin_of {n : Bool} : ∀ σ H Q, tX K W (binF (alt (inDic n) (alt (inSeq n) (flat2 (inStr n)))) f g) σ H Q →
    (fun σ H Q => tX K W f σ H fun y H1 => tX K W g σ H1 fun x H2 => ∃ a o, x = .ref a ∧ DGet H2 a y o ∧ Q (.bl (if n then !o.isSome else o.isSome)) H2) σ H Q ∨
    tOp (fun x y H Q => rIn K n x y H Q ∨ rInStr n x y H Q) (tX K W f) (tX K W g) σ H Q := by
  intro σ H Q q
  have q0 := q
  obtain ⟨h, ρ, rfl, R, q⟩ := tX_iff.mp q
  -- is the second one a dict
  have e0 : (∀ a, f ρ = .ok a → ∀ kvs, g ρ = .ok (.wk kvs) → inDic n a (.wk kvs) = .bad) ∨ ∃ a kvs, f ρ = .ok a ∧ g ρ = .ok (.wk kvs) ∧ inDic n a (.wk kvs) ≠ .bad := by
    by_cases z : ∃ a kvs, f ρ = .ok a ∧ g ρ = .ok (.wk kvs) ∧ inDic n a (.wk kvs) ≠ .bad
    · exact .inr z
    · exact .inl fun a ea kvs eg => Classical.byContradiction fun y => z ⟨a, kvs, ea, eg, y⟩
  rcases e0 with e0 | ⟨a, kvs, ea, eg, e0⟩
  · refine .inr (tX_mk R (q.bind fun a y h1 ea R1 g1 ok1 q1 => tX_mk R1 (q1.bind fun b x h2 eb R2 g2 ok2 q2 => ?_)))
    have e1 : inDic n a b = .bad := by
      cases b with
      | wk kvs => exact e0 a ea kvs eb
      | _ => rfl
    have e2 : alt (inDic n) (alt (inSeq n) (flat2 (inStr n))) a b = alt (inSeq n) (flat2 (inStr n)) a b := by
      unfold Sq.alt
      rw [e1]
    rw [e2] at q2
    exact (ok_inSeq.alt ok_inStr) h h2 ρ σ y x a b Q R R2 (g1.trans g2) (ok1.grow g2) (ok2.old g1.x) q2
  · refine .inl (tX_mk R (q.bind fun a' y h1 ea' R1 g1 ok1 q1 => tX_mk R1 (q1.bind fun b x h2 eb R2 g2 ok2 q2 => ?_)))
    rw [ea] at ea'
    cases ea'
    rw [eg] at eb
    cases eb
    have e2 : alt (inDic n) (alt (inSeq n) (flat2 (inStr n))) a (.wk kvs) = inDic n a (.wk kvs) := by
      unfold Sq.alt
      cases q : inDic n a (.wk kvs) with
      | bad => exact absurd q e0
      | ok _ => rfl
      | exc _ _ => rfl
    rw [e2] at q2
    cases ek : a.dat.bind keyD with
    | none =>
      unfold inDic at e0
      rw [ek] at e0
      exact absurd rfl e0
    | some k =>
      obtain ⟨p, o, ex, dg, ho⟩ := dget_ok R2.ch ek (ok1.grow g2) ok2
      refine ⟨p, o, ex, dg, ?_⟩
      unfold inDic at q2
      dsimp only at q2
      rw [ek] at q2
      have eo : o.isSome = (getK kvs k).isSome := by
        rcases ho with ⟨v, d, e3, e4, _⟩ | ⟨e3, e4⟩
        · rw [e3, e4]; rfl
        · rw [e3, e4]; rfl
      rw [eo]
      exact q2.now R2 (.bl _)
abbrev inR (n : Bool) := alt (inDic n) (alt (inSeq n) (flat2 (inStr n)))
theorem xin (hu : X.A.units + 1 < cLine) (ha : PE X a (tX X.K W f)) (hb : PE X b (tX X.K W g)) (hm : behindInMarks .In b = false := by first | exact nobehind _ (by decide) (by decide) | rfl) : PE X (.Compare a [.In] [b] pos) (tX X.K W (binF (inR false) f g)) :=
  peTo (peOr (pe_cmp (pc_din hu ha hb) hm) (pe_cmpR (op_in_seq.or op_in_str) ha hb hm)) xin_of
theorem xnotin (hu : X.A.units + 1 < cLine) (ha : PE X a (tX X.K W f)) (hb : PE X b (tX X.K W g)) (hm : behindInMarks .NotIn b = false := by first | exact nobehind _ (by decide) (by decide) | rfl) : PE X (.Compare a [.NotIn] [b] pos) (tX X.K W (binF (inR true) f g)) :=
  peTo (peOr (pe_cmp (pc_dnotin hu ha hb) hm) (pe_cmpR (op_notIn_seq.or op_notIn_str) ha hb hm)) xin_of
theorem xtin (hu : X.A.units + 1 < cLine) (ha : PE X a (tX X.K W f)) (hb : PE X b (tX X.K W g)) (hm : behindInMarks .In b = false := by first | exact nobehind _ (by decide) (by decide) | rfl) : PT X (.Compare a [.In] [b] pos) (tXt X.K W (tstF (binF (inR false) f g))) :=
  ptTo (ptOr (pt_cmp (pc_din hu ha hb) hm) (pt_cmpR (op_in_seq.or op_in_str) ha hb hm)) fun σ H Q q => xin_of (n := false) σ H _ (tst_of σ H Q q)
theorem xtnotin (hu : X.A.units + 1 < cLine) (ha : PE X a (tX X.K W f)) (hb : PE X b (tX X.K W g)) (hm : behindInMarks .NotIn b = false := by first | exact nobehind _ (by decide) (by decide) | rfl) : PT X (.Compare a [.NotIn] [b] pos) (tXt X.K W (tstF (binF (inR true) f g))) :=
  ptTo (ptOr (pt_cmp (pc_dnotin hu ha hb) hm) (pt_cmpR (op_notIn_seq.or op_notIn_str) ha hb hm)) fun σ H Q q => xin_of (n := true) σ H _ (tst_of σ H Q q)
end
end Sq

/-! and, or, not, if; displays; subscripts. -/
namespace Sq
open PySem PySem.Spec PyProof.Rows L2
section
variable {K : PySem.W.Frag} {W : WF} {X : Cx} {a b c : Expr} {f g k : EF} {t u : Env → Er Bool} {pos : Pos} {rest : List Expr}

def andF (f g : EF) : EF := fun ρ => (f ρ).bind fun a => a.tst.bind fun k => if k = true then g ρ else .ok (.v (.bool false))
def orF (f g : EF) : EF := fun ρ => (f ρ).bind fun a => a.tst.bind fun k => if k = true then .ok (.v (.bool true)) else g ρ
def notF (f : EF) : EF := fun ρ => (f ρ).bind fun a => a.tst.bind fun k => .ok (.v (.bool (!k)))
theorem tst_nowE {h : Hs} {ρ : Env} {σ : L2.St} {Q : VK} {H0 : Hp} {v : V} {a : Rv} {k : Bool → Er Rv} (q : PE1 K W h ρ σ Q (a.tst.bind k)) (ok : RvOk K H0 h v a) : ∃ c, v = .bl c ∧ PE1 K W h ρ σ Q (k c) := by
  cases e : a.tst with
  | ok c =>
    rw [e] at q
    exact ⟨c, ok.tst e, q⟩
  | exc c p => exact absurd e Rv.tst_ne
  | bad => rw [e] at q; exact q.elim
theorem xand (ha : PE X a (tX X.K W f)) (hb : PE X (.BoolOp .And (b :: rest) pos) (tX X.K W g)) : PE X (.BoolOp .And (a :: b :: rest) pos) (tX X.K W (andF f g)) := by
  refine peTo (pe_and ha hb) fun σ H Q q => ?_
  obtain ⟨h, ρ, rfl, R, q⟩ := tX_iff.mp q
  refine tX_mk R (q.bind fun a v h1 _ R1 g1 ok1 q1 => ?_)
  obtain ⟨c, ev, q2⟩ := tst_nowE q1 ok1
  refine ⟨c, ev, ?_⟩
  cases c with
  | true => exact tX_mk R1 q2
  | false => exact q2.now R1 (.bl _)
theorem xor (ha : PE X a (tX X.K W f)) (hb : PE X (.BoolOp .Or (b :: rest) pos) (tX X.K W g)) : PE X (.BoolOp .Or (a :: b :: rest) pos) (tX X.K W (orF f g)) := by
  refine peTo (pe_or ha hb) fun σ H Q q => ?_
  obtain ⟨h, ρ, rfl, R, q⟩ := tX_iff.mp q
  refine tX_mk R (q.bind fun a v h1 _ R1 g1 ok1 q1 => ?_)
  obtain ⟨c, ev, q2⟩ := tst_nowE q1 ok1
  refine ⟨c, ev, ?_⟩
  cases c with
  | true => exact q2.now R1 (.bl _)
  | false => exact tX_mk R1 q2
theorem xone {op} (ha : PE X a (tX X.K W f)) : PE X (.BoolOp op [a] pos) (tX X.K W f) := pe_one ha
theorem xnot (ha : PE X a (tX X.K W f)) : PE X (.UnaryOp .Not a pos) (tX X.K W (notF f)) := by
  refine peTo (pe_not ha) fun σ H Q q => ?_
  obtain ⟨h, ρ, rfl, R, q⟩ := tX_iff.mp q
  refine tX_mk R (q.bind fun a v h1 _ R1 g1 ok1 q1 => ?_)
  obtain ⟨c, ev, q2⟩ := tst_nowE q1 ok1
  exact ⟨c, ev, q2.now R1 (.bl _)⟩
/-! tests -/
theorem xtval {e : Expr} (h : PE X e (tX X.K W f)) (he : ∀ whole, isTrue e X.env whole = (do let v ← whole; standAt e.pos; holding [v] (truthy v)) := by intro _; rfl) : PT X e (tXt X.K W (tstF f)) := ptTo (pt_val h he) tst_of
def andT (t u : Env → Er Bool) : Env → Er Bool := fun ρ => (t ρ).bind fun k => if k = true then u ρ else .ok false
def orT (t u : Env → Er Bool) : Env → Er Bool := fun ρ => (t ρ).bind fun k => if k = true then .ok true else u ρ
def notT (t : Env → Er Bool) : Env → Er Bool := fun ρ => (t ρ).bind fun k => .ok (!k)
theorem xwand1 (ha : PT X a (tXt X.K W t)) : PW X (.BoolOp .And [a] pos) (tXt X.K W t) := pw_and1 ha
theorem xwor1 (ha : PT X a (tXt X.K W t)) : PW X (.BoolOp .Or [a] pos) (tXt X.K W t) := pw_or1 ha
theorem xwand (ha : PT X a (tXt X.K W t)) (hb : PW X (.BoolOp .And (b :: rest) pos) (tXt X.K W u)) : PW X (.BoolOp .And (a :: b :: rest) pos) (tXt X.K W (andT t u)) := by
  refine pwTo (pw_and ha hb) fun σ H Q q => ?_
  obtain ⟨h, ρ, rfl, R, q⟩ := tXt_iff.mp q
  refine tXt_mk R (q.bindT fun k h1 _ R1 g1 q1 => ?_)
  cases k with
  | true => exact tXt_mk R1 q1
  | false => exact q1 h1 R1 (Gr.refl _)
theorem xwor (ha : PT X a (tXt X.K W t)) (hb : PW X (.BoolOp .Or (b :: rest) pos) (tXt X.K W u)) : PW X (.BoolOp .Or (a :: b :: rest) pos) (tXt X.K W (orT t u)) := by
  refine pwTo (pw_or ha hb) fun σ H Q q => ?_
  obtain ⟨h, ρ, rfl, R, q⟩ := tXt_iff.mp q
  refine tXt_mk R (q.bindT fun k h1 _ R1 g1 q1 => ?_)
  cases k with
  | true => exact q1 h1 R1 (Gr.refl _)
  | false => exact tXt_mk R1 q1
theorem xtnot (ha : PT X a (tXt X.K W t)) : PT X (.UnaryOp .Not a pos) (tXt X.K W (notT t)) := by
  refine ptTo (pt_not ha) fun σ H Q q => ?_
  obtain ⟨h, ρ, rfl, R, q⟩ := tXt_iff.mp q
  exact tXt_mk R (q.bindT fun k h1 _ R1 g1 q1 => q1 h1 R1 (Gr.refl _))
/-- truth of data -/
def Rv.tru (a : Rv) : Er Bool := match a.dat with
  | some .none => .ok false
  | some (.bool k) => .ok k
  | some (.int i) => .ok (i != 0)
  | some (.str s) => if s.length ≤ 100000 then .ok (s.length != 0) else .bad
  | some (.list xs) => .ok (!xs.isEmpty)
  | some (.tuple xs) => .ok (!xs.isEmpty)
  | _ => .bad
def ifF (t : Env → Er Bool) (f g : EF) : EF := fun ρ => (t ρ).bind fun k => if k = true then f ρ else g ρ
theorem xif (hc : PT X c (tXt X.K W t)) (ha : PE X a (tX X.K W f)) (hb : PE X b (tX X.K W g)) : PE X (.IfExp c a b pos) (tX X.K W (ifF t f g)) := by
  refine peTo (pe_ifExp hc ha hb) fun σ H Q q => ?_
  obtain ⟨h, ρ, rfl, R, q⟩ := tX_iff.mp q
  refine tXt_mk R (PT1.bind q fun k h1 _ R1 g1 q1 => ?_)
  cases k with
  | true => exact tX_mk R1 q1
  | false => exact tX_mk R1 q1

/-! ### several expressions, each frozen -/
def RvF (K : PySem.W.Frag) (h : Hs) (v : V) : Rv → Prop
  | .v d => Dp K h.G v d
  | .b d => Dp K h.F v d
  | .r d => Dp K h.H v d
  | _ => False
theorem RvF.grow {h h' : Hs} {v : V} (g : Gr h h') : ∀ {r : Rv}, RvF K h v r → RvF K h' v r
  | .v d, q => ex_dp g.g q
  | .b d, q => ex_dp g.f q
  | .r d, q => ex_dp g.x q
  | .w _, q => q
  | .o _, q => q
  | .wk _, q => q
  | .ok _, q => q
  | .wt _, q => q
  | .ot _, q => q
  | .p2 _ _, q => q
  | .wi _ _, q => q
  | .oi _ _, q => q
theorem RvF.of {H0 : Hp} {h : Hs} {v : V} {a a' : Rv} (e : a.frz = .ok a') (ok : RvOk K H0 h v a') : RvF K h v a' := by
  cases a <;> cases e <;> exact ok
theorem RvF.dp {h : Hs} {v : V} {r : Rv} (c : Ch h) (q : RvF K h v r) : ∃ d, r.dat = some d ∧ Dp K h.H v d := by
  cases r with
  | v d => exact ⟨d, rfl, ex_dp c.gh q⟩
  | b d => exact ⟨d, rfl, ex_dp c.fh q⟩
  | r d => exact ⟨d, rfl, q⟩
  | _ => exact q.elim
def RvsOk (K : PySem.W.Frag) (h : Hs) : List V → List Rv → Prop
  | [], [] => True
  | v :: vs, r :: rs => RvF K h v r ∧ RvsOk K h vs rs
  | _, _ => False
theorem RvsOk.grow {h h' : Hs} (g : Gr h h') : ∀ {vs : List V} {rs : List Rv}, RvsOk K h vs rs → RvsOk K h' vs rs
  | [], [], _ => trivial
  | _ :: _, _ :: _, ⟨a, b⟩ => ⟨a.grow g, b.grow g⟩
  | [], _ :: _, q => q
  | _ :: _, [], q => q
theorem RvsOk.len {h : Hs} : ∀ {vs : List V} {rs : List Rv}, RvsOk K h vs rs → vs.length = rs.length
  | [], [], _ => rfl
  | _ :: _, _ :: _, ⟨a, b⟩ => congrArg (· + 1) b.len
  | [], _ :: _, q => q.elim
  | _ :: _, [], q => q.elim
abbrev AF := Env → Er (List Rv)
def aNil : AF := fun _ => .ok []
def aCons (f : EF) (r : AF) : AF := fun ρ => (f ρ).bind fun a => a.frz.bind fun a' => (r ρ).bind fun as => .ok (a' :: as)
def PA1 (K : PySem.W.Frag) (W : WF) (h : Hs) (ρ : Env) (σ : L2.St) (Q : List V → Hp → Prop) : Er (List Rv) → Prop
  | .ok rs => ∀ vs h', Rel K h' ρ σ → Gr h h' → RvsOk K h' vs rs → Q vs h'.H
  | .exc c p => ∀ h', Rel K h' ρ σ → Gr h h' → W c p σ h'
  | .bad => False
def tXa (K : PySem.W.Frag) (W : WF) (f : AF) : TA := fun σ H Q => ∃ h ρ, h.H = H ∧ Rel K h ρ σ ∧ PA1 K W h ρ σ Q (f ρ)
theorem PA1.shift {h h1 : Hs} {ρ : Env} {σ : L2.St} {Q : List V → Hp → Prop} (g : Gr h h1) : ∀ {e : Er (List Rv)}, PA1 K W h ρ σ Q e → PA1 K W h1 ρ σ Q e
  | .ok r, q => fun v h' R g' ok => q v h' R (g.trans g') ok
  | .exc c p, q => fun h' R g' => q h' R (g.trans g')
  | .bad, q => q
theorem PA1.bindE {h : Hs} {ρ : Env} {σ : L2.St} {QA : List V → Hp → Prop} {e : Er Rv} {k : Rv → Er (List Rv)} (q : PA1 K W h ρ σ QA (e.bind k)) {Q' : VK}
    (hk : ∀ a v h', e = .ok a → Rel K h' ρ σ → Gr h h' → RvOk K h.H h' v a → PA1 K W h' ρ σ QA (k a) → Q' v h'.H) : PE1 K W h ρ σ Q' e := by
  cases e with
  | ok a => exact fun v h' R g ok => hk a v h' rfl R g ok (PA1.shift g q)
  | exc c p => exact q
  | bad => exact q
theorem PA1.bindA {h : Hs} {ρ : Env} {σ : L2.St} {QA : List V → Hp → Prop} {e : Er (List Rv)} {k : List Rv → Er (List Rv)} (q : PA1 K W h ρ σ QA (e.bind k)) {Q' : List V → Hp → Prop}
    (hk : ∀ a v h', e = .ok a → Rel K h' ρ σ → Gr h h' → RvsOk K h' v a → PA1 K W h' ρ σ QA (k a) → Q' v h'.H) : PA1 K W h ρ σ Q' e := by
  cases e with
  | ok a => exact fun v h' R g ok => hk a v h' rfl R g ok (PA1.shift g q)
  | exc c p => exact q
  | bad => exact q
theorem PE1.bindA {h : Hs} {ρ : Env} {σ : L2.St} {Q : VK} {e : Er (List Rv)} {k : List Rv → Er Rv} (q : PE1 K W h ρ σ Q (e.bind k)) {Q' : List V → Hp → Prop}
    (hk : ∀ a v h', e = .ok a → Rel K h' ρ σ → Gr h h' → RvsOk K h' v a → PE1 K W h' ρ σ Q (k a) → Q' v h'.H) : PA1 K W h ρ σ Q' e := by
  cases e with
  | ok a => exact fun v h' R g ok => hk a v h' rfl R g ok (PE1.shift g q)
  | exc c p => exact q
  | bad => exact q
theorem frz_ne {a : Rv} {c : Str} {p : Option (Str × D)} : a.frz ≠ .exc c p := by
  intro e
  cases a <;> cases e
theorem xanil : PA X [] (tXa X.K W aNil) := paTo pa_nil fun σ H Q ⟨h, ρ, e, R, q⟩ => by
  subst e
  exact q [] h R (Gr.refl _) trivial
theorem xacons {e : Expr} {es : List Expr} {r : AF} (ha : PE X e (tX X.K W f)) (hr : PA X es (tXa X.K W r)) (hs : starEach (e :: es) X.env = (false, eval e X.env) :: starEach es X.env := by rfl) : PA X (e :: es) (tXa X.K W (aCons f r)) := by
  refine paTo (pa_cons ha hr hs) fun σ H Q q => ?_
  obtain ⟨h, ρ, rfl, R, q⟩ := q
  refine tX_mk R (PA1.bindE q fun a v h1 _ R1 g1 ok1 q1 => ?_)
  cases ez : a.frz with
  | exc c p => exact absurd ez frz_ne
  | bad => rw [ez] at q1; exact q1.elim
  | ok a' =>
    rw [ez] at q1
    obtain ⟨h2, eh, R2, g2, ok2⟩ := frz_ok R R1 g1 ez ok1
    rw [← eh]
    -- what follows, from h2: q says it from h
    have q2 : PA1 X.K W h2 ρ σ Q ((r ρ).bind fun as => .ok (a' :: as)) := by
      have q0 : PA1 X.K W h ρ σ Q ((r ρ).bind fun as => .ok (a' :: as)) := by
        have e0 : aCons f r ρ = (r ρ).bind fun as => .ok (a' :: as) := by
          unfold aCons
          rw [show f ρ = .ok a by assumption]
          show (a.frz.bind _) = _
          rw [ez]
          rfl
        rw [e0] at q
        exact q
      exact PA1.shift g2 q0
    refine ⟨h2, ρ, rfl, R2, PA1.bindA q2 fun as vs h3 _ R3 g3 ok3 q3 => ?_⟩
    exact q3 _ h3 R3 (Gr.refl _) ⟨(RvF.of ez ok2).grow g3, ok3⟩
end
end Sq

/-! Displays, subscripts, calls of what is built in. -/
namespace Sq
open PySem PySem.Spec PyProof.Rows L2
section
variable {K : PySem.W.Frag} {W : WF} {X : Cx} {a b c e : Expr} {es : List Expr} {f g k : EF} {r : AF} {pos p : Pos}

/-! ### displays -/
def allV : List Rv → Option (List D)
  | [] => some []
  | .v d :: rs => (allV rs).map (d :: ·)
  | _ => none
def allB : List Rv → Option (List D)
  | [] => some []
  | .v d :: rs => (allB rs).map (d :: ·)
  | .b d :: rs => (allB rs).map (d :: ·)
  | _ => none
def allR : List Rv → Option (List D)
  | [] => some []
  | .v d :: rs => (allR rs).map (d :: ·)
  | .b d :: rs => (allR rs).map (d :: ·)
  | .r d :: rs => (allR rs).map (d :: ·)
  | _ => none
theorem allV_ok {h : Hs} (ch : Ch h) : ∀ {vs : List V} {rs : List Rv} {ds : List D}, allV rs = some ds → RvsOk K h vs rs → DpAll K h.G vs ds
  | [], [], _, e, _ => by cases e; exact .nil
  | _ :: _, .v d :: rs, ds, e, ⟨a, b⟩ => by
    obtain ⟨ds', e1, rfl⟩ := Option.map_eq_some_iff.mp e
    exact .cons a (allV_ok ch e1 b)
  | _ :: _, .b _ :: _, _, e, _ => by cases e
  | _ :: _, .r _ :: _, _, e, _ => by cases e
  | _ :: _, .w _ :: _, _, e, _ => by cases e
  | _ :: _, .o _ :: _, _, e, _ => by cases e
  | _ :: _, .wk _ :: _, _, e, _ => by cases e
  | _ :: _, .ok _ :: _, _, e, _ => by cases e
  | _ :: _, .wt _ :: _, _, e, _ => by cases e
  | _ :: _, .ot _ :: _, _, e, _ => by cases e
  | _ :: _, .p2 _ _ :: _, _, e, _ => by cases e
  | _ :: _, .wi _ _ :: _, _, e, _ => by cases e
  | _ :: _, .oi _ _ :: _, _, e, _ => by cases e
  | [], _ :: _, _, _, q => q.elim
  | _ :: _, [], _, _, q => q.elim
theorem allB_ok {h : Hs} (ch : Ch h) : ∀ {vs : List V} {rs : List Rv} {ds : List D}, allB rs = some ds → RvsOk K h vs rs → DpAll K h.F vs ds
  | [], [], _, e, _ => by cases e; exact .nil
  | _ :: _, .v d :: rs, ds, e, ⟨a, b⟩ => by
    obtain ⟨ds', e1, rfl⟩ := Option.map_eq_some_iff.mp e
    exact .cons (ex_dp ch.gf a) (allB_ok ch e1 b)
  | _ :: _, .b d :: rs, ds, e, ⟨a, b⟩ => by
    obtain ⟨ds', e1, rfl⟩ := Option.map_eq_some_iff.mp e
    exact .cons a (allB_ok ch e1 b)
  | _ :: _, .r _ :: _, _, e, _ => by cases e
  | _ :: _, .w _ :: _, _, e, _ => by cases e
  | _ :: _, .o _ :: _, _, e, _ => by cases e
  | _ :: _, .wk _ :: _, _, e, _ => by cases e
  | _ :: _, .ok _ :: _, _, e, _ => by cases e
  | _ :: _, .wt _ :: _, _, e, _ => by cases e
  | _ :: _, .ot _ :: _, _, e, _ => by cases e
  | _ :: _, .p2 _ _ :: _, _, e, _ => by cases e
  | _ :: _, .wi _ _ :: _, _, e, _ => by cases e
  | _ :: _, .oi _ _ :: _, _, e, _ => by cases e
  | [], _ :: _, _, _, q => q.elim
  | _ :: _, [], _, _, q => q.elim
theorem allR_ok {h : Hs} (ch : Ch h) : ∀ {vs : List V} {rs : List Rv} {ds : List D}, allR rs = some ds → RvsOk K h vs rs → DpAll K h.H vs ds
  | [], [], _, e, _ => by cases e; exact .nil
  | _ :: _, .v d :: rs, ds, e, ⟨a, b⟩ => by
    obtain ⟨ds', e1, rfl⟩ := Option.map_eq_some_iff.mp e
    exact .cons (ex_dp ch.gh a) (allR_ok ch e1 b)
  | _ :: _, .b d :: rs, ds, e, ⟨a, b⟩ => by
    obtain ⟨ds', e1, rfl⟩ := Option.map_eq_some_iff.mp e
    exact .cons (ex_dp ch.fh a) (allR_ok ch e1 b)
  | _ :: _, .r d :: rs, ds, e, ⟨a, b⟩ => by
    obtain ⟨ds', e1, rfl⟩ := Option.map_eq_some_iff.mp e
    exact .cons a (allR_ok ch e1 b)
  | _ :: _, .w _ :: _, _, e, _ => by cases e
  | _ :: _, .o _ :: _, _, e, _ => by cases e
  | _ :: _, .wk _ :: _, _, e, _ => by cases e
  | _ :: _, .ok _ :: _, _, e, _ => by cases e
  | _ :: _, .wt _ :: _, _, e, _ => by cases e
  | _ :: _, .ot _ :: _, _, e, _ => by cases e
  | _ :: _, .p2 _ _ :: _, _, e, _ => by cases e
  | _ :: _, .wi _ _ :: _, _, e, _ => by cases e
  | _ :: _, .oi _ _ :: _, _, e, _ => by cases e
  | [], _ :: _, _, _, q => q.elim
  | _ :: _, [], _, _, q => q.elim
def tupR (rs : List Rv) : Er Rv := if rs.length ≤ 1000 then (match allV rs with
  | some ds => .ok (.v (.tuple ds))
  | none => match allB rs with
    | some ds => .ok (.b (.tuple ds))
    | none => match allR rs with
      | some ds => .ok (.r (.tuple ds))
      | none => .bad) else .bad
def tupF (r : AF) : EF := fun ρ => (r ρ).bind tupR
theorem xtup {x1} (h : PA X es (tXa X.K W r)) : PE X (.Tuple es x1 pos) (tX X.K W (tupF r)) := by
  refine peTo (pe_tupF h) fun σ H Q q => ?_
  obtain ⟨h, ρ, rfl, R, q⟩ := tX_iff.mp q
  refine ⟨h, ρ, rfl, R, PE1.bindA q fun rs vs h1 _ R1 g1 ok1 q1 => ?_⟩
  unfold tupR at q1
  split at q1
  · refine ⟨by rw [ok1.len]; exact sz100 (by omega), fun p H' hp nt => ?_⟩
    split at q1
    · rename_i e
      exact q1.newT R1 (allV_ok R1.ch e ok1) hp nt
    · split at q1
      · rename_i e
        exact q1.newTB R1 (allB_ok R1.ch e ok1) hp nt
      · split at q1
        · rename_i e
          exact q1.newTR R1 (allR_ok R1.ch e ok1) hp nt
        · exact q1.elim
  · exact q1.elim
def lstR (rs : List Rv) : Er Rv := if rs.length ≤ 1000 then (match allV rs with
  | some ds => .ok (.o ds)
  | none => match allB rs with
    | some ds => .ok (.b (.list ds))
    | none => .bad) else .bad
def lstF (r : AF) : EF := fun ρ => (r ρ).bind lstR
theorem PE1.newLB {h : Hs} {ρ : Env} {σ : L2.St} {Q : VK} {xs : List D} {vs : List V} (q : PE1 K W h ρ σ Q (.ok (.b (.list xs)))) (R : Rel K h ρ σ) (d : DpAll K h.F vs xs) {p : Addr} (hp : h.H p = none) : Q (.ref p) (upd h.H p (.lst vs)) :=
  q _ _ (R.newB hp) (Gr.newB R.ch hp) (Dp.lst (SqL.of upd_same) (ex_dpa (Ex.new (R.ch.fN hp)) d))
theorem xlst (h : PA X es (tXa X.K W r)) : PE X (.List es pos) (tX X.K W (lstF r)) := by
  refine peTo (pe_lst h) fun σ H Q q => ?_
  obtain ⟨h, ρ, rfl, R, q⟩ := tX_iff.mp q
  refine ⟨h, ρ, rfl, R, PE1.bindA q fun rs vs h1 _ R1 g1 ok1 q1 => ?_⟩
  unfold lstR at q1
  split at q1
  · refine ⟨by rw [ok1.len]; exact sz100 (by omega), fun p hp => ?_⟩
    split at q1
    · rename_i e
      exact q1.newL R1 (allV_ok R1.ch e ok1) hp
    · split at q1
      · rename_i e
        exact q1.newLB R1 (allB_ok R1.ch e ok1) hp
      · exact q1.elim
  · exact q1.elim
/-- {} -/
theorem xdnew : PE X (.Dict [] [] pos) (tX X.K W (fun _ => .ok (.ok []))) := by
  refine peTo pe_dnewK fun σ H Q q => ?_
  obtain ⟨h, ρ, rfl, R, q⟩ := tX_iff.mp q
  exact fun p hp => q _ _ (R.newO hp) (Gr.newO R.ch hp) ⟨p, [], rfl, hp, upd_same, R.ch.fN hp, .nil⟩

/-! ### subscripts -/
/-- an item of a list or tuple, as its holder is -/
def Rv.item : Rv → Int → Option Rv
  | .v (.tuple xs), i => (atI xs i).map .v
  | .v (.list xs), i => (atI xs i).map .v
  | .b (.tuple xs), i => (atI xs i).map .b
  | .b (.list xs), i => (atI xs i).map .b
  | .r (.tuple xs), i => (atI xs i).map .r
  | .r (.list xs), i => (atI xs i).map .r
  | .w xs, i => (atI xs i).map .v
  | .o xs, i => (atI xs i).map .v
  | _, _ => none
def ixSeq (a i : Rv) : Er Rv := match i.dat with
  | some (.int z) => match a.item z with
    | some r => .ok r
    | none => .bad
  | _ => .bad
theorem atI_dp {H : Hp} {vs : List V} {ds : List D} {i : Int} {d : D} (h : DpAll K H vs ds) (e : atI ds i = some d) : ∃ v, atI vs i = some v ∧ Dp K H v d := by
  unfold atI at e ⊢
  rw [h.len]
  obtain ⟨j, e1, e2⟩ := Option.bind_eq_some_iff.mp e
  obtain ⟨v, e3, e4⟩ := h.get e2
  exact ⟨v, by rw [e1]; exact e3, e4⟩
theorem ixL_ok {h : Hs} {H1 : Hp} {p : Addr} {vs : List V} {ds : List D} {i : Int} {d : D} {Q : V → Prop} (hs : SqL K h.H p vs) (hd : DpAll K H1 vs ds) (e : atI ds i = some d) (q : ∀ v, Dp K H1 v d → Q v) : rIx K (.ref p) (.int i) h.H (fun v H => H = h.H → Q v) := by
  obtain ⟨v, e1, e2⟩ := atI_dp hd e
  exact .inl ⟨p, vs, i, v, rfl, rfl, hs, e1, fun _ => q v e2⟩
theorem ok_ixSeq : OpOk K W ixSeq (rIx K) := by
  intro h0 h ρ σ x y a b Q R0 R g oka okb q
  unfold ixSeq at q
  split at q
  · rename_i i ei
    split at q
    · rename_i res er
      have ey := dp_int (okb.dp R.ch ei)
      subst ey
      -- the holder's list
      have fin : ∀ {H1 : Hp} {p : Addr} {vs : List V} {ds : List D} {d : D} {mk : D → Rv}, (SqL K h.H p vs ∨ SqT K h.H p vs) → DpAll K H1 vs ds → atI ds i = some d → res = mk d → (∀ v, Dp K H1 v d → RvOk K h.H h v (mk d)) → rIx K (.ref p) (.int i) h.H Q := by
        intro H1 p vs ds d mk hs hd e em hk
        obtain ⟨v, e1, e2⟩ := atI_dp hd e
        have fq : Q v h.H := by
          rw [em] at q
          exact q.now R (hk v e2)
        rcases hs with hs | hs
        · exact .inl ⟨p, vs, i, v, rfl, rfl, hs, e1, fq⟩
        · exact .inr (.inl ⟨p, vs, i, v, rfl, rfl, hs, e1, fq⟩)
      unfold Rv.item at er
      split at er
      · obtain ⟨d, e1, e2⟩ := Option.map_eq_some_iff.mp er
        obtain ⟨p, vs, rfl, hs, hd⟩ := dp_tup oka
        exact fin (mk := .v) (.inr (ex_t R.ch.gh hs)) hd e1 e2.symm fun v hv => hv
      · obtain ⟨d, e1, e2⟩ := Option.map_eq_some_iff.mp er
        obtain ⟨p, vs, rfl, hs, hd⟩ := dp_lst oka
        exact fin (mk := .v) (.inl (ex_l R.ch.gh hs)) hd e1 e2.symm fun v hv => hv
      · obtain ⟨d, e1, e2⟩ := Option.map_eq_some_iff.mp er
        obtain ⟨p, vs, rfl, hs, hd⟩ := dp_tup oka
        exact fin (mk := .b) (.inr (ex_t R.ch.fh hs)) hd e1 e2.symm fun v hv => hv
      · obtain ⟨d, e1, e2⟩ := Option.map_eq_some_iff.mp er
        obtain ⟨p, vs, rfl, hs, hd⟩ := dp_lst oka
        exact fin (mk := .b) (.inl (ex_l R.ch.fh hs)) hd e1 e2.symm fun v hv => hv
      · obtain ⟨d, e1, e2⟩ := Option.map_eq_some_iff.mp er
        obtain ⟨p, vs, rfl, hs, hd⟩ := dp_tup oka
        exact fin (mk := .r) (.inr hs) hd e1 e2.symm fun v hv => hv
      · obtain ⟨d, e1, e2⟩ := Option.map_eq_some_iff.mp er
        obtain ⟨p, vs, rfl, hs, hd⟩ := dp_lst oka
        exact fin (mk := .r) (.inl hs) hd e1 e2.symm fun v hv => hv
      · obtain ⟨d, e1, e2⟩ := Option.map_eq_some_iff.mp er
        obtain ⟨p, vs, rfl, hl, hd⟩ := oka
        exact fin (mk := .v) (.inl (.of hl)) hd e1 e2.symm fun v hv => hv
      · obtain ⟨d, e1, e2⟩ := Option.map_eq_some_iff.mp er
        obtain ⟨p, vs, rfl, _, hl, _, hd⟩ := oka
        exact fin (mk := .v) (.inl (.of hl)) hd e1 e2.symm fun v hv => hv
      · cases er
    · exact q.elim
  · exact q.elim
/-- a sign of a text -/
def ixStr : D → D → Er D := fun x y => match x, y with
  | .str z, .int i => if z.length ≤ 100000 then (match atI z.cps.toList i with
    | some c => .ok (.str ⟨#[c]⟩)
    | none => .bad) else .bad
  | _, _ => .bad
theorem ok_ixStr : OpOk K W (flat2 ixStr) rIxS := by
  refine flat_ok (fun x y c p e => ?_) (fun H x y d e f Q h1 h2 e1 q => ?_) fun d e f e1 => ?_
  · unfold ixStr at e
    split at e
    · split at e
      · split at e <;> cases e
      · cases e
    · cases e
  · unfold ixStr at e1
    split at e1
    · split at e1
      · split at e1
        · rename_i hz _ c ec
          cases e1
          exact ⟨_, _, c, dp_str h1, dp_int h2, sz100 hz, ec, q _ rfl⟩
        · cases e1
      · cases e1
    · cases e1
  · unfold ixStr at e1
    split at e1
    · split at e1
      · split at e1
        · cases e1; rfl
        · cases e1
      · cases e1
    · cases e1
def ixDic (a i : Rv) : Er Rv := match a with
  | .wk kvs => match i.dat.bind keyD with
    | some k => match getK kvs k with
      | some d => .ok (.v d)
      | none => .bad
    | none => .bad
  | _ => .bad
abbrev ixR := alt ixDic (alt ixSeq (flat2 ixStr))
theorem ix_of : ∀ σ H Q, tX K W (binF ixR f g) σ H Q → tDGet (tX K W f) (tX K W g) σ H Q ∨ tOp (rIx K) (tX K W f) (tX K W g) σ H Q := by
  intro σ H Q q
  obtain ⟨h, ρ, rfl, R, q⟩ := tX_iff.mp q
  by_cases e0 : ∃ kvs i, f ρ = .ok (.wk kvs) ∧ g ρ = .ok i ∧ ixDic (.wk kvs) i ≠ .bad
  · obtain ⟨kvs, i, ef, eg, nb⟩ := e0
    refine .inl (tX_mk R (q.bind fun a x h1 ea R1 g1 ok1 q1 => tX_mk R1 (q1.bind fun i' y h2 ei R2 g2 ok2 q2 => ?_)))
    rw [ef] at ea
    cases ea
    rw [eg] at ei
    cases ei
    have e2 : ixR (.wk kvs) i = ixDic (.wk kvs) i := by
      show alt ixDic (alt ixSeq (flat2 ixStr)) (.wk kvs) i = _
      unfold Sq.alt
      cases z : ixDic (.wk kvs) i with
      | bad => exact absurd z nb
      | ok _ => rfl
      | exc _ _ => rfl
    rw [e2] at q2
    unfold ixDic at q2 nb
    dsimp only at q2 nb
    cases ek : i.dat.bind keyD with
    | none => rw [ek] at nb; exact absurd rfl nb
    | some k =>
      rw [ek] at q2 nb
      dsimp only at q2 nb
      obtain ⟨p, o, ex, dg, ho⟩ := dget_ok R2.ch ek ok2 (ok1.grow g2)
      rcases ho with ⟨v, d, e3, e4, e5⟩ | ⟨e3, e4⟩
      · rw [e4] at q2
        rw [e3] at dg
        exact ⟨p, v, ex, dg, q2.now R2 e5⟩
      · rw [e4] at nb
        exact absurd rfl nb
  · refine .inr (tX_mk R (q.bind fun a x h1 ea R1 g1 ok1 q1 => tX_mk R1 (q1.bind fun i y h2 ei R2 g2 ok2 q2 => ?_)))
    have e1 : ixDic a i = .bad := by
      cases a with
      | wk kvs => exact Classical.byContradiction fun z => e0 ⟨kvs, i, ea, ei, z⟩
      | _ => rfl
    have e2 : ixR a i = alt ixSeq (flat2 ixStr) a i := by
      show (match ixDic a i with | .bad => _ | r => r) = _
      rw [e1]
    rw [e2] at q2
    rcases (ok_ixSeq.alt ok_ixStr) h h2 ρ σ x y a i Q R R2 (g1.trans g2) (ok1.grow g2) (ok2.old g1.x) q2 with z | z
    · exact z
    · exact .inr (.inr z)
theorem xix (hu : X.A.units + 1 < cLine) (ha : PE X a (tX X.K W f)) (hb : PE X b (tX X.K W g)) (hs : PlainIx b := by exact fun _ _ => rfl) (hn : NoSl b := by exact fun _ _ => rfl) : PE X (.Subscript a b pos) (tX X.K W (binF ixR f g)) :=
  peTo (peOr (pe_dget hu ha hb hn) (pe_ix ix_seq ha hb hs)) ix_of

/-! ### slices -/
def ptF (o : Option EF) : Env → Er (Option Int) := fun ρ => match o with
  | none => .ok none
  | some f => (f ρ).bind fun a => match a.dat with
    | some (.int i) => .ok (some i)
    | _ => .bad
def PO1 (K : PySem.W.Frag) (W : WF) (h : Hs) (ρ : Env) (σ : L2.St) (Q : Option Int → Hp → Prop) : Er (Option Int) → Prop
  | .ok r => ∀ h', Rel K h' ρ σ → Gr h h' → Q r h'.H
  | .exc c p => ∀ h', Rel K h' ρ σ → Gr h h' → W c p σ h'
  | .bad => False
def tXo (K : PySem.W.Frag) (W : WF) (o : Option EF) : TO := fun σ H Q => ∃ h ρ, h.H = H ∧ Rel K h ρ σ ∧ PO1 K W h ρ σ Q (ptF o ρ)
theorem xonone : PO X none (tXo X.K W none) := ⟨fun pins s σ H Q I hw => po_none.run pins s σ H Q I (by
  obtain ⟨h, ρ, rfl, R, q⟩ := hw
  exact q h R (Gr.refl h))⟩
theorem xosome (ha : PE X e (tX X.K W f)) : PO X (some e) (tXo X.K W (some f)) := ⟨fun pins s σ H Q I hw => (po_some ha).run pins s σ H Q I (by
  obtain ⟨h, ρ, rfl, R, q⟩ := hw
  have q : PO1 X.K W h ρ σ Q ((f ρ).bind fun a => match a.dat with
    | some (.int i) => .ok (some i)
    | _ => .bad) := q
  refine tX_mk R ?_
  cases e1 : f ρ with
  | bad => rw [e1] at q; exact q
  | exc c p => rw [e1] at q; exact q
  | ok a =>
    rw [e1] at q
    intro v h' R' g' ok'
    dsimp only [Er.bind] at q
    split at q
    · rename_i i ei
      exact ⟨i, dp_int (ok'.dp R'.ch ei), q h' R' g'⟩
    · exact q.elim)⟩
def cutD (xs : List D) (lo hi : Option Int) : List D := (xs.drop (HT.sIx xs.length 0 lo)).take (HT.sIx xs.length xs.length hi - HT.sIx xs.length 0 lo)
theorem cut_dp {H : Hp} {vs : List V} {ds : List D} (h : DpAll K H vs ds) (lo hi : Option Int) : DpAll K H (cutV vs lo hi) (cutD ds lo hi) := by
  unfold cutV cutD
  rw [h.len]
  exact (h.drop _).take _
/-- a cut: a new list, tuple, a text -/
def slR (a : Rv) (lo hi : Option Int) : Er Rv := match a with
  | .v (.list xs) => .ok (.o (cutD xs lo hi))
  | .w xs => .ok (.o (cutD xs lo hi))
  | .o xs => .ok (.o (cutD xs lo hi))
  | .b (.list xs) => .ok (.b (.list (cutD xs lo hi)))
  | .v (.tuple xs) => if HT.sIx xs.length 0 lo = 0 ∧ HT.sIx xs.length xs.length hi = xs.length then .bad else .ok (.v (.tuple (cutD xs lo hi)))
  | .v (.str z) => if z.length ≤ 100000 then .ok (.v (.str (cutS z lo hi))) else .bad
  | _ => .bad
def slF (f : EF) (lo hi : Option EF) : EF := fun ρ => (f ρ).bind fun a => (ptF lo ρ).bind fun l => (ptF hi ρ).bind fun u => slR a l u
theorem PE1.bindO {h : Hs} {ρ : Env} {σ : L2.St} {Q : VK} {e : Er (Option Int)} {k : Option Int → Er Rv} (q : PE1 K W h ρ σ Q (e.bind k)) {Q' : Option Int → Hp → Prop}
    (hk : ∀ a h', e = .ok a → Rel K h' ρ σ → Gr h h' → PE1 K W h' ρ σ Q (k a) → Q' a h'.H) : PO1 K W h ρ σ Q' e := by
  cases e with
  | ok a => exact fun h' R g => hk a h' rfl R g (PE1.shift g q)
  | exc c p => exact q
  | bad => exact q
theorem xsl {lo hi : Option Expr} {l u : Option EF} {p2 : Pos} (he : PE X e (tX X.K W f)) (hl : PO X lo (tXo X.K W l)) (hu : PO X hi (tXo X.K W u)) : PE X (.Subscript e (.Slice lo hi none p2) pos) (tX X.K W (slF f l u)) := by
  refine peTo (pe_slice ((sl_list.or sl_tupF).or sl_str) he hl hu) fun σ H Q q => ?_
  obtain ⟨h, ρ, rfl, R, q⟩ := tX_iff.mp q
  refine tX_mk R (q.bind fun a x h1 _ R1 g1 ok1 q1 => ?_)
  refine ⟨h1, ρ, rfl, R1, PE1.bindO q1 fun l h2 _ R2 g2 q2 => ?_⟩
  refine ⟨h2, ρ, rfl, R2, PE1.bindO q2 fun u h3 _ R3 g3 q3 => ?_⟩
  have ok3 := (ok1.grow g2).grow g3
  unfold slR at q3
  split at q3
  · obtain ⟨p, vs, rfl, hs, hd⟩ := dp_lst ok3
    exact .inl (.inl ⟨p, vs, rfl, ex_l R3.ch.gh hs, fun p hp => q3.newL R3 (cut_dp hd _ _) hp⟩)
  · obtain ⟨p, vs, rfl, hl, hd⟩ := ok3
    exact .inl (.inl ⟨p, vs, rfl, .of hl, fun p hp => q3.newL R3 (cut_dp hd _ _) hp⟩)
  · obtain ⟨p, vs, rfl, _, hl, _, hd⟩ := ok3
    exact .inl (.inl ⟨p, vs, rfl, .of hl, fun p hp => q3.newL R3 (cut_dp hd _ _) hp⟩)
  · obtain ⟨p, vs, rfl, hs, hd⟩ := dp_lst ok3
    exact .inl (.inl ⟨p, vs, rfl, ex_l R3.ch.fh hs, fun p hp => q3.newLB R3 (cut_dp hd _ _) hp⟩)
  · obtain ⟨p, vs, rfl, hs, hd⟩ := dp_tup ok3
    split at q3
    · exact q3.elim
    · rename_i hn
      exact .inl (.inr ⟨p, vs, rfl, ex_t R3.ch.gh hs, by rw [hd.len]; exact hn, fun p H' hp nt => q3.newT R3 (cut_dp hd _ _) hp nt⟩)
  · split at q3
    · rename_i hz
      have e := dp_str ok3
      subst e
      exact .inr ⟨_, rfl, sz100 hz, q3.now R3 (.str _)⟩
    · exact q3.elim
  · exact q3.elim
end
end Sq

/-! enumerate of a tuple. -/
namespace Sq
open PySem PySem.Spec PyProof.Rows L2
set_option maxHeartbeats 1000000 in
theorem meets_enumerate_new1 {v : Value} {o : Obj} {H : Heap → Prop} (B : Begins v o H) :
    Meets (Builtin.«enumerate.__new__» ⟨[.type "enumerate", v], []⟩) (fun _ R s => H s.heap ∧
      R (.ok (.ret (.ref (s.heap.push o).objs.size))) { s with heap := (s.heap.push o).push { cls := .type "enumerate", data := .fields #[.none, .bool false, .ref s.heap.objs.size, rawInt 0, .none, .none] } }) :=
  .of_wp fun prog w A R s h => by
    obtain ⟨hp, g, d, tk, os⟩ := s; obtain ⟨h1, h⟩ := h
    have hsub := sub_enumerate
    have q1 : ∀ {A' : Around} {E : Value → Shared → Prop} {Q : Value → Shared → Prop}, Q (.ref hp.objs.size) ⟨hp.push o, g, d, tk, os⟩ → wpAny (model prog w) A' (pyIter v) Q E ⟨hp, g, d, tk, os⟩ :=
      fun q => B.iter prog w _ _ ⟨hp, g, d, tk, os⟩ _ h1 q
    wp_walk using q1
    refine wpAny_stack_any fun st => wpAny_pure ?_
    split
    · rename_i c _ _ _ _ _
      cases (c == Value.type "enumerate")
      · wp_walk using q1
        exact ⟨_, rfl, h⟩
      · wp_walk using q1
        exact ⟨_, rfl, h⟩
    · wp_walk using q1
      exact ⟨_, rfl, h⟩
theorem enum_begins1 {prog : Program} {w : World} {A : Around} {E : Value → Shared → Prop} {s : Shared} {v : Value} {o : Obj} {H : Heap → Prop} {Q : Value → Shared → Prop} (B : Begins v o H) (h1 : H s.heap)
    (h : ∀ h', IsEnum h' (s.heap.objs.size + 1) s.heap.objs.size 0 .none → h'.get? s.heap.objs.size = some o → h'.objs.size = s.heap.objs.size + 2 →
      (∀ b o, s.heap.get? b = some o → h'.get? b = some o) → Q (.ref (s.heap.objs.size + 1)) { s with heap := h' }) :
    wpAny (model prog w) A (call (.type "enumerate") [v]) Q E s := by
  refine callType_new F.called_enumerate (by decide) (F.typeCall_enumerate_1 _) (F.newCall_enumerate_1 _) (fun obj => F.args_object_init_2 obj _) F.entry_enumerate_new
    (meets_enumerate_new1 B) ⟨h1, ?_⟩
  have hz : (s.heap.push o).objs.size = s.heap.objs.size + 1 := Heap.size_push ..
  show _ ∧ _
  rw [hz]
  have he : IsEnum ((s.heap.push o).push { cls := .type "enumerate", data := .fields #[.none, .bool false, .ref s.heap.objs.size, rawInt 0, .none, .none] }) (s.heap.objs.size + 1) s.heap.objs.size 0 .none := by
    have := Heap.get?_push_size (s.heap.push o) (o := { cls := .type "enumerate", data := .fields #[.none, .bool false, .ref s.heap.objs.size, rawInt 0, .none, .none] }) rfl
    rw [hz] at this; exact this
  refine ⟨⟨_, he, rfl⟩, h _ he (Heap.get?_push_of_some _ (Heap.get?_push_size _ B.free)) (by rw [Heap.size_push, hz]) fun b o x => Heap.get?_push_of_some _ (Heap.get?_push_of_some _ x)⟩
/-- the tuple at a at each turn, each item in a new pair -/
def IteT (K : PySem.W.Frag) (a : Addr) : It :=
  ⟨fun i H => ∃ (xs : List V) (x : V), SqT K H a xs ∧ xs[i]? = some x, fun i H v H' => ∃ T x, v = .ref T ∧ H T = none ∧ H' = upd H T (.tup [.int (i : Nat), x]) ∧ ∀ xs, SqT K H a xs → xs[i]? = some x, fun i H => ∃ xs : List V, SqT K H a xs ∧ xs.length ≤ i⟩
theorem turn_enumT {P : Program} {w : World} {K : PySem.W.Frag} {elts : List Expr} {kk : Nat} {tpos : Pos} (a e it : Addr) (hai : a ≠ it) :
    Turn P w K (.Tuple elts kk tpos) (IteT K a) [e, it] e (fun i h => (∃ old, IsEnum h e it ((i : Nat) : Int) old) ∧ h.IsTupleIter it a i ∧ e ≠ it ∧ a ≠ e) where
  mem := by simp
  obj := fun i h st b hb => by
    obtain ⟨⟨old, he⟩, ⟨o, ho, hc, hd⟩, _⟩ := st
    have e' : b = e ∨ b = it := by simpa using hb
    rcases e' with z | z
    · rw [z]; exact ⟨_, he, fun v q => nomatch q⟩
    · rw [z]; exact ⟨o, ho, fun v q => by rw [hd] at q; cases q⟩
  keep := fun i h h' st k => let ⟨⟨old, he⟩, hi, hne⟩ := st; ⟨⟨old, k e (by simp) _ he⟩, hi.at fun o q => k it (by simp) o q, hne⟩
  item := by
    intro X hP hw hK hc i pins s σ H E I hf st hg
    subst hP hw hK
    obtain ⟨⟨old, he⟩, hit, hne, hae⟩ := st
    obtain ⟨xs, x, hq, hx⟩ := hg
    obtain ⟨its, rv, p, hz⟩ := I.tuple hq
    obtain ⟨u, hu, ru⟩ := rv.get hx
    have hel : e < s.heap.objs.size := Heap.lt_size he
    have hil : it < s.heap.objs.size := by obtain ⟨_, q, _⟩ := hit; exact Heap.lt_size q
    have hu' : its.toArray[i]? = some u := by simpa using hu
    have hlt : i < its.toArray.size := (Array.getElem?_eq_some_iff.mp hu').1
    have D := Draws.tuple (prog := X.prog) (w := X.w) (A := X.A.in1) (I.ok.hd hc) it a hai its.toArray
    refine wpAny_pyNext_enum_itemD D he ⟨hit, p⟩ hlt hne (by simp only [List.mem_cons, List.not_mem_nil, or_false, not_or]; exact ⟨hne, Ne.symm hae⟩) fun x' h' tk hP ho hst' hT hsz hk => ?_
    obtain ⟨hit', p'⟩ := hst'
    have ex : x' = u := Option.some.inj (hP.symm.trans hu')
    subst ex
    refine ⟨_, rfl, wpAny_letOwnedTupleGo_enum (s := { s with heap := h', toks := tk + 1 }) ho fun h'' he' sb => ?_⟩
    have hT2 : h''.get? s.heap.objs.size = some { cls := .type "tuple", data := .seq #[.int i tk, x'] } := (sb.2 _ (Nat.ne_of_gt hel)).trans hT
    have new : ObjOk X.prog X.w (upd H s.heap.objs.size (.tup [.int (i : Nat), x])) h'' s.heap.objs.size (.tup [.int (i : Nat), x]) :=
      ⟨by show 2 ≤ sizeLine; decide, [.int i tk, x'], .cons ⟨_, rfl⟩ (.cons ru .nil), ⟨_, hT2, rfl, _, rfl⟩⟩
    have I1 : Inv X pins σ (upd H s.heap.objs.size (.tup [.int (i : Nat), x])) { s with heap := h'', toks := tk + 1 } :=
      I.turnedNew (ch := [e, it]) (fun b ob hb q => (sb.2 b (fun z => hb (by simp [z]))).trans (hk b ob (fun z => hb (by simp [z])) (fun z => hb (by simp [z])) q)) hf (Nat.le_refl _) new
    refine ⟨.ref s.heap.objs.size, _, I1, rfl, ⟨_, x, rfl, I.hok.fresh (Nat.le_refl _), rfl, fun ys hy => by rw [I.tuple_inj hy hq]; exact hx⟩, ⟨⟨x', ?_⟩, hit'.at fun o q => (sb.2 it (Ne.symm hne)).trans q, hne, hae⟩, fun b hb => ?_⟩
    · have e1 : ((i + 1 : Nat) : Int) = (i : Int) + 1 := by omega
      rw [e1]; exact he'
    · have hb' : b < s.heap.objs.size := by
        have e' : b = e ∨ b = it := by simpa using hb
        rcases e' with z | z
        · rw [z]; exact hel
        · rw [z]; exact hil
      rw [upd_ne (Nat.ne_of_lt hb')]
      exact (hf b hb).1
  done := by
    intro X hP hw hK hc i pins s σ H E I hf st hg
    subst hP hw hK
    obtain ⟨⟨old, he⟩, hit, hne, hae⟩ := st
    obtain ⟨xs, hq, hx⟩ := hg
    obtain ⟨its, rv, p, hz⟩ := I.tuple hq
    obtain ⟨f0, f1, f2, f3, f4, f5⟩ := hf it (by simp)
    have hl := rv.length
    have hT : s.TypeIs (.ref e) "enumerate" := ⟨_, he, rfl⟩
    unfold pyNext
    refine wpAny_bind (wpAny_attempt (wpAny_callSpecial?_slot (name := Str.ofString "__next__") hT F.slot_enumerate_next
      (wpAny_call_entry F.slot_enumerate_next hT F.entry_enumerate_next ?_ (F.args_enumerate_next_1 _))))
    show wpAny _ _ (field (.ref e) 2 >>= _) _ _ _
    refine wpAny_bind (wpAny_field he rfl (x := .ref it) rfl ?_)
    refine wpAny_bind (wpAny_nextOf_tuple_end (I.ok.hd hc) hit p (by simp; omega) fun h' x he' hx' => ?_)
    obtain ⟨o, ho, hc'⟩ := hx'
    refine wpAny_bind (wpAny_isInstance (T := "StopIteration") (b := true) ⟨o, ho, hc'⟩ isSubtype_stop ?_)
    exact wpAny_pure ⟨rfl, I.turned (t' := s.toks) (fun b o hb q => he' b o hb q) f0 f1 f3 f4 f5⟩
  self := fun A i s Q E st h => let ⟨⟨_, he⟩, _⟩ := st; wpAny_pyIter_enum he h
theorem turn_enTF {P : Program} {w : World} {K : PySem.W.Frag} {elts : List Expr} {kk : Nat} {tpos : Pos} (a e it : Addr) (hai : a ≠ it) :
    Turn P w K (.Tuple elts kk tpos) (IteF K false a) [e, it] e (fun i h => (∃ old, IsEnum h e it ((i : Nat) : Int) old) ∧ h.IsTupleIter it a i ∧ e ≠ it ∧ a ≠ e) where
  mem := (turn_enumT (P := P) (w := w) (K := K) (elts := elts) (kk := kk) (tpos := tpos) a e it hai).mem
  obj := (turn_enumT (P := P) (w := w) (K := K) (elts := elts) (kk := kk) (tpos := tpos) a e it hai).obj
  keep := (turn_enumT (P := P) (w := w) (K := K) (elts := elts) (kk := kk) (tpos := tpos) a e it hai).keep
  done := (turn_enumT (P := P) (w := w) (K := K) (elts := elts) (kk := kk) (tpos := tpos) a e it hai).done
  self := (turn_enumT (P := P) (w := w) (K := K) (elts := elts) (kk := kk) (tpos := tpos) a e it hai).self
  item := by
    intro X hP hw hK hc i pins s σ H E I hf st hg
    subst hP hw hK
    obtain ⟨⟨old, he⟩, hit, hne, hae⟩ := st
    obtain ⟨xs, x, hq, hx⟩ := hg
    obtain ⟨its, rv, p, hz⟩ := I.tuple (show SqT X.K H a xs from hq)
    obtain ⟨u, hu, ru⟩ := rv.get hx
    have hel : e < s.heap.objs.size := Heap.lt_size he
    have hil : it < s.heap.objs.size := by obtain ⟨_, q, _⟩ := hit; exact Heap.lt_size q
    have hu' : its.toArray[i]? = some u := by simpa using hu
    have hlt : i < its.toArray.size := (Array.getElem?_eq_some_iff.mp hu').1
    have D := Draws.tuple (prog := X.prog) (w := X.w) (A := X.A.in1) (I.ok.hd hc) it a hai its.toArray
    refine wpAny_pyNext_enum_itemD D he ⟨hit, p⟩ hlt hne (by simp only [List.mem_cons, List.not_mem_nil, or_false, not_or]; exact ⟨hne, Ne.symm hae⟩) fun x' h' tk hP ho hst' hT hsz hk => ?_
    obtain ⟨hit', p'⟩ := hst'
    have ex : x' = u := Option.some.inj (hP.symm.trans hu')
    subst ex
    refine ⟨_, rfl, wpAny_letOwnedTupleGo_enum (s := { s with heap := h', toks := tk + 1 }) ho fun h'' he' sb => ?_⟩
    have hT2 := (sb.2 _ (Nat.ne_of_gt hel)).trans hT
    have I1 := turned2 (t' := tk + 1) (x := .int (i : Nat)) I (ch := [e, it]) hf (fun b ob hb q => (sb.2 b (fun z => hb (by simp [z]))).trans (hk b ob (fun z => hb (by simp [z])) (fun z => hb (by simp [z])) q)) hT2 ⟨_, rfl⟩ ru
    refine ⟨.ref s.heap.objs.size, _, I1, rfl, ⟨_, x, rfl, I.hok.fresh (Nat.le_refl _), ⟨_, rfl, rfl⟩, fun ys hy => by rw [I.tuple_inj (show SqT X.K H a ys from hy) hq]; exact hx⟩, ⟨⟨x', ?_⟩, hit'.at fun o q => (sb.2 it (Ne.symm hne)).trans q, hne, hae⟩, fun b hb => ?_⟩
    · rw [show ((i + 1 : Nat) : Int) = (i : Int) + 1 by omega]
      exact he'
    · have hb' : b < s.heap.objs.size := by
        have e' : b = e ∨ b = it := by simpa using hb
        rcases e' with z | z
        · rw [z]; exact hel
        · rw [z]; exact hil
      rw [upd_ne (Nat.ne_of_lt hb')]
      exact (hf b hb).1
/-- enumerate(x), x a list or a tuple -/
def iEnumA (K : PySem.W.Frag) (ta : TE) : TI := fun σ H R => ta σ H fun v H1 => ∃ a xs, v = .ref a ∧ ((SqL K H1 a xs ∧ R (IteF K true a) H1) ∨ (SqT K H1 a xs ∧ R (IteF K false a) H1))
theorem pi_enumA {X : Cx} {e : Expr} {ta : TE} {p pos tpos : Pos} {elts : List Expr} {kk : Nat} (hg : Gl X "enumerate") (hm : X.mg "enumerate" = none) (ha : PE X e ta) (hs : starEach [e] X.env = (false, eval e X.env) :: starEach [] X.env := by rfl) (hs2 : starEach [e] X.env = [(false, eval e X.env)] := by rfl) :
    PI X (.Tuple elts kk tpos) (.Call (.Name "enumerate" p) [e] [] pos) (iEnumA X.K ta) := by
  refine ⟨fun pins s σ H R I h => ?_⟩
  refine Call_ (ld_blt I hg hm boot_enumerate (PyProof.Rows.callWith_type1 (args_cons (thn (ha.run pins s σ H _ I h) fun u s1 ⟨v, H1, I1, r1, q1⟩ => args_nil ?_) hs) hs2 rfl))
  obtain ⟨a, xs, ex, q⟩ := q1
  subst ex
  obtain rfl : u = Value.ref a := r1
  have fin : ∀ {b : Addr}, b ∈ [s1.heap.objs.size + 1, s1.heap.objs.size] → FpOk X pins H1 b := fun {b} hb => by
    have e' : b = s1.heap.objs.size + 1 ∨ b = s1.heap.objs.size := by simpa using hb
    have hle : s1.heap.objs.size ≤ b := by
      rcases e' with z | z
      · rw [z]; exact Nat.le_add_right _ _
      · rw [z]; exact Nat.le_refl _
    exact I1.fpOk hle (I1.hok.fresh hle)
  rcases q with ⟨hq, q⟩ | ⟨hq, q⟩
  · obtain ⟨its, rv, p', hz⟩ := I1.list hq
    refine call_enumerate_list p'.isList fun h' he hit hsz hk => wpAny_pyIter_enum he ?_
    have I2 : Inv X pins σ H1 { s1 with heap := h' } := I1.kept (t' := s1.toks) hk
    exact ⟨s1.heap.objs.size + 1, [s1.heap.objs.size + 1, s1.heap.objs.size], _, _, H1, rfl, I2, turn_enF a (s1.heap.objs.size + 1) s1.heap.objs.size, ⟨⟨.none, he⟩, hit, Nat.succ_ne_self _⟩, fun b hb => fin hb, q⟩
  · obtain ⟨its, rv, p', hz⟩ := I1.tuple hq
    have hal : a < s1.heap.objs.size := p'.lt
    refine enum_begins1 (begins_tuple a its.toArray) p' fun h' he hit hsz hk => wpAny_pyIter_enum he ?_
    have I2 : Inv X pins σ H1 { s1 with heap := h' } := I1.kept (t' := s1.toks) hk
    exact ⟨s1.heap.objs.size + 1, [s1.heap.objs.size + 1, s1.heap.objs.size], _, _, H1, rfl, I2, turn_enTF a (s1.heap.objs.size + 1) s1.heap.objs.size (Nat.ne_of_lt hal), ⟨⟨.none, he⟩, ⟨_, hit, rfl, rfl⟩, Nat.succ_ne_self _, Nat.ne_of_lt (Nat.lt_succ_of_lt hal)⟩, fun b hb => fin hb, q⟩
end Sq

/-! Targets, what is walked, comprehensions. -/
namespace Sq
open PySem PySem.Spec PyProof.Rows L2
section
variable {K : PySem.W.Frag} {W : WF} {X : Cx}

/-! ### targets -/
abbrev TF := Rv → Env → Er Env
def asgn (i : Nat) : TF := fun r ρ => match r with
  | .v d => .ok (ρ.set i (.v d))
  | .b d => .ok (ρ.set i (.b d))
  | .o xs => .ok (ρ.set i (.o xs))
  | .ok kvs => .ok (ρ.set i (.k kvs))
  | .ot kvs => .ok (ρ.set i (.t kvs))
  | .r d => if flatD d = true then .ok (ρ.set i (.v d)) else .bad
  | _ => .bad
theorem dp_flatG {H H' : Hp} {v : V} {d : D} (e : flatD d = true) (h : Dp K H v d) : Dp K H' v d := by
  cases h <;> first | (cases e; done) | constructor
/-- a slot is stored -/
theorem Rel.set {h : Hs} {ρ : Env} {σ : L2.St} (R : Rel K h ρ σ) (i : Nat) {s : Sl} {v : V} (ok : SlOk K h (some v) s)
    (fr : ∀ (j : Nat) (t : Sl) (l : Addr), s.own = true → v = .ref l → ρ[j]? = some t → t.own = true → σ[j]? ≠ some (some (.ref l))) : Rel K h (ρ.set i s) (σ.set i (some v)) := by
  refine ⟨R.ch, by simp [R.len], fun j t x e1 e2 => ?_, fun j k t u l m hjk e1 e2 o1 o2 e3 e4 => ?_⟩
  · by_cases hj : i = j
    · subst hj
      rw [List.getElem?_set] at e1 e2
      simp only [if_true] at e1 e2
      split at e1
      · split at e2
        · cases e1; cases e2; exact ok
        · cases e2
      · cases e1
    · rw [List.getElem?_set_ne hj] at e1 e2
      exact R.at_ j t x e1 e2
  · by_cases hj : i = j
    · subst hj
      rw [List.getElem?_set_ne hjk] at e2 e4
      rw [List.getElem?_set] at e1 e3
      simp only [if_true] at e1 e3
      split at e1
      · split at e3
        · cases e1; cases e3
          intro z
          subst z
          exact fr k u l o1 rfl e2 o2 e4
        · cases e3
      · cases e1
    · by_cases hk : i = k
      · subst hk
        rw [List.getElem?_set_ne hj] at e1 e3
        rw [List.getElem?_set] at e2 e4
        simp only [if_true] at e2 e4
        split at e2
        · split at e4
          · cases e2; cases e4
            intro z
            subst z
            exact fr j t l o2 rfl e1 o1 e3
          · cases e4
        · cases e2
      · rw [List.getElem?_set_ne hj] at e1 e3
        rw [List.getElem?_set_ne hk] at e2 e4
        exact R.dis j k t u l m hjk e1 e2 o1 o2 e3 e4
theorem Rel.fresh {h : Hs} {ρ : Env} {σ : L2.St} (R : Rel K h ρ σ) {j : Nat} {t : Sl} {l : Addr} (n : h.H l = none) (a : ρ[j]? = some t) (b : t.own = true) : σ[j]? ≠ some (some (.ref l)) := fun e => by
  obtain ⟨⟨o, z⟩, _⟩ := R.ownH a b e
  rw [n] at z
  cases z
theorem asgn_ok {h0 h : Hs} {ρ ρ' : Env} {σ : L2.St} {i : Nat} {r : Rv} {v : V} (R0 : Rel K h0 ρ σ) (R : Rel K h ρ σ) (ok : RvOk K h0.H h v r) (e : asgn i r ρ = .ok ρ') : Rel K h ρ' (σ.set i (some v)) := by
  unfold asgn at e
  split at e
  · cases e; exact R.set i ⟨v, rfl, ok⟩ fun _ _ _ z => by cases z
  · cases e; exact R.set i ⟨v, rfl, ok⟩ fun _ _ _ z => by cases z
  · cases e
    obtain ⟨l, vs, rfl, n, a, b, q⟩ := ok
    exact R.set i ⟨l, vs, rfl, a, b, q⟩ fun j t m _ em e1 o1 => by cases em; exact R0.fresh n e1 o1
  · cases e
    obtain ⟨l, vs, rfl, n, a, b, q⟩ := ok
    exact R.set i ⟨l, vs, rfl, a, b, q⟩ fun j t m _ em e1 o1 => by cases em; exact R0.fresh n e1 o1
  · cases e
    obtain ⟨l, vs, rfl, n, a, b, q⟩ := ok
    exact R.set i ⟨l, vs, rfl, a, b, q⟩ fun j t m _ em e1 o1 => by cases em; exact R0.fresh n e1 o1
  · split at e
    · cases e; exact R.set i ⟨v, rfl, dp_flatG (by assumption) ok⟩ fun _ _ _ z => by cases z
    · cases e
  · cases e
/-- nothing but the slots fp is stored -/
def Fp (fp : List Nat) (σ σ' : L2.St) : Prop := σ'.length = σ.length ∧ ∀ k, k ∉ fp → σ'[k]? = σ[k]?
theorem wipe_get {σ : L2.St} : ∀ {vs : List Nat} {k : Nat}, (L2.wipe σ vs)[k]? = if k ∈ vs then (if k < σ.length then some none else none) else σ[k]?
  | [], k => by simp [L2.wipe]
  | v :: vs, k => by
    unfold L2.wipe
    rw [List.getElem?_set]
    by_cases e : v = k
    · subst e
      simp [wipe_length]
    · rw [if_neg e, wipe_get (vs := vs)]
      have e2 : (k ∈ v :: vs) ↔ k ∈ vs := by simp [Ne.symm e]
      simp only [e2]
theorem Fp.wipe {fp : List Nat} {σ σ' : L2.St} (f : Fp fp σ σ') : L2.wipe σ' fp = L2.wipe σ fp := by
  apply List.ext_getElem?
  intro k
  rw [wipe_get, wipe_get, f.1]
  by_cases e : k ∈ fp
  · rw [if_pos e, if_pos e]
  · rw [if_neg e, if_neg e, f.2 k e]
theorem wipe_twice {fp : List Nat} (σ : L2.St) : L2.wipe (L2.wipe σ fp) fp = L2.wipe σ fp := by
  apply List.ext_getElem?
  intro k
  rw [wipe_get, wipe_length, wipe_get]
  by_cases e : k ∈ fp
  · rw [if_pos e, if_pos e]
  · rw [if_neg e, if_neg e]
theorem Fp.trans {a b : List Nat} {σ σ1 σ2 : L2.St} (f : Fp a σ σ1) (g : Fp b σ1 σ2) : Fp (a ++ b) σ σ2 :=
  ⟨g.1.trans f.1, fun k hk => by
    rw [List.mem_append, not_or] at hk
    exact (g.2 k hk.2).trans (f.2 k hk.1)⟩
def tG (K : PySem.W.Frag) (fp : List Nat) (φ : TF) : TG := fun v σ H Q => ∃ h0 h ρ r ρ', h.H = H ∧ Rel K h0 ρ σ ∧ Rel K h ρ σ ∧ RvOk K h0.H h v r ∧ φ r ρ = .ok ρ' ∧ ∀ σ', Rel K h ρ' σ' → Fp fp σ σ' → Q σ' h.H
theorem pgTo {tg : Expr} {t t' : TG} (h : PG X tg t) (i : ∀ v σ H Q, t' v σ H Q → t v σ H Q) : PG X tg t' := ⟨fun pins s σ H v u Q I r hw => h.run pins s σ H v u Q I r (i v σ H Q hw)⟩
theorem xgn (i : Nat) {x : Str} {pos : Pos} (hN : X.N.Nodup) (hi : X.N[i]? = some x := by rfl) (hx : Loc X.env.scope x := by first | exact Or.inl rfl | exact Or.inr rfl) (hf : X.fn x = true ∨ X.env.scope.names.lookup x = some .local := by first | exact .inl rfl | exact .inr rfl | assumption) : PG X (.Name x pos) (tG X.K [i] (asgn i)) :=
  pgTo (pg_name hN hi hx hf) fun v σ H Q ⟨h0, h, ρ, r, ρ', eh, R0, R, ok, e, q⟩ => by
    subst eh
    exact q _ (asgn_ok R0 R ok e) ⟨by simp, fun k hk => List.getElem?_set_ne (fun z => hk (by simp [z]))⟩
/-- several targets, the values of a tuple or list -/
def unpk : List TF → List Rv → Env → Er Env
  | [], [], ρ => .ok ρ
  | φ :: φs, r :: rs, ρ => (φ r ρ).bind fun ρ' => unpk φs rs ρ'
  | _, _, _ => .bad
def Rv.items (a : Rv) : Option (List Rv) := match a with
  | .v (.tuple xs) => some (xs.map .v)
  | .v (.list xs) => some (xs.map .v)
  | .b (.tuple xs) => some (xs.map .b)
  | .b (.list xs) => some (xs.map .b)
  | .r (.tuple xs) => some (xs.map .r)
  | .r (.list xs) => some (xs.map .r)
  | .w xs => some (xs.map .v)
  | .o xs => some (xs.map .v)
  | _ => none
def unpT (φs : List TF) : TF := fun r ρ => match r.items with
  | some rs => if rs.length = φs.length then unpk φs rs ρ else .bad
  | none => .bad
def VsF (K : PySem.W.Frag) (h : Hs) : List V → List Rv → Prop
  | [], [] => True
  | v :: vs, r :: rs => RvF K h v r ∧ VsF K h vs rs
  | _, _ => False
theorem vsf_map {h : Hs} {H1 : Hp} {mk : D → Rv} (hk : ∀ v d, Dp K H1 v d → RvF K h v (mk d)) : ∀ {vs : List V} {ds : List D}, DpAll K H1 vs ds → VsF K h vs (ds.map mk)
  | _, _, .nil => trivial
  | _, _, .cons a t => ⟨hk _ _ a, vsf_map hk t⟩
theorem RvF.rv {H0 : Hp} {h : Hs} {v : V} {r : Rv} (q : RvF K h v r) : RvOk K H0 h v r := by
  cases r <;> first | exact q | exact q.elim
/-- what a tuple or list holds -/
theorem items_ok {H0 : Hp} {h : Hs} (c : Ch h) {v : V} {a : Rv} {rs : List Rv} (e : a.items = some rs) (ok : RvOk K H0 h v a) : ∃ p vs, v = .ref p ∧ (SqL K h.H p vs ∨ SqT K h.H p vs) ∧ VsF K h vs rs := by
  unfold Rv.items at e
  split at e
  · cases e
    obtain ⟨p, vs, rfl, s, d⟩ := dp_tup ok
    exact ⟨p, vs, rfl, .inr (ex_t c.gh s), vsf_map (mk := Rv.v) (fun _ _ q => q) d⟩
  · cases e
    obtain ⟨p, vs, rfl, s, d⟩ := dp_lst ok
    exact ⟨p, vs, rfl, .inl (ex_l c.gh s), vsf_map (mk := Rv.v) (fun _ _ q => q) d⟩
  · cases e
    obtain ⟨p, vs, rfl, s, d⟩ := dp_tup ok
    exact ⟨p, vs, rfl, .inr (ex_t c.fh s), vsf_map (mk := Rv.b) (fun _ _ q => q) d⟩
  · cases e
    obtain ⟨p, vs, rfl, s, d⟩ := dp_lst ok
    exact ⟨p, vs, rfl, .inl (ex_l c.fh s), vsf_map (mk := Rv.b) (fun _ _ q => q) d⟩
  · cases e
    obtain ⟨p, vs, rfl, s, d⟩ := dp_tup ok
    exact ⟨p, vs, rfl, .inr s, vsf_map (mk := Rv.r) (fun _ _ q => q) d⟩
  · cases e
    obtain ⟨p, vs, rfl, s, d⟩ := dp_lst ok
    exact ⟨p, vs, rfl, .inl s, vsf_map (mk := Rv.r) (fun _ _ q => q) d⟩
  · cases e
    obtain ⟨p, vs, rfl, l, d⟩ := ok
    exact ⟨p, vs, rfl, .inl (.of l), vsf_map (mk := Rv.v) (fun _ _ q => q) d⟩
  · cases e
    obtain ⟨p, vs, rfl, _, l, _, d⟩ := ok
    exact ⟨p, vs, rfl, .inl (.of l), vsf_map (mk := Rv.v) (fun _ _ q => q) d⟩
  · cases e
theorem VsF.len {h : Hs} : ∀ {vs : List V} {rs : List Rv}, VsF K h vs rs → vs.length = rs.length
  | [], [], _ => rfl
  | _ :: _, _ :: _, q => congrArg (· + 1) (VsF.len q.2)
  | [], _ :: _, q => q.elim
  | _ :: _, [], q => q.elim
theorem VsF.get {h : Hs} : ∀ {vs : List V} {rs : List Rv} {i : Nat} {v : V}, VsF K h vs rs → vs[i]? = some v → ∃ r, rs[i]? = some r ∧ RvF K h v r
  | [], [], _, _, _, e => by simp at e
  | w :: _, r :: _, 0, v, q, e => by
    have e' : w = v := by simpa using e
    subst e'
    exact ⟨r, rfl, q.1⟩
  | _ :: _, _ :: _, i + 1, v, q, e => VsF.get (i := i) q.2 (by simpa using e)
  | [], _ :: _, _, _, q, _ => q.elim
  | _ :: _, [], _, _, q, _ => q.elim
def tGs (K : PySem.W.Frag) (fp : List Nat) (φs : List TF) : TGs := fun vs σ H Q => ∃ h ρ rs ρ', h.H = H ∧ Rel K h ρ σ ∧ VsF K h vs rs ∧ unpk φs rs ρ = .ok ρ' ∧ ∀ σ', Rel K h ρ' σ' → Fp fp σ σ' → Q σ' h.H
theorem pgsTo {tgs : List Expr} {t t' : TGs} (h : PGs X tgs t) (i : ∀ v σ H Q, t' v σ H Q → t v σ H Q) : PGs X tgs t' := ⟨fun pins s σ H v u Q I r hw => h.run pins s σ H v u Q I r (i v σ H Q hw)⟩
theorem xgnil : PGs X [] (tGs X.K [] []) := pgsTo pgs_nil fun vs σ H Q ⟨h, ρ, rs, ρ', eh, R, q, e, k⟩ => by
  subst eh
  cases vs with
  | nil =>
    cases rs with
    | nil =>
      cases e
      exact ⟨rfl, k σ R ⟨rfl, fun _ _ => rfl⟩⟩
    | cons _ _ => exact q.elim
  | cons _ _ =>
    cases rs with
    | nil => exact q.elim
    | cons _ _ => cases e
theorem xgcons {e : Expr} {es : List Expr} {φ : TF} {φs : List TF} {fa fb : List Nat} (h1 : PG X e (tG X.K fa φ)) (h2 : PGs X es (tGs X.K fb φs)) (hs : (assignEach (e :: es) X.env).map (·.2) = assign e X.env :: (assignEach es X.env).map (·.2) := by rfl) : PGs X (e :: es) (tGs X.K (fa ++ fb) (φ :: φs)) :=
  pgsTo (pgs_cons h1 h2 hs) fun vs σ H Q ⟨h, ρ, rs, ρ', eh, R, q, e, k⟩ => by
    subst eh
    cases vs with
    | nil =>
      cases rs with
      | nil => cases e
      | cons _ _ => exact q.elim
    | cons v vs =>
      cases rs with
      | nil => exact q.elim
      | cons r rs =>
        unfold unpk at e
        cases e1 : φ r ρ with
        | bad => rw [e1] at e; cases e
        | exc c p => rw [e1] at e; cases e
        | ok ρ1 =>
          rw [e1] at e
          exact ⟨v, vs, rfl, h, h, ρ, r, ρ1, rfl, R, R, q.1.rv, e1, fun σ1 R1 F1 => ⟨h, ρ1, rs, ρ', rfl, R1, q.2, e, fun σ2 R2 F2 => k σ2 R2 (F1.trans F2)⟩⟩
theorem xgtup {es : List Expr} {k : Nat} {φs : List TF} {n : Nat} {fp : List Nat} {pos : Pos} (hc : X.calm = true) (h : PGs X es (tGs X.K fp φs)) (hl : φs.length = n := by rfl)
    (hn : (assignEach es X.env).length = n := by rfl) (hst : (assignEach es X.env).findIdx? (·.1) = none := by rfl) : PG X (.Tuple es k pos) (tG X.K fp (unpT φs)) := by
  have p1 := pg_tup (k := k) (pos := pos) hc h hn hst
  have p2 := pg_lst (k := k) (pos := pos) hc h hn hst
  refine pgTo (t := fun v σ H Q => gTup X.K n (tGs X.K fp φs) v σ H Q ∨ gLst X.K n (tGs X.K fp φs) v σ H Q) ⟨fun pins s σ H v u Q I r hw => hw.elim (p1.run pins s σ H v u Q I r) (p2.run pins s σ H v u Q I r)⟩ ?_
  rintro v σ H Q ⟨h0, h, ρ, r, ρ', eh, R0, R, ok, e, k⟩
  subst eh
  unfold unpT at e
  split at e
  · rename_i rs er
    split at e
    · rename_i hlen
      obtain ⟨p, vs, rfl, hs, q⟩ := items_ok R.ch er ok
      have hlv : vs.length = n := by rw [q.len, hlen, hl]
      rcases hs with hs | hs
      · exact .inr ⟨p, vs, rfl, hs, hlv, h, ρ, rs, ρ', rfl, R, q, e, k⟩
      · exact .inl ⟨p, vs, rfl, hs, hlv, h, ρ, rs, ρ', rfl, R, q, e, k⟩
    · cases e
  · cases e
end
end Sq

/-! What is walked. -/
namespace Sq
open PySem PySem.Spec PyProof.Rows L2
/-- what a walk needs to stay: P h0 h tells how h came from h0 -/
structure ItOk (P : Hs → Hs → Prop) (K : PySem.W.Frag) (J : It) (h0 : Hs) (rs : List Rv) : Prop where
  go : ∀ i h, P h0 h → Ch h → i < rs.length → J.go i h.H
  stop : ∀ i h, P h0 h → Ch h → rs.length ≤ i → J.stop i h.H
  yld : ∀ i h v H', P h0 h → Ch h → i < rs.length → J.yld i h.H v H' → ∃ h' r, h'.H = H' ∧ Gr h h' ∧ Ch h' ∧ rs[i]? = some r ∧ RvF K h' v r
abbrev IF := Env → Er (List Rv)
def PI1 (P : Hs → Hs → Prop) (K : PySem.W.Frag) (W : WF) (h : Hs) (ρ : Env) (σ : L2.St) (R : It → Hp → Prop) : Er (List Rv) → Prop
  | .ok rs => ∀ J h', Rel K h' ρ σ → Gr h h' → ItOk P K J h' rs → R J h'.H
  | .exc c p => ∀ h', Rel K h' ρ σ → Gr h h' → W c p σ h'
  | .bad => False
def tI (P : Hs → Hs → Prop) (K : PySem.W.Frag) (W : WF) (f : IF) : TI := fun σ H R => ∃ h ρ, h.H = H ∧ Rel K h ρ σ ∧ PI1 P K W h ρ σ R (f ρ)
section
variable {K : PySem.W.Frag} {W : WF} {X : Cx} {e a b : Expr} {tg : Expr} {f g : EF} {p pos : Pos} {P : Hs → Hs → Prop}
theorem piTo {t t' : TI} (h : PI X tg e t) (i : ∀ σ H R, t' σ H R → t σ H R) : PI X tg e t' := ⟨fun pins s σ H R I hw => h.run pins s σ H R I (i σ H R hw)⟩
theorem piOr {t t' : TI} (h : PI X tg e t) (h' : PI X tg e t') : PI X tg e (fun σ H R => t σ H R ∨ t' σ H R) := ⟨fun pins s σ H R I hw => hw.elim (h.run pins s σ H R I) (h'.run pins s σ H R I)⟩
theorem PI1.shift {h h1 : Hs} {ρ : Env} {σ : L2.St} {R : It → Hp → Prop} (g : Gr h h1) : ∀ {e : Er (List Rv)}, PI1 P K W h ρ σ R e → PI1 P K W h1 ρ σ R e
  | .ok r, q => fun J h' R g' ok => q J h' R (g.trans g') ok
  | .exc c p, q => fun h' R g' => q h' R (g.trans g')
  | .bad, q => q
theorem PI1.bindE {h : Hs} {ρ : Env} {σ : L2.St} {QA : It → Hp → Prop} {e : Er Rv} {k : Rv → Er (List Rv)} (q : PI1 P K W h ρ σ QA (e.bind k)) {Q' : VK}
    (hk : ∀ a v h', e = .ok a → Rel K h' ρ σ → Gr h h' → RvOk K h.H h' v a → PI1 P K W h' ρ σ QA (k a) → Q' v h'.H) : PE1 K W h ρ σ Q' e := by
  cases e with
  | ok a => exact fun v h' R g ok => hk a v h' rfl R g ok (PI1.shift g q)
  | exc c p => exact q
  | bad => exact q
theorem PI1.bindA {h : Hs} {ρ : Env} {σ : L2.St} {QA : It → Hp → Prop} {e : Er (List Rv)} {k : List Rv → Er (List Rv)} (q : PI1 P K W h ρ σ QA (e.bind k)) {Q' : List V → Hp → Prop}
    (hk : ∀ a v h', e = .ok a → Rel K h' ρ σ → Gr h h' → RvsOk K h' v a → PI1 P K W h' ρ σ QA (k a) → Q' v h'.H) : PA1 K W h ρ σ Q' e := by
  cases e with
  | ok a => exact fun v h' R g ok => hk a v h' rfl R g ok (PI1.shift g q)
  | exc c p => exact q
  | bad => exact q
/-- in statements: what is walked must stay for good -/
def itS (a : Rv) : Er (List Rv) := match a with
  | .v (.tuple xs) => .ok (xs.map .v)
  | .v (.list xs) => .ok (xs.map .v)
  | .b (.tuple xs) => .ok (xs.map .b)
  | .b (.list xs) => .ok (xs.map .b)
  | .o xs => .ok (xs.map .v)
  | _ => .bad
/-- in comprehensions -/
def itC (a : Rv) : Er (List Rv) := match a.items with
  | some rs => .ok rs
  | none => .bad
/-- a walk over a list, a tuple whose holder's items are known by mk at the heap proj -/
theorem itl_ok {h0 : Hs} {rs : List Rv} {a : Addr} {vs : List V} (hs : ∀ h, P h0 h → Ch h → SqL K h.H a vs) (hv : ∀ h, P h0 h → Ch h → VsF K h vs rs) : ItOk P K (Itl K a) h0 rs where
  go := fun i h p c hi => by
    have q := hv h p c
    have hi' : i < vs.length := by rw [q.len]; exact hi
    exact ⟨vs, vs[i], hs h p c, List.getElem?_eq_getElem hi'⟩
  stop := fun i h p c hi => ⟨vs, hs h p c, by rw [(hv h p c).len]; exact hi⟩
  yld := fun i h v H' p c hi y => by
    obtain ⟨e, y⟩ := y
    subst e
    obtain ⟨r, e1, e2⟩ := (hv h p c).get (y vs (hs h p c))
    exact ⟨h, r, rfl, Gr.refl h, c, e1, e2⟩
theorem itt_ok {h0 : Hs} {rs : List Rv} {a : Addr} {vs : List V} (hs : ∀ h, P h0 h → Ch h → SqT K h.H a vs) (hv : ∀ h, P h0 h → Ch h → VsF K h vs rs) : ItOk P K (Itt K a) h0 rs where
  go := fun i h p c hi => by
    have q := hv h p c
    have hi' : i < vs.length := by rw [q.len]; exact hi
    exact ⟨vs, vs[i], hs h p c, List.getElem?_eq_getElem hi'⟩
  stop := fun i h p c hi => ⟨vs, hs h p c, by rw [(hv h p c).len]; exact hi⟩
  yld := fun i h v H' p c hi y => by
    obtain ⟨e, y⟩ := y
    subst e
    obtain ⟨r, e1, e2⟩ := (hv h p c).get (y vs (hs h p c))
    exact ⟨h, r, rfl, Gr.refl h, c, e1, e2⟩
theorem VsF.grow {h h' : Hs} (g : Gr h h') : ∀ {vs : List V} {rs : List Rv}, VsF K h vs rs → VsF K h' vs rs
  | [], [], _ => trivial
  | _ :: _, _ :: _, q => ⟨q.1.grow g, VsF.grow g q.2⟩
  | [], _ :: _, q => q
  | _ :: _, [], q => q
/-- what holds a statement's walk: data that stays -/
theorem keepS {h0 h : Hs} {ρ : Env} {σ : L2.St} (R0 : Rel K h0 ρ σ) (R : Rel K h ρ σ) (g : Gr h0 h) {v : V} {a : Rv} {rs : List Rv} (e : itS a = .ok rs) (ok : RvOk K h0.H h v a) :
    ∃ h' p vs, h'.H = h.H ∧ Rel K h' ρ σ ∧ Gr h0 h' ∧ v = .ref p ∧ (∀ h2, SG h' h2 → Ch h2 → VsF K h2 vs rs) ∧ ((∀ h2, SG h' h2 → Ch h2 → SqL K h2.H p vs) ∨ (∀ h2, SG h' h2 → Ch h2 → SqT K h2.H p vs)) := by
  unfold itS at e
  split at e
  · cases e
    obtain ⟨p, vs, rfl, s, d⟩ := dp_tup ok
    exact ⟨h, p, vs, rfl, R, g, rfl, fun h2 s2 c2 => vsf_map (mk := Rv.v) (fun _ _ q => q) (ex_dpa s2.g d), .inr fun h2 s2 c2 => ex_t (s2.g.trans c2.gh) s⟩
  · cases e
    obtain ⟨p, vs, rfl, s, d⟩ := dp_lst ok
    exact ⟨h, p, vs, rfl, R, g, rfl, fun h2 s2 c2 => vsf_map (mk := Rv.v) (fun _ _ q => q) (ex_dpa s2.g d), .inl fun h2 s2 c2 => ex_l (s2.g.trans c2.gh) s⟩
  · cases e
    obtain ⟨p, vs, rfl, s, d⟩ := dp_tup ok
    exact ⟨h, p, vs, rfl, R, g, rfl, fun h2 s2 c2 => vsf_map (mk := Rv.b) (fun _ _ q => q) (ex_dpa s2.f d), .inr fun h2 s2 c2 => ex_t (s2.f.trans c2.fh) s⟩
  · cases e
    obtain ⟨p, vs, rfl, s, d⟩ := dp_lst ok
    exact ⟨h, p, vs, rfl, R, g, rfl, fun h2 s2 c2 => vsf_map (mk := Rv.b) (fun _ _ q => q) (ex_dpa s2.f d), .inl fun h2 s2 c2 => ex_l (s2.f.trans c2.fh) s⟩
  · rename_i xs
    cases e
    obtain ⟨h', eh, R', g', ok'⟩ := frz_ok R0 R g (a := .o xs) rfl ok
    obtain ⟨p, vs, rfl, s, d⟩ := dp_lst ok'
    exact ⟨h', p, vs, eh, R', g', rfl, fun h2 s2 c2 => vsf_map (mk := Rv.v) (fun _ _ q => q) (ex_dpa s2.g d), .inl fun h2 s2 c2 => ex_l (s2.g.trans c2.gh) s⟩
  · cases e
theorem keepC {h0 h : Hs} {ρ : Env} {σ : L2.St} (R : Rel K h ρ σ) {v : V} {a : Rv} {rs : List Rv} (e : itC a = .ok rs) (ok : RvOk K h0.H h v a) :
    ∃ p vs, v = .ref p ∧ (∀ h2, Gr h h2 → Ch h2 → VsF K h2 vs rs) ∧ ((∀ h2, Gr h h2 → Ch h2 → SqL K h2.H p vs) ∨ (∀ h2, Gr h h2 → Ch h2 → SqT K h2.H p vs)) := by
  unfold itC at e
  split at e
  · rename_i rs' e'
    cases e
    obtain ⟨p, vs, rfl, hs, q⟩ := items_ok R.ch e' ok
    refine ⟨p, vs, rfl, fun h2 g c => q.grow g, ?_⟩
    rcases hs with hs | hs
    · exact .inl fun h2 g c => ex_l g.x hs
    · exact .inr fun h2 g c => ex_t g.x hs
  · cases e
def itF (it : Rv → Er (List Rv)) (f : EF) : IF := fun ρ => (f ρ).bind it
/-- a list or a tuple walked -/
def iSeq (K : PySem.W.Frag) (tl : TE) : TI := fun σ H R => tl σ H fun x H1 => ∃ a xs, x = .ref a ∧ ((SqL K H1 a xs ∧ R (Itl K a) H1) ∨ (SqT K H1 a xs ∧ R (Itt K a) H1))
theorem pi_seq {tl : TE} (hl : PE X e tl) : PI X tg e (iSeq X.K tl) := by
  refine ⟨fun pins s σ H R I h => ?_⟩
  refine thn (hl.run pins s σ H _ I h) fun v s1 ⟨x, H1, I1, r1, q1⟩ => ?_
  obtain ⟨a, xs, e, q⟩ := q1
  subst e
  cases r1
  rcases q with ⟨hq, q⟩ | ⟨hq, q⟩
  · obtain ⟨its, rv, p, hz⟩ := I1.list hq
    refine wpAny_pyIter_list p.isList ?_
    refine ⟨s1.heap.objs.size, [s1.heap.objs.size], _, _, H1, rfl, I1.kept (t' := s1.toks) fun b o e => Heap.get?_push_of_some _ e, turn_list a _, ⟨_, Heap.get?_push_size _ rfl, rfl, rfl⟩, fun b hb => ?_, q⟩
    have e : b = s1.heap.objs.size := by simpa using hb
    subst e
    exact I1.fpOk (Nat.le_refl _) (I1.hok.fresh (Nat.le_refl _))
  · obtain ⟨its, rv, p, hz⟩ := I1.tuple hq
    refine wpAny_pyIter_tuple (show s1.heap.IsTuple a its.toArray from p) ?_
    refine ⟨s1.heap.objs.size, [s1.heap.objs.size], _, _, H1, rfl, I1.kept (t' := s1.toks) fun b o e => Heap.get?_push_of_some _ e, turn_tuple a _, ⟨_, Heap.get?_push_size _ rfl, rfl, rfl⟩, fun b hb => ?_, q⟩
    have e : b = s1.heap.objs.size := by simpa using hb
    subst e
    exact I1.fpOk (Nat.le_refl _) (I1.hok.fresh (Nat.le_refl _))
theorem itS_ne {a : Rv} {c : Str} {p : Option (Str × D)} : itS a ≠ .exc c p := by
  intro e
  unfold itS at e
  split at e <;> cases e
theorem itC_ne {a : Rv} {c : Str} {p : Option (Str × D)} : itC a ≠ .exc c p := by
  intro e
  unfold itC at e
  split at e <;> cases e
theorem sgch {h' : Hs} (c : Ch h') : SG h' h' := SG.refl h'
/-- a sequence walked, in a statement -/
theorem xiS (he : PE X e (tX X.K W f)) : PI X tg e (tI SG X.K W (itF itS f)) := by
  refine piTo (pi_seq he) fun σ H R q => ?_
  obtain ⟨h, ρ, rfl, Rl, q⟩ := q
  refine tX_mk Rl (PI1.bindE q fun a v h1 _ R1 g1 ok1 q1 => ?_)
  cases ei : itS a with
  | bad => rw [ei] at q1; exact q1.elim
  | exc c p => exact absurd ei itS_ne
  | ok rs =>
    rw [ei] at q1
    obtain ⟨h2, p, vs, eh, R2, g2, rfl, hv, hs⟩ := keepS Rl R1 g1 ei ok1
    have q2 : PI1 SG X.K W h ρ σ R (.ok rs) := by
      unfold itF at q
      have : f ρ = .ok a := by assumption
      rw [this] at q
      have q' : PI1 SG X.K W h ρ σ R (itS a) := q
      rw [ei] at q'
      exact q'
    rw [← eh]
    have c2 := R2.ch
    rcases hs with hs | hs
    · exact ⟨p, vs, rfl, .inl ⟨hs h2 (SG.refl _) c2, q2 _ h2 R2 g2 (itl_ok hs hv)⟩⟩
    · exact ⟨p, vs, rfl, .inr ⟨hs h2 (SG.refl _) c2, q2 _ h2 R2 g2 (itt_ok hs hv)⟩⟩
/-- in a comprehension -/
theorem xiC (he : PE X e (tX X.K W f)) : PI X tg e (tI Gr X.K W (itF itC f)) := by
  refine piTo (pi_seq he) fun σ H R q => ?_
  obtain ⟨h, ρ, rfl, Rl, q⟩ := q
  refine tX_mk Rl (PI1.bindE q fun a v h1 _ R1 g1 ok1 q1 => ?_)
  cases ei : itC a with
  | bad => rw [ei] at q1; exact q1.elim
  | exc c p => exact absurd ei itC_ne
  | ok rs =>
    rw [ei] at q1
    obtain ⟨p, vs, rfl, hv, hs⟩ := keepC R1 ei ok1
    have c2 := R1.ch
    rcases hs with hs | hs
    · exact ⟨p, vs, rfl, .inl ⟨hs h1 (Gr.refl _) c2, q1 _ h1 R1 (Gr.refl _) (itl_ok hs hv)⟩⟩
    · exact ⟨p, vs, rfl, .inr ⟨hs h1 (Gr.refl _) c2, q1 _ h1 R1 (Gr.refl _) (itt_ok hs hv)⟩⟩
/-! range -/
def rgR (lo hi : Int) : List Rv := (List.range (hi - lo).toNat).map fun i => .v (.int (lo + (i : Nat)))
def rg1F (f : EF) : IF := fun ρ => (f ρ).bind fun a => match a.dat with
  | some (.int n) => if n ≤ 1000000 ∧ -1000000 ≤ n then .ok (rgR 0 n) else .bad
  | _ => .bad
def rg2F (f g : EF) : IF := fun ρ => (f ρ).bind fun a => (g ρ).bind fun b => match a.dat, b.dat with
  | some (.int i), some (.int j) => if (i ≤ 1000000 ∧ -1000000 ≤ i) ∧ (j ≤ 1000000 ∧ -1000000 ≤ j) then .ok (rgR i j) else .bad
  | _, _ => .bad
theorem itr_ok {h0 : Hs} {lo hi : Int} : ItOk P K (Itr lo (hi - lo).toNat) h0 (rgR lo hi) where
  go := fun i h p c hi' => by
    unfold rgR at hi'
    have hi2 : i < (hi - lo).toNat := by simpa using hi'
    exact hi2
  stop := fun i h p c hi' => by
    unfold rgR at hi'
    have : (hi - lo).toNat ≤ i := by simpa using hi'
    exact this
  yld := fun i h v H' p c hi' y => by
    obtain ⟨e1, e2⟩ := y
    unfold rgR at hi' ⊢
    subst e1 e2
    refine ⟨h, .v (.int (lo + (i : Nat))), rfl, Gr.refl h, c, ?_, .int _⟩
    rw [List.getElem?_map, List.getElem?_range (by simpa using hi')]
    rfl
theorem PI1.bindE2 {h : Hs} {ρ : Env} {σ : L2.St} {QA : It → Hp → Prop} {e : Er Rv} {k : Rv → Er (List Rv)} (q : PI1 P K W h ρ σ QA (e.bind k)) {Q' : List V → Hp → Prop}
    (hk : ∀ a v h', e = .ok a → Rel K h' ρ σ → Gr h h' → RvOk K h.H h' v a → PI1 P K W h' ρ σ QA (k a) → Q' [v] h'.H) : PE1 K W h ρ σ (fun v H => Q' [v] H) e := PI1.bindE q hk
theorem xrg1 (hg : Gl X "range") (hm : X.mg "range" = none) (ha : PE X a (tX X.K W f)) (hs : starEach [a] X.env = [(false, eval a X.env)] := by rfl) (hs1 : starEach [a] X.env = (false, eval a X.env) :: starEach [] X.env := by rfl) : PI X tg (.Call (.Name "range" p) [a] [] pos) (tI P X.K W (rg1F f)) := by
  refine piTo (pi_range1 hg hm (pa_cons ha pa_nil hs1) hs) fun σ H R q => ?_
  obtain ⟨h, ρ, rfl, Rl, q⟩ := q
  refine tX_mk Rl (PI1.bindE q fun a v h1 _ R1 g1 ok1 q1 => ?_)
  split at q1
  · rename_i n en
    split at q1
    · have ev := dp_int (ok1.dp R1.ch en)
      subst ev
      have e0 : n.toNat = (n - 0).toNat := by omega
      refine ⟨n, rfl, by omega, by omega, ?_⟩
      rw [e0]
      exact q1 _ h1 R1 (Gr.refl _) itr_ok
    · exact q1.elim
  · exact q1.elim
theorem xrg2 (hg : Gl X "range") (hm : X.mg "range" = none) (ha : PE X a (tX X.K W f)) (hb : PE X b (tX X.K W g)) (hs : starEach [a, b] X.env = [(false, eval a X.env), (false, eval b X.env)] := by rfl) (hs2 : starEach [b] X.env = [(false, eval b X.env)] := by rfl)
    (hs3 : starEach [a, b] X.env = (false, eval a X.env) :: starEach [b] X.env := by rfl) (hs4 : starEach [b] X.env = (false, eval b X.env) :: starEach [] X.env := by rfl) : PI X tg (.Call (.Name "range" p) [a, b] [] pos) (tI P X.K W (rg2F f g)) := by
  refine piTo (pi_range2 hg hm (pa_cons ha (pa_cons hb pa_nil hs4) hs3) hs hs2) fun σ H R q => ?_
  obtain ⟨h, ρ, rfl, Rl, q⟩ := q
  show tX X.K W f σ h.H fun x H1 => tX X.K W g σ H1 fun y H2 => ∃ i j : Int, [x, y] = [V.int i, V.int j] ∧ (-(2 ^ 62) ≤ i ∧ i < 2 ^ 62 ∧ -(2 ^ 62) ≤ j ∧ j < 2 ^ 62) ∧ R (Itr i (j - i).toNat) H2
  refine (tX_mk (f := f) Rl (PI1.bindE q fun a v h1 _ R1 g1 ok1 q1 => ?_) : tX X.K W f σ h.H _)
  refine (tX_mk (f := g) R1 (PI1.bindE q1 fun b v2 h2 _ R2 g2 ok2 q2 => ?_) : tX X.K W g σ h1.H _)
  split at q2
  · rename_i i j ei ej
    split at q2
    · have ev := dp_int ((ok1.grow g2).dp R2.ch ei)
      subst ev
      have ev := dp_int (ok2.dp R2.ch ej)
      subst ev
      exact ⟨i, j, rfl, ⟨by omega, by omega, by omega, by omega⟩, q2 _ h2 R2 (Gr.refl _) itr_ok⟩
    · exact q2.elim
  · exact q2.elim
/-! enumerate -/
def enR (n : Nat) : List Rv → List Rv
  | [] => []
  | .v d :: rs => .v (.tuple [.int n, d]) :: enR (n + 1) rs
  | .b d :: rs => .b (.tuple [.int n, d]) :: enR (n + 1) rs
  | .r d :: rs => .r (.tuple [.int n, d]) :: enR (n + 1) rs
  | r :: rs => r :: enR (n + 1) rs
theorem enR_len : ∀ (n : Nat) (rs : List Rv), (enR n rs).length = rs.length
  | _, [] => rfl
  | n, r :: rs => by cases r <;> simp [enR, enR_len (n + 1) rs]
theorem enR_get : ∀ {rs : List Rv} {n i : Nat} {r : Rv}, rs[i]? = some r → ∃ q, (enR n rs)[i]? = some q ∧ (∀ d, r = .v d → q = .v (.tuple [.int ((n + i : Nat) : Int), d])) ∧ (∀ d, r = .b d → q = .b (.tuple [.int ((n + i : Nat) : Int), d])) ∧ (∀ d, r = .r d → q = .r (.tuple [.int ((n + i : Nat) : Int), d]))
  | [], _, _, _, e => by simp at e
  | r' :: rs, n, 0, r, e => by
    have e' : r' = r := by simpa using e
    subst e'
    cases r' <;> exact ⟨_, rfl, fun d z => by cases z <;> rfl, fun d z => by cases z <;> rfl, fun d z => by cases z <;> rfl⟩
  | r' :: rs, n, i + 1, r, e => by
    obtain ⟨q, e1, e2⟩ := enR_get (n := n + 1) (i := i) (rs := rs) (r := r) (by simpa using e)
    have en : n + 1 + i = n + (i + 1) := by omega
    rw [en] at e2
    exact ⟨q, by cases r' <;> simpa [enR] using e1, e2⟩
/-- a new pair -/
theorem pair_new {h : Hs} (c : Ch h) {T : Addr} {H' : Hp} (n : h.H T = none) {v : V} {r q : Rv} {i : Nat} (ok : RvF K h v r) (hq : (∀ d, r = .v d → q = .v (.tuple [.int ((i : Nat) : Int), d])) ∧ (∀ d, r = .b d → q = .b (.tuple [.int ((i : Nat) : Int), d])) ∧ (∀ d, r = .r d → q = .r (.tuple [.int ((i : Nat) : Int), d])))
    (nt : NewT h.H T [.int (i : Nat), v] H') : ∃ h', h'.H = H' ∧ Gr h h' ∧ Ch h' ∧ RvF K h' (.ref T) q := by
  obtain ⟨o, od, rfl⟩ := nt
  cases r with
  | v d =>
    rw [hq.1 d rfl]
    exact ⟨h.newV T (.frz o (.tup [.int (i : Nat), v])), rfl, Gr.newV c n, c.newV, Dp.tup upd_same od (.cons (.int _) (.cons (ex_dp (Ex.new (c.gN n)) ok) .nil))⟩
  | b d =>
    rw [hq.2.1 d rfl]
    exact ⟨h.newB T (.frz o (.tup [.int (i : Nat), v])), rfl, Gr.newB c n, c.newB n, Dp.tup upd_same od (.cons (.int _) (.cons (ex_dp (Ex.new (c.fN n)) ok) .nil))⟩
  | r d =>
    rw [hq.2.2 d rfl]
    exact ⟨h.newO T (.frz o (.tup [.int (i : Nat), v])), rfl, Gr.newO c n, c.newO n, Dp.tup upd_same od (.cons (.int _) (.cons (ex_dp (Ex.new n) ok) .nil))⟩
  | _ => exact ok.elim
theorem ite_ok {h0 : Hs} {rs : List Rv} {a : Addr} {vs : List V} (hs : ∀ h, P h0 h → Ch h → SqL K h.H a vs) (hv : ∀ h, P h0 h → Ch h → VsF K h vs rs) : ItOk P K (IteF K true a) h0 (enR 0 rs) where
  go := fun i h p c hi => by
    rw [enR_len] at hi
    have hi' : i < vs.length := by rw [(hv h p c).len]; exact hi
    exact ⟨vs, vs[i], hs h p c, List.getElem?_eq_getElem hi'⟩
  stop := fun i h p c hi => ⟨vs, hs h p c, by rw [(hv h p c).len, ← enR_len 0 rs]; exact hi⟩
  yld := fun i h v H' p c hi y => by
    obtain ⟨T, x, rfl, n, nt, y⟩ := y
    obtain ⟨r, e1, e2⟩ := (hv h p c).get (y vs (hs h p c))
    obtain ⟨q, e3, e4⟩ := enR_get (n := 0) e1
    rw [Nat.zero_add] at e4
    obtain ⟨h', eh, g, c', ok⟩ := pair_new c n e2 e4 nt
    exact ⟨h', q, eh, g, c', e3, ok⟩
theorem itet_ok {h0 : Hs} {rs : List Rv} {a : Addr} {vs : List V} (hs : ∀ h, P h0 h → Ch h → SqT K h.H a vs) (hv : ∀ h, P h0 h → Ch h → VsF K h vs rs) : ItOk P K (IteF K false a) h0 (enR 0 rs) where
  go := fun i h p c hi => by
    rw [enR_len] at hi
    have hi' : i < vs.length := by rw [(hv h p c).len]; exact hi
    exact ⟨vs, vs[i], hs h p c, List.getElem?_eq_getElem hi'⟩
  stop := fun i h p c hi => ⟨vs, hs h p c, by rw [(hv h p c).len, ← enR_len 0 rs]; exact hi⟩
  yld := fun i h v H' p c hi y => by
    obtain ⟨T, x, rfl, n, nt, y⟩ := y
    obtain ⟨r, e1, e2⟩ := (hv h p c).get (y vs (hs h p c))
    obtain ⟨q, e3, e4⟩ := enR_get (n := 0) e1
    rw [Nat.zero_add] at e4
    obtain ⟨h', eh, g, c', ok⟩ := pair_new c n e2 e4 nt
    exact ⟨h', q, eh, g, c', e3, ok⟩
def enF (it : Rv → Er (List Rv)) (f : EF) : IF := fun ρ => (f ρ).bind fun a => (it a).bind fun rs => .ok (enR 0 rs)
section
variable {elts : List Expr} {kk : Nat} {tpos : Pos}
theorem xenS (hg : Gl X "enumerate") (hm : X.mg "enumerate" = none) (he : PE X e (tX X.K W f)) (hs : starEach [e] X.env = (false, eval e X.env) :: starEach [] X.env := by rfl) (hs2 : starEach [e] X.env = [(false, eval e X.env)] := by rfl) :
    PI X (.Tuple elts kk tpos) (.Call (.Name "enumerate" p) [e] [] pos) (tI SG X.K W (enF itS f)) := by
  refine piTo (pi_enumA hg hm he hs hs2) fun σ H R q => ?_
  obtain ⟨h, ρ, rfl, Rl, q⟩ := q
  refine tX_mk Rl (PI1.bindE q fun a v h1 _ R1 g1 ok1 q1 => ?_)
  cases ei : itS a with
  | bad => rw [ei] at q1; exact q1.elim
  | exc c p => exact absurd ei itS_ne
  | ok rs =>
    obtain ⟨h2, p, vs, eh, R2, g2, rfl, hv, hs⟩ := keepS Rl R1 g1 ei ok1
    have q2 : PI1 SG X.K W h ρ σ R (.ok (enR 0 rs)) := by
      unfold enF at q
      have : f ρ = .ok a := by assumption
      rw [this] at q
      have q' : PI1 SG X.K W h ρ σ R ((itS a).bind fun rs => .ok (enR 0 rs)) := q
      rw [ei] at q'
      exact q'
    rw [← eh]
    have c2 := R2.ch
    rcases hs with hs | hs
    · exact ⟨p, vs, rfl, .inl ⟨hs h2 (SG.refl _) c2, q2 _ h2 R2 g2 (ite_ok hs hv)⟩⟩
    · exact ⟨p, vs, rfl, .inr ⟨hs h2 (SG.refl _) c2, q2 _ h2 R2 g2 (itet_ok hs hv)⟩⟩
theorem xenC (hg : Gl X "enumerate") (hm : X.mg "enumerate" = none) (he : PE X e (tX X.K W f)) (hs : starEach [e] X.env = (false, eval e X.env) :: starEach [] X.env := by rfl) (hs2 : starEach [e] X.env = [(false, eval e X.env)] := by rfl) :
    PI X (.Tuple elts kk tpos) (.Call (.Name "enumerate" p) [e] [] pos) (tI Gr X.K W (enF itC f)) := by
  refine piTo (pi_enumA hg hm he hs hs2) fun σ H R q => ?_
  obtain ⟨h, ρ, rfl, Rl, q⟩ := q
  refine tX_mk Rl (PI1.bindE q fun a v h1 _ R1 g1 ok1 q1 => ?_)
  cases ei : itC a with
  | bad => rw [ei] at q1; exact q1.elim
  | exc c p => exact absurd ei itC_ne
  | ok rs =>
    rw [ei] at q1
    obtain ⟨p, vs, rfl, hv, hs⟩ := keepC R1 ei ok1
    have c2 := R1.ch
    rcases hs with hs | hs
    · exact ⟨p, vs, rfl, .inl ⟨hs h1 (Gr.refl _) c2, q1 _ h1 R1 (Gr.refl _) (ite_ok hs hv)⟩⟩
    · exact ⟨p, vs, rfl, .inr ⟨hs h1 (Gr.refl _) c2, q1 _ h1 R1 (Gr.refl _) (itet_ok hs hv)⟩⟩
end
end
end Sq

/-! Comprehensions. -/
namespace Sq
open PySem PySem.Spec PyProof.Rows L2
/-- nothing is raised -/
def WN : WF := fun _ _ _ _ => False
def Er.noX {α : Type} : Er α → Er α
  | .ok a => .ok a
  | _ => .bad
def wipeE (ρ : Env) : List Nat → Env
  | [] => ρ
  | v :: vs => (wipeE ρ vs).set v .u
/-- a result kept in a list -/
def Rv.keep (a : Rv) : Er D := match a with
  | .v d => .ok d
  | .o xs => .ok (.list xs)
  | .b d => if flatD d = true then .ok d else .bad
  | .r d => if flatD d = true then .ok d else .bad
  | _ => .bad
section
variable {φ : TF} {t : Env → Er Bool} {e : EF}
def lcLoop (φ : TF) (t : Env → Er Bool) (e : EF) (ρ : Env) : List Rv → Er (List D)
  | [] => .ok []
  | r :: rs => (φ r ρ).bind fun ρ' => (t ρ').noX.bind fun b =>
    if b = true then (e ρ').noX.bind fun a => a.keep.bind fun d => (lcLoop φ t e ρ rs).bind fun ds => .ok (d :: ds) else lcLoop φ t e ρ rs
def lcF (it : IF) (φ : TF) (vs : List Nat) (t : Env → Er Bool) (e : EF) : EF := fun ρ => (it ρ).bind fun rs => if rs.length ≤ 100000 then (lcLoop φ t e (wipeE ρ vs) rs).bind fun ds => .ok (.o ds) else .bad
def yesT : Env → Er Bool := fun _ => .ok true
end
section
variable {K : PySem.W.Frag} {W : WF} {X : Cx}
theorem noX_ok {α : Type} {e : Er α} {a : α} (h : e.noX = .ok a) : e = .ok a := by
  cases e <;> cases h
  rfl
theorem noX_exc {α : Type} {e : Er α} {c : Str} {p : Option (Str × D)} : e.noX ≠ .exc c p := by
  intro z
  cases e <;> cases z
theorem ebind_ok {α β : Type} {e : Er α} {k : α → Er β} {b : β} (h : e.bind k = .ok b) : ∃ a, e = .ok a ∧ k a = .ok b := by
  cases e with
  | ok a => exact ⟨a, rfl, h⟩
  | exc c p => cases h
  | bad => cases h
theorem keep_ne {a : Rv} {c : Str} {p : Option (Str × D)} : a.keep ≠ .exc c p := by
  intro z
  unfold Rv.keep at z
  split at z <;> first | (cases z; done) | (split at z <;> cases z)
theorem lcLoop_ne {φ : TF} {t : Env → Er Bool} {e : EF} {ρ : Env} (hφ : ∀ r ρ c p, φ r ρ ≠ .exc c p) : ∀ {rs : List Rv} {c : Str} {p : Option (Str × D)}, lcLoop φ t e ρ rs ≠ .exc c p
  | [], _, _, z => by cases z
  | r :: rs, c, p, z => by
    unfold lcLoop at z
    cases e1 : φ r ρ with
    | exc c p => exact hφ _ _ _ _ e1
    | bad => rw [e1] at z; cases z
    | ok ρ' =>
      rw [e1] at z
      dsimp only [Er.bind] at z
      cases e2 : (t ρ').noX with
      | exc c p => exact noX_exc e2
      | bad => rw [e2] at z; cases z
      | ok b =>
        rw [e2] at z
        dsimp only at z
        cases b with
        | false => exact lcLoop_ne hφ z
        | true =>
          rw [if_pos rfl] at z
          cases e3 : (e ρ').noX with
          | exc c p => exact noX_exc e3
          | bad => rw [e3] at z; cases z
          | ok a =>
            rw [e3] at z
            dsimp only at z
            cases e4 : a.keep with
            | exc c p => exact keep_ne e4
            | bad => rw [e4] at z; cases z
            | ok d =>
              rw [e4] at z
              dsimp only at z
              cases e5 : lcLoop φ t e ρ rs with
              | exc c p => exact lcLoop_ne hφ e5
              | bad => rw [e5] at z; cases z
              | ok ds => rw [e5] at z; cases z
theorem Rel.wipe {h : Hs} {ρ : Env} {σ : L2.St} (R : Rel K h ρ σ) : ∀ vs : List Nat, Rel K h (wipeE ρ vs) (wipe σ vs)
  | [] => R
  | v :: vs => by
    have ih := R.wipe vs
    refine ⟨ih.ch, by simp [wipeE, L2.wipe, ih.len], fun j s x e1 e2 => ?_, fun j k s u l m hjk e1 e2 o1 o2 e3 e4 => ?_⟩
    · unfold wipeE at e1
      unfold L2.wipe at e2
      by_cases hj : v = j
      · subst hj
        rw [List.getElem?_set] at e1
        simp only [if_true] at e1
        split at e1
        · cases e1; trivial
        · cases e1
      · rw [List.getElem?_set_ne hj] at e1 e2
        exact ih.at_ j s x e1 e2
    · unfold wipeE at e1 e2
      unfold L2.wipe at e3 e4
      have nj : v ≠ j := fun z => by
        subst z
        rw [List.getElem?_set] at e1
        simp only [if_true] at e1
        split at e1
        · cases e1; cases o1
        · cases e1
      have nk : v ≠ k := fun z => by
        subst z
        rw [List.getElem?_set] at e2
        simp only [if_true] at e2
        split at e2
        · cases e2; cases o2
        · cases e2
      rw [List.getElem?_set_ne nj] at e1 e3
      rw [List.getElem?_set_ne nk] at e2 e4
      exact ih.dis j k s u l m hjk e1 e2 o1 o2 e3 e4
/-- kept: frozen if new -/
theorem keep_ok {h0 h : Hs} {ρ : Env} {σ : L2.St} (R0 : Rel K h0 ρ σ) (R : Rel K h ρ σ) (g : Gr h0 h) {v : V} {a : Rv} {d : D} (e : a.keep = .ok d) (ok : RvOk K h0.H h v a) : ∃ h', h'.H = h.H ∧ Rel K h' ρ σ ∧ Gr h0 h' ∧ Dp K h'.G v d := by
  unfold Rv.keep at e
  split at e
  · cases e; exact ⟨h, rfl, R, g, ok⟩
  · rename_i xs
    cases e
    obtain ⟨h', eh, R', g', ok'⟩ := frz_ok R0 R g (a := .o xs) rfl ok
    exact ⟨h', eh, R', g', ok'⟩
  · split at e
    · cases e; exact ⟨h, rfl, R, g, dp_flatG (by assumption) ok⟩
    · cases e
  · split at e
    · cases e; exact ⟨h, rfl, R, g, dp_flatG (by assumption) ok⟩
    · cases e
  · cases e
/-- the reading of a comprehension -/
theorem lcX_of {it : IF} {φ : TF} {vs : List Nat} {t : Env → Er Bool} {e : EF} (hφ : ∀ r ρ c p, φ r ρ ≠ .exc c p) :
    ∀ σ H Q, tX K W (lcF it φ vs t e) σ H Q → tLc (tI Gr K W it) (tG K vs φ) (tXt K WN t) (tX K WN e) vs σ H Q := by
  intro σ H Q q
  obtain ⟨h, ρ, rfl, R, q⟩ := tX_iff.mp q
  unfold lcF at q
  refine ⟨h, ρ, rfl, R, ?_⟩
  cases ei : it ρ with
  | bad => rw [ei] at q; exact q
  | exc c p => rw [ei] at q; exact q
  | ok rs =>
    rw [ei] at q
    dsimp only [Er.bind] at q
    intro J h1 R1 g1 iok Dl hD
    split at q
    · rename_i hlen
      cases el : lcLoop φ t e (wipeE ρ vs) rs with
      | bad => rw [el] at q; exact q.elim
      | exc c p => exact absurd el (lcLoop_ne hφ)
      | ok ds =>
        rw [el] at q
        have q : PE1 K W h ρ σ Q (.ok (.o ds)) := q
        -- the invariant: done ++ rest = ds, the list holds done
        let Wv : Nat → Nat → Hp → Prop := fun i m H => m = rs.length - i ∧ i ≤ rs.length ∧ ∃ (h' : Hs) (done rest : List D) (acc : List V), h'.H = H ∧ Ch h' ∧ Gr h1 h' ∧ ds = done ++ rest ∧ done.length ≤ i ∧
          lcLoop φ t e (wipeE ρ vs) (rs.drop i) = .ok rest ∧ h'.H Dl = some (.lst acc) ∧ h'.F Dl = none ∧ DpAll K h'.G acc done
        refine ⟨Wv, ⟨rs.length, by omega, by omega, h1.newO Dl (.lst []), [], ds, [], rfl, R1.ch.newO hD, Gr.newO R1.ch hD, rfl, Nat.le_refl _, el, upd_same, R1.ch.fN hD, .nil⟩, ?_⟩
        rintro i m H1 ⟨em, hi, h2, done, rest, acc, rfl, c2, g2, eds, hdl, elr, hDl, fDl, dpa⟩
        have R2 : Rel K h2 ρ σ := R1.grow g2 c2
        by_cases hlt : i < rs.length
        · refine .inr ⟨iok.go i h2 g2 c2 hlt, fun H' => Wv (i + 1) (rs.length - (i + 1)) H', fun H' w => ⟨_, by omega, w⟩, fun x H' y => ?_⟩
          obtain ⟨h3, r, rfl, g3, c3, er, okr⟩ := iok.yld i h2 x H' g2 c2 hlt y
          have R3 : Rel K h3 ρ σ := R2.grow g3 c3
          have edrop : rs.drop i = r :: rs.drop (i + 1) := by
            obtain ⟨hh, e2⟩ := List.getElem?_eq_some_iff.mp er
            rw [List.drop_eq_getElem_cons hh, e2]
          rw [edrop] at elr
          unfold lcLoop at elr
          obtain ⟨ρ', e1, elr⟩ := ebind_ok elr
          obtain ⟨b, e2, elr⟩ := ebind_ok elr
          have e2 := noX_ok e2
          refine ⟨h3, h3, wipeE ρ vs, r, ρ', rfl, R3.wipe vs, R3.wipe vs, okr.rv, e1, fun σ' R' hw => ⟨hw.wipe.trans (wipe_twice σ), ?_⟩⟩
          refine tXt_mk R' ?_
          rw [e2]
          intro h4 R4 g4
          cases b with
          | false =>
            rw [if_neg (by decide)]
            rw [if_neg (by decide)] at elr
            exact ⟨rfl, hlt, h4, done, rest, acc, rfl, R4.ch, (g2.trans g3).trans g4, eds, by omega, elr, g4.x _ _ (g3.x _ _ hDl), g4.keepN (g3.keepN fDl hDl) (g3.x _ _ hDl), ex_dpa (g3.trans g4).g dpa⟩
          | true =>
            rw [if_pos rfl]
            rw [if_pos rfl] at elr
            obtain ⟨a, e3, elr⟩ := ebind_ok elr
            have e3 := noX_ok e3
            obtain ⟨d, e4, elr⟩ := ebind_ok elr
            obtain ⟨rest', e5, elr⟩ := ebind_ok elr
            cases elr
            refine tX_mk R4 ?_
            rw [e3]
            intro v h5 R5 g5 ok5
            obtain ⟨h6, eh, R6, g6, ok6⟩ := keep_ok R4 R5 g5 e4 ok5
            have g46 : Gr h2 h6 := (g3.trans g4).trans g6
            have hD6 : h6.H Dl = some (.lst acc) := g46.x _ _ hDl
            have fD6 : h6.F Dl = none := g46.keepN fDl hDl
            rw [← eh]
            refine ⟨acc, hD6, ?_, rfl, hlt, ⟨h6.G, h6.F, upd h6.H Dl (.lst (acc ++ [v]))⟩, done ++ [d], rest', acc ++ [v], rfl, ⟨R6.ch.gf, Ex.mut R6.ch.fh fD6⟩, ?_, ?_, ?_, e5, upd_same, fD6, ?_⟩
            · rw [dpa.len]
              exact Nat.lt_of_le_of_lt hdl (Nat.lt_of_lt_of_le hlt (sz100 hlen))
            · have gg := g2.trans g46
              exact ⟨gg.g, gg.f, Ex.mut gg.x hD, gg.gn, gg.fn⟩
            · rw [eds, List.append_assoc]
              rfl
            · rw [List.length_append]
              show done.length + 1 ≤ i + 1
              omega
            · exact (ex_dpa g46.g dpa).snoc ok6
        · have hi' : i = rs.length := by omega
          subst hi'
          rw [List.drop_length] at elr
          cases elr
          rw [List.append_nil] at eds
          subst eds
          refine .inl ⟨iok.stop _ h2 g2 c2 (Nat.le_refl _), ?_⟩
          exact q _ h2 R2 (g1.trans g2) ⟨Dl, acc, rfl, g1.x.back hD, hDl, fDl, dpa⟩
    · exact q.elim
variable {elt tg iter : Expr} {ifs : List Expr} {scope : Scope} {own : List (Str × Nat)} {pos : Pos} {it : IF} {φ : TF} {t : Env → Er Bool} {e : EF}
abbrev BlkE (X : Cx) (scope : Scope) (elt : Expr) (te : TE) : Prop := ∀ (s : Shared) (H : Hp) (C : Addr) (cl : List (Str × Addr)) (fp : List Addr), PE (X.blk s H scope (compEnvC scope cl C X.env) fp) elt te
abbrev BlkG (X : Cx) (scope : Scope) (tg : Expr) (g : TG) : Prop := ∀ (s : Shared) (H : Hp) (C : Addr) (cl : List (Str × Addr)) (fp : List Addr), PG (X.blk s H scope (compEnvC scope cl C X.env) fp) tg g
abbrev BlkT (X : Cx) (scope : Scope) (ifs : List Expr) (t : TT) : Prop := ∀ (s : Shared) (H : Hp) (C : Addr) (cl : List (Str × Addr)) (fp : List Addr), PTs (X.blk s H scope (compEnvC scope cl C X.env) fp) ifs t
theorem asgn_ne {i : Nat} : ∀ r ρ c p, asgn i r ρ ≠ .exc c p := by
  intro r ρ c p e
  unfold asgn at e
  split at e <;> first | (cases e; done) | (split at e <;> cases e)
theorem unpk_ne {φs : List TF} (h : ∀ φ ∈ φs, ∀ r ρ c p, φ r ρ ≠ .exc c p) : ∀ rs ρ c p, unpk φs rs ρ ≠ .exc c p := by
  induction φs with
  | nil =>
    intro rs ρ c p e
    cases rs <;> cases e
  | cons φ φs ih =>
    intro rs ρ c p e
    cases rs with
    | nil => cases e
    | cons r rs =>
      unfold unpk at e
      cases e1 : φ r ρ with
      | exc c p => exact h φ List.mem_cons_self _ _ _ _ e1
      | bad => rw [e1] at e; cases e
      | ok ρ' =>
        rw [e1] at e
        exact ih (fun ψ hψ => h ψ (List.mem_cons_of_mem _ hψ)) rs ρ' c p e
theorem unpT_ne {φs : List TF} (h : ∀ φ ∈ φs, ∀ r ρ c p, φ r ρ ≠ .exc c p) : ∀ r ρ c p, unpT φs r ρ ≠ .exc c p := by
  intro r ρ c p e
  unfold unpT at e
  split at e
  · split at e
    · exact unpk_ne h _ _ _ _ e
    · cases e
  · cases e
theorem xyes : PTs X [] (tXt X.K WN yesT) := ⟨fun pins s σ H Q I hw => pts_nil.run pins s σ H Q I (by
  obtain ⟨h, ρ, rfl, R, q⟩ := tXt_iff.mp hw
  exact q h R (Gr.refl h))⟩
theorem xlc (hc : X.calm = true) (hN : X.N.Nodup) (hφ : ∀ r ρ c p, φ r ρ ≠ .exc c p) (hi : PI X tg iter (tI Gr X.K W it)) (ok : BlkOk X.N X.env.scope scope own) (hg : BlkG X scope tg (tG X.K (own.map (·.2)) φ)) (ht : BlkT X scope ifs (tXt X.K WN t)) (he : BlkE X scope elt (tX X.K WN e))
    (hs : ∀ x, foldedSetIterable iter X.env x = pure x := by intro _; rfl) : PE X (.ListComp elt [⟨tg, iter, ifs, 0⟩] scope pos) (tX X.K W (lcF it φ (own.map (·.2)) t e)) :=
  peTo (pe_lc hc hN hi ok hg ht he hs) (lcX_of hφ)
/-- y = [..] -/
theorem xsetLcT {i : Nat} {y : Str} {py spos : Pos} (hc : X.calm = true) (hN : X.N.Nodup) (hy : X.N[i]? = some y) (hyl : X.env.scope.names.lookup y = some .local) (hsw : swapsWith (.ListComp elt [⟨tg, iter, ifs, 0⟩] scope pos) (some (.Name y py)) spos.line X.env = pure true)
    (hφ : ∀ r ρ c p, φ r ρ ≠ .exc c p) (hi : PI X tg iter (tI Gr X.K W it)) (ok : BlkOk X.N X.env.scope scope own) (hg : BlkG X scope tg (tG X.K (own.map (·.2)) φ)) (ht : BlkT X scope ifs (tXt X.K WN t)) (he : BlkE X scope elt (tX X.K WN e))
    (hs : ∀ x, foldedSetIterable iter X.env x = pure x := by intro _; rfl) : PS X (.Assign [.Name y py] (.ListComp elt [⟨tg, iter, ifs, 0⟩] scope pos) spos) (tAsg (tX X.K W (lcF it φ (own.map (·.2)) t e)) (gName i)) :=
  psTo (ps_setLc hc hN hy hyl hsw hi ok hg ht he hs) fun D σ H q => lcX_of hφ σ H _ q
end
end Sq

/-! Calls of what is built in. -/
namespace Sq
open PySem PySem.Spec PyProof.Rows L2
section
variable {K : PySem.W.Frag} {W : WF} {X : Cx} {a b e : Expr} {f g : EF} {p pos : Pos}
/-- one argument, as it is -/
def C1Ok (K : PySem.W.Frag) (W : WF) (φ : Rv → Er Rv) (r : List V → Hp → VK → Prop) : Prop :=
  ∀ (h0 h : Hs) (ρ : Env) (σ : L2.St) (x : V) (a : Rv) (Q : VK), Rel K h0 ρ σ → Rel K h ρ σ → Gr h0 h → RvOk K h0.H h x a → PE1 K W h ρ σ Q (φ a) → r [x] h.H Q
theorem c1_of {φ : Rv → Er Rv} {r : List V → Hp → VK → Prop} (hr : C1Ok K W φ r) : ∀ σ H Q, tX K W (unF φ f) σ H Q → tCB r (tCons (tX K W f) tNil) σ H Q := by
  intro σ H Q q
  obtain ⟨h, ρ, rfl, R, q⟩ := tX_iff.mp q
  exact tX_mk R (q.bind fun a x h1 _ R1 g1 ok1 q1 => hr h h1 ρ σ x a Q R R1 g1 ok1 q1)
theorem C1Ok.alt {φ ψ : Rv → Er Rv} {r r' : List V → Hp → VK → Prop} (a : C1Ok K W φ r) (b : C1Ok K W ψ r') : C1Ok K W (fun x => match φ x with | .bad => ψ x | q => q) (fun xs H Q => r xs H Q ∨ r' xs H Q) := fun h0 h ρ σ x a' Q R0 R g o q => by
  dsimp only at q
  cases e : φ a' with
  | ok z =>
    rw [e] at q
    exact .inl (a h0 h ρ σ x a' Q R0 R g o (by rw [e]; exact q))
  | exc c p =>
    rw [e] at q
    exact .inl (a h0 h ρ σ x a' Q R0 R g o (by rw [e]; exact q))
  | bad =>
    rw [e] at q
    exact .inr (b h0 h ρ σ x a' Q R0 R g o q)
/-- len -/
def lenR (a : Rv) : Er Rv := match a with
  | .wk kvs => .ok (.v (.int kvs.length))
  | a => match a.dat with
    | some (.list xs) => .ok (.v (.int xs.length))
    | some (.tuple xs) => .ok (.v (.int xs.length))
    | some (.str s) => if s.length ≤ 100000 then .ok (.v (.int s.length)) else .bad
    | _ => .bad
def rLenA (K : PySem.W.Frag) : List V → Hp → VK → Prop := fun xs H Q => (∃ p ys, xs = [.ref p] ∧ (SqL K H p ys ∨ SqT K H p ys) ∧ Q (.int ys.length) H) ∨ ((∃ z, xs = [.str z] ∧ z.length ≤ sizeLine ∧ Q (.int z.length) H) ∨ ∃ a kvs, xs = [.ref a] ∧ H a = some (.dK kvs) ∧ Q (.int kvs.length) H)
theorem dat_lenR {h : Hs} {ρ : Env} {σ : L2.St} {H0 : Hp} {x : V} {a : Rv} {Q : VK} (R : Rel K h ρ σ) (ok : RvOk K H0 h x a) (q : PE1 K W h ρ σ Q (match a.dat with
    | some (.list xs) => .ok (.v (.int xs.length))
    | some (.tuple xs) => .ok (.v (.int xs.length))
    | some (.str s) => if s.length ≤ 100000 then .ok (.v (.int s.length)) else .bad
    | _ => .bad)) : rLenA K [x] h.H Q := by
  split at q
  · rename_i xs e
    obtain ⟨p, vs, rfl, s, d⟩ := dp_lst (ok.dp R.ch e)
    exact .inl ⟨p, vs, rfl, .inl s, by rw [d.len]; exact q.now R (.int _)⟩
  · rename_i xs e
    obtain ⟨p, vs, rfl, s, d⟩ := dp_tup (ok.dp R.ch e)
    exact .inl ⟨p, vs, rfl, .inr s, by rw [d.len]; exact q.now R (.int _)⟩
  · rename_i s e
    split at q
    · have ex := dp_str (ok.dp R.ch e)
      subst ex
      exact .inr (.inl ⟨s, rfl, sz100 (by assumption), q.now R (.int _)⟩)
    · exact q.elim
  · exact q.elim
theorem ok_len : C1Ok K W lenR (rLenA K) := by
  intro h0 h ρ σ x a Q R0 R g ok q
  unfold lenR at q
  split at q
  · obtain ⟨l, vs, rfl, hl, kd⟩ := ok
    exact .inr (.inr ⟨l, vs, rfl, hl, by rw [kd.len]; exact q.now R (.int _)⟩)
  · exact dat_lenR R ok q
theorem call_lenA : CallR X (.builtin "len") (rLenA X.K) := call_len_seq.or (call_len_str.or call_lenD)
theorem xlen (hg : Gl X "len") (hm : X.mg "len" = none) (ha : PE X a (tX X.K W f)) (hs : starEach [a] X.env = (false, eval a X.env) :: starEach [] X.env := by rfl) : PE X (.Call (.Name "len" p) [a] [] pos) (tX X.K W (unF lenR f)) :=
  peTo (pe_callB call_lenA hg hm PySem.boot_len (pa_cons ha pa_nil hs) (he := hs)) (c1_of ok_len)
/-- list(x): a new list -/
def listR (a : Rv) : Er Rv := match a with
  | .v (.list xs) => .ok (.o xs)
  | .v (.tuple xs) => .ok (.o xs)
  | .w xs => .ok (.o xs)
  | .o xs => .ok (.o xs)
  | .b (.list xs) => if xs.all flatD = true then .ok (.o xs) else .bad
  | .b (.tuple xs) => if xs.all flatD = true then .ok (.o xs) else .bad
  | _ => .bad
theorem dp_flatsG {H H' : Hp} : ∀ {vs : List V} {ds : List D}, DpAll K H vs ds → ds.all flatD = true → DpAll K H' vs ds
  | _, _, .nil, _ => .nil
  | _, _, .cons h t, e => by
    rw [List.all_cons, Bool.and_eq_true] at e
    exact .cons (dp_flatG e.1 h) (dp_flatsG t e.2)
theorem ok_list : C1Ok K W listR (fun xs H Q => ∃ p ys, xs = [.ref p] ∧ (SqL K H p ys ∨ SqT K H p ys) ∧ ∀ l, H l = none → Q (.ref l) (upd H l (.lst ys))) := by
  intro h0 h ρ σ x a Q R0 R g ok q
  unfold listR at q
  split at q
  · obtain ⟨p, vs, rfl, s, d⟩ := dp_lst ok
    exact ⟨p, vs, rfl, .inl (ex_l R.ch.gh s), fun l hl => q.newL R d hl⟩
  · obtain ⟨p, vs, rfl, s, d⟩ := dp_tup ok
    exact ⟨p, vs, rfl, .inr (ex_t R.ch.gh s), fun l hl => q.newL R d hl⟩
  · obtain ⟨p, vs, rfl, s, d⟩ := ok
    exact ⟨p, vs, rfl, .inl (.of s), fun l hl => q.newL R d hl⟩
  · obtain ⟨p, vs, rfl, _, s, _, d⟩ := ok
    exact ⟨p, vs, rfl, .inl (.of s), fun l hl => q.newL R d hl⟩
  · split at q
    · obtain ⟨p, vs, rfl, s, d⟩ := dp_lst ok
      exact ⟨p, vs, rfl, .inl (ex_l R.ch.fh s), fun l hl => q.newL R (dp_flatsG d (by assumption)) hl⟩
    · exact q.elim
  · split at q
    · obtain ⟨p, vs, rfl, s, d⟩ := dp_tup ok
      exact ⟨p, vs, rfl, .inr (ex_t R.ch.fh s), fun l hl => q.newL R (dp_flatsG d (by assumption)) hl⟩
    · exact q.elim
  · exact q.elim
theorem xlistOf (hg : Gl X "list") (hm : X.mg "list" = none) (ha : PE X a (tX X.K W f)) (hs : starEach [a] X.env = (false, eval a X.env) :: starEach [] X.env := by rfl) : PE X (.Call (.Name "list" p) [a] [] pos) (tX X.K W (unF listR f)) :=
  peTo (pe_callTy call_list_of hg hm boot_list (pa_cons ha pa_nil hs) (he := hs)) (c1_of ok_list)
/-- tuple(x): a new tuple of a list, a tuple itself -/
def tupleR (a : Rv) : Er Rv := match a with
  | .v (.list xs) => .ok (.v (.tuple xs))
  | .w xs => .ok (.v (.tuple xs))
  | .o xs => .ok (.v (.tuple xs))
  | .b (.list xs) => if xs.all flatD = true then .ok (.v (.tuple xs)) else .bad
  | .v (.tuple xs) => .ok (.v (.tuple xs))
  | .b (.tuple xs) => .ok (.b (.tuple xs))
  | _ => .bad
theorem ok_tuple : C1Ok K W tupleR (fun xs H Q => ∃ p ys, xs = [.ref p] ∧ ((SqL K H p ys ∧ ∀ l H', H l = none → NewT H l ys H' → Q (.ref l) H') ∨ (SqT K H p ys ∧ Q (.ref p) H))) := by
  intro h0 h ρ σ x a Q R0 R g ok q
  unfold tupleR at q
  split at q
  · obtain ⟨p, vs, rfl, s, d⟩ := dp_lst ok
    exact ⟨p, vs, rfl, .inl ⟨ex_l R.ch.gh s, fun l H' hl nt => q.newT R d hl nt⟩⟩
  · obtain ⟨p, vs, rfl, s, d⟩ := ok
    exact ⟨p, vs, rfl, .inl ⟨.of s, fun l H' hl nt => q.newT R d hl nt⟩⟩
  · obtain ⟨p, vs, rfl, _, s, _, d⟩ := ok
    exact ⟨p, vs, rfl, .inl ⟨.of s, fun l H' hl nt => q.newT R d hl nt⟩⟩
  · split at q
    · obtain ⟨p, vs, rfl, s, d⟩ := dp_lst ok
      exact ⟨p, vs, rfl, .inl ⟨ex_l R.ch.fh s, fun l H' hl nt => q.newT R (dp_flatsG d (by assumption)) hl nt⟩⟩
    · exact q.elim
  · obtain ⟨p, vs, rfl, s, d⟩ := dp_tup ok
    exact ⟨p, vs, rfl, .inr ⟨ex_t R.ch.gh s, q.now R ok⟩⟩
  · obtain ⟨p, vs, rfl, s, d⟩ := dp_tup ok
    exact ⟨p, vs, rfl, .inr ⟨ex_t R.ch.fh s, q.now R ok⟩⟩
  · exact q.elim
theorem xtupleOf (hg : Gl X "tuple") (hm : X.mg "tuple" = none) (ha : PE X a (tX X.K W f)) (hs : starEach [a] X.env = (false, eval a X.env) :: starEach [] X.env := by rfl) : PE X (.Call (.Name "tuple" p) [a] [] pos) (tX X.K W (unF tupleR f)) :=
  peTo (pe_callTy call_tupleF hg hm boot_tuple (pa_cons ha pa_nil hs) (he := hs)) (c1_of ok_tuple)
/-- list(range(n)), list(range(a, b)) -/
def intsD (lo hi : Int) : List D := (List.range (hi - lo).toNat).map fun i => .int (lo + (i : Nat))
def lrgF (f g : EF) : EF := fun ρ => (f ρ).bind fun a => (g ρ).bind fun b => match a.dat, b.dat with
  | some (.int i), some (.int j) => if (0 ≤ i ∧ i ≤ 1000000) ∧ (0 ≤ j ∧ j ≤ 1000000) then .ok (.o (intsD i j)) else .bad
  | _, _ => .bad
theorem ints_dp {H : Hp} {lo hi : Int} : DpAll K H (rgV lo hi) (intsD lo hi) := by
  unfold rgV intsD
  have : ∀ l : List Nat, DpAll K H (l.map fun i => V.int (lo + (i : Nat))) (l.map fun i => PyData.int (lo + (i : Nat))) := by
    intro l
    induction l with
    | nil => exact .nil
    | cons x l ih => exact .cons (.int _) ih
  exact this _
theorem xlrg1 {p2 pos2 : Pos} (hc : X.calm = true) (hg : Gl X "list") (hm : X.mg "list" = none) (hg2 : Gl X "range") (hm2 : X.mg "range" = none) (ha : PE X a (tX X.K W g)) (na : starEach [a] X.env = (false, eval a X.env) :: starEach [] X.env := by rfl)
    (na2 : starEach [.Call (.Name "range" p2) [a] [] pos2] X.env = (false, eval (.Call (.Name "range" p2) [a] [] pos2) X.env) :: starEach [] X.env := by rfl) : PE X (.Call (.Name "list" p) [.Call (.Name "range" p2) [a] [] pos2] [] pos) (tX X.K W (lrgF (cF (.int 0)) g)) := by
  refine peTo (pe_listRg hc hg hm (prg_1 hg2 hm2 ha na) na2) fun σ H Q q => ?_
  obtain ⟨h, ρ, rfl, R, q⟩ := tX_iff.mp q
  have q : PE1 X.K W h ρ σ Q ((g ρ).bind fun b => match (some (.int 0) : Option D), b.dat with
    | some (.int i), some (.int j) => if (0 ≤ i ∧ i ≤ 1000000) ∧ (0 ≤ j ∧ j ≤ 1000000) then .ok (.o (intsD i j)) else .bad
    | _, _ => .bad) := q
  show tX X.K W g σ h.H fun x H1 => ∃ n, x = .int n ∧ RgOk 0 n ∧ ∀ q, H1 q = none → Q (.ref q) (upd H1 q (.lst (rgV 0 n)))
  refine (tX_mk (f := g) R (q.bind fun b v h1 _ R1 g1 ok1 q1 => ?_) : tX X.K W g σ h.H _)
  split at q1
  · rename_i i j e1 ej
    cases e1
    split at q1
    · have ev := dp_int (ok1.dp R1.ch ej)
      subst ev
      exact ⟨j, rfl, RgOk.of_le (by omega) (by omega) (by omega) (by omega), fun l hl => q1.newL R1 ints_dp hl⟩
    · exact q1.elim
  · exact q1.elim
/-- abs -/
def absR (a : Rv) : Er Rv := match a.dat with
  | some (.int i) => .ok (.v (.int (if i < 0 then -i else i)))
  | _ => .bad
theorem xabs (hg : Gl X "abs") (hm : X.mg "abs" = none) (ha : PE X a (tX X.K W f)) (hs : starEach [a] X.env = (false, eval a X.env) :: starEach [] X.env := by rfl) : PE X (.Call (.Name "abs" p) [a] [] pos) (tX X.K W (unF absR f)) := by
  refine peTo (pe_callB call_abs hg hm boot_abs (pa_cons ha pa_nil hs) (he := hs)) (c1_of fun h0 h ρ σ x a Q R0 R g ok q => ?_)
  unfold absR at q
  split at q
  · rename_i i e
    have ex := dp_int (ok.dp R.ch e)
    subst ex
    exact ⟨i, rfl, q.now R (.int _)⟩
  · exact q.elim
/-- int(True), int(3) -/
def intR (a : Rv) : Er Rv := match a.dat with
  | some (.int i) => .ok (.v (.int i))
  | some (.bool k) => .ok (.v (.int (if k then 1 else 0)))
  | _ => .bad
theorem xintOf (hg : Gl X "int") (hm : X.mg "int" = none) (ha : PE X a (tX X.K W f)) (hs : starEach [a] X.env = (false, eval a X.env) :: starEach [] X.env := by rfl) : PE X (.Call (.Name "int" p) [a] [] pos) (tX X.K W (unF intR f)) := by
  refine peTo (pe_callTy call_int1 hg hm boot_int (pa_cons ha pa_nil hs) (he := hs)) (c1_of fun h0 h ρ σ x a Q R0 R g ok q => ?_)
  unfold intR at q
  split at q
  · rename_i i e
    have ex := dp_int (ok.dp R.ch e)
    subst ex
    exact .inl ⟨i, rfl, q.now R (.int _)⟩
  · rename_i i e
    have ex := dp_bl (ok.dp R.ch e)
    subst ex
    exact .inr ⟨i, rfl, q.now R (.int _)⟩
  · exact q.elim
/-- str(n) -/
def strR (a : Rv) : Er Rv := match a.dat with
  | some (.int i) => if i.natAbs.log2 < 1920 then .ok (.v (.str (toString i))) else .bad
  | _ => .bad
theorem xstrOf (hg : Gl X "str") (hm : X.mg "str" = none) (ha : PE X a (tX X.K W f)) (hs : starEach [a] X.env = (false, eval a X.env) :: starEach [] X.env := by rfl) : PE X (.Call (.Name "str" p) [a] [] pos) (tX X.K W (unF strR f)) := by
  refine peTo (pe_callTy call_str_int hg hm boot_str (pa_cons ha pa_nil hs) (he := hs)) (c1_of fun h0 h ρ σ x a Q R0 R g ok q => ?_)
  unfold strR at q
  split at q
  · rename_i i e
    split at q
    · have ex := dp_int (ok.dp R.ch e)
      subst ex
      exact ⟨i, rfl, by assumption, q.now R (.str _)⟩
    · exact q.elim
  · exact q.elim
/-! a list of intsD, of bools -/
def dInts : List D → Option (List Int)
  | [] => some []
  | .int i :: ds => (dInts ds).map (i :: ·)
  | _ => none
def dBools : List D → Option (List Bool)
  | [] => some []
  | .bool i :: ds => (dBools ds).map (i :: ·)
  | _ => none
theorem dInts_v {H : Hp} : ∀ {ds : List D} {vs : List V} {ns : List Int}, dInts ds = some ns → DpAll K H vs ds → vs = ns.map V.int
  | [], _, _, e, h => by cases h; cases e; rfl
  | .int i :: ds, _, ns, e, h => by
    cases h with
    | cons h t =>
      obtain ⟨ns', e1, rfl⟩ := Option.map_eq_some_iff.mp e
      rw [dp_int h, dInts_v e1 t]
      rfl
  | .none :: _, _, _, e, _ => by cases e
  | .bool _ :: _, _, _, e, _ => by cases e
  | .str _ :: _, _, _, e, _ => by cases e
  | .list _ :: _, _, _, e, _ => by cases e
  | .tuple _ :: _, _, _, e, _ => by cases e
  | .dict _ :: _, _, _, e, _ => by cases e
theorem dBools_v {H : Hp} : ∀ {ds : List D} {vs : List V} {ns : List Bool}, dBools ds = some ns → DpAll K H vs ds → vs = ns.map V.bl
  | [], _, _, e, h => by cases h; cases e; rfl
  | .bool i :: ds, _, ns, e, h => by
    cases h with
    | cons h t =>
      obtain ⟨ns', e1, rfl⟩ := Option.map_eq_some_iff.mp e
      rw [dp_bl h, dBools_v e1 t]
      rfl
  | .none :: _, _, _, e, _ => by cases e
  | .int _ :: _, _, _, e, _ => by cases e
  | .str _ :: _, _, _, e, _ => by cases e
  | .list _ :: _, _, _, e, _ => by cases e
  | .tuple _ :: _, _, _, e, _ => by cases e
  | .dict _ :: _, _, _, e, _ => by cases e
def Rv.intsD (a : Rv) : Option (List Int) := match a.dat with
  | some (.list xs) => dInts xs
  | _ => none
def Rv.bools (a : Rv) : Option (List Bool) := match a.dat with
  | some (.list xs) => dBools xs
  | _ => none
theorem RvOk.intsD {H0 : Hp} {h : Hs} {v : V} {a : Rv} {ns : List Int} (c : Ch h) (ok : RvOk K H0 h v a) (e : a.intsD = some ns) : ∃ p, v = .ref p ∧ SqL K h.H p (ns.map V.int) := by
  unfold Rv.intsD at e
  split at e
  · rename_i xs e1
    obtain ⟨p, vs, rfl, s, d⟩ := dp_lst (ok.dp c e1)
    rw [dInts_v e d] at s
    exact ⟨p, rfl, s⟩
  · cases e
theorem RvOk.bools {H0 : Hp} {h : Hs} {v : V} {a : Rv} {ns : List Bool} (c : Ch h) (ok : RvOk K H0 h v a) (e : a.bools = some ns) : ∃ p, v = .ref p ∧ SqL K h.H p (ns.map V.bl) := by
  unfold Rv.bools at e
  split at e
  · rename_i xs e1
    obtain ⟨p, vs, rfl, s, d⟩ := dp_lst (ok.dp c e1)
    rw [dBools_v e d] at s
    exact ⟨p, rfl, s⟩
  · cases e
def sumR (a : Rv) : Er Rv := match a.intsD with
  | some ns => .ok (.v (.int ns.sum))
  | none => .bad
theorem xsum (hc : X.calm = true) (hg : Gl X "sum") (hm : X.mg "sum" = none) (ha : PE X a (tX X.K W f)) (hs : starEach [a] X.env = (false, eval a X.env) :: starEach [] X.env := by rfl) : PE X (.Call (.Name "sum" p) [a] [] pos) (tX X.K W (unF sumR f)) := by
  refine peTo (pe_callB (cr_sum hc) hg hm boot_sum (pa_cons ha pa_nil hs) (he := hs)) (c1_of fun h0 h ρ σ x a Q R0 R g ok q => ?_)
  unfold sumR at q
  split at q
  · rename_i ns e
    obtain ⟨l, rfl, s⟩ := ok.intsD R.ch e
    exact ⟨l, ns, rfl, s, q.now R (.int _)⟩
  · exact q.elim
def allA (a : Rv) : Er Rv := match a.bools with
  | some ns => .ok (.v (.bool (ns.all id)))
  | none => .bad
def anyA (a : Rv) : Er Rv := match a.bools with
  | some ns => .ok (.v (.bool (ns.any id)))
  | none => .bad
theorem xall (hc : X.calm = true) (hg : Gl X "all") (hm : X.mg "all" = none) (ha : PE X a (tX X.K W f)) (hs : starEach [a] X.env = (false, eval a X.env) :: starEach [] X.env := by rfl) : PE X (.Call (.Name "all" p) [a] [] pos) (tX X.K W (unF allA f)) := by
  refine peTo (pe_callB (cr_all hc) hg hm boot_all (pa_cons ha pa_nil hs) (he := hs)) (c1_of fun h0 h ρ σ x a Q R0 R g ok q => ?_)
  unfold allA at q
  split at q
  · rename_i ns e
    obtain ⟨l, rfl, s⟩ := ok.bools R.ch e
    exact ⟨l, ns, rfl, s, q.now R (.bl _)⟩
  · exact q.elim
theorem xany (hc : X.calm = true) (hg : Gl X "any") (hm : X.mg "any" = none) (ha : PE X a (tX X.K W f)) (hs : starEach [a] X.env = (false, eval a X.env) :: starEach [] X.env := by rfl) : PE X (.Call (.Name "any" p) [a] [] pos) (tX X.K W (unF anyA f)) := by
  refine peTo (pe_callB (cr_any hc) hg hm boot_any (pa_cons ha pa_nil hs) (he := hs)) (c1_of fun h0 h ρ σ x a Q R0 R g ok q => ?_)
  unfold anyA at q
  split at q
  · rename_i ns e
    obtain ⟨l, rfl, s⟩ := ok.bools R.ch e
    exact ⟨l, ns, rfl, s, q.now R (.bl _)⟩
  · exact q.elim
/-- the least, the greatest -/
def lstMin : List Int → Int
  | [] => 0
  | x :: xs => xs.foldl min x
def lstMax : List Int → Int
  | [] => 0
  | x :: xs => xs.foldl max x
theorem foldl_min_le : ∀ (xs : List Int) (x : Int), xs.foldl min x ≤ x ∧ (∀ y ∈ xs, xs.foldl min x ≤ y) ∧ (xs.foldl min x = x ∨ xs.foldl min x ∈ xs)
  | [], x => ⟨Int.le_refl _, (fun _ h => by cases h), Or.inl rfl⟩
  | y :: ys, x => by
    obtain ⟨h1, h2, h3⟩ := foldl_min_le ys (min x y)
    refine ⟨?_, fun z hz => ?_, ?_⟩
    · show ys.foldl min (min x y) ≤ x
      omega
    · show ys.foldl min (min x y) ≤ z
      rcases List.mem_cons.mp hz with rfl | hz
      · omega
      · exact h2 z hz
    · show ys.foldl min (min x y) = x ∨ ys.foldl min (min x y) ∈ y :: ys
      rcases h3 with h3 | h3
      · rw [h3]
        by_cases hxy : x ≤ y
        · exact .inl (by omega)
        · exact .inr (by rw [show min x y = y by omega]; exact List.mem_cons_self)
      · exact .inr (List.mem_cons_of_mem _ h3)
theorem foldl_max_le : ∀ (xs : List Int) (x : Int), x ≤ xs.foldl max x ∧ (∀ y ∈ xs, y ≤ xs.foldl max x) ∧ (xs.foldl max x = x ∨ xs.foldl max x ∈ xs)
  | [], x => ⟨Int.le_refl _, (fun _ h => by cases h), Or.inl rfl⟩
  | y :: ys, x => by
    obtain ⟨h1, h2, h3⟩ := foldl_max_le ys (max x y)
    refine ⟨?_, fun z hz => ?_, ?_⟩
    · show x ≤ ys.foldl max (max x y)
      omega
    · show z ≤ ys.foldl max (max x y)
      rcases List.mem_cons.mp hz with rfl | hz
      · omega
      · exact h2 z hz
    · show ys.foldl max (max x y) = x ∨ ys.foldl max (max x y) ∈ y :: ys
      rcases h3 with h3 | h3
      · rw [h3]
        by_cases hxy : y ≤ x
        · exact .inl (by omega)
        · exact .inr (by rw [show max x y = y by omega]; exact List.mem_cons_self)
      · exact .inr (List.mem_cons_of_mem _ h3)
theorem lstMin_is {ns : List Int} {m : Int} (h1 : m ∈ ns) (h2 : ∀ y ∈ ns, m ≤ y) : m = lstMin ns := by
  cases ns with
  | nil => cases h1
  | cons x xs =>
    obtain ⟨a, b, c⟩ := foldl_min_le xs x
    have d : lstMin (x :: xs) ∈ x :: xs := by
      rcases c with c | c
      · show xs.foldl min x ∈ _
        rw [c]
        exact List.mem_cons_self
      · exact List.mem_cons_of_mem _ c
    have e := h2 _ d
    have f : lstMin (x :: xs) ≤ m := by
      rcases List.mem_cons.mp h1 with rfl | h1
      · exact a
      · exact b m h1
    omega
theorem lstMax_is {ns : List Int} {m : Int} (h1 : m ∈ ns) (h2 : ∀ y ∈ ns, y ≤ m) : m = lstMax ns := by
  cases ns with
  | nil => cases h1
  | cons x xs =>
    obtain ⟨a, b, c⟩ := foldl_max_le xs x
    have d : lstMax (x :: xs) ∈ x :: xs := by
      rcases c with c | c
      · show xs.foldl max x ∈ _
        rw [c]
        exact List.mem_cons_self
      · exact List.mem_cons_of_mem _ c
    have e := h2 _ d
    have f : m ≤ lstMax (x :: xs) := by
      rcases List.mem_cons.mp h1 with rfl | h1
      · exact a
      · exact b m h1
    omega
def minR (a : Rv) : Er Rv := match a.intsD with
  | some ns => if 0 < ns.length then .ok (.v (.int (lstMin ns))) else .bad
  | none => .bad
def maxR (a : Rv) : Er Rv := match a.intsD with
  | some ns => if 0 < ns.length then .ok (.v (.int (lstMax ns))) else .bad
  | none => .bad
theorem xmin1 (hc : X.calm = true) (hg : Gl X "min") (hm : X.mg "min" = none) (ha : PE X a (tX X.K W f)) (hs : starEach [a] X.env = (false, eval a X.env) :: starEach [] X.env := by rfl) : PE X (.Call (.Name "min" p) [a] [] pos) (tX X.K W (unF minR f)) := by
  refine peTo (pe_callB (cr_min hc) hg hm boot_min (pa_cons ha pa_nil hs) (he := hs)) (c1_of fun h0 h ρ σ x a Q R0 R g ok q => ?_)
  unfold minR at q
  split at q
  · rename_i ns e
    split at q
    · obtain ⟨l, rfl, s⟩ := ok.intsD R.ch e
      refine ⟨l, ns, rfl, s, by assumption, fun m h1 h2 => ?_⟩
      rw [lstMin_is h1 h2]
      exact q.now R (.int _)
    · exact q.elim
  · exact q.elim
theorem xmax1 (hc : X.calm = true) (hg : Gl X "max") (hm : X.mg "max" = none) (ha : PE X a (tX X.K W f)) (hs : starEach [a] X.env = (false, eval a X.env) :: starEach [] X.env := by rfl) : PE X (.Call (.Name "max" p) [a] [] pos) (tX X.K W (unF maxR f)) := by
  refine peTo (pe_callB (cr_max hc) hg hm boot_max (pa_cons ha pa_nil hs) (he := hs)) (c1_of fun h0 h ρ σ x a Q R0 R g ok q => ?_)
  unfold maxR at q
  split at q
  · rename_i ns e
    split at q
    · obtain ⟨l, rfl, s⟩ := ok.intsD R.ch e
      refine ⟨l, ns, rfl, s, by assumption, fun m h1 h2 => ?_⟩
      rw [lstMax_is h1 h2]
      exact q.now R (.int _)
    · exact q.elim
  · exact q.elim
/-- min(a, b), max(a, b) -/
def imin2 : Int → Int → Er D := fun i j => .ok (.int (if j < i then j else i))
def imax2 : Int → Int → Er D := fun i j => .ok (.int (if j > i then j else i))
theorem c2_of {φ : Rv → Rv → Er Rv} {r : List V → Hp → VK → Prop} (hr : OpOk K W φ (fun x y H Q => r [x, y] H Q)) : ∀ σ H Q, tX K W (binF φ f g) σ H Q → tCB r (tCons (tX K W f) (tCons (tX K W g) tNil)) σ H Q := by
  intro σ H Q q
  exact bin_of hr σ H Q q
theorem xmin2 (hc : X.calm = true) (hg : Gl X "min") (hm : X.mg "min" = none) (ha : PE X a (tX X.K W f)) (hb : PE X b (tX X.K W g)) (hs : starEach [a, b] X.env = (false, eval a X.env) :: starEach [b] X.env := by rfl) (hs2 : starEach [b] X.env = (false, eval b X.env) :: starEach [] X.env := by rfl) :
    PE X (.Call (.Name "min" p) [a, b] [] pos) (tX X.K W (binF (flat2 (int2 imin2)) f g)) :=
  peTo (pe_callB (call_min2 hc) hg hm boot_min (pa_cons ha (pa_cons hb pa_nil hs2) hs) (he := hs) (hpl := by rw [hs2]; rfl)) (c2_of (int_ok (fun _ _ _ _ e => nomatch e) (fun _ _ _ e => by cases e; rfl) fun H i j f Q e q => ⟨i, j, rfl, by cases e; exact q _ rfl⟩))
theorem xmax2 (hc : X.calm = true) (hg : Gl X "max") (hm : X.mg "max" = none) (ha : PE X a (tX X.K W f)) (hb : PE X b (tX X.K W g)) (hs : starEach [a, b] X.env = (false, eval a X.env) :: starEach [b] X.env := by rfl) (hs2 : starEach [b] X.env = (false, eval b X.env) :: starEach [] X.env := by rfl) :
    PE X (.Call (.Name "max" p) [a, b] [] pos) (tX X.K W (binF (flat2 (int2 imax2)) f g)) :=
  peTo (pe_callB (call_max2 hc) hg hm boot_max (pa_cons ha (pa_cons hb pa_nil hs2) hs) (he := hs) (hpl := by rw [hs2]; rfl)) (c2_of (int_ok (fun _ _ _ _ e => nomatch e) (fun _ _ _ e => by cases e; rfl) fun H i j f Q e q => ⟨i, j, rfl, by cases e; exact q _ rfl⟩))
/-- sorted(xs), whole numbers -/
def srt (ns : List Int) : List Int := ns.mergeSort fun a b => decide (a ≤ b)
theorem srt_perm (ns : List Int) : (srt ns).Perm ns := List.mergeSort_perm _ _
theorem srt_le (ns : List Int) : (srt ns).Pairwise (· ≤ ·) := by
  have h := List.pairwise_mergeSort (le := fun a b : Int => decide (a ≤ b)) (fun a b c h1 h2 => by simp at *; omega) (fun a b => by simp; omega) ns
  exact h.imp fun h => by simpa using h
theorem perm_sorted_eq : ∀ {xs ys : List Int}, xs.Perm ys → xs.Pairwise (· ≤ ·) → ys.Pairwise (· ≤ ·) → xs = ys
  | [], ys, h, _, _ => (List.Perm.nil_eq h)
  | x :: xs, [], h, _, _ => by have := h.length_eq; simp at this
  | x :: xs, y :: ys, h, h1, h2 => by
    have hx : x ∈ y :: ys := h.subset List.mem_cons_self
    have hy : y ∈ x :: xs := h.symm.subset List.mem_cons_self
    have a1 : x ≤ y := by
      rcases List.mem_cons.mp hy with e | e
      · omega
      · exact (List.pairwise_cons.mp h1).1 y e
    have a2 : y ≤ x := by
      rcases List.mem_cons.mp hx with e | e
      · omega
      · exact (List.pairwise_cons.mp h2).1 x e
    have e : x = y := by omega
    subst e
    rw [perm_sorted_eq (List.Perm.cons_inv h) (List.pairwise_cons.mp h1).2 (List.pairwise_cons.mp h2).2]
def sortR (a : Rv) : Er Rv := match a.intsD with
  | some ns => .ok (.o ((srt ns).map .int))
  | none => .bad
theorem ints_all {H : Hp} : ∀ ns : List Int, DpAll K H (ns.map V.int) (ns.map PyData.int)
  | [] => .nil
  | n :: ns => .cons (.int n) (ints_all ns)
theorem xsorted (hg : Gl X "sorted") (hm : X.mg "sorted" = none) (ha : PE X a (tX X.K W f)) (hs : starEach [a] X.env = (false, eval a X.env) :: starEach [] X.env := by rfl) : PE X (.Call (.Name "sorted" p) [a] [] pos) (tX X.K W (unF sortR f)) := by
  refine peTo (pe_callB cr_sortedI hg hm boot_sorted (pa_cons ha pa_nil hs) (he := hs)) (c1_of fun h0 h ρ σ x a Q R0 R g ok q => ?_)
  unfold sortR at q
  split at q
  · rename_i ns e
    obtain ⟨l, rfl, s⟩ := ok.intsD R.ch e
    refine ⟨l, ns, rfl, s, fun ns' p h1 h2 hp => ?_⟩
    have e2 : ns' = srt ns := perm_sorted_eq (h1.trans (srt_perm ns).symm) h2 (srt_le ns)
    subst e2
    exact q.newL R (ints_all _) hp
  · exact q.elim
/-! isinstance(x, T), T built in -/
def tyD : D → Option String
  | .none => some "NoneType"
  | .bool _ => some "bool"
  | .int _ => some "int"
  | .str _ => some "str"
  | .list _ => some "list"
  | .tuple _ => some "tuple"
  | .dict _ => none
theorem tyx_of {H : Hp} {v : V} {d : D} {n : String} (h : Dp K H v d) (e : tyD d = some n) : TyX K H v (.type n) := by
  cases h with
  | non => cases e; exact .base .non
  | bl b => cases e; exact .base (.bl b)
  | int i => cases e; exact .base (.int i)
  | str x => cases e; exact .base (.str x)
  | lst hs _ =>
    cases e
    rcases hs with (hs | ⟨o, hs⟩) | ⟨o, its, n, hk, hc, _⟩
    · exact .base (.lst hs)
    · exact .base (.frz hs)
    · exact .kList hk hc
  | tup hs _ _ =>
    cases e
    exact .fTuple hs
  | obj _ _ => cases e
def isiR (T : String) (a : Rv) : Er Rv := match a.dat with
  | some d => match tyD d with
    | some n => match kitB n T with
      | some b => .ok (.v (.bool b))
      | none => .bad
    | none => .bad
  | none => .bad
theorem xisi {x T : String} {pT : Pos} (hg : Gl X "isinstance") (hm : X.mg "isinstance" = none) (ha : PE X a (tX X.K W f)) (hgT : Gl X (Str.ofString x)) (hmT : X.mg (Str.ofString x) = none) (hv : bootBuiltins (Str.ofString x) = some (.type T))
    (hn : Str.ofString x ≠ "__name__" := by decide) (hd : (Str.ofString x == ("__debug__" : Str)) = false := by decide)
    (hs : starEach [a, .Name (Str.ofString x) pT] X.env = (false, eval a X.env) :: starEach [.Name (Str.ofString x) pT] X.env := by rfl) (hs2 : starEach [.Name (Str.ofString x) pT] X.env = (false, eval (.Name (Str.ofString x) pT) X.env) :: starEach [] X.env := by rfl) :
    PE X (.Call (.Name "isinstance" p) [a, .Name (Str.ofString x) pT] [] pos) (tX X.K W (unF (isiR T) f)) := by
  have hT : PE X (.Name (Str.ofString x) pT) (tC (.ty T)) := pe_bltn hgT hmT hv rfl hn hd
  refine peTo (pe_callB call_isi hg hm boot_isinstance (pa_cons ha (pa_cons hT pa_nil hs2) hs) (he := hs) (hpl := by rw [hs2]; rfl)) fun σ H Q q => ?_
  obtain ⟨h, ρ, rfl, R, q⟩ := tX_iff.mp q
  refine (tX_mk (f := f) R (q.bind fun a v h1 _ R1 g1 ok1 q1 => ?_) : tX X.K W f σ h.H _)
  unfold isiR at q1
  split at q1
  · rename_i d e
    split at q1
    · rename_i n en
      split at q1
      · rename_i b eb
        exact ⟨v, .ty T, .type n, .type T, b, rfl, .ty T, tyx_of (ok1.dp R1.ch e) en, kit_ty eb, q1.now R1 (.bl _)⟩
      · exact q1.elim
    · exact q1.elim
  · exact q1.elim
end
end Sq

/-! Statements. -/
namespace Sq
open PySem PySem.Spec PyProof.Rows L2
inductive Res where
  | next (ρ : Env)
  | ret (r : Rv)
  | brk (ρ : Env)
  | cont (ρ : Env)
  | exc (c : Str) (p : Option (Str × D)) (ρ : Env)
  | bad
abbrev SF := Env → Res
def RetOk (K : PySem.W.Frag) (h : Hs) (v : V) : Rv → Prop
  | .v d => Dp K h.G v d
  | .b d => Dp K h.F v d
  | .o xs => ∃ l vs, v = .ref l ∧ h.H l = some (.lst vs) ∧ h.F l = none ∧ DpAll K h.G vs xs
  | .ok kvs => ∃ l vs, v = .ref l ∧ h.H l = some (.dK vs) ∧ h.F l = none ∧ KvD K h.G vs kvs
  | .y xss => ∃ l ms, v = .ref l ∧ h.H l = some (.lst (refsOf ms)) ∧ h.F l = none ∧ Ys K h.F h.G ms xss
  | .p2 xs ys => ∃ t l m vs ws, v = .ref t ∧ h.H t = some (.tup [.ref l, .ref m]) ∧ l ≠ m ∧ (h.H l = some (.lst vs) ∧ h.F l = none ∧ DpAll K h.G vs xs) ∧ (h.H m = some (.lst ws) ∧ h.F m = none ∧ DpAll K h.G ws ys)
  | _ => False
def Post (K : PySem.W.Frag) (W : WF) (D : Ends) (h : Hs) : Res → Prop
  | .next ρ' => ∀ σ' h', Rel K h' ρ' σ' → SG h h' → D.nx σ' h'.H
  | .brk ρ' => ∀ σ' h', Rel K h' ρ' σ' → SG h h' → D.bk σ' h'.H
  | .cont ρ' => ∀ σ' h', Rel K h' ρ' σ' → SG h h' → D.ct σ' h'.H
  | .ret r => ∀ v h', Ch h' → SG h h' → RetOk K h' v r → D.rt v h'.H
  | .exc c p ρ' => ∀ σ' h', Rel K h' ρ' σ' → SG h h' → W c p σ' h'
  | .bad => False
def tS (K : PySem.W.Frag) (W : WF) (f : SF) : TS := fun D σ H => ∃ h ρ, h.H = H ∧ Rel K h ρ σ ∧ Post K W D h (f ρ)
section
variable {K : PySem.W.Frag} {W : WF} {X : Cx} {D D' : Ends} {h h1 : Hs} {ρ : Env} {σ : L2.St}
theorem Post.shift (g : SG h h1) : ∀ {r : Res}, Post K W D h r → Post K W D h1 r
  | .next _, q => fun σ' h' R g' => q σ' h' R (g.trans g')
  | .brk _, q => fun σ' h' R g' => q σ' h' R (g.trans g')
  | .cont _, q => fun σ' h' R g' => q σ' h' R (g.trans g')
  | .ret _, q => fun v h' c g' => q v h' c (g.trans g')
  | .exc _ _ _, q => fun σ' h' R g' => q σ' h' R (g.trans g')
  | .bad, q => q
theorem tS_mk {f : SF} (R : Rel K h ρ σ) (q : Post K W D h (f ρ)) : tS K W f D σ h.H := ⟨h, ρ, rfl, R, q⟩
def liftE (ρ : Env) : Er Env → Res
  | .ok ρ' => .next ρ'
  | .exc c p => .exc c p ρ
  | .bad => .bad
/-- an expression ahead of the rest of a statement -/
def thenS (ρ : Env) (e : Er Rv) (k : Rv → Res) : Res := match e with
  | .ok r => k r
  | .exc c p => .exc c p ρ
  | .bad => .bad
def thenT (ρ : Env) (e : Er Bool) (k : Bool → Res) : Res := match e with
  | .ok r => k r
  | .exc c p => .exc c p ρ
  | .bad => .bad
theorem Post.then {e : Er Rv} {k : Rv → Res} (q : Post K W D h (thenS ρ e k)) {Q : VK} (hk : ∀ r v h', e = .ok r → Rel K h' ρ σ → Gr h h' → RvOk K h.H h' v r → Post K W D h (k r) → Q v h'.H) : PE1 K W h ρ σ Q e := by
  cases e with
  | ok r => exact fun v h' R g ok => hk r v h' rfl R g ok q
  | exc c p => exact fun h' R g => q σ h' R g.sg
  | bad => exact q
theorem Post.thenT {e : Er Bool} {k : Bool → Res} (q : Post K W D h (thenT ρ e k)) {Q : Bool → Hp → Prop} (hk : ∀ r h', e = .ok r → Rel K h' ρ σ → Gr h h' → Post K W D h' (k r) → Q r h'.H) : PT1 K W h ρ σ Q e := by
  cases e with
  | ok r => exact fun h' R g => hk r h' rfl R g (Post.shift g.sg q)
  | exc c p => exact fun h' R g => q σ h' R g.sg
  | bad => exact q

/-! ### blocks -/
def skipS : SF := fun ρ => .next ρ
def seqS (f g : SF) : SF := fun ρ => match f ρ with
  | .next ρ' => g ρ'
  | r => r
theorem xssnil : PSs X [] (tS X.K W skipS) := pssTo pss_nil fun D σ H ⟨h, ρ, e, R, q⟩ => by
  subst e
  exact q σ h R (SG.refl h)
theorem xsscons {st : Stmt} {rest : List Stmt} {f g : SF} (h1 : PS X st (tS X.K W f)) (h2 : PSs X rest (tS X.K W g)) : PSs X (st :: rest) (tS X.K W (seqS f g)) := by
  refine pssTo (pss_cons h1 h2) fun D σ H ⟨h, ρ, e, R, q⟩ => ?_
  subst e
  refine tS_mk R ?_
  unfold seqS at q
  cases ef : f ρ with
  | next ρ' =>
    rw [ef] at q
    exact fun σ' h' R' g' => tS_mk R' (Post.shift g' q)
  | ret r => rw [ef] at q; exact q
  | brk ρ' => rw [ef] at q; exact q
  | cont ρ' => rw [ef] at q; exact q
  | exc c p ρ' => rw [ef] at q; exact q
  | bad => rw [ef] at q; exact q
theorem xssone {st : Stmt} {f : SF} (h1 : PS X st (tS X.K W f)) : PSs X [st] (tS X.K W f) := pss_one h1
/-- what is the same for every environment -/
theorem xssTo {sts : List Stmt} {f g : SF} (h1 : PSs X sts (tS X.K W f)) (e : ∀ ρ, f ρ = g ρ) : PSs X sts (tS X.K W g) := by
  have : f = g := funext e
  subst this
  exact h1
/-- ghost: own objects of a slot are frozen -/
def Sl.frz : Sl → Sl
  | .o xs => .v (.list xs)
  | s => s
def frzE (ρ : Env) (i : Nat) : Env := ρ.set i (slot ρ i).frz
def frzS (i : Nat) (f : SF) : SF := fun ρ => f (frzE ρ i)
theorem frzE_ok (R : Rel K h ρ σ) (i : Nat) : ∃ h', h'.H = h.H ∧ Rel K h' (frzE ρ i) σ ∧ SG h h' := by
  have same : ∀ s, slot ρ i = s → s.frz = s → ∃ h', h'.H = h.H ∧ Rel K h' (frzE ρ i) σ ∧ SG h h' := fun s e1 e2 => by
    refine ⟨h, rfl, ?_, SG.refl h⟩
    have : frzE ρ i = ρ ∨ ρ.length ≤ i := by
      by_cases hi : i < ρ.length
      · left
        unfold frzE
        rw [e1, e2]
        apply List.ext_getElem?
        intro k
        rw [List.getElem?_set]
        split
        · rename_i hk
          subst hk
          unfold slot at e1
          rw [List.getD_eq_getElem?_getD, List.getElem?_eq_getElem hi] at e1
          rw [List.getElem?_eq_getElem hi]
          exact congrArg some e1.symm
        · rfl
      · exact .inr (by omega)
    rcases this with e | e
    · rw [e]; exact R
    · unfold frzE
      rw [List.set_eq_of_length_le e]
      exact R
  cases es : slot ρ i with
  | u => exact same _ es rfl
  | x a => exact same _ es rfl
  | v d => exact same _ es rfl
  | b d => exact same _ es rfl
  | k d => exact same _ es rfl
  | t d => exact same _ es rfl
  | i c fs => exact same _ es rfl
  | j l c fs => exact same _ es rfl
  | y xss => exact same _ es rfl
  | z l xss => exact same _ es rfl
  | e xs => exact same _ es rfl
  | o xs =>
    have ei := slot_some es (by intro z; cases z)
    obtain ⟨x, ex, l, vs, rfl, hl, fl, hd⟩ := R.get ei
    have hi : i < ρ.length := (List.getElem?_eq_some_iff.mp ei).1
    refine ⟨h.fz l (.lst vs), rfl, ⟨R.ch.fz hl, by simp [frzE, R.len], fun j s x e1 e2 => ?_, fun j k s u m n hjk e1 e2 o1 o2 e3 e4 => ?_⟩, ⟨Ex.new (R.ch.gf.back fl), Ex.new fl, fun a o e z => by
      obtain ⟨rfl, _⟩ := upd_case e z
      exact fl⟩⟩
    · unfold frzE at e1
      rw [es] at e1
      by_cases hj : i = j
      · subst hj
        rw [List.getElem?_set] at e1
        simp only [if_true, hi] at e1
        cases e1
        rw [ex] at e2
        cases e2
        exact ⟨_, rfl, .lst (.of upd_same) (ex_dpa (Ex.new (R.ch.gf.back fl)) hd)⟩
      · rw [List.getElem?_set_ne hj] at e1
        have q := R.at_ j s x e1 e2
        have hm : ∀ m, s.own = true → x = some (.ref m) → m ≠ l := fun m os e z => by
          subst z
          exact R.dis i j (.o xs) s m m hj ei e1 rfl os ex (by rw [e2, e]) rfl
        cases s with
        | u => trivial
        | x a => exact q
        | v d =>
          obtain ⟨v, e, q⟩ := q
          exact ⟨v, e, ex_dp (Ex.new (R.ch.gf.back fl)) q⟩
        | b d =>
          obtain ⟨v, e, q⟩ := q
          exact ⟨v, e, ex_dp (Ex.new fl) q⟩
        | o ys =>
          obtain ⟨m, ws, e, a, b, q⟩ := q
          exact ⟨m, ws, e, a, (upd_ne (hm m rfl e)).trans b, ex_dpa (Ex.new (R.ch.gf.back fl)) q⟩
        | k ys =>
          obtain ⟨m, ws, e, a, b, q⟩ := q
          exact ⟨m, ws, e, a, (upd_ne (hm m rfl e)).trans b, q.ex (Ex.new (R.ch.gf.back fl))⟩
        | t ys =>
          obtain ⟨m, ws, e, a, b, q⟩ := q
          exact ⟨m, ws, e, a, (upd_ne (hm m rfl e)).trans b, q.ex (Ex.new (R.ch.gf.back fl))⟩
        | i c fs =>
          obtain ⟨m, ws, dx, e, a, b, q⟩ := q
          exact ⟨m, ws, dx, e, a, (upd_ne (hm m rfl e)).trans b, q.ex (Ex.new (R.ch.gf.back fl))⟩
        | j m c fs =>
          obtain ⟨ws, dx, e, a, b, q⟩ := q
          exact ⟨ws, dx, e, a, (upd_ne (hm m rfl e)).trans b, q.ex (Ex.new (R.ch.gf.back fl))⟩
        | y ys =>
          obtain ⟨m, ws, e, a, b, q⟩ := q
          exact ⟨m, ws, e, a, (upd_ne (hm m rfl e)).trans b, q.ex (Ex.new fl) fun a o e z => by
            obtain ⟨rfl, _⟩ := upd_case e z
            exact fl⟩
        | e ys =>
          obtain ⟨m, ws, e, a, b, q⟩ := q
          have gn : ∀ a o, (upd h.G l (.lst vs)) a = some o → h.G a = none → h.F a = none := fun a o e z => by
            obtain ⟨rfl, _⟩ := upd_case e z
            exact fl
          exact ⟨m, ws, e, Ex.new fl _ _ a, gNone gn a b, q⟩
        | z m ys =>
          obtain ⟨ws, e, a, b, q⟩ := q
          have gn : ∀ a o, (upd h.G l (.lst vs)) a = some o → h.G a = none → h.F a = none := fun a o e z => by
            obtain ⟨rfl, _⟩ := upd_case e z
            exact fl
          exact ⟨ws, e, Ex.new fl _ _ a, gNone gn a b, q.ex (Ex.new fl) gn⟩
    · unfold frzE at e1 e2
      rw [es] at e1 e2
      have nj : i ≠ j := fun z => by
        subst z
        rw [List.getElem?_set] at e1
        simp only [if_true, hi] at e1
        cases e1
        cases o1
      have nk : i ≠ k := fun z => by
        subst z
        rw [List.getElem?_set] at e2
        simp only [if_true, hi] at e2
        cases e2
        cases o2
      rw [List.getElem?_set_ne nj] at e1
      rw [List.getElem?_set_ne nk] at e2
      exact R.dis j k s u m n hjk e1 e2 o1 o2 e3 e4
theorem xfrz {sts : List Stmt} {f : SF} (i : Nat) (h1 : PSs X sts (tS X.K W f)) : PSs X sts (tS X.K W (frzS i f)) := pssTo h1 fun D σ H ⟨h, ρ, e, R, q⟩ => by
  subst e
  obtain ⟨h', eh, R', g⟩ := frzE_ok R i
  rw [← eh]
  exact tS_mk R' (Post.shift g q)

/-! ### small statements -/
theorem xpass {pos : Pos} : PS X (.Pass pos) (tS X.K W skipS) := psTo ps_pass fun D σ H ⟨h, ρ, e, R, q⟩ => by
  subst e
  exact q σ h R (SG.refl h)
def brkS : SF := fun ρ => .brk ρ
def contS : SF := fun ρ => .cont ρ
def badS : SF := fun _ => .bad
theorem xbreak {pos : Pos} : PS X (.Break pos) (tS X.K W brkS) := psTo ps_break fun D σ H ⟨h, ρ, e, R, q⟩ => by
  subst e
  exact q σ h R (SG.refl h)
theorem xcontinue {pos : Pos} : PS X (.Continue pos) (tS X.K W contS) := psTo ps_continue fun D σ H ⟨h, ρ, e, R, q⟩ => by
  subst e
  exact q σ h R (SG.refl h)
theorem xnever {st : Stmt} : PS X st (tS X.K W badS) := psTo ps_never fun D σ H ⟨h, ρ, e, R, q⟩ => q
def exprS (f : EF) : SF := fun ρ => thenS ρ (f ρ) fun _ => .next ρ
theorem xexpr {e : Expr} {f : EF} {pos : Pos} (he : PE X e (tX X.K W f)) (hs : swapsWith e none pos.line X.env = pure false := by rfl) : PS X (.Expr e pos) (tS X.K W (exprS f)) := psTo (ps_expr he hs) fun D σ H ⟨h, ρ, e, R, q⟩ => by
  subst e
  exact tX_mk R (q.then fun r v h' _ R' g' _ q' => q' σ h' R' g'.sg)
/-- x = e -/
def asgS (f : EF) (φ : TF) : SF := fun ρ => thenS ρ (f ρ) fun r => liftE ρ (φ r ρ)
theorem asg_of {f : EF} {φ : TF} {fp : List Nat} (hφ : ∀ r ρ c p, φ r ρ ≠ .exc c p) : ∀ D σ H, tS K W (asgS f φ) D σ H → tAsg (tX K W f) (tG K fp φ) D σ H := fun D σ H ⟨h, ρ, e, R, q⟩ => by
  subst e
  refine tX_mk R (q.then fun r v h' _ R' g' ok q' => ?_)
  cases e1 : φ r ρ with
  | bad => rw [e1] at q'; exact q'.elim
  | exc c p => exact absurd e1 (hφ _ _ _ _)
  | ok ρ' =>
    rw [e1] at q'
    exact ⟨h, h', ρ, r, ρ', rfl, R, R', ok, e1, fun σ' R2 _ => q' σ' h' R2 g'.sg⟩
theorem xasg {tg e : Expr} {f : EF} {φ : TF} {fp : List Nat} {pos : Pos} (hφ : ∀ r ρ c p, φ r ρ ≠ .exc c p) (he : PE X e (tX X.K W f)) (hg : PG X tg (tG X.K fp φ)) (hs : swapsWithSole [tg] e pos.line X.env = pure false := by rfl) (hw : swappedStores [tg] e X.env = pure none := by rfl)
    (h1 : (assignEach [tg] X.env).map (·.2) = [assign tg X.env] := by rfl) : PS X (.Assign [tg] e pos) (tS X.K W (asgS f φ)) := psTo (ps_asg he hg hs hw h1) (asg_of hφ)
theorem xset {i : Nat} {x : Str} {e : Expr} {f : EF} {pos pos' : Pos} (hN : X.N.Nodup) (he : PE X e (tX X.K W f)) (hi : X.N[i]? = some x := by rfl) (hx : Loc X.env.scope x := by first | exact Or.inl rfl | exact Or.inr rfl) (hs : swapsWith e (some (.Name x pos')) pos.line X.env = pure false := by rfl)
    (hf : X.fn x = true ∨ X.env.scope.names.lookup x = some .local := by first | exact .inl rfl | exact .inr rfl | assumption) : PS X (.Assign [.Name x pos'] e pos) (tS X.K W (asgS f (asgn i))) :=
  psTo (ps_set hN hi hx he hs hf) fun D σ H ⟨h, ρ, e, R, q⟩ => by
    subst e
    refine tX_mk R (q.then fun r v h' _ R' g' ok q' => ?_)
    cases e1 : asgn i r ρ with
    | bad => rw [e1] at q'; exact q'.elim
    | exc c p => exact absurd e1 (asgn_ne _ _ _ _)
    | ok ρ' =>
      rw [e1] at q'
      exact q' _ h' (asgn_ok R R' ok e1) g'.sg
/-- y = [.. for ..] -/
theorem xsetLc {elt tg iter : Expr} {ifs : List Expr} {scope : Scope} {own : List (Str × Nat)} {pos spos py : Pos} {it : IF} {φ : TF} {t : Env → Er Bool} {e : EF} {i : Nat} {y : Str} (hc : X.calm = true) (hN : X.N.Nodup) (hφ : ∀ r ρ c p, φ r ρ ≠ .exc c p) (hi : PI X tg iter (tI Gr X.K W it)) (ok : BlkOk X.N X.env.scope scope own) (hg : BlkG X scope tg (tG X.K (own.map (·.2)) φ)) (ht : BlkT X scope ifs (tXt X.K WN t)) (he : BlkE X scope elt (tX X.K WN e))
    (hsw : swapsWith (.ListComp elt [⟨tg, iter, ifs, 0⟩] scope pos) (some (.Name y py)) spos.line X.env = pure true) (hy : X.N[i]? = some y := by rfl) (hyl : X.env.scope.names.lookup y = some .local := by rfl)
    (hs : ∀ x, foldedSetIterable iter X.env x = pure x := by intro _; rfl) : PS X (.Assign [.Name y py] (.ListComp elt [⟨tg, iter, ifs, 0⟩] scope pos) spos) (tS X.K W (asgS (lcF it φ (own.map (·.2)) t e) (asgn i))) :=
  psTo (xsetLcT hc hN hy hyl hsw hφ hi ok hg ht he hs) fun D σ H ⟨h, ρ, e, R, q⟩ => by
    subst e
    refine tX_mk R (q.then fun r v h' _ R' g' ok q' => ?_)
    cases e1 : asgn i r ρ with
    | bad => rw [e1] at q'; exact q'.elim
    | exc c p => exact absurd e1 (asgn_ne _ _ _ _)
    | ok ρ' =>
      rw [e1] at q'
      exact q' _ h' (asgn_ok R R' ok e1) g'.sg
/-- return e -/
def retR (r : Rv) : Res := match r with
  | .v d => .ret (.v d)
  | .b d => .ret (.b d)
  | .o xs => .ret (.o xs)
  | .ok kvs => .ret (.ok kvs)
  | .r d => if flatD d = true then .ret (.v d) else .bad
  | _ => .bad
def retS (f : EF) : SF := fun ρ => thenS ρ (f ρ) retR
theorem ret_of {r : Rv} {v : V} {h' : Hs} (q : Post K W D h (retR r)) (c : Ch h') (g : SG h h') (H0 : Hp) (ok : RvOk K H0 h' v r) : D.rt v h'.H := by
  unfold retR at q
  split at q
  · exact q v h' c g ok
  · exact q v h' c g ok
  · obtain ⟨l, vs, e, _, a, b, d⟩ := ok
    exact q v h' c g ⟨l, vs, e, a, b, d⟩
  · obtain ⟨l, vs, e, _, a, b, d⟩ := ok
    exact q v h' c g ⟨l, vs, e, a, b, d⟩
  · split at q
    · exact q v h' c g (dp_flatG (by assumption) ok)
    · exact q.elim
  · exact q.elim
theorem xret {e : Expr} {f : EF} {pos : Pos} (he : PE X e (tX X.K W f)) : PS X (.Return (some e) pos) (tS X.K W (retS f)) := psTo (ps_ret he) fun D σ H ⟨h, ρ, e, R, q⟩ => by
  subst e
  exact tX_mk R (q.then fun r v h' _ R' g' ok q' => ret_of q' R'.ch g'.sg _ ok)
def retVar (i : Nat) : SF := fun ρ => match slot ρ i with
  | .v d => .ret (.v d)
  | .b d => .ret (.b d)
  | .o xs => .ret (.o xs)
  | .k kvs => .ret (.ok kvs)
  | .y xss => .ret (.y xss)
  | _ => .bad
theorem xretv (i : Nat) {x : Str} {pos p2 : Pos} (hN : X.N[i]? = some x := by rfl) (hv : Vis X.env.scope x := by first | exact Or.inl rfl | exact Or.inr (Or.inl rfl) | exact Or.inr (Or.inr rfl)) (hd : (x == ("__debug__" : Str)) = false := by decide)
    (hcd : (x == ("__classdict__" : Str)) = false := by decide) : PS X (.Return (some (.Name x pos)) p2) (tS X.K W (retVar i)) := psTo (ps_ret (pe_var hN hv hd hcd)) fun D σ H ⟨h, ρ, e, R, q⟩ => by
  subst e
  unfold retVar at q
  split at q
  · rename_i d es
    obtain ⟨x, ex, v, rfl, ok⟩ := R.get (slot_some es (by intro z; cases z))
    exact ⟨v, ex, q v h R.ch (SG.refl h) ok⟩
  · rename_i d es
    obtain ⟨x, ex, v, rfl, ok⟩ := R.get (slot_some es (by intro z; cases z))
    exact ⟨v, ex, q v h R.ch (SG.refl h) ok⟩
  · rename_i d es
    obtain ⟨x, ex, l, vs, rfl, a, b, c⟩ := R.get (slot_some es (by intro z; cases z))
    exact ⟨_, ex, q _ h R.ch (SG.refl h) ⟨l, vs, rfl, a, b, c⟩⟩
  · rename_i d es
    obtain ⟨x, ex, l, vs, rfl, a, b, c⟩ := R.get (slot_some es (by intro z; cases z))
    exact ⟨_, ex, q _ h R.ch (SG.refl h) ⟨l, vs, rfl, a, b, c⟩⟩
  · rename_i d es
    obtain ⟨x, ex, l, vs, rfl, a, b, c⟩ := R.get (slot_some es (by intro z; cases z))
    exact ⟨_, ex, q _ h R.ch (SG.refl h) ⟨l, vs, rfl, a, b, c⟩⟩
  · exact q.elim
/-- if -/
def ifS (t : Env → Er Bool) (f g : SF) : SF := fun ρ => thenT ρ (t ρ) fun b => if b = true then f ρ else g ρ
theorem xifs {c : Expr} {a b : List Stmt} {t : Env → Er Bool} {f g : SF} {pos : Pos} (hc : PT X c (tXt X.K W t)) (ha : PSs X a (tS X.K W f)) (hb : PSs X b (tS X.K W g)) : PS X (.If c a b pos) (tS X.K W (ifS t f g)) := psTo (ps_if hc ha hb) fun D σ H ⟨h, ρ, e, R, q⟩ => by
  subst e
  refine tXt_mk R (q.thenT fun r h' _ R' g' q' => ?_)
  cases r with
  | true =>
    rw [if_pos rfl] at q' ⊢
    exact tS_mk R' q'
  | false =>
    rw [if_neg (by decide)] at q' ⊢
    exact tS_mk R' q'
/-- for -/
def forL (φ : TF) (f : SF) : List Rv → SF
  | [], ρ => .next ρ
  | r :: rs, ρ => match φ r ρ with
    | .ok ρ1 => match f ρ1 with
      | .next ρ' => forL φ f rs ρ'
      | .cont ρ' => forL φ f rs ρ'
      | .brk ρ' => .next ρ'
      | x => x
    | _ => .bad
def thenI (ρ : Env) (e : Er (List Rv)) (k : List Rv → Res) : Res := match e with
  | .ok r => k r
  | .exc c p => .exc c p ρ
  | .bad => .bad
def forS (it : IF) (φ : TF) (f : SF) : SF := fun ρ => thenI ρ (it ρ) fun rs => forL φ f rs ρ
theorem xfor {iter tg : Expr} {body : List Stmt} {it : IF} {φ : TF} {fp : List Nat} {f : SF} {pos : Pos} (hp : PassesOwn (model X.prog X.w) X.A X.env X.xe) (hc : X.calm = true) (hi : PI X tg iter (tI SG X.K W it)) (hg : PG X tg (tG X.K fp φ)) (hb : PSs X body (tS X.K W f))
    (hs : ∀ x, foldedSetIterable iter X.env x = pure x := by intro _; rfl) : PS X (.For tg iter body [] pos) (tS X.K W (forS it φ f)) := psTo (ps_for hp hc hi hg hb hs) fun D σ H ⟨h, ρ, e, R, q⟩ => by
  subst e
  refine ⟨h, ρ, rfl, R, ?_⟩
  unfold forS at q
  cases ei : it ρ with
  | bad => rw [ei] at q; exact q
  | exc c p =>
    rw [ei] at q
    exact fun h' R' g' => q σ h' R' g'.sg
  | ok rs =>
    rw [ei] at q
    have q : Post X.K W D h (forL φ f rs ρ) := q
    intro J h1 R1 g1 iok
    refine ⟨fun i m σ' H' => m = rs.length - i ∧ i ≤ rs.length ∧ ∃ h' ρ', h'.H = H' ∧ Rel X.K h' ρ' σ' ∧ SG h1 h' ∧ Post X.K W D h' (forL φ f (rs.drop i) ρ'), ⟨rs.length, by omega, Nat.zero_le _, h1, ρ, rfl, R1, SG.refl _, Post.shift g1.sg q⟩, ?_⟩
    rintro i m σ' H' ⟨em, hi, h2, ρ2, rfl, R2, g2, q2⟩
    by_cases hlt : i < rs.length
    · refine .inr ⟨iok.go i h2 g2 R2.ch hlt, fun σ3 H3 => ∃ h' ρ', h'.H = H3 ∧ Rel X.K h' ρ' σ3 ∧ SG h1 h' ∧ Post X.K W D h' (forL φ f (rs.drop (i + 1)) ρ'), fun σ3 H3 n => ⟨_, by omega, rfl, hlt, n⟩, fun x H3 y => ?_⟩
      obtain ⟨h3, r, rfl, g3, c3, er, okr⟩ := iok.yld i h2 x H3 g2 R2.ch hlt y
      have edrop : rs.drop i = r :: rs.drop (i + 1) := by
        obtain ⟨hh, e2⟩ := List.getElem?_eq_some_iff.mp er
        rw [List.drop_eq_getElem_cons hh, e2]
      rw [edrop] at q2
      unfold forL at q2
      have R3 : Rel X.K h3 ρ2 σ' := R2.grow g3 c3
      cases e1 : φ r ρ2 with
      | bad => rw [e1] at q2; exact q2.elim
      | exc c p => rw [e1] at q2; exact q2.elim
      | ok ρ4 =>
        rw [e1] at q2
        dsimp only at q2
        refine ⟨h3, h3, ρ2, r, ρ4, rfl, R3, R3, okr.rv, e1, fun σ4 R4 _ => tS_mk R4 ?_⟩
        have q3 := Post.shift g3.sg q2
        cases ef : f ρ4 with
        | next ρ5 =>
          rw [ef] at q3
          exact fun σ5 h5 R5 g5 => ⟨h5, ρ5, rfl, R5, (g2.trans g3.sg).trans g5, Post.shift g5 q3⟩
        | cont ρ5 =>
          rw [ef] at q3
          exact fun σ5 h5 R5 g5 => ⟨h5, ρ5, rfl, R5, (g2.trans g3.sg).trans g5, Post.shift g5 q3⟩
        | brk ρ5 =>
          rw [ef] at q3
          exact fun σ5 h5 R5 g5 => q3 σ5 h5 R5 g5
        | ret r =>
          rw [ef] at q3
          exact q3
        | exc c p ρ5 =>
          rw [ef] at q3
          exact q3
        | bad =>
          rw [ef] at q3
          exact q3
    · have hi' : i = rs.length := by omega
      subst hi'
      rw [List.drop_length] at q2
      exact .inl ⟨iok.stop _ h2 g2 R2.ch (Nat.le_refl _), q2 σ' h2 R2 (SG.refl _)⟩
/-- while -/
def whileN (t : Env → Er Bool) (f : SF) : Nat → SF
  | 0, _ => .bad
  | n + 1, ρ => thenT ρ (t ρ) fun b => if b = true then (match f ρ with
      | .next ρ' => whileN t f n ρ'
      | .cont ρ' => whileN t f n ρ'
      | .brk ρ' => .next ρ'
      | x => x) else .next ρ
def whileS (t : Env → Er Bool) (f : SF) : SF := whileN t f 1000000
theorem xwhile {c : Expr} {body : List Stmt} {t : Env → Er Bool} {f : SF} {pos : Pos} (hp : PassesOwn (model X.prog X.w) X.A X.env X.xe) (hc : PT X c (tXt X.K W t)) (hb : PSs X body (tS X.K W f)) : PS X (.While c body [] pos) (tS X.K W (whileS t f)) := psTo (ps_while hp hc hb) fun D σ H ⟨h, ρ, e, R, q⟩ => by
  subst e
  refine ⟨fun m σ' H' => ∃ h' ρ', h'.H = H' ∧ Rel X.K h' ρ' σ' ∧ Post X.K W D h' (whileN t f m ρ'), ⟨1000000, h, ρ, rfl, R, q⟩, ?_⟩
  rintro m σ' H' ⟨h2, ρ2, rfl, R2, q2⟩
  cases m with
  | zero => exact q2.elim
  | succ m =>
    unfold whileN at q2
    refine tXt_mk R2 (q2.thenT fun r h3 _ R3 g3 q3 => ?_)
    cases r with
    | false =>
      rw [if_neg (by decide)] at q3 ⊢
      exact q3 σ' h3 R3 (SG.refl _)
    | true =>
      rw [if_pos rfl] at q3 ⊢
      refine ⟨fun σ3 H3 => ∃ h' ρ', h'.H = H3 ∧ Rel X.K h' ρ' σ3 ∧ Post X.K W D h' (whileN t f m ρ'), fun σ3 H3 n => ⟨m, Nat.lt_succ_self m, n⟩, tS_mk R3 ?_⟩
      cases ef : f ρ2 with
      | next ρ5 =>
        rw [ef] at q3
        exact fun σ5 h5 R5 g5 => ⟨h5, ρ5, rfl, R5, Post.shift g5 q3⟩
      | cont ρ5 =>
        rw [ef] at q3
        exact fun σ5 h5 R5 g5 => ⟨h5, ρ5, rfl, R5, Post.shift g5 q3⟩
      | brk ρ5 =>
        rw [ef] at q3
        exact fun σ5 h5 R5 g5 => q3 σ5 h5 R5 g5
      | ret r =>
        rw [ef] at q3
        exact q3
      | exc c p ρ5 =>
        rw [ef] at q3
        exact q3
      | bad =>
        rw [ef] at q3
        exact q3
end
end Sq

/-! Defs and their calls; own lists changed. -/
namespace Sq
open PySem PySem.Spec PyProof.Rows L2
inductive Fr where
  | ret (r : Rv)
  | exc (c : Str) (p : Option (Str × D))
  | bad
def fnR (f : SF) (n : Nat) (as : List Sl) : Fr := match f (as ++ List.replicate (n - as.length) .u) with
  | .ret r => .ret r
  | .next _ => .ret (.v .none)
  | .exc c p _ => .exc c p
  | _ => .bad
/-- classes by their names -/
def cmOf (mg : Str → Option Value) (c : Str) : Addr := match mg c with
  | some (.ref a) => a
  | _ => 0
theorem cmOf_eq {mg : Str → Option Value} {c : Str} {a : Addr} (h : mg c = some (.ref a)) : cmOf mg c = a := by
  unfold cmOf
  rw [h]
def WFx (K : PySem.W.Frag) (cm : Str → Addr) (Wx : WX) : WF := fun c p σ h => match p with
  | none => Wx (.ref (cm c)) none σ h.H
  | some (f, x) => ∀ d v, h.H d = some (.xd [(f, v)]) → Dp K h.G v x → Wx (.ref (cm c)) (some d) σ h.H
def ArgsOk (K : PySem.W.Frag) (G H : Hp) : List V → List Sl → Prop
  | [], [] => True
  | v :: vs, .v d :: as => Dp K G v d ∧ ArgsOk K G H vs as
  | v :: vs, .b d :: as => Dp K H v d ∧ ArgsOk K G H vs as
  | _, _ => False
def RtOk (K : PySem.W.Frag) (H G' H' : Hp) (v : V) : Rv → Prop
  | .v d => Dp K G' v d
  | .b d => Dp K H' v d
  | .o xs => ∃ l vs, v = .ref l ∧ H l = none ∧ H' l = some (.lst vs) ∧ G' l = none ∧ DpAll K G' vs xs
  | .ok kvs => ∃ l vs, v = .ref l ∧ H l = none ∧ H' l = some (.dK vs) ∧ G' l = none ∧ KvD K G' vs kvs
  | .y xss => ∃ l ms, v = .ref l ∧ H l = none ∧ H' l = some (.lst (refsOf ms)) ∧ G' l = none ∧ Ys K H' G' ms xss
  | .p2 xs ys => ∃ t l m vs ws, v = .ref t ∧ H' t = some (.tup [.ref l, .ref m]) ∧ l ≠ m ∧ (H l = none ∧ H' l = some (.lst vs) ∧ G' l = none ∧ DpAll K G' vs xs) ∧ (H m = none ∧ H' m = some (.lst ws) ∧ G' m = none ∧ DpAll K G' ws ys)
  | _ => False
structure CG (G H G' H' : Hp) : Prop where
  g : Ex G G'
  h : Ex H H'
  c : Ex G' H'
  n : ∀ a o, G' a = some o → G a = none → H a = none
/-- a def's promise: what the pure function g says -/
def fsp (K : PySem.W.Frag) (cm : Str → Addr) (n : Nat) (g : List Sl → Fr) : Sp := fun vs H Q E => vs.length = n ∧ ∃ (G : Hp) (as : List Sl), Ex G H ∧ ArgsOk K G H vs as ∧ match g as with
  | .ret r => ∀ v G' H', CG G H G' H' → RtOk K H G' H' v r → Q v H'
  | .exc c none => ∀ G' H', CG G H G' H' → E (.ref (cm c)) none H'
  | .exc c (some (f, x)) => ∀ G' H' d v, CG G H G' H' → H' d = some (.xd [(f, v)]) → Dp K G' v x → E (.ref (cm c)) (some d) H'
  | .bad => False
section
variable {P : Program} {w : World} {K : PySem.W.Frag} {mg : Str → Option Value} {base : Heap}
theorem ArgsOk.len {G H : Hp} : ∀ {vs : List V} {as : List Sl}, ArgsOk K G H vs as → vs.length = as.length
  | [], [], _ => rfl
  | _ :: _, .v _ :: _, q => congrArg (· + 1) (ArgsOk.len q.2)
  | _ :: _, .b _ :: _, q => congrArg (· + 1) (ArgsOk.len q.2)
  | [], _ :: _, q => q.elim
  | _ :: _, [], q => q.elim
  | _ :: _, .u :: _, q => q.elim
  | _ :: _, .o _ :: _, q => q.elim
  | _ :: _, .k _ :: _, q => q.elim
  | _ :: _, .t _ :: _, q => q.elim
theorem ArgsOk.get {G H : Hp} : ∀ {vs : List V} {as : List Sl} {i : Nat} {s : Sl}, ArgsOk K G H vs as → as[i]? = some s → ∃ v, vs[i]? = some v ∧ ((∃ d, s = .v d ∧ Dp K G v d) ∨ ∃ d, s = .b d ∧ Dp K H v d)
  | v :: vs, .v d :: as, 0, s, q, e => by
    cases e
    exact ⟨v, rfl, .inl ⟨d, rfl, q.1⟩⟩
  | v :: vs, .b d :: as, 0, s, q, e => by
    cases e
    exact ⟨v, rfl, .inr ⟨d, rfl, q.1⟩⟩
  | _ :: _, .v _ :: as, i + 1, s, q, e => ArgsOk.get (i := i) q.2 (by simpa using e)
  | _ :: _, .b _ :: as, i + 1, s, q, e => ArgsOk.get (i := i) q.2 (by simpa using e)
  | [], [], _, _, _, e => by simp at e
  | [], _ :: _, _, _, q, _ => q.elim
  | _ :: _, [], _, _, q, _ => q.elim
  | _ :: _, .u :: _, _, _, q, _ => q.elim
  | _ :: _, .o _ :: _, _, _, q, _ => q.elim
  | _ :: _, .k _ :: _, _, _, q, _ => q.elim
  | _ :: _, .t _ :: _, _, _, q, _ => q.elim
theorem rel_start {N : List Str} {G H : Hp} {vs : List V} {as : List Sl} (c : Ex G H) (ok : ArgsOk K G H vs as) (hl : vs.length ≤ N.length) : Rel K ⟨G, H, H⟩ (as ++ List.replicate (N.length - as.length) .u) (L2.start N vs) := by
  have el := ok.len
  have cases_at : ∀ {i : Nat} {s : Sl}, (as ++ List.replicate (N.length - as.length) Sl.u)[i]? = some s → as[i]? = some s ∨ s = .u := fun {i s} e => by
    rw [List.getElem?_append] at e
    split at e
    · exact .inl e
    · rw [List.getElem?_replicate] at e
      split at e
      · cases e; exact .inr rfl
      · cases e
  refine ⟨⟨c, Ex.refl H⟩, ?_, fun i s x e1 e2 => ?_, fun i j s t l m hij e1 e2 o1 o2 _ _ => ?_⟩
  · unfold L2.start
    simp [el]
  · rcases cases_at e1 with e | e
    · obtain ⟨v, ev, q⟩ := ok.get e
      have ex : x = some v := by
        unfold L2.start at e2
        have hi : i < vs.length := (List.getElem?_eq_some_iff.mp ev).1
        rw [List.getElem?_append_left (by simpa using hi), List.getElem?_map, ev] at e2
        cases e2
        rfl
      rcases q with ⟨d, rfl, q⟩ | ⟨d, rfl, q⟩
      · exact ⟨v, ex, q⟩
      · exact ⟨v, ex, q⟩
    · subst e
      trivial
  · exfalso
    rcases cases_at e1 with e | e
    · obtain ⟨v, ev, q⟩ := ok.get e
      rcases q with ⟨d, rfl, q⟩ | ⟨d, rfl, q⟩ <;> cases o1
    · subst e
      cases o1
theorem cg_of {G H : Hp} {h' : Hs} (c : Ch h') (g : SG ⟨G, H, H⟩ h') : CG G H h'.G h'.H := ⟨g.g, g.f.trans c.fh, c.gh, g.gn⟩
abbrev bodyCx (P : Program) (w : World) (K : PySem.W.Frag) (mg : Str → Option Value) (base : Heap) (N : List Str) (qual : Str) (st : Stmt) (f : Addr) (cdv : Value) (A : Around) (outer : List PySem.Env) (s : Shared) (H : Hp) (E : XK) : Cx := cxOf (L2.CX P w) P w K mg base N qual (defScope st) f cdv A outer s H E
/-- THE RULE for a def -/
theorem fn_ok {cm : Str → Addr} {x qual : Str} {st : Stmt} {f : Addr} {fd : FuncData} {N ps : List Str} {k : Nat} {bf : SF} (F : Fun K x qual st f fd) (S : FnScope N ps (defScope st)) (hps : ps.length ≤ N.length)
    (body : ∀ (cdv : Value) (A : Around) (outer : List PySem.Env) (s : Shared) (H : Hp) (E : XK), Room k (A.deeper (envOfC qual (defScope st) s.heap.objs.size f cdv)) →
      PSs (bodyCx P w K mg base N qual st f cdv A outer s H E) (defBody st) (tS K (WFx K cm fun cls d _ H => E cls d H) bf)) :
    FnOk P w K mg base (L2.CX P w) (k + 1) f fd ps (fsp K cm ps.length (fnR bf N.length)) := by
  refine F.okX S (fun vs H Q E h => h.1) fun cdv A outer s H vs Q E hr h => ⟨_, body cdv A outer s H E hr, ?_⟩
  obtain ⟨hl, G, as, c, ok, q⟩ := h
  have R := rel_start (N := N) c ok (by omega)
  refine ⟨⟨G, H, H⟩, _, rfl, R, ?_⟩
  unfold fnR at q
  cases e : bf (as ++ List.replicate (N.length - as.length) .u) with
  | bad => rw [e] at q; exact q.elim
  | brk _ => rw [e] at q; exact q.elim
  | cont _ => rw [e] at q; exact q.elim
  | next ρ' =>
    rw [e] at q
    exact fun σ' h' R' g' => q .non h'.G h'.H (cg_of R'.ch g') .non
  | ret r =>
    rw [e] at q
    intro v h' c' g' ok'
    refine q v h'.G h'.H (cg_of c' g') ?_
    cases r with
    | v d => exact ok'
    | b d => exact ex_dp c'.fh ok'
    | o xs =>
      obtain ⟨l, vs, ev, a, b, d⟩ := ok'
      exact ⟨l, vs, ev, g'.f.back b, a, c'.gf.back b, d⟩
    | ok xs =>
      obtain ⟨l, vs, ev, a, b, d⟩ := ok'
      exact ⟨l, vs, ev, g'.f.back b, a, c'.gf.back b, d⟩
    | p2 xs ys =>
      obtain ⟨t, l, m, vs, ws, ev, ht, ne, ⟨a, b, d⟩, ⟨a2, b2, d2⟩⟩ := ok'
      exact ⟨t, l, m, vs, ws, ev, ht, ne, ⟨g'.f.back b, a, c'.gf.back b, d⟩, ⟨g'.f.back b2, a2, c'.gf.back b2, d2⟩⟩
    | y xss =>
      obtain ⟨l, ms, ev, a, b, d⟩ := ok'
      exact ⟨l, ms, ev, g'.f.back b, a, c'.gf.back b, Paired.mapP d fun m xs ⟨vs, x, y, z⟩ => ⟨vs, c'.fh _ _ x, y, z⟩⟩
    | _ => exact ok'.elim
  | exc cc p ρ' =>
    rw [e] at q
    intro σ' h' R' g'
    cases p with
    | none => exact q h'.G h'.H (cg_of R'.ch g')
    | some p =>
      obtain ⟨ff, xx⟩ := p
      exact fun d v hd hv => q h'.G h'.H d v (cg_of R'.ch g') hd hv
end

/-! ### calls -/
section
variable {X : Cx} {W : WF} {cm : Str → Addr}
/-- what is let out is taken -/
def Tk (X : Cx) (cm : Str → Addr) (W : WF) : Prop := ∃ Wx : WX, Takes X Wx ∧ ∀ c p σ h, W c p σ h → WFx X.K cm Wx c p σ h
theorem tkN : Tk X cm WN := ⟨fun _ _ _ _ => False, takes0, fun _ _ _ _ z => z.elim⟩
theorem tkOf {Wx : WX} (t : Takes X Wx) : Tk X cm (WFx X.K cm Wx) := ⟨Wx, t, fun _ _ _ _ z => z⟩
def Rv.sl : Rv → Sl
  | .v d => .v d
  | .b d => .b d
  | .r d => .b d
  | _ => .u
def Fr.rv : Fr → Er Rv
  | .ret (.v d) => .ok (.v d)
  | .ret (.b d) => .ok (.r d)
  | .ret (.o xs) => .ok (.o xs)
  | .ret (.ok xs) => .ok (.ok xs)
  | .ret (.p2 xs ys) => .ok (.p2 xs ys)
  | .ret _ => .bad
  | .exc c p => .exc c p
  | .bad => .bad
def callF (g : List Sl → Fr) (r : AF) : EF := fun ρ => (r ρ).bind fun rs => (g (rs.map Rv.sl)).rv
theorem args_of {K : PySem.W.Frag} {h : Hs} (c : Ch h) : ∀ {vs : List V} {rs : List Rv}, RvsOk K h vs rs → ArgsOk K h.G h.H vs (rs.map Rv.sl)
  | [], [], _ => trivial
  | _ :: _, .v _ :: _, q => ⟨q.1, args_of c q.2⟩
  | _ :: _, .b _ :: _, q => ⟨ex_dp c.fh q.1, args_of c q.2⟩
  | _ :: _, .r _ :: _, q => ⟨q.1, args_of c q.2⟩
  | [], _ :: _, q => q.elim
  | _ :: _, [], q => q.elim
  | _ :: _, .w _ :: _, q => q.1.elim
  | _ :: _, .o _ :: _, q => q.1.elim
  | _ :: _, .wk _ :: _, q => q.1.elim
  | _ :: _, .ok _ :: _, q => q.1.elim
  | _ :: _, .wt _ :: _, q => q.1.elim
  | _ :: _, .ot _ :: _, q => q.1.elim
  | _ :: _, .p2 _ _ :: _, q => q.1.elim
/-- behind a call: the caller's heaps -/
def Hs.call (h : Hs) (G' H' : Hp) : Hs := ⟨G', fun a => match h.F a with | some o => some o | none => G' a, H'⟩
theorem call_gr {h : Hs} (c : Ch h) {G' H' : Hp} (g : CG h.G h.H G' H') : Gr h (h.call G' H') ∧ Ch (h.call G' H') := by
  have gf : Ex G' (h.call G' H').F := fun a o e => by
    show (match h.F a with | some o => some o | none => G' a) = some o
    cases q : h.F a with
    | none => exact e
    | some u =>
      cases z : h.G a with
      | none =>
        have := g.n a o e z
        rw [c.fh a u q] at this
        cases this
      | some t =>
        have e1 := g.g a t z
        rw [e] at e1
        cases e1
        have e2 := c.gf a _ z
        rw [q] at e2
        exact e2
  have ff : Ex h.F (h.call G' H').F := fun a o e => by
    show (match h.F a with | some o => some o | none => G' a) = some o
    rw [e]
  refine ⟨⟨g.g, ff, g.h, fun a o e z => ?_, fun a o e z => ?_⟩, ⟨gf, fun a o e => ?_⟩⟩
  · exact c.fh.back (g.n a o e z)
  · have e' : (match h.F a with | some o => some o | none => G' a) = some o := e
    rw [z] at e'
    exact g.n a o e' (c.gf.back z)
  · have e' : (match h.F a with | some o => some o | none => G' a) = some o := e
    cases q : h.F a with
    | none =>
      rw [q] at e'
      exact g.c a o e'
    | some u =>
      rw [q] at e'
      cases e'
      exact g.h a _ (c.fh a _ q)
theorem xcall {k : Nat} {f : Addr} {fd : FuncData} {ps : List Str} {g : List Sl → Fr} {x : Str} {p pos : Pos} {e : Expr} {es : List Expr} {r : AF} (tk : Tk X cm W) (F : FnOk X.prog X.w X.K X.mg X.base (L2.CX X.prog X.w) k f fd ps (fsp X.K cm ps.length g)) (hr : Room k X.A) (hg : Gl X x) (hm : X.mg x = some (.ref f)) (hk : PySem.W.keepIn X.K (.ref f) = true) (hb : Binds X.K fd ps [])
    (hlen : ps.length = (e :: es).length) (ha : PA X (e :: es) (tXa X.K W r)) (hrl : ∀ ρ rs, r ρ = .ok rs → rs.length = (e :: es).length) (hdb : (x == ("__debug__" : Str)) = false := by decide) (he : starEach (e :: es) X.env = (false, eval e X.env) :: starEach es X.env := by rfl) (hpl : (backTo pos (starEach es X.env)).any (·.1) = false := by rfl) :
    PE X (.Call (.Name x p) (e :: es) [] pos) (tX X.K W (callF g r)) := by
  obtain ⟨Wx, tk, hW⟩ := tk
  refine peTo (pe_callS F hr hg hm hk hb (E := WE Wx) (fun σ => passAt tk σ) ha hdb he hpl) fun σ H Q q => ?_
  obtain ⟨h, ρ, rfl, R, q⟩ := tX_iff.mp q
  refine ⟨h, ρ, rfl, R, PE1.bindA q fun rs vs h1 er R1 g1 ok1 q1 => ?_⟩
  refine ⟨by rw [ok1.len, hrl ρ rs er, hlen], h1.G, rs.map Rv.sl, R1.ch.gh, args_of R1.ch ok1, ?_⟩
  cases eg : g (rs.map Rv.sl) with
  | bad => rw [eg] at q1; exact q1.elim
  | exc c p =>
    rw [eg] at q1
    cases p with
    | none =>
      intro G' H' cg
      obtain ⟨gr, ch⟩ := call_gr R1.ch cg
      exact hW _ _ _ _ (q1 (h1.call G' H') (R1.grow gr ch) gr)
    | some p =>
      obtain ⟨ff, xx⟩ := p
      intro G' H' d v cg hd hv
      obtain ⟨gr, ch⟩ := call_gr R1.ch cg
      exact hW _ _ _ _ (q1 (h1.call G' H') (R1.grow gr ch) gr) d v hd hv
  | ret res =>
    rw [eg] at q1
    intro v G' H' cg ok'
    obtain ⟨gr, ch⟩ := call_gr R1.ch cg
    have R2 := R1.grow gr ch
    cases res with
    | v d => exact q1 v (h1.call G' H') R2 gr ok'
    | b d => exact q1 v (h1.call G' H') R2 gr ok'
    | o xs =>
      obtain ⟨l, ws, ev, n, a, b, d⟩ := ok'
      refine q1 v (h1.call G' H') R2 gr ⟨l, ws, ev, n, a, ?_, d⟩
      show (match h1.F l with | some o => some o | none => G' l) = none
      rw [R1.ch.fh.back n]
      exact b
    | ok xs =>
      obtain ⟨l, ws, ev, n, a, b, d⟩ := ok'
      refine q1 v (h1.call G' H') R2 gr ⟨l, ws, ev, n, a, ?_, d⟩
      show (match h1.F l with | some o => some o | none => G' l) = none
      rw [R1.ch.fh.back n]
      exact b
    | p2 xs ys =>
      obtain ⟨t, l, m, vs', ws, ev, ht, ne, ⟨n, a, b, d⟩, ⟨n2, a2, b2, d2⟩⟩ := ok'
      refine q1 v (h1.call G' H') R2 gr ⟨t, l, m, vs', ws, ev, ht, ne, ⟨n, a, ?_, d⟩, ⟨n2, a2, ?_, d2⟩⟩
      · show (match h1.F l with | some o => some o | none => G' l) = none
        rw [R1.ch.fh.back n]
        exact b
      · show (match h1.F m with | some o => some o | none => G' m) = none
        rw [R1.ch.fh.back n2]
        exact b2
    | _ => exact q1.elim
/-! ### raise -/
def excS (c : Str) : SF := fun ρ => .exc c none ρ
theorem xraise {c m : Str} {j : Nat} {p p2 pos pos2 : Pos} {bmB : List Value} {B newId initId : String} (tk : Tk X cm W) (hc : X.calm = true) (F : ExcBaseFacts B newId initId bmB) (q : PySem.W.excIn X.K (cm c) bmB newId = true) (gC : X.mg c = some (.ref (cm c))) (kC : PySem.W.keepIn X.K (.ref (cm c)) = true) (r : Raises X (.ref (cm c))) (hg : Gl X c)
    (hdb : (c == ("__debug__" : Str)) = false := by decide) : PS X (.Raise (some (.Call (.Name c p) [.Constant (.str m) j p2] [] pos)) none pos2) (tS X.K W (excS c)) := by
  obtain ⟨Wx, tk, hW⟩ := tk
  refine psTo (ps_raise hc tk (pmk_own F q gC kC r hg hdb)) fun D σ H ⟨h, ρ, e, R, q⟩ => ?_
  subst e
  exact hW _ _ _ _ (q σ h R (SG.refl h))

/-! ### own lists changed -/
/-- the own object of a slot is another one -/
theorem Rel.mut {K : PySem.W.Frag} {h : Hs} {ρ : Env} {σ : L2.St} (R : Rel K h ρ σ) {i : Nat} {s s' : Sl} {l : Addr} {o : HO} (e : ρ[i]? = some s) (os : s.own = true) (os' : s'.own = true) (el : σ[i]? = some (some (.ref l))) (ok : SlOk K ⟨h.G, h.F, upd h.H l o⟩ (some (.ref l)) s') :
    Rel K ⟨h.G, h.F, upd h.H l o⟩ (ρ.set i s') σ ∧ SG h ⟨h.G, h.F, upd h.H l o⟩ := by
  obtain ⟨_, fl⟩ := R.ownH e os el
  have hi : i < ρ.length := (List.getElem?_eq_some_iff.mp e).1
  refine ⟨⟨⟨R.ch.gf, Ex.mut R.ch.fh fl⟩, by simp [R.len], fun j t x e1 e2 => ?_, fun j k t u m n hjk e1 e2 o1 o2 e3 e4 => ?_⟩, ⟨Ex.refl _, Ex.refl _, fun a u e1 e2 => no_sm (show h.G a = some u from e1) e2⟩⟩
  · by_cases hj : i = j
    · subst hj
      rw [List.getElem?_set] at e1
      simp only [if_true, hi] at e1
      cases e1
      rw [el] at e2
      cases e2
      exact ok
    · rw [List.getElem?_set_ne hj] at e1
      have q := R.at_ j t x e1 e2
      have hm : ∀ m, t.own = true → x = some (.ref m) → m ≠ l := fun m ot z => by
        subst z
        exact Ne.symm (R.dis i j s t l m hj e e1 os ot el e2)
      cases t with
      | u => trivial
      | x a => exact q
      | v d => exact q
      | b d => exact q
      | o ys =>
        obtain ⟨m, ws, z, a, b, d⟩ := q
        exact ⟨m, ws, z, (upd_ne (hm m rfl z)).trans a, b, d⟩
      | k ys =>
        obtain ⟨m, ws, z, a, b, d⟩ := q
        exact ⟨m, ws, z, (upd_ne (hm m rfl z)).trans a, b, d⟩
      | t ys =>
        obtain ⟨m, ws, z, a, b, d⟩ := q
        exact ⟨m, ws, z, (upd_ne (hm m rfl z)).trans a, b, d⟩
      | i c ys =>
        obtain ⟨m, ws, dx, z, a, b, d⟩ := q
        exact ⟨m, ws, dx, z, (upd_ne (hm m rfl z)).trans a, b, d⟩
      | j m c ys =>
        obtain ⟨ws, dx, z, a, b, d⟩ := q
        exact ⟨ws, dx, z, (upd_ne (hm m rfl z)).trans a, b, d⟩
      | y ys =>
        obtain ⟨m, ws, z, a, b, d⟩ := q
        exact ⟨m, ws, z, (upd_ne (hm m rfl z)).trans a, b, d⟩
      | z m ys => exact q
      | e ys => exact q
  · have fix : ∀ {j : Nat} {t : Sl} {m : Addr}, (ρ.set i s')[j]? = some t → t.own = true → σ[j]? = some (some (.ref m)) → ∃ t', ρ[j]? = some t' ∧ t'.own = true := fun {j t m} e1 o1 e3 => by
      by_cases hj : i = j
      · subst hj
        exact ⟨s, e, os⟩
      · rw [List.getElem?_set_ne hj] at e1
        exact ⟨t, e1, o1⟩
    obtain ⟨t', a1, a2⟩ := fix e1 o1 e3
    obtain ⟨u', b1, b2⟩ := fix e2 o2 e4
    exact R.dis j k t' u' m n hjk a1 b1 a2 b2 e3 e4
/-- l.append(e), l a local -/
def appS (i : Nat) (f : EF) : SF := fun ρ => match slot ρ i with
  | .o xs => thenS ρ (f ρ) fun r => match r.keep with
    | .ok d => if xs.length < 100000 then .next (ρ.set i (.o (xs ++ [d]))) else .bad
    | _ => .bad
  | _ => .bad
theorem mut_now {K : PySem.W.Frag} {h : Hs} {ρ : Env} {σ : L2.St} (R : Rel K h ρ σ) {i : Nat} {xs : List D} (es : slot ρ i = .o xs) : ∃ l vs, σ[i]? = some (some (.ref l)) ∧ h.H l = some (.lst vs) ∧ DpAll K h.G vs xs ∧ vs.length = xs.length ∧
    ∀ (ws : List V) (ys : List D), DpAll K h.G ws ys → Rel K ⟨h.G, h.F, upd h.H l (.lst ws)⟩ (ρ.set i (.o ys)) σ ∧ SG h ⟨h.G, h.F, upd h.H l (.lst ws)⟩ := by
  have ei := slot_some es (by intro z; cases z)
  obtain ⟨x, ex, l, vs, rfl, hl, fl, hd⟩ := R.get ei
  exact ⟨l, vs, ex, hl, hd, hd.len, fun ws ys d => R.mut ei rfl rfl ex ⟨l, ws, rfl, upd_same, fl, d⟩⟩
theorem keep_okS {K : PySem.W.Frag} {h0 h : Hs} {ρ : Env} {σ : L2.St} (R0 : Rel K h0 ρ σ) (R : Rel K h ρ σ) (g : Gr h0 h) {v : V} {a : Rv} {d : D} (e : a.keep = .ok d) (ok : RvOk K h0.H h v a) : ∃ h', h'.H = h.H ∧ Rel K h' ρ σ ∧ Gr h0 h' ∧ Dp K h'.G v d := keep_ok R0 R g e ok
theorem xapp (i : Nat) {e o : Expr} {f : EF} {pos apos spos : Pos} (he : PE X (.Call (.Attribute o "append" apos) [e] [] pos) (tBM X.K "list" rAppend (tVar i) (tCons (tX X.K W f) tNil))) (hs : swapsWith (.Call (.Attribute o "append" apos) [e] [] pos) none spos.line X.env = pure false := by rfl) :
    PS X (.Expr (.Call (.Attribute o "append" apos) [e] [] pos) spos) (tS X.K W (appS i f)) := by
  refine psTo (ps_expr he hs) fun D σ H ⟨h, ρ, eh, R, q⟩ => ?_
  subst eh
  unfold appS at q
  split at q
  · rename_i xs es
    obtain ⟨l, vs, ex, hl, hd, hlen, _⟩ := mut_now R es
    refine ⟨.ref l, ex, .inl ⟨rfl, vs, .of hl⟩, ?_⟩
    refine (tX_mk (f := f) R (q.then fun r v h' _ R' g' ok q' => ?_) : tX X.K W f σ h.H _)
    cases ek : r.keep with
    | bad => rw [ek] at q'; exact q'.elim
    | exc c p => exact absurd ek keep_ne
    | ok d =>
      rw [ek] at q'
      dsimp only at q'
      split at q'
      · obtain ⟨h2, eh2, R2, g2, dv⟩ := keep_ok R R' g' ek ok
        obtain ⟨l2, vs2, ex2, hl2, hd2, hlen2, mt⟩ := mut_now R2 es
        rw [ex] at ex2
        cases ex2
        obtain ⟨R3, g3⟩ := mt (vs2 ++ [v]) (xs ++ [d]) (hd2.snoc dv)
        rw [← eh2]
        exact ⟨l, vs2, v, rfl, rfl, hl2, by rw [hlen2]; exact Nat.lt_of_lt_of_le (by assumption) (by decide), q' σ _ R3 (g2.sg.trans g3)⟩
      · exact q'.elim
  · exact q.elim
/-! an expression that changes an own list: its value, the environment behind it -/
abbrev MF := Env → Er (Rv × Env)
def PM1 (K : PySem.W.Frag) (W : WF) (h : Hs) (ρ : Env) (σ : L2.St) (Q : VK) : Er (Rv × Env) → Prop
  | .ok (r, ρ') => ∀ v h', Rel K h' ρ' σ → SG h h' → RvF K h' v r → Q v h'.H
  | .exc c p => ∀ h', Rel K h' ρ σ → SG h h' → W c p σ h'
  | .bad => False
def tM (K : PySem.W.Frag) (W : WF) (f : MF) : TE := fun σ H Q => ∃ h ρ, h.H = H ∧ Rel K h ρ σ ∧ PM1 K W h ρ σ Q (f ρ)
/-- l.pop(e), 0 ≤ e -/
def popAtM (j : Nat) (f : EF) : MF := fun ρ => match slot ρ j with
  | .o xs => (f ρ).bind fun r => match r.dat with
    | some (.int i) => if 0 ≤ i ∧ i < 1000000 then (match xs[i.toNat]? with
      | some d => .ok (.v d, ρ.set j (.o (xs.eraseIdx i.toNat)))
      | none => .bad) else .bad
    | _ => .bad
  | _ => .bad
theorem seqIx_nat {i : Int} {n : Nat} (h0 : 0 ≤ i) (h : i.toNat < n) : seqIndex? i n = some i.toNat := by
  have e : ixN n i = some i.toNat := by
    unfold ixN
    rw [if_pos h0, if_pos (by omega)]
  exact (ixN_seq e).1
theorem xpopAt (j : Nat) {e : Expr} {f : EF} (he : PE X e (tBM X.K "list" rPopAt (tVar j) (tCons (tX X.K W f) tNil))) : PE X e (tM X.K W (popAtM j f)) := by
  refine peTo he fun σ H Q ⟨h, ρ, eh, R, q⟩ => ?_
  subst eh
  unfold popAtM at q
  split at q
  · rename_i xs es
    obtain ⟨l, vs, ex, hl, hd, hlen, _⟩ := mut_now R es
    refine ⟨.ref l, ex, .inl ⟨rfl, vs, .of hl⟩, ?_⟩
    refine (tX_mk (f := f) R ?_ : tX X.K W f σ h.H _)
    cases ef : f ρ with
    | bad => rw [ef] at q; exact q
    | exc c p =>
      rw [ef] at q
      exact fun h' R' g' => q h' R' g'.sg
    | ok r =>
      rw [ef] at q
      have q : PM1 X.K W h ρ σ Q (match r.dat with
        | some (.int i) => if 0 ≤ i ∧ i < 1000000 then (match xs[i.toNat]? with
          | some d => .ok (.v d, ρ.set j (.o (xs.eraseIdx i.toNat)))
          | none => .bad) else .bad
        | _ => .bad) := q
      intro v h' R' g' ok
      split at q
      · rename_i i ei
        split at q
        · rename_i hi
          split at q
          · rename_i d hd1
            have ev := dp_int (ok.dp R'.ch ei)
            subst ev
            obtain ⟨l2, vs2, ex2, hl2, hd2, hlen2, mt⟩ := mut_now R' es
            rw [ex] at ex2
            cases ex2
            obtain ⟨y, ey, dy⟩ := hd2.get hd1
            have hlt : i.toNat < xs.length := (List.getElem?_eq_some_iff.mp hd1).1
            obtain ⟨R3, g3⟩ := mt (vs2.eraseIdx i.toNat) (xs.eraseIdx i.toNat) (hd2.eraseIdx _)
            exact ⟨l, vs2, i, i.toNat, y, rfl, rfl, hl2, by omega, by omega, seqIx_nat hi.1 (by rw [hlen2]; exact hlt), ey, q y _ R3 (g'.sg.trans g3) dy⟩
          · exact q.elim
        · exact q.elim
      · exact q.elim
  · exact q.elim
/-- l.pop() -/
def popM (j : Nat) : MF := fun ρ => match slot ρ j with
  | .o xs => match xs[xs.length - 1]? with
    | some d => .ok (.v d, ρ.set j (.o xs.dropLast))
    | none => .bad
  | _ => .bad
theorem DpAll.dropLast {K : PySem.W.Frag} {H : Hp} {vs : List V} {ds : List D} (h : DpAll K H vs ds) : DpAll K H vs.dropLast ds.dropLast := by
  rw [List.dropLast_eq_take, List.dropLast_eq_take, h.len]
  exact h.take _
theorem xpop (j : Nat) {e : Expr} (he : PE X e (tBM0 X.K "list" rPop (tVar j))) : PE X e (tM X.K W (popM j)) := by
  refine peTo he fun σ H Q ⟨h, ρ, eh, R, q⟩ => ?_
  subst eh
  unfold popM at q
  split at q
  · rename_i xs es
    obtain ⟨l, vs, ex, hl, hd, hlen, mt⟩ := mut_now R es
    split at q
    · rename_i d hd1
      obtain ⟨y, ey, dy⟩ := hd.get hd1
      obtain ⟨R3, g3⟩ := mt vs.dropLast xs.dropLast hd.dropLast
      exact ⟨.ref l, ex, .inl ⟨rfl, vs, .of hl⟩, l, vs, y, rfl, rfl, hl, by rw [hlen]; exact ey, q y _ R3 g3 dy⟩
    · exact q.elim
  · exact q.elim
def thenM (ρ : Env) (e : Er (Rv × Env)) (k : Rv → Env → Res) : Res := match e with
  | .ok (r, ρ') => k r ρ'
  | .exc c p => .exc c p ρ
  | .bad => .bad
theorem Post.thenM {D : Ends} {h : Hs} {ρ : Env} {σ : L2.St} {e : Er (Rv × Env)} {k : Rv → Env → Res} (q : Post X.K W D h (thenM ρ e k)) {Q : VK} (hk : ∀ r ρ' v h', e = .ok (r, ρ') → Rel X.K h' ρ' σ → SG h h' → RvF X.K h' v r → Post X.K W D h' (k r ρ') → Q v h'.H) : PM1 X.K W h ρ σ Q e := by
  cases e with
  | ok r => exact fun v h' R g ok => hk r.1 r.2 v h' rfl R g ok (Post.shift g q)
  | exc c p => exact fun h' R g => q σ h' R g
  | bad => exact q
/-- x = l.pop(..) -/
def asgM (f : MF) (φ : TF) : SF := fun ρ => thenM ρ (f ρ) fun r ρ' => liftE ρ' (φ r ρ')
theorem xasgM {tg e : Expr} {f : MF} {φ : TF} {fp : List Nat} {pos : Pos} (hφ : ∀ r ρ c p, φ r ρ ≠ .exc c p) (he : PE X e (tM X.K W f)) (hg : PG X tg (tG X.K fp φ)) (hs : swapsWithSole [tg] e pos.line X.env = pure false := by rfl) (hw : swappedStores [tg] e X.env = pure none := by rfl)
    (h1 : (assignEach [tg] X.env).map (·.2) = [assign tg X.env] := by rfl) : PS X (.Assign [tg] e pos) (tS X.K W (asgM f φ)) := psTo (ps_asg he hg hs hw h1) fun D σ H ⟨h, ρ, e, R, q⟩ => by
  subst e
  refine ⟨h, ρ, rfl, R, q.thenM fun r ρ' v h' _ R' g' ok q' => ?_⟩
  cases e1 : φ r ρ' with
  | bad => rw [e1] at q'; exact q'.elim
  | exc c p => exact absurd e1 (hφ _ _ _ _)
  | ok ρ2 =>
    rw [e1] at q'
    exact ⟨h', h', ρ', r, ρ2, rfl, R', R', ok.rv, e1, fun σ' R2 _ => q' σ' h' R2 (SG.refl _)⟩
/-- l.append(m.pop(..)) -/
def appM (i : Nat) (f : MF) : SF := fun ρ => match slot ρ i with
  | .o _ => thenM ρ (f ρ) fun r ρ' => match slot ρ' i, r with
    | .o xs, .v d => if xs.length < 100000 then .next (ρ'.set i (.o (xs ++ [d]))) else .bad
    | _, _ => .bad
  | _ => .bad
theorem xappM (i : Nat) {e o : Expr} {f : MF} {pos apos spos : Pos} (he : PE X (.Call (.Attribute o "append" apos) [e] [] pos) (tBM X.K "list" rAppend (tVar i) (tCons (tM X.K W f) tNil))) (hs : swapsWith (.Call (.Attribute o "append" apos) [e] [] pos) none spos.line X.env = pure false := by rfl) :
    PS X (.Expr (.Call (.Attribute o "append" apos) [e] [] pos) spos) (tS X.K W (appM i f)) := by
  refine psTo (ps_expr he hs) fun D σ H ⟨h, ρ, eh, R, q⟩ => ?_
  subst eh
  unfold appM at q
  split at q
  · rename_i xs0 es
    obtain ⟨l, vs, ex, hl, hd, hlen, _⟩ := mut_now R es
    refine ⟨.ref l, ex, .inl ⟨rfl, vs, .of hl⟩, ?_⟩
    refine ⟨h, ρ, rfl, R, q.thenM fun r ρ' v h' _ R' g' ok q' => ?_⟩
    cases es' : slot ρ' i with
    | o xs =>
      rw [es'] at q'
      cases r with
      | v d =>
        dsimp only at q'
        split at q'
        · obtain ⟨l2, vs2, ex2, hl2, hd2, hlen2, mt⟩ := mut_now R' es'
          rw [ex] at ex2
          cases ex2
          obtain ⟨R3, g3⟩ := mt (vs2 ++ [v]) (xs ++ [d]) (hd2.snoc ok)
          exact ⟨l, vs2, v, rfl, rfl, hl2, by rw [hlen2]; exact Nat.lt_of_lt_of_le (by assumption) (by decide), q' σ _ R3 g3⟩
        · exact q'.elim
      | _ => exact q'.elim
    | _ =>
      rw [es'] at q'
      exact q'.elim
  · exact q.elim
/-- l.reverse(), l.clear() -/
def mutS (i : Nat) (φ : List D → List D) : SF := fun ρ => match slot ρ i with
  | .o xs => .next (ρ.set i (.o (φ xs)))
  | _ => .bad
theorem xreverse (i : Nat) {e : Expr} {spos : Pos} (he : PE X e (tBM0 X.K "list" rReverse (tVar i))) (hs : swapsWith e none spos.line X.env = pure false := by rfl) : PS X (.Expr e spos) (tS X.K W (mutS i List.reverse)) := by
  refine psTo (ps_expr he hs) fun D σ H ⟨h, ρ, eh, R, q⟩ => ?_
  subst eh
  unfold mutS at q
  split at q
  · rename_i xs es
    obtain ⟨l, vs, ex, hl, hd, hlen, mt⟩ := mut_now R es
    obtain ⟨R3, g3⟩ := mt vs.reverse xs.reverse hd.reverse
    exact ⟨.ref l, ex, .inl ⟨rfl, vs, .of hl⟩, l, vs, rfl, rfl, hl, q σ _ R3 g3⟩
  · exact q.elim
theorem xclear (i : Nat) {e : Expr} {spos : Pos} (he : PE X e (tBM0 X.K "list" rClear (tVar i))) (hs : swapsWith e none spos.line X.env = pure false := by rfl) : PS X (.Expr e spos) (tS X.K W (mutS i fun _ => [])) := by
  refine psTo (ps_expr he hs) fun D σ H ⟨h, ρ, eh, R, q⟩ => ?_
  subst eh
  unfold mutS at q
  split at q
  · rename_i xs es
    obtain ⟨l, vs, ex, hl, hd, hlen, mt⟩ := mut_now R es
    obtain ⟨R3, g3⟩ := mt [] [] .nil
    exact ⟨.ref l, ex, .inl ⟨rfl, vs, .of hl⟩, l, vs, rfl, rfl, hl, q σ _ R3 g3⟩
  · exact q.elim
/-- l[i] = e, d[k] = e: l, d locals -/
def setIt (j : Nat) (g : EF) (f : EF) : SF := fun ρ => thenS ρ (f ρ) fun r => match r.keep with
  | .ok d => match slot ρ j with
    | .o xs => thenS ρ (g ρ) fun i => match i.dat with
      | some (.int z) => match ixN xs.length z with
        | some n => .next (ρ.set j (.o (xs.set n d)))
        | none => .bad
      | _ => .bad
    | .k kvs => thenS ρ (g ρ) fun i => match i.dat.bind keyD with
      | some k => if kvs.length < 100000 then .next (ρ.set j (.k (setK kvs k d))) else .bad
      | none => .bad
    | _ => .bad
  | _ => .bad
theorem xsetIt (j : Nat) {x : Str} {i e : Expr} {f g : EF} {p p2 pos : Pos} (hu : X.A.units + 1 < cLine) (he : PE X e (tX X.K W f)) (hi : PE X i (tX X.K W g)) (ho : PE X (.Name x p) (tVar j))
    (hs : swapsWith e (some (.Subscript (.Name x p) i p2)) pos.line X.env = pure false := by rfl) (hs1 : swapsWithSole [.Subscript (.Name x p) i p2] e pos.line X.env = pure false := by rfl) (hw : swappedStores [.Subscript (.Name x p) i p2] e X.env = pure none := by rfl)
    (h1 : (assignEach [.Subscript (.Name x p) i p2] X.env).map (·.2) = [assign (.Subscript (.Name x p) i p2) X.env] := by rfl)
    (ha : ∀ v, assign (.Subscript (.Name x p) i p2) X.env v = (do
      let ov ← holding [v] (eval (.Name x p) X.env)
      let iv ← holding [v, ov] (eval i X.env)
      standAt p2
      holding [v, ov, iv] (setItem ov iv v)
      release [v, ov, iv] []) := by intro _; rfl) : PS X (.Assign [.Subscript (.Name x p) i p2] e pos) (tS X.K W (setIt j g f)) := by
  have A := ps_asg (pos := pos) he (pg_sub ho hi set_list ha) hs1 hw h1
  have B := ps_dput (pos := pos) (pos' := p2) hu ho hi he hs
  refine psTo (t := fun D σ H => tAsg (tX X.K W f) (gSub (tVar j) (tX X.K W g) rSetL) D σ H ∨ sDPut (tVar j) (tX X.K W g) (tX X.K W f) D σ H) ⟨fun pins s σ H D I hw => hw.elim (A.run pins s σ H D I) (B.run pins s σ H D I)⟩ fun D σ H ⟨h, ρ, eh, R, q⟩ => ?_
  subst eh
  unfold setIt at q
  cases es : slot ρ j with
  | o xs =>
    refine .inl (tX_mk R (q.then fun r v h1 _ R1 g1 ok1 q1 => ?_))
    cases ek : r.keep with
    | bad => rw [ek] at q1; exact q1.elim
    | exc c p => exact absurd ek keep_ne
    | ok d =>
      rw [ek, es] at q1
      obtain ⟨h2, eh2, R2, g2, dv⟩ := keep_ok R R1 g1 ek ok1
      rw [← eh2]
      obtain ⟨l, vs, ex, hl, hd, hlen, _⟩ := mut_now R2 es
      refine ⟨.ref l, ex, ?_⟩
      refine (tX_mk (f := g) R2 ((Post.shift g2.sg q1).then fun iz v3 h3 _ R3 g3 ok3 q3 => ?_) : tX X.K W g σ h2.H _)
      split at q3
      · rename_i z ez
        split at q3
        · rename_i n en
          have ev := dp_int (ok3.dp R3.ch ez)
          subst ev
          obtain ⟨l2, vs2, ex2, hl2, hd2, hlen2, mt⟩ := mut_now R3 es
          rw [ex] at ex2
          cases ex2
          obtain ⟨R4, g4⟩ := mt (vs2.set n v) (xs.set n d) (hd2.set (ex_dp g3.g dv) n)
          exact ⟨l, vs2, z, n, rfl, rfl, hl2, by rw [hlen2]; exact en, q3 σ _ R4 (g3.sg.trans g4)⟩
        · exact q3.elim
      · exact q3.elim
  | k kvs =>
    refine .inr (tX_mk R (q.then fun r v h1 _ R1 g1 ok1 q1 => ?_))
    cases ek : r.keep with
    | bad => rw [ek] at q1; exact q1.elim
    | exc c p => exact absurd ek keep_ne
    | ok d =>
      rw [ek, es] at q1
      obtain ⟨h2, eh2, R2, g2, dv⟩ := keep_ok R R1 g1 ek ok1
      rw [← eh2]
      have ei := slot_some es (by intro z; cases z)
      obtain ⟨x', ex, l, vs, rfl, hl, fl, hd⟩ := R2.get ei
      refine ⟨.ref l, ex, ?_⟩
      refine (tX_mk (f := g) R2 ((Post.shift g2.sg q1).then fun iz v3 h3 _ R3 g3 ok3 q3 => ?_) : tX X.K W g σ h2.H _)
      split at q3
      · rename_i k ez
        split at q3
        · rename_i hlt
          obtain ⟨x2, ex2, l2, vs2, rfl, hl2, fl2, hd2⟩ := R3.get ei
          rw [ex] at ex2
          cases ex2
          obtain ⟨dk, e1, e2⟩ := Option.bind_eq_some_iff.mp ez
          have ev := keyD_v e2 (ok3.dp R3.ch e1)
          subst ev
          obtain ⟨R4, g4⟩ := R3.mut (s' := .k (setK kvs k d)) (o := .dK (putK vs2 k v)) ei rfl rfl ex ⟨l, _, rfl, upd_same, fl2, hd2.set k (ex_dp g3.g dv)⟩
          exact ⟨l, _, rfl, DPut.k hl2 (by rw [hd2.len]; exact Nat.lt_of_lt_of_le hlt (by decide)), q3 σ _ R4 (g3.sg.trans g4)⟩
        · exact q3.elim
      · exact q3.elim
  | _ =>
    refine .inl (tX_mk R (q.then fun r v h1 _ R1 g1 ok1 q1 => ?_))
    exfalso
    rw [es] at q1
    split at q1
    · exact q1
    · exact q1
end
end Sq

/-! list.index, chains of comparisons. -/
namespace Sq
open PySem PySem.Spec PyProof.Rows L2
section
variable {K : PySem.W.Frag} {W : WF} {X : Cx} {a b c e : Expr} {f g k : EF} {p pos : Pos}
/-- the first place of an equal item -/
def firstAt (y : D) : List D → Nat → Option Nat
  | [], _ => none
  | z :: zs, n => if PyData.eqv z y = true then some n else firstAt y zs (n + 1)
def indexR (ys : List D) (b : Rv) : Er Rv := match b.dat with
  | some y => if ys.all flatD = true ∧ flatD y = true then (match firstAt y ys 0 with
    | some j => .ok (.v (.int (j : Nat)))
    | none => .bad) else .bad
  | none => .bad
def indexF (f g : EF) : EF := fun ρ => (f ρ).bind fun a => match a.dat with
  | some (.list ys) => (g ρ).bind fun b => indexR ys b
  | _ => .bad
theorem firstAt_some {y : D} : ∀ {zs : List D} {n j : Nat}, firstAt y zs n = some j → n ≤ j ∧ ∃ z, zs[j - n]? = some z ∧ PyData.eqv z y = true ∧ ∀ m z', m < j - n → zs[m]? = some z' → PyData.eqv z' y = false
  | [], _, _, e => by cases e
  | z :: zs, n, j, e => by
    unfold firstAt at e
    split at e
    · cases e
      refine ⟨Nat.le_refl _, z, by simp, by assumption, fun m z' hm => by omega⟩
    · rename_i hne
      obtain ⟨h1, z1, h2, h3, h4⟩ := firstAt_some e
      refine ⟨by omega, z1, ?_, h3, fun m z' hm ez => ?_⟩
      · rw [show j - n = (j - (n + 1)) + 1 by omega]
        simpa using h2
      · cases m with
        | zero =>
          have : z = z' := by simpa using ez
          subst this
          simpa using hne
        | succ m => exact h4 m z' (by omega) (by simpa using ez)
theorem xindex {s : Expr} (he : PE X s (tBM X.K "list" (rIndex X.K) (tX X.K W f) (tCons (tX X.K W g) tNil))) : PE X s (tX X.K W (indexF f g)) := by
  refine peTo he fun σ H Q q => ?_
  obtain ⟨h, ρ, rfl, R, q⟩ := tX_iff.mp q
  refine (tX_mk (f := f) R (q.bind fun a x h1 ea R1 g1 ok1 q1 => ?_) : tX X.K W f σ h.H _)
  split at q1
  · rename_i xs exs
    obtain ⟨p1, vs, rfl, s1, d1⟩ := dp_lst (ok1.dp R1.ch exs)
    refine ⟨.inl ⟨rfl, vs, s1⟩, ?_⟩
    refine (tX_mk (f := g) R1 (q1.bind fun b y h2 _ R2 g2 ok2 q2 => ?_) : tX X.K W g σ h1.H _)
    unfold indexR at q2
    cases eb : b.dat with
    | none => rw [eb] at q2; exact q2.elim
    | some d =>
      rw [eb] at q2
      dsimp only at q2
      split at q2
      · rename_i hc
        split at q2
        · rename_i j ej
          obtain ⟨_, z, h3, h4, h5⟩ := firstAt_some ej
          simp only [Nat.sub_zero] at h3 h5
          have d2 := ex_dpa g2.x d1
          have dy := ok2.dp R2.ch eb
          obtain ⟨vz, e1, e2⟩ := d2.get h3
          have fz : ∀ (m : Nat) z', xs[m]? = some z' → flatD z' = true := fun m z' e => List.all_eq_true.mp hc.1 z' (List.mem_of_getElem? e)
          refine ⟨p1, vs, y, j, vz, rfl, rfl, ex_l g2.x s1, dp_flat dy hc.2, dp_flats d2 hc.1, e1, ?_, fun m v' hm ev => ?_, q2.now R2 (.int _)⟩
          · rw [dp_eqV e2 dy (fz _ _ h3) hc.2]
            exact h4
          · obtain ⟨z', e3, e4⟩ := d2.getV ev
            rw [dp_eqV e4 dy (fz _ _ e3) hc.2]
            exact h5 m z' hm e3
        · exact q2.elim
      · exact q2.elim
  · exact q1.elim
/-! a op b op' c -/
def chF (φ ψ : Rv → Rv → Er Rv) (f g k : EF) : EF := fun ρ => (f ρ).bind fun a => (g ρ).bind fun b => (φ a b).bind fun r => r.tst.bind fun c => if c = true then (k ρ).bind fun d => ψ b d else .ok (.v (.bool false))
theorem chain_of {φ ψ : Rv → Rv → Er Rv} {r r' : R2} (hφ : OpOk K W φ r) (hψ : OpOk K W ψ r') : ∀ σ H Q, tX K W (chF φ ψ f g k) σ H Q → tChain r r' (tX K W f) (tX K W g) (tX K W k) σ H Q := by
  intro σ H Q q
  obtain ⟨h, ρ, rfl, R, q⟩ := tX_iff.mp q
  refine tX_mk R (q.bind fun a x h1 _ R1 g1 ok1 q1 => ?_)
  refine tX_mk R1 (q1.bind fun b y h2 _ R2 g2 ok2 q2 => ?_)
  refine hφ h h2 ρ σ x y a b _ R R2 (g1.trans g2) (ok1.grow g2) (ok2.old g1.x) ?_
  refine q2.bind fun c z h3 _ R3 g3 ok3 q3 => ?_
  obtain ⟨kk, ez, q4⟩ := tst_nowE q3 ok3
  refine ⟨kk, ez, ?_⟩
  cases kk with
  | true =>
    rw [if_pos rfl] at q4 ⊢
    refine tX_mk R3 (q4.bind fun d u h5 _ R5 g5 ok5 q5 => ?_)
    exact hψ h1 h5 ρ σ y u b d _ R1 R5 (g2.trans (g3.trans g5)) ((ok2.grow g3).grow g5) (ok5.old (g2.trans g3).x) q5
  | false =>
    rw [if_neg (by decide)] at q4 ⊢
    exact q4.now R3 (.bl _)
section
variable {op op' : CmpOp} {r r' : R2} {φ ψ : Rv → Rv → Er Rv}
theorem xchain (ho : OpR X (compareOp op) r) (ho' : OpR X (compareOp op') r') (hφ : OpOk X.K W φ r) (hψ : OpOk X.K W ψ r') (ha : PE X a (tX X.K W f)) (hb : PE X b (tX X.K W g)) (hc : PE X c (tX X.K W k)) (hm : lastMarks [op, op'] [b, c] = false := by with_unfolding_all rfl) : PE X (.Compare a [op, op'] [b, c] pos) (tX X.K W (chF φ ψ f g k)) :=
  peTo (pe_chain ho ho' ha hb hc hm) (chain_of hφ hψ)
theorem xtchain (ho : OpR X (compareOp op) r) (ho' : OpR X (compareOp op') r') (hφ : OpOk X.K W φ r) (hψ : OpOk X.K W ψ r') (ha : PE X a (tX X.K W f)) (hb : PE X b (tX X.K W g)) (hc : PE X c (tX X.K W k)) (hm : lastMarks [op, op'] [b, c] = false := by with_unfolding_all rfl) : PT X (.Compare a [op, op'] [b, c] pos) (tXt X.K W (tstF (chF φ ψ f g k))) :=
  ptTo (pt_chain ho ho' ha hb hc hm) fun σ H Q q => tTest_mono (chain_of hφ hψ) σ H Q (tst_of σ H Q q)
end
theorem al_nil : ∀ ρ rs, aNil ρ = .ok rs → rs.length = 0 := fun ρ rs e => by cases e; rfl
theorem al_cons {f : EF} {r : AF} {n : Nat} (h : ∀ ρ rs, r ρ = .ok rs → rs.length = n) : ∀ ρ rs, aCons f r ρ = .ok rs → rs.length = n + 1 := fun ρ rs e => by
  unfold aCons at e
  obtain ⟨a, _, e⟩ := ebind_ok e
  obtain ⟨b, _, e⟩ := ebind_ok e
  obtain ⟨c, e1, e⟩ := ebind_ok e
  cases e
  rw [List.length_cons, h ρ c e1]
end
end Sq

/-! The law's own promise. -/
namespace Sq
open PySem PySem.Spec PyProof.Rows L2
def lawSp (K : PySem.W.Frag) : Sp := fun vs H Q _ => ∃ (a : Addr) (ns : List Int), vs = [.ref a] ∧ ns.length ≤ 63 ∧ SqL K H a (ns.map V.int) ∧ ∀ H', Q (.bl true) H'
theorem lawSp_imp {K : PySem.W.Frag} {cm : Str → Addr} {g : List Sl → Fr} (hg : ∀ ns : List Int, ns.length ≤ 63 → g [.v (.list (ns.map .int))] = .ret (.v (.bool true))) : ∀ vs H Q E, lawSp K vs H Q E → fsp K cm 1 g vs H Q E := by
  rintro vs H Q E ⟨a, ns, rfl, hl, hS, q⟩
  refine ⟨rfl, H, [.v (.list (ns.map .int))], Ex.refl H, ⟨.lst hS (ints_all ns), trivial⟩, ?_⟩
  rw [hg ns hl]
  intro v G' H' _ ok
  cases ok
  exact q H'
theorem law_sp {K : PySem.W.Frag} (H : Hp) (a : Addr) (ns : List Int) (hl : ns.length ≤ 63) (hS : SqL K H a (ns.map V.int)) : lawSp K [.ref a] H (fun v _ => v = .bl true) fun _ _ _ => False := ⟨a, ns, rfl, hl, hS, fun _ => rfl⟩
theorem cx_none {P : Program} {w : World} {H : Hp} {s : Shared} {e : Value} {s' : Shared} (h : L2.CX P w [] H s (fun _ _ _ => False) e s') : False := by
  obtain ⟨_, _, _, _, _, _, _, _, _, _, _, _, z⟩ := h
  exact z
end Sq

/-! How pure bodies are reckoned: rules for simp, loops by what holds. -/
namespace Sq
open PySem L2
section
variable {f g k : EF} {s s1 s2 : SF} {ρ : Env} {φ ψ : Rv → Rv → Er Rv}
@[simp] theorem bind_ok {α β : Type} (a : α) (h : α → Er β) : (Er.ok a).bind h = h a := (rfl)
@[simp] theorem bind_exc {α β : Type} (c : Str) (p) (h : α → Er β) : (Er.exc c p : Er α).bind h = .exc c p := (rfl)
@[simp] theorem bind_bad {α β : Type} (h : α → Er β) : (Er.bad : Er α).bind h = .bad := (rfl)
@[simp] theorem noX_okk {α : Type} (a : α) : (Er.ok a).noX = .ok a := (rfl)
@[simp] theorem varF_e (i : Nat) : varF i ρ = (slot ρ i).rd := (rfl)
@[simp] theorem rd_v (d : D) : (Sl.v d).rd = .ok (.v d) := (rfl)
@[simp] theorem rd_b (d : D) : (Sl.b d).rd = .ok (.b d) := (rfl)
@[simp] theorem rd_o (d : List D) : (Sl.o d).rd = .ok (.w d) := (rfl)
@[simp] theorem rd_k (d : List (Key × D)) : (Sl.k d).rd = .ok (.wk d) := (rfl)
@[simp] theorem cF_e (d : D) : cF d ρ = .ok (.v d) := (rfl)
@[simp] theorem binF_e : binF φ f g ρ = (f ρ).bind fun a => (g ρ).bind fun b => φ a b := (rfl)
@[simp] theorem unF_e (χ : Rv → Er Rv) : unF χ f ρ = (f ρ).bind χ := (rfl)
@[simp] theorem chF_e : chF φ ψ f g k ρ = (f ρ).bind fun a => (g ρ).bind fun b => (φ a b).bind fun r => r.tst.bind fun c => if c = true then (k ρ).bind fun d => ψ b d else .ok (.v (.bool false)) := (rfl)
@[simp] theorem dat_v (d : D) : (Rv.v d).dat = some d := (rfl)
@[simp] theorem dat_b (d : D) : (Rv.b d).dat = some d := (rfl)
@[simp] theorem dat_r (d : D) : (Rv.r d).dat = some d := (rfl)
@[simp] theorem dat_w (d : List D) : (Rv.w d).dat = some (.list d) := (rfl)
@[simp] theorem dat_o (d : List D) : (Rv.o d).dat = some (.list d) := (rfl)
@[simp] theorem flat2_e (χ : D → D → Er D) {a b : Rv} {x y : D} (ha : a.dat = some x) (hb : b.dat = some y) : flat2 χ a b = (χ x y).bind fun d => .ok (.v d) := by
  unfold flat2
  rw [ha, hb]
@[simp] theorem int2_e (χ : Int → Int → Er D) (i j : Int) : int2 χ (.int i) (.int j) = χ i j := (rfl)
@[simp] theorem iadd_e (i j : Int) : iadd i j = .ok (.int (i + j)) := (rfl)
@[simp] theorem isub_e (i j : Int) : isub i j = .ok (.int (i - j)) := (rfl)
theorem imul_l {i j : Int} (h : -(2 ^ 64) < i ∧ i < 2 ^ 64) : imul i j = .ok (.int (i * j)) := by
  unfold imul
  rw [if_pos (.inl h)]
theorem imul_r {i j : Int} (h : -(2 ^ 64) < j ∧ j < 2 ^ 64) : imul i j = .ok (.int (i * j)) := by
  unfold imul
  rw [if_pos (.inr (.inl h))]
theorem idiv_s {i j : Int} (h : 0 < j ∧ j < 1073741824) : idiv i j = .ok (.int (i / j)) := by
  unfold idiv
  rw [if_pos ⟨h.1, .inl h.2⟩]
theorem imod_s {i j : Int} (h : 0 < j) : imod i j = .ok (.int (i % j)) := by
  unfold imod
  rw [if_pos h]
@[simp] theorem addR_ii (i j : Int) : addR (.v (.int i)) (.v (.int j)) = .ok (.v (.int (i + j))) := (rfl)
@[simp] theorem negR_i (i : Int) : negR (.v (.int i)) = .ok (.v (.int (-i))) := (rfl)
@[simp] theorem ilt_e (i j : Int) : ilt i j = .ok (.bool (decide (i < j))) := (rfl)
@[simp] theorem ile_e (i j : Int) : ile i j = .ok (.bool (decide (i ≤ j))) := (rfl)
@[simp] theorem igt_e (i j : Int) : igt i j = .ok (.bool (decide (j < i))) := (rfl)
@[simp] theorem ige_e (i j : Int) : ige i j = .ok (.bool (decide (j ≤ i))) := (rfl)
@[simp] theorem tst_v (c : Bool) : (Rv.v (.bool c)).tst = .ok c := (rfl)
@[simp] theorem tstF_e : tstF f ρ = (f ρ).bind Rv.tst := (rfl)
variable {t u : Env → Er Bool}
@[simp] theorem andF_e : andF f g ρ = (f ρ).bind fun a => a.tst.bind fun k => if k = true then g ρ else .ok (.v (.bool false)) := (rfl)
@[simp] theorem orF_e : orF f g ρ = (f ρ).bind fun a => a.tst.bind fun k => if k = true then .ok (.v (.bool true)) else g ρ := (rfl)
@[simp] theorem notF_e : notF f ρ = (f ρ).bind fun a => a.tst.bind fun k => .ok (.v (.bool (!k))) := (rfl)
@[simp] theorem andT_e : andT t u ρ = (t ρ).bind fun k => if k = true then u ρ else .ok false := (rfl)
@[simp] theorem orT_e : orT t u ρ = (t ρ).bind fun k => if k = true then .ok true else u ρ := (rfl)
@[simp] theorem notT_e : notT t ρ = (t ρ).bind fun k => .ok (!k) := (rfl)
@[simp] theorem ifF_e : ifF t f g ρ = (t ρ).bind fun k => if k = true then f ρ else g ρ := (rfl)
@[simp] theorem frz_v (d : D) : (Rv.v d).frz = .ok (.v d) := (rfl)
@[simp] theorem frz_b (d : D) : (Rv.b d).frz = .ok (.b d) := (rfl)
@[simp] theorem frz_r (d : D) : (Rv.r d).frz = .ok (.r d) := (rfl)
@[simp] theorem frz_w (d : List D) : (Rv.w d).frz = .ok (.r (.list d)) := (rfl)
@[simp] theorem frz_o (d : List D) : (Rv.o d).frz = .ok (.v (.list d)) := (rfl)
@[simp] theorem aNil_e : aNil ρ = .ok [] := (rfl)
@[simp] theorem aCons_e (r : AF) : aCons f r ρ = (f ρ).bind fun a => a.frz.bind fun a' => (r ρ).bind fun as => .ok (a' :: as) := (rfl)
@[simp] theorem tupF_e (r : AF) : tupF r ρ = (r ρ).bind tupR := (rfl)
@[simp] theorem lstF_e (r : AF) : lstF r ρ = (r ρ).bind lstR := (rfl)
@[simp] theorem allV_nil : allV [] = some [] := (rfl)
@[simp] theorem allV_cons (d : D) (rs : List Rv) : allV (.v d :: rs) = (allV rs).map (d :: ·) := (rfl)
theorem tupR_v {rs : List Rv} {ds : List D} (h : allV rs = some ds) (hl : rs.length ≤ 1000) : tupR rs = .ok (.v (.tuple ds)) := by
  unfold tupR
  rw [if_pos hl, h]
theorem lstR_v {rs : List Rv} {ds : List D} (h : allV rs = some ds) (hl : rs.length ≤ 1000) : lstR rs = .ok (.o ds) := by
  unfold lstR
  rw [if_pos hl, h]
@[simp] theorem tupR_1 (a : D) : tupR [.v a] = .ok (.v (.tuple [a])) := (rfl)
@[simp] theorem tupR_2 (a b : D) : tupR [.v a, .v b] = .ok (.v (.tuple [a, b])) := (rfl)
@[simp] theorem tupR_2bb (a b : D) : tupR [.b a, .b b] = .ok (.b (.tuple [a, b])) := (rfl)
@[simp] theorem tupR_2vb (a b : D) : tupR [.v a, .b b] = .ok (.b (.tuple [a, b])) := (rfl)
@[simp] theorem tupR_2bv (a b : D) : tupR [.b a, .v b] = .ok (.b (.tuple [a, b])) := (rfl)
@[simp] theorem tupR_3 (a b c : D) : tupR [.v a, .v b, .v c] = .ok (.v (.tuple [a, b, c])) := (rfl)
@[simp] theorem tupR_4 (a b c d : D) : tupR [.v a, .v b, .v c, .v d] = .ok (.v (.tuple [a, b, c, d])) := (rfl)
@[simp] theorem lstR_0 : lstR [] = .ok (.o []) := (rfl)
@[simp] theorem lstR_1 (a : D) : lstR [.v a] = .ok (.o [a]) := (rfl)
@[simp] theorem lstR_2 (a b : D) : lstR [.v a, .v b] = .ok (.o [a, b]) := (rfl)
/-! subscripts -/
theorem alt_l {a b r : Rv} (h : φ a b = .ok r) : alt φ ψ a b = .ok r := by
  unfold Sq.alt
  rw [h]
theorem alt_r {a b : Rv} (h : φ a b = .bad) : alt φ ψ a b = ψ a b := by
  unfold Sq.alt
  rw [h]
theorem ixSeq_e {a : Rv} {i : Int} {r : Rv} (h : a.item i = some r) : ixSeq a (.v (.int i)) = .ok r := by
  show (match a.item i with | some r => Er.ok r | none => .bad) = _
  rw [h]
theorem ixR_vt {xs : List D} {i : Int} {d : D} (h : atI xs i = some d) : ixR (.v (.tuple xs)) (.v (.int i)) = .ok (.v d) := by
  refine (alt_r rfl).trans (alt_l (ixSeq_e ?_))
  show (atI xs i).map Rv.v = _
  rw [h]
  rfl
theorem ixR_vl {xs : List D} {i : Int} {d : D} (h : atI xs i = some d) : ixR (.v (.list xs)) (.v (.int i)) = .ok (.v d) := by
  refine (alt_r rfl).trans (alt_l (ixSeq_e ?_))
  show (atI xs i).map Rv.v = _
  rw [h]
  rfl
theorem ixR_bt {xs : List D} {i : Int} {d : D} (h : atI xs i = some d) : ixR (.b (.tuple xs)) (.v (.int i)) = .ok (.b d) := by
  refine (alt_r rfl).trans (alt_l (ixSeq_e ?_))
  show (atI xs i).map Rv.b = _
  rw [h]
  rfl
theorem ixR_bl {xs : List D} {i : Int} {d : D} (h : atI xs i = some d) : ixR (.b (.list xs)) (.v (.int i)) = .ok (.b d) := by
  refine (alt_r rfl).trans (alt_l (ixSeq_e ?_))
  show (atI xs i).map Rv.b = _
  rw [h]
  rfl
theorem ixR_w {xs : List D} {i : Int} {d : D} (h : atI xs i = some d) : ixR (.w xs) (.v (.int i)) = .ok (.v d) := by
  refine (alt_r rfl).trans (alt_l (ixSeq_e ?_))
  show (atI xs i).map Rv.v = _
  rw [h]
  rfl
theorem ixR_k {kvs : List (Key × D)} {b : Rv} {x : D} {q : Key} {d : D} (hb : b.dat = some x) (hk : keyD x = some q) (h : getK kvs q = some d) : ixR (.wk kvs) b = .ok (.v d) := by
  refine alt_l ?_
  unfold ixDic
  simp only [hb, Option.bind_some, hk, h]
@[simp] theorem at_nat {xs : List D} {i : Nat} : atI xs (i : Int) = xs[i]? := by
  unfold atI ixN
  rw [if_pos (Int.natCast_nonneg i)]
  by_cases h : i < xs.length
  · rw [if_pos (by omega)]
    rfl
  · rw [if_neg (by omega), List.getElem?_eq_none (by omega)]
    rfl
@[simp] theorem lenR_vt (xs : List D) : lenR (.v (.tuple xs)) = .ok (.v (.int xs.length)) := (rfl)
@[simp] theorem lenR_vl (xs : List D) : lenR (.v (.list xs)) = .ok (.v (.int xs.length)) := (rfl)
@[simp] theorem lenR_bt (xs : List D) : lenR (.b (.tuple xs)) = .ok (.v (.int xs.length)) := (rfl)
@[simp] theorem lenR_bl (xs : List D) : lenR (.b (.list xs)) = .ok (.v (.int xs.length)) := (rfl)
@[simp] theorem lenR_w (xs : List D) : lenR (.w xs) = .ok (.v (.int xs.length)) := (rfl)
@[simp] theorem lenR_o (xs : List D) : lenR (.o xs) = .ok (.v (.int xs.length)) := (rfl)
@[simp] theorem lenR_wk (xs : List (Key × D)) : lenR (.wk xs) = .ok (.v (.int xs.length)) := (rfl)
@[simp] theorem listR_vl (xs : List D) : listR (.v (.list xs)) = .ok (.o xs) := (rfl)
@[simp] theorem listR_vt (xs : List D) : listR (.v (.tuple xs)) = .ok (.o xs) := (rfl)
@[simp] theorem listR_w (xs : List D) : listR (.w xs) = .ok (.o xs) := (rfl)
@[simp] theorem listR_o (xs : List D) : listR (.o xs) = .ok (.o xs) := (rfl)
@[simp] theorem tupleR_vl (xs : List D) : tupleR (.v (.list xs)) = .ok (.v (.tuple xs)) := (rfl)
@[simp] theorem tupleR_vt (xs : List D) : tupleR (.v (.tuple xs)) = .ok (.v (.tuple xs)) := (rfl)
@[simp] theorem tupleR_bt (xs : List D) : tupleR (.b (.tuple xs)) = .ok (.b (.tuple xs)) := (rfl)
@[simp] theorem tupleR_w (xs : List D) : tupleR (.w xs) = .ok (.v (.tuple xs)) := (rfl)
@[simp] theorem tupleR_o (xs : List D) : tupleR (.o xs) = .ok (.v (.tuple xs)) := (rfl)
theorem tupleR_bl {xs : List D} (h : xs.all flatD = true) : tupleR (.b (.list xs)) = .ok (.v (.tuple xs)) := by
  show (if xs.all flatD = true then Er.ok (Rv.v (.tuple xs)) else .bad) = _
  rw [if_pos h]
theorem listR_bl {xs : List D} (h : xs.all flatD = true) : listR (.b (.list xs)) = .ok (.o xs) := by
  show (if xs.all flatD = true then Er.ok (Rv.o xs) else .bad) = _
  rw [if_pos h]
theorem listR_bt {xs : List D} (h : xs.all flatD = true) : listR (.b (.tuple xs)) = .ok (.o xs) := by
  show (if xs.all flatD = true then Er.ok (Rv.o xs) else .bad) = _
  rw [if_pos h]
@[simp] theorem absR_i (i : Int) : absR (.v (.int i)) = .ok (.v (.int (if i < 0 then -i else i))) := (rfl)
@[simp] theorem keep_v (d : D) : (Rv.v d).keep = .ok d := (rfl)
@[simp] theorem keep_o (d : List D) : (Rv.o d).keep = .ok (.list d) := (rfl)
@[simp] theorem keep_bi (i : Int) : (Rv.b (.int i)).keep = .ok (.int i) := (rfl)
@[simp] theorem keep_ri (i : Int) : (Rv.r (.int i)).keep = .ok (.int i) := (rfl)
/-! calls -/
@[simp] theorem callF_e (h : List Sl → Fr) (r : AF) : callF h r ρ = (r ρ).bind fun rs => (h (rs.map Rv.sl)).rv := (rfl)
@[simp] theorem sl_v (d : D) : (Rv.v d).sl = .v d := (rfl)
@[simp] theorem sl_b (d : D) : (Rv.b d).sl = .b d := (rfl)
@[simp] theorem sl_r (d : D) : (Rv.r d).sl = .b d := (rfl)
@[simp] theorem rv_v (d : D) : (Fr.ret (.v d)).rv = .ok (.v d) := (rfl)
@[simp] theorem rv_b (d : D) : (Fr.ret (.b d)).rv = .ok (.r d) := (rfl)
@[simp] theorem rv_o (d : List D) : (Fr.ret (.o d)).rv = .ok (.o d) := (rfl)
@[simp] theorem rv_exc (c : Str) (p) : (Fr.exc c p).rv = .exc c p := (rfl)
/-! statements -/
@[simp] theorem skipS_e : skipS ρ = .next ρ := (rfl)
@[simp] theorem brkS_e : brkS ρ = .brk ρ := (rfl)
@[simp] theorem contS_e : contS ρ = .cont ρ := (rfl)
def seqR (r : Res) (g : SF) : Res := match r with
  | .next ρ' => g ρ'
  | r => r
@[simp] theorem seqS_e : seqS s1 s2 ρ = seqR (s1 ρ) s2 := (rfl)
@[simp] theorem seqR_n (ρ' : Env) : seqR (.next ρ') s = s ρ' := (rfl)
@[simp] theorem seqR_r (r : Rv) : seqR (.ret r) s = .ret r := (rfl)
@[simp] theorem seqR_b (ρ' : Env) : seqR (.brk ρ') s = .brk ρ' := (rfl)
@[simp] theorem seqR_c (ρ' : Env) : seqR (.cont ρ') s = .cont ρ' := (rfl)
@[simp] theorem seqR_x (c : Str) (p) (ρ' : Env) : seqR (.exc c p ρ') s = .exc c p ρ' := (rfl)
@[simp] theorem seqR_d : seqR .bad s = .bad := (rfl)
theorem seqR_if (c : Bool) (a b : Res) : seqR (if c = true then a else b) s = if c = true then seqR a s else seqR b s := by
  cases c <;> rfl
@[simp] theorem thenS_ok (r : Rv) (h : Rv → Res) : thenS ρ (.ok r) h = h r := (rfl)
@[simp] theorem thenS_x (c : Str) (p) (h : Rv → Res) : thenS ρ (.exc c p) h = .exc c p ρ := (rfl)
@[simp] theorem thenT_ok (r : Bool) (h : Bool → Res) : thenT ρ (.ok r) h = h r := (rfl)
@[simp] theorem thenT_x (c : Str) (p) (h : Bool → Res) : thenT ρ (.exc c p) h = .exc c p ρ := (rfl)
@[simp] theorem thenI_ok (r : List Rv) (h : List Rv → Res) : thenI ρ (.ok r) h = h r := (rfl)
@[simp] theorem thenM_ok (r : Rv) (ρ' : Env) (h : Rv → Env → Res) : thenM ρ (.ok (r, ρ')) h = h r ρ' := (rfl)
@[simp] theorem liftE_ok (ρ' : Env) : liftE ρ (.ok ρ') = .next ρ' := (rfl)
variable {τ : TF}
@[simp] theorem asgS_e : asgS f τ ρ = thenS ρ (f ρ) fun r => liftE ρ (τ r ρ) := (rfl)
@[simp] theorem asgn_v (i : Nat) (d : D) : asgn i (.v d) ρ = .ok (ρ.set i (.v d)) := (rfl)
@[simp] theorem asgn_b (i : Nat) (d : D) : asgn i (.b d) ρ = .ok (ρ.set i (.b d)) := (rfl)
@[simp] theorem asgn_o (i : Nat) (d : List D) : asgn i (.o d) ρ = .ok (ρ.set i (.o d)) := (rfl)
@[simp] theorem asgn_okd (i : Nat) (d : List (Key × D)) : asgn i (.ok d) ρ = .ok (ρ.set i (.k d)) := (rfl)
@[simp] theorem asgn_ri (i : Nat) (d : Int) : asgn i (.r (.int d)) ρ = .ok (ρ.set i (.v (.int d))) := (rfl)
@[simp] theorem unpT_2 (τ1 τ2 : TF) (a b : D) : unpT [τ1, τ2] (.v (.tuple [a, b])) ρ = (τ1 (.v a) ρ).bind fun ρ' => (τ2 (.v b) ρ').bind fun ρ'' => .ok ρ'' := (rfl)
@[simp] theorem unpT_2b (τ1 τ2 : TF) (a b : D) : unpT [τ1, τ2] (.b (.tuple [a, b])) ρ = (τ1 (.b a) ρ).bind fun ρ' => (τ2 (.b b) ρ').bind fun ρ'' => .ok ρ'' := (rfl)
@[simp] theorem unpT_4 (τ1 τ2 τ3 τ4 : TF) (a b c d : D) : unpT [τ1, τ2, τ3, τ4] (.v (.tuple [a, b, c, d])) ρ = (τ1 (.v a) ρ).bind fun ρ' => (τ2 (.v b) ρ').bind fun ρ'' => (τ3 (.v c) ρ'').bind fun ρ3 => (τ4 (.v d) ρ3).bind fun ρ4 => .ok ρ4 := (rfl)
@[simp] theorem retS_e : retS f ρ = thenS ρ (f ρ) retR := (rfl)
@[simp] theorem retR_v (d : D) : retR (.v d) = .ret (.v d) := (rfl)
@[simp] theorem retR_b (d : D) : retR (.b d) = .ret (.b d) := (rfl)
@[simp] theorem retR_o (d : List D) : retR (.o d) = .ret (.o d) := (rfl)
@[simp] theorem retR_ri (d : Int) : retR (.r (.int d)) = .ret (.v (.int d)) := (rfl)
def retSl : Sl → Res
  | .v d => .ret (.v d)
  | .b d => .ret (.b d)
  | .o xs => .ret (.o xs)
  | .k kvs => .ret (.ok kvs)
  | .y xss => .ret (.y xss)
  | _ => .bad
@[simp] theorem retVar_e (i : Nat) : retVar i ρ = retSl (slot ρ i) := by
  unfold retVar retSl
  cases slot ρ i <;> rfl
@[simp] theorem retSl_v (d : D) : retSl (.v d) = .ret (.v d) := (rfl)
@[simp] theorem retSl_b (d : D) : retSl (.b d) = .ret (.b d) := (rfl)
@[simp] theorem retSl_o (d : List D) : retSl (.o d) = .ret (.o d) := (rfl)
@[simp] theorem retSl_y (d : List (List D)) : retSl (.y d) = .ret (.y d) := (rfl)
@[simp] theorem rd_ee (d : List D) : (Sl.e d).rd = .ok (.b (.list d)) := (rfl)
@[simp] theorem rd_z (l : Addr) (d : List (List D)) : (Sl.z l d).rd = .ok (.b (.list (d.map .list))) := (rfl)
@[simp] theorem ifS_e : ifS t s1 s2 ρ = thenT ρ (t ρ) fun b => if b = true then s1 ρ else s2 ρ := (rfl)
@[simp] theorem forS_e (it : IF) : forS it τ s ρ = thenI ρ (it ρ) fun rs => forL τ s rs ρ := (rfl)
@[simp] theorem exprS_e : exprS f ρ = thenS ρ (f ρ) fun _ => .next ρ := (rfl)
@[simp] theorem frzS_e (i : Nat) : frzS i s ρ = s (frzE ρ i) := (rfl)
@[simp] theorem frzE_e (i : Nat) : frzE ρ i = ρ.set i (slot ρ i).frz := (rfl)
@[simp] theorem sfrz_v (d : D) : (Sl.v d).frz = .v d := (rfl)
@[simp] theorem sfrz_b (d : D) : (Sl.b d).frz = .b d := (rfl)
@[simp] theorem sfrz_o (d : List D) : (Sl.o d).frz = .v (.list d) := (rfl)
@[simp] theorem sfrz_u : (Sl.u).frz = .u := (rfl)
@[simp] theorem sfrz_k (d : List (Key × D)) : (Sl.k d).frz = .k d := (rfl)
theorem appS_e {i : Nat} {xs : List D} (h : slot ρ i = .o xs) (hl : xs.length < 100000) : appS i f ρ = thenS ρ (f ρ) fun r => match r.keep with
    | .ok d => .next (ρ.set i (.o (xs ++ [d])))
    | _ => .bad := by
  unfold appS
  rw [h]
  show thenS ρ (f ρ) _ = _
  congr 1
  funext r
  cases r.keep <;> simp [hl]
theorem mutS_e {i : Nat} {xs : List D} {χ : List D → List D} (h : slot ρ i = .o xs) : mutS i χ ρ = .next (ρ.set i (.o (χ xs))) := by
  unfold mutS
  rw [h]
@[simp] theorem itF_e (it : Rv → Er (List Rv)) : itF it f ρ = (f ρ).bind it := (rfl)
@[simp] theorem enF_e (it : Rv → Er (List Rv)) : enF it f ρ = (f ρ).bind fun a => (it a).bind fun rs => .ok (enR 0 rs) := (rfl)
@[simp] theorem itS_vt (xs : List D) : itS (.v (.tuple xs)) = .ok (xs.map .v) := (rfl)
@[simp] theorem itS_vl (xs : List D) : itS (.v (.list xs)) = .ok (xs.map .v) := (rfl)
@[simp] theorem itS_bt (xs : List D) : itS (.b (.tuple xs)) = .ok (xs.map .b) := (rfl)
@[simp] theorem itS_bl (xs : List D) : itS (.b (.list xs)) = .ok (xs.map .b) := (rfl)
@[simp] theorem itS_o (xs : List D) : itS (.o xs) = .ok (xs.map .v) := (rfl)
@[simp] theorem itC_vt (xs : List D) : itC (.v (.tuple xs)) = .ok (xs.map .v) := (rfl)
@[simp] theorem itC_vl (xs : List D) : itC (.v (.list xs)) = .ok (xs.map .v) := (rfl)
@[simp] theorem itC_bt (xs : List D) : itC (.b (.tuple xs)) = .ok (xs.map .b) := (rfl)
@[simp] theorem itC_bl (xs : List D) : itC (.b (.list xs)) = .ok (xs.map .b) := (rfl)
@[simp] theorem itC_w (xs : List D) : itC (.w xs) = .ok (xs.map .v) := (rfl)
@[simp] theorem itC_o (xs : List D) : itC (.o xs) = .ok (xs.map .v) := (rfl)
theorem rg1_e {n : Int} {a : Rv} (h : f ρ = .ok a) (hd : a.dat = some (.int n)) (hn : n ≤ 1000000 ∧ -1000000 ≤ n) : rg1F f ρ = .ok (rgR 0 n) := by
  unfold rg1F
  rw [h]
  show (match a.dat with | some (.int n) => if n ≤ 1000000 ∧ -1000000 ≤ n then Er.ok (rgR 0 n) else .bad | _ => .bad) = _
  rw [hd]
  show (if n ≤ 1000000 ∧ -1000000 ≤ n then Er.ok (rgR 0 n) else .bad) = _
  rw [if_pos hn]
theorem rgR_nat (n : Nat) : rgR 0 (n : Int) = (List.range n).map fun (i : Nat) => Rv.v (.int (i : Int)) := by
  unfold rgR
  have : ((n : Int) - 0).toNat = n := by omega
  rw [this]
  congr 1
  funext i
  rw [Int.zero_add]
theorem lrg_e {n : Nat} {a : Rv} (h : f ρ = .ok a) (hd : a.dat = some (.int (n : Int))) (hn : n ≤ 1000000) : lrgF (cF (.int 0)) f ρ = .ok (.o ((List.range n).map fun (i : Nat) => .int (i : Int))) := by
  unfold lrgF
  rw [h]
  show (match (some (.int 0) : Option D), a.dat with | some (.int i), some (.int j) => if (0 ≤ i ∧ i ≤ 1000000) ∧ (0 ≤ j ∧ j ≤ 1000000) then Er.ok (Rv.o (intsD i j)) else .bad | _, _ => .bad) = _
  rw [hd]
  show (if ((0 : Int) ≤ 0 ∧ (0 : Int) ≤ 1000000) ∧ (0 ≤ (n : Int) ∧ (n : Int) ≤ 1000000) then Er.ok (Rv.o (intsD 0 n)) else .bad) = _
  rw [if_pos (by omega)]
  unfold intsD
  have : ((n : Int) - 0).toNat = n := by omega
  rw [this]
  congr 2
  apply List.map_congr_left
  intro i _
  rw [Int.zero_add]

@[simp] theorem slot_0 (a0 : Sl) (ρ : Env) : slot (a0 :: ρ) 0 = a0 := (rfl)
@[simp] theorem set_0 (a0 x : Sl) (ρ : Env) : List.set (a0 :: ρ) 0 x = x :: ρ := (rfl)
@[simp] theorem slot_1 (a0 a1 : Sl) (ρ : Env) : slot (a0 :: a1 :: ρ) 1 = a1 := (rfl)
@[simp] theorem set_1 (a0 a1 x : Sl) (ρ : Env) : List.set (a0 :: a1 :: ρ) 1 x = a0 :: x :: ρ := (rfl)
@[simp] theorem slot_2 (a0 a1 a2 : Sl) (ρ : Env) : slot (a0 :: a1 :: a2 :: ρ) 2 = a2 := (rfl)
@[simp] theorem set_2 (a0 a1 a2 x : Sl) (ρ : Env) : List.set (a0 :: a1 :: a2 :: ρ) 2 x = a0 :: a1 :: x :: ρ := (rfl)
@[simp] theorem slot_3 (a0 a1 a2 a3 : Sl) (ρ : Env) : slot (a0 :: a1 :: a2 :: a3 :: ρ) 3 = a3 := (rfl)
@[simp] theorem set_3 (a0 a1 a2 a3 x : Sl) (ρ : Env) : List.set (a0 :: a1 :: a2 :: a3 :: ρ) 3 x = a0 :: a1 :: a2 :: x :: ρ := (rfl)
@[simp] theorem slot_4 (a0 a1 a2 a3 a4 : Sl) (ρ : Env) : slot (a0 :: a1 :: a2 :: a3 :: a4 :: ρ) 4 = a4 := (rfl)
@[simp] theorem set_4 (a0 a1 a2 a3 a4 x : Sl) (ρ : Env) : List.set (a0 :: a1 :: a2 :: a3 :: a4 :: ρ) 4 x = a0 :: a1 :: a2 :: a3 :: x :: ρ := (rfl)
@[simp] theorem slot_5 (a0 a1 a2 a3 a4 a5 : Sl) (ρ : Env) : slot (a0 :: a1 :: a2 :: a3 :: a4 :: a5 :: ρ) 5 = a5 := (rfl)
@[simp] theorem set_5 (a0 a1 a2 a3 a4 a5 x : Sl) (ρ : Env) : List.set (a0 :: a1 :: a2 :: a3 :: a4 :: a5 :: ρ) 5 x = a0 :: a1 :: a2 :: a3 :: a4 :: x :: ρ := (rfl)
@[simp] theorem slot_6 (a0 a1 a2 a3 a4 a5 a6 : Sl) (ρ : Env) : slot (a0 :: a1 :: a2 :: a3 :: a4 :: a5 :: a6 :: ρ) 6 = a6 := (rfl)
@[simp] theorem set_6 (a0 a1 a2 a3 a4 a5 a6 x : Sl) (ρ : Env) : List.set (a0 :: a1 :: a2 :: a3 :: a4 :: a5 :: a6 :: ρ) 6 x = a0 :: a1 :: a2 :: a3 :: a4 :: a5 :: x :: ρ := (rfl)
@[simp] theorem slot_7 (a0 a1 a2 a3 a4 a5 a6 a7 : Sl) (ρ : Env) : slot (a0 :: a1 :: a2 :: a3 :: a4 :: a5 :: a6 :: a7 :: ρ) 7 = a7 := (rfl)
@[simp] theorem set_7 (a0 a1 a2 a3 a4 a5 a6 a7 x : Sl) (ρ : Env) : List.set (a0 :: a1 :: a2 :: a3 :: a4 :: a5 :: a6 :: a7 :: ρ) 7 x = a0 :: a1 :: a2 :: a3 :: a4 :: a5 :: a6 :: x :: ρ := (rfl)
@[simp] theorem slot_8 (a0 a1 a2 a3 a4 a5 a6 a7 a8 : Sl) (ρ : Env) : slot (a0 :: a1 :: a2 :: a3 :: a4 :: a5 :: a6 :: a7 :: a8 :: ρ) 8 = a8 := (rfl)
@[simp] theorem set_8 (a0 a1 a2 a3 a4 a5 a6 a7 a8 x : Sl) (ρ : Env) : List.set (a0 :: a1 :: a2 :: a3 :: a4 :: a5 :: a6 :: a7 :: a8 :: ρ) 8 x = a0 :: a1 :: a2 :: a3 :: a4 :: a5 :: a6 :: a7 :: x :: ρ := (rfl)
@[simp] theorem slot_9 (a0 a1 a2 a3 a4 a5 a6 a7 a8 a9 : Sl) (ρ : Env) : slot (a0 :: a1 :: a2 :: a3 :: a4 :: a5 :: a6 :: a7 :: a8 :: a9 :: ρ) 9 = a9 := (rfl)
@[simp] theorem set_9 (a0 a1 a2 a3 a4 a5 a6 a7 a8 a9 x : Sl) (ρ : Env) : List.set (a0 :: a1 :: a2 :: a3 :: a4 :: a5 :: a6 :: a7 :: a8 :: a9 :: ρ) 9 x = a0 :: a1 :: a2 :: a3 :: a4 :: a5 :: a6 :: a7 :: a8 :: x :: ρ := (rfl)
@[simp] theorem slot_10 (a0 a1 a2 a3 a4 a5 a6 a7 a8 a9 a10 : Sl) (ρ : Env) : slot (a0 :: a1 :: a2 :: a3 :: a4 :: a5 :: a6 :: a7 :: a8 :: a9 :: a10 :: ρ) 10 = a10 := (rfl)
@[simp] theorem set_10 (a0 a1 a2 a3 a4 a5 a6 a7 a8 a9 a10 x : Sl) (ρ : Env) : List.set (a0 :: a1 :: a2 :: a3 :: a4 :: a5 :: a6 :: a7 :: a8 :: a9 :: a10 :: ρ) 10 x = a0 :: a1 :: a2 :: a3 :: a4 :: a5 :: a6 :: a7 :: a8 :: a9 :: x :: ρ := (rfl)
@[simp] theorem slot_11 (a0 a1 a2 a3 a4 a5 a6 a7 a8 a9 a10 a11 : Sl) (ρ : Env) : slot (a0 :: a1 :: a2 :: a3 :: a4 :: a5 :: a6 :: a7 :: a8 :: a9 :: a10 :: a11 :: ρ) 11 = a11 := (rfl)
@[simp] theorem set_11 (a0 a1 a2 a3 a4 a5 a6 a7 a8 a9 a10 a11 x : Sl) (ρ : Env) : List.set (a0 :: a1 :: a2 :: a3 :: a4 :: a5 :: a6 :: a7 :: a8 :: a9 :: a10 :: a11 :: ρ) 11 x = a0 :: a1 :: a2 :: a3 :: a4 :: a5 :: a6 :: a7 :: a8 :: a9 :: a10 :: x :: ρ := (rfl)
@[simp] theorem slot_12 (a0 a1 a2 a3 a4 a5 a6 a7 a8 a9 a10 a11 a12 : Sl) (ρ : Env) : slot (a0 :: a1 :: a2 :: a3 :: a4 :: a5 :: a6 :: a7 :: a8 :: a9 :: a10 :: a11 :: a12 :: ρ) 12 = a12 := (rfl)
@[simp] theorem set_12 (a0 a1 a2 a3 a4 a5 a6 a7 a8 a9 a10 a11 a12 x : Sl) (ρ : Env) : List.set (a0 :: a1 :: a2 :: a3 :: a4 :: a5 :: a6 :: a7 :: a8 :: a9 :: a10 :: a11 :: a12 :: ρ) 12 x = a0 :: a1 :: a2 :: a3 :: a4 :: a5 :: a6 :: a7 :: a8 :: a9 :: a10 :: a11 :: x :: ρ := (rfl)
@[simp] theorem slot_13 (a0 a1 a2 a3 a4 a5 a6 a7 a8 a9 a10 a11 a12 a13 : Sl) (ρ : Env) : slot (a0 :: a1 :: a2 :: a3 :: a4 :: a5 :: a6 :: a7 :: a8 :: a9 :: a10 :: a11 :: a12 :: a13 :: ρ) 13 = a13 := (rfl)
@[simp] theorem set_13 (a0 a1 a2 a3 a4 a5 a6 a7 a8 a9 a10 a11 a12 a13 x : Sl) (ρ : Env) : List.set (a0 :: a1 :: a2 :: a3 :: a4 :: a5 :: a6 :: a7 :: a8 :: a9 :: a10 :: a11 :: a12 :: a13 :: ρ) 13 x = a0 :: a1 :: a2 :: a3 :: a4 :: a5 :: a6 :: a7 :: a8 :: a9 :: a10 :: a11 :: a12 :: x :: ρ := (rfl)
@[simp] theorem slot_14 (a0 a1 a2 a3 a4 a5 a6 a7 a8 a9 a10 a11 a12 a13 a14 : Sl) (ρ : Env) : slot (a0 :: a1 :: a2 :: a3 :: a4 :: a5 :: a6 :: a7 :: a8 :: a9 :: a10 :: a11 :: a12 :: a13 :: a14 :: ρ) 14 = a14 := (rfl)
@[simp] theorem set_14 (a0 a1 a2 a3 a4 a5 a6 a7 a8 a9 a10 a11 a12 a13 a14 x : Sl) (ρ : Env) : List.set (a0 :: a1 :: a2 :: a3 :: a4 :: a5 :: a6 :: a7 :: a8 :: a9 :: a10 :: a11 :: a12 :: a13 :: a14 :: ρ) 14 x = a0 :: a1 :: a2 :: a3 :: a4 :: a5 :: a6 :: a7 :: a8 :: a9 :: a10 :: a11 :: a12 :: a13 :: x :: ρ := (rfl)
@[simp] theorem slot_15 (a0 a1 a2 a3 a4 a5 a6 a7 a8 a9 a10 a11 a12 a13 a14 a15 : Sl) (ρ : Env) : slot (a0 :: a1 :: a2 :: a3 :: a4 :: a5 :: a6 :: a7 :: a8 :: a9 :: a10 :: a11 :: a12 :: a13 :: a14 :: a15 :: ρ) 15 = a15 := (rfl)
@[simp] theorem set_15 (a0 a1 a2 a3 a4 a5 a6 a7 a8 a9 a10 a11 a12 a13 a14 a15 x : Sl) (ρ : Env) : List.set (a0 :: a1 :: a2 :: a3 :: a4 :: a5 :: a6 :: a7 :: a8 :: a9 :: a10 :: a11 :: a12 :: a13 :: a14 :: a15 :: ρ) 15 x = a0 :: a1 :: a2 :: a3 :: a4 :: a5 :: a6 :: a7 :: a8 :: a9 :: a10 :: a11 :: a12 :: a13 :: a14 :: x :: ρ := (rfl)
@[simp] theorem slot_16 (a0 a1 a2 a3 a4 a5 a6 a7 a8 a9 a10 a11 a12 a13 a14 a15 a16 : Sl) (ρ : Env) : slot (a0 :: a1 :: a2 :: a3 :: a4 :: a5 :: a6 :: a7 :: a8 :: a9 :: a10 :: a11 :: a12 :: a13 :: a14 :: a15 :: a16 :: ρ) 16 = a16 := (rfl)
@[simp] theorem set_16 (a0 a1 a2 a3 a4 a5 a6 a7 a8 a9 a10 a11 a12 a13 a14 a15 a16 x : Sl) (ρ : Env) : List.set (a0 :: a1 :: a2 :: a3 :: a4 :: a5 :: a6 :: a7 :: a8 :: a9 :: a10 :: a11 :: a12 :: a13 :: a14 :: a15 :: a16 :: ρ) 16 x = a0 :: a1 :: a2 :: a3 :: a4 :: a5 :: a6 :: a7 :: a8 :: a9 :: a10 :: a11 :: a12 :: a13 :: a14 :: a15 :: x :: ρ := (rfl)
@[simp] theorem slot_17 (a0 a1 a2 a3 a4 a5 a6 a7 a8 a9 a10 a11 a12 a13 a14 a15 a16 a17 : Sl) (ρ : Env) : slot (a0 :: a1 :: a2 :: a3 :: a4 :: a5 :: a6 :: a7 :: a8 :: a9 :: a10 :: a11 :: a12 :: a13 :: a14 :: a15 :: a16 :: a17 :: ρ) 17 = a17 := (rfl)
@[simp] theorem set_17 (a0 a1 a2 a3 a4 a5 a6 a7 a8 a9 a10 a11 a12 a13 a14 a15 a16 a17 x : Sl) (ρ : Env) : List.set (a0 :: a1 :: a2 :: a3 :: a4 :: a5 :: a6 :: a7 :: a8 :: a9 :: a10 :: a11 :: a12 :: a13 :: a14 :: a15 :: a16 :: a17 :: ρ) 17 x = a0 :: a1 :: a2 :: a3 :: a4 :: a5 :: a6 :: a7 :: a8 :: a9 :: a10 :: a11 :: a12 :: a13 :: a14 :: a15 :: a16 :: x :: ρ := (rfl)
@[simp] theorem slot_18 (a0 a1 a2 a3 a4 a5 a6 a7 a8 a9 a10 a11 a12 a13 a14 a15 a16 a17 a18 : Sl) (ρ : Env) : slot (a0 :: a1 :: a2 :: a3 :: a4 :: a5 :: a6 :: a7 :: a8 :: a9 :: a10 :: a11 :: a12 :: a13 :: a14 :: a15 :: a16 :: a17 :: a18 :: ρ) 18 = a18 := (rfl)
@[simp] theorem set_18 (a0 a1 a2 a3 a4 a5 a6 a7 a8 a9 a10 a11 a12 a13 a14 a15 a16 a17 a18 x : Sl) (ρ : Env) : List.set (a0 :: a1 :: a2 :: a3 :: a4 :: a5 :: a6 :: a7 :: a8 :: a9 :: a10 :: a11 :: a12 :: a13 :: a14 :: a15 :: a16 :: a17 :: a18 :: ρ) 18 x = a0 :: a1 :: a2 :: a3 :: a4 :: a5 :: a6 :: a7 :: a8 :: a9 :: a10 :: a11 :: a12 :: a13 :: a14 :: a15 :: a16 :: a17 :: x :: ρ := (rfl)
@[simp] theorem slot_19 (a0 a1 a2 a3 a4 a5 a6 a7 a8 a9 a10 a11 a12 a13 a14 a15 a16 a17 a18 a19 : Sl) (ρ : Env) : slot (a0 :: a1 :: a2 :: a3 :: a4 :: a5 :: a6 :: a7 :: a8 :: a9 :: a10 :: a11 :: a12 :: a13 :: a14 :: a15 :: a16 :: a17 :: a18 :: a19 :: ρ) 19 = a19 := (rfl)
@[simp] theorem set_19 (a0 a1 a2 a3 a4 a5 a6 a7 a8 a9 a10 a11 a12 a13 a14 a15 a16 a17 a18 a19 x : Sl) (ρ : Env) : List.set (a0 :: a1 :: a2 :: a3 :: a4 :: a5 :: a6 :: a7 :: a8 :: a9 :: a10 :: a11 :: a12 :: a13 :: a14 :: a15 :: a16 :: a17 :: a18 :: a19 :: ρ) 19 x = a0 :: a1 :: a2 :: a3 :: a4 :: a5 :: a6 :: a7 :: a8 :: a9 :: a10 :: a11 :: a12 :: a13 :: a14 :: a15 :: a16 :: a17 :: a18 :: x :: ρ := (rfl)
@[simp] theorem wipe_nil : wipeE ρ [] = ρ := rfl
@[simp] theorem wipe_cons (v : Nat) (vs : List Nat) : wipeE ρ (v :: vs) = (wipeE ρ vs).set v .u := (rfl)
/-! loops -/
theorem forL_rule {τ : TF} {s : SF} (P : Nat → Env → Prop) (G : Res → Prop) : ∀ (rs : List Rv) (j : Nat) (ρ : Env), P j ρ →
    (∀ i r ρ, rs[i]? = some r → P (j + i) ρ → ∃ ρ1, τ r ρ = .ok ρ1 ∧ (match s ρ1 with | .next ρ' => P (j + i + 1) ρ' | .cont ρ' => P (j + i + 1) ρ' | .brk ρ' => G (.next ρ') | x => G x)) →
    (∀ ρ, P (j + rs.length) ρ → G (.next ρ)) → G (forL τ s rs ρ)
  | [], j, ρ, h0, _, hd => hd ρ h0
  | r :: rs, j, ρ, h0, hs, hd => by
    obtain ⟨ρ1, e1, h1⟩ := hs 0 r ρ rfl h0
    unfold forL
    rw [e1]
    show G (match s ρ1 with | .next ρ' => forL τ s rs ρ' | .cont ρ' => forL τ s rs ρ' | .brk ρ' => .next ρ' | x => x)
    have ih : ∀ ρ', P (j + 1) ρ' → G (forL τ s rs ρ') := fun ρ' h' => forL_rule P G rs (j + 1) ρ' h' (fun i r' ρ2 e p => by
      have := hs (i + 1) r' ρ2 (by simpa using e) (by rw [show j + (i + 1) = j + 1 + i by omega]; exact p)
      rw [show j + (i + 1) + 1 = j + 1 + i + 1 by omega] at this
      exact this) (fun ρ2 p => hd ρ2 (by rw [List.length_cons, show j + (rs.length + 1) = j + 1 + rs.length by omega]; exact p))
    cases e : s ρ1 with
    | next ρ' => rw [e] at h1; exact ih ρ' h1
    | cont ρ' => rw [e] at h1; exact ih ρ' h1
    | brk ρ' => rw [e] at h1; exact h1
    | ret v => rw [e] at h1; exact h1
    | exc c p ρ' => rw [e] at h1; exact h1
    | bad => rw [e] at h1; exact h1
/-- a loop that goes through, by what holds behind each turn -/
theorem forL_go {τ : TF} {s : SF} {rs : List Rv} {ρ : Env} (P : Nat → Env → Prop) (h0 : P 0 ρ) (hs : ∀ i r ρ, rs[i]? = some r → P i ρ → ∃ ρ1 ρ', τ r ρ = .ok ρ1 ∧ s ρ1 = .next ρ' ∧ P (i + 1) ρ') : ∃ ρ', forL τ s rs ρ = .next ρ' ∧ P rs.length ρ' := by
  refine forL_rule P (fun r => ∃ ρ', r = .next ρ' ∧ P rs.length ρ') rs 0 ρ h0 (fun i r ρ e p => ?_) (fun ρ p => ⟨ρ, rfl, by simpa using p⟩)
  rw [Nat.zero_add] at p ⊢
  obtain ⟨ρ1, ρ', e1, e2, p'⟩ := hs i r ρ e p
  refine ⟨ρ1, e1, ?_⟩
  rw [e2]
  exact p'
theorem whileN_rule {t : Env → Er Bool} {s : SF} (P : Env → Prop) (μ : Env → Nat) (G : Res → Prop)
    (hs : ∀ ρ, P ρ → ∃ b, t ρ = .ok b ∧ (b = true → match s ρ with | .next ρ' => P ρ' ∧ μ ρ' < μ ρ | .cont ρ' => P ρ' ∧ μ ρ' < μ ρ | .brk ρ' => G (.next ρ') | x => G x) ∧ (b = false → G (.next ρ))) :
    ∀ (n : Nat) (ρ : Env), P ρ → μ ρ < n → G (whileN t s n ρ)
  | 0, ρ, _, h => by omega
  | n + 1, ρ, p, h => by
    obtain ⟨b, e, h1, h2⟩ := hs ρ p
    unfold whileN
    rw [e]
    show G (if b = true then (match s ρ with | .next ρ' => whileN t s n ρ' | .cont ρ' => whileN t s n ρ' | .brk ρ' => .next ρ' | x => x) else .next ρ)
    cases b with
    | false => exact h2 rfl
    | true =>
      rw [if_pos rfl]
      have h1 := h1 rfl
      cases e : s ρ with
      | next ρ' => rw [e] at h1; exact whileN_rule P μ G hs n ρ' h1.1 (by omega)
      | cont ρ' => rw [e] at h1; exact whileN_rule P μ G hs n ρ' h1.1 (by omega)
      | brk ρ' => rw [e] at h1; exact h1
      | ret v => rw [e] at h1; exact h1
      | exc c p ρ' => rw [e] at h1; exact h1
      | bad => rw [e] at h1; exact h1
theorem whileS_rule {t : Env → Er Bool} {s : SF} {ρ : Env} (P : Env → Prop) (μ : Env → Nat) (G : Res → Prop) (h0 : P ρ) (hμ : μ ρ < 1000000)
    (hs : ∀ ρ, P ρ → ∃ b, t ρ = .ok b ∧ (b = true → match s ρ with | .next ρ' => P ρ' ∧ μ ρ' < μ ρ | .cont ρ' => P ρ' ∧ μ ρ' < μ ρ | .brk ρ' => G (.next ρ') | x => G x) ∧ (b = false → G (.next ρ))) : G (whileS t s ρ) :=
  whileN_rule P μ G hs _ ρ h0 hμ
theorem whileS_go {t : Env → Er Bool} {s : SF} {ρ : Env} (P : Env → Prop) (μ : Env → Nat) (h0 : P ρ) (hμ : μ ρ < 1000000)
    (hs : ∀ ρ, P ρ → ∃ b, t ρ = .ok b ∧ (b = true → ∃ ρ', s ρ = .next ρ' ∧ P ρ' ∧ μ ρ' < μ ρ)) : ∃ ρ', whileS t s ρ = .next ρ' ∧ P ρ' ∧ t ρ' = .ok false := by
  refine whileS_rule P μ (fun r => ∃ ρ', r = .next ρ' ∧ P ρ' ∧ t ρ' = .ok false) h0 hμ fun ρ p => ?_
  obtain ⟨b, e, h⟩ := hs ρ p
  refine ⟨b, e, fun hb => ?_, fun hb => ⟨ρ, rfl, p, by rw [e, hb]⟩⟩
  obtain ⟨ρ', e2, h2⟩ := h hb
  rw [e2]
  exact h2
/-- a comprehension without a test, by its items -/
theorem lc_all {τ : TF} {e : EF} {ρ : Env} (x : Nat → D) : ∀ (rs : List Rv) (j : Nat), (∀ i r, rs[i]? = some r → ∃ ρ' a, τ r ρ = .ok ρ' ∧ e ρ' = .ok a ∧ a.keep = .ok (x (j + i))) → lcLoop τ yesT e ρ rs = .ok ((List.range rs.length).map fun i => x (j + i))
  | [], j, _ => rfl
  | r :: rs, j, h => by
    obtain ⟨ρ', a, e1, e2, e3⟩ := h 0 r rfl
    have ih := lc_all x rs (j + 1) fun i r' er => by
      have := h (i + 1) r' (by simpa using er)
      rw [show j + (i + 1) = j + 1 + i by omega] at this
      exact this
    unfold lcLoop
    rw [e1]
    simp only [yesT, noX_okk, bind_ok, if_true, e2, e3, ih]
    rw [List.length_cons, List.range_succ_eq_map, List.map_cons, List.map_map]
    congr 2
    apply List.map_congr_left
    intro i _
    show x (j + 1 + i) = x (j + (i + 1))
    congr 1
    omega
theorem lcF_all {it : IF} {τ : TF} {vs : List Nat} {e : EF} {ρ : Env} {rs : List Rv} (x : Nat → D) (hi : it ρ = .ok rs) (hl : rs.length ≤ 100000) (h : ∀ i r, rs[i]? = some r → ∃ ρ' a, τ r (wipeE ρ vs) = .ok ρ' ∧ e ρ' = .ok a ∧ a.keep = .ok (x i)) :
    lcF it τ vs yesT e ρ = .ok (.o ((List.range rs.length).map x)) := by
  unfold lcF
  rw [hi]
  simp only [bind_ok]
  rw [if_pos hl, lc_all x rs 0 (by simpa using h)]
  simp only [bind_ok, Nat.zero_add]
end
end Sq

/-! Rows, sheets, and when two data are equal: plain Lean. -/
namespace Sq
open PySem L2
def nD (r : List Nat) : List D := r.map fun n : Nat => .int (n : Int)
def zD (r : List Int) : List D := r.map .int
@[simp] theorem nD_len (r : List Nat) : (nD r).length = r.length := by simp [nD]
@[simp] theorem zD_len (r : List Int) : (zD r).length = r.length := by simp [zD]
@[simp] theorem nD_get (r : List Nat) (i : Nat) : (nD r)[i]? = (r[i]?).map fun n : Nat => .int (n : Int) := by simp [nD]
theorem nD_app (r s : List Nat) : nD (r ++ s) = nD r ++ nD s := by simp [nD]
theorem nD_inj {r s : List Nat} (h : nD r = nD s) : r = s := by
  unfold nD at h
  exact List.map_inj_right (fun a b e => by injection e with e; omega) |>.mp h
/-! tidy data -/
def td : Nat → D → Bool
  | _, .int _ => true
  | _, .none => true
  | k + 1, .tuple xs => xs.all (td k)
  | k + 1, .list xs => xs.all (td k)
  | _, _ => false
theorem td_lay : ∀ (k : Nat) (d : D), td k d = true → d.canLay0 = true ∧ d.depth ≤ k := by
  have all : ∀ (k : Nat), (∀ d : D, td k d = true → d.canLay0 = true ∧ d.depth ≤ k) → ∀ xs : List D, xs.all (td k) = true → PyData.canLayAll0 xs = true ∧ PyData.depthAll xs ≤ k := by
    intro k ih xs
    induction xs with
    | nil => intro _; simp [PyData.canLayAll0, PyData.depthAll]
    | cons x xs ihx =>
      intro h
      rw [List.all_cons, Bool.and_eq_true] at h
      have h1 := ih x h.1
      have h2 := ihx h.2
      rw [PyData.canLayAll0, PyData.depthAll, h1.1, h2.1]
      exact ⟨rfl, by have := h1.2; have := h2.2; omega⟩
  intro k
  induction k with
  | zero => intro d h; cases d <;> simp [td, PyData.canLay0, PyData.depth] at h ⊢
  | succ k ih =>
    intro d h
    cases d with
    | int i => simp [PyData.canLay0, PyData.depth]
    | none => simp [PyData.canLay0, PyData.depth]
    | tuple xs =>
      have := all k ih xs h
      rw [PyData.canLay0, PyData.depth]
      exact ⟨this.1, by omega⟩
    | list xs =>
      have := all k ih xs h
      rw [PyData.canLay0, PyData.depth]
      exact ⟨this.1, by omega⟩
    | _ => simp [td] at h
theorem td_shaped {k : Nat} {d : D} (h : td k d = true) (hk : k ≤ 64 := by decide) : SeqAt.shaped d = true := by
  have := td_lay k d h
  unfold SeqAt.shaped
  rw [this.1]
  simp
  omega
theorem td_eqv : ∀ (k : Nat) (d e : D), td k d = true → td k e = true → PyData.eqv d e = true → d = e := by
  have all : ∀ (k : Nat), (∀ d e : D, td k d = true → td k e = true → PyData.eqv d e = true → d = e) → ∀ xs ys : List D, xs.all (td k) = true → ys.all (td k) = true → PyData.eqvAll xs ys = true → xs = ys := by
    intro k ih xs
    induction xs with
    | nil => intro ys _ _ h; cases ys with | nil => rfl | cons y ys => simp [PyData.eqvAll] at h
    | cons x xs ihx =>
      intro ys h1 h2 h
      cases ys with
      | nil => simp [PyData.eqvAll] at h
      | cons y ys =>
        rw [List.all_cons, Bool.and_eq_true] at h1 h2
        rw [PyData.eqvAll, Bool.and_eq_true] at h
        rw [ih x y h1.1 h2.1 h.1, ihx ys h1.2 h2.2 h.2]
  intro k
  induction k with
  | zero =>
    intro d e h1 h2 h
    cases d with
    | int i => cases e with
      | int j => rw [PyData.eqv] at h; rw [eq_of_beq h]
      | none => simp [PyData.eqv] at h
      | _ => exact absurd h2 Bool.false_ne_true
    | none => cases e with
      | int j => simp [PyData.eqv] at h
      | none => rfl
      | _ => exact absurd h2 Bool.false_ne_true
    | _ => exact absurd h1 Bool.false_ne_true
  | succ k ih =>
    intro d e h1 h2 h
    cases d with
    | int i => cases e with
      | int j => rw [PyData.eqv] at h; rw [eq_of_beq h]
      | none => simp [PyData.eqv] at h
      | tuple ys => simp [PyData.eqv] at h
      | list ys => simp [PyData.eqv] at h
      | _ => exact absurd h2 Bool.false_ne_true
    | none => cases e with
      | int j => simp [PyData.eqv] at h
      | none => rfl
      | tuple ys => simp [PyData.eqv] at h
      | list ys => simp [PyData.eqv] at h
      | _ => exact absurd h2 Bool.false_ne_true
    | tuple xs => cases e with
      | int j => simp [PyData.eqv] at h
      | none => simp [PyData.eqv] at h
      | tuple ys => rw [PyData.eqv] at h; rw [all k ih xs ys h1 h2 h]
      | list ys => simp [PyData.eqv] at h
      | _ => exact absurd h2 Bool.false_ne_true
    | list xs => cases e with
      | int j => simp [PyData.eqv] at h
      | none => simp [PyData.eqv] at h
      | tuple ys => simp [PyData.eqv] at h
      | list ys => rw [PyData.eqv] at h; rw [all k ih xs ys h1 h2 h]
      | _ => exact absurd h2 Bool.false_ne_true
    | _ => exact absurd h1 Bool.false_ne_true
theorem td_eq {k : Nat} {d e : D} (h1 : td k d = true) (h2 : td k e = true) : PyData.eqv d e = true ↔ d = e :=
  ⟨td_eqv k d e h1 h2, fun h => h ▸ SeqAt.eqv_refl d (td_lay k d h1).1⟩
theorem td_mono : ∀ (k : Nat) (d : D), td k d = true → td (k + 1) d = true := by
  intro k
  induction k with
  | zero => intro d h; cases d <;> simp_all [td]
  | succ k ih =>
    intro d h
    cases d with
    | tuple xs => exact List.all_eq_true.mpr fun x hx => ih x (List.all_eq_true.mp h x hx)
    | list xs => exact List.all_eq_true.mpr fun x hx => ih x (List.all_eq_true.mp h x hx)
    | int i => rfl
    | none => rfl
    | _ => simp [td] at h
@[simp] theorem td_int (k : Nat) (i : Int) : td k (.int i) = true := by cases k <;> rfl
@[simp] theorem td_none (k : Nat) : td k .none = true := by cases k <;> rfl
@[simp] theorem td_tup (k : Nat) (xs : List D) : td (k + 1) (.tuple xs) = xs.all (td k) := rfl
@[simp] theorem td_lst (k : Nat) (xs : List D) : td (k + 1) (.list xs) = xs.all (td k) := rfl
@[simp] theorem td_nD (k : Nat) (r : List Nat) : (nD r).all (td k) = true := by simp [nD]
@[simp] theorem td_zD (k : Nat) (r : List Int) : (zD r).all (td k) = true := by simp [zD]
theorem eq_td {x y : D} (k : Nat) (h1 : td k x = true) (h2 : td k y = true) (hk : k ≤ 64 := by decide) : deq false x y = .ok (.bool (PyData.eqv x y)) := by
  unfold deq
  rw [if_pos ⟨td_shaped h1 hk, td_shaped h2 hk⟩]
  rfl
theorem ne_td {x y : D} (k : Nat) (h1 : td k x = true) (h2 : td k y = true) (hk : k ≤ 64 := by decide) : deq true x y = .ok (.bool (!PyData.eqv x y)) := by
  unfold deq
  rw [if_pos ⟨td_shaped h1 hk, td_shaped h2 hk⟩]
  rfl
theorem eq_same {x : D} (k : Nat) (h1 : td k x = true) (hk : k ≤ 64 := by decide) : deq false x x = .ok (.bool true) := by
  rw [eq_td k h1 h1 hk, (td_eq h1 h1).mpr rfl]
theorem ne_same {x : D} (k : Nat) (h1 : td k x = true) (hk : k ≤ 64 := by decide) : deq true x x = .ok (.bool false) := by
  rw [ne_td k h1 h1 hk, (td_eq h1 h1).mpr rfl]
  rfl
theorem eq_dec {x y : D} (k : Nat) {p : Prop} [Decidable p] (h1 : td k x = true) (h2 : td k y = true) (hp : x = y ↔ p) (hk : k ≤ 64 := by decide) : deq false x y = .ok (.bool (decide p)) := by
  rw [eq_td k h1 h2 hk]
  congr 2
  exact Bool.eq_iff_iff.mpr (by rw [td_eq h1 h2, hp, decide_eq_true_eq])
theorem ne_dec {x y : D} (k : Nat) {p : Prop} [Decidable p] (h1 : td k x = true) (h2 : td k y = true) (hp : x = y ↔ p) (hk : k ≤ 64 := by decide) : deq true x y = .ok (.bool (decide ¬p)) := by
  rw [ne_td k h1 h2 hk]
  congr 2
  exact Bool.eq_iff_iff.mpr (by rw [Bool.not_eq_true', Bool.eq_false_iff, Ne, td_eq h1 h2, hp, decide_eq_true_eq])
@[simp] theorem eq_ii (i j : Int) : deq false (.int i) (.int j) = .ok (.bool (decide (i = j))) :=
  eq_dec 0 rfl rfl ⟨fun h => by injection h, fun h => by rw [h]⟩
@[simp] theorem ne_ii (i j : Int) : deq true (.int i) (.int j) = .ok (.bool (decide ¬(i = j))) :=
  ne_dec 0 rfl rfl ⟨fun h => by injection h, fun h => by rw [h]⟩
@[simp] theorem nat_eq (a b : Nat) : ((a : Int) = (b : Int)) ↔ a = b := by omega
@[simp] theorem eq_bb (a b : Bool) : deq false (.bool a) (.bool b) = .ok (.bool (a == b)) := by
  unfold deq
  rw [if_pos ⟨rfl, rfl⟩, PyData.eqv]
  rfl
@[simp] theorem ne_bb (a b : Bool) : deq true (.bool a) (.bool b) = .ok (.bool (!(a == b))) := by
  unfold deq
  rw [if_pos ⟨rfl, rfl⟩, PyData.eqv]
  rfl
/-! orders -/
def ap (a : List Nat) (x : Nat) : Nat := a.getD x 0
structure Pm (a : List Nat) (m : Nat) : Prop where
  len : a.length = m
  nd : a.Nodup
  lt : ∀ x ∈ a, x < m
theorem Pm.mem {a : List Nat} {m x : Nat} (h : Pm a m) (hx : x < m) : x ∈ a := by
  refine Classical.byContradiction fun hn => ?_
  have hs : (x :: a) ⊆ List.range m := fun y hy => by
    rw [List.mem_range]
    rcases List.mem_cons.mp hy with e | e
    · omega
    · exact h.lt y e
  have := List.Nodup.length_le_of_subset (List.nodup_cons.mpr ⟨hn, h.nd⟩) hs
  rw [List.length_cons, List.length_range, h.len] at this
  omega
theorem Pm.perm {a : List Nat} {m : Nat} (h : Pm a m) : a.Perm (List.range m) :=
  (List.perm_ext_iff_of_nodup h.nd List.nodup_range).mpr fun x => by
    rw [List.mem_range]
    exact ⟨h.lt x, h.mem⟩
theorem Pm.of_perm {a : List Nat} {m : Nat} (h : a.Perm (List.range m)) : Pm a m :=
  ⟨by rw [h.length_eq, List.length_range], h.nodup_iff.mpr List.nodup_range, fun x hx => List.mem_range.mp (h.mem_iff.mp hx)⟩
theorem ap_get {a : List Nat} {x : Nat} (h : x < a.length) : a[x]? = some (ap a x) := by
  unfold ap
  rw [List.getD_eq_getElem?_getD, List.getElem?_eq_getElem h]
  rfl
theorem ap_mem {a : List Nat} {x : Nat} (h : x < a.length) : ap a x ∈ a := List.mem_of_getElem? (ap_get h)
theorem ap_of {a : List Nat} {x y : Nat} (h : a[x]? = some y) : ap a x = y := by
  unfold ap
  rw [List.getD_eq_getElem?_getD, h]
  rfl
theorem Pm.get {a : List Nat} {m x : Nat} (h : Pm a m) (hx : x < m) : a[x]? = some (ap a x) := ap_get (by rw [h.len]; exact hx)
theorem Pm.ap_lt {a : List Nat} {m x : Nat} (h : Pm a m) (hx : x < m) : ap a x < m := h.lt _ (ap_mem (by rw [h.len]; exact hx))
theorem nodup_get {a : List Nat} (h : a.Nodup) {i j : Nat} {y : Nat} (hi : a[i]? = some y) (hj : a[j]? = some y) : i = j := by
  have ⟨hi1, e1⟩ := List.getElem?_eq_some_iff.mp hi
  have ⟨hj1, e2⟩ := List.getElem?_eq_some_iff.mp hj
  have := List.pairwise_iff_getElem.mp h
  rcases Nat.lt_trichotomy i j with c | c | c
  · exact absurd (e1.trans e2.symm) (this i j hi1 hj1 c)
  · exact c
  · exact absurd (e2.trans e1.symm) (this j i hj1 hi1 c)
theorem Pm.ap_inj {a : List Nat} {m x y : Nat} (h : Pm a m) (hx : x < m) (hy : y < m) (e : ap a x = ap a y) : x = y :=
  nodup_get h.nd (h.get hx) (by rw [e]; exact h.get hy)
theorem Pm.ap_surj {a : List Nat} {m y : Nat} (h : Pm a m) (hy : y < m) : ∃ x, x < m ∧ ap a x = y := by
  have ⟨x, hx, e⟩ := List.getElem_of_mem (h.mem hy)
  exact ⟨x, by rw [← h.len]; exact hx, ap_of (by rw [List.getElem?_eq_getElem hx, e])⟩
theorem ap_set_self {w : List Nat} {i y : Nat} (h : i < w.length) : ap (w.set i y) i = y := ap_of (by rw [List.getElem?_set_self h])
theorem ap_set_ne {w : List Nat} {i j y : Nat} (h : i ≠ j) : ap (w.set i y) j = ap w j := by
  unfold ap
  rw [List.getD_eq_getElem?_getD, List.getD_eq_getElem?_getD, List.getElem?_set_ne h]
/-- a row from a rule -/
def rowOf (m : Nat) (f : Nat → Nat) : List Nat := (List.range m).map f
@[simp] theorem rowOf_len (m : Nat) (f : Nat → Nat) : (rowOf m f).length = m := by simp [rowOf]
theorem ap_rowOf {m x : Nat} {f : Nat → Nat} (h : x < m) : ap (rowOf m f) x = f x := ap_of (by simp [rowOf, h])
theorem pm_rowOf {m : Nat} {f : Nat → Nat} (h1 : ∀ x, x < m → f x < m) (h2 : ∀ x y, x < m → y < m → f x = f y → x = y) : Pm (rowOf m f) m := by
  refine ⟨by simp, ?_, fun x hx => ?_⟩
  · unfold rowOf
    rw [List.nodup_iff_pairwise_ne, List.pairwise_map]
    refine List.Pairwise.imp_of_mem (fun {x y} hx hy hne e => hne (h2 x y (List.mem_range.mp hx) (List.mem_range.mp hy) e)) List.nodup_range
  · obtain ⟨y, hy, e⟩ := List.mem_map.mp hx
    exact e ▸ h1 y (List.mem_range.mp hy)
theorem row_ext {a b : List Nat} {m : Nat} (ha : a.length = m) (hb : b.length = m) (h : ∀ x, x < m → ap a x = ap b x) : a = b := by
  refine List.ext_getElem? fun x => ?_
  by_cases hx : x < m
  · rw [ap_get (by omega), ap_get (by omega), h x hx]
  · rw [List.getElem?_eq_none (by omega), List.getElem?_eq_none (by omega)]
/-- where a row holds a number -/
def inv (a : List Nat) (y : Nat) : Nat := a.idxOf y
theorem inv_get {a : List Nat} {y : Nat} (h : y ∈ a) : a[inv a y]? = some y := by
  have := List.idxOf_lt_length_iff.mpr h
  show a[a.idxOf y]? = _
  rw [List.getElem?_eq_getElem this, List.getElem_idxOf this]
theorem Pm.inv_lt {a : List Nat} {m y : Nat} (h : Pm a m) (hy : y < m) : inv a y < m := by
  have := List.idxOf_lt_length_iff.mpr (h.mem hy)
  rw [h.len] at this
  exact this
theorem Pm.ap_inv {a : List Nat} {m y : Nat} (h : Pm a m) (hy : y < m) : ap a (inv a y) = y := ap_of (inv_get (h.mem hy))
theorem Pm.inv_ap {a : List Nat} {m x : Nat} (h : Pm a m) (hx : x < m) : inv a (ap a x) = x :=
  h.ap_inj (h.inv_lt (h.ap_lt hx)) hx (h.ap_inv (h.ap_lt hx))
/-! sorting -/
def nsrt (r : List Nat) : List Nat := r.mergeSort fun a b => decide (a ≤ b)
theorem srt_nat (r : List Nat) : srt (r.map fun n : Nat => (n : Int)) = (nsrt r).map fun n : Nat => (n : Int) := by
  unfold srt nsrt
  exact (List.map_mergeSort fun a _ b _ => by simp).symm
theorem nsrt_perm (r : List Nat) : (nsrt r).Perm r := List.mergeSort_perm _ _
theorem nsrt_le (r : List Nat) : (nsrt r).Pairwise (· ≤ ·) := by
  have := List.pairwise_mergeSort (le := fun a b : Nat => decide (a ≤ b)) (fun a b c h1 h2 => by simp at *; omega) (fun a b => by simp; omega) r
  exact this.imp fun h => by simpa using h
theorem nsrt_pm {a : List Nat} {m : Nat} (h : Pm a m) : nsrt a = List.range m :=
  List.Perm.eq_of_pairwise (le := (· ≤ ·)) (fun a b _ _ h1 h2 => Nat.le_antisymm h1 h2) (nsrt_le a) (List.Pairwise.imp (fun h => Nat.le_of_lt h) List.pairwise_lt_range) ((nsrt_perm a).trans h.perm)
theorem dInts_nD : ∀ r : List Nat, dInts (nD r) = some (r.map fun n : Nat => (n : Int))
  | [] => rfl
  | n :: r => by
    show dInts (.int n :: nD r) = _
    unfold dInts
    rw [dInts_nD r]
    rfl
theorem nD_map (r : List Nat) : nD r = (r.map fun n : Nat => (n : Int)).map .int := by simp [nD]
theorem sort_nD {a : Rv} {r : List Nat} (h : a.intsD = some (r.map fun n : Nat => (n : Int))) : sortR a = .ok (.o (nD (nsrt r))) := by
  unfold sortR
  rw [h]
  show Er.ok (Rv.o ((srt _).map .int)) = _
  rw [srt_nat, ← nD_map]
@[simp] theorem ints_vl (r : List Nat) : (Rv.v (.list (nD r))).intsD = some (r.map fun n : Nat => (n : Int)) := dInts_nD r
@[simp] theorem ints_o (r : List Nat) : (Rv.o (nD r)).intsD = some (r.map fun n : Nat => (n : Int)) := dInts_nD r
@[simp] theorem sort_vl (r : List Nat) : sortR (.v (.list (nD r))) = .ok (.o (nD (nsrt r))) := sort_nD (ints_vl r)
@[simp] theorem sort_o (r : List Nat) : sortR (.o (nD r)) = .ok (.o (nD (nsrt r))) := sort_nD (ints_o r)
@[simp] theorem sort_w (r : List Nat) : sortR (.w (nD r)) = .ok (.o (nD (nsrt r))) := sort_nD (dInts_nD r)
/-! places -/
theorem eqv_nat (i j : Nat) : PyData.eqv (.int i) (.int j) = decide (i = j) := by
  rw [PyData.eqv]
  exact Bool.eq_iff_iff.mpr (by simp only [beq_iff_eq, decide_eq_true_eq]; omega)
theorem first_nD (y : Nat) : ∀ (r : List Nat) (k : Nat), y ∈ r → firstAt (.int y) (nD r) k = some (k + inv r y)
  | [], _, h => by cases h
  | x :: r, k, h => by
    show firstAt (.int y) (.int x :: nD r) k = _
    unfold firstAt
    rw [eqv_nat]
    by_cases e : x = y
    · rw [if_pos (by simpa using e)]
      unfold inv
      rw [List.idxOf_cons, e]
      simp
    · rw [if_neg (by simpa using e), first_nD y r (k + 1) ((List.mem_cons.mp h).resolve_left (Ne.symm e))]
      unfold inv
      rw [List.idxOf_cons, show (x == y) = false from beq_false_of_ne e]
      simp
      omega

theorem flat_nD (r : List Nat) : (nD r).all flatD = true := by simp [nD, flatD]
theorem any_nD (y : Nat) (r : List Nat) : ((nD r).any fun z => PyData.eqv z (.int y)) = decide (y ∈ r) := by
  induction r with
  | nil => simp [nD]
  | cons x r ih =>
    show (PyData.eqv (.int x) (.int y) || (nD r).any fun z => PyData.eqv z (.int y)) = _
    rw [ih, eqv_nat, ← Bool.decide_or]
    refine decide_eq_decide.mpr ?_
    rw [List.mem_cons]
    exact or_congr_left eq_comm
theorem inSeq_nD (n : Bool) (y : Nat) (r : List Nat) {a b : Rv} (ha : a.dat = some (.int y)) (hb : b.seq = some (nD r)) : inSeq n a b = .ok (.v (.bool (if n then !decide (y ∈ r) else decide (y ∈ r)))) := by
  unfold inSeq
  rw [ha, hb]
  simp only [any_nD, flat_nD, flatD, and_self, if_true]
@[simp] theorem in_w (n : Bool) (y : Nat) (r : List Nat) : inR n (.v (.int y)) (.w (nD r)) = .ok (.v (.bool (if n then !decide (y ∈ r) else decide (y ∈ r)))) :=
  (alt_r rfl).trans (alt_l (inSeq_nD n y r rfl rfl))
@[simp] theorem in_vt (n : Bool) (y : Nat) (r : List Nat) : inR n (.v (.int y)) (.v (.tuple (nD r))) = .ok (.v (.bool (if n then !decide (y ∈ r) else decide (y ∈ r)))) :=
  (alt_r rfl).trans (alt_l (inSeq_nD n y r rfl rfl))
@[simp] theorem in_vl (n : Bool) (y : Nat) (r : List Nat) : inR n (.v (.int y)) (.v (.list (nD r))) = .ok (.v (.bool (if n then !decide (y ∈ r) else decide (y ∈ r)))) :=
  (alt_r rfl).trans (alt_l (inSeq_nD n y r rfl rfl))
theorem indexR_nD {y : Nat} {r : List Nat} (h : y ∈ r) : indexR (nD r) (.v (.int y)) = .ok (.v (.int (inv r y : Nat))) := by
  unfold indexR
  simp only [dat_v, flat_nD, flatD, and_self, if_true, first_nD y r 0 h, Nat.zero_add]
theorem indexF_e {f g : EF} {ρ : Env} {a : Rv} {ys : List D} (h : f ρ = .ok a) (hd : a.dat = some (.list ys)) : indexF f g ρ = (g ρ).bind fun b => indexR ys b := by
  unfold indexF
  rw [h]
  simp only [bind_ok, hd]
theorem ix_row {a : List Nat} {x : Nat} (h : x < a.length) : ixR (.v (.list (nD a))) (.v (.int x)) = .ok (.v (.int (ap a x : Nat))) := ixR_vl (at_nat.trans (by simp [ap_get h]))
theorem ix_rowT {a : List Nat} {x : Nat} (h : x < a.length) : ixR (.v (.tuple (nD a))) (.v (.int x)) = .ok (.v (.int (ap a x : Nat))) := ixR_vt (at_nat.trans (by simp [ap_get h]))
theorem ixR_o {xs : List D} {i : Int} {d : D} (h : atI xs i = some d) : ixR (.o xs) (.v (.int i)) = .ok (.v d) := by
  refine (alt_r rfl).trans (alt_l (ixSeq_e ?_))
  show (atI xs i).map Rv.v = _
  rw [h]
  rfl
theorem ix_rowO {a : List Nat} {x : Nat} (h : x < a.length) : ixR (.o (nD a)) (.v (.int x)) = .ok (.v (.int (ap a x : Nat))) := ixR_o (at_nat.trans (by simp [ap_get h]))
theorem ix_rowW {a : List Nat} {x : Nat} (h : x < a.length) : ixR (.w (nD a)) (.v (.int x)) = .ok (.v (.int (ap a x : Nat))) := ixR_w (at_nat.trans (by simp [ap_get h]))
theorem isi_tt (xs : List D) : isiR "tuple" (.v (.tuple xs)) = .ok (.v (.bool true)) := (rfl)
theorem isi_ii (i : Int) : isiR "int" (.v (.int i)) = .ok (.v (.bool true)) := (rfl)
theorem isi_bi (i : Int) : isiR "bool" (.v (.int i)) = .ok (.v (.bool false)) := (rfl)
theorem isi_bb (b : Bool) : isiR "bool" (.v (.bool b)) = .ok (.v (.bool true)) := (rfl)
theorem dBools_all (b : Bool) : ∀ n : Nat, dBools (List.replicate n (.bool b)) = some (List.replicate n b)
  | 0 => rfl
  | n + 1 => by
    show dBools (.bool b :: List.replicate n (.bool b)) = _
    unfold dBools
    rw [dBools_all b n]
    rfl
theorem all_true (n : Nat) : allA (.o (List.replicate n (.bool true))) = .ok (.v (.bool true)) := by
  unfold allA Rv.bools
  simp [dBools_all]
/-- a comprehension without a test, over what a list gives -/
theorem lcL_map {α : Type} {τ : TF} {e : EF} {ρ : Env} (g : α → Rv) (h : α → D) : ∀ (xs : List α), (∀ x ∈ xs, ∃ ρ' a, τ (g x) ρ = .ok ρ' ∧ e ρ' = .ok a ∧ a.keep = .ok (h x)) → lcLoop τ yesT e ρ (xs.map g) = .ok (xs.map h)
  | [], _ => rfl
  | x :: xs, hs => by
    obtain ⟨ρ', a, e1, e2, e3⟩ := hs x (List.mem_cons_self ..)
    have ih := lcL_map g h xs fun y hy => hs y (List.mem_cons_of_mem _ hy)
    show lcLoop τ yesT e ρ (g x :: xs.map g) = _
    unfold lcLoop
    rw [e1]
    simp only [yesT, noX_okk, bind_ok, if_true, e2, e3, ih]
    rfl
theorem lcF_map {α : Type} {it : IF} {τ : TF} {vs : List Nat} {e : EF} {ρ : Env} (xs : List α) (g : α → Rv) (h : α → D) (hi : it ρ = .ok (xs.map g)) (hl : xs.length ≤ 100000) (hs : ∀ x ∈ xs, ∃ ρ' a, τ (g x) (wipeE ρ vs) = .ok ρ' ∧ e ρ' = .ok a ∧ a.keep = .ok (h x)) :
    lcF it τ vs yesT e ρ = .ok (.o (xs.map h)) := by
  unfold lcF
  rw [hi]
  simp only [bind_ok]
  rw [if_pos (by simpa using hl), lcL_map g h xs hs]
  rfl
theorem forL_cons {τ : TF} {s : SF} {r : Rv} {rs : List Rv} {ρ ρ1 : Env} (h : τ r ρ = .ok ρ1) : forL τ s (r :: rs) ρ = (match s ρ1 with | .next ρ' => forL τ s rs ρ' | .cont ρ' => forL τ s rs ρ' | .brk ρ' => .next ρ' | x => x) := by
  rw [forL, h] <;> rfl
theorem forL_next {τ : TF} {s : SF} {r : Rv} {rs : List Rv} {ρ ρ1 ρ2 : Env} (h : τ r ρ = .ok ρ1) (h2 : s ρ1 = .next ρ2) : forL τ s (r :: rs) ρ = forL τ s rs ρ2 := by
  rw [forL_cons h, h2]
@[simp] theorem forL_nil {τ : TF} {s : SF} {ρ : Env} : forL τ s [] ρ = .next ρ := (rfl)
/-- what a walk from 0 along two rows meets -/
inductive Re (a b : List Nat) : Nat → Prop
  | z : Re a b 0
  | fa {x : Nat} : Re a b x → Re a b (ap a x)
  | fb {x : Nat} : Re a b x → Re a b (ap b x)
/-- two rows that hold together -/
structure Sh (p q : List Nat) (n : Nat) : Prop where
  hp : Pm p n
  hq : Pm q n
  pos : 0 < n
  re : ∀ x, x < n → Re p q x
def sheet (p q : List Nat) : D := .tuple [.tuple (nD p), .tuple (nD q)]
@[simp] theorem td_sheet (k : Nat) (p q : List Nat) : td (k + 2) (sheet p q) = true := by
  show List.all _ _ = true
  simp
theorem sheet_inj {p q p' q' : List Nat} : sheet p q = sheet p' q' ↔ p = p' ∧ q = q' := by
  constructor
  · intro h
    injection h with h
    injection h with h1 h2
    injection h1 with h1
    injection h2 with h2
    injection h2 with h2
    exact ⟨nD_inj h1, nD_inj h2⟩
  · intro ⟨h1, h2⟩
    rw [h1, h2]
theorem sheet_e (p q : List Nat) : PyData.tuple [.tuple (nD p), .tuple (nD q)] = sheet p q := (rfl)
theorem ix_sh0 (p q : List Nat) : ixR (.v (sheet p q)) (.v (.int 0)) = .ok (.v (.tuple (nD p))) := ixR_vt rfl
theorem ix_sh1 (p q : List Nat) : ixR (.v (sheet p q)) (.v (.int 1)) = .ok (.v (.tuple (nD q))) := ixR_vt rfl
/-- the orbit as a sheet of its own -/
theorem orbit_sh {a b kept : List Nat} {m : Nat} (ha : Pm a m) (hb : Pm b m) (hn : kept.Nodup) (hlt : ∀ x ∈ kept, x < m) (h0 : 0 ∈ kept) (hs : kept.Pairwise (· ≤ ·)) (hc : ∀ x ∈ kept, ap a x ∈ kept ∧ ap b x ∈ kept) (hr : ∀ x ∈ kept, Re a b x) :
    Sh (kept.map fun x => inv kept (ap a x)) (kept.map fun x => inv kept (ap b x)) kept.length := by
  have key : ∀ c : List Nat, Pm c m → (∀ x ∈ kept, ap c x ∈ kept) → Pm (kept.map fun x => inv kept (ap c x)) kept.length := by
    intro c hcm hcc
    refine ⟨by simp, ?_, fun y hy => ?_⟩
    · rw [List.nodup_iff_pairwise_ne, List.pairwise_map]
      refine List.Pairwise.imp_of_mem (fun {x y} hx hy hne e => hne ?_) hn
      have h1 := inv_get (hcc x hx)
      have h2 := inv_get (hcc y hy)
      rw [e, h2] at h1
      exact hcm.ap_inj (hlt x hx) (hlt y hy) (Option.some.inj h1).symm
    · obtain ⟨x, hx, e⟩ := List.mem_map.mp hy
      exact e ▸ List.idxOf_lt_length_iff.mpr (hcc x hx)
  have hz : inv kept 0 = 0 := by
    cases kept with
    | nil => cases h0
    | cons x r =>
      have hx : x = 0 := by
        rcases List.mem_cons.mp h0 with e | e
        · exact e.symm
        · have := (List.pairwise_cons.mp hs).1 0 e
          omega
      unfold inv
      rw [List.idxOf_cons, hx]
      simp
  have hap : ∀ c : List Nat, ∀ x ∈ kept, ap (kept.map fun x => inv kept (ap c x)) (inv kept x) = inv kept (ap c x) := by
    intro c x hx
    refine ap_of ?_
    rw [List.getElem?_map, inv_get hx]
    rfl
  have hre : ∀ x, Re a b x → x ∈ kept ∧ Re (kept.map fun x => inv kept (ap a x)) (kept.map fun x => inv kept (ap b x)) (inv kept x) := by
    intro x h
    induction h with
    | z => exact ⟨h0, by rw [hz]; exact .z⟩
    | fa _ ih => exact ⟨(hc _ ih.1).1, by rw [← hap a _ ih.1]; exact .fa ih.2⟩
    | fb _ ih => exact ⟨(hc _ ih.1).2, by rw [← hap b _ ih.1]; exact .fb ih.2⟩
  refine ⟨key a ha fun x hx => (hc x hx).1, key b hb fun x hx => (hc x hx).2, List.length_pos_of_mem h0, fun i hi => ?_⟩
  have hm : kept[i] ∈ kept := List.getElem_mem hi
  have := (hre _ (hr _ hm)).2
  have e : inv kept kept[i] = i := nodup_get hn (inv_get hm) (List.getElem?_eq_getElem hi)
  rw [e] at this
  exact this

/-! ranges, shorter -/
def rgV (n : Nat) : List Rv := (List.range n).map fun (i : Nat) => Rv.v (.int (i : Int))
theorem rg1_nat {f : EF} {ρ : Env} {n : Nat} (h : f ρ = .ok (.v (.int n))) (hn : n ≤ 1000000) : rg1F f ρ = .ok (rgV n) := by
  rw [rg1_e h rfl (by omega), rgR_nat]
  rfl
theorem lc_rg {f e : EF} {ρ : Env} {n : Nat} (k : Nat) (g : Nat → Nat) (h : f ρ = .ok (.v (.int n))) (hn : n ≤ 100000) (he : ∀ x, x < n → ∃ a, e ((ρ.set k .u).set k (.v (.int x))) = .ok a ∧ a.keep = .ok (.int (g x : Nat))) : lcF (rg1F f) (asgn k) [k] yesT e ρ = .ok (.o (nD (rowOf n g))) := by
  rw [lcF_map (List.range n) (fun (i : Nat) => Rv.v (.int (i : Int))) (fun i : Nat => .int (g i : Nat)) (rg1_nat h (by omega)) (by simpa using hn) fun x hx => ?_]
  · simp [nD, rowOf]
  · obtain ⟨a, e1, e2⟩ := he x (List.mem_range.mp hx)
    exact ⟨_, a, rfl, e1, e2⟩
theorem for_rg {f : EF} {s : SF} {ρ : Env} {n : Nat} (k : Nat) (P : Nat → Env → Prop) (h : f ρ = .ok (.v (.int n))) (hn : n ≤ 1000000) (h0 : P 0 ρ) (hs : ∀ i ρ, i < n → P i ρ → ∃ ρ', s (ρ.set k (.v (.int i))) = .next ρ' ∧ P (i + 1) ρ') : ∃ ρ', forS (rg1F f) (asgn k) s ρ = .next ρ' ∧ P n ρ' := by
  obtain ⟨ρ', e, p⟩ := forL_go (τ := asgn k) (s := s) (rs := rgV n) (ρ := ρ) P h0 fun i r ρ hr hp => by
    obtain ⟨hi, er⟩ := List.getElem?_eq_some_iff.mp hr
    simp [rgV] at er hi
    subst er
    obtain ⟨ρ', e1, e2⟩ := hs i ρ hi hp
    exact ⟨_, _, rfl, e1, e2⟩
  refine ⟨ρ', ?_, by simpa [rgV] using p⟩
  simp [rg1_nat h hn, e]
/-- a loop over a range that may end early -/
theorem for_rgG {f : EF} {s : SF} {ρ : Env} {n : Nat} (k : Nat) (P : Nat → Env → Prop) (G : Res → Prop) (h : f ρ = .ok (.v (.int n))) (hn : n ≤ 1000000) (h0 : P 0 ρ) (hs : ∀ i ρ, i < n → P i ρ → (match s (ρ.set k (.v (.int i))) with | .next ρ' => P (i + 1) ρ' | .cont ρ' => P (i + 1) ρ' | .brk ρ' => G (.next ρ') | x => G x)) (hd : ∀ ρ, P n ρ → G (.next ρ)) : G (forS (rg1F f) (asgn k) s ρ) := by
  show G (thenI ρ (rg1F f ρ) fun rs => forL (asgn k) s rs ρ)
  rw [rg1_nat h hn]
  show G (forL (asgn k) s (rgV n) ρ)
  refine forL_rule P G (rgV n) 0 ρ h0 (fun i r ρ hr hp => ?_) (fun ρ hp => hd ρ (by simpa [rgV] using hp))
  obtain ⟨hi, er⟩ := List.getElem?_eq_some_iff.mp hr
  simp [rgV] at er hi
  subst er
  rw [Nat.zero_add] at hp ⊢
  exact ⟨_, rfl, hs i ρ hi hp⟩
theorem seq_go {s u : SF} {ρ ρ' : Env} (h : s ρ = .next ρ') : seqS s u ρ = u ρ' := by
  simp [h]
theorem seq_ret {s u : SF} {ρ : Env} {r : Rv} (h : s ρ = .ret r) : seqS s u ρ = .ret r := by
  simp [h]
@[simp] theorem lcat_oo (xs ys : List D) (h : xs.length + ys.length ≤ 100000) : addR (.o xs) (.o ys) = .ok (.o (xs ++ ys)) := by
  refine (alt_r rfl).trans ((alt_r rfl).trans ((alt_r rfl).trans ?_))
  show (if xs.length + ys.length ≤ 100000 then Er.ok (Rv.o (xs ++ ys)) else .bad) = _
  rw [if_pos h]
theorem tcat_vv {xs ys : List D} (h0 : xs ≠ []) (h : xs.length + ys.length ≤ 100000) : addR (.v (.tuple xs)) (.v (.tuple ys)) = .ok (.v (.tuple (xs ++ ys))) := by
  refine (alt_r rfl).trans ((alt_r rfl).trans (alt_l ?_))
  show (if xs ≠ [] ∧ xs.length + ys.length ≤ 100000 then Er.ok (Rv.v (.tuple (xs ++ ys))) else .bad) = _
  rw [if_pos ⟨h0, h⟩]
theorem ix_rowB {a : List Nat} {x : Nat} (h : x < a.length) : ixR (.b (.list (nD a))) (.v (.int x)) = .ok (.b (.int (ap a x : Nat))) := ixR_bl (at_nat.trans (by simp [ap_get h]))
theorem mod_ok {c : Int} (N : Nat) (h : 0 < N) : ∃ d : Nat, d < N ∧ imod c N = .ok (.int d) := by
  have h0 : 0 ≤ c % (N : Int) := Int.emod_nonneg _ (by omega)
  have h1 : c % (N : Int) < N := Int.emod_lt_of_pos _ (by omega)
  obtain ⟨d, hd⟩ := Int.eq_ofNat_of_zero_le h0
  exact ⟨d, by omega, by rw [imod_s (by omega), hd]⟩
theorem div_nat (a b : Nat) (h : 0 < b) (h2 : b < 1073741824) : idiv (a : Int) (b : Int) = .ok (.int (a / b : Nat)) := by
  rw [idiv_s (by omega)]
  rfl
theorem mod_nat (a b : Nat) (h : 0 < b) : imod (a : Int) (b : Int) = .ok (.int (a % b : Nat)) := by
  rw [imod_s (by omega)]
  rfl
theorem mul_nat (a b : Nat) (h : a < 2 ^ 64) : imul (a : Int) (b : Int) = .ok (.int (a * b : Nat)) := by
  rw [imul_l (by omega)]
  rfl
end Sq

/-! try .. except. -/
namespace Sq
open PySem PySem.Spec PyProof.Rows L2
section
variable {X : Cx} {W : WF} {cm : Str → Addr} {K : PySem.W.Frag} {D : Ends} {h : Hs} {ρ : Env} {σ : L2.St}
def noXS : Res → Res
  | .exc _ _ _ => .bad
  | r => r
theorem Post.noX {r : Res} (q : Post K W D h (noXS r)) : Post K WN D h r := by
  cases r with
  | exc c p ρ => exact q.elim
  | _ => exact q
def tryS (f : SF) (m : Str → Option Bool) (g u : SF) : SF := fun ρ => match f ρ with
  | .next ρ' => u ρ'
  | .exc c p ρ' => match m c with
    | some true => noXS (g ρ')
    | some false => .exc c p ρ'
    | none => .bad
  | r => r
/-- which classes a clause takes -/
def mL (yes no : List Str) : Str → Option Bool := fun c => if c ∈ yes then some true else if c ∈ no then some false else none
theorem mL_yes {yes no : List Str} {c : Str} (e : mL yes no c = some true) : c ∈ yes := by
  unfold mL at e
  split at e
  · assumption
  · split at e <;> cases e
theorem fa_nil {α : Type} {P : α → Prop} : ∀ c ∈ ([] : List α), P c := fun _ h => nomatch h
theorem fa_cons {α : Type} {P : α → Prop} {x : α} {xs : List α} (h : P x) (t : ∀ c ∈ xs, P c) : ∀ c ∈ x :: xs, P c := fun c hc => by
  rcases List.mem_cons.mp hc with e | e
  · exact e ▸ h
  · exact t c e
theorem mL_exm {cm : Str → Addr} {yes no : List Str} {v : Value} (hy : ∀ c ∈ yes, PySem.W.exmOne K (.ref (cm c)) v = some true) (hn : ∀ c ∈ no, PySem.W.exmOne K (.ref (cm c)) v = some false) {c : Str} {b : Bool} (e : mL yes no c = some b) : PySem.W.exmOne K (.ref (cm c)) v = some b := by
  unfold mL at e
  split at e
  · cases e
    exact hy c (by assumption)
  · split at e
    · cases e
      exact hn c (by assumption)
    · cases e
/-- a caught exception, with or without its own data -/
theorem wfx_both {cm : Str → Addr} {Wx : WX} {c : Str} {p : Option (Str × PyData)} {σ : L2.St} {h : Hs} (q : ∀ d, Wx (.ref (cm c)) d σ h.H) : WFx K cm Wx c p σ h := by
  cases p with
  | none => exact q none
  | some p => exact fun d _ _ _ => q (some d)
theorem xtry {x : Str} {c : Value} {body suite orelse : List Stmt} {b₀ : Stmt} {np pos pos' : Pos} {f g u : SF} {yes no : List Str} (tk : Tk X cm W) (hs : X.stack = X.env :: X.outer) (hf : X.env.frame = some X.env.locals) (hc : Names X x c)
    (hy : ∀ d ∈ yes, PySem.W.exmOne X.K (.ref (cm d)) c = some true) (hn : ∀ d ∈ no, PySem.W.exmOne X.K (.ref (cm d)) c = some false)
    (hb : ∀ (Wx : WX) (pn : List (Addr × Obj)) (xe : Value → Shared → Prop), Tk (X.tr pn xe) cm (WFx X.K cm Wx) → PassesOwn (model X.prog X.w) X.A X.env xe → PSs (X.tr pn xe) body (tS X.K (WFx X.K cm Wx) f))
    (hsu : ∀ (a : Addr) (pn : List (Addr × Obj)), PSs (X.suite a pn) (b₀ :: suite) (tS X.K WN g))
    (ho : PSs X orelse (tS X.K W u)) : PS X (.Try body [.ExceptHandler (some (.Name x np)) none (b₀ :: suite) pos'] orelse [] pos) (tS X.K W (tryS f (mL yes no) g u)) := by
  obtain ⟨Wx, tk, hW⟩ := tk
  refine psTo (ps_try_onlyE (tb := fun Wx => tS X.K (WFx X.K cm Wx) f) (ts := fun _ _ _ => tS X.K WN g) ho hs hf hc tk (fun Wx pn xe tk hpo => hb Wx pn xe (tkOf tk) hpo) fun a oe cls d pn _ _ => hsu a _) fun D σ H ⟨h, ρ, e, R, q⟩ => ?_
  subst e
  refine ⟨h, ρ, rfl, R, ?_⟩
  unfold tryS at q
  cases ef : f ρ with
  | next ρ' =>
    rw [ef] at q
    exact fun σ' h' R' g' => ⟨h', ρ', rfl, R', Post.shift g' q⟩
  | ret r => rw [ef] at q; exact q
  | brk ρ' => rw [ef] at q; exact q
  | cont ρ' => rw [ef] at q; exact q
  | bad => rw [ef] at q; exact q.elim
  | exc d p ρ' =>
    rw [ef] at q
    intro σ' h' R' g'
    dsimp only at q
    cases em : mL yes no d with
    | none => rw [em] at q; exact q.elim
    | some b =>
      rw [em] at q
      have hx := mL_exm hy hn em
      cases b with
      | true => exact wfx_both fun dd => ⟨true, hx, fun _ a _ => ⟨h', ρ', rfl, R', (Post.shift g' q).noX⟩, fun z => nomatch z⟩
      | false =>
        have := hW _ _ _ _ (q σ' h' R' g')
        cases p with
        | none => exact ⟨false, hx, fun z => (nomatch z), fun _ => this⟩
        | some p => exact fun dd v e1 e2 => ⟨false, hx, fun z => (nomatch z), fun _ => this dd v e1 e2⟩
/-! with a name -/
theorem Rel.u {K : PySem.W.Frag} {h : Hs} {ρ : Env} {σ : L2.St} (R : Rel K h ρ σ) (i : Nat) (x : Option V) : Rel K h (ρ.set i .u) (σ.set i x) := by
  have at' : ∀ j t, (ρ.set i .u)[j]? = some t → (j = i ∧ t = .u) ∨ (j ≠ i ∧ ρ[j]? = some t) := fun j t e => by
    by_cases hj : i = j
    · subst hj
      rw [List.getElem?_set] at e
      simp only [if_true] at e
      split at e
      · cases e; exact .inl ⟨rfl, rfl⟩
      · cases e
    · rw [List.getElem?_set_ne hj] at e
      exact .inr ⟨Ne.symm hj, e⟩
  refine ⟨R.ch, by simp [R.len], fun j t y e1 e2 => ?_, fun j k t u l m hjk e1 e2 o1 o2 e3 e4 => ?_⟩
  · rcases at' j t e1 with ⟨rfl, rfl⟩ | ⟨hj, e⟩
    · trivial
    · rw [List.getElem?_set_ne (Ne.symm hj)] at e2
      exact R.at_ j t y e e2
  · rcases at' j t e1 with ⟨rfl, rfl⟩ | ⟨hj, e⟩
    · cases o1
    · rcases at' k u e2 with ⟨rfl, rfl⟩ | ⟨hk, e'⟩
      · cases o2
      · rw [List.getElem?_set_ne (Ne.symm hj)] at e3
        rw [List.getElem?_set_ne (Ne.symm hk)] at e4
        exact R.dis j k t u l m hjk e e' o1 o2 e3 e4
def wipeRes (i : Nat) : Res → Res
  | .next ρ' => .next (ρ'.set i .u)
  | .ret r => .ret r
  | _ => .bad
def tryAsS (f : SF) (m : Str → Option Bool) (i : Nat) (g : Str → SF) : SF := fun ρ => match f ρ with
  | .exc c none ρ' => match m c with
    | some true => if i < ρ'.length then wipeRes i (g c (ρ'.set i .u)) else .bad
    | some false => .exc c none ρ'
    | none => .bad
  | .exc c (some p) ρ' => match m c with
    | some false => .exc c (some p) ρ'
    | _ => .bad
  | r => r
/-- a suite that holds the exception a in slot i -/
def tSu (K : PySem.W.Frag) (i : Nat) (a : Addr) (f : SF) : TS := fun D σ H => σ[i]? = some (some (.ref a)) ∧ tS K WN f D σ H
theorem xtryAs {x n : Str} {i : Nat} {c : Value} {body suite : List Stmt} {b₀ : Stmt} {np pos pos' : Pos} {f : SF} {g : Str → SF} {yes no : List Str} (tk : Tk X cm W) (hs : X.stack = X.env :: X.outer) (hf : X.env.frame = some X.env.locals) (hN : X.N.Nodup) (hi : X.N[i]? = some n) (hln : X.env.kindOf n = some .local) (hc : Names X x c)
    (hy : ∀ d ∈ yes, PySem.W.exmOne X.K (.ref (cm d)) c = some true) (hn : ∀ d ∈ no, PySem.W.exmOne X.K (.ref (cm d)) c = some false)
    (hb : ∀ (Wx : WX) (pn : List (Addr × Obj)) (xe : Value → Shared → Prop), Tk (X.tr pn xe) cm (WFx X.K cm Wx) → PassesOwn (model X.prog X.w) X.A X.env xe → PSs (X.tr pn xe) body (tS X.K (WFx X.K cm Wx) f))
    (hsu : ∀ d ∈ yes, ∀ (a : Addr) (oe : Obj) (pn : List (Addr × Obj)), Zc (.ref (cm d)) none oe → (∃ vs, oe.data = .fields vs) → PSs (X.suite a ((a, oe) :: pn)) (b₀ :: suite) (tSu X.K i a (g d))) :
    PS X (.Try body [.ExceptHandler (some (.Name x np)) (some n) (b₀ :: suite) pos'] [] [] pos) (tS X.K W (tryAsS f (mL yes no) i g)) := by
  obtain ⟨Wx, tk, hW⟩ := tk
  refine psTo (ps_try_as (tb := fun Wx => tS X.K (WFx X.K cm Wx) f) (ts := fun a cls d => fun D σ H => ∃ e, e ∈ yes ∧ cls = .ref (cm e) ∧ d = none ∧ tSu X.K i a (g e) D σ H) hs hf hN hi hln hc tk (fun Wx pn xe tk hpo => hb Wx pn xe (tkOf tk) hpo) fun a oe cls d pn hz hfl => ⟨fun pins s σ H D I hw => ?_⟩) fun D σ H hq => ?_
  · obtain ⟨e, he, rfl, rfl, hw⟩ := hw
    exact (hsu e he a oe pn hz hfl).run pins s σ H D I hw
  obtain ⟨h, ρ, e, R, q⟩ := id hq
  subst e
  refine ⟨h, ρ, rfl, R, ?_⟩
  unfold tryAsS at q
  cases ef : f ρ with
  | next ρ' => rw [ef] at q; exact q
  | ret r => rw [ef] at q; exact q
  | brk ρ' => rw [ef] at q; exact q
  | cont ρ' => rw [ef] at q; exact q
  | bad => rw [ef] at q; exact q.elim
  | exc d p ρ' =>
    rw [ef] at q
    intro σ' h' R' g'
    cases p with
    | none =>
      dsimp only at q
      cases em : mL yes no d with
      | none => rw [em] at q; exact q.elim
      | some b =>
        rw [em] at q
        have hx := mL_exm hy hn em
        cases b with
        | false => exact ⟨false, hx, fun z => (nomatch z), fun _ => hW _ _ _ _ (q σ' h' R' g')⟩
        | true =>
          dsimp only at q
          split at q
          rotate_left
          · exact q.elim
          rename_i hlt
          rw [R'.len] at hlt
          refine ⟨true, hx, fun _ a _ => ⟨d, mL_yes em, rfl, rfl, ?_, h', ρ'.set i .u, rfl, R'.u i _, ?_⟩, fun z => nomatch z⟩
          · rw [List.getElem?_set_self hlt]
          · have q' := Post.shift g' q
            cases eg : g d (ρ'.set i .u) with
            | next ρ2 =>
              rw [eg] at q'
              exact fun σ2 h2 R2 g2 => q' _ h2 (R2.u i none) g2
            | ret r => rw [eg] at q'; exact q'
            | _ => rw [eg] at q'; exact q'.elim
    | some p =>
      dsimp only at q
      cases em : mL yes no d with
      | none => rw [em] at q; exact q.elim
      | some b =>
        rw [em] at q
        have hx := mL_exm hy hn em
        cases b with
        | true => exact q.elim
        | false =>
          have := hW _ _ _ _ (q σ' h' R' g')
          exact fun dd v e1 e2 => ⟨false, hx, fun z => (nomatch z), fun _ => this dd v e1 e2⟩
theorem kit_ref {K : PySem.W.Frag} {C : Addr} {t : Value} {b : Bool} (hdct : PySem.W.hasDictIn K C = true) (ht : PySem.W.typeIn K (.ref C) = some (.type "type")) (h4 : PySem.W.subIn K t (.ref C) = some b) (h5 : PySem.W.subIn K (.ref C) (.ref C) = some true) : PySem.W.kitOne K t (.ref C) = some b := by
  obtain ⟨cd, hc, _⟩ := PySem.W.any_some hdct
  have e2 : ((PySem.W.clsIn K C).isSome && PySem.W.typeIn K (.ref C) == some (.type "type")) = true := by rw [hc, ht] <;> rfl
  show (if (t == Value.ref C) = true then some true else (if ((PySem.W.clsIn K C).isSome && PySem.W.typeIn K (.ref C) == some (.type "type")) = true then PySem.W.subIn K t (.ref C) else none)) = some b
  rw [if_pos e2, h4]
  by_cases h : (t == Value.ref C) = true
  · rw [if_pos h]
    have := eq_of_beq h
    subst this
    rw [h5] at h4
    exact h4
  · rw [if_neg h]
theorem kit_tyb {K : PySem.W.Frag} {C : Addr} {T : String} {b : Bool} (hm : PySem.W.kitMeta T = true) (h4 : PySem.W.subIn K (.ref C) (.type T) = some b) : PySem.W.kitOne K (.ref C) (.type T) = some b := by
  show (if (Value.ref C == Value.type T) = true then some true else (if PySem.W.kitMeta T = true then PySem.W.subIn K (.ref C) (.type T) else none)) = some b
  rw [if_pos hm, h4]
  by_cases h : (Value.ref C == Value.type T) = true
  · exact absurd (eq_of_beq h) (fun z => nomatch z)
  · rw [if_neg h]
/-! what a suite says of its exception -/
def tEc (i : Nat) (a : Addr) (b : Bool) : TE := fun σ H Q => σ[i]? = some (some (.ref a)) ∧ Q (.bl b) H
section
variable {i : Nat} {a : Addr} {b c : Bool} {p pos px pT : Pos} {e e1 e2 : Expr} {rest : List Expr}
theorem xisE {D : Addr} {oe : Obj} {pn : List (Addr × Obj)} {x y : Str} {cv : V} {cu : Value} (C : ExcC X.K D) (hz : Zc (.ref D) none oe) (hf : ∃ vs, oe.data = .fields vs) (hg : Gl (X.suite a ((a, oe) :: pn)) "isinstance") (hm : X.mg "isinstance" = none) (he : PE (X.suite a ((a, oe) :: pn)) (.Name x px) (tVar i)) (hT : PE (X.suite a ((a, oe) :: pn)) (.Name y pT) (tC cv)) (hcv : ∀ u, RelV cv u → u = cu) (hk : PySem.W.kitOne X.K (.ref D) cu = some b)
    (hs : starEach [.Name x px, .Name y pT] X.env = (false, eval (.Name x px) X.env) :: starEach [.Name y pT] X.env := by rfl) (hs2 : starEach [.Name y pT] X.env = (false, eval (.Name y pT) X.env) :: starEach [] X.env := by rfl) :
    PE (X.suite a ((a, oe) :: pn)) (.Call (.Name "isinstance" p) [.Name x px, .Name y pT] [] pos) (tEc i a b) := by
  refine peTo (pe_callB (call_isE C hz hf) hg hm boot_isinstance (pa_cons he (pa_cons hT pa_nil hs2) hs) (he := hs) (hpl := by rw [hs2]; rfl)) fun σ H Q q => ?_
  exact ⟨_, q.1, cv, cu, b, rfl, hcv, hk, q.2⟩
theorem xEnot (h : PE X e (tEc i a b)) : PE X (.UnaryOp .Not e pos) (tEc i a (!b)) := peTo (pe_not h) fun σ H Q q => ⟨q.1, b, rfl, q.2⟩
theorem xEone {op} (h : PE X e (tEc i a b)) : PE X (.BoolOp op [e] pos) (tEc i a b) := pe_one h
theorem xEand (h1 : PE X e1 (tEc i a b)) (h2 : PE X (.BoolOp .And (e2 :: rest) pos) (tEc i a c)) : PE X (.BoolOp .And (e1 :: e2 :: rest) pos) (tEc i a (b && c)) := peTo (pe_and h1 h2) fun σ H Q q => by
  refine ⟨q.1, b, rfl, ?_⟩
  cases b with
  | true => exact q
  | false => exact q.2
theorem xEor (h1 : PE X e1 (tEc i a b)) (h2 : PE X (.BoolOp .Or (e2 :: rest) pos) (tEc i a c)) : PE X (.BoolOp .Or (e1 :: e2 :: rest) pos) (tEc i a (b || c)) := peTo (pe_or h1 h2) fun σ H Q q => by
  refine ⟨q.1, b, rfl, ?_⟩
  cases b with
  | true => exact q.2
  | false => exact q
theorem xEset {j : Nat} {x : Str} {pos' : Pos} (hN : X.N.Nodup) (h : PE X e (tEc i a b)) (hi : X.N[j]? = some x := by rfl) (hx : Loc X.env.scope x := by first | exact Or.inl rfl | exact Or.inr rfl) (hs : swapsWith e (some (.Name x pos')) pos.line X.env = pure false := by rfl)
    (hf : X.fn x = true ∨ X.env.scope.names.lookup x = some .local := by first | exact .inl rfl | exact .inr rfl | assumption) : PS X (.Assign [.Name x pos'] e pos) (tSu X.K i a (asgS (cF (.bool b)) (asgn j))) :=
  psTo (ps_set hN hi hx h hs hf) fun D σ H ⟨hσ, h, ρ, e, R, q⟩ => by
    subst e
    exact ⟨hσ, q _ h (asgn_ok R R (i := j) (r := .v (.bool b)) (.bl b) rfl) (SG.refl h)⟩
theorem xEblk {s : Stmt} {f : SF} (h : PS X s (tSu X.K i a f)) : PSs X [s] (tSu X.K i a f) := pss_one h
end
end
end Sq

/-! a, b = x, y. -/
namespace Sq
open PySem PySem.Spec PyProof.Rows L2
section
variable {X : Cx} {W : WF}
def parS (i j : Nat) (r : AF) : SF := fun ρ => match r ρ with
  | .ok [a, b] => liftE ρ ((asgn i a ρ).bind fun ρ' => asgn j b ρ')
  | .ok _ => .bad
  | .exc c p => .exc c p ρ
  | .bad => .bad
def par3S (i j l : Nat) (r : AF) : SF := fun ρ => match r ρ with
  | .ok [a, b, c] => liftE ρ ((asgn i a ρ).bind fun ρ' => (asgn j b ρ').bind fun ρ2 => asgn l c ρ2)
  | .ok _ => .bad
  | .exc c p => .exc c p ρ
  | .bad => .bad
theorem asgn_two {h : Hs} {ρ ρ' : Env} {σ : L2.St} {i : Nat} {r : Rv} {v : V} {K : PySem.W.Frag} (R : Rel K h ρ σ) (ok : RvF K h v r) (e : asgn i r ρ = .ok ρ') : Rel K h ρ' (σ.set i (some v)) := asgn_ok R R (ok.rv) e
theorem xpar {i j : Nat} {x y : Str} {a b : Expr} {r : AF} {px py pt pos : Pos} {kt k2 pt2} (hc : X.calm = true) (hN : X.N.Nodup) (ha : PA X [a, b] (tXa X.K W r)) (hij : i ≠ j) (hw : swappedStores [.Tuple [.Name x px, .Name y py] kt pt] (.Tuple [a, b] k2 pt2) X.env = pure (some [x, y])) (hi : X.N[i]? = some x := by rfl) (hj : X.N[j]? = some y := by rfl)
    (hx : X.env.scope.names.lookup x = some .local := by rfl) (hy : X.env.scope.names.lookup y = some .local := by rfl)
    (hs : swapsWithSole [.Tuple [.Name x px, .Name y py] kt pt] (.Tuple [a, b] k2 pt2) pos.line X.env = pure false := by rfl) :
    PS X (.Assign [.Tuple [.Name x px, .Name y py] kt pt] (.Tuple [a, b] k2 pt2) pos) (tS X.K W (parS i j r)) :=
  psTo (ps_par hc hN hi hj hij hx hy ha hw hs) fun D σ H ⟨h, ρ, e, R, q⟩ => by
    subst e
    refine ⟨h, ρ, rfl, R, ?_⟩
    unfold parS at q
    cases er : r ρ with
    | bad => rw [er] at q; exact q.elim
    | exc c p => rw [er] at q; exact fun h' R' g => q σ h' R' g.sg
    | ok rs =>
      rw [er] at q
      intro vs h' R' g ok
      match rs, vs, q, ok with
      | [ra, rb], [v, w], q, ok =>
        obtain ⟨oa, ob, _⟩ := ok
        refine ⟨v, w, rfl, ?_⟩
        dsimp only at q
        cases e1 : asgn i ra ρ with
        | bad => rw [e1] at q; exact q.elim
        | exc c p => exact absurd e1 (asgn_ne _ _ _ _)
        | ok ρ1 =>
          rw [e1] at q
          have R1 := asgn_two R' oa e1
          have q1 : Post X.K W D h (liftE ρ (asgn j rb ρ1)) := q
          cases e2 : asgn j rb ρ1 with
          | bad => rw [e2] at q1; exact q1.elim
          | exc c p => exact absurd e2 (asgn_ne _ _ _ _)
          | ok ρ2 =>
            rw [e2] at q1
            exact q1 _ h' (asgn_two R1 ob e2) g.sg
      | [], _, q, _ => exact q.elim
      | [_], _, q, _ => exact q.elim
      | _ :: _ :: _ :: _, _, q, _ => exact q.elim
      | [_, _], [], _, ok => exact ok.elim
      | [_, _], [_], _, ok => exact ok.2.elim
      | [_, _], _ :: _ :: _ :: _, _, ok => exact ok.2.2.elim
theorem xpar3 {i j l : Nat} {x y z : Str} {a b c : Expr} {r : AF} {px py pz pt pos : Pos} {kt k2 pt2} (hc : X.calm = true) (hN : X.N.Nodup) (ha : PA X [a, b, c] (tXa X.K W r)) (hij : i ≠ j) (hil : i ≠ l) (hjl : j ≠ l) (hw : swappedStores [.Tuple [.Name x px, .Name y py, .Name z pz] kt pt] (.Tuple [a, b, c] k2 pt2) X.env = pure (some [x, y, z])) (hi : X.N[i]? = some x := by rfl) (hj : X.N[j]? = some y := by rfl) (hl : X.N[l]? = some z := by rfl)
    (hx : X.env.scope.names.lookup x = some .local := by rfl) (hy : X.env.scope.names.lookup y = some .local := by rfl) (hz : X.env.scope.names.lookup z = some .local := by rfl)
    (hs : swapsWithSole [.Tuple [.Name x px, .Name y py, .Name z pz] kt pt] (.Tuple [a, b, c] k2 pt2) pos.line X.env = pure false := by rfl) :
    PS X (.Assign [.Tuple [.Name x px, .Name y py, .Name z pz] kt pt] (.Tuple [a, b, c] k2 pt2) pos) (tS X.K W (par3S i j l r)) :=
  psTo (ps_par3 hc hN hi hj hl hij hil hjl hx hy hz ha hw hs) fun D σ H ⟨h, ρ, e, R, q⟩ => by
    subst e
    refine ⟨h, ρ, rfl, R, ?_⟩
    unfold par3S at q
    cases er : r ρ with
    | bad => rw [er] at q; exact q.elim
    | exc c p => rw [er] at q; exact fun h' R' g => q σ h' R' g.sg
    | ok rs =>
      rw [er] at q
      intro vs h' R' g ok
      match rs, vs, q, ok with
      | [ra, rb, rc], [v, w, u], q, ok =>
        obtain ⟨oa, ob, oc, _⟩ := ok
        refine ⟨v, w, u, rfl, ?_⟩
        dsimp only at q
        cases e1 : asgn i ra ρ with
        | bad => rw [e1] at q; exact q.elim
        | exc c p => exact absurd e1 (asgn_ne _ _ _ _)
        | ok ρ1 =>
          rw [e1] at q
          have R1 := asgn_two R' oa e1
          have q1 : Post X.K W D h (liftE ρ ((asgn j rb ρ1).bind fun ρ2 => asgn l rc ρ2)) := q
          cases e2 : asgn j rb ρ1 with
          | bad => rw [e2] at q1; exact q1.elim
          | exc c p => exact absurd e2 (asgn_ne _ _ _ _)
          | ok ρ2 =>
            rw [e2] at q1
            have R2 := asgn_two R1 ob e2
            have q2 : Post X.K W D h (liftE ρ (asgn l rc ρ2)) := q1
            cases e3 : asgn l rc ρ2 with
            | bad => rw [e3] at q2; exact q2.elim
            | exc c p => exact absurd e3 (asgn_ne _ _ _ _)
            | ok ρ3 =>
              rw [e3] at q2
              exact q2 _ h' (asgn_two R2 oc e3) g.sg
      | [], _, q, _ => exact q.elim
      | [_], _, q, _ => exact q.elim
      | [_, _], _, q, _ => exact q.elim
      | _ :: _ :: _ :: _ :: _, _, q, _ => exact q.elim
      | [_, _, _], [], _, ok => exact ok.elim
      | [_, _, _], [_], _, ok => exact ok.2.elim
      | [_, _, _], [_, _], _, ok => exact ok.2.2.elim
      | [_, _, _], _ :: _ :: _ :: _ :: _, _, ok => exact ok.2.2.2.elim
end
end Sq

/-! zip of two, range of three. -/
namespace Sq
open PySem PySem.Spec PyProof.Rows L2
section
variable {K : PySem.W.Frag} {W : WF} {X : Cx} {a b e e2 : Expr} {tg : Expr} {f g : EF} {p pos : Pos} {P : Hs → Hs → Prop}
def zArg : Rv → Option (Bool × List Rv)
  | .v (.list xs) => some (true, xs.map .v)
  | .v (.tuple xs) => some (false, xs.map .v)
  | .b (.list xs) => some (true, xs.map .b)
  | .b (.tuple xs) => some (false, xs.map .b)
  | _ => none
def pairR : Rv → Rv → Option Rv
  | .v x, .v y => some (.v (.tuple [x, y]))
  | .b x, .b y => some (.b (.tuple [x, y]))
  | .v x, .b y => some (.b (.tuple [x, y]))
  | .b x, .v y => some (.b (.tuple [x, y]))
  | _, _ => none
def zipR : List Rv → List Rv → Option (List Rv)
  | r :: rs, s :: ss => match pairR r s, zipR rs ss with
    | some q, some qs => some (q :: qs)
    | _, _ => none
  | _, _ => some []
theorem zipR_cons {r s : Rv} {rs ss qs : List Rv} (e : zipR (r :: rs) (s :: ss) = some qs) : ∃ q qs', pairR r s = some q ∧ zipR rs ss = some qs' ∧ qs = q :: qs' := by
  unfold zipR at e
  split at e
  · rename_i q qs' h1 h2
    cases e
    exact ⟨q, qs', h1, h2, rfl⟩
  · cases e
theorem zipR_len : ∀ {rs ss qs : List Rv}, zipR rs ss = some qs → qs.length = min rs.length ss.length
  | [], _, _, e => by
    unfold zipR at e
    cases e
    simp
  | _ :: _, [], _, e => by
    unfold zipR at e
    cases e
    simp
  | r :: rs, s :: ss, qs, e => by
    obtain ⟨q, qs', h1, h2, rfl⟩ := zipR_cons e
    have := zipR_len h2
    simp [this]
theorem zipR_get : ∀ {rs ss qs : List Rv} {i : Nat} {r s : Rv}, zipR rs ss = some qs → rs[i]? = some r → ss[i]? = some s → ∃ q, qs[i]? = some q ∧ pairR r s = some q
  | [], _, _, _, _, _, _, e, _ => by simp at e
  | _ :: _, [], _, _, _, _, _, _, e => by simp at e
  | r' :: rs, s' :: ss, qs, 0, r, s, e, e1, e2 => by
    obtain ⟨q, qs', h1, h2, rfl⟩ := zipR_cons e
    have e1' : r' = r := by simpa using e1
    have e2' : s' = s := by simpa using e2
    subst e1' e2'
    exact ⟨q, rfl, h1⟩
  | r' :: rs, s' :: ss, qs, i + 1, r, s, e, e1, e2 => by
    obtain ⟨q, qs', h1, h2, rfl⟩ := zipR_cons e
    obtain ⟨q2, h3, h4⟩ := zipR_get (i := i) h2 (by simpa using e1) (by simpa using e2)
    exact ⟨q2, by simpa using h3, h4⟩
theorem zArg_ok {h : Hs} {v : V} {a : Rv} {k : Bool} {rs : List Rv} (e : zArg a = some (k, rs)) (ok : RvF K h v a) : ∃ p vs, v = .ref p ∧ (∀ h2, SG h h2 → Ch h2 → VsF K h2 vs rs) ∧ (k = true → ∀ h2, SG h h2 → Ch h2 → SqL K h2.H p vs) ∧ (k = false → ∀ h2, SG h h2 → Ch h2 → SqT K h2.H p vs) := by
  unfold zArg at e
  split at e
  · cases e
    obtain ⟨p, vs, rfl, s, d⟩ := dp_lst ok
    exact ⟨p, vs, rfl, fun h2 s2 c2 => vsf_map (mk := Rv.v) (fun _ _ q => q) (ex_dpa s2.g d), fun _ h2 s2 c2 => ex_l (s2.g.trans c2.gh) s, fun z => nomatch z⟩
  · cases e
    obtain ⟨p, vs, rfl, s, d⟩ := dp_tup ok
    exact ⟨p, vs, rfl, fun h2 s2 c2 => vsf_map (mk := Rv.v) (fun _ _ q => q) (ex_dpa s2.g d), fun z => (nomatch z), fun _ h2 s2 c2 => ex_t (s2.g.trans c2.gh) s⟩
  · cases e
    obtain ⟨p, vs, rfl, s, d⟩ := dp_lst ok
    exact ⟨p, vs, rfl, fun h2 s2 c2 => vsf_map (mk := Rv.b) (fun _ _ q => q) (ex_dpa s2.f d), fun _ h2 s2 c2 => ex_l (s2.f.trans c2.fh) s, fun z => nomatch z⟩
  · cases e
    obtain ⟨p, vs, rfl, s, d⟩ := dp_tup ok
    exact ⟨p, vs, rfl, fun h2 s2 c2 => vsf_map (mk := Rv.b) (fun _ _ q => q) (ex_dpa s2.f d), fun z => (nomatch z), fun _ h2 s2 c2 => ex_t (s2.f.trans c2.fh) s⟩
  · cases e
theorem pair_new2 {h : Hs} (c : Ch h) {T : Addr} {H' : Hp} (n : h.H T = none) {v w : V} {r s q : Rv} (o1 : RvF K h v r) (o2 : RvF K h w s) (hq : pairR r s = some q) (nt : NewT h.H T [v, w] H') :
    ∃ h', h'.H = H' ∧ Gr h h' ∧ Ch h' ∧ RvF K h' (.ref T) q := by
  obtain ⟨o, od, rfl⟩ := nt
  unfold pairR at hq
  split at hq
  · cases hq
    exact ⟨h.newV T (.frz o (.tup [v, w])), rfl, Gr.newV c n, c.newV, Dp.tup upd_same od (.cons (ex_dp (Ex.new (c.gN n)) o1) (.cons (ex_dp (Ex.new (c.gN n)) o2) .nil))⟩
  · cases hq
    exact ⟨h.newB T (.frz o (.tup [v, w])), rfl, Gr.newB c n, c.newB n, Dp.tup upd_same od (.cons (ex_dp (Ex.new (c.fN n)) o1) (.cons (ex_dp (Ex.new (c.fN n)) o2) .nil))⟩
  · cases hq
    exact ⟨h.newB T (.frz o (.tup [v, w])), rfl, Gr.newB c n, c.newB n, Dp.tup upd_same od (.cons (ex_dp (Ex.new (c.fN n)) (ex_dp c.gf o1)) (.cons (ex_dp (Ex.new (c.fN n)) o2) .nil))⟩
  · cases hq
    exact ⟨h.newB T (.frz o (.tup [v, w])), rfl, Gr.newB c n, c.newB n, Dp.tup upd_same od (.cons (ex_dp (Ex.new (c.fN n)) o1) (.cons (ex_dp (Ex.new (c.fN n)) (ex_dp c.gf o2)) .nil))⟩
  · cases hq
theorem itz_ok {h0 : Hs} {rs ss qs : List Rv} {a b : Addr} {vs ws : List V} (hq : zipR rs ss = some qs) (ha : ∀ h, P h0 h → Ch h → SqL K h.H a vs) (hb : ∀ h, P h0 h → Ch h → SqL K h.H b ws) (hv : ∀ h, P h0 h → Ch h → VsF K h vs rs) (hw : ∀ h, P h0 h → Ch h → VsF K h ws ss) : ItOk P K (ItzF K true a b) h0 qs where
  go := fun i h p c hi => by
    have hl := zipR_len hq
    have h1 := (hv h p c).len
    have h2 := (hw h p c).len
    have i1 : i < vs.length := by omega
    have i2 : i < ws.length := by omega
    exact ⟨vs, ws, vs[i], ws[i], ha h p c, hb h p c, List.getElem?_eq_getElem i1, List.getElem?_eq_getElem i2⟩
  stop := fun i h p c hi => by
    have hl := zipR_len hq
    have h1 := (hv h p c).len
    have h2 := (hw h p c).len
    exact ⟨vs, ws, ha h p c, hb h p c, by omega⟩
  yld := fun i h v H' p c hi y => by
    obtain ⟨T, x, y', rfl, n, nt, y1, y2⟩ := y
    obtain ⟨r, e1, o1⟩ := (hv h p c).get (y1 vs (ha h p c))
    obtain ⟨s, e2, o2⟩ := (hw h p c).get (y2 ws (hb h p c))
    obtain ⟨q, e3, e4⟩ := zipR_get hq e1 e2
    obtain ⟨h', eh, g, c', ok⟩ := pair_new2 c n o1 o2 e4 nt
    exact ⟨h', q, eh, g, c', e3, ok⟩
theorem itzt_ok {h0 : Hs} {rs ss qs : List Rv} {a b : Addr} {vs ws : List V} (hq : zipR rs ss = some qs) (ha : ∀ h, P h0 h → Ch h → SqT K h.H a vs) (hb : ∀ h, P h0 h → Ch h → SqT K h.H b ws) (hv : ∀ h, P h0 h → Ch h → VsF K h vs rs) (hw : ∀ h, P h0 h → Ch h → VsF K h ws ss) : ItOk P K (ItzF K false a b) h0 qs where
  go := fun i h p c hi => by
    have hl := zipR_len hq
    have h1 := (hv h p c).len
    have h2 := (hw h p c).len
    have i1 : i < vs.length := by omega
    have i2 : i < ws.length := by omega
    exact ⟨vs, ws, vs[i], ws[i], ha h p c, hb h p c, List.getElem?_eq_getElem i1, List.getElem?_eq_getElem i2⟩
  stop := fun i h p c hi => by
    have hl := zipR_len hq
    have h1 := (hv h p c).len
    have h2 := (hw h p c).len
    exact ⟨vs, ws, ha h p c, hb h p c, by omega⟩
  yld := fun i h v H' p c hi y => by
    obtain ⟨T, x, y', rfl, n, nt, y1, y2⟩ := y
    obtain ⟨r, e1, o1⟩ := (hv h p c).get (y1 vs (ha h p c))
    obtain ⟨s, e2, o2⟩ := (hw h p c).get (y2 ws (hb h p c))
    obtain ⟨q, e3, e4⟩ := zipR_get hq e1 e2
    obtain ⟨h', eh, g, c', ok⟩ := pair_new2 c n o1 o2 e4 nt
    exact ⟨h', q, eh, g, c', e3, ok⟩
def zipK (as : List Rv) : Er (List Rv) := match as with
  | [a, b] => match zArg a, zArg b with
    | some (k, rs), some (k', ss) => if k = k' then (match zipR rs ss with
      | some qs => .ok qs
      | none => .bad) else .bad
    | _, _ => .bad
  | _ => .bad
def zipF (r : AF) : IF := fun ρ => (r ρ).bind zipK
theorem xzip {elts : List Expr} {kk : Nat} {tpos : Pos} {r : AF} (hP : ∀ h h2, P h h2 → SG h h2) (hg : Gl X "zip") (hm : X.mg "zip" = none) (ha : PA X [e, e2] (tXa X.K W r))
    (hs : starEach [e, e2] X.env = (false, eval e X.env) :: starEach [e2] X.env := by rfl) (hpl : (backTo pos (starEach [e2] X.env)).any (·.1) = false := by rfl) :
    PI X (.Tuple elts kk tpos) (.Call (.Name "zip" p) [e, e2] [] pos) (tI P X.K W (zipF r)) := by
  refine piTo (pi_zipF hg hm ha hs hpl) fun σ H R q => ?_
  obtain ⟨h, ρ, rfl, Rl, q⟩ := q
  refine ⟨h, ρ, rfl, Rl, PI1.bindA q fun as vs h1 _ R1 g1 ok q1 => ?_⟩
  unfold zipK at q1
  split at q1
  rotate_left
  · exact q1.elim
  rename_i a b
  split at q1
  rotate_left
  · exact q1.elim
  rename_i k rs k' ss ea eb
  split at q1
  rotate_left
  · exact q1.elim
  rename_i ek
  subst ek
  split at q1
  rotate_left
  · exact q1.elim
  rename_i qs hq
  match vs, ok with
  | [v, w], ok =>
    obtain ⟨oa, ob, _⟩ := ok
    obtain ⟨pa, va, rfl, ha1, ha2, ha3⟩ := zArg_ok ea oa
    obtain ⟨pb, vb, rfl, hb1, hb2, hb3⟩ := zArg_ok eb ob
    refine ⟨pa, pb, va, vb, rfl, ?_⟩
    cases k with
    | true => exact .inl ⟨ha2 rfl h1 (SG.refl _) R1.ch, hb2 rfl h1 (SG.refl _) R1.ch, q1 _ h1 R1 (Gr.refl _) (itz_ok hq (fun h p => ha2 rfl h (hP _ _ p)) (fun h p => hb2 rfl h (hP _ _ p)) (fun h p => ha1 h (hP _ _ p)) (fun h p => hb1 h (hP _ _ p)))⟩
    | false => exact .inr ⟨ha3 rfl h1 (SG.refl _) R1.ch, hb3 rfl h1 (SG.refl _) R1.ch, q1 _ h1 R1 (Gr.refl _) (itzt_ok hq (fun h p => ha3 rfl h (hP _ _ p)) (fun h p => hb3 rfl h (hP _ _ p)) (fun h p => ha1 h (hP _ _ p)) (fun h p => hb1 h (hP _ _ p)))⟩
  | [], ok => exact ok.elim
  | [_], ok => exact ok.2.elim
  | _ :: _ :: _ :: _, ok => exact ok.2.2.elim
theorem xzipS {elts : List Expr} {kk : Nat} {tpos : Pos} {r : AF} (hg : Gl X "zip") (hm : X.mg "zip" = none) (ha : PA X [e, e2] (tXa X.K W r))
    (hs : starEach [e, e2] X.env = (false, eval e X.env) :: starEach [e2] X.env := by rfl) (hpl : (backTo pos (starEach [e2] X.env)).any (·.1) = false := by rfl) :
    PI X (.Tuple elts kk tpos) (.Call (.Name "zip" p) [e, e2] [] pos) (tI SG X.K W (zipF r)) := xzip (fun _ _ q => q) hg hm ha hs hpl
theorem xzipC {elts : List Expr} {kk : Nat} {tpos : Pos} {r : AF} (hg : Gl X "zip") (hm : X.mg "zip" = none) (ha : PA X [e, e2] (tXa X.K W r))
    (hs : starEach [e, e2] X.env = (false, eval e X.env) :: starEach [e2] X.env := by rfl) (hpl : (backTo pos (starEach [e2] X.env)).any (·.1) = false := by rfl) :
    PI X (.Tuple elts kk tpos) (.Call (.Name "zip" p) [e, e2] [] pos) (tI Gr X.K W (zipF r)) := xzip (fun _ _ q => q.sg) hg hm ha hs hpl
/-! range of three -/
def rgC (lo c : Int) (n : Nat) : List Rv := (List.range n).map fun i : Nat => .v (.int (lo + (i : Nat) * c))
def rg3K (as : List Rv) : Er (List Rv) := match as with
  | [.v (.int i), .v (.int j), .v (.int c)] => if c ≠ 0 ∧ c.natAbs < 1073741824 ∧ Builtin.Range.small i j c = true then .ok (rgC i c (Builtin.Range.rangeSize i j c).toNat) else .bad
  | _ => .bad
def rg3F (r : AF) : IF := fun ρ => (r ρ).bind rg3K
theorem itc_ok {h0 : Hs} {lo c : Int} {n : Nat} : ItOk P K (Itc lo c n) h0 (rgC lo c n) where
  go := fun i h p _ hi => by
    have hi2 : i < n := by simpa [rgC] using hi
    exact hi2
  stop := fun i h p _ hi => by
    have : n ≤ i := by simpa [rgC] using hi
    exact this
  yld := fun i h v H' p ch hi y => by
    obtain ⟨e1, e2⟩ := y
    subst e1 e2
    have hi2 : i < n := by simpa [rgC] using hi
    refine ⟨h, .v (.int (lo + (i : Nat) * c)), rfl, Gr.refl h, ch, ?_, .int _⟩
    unfold rgC
    rw [List.getElem?_map, List.getElem?_range hi2]
    rfl
theorem xrg3 {a b c : Expr} {r : AF} (hg : Gl X "range") (hm : X.mg "range" = none) (ha : PA X [a, b, c] (tXa X.K W r))
    (hs : starEach [a, b, c] X.env = (false, eval a X.env) :: starEach [b, c] X.env := by rfl) (hpl : (backTo pos (starEach [b, c] X.env)).any (·.1) = false := by rfl) :
    PI X tg (.Call (.Name "range" p) [a, b, c] [] pos) (tI P X.K W (rg3F r)) := by
  refine piTo (pi_range3 hg hm ha hs hpl) fun σ H R q => ?_
  obtain ⟨h, ρ, rfl, Rl, q⟩ := q
  refine ⟨h, ρ, rfl, Rl, PI1.bindA q fun as vs h1 _ R1 g1 ok q1 => ?_⟩
  unfold rg3K at q1
  split at q1
  rotate_left
  · exact q1.elim
  rename_i i j c' _
  split at q1
  rotate_left
  · exact q1.elim
  rename_i hc
  match vs, ok with
  | [v, w, u], ok =>
    obtain ⟨o1, o2, o3, _⟩ := ok
    have e1 := dp_int o1
    have e2 := dp_int o2
    have e3 := dp_int o3
    subst e1 e2 e3
    exact ⟨i, j, c', _, rfl, ⟨hc.1, hc.2.1, hc.2.2, rangeSize_toNat i j c'⟩, q1 _ h1 R1 (Gr.refl _) itc_ok⟩
  | [], ok => exact ok.elim
  | [_], ok => exact ok.2.elim
  | [_, _], ok => exact ok.2.2.elim
  | _ :: _ :: _ :: _ :: _, ok => exact ok.2.2.2.elim
end
end Sq

/-! l.extend(m), m a list of any kind. -/
namespace Sq
open PySem PySem.Spec PyProof.Rows L2
theorem ext_any (l : Addr) (items : Array Value) (n : Nat) (b : Addr) (its : Array Value) (m : Nat) (sl : Array (Option Value)) (h0 : ¬(!items.isEmpty && Builtin.List.listTooLong (items.size + its.size)) = true) (h1 : items.size ≤ sizeLine) (h2 : items.size + its.size ≤ sizeLine + 1) :
    Meets (Builtin.«list.extend» ⟨[.ref l, .ref b], []⟩) (fun _ R s => s.heap.get? l = some { cls := .type "list", dict := none, data := .seq items n, slots := #[] } ∧ s.heap.get? b = some { cls := .type "list", dict := none, data := .seq its m, slots := sl } ∧ R (.ok (.ret Value.none)) { s with heap := s.heap.update l (Obj.mapSeq fun x => x ++ its), toks := s.toks }) :=
  .of_wp fun prog w A R s h => by
    obtain ⟨hp, g, d, tk, os⟩ := s
    obtain ⟨hl, hb, h⟩ := h
    have f1 := sub_list_list
    have f2 := sub_list_tuple
    have hz' : (items ++ its).size ≤ sizeLine + 1 := by rw [Array.size_append]; exact h2
    wp_walk using (wpAny_updateSeq hl rfl (hz := h1) (_hz' := hz')), wpAny_loadPart' hl, wpAny_loadPart' hb
    exact ⟨_, rfl, h⟩

def rExtA (K : PySem.W.Frag) : V → List V → Hp → VK → Prop := fun x vs H Q => ∃ l b xs zs, x = .ref l ∧ vs = [.ref b] ∧ H l = some (.lst xs) ∧ SqL K H b zs ∧ xs.length + zs.length ≤ sizeLine ∧ Q .non (upd H l (.lst (xs ++ zs)))
theorem mt_extA {X : Cx} : MtM X "list.extend" (rExtA X.K) := by
  intro pins s σ H x vs v us Q I rx rv h
  obtain ⟨l, b, xs, zs, rfl, rfl, hH, hB, hz, q⟩ := h
  cases rx
  obtain ⟨u, rfl, ru⟩ := rv.one
  cases ru
  obtain ⟨z, its, n, r, hl, e⟩ := I.lstM hH
  obtain ⟨its2, r2, p2, z2⟩ := I.list hB
  obtain ⟨o, n2, e2, hc, hd, hs⟩ := p2
  obtain ⟨oc, od, oda, osl⟩ := o
  dsimp only at hc hd hs
  subst hc hd hs
  have hl2 := r2.length
  have hsz : its.toArray.size + its2.toArray.size ≤ sizeLine := by rw [List.size_toArray, List.size_toArray]; omega
  have hlong : ¬ (!its.toArray.isEmpty && Builtin.List.listTooLong (its.toArray.size + its2.toArray.size)) = true := by
    rw [notLongL hsz, Bool.and_false]
    exact Bool.false_ne_true
  refine call_meets F.slot_list_extend ⟨_, e, rfl⟩ F.entry_list_extend (F.args_list_extend_2 _ _)
    (ext_any l its.toArray n b its2.toArray n2 osl hlong (by rw [List.size_toArray]; omega) (by omega)) ⟨e, e2, ?_⟩
  refine ⟨.non, _, I.lset (its' := its ++ its2) hH e (by simp) (r.append r2) ?_, rfl, q⟩
  rw [List.length_append]
  omega
section
variable {X : Cx} {W : WF}
/-- l.extend(e), l a local -/
def extS (i : Nat) (f : EF) : SF := fun ρ => match slot ρ i with
  | .o xs => thenS ρ (f ρ) fun r => match r with
    | .v (.list ys) => if xs.length + ys.length ≤ 100000 then .next (ρ.set i (.o (xs ++ ys))) else .bad
    | .w ys => if xs.length + ys.length ≤ 100000 then .next (ρ.set i (.o (xs ++ ys))) else .bad
    | .o ys => if xs.length + ys.length ≤ 100000 then .next (ρ.set i (.o (xs ++ ys))) else .bad
    | _ => .bad
  | _ => .bad
theorem ext_go {K : PySem.W.Frag} {D : Ends} {h : Hs} {ρ : Env} {σ : L2.St} {h' : Hs} {i : Nat} {xs ys : List PyData} (R' : Rel K h' ρ σ) (es : slot ρ i = .o xs) {p l : Addr} {ws : List V} (ex : σ[i]? = some (some (.ref l))) (s : SqL K h'.H p ws) (d : DpAll K h'.G ws ys) (g : SG h h')
    (q : Post K W D h (if xs.length + ys.length ≤ 100000 then .next (ρ.set i (.o (xs ++ ys))) else .bad)) :
    ∃ l' b xs' zs, (V.ref l) = .ref l' ∧ [V.ref p] = [.ref b] ∧ h'.H l' = some (.lst xs') ∧ SqL K h'.H b zs ∧ xs'.length + zs.length ≤ sizeLine ∧ D.nx σ (upd h'.H l' (.lst (xs' ++ zs))) := by
  split at q
  · rename_i hle
    obtain ⟨l2, vs2, ex2, hl2, hd2, hlen2, mt⟩ := mut_now R' es
    rw [ex] at ex2
    cases ex2
    obtain ⟨R3, g3⟩ := mt (vs2 ++ ws) (xs ++ ys) (hd2.append d)
    have := d.len
    exact ⟨l, p, vs2, ws, rfl, rfl, hl2, s, by rw [hlen2, this]; exact Nat.le_trans hle (by decide), q σ _ R3 (g.trans g3)⟩
  · exact q.elim
theorem xext (i : Nat) {e o : Expr} {f : EF} {pos apos spos : Pos} (he : PE X (.Call (.Attribute o "extend" apos) [e] [] pos) (tBM X.K "list" (rExtA X.K) (tVar i) (tCons (tX X.K W f) tNil))) (hs : swapsWith (.Call (.Attribute o "extend" apos) [e] [] pos) none spos.line X.env = pure false := by rfl) :
    PS X (.Expr (.Call (.Attribute o "extend" apos) [e] [] pos) spos) (tS X.K W (extS i f)) := by
  refine psTo (ps_expr he hs) fun D σ H ⟨h, ρ, eh, R, q⟩ => ?_
  subst eh
  unfold extS at q
  split at q
  · rename_i xs es
    obtain ⟨l, vs, ex, hl, hd, hlen, _⟩ := mut_now R es
    refine ⟨.ref l, ex, .inl ⟨rfl, vs, .of hl⟩, ?_⟩
    refine (tX_mk (f := f) R (q.then fun r v h' _ R' g' ok q' => ?_) : tX X.K W f σ h.H _)
    split at q'
    · obtain ⟨p, ws, rfl, s, d⟩ := dp_lst ok
      exact ext_go R' es ex (ex_l R'.ch.gh s) d g'.sg q'
    · obtain ⟨p, ws, rfl, s, d⟩ := ok
      exact ext_go R' es ex (.inl (.of s)) d g'.sg q'
    · obtain ⟨p, ws, rfl, n, s, fl, d⟩ := ok
      exact ext_go R' es ex (.inl (.of s)) d g'.sg q'
    · exact q'.elim
  · exact q.elim
end
end Sq

/-! [x] * n; a text walked. -/
namespace Sq
open PySem PySem.Spec PyProof.Rows L2
section
variable {X : Cx} {W : WF} {K : PySem.W.Frag} {a b e : Expr} {f g : EF} {pos : Pos} {P : Hs → Hs → Prop} {tg : Expr}
def lrep (a b : Rv) : Er Rv := match a.lst, b.dat with
  | some xs, some (.int k) => if -(2 ^ 63) ≤ k ∧ k < 2 ^ 63 ∧ xs.length * k.toNat ≤ 100000 then .ok (.o (List.replicate k.toNat xs).flatten) else .bad
  | _, _ => .bad
theorem dpa_app {H : Hp} : ∀ {vs ws : List V} {ds es : List D}, DpAll K H vs ds → DpAll K H ws es → DpAll K H (vs ++ ws) (ds ++ es)
  | _, _, _, _, .nil, q => q
  | _, _, _, _, .cons a t, q => .cons a (dpa_app t q)
theorem dpa_rep {H : Hp} {vs : List V} {ds : List D} (h : DpAll K H vs ds) : ∀ n : Nat, DpAll K H (List.replicate n vs).flatten (List.replicate n ds).flatten
  | 0 => .nil
  | n + 1 => by
    rw [List.replicate_succ, List.replicate_succ, List.flatten_cons, List.flatten_cons]
    exact dpa_app h (dpa_rep h n)
theorem ok_lrep : OpOk K W lrep rRep := by
  intro h0 h ρ σ x y a b Q R0 R g oka okb q
  unfold lrep at q
  split at q
  · rename_i xs k ea eb
    split at q
    · rename_i hk
      obtain ⟨l, vs, rfl, hl, d⟩ := RvOk.lst ea oka
      have ev := dp_int (okb.dp R.ch eb)
      subst ev
      refine ⟨l, k, vs, rfl, rfl, hl, hk.1, hk.2.1, by rw [d.len]; exact Nat.le_trans hk.2.2 (by decide), fun p hp => q.newL R (dpa_rep d _) hp⟩
    · exact q.elim
  · exact q.elim
theorem xrep (ha : PE X a (tX X.K W f)) (hb : PE X b (tX X.K W g)) : PE X (.BinOp a .Mult b pos) (tX X.K W (binF lrep f g)) := peTo (pe_op op_rep ha hb) (bin_of ok_lrep)
/-! a text walked -/
def chars (s : Str) : List Rv := s.cps.toList.map fun c => .v (.str ⟨#[c]⟩)
def itT (a : Rv) : Er (List Rv) := match a.dat with
  | some (.str s) => .ok (chars s)
  | _ => .bad
theorem its_ok {h0 : Hs} {s : Str} : ItOk P K (Its s) h0 (chars s) where
  go := fun i h p c hi => by
    have : i < s.cps.size := by simpa [chars] using hi
    exact this
  stop := fun i h p c hi => by
    have : s.cps.size ≤ i := by simpa [chars] using hi
    exact this
  yld := fun i h v H' p c hi y => by
    obtain ⟨e1, ch, e2, e3⟩ := y
    subst e1 e3
    refine ⟨h, .v (.str ⟨#[ch]⟩), rfl, Gr.refl h, c, ?_, .str _⟩
    unfold chars
    rw [List.getElem?_map, Array.getElem?_toList, e2]
    rfl
theorem xiT (he : PE X e (tX X.K W f)) : PI X tg e (tI P X.K W (itF itT f)) := by
  refine piTo (pi_str he) fun σ H R q => ?_
  obtain ⟨h, ρ, rfl, Rl, q⟩ := q
  refine tX_mk Rl (PI1.bindE q fun a v h1 _ R1 g1 ok1 q1 => ?_)
  unfold itT at q1
  split at q1
  · rename_i s ea
    have d := ok1.dp R1.ch ea
    cases d
    exact ⟨s, rfl, q1 _ h1 R1 (Gr.refl _) its_ok⟩
  · exact q1.elim
theorem itT_ne {a : Rv} {c : Str} {p : Option (Str × PyData)} : itT a ≠ .exc c p := by
  intro e
  unfold itT at e
  split at e <;> cases e
end
end Sq

/-! {k: v, ..}. -/
namespace Sq
open PySem PySem.Spec PyProof.Rows L2
section
variable {X : Cx} {W : WF} {K : PySem.W.Frag} {f g : EF} {r : AF}
theorem PE1.mono {h : Hs} {ρ : Env} {σ : L2.St} {Q Q' : VK} (k : ∀ v H, Q v H → Q' v H) : ∀ {e : Er Rv}, PE1 K W h ρ σ Q e → PE1 K W h ρ σ Q' e
  | .ok r, q => fun v h' R g ok => k _ _ (q v h' R g ok)
  | .exc c p, q => q
  | .bad, q => q
theorem tX_mono {σ : L2.St} {H : Hp} {Q Q' : VK} (k : ∀ v H, Q v H → Q' v H) (q : tX K W f σ H Q) : tX K W f σ H Q' := by
  obtain ⟨h, ρ, rfl, R, q⟩ := tX_iff.mp q
  exact tX_mk R (q.mono k)
theorem tXa_mono {σ : L2.St} {H : Hp} {Q Q' : List V → Hp → Prop} (k : ∀ v H, Q v H → Q' v H) (q : tXa K W r σ H Q) : tXa K W r σ H Q' := by
  obtain ⟨h, ρ, rfl, R, q⟩ := q
  refine ⟨h, ρ, rfl, R, ?_⟩
  cases er : r ρ with
  | ok rs => rw [er] at q; exact fun v h' R g ok => k _ _ (q v h' R g ok)
  | exc c p => rw [er] at q; exact q
  | bad => rw [er] at q; exact q
theorem acons_of {σ : L2.St} {H : Hp} {Q : List V → Hp → Prop} (q : tXa K W (aCons f r) σ H Q) : tX K W f σ H fun v H1 => tXa K W r σ H1 fun vs H2 => Q (v :: vs) H2 := by
  obtain ⟨h, ρ, rfl, R, q⟩ := q
  refine tX_mk R (PA1.bindE q fun a v h1 _ R1 g1 ok1 q1 => ?_)
  cases ez : a.frz with
  | exc c p => exact absurd ez frz_ne
  | bad => rw [ez] at q1; exact q1.elim
  | ok a' =>
    rw [ez] at q1
    obtain ⟨h2, eh, R2, g2, ok2⟩ := frz_ok R R1 g1 ez ok1
    rw [← eh]
    have q2 : PA1 K W h2 ρ σ Q ((r ρ).bind fun as => .ok (a' :: as)) := by
      have q0 : PA1 K W h ρ σ Q ((r ρ).bind fun as => .ok (a' :: as)) := by
        have e0 : aCons f r ρ = (r ρ).bind fun as => .ok (a' :: as) := by
          unfold aCons
          rw [show f ρ = .ok a by assumption]
          show (a.frz.bind _) = _
          rw [ez]
          rfl
        rw [e0] at q
        exact q
      exact PA1.shift g2 q0
    refine ⟨h2, ρ, rfl, R2, PA1.bindA q2 fun as vs h3 _ R3 g3 ok3 q3 => ?_⟩
    exact q3 _ h3 R3 (Gr.refl _) ⟨(RvF.of ez ok2).grow g3, ok3⟩
def flatA : List (EF × EF) → AF
  | [] => aNil
  | (f, g) :: r => aCons f (aCons g (flatA r))
def flatV : List (V × V) → List V
  | [] => []
  | (x, y) :: r => x :: y :: flatV r
theorem pairs_of : ∀ (fs : List (EF × EF)) (σ : L2.St) (H : Hp) (Q : List (V × V) → Hp → Prop), tXa K W (flatA fs) σ H (fun vs H' => ∃ ps, vs = flatV ps ∧ Q ps H') → tPairs (fs.map fun f => (tX K W f.1, tX K W f.2)) σ H Q
  | [], σ, H, Q, q => by
    obtain ⟨h, ρ, rfl, R, q⟩ := q
    obtain ⟨ps, e, q⟩ := q [] h R (Gr.refl _) trivial
    cases ps with
    | nil => exact q
    | cons p ps => cases e
  | (f, g) :: r, σ, H, Q, q => by
    refine tX_mono (fun x H1 q1 => ?_) (acons_of q)
    refine tX_mono (fun y H2 q2 => ?_) (acons_of q1)
    refine pairs_of r σ H2 _ (tXa_mono (fun vs H3 q3 => ?_) q2)
    obtain ⟨ps, e, q3⟩ := q3
    cases ps with
    | nil => cases e
    | cons p ps =>
      obtain ⟨a, b⟩ := p
      cases e
      exact ⟨ps, rfl, q3⟩
def dispK : List Rv → Option (List (Key × PyData))
  | [] => some []
  | a :: .v d :: rs => match a.dat.bind keyD, dispK rs with
    | some k, some m => some ((k, d) :: m)
    | _, _ => none
  | _ => none
def mergeD (m more : List (Key × PyData)) : List (Key × PyData) := more.foldl (fun acc kv => setK acc kv.1 kv.2) m
def dispF (r : AF) : EF := fun ρ => (r ρ).bind fun rs => match dispK rs with
  | some m => if m.length ≤ 15 then .ok (.ok (mergeD [] m)) else .bad
  | none => .bad
theorem disp_vals {h : Hs} (c : Ch h) : ∀ {rs : List Rv} {vs : List V} {m : List (Key × PyData)}, dispK rs = some m → RvsOk K h vs rs → ∃ kvs : List (Key × V), vs = flatV (kvs.map fun kv => (kV kv.1, kv.2)) ∧ KvD K h.G kvs m
  | [], [], m, e, _ => by
    cases e
    exact ⟨[], rfl, .nil⟩
  | [], _ :: _, _, _, q => q.elim
  | [_], _, _, e, _ => by cases e
  | a :: b :: rs, vs, m, e, q => by
    unfold dispK at e
    split at e
    · cases ‹_ = []›
    · rename_i a' d rs' e0
      injection e0 with e1 e2
      injection e2 with e2 e3
      subst e1 e2 e3
      split at e
      · rename_i k m' e1 e2
        cases e
        match vs, q with
        | x :: y :: vs, ⟨q1, q2, q3⟩ =>
          obtain ⟨kvs, e3, kd⟩ := disp_vals c e2 q3
          obtain ⟨dk, ed, ek⟩ := Option.bind_eq_some_iff.mp e1
          have hk := keyD_v ek ((q1.rv (H0 := h.H)).dp c ed)
          subst hk e3
          exact ⟨(k, y) :: kvs, rfl, .cons ⟨rfl, q2⟩ kd⟩
        | [_], ⟨_, q⟩ => exact q.elim
        | [], q => exact q.elim
      · cases e
    · cases e
theorem KvD.merge {G : Hp} : ∀ {more : List (Key × V)} {mored : List (Key × PyData)} {l : List (Key × V)} {m : List (Key × PyData)}, KvD K G more mored → KvD K G l m → KvD K G (mergeK l more) (mergeD m mored)
  | _, _, _, _, .nil, q => q
  | _, _, _, _, .cons (a := p) (b := p') e t, q => by
    have := q.set p.1 e.2
    rw [e.1] at this
    have r := KvD.merge t this
    show KvD K G (mergeK (putK _ p.1 p.2) _) _
    rw [e.1]
    exact r
/-- a new own dict is filled -/
theorem Rel.fill {h0 h2 : Hs} {ρ : Env} {σ : L2.St} {p : Addr} {o o' : HO} (R0 : Rel K h0 ρ σ) (n : h0.H p = none) (R : Rel K h2 ρ σ) (g : Gr (h0.newO p o) h2) : Rel K ⟨h2.G, h2.F, upd h2.H p o'⟩ ρ σ ∧ Gr h0 ⟨h2.G, h2.F, upd h2.H p o'⟩ ∧ h2.F p = none := by
  have hf : h2.F p = none := by
    cases e : h2.F p with
    | none => rfl
    | some u =>
      have := g.fn p u e (R0.ch.fN n)
      have h1 : (h0.newO p o).H p = some o := upd_same
      rw [h1] at this
      cases this
  have ne : ∀ a u, h0.H a = some u → a ≠ p := fun a u e z => by subst z; rw [n] at e; cases e
  have old : ∀ a u, h0.H a = some u → h2.H a = some u := fun a u e => g.x a u (by
    show upd h0.H p o a = some u
    rw [upd_ne (ne a u e)]
    exact e)
  refine ⟨⟨⟨R.ch.gf, Ex.mut R.ch.fh hf⟩, R.len, fun i s x e1 e2 => ?_, R.dis⟩, ⟨g.g, g.f, fun a u e => ?_, g.gn, fun a u e z => ?_⟩, hf⟩
  · have q := R.at_ i s x e1 e2
    cases s with
    | u => trivial
    | x a => exact q
    | v d => exact q
    | b d => exact q
    | o xs =>
      obtain ⟨l, vs, z, a, b, d⟩ := q
      subst z
      obtain ⟨⟨u, hu⟩, _⟩ := R0.ownH e1 rfl e2
      exact ⟨l, vs, rfl, (upd_ne (ne l u hu)).trans a, b, d⟩
    | k kvs =>
      obtain ⟨l, vs, z, a, b, d⟩ := q
      subst z
      obtain ⟨⟨u, hu⟩, _⟩ := R0.ownH e1 rfl e2
      exact ⟨l, vs, rfl, (upd_ne (ne l u hu)).trans a, b, d⟩
    | t kvs =>
      obtain ⟨l, vs, z, a, b, d⟩ := q
      subst z
      obtain ⟨⟨u, hu⟩, _⟩ := R0.ownH e1 rfl e2
      exact ⟨l, vs, rfl, (upd_ne (ne l u hu)).trans a, b, d⟩
    | i c fs =>
      obtain ⟨l, vs, dx, z, a, b, d⟩ := q
      subst z
      obtain ⟨⟨u, hu⟩, _⟩ := R0.ownH e1 rfl e2
      exact ⟨l, vs, dx, rfl, (upd_ne (ne l u hu)).trans a, b, d⟩
    | y fs =>
      obtain ⟨l, vs, z, a, b, d⟩ := q
      subst z
      obtain ⟨⟨u, hu⟩, _⟩ := R0.ownH e1 rfl e2
      exact ⟨l, vs, rfl, (upd_ne (ne l u hu)).trans a, b, d⟩
    | z m fs => exact q
    | e fs => exact q
    | j l c fs =>
      obtain ⟨vs, dx, z, a, b, d⟩ := q
      subst z
      obtain ⟨⟨u, hu⟩, _⟩ := R0.ownH e1 rfl e2
      exact ⟨vs, dx, rfl, (upd_ne (ne l u hu)).trans a, b, d⟩
  · show upd h2.H p o' a = some u
    rw [upd_ne (ne a u e)]
    exact old a u e
  · have := g.fn a u e z
    cases q : h0.H a with
    | none => rfl
    | some t =>
      have h1 : (h0.newO p o).H a = some t := by
        show upd h0.H p o a = some t
        rw [upd_ne (ne a t q)]
        exact q
      rw [h1] at this
      cases this
theorem xdisp {pos : Pos} {keys : List (Option Expr)} {values : List Expr} (fs : List (EF × EF)) (hp : PPs X pos keys values (fs.map fun f => (tX X.K W f.1, tX X.K W f.2))) (h0 : keys ≠ []) (hall : keys.all (·.isSome) = true := by rfl) (hl : keys.length = values.length := by rfl)
    (h15 : keys.length ≤ 15 := by decide) : PE X (.Dict keys values pos) (tX X.K W (dispF (flatA fs))) := by
  refine peTo (pe_disp hp hall hl h0 h15) fun σ H Q q => ?_
  obtain ⟨h, ρ, rfl, R, q⟩ := tX_iff.mp q
  intro p hn
  have R1 := R.newO (o := .dK []) hn
  refine pairs_of fs σ _ _ ⟨h.newO p (.dK []), ρ, rfl, R1, ?_⟩
  unfold dispF at q
  cases er : flatA fs ρ with
  | bad => rw [er] at q; exact q.elim
  | exc c e => rw [er] at q; exact fun h' R' g => q h' R' ((Gr.newO R.ch hn).trans g)
  | ok rs =>
    rw [er] at q
    have q : PE1 X.K W h ρ σ Q (match dispK rs with
      | some m => if m.length ≤ 15 then .ok (.ok (mergeD [] m)) else .bad
      | none => .bad) := q
    intro vs h2 R2 g ok
    split at q
    · rename_i m em
      split at q
      · rename_i hm
        obtain ⟨kvs, rfl, kd⟩ := disp_vals R2.ch em ok
        obtain ⟨R3, g3, hf⟩ := Rel.fill (o' := .dK (mergeK [] kvs)) R hn R2 g
        refine ⟨_, rfl, g.x p _ upd_same, kvs, rfl, by rw [kd.len]; exact hm, ?_⟩
        exact q (.ref p) _ R3 g3 ⟨p, mergeK [] kvs, rfl, hn, upd_same, hf, kd.merge .nil⟩
      · exact q.elim
    · exact q.elim
end
end Sq

/-! Data in order: min, sorted, <=, in, of nested data. -/
namespace Sq
open PySem PySem.Spec PyProof.Rows L2 PySem.W
theorem hu2_of {A : Around} {k : Nat} (hr : Room k A) : A.units + 80 < cLine := by have := hr.un; omega
/-! one of two ways -/
section
variable {X : Cx} {K : PySem.W.Frag} {W : WF}
theorem bin_alt {φ ψ : Rv → Rv → Er Rv} {f g : EF} (ρ : Env) : binF (alt φ ψ) f g ρ = binF φ f g ρ ∨ binF (alt φ ψ) f g ρ = binF ψ f g ρ := by
  unfold binF
  cases f ρ with
  | bad => exact .inl rfl
  | exc c p => exact .inl rfl
  | ok a =>
    show ((g ρ).bind fun b => alt φ ψ a b) = ((g ρ).bind fun b => φ a b) ∨ ((g ρ).bind fun b => alt φ ψ a b) = ((g ρ).bind fun b => ψ a b)
    cases g ρ with
    | bad => exact .inl rfl
    | exc c p => exact .inl rfl
    | ok b =>
      show alt φ ψ a b = φ a b ∨ alt φ ψ a b = ψ a b
      unfold Sq.alt
      cases φ a b with
      | ok r => exact .inl rfl
      | exc c p => exact .inl rfl
      | bad => exact .inr rfl
theorem tX_alt {φ ψ : Rv → Rv → Er Rv} {f g : EF} : ∀ σ H Q, tX K W (binF (alt φ ψ) f g) σ H Q → tX K W (binF φ f g) σ H Q ∨ tX K W (binF ψ f g) σ H Q := by
  intro σ H Q q
  obtain ⟨h, ρ, rfl, R, q⟩ := tX_iff.mp q
  rcases bin_alt (φ := φ) (ψ := ψ) (f := f) (g := g) ρ with e | e
  · rw [e] at q
    exact .inl (tX_mk R q)
  · rw [e] at q
    exact .inr (tX_mk R q)
theorem tXt_alt {φ ψ : Rv → Rv → Er Rv} {f g : EF} : ∀ σ H Q, tXt K W (tstF (binF (alt φ ψ) f g)) σ H Q → tXt K W (tstF (binF φ f g)) σ H Q ∨ tXt K W (tstF (binF ψ f g)) σ H Q := by
  intro σ H Q q
  obtain ⟨h, ρ, rfl, R, q⟩ := tXt_iff.mp q
  unfold tstF at q
  rcases bin_alt (φ := φ) (ψ := ψ) (f := f) (g := g) ρ with e | e
  · rw [e] at q
    exact .inl (tXt_mk R q)
  · rw [e] at q
    exact .inr (tXt_mk R q)
theorem xaltE {φ ψ : Rv → Rv → Er Rv} {f g : EF} {e : Expr} (a : PE X e (tX X.K W (binF φ f g))) (b : PE X e (tX X.K W (binF ψ f g))) : PE X e (tX X.K W (binF (alt φ ψ) f g)) := peTo (peOr a b) tX_alt
theorem xaltT {φ ψ : Rv → Rv → Er Rv} {f g : EF} {e : Expr} (a : PT X e (tXt X.K W (tstF (binF φ f g)))) (b : PT X e (tXt X.K W (tstF (binF ψ f g)))) : PT X e (tXt X.K W (tstF (binF (alt φ ψ) f g))) := ptTo (ptOr a b) tXt_alt
def alt1 (φ ψ : Rv → Er Rv) : Rv → Er Rv := fun a => match φ a with
  | .bad => ψ a
  | q => q
theorem un_alt {φ ψ : Rv → Er Rv} {f : EF} (ρ : Env) : unF (alt1 φ ψ) f ρ = unF φ f ρ ∨ unF (alt1 φ ψ) f ρ = unF ψ f ρ := by
  unfold unF
  cases f ρ with
  | bad => exact .inl rfl
  | exc c p => exact .inl rfl
  | ok a =>
    show alt1 φ ψ a = φ a ∨ alt1 φ ψ a = ψ a
    unfold alt1
    cases φ a with
    | ok r => exact .inl rfl
    | exc c p => exact .inl rfl
    | bad => exact .inr rfl
theorem tX_alt1 {φ ψ : Rv → Er Rv} {f : EF} : ∀ σ H Q, tX K W (unF (alt1 φ ψ) f) σ H Q → tX K W (unF φ f) σ H Q ∨ tX K W (unF ψ f) σ H Q := by
  intro σ H Q q
  obtain ⟨h, ρ, rfl, R, q⟩ := tX_iff.mp q
  rcases un_alt (φ := φ) (ψ := ψ) (f := f) ρ with e | e
  · rw [e] at q
    exact .inl (tX_mk R q)
  · rw [e] at q
    exact .inr (tX_mk R q)
theorem xalt1 {φ ψ : Rv → Er Rv} {f : EF} {e : Expr} (a : PE X e (tX X.K W (unF φ f))) (b : PE X e (tX X.K W (unF ψ f))) : PE X e (tX X.K W (unF (alt1 φ ψ) f)) := peTo (peOr a b) tX_alt1
end
/-! lists seen -/
def Rv.listD : Rv → Option (List D)
  | .w xs => some xs
  | .o xs => some xs
  | .v (.list xs) => some xs
  | _ => none
theorem RvOk.listD {K : PySem.W.Frag} {H0 : Hp} {h : Hs} {v : V} (c : Ch h) : ∀ {a : Rv} {xs : List D}, a.listD = some xs → RvOk K H0 h v a → ∃ l vs, v = .ref l ∧ SqL K h.H l vs ∧ DpAll K h.G vs xs
  | .w _, _, e, ⟨l, vs, e1, x, y⟩ => by cases e; exact ⟨l, vs, e1, .inl (.inl x), y⟩
  | .o _, _, e, ⟨l, vs, e1, n, x, f, y⟩ => by cases e; exact ⟨l, vs, e1, .inl (.inl x), y⟩
  | .v (.list _), _, e, ok => by
    cases e
    obtain ⟨l, vs, e1, x, y⟩ := dp_lst ok
    exact ⟨l, vs, e1, ex_l c.gh x, y⟩
def nnB : D → Bool
  | .none => false
  | _ => true
theorem nnB_ne {d : D} (h : nnB d = true) : d ≠ .none := fun e => by subst e; exact absurd h (by decide)
def alikeB (ds : List D) : Bool := ds.all fun x => ds.all fun y => PySem.W.alike x y && nnB x
theorem alikeB_all {ds : List D} (h : alikeB ds = true) : PySem.W.AlikeAll ds := by
  unfold alikeB at h
  rw [List.all_eq_true] at h
  have h2 : ∀ x ∈ ds, ∀ y ∈ ds, PySem.W.alike x y = true ∧ x ≠ .none := fun x hx y hy => by
    have := List.all_eq_true.mp (h x hx) y hy
    rw [Bool.and_eq_true] at this
    exact ⟨this.1, nnB_ne this.2⟩
  exact ⟨fun x hx y hy => (h2 x hx y hy).1, fun x hx => (h2 x hx x hx).2⟩
theorem minD_mem (x : D) : ∀ (xs : List D), PySem.W.minD x xs ∈ x :: xs := by
  intro xs
  unfold PySem.W.minD
  induction xs generalizing x with
  | nil => exact List.mem_cons_self
  | cons y ys ih =>
    rw [List.foldl_cons]
    rcases List.mem_cons.mp (ih (if PySem.W.dataLt y x = true then y else x)) with e | e
    · rw [e]
      by_cases q : PySem.W.dataLt y x = true
      · rw [if_pos q]; exact List.mem_cons_of_mem _ List.mem_cons_self
      · rw [if_neg q]; exact List.mem_cons_self
    · exact List.mem_cons_of_mem _ (List.mem_cons_of_mem _ e)
theorem Vals.getV : ∀ {xs : List V} {us : List Value} {i : Nat} {u : Value}, Vals xs us → us[i]? = some u → ∃ x, xs[i]? = some x ∧ RelV x u := fun {xs us i u} r e => by
  cases hx : xs[i]? with
  | none =>
    have := Vals.none_of r hx
    rw [e] at this
    cases this
  | some x =>
    obtain ⟨u', e', q⟩ := Vals.get r hx
    rw [e] at e'
    cases e'
    exact ⟨x, rfl, q⟩
section
variable {X : Cx}
/-! min(xs) -/
def rMinDt (K : PySem.W.Frag) : List V → Hp → VK → Prop := fun vs H Q => ∃ (a : Addr) (xs : List V) (d : D) (ds : List D), vs = [V.ref a] ∧ SqL K H a xs ∧ DpAll K H xs (d :: ds) ∧ PySem.W.AlikeAll (d :: ds) ∧ PyData.depthAll (d :: ds) ≤ 60 ∧
  ∀ (i : Nat) (x : V) (e : D), xs[i]? = some x → (d :: ds)[i]? = some e → e = PySem.W.minD d ds → Q x H
theorem noObA_al {ds : List D} (h : ∀ x ∈ ds, PySem.W.alike x x = true) : noObA ds = true := by
  rw [noObA_all]
  exact List.all_eq_true.mpr fun x hx => noOb_alike x (h x hx)
theorem noOb_mem {ds : List D} (h : ∀ x ∈ ds, PySem.W.alike x x = true) {d : D} (hd : d ∈ ds) : noOb d = true := noOb_alike d (h d hd)
theorem cr_minDt (hc : X.calm = true) (hu : X.A.units + 80 < cLine) : CallR X (.builtin "min") (rMinDt X.K) := by
  intro pins s σ H vs us Q I r h
  obtain ⟨a, xs, d, ds, rfl, hs, hd, hal, hdp, q⟩ := h
  obtain ⟨its, rv, hl, _⟩ := I.list hs
  rw [Vals.ref1 r]
  obtain ⟨as, hr⟩ := L2.Dp.readsAll I _ _ its (hd.l2 (noObA_al fun x hx => hal.1 x hx x hx)) rv
  refine PySem.W.min_list_data (I.ok.hd hc) hl.isList (by simpa using hr) hal (by omega) fun i v h' tk bs hv hR hk => ?_
  have hv' : its[i]? = some v := by simpa using hv
  obtain ⟨x, hx, rx⟩ := Vals.getV rv hv'
  obtain ⟨e, he, hxe⟩ := DpAll.getV hd hx
  obtain ⟨as1, r1⟩ := L2.Dp.reads I e x v (hxe.l2 (noOb_mem (fun x hx => hal.1 x hx x hx) (List.mem_of_getElem? he))) rx
  have hee := PySem.W.alike_unique e _ v _ _ (hal.1 e (List.mem_of_getElem? he) _ (minD_mem d ds)) (PySem.W.reads_keeps hk r1) hR
  exact ⟨x, H, I.kept hk, rx, q i x e hx he hee⟩
def minDR (a : Rv) : Er Rv := match a.listD with
  | some (d :: ds) => if alikeB (d :: ds) = true ∧ PyData.depthAll (d :: ds) ≤ 60 then .ok (.v (PySem.W.minD d ds)) else .bad
  | _ => .bad
variable {W : WF} {a : Expr} {f : EF} {p pos : Pos}
theorem xminD (hc : X.calm = true) (hu : X.A.units + 80 < cLine) (hg : Gl X "min") (hm : X.mg "min" = none) (ha : PE X a (tX X.K W f)) (hs : starEach [a] X.env = (false, eval a X.env) :: starEach [] X.env := by rfl) : PE X (.Call (.Name "min" p) [a] [] pos) (tX X.K W (unF minDR f)) := by
  refine peTo (pe_callB (cr_minDt hc hu) hg hm boot_min (pa_cons ha pa_nil hs) (he := hs)) (c1_of fun h0 h ρ σ x a Q R0 R g ok q => ?_)
  unfold minDR at q
  split at q
  · rename_i d ds e
    split at q
    · rename_i hc2
      obtain ⟨l, vs, rfl, s, da⟩ := ok.listD R.ch e
      refine ⟨l, vs, d, ds, rfl, s, ex_dpa R.ch.gh da, alikeB_all hc2.1, hc2.2, fun i x e hx he hee => ?_⟩
      obtain ⟨e', he', hd⟩ := DpAll.getV da hx
      rw [he] at he'
      cases he'
      subst hee
      exact q.now R hd
    · exact q.elim
  · exact q.elim
def minA : Rv → Er Rv := alt1 minR minDR
theorem xminA (hc : X.calm = true) (hu : X.A.units + 80 < cLine) (hg : Gl X "min") (hm : X.mg "min" = none) (ha : PE X a (tX X.K W f)) (hs : starEach [a] X.env = (false, eval a X.env) :: starEach [] X.env := by rfl) : PE X (.Call (.Name "min" p) [a] [] pos) (tX X.K W (unF minA f)) :=
  xalt1 (xmin1 hc hg hm ha hs) (xminD hc hu hg hm ha hs)
/-! sorted(xs), items of one kind -/
abbrev VD := V × D
theorem dpa_pairs {K : PySem.W.Frag} {H : Hp} : ∀ {zs : List VD}, (∀ z ∈ zs, Dp K H z.1 z.2) → DpAll K H (zs.map (·.1)) (zs.map (·.2))
  | [], _ => .nil
  | z :: zs, h => .cons (h z List.mem_cons_self) (dpa_pairs fun y hy => h y (List.mem_cons_of_mem _ hy))
theorem dpa_zip {K : PySem.W.Frag} {H : Hp} : ∀ {xs : List V} {ds : List D}, DpAll K H xs ds → (∀ z ∈ xs.zip ds, Dp K H z.1 z.2) ∧ (xs.zip ds).map (·.1) = xs ∧ (xs.zip ds).map (·.2) = ds
  | _, _, .nil => ⟨fun _ h => by simp at h, rfl, rfl⟩
  | _, _, .cons h t => by
    obtain ⟨a, b, c⟩ := dpa_zip t
    refine ⟨fun z hz => ?_, by simp [b], by simp [c]⟩
    rw [List.zip_cons_cons] at hz
    rcases List.mem_cons.mp hz with e | e
    · subst e; exact h
    · exact a z e
def rSortDt (K : PySem.W.Frag) : List V → Hp → VK → Prop := fun vs H Q => ∃ (a : Addr) (xs : List V) (ds : List D), vs = [V.ref a] ∧ SqL K H a xs ∧ DpAll K H xs ds ∧ PySem.W.AllAlike ds ∧ PySem.W.Sortable ds ∧ PyData.depthAll ds ≤ 60 ∧
  ∀ p, H p = none → Q (.ref p) (upd H p (.lst (((xs.zip ds).mergeSort (PySem.W.dataLe false fun z : VD => z.2)).map (·.1))))
theorem depth_mem {d : D} : ∀ {ds : List D}, d ∈ ds → d.depth ≤ PyData.depthAll ds
  | [], h => by cases h
  | e :: ds, h => by
    rw [PyData.depthAll]
    rcases List.mem_cons.mp h with q | q
    · subst q; exact Nat.le_max_left _ _
    · exact Nat.le_trans (depth_mem q) (Nat.le_max_right _ _)
theorem each_zip {h : Heap} {pins : List (Addr × Obj)} {σ : L2.St} {H : Hp} {s : Shared} (I : Inv X pins σ H s) : ∀ {xs : List V} {its : List Value} {ds : List D}, Vals xs its → L2.DpAll X.K H xs ds → EachIs (fun v (z : VD) => RelV z.1 v) its (xs.zip ds) ∧ EachIs (fun v (z : VD) => ∃ as, Reads s.heap v z.2 as) its (xs.zip ds)
  | _, _, _, .nil, .nil => ⟨.nil, .nil⟩
  | _, _, _, .cons r t, .cons h u => by
    obtain ⟨a, b⟩ := each_zip (h := s.heap) I t u
    exact ⟨.cons r a, .cons (L2.Dp.reads I _ _ _ h r) b⟩
theorem vals_each : ∀ {out : List Value} {zs : List VD}, EachIs (fun v (z : VD) => RelV z.1 v) out zs → Vals (zs.map (·.1)) out
  | _, _, .nil => .nil
  | _, _, .cons r t => .cons r (vals_each t)
theorem cr_sortDt (hu : X.A.units + 80 < cLine) : CallR X (.builtin "sorted") (rSortDt X.K) := by
  intro pins s σ H vs us Q I r h
  obtain ⟨a, xs, ds, rfl, hs, hd, hal, hso, hdp, q⟩ := h
  obtain ⟨its, rv, hl, hz⟩ := I.list hs
  rw [Vals.ref1 r]
  obtain ⟨e1, e2⟩ := each_zip (h := s.heap) I rv (hd.l2 (noObA_al fun x hx => hal x hx x hx))
  obtain ⟨z1, z2, z3⟩ := dpa_zip hd
  have hlen : (xs.zip ds).length = xs.length := by rw [← List.length_map (f := (·.1)), z2]
  refine PySem.W.sorted_data (β := VD) (enc := (·.2)) hl.isList e1 e2 (by rw [z3]; exact hal) (by rw [z3]; exact hso) (by rw [hlen]; exact hz) (fun b hb => ?_) fun out hol ho => ?_
  · have := depth_mem (d := b.2) (ds := ds) (by rw [← z3]; exact List.mem_map_of_mem hb)
    omega
  · obtain ⟨ep, he'⟩ := PyProof.Rows.sortedAll_at s.heap its out.toArray
    have hv := vals_each ho
    refine ⟨.ref _, upd H (s.heap.objs.size + 1) (.lst (((xs.zip ds).mergeSort (PySem.W.dataLe false fun z : VD => z.2)).map (·.1))), I.laid (t' := s.toks) (fun _ _ => PyProof.Rows.sortedAll_old) (Nat.le_succ _) ⟨?_, out, ep, hv, by simpa using he'⟩, rfl, q _ (I.hok.fresh (Nat.le_succ _))⟩
    rw [List.length_map, (List.mergeSort_perm _ _).length_eq, hlen]
    exact hz
def sortD (ds : List D) : List D := ds.mergeSort (PySem.W.dataLe false fun d : D => d)
def listsB (ds : List D) : Bool := ds.all fun d => match d with | .list _ => true | _ => false
def tupsB (ds : List D) : Bool := ds.all fun d => match d with | .tuple (_ :: _) => true | _ => false
theorem sortable_lists {ds : List D} (h : listsB ds = true) : PySem.W.Sortable ds := .inr fun d hd => by
  have := List.all_eq_true.mp h d hd
  cases d <;> simp at this ⊢
theorem sortable_tups {ds : List D} (h : tupsB ds = true) : PySem.W.Sortable ds := .inl fun d hd => by
  have := List.all_eq_true.mp h d hd
  cases d with
  | tuple xs =>
    cases xs with
    | nil => simp at this
    | cons x r => exact ⟨x, r, rfl⟩
  | _ => simp at this
def sortDR (a : Rv) : Er Rv := match a.listD with
  | some ds => if alikeB ds = true ∧ PyData.depthAll ds ≤ 60 ∧ (listsB ds || tupsB ds) = true then .ok (.o (sortD ds)) else .bad
  | _ => .bad
theorem xsortedD (hu : X.A.units + 80 < cLine) (hg : Gl X "sorted") (hm : X.mg "sorted" = none) (ha : PE X a (tX X.K W f)) (hs : starEach [a] X.env = (false, eval a X.env) :: starEach [] X.env := by rfl) : PE X (.Call (.Name "sorted" p) [a] [] pos) (tX X.K W (unF sortDR f)) := by
  refine peTo (pe_callB (cr_sortDt hu) hg hm boot_sorted (pa_cons ha pa_nil hs) (he := hs)) (c1_of fun h0 h ρ σ x a Q R0 R g ok q => ?_)
  unfold sortDR at q
  split at q
  · rename_i ds e
    split at q
    · rename_i hc2
      obtain ⟨hc2, hc3, hc4⟩ := hc2
      obtain ⟨l, vs, rfl, s, da⟩ := ok.listD R.ch e
      have hal := alikeB_all hc2
      refine ⟨l, vs, ds, rfl, s, ex_dpa R.ch.gh da, fun x hx y hy => hal.1 x hx y hy, ?_, hc3, fun p hp => ?_⟩
      · rw [Bool.or_eq_true] at hc4
        rcases hc4 with z | z
        · exact sortable_lists z
        · exact sortable_tups z
      · obtain ⟨z1, z2, z3⟩ := dpa_zip da
        have e2 : sortD ds = ((vs.zip ds).mergeSort (PySem.W.dataLe false fun z : VD => z.2)).map (·.2) := by
          unfold sortD
          conv => lhs; rw [← z3]
          exact (List.map_mergeSort (f := fun z : VD => z.2) fun a _ b _ => rfl).symm
        refine PE1.newL (xs := sortD ds) q R ?_ hp
        rw [e2]
        exact dpa_pairs fun z hz => z1 z ((List.mergeSort_perm _ _).mem_iff.mp hz)
    · exact q.elim
  · exact q.elim
def sortA : Rv → Er Rv := alt1 sortR sortDR
theorem xsortedA (hu : X.A.units + 80 < cLine) (hg : Gl X "sorted") (hm : X.mg "sorted" = none) (ha : PE X a (tX X.K W f)) (hs : starEach [a] X.env = (false, eval a X.env) :: starEach [] X.env := by rfl) : PE X (.Call (.Name "sorted" p) [a] [] pos) (tX X.K W (unF sortA f)) :=
  xalt1 (xsorted hg hm ha hs) (xsortedD hu hg hm ha hs)
/-! x in xs, nested data -/
variable {b : Expr} {g : EF}
def inDeep (n : Bool) (a b : Rv) : Er Rv := match a.dat, b.listD with
  | some x, some ys => if SeqAt.shaped x = true ∧ SeqAt.shaped (.list ys) = true then .ok (.v (.bool (if n then !(ys.any fun z => PyData.eqv z x) else ys.any fun z => PyData.eqv z x))) else .bad
  | _, _ => .bad
theorem listD_dp {K : PySem.W.Frag} {H0 : Hp} {h : Hs} {v : V} (c : Ch h) {a : Rv} {xs : List D} (e : a.listD = some xs) (ok : RvOk K H0 h v a) : Dp K h.H v (.list xs) := by
  obtain ⟨l, vs, rfl, s, da⟩ := ok.listD c e
  exact .lst s (ex_dpa c.gh da)
theorem ok_inDeep {K : PySem.W.Frag} : OpOk K W (inDeep false) (rInD K) := by
  intro h0 h ρ σ x y a b Q R0 R g oka okb q
  unfold inDeep at q
  split at q
  · rename_i d ys ea eb
    split at q
    · rename_i hc
      exact ⟨d, ys, (oka.dp R.ch ea).l2 (noOb_shaped hc.1), (listD_dp R.ch eb okb).l2 (noOb_shaped hc.2), hc.1, hc.2, q.now R (.bl _)⟩
    · exact q.elim
  · exact q.elim
theorem ok_notInDeep {K : PySem.W.Frag} : OpOk K W (inDeep true) (rNotInD K) := by
  intro h0 h ρ σ x y a b Q R0 R g oka okb q
  unfold inDeep at q
  split at q
  · rename_i d ys ea eb
    split at q
    · rename_i hc
      exact ⟨d, ys, (oka.dp R.ch ea).l2 (noOb_shaped hc.1), (listD_dp R.ch eb okb).l2 (noOb_shaped hc.2), hc.1, hc.2, q.now R (.bl _)⟩
    · exact q.elim
  · exact q.elim
def inA (n : Bool) : Rv → Rv → Er Rv := alt (inR n) (inDeep n)
theorem hu65 {n : Nat} (h : n + 80 < cLine) : n + 65 < cLine := by omega
theorem hu01 {n : Nat} (h : n + 80 < cLine) : n + 1 < cLine := by omega
theorem xinA (hu : X.A.units + 80 < cLine) (ha : PE X a (tX X.K W f)) (hb : PE X b (tX X.K W g)) (hm : behindInMarks .In b = false := by first | exact nobehind _ (by decide) (by decide) | rfl) : PE X (.Compare a [.In] [b] pos) (tX X.K W (binF (inA false) f g)) :=
  xaltE (xin (hu01 hu) ha hb hm) (xcmp (op_inD (hu65 hu)) ok_inDeep ha hb hm)
theorem xnotinA (hu : X.A.units + 80 < cLine) (ha : PE X a (tX X.K W f)) (hb : PE X b (tX X.K W g)) (hm : behindInMarks .NotIn b = false := by first | exact nobehind _ (by decide) (by decide) | rfl) : PE X (.Compare a [.NotIn] [b] pos) (tX X.K W (binF (inA true) f g)) :=
  xaltE (xnotin (hu01 hu) ha hb hm) (xcmp (op_notInD (hu65 hu)) ok_notInDeep ha hb hm)
theorem xtinA (hu : X.A.units + 80 < cLine) (ha : PE X a (tX X.K W f)) (hb : PE X b (tX X.K W g)) (hm : behindInMarks .In b = false := by first | exact nobehind _ (by decide) (by decide) | rfl) : PT X (.Compare a [.In] [b] pos) (tXt X.K W (tstF (binF (inA false) f g))) :=
  xaltT (xtin (hu01 hu) ha hb hm) (xtcmp (op_inD (hu65 hu)) ok_inDeep ha hb hm)
theorem xtnotinA (hu : X.A.units + 80 < cLine) (ha : PE X a (tX X.K W f)) (hb : PE X b (tX X.K W g)) (hm : behindInMarks .NotIn b = false := by first | exact nobehind _ (by decide) (by decide) | rfl) : PT X (.Compare a [.NotIn] [b] pos) (tXt X.K W (tstF (binF (inA true) f g))) :=
  xaltT (xtnotin (hu01 hu) ha hb hm) (xtcmp (op_notInD (hu65 hu)) ok_notInDeep ha hb hm)
/-! <=, < of nested data -/
def rLeDt (K : PySem.W.Frag) : R2 := fun x y H Q => ∃ d e, Dp K H x d ∧ Dp K H y e ∧ PySem.W.alike d e = true ∧ d ≠ .none ∧ d.depth ≤ 60 ∧ noOb d = true ∧ noOb e = true ∧ Q (.bl (!PySem.W.dataLt e d)) H
def rLtDt (K : PySem.W.Frag) : R2 := fun x y H Q => ∃ d e, Dp K H x d ∧ Dp K H y e ∧ PySem.W.alike d e = true ∧ d ≠ .none ∧ d.depth ≤ 60 ∧ noOb d = true ∧ noOb e = true ∧ Q (.bl (PySem.W.dataLt d e)) H
theorem op_leDt (hu : X.A.units + 80 < cLine) : OpR X (compareOp .LtE) (rLeDt X.K) := by
  intro pins s σ H x y v u Q I rx ry h
  obtain ⟨d, e, hd, he, hal, hn, hdp, nd, ne, q⟩ := h
  obtain ⟨as, r1⟩ := L2.Dp.reads I d x v (hd.l2 nd) rx
  obtain ⟨bs, r2⟩ := L2.Dp.reads I e y u (he.l2 ne) ry
  have hm : min d.depth e.depth ≤ d.depth := Nat.min_le_left _ _
  exact PySem.W.rcLe_alike d e X.A s v u as bs r1 r2 hal hn (by omega) _ _ _ _ ⟨.bl _, H, I, rfl, q⟩
theorem op_ltDt (hu : X.A.units + 80 < cLine) : OpR X (compareOp .Lt) (rLtDt X.K) := by
  intro pins s σ H x y v u Q I rx ry h
  obtain ⟨d, e, hd, he, hal, hn, hdp, nd, ne, q⟩ := h
  obtain ⟨as, r1⟩ := L2.Dp.reads I d x v (hd.l2 nd) rx
  obtain ⟨bs, r2⟩ := L2.Dp.reads I e y u (he.l2 ne) ry
  have hm : min d.depth e.depth ≤ d.depth := Nat.min_le_left _ _
  exact PySem.W.rcLt_alike d e X.A s v u as bs r1 r2 hal hn (by omega) _ _ _ _ ⟨.bl _, H, I, rfl, q⟩
def leDt : Rv → Rv → Er Rv := fun a b => match a.dat, b.dat with
  | some x, some y => if PySem.W.alike x y = true ∧ nnB x = true ∧ x.depth ≤ 60 ∧ noOb x = true ∧ noOb y = true then .ok (.v (.bool (!PySem.W.dataLt y x))) else .bad
  | _, _ => .bad
def ltDt : Rv → Rv → Er Rv := fun a b => match a.dat, b.dat with
  | some x, some y => if PySem.W.alike x y = true ∧ nnB x = true ∧ x.depth ≤ 60 ∧ noOb x = true ∧ noOb y = true then .ok (.v (.bool (PySem.W.dataLt x y))) else .bad
  | _, _ => .bad
theorem ok_leDt {K : PySem.W.Frag} : OpOk K W leDt (rLeDt K) := by
  intro h0 h ρ σ x y a b Q R0 R g oka okb q
  unfold leDt at q
  split at q
  · rename_i d e ea eb
    split at q
    · rename_i hc
      exact ⟨d, e, oka.dp R.ch ea, okb.dp R.ch eb, hc.1, nnB_ne hc.2.1, hc.2.2.1, hc.2.2.2.1, hc.2.2.2.2, q.now R (.bl _)⟩
    · exact q.elim
  · exact q.elim
theorem ok_ltDt {K : PySem.W.Frag} : OpOk K W ltDt (rLtDt K) := by
  intro h0 h ρ σ x y a b Q R0 R g oka okb q
  unfold ltDt at q
  split at q
  · rename_i d e ea eb
    split at q
    · rename_i hc
      exact ⟨d, e, oka.dp R.ch ea, okb.dp R.ch eb, hc.1, nnB_ne hc.2.1, hc.2.2.1, hc.2.2.2.1, hc.2.2.2.2, q.now R (.bl _)⟩
    · exact q.elim
  · exact q.elim
def leA : Rv → Rv → Er Rv := alt leR leDt
def ltA : Rv → Rv → Er Rv := alt ltR ltDt
theorem xleA (hu : X.A.units + 80 < cLine) (ha : PE X a (tX X.K W f)) (hb : PE X b (tX X.K W g)) : PE X (.Compare a [.LtE] [b] pos) (tX X.K W (binF leA f g)) := xaltE (xle ha hb) (xcmp (op_leDt hu) ok_leDt ha hb (nomark _))
theorem xltA (hu : X.A.units + 80 < cLine) (ha : PE X a (tX X.K W f)) (hb : PE X b (tX X.K W g)) : PE X (.Compare a [.Lt] [b] pos) (tX X.K W (binF ltA f g)) := xaltE (xlt ha hb) (xcmp (op_ltDt hu) ok_ltDt ha hb (nomark _))
theorem xtleA (hu : X.A.units + 80 < cLine) (ha : PE X a (tX X.K W f)) (hb : PE X b (tX X.K W g)) : PT X (.Compare a [.LtE] [b] pos) (tXt X.K W (tstF (binF leA f g))) := xaltT (xtle ha hb) (xtcmp (op_leDt hu) ok_leDt ha hb (nomark _))
theorem xtltA (hu : X.A.units + 80 < cLine) (ha : PE X a (tX X.K W f)) (hb : PE X b (tX X.K W g)) : PT X (.Compare a [.Lt] [b] pos) (tXt X.K W (tstF (binF ltA f g))) := xaltT (xtlt ha hb) (xtcmp (op_ltDt hu) ok_ltDt ha hb (nomark _))
end
end Sq

/-! sorted(t), a tuple of whole numbers; pop as a row of its own. -/
namespace Sq
open PySem PySem.Spec PyProof.Rows L2
section
variable {prog : Program} {w : World} {A : Around} {E : Value → Shared → Prop} {s : Shared}
/-- the items of a tuple, as a new list -/
theorem gather_tup {t : Addr} {vs : List Value} {Q : List Value → Shared → Prop} (ht : s.heap.IsTuple t vs.toArray) (hz : vs.length ≤ sizeLine)
    (q : Q vs { s with heap := (s.heap.push (seqObj "list" #[] 0)).update s.heap.objs.size (Obj.mapSeq (· ++ vs.toArray)) }) : wpAny (model prog w) A (collect (.ref t)) Q E s := by
  obtain ⟨ob, e1, e2, n, e3⟩ := id ht
  have old : (s.heap.push (seqObj "list" #[] 0)).get? t = some ob := Heap.get?_push_of_some _ e1
  have new : (s.heap.push (seqObj "list" #[] 0)).get? s.heap.objs.size = some (seqObj "list" #[] 0) := Heap.get?_push_size _ rfl
  have hty : (Value.type "tuple" == Value.type "tuple") = true := by rfl
  have hlen : (#[] ++ vs.toArray).size ≤ sizeLine + 1 := by
    rw [Array.size_append, List.size_toArray]
    show 0 + vs.length ≤ _
    omega
  unfold collect
  refine wpAny_bind (wpAny_runValue (codeAny_builtin entry_proto_collect' (show wpAny (model prog w) _ (do again (.builtin "list.__iadd__" ⟨[← newList [], .ref t], []⟩)) _ _ s from ?_)))
  refine wpAny_bind (wpAny_newList (wpAny_pure ⟨Code.quiet_builtin _ (by decide +kernel), codeAny_builtin entry_list_iadd' (show wpAny (model prog w) _ (Builtin.List.listExtendWith (.ref s.heap.objs.size) (.ref t) (.ref s.heap.objs.size)) _ _ { s with heap := s.heap.push (seqObj "list" #[] 0) } from ?_)⟩))
  unfold Builtin.List.listExtendWith
  refine wpAny_bind (wpAny_typeOf (T := "tuple") ⟨ob, old, e2⟩ ?_)
  rw [if_pos (by rw [hty, Bool.or_true])]
  refine wpAny_bind (listItems_at old e3 (wpAny_bind (listItems_at (xs := #[]) (n := 0) new rfl ?_)))
  rw [if_neg (by simp)]
  refine wpAny_bind (listUpdate_at (xs := #[]) (n := 0) new rfl (wpAny_pure ?_) (Nat.zero_le _) hlen)
  refine (show wpAny (model prog w) A (do
      let ob ← load s.heap.objs.size
      match ob.data with
      | .seq ys _ => pure ys.toList
      | _ => unsupported "internal:collect") Q E { s with heap := (s.heap.push (seqObj "list" #[] 0)).update s.heap.objs.size (Obj.mapSeq (· ++ vs.toArray)) } from ?_)
  refine wpAny_bind (wpAny_load (get?_update_seq new _) (show wpAny (model prog w) A (pure ((#[] : Array Value) ++ vs.toArray).toList) Q E _ from ?_))
  rw [show ((#[] : Array Value) ++ vs.toArray).toList = vs by simp]
  exact wpAny_pure q
end
section
variable {X : Cx}
/-- sorted(t), a tuple of ints -/
def rSortTI (K : PySem.W.Frag) : List V → Hp → VK → Prop := fun vs H Q => ∃ (a : Addr) (ns : List Int), vs = [V.ref a] ∧ SqT K H a (ns.map V.int) ∧ ∀ (ns' : List Int) (p : Addr), ns'.Perm ns → ns'.Pairwise (· ≤ ·) → H p = none → Q (.ref p) (upd H p (.lst (ns'.map V.int)))
theorem cr_sortTI : CallR X (.builtin "sorted") (rSortTI X.K) := by
  intro pins s σ H vs us Q I r h
  obtain ⟨t, ns, rfl, hs, q⟩ := h
  obtain ⟨its, rv, hT, hz⟩ := I.tuple hs
  have hi := rv.ints
  have hlen : its.length ≤ sizeLine := by rw [← rv.length]; exact hz
  rw [Vals.ref1 r]
  refine Calls.call_function_entry kind_sorted plain_sorted entry_sorted (args_sorted1 _) (show wpAny (model X.prog X.w) _ (Builtin.«sorted» ⟨[.ref t], []⟩) _ _ s from ?_)
  unfold Builtin.«sorted»
  refine wpAny_bind (m := checkCount "sorted" 1 1 _) (wpAny_pure (wpAny_bind (gather_tup hT hlen (wpAny_bind (wpAny_newList ?_ hlen)))))
  have hsz : ((s.heap.push (seqObj "list" #[] 0)).update s.heap.objs.size (Obj.mapSeq (· ++ its.toArray))).objs.size = s.heap.objs.size + 1 := by rw [Heap.size_update, size_push']
  have hoL : (((s.heap.push (seqObj "list" #[] 0)).update s.heap.objs.size (Obj.mapSeq (· ++ its.toArray))).push (seqObj "list" its.toArray 0)).get? (s.heap.objs.size + 1) = some (seqObj "list" its.toArray 0) := hsz ▸ Heap.get?_push_size _ rfl
  refine (show wpAny _ _ _ _ _ { s with heap := ((s.heap.push (seqObj "list" #[] 0)).update s.heap.objs.size (Obj.mapSeq (· ++ its.toArray))).push (seqObj "list" its.toArray 0) } from ?_)
  rw [hsz]
  refine wpAny_bind (wpAny_holding (wpAny_call_entry slot_list_sort ⟨_, hoL, rfl⟩ entry_list_sort (SrtO.list_sort_ord SrtO.swo_int hoL hlen (fun h2 => SrtO.ints_sortable hi h2) fun out h1 h2 => ⟨_, rfl, wpAny_pure ⟨_, rfl, ?_⟩⟩) (args_list_sort _)))
  obtain ⟨k1, k2, k3⟩ := SrtO.ints_out hi h1 h2
  obtain ⟨ep, he'⟩ := PyProof.Rows.sortedAll_at s.heap its out.toArray
  have hl2 : ((out.map SrtO.iv).map V.int).length ≤ sizeLine := by
    rw [List.length_map, k2.length_eq]
    rw [List.length_map] at hz
    exact hz
  have J := I.laid (a := s.heap.objs.size + 1) (o := .lst ((out.map SrtO.iv).map V.int)) (t' := s.toks) (h' := sortedAll s.heap its out.toArray) (fun _ _ => PyProof.Rows.sortedAll_old) (Nat.le_succ _) ⟨hl2, out, ep, vals_of_ints k1, he'⟩
  exact ⟨.ref _, _, J, rfl, q _ _ k2 k3 (I.hok.fresh (Nat.le_succ _))⟩
/-- the whole numbers of a tuple -/
def Rv.tupI : Rv → Option (List Int)
  | .v (.tuple ds) => dInts ds
  | _ => none
def sortTR (a : Rv) : Er Rv := match a.tupI with
  | some ns => .ok (.o ((srt ns).map .int))
  | none => .bad
variable {W : WF} {a : Expr} {f : EF} {p pos : Pos}
theorem xsortedT (hg : Gl X "sorted") (hm : X.mg "sorted" = none) (ha : PE X a (tX X.K W f)) (hs : starEach [a] X.env = (false, eval a X.env) :: starEach [] X.env := by rfl) : PE X (.Call (.Name "sorted" p) [a] [] pos) (tX X.K W (unF sortTR f)) := by
  refine peTo (pe_callB cr_sortTI hg hm boot_sorted (pa_cons ha pa_nil hs) (he := hs)) (c1_of fun h0 h ρ σ x a Q R0 R g ok q => ?_)
  unfold sortTR at q
  split at q
  · rename_i ns e
    unfold Rv.tupI at e
    split at e
    · rename_i ds
      obtain ⟨t, vs, rfl, s, d⟩ := dp_tup ok
      rw [dInts_v e d] at s
      refine ⟨t, ns, rfl, ex_t R.ch.gh s, fun ns' p h1 h2 hp => ?_⟩
      have e2 : ns' = srt ns := perm_sorted_eq (h1.trans (srt_perm ns).symm) h2 (srt_le ns)
      subst e2
      exact q.newL R (ints_all _) hp
    · cases e
  · exact q.elim
def sortB : Rv → Er Rv := alt1 sortR sortTR
theorem xsortedB (hg : Gl X "sorted") (hm : X.mg "sorted" = none) (ha : PE X a (tX X.K W f)) (hs : starEach [a] X.env = (false, eval a X.env) :: starEach [] X.env := by rfl) : PE X (.Call (.Name "sorted" p) [a] [] pos) (tX X.K W (unF sortB f)) :=
  xalt1 (xsorted hg hm ha hs) (xsortedT hg hm ha hs)
/-- a row of its own that changes an own list -/
def exprM (f : MF) : SF := fun ρ => thenM ρ (f ρ) fun _ ρ' => .next ρ'
theorem xexprM {e : Expr} {f : MF} {pos : Pos} (he : PE X e (tM X.K W f)) (hs : swapsWith e none pos.line X.env = pure false := by rfl) : PS X (.Expr e pos) (tS X.K W (exprM f)) := psTo (ps_expr he hs) fun D σ H ⟨h, ρ, e, R, q⟩ => by
  subst e
  exact ⟨h, ρ, rfl, R, q.thenM fun r ρ' v h' _ R' g' _ q' => q' σ h' R' (SG.refl _)⟩
end
end Sq

/-! A def of the law that is asked about the exception of a suite. -/
namespace Sq
open PySem PySem.Spec PyProof.Rows L2 L2H
/-- its answer, by the exception's class -/
structure FnE (P : Program) (w : World) (K : PySem.W.Frag) (mg : Str → Option Value) (base : Heap) (CX : CXT) (k : Nat) (f : Addr) (fd : FuncData) (x : Str) (D : Addr) (b : Bool) : Prop where
  run : ∀ (A : Around) (outer : List PySem.Env) (s : Shared) (H : Hp) (args : Args) (Q : VK) (E : XK) (a : Addr) (oe : Obj), RoomH k A → PinOk outer H s (a, oe) → Zc (.ref D) none oe → (∃ vs, oe.data = .fields vs) → Env0 P w K mg base A outer s H →
    BindsTo s fd args [(x, .ref a)] → Q (.bl b) H → codeAny (model P w) A (.call (.ref f) args) (CR CX outer P w H s Q E) s
section
variable {X : Cx} {i : Nat} {a D : Addr} {oe : Obj} {b c : Bool} {p pos px pT q : Pos} {e e1 e2 : Expr} {rest : List Expr}
theorem call_isP (hp : (a, oe) ∈ X.pn) (C : ExcC X.K D) (hz : Zc (.ref D) none oe) (hf : ∃ vs, oe.data = .fields vs) : CallR X (.builtin "isinstance") (rIsE X.K D a) := by
  intro pins s σ H xs us Q I r h
  obtain ⟨y, cv, bb, rfl, hcv, e, q⟩ := h
  obtain ⟨u1, u2, rfl, r1, r2⟩ := Vals.two r
  have e1 : u1 = .ref a := r1
  have e2 := hcv _ r2
  subst e1 e2
  have hget := (I.pin (a, oe) (List.mem_append_left _ hp)).1
  obtain ⟨vs, hv⟩ := hf
  have J : PySem.W.InstAt s.heap a oe D none := by
    cases oe with
    | mk oc od oda osl =>
      have h1 : oc = .ref D := hz.1
      have h2 : od = none := hz.2
      have h3 : oda = .fields vs := hv
      subst h1 h2 h3
      exact ⟨hget, rfl, rfl, trivial⟩
  exact PySem.W.kia_one (PySem.W.handS_kitx_exc C.hg C.hk C.hs C.hd C.ha C.hn C.ht C.hm) I.kIn J e (fun z => nomatch z) fun tk => ⟨.bl bb, H, I.kept (t' := tk) fun _ _ z => z, rfl, q⟩
theorem xisP {x y : Str} {cv : V} {cu : Value} (hp : (a, oe) ∈ X.pn) (C : ExcC X.K D) (hz : Zc (.ref D) none oe) (hf : ∃ vs, oe.data = .fields vs) (hg : Gl X "isinstance") (hm : X.mg "isinstance" = none) (he : PE X (.Name x px) (tVar i)) (hT : PE X (.Name y pT) (tC cv)) (hcv : ∀ u, RelV cv u → u = cu) (hk : PySem.W.kitOne X.K (.ref D) cu = some b)
    (hs : starEach [.Name x px, .Name y pT] X.env = (false, eval (.Name x px) X.env) :: starEach [.Name y pT] X.env := by rfl) (hs2 : starEach [.Name y pT] X.env = (false, eval (.Name y pT) X.env) :: starEach [] X.env := by rfl) :
    PE X (.Call (.Name "isinstance" p) [.Name x px, .Name y pT] [] pos) (tEc i a b) :=
  peTo (pe_callB (call_isP hp C hz hf) hg hm boot_isinstance (pa_cons he (pa_cons hT pa_nil hs2) hs) (he := hs) (hpl := by rw [hs2]; rfl)) fun σ H Q q => ⟨_, q.1, cv, cu, b, rfl, hcv, hk, q.2⟩
/-! tests, rows -/
def tEt (i : Nat) (a : Addr) (b : Bool) : TT := fun σ H Q => σ[i]? = some (some (.ref a)) ∧ Q b H
def tNx (i : Nat) (a : Addr) : TS := fun D σ H => σ[i]? = some (some (.ref a)) ∧ D.nx σ H
def tRt (i : Nat) (a : Addr) (b : Bool) : TS := fun D σ H => σ[i]? = some (some (.ref a)) ∧ D.rt (.bl b) H
theorem xTv {e : Expr} (h : PE X e (tEc i a b)) (he : ∀ whole, isTrue e X.env whole = (do let v ← whole; standAt e.pos; holding [v] (truthy v)) := by intro _; rfl) : PT X e (tEt i a b) := ptTo (pt_val h he) fun σ H Q q => ⟨q.1, b, rfl, q.2⟩
theorem xTor1 (h : PT X e (tEt i a b)) : PW X (.BoolOp .Or [e] pos) (tEt i a b) := pw_or1 h
theorem xTor (h1 : PT X e1 (tEt i a b)) (h2 : PW X (.BoolOp .Or (e2 :: rest) pos) (tEt i a c)) : PW X (.BoolOp .Or (e1 :: e2 :: rest) pos) (tEt i a (b || c)) := pwTo (pw_or h1 h2) fun σ H Q q => by
  refine ⟨q.1, ?_⟩
  cases b with
  | true => exact q.2
  | false => exact q
theorem xEifN {body : List Stmt} {t : TS} (h : PT X e (tEt i a false)) (hb : PSs X body t) : PS X (.If e body [] pos) (tNx i a) := psTo (ps_if h hb pss_nil) fun D σ H q => ⟨q.1, q.2⟩
theorem xEret (h : PE X e (tEc i a b)) : PS X (.Return (some e) pos) (tRt i a b) := psTo (ps_ret h) fun D σ H q => q
theorem xElast {s : Stmt} (h : PS X s (tRt i a b)) : PSs X [s] (tRt i a b) := pss_one h
theorem xEthen {s : Stmt} {r : List Stmt} (h1 : PS X s (tNx i a)) (h2 : PSs X r (tRt i a b)) : PSs X (s :: r) (tRt i a b) := pssTo (pss_cons h1 h2) fun D σ H q => ⟨q.1, q⟩
end
section
variable {P : Program} {w : World} {K : PySem.W.Frag} {mg : Str → Option Value} {base : Heap}
/-- the body settles it -/
theorem fnE_ok {x qual y : Str} {st : Stmt} {f : Addr} {fd : FuncData} {N : List Str} {k : Nat} {CX : CXT} {D : Addr} {b : Bool} (F : Fun K x qual st f fd) (S : FnScope N [y] (defScope st))
    (body : ∀ (cdv : Value) (A : Around) (outer : List PySem.Env) (s : Shared) (H : Hp) (E : XK) (a : Addr) (oe : Obj), Zc (.ref D) none oe → (∃ vs, oe.data = .fields vs) → PSs (cxH CX P w K mg base N qual (defScope st) f cdv A outer s H E (a, oe)) (defBody st) (tRt 0 a b)) :
    FnE P w K mg base CX (k + 1) f fd y D b := by
  obtain ⟨oc, od, kV, doc, pm, an, cdv, ct, osl, rfl, lk, hcd⟩ := F.ex
  refine ⟨fun A outer s H args Q E a oe hr hpin hz hf e0 hb hq => ?_⟩
  have KX : K.In s.heap := e0.mod.kin.keeps fun c o e => (e0.bs c o e).1
  have lim : s.heap.NoLimit := e0.mod.nolimit.keeps fun c o e => (e0.bs c o e).1
  have kinds : ∀ z ∈ [(y, Value.ref a)], (defScope st).names.lookup z.1 = some .local ∨ ((defScope st).names.lookup z.1 = some .cell ∧ ((cellsFrom (s.heap.objs.size + 1) (defScope st).names []).lookup z.1).isSome = true) := fun z hz => by
    have e : z = (y, Value.ref a) := by simpa using hz
    subst e
    exact (S.par y List.mem_cons_self).imp id fun k => ⟨k, PySem.W.cellsFrom_some _ _ _ (.inl k)⟩
  refine codeAny_call_function hr.depth (KX _ _ lk) rfl S.co S.gen rfl (PySem.W.codeRec_of KX hcd) (hb _ _ _ _ (wpAny_newFunctionEnv_cells S.kind kinds fun env he s1 lay => ?_))
  subst he
  refine ⟨lim.keeps lay.toInCall.keep, codeAny_func ?_⟩
  have rv : Vals [V.ref a] [Value.ref a] := .cons rfl .nil
  have I := inv_startH (CX := CX) (E := E) (ps := [y]) (us := [Value.ref a]) S hpin e0 rfl rv lay
  have h0 : (L2.start N [V.ref a])[0]? = some (some (V.ref a)) := rfl
  refine wpAny_mono ((body cdv A outer s H E a oe hz hf).run [] s1 (L2.start N [V.ref a]) H { nx := fun _ _ => False, rt := Q } I ⟨h0, hq⟩) (fun r s2 done => ?_) fun _ _ z => z
  cases r with
  | ret u =>
    obtain ⟨v, σ2, H2, J, ru, q2⟩ := done
    exact ⟨v, H2, J.os, J.bare, J.base, J.hok, ru, q2⟩
  | next =>
    obtain ⟨_, _, _, z⟩ := done
    exact z.elim
  | brk =>
    obtain ⟨_, _, _, z⟩ := done
    exact z.elim
  | cont =>
    obtain ⟨_, _, _, z⟩ := done
    exact z.elim
end
section
variable {X : Cx} {i k : Nat} {a D f : Addr} {oe : Obj} {pn : List (Addr × Obj)} {b : Bool} {p pos px : Pos} {fd : FuncData} {x y n : Str}
/-- it is asked in the suite -/
theorem xEcall (F : FnE X.prog X.w X.K X.mg X.base (L2.CX X.prog X.w) k f fd y D b) (hr : Room k X.A) (hz : Zc (.ref D) none oe) (hf : ∃ vs, oe.data = .fields vs) (hg : Gl (X.suite a ((a, oe) :: pn)) x) (hm : X.mg x = some (.ref f)) (hk : PySem.W.keepIn X.K (.ref f) = true) (hb : Binds X.K fd [y] [])
    (he : PE (X.suite a ((a, oe) :: pn)) (.Name n px) (tVar i)) (hdb : (x == ("__debug__" : Str)) = false := by decide) (hs : starEach [.Name n px] X.env = (false, eval (.Name n px) X.env) :: starEach [] X.env := by rfl) :
    PE (X.suite a ((a, oe) :: pn)) (.Call (.Name x p) [.Name n px] [] pos) (tEc i a b) := by
  refine ⟨fun pins s σ H Q I q => ?_⟩
  refine wpAny_Call_Name_kw (ld_glob I hg hm (PySem.W.callWith_K (h₀ := X.base) I.ok.mod.kin hk (thn ((pa_cons he pa_nil hs).run pos pins s σ H (fun vs H2 => vs = [V.ref a] ∧ Q (.bl b) H2) I ⟨_, q.1, rfl, q.2⟩) fun us s1 ⟨vs, H1, I1, r, ev, q1⟩ => ⟨I1.kIn, ?_⟩) hs rfl) hdb)
  subst ev
  have eu := Vals.ref1 r
  subst eu
  have P1 := I1.pin (a, oe) (List.mem_append_left _ List.mem_cons_self)
  have hpin : PinOk X.stack H1 s1 (a, oe) := ⟨P1.1, P1.2.1, fun hm => (List.mem_cons.mp (I1.stkSub a hm)).elim P1.2.2.1 P1.2.2.2.1, P1.2.2.2.2⟩
  have bd := hb s1 [Value.ref a] I1.kIn rfl
  refine wpAny_call (codeAny_mono (F.run _ X.stack s1 H1 ⟨[.ref a], []⟩ Q (fun _ _ _ => False) a oe ⟨hr.dp, hr.un⟩ hpin hz hf I1.env0 bd q1) fun r s2 hq => ?_)
  cases r with
  | error e =>
    obtain ⟨_, _, _, _, _, _, _, _, _, _, _, _, z⟩ := hq
    exact z.elim
  | ok fl =>
    cases fl with
    | ret u => exact I1.after hq
    | next => exact False.elim hq
    | brk => exact False.elim hq
    | cont => exact False.elim hq
end
/-! ### suites as plain rows: the slot of the exception is .x -/
section
variable {X : Cx} {W : WF} {cm : Str → Addr} {K : PySem.W.Frag} {h : Hs} {ρ : Env} {σ : L2.St} {i j k : Nat} {a D : Addr} {b : Bool}
def isxF (a : Addr) (i : Nat) (b : Bool) : EF := fun ρ => match slot ρ i with
  | .x c => if c = a then .ok (.v (.bool b)) else .bad
  | _ => .bad
theorem isx_now {Q : VK} {h : Hs} (R : Rel K h ρ σ) (q : PE1 K W h ρ σ Q (isxF a i b ρ)) : σ[i]? = some (some (.ref a)) ∧ PE1 K W h ρ σ Q (.ok (.v (.bool b))) := by
  unfold isxF at q
  cases es : slot ρ i with
  | x c =>
    rw [es] at q
    dsimp only at q
    split at q
    · rename_i e
      subst e
      obtain ⟨x, ex, rfl⟩ := R.get (slot_some es (by intro z; cases z))
      exact ⟨ex, q⟩
    · exact q.elim
  | _ =>
    rw [es] at q
    exact q.elim
theorem xIx {e : Expr} (he : PE X e (tEc i a b)) : PE X e (tX X.K W (isxF a i b)) := peTo he fun σ H Q q => by
  obtain ⟨h, ρ, rfl, R, q⟩ := tX_iff.mp q
  obtain ⟨e1, q1⟩ := isx_now R q
  exact ⟨e1, q1.now R (.bl b)⟩
/-- isinstance(e, (C1, C2, ..)) -/
def rIsET (K : PySem.W.Frag) (D a : Addr) : List V → Hp → VK → Prop := fun xs H Q => ∃ (tp : Addr) (cs : List V) (us : List Value) (b : Bool), xs = [.ref a, .ref tp] ∧ H tp = some (.tup cs) ∧ Paired ClsV cs us ∧ PySem.W.kitAny K (.ref D) us = some b ∧ Q (.bl b) H
theorem call_isET {oe : Obj} {pn : List (Addr × Obj)} (C : ExcC X.K D) (hz : Zc (.ref D) none oe) (hf : ∃ vs, oe.data = .fields vs) : CallR (X.suite a ((a, oe) :: pn)) (.builtin "isinstance") (rIsET X.K D a) := by
  intro pins s σ H xs us Q I r h
  obtain ⟨tp, cs, ws, b, rfl, hT, k, e, q⟩ := h
  obtain ⟨u1, u2, rfl, r1, r2⟩ := Vals.two r
  cases (show u1 = Value.ref a from r1)
  cases (show u2 = Value.ref tp from r2)
  obtain ⟨hget, _⟩ := I.pin (a, oe) (List.mem_append.mpr (.inl List.mem_cons_self))
  obtain ⟨vs, hv⟩ := hf
  have J : PySem.W.InstAt s.heap a oe D none := by
    obtain ⟨oc, od, oda, osl⟩ := oe
    obtain ⟨h1, h2⟩ := hz
    dsimp only at h1 h2 hv
    subst h1 h2 hv
    exact ⟨hget, rfl, rfl, trivial⟩
  obtain ⟨_, its, rv, o, h1, h2, n, h3⟩ := (show ObjOk X.prog X.w H s.heap tp (.tup cs) from I.hok tp _ hT)
  have e3 := ClsV.all k rv
  subst e3
  obtain ⟨oc, od, dt, sl⟩ := o
  simp only at h2 h3
  subst h2 h3
  exact PySem.W.kia_tup (PySem.W.handS_kitx_exc C.hg C.hk C.hs C.hd C.ha C.hn C.ht C.hm) I.kIn J h1 e (fun z => nomatch z) fun tk => ⟨.bl b, H, I.kept (t' := tk) fun _ _ z => z, rfl, q⟩
/-- names of classes, one after the other -/
def tCls (cs : List V) : TA := fun σ H Q => Q cs H
theorem xcls_nil : PA X [] (tCls []) := paTo pa_nil fun σ H Q q => q
theorem xcls_cons {e : Expr} {es : List Expr} {c : V} {cs : List V} (he : PE X e (tC c)) (hr : PA X es (tCls cs)) (hs : starEach (e :: es) X.env = (false, eval e X.env) :: starEach es X.env := by rfl) : PA X (e :: es) (tCls (c :: cs)) := paTo (pa_cons he hr hs) fun σ H Q q => q
theorem xIxT {oe : Obj} {pn : List (Addr × Obj)} {x : Str} {es : List Expr} {p px pos pT : Pos} {x1} {cs : List V} {us : List Value} (C : ExcC X.K D) (hz : Zc (.ref D) none oe) (hf : ∃ vs, oe.data = .fields vs) (hg : Gl (X.suite a ((a, oe) :: pn)) "isinstance") (hm : X.mg "isinstance" = none) (he : PE (X.suite a ((a, oe) :: pn)) (.Name x px) (tVar i)) (hT : PA (X.suite a ((a, oe) :: pn)) es (tCls cs)) (hp : Paired ClsV cs us) (hk : PySem.W.kitAny X.K (.ref D) us = some b) (hl : cs.length ≤ 1000 := by exact Nat.le_of_ble_eq_true rfl)
    (hs : starEach [.Name x px, .Tuple es x1 pT] X.env = (false, eval (.Name x px) X.env) :: starEach [.Tuple es x1 pT] X.env := by rfl) (hs2 : starEach [.Tuple es x1 pT] X.env = (false, eval (.Tuple es x1 pT) X.env) :: starEach [] X.env := by rfl) :
    PE (X.suite a ((a, oe) :: pn)) (.Call (.Name "isinstance" p) [.Name x px, .Tuple es x1 pT] [] pos) (tX X.K W (isxF a i b)) := by
  refine peTo (pe_callB (call_isET C hz hf) hg hm boot_isinstance (pa_cons he (pa_cons (pe_tup hT) pa_nil hs2) hs) (he := hs) (hpl := by rw [hs2]; rfl)) fun σ H Q q => ?_
  obtain ⟨h, ρ, rfl, R, q⟩ := tX_iff.mp q
  obtain ⟨e1, q1⟩ := isx_now R q
  refine ⟨_, e1, sz100 (by omega), fun t ht => ?_⟩
  exact ⟨t, cs, us, b, rfl, upd_same, hp, hk, q1 (.bl b) (h.newO t (.tup cs)) (R.newO ht) (Gr.newO R.ch ht) (.bl b)⟩
theorem cls_nil : Paired ClsV [] [] := .nil
theorem cls_own {C : Addr} {cs : List V} {us : List Value} (h : Paired ClsV cs us) : Paired ClsV (.ref C :: cs) (.ref C :: us) := .cons (.own C) h
theorem cls_ty {n : String} {cs : List V} {us : List Value} (h : Paired ClsV cs us) : Paired ClsV (.ty n :: cs) (.type n :: us) := .cons (.ty n) h
theorem any_t {t c : Value} {cs : List Value} (h : PySem.W.kitOne K t c = some true) : PySem.W.kitAny K t (c :: cs) = some true := kitAny_cons h (fun z => nomatch z) fun _ => rfl
theorem any_f {t c : Value} {cs : List Value} {r : Bool} (h : PySem.W.kitOne K t c = some false) (hr : PySem.W.kitAny K t cs = some r) : PySem.W.kitAny K t (c :: cs) = some r := kitAny_cons h (fun _ => hr) fun z => nomatch z
theorem any_nil {t : Value} : PySem.W.kitAny K t [] = some false := kitAny_nil
/-! rows that do not look at the address -/
def Bl {α : Type} (i : Nat) (F : Addr → Env → α) : Prop := ∀ (a : Addr) (ρ : Env), F a (ρ.set i (.x a)) = F 0 (ρ.set i (.x 0))
def setX (i : Nat) (a : Addr) : Res → Res
  | .next ρ => .next (ρ.set i (.x a))
  | .ret r => .ret r
  | .brk ρ => .brk (ρ.set i (.x a))
  | .cont ρ => .cont (ρ.set i (.x a))
  | .exc c p ρ => .exc c p (ρ.set i (.x a))
  | .bad => .bad
def BlS (i : Nat) (F : Addr → SF) : Prop := ∀ (a : Addr) (ρ : Env), F a (ρ.set i (.x a)) = setX i a (F 0 (ρ.set i (.x 0)))
theorem slot_set_ne {s : Sl} (h : i ≠ k) : slot (ρ.set i s) k = slot ρ k := by
  unfold slot
  rw [List.getD_eq_getElem?_getD, List.getD_eq_getElem?_getD, List.getElem?_set_ne h]
theorem slot_set_x : slot (ρ.set i (.x a)) i = if i < ρ.length then .x a else .u := by
  unfold slot
  rw [List.getD_eq_getElem?_getD, List.getElem?_set]
  simp only [if_true]
  split <;> rfl
theorem bl_var : Bl i (fun _ => varF k) := fun a ρ => by
  show (slot (ρ.set i (.x a)) k).rd = (slot (ρ.set i (.x 0)) k).rd
  by_cases hk : i = k
  · subst hk
    rw [slot_set_x, slot_set_x]
    split <;> rfl
  · rw [slot_set_ne hk, slot_set_ne hk]
theorem bl_isx : Bl i (fun a => isxF a i b) := fun a ρ => by
  show isxF a i b (ρ.set i (.x a)) = isxF 0 i b (ρ.set i (.x 0))
  unfold isxF
  rw [slot_set_x, slot_set_x]
  by_cases hl : i < ρ.length
  · rw [if_pos hl, if_pos hl]
    simp
  · rw [if_neg hl, if_neg hl]
theorem bl_c {d : PyData} : Bl i (fun _ => cF d) := fun a ρ => rfl
theorem bl_bin {φ : Rv → Rv → Er Rv} {F G : Addr → EF} (h1 : Bl i F) (h2 : Bl i G) : Bl i (fun a => binF φ (F a) (G a)) := fun a ρ => by simp only [binF, h1 a ρ, h2 a ρ]
theorem bl_un {φ : Rv → Er Rv} {F : Addr → EF} (h1 : Bl i F) : Bl i (fun a => unF φ (F a)) := fun a ρ => by simp only [unF, h1 a ρ]
theorem bl_and {F G : Addr → EF} (h1 : Bl i F) (h2 : Bl i G) : Bl i (fun a => andF (F a) (G a)) := fun a ρ => by simp only [andF, h1 a ρ, h2 a ρ]
theorem bl_or {F G : Addr → EF} (h1 : Bl i F) (h2 : Bl i G) : Bl i (fun a => orF (F a) (G a)) := fun a ρ => by simp only [orF, h1 a ρ, h2 a ρ]
theorem bl_not {F : Addr → EF} (h1 : Bl i F) : Bl i (fun a => notF (F a)) := fun a ρ => by simp only [notF, h1 a ρ]
theorem bl_nil : Bl i (fun _ => aNil) := fun a ρ => rfl
theorem bl_cons {F : Addr → EF} {G : Addr → AF} (h1 : Bl i F) (h2 : Bl i G) : Bl i (fun a => aCons (F a) (G a)) := fun a ρ => by simp only [aCons, h1 a ρ, h2 a ρ]
theorem bl_lst {F : Addr → AF} (h1 : Bl i F) : Bl i (fun a => lstF (F a)) := fun a ρ => by simp only [lstF, h1 a ρ]
theorem bl_tup {F : Addr → AF} (h1 : Bl i F) : Bl i (fun a => tupF (F a)) := fun a ρ => by simp only [tupF, h1 a ρ]
theorem bl_call {g : List Sl → Fr} {F : Addr → AF} (h1 : Bl i F) : Bl i (fun a => callF g (F a)) := fun a ρ => by simp only [callF, h1 a ρ]
theorem bl_tst {F : Addr → EF} (h1 : Bl i F) : Bl i (fun a => tstF (F a)) := fun a ρ => by simp only [tstF, h1 a ρ]
theorem bl_andT {F G : Addr → Env → Er Bool} (h1 : Bl i F) (h2 : Bl i G) : Bl i (fun a => andT (F a) (G a)) := fun a ρ => by simp only [andT, h1 a ρ, h2 a ρ]
theorem bl_orT {F G : Addr → Env → Er Bool} (h1 : Bl i F) (h2 : Bl i G) : Bl i (fun a => orT (F a) (G a)) := fun a ρ => by simp only [orT, h1 a ρ, h2 a ρ]
theorem bl_notT {F : Addr → Env → Er Bool} (h1 : Bl i F) : Bl i (fun a => notT (F a)) := fun a ρ => by simp only [notT, h1 a ρ]
theorem set_again {s t : Sl} (h : j ≠ i) : (ρ.set i s).set j t = ((ρ.set i (.x 0)).set j t).set i s := by
  apply List.ext_getElem?
  intro k
  simp only [List.getElem?_set, List.length_set]
  by_cases h1 : j = k
  · subst h1
    simp [Ne.symm h]
  · by_cases h2 : i = k
    · subst h2
      simp [h]
    · simp [h1, h2]
theorem bls_asg {F : Addr → EF} (hj : j ≠ i) (h1 : Bl i F) : BlS i (fun a => asgS (F a) (asgn j)) := fun a ρ => by
  simp only [asgS, h1 a ρ]
  cases F 0 (ρ.set i (.x 0)) with
  | ok r =>
    cases r with
    | r d =>
      simp only [thenS, asgn]
      split
      · simp only [liftE, setX]; rw [← set_again hj]
      · rfl
    | v d => simp only [thenS, asgn, liftE, setX]; rw [← set_again hj]
    | b d => simp only [thenS, asgn, liftE, setX]; rw [← set_again hj]
    | o d => simp only [thenS, asgn, liftE, setX]; rw [← set_again hj]
    | ok d => simp only [thenS, asgn, liftE, setX]; rw [← set_again hj]
    | ot d => simp only [thenS, asgn, liftE, setX]; rw [← set_again hj]
    | _ => rfl
  | exc c p => simp only [thenS, setX, List.set_set]
  | bad => rfl
theorem bls_seq {F G : Addr → SF} (h1 : BlS i F) (h2 : BlS i G) : BlS i (fun a => seqS (F a) (G a)) := fun a ρ => by
  have e0 := h1 0 ρ
  simp only [seqS, h1 a ρ]
  cases ef : F 0 (ρ.set i (.x 0)) with
  | next ρ1 =>
    rw [ef] at e0
    have e1 : ρ1 = ρ1.set i (.x 0) := Res.next.inj e0
    have e2 := h2 a ρ1
    rw [← e1] at e2
    exact e2
  | _ => rfl
theorem bls_skip : BlS i (fun _ => skipS) := fun a ρ => by simp only [skipS, setX, List.set_set]
theorem bls_if {T : Addr → Env → Er Bool} {F G : Addr → SF} (ht : Bl i T) (h1 : BlS i F) (h2 : BlS i G) : BlS i (fun a => ifS (T a) (F a) (G a)) := fun a ρ => by
  simp only [ifS, ht a ρ]
  cases T 0 (ρ.set i (.x 0)) with
  | ok b =>
    simp only [thenT]
    cases b with
    | true => exact h1 a ρ
    | false => exact h2 a ρ
  | exc c p => simp only [thenT, setX, List.set_set]
  | bad => rfl
theorem bls_frz {F : Addr → SF} (hj : j ≠ i) (h1 : BlS i F) : BlS i (fun a => frzS j (F a)) := fun a ρ => by
  have : ∀ a : Addr, frzE (ρ.set i (.x a)) j = (frzE ρ j).set i (.x a) := fun a => by
    unfold frzE
    rw [slot_set_ne (Ne.symm hj), List.set_comm _ _ hj]
  simp only [frzS, this]
  exact h1 a _
def tryXS (f : SF) (m : Str → Option Bool) (i : Nat) (g : Str → Addr → SF) : SF := fun ρ => match f ρ with
  | .exc c none ρ' => match m c with
    | some true => if i < ρ'.length then wipeRes i (g c 0 (ρ'.set i (.x 0))) else .bad
    | some false => .exc c none ρ'
    | none => .bad
  | .exc c (some p) ρ' => match m c with
    | some false => .exc c (some p) ρ'
    | _ => .bad
  | r => r
theorem Rel.x (R : Rel K h ρ σ) (i : Nat) (a : Addr) : Rel K h (ρ.set i (.x a)) (σ.set i (some (.ref a))) := R.set i rfl fun _ _ _ z => nomatch z
theorem xtryX {x n : Str} {c : Value} {body suite : List Stmt} {b₀ : Stmt} {np pos pos' : Pos} {f : SF} {g : Str → Addr → SF} {yes no : List Str} (tk : Tk X cm W) (hs : X.stack = X.env :: X.outer) (hf : X.env.frame = some X.env.locals) (hN : X.N.Nodup) (hi : X.N[i]? = some n) (hln : X.env.kindOf n = some .local) (hc : Names X x c)
    (hy : ∀ d ∈ yes, PySem.W.exmOne X.K (.ref (cm d)) c = some true) (hn : ∀ d ∈ no, PySem.W.exmOne X.K (.ref (cm d)) c = some false)
    (hb : ∀ (Wx : WX) (pn : List (Addr × Obj)) (xe : Value → Shared → Prop), Tk (X.tr pn xe) cm (WFx X.K cm Wx) → PassesOwn (model X.prog X.w) X.A X.env xe → PSs (X.tr pn xe) body (tS X.K (WFx X.K cm Wx) f))
    (hsu : ∀ d ∈ yes, ∀ (a : Addr) (oe : Obj) (pn : List (Addr × Obj)), Zc (.ref (cm d)) none oe → (∃ vs, oe.data = .fields vs) → PSs (X.suite a ((a, oe) :: pn)) (b₀ :: suite) (tS X.K WN (g d a)))
    (hbl : ∀ d ∈ yes, BlS i (g d)) :
    PS X (.Try body [.ExceptHandler (some (.Name x np)) (some n) (b₀ :: suite) pos'] [] [] pos) (tS X.K W (tryXS f (mL yes no) i g)) := by
  obtain ⟨Wx, tk, hW⟩ := tk
  refine psTo (ps_try_as (tb := fun Wx => tS X.K (WFx X.K cm Wx) f) (ts := fun a cls d => fun D σ H => ∃ e, e ∈ yes ∧ cls = .ref (cm e) ∧ d = none ∧ tS X.K WN (g e a) D σ H) hs hf hN hi hln hc tk (fun Wx pn xe tk hpo => hb Wx pn xe (tkOf tk) hpo) fun a oe cls d pn hz hfl => ⟨fun pins s σ H D I hw => ?_⟩) fun D σ H hq => ?_
  · obtain ⟨e, he, rfl, rfl, hw⟩ := hw
    exact (hsu e he a oe pn hz hfl).run pins s σ H D I hw
  obtain ⟨h, ρ, e, R, q⟩ := id hq
  subst e
  refine ⟨h, ρ, rfl, R, ?_⟩
  unfold tryXS at q
  cases ef : f ρ with
  | next ρ' => rw [ef] at q; exact q
  | ret r => rw [ef] at q; exact q
  | brk ρ' => rw [ef] at q; exact q
  | cont ρ' => rw [ef] at q; exact q
  | bad => rw [ef] at q; exact q.elim
  | exc d p ρ' =>
    rw [ef] at q
    intro σ' h' R' g'
    cases p with
    | none =>
      dsimp only at q
      cases em : mL yes no d with
      | none => rw [em] at q; exact q.elim
      | some b =>
        rw [em] at q
        have hx := mL_exm hy hn em
        cases b with
        | false => exact ⟨false, hx, fun z => (nomatch z), fun _ => hW _ _ _ _ (q σ' h' R' g')⟩
        | true =>
          dsimp only at q
          split at q
          rotate_left
          · exact q.elim
          refine ⟨true, hx, fun _ a _ => ⟨d, mL_yes em, rfl, rfl, h', ρ'.set i (.x a), rfl, R'.x i a, ?_⟩, fun z => nomatch z⟩
          rw [hbl d (mL_yes em) a ρ']
          have q' := Post.shift g' q
          cases eg : g d 0 (ρ'.set i (.x 0)) with
          | next ρ2 =>
            rw [eg] at q'
            exact fun σ2 h2 R2 g2 => q' _ h2 (by
              have := R2.u i none
              rw [List.set_set] at this
              exact this) g2
          | ret r => rw [eg] at q'; exact q'
          | _ => rw [eg] at q'; exact q'.elim
    | some p =>
      dsimp only at q
      cases em : mL yes no d with
      | none => rw [em] at q; exact q.elim
      | some b =>
        rw [em] at q
        have hx := mL_exm hy hn em
        cases b with
        | true => exact q.elim
        | false =>
          have := hW _ _ _ _ (q σ' h' R' g')
          exact fun dd v e1 e2 => ⟨false, hx, fun z => (nomatch z), fun _ => this dd v e1 e2⟩
end
/-! ### texts -/
section
variable {X : Cx} {W : WF} {cm : Str → Addr} {K : PySem.W.Frag} {a b e : Expr} {f g : EF} {pos : Pos}
def dStrs : List D → Option (List Str)
  | [] => some []
  | .str a :: r => (dStrs r).map (a :: ·)
  | _ => none
theorem dStrs_v {H : Hp} : ∀ {ds : List D} {vs : List V} {ns : List Str}, dStrs ds = some ns → DpAll K H vs ds → vs = ns.map V.str
  | [], _, _, e, h => by
    cases e
    cases h
    rfl
  | .str a :: r, _, _, e, h => by
    unfold dStrs at e
    cases h with
    | cons h t =>
      cases e1 : dStrs r with
      | none => rw [e1] at e; cases e
      | some ms =>
        rw [e1] at e
        cases e
        rw [dp_str h, dStrs_v e1 t]
        rfl
  | .none :: _, _, _, e, _ => by cases e
  | .int _ :: _, _, _, e, _ => by cases e
  | .bool _ :: _, _, _, e, _ => by cases e
  | .list _ :: _, _, _, e, _ => by cases e
  | .tuple _ :: _, _, _, e, _ => by cases e
  | .dict _ :: _, _, _, e, _ => by cases e
/-- s.m(b): s a text -/
def strM (χ : Str → Rv → Er Rv) (f g : EF) : EF := fun ρ => (f ρ).bind fun a => match a.dat with
  | some (.str s) => (g ρ).bind fun b => χ s b
  | _ => .bad
def MOk (K : PySem.W.Frag) (W : WF) (χ : Str → Rv → Er Rv) (r : V → List V → Hp → VK → Prop) : Prop :=
  ∀ (h0 h : Hs) (ρ : Env) (σ : L2.St) (s : Str) (y : V) (b : Rv) (Q : VK), Rel K h0 ρ σ → Rel K h ρ σ → Gr h0 h → RvOk K h0.H h y b → PE1 K W h ρ σ Q (χ s b) → r (.str s) [y] h.H Q
theorem strM_of {χ : Str → Rv → Er Rv} {r : V → List V → Hp → VK → Prop} (hr : MOk K W χ r) : ∀ σ H Q, tX K W (strM χ f g) σ H Q → tM1 r (tX K W f) (tX K W g) σ H Q := by
  intro σ H Q q
  obtain ⟨h, ρ, rfl, R, q⟩ := tX_iff.mp q
  refine (tX_mk (f := f) R (q.bind fun a x h1 ea R1 g1 ok1 q1 => ?_) : tX K W f σ h.H _)
  split at q1
  · rename_i s es
    have e1 := dp_str (ok1.dp R1.ch es)
    subst e1
    refine ⟨⟨s, rfl⟩, (tX_mk (f := g) R1 (q1.bind fun b y h2 _ R2 g2 ok2 q2 => ?_) : tX K W g σ h1.H _)⟩
    exact hr h1 h2 ρ σ s y b Q R1 R2 g2 ok2 q2
  · exact q1.elim
def joinR (s : Str) (b : Rv) : Er Rv := match b.dat with
  | some (.list ds) => (match dStrs ds with
    | some ys => if (ys.map (·.length)).sum + ys.length * s.length ≤ 16777216 then .ok (.v (.str (Txt.join s ys))) else .bad
    | none => .bad)
  | _ => .bad
theorem xjoin {apos : Pos} (ha : PE X a (tX X.K W f)) (hb : PE X b (tX X.K W g)) (hs : starEach [b] X.env = [(false, eval b X.env)] := by rfl) (hbase : attributeBase a "join" X.env (eval a X.env) = eval a X.env := by rfl) (hline : (apos.endLine == pos.line) = true := by rfl) :
    PE X (.Call (.Attribute a "join" apos) [b] [] pos) (tX X.K W (strM joinR f g)) := peTo (pe_join ha hb hs hbase hline) (strM_of fun h0 h ρ σ s y b Q R0 R g ok q => by
  unfold joinR at q
  split at q
  · rename_i ds ed
    obtain ⟨p, vs, rfl, sl, d⟩ := dp_lst (ok.dp R.ch ed)
    split at q
    · rename_i ys ey
      rw [dStrs_v ey d] at sl
      split at q
      · rename_i hz
        exact ⟨s, p, ys, rfl, rfl, .inl sl, hz, q.now R (.str _)⟩
      · exact q.elim
    · exact q.elim
  · exact q.elim)
def splitR (s : Str) (b : Rv) : Er Rv := match b.dat with
  | some (.str t) => if t.length ≠ 0 ∧ s.length + 2 ≤ 100000 then .ok (.o ((Txt.split s t).map .str)) else .bad
  | _ => .bad
theorem strs_dp {H : Hp} : ∀ ys : List Str, DpAll K H (ys.map V.str) (ys.map PyData.str)
  | [] => .nil
  | y :: ys => .cons (.str y) (strs_dp ys)
theorem xsplit {apos : Pos} (ha : PE X a (tX X.K W f)) (hb : PE X b (tX X.K W g)) (hs : starEach [b] X.env = [(false, eval b X.env)] := by rfl) (hbase : attributeBase a "split" X.env (eval a X.env) = eval a X.env := by rfl) (hline : (apos.endLine == pos.line) = true := by rfl) :
    PE X (.Call (.Attribute a "split" apos) [b] [] pos) (tX X.K W (strM splitR f g)) := peTo (pe_split ha hb hs hbase hline) (strM_of fun h0 h ρ σ s y b Q R0 R g ok q => by
  unfold splitR at q
  split at q
  · rename_i t et
    have e1 := dp_str (ok.dp R.ch et)
    subst e1
    split at q
    · rename_i hz
      exact ⟨s, t, rfl, rfl, by simpa using hz.1, sz100 hz.2, fun p hp => q.newL R (strs_dp _) hp⟩
    · exact q.elim
  · exact q.elim)
def findR (s : Str) (b : Rv) : Er Rv := match b.dat with
  | some (.str t) => .ok (.v (.int (Txt.find s t)))
  | _ => .bad
theorem xfind {apos : Pos} (ha : PE X a (tX X.K W f)) (hb : PE X b (tX X.K W g)) (hs : starEach [b] X.env = [(false, eval b X.env)] := by rfl) (hbase : attributeBase a "find" X.env (eval a X.env) = eval a X.env := by rfl) (hline : (apos.endLine == pos.line) = true := by rfl) :
    PE X (.Call (.Attribute a "find" apos) [b] [] pos) (tX X.K W (strM findR f g)) := peTo (pe_m1 F.slot_str_find F.type_str_find mt_find ha hb hs hbase hline) (strM_of fun h0 h ρ σ s y b Q R0 R g ok q => by
  unfold findR at q
  split at q
  · rename_i t et
    have e1 := dp_str (ok.dp R.ch et)
    subst e1
    exact ⟨s, t, rfl, rfl, q.now R (.int _)⟩
  · exact q.elim)
/-- a text, often -/
def srep : D → D → Er D := fun x y => match x, y with
  | .str s, .int k => if s.length ≤ 100 ∧ -(2 ^ 63) ≤ k ∧ k ≤ 10000 then .ok (.str (Txt.mul s k)) else .bad
  | _, _ => .bad
def rSrep : R2 := fun x y H Q => ∃ s k, x = .str s ∧ y = .int k ∧ (s.length ≤ 100 ∧ -(2 ^ 63) ≤ k ∧ k ≤ 10000) ∧ Q (.str (Txt.mul s k)) H
theorem op_srep : OpR X (binaryOp .Mult) rSrep := by
  intro pins s σ H x y v u Q I rx ry h
  obtain ⟨z, k, rfl, rfl, hc, q⟩ := h
  obtain ⟨t, rfl⟩ := rx
  obtain ⟨t2, rfl⟩ := ry
  exact SB.mul (mulOk_of 100 10000 hc.1 hc.2.2 hc.2.1 (by decide) (by decide)) fun t' k => ⟨.str _, H, I.tok k, ⟨t', rfl⟩, q⟩
theorem ok_srep : OpOk K W (flat2 srep) rSrep := by
  refine flat_ok (fun x y c p e => ?_) (fun H x y d e f Q h1 h2 e1 q => ?_) fun d e f e1 => ?_
  · unfold srep at e; split at e; (· split at e <;> cases e); cases e
  · unfold srep at e1
    split at e1
    · split at e1
      · rename_i hc
        cases e1
        exact ⟨_, _, dp_str h1, dp_int h2, hc, q _ rfl⟩
      · cases e1
    · cases e1
  · unfold srep at e1
    split at e1
    · split at e1
      · cases e1; rfl
      · cases e1
    · cases e1
theorem xsrep (ha : PE X a (tX X.K W f)) (hb : PE X b (tX X.K W g)) : PE X (.BinOp a .Mult b pos) (tX X.K W (binF (flat2 srep) f g)) := peTo (pe_op op_srep ha hb) (bin_of ok_srep)
/-- a call with nothing handed over -/
theorem xcall0 {k : Nat} {f : Addr} {fd : FuncData} {g : List Sl → Fr} {x : Str} {p pos : Pos} (tk : Tk X cm W) (F : FnOk X.prog X.w X.K X.mg X.base (L2.CX X.prog X.w) k f fd [] (fsp X.K cm 0 g)) (hr : Room k X.A) (hg : Gl X x) (hm : X.mg x = some (.ref f)) (hk : PySem.W.keepIn X.K (.ref f) = true) (hb : Binds X.K fd [] [])
    (hdb : (x == ("__debug__" : Str)) = false := by decide) :
    PE X (.Call (.Name x p) [] [] pos) (tX X.K W (callF g aNil)) := by
  obtain ⟨Wx, tk, hW⟩ := tk
  have hp : PE X (.Call (.Name x p) [] [] pos) (fun σ H Q => fsp X.K cm 0 g [] H Q (WE Wx σ)) := ⟨fun pins s σ H Q I h => by
    refine wpAny_Call_Name_kw (ld_glob I hg hm ?_ hdb)
    exact PySem.W.callWith_K0 I.kIn hk (run_fnS (E := WE Wx) (us := []) F hr hb (passAt tk σ) I .nil h)⟩
  refine peTo hp fun σ H Q q => ?_
  obtain ⟨h, ρ, rfl, R, q⟩ := tX_iff.mp q
  have q1 : PE1 X.K W h ρ σ Q (g []).rv := q
  refine ⟨rfl, h.G, [], R.ch.gh, trivial, ?_⟩
  cases eg : g [] with
  | bad => rw [eg] at q1; exact q1.elim
  | exc c p =>
    rw [eg] at q1
    cases p with
    | none =>
      intro G' H' cg
      obtain ⟨gr, ch⟩ := call_gr R.ch cg
      exact hW _ _ _ _ (q1 (h.call G' H') (R.grow gr ch) gr)
    | some p =>
      obtain ⟨ff, xx⟩ := p
      intro G' H' d v cg hd hv
      obtain ⟨gr, ch⟩ := call_gr R.ch cg
      exact hW _ _ _ _ (q1 (h.call G' H') (R.grow gr ch) gr) d v hd hv
  | ret res =>
    rw [eg] at q1
    intro v G' H' cg ok'
    obtain ⟨gr, ch⟩ := call_gr R.ch cg
    have R2 := R.grow gr ch
    cases res with
    | v d => exact q1 v (h.call G' H') R2 gr ok'
    | b d => exact q1 v (h.call G' H') R2 gr ok'
    | o xs =>
      obtain ⟨l, ws, ev, n, a, b, d⟩ := ok'
      refine q1 v (h.call G' H') R2 gr ⟨l, ws, ev, n, a, ?_, d⟩
      show (match h.F l with | some o => some o | none => G' l) = none
      rw [R.ch.fh.back n]
      exact b
    | ok xs =>
      obtain ⟨l, ws, ev, n, a, b, d⟩ := ok'
      refine q1 v (h.call G' H') R2 gr ⟨l, ws, ev, n, a, ?_, d⟩
      show (match h.F l with | some o => some o | none => G' l) = none
      rw [R.ch.fh.back n]
      exact b
    | p2 xs ys =>
      obtain ⟨t, l, m, vs', ws, ev, ht, ne, ⟨n, a, b, d⟩, ⟨n2, a2, b2, d2⟩⟩ := ok'
      refine q1 v (h.call G' H') R2 gr ⟨t, l, m, vs', ws, ev, ht, ne, ⟨n, a, ?_, d⟩, ⟨n2, a2, ?_, d2⟩⟩
      · show (match h.F l with | some o => some o | none => G' l) = none
        rw [R.ch.fh.back n]
        exact b
      · show (match h.F m with | some o => some o | none => G' m) = none
        rw [R.ch.fh.back n2]
        exact b2
    | _ => exact q1.elim
end
end Sq
/-! sep.join(reversed(a list)) -/
namespace RT
open PySem PySem.Spec PyProof.Rows L2
section
variable {prog : Program} {w : World} {A : Around} {E : Value → Shared → Prop} {s : Shared}
theorem join_rev {x : Str} {t : Tok} {ys : List Str} {it l : Addr} {items : Array Value} {Q : Value → Shared → Prop} (hh : A.handled = none) (hit : s.heap.IsRevIter it l ((items.size : Int) - 1)) (hl : s.heap.IsList l items) (hne : l ≠ it) (hn : items.size ≤ sizeLine)
    (hP : ∀ acc : Array Value, ItemsOf (fun i v => items[items.size - 1 - i]? = some v) acc items.size → StrsAre acc.toList ys) (hok : (ys.map (·.length)).sum + ys.length * x.length ≤ 16777216)
    (hq : ∀ (h' : Heap) (tk : Nat) (t' : Tok), (∀ b o, b ≠ it → s.heap.get? b = some o → h'.get? b = some o) → Q (.str (Txt.join x ys) t') { s with heap := h', toks := tk }) :
    wpAny (model prog w) A (call (.builtin "str.join") [.str x t, .ref it]) Q E s := by
  refine wpAny_call (codeAny_call_builtin F.slot_str_join.plain F.entry_str_join (F.slot_str_join.check _ _ _ _ _ _ _ _ (typeIs_str _ _ _) (F.args_str_join_2 _ _) ?_))
  rw [join_tree_other]
  refine wpAny_bind (wpAny_typeOf (Heap.IsRevIter.typeIs (s := s) hit) ?_)
  show wpAny _ A.in1 ((pyIter (.ref it)).tryCatch _ >>= fun it => collect it >>= fun items => joinTail x items) _ _ s
  refine wpAny_bind (wpAny_tryCatch (wpAny_pyIter_revIter (s := s) hit ?_))
  refine wpAny_bind (collect_rev (A := A.in1) hh hit hl hne hn fun h' tk acc hk hacc => ?_)
  obtain ⟨l', hl', ht⟩ := strsAre_values (hP acc hacc)
  subst ht
  rw [hl']
  have hok' := joinOk_of hok
  unfold JoinOk at hok'
  rw [Bool.not_eq_true'] at hok'
  have g : Gives (joinTail x (strValues l')) (joinMade x l') := by
    have g0 := gives_joinTail x l' hok'
    cases l' with
    | nil => exact g0
    | cons p r => cases r with
      | nil => exact g0
      | cons q r' => exact g0
  exact g prog w A (wants Q E) _ (post_join l' ⟨joinFit_length hok', fun t' k => hq h' k t' hk⟩)
end
section
variable {X : Cx}
def tJoinRev (K : PySem.W.Frag) (to te : TE) : TE := fun σ H Q => to σ H fun x H1 => (∃ a, x = .str a) ∧ te σ H1 fun v H2 => ∃ (a : Str) (p : Addr) (ys : List Str), x = .str a ∧ v = .ref p ∧ SqL K H2 p (ys.map V.str) ∧
  (ys.map (·.length)).sum + ys.length * a.length ≤ 16777216 ∧ Q (.str (Txt.join a ys.reverse)) H2
theorem pe_joinRev {o e : Expr} {to te : TE} {apos pos p2 pos2 : Pos} (hc : X.calm = true) (ho : PE X o to) (hg2 : Gl X "reversed") (hm2 : X.mg "reversed" = none) (he : PE X e te)
    (hs : starEach [e] X.env = (false, eval e X.env) :: starEach [] X.env := by rfl)
    (hs1 : starEach [.Call (.Name "reversed" p2) [e] [] pos2] X.env = [(false, eval (.Call (.Name "reversed" p2) [e] [] pos2) X.env)] := by rfl)
    (hbase : attributeBase o "join" X.env (eval o X.env) = eval o X.env := by rfl) (hline : (apos.endLine == pos.line) = true := by rfl) :
    PE X (.Call (.Attribute o "join" apos) [.Call (.Name "reversed" p2) [e] [] pos2] [] pos) (tJoinRev X.K to te) := by
  refine ⟨fun pins s σ H Q I h => ?_⟩
  refine PySem.Call_method1 hbase hs1 hline (thn (ho.run pins s σ H _ I h) fun v s1 ⟨x, H1, I1, r1, q1⟩ => ?_)
  obtain ⟨⟨a, rfl⟩, q1⟩ := q1
  obtain ⟨t, rfl⟩ := _root_.id r1
  refine ⟨"str", _, F.plainAttrs_str, F.slot_str_join, F.type_str_join, typeIs_str _ _ _, (fun _ e => nomatch e), Calls.callWith_builtin rfl (Calls.evalArgs_plain (Calls.spliced_cons ?_))⟩
  refine Call_ (ld_blt I1 hg2 hm2 PyProof.Rows.boot_reversed (PyProof.Rows.callWith_type1 (args_cons (thn (he.run pins s1 σ H1 _ I1 q1) fun u s2 ⟨v, H2, I2, r2, q2⟩ => args_nil ?_) hs) hs rfl))
  obtain ⟨a', l, ys, ea, ev, hq, hz, q⟩ := q2
  cases ea
  subst ev
  obtain rfl : u = Value.ref l := r2
  obtain ⟨its, rv, p', hz2⟩ := I2.list hq
  refine call_reversed_list p'.isList ?_
  have k0 : ∀ b o, s2.heap.get? b = some o → (s2.heap.push (revObj l ((its.toArray.size : Int) - 1))).get? b = some o := fun b o e => Heap.get?_push_of_some _ e
  have I3 : Inv X pins σ H2 { s2 with heap := s2.heap.push (revObj l ((its.toArray.size : Int) - 1)) } := I2.kept (t' := s2.toks) k0
  obtain ⟨f0, f1, f2, f3, f4, f5⟩ := I2.fpOk (H' := H2) (b := s2.heap.objs.size) (Nat.le_refl _) (I2.hok.fresh (Nat.le_refl _))
  have hl := p'.isList
  obtain ⟨ol, hol, _⟩ := id hl
  have hne : l ≠ s2.heap.objs.size := Nat.ne_of_lt (Heap.lt_size hol)
  have hn : its.toArray.size ≤ sizeLine := by rw [List.size_toArray, ← rv.length]; exact hz2
  refine Calls.spliced_nil ?_
  refine join_rev (ys := ys.reverse) (s := { s2 with heap := s2.heap.push (revObj l ((its.toArray.size : Int) - 1)) }) (I2.ok.hd hc) ⟨_, Heap.get?_push_size _ rfl, rfl, rfl⟩ (hl.push _) hne hn (fun acc hi => ?_) (by
    rw [List.map_reverse, List.sum_reverse, List.length_reverse]
    exact hz) fun h' tk t' hk => ?_
  · have := vals_rev rv hi
    rw [← List.map_reverse] at this
    exact strs_of_vals this
  · exact ⟨.str _, H2, I3.turned (t' := tk) (fun b o hb e => hk b o hb e) f0 f1 f3 f4 f5, ⟨t', rfl⟩, q⟩
end
end RT
namespace Sq
open PySem PySem.Spec PyProof.Rows L2
section
variable {X : Cx} {W : WF} {K : PySem.W.Frag} {a b : Expr} {f g : EF} {pos : Pos}
def joinRevR (s : Str) (b : Rv) : Er Rv := match b.dat with
  | some (.list ds) => (match dStrs ds with
    | some ys => if (ys.map (·.length)).sum + ys.length * s.length ≤ 16777216 then .ok (.v (.str (Txt.join s ys.reverse))) else .bad
    | none => .bad)
  | _ => .bad
theorem xjoinRev {apos p2 pos2 : Pos} (hc : X.calm = true) (hg2 : Gl X "reversed") (hm2 : X.mg "reversed" = none) (ha : PE X a (tX X.K W f)) (hb : PE X b (tX X.K W g))
    (hs : starEach [b] X.env = (false, eval b X.env) :: starEach [] X.env := by rfl)
    (hs1 : starEach [.Call (.Name "reversed" p2) [b] [] pos2] X.env = [(false, eval (.Call (.Name "reversed" p2) [b] [] pos2) X.env)] := by rfl)
    (hbase : attributeBase a "join" X.env (eval a X.env) = eval a X.env := by rfl) (hline : (apos.endLine == pos.line) = true := by rfl) :
    PE X (.Call (.Attribute a "join" apos) [.Call (.Name "reversed" p2) [b] [] pos2] [] pos) (tX X.K W (strM joinRevR f g)) := by
  refine peTo (RT.pe_joinRev hc ha hg2 hm2 hb hs hs1 hbase hline) fun σ H Q q => ?_
  obtain ⟨h, ρ, rfl, R, q⟩ := tX_iff.mp q
  refine (tX_mk (f := f) R (q.bind fun a x h1 ea R1 g1 ok1 q1 => ?_) : tX X.K W f σ h.H _)
  split at q1
  · rename_i s es
    have e1 := dp_str (ok1.dp R1.ch es)
    subst e1
    refine ⟨⟨s, rfl⟩, (tX_mk (f := g) R1 (q1.bind fun b y h2 _ R2 g2 ok2 q2 => ?_) : tX X.K W g σ h1.H _)⟩
    unfold joinRevR at q2
    split at q2
    · rename_i ds ed
      obtain ⟨p, vs, rfl, sl, d⟩ := dp_lst (ok2.dp R2.ch ed)
      split at q2
      · rename_i ys ey
        rw [dStrs_v ey d] at sl
        split at q2
        · rename_i hz
          exact ⟨s, p, ys, rfl, rfl, sl, hz, q2.now R2 (.str _)⟩
        · exact q2.elim
      · exact q2.elim
    · exact q2.elim
  · exact q1.elim
end
/-! ### l[i] += e: l an own list of whole numbers -/
section
variable {X : Cx} {W : WF} {K : PySem.W.Frag} {e i : Expr} {f g : EF} {pos p p2 : Pos}
def tgetL : V → V → Hp → VK → Prop := fun o i H Q => ∃ (l : Addr) (xs : List V) (n : Nat) (v : V), o = .ref l ∧ i = .int (n : Int) ∧ H l = some (.lst xs) ∧ xs[n]? = some v ∧ Q v H
theorem get_listL : PGet X tgetL := by
  intro pins s σ H o i ov iv Q I ro ri h
  obtain ⟨l, xs, n, v, rfl, rfl, hl, hx, q⟩ := h
  cases ro
  obtain ⟨t, rfl⟩ := ri
  obtain ⟨z, its, c, r, hn, hg⟩ := I.lstM hl
  obtain ⟨u, hu, ru⟩ := r.get hx
  have hlt : n < its.length := (List.getElem?_eq_some_iff.mp hu).1
  have h63 := line63
  exact wpAny_getItem_list (items := its.toArray) ⟨_, hg, rfl, _, rfl⟩ (by omega) (by omega) (by rw [Int.toNat_natCast]; simpa using hu) ⟨v, H, I, ru, q⟩
def augIt (j : Nat) (g f : EF) : SF := fun ρ => match slot ρ j with
  | .o xs => thenS ρ (g ρ) fun i => match i.dat with
    | some (.int z) => if 0 ≤ z then (match xs[z.toNat]? with
      | some (.int old) => thenS ρ (f ρ) fun r => (match r.dat with
        | some (.int k) => .next (ρ.set j (.o (xs.set z.toNat (.int (old + k)))))
        | _ => .bad)
      | _ => .bad) else .bad
    | _ => .bad
  | _ => .bad
theorem xaugIt (j : Nat) {x : Str} (ho : PE X (.Name x p) (tVar j)) (hi : PE X i (tX X.K W g)) (he : PE X e (tX X.K W f))
    (ha : ∀ ov iv new, augStore i ov iv new = (do holding [new, ov, iv] (setItem ov iv new); release [new, ov, iv] []; pure .next) := by intros; rfl) :
    PS X (.AugAssign (.Subscript (.Name x p) i p2) .Add e pos) (tS X.K W (augIt j g f)) := by
  refine psTo (ps_augS ho hi get_listL he ip_add set_list ha) fun D σ H ⟨h, ρ, eh, R, q⟩ => ?_
  subst eh
  unfold augIt at q
  split at q
  · rename_i xs es
    obtain ⟨l, vs, ex, hl, hd, hlen, _⟩ := mut_now R es
    refine ⟨.ref l, ex, ?_⟩
    refine (tX_mk (f := g) R (q.then fun iz v3 h3 _ R3 g3 ok3 q3 => ?_) : tX X.K W g σ h.H _)
    split at q3
    · rename_i z ez
      split at q3
      · rename_i hz
        split at q3
        · rename_i old eo
          have ev := dp_int (ok3.dp R3.ch ez)
          subst ev
          obtain ⟨l2, vs2, ex2, hl2, hd2, hlen2, _⟩ := mut_now R3 es
          rw [ex] at ex2
          cases ex2
          obtain ⟨w, ew, dw⟩ := hd2.get eo
          have ew2 := dp_int dw
          subst ew2
          refine ⟨l, vs2, z.toNat, _, rfl, by rw [Int.toNat_of_nonneg hz], hl2, ew, ?_⟩
          refine (tX_mk (f := f) R3 ((Post.shift g3.sg q3).then fun r v4 h4 _ R4 g4 ok4 q4 => ?_) : tX X.K W f σ h3.H _)
          split at q4
          · rename_i k ek
            have ev4 := dp_int (ok4.dp R4.ch ek)
            subst ev4
            obtain ⟨l5, vs5, ex5, hl5, hd5, hlen5, mt⟩ := mut_now R4 es
            rw [ex] at ex5
            cases ex5
            obtain ⟨R6, g6⟩ := mt (vs5.set z.toNat (.int (old + k))) (xs.set z.toNat (.int (old + k))) (hd5.set (.int _) _)
            refine ⟨old, k, rfl, rfl, l, vs5, z, z.toNat, rfl, rfl, hl5, ?_, q4 σ _ R6 (g4.sg.trans g6)⟩
            have hlt : z.toNat < vs5.length := by
              rw [hlen5]
              exact (List.getElem?_eq_some_iff.mp eo).1
            unfold ixN
            rw [if_pos hz, if_pos (by omega)]
          · exact q4.elim
        · exact q3.elim
      · exact q3.elim
    · exact q3.elim
  · exact q.elim
end
/-! ### two own lists told in a tuple, and taken -/
section
variable {X : Cx} {W : WF} {cm : Str → Addr} {K : PySem.W.Frag}
def retPair (i j : Nat) : SF := fun ρ => match slot ρ i, slot ρ j with
  | .o xs, .o ys => if i = j then .bad else .ret (.p2 xs ys)
  | _, _ => .bad
theorem own_now {h : Hs} {ρ : Env} {σ : L2.St} (R : Rel K h ρ σ) {i : Nat} {xs : List D} (es : slot ρ i = .o xs) : ∃ l vs, σ[i]? = some (some (.ref l)) ∧ h.H l = some (.lst vs) ∧ h.F l = none ∧ DpAll K h.G vs xs := by
  obtain ⟨x, ex, l, vs, rfl, hl, fl, hd⟩ := R.get (slot_some es (by intro z; cases z))
  exact ⟨l, vs, ex, hl, fl, hd⟩
theorem xretPair (i j : Nat) {x y : Str} {px py pt pos : Pos} {kt} (hx : PE X (.Name x px) (tVar i)) (hy : PE X (.Name y py) (tVar j))
    (h1 : starEach [.Name x px, .Name y py] X.env = (false, eval (.Name x px) X.env) :: starEach [.Name y py] X.env := by rfl) (h2 : starEach [.Name y py] X.env = (false, eval (.Name y py) X.env) :: starEach [] X.env := by rfl) :
    PS X (.Return (some (.Tuple [.Name x px, .Name y py] kt pt)) pos) (tS X.K W (retPair i j)) := by
  refine psTo (ps_ret (pe_tup (pa_cons hx (pa_cons hy pa_nil h2) h1))) fun D σ H ⟨h, ρ, e, R, q⟩ => ?_
  subst e
  unfold retPair at q
  split at q
  · rename_i xs ys e1 e2
    split at q
    · exact q.elim
    · rename_i hij
      obtain ⟨l, vs, ex, hl, fl, hd⟩ := own_now R e1
      obtain ⟨m, ws, ey, hm, fm, hd2⟩ := own_now R e2
      have hne := R.dis i j _ _ l m hij (slot_some e1 (by intro z; cases z)) (slot_some e2 (by intro z; cases z)) rfl rfl ex ey
      refine ⟨_, ex, _, ey, by show 2 ≤ sizeLine; decide, fun t ht => ?_⟩
      have hlt : l ≠ t := fun z => by rw [z, ht] at hl; cases hl
      have hmt : m ≠ t := fun z => by rw [z, ht] at hm; cases hm
      exact q (.ref t) (h.newO t (.tup [.ref l, .ref m])) (R.ch.newO ht) (Gr.newO R.ch ht).sg ⟨t, l, m, vs, ws, rfl, upd_same, hne, ⟨(upd_ne hlt).trans hl, fl, hd⟩, ⟨(upd_ne hmt).trans hm, fm, hd2⟩⟩
  · exact q.elim
def unpP (i j : Nat) : TF := fun r ρ => match r with
  | .p2 xs ys => .ok ((ρ.set i (.o xs)).set j (.o ys))
  | _ => .bad
theorem unpP_ne {i j : Nat} : ∀ r ρ c p, unpP i j r ρ ≠ .exc c p := by
  intro r ρ c p e
  unfold unpP at e
  split at e <;> cases e
theorem xgPair {i j : Nat} {x y : Str} {px py pt : Pos} {kt} (hc : X.calm = true) (hN : X.N.Nodup) (hij : i ≠ j) (hi : X.N[i]? = some x := by rfl) (hj : X.N[j]? = some y := by rfl) (hx : Loc X.env.scope x := by first | exact Or.inl rfl | exact Or.inr rfl) (hy : Loc X.env.scope y := by first | exact Or.inl rfl | exact Or.inr rfl)
    (hfx : X.fn x = true ∨ X.env.scope.names.lookup x = some .local := by first | exact .inl rfl | exact .inr rfl | assumption) (hfy : X.fn y = true ∨ X.env.scope.names.lookup y = some .local := by first | exact .inl rfl | exact .inr rfl | assumption)
    (hs1 : (assignEach [.Name x px, .Name y py] X.env).map (·.2) = assign (.Name x px) X.env :: (assignEach [.Name y py] X.env).map (·.2) := by rfl) (hs2 : (assignEach [.Name y py] X.env).map (·.2) = assign (.Name y py) X.env :: (assignEach [] X.env).map (·.2) := by rfl)
    (hn : (assignEach [.Name x px, .Name y py] X.env).length = 2 := by rfl) (hst : (assignEach [.Name x px, .Name y py] X.env).findIdx? (·.1) = none := by rfl) : PG X (.Tuple [.Name x px, .Name y py] kt pt) (tG X.K [i, j] (unpP i j)) := by
  refine pgTo (pg_tup (n := 2) hc (pgs_cons (pg_name hN hi hx hfx) (pgs_cons (pg_name hN hj hy hfy) pgs_nil hs2) hs1) hn hst) ?_
  rintro v σ H Q ⟨h0, h, ρ, r, ρ', eh, R0, R, ok, e, k⟩
  subst eh
  unfold unpP at e
  split at e
  · rename_i xs ys
    obtain ⟨t, l, m, vs, ws, rfl, ht, hne, ⟨n1, a1, b1, d1⟩, ⟨n2, a2, b2, d2⟩⟩ := ok
    cases e
    have R1 : Rel X.K h (ρ.set i (.o xs)) (σ.set i (some (.ref l))) := R.set i ⟨l, vs, rfl, a1, b1, d1⟩ fun k t' l' _ ev e1 o1 => by
      cases ev
      exact R0.fresh n1 e1 o1
    have R2 : Rel X.K h ((ρ.set i (.o xs)).set j (.o ys)) ((σ.set i (some (.ref l))).set j (some (.ref m))) := R1.set j ⟨m, ws, rfl, a2, b2, d2⟩ fun k t' l' _ ev e1 o1 => by
      cases ev
      by_cases hk : i = k
      · subst hk
        rw [List.getElem?_set]
        simp only [if_true]
        split
        · intro z
          cases z
          exact hne rfl
        · intro z
          cases z
      · rw [List.getElem?_set_ne hk] at e1
        rw [List.getElem?_set_ne hk]
        exact R0.fresh n2 e1 o1
    refine ⟨t, [.ref l, .ref m], rfl, .of ht, rfl, _, _, rfl, _, _, rfl, rfl, k _ R2 ⟨by simp, fun z hz => ?_⟩⟩
    rw [List.getElem?_set_ne (fun e => hz (by simp [e])), List.getElem?_set_ne (fun e => hz (by simp [e]))]
  · cases e
end
/-! ### a def that changes the list that is handed to it first, and tells it -/
structure CGm (G H : Hp) (l : Addr) (G' H' : Hp) : Prop where
  g : Ex G G'
  h : ∀ a o, a ≠ l → H a = some o → H' a = some o
  c : Ex G' H'
  n : ∀ a o, G' a = some o → G a = none → H a = none ∨ a = l
def fspM (K : PySem.W.Frag) (n : Nat) (g : List Sl → Fr) : Sp := fun vs H Q E => vs.length = n ∧ ∃ (G : Hp) (l : Addr) (ws : List V) (xs : List D) (vr : List V) (ds : List D), vs = .ref l :: vr ∧ Ex G H ∧ G l = none ∧ H l = some (.lst ws) ∧ DpAll K G ws xs ∧ DpAll K G vr ds ∧ match g (.o xs :: ds.map Sl.v) with
  | .ret (.o ys) => ∀ v G' H', CGm G H l G' H' → (∃ l' us, v = .ref l' ∧ (l' = l ∨ H l' = none) ∧ H' l' = some (.lst us) ∧ G' l' = none ∧ DpAll K G' us ys) → Q v H'
  | _ => False
section
variable {P : Program} {w : World} {K : PySem.W.Frag} {mg : Str → Option Value} {base : Heap}
def butl (H : Hp) (l : Addr) : Hp := fun a => if a = l then none else H a
theorem rel_startM {N : List Str} {G H : Hp} {l : Addr} {ws vr : List V} {xs ds : List D} (c : Ex G H) (gl : G l = none) (hl : H l = some (.lst ws)) (hd : DpAll K G ws xs) (ok : DpAll K G vr ds) (hn : (vr.length + 1) ≤ N.length) :
    Rel K ⟨G, butl H l, H⟩ ((.o xs :: ds.map Sl.v) ++ List.replicate (N.length - (ds.length + 1)) .u) (L2.start N (.ref l :: vr)) := by
  have el := ok.len
  have gf : Ex G (butl H l) := fun a o e => by
    unfold butl
    rw [if_neg (fun z => by rw [z, gl] at e; cases e)]
    exact c a o e
  have at' : ∀ {i : Nat} {s : Sl}, ((Sl.o xs :: ds.map Sl.v) ++ List.replicate (N.length - (ds.length + 1)) Sl.u)[i]? = some s → (i = 0 ∧ s = .o xs) ∨ (∃ j d, i = j + 1 ∧ ds[j]? = some d ∧ s = .v d) ∨ s = .u := fun {i s} e => by
    cases i with
    | zero =>
      left
      refine ⟨rfl, ?_⟩
      simpa using e.symm
    | succ j =>
      right
      rw [List.cons_append, List.getElem?_cons_succ, List.getElem?_append] at e
      split at e
      · left
        rw [List.getElem?_map] at e
        obtain ⟨d, e1, e2⟩ := Option.map_eq_some_iff.mp e
        exact ⟨j, d, rfl, e1, e2.symm⟩
      · right
        rw [List.getElem?_replicate] at e
        split at e
        · cases e; rfl
        · cases e
  refine ⟨⟨gf, fun a o e => ?_⟩, ?_, fun i s x e1 e2 => ?_, fun i j s t a b hij e1 e2 o1 o2 _ _ => ?_⟩
  · have e' : (if a = l then none else H a) = some o := e
    split at e'
    · cases e'
    · exact e'
  · unfold L2.start
    simp
    omega
  · rcases at' e1 with ⟨rfl, rfl⟩ | ⟨j, d, rfl, ed, rfl⟩ | rfl
    · have : x = some (.ref l) := by
        unfold L2.start at e2
        simp at e2
        exact e2.symm
      refine ⟨l, ws, this, hl, ?_, hd⟩
      show (if l = l then none else H l) = none
      rw [if_pos rfl]
    · obtain ⟨v, ev, dv⟩ := ok.get ed
      refine ⟨v, ?_, dv⟩
      unfold L2.start at e2
      have hi : j + 1 < (V.ref l :: vr).length := by
        have := (List.getElem?_eq_some_iff.mp ev).1
        simp
        omega
      rw [List.getElem?_append_left (by simpa using hi), List.getElem?_map, List.getElem?_cons_succ, ev] at e2
      cases e2
      rfl
    · trivial
  · exfalso
    rcases at' e1 with ⟨rfl, rfl⟩ | ⟨j', d, rfl, ed, rfl⟩ | rfl
    · rcases at' e2 with ⟨rfl, rfl⟩ | ⟨j'', d', rfl, ed', rfl⟩ | rfl
      · exact hij rfl
      · cases o2
      · cases o2
    · cases o1
    · cases o1
theorem fn_okM {cm : Str → Addr} {x qual : Str} {st : Stmt} {f : Addr} {fd : FuncData} {N ps : List Str} {k : Nat} {bf : SF} (F : Fun K x qual st f fd) (S : FnScope N ps (defScope st)) (hps : ps.length ≤ N.length)
    (body : ∀ (cdv : Value) (A : Around) (outer : List PySem.Env) (s : Shared) (H : Hp) (E : XK), Room k (A.deeper (envOfC qual (defScope st) s.heap.objs.size f cdv)) →
      PSs (bodyCx P w K mg base N qual st f cdv A outer s H E) (defBody st) (tS K (WFx K cm fun cls d _ H => E cls d H) bf)) :
    FnOk P w K mg base (L2.CX P w) (k + 1) f fd ps (fspM K ps.length (fnR bf N.length)) := by
  refine F.okX S (fun vs H Q E h => h.1) fun cdv A outer s H vs Q E hr h => ⟨_, body cdv A outer s H E hr, ?_⟩
  obtain ⟨hl, G, l, ws, xs, vr, ds, rfl, c, gl, hH, hd, ok, q⟩ := h
  have el := ok.len
  have R := rel_startM (N := N) c gl hH hd ok (by simp at hl; omega)
  refine ⟨⟨G, butl H l, H⟩, _, rfl, R, ?_⟩
  unfold fnR at q
  have e0 : (Sl.o xs :: ds.map Sl.v).length = ds.length + 1 := by simp
  rw [e0] at q
  cases e : bf ((Sl.o xs :: ds.map Sl.v) ++ List.replicate (N.length - (ds.length + 1)) .u) with
  | ret r =>
    rw [e] at q
    intro v h' c' g' ok'
    cases r with
    | o ys =>
      obtain ⟨l', us, ev, a, b, d⟩ := ok'
      have hf : ∀ a : Addr, butl H l a = none → a = l ∨ H a = none := fun a z => by
        unfold butl at z
        split at z
        · left; assumption
        · right; exact z
      refine q v h'.G h'.H ⟨g'.g, fun a o hne e => ?_, c'.gh, fun a o e z => ?_⟩ ⟨l', us, ev, hf l' (g'.f.back b), a, c'.gf.back b, d⟩
      · refine c'.fh a o (g'.f a o ?_)
        show (if a = l then none else H a) = some o
        rw [if_neg hne]
        exact e
      · rcases hf a (g'.gn a o e z) with z | z
        · exact .inr z
        · exact .inl z
    | _ => exact q.elim
  | _ => rw [e] at q; exact q.elim
end
section
variable {X : Cx} {W : WF} {cm : Str → Addr}
/-- return F(a, G(b, ..)): a stays, b is the list that G changes -/
def retX (k : Nat) (F : List Sl → Fr) (i : Nat) (G : List Sl → Fr) (r : AF) : SF := fun ρ => match slot ρ k, slot ρ i with
  | .v da, .o xs => (match r ρ with
    | .ok rs => (match allV rs with
      | some ds => (match G (.o xs :: ds.map Sl.v) with
        | .ret (.o ys) => (match F [.v da, .v (.list ys)] with
          | .ret (.v d) => .ret (.v d)
          | _ => .bad)
        | _ => .bad)
      | none => .bad)
    | _ => .bad)
  | _, _ => .bad
theorem xretX {k i kF kG : Nat} {fF fG : Addr} {fdF fdG : FuncData} {psF psG : List Str} {gF gG : List Sl → Fr} {x y a b : Str} {p1 p2 p3 p4 pa pb pos : Pos} {es : List Expr} {r : AF} (tk : Tk X cm W)
    (FF : FnOk X.prog X.w X.K X.mg X.base (L2.CX X.prog X.w) kF fF fdF psF (fsp X.K cm psF.length gF)) (hrF : Room kF X.A) (hgF : Gl X x) (hmF : X.mg x = some (.ref fF)) (hkF : PySem.W.keepIn X.K (.ref fF) = true) (hbF : Binds X.K fdF psF []) (hlF : psF.length = 2)
    (FG : FnOk X.prog X.w X.K X.mg X.base (L2.CX X.prog X.w) kG fG fdG psG (fspM X.K psG.length gG)) (hrG : Room kG X.A) (hgG : Gl X y) (hmG : X.mg y = some (.ref fG)) (hkG : PySem.W.keepIn X.K (.ref fG) = true) (hbG : Binds X.K fdG psG []) (hlG : psG.length = es.length + 1)
    (ha : PE X (.Name a pa) (tVar k)) (hb : PE X (.Name b pb) (tVar i)) (har : PA X es (tXa X.K W r)) (hrl : ∀ ρ rs, r ρ = .ok rs → rs.length = es.length) (hdF : (x == ("__debug__" : Str)) = false := by decide) (hdG : (y == ("__debug__" : Str)) = false := by decide)
    (s1 : starEach [.Name a pa, .Call (.Name y p3) (.Name b pb :: es) [] p4] X.env = (false, eval (.Name a pa) X.env) :: starEach [.Call (.Name y p3) (.Name b pb :: es) [] p4] X.env := by rfl) (s2 : starEach [.Call (.Name y p3) (.Name b pb :: es) [] p4] X.env = (false, eval (.Call (.Name y p3) (.Name b pb :: es) [] p4) X.env) :: starEach [] X.env := by rfl)
    (s3 : starEach (.Name b pb :: es) X.env = (false, eval (.Name b pb) X.env) :: starEach es X.env := by rfl) (hpl : (backTo p4 (starEach es X.env)).any (·.1) = false := by rfl) (hpl2 : (backTo p2 (starEach [.Call (.Name y p3) (.Name b pb :: es) [] p4] X.env)).any (·.1) = false := by rfl) :
    PS X (.Return (some (.Call (.Name x p1) [.Name a pa, .Call (.Name y p3) (.Name b pb :: es) [] p4] [] p2)) pos) (tS X.K W (retX k gF i gG r)) := by
  obtain ⟨Wx, tk, hW⟩ := tk
  have pG := pe_callS (pos := p4) (p := p3) FG hrG hgG hmG hkG hbG (E := WE Wx) (fun σ => passAt tk σ) (pa_cons hb har s3) hdG s3 hpl
  refine psTo (ps_ret (pe_callS FF hrF hgF hmF hkF hbF (E := WE Wx) (fun σ => passAt tk σ) (pa_cons ha (pa_cons pG pa_nil s2) s1) hdF s1 hpl2)) fun D σ H ⟨h, ρ, e, R, q⟩ => ?_
  subst e
  unfold retX at q
  split at q
  rotate_left
  · exact q.elim
  rename_i da xs ek ei
  split at q
  rotate_left
  · exact q.elim
  rename_i rs er
  split at q
  rotate_left
  · exact q.elim
  rename_i ds eds
  split at q
  rotate_left
  · exact q.elim
  rename_i ys eG
  split at q
  rotate_left
  · exact q.elim
  rename_i d eF
  obtain ⟨xv, exv, v, rfl, hda⟩ := R.get (slot_some ek (by intro z; cases z))
  obtain ⟨l, ws, ex, hl, fl, hd⟩ := own_now R ei
  refine ⟨v, exv, _, ex, h, ρ, rfl, R, ?_⟩
  rw [er]
  intro vs h1 R1 g1 ok1
  have hds := allV_ok R1.ch eds ok1
  obtain ⟨l1, ws1, ex1, hl1, fl1, hd1⟩ := own_now R1 ei
  rw [ex] at ex1
  cases ex1
  have hlen : vs.length = es.length := by rw [ok1.len, hrl ρ rs er]
  refine ⟨by simp [hlG, hlen], h1.G, l, ws1, xs, vs, ds, rfl, R1.ch.gh, R1.ch.gf.back fl1, hl1, hd1, hds, ?_⟩
  rw [eG]
  intro v2 G' H' cg ⟨l2, us, ev2, hl2, hH2, hG2, hd2⟩
  subst ev2
  have eG2 : Ex G' (upd G' l2 (.lst us)) := Ex.new hG2
  have eH2 : Ex (upd G' l2 (.lst us)) H' := fun c o e => by
    by_cases hc : c = l2
    · subst hc
      rw [upd_same] at e
      cases e
      exact hH2
    · rw [upd_ne hc] at e
      exact cg.c c o e
  refine ⟨by simp [hlF], upd G' l2 (.lst us), [.v da, .v (.list ys)], eH2, ⟨ex_dp (g1.g.trans (cg.g.trans eG2)) hda, .lst (.of upd_same) (ex_dpa eG2 hd2), trivial⟩, ?_⟩
  rw [eF]
  intro v3 G3 H3 cg3 ok3
  have hlF' : ∀ c o, h.F c = some o → H3 c = some o := fun c o e => by
    have hne : c ≠ l := fun z => by rw [z, fl] at e; cases e
    exact cg3.h c o (cg.h c o hne (g1.x c o (R.ch.fh c o e)))
  refine q v3 ⟨G3, fun c => match h.F c with | some o => some o | none => G3 c, H3⟩ ⟨fun c o e => ?_, fun c o e => ?_⟩ ⟨(g1.g.trans (cg.g.trans eG2)).trans cg3.g, fun c o e => ?_, fun c o e z => ?_⟩ ok3
  · show (match h.F c with | some o => some o | none => G3 c) = some o
    cases z : h.F c with
    | none => exact e
    | some u =>
      have e1 := hlF' c u z
      rw [cg3.c c o e] at e1
      exact e1.symm
  · have e' : (match h.F c with | some o => some o | none => G3 c) = some o := e
    cases z : h.F c with
    | none =>
      rw [z] at e'
      exact cg3.c c o e'
    | some u =>
      rw [z] at e'
      cases e'
      exact hlF' c _ z
  · show (match h.F c with | some o => some o | none => G3 c) = some o
    rw [e]
  · cases y : h.F c with
    | none => rfl
    | some u =>
      exfalso
      have hne : c ≠ l := fun z => by rw [z, fl] at y; cases y
      have y1 := g1.x c u (R.ch.fh c u y)
      have y2 := cg.h c u hne y1
      cases z2 : (upd G' l2 (.lst us)) c with
      | none =>
        have := cg3.n c o e z2
        rw [y2] at this
        cases this
      | some u2 =>
        by_cases hc : c = l2
        · subst hc
          rcases hl2 with z3 | z3
          · exact hne z3
          · rw [y1] at z3
            cases z3
        · rw [upd_ne hc] at z2
          cases z4 : h1.G c with
          | none =>
            rcases cg.n c u2 z2 z4 with z5 | z5
            · rw [y1] at z5
              cases z5
            · exact hne z5
          | some u4 =>
            have := g1.gn c u4 z4 z
            rw [y] at this
            cases this
end
end Sq

/-! Defs with defaults, called positionally. -/
namespace Sq
open PySem PySem.Spec PyProof.Rows L2
section
variable {P : Program} {w : World} {K : PySem.W.Frag} {mg : Str → Option Value} {base : Heap}
theorem fn_okD {cm : Str → Addr} {x qual : Str} {st : Stmt} {f : Addr} {fd : FuncData} {dvs : List V} {kws : List (Str × V)} {N ps : List Str} {k : Nat} {bf : SF} (F : FunD K x qual (defArgs st) (defBody st) (defScope st) dvs kws f fd) (S : FnScope N ps (defScope st)) (hps : ps.length ≤ N.length)
    (body : ∀ (cdv : Value) (A : Around) (outer : List PySem.Env) (s : Shared) (H : Hp) (E : XK), Room k (A.deeper (envOfC qual (defScope st) s.heap.objs.size f cdv)) →
      PSs (bodyCx P w K mg base N qual st f cdv A outer s H E) (defBody st) (tS K (WFx K cm fun cls d _ H => E cls d H) bf)) :
    FnOk P w K mg base (L2.CX P w) (k + 1) f fd ps (fsp K cm ps.length (fnR bf N.length)) := by
  refine F.ok S (fun vs H Q E h => h.1) fun cdv A outer s H vs Q E hr h => ⟨_, body cdv A outer s H E hr, ?_⟩
  obtain ⟨hl, G, as, c, ok, q⟩ := h
  have R := rel_start (N := N) c ok (by omega)
  refine ⟨⟨G, H, H⟩, _, rfl, R, ?_⟩
  unfold fnR at q
  cases e : bf (as ++ List.replicate (N.length - as.length) .u) with
  | bad => rw [e] at q; exact q.elim
  | brk _ => rw [e] at q; exact q.elim
  | cont _ => rw [e] at q; exact q.elim
  | next ρ' =>
    rw [e] at q
    exact fun σ' h' R' g' => q .non h'.G h'.H (cg_of R'.ch g') .non
  | ret r =>
    rw [e] at q
    intro v h' c' g' ok'
    refine q v h'.G h'.H (cg_of c' g') ?_
    cases r with
    | v d => exact ok'
    | b d => exact ex_dp c'.fh ok'
    | o xs =>
      obtain ⟨l, vs, ev, a, b, d⟩ := ok'
      exact ⟨l, vs, ev, g'.f.back b, a, c'.gf.back b, d⟩
    | ok xs =>
      obtain ⟨l, vs, ev, a, b, d⟩ := ok'
      exact ⟨l, vs, ev, g'.f.back b, a, c'.gf.back b, d⟩
    | p2 xs ys =>
      obtain ⟨t, l, m, vs, ws, ev, ht, ne, ⟨a, b, d⟩, ⟨a2, b2, d2⟩⟩ := ok'
      exact ⟨t, l, m, vs, ws, ev, ht, ne, ⟨g'.f.back b, a, c'.gf.back b, d⟩, ⟨g'.f.back b2, a2, c'.gf.back b2, d2⟩⟩
    | y xss =>
      obtain ⟨l, ms, ev, a, b, d⟩ := ok'
      exact ⟨l, ms, ev, g'.f.back b, a, c'.gf.back b, Paired.mapP d fun m xs ⟨vs, x, y, z⟩ => ⟨vs, c'.fh _ _ x, y, z⟩⟩
    | _ => exact ok'.elim
  | exc c p ρ' =>
    rw [e] at q
    cases p with
    | none => exact fun σ' h' R' g' => q h'.G h'.H (cg_of R'.ch g')
    | some p =>
      obtain ⟨ff, xx⟩ := p
      exact fun σ' h' R' g' d v hd hv => q h'.G h'.H d v (cg_of R'.ch g') hd hv
theorem binds_nil {fd : FuncData} {ps : List Str} (h : ∃ ds, Vals [] ds ∧ Binds K fd ps ds) : Binds K fd ps [] := by
  obtain ⟨ds, v, b⟩ := h
  cases v
  exact b
/-- one def with one default of the written part -/
theorem fund_mk {x qual : Str} {st : Stmt} {f T : Addr} {oc ocT : Value} {od odT an : Option Addr} {osl slT : Array (Option Value)} {kV doc pm cdv ct u : Value} {n : Nat} {v : V} (l : K.lookup f = some ⟨oc, od, .func (PySem.W.fnOf x qual (defArgs st) (defBody st) (defScope st) (.ref T) kV doc pm an cdv ct), osl⟩)
    (lT : K.lookup T = some ⟨ocT, odT, .seq #[u] n, slT⟩) (r : RelV v u) (c : PySem.W.codeIn K cdv qual = true) (k : PySem.W.keepIn K (.ref f) = true) : FunD K x qual (defArgs st) (defBody st) (defScope st) [v] [] f (PySem.W.fnOf x qual (defArgs st) (defBody st) (defScope st) (.ref T) kV doc pm an cdv ct) :=
  ⟨⟨oc, od, .ref T, kV, doc, pm, an, cdv, ct, osl, rfl, l, c, Or.inr ⟨(by intro z; cases z), ⟨T, _, [u], n, rfl, lT, rfl, .cons r .nil⟩⟩, Or.inl rfl⟩, k⟩
end
section
variable {X : Cx} {W : WF} {cm : Str → Addr}
def aDef (dd : List D) (r : AF) : AF := fun ρ => (r ρ).bind fun rs => .ok (rs ++ dd.map Rv.v)
@[simp] theorem aDef_e (dd : List D) (r : AF) (ρ : Env) : aDef dd r ρ = (r ρ).bind fun rs => .ok (rs ++ dd.map Rv.v) := (rfl)
theorem rvs_app {K : PySem.W.Frag} {h : Hs} : ∀ {vs : List V} {rs : List Rv} {ws : List V} {ss : List Rv}, RvsOk K h vs rs → RvsOk K h ws ss → RvsOk K h (vs ++ ws) (rs ++ ss)
  | [], [], _, _, _, b => b
  | _ :: _, _ :: _, _, _, ⟨a, as⟩, b => ⟨a, rvs_app as b⟩
theorem rvs_v {K : PySem.W.Frag} {h : Hs} : ∀ {ws : List V} {dd : List D}, DpAll K h.G ws dd → RvsOk K h ws (dd.map .v)
  | _, _, .nil => trivial
  | _, _, .cons a b => ⟨a, rvs_v b⟩
theorem xcallD {ds : List Value} {dvs : List V} {dd : List D} {k : Nat} {f : Addr} {fd : FuncData} {ps : List Str} {g : List Sl → Fr} {x : Str} {p pos : Pos} {e : Expr} {es : List Expr} {r : AF} (tk : Tk X cm W) (F : FnOk X.prog X.w X.K X.mg X.base (L2.CX X.prog X.w) k f fd ps (fsp X.K cm ps.length g)) (hr : Room k X.A) (hg : Gl X x) (hm : X.mg x = some (.ref f)) (hk : PySem.W.keepIn X.K (.ref f) = true) (hb : Binds X.K fd ps ds) (hd : Vals dvs ds) (hdd : ∀ G : Hp, DpAll X.K G dvs dd)
    (hlen : ps.length = (e :: es).length + dd.length) (ha : PA X (e :: es) (tXa X.K W r)) (hrl : ∀ ρ rs, r ρ = .ok rs → rs.length = (e :: es).length) (hdb : (x == ("__debug__" : Str)) = false := by decide) (he : starEach (e :: es) X.env = (false, eval e X.env) :: starEach es X.env := by rfl) (hpl : (backTo pos (starEach es X.env)).any (·.1) = false := by rfl) :
    PE X (.Call (.Name x p) (e :: es) [] pos) (tX X.K W (callF g (aDef dd r))) := by
  obtain ⟨Wx, tk, hW⟩ := tk
  refine peTo (pe_callSD F hr hg hm hk hb hd (E := WE Wx) (fun σ => passAt tk σ) ha hdb he hpl) fun σ H Q q => ?_
  obtain ⟨h, ρ, rfl, R, q⟩ := tX_iff.mp q
  have q : PE1 X.K W h ρ σ Q ((r ρ).bind fun rs => (g ((rs ++ dd.map Rv.v).map Rv.sl)).rv) := by
    unfold callF aDef at q
    cases er : r ρ with
    | ok rs => rw [er] at q; exact q
    | exc c p => rw [er] at q; exact q
    | bad => rw [er] at q; exact q
  refine ⟨h, ρ, rfl, R, PE1.bindA q fun rs vs h1 er R1 g1 ok1 q1 => ?_⟩
  have okk := rvs_app ok1 (rvs_v (hdd h1.G))
  have hdl : dvs.length = dd.length := (hdd h1.G).len
  refine ⟨by rw [List.length_append, ok1.len, hrl ρ rs er, hdl, hlen], h1.G, (rs ++ dd.map Rv.v).map Rv.sl, R1.ch.gh, args_of R1.ch okk, ?_⟩
  cases eg : g ((rs ++ dd.map Rv.v).map Rv.sl) with
  | bad => rw [eg] at q1; exact q1.elim
  | exc c p =>
    rw [eg] at q1
    cases p with
    | none =>
      intro G' H' cg
      obtain ⟨gr, ch⟩ := call_gr R1.ch cg
      exact hW _ _ _ _ (q1 (h1.call G' H') (R1.grow gr ch) gr)
    | some p =>
      obtain ⟨ff, xx⟩ := p
      intro G' H' d v cg hd hv
      obtain ⟨gr, ch⟩ := call_gr R1.ch cg
      exact hW _ _ _ _ (q1 (h1.call G' H') (R1.grow gr ch) gr) d v hd hv
  | ret res =>
    rw [eg] at q1
    intro v G' H' cg ok'
    obtain ⟨gr, ch⟩ := call_gr R1.ch cg
    have R2 := R1.grow gr ch
    cases res with
    | v d => exact q1 v (h1.call G' H') R2 gr ok'
    | b d => exact q1 v (h1.call G' H') R2 gr ok'
    | o xs =>
      obtain ⟨l, ws, ev, n, a, b, d⟩ := ok'
      refine q1 v (h1.call G' H') R2 gr ⟨l, ws, ev, n, a, ?_, d⟩
      show (match h1.F l with | some o => some o | none => G' l) = none
      rw [R1.ch.fh.back n]
      exact b
    | ok xs =>
      obtain ⟨l, ws, ev, n, a, b, d⟩ := ok'
      refine q1 v (h1.call G' H') R2 gr ⟨l, ws, ev, n, a, ?_, d⟩
      show (match h1.F l with | some o => some o | none => G' l) = none
      rw [R1.ch.fh.back n]
      exact b
    | p2 xs ys =>
      obtain ⟨t, l, m, vs', ws, ev, ht, ne, ⟨n, a, b, d⟩, ⟨n2, a2, b2, d2⟩⟩ := ok'
      refine q1 v (h1.call G' H') R2 gr ⟨t, l, m, vs', ws, ev, ht, ne, ⟨n, a, ?_, d⟩, ⟨n2, a2, ?_, d2⟩⟩
      · show (match h1.F l with | some o => some o | none => G' l) = none
        rw [R1.ch.fh.back n]
        exact b
      · show (match h1.F m with | some o => some o | none => G' m) = none
        rw [R1.ch.fh.back n2]
        exact b2
    | _ => exact q1.elim
end
end Sq

/-! x in a tuple, nested data. -/
namespace Sq
open PySem PySem.Spec PyProof.Rows L2
section
variable {X : Cx} {W : WF} {a b : Expr} {f g : EF} {pos : Pos}
def rInDT (K : PySem.W.Frag) : R2 := fun x y H Q => ∃ d ds, Dp K H x d ∧ Dp K H y (.tuple ds) ∧ SeqAt.shaped d = true ∧ SeqAt.shaped (.tuple ds) = true ∧ Q (.bl (ds.any fun z => PyData.eqv z d)) H
def rNotInDT (K : PySem.W.Frag) : R2 := fun x y H Q => ∃ d ds, Dp K H x d ∧ Dp K H y (.tuple ds) ∧ SeqAt.shaped d = true ∧ SeqAt.shaped (.tuple ds) = true ∧ Q (.bl (!ds.any fun z => PyData.eqv z d)) H
theorem op_inDT (hu : X.A.units + 65 < cLine) : OpR X (compareOp .In) (rInDT X.K) := by
  intro pins s σ H x y v u Q I rx ry h
  obtain ⟨d, ds, hd, he, sd, se, q⟩ := h
  obtain ⟨as, r1⟩ := L2.Dp.reads I d x v (hd.l2 (noOb_shaped sd)) rx
  obtain ⟨bs, r2⟩ := L2.Dp.reads I (.tuple ds) y u (he.l2 (noOb_shaped se)) ry
  exact SeqAt.in_tuple_reads r2 r1 (SeqAt.canLay_of_shaped se) (SeqAt.canLay_of_shaped sd) (room_in_shaped sd hu) ⟨.bl _, H, I, rfl, q⟩
theorem op_notInDT (hu : X.A.units + 65 < cLine) : OpR X (compareOp .NotIn) (rNotInDT X.K) := by
  intro pins s σ H x y v u Q I rx ry h
  obtain ⟨d, ds, hd, he, sd, se, q⟩ := h
  obtain ⟨as, r1⟩ := L2.Dp.reads I d x v (hd.l2 (noOb_shaped sd)) rx
  obtain ⟨bs, r2⟩ := L2.Dp.reads I (.tuple ds) y u (he.l2 (noOb_shaped se)) ry
  exact SeqAt.notIn_tuple_reads r2 r1 (SeqAt.canLay_of_shaped se) (SeqAt.canLay_of_shaped sd) (room_in_shaped sd hu) ⟨.bl _, H, I, rfl, q⟩
def inDeepT (n : Bool) (a b : Rv) : Er Rv := match a.dat, b.dat with
  | some x, some (.tuple ys) => if SeqAt.shaped x = true ∧ SeqAt.shaped (.tuple ys) = true then .ok (.v (.bool (if n then !(ys.any fun z => PyData.eqv z x) else ys.any fun z => PyData.eqv z x))) else .bad
  | _, _ => .bad
theorem ok_inDeepT {K : PySem.W.Frag} : OpOk K W (inDeepT false) (rInDT K) := by
  intro h0 h ρ σ x y a b Q R0 R g oka okb q
  unfold inDeepT at q
  split at q
  · rename_i d ys ea eb
    split at q
    · rename_i hc
      exact ⟨d, ys, oka.dp R.ch ea, okb.dp R.ch eb, hc.1, hc.2, q.now R (.bl _)⟩
    · exact q.elim
  · exact q.elim
theorem ok_notInDeepT {K : PySem.W.Frag} : OpOk K W (inDeepT true) (rNotInDT K) := by
  intro h0 h ρ σ x y a b Q R0 R g oka okb q
  unfold inDeepT at q
  split at q
  · rename_i d ys ea eb
    split at q
    · rename_i hc
      exact ⟨d, ys, oka.dp R.ch ea, okb.dp R.ch eb, hc.1, hc.2, q.now R (.bl _)⟩
    · exact q.elim
  · exact q.elim
def inB (n : Bool) : Rv → Rv → Er Rv := alt (inA n) (inDeepT n)
theorem xinB (hu : X.A.units + 80 < cLine) (ha : PE X a (tX X.K W f)) (hb : PE X b (tX X.K W g)) (hm : behindInMarks .In b = false := by first | exact nobehind _ (by decide) (by decide) | rfl) : PE X (.Compare a [.In] [b] pos) (tX X.K W (binF (inB false) f g)) :=
  xaltE (xinA hu ha hb hm) (xcmp (op_inDT (hu65 hu)) ok_inDeepT ha hb hm)
theorem xnotinB (hu : X.A.units + 80 < cLine) (ha : PE X a (tX X.K W f)) (hb : PE X b (tX X.K W g)) (hm : behindInMarks .NotIn b = false := by first | exact nobehind _ (by decide) (by decide) | rfl) : PE X (.Compare a [.NotIn] [b] pos) (tX X.K W (binF (inB true) f g)) :=
  xaltE (xnotinA hu ha hb hm) (xcmp (op_notInDT (hu65 hu)) ok_notInDeepT ha hb hm)
theorem xtinB (hu : X.A.units + 80 < cLine) (ha : PE X a (tX X.K W f)) (hb : PE X b (tX X.K W g)) (hm : behindInMarks .In b = false := by first | exact nobehind _ (by decide) (by decide) | rfl) : PT X (.Compare a [.In] [b] pos) (tXt X.K W (tstF (binF (inB false) f g))) :=
  xaltT (xtinA hu ha hb hm) (xtcmp (op_inDT (hu65 hu)) ok_inDeepT ha hb hm)
theorem xtnotinB (hu : X.A.units + 80 < cLine) (ha : PE X a (tX X.K W f)) (hb : PE X b (tX X.K W g)) (hm : behindInMarks .NotIn b = false := by first | exact nobehind _ (by decide) (by decide) | rfl) : PT X (.Compare a [.NotIn] [b] pos) (tXt X.K W (tstF (binF (inB true) f g))) :=
  xaltT (xtnotinA hu ha hb hm) (xtcmp (op_notInDT (hu65 hu)) ok_notInDeepT ha hb hm)
end
end Sq

/-! list.count of whole numbers; d.get(k, x). -/
namespace Sq
open PySem PySem.Spec PyProof.Rows L2
section
variable {K : PySem.W.Frag} {W : WF} {X : Cx} {f g k : EF}
def countF (f g : EF) : EF := fun ρ => (f ρ).bind fun a => match a.dat with
  | some (.list ys) => (match dInts ys with
    | some ns => (g ρ).bind fun b => (match b.dat with
      | some (.int j) => .ok (.v (.int (ns.count j : Nat)))
      | _ => .bad)
    | none => .bad)
  | _ => .bad
theorem xcount {s : Expr} (he : PE X s (tBM X.K "list" (rCntI X.K) (tX X.K W f) (tCons (tX X.K W g) tNil))) : PE X s (tX X.K W (countF f g)) := by
  refine peTo he fun σ H Q q => ?_
  obtain ⟨h, ρ, rfl, R, q⟩ := tX_iff.mp q
  refine (tX_mk (f := f) R (q.bind fun a x h1 ea R1 g1 ok1 q1 => ?_) : tX X.K W f σ h.H _)
  split at q1
  · rename_i xs exs
    obtain ⟨p1, vs, rfl, s1, d1⟩ := dp_lst (ok1.dp R1.ch exs)
    split at q1
    · rename_i ns ens
      refine ⟨.inl ⟨rfl, vs, s1⟩, ?_⟩
      refine (tX_mk (f := g) R1 (q1.bind fun b y h2 _ R2 g2 ok2 q2 => ?_) : tX X.K W g σ h1.H _)
      split at q2
      · rename_i j ej
        have hy := dp_int (ok2.dp R2.ch ej)
        subst hy
        have hv := dInts_v ens d1
        subst hv
        exact ⟨p1, ns, j, rfl, rfl, ex_l g2.x s1, q2.now R2 (.int _)⟩
      · exact q2.elim
    · exact q1.elim
  · exact q1.elim
def getF (f g k : EF) : EF := fun ρ => (f ρ).bind fun a => match a with
  | .wk kvs => (g ρ).bind fun b => (k ρ).bind fun c => (match b.dat.bind keyD, c with
    | some q, .v d0 => (match getK kvs q with
      | some d => .ok (.v d)
      | none => .ok (.v d0))
    | _, _ => .bad)
  | _ => .bad
theorem xgetD {a b c : Expr} {apos cpos : Pos} (hu : X.A.units + 1 < cLine) (ha : PE X a (tX X.K W f)) (hb : PE X b (tX X.K W g)) (hc : PE X c (tX X.K W k)) (m : M2 X a "get" apos b c cpos := by exact ⟨rfl, rfl, rfl, rfl⟩) : PE X (.Call (.Attribute a "get" apos) [b, c] [] cpos) (tX X.K W (getF f g k)) := by
  refine peTo (pe_dget2 hu ha hb hc m) fun σ H Q q => ?_
  obtain ⟨h, ρ, rfl, R, q⟩ := tX_iff.mp q
  refine (tX_mk (f := f) R (q.bind fun a x h1 ea R1 g1 ok1 q1 => ?_) : tX X.K W f σ h.H _)
  split at q1
  · rename_i kvs
    obtain ⟨l, vs, ex, hl, kd⟩ := id ok1
    subst ex
    refine ⟨l, rfl, .inl ⟨vs, .inl hl⟩, ?_⟩
    refine (tX_mk (f := g) R1 (q1.bind fun b y h2 _ R2 g2 ok2 q2 => ?_) : tX X.K W g σ h1.H _)
    refine (tX_mk (f := k) R2 (q2.bind fun c z h3 _ R3 g3 ok3 q3 => ?_) : tX X.K W k σ h2.H _)
    split at q3
    · rename_i kk d0 ek _
      obtain ⟨p, o, ep, dg, ho⟩ := dget_ok R3.ch ek (ok2.grow g3) ((ok1.grow g2).grow g3)
      cases ep
      refine ⟨o, dg, ?_⟩
      rcases ho with ⟨v, d, e1, e2, e3⟩ | ⟨e1, e2⟩
      · rw [e2] at q3
        subst e1
        exact q3.now R3 e3
      · rw [e2] at q3
        subst e1
        exact q3.now R3 ok3
    · exact q3.elim
  · exact q1.elim
end
end Sq

/-! len(set(xs)) of whole numbers that are unlike one another. -/
namespace Sq
open PySem PySem.Spec PyProof.Rows L2 RZ
section
variable {K : PySem.W.Frag} {W : WF} {X : Cx} {f : EF}
def lenSetF (f : EF) : EF := fun ρ => (f ρ).bind fun a => match a.dat with
  | some (.list ys) => (match dInts ys with
    | some ns => if ns.Nodup ∧ ns.length ≤ 4000 then .ok (.v (.int (ns.length : Nat))) else .bad
    | none => .bad)
  | _ => .bad
theorem xlenSet {a : Expr} {p p2 q pos : Pos} (hg : Gl X "len") (hm : X.mg "len" = none) (hg2 : Gl X "set") (hm2 : X.mg "set" = none) (ha : PE X a (tX X.K W f)) (hc : X.calm = true := by rfl)
    (na : starEach [a] X.env = (false, eval a X.env) :: starEach [] X.env := by rfl) : PE X (.Call (.Name "len" p) [.Call (.Name "set" p2) [a] [] q] [] pos) (tX X.K W (lenSetF f)) := by
  refine peTo (pe_lenSetI hg hm hg2 hm2 ha hc na) fun σ H Q q => ?_
  obtain ⟨h, ρ, rfl, R, q⟩ := tX_iff.mp q
  refine (tX_mk (f := f) R (q.bind fun a x h1 ea R1 g1 ok1 q1 => ?_) : tX X.K W f σ h.H _)
  split at q1
  · rename_i xs exs
    obtain ⟨p1, vs, rfl, s1, d1⟩ := dp_lst (ok1.dp R1.ch exs)
    split at q1
    · rename_i ns ens
      split at q1
      · rename_i hn
        have ev := dInts_v ens d1
        subst ev
        exact ⟨p1, ns, rfl, s1, hn.1, hn.2, q1.now R1 (.int _)⟩
      · exact q1.elim
    · exact q1.elim
  · exact q1.elim
/-! sorted(xs), xs nested data that is lent -/
variable {a : Expr} {p pos : Pos}
def sortBR (a : Rv) : Er Rv := match a with
  | .b (.list ds) => if alikeB ds = true ∧ PyData.depthAll ds ≤ 60 ∧ (listsB ds || tupsB ds) = true then .ok (.b (.list (sortD ds))) else .bad
  | _ => .bad
theorem xsortedBR (hu : X.A.units + 80 < cLine) (hg : Gl X "sorted") (hm : X.mg "sorted" = none) (ha : PE X a (tX X.K W f)) (hs : starEach [a] X.env = (false, eval a X.env) :: starEach [] X.env := by rfl) : PE X (.Call (.Name "sorted" p) [a] [] pos) (tX X.K W (unF sortBR f)) := by
  refine peTo (pe_callB (cr_sortDt hu) hg hm boot_sorted (pa_cons ha pa_nil hs) (he := hs)) (c1_of fun h0 h ρ σ x a Q R0 R g ok q => ?_)
  unfold sortBR at q
  split at q
  · rename_i ds
    split at q
    · rename_i hc2
      obtain ⟨hc2, hc3, hc4⟩ := hc2
      obtain ⟨l, vs, rfl, s, da⟩ := dp_lst (show Dp X.K h.F x (.list ds) from ok)
      have hal := alikeB_all hc2
      refine ⟨l, vs, ds, rfl, ex_l R.ch.fh s, ex_dpa R.ch.fh da, fun x hx y hy => hal.1 x hx y hy, ?_, hc3, fun p hp => ?_⟩
      · rw [Bool.or_eq_true] at hc4
        rcases hc4 with z | z
        · exact sortable_lists z
        · exact sortable_tups z
      · obtain ⟨z1, z2, z3⟩ := dpa_zip da
        have e2 : sortD ds = ((vs.zip ds).mergeSort (PySem.W.dataLe false fun z : VD => z.2)).map (·.2) := by
          unfold sortD
          conv => lhs; rw [← z3]
          exact (List.map_mergeSort (f := fun z : VD => z.2) fun a _ b _ => rfl).symm
        refine PE1.newLB (xs := sortD ds) q R ?_ hp
        rw [e2]
        exact dpa_pairs fun z hz => z1 z ((List.mergeSort_perm _ _).mem_iff.mp hz)
    · exact q.elim
  · exact q.elim
def sortLn : Rv → Er Rv := alt1 sortA sortBR
theorem xsortedLn (hu : X.A.units + 80 < cLine) (hg : Gl X "sorted") (hm : X.mg "sorted" = none) (ha : PE X a (tX X.K W f)) (hs : starEach [a] X.env = (false, eval a X.env) :: starEach [] X.env := by rfl) : PE X (.Call (.Name "sorted" p) [a] [] pos) (tX X.K W (unF sortLn f)) :=
  xalt1 (xsortedA hu hg hm ha hs) (xsortedBR hu hg hm ha hs)
/-! s.index(t) of texts -/
variable {b : Expr} {g : EF}
def sindexR (s : Str) (b : Rv) : Er Rv := match b.dat with
  | some (.str t) => (match Builtin.Str.occurrences s t 0 s.length 1 with
    | i :: _ => .ok (.v (.int (i : Nat)))
    | [] => .bad)
  | _ => .bad
theorem xsindex {apos : Pos} (ha : PE X a (tX X.K W f)) (hb : PE X b (tX X.K W g)) (hs : starEach [b] X.env = [(false, eval b X.env)] := by rfl) (hbase : attributeBase a "index" X.env (eval a X.env) = eval a X.env := by rfl) (hline : (apos.endLine == pos.line) = true := by rfl) :
    PE X (.Call (.Attribute a "index" apos) [b] [] pos) (tX X.K W (strM sindexR f g)) := peTo (pe_m1 F.slot_str_index F.type_str_index mt_sindex ha hb hs hbase hline) (strM_of fun h0 h ρ σ s y b Q R0 R g ok q => by
  unfold sindexR at q
  split at q
  · rename_i t et
    have e1 := dp_str (ok.dp R.ch et)
    subst e1
    split at q
    · rename_i i rest ei
      exact ⟨s, t, i, rest, rfl, rfl, ei, q.now R (.int _)⟩
    · exact q.elim
  · exact q.elim)
end
@[simp] theorem lenSetF_e (f : EF) (ρ : Env) : lenSetF f ρ = (f ρ).bind fun a => match a.dat with
  | some (.list ys) => (match dInts ys with
    | some ns => if ns.Nodup ∧ ns.length ≤ 4000 then .ok (.v (.int (ns.length : Nat))) else .bad
    | none => .bad)
  | _ => .bad := (rfl)
end Sq

/-! if d.setdefault(k, x) != y: .. (whole numbers). -/
namespace Sq
open PySem PySem.Spec PyProof.Rows L2
section
variable {K : PySem.W.Frag} {W : WF} {X : Cx}
def neIf (g : EF) (s : SF) (x : Int) : SF := fun ρ => thenS ρ (g ρ) fun c => match c.dat with
  | some (.int z) => if x = z then .next ρ else s ρ
  | _ => .bad
def setdIf (j : Nat) (kf df g : EF) (s : SF) : SF := fun ρ => match slot ρ j with
  | .k kvs => thenS ρ (kf ρ) fun a => thenS ρ (df ρ) fun b => match a.dat.bind keyD, b with
    | some q, .v (.int x) => if kvs.length < 100000 then (match getK kvs q with
      | some (.int y) => neIf g s y ρ
      | none => neIf g s x (ρ.set j (.k (setK kvs q (.int x))))
      | _ => .bad) else .bad
    | _, _ => .bad
  | _ => .bad
theorem ne_if {g : EF} {s : SF} {x : Int} {ρ : Env} {σ : L2.St} {D : Ends} {h : Hs} (R : Rel K h ρ σ) (q : Post K W D h (neIf g s x ρ)) :
    tX K W g σ h.H fun y H2 => rNeD K (.int x) y H2 fun z H3 => ∃ k, z = .bl k ∧ if k = true then tS K W s D σ H3 else tS K W skipS D σ H3 := by
  unfold neIf at q
  refine tX_mk R (q.then fun c y h1 _ R1 g1 ok1 q1 => ?_)
  split at q1
  · rename_i z ez
    have ey := dp_int (ok1.dp R1.ch ez)
    subst ey
    refine ⟨.int x, .int z, .int _, .int _, rfl, rfl, _, rfl, ?_⟩
    split at q1
    · rename_i hxz
      subst hxz
      have e : (!PyData.eqv (.int x) (.int x)) = false := by simp [PyData.eqv]
      rw [e]
      rw [if_neg (by decide)]
      exact tS_mk R1 (Post.shift g1.sg q1)
    · rename_i hxz
      have e : (!PyData.eqv (.int x) (.int z)) = true := by simp [PyData.eqv, hxz]
      rw [e, if_pos rfl]
      exact tS_mk R1 (Post.shift g1.sg q1)
  · exact q1.elim
theorem xsetd (j : Nat) {o ke de ge : Expr} {kf df g : EF} {s : SF} {apos cpos mpos pos : Pos} {body : List Stmt} (hu : X.A.units + 64 < cLine) (ho : PE X o (tVar j)) (hk : PE X ke (tX X.K W kf)) (hd : PE X de (tX X.K W df)) (hg : PE X ge (tX X.K W g)) (hb : PSs X body (tS X.K W s))
    (m : M2 X o "setdefault" apos ke de cpos := by exact ⟨rfl, rfl, rfl, rfl⟩) (hm : behindInMarks .NotEq ge = false := by exact nomark _) : PS X (.If (.Compare (.Call (.Attribute o "setdefault" apos) [ke, de] [] cpos) [.NotEq] [ge] mpos) body [] pos) (tS X.K W (setdIf j kf df g s)) := by
  refine psTo (ps_if (pt_cmpR (op_neD hu) (pe_dsetd ho hk hd m) hg hm) hb (xssnil (W := W))) fun D σ H ⟨h, ρ, eh, R, q⟩ => ?_
  subst eh
  unfold setdIf at q
  split at q
  · rename_i kvs es
    have ei := slot_some es (by intro z; cases z)
    obtain ⟨x', ex, l, vs, rfl, hl, fl, hkv⟩ := R.get ei
    refine ⟨.ref l, ex, l, rfl, .inl ⟨vs, .inl hl⟩, ?_⟩
    refine (tX_mk (f := kf) R (q.then fun a y h1 _ R1 g1 ok1 q1 => ?_) : tX X.K W kf σ h.H _)
    refine (tX_mk (f := df) R1 ((Post.shift g1.sg q1).then fun b z h2 _ R2 g2 ok2 q2 => ?_) : tX X.K W df σ h1.H _)
    split at q2
    · rename_i kk xx ek _
      split at q2
      · rename_i hlt
        obtain ⟨x2, ex2, l2, vs2, rfl, hl2, fl2, hd2⟩ := R2.get ei
        rw [ex] at ex2
        cases ex2
        obtain ⟨dk, e1, e2⟩ := Option.bind_eq_some_iff.mp ek
        have ev := keyD_v e2 ((ok1.grow g2).dp R2.ch e1)
        have ez := dp_int (show Dp X.K h2.G z (.int xx) from ok2)
        subst ev
        subst ez
        refine ⟨vs2, kk, hl2, rfl, by rw [hd2.len]; exact Nat.lt_of_lt_of_le hlt (by decide), fun v hv => ?_, fun hn => ?_⟩
        · rcases hd2.get kk with ⟨v2, d, e3, e4, e5⟩ | ⟨e3, e4⟩
          · rw [e3] at hv
            cases hv
            rw [e4] at q2
            split at q2
            · rename_i yy eyy
              cases eyy
              have ey := dp_int e5
              subst ey
              exact ne_if R2 (Post.shift g2.sg q2)
            · rename_i hc
              cases hc
            · exact q2.elim
          · rw [e3] at hv
            cases hv
        · rcases hd2.get kk with ⟨v2, d, e3, e4, e5⟩ | ⟨e3, e4⟩
          · rw [e3] at hn
            cases hn
          · rw [e4] at q2
            obtain ⟨R4, g4⟩ := R2.mut (s' := .k (setK kvs kk (.int xx))) (o := .dK (putK vs2 kk (.int xx))) ei rfl rfl ex ⟨l, _, rfl, upd_same, fl2, hd2.set kk ok2⟩
            exact ne_if R4 (Post.shift (g2.sg.trans g4) q2)
      · exact q2.elim
    · exact q2.elim
  · exact q.elim
end
@[simp] theorem neIf_e (g : EF) (s : SF) (x : Int) (ρ : Env) : neIf g s x ρ = thenS ρ (g ρ) fun c => match c.dat with
  | some (.int z) => if x = z then .next ρ else s ρ
  | _ => .bad := (rfl)
end Sq

/-! for x, y in ((xs, a), (ys, b)): .. x.append(e) ..: the target is one of two own lists. -/
namespace Sq
open PySem PySem.Spec PyProof.Rows L2
/-- some slots stand as they stood -/
def Kp (js : List Nat) (σ0 σ : L2.St) : Prop := ∀ j ∈ js, σ[j]? = σ0[j]?
theorem Kp.set {js : List Nat} {σ0 σ : L2.St} (k : Kp js σ0 σ) {i : Nat} (hi : js.contains i = false) (v : Option V) : Kp js σ0 (σ.set i v) := fun j hj => by
  have ne : i ≠ j := fun e => by
    subst e
    rw [List.contains_iff_mem.mpr hj] at hi
    cases hi
  rw [List.getElem?_set_ne ne]
  exact k j hj
theorem Kp.fp {js fp : List Nat} {σ0 σ σ' : L2.St} (k : Kp js σ0 σ) (hi : js.all (fun j => !fp.contains j) = true) (f : Fp fp σ σ') : Kp js σ0 σ' := fun j hj => by
  have h := List.all_eq_true.mp hi j hj
  have hn : j ∉ fp := fun e => by
    rw [List.contains_iff_mem.mpr e] at h
    cases h
  rw [f.2 j hn]
  exact k j hj
def PostA (js : List Nat) (σ0 : L2.St) (K : PySem.W.Frag) (W : WF) (D : Ends) (h : Hs) : Res → Prop
  | .next ρ' => ∀ σ' h', Rel K h' ρ' σ' → Kp js σ0 σ' → SG h h' → D.nx σ' h'.H
  | .brk ρ' => ∀ σ' h', Rel K h' ρ' σ' → Kp js σ0 σ' → SG h h' → D.bk σ' h'.H
  | .cont ρ' => ∀ σ' h', Rel K h' ρ' σ' → Kp js σ0 σ' → SG h h' → D.ct σ' h'.H
  | .exc c p ρ' => ∀ σ' h', Rel K h' ρ' σ' → SG h h' → W c p σ' h'
  | _ => False
def tSA (js : List Nat) (σ0 : L2.St) (K : PySem.W.Frag) (W : WF) (f : SF) : TS := fun D σ H => ∃ h ρ, h.H = H ∧ Rel K h ρ σ ∧ Kp js σ0 σ ∧ PostA js σ0 K W D h (f ρ)
section
variable {js : List Nat} {σ0 : L2.St} {K : PySem.W.Frag} {W : WF} {X : Cx} {D : Ends} {h h1 : Hs} {ρ : Env} {σ : L2.St}
theorem PostA.shift (g : SG h h1) : ∀ {r : Res}, PostA js σ0 K W D h r → PostA js σ0 K W D h1 r
  | .next _, q => fun σ' h' R k g' => q σ' h' R k (g.trans g')
  | .exc _ _ _, q => fun σ' h' R g' => q σ' h' R (g.trans g')
  | .brk _, q => fun σ' h' R k g' => q σ' h' R k (g.trans g')
  | .cont _, q => fun σ' h' R k g' => q σ' h' R k (g.trans g')
  | .ret _, q => q.elim
  | .bad, q => q.elim
theorem tSA_mk {f : SF} (R : Rel K h ρ σ) (k : Kp js σ0 σ) (q : PostA js σ0 K W D h (f ρ)) : tSA js σ0 K W f D σ h.H := ⟨h, ρ, rfl, R, k, q⟩
theorem PostA.then {e : Er Rv} {k : Rv → Res} (q : PostA js σ0 K W D h (thenS ρ e k)) {Q : VK} (hk : ∀ r v h', e = .ok r → Rel K h' ρ σ → Gr h h' → RvOk K h.H h' v r → PostA js σ0 K W D h (k r) → Q v h'.H) : PE1 K W h ρ σ Q e := by
  cases e with
  | ok r => exact fun v h' R g ok => hk r v h' rfl R g ok q
  | exc c p => exact fun h' R g => q σ h' R g.sg
  | bad => exact q.elim
theorem xssconsA {st : Stmt} {rest : List Stmt} {f g : SF} (h1 : PS X st (tSA js σ0 X.K W f)) (h2 : PSs X rest (tSA js σ0 X.K W g)) : PSs X (st :: rest) (tSA js σ0 X.K W (seqS f g)) := by
  refine pssTo (pss_cons h1 h2) fun D σ H ⟨h, ρ, e, R, kp, q⟩ => ?_
  subst e
  refine tSA_mk R kp ?_
  unfold seqS at q
  cases ef : f ρ with
  | next ρ' =>
    rw [ef] at q
    exact fun σ' h' R' k' g' => tSA_mk R' k' (PostA.shift g' q)
  | ret r => rw [ef] at q; exact q
  | brk ρ' => rw [ef] at q; exact q
  | cont ρ' => rw [ef] at q; exact q
  | exc c p ρ' => rw [ef] at q; exact q
  | bad => rw [ef] at q; exact q
theorem xssoneA {st : Stmt} {f : SF} (h1 : PS X st (tSA js σ0 X.K W f)) : PSs X [st] (tSA js σ0 X.K W f) := pss_one h1
/-- x = e -/
theorem xsetA {i : Nat} {x : Str} {e : Expr} {f : EF} {pos pos' : Pos} (hN : X.N.Nodup) (hj : js.contains i = false) (he : PE X e (tX X.K W f)) (hi : X.N[i]? = some x := by rfl) (hx : Loc X.env.scope x := by first | exact Or.inl rfl | exact Or.inr rfl) (hs : swapsWith e (some (.Name x pos')) pos.line X.env = pure false := by rfl)
    (hf : X.fn x = true ∨ X.env.scope.names.lookup x = some .local := by first | exact .inl rfl | exact .inr rfl | assumption) : PS X (.Assign [.Name x pos'] e pos) (tSA js σ0 X.K W (asgS f (asgn i))) :=
  psTo (ps_set hN hi hx he hs hf) fun D σ H ⟨h, ρ, e, R, kp, q⟩ => by
    subst e
    refine tX_mk R (q.then fun r v h' _ R' g' ok q' => ?_)
    cases e1 : asgn i r ρ with
    | bad => rw [e1] at q'; exact q'.elim
    | exc c p => exact absurd e1 (asgn_ne _ _ _ _)
    | ok ρ' =>
      rw [e1] at q'
      exact q' _ h' (asgn_ok R R' ok e1) (kp.set hj _) g'.sg
/-- the target's list is the owner's -/
theorem xappA (l i : Nat) {e o : Expr} {f : EF} {pos apos spos : Pos} (h0 : σ0[l]? = σ0[i]?) (hl : js.contains l = true) (hi : js.contains i = true) (he : PE X (.Call (.Attribute o "append" apos) [e] [] pos) (tBM X.K "list" rAppend (tVar l) (tCons (tX X.K W f) tNil))) (hs : swapsWith (.Call (.Attribute o "append" apos) [e] [] pos) none spos.line X.env = pure false := by rfl) :
    PS X (.Expr (.Call (.Attribute o "append" apos) [e] [] pos) spos) (tSA js σ0 X.K W (appS i f)) := by
  refine psTo (ps_expr he hs) fun D σ H ⟨h, ρ, eh, R, kp, q⟩ => ?_
  subst eh
  have hal : σ[l]? = σ[i]? := by rw [kp l (List.contains_iff_mem.mp hl), h0, kp i (List.contains_iff_mem.mp hi)]
  unfold appS at q
  split at q
  · rename_i xs es
    obtain ⟨a, vs, ex, hl, hd, hlen, _⟩ := mut_now R es
    refine ⟨.ref a, hal.trans ex, .inl ⟨rfl, vs, .of hl⟩, ?_⟩
    refine (tX_mk (f := f) R (q.then fun r v h' _ R' g' ok q' => ?_) : tX X.K W f σ h.H _)
    cases ek : r.keep with
    | bad => rw [ek] at q'; exact q'.elim
    | exc c p => exact absurd ek keep_ne
    | ok d =>
      rw [ek] at q'
      dsimp only at q'
      split at q'
      · obtain ⟨h2, eh2, R2, g2, dv⟩ := keep_ok R R' g' ek ok
        obtain ⟨a2, vs2, ex2, hl2, hd2, hlen2, mt⟩ := mut_now R2 es
        rw [ex] at ex2
        cases ex2
        obtain ⟨R3, g3⟩ := mt (vs2 ++ [v]) (xs ++ [d]) (hd2.snoc dv)
        rw [← eh2]
        exact ⟨a, vs2, v, rfl, rfl, hl2, by rw [hlen2]; exact Nat.lt_of_lt_of_le (by assumption) (by decide), q' σ _ R3 kp (g2.sg.trans g3)⟩
      · exact q'.elim
  · exact q.elim
/-- a loop within -/
theorem xforA {iter tg : Expr} {body : List Stmt} {it : IF} {φ : TF} {fp : List Nat} {f : SF} {pos : Pos} (hp : PassesOwn (model X.prog X.w) X.A X.env X.xe) (hc : X.calm = true) (hfp : js.all (fun j => !fp.contains j) = true) (hi : PI X tg iter (tI SG X.K W it)) (hg : PG X tg (tG X.K fp φ)) (hb : PSs X body (tSA js σ0 X.K W f))
    (hs : ∀ x, foldedSetIterable iter X.env x = pure x := by intro _; rfl) : PS X (.For tg iter body [] pos) (tSA js σ0 X.K W (forS it φ f)) := psTo (ps_for hp hc hi hg hb hs) fun D σ H ⟨h, ρ, e, R, kp, q⟩ => by
  subst e
  refine ⟨h, ρ, rfl, R, ?_⟩
  unfold forS at q
  cases ei : it ρ with
  | bad => rw [ei] at q; exact q
  | exc c p =>
    rw [ei] at q
    exact fun h' R' g' => q σ h' R' g'.sg
  | ok rs =>
    rw [ei] at q
    have q : PostA js σ0 X.K W D h (forL φ f rs ρ) := q
    intro J h1 R1 g1 iok
    refine ⟨fun i m σ' H' => m = rs.length - i ∧ i ≤ rs.length ∧ ∃ h' ρ', h'.H = H' ∧ Rel X.K h' ρ' σ' ∧ Kp js σ0 σ' ∧ SG h1 h' ∧ PostA js σ0 X.K W D h' (forL φ f (rs.drop i) ρ'), ⟨rs.length, by omega, Nat.zero_le _, h1, ρ, rfl, R1, kp, SG.refl _, PostA.shift g1.sg q⟩, ?_⟩
    rintro i m σ' H' ⟨em, hi, h2, ρ2, rfl, R2, k2, g2, q2⟩
    by_cases hlt : i < rs.length
    · refine .inr ⟨iok.go i h2 g2 R2.ch hlt, fun σ3 H3 => ∃ h' ρ', h'.H = H3 ∧ Rel X.K h' ρ' σ3 ∧ Kp js σ0 σ3 ∧ SG h1 h' ∧ PostA js σ0 X.K W D h' (forL φ f (rs.drop (i + 1)) ρ'), fun σ3 H3 n => ⟨_, by omega, rfl, hlt, n⟩, fun x H3 y => ?_⟩
      obtain ⟨h3, r, rfl, g3, c3, er, okr⟩ := iok.yld i h2 x H3 g2 R2.ch hlt y
      have edrop : rs.drop i = r :: rs.drop (i + 1) := by
        obtain ⟨hh, e2⟩ := List.getElem?_eq_some_iff.mp er
        rw [List.drop_eq_getElem_cons hh, e2]
      rw [edrop] at q2
      unfold forL at q2
      have R3 : Rel X.K h3 ρ2 σ' := R2.grow g3 c3
      cases e1 : φ r ρ2 with
      | bad => rw [e1] at q2; exact q2.elim
      | exc c p => rw [e1] at q2; exact q2.elim
      | ok ρ4 =>
        rw [e1] at q2
        dsimp only at q2
        refine ⟨h3, h3, ρ2, r, ρ4, rfl, R3, R3, okr.rv, e1, fun σ4 R4 f4 => ⟨h3, ρ4, rfl, R4, k2.fp hfp f4, ?_⟩⟩
        have q3 := PostA.shift g3.sg q2
        cases ef : f ρ4 with
        | next ρ5 =>
          rw [ef] at q3
          exact fun σ5 h5 R5 k5 g5 => ⟨h5, ρ5, rfl, R5, k5, (g2.trans g3.sg).trans g5, PostA.shift g5 q3⟩
        | cont ρ5 =>
          rw [ef] at q3
          exact fun σ5 h5 R5 k5 g5 => ⟨h5, ρ5, rfl, R5, k5, (g2.trans g3.sg).trans g5, PostA.shift g5 q3⟩
        | brk ρ5 =>
          rw [ef] at q3
          exact fun σ5 h5 R5 k5 g5 => q3 σ5 h5 R5 k5 g5
        | ret r =>
          rw [ef] at q3
          exact q3
        | exc c p ρ5 =>
          rw [ef] at q3
          exact q3
        | bad =>
          rw [ef] at q3
          exact q3
    · have hi' : i = rs.length := by omega
      subst hi'
      rw [List.drop_length] at q2
      exact .inl ⟨iok.stop _ h2 g2 R2.ch (Nat.le_refl _), q2 σ' h2 R2 k2 (SG.refl _)⟩
def for2S (l u r1 r2 : Nat) (f1 f2 : EF) (s1 s2 : SF) : SF := fun ρ => match slot ρ r1, slot ρ r2, ρ[l]? with
  | .o _, .o _, some _ => thenS ρ (f1 ρ) fun a => thenS ρ (f2 ρ) fun b => match a, b with
    | .v da, .v db => (match s1 ((ρ.set l .u).set u (.v da)) with
      | .next ρ1 => (match s2 ((ρ1.set l .u).set u (.v db)) with
        | .next ρ2 => .next ρ2
        | .exc c p ρ2 => .exc c p ρ2
        | _ => .bad)
      | .exc c p ρ1 => .exc c p ρ1
      | _ => .bad)
    | _, _ => .bad
  | _, _, _ => .bad
theorem sqt_F {K : PySem.W.Frag} {h h' : Hs} {t : Addr} {xs : List V} (e : h.F t = some (.tup xs)) (g : SG h h') (c : Ch h') : SqT K h'.H t xs := .of (c.fh _ _ (g.f _ _ e))
theorem sqt_uniq {K : PySem.W.Frag} {H : Hp} {t : Addr} {xs ys : List V} (e : H t = some (.tup xs)) (h : ∀ zs, SqT K H t zs → zs[0]? = ys[0]? ∧ zs[1]? = ys[1]?) : xs[0]? = ys[0]? ∧ xs[1]? = ys[1]? := h xs (.of e)
theorem xfor2 (l u r1 r2 : Nat) {iter tg : Expr} {body : List Stmt} {f1 f2 : EF} {s1 s2 : SF} {pos : Pos} (hp : PassesOwn (model X.prog X.w) X.A X.env X.xe) (hc : X.calm = true)
    (hl : PE X iter (tTup (tCons (tTup (tCons (tVar r1) (tCons (tX X.K W f1) tNil))) (tCons (tTup (tCons (tVar r2) (tCons (tX X.K W f2) tNil))) tNil)))) (hg : PG X tg (gTup X.K 2 (gCons (gName l) (gCons (gName u) gNil))))
    (n1 : l ≠ u ∧ r1 ≠ l ∧ r1 ≠ u ∧ r2 ≠ l ∧ r2 ≠ u) 
    (b1 : ∀ σ0 : L2.St, σ0[l]? = σ0[r1]? → PSs X body (tSA [l, r1, r2] σ0 X.K W s1)) (b2 : ∀ σ0 : L2.St, σ0[l]? = σ0[r2]? → PSs X body (tSA [l, r1, r2] σ0 X.K W s2))
    (hs : ∀ x, foldedSetIterable iter X.env x = pure x := by intro _; rfl) : PS X (.For tg iter body [] pos) (tS X.K W (for2S l u r1 r2 f1 f2 s1 s2)) := by
  have hb : PSs X body (fun D σ H => (∃ σ0 : L2.St, σ0[l]? = σ0[r1]? ∧ tSA [l, r1, r2] σ0 X.K W s1 D σ H) ∨ (∃ σ0 : L2.St, σ0[l]? = σ0[r2]? ∧ tSA [l, r1, r2] σ0 X.K W s2 D σ H)) :=
    ⟨fun pins s σ H D I hw => hw.elim (fun ⟨σ0, h0, q⟩ => (b1 σ0 h0).run pins s σ H D I q) (fun ⟨σ0, h0, q⟩ => (b2 σ0 h0).run pins s σ H D I q)⟩
  refine psTo (ps_for hp hc (pi_seq hl) hg hb hs) fun D σ H ⟨h, ρ, eh, R, q⟩ => ?_
  subst eh
  unfold for2S at q
  split at q
  · rename_i xs1 xs2 sl0 es1 es2 esl
    obtain ⟨l1, vs1, ex1, hl1, hd1, hlen1, _⟩ := mut_now R es1
    obtain ⟨l2, vs2, ex2, hl2, hd2, hlen2, _⟩ := mut_now R es2
    refine ⟨.ref l1, ex1, ?_⟩
    refine (tX_mk (f := f1) R (q.then fun a va h1 _ R1 g1 ok1 q1 => ?_) : tX X.K W f1 σ h.H _)
    refine ⟨by show 2 ≤ sizeLine; decide, fun t1 m1 => ?_⟩
    have G1 : Gr h1 (h1.newB t1 (.tup [.ref l1, va])) := Gr.newB R1.ch m1
    refine ⟨.ref l2, ex2, ?_⟩
    refine (tX_mk (f := f2) (R1.newB m1) ((Post.shift (g1.sg.trans G1.sg) q1).then fun b vb h2 _ R2 g2 ok2 q2 => ?_) : tX X.K W f2 σ (h1.newB t1 (.tup [.ref l1, va])).H _)
    refine ⟨by show 2 ≤ sizeLine; decide, fun t2 m2 => ?_⟩
    have G2 : Gr h2 (h2.newB t2 (.tup [.ref l2, vb])) := Gr.newB R2.ch m2
    refine ⟨by show 2 ≤ sizeLine; decide, fun t3 m3 => ?_⟩
    have R2' : Rel X.K (h2.newB t2 (.tup [.ref l2, vb])) ρ σ := R2.newB m2
    have G3 : Gr (h2.newB t2 (.tup [.ref l2, vb])) ((h2.newB t2 (.tup [.ref l2, vb])).newB t3 (.tup [.ref t1, .ref t2])) := Gr.newB R2'.ch m3
    have R3 : Rel X.K ((h2.newB t2 (.tup [.ref l2, vb])).newB t3 (.tup [.ref t1, .ref t2])) ρ σ := R2'.newB m3
    have F1 : ((h2.newB t2 (.tup [.ref l2, vb])).newB t3 (.tup [.ref t1, .ref t2])).F t1 = some (.tup [.ref l1, va]) := (G2.trans G3).sg.f _ _ (g2.sg.f _ _ upd_same)
    have F2 : ((h2.newB t2 (.tup [.ref l2, vb])).newB t3 (.tup [.ref t1, .ref t2])).F t2 = some (.tup [.ref l2, vb]) := G3.sg.f _ _ upd_same
    have F3 : ((h2.newB t2 (.tup [.ref l2, vb])).newB t3 (.tup [.ref t1, .ref t2])).F t3 = some (.tup [.ref t1, .ref t2]) := upd_same
    split at q2
    · rename_i da db _ _
      have da1 : Dp X.K ((h2.newB t2 (.tup [.ref l2, vb])).newB t3 (.tup [.ref t1, .ref t2])).G va da := ex_dp ((g2.trans (G2.trans G3)).g) (show Dp X.K h1.G va da from ok1)
      have db1 : Dp X.K ((h2.newB t2 (.tup [.ref l2, vb])).newB t3 (.tup [.ref t1, .ref t2])).G vb db := ex_dp ((G2.trans G3).g) (show Dp X.K h2.G vb db from ok2)
      replace q2 := Post.shift ((g2.sg.trans G2.sg).trans G3.sg) q2
      rw [show upd (upd h2.H t2 (.tup [.ref l2, vb])) t3 (.tup [.ref t1, .ref t2]) = ((h2.newB t2 (.tup [.ref l2, vb])).newB t3 (.tup [.ref t1, .ref t2])).H from rfl]
      generalize (h2.newB t2 (.tup [.ref l2, vb])).newB t3 (.tup [.ref t1, .ref t2]) = h3 at *
      have lls : l < σ.length := by rw [← R3.len]; exact (List.getElem?_eq_some_iff.mp esl).1
      obtain ⟨w1, w2, w3, w4, w5⟩ := n1
      refine ⟨t3, [.ref t1, .ref t2], rfl, .inr ⟨sqt_F F3 (SG.refl _) R3.ch, ?_⟩⟩
      refine ⟨fun i m σ' H' => (i = 0 ∧ m = 2 ∧ σ' = σ ∧ H' = h3.H) ∨ (i = 1 ∧ m = 1 ∧ ∃ h' ρ1, h'.H = H' ∧ Rel X.K h' ρ1 σ' ∧ SG h3 h' ∧ s1 ((ρ.set l .u).set u (.v da)) = .next ρ1 ∧ σ'[r2]? = some (some (.ref l2)) ∧ ∃ z, σ'[l]? = some z) ∨
        (i = 2 ∧ m = 0 ∧ ∃ h' ρ1 ρ2, h'.H = H' ∧ Rel X.K h' ρ2 σ' ∧ SG h3 h' ∧ s1 ((ρ.set l .u).set u (.v da)) = .next ρ1 ∧ s2 ((ρ1.set l .u).set u (.v db)) = .next ρ2), ⟨2, .inl ⟨rfl, rfl, rfl, rfl⟩⟩, ?_⟩
      rintro i m σ' H' hW
      rcases hW with ⟨rfl, rfl, rfl, rfl⟩ | ⟨rfl, rfl, h', ρ1, rfl, R', g', e1, hr2, z, hz⟩ | ⟨rfl, rfl, h', ρ1, ρ2, rfl, R', g', e1, e2⟩
      · refine .inr ⟨⟨_, _, sqt_F F3 (SG.refl _) R3.ch, rfl⟩, fun σ3 H3 => ∃ h' ρ1, h'.H = H3 ∧ Rel X.K h' ρ1 σ3 ∧ SG h3 h' ∧ s1 ((ρ.set l .u).set u (.v da)) = .next ρ1 ∧ σ3[r2]? = some (some (.ref l2)) ∧ ∃ z, σ3[l]? = some z, fun σ3 H3 n => ⟨1, by decide, .inr (.inl ⟨rfl, rfl, n⟩)⟩, fun x H3 y => ?_⟩
        obtain ⟨rfl, hy⟩ := y
        cases (hy _ (sqt_F F3 (SG.refl _) R3.ch))
        refine ⟨t1, [.ref l1, va], rfl, sqt_F F1 (SG.refl _) R3.ch, rfl, .ref l1, [va], rfl, va, [], rfl, rfl, .inl ?_⟩
        have a1 : ((σ'.set l (some (.ref l1))).set u (some va))[l]? = some (some (.ref l1)) := by
          rw [List.getElem?_set_ne (Ne.symm w1), List.getElem?_set_self lls]
        have a2 : ((σ'.set l (some (.ref l1))).set u (some va))[r1]? = some (some (.ref l1)) := by
          rw [List.getElem?_set_ne (Ne.symm w3), List.getElem?_set_ne (Ne.symm w2), ex1]
        have a3 : ((σ'.set l (some (.ref l1))).set u (some va))[r2]? = some (some (.ref l2)) := by
          rw [List.getElem?_set_ne (Ne.symm w5), List.getElem?_set_ne (Ne.symm w4), ex2]
        have Rr : Rel X.K h3 ((ρ.set l .u).set u (.v da)) ((σ'.set l (some (.ref l1))).set u (some va)) := (R3.set l (s := .u) (v := .ref l1) trivial (fun _ _ _ z => by cases z)).set u (s := .v da) (v := va) ⟨va, rfl, da1⟩ (fun _ _ _ z => by cases z)
        refine ⟨_, a1.trans a2.symm, tSA_mk Rr (fun _ _ => rfl) ?_⟩
        cases e1 : s1 ((ρ.set l .u).set u (.v da)) with
        | next ρ1 =>
          exact fun σ4 h4 R4 k4 g4 => ⟨h4, ρ1, rfl, R4, g4, rfl, (k4 r2 (by simp)).trans a3, _, (k4 l (by simp)).trans a1⟩
        | exc c p ρ1 => rw [e1] at q2; exact q2
        | ret r => rw [e1] at q2; exact q2.elim
        | brk r => rw [e1] at q2; exact q2.elim
        | cont r => rw [e1] at q2; exact q2.elim
        | bad => rw [e1] at q2; exact q2.elim
      · rw [e1] at q2
        refine .inr ⟨⟨_, _, sqt_F F3 g' R'.ch, rfl⟩, fun σ3 H3 => ∃ h' ρ1 ρ2, h'.H = H3 ∧ Rel X.K h' ρ2 σ3 ∧ SG h3 h' ∧ s1 ((ρ.set l .u).set u (.v da)) = .next ρ1 ∧ s2 ((ρ1.set l .u).set u (.v db)) = .next ρ2, fun σ3 H3 n => ⟨0, by decide, .inr (.inr ⟨rfl, rfl, n⟩)⟩, fun x H3 y => ?_⟩
        obtain ⟨rfl, hy⟩ := y
        cases (hy _ (sqt_F F3 g' R'.ch))
        refine ⟨t2, [.ref l2, vb], rfl, sqt_F F2 g' R'.ch, rfl, .ref l2, [vb], rfl, vb, [], rfl, rfl, .inr ?_⟩
        have a1 : ((σ'.set l (some (.ref l2))).set u (some vb))[l]? = some (some (.ref l2)) := by
          rw [List.getElem?_set_ne (Ne.symm w1), List.getElem?_set_self (List.getElem?_eq_some_iff.mp hz).1]
        have a2 : ((σ'.set l (some (.ref l2))).set u (some vb))[r2]? = some (some (.ref l2)) := by
          rw [List.getElem?_set_ne (Ne.symm w5), List.getElem?_set_ne (Ne.symm w4), hr2]
        have Rr : Rel X.K h' ((ρ1.set l .u).set u (.v db)) ((σ'.set l (some (.ref l2))).set u (some vb)) := (R'.set l (s := .u) (v := .ref l2) trivial (fun _ _ _ z => by cases z)).set u (s := .v db) (v := vb) ⟨vb, rfl, ex_dp g'.g db1⟩ (fun _ _ _ z => by cases z)
        refine ⟨_, a1.trans a2.symm, tSA_mk Rr (fun _ _ => rfl) ?_⟩
        dsimp only at q2
        cases e2 : s2 ((ρ1.set l .u).set u (.v db)) with
        | next ρ2 =>
          exact fun σ4 h4 R4 k4 g4 => ⟨h4, ρ1, ρ2, rfl, R4, g'.trans g4, e1, e2⟩
        | exc c p ρ2 => rw [e2] at q2; exact PostA.shift g' q2
        | ret r => rw [e2] at q2; exact q2.elim
        | brk r => rw [e2] at q2; exact q2.elim
        | cont r => rw [e2] at q2; exact q2.elim
        | bad => rw [e2] at q2; exact q2.elim
      · rw [e1] at q2
        dsimp only at q2
        rw [e2] at q2
        exact .inl ⟨⟨_, sqt_F F3 g' R'.ch, Nat.le_refl _⟩, q2 σ' h' R' g'⟩
    · exact q2.elim
  · exact q.elim
end
end Sq

/-! xs.insert(i, e). -/
namespace Sq
open PySem PySem.Spec PyProof.Rows L2
section
variable {W : WF} {X : Cx}
def insS (j : Nat) (g f : EF) : SF := fun ρ => match slot ρ j with
  | .o xs => thenS ρ (g ρ) fun i => thenS ρ (f ρ) fun r => match i.dat, r.keep with
    | some (.int z), .ok d => if 0 ≤ z ∧ z < 2 ^ 63 ∧ xs.length < 100000 then .next (ρ.set j (.o (xs.take z.toNat ++ [d] ++ xs.drop z.toNat))) else .bad
    | _, _ => .bad
  | _ => .bad
def rIns : V → List V → Hp → VK → Prop := fun x vs H Q => ∃ (l : Addr) (xs : List V) (i : Int) (y : V), x = .ref l ∧ vs = [.int i, y] ∧ H l = some (.lst xs) ∧ xs.length < sizeLine ∧ 0 ≤ i ∧ i < 2 ^ 63 ∧
    Q .non (upd H l (.lst (xs.take i.toNat ++ [y] ++ xs.drop i.toNat)))
theorem xinsert (j : Nat) {e1 e2 o : Expr} {g f : EF} {pos apos spos : Pos} (he : PE X (.Call (.Attribute o "insert" apos) [e1, e2] [] pos) (tBM X.K "list" rIns (tVar j) (tCons (tX X.K W g) (tCons (tX X.K W f) tNil)))) (hs : swapsWith (.Call (.Attribute o "insert" apos) [e1, e2] [] pos) none spos.line X.env = pure false := by rfl) :
    PS X (.Expr (.Call (.Attribute o "insert" apos) [e1, e2] [] pos) spos) (tS X.K W (insS j g f)) := by
  refine psTo (ps_expr he hs) fun D σ H ⟨h, ρ, eh, R, q⟩ => ?_
  subst eh
  unfold insS at q
  split at q
  · rename_i xs es
    obtain ⟨l, vs, ex, hl, hd, hlen, _⟩ := mut_now R es
    refine ⟨.ref l, ex, .inl ⟨rfl, vs, .of hl⟩, ?_⟩
    refine (tX_mk (f := g) R (q.then fun iz vz h1 _ R1 g1 ok1 q1 => ?_) : tX X.K W g σ h.H _)
    refine (tX_mk (f := f) R1 ((Post.shift g1.sg q1).then fun r v h2 _ R2 g2 ok2 q2 => ?_) : tX X.K W f σ h1.H _)
    split at q2
    · rename_i z d ez ek
      split at q2
      · rename_i hc
        have ev := dp_int (((ok1.grow g2).dp R2.ch ez))
        subst ev
        obtain ⟨h3, eh3, R3, g3, dv⟩ := keep_ok R1 R2 g2 ek ok2
        obtain ⟨l2, vs2, ex2, hl2, hd2, hlen2, mt⟩ := mut_now R3 es
        rw [ex] at ex2
        cases ex2
        have dd : DpAll X.K h3.G (vs2.take z.toNat ++ [v] ++ vs2.drop z.toNat) (xs.take z.toNat ++ [d] ++ xs.drop z.toNat) := by
          exact ((hd2.take _).append (.cons dv .nil)).append (hd2.drop _)
        obtain ⟨R4, g4⟩ := mt (vs2.take z.toNat ++ [v] ++ vs2.drop z.toNat) (xs.take z.toNat ++ [d] ++ xs.drop z.toNat) dd
        rw [← eh3]
        exact ⟨l, vs2, z, v, rfl, rfl, hl2, by rw [hlen2]; exact Nat.lt_of_lt_of_le hc.2.2 (by decide), hc.1, hc.2.1, q2 σ _ R4 (g3.sg.trans g4)⟩
      · exact q2.elim
    · exact q2.elim
  · exact q.elim
end
end Sq

/-! sorted(set(xs)), len(set(xs)) of whole numbers, some perhaps alike. -/
namespace Sq
open PySem PySem.Spec PyProof.Rows L2
abbrev setZ (w : World) : Obj := { cls := .type "set", dict := none, data := .set #[] 0 (.fresh 0 0 (!w.params.followText "set-order")) }
section
variable {P : Program} {w : World} {A : Around} {E : Value → Shared → Prop} {s : Shared}
set_option maxHeartbeats 3200000 in
theorem set_of_list {l : Addr} {items : Array Value} (ns : List Int) {Q : Value → Shared → Prop} (hh : A.handled = none) (hl : s.heap.IsList l items) (hit : IntsAre items.toList ns) (hb : ns.length + 1 < scanBound)
    (h : ∀ (h' : Heap) (tk c : Nat), SetR w h' s.heap.objs.size (fun j => decide (j ∈ ns)) c → c ≤ ns.length → (∀ b o, s.heap.get? b = some o → h'.get? b = some o) → Q (.ref s.heap.objs.size) { s with heap := h', toks := tk }) :
    wpAny (model P w) A (call (.type "set") [.ref l]) Q E s := by
  have hisz : items.size = ns.length := Array.length_toList.symm.trans (IntsAre.length hit)
  have hsz : (s.heap.push (setZ w)).objs.size = s.heap.objs.size + 1 := Heap.size_push ..
  have hS : (s.heap.push (setZ w)).get? s.heap.objs.size = some (setZ w) := Heap.get?_push_size _ rfl
  obtain ⟨c, tl, hmro⟩ := F.called_set.mro
  have m1 := F.called_set.made
  have m2 := F.called_set.sub
  have m3 := F.called_set.notType
  have m4 := F.called_set.canCreate
  have m5 := F.typeCall_set_1 (.ref l)
  refine wpAny_call (codeAny_of_tree (wpAny_pure ⟨Code.quiet_builtin _ (by decide +kernel), codeAny_builtin F.entry_type_call ?_⟩))
  rw [Around.under_plain (weight_type_call_type "set" [.ref l] []) rfl]
  repeat (any_goals (first | assumption | wp_step))
  refine codeAny_mono (code_set_led1 (.ref l) (E := E) (Q₁ := fun obj s₁ => obj = .ref s.heap.objs.size ∧ s₁ = { s with heap := s.heap.push (setZ w) }) ⟨rfl, rfl⟩) fun r s₁ hr => ?_
  cases r with
  | error e => exact hr
  | ok fl =>
    cases fl with
    | ret obj =>
      obtain ⟨rfl, rfl⟩ := hr
      have hT : Shared.TypeIs { s with heap := s.heap.push (setZ w) } (.ref s.heap.objs.size) "set" := ⟨_, hS, rfl⟩
      have n1 := F.called_set.init.lookup
      have n2 := F.called_set.init.bind (.ref s.heap.objs.size)
      repeat (any_goals (first | assumption | wp_step))
      refine codeAny_mono (codeAny_call_builtin (R := wants (fun r s₂ => r = .none ∧ ∃ h' tk c, s₂ = { s with heap := h', toks := tk } ∧ SetR w h' s.heap.objs.size (fun j => decide (j ∈ ns)) c ∧ c ≤ ns.length ∧
          (∀ b o, s.heap.get? b = some o → h'.get? b = some o)) E) F.called_set.init.plain F.entry_set_init (check_set_init_1 hT ?_)) fun r₂ s₂ hr₂ => ?_
      · obtain ⟨⟨oc, od, ot, osl⟩, hol, hcl, nl, hdl⟩ := hl
        dsimp only at hcl hdl
        subst hcl hdl
        have ho1 : (s.heap.push (setZ w)).get? l = some { cls := .type "list", dict := od, data := .seq items nl, slots := osl } := Heap.get?_push_of_some _ hol
        have k1 := F.sub_list_set
        have k2 := F.sub_list_frozenset
        have k3 : (Value.type "list" == Value.type "dict") = false := by decide
        have hl1 : (s.heap.push (setZ w)).IsList l items := ⟨_, ho1, rfl, nl, rfl⟩
        unfold Builtin.«set.__init__» noKeywords Builtin.Frozenset.updateFrom
        generalize hPI : pyIter = PI
        wp_walk
        subst hPI
        refine wpAny_pyIter_list hl1 ?_
        refine wpAny_bind (wpAny_runValue ?_)
        have hlS : l < s.heap.objs.size := Heap.lt_size hol
        have hh3 : A.in1.in1.in1.handled = none := by simp [hh]
        have ne1 : l ≠ (s.heap.push (setZ w)).objs.size := by rw [hsz]; exact Nat.ne_of_lt (Nat.lt_succ_of_lt hlS)
        have ne2 : s.heap.objs.size ∉ [(s.heap.push (setZ w)).objs.size, l] := by
          rw [hsz]
          simp only [List.mem_cons, List.not_mem_nil, or_false, not_or]
          exact ⟨Nat.ne_of_lt (Nat.lt_succ_self _), Nat.ne_of_gt hlS⟩
        have hval : ∀ (i : Nat) (v : Value), items[i]? = some v → ∃ k t, ns[i]? = some k ∧ v = .int k t := fun i v hv => by
          have hi : i < ns.length := hisz ▸ (Array.getElem?_eq_some_iff.mp hv).1
          obtain ⟨t, e⟩ := PyProof.Rows.IntsAre.int_at hit i v ((Array.getElem?_toList ..).trans hv)
          exact ⟨ns[i], t, List.getElem?_eq_getElem hi, by rw [e, List.getD_eq_getElem?_getD, List.getElem?_eq_getElem hi]; rfl⟩
        refine set_update_ints ((Walks.list hh3 _ l ne1 items).toS) s.heap.objs.size
          ne2 ns hisz hb hval (items.size - 0) 0 _ (by omega) (Nat.zero_le _)
          ⟨⟨_, Heap.get?_push_size _ rfl, rfl, rfl⟩, (hl1.push _)⟩ ⟨0, Nat.le_refl 0, setR_new_at (Heap.get?_push_of_some _ hS)⟩ ?hR
        case hR =>
          rintro ⟨h', g2, d', tk', os'⟩ c' hm hc' hS'
          cases (show g2 = s.gens from hm.gens)
          cases (show d' = s.drawn from hm.drawn)
          cases (show os' = s.os from hm.os)
          show wpAny _ _ _ _ _ _
          refine wpAny_pure ?_
          show wpAny _ _ (ret Value.none) _ _ _
          refine wpAny_pure ⟨rfl, h', tk', c', rfl, hS', hisz ▸ hc', fun b o e => hm.heap b o ?_ (Heap.get?_push_of_some _ (Heap.get?_push_of_some _ e))⟩
          have hb0 : b < s.heap.objs.size := Heap.lt_size e
          rw [hsz]
          simp only [List.mem_cons, List.not_mem_nil, or_false, not_or]
          exact ⟨Nat.ne_of_lt hb0, Nat.ne_of_lt (Nat.lt_succ_of_lt hb0)⟩
      · cases r₂ with
        | error e => exact hr₂
        | ok fl₂ =>
          cases fl₂ with
          | ret r =>
            obtain ⟨rfl, h', tk, c', rfl, hS', hc', hk'⟩ := hr₂
            repeat (any_goals (first | assumption | wp_step))
            exact h _ _ _ hS' hc' hk'
          | _ => exact hr₂.elim
    | _ => exact hr.elim
end
end Sq
namespace Sq
open PySem PySem.Spec PyProof.Rows L2
def ddp : List Int → List Int
  | [] => []
  | x :: xs => if x ∈ xs then ddp xs else x :: ddp xs
theorem mem_ddp {y : Int} : ∀ {xs : List Int}, y ∈ ddp xs ↔ y ∈ xs
  | [] => Iff.rfl
  | x :: xs => by
    unfold ddp
    split
    · rw [mem_ddp (xs := xs), List.mem_cons]
      exact ⟨.inr, fun h => h.elim (fun e => e ▸ (by assumption)) id⟩
    · rw [List.mem_cons, List.mem_cons, mem_ddp (xs := xs)]
theorem ddp_nodup : ∀ xs : List Int, (ddp xs).Nodup
  | [] => List.nodup_nil
  | x :: xs => by
    unfold ddp
    split
    · exact ddp_nodup xs
    · exact List.nodup_cons.mpr ⟨fun h => absurd (mem_ddp.mp h) (by assumption), ddp_nodup xs⟩
theorem ddp_len {xs ys : List Int} (n : ys.Nodup) (h : ∀ k, k ∈ ys ↔ k ∈ xs) : ys.Perm (ddp xs) :=
  (List.perm_ext_iff_of_nodup n (ddp_nodup xs)).mpr fun k => (h k).trans mem_ddp.symm
section
variable {K : PySem.W.Frag} {W : WF} {X : Cx} {f : EF} {a : Expr} {ta : TE} {p p2 q pos : Pos}
def tSrtSet (K : PySem.W.Frag) (ta : TE) : TE := fun σ H Q => ta σ H fun x H1 => ∃ (l : Addr) (ns : List Int), x = V.ref l ∧ SqL K H1 l (ns.map V.int) ∧ ns.length < 64 ∧ ∀ p, H1 p = none → Q (.ref p) (upd H1 p (.lst ((srt (ddp ns)).map V.int)))
theorem lt_nodup : ∀ {ns : List Int}, ns.Pairwise (· < ·) → ns.Nodup := fun h => h.imp fun h e => by omega
theorem pe_srtSet (hc : X.calm = true) (hg : Gl X "sorted") (hm : X.mg "sorted" = none) (hg2 : Gl X "set") (hm2 : X.mg "set" = none) (ha : PE X a ta)
    (na : starEach [a] X.env = (false, eval a X.env) :: starEach [] X.env := by rfl) : PE X (.Call (.Name "sorted" p) [.Call (.Name "set" p2) [a] [] q] [] pos) (tSrtSet X.K ta) := by
  refine ⟨fun pins s σ H Q I h => ?_⟩
  refine Call_ (ld_blt I hg hm boot_sorted ?_)
  refine PyProof.Rows.callWith_builtin1 (PyProof.Rows.args_cons ?_ rfl) rfl rfl
  refine Call_ (ld_blt I hg2 hm2 PyProof.Rows.boot_set ?_)
  refine PyProof.Rows.callWith_type1 (PyProof.Rows.args_cons (thn (ha.run pins s σ H _ I h) fun v s1 ⟨x, H1, I1, r1, q1⟩ => PyProof.Rows.args_nil ?_) na) na rfl
  obtain ⟨l, ns, rfl, hq, h1, q1⟩ := q1
  cases r1
  obtain ⟨its, r, pl, hz⟩ := I1.list hq
  refine set_of_list ns (I1.ok.hd hc) pl.isList (by simpa using r.ints) (by unfold scanBound; omega) fun h' tk c R hc' hk => ?_
  refine PyProof.Rows.args_nil ?_
  have I2 : Inv X pins σ H1 { s1 with heap := h', toks := tk } := I1.kept hk
  refine sorted_set R (I2.ok.hd hc) (by omega) fun s' p out c2 ms k g o hp hg hi hs hm hl => ?_
  have em : ms = srt (ddp ns) := perm_sorted_eq ((ddp_len (lt_nodup hs) fun k => (hm k).trans (by simp)).trans (srt_perm _).symm) (hs.imp fun h => Int.le_of_lt h) (srt_le _)
  subst em
  have hlen : ((srt (ddp ns)).map V.int).length ≤ sizeLine := by rw [List.length_map, hl, sizeLine_eq]; omega
  have hn : H1 p = none := I2.hok.fresh hp
  have J : Inv X pins σ (upd H1 p (.lst ((srt (ddp ns)).map V.int))) { ({ s1 with heap := h', toks := tk } : Shared) with heap := s'.heap, gens := s'.gens, drawn := s'.drawn, toks := s'.toks } :=
    I2.call (ch := []) (Un.laid k hp hn) (I2.hok.laid k hp ⟨hlen, out.toList, c2, vals_of_ints hi, hg⟩) (by rw [g]; exact I2.bare) (fun _ z => nomatch z)
  have e : s' = { ({ s1 with heap := h', toks := tk } : Shared) with heap := s'.heap, gens := s'.gens, drawn := s'.drawn, toks := s'.toks } := by
    cases s'
    cases o
    rfl
  rw [e]
  exact ⟨.ref p, _, J, rfl, q1 p hn⟩
def srtSetF (f : EF) : EF := fun ρ => (f ρ).bind fun a => match a.dat with
  | some (.list ys) => (match dInts ys with
    | some ns => if ns.length < 64 then .ok (.o ((srt (ddp ns)).map .int)) else .bad
    | none => .bad)
  | _ => .bad
theorem xsrtSet (hc : X.calm = true) (hg : Gl X "sorted") (hm : X.mg "sorted" = none) (hg2 : Gl X "set") (hm2 : X.mg "set" = none) (ha : PE X a (tX X.K W f))
    (na : starEach [a] X.env = (false, eval a X.env) :: starEach [] X.env := by rfl) : PE X (.Call (.Name "sorted" p) [.Call (.Name "set" p2) [a] [] q] [] pos) (tX X.K W (srtSetF f)) := by
  refine peTo (pe_srtSet hc hg hm hg2 hm2 ha na) fun σ H Q q => ?_
  obtain ⟨h, ρ, rfl, R, q⟩ := tX_iff.mp q
  refine (tX_mk (f := f) R (q.bind fun a x h1 ea R1 g1 ok1 q1 => ?_) : tX X.K W f σ h.H _)
  split at q1
  · rename_i xs exs
    obtain ⟨p1, vs, rfl, s1, d1⟩ := dp_lst (ok1.dp R1.ch exs)
    split at q1
    · rename_i ns ens
      split at q1
      · rename_i hn
        have ev := dInts_v ens d1
        subst ev
        exact ⟨p1, ns, rfl, s1, hn, fun p hp => q1.newL R1 (ints_all _) hp⟩
      · exact q1.elim
    · exact q1.elim
  · exact q1.elim
def tLenSetA (K : PySem.W.Frag) (ta : TE) : TE := fun σ H Q => ta σ H fun x H1 => ∃ (l : Addr) (ns : List Int), x = V.ref l ∧ SqL K H1 l (ns.map V.int) ∧ ns.length < 4000 ∧ Q (.int (ddp ns).length) H1
theorem pe_lenSetA (hc : X.calm = true) (hg : Gl X "len") (hm : X.mg "len" = none) (hg2 : Gl X "set") (hm2 : X.mg "set" = none) (ha : PE X a ta)
    (na : starEach [a] X.env = (false, eval a X.env) :: starEach [] X.env := by rfl) : PE X (.Call (.Name "len" p) [.Call (.Name "set" p2) [a] [] q] [] pos) (tLenSetA X.K ta) := by
  refine ⟨fun pins s σ H Q I h => ?_⟩
  refine Call_ (ld_blt I hg hm PySem.boot_len ?_)
  refine PyProof.Rows.callWith_builtin1 (PyProof.Rows.args_cons ?_ rfl) rfl rfl
  refine Call_ (ld_blt I hg2 hm2 PyProof.Rows.boot_set ?_)
  refine PyProof.Rows.callWith_type1 (PyProof.Rows.args_cons (thn (ha.run pins s σ H _ I h) fun v s1 ⟨x, H1, I1, r1, q1⟩ => PyProof.Rows.args_nil ?_) na) na rfl
  obtain ⟨l, ns, rfl, hq, h1, q1⟩ := q1
  cases r1
  obtain ⟨its, r, pl, hz⟩ := I1.list hq
  refine set_of_list ns (I1.ok.hd hc) pl.isList (by simpa using r.ints) (by unfold scanBound; omega) fun h' tk c R hc' hk => ?_
  refine PyProof.Rows.args_nil ?_
  have I2 : Inv X pins σ H1 { s1 with heap := h', toks := tk } := I1.kept hk
  obtain ⟨o, es, ep, t, ho, hex, hd, _, nd, hm, _, hf, hn, _⟩ := R
  have ec : es.size = (ddp ns).length := by
    have e := (ddp_len nd fun k => ((hm k).symm.trans (by simp)) : (es.toList.map keyOf).Perm (ddp ns)).length_eq
    rw [List.length_map, Array.length_toList] at e
    exact e
  refine call_len_set ho hex hd hf (by rw [hn]; omega) ⟨.int (ddp ns).length, H1, I2.tok _, ⟨_, by rw [ec]⟩, q1⟩
def lenSetA (f : EF) : EF := fun ρ => (f ρ).bind fun a => match a.dat with
  | some (.list ys) => (match dInts ys with
    | some ns => if ns.length < 4000 then .ok (.v (.int ((ddp ns).length : Nat))) else .bad
    | none => .bad)
  | _ => .bad
theorem xlenSetA (hc : X.calm = true) (hg : Gl X "len") (hm : X.mg "len" = none) (hg2 : Gl X "set") (hm2 : X.mg "set" = none) (ha : PE X a (tX X.K W f))
    (na : starEach [a] X.env = (false, eval a X.env) :: starEach [] X.env := by rfl) : PE X (.Call (.Name "len" p) [.Call (.Name "set" p2) [a] [] q] [] pos) (tX X.K W (lenSetA f)) := by
  refine peTo (pe_lenSetA hc hg hm hg2 hm2 ha na) fun σ H Q q => ?_
  obtain ⟨h, ρ, rfl, R, q⟩ := tX_iff.mp q
  refine (tX_mk (f := f) R (q.bind fun a x h1 ea R1 g1 ok1 q1 => ?_) : tX X.K W f σ h.H _)
  split at q1
  · rename_i xs exs
    obtain ⟨p1, vs, rfl, s1, d1⟩ := dp_lst (ok1.dp R1.ch exs)
    split at q1
    · rename_i ns ens
      split at q1
      · rename_i hn
        have ev := dInts_v ens d1
        subst ev
        exact ⟨p1, ns, rfl, s1, hn, q1.now R1 (.int _)⟩
      · exact q1.elim
    · exact q1.elim
  · exact q1.elim
end
@[simp] theorem srtSetF_e (f : EF) (ρ : Env) : srtSetF f ρ = (f ρ).bind fun a => match a.dat with
  | some (.list ys) => (match dInts ys with
    | some ns => if ns.length < 64 then .ok (.o ((srt (ddp ns)).map .int)) else .bad
    | none => .bad)
  | _ => .bad := (rfl)
@[simp] theorem lenSetA_e (f : EF) (ρ : Env) : lenSetA f ρ = (f ρ).bind fun a => match a.dat with
  | some (.list ys) => (match dInts ys with
    | some ns => if ns.length < 4000 then .ok (.v (.int ((ddp ns).length : Nat))) else .bad
    | none => .bad)
  | _ => .bad := (rfl)
end Sq

/-! In the body of a for whose target is one of two own lists: if, while, other own lists changed. -/
namespace Sq
open PySem PySem.Spec PyProof.Rows L2
section
variable {js : List Nat} {σ0 : L2.St} {K : PySem.W.Frag} {W : WF} {X : Cx} {D : Ends} {h h1 : Hs} {ρ : Env} {σ : L2.St}
theorem PostA.thenT {e : Er Bool} {k : Bool → Res} (q : PostA js σ0 K W D h (thenT ρ e k)) {Q : Bool → Hp → Prop} (hk : ∀ r h', e = .ok r → Rel K h' ρ σ → Gr h h' → PostA js σ0 K W D h' (k r) → Q r h'.H) : PT1 K W h ρ σ Q e := by
  cases e with
  | ok r => exact fun h' R g => hk r h' rfl R g (PostA.shift g.sg q)
  | exc c p => exact fun h' R g => q σ h' R g.sg
  | bad => exact q
theorem PostA.thenM {e : Er (Rv × Env)} {k : Rv → Env → Res} (q : PostA js σ0 K W D h (thenM ρ e k)) {Q : VK} (hk : ∀ r ρ' v h', e = .ok (r, ρ') → Rel K h' ρ' σ → SG h h' → RvF K h' v r → PostA js σ0 K W D h' (k r ρ') → Q v h'.H) : PM1 K W h ρ σ Q e := by
  cases e with
  | ok r => exact fun v h' R g ok => hk r.1 r.2 v h' rfl R g ok (PostA.shift g q)
  | exc c p => exact fun h' R g => q σ h' R g
  | bad => exact q
theorem xssnilA : PSs X [] (tSA js σ0 X.K W skipS) := pssTo pss_nil fun D σ H ⟨h, ρ, e, R, kp, q⟩ => by
  subst e
  exact q σ h R kp (SG.refl h)
theorem xfrzA {sts : List Stmt} {f : SF} (i : Nat) (h1 : PSs X sts (tSA js σ0 X.K W f)) : PSs X sts (tSA js σ0 X.K W (frzS i f)) := pssTo h1 fun D σ H ⟨h, ρ, e, R, kp, q⟩ => by
  subst e
  obtain ⟨h', eh, R', g⟩ := frzE_ok R i
  rw [← eh]
  exact tSA_mk R' kp (PostA.shift g q)
theorem xifsA {c : Expr} {a b : List Stmt} {t : Env → Er Bool} {f g : SF} {pos : Pos} (hc : PT X c (tXt X.K W t)) (ha : PSs X a (tSA js σ0 X.K W f)) (hb : PSs X b (tSA js σ0 X.K W g)) : PS X (.If c a b pos) (tSA js σ0 X.K W (ifS t f g)) := psTo (ps_if hc ha hb) fun D σ H ⟨h, ρ, e, R, kp, q⟩ => by
  subst e
  refine tXt_mk R (q.thenT fun r h' _ R' g' q' => ?_)
  cases r with
  | true =>
    rw [if_pos rfl] at q' ⊢
    exact tSA_mk R' kp q'
  | false =>
    rw [if_neg (by decide)] at q' ⊢
    exact tSA_mk R' kp q'
theorem xwhileA {c : Expr} {body : List Stmt} {t : Env → Er Bool} {f : SF} {pos : Pos} (hp : PassesOwn (model X.prog X.w) X.A X.env X.xe) (hc : PT X c (tXt X.K W t)) (hb : PSs X body (tSA js σ0 X.K W f)) : PS X (.While c body [] pos) (tSA js σ0 X.K W (whileS t f)) := psTo (ps_while hp hc hb) fun D σ H ⟨h, ρ, e, R, kp, q⟩ => by
  subst e
  refine ⟨fun m σ' H' => ∃ h' ρ', h'.H = H' ∧ Rel X.K h' ρ' σ' ∧ Kp js σ0 σ' ∧ PostA js σ0 X.K W D h' (whileN t f m ρ'), ⟨1000000, h, ρ, rfl, R, kp, q⟩, ?_⟩
  rintro m σ' H' ⟨h2, ρ2, rfl, R2, k2, q2⟩
  cases m with
  | zero => exact q2.elim
  | succ m =>
    unfold whileN at q2
    refine tXt_mk R2 (q2.thenT fun r h3 _ R3 g3 q3 => ?_)
    cases r with
    | false =>
      rw [if_neg (by decide)] at q3 ⊢
      exact q3 σ' h3 R3 k2 (SG.refl _)
    | true =>
      rw [if_pos rfl] at q3 ⊢
      refine ⟨fun σ3 H3 => ∃ h' ρ', h'.H = H3 ∧ Rel X.K h' ρ' σ3 ∧ Kp js σ0 σ3 ∧ PostA js σ0 X.K W D h' (whileN t f m ρ'), fun σ3 H3 n => ⟨m, Nat.lt_succ_self m, n⟩, tSA_mk R3 k2 ?_⟩
      cases ef : f ρ2 with
      | next ρ5 =>
        rw [ef] at q3
        exact fun σ5 h5 R5 k5 g5 => ⟨h5, ρ5, rfl, R5, k5, PostA.shift g5 q3⟩
      | cont ρ5 =>
        rw [ef] at q3
        exact fun σ5 h5 R5 k5 g5 => ⟨h5, ρ5, rfl, R5, k5, PostA.shift g5 q3⟩
      | brk ρ5 =>
        rw [ef] at q3
        exact fun σ5 h5 R5 k5 g5 => q3 σ5 h5 R5 k5 g5
      | ret r =>
        rw [ef] at q3
        exact q3
      | exc c p ρ5 =>
        rw [ef] at q3
        exact q3
      | bad =>
        rw [ef] at q3
        exact q3
/-- l.append(m.pop(..)), l not one of the two -/
theorem xappMA (i : Nat) {e o : Expr} {f : MF} {pos apos spos : Pos} (he : PE X (.Call (.Attribute o "append" apos) [e] [] pos) (tBM X.K "list" rAppend (tVar i) (tCons (tM X.K W f) tNil))) (hs : swapsWith (.Call (.Attribute o "append" apos) [e] [] pos) none spos.line X.env = pure false := by rfl) :
    PS X (.Expr (.Call (.Attribute o "append" apos) [e] [] pos) spos) (tSA js σ0 X.K W (appM i f)) := by
  refine psTo (ps_expr he hs) fun D σ H ⟨h, ρ, eh, R, kp, q⟩ => ?_
  subst eh
  unfold appM at q
  split at q
  · rename_i xs0 es
    obtain ⟨l, vs, ex, hl, hd, hlen, _⟩ := mut_now R es
    refine ⟨.ref l, ex, .inl ⟨rfl, vs, .of hl⟩, ?_⟩
    refine ⟨h, ρ, rfl, R, q.thenM fun r ρ' v h' _ R' g' ok q' => ?_⟩
    cases es' : slot ρ' i with
    | o xs =>
      rw [es'] at q'
      cases r with
      | v d =>
        dsimp only at q'
        split at q'
        · obtain ⟨l2, vs2, ex2, hl2, hd2, hlen2, mt⟩ := mut_now R' es'
          rw [ex] at ex2
          cases ex2
          obtain ⟨R3, g3⟩ := mt (vs2 ++ [v]) (xs ++ [d]) (hd2.snoc ok)
          exact ⟨l, vs2, v, rfl, rfl, hl2, by rw [hlen2]; exact Nat.lt_of_lt_of_le (by assumption) (by decide), q' σ _ R3 kp g3⟩
        · exact q'.elim
      | _ => exact q'.elim
    | _ =>
      rw [es'] at q'
      exact q'.elim
  · exact q.elim
end
end Sq

/-! t.index(x), t a tuple of one's own kind. -/
namespace Sq
open PySem PySem.Spec PyProof.Rows L2
def rIndexT (K : PySem.W.Frag) : V → List V → Hp → VK → Prop := fun x xs H Q => ∃ (a : Addr) (ys : List V) (y : V) (j : Nat) (z : V), x = .ref a ∧ xs = [y] ∧ SqT K H a ys ∧ L2.flatV y = true ∧ ys.all L2.flatV = true ∧ ys[j]? = some z ∧ eqV z y = true ∧
  (∀ (m : Nat) (z' : V), m < j → ys[m]? = some z' → eqV z' y = false) ∧ Q (.int (j : Nat)) H
theorem mt_indexT {X : Cx} : MtR X "tuple.index" (rIndexT X.K) := by
  intro pins s σ H x xs v us Q I rx rxs h
  obtain ⟨a, ys, y, j, z, rfl, rfl, hs, fy, fys, hz, hzj, hno, q⟩ := h
  cases rx
  cases rxs with
  | cons ry rt =>
    rename_i uy ut
    cases rt
    obtain ⟨its, rv, pl, hlen⟩ := I.tuple hs
    obtain ⟨⟨cls, dd, dt, sl⟩, ho, hc, n, hd⟩ := pl
    simp only at hc hd
    subst hc
    subst hd
    obtain ⟨u, hu, ru⟩ := rv.get hz
    obtain ⟨hjl, hje⟩ := List.getElem?_eq_some_iff.mp hu
    have hvl := rv.length
    have hj : j < its.toArray.size := by simpa using hjl
    refine call_meets PySem.F.slot_tuple_index ⟨_, ho, rfl⟩ PySem.F.entry_tuple_index (PySem.F.args_tuple_index_2 _ _)
      (TI.tuple_indexAt a its.toArray n dd sl uy (eqU y) j hj ?_ ?_) ⟨ho, fun u' hu' => mem_eqAt ry fy rv fys u' (by simpa using hu'), ?_⟩
    · have e1 : its.toArray[j] = u := by simpa using hje
      rw [e1, eqU_of ru (flat_at fys hz)]
      exact hzj
    · intro m hm hmj
      have hml : m < its.length := by simpa using hm
      have hmy : m < ys.length := by omega
      have hy' : ys[m]? = some ys[m] := List.getElem?_eq_getElem hmy
      obtain ⟨u2, hu2, ru2⟩ := rv.get hy'
      obtain ⟨_, hme⟩ := List.getElem?_eq_some_iff.mp hu2
      have e1 : its.toArray[m] = u2 := by simpa using hme
      rw [e1, eqU_of ru2 (flat_at fys hy')]
      exact hno m _ hmj hy'
    · exact ⟨.int (j : Nat), H, I.tok _, ⟨_, rfl⟩, q⟩

/-- the method of a tuple whose object is known -/
def tFM (r : V → List V → Hp → VK → Prop) (to : TE) (t : TA) : TE := fun σ H Q => to σ H fun x H1 => (∃ a o ys, x = .ref a ∧ H1 a = some (.frz o (.tup ys)) ∧ o.dict = none) ∧ t σ H1 fun xs H2 => r x xs H2 Q
section
variable {X : Cx} {o e : Expr} {es : List Expr} {to : TE} {t : TA} {name : Str} {apos cpos : Pos} {id : String} {r : V → List V → Hp → VK → Prop}
theorem pe_fm (slot : Slot "tuple" name id) (hty : typeOf (.builtin id) = pure (.type "method_descriptor")) (hm : MtR X id r) (ho : PE X o to) (ha : PA X (e :: es) t)
    (hbase : attributeBase o name X.env (eval o X.env) = eval o X.env := by rfl)
    (hfew : ((backTo cpos (starEach (e :: es) X.env)).all (fun x => !x.1) && (backToKw cpos (keywordEach [] X.env)).all (fun x => x.1.isSome)
      && decide ((e :: es).length + ([] : List Keyword).length + (if ([] : List Keyword).isEmpty then 0 else 1) < 30)) = true := by rfl)
    (hline : (apos.endLine == cpos.line) = true := by rfl) (hs : starEach (e :: es) X.env = (false, eval e X.env) :: starEach es X.env := by rfl) (hplain : (backTo cpos (starEach es X.env)).any (·.1) = false := by rfl) :
    PE X (.Call (.Attribute o name apos) (e :: es) [] cpos) (tFM r to t) := by
  refine ⟨fun pins s σ H Q I h => ?_⟩
  refine wpAny_Call_method_late hbase hfew hline rfl (thn (ho.run pins s σ H _ I h) fun v s1 ⟨x, H1, I1, r1, ⟨a, ob, ys, ex, hf, hd⟩, q1⟩ => ?_)
  subst ex
  have r0 := r1
  cases r1
  obtain ⟨e1, q2⟩ := I1.hok a _ hf
  have hcls : ob.cls = .type "tuple" := by
    obtain ⟨_, _, _, ob', e2, hc, _⟩ := q2
    rw [e1] at e2
    cases e2
    exact hc
  refine ⟨"tuple", id, PySem.F.plainAttrs_tuple, slot, hty, ⟨ob, e1, hcls⟩, fun a' e => by cases e; exact ⟨ob, e1, hd⟩, ?_⟩
  have hA := ha.run cpos pins s1 σ H1 _ I1 q1
  rw [hs] at hA ⊢
  refine Calls.callWith_builtin (by show (false || (backTo cpos (starEach es X.env)).any (·.1)) = false; rw [hplain] <;> rfl) (Calls.evalArgs_plain ?_)
  exact thn hA fun us s2 ⟨vs, H2, I2, r2, q2⟩ => hm pins s2 σ H2 _ vs _ us Q I2 r0 r2 q2
end
section
variable {K : PySem.W.Frag} {W : WF} {X : Cx} {f g : EF}
def indexTF (f g : EF) : EF := fun ρ => (f ρ).bind fun a => match a.dat with
  | some (.tuple ys) => (g ρ).bind fun b => indexR ys b
  | _ => .bad
theorem xindexT {s : Expr} (he : PE X s (tFM (rIndexT X.K) (tX X.K W f) (tCons (tX X.K W g) tNil))) : PE X s (tX X.K W (indexTF f g)) := by
  refine peTo he fun σ H Q q => ?_
  obtain ⟨h, ρ, rfl, R, q⟩ := tX_iff.mp q
  refine (tX_mk (f := f) R (q.bind fun a x h1 ea R1 g1 ok1 q1 => ?_) : tX X.K W f σ h.H _)
  split at q1
  · rename_i xs exs
    have dpx := ok1.dp R1.ch exs
    cases dpx with
    | @tup p1 ob vs ds hf hd d1 =>
    refine ⟨⟨p1, ob, vs, rfl, hf, hd⟩, ?_⟩
    refine (tX_mk (f := g) R1 (q1.bind fun b y h2 _ R2 g2 ok2 q2 => ?_) : tX X.K W g σ h1.H _)
    unfold indexR at q2
    cases eb : b.dat with
    | none => rw [eb] at q2; exact q2.elim
    | some d =>
      rw [eb] at q2
      dsimp only at q2
      split at q2
      · rename_i hc
        split at q2
        · rename_i j ej
          obtain ⟨_, z, h3, h4, h5⟩ := firstAt_some ej
          simp only [Nat.sub_zero] at h3 h5
          have d2 := ex_dpa g2.x d1
          have dy := ok2.dp R2.ch eb
          obtain ⟨vz, e1, e2⟩ := d2.get h3
          have fz : ∀ (m : Nat) z', xs[m]? = some z' → flatD z' = true := fun m z' e => List.all_eq_true.mp hc.1 z' (List.mem_of_getElem? e)
          refine ⟨p1, vs, y, j, vz, rfl, rfl, .inl (.inr ⟨ob, g2.x _ _ hf⟩), dp_flat dy hc.2, dp_flats d2 hc.1, e1, ?_, fun m v' hm ev => ?_, q2.now R2 (.int _)⟩
          · rw [dp_eqV e2 dy (fz _ _ h3) hc.2]
            exact h4
          · obtain ⟨z', e3, e4⟩ := d2.getV ev
            rw [dp_eqV e4 dy (fz _ _ e3) hc.2]
            exact h5 m z' hm e3
        · exact q2.elim
      · exact q2.elim
  · exact q1.elim
end
end Sq

/-! Own classes: fields read and written, methods called, instances made. -/
namespace Sq
open PySem PySem.Spec PyProof.Rows L2
def fldD (f : Str) : List (D × D) → Option D
  | [] => none
  | (.str g, d) :: r => if g = f then some d else fldD f r
  | _ :: r => fldD f r
theorem DpFs.fld {K : PySem.W.Frag} {H : Hp} {f : Str} : ∀ {vs : List (Str × V)} {fs : List (D × D)}, DpFs K H vs fs → (∀ d, fldD f fs = some d → ∃ v, vs.lookup f = some v ∧ Dp K H v d) ∧ (fldD f fs = none → vs.lookup f = none)
  | _, _, .nil => ⟨fun d e => (by cases e), fun _ => rfl⟩
  | _, _, .cons (f := g) (v := v) (vs := vs) (d := d) (ds := ds) h t => by
    obtain ⟨a, b⟩ := DpFs.fld (f := f) t
    by_cases e : g = f
    · subst e
      refine ⟨fun d' e2 => ⟨v, by rw [List.lookup_cons]; simp, ?_⟩, fun e2 => ?_⟩
      · have : fldD g ((.str g, d) :: ds) = some d := by rw [fldD, if_pos rfl]
        rw [this] at e2
        cases e2
        exact h
      · have : fldD g ((.str g, d) :: ds) = some d := by rw [fldD, if_pos rfl]
        rw [this] at e2
        cases e2
    · have e3 : fldD f ((.str g, d) :: ds) = fldD f ds := by rw [fldD, if_neg e]
      have e4 : ((g, v) :: vs).lookup f = vs.lookup f := by
        rw [List.lookup_cons]
        have : (f == g) = false := beq_eq_false_iff_ne.mpr fun z => e z.symm
        rw [this]
      rw [e3, e4]
      exact ⟨a, b⟩
/-- its fields, if it is an instance of c -/
def insD (c : Str) : D → Option (List (D × D))
  | .dict ((.str c', .none) :: fs) => if c' = c then some fs else none
  | _ => none
theorem insD_ob {c : Str} {fs : List (Str × D)} : insD c (ob c fs) = some (fs.map fun p => (.str p.1, p.2)) := by
  show (if c = c then some _ else none) = _
  rw [if_pos rfl]
theorem dp_ins {K : PySem.W.Frag} {H : Hp} {c : Str} {v : V} {d : D} {fs : List (D × D)} (e : insD c d = some fs) (h : Dp K H v d) : ∃ a dx vs, v = .ref a ∧ H a = some (.ins (clsOf K c) dx vs) ∧ DpFs K H vs fs := by
  cases h with
  | obj h1 h2 =>
    rename_i a dx c' vs fs'
    unfold insD at e
    dsimp only at e
    split at e
    · rename_i e2
      subst e2
      cases e
      exact ⟨a, dx, vs, rfl, h1, h2⟩
    · cases e
  | _ => cases e
def fldR (c f : Str) (a : Rv) : Er Rv := match a with
  | .v d => (match (insD c d).bind (fldD f) with | some x => .ok (.v x) | none => .bad)
  | .b d => (match (insD c d).bind (fldD f) with | some x => .ok (.b x) | none => .bad)
  | .r d => (match (insD c d).bind (fldD f) with | some x => .ok (.r x) | none => .bad)
  | .wi c' fs => (match (insD c (ob c' fs)).bind (fldD f) with | some x => .ok (.v x) | none => .bad)
  | _ => .bad
section
variable {K : PySem.W.Frag} {W : WF} {X : Cx} {cm : Str → Addr}
theorem fldR_ok {h0 h : Hs} {v : V} {c f : Str} {a : Rv} {Q : VK} {ρ : Env} {σ : L2.St} (R : Rel K h ρ σ) (g : Gr h0 h) (ok : RvOk K h0.H h v a) (q : PE1 K W h ρ σ Q (fldR c f a)) : ∃ l dx vs x, v = .ref l ∧ h.H l = some (.ins (clsOf K c) dx vs) ∧ vs.lookup f = some x ∧ Q x h.H := by
  have key : ∀ (Hq : Hp) (d x : D), (∀ a o, Hq a = some o → h.H a = some o) → Dp K Hq v d → (insD c d).bind (fldD f) = some x → ∃ l dx vs y, v = .ref l ∧ h.H l = some (.ins (clsOf K c) dx vs) ∧ vs.lookup f = some y ∧ Dp K Hq y x := fun Hq d x he hd e => by
    obtain ⟨fs, e1, e2⟩ := Option.bind_eq_some_iff.mp e
    obtain ⟨l, dx, vs, rfl, h1, h2⟩ := dp_ins e1 hd
    obtain ⟨y, h3, h4⟩ := (DpFs.fld h2).1 x e2
    exact ⟨l, dx, vs, y, rfl, he _ _ h1, h3, h4⟩
  unfold fldR at q
  split at q
  · rename_i d
    split at q
    · rename_i x e
      obtain ⟨l, dx, vs, y, e1, e2, e3, e4⟩ := key h.G d x R.ch.gh ok e
      exact ⟨l, dx, vs, y, e1, e2, e3, q.now R e4⟩
    · exact q.elim
  · rename_i d
    split at q
    · rename_i x e
      obtain ⟨l, dx, vs, y, e1, e2, e3, e4⟩ := key h.F d x R.ch.fh ok e
      exact ⟨l, dx, vs, y, e1, e2, e3, q.now R e4⟩
    · exact q.elim
  · rename_i d
    split at q
    · rename_i x e
      obtain ⟨l, dx, vs, y, e1, e2, e3, e4⟩ := key h.H d x (fun _ _ z => z) ok e
      exact ⟨l, dx, vs, y, e1, e2, e3, q.now R e4⟩
    · exact q.elim
  · rename_i c' fs
    split at q
    · rename_i x e
      obtain ⟨l, vs, dx, e1, e2, e3⟩ := ok
      obtain ⟨fs', f1, f2⟩ := Option.bind_eq_some_iff.mp e
      unfold ob insD at f1
      dsimp only at f1
      split at f1
      · rename_i ec
        subst ec
        cases f1
        obtain ⟨y, h3, h4⟩ := (DpFs.fld (kv_dpfs e3)).1 x f2
        exact ⟨l, dx, vs, y, e1, e2, h3, q.now R h4⟩
      · cases f1
    · exact q.elim
  · exact q.elim
/-- e.f -/
theorem xfld {e : Expr} {F : EF} {c f : Str} {pos : Pos} (hc : Cls X.K (clsOf X.K c)) (hn : NoAttr X.K (clsOf X.K c) f) (ha : PE X e (tX X.K W F)) (hb : attributeBase e f X.env (eval e X.env) = eval e X.env := by rfl) : PE X (.Attribute e f pos) (tX X.K W (unF (fldR c f) F)) := by
  refine peTo (pe_fld ha hb) fun σ H Q q => ?_
  obtain ⟨h, ρ, rfl, R, q⟩ := tX_iff.mp q
  refine (tX_mk (f := F) R (q.bind fun a v h1 _ R1 g1 ok1 q1 => ?_) : tX X.K W F σ h.H _)
  obtain ⟨l, dx, vs, x, e1, e2, e3, q2⟩ := fldR_ok R1 g1 ok1 q1
  exact ⟨l, _, dx, vs, x, e1, e2, hc, hn, e3, q2⟩
/-! e.f = value, e a local that holds an instance of one's own -/
def putD (f : Str) (d : D) : List (Str × D) → List (Str × D)
  | [] => [(f, d)]
  | (g, x) :: r => if g = f then (g, d) :: r else (g, x) :: putD f d r
theorem kv_put {G : Hp} {f : Str} {v : V} {d : D} (hd : Dp K G v d) : ∀ {vs : List (Str × V)} {fs : List (Str × D)}, KvD K G vs fs → KvD K G (putF f v vs) (putD f d fs)
  | _, _, .nil => .cons ⟨rfl, hd⟩ .nil
  | (g, x) :: vs, (g', y) :: fs, .cons ⟨e, h⟩ t => by
    cases (show g = g' from e)
    unfold putF putD
    by_cases e : g = f
    · rw [if_pos e, if_pos e]
      exact .cons ⟨rfl, hd⟩ t
    · rw [if_neg e, if_neg e]
      exact .cons ⟨rfl, h⟩ (kv_put hd t)
theorem kv_len {G : Hp} {κ : Type} : ∀ {vs : List (κ × V)} {fs : List (κ × D)}, KvD K G vs fs → vs.length = fs.length
  | _, _, .nil => rfl
  | _, _, .cons _ t => congrArg (· + 1) (kv_len t)
def fldS (c : Str) (i : Nat) (f : Str) (F : EF) : SF := fun ρ => match slot ρ i with
  | .j _ _ _ => thenS ρ (F ρ) fun r => match r.keep with
    | .ok d => match slot ρ i with
      | .j l c' fs => if c' = c ∧ fs.length < 900 then .next (ρ.set i (.j l c (putD f d fs))) else .bad
      | _ => .bad
    | _ => .bad
  | _ => .bad
theorem ins_now {h : Hs} {ρ : Env} {σ : L2.St} {i : Nat} {l : Addr} {c : Str} {fs : List (Str × D)} (R : Rel K h ρ σ) (es : slot ρ i = .j l c fs) : ∃ vs dx, σ[i]? = some (some (.ref l)) ∧ h.H l = some (.ins (clsOf K c) dx vs) ∧ h.F l = none ∧ KvD K h.G vs fs := by
  obtain ⟨x, ex, vs, dx, rfl, a, b, d⟩ := R.get (slot_some es (by intro z; cases z))
  exact ⟨vs, dx, ex, a, b, d⟩
theorem xsfld {o value : Expr} {F : EF} {c f : Str} {i : Nat} {pos pos' : Pos} (hc : Cls X.K (clsOf X.K c)) (hn : NoAttr X.K (clsOf X.K c) f) (ho : PE X o (tVar i)) (hv : PE X value (tX X.K W F)) (hs : swapsWith value (some (.Attribute o f pos')) pos.line X.env = pure false := by rfl) :
    PS X (.Assign [.Attribute o f pos'] value pos) (tS X.K W (fldS c i f F)) := by
  refine psTo (ps_fld ho hv hs) fun D σ H ⟨h, ρ, eh, R, q⟩ => ?_
  subst eh
  unfold fldS at q
  cases es : slot ρ i with
  | j l c0 fs0 =>
    rw [es] at q
    dsimp only at q
    refine (tX_mk (f := F) R (q.then fun r v h' _ R' g' ok q' => ?_) : tX X.K W F σ h.H _)
    cases ek : r.keep with
    | bad => rw [ek] at q'; exact q'.elim
    | exc c p => exact absurd ek keep_ne
    | ok d =>
      rw [ek] at q'
      dsimp only at q'
      split at q'
      · rename_i hcc
        obtain ⟨ec, hl⟩ := hcc
        subst ec
        obtain ⟨h2, eh2, R2, g2, dv⟩ := keep_ok R R' g' ek ok
        obtain ⟨vs, dx, ex, hl2, hf2, hd2⟩ := ins_now R2 es
        have M := R2.mut (i := i) (s := .j l c0 fs0) (s' := .j l c0 (putD f d fs0)) (l := l) (o := .ins (clsOf X.K c0) dx (putF f v vs)) (slot_some es (by intro z; cases z)) rfl rfl ex ⟨_, dx, rfl, upd_same, hf2, kv_put dv hd2⟩
        rw [← eh2]
        exact ⟨.ref l, ex, l, _, dx, vs, rfl, hl2, hc, hn, by rw [kv_len hd2]; omega, q' σ _ M.1 (g2.sg.trans M.2)⟩
      · exact q'.elim
  | _ =>
    rw [es] at q
    exact q.elim
/-! o.m(..) -/
/-- is it an instance of c, without an attribute m -/
def isI (c m : Str) (a : Rv) : Bool := match a.dat with
  | some d => (match insD c d with | some fs => (fldD m fs).isNone | none => false)
  | none => false
theorem isI_ok {h : Hs} {H0 : Hp} {v : V} {c m : Str} {a : Rv} (ch : Ch h) (e : isI c m a = true) (ok : RvOk K H0 h v a) : ∃ l dx vs, v = .ref l ∧ h.H l = some (.ins (clsOf K c) dx vs) ∧ vs.lookup m = none := by
  unfold isI at e
  split at e
  · rename_i d ed
    split at e
    · rename_i fs ef
      obtain ⟨l, dx, vs, e1, e2, e3⟩ := dp_ins ef (ok.dp ch ed)
      exact ⟨l, dx, vs, e1, e2, (DpFs.fld e3).2 (Option.isNone_iff_eq_none.mp e)⟩
    · cases e
  · cases e
def mthF (c m : Str) (g : List Sl → Fr) (f : EF) (r : AF) : EF := fun ρ => (f ρ).bind fun a => a.frz.bind fun a' => if isI c m a' = true then (r ρ).bind fun rs => (g ((a' :: rs).map Rv.sl)).rv else .bad
/-- a method within what may be let out -/
def tMethSq (C : Addr) (m : Str) (sp : Sp) (dvs : List V) (E : L2.St → XK) (ta : TE) (t : TA) : TE := fun σ H Q => ta σ H fun x H1 => ∃ a dx fs, x = .ref a ∧ H1 a = some (.ins C dx fs) ∧ fs.lookup m = none ∧ t σ H1 fun vs H2 => sp (x :: (vs ++ dvs)) H2 Q (E σ)
theorem run_fnSq {CX : CXT} {k : Nat} {f : Addr} {fd : FuncData} {ps : List Str} {sp : Sp} {dvs : List V} {ds : List Value} {E : L2.St → XK} {pins : List (Addr × Obj)} {σ : L2.St} {H : Hp} {s : Shared} {Q : VK} {us : List Value} {vs : List V} (F : FnOk X.prog X.w X.K X.mg X.base CX k f fd ps sp) (hr : Room k X.A) (hb : Binds X.K fd ps ds) (hd : Vals dvs ds) (hx : PassesAt CX X σ (E σ))
    (I : Inv X pins σ H s) (r : Vals vs us) (h : sp (vs ++ dvs) H Q (E σ)) : wpAny (model X.prog X.w) X.A (call (.ref f) us) (EP X pins σ Q) X.xe s := by
  have r2 := r.append hd
  have hl : (us ++ ds).length = ps.length := by rw [← r2.length]; exact F.len _ _ _ _ h
  refine wpAny_call (codeAny_mono (F.run X.A X.stack s H ⟨us, []⟩ (us ++ ds) _ Q (E σ) hr I.env0 (hb s us I.kIn hl) r2 h) fun r s' hq => ?_)
  cases r with
  | error e => exact hx pins H s e s' I hq
  | ok fl =>
    cases fl with
    | ret u => exact I.after hq
    | next => exact False.elim hq
    | brk => exact False.elim hq
    | cont => exact False.elim hq
theorem pe_methSq {CX : CXT} {k : Nat} {f C : Addr} {fd : FuncData} {ps : List Str} {sp : Sp} {dvs : List V} {ds : List Value} {E : L2.St → XK} {m : Str} {pos apos : Pos} {e o : Expr} {es : List Expr} {ta : TE} {t : TA} {pl : Sem Bool} (he : PE X o ta) (c : Cls X.K C) (hm : Meth X.K C m f)
    (F : FnOk X.prog X.w X.K X.mg X.base CX k f fd ps sp) (hr : Room k X.A) (hb : Binds X.K fd ps ds) (hd : Vals dvs ds) (hx : ∀ σ, PassesAt CX X σ (E σ)) (ha : PA X (e :: es) t)
    (hst : starEach (e :: es) X.env = (false, eval e X.env) :: starEach es X.env := by rfl) (hpl : (backTo pos (starEach es X.env)).any (·.1) = false := by rfl)
    (ht : eval (.Call (.Attribute o m apos) (e :: es) [] pos) X.env = (do
      let ov ← eval o X.env
      standAt apos.atName
      let (f, first) ← holding [ov] (getMethod ov m pl)
      callWith pos f first (backTo pos (starEach (e :: es) X.env)) (backToKw pos (keywordEach [] X.env))) := by rfl) :
    PE X (.Call (.Attribute o m apos) (e :: es) [] pos) (tMethSq C m sp dvs E ta t) := by
  refine ⟨fun pins s σ H Q I h => ?_⟩
  refine PySem.W.methodCall_KW (pl := pl) (thn (he.run pins s σ H _ I h) fun u s1 ⟨x, H1, I1, rx, a, dx, fs, ex, ea, l, q⟩ => ?_) ht
  subst ex
  obtain rfl : u = Value.ref a := rx
  refine getmeth_ok I1 ea c hm l ?_
  refine PySem.W.callWith_K (first := [.ref a]) (h₀ := X.base) I.ok.mod.kin hm.kp (thn (ha.run pos pins s1 σ H1 _ I1 q) fun us s2 ⟨vs, H2, I2, r, q2⟩ => ⟨I2.kIn, ?_⟩) hst hpl
  exact run_fnSq (us := .ref a :: us) (vs := .ref a :: vs) F hr hb hd (hx σ) I2 (.cons rfl r) q2
theorem pe_methSq0 {CX : CXT} {k : Nat} {f C : Addr} {fd : FuncData} {ps : List Str} {sp : Sp} {dvs : List V} {ds : List Value} {E : L2.St → XK} {m : Str} {pos apos : Pos} {o : Expr} {ta : TE} {pl : Sem Bool} (he : PE X o ta) (c : Cls X.K C) (hm : Meth X.K C m f)
    (F : FnOk X.prog X.w X.K X.mg X.base CX k f fd ps sp) (hr : Room k X.A) (hb : Binds X.K fd ps ds) (hd : Vals dvs ds) (hx : ∀ σ, PassesAt CX X σ (E σ))
    (ht : eval (.Call (.Attribute o m apos) [] [] pos) X.env = (do
      let ov ← eval o X.env
      standAt apos.atName
      let (f, first) ← holding [ov] (getMethod ov m pl)
      callWith pos f first (backTo pos (starEach [] X.env)) (backToKw pos (keywordEach [] X.env))) := by rfl) :
    PE X (.Call (.Attribute o m apos) [] [] pos) (tMethSq C m sp dvs E ta tNil) := by
  refine ⟨fun pins s σ H Q I h => ?_⟩
  refine PySem.W.methodCall_KW (pl := pl) (thn (he.run pins s σ H _ I h) fun u s1 ⟨x, H1, I1, rx, a, dx, fs, ex, ea, l, q⟩ => ?_) ht
  subst ex
  obtain rfl : u = Value.ref a := rx
  refine getmeth_ok I1 ea c hm l ?_
  exact PySem.W.callWith_K0 (first := [.ref a]) I1.kIn hm.kp (run_fnSq (us := [.ref a]) (vs := [.ref a]) F hr hb hd (hx σ) I1 (.cons rfl .nil) q)
/-- what the promise of a def gives its caller -/
theorem fsp_use {Wx : WX} {h : Hs} {ρ : Env} {σ : L2.St} {Q : VK} {g : List Sl → Fr} {vs : List V} {rs : List Rv} {n : Nat} (hW' : ∀ c p σ h, W c p σ h → WFx K cm Wx c p σ h) (R : Rel K h ρ σ) (ok : RvsOk K h vs rs) (hn : vs.length = n) (q : PE1 K W h ρ σ Q (g (rs.map Rv.sl)).rv) : fsp K cm n g vs h.H Q (WE Wx σ) := by
  refine ⟨hn, h.G, rs.map Rv.sl, R.ch.gh, args_of R.ch ok, ?_⟩
  cases eg : g (rs.map Rv.sl) with
  | bad => rw [eg] at q; exact q.elim
  | exc c p =>
    rw [eg] at q
    cases p with
    | none =>
      intro G' H' cg
      obtain ⟨gr, ch⟩ := call_gr R.ch cg
      exact hW' _ _ _ _ (q (h.call G' H') (R.grow gr ch) gr)
    | some p =>
      obtain ⟨ff, xx⟩ := p
      intro G' H' d v cg hd hv
      obtain ⟨gr, ch⟩ := call_gr R.ch cg
      exact hW' _ _ _ _ (q (h.call G' H') (R.grow gr ch) gr) d v hd hv
  | ret res =>
    rw [eg] at q
    intro v G' H' cg ok'
    obtain ⟨gr, ch⟩ := call_gr R.ch cg
    have R2 := R.grow gr ch
    cases res with
    | v d => exact q v (h.call G' H') R2 gr ok'
    | b d => exact q v (h.call G' H') R2 gr ok'
    | o xs =>
      obtain ⟨l, ws, ev, n, a, b, d⟩ := ok'
      refine q v (h.call G' H') R2 gr ⟨l, ws, ev, n, a, ?_, d⟩
      show (match h.F l with | some o => some o | none => G' l) = none
      rw [R.ch.fh.back n]
      exact b
    | ok xs =>
      obtain ⟨l, ws, ev, n, a, b, d⟩ := ok'
      refine q v (h.call G' H') R2 gr ⟨l, ws, ev, n, a, ?_, d⟩
      show (match h.F l with | some o => some o | none => G' l) = none
      rw [R.ch.fh.back n]
      exact b
    | p2 xs ys =>
      obtain ⟨t, l, m, vs', ws, ev, ht, ne, ⟨n, a, b, d⟩, ⟨n2, a2, b2, d2⟩⟩ := ok'
      refine q v (h.call G' H') R2 gr ⟨t, l, m, vs', ws, ev, ht, ne, ⟨n, a, ?_, d⟩, ⟨n2, a2, ?_, d2⟩⟩
      · show (match h.F l with | some o => some o | none => G' l) = none
        rw [R.ch.fh.back n]
        exact b
      · show (match h.F m with | some o => some o | none => G' m) = none
        rw [R.ch.fh.back n2]
        exact b2
    | _ => exact q.elim
end
end Sq

/-! Own classes: methods called, isinstance, instances made. -/
namespace Sq
open PySem PySem.Spec PyProof.Rows L2
section
variable {X : Cx} {W : WF} {cm : Str → Addr} {k : Nat} {fa : Addr} {fd : FuncData} {ps : List Str} {g : List Sl → Fr} {c m : Str} {p pos apos : Pos} {o e : Expr} {es : List Expr} {f : EF} {r : AF} {pl : Sem Bool}
theorem mth_now {h h1 : Hs} {ρ : Env} {σ : L2.St} {Q : VK} {a : Rv} {v : V} (R : Rel X.K h ρ σ) (R1 : Rel X.K h1 ρ σ) (g1 : Gr h h1) (ok1 : RvOk X.K h.H h1 v a) (ea : f ρ = .ok a) (q : PE1 X.K W h ρ σ Q (mthF c m g f r ρ)) :
    ∃ h2 a' l dx vs, h2.H = h1.H ∧ Rel X.K h2 ρ σ ∧ (∀ {h3 : Hs}, Gr h2 h3 → RvF X.K h3 v a') ∧ v = .ref l ∧ h2.H l = some (.ins (clsOf X.K c) dx vs) ∧ vs.lookup m = none ∧ PE1 X.K W h2 ρ σ Q ((r ρ).bind fun rs => (g ((a' :: rs).map Rv.sl)).rv) := by
  cases ez : a.frz with
  | exc c p => exact absurd ez frz_ne
  | bad =>
    have e0 : mthF c m g f r ρ = .bad := by
      unfold mthF
      rw [ea]
      show (a.frz.bind _) = _
      rw [ez]
      rfl
    rw [e0] at q
    exact q.elim
  | ok a' =>
    obtain ⟨h2, eh, R2, g2, ok2⟩ := frz_ok R R1 g1 ez ok1
    have e0 : mthF c m g f r ρ = if isI c m a' = true then (r ρ).bind fun rs => (g ((a' :: rs).map Rv.sl)).rv else .bad := by
      unfold mthF
      rw [ea]
      show (a.frz.bind _) = _
      rw [ez]
      rfl
    rw [e0] at q
    by_cases hI : isI c m a' = true
    · rw [if_pos hI] at q
      obtain ⟨l, dx, vs, e1, e2, e3⟩ := isI_ok R2.ch hI ok2
      exact ⟨h2, a', l, dx, vs, eh, R2, fun g3 => (RvF.of ez ok2).grow g3, e1, e2, e3, PE1.shift g2 q⟩
    · rw [if_neg hI] at q
      exact q.elim
theorem xmth (tk : Tk X cm W) (hc : Cls X.K (clsOf X.K c)) (hm : Meth X.K (clsOf X.K c) m fa) (F : FnOk X.prog X.w X.K X.mg X.base (L2.CX X.prog X.w) k fa fd ps (fsp X.K cm ps.length g)) (hr : Room k X.A) (hb : Binds X.K fd ps []) (hlen : ps.length = (e :: es).length + 1)
    (ho : PE X o (tX X.K W f)) (ha : PA X (e :: es) (tXa X.K W r)) (hrl : ∀ ρ rs, r ρ = .ok rs → rs.length = (e :: es).length)
    (hst : starEach (e :: es) X.env = (false, eval e X.env) :: starEach es X.env := by rfl) (hpl : (backTo pos (starEach es X.env)).any (·.1) = false := by rfl)
    (ht : eval (.Call (.Attribute o m apos) (e :: es) [] pos) X.env = (do
      let ov ← eval o X.env
      standAt apos.atName
      let (f, first) ← holding [ov] (getMethod ov m pl)
      callWith pos f first (backTo pos (starEach (e :: es) X.env)) (backToKw pos (keywordEach [] X.env))) := by rfl) :
    PE X (.Call (.Attribute o m apos) (e :: es) [] pos) (tX X.K W (mthF c m g f r)) := by
  obtain ⟨Wx, tk, hW⟩ := tk
  refine peTo (pe_methSq (pl := pl) ho hc hm F hr hb .nil (E := WE Wx) (fun σ => passAt tk σ) ha hst hpl ht) fun σ H Q q => ?_
  obtain ⟨h, ρ, rfl, R, q⟩ := tX_iff.mp q
  refine (tX_mk (f := f) R (q.bind fun a v h1 ea R1 g1 ok1 q1 => ?_) : tX X.K W f σ h.H _)
  obtain ⟨h2, a', l, dx, vs, eh, R2, okf, e1, e2, e3, q2⟩ := mth_now R R1 g1 ok1 ea q
  rw [← eh]
  refine ⟨l, dx, vs, e1, e2, e3, h2, ρ, rfl, R2, PE1.bindA q2 fun rs us h3 er R3 g3 ok3 q3 => ?_⟩
  have okk : RvsOk X.K h3 (v :: us) (a' :: rs) := ⟨okf g3, ok3⟩
  rw [List.append_nil]
  exact fsp_use hW R3 okk (by rw [List.length_cons, ok3.len, hrl ρ rs er, hlen]) q3
theorem xmth0 (tk : Tk X cm W) (hc : Cls X.K (clsOf X.K c)) (hm : Meth X.K (clsOf X.K c) m fa) (F : FnOk X.prog X.w X.K X.mg X.base (L2.CX X.prog X.w) k fa fd ps (fsp X.K cm ps.length g)) (hr : Room k X.A) (hb : Binds X.K fd ps []) (hlen : ps.length = 1)
    (ho : PE X o (tX X.K W f))
    (ht : eval (.Call (.Attribute o m apos) [] [] pos) X.env = (do
      let ov ← eval o X.env
      standAt apos.atName
      let (f, first) ← holding [ov] (getMethod ov m pl)
      callWith pos f first (backTo pos (starEach [] X.env)) (backToKw pos (keywordEach [] X.env))) := by rfl) :
    PE X (.Call (.Attribute o m apos) [] [] pos) (tX X.K W (mthF c m g f aNil)) := by
  obtain ⟨Wx, tk, hW⟩ := tk
  refine peTo (pe_methSq0 (pl := pl) ho hc hm F hr hb .nil (E := WE Wx) (fun σ => passAt tk σ) ht) fun σ H Q q => ?_
  obtain ⟨h, ρ, rfl, R, q⟩ := tX_iff.mp q
  refine (tX_mk (f := f) R (q.bind fun a v h1 ea R1 g1 ok1 q1 => ?_) : tX X.K W f σ h.H _)
  obtain ⟨h2, a', l, dx, vs, eh, R2, okf, e1, e2, e3, q2⟩ := mth_now R R1 g1 ok1 ea q
  rw [← eh]
  refine ⟨l, dx, vs, e1, e2, e3, ?_⟩
  have okk : RvsOk X.K h2 [v] [a'] := ⟨okf (Gr.refl _), trivial⟩
  have q3 : PE1 X.K W h2 ρ σ Q (g ([a'].map Rv.sl)).rv := q2
  exact fsp_use hW R2 okk (by rw [hlen]; rfl) q3
/-! isinstance(x, C), C an own class -/
structure ClsT (K : PySem.W.Frag) (C : Addr) : Prop where
  cl : Cls K C
  ha : PySem.W.findIn K (.ref C) "__class__" = some (some (.builtin "object.__class__"))
  hn : PySem.W.specialIn K (.builtin "object.__class__") "__get__" = some (some (.builtin "getset_descriptor.__get__"))
  ht : PySem.W.takesIn K (.builtin "object.__class__") = some true
  hm : PySem.W.mroIn K C (.type "object") = some true
theorem kitOne_self {K : PySem.W.Frag} {C : Addr} : PySem.W.kitOne K (.ref C) (.ref C) = some true := by
  unfold PySem.W.kitOne
  rw [if_pos (by simp)]
def isCR (c : Str) (a : Rv) : Er Rv := match a.dat with
  | some d => (match insD c d with | some _ => .ok (.v (.bool true)) | none => .bad)
  | none => .bad
theorem xisC {a : Expr} {F : EF} {pT : Pos} (hg : Gl X "isinstance") (hm : X.mg "isinstance" = none) (T : ClsT X.K (clsOf X.K c)) (ha : PE X a (tX X.K W F)) (hgT : Gl X c) (hmT : X.mg c = some (.ref (clsOf X.K c))) (hd : (c == ("__debug__" : Str)) = false := by decide)
    (hs : starEach [a, .Name c pT] X.env = (false, eval a X.env) :: starEach [.Name c pT] X.env := by rfl) (hs2 : starEach [.Name c pT] X.env = (false, eval (.Name c pT) X.env) :: starEach [] X.env := by rfl) :
    PE X (.Call (.Name "isinstance" p) [a, .Name c pT] [] pos) (tX X.K W (unF (isCR c) F)) := by
  have hT : PE X (.Name c pT) (tC (.ref (clsOf X.K c))) := pe_glob hgT hmT rfl hd
  refine peTo (pe_callB call_isi hg hm boot_isinstance (pa_cons ha (pa_cons hT pa_nil hs2) hs) (he := hs) (hpl := by rw [hs2]; rfl)) fun σ H Q q => ?_
  obtain ⟨h, ρ, rfl, R, q⟩ := tX_iff.mp q
  refine (tX_mk (f := F) R (q.bind fun a v h1 _ R1 g1 ok1 q1 => ?_) : tX X.K W F σ h.H _)
  unfold isCR at q1
  split at q1
  · rename_i d ed
    split at q1
    · rename_i fs ef
      obtain ⟨l, dx, vs, e1, e2, _⟩ := dp_ins ef (ok1.dp R1.ch ed)
      subst e1
      exact ⟨.ref l, .ref _, .ref _, .ref _, true, rfl, .own _, .base (.ins e2 T.cl T.ha T.hn T.ht T.hm), kitOne_self, q1.now R1 (.bl _)⟩
    · exact q1.elim
  · exact q1.elim
end
/-! ### __init__ -/
def fnIa (l : Addr) (c : Str) (bf : SF) (n : Nat) (as : List Sl) : Fr := match bf ((.j l c [] :: as) ++ List.replicate (n - (as.length + 1)) .u) with
  | .next ρ => (match slot ρ 0 with
    | .j l' c' fs => if l' = l ∧ c' = c then .ret (.oi c fs) else .bad
    | _ => .bad)
  | .exc c none _ => .exc c none
  | _ => .bad
def fnI (c : Str) (bf : SF) (n : Nat) (as : List Sl) : Fr := fnIa 0 c bf n as
/-! rows that do not look at the address -/
def swS (l : Addr) : Sl → Sl
  | .j _ c fs => .j l c fs
  | s => s
def swE (l : Addr) (ρ : Env) : Env := ρ.map (swS l)
def swR (l : Addr) : Res → Res
  | .next ρ => .next (swE l ρ)
  | .ret r => .ret r
  | .brk ρ => .brk (swE l ρ)
  | .cont ρ => .cont (swE l ρ)
  | .exc c p ρ => .exc c p (swE l ρ)
  | .bad => .bad
def EqE {α : Type} (f : Env → α) : Prop := ∀ l ρ, f (swE l ρ) = f ρ
def EqG (τ : TF) : Prop := ∀ r l ρ, τ r (swE l ρ) = (match τ r ρ with | .ok ρ' => .ok (swE l ρ') | .exc c p => .exc c p | .bad => .bad)
def EqS (f : SF) : Prop := ∀ l ρ, f (swE l ρ) = swR l (f ρ)
theorem sw_slot (l : Addr) (ρ : Env) (i : Nat) : slot (swE l ρ) i = swS l (slot ρ i) := by
  unfold slot swE
  rw [List.getD_eq_getElem?_getD, List.getD_eq_getElem?_getD, List.getElem?_map]
  cases ρ[i]? <;> rfl
theorem sw_set (l : Addr) (ρ : Env) (i : Nat) (s : Sl) : (swE l ρ).set i (swS l s) = swE l (ρ.set i s) := by
  unfold swE
  rw [List.map_set]
theorem eqe_var (i : Nat) : EqE (varF i) := fun l ρ => by
  unfold varF
  rw [sw_slot]
  cases slot ρ i <;> rfl
theorem eqe_c (d : D) : EqE (cF d) := fun _ _ => rfl
theorem eqe_un {χ : Rv → Er Rv} {f : EF} (h : EqE f) : EqE (unF χ f) := fun l ρ => by simp only [unF, h l ρ]
theorem eqe_bin {χ : Rv → Rv → Er Rv} {f g : EF} (h : EqE f) (k : EqE g) : EqE (binF χ f g) := fun l ρ => by simp only [binF, h l ρ, k l ρ]
theorem eqe_anil : EqE aNil := fun _ _ => rfl
theorem eqe_acons {f : EF} {r : AF} (h : EqE f) (k : EqE r) : EqE (aCons f r) := fun l ρ => by simp only [aCons, h l ρ, k l ρ]
theorem eqe_call {g : List Sl → Fr} {r : AF} (h : EqE r) : EqE (callF g r) := fun l ρ => by simp only [callF, h l ρ]
theorem eqe_def {ds : List D} {r : AF} (h : EqE r) : EqE (aDef ds r) := fun l ρ => by simp only [aDef, h l ρ]
theorem eqe_tst {f : EF} (h : EqE f) : EqE (tstF f) := fun l ρ => by simp only [tstF, h l ρ]
theorem eqe_not {t : Env → Er Bool} (h : EqE t) : EqE (notT t) := fun l ρ => by simp only [notT, h l ρ]
theorem eqe_or {t u : Env → Er Bool} (h : EqE t) (k : EqE u) : EqE (orT t u) := fun l ρ => by simp only [orT, h l ρ, k l ρ]
theorem eqe_and {t u : Env → Er Bool} (h : EqE t) (k : EqE u) : EqE (andT t u) := fun l ρ => by simp only [andT, h l ρ, k l ρ]
theorem eqg_asgn (i : Nat) : EqG (asgn i) := fun r l ρ => by
  have key : ∀ s : Sl, swS l s = s → (swE l ρ).set i s = swE l (ρ.set i s) := fun s e => by rw [← sw_set, e]
  cases r with
  | v d => show Er.ok _ = Er.ok _; rw [key _ rfl]
  | b d => show Er.ok _ = Er.ok _; rw [key _ rfl]
  | o d => show Er.ok _ = Er.ok _; rw [key _ rfl]
  | ok d => show Er.ok _ = Er.ok _; rw [key _ rfl]
  | ot d => show Er.ok _ = Er.ok _; rw [key _ rfl]
  | r d =>
    unfold asgn
    dsimp only
    split
    · dsimp only
      rw [key _ rfl]
    · rfl
  | _ => rfl
theorem eqs_asg {f : EF} {τ : TF} (h : EqE f) (k : EqG τ) : EqS (asgS f τ) := fun l ρ => by
  unfold asgS
  rw [h l ρ]
  cases f ρ with
  | ok r =>
    show liftE (swE l ρ) (τ r (swE l ρ)) = swR l (liftE ρ (τ r ρ))
    rw [k r l ρ]
    cases τ r ρ <;> rfl
  | exc c p => rfl
  | bad => rfl
theorem eqs_seq {f g : SF} (h : EqS f) (k : EqS g) : EqS (seqS f g) := fun l ρ => by
  unfold seqS
  rw [h l ρ]
  cases f ρ with
  | next ρ' => exact k l ρ'
  | _ => rfl
theorem eqs_if {t : Env → Er Bool} {f g : SF} (h : EqE t) (k : EqS f) (m : EqS g) : EqS (ifS t f g) := fun l ρ => by
  unfold ifS
  rw [h l ρ]
  cases t ρ with
  | ok b =>
    cases b with
    | true => exact k l ρ
    | false => exact m l ρ
  | exc c p => rfl
  | bad => rfl
theorem eqs_skip : EqS skipS := fun _ _ => rfl
theorem eqs_exc (c : Str) : EqS (excS c) := fun _ _ => rfl
theorem eqs_fld {c f : Str} {i : Nat} {F : EF} (h : EqE F) : EqS (fldS c i f F) := fun l ρ => by
  unfold fldS
  rw [sw_slot, h l ρ]
  cases slot ρ i with
  | j a c0 fs0 =>
    show thenS (swE l ρ) (F ρ) _ = swR l (thenS ρ (F ρ) _)
    cases F ρ with
    | ok r =>
      show (match r.keep with | .ok d => _ | _ => _) = swR l (match r.keep with | .ok d => _ | _ => _)
      cases r.keep with
      | ok d =>
        dsimp only
        show (if c0 = c ∧ fs0.length < 900 then Res.next ((swE l ρ).set i (.j l c (putD f d fs0))) else .bad) = swR l (if c0 = c ∧ fs0.length < 900 then Res.next (ρ.set i (.j a c (putD f d fs0))) else .bad)
        split
        · show Res.next _ = Res.next _
          rw [← sw_set]
          rfl
        · rfl
      | exc c p => rfl
      | bad => rfl
    | exc c p => rfl
    | bad => rfl
  | _ => rfl
/-- the address does not matter -/
theorem fnI_any {c : Str} {bf : SF} {n : Nat} {as : List Sl} {l : Addr} (h : EqS bf) (ha : ∀ s ∈ as, swS l s = s) : bf ((.j l c [] :: as) ++ List.replicate (n - (as.length + 1)) .u) = swR l (bf ((.j 0 c [] :: as) ++ List.replicate (n - (as.length + 1)) .u)) := by
  rw [← h l]
  congr 1
  unfold swE
  rw [List.map_append, List.map_cons, List.map_replicate]
  have : as.map (swS l) = as := by
    conv => rhs; rw [← List.map_id as]
    exact List.map_congr_left fun s hs => ha s hs
  rw [this]
  rfl
end Sq

/-! Own classes: __init__ and instances made. -/
namespace Sq
open PySem PySem.Spec PyProof.Rows L2
def fspI (K : PySem.W.Frag) (cm : Str → Addr) (c : Str) (n : Nat) (g : List Sl → Fr) : Sp := fun vs H Q E => vs.length = n ∧ ∃ (G : Hp) (l dx : Addr) (vr : List V) (as : List Sl), vs = .ref l :: vr ∧ Ex G H ∧ G l = none ∧ H l = some (.ins (clsOf K c) dx []) ∧ ArgsOk K G (butl H l) vr as ∧ match g as with
  | .ret (.oi c' fs) => c' = c ∧ ∀ G' H', CGm G H l G' H' → (∃ dx' us, H' l = some (.ins (clsOf K c) dx' us) ∧ G' l = none ∧ KvD K G' us fs) → Q .non H'
  | .exc e none => ∀ G' H', CGm G H l G' H' → E (.ref (cm e)) none H'
  | _ => False
section
variable {P : Program} {w : World} {K : PySem.W.Frag} {mg : Str → Option Value} {base : Heap}
theorem ArgsOk.sw {G H : Hp} : ∀ {vs : List V} {as : List Sl}, ArgsOk K G H vs as → ∀ l, ∀ s ∈ as, swS l s = s
  | _ :: _, .v _ :: _, q, l, s, hs => by
    rcases List.mem_cons.mp hs with e | e
    · rw [e]; rfl
    · exact ArgsOk.sw q.2 l s e
  | _ :: _, .b _ :: _, q, l, s, hs => by
    rcases List.mem_cons.mp hs with e | e
    · rw [e]; rfl
    · exact ArgsOk.sw q.2 l s e
  | [], [], _, _, s, hs => by cases hs
  | [], _ :: _, q, _, _, _ => q.elim
  | _ :: _, [], q, _, _, _ => q.elim
  | _ :: _, .u :: _, q, _, _, _ => q.elim
  | _ :: _, .x _ :: _, q, _, _, _ => q.elim
  | _ :: _, .o _ :: _, q, _, _, _ => q.elim
  | _ :: _, .k _ :: _, q, _, _, _ => q.elim
  | _ :: _, .t _ :: _, q, _, _, _ => q.elim
  | _ :: _, .i _ _ :: _, q, _, _, _ => q.elim
  | _ :: _, .j _ _ _ :: _, q, _, _, _ => q.elim
theorem rel_startI {N : List Str} {G H : Hp} {l dx : Addr} {c : Str} {vr : List V} {as : List Sl} (c0 : Ex G H) (gl : G l = none) (hl : H l = some (.ins (clsOf K c) dx [])) (ok : ArgsOk K G (butl H l) vr as) (hn : (vr.length + 1) ≤ N.length) :
    Rel K ⟨G, butl H l, H⟩ ((.j l c [] :: as) ++ List.replicate (N.length - (as.length + 1)) .u) (L2.start N (.ref l :: vr)) := by
  have el := ok.len
  have gf : Ex G (butl H l) := fun a o e => by
    unfold butl
    rw [if_neg (fun z => by rw [z, gl] at e; cases e)]
    exact c0 a o e
  have at' : ∀ {i : Nat} {s : Sl}, ((Sl.j l c [] :: as) ++ List.replicate (N.length - (as.length + 1)) Sl.u)[i]? = some s → (i = 0 ∧ s = .j l c []) ∨ (∃ j, i = j + 1 ∧ as[j]? = some s) ∨ s = .u := fun {i s} e => by
    cases i with
    | zero =>
      left
      refine ⟨rfl, ?_⟩
      simpa using e.symm
    | succ j =>
      right
      rw [List.cons_append, List.getElem?_cons_succ, List.getElem?_append] at e
      split at e
      · exact .inl ⟨j, rfl, e⟩
      · right
        rw [List.getElem?_replicate] at e
        split at e
        · cases e; rfl
        · cases e
  have noown : ∀ {j : Nat} {s : Sl}, as[j]? = some s → s.own = true → False := fun {j s} e o => by
    obtain ⟨v, _, q⟩ := ok.get e
    rcases q with ⟨d, rfl, _⟩ | ⟨d, rfl, _⟩ <;> cases o
  refine ⟨⟨gf, fun a o e => ?_⟩, ?_, fun i s x e1 e2 => ?_, fun i j s t a b hij e1 e2 o1 o2 _ _ => ?_⟩
  · have e' : (if a = l then none else H a) = some o := e
    split at e'
    · cases e'
    · exact e'
  · unfold L2.start
    simp
    omega
  · rcases at' e1 with ⟨rfl, rfl⟩ | ⟨j, rfl, ea⟩ | rfl
    · have : x = some (.ref l) := by
        unfold L2.start at e2
        simp at e2
        exact e2.symm
      refine ⟨[], dx, this, hl, ?_, .nil⟩
      show (if l = l then none else H l) = none
      rw [if_pos rfl]
    · obtain ⟨v, ev, q⟩ := ok.get ea
      have hx : x = some v := by
        unfold L2.start at e2
        have hi : j + 1 < (V.ref l :: vr).length := by
          have := (List.getElem?_eq_some_iff.mp ev).1
          simp
          omega
        rw [List.getElem?_append_left (by simpa using hi), List.getElem?_map, List.getElem?_cons_succ, ev] at e2
        cases e2
        rfl
      rcases q with ⟨d, rfl, q⟩ | ⟨d, rfl, q⟩
      · exact ⟨v, hx, q⟩
      · exact ⟨v, hx, q⟩
    · trivial
  · exfalso
    rcases at' e1 with ⟨rfl, rfl⟩ | ⟨j', rfl, ea⟩ | rfl
    · rcases at' e2 with ⟨rfl, rfl⟩ | ⟨j'', rfl, ea'⟩ | rfl
      · exact hij rfl
      · exact noown ea' o2
      · cases o2
    · exact noown ea o1
    · cases o1
theorem init_go {cm : Str → Addr} {c : Str} {N : List Str} {n : Nat} {bf : SF} {vs : List V} {H : Hp} {Q : VK} {E : XK} (hn : n ≤ N.length) (hbl : EqS bf) (h : fspI K cm c n (fnI c bf N.length) vs H Q E) : tS K (WFx K cm fun cls d _ H => E cls d H) bf { nx := fun _ H' => Q .non H', rt := Q } (L2.start N vs) H := by
  obtain ⟨hl, G, l, dx, vr, as, rfl, c0, gl, hH, ok, q⟩ := h
  have el := ok.len
  have R := rel_startI (N := N) c0 gl hH ok (by simp at hl; omega)
  refine ⟨⟨G, butl H l, H⟩, _, rfl, R, ?_⟩
  rw [fnI_any hbl (ok.sw l)]
  unfold fnI fnIa at q
  have hf : ∀ a : Addr, butl H l a = none → H a = none ∨ a = l := fun a z => by
    unfold butl at z
    split at z
    · right; assumption
    · left; exact z
  have cg : ∀ {h' : Hs}, Ch h' → SG ⟨G, butl H l, H⟩ h' → CGm G H l h'.G h'.H := fun {h'} c' g' => ⟨g'.g, fun a o hne e => by
    refine c'.fh a o (g'.f a o ?_)
    show (if a = l then none else H a) = some o
    rw [if_neg hne]
    exact e, c'.gh, fun a o e z => hf a (g'.gn a o e z)⟩
  cases e : bf ((Sl.j 0 c [] :: as) ++ List.replicate (N.length - (as.length + 1)) .u) with
  | next ρ' =>
    rw [e] at q
    dsimp only at q
    cases es : slot ρ' 0 with
    | j l' c' fs =>
      rw [es] at q
      dsimp only at q
      by_cases hcc : l' = 0 ∧ c' = c
      · rw [if_pos hcc] at q
        obtain ⟨rfl, rfl⟩ := hcc
        intro σ' h' R' g'
        have es2 : slot (swE l ρ') 0 = .j l c' fs := by rw [sw_slot, es]; rfl
        obtain ⟨us, dx', ex, a, b, d⟩ := ins_now R' es2
        exact q.2 h'.G h'.H (cg R'.ch g') ⟨dx', us, a, R'.ch.gf.back b, d⟩
      · rw [if_neg hcc] at q
        exact q.elim
    | _ =>
      rw [es] at q
      exact q.elim
  | exc cc p ρ' =>
    rw [e] at q
    cases p with
    | none =>
      intro σ' h' R' g'
      exact q h'.G h'.H (cg R'.ch g')
    | some p => exact q.elim
  | _ => rw [e] at q; exact q.elim
theorem fn_okI {cm : Str → Addr} {c : Str} {x qual : Str} {st : Stmt} {f : Addr} {fd : FuncData} {N ps : List Str} {k : Nat} {bf : SF} (F : Fun K x qual st f fd) (S : FnScope N ps (defScope st)) (hps : ps.length ≤ N.length) (hbl : EqS bf)
    (body : ∀ (cdv : Value) (A : Around) (outer : List PySem.Env) (s : Shared) (H : Hp) (E : XK), Room k (A.deeper (envOfC qual (defScope st) s.heap.objs.size f cdv)) →
      PSs (bodyCx P w K mg base N qual st f cdv A outer s H E) (defBody st) (tS K (WFx K cm fun cls d _ H => E cls d H) bf)) :
    FnOk P w K mg base (L2.CX P w) (k + 1) f fd ps (fspI K cm c ps.length (fnI c bf N.length)) :=
  F.okX S (fun vs H Q E h => h.1) fun cdv A outer s H vs Q E hr h => ⟨_, body cdv A outer s H E hr, init_go hps hbl h⟩
theorem fn_okID {cm : Str → Addr} {c : Str} {x qual : Str} {st : Stmt} {f : Addr} {fd : FuncData} {dvs : List V} {kws : List (Str × V)} {N ps : List Str} {k : Nat} {bf : SF} (F : FunD K x qual (defArgs st) (defBody st) (defScope st) dvs kws f fd) (S : FnScope N ps (defScope st)) (hps : ps.length ≤ N.length) (hbl : EqS bf)
    (body : ∀ (cdv : Value) (A : Around) (outer : List PySem.Env) (s : Shared) (H : Hp) (E : XK), Room k (A.deeper (envOfC qual (defScope st) s.heap.objs.size f cdv)) →
      PSs (bodyCx P w K mg base N qual st f cdv A outer s H E) (defBody st) (tS K (WFx K cm fun cls d _ H => E cls d H) bf)) :
    FnOk P w K mg base (L2.CX P w) (k + 1) f fd ps (fspI K cm c ps.length (fnI c bf N.length)) :=
  F.ok S (fun vs H Q E h => h.1) fun cdv A outer s H vs Q E hr h => ⟨_, body cdv A outer s H E hr, init_go hps hbl h⟩
/-- behind the making of an instance: the caller's heaps -/
theorem make_gr {h : Hs} (c : Ch h) {x dx : Addr} {o0 o1 : HO} (hx : h.H x = none) (hdx : h.H dx = none) {G' H' : Hp} (g : CGm h.G (upd (upd h.H dx o0) x o1) x G' H') : Gr h (h.call G' H') ∧ Ch (h.call G' H') := by
  have new : ∀ a o, h.H a = some o → upd (upd h.H dx o0) x o1 a = some o := fun a o e => by
    have n1 : a ≠ x := fun z => by rw [z, hx] at e; cases e
    have n2 : a ≠ dx := fun z => by rw [z, hdx] at e; cases e
    rw [upd_ne n1, upd_ne n2]
    exact e
  have old : ∀ a, (upd (upd h.H dx o0) x o1 a = none ∨ a = x) → h.H a = none := fun a z => by
    rcases z with z | z
    · cases e : h.H a with
      | none => rfl
      | some o => rw [new a o e] at z; cases z
    · rw [z]; exact hx
  have hx' : ∀ a o, h.H a = some o → H' a = some o := fun a o e => g.h a o (fun z => by rw [z, hx] at e; cases e) (new a o e)
  refine ⟨⟨g.g, fun a o e => ?_, hx', fun a o e z => c.fh.back (old a (g.n a o e z)), fun a o e z => ?_⟩, ⟨fun a o e => ?_, fun a o e => ?_⟩⟩
  · show (match h.F a with | some o => some o | none => G' a) = some o
    rw [e]
  · have e' : (match h.F a with | some o => some o | none => G' a) = some o := e
    rw [z] at e'
    exact old a (g.n a o e' (c.gf.back z))
  · show (match h.F a with | some o => some o | none => G' a) = some o
    cases q : h.F a with
    | none => exact e
    | some u =>
      cases z : h.G a with
      | none =>
        have := old a (g.n a o e z)
        rw [c.fh a u q] at this
        cases this
      | some t =>
        have e1 := g.g a t z
        have e0 : G' a = some o := e
        rw [e0] at e1
        cases e1
        have e2 := c.gf a _ z
        rw [q] at e2
        exact e2
  · have e' : (match h.F a with | some o => some o | none => G' a) = some o := e
    cases q : h.F a with
    | none =>
      rw [q] at e'
      exact g.c a o e'
    | some u =>
      rw [q] at e'
      cases e'
      exact hx' a _ (c.fh a _ q)
theorem ArgsOk.mono {G H H2 : Hp} (h : Ex H H2) : ∀ {vs : List V} {as : List Sl}, ArgsOk K G H vs as → ArgsOk K G H2 vs as
  | _ :: _, .v _ :: _, q => ⟨q.1, ArgsOk.mono h q.2⟩
  | _ :: _, .b _ :: _, q => ⟨ex_dp h q.1, ArgsOk.mono h q.2⟩
  | [], [], _ => trivial
  | [], _ :: _, q => q.elim
  | _ :: _, [], q => q.elim
  | _ :: _, .u :: _, q => q.elim
  | _ :: _, .x _ :: _, q => q.elim
  | _ :: _, .o _ :: _, q => q.elim
  | _ :: _, .k _ :: _, q => q.elim
  | _ :: _, .t _ :: _, q => q.elim
  | _ :: _, .i _ _ :: _, q => q.elim
  | _ :: _, .j _ _ _ :: _, q => q.elim
end
section
variable {X : Cx} {W : WF} {cm : Str → Addr}
def makR (c : Str) : Fr → Er Rv
  | .ret (.oi c' fs) => if c' = c then .ok (.v (ob c fs)) else .bad
  | .exc e none => .exc e none
  | _ => .bad
/-- an instance is made, and stays as it is -/
def makF (c : Str) (g : List Sl → Fr) (r : AF) : EF := fun ρ => (r ρ).bind fun rs => makR c (g (rs.map Rv.sl))
/-- C(..) within what may be let out -/
def tMakeSq (C : Addr) (sp : Sp) (dvs : List V) (E : L2.St → XK) (t : TA) : TE := fun σ H Q => t σ H fun vs H1 => ∀ x dx, H1 x = none → H1 dx = none → dx ≠ x →
  sp (.ref x :: (vs ++ dvs)) (upd (upd H1 dx (.own x)) x (.ins C dx [])) (fun v H2 => v = .non ∧ Q (.ref x) H2) (E σ)
theorem run_makeSq {CX : CXT} {k : Nat} {f C : Addr} {fd : FuncData} {ps : List Str} {sp : Sp} {dvs : List V} {ds : List Value} {E : L2.St → XK} {pins : List (Addr × Obj)} {σ : L2.St} {H : Hp} {s : Shared} {Q : VK} {us : List Value} {vs : List V} (M : Mk X.K C f) (F : FnOk X.prog X.w X.K X.mg X.base CX k f fd ps sp) (hr : Room (k + 1) X.A) (hb : Binds X.K fd ps ds) (hd : Vals dvs ds)
    (hx : PassesAt CX X σ (E σ)) (I : Inv X pins σ H s) (r : Vals vs us)
    (h : ∀ x dx, H x = none → H dx = none → dx ≠ x → sp (.ref x :: (vs ++ dvs)) (upd (upd H dx (.own x)) x (.ins C dx [])) (fun v H2 => v = .non ∧ Q (.ref x) H2) (E σ)) :
    wpAny (model X.prog X.w) X.A (call (.ref C) us) (EP X pins σ Q) X.xe s := by
  have hq := h (s.heap.objs.size + 1) s.heap.objs.size (I.hok.fresh (Nat.le_succ _)) (I.hok.fresh (Nat.le_refl _)) (Nat.ne_of_lt (Nat.lt_succ_self _))
  have I2 := Inv.made (C := C) I
  have r2 : Vals (V.ref (s.heap.objs.size + 1) :: (vs ++ dvs)) (Value.ref (s.heap.objs.size + 1) :: (us ++ ds)) := .cons rfl (r.append hd)
  have hl : (Value.ref (s.heap.objs.size + 1) :: us ++ ds).length = ps.length := by
    have e := r2.length
    rw [F.len _ _ _ _ hq] at e
    exact e.symm
  refine wpAny_call (make_map (f := f) I.kIn M.makes M.init (beq_iff_eq.mp M.fn) (codeAny_mono (F.run _ X.stack _ _ ⟨Value.ref (s.heap.objs.size + 1) :: us, []⟩ (Value.ref (s.heap.objs.size + 1) :: (us ++ ds)) _ _ (E σ) (hr.make C us [])
    (I2.env0.make C us []) (hb _ (Value.ref (s.heap.objs.size + 1) :: us) I2.kIn hl) r2 hq) fun r s' hq' => ?_))
  cases r with
  | error e => exact hx pins _ _ e s' I2 hq'
  | ok fl =>
    cases fl with
    | ret u =>
      obtain ⟨v, H', I3, rv, ev, q3⟩ := I2.after hq'
      subst ev
      exact ⟨rv, ⟨V.ref (s.heap.objs.size + 1), H', I3, rfl, q3⟩⟩
    | next => exact False.elim hq'
    | brk => exact False.elim hq'
    | cont => exact False.elim hq'
theorem pe_makeSq {CX : CXT} {k : Nat} {f C : Addr} {fd : FuncData} {ps : List Str} {sp : Sp} {dvs : List V} {ds : List Value} {E : L2.St → XK} {x : Str} {p pos : Pos} {e : Expr} {es : List Expr} {t : TA} (M : Mk X.K C f) (F : FnOk X.prog X.w X.K X.mg X.base CX k f fd ps sp) (hr : Room (k + 1) X.A) (hg : Gl X x) (hm : X.mg x = some (.ref C)) (hb : Binds X.K fd ps ds) (hd : Vals dvs ds) (hx : ∀ σ, PassesAt CX X σ (E σ))
    (ha : PA X (e :: es) t) (hdb : (x == ("__debug__" : Str)) = false := by decide) (he : starEach (e :: es) X.env = (false, eval e X.env) :: starEach es X.env := by rfl) (hpl : (backTo pos (starEach es X.env)).any (·.1) = false := by rfl) :
    PE X (.Call (.Name x p) (e :: es) [] pos) (tMakeSq C sp dvs E t) := by
  refine ⟨fun pins s σ H Q I h => ?_⟩
  refine wpAny_Call_Name_kw (ld_glob I hg hm ?_ hdb)
  refine PySem.W.callWith_K (h₀ := X.base) I.ok.mod.kin M.kp (thn (ha.run pos pins s σ H _ I h) fun us s1 ⟨vs, H1, I1, r, q⟩ => ⟨I1.kIn, ?_⟩) he hpl
  exact run_makeSq M F hr hb hd (hx σ) I1 r q
theorem xmake {ds : List Value} {dvs : List V} {dd : List D} {k : Nat} {f : Addr} {fd : FuncData} {ps : List Str} {g : List Sl → Fr} {c : Str} {p pos : Pos} {e : Expr} {es : List Expr} {r : AF} (tk : Tk X cm W) (M : Mk X.K (clsOf X.K c) f) (F : FnOk X.prog X.w X.K X.mg X.base (L2.CX X.prog X.w) k f fd ps (fspI X.K cm c ps.length g)) (hr : Room (k + 1) X.A) (hg : Gl X c) (hm : X.mg c = some (.ref (clsOf X.K c))) (hb : Binds X.K fd ps ds) (hd : Vals dvs ds) (hdd : ∀ G : Hp, DpAll X.K G dvs dd)
    (hlen : ps.length = (e :: es).length + dd.length + 1) (ha : PA X (e :: es) (tXa X.K W r)) (hrl : ∀ ρ rs, r ρ = .ok rs → rs.length = (e :: es).length) (hdb : (c == ("__debug__" : Str)) = false := by decide) (he : starEach (e :: es) X.env = (false, eval e X.env) :: starEach es X.env := by rfl) (hpl : (backTo pos (starEach es X.env)).any (·.1) = false := by rfl) :
    PE X (.Call (.Name c p) (e :: es) [] pos) (tX X.K W (makF c g (aDef dd r))) := by
  obtain ⟨Wx, tk, hW⟩ := tk
  refine peTo (pe_makeSq M F hr hg hm hb hd (E := WE Wx) (fun σ => passAt tk σ) ha hdb he hpl) fun σ H Q q => ?_
  obtain ⟨h, ρ, rfl, R, q⟩ := tX_iff.mp q
  have q : PE1 X.K W h ρ σ Q ((r ρ).bind fun rs => makR c (g ((rs ++ dd.map Rv.v).map Rv.sl))) := by
    unfold makF aDef at q
    cases er : r ρ with
    | ok rs => rw [er] at q; exact q
    | exc c p => rw [er] at q; exact q
    | bad => rw [er] at q; exact q
  refine ⟨h, ρ, rfl, R, PE1.bindA q fun rs vs h1 er R1 g1 ok1 q1 => ?_⟩
  have okk := rvs_app ok1 (rvs_v (hdd h1.G))
  have hdl : dvs.length = dd.length := (hdd h1.G).len
  intro x dx hx hdx hne
  have ea := args_of R1.ch okk
  have emb : Ex h1.H (butl (upd (upd h1.H dx (.own x)) x (.ins (clsOf X.K c) dx [])) x) := fun a o ha => by
    have n1 : a ≠ x := fun z => by rw [z, hx] at ha; cases ha
    have n2 : a ≠ dx := fun z => by rw [z, hdx] at ha; cases ha
    unfold butl
    rw [if_neg n1, upd_ne n1, upd_ne n2]
    exact ha
  have new : Ex h1.H (upd (upd h1.H dx (.own x)) x (.ins (clsOf X.K c) dx [])) := fun a o ha => by
    have n1 : a ≠ x := fun z => by rw [z, hx] at ha; cases ha
    have n2 : a ≠ dx := fun z => by rw [z, hdx] at ha; cases ha
    rw [upd_ne n1, upd_ne n2]
    exact ha
  refine ⟨by rw [List.length_cons, List.length_append, ok1.len, hrl ρ rs er, hdl, hlen], h1.G, x, dx, vs ++ dvs, (rs ++ dd.map Rv.v).map Rv.sl, rfl, R1.ch.gh.trans new, R1.ch.gh.back hx, upd_same, ea.mono emb, ?_⟩
  cases eg : g ((rs ++ dd.map Rv.v).map Rv.sl) with
  | bad => rw [eg] at q1; exact q1.elim
  | exc c' p =>
    rw [eg] at q1
    cases p with
    | none =>
      intro G' H' cg
      obtain ⟨gr, ch⟩ := make_gr R1.ch hx hdx cg
      exact hW _ _ _ _ (q1 (h1.call G' H') (R1.grow gr ch) gr)
    | some p => exact q1.elim
  | ret res =>
    rw [eg] at q1
    cases res with
    | oi c' fs =>
      unfold makR at q1
      dsimp only at q1
      split at q1
      · rename_i ec
        subst ec
        refine ⟨rfl, fun G' H' cg ⟨dx', us, a, b, d⟩ => ⟨rfl, ?_⟩⟩
        have eG : Ex G' (upd G' x (.ins (clsOf X.K c') dx' us)) := Ex.new b
        have cg2 : CGm h1.G (upd (upd h1.H dx (.own x)) x (.ins (clsOf X.K c') dx [])) x (upd G' x (.ins (clsOf X.K c') dx' us)) H' := ⟨cg.g.trans eG, cg.h, fun z o hz => by
          by_cases hzx : z = x
          · subst hzx
            rw [upd_same] at hz
            cases hz
            exact a
          · rw [upd_ne hzx] at hz
            exact cg.c z o hz, fun z o hz hn => by
          by_cases hzx : z = x
          · exact .inr hzx
          · rw [upd_ne hzx] at hz
            exact cg.n z o hz hn⟩
        obtain ⟨gr, ch⟩ := make_gr R1.ch hx hdx cg2
        exact q1 (.ref x) (h1.call _ H') (R1.grow gr ch) gr (.obj upd_same (kv_dpfs (d.ex eG)))
      · exact q1.elim
    | _ => exact q1.elim
end
end Sq

/-! for x in reversed(xs), in a statement. -/
namespace Sq
open PySem PySem.Spec PyProof.Rows L2
section
variable {K : PySem.W.Frag} {W : WF} {X : Cx} {e : Expr} {tg : Expr} {f : EF} {p pos : Pos} {P : Hs → Hs → Prop}
theorem rev_at {α : Type} {xs : List α} {i : Nat} (h : i < xs.length) : xs.reverse[i]? = xs[xs.length - 1 - i]? := by
  rw [List.getElem?_reverse h]
theorem itv_ok {h0 : Hs} {rs : List Rv} {a : Addr} {vs : List V} (hs : ∀ h, P h0 h → Ch h → SqL K h.H a vs) (hv : ∀ h, P h0 h → Ch h → VsF K h vs rs) : ItOk P K (Itv K a vs.length) h0 rs.reverse where
  go := fun i h p c hi => by
    have q := hv h p c
    have hi' : i < vs.length := by rw [q.len]; simpa using hi
    have hj : vs.length - 1 - i < vs.length := by omega
    exact ⟨hi', vs, vs[vs.length - 1 - i], hs h p c, List.getElem?_eq_getElem hj⟩
  stop := fun i h p c hi => by
    show vs.length ≤ i
    rw [(hv h p c).len]
    simpa using hi
  yld := fun i h v H' p c hi y => by
    obtain ⟨e, y⟩ := y
    subst e
    have q := hv h p c
    obtain ⟨r, e1, e2⟩ := q.get (y vs (hs h p c))
    refine ⟨h, r, rfl, Gr.refl h, c, ?_, e2⟩
    rw [rev_at (by simpa using hi), ← q.len]
    exact e1
theorem itvt_ok {h0 : Hs} {rs : List Rv} {a : Addr} {vs : List V} (hs : ∀ h, P h0 h → Ch h → SqT K h.H a vs) (hv : ∀ h, P h0 h → Ch h → VsF K h vs rs) : ItOk P K (RT.ItvT K a vs.length) h0 rs.reverse where
  go := fun i h p c hi => by
    have q := hv h p c
    have hi' : i < vs.length := by rw [q.len]; simpa using hi
    have hj : vs.length - 1 - i < vs.length := by omega
    exact ⟨hi', vs, vs[vs.length - 1 - i], hs h p c, List.getElem?_eq_getElem hj⟩
  stop := fun i h p c hi => by
    show vs.length ≤ i
    rw [(hv h p c).len]
    simpa using hi
  yld := fun i h v H' p c hi y => by
    obtain ⟨e, y⟩ := y
    subst e
    have q := hv h p c
    obtain ⟨r, e1, e2⟩ := q.get (y vs (hs h p c))
    refine ⟨h, r, rfl, Gr.refl h, c, ?_, e2⟩
    rw [rev_at (by simpa using hi), ← q.len]
    exact e1
def rvF (it : Rv → Er (List Rv)) (f : EF) : IF := fun ρ => (f ρ).bind fun a => (it a).bind fun rs => .ok rs.reverse
theorem xrvS (hg : Gl X "reversed") (hm : X.mg "reversed" = none) (he : PE X e (tX X.K W f)) (hs : starEach [e] X.env = (false, eval e X.env) :: starEach [] X.env := by rfl) : PI X tg (.Call (.Name "reversed" p) [e] [] pos) (tI SG X.K W (rvF itS f)) := by
  refine piTo (RT.pi_revA hg hm he hs) fun σ H R q => ?_
  obtain ⟨h, ρ, rfl, Rl, q⟩ := q
  refine tX_mk Rl (PI1.bindE q fun a v h1 _ R1 g1 ok1 q1 => ?_)
  cases ei : itS a with
  | bad => rw [ei] at q1; exact q1.elim
  | exc c p => exact absurd ei itS_ne
  | ok rs =>
    obtain ⟨h2, p, vs, eh, R2, g2, rfl, hv, hs⟩ := keepS Rl R1 g1 ei ok1
    have q2 : PI1 SG X.K W h ρ σ R (.ok rs.reverse) := by
      unfold rvF at q
      have : f ρ = .ok a := by assumption
      rw [this] at q
      have q' : PI1 SG X.K W h ρ σ R ((itS a).bind fun rs => .ok rs.reverse) := q
      rw [ei] at q'
      exact q'
    rw [← eh]
    have c2 := R2.ch
    rcases hs with hs | hs
    · exact ⟨p, vs, rfl, .inl ⟨hs h2 (SG.refl _) c2, q2 _ h2 R2 g2 (itv_ok hs hv)⟩⟩
    · exact ⟨p, vs, rfl, .inr ⟨hs h2 (SG.refl _) c2, q2 _ h2 R2 g2 (itvt_ok hs hv)⟩⟩
end
end Sq

/-! A suite whose rows go by the exception's class. -/
namespace Sq
open PySem PySem.Spec PyProof.Rows L2
def pickX : List (Str × (Addr → SF)) → Str → Addr → SF
  | [], _ => fun _ _ => .bad
  | (c, s) :: r, x => if x = c then s else pickX r x
theorem pick_hd {c : Str} {s : Addr → SF} {r : List (Str × (Addr → SF))} : pickX ((c, s) :: r) c = s := by
  rw [pickX, if_pos rfl]
theorem pick_tl {c x : Str} {s t : Addr → SF} {r : List (Str × (Addr → SF))} (h : x ≠ c) (e : pickX r x = t) : pickX ((c, s) :: r) x = t := by
  rw [pickX, if_neg h, e]
section
variable {X : Cx} {W : WF} {K : PySem.W.Frag}
theorem pss_pick {sts : List Stmt} {s t : SF} (e : t = s) (h : PSs X sts (tS K W s)) : PSs X sts (tS K W t) := e ▸ h
theorem bls_pick {i : Nat} {F G : Addr → SF} (e : F = G) (h : BlS i G) : BlS i F := e ▸ h
end
end Sq

/-! Lists of new lists: made, told, and changed by the one who asked. -/
namespace Sq
open PySem PySem.Spec PyProof.Rows L2
section
variable {X : Cx} {W : WF} {K : PySem.W.Frag} {h : Hs} {ρ : Env} {σ : L2.St}
def flatL (xs : List PyData) : Bool := xs.all flatD
theorem dpa_flat {H : Hp} : ∀ {vs : List V} {xs : List PyData}, flatL xs = true → DpAll K H vs xs → ∀ G0, DpAll K G0 vs xs
  | _, _, _, .nil, _ => .nil
  | _, _, e, .cons d t, G0 => by
    unfold flatL at e
    rw [List.all_cons, Bool.and_eq_true] at e
    exact .cons (dp_flatG e.1 d) (dpa_flat e.2 t G0)
theorem refs_snoc {ms : List Addr} {m : Addr} : refsOf (ms ++ [m]) = refsOf ms ++ [.ref m] := by simp [refsOf]
/-- an own list of flat things goes into a list of such lists -/
theorem grabE_ok (R : Rel K h ρ σ) {i j : Nat} {l : Addr} {ms : List Addr} {xss : List (List PyData)} {xs : List PyData} {s : Sl} (ei : ρ[i]? = some s) (os : s.own = true) (el : σ[i]? = some (some (.ref l))) (hy : Ys K h.F h.G ms xss) (ej : ρ[j]? = some (.e xs)) :
    ∃ m, σ[j]? = some (some (.ref m)) ∧ Rel K ⟨h.G, h.F, upd h.H l (.lst (refsOf ms ++ [.ref m]))⟩ (ρ.set i (.y (xss ++ [xs]))) σ ∧ SG h ⟨h.G, h.F, upd h.H l (.lst (refsOf ms ++ [.ref m]))⟩ := by
  obtain ⟨x, ex, m, ws, rfl, fm, gm, hd⟩ := R.get ej
  obtain ⟨_, fl⟩ := R.ownH ei os el
  obtain ⟨R', g'⟩ := R.mut (s' := .y (xss ++ [xs])) (o := .lst (refsOf ms ++ [.ref m])) ei os rfl el ⟨l, ms ++ [m], rfl, by rw [refs_snoc]; exact upd_same, fl, Paired.snoc hy ⟨ws, fm, gm, hd⟩⟩
  exact ⟨m, ex, R', g'⟩
/-- ghost: an own list of flat things stays for a while -/
def eE (ρ : Env) (j : Nat) : Env := match slot ρ j with
  | .o xs => if flatL xs = true then ρ.set j (.e xs) else ρ
  | _ => ρ
def eS (j : Nat) (f : SF) : SF := fun ρ => f (eE ρ j)
theorem eE_ok (R : Rel K h ρ σ) (j : Nat) : ∃ h', h'.H = h.H ∧ Rel K h' (eE ρ j) σ ∧ SG h h' := by
  have same : ∃ h', h'.H = h.H ∧ Rel K h' ρ σ ∧ SG h h' := ⟨h, rfl, R, SG.refl h⟩
  unfold eE
  split
  rotate_left
  · exact same
  split
  rotate_left
  · exact same
  rename_i xs ej hf
  have ej := slot_some ej (by intro z; cases z)
  obtain ⟨x, ex, m, ws, rfl, hm, fm, hd⟩ := R.get ej
  have gm : h.G m = none := R.ch.gf.back fm
  have hj : j < ρ.length := (List.getElem?_eq_some_iff.mp ej).1
  refine ⟨⟨h.G, upd h.F m (.lst ws), h.H⟩, rfl, ⟨⟨R.ch.gf.trans (Ex.new fm), fun a o e => ?_⟩, by simp [R.len], fun k t x e1 e2 => ?_, fun k k' t u p p' hkk e1 e2 o1 o2 e3 e4 => ?_⟩, ⟨Ex.refl _, Ex.new fm, fun a o e z => no_sm (show h.G a = some o from e) z⟩⟩
  · have e' : upd h.F m (.lst ws) a = some o := e
    by_cases q : a = m
    · subst q
      rw [upd_same] at e'
      cases e'
      exact hm
    · rw [upd_ne q] at e'
      exact R.ch.fh a o e'
  · by_cases hk : j = k
    · subst hk
      rw [List.getElem?_set_self hj] at e1
      cases e1
      rw [ex] at e2
      cases e2
      exact ⟨m, ws, rfl, upd_same, gm, dpa_flat hf hd⟩
    · rw [List.getElem?_set_ne hk] at e1
      have q := R.at_ k t x e1 e2
      have nl : ∀ p, t.own = true → x = some (.ref p) → p ≠ m := fun p ot z => by
        subst z
        exact R.dis k j t (.o xs) p m (Ne.symm hk) e1 ej ot rfl e2 ex
      cases t with
      | u => trivial
      | x a => exact q
      | v d => exact q
      | b d =>
        obtain ⟨v, e, q⟩ := q
        exact ⟨v, e, ex_dp (Ex.new fm) q⟩
      | o ys =>
        obtain ⟨p, us, e, a, b, q⟩ := q
        exact ⟨p, us, e, a, (upd_ne (nl p rfl e)).trans b, q⟩
      | k ys =>
        obtain ⟨p, us, e, a, b, q⟩ := q
        exact ⟨p, us, e, a, (upd_ne (nl p rfl e)).trans b, q⟩
      | t ys =>
        obtain ⟨p, us, e, a, b, q⟩ := q
        exact ⟨p, us, e, a, (upd_ne (nl p rfl e)).trans b, q⟩
      | i c ys =>
        obtain ⟨p, us, dx, e, a, b, q⟩ := q
        exact ⟨p, us, dx, e, a, (upd_ne (nl p rfl e)).trans b, q⟩
      | j p c ys =>
        obtain ⟨us, dx, e, a, b, q⟩ := q
        exact ⟨us, dx, e, a, (upd_ne (nl p rfl e)).trans b, q⟩
      | y ys =>
        obtain ⟨p, us, e, a, b, q⟩ := q
        exact ⟨p, us, e, a, (upd_ne (nl p rfl e)).trans b, q.ex (Ex.new fm) fun a o e z => no_sm e z⟩
      | e ys =>
        obtain ⟨p, us, e, a, b, q⟩ := q
        exact ⟨p, us, e, Ex.new fm _ _ a, b, q⟩
      | z p ys =>
        obtain ⟨us, e, a, b, q⟩ := q
        exact ⟨us, e, Ex.new fm _ _ a, b, q.ex (Ex.new fm) fun a o e z => no_sm e z⟩
  · have fix : ∀ {n : Nat} {t : Sl}, (ρ.set j (.e xs))[n]? = some t → t.own = true → ρ[n]? = some t := fun {n t} e1 o1 => by
      by_cases hn : j = n
      · subst hn
        rw [List.getElem?_set_self hj] at e1
        cases e1
        cases o1
      · rw [List.getElem?_set_ne hn] at e1
        exact e1
    exact R.dis k k' t u p p' hkk (fix e1 o1) (fix e2 o2) o1 o2 e3 e4
theorem xeS {sts : List Stmt} {f : SF} (j : Nat) (h1 : PSs X sts (tS X.K W f)) : PSs X sts (tS X.K W (eS j f)) := pssTo h1 fun D σ H ⟨h, ρ, e, R, q⟩ => by
  subst e
  obtain ⟨h', eh, R', g⟩ := eE_ok R j
  rw [← eh]
  exact tS_mk R' (Post.shift g q)
/-- l.append(m): m goes into l -/
def appY (i j : Nat) : SF := fun ρ => match slot ρ j with
  | .e xs => (match slot ρ i with
    | .o [] => .next (ρ.set i (.y [xs]))
    | .y xss => if xss.length < 100000 then .next (ρ.set i (.y (xss ++ [xs]))) else .bad
    | _ => .bad)
  | _ => .bad
theorem Ys.len {F G : Hp} : ∀ {ms : List Addr} {xss : List (List PyData)}, Ys K F G ms xss → ms.length = xss.length
  | _, _, .nil => rfl
  | _, _, .cons _ t => congrArg (· + 1) (Ys.len t)
theorem xappY (i j : Nat) {e o : Expr} {pos apos spos : Pos} (he : PE X (.Call (.Attribute o "append" apos) [e] [] pos) (tBM X.K "list" rAppend (tVar i) (tCons (tVar j) tNil))) (hs : swapsWith (.Call (.Attribute o "append" apos) [e] [] pos) none spos.line X.env = pure false := by rfl) :
    PS X (.Expr (.Call (.Attribute o "append" apos) [e] [] pos) spos) (tS X.K W (appY i j)) := by
  refine psTo (ps_expr he hs) fun D σ H ⟨h, ρ, eh, R, q⟩ => ?_
  subst eh
  unfold appY at q
  split at q
  rotate_left
  · exact q.elim
  rename_i xs ej
  have ej := slot_some ej (by intro z; cases z)
  split at q
  · rename_i ei
    have ei := slot_some ei (by intro z; cases z)
    obtain ⟨x, ex, l, vs, rfl, hl, fl, hd⟩ := R.get ei
    cases hd
    obtain ⟨m, em, R', g'⟩ := grabE_ok R ei rfl ex (ms := []) (xss := []) .nil ej
    exact ⟨.ref l, ex, .inl ⟨rfl, [], .of hl⟩, .ref m, em, l, [], .ref m, rfl, rfl, hl, by decide, q σ _ R' g'⟩
  · rename_i xss ei
    have ei := slot_some ei (by intro z; cases z)
    split at q
    · obtain ⟨x, ex, l, ms, rfl, hl, fl, hy⟩ := R.get ei
      obtain ⟨m, em, R', g'⟩ := grabE_ok R ei rfl ex hy ej
      refine ⟨.ref l, ex, .inl ⟨rfl, refsOf ms, .of hl⟩, .ref m, em, l, refsOf ms, .ref m, rfl, rfl, hl, ?_, q σ _ R' g'⟩
      have : (refsOf ms).length = xss.length := by rw [← hy.len]; simp [refsOf]
      rw [this]
      exact Nat.lt_of_lt_of_le (by assumption) (by decide)
    · exact q.elim
  · exact q.elim
/-! ### a list of new lists is asked for, looked at, changed -/
/-- what was asked for is new to h0 -/
structure Zf (h0 h : Hs) (l : Addr) : Prop where
  f0 : h0.F l = none
  ms : ∀ ms, h.F l = some (.lst (refsOf ms)) → ∀ m ∈ ms, h0.F m = none
  th : ∃ ms, h.F l = some (.lst (refsOf ms))
theorem Zf.sg {h0 h h' : Hs} {l : Addr} (z : Zf h0 h l) (g : SG h h') : Zf h0 h' l := by
  obtain ⟨ns, e⟩ := z.th
  have e' := g.f _ _ e
  exact ⟨z.f0, fun ms e2 => by
    rw [e'] at e2
    exact z.ms ms (e.trans e2), ns, e'⟩
def tZ (K : PySem.W.Frag) (W : WF) (l : Addr) (g : SF) : TS := fun D σ H => ∃ h0 h ρ, h.H = H ∧ Rel K h ρ σ ∧ SG h0 h ∧ Ch h0 ∧ Zf h0 h l ∧ Post K W D h0 (g ρ)
theorem xthenZ {l : Addr} {st : Stmt} {rest : List Stmt} {f g : SF} (h1 : PS X st (tS X.K W f)) (h2 : PSs X rest (tZ X.K W l g)) : PSs X (st :: rest) (tZ X.K W l (seqS f g)) := by
  refine pssTo (pss_cons h1 h2) fun D σ H ⟨h0, h, ρ, e, R, g0, c0, zf, q⟩ => ?_
  subst e
  refine tS_mk R ?_
  unfold seqS at q
  cases ef : f ρ with
  | next ρ' =>
    rw [ef] at q
    exact fun σ' h' R' g' => ⟨h0, h', ρ', rfl, R', g0.trans g', c0, zf.sg g', q⟩
  | ret r => rw [ef] at q; exact Post.shift (r := .ret r) g0 q
  | brk ρ' => rw [ef] at q; exact Post.shift (r := .brk ρ') g0 q
  | cont ρ' => rw [ef] at q; exact Post.shift (r := .cont ρ') g0 q
  | exc c p ρ' => rw [ef] at q; exact Post.shift (r := .exc c p ρ') g0 q
  | bad => rw [ef] at q; exact q
/-- a statement that changes the list in slot i, no matter how -/
def sMut (i : Nat) : TS := fun D σ H => ∃ l ws, σ[i]? = some (some (.ref l)) ∧ H l = some (.lst ws) ∧ ws.length ≤ 100000 ∧ ∀ H', (∀ a o, a ≠ l → H a = some o → H' a = some o) → D.nx σ H'
theorem mutClear (i : Nat) {e : Expr} {spos : Pos} (he : PE X e (tBM0 X.K "list" rClear (tVar i))) (hs : swapsWith e none spos.line X.env = pure false := by rfl) : PS X (.Expr e spos) (sMut i) := by
  refine psTo (ps_expr he hs) fun D σ H ⟨l, ws, ex, hl, _, q⟩ => ?_
  exact ⟨.ref l, ex, .inl ⟨rfl, ws, .of hl⟩, l, ws, rfl, rfl, hl, q _ fun a o ne e => (upd_ne ne).trans e⟩
def wipeB (ρ : Env) : Env := ρ.map fun s => match s with
  | .b _ => .u
  | .y _ => .u
  | .z _ _ => .u
  | .e _ => .u
  | s => s
def endZ (i : Nat) (l : Addr) : SF := fun ρ => match slot ρ i with
  | .z l' (x :: xss) => if l' = l ∧ x.length < 100000 ∧ xss.length < 90000 then .next (wipeB ρ) else .bad
  | _ => .bad
end
end Sq

/-! The end and the beginning of such a stretch. -/
namespace Sq
open PySem PySem.Spec PyProof.Rows L2
section
variable {X : Cx} {W : WF} {K : PySem.W.Frag} {cm : Str → Addr} {h : Hs} {ρ : Env} {σ : L2.St}
theorem wipeB_get {i : Nat} {s : Sl} (e : (wipeB ρ)[i]? = some s) : s = .u ∨ (ρ[i]? = some s ∧ (∀ d, s ≠ .b d) ∧ (∀ d, s ≠ .y d) ∧ (∀ l d, s ≠ .z l d) ∧ ∀ d, s ≠ .e d) := by
  unfold wipeB at e
  rw [List.getElem?_map] at e
  obtain ⟨t, e1, e2⟩ := Option.map_eq_some_iff.mp e
  cases t <;> first | exact .inl e2.symm | (right; dsimp only at e2; subst e2; exact ⟨e1, (fun _ z => nomatch z), (fun _ z => nomatch z), (fun _ _ z => nomatch z), (fun _ z => nomatch z)⟩)
/-- what was seen is let go -/
theorem let_go {h0 : Hs} {l m : Addr} {H' : Hp} (R : Rel K h ρ σ) (g0 : SG h0 h) (c0 : Ch h0) (fl : h0.F l = none) (fm : h0.F m = none) (gl : h.G l = none) (gm : h.G m = none) (hl : ∃ o, h.F l = some o) (hm : ∃ o, h.F m = some o)
    (k : ∀ a o, a ≠ l → a ≠ m → h.H a = some o → H' a = some o) : ∃ h', h'.H = H' ∧ Rel K h' (wipeB ρ) σ ∧ SG h0 h' := by
  have sub : ∀ a o, (match h0.F a with | some o => some o | none => h.G a) = some o → h.F a = some o := fun a o e => by
    cases z : h0.F a with
    | none =>
      rw [z] at e
      exact R.ch.gf a o e
    | some u =>
      rw [z] at e
      cases e
      exact g0.f a _ z
  have ff : Ex (fun a => match h0.F a with | some o => some o | none => h.G a) h.F := sub
  refine ⟨⟨h.G, fun a => match h0.F a with | some o => some o | none => h.G a, H'⟩, rfl, ⟨⟨fun a o e => ?_, fun a o e => ?_⟩, by simp [wipeB, R.len], fun i s x e1 e2 => ?_, fun i j s t p q hij e1 e2 o1 o2 e3 e4 => ?_⟩, ⟨g0.g, fun a o e => ?_, g0.gn⟩⟩
  · show (match h0.F a with | some o => some o | none => h.G a) = some o
    cases z : h0.F a with
    | none => exact e
    | some u =>
      have e1 := R.ch.gf a o e
      rw [g0.f a u z] at e1
      exact e1
  · have e' : (match h0.F a with | some o => some o | none => h.G a) = some o := e
    refine k a o (fun z => ?_) (fun z => ?_) (R.ch.fh a o (sub a o e'))
    · subst z
      rw [fl] at e'
      rw [gl] at e'
      cases e'
    · subst z
      rw [fm] at e'
      rw [gm] at e'
      cases e'
  · rcases wipeB_get e1 with rfl | ⟨e1, nb, ny, nz, ne⟩
    · trivial
    · have q := R.at_ i s x e1 e2
      have nl : ∀ p, h.F p = none → p ≠ l ∧ p ≠ m := fun p fp => by
        refine ⟨fun z => ?_, fun z => ?_⟩
        · obtain ⟨o, e⟩ := hl
          rw [← z, fp] at e
          cases e
        · obtain ⟨o, e⟩ := hm
          rw [← z, fp] at e
          cases e
      cases s with
      | u => trivial
      | x a => exact q
      | v d => exact q
      | b d => exact absurd rfl (nb d)
      | y d => exact absurd rfl (ny d)
      | z a d => exact absurd rfl (nz a d)
      | e d => exact absurd rfl (ne d)
      | o ys =>
        obtain ⟨p, us, e, a, b, q⟩ := q
        exact ⟨p, us, e, k p _ (nl p b).1 (nl p b).2 a, ff.back b, q⟩
      | k ys =>
        obtain ⟨p, us, e, a, b, q⟩ := q
        exact ⟨p, us, e, k p _ (nl p b).1 (nl p b).2 a, ff.back b, q⟩
      | t ys =>
        obtain ⟨p, us, e, a, b, q⟩ := q
        exact ⟨p, us, e, k p _ (nl p b).1 (nl p b).2 a, ff.back b, q⟩
      | i c ys =>
        obtain ⟨p, us, dx, e, a, b, q⟩ := q
        exact ⟨p, us, dx, e, k p _ (nl p b).1 (nl p b).2 a, ff.back b, q⟩
      | j p c ys =>
        obtain ⟨us, dx, e, a, b, q⟩ := q
        exact ⟨us, dx, e, k p _ (nl p b).1 (nl p b).2 a, ff.back b, q⟩
  · have e1' : ρ[i]? = some s := by
      rcases wipeB_get e1 with rfl | ⟨e1, _⟩
      · cases o1
      · exact e1
    have e2' : ρ[j]? = some t := by
      rcases wipeB_get e2 with rfl | ⟨e2, _⟩
      · cases o2
      · exact e2
    exact R.dis i j s t p q hij e1' e2' o1 o2 e3 e4
  · show (match h0.F a with | some o => some o | none => h.G a) = some o
    rw [e]
theorem xendZ (i : Nat) {l : Addr} {g : SF} {n : Int} {e : Expr} {s4 : Stmt} {rest : List Stmt} {spos : Pos} (he : PE X e (tBM X.K "list" rAppend (tOp (rIx X.K) (tVar i) (tC (.int 0))) (tCons (tC (.int n)) tNil))) (h4 : PS X s4 (sMut i)) (hr : PSs X rest (tS X.K W g))
    (hs : swapsWith e none spos.line X.env = pure false := by rfl) : PSs X (.Expr e spos :: s4 :: rest) (tZ X.K W l (seqS (endZ i l) g)) := by
  refine pssTo (pss_cons (ps_expr he hs) (pss_cons h4 hr)) fun D σ H ⟨h0, h, ρ, eh, R, g0, c0, zf, q⟩ => ?_
  subst eh
  unfold seqS at q
  cases ez : endZ i l ρ with
  | next ρ' =>
    rw [ez] at q
    dsimp only at q
    unfold endZ at ez
    split at ez
    · rename_i l' x xss es
      split at ez
      · rename_i hc
        obtain ⟨rfl, hx, hxs⟩ := hc
        cases ez
        have ei := slot_some es (by intro z; cases z)
        obtain ⟨v, ex, ms, rfl, hl, gl, hy⟩ := R.get ei
        cases hy with
        | @cons m _ ms' _ hm ht =>
          obtain ⟨ws, fm, gm, hd⟩ := hm
          have hH := R.ch.fh _ _ hl
          have hM := R.ch.fh _ _ fm
          have hlen : ws.length = x.length := (hd h.G).len
          have f0 := zf.ms _ hl m List.mem_cons_self
          have hl1 : ∃ us, (upd h.H m (.lst (ws ++ [.int n]))) l' = some (.lst us) ∧ us.length ≤ 100000 := by
            by_cases z : l' = m
            · subst z
              exact ⟨_, upd_same, by simp [hlen]; omega⟩
            · refine ⟨_, (upd_ne z).trans hH, ?_⟩
              have := Ys.len ht
              simp [refsOf]
              omega
          obtain ⟨us, hu, hul⟩ := hl1
          refine ⟨.ref l', ex, .inl ⟨l', refsOf (m :: ms'), 0, .ref m, rfl, rfl, .of hH, (by unfold refsOf atI ixN; simp), .inl ⟨rfl, ws, .of hM⟩, m, ws, .int n, rfl, rfl, hM, ?_, l', us, ex, hu, hul, fun H' k => ?_⟩⟩
          · rw [hlen]
            exact Nat.lt_of_lt_of_le hx (by decide)
          · obtain ⟨h', e', R', g'⟩ := let_go (H' := H') R g0 c0 zf.f0 f0 gl gm ⟨_, hl⟩ ⟨_, fm⟩ fun a o n1 n2 e => k a o n1 ((upd_ne n2).trans e)
            exact ⟨h', _, e', R', Post.shift g' q⟩
      · cases ez
    · cases ez
  | bad => rw [ez] at q; exact q.elim
  | _ =>
    exfalso
    unfold endZ at ez
    split at ez
    · split at ez <;> cases ez
    · cases ez
/-- what is the same for each address -/
noncomputable def unif (F : Addr → Res) : Res := open Classical in if ∀ l, F l = F 0 then F 0 else .bad
theorem unif_eq {F : Addr → Res} {r : Res} (h : ∀ l, F l = r) : unif F = r := by
  unfold unif
  rw [if_pos (fun l => (h l).trans (h 0).symm)]
  exact h 0
noncomputable def scopeS (i : Nat) (g : List Sl → Fr) (r : AF) (k : Addr → SF) : SF := fun ρ => match r ρ with
  | .ok rs => match allV rs with
    | some ds => match g (ds.map Sl.v) with
      | .ret (.y xss) => unif fun l => k l (ρ.set i (.z l xss))
      | _ => .bad
    | none => .bad
  | _ => .bad
theorem argsV {H : Hp} : ∀ {vs : List V} {ds : List PyData}, DpAll K H vs ds → ArgsOk K H H vs (ds.map Sl.v)
  | _, _, .nil => trivial
  | _, _, .cons d t => ⟨d, argsV t⟩
theorem z_start {h : Hs} (c : Ch h) {l : Addr} {ms : List Addr} {xss : List (List PyData)} {G' H' : Hp} (cg : CG h.H h.H G' H') (n : h.H l = none) (a : H' l = some (.lst (refsOf ms))) (y : Ys K H' G' ms xss) :
    ∃ h', h'.H = H' ∧ Gr h h' ∧ Ch h' ∧ h'.F l = some (.lst (refsOf ms)) ∧ h'.G l = none ∧ Ys K h'.F h'.G ms xss ∧ ∀ m ∈ ms, h.H m = none := by
  have nm : ∀ m ∈ ms, h.H m = none := by
    have : ∀ {ms : List Addr} {xss : List (List PyData)}, Ys K H' G' ms xss → ∀ m ∈ ms, h.H m = none := by
      intro ms xss y
      induction y with
      | nil => exact fun m hm => nomatch hm
      | cons h1 _ ih =>
        intro m hm
        rcases List.mem_cons.mp hm with e | e
        · subst e
          obtain ⟨_, _, g, _⟩ := h1
          exact cg.g.back g
        · exact ih m e
    exact this y
  have fn : ∀ b, h.H b = none → h.F b = none := fun b e => c.fh.back e
  have gn : ∀ b, h.H b = none → h.G b = none := fun b e => c.gh.back e
  refine ⟨⟨h.G, fun b => match h.F b with | some o => some o | none => if b = l ∨ b ∈ ms then H' b else none, H'⟩, rfl, ⟨Ex.refl _, fun b o e => ?_, cg.h, fun b o e z => no_sm (show h.G b = some o from e) z, fun b o e z => ?_⟩, ⟨fun b o e => ?_, fun b o e => ?_⟩, ?_, gn l n, ?_, nm⟩
  · show (match h.F b with | some o => some o | none => if b = l ∨ b ∈ ms then H' b else none) = some o
    rw [e]
  · have e' : (match h.F b with | some o => some o | none => if b = l ∨ b ∈ ms then H' b else none) = some o := e
    rw [z] at e'
    dsimp only at e'
    split at e'
    · rename_i hb
      rcases hb with rfl | hb
      · exact n
      · exact nm b hb
    · cases e'
  · show (match h.F b with | some o => some o | none => if b = l ∨ b ∈ ms then H' b else none) = some o
    rw [c.gf b o e]
  · have e' : (match h.F b with | some o => some o | none => if b = l ∨ b ∈ ms then H' b else none) = some o := e
    cases z : h.F b with
    | some u =>
      rw [z] at e'
      cases e'
      exact cg.h b _ (c.fh b _ z)
    | none =>
      rw [z] at e'
      dsimp only at e'
      split at e'
      · exact e'
      · cases e'
  · show (match h.F l with | some o => some o | none => if l = l ∨ l ∈ ms then H' l else none) = _
    rw [fn l n]
    dsimp only
    rw [if_pos (.inl rfl)]
    exact a
  · have : ∀ {ns : List Addr} {xss : List (List PyData)}, (∀ m ∈ ns, m ∈ ms) → Ys K H' G' ns xss → Ys K (fun b => match h.F b with | some o => some o | none => if b = l ∨ b ∈ ms then H' b else none) h.G ns xss := by
      intro ns xss hs y
      induction y with
      | nil => exact .nil
      | @cons m _ _ _ h1 _ ih =>
        obtain ⟨vs, a1, a2, a3⟩ := h1
        have hm := hs m List.mem_cons_self
        refine .cons ⟨vs, ?_, gn m (nm m hm), a3⟩ (ih fun m' h' => hs m' (List.mem_cons_of_mem _ h'))
        show (match h.F m with | some o => some o | none => if m = l ∨ m ∈ ms then H' m else none) = _
        rw [fn m (nm m hm)]
        dsimp only
        rw [if_pos (.inr hm)]
        exact a1
    exact this (fun m h => h) y
theorem pss_all {sts : List Stmt} {T : Addr → TS} (h : ∀ l, PSs X sts (T l)) : PSs X sts (fun D σ H => ∃ l, T l D σ H) := ⟨fun pins s σ H D I ⟨l, hw⟩ => (h l).run pins s σ H D I hw⟩
theorem xscope (i : Nat) {k : Nat} {f : Addr} {fd : FuncData} {ps : List Str} {g : List Sl → Fr} {x y : Str} {p pos spos yp : Pos} {e : Expr} {es : List Expr} {r : AF} {rest : List Stmt} {kf : Addr → SF} (tk : Tk X cm W) (F : FnOk X.prog X.w X.K X.mg X.base (L2.CX X.prog X.w) k f fd ps (fsp X.K cm ps.length g)) (hr : Room k X.A) (hg : Gl X x) (hm : X.mg x = some (.ref f)) (hk : PySem.W.keepIn X.K (.ref f) = true) (hb : Binds X.K fd ps [])
    (hlen : ps.length = (e :: es).length) (ha : PA X (e :: es) (tXa X.K W r)) (hrl : ∀ ρ rs, r ρ = .ok rs → rs.length = (e :: es).length) (hN : X.N.Nodup) (hrest : ∀ l, PSs X rest (tZ X.K W l (kf l))) (hi : X.N[i]? = some y := by rfl) (hx : Loc X.env.scope y := by first | exact Or.inl rfl | exact Or.inr rfl) (hdb : (x == ("__debug__" : Str)) = false := by decide) (he : starEach (e :: es) X.env = (false, eval e X.env) :: starEach es X.env := by rfl) (hpl : (backTo pos (starEach es X.env)).any (·.1) = false := by rfl)
    (hs : swapsWith (.Call (.Name x p) (e :: es) [] pos) (some (.Name y yp)) spos.line X.env = pure false := by rfl) (hf : X.fn y = true ∨ X.env.scope.names.lookup y = some .local := by first | exact .inl rfl | exact .inr rfl | assumption) :
    PSs X (.Assign [.Name y yp] (.Call (.Name x p) (e :: es) [] pos) spos :: rest) (tS X.K W (scopeS i g r kf)) := by
  obtain ⟨Wx, tk, hW⟩ := tk
  have pc := pe_callS (pos := pos) (p := p) F hr hg hm hk hb (E := WE Wx) (fun σ => passAt tk σ) ha hdb he hpl
  refine pssTo (pss_cons (ps_set hN hi hx pc hs hf) (pss_all hrest)) fun D σ H ⟨h, ρ, eh, R, q⟩ => ?_
  subst eh
  unfold scopeS at q
  refine ⟨h, ρ, rfl, R, ?_⟩
  cases er : r ρ with
  | ok rs =>
    rw [er] at q
    dsimp only at q
    intro vs h1 R1 g1 ok1
    cases ea : allV rs with
    | none => rw [ea] at q; exact q.elim
    | some ds =>
      rw [ea] at q
      dsimp only at q
      have hd := ex_dpa R1.ch.gh (allV_ok R1.ch ea ok1)
      refine ⟨by rw [ok1.len, hrl ρ rs er, hlen], h1.H, ds.map Sl.v, Ex.refl _, argsV hd, ?_⟩
      cases eg : g (ds.map Sl.v) with
      | bad => rw [eg] at q; exact q.elim
      | exc c p => rw [eg] at q; exact q.elim
      | ret rr =>
        rw [eg] at q
        cases rr with
        | y xss =>
          dsimp only at q
          rintro v G' H' cg ⟨l, ms, rfl, n, a, gl, hy⟩
          obtain ⟨h2, e2, g2, c2, fl, gl2, hy2, nm⟩ := z_start R1.ch cg n a hy
          subst e2
          have R2 := R1.grow g2 c2
          have g02 := g1.trans g2
          have fn : ∀ b, h1.H b = none → h.F b = none := fun b e => g1.f.back (R1.ch.fh.back e)
          refine ⟨l, h, h2, ρ.set i (.z l xss), rfl, R2.set i ⟨ms, rfl, fl, gl2, hy2⟩ (fun _ _ _ z => by cases z), g02.sg, R.ch, ⟨fn l n, fun ns e m hm => ?_, ms, fl⟩, ?_⟩
          · rw [fl] at e
            have e' : refsOf ms = refsOf ns := by
              have := Option.some.inj e
              injection this
            have : m ∈ ms := by
              have h3 : V.ref m ∈ refsOf ns := List.mem_map.mpr ⟨m, hm, rfl⟩
              rw [← e'] at h3
              obtain ⟨m', h4, h5⟩ := List.mem_map.mp h3
              cases h5
              exact h4
            exact fn m (nm m this)
          · unfold unif at q
            split at q
            · rename_i hu
              rw [← hu l] at q
              exact q
            · exact q.elim
        | _ => exact q.elim
  | exc c p => rw [er] at q; exact q.elim
  | bad => rw [er] at q; exact q.elim
theorem mutApp (i : Nat) {e : Expr} {spos : Pos} (he : PE X e (tBM X.K "list" rAppend (tVar i) (tCons (tLst tNil) tNil))) (hs : swapsWith e none spos.line X.env = pure false := by rfl) : PS X (.Expr e spos) (sMut i) := by
  refine psTo (ps_expr he hs) fun D σ H ⟨l, ws, ex, hl, hz, q⟩ => ?_
  refine ⟨.ref l, ex, .inl ⟨rfl, ws, .of hl⟩, by decide, fun p hp => ?_⟩
  have hne : l ≠ p := fun z => by
    rw [z, hp] at hl
    cases hl
  refine ⟨l, ws, .ref p, rfl, rfl, (upd_ne hne).trans hl, Nat.lt_of_le_of_lt hz (by decide), q _ fun a o ne e => (upd_ne ne).trans ((upd_ne fun z => ?_).trans e)⟩
  rw [z, hp] at e
  cases e
theorem xfrzZ {l : Addr} {sts : List Stmt} {g : SF} (i : Nat) (h1 : PSs X sts (tZ X.K W l g)) : PSs X sts (tZ X.K W l (frzS i g)) := pssTo h1 fun D σ H ⟨h0, h, ρ, e, R, g0, c0, zf, q⟩ => by
  subst e
  obtain ⟨h', eh, R', g'⟩ := frzE_ok R i
  exact ⟨h0, h', _, eh, R', g0.trans g', c0, zf.sg g', q⟩
/-! ### a call that sees all as it is here and now, told a flat thing -/
def datL : List Rv → Option (List PyData)
  | [] => some []
  | r :: rs => r.dat.bind fun d => (datL rs).map (d :: ·)
def callH (g : List Sl → Fr) (r : AF) : EF := fun ρ => (r ρ).bind fun rs => match datL rs with
  | some ds => (match g (ds.map Sl.v) with
    | .ret (.v d) => if flatD d = true then .ok (.v d) else .bad
    | _ => .bad)
  | none => .bad
theorem datL_ok {h : Hs} (c : Ch h) : ∀ {vs : List V} {rs : List Rv} {ds : List PyData}, datL rs = some ds → RvsOk K h vs rs → DpAll K h.H vs ds
  | [], [], _, e, _ => by cases e; exact .nil
  | v :: vs, r :: rs, ds, e, q => by
    obtain ⟨d, e1, e2⟩ := Option.bind_eq_some_iff.mp e
    obtain ⟨ds', e3, rfl⟩ := Option.map_eq_some_iff.mp e2
    have tl : RvsOk K h vs rs ∧ Dp K h.H v d := by
      cases r with
      | v x => cases e1; exact ⟨q.2, ex_dp c.gh q.1⟩
      | b x => cases e1; exact ⟨q.2, ex_dp c.fh q.1⟩
      | r x => cases e1; exact ⟨q.2, q.1⟩
      | _ => exact q.1.elim
    exact .cons tl.2 (datL_ok c e3 tl.1)
  | [], _ :: _, _, _, q => q.elim
  | _ :: _, [], _, _, q => q.elim
theorem xcallH {k : Nat} {f : Addr} {fd : FuncData} {ps : List Str} {g : List Sl → Fr} {x : Str} {p pos : Pos} {e : Expr} {es : List Expr} {r : AF} (tk : Tk X cm W) (F : FnOk X.prog X.w X.K X.mg X.base (L2.CX X.prog X.w) k f fd ps (fsp X.K cm ps.length g)) (hr : Room k X.A) (hg : Gl X x) (hm : X.mg x = some (.ref f)) (hk : PySem.W.keepIn X.K (.ref f) = true) (hb : Binds X.K fd ps [])
    (hlen : ps.length = (e :: es).length) (ha : PA X (e :: es) (tXa X.K W r)) (hrl : ∀ ρ rs, r ρ = .ok rs → rs.length = (e :: es).length) (hdb : (x == ("__debug__" : Str)) = false := by decide) (he : starEach (e :: es) X.env = (false, eval e X.env) :: starEach es X.env := by rfl) (hpl : (backTo pos (starEach es X.env)).any (·.1) = false := by rfl) :
    PE X (.Call (.Name x p) (e :: es) [] pos) (tX X.K W (callH g r)) := by
  obtain ⟨Wx, tk, hW⟩ := tk
  refine peTo (pe_callS F hr hg hm hk hb (E := WE Wx) (fun σ => passAt tk σ) ha hdb he hpl) fun σ H Q q => ?_
  obtain ⟨h, ρ, rfl, R, q⟩ := tX_iff.mp q
  refine ⟨h, ρ, rfl, R, PE1.bindA q fun rs vs h1 er R1 g1 ok1 q1 => ?_⟩
  cases ed : datL rs with
  | none => rw [ed] at q1; exact q1.elim
  | some ds =>
    rw [ed] at q1
    dsimp only at q1
    refine ⟨by rw [ok1.len, hrl ρ rs er, hlen], h1.H, ds.map Sl.v, Ex.refl _, argsV (datL_ok R1.ch ed ok1), ?_⟩
    cases eg : g (ds.map Sl.v) with
    | bad => rw [eg] at q1; exact q1.elim
    | exc c p => rw [eg] at q1; exact q1.elim
    | ret rr =>
      rw [eg] at q1
      cases rr with
      | v d =>
        dsimp only at q1
        split at q1
        · rename_i hfl
          intro v G' H' cg ok'
          have gr : Gr h1 ⟨h1.G, h1.F, H'⟩ := ⟨Ex.refl _, Ex.refl _, cg.h, fun a o e z => no_sm (show h1.G a = some o from e) z, fun a o e z => no_sm (show h1.F a = some o from e) z⟩
          exact q1 v ⟨h1.G, h1.F, H'⟩ (R1.grow gr ⟨R1.ch.gf, R1.ch.fh.trans cg.h⟩) gr (dp_flatG hfl (show Dp X.K G' v d from ok'))
        · exact q1.elim
      | _ => exact q1.elim
end
end Sq

/-! Lists that stay for a while: taken over by extend, sorted. -/
namespace Sq
open PySem PySem.Spec PyProof.Rows L2
section
variable {X : Cx} {W : WF} {K : PySem.W.Frag}
/-- l.extend(m), m a list of flat things that stays for a while -/
def extF (i : Nat) (f : EF) : SF := fun ρ => match slot ρ i with
  | .o xs => thenS ρ (f ρ) fun r => match r with
    | .b (.list ys) => if flatL ys = true then (if xs.length + ys.length ≤ 100000 then .next (ρ.set i (.o (xs ++ ys))) else .bad) else .bad
    | _ => .bad
  | _ => .bad
theorem xextF (i : Nat) {e o : Expr} {f : EF} {pos apos spos : Pos} (he : PE X (.Call (.Attribute o "extend" apos) [e] [] pos) (tBM X.K "list" (rExtA X.K) (tVar i) (tCons (tX X.K W f) tNil))) (hs : swapsWith (.Call (.Attribute o "extend" apos) [e] [] pos) none spos.line X.env = pure false := by rfl) :
    PS X (.Expr (.Call (.Attribute o "extend" apos) [e] [] pos) spos) (tS X.K W (extF i f)) := by
  refine psTo (ps_expr he hs) fun D σ H ⟨h, ρ, eh, R, q⟩ => ?_
  subst eh
  unfold extF at q
  split at q
  · rename_i xs es
    obtain ⟨l, vs, ex, hl, hd, hlen, _⟩ := mut_now R es
    refine ⟨.ref l, ex, .inl ⟨rfl, vs, .of hl⟩, ?_⟩
    refine (tX_mk (f := f) R (q.then fun r v h' _ R' g' ok q' => ?_) : tX X.K W f σ h.H _)
    split at q'
    · split at q'
      · rename_i hf
        obtain ⟨p, ws, rfl, s, d⟩ := dp_lst ok
        exact ext_go R' es ex (ex_l R'.ch.fh s) (dpa_flat hf d _) g'.sg q'
      · exact q'.elim
    · exact q'.elim
  · exact q.elim
variable {f : EF} {a : Expr} {p pos : Pos}
def sortFR (a : Rv) : Er Rv := match a with
  | .b (.list ds) => if alikeB ds = true ∧ PyData.depthAll ds ≤ 60 ∧ (listsB ds || tupsB ds) = true then .ok (.b (.list (sortD ds))) else .bad
  | _ => .bad
theorem xsortedF (hu : X.A.units + 80 < cLine) (hg : Gl X "sorted") (hm : X.mg "sorted" = none) (ha : PE X a (tX X.K W f)) (hs : starEach [a] X.env = (false, eval a X.env) :: starEach [] X.env := by rfl) : PE X (.Call (.Name "sorted" p) [a] [] pos) (tX X.K W (unF sortFR f)) := by
  refine peTo (pe_callB (cr_sortDt hu) hg hm boot_sorted (pa_cons ha pa_nil hs) (he := hs)) (c1_of fun h0 h ρ σ x a Q R0 R g ok q => ?_)
  unfold sortFR at q
  split at q
  · rename_i ds
    split at q
    · rename_i hc2
      obtain ⟨hc2, hc3, hc4⟩ := hc2
      obtain ⟨l, vs, rfl, s, da⟩ := dp_lst ok
      have hal := alikeB_all hc2
      refine ⟨l, vs, ds, rfl, ex_l R.ch.fh s, ex_dpa R.ch.fh da, fun x hx y hy => hal.1 x hx y hy, ?_, hc3, fun p hp => ?_⟩
      · rw [Bool.or_eq_true] at hc4
        rcases hc4 with z | z
        · exact sortable_lists z
        · exact sortable_tups z
      · obtain ⟨z1, z2, z3⟩ := dpa_zip da
        have e2 : sortD ds = ((vs.zip ds).mergeSort (PySem.W.dataLe false fun z : VD => z.2)).map (·.2) := by
          unfold sortD
          conv => lhs; rw [← z3]
          exact (List.map_mergeSort (f := fun z : VD => z.2) fun a _ b _ => rfl).symm
        refine PE1.newLB (xs := sortD ds) q R ?_ hp
        rw [e2]
        exact dpa_pairs fun z hz => z1 z ((List.mergeSort_perm _ _).mem_iff.mp hz)
    · exact q.elim
  · exact q.elim
end
end Sq

namespace Sq
open PySem L2
/-- _law_cell(_law_script, _law_k); slots: 0:_law_script 1:_law_k -/
def b_law_cell_3 : SF :=
  (seqS (ifS (tstF (binF ltR (varF 1) (unF lenR (varF 0)))) (retS (binF (flat2 (int2 imod)) (binF ixR (varF 0) (varF 1)) (binF (flat2 (int2 ipow)) (cF (.int 10)) (cF (.int 18)))))
  skipS)
  (seqS (ifS (tstF (binF eqR (unF lenR (varF 0)) (cF (.int 0)))) (retS (cF (.int 0)))
  skipS)
  (retS (binF (flat2 (int2 imod)) (binF addR (binF (flat2 (int2 imul)) (binF (flat2 (int2 imod)) (binF ixR (varF 0) (binF (flat2 (int2 imod)) (varF 1) (unF lenR (varF 0)))) (cF (.int 1000003))) (cF (.int 48271))) (binF (flat2 (int2 imul)) (binF (flat2 (int2 imul)) (varF 1) (varF 1)) (cF (.int 7919)))) (cF (.int 1000003))))))
def f_law_cell_3 : List Sl → Fr := fnR b_law_cell_3 2

/-- _law_together(_law_first, _law_second); slots: 0:_law_first 1:_law_second 2:_law_have 3:_law_at 4:_law_kept 5:_law_row_here 6:_law_k -/
def b_law_together : SF :=
  (seqS (asgS (lstF (aCons (cF (.int 0)) aNil)) (asgn 2))
  (seqS (asgS (cF (.int 0)) (asgn 3))
  (seqS (whileS (tstF (binF ltR (varF 3) (unF lenR (varF 2)))) (seqS (forS (itF itS (tupF (aCons (varF 0) (aCons (varF 1) aNil)))) (asgn 5)
  (ifS (tstF (binF (inR true) (binF ixR (varF 5) (binF ixR (varF 2) (varF 3))) (varF 2))) (appS 2 (binF ixR (varF 5) (binF ixR (varF 2) (varF 3))))
  skipS))
  (asgS (binF addR (varF 3) (cF (.int 1))) (asgn 3))))
  (seqS (asgS (unF sortR (varF 2)) (asgn 4))
  (frzS 4 (retS (tupF (aCons (unF tupleR (lcF (itF itC (varF 4)) (asgn 6) [6] yesT (indexF (varF 4) (binF ixR (varF 0) (varF 6))))) (aCons (unF tupleR (lcF (itF itC (varF 4)) (asgn 6) [6] yesT (indexF (varF 4) (binF ixR (varF 1) (varF 6))))) aNil)))))))))
def f_law_together : List Sl → Fr := fnR b_law_together 7

/-- _law_row(_law_script, _law_at, _law_many); slots: 0:_law_script 1:_law_at 2:_law_many 3:_law_left 4:_law_row_here 5:_law_k -/
def b_law_row_4 : SF :=
  (seqS (asgS (lrgF (cF (.int 0)) (varF 2)) (asgn 3))
  (seqS (asgS (lstF aNil) (asgn 4))
  (seqS (forS (rg1F (varF 2)) (asgn 5)
  (appM 4 (popAtM 3 (binF (flat2 (int2 imod)) (callF f_law_cell_3 (aCons (varF 0) (aCons (binF addR (varF 1) (varF 5)) aNil))) (unF lenR (varF 3))))))
  (retVar 4))))
def f_law_row_4 : List Sl → Fr := fnR b_law_row_4 6

/-- _law_torus(_law_long, _law_high, _law_shift); slots: 0:_law_long 1:_law_high 2:_law_shift 3:_law_across 4:_law_above 5:_law_k -/
def b_law_torus_2 : SF :=
  (seqS (asgS (lstF aNil) (asgn 3))
  (seqS (asgS (lstF aNil) (asgn 4))
  (seqS (forS (rg1F (binF (flat2 (int2 imul)) (varF 0) (varF 1))) (asgn 5)
  (seqS (appS 3 (binF (flat2 (int2 isub)) (binF addR (varF 5) (cF (.int 1))) (binF (flat2 (int2 imul)) (varF 0) (unF intR (binF eqR (binF (flat2 (int2 imod)) (varF 5) (varF 0)) (binF (flat2 (int2 isub)) (varF 0) (cF (.int 1))))))))
  (ifS (tstF (binF ltR (binF addR (varF 5) (varF 0)) (binF (flat2 (int2 imul)) (varF 0) (varF 1)))) (appS 4 (binF addR (varF 5) (varF 0)))
  (appS 4 (binF (flat2 (int2 imod)) (binF addR (varF 5) (varF 2)) (varF 0))))))
  (retPair 3 4))))
def f_law_torus_2 : List Sl → Fr := fnR b_law_torus_2 6

/-- _law_exchanged(_law_row_here, _law_script, _law_at, _law_times); slots: 0:_law_row_here 1:_law_script 2:_law_at 3:_law_times 4:_law_k 5:_law_i 6:_law_j 7:_law_kept -/
def b_law_exchanged_2 : SF :=
  (seqS (forS (rg1F (varF 3)) (asgn 4)
  (seqS (asgS (binF (flat2 (int2 imod)) (callF f_law_cell_3 (aCons (varF 1) (aCons (binF addR (varF 2) (binF (flat2 (int2 imul)) (cF (.int 2)) (varF 4))) aNil))) (unF lenR (varF 0))) (asgn 5))
  (seqS (asgS (binF (flat2 (int2 imod)) (callF f_law_cell_3 (aCons (varF 1) (aCons (binF addR (binF addR (varF 2) (binF (flat2 (int2 imul)) (cF (.int 2)) (varF 4))) (cF (.int 1))) aNil))) (unF lenR (varF 0))) (asgn 6))
  (seqS (asgS (binF ixR (varF 0) (varF 5)) (asgn 7))
  (seqS (setIt 0 (varF 5) (binF ixR (varF 0) (varF 6)))
  (setIt 0 (varF 6) (varF 7)))))))
  (retVar 0))
def f_law_exchanged_2 : List Sl → Fr := fnR b_law_exchanged_2 8

/-- _law_sheet(_law_script, _law_most); slots: 0:_law_script 1:_law_most 2:_law_cell_here 3:_law_long 4:_law_high 5:_law_many 6:_law_across 7:_law_above -/
def b_law_sheet_6 : SF :=
  (seqS (asgS (callF f_law_cell_3 (aCons (varF 0) (aCons (cF (.int 0)) aNil))) (asgn 2))
  (seqS (ifS (tstF (binF eqR (binF (flat2 (int2 imod)) (varF 2) (cF (.int 2))) (cF (.int 0)))) (seqS (asgS (binF addR (cF (.int 1)) (binF (flat2 (int2 imod)) (binF (flat2 (int2 idiv)) (varF 2) (cF (.int 2))) (varF 1))) (asgn 5))
  (frzS 5 (retS (callF f_law_together (aCons (callF f_law_row_4 (aCons (varF 0) (aCons (cF (.int 1)) (aCons (varF 5) aNil)))) (aCons (callF f_law_row_4 (aCons (varF 0) (aCons (binF addR (cF (.int 1)) (varF 5)) (aCons (varF 5) aNil)))) aNil))))))
  skipS)
  (seqS (asgS (binF addR (cF (.int 1)) (binF (flat2 (int2 imod)) (binF (flat2 (int2 idiv)) (varF 2) (cF (.int 2))) (cF (.int 6)))) (asgn 3))
  (seqS (asgS (binF addR (cF (.int 1)) (binF (flat2 (int2 imod)) (binF (flat2 (int2 idiv)) (varF 2) (cF (.int 12))) (binF (flat2 (int2 idiv)) (varF 1) (varF 3)))) (asgn 4))
  (seqS (asgS (callF f_law_torus_2 (aCons (varF 3) (aCons (varF 4) (aCons (binF (flat2 (int2 imod)) (callF f_law_cell_3 (aCons (varF 0) (aCons (cF (.int 1)) aNil))) (varF 3)) aNil)))) (unpP 6 7))
  (frzS 6 (retX 6 f_law_together 7 f_law_exchanged_2 (aCons (varF 0) (aCons (cF (.int 2)) (aCons (binF (flat2 (int2 imod)) (binF (flat2 (int2 idiv)) (varF 2) (cF (.int 72))) (cF (.int 4))) aNil))))))))))
def f_law_sheet_6 : List Sl → Fr := fnR b_law_sheet_6 8

/-- size(sheet); slots: 0:sheet -/
def b_size : SF :=
  (retS (unF lenR (binF ixR (varF 0) (cF (.int 0)))))
def f_size : List Sl → Fr := fnR b_size 1

/-- rows(sheet); slots: 0:sheet 1:right 2:have 3:found 4:first 5:row 6:square -/
def b_rows : SF :=
  (seqS (asgS (binF ixR (varF 0) (cF (.int 0))) (asgn 1))
  (seqS (asgS (fun _ => .ok (.ok [])) (asgn 2))
  (seqS (asgS (lstF aNil) (asgn 3))
  (seqS (forS (rg1F (callF f_size (aCons (varF 0) aNil))) (asgn 4)
  (ifS (tstF (binF (inR true) (varF 4) (varF 2))) (seqS (asgS (lstF (aCons (varF 4) aNil)) (asgn 5))
  (seqS (whileS (tstF (binF neR (binF ixR (varF 1) (binF ixR (varF 5) (unF negR (cF (.int 1))))) (varF 4))) (appS 5 (binF ixR (varF 1) (binF ixR (varF 5) (unF negR (cF (.int 1)))))))
  (frzS 5 (seqS (forS (itF itS (varF 5)) (asgn 6)
  (setIt 2 (varF 6) (cF (.bool true))))
  (frzS 5 (appS 3 (varF 5)))))))
  skipS))
  (retVar 3)))))
def f_rows : List Sl → Fr := fnR b_rows 7

/-- rows, told to be changed -/
def b_rows_y : SF :=
  (seqS (asgS (binF ixR (varF 0) (cF (.int 0))) (asgn 1))
  (seqS (asgS (fun _ => .ok (.ok [])) (asgn 2))
  (seqS (asgS (lstF aNil) (asgn 3))
  (seqS (forS (rg1F (callF f_size (aCons (varF 0) aNil))) (asgn 4)
  (ifS (tstF (binF (inR true) (varF 4) (varF 2))) (seqS (asgS (lstF (aCons (varF 4) aNil)) (asgn 5))
  (seqS (whileS (tstF (binF neR (binF ixR (varF 1) (binF ixR (varF 5) (unF negR (cF (.int 1))))) (varF 4))) (appS 5 (binF ixR (varF 1) (binF ixR (varF 5) (unF negR (cF (.int 1)))))))
  (eS 5 (seqS (forS (itF itS (varF 5)) (asgn 6)
  (setIt 2 (varF 6) (cF (.bool true))))
  (appY 3 5)))))
  skipS))
  (retVar 3)))))
def f_rows_y : List Sl → Fr := fnR b_rows_y 7

/-- _law_whole(_law_found); slots: 0:_law_found -/
def b_law_whole : SF :=
  (retS (andF (unF (isiR "int") (varF 0)) (notF (unF (isiR "bool") (varF 0)))))
def f_law_whole : List Sl → Fr := fnR b_law_whole 1

/-- law(_law_script); slots: 0:_law_script 1:_law_sheet_here 2:_law_found 3:_law_every 4:_law_row_here 5:_law_kept 6:_law_k 7:_law_one -/
noncomputable def b_law_k41_rows_of_squares : SF :=
  (seqS (asgS (callF f_law_sheet_6 (aCons (varF 0) (aCons (cF (.int 36)) aNil))) (asgn 1))
  (scopeS 2 f_rows_y (aCons (varF 1) aNil) fun l => (seqS (ifS (notT (tstF (unF (isiR "list") (varF 2)))) (retS (cF (.bool false)))
  skipS)
  (seqS (asgS (lstF aNil) (asgn 3))
  (seqS (forS (itF itS (varF 2)) (asgn 4)
  (seqS (ifS (orT (notT (tstF (unF (isiR "list") (varF 4)))) (orT (tstF (binF eqR (unF lenR (varF 4)) (cF (.int 0)))) (notT (tstF (unF allA (lcF (itF itC (varF 4)) (asgn 7) [7] yesT (callF f_law_whole (aCons (varF 7) aNil)))))))) (retS (cF (.bool false)))
  skipS)
  (seqS (ifS (tstF (binF neR (unF minR (varF 4)) (binF ixR (varF 4) (cF (.int 0))))) (retS (cF (.bool false)))
  skipS)
  (seqS (forS (rg1F (unF lenR (varF 4))) (asgn 6)
  (ifS (tstF (binF neR (binF ixR (binF ixR (varF 1) (cF (.int 0))) (binF ixR (varF 4) (binF (flat2 (int2 isub)) (varF 6) (cF (.int 1))))) (binF ixR (varF 4) (varF 6)))) (retS (cF (.bool false)))
  skipS))
  (extF 3 (varF 4))))))
  (seqS (ifS (orT (tstF (binF neR (unF sortR (varF 3)) (lrgF (cF (.int 0)) (unF lenR (binF ixR (varF 1) (cF (.int 0))))))) (tstF (binF neR (varF 2) (unF sortFR (varF 2))))) (retS (cF (.bool false)))
  skipS)
  (seqS (asgS (lcF (itF itC (varF 2)) (asgn 4) [4] yesT (unF listR (varF 4))) (asgn 5))
  (seqS (endZ 2 l) (frzS 1 (frzS 5 (retS (binF eqR (callF f_rows (aCons (varF 1) aNil)) (varF 5)))))))))))))
noncomputable def f_law_k41_rows_of_squares : List Sl → Fr := fnR b_law_k41_rows_of_squares 8

theorem fnR_of {f : SF} {n : Nat} {as : List Sl} {r : Rv} (h : f (as ++ List.replicate (n - as.length) .u) = .ret r) : fnR f n as = .ret r := by
  unfold fnR
  rw [h]
theorem fnR_none {f : SF} {n : Nat} {as : List Sl} {ρ : Env} (h : f (as ++ List.replicate (n - as.length) .u) = .next ρ) : fnR f n as = .ret (.v .none) := by
  unfold fnR
  rw [h]
theorem fnR_exc {f : SF} {n : Nat} {as : List Sl} {ρ : Env} {c : Str} {p} (h : f (as ++ List.replicate (n - as.length) .u) = .exc c p ρ) : fnR f n as = .exc c p := by
  unfold fnR
  rw [h]
theorem zD_get {ns : List Int} {k : Nat} (h : k < ns.length) : (zD ns)[k]? = some (.int (ns.getD k 0)) := by
  simp [zD, List.getElem?_eq_getElem h, List.getD_eq_getElem?_getD]
theorem nD_one (x : Nat) : nD [x] = [.int (x : Int)] := rfl
theorem erase_map {α β : Type} (f : α → β) : ∀ (l : List α) (i : Nat), (l.map f).eraseIdx i = (l.eraseIdx i).map f
  | [], _ => rfl
  | _ :: _, 0 => rfl
  | a :: l, i + 1 => congrArg (f a :: ·) (erase_map f l i)
theorem nD_set (w : List Nat) (i y : Nat) : (nD w).set i (.int (y : Int)) = nD (w.set i y) := by simp [nD]
theorem ixN_nat {n i : Nat} (h : i < n) : ixN n (i : Int) = some i := by
  unfold ixN
  rw [if_pos (Int.natCast_nonneg i), if_pos (by omega)]
  rfl

def put (hv : List Nat) (y : Nat) : List Nat := if y ∈ hv then hv else hv ++ [y]
theorem put_sub {hv : List Nat} {y x : Nat} (h : x ∈ hv) : x ∈ put hv y := by
  unfold put
  split
  · exact h
  · exact List.mem_append_left _ h
theorem put_self {hv : List Nat} {y : Nat} : y ∈ put hv y := by
  unfold put
  split
  · assumption
  · simp
theorem put_mem {hv : List Nat} {y x : Nat} (h : x ∈ put hv y) : x ∈ hv ∨ x = y := by
  unfold put at h
  split at h
  · exact .inl h
  · simpa using h
theorem put_nd {hv : List Nat} {y : Nat} (h : hv.Nodup) : (put hv y).Nodup := by
  unfold put
  split
  · exact h
  · rename_i hn
    exact (List.perm_append_comm.nodup_iff).mpr (List.nodup_cons.mpr ⟨hn, h⟩)
theorem put_ap {hv : List Nat} {y i : Nat} (h : i < hv.length) : ap (put hv y) i = ap hv i := by
  unfold put
  split
  · rfl
  · refine ap_of ?_
    rw [List.getElem?_append_left h]
    exact ap_get h
theorem put_len {hv : List Nat} {y : Nat} : hv.length ≤ (put hv y).length := by
  unfold put
  split
  · exact Nat.le_refl _
  · simp
structure TogInv (a b : List Nat) (m : Nat) (hv : List Nat) (j : Nat) : Prop where
  nd : hv.Nodup
  lt : ∀ x ∈ hv, x < m
  z : 0 ∈ hv
  le : j ≤ hv.length
  done : ∀ i, i < j → ap a (ap hv i) ∈ hv ∧ ap b (ap hv i) ∈ hv
  re : ∀ x ∈ hv, Re a b x
theorem TogInv.len {a b hv : List Nat} {m j : Nat} (h : TogInv a b m hv j) : hv.length ≤ m := by
  have := List.Nodup.length_le_of_subset h.nd (l₂ := List.range m) fun x hx => List.mem_range.mpr (h.lt x hx)
  simpa using this
theorem TogInv.step {a b hv : List Nat} {m j : Nat} (ha : Pm a m) (hb : Pm b m) (h : TogInv a b m hv j) (hj : j < hv.length) : TogInv a b m (put (put hv (ap a (ap hv j))) (ap b (ap hv j))) (j + 1) := by
  have hm : ap hv j ∈ hv := ap_mem hj
  have hlt := h.lt _ hm
  refine ⟨put_nd (put_nd h.nd), fun x hx => ?_, put_sub (put_sub h.z), ?_, fun i hi => ?_, fun x hx => ?_⟩
  · rcases put_mem hx with e | e
    · rcases put_mem e with e | e
      · exact h.lt x e
      · rw [e]; exact ha.ap_lt hlt
    · rw [e]; exact hb.ap_lt hlt
  · have h1 := put_len (hv := hv) (y := ap a (ap hv j))
    have h2 := put_len (hv := put hv (ap a (ap hv j))) (y := ap b (ap hv j))
    omega
  · have hil : i < hv.length := by omega
    rw [put_ap (Nat.lt_of_lt_of_le hil put_len), put_ap hil]
    by_cases e : i = j
    · subst e
      exact ⟨put_sub put_self, put_self⟩
    · have := h.done i (by omega)
      exact ⟨put_sub (put_sub this.1), put_sub (put_sub this.2)⟩
  · rcases put_mem hx with e | e
    · rcases put_mem e with e | e
      · exact h.re x e
      · rw [e]; exact .fa (h.re _ hm)
    · rw [e]; exact .fb (h.re _ hm)
theorem pop_perm {left row : List Nat} {j : Nat} (hj : j < left.length) {m : Nat} (hp : (left ++ row).Perm (List.range m)) : (left.eraseIdx j ++ (row ++ [left[j]])).Perm (List.range m) := by
  refine List.Perm.trans ?_ hp
  have : (left[j] :: left.eraseIdx j).Perm left := by
    rw [List.eraseIdx_eq_take_drop_succ]
    have := (List.perm_middle (a := left[j]) (l₁ := left.take j) (l₂ := left.drop (j + 1))).symm
    refine this.trans ?_
    rw [List.getElem_cons_drop hj, List.take_append_drop]
  have h2 : (left.eraseIdx j ++ (row ++ [left[j]])).Perm ((left[j] :: left.eraseIdx j) ++ row) := by
    rw [← List.append_assoc]
    refine List.perm_append_comm.trans ?_
    simp
  exact h2.trans (this.append_right row)

def RowD (d : D) (c : List Nat) : Prop := ∀ x : Nat, x < c.length → ixR (.v d) (.v (.int x)) = .ok (.v (.int (ap c x : Nat)))
theorem rowD_l (c : List Nat) : RowD (.list (nD c)) c := fun x h => ix_row h
theorem rowD_t (c : List Nat) : RowD (.tuple (nD c)) c := fun x h => ix_rowT h
def tgEnv (da db : D) (hv : List Nat) (j : Nat) (x : Sl) : Env := [.v da, .v db, .o (nD hv), .v (.int j), .u, x, .u]
def tgIn : SF := ifS (tstF (binF (inR true) (binF ixR (varF 5) (binF ixR (varF 2) (varF 3))) (varF 2))) (appS 2 (binF ixR (varF 5) (binF ixR (varF 2) (varF 3)))) skipS
theorem tg_in (da db dc : D) {c : List Nat} (hC : RowD dc c) (hv : List Nat) (j : Nat) (hj : j < hv.length) (hc : ap hv j < c.length) (hl : hv.length < 100000) : tgIn (tgEnv da db hv j (.v dc)) = .next (tgEnv da db (put hv (ap c (ap hv j))) j (.v dc)) := by
  have e1 := ix_rowW hj
  have e2 := hC _ hc
  unfold tgIn tgEnv put
  by_cases h : ap c (ap hv j) ∈ hv
  · simp [e1, e2, h]
  · simp [e1, e2, h, appS, hl, nD_app, nD_one]
def tgBody : SF := seqS (forS (itF itS (tupF (aCons (varF 0) (aCons (varF 1) aNil)))) (asgn 5) tgIn) (asgS (binF addR (varF 3) (cF (.int 1))) (asgn 3))
theorem tg_body {da db : D} {a b hv : List Nat} (hA : RowD da a) (hB : RowD db b) {m j : Nat} {x : Sl} (ha : Pm a m) (hb : Pm b m) (h : TogInv a b m hv j) (hj : j < hv.length) (hm : m < 100000) : ∃ hv' x', tgBody (tgEnv da db hv j x) = .next (tgEnv da db hv' (j + 1) x') ∧ TogInv a b m hv' (j + 1) := by
  have hl := h.len
  have hs := h.step ha hb hj
  have hlt := h.lt _ (ap_mem hj)
  refine ⟨_, .v db, ?_, hs⟩
  have e1 := tg_in da db da hA hv j hj (by rw [ha.len]; exact hlt) (by omega)
  have hl2 : (put hv (ap a (ap hv j))).length < 100000 := by
    unfold put
    split
    · omega
    · rename_i hn
      have : (ap a (ap hv j) :: hv).length ≤ m := by
        have := List.Nodup.length_le_of_subset (List.nodup_cons.mpr ⟨hn, h.nd⟩) (l₂ := List.range m) fun x hx => List.mem_range.mpr ((List.mem_cons.mp hx).elim (fun e => e ▸ ha.ap_lt hlt) (h.lt x))
        simpa using this
      simp at this ⊢
      omega
  have e2 := tg_in da db db hB (put hv (ap a (ap hv j))) j (Nat.lt_of_lt_of_le hj put_len) (by rw [put_ap hj, hb.len]; exact hlt) hl2
  rw [put_ap hj] at e2
  have e3 : forL (asgn 5) tgIn [.v da, .v db] (tgEnv da db hv j x) = .next (tgEnv da db (put (put hv (ap a (ap hv j))) (ap b (ap hv j))) j (.v db)) := by
    rw [forL_next (ρ1 := tgEnv da db hv j (.v da)) rfl e1, forL_next (ρ1 := tgEnv da db (put hv (ap a (ap hv j))) j (.v db)) rfl e2]
    rfl
  unfold tgBody
  unfold tgEnv at e3 ⊢
  simp [e3]
theorem together_g {da db : D} {a b : List Nat} {m : Nat} (hA : RowD da a) (hB : RowD db b) (ha : Pm a m) (hb : Pm b m) (h0 : 0 < m) (hm : m ≤ 1000) : ∃ p q n, n ≤ m ∧ Sh p q n ∧ f_law_together [.v da, .v db] = .ret (.v (sheet p q)) := by
  have hw := whileS_go (t := tstF (binF ltR (varF 3) (unF lenR (varF 2)))) (s := tgBody) (ρ := tgEnv da db [0] 0 .u) (fun ρ => ∃ hv j x, ρ = tgEnv da db hv j x ∧ TogInv a b m hv j) (fun ρ => m - (match slot ρ 3 with | .v (.int j) => j.toNat | _ => 0))
    ⟨[0], 0, .u, rfl, by simp, by simpa using h0, by simp, by omega, by simp, by simpa using Re.z⟩ (by show m - 0 < 1000000; omega) ?_
  · obtain ⟨ρ', e, ⟨hv, j, x, eρ, inv⟩, ht⟩ := hw
    subst eρ
    have hj : j = hv.length := by
      have hle := inv.le
      unfold tgEnv at ht
      simp at ht
      omega
    subst hj
    have hp := nsrt_perm hv
    have hcl : ∀ x ∈ hv, ap a x ∈ hv ∧ ap b x ∈ hv := fun x hx => by
      obtain ⟨i, hi, e⟩ := List.getElem_of_mem hx
      have := inv.done i hi
      rw [show ap hv i = x from ap_of (by rw [List.getElem?_eq_getElem hi, e])] at this
      exact this
    have hlen := inv.len
    have hk : ∀ x ∈ nsrt hv, x ∈ hv := fun x hx => hp.mem_iff.mp hx
    refine ⟨_, _, _, ?_, orbit_sh (kept := nsrt hv) ha hb (hp.nodup_iff.mpr inv.nd) (fun x hx => inv.lt x (hk x hx)) (hp.mem_iff.mpr inv.z) (nsrt_le hv) (fun x hx => ⟨hp.mem_iff.mpr (hcl x (hk x hx)).1, hp.mem_iff.mpr (hcl x (hk x hx)).2⟩) (fun x hx => inv.re x (hk x hx)), fnR_of ?_⟩
    · rw [hp.length_eq]; exact hlen
    show b_law_together [.v da, .v db, .u, .u, .u, .u, .u] = _
    have hkl : (nsrt hv).length ≤ 100000 := by rw [hp.length_eq]; omega
    have comp : ∀ (dc : D) (c : List Nat), RowD dc c → ∀ i : Nat, c.length = m → (∀ x ∈ hv, ap c x ∈ hv) → ∀ ρ : Env, ρ = [.v da, .v db, .o (nD hv), .v (.int hv.length), .v (.list (nD (nsrt hv))), x, .u] → (slot ρ i).rd = .ok (.v dc) → i < 6 →
        lcF (itF itC (varF 4)) (asgn 6) [6] yesT (indexF (varF 4) (binF ixR (varF i) (varF 6))) ρ = .ok (.o (nD ((nsrt hv).map fun x => Sq.inv (nsrt hv) (ap c x)))) := by
      intro dc c hC i hc hcc ρ eρ hs hi
      subst eρ
      have := lcF_map (it := itF itC (varF 4)) (τ := asgn 6) (vs := [6]) (e := indexF (varF 4) (binF ixR (varF i) (varF 6))) (ρ := [.v da, .v db, .o (nD hv), .v (.int hv.length), .v (.list (nD (nsrt hv))), x, .u]) (nsrt hv) (fun n : Nat => Rv.v (.int (n : Int))) (fun n : Nat => .int (Sq.inv (nsrt hv) (ap c n) : Nat)) (by simp [nD]) hkl ?_
      · rw [this]
        simp [nD]
      · intro y hy
        have hym := inv.lt y (hk y hy)
        refine ⟨[.v da, .v db, .o (nD hv), .v (.int hv.length), .v (.list (nD (nsrt hv))), x, .v (.int y)], .v (.int (Sq.inv (nsrt hv) (ap c y) : Nat)), by simp, ?_, rfl⟩
        rw [indexF_e (a := .v (.list (nD (nsrt hv)))) (ys := nD (nsrt hv)) (by simp) rfl]
        have hs' : (slot [.v da, .v db, .o (nD hv), .v (.int hv.length), .v (.list (nD (nsrt hv))), x, .v (.int y)] i).rd = .ok (.v dc) := by
          rw [← hs]
          congr 1
          match i, hi with
          | 0, _ => rfl
          | 1, _ => rfl
          | 2, _ => rfl
          | 3, _ => rfl
          | 4, _ => rfl
          | 5, _ => rfl
        have e1 := hC y (by omega)
        have e2 := indexR_nD (hp.mem_iff.mpr (hcc y (hk y hy)))
        simp [hs', e1, e2]
    have c1 := comp da a hA 0 ha.len (fun x hx => (hcl x hx).1) _ rfl rfl (by decide)
    have c2 := comp db b hB 1 hb.len (fun x hx => (hcl x hx).2) _ rfl rfl (by decide)
    unfold tgEnv at e
    show (seqS (asgS (lstF (aCons (cF (.int 0)) aNil)) (asgn 2)) (seqS (asgS (cF (.int 0)) (asgn 3)) (seqS (whileS (tstF (binF ltR (varF 3) (unF lenR (varF 2)))) tgBody) _))) _ = _
    have e' : whileS (tstF (binF ltR (varF 3) (unF lenR (varF 2)))) tgBody [.v da, .v db, .o [.int 0], .v (.int 0), .u, .u, .u] = _ := e
    simp [e', c1, c2, sheet]
  · intro ρ ⟨hv, j, x, eρ, inv⟩
    subst eρ
    refine ⟨decide (j < hv.length), by unfold tgEnv; simp, fun hb' => ?_⟩
    have hj : j < hv.length := by simpa using hb'
    have hlen := inv.len
    obtain ⟨hv', x', e, inv'⟩ := tg_body (x := x) hA hB ha hb inv hj (by omega)
    refine ⟨_, e, ⟨hv', j + 1, x', rfl, inv'⟩, ?_⟩
    show m - ((j + 1 : Nat) : Int).toNat < m - ((j : Nat) : Int).toNat
    omega
theorem together_ok {a b : List Nat} {m : Nat} (ha : Pm a m) (hb : Pm b m) (h0 : 0 < m) (hm : m ≤ 1000) : ∃ p q n, n ≤ m ∧ Sh p q n ∧ f_law_together [.v (.list (nD a)), .v (.list (nD b))] = .ret (.v (sheet p q)) := together_g (rowD_l a) (rowD_l b) ha hb h0 hm
theorem unp_sh {τ1 τ2 : TF} {p q : List Nat} {ρ : Env} : unpT [τ1, τ2] (.v (sheet p q)) ρ = (τ1 (.v (.tuple (nD p))) ρ).bind fun ρ' => (τ2 (.v (.tuple (nD q))) ρ').bind fun ρ'' => .ok ρ'' := (rfl)

theorem seqS_next {a b : SF} {ρ ρ' : Env} (h : a ρ = .next ρ') : seqS a b ρ = b ρ' := by rw [seqS_e, h]; rfl

theorem cell3_ok (ns : List Int) (k : Nat) (hk : k < 2 ^ 32) : ∃ c : Int, f_law_cell_3 [.v (.list (zD ns)), .v (.int k)] = .ret (.v (.int c)) := by
  by_cases h : k < ns.length
  · obtain ⟨T, hT, j3⟩ : ∃ T : Int, 0 < T ∧ ipow 10 18 = .ok (.int T) := by
      refine ⟨10 ^ 18, by decide, ?_⟩
      unfold ipow
      rw [if_pos (by decide)]
      rfl
    obtain ⟨v, hx⟩ : ∃ v : Int, ixR (.v (.list (zD ns))) (.v (.int k)) = .ok (.v (.int v)) := ⟨_, ixR_vl (at_nat.trans (zD_get h))⟩
    obtain ⟨u, hu⟩ : ∃ u : Int, imod v T = .ok (.int u) := ⟨_, imod_s hT⟩
    refine ⟨u, fnR_of ?_⟩
    show b_law_cell_3 [.v (.list (zD ns)), .v (.int k)] = _
    unfold b_law_cell_3
    simp [hx, h, j3, hu]
  · by_cases h0 : ns.length = 0
    · refine ⟨0, fnR_of ?_⟩
      show b_law_cell_3 [.v (.list (zD ns)), .v (.int k)] = _
      have hk : ¬ (k : Int) < 0 := by omega
      unfold b_law_cell_3
      simp [h0, hk]
    · obtain ⟨q, hm, hq⟩ : ∃ q : Nat, imod (k : Int) (ns.length : Int) = .ok (.int (q : Int)) ∧ q < ns.length := ⟨k % ns.length, imod_s (by omega), Nat.mod_lt _ (by omega)⟩
      obtain ⟨v, hx⟩ : ∃ v : Int, ixR (.v (.list (zD ns))) (.v (.int q)) = .ok (.v (.int v)) := ⟨_, ixR_vl (at_nat.trans (zD_get hq))⟩
      obtain ⟨w, h1⟩ : ∃ w : Int, imod v 1000003 = .ok (.int w) := ⟨_, imod_s (by decide)⟩
      obtain ⟨x, h2⟩ : ∃ x : Int, imul w 48271 = .ok (.int x) := ⟨_, imul_r (by decide)⟩
      obtain ⟨y, h3⟩ : ∃ y : Int, imul (k : Int) (k : Int) = .ok (.int y) := ⟨_, imul_r (by omega)⟩
      obtain ⟨z, h4⟩ : ∃ z : Int, imul y 7919 = .ok (.int z) := ⟨_, imul_r (by decide)⟩
      obtain ⟨c, h5⟩ : ∃ c : Int, imod (x + z) 1000003 = .ok (.int c) := ⟨_, imod_s (by decide)⟩
      refine ⟨c, fnR_of ?_⟩
      show b_law_cell_3 [.v (.list (zD ns)), .v (.int k)] = _
      unfold b_law_cell_3
      simp [h0, h, hm, hx, h1, h2, h3, h4, h5]

def row4Env (ns : List Int) (t m : Nat) (left row : List Nat) (x : Sl) : Env := [.v (.list (zD ns)), .v (.int t), .v (.int m), .o (nD left), .o (nD row), x]
theorem row4_step (ns : List Int) (t m i : Nat) (left row : List Nat) (ht : t + i < 2 ^ 32) (hl : left.length < 1000000) (hp : 0 < left.length) (hr : row.length < 100000) : ∃ j : Nat, ∃ h : j < left.length,
    appM 4 (popAtM 3 (binF (flat2 (int2 imod)) (callF f_law_cell_3 (aCons (varF 0) (aCons (binF addR (varF 1) (varF 5)) aNil))) (unF lenR (varF 3)))) (row4Env ns t m left row (.v (.int i))) = .next (row4Env ns t m (left.eraseIdx j) (row ++ [left[j]]) (.v (.int i))) := by
  obtain ⟨c, hc⟩ := cell3_ok ns (t + i) (by omega)
  have hc' : f_law_cell_3 [.v (.list (zD ns)), .v (.int ((t : Int) + i))] = .ret (.v (.int c)) := by rw [← Int.natCast_add]; exact hc
  have hmod : imod c (left.length : Int) = .ok (.int (c % left.length)) := imod_s (by omega)
  have h0 : 0 ≤ c % (left.length : Int) := Int.emod_nonneg _ (by omega)
  have h1 : c % (left.length : Int) < left.length := Int.emod_lt_of_pos _ (by omega)
  generalize hz : c % (left.length : Int) = z at *
  obtain ⟨j, rfl⟩ := Int.eq_ofNat_of_zero_le h0
  have hj : j < left.length := by omega
  have hg : (nD left)[j]? = some (.int (left[j] : Nat)) := by simp [nD, hj]
  refine ⟨j, hj, ?_⟩
  have hin : (j : Int) < 1000000 := by omega
  have hd : (nD left).eraseIdx j = nD (left.eraseIdx j) := erase_map _ _ _
  unfold row4Env appM popAtM
  simp [hc', hmod, hg, hin, hj, hr, hd, nD_app, nD_one]
theorem row4_ok (ns : List Int) (t m : Nat) (ht : t < 2 ^ 31) (hm : m ≤ 100000) : ∃ r, Pm r m ∧ f_law_row_4 [.v (.list (zD ns)), .v (.int t), .v (.int m)] = .ret (.o (nD r)) := by
  have hl := forL_go (τ := asgn 5) (s := appM 4 (popAtM 3 (binF (flat2 (int2 imod)) (callF f_law_cell_3 (aCons (varF 0) (aCons (binF addR (varF 1) (varF 5)) aNil))) (unF lenR (varF 3))))) (rs := (List.range m).map fun (i : Nat) => Rv.v (.int (i : Int)))
    (ρ := [.v (.list (zD ns)), .v (.int t), .v (.int m), .o (nD (List.range m)), .o [], .u])
    (fun i ρ => ∃ left row : List Nat, ∃ x, ρ = [.v (.list (zD ns)), .v (.int t), .v (.int m), .o (nD left), .o (nD row), x] ∧ (left ++ row).Perm (List.range m) ∧ row.length = i)
    ⟨List.range m, [], .u, rfl, by simp, rfl⟩ ?_
  · obtain ⟨ρ', e, left, row, x, eρ, hp, hr⟩ := hl
    subst eρ
    have hlen := hp.length_eq
    simp at hlen hr
    have : left = [] := List.length_eq_zero_iff.mp (by omega)
    subst this
    refine ⟨row, Pm.of_perm (by simpa using hp), fnR_of ?_⟩
    show b_law_row_4 [.v (.list (zD ns)), .v (.int t), .v (.int m), .u, .u, .u] = _
    unfold b_law_row_4
    have e1 : lrgF (cF (.int 0)) (varF 2) [.v (.list (zD ns)), .v (.int t), .v (.int m), .u, .u, .u] = .ok (.o (nD (List.range m))) := lrg_e (a := .v (.int m)) rfl rfl (by omega)
    have e2 : rg1F (varF 2) [.v (.list (zD ns)), .v (.int t), .v (.int m), .o (nD (List.range m)), .o [], .u] = .ok ((List.range m).map fun (i : Nat) => Rv.v (.int (i : Int))) := by rw [rg1_e (a := .v (.int m)) rfl rfl (by omega), rgR_nat]
    simp [e1, e2, e]
  · intro i r ρ hr ⟨left, row, x, eρ, hp, hi⟩
    subst eρ
    obtain ⟨hi2, er⟩ := List.getElem?_eq_some_iff.mp hr
    simp at er hi2
    subst er
    have hlen := hp.length_eq
    simp at hlen
    obtain ⟨j, hj, e⟩ := row4_step ns t m i left row (by omega) (by omega) (by omega) (by omega)
    refine ⟨_, _, rfl, e, left.eraseIdx j, row ++ [left[j]], _, rfl, ?_, by simp [hi]⟩
    · refine List.Perm.trans ?_ hp
      have : (left[j] :: left.eraseIdx j).Perm left := by
        rw [List.eraseIdx_eq_take_drop_succ]
        have := (List.perm_middle (a := left[j]) (l₁ := left.take j) (l₂ := left.drop (j + 1))).symm
        refine this.trans ?_
        rw [List.getElem_cons_drop hj, List.take_append_drop]
      have h2 : (left.eraseIdx j ++ (row ++ [left[j]])).Perm ((left[j] :: left.eraseIdx j) ++ row) := by
        rw [← List.append_assoc]
        refine List.perm_append_comm.trans ?_
        simp
      exact h2.trans (this.append_right row)

def swp (i j x : Nat) : Nat := if x = i then j else if x = j then i else x
theorem swp_pm {f : List Nat} {n i j : Nat} (hf : Pm f n) (hi : i < n) (hj : j < n) : Pm ((f.set i (ap f j)).set j (ap f i)) n := by
  have hs : ∀ x, x < n → swp i j x < n := fun x hx => by
    unfold swp
    split
    · exact hj
    · split
      · exact hi
      · exact hx
  have : (f.set i (ap f j)).set j (ap f i) = rowOf n fun x => ap f (swp i j x) := by
    refine row_ext (m := n) (by simp [hf.len]) (by simp) fun x hx => ?_
    rw [ap_rowOf hx]
    unfold swp
    by_cases h1 : x = j
    · subst h1
      rw [ap_set_self (by simp [hf.len]; exact hx)]
      split
      · rename_i e; rw [e]
      · rw [if_pos rfl]
    · rw [ap_set_ne (Ne.symm h1)]
      by_cases h2 : x = i
      · subst h2
        rw [ap_set_self (by rw [hf.len]; exact hx), if_pos rfl]
      · rw [ap_set_ne (Ne.symm h2), if_neg h2, if_neg h1]
  rw [this]
  refine pm_rowOf (fun x hx => hf.ap_lt (hs x hx)) fun x y hx hy e => ?_
  have := hf.ap_inj (hs x hx) (hs y hy) e
  unfold swp at this
  split at this <;> split at this <;> (try split at this) <;> (try split at this) <;> omega

def toA (L k : Nat) : Nat := if k % L = L - 1 then k + 1 - L else k + 1
def toB (L N s k : Nat) : Nat := if k + L < N then k + L else (k + s) % L
theorem toA_mod {L H k : Nat} (hL : 0 < L) (hk : k < L * H) : toA L k < L * H ∧ (if toA L k % L = 0 then toA L k + L - 1 else toA L k - 1) = k := by
  have e := Nat.div_add_mod k L
  have hr := Nat.mod_lt k hL
  have hq : k / L < H := (Nat.div_lt_iff_lt_mul hL).mpr (by rw [Nat.mul_comm]; exact hk)
  generalize k / L = a at *
  generalize k % L = r at *
  have hm : L * a + L ≤ L * H := by
    have := Nat.mul_le_mul_left L (show a + 1 ≤ H from hq)
    rw [Nat.mul_add, Nat.mul_one] at this
    exact this
  unfold toA
  by_cases h : r = L - 1
  · have : k % L = L - 1 := by
      rw [← e, Nat.mul_add_mod, Nat.mod_eq_of_lt hr]
      exact h
    rw [if_pos this]
    have e2 : k + 1 - L = L * a := by omega
    rw [e2, Nat.mul_mod_right, if_pos rfl]
    omega
  · have : ¬ k % L = L - 1 := by
      rw [← e, Nat.mul_add_mod, Nat.mod_eq_of_lt hr]
      exact h
    rw [if_neg this]
    have e2 : (k + 1) % L = r + 1 := by
      rw [← e, Nat.add_assoc, Nat.mul_add_mod, Nat.mod_eq_of_lt (by omega)]
    rw [e2, if_neg (by omega)]
    omega
theorem toA_pm {L H : Nat} (hL : 0 < L) : Pm (rowOf (L * H) (toA L)) (L * H) :=
  pm_rowOf (fun x hx => (toA_mod hL hx).1) fun x y hx hy e => by
    rw [← (toA_mod hL hx).2, ← (toA_mod hL hy).2, e]
theorem mod_near {L x y : Nat} (hxy : x ≤ y) (h : y < x + L) (e : x % L = y % L) : x = y := by
  have e1 := Nat.div_add_mod x L
  have e2 := Nat.div_add_mod y L
  rw [← e] at e2
  generalize x / L = a at *
  generalize y / L = b at *
  generalize x % L = r at *
  rcases Nat.lt_or_ge a b with h1 | h1
  · have := Nat.mul_le_mul_left L (show a + 1 ≤ b from h1)
    rw [Nat.mul_add, Nat.mul_one] at this
    omega
  · have := Nat.mul_le_mul_left L h1
    omega
theorem toB_pm {L H s : Nat} (hL : 0 < L) (hH : 0 < H) : Pm (rowOf (L * H) (toB L (L * H) s)) (L * H) := by
  have hN : L ≤ L * H := by
    have := Nat.mul_le_mul_left L (show 1 ≤ H from hH)
    omega
  generalize L * H = N at *
  refine pm_rowOf (fun x hx => ?_) fun x y hx hy e => ?_
  · unfold toB
    have := Nat.mod_lt (x + s) hL
    split <;> omega
  · unfold toB at e
    have m1 := Nat.mod_lt (x + s) hL
    have m2 := Nat.mod_lt (y + s) hL
    split at e <;> split at e
    · omega
    · omega
    · omega
    · rcases Nat.le_total x y with h | h
      · have := mod_near (L := L) (x := x + s) (y := y + s) (by omega) (by omega) e
        omega
      · have := mod_near (L := L) (x := y + s) (y := x + s) (by omega) (by omega) e.symm
        omega
def toIn : SF := (seqS (appS 3 (binF (flat2 (int2 isub)) (binF addR (varF 5) (cF (.int 1))) (binF (flat2 (int2 imul)) (varF 0) (unF intR (binF eqR (binF (flat2 (int2 imod)) (varF 5) (varF 0)) (binF (flat2 (int2 isub)) (varF 0) (cF (.int 1))))))))
  (ifS (tstF (binF ltR (binF addR (varF 5) (varF 0)) (binF (flat2 (int2 imul)) (varF 0) (varF 1)))) (appS 4 (binF addR (varF 5) (varF 0)))
  (appS 4 (binF (flat2 (int2 imod)) (binF addR (varF 5) (varF 2)) (varF 0)))))
def toEnv (L H s i : Nat) (x : Sl) : Env := [.v (.int L), .v (.int H), .v (.int s), .o (nD (rowOf i (toA L))), .o (nD (rowOf i (toB L (L * H) s))), x]
theorem rowOf_succ (i : Nat) (f : Nat → Nat) : rowOf (i + 1) f = rowOf i f ++ [f i] := by simp [rowOf, List.range_succ]
theorem to_in {L H s i : Nat} (hL : 0 < L) (hL2 : L ≤ 1000) (hH2 : H ≤ 1000) (hi : i < 1000) (hs : s < 1000) : toIn (toEnv L H s i (.v (.int i))) = .next (toEnv L H s (i + 1) (.v (.int i))) := by
  have m1 : imod (i : Int) (L : Int) = .ok (.int ((i % L : Nat) : Int)) := by rw [imod_s (by omega)]; rfl
  have m2 : imod ((i : Int) + (s : Int)) (L : Int) = .ok (.int (((i + s) % L : Nat) : Int)) := by rw [imod_s (by omega)]; rfl
  have m3 : imul (L : Int) (H : Int) = .ok (.int ((L * H : Nat) : Int)) := by rw [imul_r (by omega)]; rfl
  have hr := Nat.mod_lt i hL
  have hle := Nat.mod_le i L
  have r1 : intR (.v (.bool (decide (((i % L : Nat) : Int) = (L : Int) - 1)))) = .ok (.v (.int (if i % L = L - 1 then 1 else 0))) := by
    by_cases h : i % L = L - 1
    · have : ((i % L : Nat) : Int) = (L : Int) - 1 := by omega
      rw [decide_eq_true this, if_pos h]
      rfl
    · have : ¬ ((i % L : Nat) : Int) = (L : Int) - 1 := by omega
      rw [decide_eq_false this, if_neg h]
      rfl
  have m4 : imul (L : Int) (if i % L = L - 1 then 1 else 0) = .ok (.int (if i % L = L - 1 then (L : Int) else 0)) := by
    rw [imul_r (by split <;> omega)]
    split <;> simp
  have h1 : (appS 3 (binF (flat2 (int2 isub)) (binF addR (varF 5) (cF (.int 1))) (binF (flat2 (int2 imul)) (varF 0) (unF intR (binF eqR (binF (flat2 (int2 imod)) (varF 5) (varF 0)) (binF (flat2 (int2 isub)) (varF 0) (cF (.int 1)))))))) (toEnv L H s i (.v (.int i))) = .next [.v (.int L), .v (.int H), .v (.int s), .o (nD (rowOf (i + 1) (toA L))), .o (nD (rowOf i (toB L (L * H) s))), .v (.int i)] := by
    have e : (i : Int) + 1 - (if i % L = L - 1 then (L : Int) else 0) = ((toA L i : Nat) : Int) := by
      unfold toA
      have hh : i % L = L - 1 → L ≤ i + 1 := fun h => by omega
      split
      · rename_i h
        have := hh h
        omega
      · omega
    unfold toEnv
    rw [rowOf_succ, appS_e (xs := nD (rowOf i (toA L))) rfl (by simp [nD]; omega)]
    obtain ⟨z, hz⟩ : ∃ z : Int, ((i % L : Nat) : Int) = z := ⟨_, rfl⟩
    rw [hz] at m1 r1
    generalize toB L (L * H) s = B
    generalize toA L = A at *
    simp [m1, r1, m4, e, nD_app, nD_one]
  have h2 : (ifS (tstF (binF ltR (binF addR (varF 5) (varF 0)) (binF (flat2 (int2 imul)) (varF 0) (varF 1)))) (appS 4 (binF addR (varF 5) (varF 0)))
  (appS 4 (binF (flat2 (int2 imod)) (binF addR (varF 5) (varF 2)) (varF 0)))) [.v (.int L), .v (.int H), .v (.int s), .o (nD (rowOf (i + 1) (toA L))), .o (nD (rowOf i (toB L (L * H) s))), .v (.int i)] = .next (toEnv L H s (i + 1) (.v (.int i))) := by
    have e : ((toB L (L * H) s i : Nat) : Int) = if i + L < L * H then ((i : Int) + (L : Int)) else (((i + s) % L : Nat) : Int) := by
      unfold toB
      split <;> rfl
    unfold toEnv
    rw [rowOf_succ (f := toB L (L * H) s)]
    generalize toA L = A at *
    generalize toB L (L * H) s = B at *
    by_cases h : i + L < L * H
    · rw [if_pos h] at e
      have : (i : Int) + (L : Int) < ((L * H : Nat) : Int) := by omega
      rw [ifS_e, show (tstF (binF ltR (binF addR (varF 5) (varF 0)) (binF (flat2 (int2 imul)) (varF 0) (varF 1)))) [.v (.int L), .v (.int H), .v (.int s), .o (nD (rowOf (i + 1) A)), .o (nD (rowOf i B)), .v (.int i)] = .ok true by generalize ((L * H : Nat) : Int) = N at *; simp [m3, this], thenT_ok, if_pos rfl, appS_e (xs := nD (rowOf i B)) rfl (by simp [nD]; omega)]
      simp [nD_app, nD_one, e]
    · rw [if_neg h] at e
      have : ¬ (i : Int) + (L : Int) < ((L * H : Nat) : Int) := by omega
      rw [ifS_e, show (tstF (binF ltR (binF addR (varF 5) (varF 0)) (binF (flat2 (int2 imul)) (varF 0) (varF 1)))) [.v (.int L), .v (.int H), .v (.int s), .o (nD (rowOf (i + 1) A)), .o (nD (rowOf i B)), .v (.int i)] = .ok false by generalize ((L * H : Nat) : Int) = N at *; simp [m3, this], thenT_ok, if_neg (by decide), appS_e (xs := nD (rowOf i B)) rfl (by simp [nD]; omega)]
      generalize (((i + s) % L : Nat) : Int) = z at *
      simp [m2, nD_app, nD_one, e]
  unfold toIn
  rw [seqS_next h1]
  exact h2
theorem torus_ok {L H s : Nat} (hL : 0 < L) (hL2 : L ≤ 1000) (hH2 : H ≤ 1000) (hN : L * H ≤ 1000) (hs : s < 1000) : f_law_torus_2 [.v (.int L), .v (.int H), .v (.int s)] = .ret (.p2 (nD (rowOf (L * H) (toA L))) (nD (rowOf (L * H) (toB L (L * H) s)))) := by
  refine fnR_of ?_
  show b_law_torus_2 [.v (.int L), .v (.int H), .v (.int s), .u, .u, .u] = _
  have m3 : imul (L : Int) (H : Int) = .ok (.int ((L * H : Nat) : Int)) := by rw [imul_r (by omega)]; rfl
  have e2 : rg1F (binF (flat2 (int2 imul)) (varF 0) (varF 1)) (toEnv L H s 0 .u) = .ok ((List.range (L * H)).map fun (i : Nat) => Rv.v (.int (i : Int))) := by rw [rg1_e (n := ((L * H : Nat) : Int)) (a := .v (.int ((L * H : Nat) : Int))) (by unfold toEnv; generalize ((L * H : Nat) : Int) = N at *; simp [m3]) rfl (by omega), rgR_nat]
  have hl := forL_go (τ := asgn 5) (s := toIn) (rs := (List.range (L * H)).map fun (i : Nat) => Rv.v (.int (i : Int))) (ρ := toEnv L H s 0 .u)
    (fun i ρ => ∃ x, ρ = toEnv L H s i x) ⟨_, rfl⟩ ?_
  · obtain ⟨ρ', e, x, eρ⟩ := hl
    subst eρ
    simp at e
    unfold b_law_torus_2
    have e0 : ([.v (.int L), .v (.int H), .v (.int s), .o [], .o [], .u] : Env) = toEnv L H s 0 .u := rfl
    rw [seqS_next (show (asgS (lstF aNil) (asgn 3)) [.v (.int L), .v (.int H), .v (.int s), .u, .u, .u] = .next [.v (.int L), .v (.int H), .v (.int s), .o [], .u, .u] from rfl), seqS_next (show (asgS (lstF aNil) (asgn 4)) [.v (.int L), .v (.int H), .v (.int s), .o [], .u, .u] = .next (toEnv L H s 0 .u) from rfl), seqS_next (ρ' := toEnv L H s (L * H) x) (by unfold forS; rw [e2]; exact e)]
    rfl
  · intro i r ρ hr ⟨x, eρ⟩
    subst eρ
    obtain ⟨hi, er⟩ := List.getElem?_eq_some_iff.mp hr
    simp at er hi
    subst er
    exact ⟨_, _, rfl, to_in hL hL2 hH2 (by omega) hs, _, rfl⟩

def exIn : SF := (seqS (asgS (binF (flat2 (int2 imod)) (callF f_law_cell_3 (aCons (varF 1) (aCons (binF addR (varF 2) (binF (flat2 (int2 imul)) (cF (.int 2)) (varF 4))) aNil))) (unF lenR (varF 0))) (asgn 5))
  (seqS (asgS (binF (flat2 (int2 imod)) (callF f_law_cell_3 (aCons (varF 1) (aCons (binF addR (binF addR (varF 2) (binF (flat2 (int2 imul)) (cF (.int 2)) (varF 4))) (cF (.int 1))) aNil))) (unF lenR (varF 0))) (asgn 6))
  (seqS (asgS (binF ixR (varF 0) (varF 5)) (asgn 7))
  (seqS (setIt 0 (varF 5) (binF ixR (varF 0) (varF 6)))
  (setIt 0 (varF 6) (varF 7))))))
def exEnv (ns : List Int) (t m : Nat) (xs : List Nat) (x4 x5 x6 x7 : Sl) : Env := [.o (nD xs), .v (.list (zD ns)), .v (.int t), .v (.int m), x4, x5, x6, x7]
theorem mod_ex (c : Int) {N : Nat} (h : 0 < N) : ∃ i : Nat, i < N ∧ imod c (N : Int) = .ok (.int (i : Int)) := by
  have h0 : 0 ≤ c % (N : Int) := Int.emod_nonneg _ (by omega)
  have h1 : c % (N : Int) < N := Int.emod_lt_of_pos _ (by omega)
  have h2 : imod c (N : Int) = .ok (.int (c % N)) := imod_s (by omega)
  generalize c % (N : Int) = z at *
  obtain ⟨j, rfl⟩ := Int.eq_ofNat_of_zero_le h0
  exact ⟨j, by omega, h2⟩
theorem ex_in (ns : List Int) {t m k N : Nat} {xs : List Nat} (hx : Pm xs N) (h0 : 0 < N) (hN : N ≤ 1000) (ht : t < 1000) (hk : k < 1000) (x5 x6 x7 : Sl) : ∃ xs' x5' x6' x7', Pm xs' N ∧ exIn (exEnv ns t m xs (.v (.int k)) x5 x6 x7) = .next (exEnv ns t m xs' (.v (.int k)) x5' x6' x7') := by
  obtain ⟨c1, hc1⟩ := cell3_ok ns (t + 2 * k) (by omega)
  obtain ⟨c2, hc2⟩ := cell3_ok ns (t + 2 * k + 1) (by omega)
  obtain ⟨i, hi, m1⟩ := mod_ex c1 h0
  obtain ⟨j, hj, m2⟩ := mod_ex c2 h0
  have hm : imul 2 (k : Int) = .ok (.int ((2 * k : Nat) : Int)) := by rw [imul_r (by omega)]; rfl
  have a1 : (t : Int) + ((2 * k : Nat) : Int) = ((t + 2 * k : Nat) : Int) := by omega
  have a2 : ((t + 2 * k : Nat) : Int) + 1 = ((t + 2 * k + 1 : Nat) : Int) := by omega
  refine ⟨(xs.set i (ap xs j)).set j (ap xs i), .v (.int i), .v (.int j), .v (.int (ap xs i : Nat)), swp_pm hx hi hj, ?_⟩
  have hl := hx.len
  have i1 := ix_rowW (a := xs) (x := i) (by omega)
  have i2 := ix_rowW (a := xs) (x := j) (by omega)
  have n1 := ixN_nat (n := N) hi
  have n2 := ixN_nat (n := N) hj
  have e1 : (asgS (binF (flat2 (int2 imod)) (callF f_law_cell_3 (aCons (varF 1) (aCons (binF addR (varF 2) (binF (flat2 (int2 imul)) (cF (.int 2)) (varF 4))) aNil))) (unF lenR (varF 0))) (asgn 5)) (exEnv ns t m xs (.v (.int k)) x5 x6 x7) = .next (exEnv ns t m xs (.v (.int k)) (.v (.int i)) x6 x7) := by
    unfold exEnv
    generalize ((2 * k : Nat) : Int) = z1 at *
    generalize ((t + 2 * k : Nat) : Int) = z2 at *
    simp [hm, a1, hc1, hl, m1]
  have e2 : (asgS (binF (flat2 (int2 imod)) (callF f_law_cell_3 (aCons (varF 1) (aCons (binF addR (binF addR (varF 2) (binF (flat2 (int2 imul)) (cF (.int 2)) (varF 4))) (cF (.int 1))) aNil))) (unF lenR (varF 0))) (asgn 6)) (exEnv ns t m xs (.v (.int k)) (.v (.int i)) x6 x7) = .next (exEnv ns t m xs (.v (.int k)) (.v (.int i)) (.v (.int j)) x7) := by
    unfold exEnv
    generalize ((2 * k : Nat) : Int) = z1 at *
    generalize ((t + 2 * k + 1 : Nat) : Int) = z3 at *
    generalize ((t + 2 * k : Nat) : Int) = z2 at *
    simp [hm, a1, a2, hc2, hl, m2]
  unfold exIn
  rw [seqS_next e1, seqS_next e2, seqS_next (show (asgS (binF ixR (varF 0) (varF 5)) (asgn 7)) (exEnv ns t m xs (.v (.int k)) (.v (.int i)) (.v (.int j)) x7) = .next (exEnv ns t m xs (.v (.int k)) (.v (.int i)) (.v (.int j)) (.v (.int (ap xs i : Nat)))) from by unfold exEnv; simp [i1]), seqS_next (show (setIt 0 (varF 5) (binF ixR (varF 0) (varF 6))) (exEnv ns t m xs (.v (.int k)) (.v (.int i)) (.v (.int j)) (.v (.int (ap xs i : Nat)))) = .next (exEnv ns t m (xs.set i (ap xs j)) (.v (.int k)) (.v (.int i)) (.v (.int j)) (.v (.int (ap xs i : Nat)))) from by unfold exEnv setIt; simp [i2, hl, n1, nD_set])]
  unfold exEnv setIt
  simp [hl, n2, nD_set]
theorem exch_ok (ns : List Int) {t m N : Nat} {xs : List Nat} (hx : Pm xs N) (h0 : 0 < N) (hN : N ≤ 1000) (ht : t < 1000) (hm : m < 1000) : ∃ ys, Pm ys N ∧ f_law_exchanged_2 [.o (nD xs), .v (.list (zD ns)), .v (.int t), .v (.int m)] = .ret (.o (nD ys)) := by
  have hl := forL_go (τ := asgn 4) (s := exIn) (rs := (List.range m).map fun (i : Nat) => Rv.v (.int (i : Int))) (ρ := exEnv ns t m xs .u .u .u .u)
    (fun _ ρ => ∃ ys x4 x5 x6 x7, Pm ys N ∧ ρ = exEnv ns t m ys x4 x5 x6 x7) ⟨xs, _, _, _, _, hx, rfl⟩ ?_
  · obtain ⟨ρ', e, ys, x4, x5, x6, x7, hy, eρ⟩ := hl
    subst eρ
    refine ⟨ys, hy, fnR_of ?_⟩
    show b_law_exchanged_2 (exEnv ns t m xs .u .u .u .u) = _
    unfold b_law_exchanged_2
    rw [seqS_next (ρ' := exEnv ns t m ys x4 x5 x6 x7) (by rw [forS_e, rg1_e (n := (m : Int)) (a := .v (.int m)) rfl rfl (by omega), rgR_nat]; exact e)]
    rfl
  · intro i r ρ hr ⟨ys, x4, x5, x6, x7, hy, eρ⟩
    subst eρ
    obtain ⟨hi, er⟩ := List.getElem?_eq_some_iff.mp hr
    simp at er hi
    subst er
    obtain ⟨zs, a, b, c, hz, e⟩ := ex_in ns (t := t) (m := m) (k := i) hy h0 hN ht (by omega) x5 x6 x7
    exact ⟨_, _, rfl, e, zs, _, a, b, c, hz, rfl⟩
theorem ret_retX {k i : Nat} {F G : List Sl → Fr} {r : AF} {ρ : Env} {da d : D} {xs ys ds : List D} {rs : List Rv} (hk : slot ρ k = .v da) (hi : slot ρ i = .o xs) (hr : r ρ = .ok rs) (ha : allV rs = some ds) (hG : G (.o xs :: ds.map Sl.v) = .ret (.o ys)) (hF : F [.v da, .v (.list ys)] = .ret (.v d)) : retX k F i G r ρ = .ret (.v d) := by
  unfold retX
  simp only [hk, hi, hr, ha, hG, hF]
theorem sheet6_ok (ns : List Int) : ∃ p q n, n ≤ 36 ∧ Sh p q n ∧ f_law_sheet_6 [.v (.list (zD ns)), .v (.int 36)] = .ret (.v (sheet p q)) := by
  obtain ⟨c, hc⟩ := cell3_ok ns 0 (by omega)
  obtain ⟨c1, hc1⟩ := cell3_ok ns 1 (by omega)
  have hc' : f_law_cell_3 [.v (.list (zD ns)), .v (.int 0)] = .ret (.v (.int c)) := hc
  have hc1' : f_law_cell_3 [.v (.list (zD ns)), .v (.int 1)] = .ret (.v (.int c1)) := hc1
  obtain ⟨b, hb, m1⟩ := mod_ex c (N := 2) (by omega)
  have d1 : idiv c 2 = .ok (.int (c / 2)) := idiv_s (by decide)
  by_cases h : b = 0
  · obtain ⟨v, hv, m2⟩ := mod_ex (c / 2) (N := 36) (by omega)
    have e0 : 1 + (v : Int) = ((v + 1 : Nat) : Int) := by omega
    have e00 : 1 + ((v + 1 : Nat) : Int) = ((1 + (v + 1) : Nat) : Int) := by omega
    obtain ⟨a, ha, e1⟩ := row4_ok ns 1 (v + 1) (by omega) (by omega)
    obtain ⟨a2, ha2, e2⟩ := row4_ok ns (1 + (v + 1)) (v + 1) (by omega) (by omega)
    obtain ⟨p, q, n, hn, hs, e3⟩ := together_ok ha ha2 (by omega) (by omega)
    refine ⟨p, q, n, by omega, hs, fnR_of ?_⟩
    subst h
    have m1' : imod c 2 = .ok (.int 0) := m1
    have m2' : imod (c / 2) 36 = .ok (.int v) := m2
    show b_law_sheet_6 [.v (.list (zD ns)), .v (.int 36), .u, .u, .u, .u, .u, .u] = _
    unfold b_law_sheet_6
    simp only [Int.natCast_one] at e1
    generalize ((1 + (v + 1) : Nat) : Int) = z1 at *
    generalize ((v + 1 : Nat) : Int) = z2 at *
    simp [hc', m1', d1, m2', e0, e00, e1, e2, e3]
  · obtain ⟨l, hl, m2⟩ := mod_ex (c / 2) (N := 6) (by omega)
    have hb1 : b = 1 := by omega
    subst hb1
    have m1' : imod c 2 = .ok (.int 1) := m1
    have m2' : imod (c / 2) 6 = .ok (.int l) := m2
    have d2 : idiv c 12 = .ok (.int (c / 12)) := idiv_s (by decide)
    have d3 : idiv c 72 = .ok (.int (c / 72)) := idiv_s (by decide)
    have d4 : idiv 36 ((1 + l : Nat) : Int) = .ok (.int ((36 / (1 + l) : Nat) : Int)) := by rw [idiv_s (by omega)]; rfl
    have hq : 0 < 36 / (1 + l) := Nat.div_pos (by omega) (by omega)
    obtain ⟨u, hu, m3⟩ := mod_ex (c / 12) hq
    obtain ⟨w, hw, m4⟩ := mod_ex (c / 72) (N := 4) (by omega)
    have m4' : imod (c / 72) 4 = .ok (.int w) := m4
    obtain ⟨s, hs, m5⟩ := mod_ex c1 (N := 1 + l) (by omega)
    have hN : (1 + l) * (1 + u) ≤ 36 := Nat.le_trans (Nat.mul_le_mul_left (1 + l) (show 1 + u ≤ 36 / (1 + l) by omega)) (Nat.mul_div_le 36 (1 + l))
    have hu36 : 1 + u ≤ 36 := Nat.le_trans (show 1 + u ≤ 36 / (1 + l) by omega) (Nat.div_le_self _ _)
    have hpos : 0 < (1 + l) * (1 + u) := Nat.mul_pos (by omega) (by omega)
    have t1 := torus_ok (L := 1 + l) (H := 1 + u) (s := s) (by omega) (by omega) (by omega) (by omega) (by omega)
    have pa := toA_pm (L := 1 + l) (H := 1 + u) (by omega)
    have pb := toB_pm (L := 1 + l) (H := 1 + u) (s := s) (by omega) (by omega)
    generalize rowOf ((1 + l) * (1 + u)) (toA (1 + l)) = A at *
    generalize rowOf ((1 + l) * (1 + u)) (toB (1 + l) ((1 + l) * (1 + u)) s) = B at *
    obtain ⟨B2, pb2, x1⟩ := exch_ok ns (t := 2) (m := w) pb hpos (by omega) (by omega) (by omega)
    obtain ⟨p, q, n, hn, hsh, e3⟩ := together_ok pa pb2 hpos (by omega)
    refine ⟨p, q, n, by omega, hsh, fnR_of ?_⟩
    show b_law_sheet_6 [.v (.list (zD ns)), .v (.int 36), .u, .u, .u, .u, .u, .u] = _
    have e0 : 1 + (l : Int) = ((1 + l : Nat) : Int) := by omega
    have e00 : 1 + (u : Int) = ((1 + u : Nat) : Int) := by omega
    have fin : (frzS 6 (retX 6 f_law_together 7 f_law_exchanged_2 (aCons (varF 0) (aCons (cF (.int 2)) (aCons (binF (flat2 (int2 imod)) (binF (flat2 (int2 idiv)) (varF 2) (cF (.int 72))) (cF (.int 4))) aNil))))) [.v (.list (zD ns)), .v (.int 36), .v (.int c), .v (.int ((1 + l : Nat) : Int)), .v (.int ((1 + u : Nat) : Int)), .u, .o (nD A), .o (nD B)] = .ret (.v (sheet p q)) := by
      rw [frzS_e]
      refine ret_retX (da := .list (nD A)) (xs := nD B) (rs := [.v (.list (zD ns)), .v (.int 2), .v (.int w)]) (ds := [.list (zD ns), .int 2, .int w]) rfl rfl ?_ rfl x1 e3
      simp [d3, m4']
    unfold b_law_sheet_6
    rw [seqS_next (show (asgS (callF f_law_cell_3 (aCons (varF 0) (aCons (cF (.int 0)) aNil))) (asgn 2)) [.v (.list (zD ns)), .v (.int 36), .u, .u, .u, .u, .u, .u] = .next [.v (.list (zD ns)), .v (.int 36), .v (.int c), .u, .u, .u, .u, .u] from by simp [hc'])]
    rw [seqS_next (ρ' := [.v (.list (zD ns)), .v (.int 36), .v (.int c), .u, .u, .u, .u, .u]) (by simp [m1'])]
    rw [seqS_next (ρ' := [.v (.list (zD ns)), .v (.int 36), .v (.int c), .v (.int ((1 + l : Nat) : Int)), .u, .u, .u, .u]) (by generalize ((1 + l : Nat) : Int) = z1 at *; simp [d1, m2', e0])]
    rw [seqS_next (ρ' := [.v (.list (zD ns)), .v (.int 36), .v (.int c), .v (.int ((1 + l : Nat) : Int)), .v (.int ((1 + u : Nat) : Int)), .u, .u, .u]) (by
      generalize ((36 / (1 + l) : Nat) : Int) = z3 at *
      generalize ((1 + l : Nat) : Int) = z1 at *
      generalize ((1 + u : Nat) : Int) = z2 at *
      simp [d2, d4, m3, e00])]
    rw [seqS_next (ρ' := [.v (.list (zD ns)), .v (.int 36), .v (.int c), .v (.int ((1 + l : Nat) : Int)), .v (.int ((1 + u : Nat) : Int)), .u, .o (nD A), .o (nD B)]) (by
      generalize ((1 + l : Nat) : Int) = z1 at *
      generalize ((1 + u : Nat) : Int) = z2 at *
      simp only [asgS_e, callF_e, aCons_e, binF_e, varF_e, slot_0, slot_1, slot_3, slot_4, rd_v, bind_ok, frz_v, cF_e, aNil_e, List.map_cons, List.map_nil, sl_v, hc1', rv_v, m5, flat2_e (int2 imod) (dat_v _) (dat_v _), int2_e, t1]
      rfl)]
    exact fin

/-- a row turned round, told turn by turn -/
def BackInv (p : List Nat) (n i : Nat) (w : List Nat) : Prop := w.length = n ∧ ∀ s, s < i → ap w (ap p s) = s
theorem back_step {p w : List Nat} {n i : Nat} (hp : Pm p n) (h : BackInv p n i w) (hi : i < n) : BackInv p n (i + 1) (w.set (ap p i) i) := by
  refine ⟨by simpa using h.1, fun s hs => ?_⟩
  by_cases e : s = i
  · subst e
    exact ap_set_self (by rw [h.1]; exact hp.ap_lt hi)
  · rw [ap_set_ne (fun z => e (hp.ap_inj hi (by omega) z).symm)]
    exact h.2 s (by omega)
def bk (n : Nat) (p : List Nat) : List Nat := rowOf n (Sq.inv p)
theorem back_end {p w : List Nat} {n : Nat} (hp : Pm p n) (h : BackInv p n n w) : w = bk n p := by
  refine row_ext h.1 (by simp [bk]) fun y hy => ?_
  obtain ⟨s, hs, e⟩ := hp.ap_surj hy
  unfold bk
  rw [ap_rowOf hy, ← e, h.2 s hs, hp.inv_ap hs]
theorem bk_pm {n : Nat} {p : List Nat} (hp : Pm p n) : Pm (bk n p) n :=
  pm_rowOf (fun x hx => hp.inv_lt hx) fun x y hx hy e => by rw [← hp.ap_inv hx, ← hp.ap_inv hy, e]
theorem bk_ap {n s : Nat} {p : List Nat} (hp : Pm p n) (hs : s < n) : ap (bk n p) (ap p s) = s := by
  unfold bk
  rw [ap_rowOf (hp.ap_lt hs), hp.inv_ap hs]
theorem ap_bk {n s : Nat} {p : List Nat} (hp : Pm p n) (hs : s < n) : ap p (ap (bk n p) s) = s := by
  unfold bk
  rw [ap_rowOf hs, hp.ap_inv hs]
theorem bk_bk {n : Nat} {p : List Nat} (hp : Pm p n) : bk n (bk n p) = p :=
  row_ext (by simp [bk]) hp.len fun x hx => by
    have h := bk_ap (bk_pm hp) (hp.ap_lt hx)
    rw [bk_ap hp hx] at h
    exact h
theorem bset (w : List Nat) (i y : Nat) : (nD w).set i (.int (y : Int)) = nD (w.set i y) := by simp [nD]
theorem bixN {n i : Nat} (h : i < n) : ixN n (i : Int) = some i := by
  unfold ixN
  rw [if_pos (Int.natCast_nonneg i), if_pos (by omega)]
  rfl
theorem enR_nD {p : List Nat} {i : Nat} {r : Rv} (h : (enR 0 ((nD p).map Rv.v))[i]? = some r) : i < p.length ∧ r = .v (.tuple [.int (i : Nat), .int (ap p i : Nat)]) := by
  have hi : i < p.length := by
    have := (List.getElem?_eq_some_iff.mp h).1
    simpa [enR_len] using this
  refine ⟨hi, ?_⟩
  obtain ⟨q, e, h1, _⟩ := enR_get (rs := (nD p).map Rv.v) (n := 0) (i := i) (r := .v (.int (ap p i : Nat))) (by simp [ap_get hi])
  rw [e] at h
  cases h
  have := h1 _ rfl
  rw [Nat.zero_add] at this
  exact this
theorem enR_nD_len (p : List Nat) : (enR 0 ((nD p).map Rv.v)).length = p.length := by simp [enR_len]

theorem size_ok {p q : List Nat} {n : Nat} (hp : p.length = n) : f_size [.v (sheet p q)] = .ret (.v (.int n)) := by
  refine fnR_of ?_
  show b_size [.v (sheet p q)] = _
  unfold b_size
  simp [ix_sh0, hp]

/-! rounds of an order -/
def it (r : List Nat) : Nat → Nat → Nat
  | 0, x => x
  | k + 1, x => ap r (it r k x)
theorem it_lt {r : List Nat} {n x : Nat} (h : Pm r n) (hx : x < n) : ∀ k, it r k x < n
  | 0 => hx
  | k + 1 => h.ap_lt (it_lt h hx k)
theorem it_add (r : List Nat) (x : Nat) (b : Nat) : ∀ a, it r (a + b) x = it r a (it r b x)
  | 0 => by rw [Nat.zero_add]; rfl
  | a + 1 => by
    rw [Nat.succ_add]
    show ap r (it r (a + b) x) = ap r (it r a (it r b x))
    rw [it_add r x b a]
theorem it_inj {r : List Nat} {n x y : Nat} (h : Pm r n) (hx : x < n) (hy : y < n) : ∀ k, it r k x = it r k y → x = y
  | 0, e => e
  | k + 1, e => it_inj h hx hy k (h.ap_inj (it_lt h hx k) (it_lt h hy k) e)
theorem it_back {r : List Nat} {n x : Nat} (h : Pm r n) (hx : x < n) {i j : Nat} (hij : i ≤ j) (e : it r i x = it r j x) : it r (j - i) x = x := by
  have : it r i (it r (j - i) x) = it r i x := by
    rw [← it_add, Nat.add_sub_cancel' hij, e]
  exact it_inj h (it_lt h hx _) hx i this
theorem it_ex {r : List Nat} {n x : Nat} (h : Pm r n) (hx : x < n) : ∃ k, k < n ∧ it r (k + 1) x = x := by
  refine Classical.byContradiction fun hno => ?_
  have hnd : ((List.range (n + 1)).map fun k => it r k x).Nodup := by
    rw [List.nodup_iff_pairwise_ne, List.pairwise_map]
    refine List.Pairwise.imp_of_mem (fun {i j} hi hj hlt e => ?_) (List.pairwise_lt_range (n := n + 1))
    have hi := List.mem_range.mp hi
    have hj := List.mem_range.mp hj
    refine hno ⟨j - i - 1, by omega, ?_⟩
    rw [show j - i - 1 + 1 = j - i by omega]
    exact it_back h hx (Nat.le_of_lt hlt) e
  have := List.Nodup.length_le_of_subset hnd (l₂ := List.range n) fun y hy => by
    obtain ⟨k, _, e⟩ := List.mem_map.mp hy
    exact List.mem_range.mpr (e ▸ it_lt h hx k)
  simp at this
  omega
/-- the least way round -/
theorem ord_ex {r : List Nat} {n x : Nat} (h : Pm r n) (hx : x < n) : ∃ k, 0 < k ∧ k ≤ n ∧ it r k x = x ∧ ∀ j, 0 < j → j < k → it r j x ≠ x := by
  obtain ⟨k, hk, e⟩ := it_ex h hx
  have : ∀ m, (∃ k, k < m ∧ it r (k + 1) x = x) → ∃ k, 0 < k ∧ k ≤ m ∧ it r k x = x ∧ ∀ j, 0 < j → j < k → it r j x ≠ x := by
    intro m
    induction m with
    | zero => intro ⟨k, hk, _⟩; omega
    | succ m ih =>
      intro ⟨k, hk, e⟩
      by_cases hm : ∃ k, k < m ∧ it r (k + 1) x = x
      · obtain ⟨k, a, b, c⟩ := ih hm
        exact ⟨k, a, by omega, c⟩
      · have : k = m := by
          refine Classical.byContradiction fun hne => hm ⟨k, by omega, e⟩
        subst this
        exact ⟨k + 1, by omega, by omega, e, fun j h1 h2 e2 => hm ⟨j - 1, by omega, by rw [show j - 1 + 1 = j by omega]; exact e2⟩⟩
  obtain ⟨k, a, b, c⟩ := this n ⟨k, hk, e⟩
  exact ⟨k, a, b, c⟩
def ordr (r : List Nat) (n x : Nat) : Nat := ((List.range n).find? fun k => decide (it r (k + 1) x = x)).getD 0 + 1
theorem ordr_spec {r : List Nat} {n x : Nat} (h : Pm r n) (hx : x < n) : 0 < ordr r n x ∧ ordr r n x ≤ n ∧ it r (ordr r n x) x = x ∧ ∀ j, 0 < j → j < ordr r n x → it r j x ≠ x := by
  obtain ⟨k, a, b, c, d⟩ := ord_ex h hx
  have e : (List.range n).find? (fun k => decide (it r (k + 1) x = x)) = some (k - 1) := List.find?_range_eq_some.mpr ⟨by rw [show k - 1 + 1 = k by omega]; simpa using c, List.mem_range.mpr (by omega), fun j hj => by
    have := d (j + 1) (by omega) (by omega)
    simpa using this⟩
  have e2 : ordr r n x = k := by
    unfold ordr
    rw [e]
    show k - 1 + 1 = k
    omega
  rw [e2]
  exact ⟨a, b, c, d⟩
theorem ordr_of {r : List Nat} {n x k : Nat} (h : Pm r n) (hx : x < n) (h0 : 0 < k) (e : it r k x = x) (hm : ∀ j, 0 < j → j < k → it r j x ≠ x) : ordr r n x = k := by
  obtain ⟨a, _, c, d⟩ := ordr_spec h hx
  rcases Nat.lt_trichotomy (ordr r n x) k with q | q | q
  · exact absurd c (hm _ a q)
  · exact q
  · exact absurd e (d k h0 q)
/-- the round from x on -/
def cyc (r : List Nat) (n x : Nat) : List Nat := (List.range (ordr r n x)).map fun k => it r k x
@[simp] theorem cyc_len (r : List Nat) (n x : Nat) : (cyc r n x).length = ordr r n x := by simp [cyc]
theorem cyc_mem {r : List Nat} {n x : Nat} (h : Pm r n) (hx : x < n) (k : Nat) : it r k x ∈ cyc r n x := by
  obtain ⟨a, _, c, _⟩ := ordr_spec h hx
  have key : ∀ q m, it r (m + q * ordr r n x) x = it r m x := by
    intro q
    induction q with
    | zero => intro m; simp
    | succ q ih =>
      intro m
      rw [Nat.succ_mul, ← Nat.add_assoc, it_add, c]
      exact ih m
  have e : it r k x = it r (k % ordr r n x) x := by
    have := key (k / ordr r n x) (k % ordr r n x)
    rw [Nat.mul_comm, Nat.mod_add_div] at this
    exact this
  rw [e]
  exact List.mem_map.mpr ⟨_, List.mem_range.mpr (Nat.mod_lt _ a), rfl⟩
theorem mem_cyc {r : List Nat} {n x y : Nat} (h : y ∈ cyc r n x) : ∃ k, k < ordr r n x ∧ it r k x = y := by
  obtain ⟨k, hk, e⟩ := List.mem_map.mp h
  exact ⟨k, List.mem_range.mp hk, e⟩
theorem cyc_self {r : List Nat} {n x : Nat} (h : Pm r n) (hx : x < n) : x ∈ cyc r n x := cyc_mem h hx 0
theorem cyc_lt {r : List Nat} {n x y : Nat} (h : Pm r n) (hx : x < n) (hy : y ∈ cyc r n x) : y < n := by
  obtain ⟨k, _, e⟩ := mem_cyc hy
  exact e ▸ it_lt h hx k
theorem cyc_nd {r : List Nat} {n x : Nat} (h : Pm r n) (hx : x < n) : (cyc r n x).Nodup := by
  obtain ⟨a, _, c, d⟩ := ordr_spec h hx
  unfold cyc
  rw [List.nodup_iff_pairwise_ne, List.pairwise_map]
  refine List.Pairwise.imp_of_mem (fun {i j} hi hj hlt e => ?_) (List.pairwise_lt_range (n := ordr r n x))
  have hj := List.mem_range.mp hj
  exact d (j - i) (by omega) (by omega) (it_back h hx (Nat.le_of_lt hlt) e)
/-- rounds are alike or apart -/
theorem cyc_sym {r : List Nat} {n x y : Nat} (h : Pm r n) (hx : x < n) (hy : y ∈ cyc r n x) : x ∈ cyc r n y := by
  obtain ⟨k, hk, e⟩ := mem_cyc hy
  obtain ⟨_, _, c, _⟩ := ordr_spec h hx
  have := cyc_mem h (cyc_lt h hx hy) (ordr r n x - k)
  rw [← e, ← it_add, Nat.sub_add_cancel (Nat.le_of_lt hk), c] at this
  rw [← e]
  exact this
theorem cyc_trans {r : List Nat} {n x y z : Nat} (h : Pm r n) (hx : x < n) (hy : y ∈ cyc r n x) (hz : z ∈ cyc r n y) : z ∈ cyc r n x := by
  obtain ⟨k, _, e⟩ := mem_cyc hy
  obtain ⟨l, _, e2⟩ := mem_cyc hz
  rw [← e2, ← e, ← it_add]
  exact cyc_mem h hx _
/-- who opens a round: the least of it -/
def opens (r : List Nat) (n x : Nat) : Bool := (List.range x).all fun y => decide (x ∉ cyc r n y)
def reps (r : List Nat) (n i : Nat) : List Nat := (List.range i).filter (opens r n)
theorem opens_iff {r : List Nat} {n x : Nat} : opens r n x = true ↔ ∀ y, y < x → x ∉ cyc r n y := by
  unfold opens
  rw [List.all_eq_true]
  exact ⟨fun h y hy => by simpa using h y (List.mem_range.mpr hy), fun h y hy => by simpa using h y (List.mem_range.mp hy)⟩
theorem reps_succ (r : List Nat) (n i : Nat) : reps r n (i + 1) = if opens r n i = true then reps r n i ++ [i] else reps r n i := by
  unfold reps
  rw [List.range_succ, List.filter_append]
  split
  · rename_i h; simp [h]
  · rename_i h; simp [h]
/-- each square stands in one round of an opener -/
theorem rep_ex {r : List Nat} {n : Nat} (h : Pm r n) : ∀ m x, x < m → x < n → ∃ y, y ≤ x ∧ opens r n y = true ∧ x ∈ cyc r n y
  | 0, _, hm, _ => by omega
  | m + 1, x, hm, hx => by
    by_cases ho : opens r n x = true
    · exact ⟨x, Nat.le_refl _, ho, cyc_self h hx⟩
    · have : ∃ y, y < x ∧ x ∈ cyc r n y := Classical.byContradiction fun hno => ho (opens_iff.mpr fun y hy hm => hno ⟨y, hy, hm⟩)
      obtain ⟨y, hy, hxy⟩ := this
      obtain ⟨z, hz, ho2, hyz⟩ := rep_ex h m y (by omega) (by omega)
      exact ⟨z, by omega, ho2, cyc_trans h (by omega) hyz hxy⟩
theorem rep_uniq {r : List Nat} {n x y z : Nat} (h : Pm r n) (hy : y < n) (hz : z < n) (oy : opens r n y = true) (oz : opens r n z = true) (a : x ∈ cyc r n y) (b : x ∈ cyc r n z) : y = z := by
  have h1 : z ∈ cyc r n y := cyc_trans h hy a (cyc_sym h hz b)
  have h2 : y ∈ cyc r n z := cyc_trans h hz b (cyc_sym h hy a)
  rcases Nat.lt_trichotomy y z with q | q | q
  · exact absurd h1 (opens_iff.mp oz y q)
  · exact q
  · exact absurd h2 (opens_iff.mp oy z q)
/-- all rounds together are all squares -/
theorem rounds_perm {r : List Nat} {n : Nat} (h : Pm r n) : ((reps r n n).map (cyc r n)).flatten.Perm (List.range n) := by
  have hlt : ∀ y ∈ reps r n n, y < n ∧ opens r n y = true := fun y hy => by
    have := List.mem_filter.mp hy
    exact ⟨List.mem_range.mp this.1, this.2⟩
  have hnd : (reps r n n).Nodup := List.Pairwise.filter _ List.nodup_range
  refine (List.perm_ext_iff_of_nodup ?_ List.nodup_range).mpr fun x => ?_
  · rw [List.nodup_iff_pairwise_ne, List.pairwise_flatten]
    refine ⟨fun l hl => ?_, ?_⟩
    · obtain ⟨y, hy, e⟩ := List.mem_map.mp hl
      exact e ▸ (List.nodup_iff_pairwise_ne.mp (cyc_nd h (hlt y hy).1))
    · rw [List.pairwise_map]
      refine List.Pairwise.imp_of_mem (fun {y z} hy hz hne => ?_) hnd
      intro u hu v hv e
      subst e
      exact hne (rep_uniq h (hlt y hy).1 (hlt z hz).1 (hlt y hy).2 (hlt z hz).2 hu hv)
  · rw [List.mem_flatten, List.mem_range]
    constructor
    · intro ⟨l, hl, hx⟩
      obtain ⟨y, hy, e⟩ := List.mem_map.mp hl
      exact cyc_lt h (hlt y hy).1 (e ▸ hx)
    · intro hx
      obtain ⟨y, hy, ho, hxy⟩ := rep_ex h (x + 1) x (by omega) hx
      exact ⟨_, List.mem_map.mpr ⟨y, List.mem_filter.mpr ⟨List.mem_range.mpr (by omega), ho⟩, rfl⟩, hxy⟩

def pre (r : List Nat) (x j : Nat) : List Nat := (List.range j).map fun k => it r k x
theorem pre_succ (r : List Nat) (x j : Nat) : pre r x (j + 1) = pre r x j ++ [it r j x] := by simp [pre, List.range_succ]
/-! the rounds, one behind the other -/
def kvT (S : List Nat) : List (Key × PyData) := S.map fun z : Nat => (.inl (z : Int), .bool true)
theorem kvT_any (S : List Nat) (z : Nat) : ((kvT S).any fun kv => decide (kv.1 = .inl (z : Int))) = decide (z ∈ S) := by
  induction S with
  | nil => rfl
  | cons y S ih =>
    show (decide ((Sum.inl (y : Int) : Key) = .inl (z : Int)) || (kvT S).any fun kv => decide (kv.1 = .inl (z : Int))) = _
    rw [ih, ← Bool.decide_or]
    refine decide_eq_decide.mpr ?_
    rw [List.mem_cons]
    refine or_congr_left ⟨fun e => ?_, fun e => by rw [e]⟩
    injection e with e
    omega
theorem kvT_set {S : List Nat} {z : Nat} (h : z ∉ S) : setK (kvT S) (.inl (z : Int)) (.bool true) = kvT (S ++ [z]) := by
  unfold setK
  rw [kvT_any, if_neg (by simpa using h)]
  simp [kvT]
theorem getK_kvT (S : List Nat) (z : Nat) : (getK (kvT S) (.inl (z : Int))).isSome = decide (z ∈ S) := by
  induction S with
  | nil => rfl
  | cons y S ih =>
    unfold getK at ih ⊢
    show (((((Sum.inl (y : Int) : Key), PyData.bool true) :: kvT S).find? fun kv => decide (kv.1 = .inl (z : Int))).map (·.2)).isSome = _
    rw [List.find?_cons]
    by_cases e : y = z
    · subst e
      simp
    · have : decide (((Sum.inl (y : Int) : Key), PyData.bool true).1 = .inl (z : Int)) = false := decide_eq_false fun h => by
        injection h with h
        omega
      rw [this]
      dsimp only
      rw [ih]
      refine decide_eq_decide.mpr ?_
      rw [List.mem_cons]
      exact ⟨.inr, fun h => h.resolve_left (Ne.symm e)⟩
theorem in_kvT (S : List Nat) (z : Nat) : inR true (.v (.int z)) (.wk (kvT S)) = .ok (.v (.bool (!decide (z ∈ S)))) := by
  refine alt_l ?_
  unfold inDic
  simp only [dat_v, Option.bind_some, keyD]
  rw [getK_kvT]
  rfl
def flt (r : List Nat) (n i : Nat) : List Nat := ((reps r n i).map (cyc r n)).flatten
theorem mem_flt {r : List Nat} {n x : Nat} (h : Pm r n) (hx : x < n) : x ∈ flt r n x ↔ opens r n x = false := by
  unfold flt
  rw [List.mem_flatten]
  constructor
  · intro ⟨l, hl, hm⟩
    obtain ⟨y, hy, e⟩ := List.mem_map.mp hl
    have hy := List.mem_filter.mp hy
    refine Bool.eq_false_iff.mpr fun ho => opens_iff.mp ho y (List.mem_range.mp hy.1) (e ▸ hm)
  · intro ho
    obtain ⟨y, hy, o2, hxy⟩ := rep_ex h (x + 1) x (by omega) hx
    have hne : y ≠ x := fun e => by subst e; rw [ho] at o2; cases o2
    exact ⟨_, List.mem_map.mpr ⟨y, List.mem_filter.mpr ⟨List.mem_range.mpr (by omega), o2⟩, rfl⟩, hxy⟩
theorem flt_apart {r : List Nat} {n x : Nat} (h : Pm r n) (hx : x < n) (ho : opens r n x = true) {y : Nat} (hy : y ∈ cyc r n x) : y ∉ flt r n x := by
  intro hm
  unfold flt at hm
  obtain ⟨l, hl, hm⟩ := List.mem_flatten.mp hm
  obtain ⟨z, hz, e⟩ := List.mem_map.mp hl
  subst e
  have hz := List.mem_filter.mp hz
  have hzx := List.mem_range.mp hz.1
  have := rep_uniq h hx (show z < n by omega) ho hz.2 hy hm
  omega
theorem flt_succ (r : List Nat) (n i : Nat) : flt r n (i + 1) = if opens r n i = true then flt r n i ++ cyc r n i else flt r n i := by
  unfold flt
  rw [reps_succ]
  split
  · simp
  · rfl
theorem flt_len {r : List Nat} {n : Nat} (h : Pm r n) (i : Nat) (hi : i ≤ n) : (flt r n i).length ≤ n := by
  have h1 : ∀ k, (flt r n i).length ≤ (flt r n (i + k)).length := by
    intro k
    induction k with
    | zero => exact Nat.le_refl _
    | succ k ih =>
      rw [← Nat.add_assoc, flt_succ]
      split
      · rw [List.length_append]; omega
      · exact ih
  have := h1 (n - i)
  rw [Nat.add_sub_cancel' hi] at this
  have h2 := (rounds_perm h).length_eq
  rw [List.length_range] at h2
  unfold flt at this ⊢
  omega
def rnds (r : List Nat) (n i : Nat) : List PyData := (reps r n i).map fun y => .list (nD (cyc r n y))

/-! the rows of a sheet, its borders, its bands -/
theorem atI_last {xs : List PyData} {z : PyData} : atI (xs ++ [z]) (-1) = some z := by
  unfold atI ixN
  rw [if_neg (by decide), if_pos (by rw [List.length_append, List.length_singleton]; omega)]
  show (xs ++ [z])[((-1 : Int) + ((xs ++ [z]).length : Int)).toNat]? = some z
  have : ((-1 : Int) + ((xs ++ [z]).length : Int)).toNat = xs.length := by
    rw [List.length_append, List.length_singleton]
    omega
  rw [this]
  simp
def roEnv (sh : PyData) (p S : List Nat) (found : List PyData) (x4 x5 x6 : Sl) : Env := [.v sh, .v (.tuple (nD p)), .k (kvT S), .o found, x4, x5, x6]
def roSet : SF := setIt 2 (varF 6) (cF (.bool true))
theorem ro_set {sh : PyData} {p : List Nat} {found : List PyData} {x4 x5 : Sl} : ∀ (L S : List Nat) (x6 : Sl), L.Nodup → (∀ z ∈ L, z ∉ S) → S.length + L.length < 100000 → ∃ x6', forL (asgn 6) roSet (L.map fun z : Nat => Rv.v (.int (z : Int))) (roEnv sh p S found x4 x5 x6) = .next (roEnv sh p (S ++ L) found x4 x5 x6')
  | [], S, x6, _, _, _ => ⟨x6, by simp⟩
  | z :: L, S, x6, hn, hs, hl => by
    have hz := hs z (List.mem_cons_self ..)
    have hn' := List.nodup_cons.mp hn
    simp at hl
    have hkl : (kvT S).length < 100000 := by simp [kvT]; omega
    have e1 : roSet (roEnv sh p S found x4 x5 (.v (.int z))) = .next (roEnv sh p (S ++ [z]) found x4 x5 (.v (.int z))) := by
      rw [roEnv, roEnv, ← kvT_set hz]
      unfold roSet setIt
      simp [keyD, hkl]
    obtain ⟨x6', e2⟩ := ro_set (sh := sh) (p := p) (found := found) (x4 := x4) (x5 := x5) L (S ++ [z]) (.v (.int z)) hn'.2 (fun y hy hm => by
      rcases List.mem_append.mp hm with h | h
      · exact hs y (List.mem_cons_of_mem _ hy) h
      · have := List.mem_singleton.mp h
        subst this
        exact hn'.1 hy) (by simp; omega)
    refine ⟨x6', ?_⟩
    rw [List.append_assoc, List.singleton_append] at e2
    rw [List.map_cons, forL_next (ρ1 := roEnv sh p S found x4 x5 (.v (.int z))) rfl e1]
    exact e2
def roT : Env → Er Bool := tstF (binF neR (binF ixR (varF 1) (binF ixR (varF 5) (unF negR (cF (.int 1))))) (varF 4))
def roB : SF := appS 5 (binF ixR (varF 1) (binF ixR (varF 5) (unF negR (cF (.int 1)))))
theorem ro_next {sh : PyData} {p S : List Nat} {n i j : Nat} {found : List PyData} {x6 : Sl} (h : Pm p n) (hi : i < n) : (binF ixR (varF 1) (binF ixR (varF 5) (unF negR (cF (.int 1))))) (roEnv sh p S found (.v (.int i)) (.o (nD (pre p i (j + 1)))) x6) = .ok (.v (.int (it p (j + 1) i : Nat))) := by
  have e1 : ixR (.w (nD (pre p i (j + 1)))) (.v (.int (-1))) = .ok (.v (.int (it p j i : Nat))) := by
    rw [pre_succ, nD_app, nD_one]
    exact ixR_w atI_last
  have e2 := ix_rowT (a := p) (x := it p j i) (by rw [h.len]; exact it_lt h hi j)
  unfold roEnv
  simp [e1, e2]
  rfl
theorem ro_walk {sh : PyData} {p S : List Nat} {n i : Nat} {found : List PyData} {x6 : Sl} (h : Pm p n) (hi : i < n) (hn : n ≤ 1000) : whileS roT roB (roEnv sh p S found (.v (.int i)) (.o (nD [i])) x6) = .next (roEnv sh p S found (.v (.int i)) (.o (nD (cyc p n i))) x6) := by
  obtain ⟨h0, h1, h2, h3⟩ := ordr_spec h hi
  have hw := whileS_go (t := roT) (s := roB) (ρ := roEnv sh p S found (.v (.int i)) (.o (nD [i])) x6) (fun ρ => ∃ j, j < ordr p n i ∧ ρ = roEnv sh p S found (.v (.int i)) (.o (nD (pre p i (j + 1)))) x6) (fun ρ => ordr p n i - (match slot ρ 5 with | .o xs => xs.length | _ => 0))
    ⟨0, by omega, rfl⟩ (by show ordr p n i - _ < 1000000; omega) ?_
  · obtain ⟨ρ', e, ⟨j, j1, eρ⟩, ht⟩ := hw
    subst eρ
    have hj : it p (j + 1) i = i := by
      unfold roT at ht
      rw [tstF_e, binF_e, ro_next h hi] at ht
      unfold roEnv at ht
      simp at ht
      exact ht
    have : j + 1 = ordr p n i := by
      refine Classical.byContradiction fun hne => h3 (j + 1) (by omega) (by omega) hj
    rw [this] at e
    exact e
  · intro ρ ⟨j, j1, eρ⟩
    subst eρ
    refine ⟨decide (¬ it p (j + 1) i = i), ?_, fun hb => ?_⟩
    · unfold roT
      rw [tstF_e, binF_e, ro_next h hi]
      unfold roEnv
      simp
    have hj : ¬ it p (j + 1) i = i := by simpa using hb
    have hlt : j + 1 < ordr p n i := by
      refine Nat.lt_of_le_of_ne (by omega) fun e => hj ?_
      rw [e]
      exact h2
    have hl : (nD (pre p i (j + 1))).length < 100000 := by simp [nD, pre]; omega
    refine ⟨roEnv sh p S found (.v (.int i)) (.o (nD (pre p i (j + 2)))) x6, ?_, ⟨j + 1, by omega, rfl⟩, ?_⟩
    · unfold roB
      rw [appS_e (xs := nD (pre p i (j + 1))) rfl hl, ro_next h hi]
      rw [pre_succ p i (j + 1), nD_app, nD_one]
      rfl
    · show ordr p n i - (nD (pre p i (j + 2))).length < ordr p n i - (nD (pre p i (j + 1))).length
      simp [nD, pre]
      omega
def roIn : SF := (ifS (tstF (binF (inR true) (varF 4) (varF 2))) (seqS (asgS (lstF (aCons (varF 4) aNil)) (asgn 5))
  (seqS (whileS roT roB)
  (frzS 5 (seqS (forS (itF itS (varF 5)) (asgn 6) roSet)
  (frzS 5 (appS 3 (varF 5)))))))
  skipS)
theorem ro_in {sh : PyData} {p : List Nat} {n i : Nat} {x5 x6 : Sl} (h : Pm p n) (hi : i < n) (hn : n ≤ 1000) : ∃ x5' x6', roIn (roEnv sh p (flt p n i) (rnds p n i) (.v (.int i)) x5 x6) = .next (roEnv sh p (flt p n (i + 1)) (rnds p n (i + 1)) (.v (.int i)) x5' x6') := by
  have hin := in_kvT (flt p n i) i
  by_cases ho : opens p n i = true
  · have hnot : i ∉ flt p n i := fun hm => by
      rw [(mem_flt h hi).mp hm] at ho
      cases ho
    have hfl := flt_len h i (Nat.le_of_lt hi)
    have hcl := cyc_len p n i
    obtain ⟨o0, o1, _, _⟩ := ordr_spec h hi
    obtain ⟨x6', e2⟩ := ro_set (sh := sh) (p := p) (found := rnds p n i) (x4 := .v (.int i)) (x5 := .v (.list (nD (cyc p n i)))) (cyc p n i) (flt p n i) x6 (cyc_nd h hi) (fun z hz => flt_apart h hi ho hz) (by omega)
    have hrl : (rnds p n i).length < 100000 := by
      have : (reps p n i).length ≤ i := by
        have := List.length_filter_le (opens p n) (List.range i)
        rw [List.length_range] at this
        exact this
      simp [rnds]
      omega
    refine ⟨.v (.list (nD (cyc p n i))), x6', ?_⟩
    have e3 : flt p n (i + 1) = flt p n i ++ cyc p n i := by rw [flt_succ, if_pos ho]
    have e4 : rnds p n (i + 1) = rnds p n i ++ [.list (nD (cyc p n i))] := by
      unfold rnds
      rw [reps_succ, if_pos ho]
      simp
    rw [e3, e4]
    have e5 : itS (.v (.list (nD (cyc p n i)))) = .ok ((cyc p n i).map fun z : Nat => Rv.v (.int (z : Int))) := by simp [nD]
    have ew := ro_walk (sh := sh) (S := flt p n i) (found := rnds p n i) (x6 := x6) h hi hn
    unfold roIn
    have hd : decide (i ∈ flt p n i) = false := decide_eq_false hnot
    rw [hd] at hin
    rw [ifS_e, show tstF (binF (inR true) (varF 4) (varF 2)) (roEnv sh p (flt p n i) (rnds p n i) (.v (.int i)) x5 x6) = .ok true by unfold roEnv; simp [hin]]
    rw [thenT_ok, if_pos rfl]
    rw [seq_go (ρ' := roEnv sh p (flt p n i) (rnds p n i) (.v (.int i)) (.o (nD [i])) x6) (by unfold roEnv; simp [nD_one])]
    rw [seq_go ew]
    rw [frzS_e]
    have efr : frzE (roEnv sh p (flt p n i) (rnds p n i) (.v (.int i)) (.o (nD (cyc p n i))) x6) 5 = roEnv sh p (flt p n i) (rnds p n i) (.v (.int i)) (.v (.list (nD (cyc p n i)))) x6 := rfl
    rw [efr]
    rw [seq_go (ρ' := roEnv sh p (flt p n i ++ cyc p n i) (rnds p n i) (.v (.int i)) (.v (.list (nD (cyc p n i)))) x6') (by
      rw [forS_e, itF_e, varF_e]
      show thenI _ ((Er.ok (Rv.v (.list (nD (cyc p n i))))).bind itS) _ = _
      rw [bind_ok, e5]
      exact e2)]
    unfold roEnv
    simp [appS, hrl]
  · have ho' : opens p n i = false := by simpa using ho
    have hm : i ∈ flt p n i := (mem_flt h hi).mpr ho'
    have hd : decide (i ∈ flt p n i) = true := decide_eq_true hm
    rw [hd] at hin
    refine ⟨x5, x6, ?_⟩
    have e3 : flt p n (i + 1) = flt p n i := by rw [flt_succ, if_neg ho]
    have e4 : rnds p n (i + 1) = rnds p n i := by
      unfold rnds
      rw [reps_succ, if_neg ho]
    rw [e3, e4]
    unfold roEnv roIn
    simp [hin]
theorem rows_ok {p q : List Nat} {n : Nat} (hp : Pm p n) (hn : n ≤ 1000) : f_rows [.v (sheet p q)] = .ret (.o (rnds p n n)) := by
  have hsz := size_ok (p := p) (q := q) hp.len
  refine fnR_of ?_
  show (seqS (asgS (binF ixR (varF 0) (cF (.int 0))) (asgn 1)) (seqS (asgS (fun _ => .ok (.ok [])) (asgn 2)) (seqS (asgS (lstF aNil) (asgn 3)) (seqS (forS (rg1F (callF f_size (aCons (varF 0) aNil))) (asgn 4) roIn) (retVar 3))))) [.v (sheet p q), .u, .u, .u, .u, .u, .u] = _
  rw [seq_go (ρ' := [.v (sheet p q), .v (.tuple (nD p)), .u, .u, .u, .u, .u]) (by simp [ix_sh0])]
  rw [seq_go (ρ' := [.v (sheet p q), .v (.tuple (nD p)), .k [], .u, .u, .u, .u]) (by simp)]
  rw [seq_go (ρ' := [.v (sheet p q), .v (.tuple (nD p)), .k [], .o [], .u, .u, .u]) (by simp)]
  obtain ⟨ρ', e, x4, x5, x6, eρ⟩ := for_rg (f := callF f_size (aCons (varF 0) aNil)) (s := roIn) (ρ := [.v (sheet p q), .v (.tuple (nD p)), .k [], .o [], .u, .u, .u]) (n := n) 4
    (fun i ρ => ∃ x4 x5 x6, ρ = roEnv (sheet p q) p (flt p n i) (rnds p n i) x4 x5 x6) (by simp [hsz]) (by omega) ⟨.u, .u, .u, rfl⟩ fun i ρ hi ⟨x4, x5, x6, eρ⟩ => by
      subst eρ
      obtain ⟨y5, y6, e⟩ := ro_in (sh := sheet p q) (x5 := x5) (x6 := x6) hp hi hn
      exact ⟨_, e, _, _, _, rfl⟩
  subst eρ
  rw [seq_go e]
  unfold roEnv
  simp

/-! the rounds told to be changed -/
def rndL (r : List Nat) (n i : Nat) : List (List PyData) := (reps r n i).map fun y => nD (cyc r n y)
def yo : List (List PyData) → Sl
  | [] => .o []
  | L => .y L
theorem yo_app {i j : Nat} {ρ : Env} {L : List (List PyData)} {xs : List PyData} (hj : slot ρ j = .e xs) (hi : slot ρ i = yo L) (hl : L.length < 100000) : appY i j ρ = .next (ρ.set i (.y (L ++ [xs]))) := by
  unfold appY
  rw [hj, hi]
  cases L with
  | nil => rfl
  | cons x L => simp only [yo]; rw [if_pos hl]
theorem yo_snoc {L : List (List PyData)} {xs : List PyData} : yo (L ++ [xs]) = .y (L ++ [xs]) := by
  cases L <;> rfl
theorem flatL_nD (a : List Nat) : flatL (nD a) = true := flat_nD a
def roEnvY (sh : PyData) (p S : List Nat) (x3 : Sl) (x4 x5 x6 : Sl) : Env := [.v sh, .v (.tuple (nD p)), .k (kvT S), x3, x4, x5, x6]
theorem ro_setY {sh : PyData} {p : List Nat} {x3 : Sl} {x4 x5 : Sl} : ∀ (L S : List Nat) (x6 : Sl), L.Nodup → (∀ z ∈ L, z ∉ S) → S.length + L.length < 100000 → ∃ x6', forL (asgn 6) roSet (L.map fun z : Nat => Rv.b (.int (z : Int))) (roEnvY sh p S x3 x4 x5 x6) = .next (roEnvY sh p (S ++ L) x3 x4 x5 x6')
  | [], S, x6, _, _, _ => ⟨x6, by simp⟩
  | z :: L, S, x6, hn, hs, hl => by
    have hz := hs z (List.mem_cons_self ..)
    have hn' := List.nodup_cons.mp hn
    simp at hl
    have hkl : (kvT S).length < 100000 := by simp [kvT]; omega
    have e1 : roSet (roEnvY sh p S x3 x4 x5 (.b (.int z))) = .next (roEnvY sh p (S ++ [z]) x3 x4 x5 (.b (.int z))) := by
      rw [roEnvY, roEnvY, ← kvT_set hz]
      unfold roSet setIt
      simp [keyD, hkl]
    obtain ⟨x6', e2⟩ := ro_setY (sh := sh) (p := p) (x3 := x3) (x4 := x4) (x5 := x5) L (S ++ [z]) (.b (.int z)) hn'.2 (fun y hy hm => by
      rcases List.mem_append.mp hm with h | h
      · exact hs y (List.mem_cons_of_mem _ hy) h
      · have := List.mem_singleton.mp h
        subst this
        exact hn'.1 hy) (by simp; omega)
    refine ⟨x6', ?_⟩
    rw [List.append_assoc, List.singleton_append] at e2
    rw [List.map_cons, forL_next (ρ1 := roEnvY sh p S x3 x4 x5 (.b (.int z))) rfl e1]
    exact e2
theorem ro_nextY {sh : PyData} {p S : List Nat} {n i j : Nat} {x3 : Sl} {x6 : Sl} (h : Pm p n) (hi : i < n) : (binF ixR (varF 1) (binF ixR (varF 5) (unF negR (cF (.int 1))))) (roEnvY sh p S x3 (.v (.int i)) (.o (nD (pre p i (j + 1)))) x6) = .ok (.v (.int (it p (j + 1) i : Nat))) := by
  have e1 : ixR (.w (nD (pre p i (j + 1)))) (.v (.int (-1))) = .ok (.v (.int (it p j i : Nat))) := by
    rw [pre_succ, nD_app, nD_one]
    exact ixR_w atI_last
  have e2 := ix_rowT (a := p) (x := it p j i) (by rw [h.len]; exact it_lt h hi j)
  unfold roEnvY
  simp [e1, e2]
  rfl
theorem ro_walkY {sh : PyData} {p S : List Nat} {n i : Nat} {x3 : Sl} {x6 : Sl} (h : Pm p n) (hi : i < n) (hn : n ≤ 1000) : whileS roT roB (roEnvY sh p S x3 (.v (.int i)) (.o (nD [i])) x6) = .next (roEnvY sh p S x3 (.v (.int i)) (.o (nD (cyc p n i))) x6) := by
  obtain ⟨h0, h1, h2, h3⟩ := ordr_spec h hi
  have hw := whileS_go (t := roT) (s := roB) (ρ := roEnvY sh p S x3 (.v (.int i)) (.o (nD [i])) x6) (fun ρ => ∃ j, j < ordr p n i ∧ ρ = roEnvY sh p S x3 (.v (.int i)) (.o (nD (pre p i (j + 1)))) x6) (fun ρ => ordr p n i - (match slot ρ 5 with | .o xs => xs.length | _ => 0))
    ⟨0, by omega, rfl⟩ (by show ordr p n i - _ < 1000000; omega) ?_
  · obtain ⟨ρ', e, ⟨j, j1, eρ⟩, ht⟩ := hw
    subst eρ
    have hj : it p (j + 1) i = i := by
      unfold roT at ht
      rw [tstF_e, binF_e, ro_nextY h hi] at ht
      unfold roEnvY at ht
      simp at ht
      exact ht
    have : j + 1 = ordr p n i := by
      refine Classical.byContradiction fun hne => h3 (j + 1) (by omega) (by omega) hj
    rw [this] at e
    exact e
  · intro ρ ⟨j, j1, eρ⟩
    subst eρ
    refine ⟨decide (¬ it p (j + 1) i = i), ?_, fun hb => ?_⟩
    · unfold roT
      rw [tstF_e, binF_e, ro_nextY h hi]
      unfold roEnvY
      simp
    have hj : ¬ it p (j + 1) i = i := by simpa using hb
    have hlt : j + 1 < ordr p n i := by
      refine Nat.lt_of_le_of_ne (by omega) fun e => hj ?_
      rw [e]
      exact h2
    have hl : (nD (pre p i (j + 1))).length < 100000 := by simp [nD, pre]; omega
    refine ⟨roEnvY sh p S x3 (.v (.int i)) (.o (nD (pre p i (j + 2)))) x6, ?_, ⟨j + 1, by omega, rfl⟩, ?_⟩
    · unfold roB
      rw [appS_e (xs := nD (pre p i (j + 1))) rfl hl, ro_nextY h hi]
      rw [pre_succ p i (j + 1), nD_app, nD_one]
      rfl
    · show ordr p n i - (nD (pre p i (j + 2))).length < ordr p n i - (nD (pre p i (j + 1))).length
      simp [nD, pre]
      omega
def roInY : SF := (ifS (tstF (binF (inR true) (varF 4) (varF 2))) (seqS (asgS (lstF (aCons (varF 4) aNil)) (asgn 5))
  (seqS (whileS roT roB)
  (eS 5 (seqS (forS (itF itS (varF 5)) (asgn 6) roSet)
  (appY 3 5)))))
  skipS)
theorem ro_inY {sh : PyData} {p : List Nat} {n i : Nat} {x5 x6 : Sl} (h : Pm p n) (hi : i < n) (hn : n ≤ 1000) : ∃ x5' x6', roInY (roEnvY sh p (flt p n i) (yo (rndL p n i)) (.v (.int i)) x5 x6) = .next (roEnvY sh p (flt p n (i + 1)) (yo (rndL p n (i + 1))) (.v (.int i)) x5' x6') := by
  have hin := in_kvT (flt p n i) i
  by_cases ho : opens p n i = true
  · have hnot : i ∉ flt p n i := fun hm => by
      rw [(mem_flt h hi).mp hm] at ho
      cases ho
    have hfl := flt_len h i (Nat.le_of_lt hi)
    have hcl := cyc_len p n i
    obtain ⟨o0, o1, _, _⟩ := ordr_spec h hi
    obtain ⟨x6', e2⟩ := ro_setY (sh := sh) (p := p) (x3 := yo (rndL p n i)) (x4 := .v (.int i)) (x5 := .e (nD (cyc p n i))) (cyc p n i) (flt p n i) x6 (cyc_nd h hi) (fun z hz => flt_apart h hi ho hz) (by omega)
    have hrl : (rndL p n i).length < 100000 := by
      have : (reps p n i).length ≤ i := by
        have := List.length_filter_le (opens p n) (List.range i)
        rw [List.length_range] at this
        exact this
      simp [rndL]
      omega
    refine ⟨.e (nD (cyc p n i)), x6', ?_⟩
    have e3 : flt p n (i + 1) = flt p n i ++ cyc p n i := by rw [flt_succ, if_pos ho]
    have e4 : rndL p n (i + 1) = rndL p n i ++ [nD (cyc p n i)] := by
      unfold rndL
      rw [reps_succ, if_pos ho]
      simp
    rw [e3, e4, yo_snoc]
    have e5 : itS (.b (.list (nD (cyc p n i)))) = .ok ((cyc p n i).map fun z : Nat => Rv.b (.int (z : Int))) := by simp [nD]
    have ew := ro_walkY (sh := sh) (S := flt p n i) (x3 := yo (rndL p n i)) (x6 := x6) h hi hn
    unfold roInY
    have hd : decide (i ∈ flt p n i) = false := decide_eq_false hnot
    rw [hd] at hin
    rw [ifS_e, show tstF (binF (inR true) (varF 4) (varF 2)) (roEnvY sh p (flt p n i) (yo (rndL p n i)) (.v (.int i)) x5 x6) = .ok true by unfold roEnvY; simp [hin]]
    rw [thenT_ok, if_pos rfl]
    rw [seq_go (ρ' := roEnvY sh p (flt p n i) (yo (rndL p n i)) (.v (.int i)) (.o (nD [i])) x6) (by unfold roEnvY; simp [nD_one])]
    rw [seq_go ew]
    rw [show ∀ f ρ, eS 5 f ρ = f (eE ρ 5) from fun _ _ => rfl]
    have efr : eE (roEnvY sh p (flt p n i) (yo (rndL p n i)) (.v (.int i)) (.o (nD (cyc p n i))) x6) 5 = roEnvY sh p (flt p n i) (yo (rndL p n i)) (.v (.int i)) (.e (nD (cyc p n i))) x6 := by
      unfold eE roEnvY
      simp [flatL_nD]
    rw [efr]
    rw [seq_go (ρ' := roEnvY sh p (flt p n i ++ cyc p n i) (yo (rndL p n i)) (.v (.int i)) (.e (nD (cyc p n i))) x6') (by
      rw [forS_e, itF_e, varF_e]
      show thenI _ ((Er.ok (Rv.b (.list (nD (cyc p n i))))).bind itS) _ = _
      rw [bind_ok, e5]
      exact e2)]
    rw [yo_app (xs := nD (cyc p n i)) (L := rndL p n i) rfl rfl hrl]
    rfl
  · have ho' : opens p n i = false := by simpa using ho
    have hm : i ∈ flt p n i := (mem_flt h hi).mpr ho'
    have hd : decide (i ∈ flt p n i) = true := decide_eq_true hm
    rw [hd] at hin
    refine ⟨x5, x6, ?_⟩
    have e3 : flt p n (i + 1) = flt p n i := by rw [flt_succ, if_neg ho]
    have e4 : rndL p n (i + 1) = rndL p n i := by
      unfold rndL
      rw [reps_succ, if_neg ho]
    rw [e3, e4]
    unfold roEnvY roInY
    simp [hin]
theorem rows_y {p q : List Nat} {n : Nat} (hp : Pm p n) (hn : n ≤ 1000) (h0 : 0 < n) : f_rows_y [.v (sheet p q)] = .ret (.y (rndL p n n)) := by
  have hsz := size_ok (p := p) (q := q) hp.len
  refine fnR_of ?_
  show (seqS (asgS (binF ixR (varF 0) (cF (.int 0))) (asgn 1)) (seqS (asgS (fun _ => .ok (.ok [])) (asgn 2)) (seqS (asgS (lstF aNil) (asgn 3)) (seqS (forS (rg1F (callF f_size (aCons (varF 0) aNil))) (asgn 4) roInY) (retVar 3))))) [.v (sheet p q), .u, .u, .u, .u, .u, .u] = _
  rw [seq_go (ρ' := [.v (sheet p q), .v (.tuple (nD p)), .u, .u, .u, .u, .u]) (by simp [ix_sh0])]
  rw [seq_go (ρ' := [.v (sheet p q), .v (.tuple (nD p)), .k [], .u, .u, .u, .u]) (by simp)]
  rw [seq_go (ρ' := [.v (sheet p q), .v (.tuple (nD p)), .k [], .o [], .u, .u, .u]) (by simp)]
  obtain ⟨ρ', e, x4, x5, x6, eρ⟩ := for_rg (f := callF f_size (aCons (varF 0) aNil)) (s := roInY) (ρ := [.v (sheet p q), .v (.tuple (nD p)), .k [], .o [], .u, .u, .u]) (n := n) 4
    (fun i ρ => ∃ x4 x5 x6, ρ = roEnvY (sheet p q) p (flt p n i) (yo (rndL p n i)) x4 x5 x6) (by simp [hsz]) (by omega) ⟨.u, .u, .u, rfl⟩ fun i ρ hi ⟨x4, x5, x6, eρ⟩ => by
      subst eρ
      obtain ⟨y5, y6, e⟩ := ro_inY (sh := sheet p q) (x5 := x5) (x6 := x6) hp hi hn
      exact ⟨_, e, _, _, _, rfl⟩
  subst eρ
  rw [seq_go e]
  have hne : rndL p n n ≠ [] := fun z => by
    obtain ⟨y, hy, ho, _⟩ := rep_ex hp (0 + 1) 0 (by omega) h0
    have : y = 0 := by omega
    subst this
    have : (0 : Nat) ∈ reps p n n := List.mem_filter.mpr ⟨List.mem_range.mpr h0, ho⟩
    rw [List.map_eq_nil_iff.mp z] at this
    cases this
  unfold roEnvY
  have : yo (rndL p n n) = .y (rndL p n n) := by
    cases z : rndL p n n with
    | nil => exact absurd z hne
    | cons _ _ => rfl
  rw [this]
  simp
theorem rndL_map (r : List Nat) (n i : Nat) : (rndL r n i).map PyData.list = rnds r n i := by
  unfold rndL rnds
  rw [List.map_map]
  rfl

theorem whole_i (i : Int) : f_law_whole [.v (.int i)] = .ret (.v (.bool true)) := by
  refine fnR_of ?_
  show b_law_whole [.v (.int i)] = _
  unfold b_law_whole
  simp [isi_ii, isi_bi]
theorem all_whole_g {τ : IF} {ρ : Env} {k : Nat} {zs : List Int} (hτ : τ ρ = .ok (zs.map fun z : Int => Rv.v (.int z))) (hl : zs.length ≤ 1000) (hk : ∀ z : Int, varF k ((wipeE ρ [k]).set k (.v (.int z))) = .ok (.v (.int z))) : lcF τ (asgn k) [k] yesT (callF f_law_whole (aCons (varF k) aNil)) ρ = .ok (.o (List.replicate zs.length (.bool true))) := by
  rw [lcF_map zs (fun z : Int => Rv.v (.int z)) (fun _ => .bool true) hτ (by omega) fun z _ => ⟨(wipeE ρ [k]).set k (.v (.int z)), .v (.bool true), rfl, by
    have := hk z
    rw [callF_e, aCons_e, this]
    simp [whole_i], rfl⟩]
  simp [List.map_const']
theorem all_whole_n {τ : IF} {ρ : Env} {k : Nat} {zs : List Nat} (hτ : τ ρ = .ok (zs.map fun z : Nat => Rv.v (.int (z : Int)))) (hl : zs.length ≤ 1000) (hk : ∀ z : Int, varF k ((wipeE ρ [k]).set k (.v (.int z))) = .ok (.v (.int z))) : lcF τ (asgn k) [k] yesT (callF f_law_whole (aCons (varF k) aNil)) ρ = .ok (.o (List.replicate zs.length (.bool true))) := by
  rw [all_whole_g (zs := zs.map fun z : Nat => (z : Int)) (by rw [hτ, List.map_map]; rfl) (by rw [List.length_map]; exact hl) hk, List.length_map]

/-! lists of lists, sorted -/
theorem alike_nD (xs ys : List Nat) : PySem.W.alikeAll (nD xs) (nD ys) = true := by
  rw [nD_map, nD_map]
  exact PySem.W.alike_ints _ _
theorem depthAll_td {k : Nat} : ∀ {ds : List D}, ds.all (td k) = true → PyData.depthAll ds ≤ k
  | [], _ => by simp [PyData.depthAll]
  | d :: ds, h => by
    rw [List.all_cons, Bool.and_eq_true] at h
    have h1 := (td_lay k d h.1).2
    have h2 := depthAll_td h.2
    rw [PyData.depthAll]
    omega
def lstD (f : List Nat) : D := .list (nD f)
theorem lstD_inj {f g : List Nat} : lstD f = lstD g ↔ f = g :=
  ⟨fun h => by injection h with h; exact nD_inj h, fun h => by rw [h]⟩
@[simp] theorem td_lstD (k : Nat) (f : List Nat) : td (k + 1) (lstD f) = true := by
  show List.all _ _ = true
  simp
def nsortL (L : List (List Nat)) : List (List Nat) := L.mergeSort fun a b => PySem.W.dataLe false (fun d : D => d) (lstD a) (lstD b)
theorem nsortL_perm (L : List (List Nat)) : (nsortL L).Perm L := List.mergeSort_perm _ _
theorem sortD_lst (L : List (List Nat)) : sortD (L.map lstD) = (nsortL L).map lstD := by
  unfold sortD nsortL
  exact (List.map_mergeSort (f := lstD) (s := PySem.W.dataLe false fun d : D => d) (r := fun a b => PySem.W.dataLe false (fun d : D => d) (lstD a) (lstD b)) (l := L) fun a _ b _ => rfl).symm
theorem alikeB_lst (L : List (List Nat)) : alikeB (L.map lstD) = true := by
  unfold alikeB
  rw [List.all_eq_true]
  intro x hx
  rw [List.all_eq_true]
  intro y hy
  obtain ⟨s, _, rfl⟩ := List.mem_map.mp hx
  obtain ⟨t, _, rfl⟩ := List.mem_map.mp hy
  have : PySem.W.alike (lstD s) (lstD t) = true := by
    unfold lstD
    simp [PySem.W.alike, alike_nD]
  rw [this]
  rfl
theorem listsB_lst (L : List (List Nat)) : listsB (L.map lstD) = true := by
  unfold listsB
  rw [List.all_eq_true]
  intro x hx
  obtain ⟨s, _, rfl⟩ := List.mem_map.mp hx
  rfl
theorem sortA_lst {L : List (List Nat)} (h : L ≠ []) : sortA (.v (.list (L.map lstD))) = .ok (.o ((nsortL L).map lstD)) := by
  cases L with
  | nil => exact absurd rfl h
  | cons x xs =>
    have h1 : sortR (.v (.list ((x :: xs).map lstD))) = .bad := rfl
    have h2 := depthAll_td (k := 1) (ds := (x :: xs).map lstD) (by simp)
    unfold sortA alt1
    rw [h1]
    show (if alikeB ((x :: xs).map lstD) = true ∧ PyData.depthAll ((x :: xs).map lstD) ≤ 60 ∧ (listsB ((x :: xs).map lstD) || tupsB ((x :: xs).map lstD)) = true then Er.ok (Rv.o (sortD ((x :: xs).map lstD))) else .bad) = _
    rw [if_pos ⟨alikeB_lst _, by omega, by rw [listsB_lst]; rfl⟩, sortD_lst]

theorem whole_b (i : Int) : f_law_whole [.b (.int i)] = .ret (.v (.bool true)) := by
  refine fnR_of ?_
  show b_law_whole [.b (.int i)] = _
  have h1 : isiR "int" (.b (.int i)) = .ok (.v (.bool true)) := rfl
  have h2 : isiR "bool" (.b (.int i)) = .ok (.v (.bool false)) := rfl
  unfold b_law_whole
  simp [h1, h2]
theorem ap_cyc {r : List Nat} {n y k : Nat} (hk : k < ordr r n y) : ap (cyc r n y) k = it r k y := by
  have h : k < (cyc r n y).length := by rw [cyc_len]; exact hk
  have e := ap_get h
  rw [List.getElem?_eq_getElem h] at e
  have e2 : (cyc r n y)[k] = it r k y := by simp [cyc]
  rw [e2] at e
  exact (Option.some.inj e).symm
theorem opens_le {r : List Nat} {n y k : Nat} (h : Pm r n) (hy : y < n) (ho : opens r n y = true) : y ≤ it r k y := by
  refine Classical.byContradiction fun z => ?_
  have hm := cyc_mem h hy k
  exact opens_iff.mp ho _ (by omega) (cyc_sym h hy hm)
/-! the rounds rise by their first squares -/
theorem lst_le {a b : Nat} {s t : List Nat} (h : a < b) : PySem.W.dataLe false (fun d : PyData => d) (lstD (a :: s)) (lstD (b :: t)) = true := by
  show (!PyProof.Rows.lexLt PyProof.Rows.itemOrd (PySem.W.keyToks (lstD (b :: t))) (PySem.W.keyToks (lstD (a :: s)))) = true
  have e : ∀ (x : Nat) (u : List Nat), PySem.W.keyToks (lstD (x :: u)) = .inl 1 :: .inl (x : Int) :: PySem.W.keyToksAll (nD u) := fun x u => by
    unfold lstD
    rfl
  rw [e, e]
  have h1 : ¬ ((b : Int) < a) := by omega
  have h2 : (a : Int) < b := by omega
  simp [PyProof.Rows.lexLt, PyProof.Rows.itemOrd, PyProof.Rows.itemLt, h1, h2]
theorem cyc_cons {r : List Nat} {n y : Nat} (h : Pm r n) (hy : y < n) : ∃ s, cyc r n y = y :: s := by
  obtain ⟨o0, _⟩ := ordr_spec h hy
  unfold cyc
  obtain ⟨k, hk⟩ : ∃ k, ordr r n y = k + 1 := ⟨ordr r n y - 1, by omega⟩
  rw [hk, List.range_succ_eq_map]
  exact ⟨_, rfl⟩
theorem rounds_sorted {r : List Nat} {n : Nat} (h : Pm r n) : nsortL ((reps r n n).map (cyc r n)) = (reps r n n).map (cyc r n) := by
  unfold nsortL
  refine List.mergeSort_of_pairwise ?_
  rw [List.pairwise_map]
  have hpw : (reps r n n).Pairwise (· < ·) := List.Pairwise.filter _ List.pairwise_lt_range
  refine List.Pairwise.imp_of_mem (fun {a b} ha hb hab => ?_) hpw
  obtain ⟨s, es⟩ := cyc_cons h (List.mem_range.mp (List.mem_filter.mp ha).1)
  obtain ⟨t, et⟩ := cyc_cons h (List.mem_range.mp (List.mem_filter.mp hb).1)
  rw [es, et]
  exact lst_le hab
theorem sortF_rnds {r : List Nat} {n : Nat} (h : Pm r n) : sortFR (.b (.list (rnds r n n))) = .ok (.b (.list (rnds r n n))) := by
  have e : rnds r n n = ((reps r n n).map (cyc r n)).map lstD := by
    unfold rnds
    rw [List.map_map]
    rfl
  have h2 := depthAll_td (k := 1) (ds := ((reps r n n).map (cyc r n)).map lstD) (by simp)
  rw [e]
  show (if alikeB _ = true ∧ PyData.depthAll _ ≤ 60 ∧ (listsB _ || tupsB _) = true then Er.ok (Rv.b (.list (sortD _))) else .bad) = _
  rw [if_pos ⟨alikeB_lst _, by omega, by rw [listsB_lst]; rfl⟩, sortD_lst, rounds_sorted h]
theorem all_whole_b {τ : IF} {ρ : Env} {k : Nat} {zs : List Int} (hτ : τ ρ = .ok (zs.map fun z : Int => Rv.b (.int z))) (hl : zs.length ≤ 1000) (hk : ∀ z : Int, varF k ((wipeE ρ [k]).set k (.b (.int z))) = .ok (.b (.int z))) : lcF τ (asgn k) [k] yesT (callF f_law_whole (aCons (varF k) aNil)) ρ = .ok (.o (List.replicate zs.length (.bool true))) := by
  rw [lcF_map zs (fun z : Int => Rv.b (.int z)) (fun _ => .bool true) hτ (by omega) fun z _ => ⟨(wipeE ρ [k]).set k (.b (.int z)), .v (.bool true), rfl, by
    have := hk z
    rw [callF_e, aCons_e, this]
    simp [whole_b], rfl⟩]
  simp [List.map_const']
def rkA : SF := (ifS (orT (notT (tstF (unF (isiR "list") (varF 4)))) (orT (tstF (binF eqR (unF lenR (varF 4)) (cF (.int 0)))) (notT (tstF (unF allA (lcF (itF itC (varF 4)) (asgn 7) [7] yesT (callF f_law_whole (aCons (varF 7) aNil)))))))) (retS (cF (.bool false)))
  skipS)
def rkB : SF := (ifS (tstF (binF neR (unF minR (varF 4)) (binF ixR (varF 4) (cF (.int 0))))) (retS (cF (.bool false)))
  skipS)
def rkC : SF := (ifS (tstF (binF neR (binF ixR (binF ixR (varF 1) (cF (.int 0))) (binF ixR (varF 4) (binF (flat2 (int2 isub)) (varF 6) (cF (.int 1))))) (binF ixR (varF 4) (varF 6)))) (retS (cF (.bool false)))
  skipS)
def rkBody : SF := (seqS rkA (seqS rkB (seqS (forS (rg1F (unF lenR (varF 4))) (asgn 6) rkC) (extF 3 (varF 4)))))
def rkE (ns : List Int) (p q : List Nat) (x2 : Sl) (S : List Nat) (x4 x5 x6 : Sl) : Env := [.v (.list (zD ns)), .v (sheet p q), x2, .o (nD S), x4, x5, x6, .u]
theorem rk_A {ns : List Int} {p q S : List Nat} {n y : Nat} {x2 x5 x6 : Sl} (h : Pm p n) (hy : y < n) (hn : n ≤ 1000) : rkA (rkE ns p q x2 S (.b (.list (nD (cyc p n y)))) x5 x6) = .next (rkE ns p q x2 S (.b (.list (nD (cyc p n y)))) x5 x6) := by
  obtain ⟨o0, o1, _, _⟩ := ordr_spec h hy
  have w := all_whole_b (τ := itF itC (varF 4)) (ρ := rkE ns p q x2 S (.b (.list (nD (cyc p n y)))) x5 x6) (k := 7) (zs := (cyc p n y).map fun n : Nat => (n : Int)) (by unfold rkE; simp [nD]) (by rw [List.length_map, cyc_len]; omega) fun z => rfl
  have i1 : isiR "list" (.b (.list (nD (cyc p n y)))) = .ok (.v (.bool true)) := rfl
  have l0 : ¬ (ordr p n y = 0) := by omega
  have l1 : ¬ ((ordr p n y : Int) = 0) := by omega
  unfold rkA
  unfold rkE at w ⊢
  simp only [ifS_e, orT_e, notT_e, tstF_e, unF_e, varF_e, w]
  simp [i1, all_true, l0, l1]
theorem rk_B {ns : List Int} {p q S : List Nat} {n y : Nat} {x2 x5 x6 : Sl} (h : Pm p n) (hy : y < n) (ho : opens p n y = true) : rkB (rkE ns p q x2 S (.b (.list (nD (cyc p n y)))) x5 x6) = .next (rkE ns p q x2 S (.b (.list (nD (cyc p n y)))) x5 x6) := by
  obtain ⟨o0, o1, _, _⟩ := ordr_spec h hy
  have i0 : ixR (.b (.list (nD (cyc p n y)))) (.v (.int 0)) = .ok (.b (.int (y : Nat))) := by
    have := ix_rowB (a := cyc p n y) (x := 0) (by rw [cyc_len]; exact o0)
    rw [ap_cyc o0] at this
    exact this
  have hmin : minR (.b (.list (nD (cyc p n y)))) = .ok (.v (.int y)) := by
    have h1 : (Rv.b (.list (nD (cyc p n y)))).intsD = some ((cyc p n y).map fun n : Nat => (n : Int)) := dInts_nD _
    unfold minR
    rw [h1]
    have hpos : 0 < ((cyc p n y).map fun n : Nat => (n : Int)).length := by rw [List.length_map, cyc_len]; exact o0
    show (if 0 < ((cyc p n y).map fun n : Nat => (n : Int)).length then Er.ok (Rv.v (.int (lstMin ((cyc p n y).map fun n : Nat => (n : Int))))) else .bad) = _
    rw [if_pos hpos, ← lstMin_is (m := (y : Int)) (List.mem_map_of_mem (f := fun n : Nat => (n : Int)) (cyc_self h hy)) fun z hz => by
      obtain ⟨w, hw, e⟩ := List.mem_map.mp hz
      obtain ⟨k, _, ek⟩ := mem_cyc hw
      have := opens_le (k := k) h hy ho
      omega]
  unfold rkB rkE
  simp [i0, hmin]
theorem rk_C {ns : List Int} {p q S : List Nat} {n y : Nat} {x2 x5 x6 : Sl} (h : Pm p n) (hy : y < n) (hn : n ≤ 1000) : ∃ x6', forS (rg1F (unF lenR (varF 4))) (asgn 6) rkC (rkE ns p q x2 S (.b (.list (nD (cyc p n y)))) x5 x6) = .next (rkE ns p q x2 S (.b (.list (nD (cyc p n y)))) x5 x6') := by
  obtain ⟨o0, o1, o2, _⟩ := ordr_spec h hy
  obtain ⟨ρ', e, x6', eρ⟩ := for_rg (f := unF lenR (varF 4)) (s := rkC) (ρ := rkE ns p q x2 S (.b (.list (nD (cyc p n y)))) x5 x6) (n := ordr p n y) 6
    (fun i ρ => ∃ x6', ρ = rkE ns p q x2 S (.b (.list (nD (cyc p n y)))) x5 x6') (by unfold rkE; simp) (by omega) ⟨x6, rfl⟩ fun i ρ hi ⟨x, eρ⟩ => by
      subst eρ
      refine ⟨rkE ns p q x2 S (.b (.list (nD (cyc p n y)))) x5 (.v (.int i)), ?_, _, rfl⟩
      have i1 : ixR (.b (.list (nD (cyc p n y)))) (.v (.int i)) = .ok (.b (.int (it p i y : Nat))) := by
        rw [ix_rowB (by rw [cyc_len]; exact hi), ap_cyc hi]
      obtain ⟨j, hj, i2⟩ : ∃ j, it p (j + 1) y = it p i y ∧ ixR (.b (.list (nD (cyc p n y)))) (.v (.int ((i : Int) - 1))) = .ok (.b (.int (it p j y : Nat))) := by
        cases i with
        | zero =>
          refine ⟨ordr p n y - 1, by rw [Nat.sub_add_cancel o0, o2]; rfl, ?_⟩
          refine (alt_r rfl).trans (alt_l ?_)
          show (match (Rv.b (.list (nD (cyc p n y)))).item (((0 : Nat) : Int) - 1) with | some r => Er.ok r | none => .bad) = _
          have : (Rv.b (.list (nD (cyc p n y)))).item (((0 : Nat) : Int) - 1) = some (.b (.int (it p (ordr p n y - 1) y : Nat))) := by
            show (atI (nD (cyc p n y)) (-1)).map Rv.b = _
            obtain ⟨k, hk⟩ : ∃ k, ordr p n y = k + 1 := ⟨ordr p n y - 1, by omega⟩
            have : cyc p n y = pre p y k ++ [it p k y] := by
              rw [← pre_succ, ← hk]
              rfl
            rw [this, nD_app, nD_one, atI_last, hk]
            rfl
          rw [this]
        | succ i =>
          refine ⟨i, rfl, ?_⟩
          rw [show (((i + 1 : Nat) : Int) - 1) = (i : Nat) by omega, ix_rowB (by rw [cyc_len]; omega), ap_cyc (by omega)]
      have i3 : ixR (.v (.tuple (nD p))) (.b (.int (it p j y : Nat))) = .ok (.v (.int (it p i y : Nat))) := by
        rw [← hj]
        have := ix_rowT (a := p) (x := it p j y) (by rw [h.len]; exact it_lt h hy j)
        exact this
      unfold rkC rkE
      simp [ix_sh0, i1, i2, i3]
  exact ⟨x6', by rw [e, eρ]⟩
theorem rk_loop {ns : List Int} {p q : List Nat} {n : Nat} {x2 x5 : Sl} (h : Pm p n) (hn : n ≤ 1000) : ∀ (L S : List Nat) (x4 x6 : Sl), (∀ y ∈ L, y < n ∧ opens p n y = true) → S.length + ((L.map (cyc p n)).flatten).length ≤ 1000 →
    ∃ x4' x6', forL (asgn 4) rkBody (L.map fun y => Rv.b (.list (nD (cyc p n y)))) (rkE ns p q x2 S x4 x5 x6) = .next (rkE ns p q x2 (S ++ (L.map (cyc p n)).flatten) x4' x5 x6')
  | [], S, x4, x6, _, _ => ⟨x4, x6, by simp⟩
  | y :: L, S, x4, x6, hL, hl => by
    have hy := hL y (List.mem_cons_self ..)
    rw [List.map_cons, List.flatten_cons, List.length_append] at hl
    obtain ⟨x6', eC⟩ := rk_C (ns := ns) (q := q) (S := S) (x2 := x2) (x5 := x5) (x6 := x6) h hy.1 hn
    have hsz : S.length + (cyc p n y).length ≤ 100000 := by omega
    have eb : rkBody (rkE ns p q x2 S (.b (.list (nD (cyc p n y)))) x5 x6) = .next (rkE ns p q x2 (S ++ cyc p n y) (.b (.list (nD (cyc p n y)))) x5 x6') := by
      unfold rkBody
      rw [seq_go (rk_A h hy.1 hn), seq_go (rk_B h hy.1 hy.2), seq_go eC]
      have hf : flatL (nD (cyc p n y)) = true := flat_nD _
      unfold extF rkE
      rw [nD_app]
      simp [hf]
      simpa using hsz
    obtain ⟨y4, y6, e⟩ := rk_loop (ns := ns) (q := q) (x2 := x2) (x5 := x5) h hn L (S ++ cyc p n y) (.b (.list (nD (cyc p n y)))) x6' (fun z hz => hL z (List.mem_cons_of_mem _ hz)) (by rw [List.length_append]; omega)
    refine ⟨y4, y6, ?_⟩
    rw [List.map_cons, forL_next (ρ1 := rkE ns p q x2 S (.b (.list (nD (cyc p n y)))) x5 x6) rfl eb]
    rw [List.map_cons, List.flatten_cons, ← List.append_assoc]
    exact e
def rkT : SF := (ifS (orT (tstF (binF neR (unF sortR (varF 3)) (lrgF (cF (.int 0)) (unF lenR (binF ixR (varF 1) (cF (.int 0))))))) (tstF (binF neR (varF 2) (unF sortFR (varF 2))))) (retS (cF (.bool false)))
  skipS)
def rkM (l : Addr) : SF := (seqS (ifS (notT (tstF (unF (isiR "list") (varF 2)))) (retS (cF (.bool false)))
  skipS)
  (seqS (asgS (lstF aNil) (asgn 3))
  (seqS (forS (itF itS (varF 2)) (asgn 4) rkBody)
  (seqS rkT
  (seqS (asgS (lcF (itF itC (varF 2)) (asgn 4) [4] yesT (unF listR (varF 4))) (asgn 5))
  (seqS (endZ 2 l) (frzS 1 (frzS 5 (retS (binF eqR (callF f_rows (aCons (varF 1) aNil)) (varF 5)))))))))))
theorem rk_M {ns : List Int} {p q : List Nat} {n : Nat} (hp : Pm p n) (hn : n ≤ 1000) (h0 : 0 < n) (l : Addr) : rkM l [.v (.list (zD ns)), .v (sheet p q), .z l (rndL p n n), .u, .u, .u, .u, .u] = .ret (.v (.bool true)) := by
  have hre : ∀ y ∈ reps p n n, y < n ∧ opens p n y = true := fun y hy => ⟨List.mem_range.mp (List.mem_filter.mp hy).1, (List.mem_filter.mp hy).2⟩
  have hle : (reps p n n).length ≤ n := by
    have := List.length_filter_le (opens p n) (List.range n)
    rw [List.length_range] at this
    exact this
  have hperm := rounds_perm hp
  have hfl := hperm.length_eq
  rw [List.length_range] at hfl
  have es : nsrt ((reps p n n).map (cyc p n)).flatten = List.range n := List.Perm.eq_of_pairwise (le := (· ≤ ·)) (fun a b _ _ h1 h2 => Nat.le_antisymm h1 h2) (nsrt_le _) (List.Pairwise.imp (fun h => Nat.le_of_lt h) List.pairwise_lt_range) ((nsrt_perm _).trans hperm)
  have hi : itS (.b (.list (rnds p n n))) = .ok ((reps p n n).map fun y => Rv.b (.list (nD (cyc p n y)))) := by
    simp [rnds]
  have hr := rows_ok (q := q) hp hn
  have hsf := sortF_rnds hp
  have hz : (Sl.z l (rndL p n n)).rd = .ok (.b (.list (rnds p n n))) := by rw [rd_z, rndL_map]
  obtain ⟨x4, x6, e1⟩ := rk_loop (ns := ns) (q := q) (x2 := .z l (rndL p n n)) (x5 := .u) hp hn (reps p n n) [] .u .u hre (by rw [hfl]; simp; omega)
  have td3 : td 3 (.list (rnds p n n)) = true := by simp [rnds]
  have nes := ne_same (x := .list (rnds p n n)) 3 td3
  have eqs := eq_same (x := .list (rnds p n n)) 3 td3
  have ner := ne_same (x := .list (nD (List.range n))) 3 (by simp)
  have hc : ∃ c cs, rndL p n n = c :: cs ∧ c.length < 100000 ∧ cs.length < 90000 := by
    obtain ⟨y, hy, ho, _⟩ := rep_ex hp (0 + 1) 0 (by omega) h0
    have hy0 : y = 0 := by omega
    subst hy0
    have hm : (0 : Nat) ∈ reps p n n := List.mem_filter.mpr ⟨List.mem_range.mpr h0, ho⟩
    cases z : reps p n n with
    | nil => rw [z] at hm; cases hm
    | cons a as =>
      refine ⟨nD (cyc p n a), as.map fun y => nD (cyc p n y), by unfold rndL; rw [z]; rfl, ?_, ?_⟩
      · have ha : a ∈ reps p n n := by rw [z]; exact List.mem_cons_self ..
        have := (ordr_spec hp (List.mem_range.mp (List.mem_filter.mp ha).1)).2.1
        rw [nD_len, cyc_len]
        omega
      · rw [z] at hle
        simp at hle ⊢
        omega
  obtain ⟨c, cs, ec, hc1, hc2⟩ := hc
  have i1 : isiR "list" (.b (.list (rnds p n n))) = .ok (.v (.bool true)) := rfl
  unfold rkM
  rw [seq_go (ρ' := [.v (.list (zD ns)), .v (sheet p q), .z l (rndL p n n), .u, .u, .u, .u, .u]) (by
    simp only [ifS_e, notT_e, tstF_e, unF_e, varF_e, slot_2, hz, bind_ok, i1]
    simp)]
  rw [seq_go (ρ' := rkE ns p q (.z l (rndL p n n)) [] .u .u .u) (by unfold rkE; simp; rfl)]
  rw [seq_go (ρ' := rkE ns p q (.z l (rndL p n n)) ((reps p n n).map (cyc p n)).flatten x4 .u x6) (by
    rw [forS_e, itF_e, varF_e]
    rw [show (slot (rkE ns p q (.z l (rndL p n n)) [] .u .u .u) 2).rd = .ok (.b (.list (rnds p n n))) from hz, bind_ok, hi]
    rw [List.nil_append] at e1
    exact e1)]
  have el : lrgF (cF (.int 0)) (unF lenR (binF ixR (varF 1) (cF (.int 0)))) (rkE ns p q (.z l (rndL p n n)) ((reps p n n).map (cyc p n)).flatten x4 .u x6) = .ok (.o (nD (List.range n))) := lrg_e (a := .v (.int n)) (by unfold rkE; simp [ix_sh0, hp.len]) rfl (by omega)
  rw [seq_go (ρ' := rkE ns p q (.z l (rndL p n n)) ((reps p n n).map (cyc p n)).flatten x4 .u x6) (by
    unfold rkT
    unfold rkE at el ⊢
    simp only [ifS_e, orT_e, tstF_e, binF_e, unF_e, varF_e, slot_2, hz, bind_ok, el, hsf]
    simp [es, ner, nes])]
  have ek : lcF (itF itC (varF 2)) (asgn 4) [4] yesT (unF listR (varF 4)) (rkE ns p q (.z l (rndL p n n)) ((reps p n n).map (cyc p n)).flatten x4 .u x6) = .ok (.o (rnds p n n)) := by
    rw [lcF_map (reps p n n) (fun y => Rv.b (.list (nD (cyc p n y)))) (fun y : Nat => .list (nD (cyc p n y))) (by
      rw [itF_e, varF_e]
      rw [show (slot (rkE ns p q (.z l (rndL p n n)) ((reps p n n).map (cyc p n)).flatten x4 .u x6) 2).rd = .ok (.b (.list (rnds p n n))) from hz, bind_ok]
      simp [rnds]) (by omega) fun x hx => ⟨_, .o (nD (cyc p n x)), rfl, by unfold rkE; simp [wipeE, listR, flat_nD], rfl⟩]
    rfl
  rw [seq_go (ρ' := [.v (.list (zD ns)), .v (sheet p q), .z l (rndL p n n), .o (nD ((reps p n n).map (cyc p n)).flatten), x4, .o (rnds p n n), x6, .u]) (by
    rw [asgS_e, ek]
    rfl)]
  rw [ec]
  have ez : endZ 2 l [.v (.list (zD ns)), .v (sheet p q), .z l (c :: cs), .o (nD ((reps p n n).map (cyc p n)).flatten), x4, .o (rnds p n n), x6, .u] = .next (wipeB [.v (.list (zD ns)), .v (sheet p q), .z l (c :: cs), .o (nD ((reps p n n).map (cyc p n)).flatten), x4, .o (rnds p n n), x6, .u]) := by
    unfold endZ
    simp [hc1, hc2]
  obtain ⟨y4, y6, ew⟩ : ∃ y4 y6, wipeB [.v (.list (zD ns)), .v (sheet p q), .z l (c :: cs), .o (nD ((reps p n n).map (cyc p n)).flatten), x4, .o (rnds p n n), x6, .u] = [.v (.list (zD ns)), .v (sheet p q), .u, .o (nD ((reps p n n).map (cyc p n)).flatten), y4, .o (rnds p n n), y6, .u] := ⟨_, _, rfl⟩
  rw [ew] at ez
  rw [seq_go ez]
  simp [hr, eqs]
theorem law_true : ∀ ns : List Int, ns.length ≤ 63 → f_law_k41_rows_of_squares [.v (.list (ns.map .int))] = .ret (.v (.bool true)) := by
  intro ns hns
  obtain ⟨p, q, n, hn, hs, e1⟩ := sheet6_ok ns
  have hn' : n ≤ 1000 := by omega
  have e3 := rows_y (q := q) hs.hp hn' hs.pos
  refine fnR_of ?_
  show (seqS (asgS (callF f_law_sheet_6 (aCons (varF 0) (aCons (cF (.int 36)) aNil))) (asgn 1)) (scopeS 2 f_rows_y (aCons (varF 1) aNil) rkM)) [.v (.list (zD ns)), .u, .u, .u, .u, .u, .u, .u] = _
  rw [seq_go (ρ' := [.v (.list (zD ns)), .v (sheet p q), .u, .u, .u, .u, .u, .u]) (by simp [e1])]
  unfold scopeS
  simp [allV, e3]
  exact unif_eq fun l => rk_M hs.hp hn' hs.pos l

end Sq
namespace Lw
open PySem PySem.Spec PyProof.Rows L2 Sq
/-! ### the text -/
def topS (i : Nat) : Stmt := PySem.Challenge.pw_squaresheet_k41_rows_of_squares.main.body.getD i (.Pass ⟨0, 0, 0, 0⟩)
abbrev s_law_cell : Stmt := topS 5
theorem sc_law_cell : FnScope ["_law_script", "_law_k"] ["_law_script", "_law_k"] (defScope s_law_cell) := ⟨rfl, rfl, rfl, by decide +kernel, rfl, by decide +kernel, by decide +kernel⟩
abbrev s_law_together : Stmt := topS 10
theorem sc_law_together : FnScope ["_law_first", "_law_second", "_law_have", "_law_at", "_law_kept", "_law_row_here", "_law_k"] ["_law_first", "_law_second"] (defScope s_law_together) := ⟨rfl, rfl, rfl, by decide +kernel, rfl, by decide +kernel, by decide +kernel⟩
abbrev s_law_row : Stmt := topS 7
theorem sc_law_row : FnScope ["_law_script", "_law_at", "_law_many", "_law_left", "_law_row_here", "_law_k"] ["_law_script", "_law_at", "_law_many"] (defScope s_law_row) := ⟨rfl, rfl, rfl, by decide +kernel, rfl, by decide +kernel, by decide +kernel⟩
abbrev s_law_torus : Stmt := topS 8
theorem sc_law_torus : FnScope ["_law_long", "_law_high", "_law_shift", "_law_across", "_law_above", "_law_k"] ["_law_long", "_law_high", "_law_shift"] (defScope s_law_torus) := ⟨rfl, rfl, rfl, by decide +kernel, rfl, by decide +kernel, by decide +kernel⟩
abbrev s_law_exchanged : Stmt := topS 9
theorem sc_law_exchanged : FnScope ["_law_row_here", "_law_script", "_law_at", "_law_times", "_law_k", "_law_i", "_law_j", "_law_kept"] ["_law_row_here", "_law_script", "_law_at", "_law_times"] (defScope s_law_exchanged) := ⟨rfl, rfl, rfl, by decide +kernel, rfl, by decide +kernel, by decide +kernel⟩
abbrev s_law_sheet : Stmt := topS 11
theorem sc_law_sheet : FnScope ["_law_script", "_law_most", "_law_cell_here", "_law_long", "_law_high", "_law_many", "_law_across", "_law_above"] ["_law_script", "_law_most"] (defScope s_law_sheet) := ⟨rfl, rfl, rfl, by decide +kernel, rfl, by decide +kernel, by decide +kernel⟩
abbrev s_size : Stmt := topS 1
theorem sc_size : FnScope ["sheet"] ["sheet"] (defScope s_size) := ⟨rfl, rfl, rfl, by decide +kernel, rfl, by decide +kernel, by decide +kernel⟩
abbrev s_rows : Stmt := topS 3
theorem sc_rows : FnScope ["sheet", "right", "have", "found", "first", "row", "square"] ["sheet"] (defScope s_rows) := ⟨rfl, rfl, rfl, by decide +kernel, rfl, by decide +kernel, by decide +kernel⟩
abbrev s_law_whole : Stmt := topS 6
theorem sc_law_whole : FnScope ["_law_found"] ["_law_found"] (defScope s_law_whole) := ⟨rfl, rfl, rfl, by decide +kernel, rfl, by decide +kernel, by decide +kernel⟩
abbrev s_law : Stmt := topS 12
theorem sc_law : FnScope ["_law_script", "_law_sheet_here", "_law_found", "_law_every", "_law_row_here", "_law_kept", "_law_k", "_law_one"] ["_law_script"] (defScope s_law) := ⟨rfl, rfl, rfl, by decide +kernel, rfl, by decide +kernel, by decide +kernel⟩
structure Ad where
  f_law_cell : Addr
  d_law_cell : FuncData
  f_law_together : Addr
  d_law_together : FuncData
  f_law_row : Addr
  d_law_row : FuncData
  f_law_torus : Addr
  d_law_torus : FuncData
  f_law_exchanged : Addr
  d_law_exchanged : FuncData
  f_law_sheet : Addr
  d_law_sheet : FuncData
  f_size : Addr
  d_size : FuncData
  f_rows : Addr
  d_rows : FuncData
  f_law_whole : Addr
  d_law_whole : FuncData
  f_law : Addr
  d_law : FuncData
structure Tx (K : PySem.W.Frag) (mg : Str → Option Value) (a : Ad) : Prop where
  F_law_cell : Fun K "_law_cell" "_law_cell" s_law_cell a.f_law_cell a.d_law_cell
  B_law_cell : Binds K a.d_law_cell ["_law_script", "_law_k"] []
  G_law_cell : mg "_law_cell" = some (.ref a.f_law_cell)
  F_law_together : Fun K "_law_together" "_law_together" s_law_together a.f_law_together a.d_law_together
  B_law_together : Binds K a.d_law_together ["_law_first", "_law_second"] []
  G_law_together : mg "_law_together" = some (.ref a.f_law_together)
  F_law_row : Fun K "_law_row" "_law_row" s_law_row a.f_law_row a.d_law_row
  B_law_row : Binds K a.d_law_row ["_law_script", "_law_at", "_law_many"] []
  G_law_row : mg "_law_row" = some (.ref a.f_law_row)
  F_law_torus : Fun K "_law_torus" "_law_torus" s_law_torus a.f_law_torus a.d_law_torus
  B_law_torus : Binds K a.d_law_torus ["_law_long", "_law_high", "_law_shift"] []
  G_law_torus : mg "_law_torus" = some (.ref a.f_law_torus)
  F_law_exchanged : Fun K "_law_exchanged" "_law_exchanged" s_law_exchanged a.f_law_exchanged a.d_law_exchanged
  B_law_exchanged : Binds K a.d_law_exchanged ["_law_row_here", "_law_script", "_law_at", "_law_times"] []
  G_law_exchanged : mg "_law_exchanged" = some (.ref a.f_law_exchanged)
  F_law_sheet : Fun K "_law_sheet" "_law_sheet" s_law_sheet a.f_law_sheet a.d_law_sheet
  B_law_sheet : Binds K a.d_law_sheet ["_law_script", "_law_most"] []
  G_law_sheet : mg "_law_sheet" = some (.ref a.f_law_sheet)
  F_size : Fun K "size" "size" s_size a.f_size a.d_size
  B_size : Binds K a.d_size ["sheet"] []
  G_size : mg "size" = some (.ref a.f_size)
  F_rows : Fun K "rows" "rows" s_rows a.f_rows a.d_rows
  B_rows : Binds K a.d_rows ["sheet"] []
  G_rows : mg "rows" = some (.ref a.f_rows)
  F_law_whole : Fun K "_law_whole" "_law_whole" s_law_whole a.f_law_whole a.d_law_whole
  B_law_whole : Binds K a.d_law_whole ["_law_found"] []
  G_law_whole : mg "_law_whole" = some (.ref a.f_law_whole)
  F_law : Fun K "law" "law" s_law a.f_law a.d_law
  z_len : mg "len" = none
  z_sorted : mg "sorted" = none
  z_tuple : mg "tuple" = none
  z_list : mg "list" = none
  z_range : mg "range" = none
  z_int : mg "int" = none
  z_isinstance : mg "isinstance" = none
  z_bool : mg "bool" = none
  z_all : mg "all" = none
  z_min : mg "min" = none
section
variable {P : Program} {w : World} {K : PySem.W.Frag} {mg : Str → Option Value} {base : Heap} {ad : Ad}
theorem ok_law_cell (T : Tx K mg ad) : FnOk P w K mg base (L2.CX P w) 1 ad.f_law_cell ad.d_law_cell ["_law_script", "_law_k"] (fsp K (cmOf mg) 2 f_law_cell_3) := by
  refine fn_ok T.F_law_cell sc_law_cell (by decide) fun cdv A outer s H E hr => ?_
  have tk := tkOf (cm := cmOf mg) (X := bodyCx P w K mg base ["_law_script", "_law_k"] "_law_cell" s_law_cell ad.f_law_cell cdv A outer s H E) (takes_of rfl rfl rfl rfl)
  have hpo : PassesOwn (model P w) (bodyCx P w K mg base ["_law_script", "_law_k"] "_law_cell" s_law_cell ad.f_law_cell cdv A outer s H E).A (bodyCx P w K mg base ["_law_script", "_law_k"] "_law_cell" s_law_cell ad.f_law_cell cdv A outer s H E).env (bodyCx P w K mg base ["_law_script", "_law_k"] "_law_cell" s_law_cell ad.f_law_cell cdv A outer s H E).xe := passes_of rfl
  exact (xsscons (xifs (xtlt  (xv 1) (xlen (by rfl) T.z_len (xv 0))) (xssone (xret (xmod (xix (hu_of hr) (xv 0) (xv 1)) (xpow xint xint))))
  xssnil)
  (xsscons (xifs (xteq hr.units (xlen (by rfl) T.z_len (xv 0)) xint) (xssone (xret xint))
  xssnil)
  (xssone (xret (xmod (xadd (xmul (xmod (xix (hu_of hr) (xv 0) (xmod (xv 1) (xlen (by rfl) T.z_len (xv 0)))) xint) xint) (xmul (xmul (xv 1) (xv 1)) xint)) xint)))))
theorem ok_law_together (T : Tx K mg ad) : FnOk P w K mg base (L2.CX P w) 1 ad.f_law_together ad.d_law_together ["_law_first", "_law_second"] (fsp K (cmOf mg) 2 f_law_together) := by
  refine fn_ok T.F_law_together sc_law_together (by decide) fun cdv A outer s H E hr => ?_
  have tk := tkOf (cm := cmOf mg) (X := bodyCx P w K mg base ["_law_first", "_law_second", "_law_have", "_law_at", "_law_kept", "_law_row_here", "_law_k"] "_law_together" s_law_together ad.f_law_together cdv A outer s H E) (takes_of rfl rfl rfl rfl)
  have hpo : PassesOwn (model P w) (bodyCx P w K mg base ["_law_first", "_law_second", "_law_have", "_law_at", "_law_kept", "_law_row_here", "_law_k"] "_law_together" s_law_together ad.f_law_together cdv A outer s H E).A (bodyCx P w K mg base ["_law_first", "_law_second", "_law_have", "_law_at", "_law_kept", "_law_row_here", "_law_k"] "_law_together" s_law_together ad.f_law_together cdv A outer s H E).env (bodyCx P w K mg base ["_law_first", "_law_second", "_law_have", "_law_at", "_law_kept", "_law_row_here", "_law_k"] "_law_together" s_law_together ad.f_law_together cdv A outer s H E).xe := passes_of rfl
  exact (xsscons (xset (i := 2) sc_law_together.nd (xlst (xacons xint xanil)))
  (xsscons (xset (i := 3) sc_law_together.nd xint)
  (xsscons (xwhile hpo (xtlt  (xv 3) (xlen (by rfl) T.z_len (xv 2))) (xsscons (xfor hpo rfl (xiS (xtup (xacons (xv 0) (xacons (xv 1) xanil)))) (xgn 5 sc_law_together.nd)
  (xssone (xifs (xtnotin (hu_of hr) (xix (hu_of hr) (xv 5) (xix (hu_of hr) (xv 2) (xv 3))) (xv 2)) (xssone (xapp 2 (pe_bm PySem.F.plainAttrs_list PySem.F.slot_list_append PySem.F.type_list_append mt_append (pv 2) (pa_cons (xix (hu_of hr) (xv 5) (xix (hu_of hr) (xv 2) (xv 3))) pa_nil))))
  xssnil)))
  (xssone (xset (i := 3) sc_law_together.nd (xadd (xv 3) xint)))))
  (xsscons (xset (i := 4) sc_law_together.nd (xsorted (by rfl) T.z_sorted (xv 2)))
  (xfrz 4 (xssone (xret (xtup (xacons (xtupleOf (by rfl) T.z_tuple (xlc (own := [("_law_k", 6)]) rfl sc_law_together.nd asgn_ne (xiC (xv 4)) (blkOk_by (own := [("_law_k", 6)]) (N := ["_law_first", "_law_second", "_law_have", "_law_at", "_law_kept", "_law_row_here", "_law_k"]) (sc := defScope s_law_together) (by decide +kernel)) (fun _ _ _ _ _ => (xgn 6 sc_law_together.nd)) (fun _ _ _ _ _ => xyes) (fun _ _ _ _ _ => (xindex (pe_bm PySem.F.plainAttrs_list PySem.F.slot_list_index PySem.F.type_list_index mt_index (xv 4) (pa_cons (xix (hu_of hr) (xv 0) (xv 6)) pa_nil)))))) (xacons (xtupleOf (by rfl) T.z_tuple (xlc (own := [("_law_k", 6)]) rfl sc_law_together.nd asgn_ne (xiC (xv 4)) (blkOk_by (own := [("_law_k", 6)]) (N := ["_law_first", "_law_second", "_law_have", "_law_at", "_law_kept", "_law_row_here", "_law_k"]) (sc := defScope s_law_together) (by decide +kernel)) (fun _ _ _ _ _ => (xgn 6 sc_law_together.nd)) (fun _ _ _ _ _ => xyes) (fun _ _ _ _ _ => (xindex (pe_bm PySem.F.plainAttrs_list PySem.F.slot_list_index PySem.F.type_list_index mt_index (xv 4) (pa_cons (xix (hu_of hr) (xv 1) (xv 6)) pa_nil)))))) xanil))))))))))
theorem ok_law_row (T : Tx K mg ad) : FnOk P w K mg base (L2.CX P w) 2 ad.f_law_row ad.d_law_row ["_law_script", "_law_at", "_law_many"] (fsp K (cmOf mg) 3 f_law_row_4) := by
  refine fn_ok T.F_law_row sc_law_row (by decide) fun cdv A outer s H E hr => ?_
  have tk := tkOf (cm := cmOf mg) (X := bodyCx P w K mg base ["_law_script", "_law_at", "_law_many", "_law_left", "_law_row_here", "_law_k"] "_law_row" s_law_row ad.f_law_row cdv A outer s H E) (takes_of rfl rfl rfl rfl)
  have hpo : PassesOwn (model P w) (bodyCx P w K mg base ["_law_script", "_law_at", "_law_many", "_law_left", "_law_row_here", "_law_k"] "_law_row" s_law_row ad.f_law_row cdv A outer s H E).A (bodyCx P w K mg base ["_law_script", "_law_at", "_law_many", "_law_left", "_law_row_here", "_law_k"] "_law_row" s_law_row ad.f_law_row cdv A outer s H E).env (bodyCx P w K mg base ["_law_script", "_law_at", "_law_many", "_law_left", "_law_row_here", "_law_k"] "_law_row" s_law_row ad.f_law_row cdv A outer s H E).xe := passes_of rfl
  exact (xsscons (xset (i := 3) sc_law_row.nd (xlrg1 rfl (by rfl) T.z_list (by rfl) T.z_range (xv 2)))
  (xsscons (xset (i := 4) sc_law_row.nd (xlst xanil))
  (xsscons (xfor hpo rfl (xrg1 (by rfl) T.z_range (xv 2)) (xgn 5 sc_law_row.nd)
  (xssone (xappM 4 (pe_bm PySem.F.plainAttrs_list PySem.F.slot_list_append PySem.F.type_list_append mt_append (pv 4) (pa_cons (xpopAt 3 (pe_bm PySem.F.plainAttrs_list PySem.F.slot_list_pop PySem.F.type_list_pop mt_popAt (pv 3) (pa_cons (xmod (xcall tk (ok_law_cell T) (hr.mono (by decide)) (by rfl) T.G_law_cell T.F_law_cell.kp T.B_law_cell rfl (xacons (xv 0) (xacons (xadd (xv 1) (xv 5)) xanil)) (al_cons (al_cons al_nil))) (xlen (by rfl) T.z_len (xv 3))) pa_nil))) pa_nil)))))
  (xssone (xretv 4)))))
theorem ok_law_torus (T : Tx K mg ad) : FnOk P w K mg base (L2.CX P w) 1 ad.f_law_torus ad.d_law_torus ["_law_long", "_law_high", "_law_shift"] (fsp K (cmOf mg) 3 f_law_torus_2) := by
  refine fn_ok T.F_law_torus sc_law_torus (by decide) fun cdv A outer s H E hr => ?_
  have tk := tkOf (cm := cmOf mg) (X := bodyCx P w K mg base ["_law_long", "_law_high", "_law_shift", "_law_across", "_law_above", "_law_k"] "_law_torus" s_law_torus ad.f_law_torus cdv A outer s H E) (takes_of rfl rfl rfl rfl)
  have hpo : PassesOwn (model P w) (bodyCx P w K mg base ["_law_long", "_law_high", "_law_shift", "_law_across", "_law_above", "_law_k"] "_law_torus" s_law_torus ad.f_law_torus cdv A outer s H E).A (bodyCx P w K mg base ["_law_long", "_law_high", "_law_shift", "_law_across", "_law_above", "_law_k"] "_law_torus" s_law_torus ad.f_law_torus cdv A outer s H E).env (bodyCx P w K mg base ["_law_long", "_law_high", "_law_shift", "_law_across", "_law_above", "_law_k"] "_law_torus" s_law_torus ad.f_law_torus cdv A outer s H E).xe := passes_of rfl
  exact (xsscons (xset (i := 3) sc_law_torus.nd (xlst xanil))
  (xsscons (xset (i := 4) sc_law_torus.nd (xlst xanil))
  (xsscons (xfor hpo rfl (xrg1 (by rfl) T.z_range (xmul (xv 0) (xv 1))) (xgn 5 sc_law_torus.nd)
  (xsscons (xapp 3 (pe_bm PySem.F.plainAttrs_list PySem.F.slot_list_append PySem.F.type_list_append mt_append (pv 3) (pa_cons (xsub (xadd (xv 5) xint) (xmul (xv 0) (xintOf (by rfl) T.z_int (xeq hr.units (xmod (xv 5) (xv 0)) (xsub (xv 0) xint))))) pa_nil)))
  (xssone (xifs (xtlt  (xadd (xv 5) (xv 0)) (xmul (xv 0) (xv 1))) (xssone (xapp 4 (pe_bm PySem.F.plainAttrs_list PySem.F.slot_list_append PySem.F.type_list_append mt_append (pv 4) (pa_cons (xadd (xv 5) (xv 0)) pa_nil))))
  (xssone (xapp 4 (pe_bm PySem.F.plainAttrs_list PySem.F.slot_list_append PySem.F.type_list_append mt_append (pv 4) (pa_cons (xmod (xadd (xv 5) (xv 2)) (xv 0)) pa_nil))))))))
  (xssone (xretPair 3 4 (pv 3) (pv 4))))))
theorem ok_law_exchanged (T : Tx K mg ad) : FnOk P w K mg base (L2.CX P w) 2 ad.f_law_exchanged ad.d_law_exchanged ["_law_row_here", "_law_script", "_law_at", "_law_times"] (fspM K 4 f_law_exchanged_2) := by
  refine fn_okM (cm := cmOf mg) T.F_law_exchanged sc_law_exchanged (by decide) fun cdv A outer s H E hr => ?_
  have tk := tkOf (cm := cmOf mg) (X := bodyCx P w K mg base ["_law_row_here", "_law_script", "_law_at", "_law_times", "_law_k", "_law_i", "_law_j", "_law_kept"] "_law_exchanged" s_law_exchanged ad.f_law_exchanged cdv A outer s H E) (takes_of rfl rfl rfl rfl)
  have hpo : PassesOwn (model P w) (bodyCx P w K mg base ["_law_row_here", "_law_script", "_law_at", "_law_times", "_law_k", "_law_i", "_law_j", "_law_kept"] "_law_exchanged" s_law_exchanged ad.f_law_exchanged cdv A outer s H E).A (bodyCx P w K mg base ["_law_row_here", "_law_script", "_law_at", "_law_times", "_law_k", "_law_i", "_law_j", "_law_kept"] "_law_exchanged" s_law_exchanged ad.f_law_exchanged cdv A outer s H E).env (bodyCx P w K mg base ["_law_row_here", "_law_script", "_law_at", "_law_times", "_law_k", "_law_i", "_law_j", "_law_kept"] "_law_exchanged" s_law_exchanged ad.f_law_exchanged cdv A outer s H E).xe := passes_of rfl
  exact (xsscons (xfor hpo rfl (xrg1 (by rfl) T.z_range (xv 3)) (xgn 4 sc_law_exchanged.nd)
  (xsscons (xset (i := 5) sc_law_exchanged.nd (xmod (xcall tk (ok_law_cell T) (hr.mono (by decide)) (by rfl) T.G_law_cell T.F_law_cell.kp T.B_law_cell rfl (xacons (xv 1) (xacons (xadd (xv 2) (xmul xint (xv 4))) xanil)) (al_cons (al_cons al_nil))) (xlen (by rfl) T.z_len (xv 0))))
  (xsscons (xset (i := 6) sc_law_exchanged.nd (xmod (xcall tk (ok_law_cell T) (hr.mono (by decide)) (by rfl) T.G_law_cell T.F_law_cell.kp T.B_law_cell rfl (xacons (xv 1) (xacons (xadd (xadd (xv 2) (xmul xint (xv 4))) xint) xanil)) (al_cons (al_cons al_nil))) (xlen (by rfl) T.z_len (xv 0))))
  (xsscons (xset (i := 7) sc_law_exchanged.nd (xix (hu_of hr) (xv 0) (xv 5)))
  (xsscons (xsetIt 0 (hu_of hr) (xix (hu_of hr) (xv 0) (xv 6)) (xv 5) (pv 0))
  (xssone (xsetIt 0 (hu_of hr) (xv 7) (xv 6) (pv 0))))))))
  (xssone (xretv 0)))
theorem ok_law_sheet (T : Tx K mg ad) : FnOk P w K mg base (L2.CX P w) 3 ad.f_law_sheet ad.d_law_sheet ["_law_script", "_law_most"] (fsp K (cmOf mg) 2 f_law_sheet_6) := by
  refine fn_ok T.F_law_sheet sc_law_sheet (by decide) fun cdv A outer s H E hr => ?_
  have tk := tkOf (cm := cmOf mg) (X := bodyCx P w K mg base ["_law_script", "_law_most", "_law_cell_here", "_law_long", "_law_high", "_law_many", "_law_across", "_law_above"] "_law_sheet" s_law_sheet ad.f_law_sheet cdv A outer s H E) (takes_of rfl rfl rfl rfl)
  have hpo : PassesOwn (model P w) (bodyCx P w K mg base ["_law_script", "_law_most", "_law_cell_here", "_law_long", "_law_high", "_law_many", "_law_across", "_law_above"] "_law_sheet" s_law_sheet ad.f_law_sheet cdv A outer s H E).A (bodyCx P w K mg base ["_law_script", "_law_most", "_law_cell_here", "_law_long", "_law_high", "_law_many", "_law_across", "_law_above"] "_law_sheet" s_law_sheet ad.f_law_sheet cdv A outer s H E).env (bodyCx P w K mg base ["_law_script", "_law_most", "_law_cell_here", "_law_long", "_law_high", "_law_many", "_law_across", "_law_above"] "_law_sheet" s_law_sheet ad.f_law_sheet cdv A outer s H E).xe := passes_of rfl
  exact (xsscons (xset (i := 2) sc_law_sheet.nd (xcall tk (ok_law_cell T) (hr.mono (by decide)) (by rfl) T.G_law_cell T.F_law_cell.kp T.B_law_cell rfl (xacons (xv 0) (xacons xint xanil)) (al_cons (al_cons al_nil))))
  (xsscons (xifs (xteq hr.units (xmod (xv 2) xint) xint) (xsscons (xset (i := 5) sc_law_sheet.nd (xadd xint (xmod (xdiv (xv 2) xint) (xv 1))))
  (xfrz 5 (xssone (xret (xcall tk (ok_law_together T) (hr.mono (by decide)) (by rfl) T.G_law_together T.F_law_together.kp T.B_law_together rfl (xacons (xcall tk (ok_law_row T) (hr.mono (by decide)) (by rfl) T.G_law_row T.F_law_row.kp T.B_law_row rfl (xacons (xv 0) (xacons xint (xacons (xv 5) xanil))) (al_cons (al_cons (al_cons al_nil)))) (xacons (xcall tk (ok_law_row T) (hr.mono (by decide)) (by rfl) T.G_law_row T.F_law_row.kp T.B_law_row rfl (xacons (xv 0) (xacons (xadd xint (xv 5)) (xacons (xv 5) xanil))) (al_cons (al_cons (al_cons al_nil)))) xanil)) (al_cons (al_cons al_nil)))))))
  xssnil)
  (xsscons (xset (i := 3) sc_law_sheet.nd (xadd xint (xmod (xdiv (xv 2) xint) xint)))
  (xsscons (xset (i := 4) sc_law_sheet.nd (xadd xint (xmod (xdiv (xv 2) xint) (xdiv (xv 1) (xv 3)))))
  (xsscons (xasg unpP_ne (xcall tk (ok_law_torus T) (hr.mono (by decide)) (by rfl) T.G_law_torus T.F_law_torus.kp T.B_law_torus rfl (xacons (xv 3) (xacons (xv 4) (xacons (xmod (xcall tk (ok_law_cell T) (hr.mono (by decide)) (by rfl) T.G_law_cell T.F_law_cell.kp T.B_law_cell rfl (xacons (xv 0) (xacons xint xanil)) (al_cons (al_cons al_nil))) (xv 3)) xanil))) (al_cons (al_cons (al_cons al_nil)))) (xgPair rfl sc_law_sheet.nd (by decide)))
  (xfrz 6 (xssone (xretX tk (ok_law_together T) (hr.mono (by decide)) (by rfl) T.G_law_together T.F_law_together.kp T.B_law_together rfl (ok_law_exchanged T) (hr.mono (by decide)) (by rfl) T.G_law_exchanged T.F_law_exchanged.kp T.B_law_exchanged rfl (pv 6) (pv 7) (xacons (xv 0) (xacons xint (xacons (xmod (xdiv (xv 2) xint) xint) xanil))) (al_cons (al_cons (al_cons al_nil)))))))))))
theorem ok_size (T : Tx K mg ad) : FnOk P w K mg base (L2.CX P w) 1 ad.f_size ad.d_size ["sheet"] (fsp K (cmOf mg) 1 f_size) := by
  refine fn_ok T.F_size sc_size (by decide) fun cdv A outer s H E hr => ?_
  have tk := tkOf (cm := cmOf mg) (X := bodyCx P w K mg base ["sheet"] "size" s_size ad.f_size cdv A outer s H E) (takes_of rfl rfl rfl rfl)
  have hpo : PassesOwn (model P w) (bodyCx P w K mg base ["sheet"] "size" s_size ad.f_size cdv A outer s H E).A (bodyCx P w K mg base ["sheet"] "size" s_size ad.f_size cdv A outer s H E).env (bodyCx P w K mg base ["sheet"] "size" s_size ad.f_size cdv A outer s H E).xe := passes_of rfl
  exact (xssone (xret (xlen (by rfl) T.z_len (xix (hu_of hr) (xv 0) xint))))
theorem ok_rows (T : Tx K mg ad) : FnOk P w K mg base (L2.CX P w) 2 ad.f_rows ad.d_rows ["sheet"] (fsp K (cmOf mg) 1 f_rows) := by
  refine fn_ok T.F_rows sc_rows (by decide) fun cdv A outer s H E hr => ?_
  have tk := tkOf (cm := cmOf mg) (X := bodyCx P w K mg base ["sheet", "right", "have", "found", "first", "row", "square"] "rows" s_rows ad.f_rows cdv A outer s H E) (takes_of rfl rfl rfl rfl)
  have hpo : PassesOwn (model P w) (bodyCx P w K mg base ["sheet", "right", "have", "found", "first", "row", "square"] "rows" s_rows ad.f_rows cdv A outer s H E).A (bodyCx P w K mg base ["sheet", "right", "have", "found", "first", "row", "square"] "rows" s_rows ad.f_rows cdv A outer s H E).env (bodyCx P w K mg base ["sheet", "right", "have", "found", "first", "row", "square"] "rows" s_rows ad.f_rows cdv A outer s H E).xe := passes_of rfl
  exact (xsscons (xset (i := 1) sc_rows.nd (xix (hu_of hr) (xv 0) xint))
  (xsscons (xset (i := 2) sc_rows.nd xdnew)
  (xsscons (xset (i := 3) sc_rows.nd (xlst xanil))
  (xsscons (xfor hpo rfl (xrg1 (by rfl) T.z_range (xcall tk (ok_size T) (hr.mono (by decide)) (by rfl) T.G_size T.F_size.kp T.B_size rfl (xacons (xv 0) xanil) (al_cons al_nil))) (xgn 4 sc_rows.nd)
  (xssone (xifs (xtnotin (hu_of hr) (xv 4) (xv 2)) (xsscons (xset (i := 5) sc_rows.nd (xlst (xacons (xv 4) xanil)))
  (xsscons (xwhile hpo (xtne hr.units (xix (hu_of hr) (xv 1) (xix (hu_of hr) (xv 5) (xneg xint))) (xv 4)) (xssone (xapp 5 (pe_bm PySem.F.plainAttrs_list PySem.F.slot_list_append PySem.F.type_list_append mt_append (pv 5) (pa_cons (xix (hu_of hr) (xv 1) (xix (hu_of hr) (xv 5) (xneg xint))) pa_nil)))))
  (xfrz 5 (xsscons (xfor hpo rfl (xiS (xv 5)) (xgn 6 sc_rows.nd)
  (xssone (xsetIt 2 (hu_of hr) xbl (xv 6) (pv 2))))
  (xfrz 5 (xssone (xapp 3 (pe_bm PySem.F.plainAttrs_list PySem.F.slot_list_append PySem.F.type_list_append mt_append (pv 3) (pa_cons (xv 5) pa_nil)))))))))
  xssnil)))
  (xssone (xretv 3))))))
theorem ok_rows_y (T : Tx K mg ad) : FnOk P w K mg base (L2.CX P w) 2 ad.f_rows ad.d_rows ["sheet"] (fsp K (cmOf mg) 1 f_rows_y) := by
  refine fn_ok T.F_rows sc_rows (by decide) fun cdv A outer s H E hr => ?_
  have tk := tkOf (cm := cmOf mg) (X := bodyCx P w K mg base ["sheet", "right", "have", "found", "first", "row", "square"] "rows" s_rows ad.f_rows cdv A outer s H E) (takes_of rfl rfl rfl rfl)
  have hpo : PassesOwn (model P w) (bodyCx P w K mg base ["sheet", "right", "have", "found", "first", "row", "square"] "rows" s_rows ad.f_rows cdv A outer s H E).A (bodyCx P w K mg base ["sheet", "right", "have", "found", "first", "row", "square"] "rows" s_rows ad.f_rows cdv A outer s H E).env (bodyCx P w K mg base ["sheet", "right", "have", "found", "first", "row", "square"] "rows" s_rows ad.f_rows cdv A outer s H E).xe := passes_of rfl
  exact (xsscons (xset (i := 1) sc_rows.nd (xix (hu_of hr) (xv 0) xint))
  (xsscons (xset (i := 2) sc_rows.nd xdnew)
  (xsscons (xset (i := 3) sc_rows.nd (xlst xanil))
  (xsscons (xfor hpo rfl (xrg1 (by rfl) T.z_range (xcall tk (ok_size T) (hr.mono (by decide)) (by rfl) T.G_size T.F_size.kp T.B_size rfl (xacons (xv 0) xanil) (al_cons al_nil))) (xgn 4 sc_rows.nd)
  (xssone (xifs (xtnotin (hu_of hr) (xv 4) (xv 2)) (xsscons (xset (i := 5) sc_rows.nd (xlst (xacons (xv 4) xanil)))
  (xsscons (xwhile hpo (xtne hr.units (xix (hu_of hr) (xv 1) (xix (hu_of hr) (xv 5) (xneg xint))) (xv 4)) (xssone (xapp 5 (pe_bm PySem.F.plainAttrs_list PySem.F.slot_list_append PySem.F.type_list_append mt_append (pv 5) (pa_cons (xix (hu_of hr) (xv 1) (xix (hu_of hr) (xv 5) (xneg xint))) pa_nil)))))
  (xeS 5 (xsscons (xfor hpo rfl (xiS (xv 5)) (xgn 6 sc_rows.nd)
  (xssone (xsetIt 2 (hu_of hr) xbl (xv 6) (pv 2))))
  (xssone (xappY 3 5 (pe_bm PySem.F.plainAttrs_list PySem.F.slot_list_append PySem.F.type_list_append mt_append (pv 3) (pa_cons (pv 5) pa_nil))))))))
  xssnil)))
  (xssone (xretv 3))))))
theorem ok_law_whole (T : Tx K mg ad) : FnOk P w K mg base (L2.CX P w) 1 ad.f_law_whole ad.d_law_whole ["_law_found"] (fsp K (cmOf mg) 1 f_law_whole) := by
  refine fn_ok T.F_law_whole sc_law_whole (by decide) fun cdv A outer s H E hr => ?_
  have tk := tkOf (cm := cmOf mg) (X := bodyCx P w K mg base ["_law_found"] "_law_whole" s_law_whole ad.f_law_whole cdv A outer s H E) (takes_of rfl rfl rfl rfl)
  have hpo : PassesOwn (model P w) (bodyCx P w K mg base ["_law_found"] "_law_whole" s_law_whole ad.f_law_whole cdv A outer s H E).A (bodyCx P w K mg base ["_law_found"] "_law_whole" s_law_whole ad.f_law_whole cdv A outer s H E).env (bodyCx P w K mg base ["_law_found"] "_law_whole" s_law_whole ad.f_law_whole cdv A outer s H E).xe := passes_of rfl
  exact (xssone (xret (xand (xisi (x := "int") (by rfl) T.z_isinstance (xv 0) (by rfl) T.z_int (by decide +kernel)) (xone (xnot (xisi (x := "bool") (by rfl) T.z_isinstance (xv 0) (by rfl) T.z_bool (by decide +kernel)))))))
theorem ok_law (T : Tx K mg ad) : FnOk P w K mg base (L2.CX P w) 4 ad.f_law ad.d_law ["_law_script"] (fsp K (cmOf mg) 1 f_law_k41_rows_of_squares) := by
  refine fn_ok T.F_law sc_law (by decide) fun cdv A outer s H E hr => ?_
  have tk := tkOf (cm := cmOf mg) (X := bodyCx P w K mg base ["_law_script", "_law_sheet_here", "_law_found", "_law_every", "_law_row_here", "_law_kept", "_law_k", "_law_one"] "law" s_law ad.f_law cdv A outer s H E) (takes_of rfl rfl rfl rfl)
  have hpo : PassesOwn (model P w) (bodyCx P w K mg base ["_law_script", "_law_sheet_here", "_law_found", "_law_every", "_law_row_here", "_law_kept", "_law_k", "_law_one"] "law" s_law ad.f_law cdv A outer s H E).A (bodyCx P w K mg base ["_law_script", "_law_sheet_here", "_law_found", "_law_every", "_law_row_here", "_law_kept", "_law_k", "_law_one"] "law" s_law ad.f_law cdv A outer s H E).env (bodyCx P w K mg base ["_law_script", "_law_sheet_here", "_law_found", "_law_every", "_law_row_here", "_law_kept", "_law_k", "_law_one"] "law" s_law ad.f_law cdv A outer s H E).xe := passes_of rfl
  exact (xsscons (xset (i := 1) sc_law.nd (xcall tk (ok_law_sheet T) (hr.mono (by decide)) (by rfl) T.G_law_sheet T.F_law_sheet.kp T.B_law_sheet rfl (xacons (xv 0) (xacons xint xanil)) (al_cons (al_cons al_nil))))
  (xscope 2 tk (ok_rows_y T) (hr.mono (by decide)) (by rfl) T.G_rows T.F_rows.kp T.B_rows rfl (xacons (xv 1) xanil) (al_cons al_nil) sc_law.nd (fun l => (xthenZ (xifs (xtnot (xtval (xisi (x := "list") (by rfl) T.z_isinstance (xv 2) (by rfl) T.z_list (by decide +kernel)))) (xssone (xret xbl))
  xssnil)
  (xthenZ (xset (i := 3) sc_law.nd (xlst xanil))
  (xthenZ (xfor hpo rfl (xiS (xv 2)) (xgn 4 sc_law.nd)
  (xsscons (xifs (PW.pt (xwor (xtnot (xtval (xisi (x := "list") (by rfl) T.z_isinstance (xv 4) (by rfl) T.z_list (by decide +kernel)))) (xwor (xteq hr.units (xlen (by rfl) T.z_len (xv 4)) xint) (xwor1 (xtnot (xtval (xall rfl (by rfl) T.z_all (xlc (own := [("_law_one", 7)]) rfl sc_law.nd asgn_ne (xiC (xv 4)) (blkOk_by (own := [("_law_one", 7)]) (N := ["_law_script", "_law_sheet_here", "_law_found", "_law_every", "_law_row_here", "_law_kept", "_law_k", "_law_one"]) (sc := defScope s_law) (by decide +kernel)) (fun _ _ _ _ _ => (xgn 7 sc_law.nd)) (fun _ _ _ _ _ => xyes) (fun _ _ _ _ _ => (xcall tkN (ok_law_whole T) (hr.mono (by decide)) (by rfl) T.G_law_whole T.F_law_whole.kp T.B_law_whole rfl (xacons (xv 7) xanil) (al_cons al_nil))))))))))) (xssone (xret xbl))
  xssnil)
  (xsscons (xifs (xtne hr.units (xmin1 rfl (by rfl) T.z_min (xv 4)) (xix (hu_of hr) (xv 4) xint)) (xssone (xret xbl))
  xssnil)
  (xsscons (xfor hpo rfl (xrg1 (by rfl) T.z_range (xlen (by rfl) T.z_len (xv 4))) (xgn 6 sc_law.nd)
  (xssone (xifs (xtne hr.units (xix (hu_of hr) (xix (hu_of hr) (xv 1) xint) (xix (hu_of hr) (xv 4) (xsub (xv 6) xint))) (xix (hu_of hr) (xv 4) (xv 6))) (xssone (xret xbl))
  xssnil)))
  (xssone (xextF 3 (pe_bm PySem.F.plainAttrs_list PySem.F.slot_list_extend PySem.F.type_list_extend mt_extA (pv 3) (pa_cons (xv 4) pa_nil))))))))
  (xthenZ (xifs (PW.pt (xwor (xtne hr.units (xsorted (by rfl) T.z_sorted (xv 3)) (xlrg1 rfl (by rfl) T.z_list (by rfl) T.z_range (xlen (by rfl) T.z_len (xix (hu_of hr) (xv 1) xint)))) (xwor1 (xtne hr.units (xv 2) (xsortedF (hu2_of hr) (by rfl) T.z_sorted (xv 2)))))) (xssone (xret xbl))
  xssnil)
  (xthenZ (xsetLc (own := [("_law_row_here", 4)]) (i := 5) rfl sc_law.nd asgn_ne (xiC (xv 2)) (blkOk_by (own := [("_law_row_here", 4)]) (N := ["_law_script", "_law_sheet_here", "_law_found", "_law_every", "_law_row_here", "_law_kept", "_law_k", "_law_one"]) (sc := defScope s_law) (by decide +kernel)) (fun _ _ _ _ _ => (xgn 4 sc_law.nd)) (fun _ _ _ _ _ => xyes) (fun _ _ _ _ _ => (xlistOf (by rfl) T.z_list (xv 4))) (sw_true rfl rfl rfl (by decide +kernel)))
  (xendZ 2 (pe_bm PySem.F.plainAttrs_list PySem.F.slot_list_append PySem.F.type_list_append mt_append (pe_ix ix_seq (pv 2) pe_int (fun _ _ => rfl)) (pa_cons pe_int pa_nil)) (mutApp 2 (pe_bm PySem.F.plainAttrs_list PySem.F.slot_list_append PySem.F.type_list_append mt_append (pv 2) (pa_cons (pe_lst pa_nil) pa_nil))) (xfrz 1 (xfrz 5 (xssone (xret (xeq hr.units (xcall tk (ok_rows T) (hr.mono (by decide)) (by rfl) T.G_rows T.F_rows.kp T.B_rows rfl (xacons (xv 1) xanil) (al_cons al_nil)) (xv 5)))))))))))))))
end
theorem all_mk {l : PySem.W.OpenLaw} {w : World} {K : PySem.W.Frag} {h : Heap} {mg : Str → Option Value} {fa f_law_cell f_law_together f_law_row f_law_torus f_law_exchanged f_law_sheet f_size f_rows f_law_whole f_law : Addr} (X : K.In h) (G : h.Ns mainGlobals mg) (hfa : mg "law" = some (.ref fa))
    {od_law_cell an_law_cell od_law_together an_law_together od_law_row an_law_row od_law_torus an_law_torus od_law_exchanged an_law_exchanged od_law_sheet an_law_sheet od_size an_size od_rows an_rows od_law_whole an_law_whole od_law an_law : Option Addr} {sl_law_cell sl_law_together sl_law_row sl_law_torus sl_law_exchanged sl_law_sheet sl_size sl_rows sl_law_whole sl_law : Array (Option Value)} {oc_law_cell kV_law_cell dc_law_cell pm_law_cell cd_law_cell ct_law_cell oc_law_together kV_law_together dc_law_together pm_law_together cd_law_together ct_law_together oc_law_row kV_law_row dc_law_row pm_law_row cd_law_row ct_law_row oc_law_torus kV_law_torus dc_law_torus pm_law_torus cd_law_torus ct_law_torus oc_law_exchanged kV_law_exchanged dc_law_exchanged pm_law_exchanged cd_law_exchanged ct_law_exchanged oc_law_sheet kV_law_sheet dc_law_sheet pm_law_sheet cd_law_sheet ct_law_sheet oc_size kV_size dc_size pm_size cd_size ct_size oc_rows kV_rows dc_rows pm_rows cd_rows ct_rows oc_law_whole kV_law_whole dc_law_whole pm_law_whole cd_law_whole ct_law_whole oc_law kV_law dc_law pm_law cd_law ct_law : Value}
    (a_law_cell : PySem.W.nsIn K mainGlobals "_law_cell" = some (some (.ref f_law_cell))) (l_law_cell : K.lookup f_law_cell = some ⟨oc_law_cell, od_law_cell, .func (PySem.W.fnOf "_law_cell" "_law_cell" (defArgs s_law_cell) (defBody s_law_cell) (defScope s_law_cell) .none kV_law_cell dc_law_cell pm_law_cell an_law_cell cd_law_cell ct_law_cell), sl_law_cell⟩) (c_law_cell : PySem.W.codeIn K cd_law_cell "_law_cell" = true) (k_law_cell : PySem.W.keepIn K (.ref f_law_cell) = true)
    (a_law_together : PySem.W.nsIn K mainGlobals "_law_together" = some (some (.ref f_law_together))) (l_law_together : K.lookup f_law_together = some ⟨oc_law_together, od_law_together, .func (PySem.W.fnOf "_law_together" "_law_together" (defArgs s_law_together) (defBody s_law_together) (defScope s_law_together) .none kV_law_together dc_law_together pm_law_together an_law_together cd_law_together ct_law_together), sl_law_together⟩) (c_law_together : PySem.W.codeIn K cd_law_together "_law_together" = true) (k_law_together : PySem.W.keepIn K (.ref f_law_together) = true)
    (a_law_row : PySem.W.nsIn K mainGlobals "_law_row" = some (some (.ref f_law_row))) (l_law_row : K.lookup f_law_row = some ⟨oc_law_row, od_law_row, .func (PySem.W.fnOf "_law_row" "_law_row" (defArgs s_law_row) (defBody s_law_row) (defScope s_law_row) .none kV_law_row dc_law_row pm_law_row an_law_row cd_law_row ct_law_row), sl_law_row⟩) (c_law_row : PySem.W.codeIn K cd_law_row "_law_row" = true) (k_law_row : PySem.W.keepIn K (.ref f_law_row) = true)
    (a_law_torus : PySem.W.nsIn K mainGlobals "_law_torus" = some (some (.ref f_law_torus))) (l_law_torus : K.lookup f_law_torus = some ⟨oc_law_torus, od_law_torus, .func (PySem.W.fnOf "_law_torus" "_law_torus" (defArgs s_law_torus) (defBody s_law_torus) (defScope s_law_torus) .none kV_law_torus dc_law_torus pm_law_torus an_law_torus cd_law_torus ct_law_torus), sl_law_torus⟩) (c_law_torus : PySem.W.codeIn K cd_law_torus "_law_torus" = true) (k_law_torus : PySem.W.keepIn K (.ref f_law_torus) = true)
    (a_law_exchanged : PySem.W.nsIn K mainGlobals "_law_exchanged" = some (some (.ref f_law_exchanged))) (l_law_exchanged : K.lookup f_law_exchanged = some ⟨oc_law_exchanged, od_law_exchanged, .func (PySem.W.fnOf "_law_exchanged" "_law_exchanged" (defArgs s_law_exchanged) (defBody s_law_exchanged) (defScope s_law_exchanged) .none kV_law_exchanged dc_law_exchanged pm_law_exchanged an_law_exchanged cd_law_exchanged ct_law_exchanged), sl_law_exchanged⟩) (c_law_exchanged : PySem.W.codeIn K cd_law_exchanged "_law_exchanged" = true) (k_law_exchanged : PySem.W.keepIn K (.ref f_law_exchanged) = true)
    (a_law_sheet : PySem.W.nsIn K mainGlobals "_law_sheet" = some (some (.ref f_law_sheet))) (l_law_sheet : K.lookup f_law_sheet = some ⟨oc_law_sheet, od_law_sheet, .func (PySem.W.fnOf "_law_sheet" "_law_sheet" (defArgs s_law_sheet) (defBody s_law_sheet) (defScope s_law_sheet) .none kV_law_sheet dc_law_sheet pm_law_sheet an_law_sheet cd_law_sheet ct_law_sheet), sl_law_sheet⟩) (c_law_sheet : PySem.W.codeIn K cd_law_sheet "_law_sheet" = true) (k_law_sheet : PySem.W.keepIn K (.ref f_law_sheet) = true)
    (a_size : PySem.W.nsIn K mainGlobals "size" = some (some (.ref f_size))) (l_size : K.lookup f_size = some ⟨oc_size, od_size, .func (PySem.W.fnOf "size" "size" (defArgs s_size) (defBody s_size) (defScope s_size) .none kV_size dc_size pm_size an_size cd_size ct_size), sl_size⟩) (c_size : PySem.W.codeIn K cd_size "size" = true) (k_size : PySem.W.keepIn K (.ref f_size) = true)
    (a_rows : PySem.W.nsIn K mainGlobals "rows" = some (some (.ref f_rows))) (l_rows : K.lookup f_rows = some ⟨oc_rows, od_rows, .func (PySem.W.fnOf "rows" "rows" (defArgs s_rows) (defBody s_rows) (defScope s_rows) .none kV_rows dc_rows pm_rows an_rows cd_rows ct_rows), sl_rows⟩) (c_rows : PySem.W.codeIn K cd_rows "rows" = true) (k_rows : PySem.W.keepIn K (.ref f_rows) = true)
    (a_law_whole : PySem.W.nsIn K mainGlobals "_law_whole" = some (some (.ref f_law_whole))) (l_law_whole : K.lookup f_law_whole = some ⟨oc_law_whole, od_law_whole, .func (PySem.W.fnOf "_law_whole" "_law_whole" (defArgs s_law_whole) (defBody s_law_whole) (defScope s_law_whole) .none kV_law_whole dc_law_whole pm_law_whole an_law_whole cd_law_whole ct_law_whole), sl_law_whole⟩) (c_law_whole : PySem.W.codeIn K cd_law_whole "_law_whole" = true) (k_law_whole : PySem.W.keepIn K (.ref f_law_whole) = true)
    (a_law : PySem.W.nsIn K mainGlobals "law" = some (some (.ref f_law))) (l_law : K.lookup f_law = some ⟨oc_law, od_law, .func (PySem.W.fnOf "law" "law" (defArgs s_law) (defBody s_law) (defScope s_law) .none kV_law dc_law pm_law an_law cd_law ct_law), sl_law⟩) (c_law : PySem.W.codeIn K cd_law "law" = true) (k_law : PySem.W.keepIn K (.ref f_law) = true)
    (z_len : PySem.W.nsIn K mainGlobals "len" = some none)
    (z_sorted : PySem.W.nsIn K mainGlobals "sorted" = some none)
    (z_tuple : PySem.W.nsIn K mainGlobals "tuple" = some none)
    (z_list : PySem.W.nsIn K mainGlobals "list" = some none)
    (z_range : PySem.W.nsIn K mainGlobals "range" = some none)
    (z_int : PySem.W.nsIn K mainGlobals "int" = some none)
    (z_isinstance : PySem.W.nsIn K mainGlobals "isinstance" = some none)
    (z_bool : PySem.W.nsIn K mainGlobals "bool" = some none)
    (z_all : PySem.W.nsIn K mainGlobals "all" = some none)
    (z_min : PySem.W.nsIn K mainGlobals "min" = some none)
    : ∃ fd : FuncData, (∀ (s : Shared) (v : Value), BindsTo s fd ⟨[v], []⟩ [("_law_script", v)]) ∧ ∀ base : Heap, K.In base → base.Ns mainGlobals mg → FnOk l.prog w K mg base (L2.CX l.prog w) 4 fa fd ["_law_script"] (lawSp K) := by
  have e := hfa.symm.trans (PySem.W.mg_of X G a_law)
  cases e
  have F_law_cell := fun_mk (st := s_law_cell) l_law_cell c_law_cell k_law_cell
  have b_law_cell := F_law_cell.binds (ps := ["_law_script", "_law_k"]) fun _ _ _ _ _ _ us hl => match us, hl with | [_, _], _ => rfl
  have F_law_together := fun_mk (st := s_law_together) l_law_together c_law_together k_law_together
  have b_law_together := F_law_together.binds (ps := ["_law_first", "_law_second"]) fun _ _ _ _ _ _ us hl => match us, hl with | [_, _], _ => rfl
  have F_law_row := fun_mk (st := s_law_row) l_law_row c_law_row k_law_row
  have b_law_row := F_law_row.binds (ps := ["_law_script", "_law_at", "_law_many"]) fun _ _ _ _ _ _ us hl => match us, hl with | [_, _, _], _ => rfl
  have F_law_torus := fun_mk (st := s_law_torus) l_law_torus c_law_torus k_law_torus
  have b_law_torus := F_law_torus.binds (ps := ["_law_long", "_law_high", "_law_shift"]) fun _ _ _ _ _ _ us hl => match us, hl with | [_, _, _], _ => rfl
  have F_law_exchanged := fun_mk (st := s_law_exchanged) l_law_exchanged c_law_exchanged k_law_exchanged
  have b_law_exchanged := F_law_exchanged.binds (ps := ["_law_row_here", "_law_script", "_law_at", "_law_times"]) fun _ _ _ _ _ _ us hl => match us, hl with | [_, _, _, _], _ => rfl
  have F_law_sheet := fun_mk (st := s_law_sheet) l_law_sheet c_law_sheet k_law_sheet
  have b_law_sheet := F_law_sheet.binds (ps := ["_law_script", "_law_most"]) fun _ _ _ _ _ _ us hl => match us, hl with | [_, _], _ => rfl
  have F_size := fun_mk (st := s_size) l_size c_size k_size
  have b_size := F_size.binds (ps := ["sheet"]) fun _ _ _ _ _ _ us hl => match us, hl with | [_], _ => rfl
  have F_rows := fun_mk (st := s_rows) l_rows c_rows k_rows
  have b_rows := F_rows.binds (ps := ["sheet"]) fun _ _ _ _ _ _ us hl => match us, hl with | [_], _ => rfl
  have F_law_whole := fun_mk (st := s_law_whole) l_law_whole c_law_whole k_law_whole
  have b_law_whole := F_law_whole.binds (ps := ["_law_found"]) fun _ _ _ _ _ _ us hl => match us, hl with | [_], _ => rfl
  have F_law := fun_mk (st := s_law) l_law c_law k_law
  have T : Tx K mg ⟨f_law_cell, PySem.W.fnOf "_law_cell" "_law_cell" (defArgs s_law_cell) (defBody s_law_cell) (defScope s_law_cell) .none kV_law_cell dc_law_cell pm_law_cell an_law_cell cd_law_cell ct_law_cell, f_law_together, PySem.W.fnOf "_law_together" "_law_together" (defArgs s_law_together) (defBody s_law_together) (defScope s_law_together) .none kV_law_together dc_law_together pm_law_together an_law_together cd_law_together ct_law_together, f_law_row, PySem.W.fnOf "_law_row" "_law_row" (defArgs s_law_row) (defBody s_law_row) (defScope s_law_row) .none kV_law_row dc_law_row pm_law_row an_law_row cd_law_row ct_law_row, f_law_torus, PySem.W.fnOf "_law_torus" "_law_torus" (defArgs s_law_torus) (defBody s_law_torus) (defScope s_law_torus) .none kV_law_torus dc_law_torus pm_law_torus an_law_torus cd_law_torus ct_law_torus, f_law_exchanged, PySem.W.fnOf "_law_exchanged" "_law_exchanged" (defArgs s_law_exchanged) (defBody s_law_exchanged) (defScope s_law_exchanged) .none kV_law_exchanged dc_law_exchanged pm_law_exchanged an_law_exchanged cd_law_exchanged ct_law_exchanged, f_law_sheet, PySem.W.fnOf "_law_sheet" "_law_sheet" (defArgs s_law_sheet) (defBody s_law_sheet) (defScope s_law_sheet) .none kV_law_sheet dc_law_sheet pm_law_sheet an_law_sheet cd_law_sheet ct_law_sheet, f_size, PySem.W.fnOf "size" "size" (defArgs s_size) (defBody s_size) (defScope s_size) .none kV_size dc_size pm_size an_size cd_size ct_size, f_rows, PySem.W.fnOf "rows" "rows" (defArgs s_rows) (defBody s_rows) (defScope s_rows) .none kV_rows dc_rows pm_rows an_rows cd_rows ct_rows, f_law_whole, PySem.W.fnOf "_law_whole" "_law_whole" (defArgs s_law_whole) (defBody s_law_whole) (defScope s_law_whole) .none kV_law_whole dc_law_whole pm_law_whole an_law_whole cd_law_whole ct_law_whole, fa, PySem.W.fnOf "law" "law" (defArgs s_law) (defBody s_law) (defScope s_law) .none kV_law dc_law pm_law an_law cd_law ct_law⟩ := ⟨F_law_cell, b_law_cell, PySem.W.mg_of X G a_law_cell, F_law_together, b_law_together, PySem.W.mg_of X G a_law_together, F_law_row, b_law_row, PySem.W.mg_of X G a_law_row, F_law_torus, b_law_torus, PySem.W.mg_of X G a_law_torus, F_law_exchanged, b_law_exchanged, PySem.W.mg_of X G a_law_exchanged, F_law_sheet, b_law_sheet, PySem.W.mg_of X G a_law_sheet, F_size, b_size, PySem.W.mg_of X G a_size, F_rows, b_rows, PySem.W.mg_of X G a_rows, F_law_whole, b_law_whole, PySem.W.mg_of X G a_law_whole, F_law, PySem.W.mg_none_of X G z_len, PySem.W.mg_none_of X G z_sorted, PySem.W.mg_none_of X G z_tuple, PySem.W.mg_none_of X G z_list, PySem.W.mg_none_of X G z_range, PySem.W.mg_none_of X G z_int, PySem.W.mg_none_of X G z_isinstance, PySem.W.mg_none_of X G z_bool, PySem.W.mg_none_of X G z_all, PySem.W.mg_none_of X G z_min⟩
  exact ⟨_, fun s v => .of_eq rfl, fun base _ _ => (ok_law T).imp (lawSp_imp law_true)⟩
end Lw
open PySem PySem.W PyProof.Rows
set_option maxHeartbeats 0 in
theorem PySem.Challenge.cw_squaresheet_k41_rows_of_squares_holds : PySem.Challenge.rw_squaresheet_k41_rows_of_squares.Holds := by
  w_on; o_law; k_head; (case hw => w_witness2)
  k_fill
  refine L2.walk_of (l := PySem.Challenge.rw_squaresheet_k41_rows_of_squares) (n := 63) (k := 4) (x := "_law_script") (CX := fun w => L2.CX PySem.Challenge.rw_squaresheet_k41_rows_of_squares.prog w) (sp := fun w => Sq.lawSp _) rfl (by decide) rfl ⟨rfl, by decide, by decide⟩ (fun w h Y => PySem.W.kIn_of Y) ?F (fun _ H a ns hl _ hS => Sq.law_sp H a ns hl hS) (fun _ _ _ _ _ h => Sq.cx_none h)
  case F =>
    intro w mg fa h KX G hmg
    refine' Lw.all_mk KX G hmg ?a_law_cell ?l_law_cell ?c_law_cell ?k_law_cell ?a_law_together ?l_law_together ?c_law_together ?k_law_together ?a_law_row ?l_law_row ?c_law_row ?k_law_row ?a_law_torus ?l_law_torus ?c_law_torus ?k_law_torus ?a_law_exchanged ?l_law_exchanged ?c_law_exchanged ?k_law_exchanged ?a_law_sheet ?l_law_sheet ?c_law_sheet ?k_law_sheet ?a_size ?l_size ?c_size ?k_size ?a_rows ?l_rows ?c_rows ?k_rows ?a_law_whole ?l_law_whole ?c_law_whole ?k_law_whole ?a_law ?l_law ?c_law ?k_law ?z_len ?z_sorted ?z_tuple ?z_list ?z_range ?z_int ?z_isinstance ?z_bool ?z_all ?z_min
    (case a_law_cell => k_is)
    (case l_law_cell => k_is)
    (case c_law_cell => k_is)
    (case k_law_cell => k_is)
    (case a_law_together => k_is)
    (case l_law_together => k_is)
    (case c_law_together => k_is)
    (case k_law_together => k_is)
    (case a_law_row => k_is)
    (case l_law_row => k_is)
    (case c_law_row => k_is)
    (case k_law_row => k_is)
    (case a_law_torus => k_is)
    (case l_law_torus => k_is)
    (case c_law_torus => k_is)
    (case k_law_torus => k_is)
    (case a_law_exchanged => k_is)
    (case l_law_exchanged => k_is)
    (case c_law_exchanged => k_is)
    (case k_law_exchanged => k_is)
    (case a_law_sheet => k_is)
    (case l_law_sheet => k_is)
    (case c_law_sheet => k_is)
    (case k_law_sheet => k_is)
    (case a_size => k_is)
    (case l_size => k_is)
    (case c_size => k_is)
    (case k_size => k_is)
    (case a_rows => k_is)
    (case l_rows => k_is)
    (case c_rows => k_is)
    (case k_rows => k_is)
    (case a_law_whole => k_is)
    (case l_law_whole => k_is)
    (case c_law_whole => k_is)
    (case k_law_whole => k_is)
    (case a_law => k_is)
    (case l_law => k_is)
    (case c_law => k_is)
    (case k_law => k_is)
    (case z_len => k_is)
    (case z_sorted => k_is)
    (case z_tuple => k_is)
    (case z_list => k_is)
    (case z_range => k_is)
    (case z_int => k_is)
    (case z_isinstance => k_is)
    (case z_bool => k_is)
    (case z_all => k_is)
    (case z_min => k_is)

