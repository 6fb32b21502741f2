import PyProof.Rows.All
import Wide.All
import OpenK.AllK
import Wide.FinOn
import KE.KDictPairs
import HandS.ForMost
import HandS.IsInst
import HandS.Deep
import HandS.DictComp
import HandS.Zip
import HandS.TupAny
import HandS.TupMul
import HandS.Flow
import HandS.Style
import HandS.Wide
import HandS.Defaults
import HandS.EndBits
import PyProof.DictUpdate
import HandS.CallLocal
import HandS.ClsMeth
import HandS.More
import HandS.Set
import HandS.SetFor
import HandS.Strs
import KE.KDictList
import HandS.Sort
import HandS.SortRule
import KE.KRevSl
import HandS.TryOnly
import HandS.WordsExc
import HandS.ExcOwn
import PyProof.ExcBaseAll.ValueError
import HandS.DictTup
import PyProof.ReprRoads
import PyProof.P3Eq
import PySem.Challenge.RW_blamekeep_k75_whole_records_that_are_cas
set_option Elab.async false
set_option linter.all false
set_option maxRecDepth 100000
/-! DV0: tuples whose objects have no dict: what makes a tuple, shown with that. -/
namespace L2
open PySem PySem.Spec PyProof.Rows
/-- a tuple, its object has no dict -/
def SqZ (K : PySem.W.Frag) (H : Hp) (a : Addr) (xs : List V) : Prop :=
  (∃ o, H a = some (.frz o (.tup xs)) ∧ o.dict = none) ∨
    ∃ (o : Obj) (its : Array Value) (n : Nat), K.lookup a = some o ∧ o.cls = .type "tuple" ∧ o.dict = none ∧ o.data = .seq its n ∧ its.size ≤ sizeLine ∧ Vals xs its.toList
theorem SqZ.T {K : PySem.W.Frag} {H : Hp} {a : Addr} {xs : List V} (h : SqZ K H a xs) : SqT K H a xs := by
  rcases h with ⟨o, h, _⟩ | ⟨o, its, n, hk, hc, _, hd, hz, r⟩
  · exact .inl (.inr ⟨o, h⟩)
  · exact .inr ⟨o, its, n, hk, hc, hd, hz, r⟩
instance {K : PySem.W.Frag} {H : Hp} {a : Addr} {xs : List V} : Coe (SqZ K H a xs) (SqT K H a xs) := ⟨SqZ.T⟩
theorem SqZ.of {K : PySem.W.Frag} {H : Hp} {a : Addr} {xs : List V} {o : Obj} (h : H a = some (.frz o (.tup xs))) (hd : o.dict = none) : SqZ K H a xs := .inl ⟨o, h, hd⟩
theorem Inv.tupleZ {X : Cx} {pins : List (Addr × Obj)} {σ : St} {H : Hp} {s : Shared} {a : Addr} {xs : List V} (I : Inv X pins σ H s) (h : SqZ X.K H a xs) : ∃ its : List Value, Vals xs its ∧ PlainSeq "tuple" s.heap a its.toArray ∧ xs.length ≤ sizeLine := by
  rcases h with ⟨o, h, hd⟩ | ⟨o, its, n, hk, hc, hdd, hd, hz, r⟩
  · obtain ⟨e, z, its, r, o', e', c, n, d⟩ := I.hok a _ h
    rw [e] at e'; cases e'
    exact ⟨its, r, ⟨o, n, e, c, hd, d⟩, z⟩
  · refine ⟨its.toList, r, ⟨o, n, I.kIn a o hk, hc, hdd, by simpa using hd⟩, ?_⟩
    have e := r.length
    simp only [Array.length_toList] at e
    omega
/-- a new tuple of these items -/
def NewZ (xs : List V) (H : Hp) (Q : VK) : Prop := ∀ p ob, ob.dict = none → H p = none → Q (.ref p) (upd H p (.frz ob (.tup xs)))
theorem newZ_ok {P : Program} {w : World} {H : Hp} {h : Heap} {a : Addr} {xs : List V} {its : List Value} {ob : Obj} {n : Nat} (z : xs.length ≤ sizeLine) (r : Vals xs its) (e : h.get? a = some ob) (hc : ob.cls = .type "tuple") (hd : ob.data = .seq its.toArray n) : ObjOk P w H h a (.frz ob (.tup xs)) :=
  ⟨e, z, its, r, ob, e, hc, n, hd⟩

def tTupZ (t : TA) : TE := fun σ H Q => t σ H fun xs H1 => xs.length ≤ sizeLine ∧ NewZ xs H1 Q
section
variable {X : Cx} {e : Expr} {es : List Expr} {te : TE} {t : TA} {pos : Pos}
theorem pe_tupZ {x1} (h : PA X es t) : PE X (.Tuple es x1 pos) (tTupZ t) := by
  refine ⟨fun pins s σ H Q I hq => ?_⟩
  refine wpAny_Tuple_spliced (thn (h.run pos pins s σ H _ I hq) fun us s1 ⟨xs, H1, I1, r, z, q⟩ => ⟨by rw [← r.length]; exact z, ?_⟩)
  have hf : H1 s1.heap.objs.size = none := I1.hok.fresh (Nat.le_refl _)
  exact ⟨.ref s1.heap.objs.size, upd H1 s1.heap.objs.size (.frz { cls := .type "tuple", data := .seq us.toArray } (.tup xs)), I1.laid (t' := s1.toks) (fun b u e => Heap.get?_push_of_some _ e) (Nat.le_refl _) (newZ_ok z r (Heap.get?_push_size _ rfl) rfl rfl), rfl, q _ _ rfl hf⟩
theorem call_tuple_ofZ : CallR X (.type "tuple") (fun xs H Q => ∃ p ys, xs = [.ref p] ∧ ((SqL X.K H p ys ∧ NewZ ys H Q) ∨ (SqT X.K H p ys ∧ Q (.ref p) H))) := by
  intro pins s σ H xs us Q I r h
  obtain ⟨p, ys, rfl, h⟩ := h
  rcases h with ⟨hq, q⟩ | h
  · obtain ⟨u, rfl, rx⟩ := vals1 r
    cases rx
    obtain ⟨its, r', pl, hz⟩ := I.list hq
    have hlen := r'.length
    refine call_tuple_list pl.isList (fun h' kp => ?_) (by simp only [List.size_toArray] <;> omega)
    have I1 : Inv X pins σ H { s with heap := h' } := I.kept (t' := s.toks) kp
    have I2 : Inv X pins σ (upd H h'.objs.size (.frz { cls := .type "tuple", data := .seq its.toArray } (.tup ys))) { s with heap := h'.push { cls := .type "tuple", data := .seq its.toArray } } :=
      I1.laid (t' := s.toks) (fun b o e => Heap.get?_push_of_some _ e) (Nat.le_refl _) (newZ_ok hz r' (Heap.get?_push_size _ rfl) rfl rfl)
    exact ⟨.ref h'.objs.size, _, I2, rfl, q _ _ rfl (I1.hok.fresh (Nat.le_refl _))⟩
  · exact call_tuple_of pins s σ H _ us Q I r ⟨p, ys, rfl, .inr h⟩
def rCatZ (K : PySem.W.Frag) : R2 := fun x y H Q => ∃ a b xs ys, x = .ref a ∧ y = .ref b ∧ SqT K H a xs ∧ SqT K H b ys ∧ xs.length + ys.length ≤ sizeLine ∧
  (xs = [] → Q (.ref b) H) ∧ (xs ≠ [] → ys = [] → Q (.ref a) H) ∧ (xs ≠ [] → ys ≠ [] → NewZ (xs ++ ys) H Q)
theorem op_catZ : OpR X (binaryOp .Add) (rCatZ X.K) := by
  intro pins s σ H x y v u Q I rx ry h
  obtain ⟨a, b, xs, ys, rfl, rfl, ha, hb, hz, q0, q1, q2⟩ := h
  by_cases hx : xs = []
  · exact op_catA pins s σ H _ _ v u Q I rx ry ⟨a, b, xs, ys, rfl, rfl, ha, hb, hz, q0, q1, fun z => absurd hx z⟩
  · cases rx
    cases ry
    obtain ⟨its, r1, p1, _⟩ := I.tuple ha
    obtain ⟨its2, r2, p2, _⟩ := I.tuple hb
    refine HT.cat_tup p1 p2 (fun z => hx (r1.nil_iff.mp z)) (fun z => ⟨.ref a, H, I, rfl, q1 hx (r2.nil_iff.mp z)⟩) (fun z => ?_) (by rw [← r1.length, ← r2.length]; exact hz)
    exact ⟨.ref s.heap.objs.size, _, I.laid (t' := s.toks) (fun b ob q => Heap.get?_push_of_some _ q) (Nat.le_refl _) (newZ_ok (by rw [List.length_append]; exact hz) (r1.append r2) (Heap.get?_push_size _ rfl) rfl rfl), rfl, q2 hx (fun w => z (r2.nil_iff.mpr w)) _ _ rfl (I.hok.fresh (Nat.le_refl _))⟩
def rSlZ (K : PySem.W.Frag) : V → Option Int → Option Int → Hp → VK → Prop := fun x lo hi H Q => ∃ a xs, x = .ref a ∧ SqT K H a xs ∧
  (HT.sIx xs.length 0 lo = 0 ∧ HT.sIx xs.length xs.length hi = xs.length → Q (.ref a) H) ∧ (¬ (HT.sIx xs.length 0 lo = 0 ∧ HT.sIx xs.length xs.length hi = xs.length) → NewZ (cutV xs lo hi) H Q)
theorem sl_tupZ : SlR X (rSlZ X.K) := by
  intro pins s σ H x v vl vu lo hi sl Q I rx hs pl pu h
  obtain ⟨a, xs, rfl, hx, q1, q2⟩ := h
  by_cases hw : HT.sIx xs.length 0 lo = 0 ∧ HT.sIx xs.length xs.length hi = xs.length
  · exact sl_tupA pins s σ H _ v vl vu lo hi sl Q I rx hs pl pu ⟨a, xs, rfl, hx, q1, fun z => absurd hw z⟩
  · cases rx
    obtain ⟨its, r, ht, hz⟩ := I.tuple hx
    have hlen : its.toArray.size = xs.length := by rw [List.size_toArray]; exact r.length.symm
    refine ⟨"tuple", _, PyProof.Rows.slot_tuple_getitem.lookup, ht.typeIs, ?_⟩
    refine HT.getItem_tuple_cut ht hs pl pu (by rw [hlen]; exact hw) ?_ (by rw [hlen]; exact hz)
    rw [hlen]
    exact ⟨.ref s.heap.objs.size, _, I.laid (t' := s.toks) (fun b ob q => Heap.get?_push_of_some _ q) (Nat.le_refl _) (newZ_ok (its := (its.drop (HT.sIx xs.length 0 lo)).take (HT.sIx xs.length xs.length hi - HT.sIx xs.length 0 lo)) (Nat.le_trans (cutV_length xs lo hi) hz) ((r.drop (HT.sIx xs.length 0 lo)).take (HT.sIx xs.length xs.length hi - HT.sIx xs.length 0 lo)) (Heap.get?_push_size _ rfl) rfl rfl), rfl, q2 hw _ _ rfl (I.hok.fresh (Nat.le_refl _))⟩
end
end L2

/-! DV0b: pairs of zip, tuples times numbers: as in DV0. -/
namespace RZ
open PySem PySem.Spec PyProof.Rows L2
/-- as the hand layer's walks over zip, the pairs' objects known -/
def ItzZ (K : PySem.W.Frag) (a b : Addr) : It :=
  ⟨fun i H => ∃ (xs ys : List V) (x y : V), SqL K H a xs ∧ SqL K H b ys ∧ xs[i]? = some x ∧ ys[i]? = some y,
    fun i H v H' => ∃ T ob x y, v = .ref T ∧ ob.dict = none ∧ H T = none ∧ H' = upd H T (.frz ob (.tup [x, y])) ∧ (∀ xs, SqL K H a xs → xs[i]? = some x) ∧ ∀ ys, SqL K H b ys → ys[i]? = some y,
    fun i H => ∃ xs ys : List V, SqL K H a xs ∧ SqL K H b ys ∧ (xs.length ≤ i ∨ ys.length ≤ i)⟩
theorem turn_zipZ {P : Program} {w : World} {K : PySem.W.Frag} {elts : List Expr} {kk : Nat} {tpos : Pos} {a b z TI TO i1 i2 : Addr} (D : ZipApart z TI TO i1 i2 a b) :
    Turn P w K (.Tuple elts kk tpos) (ItzZ K a b) [z, TI, TO, i1, i2] z (fun i h => IsZip h z TI TO .none ∧ IsPair h TI (.ref i1) (.ref i2) ∧ (∃ x y, IsPair h TO x y) ∧ h.IsListIter i1 a i ∧ h.IsListIter i2 b i) where
  mem := by simp
  obj := fun i h st c hc => by
    obtain ⟨hz, hTI, ⟨x, y, hTO⟩, ⟨o1, e1, _, d1⟩, ⟨o2, e2, _, d2⟩⟩ := st
    have e' : c = z ∨ c = TI ∨ c = TO ∨ c = i1 ∨ c = i2 := by simpa using hc
    rcases e' with q | q | q | q | q
    · rw [q]; exact ⟨_, hz, fun v q => nomatch q⟩
    · rw [q]; exact ⟨_, hTI, fun v q => nomatch q⟩
    · rw [q]; exact ⟨_, hTO, fun v q => nomatch q⟩
    · rw [q]; exact ⟨o1, e1, fun v q => by rw [d1] at q; cases q⟩
    · rw [q]; exact ⟨o2, e2, fun v q => by rw [d2] at q; cases q⟩
  keep := fun i h h' st k => by
    obtain ⟨hz, hTI, ⟨x, y, hTO⟩, h1, h2⟩ := st
    exact ⟨k z (by simp) _ hz, k TI (by simp) _ hTI, ⟨x, y, k TO (by simp) _ hTO⟩, h1.at fun o q => k i1 (by simp) o q, h2.at fun o q => k i2 (by simp) o q⟩
  item := by
    intro X hP hw hK hc i pins s σ H E I hf st hg
    subst hP hw hK
    obtain ⟨hz, hTI, ⟨x0, y0, hTO⟩, h1, h2⟩ := st
    obtain ⟨xs, ys, x, y, hqx, hqy, hx, hy⟩ := hg
    obtain ⟨its, rv, p, _⟩ := I.list hqx
    obtain ⟨its2, rv2, p2, _⟩ := I.list hqy
    obtain ⟨u, hu, ru⟩ := rv.get hx
    obtain ⟨u2, hu2, ru2⟩ := rv2.get hy
    have hzl : z < s.heap.objs.size := Heap.lt_size hz
    refine wpAny_pyNext_zip_item D hz hTI hTO h1 h2 p.isList p2.isList (x := u) (y := u2) (by simpa using hu) (by simpa using hu2) fun h' z' TO' h1' h2' hT hsz hk => ?_
    refine ⟨_, rfl, wpAny_letOwnedTupleGo_zip (s := { s with heap := h' }) z' fun h'' z'' sb => ?_⟩
    have hT2 : h''.get? s.heap.objs.size = some { cls := .type "tuple", data := .seq #[u, u2] } := (sb.2 _ (Nat.ne_of_gt hzl)).trans hT
    have new : ObjOk X.prog X.w (upd H s.heap.objs.size (.frz { cls := .type "tuple", data := .seq #[u, u2] } (.tup [x, y]))) h'' s.heap.objs.size (.frz { cls := .type "tuple", data := .seq #[u, u2] } (.tup [x, y])) :=
      newZ_ok (its := [u, u2]) (n := 0) (by show 2 ≤ sizeLine; decide) (.cons ru (.cons ru2 .nil)) hT2 rfl rfl
    have I1 : Inv X pins σ (upd H s.heap.objs.size (.frz { cls := .type "tuple", data := .seq #[u, u2] } (.tup [x, y]))) { s with heap := h'' } :=
      I.turnedNew (t' := s.toks) (ch := [z, TI, TO, i1, i2]) (fun c o hb q => (sb.2 c (fun q' => hb (by simp [q']))).trans (hk c o (fun q' => hb (by simp [q'])) (fun q' => hb (by simp [q'])) (fun q' => hb (by simp [q'])) (fun q' => hb (by simp [q'])) q)) hf (Nat.le_refl _) new
    refine ⟨.ref s.heap.objs.size, _, I1, rfl, ⟨_, _, x, y, rfl, rfl, I.hok.fresh (Nat.le_refl _), rfl, fun l hl => by rw [I.list_inj hl hqx]; exact hx, fun l hl => by rw [I.list_inj hl hqy]; exact hy⟩, ⟨z'', ?_, ⟨u, u2, ?_⟩, ?_, ?_⟩, fun c hcm => ?_⟩
    · exact (sb.2 _ D.TIz).trans (hk _ _ D.TIz D.TITO D.TIi1 D.TIi2 hTI)
    · exact (sb.2 _ D.TOz).trans TO'
    · exact h1'.at fun o q => (sb.2 _ D.i1z).trans q
    · exact h2'.at fun o q => (sb.2 _ D.i2z).trans q
    · have hlt : c < s.heap.objs.size := by
        have e' : c = z ∨ c = TI ∨ c = TO ∨ c = i1 ∨ c = i2 := by simpa using hcm
        rcases e' with q | q | q | q | q
        · rw [q]; exact hzl
        · rw [q]; exact Heap.lt_size hTI
        · rw [q]; exact Heap.lt_size hTO
        · rw [q]; obtain ⟨_, e1, _⟩ := h1; exact Heap.lt_size e1
        · rw [q]; obtain ⟨_, e2, _⟩ := h2; exact Heap.lt_size e2
      rw [upd_ne (Nat.ne_of_lt hlt)]
      exact (hf c hcm).1
  done := by
    intro X hP hw hK hc i pins s σ H E I hf st hg
    subst hP hw hK
    obtain ⟨hz, hTI, ⟨x0, y0, hTO⟩, h1, h2⟩ := st
    obtain ⟨xs, ys, hqx, hqy, hend⟩ := hg
    obtain ⟨its, rv, p, _⟩ := I.list hqx
    obtain ⟨its2, rv2, p2, _⟩ := I.list hqy
    have l1 := rv.length
    have l2 := rv2.length
    have he : its.toArray[i]? = none ∨ its2.toArray[i]? = none := by
      rcases hend with q | q
      · exact .inl (by simp; omega)
      · exact .inr (by simp; omega)
    exact wpAny_pyNext_zip_end (I.ok.hd hc) D hz hTI hTO h1 h2 p.isList p2.isList he fun h' hk => ⟨rfl, I.turnedL (t' := s.toks) (ch := [z, TI, TO, i1, i2]) (fun c o hb q =>
      hk c o (fun q' => hb (by simp [q'])) (fun q' => hb (by simp [q'])) (fun q' => hb (by simp [q'])) (fun q' => hb (by simp [q'])) q) hf⟩
  self := fun A i s Q E st h => wpAny_pyIter_zip st.1 h
def ItzTZ (K : PySem.W.Frag) (a b : Addr) : It :=
  ⟨fun i H => ∃ (xs ys : List V) (x y : V), SqT K H a xs ∧ SqT K H b ys ∧ xs[i]? = some x ∧ ys[i]? = some y,
    fun i H v H' => ∃ T ob x y, v = .ref T ∧ ob.dict = none ∧ H T = none ∧ H' = upd H T (.frz ob (.tup [x, y])) ∧ (∀ xs, SqT K H a xs → xs[i]? = some x) ∧ ∀ ys, SqT K H b ys → ys[i]? = some y,
    fun i H => ∃ xs ys : List V, SqT K H a xs ∧ SqT K H b ys ∧ (xs.length ≤ i ∨ ys.length ≤ i)⟩
theorem turn_zipTZ {P : Program} {w : World} {K : PySem.W.Frag} {elts : List Expr} {kk : Nat} {tpos : Pos} {a b z TI TO i1 i2 : Addr} (D : ZipApart z TI TO i1 i2 a b) :
    Turn P w K (.Tuple elts kk tpos) (ItzTZ K a b) [z, TI, TO, i1, i2] z (fun i h => IsZip h z TI TO .none ∧ IsPair h TI (.ref i1) (.ref i2) ∧ (∃ x y, IsPair h TO x y) ∧ h.IsTupleIter i1 a i ∧ h.IsTupleIter i2 b i) where
  mem := by simp
  obj := fun i h st c hc => by
    obtain ⟨hz, hTI, ⟨x, y, hTO⟩, ⟨o1, e1, _, d1⟩, ⟨o2, e2, _, d2⟩⟩ := st
    have e' : c = z ∨ c = TI ∨ c = TO ∨ c = i1 ∨ c = i2 := by simpa using hc
    rcases e' with q | q | q | q | q
    · rw [q]; exact ⟨_, hz, fun v q => nomatch q⟩
    · rw [q]; exact ⟨_, hTI, fun v q => nomatch q⟩
    · rw [q]; exact ⟨_, hTO, fun v q => nomatch q⟩
    · rw [q]; exact ⟨o1, e1, fun v q => by rw [d1] at q; cases q⟩
    · rw [q]; exact ⟨o2, e2, fun v q => by rw [d2] at q; cases q⟩
  keep := fun i h h' st k => by
    obtain ⟨hz, hTI, ⟨x, y, hTO⟩, h1, h2⟩ := st
    exact ⟨k z (by simp) _ hz, k TI (by simp) _ hTI, ⟨x, y, k TO (by simp) _ hTO⟩, h1.at fun o q => k i1 (by simp) o q, h2.at fun o q => k i2 (by simp) o q⟩
  item := by
    intro X hP hw hK hc i pins s σ H E I hf st hg
    subst hP hw hK
    obtain ⟨hz, hTI, ⟨x0, y0, hTO⟩, h1, h2⟩ := st
    obtain ⟨xs, ys, x, y, hqx, hqy, hx, hy⟩ := hg
    obtain ⟨its, rv, p, _⟩ := I.tuple hqx
    obtain ⟨its2, rv2, p2, _⟩ := I.tuple hqy
    obtain ⟨u, hu, ru⟩ := rv.get hx
    obtain ⟨u2, hu2, ru2⟩ := rv2.get hy
    have hzl : z < s.heap.objs.size := Heap.lt_size hz
    refine pyNext_zipT_item D hz hTI hTO h1 h2 p p2 (x := u) (y := u2) (by simpa using hu) (by simpa using hu2) fun h' z' TO' h1' h2' hT hsz hk => ?_
    refine ⟨_, rfl, wpAny_letOwnedTupleGo_zip (s := { s with heap := h' }) z' fun h'' z'' sb => ?_⟩
    have hT2 : h''.get? s.heap.objs.size = some { cls := .type "tuple", data := .seq #[u, u2] } := (sb.2 _ (Nat.ne_of_gt hzl)).trans hT
    have new : ObjOk X.prog X.w (upd H s.heap.objs.size (.frz { cls := .type "tuple", data := .seq #[u, u2] } (.tup [x, y]))) h'' s.heap.objs.size (.frz { cls := .type "tuple", data := .seq #[u, u2] } (.tup [x, y])) :=
      newZ_ok (its := [u, u2]) (n := 0) (by show 2 ≤ sizeLine; decide) (.cons ru (.cons ru2 .nil)) hT2 rfl rfl
    have I1 : Inv X pins σ (upd H s.heap.objs.size (.frz { cls := .type "tuple", data := .seq #[u, u2] } (.tup [x, y]))) { s with heap := h'' } :=
      I.turnedNew (t' := s.toks) (ch := [z, TI, TO, i1, i2]) (fun c o hb q => (sb.2 c (fun q' => hb (by simp [q']))).trans (hk c o (fun q' => hb (by simp [q'])) (fun q' => hb (by simp [q'])) (fun q' => hb (by simp [q'])) (fun q' => hb (by simp [q'])) q)) hf (Nat.le_refl _) new
    refine ⟨.ref s.heap.objs.size, _, I1, rfl, ⟨_, _, x, y, rfl, rfl, I.hok.fresh (Nat.le_refl _), rfl, fun l hl => by rw [I.tuple_inj hl hqx]; exact hx, fun l hl => by rw [I.tuple_inj hl hqy]; exact hy⟩, ⟨z'', ?_, ⟨u, u2, ?_⟩, ?_, ?_⟩, fun c hcm => ?_⟩
    · exact (sb.2 _ D.TIz).trans (hk _ _ D.TIz D.TITO D.TIi1 D.TIi2 hTI)
    · exact (sb.2 _ D.TOz).trans TO'
    · exact h1'.at fun o q => (sb.2 _ D.i1z).trans q
    · exact h2'.at fun o q => (sb.2 _ D.i2z).trans q
    · have hlt : c < s.heap.objs.size := by
        have e' : c = z ∨ c = TI ∨ c = TO ∨ c = i1 ∨ c = i2 := by simpa using hcm
        rcases e' with q | q | q | q | q
        · rw [q]; exact hzl
        · rw [q]; exact Heap.lt_size hTI
        · rw [q]; exact Heap.lt_size hTO
        · rw [q]; obtain ⟨_, e1, _⟩ := h1; exact Heap.lt_size e1
        · rw [q]; obtain ⟨_, e2, _⟩ := h2; exact Heap.lt_size e2
      rw [upd_ne (Nat.ne_of_lt hlt)]
      exact (hf c hcm).1
  done := by
    intro X hP hw hK hc i pins s σ H E I hf st hg
    subst hP hw hK
    obtain ⟨hz, hTI, ⟨x0, y0, hTO⟩, h1, h2⟩ := st
    obtain ⟨xs, ys, hqx, hqy, hend⟩ := hg
    obtain ⟨its, rv, p, _⟩ := I.tuple hqx
    obtain ⟨its2, rv2, p2, _⟩ := I.tuple hqy
    have l1 := rv.length
    have l2 := rv2.length
    have he : its.toArray[i]? = none ∨ its2.toArray[i]? = none := by
      rcases hend with q | q
      · exact .inl (by simp; omega)
      · exact .inr (by simp; omega)
    exact pyNext_zipT_end (I.ok.hd hc) D hz hTI hTO h1 h2 p p2 he fun h' hk => ⟨rfl, I.turnedL (t' := s.toks) (ch := [z, TI, TO, i1, i2]) (fun c o hb q =>
      hk c o (fun q' => hb (by simp [q'])) (fun q' => hb (by simp [q'])) (fun q' => hb (by simp [q'])) (fun q' => hb (by simp [q'])) q) hf⟩
  self := fun A i s Q E st h => wpAny_pyIter_zip st.1 h
def iZipZ (K : PySem.W.Frag) (ta : TA) : TI := fun σ H R => ta σ H fun vs H1 => ∃ a b xs ys, vs = [.ref a, .ref b] ∧ ((SqL K H1 a xs ∧ SqL K H1 b ys ∧ R (ItzZ K a b) H1) ∨ (SqT K H1 a xs ∧ SqT K H1 b ys ∧ R (ItzTZ K a b) H1))
theorem pi_zipZ {X : Cx} {e e2 : Expr} {ta : TA} {p pos tpos : Pos} {elts : List Expr} {kk : Nat} (hg : Gl X "zip") (hm : X.mg "zip" = none) (ha : PA X [e, e2] ta)
    (hs : starEach [e, e2] X.env = (false, eval e X.env) :: starEach [e2] X.env := by rfl) (hpl : (backTo pos (starEach [e2] X.env)).any (·.1) = false := by rfl) :
    PI X (.Tuple elts kk tpos) (.Call (.Name "zip" p) [e, e2] [] pos) (iZipZ X.K ta) := by
  refine ⟨fun pins s σ H R I h => ?_⟩
  refine Call_ (ld_blt I hg hm PyProof.Rows.boot_zip (PyProof.Rows.callWith_type1 (thn (ha.run pos pins s σ H _ I h) fun us s1 ⟨vs, H1, I1, r1, q1⟩ => ?_) hs hpl))
  obtain ⟨a, b, xs, ys, ex, q1⟩ := q1
  subst ex
  cases r1 with
  | cons r rr =>
    cases rr with
    | cons r' rr =>
      cases rr
      cases r
      cases r'
      have fresh5 : ∀ c, c ∈ [s1.heap.objs.size + 4, s1.heap.objs.size + 2, s1.heap.objs.size + 3, s1.heap.objs.size, s1.heap.objs.size + 1] → FpOk X pins H1 c := fun c hcm => by
        have e' : c = s1.heap.objs.size + 4 ∨ c = s1.heap.objs.size + 2 ∨ c = s1.heap.objs.size + 3 ∨ c = s1.heap.objs.size ∨ c = s1.heap.objs.size + 1 := by simpa using hcm
        have hle : s1.heap.objs.size ≤ c := by
          rcases e' with z | z | z | z | z
          · rw [z]; exact Nat.le_add_right _ _
          · rw [z]; exact Nat.le_add_right _ _
          · rw [z]; exact Nat.le_add_right _ _
          · rw [z]; exact Nat.le_refl _
          · rw [z]; exact Nat.le_add_right _ _
        exact I1.fpOk hle (I1.hok.fresh hle)
      rcases q1 with ⟨hqx, hqy, q⟩ | ⟨hqx, hqy, q⟩
      · obtain ⟨its, rv, p1, _⟩ := I1.list hqx
        obtain ⟨its2, rv2, p2, _⟩ := I1.list hqy
        refine call_zip_2 p1.isList p2.isList fun h' hz hTI hTO h1 h2 hsz hk => wpAny_pyIter_zip hz ?_
        have I2 : Inv X pins σ H1 { s1 with heap := h' } := I1.kept (t' := s1.toks) hk
        exact ⟨s1.heap.objs.size + 4, [s1.heap.objs.size + 4, s1.heap.objs.size + 2, s1.heap.objs.size + 3, s1.heap.objs.size, s1.heap.objs.size + 1], _, _, H1, rfl, I2, turn_zipZ (PySem.W.ktu_apart s1.heap.objs.size a b p1.lt p2.lt), ⟨hz, hTI, ⟨_, _, hTO⟩, h1, h2⟩, fresh5, q⟩
      · obtain ⟨its, rv, p1, _⟩ := I1.tuple hqx
        obtain ⟨its2, rv2, p2, _⟩ := I1.tuple hqy
        obtain ⟨o1, ho1, _⟩ := id p1
        obtain ⟨o2, ho2, _⟩ := id p2
        refine call_zipT (show s1.heap.IsTuple a its.toArray from p1) (show s1.heap.IsTuple b its2.toArray from p2) fun h' hz hTI hTO h1 h2 hsz hk => wpAny_pyIter_zip hz ?_
        have I2 : Inv X pins σ H1 { s1 with heap := h' } := I1.kept (t' := s1.toks) hk
        exact ⟨s1.heap.objs.size + 4, [s1.heap.objs.size + 4, s1.heap.objs.size + 2, s1.heap.objs.size + 3, s1.heap.objs.size, s1.heap.objs.size + 1], _, _, H1, rfl, I2, turn_zipTZ (PySem.W.ktu_apart s1.heap.objs.size a b (Heap.lt_size ho1) (Heap.lt_size ho2)), ⟨hz, hTI, ⟨_, _, hTO⟩, h1, h2⟩, fresh5, q⟩
end RZ
namespace L2
open PySem PySem.Spec PyProof.Rows
set_option maxHeartbeats 4000000
def rRepZ (K : PySem.W.Frag) : R2 := fun x y H Q => ∃ l k xs, x = .ref l ∧ y = .int k ∧ SqT K H l xs ∧ xs ≠ [] ∧ 2 ≤ k ∧ k ≤ 1000 ∧ xs.length ≤ 1000 ∧ NewZ (List.replicate k.toNat xs).flatten H Q
theorem op_repZ {X : Cx} : OpR X (binaryOp .Mult) (rRepZ X.K) := by
  intro pins s σ H x y v u Q I rx ry h
  obtain ⟨l, k, xs, rfl, rfl, hT, hne, h1, h2, hz, q⟩ := h
  cases rx
  obtain ⟨t, rfl⟩ := ry
  obtain ⟨its, r, ⟨⟨cls, dd, data, sl⟩, ho, hc, n, hd⟩, hs⟩ := I.tuple hT
  simp only at hc hd
  subst hc hd
  have hle : its.length = xs.length := r.length.symm
  have hn : its ≠ [] := fun e => hne (by
    rw [e] at hle
    exact List.eq_nil_of_length_eq_zero hle.symm)
  have hi : its.toArray.isEmpty = false := by
    cases its with
    | nil => exact absurd rfl hn
    | cons a b => rfl
  have hsz0 : its.toArray.size = xs.length := by rw [List.size_toArray, hle]
  have hm : ((its.toArray.size : Nat) : Int) * k ≤ 1000000 := by
    rw [hsz0]
    have a1 : ((xs.length : Nat) : Int) * k ≤ 1000 * k := Int.mul_le_mul_of_nonneg_right (by omega) (by omega)
    omega
  have flen : (List.replicate k.toNat its).flatten.length ≤ sizeLine := by
    rw [PyProof.Rows.lm_len_rep_flat, hle, sizeLine_eq]
    have a1 : k.toNat * xs.length ≤ 1000 * 1000 := Nat.mul_le_mul (by omega) hz
    omega
  have c0 : (decide (k < -(2 ^ 63)) || decide (k ≥ 2 ^ 63)) = false := by
    rw [decide_eq_false (by omega), decide_eq_false (by omega)] <;> rfl
  have c1 : (its.toArray.isEmpty || k == 1) = false := by
    rw [hi, Bool.false_or]
    exact beq_eq_false_iff_ne.mpr (by omega)
  have c2 : (decide (k ≤ 0) || its.toArray.isEmpty) = false := by
    rw [hi, Bool.or_false]
    exact decide_eq_false (by omega)
  have c4 : Builtin.Tuple.tupleTooMany (((its.toArray.size : Nat) : Int) * k) = false := by
    unfold Builtin.Tuple.tupleTooMany
    rw [sizeLine_eq]
    exact decide_eq_false (by omega)
  refine wpAny_binaryOp_repeat_ref (T := "tuple") (U := "int") (by decide) ⟨_, ho, rfl⟩ (fun s' => typeIs_int s' k t) noFill_tuple_mul F.fills_int_mul F.slot_int_rmul repeat_tuple F.slot_int_index.lookup
    (call_meets F.slot_int_rmul (typeIs_int s k t) F.entry_int_rmul (F.args_int_rmul_2 _ _) (int_rmul_tuple k t l its.toArray n dd sl)
      ⟨ho, rfl, ⟨_, ho, rfl⟩, call_meets F.slot_tuple_mul ⟨_, ho, rfl⟩ F.entry_tuple_mul (F.args_tuple_mul_2 _ _) (tuple_mulW l its.toArray n dd sl k t c0 c1 c2 (by omega) c4 (by rw [size_rep, List.size_toArray]; exact flen)) ⟨ho, ?_⟩⟩)
  rw [size_rep]
  exact ⟨.ref s.heap.objs.size, _, I.laid (t' := s.toks) (fun b ob q => Heap.get?_push_of_some _ q) (Nat.le_refl _) (newZ_ok (its := (List.replicate k.toNat its).flatten) (by rw [PyProof.Rows.lm_len_rep_flat, sizeLine_eq]; have a1 : k.toNat * xs.length ≤ 1000 * 1000 := Nat.mul_le_mul (by omega) hz; omega) (r.rep k.toNat) (Heap.get?_push_size _ rfl) rfl rfl), rfl, q _ _ rfl (I.hok.fresh (Nat.le_refl _))⟩
end L2

/-! DV: plain data values over the hand layer: what a walk computes, as functions of data. -/
namespace DV
open L2 PySem PySem.Spec PyProof.Rows

/-- plain data -/
inductive D where
  | non | bl (b : Bool) | int (i : Int) | str (x : Str) | ty (n : String) | fn (x : Str)
  | tup (xs : List D) | lst (xs : List D) | dic (ks vs : List D) | scr (ns : List Int)
  | ins (c : Str) (ns : List Str) (os : List Bool) (vs : List D)

structure Kc where
  K : PySem.W.Frag
  mg : Str → Option Value

def dkey : Key → D
  | .inl i => .int i
  | .inr x => .str x

mutual
/-- the value v stands for d: F are the addresses that never change any more -/
def Rep (K : Kc) (F : Addr → Prop) (H : Hp) : D → V → Prop
  | .non, v => v = .non
  | .bl b, v => v = .bl b
  | .int i, v => v = .int i
  | .str x, v => v = .str x
  | .ty n, v => v = .ty n
  | .fn x, v => ∃ f, v = .ref f ∧ K.mg x = some (.ref f)
  | .tup ds, v => ∃ a vs, v = .ref a ∧ SqZ K.K H a vs ∧ RepL K F H ds vs
  | .scr ns, v => ∃ a, v = .ref a ∧ ((∃ o, H a = some (.frz o (.lst (ns.map V.int)))) ∨ ∀ H', SqL K.K H' a (ns.map V.int))
  | .lst ds, v => ∃ a vs, v = .ref a ∧ F a ∧ H a = some (.lst vs) ∧ RepL K F H ds vs
  | .dic ks ds, v => ∃ a o kvs, v = .ref a ∧ F a ∧ H a = some (.frz o (.dK kvs)) ∧ ks = kvs.map (fun p => dkey p.1) ∧ RepL K F H ds (kvs.map (·.2))
  | .ins _ _ _ _, _ => False
def RepL (K : Kc) (F : Addr → Prop) (H : Hp) : List D → List V → Prop
  | [], vs => vs = []
  | d :: ds, vs => ∃ v r, vs = v :: r ∧ Rep K F H d v ∧ RepL K F H ds r
end

/-- the same, but locks may have gone -/
structure Weak (F : Addr → Prop) (H : Hp) (F2 : Addr → Prop) (H2 : Hp) : Prop where
  fm : ∀ b, F b → F2 b
  tu : ∀ b vs, Rd H b (.tup vs) → Rd H2 b (.tup vs)
  ls : ∀ b vs, F b → H b = some (.lst vs) → H2 b = some (.lst vs)
  rd : ∀ b kvs, F b → Rd H b (.dK kvs) → Rd H2 b (.dK kvs)
  fz : ∀ b o u, H b = some (.frz o u) → H2 b = some (.frz o u)
/-- what a reading leans on is still there, and all locks -/
structure Stb (F : Addr → Prop) (H : Hp) (F2 : Addr → Prop) (H2 : Hp) : Prop where
  fm : ∀ b, F b → F2 b
  tu : ∀ b vs, Rd H b (.tup vs) → Rd H2 b (.tup vs)
  ls : ∀ b vs, F b → H b = some (.lst vs) → H2 b = some (.lst vs)
  rd : ∀ b kvs, F b → Rd H b (.dK kvs) → Rd H2 b (.dK kvs)
  fz : ∀ b o u, H b = some (.frz o u) → H2 b = some (.frz o u)
theorem Stb.weak {F : Addr → Prop} {H : Hp} {F2 : Addr → Prop} {H2 : Hp} (s : Stb F H F2 H2) : Weak F H F2 H2 := ⟨s.fm, s.tu, s.ls, s.rd, s.fz⟩
instance {F : Addr → Prop} {H : Hp} {F2 : Addr → Prop} {H2 : Hp} : Coe (Stb F H F2 H2) (Weak F H F2 H2) := ⟨Stb.weak⟩
theorem Stb.refl {F : Addr → Prop} {H : Hp} : Stb F H F H := ⟨fun _ h => h, fun _ _ h => h, fun _ _ _ h => h, fun _ _ _ h => h, fun _ _ _ h => h⟩
theorem Stb.trans {F F1 F2 : Addr → Prop} {H H1 H2 : Hp} (a : Stb F H F1 H1) (b : Stb F1 H1 F2 H2) : Stb F H F2 H2 :=
  ⟨fun x h => b.fm x (a.fm x h), fun x vs h => b.tu x vs (a.tu x vs h), fun x u f h => b.ls x u (a.fm x f) (a.ls x u f h), fun x u f h => b.rd x u (a.fm x f) (a.rd x u f h), fun x o u h => b.fz x o u (a.fz x o u h)⟩
theorem Weak.sqT {F F2 : Addr → Prop} {H H2 : Hp} (s : Weak F H F2 H2) {K : PySem.W.Frag} {a : Addr} {vs : List V} (h : SqT K H a vs) : SqT K H2 a vs := by
  rcases h with h | h
  · exact .inl (s.tu _ _ h)
  · exact .inr h

theorem Weak.sqZ {F F2 : Addr → Prop} {H H2 : Hp} (s : Weak F H F2 H2) {K : PySem.W.Frag} {a : Addr} {vs : List V} (h : SqZ K H a vs) : SqZ K H2 a vs := by
  rcases h with ⟨o, h, hd⟩ | h
  · exact .inl ⟨o, s.fz _ _ _ h, hd⟩
  · exact .inr h
theorem Stb.sqT {F F2 : Addr → Prop} {H H2 : Hp} (s : Stb F H F2 H2) {K : PySem.W.Frag} {a : Addr} {vs : List V} (h : SqT K H a vs) : SqT K H2 a vs := s.weak.sqT h
mutual
theorem Rep.stb {K : Kc} {F F2 : Addr → Prop} {H H2 : Hp} (s : Weak F H F2 H2) : ∀ (d : D) (v : V), Rep K F H d v → Rep K F2 H2 d v
  | .non, v, h => by unfold Rep at h ⊢; exact h
  | .bl b, v, h => by unfold Rep at h ⊢; exact h
  | .int i, v, h => by unfold Rep at h ⊢; exact h
  | .str x, v, h => by unfold Rep at h ⊢; exact h
  | .ty n, v, h => by unfold Rep at h ⊢; exact h
  | .fn x, v, h => by unfold Rep at h ⊢; exact h
  | .tup ds, v, h => by
    unfold Rep at h ⊢
    obtain ⟨a, vs, e, h1, h2⟩ := h
    exact ⟨a, vs, e, s.sqZ h1, RepL.stb s ds vs h2⟩
  | .lst ds, v, h => by
    unfold Rep at h ⊢
    obtain ⟨a, vs, e, h0, h1, h2⟩ := h
    exact ⟨a, vs, e, s.fm a h0, s.ls a _ h0 h1, RepL.stb s ds vs h2⟩
  | .scr ns, v, h => by
    unfold Rep at h ⊢
    obtain ⟨a, e, h1⟩ := h
    exact ⟨a, e, h1.imp_left fun ⟨o, h1⟩ => ⟨o, s.fz a o _ h1⟩⟩
  | .dic ks ds, v, h => by
    unfold Rep at h ⊢
    obtain ⟨a, o, kvs, e, h0, h1, h3, h2⟩ := h
    exact ⟨a, o, kvs, e, s.fm a h0, s.fz a o _ h1, h3, RepL.stb s ds _ h2⟩
  | .ins _ _ _ _, v, h => by unfold Rep at h; exact h.elim
theorem RepL.stb {K : Kc} {F F2 : Addr → Prop} {H H2 : Hp} (s : Weak F H F2 H2) : ∀ (ds : List D) (vs : List V), RepL K F H ds vs → RepL K F2 H2 ds vs
  | [], vs, h => by unfold RepL at h ⊢; exact h
  | d :: ds, vs, h => by
    unfold RepL at h ⊢
    obtain ⟨v, r, e, h1, h2⟩ := h
    exact ⟨v, r, e, Rep.stb s d v h1, RepL.stb s ds r h2⟩
end

theorem RepL.length {K : Kc} {F : Addr → Prop} {H : Hp} : ∀ {ds : List D} {vs : List V}, RepL K F H ds vs → vs.length = ds.length
  | [], vs, h => by unfold RepL at h; subst h; rfl
  | d :: ds, vs, h => by
    unfold RepL at h
    obtain ⟨v, r, rfl, h1, h2⟩ := h
    simp [RepL.length h2]
theorem RepL.nil {K : Kc} {F : Addr → Prop} {H : Hp} : RepL K F H [] [] := by unfold RepL; rfl
theorem RepL.cons {K : Kc} {F : Addr → Prop} {H : Hp} {d : D} {ds : List D} {v : V} {vs : List V} (h : Rep K F H d v) (t : RepL K F H ds vs) : RepL K F H (d :: ds) (v :: vs) := by
  unfold RepL; exact ⟨v, vs, rfl, h, t⟩
theorem RepL.append {K : Kc} {F : Addr → Prop} {H : Hp} : ∀ {ds es : List D} {vs us : List V}, RepL K F H ds vs → RepL K F H es us → RepL K F H (ds ++ es) (vs ++ us)
  | [], es, vs, us, h, k => by unfold RepL at h; subst h; exact k
  | d :: ds, es, vs, us, h, k => by
    unfold RepL at h
    obtain ⟨v, r, rfl, h1, h2⟩ := h
    exact RepL.cons h1 (RepL.append h2 k)
theorem RepL.get {K : Kc} {F : Addr → Prop} {H : Hp} : ∀ {ds : List D} {vs : List V} {i : Nat} {d : D}, RepL K F H ds vs → ds[i]? = some d → ∃ v, vs[i]? = some v ∧ Rep K F H d v
  | [], _, _, _, _, e => by simp at e
  | d :: ds, vs, 0, d', h, e => by
    unfold RepL at h
    obtain ⟨v, r, rfl, h1, h2⟩ := h
    simp at e; subst e
    exact ⟨v, rfl, h1⟩
  | d :: ds, vs, i + 1, d', h, e => by
    unfold RepL at h
    obtain ⟨v, r, rfl, h1, h2⟩ := h
    obtain ⟨v', e', q⟩ := RepL.get (i := i) h2 (by simpa using e)
    exact ⟨v', by simpa using e', q⟩
theorem RepL.set {K : Kc} {F : Addr → Prop} {H : Hp} {d' : D} {v' : V} (q : Rep K F H d' v') : ∀ {ds : List D} {vs : List V} (i : Nat), RepL K F H ds vs → RepL K F H (ds.set i d') (vs.set i v')
  | [], _, _, h => by unfold RepL at h; subst h; exact RepL.nil
  | d :: ds, vs, 0, h => by
    unfold RepL at h
    obtain ⟨v, r, rfl, h1, h2⟩ := h
    exact RepL.cons q h2
  | d :: ds, vs, i + 1, h => by
    unfold RepL at h
    obtain ⟨v, r, rfl, h1, h2⟩ := h
    exact RepL.cons h1 (RepL.set q i h2)
theorem RepL.drop {K : Kc} {F : Addr → Prop} {H : Hp} : ∀ {ds : List D} {vs : List V} (n : Nat), RepL K F H ds vs → RepL K F H (ds.drop n) (vs.drop n)
  | _, _, 0, h => h
  | [], _, n + 1, h => by unfold RepL at h; subst h; exact RepL.nil
  | d :: ds, vs, n + 1, h => by
    unfold RepL at h
    obtain ⟨v, r, rfl, h1, h2⟩ := h
    exact RepL.drop n h2
theorem RepL.take {K : Kc} {F : Addr → Prop} {H : Hp} : ∀ {ds : List D} {vs : List V} (n : Nat), RepL K F H ds vs → RepL K F H (ds.take n) (vs.take n)
  | _, _, 0, h => RepL.nil
  | [], _, n + 1, h => by unfold RepL at h; subst h; exact RepL.nil
  | d :: ds, vs, n + 1, h => by
    unfold RepL at h
    obtain ⟨v, r, rfl, h1, h2⟩ := h
    exact RepL.cons h1 (RepL.take n h2)

/-- from one state to a later one: as is what may change (the frame's own things) -/
structure Ext (F : Addr → Prop) (as : List Addr) (H : Hp) (F' : Addr → Prop) (as' : List Addr) (H' : Hp) : Prop where
  stb : Stb F H F' H'
  keep : ∀ b u, H b = some u → b ∉ as → H' b = some u
  dom : ∀ b, H' b = none → H b = none
  fnew : ∀ b, F' b → F b ∨ b ∈ as ∨ H b = none
  anew : ∀ b, b ∈ as' → b ∈ as ∨ H b = none
  fk : (∀ b, F b → H b ≠ none) → ∀ b, F' b → H' b ≠ none
theorem Ext.refl {F : Addr → Prop} {as : List Addr} {H : Hp} : Ext F as H F as H := ⟨.refl, fun _ _ h _ => h, fun _ h => h, fun _ h => .inl h, fun _ h => .inl h, fun h => h⟩
theorem Ext.trans {F F1 F2 : Addr → Prop} {as as1 as2 : List Addr} {H H1 H2 : Hp} (a : Ext F as H F1 as1 H1) (b : Ext F1 as1 H1 F2 as2 H2) : Ext F as H F2 as2 H2 := by
  refine ⟨a.stb.trans b.stb, fun x u h n => ?_, fun x h => a.dom x (b.dom x h), fun x h => ?_, fun x h => ?_, fun h => b.fk (a.fk h)⟩
  · refine b.keep x u (a.keep x u h n) fun m => ?_
    rcases a.anew x m with z | z
    · exact n z
    · rw [h] at z; cases z
  · rcases b.fnew x h with z | z | z
    · exact a.fnew x z
    · exact .inr (a.anew x z)
    · exact .inr (.inr (a.dom x z))
  · rcases b.anew x h with z | z
    · exact a.anew x z
    · exact .inr (a.dom x z)
/-- fewer own things at the end, more at the start -/
theorem Ext.sub {F F1 : Addr → Prop} {as as1 as2 : List Addr} {H H1 : Hp} (a : Ext F as H F1 as1 H1) (h : ∀ b, b ∈ as2 → b ∈ as1) : Ext F as H F1 as2 H1 :=
  ⟨a.stb, a.keep, a.dom, a.fnew, fun x m => a.anew x (h x m), a.fk⟩
/-- a frame around -/
theorem Ext.frame {F F1 : Addr → Prop} {as as1 fr : List Addr} {H H1 : Hp} (a : Ext F as H F1 as1 H1) : Ext F (as ++ fr) H F1 (as1 ++ fr) H1 :=
  ⟨a.stb, fun x u h n => a.keep x u h fun m => n (List.mem_append_left _ m), a.dom, fun x h => (a.fnew x h).imp_right (·.imp_left fun m => List.mem_append_left _ m),
    fun x h => (List.mem_append.mp h).elim (fun m => (a.anew x m).imp_left fun m => List.mem_append_left _ m) fun m => .inl (List.mem_append_right _ m), a.fk⟩
theorem Ext.frameL {F F1 : Addr → Prop} {as as1 fr : List Addr} {H H1 : Hp} (a : Ext F as H F1 as1 H1) : Ext F (fr ++ as) H F1 (fr ++ as1) H1 :=
  ⟨a.stb, fun x u h n => a.keep x u h fun m => n (List.mem_append_right _ m), a.dom, fun x h => (a.fnew x h).imp_right (·.imp_left fun m => List.mem_append_right _ m),
    fun x h => (List.mem_append.mp h).elim (fun m => .inl (List.mem_append_left _ m)) fun m => (a.anew x m).imp_left fun m => List.mem_append_right _ m, a.fk⟩
/-- nothing of the frame's own was touched -/
theorem Ext.pure {F F1 : Addr → Prop} {as : List Addr} {H H1 : Hp} (a : Ext F [] H F1 [] H1) : Ext F as H F1 as H1 :=
  ⟨a.stb, fun x u h _ => a.keep x u h (by simp), a.dom, fun x h => (a.fnew x h).imp_right (·.imp_left fun m => absurd m (by simp)), fun x h => .inl h, a.fk⟩

theorem Rd.upd {H : Hp} {p b : Addr} {o u : HO} (hp : H p = none) (h : Rd H b u) : Rd (upd H p o) b u := by
  rcases h with h | ⟨w, h⟩
  · exact .inl (by rw [upd_ne (ne_of_none h hp)]; exact h)
  · exact .inr ⟨w, by rw [upd_ne (ne_of_none h hp)]; exact h⟩
/-- a new object: among what never changes -/
theorem Ext.newF {F : Addr → Prop} {as : List Addr} {H : Hp} {p : Addr} {o : HO} (hp : H p = none) : Ext F as H (fun b => F b ∨ b = p) as (L2.upd H p o) := by
  refine ⟨⟨fun b h => .inl h, fun b vs h => Rd.upd hp h, fun b vs _ h => by rw [upd_ne (ne_of_none h hp)]; exact h, fun b u _ h => Rd.upd hp h, fun b o vs h => by rw [upd_ne (ne_of_none h hp)]; exact h⟩, fun b u h _ => by rw [upd_ne (ne_of_none h hp)]; exact h, fun b h => ?_, fun b h => ?_, fun b h => .inl h, fun k b h => ?_⟩
  · by_cases e : b = p
    · rw [e]; exact hp
    · rw [upd_ne e] at h; exact h
  · rcases h with h | h
    · exact .inl h
    · exact .inr (.inr (by rw [h]; exact hp))
  · by_cases e : b = p
    · rw [e, upd_same]; exact fun z => by cases z
    · rw [upd_ne e]; exact k b (h.resolve_right e)
/-- .. the frame's own -/
theorem Ext.newO {F : Addr → Prop} {as : List Addr} {H : Hp} {p : Addr} {o : HO} (hp : H p = none) : Ext F as H F (p :: as) (L2.upd H p o) := by
  refine ⟨⟨fun b h => h, fun b vs h => Rd.upd hp h, fun b vs _ h => by rw [upd_ne (ne_of_none h hp)]; exact h, fun b u _ h => Rd.upd hp h, fun b o vs h => by rw [upd_ne (ne_of_none h hp)]; exact h⟩, fun b u h _ => by rw [upd_ne (ne_of_none h hp)]; exact h, fun b h => ?_, fun b h => .inl h, fun b h => ?_, fun k b h => ?_⟩
  · by_cases e : b = p
    · rw [e]; exact hp
    · rw [upd_ne e] at h; exact h
  · rcases List.mem_cons.mp h with h | h
    · exact .inr (by rw [h]; exact hp)
    · exact .inl h
  · by_cases e : b = p
    · rw [e, upd_same]; exact fun z => by cases z
    · rw [upd_ne e]; exact k b h
/-- an own object is written -/
theorem Ext.write {F : Addr → Prop} {as : List Addr} {H : Hp} {p : Addr} {o u : HO} (hp : H p = some u) (hm : ∀ vs, u ≠ .tup vs) (hz : ∀ q w, u ≠ .frz q w) (ha : p ∈ as) (hf : ¬ F p) : Ext F as H F as (L2.upd H p o) := by
  have rd : ∀ b w, b ≠ p → Rd H b w → Rd (L2.upd H p o) b w := fun b w n h => by
    rcases h with h | ⟨z, h⟩
    · exact .inl (by rw [upd_ne n]; exact h)
    · exact .inr ⟨z, by rw [upd_ne n]; exact h⟩
  refine ⟨⟨fun b h => h, fun b vs h => rd b _ (fun e => ?_) h, fun b w f h => by rw [upd_ne (fun e => hf (by rw [← e]; exact f))]; exact h, fun b w f h => rd b _ (fun e => hf (by rw [← e]; exact f)) h, fun b q vs h => by rw [upd_ne (fun e => hz q _ (by rw [e, hp] at h; exact Option.some.inj h))]; exact h⟩, fun b w h n => by rw [upd_ne (fun e => n (by rw [e]; exact ha))]; exact h, fun b h => ?_, fun b h => .inl h, fun b h => .inl h, fun k b h => ?_⟩
  · subst e
    rcases h with h | ⟨z, h⟩
    · rw [hp] at h; exact hm vs (Option.some.inj h)
    · rw [hp] at h; exact hz z _ (Option.some.inj h)
  · by_cases e : b = p
    · rw [e, upd_same] at h; cases h
    · rw [upd_ne e] at h; exact h
  · by_cases e : b = p
    · rw [e, upd_same]; exact fun z => by cases z
    · rw [upd_ne e]; exact k b h
/-- an own object is frozen -/
theorem Ext.freeze {F : Addr → Prop} {as as' bs : List Addr} {H : Hp} (hs : ∀ b, b ∈ bs → b ∈ as) (h' : ∀ b, b ∈ as' → b ∈ as) (ht : ∀ b, b ∈ bs → H b ≠ none) : Ext F as H (fun b => F b ∨ b ∈ bs) as' H :=
  ⟨⟨fun b h => .inl h, fun _ _ h => h, fun _ _ _ h => h, fun _ _ _ h => h, fun _ _ _ h => h⟩, fun _ _ h _ => h, fun _ h => h, fun b h => h.elim .inl fun m => .inr (.inl (hs b m)), fun b h => .inl (h' b h), fun k b h => h.elim (k b) (ht b)⟩

/-! ### what one frame owns -/
def OwnC (K : Kc) (F : Addr → Prop) (H : Hp) : D → V → List Addr → Prop
  | .lst ds, v, as => ∃ a vs, v = .ref a ∧ H a = some (.lst vs) ∧ RepL K F H ds vs ∧ as = [a]
  | .dic ks ds, v, as => ∃ a kvs, v = .ref a ∧ H a = some (.dK kvs) ∧ ks = kvs.map (fun p => dkey p.1) ∧ RepL K F H ds (kvs.map (·.2)) ∧ as = [a]
  | _, _, _ => False
def OwnFs (K : Kc) (F : Addr → Prop) (H : Hp) : List Bool → List D → List V → List Addr → Prop
  | [], [], vs, as => vs = [] ∧ as = []
  | o :: os, d :: ds, vs, as => ∃ v r a1 a2, vs = v :: r ∧ as = a1 ++ a2 ∧ (if o then OwnC K F H d v a1 else Rep K F H d v ∧ a1 = []) ∧ OwnFs K F H os ds r a2
  | _, _, _, _ => False
def OwnI (K : Kc) (F : Addr → Prop) (H : Hp) (c : Str) (ns : List Str) (os : List Bool) (ds : List D) (v : V) (as : List Addr) : Prop :=
  ∃ a C dx fs a2, v = .ref a ∧ K.mg c = some (.ref C) ∧ H a = some (.ins C dx fs) ∧ H dx = some (.own a) ∧ fs.map (·.1) = ns ∧ OwnFs K F H os ds (fs.map (·.2)) a2 ∧ as = a :: dx :: a2
def Own (K : Kc) (F : Addr → Prop) (H : Hp) : D → V → List Addr → Prop
  | .ins c ns os ds, v, as => OwnI K F H c ns os ds v as
  | d, v, as => OwnC K F H d v as

/-- these are kept -/
def Kept (bs : List Addr) (H H2 : Hp) : Prop := ∀ b, b ∈ bs → ∀ u, H b = some u → H2 b = some u
theorem Kept.left {a b : List Addr} {H H2 : Hp} (k : Kept (a ++ b) H H2) : Kept a H H2 := fun x m => k x (List.mem_append_left _ m)
theorem Kept.right {a b : List Addr} {H H2 : Hp} (k : Kept (a ++ b) H H2) : Kept b H H2 := fun x m => k x (List.mem_append_right _ m)
theorem Kept.of {bs : List Addr} {H H2 : Hp} (h : ∀ b u, H b = some u → H2 b = some u) : Kept bs H H2 := fun b _ u q => h b u q
theorem Ext.kept {F F' : Addr → Prop} {as as' bs : List Addr} {H H' : Hp} (e : Ext F as H F' as' H') (h : ∀ b, b ∈ bs → b ∉ as) : Kept bs H H' := fun b m u q => e.keep b u q (h b m)

theorem OwnC.stb {K : Kc} {F F2 : Addr → Prop} {H H2 : Hp} (s : Weak F H F2 H2) {d : D} {v : V} {as : List Addr} (h : OwnC K F H d v as) (k : Kept as H H2) : OwnC K F2 H2 d v as := by
  cases d <;> unfold OwnC at h ⊢ <;> try exact h
  case lst ds =>
    obtain ⟨a, vs, e, h1, h2, h3⟩ := h
    subst h3
    exact ⟨a, vs, e, k a (by simp) _ h1, RepL.stb s _ _ h2, rfl⟩
  case dic ks ds =>
    obtain ⟨a, kvs, e, h1, h4, h2, h3⟩ := h
    subst h3
    exact ⟨a, kvs, e, k a (by simp) _ h1, h4, RepL.stb s _ _ h2, rfl⟩
theorem OwnFs.stb {K : Kc} {F F2 : Addr → Prop} {H H2 : Hp} (s : Weak F H F2 H2) : ∀ {os : List Bool} {ds : List D} {vs : List V} {as : List Addr}, OwnFs K F H os ds vs as → Kept as H H2 → OwnFs K F2 H2 os ds vs as
  | [], [], vs, as, h, k => by unfold OwnFs at h ⊢; exact h
  | o :: os, d :: ds, vs, as, h, k => by
    unfold OwnFs at h ⊢
    obtain ⟨v, r, a1, a2, e1, e2, h1, h2⟩ := h
    subst e2
    refine ⟨v, r, a1, a2, e1, rfl, ?_, OwnFs.stb s h2 k.right⟩
    cases o with
    | true => simp only [if_true] at h1 ⊢; exact h1.stb s k.left
    | false => simp only [Bool.false_eq_true, if_false] at h1 ⊢; exact ⟨Rep.stb s _ _ h1.1, h1.2⟩
  | [], _ :: _, _, _, h, _ => by unfold OwnFs at h; exact h.elim
  | _ :: _, [], _, _, h, _ => by unfold OwnFs at h; exact h.elim
theorem Own.stb {K : Kc} {F F2 : Addr → Prop} {H H2 : Hp} (s : Weak F H F2 H2) {d : D} {v : V} {as : List Addr} (h : Own K F H d v as) (k : Kept as H H2) : Own K F2 H2 d v as := by
  cases d <;> unfold Own at h ⊢ <;> try exact h.stb s k
  case ins c ns os ds =>
    obtain ⟨a, C, dx, fs, a2, e, h1, h2, h3, h4, h5, h6⟩ := h
    subst h6
    exact ⟨a, C, dx, fs, a2, e, h1, k a (by simp) _ h2, k dx (by simp) _ h3, h4, h5.stb s fun b m => k b (by simp [m]), rfl⟩

theorem OwnC.there {K : Kc} {F : Addr → Prop} {H : Hp} {d : D} {v : V} {as : List Addr} (h : OwnC K F H d v as) : ∀ a, a ∈ as → ∃ u, H a = some u := by
  cases d <;> unfold OwnC at h <;> try exact h.elim
  case lst ds =>
    obtain ⟨a, vs, e, h1, h2, h3⟩ := h
    subst h3
    intro b m
    have : b = a := by simpa using m
    exact ⟨_, by rw [this]; exact h1⟩
  case dic ks ds =>
    obtain ⟨a, kvs, e, h1, h4, h2, h3⟩ := h
    subst h3
    intro b m
    have : b = a := by simpa using m
    exact ⟨_, by rw [this]; exact h1⟩
theorem OwnFs.there {K : Kc} {F : Addr → Prop} {H : Hp} : ∀ {os : List Bool} {ds : List D} {vs : List V} {as : List Addr}, OwnFs K F H os ds vs as → ∀ a, a ∈ as → ∃ u, H a = some u
  | [], [], vs, as, h => by unfold OwnFs at h; rw [h.2]; intro a m; cases m
  | o :: os, d :: ds, vs, as, h => by
    unfold OwnFs at h
    obtain ⟨v, r, a1, a2, e1, e2, h1, h2⟩ := h
    subst e2
    intro b m
    rcases List.mem_append.mp m with m | m
    · cases o with
      | true => simp only [if_true] at h1; exact h1.there b m
      | false => simp only [Bool.false_eq_true, if_false] at h1; rw [h1.2] at m; cases m
    · exact OwnFs.there h2 b m
  | [], _ :: _, _, _, h => by unfold OwnFs at h; exact h.elim
  | _ :: _, [], _, _, h => by unfold OwnFs at h; exact h.elim
theorem Own.there {K : Kc} {F : Addr → Prop} {H : Hp} {d : D} {v : V} {as : List Addr} (h : Own K F H d v as) : ∀ a, a ∈ as → ∃ u, H a = some u := by
  cases d <;> unfold Own at h <;> try exact h.there
  case ins c ns os ds =>
    obtain ⟨a, C, dx, fs, a2, e, h1, h2, h3, h4, h5, h6⟩ := h
    subst h6
    intro b m
    rcases List.mem_cons.mp m with m | m
    · exact ⟨_, by rw [m]; exact h2⟩
    · rcases List.mem_cons.mp m with m | m
      · exact ⟨_, by rw [m]; exact h3⟩
      · exact h5.there b m

def isC : D → Bool
  | .lst _ => true
  | .dic _ _ => true
  | _ => false
/-- an own list that is shared from now on -/
theorem Own.frozen {K : Kc} {F : Addr → Prop} {H : Hp} {ds : List D} {v : V} {as : List Addr} (h : Own K F H (.lst ds) v as) : Rep K (fun b => F b ∨ b ∈ as) H (.lst ds) v := by
  have s : Stb F H (fun b => F b ∨ b ∈ as) H := ⟨fun b h => .inl h, fun _ _ h => h, fun _ _ _ h => h, fun _ _ _ h => h, fun _ _ _ h => h⟩
  unfold Own OwnC at h
  unfold Rep
  obtain ⟨a, vs, e, h1, h2, h3⟩ := h
  exact ⟨a, vs, e, .inr (by rw [h3]; simp), h1, RepL.stb s _ _ h2⟩
/-- an own dict that is locked for good -/
theorem Own.lockD {K : Kc} {F : Addr → Prop} {H : Hp} {ks ds : List D} {v : V} {as : List Addr} (h : Own K F H (.dic ks ds) v as) : ∃ a kvs, v = .ref a ∧ as = [a] ∧ H a = some (.dK kvs) ∧
    ∀ F' od, Stb F H F' (upd H a (.frz od (.dK kvs))) → F' a → Rep K F' (upd H a (.frz od (.dK kvs))) (.dic ks ds) v := by
  unfold Own OwnC at h
  obtain ⟨a, kvs, e, h1, h4, h2, h3⟩ := h
  refine ⟨a, kvs, e, h3, h1, fun F' od s hf => ?_⟩
  unfold Rep
  exact ⟨a, od, kvs, e, hf, upd_same, h4, RepL.stb s.weak _ _ h2⟩

/-! ### the names of a frame -/
inductive Sl where
  | no | sh (d : D) | ow (d : D) | bo (k : Nat) (d : D)
abbrev Env := List Sl
def SlR (K : Kc) (F : Addr → Prop) (B : List Addr) (H : Hp) : Sl → Option V → List Addr → Prop
  | .no, _, as => as = []
  | .sh d, o, as => as = [] ∧ ∃ v, o = some v ∧ Rep K F H d v
  | .ow d, o, as => ∃ v, o = some v ∧ Own K F H d v as
  | .bo k d, o, as => ∃ a, o = some (.ref a) ∧ B[k]? = some a ∧ Own K F H d (.ref a) as
def EnvR (K : Kc) (F : Addr → Prop) (B : List Addr) (H : Hp) : Env → L2.St → List Addr → Prop
  | [], σ, as => σ = [] ∧ as = []
  | s :: ρ, σ, as => ∃ o r a1 a2, σ = o :: r ∧ as = a1 ++ a2 ∧ SlR K F B H s o a1 ∧ EnvR K F B H ρ r a2
structure Sit (K : Kc) (F : Addr → Prop) (B : List Addr) (H : Hp) (ρ : Env) (σ : L2.St) (as : List Addr) : Prop where
  env : EnvR K F B H ρ σ as
  nd : as.Nodup
  nf : ∀ a, a ∈ as → ¬ F a
  fk : ∀ b, F b → H b ≠ none

theorem SlR.stb {K : Kc} {F F2 : Addr → Prop} {B : List Addr} {H H2 : Hp} (s : Weak F H F2 H2) {x : Sl} {o : Option V} {as : List Addr} (h : SlR K F B H x o as) (k : Kept as H H2) : SlR K F2 B H2 x o as := by
  cases x <;> unfold SlR at h ⊢
  case no => exact h
  case sh d => obtain ⟨e, v, e2, r⟩ := h; exact ⟨e, v, e2, Rep.stb s _ _ r⟩
  case ow d => obtain ⟨v, e, r⟩ := h; exact ⟨v, e, r.stb s k⟩
  case bo n d => obtain ⟨a, e, e2, r⟩ := h; exact ⟨a, e, e2, r.stb s k⟩
theorem SlR.there {K : Kc} {F : Addr → Prop} {B : List Addr} {H : Hp} {x : Sl} {o : Option V} {as : List Addr} (h : SlR K F B H x o as) : ∀ a, a ∈ as → ∃ u, H a = some u := by
  cases x <;> unfold SlR at h
  case no => rw [h]; intro a m; cases m
  case sh d => rw [h.1]; intro a m; cases m
  case ow d => obtain ⟨v, e, r⟩ := h; exact r.there
  case bo n d => obtain ⟨a, e, e2, r⟩ := h; exact r.there
theorem EnvR.stb {K : Kc} {F F2 : Addr → Prop} {B : List Addr} {H H2 : Hp} (s : Weak F H F2 H2) : ∀ {ρ : Env} {σ : L2.St} {as : List Addr}, EnvR K F B H ρ σ as → Kept as H H2 → EnvR K F2 B H2 ρ σ as
  | [], _, _, h, _ => by unfold EnvR at h ⊢; exact h
  | x :: ρ, σ, as, h, k => by
    unfold EnvR at h ⊢
    obtain ⟨o, r, a1, a2, e1, e2, h1, h2⟩ := h
    subst e2
    exact ⟨o, r, a1, a2, e1, rfl, h1.stb s k.left, EnvR.stb s h2 k.right⟩
theorem EnvR.there {K : Kc} {F : Addr → Prop} {B : List Addr} {H : Hp} : ∀ {ρ : Env} {σ : L2.St} {as : List Addr}, EnvR K F B H ρ σ as → ∀ a, a ∈ as → ∃ u, H a = some u
  | [], _, _, h => by unfold EnvR at h; rw [h.2]; intro a m; cases m
  | x :: ρ, σ, as, h => by
    unfold EnvR at h
    obtain ⟨o, r, a1, a2, e1, e2, h1, h2⟩ := h
    subst e2
    intro b m
    exact (List.mem_append.mp m).elim (h1.there b) (EnvR.there h2 b)
theorem EnvR.length {K : Kc} {F : Addr → Prop} {B : List Addr} {H : Hp} : ∀ {ρ : Env} {σ : L2.St} {as : List Addr}, EnvR K F B H ρ σ as → σ.length = ρ.length
  | [], _, _, h => by unfold EnvR at h; rw [h.1]; rfl
  | x :: ρ, σ, as, h => by
    unfold EnvR at h
    obtain ⟨o, r, a1, a2, e1, e2, h1, h2⟩ := h
    subst e1
    simp [EnvR.length h2]
/-- one name, and the others around it -/
theorem EnvR.split {K : Kc} {F : Addr → Prop} {B : List Addr} {H : Hp} : ∀ {ρ : Env} {σ : L2.St} {as : List Addr} {i : Nat} {x : Sl}, EnvR K F B H ρ σ as → ρ[i]? = some x →
    ∃ o p a q, as = p ++ (a ++ q) ∧ σ[i]? = some o ∧ SlR K F B H x o a ∧
      ∀ {F2 : Addr → Prop} {H2 : Hp} (x' : Sl) (o' : Option V) (a' : List Addr), Stb F H F2 H2 → Kept (p ++ q) H H2 → SlR K F2 B H2 x' o' a' → EnvR K F2 B H2 (ρ.set i x') (σ.set i o') (p ++ (a' ++ q))
  | [], _, _, _, _, _, e => by simp at e
  | y :: ρ, σ, as, 0, x, h, e => by
    unfold EnvR at h
    obtain ⟨o, r, a1, a2, e1, e2, h1, h2⟩ := h
    subst e1 e2
    simp at e; subst e
    refine ⟨o, [], a1, a2, rfl, rfl, h1, fun x' o' a' s k h' => ?_⟩
    simp only [List.set_cons_zero, List.nil_append]
    unfold EnvR
    exact ⟨o', r, a', a2, rfl, rfl, h', h2.stb s (by simpa using k)⟩
  | y :: ρ, σ, as, i + 1, x, h, e => by
    unfold EnvR at h
    obtain ⟨o, r, a1, a2, e1, e2, h1, h2⟩ := h
    subst e1 e2
    obtain ⟨o2, p, a, q, ea, eo, hs, hr⟩ := EnvR.split (i := i) h2 (by simpa using e)
    subst ea
    refine ⟨o2, a1 ++ p, a, q, by simp, by simpa using eo, hs, fun x' o' a' s k h' => ?_⟩
    simp only [List.set_cons_succ]
    unfold EnvR
    refine ⟨o, r.set i o', a1, p ++ (a' ++ q), rfl, by simp, h1.stb s fun b m => k b (by simp [m]), hr x' o' a' s (fun b m => k b ?_) h'⟩
    rcases List.mem_append.mp m with m | m <;> simp [m]

/-- nothing of the frame's own was touched: the same names mean the same -/
theorem Sit.step {K : Kc} {F F2 : Addr → Prop} {B : List Addr} {H H2 : Hp} {ρ : Env} {σ : L2.St} {as : List Addr} (S : Sit K F B H ρ σ as) (e : Ext F [] H F2 [] H2) : Sit K F2 B H2 ρ σ as := by
  refine ⟨S.env.stb e.stb (Kept.of fun b u h => e.keep b u h (by simp)), S.nd, fun a m f => ?_, e.fk S.fk⟩
  rcases e.fnew a f with z | z | z
  · exact S.nf a m z
  · cases z
  · obtain ⟨u, q⟩ := S.env.there a m
    rw [q] at z; cases z
theorem ne_none {α : Type} {o : Option α} (h : ∃ u, o = some u) : o ≠ none := fun e => by
  obtain ⟨u, q⟩ := h
  rw [q] at e; cases e
theorem set_same {α : Type} : ∀ {l : List α} {i : Nat} {x : α}, l[i]? = some x → l.set i x = l
  | [], _, _, h => by simp at h
  | y :: l, 0, x, h => by simp at h; subst h; rfl
  | y :: l, i + 1, x, h => by
    simp only [List.set_cons_succ]
    rw [set_same (by simpa using h)]
end DV

/-! DV2: what an expression computes. -/
namespace DV
open L2 PySem PySem.Spec PyProof.Rows
abbrev kc (X : Cx) : Kc := ⟨X.K, X.mg⟩
abbrev FD := Env → Option (D × Env)
abbrev FW := Env → Option (D × Bool × Env)
abbrev FT := Env → Option (Bool × Env)
abbrev FL := Env → Option (List D × Env)
/-- an operand: a name (looked up late), or a value -/
inductive Opd where
  | at (i : Nat) | va (d : D)
abbrev FO := Env → Option (Opd × Env)

def tD (K : Kc) (g : FD) : TE := fun σ H Q => ∃ F B as ρ d ρ', Sit K F B H ρ σ as ∧ g ρ = some (d, ρ') ∧
  ∀ v H' F' as', Ext F as H F' as' H' → Sit K F' B H' ρ' σ as' → Rep K F' H' d v → Q v H'
structure Sit2 (K : Kc) (F : Addr → Prop) (B : List Addr) (H : Hp) (ρ : Env) (σ : L2.St) (as : List Addr) (d : D) (w : Bool) (v : V) (bs : List Addr) : Prop where
  env : EnvR K F B H ρ σ as
  nd : (bs ++ as).Nodup
  nf : ∀ a, a ∈ bs ++ as → ¬ F a
  fk : ∀ b, F b → H b ≠ none
  res : if w = true then Own K F H d v bs else bs = [] ∧ Rep K F H d v
def tW (K : Kc) (g : FW) : TE := fun σ H Q => ∃ F B as ρ d w ρ', Sit K F B H ρ σ as ∧ g ρ = some (d, w, ρ') ∧
  ∀ v H' F' as' bs, Ext F as H F' (bs ++ as') H' → Sit2 K F' B H' ρ' σ as' d w v bs → Q v H'
def tB (K : Kc) (g : FT) : TT := fun σ H Q => ∃ F B as ρ b ρ', Sit K F B H ρ σ as ∧ g ρ = some (b, ρ') ∧
  ∀ H' F' as', Ext F as H F' as' H' → Sit K F' B H' ρ' σ as' → Q b H'
def tL (K : Kc) (g : FL) : TA := fun σ H Q => ∃ F B as ρ ds ρ', Sit K F B H ρ σ as ∧ g ρ = some (ds, ρ') ∧
  ∀ vs H' F' as', Ext F as H F' as' H' → Sit K F' B H' ρ' σ as' → RepL K F' H' ds vs → Q vs H'
def OpdR (K : Kc) (F : Addr → Prop) (H : Hp) (σ : L2.St) : Opd → V → Prop
  | .va d, v => Rep K F H d v
  | .at i, v => σ[i]? = some (some v)
def tO (K : Kc) (g : FO) : TE := fun σ H Q => ∃ F B as ρ o ρ', Sit K F B H ρ σ as ∧ g ρ = some (o, ρ') ∧
  ∀ v H' F' as', Ext F as H F' as' H' → Sit K F' B H' ρ' σ as' → OpdR K F' H' σ o v → Q v H'

theorem PE.to {X : Cx} {e : Expr} {t t' : TE} (h : PE X e t) (c : ∀ σ H Q, t' σ H Q → t σ H Q) : PE X e t' := ⟨fun pins s σ H Q I hq => h.run pins s σ H Q I (c σ H Q hq)⟩
/-- the answer may be locked for good -/
def tLk (t : TE) : TE := fun σ H Q => t σ H fun v H1 => Q v H1 ∨ ∃ d u, H1 d = some u ∧ Mut (some u) ∧ ∀ od, Q v (upd H1 d (.frz od u))
theorem PE.lk {X : Cx} {e : Expr} {t : TE} (h : PE X e t) : PE X e (tLk t) := by
  refine ⟨fun pins s σ H Q I hq => thn (h.run pins s σ H _ I hq) fun v s1 ⟨x, H1, I1, r, q⟩ => ?_⟩
  rcases q with q | ⟨d, u, hd, mu, q⟩
  · exact ⟨x, H1, I1, r, q⟩
  · obtain ⟨od, I2⟩ := I1.lock hd mu
    exact ⟨x, _, I2, r, q od⟩
theorem PT.to {X : Cx} {e : Expr} {t t' : TT} (h : PT X e t) (c : ∀ σ H Q, t' σ H Q → t σ H Q) : PT X e t' := ⟨fun pins s σ H Q I hq => h.run pins s σ H Q I (c σ H Q hq)⟩
theorem PA.to {X : Cx} {es : List Expr} {t t' : TA} (h : PA X es t) (c : ∀ σ H Q, t' σ H Q → t σ H Q) : PA X es t' := ⟨fun pos pins s σ H Q I hq => h.run pos pins s σ H Q I (c σ H Q hq)⟩

/-! ### a thing that is looked at: its parts never change -/
def Vw (K : Kc) (F : Addr → Prop) (H : Hp) : D → V → Prop
  | .lst ds, v => ∃ a vs, v = .ref a ∧ H a = some (.lst vs) ∧ RepL K F H ds vs
  | .dic ks ds, v => ∃ a kvs, v = .ref a ∧ Rd H a (.dK kvs) ∧ ks = kvs.map (fun p => dkey p.1) ∧ RepL K F H ds (kvs.map (·.2))
  | .ins c ns os ds, v => ∃ as, OwnI K F H c ns os ds v as
  | d, v => Rep K F H d v
theorem Rep.vw {K : Kc} {F : Addr → Prop} {H : Hp} {d : D} {v : V} (h : Rep K F H d v) : Vw K F H d v := by
  cases d with
  | lst ds => unfold Rep at h; unfold Vw; obtain ⟨a, vs, e, _, h1, h2⟩ := h; exact ⟨a, vs, e, h1, h2⟩
  | dic ks ds => unfold Rep at h; unfold Vw; obtain ⟨a, o, kvs, e, _, h1, h3, h2⟩ := h; exact ⟨a, kvs, e, .inr ⟨o, h1⟩, h3, h2⟩
  | ins c ns os ds => unfold Rep at h; exact h.elim
  | _ => unfold Vw; exact h
theorem Own.vw {K : Kc} {F : Addr → Prop} {H : Hp} {d : D} {v : V} {as : List Addr} (h : Own K F H d v as) : Vw K F H d v := by
  cases d with
  | lst ds => unfold Own OwnC at h; unfold Vw; obtain ⟨a, vs, e, h1, h2, _⟩ := h; exact ⟨a, vs, e, h1, h2⟩
  | dic ks ds => unfold Own OwnC at h; unfold Vw; obtain ⟨a, vs, e, h1, h3, h2, _⟩ := h; exact ⟨a, vs, e, .inl h1, h3, h2⟩
  | ins c ns os ds => unfold Own at h; unfold Vw; exact ⟨as, h⟩
  | _ => unfold Own OwnC at h; exact h.elim

def look (ρ : Env) (i : Nat) : Option D := match ρ[i]? with
  | some (.sh d) => some d
  | some (.ow d) => some d
  | some (.bo _ d) => some d
  | _ => none
def res (ρ : Env) : Opd → Option D
  | .va d => some d
  | .at i => look ρ i
theorem Sit.look {K : Kc} {F : Addr → Prop} {B : List Addr} {H : Hp} {ρ : Env} {σ : L2.St} {as : List Addr} (S : Sit K F B H ρ σ as) {i : Nat} {d : D} {v : V} (e : look ρ i = some d) (hv : σ[i]? = some (some v)) : Vw K F H d v := by
  unfold DV.look at e
  split at e
  · rename_i d' q
    cases e
    obtain ⟨o, p, a, qq, _, eo, hs, _⟩ := S.env.split q
    rw [hv] at eo; cases eo
    unfold SlR at hs
    obtain ⟨_, v', e1, r⟩ := hs
    cases e1; exact r.vw
  · rename_i d' q
    cases e
    obtain ⟨o, p, a, qq, _, eo, hs, _⟩ := S.env.split q
    rw [hv] at eo; cases eo
    unfold SlR at hs
    obtain ⟨v', e1, r⟩ := hs
    cases e1; exact r.vw
  · rename_i k d' q
    cases e
    obtain ⟨o, p, a, qq, _, eo, hs, _⟩ := S.env.split q
    rw [hv] at eo; cases eo
    unfold SlR at hs
    obtain ⟨v', e1, _, r⟩ := hs
    cases e1; exact r.vw
  · cases e
theorem Sit.there {K : Kc} {F : Addr → Prop} {B : List Addr} {H : Hp} {ρ : Env} {σ : L2.St} {as : List Addr} (S : Sit K F B H ρ σ as) {i : Nat} {d : D} (e : DV.look ρ i = some d) : ∃ v, σ[i]? = some (some v) := by
  unfold DV.look at e
  split at e
  · rename_i d' q
    obtain ⟨o, p, a, qq, _, eo, hs, _⟩ := S.env.split q
    unfold SlR at hs
    obtain ⟨_, v', e1, r⟩ := hs
    subst e1; exact ⟨v', eo⟩
  · rename_i d' q
    obtain ⟨o, p, a, qq, _, eo, hs, _⟩ := S.env.split q
    unfold SlR at hs
    obtain ⟨v', e1, r⟩ := hs
    subst e1; exact ⟨v', eo⟩
  · rename_i k d' q
    obtain ⟨o, p, a, qq, _, eo, hs, _⟩ := S.env.split q
    unfold SlR at hs
    obtain ⟨v', e1, _, r⟩ := hs
    subst e1; exact ⟨_, eo⟩
  · cases e
theorem Sit.res {K : Kc} {F : Addr → Prop} {B : List Addr} {H : Hp} {ρ : Env} {σ : L2.St} {as : List Addr} (S : Sit K F B H ρ σ as) {o : Opd} {d : D} {v : V} (e : DV.res ρ o = some d) (h : OpdR K F H σ o v) : Vw K F H d v := by
  cases o with
  | va d' => cases e; exact Rep.vw h
  | «at» i => exact S.look e h
theorem OpdR.stb {K : Kc} {F F2 : Addr → Prop} {H H2 : Hp} {σ : L2.St} (s : Stb F H F2 H2) {o : Opd} {v : V} (h : OpdR K F H σ o v) : OpdR K F2 H2 σ o v := by
  cases o with
  | va d => exact Rep.stb s _ _ h
  | «at» i => exact h

/-- two in a row -/
theorem seqOO {K : Kc} {ga gb : FO} {σ : L2.St} {H : Hp} {R : V → V → Hp → Prop} {F : Addr → Prop} {B : List Addr} {as : List Addr} {ρ ρ1 ρ2 : Env} {x y : Opd} (S : Sit K F B H ρ σ as) (e1 : ga ρ = some (x, ρ1)) (e2 : gb ρ1 = some (y, ρ2))
    (h : ∀ vx vy H2 F2 as2, Ext F as H F2 as2 H2 → Sit K F2 B H2 ρ2 σ as2 → OpdR K F2 H2 σ x vx → OpdR K F2 H2 σ y vy → R vx vy H2) : tO K ga σ H fun vx H1 => tO K gb σ H1 fun vy H2 => R vx vy H2 :=
  ⟨F, B, as, ρ, x, ρ1, S, e1, fun vx H1 F1 as1 E1 S1 r1 => ⟨F1, B, as1, ρ1, y, ρ2, S1, e2, fun vy H2 F2 as2 E2 S2 r2 => h vx vy H2 F2 as2 (E1.trans E2) S2 (r1.stb E2.stb) r2⟩⟩

section
variable {X : Cx} {pos : Pos}
/-! ### constants and names -/
theorem cd_int {i j} : PE X (.Constant (.int i) j pos) (tD (kc X) fun ρ => some (.int i, ρ)) := PE.to pe_int fun σ H Q ⟨F, B, as, ρ, d, ρ', S, e, h⟩ => by
  cases e; exact h _ H F as .refl S (by unfold Rep; rfl)
theorem cd_bl {i j} : PE X (.Constant (.bool i) j pos) (tD (kc X) fun ρ => some (.bl i, ρ)) := PE.to pe_bl fun σ H Q ⟨F, B, as, ρ, d, ρ', S, e, h⟩ => by
  cases e; exact h _ H F as .refl S (by unfold Rep; rfl)
theorem cd_non {j} : PE X (.Constant .none j pos) (tD (kc X) fun ρ => some (.non, ρ)) := PE.to pe_non fun σ H Q ⟨F, B, as, ρ, d, ρ', S, e, h⟩ => by
  cases e; exact h _ H F as .refl S (by unfold Rep; rfl)
theorem cd_str {i j} : PE X (.Constant (.str i) j pos) (tD (kc X) fun ρ => some (.str i, ρ)) := PE.to pe_str fun σ H Q ⟨F, B, as, ρ, d, ρ', S, e, h⟩ => by
  cases e; exact h _ H F as .refl S (by unfold Rep; rfl)
/-- a constant of the module -/
structure GlD (X : Cx) (x : Str) (d : D) : Prop where
  gl : Gl X x
  at_ : ∃ u v, X.mg x = some u ∧ RelV v u ∧ ∀ F H, Rep (kc X) F H d v
theorem cd_glob {x : Str} {d : D} (G : GlD X x d) (hd : (x == ("__debug__" : Str)) = false := by decide) : PE X (.Name x pos) (tD (kc X) fun ρ => some (d, ρ)) := by
  obtain ⟨u, v, hm, r, hr⟩ := G.at_
  exact PE.to (pe_glob G.gl hm r hd) fun σ H Q ⟨F, B, as, ρ, d, ρ', S, e, h⟩ => by cases e; exact h _ H F as .refl S (hr F H)
/-- a built-in type as a value -/
theorem cd_type {x : Str} {n : String} (hg : Gl X x) (hm : X.mg x = none) (hv : bootBuiltins x = some (.type n)) (hn : x ≠ "__name__" := by decide) (hd : (x == ("__debug__" : Str)) = false := by decide) : PE X (.Name x pos) (tD (kc X) fun ρ => some (.ty n, ρ)) :=
  PE.to (pe_bltn (v := .ty n) hg hm hv rfl hn hd) fun σ H Q ⟨F, B, as, ρ, d, ρ', S, e, h⟩ => by cases e; exact h _ H F as .refl S (by unfold Rep; rfl)
def gNm (i : Nat) : FD := fun ρ => match ρ[i]? with
  | some (.sh d) => some (d, ρ)
  | some (.ow d) => if isC d = true then some (d, ρ.set i (.sh d)) else none
  | _ => none
theorem nodup_mid {p a q : List Addr} (h : (p ++ (a ++ q)).Nodup) : (p ++ q).Nodup ∧ ∀ b, b ∈ p ++ q → b ∉ a := by
  rw [List.nodup_append] at h
  obtain ⟨h1, h2, h3⟩ := h
  rw [List.nodup_append] at h2
  obtain ⟨h4, h5, h6⟩ := h2
  refine ⟨List.nodup_append.mpr ⟨h1, h5, fun x hx y hy => h3 x hx y (List.mem_append_right _ hy)⟩, fun b hb ha => ?_⟩
  rcases List.mem_append.mp hb with hb | hb
  · exact h3 b hb b (List.mem_append_left _ ha) rfl
  · exact h6 b ha b hb rfl
/-- an own list of a name is shared from now on -/
theorem Sit.freeze {K : Kc} {F : Addr → Prop} {B : List Addr} {H : Hp} {ρ : Env} {σ : L2.St} {as : List Addr} (S : Sit K F B H ρ σ as) {i : Nat} {ds : List D} (e : ρ[i]? = some (.ow (.lst ds))) :
    ∃ v F' as', σ[i]? = some (some v) ∧ Ext F as H F' as' H ∧ Sit K F' B H (ρ.set i (.sh (.lst ds))) σ as' ∧ Rep K F' H (.lst ds) v := by
  obtain ⟨o, p, a, q, ea, eo, hs, hr⟩ := S.env.split e
  unfold SlR at hs
  obtain ⟨v, e1, r⟩ := hs
  subst e1 ea
  have fz := r.frozen
  obtain ⟨n1, n2⟩ := nodup_mid S.nd
  have th : ∀ b, b ∈ a → H b ≠ none := fun b m => ne_none (r.there b m)
  refine ⟨v, fun b => F b ∨ b ∈ a, p ++ q, eo, Ext.freeze (fun b m => by simp [m]) (fun b m => ?_) th, ⟨?_, n1, fun b m f => ?_, fun b h => h.elim (S.fk b) (th b)⟩, fz⟩
  · rcases List.mem_append.mp m with m | m <;> simp [m]
  · have s : Stb F H (fun b => F b ∨ b ∈ a) H := ⟨fun b h => .inl h, fun _ _ h => h, fun _ _ _ h => h, fun _ _ _ h => h, fun _ _ _ h => h⟩
    have z := hr (.sh (.lst ds)) (some v) [] s (Kept.of fun _ _ h => h) (by unfold SlR; exact ⟨rfl, v, rfl, fz⟩)
    rw [set_same eo] at z
    simpa using z
  · rcases f with f | f
    · refine S.nf b ?_ f
      rcases List.mem_append.mp m with m | m <;> simp [m]
    · exact n2 b m f
/-- an own dict of a name is locked for good -/
theorem Sit.lockD {K : Kc} {F : Addr → Prop} {B : List Addr} {H : Hp} {ρ : Env} {σ : L2.St} {as : List Addr} (S : Sit K F B H ρ σ as) {i : Nat} {ks ds : List D} (e : ρ[i]? = some (.ow (.dic ks ds))) :
    ∃ v a kvs as', σ[i]? = some (some v) ∧ H a = some (.dK kvs) ∧ ∀ od, Ext F as H (fun b => F b ∨ b ∈ [a]) as' (upd H a (.frz od (.dK kvs))) ∧ Sit K (fun b => F b ∨ b ∈ [a]) B (upd H a (.frz od (.dK kvs))) (ρ.set i (.sh (.dic ks ds))) σ as' ∧ Rep K (fun b => F b ∨ b ∈ [a]) (upd H a (.frz od (.dK kvs))) (.dic ks ds) v := by
  obtain ⟨o, p, aa, q, ea, eo, hs, hr⟩ := S.env.split e
  unfold SlR at hs
  obtain ⟨v, e1, r⟩ := hs
  subst e1 ea
  obtain ⟨a, kvs, e2, e3, h1, fin⟩ := r.lockD
  subst e3
  obtain ⟨n1, n2⟩ := nodup_mid S.nd
  have ma : a ∈ p ++ ([a] ++ q) := by simp
  refine ⟨v, a, kvs, p ++ q, eo, h1, fun od => ?_⟩
  have E1 : Ext F (p ++ ([a] ++ q)) H F (p ++ ([a] ++ q)) (upd H a (.frz od (.dK kvs))) := Ext.write h1 (fun _ z => by cases z) (fun _ _ z => by cases z) ma (S.nf a ma)
  have E2 : Ext F (p ++ ([a] ++ q)) (upd H a (.frz od (.dK kvs))) (fun b => F b ∨ b ∈ [a]) (p ++ q) (upd H a (.frz od (.dK kvs))) := Ext.freeze (fun b m => by rw [List.mem_singleton.mp m]; exact ma) (fun b m => by
    rcases List.mem_append.mp m with m | m <;> simp [m]) (fun b m => by rw [List.mem_singleton.mp m, upd_same]; exact fun z => by cases z)
  have E := E1.trans E2
  have rep := fin (fun b => F b ∨ b ∈ [a]) od E.stb (.inr (by simp))
  have z := hr (.sh (.dic ks ds)) (some v) [] E.stb (fun b m u hb => by rw [upd_ne (fun e => n2 b m (by rw [e]; simp))]; exact hb) (by unfold SlR; exact ⟨rfl, v, rfl, rep⟩)
  rw [set_same eo] at z
  refine ⟨E, ⟨by simpa using z, n1, fun b m f => ?_, E.fk S.fk⟩, rep⟩
  rcases f with f | f
  · refine S.nf b ?_ f
    rcases List.mem_append.mp m with m | m <;> simp [m]
  · exact n2 b m f
theorem cd_name {i : Nat} {x : Str} (hN : X.N[i]? = some x := by rfl) (hv : Vis X.env.scope x := by first | exact Or.inl rfl | exact Or.inr (Or.inl rfl) | exact Or.inr (Or.inr rfl)) (hd : (x == ("__debug__" : Str)) = false := by decide)
    (hcd : (x == ("__classdict__" : Str)) = false := by decide) : PE X (.Name x pos) (tD (kc X) (gNm i)) := PE.to (PE.lk (pe_var hN hv hd hcd)) fun σ H Q ⟨F, B, as, ρ, d, ρ', S, e, h⟩ => by
  unfold gNm at e
  split at e
  · rename_i d' q
    cases e
    obtain ⟨o, p, a, qq, _, eo, hs, _⟩ := S.env.split q
    unfold SlR at hs
    obtain ⟨_, v, e1, r⟩ := hs
    subst e1
    exact ⟨v, eo, .inl (h v H F as .refl S r)⟩
  · rename_i d' q
    split at e
    · rename_i hc
      cases e
      cases d with
      | lst ds =>
        obtain ⟨v, F', as', ev, E, S', r⟩ := S.freeze q
        exact ⟨v, ev, .inl (h v H F' as' E S' r)⟩
      | dic ks ds =>
        obtain ⟨v, a, kvs, as', ev, h1, fin⟩ := S.lockD q
        exact ⟨v, ev, .inr ⟨a, _, h1, True.intro, fun od => h v _ _ as' (fin od).1 (fin od).2.1 (fin od).2.2⟩⟩
      | _ => exact absurd hc (by simp [isC])
    · cases e
  · cases e
/-- a name as an operand -/
theorem co_name {i : Nat} {x : Str} (hN : X.N[i]? = some x := by rfl) (hv : Vis X.env.scope x := by first | exact Or.inl rfl | exact Or.inr (Or.inl rfl) | exact Or.inr (Or.inr rfl)) (hd : (x == ("__debug__" : Str)) = false := by decide)
    (hcd : (x == ("__classdict__" : Str)) = false := by decide) : PE X (.Name x pos) (tO (kc X) fun ρ => (look ρ i).map fun _ => (.at i, ρ)) := PE.to (pe_var hN hv hd hcd) fun σ H Q ⟨F, B, as, ρ, o, ρ', S, e, h⟩ => by
  obtain ⟨d, hl, e2⟩ := Option.map_eq_some_iff.mp e
  cases e2
  obtain ⟨v, ev⟩ := S.there hl
  exact ⟨v, ev, h v H F as .refl S ev⟩
theorem co_of {e : Expr} {g : FD} (h : PE X e (tD (kc X) g)) : PE X e (tO (kc X) fun ρ => (g ρ).map fun p => (.va p.1, p.2)) := PE.to h fun σ H Q ⟨F, B, as, ρ, o, ρ', S, e, h⟩ => by
  obtain ⟨p, hl, e2⟩ := Option.map_eq_some_iff.mp e
  cases e2
  exact ⟨F, B, as, ρ, p.1, p.2, S, hl, fun v H' F' as' E S' r => h v H' F' as' E S' r⟩

/-! ### owned results -/
theorem cw_of {e : Expr} {g : FD} (h : PE X e (tD (kc X) g)) : PE X e (tW (kc X) fun ρ => (g ρ).map fun p => (p.1, false, p.2)) := PE.to h fun σ H Q ⟨F, B, as, ρ, d, w, ρ', S, e, h⟩ => by
  obtain ⟨p, hl, e2⟩ := Option.map_eq_some_iff.mp e
  cases e2
  exact ⟨F, B, as, ρ, p.1, p.2, S, hl, fun v H' F' as' E S' r => h v H' F' as' [] E ⟨S'.env, S'.nd, S'.nf, S'.fk, by simp [r]⟩⟩
def shW (g : FW) : FD := fun ρ => match g ρ with
  | some (d, true, ρ') => if isC d = true then some (d, ρ') else none
  | some (d, false, ρ') => some (d, ρ')
  | none => none
theorem Sit2.frozen {K : Kc} {F : Addr → Prop} {B : List Addr} {H : Hp} {ρ : Env} {σ : L2.St} {as : List Addr} {ds : List D} {v : V} {bs : List Addr} (S : Sit2 K F B H ρ σ as (.lst ds) true v bs) :
    Ext F (bs ++ as) H (fun b => F b ∨ b ∈ bs) as H ∧ Sit K (fun b => F b ∨ b ∈ bs) B H ρ σ as ∧ Rep K (fun b => F b ∨ b ∈ bs) H (.lst ds) v := by
  have r := S.res
  simp only [if_true] at r
  have s : Stb F H (fun b => F b ∨ b ∈ bs) H := ⟨fun b h => .inl h, fun _ _ h => h, fun _ _ _ h => h, fun _ _ _ h => h, fun _ _ _ h => h⟩
  have n := List.nodup_append.mp S.nd
  have th : ∀ b, b ∈ bs → H b ≠ none := fun b m => ne_none (r.there b m)
  refine ⟨Ext.freeze (fun b m => by simp [m]) (fun b m => by simp [m]) th, ⟨S.env.stb s (Kept.of fun _ _ h => h), n.2.1, fun b m f => ?_, fun b h => h.elim (S.fk b) (th b)⟩, r.frozen⟩
  rcases f with f | f
  · exact S.nf b (List.mem_append_right _ m) f
  · exact n.2.2 b f b m rfl
theorem Sit2.lockD {K : Kc} {F : Addr → Prop} {B : List Addr} {H : Hp} {ρ : Env} {σ : L2.St} {as : List Addr} {ks ds : List D} {v : V} {bs : List Addr} (S : Sit2 K F B H ρ σ as (.dic ks ds) true v bs) :
    ∃ a kvs, H a = some (.dK kvs) ∧ ∀ od, Ext F (bs ++ as) H (fun b => F b ∨ b ∈ [a]) as (upd H a (.frz od (.dK kvs))) ∧ Sit K (fun b => F b ∨ b ∈ [a]) B (upd H a (.frz od (.dK kvs))) ρ σ as ∧ Rep K (fun b => F b ∨ b ∈ [a]) (upd H a (.frz od (.dK kvs))) (.dic ks ds) v := by
  have r := S.res
  simp only [if_true] at r
  obtain ⟨a, kvs, e2, e3, h1, fin⟩ := r.lockD
  subst e3
  have n := List.nodup_append.mp S.nd
  have ma : a ∈ [a] ++ as := by simp
  refine ⟨a, kvs, h1, fun od => ?_⟩
  have E1 : Ext F ([a] ++ as) H F ([a] ++ as) (upd H a (.frz od (.dK kvs))) := Ext.write h1 (fun _ z => by cases z) (fun _ _ z => by cases z) ma (S.nf a ma)
  have E2 : Ext F ([a] ++ as) (upd H a (.frz od (.dK kvs))) (fun b => F b ∨ b ∈ [a]) as (upd H a (.frz od (.dK kvs))) := Ext.freeze (fun b m => by rw [List.mem_singleton.mp m]; exact ma) (fun b m => by simp [m]) (fun b m => by rw [List.mem_singleton.mp m, upd_same]; exact fun z => by cases z)
  have E := E1.trans E2
  refine ⟨E, ⟨S.env.stb E.stb.weak (fun b m u hb => by rw [upd_ne (fun e => n.2.2 a (by simp) b m e.symm)]; exact hb), n.2.1, fun b m f => ?_, E.fk S.fk⟩, fin _ od E.stb (.inr (by simp))⟩
  rcases f with f | f
  · exact S.nf b (List.mem_append_right _ m) f
  · exact n.2.2 b f b m rfl
theorem Sit2.plain {K : Kc} {F : Addr → Prop} {B : List Addr} {H : Hp} {ρ : Env} {σ : L2.St} {as : List Addr} {d : D} {v : V} {bs : List Addr} (S : Sit2 K F B H ρ σ as d false v bs) : bs = [] ∧ Sit K F B H ρ σ as ∧ Rep K F H d v := by
  have r := S.res
  simp only [Bool.false_eq_true, if_false] at r
  obtain ⟨rfl, r⟩ := r
  exact ⟨rfl, ⟨S.env, S.nd, S.nf, S.fk⟩, r⟩
theorem cd_of {e : Expr} {g : FW} (h : PE X e (tW (kc X) g)) : PE X e (tD (kc X) (shW g)) := PE.to (PE.lk h) fun σ H Q ⟨F, B, as, ρ, d, ρ', S, e, h⟩ => by
  unfold shW at e
  split at e
  · rename_i d' ρ2 q
    split at e
    · rename_i hc
      cases e
      refine ⟨F, B, as, ρ, _, true, _, S, q, fun v H' F' as' bs E S' => ?_⟩
      cases d with
      | lst ds =>
        obtain ⟨E2, S2, r⟩ := S'.frozen
        exact .inl (h v H' _ as' (E.trans E2) S2 r)
      | dic ks ds =>
        obtain ⟨a, kvs, h1, fin⟩ := S'.lockD
        exact .inr ⟨a, _, h1, True.intro, fun od => h v _ _ as' (E.trans (fin od).1) (fin od).2.1 (fin od).2.2⟩
      | _ => exact absurd hc (by simp [isC])
    · cases e
  · rename_i d' ρ2 q
    cases e
    refine ⟨F, B, as, ρ, _, false, _, S, q, fun v H' F' as' bs E S' => ?_⟩
    obtain ⟨rfl, S2, r⟩ := S'.plain
    exact .inl (h v H' F' as' E S2 r)
  · cases e
/-- a name that is given up (returned) -/
def gMv (i : Nat) : FW := fun ρ => match ρ[i]? with
  | some (.sh d) => some (d, false, ρ)
  | some (.ow d) => some (d, true, ρ.set i .no)
  | _ => none
theorem cw_move {i : Nat} {x : Str} (hN : X.N[i]? = some x := by rfl) (hv : Vis X.env.scope x := by first | exact Or.inl rfl | exact Or.inr (Or.inl rfl) | exact Or.inr (Or.inr rfl)) (hd : (x == ("__debug__" : Str)) = false := by decide)
    (hcd : (x == ("__classdict__" : Str)) = false := by decide) : PE X (.Name x pos) (tW (kc X) (gMv i)) := PE.to (pe_var hN hv hd hcd) fun σ H Q ⟨F, B, as, ρ, d, w, ρ', S, e, h⟩ => by
  unfold gMv at e
  split at e
  · rename_i d' q
    cases e
    obtain ⟨o, p, a, qq, _, eo, hs, _⟩ := S.env.split q
    unfold SlR at hs
    obtain ⟨_, v, e1, r⟩ := hs
    subst e1
    exact ⟨v, eo, h v H F as [] .refl ⟨S.env, S.nd, S.nf, S.fk, by simp [r]⟩⟩
  · rename_i d' q
    cases e
    obtain ⟨o, p, a, qq, ea, eo, hs, hr⟩ := S.env.split q
    unfold SlR at hs
    obtain ⟨v, e1, r⟩ := hs
    subst e1 ea
    obtain ⟨n1, n2⟩ := nodup_mid S.nd
    have z := hr .no (some v) [] .refl (Kept.of fun _ _ h => h) (by unfold SlR; rfl)
    rw [set_same eo] at z
    have na : a.Nodup := by
      have := List.nodup_append.mp S.nd
      exact (List.nodup_append.mp this.2.1).1
    have mem : ∀ b, b ∈ a ++ (p ++ qq) → b ∈ p ++ (a ++ qq) := fun b m => by
      simp only [List.mem_append] at m ⊢
      rcases m with m | m | m <;> simp [m]
    refine ⟨v, eo, h v H F (p ++ qq) a (Ext.refl.sub mem) ⟨by simpa using z, List.nodup_append.mpr ⟨na, n1, fun x hx y hy e => n2 y hy (e ▸ hx)⟩, fun b m => S.nf b (mem b m), S.fk, by simp [r]⟩⟩
  · cases e

/-! ### argument lists -/
theorem cl_nil : PA X [] (tL (kc X) fun ρ => some ([], ρ)) := PA.to pa_nil fun σ H Q ⟨F, B, as, ρ, d, ρ', S, e, h⟩ => by
  cases e; exact h _ H F as .refl S RepL.nil
def gCons (ga : FD) (gr : FL) : FL := fun ρ => match ga ρ with
  | some (d, ρ1) => match gr ρ1 with
    | some (ds, ρ2) => some (d :: ds, ρ2)
    | none => none
  | none => none
theorem gCons_some {ga : FD} {gr : FL} {ρ : Env} {ds : List D} {ρ' : Env} (h : gCons ga gr ρ = some (ds, ρ')) : ∃ d ρ1 r, ga ρ = some (d, ρ1) ∧ gr ρ1 = some (r, ρ') ∧ ds = d :: r := by
  unfold gCons at h
  split at h
  · rename_i d ρ1 q
    split at h
    · rename_i r ρ2 q2
      cases h
      exact ⟨d, ρ1, r, q, q2, rfl⟩
    · cases h
  · cases h
theorem cl_cons {e : Expr} {es : List Expr} {ga : FD} {gr : FL} (ha : PE X e (tD (kc X) ga)) (hr : PA X es (tL (kc X) gr)) (hs : starEach (e :: es) X.env = (false, eval e X.env) :: starEach es X.env := by rfl) : PA X (e :: es) (tL (kc X) (gCons ga gr)) :=
  PA.to (pa_cons ha hr hs) fun σ H Q ⟨F, B, as, ρ, ds, ρ', S, e, h⟩ => by
    obtain ⟨d, ρ1, r, e1, e2, rfl⟩ := gCons_some e
    exact ⟨F, B, as, ρ, d, ρ1, S, e1, fun v H1 F1 as1 E1 S1 r1 => ⟨F1, B, as1, ρ1, r, ρ', S1, e2, fun vs H2 F2 as2 E2 S2 r2 => h _ H2 F2 as2 (E1.trans E2) S2 (RepL.cons (Rep.stb E2.stb _ _ r1) r2)⟩⟩

/-! ### displays -/
def SZ : Nat := 100000
theorem sz_le {n : Nat} (h : n ≤ SZ) : n ≤ sizeLine := by rw [sizeLine_eq]; unfold SZ at h; omega
theorem sz_lt {n : Nat} (h : n ≤ SZ) : n < sizeLine := by rw [sizeLine_eq]; unfold SZ at h; omega
theorem Rep.newF {K : Kc} {F : Addr → Prop} {H : Hp} {p : Addr} {o : HO} (hp : H p = none) {as : List Addr} : Stb F H (fun b => F b ∨ b = p) (upd H p o) := (Ext.newF (as := as) hp).stb
/-- a new tuple -/
theorem new_tup {K : Kc} {F : Addr → Prop} {H : Hp} {p : Addr} {ob : Obj} {ds : List D} {vs : List V} (hd : ob.dict = none) (hp : H p = none) (r : RepL K F H ds vs) : Ext F [] H F [] (upd H p (.frz ob (.tup vs))) ∧ Rep K F (upd H p (.frz ob (.tup vs))) (.tup ds) (.ref p) := by
  have E : Ext F [] H F [p] (upd H p (.frz ob (.tup vs))) := Ext.newO hp
  refine ⟨E.sub (fun b m => by cases m), ?_⟩
  unfold Rep
  exact ⟨p, vs, rfl, SqZ.of upd_same hd, RepL.stb E.stb _ _ r⟩
def gTup (g : FL) : FD := fun ρ => match g ρ with
  | some (ds, ρ') => if ds.length ≤ SZ then some (.tup ds, ρ') else none
  | none => none
theorem cd_tup {es : List Expr} {g : FL} {k} (h : PA X es (tL (kc X) g)) : PE X (.Tuple es k pos) (tD (kc X) (gTup g)) := PE.to (pe_tupZ h) fun σ H Q ⟨F, B, as, ρ, d, ρ', S, e, h⟩ => by
  unfold gTup at e
  split at e
  · rename_i ds ρ2 q
    split at e
    · rename_i hz
      cases e
      refine ⟨F, B, as, ρ, ds, _, S, q, fun vs H' F' as' E S' r => ⟨sz_le (by rw [r.length]; exact hz), fun p ob hd hp => ?_⟩⟩
      obtain ⟨E2, r2⟩ := new_tup hd hp r
      exact h _ _ F' as' (E.trans E2.pure) (S'.step E2) r2
    · cases e
  · cases e
/-- a fresh own container -/
theorem new_own {K : Kc} {F : Addr → Prop} {B : List Addr} {H : Hp} {ρ : Env} {σ : L2.St} {as : List Addr} {p : Addr} {o : HO} {d : D} (hp : H p = none) (S : Sit K F B H ρ σ as) (r : Own K F (upd H p o) d (.ref p) [p]) :
    Ext F as H F ([p] ++ as) (upd H p o) ∧ Sit2 K F B (upd H p o) ρ σ as d true (.ref p) [p] := by
  have E : Ext F as H F (p :: as) (upd H p o) := Ext.newO hp
  have hf : ¬ F p := fun f => S.fk p f hp
  refine ⟨E, ⟨S.env.stb E.stb (Kept.of fun b u h => by rw [upd_ne (ne_of_none h hp)]; exact h), ?_, fun b m => ?_, E.fk S.fk, by simp only [if_true]; exact r⟩⟩
  · refine List.nodup_cons.mpr ⟨fun m => ?_, S.nd⟩
    obtain ⟨u, q⟩ := S.env.there p m
    rw [hp] at q; cases q
  · rcases List.mem_cons.mp m with m | m
    · rw [m]; exact hf
    · exact S.nf b m
end
end DV

/-! DV3: operators, comparisons, subscripts, tests, built-ins. -/
namespace DV
open L2 PySem PySem.Spec PyProof.Rows

/-! ### data as the library's data -/
mutual
def toPy : D → PyData
  | .non => .none
  | .bl b => .bool b
  | .int i => .int i
  | .str x => .str x
  | .lst xs => .list (toPyL xs)
  | .tup xs => .tuple (toPyL xs)
  | .ty _ => .dict []
  | .fn _ => .dict []
  | .dic _ _ => .dict []
  | .scr _ => .dict []
  | .ins _ _ _ _ => .dict []
def toPyL : List D → List PyData
  | [] => []
  | d :: ds => toPy d :: toPyL ds
end
def okPy (d : D) : Bool := SeqAt.shaped (toPy d)
mutual
theorem Rep.dp {K : Kc} {F : Addr → Prop} {H : Hp} : ∀ (d : D) (v : V), Rep K F H d v → (toPy d).canLay0 = true → Dp K.K H v (toPy d)
  | .non, v, h, _ => by unfold Rep at h; subst h; unfold toPy; exact .non
  | .bl b, v, h, _ => by unfold Rep at h; subst h; unfold toPy; exact .bl b
  | .int i, v, h, _ => by unfold Rep at h; subst h; unfold toPy; exact .int i
  | .str x, v, h, _ => by unfold Rep at h; subst h; unfold toPy; exact .str x
  | .lst ds, v, h, c => by
    unfold Rep at h
    obtain ⟨a, vs, rfl, _, h1, h2⟩ := h
    unfold toPy at c ⊢
    exact .lst (SqL.of h1) (RepL.dp ds vs h2 (by simpa [PyData.canLay0] using c))
  | .tup ds, v, h, c => by
    unfold Rep at h
    obtain ⟨a, vs, rfl, h1, h2⟩ := h
    unfold toPy at c ⊢
    exact .tup h1 (RepL.dp ds vs h2 (by simpa [PyData.canLay0] using c))
  | .ty _, _, _, c => by simp [toPy, PyData.canLay0] at c
  | .fn _, _, _, c => by simp [toPy, PyData.canLay0] at c
  | .dic _ _, _, _, c => by simp [toPy, PyData.canLay0] at c
  | .scr _, _, _, c => by simp [toPy, PyData.canLay0] at c
  | .ins _ _ _ _, _, _, c => by simp [toPy, PyData.canLay0] at c
theorem RepL.dp {K : Kc} {F : Addr → Prop} {H : Hp} : ∀ (ds : List D) (vs : List V), RepL K F H ds vs → PyData.canLayAll0 (toPyL ds) = true → DpAll K.K H vs (toPyL ds)
  | [], vs, h, _ => by unfold RepL at h; subst h; unfold toPyL; exact .nil
  | d :: ds, vs, h, c => by
    unfold RepL at h
    obtain ⟨v, r, rfl, h1, h2⟩ := h
    unfold toPyL at c ⊢
    simp only [PyData.canLayAll0, Bool.and_eq_true] at c
    exact .cons (Rep.dp d v h1 c.1) (RepL.dp ds r h2 c.2)
end
theorem Vw.dp {K : Kc} {F : Addr → Prop} {H : Hp} {d : D} {v : V} (h : Vw K F H d v) (c : okPy d = true) : Dp K.K H v (toPy d) := by
  have c := SeqAt.canLay_of_shaped c
  cases d with
  | lst ds =>
    unfold Vw at h
    obtain ⟨a, vs, rfl, h1, h2⟩ := h
    unfold toPy at c ⊢
    exact .lst (SqL.of h1) (RepL.dp ds vs h2 (by simpa [PyData.canLay0] using c))
  | dic ks ds => simp [toPy, PyData.canLay0] at c
  | ins _ _ _ _ => simp [toPy, PyData.canLay0] at c
  | _ => unfold Vw at h; exact Rep.dp _ _ h c

/-! ### values that are not objects -/
theorem Vw.int {K : Kc} {F : Addr → Prop} {H : Hp} {i : Int} {v : V} (h : Vw K F H (.int i) v) : v = .int i := by unfold Vw Rep at h; exact h
theorem Vw.str {K : Kc} {F : Addr → Prop} {H : Hp} {i : Str} {v : V} (h : Vw K F H (.str i) v) : v = .str i := by unfold Vw Rep at h; exact h
theorem Vw.bl {K : Kc} {F : Addr → Prop} {H : Hp} {i : Bool} {v : V} (h : Vw K F H (.bl i) v) : v = .bl i := by unfold Vw Rep at h; exact h
theorem Vw.non {K : Kc} {F : Addr → Prop} {H : Hp} {v : V} (h : Vw K F H .non v) : v = .non := by unfold Vw Rep at h; exact h
theorem Vw.tup {K : Kc} {F : Addr → Prop} {H : Hp} {ds : List D} {v : V} (h : Vw K F H (.tup ds) v) : ∃ a vs, v = .ref a ∧ SqZ K.K H a vs ∧ RepL K F H ds vs := by unfold Vw Rep at h; exact h
theorem Vw.lst {K : Kc} {F : Addr → Prop} {H : Hp} {ds : List D} {v : V} (h : Vw K F H (.lst ds) v) : ∃ a vs, v = .ref a ∧ H a = some (.lst vs) ∧ RepL K F H ds vs := by unfold Vw at h; exact h
theorem Rep.int' {K : Kc} {F : Addr → Prop} {H : Hp} {i : Int} : Rep K F H (.int i) (.int i) := by unfold Rep; rfl
theorem Rep.str' {K : Kc} {F : Addr → Prop} {H : Hp} {i : Str} : Rep K F H (.str i) (.str i) := by unfold Rep; rfl
theorem Rep.bl' {K : Kc} {F : Addr → Prop} {H : Hp} {i : Bool} : Rep K F H (.bl i) (.bl i) := by unfold Rep; rfl
theorem Rep.non' {K : Kc} {F : Addr → Prop} {H : Hp} : Rep K F H .non .non := by unfold Rep; rfl
theorem Rep.tup' {K : Kc} {F : Addr → Prop} {H : Hp} {ds : List D} {a : Addr} {vs : List V} (h : SqZ K.K H a vs) (r : RepL K F H ds vs) : Rep K F H (.tup ds) (.ref a) := by unfold Rep; exact ⟨a, vs, rfl, h, r⟩

/-! ### two-place operations -/
def PureR (K : Kc) (r : R2) (f : D → D → Option D) : Prop := ∀ (F : Addr → Prop) (H : Hp) (dx dy d : D) (vx vy : V) (Q : VK), (∀ b, F b → H b ≠ none) → f dx dy = some d → Vw K F H dx vx → Vw K F H dy vy →
  (∀ v F' H', Ext F [] H F' [] H' → Rep K F' H' d v → Q v H') → r vx vy H Q
theorem PureR.or {K : Kc} {r r' : R2} {f g : D → D → Option D} (h : PureR K r f) (h' : PureR K r' g) : PureR K (fun x y H Q => r x y H Q ∨ r' x y H Q) (fun x y => (f x y).or (g x y)) := by
  intro F H dx dy d vx vy Q fk e wx wy k
  cases q : f dx dy with
  | some d' =>
    simp only [q, Option.some_or] at e
    cases e
    exact .inl (h F H dx dy _ vx vy Q fk q wx wy k)
  | none =>
    simp only [q, Option.none_or] at e
    exact .inr (h' F H dx dy _ vx vy Q fk e wx wy k)
def gOp2 (f : D → D → Option D) (oa ob : FO) : FD := fun ρ => match oa ρ with
  | some (x, ρ1) => match ob ρ1 with
    | some (y, ρ2) => match res ρ2 x, res ρ2 y with
      | some dx, some dy => match f dx dy with
        | some d => some (d, ρ2)
        | none => none
      | _, _ => none
    | none => none
  | none => none
theorem gOp2_some {f : D → D → Option D} {oa ob : FO} {ρ : Env} {d : D} {ρ' : Env} (h : gOp2 f oa ob ρ = some (d, ρ')) : ∃ x ρ1 y dx dy, oa ρ = some (x, ρ1) ∧ ob ρ1 = some (y, ρ') ∧ res ρ' x = some dx ∧ res ρ' y = some dy ∧ f dx dy = some d := by
  unfold gOp2 at h
  split at h
  · rename_i x ρ1 q1
    split at h
    · rename_i y ρ2 q2
      split at h
      · rename_i dx dy q3 q4
        split at h
        · rename_i d' q5
          cases h
          exact ⟨x, ρ1, y, dx, dy, q1, q2, q3, q4, q5⟩
        · cases h
      · cases h
    · cases h
  · cases h
theorem op2_fit {K : Kc} {r : R2} {f : D → D → Option D} {oa ob : FO} (hp : PureR K r f) {σ : L2.St} {H : Hp} {Q : VK} (h : tD K (gOp2 f oa ob) σ H Q) : tOp r (tO K oa) (tO K ob) σ H Q := by
  obtain ⟨F, B, as, ρ, d, ρ', S, e, k⟩ := h
  obtain ⟨x, ρ1, y, dx, dy, e1, e2, e3, e4, e5⟩ := gOp2_some e
  exact seqOO S e1 e2 fun vx vy H2 F2 as2 E S2 rx ry => hp F2 H2 dx dy d vx vy Q S2.fk e5 (S2.res e3 rx) (S2.res e4 ry) fun v F' H' E' r => k v H' F' as2 (E.trans E'.pure) (S2.step E') r
section
variable {X : Cx} {pos : Pos}
theorem cd_bin {op : Operator} {r : R2} {f : D → D → Option D} {oa ob : FO} {a b : Expr} (ho : OpR X (binaryOp op) r) (hp : PureR (kc X) r f) (ha : PE X a (tO (kc X) oa)) (hb : PE X b (tO (kc X) ob)) : PE X (.BinOp a op b pos) (tD (kc X) (gOp2 f oa ob)) :=
  PE.to (pe_op ho ha hb) fun σ H Q h => op2_fit hp h
theorem cd_cmp {op : CmpOp} {r : R2} {f : D → D → Option D} {oa ob : FO} {a b : Expr} (ho : OpR X (compareOp op) r) (hp : PureR (kc X) r f) (ha : PE X a (tO (kc X) oa)) (hb : PE X b (tO (kc X) ob)) (hm : behindInMarks op b = false) : PE X (.Compare a [op] [b] pos) (tD (kc X) (gOp2 f oa ob)) :=
  PE.to (pe_cmpR ho ha hb hm) fun σ H Q h => op2_fit hp h
/-- as a test -/
def gT (g : FD) : FT := fun ρ => match g ρ with
  | some (.bl b, ρ') => some (b, ρ')
  | _ => none
theorem gT_some {g : FD} {ρ : Env} {b : Bool} {ρ' : Env} (h : gT g ρ = some (b, ρ')) : g ρ = some (.bl b, ρ') := by
  unfold gT at h
  split at h
  · rename_i b' ρ2 q; cases h; exact q
  · cases h
theorem tB_fit {K : Kc} {g : FD} {σ : L2.St} {H : Hp} {Q : Bool → Hp → Prop} (h : tB K (gT g) σ H Q) : tD K g σ H fun x H1 => ∃ k, x = .bl k ∧ Q k H1 := by
  obtain ⟨F, B, as, ρ, b, ρ', S, e, k⟩ := h
  exact ⟨F, B, as, ρ, .bl b, ρ', S, gT_some e, fun v H' F' as' E S' r => ⟨b, by unfold Rep at r; exact r, k H' F' as' E S'⟩⟩
theorem ct_cmp {op : CmpOp} {r : R2} {f : D → D → Option D} {oa ob : FO} {a b : Expr} (ho : OpR X (compareOp op) r) (hp : PureR (kc X) r f) (ha : PE X a (tO (kc X) oa)) (hb : PE X b (tO (kc X) ob)) (hm : behindInMarks op b = false) : PT X (.Compare a [op] [b] pos) (tB (kc X) (gT (gOp2 f oa ob))) :=
  PT.to (pt_cmpR ho ha hb hm) fun σ H Q h => op2_fit hp (tB_fit h)
theorem ct_val {e : Expr} {g : FD} (h : PE X e (tD (kc X) g)) (he : ∀ whole, isTrue e X.env whole = (do let v ← whole; standAt e.pos; holding [v] (truthy v)) := by intro _; rfl) : PT X e (tB (kc X) (gT g)) :=
  PT.to (pt_val h he) fun σ H Q h => tB_fit h
/-! ### and, or, not, if -/
def gAnd (a b : FT) : FT := fun ρ => match a ρ with
  | some (true, ρ1) => b ρ1
  | some (false, ρ1) => some (false, ρ1)
  | none => none
def gOr (a b : FT) : FT := fun ρ => match a ρ with
  | some (true, ρ1) => some (true, ρ1)
  | some (false, ρ1) => b ρ1
  | none => none
def gNot (a : FT) : FT := fun ρ => match a ρ with
  | some (c, ρ1) => some (!c, ρ1)
  | none => none
structure CB (X : Cx) (e : Expr) (g : FT) : Prop where
  run : PW X e (tB (kc X) g)
theorem CB.pt {e : Expr} {g : FT} (h : CB X e g) : PT X e (tB (kc X) g) := h.run.pt
theorem PW.to {e : Expr} {t t' : TT} (h : PW X e t) (c : ∀ σ H Q, t' σ H Q → t σ H Q) : PW X e t' := ⟨fun wh pins s σ H Q I hq => h.run wh pins s σ H Q I (c σ H Q hq)⟩
theorem cb_and1 {a : Expr} {g : FT} (h : PT X a (tB (kc X) g)) : CB X (.BoolOp .And [a] pos) g := ⟨pw_and1 h⟩
theorem cb_or1 {a : Expr} {g : FT} (h : PT X a (tB (kc X) g)) : CB X (.BoolOp .Or [a] pos) g := ⟨pw_or1 h⟩
theorem cb_and {a b : Expr} {rest : List Expr} {ga gb : FT} (ha : PT X a (tB (kc X) ga)) (hb : CB X (.BoolOp .And (b :: rest) pos) gb) : CB X (.BoolOp .And (a :: b :: rest) pos) (gAnd ga gb) :=
  ⟨PW.to (pw_and ha hb.run) fun σ H Q ⟨F, B, as, ρ, c, ρ', S, e, k⟩ => by
    unfold gAnd at e
    split at e
    · rename_i ρ1 q
      exact ⟨F, B, as, ρ, true, ρ1, S, q, fun H1 F1 as1 E1 S1 => by simp only [if_true]; exact ⟨F1, B, as1, ρ1, c, ρ', S1, e, fun H2 F2 as2 E2 S2 => k H2 F2 as2 (E1.trans E2) S2⟩⟩
    · rename_i ρ1 q
      cases e
      exact ⟨F, B, as, ρ, false, _, S, q, fun H1 F1 as1 E1 S1 => by simp only [Bool.false_eq_true, if_false]; exact k H1 F1 as1 E1 S1⟩
    · cases e⟩
theorem cb_or {a b : Expr} {rest : List Expr} {ga gb : FT} (ha : PT X a (tB (kc X) ga)) (hb : CB X (.BoolOp .Or (b :: rest) pos) gb) : CB X (.BoolOp .Or (a :: b :: rest) pos) (gOr ga gb) :=
  ⟨PW.to (pw_or ha hb.run) fun σ H Q ⟨F, B, as, ρ, c, ρ', S, e, k⟩ => by
    unfold gOr at e
    split at e
    · rename_i ρ1 q
      cases e
      exact ⟨F, B, as, ρ, true, _, S, q, fun H1 F1 as1 E1 S1 => by simp only [if_true]; exact k H1 F1 as1 E1 S1⟩
    · rename_i ρ1 q
      exact ⟨F, B, as, ρ, false, ρ1, S, q, fun H1 F1 as1 E1 S1 => by simp only [Bool.false_eq_true, if_false]; exact ⟨F1, B, as1, ρ1, c, ρ', S1, e, fun H2 F2 as2 E2 S2 => k H2 F2 as2 (E1.trans E2) S2⟩⟩
    · cases e⟩
theorem ct_not {a : Expr} {ga : FT} (ha : PT X a (tB (kc X) ga)) : PT X (.UnaryOp .Not a pos) (tB (kc X) (gNot ga)) := PT.to (pt_not ha) fun σ H Q ⟨F, B, as, ρ, c, ρ', S, e, k⟩ => by
  unfold gNot at e
  split at e
  · rename_i c' ρ1 q
    cases e
    exact ⟨F, B, as, ρ, c', _, S, q, fun H1 F1 as1 E1 S1 => k H1 F1 as1 E1 S1⟩
  · cases e
/-- .. as values -/
def gAndV (a b : FD) : FD := fun ρ => match a ρ with
  | some (.bl true, ρ1) => b ρ1
  | some (.bl false, ρ1) => some (.bl false, ρ1)
  | _ => none
def gOrV (a b : FD) : FD := fun ρ => match a ρ with
  | some (.bl true, ρ1) => some (.bl true, ρ1)
  | some (.bl false, ρ1) => b ρ1
  | _ => none
def gNotV (a : FD) : FD := fun ρ => match a ρ with
  | some (.bl c, ρ1) => some (.bl (!c), ρ1)
  | _ => none
theorem cd_one {op} {a : Expr} {g : FD} (h : PE X a (tD (kc X) g)) : PE X (.BoolOp op [a] pos) (tD (kc X) g) := pe_one h
theorem cd_and {a b : Expr} {rest : List Expr} {ga gb : FD} (ha : PE X a (tD (kc X) ga)) (hb : PE X (.BoolOp .And (b :: rest) pos) (tD (kc X) gb)) : PE X (.BoolOp .And (a :: b :: rest) pos) (tD (kc X) (gAndV ga gb)) :=
  PE.to (pe_and ha hb) fun σ H Q ⟨F, B, as, ρ, c, ρ', S, e, k⟩ => by
    unfold gAndV at e
    split at e
    · rename_i ρ1 q
      exact ⟨F, B, as, ρ, .bl true, ρ1, S, q, fun v H1 F1 as1 E1 S1 r => ⟨true, by unfold Rep at r; exact r, by simp only [if_true]; exact ⟨F1, B, as1, ρ1, c, ρ', S1, e, fun v H2 F2 as2 E2 S2 r => k v H2 F2 as2 (E1.trans E2) S2 r⟩⟩⟩
    · rename_i ρ1 q
      cases e
      exact ⟨F, B, as, ρ, .bl false, _, S, q, fun v H1 F1 as1 E1 S1 r => ⟨false, by unfold Rep at r; exact r, by simp only [Bool.false_eq_true, if_false]; exact k _ H1 F1 as1 E1 S1 Rep.bl'⟩⟩
    · cases e
theorem cd_or {a b : Expr} {rest : List Expr} {ga gb : FD} (ha : PE X a (tD (kc X) ga)) (hb : PE X (.BoolOp .Or (b :: rest) pos) (tD (kc X) gb)) : PE X (.BoolOp .Or (a :: b :: rest) pos) (tD (kc X) (gOrV ga gb)) :=
  PE.to (pe_or ha hb) fun σ H Q ⟨F, B, as, ρ, c, ρ', S, e, k⟩ => by
    unfold gOrV at e
    split at e
    · rename_i ρ1 q
      cases e
      exact ⟨F, B, as, ρ, .bl true, _, S, q, fun v H1 F1 as1 E1 S1 r => ⟨true, by unfold Rep at r; exact r, by simp only [if_true]; exact k _ H1 F1 as1 E1 S1 Rep.bl'⟩⟩
    · rename_i ρ1 q
      exact ⟨F, B, as, ρ, .bl false, ρ1, S, q, fun v H1 F1 as1 E1 S1 r => ⟨false, by unfold Rep at r; exact r, by simp only [Bool.false_eq_true, if_false]; exact ⟨F1, B, as1, ρ1, c, ρ', S1, e, fun v H2 F2 as2 E2 S2 r => k v H2 F2 as2 (E1.trans E2) S2 r⟩⟩⟩
    · cases e
theorem cd_not {a : Expr} {g : FD} (h : PE X a (tD (kc X) g)) : PE X (.UnaryOp .Not a pos) (tD (kc X) (gNotV g)) := PE.to (pe_not h) fun σ H Q ⟨F, B, as, ρ, c, ρ', S, e, k⟩ => by
  unfold gNotV at e
  split at e
  · rename_i c' ρ1 q
    cases e
    exact ⟨F, B, as, ρ, .bl c', _, S, q, fun v H1 F1 as1 E1 S1 r => ⟨c', by unfold Rep at r; exact r, k _ H1 F1 as1 E1 S1 Rep.bl'⟩⟩
  · cases e
def gIf (t : FT) (a b : FD) : FD := fun ρ => match t ρ with
  | some (true, ρ1) => a ρ1
  | some (false, ρ1) => b ρ1
  | none => none
def gIfW (t : FT) (a b : FW) : FW := fun ρ => match t ρ with
  | some (true, ρ1) => a ρ1
  | some (false, ρ1) => b ρ1
  | none => none
theorem cd_if {c a b : Expr} {t : FT} {ga gb : FD} (hc : PT X c (tB (kc X) t)) (ha : PE X a (tD (kc X) ga)) (hb : PE X b (tD (kc X) gb)) : PE X (.IfExp c a b pos) (tD (kc X) (gIf t ga gb)) :=
  PE.to (pe_ifExp hc ha hb) fun σ H Q ⟨F, B, as, ρ, d, ρ', S, e, k⟩ => by
    unfold gIf at e
    split at e
    · rename_i ρ1 q
      exact ⟨F, B, as, ρ, true, ρ1, S, q, fun H1 F1 as1 E1 S1 => by simp only [if_true]; exact ⟨F1, B, as1, ρ1, d, ρ', S1, e, fun v H2 F2 as2 E2 S2 r => k v H2 F2 as2 (E1.trans E2) S2 r⟩⟩
    · rename_i ρ1 q
      exact ⟨F, B, as, ρ, false, ρ1, S, q, fun H1 F1 as1 E1 S1 => by simp only [Bool.false_eq_true, if_false]; exact ⟨F1, B, as1, ρ1, d, ρ', S1, e, fun v H2 F2 as2 E2 S2 r => k v H2 F2 as2 (E1.trans E2) S2 r⟩⟩
    · cases e
theorem cw_if {c a b : Expr} {t : FT} {ga gb : FW} (hc : PT X c (tB (kc X) t)) (ha : PE X a (tW (kc X) ga)) (hb : PE X b (tW (kc X) gb)) : PE X (.IfExp c a b pos) (tW (kc X) (gIfW t ga gb)) :=
  PE.to (pe_ifExp hc ha hb) fun σ H Q ⟨F, B, as, ρ, d, w, ρ', S, e, k⟩ => by
    unfold gIfW at e
    split at e
    · rename_i ρ1 q
      exact ⟨F, B, as, ρ, true, ρ1, S, q, fun H1 F1 as1 E1 S1 => by simp only [if_true]; exact ⟨F1, B, as1, ρ1, d, w, ρ', S1, e, fun v H2 F2 as2 bs E2 S2 => k v H2 F2 as2 bs (E1.trans E2) S2⟩⟩
    · rename_i ρ1 q
      exact ⟨F, B, as, ρ, false, ρ1, S, q, fun H1 F1 as1 E1 S1 => by simp only [Bool.false_eq_true, if_false]; exact ⟨F1, B, as1, ρ1, d, w, ρ', S1, e, fun v H2 F2 as2 bs E2 S2 => k v H2 F2 as2 bs (E1.trans E2) S2⟩⟩
    · cases e

/-! ### one-argument built-ins -/
def PureC (K : Kc) (r : List V → Hp → VK → Prop) (f : D → Option D) : Prop := ∀ (F : Addr → Prop) (H : Hp) (dx d : D) (vx : V) (Q : VK), (∀ b, F b → H b ≠ none) → f dx = some d → Vw K F H dx vx →
  (∀ v F' H', Ext F [] H F' [] H' → Rep K F' H' d v → Q v H') → r [vx] H Q
def gOp1 (f : D → Option D) (oa : FO) : FD := fun ρ => match oa ρ with
  | some (x, ρ1) => match res ρ1 x with
    | some dx => match f dx with
      | some d => some (d, ρ1)
      | none => none
    | none => none
  | none => none
theorem gOp1_some {f : D → Option D} {oa : FO} {ρ : Env} {d : D} {ρ' : Env} (h : gOp1 f oa ρ = some (d, ρ')) : ∃ x dx, oa ρ = some (x, ρ') ∧ res ρ' x = some dx ∧ f dx = some d := by
  unfold gOp1 at h
  split at h
  · rename_i x ρ1 q1
    split at h
    · rename_i dx q2
      split at h
      · rename_i d' q3
        cases h
        exact ⟨x, dx, q1, q2, q3⟩
      · cases h
    · cases h
  · cases h
theorem op1_fit {K : Kc} {r : List V → Hp → VK → Prop} {f : D → Option D} {oa : FO} (hp : PureC K r f) {σ : L2.St} {H : Hp} {Q : VK} (h : tD K (gOp1 f oa) σ H Q) : tCB r (tCons (tO K oa) tNil) σ H Q := by
  obtain ⟨F, B, as, ρ, d, ρ', S, e, k⟩ := h
  obtain ⟨x, dx, e1, e3, e5⟩ := gOp1_some e
  exact ⟨F, B, as, ρ, x, ρ', S, e1, fun vx H2 F2 as2 E S2 rx => hp F2 H2 dx d vx Q S2.fk e5 (S2.res e3 rx) fun v F' H' E' r => k v H' F' as2 (E.trans E'.pure) (S2.step E') r⟩
theorem cd_call1 {x : Str} {id : String} {p : Pos} {a : Expr} {r : List V → Hp → VK → Prop} {f : D → Option D} {oa : FO} (hc : CallR X (.builtin id) r) (hp : PureC (kc X) r f) (hg : Gl X x) (hm : X.mg x = none) (hv : bootBuiltins x = some (.builtin id)) (ha : PE X a (tO (kc X) oa))
    (hn : x ≠ "__name__" := by decide) (hdb : (x == ("__debug__" : Str)) = false := by decide) (he : starEach [a] X.env = (false, eval a X.env) :: starEach [] X.env := by rfl) (hpl : (backTo pos (starEach [] X.env)).any (·.1) = false := by rfl) : PE X (.Call (.Name x p) [a] [] pos) (tD (kc X) (gOp1 f oa)) :=
  PE.to (pe_callB hc hg hm hv (pa_cons ha pa_nil he) hn hdb he hpl) fun σ H Q h => op1_fit hp h
theorem cd_callT1 {x : Str} {T : String} {p : Pos} {a : Expr} {r : List V → Hp → VK → Prop} {f : D → Option D} {oa : FO} (hc : CallR X (.type T) r) (hp : PureC (kc X) r f) (hg : Gl X x) (hm : X.mg x = none) (hv : bootBuiltins x = some (.type T)) (ha : PE X a (tO (kc X) oa))
    (hn : x ≠ "__name__" := by decide) (hdb : (x == ("__debug__" : Str)) = false := by decide) (he : starEach [a] X.env = (false, eval a X.env) :: starEach [] X.env := by rfl) (hpl : (backTo pos (starEach [] X.env)).any (·.1) = false := by rfl) : PE X (.Call (.Name x p) [a] [] pos) (tD (kc X) (gOp1 f oa)) :=
  PE.to (pe_callTy hc hg hm hv (pa_cons ha pa_nil he) hn hdb he hpl) fun σ H Q h => op1_fit hp h
/-- .. whose answer is a fresh own thing -/
def PureW (K : Kc) (r : List V → Hp → VK → Prop) (f : D → Option D) : Prop := ∀ (F : Addr → Prop) (H : Hp) (dx d : D) (vx : V) (Q : VK), (∀ b, F b → H b ≠ none) → f dx = some d → Vw K F H dx vx →
  (∀ p o, H p = none → Own K F (upd H p o) d (.ref p) [p] → Q (.ref p) (upd H p o)) → r [vx] H Q
def gOp1W (f : D → Option D) (oa : FO) : FW := fun ρ => (gOp1 f oa ρ).map fun p => (p.1, true, p.2)
theorem op1W_fit {K : Kc} {r : List V → Hp → VK → Prop} {f : D → Option D} {oa : FO} (hp : PureW K r f) {σ : L2.St} {H : Hp} {Q : VK} (h : tW K (gOp1W f oa) σ H Q) : tCB r (tCons (tO K oa) tNil) σ H Q := by
  obtain ⟨F, B, as, ρ, d, w, ρ', S, e, k⟩ := h
  obtain ⟨p, e9, e2⟩ := Option.map_eq_some_iff.mp e
  cases e2
  obtain ⟨x, dx, e1, e3, e5⟩ := gOp1_some e9
  exact ⟨F, B, as, ρ, x, p.2, S, e1, fun vx H2 F2 as2 E S2 rx => hp F2 H2 dx p.1 vx Q S2.fk e5 (S2.res e3 rx) fun q o hq r => by
    obtain ⟨E3, S3⟩ := new_own hq S2 r
    exact k _ _ F2 as2 [q] (E.trans E3) S3⟩
theorem cw_callT1 {x : Str} {T : String} {p : Pos} {a : Expr} {r : List V → Hp → VK → Prop} {f : D → Option D} {oa : FO} (hc : CallR X (.type T) r) (hp : PureW (kc X) r f) (hg : Gl X x) (hm : X.mg x = none) (hv : bootBuiltins x = some (.type T)) (ha : PE X a (tO (kc X) oa))
    (hn : x ≠ "__name__" := by decide) (hdb : (x == ("__debug__" : Str)) = false := by decide) (he : starEach [a] X.env = (false, eval a X.env) :: starEach [] X.env := by rfl) (hpl : (backTo pos (starEach [] X.env)).any (·.1) = false := by rfl) : PE X (.Call (.Name x p) [a] [] pos) (tW (kc X) (gOp1W f oa)) :=
  PE.to (pe_callTy hc hg hm hv (pa_cons ha pa_nil he) hn hdb he hpl) fun σ H Q h => op1W_fit hp h
theorem cw_callB1 {x : Str} {id : String} {p : Pos} {a : Expr} {r : List V → Hp → VK → Prop} {f : D → Option D} {oa : FO} (hc : CallR X (.builtin id) r) (hp : PureW (kc X) r f) (hg : Gl X x) (hm : X.mg x = none) (hv : bootBuiltins x = some (.builtin id)) (ha : PE X a (tO (kc X) oa))
    (hn : x ≠ "__name__" := by decide) (hdb : (x == ("__debug__" : Str)) = false := by decide) (he : starEach [a] X.env = (false, eval a X.env) :: starEach [] X.env := by rfl) (hpl : (backTo pos (starEach [] X.env)).any (·.1) = false := by rfl) : PE X (.Call (.Name x p) [a] [] pos) (tW (kc X) (gOp1W f oa)) :=
  PE.to (pe_callB hc hg hm hv (pa_cons ha pa_nil he) hn hdb he hpl) fun σ H Q h => op1W_fit hp h
end

/-! ### numbers -/
def addI : D → D → Option D
  | .int i, .int j => some (.int (i + j))
  | _, _ => none
def subI : D → D → Option D
  | .int i, .int j => some (.int (i - j))
  | _, _ => none
def mulI : D → D → Option D
  | .int i, .int j => if (-(2 ^ 64) < i ∧ i < 2 ^ 64) ∨ (-(2 ^ 64) < j ∧ j < 2 ^ 64) then some (.int (i * j)) else none
  | _, _ => none
def divI : D → D → Option D
  | .int i, .int j => if 0 < j ∧ j < 1073741824 then some (.int (i / j)) else none
  | _, _ => none
def modI : D → D → Option D
  | .int i, .int j => if 0 < j then some (.int (i % j)) else none
  | _, _ => none
def powI : D → D → Option D
  | .int i, .int j => if 0 ≤ j ∧ j ≤ 1000000 ∧ i.natAbs < 2 ^ 64 then some (.int (i ^ j.toNat)) else none
  | _, _ => none
def ltI : D → D → Option D
  | .int i, .int j => some (.bl (decide (i < j)))
  | _, _ => none
def leI : D → D → Option D
  | .int i, .int j => some (.bl (decide (i ≤ j)))
  | _, _ => none
def gtI : D → D → Option D
  | .int i, .int j => some (.bl (decide (j < i)))
  | _, _ => none
def geI : D → D → Option D
  | .int i, .int j => some (.bl (decide (j ≤ i)))
  | _, _ => none
section
variable {K : Kc}
theorem pr_i0 {g : Int → Int → V} {gd : Int → Int → D} (h : ∀ i j F H, Rep K F H (gd i j) (g i j)) : PureR K (rI0 g) (fun x y => match x, y with | .int i, .int j => some (gd i j) | _, _ => none) := by
  intro F H dx dy d vx vy Q fk e wx wy k
  dsimp only at e
  split at e
  · cases e
    exact ⟨_, _, wx.int, wy.int, k _ F H .refl (h _ _ _ _)⟩
  · cases e
theorem pr_add : PureR K (rI0 fun i j => .int (i + j)) addI := pr_i0 (gd := fun i j => .int (i + j)) fun _ _ _ _ => Rep.int'
theorem pr_sub : PureR K (rI0 fun i j => .int (i - j)) subI := pr_i0 (gd := fun i j => .int (i - j)) fun _ _ _ _ => Rep.int'
theorem pr_lt : PureR K (rI0 fun i j => .bl (decide (i < j))) ltI := pr_i0 (gd := fun i j => .bl (decide (i < j))) fun _ _ _ _ => Rep.bl'
theorem pr_le : PureR K (rI0 fun i j => .bl (decide (i ≤ j))) leI := pr_i0 (gd := fun i j => .bl (decide (i ≤ j))) fun _ _ _ _ => Rep.bl'
theorem pr_gt : PureR K (rI0 fun i j => .bl (decide (j < i))) gtI := pr_i0 (gd := fun i j => .bl (decide (j < i))) fun _ _ _ _ => Rep.bl'
theorem pr_ge : PureR K (rI0 fun i j => .bl (decide (j ≤ i))) geI := pr_i0 (gd := fun i j => .bl (decide (j ≤ i))) fun _ _ _ _ => Rep.bl'
theorem pr_iC {C : Int → Int → Prop} {c : Int → Int → Prop} [∀ i j, Decidable (c i j)] {g : Int → Int → Int} (hc : ∀ i j, c i j → C i j) : PureR K (rI C fun i j => .int (g i j)) (fun x y => match x, y with | .int i, .int j => if c i j then some (.int (g i j)) else none | _, _ => none) := by
  intro F H dx dy d vx vy Q fk e wx wy k
  dsimp only at e
  split at e
  · split at e
    · rename_i q
      cases e
      exact ⟨_, _, wx.int, wy.int, hc _ _ q, k _ F H .refl Rep.int'⟩
    · cases e
  · cases e
theorem pr_mul : PureR K (rI CMul fun i j => .int (i * j)) mulI := pr_iC (c := fun i j => (-(2 ^ 64) < i ∧ i < 2 ^ 64) ∨ (-(2 ^ 64) < j ∧ j < 2 ^ 64)) fun _ _ h => h
theorem pr_div : PureR K (rI CDiv fun i j => .int (i / j)) divI := pr_iC (c := fun i j => 0 < j ∧ j < 1073741824) fun _ _ h => h
theorem pr_mod : PureR K (rI (fun _ j => 0 < j) fun i j => .int (i % j)) modI := pr_iC (c := fun _ j => 0 < j) fun _ _ h => h
theorem pr_pow : PureR K (rI CPow fun i j => .int (i ^ j.toNat)) powI := pr_iC (c := fun i j => 0 ≤ j ∧ j ≤ 1000000 ∧ i.natAbs < 2 ^ 64) fun _ _ h => h
end

/-! ### + -/
def catT : D → D → Option D
  | .tup xs, .tup ys => if xs.length + ys.length ≤ SZ then some (.tup (xs ++ ys)) else none
  | _, _ => none
def catS : D → D → Option D
  | .str x, .str y => if x.length + y.length ≤ SZ then some (.str (x ++ y)) else none
  | _, _ => none
def catL : D → D → Option D
  | .lst xs, .lst ys => if xs.length + ys.length ≤ SZ then some (.lst (xs ++ ys)) else none
  | _, _ => none
def addD : D → D → Option D
  | .int i, .int j => some (.int (i + j))
  | .str x, .str y => if x.length + y.length ≤ SZ then some (.str (x ++ y)) else none
  | .tup xs, .tup ys => if xs.length + ys.length ≤ SZ then some (.tup (xs ++ ys)) else none
  | .lst xs, .lst ys => if xs.length + ys.length ≤ SZ then some (.lst (xs ++ ys)) else none
  | _, _ => none
section
variable {K : Kc}
theorem RepL.eq_nil {F : Addr → Prop} {H : Hp} {ds : List D} (r : RepL K F H ds []) : ds = [] := by
  have := r.length
  exact List.eq_nil_of_length_eq_zero (by simpa using this.symm)
theorem pr_catT : PureR K (rCatZ K.K) catT := by
  intro F H dx dy d vx vy Q fk e wx wy k
  unfold catT at e
  split at e
  · rename_i xs ys
    split at e
    · rename_i hz
      cases e
      obtain ⟨a, us, rfl, h1, r1⟩ := wx.tup
      obtain ⟨b, ws, rfl, h2, r2⟩ := wy.tup
      refine ⟨a, b, us, ws, rfl, rfl, h1, h2, sz_le (by rw [r1.length, r2.length]; exact hz), fun z => ?_, fun z1 z2 => ?_, fun z1 z2 p ob hd hp => ?_⟩
      · subst z
        have z := r1.eq_nil
        subst z
        exact k _ F H .refl (Rep.tup' h2 r2)
      · subst z2
        have z := r2.eq_nil
        subst z
        rw [List.append_nil] at k
        exact k _ F H .refl (Rep.tup' h1 r1)
      · obtain ⟨E, r⟩ := new_tup hd hp (r1.append r2)
        exact k _ F _ E r
    · cases e
  · cases e
theorem pr_catS : PureR K (fun x y H Q => ∃ i j, x = .str i ∧ y = .str j ∧ i.length + j.length ≤ sizeLine ∧ Q (.str (i ++ j)) H) catS := by
  intro F H dx dy d vx vy Q fk e wx wy k
  unfold catS at e
  split at e
  · split at e
    · rename_i hz
      cases e
      exact ⟨_, _, wx.str, wy.str, sz_le hz, k _ F H .refl Rep.str'⟩
    · cases e
  · cases e
/-- a new list among what never changes -/
theorem new_lstF {F : Addr → Prop} {H : Hp} {p : Addr} {ds : List D} {vs : List V} (hp : H p = none) (r : RepL K F H ds vs) : Ext F [] H (fun b => F b ∨ b = p) [] (upd H p (.lst vs)) ∧ Rep K (fun b => F b ∨ b = p) (upd H p (.lst vs)) (.lst ds) (.ref p) := by
  have E : Ext F [] H (fun b => F b ∨ b = p) [] (upd H p (.lst vs)) := Ext.newF hp
  refine ⟨E, ?_⟩
  unfold Rep
  exact ⟨p, vs, rfl, .inr rfl, upd_same, RepL.stb E.stb _ _ r⟩
theorem pr_catL : PureR K rCat catL := by
  intro F H dx dy d vx vy Q fk e wx wy k
  unfold catL at e
  split at e
  · split at e
    · rename_i hz
      cases e
      obtain ⟨a, us, rfl, h1, r1⟩ := wx.lst
      obtain ⟨b, ws, rfl, h2, r2⟩ := wy.lst
      refine ⟨a, b, us, ws, rfl, rfl, h1, h2, sz_le (by rw [r1.length, r2.length]; exact hz), fun p hp => ?_⟩
      obtain ⟨E, r⟩ := new_lstF hp (r1.append r2)
      exact k _ _ _ E r
    · cases e
  · cases e
theorem PureR.eqf {r : R2} {f g : D → D → Option D} (h : PureR K r f) (e : ∀ x y d, g x y = some d → f x y = some d) : PureR K r g := fun F H dx dy d vx vy Q fk q => h F H dx dy d vx vy Q fk (e _ _ _ q)
def rAddAll (K : PySem.W.Frag) : R2 := fun x y H Q => rI0 (fun i j => .int (i + j)) x y H Q ∨ (fun x y H Q => (fun x y H Q => ∃ i j, x = .str i ∧ y = .str j ∧ i.length + j.length ≤ sizeLine ∧ Q (.str (i ++ j)) H) x y H Q ∨ (fun x y H Q => rCatZ K x y H Q ∨ rCat x y H Q) x y H Q) x y H Q
theorem pr_addAll : PureR K (rAddAll K.K) addD := by
  refine PureR.eqf (PureR.or pr_add (PureR.or pr_catS (PureR.or pr_catT pr_catL))) fun x y d e => ?_
  unfold addD at e
  split at e
  · cases e; rfl
  · simp only [addI, catS, Option.none_or, e, Option.some_or]
  · simp only [addI, catS, catT, catL, Option.none_or, e, Option.or_none]
  · simp only [addI, catS, catT, catL, Option.none_or, e]
  · cases e
theorem or_addAll {X : Cx} : OpR X (binaryOp .Add) (rAddAll X.K) := op_add.or (op_add_str.or (op_catZ.or op_cat))
end

/-! ### ==, != -/
def eqP (x y : D) : Option D := if okPy x = true ∧ okPy y = true then some (.bl (PyData.eqv (toPy x) (toPy y))) else none
def neP (x y : D) : Option D := if okPy x = true ∧ okPy y = true then some (.bl (!PyData.eqv (toPy x) (toPy y))) else none
def eqS : D → D → Option Bool
  | .str x, .str y => some (x == y)
  | .int x, .int y => some (x == y)
  | .bl x, .bl y => some (x == y)
  | .non, .non => some true
  | .non, .str _ => some false
  | .str _, .non => some false
  | _, _ => none
def eqD (x y : D) : Option D := ((eqS x y).map .bl).or (eqP x y)
def neD (x y : D) : Option D := ((eqS x y).map fun b => .bl (!b)).or (neP x y)
section
variable {K : Kc}
theorem eqS_scal {F : Addr → Prop} {H : Hp} {dx dy : D} {vx vy : V} {b : Bool} (e : eqS dx dy = some b) (wx : Vw K F H dx vx) (wy : Vw K F H dy vy) : scal vx vy = true ∧ decide (vx = vy) = b := by
  unfold eqS at e
  split at e <;> cases e
  · cases wx.str; cases wy.str; exact ⟨rfl, dec_str⟩
  · cases wx.int; cases wy.int; exact ⟨rfl, dec_int⟩
  · cases wx.bl; cases wy.bl; exact ⟨rfl, dec_bl⟩
  · cases wx.non; cases wy.non; exact ⟨rfl, by simp⟩
  · cases wx.non; cases wy.str; exact ⟨rfl, by simp⟩
  · cases wx.str; cases wy.non; exact ⟨rfl, by simp⟩
theorem pr_eqS : PureR K rEq (fun x y => (eqS x y).map .bl) := by
  intro F H dx dy d vx vy Q fk e wx wy k
  obtain ⟨b, e9, e2⟩ := Option.map_eq_some_iff.mp e
  cases e2
  obtain ⟨h1, h2⟩ := eqS_scal e9 wx wy
  exact ⟨h1, by rw [h2]; exact k _ F H .refl Rep.bl'⟩
theorem pr_neS : PureR K rNe (fun x y => (eqS x y).map fun b => .bl (!b)) := by
  intro F H dx dy d vx vy Q fk e wx wy k
  obtain ⟨b, e9, e2⟩ := Option.map_eq_some_iff.mp e
  cases e2
  obtain ⟨h1, h2⟩ := eqS_scal e9 wx wy
  exact ⟨h1, by rw [h2]; exact k _ F H .refl Rep.bl'⟩
theorem pr_eqP : PureR K (rEqD K.K) eqP := by
  intro F H dx dy d vx vy Q fk e wx wy k
  unfold eqP at e
  split at e
  · rename_i q
    cases e
    exact ⟨_, _, wx.dp q.1, wy.dp q.2, q.1, q.2, k _ F H .refl Rep.bl'⟩
  · cases e
theorem pr_neP : PureR K (rNeD K.K) neP := by
  intro F H dx dy d vx vy Q fk e wx wy k
  unfold neP at e
  split at e
  · rename_i q
    cases e
    exact ⟨_, _, wx.dp q.1, wy.dp q.2, q.1, q.2, k _ F H .refl Rep.bl'⟩
  · cases e
theorem pr_eq : PureR K (fun x y H Q => rEq x y H Q ∨ rEqD K.K x y H Q) eqD := pr_eqS.or pr_eqP
theorem pr_ne : PureR K (fun x y H Q => rNe x y H Q ∨ rNeD K.K x y H Q) neD := pr_neS.or pr_neP
theorem or_eq {X : Cx} (hu : X.A.units + 64 < cLine) : OpR X (compareOp .Eq) (fun x y H Q => rEq x y H Q ∨ rEqD X.K x y H Q) := op_eq.or (op_eqD hu)
theorem or_ne {X : Cx} (hu : X.A.units + 64 < cLine) : OpR X (compareOp .NotEq) (fun x y H Q => rNe x y H Q ∨ rNeD X.K x y H Q) := op_ne.or (op_neD hu)
end

/-! ### is -/
def isNon : D → Bool
  | .non => true
  | _ => false
def isP : D → D → Option Bool
  | x, .non => some (isNon x)
  | .bl a, .bl b => some (a == b)
  | _, _ => none
def isD (x y : D) : Option D := (isP x y).map .bl
def isnD (x y : D) : Option D := (isP x y).map fun b => .bl (!b)
section
variable {K : Kc}
theorem Vw.isNon {F : Addr → Prop} {H : Hp} {d : D} {v : V} (w : Vw K F H d v) : decide (v = .non) = DV.isNon d := by
  cases d with
  | non => cases w.non; simp [DV.isNon]
  | bl _ => cases w.bl; simp [DV.isNon]
  | int _ => cases w.int; simp [DV.isNon]
  | str _ => cases w.str; simp [DV.isNon]
  | ty _ => unfold Vw Rep at w; subst w; simp [DV.isNon]
  | fn _ => unfold Vw Rep at w; obtain ⟨f, rfl, _⟩ := w; simp [DV.isNon]
  | tup _ => obtain ⟨a, vs, rfl, _⟩ := w.tup; simp [DV.isNon]
  | lst _ => obtain ⟨a, vs, rfl, _⟩ := w.lst; simp [DV.isNon]
  | dic _ _ => unfold Vw at w; obtain ⟨a, vs, rfl, _⟩ := w; simp [DV.isNon]
  | scr _ => unfold Vw Rep at w; obtain ⟨a, rfl, _⟩ := w; simp [DV.isNon]
  | ins _ _ _ _ => unfold Vw at w; obtain ⟨as, a, _, _, _, _, rfl, _⟩ := w; simp [DV.isNon]
def rIsAll : R2 := fun x y H Q => (fun x y H Q => y = .non ∧ Q (.bl (decide (x = .non))) H) x y H Q ∨ rIsB x y H Q
def rIsnAll : R2 := fun x y H Q => (fun x y H Q => y = .non ∧ Q (.bl (!decide (x = .non))) H) x y H Q ∨ rNotB x y H Q
theorem pr_is : PureR K rIsAll isD := by
  intro F H dx dy d vx vy Q fk e wx wy k
  obtain ⟨b, e9, e2⟩ := Option.map_eq_some_iff.mp e
  cases e2
  clear e
  unfold isP at e9
  split at e9
  · cases e9
    exact .inl ⟨wy.non, by rw [wx.isNon]; exact k _ F H .refl Rep.bl'⟩
  · cases e9
    exact .inr ⟨_, _, wx.bl, wy.bl, by rw [← Bool.beq_eq_decide_eq]; exact k _ F H .refl Rep.bl'⟩
  · cases e9
theorem pr_isn : PureR K rIsnAll isnD := by
  intro F H dx dy d vx vy Q fk e wx wy k
  obtain ⟨b, e9, e2⟩ := Option.map_eq_some_iff.mp e
  cases e2
  clear e
  unfold isP at e9
  split at e9
  · cases e9
    exact .inl ⟨wy.non, by rw [wx.isNon]; exact k _ F H .refl Rep.bl'⟩
  · cases e9
    exact .inr ⟨_, _, wx.bl, wy.bl, by rw [← Bool.beq_eq_decide_eq]; exact k _ F H .refl Rep.bl'⟩
  · cases e9
theorem or_is {X : Cx} : OpR X (compareOp .Is) rIsAll := op_isN.or op_isBl
theorem or_isn {X : Cx} : OpR X (compareOp .IsNot) rIsnAll := op_notN.or op_notBl
end
end DV

/-! DV4: in, subscripts, slices, built-ins. -/
namespace DV
open L2 PySem PySem.Spec PyProof.Rows

/-! ### keys -/
def isKey : D → Bool
  | .int _ => true
  | .str _ => true
  | _ => false
def eqKey : D → D → Bool
  | .int i, .int j => i == j
  | .str x, .str y => x == y
  | _, _ => false
def dget : List D → List D → D → Option D
  | k' :: ks, v :: vs, k => if eqKey k' k = true then some v else dget ks vs k
  | _, _, _ => none
def toKey : D → Option Key
  | .int i => some (.inl i)
  | .str x => some (.inr x)
  | _ => none
theorem toKey_some {d : D} {k : Key} (h : toKey d = some k) : d = dkey k := by
  cases d <;> simp [toKey] at h <;> subst h <;> rfl
theorem isKey_to {d : D} (h : isKey d = true) : ∃ k, d = dkey k := by
  cases d <;> simp [isKey] at h
  · exact ⟨.inl _, rfl⟩
  · exact ⟨.inr _, rfl⟩
theorem eqKey_iff (a b : Key) : eqKey (dkey a) (dkey b) = decide (a = b) := by
  cases a <;> cases b <;> simp [dkey, eqKey]
  all_goals rfl
theorem Vw.key {K : Kc} {F : Addr → Prop} {H : Hp} {k : Key} {v : V} (w : Vw K F H (dkey k) v) : v = kV k := by
  cases k with
  | inl i => exact Vw.int w
  | inr x => exact Vw.str w
theorem dget_val {K : Kc} {F : Addr → Prop} {H : Hp} : ∀ {kvs : List (Key × V)} {ds : List D} (k : Key), RepL K F H ds (kvs.map (·.2)) →
    (dget (kvs.map fun p => dkey p.1) ds (dkey k) = none ∧ valV kvs k = none) ∨ ∃ d v, dget (kvs.map fun p => dkey p.1) ds (dkey k) = some d ∧ valV kvs k = some v ∧ Rep K F H d v
  | [], ds, k, r => by
    have := r.length
    have : ds = [] := List.eq_nil_of_length_eq_zero (by simpa using this.symm)
    subst this
    exact .inl ⟨rfl, rfl⟩
  | (k', v) :: kvs, [], k, r => by unfold RepL at r; simp at r
  | (k', v) :: kvs, d :: ds, k, r => by
    unfold RepL at r
    obtain ⟨v', r', e, h1, h2⟩ := r
    simp only [List.map_cons, List.cons.injEq] at e
    obtain ⟨rfl, rfl⟩ := e
    have ih := dget_val k h2
    simp only [List.map_cons, dget, eqKey_iff, decide_eq_true_eq]
    by_cases e : k' = k
    · rw [if_pos e, valV_pos e]
      exact .inr ⟨d, v, rfl, rfl, h1⟩
    · rw [if_neg e, valV_neg e]
      exact ih

/-! ### in -/
def inS : D → D → Option Bool
  | .str x, .str z => some (!(Builtin.Str.occurrences z x 0 z.length 1).isEmpty)
  | _, _ => none
def inK : D → D → Option Bool
  | k, .dic ks vs => if isKey k = true then some (dget ks vs k).isSome else none
  | _, _ => none
def seqOf : D → Option (List D)
  | .lst xs => some xs
  | .tup xs => some xs
  | _ => none
def flatD : D → Bool
  | .non => true
  | .bl _ => true
  | .int _ => true
  | .str _ => true
  | _ => false
def eqFl : D → D → Bool
  | .non, .non => true
  | .bl a, .bl b => a == b
  | .bl a, .int b => (if a then 1 else 0) == b
  | .int a, .bl b => a == (if b then 1 else 0)
  | .int a, .int b => a == b
  | .str a, .str b => a == b
  | _, _ => false
def inF (x y : D) : Option Bool := match seqOf y with
  | some xs => if flatD x = true ∧ xs.all flatD = true then some (xs.any fun z => eqFl z x) else none
  | none => none
def inP (x y : D) : Option Bool := match seqOf y with
  | some xs => if okPy x = true ∧ okPy y = true then some ((toPyL xs).any fun z => PyData.eqv z (toPy x)) else none
  | none => none
def inB (x y : D) : Option Bool := (inS x y).or ((inK x y).or ((inF x y).or (inP x y)))
def inD (x y : D) : Option D := (inB x y).map .bl
def ninD (x y : D) : Option D := (inB x y).map fun b => .bl (!b)

/-- y in x by values -/
def rInN (K : PySem.W.Frag) (n : Bool) : R2 := fun x y H Q =>
  (∃ i j, x = .str i ∧ y = .str j ∧ Q (.bl ((!(Builtin.Str.occurrences j i 0 j.length 1).isEmpty) != n)) H) ∨
  (∃ a o, y = .ref a ∧ DGet H a x o ∧ Q (.bl (o.isSome != n)) H) ∨
  (∃ p xs, y = .ref p ∧ (SqL K H p xs ∨ SqT K H p xs) ∧ flatV x = true ∧ xs.all flatV = true ∧ Q (.bl (inV x xs != n)) H) ∨
  (∃ d ds, Dp K H x d ∧ Dp K H y (.list ds) ∧ SeqAt.shaped d = true ∧ SeqAt.shaped (.list ds) = true ∧ Q (.bl ((ds.any fun z => PyData.eqv z d) != n)) H) ∨
  (∃ d ds, Dp K H x d ∧ Dp K H y (.tuple ds) ∧ SeqAt.shaped d = true ∧ SeqAt.shaped (.tuple ds) = true ∧ Q (.bl ((ds.any fun z => PyData.eqv z d) != n)) H)
section
variable {X : Cx}
theorem or_in (hu : X.A.units + 65 < cLine) : OpR X (compareOp .In) (rInN X.K false) := by
  intro pins s σ H x y v u Q I rx ry h
  rcases h with h | h | h | h | h
  · obtain ⟨i, j, e1, e2, q⟩ := h
    exact op_in_str pins s σ H x y v u Q I rx ry ⟨i, j, e1, e2, by simpa using q⟩
  · obtain ⟨a, o, e1, g, q⟩ := h
    subst e1
    cases ry
    exact d_in (by omega) I g rx fun s' I' => ⟨.bl o.isSome, H, I', rfl, by simpa using q⟩
  · obtain ⟨p, xs, e1, h1, h2, h3, q⟩ := h
    exact op_in_seq pins s σ H x y v u Q I rx ry ⟨p, xs, e1, h1, h2, h3, by simpa using q⟩
  · obtain ⟨d, ds, h1, h2, h3, h4, q⟩ := h
    exact op_inD hu pins s σ H x y v u Q I rx ry ⟨d, ds, h1, h2, h3, h4, by simpa using q⟩
  · obtain ⟨d, ds, h1, h2, h3, h4, q⟩ := h
    obtain ⟨as, r1⟩ := Dp.reads I d x v h1 rx
    obtain ⟨bs, r2⟩ := Dp.reads I (.tuple ds) y u h2 ry
    have cl : PyData.canLayAll0 ds = true := by simpa [PyData.canLay0] using SeqAt.canLay_of_shaped h4
    exact SeqAt.in_tuple_reads r2 r1 cl (SeqAt.canLay_of_shaped h3) (room_in_shaped h3 hu) ⟨.bl _, H, I, rfl, by simpa using q⟩
theorem or_nin (hu : X.A.units + 65 < cLine) : OpR X (compareOp .NotIn) (rInN X.K true) := by
  intro pins s σ H x y v u Q I rx ry h
  rcases h with h | h | h | h | h
  · obtain ⟨i, j, e1, e2, q⟩ := h
    exact op_notin_str pins s σ H x y v u Q I rx ry ⟨i, j, e1, e2, by simpa using q⟩
  · obtain ⟨a, o, e1, g, q⟩ := h
    subst e1
    cases ry
    exact d_notIn (by omega) I g rx fun s' I' => ⟨.bl (!o.isSome), H, I', rfl, by simpa using q⟩
  · obtain ⟨p, xs, e1, h1, h2, h3, q⟩ := h
    exact op_notIn_seq pins s σ H x y v u Q I rx ry ⟨p, xs, e1, h1, h2, h3, by simpa using q⟩
  · obtain ⟨d, ds, h1, h2, h3, h4, q⟩ := h
    exact op_notInD hu pins s σ H x y v u Q I rx ry ⟨d, ds, h1, h2, h3, h4, by simpa using q⟩
  · obtain ⟨d, ds, h1, h2, h3, h4, q⟩ := h
    obtain ⟨as, r1⟩ := Dp.reads I d x v h1 rx
    obtain ⟨bs, r2⟩ := Dp.reads I (.tuple ds) y u h2 ry
    have cl : PyData.canLayAll0 ds = true := by simpa [PyData.canLay0] using SeqAt.canLay_of_shaped h4
    exact SeqAt.notIn_tuple_reads r2 r1 cl (SeqAt.canLay_of_shaped h3) (room_in_shaped h3 hu) ⟨.bl _, H, I, rfl, by simpa using q⟩
end
section
variable {K : Kc} {F : Addr → Prop} {H : Hp}
theorem Rep.flat {d : D} {v : V} (h : Rep K F H d v) (f : flatD d = true) : flatV v = true := by
  cases d <;> simp [flatD] at f <;> (unfold Rep at h; subst h; rfl)
theorem Rep.eqFl {d e : D} {v u : V} (h : Rep K F H d v) (f : flatD d = true) (h' : Rep K F H e u) (f' : flatD e = true) : DV.eqFl d e = eqV v u := by
  cases d <;> simp [flatD] at f <;> cases e <;> simp [flatD] at f' <;> (unfold Rep at h h'; subst h; subst h'; rfl)
theorem RepL.flat : ∀ {ds : List D} {vs : List V}, RepL K F H ds vs → ds.all flatD = true → vs.all flatV = true
  | [], _, h, _ => by unfold RepL at h; subst h; rfl
  | d :: ds, _, h, f => by
    unfold RepL at h
    obtain ⟨v, r, rfl, h1, h2⟩ := h
    simp only [List.all_cons, Bool.and_eq_true] at f ⊢
    exact ⟨h1.flat f.1, RepL.flat h2 f.2⟩
theorem RepL.anyFl {x : D} {u : V} (hx : Rep K F H x u) (fx : flatD x = true) : ∀ {ds : List D} {vs : List V}, RepL K F H ds vs → ds.all flatD = true → (ds.any fun z => DV.eqFl z x) = inV u vs
  | [], _, h, _ => by unfold RepL at h; subst h; rfl
  | d :: ds, _, h, f => by
    unfold RepL at h
    obtain ⟨v, r, rfl, h1, h2⟩ := h
    simp only [List.all_cons, Bool.and_eq_true] at f
    have ih := RepL.anyFl hx fx h2 f.2
    unfold inV at ih ⊢
    simp only [List.any_cons, ih, h1.eqFl f.1 hx fx]
theorem Vw.flatRep {d : D} {v : V} (h : Vw K F H d v) (f : flatD d = true) : Rep K F H d v := by
  cases d <;> simp [flatD] at f <;> (unfold Vw at h; exact h)
theorem Vw.seq {d : D} {v : V} {xs : List D} (h : Vw K F H d v) (e : seqOf d = some xs) : ∃ p vs, v = .ref p ∧ (SqL K.K H p vs ∨ SqT K.K H p vs) ∧ RepL K F H xs vs := by
  cases d <;> simp [seqOf] at e
  · subst e; obtain ⟨a, vs, e, h1, h2⟩ := h.tup; exact ⟨a, vs, e, .inr h1, h2⟩
  · subst e; obtain ⟨a, vs, e, h1, h2⟩ := h.lst; exact ⟨a, vs, e, .inl (SqL.of h1), h2⟩
end
section
variable {K : Kc}
theorem pr_inN (n : Bool) : PureR K (rInN K.K n) (fun x y => (inB x y).map fun b => .bl (b != n)) := by
  intro F H dx dy d vx vy Q fk e wx wy k
  obtain ⟨b, e9, e2⟩ := Option.map_eq_some_iff.mp e
  clear e
  cases e2
  have fin : Q (.bl (b != n)) H := k _ F H .refl Rep.bl'
  unfold inB at e9
  cases q1 : inS dx dy with
  | some b1 =>
    rw [q1] at e9
    simp only [Option.some_or, Option.some.injEq] at e9
    subst e9
    unfold inS at q1
    split at q1
    · cases q1
      exact .inl ⟨_, _, wx.str, wy.str, fin⟩
    · cases q1
  | none =>
    rw [q1, Option.none_or] at e9
    cases q2 : inK dx dy with
    | some b1 =>
      rw [q2] at e9
      simp only [Option.some_or, Option.some.injEq] at e9
      subst e9
      unfold inK at q2
      split at q2
      · split at q2
        · rename_i hk
          cases q2
          obtain ⟨key, rfl⟩ := isKey_to hk
          unfold Vw at wy
          obtain ⟨a, kvs, rfl, h1, rfl, h3⟩ := wy
          cases wx.key
          refine .inr (.inl ⟨a, valV kvs key, rfl, .inl ⟨kvs, key, h1, rfl, rfl⟩, ?_⟩)
          rcases dget_val key h3 with ⟨z1, z2⟩ | ⟨d, v, z1, z2, _⟩
          · rw [z1] at fin; rw [z2]; exact fin
          · rw [z1] at fin; rw [z2]; exact fin
        · cases q2
      · cases q2
    | none =>
      rw [q2, Option.none_or] at e9
      cases q3 : inF dx dy with
      | some b1 =>
        rw [q3] at e9
        simp only [Option.some_or, Option.some.injEq] at e9
        subst e9
        unfold inF at q3
        split at q3
        · rename_i xs hs
          split at q3
          · rename_i hf
            cases q3
            obtain ⟨p, vs, rfl, h1, h2⟩ := wy.seq hs
            have hx := wx.flatRep hf.1
            refine .inr (.inr (.inl ⟨p, vs, rfl, h1, hx.flat hf.1, h2.flat hf.2, ?_⟩))
            rw [← RepL.anyFl hx hf.1 h2 hf.2]
            exact fin
          · cases q3
        · cases q3
      | none =>
        rw [q3, Option.none_or] at e9
        unfold inP at e9
        split at e9
        · rename_i xs hs
          split at e9
          · rename_i hf
            cases e9
            have d1 := wx.dp hf.1
            have d2 := wy.dp hf.2
            have s1 := hf.1
            have s2 := hf.2
            unfold okPy at s1 s2
            cases dy <;> simp [seqOf] at hs
            · subst hs
              unfold toPy at d2 s2
              exact .inr (.inr (.inr (.inr ⟨_, _, d1, d2, s1, s2, fin⟩)))
            · subst hs
              unfold toPy at d2 s2
              exact .inr (.inr (.inr (.inl ⟨_, _, d1, d2, s1, s2, fin⟩)))
          · cases e9
        · cases e9
theorem pr_in : PureR K (rInN K.K false) inD := by
  refine PureR.eqf (pr_inN false) fun x y d e => ?_
  unfold inD at e
  simpa using e
theorem pr_nin : PureR K (rInN K.K true) ninD := by
  refine PureR.eqf (pr_inN true) fun x y d e => ?_
  unfold ninD at e
  simpa using e
end

/-! ### subscripts -/
def ixD : D → D → Option D
  | .tup xs, .int i => atI xs i
  | .lst xs, .int i => atI xs i
  | .str z, .int i => if z.length ≤ SZ then (atI z.cps.toList i).map fun c => .str ⟨#[c]⟩ else none
  | .dic ks vs, k => if isKey k = true then dget ks vs k else none
  | _, _ => none
theorem RepL.atI {K : Kc} {F : Addr → Prop} {H : Hp} {ds : List D} {vs : List V} {i : Int} {d : D} (r : RepL K F H ds vs) (e : L2.atI ds i = some d) : ∃ v, L2.atI vs i = some v ∧ Rep K F H d v := by
  unfold L2.atI at e ⊢
  rw [r.length]
  cases q : ixN ds.length i with
  | none => rw [q] at e; cases e
  | some j =>
    rw [q] at e
    simp only [Option.bind_some] at e ⊢
    exact r.get e
def rIxAll (K : PySem.W.Frag) : R2 := fun x y H Q => rIx K x y H Q ∨ ∃ a v, x = .ref a ∧ DGet H a y (some v) ∧ Q v H
theorem ix_all {X : Cx} (hu : X.A.units + 1 < cLine) : IxR X (rIxAll X.K) := by
  refine ix_seq.or fun value slice pins s σ H x y v u Q I rx ry h hs => ?_
  obtain ⟨a, z, e1, g, q⟩ := h
  subst e1
  cases rx
  exact tail_any (dict_typeIs I g) PySem.F.slot_dict_getitem.lookup (d_getItem hu I g ry fun w' s' I' r => ⟨z, H, I', r, q⟩) hs
theorem pr_ix {K : Kc} : PureR K (rIxAll K.K) ixD := by
  intro F H dx dy d vx vy Q fk e wx wy k
  unfold ixD at e
  split at e
  · obtain ⟨a, vs, rfl, h1, r1⟩ := wx.tup
    obtain ⟨v, h2, r2⟩ := r1.atI e
    exact .inl (.inr (.inl ⟨a, vs, _, v, rfl, wy.int, h1, h2, k v F H .refl r2⟩))
  · obtain ⟨a, vs, rfl, h1, r1⟩ := wx.lst
    obtain ⟨v, h2, r2⟩ := r1.atI e
    exact .inl (.inl ⟨a, vs, _, v, rfl, wy.int, SqL.of h1, h2, k v F H .refl r2⟩)
  · split at e
    · rename_i hz
      obtain ⟨c, hc, e2⟩ := Option.map_eq_some_iff.mp e
      cases e2
      exact .inl (.inr (.inr ⟨_, _, c, wx.str, wy.int, sz_le hz, hc, k _ F H .refl Rep.str'⟩))
    · cases e
  · split at e
    · rename_i hk
      obtain ⟨key, rfl⟩ := isKey_to hk
      unfold Vw at wx
      obtain ⟨a, kvs, rfl, h1, rfl, h3⟩ := wx
      cases wy.key
      rcases dget_val key h3 with ⟨z1, z2⟩ | ⟨d', v, z1, z2, r⟩
      · rw [z1] at e; cases e
      · rw [z1] at e; cases e
        exact .inr ⟨a, v, rfl, .inl ⟨kvs, key, h1, rfl, z2.symm⟩, k v F H .refl r⟩
    · cases e
  · cases e
section
variable {X : Cx} {pos : Pos}
theorem cd_ix {a b : Expr} {oa ob : FO} (hu : X.A.units + 1 < cLine) (ha : PE X a (tO (kc X) oa)) (hb : PE X b (tO (kc X) ob)) (hs : PlainIx b) : PE X (.Subscript a b pos) (tD (kc X) (gOp2 ixD oa ob)) :=
  PE.to (pe_ix (ix_all hu) ha hb hs) fun σ H Q h => op2_fit pr_ix h

/-! ### slices -/
abbrev FP := Env → Option (Option Int × Env)
def tP (K : Kc) (g : FP) : TO := fun σ H Q => ∃ F B as ρ o ρ', Sit K F B H ρ σ as ∧ g ρ = some (o, ρ') ∧ ∀ H' F' as', Ext F as H F' as' H' → Sit K F' B H' ρ' σ as' → Q o H'
theorem PO.to {e : Option Expr} {t t' : TO} (h : PO X e t) (c : ∀ σ H Q, t' σ H Q → t σ H Q) : PO X e t' := ⟨fun pins s σ H Q I hq => h.run pins s σ H Q I (c σ H Q hq)⟩
theorem cp_none : PO X none (tP (kc X) fun ρ => some (none, ρ)) := PO.to po_none fun σ H Q ⟨F, B, as, ρ, o, ρ', S, e, k⟩ => by
  cases e; exact k H F as .refl S
def gPart (g : FD) : FP := fun ρ => match g ρ with
  | some (.int i, ρ1) => some (some i, ρ1)
  | _ => none
theorem cp_some {a : Expr} {g : FD} (ha : PE X a (tD (kc X) g)) : PO X (some a) (tP (kc X) (gPart g)) := PO.to (po_some ha) fun σ H Q ⟨F, B, as, ρ, o, ρ', S, e, k⟩ => by
  unfold gPart at e
  split at e
  · rename_i i ρ1 q
    cases e
    exact ⟨F, B, as, ρ, .int i, _, S, q, fun v H1 F1 as1 E1 S1 r => ⟨i, by unfold Rep at r; exact r, k H1 F1 as1 E1 S1⟩⟩
  · cases e
def cutD (xs : List D) (lo hi : Option Int) : List D := (xs.drop (HT.sIx xs.length 0 lo)).take (HT.sIx xs.length xs.length hi - HT.sIx xs.length 0 lo)
theorem RepL.cut {K : Kc} {F : Addr → Prop} {H : Hp} {ds : List D} {vs : List V} (r : RepL K F H ds vs) (lo hi : Option Int) : RepL K F H (cutD ds lo hi) (cutV vs lo hi) := by
  unfold cutD cutV
  rw [r.length]
  exact (r.drop _).take _
def slD : D → Option Int → Option Int → Option D
  | .tup xs, lo, hi => some (.tup (cutD xs lo hi))
  | .lst xs, lo, hi => some (.lst (cutD xs lo hi))
  | _, _, _ => none
def gSl (f : D → Option Int → Option Int → Option D) (oa : FO) (gl gh : FP) : FD := fun ρ => match oa ρ with
  | some (x, ρ1) => match gl ρ1 with
    | some (lo, ρ2) => match gh ρ2 with
      | some (hi, ρ3) => match res ρ3 x with
        | some dx => match f dx lo hi with
          | some d => some (d, ρ3)
          | none => none
        | none => none
      | none => none
    | none => none
  | none => none
theorem gSl_some {f : D → Option Int → Option Int → Option D} {oa : FO} {gl gh : FP} {ρ : Env} {d : D} {ρ' : Env} (h : gSl f oa gl gh ρ = some (d, ρ')) :
    ∃ x ρ1 lo ρ2 hi dx, oa ρ = some (x, ρ1) ∧ gl ρ1 = some (lo, ρ2) ∧ gh ρ2 = some (hi, ρ') ∧ res ρ' x = some dx ∧ f dx lo hi = some d := by
  unfold gSl at h
  split at h
  · rename_i x ρ1 q1
    split at h
    · rename_i lo ρ2 q2
      split at h
      · rename_i hi ρ3 q3
        split at h
        · rename_i dx q4
          split at h
          · rename_i d' q5
            cases h
            exact ⟨x, ρ1, lo, ρ2, hi, dx, q1, q2, q3, q4, q5⟩
          · cases h
        · cases h
      · cases h
    · cases h
  · cases h
def rSlAll (K : PySem.W.Frag) : V → Option Int → Option Int → Hp → VK → Prop := fun x lo hi H Q => rSlZ K x lo hi H Q ∨ rSlL K x lo hi H Q
theorem cut_whole {n : Nat} {xs : List V} {lo hi : Option Int} (h : HT.sIx xs.length 0 lo = 0 ∧ HT.sIx xs.length xs.length hi = xs.length) : cutV xs lo hi = xs := by
  unfold cutV
  rw [h.1, h.2]
  simp
theorem cutD_whole {xs : List D} {lo hi : Option Int} (h : HT.sIx xs.length 0 lo = 0 ∧ HT.sIx xs.length xs.length hi = xs.length) : cutD xs lo hi = xs := by
  unfold cutD
  rw [h.1, h.2]
  simp
theorem cd_slice {a : Expr} {lo hi : Option Expr} {p2 : Pos} {oa : FO} {gl gh : FP} (ha : PE X a (tO (kc X) oa)) (hl : PO X lo (tP (kc X) gl)) (hh : PO X hi (tP (kc X) gh)) : PE X (.Subscript a (.Slice lo hi none p2) pos) (tD (kc X) (gSl slD oa gl gh)) :=
  PE.to (pe_slice (r := rSlAll X.K) (sl_tupZ.or sl_list) ha hl hh) fun σ H Q ⟨F, B, as, ρ, d, ρ', S, e, k⟩ => by
    obtain ⟨x, ρ1, lo, ρ2, hi, dx, e1, e2, e3, e4, e5⟩ := gSl_some e
    refine ⟨F, B, as, ρ, x, ρ1, S, e1, fun vx H1 F1 as1 E1 S1 r1 => ⟨F1, B, as1, ρ1, lo, ρ2, S1, e2, fun H2 F2 as2 E2 S2 => ⟨F2, B, as2, ρ2, hi, ρ', S2, e3, fun H3 F3 as3 E3 S3 => ?_⟩⟩⟩
    have w := S3.res e4 ((r1.stb E2.stb).stb E3.stb)
    have E := (E1.trans E2).trans E3
    unfold slD at e5
    split at e5
    · cases e5
      obtain ⟨p, us, rfl, h1, q1⟩ := w.tup
      refine .inl ⟨p, us, rfl, h1, fun hw => ?_, fun hw q ob hd hq => ?_⟩
      · rw [q1.length] at hw
        rw [cutD_whole hw] at k
        exact k _ H3 F3 as3 E S3 (Rep.tup' h1 q1)
      · obtain ⟨E4, q2⟩ := new_tup hd hq (q1.cut lo hi)
        exact k _ _ F3 as3 (E.trans E4.pure) (S3.step E4) q2
    · cases e5
      obtain ⟨p, us, rfl, h1, q1⟩ := w.lst
      refine .inr ⟨p, us, rfl, SqL.of h1, fun q hq => ?_⟩
      obtain ⟨E4, q2⟩ := new_lstF hq (q1.cut lo hi)
      exact k _ _ _ as3 (E.trans E4.pure) (S3.step E4) q2
    · cases e5
end

/-! ### len, all, any, tuple, list, int -/
def lenD : D → Option D
  | .tup xs => some (.int xs.length)
  | .lst xs => some (.int xs.length)
  | .str z => if z.length ≤ SZ then some (.int z.length) else none
  | .dic ks _ => some (.int ks.length)
  | _ => none
def rLenAll (K : PySem.W.Frag) : List V → Hp → VK → Prop := fun xs H Q => (∃ x n, xs = [x] ∧ LenV K x H n ∧ Q (.int n) H) ∨ ∃ a kvs, xs = [.ref a] ∧ Rd H a (.dK kvs) ∧ Q (.int kvs.length) H
theorem cr_len {X : Cx} : CallR X (.builtin "len") (rLenAll X.K) := by
  intro pins s σ H xs us Q I r h
  rcases h with h | ⟨a, kvs, rfl, h, q⟩
  · exact call_len pins s σ H xs us Q I r h
  · have e := Vals.ref1 r
    subst e
    exact d_len I h fun t s' I' => ⟨.int kvs.length, H, I', ⟨t, rfl⟩, q⟩
theorem pc_len {K : Kc} : PureC K (rLenAll K.K) lenD := by
  intro F H dx d vx Q fk e w k
  unfold lenD at e
  split at e
  · cases e
    obtain ⟨a, vs, rfl, h1, r1⟩ := w.tup
    refine .inl ⟨_, vs.length, rfl, .inr ⟨vs, h1, rfl⟩, ?_⟩
    rw [r1.length]
    exact k _ F H .refl Rep.int'
  · cases e
    obtain ⟨a, vs, rfl, h1, r1⟩ := w.lst
    refine .inl ⟨_, vs.length, rfl, .inl ⟨vs, SqL.of h1, rfl⟩, ?_⟩
    rw [r1.length]
    exact k _ F H .refl Rep.int'
  · split at e
    · rename_i hz
      cases e
      cases w.str
      exact .inl ⟨_, _, rfl, ⟨sz_le hz, rfl⟩, k _ F H .refl Rep.int'⟩
    · cases e
  · cases e
    unfold Vw at w
    obtain ⟨a, kvs, rfl, h1, rfl, h3⟩ := w
    refine .inr ⟨a, kvs, rfl, h1, ?_⟩
    rw [List.length_map] at k
    exact k _ F H .refl Rep.int'
  · cases e
def blsOf : List D → Option (List Bool)
  | [] => some []
  | .bl b :: r => match blsOf r with
    | some bs => some (b :: bs)
    | none => none
  | _ => none
theorem RepL.bls {K : Kc} {F : Addr → Prop} {H : Hp} : ∀ {ds : List D} {vs : List V} {bs : List Bool}, RepL K F H ds vs → blsOf ds = some bs → vs = bs.map V.bl
  | [], _, _, h, e => by unfold RepL at h; subst h; cases e; rfl
  | .bl b :: r, _, bs, h, e => by
    unfold RepL at h
    obtain ⟨v, r', rfl, h1, h2⟩ := h
    unfold blsOf at e
    split at e
    · rename_i bs' q
      cases e
      unfold Rep at h1
      rw [h1, RepL.bls h2 q]
      rfl
    · cases e
  | .non :: r, _, _, _, e => by simp [blsOf] at e
  | .int _ :: r, _, _, _, e => by simp [blsOf] at e
  | .str _ :: r, _, _, _, e => by simp [blsOf] at e
  | .ty _ :: r, _, _, _, e => by simp [blsOf] at e
  | .fn _ :: r, _, _, _, e => by simp [blsOf] at e
  | .tup _ :: r, _, _, _, e => by simp [blsOf] at e
  | .lst _ :: r, _, _, _, e => by simp [blsOf] at e
  | .dic _ _ :: r, _, _, _, e => by simp [blsOf] at e
  | .scr _ :: r, _, _, _, e => by simp [blsOf] at e
  | .ins _ _ _ _ :: r, _, _, _, e => by simp [blsOf] at e
def allD : D → Option D
  | .lst ds => match blsOf ds with
    | some bs => some (.bl (bs.all id))
    | none => none
  | _ => none
def anyD : D → Option D
  | .lst ds => match blsOf ds with
    | some bs => some (.bl (bs.any id))
    | none => none
  | _ => none
theorem pc_all {K : Kc} : PureC K (rAll K.K) allD := by
  intro F H dx d vx Q fk e w k
  unfold allD at e
  split at e
  · split at e
    · rename_i bs q
      cases e
      obtain ⟨a, vs, rfl, h1, r1⟩ := w.lst
      have e := r1.bls q
      subst e
      exact ⟨a, bs, rfl, SqL.of h1, k _ F H .refl Rep.bl'⟩
    · cases e
  · cases e
theorem pc_any {K : Kc} : PureC K (rAny K.K) anyD := by
  intro F H dx d vx Q fk e w k
  unfold anyD at e
  split at e
  · split at e
    · rename_i bs q
      cases e
      obtain ⟨a, vs, rfl, h1, r1⟩ := w.lst
      have e := r1.bls q
      subst e
      exact ⟨a, bs, rfl, SqL.of h1, k _ F H .refl Rep.bl'⟩
    · cases e
  · cases e
def tupD : D → Option D
  | .lst xs => some (.tup xs)
  | .tup xs => some (.tup xs)
  | _ => none
theorem pc_tup {K : Kc} : PureC K (fun xs H Q => ∃ p ys, xs = [.ref p] ∧ ((SqL K.K H p ys ∧ NewZ ys H Q) ∨ (SqT K.K H p ys ∧ Q (.ref p) H))) tupD := by
  intro F H dx d vx Q fk e w k
  unfold tupD at e
  split at e
  · cases e
    obtain ⟨a, vs, rfl, h1, r1⟩ := w.lst
    refine ⟨a, vs, rfl, .inl ⟨SqL.of h1, fun l ob hd hl => ?_⟩⟩
    obtain ⟨E, r⟩ := new_tup hd hl r1
    exact k _ F _ E r
  · cases e
    obtain ⟨a, vs, rfl, h1, r1⟩ := w.tup
    exact ⟨a, vs, rfl, .inr ⟨h1, k _ F H .refl (Rep.tup' h1 r1)⟩⟩
  · cases e
def lstD : D → Option D
  | .lst xs => some (.lst xs)
  | .tup xs => some (.lst xs)
  | .scr ns => some (.lst (ns.map .int))
  | _ => none
theorem own_lst {K : Kc} {F : Addr → Prop} {H : Hp} {p : Addr} {ds : List D} {vs : List V} (hp : H p = none) (r : RepL K F H ds vs) : Own K F (upd H p (.lst vs)) (.lst ds) (.ref p) [p] := by
  have E : Ext F [] H F [p] (upd H p (.lst vs)) := Ext.newO hp
  unfold Own OwnC
  exact ⟨p, vs, rfl, upd_same, RepL.stb E.stb _ _ r, rfl⟩
theorem RepL.ints {K : Kc} {F : Addr → Prop} {H : Hp} : ∀ ns : List Int, RepL K F H (ns.map .int) (ns.map V.int)
  | [] => RepL.nil
  | n :: ns => RepL.cons Rep.int' (RepL.ints ns)
theorem pw_lst {K : Kc} : PureW K (fun xs H Q => ∃ p ys, xs = [.ref p] ∧ (SqL K.K H p ys ∨ SqT K.K H p ys) ∧ ∀ l, H l = none → Q (.ref l) (upd H l (.lst ys))) lstD := by
  intro F H dx d vx Q fk e w k
  unfold lstD at e
  split at e
  · cases e
    obtain ⟨a, vs, rfl, h1, r1⟩ := w.lst
    exact ⟨a, vs, rfl, .inl (SqL.of h1), fun l hl => k l _ hl (own_lst hl r1)⟩
  · cases e
    obtain ⟨a, vs, rfl, h1, r1⟩ := w.tup
    exact ⟨a, vs, rfl, .inr h1, fun l hl => k l _ hl (own_lst hl r1)⟩
  · cases e
    unfold Vw Rep at w
    obtain ⟨a, rfl, h1⟩ := w
    exact ⟨a, _, rfl, .inl (h1.elim (fun ⟨o, h1⟩ => .inl (.inr ⟨o, h1⟩)) fun h => h H), fun l hl => k l _ hl (own_lst hl (RepL.ints _))⟩
  · cases e
def intD : D → Option D
  | .int i => some (.int i)
  | .bl b => some (.int (if b then 1 else 0))
  | _ => none
theorem pc_int {K : Kc} : PureC K (fun xs H Q => (∃ i, xs = [.int i] ∧ Q (.int i) H) ∨ ∃ k, xs = [.bl k] ∧ Q (.int (if k then 1 else 0)) H) intD := by
  intro F H dx d vx Q fk e w k
  unfold intD at e
  split at e
  · cases e; cases w.int; exact .inl ⟨_, rfl, k _ F H .refl Rep.int'⟩
  · cases e; cases w.bl; exact .inr ⟨_, rfl, k _ F H .refl Rep.int'⟩
  · cases e

/-! ### isinstance -/
inductive Tg where
  | non | bl | int | str | tup | lst | dic
  deriving DecidableEq
def Tg.name : Tg → String
  | .non => "NoneType"
  | .bl => "bool"
  | .int => "int"
  | .str => "str"
  | .tup => "tuple"
  | .lst => "list"
  | .dic => "dict"
def tgD : D → Option Tg
  | .non => some .non
  | .bl _ => some .bl
  | .int _ => some .int
  | .str _ => some .str
  | .tup _ => some .tup
  | .lst _ => some .lst
  | .dic _ _ => some .dic
  | _ => none
def tgN (s : String) : Option Tg := if s = "bool" then some .bl else if s = "int" then some .int else if s = "str" then some .str else if s = "tuple" then some .tup else if s = "list" then some .lst else if s = "dict" then some .dic else none
def isTg (a b : Tg) : Bool := a = b || (a = .bl && b = .int)
theorem kit_tg : ∀ a b : Tg, b ≠ .non → kitB a.name b.name = some (isTg a b) := by
  intro a b h
  cases a <;> cases b <;> first | exact absurd rfl h | decide +kernel
theorem tgN_name {s : String} {t : Tg} (h : tgN s = some t) : s = t.name ∧ t ≠ .non := by
  unfold tgN at h
  repeat (split at h; · rename_i e; cases h; exact ⟨e, by decide⟩)
  cases h
def isiD : D → D → Option D
  | x, .ty n => match tgD x, tgN n with
    | some a, some b => some (.bl (isTg a b))
    | _, _ => none
  | _, _ => none
theorem Vw.ty {K : Kc} {F : Addr → Prop} {H : Hp} {d : D} {v : V} {t : Tg} (w : Vw K F H d v) (e : tgD d = some t) : TyX K.K H v (.type t.name) := by
  cases d <;> simp [tgD] at e <;> subst e
  · cases w.non; exact .base .non
  · cases w.bl; exact .base (.bl _)
  · cases w.int; exact .base (.int _)
  · cases w.str; exact .base (.str _)
  · obtain ⟨a, vs, rfl, h, _⟩ := w.tup
    rcases h with ⟨o, h, _⟩ | ⟨o, its, n, h, hc, _⟩
    · exact .fTuple h
    · exact .kTuple h hc
  · obtain ⟨a, vs, rfl, h, _⟩ := w.lst
    exact .base (.lst h)
  · unfold Vw at w
    obtain ⟨a, kvs, rfl, h, _⟩ := w
    rcases h with h | ⟨o, h⟩
    · exact .base (.dK h)
    · exact .fDict h
theorem cd_isi {X : Cx} {pos p : Pos} {a b : Expr} {oa ob : FO} (hg : Gl X "isinstance") (hm : X.mg "isinstance" = none) (hv : bootBuiltins "isinstance" = some (.builtin "isinstance")) (ha : PE X a (tO (kc X) oa)) (hb : PE X b (tO (kc X) ob))
    (he : starEach [a, b] X.env = (false, eval a X.env) :: starEach [b] X.env := by rfl) (he2 : starEach [b] X.env = (false, eval b X.env) :: starEach [] X.env := by rfl) (hpl : (backTo pos (starEach [b] X.env)).any (·.1) = false := by rfl) : PE X (.Call (.Name "isinstance" p) [a, b] [] pos) (tD (kc X) (gOp2 isiD oa ob)) :=
  PE.to (pe_callB call_isi hg hm hv (pa_cons ha (pa_cons hb pa_nil he2) he) (by decide) (by decide) he hpl) fun σ H Q ⟨F, B, as, ρ, d, ρ', S, e, k⟩ => by
    obtain ⟨x, ρ1, y, dx, dy, e1, e2, e3, e4, e5⟩ := gOp2_some e
    refine seqOO S e1 e2 fun vx vy H2 F2 as2 E S2 rx ry => ?_
    have wx := S2.res e3 rx
    have wy := S2.res e4 ry
    unfold isiD at e5
    split at e5
    · split at e5
      · rename_i n _ t u q1 q2
        cases e5
        obtain ⟨rfl, hn⟩ := tgN_name q2
        unfold Vw Rep at wy
        subst wy
        exact ⟨vx, _, _, _, _, rfl, .ty _, wx.ty q1, kit_ty (kit_tg t u hn), k _ H2 F2 as2 E S2 Rep.bl'⟩
      · cases e5
    · cases e5
end DV

/-! DV5: statements, calls of defs. -/
namespace DV
open L2 PySem PySem.Spec PyProof.Rows

inductive Fl where
  | nx | br | ct | rt (d : D) (w : Bool)
abbrev FS := Env → Option (Fl × Env)
def tSEnd (K : Kc) (F : Addr → Prop) (B : List Addr) (as : List Addr) (H : Hp) (D : Ends) (ρ' : Env) : Fl → Prop
  | .nx => ∀ σ' H' F' as', Ext F as H F' as' H' → Sit K F' B H' ρ' σ' as' → D.nx σ' H'
  | .br => ∀ σ' H' F' as', Ext F as H F' as' H' → Sit K F' B H' ρ' σ' as' → D.bk σ' H'
  | .ct => ∀ σ' H' F' as', Ext F as H F' as' H' → Sit K F' B H' ρ' σ' as' → D.ct σ' H'
  | .rt d w => ∀ v σ' H' F' as' bs, Ext F as H F' (bs ++ as') H' → Sit2 K F' B H' ρ' σ' as' d w v bs → D.rt v H'
def tS (K : Kc) (g : FS) : TS := fun D σ H => ∃ F B as ρ fl ρ', Sit K F B H ρ σ as ∧ g ρ = some (fl, ρ') ∧ tSEnd K F B as H D ρ' fl
theorem tSEnd.ext {K : Kc} {F F1 : Addr → Prop} {B as as1 : List Addr} {H H1 : Hp} {D : Ends} {ρ' : Env} {fl : Fl} (h : tSEnd K F B as H D ρ' fl) (E : Ext F as H F1 as1 H1) : tSEnd K F1 B as1 H1 D ρ' fl := by
  cases fl with
  | nx => exact fun σ' H' F' as' E' S => h σ' H' F' as' (E.trans E') S
  | br => exact fun σ' H' F' as' E' S => h σ' H' F' as' (E.trans E') S
  | ct => exact fun σ' H' F' as' E' S => h σ' H' F' as' (E.trans E') S
  | rt d w => exact fun v σ' H' F' as' bs E' S => h v σ' H' F' as' bs (E.trans E') S
theorem tSEnd.nx {K : Kc} {F : Addr → Prop} {B as : List Addr} {H : Hp} {D D' : Ends} {ρ' : Env} {fl : Fl} (h : tSEnd K F B as H D ρ' fl) (hn : fl = .nx → False) (e1 : D'.bk = D.bk) (e2 : D'.ct = D.ct) (e3 : D'.rt = D.rt) : tSEnd K F B as H D' ρ' fl := by
  cases fl with
  | nx => exact absurd rfl hn
  | br => unfold tSEnd at h ⊢; rw [e1]; exact h
  | ct => unfold tSEnd at h ⊢; rw [e2]; exact h
  | rt d w => unfold tSEnd at h ⊢; rw [e3]; exact h

theorem PS.to {X : Cx} {st : Stmt} {t t' : TS} (h : PS X st t) (c : ∀ D σ H, t' D σ H → t D σ H) : PS X st t' := ⟨fun pins s σ H D I hq => h.run pins s σ H D I (c D σ H hq)⟩
theorem PSs.to {X : Cx} {st : List Stmt} {t t' : TS} (h : PSs X st t) (c : ∀ D σ H, t' D σ H → t D σ H) : PSs X st t' := ⟨fun pins s σ H D I hq => h.run pins s σ H D I (c D σ H hq)⟩

theorem Sit2.drop {K : Kc} {F : Addr → Prop} {B : List Addr} {H : Hp} {ρ : Env} {σ : L2.St} {as : List Addr} {d : D} {w : Bool} {v : V} {bs : List Addr} (S : Sit2 K F B H ρ σ as d w v bs) : Sit K F B H ρ σ as :=
  ⟨S.env, (List.nodup_append.mp S.nd).2.1, fun a m => S.nf a (List.mem_append_right _ m), S.fk⟩

section
variable {X : Cx} {pos : Pos}
/-! ### blocks -/
def gSkip : FS := fun ρ => some (.nx, ρ)
theorem css_nil : PSs X [] (tS (kc X) gSkip) := PSs.to pss_nil fun D σ H ⟨F, B, as, ρ, fl, ρ', S, e, k⟩ => by
  cases e; exact k σ H F as .refl S
theorem cs_pass : PS X (.Pass pos) (tS (kc X) gSkip) := PS.to ps_pass fun D σ H ⟨F, B, as, ρ, fl, ρ', S, e, k⟩ => by
  cases e; exact k σ H F as .refl S
theorem cs_doc {x j p} : PS X (.Expr (.Constant (.str x) j p) pos) (tS (kc X) gSkip) := PS.to ps_doc fun D σ H ⟨F, B, as, ρ, fl, ρ', S, e, k⟩ => by
  cases e; exact k σ H F as .refl S
theorem cs_break : PS X (.Break pos) (tS (kc X) fun ρ => some (.br, ρ)) := PS.to ps_break fun D σ H ⟨F, B, as, ρ, fl, ρ', S, e, k⟩ => by
  cases e; exact k σ H F as .refl S
theorem cs_cont : PS X (.Continue pos) (tS (kc X) fun ρ => some (.ct, ρ)) := PS.to ps_continue fun D σ H ⟨F, B, as, ρ, fl, ρ', S, e, k⟩ => by
  cases e; exact k σ H F as .refl S
/-- what is never reached -/
theorem cs_never {st : Stmt} : PS X st (tS (kc X) fun _ => none) := PS.to ps_never fun D σ H ⟨F, B, as, ρ, fl, ρ', S, e, k⟩ => by cases e
theorem cd_never {e : Expr} : PE X e (tD (kc X) fun _ => none) := ⟨fun _ _ _ _ _ _ ⟨F, B, as, ρ, fl, ρ', S, e, k⟩ => by cases e⟩
theorem cw_never {e : Expr} : PE X e (tW (kc X) fun _ => none) := ⟨fun _ _ _ _ _ _ ⟨F, B, as, ρ, fl, w, ρ', S, e, k⟩ => by cases e⟩
theorem ct_never {e : Expr} : PT X e (tB (kc X) fun _ => none) := ⟨fun _ _ _ _ _ _ ⟨F, B, as, ρ, fl, ρ', S, e, k⟩ => by cases e⟩
def gSeq (a b : FS) : FS := fun ρ => match a ρ with
  | some (.nx, ρ1) => b ρ1
  | some (.br, ρ1) => some (.br, ρ1)
  | some (.ct, ρ1) => some (.ct, ρ1)
  | some (.rt d w, ρ1) => some (.rt d w, ρ1)
  | none => none
theorem css_cons {st : Stmt} {rest : List Stmt} {ga gb : FS} (h1 : PS X st (tS (kc X) ga)) (h2 : PSs X rest (tS (kc X) gb)) : PSs X (st :: rest) (tS (kc X) (gSeq ga gb)) :=
  PSs.to (pss_cons h1 h2) fun D σ H ⟨F, B, as, ρ, fl, ρ', S, e, k⟩ => by
    unfold gSeq at e
    split at e
    · rename_i ρ1 q
      exact ⟨F, B, as, ρ, .nx, ρ1, S, q, fun σ1 H1 F1 as1 E1 S1 => ⟨F1, B, as1, ρ1, fl, ρ', S1, e, k.ext E1⟩⟩
    · rename_i ρ1 q; cases e; exact ⟨F, B, as, ρ, _, _, S, q, k.nx (fun z => by cases z) rfl rfl rfl⟩
    · rename_i ρ1 q; cases e; exact ⟨F, B, as, ρ, _, _, S, q, k.nx (fun z => by cases z) rfl rfl rfl⟩
    · rename_i d w ρ1 q; cases e; exact ⟨F, B, as, ρ, _, _, S, q, k.nx (fun z => by cases z) rfl rfl rfl⟩
    · cases e
theorem css_one {st : Stmt} {g : FS} (h : PS X st (tS (kc X) g)) : PSs X [st] (tS (kc X) g) := pss_one h
/-! ### small statements -/
def gDrop (g : FW) : FS := fun ρ => match g ρ with
  | some (_, _, ρ1) => some (.nx, ρ1)
  | none => none
theorem cs_expr {e : Expr} {g : FW} (h : PE X e (tW (kc X) g)) (hs : swapsWith e none pos.line X.env = pure false := by rfl) : PS X (.Expr e pos) (tS (kc X) (gDrop g)) :=
  PS.to (ps_expr h hs) fun D σ H ⟨F, B, as, ρ, fl, ρ', S, e, k⟩ => by
    unfold gDrop at e
    split at e
    · rename_i d w ρ1 q
      cases e
      exact ⟨F, B, as, ρ, d, w, _, S, q, fun v H1 F1 as1 bs E1 S1 => k σ H1 F1 as1 (E1.sub fun b m => List.mem_append_right _ m) S1.drop⟩
    · cases e
def gRet (g : FW) : FS := fun ρ => match g ρ with
  | some (d, w, ρ1) => some (.rt d w, ρ1)
  | none => none
theorem cs_ret {e : Expr} {g : FW} (h : PE X e (tW (kc X) g)) : PS X (.Return (some e) pos) (tS (kc X) (gRet g)) :=
  PS.to (ps_ret h) fun D σ H ⟨F, B, as, ρ, fl, ρ', S, e, k⟩ => by
    unfold gRet at e
    split at e
    · rename_i d w ρ1 q
      cases e
      exact ⟨F, B, as, ρ, d, w, _, S, q, fun v H1 F1 as1 bs E1 S1 => k v σ H1 F1 as1 bs E1 S1⟩
    · cases e
theorem cs_retN : PS X (.Return none pos) (tS (kc X) fun ρ => some (.rt .non false, ρ)) := PS.to ps_retN fun D σ H ⟨F, B, as, ρ, fl, ρ', S, e, k⟩ => by
  cases e
  exact k .non σ H F as [] .refl ⟨S.env, S.nd, S.nf, S.fk, by simp [Rep.non']⟩
def gIfS (t : FT) (a b : FS) : FS := fun ρ => match t ρ with
  | some (true, ρ1) => a ρ1
  | some (false, ρ1) => b ρ1
  | none => none
theorem cs_if {c : Expr} {a b : List Stmt} {t : FT} {ga gb : FS} (hc : PT X c (tB (kc X) t)) (ha : PSs X a (tS (kc X) ga)) (hb : PSs X b (tS (kc X) gb)) : PS X (.If c a b pos) (tS (kc X) (gIfS t ga gb)) :=
  PS.to (ps_if hc ha hb) fun D σ H ⟨F, B, as, ρ, fl, ρ', S, e, k⟩ => by
    unfold gIfS at e
    split at e
    · rename_i ρ1 q
      exact ⟨F, B, as, ρ, true, ρ1, S, q, fun H1 F1 as1 E1 S1 => by simp only [if_true]; exact ⟨F1, B, as1, ρ1, fl, ρ', S1, e, k.ext E1⟩⟩
    · rename_i ρ1 q
      exact ⟨F, B, as, ρ, false, ρ1, S, q, fun H1 F1 as1 E1 S1 => by simp only [Bool.false_eq_true, if_false]; exact ⟨F1, B, as1, ρ1, fl, ρ', S1, e, k.ext E1⟩⟩
    · cases e
/-! ### a name is bound -/
def bind1 (i : Nat) (d : D) (w : Bool) (ρ : Env) : Option Env := match ρ[i]? with
  | some (.bo _ _) => none
  | some _ => some (ρ.set i (if w = true then .ow d else .sh d))
  | none => none
theorem nodup_swap {bs p a q : List Addr} (h : (bs ++ (p ++ (a ++ q))).Nodup) : (p ++ (bs ++ q)).Nodup := by
  simp only [List.nodup_append, List.mem_append] at h ⊢
  grind
theorem Sit2.bind {K : Kc} {F : Addr → Prop} {B : List Addr} {H : Hp} {ρ : Env} {σ : L2.St} {as : List Addr} {d : D} {w : Bool} {v : V} {bs : List Addr} (S : Sit2 K F B H ρ σ as d w v bs) {i : Nat} {ρ' : Env} (e : bind1 i d w ρ = some ρ') :
    ∃ as', Sit K F B H ρ' (σ.set i (some v)) as' ∧ ∀ b, b ∈ as' → b ∈ bs ++ as := by
  have main : ∀ x, ρ[i]? = some x → ∃ as', Sit K F B H (ρ.set i (if w = true then .ow d else .sh d)) (σ.set i (some v)) as' ∧ ∀ b, b ∈ as' → b ∈ bs ++ as := fun x hx => by
    obtain ⟨o, p, a, q, ea, eo, hs, hr⟩ := S.env.split hx
    subst ea
    have sl : SlR K F B H (if w = true then .ow d else .sh d) (some v) bs := by
      have r := S.res
      cases w with
      | true => simp only [if_true] at r ⊢; unfold SlR; exact ⟨v, rfl, r⟩
      | false => simp only [Bool.false_eq_true, if_false] at r ⊢; unfold SlR; exact ⟨r.1, v, rfl, r.2⟩
    have mem : ∀ b, b ∈ p ++ (bs ++ q) → b ∈ bs ++ (p ++ (a ++ q)) := fun b m => by
      simp only [List.mem_append] at m ⊢
      grind
    exact ⟨p ++ (bs ++ q), ⟨hr _ _ _ .refl (Kept.of fun _ _ h => h) sl, nodup_swap S.nd, fun b m => S.nf b (mem b m), S.fk⟩, mem⟩
  unfold bind1 at e
  split at e
  · cases e
  · rename_i x hno hx
    cases e
    exact main x hx
  · cases e
def gSet (i : Nat) (g : FW) : FS := fun ρ => match g ρ with
  | some (d, w, ρ1) => match bind1 i d w ρ1 with
    | some ρ2 => some (.nx, ρ2)
    | none => none
  | none => none
theorem gSet_some {i : Nat} {g : FW} {ρ : Env} {fl : Fl} {ρ' : Env} (h : gSet i g ρ = some (fl, ρ')) : ∃ d w ρ1, g ρ = some (d, w, ρ1) ∧ bind1 i d w ρ1 = some ρ' ∧ fl = .nx := by
  unfold gSet at h
  split at h
  · rename_i d w ρ1 q
    split at h
    · rename_i ρ2 q2
      cases h
      exact ⟨d, w, ρ1, q, q2, rfl⟩
    · cases h
  · cases h
theorem cs_set {i : Nat} {x : Str} {e : Expr} {g : FW} {p : Pos} (hN : X.N.Nodup) (hi : X.N[i]? = some x) (hx : Loc X.env.scope x) (he : PE X e (tW (kc X) g)) (hs : swapsWith e (some (.Name x p)) pos.line X.env = pure false := by rfl)
    (hf : X.fn x = true ∨ X.env.scope.names.lookup x = some .local := by first | exact .inl rfl | exact .inr rfl | assumption) : PS X (.Assign [.Name x p] e pos) (tS (kc X) (gSet i g)) :=
  PS.to (ps_set hN hi hx he hs hf) fun D σ H ⟨F, B, as, ρ, fl, ρ', S, e, k⟩ => by
    obtain ⟨d, w, ρ1, e1, e2, rfl⟩ := gSet_some e
    refine ⟨F, B, as, ρ, d, w, ρ1, S, e1, fun v H1 F1 as1 bs E1 S1 => ?_⟩
    obtain ⟨as2, S2, m⟩ := S1.bind e2
    exact k _ H1 F1 as2 (E1.sub m) S2
/-- x op= e -/
def gAug (i : Nat) (f : D → D → Option D) (g : FD) : FS := fun ρ => match ρ[i]? with
  | some (.sh d0) => match g ρ with
    | some (d1, ρ1) => match f d0 d1 with
      | some d => match bind1 i d false ρ1 with
        | some ρ2 => some (.nx, ρ2)
        | none => none
      | none => none
    | none => none
  | _ => none
theorem cs_aug {i : Nat} {x : Str} {e : Expr} {op : Operator} {r : R2} {f : D → D → Option D} {g : FD} {p : Pos} (hN : X.N.Nodup) (hi : X.N[i]? = some x) (hx : Loc X.env.scope x) (ho : OpR X (inplaceOp op) r) (hp : PureR (kc X) r f) (he : PE X e (tD (kc X) g))
    (hf : X.fn x = true ∨ X.env.scope.names.lookup x = some .local := by first | exact .inl rfl | exact .inr rfl | assumption) : PS X (.AugAssign (.Name x p) op e pos) (tS (kc X) (gAug i f g)) :=
  PS.to (ps_aug (ti := r) hN hi hx he (fun pins s σ H x y v u Q I rx ry q => ho pins s σ H x y v u Q I rx ry q) hf) fun D σ H ⟨F, B, as, ρ, fl, ρ', S, e, k⟩ => by
    unfold gAug at e
    split at e
    · rename_i d0 q0
      split at e
      · rename_i d1 ρ1 q1
        split at e
        · rename_i d q2
          split at e
          · rename_i ρ2 q3
            cases e
            obtain ⟨o, p, a, qq, _, eo, hs, _⟩ := S.env.split q0
            unfold SlR at hs
            obtain ⟨_, v0, rfl, r0⟩ := hs
            refine ⟨v0, eo, F, B, as, ρ, d1, ρ1, S, q1, fun v1 H1 F1 as1 E1 S1 r1 => ?_⟩
            refine hp F1 H1 d0 d1 d v0 v1 _ S1.fk q2 (Rep.stb E1.stb _ _ r0).vw r1.vw fun v F2 H2 E2 r2 => ?_
            have S2 := S1.step E2
            obtain ⟨as3, S3, m⟩ := Sit2.bind (bs := []) (w := false) (v := v) ⟨S2.env, S2.nd, S2.nf, S2.fk, by simp [r2]⟩ q3
            exact k _ H2 F2 as3 ((E1.trans E2.pure).sub m) S3
          · cases e
        · cases e
      · cases e
    · cases e
end

/-! ### calls of defs -/
def ArgR (K : Kc) (F : Addr → Prop) (H : Hp) : List Bool → List D → List V → List Addr → Prop
  | [], [], vs, as => vs = [] ∧ as = []
  | true :: bo, d :: ds, vs, as => ∃ v r a1 a2, vs = v :: r ∧ as = a1 ++ a2 ∧ Own K F H d v a1 ∧ ArgR K F H bo ds r a2
  | false :: bo, d :: ds, vs, as => ∃ v r, vs = v :: r ∧ Rep K F H d v ∧ ArgR K F H bo ds r as
  | _, _, _, _ => False
def BorR (K : Kc) (F : Addr → Prop) (H : Hp) : List Bool → List D → List V → List Addr → Prop
  | [], ds, vs, as => ds = [] ∧ vs = [] ∧ as = []
  | true :: bo, ds, vs, as => ∃ d e v r a1 a2, ds = d :: e ∧ vs = v :: r ∧ as = a1 ++ a2 ∧ Own K F H d v a1 ∧ BorR K F H bo e r a2
  | false :: bo, ds, vs, as => ∃ v r, vs = v :: r ∧ BorR K F H bo ds r as
abbrev FnD := List D → Option (D × Bool × List D)
def spD (K : Kc) (bo : List Bool) (g : FnD) : Sp := fun vs H Q _ => ∃ F as ds d w ds', ArgR K F H bo ds vs as ∧ as.Nodup ∧ (∀ a, a ∈ as → ¬ F a) ∧ (∀ b, F b → H b ≠ none) ∧ g ds = some (d, w, ds') ∧
  ∀ v H' F' as' bs, Ext F as H F' (bs ++ as') H' → BorR K F' H' bo ds' vs as' → (bs ++ as').Nodup → (∀ a, a ∈ bs ++ as' → ¬ F' a) → (∀ b, F' b → H' b ≠ none) →
    (if w = true then Own K F' H' d v bs else bs = [] ∧ Rep K F' H' d v) → Q v H'
theorem ArgR.length {K : Kc} {F : Addr → Prop} {H : Hp} : ∀ {bo : List Bool} {ds : List D} {vs : List V} {as : List Addr}, ArgR K F H bo ds vs as → vs.length = bo.length
  | [], [], _, _, h => by unfold ArgR at h; rw [h.1] <;> rfl
  | true :: bo, d :: ds, _, _, h => by unfold ArgR at h; obtain ⟨v, r, a1, a2, rfl, _, _, h⟩ := h; simp [ArgR.length h]
  | false :: bo, d :: ds, _, _, h => by unfold ArgR at h; obtain ⟨v, r, rfl, _, h⟩ := h; simp [ArgR.length h]
  | [], _ :: _, _, _, h => by unfold ArgR at h; exact h.elim
  | true :: _, [], _, _, h => by unfold ArgR at h; exact h.elim
  | false :: _, [], _, _, h => by unfold ArgR at h; exact h.elim

inductive Ar where
  | bo (i : Nat) | va (d : D)
abbrev FAr := Env → Option (List Ar × Env)
def ArsR (K : Kc) (F : Addr → Prop) (H : Hp) (σ : L2.St) : List Ar → List V → Prop
  | [], vs => vs = []
  | .va d :: r, vs => ∃ v u, vs = v :: u ∧ Rep K F H d v ∧ ArsR K F H σ r u
  | .bo i :: r, vs => ∃ v u, vs = v :: u ∧ σ[i]? = some (some v) ∧ ArsR K F H σ r u
theorem ArsR.stb {K : Kc} {F F2 : Addr → Prop} {H H2 : Hp} {σ : L2.St} (s : Stb F H F2 H2) : ∀ {as : List Ar} {vs : List V}, ArsR K F H σ as vs → ArsR K F2 H2 σ as vs
  | [], _, h => by unfold ArsR at h ⊢; exact h
  | .va d :: r, _, h => by unfold ArsR at h ⊢; obtain ⟨v, u, e, h1, h2⟩ := h; exact ⟨v, u, e, Rep.stb s _ _ h1, h2.stb s⟩
  | .bo i :: r, _, h => by unfold ArsR at h ⊢; obtain ⟨v, u, e, h1, h2⟩ := h; exact ⟨v, u, e, h1, h2.stb s⟩
def tAr (K : Kc) (g : FAr) : TA := fun σ H Q => ∃ F B as ρ ars ρ', Sit K F B H ρ σ as ∧ g ρ = some (ars, ρ') ∧
  ∀ vs H' F' as', Ext F as H F' as' H' → Sit K F' B H' ρ' σ as' → ArsR K F' H' σ ars vs → Q vs H'
section
variable {X : Cx}
theorem ca_nil : PA X [] (tAr (kc X) fun ρ => some ([], ρ)) := PA.to pa_nil fun σ H Q ⟨F, B, as, ρ, d, ρ', S, e, h⟩ => by
  cases e; exact h _ H F as .refl S (by unfold ArsR; rfl)
def gVa (ga : FD) (gr : FAr) : FAr := fun ρ => match ga ρ with
  | some (d, ρ1) => match gr ρ1 with
    | some (ars, ρ2) => some (.va d :: ars, ρ2)
    | none => none
  | none => none
theorem ca_val {e : Expr} {es : List Expr} {ga : FD} {gr : FAr} (ha : PE X e (tD (kc X) ga)) (hr : PA X es (tAr (kc X) gr)) (hs : starEach (e :: es) X.env = (false, eval e X.env) :: starEach es X.env := by rfl) : PA X (e :: es) (tAr (kc X) (gVa ga gr)) :=
  PA.to (pa_cons ha hr hs) fun σ H Q ⟨F, B, as, ρ, ars, ρ', S, e, k⟩ => by
    unfold gVa at e
    split at e
    · rename_i d ρ1 q
      split at e
      · rename_i ars2 ρ2 q2
        cases e
        exact ⟨F, B, as, ρ, d, ρ1, S, q, fun v H1 F1 as1 E1 S1 r1 => ⟨F1, B, as1, ρ1, ars2, _, S1, q2, fun vs H2 F2 as2 E2 S2 r2 => k _ H2 F2 as2 (E1.trans E2) S2 (by unfold ArsR; exact ⟨v, vs, rfl, Rep.stb E2.stb _ _ r1, r2⟩)⟩⟩
      · cases e
    · cases e
def gBo (i : Nat) (gr : FAr) : FAr := fun ρ => match look ρ i with
  | some _ => match gr ρ with
    | some (ars, ρ2) => some (.bo i :: ars, ρ2)
    | none => none
  | none => none
theorem ca_bor {i : Nat} {x : Str} {p : Pos} {es : List Expr} {gr : FAr} (hN : X.N[i]? = some x) (hv : Vis X.env.scope x) (hr : PA X es (tAr (kc X) gr)) (hd : (x == ("__debug__" : Str)) = false := by decide)
    (hcd : (x == ("__classdict__" : Str)) = false := by decide) (hs : starEach (.Name x p :: es) X.env = (false, eval (.Name x p) X.env) :: starEach es X.env := by rfl) : PA X (.Name x p :: es) (tAr (kc X) (gBo i gr)) :=
  PA.to (pa_cons (pe_var hN hv hd hcd) hr hs) fun σ H Q ⟨F, B, as, ρ, ars, ρ', S, e, k⟩ => by
    unfold gBo at e
    split at e
    · rename_i d q
      split at e
      · rename_i ars2 ρ2 q2
        cases e
        obtain ⟨v, ev⟩ := S.there q
        exact ⟨v, ev, F, B, as, ρ, ars2, _, S, q2, fun vs H2 F2 as2 E2 S2 r2 => k _ H2 F2 as2 E2 S2 (by unfold ArsR; exact ⟨v, vs, rfl, ev, r2⟩)⟩
      · cases e
    · cases e
end
/-- the borrowed names are lent -/
def lend : List Ar → Env → Option (List Bool × List D × Env)
  | [], ρ => some ([], [], ρ)
  | .va d :: r, ρ => match lend r ρ with
    | some (b, ds, ρ') => some (false :: b, d :: ds, ρ')
    | none => none
  | .bo i :: r, ρ => match ρ[i]? with
    | some (.ow d) => match lend r (ρ.set i .no) with
      | some (b, ds, ρ') => some (true :: b, d :: ds, ρ')
      | none => none
    | some (.bo _ d) => match lend r (ρ.set i .no) with
      | some (b, ds, ρ') => some (true :: b, d :: ds, ρ')
      | none => none
    | _ => none
def reSl : Sl → D → Sl
  | .bo k _, d => .bo k d
  | _, d => .ow d
/-- and given back; ρ0: as they stood ahead of it -/
def give (ρ0 : Env) : List Ar → List D → Env → Option Env
  | [], _, ρ => some ρ
  | .va _ :: r, ds, ρ => give ρ0 r ds ρ
  | .bo i :: r, d :: ds, ρ => match ρ0[i]? with
    | some x => give ρ0 r ds (ρ.set i (reSl x d))
    | none => none
  | .bo _ :: _, [], _ => none
theorem getset {α : Type} {l : List α} {i j : Nat} {x y : α} (h : (l.set i x)[j]? = some y) : (j = i ∧ y = x) ∨ (j ≠ i ∧ l[j]? = some y) := by
  by_cases e : i = j
  · subst e
    by_cases hl : i < l.length
    · rw [List.getElem?_set_self hl] at h; cases h; exact .inl ⟨rfl, rfl⟩
    · rw [List.getElem?_eq_none (by simpa using hl)] at h; cases h
  · rw [List.getElem?_set_ne e] at h; exact .inr ⟨fun z => e z.symm, h⟩
/-- what is known of a lent name: how it goes back -/
def BackOk (B : List Addr) (σ : L2.St) (ρ0 : Env) : List Ar → Prop
  | [] => True
  | .va _ :: r => BackOk B σ ρ0 r
  | .bo i :: r => (∃ x, ρ0[i]? = some x ∧ (∀ k d, x = .bo k d → ∃ a, σ[i]? = some (some (.ref a)) ∧ B[k]? = some a)) ∧ BackOk B σ ρ0 r
theorem lend_ok {K : Kc} {F : Addr → Prop} {B : List Addr} {H : Hp} {σ : L2.St} {ρ0 : Env} : ∀ {ars : List Ar} {vs : List V} {ρ : Env} {as : List Addr} {bo : List Bool} {ds : List D} {ρ' : Env}, EnvR K F B H ρ σ as → as.Nodup → ArsR K F H σ ars vs → lend ars ρ = some (bo, ds, ρ') →
    (∀ (i : Nat) x, ρ[i]? = some x → x ≠ .no → ρ0[i]? = some x) →
    ∃ ab ar, ArgR K F H bo ds vs ab ∧ EnvR K F B H ρ' σ ar ∧ (ab ++ ar).Nodup ∧ (∀ b, b ∈ ab ++ ar → b ∈ as) ∧ BackOk B σ ρ0 ars
  | [], vs, ρ, as, bo, ds, ρ', he, hn, ha, hl, _ => by
    unfold lend at hl
    cases hl
    unfold ArsR at ha
    subst ha
    exact ⟨[], as, by unfold ArgR; exact ⟨rfl, rfl⟩, he, hn, fun b m => m, True.intro⟩
  | .va d :: r, vs, ρ, as, bo, ds, ρ', he, hn, ha, hl, h0 => by
    unfold ArsR at ha
    obtain ⟨v, u, rfl, h1, h2⟩ := ha
    unfold lend at hl
    split at hl
    · rename_i b ds' ρ2 q
      cases hl
      obtain ⟨ab, ar, k1, k2, k3, k4, k5⟩ := lend_ok he hn h2 q h0
      exact ⟨ab, ar, by unfold ArgR; exact ⟨v, u, rfl, h1, k1⟩, k2, k3, k4, k5⟩
    · cases hl
  | .bo i :: r, vs, ρ, as, bo, ds, ρ', he, hn, ha, hl, h0 => by
    unfold ArsR at ha
    obtain ⟨v, u, rfl, h1, h2⟩ := ha
    unfold lend at hl
    have main : ∀ x d b ds' ρ2, ρ[i]? = some x → x ≠ .no → (∀ a, SlR K F B H x (some v) a → Own K F H d v a) → (∀ k d, x = .bo k d → ∀ a, SlR K F B H x (some v) a → ∃ a, v = .ref a ∧ B[k]? = some a) → lend r (ρ.set i .no) = some (b, ds', ρ2) →
        ∃ ab ar, ArgR K F H (true :: b) (d :: ds') (v :: u) ab ∧ EnvR K F B H ρ2 σ ar ∧ (ab ++ ar).Nodup ∧ (∀ b, b ∈ ab ++ ar → b ∈ as) ∧ BackOk B σ ρ0 (.bo i :: r) := fun x d b ds' ρ2 hx hno hw hb q => by
      obtain ⟨o, p, a, qq, ea, eo, hs, hr⟩ := he.split hx
      rw [h1] at eo
      cases eo
      subst ea
      have z := hr .no (some v) [] .refl (Kept.of fun _ _ h => h) (by unfold SlR; rfl)
      rw [set_same h1] at z
      obtain ⟨n1, n2⟩ := nodup_mid hn
      obtain ⟨ab, ar, k1, k2, k3, k4, k5⟩ := lend_ok (as := p ++ qq) (by simpa using z) n1 h2 q fun j y hy hny => by
        rcases getset hy with ⟨_, e⟩ | ⟨_, e⟩
        · exact absurd e hny
        · exact h0 j y e hny
      have na : a.Nodup := (List.nodup_append.mp (List.nodup_append.mp hn).2.1).1
      refine ⟨a ++ ab, ar, by unfold ArgR; exact ⟨v, u, a, ab, rfl, rfl, hw a hs, k1⟩, k2, ?_, fun b m => ?_, ⟨⟨x, h0 i x hx hno, fun k d e => ?_⟩, k5⟩⟩
      · rw [List.append_assoc]
        exact List.nodup_append.mpr ⟨na, k3, fun y hy w hw e => n2 w (k4 w hw) (e ▸ hy)⟩
      · rw [List.append_assoc] at m
        rcases List.mem_append.mp m with m | m
        · simp [m]
        · have := k4 b m
          simp only [List.mem_append] at this ⊢
          grind
      · obtain ⟨a', e1, e2⟩ := hb k d e a hs
        exact ⟨a', by rw [h1, e1], e2⟩
    split at hl
    · rename_i d hx
      split at hl
      · rename_i b ds' ρ2 q
        cases hl
        refine main _ d b ds' ρ' hx (fun z => by cases z) (fun a hs => ?_) (fun k d e => by cases e) q
        unfold SlR at hs
        obtain ⟨v', e, r⟩ := hs
        cases e; exact r
      · cases hl
    · rename_i k d hx
      split at hl
      · rename_i b ds' ρ2 q
        cases hl
        refine main _ d b ds' ρ' hx (fun z => by cases z) (fun a hs => ?_) (fun k2 d2 e a hs => ?_) q
        · unfold SlR at hs
          obtain ⟨a', e, _, r⟩ := hs
          cases e; exact r
        · cases e
          unfold SlR at hs
          obtain ⟨a', e, e2, r⟩ := hs
          cases e; exact ⟨a', rfl, e2⟩
      · cases hl
    · cases hl
/-- a name cannot be lent twice -/
theorem lend_twice {i : Nat} : ∀ {ars : List Ar} {ρl ρr : Env} {b : List Bool} {ds' : List D}, lend ars ρl = some (b, ds', ρr) → (Ar.bo i) ∈ ars → (ρl[i]? = some .no ∨ ρl[i]? = none) → False
  | [], _, _, _, _, _, m, _ => by cases m
  | .va d :: ys, ρl, ρr, b, ds', hl, m, hn => by
    unfold lend at hl
    split at hl
    · rename_i q
      exact lend_twice q (by simpa using m) hn
    · cases hl
  | .bo j :: ys, ρl, ρr, b, ds', hl, m, hn => by
    by_cases hj : j = i
    · subst hj
      unfold lend at hl
      rcases hn with hn | hn <;> rw [hn] at hl <;> simp at hl
    · have m' : (Ar.bo i) ∈ ys := by
        rcases List.mem_cons.mp m with e | e
        · cases e; exact absurd rfl hj
        · exact e
      have hn' : (ρl.set j .no)[i]? = some .no ∨ (ρl.set j .no)[i]? = none := by
        rw [List.getElem?_set_ne hj]; exact hn
      unfold lend at hl
      split at hl
      · split at hl
        · rename_i q; exact lend_twice q m' hn'
        · cases hl
      · split at hl
        · rename_i q; exact lend_twice q m' hn'
        · cases hl
      · cases hl
theorem give_ok {K : Kc} {F F0 : Addr → Prop} {B : List Addr} {H H0 : Hp} {σ : L2.St} {ρ0 : Env} : ∀ {ars : List Ar} {vs : List V} {ρ : Env} {ar ab : List Addr} {bo : List Bool} {ds0 ds : List D} {ρl ρr ρ' : Env}, ArsR K F0 H0 σ ars vs → lend ars ρl = some (bo, ds0, ρr) → BackOk B σ ρ0 ars →
    BorR K F H bo ds vs ab → EnvR K F B H ρ σ ar → give ρ0 ars ds ρ = some ρ' → (∀ (i : Nat), (Ar.bo i) ∈ ars → ρ[i]? = some .no) → ∃ as, EnvR K F B H ρ' σ as ∧ as.Perm (ab ++ ar)
  | [], vs, ρ, ar, ab, bo, ds0, ds, ρl, ρr, ρ', ha, hl, hb, hB, he, hg, hn => by
    unfold lend at hl
    cases hl
    unfold BorR at hB
    obtain ⟨rfl, _, rfl⟩ := hB
    unfold give at hg
    cases hg
    exact ⟨ar, he, .refl _⟩
  | .va d :: r, vs, ρ, ar, ab, bo, ds0, ds, ρl, ρr, ρ', ha, hl, hb, hB, he, hg, hn => by
    unfold lend at hl
    split at hl
    · rename_i b ds' ρ2 q
      cases hl
      unfold ArsR at ha
      obtain ⟨v, u, rfl, h1, h2⟩ := ha
      unfold BorR at hB
      obtain ⟨v', r', e, hB⟩ := hB
      cases e
      exact give_ok h2 q hb hB he hg fun i m => hn i (List.mem_cons_of_mem _ m)
    · cases hl
  | .bo i :: r, vs, ρ, ar, ab, bo, ds0, ds, ρl, ρr, ρ', ha, hl, hb, hB, he, hg, hn => by
    unfold ArsR at ha
    obtain ⟨v, u, rfl, h1, h2⟩ := ha
    have main : ∀ b ds', lend r (ρl.set i .no) = some (b, ds', ρr) → BorR K F H (true :: b) ds (v :: u) ab → ∃ as, EnvR K F B H ρ' σ as ∧ as.Perm (ab ++ ar) := fun b ds' q hB => by
      unfold BorR at hB
      obtain ⟨d, e, v', r', a1, a2, rfl, e2, rfl, ho, hB⟩ := hB
      cases e2
      obtain ⟨⟨x, hx, hx2⟩, hb⟩ := hb
      unfold give at hg
      rw [hx] at hg
      simp only at hg
      have hni := hn i List.mem_cons_self
      obtain ⟨o, p, a, qq, ea, eo, hs, hr⟩ := he.split hni
      rw [h1] at eo
      cases eo
      unfold SlR at hs
      subst hs ea
      have sl : SlR K F B H (reSl x d) (some v) a1 := by
        cases x with
        | bo k d0 =>
          obtain ⟨a, ea, eb⟩ := hx2 k d0 rfl
          rw [h1] at ea
          cases ea
          unfold reSl SlR
          exact ⟨a, rfl, eb, ho⟩
        | _ => unfold reSl SlR; exact ⟨v, rfl, ho⟩
      have z := hr _ _ _ .refl (Kept.of fun _ _ h => h) sl
      rw [set_same h1] at z
      by_cases hm : (Ar.bo i) ∈ r
      · -- a name cannot be lent twice
        exfalso
        refine lend_twice q hm ?_
        by_cases hl2 : i < ρl.length
        · exact .inl (List.getElem?_set_self hl2)
        · exact .inr (List.getElem?_eq_none (by simpa using hl2))
      · obtain ⟨as, k1, k2⟩ := give_ok h2 q hb hB z hg fun j m => by
          have hj : i ≠ j := fun e => hm (e ▸ m)
          rw [List.getElem?_set_ne hj]
          exact hn j (List.mem_cons_of_mem _ m)
        refine ⟨as, k1, k2.trans ?_⟩
        simp only [List.nil_append]
        refine (List.Perm.append_left a2 ?_).trans ?_ (l₂ := a2 ++ (a1 ++ (p ++ qq)))
        · rw [← List.append_assoc, ← List.append_assoc]
          exact List.Perm.append_right qq List.perm_append_comm
        · rw [← List.append_assoc]
          exact List.Perm.append_right _ List.perm_append_comm
    unfold lend at hl
    split at hl
    · split at hl
      · rename_i q
        cases hl
        exact main _ _ q hB
      · cases hl
    · split at hl
      · rename_i q
        cases hl
        exact main _ _ q hB
      · cases hl
    · cases hl
theorem lend_no : ∀ {ars : List Ar} {ρ ρ' : Env} {bo : List Bool} {ds : List D}, lend ars ρ = some (bo, ds, ρ') → (∀ (i : Nat), (Ar.bo i) ∈ ars → ρ'[i]? = some .no) ∧ ∀ (j : Nat), ρ[j]? = some .no → ρ'[j]? = some .no
  | [], ρ, ρ', bo, ds, h => by unfold lend at h; cases h; exact ⟨fun i m => (List.not_mem_nil m).elim, fun j h => h⟩
  | .va d :: r, ρ, ρ', bo, ds, h => by
    unfold lend at h
    split at h
    · rename_i q
      cases h
      obtain ⟨h1, h2⟩ := lend_no q
      exact ⟨fun i m => h1 i (by simpa using m), h2⟩
    · cases h
  | .bo i :: r, ρ, ρ', bo, ds, h => by
    have main : ∀ b ds', (∃ x, ρ[i]? = some x) → lend r (ρ.set i .no) = some (b, ds', ρ') → (∀ (j : Nat), (Ar.bo j) ∈ (Ar.bo i :: r) → ρ'[j]? = some .no) ∧ ∀ (j : Nat), ρ[j]? = some .no → ρ'[j]? = some .no := fun b ds' hx q => by
      obtain ⟨h1, h2⟩ := lend_no q
      have hi : (ρ.set i .no)[i]? = some .no := by
        obtain ⟨x, hx⟩ := hx
        have := (List.getElem?_eq_some_iff.mp hx).1
        exact List.getElem?_set_self this
      refine ⟨fun j m => ?_, fun j hj => h2 j ?_⟩
      · rcases List.mem_cons.mp m with e | e
        · cases e; exact h2 i hi
        · exact h1 j e
      · by_cases e : i = j
        · subst e; exact hi
        · rw [List.getElem?_set_ne e]; exact hj
    unfold lend at h
    split at h
    · rename_i hx
      split at h
      · rename_i q; cases h; exact main _ _ ⟨_, hx⟩ q
      · cases h
    · rename_i hx
      split at h
      · rename_i q; cases h; exact main _ _ ⟨_, hx⟩ q
      · cases h
    · cases h
/-- dd: what fills up the parameters that are not given -/
def gCallD (bo : List Bool) (G : FnD) (dd : List D) (ga : FAr) : FW := fun ρ => match ga ρ with
  | some (ars, ρ1) => match lend ars ρ1 with
    | some (b, ds, ρ2) => if b ++ dd.map (fun _ => false) = bo then match G (ds ++ dd) with
        | some (d, w, ds') => match give ρ1 ars ds' ρ2 with
          | some ρ3 => some (d, w, ρ3)
          | none => none
        | none => none
      else none
    | none => none
  | none => none
abbrev gCall (bo : List Bool) (G : FnD) (ga : FAr) : FW := gCallD bo G [] ga
theorem gCallD_some {bo : List Bool} {G : FnD} {dd : List D} {ga : FAr} {ρ : Env} {d : D} {w : Bool} {ρ' : Env} (h : gCallD bo G dd ga ρ = some (d, w, ρ')) : ∃ ars ρ1 b ds ρ2 ds', ga ρ = some (ars, ρ1) ∧ lend ars ρ1 = some (b, ds, ρ2) ∧ b ++ dd.map (fun _ => false) = bo ∧ G (ds ++ dd) = some (d, w, ds') ∧ give ρ1 ars ds' ρ2 = some ρ' := by
  unfold gCallD at h
  split at h
  · rename_i ars ρ1 q1
    split at h
    · rename_i b ds ρ2 q2
      split at h
      · rename_i hb
        split at h
        · rename_i d' w' ds' q3
          split at h
          · rename_i ρ3 q4
            cases h
            exact ⟨ars, ρ1, b, ds, ρ2, ds', q1, q2, hb, q3, q4⟩
          · cases h
        · cases h
      · cases h
    · cases h
  · cases h
theorem ArgR.dflt {K : Kc} {F : Addr → Prop} {H : Hp} {dd : List D} {dvs : List V} (r : RepL K F H dd dvs) : ∀ {bo : List Bool} {ds : List D} {vs : List V} {as : List Addr}, ArgR K F H bo ds vs as → ArgR K F H (bo ++ dd.map fun _ => false) (ds ++ dd) (vs ++ dvs) as
  | [], [], vs, as, h => by
    unfold ArgR at h
    obtain ⟨rfl, rfl⟩ := h
    simp only [List.nil_append]
    induction dd generalizing dvs with
    | nil => unfold RepL at r; subst r; unfold ArgR; exact ⟨rfl, rfl⟩
    | cons d dd ih =>
      unfold RepL at r
      obtain ⟨v, r', rfl, h1, h2⟩ := r
      show ArgR K F H (false :: dd.map fun _ => false) (d :: dd) (v :: r') []
      unfold ArgR
      exact ⟨v, r', rfl, h1, ih h2⟩
  | true :: bo, d :: ds, vs, as, h => by
    unfold ArgR at h
    obtain ⟨v, u, a1, a2, rfl, rfl, ho, h⟩ := h
    show ArgR K F H (true :: (bo ++ _)) (d :: (ds ++ dd)) (v :: (u ++ dvs)) (a1 ++ a2)
    unfold ArgR
    exact ⟨v, _, a1, a2, rfl, rfl, ho, ArgR.dflt r h⟩
  | false :: bo, d :: ds, vs, as, h => by
    unfold ArgR at h
    obtain ⟨v, u, rfl, ho, h⟩ := h
    show ArgR K F H (false :: (bo ++ _)) (d :: (ds ++ dd)) (v :: (u ++ dvs)) as
    unfold ArgR
    exact ⟨v, _, rfl, ho, ArgR.dflt r h⟩
  | [], _ :: _, _, _, h => by unfold ArgR at h; exact h.elim
  | true :: _, [], _, _, h => by unfold ArgR at h; exact h.elim
  | false :: _, [], _, _, h => by unfold ArgR at h; exact h.elim
theorem BorR.dflt {K : Kc} {F : Addr → Prop} {H : Hp} {n : List D} {dvs : List V} : ∀ {bo : List Bool} {ds : List D} {vs : List V} {as : List Addr}, vs.length = bo.length → BorR K F H (bo ++ n.map fun _ => false) ds (vs ++ dvs) as → BorR K F H bo ds vs as
  | [], ds, vs, as, hl, h => by
    have : vs = [] := List.eq_nil_of_length_eq_zero hl
    subst this
    simp only [List.nil_append] at h
    have : ∀ (n : List D) (dvs : List V), BorR K F H (n.map fun _ => false) ds dvs as → ds = [] ∧ as = [] := by
      intro n
      induction n with
      | nil => intro dvs h; simp only [List.map_nil] at h; unfold BorR at h; exact ⟨h.1, h.2.2⟩
      | cons d n ih =>
        intro dvs h
        simp only [List.map_cons] at h
        unfold BorR at h
        obtain ⟨v, r, _, h⟩ := h
        exact ih r h
    obtain ⟨e1, e2⟩ := this n dvs h
    unfold BorR
    exact ⟨e1, rfl, e2⟩
  | true :: bo, ds, [], as, hl, h => by simp at hl
  | true :: bo, ds, v :: vs, as, hl, h => by
    have h : BorR K F H (true :: (bo ++ n.map fun _ => false)) ds (v :: (vs ++ dvs)) as := h
    unfold BorR at h
    obtain ⟨d, e, v', r, a1, a2, rfl, e2, rfl, ho, h⟩ := h
    cases e2
    unfold BorR
    exact ⟨d, e, _, vs, a1, a2, rfl, rfl, rfl, ho, BorR.dflt (by simpa using hl) h⟩
  | false :: bo, ds, [], as, hl, h => by simp at hl
  | false :: bo, ds, v :: vs, as, hl, h => by
    have h : BorR K F H (false :: (bo ++ n.map fun _ => false)) ds (v :: (vs ++ dvs)) as := h
    unfold BorR at h
    obtain ⟨v', r, e2, h⟩ := h
    cases e2
    unfold BorR
    exact ⟨_, vs, rfl, BorR.dflt (by simpa using hl) h⟩
theorem callD_fit {K : Kc} {bo : List Bool} {G : FnD} {dd : List D} {dvs : List V} (hdd : ∀ F H, RepL K F H dd dvs) {ga : FAr} {σ : L2.St} {H : Hp} {Q : VK} {E : XK} (h : tW K (gCallD bo G dd ga) σ H Q) : tCall (spD K bo G) dvs E (tAr K ga) σ H Q := by
  obtain ⟨F, B, as, ρ, d, w, ρ', S, e, k⟩ := h
  obtain ⟨ars, ρ1, b, ds, ρ2, ds', e1, e2, rfl, e3, e4⟩ := gCallD_some e
  refine ⟨F, B, as, ρ, ars, ρ1, S, e1, fun vs H1 F1 as1 E1 S1 ra => ?_⟩
  show spD K _ G (vs ++ dvs) H1 Q E
  obtain ⟨ab, ar, k1, k2, k3, k4, k5⟩ := lend_ok (ρ0 := ρ1) S1.env S1.nd ra e2 fun i x h _ => h
  have nn := List.nodup_append.mp k3
  refine ⟨F1, ab, ds ++ dd, d, w, ds', k1.dflt (hdd F1 H1), nn.1, fun a m => S1.nf a (k4 a (List.mem_append_left _ m)), S1.fk, e3, fun v H2 F2 ab2 bs E2 hB n2 f2 fk2 r => ?_⟩
  have hB := BorR.dflt k1.length hB
  have kept : Kept ar H1 H2 := E2.kept fun b m z => nn.2.2 b z b m rfl
  have env2 := k2.stb E2.stb.weak kept
  obtain ⟨as3, q1, q2⟩ := give_ok ra e2 k5 hB env2 e4 (lend_no e2).1
  have arno : ∀ b, b ∈ ar → b ∉ bs ++ ab2 := fun b m z => by
    rcases E2.anew b z with z | z
    · exact nn.2.2 b z b m rfl
    · obtain ⟨u, q⟩ := k2.there b m
      rw [q] at z; cases z
  have nd3 : (bs ++ as3).Nodup := by
    have p : (bs ++ as3).Perm ((bs ++ ab2) ++ ar) := by
      rw [List.append_assoc]
      exact List.Perm.append_left bs q2
    exact p.nodup_iff.mpr (List.nodup_append.mpr ⟨n2, nn.2.1, fun x hx y hy e => arno y hy (e ▸ hx)⟩)
  have mem3 : ∀ b, b ∈ bs ++ as3 → b ∈ (bs ++ ab2) ++ ar := fun b m => by
    rw [List.append_assoc]
    rcases List.mem_append.mp m with m | m
    · exact List.mem_append_left _ m
    · exact List.mem_append_right _ (q2.mem_iff.mp m)
  have nf3 : ∀ b, b ∈ bs ++ as3 → ¬ F2 b := fun b m f => by
    rcases List.mem_append.mp (mem3 b m) with m | m
    · exact f2 b m f
    · rcases E2.fnew b f with z | z | z
      · exact S1.nf b (k4 b (List.mem_append_right _ m)) z
      · exact nn.2.2 b z b m rfl
      · obtain ⟨u, q⟩ := k2.there b m
        rw [q] at z; cases z
  have EE : Ext F1 as1 H1 F2 (bs ++ as3) H2 := by
    refine ⟨E2.stb, fun b u h n => E2.keep b u h fun z => n (k4 b (List.mem_append_left _ z)), E2.dom, fun b f => ?_, fun b m => ?_, E2.fk⟩
    · rcases E2.fnew b f with z | z | z
      · exact .inl z
      · exact .inr (.inl (k4 b (List.mem_append_left _ z)))
      · exact .inr (.inr z)
    · rcases List.mem_append.mp (mem3 b m) with m | m
      · rcases E2.anew b m with z | z
        · exact .inl (k4 b (List.mem_append_left _ z))
        · exact .inr z
      · exact .inl (k4 b (List.mem_append_right _ m))
  exact k v H2 F2 as3 bs (E1.trans EE) ⟨q1, nd3, nf3, fk2, r⟩
/-- a def that is there, with what it computes -/
structure FnAt (X : Cx) (n : Nat) (x : Str) (bo : List Bool) (G : FnD) (dd : List D := []) : Prop where
  at_ : ∃ f fd ps ds dvs, X.mg x = some (.ref f) ∧ PySem.W.keepIn X.K (.ref f) = true ∧ Binds X.K fd ps ds ∧ Vals dvs ds ∧ (∀ F H, RepL (kc X) F H dd dvs) ∧ FnOk X.prog X.w X.K X.mg X.base CX0 n f fd ps (spD (kc X) bo G)
theorem cw_call {X : Cx} {n : Nat} {x : Str} {bo : List Bool} {G : FnD} {dd : List D} {p pos : Pos} {e : Expr} {es : List Expr} {ga : FAr} (Fn : FnAt X n x bo G dd) (hr : Room n X.A) (hg : Gl X x) (ha : PA X (e :: es) (tAr (kc X) ga))
    (hdb : (x == ("__debug__" : Str)) = false := by decide) (he : starEach (e :: es) X.env = (false, eval e X.env) :: starEach es X.env := by rfl) (hpl : (backTo pos (starEach es X.env)).any (·.1) = false := by rfl) :
    PE X (.Call (.Name x p) (e :: es) [] pos) (tW (kc X) (gCallD bo G dd ga)) := by
  obtain ⟨f, fd, ps, ds, dvs, hm, hk, hb, hv, hd, ok⟩ := Fn.at_
  exact PE.to (pe_call ok hr hg hm hk hb hv pass0 ha hdb he hpl) fun σ H Q h => callD_fit hd h
end DV

/-! DV6: targets, what is walked, for, comprehensions. -/
namespace DV
open L2 PySem PySem.Spec PyProof.Rows

/-! ### targets -/
abbrev FG := D → Env → Option Env
def tG (K : Kc) (ts : List Nat) (h : FG) : TG := fun v σ H Q => ∃ F B as ρ d ρ', Sit K F B H ρ σ as ∧ Rep K F H d v ∧ h d ρ = some ρ' ∧
  ∀ σ' H' F' as', σ'.length = σ.length → (∀ j, j ∉ ts → σ'[j]? = σ[j]?) → Ext F as H F' as' H' → Sit K F' B H' ρ' σ' as' → Q σ' H'
abbrev FGs := List D → Env → Option Env
def tGs (K : Kc) (ts : List Nat) (h : FGs) : TGs := fun vs σ H Q => ∃ F B as ρ ds ρ', Sit K F B H ρ σ as ∧ RepL K F H ds vs ∧ h ds ρ = some ρ' ∧
  ∀ σ' H' F' as', σ'.length = σ.length → (∀ j, j ∉ ts → σ'[j]? = σ[j]?) → Ext F as H F' as' H' → Sit K F' B H' ρ' σ' as' → Q σ' H'
theorem PG.to {X : Cx} {e : Expr} {t t' : TG} (h : PG X e t) (c : ∀ v σ H Q, t' v σ H Q → t v σ H Q) : PG X e t' := ⟨fun pins s σ H v u Q I r hq => h.run pins s σ H v u Q I r (c v σ H Q hq)⟩
theorem PGs.to {X : Cx} {e : List Expr} {t t' : TGs} (h : PGs X e t) (c : ∀ v σ H Q, t' v σ H Q → t v σ H Q) : PGs X e t' := ⟨fun pins s σ H v u Q I r hq => h.run pins s σ H v u Q I r (c v σ H Q hq)⟩
def hNm (i : Nat) : FG := fun d ρ => bind1 i d false ρ
theorem set_ne {i : Nat} {σ : L2.St} {x : Option V} (j : Nat) (h : j ∉ [i]) : (σ.set i x)[j]? = σ[j]? := List.getElem?_set_ne (fun e => h (by simp [e]))
section
variable {X : Cx} {pos : Pos}
theorem cg_name {i : Nat} {x : Str} (hN : X.N.Nodup) (hi : X.N[i]? = some x) (hx : Loc X.env.scope x) (hf : X.fn x = true ∨ X.env.scope.names.lookup x = some .local := by first | exact .inl rfl | exact .inr rfl | assumption) : PG X (.Name x pos) (tG (kc X) [i] (hNm i)) :=
  PG.to (pg_name hN hi hx hf) fun v σ H Q ⟨F, B, as, ρ, d, ρ', S, r, e, k⟩ => by
    obtain ⟨as2, S2, m⟩ := Sit2.bind (bs := []) (w := false) (v := v) ⟨S.env, S.nd, S.nf, S.fk, by simp [r]⟩ e
    exact k _ H F as2 (by simp) (fun j hj => set_ne j hj) (Ext.refl.sub m) S2
def hNil : FGs := fun ds ρ => match ds with
  | [] => some ρ
  | _ => none
def hCons (h : FG) (hs : FGs) : FGs := fun ds ρ => match ds with
  | d :: r => match h d ρ with
    | some ρ1 => hs r ρ1
    | none => none
  | [] => none
theorem cgs_nil : PGs X [] (tGs (kc X) [] hNil) := PGs.to pgs_nil fun vs σ H Q ⟨F, B, as, ρ, ds, ρ', S, r, e, k⟩ => by
  unfold hNil at e
  split at e
  · cases e
    unfold RepL at r
    exact ⟨r, k σ H F as rfl (fun _ _ => rfl) .refl S⟩
  · cases e
theorem cgs_cons {e : Expr} {es : List Expr} {ts us : List Nat} {h : FG} {hs : FGs} (h1 : PG X e (tG (kc X) ts h)) (h2 : PGs X es (tGs (kc X) us hs)) (hq : (assignEach (e :: es) X.env).map (·.2) = assign e X.env :: (assignEach es X.env).map (·.2) := by rfl) :
    PGs X (e :: es) (tGs (kc X) (ts ++ us) (hCons h hs)) := PGs.to (pgs_cons h1 h2 hq) fun vs σ H Q ⟨F, B, as, ρ, ds, ρ', S, r, e, k⟩ => by
  unfold hCons at e
  split at e
  · rename_i d rest
    split at e
    · rename_i ρ1 q
      unfold RepL at r
      obtain ⟨v, u, rfl, r1, r2⟩ := r
      refine ⟨v, u, rfl, F, B, as, ρ, d, ρ1, S, r1, q, fun σ1 H1 F1 as1 l1 n1 E1 S1 => ⟨F1, B, as1, ρ1, rest, ρ', S1, RepL.stb E1.stb _ _ r2, e, fun σ2 H2 F2 as2 l2 n2 E2 S2 => ?_⟩⟩
      exact k σ2 H2 F2 as2 (l2.trans l1) (fun j hj => (n2 j fun m => hj (List.mem_append_right _ m)).trans (n1 j fun m => hj (List.mem_append_left _ m))) (E1.trans E2) S2
    · cases e
  · cases e
def hTup (n : Nat) (h : FGs) : FG := fun d ρ => match d with
  | .tup ds => if ds.length = n then h ds ρ else none
  | _ => none
theorem cg_tup {es : List Expr} {k n : Nat} {ts : List Nat} {h : FGs} (hc : X.calm = true) (hs : PGs X es (tGs (kc X) ts h)) (hn : (assignEach es X.env).length = n := by rfl) (hst : (assignEach es X.env).findIdx? (·.1) = none := by rfl) : PG X (.Tuple es k pos) (tG (kc X) ts (hTup n h)) :=
  PG.to (pg_tup hc hs hn hst) fun v σ H Q ⟨F, B, as, ρ, d, ρ', S, r, e, k⟩ => by
    unfold hTup at e
    split at e
    · split at e
      · rename_i ds hl
        unfold Rep at r
        obtain ⟨a, vs, rfl, h1, h2⟩ := r
        exact ⟨a, vs, rfl, h1, by rw [h2.length, hl], F, B, as, ρ, ds, ρ', S, h2, e, k⟩
      · cases e
    · cases e
end

/-! ### what is walked -/
def ItOk (K : Kc) (J : It) (items : List D) (F : Addr → Prop) (H : Hp) : Prop := ∀ F2 H2, Stb F H F2 H2 → (∀ b, F2 b → H2 b ≠ none) → ∀ i,
  (∀ d, items[i]? = some d → J.go i H2 ∧ ∀ x H3, J.yld i H2 x H3 → ∃ F3, Ext F2 [] H2 F3 [] H3 ∧ Rep K F3 H3 d x) ∧ (items.length ≤ i → J.stop i H2)
theorem ItOk.stb {K : Kc} {J : It} {items : List D} {F F2 : Addr → Prop} {H H2 : Hp} (h : ItOk K J items F H) (s : Stb F H F2 H2) : ItOk K J items F2 H2 := fun F3 H3 s3 => h F3 H3 (s.trans s3)
def tI (K : Kc) (g : FL) : TI := fun σ H R => ∃ F B as ρ items ρ', Sit K F B H ρ σ as ∧ g ρ = some (items, ρ') ∧ ∀ J H' F' as', Ext F as H F' as' H' → Sit K F' B H' ρ' σ as' → ItOk K J items F' H' → R J H'
theorem PI.to {X : Cx} {tg e : Expr} {t t' : TI} (h : PI X tg e t) (c : ∀ σ H R, t' σ H R → t σ H R) : PI X tg e t' := ⟨fun pins s σ H R I hq => h.run pins s σ H R I (c σ H R hq)⟩
theorem RepL.get' {K : Kc} {F : Addr → Prop} {H : Hp} {ds : List D} {vs : List V} {i : Nat} {x : V} (r : RepL K F H ds vs) (e : vs[i]? = some x) : ∃ d, ds[i]? = some d ∧ Rep K F H d x := by
  have hl : i < ds.length := by
    have := (List.getElem?_eq_some_iff.mp e).1
    rw [r.length] at this; exact this
  obtain ⟨v, h1, h2⟩ := r.get (List.getElem?_eq_getElem hl)
  rw [e] at h1
  cases h1
  exact ⟨_, List.getElem?_eq_getElem hl, h2⟩
/-- a list among what never changes -/
theorem it_lst {K : Kc} {F : Addr → Prop} {H : Hp} {a : Addr} {vs : List V} {ds : List D} (hf : F a) (h : H a = some (.lst vs)) (r : RepL K F H ds vs) : ItOk K (Itl K.K a) ds F H := fun F2 H2 s fk i => by
  have h2 : SqL K.K H2 a vs := SqL.of (s.ls a vs hf h)
  have r2 := RepL.stb s.weak _ _ r
  refine ⟨fun d hd => ?_, fun hl => ⟨vs, h2, by rw [r.length]; exact hl⟩⟩
  obtain ⟨v, e, q⟩ := r2.get hd
  refine ⟨⟨vs, v, h2, e⟩, fun x H3 y => ?_⟩
  obtain ⟨rfl, y⟩ := y
  have := y vs h2
  rw [e] at this
  cases this
  exact ⟨F2, .refl, q⟩
theorem it_tup {K : Kc} {F : Addr → Prop} {H : Hp} {a : Addr} {vs : List V} {ds : List D} (h : SqT K.K H a vs) (r : RepL K F H ds vs) : ItOk K (Itt K.K a) ds F H := fun F2 H2 s fk i => by
  have h2 : SqT K.K H2 a vs := s.sqT h
  have r2 := RepL.stb s.weak _ _ r
  refine ⟨fun d hd => ?_, fun hl => ⟨vs, h2, by rw [r.length]; exact hl⟩⟩
  obtain ⟨v, e, q⟩ := r2.get hd
  refine ⟨⟨vs, v, h2, e⟩, fun x H3 y => ?_⟩
  obtain ⟨rfl, y⟩ := y
  have := y vs h2
  rw [e] at this
  cases this
  exact ⟨F2, .refl, q⟩
def rngD (lo : Int) (n : Nat) : List D := (List.range n).map fun i => .int (lo + (i : Nat))
theorem it_rng {K : Kc} {F : Addr → Prop} {H : Hp} {lo : Int} {n : Nat} : ItOk K (Itr lo n) (rngD lo n) F H := fun F2 H2 s fk i => by
  unfold rngD
  refine ⟨fun d hd => ?_, fun hl => by show n ≤ i; simpa using hl⟩
  rw [List.getElem?_map] at hd
  obtain ⟨j, hj, rfl⟩ := Option.map_eq_some_iff.mp hd
  obtain ⟨hl, e⟩ := List.getElem?_eq_some_iff.mp hj
  simp at hl e
  subst e
  refine ⟨hl, fun x H3 y => ?_⟩
  obtain ⟨rfl, rfl⟩ := y
  exact ⟨F2, .refl, Rep.int'⟩
def rngC (lo c : Int) (n : Nat) : List D := (List.range n).map fun i => .int (lo + (i : Nat) * c)
theorem it_rngC {K : Kc} {F : Addr → Prop} {H : Hp} {lo c : Int} {n : Nat} : ItOk K (Itc lo c n) (rngC lo c n) F H := fun F2 H2 s fk i => by
  unfold rngC
  refine ⟨fun d hd => ?_, fun hl => by show n ≤ i; simpa using hl⟩
  rw [List.getElem?_map] at hd
  obtain ⟨j, hj, rfl⟩ := Option.map_eq_some_iff.mp hd
  obtain ⟨hl, e⟩ := List.getElem?_eq_some_iff.mp hj
  simp at hl e
  subst e
  refine ⟨hl, fun x H3 y => ?_⟩
  obtain ⟨rfl, rfl⟩ := y
  exact ⟨F2, .refl, Rep.int'⟩
def zipD (xs ys : List D) : List D := List.zipWith (fun x y => .tup [x, y]) xs ys
theorem it_zip {K : Kc} {F : Addr → Prop} {H : Hp} {a b : Addr} {us vs : List V} {xs ys : List D} (ha : F a) (hb : F b) (h : H a = some (.lst us)) (h' : H b = some (.lst vs)) (r : RepL K F H xs us) (r' : RepL K F H ys vs) : ItOk K (RZ.ItzZ K.K a b) (zipD xs ys) F H := fun F2 H2 s fk i => by
  have h2 : SqL K.K H2 a us := SqL.of (s.ls a us ha h)
  have h2' : SqL K.K H2 b vs := SqL.of (s.ls b vs hb h')
  have r2 := RepL.stb s.weak _ _ r
  have r2' := RepL.stb s.weak _ _ r'
  unfold zipD
  refine ⟨fun d hd => ?_, fun hl => ⟨us, vs, h2, h2', ?_⟩⟩
  · rw [List.getElem?_zipWith] at hd
    split at hd
    · rename_i x y qx qy
      cases hd
      obtain ⟨u, e, q⟩ := r2.get qx
      obtain ⟨v, e', q'⟩ := r2'.get qy
      refine ⟨⟨us, vs, u, v, h2, h2', e, e'⟩, fun z H3 y => ?_⟩
      obtain ⟨T, ob, x1, y1, rfl, hod, hT, rfl, y2, y3⟩ := y
      have z1 := y2 us h2
      rw [e] at z1; cases z1
      have z2 := y3 vs h2'
      rw [e'] at z2; cases z2
      obtain ⟨E, q3⟩ := new_tup hod hT (RepL.cons q (RepL.cons q' RepL.nil))
      exact ⟨F2, E, q3⟩
    · cases hd
  · rw [List.length_zipWith] at hl
    rw [r.length, r'.length]
    omega
theorem it_zipT {K : Kc} {F : Addr → Prop} {H : Hp} {a b : Addr} {us vs : List V} {xs ys : List D} (h : SqT K.K H a us) (h' : SqT K.K H b vs) (r : RepL K F H xs us) (r' : RepL K F H ys vs) : ItOk K (RZ.ItzTZ K.K a b) (zipD xs ys) F H := fun F2 H2 s fk i => by
  have h2 := s.sqT h
  have h2' := s.sqT h'
  have r2 := RepL.stb s.weak _ _ r
  have r2' := RepL.stb s.weak _ _ r'
  unfold zipD
  refine ⟨fun d hd => ?_, fun hl => ⟨us, vs, h2, h2', ?_⟩⟩
  · rw [List.getElem?_zipWith] at hd
    split at hd
    · rename_i x y qx qy
      cases hd
      obtain ⟨u, e, q⟩ := r2.get qx
      obtain ⟨v, e', q'⟩ := r2'.get qy
      refine ⟨⟨us, vs, u, v, h2, h2', e, e'⟩, fun z H3 y => ?_⟩
      obtain ⟨T, ob, x1, y1, rfl, hod, hT, rfl, y2, y3⟩ := y
      have z1 := y2 us h2
      rw [e] at z1; cases z1
      have z2 := y3 vs h2'
      rw [e'] at z2; cases z2
      obtain ⟨E, q3⟩ := new_tup hod hT (RepL.cons q (RepL.cons q' RepL.nil))
      exact ⟨F2, E, q3⟩
    · cases hd
  · rw [List.length_zipWith] at hl
    rw [r.length, r'.length]
    omega
section
variable {X : Cx} {tg : Expr} {pos p : Pos}
def gSq (g : FD) : FL := fun ρ => match g ρ with
  | some (.lst xs, ρ1) => some (xs, ρ1)
  | some (.tup xs, ρ1) => some (xs, ρ1)
  | _ => none
theorem ci_seq {e : Expr} {g : FD} (h : PE X e (tD (kc X) g)) : PI X tg e (tI (kc X) (gSq g)) := by
  refine ⟨fun pins s σ H R I hq => ?_⟩
  obtain ⟨F, B, as, ρ, items, ρ', S, e, k⟩ := hq
  unfold gSq at e
  split at e
  · rename_i xs ρ1 q
    cases e
    refine (pi_list h).run pins s σ H R I ⟨F, B, as, ρ, .lst items, _, S, q, fun v H1 F1 as1 E1 S1 r => ?_⟩
    unfold Rep at r
    obtain ⟨a, vs, rfl, hf, h1, h2⟩ := r
    exact ⟨a, rfl, ⟨vs, SqL.of h1⟩, k _ H1 F1 as1 E1 S1 (it_lst hf h1 h2)⟩
  · rename_i xs ρ1 q
    cases e
    refine (pi_tup h).run pins s σ H R I ⟨F, B, as, ρ, .tup items, _, S, q, fun v H1 F1 as1 E1 S1 r => ?_⟩
    unfold Rep at r
    obtain ⟨a, vs, rfl, h1, h2⟩ := r
    exact ⟨a, rfl, ⟨vs, h1⟩, k _ H1 F1 as1 E1 S1 (it_tup h1 h2)⟩
  · cases e
def gRng1 (g : FL) : FL := fun ρ => match g ρ with
  | some ([.int j], ρ1) => if j ≤ 100000 ∧ -100000 ≤ j then some (rngD 0 j.toNat, ρ1) else none
  | _ => none
theorem ci_rng1 {a : Expr} {g : FL} (hg : Gl X "range") (hm : X.mg "range" = none) (ha : PA X [a] (tL (kc X) g)) (hs : starEach [a] X.env = [(false, eval a X.env)] := by rfl) : PI X tg (.Call (.Name "range" p) [a] [] pos) (tI (kc X) (gRng1 g)) :=
  PI.to (pi_range1 hg hm ha hs) fun σ H R ⟨F, B, as, ρ, items, ρ', S, e, k⟩ => by
    unfold gRng1 at e
    split at e
    · rename_i j ρ1 q
      split at e
      · rename_i hj
        cases e
        refine ⟨F, B, as, ρ, _, _, S, q, fun vs H1 F1 as1 E1 S1 r => ?_⟩
        unfold RepL RepL Rep at r
        obtain ⟨v, u, rfl, rfl, rfl⟩ := r
        exact ⟨j, rfl, by omega, by omega, k _ H1 F1 as1 E1 S1 it_rng⟩
      · cases e
    · cases e
def gRng2 (g : FL) : FL := fun ρ => match g ρ with
  | some ([.int i, .int j], ρ1) => if (i ≤ 100000 ∧ -100000 ≤ i) ∧ j ≤ 100000 ∧ -100000 ≤ j then some (rngD i (j - i).toNat, ρ1) else none
  | _ => none
theorem ci_rng2 {a b : Expr} {g : FL} (hg : Gl X "range") (hm : X.mg "range" = none) (ha : PA X [a, b] (tL (kc X) g)) (hs : starEach [a, b] X.env = [(false, eval a X.env), (false, eval b X.env)] := by rfl) (hs2 : starEach [b] X.env = [(false, eval b X.env)] := by rfl) : PI X tg (.Call (.Name "range" p) [a, b] [] pos) (tI (kc X) (gRng2 g)) :=
  PI.to (pi_range2 hg hm ha hs hs2) fun σ H R ⟨F, B, as, ρ, items, ρ', S, e, k⟩ => by
    unfold gRng2 at e
    split at e
    · rename_i i j ρ1 q
      split at e
      · rename_i hj
        cases e
        refine ⟨F, B, as, ρ, _, _, S, q, fun vs H1 F1 as1 E1 S1 r => ?_⟩
        unfold RepL RepL RepL Rep at r
        obtain ⟨v, u, rfl, rfl, v2, u2, rfl, rfl, rfl⟩ := r
        exact ⟨i, j, rfl, by omega, k _ H1 F1 as1 E1 S1 it_rng⟩
      · cases e
    · cases e
def gRngM (g : FL) : FL := fun ρ => match g ρ with
  | some ([.int i, .int j, .int c], ρ1) => if c = -1 ∧ (i ≤ 100000 ∧ -100000 ≤ i) ∧ j ≤ 100000 ∧ -100000 ≤ j then some (rngC i (-1) (i - j).toNat, ρ1) else none
  | _ => none
theorem ci_rng3 {a b c : Expr} {g : FL} (hg : Gl X "range") (hm : X.mg "range" = none) (ha : PA X [a, b, c] (tL (kc X) g)) (hs : starEach [a, b, c] X.env = (false, eval a X.env) :: starEach [b, c] X.env := by rfl) (hpl : (backTo pos (starEach [b, c] X.env)).any (·.1) = false := by rfl) : PI X tg (.Call (.Name "range" p) [a, b, c] [] pos) (tI (kc X) (gRngM g)) :=
  PI.to (pi_range3 hg hm ha hs hpl) fun σ H R ⟨F, B, as, ρ, items, ρ', S, e, k⟩ => by
    unfold gRngM at e
    split at e
    · rename_i i j c ρ1 q
      split at e
      · rename_i hj
        obtain ⟨rfl, hi, hj⟩ := hj
        cases e
        refine ⟨F, B, as, ρ, _, _, S, q, fun vs H1 F1 as1 E1 S1 r => ?_⟩
        unfold RepL RepL RepL RepL Rep at r
        obtain ⟨v, u, rfl, rfl, v2, u2, rfl, rfl, v3, u3, rfl, rfl, rfl⟩ := r
        exact ⟨i, j, -1, _, rfl, RgC.neg (by omega) (by omega) (by omega) (by omega), k _ H1 F1 as1 E1 S1 it_rngC⟩
      · cases e
    · cases e
def gZip (g : FL) : FL := fun ρ => match g ρ with
  | some ([.lst xs, .lst ys], ρ1) => some (zipD xs ys, ρ1)
  | some ([.tup xs, .tup ys], ρ1) => some (zipD xs ys, ρ1)
  | _ => none
theorem ci_zip {e e2 : Expr} {g : FL} {tpos : Pos} {elts : List Expr} {kk : Nat} (hg : Gl X "zip") (hm : X.mg "zip" = none) (ha : PA X [e, e2] (tL (kc X) g)) (hs : starEach [e, e2] X.env = (false, eval e X.env) :: starEach [e2] X.env := by rfl) (hpl : (backTo pos (starEach [e2] X.env)).any (·.1) = false := by rfl) :
    PI X (.Tuple elts kk tpos) (.Call (.Name "zip" p) [e, e2] [] pos) (tI (kc X) (gZip g)) :=
  PI.to (RZ.pi_zipZ hg hm ha hs hpl) fun σ H R ⟨F, B, as, ρ, items, ρ', S, e, k⟩ => by
    unfold gZip at e
    split at e
    · rename_i xs ys ρ1 q
      cases e
      refine ⟨F, B, as, ρ, _, _, S, q, fun vs H1 F1 as1 E1 S1 r => ?_⟩
      unfold RepL RepL RepL Rep at r
      obtain ⟨v, u, rfl, ⟨a, us, rfl, fa, h1, h2⟩, v2, u2, rfl, ⟨b, ws, rfl, fb, h3, h4⟩, rfl⟩ := r
      exact ⟨a, b, us, ws, rfl, .inl ⟨SqL.of h1, SqL.of h3, k _ H1 F1 as1 E1 S1 (it_zip fa fb h1 h3 h2 h4)⟩⟩
    · rename_i xs ys ρ1 q
      cases e
      refine ⟨F, B, as, ρ, _, _, S, q, fun vs H1 F1 as1 E1 S1 r => ?_⟩
      unfold RepL RepL RepL Rep at r
      obtain ⟨v, u, rfl, ⟨a, us, rfl, h1, h2⟩, v2, u2, rfl, ⟨b, ws, rfl, h3, h4⟩, rfl⟩ := r
      exact ⟨a, b, us, ws, rfl, .inr ⟨h1, h3, k _ H1 F1 as1 E1 S1 (it_zipT h1 h3 h2 h4)⟩⟩
    · cases e

/-! ### for -/
def forD (h : FG) (body : FS) : List D → Env → Option (Fl × Env)
  | [], ρ => some (.nx, ρ)
  | d :: ds, ρ => match h d ρ with
    | some ρ1 => match body ρ1 with
      | some (.nx, ρ2) => forD h body ds ρ2
      | some (.ct, ρ2) => forD h body ds ρ2
      | some (.br, ρ2) => some (.nx, ρ2)
      | some (.rt d w, ρ2) => some (.rt d w, ρ2)
      | none => none
    | none => none
def gFor (gi : FL) (h : FG) (body : FS) : FS := fun ρ => match gi ρ with
  | some (items, ρ1) => forD h body items ρ1
  | none => none
theorem drop_cons {α : Type} {l : List α} {i : Nat} (h : i < l.length) : ∃ d, l[i]? = some d ∧ l.drop i = d :: l.drop (i + 1) :=
  ⟨l[i], List.getElem?_eq_getElem h, List.drop_eq_getElem_cons h⟩
theorem for_fit {K : Kc} {gi : FL} {h : FG} {ts : List Nat} {body : FS} {D : Ends} {σ : L2.St} {H : Hp} (hq : tS K (gFor gi h body) D σ H) : tFor (tI K gi) (tG K ts h) (tS K body) D σ H := by
  obtain ⟨F, B, as, ρ, fl, ρ', S, e, k⟩ := hq
  unfold gFor at e
  split at e
  · rename_i items ρ1 q
    refine ⟨F, B, as, ρ, items, ρ1, S, q, fun J H1 F1 as1 E1 S1 I1 => ?_⟩
    let Wn : Nat → L2.St → Hp → Prop := fun i σ H => ∃ F' as' ρ2, Sit K F' B H ρ2 σ as' ∧ forD h body (items.drop i) ρ2 = some (fl, ρ') ∧ tSEnd K F' B as' H D ρ' fl ∧ ItOk K J items F' H
    refine ⟨fun i m σ H => m = items.length - i ∧ i ≤ items.length ∧ Wn i σ H, ⟨items.length, rfl, Nat.zero_le _, F1, as1, ρ1, S1, e, k.ext E1, I1⟩, ?_⟩
    rintro i m σ2 H2 ⟨rfl, hi, F2, as2, ρ2, S2, e2, k2, I2⟩
    have IJ := I2 F2 H2 .refl S2.fk i
    by_cases hlt : i < items.length
    · obtain ⟨d, hd, hdr⟩ := drop_cons hlt
      rw [hdr] at e2
      unfold forD at e2
      obtain ⟨go, step⟩ := IJ.1 d hd
      have next : ∀ {σ' : L2.St} {H' : Hp}, Wn (i + 1) σ' H' → ∃ m', m' < items.length - i ∧ m' = items.length - (i + 1) ∧ i + 1 ≤ items.length ∧ Wn (i + 1) σ' H' := fun {σ' H'} w => ⟨_, by omega, rfl, hlt, w⟩
      split at e2
      · rename_i ρ3 q3
        split at e2
        · rename_i ρ4 q4
          refine .inr ⟨go, Wn (i + 1), fun σ' H' w => next w, fun x H3 y => ?_⟩
          obtain ⟨F3, E3, r3⟩ := step x H3 y
          have S3 := S2.step E3
          refine ⟨F3, B, as2, ρ2, d, ρ3, S3, r3, q3, fun σ5 H5 F5 as5 _ _ E5 S5 => ⟨F5, B, as5, ρ3, .nx, ρ4, S5, q4, fun σ6 H6 F6 as6 E6 S6 => ?_⟩⟩
          exact ⟨F6, as6, ρ4, S6, e2, ((k2.ext E3.pure).ext E5).ext E6, ((I2.stb E3.stb).stb E5.stb).stb E6.stb⟩
        · rename_i ρ4 q4
          refine .inr ⟨go, Wn (i + 1), fun σ' H' w => next w, fun x H3 y => ?_⟩
          obtain ⟨F3, E3, r3⟩ := step x H3 y
          have S3 := S2.step E3
          refine ⟨F3, B, as2, ρ2, d, ρ3, S3, r3, q3, fun σ5 H5 F5 as5 _ _ E5 S5 => ⟨F5, B, as5, ρ3, .ct, ρ4, S5, q4, fun σ6 H6 F6 as6 E6 S6 => ?_⟩⟩
          exact ⟨F6, as6, ρ4, S6, e2, ((k2.ext E3.pure).ext E5).ext E6, ((I2.stb E3.stb).stb E5.stb).stb E6.stb⟩
        · rename_i ρ4 q4
          cases e2
          refine .inr ⟨go, fun _ _ => False, fun σ' H' w => w.elim, fun x H3 y => ?_⟩
          obtain ⟨F3, E3, r3⟩ := step x H3 y
          have S3 := S2.step E3
          refine ⟨F3, B, as2, ρ2, d, ρ3, S3, r3, q3, fun σ5 H5 F5 as5 _ _ E5 S5 => ⟨F5, B, as5, ρ3, .br, _, S5, q4, fun σ6 H6 F6 as6 E6 S6 => ?_⟩⟩
          exact k2 σ6 H6 F6 as6 ((E3.pure.trans E5).trans E6) S6
        · rename_i d' w' ρ4 q4
          cases e2
          refine .inr ⟨go, fun _ _ => False, fun σ' H' w => w.elim, fun x H3 y => ?_⟩
          obtain ⟨F3, E3, r3⟩ := step x H3 y
          have S3 := S2.step E3
          refine ⟨F3, B, as2, ρ2, d, ρ3, S3, r3, q3, fun σ5 H5 F5 as5 _ _ E5 S5 => ⟨F5, B, as5, ρ3, .rt d' w', _, S5, q4, fun v σ6 H6 F6 as6 bs E6 S6 => ?_⟩⟩
          exact k2 v σ6 H6 F6 as6 bs ((E3.pure.trans E5).trans E6) S6
        · cases e2
      · cases e2
    · have e3 : i = items.length := by omega
      subst e3
      rw [List.drop_length] at e2
      unfold forD at e2
      cases e2
      exact .inl ⟨IJ.2 (Nat.le_refl _), k2 σ2 H2 F2 as2 .refl S2⟩
  · cases e
theorem cs_for {iter : Expr} {body : List Stmt} {gi : FL} {ts : List Nat} {h : FG} {gb : FS} (hp : PassesOwn (model X.prog X.w) X.A X.env X.xe) (hc : X.calm = true) (hi : PI X tg iter (tI (kc X) gi)) (hg : PG X tg (tG (kc X) ts h)) (hb : PSs X body (tS (kc X) gb))
    (hs : ∀ x, foldedSetIterable iter X.env x = pure x := by intro _; rfl) : PS X (.For tg iter body [] pos) (tS (kc X) (gFor gi h gb)) :=
  PS.to (ps_for hp hc hi hg hb hs) fun D σ H hq => for_fit hq
end

/-! ### comprehensions -/
def wipeE (ρ : Env) : List Nat → Env
  | [] => ρ
  | v :: vs => (wipeE ρ vs).set v .no
def okOwn (ρ : Env) : List Nat → Bool
  | [] => true
  | v :: vs => (match ρ[v]? with
    | some .no => true
    | some (.sh _) => true
    | _ => false) && okOwn ρ vs
/-- the block's own names are again what they were -/
def backE (ρ0 ρ : Env) : List Nat → Env
  | [] => ρ
  | v :: vs => (backE ρ0 ρ vs).set v (ρ0.getD v .no)
theorem wipe_env {K : Kc} {F : Addr → Prop} {B : List Addr} {H : Hp} {ρ : Env} {σ : L2.St} {as : List Addr} (h : EnvR K F B H ρ σ as) : ∀ vs : List Nat, ∃ as', EnvR K F B H (wipeE ρ vs) (wipe σ vs) as' ∧ as'.Sublist as
  | [] => ⟨as, h, List.Sublist.refl _⟩
  | v :: vs => by
    obtain ⟨as1, h1, s1⟩ := wipe_env h vs
    unfold wipeE wipe
    by_cases hv : v < (wipeE ρ vs).length
    · obtain ⟨o, p, a, q, ea, eo, hs, hr⟩ := h1.split (List.getElem?_eq_getElem hv)
      subst ea
      refine ⟨p ++ ([] ++ q), hr .no none [] .refl (Kept.of fun _ _ h => h) (by unfold SlR; rfl), List.Sublist.trans ?_ s1⟩
      exact List.Sublist.append (List.Sublist.refl _) (List.Sublist.append (List.nil_sublist _) (List.Sublist.refl _))
    · have hl := h1.length
      rw [List.set_eq_of_length_le (by omega), List.set_eq_of_length_le (by omega)]
      exact ⟨as1, h1, s1⟩
theorem Sit.wiped {K : Kc} {F : Addr → Prop} {B : List Addr} {H : Hp} {ρ : Env} {σ : L2.St} {as : List Addr} (S : Sit K F B H ρ σ as) (vs : List Nat) : ∃ as', Sit K F B H (wipeE ρ vs) (wipe σ vs) as' ∧ as'.Sublist as := by
  obtain ⟨as', h, s⟩ := wipe_env S.env vs
  exact ⟨as', ⟨h, S.nd.sublist s, fun a m => S.nf a (s.subset m), S.fk⟩, s⟩
theorem wipeE_length (ρ : Env) : ∀ vs, (wipeE ρ vs).length = ρ.length
  | [] => rfl
  | v :: vs => by unfold wipeE; rw [List.length_set, wipeE_length ρ vs]
theorem backE_env {K : Kc} {F F2 : Addr → Prop} {B : List Addr} {H H2 : Hp} {ρ0 : Env} {σ : L2.St} {as0 : List Addr} (h0 : EnvR K F B H ρ0 σ as0) (s : Stb F H F2 H2) : ∀ {vs : List Nat} {ρ : Env} {σ2 : L2.St} {as : List Addr}, okOwn ρ0 vs = true → EnvR K F2 B H2 ρ σ2 as → (∀ j, j ∉ vs → σ2[j]? = σ[j]?) → σ2.length = σ.length →
    ∃ as', EnvR K F2 B H2 (backE ρ0 ρ vs) σ as' ∧ as'.Sublist as
  | [], ρ, σ2, as, _, h, hn, hl => by
    have e : σ2 = σ := List.ext_getElem? fun j => hn j (by simp)
    subst e
    exact ⟨as, h, List.Sublist.refl _⟩
  | v :: vs, ρ, σ2, as, ok, h, hn, hl => by
    unfold okOwn at ok
    rw [Bool.and_eq_true] at ok
    have hv : ∃ x, ρ0[v]? = some x := by
      cases q : ρ0[v]? with
      | none => rw [q] at ok; simp at ok
      | some x => exact ⟨x, rfl⟩
    obtain ⟨x, hx⟩ := hv
    obtain ⟨o, _, _, _, _, eo, hs0, _⟩ := h0.split hx
    have lv : v < σ.length := (List.getElem?_eq_some_iff.mp eo).1
    -- v's slot first, with its old value
    have hxs : SlR K F2 B H2 x o [] := by
      have ok1 := ok.1
      rw [hx] at ok1
      cases x with
      | no => unfold SlR; rfl
      | sh d =>
        unfold SlR at hs0 ⊢
        obtain ⟨_, v', e, r⟩ := hs0
        exact ⟨rfl, v', e, Rep.stb s.weak _ _ r⟩
      | ow d => simp at ok1
      | bo k d => simp at ok1
    have lρ : v < ρ.length := by have := h.length; omega
    obtain ⟨o2, p, a, q, ea, eo2, _, hr⟩ := h.split (List.getElem?_eq_getElem lρ)
    subst ea
    have z := hr x o [] .refl (Kept.of fun _ _ h => h) hxs
    obtain ⟨as', h3, s3⟩ := backE_env h0 s (ρ := ρ.set v x) (σ2 := σ2.set v o) ok.2 z (fun j hj => by
      by_cases e : v = j
      · subst e
        rw [List.getElem?_set_self (by omega)]
        exact eo.symm
      · rw [List.getElem?_set_ne e]
        exact hn j fun m => by
          rcases List.mem_cons.mp m with m | m
          · exact e m.symm
          · exact hj m) (by simpa using hl)
    -- setting v again changes nothing
    have comm : ∀ (vs : List Nat), (backE ρ0 (ρ.set v x) vs)[v]? = some x ∧ backE ρ0 (ρ.set v x) vs = (backE ρ0 ρ vs).set v x := by
      intro vs
      induction vs with
      | nil =>
        unfold backE
        exact ⟨List.getElem?_set_self lρ, rfl⟩
      | cons w ws ih =>
        unfold backE
        by_cases e : w = v
        · subst e
          have gd : ρ0.getD w .no = x := by rw [List.getD_eq_getElem?_getD, hx]; rfl
          rw [gd]
          obtain ⟨i1, i2⟩ := ih
          rw [set_same i1]
          refine ⟨i1, ?_⟩
          rw [i2, List.set_set]
        · obtain ⟨i1, i2⟩ := ih
          rw [List.getElem?_set_ne e]
          refine ⟨i1, ?_⟩
          rw [i2, List.set_comm _ _ e]
    have fin : backE ρ0 ρ (v :: vs) = backE ρ0 (ρ.set v x) vs := by
      rw [(comm vs).2]
      show (backE ρ0 ρ vs).set v (ρ0.getD v .no) = _
      rw [List.getD_eq_getElem?_getD, hx]
      rfl
    rw [fin]
    refine ⟨as', h3, s3.trans ?_⟩
    exact List.Sublist.append (List.Sublist.refl _) (List.Sublist.append (List.nil_sublist _) (List.Sublist.refl _))
theorem wipe_at {σ σ2 : L2.St} : ∀ {vs : List Nat}, σ2.length = σ.length → (∀ j, j ∉ vs → σ2[j]? = (wipe σ vs)[j]?) → wipe σ2 vs = wipe σ vs := fun {vs} hl hn => by
  have key : ∀ (σ : L2.St) (vs : List Nat) (j : Nat), (wipe σ vs)[j]? = if j ∈ vs ∧ j < σ.length then some none else σ[j]? := by
    intro σ vs
    induction vs with
    | nil => intro j; simp [wipe]
    | cons v vs ih =>
      intro j
      unfold wipe
      by_cases e : v = j
      · subst e
        by_cases hj : v < σ.length
        · rw [List.getElem?_set_self (by rw [wipe_length]; exact hj), if_pos ⟨List.mem_cons_self, hj⟩]
        · rw [List.getElem?_eq_none (by rw [List.length_set, wipe_length]; omega), if_neg (fun z => hj z.2), List.getElem?_eq_none (by omega)]
      · rw [List.getElem?_set_ne e, ih]
        have : j ∈ v :: vs ↔ j ∈ vs := by simp [Ne.symm e]
        simp only [this]
  refine List.ext_getElem? fun j => ?_
  rw [key, key]
  by_cases hj : j ∈ vs
  · simp only [hj, true_and, hl]
    split
    · rfl
    · rename_i h
      rw [List.getElem?_eq_none (by omega), List.getElem?_eq_none (by omega)]
  · simp only [hj, false_and, if_false]
    have := hn j hj
    rw [key] at this
    simpa [hj] using this
theorem wipe_off {σ : L2.St} {vs : List Nat} {j : Nat} (h : j ∉ vs) : (wipe σ vs)[j]? = σ[j]? := wipe_out h

def compD (vs : List Nat) (h : FG) (tt : FT) (te : FD) : List D → Env → Option (List D × Env)
  | [], ρ => some ([], ρ)
  | d :: ds, ρ => match h d ρ with
    | some ρ1 => match tt ρ1 with
      | some (true, ρ2) => match te ρ2 with
        | some (y, ρ3) => match compD vs h tt te ds (wipeE ρ3 vs) with
          | some (ys, ρ4) => some (y :: ys, ρ4)
          | none => none
        | none => none
      | some (false, ρ2) => compD vs h tt te ds (wipeE ρ2 vs)
      | none => none
    | none => none
def gComp (vs : List Nat) (gi : FL) (h : FG) (tt : FT) (te : FD) : FW := fun ρ => match gi ρ with
  | some (items, ρ1) => if okOwn ρ1 vs = true then match compD vs h tt te items (wipeE ρ1 vs) with
      | some (ys, ρ2) => if ys.length ≤ SZ then some (.lst ys, true, backE ρ1 ρ2 vs) else none
      | none => none
    else none
  | none => none
theorem comp_fit {K : Kc} {vs ts : List Nat} {gi : FL} {h : FG} {tt : FT} {te : FD} {σ : L2.St} {H : Hp} {Q : VK} (hts : ∀ j, j ∈ ts → j ∈ vs) (hq : tW K (gComp vs gi h tt te) σ H Q) : tLc (tI K gi) (tG K ts h) (tB K tt) (tD K te) vs σ H Q := by
  obtain ⟨F, B, as, ρ, d, w, ρ', S, e, k⟩ := hq
  unfold gComp at e
  split at e
  · rename_i items ρ1 q
    split at e
    · rename_i hok
      split at e
      · rename_i ys ρ2 q2
        split at e
        · rename_i hz
          cases e
          refine ⟨F, B, as, ρ, items, ρ1, S, q, fun J H1 F1 as1 E1 S1 I1 D hD => ?_⟩
          obtain ⟨asw, Sw, subw⟩ := S1.wiped vs
          have hDa : ∀ b, b ∈ as1 → b ≠ D := fun b m e => by
            obtain ⟨u, z⟩ := S1.env.there b m
            rw [e, hD] at z; cases z
          have E0 : Ext F1 as1 H1 F1 (D :: as1) (upd H1 D (.lst [])) := Ext.newO hD
          let Wn : Nat → Hp → Prop := fun i H => ∃ F' as' ρ3 acc accD rest, Sit K F' B H ρ3 (wipe σ vs) as' ∧ H D = some (.lst acc) ∧ RepL K F' H accD acc ∧ D ∉ as' ∧ ¬ F' D ∧ compD vs h tt te (items.drop i) ρ3 = some (rest, ρ2) ∧ accD ++ rest = ys ∧ ItOk K J items F' H ∧
            Stb F1 H1 F' H ∧ Ext F1 as1 H1 F' (D :: as') H
          have start : Wn 0 (upd H1 D (.lst [])) := by
            refine ⟨F1, asw, wipeE ρ1 vs, [], [], ys, ⟨Sw.env.stb E0.stb (Kept.of fun b u h => by rw [upd_ne (ne_of_none h hD)]; exact h), Sw.nd, Sw.nf, E0.fk S1.fk⟩, upd_same, RepL.nil, fun m => hDa D (subw.subset m) rfl, fun f => S1.fk D f hD, by simpa using q2, rfl, I1.stb E0.stb, E0.stb, E0.sub fun b m => ?_⟩
            rcases List.mem_cons.mp m with m | m
            · rw [m]; exact List.mem_cons_self
            · exact List.mem_cons_of_mem _ (subw.subset m)
          refine ⟨fun i m H => m = items.length - i ∧ i ≤ items.length ∧ Wn i H, ⟨items.length, rfl, Nat.zero_le _, start⟩, ?_⟩
          rintro i m H2 ⟨rfl, hi, F2, as2, ρ3, acc, accD, rest, S2, hD2, rA, nD, fD, e2, eys, I2, st2, E2⟩
          have IJ := I2 F2 H2 .refl S2.fk i
          by_cases hlt : i < items.length
          · obtain ⟨d, hd, hdr⟩ := drop_cons hlt
            rw [hdr] at e2
            unfold compD at e2
            obtain ⟨go, step⟩ := IJ.1 d hd
            refine .inr ⟨go, Wn (i + 1), fun H' w => ⟨_, by omega, rfl, hlt, w⟩, fun x H3 y => ?_⟩
            obtain ⟨F3, E3, r3⟩ := step x H3 y
            have S3 := S2.step E3
            split at e2
            · rename_i ρ4 q4
              refine ⟨F3, B, as2, ρ3, d, ρ4, S3, r3, q4, fun σ5 H5 F5 as5 l5 n5 E5 S5 => ?_⟩
              have w5 : wipe σ5 vs = wipe σ vs := wipe_at (by rw [l5, wipe_length]) fun j hj => n5 j fun m => hj (hts j m)
              refine ⟨w5, ?_⟩
              -- what is kept of the new list
              have keepD : ∀ {Fa Fb : Addr → Prop} {aa ab : List Addr} {Ha Hb : Hp}, Ext Fa aa Ha Fb ab Hb → D ∉ aa → ¬ Fa D → ∀ u, Ha D = some u → Hb D = some u ∧ D ∉ ab ∧ ¬ Fb D := fun {Fa Fb aa ab Ha Hb} E n f u h => by
                refine ⟨E.keep D u h n, fun m => ?_, fun m => ?_⟩
                · rcases E.anew D m with z | z
                  · exact n z
                  · rw [h] at z; cases z
                · rcases E.fnew D m with z | z | z
                  · exact f z
                  · exact n z
                  · rw [h] at z; cases z
              obtain ⟨hD3, nD3, fD3⟩ := keepD (E3.pure (as := as2)) nD fD _ hD2
              obtain ⟨hD5, nD5, fD5⟩ := keepD E5 nD3 fD3 _ hD3
              have endw : ∀ {F6 : Addr → Prop} {as6 : List Addr} {H6 : Hp} {ρ6 : Env} {acc6 : List V} {accD6 rest6 : List DV.D}, Sit K F6 B H6 ρ6 σ5 as6 → H6 D = some (.lst acc6) → RepL K F6 H6 accD6 acc6 → D ∉ as6 → ¬ F6 D → compD vs h tt te (items.drop (i + 1)) (wipeE ρ6 vs) = some (rest6, ρ2) → accD6 ++ rest6 = ys →
                  Stb F2 H2 F6 H6 → Ext F2 (D :: as2) H2 F6 (D :: as6) H6 → Wn (i + 1) H6 := fun {F6 as6 H6 ρ6 acc6 accD6 rest6} S6 h6 r6 n6 f6 c6 y6 s6 E6 => by
                obtain ⟨as7, S7, sub7⟩ := S6.wiped vs
                rw [w5] at S7
                refine ⟨F6, as7, wipeE ρ6 vs, acc6, accD6, rest6, S7, h6, r6, fun m => n6 (sub7.subset m), f6, c6, y6, I2.stb s6, st2.trans s6, (E2.trans E6).sub fun b m => ?_⟩
                rcases List.mem_cons.mp m with m | m
                · rw [m]; exact List.mem_cons_self
                · exact List.mem_cons_of_mem _ (sub7.subset m)
              have wide : ∀ {Fa Fb : Addr → Prop} {aa ab : List Addr} {Ha Hb : Hp}, Ext Fa aa Ha Fb ab Hb → Ext Fa (D :: aa) Ha Fb (D :: ab) Hb := fun {Fa Fb aa ab Ha Hb} E => Ext.frameL (fr := [D]) E
              split at e2
              · rename_i ρ5 q5
                split at e2
                · rename_i yd ρ6 q6
                  split at e2
                  · rename_i ys2 ρ7 q7
                    cases e2
                    refine ⟨F5, B, as5, ρ4, true, ρ5, S5, q5, fun H6 F6 as6 E6 S6 => ?_⟩
                    simp only [if_true]
                    obtain ⟨hD6, nD6, fD6⟩ := keepD E6 nD5 fD5 _ hD5
                    refine ⟨F6, B, as6, ρ5, yd, ρ6, S6, q6, fun v H7 F7 as7 E7 S7 r7 => ?_⟩
                    obtain ⟨hD7, nD7, fD7⟩ := keepD E7 nD6 fD6 _ hD6
                    have s7 : Stb F2 H2 F7 H7 := ((E3.stb.trans E5.stb).trans E6.stb).trans E7.stb
                    have rA7 := RepL.stb s7.weak _ _ rA
                    have alen : acc.length < sizeLine := by
                      rw [rA.length]
                      refine sz_lt (Nat.le_trans ?_ hz)
                      rw [← eys, List.length_append]
                      omega
                    refine ⟨acc, hD7, alen, ?_⟩
                    have Ew : Ext F7 (D :: as7) H7 F7 (D :: as7) (upd H7 D (.lst (acc ++ [v]))) := Ext.write hD7 (fun _ z => by cases z) (fun _ _ z => by cases z) List.mem_cons_self fD7
                    have S8 : Sit K F7 B (upd H7 D (.lst (acc ++ [v]))) ρ6 σ5 as7 :=
                      ⟨S7.env.stb Ew.stb fun b m u hb => by rw [upd_ne (fun e => nD7 (by rw [← e]; exact m))]; exact hb, S7.nd, S7.nf, Ew.fk S7.fk⟩
                    exact endw (accD6 := accD ++ [yd]) (rest6 := ys2) S8 upd_same (RepL.stb Ew.stb _ _ (rA7.append (RepL.cons r7 RepL.nil))) nD7 fD7 q7 (by rw [List.append_assoc]; exact eys) (s7.trans Ew.stb)
                      (((((wide (E3.pure (as := as2))).trans (wide E5)).trans (wide E6)).trans (wide E7)).trans Ew)
                  · cases e2
                · cases e2
              · rename_i ρ5 q5
                refine ⟨F5, B, as5, ρ4, false, ρ5, S5, q5, fun H6 F6 as6 E6 S6 => ?_⟩
                simp only [Bool.false_eq_true, if_false]
                obtain ⟨hD6, nD6, fD6⟩ := keepD E6 nD5 fD5 _ hD5
                have s6 : Stb F2 H2 F6 H6 := (E3.stb.trans E5.stb).trans E6.stb
                exact endw S6 hD6 (RepL.stb s6 _ _ rA) nD6 fD6 e2 eys s6 (((wide (E3.pure (as := as2))).trans (wide E5)).trans (wide E6))
              · cases e2
            · cases e2
          · have e3 : i = items.length := by omega
            subst e3
            rw [List.drop_length] at e2
            unfold compD at e2
            cases e2
            rw [List.append_nil] at eys
            subst eys
            refine .inl ⟨IJ.2 (Nat.le_refl _), ?_⟩
            obtain ⟨as3, h3, sub3⟩ := backE_env S1.env st2 hok S2.env (fun j hj => wipe_off hj) (wipe_length _ _)
            have nD3 : D ∉ as3 := fun m => nD (sub3.subset m)
            refine k _ H2 F2 as3 [D] ((E1.trans E2).sub fun b m => ?_) ⟨h3, List.nodup_cons.mpr ⟨nD3, S2.nd.sublist sub3⟩, fun b m => ?_, S2.fk, ?_⟩
            · rcases List.mem_cons.mp m with m | m
              · rw [m]; exact List.mem_cons_self
              · exact List.mem_cons_of_mem _ (sub3.subset m)
            · rcases List.mem_cons.mp m with m | m
              · rw [m]; exact fD
              · exact S2.nf b (sub3.subset m)
            · simp only [if_true]
              unfold Own OwnC
              exact ⟨D, acc, rfl, hD2, rA, rfl⟩
        · cases e
      · cases e
    · cases e
  · cases e
section
variable {X : Cx}
def tYesD : FT := fun ρ => some (true, ρ)
theorem PTs.to {ifs : List Expr} {t t' : TT} (h : PTs X ifs t) (c : ∀ σ H Q, t' σ H Q → t σ H Q) : PTs X ifs t' := ⟨fun pins s σ H Q I hq => h.run pins s σ H Q I (c σ H Q hq)⟩
theorem cts_nil : PTs X [] (tB (kc X) tYesD) := PTs.to pts_nil fun σ H Q ⟨F, B, as, ρ, b, ρ', S, e, k⟩ => by
  cases e; exact k H F as .refl S
theorem cts_one {c : Expr} {g : FT} (h : PT X c (tB (kc X) g)) : PTs X [c] (tB (kc X) g) := pts_one h
theorem cw_lc {elt tg iter : Expr} {ifs : List Expr} {scope : Scope} {own : List (Str × Nat)} {pos : Pos} {ts : List Nat} {gi : FL} {h : FG} {tt : FT} {te : FD} (hc : X.calm = true) (hN : X.N.Nodup) (hi : PI X tg iter (tI (kc X) gi)) (ok : BlkOk X.N X.env.scope scope own) (hts : ∀ j, j ∈ ts → j ∈ own.map (·.2))
    (hg : ∀ (s : Shared) (H : Hp) (C : Addr) (cl : List (Str × Addr)) (fp : List Addr), PG (X.blk s H scope (compEnvC scope cl C X.env) fp) tg (tG (kc X) ts h)) (ht : ∀ (s : Shared) (H : Hp) (C : Addr) (cl : List (Str × Addr)) (fp : List Addr), PTs (X.blk s H scope (compEnvC scope cl C X.env) fp) ifs (tB (kc X) tt))
    (he : ∀ (s : Shared) (H : Hp) (C : Addr) (cl : List (Str × Addr)) (fp : List Addr), PE (X.blk s H scope (compEnvC scope cl C X.env) fp) elt (tD (kc X) te)) (hs : ∀ x, foldedSetIterable iter X.env x = pure x := by intro _; rfl) :
    PE X (.ListComp elt [⟨tg, iter, ifs, 0⟩] scope pos) (tW (kc X) (gComp (own.map (·.2)) gi h tt te)) :=
  PE.to (pe_lc hc hN hi ok hg ht he hs) fun σ H Q hq => comp_fit hts hq
theorem cs_setLc {i : Nat} {y : Str} {py : Pos} {elt tg iter : Expr} {ifs : List Expr} {scope : Scope} {own : List (Str × Nat)} {pos spos : Pos} {ts : List Nat} {gi : FL} {h : FG} {tt : FT} {te : FD} (hc : X.calm = true) (hN : X.N.Nodup) (hy : X.N[i]? = some y) (hyl : X.env.scope.names.lookup y = some .local)
    (hsw : swapsWith (.ListComp elt [⟨tg, iter, ifs, 0⟩] scope pos) (some (.Name y py)) spos.line X.env = pure true) (hi : PI X tg iter (tI (kc X) gi)) (ok : BlkOk X.N X.env.scope scope own) (hts : ∀ j, j ∈ ts → j ∈ own.map (·.2))
    (hg : ∀ (s : Shared) (H : Hp) (C : Addr) (cl : List (Str × Addr)) (fp : List Addr), PG (X.blk s H scope (compEnvC scope cl C X.env) fp) tg (tG (kc X) ts h)) (ht : ∀ (s : Shared) (H : Hp) (C : Addr) (cl : List (Str × Addr)) (fp : List Addr), PTs (X.blk s H scope (compEnvC scope cl C X.env) fp) ifs (tB (kc X) tt))
    (he : ∀ (s : Shared) (H : Hp) (C : Addr) (cl : List (Str × Addr)) (fp : List Addr), PE (X.blk s H scope (compEnvC scope cl C X.env) fp) elt (tD (kc X) te)) (hs : ∀ x, foldedSetIterable iter X.env x = pure x := by intro _; rfl) :
    PS X (.Assign [.Name y py] (.ListComp elt [⟨tg, iter, ifs, 0⟩] scope pos) spos) (tS (kc X) (gSet i (gComp (own.map (·.2)) gi h tt te))) :=
  PS.to (ps_setLc hc hN hy hyl hsw hi ok hg ht he hs) fun D σ H ⟨F, B, as, ρ, fl, ρ', S, e, k⟩ => by
    obtain ⟨d, w, ρ1, e1, e2, rfl⟩ := gSet_some e
    refine comp_fit hts ⟨F, B, as, ρ, d, w, ρ1, S, e1, fun v H1 F1 as1 bs E1 S1 => ?_⟩
    obtain ⟨as2, S2, m⟩ := S1.bind e2
    exact k _ H1 F1 as2 (E1.sub m) S2
end
end DV

/-! DV7: a def's body; stores into own lists and dicts. -/
namespace DV
open L2 PySem PySem.Spec PyProof.Rows

/-! ### a def -/
inductive BB : List Bool → List V → List Addr → Prop where
  | nil : BB [] [] []
  | t {bo vs as a} (h : BB bo vs as) : BB (true :: bo) (.ref a :: vs) (a :: as)
  | f {bo vs as v} (h : BB bo vs as) : BB (false :: bo) (v :: vs) as
theorem Own.ref {K : Kc} {F : Addr → Prop} {H : Hp} {d : D} {v : V} {as : List Addr} (h : Own K F H d v as) : ∃ a, v = .ref a := by
  cases d <;> unfold Own at h
  case lst => unfold OwnC at h; obtain ⟨a, _, e, _⟩ := h; exact ⟨a, e⟩
  case dic => unfold OwnC at h; obtain ⟨a, _, e, _⟩ := h; exact ⟨a, e⟩
  case ins => obtain ⟨a, _, _, _, _, e, _⟩ := h; exact ⟨a, e⟩
  all_goals (unfold OwnC at h; exact h.elim)
theorem ArgR.bb {K : Kc} {F : Addr → Prop} {H : Hp} : ∀ {bo : List Bool} {ds : List D} {vs : List V} {as : List Addr}, ArgR K F H bo ds vs as → ∃ B, BB bo vs B
  | [], [], vs, as, h => by unfold ArgR at h; obtain ⟨rfl, _⟩ := h; exact ⟨[], .nil⟩
  | true :: bo, d :: ds, vs, as, h => by
    unfold ArgR at h
    obtain ⟨v, r, a1, a2, rfl, _, ho, h⟩ := h
    obtain ⟨a, rfl⟩ := ho.ref
    obtain ⟨B, hB⟩ := ArgR.bb h
    exact ⟨_, .t hB⟩
  | false :: bo, d :: ds, vs, as, h => by
    unfold ArgR at h
    obtain ⟨v, r, rfl, _, h⟩ := h
    obtain ⟨B, hB⟩ := ArgR.bb h
    exact ⟨_, .f hB⟩
  | [], _ :: _, _, _, h => by unfold ArgR at h; exact h.elim
  | true :: _, [], _, _, h => by unfold ArgR at h; exact h.elim
  | false :: _, [], _, _, h => by unfold ArgR at h; exact h.elim
def env0 : List Bool → List D → Nat → Env
  | true :: bo, d :: ds, k => .bo k d :: env0 bo ds (k + 1)
  | false :: bo, d :: ds, k => .sh d :: env0 bo ds k
  | _, _, _ => []
def finB : List Bool → Nat → Env → Option (List D)
  | [], _, _ => some []
  | true :: bo, k, .bo k' d :: ρ => if k' = k then match finB bo (k + 1) ρ with
      | some ds => some (d :: ds)
      | none => none
    else none
  | false :: bo, k, _ :: ρ => finB bo k ρ
  | _, _, _ => none
theorem env_nos {K : Kc} {F : Addr → Prop} {B : List Addr} {H : Hp} : ∀ n : Nat, EnvR K F B H (List.replicate n .no) (List.replicate n none) []
  | 0 => by unfold EnvR; exact ⟨rfl, rfl⟩
  | n + 1 => by
    show EnvR K F B H (.no :: List.replicate n .no) (none :: List.replicate n none) []
    unfold EnvR
    exact ⟨none, _, [], [], rfl, rfl, by unfold SlR; rfl, env_nos n⟩
theorem env_start {K : Kc} {F : Addr → Prop} {B : List Addr} {H : Hp} {n : Nat} : ∀ {bo : List Bool} {ds : List D} {vs : List V} {as Bs : List Addr} {k : Nat}, ArgR K F H bo ds vs as → BB bo vs Bs → (∀ j a, Bs[j]? = some a → B[k + j]? = some a) →
    EnvR K F B H (env0 bo ds k ++ List.replicate n .no) (vs.map some ++ List.replicate n none) as
  | [], [], vs, as, Bs, k, h, hb, hB => by
    unfold ArgR at h
    obtain ⟨rfl, rfl⟩ := h
    simpa [env0] using env_nos n
  | true :: bo, d :: ds, vs, as, Bs, k, h, hb, hB => by
    unfold ArgR at h
    obtain ⟨v, r, a1, a2, rfl, rfl, ho, h⟩ := h
    cases hb with
    | t hb =>
      rename_i Br a
      show EnvR K F B H (.bo k d :: (env0 bo ds (k + 1) ++ List.replicate n .no)) (some (.ref a) :: (r.map some ++ List.replicate n none)) (a1 ++ a2)
      unfold EnvR
      refine ⟨_, _, a1, a2, rfl, rfl, ?_, env_start h hb fun j x hx => ?_⟩
      · unfold SlR
        exact ⟨a, rfl, by simpa using hB 0 a rfl, ho⟩
      · have := hB (j + 1) x (by simpa using hx)
        rwa [show k + 1 + j = k + (j + 1) by omega]
  | false :: bo, d :: ds, vs, as, Bs, k, h, hb, hB => by
    unfold ArgR at h
    obtain ⟨v, r, rfl, ho, h⟩ := h
    cases hb with
    | f hb =>
      show EnvR K F B H (.sh d :: (env0 bo ds k ++ List.replicate n .no)) (some v :: (r.map some ++ List.replicate n none)) as
      unfold EnvR
      exact ⟨_, _, [], as, rfl, rfl, by unfold SlR; exact ⟨rfl, v, rfl, ho⟩, env_start h hb hB⟩
  | [], _ :: _, _, _, _, _, h, _, _ => by unfold ArgR at h; exact h.elim
  | true :: _, [], _, _, _, _, h, _, _ => by unfold ArgR at h; exact h.elim
  | false :: _, [], _, _, _, _, h, _, _ => by unfold ArgR at h; exact h.elim
theorem env_fin {K : Kc} {F : Addr → Prop} {B : List Addr} {H : Hp} : ∀ {bo : List Bool} {ds : List D} {vs : List V} {as Bs : List Addr} {k : Nat} {ρ : Env} {σ : L2.St}, EnvR K F B H ρ σ as → BB bo vs Bs → (∀ j a, Bs[j]? = some a → B[k + j]? = some a) → finB bo k ρ = some ds →
    ∃ as', BorR K F H bo ds vs as' ∧ as'.Sublist as
  | [], ds, vs, as, Bs, k, ρ, σ, h, hb, hB, e => by
    unfold finB at e
    cases e
    cases hb
    exact ⟨[], by unfold BorR; exact ⟨rfl, rfl, rfl⟩, List.nil_sublist _⟩
  | true :: bo, ds, vs, as, Bs, k, ρ, σ, h, hb, hB, e => by
    cases ρ with
    | nil => simp [finB] at e
    | cons x ρ =>
      cases x with
      | bo k' d =>
        simp only [finB] at e
        split at e
        · rename_i hk
          subst hk
          split at e
          · rename_i ds' q
            cases e
            unfold EnvR at h
            obtain ⟨o, r, a1, a2, rfl, rfl, hs, h⟩ := h
            unfold SlR at hs
            obtain ⟨a, rfl, ha, ho⟩ := hs
            cases hb with
            | t hb =>
              rename_i vs' Br a'
              have := hB 0 a' rfl
              simp only [Nat.add_zero] at this
              rw [ha] at this
              cases this
              obtain ⟨as', h1, h2⟩ := env_fin h hb (fun j x hx => by
                have := hB (j + 1) x (by simpa using hx)
                rwa [show k' + 1 + j = k' + (j + 1) by omega]) q
              exact ⟨a1 ++ as', by unfold BorR; exact ⟨d, ds', .ref a, vs', a1, as', rfl, rfl, rfl, ho, h1⟩, List.Sublist.append (List.Sublist.refl _) h2⟩
          · cases e
        · cases e
      | _ => simp [finB] at e
  | false :: bo, ds, vs, as, Bs, k, ρ, σ, h, hb, hB, e => by
    cases ρ with
    | nil => simp [finB] at e
    | cons x ρ =>
      have e : finB bo k ρ = some ds := e
      unfold EnvR at h
      obtain ⟨o, r, a1, a2, rfl, rfl, hs, h⟩ := h
      cases hb with
      | f hb =>
        rename_i vs' v
        obtain ⟨as', h1, h2⟩ := env_fin h hb hB e
        exact ⟨as', by unfold BorR; exact ⟨v, vs', rfl, h1⟩, h2.trans (List.sublist_append_right _ _)⟩
/-- what a def with this body computes -/
def runG (bo : List Bool) (n : Nat) (g : FS) : FnD := fun ds => match g (env0 bo ds 0 ++ List.replicate (n - ds.length) .no) with
  | some (.rt d w, ρ) => match finB bo 0 ρ with
    | some ds' => some (d, w, ds')
    | none => none
  | some (.nx, ρ) => match finB bo 0 ρ with
    | some ds' => some (.non, false, ds')
    | none => none
  | _ => none
theorem ArgR.len {K : Kc} {F : Addr → Prop} {H : Hp} : ∀ {bo : List Bool} {ds : List D} {vs : List V} {as : List Addr}, ArgR K F H bo ds vs as → vs.length = ds.length
  | [], [], _, _, h => by unfold ArgR at h; rw [h.1] <;> rfl
  | true :: bo, d :: ds, _, _, h => by unfold ArgR at h; obtain ⟨v, r, a1, a2, rfl, _, _, h⟩ := h; simp [ArgR.len h]
  | false :: bo, d :: ds, _, _, h => by unfold ArgR at h; obtain ⟨v, r, rfl, _, h⟩ := h; simp [ArgR.len h]
  | [], _ :: _, _, _, h => by unfold ArgR at h; exact h.elim
  | true :: _, [], _, _, h => by unfold ArgR at h; exact h.elim
  | false :: _, [], _, _, h => by unfold ArgR at h; exact h.elim
theorem body_fit {K : Kc} {bo : List Bool} {n : Nat} {g : FS} {vs : List V} {H : Hp} {Q : VK} {E : XK} {N : List Str} (hn : N.length = n) (h : spD K bo (runG bo n g) vs H Q E) : tS K g { nx := fun _ H' => Q .non H', rt := Q } (start N vs) H := by
  obtain ⟨F, as, ds, d, w, ds', hA, nd, nf, fk, hg, k⟩ := h
  obtain ⟨Bs, hB⟩ := hA.bb
  have env := env_start (n := N.length - vs.length) (B := Bs) (k := 0) hA hB fun j a h => by simpa using h
  have lv := hA.len
  rw [← hn] at hg
  unfold runG at hg
  rw [← lv] at hg
  have S : Sit K F Bs H (env0 bo ds 0 ++ List.replicate (N.length - vs.length) .no) (start N vs) as := ⟨env, nd, nf, fk⟩
  have back : ∀ {F' : Addr → Prop} {as' bs : List Addr} {H' : Hp} {ρ : Env} {σ' : L2.St} {d : D} {w : Bool} {v : V} {ds' : List D}, finB bo 0 ρ = some ds' → Ext F as H F' (bs ++ as') H' → Sit2 K F' Bs H' ρ σ' as' d w v bs →
      (∀ v H' F' as' bs, Ext F as H F' (bs ++ as') H' → BorR K F' H' bo ds' vs as' → (bs ++ as').Nodup → (∀ a, a ∈ bs ++ as' → ¬ F' a) → (∀ b, F' b → H' b ≠ none) → (if w = true then Own K F' H' d v bs else bs = [] ∧ Rep K F' H' d v) → Q v H') → Q v H' :=
    fun {F' as' bs H' ρ σ' d w v ds'} e E S2 k => by
      obtain ⟨as2, h1, h2⟩ := env_fin S2.env hB (k := 0) (fun j a h => by simpa using h) e
      have sub : (bs ++ as2).Sublist (bs ++ as') := List.Sublist.append (List.Sublist.refl _) h2
      exact k v H' F' as2 bs (E.sub fun b m => sub.subset m) h1 (S2.nd.sublist sub) (fun a m => S2.nf a (sub.subset m)) S2.fk S2.res
  split at hg
  · rename_i d' w' ρ q
    split at hg
    · rename_i ds2 q2
      cases hg
      exact ⟨F, Bs, as, _, .rt d w, ρ, S, q, fun v σ' H' F' as' bs E S2 => back q2 E S2 k⟩
    · cases hg
  · rename_i ρ q
    split at hg
    · rename_i ds2 q2
      cases hg
      exact ⟨F, Bs, as, _, .nx, ρ, S, q, fun σ' H' F' as' E S2 => back (bs := []) (w := false) (v := .non) q2 E ⟨S2.env, S2.nd, S2.nf, S2.fk, by simp [Rep.non']⟩ k⟩
    · cases hg
  · cases hg
section
variable {P : Program} {w : World} {K : PySem.W.Frag} {mg : Str → Option Value} {base : Heap}
abbrev bodyX (P : Program) (w : World) (K : PySem.W.Frag) (mg : Str → Option Value) (base : Heap) (N : List Str) (qual : Str) (sc : Scope) (f : Addr) (cdv : Value) (A : Around) (outer : List PySem.Env) (s : Shared) (H : Hp) (E : XK) : Cx := (cxOf CX0 P w K mg base N qual sc f cdv A outer s H E).nox
theorem fn_ok {x qual : Str} {st : Stmt} {f : Addr} {fd : FuncData} {N ps : List Str} {k n : Nat} {bo : List Bool} {g : FS} (F : Fun K x qual st f fd) (S : FnScope N ps (defScope st)) (hb : bo.length = ps.length) (hn : N.length = n)
    (hbody : ∀ (cdv : Value) (A : Around) (outer : List PySem.Env) (s : Shared) (H : Hp) (E : XK), Room k (A.deeper (envOfC qual (defScope st) s.heap.objs.size f cdv)) → PSs (bodyX P w K mg base N qual (defScope st) f cdv A outer s H E) (defBody st) (tS ⟨K, mg⟩ g)) :
    FnOk P w K mg base CX0 (k + 1) f fd ps (spD ⟨K, mg⟩ bo (runG bo n g)) :=
  F.ok S (fun vs H Q E h => by obtain ⟨F, as, ds, d, w, ds', hA, _⟩ := h; rw [hA.length, hb]) fun cdv A outer s H vs Q E hr h => ⟨_, hbody cdv A outer s H E hr, body_fit hn h⟩
theorem fn_zero {f : Addr} {fd : FuncData} {ps : List Str} {bo : List Bool} {G : FnD} (hG : ∀ ds, G ds = none) : FnOk P w K mg base CX0 0 f fd ps (spD ⟨K, mg⟩ bo G) := by
  have no : ∀ vs H Q E, ¬ spD ⟨K, mg⟩ bo G vs H Q E := fun vs H Q E h => by
    obtain ⟨F, as, ds, d, w, ds', _, _, _, _, e, _⟩ := h
    rw [hG] at e; cases e
  exact ⟨fun vs H Q E h => absurd h (no vs H Q E), fun A outer s H args us vs Q E _ _ _ _ h => absurd h (no vs H Q E)⟩
end

/-! ### o[i] = e, o an own list or dict -/
def dputV (ks vs : List D) (k d : D) : List D := List.zipWith (fun k' v => if eqKey k' k = true then d else v) ks vs
def putD : D → D → D → Option D
  | .lst xs, .int i, d => match ixN xs.length i with
    | some j => some (.lst (xs.set j d))
    | none => none
  | .dic ks vs, k, d => if isKey k = true ∧ ks.length < SZ then
      (if (ks.any fun k' => eqKey k' k) = true then some (.dic ks (dputV ks vs k d)) else some (.dic (ks ++ [k]) (vs ++ [d]))) else none
  | _, _, _ => none
theorem any_key (key : Key) : ∀ kvs : List (Key × V), ((kvs.map fun p => dkey p.1).any fun k' => eqKey k' (dkey key)) = kvs.any fun kv => decide (kv.1 = key)
  | [] => rfl
  | p :: kvs => by
    simp only [List.map_cons, List.any_cons, any_key key kvs, eqKey_iff]
theorem dput_some {K : Kc} {F : Addr → Prop} {H : Hp} {d : D} {v : V} {key : Key} (r : Rep K F H d v) : ∀ {kvs : List (Key × V)} {ds : List D}, RepL K F H ds (kvs.map (·.2)) →
    RepL K F H (dputV (kvs.map fun p => dkey p.1) ds (dkey key) d) ((kvs.map fun kv => if kv.1 = key then (kv.1, v) else kv).map (·.2))
  | [], ds, h => by
    have : ds = [] := List.eq_nil_of_length_eq_zero (by have := h.length; simpa using this.symm)
    subst this
    exact RepL.nil
  | (k', v') :: kvs, [], h => by unfold RepL at h; simp at h
  | (k', v') :: kvs, d' :: ds, h => by
    unfold RepL at h
    obtain ⟨u, r', e, h1, h2⟩ := h
    simp only [List.map_cons, List.cons.injEq] at e
    obtain ⟨rfl, rfl⟩ := e
    have ih := dput_some r (key := key) h2
    unfold dputV at ih ⊢
    simp only [List.map_cons, List.zipWith_cons_cons, eqKey_iff, decide_eq_true_eq]
    refine RepL.cons ?_ ih
    by_cases e : k' = key
    · simp only [if_pos e]; exact r
    · simp only [if_neg e]; exact h1
theorem put_keys {key : Key} {v : V} : ∀ kvs : List (Key × V), (kvs.map fun kv => if kv.1 = key then (kv.1, v) else kv).map (fun p => dkey p.1) = kvs.map fun p => dkey p.1
  | [] => rfl
  | (k', v') :: kvs => by
    simp only [List.map_cons, put_keys kvs]
    by_cases e : k' = key <;> simp [e]
def rSetAll : V → V → V → Hp → (Hp → Prop) → Prop := fun o i v H Q => rSetL o i v H Q ∨ ∃ a H', o = .ref a ∧ DPut H a i v H' ∧ Q H'
theorem set_all {X : Cx} (hu : X.A.units + 1 < cLine) : PSet X rSetAll := by
  intro pins s σ H o i v ov iv u Q I ro ri rv h
  rcases h with h | ⟨a, H', e1, g, q⟩
  · exact set_list pins s σ H o i v ov iv u Q I ro ri rv h
  · subst e1
    cases ro
    exact d_setItem hu I g ri rv fun s' I' => ⟨H', I', q⟩
/-- a place of an own thing is written -/
theorem put_fit {K : Kc} {F : Addr → Prop} {H : Hp} {c k d c' : D} {vo vk vd : V} {a : List Addr} {Q : Hp → Prop} (ho : Own K F H c vo a) (rk : Rep K F H k vk) (rd : Rep K F H d vd) (e : putD c k d = some c')
    (fin : ∀ b o u, a = [b] → H b = some u → (∀ vs, u ≠ .tup vs) → (∀ q w, u ≠ .frz q w) → (Stb F H F (upd H b o) → Own K F (upd H b o) c' vo a) → Q (upd H b o)) : rSetAll vo vk vd H Q := by
  unfold putD at e
  split at e
  · split at e
    · rename_i xs i _ j q
      cases e
      unfold Own OwnC at ho
      obtain ⟨b, vs, rfl, h1, h2, rfl⟩ := ho
      unfold Rep at rk
      subst rk
      refine .inl ⟨b, vs, i, j, rfl, rfl, h1, by rw [h2.length]; exact q, fin b _ _ rfl h1 (fun _ z => by cases z) (fun _ _ z => by cases z) fun s => ?_⟩
      unfold Own OwnC
      exact ⟨b, _, rfl, upd_same, RepL.stb s.weak _ _ (RepL.set rd j h2), rfl⟩
    · cases e
  · split at e
    · rename_i hk
      obtain ⟨key, rfl⟩ := isKey_to hk.1
      unfold Own OwnC at ho
      obtain ⟨b, kvs, rfl, h1, rfl, h2, rfl⟩ := ho
      cases (Vw.key rk.vw)
      refine .inr ⟨b, _, rfl, DPut.k h1 (by have := hk.2; rw [List.length_map] at this; exact sz_lt (by omega)), fin b _ _ rfl h1 (fun _ z => by cases z) (fun _ _ z => by cases z) fun s => ?_⟩
      rw [any_key] at e
      unfold Own OwnC
      split at e
      · rename_i hh
        cases e
        refine ⟨b, _, rfl, upd_same, ?_, ?_, rfl⟩
        · unfold putK
          rw [if_pos hh, put_keys]
        · refine RepL.stb s.weak _ _ ?_
          unfold putK
          rw [if_pos hh]
          exact dput_some rd h2
      · rename_i hh
        cases e
        refine ⟨b, _, rfl, upd_same, ?_, ?_, rfl⟩
        · unfold putK
          rw [if_neg hh, List.map_append]
          rfl
        · refine RepL.stb s.weak _ _ ?_
          unfold putK
          rw [if_neg hh, List.map_append]
          exact h2.append (RepL.cons rd RepL.nil)
    · cases e
  · cases e
def gPut (i : Nat) (ge gk : FD) : FS := fun ρ => match ge ρ with
  | some (d, ρ1) => match look ρ1 i with
    | some _ => match gk ρ1 with
      | some (k, ρ2) => match ρ2[i]? with
        | some (.ow c) => match putD c k d with
          | some c' => some (.nx, ρ2.set i (.ow c'))
          | none => none
        | some (.bo n c) => match putD c k d with
          | some c' => some (.nx, ρ2.set i (.bo n c'))
          | none => none
        | _ => none
      | none => none
    | none => none
  | none => none
theorem gPut_some {i : Nat} {ge gk : FD} {ρ ρ' : Env} {fl : Fl} (h : gPut i ge gk ρ = some (fl, ρ')) : fl = .nx ∧ ∃ d ρ1 z k ρ2 x c c', ge ρ = some (d, ρ1) ∧ look ρ1 i = some z ∧ gk ρ1 = some (k, ρ2) ∧ ρ2[i]? = some x ∧ (x = .ow c ∨ ∃ n, x = .bo n c) ∧ putD c k d = some c' ∧ ρ' = ρ2.set i (reSl x c') := by
  unfold gPut at h
  split at h
  · rename_i d ρ1 q1
    split at h
    · rename_i z q2
      split at h
      · rename_i k ρ2 q3
        split at h
        · rename_i c q4
          split at h
          · rename_i c' q5; cases h; exact ⟨rfl, d, ρ1, z, k, ρ2, _, c, c', q1, q2, q3, q4, .inl rfl, q5, rfl⟩
          · cases h
        · rename_i n c q4
          split at h
          · rename_i c' q5; cases h; exact ⟨rfl, d, ρ1, z, k, ρ2, _, c, c', q1, q2, q3, q4, .inr ⟨n, rfl⟩, q5, rfl⟩
          · cases h
        · cases h
      · cases h
    · cases h
  · cases h
/-- an own thing of a name has changed in place -/
theorem Sit.write {K : Kc} {F : Addr → Prop} {B : List Addr} {H : Hp} {ρ : Env} {σ : L2.St} {as : List Addr} (S : Sit K F B H ρ σ as) {i : Nat} {x : Sl} {c c' : D} (hx : ρ[i]? = some x) (hk : x = .ow c ∨ ∃ n, x = .bo n c) {v : V} (hv : σ[i]? = some (some v)) :
    ∃ a, Own K F H c v a ∧ ∀ b o u, a = [b] → H b = some u → (∀ vs, u ≠ .tup vs) → (∀ q w, u ≠ .frz q w) → (Stb F H F (upd H b o) → Own K F (upd H b o) c' v a) → Ext F as H F as (upd H b o) ∧ Sit K F B (upd H b o) (ρ.set i (reSl x c')) σ as := by
  obtain ⟨o, p, a, q, ea, eo, hs, hr⟩ := S.env.split hx
  rw [hv] at eo
  cases eo
  subst ea
  have ow : Own K F H c v a := by
    rcases hk with rfl | ⟨n, rfl⟩
    · unfold SlR at hs; obtain ⟨v', e, r⟩ := hs; cases e; exact r
    · unfold SlR at hs; obtain ⟨v', e, _, r⟩ := hs; cases e; exact r
  refine ⟨a, ow, fun b o u ha hu h1 h2 fin => ?_⟩
  subst ha
  have hb : b ∈ p ++ ([b] ++ q) := by simp
  have E : Ext F (p ++ ([b] ++ q)) H F (p ++ ([b] ++ q)) (upd H b o) := Ext.write hu h1 h2 hb (S.nf b hb)
  obtain ⟨n1, n2⟩ := nodup_mid S.nd
  have sl : SlR K F B (upd H b o) (reSl x c') (some v) [b] := by
    rcases hk with rfl | ⟨n, rfl⟩
    · unfold reSl SlR; exact ⟨v, rfl, fin E.stb⟩
    · unfold SlR at hs
      obtain ⟨v', e, e2, r⟩ := hs
      cases e
      unfold reSl SlR
      exact ⟨v', rfl, e2, fin E.stb⟩
  have z := hr _ _ _ E.stb (fun y m u' hy => by rw [upd_ne (fun e => n2 y m (by rw [e]; simp))]; exact hy) sl
  rw [set_same hv] at z
  exact ⟨E, ⟨z, S.nd, S.nf, E.fk S.fk⟩⟩
section
variable {X : Cx} {pos pos' : Pos}
theorem cs_put {i : Nat} {x : Str} {p : Pos} {ix e : Expr} {ge gk : FD} (hu : X.A.units + 1 < cLine) (hN : X.N[i]? = some x) (hv : Vis X.env.scope x) (he : PE X e (tD (kc X) ge)) (hi : PE X ix (tD (kc X) gk)) (hd : (x == ("__debug__" : Str)) = false := by decide)
    (hcd : (x == ("__classdict__" : Str)) = false := by decide)
    (ha : ∀ v, assign (.Subscript (.Name x p) ix pos') X.env v = (do
      let ov ← holding [v] (eval (.Name x p) X.env)
      let iv ← holding [v, ov] (eval ix X.env)
      standAt pos'
      holding [v, ov, iv] (setItem ov iv v)
      release [v, ov, iv] []) := by intro _; rfl)
    (hs : swapsWithSole [.Subscript (.Name x p) ix pos'] e pos.line X.env = pure false := by rfl) (hw : swappedStores [.Subscript (.Name x p) ix pos'] e X.env = pure none := by rfl)
    (h1 : (assignEach [.Subscript (.Name x p) ix pos'] X.env).map (·.2) = [assign (.Subscript (.Name x p) ix pos') X.env] := by rfl) :
    PS X (.Assign [.Subscript (.Name x p) ix pos'] e pos) (tS (kc X) (gPut i ge gk)) :=
  PS.to (ps_asg he (pg_sub (pe_var hN hv hd hcd) hi (set_all hu) ha) hs hw h1) fun D σ H ⟨F, B, as, ρ, fl, ρ', S, e, k⟩ => by
    obtain ⟨rfl, d, ρ1, z, kd, ρ2, x, c, c', e1, e2, e3, e4, e5, e6, rfl⟩ := gPut_some e
    refine ⟨F, B, as, ρ, d, ρ1, S, e1, fun vd H1 F1 as1 E1 S1 r1 => ?_⟩
    obtain ⟨vo, ev⟩ := S1.there e2
    refine ⟨vo, ev, F1, B, as1, ρ1, kd, ρ2, S1, e3, fun vk H2 F2 as2 E2 S2 r2 => ?_⟩
    obtain ⟨a, ow, fin⟩ := S2.write (c' := c') e4 e5 ev
    refine put_fit ow r2 (Rep.stb E2.stb _ _ r1) e6 fun b o u ha hu h1 h2 f => ?_
    obtain ⟨E3, S3⟩ := fin b o u ha hu h1 h2 f
    exact k σ _ F2 as2 ((E1.trans E2).trans E3) S3
end
end DV

/-! DV8: the words for built-ins, the defs of a text, the end. -/
namespace DV
open L2 PySem PySem.Spec PyProof.Rows

/-! ### the built-ins' names are not taken -/
structure Zs (mg : Str → Option Value) : Prop where
  len : mg "len" = none
  isinstance : mg "isinstance" = none
  all : mg "all" = none
  any : mg "any" = none
  tuple : mg "tuple" = none
  list : mg "list" = none
  dict : mg "dict" = none
  int : mg "int" = none
  str : mg "str" = none
  bool : mg "bool" = none
  zip : mg "zip" = none
  range : mg "range" = none
  enumerate : mg "enumerate" = none
  sorted : mg "sorted" = none
  set : mg "set" = none
theorem boot_all' : bootBuiltins "all" = some (.builtin "all") := by decide +kernel
theorem boot_any' : bootBuiltins "any" = some (.builtin "any") := by decide +kernel
theorem boot_len' : bootBuiltins "len" = some (.builtin "len") := by decide +kernel
theorem boot_isi' : bootBuiltins "isinstance" = some (.builtin "isinstance") := by decide +kernel
theorem boot_tup' : bootBuiltins "tuple" = some (.type "tuple") := by decide +kernel
theorem boot_lst' : bootBuiltins "list" = some (.type "list") := by decide +kernel
theorem boot_int' : bootBuiltins "int" = some (.type "int") := by decide +kernel
theorem boot_str' : bootBuiltins "str" = some (.type "str") := by decide +kernel
theorem boot_bool' : bootBuiltins "bool" = some (.type "bool") := by decide +kernel
theorem boot_dict' : bootBuiltins "dict" = some (.type "dict") := by decide +kernel
theorem ru1 {k : Nat} {A : Around} (r : Room k A) : A.units + 1 < cLine := by have := r.un; omega
theorem ru64 {k : Nat} {A : Around} (r : Room k A) : A.units + 64 < cLine := by have := r.un; omega
theorem ru65 {k : Nat} {A : Around} (r : Room k A) : A.units + 65 < cLine := by have := r.un; omega
section
variable {X : Cx} {p pos : Pos} {a b : Expr} {oa ob : FO} {k : Nat}
theorem w_len (Z : Zs X.mg) (ha : PE X a (tO (kc X) oa)) (hg : Gl X "len" := by rfl) (he : starEach [a] X.env = (false, eval a X.env) :: starEach [] X.env := by rfl) : PE X (.Call (.Name "len" p) [a] [] pos) (tD (kc X) (gOp1 lenD oa)) := cd_call1 cr_len pc_len hg Z.len boot_len' ha (he := he)
theorem w_all (Z : Zs X.mg) (hc : X.calm = true) (ha : PE X a (tO (kc X) oa)) (hg : Gl X "all" := by rfl) (he : starEach [a] X.env = (false, eval a X.env) :: starEach [] X.env := by rfl) : PE X (.Call (.Name "all" p) [a] [] pos) (tD (kc X) (gOp1 allD oa)) := cd_call1 (cr_all hc) pc_all hg Z.all boot_all' ha (he := he)
theorem w_any (Z : Zs X.mg) (hc : X.calm = true) (ha : PE X a (tO (kc X) oa)) (hg : Gl X "any" := by rfl) (he : starEach [a] X.env = (false, eval a X.env) :: starEach [] X.env := by rfl) : PE X (.Call (.Name "any" p) [a] [] pos) (tD (kc X) (gOp1 anyD oa)) := cd_call1 (cr_any hc) pc_any hg Z.any boot_any' ha (he := he)
theorem w_tuple (Z : Zs X.mg) (ha : PE X a (tO (kc X) oa)) (hg : Gl X "tuple" := by rfl) (he : starEach [a] X.env = (false, eval a X.env) :: starEach [] X.env := by rfl) : PE X (.Call (.Name "tuple" p) [a] [] pos) (tD (kc X) (gOp1 tupD oa)) := cd_callT1 call_tuple_ofZ pc_tup hg Z.tuple boot_tup' ha (he := he)
theorem w_int (Z : Zs X.mg) (ha : PE X a (tO (kc X) oa)) (hg : Gl X "int" := by rfl) (he : starEach [a] X.env = (false, eval a X.env) :: starEach [] X.env := by rfl) : PE X (.Call (.Name "int" p) [a] [] pos) (tD (kc X) (gOp1 intD oa)) := cd_callT1 call_int1 pc_int hg Z.int boot_int' ha (he := he)
theorem w_list (Z : Zs X.mg) (ha : PE X a (tO (kc X) oa)) (hg : Gl X "list" := by rfl) (he : starEach [a] X.env = (false, eval a X.env) :: starEach [] X.env := by rfl) : PE X (.Call (.Name "list" p) [a] [] pos) (tW (kc X) (gOp1W lstD oa)) := cw_callT1 call_list_of pw_lst hg Z.list boot_lst' ha (he := he)
theorem w_isi (Z : Zs X.mg) (ha : PE X a (tO (kc X) oa)) (hb : PE X b (tO (kc X) ob)) (hg : Gl X "isinstance" := by rfl) (he : starEach [a, b] X.env = (false, eval a X.env) :: starEach [b] X.env := by rfl) (he2 : starEach [b] X.env = (false, eval b X.env) :: starEach [] X.env := by rfl)
    (hpl : (backTo pos (starEach [b] X.env)).any (·.1) = false := by rfl) : PE X (.Call (.Name "isinstance" p) [a, b] [] pos) (tD (kc X) (gOp2 isiD oa ob)) := cd_isi hg Z.isinstance boot_isi' ha hb he he2 hpl
theorem ty_tuple (Z : Zs X.mg) (hg : Gl X "tuple" := by rfl) : PE X (.Name "tuple" p) (tD (kc X) fun ρ => some (.ty "tuple", ρ)) := cd_type hg Z.tuple boot_tup'
theorem ty_list (Z : Zs X.mg) (hg : Gl X "list" := by rfl) : PE X (.Name "list" p) (tD (kc X) fun ρ => some (.ty "list", ρ)) := cd_type hg Z.list boot_lst'
theorem ty_int (Z : Zs X.mg) (hg : Gl X "int" := by rfl) : PE X (.Name "int" p) (tD (kc X) fun ρ => some (.ty "int", ρ)) := cd_type hg Z.int boot_int'
theorem ty_str (Z : Zs X.mg) (hg : Gl X "str" := by rfl) : PE X (.Name "str" p) (tD (kc X) fun ρ => some (.ty "str", ρ)) := cd_type hg Z.str boot_str'
theorem ty_bool (Z : Zs X.mg) (hg : Gl X "bool" := by rfl) : PE X (.Name "bool" p) (tD (kc X) fun ρ => some (.ty "bool", ρ)) := cd_type hg Z.bool boot_bool'
theorem ty_dict (Z : Zs X.mg) (hg : Gl X "dict" := by rfl) : PE X (.Name "dict" p) (tD (kc X) fun ρ => some (.ty "dict", ρ)) := cd_type hg Z.dict boot_dict'
theorem w_add (ha : PE X a (tO (kc X) oa)) (hb : PE X b (tO (kc X) ob)) : PE X (.BinOp a .Add b pos) (tD (kc X) (gOp2 addD oa ob)) := cd_bin or_addAll pr_addAll ha hb
theorem w_sub (ha : PE X a (tO (kc X) oa)) (hb : PE X b (tO (kc X) ob)) : PE X (.BinOp a .Sub b pos) (tD (kc X) (gOp2 subI oa ob)) := cd_bin op_sub pr_sub ha hb
theorem w_mul (ha : PE X a (tO (kc X) oa)) (hb : PE X b (tO (kc X) ob)) : PE X (.BinOp a .Mult b pos) (tD (kc X) (gOp2 mulI oa ob)) := cd_bin op_mul pr_mul ha hb
theorem w_div (ha : PE X a (tO (kc X) oa)) (hb : PE X b (tO (kc X) ob)) : PE X (.BinOp a .FloorDiv b pos) (tD (kc X) (gOp2 divI oa ob)) := cd_bin op_fdiv pr_div ha hb
theorem w_mod (ha : PE X a (tO (kc X) oa)) (hb : PE X b (tO (kc X) ob)) : PE X (.BinOp a .Mod b pos) (tD (kc X) (gOp2 modI oa ob)) := cd_bin op_mod pr_mod ha hb
theorem w_pow (ha : PE X a (tO (kc X) oa)) (hb : PE X b (tO (kc X) ob)) : PE X (.BinOp a .Pow b pos) (tD (kc X) (gOp2 powI oa ob)) := cd_bin op_pow pr_pow ha hb
/-! comparisons: op, its rule -/
structure Cp (X : Cx) (op : CmpOp) (f : D → D → Option D) : Prop where
  ex : ∃ r, OpR X (compareOp op) r ∧ PureR (kc X) r f
theorem c_lt : Cp X .Lt ltI := ⟨_, op_lt, pr_lt⟩
theorem c_le : Cp X .LtE leI := ⟨_, op_le, pr_le⟩
theorem c_gt : Cp X .Gt gtI := ⟨_, op_gt, pr_gt⟩
theorem c_ge : Cp X .GtE geI := ⟨_, op_ge, pr_ge⟩
theorem c_eq (hr : Room k X.A) : Cp X .Eq eqD := ⟨_, or_eq (ru64 hr), pr_eq⟩
theorem c_ne (hr : Room k X.A) : Cp X .NotEq neD := ⟨_, or_ne (ru64 hr), pr_ne⟩
theorem c_is : Cp X .Is isD := ⟨_, or_is, pr_is⟩
theorem c_isn : Cp X .IsNot isnD := ⟨_, or_isn, pr_isn⟩
theorem c_in (hr : Room k X.A) : Cp X .In inD := ⟨_, or_in (ru65 hr), pr_in⟩
theorem c_nin (hr : Room k X.A) : Cp X .NotIn ninD := ⟨_, or_nin (ru65 hr), pr_nin⟩
theorem w_cmp {op : CmpOp} {f : D → D → Option D} (c : Cp X op f) (ha : PE X a (tO (kc X) oa)) (hb : PE X b (tO (kc X) ob)) (hm : behindInMarks op b = false := by first | exact nomark _ | rfl) : PE X (.Compare a [op] [b] pos) (tD (kc X) (gOp2 f oa ob)) := by
  obtain ⟨r, h1, h2⟩ := c.ex
  exact cd_cmp h1 h2 ha hb hm
theorem t_cmp {op : CmpOp} {f : D → D → Option D} (c : Cp X op f) (ha : PE X a (tO (kc X) oa)) (hb : PE X b (tO (kc X) ob)) (hm : behindInMarks op b = false := by first | exact nomark _ | rfl) : PT X (.Compare a [op] [b] pos) (tB (kc X) (gT (gOp2 f oa ob))) := by
  obtain ⟨r, h1, h2⟩ := c.ex
  exact ct_cmp h1 h2 ha hb hm
/-- a < b < c -/
def gChain (f f' : D → D → Option D) (oa ob oc : FO) : FD := fun ρ => match oa ρ with
  | some (x, ρ1) => match ob ρ1 with
    | some (y, ρ2) => match res ρ2 x, res ρ2 y with
      | some dx, some dy => match f dx dy with
        | some (.bl true) => match oc ρ2 with
          | some (z, ρ3) => match res ρ3 y, res ρ3 z with
            | some dy', some dz => match f' dy' dz with
              | some d => some (d, ρ3)
              | none => none
            | _, _ => none
          | none => none
        | some (.bl false) => some (.bl false, ρ2)
        | _ => none
      | _, _ => none
    | none => none
  | none => none
theorem chain_fit {K : Kc} {r r' : R2} {f f' : D → D → Option D} {oa ob oc : FO} (hp : PureR K r f) (hp' : PureR K r' f') {σ : L2.St} {H : Hp} {Q : VK} (h : tD K (gChain f f' oa ob oc) σ H Q) : tChain r r' (tO K oa) (tO K ob) (tO K oc) σ H Q := by
  obtain ⟨F, B, as, ρ, d, ρ', S, e, k⟩ := h
  unfold gChain at e
  split at e
  · rename_i x ρ1 q1
    split at e
    · rename_i y ρ2 q2
      split at e
      · rename_i dx dy q3 q4
        refine seqOO S q1 q2 fun vx vy H2 F2 as2 E2 S2 rx ry => ?_
        split at e
        · rename_i q5
          refine hp F2 H2 dx dy _ vx vy _ S2.fk q5 (S2.res q3 rx) (S2.res q4 ry) fun v F3 H3 E3 r3 => ?_
          refine ⟨true, by unfold Rep at r3; exact r3, ?_⟩
          simp only [if_true]
          split at e
          · rename_i z ρ3 q6
            split at e
            · rename_i dy' dz q7 q8
              split at e
              · rename_i d' q9
                cases e
                refine ⟨F3, B, as2, ρ2, z, _, S2.step E3, q6, fun vz H4 F4 as4 E4 S4 rz => ?_⟩
                refine hp' F4 H4 dy' dz _ vy vz _ S4.fk q9 (S4.res q7 ((ry.stb E3.stb).stb E4.stb)) (S4.res q8 rz) fun v F5 H5 E5 r5 => ?_
                exact k v H5 F5 as4 (((E2.trans E3.pure).trans E4).trans E5.pure) (S4.step E5) r5
              · cases e
            · cases e
          · cases e
        · rename_i q5
          cases e
          refine hp F2 H2 dx dy _ vx vy _ S2.fk q5 (S2.res q3 rx) (S2.res q4 ry) fun v F3 H3 E3 r3 => ?_
          refine ⟨false, by unfold Rep at r3; exact r3, ?_⟩
          simp only [Bool.false_eq_true, if_false]
          exact k _ H3 F3 as2 (E2.trans E3.pure) (S2.step E3) Rep.bl'
        · cases e
      · cases e
    · cases e
  · cases e
theorem w_chain {op op' : CmpOp} {f f' : D → D → Option D} {c : Expr} {oc : FO} (h : Cp X op f) (h' : Cp X op' f') (ha : PE X a (tO (kc X) oa)) (hb : PE X b (tO (kc X) ob)) (hc : PE X c (tO (kc X) oc)) (hm : lastMarks [op, op'] [b, c] = false := by with_unfolding_all rfl) : PE X (.Compare a [op, op'] [b, c] pos) (tD (kc X) (gChain f f' oa ob oc)) := by
  obtain ⟨r, h1, h2⟩ := h.ex
  obtain ⟨r', h1', h2'⟩ := h'.ex
  exact PE.to (pe_chain h1 h1' ha hb hc hm) fun σ H Q q => chain_fit h2 h2' q
theorem t_chain {op op' : CmpOp} {f f' : D → D → Option D} {c : Expr} {oc : FO} (h : Cp X op f) (h' : Cp X op' f') (ha : PE X a (tO (kc X) oa)) (hb : PE X b (tO (kc X) ob)) (hc : PE X c (tO (kc X) oc)) (hm : lastMarks [op, op'] [b, c] = false := by with_unfolding_all rfl) : PT X (.Compare a [op, op'] [b, c] pos) (tB (kc X) (gT (gChain f f' oa ob oc))) := by
  obtain ⟨r, h1, h2⟩ := h.ex
  obtain ⟨r', h1', h2'⟩ := h'.ex
  exact PT.to (pt_chain h1 h1' ha hb hc hm) fun σ H Q q => chain_fit h2 h2' (tB_fit q)
theorem w_ix (hr : Room k X.A) (ha : PE X a (tO (kc X) oa)) (hb : PE X b (tO (kc X) ob)) (hs : PlainIx b := by exact fun _ _ => rfl) : PE X (.Subscript a b pos) (tD (kc X) (gOp2 ixD oa ob)) := cd_ix (ru1 hr) ha hb hs
/-- a list that is written -/
def gLst (g : FL) : FW := fun ρ => match g ρ with
  | some (ds, ρ') => if ds.length ≤ SZ then some (.lst ds, true, ρ') else none
  | none => none
theorem cw_lst {es : List Expr} {g : FL} (h : PA X es (tL (kc X) g)) : PE X (.List es pos) (tW (kc X) (gLst g)) := PE.to (pe_lst h) fun σ H Q ⟨F, B, as, ρ, d, w, ρ', S, e, k⟩ => by
  unfold gLst at e
  split at e
  · rename_i ds ρ2 q
    split at e
    · rename_i hz
      cases e
      refine ⟨F, B, as, ρ, ds, _, S, q, fun vs H' F' as' E S' r => ⟨sz_le (by rw [r.length]; exact hz), fun p hp => ?_⟩⟩
      obtain ⟨E2, S2⟩ := new_own hp S' (own_lst hp r)
      exact k _ _ F' as' [p] (E.trans E2) S2
    · cases e
  · cases e
/-- a negative number that is written -/
def gNeg (g : FD) : FD := fun ρ => match g ρ with
  | some (.int i, ρ1) => some (.int (-i), ρ1)
  | _ => none
theorem w_neg {g : FD} (ha : PE X a (tD (kc X) g)) : PE X (.UnaryOp .USub a pos) (tD (kc X) (gNeg g)) := PE.to (pe_un un_neg ha) fun σ H Q ⟨F, B, as, ρ, d, ρ', S, e, k⟩ => by
  unfold gNeg at e
  split at e
  · rename_i i ρ1 q
    cases e
    exact ⟨F, B, as, ρ, .int i, _, S, q, fun v H1 F1 as1 E1 S1 r => ⟨i, by unfold Rep at r; exact r, k _ H1 F1 as1 E1 S1 Rep.int'⟩⟩
  · cases e
end

/-! ### the defs of a text -/
structure FnA (P : Program) (w : World) (K : PySem.W.Frag) (mg : Str → Option Value) (base : Heap) (n : Nat) (x : Str) (bo : List Bool) (G : FnD) (dd : List D := []) : Prop where
  at_ : ∃ f fd ps ds dvs, mg x = some (.ref f) ∧ PySem.W.keepIn K (.ref f) = true ∧ Binds K fd ps ds ∧ Vals dvs ds ∧ (∀ F H, RepL ⟨K, mg⟩ F H dd dvs) ∧ FnOk P w K mg base CX0 n f fd ps (spD ⟨K, mg⟩ bo G)
theorem FnA.to {X : Cx} {n : Nat} {x : Str} {bo : List Bool} {G : FnD} {dd : List D} (h : FnA X.prog X.w X.K X.mg X.base n x bo G dd) : FnAt X n x bo G dd := ⟨h.at_⟩
structure DefF (K : PySem.W.Frag) (mg : Str → Option Value) (x : Str) (st : Stmt) (ps : List Str) : Prop where
  ex : ∃ f fd, mg x = some (.ref f) ∧ Fun K x x st f fd ∧ Binds K fd ps []
section
variable {P : Program} {w : World} {K : PySem.W.Frag} {mg : Str → Option Value} {base : Heap}
theorem DefF.zero {x : Str} {st : Stmt} {ps : List Str} {bo : List Bool} {G : FnD} (D : DefF K mg x st ps) (hG : ∀ ds, G ds = none) : FnA P w K mg base 0 x bo G := by
  obtain ⟨f, fd, hm, F, hb⟩ := D.ex
  exact ⟨f, fd, ps, [], [], hm, F.kp, hb, .nil, fun _ _ => RepL.nil, fn_zero hG⟩
theorem DefF.step {x : Str} {st : Stmt} {N ps : List Str} {n : Nat} {bo : List Bool} {g : FS} (D : DefF K mg x st ps) (S : FnScope N ps (defScope st)) (hb : bo.length = ps.length)
    (hbody : ∀ (f : Addr) (cdv : Value) (A : Around) (outer : List PySem.Env) (s : Shared) (H : Hp) (E : XK), Room n (A.deeper (envOfC x (defScope st) s.heap.objs.size f cdv)) → PSs (bodyX P w K mg base N x (defScope st) f cdv A outer s H E) (defBody st) (tS ⟨K, mg⟩ g)) :
    FnA P w K mg base (n + 1) x bo (runG bo N.length g) := by
  obtain ⟨f, fd, hm, F, hbi⟩ := D.ex
  exact ⟨f, fd, ps, [], [], hm, F.kp, hbi, .nil, fun _ _ => RepL.nil, fn_ok F S hb rfl fun cdv A outer s H E hr => hbody f cdv A outer s H E hr⟩
/-- a def with defaults: called with the first ones alone (dd the rest), or with all -/
structure DefD (K : PySem.W.Frag) (mg : Str → Option Value) (x : Str) (st : Stmt) (ps : List Str) (dd : List D) (dvs : List V) : Prop where
  ex : ∃ f fd ds, mg x = some (.ref f) ∧ FunD K x x (defArgs st) (defBody st) (defScope st) dvs [] f fd ∧ Binds K fd ps [] ∧ Binds K fd ps ds ∧ Vals dvs ds ∧ ∀ F H, RepL ⟨K, mg⟩ F H dd dvs
theorem fn_okD {x qual : Str} {st : Stmt} {f : Addr} {fd : FuncData} {N ps : List Str} {k n : Nat} {bo : List Bool} {g : FS} {dvs : List V} (F : FunD K x qual (defArgs st) (defBody st) (defScope st) dvs [] f fd) (S : FnScope N ps (defScope st)) (hb : bo.length = ps.length) (hn : N.length = n)
    (hbody : ∀ (cdv : Value) (A : Around) (outer : List PySem.Env) (s : Shared) (H : Hp) (E : XK), Room k (A.deeper (envOfC qual (defScope st) s.heap.objs.size f cdv)) → PSs (bodyX P w K mg base N qual (defScope st) f cdv A outer s H E) (defBody st) (tS ⟨K, mg⟩ g)) :
    FnOk P w K mg base CX0 (k + 1) f fd ps (spD ⟨K, mg⟩ bo (runG bo n g)) :=
  F.ok S (fun vs H Q E h => by obtain ⟨F, as, ds, d, w, ds', hA, _⟩ := h; rw [hA.length, hb]) fun cdv A outer s H vs Q E hr h => ⟨_, (hbody cdv A outer s H E hr).nox, body_fit hn h⟩
theorem DefD.zero {x : Str} {st : Stmt} {ps : List Str} {dd : List D} {dvs : List V} {bo : List Bool} {G : FnD} (D : DefD K mg x st ps dd dvs) (hG : ∀ ds, G ds = none) : FnA P w K mg base 0 x bo G ∧ FnA P w K mg base 0 x bo G dd := by
  obtain ⟨f, fd, ds, hm, F, hb, hb2, hv, hd⟩ := D.ex
  exact ⟨⟨f, fd, ps, [], [], hm, F.kp, hb, .nil, fun _ _ => RepL.nil, fn_zero hG⟩, ⟨f, fd, ps, ds, dvs, hm, F.kp, hb2, hv, hd, fn_zero hG⟩⟩
theorem DefD.step {x : Str} {st : Stmt} {N ps : List Str} {n : Nat} {bo : List Bool} {g : FS} {dd : List D} {dvs : List V} (D : DefD K mg x st ps dd dvs) (S : FnScope N ps (defScope st)) (hb : bo.length = ps.length)
    (hbody : ∀ (f : Addr) (cdv : Value) (A : Around) (outer : List PySem.Env) (s : Shared) (H : Hp) (E : XK), Room n (A.deeper (envOfC x (defScope st) s.heap.objs.size f cdv)) → PSs (bodyX P w K mg base N x (defScope st) f cdv A outer s H E) (defBody st) (tS ⟨K, mg⟩ g)) :
    FnA P w K mg base (n + 1) x bo (runG bo N.length g) ∧ FnA P w K mg base (n + 1) x bo (runG bo N.length g) dd := by
  obtain ⟨f, fd, ds, hm, F, hbi, hb2, hv, hd⟩ := D.ex
  have ok : FnOk P w K mg base CX0 (n + 1) f fd ps (spD ⟨K, mg⟩ bo (runG bo N.length g)) := fn_okD F S hb rfl fun cdv A outer s H E hr => hbody f cdv A outer s H E hr
  exact ⟨⟨f, fd, ps, [], [], hm, F.kp, hbi, .nil, fun _ _ => RepL.nil, ok⟩, ⟨f, fd, ps, ds, dvs, hm, F.kp, hb2, hv, hd, ok⟩⟩
theorem defF_mk {h : Heap} {x : Str} {st : Stmt} {ps : List Str} (X : K.In h) (G : h.Ns mainGlobals mg) {f : Addr} {od an : Option Addr} {sl : Array (Option Value)} {oc kV dc pm cd ct : Value}
    (hb : ∀ (kV doc pm : Value) (an : Option Addr) (cdv ct : Value) (us : List Value), us.length = ps.length → bindArgs (PySem.W.fnOf x x (defArgs st) (defBody st) (defScope st) .none kV doc pm an cdv ct) ⟨us, []⟩ = pure (ps.zip us))
    (a : PySem.W.nsIn K mainGlobals x = some (some (.ref f))) (l : K.lookup f = some ⟨oc, od, .func (PySem.W.fnOf x x (defArgs st) (defBody st) (defScope st) .none kV dc pm an cd ct), sl⟩) (c : PySem.W.codeIn K cd x = true) (k : PySem.W.keepIn K (.ref f) = true) : DefF K mg x st ps :=
  ⟨f, _, PySem.W.mg_of X G a, fun_mk l c k, (fun_mk l c k).binds hb⟩
theorem defD_mk {h : Heap} {x : Str} {st : Stmt} {ps : List Str} {dd : List D} {dvs : List V} (X : K.In h) (G : h.Ns mainGlobals mg) {f T : Addr} {od an : Option Addr} {sl : Array (Option Value)} {oc kV dc pm cd ct : Value} {o : Obj} {its : List Value} {m : Nat}
    (hb : ∀ (T : Addr) (kV doc pm : Value) (an : Option Addr) (cdv ct : Value) (us its : List Value), us.length = ps.length → its.length = dvs.length →
      ∃ k, bindArgs (PySem.W.fnOf x x (defArgs st) (defBody st) (defScope st) (.ref T) kV doc pm an cdv ct) ⟨us, []⟩ = seqItems? (.ref T) >>= k ∧ k (some its.toArray) = pure (ps.zip (us ++ its.drop dvs.length)))
    (hb2 : ∀ (T : Addr) (kV doc pm : Value) (an : Option Addr) (cdv ct : Value) (us its : List Value), us.length = ps.length - dvs.length → its.length = dvs.length →
      ∃ k, bindArgs (PySem.W.fnOf x x (defArgs st) (defBody st) (defScope st) (.ref T) kV doc pm an cdv ct) ⟨us, []⟩ = seqItems? (.ref T) >>= k ∧ k (some its.toArray) = pure (ps.zip (us ++ its.drop 0)))
    (hne : dvs ≠ []) (hle : dvs.length ≤ ps.length) (hd : ∀ F H, RepL ⟨K, mg⟩ F H dd dvs)
    (a : PySem.W.nsIn K mainGlobals x = some (some (.ref f))) (l : K.lookup f = some ⟨oc, od, .func (PySem.W.fnOf x x (defArgs st) (defBody st) (defScope st) (.ref T) kV dc pm an cd ct), sl⟩) (c : PySem.W.codeIn K cd x = true) (k : PySem.W.keepIn K (.ref f) = true)
    (lT : K.lookup T = some o) (oT : o.data = .seq its.toArray m) (rT : Vals dvs its) : DefD K mg x st ps dd dvs := by
  have F : FunD K x x (defArgs st) (defBody st) (defScope st) dvs [] f (PySem.W.fnOf x x (defArgs st) (defBody st) (defScope st) (.ref T) kV dc pm an cd ct) :=
    ⟨⟨oc, od, _, kV, dc, pm, an, cd, ct, sl, rfl, l, c, .inr ⟨hne, T, o, its, m, rfl, lT, oT, rT⟩, .inl rfl⟩, k⟩
  obtain ⟨ds0, v0, b0⟩ := F.binds1 ps.length dvs.length hne (by omega) hb
  obtain ⟨ds1, v1, b1⟩ := F.binds1 (ps.length - dvs.length) 0 hne (by omega) hb2
  rw [List.drop_length] at v0
  cases v0
  rw [List.drop_zero] at v1
  exact ⟨f, _, ds1, PySem.W.mg_of X G a, F, b0, b1, v1, hd⟩
/-- a tuple of the module whose items are flat -/
theorem glob_tup {h : Heap} {x : Str} {a : Addr} {o : Obj} {its : Array Value} {n : Nat} {ds : List D} {vs : List V} (X : K.In h) (G : h.Ns mainGlobals mg) (e : PySem.W.nsIn K mainGlobals x = some (some (.ref a))) (l : K.lookup a = some o) (hc : o.cls = .type "tuple") (hdd : o.dict = none) (hd : o.data = .seq its n)
    (hs : its.size ≤ sizeLine) (hv : Vals vs its.toList) (r : ∀ F H, RepL ⟨K, mg⟩ F H ds vs) : ∃ u v, mg x = some u ∧ RelV v u ∧ ∀ F H, Rep ⟨K, mg⟩ F H (.tup ds) v :=
  ⟨.ref a, .ref a, PySem.W.mg_of X G e, rfl, fun F H => Rep.tup' (.inr ⟨o, its, n, l, hc, hdd, hd, hs, hv⟩) (r F H)⟩
/-! ### the end: the law's call -/
def spLaw : Sp := fun vs H Q _ => ∃ (a : Addr) (ns : List Int), vs = [.ref a] ∧ ((∃ o, H a = some (.frz o (.lst (ns.map V.int)))) ∨ ∀ H', SqL K H' a (ns.map V.int)) ∧ ns.length ≤ 63 ∧ (∀ z ∈ ns, Builtin.Int.intBits z ≤ 1048576) ∧ ∀ H', Q (.bl true) H'
theorem law_imp {G : FnD} (hG : ∀ ns : List Int, ns.length ≤ 63 → (∀ z ∈ ns, Builtin.Int.intBits z ≤ 1048576) → ∃ ds', G [.scr ns] = some (.bl true, false, ds')) : ∀ vs H Q E, spLaw (K := K) vs H Q E → spD ⟨K, mg⟩ [false] G vs H Q E := fun vs H Q E h => by
  obtain ⟨a, ns, rfl, hs, h63, hb, q⟩ := h
  obtain ⟨ds', e⟩ := hG ns h63 hb
  refine ⟨fun _ => False, [], [.scr ns], .bl true, false, ds', ?_, List.nodup_nil, fun a m => (List.not_mem_nil m).elim, fun b (h : False) => h.elim, e, fun v H' F' as' bs E hB nd nf fk r => ?_⟩
  · unfold ArgR
    refine ⟨_, [], rfl, ?_, ?_⟩
    · unfold Rep; exact ⟨a, rfl, hs⟩
    · unfold ArgR; exact ⟨rfl, rfl⟩
  · simp only [Bool.false_eq_true, if_false] at r
    have r := r.2
    unfold Rep at r
    subst r
    exact q H'
end
theorem law_end {l : PySem.W.OpenLaw} {q : Program} {loose : List Str} {XP : (Str → Option Value) → Heap → Prop} {YP : World → Heap → Prop} {d : DefRec} {K : Params → PySem.W.Frag} {n : Nat} {G : FnD} (hn : l.most = some 63) (hdf : d.params.defaults = []) (hr : Room n callerA)
    (hY : ∀ (w : World) (h : Heap), YP w h → (K w.params).In h)
    (hG : ∀ ns : List Int, ns.length ≤ 63 → (∀ z ∈ ns, Builtin.Int.intBits z ≤ 1048576) → ∃ ds', G [.scr ns] = some (.bl true, false, ds'))
    (F : ∀ (w : World) (mg : Str → Option Value) (fa : Addr) (h : Heap), (K w.params).In h → h.Ns mainGlobals mg → mg d.name = some (.ref fa) →
      ∃ fd : FuncData, (∀ (s : Shared) (u : Value), BindsTo s fd ⟨[u], []⟩ [("script", u)]) ∧ ∀ base : Heap, (K w.params).In base → base.Ns mainGlobals mg → FnOk l.prog w (K w.params) mg base CX0 n fa fd ["script"] (spD ⟨K w.params, mg⟩ [false] G)) :
    PySem.W.WalkO q loose XP YP l.row.toRowW d [] (fun f vs => PySem.call f vs) :=
  L2.walk_ofB (n := 63) (k := n) (x := "script") (CX := fun _ => CX0) (sp := fun w => spLaw (K := K w.params)) hn (by decide) hdf hr hY
    (fun w mg fa h k g m => by
      obtain ⟨fd, h1, h2⟩ := F w mg fa h k g m
      exact ⟨fd, h1, fun base kb gb => (h2 base kb gb).imp (law_imp hG)⟩)
    (fun w H a ns hl hb ho hS => by
      refine ⟨a, ns, rfl, ?_, hl, hb, fun _ => rfl⟩
      rcases hS with (hS | hS) | hS
      · rcases ho a with z | ⟨o, xs, z⟩
        · rw [hS] at z; cases z
        · rw [hS] at z; cases z
      · exact .inl hS
      · exact .inr fun H' => .inr hS)
    fun _ _ _ _ _ z => z
end DV

/-! DV9: short names, a, b = x, y. -/
namespace DV
open L2 PySem PySem.Spec PyProof.Rows

abbrev oNm (i : Nat) : FO := fun ρ => (look ρ i).map fun _ => (.at i, ρ)
abbrev oD (g : FD) : FO := fun ρ => (g ρ).map fun p => (.va p.1, p.2)
abbrev wD (g : FD) : FW := fun ρ => (g ρ).map fun p => (p.1, false, p.2)

/-- target = value -/
def gAsg (g : FD) (h : FG) : FS := fun ρ => match g ρ with
  | some (d, ρ1) => match h d ρ1 with
    | some ρ2 => some (.nx, ρ2)
    | none => none
  | none => none
/-- a, b = x, y -/
def gPar (i j : Nat) (ga gb : FW) : FS := fun ρ => match ga ρ with
  | some (d, w, ρ1) => match gb ρ1 with
    | some (d', w', ρ2) => match bind1 i d w ρ2 with
      | some ρ3 => match bind1 j d' w' ρ3 with
        | some ρ4 => some (.nx, ρ4)
        | none => none
      | none => none
    | none => none
  | none => none
section
variable {X : Cx} {pos : Pos}
theorem cs_asg {tg e : Expr} {ts : List Nat} {g : FD} {h : FG} (he : PE X e (tD (kc X) g)) (hg : PG X tg (tG (kc X) ts h)) (hs : swapsWithSole [tg] e pos.line X.env = pure false := by rfl) (hw : swappedStores [tg] e X.env = pure none := by rfl)
    (h1 : (assignEach [tg] X.env).map (·.2) = [assign tg X.env] := by rfl) : PS X (.Assign [tg] e pos) (tS (kc X) (gAsg g h)) :=
  PS.to (ps_asg he hg hs hw h1) fun D σ H ⟨F, B, as, ρ, fl, ρ', S, e, k⟩ => by
    unfold gAsg at e
    split at e
    · rename_i d ρ1 q
      split at e
      · rename_i ρ2 q2
        cases e
        exact ⟨F, B, as, ρ, d, ρ1, S, q, fun v H1 F1 as1 E1 S1 r1 => ⟨F1, B, as1, ρ1, d, _, S1, r1, q2, fun σ' H2 F2 as2 _ _ E2 S2 => k σ' H2 F2 as2 (E1.trans E2) S2⟩⟩
      · cases e
    · cases e
theorem Sit2.own {K : Kc} {F F2 : Addr → Prop} {B : List Addr} {H H2 : Hp} {ρ : Env} {σ : L2.St} {as : List Addr} {d : D} {w : Bool} {v : V} {bs : List Addr} (S : Sit2 K F B H ρ σ as d w v bs) (s : Stb F H F2 H2) (k : Kept bs H H2) :
    if w = true then Own K F2 H2 d v bs else bs = [] ∧ Rep K F2 H2 d v := by
  have r := S.res
  cases w with
  | true => simp only [if_true] at r ⊢; exact r.stb s k
  | false => simp only [Bool.false_eq_true, if_false] at r ⊢; exact ⟨r.1, Rep.stb s _ _ r.2⟩
theorem Sit2.thereB {K : Kc} {F : Addr → Prop} {B : List Addr} {H : Hp} {ρ : Env} {σ : L2.St} {as : List Addr} {d : D} {w : Bool} {v : V} {bs : List Addr} (S : Sit2 K F B H ρ σ as d w v bs) : ∀ b, b ∈ bs → ∃ u, H b = some u := by
  have r := S.res
  cases w with
  | true => simp only [if_true] at r; exact r.there
  | false => simp only [Bool.false_eq_true, if_false] at r; rw [r.1]; intro b m; cases m
theorem cs_par {i j : Nat} {x y : Str} {a b : Expr} {ga gb : FW} {px py pt : Pos} {kt k2 pt2} (hc : X.calm = true) (hN : X.N.Nodup) (hi : X.N[i]? = some x) (hj : X.N[j]? = some y) (hij : i ≠ j)
    (hx : X.env.scope.names.lookup x = some .local) (hy : X.env.scope.names.lookup y = some .local) (ha : PE X a (tW (kc X) ga)) (hb : PE X b (tW (kc X) gb))
    (hw : swappedStores [.Tuple [.Name x px, .Name y py] kt pt] (.Tuple [a, b] k2 pt2) X.env = pure (some [x, y]))
    (hs : swapsWithSole [.Tuple [.Name x px, .Name y py] kt pt] (.Tuple [a, b] k2 pt2) pos.line X.env = pure false := by rfl)
    (h1 : starEach [a, b] X.env = (false, eval a X.env) :: starEach [b] X.env := by rfl) (h2 : starEach [b] X.env = (false, eval b X.env) :: starEach [] X.env := by rfl) :
    PS X (.Assign [.Tuple [.Name x px, .Name y py] kt pt] (.Tuple [a, b] k2 pt2) pos) (tS (kc X) (gPar i j ga gb)) :=
  PS.to (ps_par hc hN hi hj hij hx hy (pa_cons ha (pa_cons hb pa_nil h2) h1) hw hs) fun D σ H ⟨F, B, as, ρ, fl, ρ', S, e, k⟩ => by
    unfold gPar at e
    split at e
    · rename_i d w ρ1 q1
      split at e
      · rename_i d' w' ρ2 q2
        split at e
        · rename_i ρ3 q3
          split at e
          · rename_i ρ4 q4
            cases e
            refine ⟨F, B, as, ρ, d, w, ρ1, S, q1, fun v H1 F1 as1 bs E1 S1 => ?_⟩
            have nn := List.nodup_append.mp S1.nd
            refine ⟨F1, B, as1, ρ1, d', w', ρ2, S1.drop, q2, fun v' H2 F2 as2 bs2 E2 S2 => ⟨v, v', rfl, ?_⟩⟩
            have kp : Kept bs H1 H2 := E2.kept fun b m z => nn.2.2 b m b z rfl
            have own := S1.own E2.stb kp
            have far : ∀ b, b ∈ bs → b ∉ bs2 ++ as2 := fun b m z => by
              rcases E2.anew b z with z | z
              · exact nn.2.2 b m b z rfl
              · obtain ⟨u, hu⟩ := S1.thereB b m
                rw [hu] at z; cases z
            have nfb : ∀ b, b ∈ bs → ¬ F2 b := fun b m f => by
              rcases E2.fnew b f with z | z | z
              · exact S1.nf b (List.mem_append_left _ m) z
              · exact nn.2.2 b m b z rfl
              · obtain ⟨u, hu⟩ := S1.thereB b m
                rw [hu] at z; cases z
            have n2 := List.nodup_append.mp S2.nd
            have T : Sit2 (kc X) F2 B H2 ρ2 σ as2 d w v bs := ⟨S2.env, List.nodup_append.mpr ⟨nn.1, n2.2.1, fun x hx y hy e => far x hx (e ▸ List.mem_append_right _ hy)⟩, fun b m => (List.mem_append.mp m).elim (nfb b) fun m => S2.nf b (List.mem_append_right _ m), S2.fk, own⟩
            obtain ⟨as3, S3, m3⟩ := T.bind q3
            have T2 : Sit2 (kc X) F2 B H2 ρ3 (σ.set i (some v)) as3 d' w' v' bs2 := by
              refine ⟨S3.env, List.nodup_append.mpr ⟨n2.1, S3.nd, fun x hx y hy e => ?_⟩, fun b m => (List.mem_append.mp m).elim (fun m => S2.nf b (List.mem_append_left _ m)) fun m => S3.nf b m, S3.fk, S2.res⟩
              subst e
              rcases List.mem_append.mp (m3 x hy) with z | z
              · exact far x z (List.mem_append_left _ hx)
              · exact n2.2.2 x hx x z rfl
            obtain ⟨as4, S4, m4⟩ := T2.bind q4
            have E2' : Ext F1 (bs ++ as1) H1 F2 (bs ++ (bs2 ++ as2)) H2 := E2.frameL
            refine k _ H2 F2 as4 ((E1.trans E2').sub fun b m => ?_) S4
            rcases List.mem_append.mp (m4 b m) with z | z
            · simp [z]
            · rcases List.mem_append.mp (m3 b z) with z | z <;> simp [z]
          · cases e
        · cases e
      · cases e
    · cases e
end
end DV

/-! DV10: the rows by which a run is computed. -/
namespace DV
open L2 PySem PySem.Spec PyProof.Rows

theorem strOf_inj (a b : String) : (Str.ofString a = Str.ofString b) = (a = b) := by
  rw [eq_iff_iff]
  refine ⟨fun h => ?_, fun h => by rw [h]⟩
  rw [Str.ofString_eq_toList, Str.ofString_eq_toList] at h
  have h2 : (a.toList.map Char.toNat) = b.toList.map Char.toNat := by
    have := congrArg (fun s : Str => s.cps.toList) h
    simpa using this
  have inj : ∀ x y : List Char, x.map Char.toNat = y.map Char.toNat → x = y := by
    intro x
    induction x with
    | nil => intro y h; cases y with
      | nil => rfl
      | cons c y => simp at h
    | cons c x ih => intro y h; cases y with
      | nil => simp at h
      | cons d y =>
        simp only [List.map_cons, List.cons.injEq] at h
        rw [ih y h.2, show c = d from Char.ext (UInt32.toNat_inj.mp h.1)]
  exact String.toList_inj.mp (inj _ _ h2)
theorem strOf_beq (a b : String) : (Str.ofString a == Str.ofString b) = (a == b) := by
  rw [Bool.eq_iff_iff, beq_iff_eq, beq_iff_eq, strOf_inj]

section
variable {ρ ρ1 : Env}
def kSeq (b : FS) : Fl × Env → Option (Fl × Env)
  | (.nx, ρ1) => b ρ1
  | (.br, ρ1) => some (.br, ρ1)
  | (.ct, ρ1) => some (.ct, ρ1)
  | (.rt d w, ρ1) => some (.rt d w, ρ1)
@[simp] theorem at_seq {a b : FS} : gSeq a b ρ = (a ρ).bind (kSeq b) := by
  unfold gSeq; rcases a ρ with _ | ⟨_ | _ | _ | _, _⟩ <;> rfl
@[simp] theorem kSeq_nx {b : FS} : kSeq b (.nx, ρ1) = b ρ1 := rfl
@[simp] theorem kSeq_br {b : FS} : kSeq b (.br, ρ1) = some (.br, ρ1) := rfl
@[simp] theorem kSeq_ct {b : FS} : kSeq b (.ct, ρ1) = some (.ct, ρ1) := rfl
@[simp] theorem kSeq_rt {b : FS} {d w} : kSeq b (.rt d w, ρ1) = some (.rt d w, ρ1) := rfl
def kIfS (a b : FS) : Bool × Env → Option (Fl × Env)
  | (true, ρ1) => a ρ1
  | (false, ρ1) => b ρ1
@[simp] theorem at_gIfS {t : FT} {a b : FS} : gIfS t a b ρ = (t ρ).bind (kIfS a b) := by
  unfold gIfS; rcases t ρ with _ | ⟨_ | _, _⟩ <;> rfl
@[simp] theorem kIfS_t {a b : FS} : kIfS a b (true, ρ1) = a ρ1 := rfl
@[simp] theorem kIfS_f {a b : FS} : kIfS a b (false, ρ1) = b ρ1 := rfl
def kIf (a b : FD) : Bool × Env → Option (D × Env)
  | (true, ρ1) => a ρ1
  | (false, ρ1) => b ρ1
@[simp] theorem at_gIf {t : FT} {a b : FD} : gIf t a b ρ = (t ρ).bind (kIf a b) := by
  unfold gIf; rcases t ρ with _ | ⟨_ | _, _⟩ <;> rfl
@[simp] theorem kIf_t {a b : FD} : kIf a b (true, ρ1) = a ρ1 := rfl
@[simp] theorem kIf_f {a b : FD} : kIf a b (false, ρ1) = b ρ1 := rfl
def kIfW (a b : FW) : Bool × Env → Option (D × Bool × Env)
  | (true, ρ1) => a ρ1
  | (false, ρ1) => b ρ1
@[simp] theorem at_gIfW {t : FT} {a b : FW} : gIfW t a b ρ = (t ρ).bind (kIfW a b) := by
  unfold gIfW; rcases t ρ with _ | ⟨_ | _, _⟩ <;> rfl
@[simp] theorem kIfW_t {a b : FW} : kIfW a b (true, ρ1) = a ρ1 := rfl
@[simp] theorem kIfW_f {a b : FW} : kIfW a b (false, ρ1) = b ρ1 := rfl
@[simp] theorem at_skip : gSkip ρ = some (.nx, ρ) := rfl
def kRet : D × Bool × Env → Fl × Env := fun p => (.rt p.1 p.2.1, p.2.2)
@[simp] theorem at_ret {g : FW} : gRet g ρ = (g ρ).map kRet := by
  unfold gRet; rcases g ρ with _ | ⟨_, _, _⟩ <;> rfl
@[simp] theorem kRet_at {d w} : kRet (d, w, ρ1) = (.rt d w, ρ1) := rfl
def kDrop : D × Bool × Env → Fl × Env := fun p => (.nx, p.2.2)
@[simp] theorem at_drop {g : FW} : gDrop g ρ = (g ρ).map kDrop := by
  unfold gDrop; rcases g ρ with _ | ⟨_, _, _⟩ <;> rfl
@[simp] theorem kDrop_at {d w} : kDrop (d, w, ρ1) = (.nx, ρ1) := rfl
def kNx : Env → Fl × Env := fun ρ => (.nx, ρ)
@[simp] theorem kNx_at : kNx ρ = (.nx, ρ) := rfl
def kSet (i : Nat) : D × Bool × Env → Option (Fl × Env) := fun p => (bind1 i p.1 p.2.1 p.2.2).map kNx
@[simp] theorem at_set {i : Nat} {g : FW} : gSet i g ρ = (g ρ).bind (kSet i) := by
  unfold gSet
  rcases g ρ with _ | ⟨d, w, ρ1⟩
  · rfl
  · show _ = (bind1 i d w ρ1).map kNx
    dsimp only
    rcases bind1 i d w ρ1 with _ | _ <;> rfl
@[simp] theorem kSet_at {i d w} : kSet i (d, w, ρ1) = (bind1 i d w ρ1).map kNx := rfl
def kB (i : Nat) (d : D) (w : Bool) (ρ : Env) : Option Sl → Option Env
  | some (.bo _ _) => none
  | some .no => some (ρ.set i (if w = true then .ow d else .sh d))
  | some (.sh _) => some (ρ.set i (if w = true then .ow d else .sh d))
  | some (.ow _) => some (ρ.set i (if w = true then .ow d else .sh d))
  | none => none
@[simp] theorem at_bind1 {i d w} : bind1 i d w ρ = kB i d w ρ ρ[i]? := by
  unfold bind1; rcases ρ[i]? with _ | _ | _ | _ | _ <;> rfl
@[simp] theorem kB_no {i d w} : kB i d w ρ (some .no) = some (ρ.set i (if w = true then .ow d else .sh d)) := rfl
@[simp] theorem kB_sh {i d w e} : kB i d w ρ (some (.sh e)) = some (ρ.set i (if w = true then .ow d else .sh d)) := rfl
@[simp] theorem kB_ow {i d w e} : kB i d w ρ (some (.ow e)) = some (ρ.set i (if w = true then .ow d else .sh d)) := rfl
def kLook : Option Sl → Option D
  | some (.sh d) => some d
  | some (.ow d) => some d
  | some (.bo _ d) => some d
  | some .no => none
  | none => none
@[simp] theorem at_look {i} : look ρ i = kLook ρ[i]? := by
  unfold look; rcases ρ[i]? with _ | _ | _ | _ | _ <;> rfl
@[simp] theorem kLook_sh {d} : kLook (some (.sh d)) = some d := rfl
@[simp] theorem kLook_ow {d} : kLook (some (.ow d)) = some d := rfl
@[simp] theorem kLook_bo {k d} : kLook (some (.bo k d)) = some d := rfl
@[simp] theorem res_va {d} : res ρ (.va d) = some d := rfl
@[simp] theorem res_at {i} : res ρ (.at i) = look ρ i := rfl
def kAt (i : Nat) (ρ : Env) : D → Opd × Env := fun _ => (.at i, ρ)
@[simp] theorem kAt_at {i d} : kAt i ρ d = (.at i, ρ) := rfl
@[simp] theorem at_oNm {i : Nat} : oNm i ρ = (look ρ i).map (kAt i ρ) := rfl
def kVa : D × Env → Opd × Env := fun p => (.va p.1, p.2)
@[simp] theorem kVa_at {d} : kVa (d, ρ1) = (.va d, ρ1) := rfl
@[simp] theorem at_oD {g : FD} : oD g ρ = (g ρ).map kVa := rfl
def kWD : D × Env → D × Bool × Env := fun p => (p.1, false, p.2)
@[simp] theorem kWD_at {d} : kWD (d, ρ1) = (d, false, ρ1) := rfl
@[simp] theorem at_wD {g : FD} : wD g ρ = (g ρ).map kWD := rfl
def kNm (i : Nat) (ρ : Env) : Option Sl → Option (D × Env)
  | some (.sh d) => some (d, ρ)
  | some (.ow d) => if isC d = true then some (d, ρ.set i (.sh d)) else none
  | some (.bo _ _) => none
  | some .no => none
  | none => none
@[simp] theorem at_nm {i} : gNm i ρ = kNm i ρ ρ[i]? := by
  unfold gNm; rcases ρ[i]? with _ | _ | _ | _ | _ <;> rfl
@[simp] theorem kNm_sh {i d} : kNm i ρ (some (.sh d)) = some (d, ρ) := rfl
@[simp] theorem kNm_lst {i ds} : kNm i ρ (some (.ow (.lst ds))) = some (.lst ds, ρ.set i (.sh (.lst ds))) := rfl
@[simp] theorem kNm_dic {i ks ds} : kNm i ρ (some (.ow (.dic ks ds))) = some (.dic ks ds, ρ.set i (.sh (.dic ks ds))) := rfl
def kMv (i : Nat) (ρ : Env) : Option Sl → Option (D × Bool × Env)
  | some (.sh d) => some (d, false, ρ)
  | some (.ow d) => some (d, true, ρ.set i .no)
  | some (.bo _ _) => none
  | some .no => none
  | none => none
@[simp] theorem at_mv {i} : gMv i ρ = kMv i ρ ρ[i]? := by
  unfold gMv; rcases ρ[i]? with _ | _ | _ | _ | _ <;> rfl
@[simp] theorem kMv_sh {i d} : kMv i ρ (some (.sh d)) = some (d, false, ρ) := rfl
@[simp] theorem kMv_ow {i d} : kMv i ρ (some (.ow d)) = some (d, true, ρ.set i .no) := rfl
def kSh : D × Bool × Env → Option (D × Env)
  | (d, true, ρ') => if isC d = true then some (d, ρ') else none
  | (d, false, ρ') => some (d, ρ')
@[simp] theorem at_shW {g : FW} : shW g ρ = (g ρ).bind kSh := by
  unfold shW; rcases g ρ with _ | ⟨_, _ | _, _⟩ <;> rfl
@[simp] theorem kSh_f {d} : kSh (d, false, ρ1) = some (d, ρ1) := rfl
@[simp] theorem kSh_lst {ds} : kSh (.lst ds, true, ρ1) = some (.lst ds, ρ1) := rfl
@[simp] theorem kSh_dic {ks ds} : kSh (.dic ks ds, true, ρ1) = some (.dic ks ds, ρ1) := rfl
def kWith (ρ : Env) : D → D × Env := fun d => (d, ρ)
@[simp] theorem kWith_at {d} : kWith ρ d = (d, ρ) := rfl
def kO3 (f : D → D → Option D) (dx : D) (ρ : Env) : D → Option (D × Env) := fun dy => (f dx dy).map (kWith ρ)
@[simp] theorem kO3_at {f : D → D → Option D} {dx dy} : kO3 f dx ρ dy = (f dx dy).map (kWith ρ) := rfl
def kO2 (f : D → D → Option D) (y : Opd) (ρ : Env) : D → Option (D × Env) := fun dx => (res ρ y).bind (kO3 f dx ρ)
@[simp] theorem kO2_at {f : D → D → Option D} {y dx} : kO2 f y ρ dx = (res ρ y).bind (kO3 f dx ρ) := rfl
def kO1 (f : D → D → Option D) (x : Opd) : Opd × Env → Option (D × Env) := fun p => (res p.2 x).bind (kO2 f p.1 p.2)
@[simp] theorem kO1_at {f : D → D → Option D} {x y} : kO1 f x (y, ρ1) = (res ρ1 x).bind (kO2 f y ρ1) := rfl
def kO0 (f : D → D → Option D) (ob : FO) : Opd × Env → Option (D × Env) := fun p => (ob p.2).bind (kO1 f p.1)
@[simp] theorem kO0_at {f : D → D → Option D} {ob : FO} {x} : kO0 f ob (x, ρ1) = (ob ρ1).bind (kO1 f x) := rfl
@[simp] theorem at_op2 {f : D → D → Option D} {oa ob : FO} : gOp2 f oa ob ρ = (oa ρ).bind (kO0 f ob) := by
  unfold gOp2
  rcases oa ρ with _ | ⟨x, ρ1⟩
  · rfl
  · simp only [Option.bind_some, kO0_at]
    rcases ob ρ1 with _ | ⟨y, ρ2⟩
    · rfl
    · simp only [Option.bind_some, kO1_at]
      rcases res ρ2 x with _ | dx
      · rfl
      · simp only [Option.bind_some, kO2_at]
        rcases res ρ2 y with _ | dy
        · rfl
        · simp only [Option.bind_some, kO3_at]
          rcases f dx dy with _ | d <;> rfl
def k13 (f : D → Option D) (ρ : Env) : D → Option (D × Env) := fun dx => (f dx).map (kWith ρ)
@[simp] theorem k13_at {f : D → Option D} {dx} : k13 f ρ dx = (f dx).map (kWith ρ) := rfl
def k12 (f : D → Option D) : Opd × Env → Option (D × Env) := fun p => (res p.2 p.1).bind (k13 f p.2)
@[simp] theorem k12_at {f : D → Option D} {x} : k12 f (x, ρ1) = (res ρ1 x).bind (k13 f ρ1) := rfl
@[simp] theorem at_op1 {f : D → Option D} {oa : FO} : gOp1 f oa ρ = (oa ρ).bind (k12 f) := by
  unfold gOp1
  rcases oa ρ with _ | ⟨x, ρ1⟩
  · rfl
  · simp only [Option.bind_some, k12_at]
    rcases res ρ1 x with _ | dx
    · rfl
    · simp only [Option.bind_some, k13_at]
      rcases f dx with _ | d <;> rfl
def kOwn : D × Env → D × Bool × Env := fun p => (p.1, true, p.2)
@[simp] theorem kOwn_at {d} : kOwn (d, ρ1) = (d, true, ρ1) := rfl
@[simp] theorem at_op1W {f : D → Option D} {oa : FO} : gOp1W f oa ρ = (gOp1 f oa ρ).map kOwn := rfl
def kT : D × Env → Option (Bool × Env)
  | (.bl b, ρ') => some (b, ρ')
  | _ => none
@[simp] theorem at_T {g : FD} : gT g ρ = (g ρ).bind kT := by
  unfold gT
  rcases g ρ with _ | ⟨d, _⟩
  · rfl
  · cases d <;> rfl
@[simp] theorem kT_at {b} : kT (.bl b, ρ1) = some (b, ρ1) := rfl
def kAnd (b : FT) : Bool × Env → Option (Bool × Env)
  | (true, ρ1) => b ρ1
  | (false, ρ1) => some (false, ρ1)
@[simp] theorem at_and {a b : FT} : gAnd a b ρ = (a ρ).bind (kAnd b) := by
  unfold gAnd; rcases a ρ with _ | ⟨_ | _, _⟩ <;> rfl
@[simp] theorem kAnd_t {b : FT} : kAnd b (true, ρ1) = b ρ1 := rfl
@[simp] theorem kAnd_f {b : FT} : kAnd b (false, ρ1) = some (false, ρ1) := rfl
def kOr (b : FT) : Bool × Env → Option (Bool × Env)
  | (true, ρ1) => some (true, ρ1)
  | (false, ρ1) => b ρ1
@[simp] theorem at_or {a b : FT} : gOr a b ρ = (a ρ).bind (kOr b) := by
  unfold gOr; rcases a ρ with _ | ⟨_ | _, _⟩ <;> rfl
@[simp] theorem kOr_t {b : FT} : kOr b (true, ρ1) = some (true, ρ1) := rfl
@[simp] theorem kOr_f {b : FT} : kOr b (false, ρ1) = b ρ1 := rfl
def kNot : Bool × Env → Bool × Env := fun p => (!p.1, p.2)
@[simp] theorem kNot_at {c} : kNot (c, ρ1) = (!c, ρ1) := rfl
@[simp] theorem at_not {a : FT} : gNot a ρ = (a ρ).map kNot := by
  unfold gNot; rcases a ρ with _ | ⟨_, _⟩ <;> rfl
def kAndV (b : FD) : D × Env → Option (D × Env)
  | (.bl true, ρ1) => b ρ1
  | (.bl false, ρ1) => some (.bl false, ρ1)
  | _ => none
@[simp] theorem at_AndV {a b : FD} : gAndV a b ρ = (a ρ).bind (kAndV b) := by
  unfold gAndV
  rcases a ρ with _ | ⟨d, _⟩
  · rfl
  · cases d with
    | bl b => cases b <;> rfl
    | _ => rfl
@[simp] theorem kAndV_t {b : FD} : kAndV b (.bl true, ρ1) = b ρ1 := rfl
@[simp] theorem kAndV_f {b : FD} : kAndV b (.bl false, ρ1) = some (.bl false, ρ1) := rfl
def kOrV (b : FD) : D × Env → Option (D × Env)
  | (.bl true, ρ1) => some (.bl true, ρ1)
  | (.bl false, ρ1) => b ρ1
  | _ => none
@[simp] theorem at_OrV {a b : FD} : gOrV a b ρ = (a ρ).bind (kOrV b) := by
  unfold gOrV
  rcases a ρ with _ | ⟨d, _⟩
  · rfl
  · cases d with
    | bl b => cases b <;> rfl
    | _ => rfl
@[simp] theorem kOrV_t {b : FD} : kOrV b (.bl true, ρ1) = some (.bl true, ρ1) := rfl
@[simp] theorem kOrV_f {b : FD} : kOrV b (.bl false, ρ1) = b ρ1 := rfl
def kNotV : D × Env → Option (D × Env)
  | (.bl b, ρ1) => some (.bl (!b), ρ1)
  | _ => none
@[simp] theorem at_notV {a : FD} : gNotV a ρ = (a ρ).bind kNotV := by
  unfold gNotV
  rcases a ρ with _ | ⟨d, _⟩
  · rfl
  · cases d <;> rfl
@[simp] theorem kNotV_at {b} : kNotV (.bl b, ρ1) = some (.bl (!b), ρ1) := rfl
def kNeg : D × Env → Option (D × Env)
  | (.int i, ρ1) => some (.int (-i), ρ1)
  | _ => none
@[simp] theorem at_neg {a : FD} : gNeg a ρ = (a ρ).bind kNeg := by
  unfold gNeg
  rcases a ρ with _ | ⟨d, _⟩
  · rfl
  · cases d <;> rfl
@[simp] theorem kNeg_at {i} : kNeg (.int i, ρ1) = some (.int (-i), ρ1) := rfl
def kC2 (d : D) : List D × Env → List D × Env := fun p => (d :: p.1, p.2)
@[simp] theorem kC2_at {d ds} : kC2 d (ds, ρ1) = (d :: ds, ρ1) := rfl
def kC1 (gr : FL) : D × Env → Option (List D × Env) := fun p => (gr p.2).map (kC2 p.1)
@[simp] theorem kC1_at {gr : FL} {d} : kC1 gr (d, ρ1) = (gr ρ1).map (kC2 d) := rfl
@[simp] theorem at_cons {ga : FD} {gr : FL} : gCons ga gr ρ = (ga ρ).bind (kC1 gr) := by
  unfold gCons
  rcases ga ρ with _ | ⟨d, ρ1⟩
  · rfl
  · simp only [Option.bind_some, kC1_at]
    rcases gr ρ1 with _ | ⟨_, _⟩ <;> rfl
def kTup : List D × Env → Option (D × Env) := fun p => if p.1.length ≤ SZ then some (.tup p.1, p.2) else none
@[simp] theorem kTup_at {ds} : kTup (ds, ρ1) = if ds.length ≤ SZ then some (.tup ds, ρ1) else none := rfl
@[simp] theorem at_tup {g : FL} : gTup g ρ = (g ρ).bind kTup := by
  unfold gTup; rcases g ρ with _ | ⟨_, _⟩ <;> rfl
def kLst : List D × Env → Option (D × Bool × Env) := fun p => if p.1.length ≤ SZ then some (.lst p.1, true, p.2) else none
@[simp] theorem kLst_at {ds} : kLst (ds, ρ1) = if ds.length ≤ SZ then some (.lst ds, true, ρ1) else none := rfl
@[simp] theorem at_lst {g : FL} : gLst g ρ = (g ρ).bind kLst := by
  unfold gLst; rcases g ρ with _ | ⟨_, _⟩ <;> rfl
def kV2 (d : D) : List Ar × Env → List Ar × Env := fun p => (.va d :: p.1, p.2)
@[simp] theorem kV2_at {d ds} : kV2 d (ds, ρ1) = (.va d :: ds, ρ1) := rfl
def kV1 (gr : FAr) : D × Env → Option (List Ar × Env) := fun p => (gr p.2).map (kV2 p.1)
@[simp] theorem kV1_at {gr : FAr} {d} : kV1 gr (d, ρ1) = (gr ρ1).map (kV2 d) := rfl
@[simp] theorem at_va {ga : FD} {gr : FAr} : gVa ga gr ρ = (ga ρ).bind (kV1 gr) := by
  unfold gVa
  rcases ga ρ with _ | ⟨d, ρ1⟩
  · rfl
  · simp only [Option.bind_some, kV1_at]
    rcases gr ρ1 with _ | ⟨_, _⟩ <;> rfl
def kBo2 (i : Nat) : List Ar × Env → List Ar × Env := fun p => (.bo i :: p.1, p.2)
@[simp] theorem kBo2_at {i ds} : kBo2 i (ds, ρ1) = (.bo i :: ds, ρ1) := rfl
def kBo1 (i : Nat) (gr : FAr) (ρ : Env) : D → Option (List Ar × Env) := fun _ => (gr ρ).map (kBo2 i)
@[simp] theorem kBo1_at {i} {gr : FAr} {d} : kBo1 i gr ρ d = (gr ρ).map (kBo2 i) := rfl
@[simp] theorem at_bo {i} {gr : FAr} : gBo i gr ρ = (look ρ i).bind (kBo1 i gr ρ) := by
  unfold gBo
  rcases look ρ i with _ | d
  · rfl
  · simp only [Option.bind_some, kBo1_at]
    rcases gr ρ with _ | ⟨_, _⟩ <;> rfl
def kLd (x : Bool) (d : D) : List Bool × List D × Env → List Bool × List D × Env := fun p => (x :: p.1, d :: p.2.1, p.2.2)
@[simp] theorem kLd_at {x d b ds} : kLd x d (b, ds, ρ1) = (x :: b, d :: ds, ρ1) := rfl
@[simp] theorem lend_nil : lend [] ρ = some ([], [], ρ) := rfl
@[simp] theorem lend_va {d r} : lend (.va d :: r) ρ = (lend r ρ).map (kLd false d) := by
  rw [lend]; rcases lend r ρ with _ | ⟨_, _, _⟩ <;> rfl
def kLb (i : Nat) (r : List Ar) (ρ : Env) : Option Sl → Option (List Bool × List D × Env)
  | some (.ow d) => (lend r (ρ.set i .no)).map (kLd true d)
  | some (.bo _ d) => (lend r (ρ.set i .no)).map (kLd true d)
  | some (.sh _) => none
  | some .no => none
  | none => none
@[simp] theorem lend_bo {i r} : lend (.bo i :: r) ρ = kLb i r ρ ρ[i]? := by
  rw [lend]
  rcases ρ[i]? with _ | _ | _ | d | ⟨k, d⟩
  · rfl
  · rfl
  · rfl
  · show _ = (lend r (ρ.set i .no)).map (kLd true d)
    dsimp only
    rcases lend r (ρ.set i .no) with _ | ⟨_, _, _⟩ <;> rfl
  · show _ = (lend r (ρ.set i .no)).map (kLd true d)
    dsimp only
    rcases lend r (ρ.set i .no) with _ | ⟨_, _, _⟩ <;> rfl
@[simp] theorem kLb_ow {i r d} : kLb i r ρ (some (.ow d)) = (lend r (ρ.set i .no)).map (kLd true d) := rfl
@[simp] theorem kLb_bo {i r k d} : kLb i r ρ (some (.bo k d)) = (lend r (ρ.set i .no)).map (kLd true d) := rfl
@[simp] theorem give_nil {ds} : give ρ [] ds ρ1 = some ρ1 := by unfold give; rfl
@[simp] theorem give_va {d r ds} : give ρ (.va d :: r) ds ρ1 = give ρ r ds ρ1 := by rw [give]
def kGv (ρ : Env) (i : Nat) (r : List Ar) (d : D) (ds : List D) (ρ1 : Env) : Sl → Option Env := fun x => give ρ r ds (ρ1.set i (reSl x d))
@[simp] theorem kGv_at {i r d ds x} : kGv ρ i r d ds ρ1 x = give ρ r ds (ρ1.set i (reSl x d)) := rfl
@[simp] theorem give_bo {i d r ds} : give ρ (.bo i :: r) (d :: ds) ρ1 = ρ[i]?.bind (kGv ρ i r d ds ρ1) := by
  rw [give]; rcases ρ[i]? with _ | _ <;> rfl
@[simp] theorem reSl_bo {k d e} : reSl (.bo k d) e = .bo k e := rfl
@[simp] theorem reSl_ow {d e} : reSl (.ow d) e = .ow e := rfl
def kCl4 (d : D) (w : Bool) : Env → D × Bool × Env := fun ρ => (d, w, ρ)
@[simp] theorem kCl4_at {d w} : kCl4 d w ρ = (d, w, ρ) := rfl
def kCl3 (ars : List Ar) (ρ1 ρ2 : Env) : D × Bool × List D → Option (D × Bool × Env) := fun p => (give ρ1 ars p.2.2 ρ2).map (kCl4 p.1 p.2.1)
@[simp] theorem kCl3_at {ars d w ds} {ρ2 : Env} : kCl3 ars ρ1 ρ2 (d, w, ds) = (give ρ1 ars ds ρ2).map (kCl4 d w) := rfl
def kCl2 (bo : List Bool) (G : FnD) (dd : List D) (ars : List Ar) (ρ1 : Env) : List Bool × List D × Env → Option (D × Bool × Env) := fun p => if p.1 ++ dd.map (fun _ => false) = bo then (G (p.2.1 ++ dd)).bind (kCl3 ars ρ1 p.2.2) else none
@[simp] theorem kCl2_at {bo} {G : FnD} {dd ars b ds} {ρ2 : Env} : kCl2 bo G dd ars ρ1 (b, ds, ρ2) = if b ++ dd.map (fun _ => false) = bo then (G (ds ++ dd)).bind (kCl3 ars ρ1 ρ2) else none := rfl
def kCl1 (bo : List Bool) (G : FnD) (dd : List D) : List Ar × Env → Option (D × Bool × Env) := fun p => (lend p.1 p.2).bind (kCl2 bo G dd p.1 p.2)
@[simp] theorem kCl1_at {bo} {G : FnD} {dd ars} : kCl1 bo G dd (ars, ρ1) = (lend ars ρ1).bind (kCl2 bo G dd ars ρ1) := rfl
@[simp] theorem at_call {bo} {G : FnD} {dd} {ga : FAr} : gCallD bo G dd ga ρ = (ga ρ).bind (kCl1 bo G dd) := by
  unfold gCallD
  rcases ga ρ with _ | ⟨ars, ρ1⟩
  · rfl
  · simp only [Option.bind_some, kCl1_at]
    rcases lend ars ρ1 with _ | ⟨b, ds, ρ2⟩
    · rfl
    · simp only [Option.bind_some, kCl2_at]
      split
      · rcases G (ds ++ dd) with _ | ⟨d, w, ds'⟩
        · rfl
        · simp only [Option.bind_some, kCl3_at]
          rcases give ρ1 ars ds' ρ2 with _ | _ <;> rfl
      · rfl
def kP3 (i : Nat) (d : D) (k : D) (ρ : Env) : Option Sl → Option (Fl × Env)
  | some (.ow c) => (putD c k d).map fun c' => (.nx, ρ.set i (.ow c'))
  | some (.bo n c) => (putD c k d).map fun c' => (.nx, ρ.set i (.bo n c'))
  | some (.sh _) => none
  | some .no => none
  | none => none
@[simp] theorem kP3_ow {i d k c} : kP3 i d k ρ (some (.ow c)) = (putD c k d).map fun c' => (.nx, ρ.set i (.ow c')) := rfl
@[simp] theorem kP3_bo {i d k n c} : kP3 i d k ρ (some (.bo n c)) = (putD c k d).map fun c' => (.nx, ρ.set i (.bo n c')) := rfl
def kP2 (i : Nat) (d : D) : D × Env → Option (Fl × Env) := fun p => kP3 i d p.1 p.2 p.2[i]?
@[simp] theorem kP2_at {i d k} : kP2 i d (k, ρ1) = kP3 i d k ρ1 ρ1[i]? := rfl
def kP1 (d : D) (i : Nat) (gk : FD) (ρ : Env) : D → Option (Fl × Env) := fun _ => (gk ρ).bind (kP2 i d)
@[simp] theorem kP1_at {d i z} {gk : FD} : kP1 d i gk ρ z = (gk ρ).bind (kP2 i d) := rfl
def kP0 (i : Nat) (gk : FD) : D × Env → Option (Fl × Env) := fun p => (look p.2 i).bind (kP1 p.1 i gk p.2)
@[simp] theorem kP0_at {i d} {gk : FD} : kP0 i gk (d, ρ1) = (look ρ1 i).bind (kP1 d i gk ρ1) := rfl
@[simp] theorem at_put {i} {ge gk : FD} : gPut i ge gk ρ = (ge ρ).bind (kP0 i gk) := by
  unfold gPut
  rcases ge ρ with _ | ⟨d, ρ1⟩
  · rfl
  · simp only [Option.bind_some, kP0_at]
    rcases look ρ1 i with _ | z
    · rfl
    · simp only [Option.bind_some, kP1_at]
      rcases gk ρ1 with _ | ⟨k, ρ2⟩
      · rfl
      · simp only [Option.bind_some, kP2_at]
        rcases ρ2[i]? with _ | _ | _ | c | ⟨n, c⟩
        · rfl
        · rfl
        · rfl
        · simp only [kP3_ow]; rcases putD c k d with _ | _ <;> rfl
        · simp only [kP3_bo]; rcases putD c k d with _ | _ <;> rfl
def kS3 (f : D → Option Int → Option Int → Option D) (x : Opd) (lo : Option Int) : Option Int × Env → Option (D × Env) := fun p => (res p.2 x).bind fun dx => (f dx lo p.1).map (kWith p.2)
@[simp] theorem kS3_at {f : D → Option Int → Option Int → Option D} {x lo hi} : kS3 f x lo (hi, ρ1) = (res ρ1 x).bind fun dx => (f dx lo hi).map (kWith ρ1) := rfl
def kS2 (f : D → Option Int → Option Int → Option D) (gh : FP) (x : Opd) : Option Int × Env → Option (D × Env) := fun p => (gh p.2).bind (kS3 f x p.1)
@[simp] theorem kS2_at {f : D → Option Int → Option Int → Option D} {gh : FP} {x lo} : kS2 f gh x (lo, ρ1) = (gh ρ1).bind (kS3 f x lo) := rfl
def kS1 (f : D → Option Int → Option Int → Option D) (gl gh : FP) : Opd × Env → Option (D × Env) := fun p => (gl p.2).bind (kS2 f gh p.1)
@[simp] theorem kS1_at {f : D → Option Int → Option Int → Option D} {gl gh : FP} {x} : kS1 f gl gh (x, ρ1) = (gl ρ1).bind (kS2 f gh x) := rfl
@[simp] theorem at_sl {f : D → Option Int → Option Int → Option D} {oa : FO} {gl gh : FP} : gSl f oa gl gh ρ = (oa ρ).bind (kS1 f gl gh) := by
  unfold gSl
  rcases oa ρ with _ | ⟨x, ρ1⟩
  · rfl
  · simp only [Option.bind_some, kS1_at]
    rcases gl ρ1 with _ | ⟨lo, ρ2⟩
    · rfl
    · simp only [Option.bind_some, kS2_at]
      rcases gh ρ2 with _ | ⟨hi, ρ3⟩
      · rfl
      · simp only [Option.bind_some, kS3_at]
        rcases res ρ3 x with _ | dx
        · rfl
        · simp only [Option.bind_some]
          rcases f dx lo hi with _ | _ <;> rfl
def kPa : D × Env → Option (Option Int × Env)
  | (.int i, ρ) => some (some i, ρ)
  | _ => none
@[simp] theorem kPa_at {i} : kPa (.int i, ρ1) = some (some i, ρ1) := rfl
@[simp] theorem at_part {g : FD} : gPart g ρ = (g ρ).bind kPa := by
  unfold gPart
  rcases g ρ with _ | ⟨d, _⟩
  · rfl
  · cases d <;> rfl
def kSq : D × Env → Option (List D × Env)
  | (.lst xs, ρ1) => some (xs, ρ1)
  | (.tup xs, ρ1) => some (xs, ρ1)
  | _ => none
@[simp] theorem kSq_lst {xs} : kSq (.lst xs, ρ1) = some (xs, ρ1) := rfl
@[simp] theorem kSq_tup {xs} : kSq (.tup xs, ρ1) = some (xs, ρ1) := rfl
@[simp] theorem at_sq {g : FD} : gSq g ρ = (g ρ).bind kSq := by
  unfold gSq
  rcases g ρ with _ | ⟨d, _⟩
  · rfl
  · cases d <;> rfl
def kR1 : List D × Env → Option (List D × Env)
  | ([.int j], ρ1) => if j ≤ 100000 ∧ -100000 ≤ j then some (rngD 0 j.toNat, ρ1) else none
  | _ => none
@[simp] theorem kR1_at {j} : kR1 ([.int j], ρ1) = if j ≤ 100000 ∧ -100000 ≤ j then some (rngD 0 j.toNat, ρ1) else none := rfl
@[simp] theorem at_rng1 {g : FL} : gRng1 g ρ = (g ρ).bind kR1 := by
  unfold gRng1 kR1
  rcases g ρ with _ | ⟨ds, ρ1⟩
  · rfl
  · simp only [Option.bind_some]
    split <;> rename_i h <;> simp_all
def kR2 : List D × Env → Option (List D × Env)
  | ([.int i, .int j], ρ1) => if (i ≤ 100000 ∧ -100000 ≤ i) ∧ j ≤ 100000 ∧ -100000 ≤ j then some (rngD i (j - i).toNat, ρ1) else none
  | _ => none
@[simp] theorem kR2_at {i j} : kR2 ([.int i, .int j], ρ1) = if (i ≤ 100000 ∧ -100000 ≤ i) ∧ j ≤ 100000 ∧ -100000 ≤ j then some (rngD i (j - i).toNat, ρ1) else none := rfl
@[simp] theorem at_rng2 {g : FL} : gRng2 g ρ = (g ρ).bind kR2 := by
  unfold gRng2 kR2
  rcases g ρ with _ | ⟨ds, ρ1⟩
  · rfl
  · simp only [Option.bind_some]
    split <;> rename_i h <;> simp_all
def kZ : List D × Env → Option (List D × Env)
  | ([.lst xs, .lst ys], ρ1) => some (zipD xs ys, ρ1)
  | ([.tup xs, .tup ys], ρ1) => some (zipD xs ys, ρ1)
  | _ => none
@[simp] theorem kZ_lst {xs ys} : kZ ([.lst xs, .lst ys], ρ1) = some (zipD xs ys, ρ1) := rfl
@[simp] theorem kZ_tup {xs ys} : kZ ([.tup xs, .tup ys], ρ1) = some (zipD xs ys, ρ1) := rfl
@[simp] theorem at_zip {g : FL} : gZip g ρ = (g ρ).bind kZ := by
  unfold gZip kZ
  rcases g ρ with _ | ⟨ds, ρ1⟩
  · rfl
  · simp only [Option.bind_some]
    split <;> simp_all
@[simp] theorem at_hNm {i d} : hNm i d ρ = bind1 i d false ρ := rfl
@[simp] theorem at_hNil : hNil [] ρ = some ρ := rfl
@[simp] theorem at_hCons {h : FG} {hs : FGs} {d r} : hCons h hs (d :: r) ρ = (h d ρ).bind (hs r) := by
  show (match h d ρ with | some ρ1 => hs r ρ1 | none => none) = _
  rcases h d ρ with _ | _ <;> rfl
@[simp] theorem at_hTup {n} {h : FGs} {ds} : hTup n h (.tup ds) ρ = if ds.length = n then h ds ρ else none := rfl
def kFo2 (h : FG) (body : FS) (ds : List D) : Fl × Env → Option (Fl × Env)
  | (.nx, ρ2) => forD h body ds ρ2
  | (.ct, ρ2) => forD h body ds ρ2
  | (.br, ρ2) => some (.nx, ρ2)
  | (.rt d w, ρ2) => some (.rt d w, ρ2)
@[simp] theorem kFo2_nx {h : FG} {body : FS} {ds} : kFo2 h body ds (.nx, ρ1) = forD h body ds ρ1 := rfl
@[simp] theorem kFo2_ct {h : FG} {body : FS} {ds} : kFo2 h body ds (.ct, ρ1) = forD h body ds ρ1 := rfl
@[simp] theorem kFo2_br {h : FG} {body : FS} {ds} : kFo2 h body ds (.br, ρ1) = some (.nx, ρ1) := rfl
@[simp] theorem kFo2_rt {h : FG} {body : FS} {ds d w} : kFo2 h body ds (.rt d w, ρ1) = some (.rt d w, ρ1) := rfl
def kFo1 (h : FG) (body : FS) (ds : List D) : Env → Option (Fl × Env) := fun ρ => (body ρ).bind (kFo2 h body ds)
@[simp] theorem kFo1_at {h : FG} {body : FS} {ds} : kFo1 h body ds ρ = (body ρ).bind (kFo2 h body ds) := rfl
@[simp] theorem forD_nil {h : FG} {body : FS} : forD h body [] ρ = some (.nx, ρ) := rfl
theorem forD_cons {h : FG} {body : FS} {d ds} : forD h body (d :: ds) ρ = (h d ρ).bind (kFo1 h body ds) := by
  rw [forD]
  rcases h d ρ with _ | ρ1
  · rfl
  · simp only [Option.bind_some, kFo1_at]
    rcases body ρ1 with _ | ⟨_ | _ | _ | _, _⟩ <;> rfl
def kFor (h : FG) (body : FS) : List D × Env → Option (Fl × Env) := fun p => forD h body p.1 p.2
@[simp] theorem kFor_at {h : FG} {body : FS} {ds} : kFor h body (ds, ρ1) = forD h body ds ρ1 := rfl
@[simp] theorem at_for {gi : FL} {h : FG} {body : FS} : gFor gi h body ρ = (gi ρ).bind (kFor h body) := by
  unfold gFor; rcases gi ρ with _ | ⟨_, _⟩ <;> rfl
def kY (y : D) : List D × Env → List D × Env := fun p => (y :: p.1, p.2)
@[simp] theorem kY_at {y ys} : kY y (ys, ρ1) = (y :: ys, ρ1) := rfl
def kCo3 (vs : List Nat) (h : FG) (tt : FT) (te : FD) (ds : List D) : D × Env → Option (List D × Env) := fun p => (compD vs h tt te ds (wipeE p.2 vs)).map (kY p.1)
@[simp] theorem kCo3_at {vs} {h : FG} {tt : FT} {te : FD} {ds y} : kCo3 vs h tt te ds (y, ρ1) = (compD vs h tt te ds (wipeE ρ1 vs)).map (kY y) := rfl
def kCo2 (vs : List Nat) (h : FG) (tt : FT) (te : FD) (ds : List D) : Bool × Env → Option (List D × Env)
  | (true, ρ) => (te ρ).bind (kCo3 vs h tt te ds)
  | (false, ρ) => compD vs h tt te ds (wipeE ρ vs)
@[simp] theorem kCo2_t {vs} {h : FG} {tt : FT} {te : FD} {ds} : kCo2 vs h tt te ds (true, ρ1) = (te ρ1).bind (kCo3 vs h tt te ds) := rfl
@[simp] theorem kCo2_f {vs} {h : FG} {tt : FT} {te : FD} {ds} : kCo2 vs h tt te ds (false, ρ1) = compD vs h tt te ds (wipeE ρ1 vs) := rfl
def kCo1 (vs : List Nat) (h : FG) (tt : FT) (te : FD) (ds : List D) : Env → Option (List D × Env) := fun ρ => (tt ρ).bind (kCo2 vs h tt te ds)
@[simp] theorem kCo1_at {vs} {h : FG} {tt : FT} {te : FD} {ds} : kCo1 vs h tt te ds ρ = (tt ρ).bind (kCo2 vs h tt te ds) := rfl
@[simp] theorem compD_nil {vs} {h : FG} {tt : FT} {te : FD} : compD vs h tt te [] ρ = some ([], ρ) := rfl
theorem compD_cons {vs} {h : FG} {tt : FT} {te : FD} {d ds} : compD vs h tt te (d :: ds) ρ = (h d ρ).bind (kCo1 vs h tt te ds) := by
  rw [compD]
  rcases h d ρ with _ | ρ1
  · rfl
  · simp only [Option.bind_some, kCo1_at]
    rcases tt ρ1 with _ | ⟨_ | _, ρ2⟩
    · rfl
    · rfl
    · simp only [Option.bind_some, kCo2_t]
      rcases te ρ2 with _ | ⟨y, ρ3⟩
      · rfl
      · simp only [Option.bind_some, kCo3_at]
        rcases compD vs h tt te ds (wipeE ρ3 vs) with _ | ⟨_, _⟩ <;> rfl
def kCm2 (vs : List Nat) (ρ0 : Env) : List D × Env → Option (D × Bool × Env) := fun p => if p.1.length ≤ SZ then some (.lst p.1, true, backE ρ0 p.2 vs) else none
@[simp] theorem kCm2_at {vs ys} : kCm2 vs ρ (ys, ρ1) = if ys.length ≤ SZ then some (.lst ys, true, backE ρ ρ1 vs) else none := rfl
def kCm1 (vs : List Nat) (h : FG) (tt : FT) (te : FD) : List D × Env → Option (D × Bool × Env) := fun p => if okOwn p.2 vs = true then (compD vs h tt te p.1 (wipeE p.2 vs)).bind (kCm2 vs p.2) else none
@[simp] theorem kCm1_at {vs} {h : FG} {tt : FT} {te : FD} {items} : kCm1 vs h tt te (items, ρ1) = if okOwn ρ1 vs = true then (compD vs h tt te items (wipeE ρ1 vs)).bind (kCm2 vs ρ1) else none := rfl
@[simp] theorem at_comp {vs} {gi : FL} {h : FG} {tt : FT} {te : FD} : gComp vs gi h tt te ρ = (gi ρ).bind (kCm1 vs h tt te) := by
  unfold gComp
  rcases gi ρ with _ | ⟨items, ρ1⟩
  · rfl
  · simp only [Option.bind_some, kCm1_at]
    split
    · rcases compD vs h tt te items (wipeE ρ1 vs) with _ | ⟨ys, ρ2⟩ <;> rfl
    · rfl
@[simp] theorem at_yes : tYesD ρ = some (true, ρ) := rfl
@[simp] theorem wipe_nil : wipeE ρ [] = ρ := rfl
@[simp] theorem wipe_cons {v vs} : wipeE ρ (v :: vs) = (wipeE ρ vs).set v .no := rfl
@[simp] theorem back_nil : backE ρ ρ1 [] = ρ1 := rfl
@[simp] theorem back_cons {v vs} : backE ρ ρ1 (v :: vs) = (backE ρ ρ1 vs).set v (ρ.getD v .no) := rfl
def kOO : Option Sl → Bool
  | some .no => true
  | some (.sh _) => true
  | some (.ow _) => false
  | some (.bo _ _) => false
  | none => false
@[simp] theorem kOO_no : kOO (some .no) = true := rfl
@[simp] theorem kOO_sh {d} : kOO (some (.sh d)) = true := rfl
@[simp] theorem okOwn_nil : okOwn ρ [] = true := rfl
@[simp] theorem okOwn_cons {v vs} : okOwn ρ (v :: vs) = (kOO ρ[v]? && okOwn ρ vs) := by
  rw [okOwn]; rcases ρ[v]? with _ | _ | _ | _ | _ <;> rfl
def kAs (h : FG) : D × Env → Option (Fl × Env) := fun p => (h p.1 p.2).map kNx
@[simp] theorem kAs_at {h : FG} {d} : kAs h (d, ρ1) = (h d ρ1).map kNx := rfl
@[simp] theorem at_asg {g : FD} {h : FG} : gAsg g h ρ = (g ρ).bind (kAs h) := by
  unfold gAsg
  rcases g ρ with _ | ⟨d, ρ1⟩
  · rfl
  · simp only [Option.bind_some, kAs_at]
    rcases h d ρ1 with _ | _ <;> rfl
def kPr2 (j : Nat) (d : D) (w : Bool) : Env → Option (Fl × Env) := fun ρ => (bind1 j d w ρ).map kNx
@[simp] theorem kPr2_at {j d w} : kPr2 j d w ρ = (bind1 j d w ρ).map kNx := rfl
def kPr1 (i j : Nat) (d : D) (w : Bool) : D × Bool × Env → Option (Fl × Env) := fun p => (bind1 i d w p.2.2).bind (kPr2 j p.1 p.2.1)
@[simp] theorem kPr1_at {i j d w e x} : kPr1 i j d w (e, x, ρ1) = (bind1 i d w ρ1).bind (kPr2 j e x) := rfl
def kPr0 (i j : Nat) (gb : FW) : D × Bool × Env → Option (Fl × Env) := fun p => (gb p.2.2).bind (kPr1 i j p.1 p.2.1)
@[simp] theorem kPr0_at {i j d w} {gb : FW} : kPr0 i j gb (d, w, ρ1) = (gb ρ1).bind (kPr1 i j d w) := rfl
@[simp] theorem at_par {i j} {ga gb : FW} : gPar i j ga gb ρ = (ga ρ).bind (kPr0 i j gb) := by
  unfold gPar
  rcases ga ρ with _ | ⟨d, w, ρ1⟩
  · rfl
  · simp only [Option.bind_some, kPr0_at]
    rcases gb ρ1 with _ | ⟨d', w', ρ2⟩
    · rfl
    · simp only [Option.bind_some, kPr1_at]
      rcases bind1 i d w ρ2 with _ | ρ3
      · rfl
      · simp only [Option.bind_some, kPr2_at]
        rcases bind1 j d' w' ρ3 with _ | _ <;> rfl
def kAu2 (i : Nat) (d : Option D) (ρ : Env) : Option (Fl × Env) := d.bind fun d => (bind1 i d false ρ).map kNx
@[simp] theorem kAu2_at {i d} : kAu2 i (some d) ρ = (bind1 i d false ρ).map kNx := rfl
def kAu1 (i : Nat) (f : D → D → Option D) (d0 : D) : D × Env → Option (Fl × Env) := fun p => kAu2 i (f d0 p.1) p.2
@[simp] theorem kAu1_at {i} {f : D → D → Option D} {d0 d} : kAu1 i f d0 (d, ρ1) = kAu2 i (f d0 d) ρ1 := rfl
def kAu0 (i : Nat) (f : D → D → Option D) (g : FD) (ρ : Env) : Option Sl → Option (Fl × Env)
  | some (.sh d0) => (g ρ).bind (kAu1 i f d0)
  | _ => none
@[simp] theorem kAu0_sh {i} {f : D → D → Option D} {g : FD} {d0} : kAu0 i f g ρ (some (.sh d0)) = (g ρ).bind (kAu1 i f d0) := rfl
@[simp] theorem at_aug {i} {f : D → D → Option D} {g : FD} : gAug i f g ρ = kAu0 i f g ρ ρ[i]? := by
  unfold gAug
  rcases ρ[i]? with _ | _ | d0 | _ | _
  · rfl
  · rfl
  · simp only [kAu0_sh]
    rcases g ρ with _ | ⟨d1, ρ1⟩
    · rfl
    · simp only [Option.bind_some, kAu1_at]
      rcases f d0 d1 with _ | d
      · rfl
      · simp only [kAu2_at]
        rcases bind1 i d false ρ1 with _ | _ <;> rfl
  · rfl
  · rfl
def kRn (bo : List Bool) : Fl × Env → Option (D × Bool × List D)
  | (.rt d w, ρ) => (finB bo 0 ρ).map fun ds => (d, w, ds)
  | (.nx, ρ) => (finB bo 0 ρ).map fun ds => (.non, false, ds)
  | (.br, _) => none
  | (.ct, _) => none
@[simp] theorem kRn_rt {bo d w} : kRn bo (.rt d w, ρ1) = (finB bo 0 ρ1).map fun ds => (d, w, ds) := rfl
@[simp] theorem kRn_nx {bo} : kRn bo (.nx, ρ1) = (finB bo 0 ρ1).map fun ds => (.non, false, ds) := rfl
theorem at_run {bo n} {g : FS} {ds} : runG bo n g ds = (g (env0 bo ds 0 ++ List.replicate (n - ds.length) .no)).bind (kRn bo) := by
  unfold runG
  rcases g _ with _ | ⟨_ | _ | _ | _, ρ⟩
  · rfl
  · simp only [Option.bind_some, kRn_nx]; rcases finB bo 0 ρ with _ | _ <;> rfl
  · rfl
  · rfl
  · simp only [Option.bind_some, kRn_rt]; rcases finB bo 0 ρ with _ | _ <;> rfl
@[simp] theorem finB_nil {k} : finB [] k ρ = some [] := by unfold finB; rfl
@[simp] theorem finB_f {bo k x} : finB (false :: bo) k (x :: ρ) = finB bo k ρ := by rw [finB]
@[simp] theorem finB_t {bo k d} : finB (true :: bo) k (.bo k d :: ρ) = (finB bo (k + 1) ρ).map fun ds => d :: ds := by
  rw [finB]; rcases finB bo (k + 1) ρ with _ | _ <;> simp
@[simp] theorem env0_t {bo d ds k} : env0 (true :: bo) (d :: ds) k = .bo k d :: env0 bo ds (k + 1) := rfl
@[simp] theorem env0_f {bo d ds k} : env0 (false :: bo) (d :: ds) k = .sh d :: env0 bo ds k := rfl
@[simp] theorem env0_nil {ds k} : env0 [] ds k = [] := by unfold env0; rfl
end
@[simp] theorem sz_small {α : Type} {l : List α} (h : l.length ≤ 1000) : l.length ≤ SZ := by unfold SZ; omega
end DV

/-! DV11: what all the laws have in common: draws, same. -/
namespace DV
open L2 PySem PySem.Spec PyProof.Rows
def drawsB : FS := (gRet (gLst (gCons (shW (gOp1W lstD (oNm 0))) (gCons (fun ρ => some (.int 0, ρ)) (gCons (fun ρ => some (.int 0, ρ)) (gCons (fun ρ => some (.int 1, ρ)) (fun ρ => some ([], ρ))))))))
def drawB : FS := (gSeq (gIfS (gAnd (gT (gOp2 eqD (oD (gOp2 ixD (oNm 0) (oD (fun ρ => some (.int 2, ρ))))) (oD (fun ρ => some (.int 0, ρ))))) (gT (gOp2 ltI (oD (gOp2 ixD (oNm 0) (oD (fun ρ => some (.int 1, ρ))))) (oD (gOp1 lenD (oD (gOp2 ixD (oNm 0) (oD (fun ρ => some (.int 0, ρ)))))))))) (gSeq (gSet 2 (wD (gOp2 ixD (oD (gOp2 ixD (oNm 0) (oD (fun ρ => some (.int 0, ρ))))) (oD (gOp2 ixD (oNm 0) (oD (fun ρ => some (.int 1, ρ)))))))) (gSeq (gPut 0 (gOp2 addD (oD (gOp2 ixD (oNm 0) (oD (fun ρ => some (.int 1, ρ))))) (oD (fun ρ => some (.int 1, ρ)))) (fun ρ => some (.int 1, ρ))) (gSeq (gIfS (gT (gOp2 geI (oNm 2) (oD (gOp2 powI (oD (fun ρ => some (.int 10, ρ))) (oD (fun ρ => some (.int 18, ρ))))))) (gPut 0 (gNm 2) (fun ρ => some (.int 2, ρ))) gSkip) (gPut 0 (gOp2 modI (oD (gOp1 intD (oD (gOp2 addD (oD (gOp2 addD (oD (gOp2 mulI (oD (gOp2 ixD (oNm 0) (oD (fun ρ => some (.int 3, ρ))))) (oD (fun ρ => some (.int 48271, ρ))))) (oNm 2))) (oD (fun ρ => some (.int 13, ρ))))))) (oD (fun ρ => some (.int 2147483647, ρ)))) (fun ρ => some (.int 3, ρ)))))) gSkip) (gSeq (gIfS (gT (gOp2 gtI (oD (gOp2 ixD (oNm 0) (oD (fun ρ => some (.int 2, ρ))))) (oD (fun ρ => some (.int 0, ρ))))) (gSeq (gSet 3 (wD (gOp2 modI (oD (gOp1 intD (oD (gOp2 ixD (oNm 0) (oD (fun ρ => some (.int 2, ρ))))))) (oNm 1)))) (gSeq (gPut 0 (gOp2 divI (oD (gOp2 ixD (oNm 0) (oD (fun ρ => some (.int 2, ρ))))) (oNm 1)) (fun ρ => some (.int 2, ρ))) (gRet (gMv 3)))) gSkip) (gSeq (gPut 0 (gOp2 modI (oD (gOp1 intD (oD (gOp2 addD (oD (gOp2 mulI (oD (gOp2 ixD (oNm 0) (oD (fun ρ => some (.int 3, ρ))))) (oD (fun ρ => some (.int 69621, ρ))))) (oD (fun ρ => some (.int 7, ρ))))))) (oD (fun ρ => some (.int 2147483629, ρ)))) (fun ρ => some (.int 3, ρ))) (gRet (wD (gOp2 modI (oD (gOp1 intD (oD (gOp2 divI (oD (gOp2 ixD (oNm 0) (oD (fun ρ => some (.int 3, ρ))))) (oD (fun ρ => some (.int 11, ρ))))))) (oNm 1)))))))
def sameB (h : FnD) : FS := (gSeq (gIfS (gOr (gT (gOp2 isiD (oNm 1) (oD (fun ρ => some (.ty "tuple", ρ))))) (gT (gOp2 isiD (oNm 1) (oD (fun ρ => some (.ty "list", ρ)))))) (gSeq (gIfS (gOr (gT (gOp2 neD (oD (gOp2 isiD (oNm 1) (oD (fun ρ => some (.ty "tuple", ρ))))) (oD (gOp2 isiD (oNm 0) (oD (fun ρ => some (.ty "tuple", ρ))))))) (gT (gOp2 neD (oD (gOp2 isiD (oNm 1) (oD (fun ρ => some (.ty "list", ρ))))) (oD (gOp2 isiD (oNm 0) (oD (fun ρ => some (.ty "list", ρ)))))))) (gRet (wD (fun ρ => some (.bl false, ρ)))) gSkip) (gSeq (gIfS (gT (gOp2 neD (oD (gOp1 lenD (oNm 0))) (oD (gOp1 lenD (oNm 1))))) (gRet (wD (fun ρ => some (.bl false, ρ)))) gSkip) (gRet (wD (gOp2 eqD (oD (gOp1 lenD (oD (shW (gComp [2] (gRng1 (gCons (gOp1 lenD (oNm 1)) (fun ρ => some ([], ρ)))) (hNm 2) (gNot (gT (shW (gCallD [false, false] h [] (gVa (gOp2 ixD (oNm 0) (oNm 2)) (gVa (gOp2 ixD (oNm 1) (oNm 2)) (fun ρ => some ([], ρ)))))))) (gNm 2)))))) (oD (fun ρ => some (.int 0, ρ)))))))) gSkip) (gSeq (gIfS (gT (gOp2 isiD (oNm 1) (oD (fun ρ => some (.ty "str", ρ))))) (gRet (wD (gAndV (gOp2 isiD (oNm 0) (oD (fun ρ => some (.ty "str", ρ)))) (gOp2 eqD (oNm 0) (oNm 1))))) gSkip) (gSeq (gIfS (gT (gOp2 isD (oNm 1) (oD (fun ρ => some (.non, ρ))))) (gRet (wD (gOp2 isD (oNm 0) (oD (fun ρ => some (.non, ρ)))))) gSkip) (gSeq (gIfS (gOr (gT (gOp2 isiD (oNm 1) (oD (fun ρ => some (.ty "bool", ρ))))) (gT (gOp2 isiD (oNm 0) (oD (fun ρ => some (.ty "bool", ρ)))))) (gRet (wD (gAndV (gOp2 isiD (oNm 1) (oD (fun ρ => some (.ty "bool", ρ)))) (gAndV (gOp2 isiD (oNm 0) (oD (fun ρ => some (.ty "bool", ρ)))) (gOp2 eqD (oNm 0) (oNm 1)))))) gSkip) (gRet (wD (gAndV (gOp2 isiD (oNm 0) (oD (fun ρ => some (.ty "int", ρ)))) (gAndV (gOp2 isiD (oNm 1) (oD (fun ρ => some (.ty "int", ρ)))) (gOp2 eqD (oNm 0) (oNm 1))))))))))
/-! ### values -/
theorem atI_nat {α : Type} (xs : List α) (k : Nat) : L2.atI xs (k : Int) = xs[k]? := by
  unfold L2.atI ixN
  simp only [Int.natCast_nonneg, if_true]
  split
  · simp
  · rename_i h
    rw [List.getElem?_eq_none (by omega)]; rfl
@[simp] theorem ix_tup {xs : List D} {k : Nat} : ixD (.tup xs) (.int (k : Int)) = xs[k]? := atI_nat xs k
@[simp] theorem ix_lst {xs : List D} {k : Nat} : ixD (.lst xs) (.int (k : Int)) = xs[k]? := atI_nat xs k
@[simp] theorem ix_tup0 {xs : List D} : ixD (.tup xs) (.int 0) = xs[0]? := atI_nat xs 0
@[simp] theorem ix_lst0 {xs : List D} : ixD (.lst xs) (.int 0) = xs[0]? := atI_nat xs 0
@[simp] theorem ix_tup1 {xs : List D} : ixD (.tup xs) (.int 1) = xs[1]? := atI_nat xs 1
@[simp] theorem ix_lst1 {xs : List D} : ixD (.lst xs) (.int 1) = xs[1]? := atI_nat xs 1
@[simp] theorem ix_tup2 {xs : List D} : ixD (.tup xs) (.int 2) = xs[2]? := atI_nat xs 2
@[simp] theorem ix_lst2 {xs : List D} : ixD (.lst xs) (.int 2) = xs[2]? := atI_nat xs 2
@[simp] theorem ix_tup3 {xs : List D} : ixD (.tup xs) (.int 3) = xs[3]? := atI_nat xs 3
@[simp] theorem ix_lst3 {xs : List D} : ixD (.lst xs) (.int 3) = xs[3]? := atI_nat xs 3
@[simp] theorem ix_tup4 {xs : List D} : ixD (.tup xs) (.int 4) = xs[4]? := atI_nat xs 4
@[simp] theorem ix_lst4 {xs : List D} : ixD (.lst xs) (.int 4) = xs[4]? := atI_nat xs 4
@[simp] theorem ix_tup5 {xs : List D} : ixD (.tup xs) (.int 5) = xs[5]? := atI_nat xs 5
@[simp] theorem ix_lst5 {xs : List D} : ixD (.lst xs) (.int 5) = xs[5]? := atI_nat xs 5
@[simp] theorem ix_tup6 {xs : List D} : ixD (.tup xs) (.int 6) = xs[6]? := atI_nat xs 6
@[simp] theorem ix_lst6 {xs : List D} : ixD (.lst xs) (.int 6) = xs[6]? := atI_nat xs 6
@[simp] theorem ix_tup7 {xs : List D} : ixD (.tup xs) (.int 7) = xs[7]? := atI_nat xs 7
@[simp] theorem ix_lst7 {xs : List D} : ixD (.lst xs) (.int 7) = xs[7]? := atI_nat xs 7
@[simp] theorem ix_tup8 {xs : List D} : ixD (.tup xs) (.int 8) = xs[8]? := atI_nat xs 8
@[simp] theorem ix_lst8 {xs : List D} : ixD (.lst xs) (.int 8) = xs[8]? := atI_nat xs 8
@[simp] theorem len_tup {xs : List D} : lenD (.tup xs) = some (.int xs.length) := rfl
@[simp] theorem len_lst {xs : List D} : lenD (.lst xs) = some (.int xs.length) := rfl
@[simp] theorem len_dic {ks vs : List D} : lenD (.dic ks vs) = some (.int ks.length) := rfl
@[simp] theorem eq_int {i j : Int} : eqD (.int i) (.int j) = some (.bl (decide (i = j))) := by simp [eqD, eqS, Bool.beq_eq_decide_eq]
@[simp] theorem eq_str {i j : Str} : eqD (.str i) (.str j) = some (.bl (decide (i = j))) := by simp [eqD, eqS, Bool.beq_eq_decide_eq]
@[simp] theorem eq_bl {i j : Bool} : eqD (.bl i) (.bl j) = some (.bl (decide (i = j))) := by simp [eqD, eqS, Bool.beq_eq_decide_eq]
@[simp] theorem ne_int {i j : Int} : neD (.int i) (.int j) = some (.bl (!decide (i = j))) := by simp [neD, eqS, Bool.beq_eq_decide_eq]
@[simp] theorem ne_str {i j : Str} : neD (.str i) (.str j) = some (.bl (!decide (i = j))) := by simp [neD, eqS, Bool.beq_eq_decide_eq]
@[simp] theorem ne_bl {i j : Bool} : neD (.bl i) (.bl j) = some (.bl (!decide (i = j))) := by simp [neD, eqS, Bool.beq_eq_decide_eq]
@[simp] theorem lt_int {i j : Int} : ltI (.int i) (.int j) = some (.bl (decide (i < j))) := rfl
@[simp] theorem le_int {i j : Int} : leI (.int i) (.int j) = some (.bl (decide (i ≤ j))) := rfl
@[simp] theorem gt_int {i j : Int} : gtI (.int i) (.int j) = some (.bl (decide (j < i))) := rfl
@[simp] theorem ge_int {i j : Int} : geI (.int i) (.int j) = some (.bl (decide (j ≤ i))) := rfl
@[simp] theorem sub_int {i j : Int} : subI (.int i) (.int j) = some (.int (i - j)) := rfl
@[simp] theorem addI_int {i j : Int} : addI (.int i) (.int j) = some (.int (i + j)) := rfl
@[simp] theorem add_ints {i j : Int} : addD (.int i) (.int j) = some (.int (i + j)) := rfl
@[simp] theorem add_tup {xs ys : List D} : addD (.tup xs) (.tup ys) = if xs.length + ys.length ≤ SZ then some (.tup (xs ++ ys)) else none := rfl
@[simp] theorem add_lst {xs ys : List D} : addD (.lst xs) (.lst ys) = if xs.length + ys.length ≤ SZ then some (.lst (xs ++ ys)) else none := rfl
@[simp] theorem int_int {i : Int} : intD (.int i) = some (.int i) := rfl
@[simp] theorem tup_lst {xs : List D} : tupD (.lst xs) = some (.tup xs) := by rfl
@[simp] theorem isi_non {s} : isiD .non (.ty s) = (tgN s).map fun t => .bl (isTg .non t) := by unfold isiD; simp only [tgD]; cases tgN s <;> rfl
@[simp] theorem isi_bl {b s} : isiD (.bl b) (.ty s) = (tgN s).map fun t => .bl (isTg .bl t) := by unfold isiD; simp only [tgD]; cases tgN s <;> rfl
@[simp] theorem isi_int {b s} : isiD (.int b) (.ty s) = (tgN s).map fun t => .bl (isTg .int t) := by unfold isiD; simp only [tgD]; cases tgN s <;> rfl
@[simp] theorem isi_str {b s} : isiD (.str b) (.ty s) = (tgN s).map fun t => .bl (isTg .str t) := by unfold isiD; simp only [tgD]; cases tgN s <;> rfl
@[simp] theorem isi_tup {b s} : isiD (.tup b) (.ty s) = (tgN s).map fun t => .bl (isTg .tup t) := by unfold isiD; simp only [tgD]; cases tgN s <;> rfl
@[simp] theorem isi_lst {b s} : isiD (.lst b) (.ty s) = (tgN s).map fun t => .bl (isTg .lst t) := by unfold isiD; simp only [tgD]; cases tgN s <;> rfl
@[simp] theorem isi_dic {b c s} : isiD (.dic b c) (.ty s) = (tgN s).map fun t => .bl (isTg .dic t) := by unfold isiD; simp only [tgD]; cases tgN s <;> rfl
@[simp] theorem tgN_tuple : tgN "tuple" = some .tup := by decide
@[simp] theorem tgN_list : tgN "list" = some .lst := by decide
@[simp] theorem tgN_str : tgN "str" = some .str := by decide
@[simp] theorem tgN_int : tgN "int" = some .int := by decide
@[simp] theorem tgN_bool : tgN "bool" = some .bl := by decide
@[simp] theorem tgN_dict : tgN "dict" = some .dic := by decide
theorem isTg_eq (a b : Tg) : isTg a b = (decide (a = b) || (decide (a = .bl) && decide (b = .int))) := rfl
@[simp] theorem sl1 {x : D} {xs : List D} : slD (.tup (x :: xs)) (some 1) none = some (.tup xs) := by
  show some (D.tup (cutD (x :: xs) (some ((1 : Nat) : Int)) none)) = _
  unfold cutD
  rw [HT.sIx_nat, HT.sIx_none]
  simp only [List.length_cons, show min 1 (xs.length + 1) = 1 by omega, List.drop_succ_cons, List.drop_zero]
  rw [List.take_of_length_le (by omega)]
@[simp] theorem zip_nil : zipD [] [] = [] := rfl
@[simp] theorem zip_cons {x y : D} {xs ys : List D} : zipD (x :: xs) (y :: ys) = .tup [x, y] :: zipD xs ys := rfl
@[simp] theorem bls_nil : blsOf [] = some [] := rfl
@[simp] theorem bls_cons {b r} : blsOf (.bl b :: r) = (blsOf r).map fun bs => b :: bs := by rw [blsOf]; cases blsOf r <;> rfl
@[simp] theorem all_at {ds} : allD (.lst ds) = (blsOf ds).map fun bs => .bl (bs.all id) := by show (match blsOf ds with | some bs => _ | none => _) = _; cases blsOf ds <;> rfl
@[simp] theorem any_at {ds} : anyD (.lst ds) = (blsOf ds).map fun bs => .bl (bs.any id) := by show (match blsOf ds with | some bs => _ | none => _) = _; cases blsOf ds <;> rfl
@[simp] theorem lst_tup {xs : List D} : lstD (.tup xs) = some (.lst xs) := rfl
@[simp] theorem lst_lst {xs : List D} : lstD (.lst xs) = some (.lst xs) := rfl
@[simp] theorem lst_scr {ns : List Int} : lstD (.scr ns) = some (.lst (ns.map .int)) := rfl
@[simp] theorem sz2 {n : Nat} (h : n ≤ 1000) : n ≤ SZ := by unfold SZ; omega
@[simp] theorem sz_val : SZ = 100000 := rfl
@[simp] theorem is_non {x : D} : isD x .non = some (.bl (isNon x)) := by cases x <;> rfl
@[simp] theorem isn_non {x : D} : isnD x .non = some (.bl (!isNon x)) := by cases x <;> rfl

/-! ### same -/
mutual
/-- plain values of bounded depth -/
def pln : D → Nat → Prop
  | .non, _ => True
  | .bl _, _ => True
  | .int _, _ => True
  | .str _, _ => True
  | .tup xs, k + 1 => xs.length ≤ 1000 ∧ plnL xs k
  | .lst xs, k + 1 => xs.length ≤ 1000 ∧ plnL xs k
  | _, _ => False
def plnL : List D → Nat → Prop
  | [], _ => True
  | x :: xs, k => pln x k ∧ plnL xs k
end
theorem plnL.get {k : Nat} : ∀ {xs : List D} {i : Nat} {x : D}, plnL xs k → xs[i]? = some x → pln x k
  | [], _, _, _, e => by simp at e
  | x :: xs, 0, y, h, e => by simp at e; subst e; unfold plnL at h; exact h.1
  | x :: xs, i + 1, y, h, e => by unfold plnL at h; exact plnL.get (i := i) h.2 (by simpa using e)
theorem same_loop {h : FnD} {a : D} {xs : List D} (hx : ∀ k : Nat, ixD a (.int (k : Int)) = xs[k]?) (hh : ∀ (i : Nat) (x : D), xs[i]? = some x → h [x, x] = some (.bl true, false, [])) : ∀ l : List Nat, (∀ i ∈ l, i < xs.length) →
    compD [2] (hNm 2) (gNot (gT (shW (gCallD [false, false] h [] (gVa (gOp2 ixD (oNm 0) (oNm 2)) (gVa (gOp2 ixD (oNm 1) (oNm 2)) (fun ρ => some ([], ρ)))))))) (gNm 2) (l.map fun i => .int (0 + (i : Nat))) [.sh a, .sh a, .no] = some ([], [.sh a, .sh a, .no])
  | [], _ => rfl
  | i :: l, hl => by
    have hi := hl i List.mem_cons_self
    have e := hh i _ (List.getElem?_eq_getElem hi)
    have ex := hx i
    rw [List.getElem?_eq_getElem hi] at ex
    have ih := same_loop hx hh l fun j m => hl j (List.mem_cons_of_mem _ m)
    simp only [List.map_cons, compD_cons]
    simp [ex, e]
    simpa using ih
theorem same_ok {S : Nat → FnD} (hS : ∀ n ds, S (n + 1) ds = runG [false, false] 3 (sameB (S n)) ds) : ∀ (n : Nat) (x : D), pln x n → S (n + 1) [x, x] = some (.bl true, false, [])
  | n, .non, _ => by rw [hS]; simp [at_run, sameB, isTg_eq, isNon]
  | n, .bl b, _ => by rw [hS]; simp [at_run, sameB, isTg_eq, isNon]
  | n, .int i, _ => by rw [hS]; simp [at_run, sameB, isTg_eq, isNon]
  | n, .str s, _ => by rw [hS]; simp [at_run, sameB, isTg_eq, isNon]
  | 0, .tup xs, h => by simp [pln] at h
  | 0, .lst xs, h => by simp [pln] at h
  | n + 1, .tup xs, h => by
    unfold pln at h
    have ih : ∀ i x, xs[i]? = some x → S (n + 1) [x, x] = some (.bl true, false, []) := fun i x e => same_ok hS n x (h.2.get e)
    have lp := same_loop (a := .tup xs) (fun k => ix_tup) ih (List.range xs.length) fun i m => List.mem_range.mp m
    have hl : (xs.length : Int) ≤ 100000 := by have := h.1; omega
    have hl2 : (-100000 : Int) ≤ xs.length := by omega
    rw [hS]
    simp [at_run, sameB, isTg_eq, isNon, rngD, hl, hl2]
    simp at lp
    simp [lp]
  | n + 1, .lst xs, h => by
    unfold pln at h
    have ih : ∀ i x, xs[i]? = some x → S (n + 1) [x, x] = some (.bl true, false, []) := fun i x e => same_ok hS n x (h.2.get e)
    have lp := same_loop (a := .lst xs) (fun k => ix_lst) ih (List.range xs.length) fun i m => List.mem_range.mp m
    have hl : (xs.length : Int) ≤ 100000 := by have := h.1; omega
    have hl2 : (-100000 : Int) ≤ xs.length := by omega
    rw [hS]
    simp [at_run, sameB, isTg_eq, isNon, rngD, hl, hl2]
    simp at lp
    simp [lp]
  | n, .ty _, h => by cases n <;> simp [pln] at h
  | n, .fn _, h => by cases n <;> simp [pln] at h
  | n, .scr _, h => by cases n <;> simp [pln] at h
  | n, .dic _ _, h => by cases n <;> simp [pln] at h
  | n, .ins _ _ _ _, h => by cases n <;> simp [pln] at h

/-! ### draws -/
structure Dr where
  ns : List Int
  at_ : Nat
  big : Int
  seed : Int
def Dr.d (s : Dr) : D := .lst [.lst (s.ns.map .int), .int s.at_, .int s.big, .int s.seed]
def Dr.ok (s : Dr) : Prop := 0 ≤ s.big
@[simp] theorem put_lst {xs : List D} {k : Nat} {d : D} : putD (.lst xs) (.int (k : Int)) d = if k < xs.length then some (.lst (xs.set k d)) else none := by
  show (match ixN xs.length (k : Int) with | some j => _ | none => _) = _
  unfold ixN
  simp only [Int.natCast_nonneg, if_true]
  by_cases h : k < xs.length
  · simp [h, Int.ofNat_lt.mpr h]
  · simp [h]
@[simp] theorem put_lst1 {xs : List D} {d : D} : putD (.lst xs) (.int 1) d = if 1 < xs.length then some (.lst (xs.set 1 d)) else none := put_lst (k := 1)
@[simp] theorem put_lst2 {xs : List D} {d : D} : putD (.lst xs) (.int 2) d = if 2 < xs.length then some (.lst (xs.set 2 d)) else none := put_lst (k := 2)
@[simp] theorem put_lst3 {xs : List D} {d : D} : putD (.lst xs) (.int 3) d = if 3 < xs.length then some (.lst (xs.set 3 d)) else none := put_lst (k := 3)
@[simp] theorem put_lst4 {xs : List D} {d : D} : putD (.lst xs) (.int 4) d = if 4 < xs.length then some (.lst (xs.set 4 d)) else none := put_lst (k := 4)
theorem mod_pos {i j : Int} (h : 0 < j) : modI (.int i) (.int j) = some (.int (i % j)) := by simp [modI, h]
theorem div_pos {i j : Int} (h : 0 < j) (h2 : j < 1073741824) : divI (.int i) (.int j) = some (.int (i / j)) := by simp [divI, h, h2]
theorem mul_small {i j : Int} (h : -(2 ^ 64) < j) (h2 : j < 2 ^ 64) : mulI (.int i) (.int j) = some (.int (i * j)) := by simp only [mulI]; rw [if_pos (.inr ⟨h, h2⟩)]
theorem pow18 : powI (.int 10) (.int 18) = some (.int 1000000000000000000) := by simp [powI]
def drawH : FS := (gIfS (gAnd (gT (gOp2 eqD (oD (gOp2 ixD (oNm 0) (oD (fun ρ => some (.int 2, ρ))))) (oD (fun ρ => some (.int 0, ρ))))) (gT (gOp2 ltI (oD (gOp2 ixD (oNm 0) (oD (fun ρ => some (.int 1, ρ))))) (oD (gOp1 lenD (oD (gOp2 ixD (oNm 0) (oD (fun ρ => some (.int 0, ρ)))))))))) (gSeq (gSet 2 (wD (gOp2 ixD (oD (gOp2 ixD (oNm 0) (oD (fun ρ => some (.int 0, ρ))))) (oD (gOp2 ixD (oNm 0) (oD (fun ρ => some (.int 1, ρ)))))))) (gSeq (gPut 0 (gOp2 addD (oD (gOp2 ixD (oNm 0) (oD (fun ρ => some (.int 1, ρ))))) (oD (fun ρ => some (.int 1, ρ)))) (fun ρ => some (.int 1, ρ))) (gSeq (gIfS (gT (gOp2 geI (oNm 2) (oD (gOp2 powI (oD (fun ρ => some (.int 10, ρ))) (oD (fun ρ => some (.int 18, ρ))))))) (gPut 0 (gNm 2) (fun ρ => some (.int 2, ρ))) gSkip) (gPut 0 (gOp2 modI (oD (gOp1 intD (oD (gOp2 addD (oD (gOp2 addD (oD (gOp2 mulI (oD (gOp2 ixD (oNm 0) (oD (fun ρ => some (.int 3, ρ))))) (oD (fun ρ => some (.int 48271, ρ))))) (oNm 2))) (oD (fun ρ => some (.int 13, ρ))))))) (oD (fun ρ => some (.int 2147483647, ρ)))) (fun ρ => some (.int 3, ρ)))))) gSkip)
def drawT : FS := (gSeq (gIfS (gT (gOp2 gtI (oD (gOp2 ixD (oNm 0) (oD (fun ρ => some (.int 2, ρ))))) (oD (fun ρ => some (.int 0, ρ))))) (gSeq (gSet 3 (wD (gOp2 modI (oD (gOp1 intD (oD (gOp2 ixD (oNm 0) (oD (fun ρ => some (.int 2, ρ))))))) (oNm 1)))) (gSeq (gPut 0 (gOp2 divI (oD (gOp2 ixD (oNm 0) (oD (fun ρ => some (.int 2, ρ))))) (oNm 1)) (fun ρ => some (.int 2, ρ))) (gRet (gMv 3)))) gSkip) (gSeq (gPut 0 (gOp2 modI (oD (gOp1 intD (oD (gOp2 addD (oD (gOp2 mulI (oD (gOp2 ixD (oNm 0) (oD (fun ρ => some (.int 3, ρ))))) (oD (fun ρ => some (.int 69621, ρ))))) (oD (fun ρ => some (.int 7, ρ))))))) (oD (fun ρ => some (.int 2147483629, ρ)))) (fun ρ => some (.int 3, ρ))) (gRet (wD (gOp2 modI (oD (gOp1 intD (oD (gOp2 divI (oD (gOp2 ixD (oNm 0) (oD (fun ρ => some (.int 3, ρ))))) (oD (fun ρ => some (.int 11, ρ))))))) (oNm 1))))))
theorem draw_ok (s : Dr) (h : s.ok) {lim : Int} (h0 : 0 < lim) (h1 : lim < 1073741824) : ∃ (v : Int) (s' : Dr), s'.ok ∧ 0 ≤ v ∧ v < lim ∧ runG [true, false] 4 drawB [s.d, .int lim] = some (.int v, false, [s'.d]) := by
  obtain ⟨ns, i, b, l⟩ := s
  have hb : 0 ≤ b := h
  -- what the second half does
  have tail : ∀ (i' : Nat) (b' l' : Int), 0 ≤ b' → ∀ x2 : Sl, ∃ (v : Int) (s' : Dr), s'.ok ∧ 0 ≤ v ∧ v < lim ∧ (drawT [.bo 0 (Dr.mk ns i' b' l').d, .sh (.int lim), x2, .no]).bind (kRn [true, false]) = some (.int v, false, [s'.d]) := fun i' b' l' hb' x2 => by
    by_cases hp : 0 < b'
    · refine ⟨b' % lim, ⟨ns, i', b' / lim, l'⟩, Int.ediv_nonneg hb' (by omega), Int.emod_nonneg _ (by omega), Int.emod_lt_of_pos _ h0, ?_⟩
      simp [drawT, Dr.d, hp, mod_pos h0, div_pos h0 h1]
    · refine ⟨(l' * 69621 + 7) % 2147483629 / 11 % lim, ⟨ns, i', b', (l' * 69621 + 7) % 2147483629⟩, hb', Int.emod_nonneg _ (by omega), Int.emod_lt_of_pos _ h0, ?_⟩
      simp [drawT, Dr.d, hp, mod_pos h0, mod_pos (show (0 : Int) < 2147483629 by decide), div_pos (show (0 : Int) < 11 by decide) (by decide), mul_small (i := l') (show -(2 ^ 64) < (69621 : Int) by decide) (by decide)]
  have split : ∀ ρ, drawB ρ = (drawH ρ).bind (kSeq drawT) := fun ρ => at_seq
  rw [at_run, split]
  by_cases hc : b = 0 ∧ i < ns.length
  · obtain ⟨rfl, hi⟩ := hc
    obtain ⟨c, hcell⟩ : ∃ c, ns[i]? = some c := ⟨_, List.getElem?_eq_getElem hi⟩
    have hi' : (i : Int) < ns.length := by omega
    by_cases hbig : 1000000000000000000 ≤ c
    · obtain ⟨v, s', r1, r2, r3, r4⟩ := tail (i + 1) c ((l * 48271 + c + 13) % 2147483647) (by omega) (.sh (.int c))
      refine ⟨v, s', r1, r2, r3, ?_⟩
      rw [← r4]
      congr 1
      simp [drawH, Dr.d, hi', hcell, hbig, pow18, mod_pos (show (0 : Int) < 2147483647 by decide), mul_small (i := l) (show -(2 ^ 64) < (48271 : Int) by decide) (by decide)]
    · obtain ⟨v, s', r1, r2, r3, r4⟩ := tail (i + 1) 0 ((l * 48271 + c + 13) % 2147483647) (by omega) (.sh (.int c))
      refine ⟨v, s', r1, r2, r3, ?_⟩
      rw [← r4]
      congr 1
      simp [drawH, Dr.d, hi', hcell, hbig, pow18, mod_pos (show (0 : Int) < 2147483647 by decide), mul_small (i := l) (show -(2 ^ 64) < (48271 : Int) by decide) (by decide)]
  · obtain ⟨v, s', r1, r2, r3, r4⟩ := tail i b l hb .no
    refine ⟨v, s', r1, r2, r3, ?_⟩
    rw [← r4]
    congr 1
    by_cases hz : b = 0
    · subst hz
      have hi : ¬ (i : Int) < ns.length := fun z => hc ⟨rfl, by omega⟩
      simp [drawH, Dr.d, hi]
    · simp [drawH, Dr.d, hz]
theorem draws_ok (ns : List Int) : runG [false] 1 drawsB [.scr ns] = some ((Dr.mk ns 0 0 1).d, true, []) := by
  simp [at_run, drawsB, Dr.d]
/-! ### equality of plain values -/
theorem eqP_ok {x y : D} (hx : okPy x = true) (hy : okPy y = true) : eqP x y = some (.bl (PyData.eqv (toPy x) (toPy y))) := by unfold eqP; rw [if_pos ⟨hx, hy⟩]
theorem neP_ok {x y : D} (hx : okPy x = true) (hy : okPy y = true) : neP x y = some (.bl (!PyData.eqv (toPy x) (toPy y))) := by unfold neP; rw [if_pos ⟨hx, hy⟩]
end DV

/-! DV12: the end of a claim. -/
namespace DV
open L2 PySem PySem.Spec PyProof.Rows
abbrev KOf {K : PySem.W.Frag} {h : Heap} (_ : K.In h) : PySem.W.Frag := K
section
variable {P : Program} {w : World} {K : PySem.W.Frag} {mg : Str → Option Value}
theorem law_mk {h : Heap} {st : Stmt} {N : List Str} {n : Nat} {g : FS} (X : K.In h) (G : h.Ns mainGlobals mg) {fa f : Addr} (hfa : mg "law" = some (.ref fa)) {od an : Option Addr} {sl : Array (Option Value)} {oc kV dc pm cd ct : Value}
    (S : FnScope N ["script"] (defScope st)) (hb : ∀ (s : Shared) (kV dc pm : Value) (an : Option Addr) (cd ct v : Value), BindsTo s (PySem.W.fnOf "law" "law" (defArgs st) (defBody st) (defScope st) .none kV dc pm an cd ct) ⟨[v], []⟩ [("script", v)])
    (hbody : ∀ (base : Heap) (f : Addr) (cdv : Value) (A : Around) (outer : List PySem.Env) (s : Shared) (H : Hp) (E : XK), Room n (A.deeper (envOfC "law" (defScope st) s.heap.objs.size f cdv)) → PSs (bodyX P w K mg base N "law" (defScope st) f cdv A outer s H E) (defBody st) (tS ⟨K, mg⟩ g))
    (a : PySem.W.nsIn K mainGlobals "law" = some (some (.ref f))) (l : K.lookup f = some ⟨oc, od, .func (PySem.W.fnOf "law" "law" (defArgs st) (defBody st) (defScope st) .none kV dc pm an cd ct), sl⟩) (c : PySem.W.codeIn K cd "law" = true) (k : PySem.W.keepIn K (.ref f) = true) :
    ∃ fd : FuncData, (∀ (s : Shared) (v : Value), BindsTo s fd ⟨[v], []⟩ [("script", v)]) ∧ ∀ base : Heap, K.In base → base.Ns mainGlobals mg → FnOk P w K mg base CX0 (n + 1) fa fd ["script"] (spD ⟨K, mg⟩ [false] (runG [false] N.length g)) := by
  have e := hfa.symm.trans (PySem.W.mg_of X G a)
  cases e
  exact ⟨_, fun s v => hb s kV dc pm an cd ct v, fun base _ _ => fn_ok (fun_mk l c k) S rfl rfl fun cdv A outer s H E hr => hbody base _ cdv A outer s H E hr⟩
end
end DV

/-! DV13: dicts: comprehensions, locks, sorted, dict(..), update; texts walked. -/
namespace DV
open L2 PySem PySem.Spec PyProof.Rows

/-! ### walking a text, a list, a tuple -/
theorem it_str {K : Kc} {F : Addr → Prop} {H : Hp} {x : Str} : ItOk K (Its x) (x.cps.toList.map fun c => .str ⟨#[c]⟩) F H := fun F2 H2 s fk i => by
  refine ⟨fun d hd => ?_, fun hl => by show x.cps.size ≤ i; simpa using hl⟩
  rw [List.getElem?_map] at hd
  obtain ⟨c, hc, rfl⟩ := Option.map_eq_some_iff.mp hd
  obtain ⟨hl, e⟩ := List.getElem?_eq_some_iff.mp hc
  refine ⟨by show i < x.cps.size; simpa using hl, fun y H3 q => ?_⟩
  obtain ⟨rfl, c', e', rfl⟩ := q
  have : c' = c := by
    have z : x.cps.toList[i]? = some c' := by simpa using e'
    rw [hc] at z; cases z; rfl
  subst this
  exact ⟨F2, .refl, Rep.str'⟩
def gSqA (g : FD) : FL := fun ρ => match g ρ with
  | some (.lst xs, ρ1) => some (xs, ρ1)
  | some (.tup xs, ρ1) => some (xs, ρ1)
  | some (.str x, ρ1) => some (x.cps.toList.map fun c => .str ⟨#[c]⟩, ρ1)
  | _ => none
theorem ci_seqA {X : Cx} {tg e : Expr} {g : FD} (h : PE X e (tD (kc X) g)) : PI X tg e (tI (kc X) (gSqA g)) := by
  refine ⟨fun pins s σ H R I hq => ?_⟩
  obtain ⟨F, B, as, ρ, items, ρ', S, e, k⟩ := hq
  unfold gSqA at e
  split at e
  · rename_i xs ρ1 q
    cases e
    exact (ci_seq h).run pins s σ H R I ⟨F, B, as, ρ, _, _, S, by unfold gSq; rw [q], k⟩
  · rename_i xs ρ1 q
    cases e
    exact (ci_seq h).run pins s σ H R I ⟨F, B, as, ρ, _, _, S, by unfold gSq; rw [q], k⟩
  · rename_i x ρ1 q
    cases e
    refine (pi_str h).run pins s σ H R I ⟨F, B, as, ρ, _, _, S, q, fun v H1 F1 as1 E1 S1 r => ?_⟩
    unfold Rep at r
    subst r
    exact ⟨x, rfl, k _ H1 F1 as1 E1 S1 it_str⟩
  · cases e

/-! ### {} -/
theorem own_dic {K : Kc} {F : Addr → Prop} {H : Hp} {p : Addr} {kvs : List (Key × V)} {ds : List D} (hp : H p = none) (r : RepL K F H ds (kvs.map (·.2))) : Own K F (upd H p (.dK kvs)) (.dic (kvs.map fun q => dkey q.1) ds) (.ref p) [p] := by
  have E : Ext F [] H F [p] (upd H p (.dK kvs)) := Ext.newO hp
  unfold Own OwnC
  exact ⟨p, kvs, rfl, upd_same, rfl, RepL.stb E.stb.weak _ _ r, rfl⟩
def gDic0 : FW := fun ρ => some (.dic [] [], true, ρ)
theorem cw_dic0 {X : Cx} {pos : Pos} : PE X (.Dict [] [] pos) (tW (kc X) gDic0) := PE.to pe_dnewK fun σ H Q ⟨F, B, as, ρ, d, w, ρ', S, e, k⟩ => by
  cases e
  intro p hp
  obtain ⟨E2, S2⟩ := new_own hp S (own_dic (kvs := []) (ds := []) hp RepL.nil)
  exact k _ _ F as [p] E2 S2

/-! ### a key is stored -/
theorem putD_dic {K : Kc} {F : Addr → Prop} {H : Hp} {kvs : List (Key × V)} {ds : List D} {k d c' : D} {vk v : V} (h2 : RepL K F H ds (kvs.map (·.2))) (rk : Rep K F H k vk) (rd : Rep K F H d v) (e : putD (.dic (kvs.map fun p => dkey p.1) ds) k d = some c') :
    kvs.length < sizeLine ∧ ∃ key vs', vk = kV key ∧ c' = .dic ((putK kvs key v).map fun p => dkey p.1) vs' ∧ RepL K F H vs' ((putK kvs key v).map (·.2)) := by
  unfold putD at e
  simp only at e
  split at e
  · rename_i hk
    obtain ⟨key, rfl⟩ := isKey_to hk.1
    have hz : kvs.length < sizeLine := by have := hk.2; rw [List.length_map] at this; exact sz_lt (by omega)
    refine ⟨hz, key, ?_⟩
    rw [any_key] at e
    split at e
    · rename_i hh
      cases e
      refine ⟨dputV (kvs.map fun p => dkey p.1) ds (dkey key) d, Vw.key rk.vw, ?_, ?_⟩
      · unfold putK
        rw [if_pos hh, put_keys]
      · unfold putK
        rw [if_pos hh]
        exact dput_some rd h2
    · rename_i hh
      cases e
      refine ⟨ds ++ [d], Vw.key rk.vw, ?_, ?_⟩
      · unfold putK
        rw [if_neg hh, List.map_append]
        rfl
      · unfold putK
        rw [if_neg hh, List.map_append]
        exact h2.append (RepL.cons rd RepL.nil)
  · cases e
theorem putD_is {ks vs : List D} {k d c' : D} (e : putD (.dic ks vs) k d = some c') : ∃ ks' vs', c' = .dic ks' vs' := by
  unfold putD at e
  simp only at e
  split at e
  · split at e <;> cases e <;> exact ⟨_, _, rfl⟩
  · cases e

/-! ### dict comprehensions -/
def dcompD (vs : List Nat) (h : FG) (tt : FT) (tk tv : FD) : List D → Env → D → Option (D × Env)
  | [], ρ, acc => some (acc, ρ)
  | d :: ds, ρ, acc => match h d ρ with
    | some ρ1 => match tt ρ1 with
      | some (true, ρ2) => match tk ρ2 with
        | some (y, ρ3) => match tv ρ3 with
          | some (z, ρ4) => match putD acc y z with
            | some acc' => dcompD vs h tt tk tv ds (wipeE ρ4 vs) acc'
            | none => none
          | none => none
        | none => none
      | some (false, ρ2) => dcompD vs h tt tk tv ds (wipeE ρ2 vs) acc
      | none => none
    | none => none
def gDComp (vs : List Nat) (gi : FL) (h : FG) (tt : FT) (tk tv : FD) : FW := fun ρ => match gi ρ with
  | some (items, ρ1) => if okOwn ρ1 vs = true then match dcompD vs h tt tk tv items (wipeE ρ1 vs) (.dic [] []) with
      | some (c, ρ2) => some (c, true, backE ρ1 ρ2 vs)
      | none => none
    else none
  | none => none
theorem dcomp_fit {K : Kc} {vs ts : List Nat} {gi : FL} {h : FG} {tt : FT} {tk tv : FD} {σ : L2.St} {H : Hp} {Q : VK} (hts : ∀ j, j ∈ ts → j ∈ vs) (hq : tW K (gDComp vs gi h tt tk tv) σ H Q) : tDc (tI K gi) (tG K ts h) (tB K tt) (tD K tk) (tD K tv) vs σ H Q := by
  obtain ⟨F, B, as, ρ, d, w, ρ', S, e, k⟩ := hq
  unfold gDComp at e
  split at e
  · rename_i items ρ1 q
    split at e
    · rename_i hok
      split at e
      · rename_i cc ρ2 q2
        simp only [Option.some.injEq, Prod.mk.injEq] at e
        obtain ⟨ee1, ee2, ee3⟩ := e
        subst ee1 ee2 ee3
        refine ⟨F, B, as, ρ, items, ρ1, S, q, fun J H1 F1 as1 E1 S1 I1 D hD => ?_⟩
        obtain ⟨asw, Sw, subw⟩ := S1.wiped vs
        have hDa : ∀ b, b ∈ as1 → b ≠ D := fun b m e => by
          obtain ⟨u, z⟩ := S1.env.there b m
          rw [e, hD] at z; cases z
        have E0 : Ext F1 as1 H1 F1 (D :: as1) (upd H1 D (.dK [])) := Ext.newO hD
        let Wn : Nat → Hp → Prop := fun i H => ∃ F' as' ρ3 kvs accV, Sit K F' B H ρ3 (wipe σ vs) as' ∧ H D = some (.dK kvs) ∧ RepL K F' H accV (kvs.map (·.2)) ∧ D ∉ as' ∧ ¬ F' D ∧ dcompD vs h tt tk tv (items.drop i) ρ3 (.dic (kvs.map fun p => dkey p.1) accV) = some (cc, ρ2) ∧ ItOk K J items F' H ∧
          Stb F1 H1 F' H ∧ Ext F1 as1 H1 F' (D :: as') H
        have start : Wn 0 (upd H1 D (.dK [])) := by
          refine ⟨F1, asw, wipeE ρ1 vs, [], [], ⟨Sw.env.stb E0.stb (Kept.of fun b u h => by rw [upd_ne (ne_of_none h hD)]; exact h), Sw.nd, Sw.nf, E0.fk S1.fk⟩, upd_same, RepL.nil, fun m => hDa D (subw.subset m) rfl, fun f => S1.fk D f hD, by simpa using q2, I1.stb E0.stb, E0.stb, E0.sub fun b m => ?_⟩
          rcases List.mem_cons.mp m with m | m
          · rw [m]; exact List.mem_cons_self
          · exact List.mem_cons_of_mem _ (subw.subset m)
        refine ⟨fun i m H => m = items.length - i ∧ i ≤ items.length ∧ Wn i H, ⟨items.length, rfl, Nat.zero_le _, start⟩, ?_⟩
        rintro i m H2 ⟨rfl, hi, F2, as2, ρ3, kvs, accV, S2, hD2, rA, nD, fD, e2, I2, st2, E2⟩
        have IJ := I2 F2 H2 .refl S2.fk i
        by_cases hlt : i < items.length
        · obtain ⟨d, hd, hdr⟩ := drop_cons hlt
          rw [hdr] at e2
          unfold dcompD at e2
          obtain ⟨go, step⟩ := IJ.1 d hd
          refine .inr ⟨go, Wn (i + 1), fun H' w => ⟨_, by omega, rfl, hlt, w⟩, fun x H3 y => ?_⟩
          obtain ⟨F3, E3, r3⟩ := step x H3 y
          have S3 := S2.step E3
          split at e2
          · rename_i ρ4 q4
            refine ⟨F3, B, as2, ρ3, d, ρ4, S3, r3, q4, fun σ5 H5 F5 as5 l5 n5 E5 S5 => ?_⟩
            have w5 : wipe σ5 vs = wipe σ vs := wipe_at (by rw [l5, wipe_length]) fun j hj => n5 j fun m => hj (hts j m)
            refine ⟨w5, ?_⟩
            have keepD : ∀ {Fa Fb : Addr → Prop} {aa ab : List Addr} {Ha Hb : Hp}, Ext Fa aa Ha Fb ab Hb → D ∉ aa → ¬ Fa D → ∀ u, Ha D = some u → Hb D = some u ∧ D ∉ ab ∧ ¬ Fb D := fun {Fa Fb aa ab Ha Hb} E n f u h => by
              refine ⟨E.keep D u h n, fun m => ?_, fun m => ?_⟩
              · rcases E.anew D m with z | z
                · exact n z
                · rw [h] at z; cases z
              · rcases E.fnew D m with z | z | z
                · exact f z
                · exact n z
                · rw [h] at z; cases z
            obtain ⟨hD3, nD3, fD3⟩ := keepD (E3.pure (as := as2)) nD fD _ hD2
            obtain ⟨hD5, nD5, fD5⟩ := keepD E5 nD3 fD3 _ hD3
            have endw : ∀ {F6 : Addr → Prop} {as6 : List Addr} {H6 : Hp} {ρ6 : Env} {kvs6 : List (Key × V)} {accV6 : List DV.D}, Sit K F6 B H6 ρ6 σ5 as6 → H6 D = some (.dK kvs6) → RepL K F6 H6 accV6 (kvs6.map (·.2)) → D ∉ as6 → ¬ F6 D → dcompD vs h tt tk tv (items.drop (i + 1)) (wipeE ρ6 vs) (.dic (kvs6.map fun p => dkey p.1) accV6) = some (cc, ρ2) →
                Stb F2 H2 F6 H6 → Ext F2 (D :: as2) H2 F6 (D :: as6) H6 → Wn (i + 1) H6 := fun {F6 as6 H6 ρ6 kvs6 accV6} S6 h6 r6 n6 f6 c6 s6 E6 => by
              obtain ⟨as7, S7, sub7⟩ := S6.wiped vs
              rw [w5] at S7
              refine ⟨F6, as7, wipeE ρ6 vs, kvs6, accV6, S7, h6, r6, fun m => n6 (sub7.subset m), f6, c6, I2.stb s6, st2.trans s6, (E2.trans E6).sub fun b m => ?_⟩
              rcases List.mem_cons.mp m with m | m
              · rw [m]; exact List.mem_cons_self
              · exact List.mem_cons_of_mem _ (sub7.subset m)
            have wide : ∀ {Fa Fb : Addr → Prop} {aa ab : List Addr} {Ha Hb : Hp}, Ext Fa aa Ha Fb ab Hb → Ext Fa (D :: aa) Ha Fb (D :: ab) Hb := fun {Fa Fb aa ab Ha Hb} E => Ext.frameL (fr := [D]) E
            split at e2
            · rename_i ρ5 q5
              split at e2
              · rename_i yd ρ6 q6
                split at e2
                · rename_i zd ρ7 q7
                  split at e2
                  · rename_i acc' q8
                    refine ⟨F5, B, as5, ρ4, true, ρ5, S5, q5, fun H6 F6 as6 E6 S6 => ?_⟩
                    simp only [if_true]
                    obtain ⟨hD6, nD6, fD6⟩ := keepD E6 nD5 fD5 _ hD5
                    refine ⟨F6, B, as6, ρ5, yd, ρ6, S6, q6, fun vk H7 F7 as7 E7 S7 r7 => ?_⟩
                    obtain ⟨hD7, nD7, fD7⟩ := keepD E7 nD6 fD6 _ hD6
                    refine ⟨F7, B, as7, ρ6, zd, ρ7, S7, q7, fun vz H8 F8 as8 E8 S8 r8 => ?_⟩
                    obtain ⟨hD8, nD8, fD8⟩ := keepD E8 nD7 fD7 _ hD7
                    have s8 : Stb F2 H2 F8 H8 := (((E3.stb.trans E5.stb).trans E6.stb).trans E7.stb).trans E8.stb
                    have rA8 := RepL.stb s8.weak _ _ rA
                    obtain ⟨hz, key, vs', ek, ec, rV⟩ := putD_dic rA8 (Rep.stb E8.stb.weak _ _ r7) r8 q8
                    refine ⟨kvs, key, ek, hD8, hz, ?_⟩
                    have Ew : Ext F8 (D :: as8) H8 F8 (D :: as8) (upd H8 D (.dK (putK kvs key vz))) := Ext.write hD8 (fun _ z => by cases z) (fun _ _ z => by cases z) List.mem_cons_self fD8
                    have S9 : Sit K F8 B (upd H8 D (.dK (putK kvs key vz))) ρ7 σ5 as8 :=
                      ⟨S8.env.stb Ew.stb fun b m u hb => by rw [upd_ne (fun e => nD8 (by rw [← e]; exact m))]; exact hb, S8.nd, S8.nf, Ew.fk S8.fk⟩
                    subst ec
                    exact endw (accV6 := vs') S9 upd_same (RepL.stb Ew.stb.weak _ _ rV) nD8 fD8 e2 (s8.trans Ew.stb)
                      ((((((wide (E3.pure (as := as2))).trans (wide E5)).trans (wide E6)).trans (wide E7)).trans (wide E8)).trans Ew)
                  · cases e2
                · cases e2
              · cases e2
            · rename_i ρ5 q5
              refine ⟨F5, B, as5, ρ4, false, ρ5, S5, q5, fun H6 F6 as6 E6 S6 => ?_⟩
              simp only [Bool.false_eq_true, if_false]
              obtain ⟨hD6, nD6, fD6⟩ := keepD E6 nD5 fD5 _ hD5
              have s6 : Stb F2 H2 F6 H6 := (E3.stb.trans E5.stb).trans E6.stb
              exact endw S6 hD6 (RepL.stb s6.weak _ _ rA) nD6 fD6 e2 s6 (((wide (E3.pure (as := as2))).trans (wide E5)).trans (wide E6))
            · cases e2
          · cases e2
        · have e3 : i = items.length := by omega
          subst e3
          rw [List.drop_length] at e2
          unfold dcompD at e2
          cases e2
          refine .inl ⟨IJ.2 (Nat.le_refl _), ?_⟩
          obtain ⟨as3, h3, sub3⟩ := backE_env S1.env st2 hok S2.env (fun j hj => wipe_off hj) (wipe_length _ _)
          have nD3 : D ∉ as3 := fun m => nD (sub3.subset m)
          refine k _ H2 F2 as3 [D] ((E1.trans E2).sub fun b m => ?_) ⟨h3, List.nodup_cons.mpr ⟨nD3, S2.nd.sublist sub3⟩, fun b m => ?_, S2.fk, ?_⟩
          · rcases List.mem_cons.mp m with m | m
            · rw [m]; exact List.mem_cons_self
            · exact List.mem_cons_of_mem _ (sub3.subset m)
          · rcases List.mem_cons.mp m with m | m
            · rw [m]; exact fD
            · exact S2.nf b (sub3.subset m)
          · simp only [if_true]
            unfold Own OwnC
            exact ⟨D, kvs, rfl, hD2, rfl, rA, rfl⟩
      · cases e
    · cases e
  · cases e
section
variable {X : Cx}
theorem cw_dc {kx vx tg iter : Expr} {ifs : List Expr} {scope : Scope} {own : List (Str × Nat)} {pos : Pos} {ts : List Nat} {gi : FL} {h : FG} {tt : FT} {tk tv : FD} (hc : X.calm = true) (hN : X.N.Nodup) (hi : PI X tg iter (tI (kc X) gi)) (ok : BlkOk X.N X.env.scope scope own) (hts : ∀ j, j ∈ ts → j ∈ own.map (·.2))
    (hg : ∀ (s : Shared) (H : Hp) (C : Addr) (cl : List (Str × Addr)) (fp : List Addr), PG (X.blk s H scope (compEnvC scope cl C X.env) fp) tg (tG (kc X) ts h)) (ht : ∀ (s : Shared) (H : Hp) (C : Addr) (cl : List (Str × Addr)) (fp : List Addr), PTs (X.blk s H scope (compEnvC scope cl C X.env) fp) ifs (tB (kc X) tt))
    (hk : ∀ (s : Shared) (H : Hp) (C : Addr) (cl : List (Str × Addr)) (fp : List Addr), PE (X.blk s H scope (compEnvC scope cl C X.env) fp) kx (tD (kc X) tk)) (he : ∀ (s : Shared) (H : Hp) (C : Addr) (cl : List (Str × Addr)) (fp : List Addr), PE (X.blk s H scope (compEnvC scope cl C X.env) fp) vx (tD (kc X) tv)) (hs : ∀ x, foldedSetIterable iter X.env x = pure x := by intro _; rfl) :
    PE X (.DictComp kx vx [⟨tg, iter, ifs, 0⟩] scope pos) (tW (kc X) (gDComp (own.map (·.2)) gi h tt tk tv)) :=
  PE.to (pe_dc hc hN hi ok hg ht hk he hs) fun σ H Q hq => dcomp_fit hts hq
end
end DV

/-! DV14: a tuple times a small number. -/
namespace L2
open PySem PySem.Spec PyProof.Rows
set_option maxHeartbeats 4000000 in
theorem tuple_mulZ (l : Addr) (items : Array Value) (n : Nat) (dd : Option Addr) (sl : Array (Option Value)) (x : Int) (u : Tok) (c0 : (decide (x < -(2 ^ 63)) || decide (x ≥ 2 ^ 63)) = false) (c1 : (items.isEmpty || x == 1) = false) (c2 : (decide (x ≤ 0) || items.isEmpty) = true) :
    Meets (Builtin.«tuple.__mul__» ⟨[.ref l, .int x u], []⟩) (fun _ R s => s.heap.get? l = some { cls := .type "tuple", dict := dd, data := .seq items n, slots := sl } ∧
      R (.ok (.ret (Value.ref s.heap.objs.size))) { s with heap := s.heap.push { cls := Value.type "tuple", data := Data.seq #[] }, toks := s.toks }) :=
  .of_wp fun prog w A R s h => by
    obtain ⟨hp, g, d, tk, os⟩ := s
    obtain ⟨hl, h⟩ := h
    have f1 := AutoSeq1.idx_int
    have c2' : x ≤ 0 ∨ items.isEmpty = true := by simpa using c2
    wp_walk using wpAny_loadPart' hl
    repeat (first
      | (refine wpAny_ite_false (decide_eq_false (by rw [c0]; exact Bool.false_ne_true)) ?_; wp_walk using wpAny_loadPart' hl)
      | (refine wpAny_ite_false (decide_eq_false (by rw [c1]; exact Bool.false_ne_true)) ?_; wp_walk using wpAny_loadPart' hl)
      | (refine wpAny_ite_true (decide_eq_true c2) ?_; wp_walk using wpAny_loadPart' hl))
    exact ⟨_, rfl, h⟩
set_option maxHeartbeats 4000000 in
theorem tuple_mul1 (l : Addr) (items : Array Value) (n : Nat) (dd : Option Addr) (sl : Array (Option Value)) (u : Tok) :
    Meets (Builtin.«tuple.__mul__» ⟨[.ref l, .int 1 u], []⟩) (fun _ R s => s.heap.get? l = some { cls := .type "tuple", dict := dd, data := .seq items n, slots := sl } ∧
      R (.ok (.ret (Value.ref l))) s) :=
  .of_wp fun prog w A R s h => by
    obtain ⟨hp, g, d, tk, os⟩ := s
    obtain ⟨hl, h⟩ := h
    have f1 := AutoSeq1.idx_int
    have c1 : (items.isEmpty || (1 : Int) == 1) = true := by simp
    wp_walk using wpAny_loadPart' hl
    repeat (first
      | (refine wpAny_ite_false (by decide) ?_; wp_walk using wpAny_loadPart' hl)
      | (refine wpAny_ite_true (decide_eq_true c1) ?_; wp_walk using wpAny_loadPart' hl))
    exact ⟨_, rfl, h⟩

def rRepS (K : PySem.W.Frag) : R2 := fun x y H Q => ∃ l k xs, x = .ref l ∧ y = .int k ∧ SqT K H l xs ∧ xs ≠ [] ∧ ((k = 0 ∧ NewZ [] H Q) ∨ (k = 1 ∧ Q (.ref l) H))
theorem op_repS {X : Cx} : OpR X (binaryOp .Mult) (rRepS X.K) := by
  intro pins s σ H x y v u Q I rx ry h
  obtain ⟨l, k, xs, rfl, rfl, hT, hne, q⟩ := h
  cases rx
  obtain ⟨t, rfl⟩ := ry
  obtain ⟨its, r, ⟨⟨cls, dd, data, sl⟩, ho, hc, n, hd⟩, hs⟩ := I.tuple hT
  simp only at hc hd
  subst hc hd
  have hn : its ≠ [] := fun e => hne (by
    have hle := r.length
    rw [e] at hle
    exact List.eq_nil_of_length_eq_zero hle)
  have hi : its.toArray.isEmpty = false := by
    cases its with
    | nil => exact absurd rfl hn
    | cons a b => rfl
  rcases q with ⟨rfl, q⟩ | ⟨rfl, q⟩
  · refine wpAny_binaryOp_repeat_ref (T := "tuple") (U := "int") (by decide) ⟨_, ho, rfl⟩ (fun s' => typeIs_int s' 0 t) noFill_tuple_mul F.fills_int_mul F.slot_int_rmul repeat_tuple F.slot_int_index.lookup
      (call_meets F.slot_int_rmul (typeIs_int s 0 t) F.entry_int_rmul (F.args_int_rmul_2 _ _) (int_rmul_tuple 0 t l its.toArray n dd sl)
        ⟨ho, rfl, ⟨_, ho, rfl⟩, call_meets F.slot_tuple_mul ⟨_, ho, rfl⟩ F.entry_tuple_mul (F.args_tuple_mul_2 _ _) (tuple_mulZ l its.toArray n dd sl 0 t (by decide) (by rw [hi]; decide) (by simp)) ⟨ho, ?_⟩⟩)
    exact ⟨.ref s.heap.objs.size, _, I.laid (t' := s.toks) (fun b ob q => Heap.get?_push_of_some _ q) (Nat.le_refl _) (newZ_ok (its := []) (Nat.zero_le _) .nil (Heap.get?_push_size _ rfl) rfl rfl), rfl, q _ _ rfl (I.hok.fresh (Nat.le_refl _))⟩
  · refine wpAny_binaryOp_repeat_ref (T := "tuple") (U := "int") (by decide) ⟨_, ho, rfl⟩ (fun s' => typeIs_int s' 1 t) noFill_tuple_mul F.fills_int_mul F.slot_int_rmul repeat_tuple F.slot_int_index.lookup
      (call_meets F.slot_int_rmul (typeIs_int s 1 t) F.entry_int_rmul (F.args_int_rmul_2 _ _) (int_rmul_tuple 1 t l its.toArray n dd sl)
        ⟨ho, rfl, ⟨_, ho, rfl⟩, call_meets F.slot_tuple_mul ⟨_, ho, rfl⟩ F.entry_tuple_mul (F.args_tuple_mul_2 _ _) (tuple_mul1 l its.toArray n dd sl t) ⟨ho, ?_⟩⟩)
    exact ⟨.ref l, H, I, rfl, q⟩
end L2
namespace DV
open L2 PySem PySem.Spec PyProof.Rows
def repT : D → D → Option D
  | .tup (x :: xs), .int k => if k = 0 then some (.tup []) else if k = 1 then some (.tup (x :: xs)) else none
  | _, _ => none
def repN : D → D → Option D
  | .tup (x :: xs), .int k => if 2 ≤ k ∧ k ≤ 1000 ∧ (x :: xs).length ≤ 1000 then some (.tup (List.replicate k.toNat (x :: xs)).flatten) else none
  | _, _ => none
def mulD (x y : D) : Option D := (mulI x y).or ((repT x y).or (repN x y))
theorem RepL.rep {K : Kc} {F : Addr → Prop} {H : Hp} {ds : List D} {vs : List V} (r : RepL K F H ds vs) : ∀ n : Nat, RepL K F H (List.replicate n ds).flatten (List.replicate n vs).flatten
  | 0 => RepL.nil
  | n + 1 => by
    rw [List.replicate_succ, List.replicate_succ, List.flatten_cons, List.flatten_cons]
    exact r.append (RepL.rep r n)
theorem pr_repN {K : Kc} : PureR K (rRepZ K.K) repN := by
  intro F H dx dy d vx vy Q fk e wx wy k
  unfold repN at e
  split at e
  · rename_i x xs kk
    obtain ⟨a, us, rfl, h1, r1⟩ := wx.tup
    have hne : us ≠ [] := fun z => by have := r1.length; rw [z] at this; simp at this
    cases wy.int
    split at e
    · rename_i hz
      cases e
      refine ⟨a, kk, us, rfl, rfl, h1, hne, hz.1, hz.2.1, by rw [r1.length]; exact hz.2.2, fun p ob hd hp => ?_⟩
      obtain ⟨E, r⟩ := new_tup hd hp (r1.rep kk.toNat)
      exact k _ F _ E r
    · cases e
  · cases e
theorem pr_repT {K : Kc} : PureR K (rRepS K.K) repT := by
  intro F H dx dy d vx vy Q fk e wx wy k
  unfold repT at e
  split at e
  · rename_i x xs kk
    obtain ⟨a, us, rfl, h1, r1⟩ := wx.tup
    have hne : us ≠ [] := fun z => by have := r1.length; rw [z] at this; simp at this
    cases wy.int
    split at e
    · rename_i hz
      cases e
      refine ⟨a, kk, us, rfl, rfl, h1, hne, .inl ⟨hz, fun p ob hd hp => ?_⟩⟩
      obtain ⟨E, r⟩ := new_tup hd hp (RepL.nil (K := K) (F := F))
      exact k _ F _ E r
    · split at e
      · rename_i hz
        cases e
        exact ⟨a, kk, us, rfl, rfl, h1, hne, .inr ⟨hz, k _ F H .refl (Rep.tup' h1 r1)⟩⟩
      · cases e
  · cases e
theorem w_mulD {X : Cx} {a b : Expr} {oa ob : FO} {pos : Pos} (ha : PE X a (tO (kc X) oa)) (hb : PE X b (tO (kc X) ob)) : PE X (.BinOp a .Mult b pos) (tD (kc X) (gOp2 mulD oa ob)) := cd_bin (op_mul.or (op_repS.or op_repZ)) (PureR.or pr_mul (PureR.or pr_repT pr_repN)) ha hb
end DV

/-! DV15: while, append. -/
namespace DV
open L2 PySem PySem.Spec PyProof.Rows
def whileD (t : FT) (b : FS) : Nat → Env → Option (Fl × Env)
  | 0, _ => none
  | n + 1, ρ => match t ρ with
    | some (false, ρ1) => some (.nx, ρ1)
    | some (true, ρ1) => match b ρ1 with
      | some (.nx, ρ2) => whileD t b n ρ2
      | some (.ct, ρ2) => whileD t b n ρ2
      | some (.br, ρ2) => some (.nx, ρ2)
      | some (.rt d w, ρ2) => some (.rt d w, ρ2)
      | none => none
    | none => none
def gWhile (n : Nat) (t : FT) (b : FS) : FS := whileD t b n
theorem while_fit {K : Kc} {n : Nat} {t : FT} {b : FS} {D : Ends} {σ : L2.St} {H : Hp} (hq : tS K (gWhile n t b) D σ H) : tWhile (tB K t) (tS K b) D σ H := by
  refine ⟨fun m σ H => ∃ F B as ρ fl ρ', Sit K F B H ρ σ as ∧ whileD t b m ρ = some (fl, ρ') ∧ tSEnd K F B as H D ρ' fl, ⟨n, hq⟩, ?_⟩
  rintro m σ H ⟨F, B, as, ρ, fl, ρ', S, e, k⟩
  cases m with
  | zero => cases e
  | succ m =>
    unfold whileD at e
    split at e
    · rename_i ρ1 q
      cases e
      exact ⟨F, B, as, ρ, false, _, S, q, fun H1 F1 as1 E1 S1 => by simp only [Bool.false_eq_true, if_false]; exact k σ H1 F1 as1 E1 S1⟩
    · rename_i ρ1 q
      refine ⟨F, B, as, ρ, true, _, S, q, fun H1 F1 as1 E1 S1 => ?_⟩
      simp only [if_true]
      refine ⟨fun σ H => ∃ F B as ρ fl ρ', Sit K F B H ρ σ as ∧ whileD t b m ρ = some (fl, ρ') ∧ tSEnd K F B as H D ρ' fl, fun σ' H' w => ⟨m, Nat.lt_succ_self m, w⟩, ?_⟩
      split at e
      · rename_i ρ2 q2
        exact ⟨F1, B, as1, ρ1, _, _, S1, q2, fun σ' H' F' as' E' S' => ⟨F', B, as', _, fl, ρ', S', e, k.ext (E1.trans E')⟩⟩
      · rename_i ρ2 q2
        exact ⟨F1, B, as1, ρ1, _, _, S1, q2, fun σ' H' F' as' E' S' => ⟨F', B, as', _, fl, ρ', S', e, k.ext (E1.trans E')⟩⟩
      · rename_i ρ2 q2
        cases e
        exact ⟨F1, B, as1, ρ1, _, _, S1, q2, fun σ' H' F' as' E' S' => k σ' H' F' as' (E1.trans E') S'⟩
      · rename_i d w ρ2 q2
        cases e
        exact ⟨F1, B, as1, ρ1, _, _, S1, q2, fun v σ' H' F' as' bs E' S' => k v σ' H' F' as' bs (E1.trans E') S'⟩
      · cases e
    · cases e
section
variable {X : Cx} {pos : Pos}
theorem cs_while {n : Nat} {c : Expr} {body : List Stmt} {t : FT} {g : FS} (hp : PassesOwn (model X.prog X.w) X.A X.env X.xe) (hc : PT X c (tB (kc X) t)) (hb : PSs X body (tS (kc X) g)) : PS X (.While c body [] pos) (tS (kc X) (gWhile n t g)) :=
  PS.to (ps_while hp hc hb) fun D σ H h => while_fit h
/-- x.append(e), x an own list -/
def gApp (i : Nat) (g : FD) : FS := fun ρ => match look ρ i with
  | some (.lst _) => match g ρ with
    | some (d, ρ1) => match ρ1[i]? with
      | some (.ow (.lst xs)) => if xs.length < SZ then some (.nx, ρ1.set i (.ow (.lst (xs ++ [d])))) else none
      | some (.bo n (.lst xs)) => if xs.length < SZ then some (.nx, ρ1.set i (.bo n (.lst (xs ++ [d])))) else none
      | _ => none
    | none => none
  | _ => none
theorem gApp_some {i : Nat} {g : FD} {ρ ρ' : Env} {fl : Fl} (h : gApp i g ρ = some (fl, ρ')) : fl = .nx ∧ ∃ ys d ρ1 x xs, look ρ i = some (.lst ys) ∧ g ρ = some (d, ρ1) ∧ ρ1[i]? = some x ∧ (x = .ow (.lst xs) ∨ ∃ n, x = .bo n (.lst xs)) ∧ xs.length < SZ ∧ ρ' = ρ1.set i (reSl x (.lst (xs ++ [d]))) := by
  unfold gApp at h
  split at h
  · rename_i ys q1
    split at h
    · rename_i d ρ1 q2
      split at h
      · rename_i xs q3
        split at h
        · rename_i hz; cases h; exact ⟨rfl, ys, d, ρ1, _, xs, q1, q2, q3, .inl rfl, hz, rfl⟩
        · cases h
      · rename_i n xs q3
        split at h
        · rename_i hz; cases h; exact ⟨rfl, ys, d, ρ1, _, xs, q1, q2, q3, .inr ⟨n, rfl⟩, hz, rfl⟩
        · cases h
      · cases h
    · cases h
  · cases h
theorem cs_app {i : Nat} {x : Str} {p apos cpos : Pos} {e : Expr} {g : FD} (hN : X.N[i]? = some x) (hv : Vis X.env.scope x) (he : PE X e (tD (kc X) g)) (hd : (x == ("__debug__" : Str)) = false := by decide) (hcd : (x == ("__classdict__" : Str)) = false := by decide)
    (hbase : attributeBase (.Name x p) "append" X.env (eval (.Name x p) X.env) = eval (.Name x p) X.env := by rfl)
    (hfew : ((backTo cpos (starEach [e] X.env)).all (fun x => !x.1) && (backToKw cpos (keywordEach [] X.env)).all (fun x => x.1.isSome)
      && decide ([e].length + ([] : List Keyword).length + (if ([] : List Keyword).isEmpty then 0 else 1) < 30)) = true := by rfl)
    (hline : (apos.endLine == cpos.line) = true := by rfl) (hst : starEach [e] X.env = (false, eval e X.env) :: starEach [] X.env := by rfl) (hplain : (backTo cpos (starEach [] X.env)).any (·.1) = false := by rfl)
    (hs : swapsWith (.Call (.Attribute (.Name x p) "append" apos) [e] [] cpos) none pos.line X.env = pure false := by rfl) :
    PS X (.Expr (.Call (.Attribute (.Name x p) "append" apos) [e] [] cpos) pos) (tS (kc X) (gApp i g)) :=
  PS.to (ps_expr (pe_bm PySem.F.plainAttrs_list PySem.F.slot_list_append PySem.F.type_list_append mt_append (pe_var hN hv hd hcd) (pa_cons he pa_nil hst) hbase hfew hline hst hplain) hs) fun D σ H ⟨F, B, as, ρ, fl, ρ', S, e, k⟩ => by
    obtain ⟨rfl, ys, d, ρ1, x, xs, e1, e2, e3, e4, hz, rfl⟩ := gApp_some e
    obtain ⟨vo, ev⟩ := S.there e1
    have w0 := S.look e1 ev
    obtain ⟨a0, us0, rfl, h0, r0⟩ := w0.lst
    refine ⟨.ref a0, ev, .inl ⟨rfl, _, SqL.of h0⟩, F, B, as, ρ, d, ρ1, S, e2, fun vd H1 F1 as1 E1 S1 r1 => ?_⟩
    obtain ⟨a, ow, fin⟩ := S1.write (c' := .lst (xs ++ [d])) e3 e4 ev
    unfold Own OwnC at ow
    obtain ⟨b, us, eb, h1, h2, rfl⟩ := ow
    cases eb
    refine ⟨a0, us, vd, rfl, rfl, h1, sz_lt (by rw [h2.length]; omega), ?_⟩
    obtain ⟨E2, S2⟩ := fin a0 (.lst (us ++ [vd])) _ rfl h1 (fun _ z => by cases z) (fun _ _ z => by cases z) fun s => by
      unfold Own OwnC
      exact ⟨a0, _, rfl, upd_same, RepL.stb s.weak _ _ (h2.append (RepL.cons r1 RepL.nil)), rfl⟩
    exact k σ _ F1 as1 (E1.trans E2) S2
end
section
variable {ρ ρ1 : Env}
def kWh2 (t : FT) (b : FS) (n : Nat) : Fl × Env → Option (Fl × Env)
  | (.nx, ρ2) => whileD t b n ρ2
  | (.ct, ρ2) => whileD t b n ρ2
  | (.br, ρ2) => some (.nx, ρ2)
  | (.rt d w, ρ2) => some (.rt d w, ρ2)
@[simp] theorem kWh2_nx {t : FT} {b : FS} {n} : kWh2 t b n (.nx, ρ1) = whileD t b n ρ1 := rfl
@[simp] theorem kWh2_ct {t : FT} {b : FS} {n} : kWh2 t b n (.ct, ρ1) = whileD t b n ρ1 := rfl
@[simp] theorem kWh2_br {t : FT} {b : FS} {n} : kWh2 t b n (.br, ρ1) = some (.nx, ρ1) := rfl
@[simp] theorem kWh2_rt {t : FT} {b : FS} {n d w} : kWh2 t b n (.rt d w, ρ1) = some (.rt d w, ρ1) := rfl
def kWh1 (t : FT) (b : FS) (n : Nat) : Bool × Env → Option (Fl × Env)
  | (false, ρ1) => some (.nx, ρ1)
  | (true, ρ1) => (b ρ1).bind (kWh2 t b n)
@[simp] theorem kWh1_f {t : FT} {b : FS} {n} : kWh1 t b n (false, ρ1) = some (.nx, ρ1) := rfl
@[simp] theorem kWh1_t {t : FT} {b : FS} {n} : kWh1 t b n (true, ρ1) = (b ρ1).bind (kWh2 t b n) := rfl
theorem whileD_succ {t : FT} {b : FS} {n} : whileD t b (n + 1) ρ = (t ρ).bind (kWh1 t b n) := by
  rw [whileD]
  rcases t ρ with _ | ⟨_ | _, ρ1⟩
  · rfl
  · rfl
  · simp only [Option.bind_some, kWh1_t]
    rcases b ρ1 with _ | ⟨_ | _ | _ | _, _⟩ <;> rfl
def kAp2 (i : Nat) (d : D) (ρ : Env) : Option Sl → Option (Fl × Env)
  | some (.ow (.lst xs)) => if xs.length < SZ then some (.nx, ρ.set i (.ow (.lst (xs ++ [d])))) else none
  | some (.bo n (.lst xs)) => if xs.length < SZ then some (.nx, ρ.set i (.bo n (.lst (xs ++ [d])))) else none
  | _ => none
@[simp] theorem kAp2_ow {i d xs} : kAp2 i d ρ (some (.ow (.lst xs))) = if xs.length < SZ then some (.nx, ρ.set i (.ow (.lst (xs ++ [d])))) else none := rfl
@[simp] theorem kAp2_bo {i d n xs} : kAp2 i d ρ (some (.bo n (.lst xs))) = if xs.length < SZ then some (.nx, ρ.set i (.bo n (.lst (xs ++ [d])))) else none := rfl
def kAp1 (i : Nat) : D × Env → Option (Fl × Env) := fun p => kAp2 i p.1 p.2 p.2[i]?
@[simp] theorem kAp1_at {i d} : kAp1 i (d, ρ1) = kAp2 i d ρ1 ρ1[i]? := rfl
def kAp0 (i : Nat) (g : FD) (ρ : Env) : D → Option (Fl × Env)
  | .lst _ => (g ρ).bind (kAp1 i)
  | _ => none
@[simp] theorem kAp0_lst {i} {g : FD} {xs} : kAp0 i g ρ (.lst xs) = (g ρ).bind (kAp1 i) := rfl
@[simp] theorem at_app {i} {g : FD} : gApp i g ρ = (look ρ i).bind (kAp0 i g ρ) := by
  unfold gApp
  rcases look ρ i with _ | d
  · rfl
  · cases d with
    | lst xs =>
      simp only [Option.bind_some, kAp0_lst]
      rcases g ρ with _ | ⟨d, ρ1⟩
      · rfl
      · simp only [Option.bind_some, kAp1_at]
        rcases ρ1[i]? with _ | _ | _ | c | ⟨n, c⟩
        · rfl
        · rfl
        · rfl
        · cases c <;> rfl
        · cases c <;> rfl
    | _ => rfl
end
end DV

/-! DV16: objects: fields. -/
namespace DV
open L2 PySem PySem.Spec PyProof.Rows

/-! ### a name is put aside while something else is computed -/
theorem Sit.hide {K : Kc} {F : Addr → Prop} {B : List Addr} {H : Hp} {ρ : Env} {σ : L2.St} {as : List Addr} (S : Sit K F B H ρ σ as) {i : Nat} {x : Sl} (hx : ρ[i]? = some x) :
    ∃ o ins rest, σ[i]? = some o ∧ SlR K F B H x o ins ∧ Sit K F B H (ρ.set i .no) σ rest ∧ ins.Nodup ∧ (∀ b, b ∈ ins → b ∉ rest ∧ ¬ F b) ∧ (∀ b, b ∈ as ↔ b ∈ ins ∨ b ∈ rest) := by
  obtain ⟨o, p, a, q, ea, eo, hs, hr⟩ := S.env.split hx
  subst ea
  obtain ⟨n1, n2⟩ := nodup_mid S.nd
  have z := hr .no o [] .refl (Kept.of fun _ _ h => h) (by unfold SlR; rfl)
  rw [set_same eo] at z
  have mem : ∀ b, b ∈ p ++ (a ++ q) ↔ b ∈ a ∨ b ∈ p ++ q := fun b => by
    simp only [List.mem_append]
    constructor
    · rintro (h | h | h)
      · exact .inr (.inl h)
      · exact .inl h
      · exact .inr (.inr h)
    · rintro (h | h | h)
      · exact .inr (.inl h)
      · exact .inl h
      · exact .inr (.inr h)
  refine ⟨o, a, p ++ q, eo, hs, ⟨by simpa using z, n1, fun b m => S.nf b ((mem b).mpr (.inr m)), S.fk⟩, (List.nodup_append.mp (List.nodup_append.mp S.nd).2.1).1, fun b m => ⟨fun m' => n2 b m' m, S.nf b ((mem b).mpr (.inl m))⟩, mem⟩
/-- .. and taken up again -/
theorem Sit.unhide {K : Kc} {F F1 : Addr → Prop} {B : List Addr} {H H1 : Hp} {ρ1 : Env} {σ : L2.St} {as ins rest rest1 : List Addr} {i : Nat} {x : Sl} {o : Option V} (S1 : Sit K F1 B H1 ρ1 σ rest1) (E : Ext F rest H F1 rest1 H1) (h1 : ρ1[i]? = some .no) (eo : σ[i]? = some o)
    (hs : SlR K F B H x o ins) (hn : ins.Nodup) (hd : ∀ b, b ∈ ins → b ∉ rest ∧ ¬ F b) (mem : ∀ b, b ∈ as ↔ b ∈ ins ∨ b ∈ rest) :
    ∃ as1, Sit K F1 B H1 (ρ1.set i x) σ as1 ∧ Ext F as H F1 as1 H1 ∧ SlR K F1 B H1 x o ins ∧ Kept ins H H1 ∧ (∀ b, b ∈ ins → b ∈ as1) := by
  have kp : Kept ins H H1 := E.kept fun b m => (hd b m).1
  have sl : SlR K F1 B H1 x o ins := hs.stb E.stb.weak kp
  have th : ∀ b, b ∈ ins → ∃ u, H b = some u := hs.there
  obtain ⟨o2, p, a, q, ea, eo2, hs2, hr⟩ := S1.env.split h1
  rw [eo] at eo2; cases eo2
  unfold SlR at hs2
  subst hs2
  simp only [List.nil_append] at ea
  have z := hr x o ins .refl (Kept.of fun _ _ h => h) sl
  rw [set_same eo] at z
  have far : ∀ b, b ∈ ins → b ∉ rest1 := fun b m z => by
    rcases E.anew b z with z | z
    · exact (hd b m).1 z
    · obtain ⟨u, hu⟩ := th b m
      rw [hu] at z; cases z
  have nfi : ∀ b, b ∈ ins → ¬ F1 b := fun b m f => by
    rcases E.fnew b f with z | z | z
    · exact (hd b m).2 z
    · exact (hd b m).1 z
    · obtain ⟨u, hu⟩ := th b m
      rw [hu] at z; cases z
  have mem1 : ∀ b, b ∈ p ++ (ins ++ q) ↔ b ∈ ins ∨ b ∈ rest1 := fun b => by
    rw [ea]
    simp only [List.mem_append]
    constructor
    · rintro (h | h | h)
      · exact .inr (.inl h)
      · exact .inl h
      · exact .inr (.inr h)
    · rintro (h | h | h)
      · exact .inr (.inl h)
      · exact .inl h
      · exact .inr (.inr h)
  have nd : (p ++ (ins ++ q)).Nodup := by
    have n1 := S1.nd
    rw [ea] at n1
    have n2 := List.nodup_append.mp n1
    refine List.nodup_append.mpr ⟨n2.1, List.nodup_append.mpr ⟨hn, n2.2.1, fun y hy w hw e => far y hy (by rw [ea, e]; exact List.mem_append_right _ hw)⟩, fun y hy w hw e => ?_⟩
    rcases List.mem_append.mp hw with m | m
    · exact far w m (by rw [ea, ← e]; exact List.mem_append_left _ hy)
    · exact n2.2.2 y hy w m e
  refine ⟨p ++ (ins ++ q), ⟨z, nd, fun b m => ?_, S1.fk⟩, ⟨E.stb, fun b u h n => E.keep b u h fun m => n ((mem b).mpr (.inr m)), E.dom, fun b f => ?_, fun b m => ?_, E.fk⟩, sl, kp, fun b m => (mem1 b).mpr (.inl m)⟩
  · rcases (mem1 b).mp m with m | m
    · exact nfi b m
    · exact S1.nf b m
  · rcases E.fnew b f with z | z | z
    · exact .inl z
    · exact .inr (.inl ((mem b).mpr (.inr z)))
    · exact .inr (.inr z)
  · rcases (mem1 b).mp m with m | m
    · exact .inl ((mem b).mpr (.inl m))
    · rcases E.anew b m with z | z
      · exact .inl ((mem b).mpr (.inr z))
      · exact .inr z

/-! ### fields -/
def fld : List Str → List Bool → List D → Str → Option (Bool × D)
  | n :: ns, o :: os, d :: ds, f => if n = f then some (o, d) else fld ns os ds f
  | _, _, _, _ => none
def fput : List Str → List Bool → List D → Str → Bool → D → List Str × List Bool × List D
  | n :: ns, o :: os, d :: ds, f, w, e => if n = f then (n :: ns, w :: os, e :: ds) else (n :: (fput ns os ds f w e).1, o :: (fput ns os ds f w e).2.1, d :: (fput ns os ds f w e).2.2)
  | _, _, _, f, w, e => ([f], [w], [e])
theorem lookup_cons {g f : Str} {v : V} {r : List (Str × V)} : List.lookup f ((g, v) :: r) = if g = f then some v else List.lookup f r := by
  by_cases h : g = f
  · subst h; simp [List.lookup]
  · have : (f == g) = false := beq_eq_false_iff_ne.mpr (Ne.symm h)
    simp [List.lookup, this, h]
def fOk (K : Kc) (F : Addr → Prop) (H : Hp) (w : Bool) (d : D) (v : V) (b : List Addr) : Prop := if w = true then OwnC K F H d v b else Rep K F H d v ∧ b = []
theorem fOk.stb {K : Kc} {F F2 : Addr → Prop} {H H2 : Hp} {w : Bool} {d : D} {v : V} {b : List Addr} (h : fOk K F H w d v b) (s : Weak F H F2 H2) (k : Kept b H H2) : fOk K F2 H2 w d v b := by
  unfold fOk at h ⊢
  cases w with
  | true => simp only [if_true] at h ⊢; exact h.stb s k
  | false => simp only [Bool.false_eq_true, if_false] at h ⊢; exact ⟨Rep.stb s _ _ h.1, h.2⟩
theorem fOk.vw {K : Kc} {F : Addr → Prop} {H : Hp} {w : Bool} {d : D} {v : V} {b : List Addr} (h : fOk K F H w d v b) : Vw K F H d v := by
  unfold fOk at h
  cases w with
  | true =>
    simp only [if_true] at h
    refine Own.vw (as := b) ?_
    cases d <;> unfold Own <;> first | exact h | (unfold OwnC at h; exact h.elim)
  | false => simp only [Bool.false_eq_true, if_false] at h; exact h.1.vw
theorem OwnFs.cons {K : Kc} {F : Addr → Prop} {H : Hp} {o : Bool} {os : List Bool} {d : D} {ds : List D} {vs : List V} {as : List Addr} : OwnFs K F H (o :: os) (d :: ds) vs as ↔ ∃ v r a1 a2, vs = v :: r ∧ as = a1 ++ a2 ∧ fOk K F H o d v a1 ∧ OwnFs K F H os ds r a2 := by
  rw [OwnFs]; rfl
/-- one field of the object, and the others around it -/
theorem OwnFs.at_ {K : Kc} {F : Addr → Prop} {H : Hp} {f : Str} {w : Bool} {d : D} : ∀ {fs : List (Str × V)} {ns : List Str} {os : List Bool} {ds : List D} {as : List Addr}, fs.map (·.1) = ns → OwnFs K F H os ds (fs.map (·.2)) as → fld ns os ds f = some (w, d) →
    ∃ v p b q, fs.lookup f = some v ∧ as = p ++ (b ++ q) ∧ fOk K F H w d v b ∧ ∀ {F2 : Addr → Prop} {H2 : Hp} (w' : Bool) (d' : D) (b' : List Addr), Stb F H F2 H2 → Kept (p ++ q) H H2 → fOk K F2 H2 w' d' v b' →
      (fput ns os ds f w' d').1 = ns ∧ OwnFs K F2 H2 (fput ns os ds f w' d').2.1 (fput ns os ds f w' d').2.2 (fs.map (·.2)) (p ++ (b' ++ q))
  | [], ns, os, ds, as, hn, h, e => by
    subst hn
    simp [fld] at e
  | (g, u) :: fs, ns, [], ds, as, hn, h, e => by subst hn; simp [fld] at e
  | (g, u) :: fs, ns, o :: os, [], as, hn, h, e => by subst hn; simp [fld] at e
  | (g, u) :: fs, ns, o :: os, d0 :: ds, as, hn, h, e => by
    subst hn
    rw [List.map_cons] at h
    rw [OwnFs.cons] at h
    obtain ⟨v, r, a1, a2, e1, rfl, h1, h2⟩ := h
    simp only [List.map_cons, List.cons.injEq] at e1
    obtain ⟨rfl, rfl⟩ := e1
    simp only [List.map_cons, fld] at e
    by_cases hg : g = f
    · rw [if_pos hg] at e
      cases e
      refine ⟨u, [], a1, a2, by rw [lookup_cons, if_pos hg], rfl, h1, fun w' d' b' s k r => ?_⟩
      simp only [List.map_cons, fput, if_pos hg]
      refine ⟨trivial, ?_⟩
      rw [OwnFs.cons]
      exact ⟨u, _, b', a2, rfl, rfl, r, h2.stb s.weak (by simpa using k)⟩
    · rw [if_neg hg] at e
      obtain ⟨v, p, b, q, l1, l2, l3, l4⟩ := OwnFs.at_ rfl h2 e
      subst l2
      refine ⟨v, a1 ++ p, b, q, by rw [lookup_cons, if_neg hg]; exact l1, by simp, l3, fun w' d' b' s k r => ?_⟩
      obtain ⟨m1, m2⟩ := l4 w' d' b' s (fun c m u hu => k c (by rcases List.mem_append.mp m with m | m <;> simp [m]) u hu) r
      simp only [List.map_cons, fput, if_neg hg]
      refine ⟨by rw [m1], ?_⟩
      rw [OwnFs.cons]
      exact ⟨u, _, a1, p ++ (b' ++ q), rfl, by simp, h1.stb s.weak (fun c m u hu => k c (by simp [m]) u hu), m2⟩
/-- a field is bound -/
theorem OwnFs.put {K : Kc} {F : Addr → Prop} {H : Hp} {f : Str} {w : Bool} {d : D} {v : V} {bs : List Addr} (h0 : fOk K F H w d v bs) : ∀ {fs : List (Str × V)} {ns : List Str} {os : List Bool} {ds : List D} {as : List Addr}, fs.map (·.1) = ns → OwnFs K F H os ds (fs.map (·.2)) as →
    ∃ p b q, as = p ++ (b ++ q) ∧ (putF f v fs).map (·.1) = (fput ns os ds f w d).1 ∧ OwnFs K F H (fput ns os ds f w d).2.1 (fput ns os ds f w d).2.2 ((putF f v fs).map (·.2)) (p ++ (bs ++ q))
  | [], ns, os, ds, as, hn, h => by
    subst hn
    have : os = [] ∧ ds = [] ∧ as = [] := by
      cases os <;> cases ds <;> unfold OwnFs at h
      · exact ⟨rfl, rfl, h.2⟩
      · exact h.elim
      · exact h.elim
      · obtain ⟨_, _, _, _, e, _⟩ := h; simp at e
    obtain ⟨rfl, rfl, rfl⟩ := this
    refine ⟨[], [], [], rfl, rfl, ?_⟩
    show OwnFs K F H [w] [d] [v] ([] ++ (bs ++ []))
    rw [OwnFs.cons]
    exact ⟨v, [], bs, [], rfl, by simp, h0, by unfold OwnFs; exact ⟨rfl, rfl⟩⟩
  | (g, u) :: fs, ns, [], ds, as, hn, h => by cases ds <;> unfold OwnFs at h <;> simp at h
  | (g, u) :: fs, ns, o :: os, [], as, hn, h => by unfold OwnFs at h; exact h.elim
  | (g, u) :: fs, ns, o :: os, d0 :: ds, as, hn, h => by
    subst hn
    rw [List.map_cons] at h
    rw [OwnFs.cons] at h
    obtain ⟨v0, r, a1, a2, e1, rfl, h1, h2⟩ := h
    simp only [List.cons.injEq] at e1
    obtain ⟨rfl, rfl⟩ := e1
    by_cases hg : g = f
    · refine ⟨[], a1, a2, rfl, ?_, ?_⟩
      · simp only [List.map_cons, fput, if_pos hg, putF]
      · simp only [List.map_cons, fput, if_pos hg, putF]
        rw [OwnFs.cons]
        exact ⟨v, _, bs, a2, rfl, rfl, h0, h2⟩
    · obtain ⟨p, b, q, l1, l2, l3⟩ := OwnFs.put h0 rfl h2
      subst l1
      refine ⟨a1 ++ p, b, q, by simp, ?_, ?_⟩
      · simp only [List.map_cons, fput, if_neg hg, putF]
        rw [l2]
      · simp only [List.map_cons, fput, if_neg hg, putF]
        rw [OwnFs.cons]
        exact ⟨u, _, a1, p ++ (bs ++ q), rfl, by simp, h1, l3⟩

/-- the object of a name -/
theorem Sit.ins {K : Kc} {F : Addr → Prop} {B : List Addr} {H : Hp} {ρ : Env} {σ : L2.St} {as : List Addr} (S : Sit K F B H ρ σ as) {i : Nat} {c : Str} {ns : List Str} {os : List Bool} {ds : List D} (hl : DV.look ρ i = some (.ins c ns os ds)) :
    ∃ x a C dx fs ia, ρ[i]? = some x ∧ (x = .ow (.ins c ns os ds) ∨ ∃ n, x = .bo n (.ins c ns os ds)) ∧ σ[i]? = some (some (.ref a)) ∧ K.mg c = some (.ref C) ∧ H a = some (.ins C dx fs) ∧ H dx = some (.own a) ∧ fs.map (·.1) = ns ∧ OwnFs K F H os ds (fs.map (·.2)) ia := by
  unfold DV.look at hl
  split at hl
  · rename_i d q
    cases hl
    obtain ⟨o, p, a, qq, _, eo, hs, _⟩ := S.env.split q
    unfold SlR at hs
    obtain ⟨_, v, _, r⟩ := hs
    unfold Rep at r
    exact r.elim
  · rename_i d q
    cases hl
    obtain ⟨o, p, a, qq, _, eo, hs, _⟩ := S.env.split q
    unfold SlR at hs
    obtain ⟨v, e1, r⟩ := hs
    unfold Own OwnI at r
    obtain ⟨a, C, dx, fs, ia, rfl, h1, h2, h3, h4, h5, h6⟩ := r
    exact ⟨_, a, C, dx, fs, ia, q, .inl rfl, by rw [eo, e1], h1, h2, h3, h4, h5⟩
  · rename_i k d q
    cases hl
    obtain ⟨o, p, a, qq, _, eo, hs, _⟩ := S.env.split q
    unfold SlR at hs
    obtain ⟨v, e1, _, r⟩ := hs
    unfold Own OwnI at r
    obtain ⟨a, C, dx, fs, ia, e2, h1, h2, h3, h4, h5, h6⟩ := r
    rw [e2] at e1
    exact ⟨_, a, C, dx, fs, ia, q, .inr ⟨k, rfl⟩, by rw [eo, e1], h1, h2, h3, h4, h5⟩
  · cases hl
end DV

/-! DV17: objects: attributes read and written. -/
namespace DV
open L2 PySem PySem.Spec PyProof.Rows
structure ClsF (K : Kc) (c f : Str) : Prop where
  ex : ∃ C, K.mg c = some (.ref C) ∧ Cls K.K C ∧ NoAttr K.K C f
def insOf (c : Str) : D → Option (List Str × List Bool × List D)
  | .ins c' ns os ds => if c' = c then some (ns, os, ds) else none
  | _ => none
theorem insOf_some {c : Str} {d : D} {ns : List Str} {os : List Bool} {ds : List D} (h : insOf c d = some (ns, os, ds)) : d = .ins c ns os ds := by
  cases d <;> simp [insOf] at h
  obtain ⟨rfl, rfl, rfl, rfl⟩ := h
  rfl
/-- the field f of the object of name i -/
def fldOf (i : Nat) (c f : Str) (ρ : Env) : Option (Bool × D) := ((look ρ i).bind (insOf c)).bind fun p => fld p.1 p.2.1 p.2.2 f
theorem fldOf_some {i : Nat} {c f : Str} {ρ : Env} {w : Bool} {d : D} (h : fldOf i c f ρ = some (w, d)) : ∃ ns os ds, look ρ i = some (.ins c ns os ds) ∧ fld ns os ds f = some (w, d) := by
  unfold fldOf at h
  obtain ⟨p, h1, h2⟩ := Option.bind_eq_some_iff.mp h
  obtain ⟨e, h3, h4⟩ := Option.bind_eq_some_iff.mp h1
  obtain ⟨ns, os, ds⟩ := p
  exact ⟨ns, os, ds, by rw [h3, insOf_some h4], h2⟩
def gFld (i : Nat) (c f : Str) : FD := fun ρ => match fldOf i c f ρ with
  | some (false, d) => some (d, ρ)
  | _ => none
/-- looked at -/
def tV (K : Kc) (g : FD) : TE := fun σ H Q => ∃ F B as ρ d ρ', Sit K F B H ρ σ as ∧ g ρ = some (d, ρ') ∧
  ∀ v H' F' as', Ext F as H F' as' H' → Sit K F' B H' ρ' σ as' → Vw K F' H' d v → Q v H'
def gFlV (i : Nat) (c f : Str) : FD := fun ρ => match fldOf i c f ρ with
  | some (_, d) => some (d, ρ)
  | none => none
section
variable {X : Cx} {pos p : Pos}
theorem cd_fld {i : Nat} {x c f : Str} (C : ClsF (kc X) c f) (hN : X.N[i]? = some x := by rfl) (hv : Vis X.env.scope x := by first | exact Or.inl rfl | exact Or.inr (Or.inl rfl) | exact Or.inr (Or.inr rfl)) (hd : (x == ("__debug__" : Str)) = false := by decide)
    (hcd : (x == ("__classdict__" : Str)) = false := by decide) (hb : attributeBase (.Name x p) f X.env (eval (.Name x p) X.env) = eval (.Name x p) X.env := by rfl) : PE X (.Attribute (.Name x p) f pos) (tD (kc X) (gFld i c f)) :=
  PE.to (pe_fld (pe_var hN hv hd hcd) hb) fun σ H Q ⟨F, B, as, ρ, d, ρ', S, e, k⟩ => by
    unfold gFld at e
    split at e
    · rename_i d' q
      cases e
      obtain ⟨ns, os, ds, h1, h2⟩ := fldOf_some q
      obtain ⟨xx, a, C0, dx, fs, ia, _, _, ev, hm, ha, hdx, hns, ow⟩ := S.ins h1
      obtain ⟨C1, hm1, hc, hn⟩ := C.ex
      rw [hm] at hm1; cases hm1
      obtain ⟨v, p1, b, q1, l1, _, l3, _⟩ := OwnFs.at_ hns ow h2
      refine ⟨.ref a, ev, a, C0, dx, fs, v, rfl, ha, hc, hn, l1, k v H F as .refl S ?_⟩
      unfold fOk at l3
      simp only [Bool.false_eq_true, if_false] at l3
      exact l3.1
    · cases e
theorem cv_fld {i : Nat} {x c f : Str} (C : ClsF (kc X) c f) (hN : X.N[i]? = some x := by rfl) (hv : Vis X.env.scope x := by first | exact Or.inl rfl | exact Or.inr (Or.inl rfl) | exact Or.inr (Or.inr rfl)) (hd : (x == ("__debug__" : Str)) = false := by decide)
    (hcd : (x == ("__classdict__" : Str)) = false := by decide) (hb : attributeBase (.Name x p) f X.env (eval (.Name x p) X.env) = eval (.Name x p) X.env := by rfl) : PE X (.Attribute (.Name x p) f pos) (tV (kc X) (gFlV i c f)) :=
  PE.to (pe_fld (pe_var hN hv hd hcd) hb) fun σ H Q ⟨F, B, as, ρ, d, ρ', S, e, k⟩ => by
    unfold gFlV at e
    split at e
    · rename_i w d' q
      cases e
      obtain ⟨ns, os, ds, h1, h2⟩ := fldOf_some q
      obtain ⟨xx, a, C0, dx, fs, ia, _, _, ev, hm, ha, hdx, hns, ow⟩ := S.ins h1
      obtain ⟨C1, hm1, hc, hn⟩ := C.ex
      rw [hm] at hm1; cases hm1
      obtain ⟨v, p1, b, q1, l1, _, l3, _⟩ := OwnFs.at_ hns ow h2
      exact ⟨.ref a, ev, a, C0, dx, fs, v, rfl, ha, hc, hn, l1, k v H F as .refl S l3.vw⟩
    · cases e
/-- a one-argument built-in of what is looked at -/
def gOp1V (f : D → Option D) (g : FD) : FD := fun ρ => match g ρ with
  | some (x, ρ1) => match f x with
    | some d => some (d, ρ1)
    | none => none
  | none => none
theorem w_lenV (Z : Zs X.mg) {a : Expr} {g : FD} (ha : PE X a (tV (kc X) g)) (hg : Gl X "len" := by rfl) (he : starEach [a] X.env = (false, eval a X.env) :: starEach [] X.env := by rfl) (hpl : (backTo pos (starEach [] X.env)).any (·.1) = false := by rfl) : PE X (.Call (.Name "len" p) [a] [] pos) (tD (kc X) (gOp1V lenD g)) :=
  PE.to (pe_callB cr_len hg Z.len boot_len' (pa_cons ha pa_nil he) (by decide) (by decide) he hpl) fun σ H Q ⟨F, B, as, ρ, d, ρ', S, e, k⟩ => by
    unfold gOp1V at e
    split at e
    · rename_i x ρ1 q
      split at e
      · rename_i d' q2
        cases e
        refine ⟨F, B, as, ρ, x, _, S, q, fun v H1 F1 as1 E1 S1 w1 => ?_⟩
        exact pc_len F1 H1 x _ v Q S1.fk q2 w1 fun v' F2 H2 E2 r2 => k v' H2 F2 as1 (E1.trans E2.pure) (S1.step E2) r2
      · cases e
    · cases e
/-- o.f[e]: e is computed with o put aside -/
def gIxF (i : Nat) (c f : Str) (g : FD) : FD := fun ρ => match fldOf i c f ρ with
  | some (_, d) => match g (ρ.set i .no) with
    | some (k, ρ1) => match ρ1[i]? with
      | some .no => match ixD d k with
        | some r => some (r, ρ1.set i (ρ.getD i .no))
        | none => none
      | _ => none
    | none => none
  | none => none
theorem gIxF_some {i : Nat} {c f : Str} {g : FD} {ρ ρ' : Env} {r : D} (h : gIxF i c f g ρ = some (r, ρ')) : ∃ w d k ρ1, fldOf i c f ρ = some (w, d) ∧ g (ρ.set i .no) = some (k, ρ1) ∧ ρ1[i]? = some .no ∧ ixD d k = some r ∧ ρ' = ρ1.set i (ρ.getD i .no) := by
  unfold gIxF at h
  split at h
  · rename_i w d q1
    split at h
    · rename_i k ρ1 q2
      split at h
      · rename_i q3
        split at h
        · rename_i r' q4
          cases h
          exact ⟨w, d, k, ρ1, q1, q2, q3, q4, rfl⟩
        · cases h
      · cases h
    · cases h
  · cases h
theorem getD_of {ρ : Env} {i : Nat} {x : Sl} (h : ρ[i]? = some x) : ρ.getD i .no = x := by rw [List.getD_eq_getElem?_getD, h]; rfl
theorem w_ixF {i : Nat} {x c f : Str} {b : Expr} {g : FD} (C : ClsF (kc X) c f) {k : Nat} (hr : Room k X.A) (hgb : PE X b (tD (kc X) g)) (hN : X.N[i]? = some x := by rfl) (hv : Vis X.env.scope x := by first | exact Or.inl rfl | exact Or.inr (Or.inl rfl) | exact Or.inr (Or.inr rfl)) (hd : (x == ("__debug__" : Str)) = false := by decide)
    (hcd : (x == ("__classdict__" : Str)) = false := by decide) (hb : attributeBase (.Name x p) f X.env (eval (.Name x p) X.env) = eval (.Name x p) X.env := by rfl) (hs : PlainIx b := by exact fun _ _ => rfl) {ap : Pos} : PE X (.Subscript (.Attribute (.Name x p) f ap) b pos) (tD (kc X) (gIxF i c f g)) :=
  PE.to (pe_ix (ix_all (ru1 hr)) (pe_fld (pe_var hN hv hd hcd) hb) hgb hs) fun σ H Q ⟨F, B, as, ρ, d, ρ', S, e, k⟩ => by
    obtain ⟨w, dc, dk, ρ1, e1, e2, e3, e4, rfl⟩ := gIxF_some e
    obtain ⟨ns, os, ds, h1, h2⟩ := fldOf_some e1
    obtain ⟨xx, a, C0, dx, fs, ia, hx, hk, ev, hm, ha, hdx, hns, ow⟩ := S.ins h1
    obtain ⟨C1, hm1, hc, hn⟩ := C.ex
    rw [hm] at hm1; cases hm1
    obtain ⟨v, p1, bb, q1, l1, _, l3, _⟩ := OwnFs.at_ hns ow h2
    refine ⟨.ref a, ev, a, C0, dx, fs, v, rfl, ha, hc, hn, l1, ?_⟩
    obtain ⟨o, ins, rest, eo, hs, Sh, hn1, hd1, mem⟩ := S.hide hx
    rw [ev] at eo; cases eo
    refine ⟨F, B, rest, ρ.set i .no, dk, ρ1, Sh, e2, fun vk H1 F1 rest1 E1 S1 r1 => ?_⟩
    obtain ⟨as1, S2, E2, sl, kp, _⟩ := S1.unhide E1 e3 ev hs hn1 hd1 mem
    rw [getD_of hx] at k
    -- the same object, the same field
    have mem2 : ∀ y : Addr, y = a ∨ y = dx → y ∈ ins := by
      intro y hy
      have key : ∀ v0, Own (kc X) F H (.ins c ns os ds) v0 ins → v0 = .ref a → y ∈ ins := fun v0 r e0 => by
        unfold Own OwnI at r
        obtain ⟨a', C', dx', fs', ia', e5, _, h6, h7, _, _, h8⟩ := r
        rw [e0] at e5; cases e5
        rw [ha] at h6; cases h6
        rw [h8]
        rcases hy with rfl | rfl <;> simp
      rcases hk with rfl | ⟨n, rfl⟩
      · unfold SlR at hs
        obtain ⟨v0, e0, r⟩ := hs
        exact key v0 r (by cases e0; rfl)
      · unfold SlR at hs
        obtain ⟨v0, e0, _, r⟩ := hs
        exact key _ r (by cases e0; rfl)
    have ha1 : H1 a = some (.ins C0 dx fs) := kp a (mem2 a (.inl rfl)) _ ha
    have look2 : DV.look (ρ1.set i xx) i = some (.ins c ns os ds) := by
      have hi : i < ρ1.length := (List.getElem?_eq_some_iff.mp e3).1
      unfold DV.look
      rw [List.getElem?_set_self hi]
      rcases hk with rfl | ⟨n, rfl⟩ <;> rfl
    obtain ⟨xx', a', C', dx', fs', ia', _, _, ev', hm', ha', hdx', hns', ow'⟩ := S2.ins look2
    rw [ev] at ev'; cases ev'
    rw [ha1] at ha'; cases ha'
    obtain ⟨v', p1', bb', q1', l1', _, l3', _⟩ := OwnFs.at_ hns' ow' h2
    rw [l1] at l1'; cases l1'
    exact pr_ix F1 H1 dc dk _ v vk Q S2.fk e4 l3'.vw r1.vw fun v2 F3 H3 E3 r3 => k v2 H3 F3 as1 (E2.trans E3.pure) (S2.step E3) r3
end
end DV

/-! DV18: objects: what is written. -/
namespace DV
open L2 PySem PySem.Spec PyProof.Rows
def isIns (x : Sl) (d : D) : Prop := x = .ow d ∨ ∃ n, x = .bo n d
theorem SlR.ins {K : Kc} {F : Addr → Prop} {B : List Addr} {H : Hp} {x : Sl} {o : Option V} {aa : List Addr} {c : Str} {ns : List Str} {os : List Bool} {ds : List D} (hs : SlR K F B H x o aa) (hk : isIns x (.ins c ns os ds)) :
    ∃ a C dx fs ia, o = some (.ref a) ∧ aa = a :: dx :: ia ∧ K.mg c = some (.ref C) ∧ H a = some (.ins C dx fs) ∧ H dx = some (.own a) ∧ fs.map (·.1) = ns ∧ OwnFs K F H os ds (fs.map (·.2)) ia ∧
      ∀ {F2 : Addr → Prop} {H2 : Hp} (c2 : Str) (ns2 : List Str) (os2 : List Bool) (ds2 : List D) (aa2 : List Addr), OwnI K F2 H2 c2 ns2 os2 ds2 (.ref a) aa2 → SlR K F2 B H2 (reSl x (.ins c2 ns2 os2 ds2)) (some (.ref a)) aa2 := by
  rcases hk with rfl | ⟨n, rfl⟩
  · unfold SlR at hs
    obtain ⟨v, e1, r⟩ := hs
    unfold Own OwnI at r
    obtain ⟨a, C, dx, fs, ia, rfl, h1, h2, h3, h4, h5, h6⟩ := r
    exact ⟨a, C, dx, fs, ia, e1, h6, h1, h2, h3, h4, h5, fun c2 ns2 os2 ds2 aa2 r => by unfold reSl SlR; exact ⟨_, rfl, by unfold Own; exact r⟩⟩
  · unfold SlR at hs
    obtain ⟨v, e1, e3, r⟩ := hs
    unfold Own OwnI at r
    obtain ⟨a, C, dx, fs, ia, e2, h1, h2, h3, h4, h5, h6⟩ := r
    cases e2
    exact ⟨v, C, dx, fs, ia, e1, h6, h1, h2, h3, h4, h5, fun c2 ns2 os2 ds2 aa2 r => by unfold reSl SlR; exact ⟨_, rfl, e3, by unfold Own; exact r⟩⟩
theorem Own.ofC {K : Kc} {F : Addr → Prop} {H : Hp} {d : D} {v : V} {b : List Addr} (h : OwnC K F H d v b) : Own K F H d v b := by
  cases d <;> unfold Own <;> first | exact h | (unfold OwnC at h; exact h.elim)
theorem Own.toC {K : Kc} {F : Addr → Prop} {H : Hp} {d : D} {v : V} {b : List Addr} (h : Own K F H d v b) (hc : isC d = true) : OwnC K F H d v b := by
  cases d <;> simp [isC] at hc <;> unfold Own at h <;> exact h
/-- a field's own list or dict is changed in place -/
theorem Sit.writeF {K : Kc} {F : Addr → Prop} {B : List Addr} {H : Hp} {ρ : Env} {σ : L2.St} {as : List Addr} (S : Sit K F B H ρ σ as) {i : Nat} {x : Sl} {c f : Str} {ns : List Str} {os : List Bool} {ds : List D} {d : D} (hx : ρ[i]? = some x) (hk : isIns x (.ins c ns os ds)) (hf : fld ns os ds f = some (true, d)) :
    ∃ a C dx fs v bs, σ[i]? = some (some (.ref a)) ∧ K.mg c = some (.ref C) ∧ H a = some (.ins C dx fs) ∧ fs.lookup f = some v ∧ OwnC K F H d v bs ∧
      ∀ b o u d', bs = [b] → H b = some u → (∀ vs, u ≠ .tup vs) → (∀ q w, u ≠ .frz q w) → (Stb F H F (upd H b o) → OwnC K F (upd H b o) d' v bs) →
        Ext F as H F as (upd H b o) ∧ Sit K F B (upd H b o) (ρ.set i (reSl x (.ins c ns (fput ns os ds f true d').2.1 (fput ns os ds f true d').2.2))) σ as := by
  obtain ⟨o, p, aa, q, ea, eo, hs, hr⟩ := S.env.split hx
  obtain ⟨a, C, dx, fs, ia, e0, e1, hm, ha, hdx, hns, ow, back⟩ := hs.ins hk
  subst e0 e1 ea
  obtain ⟨v, p1, bs, q1, l1, l2, l3, l4⟩ := OwnFs.at_ hns ow hf
  subst l2
  unfold fOk at l3
  simp only [if_true] at l3
  refine ⟨a, C, dx, fs, v, bs, eo, hm, ha, l1, l3, fun b ob u d' eb hu h1 h2 fin => ?_⟩
  subst eb
  have nd := S.nd
  have hb : b ∈ p ++ ((a :: dx :: (p1 ++ ([b] ++ q1))) ++ q) := by simp
  have E : Ext F (p ++ ((a :: dx :: (p1 ++ ([b] ++ q1))) ++ q)) H F (p ++ ((a :: dx :: (p1 ++ ([b] ++ q1))) ++ q)) (upd H b ob) := Ext.write hu h1 h2 hb (S.nf b hb)
  have ne : ∀ y, y ∈ p ++ q ∨ y = a ∨ y = dx ∨ y ∈ p1 ++ q1 → y ≠ b := by
    intro y hy e
    subst e
    simp only [List.nodup_append, List.nodup_cons, List.mem_append, List.mem_cons, List.cons_append] at nd hy
    grind
  have kp : Kept (p ++ q) H (upd H b ob) := fun y m u' hy => by rw [upd_ne (ne y (.inl m))]; exact hy
  have kp1 : Kept (p1 ++ q1) H (upd H b ob) := fun y m u' hy => by rw [upd_ne (ne y (.inr (.inr (.inr m))))]; exact hy
  obtain ⟨m1, m2⟩ := l4 true d' [b] E.stb kp1 (by unfold fOk; simp only [if_true]; exact fin E.stb)
  have sl := back (F2 := F) (H2 := upd H b ob) c ns _ _ (a :: dx :: (p1 ++ ([b] ++ q1))) ⟨a, C, dx, fs, _, rfl, hm, by rw [upd_ne (ne a (.inr (.inl rfl)))]; exact ha, by rw [upd_ne (ne dx (.inr (.inr (.inl rfl))))]; exact hdx, hns, m2, rfl⟩
  have z := hr _ _ _ E.stb kp sl
  rw [set_same eo] at z
  exact ⟨E, ⟨z, S.nd, S.nf, E.fk S.fk⟩⟩
/-- a field is bound -/
theorem Sit2.setF {K : Kc} {F : Addr → Prop} {B : List Addr} {H : Hp} {ρ : Env} {σ : L2.St} {as : List Addr} {d : D} {w : Bool} {v : V} {bs : List Addr} (S : Sit2 K F B H ρ σ as d w v bs) {i : Nat} {x : Sl} {c f : Str} {ns : List Str} {os : List Bool} {ds : List D} (hx : ρ[i]? = some x) (hk : isIns x (.ins c ns os ds)) (hw : w = true → isC d = true) :
    ∃ a C dx fs as', σ[i]? = some (some (.ref a)) ∧ K.mg c = some (.ref C) ∧ H a = some (.ins C dx fs) ∧ fs.map (·.1) = ns ∧ Ext F (bs ++ as) H F as' (upd H a (.ins C dx (putF f v fs))) ∧
      Sit K F B (upd H a (.ins C dx (putF f v fs))) (ρ.set i (reSl x (.ins c (fput ns os ds f w d).1 (fput ns os ds f w d).2.1 (fput ns os ds f w d).2.2))) σ as' := by
  obtain ⟨o, p, aa, q, ea, eo, hs, hr⟩ := S.env.split hx
  obtain ⟨a, C, dx, fs, ia, e0, e1, hm, ha, hdx, hns, ow, back⟩ := hs.ins hk
  subst e0 e1 ea
  have h0 : fOk K F H w d v bs := by
    have r := S.res
    unfold fOk
    cases w with
    | true => simp only [if_true] at r ⊢; exact r.toC (hw rfl)
    | false => simp only [Bool.false_eq_true, if_false] at r ⊢; exact ⟨r.2, r.1⟩
  obtain ⟨p1, b, q1, l1, l2, l3⟩ := OwnFs.put h0 (f := f) hns ow
  subst l1
  have nd := S.nd
  refine ⟨a, C, dx, fs, p ++ ((a :: dx :: (p1 ++ (bs ++ q1))) ++ q), eo, hm, ha, hns, ?_⟩
  have hma : a ∈ bs ++ (p ++ ((a :: dx :: (p1 ++ (b ++ q1))) ++ q)) := by simp
  have E : Ext F (bs ++ (p ++ ((a :: dx :: (p1 ++ (b ++ q1))) ++ q))) H F (bs ++ (p ++ ((a :: dx :: (p1 ++ (b ++ q1))) ++ q))) (upd H a (.ins C dx (putF f v fs))) := Ext.write ha (fun _ z => by cases z) (fun _ _ z => by cases z) hma (S.nf a hma)
  have mem : ∀ y, y ∈ p ++ ((a :: dx :: (p1 ++ (bs ++ q1))) ++ q) → y ∈ bs ++ (p ++ ((a :: dx :: (p1 ++ (b ++ q1))) ++ q)) := fun y m => by
    simp only [List.mem_append, List.mem_cons, List.cons_append] at m ⊢
    grind
  have ne : ∀ y, y ∈ p ++ q ∨ y = dx ∨ y ∈ p1 ++ (bs ++ q1) → y ≠ a := by
    intro y hy e
    subst e
    simp only [List.nodup_append, List.nodup_cons, List.mem_append, List.mem_cons, List.cons_append] at nd hy
    grind
  have kp : Kept (p ++ q) H (upd H a (.ins C dx (putF f v fs))) := fun y m u' hy => by rw [upd_ne (ne y (.inl m))]; exact hy
  have kp1 : Kept (p1 ++ (bs ++ q1)) H (upd H a (.ins C dx (putF f v fs))) := fun y m u' hy => by rw [upd_ne (ne y (.inr (.inr m)))]; exact hy
  have sl := back (F2 := F) (H2 := upd H a (.ins C dx (putF f v fs))) c _ _ _ (a :: dx :: (p1 ++ (bs ++ q1))) ⟨a, C, dx, putF f v fs, _, rfl, hm, upd_same, by rw [upd_ne (ne dx (.inr (.inl rfl)))]; exact hdx, l2, l3.stb E.stb.weak kp1, rfl⟩
  have z := hr _ _ _ E.stb kp sl
  rw [set_same eo] at z
  refine ⟨E.sub mem, ⟨z, ?_, fun y m => S.nf y (mem y m), E.fk S.fk⟩⟩
  simp only [List.nodup_append, List.nodup_cons, List.mem_append, List.mem_cons, List.cons_append] at nd ⊢
  grind
theorem look_ins {ρ : Env} {i : Nat} {c : Str} {ns : List Str} {os : List Bool} {ds : List D} {x : Sl} (hx : ρ[i]? = some x) (h : DV.look ρ i = some (.ins c ns os ds)) (hno : ∀ d, x ≠ .sh d) : isIns x (.ins c ns os ds) := by
  unfold DV.look at h
  rw [hx] at h
  cases x with
  | no => cases h
  | sh d => exact absurd rfl (hno d)
  | ow d => cases h; exact .inl rfl
  | bo n d => cases h; exact .inr ⟨n, rfl⟩
def unSh : Sl → Bool
  | .sh _ => false
  | _ => true
theorem unSh_no {x : Sl} (h : unSh x = true) : ∀ d, x ≠ .sh d := fun d e => by subst e; simp [unSh] at h
/-- o.f = e -/
def gSetF (i : Nat) (c f : Str) (g : FW) : FS := fun ρ => match g ρ with
  | some (d, w, ρ1) => match ρ1[i]? with
    | some x => match (look ρ1 i).bind (insOf c) with
      | some (ns, os, ds) => if unSh x = true ∧ (!w || isC d) = true ∧ ns.length < 1000 then some (.nx, ρ1.set i (reSl x (.ins c (fput ns os ds f w d).1 (fput ns os ds f w d).2.1 (fput ns os ds f w d).2.2))) else none
      | none => none
    | none => none
  | none => none
theorem gSetF_some {i : Nat} {c f : Str} {g : FW} {ρ ρ' : Env} {fl : Fl} (h : gSetF i c f g ρ = some (fl, ρ')) : fl = .nx ∧ ∃ d w ρ1 x ns os ds, g ρ = some (d, w, ρ1) ∧ ρ1[i]? = some x ∧ look ρ1 i = some (.ins c ns os ds) ∧ isIns x (.ins c ns os ds) ∧ (w = true → isC d = true) ∧ ns.length < 1000 ∧
    ρ' = ρ1.set i (reSl x (.ins c (fput ns os ds f w d).1 (fput ns os ds f w d).2.1 (fput ns os ds f w d).2.2)) := by
  unfold gSetF at h
  split at h
  · rename_i d w ρ1 q1
    split at h
    · rename_i x q2
      split at h
      · rename_i ns os ds q3
        split at h
        · rename_i hh
          cases h
          obtain ⟨e, h1, h2⟩ := Option.bind_eq_some_iff.mp q3
          have h1' : DV.look ρ1 i = some (.ins c ns os ds) := by rw [h1, insOf_some h2]
          refine ⟨rfl, d, w, ρ1, x, ns, os, ds, q1, q2, h1', look_ins q2 h1' (unSh_no hh.1), fun e => ?_, hh.2.2, rfl⟩
          have := hh.2.1
          rw [e] at this
          simpa using this
        · cases h
      · cases h
    · cases h
  · cases h
section
variable {X : Cx} {pos p pos' : Pos}
theorem cs_setF {i : Nat} {x c f : Str} {e : Expr} {g : FW} (C : ClsF (kc X) c f) (he : PE X e (tW (kc X) g)) (hN : X.N[i]? = some x := by rfl) (hv : Vis X.env.scope x := by first | exact Or.inl rfl | exact Or.inr (Or.inl rfl) | exact Or.inr (Or.inr rfl)) (hd : (x == ("__debug__" : Str)) = false := by decide)
    (hcd : (x == ("__classdict__" : Str)) = false := by decide) (hs : swapsWith e (some (.Attribute (.Name x p) f pos')) pos.line X.env = pure false := by rfl) : PS X (.Assign [.Attribute (.Name x p) f pos'] e pos) (tS (kc X) (gSetF i c f g)) :=
  PS.to (ps_fld (pe_var hN hv hd hcd) he hs) fun D σ H ⟨F, B, as, ρ, fl, ρ', S, e, k⟩ => by
    obtain ⟨rfl, d, w, ρ1, x, ns, os, ds, e1, e2, e3, e4, hw, hz, rfl⟩ := gSetF_some e
    refine ⟨F, B, as, ρ, d, w, ρ1, S, e1, fun v H1 F1 as1 bs E1 S1 => ?_⟩
    obtain ⟨a, C0, dx, fs, as2, ev, hm, ha, hns, E2, S2⟩ := S1.setF (f := f) e2 e4 hw
    obtain ⟨C1, hm1, hc, hn⟩ := C.ex
    rw [hm] at hm1; cases hm1
    exact ⟨.ref a, ev, a, C0, dx, fs, rfl, ha, hc, hn, by rw [← List.length_map (f := (·.1)), hns]; exact hz, k σ _ F1 as2 (E1.trans E2) S2⟩
end
/-- o.f += e -/
def gAugF (i : Nat) (c f : Str) (op : D → D → Option D) (g : FD) : FS := fun ρ => match fldOf i c f ρ with
  | some (false, d0) => match g ρ with
    | some (d1, ρ1) => match op d0 d1 with
      | some d => gSetF i c f (fun ρ => some (d, false, ρ)) ρ1
      | none => none
    | none => none
  | _ => none
section
variable {X : Cx} {pos p pos' : Pos}
theorem inop_add : InOp X .Add (rI0 fun i j => .int (i + j)) := by
  intro pins s σ H x y u v Q I rx ry h
  exact iop_add pins s σ H x y u v Q I rx ry h
theorem cs_augF {i : Nat} {x c f : Str} {e : Expr} {g : FD} (C : ClsF (kc X) c f) (he : PE X e (tD (kc X) g)) (hN : X.N[i]? = some x := by rfl) (hv : Vis X.env.scope x := by first | exact Or.inl rfl | exact Or.inr (Or.inl rfl) | exact Or.inr (Or.inr rfl)) (hd : (x == ("__debug__" : Str)) = false := by decide)
    (hcd : (x == ("__classdict__" : Str)) = false := by decide) : PS X (.AugAssign (.Attribute (.Name x p) f pos') .Add e pos) (tS (kc X) (gAugF i c f addI g)) :=
  PS.to (ps_fldaug (pe_var hN hv hd hcd) he inop_add) fun D σ H ⟨F, B, as, ρ, fl, ρ', S, e, k⟩ => by
    unfold gAugF at e
    split at e
    · rename_i d0 q0
      split at e
      · rename_i d1 ρ1 q1
        split at e
        · rename_i d q2
          obtain ⟨ns0, os0, ds0, h1, h2⟩ := fldOf_some q0
          obtain ⟨xx, a, C0, dx, fs, ia, _, _, ev, hm, ha, hdx, hns, ow⟩ := S.ins h1
          obtain ⟨C1, hm1, hc, hn⟩ := C.ex
          rw [hm] at hm1; cases hm1
          obtain ⟨v, p1, b, qq1, l1, _, l3, _⟩ := OwnFs.at_ hns ow h2
          unfold fOk at l3
          simp only [Bool.false_eq_true, if_false] at l3
          refine ⟨.ref a, ev, a, C0, dx, fs, v, rfl, ha, hc, hn, l1, F, B, as, ρ, d1, ρ1, S, q1, fun v1 H1 F1 as1 E1 S1 r1 => ?_⟩
          refine pr_add F1 H1 d0 d1 d v v1 _ S1.fk q2 (Rep.stb E1.stb.weak _ _ l3.1).vw r1.vw fun z F2 H2 E2 r2 => ?_
          have S2 := S1.step E2
          obtain ⟨rfl, d', w, ρ2, x', ns, os, ds, e1, e2, e3, e4, hw, hz, rfl⟩ := gSetF_some e
          cases e1
          have T : Sit2 (kc X) F2 B H2 ρ1 σ as1 d false z [] := ⟨S2.env, S2.nd, S2.nf, S2.fk, by simp [r2]⟩
          obtain ⟨a', C', dx', fs', as2, ev', hm', ha', hns', E3, S3⟩ := T.setF (f := f) e2 e4 (fun z => by cases z)
          rw [ev] at ev'; cases ev'
          rw [hm] at hm'; cases hm'
          exact ⟨dx', fs', ha', by rw [← List.length_map (f := (·.1)), hns']; exact hz, k σ _ F2 as2 ((E1.trans E2.pure).trans E3) S3⟩
        · cases e
      · cases e
    · cases e
end
end DV

/-! DV19: objects: lists and dicts in fields; methods; new objects. -/
namespace DV
open L2 PySem PySem.Spec PyProof.Rows
/-- the field's own thing is put to another: c' -/
def backF (i : Nat) (c f : Str) (c' : D) (ρ : Env) : Option Env := match ρ[i]? with
  | some x => match (look ρ i).bind (insOf c) with
    | some (ns, os, ds) => if unSh x = true then some (ρ.set i (reSl x (.ins c ns (fput ns os ds f true c').2.1 (fput ns os ds f true c').2.2))) else none
    | none => none
  | none => none
theorem backF_some {i : Nat} {c f : Str} {c' : D} {ρ ρ' : Env} (h : backF i c f c' ρ = some ρ') : ∃ x ns os ds, ρ[i]? = some x ∧ look ρ i = some (.ins c ns os ds) ∧ isIns x (.ins c ns os ds) ∧ ρ' = ρ.set i (reSl x (.ins c ns (fput ns os ds f true c').2.1 (fput ns os ds f true c').2.2)) := by
  unfold backF at h
  split at h
  · rename_i x q2
    split at h
    · rename_i ns os ds q3
      split at h
      · rename_i hh
        cases h
        obtain ⟨e, h1, h2⟩ := Option.bind_eq_some_iff.mp q3
        have h1' : DV.look ρ i = some (.ins c ns os ds) := by rw [h1, insOf_some h2]
        exact ⟨x, ns, os, ds, q2, h1', look_ins q2 h1' (unSh_no hh), rfl⟩
      · cases h
    · cases h
  · cases h
/-- e computed with the object of name i put aside -/
def gAside (i : Nat) (g : FD) : FD := fun ρ => match ρ[i]? with
  | some x => match g (ρ.set i .no) with
    | some (d, ρ1) => match ρ1[i]? with
      | some .no => some (d, ρ1.set i x)
      | _ => none
    | none => none
  | none => none
theorem gAside_some {i : Nat} {g : FD} {ρ ρ' : Env} {d : D} (h : gAside i g ρ = some (d, ρ')) : ∃ x ρ1, ρ[i]? = some x ∧ g (ρ.set i .no) = some (d, ρ1) ∧ ρ1[i]? = some .no ∧ ρ' = ρ1.set i x := by
  unfold gAside at h
  split at h
  · rename_i x q1
    split at h
    · rename_i d ρ1 q2
      split at h
      · rename_i q3
        cases h
        exact ⟨x, ρ1, q1, q2, q3, rfl⟩
      · cases h
    · cases h
  · cases h
/-- .. the object and its field are what they were -/
theorem aside_fit {K : Kc} {F : Addr → Prop} {B : List Addr} {H : Hp} {ρ ρ' : Env} {σ : L2.St} {as : List Addr} {i : Nat} {c : Str} {ns : List Str} {os : List Bool} {ds : List D} {g : FD} {d : D} {Q : VK} {x : Sl} {a C dx : Addr} {fs : List (Str × V)} (S : Sit K F B H ρ σ as) (hx : ρ[i]? = some x) (hk : isIns x (.ins c ns os ds)) (ev : σ[i]? = some (some (.ref a))) (ha : H a = some (.ins C dx fs))
    (e : gAside i g ρ = some (d, ρ'))
    (k : ∀ v H1 F1 as1, Ext F as H F1 as1 H1 → Sit K F1 B H1 ρ' σ as1 → Rep K F1 H1 d v → ρ'[i]? = some x → H1 a = some (.ins C dx fs) → Q v H1) : tD K g σ H Q := by
  obtain ⟨x', ρ1, e1, e2, e3, rfl⟩ := gAside_some e
  rw [hx] at e1; cases e1
  obtain ⟨o, ins, rest, eo, hs, Sh, hn1, hd1, mem⟩ := S.hide hx
  rw [ev] at eo; cases eo
  refine ⟨F, B, rest, ρ.set i .no, d, ρ1, Sh, e2, fun v H1 F1 rest1 E1 S1 r1 => ?_⟩
  obtain ⟨as1, S2, E2, sl, kp, _⟩ := S1.unhide E1 e3 ev hs hn1 hd1 mem
  obtain ⟨a', C', dx', fs', ia', e5, e6, _, h6, _⟩ := hs.ins hk
  cases e5
  rw [ha] at h6; cases h6
  have hi : i < ρ1.length := (List.getElem?_eq_some_iff.mp e3).1
  exact k v H1 F1 as1 E2 S2 r1 (List.getElem?_set_self hi) (kp a (by rw [e6]; simp) _ ha)
/-- o.f[k] = e -/
def gPutF (i : Nat) (c f : Str) (ge gk : FD) : FS := fun ρ => match ge ρ with
  | some (d, ρ1) => match fldOf i c f ρ1 with
    | some (true, cont) => match gAside i gk ρ1 with
      | some (k, ρ2) => match putD cont k d with
        | some c' => match backF i c f c' ρ2 with
          | some ρ3 => some (.nx, ρ3)
          | none => none
        | none => none
      | none => none
    | _ => none
  | none => none
/-- o.f.append(e) -/
def gAppF (i : Nat) (c f : Str) (g : FD) : FS := fun ρ => match fldOf i c f ρ with
  | some (true, .lst xs) => match gAside i g ρ with
    | some (d, ρ1) => if xs.length < SZ then match backF i c f (.lst (xs ++ [d])) ρ1 with
        | some ρ2 => some (.nx, ρ2)
        | none => none
      else none
    | none => none
  | _ => none
section
variable {X : Cx} {pos p pos' apos cpos fpos : Pos}
theorem at_slot {i : Nat} {ρ : Env} {c : Str} {ns : List Str} {os : List Bool} {ds : List D} {x : Sl} (hx : ρ[i]? = some x) (hk : isIns x (.ins c ns os ds)) : DV.look ρ i = some (.ins c ns os ds) := by
  unfold DV.look
  rw [hx]
  rcases hk with rfl | ⟨n, rfl⟩ <;> rfl
theorem cs_putF {i : Nat} {x c f : Str} {ix e : Expr} {ge gk : FD} {kk : Nat} (C : ClsF (kc X) c f) (hr : Room kk X.A) (he : PE X e (tD (kc X) ge)) (hi : PE X ix (tD (kc X) gk)) (hN : X.N[i]? = some x := by rfl) (hv : Vis X.env.scope x := by first | exact Or.inl rfl | exact Or.inr (Or.inl rfl) | exact Or.inr (Or.inr rfl)) (hd : (x == ("__debug__" : Str)) = false := by decide)
    (hcd : (x == ("__classdict__" : Str)) = false := by decide) (hb : attributeBase (.Name x p) f X.env (eval (.Name x p) X.env) = eval (.Name x p) X.env := by rfl)
    (ha : ∀ v, assign (.Subscript (.Attribute (.Name x p) f fpos) ix pos') X.env v = (do
      let ov ← holding [v] (eval (.Attribute (.Name x p) f fpos) X.env)
      let iv ← holding [v, ov] (eval ix X.env)
      standAt pos'
      holding [v, ov, iv] (setItem ov iv v)
      release [v, ov, iv] []) := by intro _; rfl)
    (hs : swapsWithSole [.Subscript (.Attribute (.Name x p) f fpos) ix pos'] e pos.line X.env = pure false := by rfl) (hw : swappedStores [.Subscript (.Attribute (.Name x p) f fpos) ix pos'] e X.env = pure none := by rfl)
    (h1 : (assignEach [.Subscript (.Attribute (.Name x p) f fpos) ix pos'] X.env).map (·.2) = [assign (.Subscript (.Attribute (.Name x p) f fpos) ix pos') X.env] := by rfl) :
    PS X (.Assign [.Subscript (.Attribute (.Name x p) f fpos) ix pos'] e pos) (tS (kc X) (gPutF i c f ge gk)) :=
  PS.to (ps_asg he (pg_sub (pe_fld (pe_var hN hv hd hcd) hb) hi (set_all (ru1 hr)) ha) hs hw h1) fun D σ H ⟨F, B, as, ρ, fl, ρ', S, e, k⟩ => by
    unfold gPutF at e
    split at e
    · rename_i d ρ1 q1
      split at e
      · rename_i cont q2
        split at e
        · rename_i kd ρ2 q3
          split at e
          · rename_i c' q4
            split at e
            · rename_i ρ3 q5
              cases e
              refine ⟨F, B, as, ρ, d, ρ1, S, q1, fun vd H1 F1 as1 E1 S1 r1 => ?_⟩
              obtain ⟨ns, os, ds, h2, h3⟩ := fldOf_some q2
              obtain ⟨xx, a, C0, dx, fs, ia, hx, hk, ev, hm, hia, hdx, hns, ow⟩ := S1.ins h2
              obtain ⟨C1, hm1, hc, hn⟩ := C.ex
              rw [hm] at hm1; cases hm1
              obtain ⟨v, p1, bb, qq1, l1, _, l3, _⟩ := OwnFs.at_ hns ow h3
              refine ⟨.ref a, ev, a, C0, dx, fs, v, rfl, hia, hc, hn, l1, ?_⟩
              refine aside_fit S1 hx hk ev hia q3 fun vk H2 F2 as2 E2 S2 r2 hx2 ha2 => ?_
              obtain ⟨x', ns', os', ds', b1, b2, b3, rfl⟩ := backF_some q5
              rw [hx2] at b1; cases b1
              have := at_slot hx2 hk
              rw [b2] at this; cases this
              obtain ⟨a', C', dx', fs', v', bs, ev', hm', ha', l1', ow', fin⟩ := S2.writeF hx2 hk h3
              rw [ev] at ev'; cases ev'
              rw [ha2] at ha'; cases ha'
              rw [l1] at l1'; cases l1'
              refine put_fit (Own.ofC ow') r2 (Rep.stb E2.stb.weak _ _ r1) q4 fun b o u eb hu z1 z2 z3 => ?_
              have hcc : isC c' = true := by
                unfold putD at q4
                split at q4
                · split at q4 <;> cases q4; rfl
                · split at q4
                  · split at q4 <;> cases q4 <;> rfl
                  · cases q4
                · cases q4
              obtain ⟨E3, S3⟩ := fin b o u c' eb hu z1 z2 fun s => (z3 s).toC hcc
              exact k σ _ F2 as2 ((E1.trans E2).trans E3) S3
            · cases e
          · cases e
        · cases e
      · cases e
    · cases e
theorem cs_appF {i : Nat} {x c f : Str} {e : Expr} {g : FD} (C : ClsF (kc X) c f) (he : PE X e (tD (kc X) g)) (hN : X.N[i]? = some x := by rfl) (hv : Vis X.env.scope x := by first | exact Or.inl rfl | exact Or.inr (Or.inl rfl) | exact Or.inr (Or.inr rfl)) (hd : (x == ("__debug__" : Str)) = false := by decide) (hcd : (x == ("__classdict__" : Str)) = false := by decide)
    (hb : attributeBase (.Name x p) f X.env (eval (.Name x p) X.env) = eval (.Name x p) X.env := by rfl)
    (hbase : attributeBase (.Attribute (.Name x p) f fpos) "append" X.env (eval (.Attribute (.Name x p) f fpos) X.env) = eval (.Attribute (.Name x p) f fpos) X.env := by rfl)
    (hfew : ((backTo cpos (starEach [e] X.env)).all (fun x => !x.1) && (backToKw cpos (keywordEach [] X.env)).all (fun x => x.1.isSome)
      && decide ([e].length + ([] : List Keyword).length + (if ([] : List Keyword).isEmpty then 0 else 1) < 30)) = true := by rfl)
    (hline : (apos.endLine == cpos.line) = true := by rfl) (hst : starEach [e] X.env = (false, eval e X.env) :: starEach [] X.env := by rfl) (hplain : (backTo cpos (starEach [] X.env)).any (·.1) = false := by rfl)
    (hs : swapsWith (.Call (.Attribute (.Attribute (.Name x p) f fpos) "append" apos) [e] [] cpos) none pos.line X.env = pure false := by rfl) :
    PS X (.Expr (.Call (.Attribute (.Attribute (.Name x p) f fpos) "append" apos) [e] [] cpos) pos) (tS (kc X) (gAppF i c f g)) :=
  PS.to (ps_expr (pe_bm PySem.F.plainAttrs_list PySem.F.slot_list_append PySem.F.type_list_append mt_append (pe_fld (pe_var hN hv hd hcd) hb) (pa_cons he pa_nil hst) hbase hfew hline hst hplain) hs) fun D σ H ⟨F, B, as, ρ, fl, ρ', S, e, k⟩ => by
    unfold gAppF at e
    split at e
    · rename_i xs q2
      split at e
      · rename_i d ρ1 q3
        split at e
        · rename_i hz
          split at e
          · rename_i ρ2 q5
            cases e
            obtain ⟨ns, os, ds, h2, h3⟩ := fldOf_some q2
            obtain ⟨xx, a, C0, dx, fs, ia, hx, hk, ev, hm, hia, hdx, hns, ow⟩ := S.ins h2
            obtain ⟨C1, hm1, hc, hn⟩ := C.ex
            rw [hm] at hm1; cases hm1
            obtain ⟨v, p1, bb, qq1, l1, _, l3, _⟩ := OwnFs.at_ hns ow h3
            obtain ⟨a0, us0, e0, h0, r0⟩ := l3.vw.lst
            subst e0
            refine ⟨.ref a, ev, a, C0, dx, fs, .ref a0, rfl, hia, hc, hn, l1, .inl ⟨rfl, _, SqL.of h0⟩, ?_⟩
            refine aside_fit S hx hk ev hia q3 fun vd H2 F2 as2 E2 S2 r2 hx2 ha2 => ?_
            obtain ⟨x', ns', os', ds', b1, b2, b3, rfl⟩ := backF_some q5
            rw [hx2] at b1; cases b1
            have := at_slot hx2 hk
            rw [b2] at this; cases this
            obtain ⟨a', C', dx', fs', v', bs, ev', hm', ha', l1', ow', fin⟩ := S2.writeF hx2 hk h3
            rw [ev] at ev'; cases ev'
            rw [ha2] at ha'; cases ha'
            rw [l1] at l1'; cases l1'
            unfold OwnC at ow'
            obtain ⟨b, us, eb, h4, h5, rfl⟩ := ow'
            cases eb
            refine ⟨a0, us, vd, rfl, rfl, h4, sz_lt (by rw [h5.length]; omega), ?_⟩
            obtain ⟨E3, S3⟩ := fin a0 (.lst (us ++ [vd])) _ (.lst (xs ++ [d])) rfl h4 (fun _ z => by cases z) (fun _ _ z => by cases z) fun s => by
              unfold OwnC
              exact ⟨a0, _, rfl, upd_same, RepL.stb s.weak _ _ (h5.append (RepL.cons r2 RepL.nil)), rfl⟩
            exact k σ _ F2 as2 (E2.trans E3) S3
          · cases e
        · cases e
      · cases e
    · cases e

/-! ### methods -/
structure MetA (P : Program) (w : World) (K : PySem.W.Frag) (mg : Str → Option Value) (base : Heap) (n : Nat) (c m : Str) (bo : List Bool) (G : FnD) (dd : List D := []) : Prop where
  at_ : ∃ C f fd ps ds dvs, mg c = some (.ref C) ∧ Cls K C ∧ Meth K C m f ∧ Binds K fd ps ds ∧ Vals dvs ds ∧ (∀ F H, RepL ⟨K, mg⟩ F H dd dvs) ∧ FnOk P w K mg base CX0 n f fd ps (spD ⟨K, mg⟩ bo G)
/-- self: an object of class c that has no field m -/
def gSelf (i : Nat) (c m : Str) (ga : FAr) : FAr := fun ρ => match (look ρ i).bind (insOf c) with
  | some (ns, _, _) => if ns.contains m = false then gBo i ga ρ else none
  | none => none
theorem callD_fit' {K : Kc} {bo : List Bool} {G : FnD} {dd : List D} {dvs : List V} (hdd : ∀ F H, RepL K F H dd dvs) {ga : FAr} {σ : L2.St} {H : Hp} {Q : VK} {E : XK} (h : tW K (gCallD bo G dd ga) σ H Q) : tAr K ga σ H fun vs H1 => spD K bo G (vs ++ dvs) H1 Q E := callD_fit hdd h
theorem self_fit {K : Kc} {i : Nat} {c m : Str} {ga : FAr} {σ : L2.St} {H : Hp} {Q : List V → Hp → Prop} {C : Addr} (hC : K.mg c = some (.ref C)) (h : tAr K (gSelf i c m ga) σ H Q) :
    ∃ a dx fs, σ[i]? = some (some (.ref a)) ∧ H a = some (.ins C dx fs) ∧ fs.lookup m = none ∧ tAr K ga σ H fun vs H1 => Q (.ref a :: vs) H1 := by
  obtain ⟨F, B, as, ρ, ars, ρ', S, e, k⟩ := h
  unfold gSelf at e
  split at e
  · rename_i ns os ds q
    split at e
    · rename_i hm
      obtain ⟨e0, h1, h2⟩ := Option.bind_eq_some_iff.mp q
      have h1' : DV.look ρ i = some (.ins c ns os ds) := by rw [h1, insOf_some h2]
      obtain ⟨xx, a, C0, dx, fs, ia, hx, hk, ev, hmc, hia, hdx, hns, ow⟩ := S.ins h1'
      rw [hC] at hmc; cases hmc
      have hl : fs.lookup m = none := by
        have nm : m ∉ fs.map (·.1) := by
          rw [hns]
          intro z
          have : ns.contains m = true := List.contains_iff_mem.mpr z
          rw [hm] at this; cases this
        clear hns hia ow
        induction fs with
        | nil => rfl
        | cons p r ih =>
          obtain ⟨g, u⟩ := p
          simp only [List.map_cons, List.mem_cons, not_or] at nm
          rw [lookup_cons, if_neg (Ne.symm nm.1)]
          exact ih nm.2
      refine ⟨a, dx, fs, ev, hia, hl, ?_⟩
      unfold gBo at e
      rw [h1'] at e
      simp only at e
      split at e
      · rename_i ars2 ρ2 q2
        cases e
        exact ⟨F, B, as, ρ, ars2, _, S, q2, fun vs H2 F2 as2 E2 S2 r2 => k _ H2 F2 as2 E2 S2 (by unfold ArsR; exact ⟨_, vs, rfl, ev, r2⟩)⟩
      · cases e
    · cases e
  · cases e
theorem cw_meth {n i : Nat} {x c m : Str} {bo : List Bool} {G : FnD} {dd : List D} {e : Expr} {es : List Expr} {ga : FAr} (M : MetA X.prog X.w X.K X.mg X.base n c m bo G dd) (hr : Room n X.A) (ha : PA X (e :: es) (tAr (kc X) ga)) (hN : X.N[i]? = some x := by rfl) (hv : Vis X.env.scope x := by first | exact Or.inl rfl | exact Or.inr (Or.inl rfl) | exact Or.inr (Or.inr rfl)) (hd : (x == ("__debug__" : Str)) = false := by decide)
    (hcd : (x == ("__classdict__" : Str)) = false := by decide) {pl : Sem Bool} (hst : starEach (e :: es) X.env = (false, eval e X.env) :: starEach es X.env := by rfl) (hpl : (backTo pos (starEach es X.env)).any (·.1) = false := by rfl)
    (ht : eval (.Call (.Attribute (.Name x p) m apos) (e :: es) [] pos) X.env = (do
      let ov ← eval (.Name x p) X.env
      standAt apos.atName
      let (f, first) ← holding [ov] (getMethod ov m pl)
      callWith pos f first (backTo pos (starEach (e :: es) X.env)) (backToKw pos (keywordEach [] X.env))) := by rfl) :
    PE X (.Call (.Attribute (.Name x p) m apos) (e :: es) [] pos) (tW (kc X) (gCallD bo G dd (gSelf i c m ga))) := by
  obtain ⟨C, f, fd, ps, ds, dvs, hm, hc, hme, hb, hvv, hdd, ok⟩ := M.at_
  refine PE.to (pe_meth (pl := pl) (pe_var hN hv hd hcd) hc hme ok hr hb hvv pass0 ha hst hpl ht) fun σ H Q h => ?_
  obtain ⟨a, dx, fs, ev, hia, hl, k⟩ := self_fit hm (callD_fit' (E := E0) hdd h)
  exact ⟨.ref a, ev, a, dx, fs, rfl, hia, hl, k⟩
theorem cw_meth0 {n i : Nat} {x c m : Str} {bo : List Bool} {G : FnD} {dd : List D} (M : MetA X.prog X.w X.K X.mg X.base n c m bo G dd) (hr : Room n X.A) (hN : X.N[i]? = some x := by rfl) (hv : Vis X.env.scope x := by first | exact Or.inl rfl | exact Or.inr (Or.inl rfl) | exact Or.inr (Or.inr rfl)) (hd : (x == ("__debug__" : Str)) = false := by decide)
    (hcd : (x == ("__classdict__" : Str)) = false := by decide) {pl : Sem Bool}
    (ht : eval (.Call (.Attribute (.Name x p) m apos) [] [] pos) X.env = (do
      let ov ← eval (.Name x p) X.env
      standAt apos.atName
      let (f, first) ← holding [ov] (getMethod ov m pl)
      callWith pos f first (backTo pos (starEach [] X.env)) (backToKw pos (keywordEach [] X.env))) := by rfl) :
    PE X (.Call (.Attribute (.Name x p) m apos) [] [] pos) (tW (kc X) (gCallD bo G dd (gSelf i c m fun ρ => some ([], ρ)))) := by
  obtain ⟨C, f, fd, ps, ds, dvs, hm, hc, hme, hb, hvv, hdd, ok⟩ := M.at_
  refine PE.to (pe_meth0 (pl := pl) (pe_var hN hv hd hcd) hc hme ok hr hb hvv pass0 ht) fun σ H Q h => ?_
  obtain ⟨a, dx, fs, ev, hia, hl, F, B, as, ρ, ars, ρ', S, e, k⟩ := self_fit hm (callD_fit' (E := E0) hdd h)
  refine ⟨.ref a, ev, a, dx, fs, rfl, hia, hl, ?_⟩
  cases e
  exact k [] H F as .refl S (by unfold ArsR; rfl)
end
end DV

/-! DV20: a new object; a call that is lent a field and a name. -/
namespace DV
open L2 PySem PySem.Spec PyProof.Rows
structure MakA (P : Program) (w : World) (K : PySem.W.Frag) (mg : Str → Option Value) (base : Heap) (n : Nat) (c : Str) (bo : List Bool) (G : FnD) (dd : List D := []) : Prop where
  at_ : ∃ C f fd ps ds dvs, mg c = some (.ref C) ∧ Mk K C f ∧ Binds K fd ps ds ∧ Vals dvs ds ∧ (∀ F H, RepL ⟨K, mg⟩ F H dd dvs) ∧ FnOk P w K mg base CX0 n f fd ps (spD ⟨K, mg⟩ bo G)
def gMake (bo : List Bool) (G : FnD) (dd : List D) (c : Str) (g : FL) : FW := fun ρ => match g ρ with
  | some (ds, ρ1) => if bo = true :: (ds ++ dd).map (fun _ => false) then match G (.ins c [] [] [] :: (ds ++ dd)) with
      | some (.non, false, [d]) => some (d, true, ρ1)
      | _ => none
    else none
  | none => none
theorem gMake_some {bo : List Bool} {G : FnD} {dd : List D} {c : Str} {g : FL} {ρ ρ' : Env} {d : D} {w : Bool} (h : gMake bo G dd c g ρ = some (d, w, ρ')) : w = true ∧ ∃ ds, g ρ = some (ds, ρ') ∧ bo = true :: (ds ++ dd).map (fun _ => false) ∧ G (.ins c [] [] [] :: (ds ++ dd)) = some (.non, false, [d]) := by
  unfold gMake at h
  split at h
  · rename_i ds ρ1 q
    split at h
    · rename_i hb
      split at h
      · rename_i d' q2
        cases h
        exact ⟨rfl, ds, q, hb, q2⟩
      · cases h
    · cases h
  · cases h
theorem ArgR.vals {K : Kc} {F : Addr → Prop} {H : Hp} : ∀ {ds : List D} {vs : List V}, RepL K F H ds vs → ArgR K F H (ds.map fun _ => false) ds vs []
  | [], vs, r => by unfold RepL at r; subst r; show ArgR K F H [] [] [] []; unfold ArgR; exact ⟨rfl, rfl⟩
  | d :: ds, vs, r => by
    unfold RepL at r
    obtain ⟨v, u, rfl, h1, h2⟩ := r
    show ArgR K F H (false :: ds.map fun _ => false) (d :: ds) (v :: u) []
    unfold ArgR
    exact ⟨v, u, rfl, h1, ArgR.vals h2⟩
theorem BorR.vals {K : Kc} {F : Addr → Prop} {H : Hp} : ∀ {n ds : List D} {vs : List V} {as : List Addr}, BorR K F H (n.map fun _ => false) ds vs as → ds = [] ∧ as = []
  | [], ds, vs, as, h => by simp only [List.map_nil] at h; unfold BorR at h; exact ⟨h.1, h.2.2⟩
  | d :: n, ds, vs, as, h => by
    simp only [List.map_cons] at h
    unfold BorR at h
    obtain ⟨v, r, _, h⟩ := h
    exact BorR.vals h
theorem make_fit {K : Kc} {bo : List Bool} {G : FnD} {dd : List D} {dvs : List V} {c : Str} {C : Addr} (hC : K.mg c = some (.ref C)) (hdd : ∀ F H, RepL K F H dd dvs) {g : FL} {σ : L2.St} {H : Hp} {Q : VK} {E : XK} (h : tW K (gMake bo G dd c g) σ H Q) : tMake C (spD K bo G) dvs E (tL K g) σ H Q := by
  obtain ⟨F, B, as, ρ, d, w, ρ', S, e, k⟩ := h
  obtain ⟨rfl, ds, e1, rfl, e3⟩ := gMake_some e
  refine ⟨F, B, as, ρ, ds, ρ', S, e1, fun vs H1 F1 as1 E1 S1 ra x dx hx hdx hne => ?_⟩
  have Ea : Ext F1 as1 H1 F1 (dx :: as1) (upd H1 dx (.own x)) := Ext.newO hdx
  have hx2 : upd H1 dx (.own x) x = none := by rw [upd_ne (Ne.symm hne)]; exact hx
  have Eb : Ext F1 (dx :: as1) (upd H1 dx (.own x)) F1 (x :: dx :: as1) (upd (upd H1 dx (.own x)) x (.ins C dx [])) := Ext.newO hx2
  have E2 := Ea.trans Eb
  have rv := (ra.append (hdd F1 H1)).stb E2.stb.weak
  refine ⟨F1, [x, dx], .ins c [] [] [] :: (ds ++ dd), .non, false, [d], ?_, by simp [Ne.symm hne], fun a m f => ?_, E2.fk S1.fk, e3, fun v H' F' as' bs E3 hB nd nf fk r => ?_⟩
  · unfold ArgR
    refine ⟨.ref x, _, [x, dx], [], rfl, rfl, ?_, ArgR.vals rv⟩
    unfold Own OwnI
    exact ⟨x, C, dx, [], [], rfl, hC, upd_same, by rw [upd_ne hne, upd_same], rfl, by unfold OwnFs; exact ⟨rfl, rfl⟩, rfl⟩
  · simp only [List.mem_cons, List.not_mem_nil, or_false] at m
    rcases m with rfl | rfl
    · exact S1.fk _ f hx
    · exact S1.fk _ f hdx
  · simp only [Bool.false_eq_true, if_false] at r
    obtain ⟨rfl, r⟩ := r
    unfold Rep at r
    refine ⟨r, ?_⟩
    unfold BorR at hB
    obtain ⟨d0, e0, v0, r0, a1, a2, h1, h2, rfl, ho, hB⟩ := hB
    obtain ⟨rfl, rfl⟩ := hB.vals
    cases h1
    cases h2
    rw [List.append_nil] at E3 nd nf
    simp only [List.nil_append] at E3 nd nf
    have far : ∀ b, b ∈ as1 → b ∉ [x, dx] := fun b m z => by
      obtain ⟨u, hu⟩ := S1.env.there b m
      simp only [List.mem_cons, List.not_mem_nil, or_false] at z
      rcases z with rfl | rfl
      · rw [hx] at hu; cases hu
      · rw [hdx] at hu; cases hu
    have kp2 : Kept as1 H1 (upd (upd H1 dx (.own x)) x (.ins C dx [])) := fun b m u hu => E2.keep b u hu |> fun f => by
      have h1 : b ≠ x := fun e => far b m (by simp [e])
      have h2 : b ≠ dx := fun e => far b m (by simp [e])
      rw [upd_ne h1, upd_ne h2]; exact hu
    have kp3 : Kept as1 (upd (upd H1 dx (.own x)) x (.ins C dx [])) H' := E3.kept far
    have kp : Kept as1 H1 H' := fun b m u hu => kp3 b m u (kp2 b m u hu)
    have farb : ∀ b, b ∈ as1 → b ∉ a1 := fun b m z => by
      rcases E3.anew b z with z | z
      · exact far b m z
      · obtain ⟨u, hu⟩ := S1.env.there b m
        rw [kp2 b m u hu] at z; cases z
    have E4 : Ext F1 as1 H1 F' (a1 ++ as1) H' := by
      refine ⟨E2.stb.trans E3.stb, fun b u h n => ?_, fun b h => E2.dom b (E3.dom b h), fun b f => ?_, fun b m => ?_, fun h => E3.fk (E2.fk h)⟩
      · have h1 : b ≠ x := fun e => by rw [e, hx] at h; cases h
        have h2 : b ≠ dx := fun e => by rw [e, hdx] at h; cases h
        exact E3.keep b u (by rw [upd_ne h1, upd_ne h2]; exact h) (by simp [h1, h2])
      · rcases E3.fnew b f with z | z | z
        · exact .inl z
        · simp only [List.mem_cons, List.not_mem_nil, or_false] at z
          rcases z with rfl | rfl
          · exact .inr (.inr hx)
          · exact .inr (.inr hdx)
        · exact .inr (.inr (E2.dom b z))
      · rcases List.mem_append.mp m with m | m
        · rcases E3.anew b m with z | z
          · simp only [List.mem_cons, List.not_mem_nil, or_false] at z
            rcases z with rfl | rfl
            · exact .inr hx
            · exact .inr hdx
          · exact .inr (E2.dom b z)
        · exact .inl m
    refine k (.ref x) H' F' as1 a1 (E1.trans E4) ⟨S1.env.stb (E2.stb.trans E3.stb).weak kp, List.nodup_append.mpr ⟨nd, S1.nd, fun y hy z hz e => farb z hz (e ▸ hy)⟩, fun b m f => ?_, fk, ?_⟩
    · rcases List.mem_append.mp m with m | m
      · exact nf b m f
      · rcases E4.fnew b f with z | z | z
        · exact S1.nf b m z
        · rcases E3.fnew b f with z | z | z
          · exact S1.nf b m z
          · exact far b m z
          · obtain ⟨u, hu⟩ := S1.env.there b m
            rw [kp2 b m u hu] at z; cases z
        · obtain ⟨u, hu⟩ := S1.env.there b m
          rw [hu] at z; cases z
    · simp only [if_true]; exact ho
section
variable {X : Cx} {pos p : Pos}
theorem cw_make {n : Nat} {c : Str} {bo : List Bool} {G : FnD} {dd : List D} {e : Expr} {es : List Expr} {g : FL} (M : MakA X.prog X.w X.K X.mg X.base n c bo G dd) (hr : Room (n + 1) X.A) (hg : Gl X c) (ha : PA X (e :: es) (tL (kc X) g)) (hdb : (c == ("__debug__" : Str)) = false := by decide)
    (he : starEach (e :: es) X.env = (false, eval e X.env) :: starEach es X.env := by rfl) (hpl : (backTo pos (starEach es X.env)).any (·.1) = false := by rfl) : PE X (.Call (.Name c p) (e :: es) [] pos) (tW (kc X) (gMake bo G dd c g)) := by
  obtain ⟨C, f, fd, ps, ds, dvs, hm, mk, hb, hvv, hdd, ok⟩ := M.at_
  exact PE.to (pe_make mk ok hr hg hm hb hvv pass0 ha hdb he hpl) fun σ H Q h => make_fit hm hdd h
theorem cw_make0 {n : Nat} {c : Str} {bo : List Bool} {G : FnD} {dd : List D} (M : MakA X.prog X.w X.K X.mg X.base n c bo G dd) (hr : Room (n + 1) X.A) (hg : Gl X c) (hdb : (c == ("__debug__" : Str)) = false := by decide) : PE X (.Call (.Name c p) [] [] pos) (tW (kc X) (gMake bo G dd c fun ρ => some ([], ρ))) := by
  obtain ⟨C, f, fd, ps, ds, dvs, hm, mk, hb, hvv, hdd, ok⟩ := M.at_
  refine PE.to (pe_make0 mk ok hr hg hm hb hvv pass0 hdb) fun σ H Q h => ?_
  obtain ⟨F, B, as, ρ, ds, ρ', S, e, k⟩ := make_fit (E := E0) hm hdd h
  cases e
  exact k [] H F as .refl S RepL.nil
end

/-! ### f(o.x, y): both lent -/
def gTwo (G : FnD) (i : Nat) (c f : Str) (k : Nat) : FW := fun ρ => if i = k then none else match fldOf i c f ρ, ρ[i]?, ρ[k]? with
  | some (true, d1), some x, some (.ow d2) => if unSh x = true then match G [d1, d2] with
      | some (d, w, [d1', d2']) => if isC d1' = true then match backF i c f d1' (ρ.set k (.ow d2')) with
          | some ρ' => some (d, w, ρ')
          | none => none
        else none
      | _ => none
    else none
  | _, _, _ => none

theorem Sit.fill {K : Kc} {F : Addr → Prop} {B : List Addr} {H : Hp} {ρ : Env} {σ : L2.St} {rest ins : List Addr} {i : Nat} {x : Sl} {o : Option V} (S : Sit K F B H ρ σ rest) (h1 : ρ[i]? = some .no) (eo : σ[i]? = some o) (sl : SlR K F B H x o ins) (hn : ins.Nodup) (hd : ∀ b, b ∈ ins → b ∉ rest ∧ ¬ F b) :
    ∃ as1, Sit K F B H (ρ.set i x) σ as1 ∧ ∀ b, b ∈ as1 ↔ b ∈ ins ∨ b ∈ rest := by
  obtain ⟨o2, p, a, q, ea, eo2, hs2, hr⟩ := S.env.split h1
  rw [eo] at eo2; cases eo2
  unfold SlR at hs2
  subst hs2
  simp only [List.nil_append] at ea
  have z := hr x o ins .refl (Kept.of fun _ _ h => h) sl
  rw [set_same eo] at z
  have mem1 : ∀ b, b ∈ p ++ (ins ++ q) ↔ b ∈ ins ∨ b ∈ rest := fun b => by
    rw [ea]
    simp only [List.mem_append]
    constructor
    · rintro (h | h | h)
      · exact .inr (.inl h)
      · exact .inl h
      · exact .inr (.inr h)
    · rintro (h | h | h)
      · exact .inr (.inl h)
      · exact .inl h
      · exact .inr (.inr h)
  have nd : (p ++ (ins ++ q)).Nodup := by
    have n1 := S.nd
    rw [ea] at n1
    have n2 := List.nodup_append.mp n1
    refine List.nodup_append.mpr ⟨n2.1, List.nodup_append.mpr ⟨hn, n2.2.1, fun y hy w hw e => (hd y hy).1 (by rw [ea, e]; exact List.mem_append_right _ hw)⟩, fun y hy w hw e => ?_⟩
    rcases List.mem_append.mp hw with m | m
    · exact (hd w m).1 (by rw [ea, ← e]; exact List.mem_append_left _ hy)
    · exact n2.2.2 y hy w m e
  exact ⟨p ++ (ins ++ q), ⟨z, nd, fun b m => ((mem1 b).mp m).elim (fun m => (hd b m).2) (S.nf b), S.fk⟩, mem1⟩
theorem gTwo_some {G : FnD} {i k : Nat} {c f : Str} {ρ ρ' : Env} {d : D} {w : Bool} (h : gTwo G i c f k ρ = some (d, w, ρ')) : i ≠ k ∧ ∃ ns os ds d1 d2 d1' d2' x, look ρ i = some (.ins c ns os ds) ∧ fld ns os ds f = some (true, d1) ∧ ρ[i]? = some x ∧ isIns x (.ins c ns os ds) ∧ ρ[k]? = some (.ow d2) ∧ G [d1, d2] = some (d, w, [d1', d2']) ∧ isC d1' = true ∧
    ρ' = (ρ.set k (.ow d2')).set i (reSl x (.ins c ns (fput ns os ds f true d1').2.1 (fput ns os ds f true d1').2.2)) := by
  unfold gTwo at h
  split at h
  · cases h
  · rename_i hik
    split at h
    · rename_i d1 x d2 q1 q2 q3
      split at h
      · rename_i hu
        split at h
        · rename_i d' w' d1' d2' q4
          split at h
          · rename_i hc
            split at h
            · rename_i ρ2 q5
              cases h
              obtain ⟨ns, os, ds, h1, h2⟩ := fldOf_some q1
              obtain ⟨x', ns', os', ds', b1, b2, b3, rfl⟩ := backF_some q5
              have hx2 : (ρ.set k (.ow d2'))[i]? = some x := by rw [List.getElem?_set_ne (Ne.symm hik)]; exact q2
              rw [hx2] at b1; cases b1
              have l2 := at_slot hx2 (look_ins q2 h1 (unSh_no hu))
              rw [b2] at l2; cases l2
              exact ⟨hik, ns, os, ds, d1, d2, d1', d2', x, h1, h2, q2, look_ins q2 h1 (unSh_no hu), q3, q4, hc, rfl⟩
            · cases h
          · cases h
        · cases h
      · cases h
    · cases h
theorem cw_two {X : Cx} {pos p p1 p2 fpos : Pos} {n i k : Nat} {x y c f fnm : Str} {G : FnD} (Fn : FnAt X n fnm [true, true] G) (hr : Room n X.A) (C : ClsF (kc X) c f) (hg : Gl X fnm) (hN : X.N[i]? = some x := by rfl) (hv : Vis X.env.scope x := by first | exact Or.inl rfl | exact Or.inr (Or.inl rfl) | exact Or.inr (Or.inr rfl)) (hd : (x == ("__debug__" : Str)) = false := by decide)
    (hcd : (x == ("__classdict__" : Str)) = false := by decide) (hN' : X.N[k]? = some y := by rfl) (hv' : Vis X.env.scope y := by first | exact Or.inl rfl | exact Or.inr (Or.inl rfl) | exact Or.inr (Or.inr rfl)) (hd' : (y == ("__debug__" : Str)) = false := by decide) (hcd' : (y == ("__classdict__" : Str)) = false := by decide)
    (hb : attributeBase (.Name x p1) f X.env (eval (.Name x p1) X.env) = eval (.Name x p1) X.env := by rfl) (hdb : (fnm == ("__debug__" : Str)) = false := by decide)
    (he : starEach [.Attribute (.Name x p1) f fpos, .Name y p2] X.env = (false, eval (.Attribute (.Name x p1) f fpos) X.env) :: starEach [.Name y p2] X.env := by rfl) (he2 : starEach [.Name y p2] X.env = (false, eval (.Name y p2) X.env) :: starEach [] X.env := by rfl) (hpl : (backTo pos (starEach [.Name y p2] X.env)).any (·.1) = false := by rfl) :
    PE X (.Call (.Name fnm p) [.Attribute (.Name x p1) f fpos, .Name y p2] [] pos) (tW (kc X) (gTwo G i c f k)) := by
  obtain ⟨ff, fd, ps, dsv, dvs, hm, hk, hbi, hvv, hdd, ok⟩ := Fn.at_
  have hnil : dvs = [] := by
    have := (hdd (fun _ => True) (fun _ => none)).length
    exact List.eq_nil_of_length_eq_zero (by simpa using this)
  subst hnil
  refine PE.to (pe_call ok hr hg hm hk hbi hvv pass0 (pa_cons (pe_fld (pe_var hN hv hd hcd) hb) (pa_cons (pe_var hN' hv' hd' hcd') pa_nil he2) he) hdb he hpl) fun σ H Q ⟨F, B, as, ρ, d, w, ρ', S, e, kk⟩ => ?_
  obtain ⟨hik, ns, os, ds, d1, d2, d1', d2', xx, h1, h2, hx, hki, hy, hG, hc1, rfl⟩ := gTwo_some e
  obtain ⟨o, ins, rest, eo, hs, Sh, hn1, hd1, mem⟩ := S.hide hx
  obtain ⟨a, C0, dx, fs, ia, e0, e1, hmc, ha, hdx, hns, ow, back⟩ := hs.ins hki
  subst e0 e1
  obtain ⟨C1, hm1, hc, hn⟩ := C.ex
  rw [hmc] at hm1; cases hm1
  obtain ⟨v, p1', b1, q1', l1, l2, l3, l4⟩ := OwnFs.at_ hns ow h2
  subst l2
  unfold fOk at l3
  simp only [if_true] at l3
  have hyk : (ρ.set i .no)[k]? = some (.ow d2) := by rw [List.getElem?_set_ne hik]; exact hy
  obtain ⟨o2, b2, rest2, eo2, hs2, Shh, hn2, hd2, mem2⟩ := Sh.hide hyk
  unfold SlR at hs2
  obtain ⟨v2, e2, r2⟩ := hs2
  subst e2
  refine ⟨.ref a, eo, a, C0, dx, fs, v, rfl, ha, hc, hn, l1, v2, eo2, ?_⟩
  show spD (kc X) [true, true] G [v, v2] H Q E0
  have inb1 : ∀ b, b ∈ b1 → b ∈ a :: dx :: (p1' ++ (b1 ++ q1')) := fun b m => by simp [m]
  have nd12 : (b1 ++ b2).Nodup := List.nodup_append.mpr ⟨by
    simp only [List.nodup_cons, List.nodup_append] at hn1
    exact hn1.2.2.2.1.1, hn2, fun y hy z hz e => (hd1 y (inb1 y hy)).1 ((mem2 y).mpr (.inl (e ▸ hz)))⟩
  refine ⟨F, b1 ++ b2, [d1, d2], d, w, [d1', d2'], ?_, nd12, fun b m => ?_, S.fk, hG, fun vr H' F' as' bs E hB nd nf fk r => ?_⟩
  · unfold ArgR
    refine ⟨v, [v2], b1, b2, rfl, rfl, Own.ofC l3, ?_⟩
    unfold ArgR
    refine ⟨v2, [], b2, [], rfl, by simp, r2, ?_⟩
    unfold ArgR
    exact ⟨rfl, rfl⟩
  · rcases List.mem_append.mp m with m | m
    · exact (hd1 b (inb1 b m)).2
    · exact (hd2 b m).2
  · unfold BorR at hB
    obtain ⟨da, ea, va, ra, b1', a2', h3, h4, rfl, hoa, hB⟩ := hB
    unfold BorR at hB
    obtain ⟨db, eb, vb, rb, b2', a3', h5, h6, rfl, hob, hB⟩ := hB
    unfold BorR at hB
    obtain ⟨rfl, rfl, rfl⟩ := hB
    cases h3; cases h4; cases h5; cases h6
    rw [List.append_nil] at E nd nf
    -- what was not lent
    have others : ∀ y, (y ∈ rest2 ∨ y = a ∨ y = dx ∨ y ∈ p1' ++ q1') → y ∉ b1 ++ b2 := fun y hy z => by
      rcases List.mem_append.mp z with z | z
      · rcases hy with hy | hy
        · exact (hd1 y (inb1 y z)).1 ((mem2 y).mpr (.inr hy))
        · simp only [List.nodup_cons, List.nodup_append, List.mem_append, List.mem_cons] at hn1 hy
          grind
      · rcases hy with hy | hy
        · exact (hd2 y z).1 hy
        · refine (hd1 y ?_).1 ((mem2 y).mpr (.inl z))
          simp only [List.mem_append, List.mem_cons] at hy ⊢
          grind
    have live : ∀ y, (y ∈ rest2 ∨ y = a ∨ y = dx ∨ y ∈ p1' ++ q1') → ∃ u, H y = some u := fun y hy => by
      rcases hy with hy | hy | hy | hy
      · exact Shh.env.there y hy
      · exact ⟨_, by rw [hy]; exact ha⟩
      · exact ⟨_, by rw [hy]; exact hdx⟩
      · refine ow.there y ?_
        simp only [List.mem_append] at hy ⊢
        grind
    have kpo : ∀ y, (y ∈ rest2 ∨ y = a ∨ y = dx ∨ y ∈ p1' ++ q1') → ∀ u, H y = some u → H' y = some u := fun y hy u hu => E.keep y u hu (others y hy)
    have far : ∀ y, (y ∈ rest2 ∨ y = a ∨ y = dx ∨ y ∈ p1' ++ q1') → y ∉ bs ++ (b1' ++ b2') ∧ ¬ F' y := fun y hy => by
      obtain ⟨u, hu⟩ := live y hy
      refine ⟨fun z => ?_, fun z => ?_⟩
      · rcases E.anew y z with z | z
        · exact others y hy z
        · rw [hu] at z; cases z
      · rcases E.fnew y z with z | z | z
        · rcases hy with hy | hy
          · exact Shh.nf y hy z
          · refine (hd1 y ?_).2 z
            simp only [List.mem_append, List.mem_cons] at hy ⊢
            grind
        · exact others y hy z
        · rw [hu] at z; cases z
    have S3 : Sit (kc X) F' B H' ((ρ.set i .no).set k .no) σ rest2 := ⟨Shh.env.stb E.stb.weak fun y m u hu => kpo y (.inl m) u hu, Shh.nd, fun y m => (far y (.inl m)).2, fk⟩
    have nd3 := nd
    simp only [List.nodup_append] at nd3
    have hkl : k < ρ.length := (List.getElem?_eq_some_iff.mp hy).1
    have hil : i < ρ.length := (List.getElem?_eq_some_iff.mp hx).1
    obtain ⟨asA, SA, mA⟩ := S3.fill (x := .ow d2') (ins := b2') (by rw [List.getElem?_set_self (by simpa using hkl)]) eo2 (by unfold SlR; exact ⟨v2, rfl, hob⟩) nd3.2.1.2.1 fun b m => ⟨fun z => (far b (.inl z)).1 (by simp [m]), fun z => nf b (by simp [m]) z⟩
    obtain ⟨m1, m2⟩ := l4 true d1' b1' E.stb (fun y m u hu => kpo y (.inr (.inr (.inr m))) u hu) (by unfold fOk; simp only [if_true]; exact hoa.toC hc1)
    have slI := back (F2 := F') (H2 := H') c ns _ _ (a :: dx :: (p1' ++ (b1' ++ q1'))) ⟨a, C0, dx, fs, _, rfl, hmc, kpo a (.inr (.inl rfl)) _ ha, kpo dx (.inr (.inr (.inl rfl))) _ hdx, hns, m2, rfl⟩
    have fa : ∀ y, (y = a ∨ y = dx ∨ y ∈ p1' ++ q1') → y ∉ b1' ∧ y ∉ b2' ∧ y ∉ bs := fun y hy => by
      have := (far y (.inr hy)).1
      simp only [List.mem_append, not_or] at this
      exact ⟨this.2.1, this.2.2, this.1⟩
    obtain ⟨asB, SB, mB⟩ := SA.fill (i := i) (x := reSl xx (.ins c ns (fput ns os ds f true d1').2.1 (fput ns os ds f true d1').2.2)) (ins := a :: dx :: (p1' ++ (b1' ++ q1'))) (by rw [List.getElem?_set_ne (Ne.symm hik), List.getElem?_set_ne (Ne.symm hik), List.getElem?_set_self hil]) eo slI (by
      have f1 := fa a (.inl rfl)
      have f2 := fa dx (.inr (.inl rfl))
      have f3 : ∀ y, y ∈ p1' ++ q1' → y ∉ b1' := fun y m => (fa y (.inr (.inr m))).1
      have nb := nd3.2.1.1
      simp only [List.nodup_cons, List.nodup_append, List.mem_append, List.mem_cons] at hn1 f3 ⊢
      grind) fun b m => by
        have nr : b ∉ rest2 := fun z => by
          simp only [List.mem_cons, List.mem_append] at m
          have hb1 : b ∈ b1' → False := fun q => (far b (.inl z)).1 (by simp [q])
          have hin : b ∈ a :: dx :: (p1' ++ (b1 ++ q1')) → False := fun q => (hd1 b q).1 ((mem2 b).mpr (.inr z))
          simp only [List.mem_cons, List.mem_append] at hin
          grind
        refine ⟨fun z => ?_, fun z => ?_⟩
        · rcases (mA b).mp z with z | z
          · simp only [List.mem_cons, List.mem_append] at m
            rcases m with m | m | m | m | m
            · exact (fa b (.inl m)).2.1 z
            · exact (fa b (.inr (.inl m))).2.1 z
            · exact (fa b (.inr (.inr (by simp [m])))).2.1 z
            · exact nd3.2.1.2.2 b m b z rfl
            · exact (fa b (.inr (.inr (by simp [m])))).2.1 z
          · exact nr z
        · simp only [List.mem_cons, List.mem_append] at m
          rcases m with m | m | m | m | m
          · exact (far b (.inr (.inl m))).2 z
          · exact (far b (.inr (.inr (.inl m)))).2 z
          · exact (far b (.inr (.inr (.inr (by simp [m]))))).2 z
          · exact nf b (by simp [m]) z
          · exact (far b (.inr (.inr (.inr (by simp [m]))))).2 z
    have envE : (((ρ.set i .no).set k .no).set k (.ow d2')).set i (reSl xx (.ins c ns (fput ns os ds f true d1').2.1 (fput ns os ds f true d1').2.2)) = (ρ.set k (.ow d2')).set i (reSl xx (.ins c ns (fput ns os ds f true d1').2.1 (fput ns os ds f true d1').2.2)) := by
      rw [List.set_set, List.set_comm _ _ hik, List.set_set]
    rw [envE] at SB
    have memB : ∀ b, b ∈ asB → b ∈ b1' ∨ b ∈ b2' ∨ b ∈ rest2 ∨ b = a ∨ b = dx ∨ b ∈ p1' ++ q1' := fun b m => by
      rcases (mB b).mp m with m | m
      · simp only [List.mem_cons, List.mem_append] at m ⊢
        grind
      · rcases (mA b).mp m with m | m
        · exact .inr (.inl m)
        · exact .inr (.inr (.inl m))
    have asM : ∀ b, (b ∈ b1 ++ b2 ∨ b ∈ rest2 ∨ b = a ∨ b = dx ∨ b ∈ p1' ++ q1') → b ∈ as := fun b m => by
      refine (mem b).mpr ?_
      rcases m with m | m | m
      · rcases List.mem_append.mp m with m | m
        · exact .inl (inb1 b m)
        · exact .inr ((mem2 b).mpr (.inl m))
      · exact .inr ((mem2 b).mpr (.inr m))
      · refine .inl ?_
        simp only [List.mem_cons, List.mem_append] at m ⊢
        grind
    refine kk vr H' F' asB bs ⟨E.stb, fun b u hu nm => E.keep b u hu fun z => nm (asM b (.inl z)), E.dom, fun b z => ?_, fun b m => ?_, E.fk⟩ ⟨SB.env, List.nodup_append.mpr ⟨nd3.1, SB.nd, fun y hy z hz e => ?_⟩, fun b m => ?_, fk, r⟩
    · rcases E.fnew b z with z | z | z
      · exact .inl z
      · exact .inr (.inl (asM b (.inl z)))
      · exact .inr (.inr z)
    · rcases List.mem_append.mp m with m | m
      · exact (E.anew b (by simp [m])).imp_left fun z => asM b (.inl z)
      · rcases memB b m with m | m | m
        · exact (E.anew b (by simp [m])).imp_left fun z => asM b (.inl z)
        · exact (E.anew b (by simp [m])).imp_left fun z => asM b (.inl z)
        · exact .inl (asM b (.inr m))
    · subst e
      rcases memB y hz with m | m | m
      · exact nd3.2.2 y hy y (by simp [m]) rfl
      · exact nd3.2.2 y hy y (by simp [m]) rfl
      · exact (far y m).1 (by simp [hy])
    · rcases List.mem_append.mp m with m | m
      · exact nf b (by simp [m])
      · exact SB.nf b m
end DV

/-! DV21: the classes of a text. -/
namespace DV
open L2 PySem PySem.Spec PyProof.Rows
structure DefM (K : PySem.W.Frag) (mg : Str → Option Value) (c m qual : Str) (st : Stmt) (ps : List Str) : Prop where
  ex : ∃ C f fd, mg c = some (.ref C) ∧ Cls K C ∧ Meth K C m f ∧ Fun K m qual st f fd ∧ Binds K fd ps []
structure DefI (K : PySem.W.Frag) (mg : Str → Option Value) (c qual : Str) (st : Stmt) (ps : List Str) : Prop where
  ex : ∃ C f fd, mg c = some (.ref C) ∧ Mk K C f ∧ Fun K "__init__" qual st f fd ∧ Binds K fd ps []
section
variable {P : Program} {w : World} {K : PySem.W.Frag} {mg : Str → Option Value} {base : Heap}
theorem DefM.zero {c m qual : Str} {st : Stmt} {ps : List Str} {bo : List Bool} {G : FnD} (D : DefM K mg c m qual st ps) (hG : ∀ ds, G ds = none) : MetA P w K mg base 0 c m bo G := by
  obtain ⟨C, f, fd, hm, hc, me, F, hb⟩ := D.ex
  exact ⟨C, f, fd, ps, [], [], hm, hc, me, hb, .nil, fun _ _ => RepL.nil, fn_zero hG⟩
theorem DefM.step {c m qual : Str} {st : Stmt} {N ps : List Str} {n : Nat} {bo : List Bool} {g : FS} (D : DefM K mg c m qual st ps) (S : FnScope N ps (defScope st)) (hb : bo.length = ps.length)
    (hbody : ∀ (f : Addr) (cdv : Value) (A : Around) (outer : List PySem.Env) (s : Shared) (H : Hp) (E : XK), Room n (A.deeper (envOfC qual (defScope st) s.heap.objs.size f cdv)) → PSs (bodyX P w K mg base N qual (defScope st) f cdv A outer s H E) (defBody st) (tS ⟨K, mg⟩ g)) :
    MetA P w K mg base (n + 1) c m bo (runG bo N.length g) := by
  obtain ⟨C, f, fd, hm, hc, me, F, hbi⟩ := D.ex
  exact ⟨C, f, fd, ps, [], [], hm, hc, me, hbi, .nil, fun _ _ => RepL.nil, fn_ok F S hb rfl fun cdv A outer s H E hr => hbody f cdv A outer s H E hr⟩
theorem DefI.zero {c qual : Str} {st : Stmt} {ps : List Str} {bo : List Bool} {G : FnD} (D : DefI K mg c qual st ps) (hG : ∀ ds, G ds = none) : MakA P w K mg base 0 c bo G := by
  obtain ⟨C, f, fd, hm, mk, F, hb⟩ := D.ex
  exact ⟨C, f, fd, ps, [], [], hm, mk, hb, .nil, fun _ _ => RepL.nil, fn_zero hG⟩
theorem DefI.step {c qual : Str} {st : Stmt} {N ps : List Str} {n : Nat} {bo : List Bool} {g : FS} (D : DefI K mg c qual st ps) (S : FnScope N ps (defScope st)) (hb : bo.length = ps.length)
    (hbody : ∀ (f : Addr) (cdv : Value) (A : Around) (outer : List PySem.Env) (s : Shared) (H : Hp) (E : XK), Room n (A.deeper (envOfC qual (defScope st) s.heap.objs.size f cdv)) → PSs (bodyX P w K mg base N qual (defScope st) f cdv A outer s H E) (defBody st) (tS ⟨K, mg⟩ g)) :
    MakA P w K mg base (n + 1) c bo (runG bo N.length g) := by
  obtain ⟨C, f, fd, hm, mk, F, hbi⟩ := D.ex
  exact ⟨C, f, fd, ps, [], [], hm, mk, hbi, .nil, fun _ _ => RepL.nil, fn_ok F S hb rfl fun cdv A outer s H E hr => hbody f cdv A outer s H E hr⟩
/-- what a text's class is -/
structure ClsK (K : PySem.W.Frag) (mg : Str → Option Value) (c : Str) (C : Addr) : Prop where
  at_ : mg c = some (.ref C)
  cls : Cls K C
theorem defM_mk {c m qual : Str} {st : Stmt} {ps : List Str} {C : Addr} (k0 : ClsK K mg c C) {f : Addr} {od an : Option Addr} {sl : Array (Option Value)} {oc kV dc pm cd ct : Value}
    (hb : ∀ (kV doc pm : Value) (an : Option Addr) (cdv ct : Value) (us : List Value), us.length = ps.length → bindArgs (PySem.W.fnOf m qual (defArgs st) (defBody st) (defScope st) .none kV doc pm an cdv ct) ⟨us, []⟩ = pure (ps.zip us))
    (a : PySem.W.findIn K (.ref C) m = some (some (.ref f))) (i : PySem.W.isFn K (.ref f) = true) (l : K.lookup f = some ⟨oc, od, .func (PySem.W.fnOf m qual (defArgs st) (defBody st) (defScope st) .none kV dc pm an cd ct), sl⟩) (cc : PySem.W.codeIn K cd qual = true) (k : PySem.W.keepIn K (.ref f) = true) : DefM K mg c m qual st ps :=
  ⟨C, f, _, k0.at_, k0.cls, ⟨a, i, k⟩, fun_mk l cc k, (fun_mk l cc k).binds hb⟩
theorem defI_mk {c qual : Str} {st : Stmt} {ps : List Str} {C : Addr} (k0 : ClsK K mg c C) {f : Addr} {od an : Option Addr} {sl : Array (Option Value)} {oc kV dc pm cd ct : Value}
    (hb : ∀ (kV doc pm : Value) (an : Option Addr) (cdv ct : Value) (us : List Value), us.length = ps.length → bindArgs (PySem.W.fnOf "__init__" qual (defArgs st) (defBody st) (defScope st) .none kV doc pm an cdv ct) ⟨us, []⟩ = pure (ps.zip us))
    (mk : PySem.W.makesIn K C = true) (kc : PySem.W.keepIn K (.ref C) = true)
    (a : PySem.W.findIn K (.ref C) "__init__" = some (some (.ref f))) (i : PySem.W.isFn K (.ref f) = true) (l : K.lookup f = some ⟨oc, od, .func (PySem.W.fnOf "__init__" qual (defArgs st) (defBody st) (defScope st) .none kV dc pm an cd ct), sl⟩) (cc : PySem.W.codeIn K cd qual = true) (k : PySem.W.keepIn K (.ref f) = true) : DefI K mg c qual st ps :=
  ⟨C, f, _, k0.at_, ⟨mk, a, i, kc⟩, fun_mk l cc k, (fun_mk l cc k).binds hb⟩
theorem clsK_mk {h : Heap} {c : Str} {C : Addr} (X : K.In h) (G : h.Ns mainGlobals mg) (a : PySem.W.nsIn K mainGlobals c = some (some (.ref C))) (pg : PySem.W.plainGet K C Str.empty = true) (hd : PySem.W.hasDictIn K C = true) (po : PySem.W.plainOver K C = true) (sa : PySem.W.findIn K (.ref C) "__setattr__" = some (some (.builtin "object.__setattr__"))) : ClsK K mg c C :=
  ⟨PySem.W.mg_of X G a, ⟨pg, hd, po, sa⟩⟩
theorem clsF_mk {c f : Str} {C : Addr} (k0 : ClsK K mg c C) (n : PySem.W.findIn K (.ref C) f = some none) : ClsF ⟨K, mg⟩ c f := ⟨C, k0.at_, k0.cls, n⟩
theorem MetA.to {X : Cx} {n : Nat} {c m : Str} {bo : List Bool} {G : FnD} {dd : List D} (h : MetA X.prog X.w X.K X.mg X.base n c m bo G dd) : MetA X.prog X.w X.K X.mg X.base n c m bo G dd := h
end
end DV

/-! DV22: new objects by the table; a pair that is taken apart again; same of two lent lists. -/
namespace DV
open L2 PySem PySem.Spec PyProof.Rows
def NewA (P : Program) (w : World) (K : PySem.W.Frag) (mg : Str → Option Value) (base : Heap) (n : Nat) (c : Str) (bo : List Bool) (G : FnD) : Prop := (∀ ds, G ds = none) ∨ ∃ k, k + 1 ≤ n ∧ MakA P w K mg base k c bo G
section
variable {X : Cx} {pos p : Pos}
theorem gMake_none {bo : List Bool} {G : FnD} {dd : List D} {c : Str} {g : FL} (h : ∀ ds, G ds = none) {ρ : Env} : gMake bo G dd c g ρ = none := by
  unfold gMake
  split
  · split
    · rw [h]
    · rfl
  · rfl
theorem cw_new {n : Nat} {c : Str} {bo : List Bool} {G : FnD} {e : Expr} {es : List Expr} {g : FL} (M : NewA X.prog X.w X.K X.mg X.base n c bo G) (hr : Room n X.A) (hg : Gl X c) (ha : PA X (e :: es) (tL (kc X) g)) (hdb : (c == ("__debug__" : Str)) = false := by decide)
    (he : starEach (e :: es) X.env = (false, eval e X.env) :: starEach es X.env := by rfl) (hpl : (backTo pos (starEach es X.env)).any (·.1) = false := by rfl) : PE X (.Call (.Name c p) (e :: es) [] pos) (tW (kc X) (gMake bo G [] c g)) := by
  rcases M with h | ⟨k, hk, M⟩
  · exact ⟨fun pins s σ H Q I ⟨F, B, as, ρ, d, w, ρ', S, e, k⟩ => by rw [gMake_none h] at e; cases e⟩
  · exact cw_make M (hr.mono hk) hg ha hdb he hpl
theorem cw_new0 {n : Nat} {c : Str} {bo : List Bool} {G : FnD} (M : NewA X.prog X.w X.K X.mg X.base n c bo G) (hr : Room n X.A) (hg : Gl X c) (hdb : (c == ("__debug__" : Str)) = false := by decide) : PE X (.Call (.Name c p) [] [] pos) (tW (kc X) (gMake bo G [] c fun ρ => some ([], ρ))) := by
  rcases M with h | ⟨k, hk, M⟩
  · exact ⟨fun pins s σ H Q I ⟨F, B, as, ρ, d, w, ρ', S, e, k⟩ => by rw [gMake_none h] at e; cases e⟩
  · exact cw_make0 M (hr.mono hk) hg hdb
/-- a, b = x, y where the pair is made -/
theorem cs_parT {i j : Nat} {x y : Str} {a b : Expr} {ga gb : FW} {px py pt : Pos} {kt k2 pt2} (hc : X.calm = true) (hN : X.N.Nodup) (hi : X.N[i]? = some x) (hj : X.N[j]? = some y) (hx : Loc X.env.scope x) (hy : Loc X.env.scope y) (ha : PE X a (tW (kc X) ga)) (hb : PE X b (tW (kc X) gb))
    (hw : swappedStores [.Tuple [.Name x px, .Name y py] kt pt] (.Tuple [a, b] k2 pt2) X.env = pure none)
    (hs : swapsWithSole [.Tuple [.Name x px, .Name y py] kt pt] (.Tuple [a, b] k2 pt2) pos.line X.env = pure false := by rfl)
    (h1 : starEach [a, b] X.env = (false, eval a X.env) :: starEach [b] X.env := by rfl) (h2 : starEach [b] X.env = (false, eval b X.env) :: starEach [] X.env := by rfl)
    (h3 : (assignEach [.Name x px, .Name y py] X.env).map (·.2) = assign (.Name x px) X.env :: (assignEach [.Name y py] X.env).map (·.2) := by rfl) (h4 : (assignEach [.Name y py] X.env).map (·.2) = assign (.Name y py) X.env :: (assignEach [] X.env).map (·.2) := by rfl)
    (h5 : (assignEach [.Name x px, .Name y py] X.env).length = 2 := by rfl) (h6 : (assignEach [.Name x px, .Name y py] X.env).findIdx? (·.1) = none := by rfl)
    (h7 : (assignEach [.Tuple [.Name x px, .Name y py] kt pt] X.env).map (·.2) = [assign (.Tuple [.Name x px, .Name y py] kt pt) X.env] := by rfl)
    (f1 : X.fn x = true ∨ X.env.scope.names.lookup x = some .local := by first | exact .inl rfl | exact .inr rfl) (f2 : X.fn y = true ∨ X.env.scope.names.lookup y = some .local := by first | exact .inl rfl | exact .inr rfl) :
    PS X (.Assign [.Tuple [.Name x px, .Name y py] kt pt] (.Tuple [a, b] k2 pt2) pos) (tS (kc X) (gPar i j ga gb)) :=
  PS.to (ps_asg (pe_tup (pa_cons ha (pa_cons hb pa_nil h2) h1)) (pg_tup hc (pgs_cons (pg_name hN hi hx f1) (pgs_cons (pg_name hN hj hy f2) pgs_nil h4) h3) h5 h6) hs hw h7) fun D σ H ⟨F, B, as, ρ, fl, ρ', S, e, k⟩ => by
    unfold gPar at e
    split at e
    · rename_i d w ρ1 q1
      split at e
      · rename_i d' w' ρ2 q2
        split at e
        · rename_i ρ3 q3
          split at e
          · rename_i ρ4 q4
            cases e
            refine ⟨F, B, as, ρ, d, w, ρ1, S, q1, fun v H1 F1 as1 bs E1 S1 => ?_⟩
            have nn := List.nodup_append.mp S1.nd
            refine ⟨F1, B, as1, ρ1, d', w', ρ2, S1.drop, q2, fun v' H2 F2 as2 bs2 E2 S2 => ⟨by show 2 ≤ sizeLine; rw [sizeLine_eq]; omega, fun t ht => ?_⟩⟩
            have kp : Kept bs H1 H2 := E2.kept fun b m z => nn.2.2 b m b z rfl
            have own := S1.own E2.stb kp
            have far : ∀ b, b ∈ bs → b ∉ bs2 ++ as2 := fun b m z => by
              rcases E2.anew b z with z | z
              · exact nn.2.2 b m b z rfl
              · obtain ⟨u, hu⟩ := S1.thereB b m
                rw [hu] at z; cases z
            have nfb : ∀ b, b ∈ bs → ¬ F2 b := fun b m f => by
              rcases E2.fnew b f with z | z | z
              · exact S1.nf b (List.mem_append_left _ m) z
              · exact nn.2.2 b m b z rfl
              · obtain ⟨u, hu⟩ := S1.thereB b m
                rw [hu] at z; cases z
            have n2 := List.nodup_append.mp S2.nd
            have T : Sit2 (kc X) F2 B H2 ρ2 σ as2 d w v bs := ⟨S2.env, List.nodup_append.mpr ⟨nn.1, n2.2.1, fun x hx y hy e => far x hx (e ▸ List.mem_append_right _ hy)⟩, fun b m => (List.mem_append.mp m).elim (nfb b) fun m => S2.nf b (List.mem_append_right _ m), S2.fk, own⟩
            -- the pair itself
            have Et : ∀ as, Ext F2 as H2 F2 as (upd H2 t (.tup [v, v'])) := fun as => (Ext.newO (as := as) ht).sub fun b m => List.mem_cons_of_mem _ m
            have keep : ∀ l, Kept l H2 (upd H2 t (.tup [v, v'])) := fun l b m u hu => by rw [upd_ne (ne_of_none hu ht)]; exact hu
            have T' : Sit2 (kc X) F2 B (upd H2 t (.tup [v, v'])) ρ2 σ as2 d w v bs := ⟨T.env.stb (Et []).stb.weak (keep _), T.nd, T.nf, (Et []).fk T.fk, T.own (Et []).stb (keep _)⟩
            obtain ⟨as3, S3, m3⟩ := T'.bind q3
            have T2 : Sit2 (kc X) F2 B (upd H2 t (.tup [v, v'])) ρ3 (σ.set i (some v)) as3 d' w' v' bs2 := by
              refine ⟨S3.env, List.nodup_append.mpr ⟨n2.1, S3.nd, fun x hx y hy e => ?_⟩, fun b m => (List.mem_append.mp m).elim (fun m => S2.nf b (List.mem_append_left _ m)) fun m => S3.nf b m, S3.fk, S2.own (Et []).stb (keep _)⟩
              subst e
              rcases List.mem_append.mp (m3 x hy) with z | z
              · exact far x z (List.mem_append_left _ hx)
              · exact n2.2.2 x hx x z rfl
            obtain ⟨as4, S4, m4⟩ := T2.bind q4
            refine ⟨t, [v, v'], rfl, SqT.of upd_same, rfl, v, [v'], rfl, v', [], rfl, rfl, ?_⟩
            have E2' : Ext F1 (bs ++ as1) H1 F2 (bs ++ (bs2 ++ as2)) H2 := E2.frameL
            refine k _ _ F2 as4 (((E1.trans E2').trans (Et _)).sub fun b m => ?_) S4
            rcases List.mem_append.mp (m4 b m) with z | z
            · simp [z]
            · rcases List.mem_append.mp (m3 b z) with z | z <;> simp [z]
          · cases e
        · cases e
      · cases e
    · cases e
end
end DV

/-! DV23: the rows by which a run with objects, dicts is computed. -/
namespace DV
open L2 PySem PySem.Spec PyProof.Rows
section
variable {ρ ρ1 : Env}
@[simp] theorem insOf_at {c ns os ds} : insOf c (.ins c ns os ds) = some (ns, os, ds) := by simp [insOf]
def kFl (f : Str) : List Str × List Bool × List D → Option (Bool × D) := fun p => fld p.1 p.2.1 p.2.2 f
@[simp] theorem kFl_at {f ns os ds} : kFl f (ns, os, ds) = fld ns os ds f := rfl
@[simp] theorem at_fldOf {i c f} : fldOf i c f ρ = ((look ρ i).bind (insOf c)).bind (kFl f) := rfl
@[simp] theorem fld_cons {n ns o os d ds f} : fld (n :: ns) (o :: os) (d :: ds) f = if n = f then some (o, d) else fld ns os ds f := rfl
@[simp] theorem fput_nil {f w e} : fput [] [] [] f w e = ([f], [w], [e]) := rfl
@[simp] theorem fput_cons {n ns o os d ds f w e} : fput (n :: ns) (o :: os) (d :: ds) f w e = if n = f then (n :: ns, w :: os, e :: ds) else (n :: (fput ns os ds f w e).1, o :: (fput ns os ds f w e).2.1, d :: (fput ns os ds f w e).2.2) := rfl
def kFd (ρ : Env) : Bool × D → Option (D × Env)
  | (false, d) => some (d, ρ)
  | (true, _) => none
@[simp] theorem kFd_at {d} : kFd ρ (false, d) = some (d, ρ) := rfl
@[simp] theorem at_gFld {i c f} : gFld i c f ρ = (fldOf i c f ρ).bind (kFd ρ) := by
  unfold gFld; rcases fldOf i c f ρ with _ | ⟨_ | _, _⟩ <;> rfl
def kFv (ρ : Env) : Bool × D → D × Env := fun p => (p.2, ρ)
@[simp] theorem kFv_at {w d} : kFv ρ (w, d) = (d, ρ) := rfl
@[simp] theorem at_gFlV {i c f} : gFlV i c f ρ = (fldOf i c f ρ).map (kFv ρ) := by
  unfold gFlV; rcases fldOf i c f ρ with _ | ⟨_, _⟩ <;> rfl
def kOV (f : D → Option D) : D × Env → Option (D × Env) := fun p => (f p.1).map (kWith p.2)
@[simp] theorem kOV_at {f : D → Option D} {d} : kOV f (d, ρ1) = (f d).map (kWith ρ1) := rfl
@[simp] theorem at_op1V {f : D → Option D} {g : FD} : gOp1V f g ρ = (g ρ).bind (kOV f) := by
  unfold gOp1V
  rcases g ρ with _ | ⟨x, ρ1⟩
  · rfl
  · simp only [Option.bind_some, kOV_at]
    rcases f x with _ | _ <;> rfl
/-- the name was put aside -/
def isNo : Option Sl → Bool
  | some .no => true
  | _ => false
@[simp] theorem isNo_no : isNo (some .no) = true := rfl
def kIF2 (i : Nat) (ρ : Env) (d : D) : D × Env → Option (D × Env) := fun p => if isNo p.2[i]? = true then (ixD d p.1).map (kWith (p.2.set i (ρ.getD i .no))) else none
@[simp] theorem kIF2_at {i d k} : kIF2 i ρ d (k, ρ1) = if isNo ρ1[i]? = true then (ixD d k).map (kWith (ρ1.set i (ρ.getD i .no))) else none := rfl
def kIF1 (i : Nat) (ρ : Env) (g : FD) : Bool × D → Option (D × Env) := fun p => (g (ρ.set i .no)).bind (kIF2 i ρ p.2)
@[simp] theorem kIF1_at {i} {g : FD} {w d} : kIF1 i ρ g (w, d) = (g (ρ.set i .no)).bind (kIF2 i ρ d) := rfl
@[simp] theorem at_gIxF {i c f} {g : FD} : gIxF i c f g ρ = (fldOf i c f ρ).bind (kIF1 i ρ g) := by
  unfold gIxF
  rcases fldOf i c f ρ with _ | ⟨w, d⟩
  · rfl
  · simp only [Option.bind_some, kIF1_at]
    rcases g (ρ.set i .no) with _ | ⟨k, ρ1⟩
    · rfl
    · simp only [Option.bind_some, kIF2_at]
      rcases ρ1[i]? with _ | _ | _ | _ | _
      · rfl
      · simp only [isNo_no, if_true]
        rcases ixD d k with _ | _ <;> rfl
      · rfl
      · rfl
      · rfl
def kAd (i : Nat) (x : Sl) : D × Env → Option (D × Env) := fun p => if isNo p.2[i]? = true then some (p.1, p.2.set i x) else none
@[simp] theorem kAd_at {i x d} : kAd i x (d, ρ1) = if isNo ρ1[i]? = true then some (d, ρ1.set i x) else none := rfl
def kAd0 (i : Nat) (ρ : Env) (g : FD) : Sl → Option (D × Env) := fun x => (g (ρ.set i .no)).bind (kAd i x)
@[simp] theorem kAd0_at {i} {g : FD} {x} : kAd0 i ρ g x = (g (ρ.set i .no)).bind (kAd i x) := rfl
@[simp] theorem at_gAside {i} {g : FD} : gAside i g ρ = ρ[i]?.bind (kAd0 i ρ g) := by
  unfold gAside
  rcases ρ[i]? with _ | x
  · rfl
  · simp only [Option.bind_some, kAd0_at]
    rcases g (ρ.set i .no) with _ | ⟨d, ρ1⟩
    · rfl
    · simp only [Option.bind_some, kAd_at]
      rcases ρ1[i]? with _ | _ | _ | _ | _ <;> rfl
@[simp] theorem unSh_ow {d} : unSh (.ow d) = true := rfl
@[simp] theorem unSh_bo {k d} : unSh (.bo k d) = true := rfl
def kBk (i : Nat) (c f : Str) (c' : D) (ρ : Env) : Sl → Option Env
  | .ow (.ins c0 ns os ds) => if c0 = c then some (ρ.set i (.ow (.ins c ns (fput ns os ds f true c').2.1 (fput ns os ds f true c').2.2))) else none
  | .bo k (.ins c0 ns os ds) => if c0 = c then some (ρ.set i (.bo k (.ins c ns (fput ns os ds f true c').2.1 (fput ns os ds f true c').2.2))) else none
  | _ => none
@[simp] theorem kBk_ow {i c f c' c0 ns os ds} : kBk i c f c' ρ (.ow (.ins c0 ns os ds)) = if c0 = c then some (ρ.set i (.ow (.ins c ns (fput ns os ds f true c').2.1 (fput ns os ds f true c').2.2))) else none := rfl
@[simp] theorem kBk_bo {i c f c' c0 ns os ds k} : kBk i c f c' ρ (.bo k (.ins c0 ns os ds)) = if c0 = c then some (ρ.set i (.bo k (.ins c ns (fput ns os ds f true c').2.1 (fput ns os ds f true c').2.2))) else none := rfl
@[simp] theorem at_backF {i c f c'} : backF i c f c' ρ = ρ[i]?.bind (kBk i c f c' ρ) := by
  unfold backF look
  rcases ρ[i]? with _ | x
  · rfl
  · cases x with
    | no => rfl
    | sh d =>
      simp only [Option.bind_some]
      cases d with
      | ins c0 ns os ds =>
        by_cases h : c0 = c
        · subst h; simp [unSh, kBk]
        · simp [insOf, h, kBk]
      | _ => rfl
    | ow d =>
      simp only [Option.bind_some]
      cases d with
      | ins c0 ns os ds =>
        by_cases h : c0 = c
        · subst h; simp
        · simp [insOf, h]
      | _ => rfl
    | bo k d =>
      simp only [Option.bind_some]
      cases d with
      | ins c0 ns os ds =>
        by_cases h : c0 = c
        · subst h; simp
        · simp [insOf, h]
      | _ => rfl
def kSF2 (i : Nat) (c f : Str) (d : D) (w : Bool) (ρ : Env) : Sl → Option (Fl × Env)
  | .ow (.ins c0 ns os ds) => if c0 = c ∧ (!w || isC d) = true ∧ ns.length < 1000 then some (.nx, ρ.set i (.ow (.ins c (fput ns os ds f w d).1 (fput ns os ds f w d).2.1 (fput ns os ds f w d).2.2))) else none
  | .bo k (.ins c0 ns os ds) => if c0 = c ∧ (!w || isC d) = true ∧ ns.length < 1000 then some (.nx, ρ.set i (.bo k (.ins c (fput ns os ds f w d).1 (fput ns os ds f w d).2.1 (fput ns os ds f w d).2.2))) else none
  | _ => none
@[simp] theorem kSF2_ow {i c f d w c0 ns os ds} : kSF2 i c f d w ρ (.ow (.ins c0 ns os ds)) = if c0 = c ∧ (!w || isC d) = true ∧ ns.length < 1000 then some (.nx, ρ.set i (.ow (.ins c (fput ns os ds f w d).1 (fput ns os ds f w d).2.1 (fput ns os ds f w d).2.2))) else none := rfl
@[simp] theorem kSF2_bo {i c f d w c0 ns os ds k} : kSF2 i c f d w ρ (.bo k (.ins c0 ns os ds)) = if c0 = c ∧ (!w || isC d) = true ∧ ns.length < 1000 then some (.nx, ρ.set i (.bo k (.ins c (fput ns os ds f w d).1 (fput ns os ds f w d).2.1 (fput ns os ds f w d).2.2))) else none := rfl
def kSF1 (i : Nat) (c f : Str) : D × Bool × Env → Option (Fl × Env) := fun p => p.2.2[i]?.bind (kSF2 i c f p.1 p.2.1 p.2.2)
@[simp] theorem kSF1_at {i c f d w} : kSF1 i c f (d, w, ρ1) = ρ1[i]?.bind (kSF2 i c f d w ρ1) := rfl
@[simp] theorem at_setF {i c f} {g : FW} : gSetF i c f g ρ = (g ρ).bind (kSF1 i c f) := by
  unfold gSetF look
  rcases g ρ with _ | ⟨d, w, ρ1⟩
  · rfl
  · simp only [Option.bind_some, kSF1_at]
    rcases ρ1[i]? with _ | x
    · rfl
    · cases x with
      | no => rfl
      | sh e =>
        simp only [Option.bind_some]
        cases e with
        | ins c0 ns os ds =>
          by_cases h : c0 = c
          · subst h; simp [unSh, kSF2]
          · simp [insOf, h, kSF2]
        | _ => rfl
      | ow e =>
        simp only [Option.bind_some]
        cases e with
        | ins c0 ns os ds =>
          by_cases h : c0 = c
          · subst h; simp
          · simp [insOf, h]
        | _ => rfl
      | bo k e =>
        simp only [Option.bind_some]
        cases e with
        | ins c0 ns os ds =>
          by_cases h : c0 = c
          · subst h; simp
          · simp [insOf, h]
        | _ => rfl
def kPF3 (i : Nat) (c f : Str) (cont d : D) : D × Env → Option (Fl × Env) := fun p => (putD cont p.1 d).bind fun c' => (backF i c f c' p.2).map kNx
@[simp] theorem kPF3_at {i c f cont d k} : kPF3 i c f cont d (k, ρ1) = (putD cont k d).bind fun c' => (backF i c f c' ρ1).map kNx := rfl
def kPF2 (i : Nat) (c f : Str) (gk : FD) (d : D) (ρ : Env) : Bool × D → Option (Fl × Env)
  | (true, cont) => (gAside i gk ρ).bind (kPF3 i c f cont d)
  | (false, _) => none
@[simp] theorem kPF2_at {i c f} {gk : FD} {d cont} : kPF2 i c f gk d ρ (true, cont) = (gAside i gk ρ).bind (kPF3 i c f cont d) := rfl
def kPF1 (i : Nat) (c f : Str) (gk : FD) : D × Env → Option (Fl × Env) := fun p => (fldOf i c f p.2).bind (kPF2 i c f gk p.1 p.2)
@[simp] theorem kPF1_at {i c f} {gk : FD} {d} : kPF1 i c f gk (d, ρ1) = (fldOf i c f ρ1).bind (kPF2 i c f gk d ρ1) := rfl
@[simp] theorem at_putF {i c f} {ge gk : FD} : gPutF i c f ge gk ρ = (ge ρ).bind (kPF1 i c f gk) := by
  unfold gPutF
  rcases ge ρ with _ | ⟨d, ρ1⟩
  · rfl
  · simp only [Option.bind_some, kPF1_at]
    rcases fldOf i c f ρ1 with _ | ⟨_ | _, cont⟩
    · rfl
    · rfl
    · simp only [Option.bind_some, kPF2_at]
      rcases gAside i gk ρ1 with _ | ⟨k, ρ2⟩
      · rfl
      · simp only [Option.bind_some, kPF3_at]
        rcases putD cont k d with _ | c'
        · rfl
        · simp only [Option.bind_some]
          rcases backF i c f c' ρ2 with _ | _ <;> rfl
def kAF2 (i : Nat) (c f : Str) (xs : List D) : D × Env → Option (Fl × Env) := fun p => if xs.length < SZ then (backF i c f (.lst (xs ++ [p.1])) p.2).map kNx else none
@[simp] theorem kAF2_at {i c f xs d} : kAF2 i c f xs (d, ρ1) = if xs.length < SZ then (backF i c f (.lst (xs ++ [d])) ρ1).map kNx else none := rfl
def kAF1 (i : Nat) (c f : Str) (g : FD) (ρ : Env) : Bool × D → Option (Fl × Env)
  | (true, .lst xs) => (gAside i g ρ).bind (kAF2 i c f xs)
  | _ => none
@[simp] theorem kAF1_at {i c f} {g : FD} {xs} : kAF1 i c f g ρ (true, .lst xs) = (gAside i g ρ).bind (kAF2 i c f xs) := rfl
@[simp] theorem at_appF {i c f} {g : FD} : gAppF i c f g ρ = (fldOf i c f ρ).bind (kAF1 i c f g ρ) := by
  unfold gAppF
  rcases fldOf i c f ρ with _ | ⟨_ | _, cont⟩
  · rfl
  · cases cont <;> rfl
  · cases cont with
    | lst xs =>
      simp only [Option.bind_some, kAF1_at]
      rcases gAside i g ρ with _ | ⟨d, ρ1⟩
      · rfl
      · simp only [Option.bind_some, kAF2_at]
        split
        · rcases backF i c f (.lst (xs ++ [d])) ρ1 with _ | _ <;> rfl
        · rfl
    | _ => rfl
def kSl (i : Nat) (m : Str) (ga : FAr) (ρ : Env) : List Str × List Bool × List D → Option (List Ar × Env) := fun p => if p.1.contains m = false then gBo i ga ρ else none
@[simp] theorem kSl_at {i m} {ga : FAr} {ns os ds} : kSl i m ga ρ (ns, os, ds) = if ns.contains m = false then gBo i ga ρ else none := rfl
@[simp] theorem at_self {i c m} {ga : FAr} : gSelf i c m ga ρ = ((look ρ i).bind (insOf c)).bind (kSl i m ga ρ) := by
  unfold gSelf
  rcases (look ρ i).bind (insOf c) with _ | ⟨_, _, _⟩ <;> rfl
def kMk2 (ρ : Env) : D × Bool × List D → Option (D × Bool × Env)
  | (.non, false, [d]) => some (d, true, ρ)
  | _ => none
@[simp] theorem kMk2_at {d} : kMk2 ρ (.non, false, [d]) = some (d, true, ρ) := rfl
def kMk1 (bo : List Bool) (G : FnD) (dd : List D) (c : Str) : List D × Env → Option (D × Bool × Env) := fun p => if bo = true :: (p.1 ++ dd).map (fun _ => false) then (G (.ins c [] [] [] :: (p.1 ++ dd))).bind (kMk2 p.2) else none
@[simp] theorem kMk1_at {bo} {G : FnD} {dd c ds} : kMk1 bo G dd c (ds, ρ1) = if bo = true :: (ds ++ dd).map (fun _ => false) then (G (.ins c [] [] [] :: (ds ++ dd))).bind (kMk2 ρ1) else none := rfl
@[simp] theorem at_make {bo} {G : FnD} {dd c} {g : FL} : gMake bo G dd c g ρ = (g ρ).bind (kMk1 bo G dd c) := by
  unfold gMake
  rcases g ρ with _ | ⟨ds, ρ1⟩
  · rfl
  · simp only [Option.bind_some, kMk1_at]
    split
    · generalize G (D.ins c [] [] [] :: (ds ++ dd)) = r
      unfold kMk2
      rcases r with _ | ⟨d, w, l⟩
      · rfl
      · simp only [Option.bind_some]
        cases d <;> cases w <;> rcases l with _ | ⟨x, _ | ⟨y, l⟩⟩ <;> rfl
    · rfl
def kTw2 (i : Nat) (c f : Str) (k : Nat) (ρ : Env) : D × Bool × List D → Option (D × Bool × Env)
  | (d, w, [d1, d2]) => if isC d1 = true then (backF i c f d1 (ρ.set k (.ow d2))).map (kCl4 d w) else none
  | _ => none
@[simp] theorem kTw2_at {i c f k d w d1 d2} : kTw2 i c f k ρ (d, w, [d1, d2]) = if isC d1 = true then (backF i c f d1 (ρ.set k (.ow d2))).map (kCl4 d w) else none := rfl
theorem at_two {G : FnD} {i k c f d1 d2 x} (hik : i ≠ k) (h1 : fldOf i c f ρ = some (true, d1)) (h2 : ρ[i]? = some x) (h3 : ρ[k]? = some (.ow d2)) (h4 : unSh x = true) : gTwo G i c f k ρ = (G [d1, d2]).bind (kTw2 i c f k ρ) := by
  unfold gTwo
  rw [if_neg hik, h1, h2, h3]
  simp only [h4, if_true]
  generalize G [d1, d2] = r
  rcases r with _ | ⟨d, w, _ | ⟨a, _ | ⟨b, _ | ⟨c, l⟩⟩⟩⟩
  · rfl
  · rfl
  · rfl
  · simp only [Option.bind_some, kTw2_at]
    split
    · rcases backF i c f a (ρ.set k (.ow b)) with _ | _ <;> rfl
    · rfl
  · rfl
def kSqA : D × Env → Option (List D × Env)
  | (.lst xs, ρ1) => some (xs, ρ1)
  | (.tup xs, ρ1) => some (xs, ρ1)
  | (.str x, ρ1) => some (x.cps.toList.map fun c => .str ⟨#[c]⟩, ρ1)
  | _ => none
@[simp] theorem kSqA_lst {xs} : kSqA (.lst xs, ρ1) = some (xs, ρ1) := rfl
@[simp] theorem kSqA_tup {xs} : kSqA (.tup xs, ρ1) = some (xs, ρ1) := rfl
@[simp] theorem at_sqA {g : FD} : gSqA g ρ = (g ρ).bind kSqA := by
  unfold gSqA
  rcases g ρ with _ | ⟨d, _⟩
  · rfl
  · cases d <;> rfl
end
@[simp] theorem mul0 {x : D} {xs : List D} : mulD (.tup (x :: xs)) (.int 0) = some (.tup []) := rfl
@[simp] theorem mul1 {x : D} {xs : List D} : mulD (.tup (x :: xs)) (.int 1) = some (.tup (x :: xs)) := rfl
@[simp] theorem mul2 {x : D} : mulD (.tup [x]) (.int 2) = some (.tup [x, x]) := rfl
/-- same, both lent -/
theorem same_two {S : Nat → FnD} (hS : ∀ n ds, S (n + 1) ds = runG [false, false] 3 (sameB (S n)) ds) {n : Nat} {xs : List D} (h1 : xs.length ≤ 1000) (h : plnL xs n) : runG [true, true] 3 (sameB (S (n + 1))) [.lst xs, .lst xs] = some (.bl true, false, [.lst xs, .lst xs]) := by
  have ih : ∀ (i : Nat) (x : D), xs[i]? = some x → S (n + 1) [x, x] = some (.bl true, false, []) := fun i x e => same_ok hS n x (h.get e)
  have lp : ∀ l : List Nat, (∀ i ∈ l, i < xs.length) → compD [2] (hNm 2) (gNot (gT (shW (gCallD [false, false] (S (n + 1)) [] (gVa (gOp2 ixD (oNm 0) (oNm 2)) (gVa (gOp2 ixD (oNm 1) (oNm 2)) (fun ρ => some ([], ρ)))))))) (gNm 2) (l.map fun i => .int (0 + (i : Nat))) [.bo 0 (.lst xs), .bo 1 (.lst xs), .no] = some ([], [.bo 0 (.lst xs), .bo 1 (.lst xs), .no]) := by
    intro l
    induction l with
    | nil => intro _; rfl
    | cons i l ihl =>
      intro hl
      have hi := hl i List.mem_cons_self
      have e := ih i _ (List.getElem?_eq_getElem hi)
      have ex : xs[i]? = some xs[i] := List.getElem?_eq_getElem hi
      have ih2 := ihl fun j m => hl j (List.mem_cons_of_mem _ m)
      simp only [List.map_cons, compD_cons]
      simp [ex, e]
      simpa using ih2
  have lp2 := lp (List.range xs.length) fun i m => List.mem_range.mp m
  have hl : (xs.length : Int) ≤ 100000 := by omega
  have hl2 : (-100000 : Int) ≤ xs.length := by omega
  simp [at_run, sameB, isTg_eq, isNon, rngD, hl, hl2]
  simp at lp2
  simp [lp2]
end DV

/-! DV24: defs that are handed in; a class's def called by the class; d.get of a written dict; a list turned round. -/
namespace DV
open L2 PySem PySem.Spec PyProof.Rows
section
variable {X : Cx} {pos p apos : Pos}
/-- a def as a value -/
theorem cd_fn {n : Nat} {x : Str} {bo : List Bool} {G : FnD} {dd : List D} (Fn : FnAt X n x bo G dd) (hg : Gl X x) (hd : (x == ("__debug__" : Str)) = false := by decide) : PE X (.Name x pos) (tD (kc X) fun ρ => some (.fn x, ρ)) := by
  obtain ⟨f, fd, ps, ds, dvs, hm, hk, hb, hv, hdd, ok⟩ := Fn.at_
  exact PE.to (pe_glob (v := .ref f) hg hm rfl hd) fun σ H Q ⟨F, B, as, ρ, d, ρ', S, e, h⟩ => by cases e; exact h _ H F as .refl S (by unfold Rep; exact ⟨f, rfl, hm⟩)
/-- f(..), f a name that holds the def x -/
def gCallL (i : Nat) (x : Str) (bo : List Bool) (G : FnD) (dd : List D) (ga : FAr) : FW := fun ρ => match ρ[i]? with
  | some (.sh (.fn y)) => if y = x then gCallD bo G dd ga ρ else none
  | _ => none
theorem cw_callL {n i : Nat} {x y : Str} {bo : List Bool} {G : FnD} {dd : List D} {e : Expr} {es : List Expr} {ga : FAr} (Fn : FnAt X n x bo G dd) (hr : Room n X.A) (ha : PA X (e :: es) (tAr (kc X) ga)) (hN : X.N[i]? = some y := by rfl) (hv : Vis X.env.scope y := by first | exact Or.inl rfl | exact Or.inr (Or.inl rfl) | exact Or.inr (Or.inr rfl))
    (hdb : (y == ("__debug__" : Str)) = false := by decide) (hcd : (y == ("__classdict__" : Str)) = false := by decide) (he : starEach (e :: es) X.env = (false, eval e X.env) :: starEach es X.env := by rfl) (hpl : (backTo pos (starEach es X.env)).any (·.1) = false := by rfl) :
    PE X (.Call (.Name y p) (e :: es) [] pos) (tW (kc X) (gCallL i x bo G dd ga)) := by
  obtain ⟨f, fd, ps, ds, dvs, hm, hk, hb, hvv, hdd, ok⟩ := Fn.at_
  refine PE.to (pe_callL (i := i) ok hr hN hv hk hb hvv pass0 ha hdb hcd he hpl) fun σ H Q h => ?_
  obtain ⟨F, B, as, ρ, d, w, ρ', S, e, k⟩ := h
  unfold gCallL at e
  split at e
  · rename_i y q
    split at e
    · rename_i hy
      subst hy
      obtain ⟨o, p, a, qq, _, eo, hs, _⟩ := S.env.split q
      unfold SlR at hs
      obtain ⟨_, v, e1, r⟩ := hs
      unfold Rep at r
      obtain ⟨f', rfl, hm'⟩ := r
      have hm2 : X.mg y = some (.ref f') := hm'
      rw [hm] at hm2
      cases hm2
      subst e1
      exact ⟨eo, callD_fit (E := E0) hdd ⟨F, B, as, ρ, d, w, ρ', S, e, k⟩⟩
    · cases e
  · cases e
/-- C.m(..), C a class of the text, m a def that it has -/
def tUCall (C : Addr) (sp : Sp) (dvs : List V) (E : XK) (ta : TE) (t : TA) : TE := fun σ H Q => ta σ H fun x H1 => x = .ref C ∧ t σ H1 fun vs H2 => sp (vs ++ dvs) H2 Q E
theorem pe_ucall {CX : CXT} {k : Nat} {C f : Addr} {mc : Value} {fd : FuncData} {ps : List Str} {ds : List Value} {dvs : List V} {sp : Sp} {E : XK} {o e : Expr} {es : List Expr} {m : Str} {ta : TE} {t : TA} {pl : Sem Bool} (he : PE X o ta) (r : ClX.CRead X.K C mc) (c : ClX.CVal X.K C mc m (.ref f) (.ref f))
    (F : FnOk X.prog X.w X.K X.mg X.base CX k f fd ps sp) (hr : Room k X.A) (hk : PySem.W.keepIn X.K (.ref f) = true) (hb : Binds X.K fd ps ds) (hd : Vals dvs ds) (hx : Passes CX X E) (ha : PA X (e :: es) t)
    (hst : starEach (e :: es) X.env = (false, eval e X.env) :: starEach es X.env := by rfl) (hpl : (backTo pos (starEach es X.env)).any (·.1) = false := by rfl)
    (ht : eval (.Call (.Attribute o m apos) (e :: es) [] pos) X.env = (do
      let ov ← eval o X.env
      standAt apos.atName
      let (f, first) ← holding [ov] (getMethod ov m pl)
      callWith pos f first (backTo pos (starEach (e :: es) X.env)) (backToKw pos (keywordEach [] X.env))) := by rfl) :
    PE X (.Call (.Attribute o m apos) (e :: es) [] pos) (tUCall C sp dvs E ta t) := by
  refine ⟨fun pins s σ H Q I h => ?_⟩
  refine PySem.W.methodCall_KW (pl := pl) (thn (he.run pins s σ H _ I h) fun u s1 ⟨x, H1, I1, rx, ex, q⟩ => ?_) ht
  subst ex
  obtain rfl : u = Value.ref C := rx
  refine PySem.W.method_cls I1.kIn r.ga (ClX.getcval_ok I1 r c fun s2 I2 => ?_)
  refine PySem.W.callWith_K (h₀ := X.base) I2.ok.mod.kin hk (thn (ha.run pos pins s2 σ _ _ I2 q) fun us s3 ⟨vs, H2, I3, rr, q3⟩ => ⟨I3.kIn, ?_⟩) hst hpl
  exact run_fn F hr hb hd hx I3 rr q3
end
structure UnbA (P : Program) (w : World) (K : PySem.W.Frag) (mg : Str → Option Value) (base : Heap) (n : Nat) (c m : Str) (bo : List Bool) (G : FnD) : Prop where
  at_ : ∃ C mc f fd ps ds dvs, mg c = some (.ref C) ∧ ClX.CRead K C mc ∧ ClX.CVal K C mc m (.ref f) (.ref f) ∧ PySem.W.keepIn K (.ref f) = true ∧ Binds K fd ps ds ∧ Vals dvs ds ∧ (∀ F H, RepL ⟨K, mg⟩ F H [] dvs) ∧ FnOk P w K mg base CX0 n f fd ps (spD ⟨K, mg⟩ bo G)
section
variable {X : Cx} {pos p apos : Pos}
theorem cw_unb {n : Nat} {c m : Str} {bo : List Bool} {G : FnD} {e : Expr} {es : List Expr} {ga : FAr} (M : UnbA X.prog X.w X.K X.mg X.base n c m bo G) (hr : Room n X.A) (hg : Gl X c) (ha : PA X (e :: es) (tAr (kc X) ga)) (hd : (c == ("__debug__" : Str)) = false := by decide)
    (hst : starEach (e :: es) X.env = (false, eval e X.env) :: starEach es X.env := by rfl) (hpl : (backTo pos (starEach es X.env)).any (·.1) = false := by rfl) {pl : Sem Bool}
    (ht : eval (.Call (.Attribute (.Name c p) m apos) (e :: es) [] pos) X.env = (do
      let ov ← eval (.Name c p) X.env
      standAt apos.atName
      let (f, first) ← holding [ov] (getMethod ov m pl)
      callWith pos f first (backTo pos (starEach (e :: es) X.env)) (backToKw pos (keywordEach [] X.env))) := by rfl) :
    PE X (.Call (.Attribute (.Name c p) m apos) (e :: es) [] pos) (tW (kc X) (gCallD bo G [] ga)) := by
  obtain ⟨C, mc, f, fd, ps, ds, dvs, hm, hc, hv, hk, hb, hvv, hdd, ok⟩ := M.at_
  refine PE.to (pe_ucall (pl := pl) (pe_glob (v := .ref C) hg hm rfl hd) hc hv ok hr hk hb hvv pass0 ha hst hpl ht) fun σ H Q h => ?_
  exact ⟨rfl, callD_fit (E := E0) hdd h⟩
end
structure DefU (K : PySem.W.Frag) (mg : Str → Option Value) (c m n qual : Str) (st : Stmt) (ps : List Str) : Prop where
  ex : ∃ C mc f fd, mg c = some (.ref C) ∧ ClX.CRead K C mc ∧ ClX.CVal K C mc m (.ref f) (.ref f) ∧ PySem.W.keepIn K (.ref f) = true ∧ Fun K n qual st f fd ∧ Binds K fd ps []
section
variable {P : Program} {w : World} {K : PySem.W.Frag} {mg : Str → Option Value} {base : Heap}
theorem DefU.zero {c m nm qual : Str} {st : Stmt} {ps : List Str} {bo : List Bool} {G : FnD} (D : DefU K mg c m nm qual st ps) (hG : ∀ ds, G ds = none) : UnbA P w K mg base 0 c m bo G := by
  obtain ⟨C, mc, f, fd, hm, hc, hv, hk, F, hb⟩ := D.ex
  exact ⟨C, mc, f, fd, ps, [], [], hm, hc, hv, hk, hb, .nil, fun _ _ => RepL.nil, fn_zero hG⟩
theorem DefU.step {c m nm qual : Str} {st : Stmt} {N ps : List Str} {n : Nat} {bo : List Bool} {g : FS} (D : DefU K mg c m nm qual st ps) (S : FnScope N ps (defScope st)) (hb : bo.length = ps.length)
    (hbody : ∀ (f : Addr) (cdv : Value) (A : Around) (outer : List PySem.Env) (s : Shared) (H : Hp) (E : XK), Room n (A.deeper (envOfC qual (defScope st) s.heap.objs.size f cdv)) → PSs (bodyX P w K mg base N qual (defScope st) f cdv A outer s H E) (defBody st) (tS ⟨K, mg⟩ g)) :
    UnbA P w K mg base (n + 1) c m bo (runG bo N.length g) := by
  obtain ⟨C, mc, f, fd, hm, hc, hv, hk, F, hbi⟩ := D.ex
  exact ⟨C, mc, f, fd, ps, [], [], hm, hc, hv, hk, hbi, .nil, fun _ _ => RepL.nil, fn_ok F S hb rfl fun cdv A outer s H E hr => hbody f cdv A outer s H E hr⟩
theorem defU_mk {c m nm qual : Str} {st : Stmt} {ps : List Str} {C : Addr} {mc : Value} (k0 : ClsK K mg c C) {f : Addr} {od an : Option Addr} {sl : Array (Option Value)} {oc kV dc pm cd ct : Value}
    (hb : ∀ (kV doc pm : Value) (an : Option Addr) (cdv ct : Value) (us : List Value), us.length = ps.length → bindArgs (PySem.W.fnOf nm qual (defArgs st) (defBody st) (defScope st) .none kV doc pm an cdv ct) ⟨us, []⟩ = pure (ps.zip us))
    (rd : PySem.W.readsIn K C mc = true) (ga : PySem.W.specialIn K (.ref C) "__getattribute__" = some (some (.builtin "type.__getattribute__"))) (a : PySem.W.findCls K (.ref C) mc m = some (.val (.ref f)))
    (l : K.lookup f = some ⟨oc, od, .func (PySem.W.fnOf nm qual (defArgs st) (defBody st) (defScope st) .none kV dc pm an cd ct), sl⟩) (cc : PySem.W.codeIn K cd qual = true) (k : PySem.W.keepIn K (.ref f) = true) : DefU K mg c m nm qual st ps :=
  ⟨C, mc, f, _, k0.at_, ⟨rd, ga⟩, ⟨a, rfl⟩, k, fun_mk l cc k, (fun_mk l cc k).binds hb⟩
end
/-! ### {a: b}.get(e, f) -/
def gPick (a b : Str) (ge gf : FD) : FD := fun ρ => match ge ρ with
  | some (.str z, ρ1) => match gf ρ1 with
    | some (d, ρ2) => some (if z = a then .str b else d, ρ2)
    | none => none
  | _ => none
section
variable {X : Cx} {pos p apos : Pos}
theorem cd_pick {k : Nat} {a b : Str} {e f : Expr} {ge gf : FD} {j1 j2 p1 p2 pd} (hr : Room k X.A) (he : PE X e (tD (kc X) ge)) (hf : PE X f (tD (kc X) gf)) (m : M2 X (.Dict [some (.Constant (.str a) j1 p1)] [.Constant (.str b) j2 p2] pd) "get" apos e f pos := by exact ⟨rfl, rfl, rfl, rfl⟩) :
    PE X (.Call (.Attribute (.Dict [some (.Constant (.str a) j1 p1)] [.Constant (.str b) j2 p2] pd) "get" apos) [e, f] [] pos) (tD (kc X) (gPick a b ge gf)) := by
  refine PE.to (pe_dget2 (ru1 hr) (pe_disp (pps_cons pe_str pe_str pps_nil) rfl rfl (by simp) (by simp)) he hf m) fun σ H Q ⟨F, B, as, ρ, d, ρ', S, e, k⟩ => ?_
  unfold gPick at e
  split at e
  · rename_i z ρ1 q1
    split at e
    · rename_i d2 ρ2 q2
      cases e
      intro q hq
      refine ⟨upd_same, [(.inr a, .str b)], rfl, by simp, ?_⟩
      have eu : upd (upd H q (.dK [])) q (.dK (mergeK [] [((.inr a : Key), V.str b)])) = upd H q (.dK [((.inr a : Key), V.str b)]) := by
        funext x
        by_cases h : x = q
        · subst h; rw [upd_same, upd_same]; rfl
        · rw [upd_ne h, upd_ne h, upd_ne h]
      rw [eu]
      have En : Ext F [] H F [] (upd H q (.dK [((.inr a : Key), V.str b)])) := (Ext.newO (as := []) hq).sub fun b m => by cases m
      have nq : q ∉ as := fun m => by obtain ⟨u, hu⟩ := S.env.there q m; rw [hq] at hu; cases hu
      refine ⟨q, rfl, .inl ⟨_, .inl upd_same⟩, F, B, as, ρ, _, _, S.step En, q1, fun v1 H1 F1 as1 E1 S1 r1 => ?_⟩
      have k1 : H1 q = some (.dK [((.inr a : Key), V.str b)]) := E1.keep q _ upd_same nq
      have nq1 : q ∉ as1 := fun m => (E1.anew q m).elim nq fun z => by rw [upd_same] at z; cases z
      unfold Rep at r1
      subst r1
      refine ⟨F1, B, as1, ρ1, _, _, S1, q2, fun v2 H2 F2 as2 E2 S2 r2 => ?_⟩
      have k2 : H2 q = some (.dK [((.inr a : Key), V.str b)]) := E2.keep q _ k1 nq1
      refine ⟨_, DGet.k (k := .inr z) k2, ?_⟩
      have fin := fun d r => k d H2 F2 as2 ((En.pure.trans E1).trans E2) S2 r
      by_cases hz : z = a
      · subst hz
        have : (valV [((.inr z : Key), V.str b)] (.inr z)).getD v2 = .str b := by simp [valV]
        rw [this]
        rw [if_pos rfl] at fin
        exact fin _ (by unfold Rep; rfl)
      · have hne : ((.inr a : Key) = .inr z) = False := by simp; exact fun h => hz h.symm
        have : (valV [((.inr a : Key), V.str b)] (.inr z)).getD v2 = v2 := by simp [valV, hne]
        rw [this]
        rw [if_neg hz] at fin
        exact fin _ r2
    · cases e
  · cases e
end
/-! ### xs[::-1] -/
theorem RepL.rev {K : Kc} {F : Addr → Prop} {H : Hp} : ∀ {ds : List D} {vs : List V}, RepL K F H ds vs → RepL K F H ds.reverse vs.reverse
  | [], vs, h => by unfold RepL at h; subst h; exact RepL.nil
  | d :: ds, vs, h => by
    unfold RepL at h
    obtain ⟨v, r, rfl, h1, h2⟩ := h
    rw [List.reverse_cons, List.reverse_cons]
    exact RepL.append (RepL.rev h2) (RepL.cons h1 RepL.nil)
def revD : D → Option D
  | .lst ds => some (.lst ds.reverse)
  | _ => none
theorem cw_rev {X : Cx} {e : Expr} {oa : FO} {k : Nat} {p1 p2 p3 pos : Pos} (ha : PE X e (tO (kc X) oa)) : PE X (.Subscript e (.Slice none none (some (.UnaryOp .USub (.Constant (.int 1) k p1) p2)) p3) pos) (tW (kc X) (gOp1W revD oa)) :=
  PE.to (pe_revL ha) fun σ H Q ⟨F, B, as, ρ, d, w, ρ', S, e, kk⟩ => by
    obtain ⟨⟨pd, pρ⟩, e9, e2⟩ := Option.map_eq_some_iff.mp e
    cases e2
    obtain ⟨x, dx, e1, e3, e5⟩ := gOp1_some e9
    unfold revD at e5
    split at e5
    · cases e5
      refine ⟨F, B, as, ρ, x, pρ, S, e1, fun vx H2 F2 as2 E S2 rx => ?_⟩
      obtain ⟨a, vs, rfl, h1, r1⟩ := (S2.res e3 rx).lst
      refine ⟨a, vs, rfl, SqL.of h1, fun q hq => ?_⟩
      obtain ⟨E3, S3⟩ := new_own hq S2 (own_lst hq r1.rev)
      exact kk _ _ F2 as2 [q] (E.trans E3) S3
    · cases e5
end DV

/-! DV25: o.f against a value that is computed with o put aside; f(o.x, e): the field is lent. -/
namespace DV
open L2 PySem PySem.Spec PyProof.Rows
/-- op (o.f) e: e is computed with o put aside -/
def gOpF (op : D → D → Option D) (i : Nat) (c f : Str) (g : FD) : FD := fun ρ => match fldOf i c f ρ with
  | some (_, d) => match g (ρ.set i .no) with
    | some (k, ρ1) => match ρ1[i]? with
      | some .no => match op d k with
        | some r => some (r, ρ1.set i (ρ.getD i .no))
        | none => none
      | _ => none
    | none => none
  | none => none
theorem gOpF_some {op : D → D → Option D} {i : Nat} {c f : Str} {g : FD} {ρ ρ' : Env} {r : D} (h : gOpF op i c f g ρ = some (r, ρ')) : ∃ w d k ρ1, fldOf i c f ρ = some (w, d) ∧ g (ρ.set i .no) = some (k, ρ1) ∧ ρ1[i]? = some .no ∧ op d k = some r ∧ ρ' = ρ1.set i (ρ.getD i .no) := by
  unfold gOpF at h
  split at h
  · rename_i w d q1
    split at h
    · rename_i k ρ1 q2
      split at h
      · rename_i q3
        split at h
        · rename_i r' q4
          cases h
          exact ⟨w, d, k, ρ1, q1, q2, q3, q4, rfl⟩
        · cases h
      · cases h
    · cases h
  · cases h
/-- what is known when e has been computed with o put aside -/
theorem aside_again {K : Kc} {F : Addr → Prop} {B : List Addr} {H : Hp} {ρ ρ1 : Env} {σ : L2.St} {as : List Addr} {i : Nat} {c f : Str} {g : FD} {ns : List Str} {os : List Bool} {ds : List D} {w : Bool} {dc dk : D} (S : Sit K F B H ρ σ as) (h1 : DV.look ρ i = some (.ins c ns os ds)) (h2 : fld ns os ds f = some (w, dc))
    (e2 : g (ρ.set i .no) = some (dk, ρ1)) (e3 : ρ1[i]? = some .no) :
    ∃ (xx : Sl) (a C0 dx : Addr) (fs : List (Str × V)) (v : V), ρ[i]? = some xx ∧ isIns xx (.ins c ns os ds) ∧ σ[i]? = some (some (.ref a)) ∧ K.mg c = some (.ref C0) ∧ H a = some (.ins C0 dx fs) ∧ fs.lookup f = some v ∧
      ∀ T : VK, (∀ (vk : V) (H1 : Hp) (F1 : Addr → Prop) (as1 : List Addr), H1 a = some (.ins C0 dx fs) → Vw K F1 H1 dc v → Rep K F1 H1 dk vk → Ext F as H F1 as1 H1 → Sit K F1 B H1 (ρ1.set i xx) σ as1 → T vk H1) → tD K g σ H T := by
  obtain ⟨xx, a, C0, dx, fs, ia, hx, hk, ev, hm, ha, hdx, hns, ow⟩ := S.ins h1
  obtain ⟨v, p1, bb, q1, l1, _, l3, _⟩ := OwnFs.at_ hns ow h2
  refine ⟨xx, a, C0, dx, fs, v, hx, hk, ev, hm, ha, l1, fun T kk => ?_⟩
  obtain ⟨o, ins, rest, eo, hs, Sh, hn1, hd1, mem⟩ := S.hide hx
  rw [ev] at eo; cases eo
  refine ⟨F, B, rest, ρ.set i .no, dk, ρ1, Sh, e2, fun vk H1 F1 rest1 E1 S1 r1 => ?_⟩
  obtain ⟨as1, S2, E2, sl, kp, _⟩ := S1.unhide E1 e3 ev hs hn1 hd1 mem
  have mem2 : ∀ y : Addr, y = a ∨ y = dx → y ∈ ins := by
    intro y hy
    have key : ∀ v0, Own K F H (.ins c ns os ds) v0 ins → v0 = .ref a → y ∈ ins := fun v0 r e0 => by
      unfold Own OwnI at r
      obtain ⟨a', C', dx', fs', ia', e5, _, h6, h7, _, _, h8⟩ := r
      rw [e0] at e5; cases e5
      rw [ha] at h6; cases h6
      rw [h8]
      rcases hy with rfl | rfl <;> simp
    rcases hk with rfl | ⟨n, rfl⟩
    · unfold SlR at hs
      obtain ⟨v0, e0, r⟩ := hs
      exact key v0 r (by cases e0; rfl)
    · unfold SlR at hs
      obtain ⟨v0, e0, _, r⟩ := hs
      exact key _ r (by cases e0; rfl)
  have ha1 : H1 a = some (.ins C0 dx fs) := kp a (mem2 a (.inl rfl)) _ ha
  have look2 : DV.look (ρ1.set i xx) i = some (.ins c ns os ds) := by
    have hi : i < ρ1.length := (List.getElem?_eq_some_iff.mp e3).1
    unfold DV.look
    rw [List.getElem?_set_self hi]
    rcases hk with rfl | ⟨n, rfl⟩ <;> rfl
  obtain ⟨xx', a', C', dx', fs', ia', _, _, ev', hm', ha', hdx', hns', ow'⟩ := S2.ins look2
  rw [ev] at ev'; cases ev'
  rw [ha1] at ha'; cases ha'
  obtain ⟨v', p1', bb', q1', l1', _, l3', _⟩ := OwnFs.at_ hns' ow' h2
  rw [l1] at l1'; cases l1'
  exact kk vk H1 F1 as1 ha1 l3'.vw r1 E2 S2
section
variable {X : Cx} {pos p : Pos}
theorem cmpF_fit {i : Nat} {x c f : Str} {r : R2} {fo : D → D → Option D} {g : FD} (C : ClsF (kc X) c f) (o2 : PureR (kc X) r fo) {σ : L2.St} {H : Hp} {Q : VK} (h : tD (kc X) (gOpF fo i c f g) σ H Q) : tOp r (tFld X.K (tVar i) f) (tD (kc X) g) σ H Q := by
  obtain ⟨F, B, as, ρ, d, ρ', S, e, k⟩ := h
  obtain ⟨w, dc, dk, ρ1, e1, e2, e3, e4, rfl⟩ := gOpF_some e
  obtain ⟨ns, os, ds, h1, h2⟩ := fldOf_some e1
  obtain ⟨C1, hm1, hc, hn⟩ := C.ex
  obtain ⟨xx, a, C0, dx, fs, v, hx, hk, ev, hmc, ha, l1, t⟩ := aside_again S h1 h2 e2 e3
  rw [hmc] at hm1; cases hm1
  refine ⟨.ref a, ev, a, _, dx, fs, v, rfl, ha, hc, hn, l1, ?_⟩
  refine t _ fun vk H1 F1 as1 ha1 lv rk E S2 => ?_
  rw [getD_of hx] at k
  exact o2 F1 H1 dc dk _ v vk Q S2.fk e4 lv rk.vw fun v2 F3 H3 E3 r3 => k v2 H3 F3 as1 (E.trans E3.pure) (S2.step E3) r3
theorem w_cmpF {i : Nat} {x c f : Str} {b : Expr} {op : CmpOp} {fo : D → D → Option D} {g : FD} (cp : Cp X op fo) (C : ClsF (kc X) c f) (hgb : PE X b (tD (kc X) g)) (hN : X.N[i]? = some x := by rfl) (hv : Vis X.env.scope x := by first | exact Or.inl rfl | exact Or.inr (Or.inl rfl) | exact Or.inr (Or.inr rfl)) (hd : (x == ("__debug__" : Str)) = false := by decide)
    (hcd : (x == ("__classdict__" : Str)) = false := by decide) (hb : attributeBase (.Name x p) f X.env (eval (.Name x p) X.env) = eval (.Name x p) X.env := by rfl) (hm : behindInMarks op b = false := by first | exact nomark _ | rfl) {ap : Pos} : PE X (.Compare (.Attribute (.Name x p) f ap) [op] [b] pos) (tD (kc X) (gOpF fo i c f g)) := by
  obtain ⟨r, o1, o2⟩ := cp.ex
  exact PE.to (pe_cmpR o1 (pe_fld (pe_var hN hv hd hcd) hb) hgb hm) fun σ H Q h => cmpF_fit (x := x) C o2 h
theorem t_cmpF {i : Nat} {x c f : Str} {b : Expr} {op : CmpOp} {fo : D → D → Option D} {g : FD} (cp : Cp X op fo) (C : ClsF (kc X) c f) (hgb : PE X b (tD (kc X) g)) (hN : X.N[i]? = some x := by rfl) (hv : Vis X.env.scope x := by first | exact Or.inl rfl | exact Or.inr (Or.inl rfl) | exact Or.inr (Or.inr rfl)) (hd : (x == ("__debug__" : Str)) = false := by decide)
    (hcd : (x == ("__classdict__" : Str)) = false := by decide) (hb : attributeBase (.Name x p) f X.env (eval (.Name x p) X.env) = eval (.Name x p) X.env := by rfl) (hm : behindInMarks op b = false := by first | exact nomark _ | rfl) {ap : Pos} : PT X (.Compare (.Attribute (.Name x p) f ap) [op] [b] pos) (tB (kc X) (gT (gOpF fo i c f g))) := by
  obtain ⟨r, o1, o2⟩ := cp.ex
  exact PT.to (pt_cmpR o1 (pe_fld (pe_var hN hv hd hcd) hb) hgb hm) fun σ H Q h => cmpF_fit (x := x) C o2 (tB_fit h)
end
/-! ### f(o.x, e): the field is lent -/
theorem oneF_fit {K : Kc} {F : Addr → Prop} {B : List Addr} {H : Hp} {ρ : Env} {σ : L2.St} {as : List Addr} {i : Nat} {c f : Str} {ns : List Str} {os : List Bool} {ds : List D} {d1 d1' d2 d : D} {w : Bool} {xx : Sl} {G : FnD} {v vk : V} {a C0 dx : Addr} {fs : List (Str × V)} {Q : VK}
    (S : Sit K F B H ρ σ as) (hx : ρ[i]? = some xx) (hki : isIns xx (.ins c ns os ds)) (ev : σ[i]? = some (some (.ref a))) (ha : H a = some (.ins C0 dx fs)) (hl : fs.lookup f = some v) (h2 : fld ns os ds f = some (true, d1)) (rk : Rep K F H d2 vk) (hG : G [d1, d2] = some (d, w, [d1'])) (hc1 : isC d1' = true)
    (kk : ∀ v' H' F' as' bs, Ext F as H F' (bs ++ as') H' → Sit2 K F' B H' (ρ.set i (reSl xx (.ins c ns (fput ns os ds f true d1').2.1 (fput ns os ds f true d1').2.2))) σ as' d w v' bs → Q v' H') : spD K [true, false] G [v, vk] H Q E0 := by
  obtain ⟨o, ins, rest, eo, hs, Sh, hn1, hd1, mem⟩ := S.hide hx
  obtain ⟨a', C1, dx', fs', ia, e0, e1, hmc, ha', hdx, hns, ow, back⟩ := hs.ins hki
  subst e0 e1
  rw [ev] at eo; cases eo
  rw [ha] at ha'; cases ha'
  obtain ⟨v', p1', b1, q1', l1, l2, l3, l4⟩ := OwnFs.at_ hns ow h2
  rw [hl] at l1; cases l1
  subst l2
  unfold fOk at l3
  simp only [if_true] at l3
  have inb1 : ∀ b, b ∈ b1 → b ∈ a :: dx :: (p1' ++ (b1 ++ q1')) := fun b m => by simp [m]
  have nd1 : b1.Nodup := by
    simp only [List.nodup_cons, List.nodup_append] at hn1
    exact hn1.2.2.2.1.1
  refine ⟨F, b1, [d1, d2], d, w, [d1'], ?_, nd1, fun b m => (hd1 b (inb1 b m)).2, S.fk, hG, fun vr H' F' as' bs E hB nd nf fk r => ?_⟩
  · unfold ArgR
    refine ⟨v, [vk], b1, [], rfl, by simp, Own.ofC l3, ?_⟩
    unfold ArgR
    refine ⟨vk, [], rfl, rk, ?_⟩
    unfold ArgR
    exact ⟨rfl, rfl⟩
  · unfold BorR at hB
    obtain ⟨da, ea, va, ra, b1', a2', h3, h4, rfl, hoa, hB⟩ := hB
    unfold BorR at hB
    cases h3; cases h4
    obtain ⟨vb, rb, h5, hB⟩ := hB
    cases h5
    unfold BorR at hB
    obtain ⟨_, _, rfl⟩ := hB
    rw [List.append_nil] at E nd nf
    have others : ∀ y, (y ∈ rest ∨ y = a ∨ y = dx ∨ y ∈ p1' ++ q1') → y ∉ b1 := fun y hy z => by
      rcases hy with hy | hy
      · exact (hd1 y (inb1 y z)).1 hy
      · simp only [List.nodup_cons, List.nodup_append, List.mem_append, List.mem_cons] at hn1 hy
        grind
    have live : ∀ y, (y ∈ rest ∨ y = a ∨ y = dx ∨ y ∈ p1' ++ q1') → ∃ u, H y = some u := fun y hy => by
      rcases hy with hy | hy | hy | hy
      · exact Sh.env.there y hy
      · exact ⟨_, by rw [hy]; exact ha⟩
      · exact ⟨_, by rw [hy]; exact hdx⟩
      · refine ow.there y ?_
        simp only [List.mem_append] at hy ⊢
        grind
    have kpo : ∀ y, (y ∈ rest ∨ y = a ∨ y = dx ∨ y ∈ p1' ++ q1') → ∀ u, H y = some u → H' y = some u := fun y hy u hu => E.keep y u hu (others y hy)
    have far : ∀ y, (y ∈ rest ∨ y = a ∨ y = dx ∨ y ∈ p1' ++ q1') → y ∉ bs ++ b1' ∧ ¬ F' y := fun y hy => by
      obtain ⟨u, hu⟩ := live y hy
      refine ⟨fun z => ?_, fun z => ?_⟩
      · rcases E.anew y z with z | z
        · exact others y hy z
        · rw [hu] at z; cases z
      · rcases E.fnew y z with z | z | z
        · rcases hy with hy | hy
          · exact Sh.nf y hy z
          · refine (hd1 y ?_).2 z
            simp only [List.mem_append, List.mem_cons] at hy ⊢
            grind
        · exact others y hy z
        · rw [hu] at z; cases z
    have S3 : Sit K F' B H' (ρ.set i .no) σ rest := ⟨Sh.env.stb E.stb.weak fun y m u hu => kpo y (.inl m) u hu, Sh.nd, fun y m => (far y (.inl m)).2, fk⟩
    have nd3 := nd
    simp only [List.nodup_append] at nd3
    have hil : i < ρ.length := (List.getElem?_eq_some_iff.mp hx).1
    obtain ⟨m1, m2⟩ := l4 true d1' b1' E.stb (fun y m u hu => kpo y (.inr (.inr (.inr m))) u hu) (by unfold fOk; simp only [if_true]; exact hoa.toC hc1)
    have slI := back (F2 := F') (H2 := H') c ns _ _ (a :: dx :: (p1' ++ (b1' ++ q1'))) ⟨a, C0, dx, fs, _, rfl, hmc, kpo a (.inr (.inl rfl)) _ ha, kpo dx (.inr (.inr (.inl rfl))) _ hdx, hns, m2, rfl⟩
    have fa : ∀ y, (y = a ∨ y = dx ∨ y ∈ p1' ++ q1') → y ∉ b1' ∧ y ∉ bs := fun y hy => by
      have := (far y (.inr hy)).1
      simp only [List.mem_append, not_or] at this
      exact ⟨this.2, this.1⟩
    obtain ⟨asB, SB, mB⟩ := S3.fill (i := i) (x := reSl xx (.ins c ns (fput ns os ds f true d1').2.1 (fput ns os ds f true d1').2.2)) (ins := a :: dx :: (p1' ++ (b1' ++ q1'))) (by rw [List.getElem?_set_self hil]) ev slI (by
      have f1 := fa a (.inl rfl)
      have f2 := fa dx (.inr (.inl rfl))
      have f3 : ∀ y, y ∈ p1' ++ q1' → y ∉ b1' := fun y m => (fa y (.inr (.inr m))).1
      have nb := nd3.2.1
      simp only [List.nodup_cons, List.nodup_append, List.mem_append, List.mem_cons] at hn1 f3 ⊢
      grind) fun b m => by
        have nr : b ∉ rest := fun z => by
          simp only [List.mem_cons, List.mem_append] at m
          have hb1 : b ∈ b1' → False := fun q => (far b (.inl z)).1 (by simp [q])
          have hin : b ∈ a :: dx :: (p1' ++ (b1 ++ q1')) → False := fun q => (hd1 b q).1 z
          simp only [List.mem_cons, List.mem_append] at hin
          grind
        refine ⟨nr, fun z => ?_⟩
        simp only [List.mem_cons, List.mem_append] at m
        rcases m with m | m | m | m | m
        · exact (far b (.inr (.inl m))).2 z
        · exact (far b (.inr (.inr (.inl m)))).2 z
        · exact (far b (.inr (.inr (.inr (by simp [m]))))).2 z
        · exact nf b (by simp [m]) z
        · exact (far b (.inr (.inr (.inr (by simp [m]))))).2 z
    have envE : ((ρ.set i .no).set i (reSl xx (.ins c ns (fput ns os ds f true d1').2.1 (fput ns os ds f true d1').2.2))) = ρ.set i (reSl xx (.ins c ns (fput ns os ds f true d1').2.1 (fput ns os ds f true d1').2.2)) := by
      rw [List.set_set]
    rw [envE] at SB
    have memB : ∀ b, b ∈ asB → b ∈ b1' ∨ b ∈ rest ∨ b = a ∨ b = dx ∨ b ∈ p1' ++ q1' := fun b m => by
      rcases (mB b).mp m with m | m
      · simp only [List.mem_cons, List.mem_append] at m ⊢
        grind
      · exact .inr (.inl m)
    have asM : ∀ b, (b ∈ b1 ∨ b ∈ rest ∨ b = a ∨ b = dx ∨ b ∈ p1' ++ q1') → b ∈ as := fun b m => by
      refine (mem b).mpr ?_
      rcases m with m | m | m
      · exact .inl (inb1 b m)
      · exact .inr m
      · refine .inl ?_
        simp only [List.mem_cons, List.mem_append] at m ⊢
        grind
    refine kk vr H' F' asB bs ⟨E.stb, fun b u hu nm => E.keep b u hu fun z => nm (asM b (.inl z)), E.dom, fun b z => ?_, fun b m => ?_, E.fk⟩ ⟨SB.env, List.nodup_append.mpr ⟨nd3.1, SB.nd, fun y hy z hz e => ?_⟩, fun b m => ?_, fk, r⟩
    · rcases E.fnew b z with z | z | z
      · exact .inl z
      · exact .inr (.inl (asM b (.inl z)))
      · exact .inr (.inr z)
    · rcases List.mem_append.mp m with m | m
      · exact (E.anew b (by simp [m])).imp_left fun z => asM b (.inl z)
      · rcases memB b m with m | m
        · exact (E.anew b (by simp [m])).imp_left fun z => asM b (.inl z)
        · exact .inl (asM b (.inr m))
    · subst e
      rcases memB y hz with m | m
      · exact nd3.2.2 y hy y (by simp [m]) rfl
      · exact (far y m).1 (by simp [hy])
    · rcases List.mem_append.mp m with m | m
      · exact nf b (by simp [m])
      · exact SB.nf b m
def gOneF (G : FnD) (i : Nat) (c f : Str) (g : FD) : FW := fun ρ => match fldOf i c f ρ, ρ[i]? with
  | some (true, d1), some x => match g (ρ.set i .no) with
    | some (d2, ρ1) => match ρ1[i]? with
      | some .no => match G [d1, d2] with
        | some (d, w, [d1']) => if isC d1' = true then match backF i c f d1' (ρ1.set i x) with
            | some ρ' => some (d, w, ρ')
            | none => none
          else none
        | _ => none
      | _ => none
    | none => none
  | _, _ => none
theorem cw_oneF {X : Cx} {pos p p1 fpos : Pos} {n i : Nat} {x c f fnm : Str} {b : Expr} {G : FnD} {g : FD} (Fn : FnAt X n fnm [true, false] G) (hr : Room n X.A) (C : ClsF (kc X) c f) (hg : Gl X fnm) (hgb : PE X b (tD (kc X) g)) (hN : X.N[i]? = some x := by rfl) (hv : Vis X.env.scope x := by first | exact Or.inl rfl | exact Or.inr (Or.inl rfl) | exact Or.inr (Or.inr rfl)) (hd : (x == ("__debug__" : Str)) = false := by decide)
    (hcd : (x == ("__classdict__" : Str)) = false := by decide)
    (hb : attributeBase (.Name x p1) f X.env (eval (.Name x p1) X.env) = eval (.Name x p1) X.env := by rfl) (hdb : (fnm == ("__debug__" : Str)) = false := by decide)
    (he : starEach [.Attribute (.Name x p1) f fpos, b] X.env = (false, eval (.Attribute (.Name x p1) f fpos) X.env) :: starEach [b] X.env := by rfl) (he2 : starEach [b] X.env = (false, eval b X.env) :: starEach [] X.env := by rfl) (hpl : (backTo pos (starEach [b] X.env)).any (·.1) = false := by rfl) :
    PE X (.Call (.Name fnm p) [.Attribute (.Name x p1) f fpos, b] [] pos) (tW (kc X) (gOneF G i c f g)) := by
  obtain ⟨ff, fd, ps, dsv, dvs, hm, hk, hbi, hvv, hdd, ok⟩ := Fn.at_
  have hnil : dvs = [] := by
    have := (hdd (fun _ => True) (fun _ => none)).length
    exact List.eq_nil_of_length_eq_zero (by simpa using this)
  subst hnil
  refine PE.to (pe_call ok hr hg hm hk hbi hvv pass0 (pa_cons (pe_fld (pe_var hN hv hd hcd) hb) (pa_cons hgb pa_nil he2) he) hdb he hpl) fun σ H Q ⟨F, B, as, ρ, d, w, ρ', S, e, kk⟩ => ?_
  obtain ⟨C1, hm1, hc, hn⟩ := C.ex
  unfold gOneF at e
  split at e
  · rename_i d1 x' q1 q2
    split at e
    · rename_i d2 ρ1 q3
      split at e
      · rename_i q4
        split at e
        · rename_i d0 w0 d1' q5
          split at e
          · rename_i hc1
            split at e
            · rename_i ρ2 q6
              cases e
              obtain ⟨ns, os, ds, h1, h2⟩ := fldOf_some q1
              obtain ⟨xx, a, C0, dx, fs, v, hx, hki, ev, hmc, ha, l1, t⟩ := aside_again S h1 h2 q3 q4
              rw [q2] at hx; cases hx
              rw [hmc] at hm1; cases hm1
              refine ⟨.ref a, ev, a, _, dx, fs, v, rfl, ha, hc, hn, l1, ?_⟩
              refine t _ fun vk H1 F1 as1 ha1 lv rk E S2 => ?_
              show spD (kc X) [true, false] G [v, vk] H1 Q E0
              obtain ⟨x2, ns2, os2, ds2, b1, b2, b3, rfl⟩ := backF_some q6
              have hil : i < ρ1.length := (List.getElem?_eq_some_iff.mp q4).1
              rw [List.getElem?_set_self hil] at b1; cases b1
              have l2 := at_slot (List.getElem?_set_self hil) hki
              rw [b2] at l2; cases l2
              exact oneF_fit S2 (List.getElem?_set_self hil) hki ev ha1 l1 h2 rk q5 hc1 fun v' H' F' as' bs E' S' => kk v' H' F' as' bs (E.trans E') S'
            · cases e
          · cases e
        · cases e
      · cases e
    · cases e
  · cases e
end DV

/-! DV26: a, b, c = x, y, z. -/
namespace DV
open L2 PySem PySem.Spec PyProof.Rows
def bindL : List Nat → List D → Env → Option Env
  | [], [], ρ => some ρ
  | i :: is, d :: ds, ρ => match bind1 i d false ρ with
    | some ρ1 => bindL is ds ρ1
    | none => none
  | _, _, _ => none
def gParL (is : List Nat) (g : FL) : FS := fun ρ => match g ρ with
  | some (ds, ρ1) => match bindL is ds ρ1 with
    | some ρ2 => some (.nx, ρ2)
    | none => none
  | none => none
theorem bindL_fit {K : Kc} {F : Addr → Prop} {B : List Addr} {H : Hp} {i : Nat} {is : List Nat} {d : D} {ds : List D} {ρ ρ' : Env} {σ : L2.St} {as : List Addr} {v : V} (S : Sit K F B H ρ σ as) (r : Rep K F H d v) (e : bindL (i :: is) (d :: ds) ρ = some ρ') :
    ∃ ρ1 as1, bindL is ds ρ1 = some ρ' ∧ Sit K F B H ρ1 (σ.set i (some v)) as1 ∧ ∀ b, b ∈ as1 → b ∈ as := by
  unfold bindL at e
  split at e
  · rename_i ρ1 q
    have T : Sit2 K F B H ρ σ as d false v [] := ⟨S.env, S.nd, S.nf, S.fk, by simp [r]⟩
    obtain ⟨as1, S1, m⟩ := T.bind q
    exact ⟨ρ1, as1, e, S1, fun b h => by simpa using m b h⟩
  · cases e
section
variable {X : Cx} {pos p : Pos}
theorem cs_par3 {i j l : Nat} {x y z : Str} {a b c : Expr} {g : FL} {px py pz pt : Pos} {kt k2 pt2} (hc : X.calm = true) (hN : X.N.Nodup) (hi : X.N[i]? = some x) (hj : X.N[j]? = some y) (hl : X.N[l]? = some z) (hij : i ≠ j) (hil : i ≠ l) (hjl : j ≠ l)
    (hx : X.env.scope.names.lookup x = some .local) (hy : X.env.scope.names.lookup y = some .local) (hz : X.env.scope.names.lookup z = some .local) (ha : PA X [a, b, c] (tL (kc X) g))
    (hw : swappedStores [.Tuple [.Name x px, .Name y py, .Name z pz] kt pt] (.Tuple [a, b, c] k2 pt2) X.env = pure (some [x, y, z]))
    (hs : swapsWithSole [.Tuple [.Name x px, .Name y py, .Name z pz] kt pt] (.Tuple [a, b, c] k2 pt2) pos.line X.env = pure false := by rfl) :
    PS X (.Assign [.Tuple [.Name x px, .Name y py, .Name z pz] kt pt] (.Tuple [a, b, c] k2 pt2) pos) (tS (kc X) (gParL [i, j, l] g)) :=
  PS.to (ps_par3 hc hN hi hj hl hij hil hjl hx hy hz ha hw hs) fun D σ H ⟨F, B, as, ρ, fl, ρ', S, e, k⟩ => by
    unfold gParL at e
    split at e
    · rename_i ds ρ1 q1
      split at e
      · rename_i ρ2 q2
        cases e
        refine ⟨F, B, as, ρ, ds, ρ1, S, q1, fun vs H1 F1 as1 E1 S1 r => ?_⟩
        rcases ds with _ | ⟨d1, _ | ⟨d2, _ | ⟨d3, _ | ⟨d4, ds⟩⟩⟩⟩
        · simp [bindL] at q2
        · unfold bindL at q2; split at q2
          · simp [bindL] at q2
          · cases q2
        · obtain ⟨u1, r1, rfl, h1, h2⟩ := (by unfold RepL at r; exact r)
          obtain ⟨_, _, q3, _, _⟩ := bindL_fit S1 h1 q2
          unfold bindL at q3; split at q3
          · simp [bindL] at q3
          · cases q3
        · obtain ⟨u1, r1, rfl, h1, r⟩ := (by unfold RepL at r; exact r)
          obtain ⟨u2, r2, rfl, h2, r⟩ := (by unfold RepL at r; exact r)
          obtain ⟨u3, r3, rfl, h3, r⟩ := (by unfold RepL at r; exact r)
          unfold RepL at r
          subst r
          obtain ⟨ρa, asa, qa, Sa, ma⟩ := bindL_fit S1 h1 q2
          obtain ⟨ρb, asb, qb, Sb, mb⟩ := bindL_fit Sa h2 qa
          obtain ⟨ρc, asc, qc, Sc, mc⟩ := bindL_fit Sb h3 qb
          simp only [bindL] at qc
          cases qc
          exact ⟨u1, u2, u3, rfl, k _ _ F1 asc (E1.sub fun b m => ma b (mb b (mc b m))) Sc⟩
        · obtain ⟨u1, r1, rfl, h1, r⟩ := (by unfold RepL at r; exact r)
          obtain ⟨u2, r2, rfl, h2, r⟩ := (by unfold RepL at r; exact r)
          obtain ⟨u3, r3, rfl, h3, r⟩ := (by unfold RepL at r; exact r)
          obtain ⟨ρa, asa, qa, Sa, ma⟩ := bindL_fit S1 h1 q2
          obtain ⟨ρb, asb, qb, Sb, mb⟩ := bindL_fit Sa h2 qa
          obtain ⟨ρc, asc, qc, Sc, mc⟩ := bindL_fit Sb h3 qb
          simp [bindL] at qc
      · cases e
    · cases e
end
end DV

/-! DV27: loops by an invariant; rows for simp; equality of what is the same. -/
namespace DV
open L2 PySem PySem.Spec PyProof.Rows
theorem forD_all {h : FG} {body : FS} {I : Env → Prop} : ∀ {items : List D}, (∀ d ρ, d ∈ items → I ρ → ∃ fl ρ', (h d ρ).bind body = some (fl, ρ') ∧ (fl = .nx ∨ fl = .ct) ∧ I ρ') → ∀ ρ, I ρ → ∃ ρ', forD h body items ρ = some (.nx, ρ') ∧ I ρ'
  | [], _, ρ, i => ⟨ρ, rfl, i⟩
  | d :: ds, st, ρ, i => by
    obtain ⟨fl, ρ1, e, hf, i1⟩ := st d ρ List.mem_cons_self i
    obtain ⟨ρ2, e2, i2⟩ := forD_all (items := ds) (fun d' ρ' m => st d' ρ' (List.mem_cons_of_mem _ m)) ρ1 i1
    refine ⟨ρ2, ?_, i2⟩
    rw [forD_cons]
    obtain ⟨ρ0, e3, e4⟩ := Option.bind_eq_some_iff.mp e
    rw [e3]
    simp only [Option.bind_some, kFo1_at, e4]
    rcases hf with rfl | rfl
    · exact e2
    · exact e2
/-- items numbered from i on -/
theorem forD_num {h : FG} {body : FS} {I : Nat → Env → Prop} : ∀ {items : List D} {i : Nat}, (∀ j d ρ, items[j]? = some d → I (i + j) ρ → ∃ fl ρ', (h d ρ).bind body = some (fl, ρ') ∧ (fl = .nx ∨ fl = .ct) ∧ I (i + j + 1) ρ') → ∀ ρ, I i ρ → ∃ ρ', forD h body items ρ = some (.nx, ρ') ∧ I (i + items.length) ρ'
  | [], i, _, ρ, hi => ⟨ρ, rfl, hi⟩
  | d :: ds, i, st, ρ, hi => by
    obtain ⟨fl, ρ1, e, hf, i1⟩ := st 0 d ρ rfl hi
    obtain ⟨ρ2, e2, i2⟩ := forD_num (items := ds) (i := i + 1) (fun j d' ρ' m hj => by
      have := st (j + 1) d' ρ' (by simpa using m)
      rw [show i + (j + 1) = i + 1 + j by omega] at this
      exact this hj) ρ1 i1
    refine ⟨ρ2, ?_, by rw [List.length_cons, show i + (ds.length + 1) = i + 1 + ds.length by omega]; exact i2⟩
    rw [forD_cons]
    obtain ⟨ρ0, e3, e4⟩ := Option.bind_eq_some_iff.mp e
    rw [e3]
    simp only [Option.bind_some, kFo1_at, e4]
    rcases hf with rfl | rfl
    · exact e2
    · exact e2
theorem rngD_at {i : Int} {n j : Nat} {d : D} (h : (rngD i n)[j]? = some d) : d = .int (i + j) ∧ j < n := by
  unfold rngD at h
  rw [List.getElem?_map] at h
  obtain ⟨k, e, rfl⟩ := Option.map_eq_some_iff.mp h
  obtain ⟨hl, e2⟩ := List.getElem?_eq_some_iff.mp e
  simp at hl e2
  subst e2
  exact ⟨rfl, hl⟩
theorem rngD_len {i : Int} {n : Nat} : (rngD i n).length = n := by simp [rngD]
/-- a loop over range(n) -/
theorem forD_rng {h : FG} {body : FS} {I : Nat → Env → Prop} {n : Nat} (st : ∀ (j : Nat) ρ, j < n → I j ρ → ∃ fl ρ', (h (.int j) ρ).bind body = some (fl, ρ') ∧ (fl = .nx ∨ fl = .ct) ∧ I (j + 1) ρ') (ρ : Env) (i0 : I 0 ρ) : ∃ ρ', forD h body (rngD 0 n) ρ = some (.nx, ρ') ∧ I n ρ' := by
  have := forD_num (h := h) (body := body) (I := I) (items := rngD 0 n) (i := 0) (fun j d ρ e hj => by
    obtain ⟨rfl, hl⟩ := rngD_at e
    rw [Nat.zero_add] at hj ⊢
    rw [Int.zero_add]
    exact st j ρ hl hj) ρ i0
  rw [rngD_len, Nat.zero_add] at this
  exact this
/-- may be bound -/
def Bd : Sl → Prop
  | .bo _ _ => False
  | _ => True
theorem kB_Bd {i : Nat} {d : D} {w : Bool} {x : Sl} {ρ : Env} (h : Bd x) : kB i d w ρ (some x) = some (ρ.set i (if w = true then .ow d else .sh d)) := by
  cases x <;> first | rfl | exact h.elim
@[simp] theorem Bd_no : Bd .no := trivial
@[simp] theorem Bd_sh {d} : Bd (.sh d) := trivial
@[simp] theorem Bd_ow {d} : Bd (.ow d) := trivial
section
variable {ρ ρ1 : Env}
/-! rows -/
def kCL (x : Str) (bo : List Bool) (G : FnD) (dd : List D) (ga : FAr) (ρ : Env) : Option Sl → Option (D × Bool × Env)
  | some (.sh (.fn y)) => if y = x then gCallD bo G dd ga ρ else none
  | _ => none
@[simp] theorem kCL_at {x bo} {G : FnD} {dd} {ga : FAr} {y} : kCL x bo G dd ga ρ (some (.sh (.fn y))) = if y = x then gCallD bo G dd ga ρ else none := rfl
@[simp] theorem at_callL {i x bo} {G : FnD} {dd} {ga : FAr} : gCallL i x bo G dd ga ρ = kCL x bo G dd ga ρ ρ[i]? := by
  unfold gCallL kCL
  rcases ρ[i]? with _ | x'
  · rfl
  · cases x' with
    | sh d => cases d <;> rfl
    | _ => rfl
def kPk2 (a b z : Str) : D × Env → D × Env := fun p => (if z = a then .str b else p.1, p.2)
@[simp] theorem kPk2_at {a b z d} : kPk2 a b z (d, ρ1) = (if z = a then .str b else d, ρ1) := rfl
def kPk1 (a b : Str) (gf : FD) : D × Env → Option (D × Env)
  | (.str z, ρ1) => (gf ρ1).map (kPk2 a b z)
  | _ => none
@[simp] theorem kPk1_at {a b z} {gf : FD} : kPk1 a b gf (.str z, ρ1) = (gf ρ1).map (kPk2 a b z) := rfl
@[simp] theorem at_pick {a b} {ge gf : FD} : gPick a b ge gf ρ = (ge ρ).bind (kPk1 a b gf) := by
  unfold gPick
  rcases ge ρ with _ | ⟨d, ρ1⟩
  · rfl
  · cases d <;> simp only [Option.bind_some, kPk1]
    rcases gf ρ1 with _ | ⟨d, ρ2⟩ <;> rfl
def kOF2 (op : D → D → Option D) (i : Nat) (ρ : Env) (d : D) : D × Env → Option (D × Env) := fun p => if isNo p.2[i]? = true then (op d p.1).map (kWith (p.2.set i (ρ.getD i .no))) else none
@[simp] theorem kOF2_at {op : D → D → Option D} {i d k} : kOF2 op i ρ d (k, ρ1) = if isNo ρ1[i]? = true then (op d k).map (kWith (ρ1.set i (ρ.getD i .no))) else none := rfl
def kOF1 (op : D → D → Option D) (i : Nat) (ρ : Env) (g : FD) : Bool × D → Option (D × Env) := fun p => (g (ρ.set i .no)).bind (kOF2 op i ρ p.2)
@[simp] theorem kOF1_at {op : D → D → Option D} {i} {g : FD} {w d} : kOF1 op i ρ g (w, d) = (g (ρ.set i .no)).bind (kOF2 op i ρ d) := rfl
theorem isNo_iff {x : Option Sl} : isNo x = true ↔ x = some .no := by
  rcases x with _ | x
  · simp [isNo]
  · cases x <;> simp [isNo]
@[simp] theorem at_opF {op : D → D → Option D} {i c f} {g : FD} : gOpF op i c f g ρ = (fldOf i c f ρ).bind (kOF1 op i ρ g) := by
  unfold gOpF
  rcases fldOf i c f ρ with _ | ⟨w, d⟩
  · rfl
  · simp only [Option.bind_some, kOF1_at]
    rcases g (ρ.set i .no) with _ | ⟨k, ρ1⟩
    · rfl
    · simp only [Option.bind_some, kOF2_at]
      rcases h : ρ1[i]? with _ | x
      · simp [isNo]
      · cases x <;> simp [isNo]
        rcases op d k with _ | r <;> rfl
def kON3 (i : Nat) (c f : Str) (x : Sl) (ρ1 : Env) : D × Bool × List D → Option (D × Bool × Env)
  | (d, w, [d1]) => if isC d1 = true then (backF i c f d1 (ρ1.set i x)).map (kCl4 d w) else none
  | _ => none
@[simp] theorem kON3_at {i c f x d w d1} : kON3 i c f x ρ1 (d, w, [d1]) = if isC d1 = true then (backF i c f d1 (ρ1.set i x)).map (kCl4 d w) else none := rfl
theorem at_oneF {G : FnD} {i c f} {g : FD} {d1 d2 : D} {x : Sl} (h1 : fldOf i c f ρ = some (true, d1)) (h2 : ρ[i]? = some x) (h3 : g (ρ.set i .no) = some (d2, ρ1)) (h4 : ρ1[i]? = some .no) : gOneF G i c f g ρ = (G [d1, d2]).bind (kON3 i c f x ρ1) := by
  unfold gOneF
  simp only [h1, h2, h3, h4]
  rcases G [d1, d2] with _ | ⟨d, w, ds⟩
  · rfl
  · simp only [Option.bind_some]
    rcases ds with _ | ⟨e1, _ | ⟨e2, r⟩⟩
    · rfl
    · simp only [kON3_at]
      split
      · rcases backF i c f e1 (ρ1.set i x) with _ | ρ2 <;> rfl
      · rfl
    · rfl
def kON2 (G : FnD) (i : Nat) (c f : Str) (ρ : Env) (d1 : D) : D × Env → Option (D × Bool × Env) := fun p => if isNo p.2[i]? = true then (G [d1, p.1]).bind (kON3 i c f (ρ.getD i .no) p.2) else none
@[simp] theorem kON2_at {G : FnD} {i c f d1 d2} : kON2 G i c f ρ d1 (d2, ρ1) = if isNo ρ1[i]? = true then (G [d1, d2]).bind (kON3 i c f (ρ.getD i .no) ρ1) else none := rfl
def kON1 (G : FnD) (i : Nat) (c f : Str) (g : FD) (ρ : Env) : Bool × D → Option (D × Bool × Env)
  | (true, d1) => (g (ρ.set i .no)).bind (kON2 G i c f ρ d1)
  | _ => none
@[simp] theorem kON1_at {G : FnD} {i c f} {g : FD} {d1} : kON1 G i c f g ρ (true, d1) = (g (ρ.set i .no)).bind (kON2 G i c f ρ d1) := rfl
@[simp] theorem at_gOneF {G : FnD} {i c f} {g : FD} : gOneF G i c f g ρ = (fldOf i c f ρ).bind (kON1 G i c f g ρ) := by
  rcases h : fldOf i c f ρ with _ | ⟨w, d1⟩
  · unfold gOneF; rw [h]; rfl
  · cases w with
    | false => unfold gOneF; rw [h]; rfl
    | true =>
      obtain ⟨ns, os, ds, h1, h2⟩ := fldOf_some h
      obtain ⟨x, hx⟩ : ∃ x, ρ[i]? = some x := by
        unfold look at h1
        rcases q : ρ[i]? with _ | x
        · rw [q] at h1; cases h1
        · exact ⟨x, rfl⟩
      simp only [Option.bind_some, kON1_at]
      rcases hg : g (ρ.set i .no) with _ | ⟨d2, ρ1⟩
      · unfold gOneF; simp only [h, hx, hg]; rfl
      · simp only [Option.bind_some, kON2_at]
        rcases hn : isNo ρ1[i]? with _ | _
        · rw [if_neg (by simp)]
          unfold gOneF
          simp only [h, hx, hg]
          rcases q : ρ1[i]? with _ | y
          · rfl
          · cases y with
            | no => rw [q] at hn; cases hn
            | _ => rfl
        · rw [if_pos rfl, at_oneF h hx hg (isNo_iff.mp hn), getD_of hx]
@[simp] theorem bindL_nil : bindL [] [] ρ = some ρ := rfl
@[simp] theorem bindL_cons {i is d ds} : bindL (i :: is) (d :: ds) ρ = (bind1 i d false ρ).bind (bindL is ds) := by
  rw [bindL]
  rcases bind1 i d false ρ with _ | ρ1 <;> rfl
def kPL (is : List Nat) : List D × Env → Option (Fl × Env) := fun p => (bindL is p.1 p.2).map kNx
@[simp] theorem kPL_at {is ds} : kPL is (ds, ρ1) = (bindL is ds ρ1).map kNx := rfl
@[simp] theorem at_parL {is} {g : FL} : gParL is g ρ = (g ρ).bind (kPL is) := by
  unfold gParL
  rcases g ρ with _ | ⟨ds, ρ1⟩
  · rfl
  · simp only [Option.bind_some, kPL_at]
    rcases bindL is ds ρ1 with _ | ρ2 <;> rfl
end
@[simp] theorem put_lst0 {xs : List D} {d : D} : putD (.lst xs) (.int 0) d = if 0 < xs.length then some (.lst (xs.set 0 d)) else none := put_lst (k := 0)
@[simp] theorem isn_tt : isnD (.bl true) (.bl true) = some (.bl false) := rfl
@[simp] theorem isNon_non : isNon .non = true := rfl
@[simp] theorem rev_lst {ds : List D} : revD (.lst ds) = some (.lst ds.reverse) := rfl
/-! what is the same is equal -/
def okN (d : D) (n : Nat) : Prop := (toPy d).canLay0 = true ∧ (toPy d).depth ≤ n
theorem okN.mono {d : D} {n m : Nat} (h : okN d n) (hm : n ≤ m) : okN d m := ⟨h.1, Nat.le_trans h.2 hm⟩
theorem okN.py {d : D} {n : Nat} (h : okN d n) (hn : n ≤ 64) : okPy d = true := by
  unfold okPy SeqAt.shaped
  rw [h.1]
  have := h.2
  simp
  omega
theorem toPyL_ok {n : Nat} : ∀ {xs : List D}, (∀ x ∈ xs, okN x n) → PyData.canLayAll0 (toPyL xs) = true ∧ PyData.depthAll (toPyL xs) ≤ n
  | [], _ => by simp [toPyL, PyData.canLayAll0, PyData.depthAll]
  | x :: xs, h => by
    obtain ⟨a, b⟩ := h x List.mem_cons_self
    obtain ⟨c, d⟩ := toPyL_ok fun y m => h y (List.mem_cons_of_mem _ m)
    simp only [toPyL, PyData.canLayAll0, PyData.depthAll]
    exact ⟨by rw [a, c]; rfl, by omega⟩
theorem okN.tup {xs : List D} {n : Nat} (h : ∀ x ∈ xs, okN x n) : okN (.tup xs) (n + 1) := by
  obtain ⟨a, b⟩ := toPyL_ok h
  refine ⟨?_, ?_⟩
  · simp only [toPy, PyData.canLay0]; exact a
  · simp only [toPy, PyData.depth]; omega
theorem okN.lst {xs : List D} {n : Nat} (h : ∀ x ∈ xs, okN x n) : okN (.lst xs) (n + 1) := by
  obtain ⟨a, b⟩ := toPyL_ok h
  refine ⟨?_, ?_⟩
  · simp only [toPy, PyData.canLay0]; exact a
  · simp only [toPy, PyData.depth]; omega
theorem okN.int {i : Int} {n : Nat} : okN (.int i) n := ⟨rfl, Nat.zero_le _⟩
theorem okN.bl {b : Bool} {n : Nat} : okN (.bl b) n := ⟨rfl, Nat.zero_le _⟩
theorem okN.non {n : Nat} : okN .non n := ⟨rfl, Nat.zero_le _⟩
theorem okN.str {x : Str} {n : Nat} (h : PyData.strOk x = true) : okN (.str x) n := ⟨h, Nat.zero_le _⟩
theorem eq_self {d : D} {n : Nat} (h : okN d n) (hn : n ≤ 64) : eqD d d = some (.bl true) := by
  have p := eqP_ok (h.py hn) (h.py hn)
  rw [PySem.SeqAt.eqv_refl _ h.1] at p
  unfold eqD
  rw [p]
  cases d <;> simp [eqS]
theorem ne_self {d : D} {n : Nat} (h : okN d n) (hn : n ≤ 64) : neD d d = some (.bl false) := by
  have p := neP_ok (h.py hn) (h.py hn)
  rw [PySem.SeqAt.eqv_refl _ h.1] at p
  unfold neD
  rw [p]
  cases d <;> simp [eqS]
end DV

/-! DV28: dict(tuple of pairs), dict(d), sorted(d), sorted(texts), d.update(d2). -/
namespace L2
open PySem PySem.Spec PyProof.Rows
theorem pairs_ofV {X : Cx} {pins : List (Addr × Obj)} {σ : St} {H : Hp} {s : Shared} (I : Inv X pins σ H s) : ∀ {ps : List Addr} {kvs : List (Key × V)}, Paired (fun p kv => SqT X.K H p [kV kv.1, kv.2]) ps kvs →
    ∃ (prs : List (Key × Value)) (ws : List (Value × Value)), KV kvs prs ∧ prs.length = ps.length ∧ ws.length = ps.length ∧ ∀ (j : Nat) (q : Value × Value), ws[j]? = some q → ∃ (b : Addr) (k : Key), ps[j]? = some b ∧ prs[j]? = some (k, q.2) ∧ IsTup s.heap b #[q.1, q.2] ∧ keyIs k q.1 = true
  | _, _, .nil => ⟨[], [], .nil, rfl, rfl, fun j q e => by simp at e⟩
  | _, _, .cons (a := p) (b := kv) h t => by
    obtain ⟨prs, ws, r, hl, hl2, hp⟩ := pairs_ofV I t
    obtain ⟨its, rv, ht, _⟩ := I.tuple h
    obtain ⟨u, y, ei, ru, ry⟩ := vals2 rv
    subst ei
    refine ⟨(kv.1, y) :: prs, (u, y) :: ws, .cons ⟨rfl, ry⟩ r, by rw [List.length_cons, List.length_cons, hl], by rw [List.length_cons, List.length_cons, hl2], fun j q e => ?_⟩
    cases j with
    | zero =>
      have e' : (u, y) = q := Option.some.inj e
      subst e'
      exact ⟨p, kv.1, rfl, rfl, ht, kV_is (P := X.prog) (w := X.w) ru⟩
    | succ j =>
      obtain ⟨b, k, e1, e2, e3, e4⟩ := hp j q (by simpa using e)
      exact ⟨b, k, by simpa using e1, by simpa using e2, e3, e4⟩
/-- dict(t), t a tuple of pairs -/
theorem call_dictZ {X : Cx} (hcalm : X.calm = true) : CallR X (.type "dict") (fun xs H Q => ∃ (a : Addr) (ps : List Addr) (kvs : List (Key × V)), xs = [.ref a] ∧ SqZ X.K H a (ps.map V.ref) ∧ Paired (fun p kv => SqT X.K H p [kV kv.1, kv.2]) ps kvs ∧
    ∀ p, H p = none → Q (.ref p) (upd H p (.dK (mergeK [] kvs)))) := by
  intro pins s σ H xs us Q I r q
  obtain ⟨a, ps, kvs, ex, hq, hp, q⟩ := q
  subst ex
  obtain ⟨u, eu, rx⟩ := vals1 r
  subst eu
  cases rx
  obtain ⟨its, rv, pl, hz⟩ := I.tupleZ hq
  have ei := refs_at rv
  subst ei
  rw [List.length_map] at hz
  obtain ⟨prs, ws, rel, hl, hl2, hpr⟩ := pairs_ofV I hp
  have pit : PairItems s.heap (ps.map Value.ref).toArray (fun j => (ps[j]?).getD 0) ws := by
    refine ⟨by simp [hl2], fun j k v e => ?_⟩
    obtain ⟨b, key, e1, e2, e3, e4⟩ := hpr j (k, v) e
    refine ⟨by simp [e1], .inl ?_⟩
    simp only [e1, Option.getD_some]
    exact e3
  refine PySem.call_dict_pairs (knd := mixKind X.prog X.w) (kvs := prs) (PairArg.tuple a (ps.map Value.ref).toArray (fun j => (ps[j]?).getD 0) ws) (I.ok.hd hcalm) ⟨pl, pit⟩ ⟨by rw [hl, hl2], fun i key v e => ?_⟩ (by rw [hl2]; exact hz) fun h' tk hd' k => ?_
  · obtain ⟨b, k, e1, e2, e3, e4⟩ := hpr i (key, v) e
    exact ⟨k, e2, e4⟩
  · have hm : (s.heap.objs.size == sysModules) = false := beq_eq_false_iff_ne.mpr (Nat.ne_of_gt I.big)
    have hlen : (mergeK [] kvs).length ≤ sizeLine := by
      refine Nat.le_trans (length_mergeK kvs []) ?_
      rw [List.length_nil, Nat.zero_add, rel.length, hl]
      exact hz
    exact ⟨.ref s.heap.objs.size, upd H s.heap.objs.size (.dK (mergeK [] kvs)), I.laid (t' := tk) (fun b o e => k b o (by simp) e) (Nat.le_refl _) (show ObjOk X.prog X.w _ _ _ (.dK (mergeK [] kvs)) from ⟨hlen, hm, merged [] prs, KV.merge rel .nil, hd'⟩), rfl, q _ (I.hok.fresh (Nat.le_refl _))⟩
/-- d.update(d2) -/
theorem mt_update {X : Cx} : MtR X "dict.update" (fun x vs H Q => ∃ (a b : Addr) (kvs more : List (Key × V)), x = .ref a ∧ vs = [.ref b] ∧ a ≠ b ∧ H a = some (.dK kvs) ∧ Rd H b (.dK more) ∧ kvs.length + more.length ≤ sizeLine ∧
    Q .non (upd H a (.dK (mergeK kvs more)))) := by
  intro pins s σ H x vs v us Q I rx rv h
  obtain ⟨a, b, kvs, more, rfl, rfl, hne, hH, hB, hz, q⟩ := h
  cases rx
  obtain ⟨u, rfl, ru⟩ := vals1 rv
  cases ru
  obtain ⟨z, hd, vs0, r0, dd⟩ := dk_of I.hok hH
  obtain ⟨z2, hd2, vs2, r2, dd2⟩ := dk_rd I.hok hB
  refine call_meetsIn PySem.F.slot_dict_update dd.typeIs PySem.F.entry_dict_update (PySem.F.args_dict_update_2 _ _) (meets_dict_update (mixKind X.prog X.w) a b hne hd2) ⟨vs0, vs2, dd, dd2, by rw [← r0.length, ← r2.length]; exact hz, fun h' d1 d2 sb => ?_⟩
  have he : ∃ q, h'.get? a = some q := let ⟨q, _, _, hq, _⟩ := d1; ⟨q, hq⟩
  exact ⟨.non, upd H a (.dK (mergeK kvs more)), d_write (t' := s.toks) I (by rw [hH]; exact True.intro) sb he (dk_new (Nat.le_trans (length_mergeK more kvs) hz) hd (KV.merge r2 r0) d1), rfl, q⟩
end L2
namespace DV
open L2 PySem PySem.Spec PyProof.Rows
/-! ### dict(..) -/
def mergeD : D → List D → List D → Option D
  | acc, k :: ks, v :: vs => match putD acc k v with
    | some acc' => mergeD acc' ks vs
    | none => none
  | acc, [], [] => some acc
  | _, _, _ => none
def unPair : List D → Option (List D × List D)
  | [] => some ([], [])
  | .tup [k, v] :: r => match unPair r with
    | some (ks, vs) => some (k :: ks, v :: vs)
    | none => none
  | _ :: _ => none
theorem merge_fit {K : Kc} {F : Addr → Prop} {H : Hp} : ∀ {ks ds : List D} {more : List (Key × V)} {kvs : List (Key × V)} {es : List D} {c : D}, ks = more.map (fun p => dkey p.1) → RepL K F H ds (more.map (·.2)) → RepL K F H es (kvs.map (·.2)) →
    mergeD (.dic (kvs.map fun p => dkey p.1) es) ks ds = some c → ∃ vs', c = .dic ((mergeK kvs more).map fun p => dkey p.1) vs' ∧ RepL K F H vs' ((mergeK kvs more).map (·.2))
  | [], ds, [], kvs, es, c, e, r, q, h => by
    have : ds = [] := List.eq_nil_of_length_eq_zero (by have := r.length; simpa using this.symm)
    subst this
    unfold mergeD at h
    cases h
    exact ⟨es, rfl, q⟩
  | k :: ks, [], p :: more, kvs, es, c, e, r, q, h => by
    have := r.length
    simp at this
  | k :: ks, d :: ds, p :: more, kvs, es, c, e, r, q, h => by
    simp only [List.map_cons, List.cons.injEq] at e
    obtain ⟨rfl, e⟩ := e
    unfold RepL at r
    obtain ⟨v, r', e2, r1, r2⟩ := r
    simp only [List.map_cons, List.cons.injEq] at e2
    obtain ⟨rfl, rfl⟩ := e2
    unfold mergeD at h
    split at h
    · rename_i acc' e3
      have rk : Rep K F H (dkey p.1) (kV p.1) := by
        cases p.1 with
        | inl i => exact Rep.int'
        | inr x => exact Rep.str'
      obtain ⟨hz, key, vs', ek, rfl, r3⟩ := putD_dic q rk r1 e3
      have : key = p.1 := by
        cases key <;> cases hp : p.1 <;> rw [hp] at ek <;> simp [kV] at ek <;> rw [ek]
      subst this
      exact merge_fit (more := more) (kvs := putK kvs p.1 p.2) e r2 r3 h
    · cases h
  | [], ds, p :: more, kvs, es, c, e, r, q, h => by simp at e
  | k :: ks, ds, [], kvs, es, c, e, r, q, h => by simp at e
theorem unPair_fit {K : Kc} {F : Addr → Prop} {H : Hp} : ∀ {xs ks ds : List D} {vs : List V}, RepL K F H xs vs → unPair xs = some (ks, ds) → ks.all isKey = true → ∃ (ps : List Addr) (kvs : List (Key × V)), vs = ps.map V.ref ∧ Paired (fun p kv => SqT K.K H p [kV kv.1, kv.2]) ps kvs ∧
    ks = kvs.map (fun p => dkey p.1) ∧ RepL K F H ds (kvs.map (·.2))
  | [], ks, ds, vs, r, e, hk => by
    unfold unPair at e
    cases e
    unfold RepL at r
    subst r
    exact ⟨[], [], rfl, .nil, rfl, RepL.nil⟩
  | x :: xs, ks, ds, vs, r, e, hk => by
    unfold unPair at e
    split at e
    · cases ‹x :: xs = []›
    · rename_i k d r' heq
      cases heq
      split at e
      · rename_i ks' ds' e2
        cases e
        unfold RepL at r
        obtain ⟨v, vs', rfl, r1, r2⟩ := r
        simp only [List.all_cons, Bool.and_eq_true] at hk
        obtain ⟨ps, kvs, rfl, hp, rfl, r3⟩ := unPair_fit r2 e2 hk.2
        unfold Rep at r1
        obtain ⟨a, us, rfl, hs, ru⟩ := r1
        unfold RepL at ru
        obtain ⟨u, us', rfl, rk, ru⟩ := ru
        unfold RepL at ru
        obtain ⟨w, us'', rfl, rd, ru⟩ := ru
        unfold RepL at ru
        subst ru
        obtain ⟨key, rfl⟩ := isKey_to hk.1
        have ek := Vw.key rk.vw
        subst ek
        exact ⟨a :: ps, (key, w) :: kvs, rfl, .cons hs.T hp, rfl, RepL.cons rd r3⟩
      · cases e
    · cases e
def dictD : D → Option D
  | .tup xs => match unPair xs with
    | some (ks, vs) => if ks.all isKey = true then mergeD (.dic [] []) ks vs else none
    | none => none
  | .dic ks vs => some (.dic ks vs)
  | _ => none
def rDict (K : PySem.W.Frag) : List V → Hp → VK → Prop := fun xs H Q => (∃ (a : Addr) (ps : List Addr) (kvs : List (Key × V)), xs = [.ref a] ∧ SqZ K H a (ps.map V.ref) ∧ Paired (fun p kv => SqT K H p [kV kv.1, kv.2]) ps kvs ∧ ∀ p, H p = none → Q (.ref p) (upd H p (.dK (mergeK [] kvs)))) ∨
  ∃ (a : Addr) (kvs : List (Key × V)), xs = [.ref a] ∧ Rd H a (.dK kvs) ∧ ∀ p, H p = none → Q (.ref p) (upd H p (.dK kvs))
theorem own_dic' {K : Kc} {F : Addr → Prop} {H : Hp} {p : Addr} {kvs : List (Key × V)} {ks ds : List D} (hp : H p = none) (e : ks = kvs.map fun q => dkey q.1) (r : RepL K F H ds (kvs.map (·.2))) : Own K F (upd H p (.dK kvs)) (.dic ks ds) (.ref p) [p] := by
  subst e
  exact own_dic hp r
theorem pw_dict {K : Kc} : PureW K (rDict K.K) dictD := by
  intro F H dx d vx Q fk e w k
  unfold dictD at e
  split at e
  · split at e
    · rename_i xs ks vs e2
      split at e
      · rename_i hk
        obtain ⟨a, us, rfl, h1, r1⟩ := w.tup
        obtain ⟨ps, kvs, rfl, hp, ek, r3⟩ := unPair_fit r1 e2 hk
        obtain ⟨vs', rfl, r4⟩ := merge_fit (kvs := []) ek r3 RepL.nil e
        exact .inl ⟨a, ps, kvs, rfl, h1, hp, fun p hp => k p _ hp (own_dic' hp rfl r4)⟩
      · cases e
    · cases e
  · rename_i ks vs
    cases e
    unfold Vw at w
    obtain ⟨a, kvs, rfl, h1, h3, r⟩ := w
    exact .inr ⟨a, kvs, rfl, h1, fun p hp => k p _ hp (own_dic' hp h3 r)⟩
  · cases e

/-! ### sorted(..) of texts -/
def leS (x y : Str) : Bool := !ltCps y.cps.toList x.cps.toList
theorem leS_iff {x y : Str} : leS x y = true ↔ x.cps.toList ≤ y.cps.toList := by
  unfold leS
  rw [ltCps_eq]
  simp
theorem risingS_pw : ∀ (p : Str) (l : List Str), risingS p l = true → (p :: l).Pairwise fun a b => leS a b = true
  | p, [], _ => by simp
  | p, x :: r, h => by
    unfold risingS at h
    simp only [Bool.and_eq_true] at h
    have ih := risingS_pw x r h.2
    refine List.pairwise_cons.mpr ⟨fun y hy => ?_, ih⟩
    have h0 : leS p x = true := h.1
    rcases List.mem_cons.mp hy with rfl | hy
    · exact h0
    · have h1 := (List.pairwise_cons.mp ih).1 y hy
      rw [leS_iff] at *
      exact List.le_trans h0 h1
theorem sortedS_pw {l : List Str} (h : sortedS l = true) : l.Pairwise fun a b => leS a b = true := by
  cases l with
  | nil => simp
  | cons x r => exact risingS_pw x r h
def srtS (xs : List Str) : List Str := xs.mergeSort leS
theorem srtS_of {xs ys : List Str} (hp : ys.Perm xs) (h : sortedS ys = true) : ys = srtS xs := by
  unfold srtS
  refine List.Perm.eq_of_pairwise (le := fun a b => leS a b = true) (fun a b _ _ h1 h2 => ?_) (sortedS_pw h) (List.pairwise_mergeSort (fun a b c h1 h2 => ?_) (fun a b => ?_) xs) (hp.trans (List.mergeSort_perm xs leS).symm)
  · rw [leS_iff] at *
    have := List.le_antisymm h1 h2
    cases a; cases b
    simp only [Str.mk.injEq]
    exact Array.toList_inj.mp this
  · rw [leS_iff] at *
    exact List.le_trans h1 h2
  · simp only [Bool.or_eq_true, leS_iff]
    exact List.le_total _ _
def strsOf : List D → Option (List Str)
  | [] => some []
  | .str x :: r => match strsOf r with
    | some xs => some (x :: xs)
    | none => none
  | _ :: _ => none
theorem strsOf_eq : ∀ {ds : List D} {xs : List Str}, strsOf ds = some xs → ds = xs.map D.str
  | [], xs, e => by unfold strsOf at e; cases e; rfl
  | d :: ds, xs, e => by
    unfold strsOf at e
    split at e
    · cases ‹d :: ds = []›
    · rename_i x r heq
      cases heq
      split at e
      · rename_i xs' e2
        cases e
        rw [strsOf_eq e2]; rfl
      · cases e
    · cases e
theorem RepL.strs {K : Kc} {F : Addr → Prop} {H : Hp} : ∀ xs : List Str, RepL K F H (xs.map .str) (xs.map V.str)
  | [] => RepL.nil
  | x :: xs => RepL.cons Rep.str' (RepL.strs xs)
theorem RepL.strs_eq {K : Kc} {F : Addr → Prop} {H : Hp} : ∀ {xs : List Str} {vs : List V}, RepL K F H (xs.map .str) vs → vs = xs.map V.str
  | [], vs, h => by unfold RepL at h; exact h
  | x :: xs, vs, h => by
    unfold RepL at h
    obtain ⟨v, r, rfl, h1, h2⟩ := h
    unfold Rep at h1
    rw [h1, RepL.strs_eq h2]; rfl
def sortD : D → Option D
  | .dic ks _ => match strsOf ks with
    | some xs => if xs.length < 64 then some (.lst ((srtS xs).map .str)) else none
    | none => none
  | .lst ks => match strsOf ks with
    | some xs => if xs.length < 64 then some (.lst ((srtS xs).map .str)) else none
    | none => none
  | _ => none
def rSortD (K : PySem.W.Frag) : List V → Hp → VK → Prop := fun xs H Q => (∃ (a : Addr) (kvs : List (Key × V)) (ks : List Str), xs = [.ref a] ∧ Rd H a (.dK kvs) ∧ kvs.map (·.1) = ks.map Sum.inr ∧ ks.length < 64 ∧
    ∀ ys p, ys.Perm ks → sortedS ys = true → H p = none → Q (.ref p) (upd H p (.lst (ys.map V.str)))) ∨ rSortedS K xs H Q
theorem dkey_strs : ∀ {kvs : List (Key × V)} {xs : List Str}, kvs.map (fun p => dkey p.1) = xs.map D.str → kvs.map (·.1) = xs.map Sum.inr
  | [], [], _ => rfl
  | [], _ :: _, h => by simp at h
  | _ :: _, [], h => by simp at h
  | p :: kvs, x :: xs, h => by
    simp only [List.map_cons, List.cons.injEq] at h ⊢
    refine ⟨?_, dkey_strs h.2⟩
    cases hp : p.1 with
    | inl i => rw [hp] at h; simp [dkey] at h
    | inr y => rw [hp] at h; simp [dkey] at h; rw [h.1]
theorem pw_sort {K : Kc} : PureW K (rSortD K.K) sortD := by
  intro F H dx d vx Q fk e w k
  unfold sortD at e
  split at e
  · rename_i ks vs
    split at e
    · rename_i xs e2
      split at e
      · rename_i hz
        cases e
        have e3 := strsOf_eq e2
        subst e3
        unfold Vw at w
        obtain ⟨a, kvs, rfl, h1, h3, r⟩ := w
        refine .inl ⟨a, kvs, xs, rfl, h1, dkey_strs h3.symm, hz, fun ys p hp hs hn => ?_⟩
        rw [srtS_of hp hs]
        exact k p _ hn (own_lst hn (RepL.strs _))
      · cases e
    · cases e
  · rename_i ks
    split at e
    · rename_i xs e2
      split at e
      · rename_i hz
        cases e
        have e3 := strsOf_eq e2
        subst e3
        unfold Vw at w
        obtain ⟨a, vs, rfl, h1, r⟩ := w
        have := r.strs_eq
        subst this
        refine .inr ⟨a, xs, rfl, SqL.of h1, hz, fun ys p hp hs hn => ?_⟩
        rw [srtS_of hp hs]
        exact k p _ hn (own_lst hn (RepL.strs _))
      · cases e
    · cases e
  · cases e
theorem boot_sorted' : bootBuiltins "sorted" = some (.builtin "sorted") := by decide +kernel
section
variable {X : Cx} {p pos : Pos} {a : Expr} {oa : FO}
theorem w_dict (Z : Zs X.mg) (hc : X.calm = true) (ha : PE X a (tO (kc X) oa)) (hg : Gl X "dict" := by rfl) (he : starEach [a] X.env = (false, eval a X.env) :: starEach [] X.env := by rfl) : PE X (.Call (.Name "dict" p) [a] [] pos) (tW (kc X) (gOp1W dictD oa)) :=
  cw_callT1 (CallR.or (call_dictZ hc) call_dictD) pw_dict hg Z.dict boot_dict' ha (he := he)
theorem w_sorted (Z : Zs X.mg) (hc : X.calm = true) (ha : PE X a (tO (kc X) oa)) (hg : Gl X "sorted" := by rfl) (he : starEach [a] X.env = (false, eval a X.env) :: starEach [] X.env := by rfl) : PE X (.Call (.Name "sorted" p) [a] [] pos) (tW (kc X) (gOp1W sortD oa)) :=
  cw_callB1 (CallR.or (call_sortedD hc) cr_sortedS) pw_sort hg Z.sorted boot_sorted' ha (he := he)
end

/-! ### d.update(e), d an own dict -/
def gUpd (i : Nat) (g : FD) : FS := fun ρ => match ρ[i]? with
  | some (.ow (.dic _ _)) => match g ρ with
    | some (.dic ks2 vs2, ρ1) => match ρ1[i]? with
      | some (.ow (.dic ks vs)) => if ks.length + ks2.length ≤ SZ then (mergeD (.dic ks vs) ks2 vs2).map fun c => (.nx, ρ1.set i (.ow c)) else none
      | _ => none
    | _ => none
  | _ => none
theorem gUpd_some {i : Nat} {g : FD} {ρ ρ' : Env} {fl : Fl} (h : gUpd i g ρ = some (fl, ρ')) : fl = .nx ∧ ∃ k0 v0 ks2 vs2 ρ1 ks vs c, ρ[i]? = some (.ow (.dic k0 v0)) ∧ g ρ = some (.dic ks2 vs2, ρ1) ∧ ρ1[i]? = some (.ow (.dic ks vs)) ∧ ks.length + ks2.length ≤ SZ ∧ mergeD (.dic ks vs) ks2 vs2 = some c ∧ ρ' = ρ1.set i (.ow c) := by
  unfold gUpd at h
  split at h
  · rename_i k0 v0 q1
    split at h
    · rename_i ks2 vs2 ρ1 q2
      split at h
      · rename_i ks vs q3
        split at h
        · rename_i hz
          obtain ⟨c, e1, e2⟩ := Option.map_eq_some_iff.mp h
          cases e2
          exact ⟨rfl, k0, v0, ks2, vs2, ρ1, ks, vs, c, q1, q2, q3, hz, e1, rfl⟩
        · cases h
      · cases h
    · cases h
  · cases h
section
variable {X : Cx} {pos : Pos}
theorem cs_upd {i : Nat} {x : Str} {p apos cpos : Pos} {e : Expr} {g : FD} (hN : X.N[i]? = some x) (hv : Vis X.env.scope x) (he : PE X e (tD (kc X) g)) (hd : (x == ("__debug__" : Str)) = false := by decide) (hcd : (x == ("__classdict__" : Str)) = false := by decide)
    (hbase : attributeBase (.Name x p) "update" X.env (eval (.Name x p) X.env) = eval (.Name x p) X.env := by rfl)
    (hfew : ((backTo cpos (starEach [e] X.env)).all (fun x => !x.1) && (backToKw cpos (keywordEach [] X.env)).all (fun x => x.1.isSome)
      && decide ([e].length + ([] : List Keyword).length + (if ([] : List Keyword).isEmpty then 0 else 1) < 30)) = true := by rfl)
    (hline : (apos.endLine == cpos.line) = true := by rfl) (hst : starEach [e] X.env = (false, eval e X.env) :: starEach [] X.env := by rfl) (hplain : (backTo cpos (starEach [] X.env)).any (·.1) = false := by rfl)
    (hs : swapsWith (.Call (.Attribute (.Name x p) "update" apos) [e] [] cpos) none pos.line X.env = pure false := by rfl) :
    PS X (.Expr (.Call (.Attribute (.Name x p) "update" apos) [e] [] cpos) pos) (tS (kc X) (gUpd i g)) :=
  PS.to (ps_expr (pe_bm PySem.F.plainAttrs_dict PySem.F.slot_dict_update PySem.F.type_dict_update mt_update (pe_var hN hv hd hcd) (pa_cons he pa_nil hst) hbase hfew hline hst hplain) hs) fun D σ H ⟨F, B, as, ρ, fl, ρ', S, e, k⟩ => by
    obtain ⟨rfl, k0, v0, ks2, vs2, ρ1, ks, vs, c, e1, e2, e3, hz, e4, rfl⟩ := gUpd_some e
    obtain ⟨vo, ev⟩ := S.there (d := .dic k0 v0) (by unfold DV.look; rw [e1])
    obtain ⟨a', ow0, _⟩ := S.write (c' := .dic k0 v0) e1 (.inl rfl) ev
    unfold Own OwnC at ow0
    obtain ⟨a0, kv0, rfl, h0, _, _, _⟩ := ow0
    refine ⟨.ref a0, ev, .inr (.inr (.inl ⟨rfl, .inl ⟨kv0, h0⟩⟩)), F, B, as, ρ, .dic ks2 vs2, ρ1, S, e2, fun vd H1 F1 as1 E1 S1 r1 => ?_⟩
    unfold Rep at r1
    obtain ⟨b, ob, more, rfl, hF, hB, hk2, r2⟩ := r1
    obtain ⟨a, ow, fin⟩ := S1.write (c' := c) e3 (.inl rfl) ev
    unfold Own OwnC at ow
    obtain ⟨b', kvs, eb, h1, hk, r3, rfl⟩ := ow
    cases eb
    subst hk
    obtain ⟨vs', rfl, r4⟩ := merge_fit hk2 r2 r3 e4
    have hne : a0 ≠ b := fun e => by rw [e] at h1; rw [h1] at hB; cases hB
    subst hk2
    rw [List.length_map, List.length_map] at hz
    refine ⟨a0, b, kvs, more, rfl, rfl, hne, h1, .inr ⟨ob, hB⟩, sz_le hz, ?_⟩
    obtain ⟨E2, S2⟩ := fin a0 (.dK (mergeK kvs more)) _ rfl h1 (fun _ z => by cases z) (fun _ _ z => by cases z) fun s => by
      unfold Own OwnC
      exact ⟨a0, _, rfl, upd_same, rfl, RepL.stb s.weak _ _ r4, rfl⟩
    exact k σ _ F1 as1 (E1.trans E2) S2
end
end DV

/-! DV29: walking a dict's keys; the rows for simp. -/
namespace DV
open L2 PySem PySem.Spec PyProof.Rows
theorem rep_dkey {K : Kc} {F : Addr → Prop} {H : Hp} (k : Key) : Rep K F H (dkey k) (kV k) := by
  cases k with
  | inl i => exact Rep.int'
  | inr x => exact Rep.str'
theorem it_keys {K : Kc} {F : Addr → Prop} {H : Hp} {a : Addr} {o : Obj} {kvs : List (Key × V)} (h : H a = some (.frz o (.dK kvs))) : ItOk K (Itk a o kvs) (kvs.map fun p => dkey p.1) F H := fun F2 H2 s fk i => by
  have h2 := s.fz a o _ h
  refine ⟨fun d hd => ?_, fun hl => ⟨h2, by simpa using hl⟩⟩
  rw [List.getElem?_map] at hd
  obtain ⟨p, hp, rfl⟩ := Option.map_eq_some_iff.mp hd
  refine ⟨⟨h2, (List.getElem?_eq_some_iff.mp hp).1⟩, fun x H3 y => ?_⟩
  obtain ⟨rfl, k, v, e, rfl⟩ := y
  rw [hp] at e
  cases e
  exact ⟨F2, .refl, rep_dkey k⟩
def gSqB (g : FD) : FL := fun ρ => match g ρ with
  | some (.lst xs, ρ1) => some (xs, ρ1)
  | some (.tup xs, ρ1) => some (xs, ρ1)
  | some (.str x, ρ1) => some (x.cps.toList.map fun c => .str ⟨#[c]⟩, ρ1)
  | some (.dic ks _, ρ1) => some (ks, ρ1)
  | _ => none
theorem ci_seqB {X : Cx} {tg e : Expr} {g : FD} (h : PE X e (tD (kc X) g)) : PI X tg e (tI (kc X) (gSqB g)) := by
  refine ⟨fun pins s σ H R I hq => ?_⟩
  obtain ⟨F, B, as, ρ, items, ρ', S, e, k⟩ := hq
  unfold gSqB at e
  split at e
  · rename_i xs ρ1 q
    cases e
    exact (ci_seq h).run pins s σ H R I ⟨F, B, as, ρ, _, _, S, by unfold gSq; rw [q], k⟩
  · rename_i xs ρ1 q
    cases e
    exact (ci_seq h).run pins s σ H R I ⟨F, B, as, ρ, _, _, S, by unfold gSq; rw [q], k⟩
  · rename_i x ρ1 q
    cases e
    exact (ci_seqA h).run pins s σ H R I ⟨F, B, as, ρ, _, _, S, by unfold gSqA; rw [q], k⟩
  · rename_i ks vs ρ1 q
    cases e
    refine (pi_keys h).run pins s σ H R I ⟨F, B, as, ρ, _, _, S, q, fun v H1 F1 as1 E1 S1 r => ?_⟩
    unfold Rep at r
    obtain ⟨a, o, kvs, rfl, hF, h1, rfl, h2⟩ := r
    exact ⟨a, o, rfl, .inl ⟨kvs, h1, k _ H1 F1 as1 E1 S1 (it_keys h1)⟩⟩
  · cases e
section
variable {ρ ρ1 : Env}
def kSqB : D × Env → Option (List D × Env)
  | (.lst xs, ρ1) => some (xs, ρ1)
  | (.tup xs, ρ1) => some (xs, ρ1)
  | (.str x, ρ1) => some (x.cps.toList.map fun c => .str ⟨#[c]⟩, ρ1)
  | (.dic ks _, ρ1) => some (ks, ρ1)
  | _ => none
@[simp] theorem kSqB_lst {xs} : kSqB (.lst xs, ρ1) = some (xs, ρ1) := rfl
@[simp] theorem kSqB_tup {xs} : kSqB (.tup xs, ρ1) = some (xs, ρ1) := rfl
@[simp] theorem kSqB_str {x : Str} : kSqB (.str x, ρ1) = some (x.cps.toList.map fun c => .str ⟨#[c]⟩, ρ1) := rfl
@[simp] theorem kSqB_dic {ks vs} : kSqB (.dic ks vs, ρ1) = some (ks, ρ1) := rfl
@[simp] theorem at_sqB {g : FD} : gSqB g ρ = (g ρ).bind kSqB := by
  unfold gSqB
  rcases g ρ with _ | ⟨d, _⟩
  · rfl
  · cases d <;> rfl
@[simp] theorem at_dic0 : gDic0 ρ = some (.dic [] [], true, ρ) := rfl
def kDc4 (y : D) (acc : D) (next : Env → D → Option (D × Env)) : D × Env → Option (D × Env) := fun p => (putD acc y p.1).bind (next p.2)
@[simp] theorem kDc4_at {y acc next z} : kDc4 y acc next (z, ρ1) = (putD acc y z).bind (next ρ1) := rfl
def kDc3 (tv : FD) (acc : D) (next : Env → D → Option (D × Env)) : D × Env → Option (D × Env) := fun p => (tv p.2).bind (kDc4 p.1 acc next)
@[simp] theorem kDc3_at {tv : FD} {acc next y} : kDc3 tv acc next (y, ρ1) = (tv ρ1).bind (kDc4 y acc next) := rfl
def kDc2 (tk tv : FD) (acc : D) (next : Env → D → Option (D × Env)) : Bool × Env → Option (D × Env)
  | (true, ρ) => (tk ρ).bind (kDc3 tv acc next)
  | (false, ρ) => next ρ acc
@[simp] theorem kDc2_t {tk tv : FD} {acc next} : kDc2 tk tv acc next (true, ρ1) = (tk ρ1).bind (kDc3 tv acc next) := rfl
@[simp] theorem kDc2_f {tk tv : FD} {acc next} : kDc2 tk tv acc next (false, ρ1) = next ρ1 acc := rfl
def kDc1 (tt : FT) (tk tv : FD) (acc : D) (next : Env → D → Option (D × Env)) : Env → Option (D × Env) := fun ρ => (tt ρ).bind (kDc2 tk tv acc next)
@[simp] theorem kDc1_at {tt : FT} {tk tv : FD} {acc next} : kDc1 tt tk tv acc next ρ = (tt ρ).bind (kDc2 tk tv acc next) := rfl
def nDc (vs : List Nat) (h : FG) (tt : FT) (tk tv : FD) (ds : List D) : Env → D → Option (D × Env) := fun ρ acc => dcompD vs h tt tk tv ds (wipeE ρ vs) acc
@[simp] theorem nDc_at {vs} {h : FG} {tt : FT} {tk tv : FD} {ds acc} : nDc vs h tt tk tv ds ρ acc = dcompD vs h tt tk tv ds (wipeE ρ vs) acc := rfl
@[simp] theorem dcompD_nil {vs} {h : FG} {tt : FT} {tk tv : FD} {acc} : dcompD vs h tt tk tv [] ρ acc = some (acc, ρ) := rfl
theorem dcompD_cons {vs} {h : FG} {tt : FT} {tk tv : FD} {d ds acc} : dcompD vs h tt tk tv (d :: ds) ρ acc = (h d ρ).bind (kDc1 tt tk tv acc (nDc vs h tt tk tv ds)) := by
  rw [dcompD]
  rcases h d ρ with _ | ρ1
  · rfl
  · simp only [Option.bind_some, kDc1_at]
    rcases tt ρ1 with _ | ⟨_ | _, ρ2⟩
    · rfl
    · rfl
    · simp only [Option.bind_some, kDc2_t]
      rcases tk ρ2 with _ | ⟨y, ρ3⟩
      · rfl
      · simp only [Option.bind_some, kDc3_at]
        rcases tv ρ3 with _ | ⟨z, ρ4⟩
        · rfl
        · simp only [Option.bind_some, kDc4_at]
          rcases putD acc y z with _ | acc' <;> rfl
def kDm2 (ρ1 : Env) (vs : List Nat) : D × Env → Option (D × Bool × Env) := fun p => some (p.1, true, backE ρ1 p.2 vs)
@[simp] theorem kDm2_at {vs c} {ρ2 : Env} : kDm2 ρ1 vs (c, ρ2) = some (c, true, backE ρ1 ρ2 vs) := rfl
def kDm1 (vs : List Nat) (h : FG) (tt : FT) (tk tv : FD) : List D × Env → Option (D × Bool × Env) := fun p => if okOwn p.2 vs = true then (dcompD vs h tt tk tv p.1 (wipeE p.2 vs) (.dic [] [])).bind (kDm2 p.2 vs) else none
@[simp] theorem kDm1_at {vs} {h : FG} {tt : FT} {tk tv : FD} {ds} : kDm1 vs h tt tk tv (ds, ρ1) = if okOwn ρ1 vs = true then (dcompD vs h tt tk tv ds (wipeE ρ1 vs) (.dic [] [])).bind (kDm2 ρ1 vs) else none := rfl
@[simp] theorem at_dcomp {vs} {gi : FL} {h : FG} {tt : FT} {tk tv : FD} : gDComp vs gi h tt tk tv ρ = (gi ρ).bind (kDm1 vs h tt tk tv) := by
  unfold gDComp
  rcases gi ρ with _ | ⟨items, ρ1⟩
  · rfl
  · simp only [Option.bind_some, kDm1_at]
    split
    · rcases dcompD vs h tt tk tv items (wipeE ρ1 vs) (.dic [] []) with _ | ⟨ys, ρ2⟩ <;> rfl
    · rfl
def kUp3 (i : Nat) (ρ : Env) (c : D) : Fl × Env := (.nx, ρ.set i (.ow c))
def kUp2 (i : Nat) (k2 v2 : List D) (ρ : Env) : Option Sl → Option (Fl × Env)
  | some (.ow (.dic ks vs)) => if ks.length + k2.length ≤ SZ then (mergeD (.dic ks vs) k2 v2).map (kUp3 i ρ) else none
  | _ => none
@[simp] theorem kUp3_at {i c} : kUp3 i ρ c = (.nx, ρ.set i (.ow c)) := rfl
@[simp] theorem kUp2_at {i k2 v2 ks vs} : kUp2 i k2 v2 ρ (some (.ow (.dic ks vs))) = if ks.length + k2.length ≤ SZ then (mergeD (.dic ks vs) k2 v2).map (kUp3 i ρ) else none := rfl
def kUp1 (i : Nat) : D × Env → Option (Fl × Env)
  | (.dic k2 v2, ρ1) => kUp2 i k2 v2 ρ1 ρ1[i]?
  | _ => none
@[simp] theorem kUp1_at {i k2 v2} : kUp1 i (.dic k2 v2, ρ1) = kUp2 i k2 v2 ρ1 ρ1[i]? := rfl
def kUp0 (i : Nat) (g : FD) (ρ : Env) : Option Sl → Option (Fl × Env)
  | some (.ow (.dic _ _)) => (g ρ).bind (kUp1 i)
  | _ => none
@[simp] theorem kUp0_at {i} {g : FD} {ks vs} : kUp0 i g ρ (some (.ow (.dic ks vs))) = (g ρ).bind (kUp1 i) := rfl
@[simp] theorem at_upd {i} {g : FD} : gUpd i g ρ = kUp0 i g ρ ρ[i]? := by
  unfold gUpd
  rcases ρ[i]? with _ | _ | _ | c | ⟨n, c⟩
  · rfl
  · rfl
  · rfl
  · cases c with
    | dic ks vs =>
      simp only [kUp0_at]
      rcases g ρ with _ | ⟨d, ρ1⟩
      · rfl
      · cases d with
        | dic k2 v2 =>
          simp only [Option.bind_some, kUp1_at]
          rcases ρ1[i]? with _ | _ | _ | c | ⟨n, c⟩
          · rfl
          · rfl
          · rfl
          · cases c <;> rfl
          · rfl
        | _ => rfl
    | _ => rfl
  · rfl
end
end DV

/-! DV30: tables (dicts with texts as keys), comprehensions over what is mapped. -/
namespace DV
open L2 PySem PySem.Spec PyProof.Rows
abbrev Tab := List (Str × D)
def ksT (A : Tab) : List D := A.map fun p => .str p.1
def vsT (A : Tab) : List D := A.map (·.2)
def dicT (A : Tab) : D := .dic (ksT A) (vsT A)
@[simp] theorem eqKey_str {x y : Str} : eqKey (.str x) (.str y) = decide (x = y) := by
  have := eqKey_iff (a := Sum.inr x) (b := Sum.inr y)
  simpa [dkey] using this
@[simp] theorem isKey_str {x : Str} : isKey (.str x) = true := rfl
theorem look_cons {k l : Str} {d : D} {A : Tab} : List.lookup l ((k, d) :: A) = if k = l then some d else List.lookup l A := by
  rw [List.lookup_cons]
  by_cases h : k = l
  · subst h; simp
  · have : (l == k) = false := by simpa using fun e => h e.symm
    simp [this, h]
@[simp] theorem dget_T : ∀ {A : Tab} {l : Str}, dget (ksT A) (vsT A) (.str l) = A.lookup l
  | [], l => rfl
  | (k, d) :: A, l => by
    rw [look_cons, ← dget_T (A := A) (l := l)]
    unfold ksT vsT
    simp only [List.map_cons, dget, eqKey_str, decide_eq_true_eq]
theorem any_T : ∀ {A : Tab} {l : Str}, ((ksT A).any fun k' => eqKey k' (.str l)) = (A.lookup l).isSome
  | [], l => rfl
  | (k, d) :: A, l => by
    have ih := any_T (A := A) (l := l)
    unfold ksT at ih ⊢
    rw [look_cons]
    simp only [List.map_cons, List.any_cons, eqKey_str, ih]
    by_cases h : k = l <;> simp [h]
theorem put_new {A : Tab} {l : Str} {d : D} (h : A.lookup l = none) (hz : A.length < SZ) : putD (dicT A) (.str l) d = some (dicT (A ++ [(l, d)])) := by
  unfold dicT putD
  simp only
  rw [if_pos ⟨rfl, by unfold ksT; simpa using hz⟩, any_T, h]
  simp [ksT, vsT]
def updT (A : Tab) (l : Str) (d : D) : Tab := A.map fun p => if p.1 = l then (p.1, d) else p
theorem put_old {A : Tab} {l : Str} {d : D} (h : (A.lookup l).isSome = true) (hz : A.length < SZ) : putD (dicT A) (.str l) d = some (dicT (updT A l d)) := by
  unfold dicT putD
  simp only
  rw [if_pos ⟨rfl, by unfold ksT; simpa using hz⟩, any_T, h]
  simp only [if_true, Option.some.injEq, D.dic.injEq]
  have e1 : ∀ A : Tab, ksT A = ksT (updT A l d) := fun A => by
    unfold ksT updT
    rw [List.map_map]
    refine List.map_congr_left fun p _ => ?_
    simp only [Function.comp]
    split <;> rfl
  refine ⟨e1 A, ?_⟩
  clear h hz e1
  induction A with
  | nil => rfl
  | cons p A ih =>
    unfold dputV ksT vsT updT at ih ⊢
    simp only [List.map_cons, List.zipWith_cons_cons, eqKey_str, decide_eq_true_eq, ih]
    by_cases h : p.1 = l <;> simp [h]
theorem lookup_none {A : Tab} {l : Str} (h : ∀ p ∈ A, p.1 ≠ l) : A.lookup l = none := by
  induction A with
  | nil => rfl
  | cons p A ih =>
    obtain ⟨k, d⟩ := p
    rw [look_cons, if_neg (h (k, d) List.mem_cons_self)]
    exact ih fun q m => h q (List.mem_cons_of_mem _ m)
section
variable {α : Type} {ρ : Env} {vs : List Nat} {h : FG} {tt : FT} {te tk tv : FD}
theorem comp_map {it f : α → D} : ∀ {L : List α}, (∀ p ∈ L, ∀ ds, compD vs h tt te (it p :: ds) ρ = (compD vs h tt te ds ρ).map (kY (f p))) → compD vs h tt te (L.map it) ρ = some (L.map f, ρ)
  | [], _ => rfl
  | p :: L, st => by
    rw [List.map_cons, st p List.mem_cons_self, comp_map fun q m => st q (List.mem_cons_of_mem _ m)]
    rfl
/-- with a test: what is kept -/
theorem comp_keep {it : α → D} {f : α → Option D} : ∀ {L : List α}, (∀ p ∈ L, ∀ ds, compD vs h tt te (it p :: ds) ρ = match f p with | some y => (compD vs h tt te ds ρ).map (kY y) | none => compD vs h tt te ds ρ) → compD vs h tt te (L.map it) ρ = some (L.filterMap f, ρ)
  | [], _ => rfl
  | p :: L, st => by
    have ih := comp_keep (L := L) fun q m => st q (List.mem_cons_of_mem _ m)
    rw [List.map_cons, st p List.mem_cons_self, ih, List.filterMap_cons]
    cases f p <;> rfl
theorem dcomp_map {it f : α → D} {key : α → Str} : ∀ {L : List α} {A : Tab}, (∀ p ∈ L, ∃ ρp, wipeE ρp vs = ρ ∧ ∀ ds acc, dcompD vs h tt tk tv (it p :: ds) ρ acc = (putD acc (.str (key p)) (f p)).bind (nDc vs h tt tk tv ds ρp)) →
    (L.map key).Nodup → (∀ p ∈ A, ∀ q ∈ L, p.1 ≠ key q) → A.length + L.length < SZ → dcompD vs h tt tk tv (L.map it) ρ (dicT A) = some (dicT (A ++ L.map fun p => (key p, f p)), ρ)
  | [], A, _, _, _, _ => by simp
  | p :: L, A, st, hn, ha, hz => by
    obtain ⟨ρp, e1, e2⟩ := st p List.mem_cons_self
    rw [List.length_cons] at hz
    rw [List.map_cons] at hn
    have hn := List.nodup_cons.mp hn
    rw [List.map_cons, e2, put_new (lookup_none fun q m => ha q m p List.mem_cons_self) (by omega)]
    simp only [Option.bind_some, nDc_at, e1]
    rw [dcomp_map (A := A ++ [(key p, f p)]) (fun q m => st q (List.mem_cons_of_mem _ m)) hn.2 (fun q m r mr => ?_) (by rw [List.length_append, List.length_singleton]; omega)]
    · simp
    · rcases List.mem_append.mp m with m | m
      · exact ha q m r (List.mem_cons_of_mem _ mr)
      · simp only [List.mem_singleton] at m
        subst m
        exact fun e => hn.1 (by rw [show (key p, f p).1 = key p from rfl] at e; rw [e]; exact List.mem_map_of_mem mr)
end
/-- the pairs of a table, written as tuples -/
def itsT (A : Tab) : List D := A.map fun p => .tup [.str p.1, p.2]
theorem unPair_T : ∀ A : Tab, unPair (itsT A) = some (ksT A, vsT A)
  | [] => rfl
  | p :: A => by
    unfold itsT
    rw [List.map_cons, unPair]
    show (match unPair (itsT A) with | some (ks, vs) => some (D.str p.1 :: ks, p.2 :: vs) | none => none) = _
    rw [unPair_T A]; rfl
theorem keys_T (A : Tab) : (ksT A).all isKey = true := by
  unfold ksT
  rw [List.all_map, List.all_eq_true]
  intro p _; rfl
theorem merge_new : ∀ {B A : Tab}, (B.map (·.1)).Nodup → (∀ p ∈ A, ∀ q ∈ B, p.1 ≠ q.1) → A.length + B.length < SZ → mergeD (dicT A) (ksT B) (vsT B) = some (dicT (A ++ B))
  | [], A, _, _, _ => by simp [ksT, vsT, dicT, mergeD]
  | q :: B, A, hn, ha, hz => by
    rw [List.length_cons] at hz
    have hn := List.nodup_cons.mp hn
    show mergeD (dicT A) (.str q.1 :: ksT B) (q.2 :: vsT B) = _
    unfold mergeD
    rw [put_new (lookup_none fun p m => ha p m q List.mem_cons_self) (by omega)]
    simp only
    rw [merge_new hn.2 (fun p m r mr => ?_) (by rw [List.length_append, List.length_singleton]; omega)]
    · simp
    · rcases List.mem_append.mp m with m | m
      · exact ha p m r (List.mem_cons_of_mem _ mr)
      · simp only [List.mem_singleton] at m
        subst m
        exact fun e => hn.1 (List.mem_map.mpr ⟨r, mr, (show q.1 = r.1 from e).symm⟩)
theorem dict_T {A : Tab} (hn : (A.map (·.1)).Nodup) (hz : A.length < SZ) : dictD (.tup (itsT A)) = some (dicT A) := by
  show (match unPair (itsT A) with | some (ks, vs) => if ks.all isKey = true then mergeD (.dic [] []) ks vs else none | none => none) = _
  rw [unPair_T]
  simp only [keys_T, if_true]
  have := merge_new (A := []) hn (fun p m => by cases m) (by simpa using hz)
  simpa [dicT, ksT, vsT] using this
theorem merge_old : ∀ {B A : Tab}, (∀ q ∈ B, (A.lookup q.1).isSome = true) → A.length < SZ → mergeD (dicT A) (ksT B) (vsT B) = some (dicT (B.foldl (fun A q => updT A q.1 q.2) A))
  | [], A, _, _ => by simp [ksT, vsT, dicT, mergeD]
  | q :: B, A, ha, hz => by
    show mergeD (dicT A) (.str q.1 :: ksT B) (q.2 :: vsT B) = _
    unfold mergeD
    rw [put_old (ha q List.mem_cons_self) hz]
    simp only [List.foldl_cons]
    refine merge_old (fun r m => ?_) (by unfold updT; simpa using hz)
    have := ha r (List.mem_cons_of_mem _ m)
    have e : ∀ A : Tab, ((updT A q.1 q.2).lookup r.1).isSome = (A.lookup r.1).isSome := fun A => by
      induction A with
      | nil => rfl
      | cons p A ih =>
        obtain ⟨k, d⟩ := p
        unfold updT at ih ⊢
        rw [List.map_cons]
        simp only
        split
        · rw [look_cons, look_cons]; split <;> simp [ih]
        · rw [look_cons, look_cons]; split <;> simp [ih]
    rw [e]; exact this
theorem strs_T : ∀ A : Tab, strsOf (ksT A) = some (A.map (·.1))
  | [] => rfl
  | p :: A => by
    have ih := strs_T A
    unfold ksT at ih ⊢
    rw [List.map_cons, strsOf, ih]; rfl
theorem srtS_id {xs : List Str} (h : xs.Pairwise fun a b => leS a b = true) : srtS xs = xs := List.mergeSort_of_pairwise h
theorem sort_T {A : Tab} (h : (A.map (·.1)).Pairwise fun a b => leS a b = true) (hz : A.length < 64) : sortD (dicT A) = some (.lst ((A.map (·.1)).map .str)) := by
  unfold sortD dicT
  simp only [strs_T, List.length_map, hz, if_true, srtS_id h]
end DV

/-! DV31: sets of texts: set(list of texts), sorted(set). As the hand layer's sets of whole numbers, with texts for them (printed by wip/tools/mk31.py). -/
namespace L2
open PySem PySem.Spec PyProof.Rows
def keyS (e : Int × Value) : Str := match e.2 with | .str k _ => k | _ => Str.empty
def GoodS (w : World) (e : Int × Value) : Prop := ∃ k tk, e.2 = Value.str k tk ∧ e.1 = hashStr w k
/-- the set of texts at a: S its members, n their number -/
def SetS (w : World) (h : Heap) (a : Addr) (S : Str → Bool) (n : Nat) : Prop :=
  ∃ o es ep t, h.get? a = some o ∧ o.ExactSet ∧ o.data = .set es ep t ∧ (∀ e ∈ es.toList, GoodS w e) ∧ (es.toList.map keyS).Nodup ∧ (∀ k, S k = true ↔ k ∈ es.toList.map keyS) ∧
    es.size < scanBound ∧ t.fits es.size = true ∧ es.size = n ∧ Ris t.place.toList ∧ (w.params.followText "set-order" = true ∨ t.led = true)
section
variable {P : Program} {w : World} {A : Around} {E : Value → Shared → Prop} {s : Shared} {h h' : Heap} {a : Addr} {S : Str → Bool} {n : Nat}

theorem SetS.at (R : SetS w h a S n) (k : ∀ o, h.get? a = some o → h'.get? a = some o) : SetS w h' a S n := by
  obtain ⟨o, es, ep, t, ho, r⟩ := R
  exact ⟨o, es, ep, t, k o ho, r⟩
theorem SetS.lt (R : SetS w h a S n) : a < h.objs.size := by
  obtain ⟨o, es, ep, t, ho, r⟩ := R
  exact Heap.lt_size ho
theorem SetS.congr {S' : Str → Bool} (R : SetS w h a S n) (e : ∀ k, S' k = S k) : SetS w h a S' n := by
  have q : S' = S := funext e
  rw [q]; exact R
theorem goodS_elems {l : List (Int × Value)} (g : ∀ e ∈ l, GoodS w e) : ElemsOf (strKind P w) l := fun e he => by
  obtain ⟨k, tk, h1, h2⟩ := g e he
  exact ⟨⟨k, by rw [h1]; exact strKind_is P w k tk, h2⟩, by rw [h1] <;> rfl⟩
theorem goodS_is {e : Int × Value} (g : GoodS w e) (k : Str) : (strKind P w).is k e.2 = true ↔ keyS e = k := by
  obtain ⟨k0, tk, h1, _⟩ := g
  unfold keyS
  rw [h1]
  show ((k0 == k) = true) ↔ k0 = k
  exact beq_iff_eq
theorem goodS_mem {l : List (Int × Value)} (g : ∀ e ∈ l, GoodS w e) (k : Str) : k ∈ l.map keyS ↔ ∃ e ∈ l, (strKind P w).is k e.2 = true := by
  rw [List.mem_map]
  constructor
  · rintro ⟨e, he, q⟩
    exact ⟨e, he, (goodS_is (g e he) k).2 q⟩
  · rintro ⟨e, he, q⟩
    exact ⟨e, he, (goodS_is (g e he) k).1 q⟩
theorem SetS.setOf (R : SetS w h a S n) : h.SetOf (strKind P w) a S n := by
  obtain ⟨o, es, ep, t, ho, hx, hd, g, nd, hm, hb, hf, hn, _⟩ := R
  exact ⟨o, es, ep, t, ho, hx, hd, goodS_elems g, fun k => (hm k).trans (goodS_mem g k), hb, hf, hn⟩


/-! ### add -/
theorem setS_add_tail {g : Bool → Sem Unit} (hg : ∀ (b : Bool) (s₁ : Shared) (Q' : Unit → Shared → Prop), Q' () s₁ → wpAny (model P w) A (g b) Q' E s₁)
    {o : Obj} {es : Array (Int × Value)} {ep : Nat} {t : SetTable} (ho : s.heap.get? a = some o) (hex : o.ExactSet) (hd : o.data = .set es ep t)
    {es1 : Array (Int × Value)} {t2 : SetTable} {S' : Str → Bool} (g1 : ∀ e ∈ es1.toList, GoodS w e) (nd1 : (es1.toList.map keyS).Nodup) (m1 : ∀ k, S' k = true ↔ k ∈ es1.toList.map keyS)
    (hb1 : es1.size < scanBound) (hf2 : t2.fits es1.size = true) (hr : Ris t2.place.toList) (hl : w.params.followText "set-order" = true ∨ t2.led = true) {wasDummy : Bool} {R : Option Bool → Shared → Prop}
    (hR : ∀ h', Heap.SameBut a s.heap h' → SetS w h' a S' es1.size → R (some true) { s with heap := h' }) :
    wpAny (model P w) A (do
        storeSet a es1 t2
        if (!wasDummy && t2.tooFull) = true then do
            g (relayAll t2 es1 (SetTable.grown es1.size)).2.2
            storeSet a (relayAll t2 es1 (SetTable.grown es1.size)).1 (relayAll t2 es1 (SetTable.grown es1.size)).2.1
            pure (some true)
          else pure (some true)) R E s := by
  refine wpAny_bind (wpAny_storeSet_of ho hd ?_ (fits_of_scanBound hb1))
  have ho1 := store_at (es' := es1) (t' := t2) ho hd
  have sb1 := Heap.SameBut.update s.heap a (Obj.putSet es1 t2)
  split
  · have pm := relayAll_perm t2 es1 (SetTable.grown es1.size)
    have hf3 := relayAll_fits t2 es1 (SetTable.grown es1.size)
    have hr3 := relayAll_ris t2 es1 (SetTable.grown es1.size)
    have hl3 := relayAll_led t2 es1 (SetTable.grown es1.size)
    generalize relayAll t2 es1 (SetTable.grown es1.size) = Z at pm hf3 hr3 hl3 ⊢
    obtain ⟨es2, t3, gave⟩ := Z
    dsimp only at pm hf3 hr3 hl3 ⊢
    have hsz : es2.size = es1.size := by rw [← Array.length_toList, pm.length_eq, Array.length_toList]
    have hb2 : es2.size < scanBound := by rw [hsz]; exact hb1
    refine wpAny_bind (hg _ _ _ ?_)
    refine wpAny_bind (wpAny_storeSet_of ho1 rfl ?_ (fits_of_scanBound hb2))
    have ho2 := store_at (es' := es2) (t' := t3) ho1 rfl
    refine wpAny_pure (hR _ (sb1.trans (Heap.SameBut.update _ a _)) ?_)
    exact ⟨_, es2, _, t3, ho2, hex, rfl, fun e he => g1 e (pm.mem_iff.mp he), (pm.map keyS).nodup_iff.mpr nd1, fun k => (m1 k).trans (pm.map keyS).mem_iff.symm, hb2, hf3, hsz, hr3,
      hl.imp id fun z => by rw [hl3]; exact z⟩
  · exact wpAny_pure (hR _ sb1 ⟨_, es1, _, t2, ho1, hex, rfl, g1, nd1, m1, hb1, hf2, rfl, hr, hl⟩)

theorem setS_add_hashed {k : Str} {tk : Tok} {Q : Bool → Shared → Prop} (R : SetS w s.heap a S n) (room : n + 1 < scanBound)
    (hQ : ∀ h', Heap.SameBut a s.heap h' → SetS w h' a (fun j => S j || decide (j = k)) (if S k = true then n else n + 1) → Q (!S k) { s with heap := h' }) :
    wpAny (model P w) A (setAddHashed a (.str k tk) ((strKind P w).hash k)) Q E s := by
  obtain ⟨o, es, ep, t, ho, hex, hd, g, nd, hm, hb, hf, hn, hr, hl⟩ := R
  have hkey : (strKind P w).is k (.str k tk) = true := strKind_is P w k tk
  have hsc : (Value.str k tk).scannable = true := rfl
  have hel : ElemsOf (strKind P w) es.toList := goodS_elems g
  unfold setAddHashed setAddHashedIn
  refine wpAny_holding (wpAny_bind (wpAny_setState_of ho hd hf ?_))
  dsimp only
  rw [byScan_of hsc hb hel]
  simp only [↓reduceIte]
  unfold setAddByScan
  refine wpAny_bind ?_
  refine wpAny_bind (wpAny_rule ?_)
  refine wpAny_bind (wpAny_setScan_of hkey ho hd hf hel ?_)
  cases hfi : List.findIdx? (fun e => (strKind P w).is k e.2) es.toList with
  | some j =>
    dsimp only
    obtain ⟨hj, pj, _⟩ := List.findIdx?_eq_some_iff_getElem.mp hfi
    have hSk : S k = true := (hm k).2 ((goodS_mem (P := P) (w := w) g k).2 ⟨es.toList[j], List.getElem_mem hj, pj⟩)
    refine wpAny_pure (wpAny_pure ?_)
    have q := hQ s.heap (Heap.SameBut.refl a s.heap) ⟨o, es, ep, t, ho, hex, hd, g, nd, fun i => by
      rw [Bool.or_eq_true, decide_eq_true_eq, ← hm i]
      exact ⟨fun z => z.elim id (fun e => e ▸ hSk), .inl⟩, hb, hf, by rw [if_pos hSk]; exact hn, hr, hl⟩
    rw [hSk] at q
    exact q
  | none =>
    dsimp only
    have hnk : k ∉ es.toList.map keyS := fun z => by
      obtain ⟨e, he, q⟩ := (goodS_mem (P := P) (w := w) g k).1 z
      have c := List.findIdx?_eq_none_iff.mp hfi e he
      rw [q] at c
      cases c
    have hSk : S k = false := by
      cases q : S k with
      | false => rfl
      | true => exact absurd ((hm k).1 q) hnk
    have hgw : ∀ (b : Bool) {s₁ : Shared} {Q' : Unit → Shared → Prop}, Q' () s₁ → wpAny (model P w) A (match b with | true => rule "set.scan.the-table-gave-way" | false => pure ()) Q' E s₁ :=
      fun b s₁ Q' q => by cases b <;> first | exact wpAny_pure q | exact wpAny_rule q
    have pm := layNew_perm t es ((strKind P w).hash k) (.str k tk)
    have hf1 := layNew_fits t es ((strKind P w).hash k) (.str k tk)
    have hr1 := layNew_ris t es ((strKind P w).hash k) (.str k tk) hr
    have hl1 := layNew_led t es ((strKind P w).hash k) (.str k tk)
    generalize layNew t es ((strKind P w).hash k) (.str k tk) = Z at pm hf1 hr1 hl1 ⊢
    obtain ⟨es1, t1, wasDummy, gave⟩ := Z
    dsimp only at pm hf1 hr1 hl1 ⊢
    rw [Array.toList_push] at pm
    have pc : es1.toList.Perm (((strKind P w).hash k, Value.str k tk) :: es.toList) := pm.trans (List.perm_append_singleton _ _)
    have pk : (es1.toList.map keyS).Perm (k :: es.toList.map keyS) := pc.map keyS
    have g1 : ∀ e ∈ es1.toList, GoodS w e := fun e he => by
      rcases List.mem_cons.mp (pc.mem_iff.mp he) with z | z
      · rw [z]; exact ⟨k, tk, rfl, rfl⟩
      · exact g e z
    have nd1 : (es1.toList.map keyS).Nodup := pk.nodup_iff.mpr (List.nodup_cons.mpr ⟨hnk, nd⟩)
    have m1 : ∀ i, (S i || decide (i = k)) = true ↔ i ∈ es1.toList.map keyS := fun i => by
      rw [Bool.or_eq_true, decide_eq_true_eq, hm i, pk.mem_iff, List.mem_cons]
      exact Or.comm
    have hsz : es1.size = n + 1 := by rw [← Array.length_toList, pc.length_eq, List.length_cons, Array.length_toList, hn]
    have hb1 : es1.size < scanBound := by rw [hsz]; exact room
    have hled : w.params.followText "set-order" = true ∨ t1.led = true := hl.imp id fun z => by rw [hl1]; exact z
    have fin : ∀ h', Heap.SameBut a s.heap h' → SetS w h' a (fun j => S j || decide (j = k)) es1.size → Q true { s with heap := h' } := fun h' sb r => by
      have q := hQ h' sb
      rw [hSk] at q
      rw [hsz] at r
      exact q r
    refine wpAny_bind (hgw _ ?_)
    split
    · refine wpAny_bind ?_
      rw [hashByValue_scannable 8 hsc]
      refine wpAny_pure ?_
      refine setS_add_tail ?_ ho hex hd g1 nd1 m1 hb1 ?_ ?_ ?_ ?_
      · intro b s₁ Q' q; cases b <;> first | exact wpAny_pure q | exact wpAny_rule q
      · first | (split <;> first | exact hf1 | exact SetTable.fits_plain_off hf1) | exact hf1
      · first | (split <;> exact hr1) | exact hr1
      · first | (split <;> exact hled) | exact hled
      · intro h' sb r; dsimp only; exact wpAny_pure (fin h' sb r)
    · refine wpAny_bind (wpAny_pure ?_)
      simp only [↓reduceIte]
      refine setS_add_tail ?_ ho hex hd g1 nd1 m1 hb1 hf1 hr1 hled ?_
      · intro b s₁ Q' q; cases b <;> first | exact wpAny_pure q | exact wpAny_rule q
      · intro h' sb r; dsimp only; exact wpAny_pure (fin h' sb r)


theorem setS_new_at {w : World} {h : Heap} {a : Addr} {ns : List Str} (ho : h.get? a = some { cls := .type "set", dict := none, data := .set #[] 0 (.fresh 0 0 (!w.params.followText "set-order")) }) : SetS w h a (fun j => decide (j ∈ ns.take 0)) 0 :=
  ⟨_, #[], 0, _, ho, ⟨rfl, rfl, rfl⟩, rfl, (fun e he => by simp at he), (by simp), (fun k => by simp), (by decide), (by rfl), rfl, List.Pairwise.nil, by
    show _ ∨ (!w.params.followText "set-order") = true
    cases w.params.followText "set-order"
    · exact .inr rfl
    · exact .inl rfl⟩
theorem set_update_strs {I : Addr} {fp wr : List Addr} {G : Array GenState → Array GenState → Prop} {n : Nat} {Pv : Nat → Value → Prop} {St : Nat → Shared → Prop} {R : Result → Shared → Prop}
    (W : WalksS P w A.in1 I fp wr G n Pv St) (S : Addr) (hSf : S ∉ fp) (ns : List Str) (hn : n = ns.length) (hb : ns.length + 1 < scanBound) (hval : ∀ i v, Pv i v → ∃ k t, ns[i]? = some k ∧ v = .str k t) :
    ∀ (k i : Nat) (s : Shared), n - i = k → i ≤ n → St i s → (∃ c, c ≤ i ∧ SetS w s.heap S (fun j => decide (j ∈ ns.take i)) c) →
      (∀ s' c, Moved (S :: wr) G s s' → c ≤ n → SetS w s'.heap S (fun j => decide (j ∈ ns)) c → R (.ok (.ret .none)) s') →
      codeAny (model P w) A (.builtin "set.update.loop" ⟨[.ref S, .ref I], []⟩) R s := by
  have hSw : S ∉ wr := fun h => hSf (W.sub _ h)
  have hsub : ∀ b ∈ wr, b ∈ S :: wr := fun b hb => List.mem_cons_of_mem _ hb
  intro k
  induction k with
  | zero =>
    intro i s hk' hi hst ⟨c, hc, hS⟩ hR
    have hin : i = n := by omega
    subst hin
    refine codeAny_builtin F.entry_set_update_loop ?_
    rw [Around.under_plainId F.plain_set_update_loop _]
    show wpAny _ A.in1 (pyNext (.ref I) >>= _) _ _ s
    refine wpAny_bind (W.done s _ _ hst fun s' hm => ?_)
    show wpAny _ A.in1 (ret Value.none) _ _ s'
    have e : ns.take i = ns := List.take_of_length_le (by omega)
    rw [e] at hS
    exact wpAny_pure (hR s' c (hm.mono hsub) hc (hS.at fun o e => hm.heap S o hSw e))
  | succ k ih =>
    intro i s hk' hi hst ⟨c, hc, hS⟩ hR
    have hlt : i < n := by omega
    refine codeAny_builtin F.entry_set_update_loop ?_
    rw [Around.under_plainId F.plain_set_update_loop _]
    show wpAny _ A.in1 (pyNext (.ref I) >>= _) _ _ s
    refine wpAny_bind (W.item i s _ _ hlt hst fun v s' hP hst' hm => ?_)
    obtain ⟨z, t, hz, rfl⟩ := hval i v hP
    have hS' : SetS w s'.heap S (fun j => decide (j ∈ ns.take i)) c := hS.at fun o e => hm.heap S o hSw e
    show wpAny _ A.in1 (holding [Value.str z t] (setAdd S (.str z t)) >>= _) _ _ s'
    refine wpAny_bind (wpAny_holding ?_)
    unfold setAdd
    refine wpAny_holding ?_
    refine wpAny_bind ((strKind P w).pyHash (k := z) (strKind_is _ _ _ _) ?_)
    refine setS_add_hashed (s := { s' with toks := s'.toks + 1 }) hS' (by omega) fun h' hsb hS2 => ?_
    have hS3 : SetS w h' S (fun j => decide (j ∈ ns.take (i + 1))) (if decide (z ∈ ns.take i) = true then c else c + 1) := hS2.congr fun j => by
      rw [List.take_add_one, hz]
      simp [List.mem_append]
    have hc3 : (if decide (z ∈ ns.take i) = true then c else c + 1) ≤ i + 1 := by
      split <;> omega
    refine wpAny_pure ⟨plainId_quiet F.plain_set_update_loop _, ih (i + 1) _ (by omega) hlt (W.frame _ s' _ _ hst' (Nat.le_succ _) fun b hb o e => ?_) ⟨_, hc3, hS3⟩ fun s'' c2 hm'' hc'' hS'' => ?_⟩
    · rw [hsb.2 b (fun h : b = S => hSf (by rw [← h]; exact hb))]; exact e
    · refine hR s'' c2 (Moved.trans W.gtrans ((hm.mono hsub).then_heap (Nat.le_succ _) fun b o hb e => ?_) hm'') hc'' hS''
      rw [hsb.2 b (fun h : b = S => hb (by rw [h]; exact List.mem_cons_self))]; exact e


set_option maxRecDepth 100000 in
set_option maxHeartbeats 3200000 in
theorem call_set_lstS {l : Addr} {items : Array Value} (ns : List Str) {Q : Value → Shared → Prop} (hh : A.handled = none) (hl : s.heap.IsList l items) (hit : StrsAre items.toList ns) (hb : ns.length + 1 < scanBound)
    (h : ∀ (h' : Heap) (tk c : Nat), SetS w h' s.heap.objs.size (fun j => decide (j ∈ ns)) c → c ≤ ns.length → (∀ b o, s.heap.get? b = some o → h'.get? b = some o) → Q (.ref s.heap.objs.size) { s with heap := h', toks := tk }) :
    wpAny (model P w) A (call (.type "set") [.ref l]) Q E s := by
  have hisz : items.size = ns.length := by
    have q := PyProof.Rows.StrsAre.len_eq hit
    rw [Array.length_toList] at q
    exact q
  obtain ⟨c, tl, hmro⟩ := F.called_set.mro
  have hmade := F.called_set.made
  have hsub := F.called_set.sub
  refine wpAny_call (codeAny_of_tree ?_)
  show wpAny _ _ (callAny (.type "set") _) _ _ _
  refine wpAny_pure ⟨Code.quiet_builtin _ (by decide +kernel), codeAny_builtin F.entry_type_call ?_⟩
  rw [Around.under_plain (weight_type_call_type "set" [.ref l] []) rfl]
  have h1 := F.called_set.notType
  have h2 := F.called_set.canCreate
  have hct := F.typeCall_set_1 (.ref l)
  repeat (any_goals (first | assumption | wp_step))

  refine codeAny_mono (code_set_led1 (.ref l) (E := E) (Q₁ := fun obj s₁ => obj = .ref s.heap.objs.size ∧ s₁ = { s with heap := s.heap.push { cls := .type "set", dict := none, data := .set #[] 0 (.fresh 0 0 (!w.params.followText "set-order")) } }) ⟨rfl, rfl⟩) fun r s₁ hr => ?_
  cases r with
  | error e => exact hr
  | ok fl =>
    cases fl with
    | ret obj =>
      obtain ⟨rfl, rfl⟩ := hr
      have hS : (s.heap.push { cls := .type "set", dict := none, data := .set #[] 0 (.fresh 0 0 (!w.params.followText "set-order")) }).get? s.heap.objs.size = some { cls := .type "set", dict := none, data := .set #[] 0 (.fresh 0 0 (!w.params.followText "set-order")) } := Heap.get?_push_size _ rfl
      have hT : Shared.TypeIs { s with heap := s.heap.push { cls := .type "set", dict := none, data := .set #[] 0 (.fresh 0 0 (!w.params.followText "set-order")) } } (.ref s.heap.objs.size) "set" := ⟨_, hS, rfl⟩
      have hli := F.called_set.init.lookup
      have hbi := F.called_set.init.bind (.ref s.heap.objs.size)
      repeat (any_goals (first | assumption | wp_step))

      refine codeAny_mono (codeAny_call_builtin (R := wants (fun r s₂ => r = .none ∧ ∃ h' tk c, s₂ = { s with heap := h', toks := tk } ∧ SetS w h' s.heap.objs.size (fun j => decide (j ∈ ns)) c ∧ c ≤ ns.length ∧
          (∀ b o, s.heap.get? b = some o → h'.get? b = some o)) E) F.called_set.init.plain F.entry_set_init (check_set_init_1 hT ?_)) fun r₂ s₂ hr₂ => ?_
      · obtain ⟨ol, hol, hcl, nl, hdl⟩ := hl
        obtain ⟨ocls, odict, odata, oslots⟩ := ol
        simp only at hcl hdl
        subst hcl; subst hdl
        have hol' : (s.heap.push { cls := .type "set", dict := none, data := .set #[] 0 (.fresh 0 0 (!w.params.followText "set-order")) }).get? l = some { cls := .type "list", dict := odict, data := .seq items nl, slots := oslots } := Heap.get?_push_of_some _ hol
        have hsls := F.sub_list_set
        have hslf := F.sub_list_frozenset
        have hne : (Value.type "list" == Value.type "dict") = false := by decide
        have hl1 : (s.heap.push { cls := .type "set", dict := none, data := .set #[] 0 (.fresh 0 0 (!w.params.followText "set-order")) }).IsList l items := ⟨_, hol', rfl, nl, rfl⟩
        unfold Builtin.«set.__init__» noKeywords Builtin.Frozenset.updateFrom
        generalize hPI : pyIter = PI
        wp_walk
        subst hPI

        refine wpAny_pyIter_list hl1 ?_
        refine wpAny_bind (wpAny_runValue ?_)
        have hlS : l < s.heap.objs.size := Heap.lt_size hol
        have hh3 : A.in1.in1.in1.handled = none := by simp [hh]
        have hz1 : (s.heap.push { cls := .type "set", dict := none, data := .set #[] 0 (.fresh 0 0 (!w.params.followText "set-order")) }).objs.size = s.heap.objs.size + 1 := Heap.size_push ..
        have hneI : l ≠ (s.heap.push { cls := .type "set", dict := none, data := .set #[] 0 (.fresh 0 0 (!w.params.followText "set-order")) }).objs.size := by
          rw [Heap.size_push]; exact Nat.ne_of_lt (Nat.lt_succ_of_lt hlS)
        have hSf : s.heap.objs.size ∉ [(s.heap.push { cls := .type "set", dict := none, data := .set #[] 0 (.fresh 0 0 (!w.params.followText "set-order")) }).objs.size, l] := by
          rw [Heap.size_push]; simp only [List.mem_cons, List.mem_singleton, List.not_mem_nil, or_false, not_or]
          exact ⟨Nat.ne_of_lt (Nat.lt_succ_self _), Nat.ne_of_gt hlS⟩
        have hval : ∀ (i : Nat) (v : Value), items[i]? = some v → ∃ k t, ns[i]? = some k ∧ v = .str k t := fun i v hv => by
          have hi : i < ns.length := by rw [← hisz]; exact (Array.getElem?_eq_some_iff.mp hv).1
          obtain ⟨t, e⟩ := SS.strs_at hit i v (by rw [Array.getElem?_toList]; exact hv)
          refine ⟨ns[i], t, List.getElem?_eq_getElem hi, ?_⟩
          rw [e, List.getD_eq_getElem?_getD, List.getElem?_eq_getElem hi] <;> rfl
        refine set_update_strs ((Walks.list hh3 _ l hneI items).toS) s.heap.objs.size
          hSf ns hisz hb hval (items.size - 0) 0 _ (by omega) (Nat.zero_le _)
          ⟨⟨_, Heap.get?_push_size _ rfl, rfl, rfl⟩, (hl1.push _)⟩ ?hS0 ?hR
        case hS0 =>
          have hget : ((s.heap.push { cls := .type "set", dict := none, data := .set #[] 0 (.fresh 0 0 (!w.params.followText "set-order")) }).push { cls := .type "list_iterator", data := .fields #[.ref l, .int 0 0] }).get? s.heap.objs.size
              = some { cls := .type "set", dict := none, data := .set #[] 0 (.fresh 0 0 (!w.params.followText "set-order")) } := Heap.get?_push_of_some _ hS
          exact ⟨0, Nat.le_refl 0, setS_new_at hget⟩
        case hR =>
          intro s' c' hm hc' hS'
          obtain ⟨h', g2, d', tk', os'⟩ := s'
          have eg : g2 = s.gens := hm.gens
          have ed : d' = s.drawn := hm.drawn
          have eo : os' = s.os := hm.os
          subst eg; subst ed; subst eo
          show wpAny _ _ _ _ _ _
          refine wpAny_pure ?_
          show wpAny _ _ (ret Value.none) _ _ _
          rw [hisz] at hc'
          refine wpAny_pure ⟨rfl, h', tk', c', rfl, hS', hc', fun b o e => ?_⟩
          have hb0 : b < s.heap.objs.size := Heap.lt_size e
          have hb1 : b ≠ s.heap.objs.size := Nat.ne_of_lt hb0
          have hb2 : b ≠ (s.heap.push { cls := .type "set", dict := none, data := .set #[] 0 (.fresh 0 0 (!w.params.followText "set-order")) }).objs.size := by
            rw [Heap.size_push]; exact Nat.ne_of_lt (Nat.lt_succ_of_lt hb0)
          exact hm.heap b o (by simp only [List.mem_cons, List.mem_singleton, List.not_mem_nil, or_false, not_or]; exact ⟨hb1, hb2⟩) (Heap.get?_push_of_some _ (Heap.get?_push_of_some _ e))

      · cases r₂ with
        | error e => exact hr₂
        | ok fl₂ =>
          cases fl₂ with
          | ret r =>
            obtain ⟨rfl, h', tk, c', rfl, hS', hc', hk'⟩ := hr₂
            repeat (any_goals (first | assumption | wp_step))
            exact h _ _ _ hS' hc' hk'
          | _ => exact hr₂.elim
    | _ => exact hr.elim



theorem sorted_setS {Q : Value → Shared → Prop} (R : SetS w s.heap a S n) (hh : A.handled = none) (h64 : n < 64)
    (hQ : ∀ s' p (out : Array Value) (c : Nat) (ns : List Str), (∀ b o, s.heap.get? b = some o → s'.heap.get? b = some o) → s'.gens = s.gens → s'.os = s.os → s.heap.objs.size ≤ p →
      s'.heap.get? p = some (seqObj "list" out c) → StrsAre out.toList ns → sortedS ns = true → ns.Nodup → (∀ k, k ∈ ns ↔ S k = true) → ns.length = n → Q (.ref p) s') :
    wpAny (model P w) A (call (.builtin "sorted") [.ref a]) Q E s := by
  obtain ⟨o, es, ep, t, ho, hex, hd, g, nd, hm, hb, hf, hn, hr, hl⟩ := R
  refine Calls.call_function_entry kind_sorted plain_sorted entry_sorted (args_sorted1 _) ?_
  unfold Builtin.«sorted»
  refine wpAny_bind (m := checkCount "sorted" 1 1 _) (wpAny_pure ?_)
  refine wpAny_bind (collect_set (A := A.in1) hh ⟨o, ho, hex.1, hd⟩ hf hb hr hl fun s1 vs k1 hz g1 o1 pm => ?_)
  have hvl : vs.length = n := by rw [pm.length_eq, List.length_map, Array.length_toList]; exact hn
  have hI : StrsAre vs (vs.map strOf) := strsAre_map vs fun v hv => by
    obtain ⟨e, he, q⟩ := List.mem_map.mp (pm.mem_iff.mp hv)
    obtain ⟨k, tk, h1, _⟩ := g e he
    exact ⟨k, tk, by rw [← q]; exact h1⟩
  have pk : (vs.map strOf).Perm (es.toList.map keyS) := by
    have q := pm.map strOf
    rw [List.map_map] at q
    have e : es.toList.map (strOf ∘ fun e => e.2) = es.toList.map keyS := List.map_congr_left fun x hx => by
      obtain ⟨k, tk, h1, _⟩ := g x hx
      simp only [Function.comp]
      unfold keyS
      rw [h1]; rfl
    rw [← e]
    exact q
  refine wpAny_bind (wpAny_newList ?_ (by rw [hvl, sizeLine_eq]; omega))
  have hoL : (s1.heap.push (seqObj "list" vs.toArray 0)).get? s1.heap.objs.size = some (seqObj "list" vs.toArray 0) := Heap.get?_push_size _ rfl
  refine wpAny_bind (wpAny_holding (wpAny_call_entry PyProof.Rows.slot_list_sort ⟨_, hoL, rfl⟩ PyProof.Rows.entry_list_sort
    (list_sort_treeK strKind_oneLt (s := { s1 with heap := s1.heap.push (seqObj "list" vs.toArray 0) }) hoL hI.keysOf (fun v₁ v₂ rest e => keyKind_strs (by rw [← e]; exact hI)) (by rw [hvl]; exact h64) fun st' hp hs => ⟨_, rfl, ?_⟩)
    (PyProof.Rows.args_list_sort _)))
  obtain ⟨ys, a1, a2, a3⟩ := sorted_out_str hI hp hs
  obtain ⟨c, hc⟩ := PyProof.Rows.sortedHeap_at (vs := vs) (out := (arrOf st').map (·.2)) hoL
  have pn : ys.Perm (es.toList.map keyS) := a2.trans pk
  refine wpAny_pure ⟨_, rfl, hQ _ s1.heap.objs.size ((arrOf st').map (·.2)) c ys (fun b u e => ?_) g1 o1 hz hc a1 a3 (pn.nodup_iff.mpr nd) (fun k => by rw [pn.mem_iff, ← hm k]) ?_⟩
  · have q := k1 b u e
    have hlt := Heap.lt_size q
    rw [PyProof.Rows.sortedHeap_old (Nat.ne_of_lt hlt) (by rw [size_push']; exact Nat.lt_succ_of_lt hlt)]
    exact Heap.get?_push_of_some _ q
  · rw [pn.length_eq, List.length_map, Array.length_toList]; exact hn
end
end L2

/-! DV32: sorted(set(texts)), list(d), None in d.values(). -/
namespace L2
open PySem PySem.Spec PyProof.Rows
def SetOS (w : World) (a : Addr) (S : Str → Bool) (n : Nat) : HO := .ext fun h => SetS w h a S n
theorem setOS_new {w : World} {P : Program} {H : Hp} {h : Heap} {a : Addr} {S : Str → Bool} {n : Nat} (R : SetS w h a S n) : ObjOk P w H h a (SetOS w a S n) := by
  obtain ⟨o, es, ep, t, ho, r⟩ := id R
  exact ⟨R, ⟨o, ho⟩, fun h1 h2 p k => p.at k⟩
theorem setOS_get {X : Cx} {pins : List (Addr × Obj)} {σ : St} {H : Hp} {s : Shared} {a : Addr} {S : Str → Bool} {n : Nat} (I : Inv X pins σ H s) (ha : H a = some (SetOS X.w a S n)) : SetS X.w s.heap a S n := (I.hok a _ ha).1
def rSetTx (K : PySem.W.Frag) (w : World) : List V → Hp → VK → Prop := fun xs H Q => ∃ (a : Addr) (ks : List Str), xs = [.ref a] ∧ SqL K H a (ks.map V.str) ∧ ks.length < 64 ∧
  ∀ p c, H p = none → c ≤ ks.length → Q (.ref p) (upd H p (SetOS w p (fun j => decide (j ∈ ks)) c))
theorem strs_are : ∀ {ks : List Str} {us : List Value}, Vals (ks.map V.str) us → StrsAre us ks
  | [], us, r => by cases r; exact .nil
  | k :: ks, us, r => by
    rw [List.map_cons] at r
    cases r with
    | cons h t =>
      obtain ⟨t', rfl⟩ := h
      exact .cons k t' (strs_are t)
section
variable {X : Cx}
theorem cr_setL (hc : X.calm = true) : CallR X (.type "set") (rSetTx X.K X.w) := by
  intro pins s σ H xs us Q I r h
  obtain ⟨a, ks, rfl, hs, h64, q⟩ := h
  obtain ⟨its, rv, hl, hz⟩ := I.list hs
  rw [Vals.ref1 r]
  refine call_set_lstS (P := X.prog) (w := X.w) ks (I.ok.hd hc) hl.isList (by simpa using strs_are rv) (by unfold scanBound; omega) fun h' tk c hS hcl k => ?_
  exact ⟨.ref s.heap.objs.size, upd H s.heap.objs.size (SetOS X.w s.heap.objs.size (fun j => decide (j ∈ ks)) c), I.laid (t' := tk) k (Nat.le_refl _) (setOS_new hS), rfl, q _ _ (I.hok.fresh (Nat.le_refl _)) hcl⟩
def rSortSetS (w : World) : List V → Hp → VK → Prop := fun vs H Q => ∃ (a : Addr) (S : Str → Bool) (n : Nat), vs = [V.ref a] ∧ H a = some (SetOS w a S n) ∧ n < 64 ∧
  ∀ (ns : List Str) (p : Addr), sortedS ns = true → ns.Nodup → (∀ k, k ∈ ns ↔ S k = true) → H p = none → Q (.ref p) (upd H p (.lst (ns.map V.str)))
theorem cr_sortedSetS (hc : X.calm = true) : CallR X (.builtin "sorted") (rSortSetS X.w) := by
  intro pins s σ H vs us Q I r h
  obtain ⟨a, S, n, rfl, ha, h64, q⟩ := h
  have R := setOS_get I ha
  rw [Vals.ref1 r]
  refine sorted_setS (P := X.prog) R (I.ok.hd hc) h64 fun s' p out c ns k g o hp hg hi hs hnd hm hl => ?_
  have hlen : (ns.map V.str).length ≤ sizeLine := by rw [List.length_map, hl, sizeLine_eq]; omega
  have hn : H p = none := I.hok.fresh hp
  have J : Inv X pins σ (upd H p (.lst (ns.map V.str))) { s with heap := s'.heap, gens := s'.gens, drawn := s'.drawn, toks := s'.toks } :=
    I.call (ch := []) (Un.laid k hp hn) (I.hok.laid k hp ⟨hlen, out.toList, c, vals_of_strs hi, hg⟩) (by rw [g]; exact I.bare) (fun _ z => nomatch z)
  have e : s' = { s with heap := s'.heap, gens := s'.gens, drawn := s'.drawn, toks := s'.toks } := by
    cases s'
    cases s
    cases o
    rfl
  rw [e]
  exact ⟨.ref p, _, J, rfl, q ns p hs hnd hm hn⟩
end

/-! ### None in d.values() -/
theorem entry_ci : entryFor table "proto.contains_iter" = some Builtin.«proto.contains_iter» := entryFor_of_tree (by kernel_rfl)
theorem plain_ci : plainId "proto.contains_iter" = true := by decide +kernel
theorem nocont_values : typeLookup (.type "dict_values") "__contains__" = pure none := by rw [typeLookup_type, builtinLookup_eq_fast]; kernel_rfl
section
variable {P : Program} {w : World} {A : Around} {E : Value → Shared → Prop} {I : Addr} {fp wr : List Addr} {n : Nat} {Pv : Nat → Value → Prop} {St : Nat → Heap → Prop} {h0 : Heap} {R : Result → Shared → Prop}
theorem ci_loop (hu : A.in1.units < cLine) (W : Walks P w A.in1 I fp wr n Pv St) (bs : List Bool) (hb : bs.length = n)
    (hv : ∀ i v, Pv i v → (v = .none ∧ bs[i]? = some true) ∨ (∃ l o, v = .ref l ∧ l ∉ wr ∧ h0.get? l = some o ∧ o.cls = .type "tuple" ∧ (∃ its m, o.data = .seq its m) ∧ bs[i]? = some false)) :
    ∀ (k i : Nat) (s : Shared), n - i = k → i ≤ n → St i s.heap → (∀ b o, b ∉ wr → h0.get? b = some o → s.heap.get? b = some o) →
      (∀ h' tk, (∀ b o, b ∉ wr → h0.get? b = some o → h'.get? b = some o) → R (.ok (.ret (.bool ((bs.drop i).any id)))) { s with heap := h', toks := tk }) →
      codeAny (model P w) A (.builtin "proto.contains_iter" ⟨[.ref I, .none], []⟩) R s := by
  intro k
  induction k with
  | zero =>
    intro i s hk hi hst hkp hR
    have hin : i = n := by omega
    subst hin
    refine codeAny_builtin entry_ci ?_
    rw [Around.under_plainId plain_ci _]
    show wpAny _ A.in1 (pyNext (.ref I) >>= _) _ _ s
    refine wpAny_bind (W.done s _ _ hst fun h' tk hm => ?_)
    refine wpAny_bind (wpAny_rule ?_)
    have := hR h' tk fun b o hb e => hm b o hb (hkp b o hb e)
    rw [List.drop_eq_nil_of_le (by omega)] at this
    exact wpAny_pure this
  | succ k ih =>
    intro i s hk hi hst hkp hR
    have hlt : i < n := by omega
    refine codeAny_builtin entry_ci ?_
    rw [Around.under_plainId plain_ci _]
    show wpAny _ A.in1 (pyNext (.ref I) >>= _) _ _ s
    refine wpAny_bind (W.item i s _ _ hlt hst fun v h' tk hP hst' hm => ?_)
    have hkp' : ∀ b o, b ∉ wr → h0.get? b = some o → h'.get? b = some o := fun b o hb e => hm b o hb (hkp b o hb e)
    rcases hv i v hP with ⟨rfl, hbi⟩ | ⟨l, o, rfl, hl, ho, hc, ⟨its, m, hd⟩, hbi⟩
    · refine wpAny_bind (SeqAt.EqAt.same .none P w _ _ ?_)
      refine wpAny_bind (wpAny_rule ?_)
      have q := hR h' tk hkp'
      rw [List.drop_eq_getElem_cons (by omega)] at q
      have e : bs[i]'(by omega) = true := by
        have := List.getElem?_eq_getElem (l := bs) (i := i) (by omega)
        rw [this] at hbi
        exact Option.some.inj hbi
      simp only [List.any_cons, e, id, Bool.true_or] at q
      exact wpAny_pure q
    · have ht : Heap.IsTuple h' l its := ⟨o, hkp' l o hl ho, hc, m, hd⟩
      refine wpAny_bind (SeqAt.EqAt.tuple_none (s := { s with heap := h', toks := tk }) ht hu P w _ _ ?_)
      refine wpAny_pure ⟨plainId_quiet plain_ci _, ih (i + 1) { s with heap := h', toks := tk } (by omega) hlt hst' hkp' fun h2 tk2 hm2 => ?_⟩
      have q := hR h2 tk2 hm2
      rw [List.drop_eq_getElem_cons (by omega)] at q
      have e : bs[i]'(by omega) = false := by
        have := List.getElem?_eq_getElem (l := bs) (i := i) (by omega)
        rw [this] at hbi
        exact Option.some.inj hbi
      simpa only [List.any_cons, e, id, Bool.false_or] using q
end
end L2

/-! DV33: the same on data. -/
namespace L2
open PySem PySem.Spec PyProof.Rows
def tNoneV (K : PySem.W.Frag) (to : TE) : TE := fun σ H Q => to σ H fun x H1 => ∃ (a : Addr) (kvs : List (Key × V)), x = .ref a ∧ Rd H1 a (.dK kvs) ∧ (∀ p ∈ kvs, p.2 = V.non ∨ ∃ l xs, p.2 = .ref l ∧ SqT K H1 l xs) ∧ Q (.bl (kvs.any fun p => L2.isNon p.2)) H1
theorem pc_noneV {X : Cx} {o : Expr} {to : TE} {j} {p1 apos cpos : Pos} (hc : X.calm = true) (hu : X.A.units + 64 < cLine) (ho : PE X o to)
    (hbase : attributeBase o "values" X.env (eval o X.env) = eval o X.env := by rfl) (hline : (apos.endLine == cpos.line) = true := by rfl) :
    PC X .In (.Constant .none j p1) (.Call (.Attribute o "values" apos) [] [] cpos) (tNoneV X.K to) := by
  refine ⟨fun pins s σ H Q I h => ?_⟩
  refine thn (pe_non.run pins s σ H (fun x H1 => x = .non ∧ H1 = H) I ⟨rfl, rfl⟩) fun v s1 ⟨x0, H1, I1, r1, e1, e2⟩ => ?_
  subst e1 e2
  cases r1
  refine wpAny_Call_method (T := "dict") (id := "dict.values") hbase rfl hline F.plainAttrs_dict F.slot_dict_values F.type_dict_values (thn (ho.run pins s1 σ _ _ I1 h) fun u s2 ⟨x, H2, I2, rx, a, kvs, ex, hd, hvs, q⟩ => ?_)
  subst ex
  obtain rfl : u = Value.ref a := rx
  obtain ⟨z, hsm, vs, rel, dd⟩ := dk_rd I2.hok hd
  obtain ⟨ep, hat⟩ := dd.dictAt
  refine ⟨dd.typeIs, dd.mapOf.noDict, ?_⟩
  have hv : (s2.heap.push { cls := .type "dict_values", data := .fields #[.ref a] }).IsValuesView s2.heap.objs.size a := ⟨_, Heap.get?_push_size _ rfl, rfl, rfl⟩
  have fin : wpAny (model X.prog X.w) X.A (compareOp .In .none (.ref s2.heap.objs.size)) (EP X pins σ Q) X.xe { s2 with heap := s2.heap.push { cls := .type "dict_values", data := .fields #[.ref a] } } := by
    have hTv : Shared.TypeIs { s2 with heap := s2.heap.push { cls := .type "dict_values", data := .fields #[.ref a] } } (.ref s2.heap.objs.size) "dict_values" := ⟨_, Heap.get?_push_size _ rfl, rfl⟩
    show wpAny _ _ (contains (.ref s2.heap.objs.size) .none >>= fun r => pure (Value.bool r)) _ _ _
    refine wpAny_bind ?_
    unfold contains
    refine wpAny_holding ?_
    rw [stdlibNamesSay?_of_typeIs hTv]
    refine wpAny_bind (wpAny_specialOf hTv nocont_values ?_)
    show wpAny _ _ (if ((none : Option Value) == some Value.none) = true then _ else _) _ _ _
    rw [if_neg (by simp)]
    refine wpAny_bind (wpAny_callSpecialUnlessNone?_none hTv nocont_values ?_)
    refine wpAny_bind (wpAny_rule ?_)
    refine wpAny_bind (wpAny_tryCatch (wpAny_pyIter_values (knd := mixKind X.prog X.w) hv (hat.push _) ?_))
    refine wpAny_bind (wpAny_runValue ?_)
    have hne : a ≠ (s2.heap.push { cls := .type "dict_values", data := .fields #[.ref a] }).objs.size := by
      rw [Heap.size_push]
      exact Nat.ne_of_lt (Nat.lt_succ_of_lt hat.lt_size)
    have hh : X.A.in1.handled = none := by simp [I2.ok.hd hc]
    have keep : ∀ b ob, s2.heap.get? b = some ob → ((s2.heap.push { cls := .type "dict_values", data := .fields #[.ref a] }).push { cls := .type "dict_valueiterator", data := .fields #[.ref a, .int 0 0, .int vs.length 0, .int ep 0] }).get? b = some ob :=
      fun b ob e => Heap.get?_push_of_some _ (Heap.get?_push_of_some _ e)
    have hlt : ∀ b ob, s2.heap.get? b = some ob → b ∉ [(s2.heap.push { cls := .type "dict_values", data := .fields #[.ref a] }).objs.size] := fun b ob e m => by
      rw [Heap.size_push] at m
      have h1 : b = s2.heap.objs.size + 1 := List.mem_singleton.mp m
      have h2 : b < s2.heap.objs.size := Heap.lt_size e
      rw [h1] at h2
      exact Nat.not_lt_of_le (Nat.le_succ _) h2
    refine ci_loop (by show X.A.units + 1 < cLine; omega) (Walks.dictValues (knd := mixKind X.prog X.w) hh _ a hne vs ep) (kvs.map fun p => L2.isNon p.2) (by rw [List.length_map]; exact rel.length)
      (h0 := (s2.heap.push { cls := .type "dict_values", data := .fields #[.ref a] }).push { cls := .type "dict_valueiterator", data := .fields #[.ref a, .int 0 0, .int vs.length 0, .int ep 0] })
      (fun i v ⟨k, e⟩ => ?_) (vs.length - 0) 0 _ rfl (Nat.zero_le _) ⟨⟨_, Heap.get?_push_size _ rfl, rfl, rfl⟩, (hat.push _).push _⟩ (fun b o _ e => e) fun h' tk hk => ?_
    · obtain ⟨x, e2, rx⟩ := KV.at' rel e
      rcases hvs _ (List.mem_of_getElem? e2) with e3 | ⟨l, xs, e3, hq⟩
      · simp only at e3
        subst e3
        cases rx
        exact .inl ⟨rfl, by rw [List.getElem?_map, e2]; rfl⟩
      · simp only at e3
        subst e3
        cases rx
        obtain ⟨its, _, ⟨ob, hob, hcl, m, hdt⟩, _⟩ := I2.tuple hq
        exact .inr ⟨l, ob, rfl, hlt _ _ hob, keep _ _ hob, hcl, ⟨_, m, hdt⟩, by rw [List.getElem?_map, e2]; rfl⟩
    · refine wpAny_pure (wpAny_pure ?_)
      refine ⟨.bl (kvs.any fun p => L2.isNon p.2), H2, I2.kept (t' := tk) (fun b o e => hk b o (hlt _ _ e) (keep _ _ e)), ?_, q⟩
      rw [List.drop_zero, List.any_map]
      rfl
  show wpAny _ _ (callWith cpos (.builtin "dict.values") [.ref a] [] []) _ X.xe s2
  exact method_meetsIn F.slot_dict_values F.entry_dict_values rfl (PySem.evalArgs_none ⟨rfl, dd.typeIs, F.args_dict_values_1 _, _, meets_dict_values (mixKind X.prog X.w) a hsm, ⟨vs, dd⟩, fin⟩)
end L2
namespace DV
open L2 PySem PySem.Spec PyProof.Rows
/-! ### None in d.values() -/
def nonTup : D → Bool
  | .non => true
  | .tup _ => true
  | _ => false
def noneV : D → Option D
  | .dic _ vs => if vs.all nonTup = true then some (.bl (vs.any DV.isNon)) else none
  | _ => none
theorem nonTup_fit {K : Kc} {F : Addr → Prop} {H : Hp} : ∀ {ds : List D} {kvs : List (Key × V)}, RepL K F H ds (kvs.map (·.2)) → ds.all nonTup = true → (∀ p ∈ kvs, p.2 = V.non ∨ ∃ l xs, p.2 = .ref l ∧ SqT K.K H l xs) ∧ (kvs.any fun p => L2.isNon p.2) = ds.any DV.isNon
  | [], [], _, _ => ⟨(fun p m => (List.not_mem_nil m).elim), rfl⟩
  | [], p :: kvs, r, _ => by unfold RepL at r; simp at r
  | d :: ds, [], r, _ => by unfold RepL at r; simp at r
  | d :: ds, p :: kvs, r, h => by
    unfold RepL at r
    obtain ⟨v, r', e, r1, r2⟩ := r
    simp only [List.map_cons, List.cons.injEq] at e
    obtain ⟨rfl, rfl⟩ := e
    simp only [List.all_cons, Bool.and_eq_true] at h
    obtain ⟨i1, i2⟩ := nonTup_fit r2 h.2
    have h1 := h.1
    unfold nonTup at h1
    split at h1
    · unfold Rep at r1
      refine ⟨fun q m => ?_, ?_⟩
      · rcases List.mem_cons.mp m with rfl | m
        · exact .inl r1
        · exact i1 q m
      · rw [List.any_cons, List.any_cons, i2, r1]; rfl
    · unfold Rep at r1
      obtain ⟨a, us, e, hs, _⟩ := r1
      refine ⟨fun q m => ?_, ?_⟩
      · rcases List.mem_cons.mp m with rfl | m
        · exact .inr ⟨a, us, e, hs.T⟩
        · exact i1 q m
      · rw [List.any_cons, List.any_cons, i2, e]; rfl
    · cases h1
theorem noneV_fit {K : Kc} {oa : FO} {σ : L2.St} {H : Hp} {Q : VK} (h : tD K (gOp1 noneV oa) σ H Q) : tNoneV K.K (tO K oa) σ H Q := by
  obtain ⟨F, B, as, ρ, d, ρ', S, e, k⟩ := h
  obtain ⟨x, dx, e1, e3, e5⟩ := gOp1_some e
  refine ⟨F, B, as, ρ, x, ρ', S, e1, fun vx H2 F2 as2 E S2 rx => ?_⟩
  have w := S2.res e3 rx
  unfold noneV at e5
  split at e5
  · split at e5
    · rename_i ks vs hall
      cases e5
      unfold Vw at w
      obtain ⟨a, kvs, rfl, h1, h3, r⟩ := w
      obtain ⟨i1, i2⟩ := nonTup_fit r hall
      refine ⟨a, kvs, rfl, h1, i1, ?_⟩
      rw [i2]
      exact k _ H2 F2 as2 E S2 Rep.bl'
    · cases e5
  · cases e5
section
variable {X : Cx} {k : Nat} {o : Expr} {oa : FO} {j : Bool} {p1 apos cpos pos : Pos}
theorem w_noneV {jj} (hc : X.calm = true) (hr : Room k X.A) (ho : PE X o (tO (kc X) oa))
    (hbase : attributeBase o "values" X.env (eval o X.env) = eval o X.env := by rfl) (hline : (apos.endLine == cpos.line) = true := by rfl) (hm : behindInMarks .In (.Call (.Attribute o "values" apos) [] [] cpos) = false := by rfl) :
    PE X (.Compare (.Constant .none jj p1) [.In] [.Call (.Attribute o "values" apos) [] [] cpos] pos) (tD (kc X) (gOp1 noneV oa)) :=
  PE.to (pe_cmp (pc_noneV hc (ru64 hr) ho hbase hline) hm) fun σ H Q h => noneV_fit h
theorem t_noneV {jj} (hc : X.calm = true) (hr : Room k X.A) (ho : PE X o (tO (kc X) oa))
    (hbase : attributeBase o "values" X.env (eval o X.env) = eval o X.env := by rfl) (hline : (apos.endLine == cpos.line) = true := by rfl) (hm : behindInMarks .In (.Call (.Attribute o "values" apos) [] [] cpos) = false := by rfl) :
    PT X (.Compare (.Constant .none jj p1) [.In] [.Call (.Attribute o "values" apos) [] [] cpos] pos) (tB (kc X) (gT (gOp1 noneV oa))) :=
  PT.to (pt_cmp (pc_noneV hc (ru64 hr) ho hbase hline) hm) fun σ H Q h => noneV_fit (tB_fit h)

/-! ### sorted(set(texts)), list(d) -/
def ddS : List Str → List Str
  | [] => []
  | x :: r => if x ∈ r then ddS r else x :: ddS r
theorem ddS_mem {k : Str} : ∀ {l : List Str}, k ∈ ddS l ↔ k ∈ l
  | [] => Iff.rfl
  | x :: r => by
    unfold ddS
    split
    · rename_i h
      rw [ddS_mem (l := r), List.mem_cons]
      exact ⟨.inr, fun z => z.elim (fun e => e ▸ h) id⟩
    · rw [List.mem_cons, List.mem_cons, ddS_mem (l := r)]
theorem ddS_nodup : ∀ {l : List Str}, (ddS l).Nodup
  | [] => List.nodup_nil
  | x :: r => by
    unfold ddS
    split
    · exact ddS_nodup
    · rename_i h
      exact List.nodup_cons.mpr ⟨fun m => h (ddS_mem.mp m), ddS_nodup⟩
theorem srtS_dd {ks ys : List Str} (hs : sortedS ys = true) (hn : ys.Nodup) (hm : ∀ k, k ∈ ys ↔ k ∈ ks) : ys = srtS (ddS ks) :=
  srtS_of ((List.perm_ext_iff_of_nodup hn ddS_nodup).mpr fun k => (hm k).trans ddS_mem.symm) hs
def srtSetD : D → Option D
  | .lst ks => match strsOf ks with
    | some xs => if xs.length < 64 then some (.lst ((srtS (ddS xs)).map .str)) else none
    | none => none
  | _ => none
theorem w_sortedSet {p p2 pos2 : Pos} (Z : Zs X.mg) (hc : X.calm = true) (ha : PE X o (tO (kc X) oa)) (hg : Gl X "sorted" := by rfl) (hg2 : Gl X "set" := by rfl) (he : starEach [o] X.env = (false, eval o X.env) :: starEach [] X.env := by rfl)
    (he2 : starEach [.Call (.Name "set" p2) [o] [] pos2] X.env = (false, eval (.Call (.Name "set" p2) [o] [] pos2) X.env) :: starEach [] X.env := by rfl) (hpl : (backTo pos2 (starEach [] X.env)).any (·.1) = false := by rfl) (hpl2 : (backTo pos (starEach [] X.env)).any (·.1) = false := by rfl) :
    PE X (.Call (.Name "sorted" p) [.Call (.Name "set" p2) [o] [] pos2] [] pos) (tW (kc X) (gOp1W srtSetD oa)) :=
  have bs : bootBuiltins "set" = some (.type "set") := by decide +kernel
  PE.to (pe_callB (cr_sortedSetS hc) hg Z.sorted boot_sorted' (pa_cons (pe_callTy (cr_setL hc) hg2 Z.set bs (pa_cons ha pa_nil he) (by decide) (by decide) he hpl) pa_nil he2) (by decide) (by decide) he2 hpl2) fun σ H Q h => by
    obtain ⟨F, B, as, ρ, d, w, ρ', S, e, kk⟩ := h
    obtain ⟨p, e9, e2⟩ := Option.map_eq_some_iff.mp e
    cases e2
    obtain ⟨x, dx, e1, e3, e5⟩ := gOp1_some e9
    refine ⟨F, B, as, ρ, x, p.2, S, e1, fun vx H2 F2 as2 E S2 rx => ?_⟩
    have w := S2.res e3 rx
    unfold srtSetD at e5
    split at e5
    · split at e5
      · rename_i ks xs q
        split at e5
        · rename_i hz
          simp only [Option.some.injEq] at e5
          have e7 := strsOf_eq q
          subst e7
          unfold Vw at w
          obtain ⟨a, vs, rfl, h1, r⟩ := w
          have := r.strs_eq
          subst this
          refine ⟨a, xs, rfl, SqL.of h1, hz, fun pp c hn hc' => ⟨pp, _, c, rfl, upd_same, by omega, fun ys l hs hnd hm hl => ?_⟩⟩
          have ey := srtS_dd (ks := xs) hs hnd fun k => by rw [hm k]; simp
          subst ey
          have E3 : Ext F2 as2 H2 F2 as2 (upd H2 pp (SetOS X.w pp (fun j => decide (j ∈ xs)) c)) := (Ext.newO (as := as2) hn).sub fun b m => List.mem_cons_of_mem _ m
          have S3 : Sit (kc X) F2 B (upd H2 pp (SetOS X.w pp (fun j => decide (j ∈ xs)) c)) p.2 σ as2 := ⟨S2.env.stb E3.stb (Kept.of fun b u h => by rw [upd_ne (ne_of_none h hn)]; exact h), S2.nd, S2.nf, E3.fk S2.fk⟩
          obtain ⟨E4, S4⟩ := new_own hl S3 (own_lst hl (RepL.strs _))
          rw [← e5] at kk
          exact kk _ _ F2 as2 [l] ((E.trans E3).trans E4) S4
        · cases e5
      · cases e5
    · cases e5
end
def lstE : D → Option D
  | .dic ks _ => some (.lst ks)
  | d => lstD d
def rListE (K : PySem.W.Frag) : List V → Hp → VK → Prop := fun xs H Q => (∃ p ys, xs = [.ref p] ∧ (SqL K H p ys ∨ SqT K H p ys) ∧ ∀ l, H l = none → Q (.ref l) (upd H l (.lst ys))) ∨
  ∃ (a : Addr) (kvs : List (Key × V)), xs = [.ref a] ∧ Rd H a (.dK kvs) ∧ ∀ p, H p = none → Q (.ref p) (upd H p (.lst (kvs.map fun kv => kV kv.1)))
theorem RepL.keys {K : Kc} {F : Addr → Prop} {H : Hp} : ∀ kvs : List (Key × V), RepL K F H (kvs.map fun p => dkey p.1) (kvs.map fun p => kV p.1)
  | [] => RepL.nil
  | p :: kvs => RepL.cons (rep_dkey p.1) (RepL.keys kvs)
theorem pw_lstE {K : Kc} : PureW K (rListE K.K) lstE := by
  intro F H dx d vx Q fk e w k
  unfold lstE at e
  split at e
  · cases e
    unfold Vw at w
    obtain ⟨a, kvs, rfl, h1, rfl, r⟩ := w
    exact .inr ⟨a, kvs, rfl, h1, fun p hp => k p _ hp (own_lst hp (RepL.keys kvs))⟩
  · exact .inl (pw_lst F H _ d vx Q fk e w k)
theorem w_listE {X : Cx} {o : Expr} {oa : FO} {p pos : Pos} (Z : Zs X.mg) (hc : X.calm = true) (ha : PE X o (tO (kc X) oa)) (hg : Gl X "list" := by rfl) (he : starEach [o] X.env = (false, eval o X.env) :: starEach [] X.env := by rfl) : PE X (.Call (.Name "list" p) [o] [] pos) (tW (kc X) (gOp1W lstE oa)) :=
  cw_callT1 (CallR.or call_list_of (call_listD hc)) pw_lstE hg Z.list boot_lst' ha (he := he)
end DV

/-! DV34: sorted(..) of pairs (text, anything) that stand in order already. -/
namespace SrtP
open PySem PySem.Spec PyProof.Rows L2 SrtO
section
variable {prog : Program} {w : World} {A : Around} {E : Value → Shared → Prop} {s : Shared}
/-- v is a tuple of the text x and y -/
def IsPs (h : Heap) (v : Value) (x : Str) (y : Value) : Prop := ∃ a o t n, v = .ref a ∧ h.get? a = some o ∧ o.cls = .type "tuple" ∧ o.data = .seq #[.str x t, y] n
theorem IsPs.keeps {h h' : Heap} {v : Value} {x : Str} {y : Value} (p : IsPs h v x y) (k : ∀ b o, h.get? b = some o → o.cls = .type "tuple" → h'.get? b = some o) : IsPs h' v x y := by
  obtain ⟨a, o, t, n, e, ho, hc, hd⟩ := p
  exact ⟨a, o, t, n, e, k a o ho hc, hc, hd⟩
def ltS (x y : Str) : Bool := decide (x.cps.toList < y.cps.toList)
theorem swo_str (k : Value → Str) : Swo fun v u => ltS (k v) (k u) := by
  unfold ltS
  refine ⟨fun x y h => ?_, fun x y z h1 h2 => ?_⟩
  · have h := of_decide_eq_true h
    exact decide_eq_false fun h' => List.lt_irrefl _ (List.lt_trans h h')
  · have h1 := of_decide_eq_false h1
    have h2 := of_decide_eq_false h2
    refine decide_eq_false fun h3 => ?_
    rw [List.not_lt] at h1 h2
    exact absurd h3 (List.not_lt.mpr (List.le_trans h1 h2))
theorem psT_cmp {vs : List Value} {k : Value → Str} {m : Value → Value} (hp : ∀ v ∈ vs, IsPs s.heap v (k v) (m v)) (hi : ∀ v ∈ vs, ∀ u ∈ vs, k v = k u → m v = m u) : Cmp prog w A s (tuples' true) (fun p => p.1 ∈ vs) (lt2 fun v u => ltS (k v) (k u)) := by
  intro p q hm hm'
  have h1 := hp _ hm
  have h2 := hp _ hm'
  have h3 := hi _ hm _ hm'
  show wpAny (model prog w) A (keyLt' (tuples' true) p.1 q.1) (fun r s' => s' = s ∧ r = ltS (k p.1) (k q.1)) (fun _ _ => False) s
  generalize (k p.1) = x at h1 h3 ⊢
  generalize (m p.1) = y at h1 h3 ⊢
  generalize (k q.1) = x' at h2 h3 ⊢
  generalize (m q.1) = y' at h2 h3 ⊢
  obtain ⟨a, o, t, n, e, ho, hc, hd⟩ := h1
  obtain ⟨a', o', t', n', e', ho', hc', hd'⟩ := h2
  rw [e, e']
  refine PySem.W.kat_lt ho hd ho' hd' ?_
  show PySem.W.KatLex prog w A true (decide (2 < 2)) _ [(.str x t, .str x' t'), (y, y')] 0 s
  refine PySem.W.kat_cons (SeqAt.EqAt.str_str x t x' t' prog w _ _ ?_)
  refine PySem.W.kat_go (fun e1 => ?_) (fun e1 => ?_)
  · have ex : x = x' := by simpa using e1
    subst ex
    have ey := h3 rfl
    subst ey
    refine PySem.W.kat_yes (PySem.W.kat_cons (SeqAt.EqAt.same y prog w _ _ ?_))
    refine PySem.W.kat_yes (PySem.W.kat_nil ⟨rfl, ?_⟩)
    unfold ltS
    exact (decide_eq_false (List.lt_irrefl _)).symm
  · exact PySem.W.kat_no (oneLt_str ⟨rfl, rfl⟩)
theorem firsts_ps {h : Heap} : ∀ {vs : List Value}, (∀ v ∈ vs, ∃ x y, IsPs h v x y) → ∃ fs : List Value, PySem.W.KatTups h vs fs ∧ fs.length = vs.length ∧ ∀ f ∈ fs, ∃ x t, f = Value.str x t
  | [], _ => ⟨[], PySem.W.KatTups.nil, rfl, fun _ hm => by simp at hm⟩
  | v :: vs, hp => by
    obtain ⟨fs, h1, h2, h3⟩ := firsts_ps (vs := vs) fun v' hm => hp v' (List.mem_cons_of_mem _ hm)
    obtain ⟨x, y, a, o, t, n, e, ho, hc, hd⟩ := hp v (List.mem_cons_self ..)
    subst e
    refine ⟨.str x t :: fs, PySem.W.KatTups.cons ho hc hd rfl h1, by rw [List.length_cons, List.length_cons, h2], fun f hm => ?_⟩
    rcases List.mem_cons.mp hm with rfl | hm
    · exact ⟨x, t, rfl⟩
    · exact h3 f hm
theorem ps_sortable {a : Addr} {vs : List Value} {k : Value → Str} {m : Value → Value} (h0 : 0 < vs.length) (hp : ∀ v ∈ vs, IsPs s.heap v (k v) (m v)) (hi : ∀ v ∈ vs, ∀ u ∈ vs, k v = k u → m v = m u) (ha : ∀ o, s.heap.get? a = some o → o.cls ≠ .type "tuple") : SortableO prog w A s a vs fun v u => ltS (k v) (k u) := by
  intro h' keep
  have hp' : ∀ v ∈ vs, IsPs h' v (k v) (m v) := fun v hm => (hp v hm).keeps fun b o e c => keep b o (fun z => by subst z; exact ha o e c) e
  obtain ⟨fs, h1, h2, h3⟩ := firsts_ps fun v hm => ⟨_, _, hp' v hm⟩
  refine ⟨tuples' true, fun Q E hq => ?_, psT_cmp hp' hi⟩
  refine PySem.W.kat_kind (T := .type "str") h1 (by omega) (fun f hm => ?_) (by rfl) ?_
  · obtain ⟨x, t, rfl⟩ := h3 f hm
    exact PySem.W.Looks.now
  · have e : (Value.type "str" != Value.type "tuple") = true := by first | decide +kernel | rfl | decide
    rw [e]
    exact hq
/-- list.sort of them, in order already -/
theorem sort_ps {a : Addr} {vs : List Value} {n : Nat} {k : Value → Str} {m : Value → Value} {R : PySem.Fin → Shared → Prop} (ho : s.heap.get? a = some (seqObj "list" vs.toArray n)) (hz : vs.length ≤ sizeLine) (hp : ∀ v ∈ vs, IsPs s.heap v (k v) (m v)) (hi : ∀ v ∈ vs, ∀ u ∈ vs, k v = k u → m v = m u)
    (hs : Srtd (fun v u => ltS (k v) (k u)) vs) (h : R (.done (.ret .none)) { s with heap := sortedHeap s.heap a vs vs.toArray }) :
    wpAny (model prog w) A (Builtin.«list.sort» ⟨[.ref a], []⟩) R E s := by
  refine list_sort_ord (swo_str k) ho hz (fun h2 => ps_sortable (by omega) hp hi fun o e => ?_) fun out a1 a2 => ?_
  · rw [ho] at e
    cases e
    intro c
    exact absurd (Value.type.inj c) (by decide)
  · rw [stb_uniq (swo_str k) a1 hs a2]
    exact h
/-- sorted(l), l a list or a tuple of them, in order already -/
theorem sorted_ps {l : Addr} {T : String} {o : Obj} {vs : List Value} {n : Nat} {k : Value → Str} {m : Value → Value} {Q : Value → Shared → Prop} (hT : T = "list" ∨ T = "tuple") (ho : s.heap.get? l = some o) (hc : o.cls = .type T) (hd : o.data = .seq vs.toArray n)
    (hz : vs.length ≤ sizeLine) (hp : ∀ v ∈ vs, IsPs s.heap v (k v) (m v)) (hi : ∀ v ∈ vs, ∀ u ∈ vs, k v = k u → m v = m u) (hs : Srtd (fun v u => ltS (k v) (k u)) vs)
    (h : ∀ (h1 h2 : Heap), (∀ b o, s.heap.get? b = some o → h1.get? b = some o) → (∀ b o, h1.get? b = some o → h2.get? b = some o) → (∃ c, h2.get? h1.objs.size = some (seqObj "list" vs.toArray c)) → Q (.ref h1.objs.size) { s with heap := h2 }) :
    wpAny (model prog w) A (call (.builtin "sorted") [.ref l]) Q E s := by
  refine Calls.call_function_entry kind_sorted plain_sorted entry_sorted (args_sorted1 _) ?_
  unfold Builtin.«sorted»
  refine wpAny_bind (m := checkCount "sorted" 1 1 _) (wpAny_pure ?_)
  refine wpAny_bind (wpAny_collect_seq l hT ho hc hd (fun h1 k1 => ?_) (by rw [List.size_toArray]; exact hz))
  refine wpAny_bind (wpAny_newList ?_ (by simpa using hz))
  have hoL : (h1.push (seqObj "list" vs.toArray 0)).get? h1.objs.size = some (seqObj "list" vs.toArray 0) := Heap.get?_push_size _ rfl
  have kp : ∀ b ob, s.heap.get? b = some ob → (h1.push (seqObj "list" vs.toArray 0)).get? b = some ob := fun b ob e => Heap.get?_push_of_some _ (k1 b ob e)
  refine wpAny_bind (wpAny_holding (wpAny_call_entry slot_list_sort (s := { s with heap := h1.push (seqObj "list" vs.toArray 0) }) ⟨_, hoL, rfl⟩ entry_list_sort (sort_ps hoL hz (fun v hv => (hp v hv).keeps fun b ob e _ => kp b ob e) hi hs ⟨_, rfl, ?_⟩) (args_list_sort _)))
  refine wpAny_pure ⟨_, rfl, h h1 _ k1 (fun b ob e => ?_) (sortedHeap_at hoL)⟩
  have hlt := Heap.lt_size e
  rw [sortedHeap_old (Nat.ne_of_lt hlt) (by rw [size_push']; exact Nat.lt_succ_of_lt hlt)]
  exact Heap.get?_push_of_some _ e
end
end SrtP
namespace L2
open PySem PySem.Spec PyProof.Rows
/-- texts in order, each before the next -/
def risS (ls : List Str) : Prop := ls.Pairwise fun a b => SrtP.ltS a b = true
def rSortPs (K : PySem.W.Frag) : List V → Hp → VK → Prop := fun vs H Q => ∃ (a : Addr) (xs : List V) (ls : List Str), vs = [V.ref a] ∧ (SqL K H a xs ∨ SqT K H a xs) ∧ Paired (fun x l => ∃ t y, x = V.ref t ∧ SqT K H t [.str l, y]) xs ls ∧ risS ls ∧
  ∀ p, H p = none → Q (.ref p) (upd H p (.lst xs))

open SrtP SrtO in
theorem isPs_inj {h : Heap} {v : Value} {x x' : Str} {y y' : Value} (h1 : IsPs h v x y) (h2 : IsPs h v x' y') : x = x' ∧ y = y' := by
  obtain ⟨a, o, t, n, e, ho, hc, hd⟩ := h1
  obtain ⟨a', o', t', n', e', ho', hc', hd'⟩ := h2
  rw [e] at e'
  cases e'
  rw [ho] at ho'
  cases ho'
  rw [hd] at hd'
  injection hd' with d1 _
  have d2 := congrArg Array.toList d1
  simp at d2
  exact ⟨d2.1.1, d2.2⟩
section
open SrtP SrtO
variable {X : Cx} {pins : List (Addr × Obj)} {σ : St} {H : Hp} {s : Shared}
theorem ps_of (I : Inv X pins σ H s) : ∀ {xs : List V} {ls : List Str} {us : List Value}, Paired (fun x l => ∃ t y, x = V.ref t ∧ SqT X.K H t [.str l, y]) xs ls → Vals xs us → Paired (fun u l => ∃ y, IsPs s.heap u l y) us ls
  | _, _, _, .nil, .nil => .nil
  | _, _, _, .cons h t, .cons r rr => by
    obtain ⟨a, y, rfl, hs⟩ := h
    cases r
    obtain ⟨its, rv, ⟨o, ho, hc, n, hd⟩, _⟩ := I.tuple hs
    obtain ⟨u, w, ei, ru, ry⟩ := vals2 rv
    obtain ⟨tk, rfl⟩ := ru
    subst ei
    exact .cons ⟨w, a, o, tk, n, rfl, ho, hc, hd⟩ (ps_of I t rr)
noncomputable def kPs (h : Heap) (v : Value) : Str := open Classical in if q : ∃ x y, IsPs h v x y then q.choose else Str.empty
noncomputable def mPs (h : Heap) (v : Value) : Value := open Classical in if q : ∃ x y, IsPs h v x y then q.choose_spec.choose else .none
theorem kPs_is {h : Heap} {v : Value} {x : Str} {y : Value} (p : IsPs h v x y) : kPs h v = x ∧ IsPs h v (kPs h v) (mPs h v) := by
  have q : ∃ x y, IsPs h v x y := ⟨x, y, p⟩
  have sp : IsPs h v (kPs h v) (mPs h v) := by
    unfold kPs mPs
    rw [dif_pos q, dif_pos q]
    exact q.choose_spec.choose_spec
  exact ⟨(isPs_inj sp p).1, sp⟩
theorem ps_mem {h : Heap} : ∀ {us : List Value} {ls : List Str}, Paired (fun u l => ∃ y, IsPs h u l y) us ls → ∀ v ∈ us, kPs h v ∈ ls ∧ IsPs h v (kPs h v) (mPs h v)
  | _, _, .nil, v, m => (List.not_mem_nil m).elim
  | _, _, .cons (a := u) (b := l) hh t, v, m => by
    obtain ⟨y, p⟩ := hh
    rcases List.mem_cons.mp m with rfl | m
    · obtain ⟨e, q⟩ := kPs_is p
      exact ⟨by rw [e]; exact List.mem_cons_self, q⟩
    · obtain ⟨e, q⟩ := ps_mem t v m
      exact ⟨List.mem_cons_of_mem _ e, q⟩
theorem ltS_asym {x y : Str} (h : ltS x y = true) : ltS y x = false := by
  unfold ltS at h ⊢
  exact decide_eq_false fun h' => List.lt_irrefl _ (List.lt_trans (of_decide_eq_true h) h')
theorem ltS_ne {x y : Str} (h : ltS x y = true) : x ≠ y := fun e => by
  subst e
  unfold ltS at h
  exact List.lt_irrefl _ (of_decide_eq_true h)
theorem ps_srtd {h : Heap} : ∀ {us : List Value} {ls : List Str}, Paired (fun u l => ∃ y, IsPs h u l y) us ls → risS ls → Srtd (fun v u => ltS (kPs h v) (kPs h u)) us
  | _, _, .nil, _ => List.Pairwise.nil
  | _, _, .cons (a := u) (b := l) hh t, hr => by
    obtain ⟨y, p⟩ := hh
    obtain ⟨r1, r2⟩ := List.pairwise_cons.mp hr
    refine List.pairwise_cons.mpr ⟨fun v m => ?_, ps_srtd t r2⟩
    show ltS (kPs h v) (kPs h u) = false
    rw [(kPs_is p).1]
    exact ltS_asym (r1 _ (ps_mem t v m).1)
theorem ps_uniq {h : Heap} : ∀ {us : List Value} {ls : List Str}, Paired (fun u l => ∃ y, IsPs h u l y) us ls → risS ls → ∀ v ∈ us, ∀ u ∈ us, kPs h v = kPs h u → v = u
  | _, _, .nil, _, v, m, _, _, _ => (List.not_mem_nil m).elim
  | _, _, .cons (a := w) (b := l) hh t, hr, v, mv, u, mu, e => by
    obtain ⟨y, p⟩ := hh
    obtain ⟨r1, r2⟩ := List.pairwise_cons.mp hr
    have ew := (kPs_is p).1
    rcases List.mem_cons.mp mv with e1 | mv
    · rcases List.mem_cons.mp mu with e2 | mu
      · rw [e1, e2]
      · rw [e1, ew] at e
        exact absurd e (ltS_ne (r1 _ (ps_mem t u mu).1))
    · rcases List.mem_cons.mp mu with e2 | mu
      · rw [e2, ew] at e
        exact absurd e.symm (ltS_ne (r1 _ (ps_mem t v mv).1))
      · exact ps_uniq t r2 v mv u mu e
end
open SrtP SrtO in
theorem cr_sortPs {X : Cx} : CallR X (.builtin "sorted") (rSortPs X.K) := by
  intro pins s σ H vs us Q I r h
  obtain ⟨a, xs, ls, rfl, hs, hp, hr, q⟩ := h
  rw [Vals.ref1 r]
  have fin : ∀ (its : List Value), Vals xs its → xs.length ≤ sizeLine → ∀ (h1 h2 : Heap), (∀ b o, s.heap.get? b = some o → h1.get? b = some o) → (∀ b o, h1.get? b = some o → h2.get? b = some o) → (∃ c, h2.get? h1.objs.size = some (seqObj "list" its.toArray c)) → EP X pins σ Q (.ref h1.objs.size) { s with heap := h2 } := fun its rv hz h1 h2 k1 k2 ⟨c, e⟩ => by
    have I1 : Inv X pins σ H { s with heap := h1 } := I.kept (t' := s.toks) k1
    have I2 : Inv X pins σ (upd H h1.objs.size (.lst xs)) { s with heap := h2 } := I1.laid (t' := s.toks) k2 (Nat.le_refl _) (show ObjOk X.prog X.w _ _ _ (.lst xs) from ⟨hz, its, c, rv, e⟩)
    exact ⟨.ref h1.objs.size, _, I2, rfl, q _ (I1.hok.fresh (Nat.le_refl _))⟩
  rcases hs with hs | hs
  · obtain ⟨its, rv, pl, hz⟩ := I.list hs
    have P := ps_of I hp rv
    have hl := rv.length
    obtain ⟨o, ho, hc, n, hd⟩ := pl.isList
    refine sorted_ps (T := "list") (k := kPs s.heap) (m := mPs s.heap) (.inl rfl) ho hc hd (by omega) (fun v m => (ps_mem P v m).2) (fun v mv u mu e => by rw [ps_uniq P hr v mv u mu e]) (ps_srtd P hr) (fin its rv hz)
  · obtain ⟨its, rv, ⟨o, ho, hc, n, hd⟩, hz⟩ := I.tuple hs
    have P := ps_of I hp rv
    have hl := rv.length
    exact sorted_ps (T := "tuple") (k := kPs s.heap) (m := mPs s.heap) (.inr rfl) ho hc hd (by omega) (fun v m => (ps_mem P v m).2) (fun v mv u mu e => by rw [ps_uniq P hr v mv u mu e]) (ps_srtd P hr) (fin its rv hz)
end L2

/-! DV35: t[::-1] of a tuple; sorted(..) of pairs on data. -/
namespace RTZ
open PySem PySem.Spec PyProof.Rows HT
theorem adjust_rev (n : Nat) : Builtin.Slice.sliceAdjust none none (-1) (n : Int) = ((n : Int) - 1, -1) := by
  unfold Builtin.Slice.sliceAdjust
  rfl
theorem places_rev (n : Nat) : Builtin.Slice.slicePlaces ((n : Int) - 1) (-1) (-1) = n := by
  unfold Builtin.Slice.slicePlaces
  have h1 : ¬ (-1 : Int) > 0 := by omega
  have h2 : (- -1 : Int) = 1 := by decide
  simp only [h1, if_false, h2, Int.ediv_one]
  split <;> omega
theorem pick_revZ (xs : Array Value) : ((List.range xs.size).filterMap fun (m : Nat) => xs[((xs.size : Int) - 1 + (m : Int) * -1).toNat]?).toArray = xs.toList.reverse.toArray := by
  have e2 : ∀ l : List Nat, (∀ m ∈ l, m < xs.size) → (l.filterMap fun (m : Nat) => xs[((xs.size : Int) - 1 + (m : Int) * -1).toNat]?) = (l.map fun k => xs.size - 1 - k).filterMap (xs[·]?) := by
    intro l
    induction l with
    | nil => intro _; rfl
    | cons m l ih =>
      intro h
      have hm := h m List.mem_cons_self
      have e3 : ((xs.size : Int) - 1 + (m : Int) * -1).toNat = xs.size - 1 - m := by omega
      rw [List.map_cons, List.filterMap_cons, List.filterMap_cons, e3, ih fun k hk => h k (List.mem_cons_of_mem _ hk)]
  have e := e2 (List.range xs.size) fun m hm => List.mem_range.mp hm
  rw [e, PySem.W.krv_range, List.filterMap_reverse, PySem.W.krv_all]
section
variable {prog : Program} {w : World} {A : Around} {E : Value → Shared → Prop} {s : Shared}
theorem sliceApplied_rev {sl : Addr} {vl vu vs : Value} {n : Nat} {Q : Int × Int × Nat → Shared → Prop} (hs : s.heap.IsSliceOf sl vl vu vs) (pl : IsPart vl none) (pu : IsPart vu none) (ps : IsPart vs (some (-1)))
    (h : Q ((n : Int) - 1, -1, n) s) : wpAny (model prog w) A (Builtin.Slice.sliceApplied (.ref sl) (pure (n : Int))) Q E s := by
  obtain ⟨os, hos, hcs, hds⟩ := id hs
  unfold Builtin.Slice.sliceApplied Builtin.Slice.sliceFields
  refine wpAny_bind (wpAny_bind (wpAny_field hos hds (x := vl) rfl (wpAny_bind (wpAny_field hos hds (x := vu) rfl (wpAny_bind (wpAny_field hos hds (x := vs) rfl (wpAny_pure ?_)))))))
  refine wpAny_bind (slicePart_ ps ?_)
  show wpAny _ _ (if ((-1 : Int) == 0) = true then _ else _) _ _ s
  rw [if_neg (by decide)]
  refine wpAny_bind (slicePart_ pl (wpAny_bind (slicePart_ pu (wpAny_bind (wpAny_pure ?_)))))
  show wpAny _ _ (match Builtin.Slice.sliceAdjust none none (-1) (n : Int) with | (lo, hi) => pure (lo, (-1 : Int), Builtin.Slice.slicePlaces lo hi (-1))) _ _ s
  rw [adjust_rev n]
  show wpAny _ _ (pure ((n : Int) - 1, (-1 : Int), Builtin.Slice.slicePlaces ((n : Int) - 1) (-1) (-1))) _ _ s
  rw [places_rev]
  exact wpAny_pure h
theorem getItem_tuple_rev {t sl : Addr} {items : Array Value} {vl vu vs : Value} {Q : Value → Shared → Prop} (ht : IsTup s.heap t items) (hs : s.heap.IsSliceOf sl vl vu vs) (pl : IsPart vl none) (pu : IsPart vu none) (ps : IsPart vs (some (-1)))
    (h : Q (.ref s.heap.objs.size) { s with heap := s.heap.push { cls := .type "tuple", data := .seq items.toList.reverse.toArray } })
    (hsz : items.size ≤ sizeLine) : wpAny (model prog w) A (getItem (.ref t) (.ref sl)) Q E s := by
  have htake : sizeOk (.seq items.toList.reverse.toArray) := by
    show items.toList.reverse.toArray.size ≤ sizeLine
    rw [List.size_toArray, List.length_reverse, Array.length_toList]
    exact hsz
  obtain ⟨os, hos, hcs, hds⟩ := id hs
  have hTs : s.TypeIs (.ref sl) "slice" := ⟨os, hos, hcs⟩
  unfold getItem
  try with_reducible refine wpAny_holding ?_
  first | refine wpAny_bind (wpAny_pure ?_) | skip
  refine wpAny_bind (wpAny_sequenceKey ht.typeIs (by decide) ?_)
  refine wpAny_bind (wpAny_callSpecial?_slot (name := Str.ofString "__getitem__") ht.typeIs PyProof.Rows.slot_tuple_getitem
    (wpAny_call_entry PyProof.Rows.slot_tuple_getitem ht.typeIs entry_tuple_getitem ?_ (args_tuple_getitem _ _)))
  show wpAny _ _ (Builtin.Tuple.tupleItemsOf (.ref t) >>= _) _ _ s
  refine wpAny_bind (tupleItemsOf_ ht ?_)
  refine wpAny_bind (wpAny_typeOf hTs ?_)
  rw [if_pos (by decide)]
  refine wpAny_bind (sliceApplied_rev hs pl pu ps ?_)
  have hno : ¬ ((((items.size : Int) - 1) == 0 && (-1 : Int) == 1 && items.size == items.size) = true) := by
    intro q
    rw [Bool.and_eq_true, Bool.and_eq_true] at q
    exact absurd q.1.2 (by decide)
  show wpAny _ _ (if (((items.size : Int) - 1) == 0 && (-1 : Int) == 1 && items.size == items.size) = true then _ else _) _ _ s
  rw [if_neg hno, pick_revZ]
  first
    | exact wpAny_bind (m := Builtin.Tuple.tupleExact _) (wpAny_newObj_type (wpAny_pure ⟨_, rfl, wpAny_pure h⟩) htake)
    | exact wpAny_bind (m := Builtin.Tuple.tupleExact _) (wpAny_newObj_type (wpAny_bind (wpAny_pure (wpAny_pure ⟨_, rfl, wpAny_pure h⟩))) htake)
    | exact wpAny_bind (wpAny_bind (m := Builtin.Tuple.tupleExact _) (wpAny_newObj_type (wpAny_pure (wpAny_pure ⟨_, rfl, wpAny_pure h⟩)) htake))
    | exact wpAny_bind (wpAny_bind (m := Builtin.Tuple.tupleExact _) (wpAny_newObj_type (wpAny_pure ⟨_, rfl, wpAny_pure h⟩) htake))
end
end RTZ
namespace L2
open PySem PySem.Spec PyProof.Rows
def tRevZ (K : PySem.W.Frag) (te : TE) : TE := fun σ H Q => te σ H fun x H1 => ∃ a xs, x = .ref a ∧ SqT K H1 a xs ∧ NewZ xs.reverse H1 Q
section
variable {X : Cx}
theorem pe_revZ {e : Expr} {te : TE} {k : Nat} {p1 p2 p3 pos : Pos} (he : PE X e te) : PE X (.Subscript e (.Slice none none (some (.UnaryOp .USub (.Constant (.int 1) k p1) p2)) p3) pos) (tRevZ X.K te) := by
  refine ⟨fun pins s σ H Q I h => ?_⟩
  refine Subscript_ (thn (he.run pins s σ H _ I h) fun v s1 ⟨x, H1, I1, r1, q1⟩ => ?_)
  obtain ⟨a, xs, ex, hx, q⟩ := q1
  subst ex
  cases r1
  have hst : PO X (some (.UnaryOp .USub (.Constant (.int 1) k p1) p2)) (tPart (tUn (rU fun i => .int (-i)) (tC (.int 1)))) := po_some (pe_un un_neg pe_int)
  refine wpAny_Slice (thn (po_none.run pins s1 σ H1 (fun o H2 => o = none ∧ H2 = H1) I1 ⟨rfl, rfl⟩) fun vl s2 ⟨l, H2, I2, pl, el, e2⟩ => ?_)
  subst el e2
  refine thn (po_none.run pins s2 σ H2 (fun o H3 => o = none ∧ H3 = H2) I2 ⟨rfl, rfl⟩) fun vu s3 ⟨u, H3, I3, pu, eu, e3⟩ => ?_
  subst eu e3
  refine thn (hst.run pins s3 σ H3 (fun o H4 => o = some (-1) ∧ H4 = H3) I3 ⟨1, rfl, -1, rfl, rfl, rfl⟩) fun vs s4 ⟨o, H4, I4, ps, eo, e4⟩ => ?_
  subst eo e4
  have I5 : Inv X pins σ H4 { s4 with heap := s4.heap.push { cls := .type "slice", data := .fields #[vl, vu, vs] } } := I4.kept (t' := s4.toks) fun b ob q => Heap.get?_push_of_some _ q
  obtain ⟨its, r, ht, hz⟩ := I5.tuple hx
  have hlen := r.length
  show wpAny (model X.prog X.w) X.A (subscriptTail e (.Slice none none (some (.UnaryOp .USub (.Constant (.int 1) k p1) p2)) p3) (.ref a) (.ref s4.heap.objs.size)) (EP X pins σ Q) X.xe { s4 with heap := s4.heap.push { cls := .type "slice", data := .fields #[vl, vu, vs] } }
  refine tail_any (ops := [.ref a, .ref s4.heap.objs.size]) ht.typeIs (PyProof.Rows.slot_tuple_getitem.lookup) ?_ (by with_unfolding_all rfl)
  refine RTZ.getItem_tuple_rev ht (Heap.IsSliceOf.new _ vl vu vs) pl pu ps ?_ (by rw [List.size_toArray]; omega)
  exact ⟨.ref _, _, I5.laid (t' := s4.toks) (fun b ob q => Heap.get?_push_of_some _ q) (Nat.le_refl _) (newZ_ok (its := its.reverse) (by rw [List.length_reverse]; exact hz) r.reverse (Heap.get?_push_size _ rfl) rfl rfl), rfl, q _ _ rfl (I5.hok.fresh (Nat.le_refl _))⟩
end
end L2
namespace DV
open L2 PySem PySem.Spec PyProof.Rows
def revT : D → Option D
  | .tup ds => some (.tup ds.reverse)
  | _ => none
theorem cd_revT {X : Cx} {e : Expr} {oa : FO} {k : Nat} {p1 p2 p3 pos : Pos} (ha : PE X e (tO (kc X) oa)) : PE X (.Subscript e (.Slice none none (some (.UnaryOp .USub (.Constant (.int 1) k p1) p2)) p3) pos) (tD (kc X) (gOp1 revT oa)) :=
  PE.to (pe_revZ ha) fun σ H Q ⟨F, B, as, ρ, d, ρ', S, e, kk⟩ => by
    obtain ⟨x, dx, e1, e3, e5⟩ := gOp1_some e
    unfold revT at e5
    split at e5
    · cases e5
      refine ⟨F, B, as, ρ, x, ρ', S, e1, fun vx H2 F2 as2 E S2 rx => ?_⟩
      obtain ⟨a, vs, rfl, h1, r1⟩ := (S2.res e3 rx).tup
      refine ⟨a, vs, rfl, h1, fun q ob hd hq => ?_⟩
      obtain ⟨E4, q2⟩ := new_tup hd hq r1.rev
      exact kk _ _ F2 as2 (E.trans E4.pure) (S2.step E4) q2
    · cases e5
@[simp] theorem revT_tup {ds : List D} : revT (.tup ds) = some (.tup ds.reverse) := rfl
/-- pairs (text, x), the texts rising -/
def psLab : List D → Option (List Str)
  | [] => some []
  | .tup [.str l, _] :: r => (psLab r).map (l :: ·)
  | _ => none
instance (ls : List Str) : Decidable (risS ls) := by unfold risS; infer_instance
def sortPsD : D → Option D
  | .tup xs => match psLab xs with
    | some ls => if risS ls then some (.lst xs) else none
    | none => none
  | .lst xs => match psLab xs with
    | some ls => if risS ls then some (.lst xs) else none
    | none => none
  | _ => none
theorem psLab_fit {K : Kc} {F : Addr → Prop} {H : Hp} : ∀ {xs : List D} {ls : List Str} {vs : List V}, psLab xs = some ls → RepL K F H xs vs → Paired (fun x l => ∃ t y, x = V.ref t ∧ SqT K.K H t [.str l, y]) vs ls
  | [], ls, vs, h, r => by
    unfold psLab at h
    cases h
    unfold RepL at r
    subst r
    exact .nil
  | x :: xs, ls, vs, h, r => by
    unfold psLab at h
    split at h
    · cases ‹x :: xs = []›
    · rename_i l z r0 q
      cases q
      obtain ⟨ls', e1, rfl⟩ := Option.map_eq_some_iff.mp h
      unfold RepL at r
      obtain ⟨v, rs, rfl, h1, h2⟩ := r
      unfold Rep at h1
      obtain ⟨a, us, rfl, hz, ru⟩ := h1
      unfold RepL at ru
      obtain ⟨u1, r1, rfl, hu1, ru⟩ := ru
      unfold RepL at ru
      obtain ⟨u2, r2, rfl, hu2, ru⟩ := ru
      unfold RepL at ru
      subst ru
      unfold Rep at hu1
      subst hu1
      exact .cons ⟨a, u2, rfl, hz.T⟩ (psLab_fit e1 h2)
    · cases h
theorem pw_sortPs {K : Kc} : PureW K (rSortPs K.K) sortPsD := by
  intro F H dx d vx Q fk e w k
  unfold sortPsD at e
  split at e
  · rename_i xs
    split at e
    · rename_i ls q
      split at e
      · rename_i hr
        cases e
        obtain ⟨a, vs, rfl, h1, r⟩ := w.tup
        exact ⟨a, vs, ls, rfl, .inr h1, psLab_fit q r, hr, fun p hn => k p _ hn (own_lst hn r)⟩
      · cases e
    · cases e
  · rename_i xs
    split at e
    · rename_i ls q
      split at e
      · rename_i hr
        cases e
        obtain ⟨a, vs, rfl, h1, r⟩ := w.lst
        exact ⟨a, vs, ls, rfl, .inl (SqL.of h1), psLab_fit q r, hr, fun p hn => k p _ hn (own_lst hn r)⟩
      · cases e
    · cases e
  · cases e
def sort2D (d : D) : Option D := match sortD d with
  | some x => some x
  | none => sortPsD d
def rSort2 (K : PySem.W.Frag) : List V → Hp → VK → Prop := fun xs H Q => rSortD K xs H Q ∨ rSortPs K xs H Q
theorem pw_sort2 {K : Kc} : PureW K (rSort2 K.K) sort2D := by
  intro F H dx d vx Q fk e w k
  unfold sort2D at e
  split at e
  · rename_i x q
    cases e
    exact .inl (pw_sort F H dx d vx Q fk q w k)
  · exact .inr (pw_sortPs F H dx d vx Q fk e w k)
theorem w_sorted2 {X : Cx} {a : Expr} {oa : FO} {p pos : Pos} (Z : Zs X.mg) (hc : X.calm = true) (ha : PE X a (tO (kc X) oa)) (hg : Gl X "sorted" := by rfl) (he : starEach [a] X.env = (false, eval a X.env) :: starEach [] X.env := by rfl) : PE X (.Call (.Name "sorted" p) [a] [] pos) (tW (kc X) (gOp1W sort2D oa)) :=
  cw_callB1 (CallR.or (CallR.or (call_sortedD hc) cr_sortedS) cr_sortPs) pw_sort2 hg Z.sorted boot_sorted' ha (he := he)
end DV

/-! DV36: a def that looks at one value and raises an own error at some; try: f(x) except X: suite. -/
namespace DV
open L2 PySem PySem.Spec PyProof.Rows
/-- what such a def promises: G d: true: it ends with None; false: it raises C -/
def spX (K : Kc) (C : Addr) (G : D → Option Bool) : Sp := fun vs H Q E => ∃ (F : Addr → Prop) (v : V) (d : D) (b : Bool), vs = [v] ∧ Rep K F H d v ∧ (∀ a, F a → H a ≠ none) ∧ G d = some b ∧
  ∀ H' F', Ext F [] H F' [] H' → (if b = true then Q .non H' else E (.ref C) none H')
/-- an own error class over ValueError -/
structure ErrC (K : PySem.W.Frag) (mg : Str → Option Value) (x : Str) (C : Addr) : Prop where
  g : mg x = some (.ref C)
  q : PySem.W.excIn K C [.type "ValueError", .type "Exception", .type "BaseException", .type "object"] "ValueError.__new__" = true
  k : PySem.W.keepIn K (.ref C) = true
  b : PySem.W.subIn K (.ref C) (.type "BaseException") = some true
  t : PySem.W.typeIn K (.ref C) = some (.type "type")
  e : PySem.W.exmOne K (.ref C) (.ref C) = some true
def ErrF (K : PySem.W.Frag) (mg : Str → Option Value) (x : Str) : Prop := ∃ C, ErrC K mg x C
theorem exm_self {K : PySem.W.Frag} {S : Addr} (h1 : PySem.W.subIn K (.ref S) (.type "BaseException") = some true) (h2 : PySem.W.isClsIn K S = true) (h3 : PySem.W.typeIn K (.ref S) = some (.type "type")) (h4 : PySem.W.subIn K (.ref S) (.ref S) = some true) :
    PySem.W.exmOne K (.ref S) (.ref S) = some true := by
  have e1 : (PySem.W.subIn K (.ref S) (.type "BaseException") == some true) = true := by rw [h1] <;> rfl
  have e2 : ((PySem.W.clsIn K S).isSome && PySem.W.typeIn K (.ref S) == some (.type "type")) = true := by
    have h2' : (PySem.W.clsIn K S).isSome = true := h2
    rw [h2', h3] <;> rfl
  show (if (PySem.W.subIn K (.ref S) (.type "BaseException") == some true) = true then (if ((PySem.W.clsIn K S).isSome && PySem.W.typeIn K (.ref S) == some (.type "type")) = true then PySem.W.subIn K (.ref S) (.ref S) else none) else none) = some true
  rw [if_pos e1, if_pos e2]
  exact h4
theorem errF_mk {K : PySem.W.Frag} {mg : Str → Option Value} {h : Heap} {x : Str} {C : Addr} (X : K.In h) (G : h.Ns mainGlobals mg) (a : PySem.W.nsIn K mainGlobals x = some (some (.ref C)))
    (q : PySem.W.excIn K C [.type "ValueError", .type "Exception", .type "BaseException", .type "object"] "ValueError.__new__" = true) (k : PySem.W.keepIn K (.ref C) = true) (b : PySem.W.subIn K (.ref C) (.type "BaseException") = some true) (t : PySem.W.typeIn K (.ref C) = some (.type "type"))
    (i : PySem.W.isClsIn K C = true) (s : PySem.W.subIn K (.ref C) (.ref C) = some true) : ErrF K mg x := ⟨C, PySem.W.mg_of X G a, q, k, b, t, exm_self b i t s⟩
/-- the table's entry for such a def -/
def mkX (G : D → Option Bool) : FnD := fun ds => match ds with
  | [d] => (G d).map fun b => (.bl b, false, [])
  | _ => none
def unX (G : FnD) (d : D) : Option Bool := match G [d] with
  | some (.bl b, _, _) => some b
  | _ => none
theorem unX_mk (G : D → Option Bool) : unX (mkX G) = G := by
  funext d
  unfold unX mkX
  cases h : G d <;> simp [h]
structure FnX (P : Program) (w : World) (K : PySem.W.Frag) (mg : Str → Option Value) (base : Heap) (n : Nat) (x xb : Str) (G : D → Option Bool) : Prop where
  at_ : ∃ C f fd p, ErrC K mg xb C ∧ mg x = some (.ref f) ∧ PySem.W.keepIn K (.ref f) = true ∧ Binds K fd [p] [] ∧ FnOk P w K mg base (L2.CX P w) n f fd [p] (spX ⟨K, mg⟩ C G)
/-- the body: if t: raise C(..) -/
def tX (K : Kc) (C : Addr) (t : FT) (E : XK) : TS := tIfS (tB K t) (fun _ _ H => E (.ref C) none H) (fun D σ H => D.nx σ H)
def runX (N : Nat) (t : FT) : D → Option Bool := fun d => match t (.sh d :: List.replicate (N - 1) .no) with
  | some (b, _) => some (!b)
  | none => none
section
variable {P : Program} {w : World} {K : PySem.W.Frag} {mg : Str → Option Value} {base : Heap}
theorem FnX.zero {x xb p : Str} {st : Stmt} {G : D → Option Bool} (Er : ErrF K mg xb) (D : DefF K mg x st [p]) (hG : ∀ d, G d = none) : FnX P w K mg base 0 x xb G := by
  obtain ⟨C, er⟩ := Er
  obtain ⟨f, fd, hm, F, hb⟩ := D.ex
  have no : ∀ vs H Q E, ¬ spX ⟨K, mg⟩ C G vs H Q E := fun vs H Q E h => by
    obtain ⟨F, v, d, b, _, _, _, e, _⟩ := h
    rw [hG] at e; cases e
  exact ⟨C, f, fd, p, er, hm, F.kp, hb, ⟨fun vs H Q E h => absurd h (no vs H Q E), fun A outer s H args us vs Q E _ _ _ _ h => absurd h (no vs H Q E)⟩⟩
theorem FnX.step {x xb p : Str} {st : Stmt} {N : List Str} {n : Nat} {t : FT} (Er : ErrF K mg xb) (D : DefF K mg x st [p]) (S : FnScope N [p] (defScope st))
    (hbody : ∀ (C : Addr), ErrC K mg xb C → ∀ (f : Addr) (cdv : Value) (A : Around) (outer : List PySem.Env) (s : Shared) (H : Hp) (E : XK), Room n (A.deeper (envOfC x (defScope st) s.heap.objs.size f cdv)) →
      PSs (cxOf (L2.CX P w) P w K mg base N x (defScope st) f cdv A outer s H E) (defBody st) (tX ⟨K, mg⟩ C t E)) :
    FnX P w K mg base (n + 1) x xb (unX (mkX (runX N.length t))) := by
  rw [unX_mk]
  obtain ⟨C, er⟩ := Er
  obtain ⟨f, fd, hm, F, hbi⟩ := D.ex
  refine ⟨C, f, fd, p, er, hm, F.kp, hbi, F.okX S (fun vs H Q E h => ?_) fun cdv A outer s H vs Q E hr h => ⟨_, hbody C er f cdv A outer s H E hr, ?_⟩⟩
  · obtain ⟨F, v, d, b, rfl, _⟩ := h
    rfl
  · obtain ⟨F, v, d, b, rfl, r, fk, e, k⟩ := h
    unfold runX at e
    split at e
    · rename_i bt ρ' q
      cases e
      have hA : ArgR ⟨K, mg⟩ F H [false] [d] [v] [] := by
        unfold ArgR
        exact ⟨v, [], rfl, r, by unfold ArgR; exact ⟨rfl, rfl⟩⟩
      obtain ⟨Bs, hB⟩ := hA.bb
      have env := env_start (n := N.length - 1) (B := Bs) (k := 0) hA hB fun j a h => by simpa using h
      have Si : Sit ⟨K, mg⟩ F Bs H (.sh d :: List.replicate (N.length - 1) .no) (start N [v]) [] := ⟨env, List.nodup_nil, (fun a m => by cases m), fk⟩
      refine ⟨F, Bs, [], _, bt, ρ', Si, q, fun H' F' as' E' S' => ?_⟩
      have kk := k H' F' (E'.sub fun b m => by cases m)
      cases bt
      · simpa using kk
      · simpa using kk
    · cases e
end
/-- try: f(x) except C: suite -/
def gBad (G : D → Option Bool) (i : Nat) (h : FS) : FS := fun ρ => match gNm i ρ with
  | some (d, ρ1) => match G d with
    | some true => some (.nx, ρ1)
    | some false => h ρ1
    | none => none
  | none => none
/-- the body of such a def -/
theorem css_look {X : Cx} {xb m : Str} {C : Addr} {t : FT} {c : Expr} {E : XK} {j2 : Nat} {q1 q2 q3 q4 q5 : Pos} (er : ErrC X.K X.mg xb C) (hc : X.calm = true) (tk : Takes X (fun cls d _ H => E cls d H)) (hg : Gl X xb) (ht : PT X c (tB (kc X) t)) (hdb : (xb == ("__debug__" : Str)) = false := by decide) :
    PSs X [.If c [.Raise (some (.Call (.Name xb q1) [.Constant (.str m) j2 q2] [] q3)) none q4] [] q5] (tX (kc X) C t E) :=
  PSs.to (pss_one (ps_if ht (pss_one (ps_raise hc tk (pmk_own PySem.F.excBase_ValueError er.q er.g er.k (raises_own er.b er.t) hg hdb))) pss_nil)) fun D σ H h => h
theorem cs_try {X : Cx} {n i : Nat} {x xb y : Str} {G : D → Option Bool} {gs : FS} {b₀ : Stmt} {suite : List Stmt} {p cp np p1 p2 pos pos' : Pos} (Fn : FnX X.prog X.w X.K X.mg X.base n x xb G) (hr : Room n X.A) (hg : Gl X x) (hgb : Gl X xb)
    (hs : X.stack = X.env :: X.outer) (hf : X.env.frame = some X.env.locals)
    (ha : ∀ (pn : List (Addr × Obj)) (xe : Value → Shared → Prop), PE (X.tr pn xe) (.Name y p) (tD (kc X) (gNm i)))
    (hsu : ∀ (a : Addr) (pn : List (Addr × Obj)), PSs (X.suite a pn) (b₀ :: suite) (tS (kc X) gs))
    (hdbb : (xb == ("__debug__" : Str)) = false := by decide) (hsw : swapsWith (.Call (.Name x cp) [.Name y p] [] p1) none p2.line X.env = pure false := by rfl)
    (hdb : (x == ("__debug__" : Str)) = false := by decide) (he : starEach [.Name y p] X.env = (false, eval (.Name y p) X.env) :: starEach [] X.env := by rfl) (hpl : (backTo p1 (starEach [] X.env)).any (·.1) = false := by rfl) :
    PS X (.Try [.Expr (.Call (.Name x cp) [.Name y p] [] p1) p2] [.ExceptHandler (some (.Name xb np)) none (b₀ :: suite) pos'] [] [] pos) (tS (kc X) (gBad G i gs)) := by
  obtain ⟨C, f, fd, q, er, hm, hk, hb, ok⟩ := Fn.at_
  have hn : Names X xb (.ref C) := ⟨hgb, hdbb, .inl er.g⟩
  have hC := er.e
  refine PS.to (ps_try_only (tb := fun W => tDrop (tCallS (spX (kc X) C G) (WE W) (tCons (tD (kc X) (gNm i)) tNil))) (ts := fun _ _ _ => tS (kc X) gs) (Wout := fun _ _ _ _ => False) hs hf hn takes0
    (fun W pn xe tk _ => pss_one (ps_expr (pe_callS ok hr hg hm hk hb (fun σ => passAt tk σ) (pa_cons (ha pn xe) pa_nil he) hdb he hpl) hsw))
    (fun a oe cls d pn _ _ => hsu a _)) fun D σ H h => ?_
  obtain ⟨F, B, as, ρ, fl, ρ', S, e, k⟩ := h
  unfold gBad at e
  split at e
  · rename_i d ρ1 q1
    refine ⟨F, B, as, ρ, d, ρ1, S, q1, fun v H1 F1 as1 E1 S1 r1 => ?_⟩
    split at e
    · rename_i q2
      cases e
      refine ⟨F1, v, d, true, rfl, r1, S1.fk, q2, fun H2 F2 E2 => ?_⟩
      simp only [if_true]
      exact k σ H2 F2 as1 (E1.trans E2.pure) (S1.step E2)
    · rename_i q2
      refine ⟨F1, v, d, false, rfl, r1, S1.fk, q2, fun H2 F2 E2 => ?_⟩
      simp only [Bool.false_eq_true, if_false]
      refine ⟨true, hC, fun _ a _ => ⟨F2, B, as1, ρ1, fl, ρ', S1.step E2, e, k.ext (E1.trans E2.pure)⟩, fun z => by cases z⟩
    · cases e
  · cases e
end DV

/-! DV37: sorted(d.items()), the keys texts that stand in order already. -/
namespace L2
open PySem PySem.Spec PyProof.Rows DX
/-- new tuples, one after the other -/
def NewPs : List (List V) → (List V → Hp → Prop) → Hp → Prop
  | [], k, H => k [] H
  | xs :: r, k, H => NewZ xs H fun v H1 => NewPs r (fun vs H2 => k (v :: vs) H2) H1
def tItems (K : PySem.W.Frag) (to : TE) : TE := fun σ H Q => to σ H fun x H1 => ∃ (a : Addr) (kvs : List (Key × V)), x = .ref a ∧ Rd H1 a (.dK kvs) ∧ ∀ p, H1 p = none → Q (.ref p) (upd H1 p (itemsO p a))
theorem pe_items {X : Cx} {o : Expr} {to : TE} {apos cpos : Pos} (ho : PE X o to)
    (hbase : attributeBase o "items" X.env (eval o X.env) = eval o X.env := by rfl) (hline : (apos.endLine == cpos.line) = true := by rfl) :
    PE X (.Call (.Attribute o "items" apos) [] [] cpos) (tItems X.K to) := by
  refine ⟨fun pins s σ H Q I h => ?_⟩
  refine wpAny_Call_method (T := "dict") (id := "dict.items") hbase rfl hline F.plainAttrs_dict F.slot_dict_items F.type_dict_items (thn (ho.run pins s σ _ _ I h) fun u s1 ⟨x, H1, I1, rx, a, kvs, ex, hd, q⟩ => ?_)
  subst ex
  obtain rfl : u = Value.ref a := rx
  obtain ⟨z, hsm, vs, rel, dd⟩ := dk_rd I1.hok hd
  refine ⟨dd.typeIs, dd.mapOf.noDict, ?_⟩
  have hf : H1 s1.heap.objs.size = none := I1.hok.fresh (Nat.le_refl _)
  have fin : EP X pins σ Q (.ref s1.heap.objs.size) { s1 with heap := s1.heap.push { cls := .type "dict_items", data := .fields #[.ref a] } } :=
    ⟨.ref s1.heap.objs.size, upd H1 s1.heap.objs.size (itemsO s1.heap.objs.size a), I1.laid (t' := s1.toks) (fun b u e => Heap.get?_push_of_some _ e) (Nat.le_refl _) (itemsO_ok (Heap.get?_push_size _ rfl)), rfl, q _ hf⟩
  show wpAny _ _ (callWith cpos (.builtin "dict.items") [.ref a] [] []) _ X.xe s1
  exact method_meetsIn F.slot_dict_items F.entry_dict_items rfl (PySem.evalArgs_none ⟨rfl, dd.typeIs, F.args_dict_items_1 _, _, meets_dict_items (mixKind X.prog X.w) a hsm, ⟨vs, dd⟩, fin⟩)
theorem paired_idx {α β : Type} {R : α → β → Prop} : ∀ {as : List α} {bs : List β}, as.length = bs.length → (∀ (j : Nat) (a : α) (b : β), as[j]? = some a → bs[j]? = some b → R a b) → Paired R as bs
  | [], [], _, _ => .nil
  | [], _ :: _, h, _ => by simp at h
  | _ :: _, [], h, _ => by simp at h
  | a :: as, b :: bs, h, f => .cons (f 0 a b rfl rfl) (paired_idx (by simpa using h) fun j a b h1 h2 => f (j + 1) a b (by simpa using h1) (by simpa using h2))
theorem pairs_at {prog : Program} {w : World} {K : Type} [DecidableEq K] {knd : KeyKind prog w K} : ∀ {es : List DictEntry} {ws : List (K × Value)}, Pairs knd es ws → ∀ {j : Nat} {e : DictEntry}, es[j]? = some e → ∃ x, ws[j]? = some x ∧ knd.is x.1 e.key = true ∧ e.val = x.2
  | _, _, .nil, j, e, h => by simp at h
  | _, _, .cons h1 h2 t, 0, e, h => by
    simp at h
    subst h
    exact ⟨_, rfl, h1, h2⟩
  | _, _, .cons h1 h2 t, j + 1, e, h => by
    simp at h
    obtain ⟨x, q, r⟩ := pairs_at t h
    exact ⟨x, by simpa using q, r⟩
section
variable {X : Cx}
theorem takeP {pins : List (Addr × Obj)} {σ : St} {H0 : Hp} {s : Shared} {h' : Heap} {tk : Nat} {l : Addr} (I0 : Inv X pins σ H0 s) {as : List Addr} {xss : List (List V)}
    (hp : Paired (fun (a : Addr) (xs : List V) => s.heap.objs.size ≤ a ∧ ∃ (ob : Obj) (its : List Value) (n : Nat), xs.length ≤ sizeLine ∧ Vals xs its ∧ h'.get? a = some ob ∧ ob.cls = .type "tuple" ∧ ob.dict = none ∧ ob.data = .seq its.toArray n) as xss) :
    ∀ {k : List V → Hp → Prop} {H1 : Hp}, Inv X pins σ H1 { s with heap := h', toks := tk } → as.Nodup → (∀ a ∈ as, H1 a = none) → H1 l = none → l ∉ as → NewPs xss k H1 →
    ∃ H2, Inv X pins σ H2 { s with heap := h', toks := tk } ∧ H2 l = none ∧ k (as.map V.ref) H2 := by
  induction hp with
  | nil => intro k H1 I1 _ _ hl _ q; exact ⟨H1, I1, hl, q⟩
  | @cons a xs as xss hp t ih =>
    intro k H1 I1 hn hnone hl hla q
    obtain ⟨hb, ob, its, n, z, r, e, hc, hdd, hd⟩ := hp
    have ha := hnone a List.mem_cons_self
    rw [List.nodup_cons] at hn
    have I2 : Inv X pins σ (upd H1 a (.frz ob (.tup xs))) { s with heap := h', toks := tk } := I1.take (h' := h') (t' := tk) (fun b ob _ e => e) (I0.fpOk hb ha) (newZ_ok z r e hc hd)
    have hla' : l ≠ a := fun e => hla (by rw [e]; exact List.mem_cons_self)
    exact ih (k := fun vs H2 => k (V.ref a :: vs) H2) I2 hn.2 (fun c hc => by rw [upd_ne (fun z => hn.1 (by rw [← z]; exact hc))]; exact hnone c (List.mem_cons_of_mem _ hc)) (by rw [upd_ne hla']; exact hl) (fun m => hla (List.mem_cons_of_mem _ m)) (q a ob hdd ha)
theorem vals_refs : ∀ as : List Addr, Vals (as.map V.ref) (as.map Value.ref)
  | [] => .nil
  | a :: as => .cons rfl (vals_refs as)
def rSortItS (K : PySem.W.Frag) : List V → Hp → VK → Prop := fun vs H Q => ∃ (p a : Addr) (kvs : List (Key × V)) (ls : List Str), vs = [.ref p] ∧ H p = some (itemsO p a) ∧ Rd H a (.dK kvs) ∧ kvs.map (·.1) = ls.map Sum.inr ∧ risS ls ∧
  NewPs (kvs.map fun kv => [kV kv.1, kv.2]) (fun xs H1 => ∀ l, H1 l = none → Q (.ref l) (upd H1 l (.lst xs))) H
open SrtP SrtO in
theorem cr_sortItS (hc : X.calm = true) : CallR X (.builtin "sorted") (rSortItS X.K) := by
  intro pins s σ H xs us Q I r h
  obtain ⟨p, a, kvs, ls, rfl, hp, hd, hk, hr, q⟩ := h
  obtain rfl := Vals.ref1 r
  have view : s.heap.IsItemsView p a := (show ObjOk X.prog X.w H s.heap p (itemsO p a) from I.hok p _ hp).1
  obtain ⟨z, hsm, ws, rel, o, es, ep, ho, hx, hdat, _, hpairs, _⟩ := dk_rd I.hok hd
  have l1 : kvs.length = ws.length := Paired.length rel
  have l2 : es.size = ws.length := by have := Pairs.length hpairs; simpa using this
  have l3 : kvs.length = ls.length := by have := congrArg List.length hk; simpa using this
  have hh : X.A.handled = none := I.ok.hd hc
  refine DT.sortedI (es := es) (ep := ep) hh view ⟨o, ho, hx, hdat⟩ (by omega) fun h' tk as hk' hlt hl hG => ?_
  have lak : as.length = kvs.length := by omega
  have nd : as.Nodup := List.Pairwise.imp (fun h => Nat.ne_of_lt h) hG.rise
  have pr : ∀ (j : Nat) (b : Addr), as[j]? = some b → ∃ (kv : Key × V) (e : DictEntry), kvs[j]? = some kv ∧ h'.get? b = some { cls := .type "tuple", data := .seq #[e.key, e.val] } ∧ keyIs kv.1 e.key = true ∧ RelV kv.2 e.val := by
    intro j b hj
    obtain ⟨e, he, hg⟩ := hG.pairs j b hj
    obtain ⟨x, hxj, k1, k2⟩ := pairs_at hpairs (by rw [Array.getElem?_toList]; exact he)
    obtain ⟨kv, hkv, r1, r2⟩ := pget rel hxj
    exact ⟨kv, e, hkv, hg, by rw [r1]; exact k1, by rw [k2]; exact r2⟩
  have hob : (h'.push { cls := .type "list", data := .seq (as.map Value.ref).toArray }).get? h'.objs.size = some (seqObj "list" (as.map Value.ref).toArray 0) := Heap.get?_push_size _ rfl
  have kb : ∀ b o, h'.get? b = some o → (h'.push { cls := .type "list", data := .seq (as.map Value.ref).toArray }).get? b = some o := fun b o e => Heap.get?_push_of_some _ e
  have hsz2 : (h'.push { cls := .type "list", data := .seq (as.map Value.ref).toArray }).objs.size = h'.objs.size + 1 := Heap.size_push ..
  generalize hh2 : h'.push { cls := .type "list", data := .seq (as.map Value.ref).toArray } = h2 at hob kb hsz2 ⊢
  have P : Paired (fun u l => ∃ y, IsPs h2 u l y) (as.map Value.ref) ls := by
    refine paired_idx (by rw [List.length_map]; omega) fun j u l hu hl => ?_
    rw [List.getElem?_map] at hu
    obtain ⟨b, hb, rfl⟩ := Option.map_eq_some_iff.mp hu
    obtain ⟨kv, e, hkv, hg, k1, k2⟩ := pr j b hb
    have e1 := congrArg (fun l => l[j]?) hk
    simp only [List.getElem?_map, hkv, hl, Option.map_some] at e1
    have e2 : kv.1 = .inr l := Option.some.inj e1
    rw [e2] at k1
    rcases keyIs_shape k1 with ⟨i, t, z, _⟩ | ⟨x, t, z, hv⟩
    · cases z
    · cases z
      exact ⟨e.val, b, _, t, 0, rfl, kb _ _ hg, rfl, by rw [hv]⟩
  have hz : (as.map Value.ref).length ≤ sizeLine := by rw [List.length_map]; omega
  refine wpAny_call_entry slot_list_sort (s := { s with heap := h2, toks := tk }) ⟨_, hob, rfl⟩ entry_list_sort (sort_ps (k := kPs h2) (m := mPs h2) hob hz (fun v hv => (ps_mem P v hv).2) (fun v mv u mu e => by rw [ps_uniq P hr v mv u mu e]) (ps_srtd P hr) ⟨_, rfl, ?_⟩) (args_list_sort _)
  show EP X pins σ Q (.ref h'.objs.size) { s with heap := sortedHeap h2 h'.objs.size (as.map Value.ref) (as.map Value.ref).toArray, toks := tk }
  have old : ∀ b ob, h'.get? b = some ob → (sortedHeap h2 h'.objs.size (as.map Value.ref) (as.map Value.ref).toArray).get? b = some ob := fun b ob e => by
    have hlt := Heap.lt_size e
    rw [sortedHeap_old (Nat.ne_of_lt hlt) (by rw [hsz2]; exact Nat.lt_succ_of_lt hlt)]
    exact kb _ _ e
  obtain ⟨c, hL⟩ := sortedHeap_at (out := (as.map Value.ref).toArray) hob
  generalize hF : sortedHeap h2 h'.objs.size (as.map Value.ref) (as.map Value.ref).toArray = h3 at old hL ⊢
  have I1 : Inv X pins σ H { s with heap := h3, toks := tk } := I.kept (t' := tk) fun b ob e => old b ob (hk' b ob e)
  have big : ∀ b ∈ as, s.heap.objs.size ≤ b := fun b hb => Nat.le_of_lt (hG.above b hb)
  have hl0 : H h'.objs.size = none := I.hok.fresh (Nat.le_of_lt hlt)
  obtain ⟨H2, I2, n2, q2⟩ := takeP (l := h'.objs.size) (as := as) I (paired_idx (by rw [List.length_map]; exact lak) fun j b ys hb hy => by
    obtain ⟨kv, e, hkv, hg, k1, k2⟩ := pr j b hb
    rw [List.getElem?_map, hkv] at hy
    cases hy
    exact ⟨big b (List.mem_of_getElem? hb), _, [e.key, e.val], 0, (by show 2 ≤ sizeLine; decide), .cons (relV_key k1) (.cons k2 .nil), old _ _ hg, rfl, rfl, rfl⟩) I1 nd (fun b hb => I.hok.fresh (big b hb)) hl0 (fun hm => absurd (hG.there hm) (Nat.lt_irrefl _)) q
  have I3 : Inv X pins σ (upd H2 h'.objs.size (.lst (as.map V.ref))) { s with heap := h3, toks := tk } := I2.take (h' := h3) (t' := tk) (fun b ob _ e => e) (I.fpOk (Nat.le_of_lt hlt) n2) (show ObjOk X.prog X.w _ _ _ (.lst (as.map V.ref)) from ⟨by rw [List.length_map]; omega, _, c, vals_refs as, hL⟩)
  exact ⟨.ref h'.objs.size, _, I3, rfl, q2 _ n2⟩
end
end L2

/-! DV38: sorted(d.items()) on data. -/
namespace DV
open L2 PySem PySem.Spec PyProof.Rows L2.DX
def itL : List Str → List D → List D
  | l :: ls, d :: ds => .tup [.str l, d] :: itL ls ds
  | _, _ => []
def sortItD : D → Option D
  | .dic ks vs => match strsOf ks with
    | some ls => if risS ls then some (.lst (itL ls vs)) else none
    | none => none
  | _ => none
theorem newPs_fit {K : Kc} {F : Addr → Prop} : ∀ {kvs : List (Key × V)} {ls : List Str} {ds : List D} {H : Hp} {k : List V → Hp → Prop}, kvs.map (·.1) = ls.map Sum.inr → RepL K F H ds (kvs.map (·.2)) →
    (∀ vs H', Ext F [] H F [] H' → RepL K F H' (itL ls ds) vs → k vs H') → NewPs (kvs.map fun kv => [kV kv.1, kv.2]) k H
  | [], ls, ds, H, k, hk, r, h => by
    have hl : ls = [] := by
      cases ls with
      | nil => rfl
      | cons _ _ => simp at hk
    subst hl
    exact h [] H .refl (by unfold itL RepL; rfl)
  | kv :: kvs, [], ds, H, k, hk, r, h => by simp at hk
  | kv :: kvs, l :: ls, [], H, k, hk, r, h => by unfold RepL at r; simp at r
  | kv :: kvs, l :: ls, d :: ds, H, k, hk, r, h => by
    simp only [List.map_cons, List.cons.injEq] at hk
    rw [List.map_cons] at r
    unfold RepL at r
    obtain ⟨v, r0, e, r1, r2⟩ := r
    cases e
    show NewZ [kV kv.1, kv.2] H fun v H1 => NewPs (kvs.map fun kv => [kV kv.1, kv.2]) (fun vs H2 => k (v :: vs) H2) H1
    intro p ob hd hp
    have hkv : kV kv.1 = V.str l := by rw [hk.1]; rfl
    rw [hkv]
    obtain ⟨E, rt⟩ := new_tup hd hp (RepL.cons Rep.str' (RepL.cons r1 RepL.nil) : RepL K F H [.str l, d] [V.str l, kv.2])
    refine newPs_fit hk.2 (RepL.stb E.stb.weak _ _ r2) fun vs H' E' rr => ?_
    refine h (.ref p :: vs) H' (E.trans E') ?_
    show RepL K F H' (.tup [.str l, d] :: itL ls ds) (.ref p :: vs)
    exact RepL.cons (Rep.stb E'.stb.weak _ _ rt) rr
theorem w_sortedIt {X : Cx} {o : Expr} {oa : FO} {p apos cpos pos : Pos} (Z : Zs X.mg) (hc : X.calm = true) (ho : PE X o (tO (kc X) oa)) (hg : Gl X "sorted" := by rfl)
    (hbase : attributeBase o "items" X.env (eval o X.env) = eval o X.env := by rfl) (hline : (apos.endLine == cpos.line) = true := by rfl)
    (he : starEach [.Call (.Attribute o "items" apos) [] [] cpos] X.env = (false, eval (.Call (.Attribute o "items" apos) [] [] cpos) X.env) :: starEach [] X.env := by rfl) (hpl : (backTo pos (starEach [] X.env)).any (·.1) = false := by rfl) :
    PE X (.Call (.Name "sorted" p) [.Call (.Attribute o "items" apos) [] [] cpos] [] pos) (tW (kc X) (gOp1W sortItD oa)) :=
  PE.to (pe_callB (cr_sortItS hc) hg Z.sorted boot_sorted' (pa_cons (pe_items ho hbase hline) pa_nil he) (by decide) (by decide) he hpl) fun σ H Q h => by
    obtain ⟨F, B, as, ρ, d, w, ρ', S, e, kk⟩ := h
    obtain ⟨p, e9, e2⟩ := Option.map_eq_some_iff.mp e
    cases e2
    obtain ⟨x, dx, e1, e3, e5⟩ := gOp1_some e9
    refine ⟨F, B, as, ρ, x, p.2, S, e1, fun vx H2 F2 as2 E S2 rx => ?_⟩
    have w := S2.res e3 rx
    unfold sortItD at e5
    split at e5
    · rename_i ks vs
      split at e5
      · rename_i ls q
        split at e5
        · rename_i hr
          simp only [Option.some.injEq] at e5
          have e7 := strsOf_eq q
          unfold Vw at w
          obtain ⟨a, kvs, rfl, h1, h3, r⟩ := w
          have hk : kvs.map (·.1) = ls.map Sum.inr := by
            apply dkey_strs
            rw [← h3, e7]
          refine ⟨a, kvs, rfl, h1, fun q hq => ?_⟩
          have E3 : Ext F2 [] H2 F2 [] (upd H2 q (itemsO q a)) := (Ext.newO (as := []) hq).sub fun b m => by cases m
          refine ⟨q, a, kvs, ls, rfl, upd_same, Rd.upd hq h1, hk, hr, newPs_fit hk (RepL.stb E3.stb.weak _ _ r) fun us H4 E4 r4 => ?_⟩
          intro l hl
          have S4 := (S2.step E3).step E4
          obtain ⟨E5, S5⟩ := new_own hl S4 (own_lst hl r4)
          rw [← e5] at kk
          exact kk _ _ F2 as2 [l] (((E.trans E3.pure).trans E4.pure).trans E5) S5
        · cases e5
      · cases e5
    · cases e5
end DV

/-! DV39: the law's def, walked where it is known that no repr is under way. -/
namespace DV
open L2 PySem PySem.Spec PyProof.Rows
/-- the law's def called from outside -/
def LawAt (P : Program) (w : World) (K : PySem.W.Frag) (mg : Str → Option Value) (base : Heap) (fa : Addr) (fd : FuncData) (sp : Sp) : Prop :=
  ∀ (s : Shared) (H : Hp) (u : Value) (v : V) (Q : VK) (E : XK), Env0 P w K mg base callerA [] s H → RelV v u → sp [v] H Q E → BindsTo s fd ⟨[u], []⟩ [("script", u)] →
    codeAny (model P w) callerA (.call (.ref fa) ⟨[u], []⟩) (CR CX0 [] P w H s Q E) s
section
variable {P : Program} {w : World} {K : PySem.W.Frag} {mg : Str → Option Value} {base : Heap}
theorem lawAt_of {f : Addr} {name qual : Str} {params : Arguments} {body : List Stmt} {scope : Scope} {dV kV doc pm cdv ct oc : Value} {an od : Option Addr} {osl : Array (Option Value)} {N : List Str} {sp : Sp}
    (lk : K.lookup f = some ⟨oc, od, .func (PySem.W.fnOf name qual params body scope dV kV doc pm an cdv ct), osl⟩) (hcd : PySem.W.codeIn K cdv qual = true) (S : FnScope N ["script"] scope)
    (hb : ∀ (s : Shared) (H : Hp) (v : V) (Q : VK) (E : XK), sp [v] H Q E → ∃ t, PSs (cxOf CX0 P w K mg base N qual scope f cdv callerA [] s H E) body t ∧ t { nx := fun _ H' => Q .non H', rt := Q } (start N [v]) H) :
    LawAt P w K mg base f (PySem.W.fnOf name qual params body scope dV kV doc pm an cdv ct) sp := by
  intro s H u v Q E en rv hs hbi
  have kin : K.In s.heap := en.mod.kin.keeps fun b o z => (en.bs b o z).1
  have nol : s.heap.NoLimit := en.mod.nolimit.keeps fun b o z => (en.bs b o z).1
  refine codeAny_call_function (by decide) (kin _ _ lk) rfl S.co S.gen rfl (PySem.W.codeRec_of kin hcd) (hbi _ _ _ _ ?_)
  refine wpAny_newFunctionEnv_cells S.kind (fun y hy => ?_) fun e2 he s1 x => ?_
  · obtain rfl : y = (("script" : Str), u) := List.mem_singleton.mp hy
    exact (S.par "script" (List.mem_singleton.mpr rfl)).imp id fun q => ⟨q, PySem.W.cellsFrom_some _ _ _ (.inl q)⟩
  cases he
  refine ⟨nol.keeps x.toInCall.keep, codeAny_func ?_⟩
  obtain ⟨t, ht, hq⟩ := hb s H v Q E hs
  have I0 : Inv (cxOf CX0 P w K mg base N qual scope f cdv callerA [] s H E) [] (start N [v]) H s1 := inv_start S rfl en rfl (.cons rv .nil) x
  refine wpAny_mono (ht.run [] s1 (start N [v]) H _ I0 hq) (fun fl s' z => ?_) fun _ _ z => z
  cases fl with
  | brk => obtain ⟨_, _, _, q⟩ := z; exact False.elim q
  | cont => obtain ⟨_, _, _, q⟩ := z; exact False.elim q
  | ret u' =>
    obtain ⟨v', σ', H', J, r', q⟩ := z
    exact ⟨v', H', J.os, J.bare, J.base, J.hok, r', q⟩
  | next =>
    obtain ⟨σ', H', J, q⟩ := z
    exact ⟨.non, H', J.os, J.bare, J.base, J.hok, rfl, q⟩
/-- the heap at the law's call: nothing but the script -/
theorem scr_heap {s : Shared} {a : Addr} {vs : List Value} {ns : List Int} (KX : K.In s.heap) (ha : s.heap.get? a = some { cls := .type "list", data := .seq vs.toArray }) (hi : IntsAre vs ns) (hl : ns.length ≤ sizeLine) :
    ∃ H : Hp, Only H ∧ SqL K H a (ns.map V.int) ∧ HOk P w H s.heap ∧ ∀ b, H b ≠ none → b = a ∧ K.lookup a = none := by
  have rv := vals_ints hi
  cases hk : K.lookup a with
  | some o =>
    obtain rfl : o = _ := Option.some.inj ((KX a o hk).symm.trans ha)
    exact ⟨fun _ => none, fun _ => .inl rfl, .inr ⟨_, vs.toArray, _, hk, rfl, rfl, rfl, by rw [List.size_toArray, hi.length]; exact hl, by simpa using rv⟩, fun b u z => (nomatch z), fun b z => absurd rfl z⟩
  | none =>
    let S : HO := .frz { cls := .type "list", data := .seq vs.toArray } (.lst (ns.map V.int))
    have at_a : (fun b => if b = a then some S else none : Hp) a = some S := if_pos rfl
    refine ⟨fun b => if b = a then some S else none, fun b => ?_, .inl (.inr ⟨_, at_a⟩), fun b u z => ?_, fun b z => ⟨?_, rfl⟩⟩
    · by_cases e : b = a
      · exact .inr ⟨_, _, if_pos e⟩
      · exact .inl (if_neg e)
    · by_cases e : b = a
      · subst e
        cases at_a.symm.trans z
        exact ⟨ha, by rw [List.length_map]; exact hl, vs, _, rv, ha⟩
      · cases (if_neg e).symm.trans z
    · exact Classical.byContradiction fun e => z (if_neg e)
theorem lawAt_call {mb : Str → Option Value} {fa a : Addr} {fd : FuncData} {sp : Sp} {s : Shared} {vs : List Value} {ns : List Int}
    (KX : K.In s.heap) (gm : s.heap.Ns mainGlobals mg) (gb : s.heap.Ns builtinsNs mb) (bb : ∀ x : Str, x ≠ "__name__" → mb x = bootBuiltins x) (nl : s.heap.NoLimit) (ge : s.gens = #[])
    (ha : s.heap.get? a = some { cls := .type "list", data := .seq vs.toArray }) (hi : IntsAre vs ns) (hl : ns.length ≤ sizeLine)
    (F : ∀ base : Heap, K.In base → base.Ns mainGlobals mg → LawAt P w K mg base fa fd sp) (bnd : ∀ (s : Shared) (u : Value), BindsTo s fd ⟨[u], []⟩ [("script", u)])
    (hsp : ∀ H : Hp, Only H → SqL K H a (ns.map V.int) → sp [.ref a] H (fun v _ => v = .bl true) fun _ _ _ => False) :
    codeAny (model P w) callerA (.call (.ref fa) ⟨[.ref a], []⟩) (fun r s' => r = .ok (.ret (.bool true)) ∧ OldK s.heap s'.heap ∧ s'.os = s.os ∧ AllBare s'.gens) s := by
  obtain ⟨H, hO, hS, hok, hA⟩ := scr_heap (P := P) (w := w) KX ha hi hl
  have free : ∀ {b : Addr}, b ≠ a → H b = none := fun {b} n => Classical.byContradiction fun z => n (hA b z).1
  have to : ∀ {b : Addr} {o : Obj}, s.heap.get? b = some o → H b = none → (hidT s.heap H).get? b = some o := fun e n => hidT_get e n
  have ns' : ∀ {b : Addr} {m : Str → Option Value}, s.heap.Ns b m → (hidT s.heap H).Ns b m := fun {b m} ⟨o, es, ep, e, d, r⟩ => by
    refine ⟨o, es, ep, to e (free fun z => ?_), d, r⟩
    subst z
    cases ha.symm.trans e
    cases d
  have kb : K.In (hidT s.heap H) := fun b o e => to (KX b o e) (Classical.byContradiction fun z => by
    obtain ⟨rfl, n⟩ := hA b z
    exact absurd (e.symm.trans n) (by simp))
  obtain ⟨mc, c1, c2⟩ := nl
  have M : Mod K mg (hidT s.heap H) := ⟨kb, ns' gm, ⟨mb, ns' gb, bb⟩, mc, ns' c1, c2⟩
  have none_in : ∀ {b : Addr}, ¬ b ∈ frs ([] : List PySem.Env) := fun {b} z => List.not_mem_nil (show b ∈ ([] : List Addr) from z)
  have en : Env0 P w K mg (hidT s.heap H) callerA [] s H := ⟨rfl, M, fun b o e => of_hidT e, Nat.le_of_eq (hidT_size _ _), trivial, fun b z => (none_in z).elim, hok, .of_eq ge⟩
  refine codeAny_mono (F _ kb (ns' gm) s H (.ref a) (.ref a) _ _ en rfl (hsp H hO hS) (bnd s _)) fun r s' h => ?_
  match r, h with
  | .error _, h => exact False.elim h
  | .ok .next, h => exact False.elim h
  | .ok .brk, h => exact False.elim h
  | .ok .cont, h => exact False.elim h
  | .ok (.ret u), ⟨v, H', os, bare, un, hok', r', q⟩ =>
    obtain rfl : v = .bl true := q
    cases (r' : u = Value.bool true)
    refine ⟨rfl, OldK.of_keep fun b o e => ?_, os, bare⟩
    rcases hO b with z | ⟨ob, xs, z⟩
    · exact un.keep b o e z none_in (by simp)
    · obtain ⟨e1, _⟩ := hok b _ z
      obtain ⟨e2, _⟩ := hok' b _ (un.frzs b ob _ z)
      cases e.symm.trans e1
      exact e2
end
theorem law_endG {l : PySem.W.OpenLaw} {q : Program} {loose : List Str} {XP : (Str → Option Value) → Heap → Prop} {YP : World → Heap → Prop} {d : DefRec} {K : Params → PySem.W.Frag} {G : FnD} (hn : l.most = some 63) (hdf : d.params.defaults = [])
    (hY : ∀ (w : World) (h : Heap), YP w h → (K w.params).In h)
    (hG : ∀ ns : List Int, ns.length ≤ 63 → (∀ z ∈ ns, Builtin.Int.intBits z ≤ 1048576) → ∃ ds', G [.scr ns] = some (.bl true, false, ds'))
    (F : ∀ (w : World) (mg : Str → Option Value) (fa : Addr) (h : Heap), (K w.params).In h → h.Ns mainGlobals mg → mg d.name = some (.ref fa) →
      ∃ fd : FuncData, (∀ (s : Shared) (u : Value), BindsTo s fd ⟨[u], []⟩ [("script", u)]) ∧ ∀ base : Heap, (K w.params).In base → base.Ns mainGlobals mg → LawAt l.prog w (K w.params) mg base fa fd (spD ⟨K w.params, mg⟩ [false] G)) :
    PySem.W.WalkO q loose XP YP l.row.toRowW d [] (fun f vs => PySem.call f vs) := by
  refine Att.attach_callB hn hdf fun w s0 s1 mg mb fa o pm cd doc a vs ns G0 Y _ _ _ hmg ho hi hle hbits hg => ?_
  have KX := hY w _ Y
  obtain ⟨fd, b1, b2⟩ := F w mg fa _ KX G0.T.g hmg
  refine lawAt_call KX G0.T.g G0.T.b G0.T.builtins G0.T.nolimit hg ho hi (Nat.le_trans hle (by decide)) b2 b1 fun H hO hS => ?_
  refine law_imp hG _ _ _ _ ⟨a, ns, rfl, ?_, hle, hbits, fun _ => rfl⟩
  rcases hS with (hS | hS) | hS
  · rcases hO a with z | ⟨_, _, z⟩ <;> rw [hS] at z <;> cases z
  · exact .inl hS
  · exact .inr fun _ => .inr hS
section
variable {P : Program} {w : World} {K : PySem.W.Frag} {mg : Str → Option Value}
theorem law_mkG {h : Heap} {st : Stmt} {N : List Str} {n : Nat} {g : FS} (X : K.In h) (G : h.Ns mainGlobals mg) {fa f : Addr} (hfa : mg "law" = some (.ref fa)) {od an : Option Addr} {sl : Array (Option Value)} {oc kV dc pm cd ct : Value}
    (S : FnScope N ["script"] (defScope st)) (hb : ∀ (s : Shared) (kV dc pm : Value) (an : Option Addr) (cd ct v : Value), BindsTo s (PySem.W.fnOf "law" "law" (defArgs st) (defBody st) (defScope st) .none kV dc pm an cd ct) ⟨[v], []⟩ [("script", v)])
    (hr : Room (n + 1) callerA)
    (hbody : ∀ (base : Heap) (f : Addr) (cdv : Value) (A : Around) (outer : List PySem.Env) (s : Shared) (H : Hp) (E : XK), A.guards = some [] → Room n (A.deeper (envOfC "law" (defScope st) s.heap.objs.size f cdv)) → PSs (bodyX P w K mg base N "law" (defScope st) f cdv A outer s H E) (defBody st) (tS ⟨K, mg⟩ g))
    (a : PySem.W.nsIn K mainGlobals "law" = some (some (.ref f))) (l : K.lookup f = some ⟨oc, od, .func (PySem.W.fnOf "law" "law" (defArgs st) (defBody st) (defScope st) .none kV dc pm an cd ct), sl⟩) (c : PySem.W.codeIn K cd "law" = true) :
    ∃ fd : FuncData, (∀ (s : Shared) (v : Value), BindsTo s fd ⟨[v], []⟩ [("script", v)]) ∧ ∀ base : Heap, K.In base → base.Ns mainGlobals mg → LawAt P w K mg base fa fd (spD ⟨K, mg⟩ [false] (runG [false] N.length g)) := by
  cases hfa.symm.trans (PySem.W.mg_of X G a)
  exact ⟨_, fun s v => hb s kV dc pm an cd ct v, fun base _ _ => lawAt_of l c S fun s H v Q E h => ⟨_, (hbody base _ cd callerA [] s H E rfl (hr.deeper _)).nox, body_fit rfl h⟩⟩
end
end DV

/-! DV40: repr(x) of nested tuples and lists. -/
namespace DV
open L2 PySem PySem.Spec PyProof.Rows
def rReprD (K : PySem.W.Frag) : List V → Hp → VK → Prop := fun xs H Q => ∃ (a : Addr) (d : PyData), xs = [.ref a] ∧ Dp K H (.ref a) d ∧ SeqAt.shaped d = true ∧ d.showable = true ∧ d.shown.length ≤ sizeLine ∧ Q (.str d.shown) H
def reprOk (p : PyData) : Bool := SeqAt.shaped p && p.showable && decide (p.shown.length ≤ sizeLine)
def reprD : D → Option D
  | .tup xs => if reprOk (toPy (.tup xs)) = true then some (.str (toPy (.tup xs)).shown) else none
  | .lst xs => if reprOk (toPy (.lst xs)) = true then some (.str (toPy (.lst xs)).shown) else none
  | _ => none
theorem reprOk_iff {p : PyData} : reprOk p = true ↔ SeqAt.shaped p = true ∧ p.showable = true ∧ p.shown.length ≤ sizeLine := by
  unfold reprOk
  simp only [Bool.and_eq_true, decide_eq_true_eq, and_assoc]
theorem pc_repr {K : Kc} : PureC K (rReprD K.K) reprD := by
  intro F H dx d vx Q fk e w k
  have key : ∀ p, okPy dx = okPy dx → toPy dx = p → reprOk p = true → (∃ a, vx = .ref a) → d = .str p.shown → rReprD K.K [vx] H Q := fun p _ hp ho ⟨a, ha⟩ hd => by
    subst hp
    subst ha
    subst hd
    obtain ⟨h1, h2, h3⟩ := reprOk_iff.mp ho
    exact ⟨a, _, rfl, Vw.dp w h1, h1, h2, h3, k _ F H .refl Rep.str'⟩
  have of : ∀ {p : PyData} {z : D}, (if reprOk p = true then some z else none) = some d → reprOk p = true ∧ d = z := fun {p z} e => by
    by_cases h : reprOk p = true
    · rw [if_pos h] at e; cases e; exact ⟨h, rfl⟩
    · rw [if_neg h] at e; cases e
  cases dx with
  | tup xs =>
    obtain ⟨ho, hd⟩ := of (show (if reprOk (toPy (.tup xs)) = true then some (D.str (toPy (.tup xs)).shown) else none) = some d from e)
    obtain ⟨a, vs, ha, _⟩ := w.tup
    exact key _ rfl rfl ho ⟨a, ha⟩ hd
  | lst xs =>
    obtain ⟨ho, hd⟩ := of (show (if reprOk (toPy (.lst xs)) = true then some (D.str (toPy (.lst xs)).shown) else none) = some d from e)
    obtain ⟨a, vs, ha, _⟩ := w.lst
    exact key _ rfl rfl ho ⟨a, ha⟩ hd
  | _ => cases e
theorem cr_repr {X : Cx} (hg : X.A.guards = some []) (hu : X.A.units + 70 < cLine) : CallR X (.builtin "repr") (rReprD X.K) := by
  intro pins s σ H xs us Q I r h
  obtain ⟨a, d, rfl, hd, sh, so, sz, q⟩ := h
  cases r with
  | cons r1 rt =>
    cases rt
    cases r1
    obtain ⟨as, rd⟩ := Dp.reads I d _ _ hd rfl
    have hdep : d.depth ≤ 64 := by
      have : (d.canLay0 && decide (d.depth ≤ 64)) = true := sh
      simp only [Bool.and_eq_true, decide_eq_true_eq] at this
      exact this.2
    exact repr_of_reads' rd so (PyData.noDict_hsm (PyData.hasDict_of_canLay d (SeqAt.canLay_of_shaped sh))) hg (by omega) (fun b o e => e) (fun h' u tk hk => ⟨.str d.shown, H, I.kept hk, ⟨u, rfl⟩, q⟩) sz
theorem boot_repr' : bootBuiltins "repr" = some (.builtin "repr") := by decide +kernel
theorem w_repr {X : Cx} {a : Expr} {oa : FO} {p pos : Pos} {k : Nat} (hr : Room k X.A) (hgd : X.A.guards = some []) (hz : X.mg "repr" = none) (ha : PE X a (tO (kc X) oa)) (hg : Gl X "repr" := by rfl) (he : starEach [a] X.env = (false, eval a X.env) :: starEach [] X.env := by rfl) : PE X (.Call (.Name "repr" p) [a] [] pos) (tD (kc X) (gOp1 reprD oa)) :=
  cd_call1 (cr_repr hgd (by have := hr.un; omega)) pc_repr hg hz boot_repr' ha (he := he)
end DV

/-! DV41: a, b, c = x, y, z, z made here and kept as the def's own. -/
namespace DV
open L2 PySem PySem.Spec PyProof.Rows
def gPar3 (i j l : Nat) (ga gb : FD) (gc : FW) : FS := fun ρ => match ga ρ with
  | some (da, ρ1) => match gb ρ1 with
    | some (db, ρ2) => match gc ρ2 with
      | some (dc, w, ρ3) => match bind1 i da false ρ3 with
        | some ρ4 => match bind1 j db false ρ4 with
          | some ρ5 => match bind1 l dc w ρ5 with
            | some ρ6 => some (.nx, ρ6)
            | none => none
          | none => none
        | none => none
      | none => none
    | none => none
  | none => none
section
variable {X : Cx} {pos : Pos}
theorem cs_parW3 {i j l : Nat} {x y z : Str} {a b c : Expr} {ga gb : FD} {gc : FW} {px py pz pt : Pos} {kt k2 pt2} (hc : X.calm = true) (hN : X.N.Nodup) (hi : X.N[i]? = some x) (hj : X.N[j]? = some y) (hl : X.N[l]? = some z) (hij : i ≠ j) (hil : i ≠ l) (hjl : j ≠ l)
    (hx : X.env.scope.names.lookup x = some .local) (hy : X.env.scope.names.lookup y = some .local) (hz : X.env.scope.names.lookup z = some .local) (ha : PE X a (tD (kc X) ga)) (hb : PE X b (tD (kc X) gb)) (hd : PE X c (tW (kc X) gc))
    (hw : swappedStores [.Tuple [.Name x px, .Name y py, .Name z pz] kt pt] (.Tuple [a, b, c] k2 pt2) X.env = pure (some [x, y, z]))
    (hs : swapsWithSole [.Tuple [.Name x px, .Name y py, .Name z pz] kt pt] (.Tuple [a, b, c] k2 pt2) pos.line X.env = pure false := by rfl)
    (h1 : starEach [a, b, c] X.env = (false, eval a X.env) :: starEach [b, c] X.env := by rfl) (h2 : starEach [b, c] X.env = (false, eval b X.env) :: starEach [c] X.env := by rfl) (h3 : starEach [c] X.env = (false, eval c X.env) :: starEach [] X.env := by rfl) :
    PS X (.Assign [.Tuple [.Name x px, .Name y py, .Name z pz] kt pt] (.Tuple [a, b, c] k2 pt2) pos) (tS (kc X) (gPar3 i j l ga gb gc)) :=
  PS.to (ps_par3 hc hN hi hj hl hij hil hjl hx hy hz (pa_cons ha (pa_cons hb (pa_cons hd pa_nil h3) h2) h1) hw hs) fun D σ H ⟨F, B, as, ρ, fl, ρ', S, e, k⟩ => by
    unfold gPar3 at e
    split at e
    · rename_i da ρ1 q1
      split at e
      · rename_i db ρ2 q2
        split at e
        · rename_i dc w ρ3 q3
          split at e
          · rename_i ρ4 q4
            split at e
            · rename_i ρ5 q5
              split at e
              · rename_i ρ6 q6
                cases e
                refine ⟨F, B, as, ρ, da, ρ1, S, q1, fun va H1 F1 as1 E1 S1 r1 => ?_⟩
                refine ⟨F1, B, as1, ρ1, db, ρ2, S1, q2, fun vb H2 F2 as2 E2 S2 r2 => ?_⟩
                refine ⟨F2, B, as2, ρ2, dc, w, ρ3, S2, q3, fun vc H3 F3 as3 bs E3 S3 => ⟨va, vb, vc, rfl, ?_⟩⟩
                have ra := Rep.stb E3.stb.weak _ _ (Rep.stb E2.stb.weak _ _ r1)
                have rb := Rep.stb E3.stb.weak _ _ r2
                have nn := List.nodup_append.mp S3.nd
                have T1 : Sit2 (kc X) F3 B H3 ρ3 σ as3 da false va [] := ⟨S3.env, nn.2.1, fun b m => S3.nf b (List.mem_append_right _ m), S3.fk, by simp [ra]⟩
                obtain ⟨as4, S4, m4⟩ := T1.bind q4
                have T2 : Sit2 (kc X) F3 B H3 ρ4 (σ.set i (some va)) as4 db false vb [] := ⟨S4.env, S4.nd, S4.nf, S4.fk, by simp [rb]⟩
                obtain ⟨as5, S5, m5⟩ := T2.bind q5
                have sub : ∀ b, b ∈ as5 → b ∈ as3 := fun b m => by simpa using m4 b (by simpa using m5 b m)
                have T3 : Sit2 (kc X) F3 B H3 ρ5 ((σ.set i (some va)).set j (some vb)) as5 dc w vc bs :=
                  ⟨S5.env, List.nodup_append.mpr ⟨nn.1, S5.nd, fun p hp q hq => nn.2.2 p hp q (sub q hq)⟩, fun b m => (List.mem_append.mp m).elim (fun m => S3.nf b (List.mem_append_left _ m)) fun m => S5.nf b m, S5.fk, S3.res⟩
                obtain ⟨as6, S6, m6⟩ := T3.bind q6
                refine k _ H3 F3 as6 (((E1.trans E2).trans E3).sub fun b m => ?_) S6
                rcases List.mem_append.mp (m6 b m) with z | z
                · exact List.mem_append_left _ z
                · exact List.mem_append_right _ (sub b z)
              · cases e
            · cases e
          · cases e
        · cases e
      · cases e
    · cases e
end
section
variable {ρ ρ1 ρ2 ρ3 : Env}
def kP3c (j : Nat) (db : D) (l : Nat) (dc : D) (w : Bool) : Env → Option (Fl × Env) := fun ρ => (bind1 j db false ρ).bind (kPr2 l dc w)
@[simp] theorem kP3c_at {j db l dc w} : kP3c j db l dc w ρ = (bind1 j db false ρ).bind (kPr2 l dc w) := rfl
def kP3b (i j l : Nat) (da db : D) : D × Bool × Env → Option (Fl × Env) := fun p => (bind1 i da false p.2.2).bind (kP3c j db l p.1 p.2.1)
@[simp] theorem kP3b_at {i j l da db dc w} : kP3b i j l da db (dc, w, ρ) = (bind1 i da false ρ).bind (kP3c j db l dc w) := rfl
def kP3a (i j l : Nat) (gc : FW) (da : D) : D × Env → Option (Fl × Env) := fun p => (gc p.2).bind (kP3b i j l da p.1)
@[simp] theorem kP3a_at {i j l} {gc : FW} {da db} : kP3a i j l gc da (db, ρ) = (gc ρ).bind (kP3b i j l da db) := rfl
def kP30 (i j l : Nat) (gb : FD) (gc : FW) : D × Env → Option (Fl × Env) := fun p => (gb p.2).bind (kP3a i j l gc p.1)
@[simp] theorem kP30_at {i j l} {gb : FD} {gc : FW} {da} : kP30 i j l gb gc (da, ρ) = (gb ρ).bind (kP3a i j l gc da) := rfl
@[simp] theorem at_par3 {i j l} {ga gb : FD} {gc : FW} : gPar3 i j l ga gb gc ρ = (ga ρ).bind (kP30 i j l gb gc) := by
  unfold gPar3
  cases ga ρ with
  | none => rfl
  | some p =>
    obtain ⟨da, r1⟩ := p
    simp only [Option.bind_some, kP30_at]
    cases gb r1 with
    | none => rfl
    | some p =>
      obtain ⟨db, r2⟩ := p
      simp only [Option.bind_some, kP3a_at]
      cases gc r2 with
      | none => rfl
      | some p =>
        obtain ⟨dc, w, r3⟩ := p
        simp only [Option.bind_some, kP3b_at]
        cases bind1 i da false r3 with
        | none => rfl
        | some r4 =>
          simp only [Option.bind_some, kP3c_at]
          cases bind1 j db false r4 with
          | none => rfl
          | some r5 =>
            simp only [Option.bind_some, kPr2_at]
            cases bind1 l dc w r5 <;> rfl
end
end DV

namespace K75
open DV L2 PySem PySem.Spec PyProof.Rows
def topS (i : Nat) : Stmt := PySem.Challenge.pw_blamekeep_k75_whole_records_that_are_cas.main.body.getD i (.Pass ⟨0, 0, 0, 0⟩)
inductive Nm where
  | f_fields | f_record | f_under | f_alike_under | f_between_up | f_between_down | f_cast_wide | f_untagged | f_could_be | f_has_wide | f_shown_wide | f_fewer_fields | f_is_free | f__law_draws | f__law_draw | f__law_same | f__law_wide | f__law_mixed | f__law_under | f__law_could | f__law_value | f__law_forms | f__law_cast | f__law_has | f__law_fewer
def c_ANY : D := .tup [.str "any"]
def b_fields (g : Nm → FnD) : FS := (gRet (gDComp [1, 2] (gSqB (gOp2 ixD (oNm 0) (oD (fun ρ => some (.int 1, ρ))))) (hTup 2 (hCons (hNm 1) (hCons (hNm 2) hNil))) tYesD (gNm 1) (gNm 2)))
def b_record (g : Nm → FnD) : FS := (gRet (wD (gTup (gCons (fun ρ => some (.str "record", ρ)) (gCons (gOp1 tupD (oD (shW (gComp [1] (gSqB (shW (gOp1W sortD (oNm 0)))) (hNm 1) tYesD (gTup (gCons (gNm 1) (gCons (gOp2 ixD (oNm 0) (oNm 1)) (fun ρ => some ([], ρ))))))))) (fun ρ => some ([], ρ)))))))
def b_under (g : Nm → FnD) : FS := (gSeq (gIfS (gT (gOp2 neD (oD (gOp2 ixD (oNm 0) (oD (fun ρ => some (.int 0, ρ))))) (oD (gOp2 ixD (oNm 1) (oD (fun ρ => some (.int 0, ρ))))))) (gRet (wD (fun ρ => some (.bl false, ρ)))) gSkip) (gSeq (gIfS (gT (gOp2 eqD (oD (gOp2 ixD (oNm 0) (oD (fun ρ => some (.int 0, ρ))))) (oD (fun ρ => some (.str "fn", ρ))))) (gRet (wD (gAndV (shW (gCallD [false, false] (g .f_under) [] (gVa (gOp2 ixD (oNm 1) (oD (fun ρ => some (.int 1, ρ)))) (gVa (gOp2 ixD (oNm 0) (oD (fun ρ => some (.int 1, ρ)))) (fun ρ => some ([], ρ)))))) (shW (gCallD [false, false] (g .f_under) [] (gVa (gOp2 ixD (oNm 0) (oD (fun ρ => some (.int 2, ρ)))) (gVa (gOp2 ixD (oNm 1) (oD (fun ρ => some (.int 2, ρ)))) (fun ρ => some ([], ρ))))))))) gSkip) (gSeq (gIfS (gT (gOp2 neD (oD (gOp2 ixD (oNm 0) (oD (fun ρ => some (.int 0, ρ))))) (oD (fun ρ => some (.str "record", ρ))))) (gRet (wD (fun ρ => some (.bl true, ρ)))) gSkip) (gSeq (gSet 2 (gCallD [false] (g .f_fields) [] (gVa (gNm 0) (fun ρ => some ([], ρ))))) (gRet (wD (gOp1 allD (oD (shW (gComp [3, 4] (gSqB (gOp2 ixD (oNm 1) (oD (fun ρ => some (.int 1, ρ))))) (hTup 2 (hCons (hNm 3) (hCons (hNm 4) hNil))) tYesD (gAndV (gOp2 inD (oNm 3) (oNm 2)) (shW (gCallD [false, false] (g .f_under) [] (gVa (gOp2 ixD (oNm 2) (oNm 3)) (gVa (gNm 4) (fun ρ => some ([], ρ)))))))))))))))))
def b_alike_under (g : Nm → FnD) : FS := (gSeq (gIfS (gOr (gT (gOp2 eqD (oNm 0) (oD (fun ρ => some (c_ANY, ρ))))) (gT (gOp2 eqD (oNm 1) (oD (fun ρ => some (c_ANY, ρ)))))) (gRet (wD (fun ρ => some (.bl true, ρ)))) gSkip) (gSeq (gIfS (gT (gOp2 neD (oD (gOp2 ixD (oNm 0) (oD (fun ρ => some (.int 0, ρ))))) (oD (gOp2 ixD (oNm 1) (oD (fun ρ => some (.int 0, ρ))))))) (gRet (wD (fun ρ => some (.bl false, ρ)))) gSkip) (gSeq (gIfS (gT (gOp2 eqD (oD (gOp2 ixD (oNm 0) (oD (fun ρ => some (.int 0, ρ))))) (oD (fun ρ => some (.str "fn", ρ))))) (gRet (wD (gAndV (shW (gCallD [false, false] (g .f_alike_under) [] (gVa (gOp2 ixD (oNm 1) (oD (fun ρ => some (.int 1, ρ)))) (gVa (gOp2 ixD (oNm 0) (oD (fun ρ => some (.int 1, ρ)))) (fun ρ => some ([], ρ)))))) (shW (gCallD [false, false] (g .f_alike_under) [] (gVa (gOp2 ixD (oNm 0) (oD (fun ρ => some (.int 2, ρ)))) (gVa (gOp2 ixD (oNm 1) (oD (fun ρ => some (.int 2, ρ)))) (fun ρ => some ([], ρ))))))))) gSkip) (gSeq (gIfS (gT (gOp2 neD (oD (gOp2 ixD (oNm 0) (oD (fun ρ => some (.int 0, ρ))))) (oD (fun ρ => some (.str "record", ρ))))) (gRet (wD (fun ρ => some (.bl true, ρ)))) gSkip) (gSeq (gSet 2 (gCallD [false] (g .f_fields) [] (gVa (gNm 0) (fun ρ => some ([], ρ))))) (gRet (wD (gOp1 allD (oD (shW (gComp [3, 4] (gSqB (gOp2 ixD (oNm 1) (oD (fun ρ => some (.int 1, ρ))))) (hTup 2 (hCons (hNm 3) (hCons (hNm 4) hNil))) tYesD (gAndV (gOp2 inD (oNm 3) (oNm 2)) (shW (gCallD [false, false] (g .f_alike_under) [] (gVa (gOp2 ixD (oNm 2) (oNm 3)) (gVa (gNm 4) (fun ρ => some ([], ρ))))))))))))))))))
def b_between_up (g : Nm → FnD) : FS := (gSeq (gIfS (gOr (gT (gOp2 eqD (oNm 0) (oD (fun ρ => some (c_ANY, ρ))))) (gT (gOp2 eqD (oNm 1) (oD (fun ρ => some (c_ANY, ρ)))))) (gRet (gMv 0)) gSkip) (gSeq (gIfS (gT (gOp2 eqD (oD (gOp2 ixD (oNm 0) (oD (fun ρ => some (.int 0, ρ))))) (oD (fun ρ => some (.str "fn", ρ))))) (gRet (wD (gTup (gCons (fun ρ => some (.str "fn", ρ)) (gCons (shW (gCallD [false, false] (g .f_between_down) [] (gVa (gOp2 ixD (oNm 1) (oD (fun ρ => some (.int 1, ρ)))) (gVa (gOp2 ixD (oNm 0) (oD (fun ρ => some (.int 1, ρ)))) (fun ρ => some ([], ρ)))))) (gCons (shW (gCallD [false, false] (g .f_between_up) [] (gVa (gOp2 ixD (oNm 0) (oD (fun ρ => some (.int 2, ρ)))) (gVa (gOp2 ixD (oNm 1) (oD (fun ρ => some (.int 2, ρ)))) (fun ρ => some ([], ρ)))))) (fun ρ => some ([], ρ)))))))) gSkip) (gSeq (gIfS (gT (gOp2 neD (oD (gOp2 ixD (oNm 0) (oD (fun ρ => some (.int 0, ρ))))) (oD (fun ρ => some (.str "record", ρ))))) (gRet (gMv 0)) gSkip) (gSeq (gSet 2 (gCallD [false] (g .f_fields) [] (gVa (gNm 0) (fun ρ => some ([], ρ))))) (gRet (gCallD [false] (g .f_record) [] (gVa (shW (gDComp [3, 4] (gSqB (gOp2 ixD (oNm 1) (oD (fun ρ => some (.int 1, ρ))))) (hTup 2 (hCons (hNm 3) (hCons (hNm 4) hNil))) tYesD (gNm 3) (shW (gCallD [false, false] (g .f_between_up) [] (gVa (gOp2 ixD (oNm 2) (oNm 3)) (gVa (gNm 4) (fun ρ => some ([], ρ)))))))) (fun ρ => some ([], ρ)))))))))
def b_between_down (g : Nm → FnD) : FS := (gSeq (gIfS (gOr (gT (gOp2 eqD (oNm 0) (oD (fun ρ => some (c_ANY, ρ))))) (gT (gOp2 eqD (oNm 1) (oD (fun ρ => some (c_ANY, ρ)))))) (gRet (gMv 1)) gSkip) (gSeq (gIfS (gT (gOp2 eqD (oD (gOp2 ixD (oNm 0) (oD (fun ρ => some (.int 0, ρ))))) (oD (fun ρ => some (.str "fn", ρ))))) (gRet (wD (gTup (gCons (fun ρ => some (.str "fn", ρ)) (gCons (shW (gCallD [false, false] (g .f_between_up) [] (gVa (gOp2 ixD (oNm 1) (oD (fun ρ => some (.int 1, ρ)))) (gVa (gOp2 ixD (oNm 0) (oD (fun ρ => some (.int 1, ρ)))) (fun ρ => some ([], ρ)))))) (gCons (shW (gCallD [false, false] (g .f_between_down) [] (gVa (gOp2 ixD (oNm 0) (oD (fun ρ => some (.int 2, ρ)))) (gVa (gOp2 ixD (oNm 1) (oD (fun ρ => some (.int 2, ρ)))) (fun ρ => some ([], ρ)))))) (fun ρ => some ([], ρ)))))))) gSkip) (gSeq (gIfS (gT (gOp2 neD (oD (gOp2 ixD (oNm 0) (oD (fun ρ => some (.int 0, ρ))))) (oD (fun ρ => some (.str "record", ρ))))) (gRet (gMv 1)) gSkip) (gSeq (gSet 2 (gCallD [false] (g .f_fields) [] (gVa (gNm 0) (fun ρ => some ([], ρ))))) (gSeq (gUpd 2 (shW (gDComp [3, 4] (gSqB (gOp2 ixD (oNm 1) (oD (fun ρ => some (.int 1, ρ))))) (hTup 2 (hCons (hNm 3) (hCons (hNm 4) hNil))) tYesD (gNm 3) (shW (gCallD [false, false] (g .f_between_down) [] (gVa (gOp2 ixD (oNm 2) (oNm 3)) (gVa (gNm 4) (fun ρ => some ([], ρ))))))))) (gRet (gCallD [false] (g .f_record) [] (gVa (gNm 2) (fun ρ => some ([], ρ))))))))))
def l_cast_wide_0 (g : Nm → FnD) : FS := (gSeq (gSet 9 (gCallD [false, false, false, false] (g .f_cast_wide) [] (gVa (gOp2 ixD (oNm 4) (oNm 7)) (gVa (gOp2 ixD (oNm 5) (oNm 7)) (gVa (gNm 8) (gVa (gNm 3) (fun ρ => some ([], ρ)))))))) (gSeq (gIfS (gT (gOp2 eqD (oD (gOp2 ixD (oNm 9) (oD (fun ρ => some (.int 0, ρ))))) (oD (fun ρ => some (.str "blame", ρ))))) (gRet (gMv 9)) gSkip) (gApp 6 (gTup (gCons (gNm 7) (gCons (gOp2 ixD (oNm 9) (oD (fun ρ => some (.int 1, ρ)))) (fun ρ => some ([], ρ))))))))
def b_cast_wide (g : Nm → FnD) : FS := (gSeq (gIfS (gT (gOp2 eqD (oNm 1) (oNm 2))) (gRet (wD (gTup (gCons (fun ρ => some (.str "ok", ρ)) (gCons (gNm 0) (fun ρ => some ([], ρ))))))) gSkip) (gSeq (gIfS (gT (gOp2 eqD (oNm 2) (oD (fun ρ => some (c_ANY, ρ))))) (gRet (wD (gTup (gCons (fun ρ => some (.str "ok", ρ)) (gCons (gTup (gCons (fun ρ => some (.str "tag", ρ)) (gCons (gNm 1) (gCons (gNm 0) (fun ρ => some ([], ρ)))))) (fun ρ => some ([], ρ))))))) gSkip) (gSeq (gIfS (gT (gOp2 eqD (oNm 1) (oD (fun ρ => some (c_ANY, ρ))))) (gRet (gCallD [false, false, false] (g .f_untagged) [] (gVa (gNm 0) (gVa (gNm 2) (gVa (gNm 3) (fun ρ => some ([], ρ))))))) gSkip) (gSeq (gIfS (gT (gOp2 eqD (oD (gOp2 ixD (oNm 1) (oD (fun ρ => some (.int 0, ρ))))) (oD (fun ρ => some (.str "fn", ρ))))) (gRet (wD (gTup (gCons (fun ρ => some (.str "ok", ρ)) (gCons (gTup (gCons (fun ρ => some (.str "wrap", ρ)) (gCons (gNm 0) (gCons (gNm 1) (gCons (gNm 2) (gCons (gNm 3) (fun ρ => some ([], ρ)))))))) (fun ρ => some ([], ρ))))))) gSkip) (gSeq (gIfS (gT (gOp2 neD (oD (gOp2 ixD (oNm 1) (oD (fun ρ => some (.int 0, ρ))))) (oD (fun ρ => some (.str "record", ρ))))) (gRet (wD (gTup (gCons (fun ρ => some (.str "ok", ρ)) (gCons (gNm 0) (fun ρ => some ([], ρ))))))) gSkip) (gSeq (gPar 4 5 (gDComp [7, 8] (gSqB (gOp2 ixD (oNm 0) (oD (fun ρ => some (.int 1, ρ))))) (hTup 2 (hCons (hNm 7) (hCons (hNm 8) hNil))) tYesD (gNm 7) (gNm 8)) (gCallD [false] (g .f_fields) [] (gVa (gNm 1) (fun ρ => some ([], ρ))))) (gSeq (gSet 6 (gLst (fun ρ => some ([], ρ)))) (gSeq (gFor (gSqB (gOp2 ixD (oNm 2) (oD (fun ρ => some (.int 1, ρ))))) (hTup 2 (hCons (hNm 7) (hCons (hNm 8) hNil))) (l_cast_wide_0 g)) (gRet (wD (gTup (gCons (fun ρ => some (.str "ok", ρ)) (gCons (gTup (gCons (fun ρ => some (.str "record", ρ)) (gCons (gOp1 tupD (oNm 6)) (fun ρ => some ([], ρ))))) (fun ρ => some ([], ρ)))))))))))))))
def b_untagged (g : Nm → FnD) : FS := (gSeq (gPar 3 4 (wD (gOp2 ixD (oNm 0) (oD (fun ρ => some (.int 1, ρ))))) (wD (gOp2 ixD (oNm 0) (oD (fun ρ => some (.int 2, ρ)))))) (gSeq (gIfS (gNot (gT (shW (gCallD [false, false] (g .f_could_be) [] (gVa (gNm 3) (gVa (gNm 1) (fun ρ => some ([], ρ)))))))) (gRet (wD (gTup (gCons (fun ρ => some (.str "blame", ρ)) (gCons (gNm 2) (fun ρ => some ([], ρ))))))) gSkip) (gRet (gCallD [false, false, false, false] (g .f_cast_wide) [] (gVa (gNm 4) (gVa (gNm 3) (gVa (gNm 1) (gVa (gNm 2) (fun ρ => some ([], ρ))))))))))
def b_could_be (g : Nm → FnD) : FS := (gSeq (gIfS (gOr (gT (gOp2 eqD (oNm 0) (oD (fun ρ => some (c_ANY, ρ))))) (gT (gOp2 eqD (oNm 1) (oD (fun ρ => some (c_ANY, ρ)))))) (gRet (wD (fun ρ => some (.bl true, ρ)))) gSkip) (gSeq (gIfS (gT (gOp2 neD (oD (gOp2 ixD (oNm 0) (oD (fun ρ => some (.int 0, ρ))))) (oD (gOp2 ixD (oNm 1) (oD (fun ρ => some (.int 0, ρ))))))) (gRet (wD (fun ρ => some (.bl false, ρ)))) gSkip) (gSeq (gIfS (gT (gOp2 neD (oD (gOp2 ixD (oNm 0) (oD (fun ρ => some (.int 0, ρ))))) (oD (fun ρ => some (.str "record", ρ))))) (gRet (wD (fun ρ => some (.bl true, ρ)))) gSkip) (gSeq (gSet 2 (gCallD [false] (g .f_fields) [] (gVa (gNm 0) (fun ρ => some ([], ρ))))) (gRet (wD (gOp1 allD (oD (shW (gComp [3, 4] (gSqB (gOp2 ixD (oNm 1) (oD (fun ρ => some (.int 1, ρ))))) (hTup 2 (hCons (hNm 3) (hCons (hNm 4) hNil))) tYesD (gAndV (gOp2 inD (oNm 3) (oNm 2)) (shW (gCallD [false, false] (g .f_could_be) [] (gVa (gOp2 ixD (oNm 2) (oNm 3)) (gVa (gNm 4) (fun ρ => some ([], ρ)))))))))))))))))
def b_has_wide (g : Nm → FnD) : FS := (gSeq (gIfS (gT (gOp2 eqD (oNm 1) (oD (fun ρ => some (c_ANY, ρ))))) (gRet (wD (gAndV (gOp2 eqD (oD (gOp2 ixD (oNm 0) (oD (fun ρ => some (.int 0, ρ))))) (oD (fun ρ => some (.str "tag", ρ)))) (gAndV (gOp2 neD (oD (gOp2 ixD (oNm 0) (oD (fun ρ => some (.int 1, ρ))))) (oD (fun ρ => some (c_ANY, ρ)))) (shW (gCallD [false, false] (g .f_has_wide) [] (gVa (gOp2 ixD (oNm 0) (oD (fun ρ => some (.int 2, ρ)))) (gVa (gOp2 ixD (oNm 0) (oD (fun ρ => some (.int 1, ρ)))) (fun ρ => some ([], ρ)))))))))) gSkip) (gSeq (gIfS (gT (gOp2 eqD (oD (gOp2 ixD (oNm 1) (oD (fun ρ => some (.int 0, ρ))))) (oD (fun ρ => some (.str "fn", ρ))))) (gRet (wD (gOp2 inD (oD (gOp2 ixD (oNm 0) (oD (fun ρ => some (.int 0, ρ))))) (oD (gTup (gCons (fun ρ => some (.str "name", ρ)) (gCons (fun ρ => some (.str "wrap", ρ)) (fun ρ => some ([], ρ))))))))) gSkip) (gSeq (gIfS (gT (gOp2 neD (oD (gOp2 ixD (oNm 1) (oD (fun ρ => some (.int 0, ρ))))) (oD (fun ρ => some (.str "record", ρ))))) (gRet (wD (gOp2 eqD (oD (gOp2 ixD (oNm 0) (oD (fun ρ => some (.int 0, ρ))))) (oD (gOp2 ixD (oNm 1) (oD (fun ρ => some (.int 0, ρ)))))))) gSkip) (gSeq (gIfS (gOr (gT (gOp2 neD (oD (gOp2 ixD (oNm 0) (oD (fun ρ => some (.int 0, ρ))))) (oD (fun ρ => some (.str "record", ρ))))) (gT (gOp2 neD (oD (shW (gComp [4, 5] (gSqB (gOp2 ixD (oNm 0) (oD (fun ρ => some (.int 1, ρ))))) (hTup 2 (hCons (hNm 4) (hCons (hNm 5) hNil))) tYesD (gNm 4)))) (oD (shW (gComp [4, 5] (gSqB (gOp2 ixD (oNm 1) (oD (fun ρ => some (.int 1, ρ))))) (hTup 2 (hCons (hNm 4) (hCons (hNm 5) hNil))) tYesD (gNm 4))))))) (gRet (wD (fun ρ => some (.bl false, ρ)))) gSkip) (gRet (wD (gOp1 allD (oD (shW (gComp [2, 3] (gZip (gCons (gOp2 ixD (oNm 0) (oD (fun ρ => some (.int 1, ρ)))) (gCons (gOp2 ixD (oNm 1) (oD (fun ρ => some (.int 1, ρ)))) (fun ρ => some ([], ρ))))) (hTup 2 (hCons (hNm 2) (hCons (hNm 3) hNil))) tYesD (shW (gCallD [false, false] (g .f_has_wide) [] (gVa (gOp2 ixD (oNm 2) (oD (fun ρ => some (.int 1, ρ)))) (gVa (gOp2 ixD (oNm 3) (oD (fun ρ => some (.int 1, ρ)))) (fun ρ => some ([], ρ))))))))))))))))
def b_shown_wide (g : Nm → FnD) : FS := (gSeq (gIfS (gT (gOp2 eqD (oD (gOp2 ixD (oNm 0) (oD (fun ρ => some (.int 0, ρ))))) (oD (fun ρ => some (.str "tag", ρ))))) (gRet (gCallD [false] (g .f_shown_wide) [] (gVa (gOp2 ixD (oNm 0) (oD (fun ρ => some (.int 2, ρ)))) (fun ρ => some ([], ρ))))) gSkip) (gSeq (gIfS (gT (gOp2 inD (oD (gOp2 ixD (oNm 0) (oD (fun ρ => some (.int 0, ρ))))) (oD (gTup (gCons (fun ρ => some (.str "name", ρ)) (gCons (fun ρ => some (.str "wrap", ρ)) (fun ρ => some ([], ρ)))))))) (gRet (wD (gTup (gCons (fun ρ => some (.str "fn", ρ)) (fun ρ => some ([], ρ)))))) gSkip) (gSeq (gIfS (gT (gOp2 neD (oD (gOp2 ixD (oNm 0) (oD (fun ρ => some (.int 0, ρ))))) (oD (fun ρ => some (.str "record", ρ))))) (gRet (gMv 0)) gSkip) (gRet (wD (gTup (gCons (fun ρ => some (.str "record", ρ)) (gCons (gOp1 tupD (oD (shW (gComp [1, 2] (gSqB (gOp2 ixD (oNm 0) (oD (fun ρ => some (.int 1, ρ))))) (hTup 2 (hCons (hNm 1) (hCons (hNm 2) hNil))) tYesD (gTup (gCons (gNm 1) (gCons (shW (gCallD [false] (g .f_shown_wide) [] (gVa (gNm 2) (fun ρ => some ([], ρ))))) (fun ρ => some ([], ρ))))))))) (fun ρ => some ([], ρ))))))))))
def b_fewer_fields (g : Nm → FnD) : FS := (gSeq (gIfS (gT (gOp2 neD (oD (gOp2 ixD (oNm 0) (oD (fun ρ => some (.int 0, ρ))))) (oD (fun ρ => some (.str "record", ρ))))) (gRet (gMv 0)) gSkip) (gSeq (gSet 2 (gDComp [3, 4] (gSqB (gOp2 ixD (oNm 0) (oD (fun ρ => some (.int 1, ρ))))) (hTup 2 (hCons (hNm 3) (hCons (hNm 4) hNil))) tYesD (gNm 3) (gNm 4))) (gRet (wD (gTup (gCons (fun ρ => some (.str "record", ρ)) (gCons (gOp1 tupD (oD (shW (gComp [3, 4] (gSqB (gOp2 ixD (oNm 1) (oD (fun ρ => some (.int 1, ρ))))) (hTup 2 (hCons (hNm 3) (hCons (hNm 4) hNil))) tYesD (gTup (gCons (gNm 3) (gCons (shW (gCallD [false, false] (g .f_fewer_fields) [] (gVa (gOp2 ixD (oNm 2) (oNm 3)) (gVa (gNm 4) (fun ρ => some ([], ρ)))))) (fun ρ => some ([], ρ))))))))) (fun ρ => some ([], ρ)))))))))
def b_is_free (g : Nm → FnD) : FS := (gRet (gCallD [false, false] (g .f_under) [] (gVa (gNm 0) (gVa (gNm 1) (fun ρ => some ([], ρ))))))
def b__law_draws (g : Nm → FnD) : FS := (gRet (gLst (gCons (shW (gOp1W lstD (oNm 0))) (gCons (fun ρ => some (.int 0, ρ)) (gCons (fun ρ => some (.int 0, ρ)) (gCons (fun ρ => some (.int 1, ρ)) (fun ρ => some ([], ρ))))))))
def b__law_draw (g : Nm → FnD) : FS := (gSeq (gIfS (gAnd (gT (gOp2 eqD (oD (gOp2 ixD (oNm 0) (oD (fun ρ => some (.int 2, ρ))))) (oD (fun ρ => some (.int 0, ρ))))) (gT (gOp2 ltI (oD (gOp2 ixD (oNm 0) (oD (fun ρ => some (.int 1, ρ))))) (oD (gOp1 lenD (oD (gOp2 ixD (oNm 0) (oD (fun ρ => some (.int 0, ρ)))))))))) (gSeq (gSet 2 (wD (gOp2 ixD (oD (gOp2 ixD (oNm 0) (oD (fun ρ => some (.int 0, ρ))))) (oD (gOp2 ixD (oNm 0) (oD (fun ρ => some (.int 1, ρ)))))))) (gSeq (gPut 0 (gOp2 addD (oD (gOp2 ixD (oNm 0) (oD (fun ρ => some (.int 1, ρ))))) (oD (fun ρ => some (.int 1, ρ)))) (fun ρ => some (.int 1, ρ))) (gSeq (gIfS (gT (gOp2 geI (oNm 2) (oD (gOp2 powI (oD (fun ρ => some (.int 10, ρ))) (oD (fun ρ => some (.int 18, ρ))))))) (gPut 0 (gNm 2) (fun ρ => some (.int 2, ρ))) gSkip) (gPut 0 (gOp2 modI (oD (gOp1 intD (oD (gOp2 addD (oD (gOp2 addD (oD (gOp2 mulI (oD (gOp2 ixD (oNm 0) (oD (fun ρ => some (.int 3, ρ))))) (oD (fun ρ => some (.int 48271, ρ))))) (oNm 2))) (oD (fun ρ => some (.int 13, ρ))))))) (oD (fun ρ => some (.int 2147483647, ρ)))) (fun ρ => some (.int 3, ρ)))))) gSkip) (gSeq (gIfS (gT (gOp2 gtI (oD (gOp2 ixD (oNm 0) (oD (fun ρ => some (.int 2, ρ))))) (oD (fun ρ => some (.int 0, ρ))))) (gSeq (gSet 3 (wD (gOp2 modI (oD (gOp1 intD (oD (gOp2 ixD (oNm 0) (oD (fun ρ => some (.int 2, ρ))))))) (oNm 1)))) (gSeq (gPut 0 (gOp2 divI (oD (gOp2 ixD (oNm 0) (oD (fun ρ => some (.int 2, ρ))))) (oNm 1)) (fun ρ => some (.int 2, ρ))) (gRet (gMv 3)))) gSkip) (gSeq (gPut 0 (gOp2 modI (oD (gOp1 intD (oD (gOp2 addD (oD (gOp2 mulI (oD (gOp2 ixD (oNm 0) (oD (fun ρ => some (.int 3, ρ))))) (oD (fun ρ => some (.int 69621, ρ))))) (oD (fun ρ => some (.int 7, ρ))))))) (oD (fun ρ => some (.int 2147483629, ρ)))) (fun ρ => some (.int 3, ρ))) (gRet (wD (gOp2 modI (oD (gOp1 intD (oD (gOp2 divI (oD (gOp2 ixD (oNm 0) (oD (fun ρ => some (.int 3, ρ))))) (oD (fun ρ => some (.int 11, ρ))))))) (oNm 1)))))))
def b__law_same (g : Nm → FnD) : FS := (gSeq (gIfS (gOr (gT (gOp2 isiD (oNm 1) (oD (fun ρ => some (.ty "tuple", ρ))))) (gT (gOp2 isiD (oNm 1) (oD (fun ρ => some (.ty "list", ρ)))))) (gSeq (gIfS (gOr (gT (gOp2 neD (oD (gOp2 isiD (oNm 1) (oD (fun ρ => some (.ty "tuple", ρ))))) (oD (gOp2 isiD (oNm 0) (oD (fun ρ => some (.ty "tuple", ρ))))))) (gT (gOp2 neD (oD (gOp2 isiD (oNm 1) (oD (fun ρ => some (.ty "list", ρ))))) (oD (gOp2 isiD (oNm 0) (oD (fun ρ => some (.ty "list", ρ)))))))) (gRet (wD (fun ρ => some (.bl false, ρ)))) gSkip) (gSeq (gIfS (gT (gOp2 neD (oD (gOp1 lenD (oNm 0))) (oD (gOp1 lenD (oNm 1))))) (gRet (wD (fun ρ => some (.bl false, ρ)))) gSkip) (gRet (wD (gOp2 eqD (oD (gOp1 lenD (oD (shW (gComp [2] (gRng1 (gCons (gOp1 lenD (oNm 1)) (fun ρ => some ([], ρ)))) (hNm 2) (gNot (gT (shW (gCallD [false, false] (g .f__law_same) [] (gVa (gOp2 ixD (oNm 0) (oNm 2)) (gVa (gOp2 ixD (oNm 1) (oNm 2)) (fun ρ => some ([], ρ)))))))) (gNm 2)))))) (oD (fun ρ => some (.int 0, ρ)))))))) gSkip) (gSeq (gIfS (gT (gOp2 isiD (oNm 1) (oD (fun ρ => some (.ty "str", ρ))))) (gRet (wD (gAndV (gOp2 isiD (oNm 0) (oD (fun ρ => some (.ty "str", ρ)))) (gOp2 eqD (oNm 0) (oNm 1))))) gSkip) (gSeq (gIfS (gT (gOp2 isD (oNm 1) (oD (fun ρ => some (.non, ρ))))) (gRet (wD (gOp2 isD (oNm 0) (oD (fun ρ => some (.non, ρ)))))) gSkip) (gSeq (gIfS (gOr (gT (gOp2 isiD (oNm 1) (oD (fun ρ => some (.ty "bool", ρ))))) (gT (gOp2 isiD (oNm 0) (oD (fun ρ => some (.ty "bool", ρ)))))) (gRet (wD (gAndV (gOp2 isiD (oNm 1) (oD (fun ρ => some (.ty "bool", ρ)))) (gAndV (gOp2 isiD (oNm 0) (oD (fun ρ => some (.ty "bool", ρ)))) (gOp2 eqD (oNm 0) (oNm 1)))))) gSkip) (gRet (wD (gAndV (gOp2 isiD (oNm 0) (oD (fun ρ => some (.ty "int", ρ)))) (gAndV (gOp2 isiD (oNm 1) (oD (fun ρ => some (.ty "int", ρ)))) (gOp2 eqD (oNm 0) (oNm 1))))))))))
def b__law_wide (g : Nm → FnD) : FS := (gSeq (gSet 2 (gIfW (gT (gOp2 gtI (oNm 1) (oD (fun ρ => some (.int 1, ρ))))) (gCallD [true, false] (g .f__law_draw) [] (gBo 0 (gVa (fun ρ => some (.int 7, ρ)) (fun ρ => some ([], ρ))))) (gCallD [true, false] (g .f__law_draw) [] (gBo 0 (gVa (fun ρ => some (.int 3, ρ)) (fun ρ => some ([], ρ))))))) (gSeq (gIfS (gT (gOp2 ltI (oNm 2) (oD (fun ρ => some (.int 3, ρ))))) (gRet (wD (gOp2 ixD (oD (shW (gLst (gCons (gTup (gCons (fun ρ => some (.str "int", ρ)) (fun ρ => some ([], ρ)))) (gCons (gTup (gCons (fun ρ => some (.str "bool", ρ)) (fun ρ => some ([], ρ)))) (gCons (gTup (gCons (fun ρ => some (.str "any", ρ)) (fun ρ => some ([], ρ)))) (fun ρ => some ([], ρ)))))))) (oNm 2)))) gSkip) (gSeq (gIfS (gT (gOp2 eqD (oNm 2) (oD (fun ρ => some (.int 3, ρ))))) (gRet (wD (gTup (gCons (fun ρ => some (.str "fn", ρ)) (gCons (shW (gCallD [true, false] (g .f__law_wide) [] (gBo 0 (gVa (gOp2 subI (oNm 1) (oD (fun ρ => some (.int 1, ρ)))) (fun ρ => some ([], ρ)))))) (gCons (shW (gCallD [true, false] (g .f__law_wide) [] (gBo 0 (gVa (gOp2 subI (oNm 1) (oD (fun ρ => some (.int 1, ρ)))) (fun ρ => some ([], ρ)))))) (fun ρ => some ([], ρ)))))))) gSkip) (gSeq (gSet 3 (gComp [4] (gSqB (shW (gLst (gCons (fun ρ => some (.str "a", ρ)) (gCons (fun ρ => some (.str "b", ρ)) (gCons (fun ρ => some (.str "c", ρ)) (fun ρ => some ([], ρ)))))))) (hNm 4) (gT (gOp2 eqD (oD (shW (gCallD [true, false] (g .f__law_draw) [] (gBo 0 (gVa (fun ρ => some (.int 2, ρ)) (fun ρ => some ([], ρ))))))) (oD (fun ρ => some (.int 0, ρ))))) (gNm 4))) (gRet (wD (gTup (gCons (fun ρ => some (.str "record", ρ)) (gCons (gOp1 tupD (oD (shW (gComp [4] (gSqB (gNm 3)) (hNm 4) tYesD (gTup (gCons (gNm 4) (gCons (shW (gCallD [true, false] (g .f__law_wide) [] (gBo 0 (gVa (gOp2 subI (oNm 1) (oD (fun ρ => some (.int 1, ρ)))) (fun ρ => some ([], ρ)))))) (fun ρ => some ([], ρ))))))))) (fun ρ => some ([], ρ)))))))))))
def b__law_mixed (g : Nm → FnD) : FS := (gSeq (gSet 2 (gCallD [true, false] (g .f__law_draw) [] (gBo 0 (gVa (fun ρ => some (.int 6, ρ)) (fun ρ => some ([], ρ)))))) (gSeq (gIfS (gT (gOp2 eqD (oNm 2) (oD (fun ρ => some (.int 0, ρ))))) (gRet (wD (gTup (gCons (fun ρ => some (.str "any", ρ)) (fun ρ => some ([], ρ)))))) gSkip) (gSeq (gIfS (gT (gOp2 eqD (oNm 2) (oD (fun ρ => some (.int 1, ρ))))) (gRet (gCallD [true, false] (g .f__law_wide) [] (gBo 0 (gVa (fun ρ => some (.int 2, ρ)) (fun ρ => some ([], ρ)))))) gSkip) (gSeq (gIfS (gT (gOp2 eqD (oD (gOp2 ixD (oNm 1) (oD (fun ρ => some (.int 0, ρ))))) (oD (fun ρ => some (.str "fn", ρ))))) (gRet (wD (gTup (gCons (fun ρ => some (.str "fn", ρ)) (gCons (shW (gCallD [true, false] (g .f__law_mixed) [] (gBo 0 (gVa (gOp2 ixD (oNm 1) (oD (fun ρ => some (.int 1, ρ)))) (fun ρ => some ([], ρ)))))) (gCons (shW (gCallD [true, false] (g .f__law_mixed) [] (gBo 0 (gVa (gOp2 ixD (oNm 1) (oD (fun ρ => some (.int 2, ρ)))) (fun ρ => some ([], ρ)))))) (fun ρ => some ([], ρ)))))))) gSkip) (gSeq (gIfS (gT (gOp2 neD (oD (gOp2 ixD (oNm 1) (oD (fun ρ => some (.int 0, ρ))))) (oD (fun ρ => some (.str "record", ρ))))) (gRet (gMv 1)) gSkip) (gSeq (gSet 3 (gComp [4, 5] (gSqB (gOp2 ixD (oNm 1) (oD (fun ρ => some (.int 1, ρ))))) (hTup 2 (hCons (hNm 4) (hCons (hNm 5) hNil))) (gT (gOp2 gtI (oD (shW (gCallD [true, false] (g .f__law_draw) [] (gBo 0 (gVa (fun ρ => some (.int 4, ρ)) (fun ρ => some ([], ρ))))))) (oD (fun ρ => some (.int 0, ρ))))) (gTup (gCons (gNm 4) (gCons (shW (gCallD [true, false] (g .f__law_mixed) [] (gBo 0 (gVa (gNm 5) (fun ρ => some ([], ρ)))))) (fun ρ => some ([], ρ))))))) (gSeq (gIfS (gAnd (gT (gOp2 ninD (oD (fun ρ => some (.str "d", ρ))) (oD (shW (gComp [4, 5] (gSqB (gNm 3)) (hTup 2 (hCons (hNm 4) (hCons (hNm 5) hNil))) tYesD (gNm 4)))))) (gT (gOp2 eqD (oD (shW (gCallD [true, false] (g .f__law_draw) [] (gBo 0 (gVa (fun ρ => some (.int 4, ρ)) (fun ρ => some ([], ρ))))))) (oD (fun ρ => some (.int 0, ρ)))))) (gSet 3 (wD (gOp2 addD (oNm 3) (oD (shW (gLst (gCons (gTup (gCons (fun ρ => some (.str "d", ρ)) (gCons (gTup (gCons (fun ρ => some (.str "int", ρ)) (fun ρ => some ([], ρ)))) (fun ρ => some ([], ρ))))) (fun ρ => some ([], ρ))))))))) gSkip) (gRet (wD (gTup (gCons (fun ρ => some (.str "record", ρ)) (gCons (gOp1 tupD (oNm 3)) (fun ρ => some ([], ρ))))))))))))))
def b__law_under (g : Nm → FnD) : FS := (gSeq (gIfS (gT (gOp2 neD (oD (gOp2 ixD (oNm 0) (oD (fun ρ => some (.int 0, ρ))))) (oD (gOp2 ixD (oNm 1) (oD (fun ρ => some (.int 0, ρ))))))) (gRet (wD (fun ρ => some (.bl false, ρ)))) gSkip) (gSeq (gIfS (gT (gOp2 eqD (oD (gOp2 ixD (oNm 0) (oD (fun ρ => some (.int 0, ρ))))) (oD (fun ρ => some (.str "fn", ρ))))) (gRet (wD (gAndV (shW (gCallD [false, false] (g .f__law_under) [] (gVa (gOp2 ixD (oNm 1) (oD (fun ρ => some (.int 1, ρ)))) (gVa (gOp2 ixD (oNm 0) (oD (fun ρ => some (.int 1, ρ)))) (fun ρ => some ([], ρ)))))) (shW (gCallD [false, false] (g .f__law_under) [] (gVa (gOp2 ixD (oNm 0) (oD (fun ρ => some (.int 2, ρ)))) (gVa (gOp2 ixD (oNm 1) (oD (fun ρ => some (.int 2, ρ)))) (fun ρ => some ([], ρ))))))))) gSkip) (gSeq (gSet 2 (gIfW (gT (gOp2 eqD (oD (gOp2 ixD (oNm 0) (oD (fun ρ => some (.int 0, ρ))))) (oD (fun ρ => some (.str "record", ρ))))) (gOp1W dictD (oD (gOp2 ixD (oNm 0) (oD (fun ρ => some (.int 1, ρ)))))) gDic0)) (gRet (wD (gOrV (gOp2 neD (oD (gOp2 ixD (oNm 0) (oD (fun ρ => some (.int 0, ρ))))) (oD (fun ρ => some (.str "record", ρ)))) (gOp2 eqD (oD (gOp1 lenD (oD (shW (gComp [3, 4] (gSqB (gOp2 ixD (oNm 1) (oD (fun ρ => some (.int 1, ρ))))) (hTup 2 (hCons (hNm 3) (hCons (hNm 4) hNil))) (gOr (gT (gOp2 ninD (oNm 3) (oNm 2))) (gNot (gT (shW (gCallD [false, false] (g .f__law_under) [] (gVa (gOp2 ixD (oNm 2) (oNm 3)) (gVa (gNm 4) (fun ρ => some ([], ρ))))))))) (gNm 3)))))) (oD (fun ρ => some (.int 0, ρ))))))))))
def b__law_could (g : Nm → FnD) : FS := (gSeq (gIfS (gT (gOp2 inD (oD (gTup (gCons (fun ρ => some (.str "any", ρ)) (fun ρ => some ([], ρ))))) (oD (shW (gLst (gCons (gNm 0) (gCons (gNm 1) (fun ρ => some ([], ρ))))))))) (gRet (wD (fun ρ => some (.bl true, ρ)))) gSkip) (gSeq (gIfS (gT (gOp2 neD (oD (gOp2 ixD (oNm 0) (oD (fun ρ => some (.int 0, ρ))))) (oD (gOp2 ixD (oNm 1) (oD (fun ρ => some (.int 0, ρ))))))) (gRet (wD (fun ρ => some (.bl false, ρ)))) gSkip) (gSeq (gIfS (gT (gOp2 eqD (oD (gOp2 ixD (oNm 0) (oD (fun ρ => some (.int 0, ρ))))) (oD (fun ρ => some (.str "fn", ρ))))) (gRet (wD (gAndV (shW (gCallD [false, false] (g .f__law_could) [] (gVa (gOp2 ixD (oNm 1) (oD (fun ρ => some (.int 1, ρ)))) (gVa (gOp2 ixD (oNm 0) (oD (fun ρ => some (.int 1, ρ)))) (fun ρ => some ([], ρ)))))) (shW (gCallD [false, false] (g .f__law_could) [] (gVa (gOp2 ixD (oNm 0) (oD (fun ρ => some (.int 2, ρ)))) (gVa (gOp2 ixD (oNm 1) (oD (fun ρ => some (.int 2, ρ)))) (fun ρ => some ([], ρ))))))))) gSkip) (gSeq (gSet 2 (gIfW (gT (gOp2 eqD (oD (gOp2 ixD (oNm 0) (oD (fun ρ => some (.int 0, ρ))))) (oD (fun ρ => some (.str "record", ρ))))) (gOp1W dictD (oD (gOp2 ixD (oNm 0) (oD (fun ρ => some (.int 1, ρ)))))) gDic0)) (gRet (wD (gOrV (gOp2 neD (oD (gOp2 ixD (oNm 0) (oD (fun ρ => some (.int 0, ρ))))) (oD (fun ρ => some (.str "record", ρ)))) (gOp2 eqD (oD (gOp1 lenD (oD (shW (gComp [3, 4] (gSqB (gOp2 ixD (oNm 1) (oD (fun ρ => some (.int 1, ρ))))) (hTup 2 (hCons (hNm 3) (hCons (hNm 4) hNil))) (gOr (gT (gOp2 ninD (oNm 3) (oNm 2))) (gNot (gT (shW (gCallD [false, false] (g .f__law_could) [] (gVa (gOp2 ixD (oNm 2) (oNm 3)) (gVa (gNm 4) (fun ρ => some ([], ρ))))))))) (gNm 3)))))) (oD (fun ρ => some (.int 0, ρ)))))))))))
def b__law_value (g : Nm → FnD) : FS := (gSeq (gIfS (gT (gOp2 eqD (oNm 1) (oD (gTup (gCons (fun ρ => some (.str "any", ρ)) (fun ρ => some ([], ρ))))))) (gSeq (gSet 3 (gIfW (gT (gOp2 gtI (oNm 2) (oD (fun ρ => some (.int 0, ρ))))) (gCallD [true, false] (g .f__law_wide) [] (gBo 0 (gVa (fun ρ => some (.int 2, ρ)) (fun ρ => some ([], ρ))))) (wD (gTup (gCons (fun ρ => some (.str "int", ρ)) (fun ρ => some ([], ρ))))))) (gSeq (gSet 3 (gIfW (gT (gOp2 neD (oNm 3) (oD (gTup (gCons (fun ρ => some (.str "any", ρ)) (fun ρ => some ([], ρ))))))) (wD (gNm 3)) (wD (gTup (gCons (fun ρ => some (.str "bool", ρ)) (fun ρ => some ([], ρ))))))) (gRet (wD (gTup (gCons (fun ρ => some (.str "tag", ρ)) (gCons (gNm 3) (gCons (shW (gCallD [true, false, false] (g .f__law_value) [] (gBo 0 (gVa (gNm 3) (gVa (gOp2 subI (oNm 2) (oD (fun ρ => some (.int 1, ρ)))) (fun ρ => some ([], ρ))))))) (fun ρ => some ([], ρ)))))))))) gSkip) (gSeq (gIfS (gT (gOp2 eqD (oD (gOp2 ixD (oNm 1) (oD (fun ρ => some (.int 0, ρ))))) (oD (fun ρ => some (.str "int", ρ))))) (gRet (wD (gTup (gCons (fun ρ => some (.str "int", ρ)) (gCons (gOp2 subI (oD (shW (gCallD [true, false] (g .f__law_draw) [] (gBo 0 (gVa (fun ρ => some (.int 9, ρ)) (fun ρ => some ([], ρ))))))) (oD (fun ρ => some (.int 4, ρ)))) (fun ρ => some ([], ρ))))))) gSkip) (gSeq (gIfS (gT (gOp2 eqD (oD (gOp2 ixD (oNm 1) (oD (fun ρ => some (.int 0, ρ))))) (oD (fun ρ => some (.str "bool", ρ))))) (gRet (wD (gTup (gCons (fun ρ => some (.str "bool", ρ)) (gCons (gOp2 eqD (oD (shW (gCallD [true, false] (g .f__law_draw) [] (gBo 0 (gVa (fun ρ => some (.int 2, ρ)) (fun ρ => some ([], ρ))))))) (oD (fun ρ => some (.int 0, ρ)))) (fun ρ => some ([], ρ))))))) gSkip) (gSeq (gIfS (gT (gOp2 eqD (oD (gOp2 ixD (oNm 1) (oD (fun ρ => some (.int 0, ρ))))) (oD (fun ρ => some (.str "fn", ρ))))) (gRet (wD (gTup (gCons (fun ρ => some (.str "name", ρ)) (gCons (fun ρ => some (.str "f", ρ)) (fun ρ => some ([], ρ))))))) gSkip) (gRet (wD (gTup (gCons (fun ρ => some (.str "record", ρ)) (gCons (gOp1 tupD (oD (shW (gComp [4, 5] (gSqB (gOp2 ixD (oNm 1) (oD (fun ρ => some (.int 1, ρ))))) (hTup 2 (hCons (hNm 4) (hCons (hNm 5) hNil))) tYesD (gTup (gCons (gNm 4) (gCons (shW (gCallD [true, false, false] (g .f__law_value) [] (gBo 0 (gVa (gNm 5) (gVa (gOp2 subI (oNm 2) (oD (fun ρ => some (.int 1, ρ)))) (fun ρ => some ([], ρ))))))) (fun ρ => some ([], ρ))))))))) (fun ρ => some ([], ρ)))))))))))
def b__law_forms (g : Nm → FnD) : FS := (gSeq (gIfS (gT (gOp2 inD (oD (gTup (gCons (fun ρ => some (.str "any", ρ)) (fun ρ => some ([], ρ))))) (oD (shW (gLst (gCons (gNm 0) (gCons (gNm 1) (fun ρ => some ([], ρ))))))))) (gRet (wD (fun ρ => some (.bl true, ρ)))) gSkip) (gSeq (gIfS (gT (gOp2 neD (oD (gOp2 ixD (oNm 0) (oD (fun ρ => some (.int 0, ρ))))) (oD (gOp2 ixD (oNm 1) (oD (fun ρ => some (.int 0, ρ))))))) (gRet (wD (fun ρ => some (.bl false, ρ)))) gSkip) (gSeq (gSet 2 (gIfW (gT (gOp2 eqD (oD (gOp2 ixD (oNm 0) (oD (fun ρ => some (.int 0, ρ))))) (oD (fun ρ => some (.str "record", ρ))))) (gOp1W dictD (oD (gOp2 ixD (oNm 0) (oD (fun ρ => some (.int 1, ρ)))))) gDic0)) (gRet (wD (gOrV (gOp2 neD (oD (gOp2 ixD (oNm 0) (oD (fun ρ => some (.int 0, ρ))))) (oD (fun ρ => some (.str "record", ρ)))) (gOp2 eqD (oD (gOp1 lenD (oD (shW (gComp [3, 4] (gSqB (gOp2 ixD (oNm 1) (oD (fun ρ => some (.int 1, ρ))))) (hTup 2 (hCons (hNm 3) (hCons (hNm 4) hNil))) (gOr (gT (gOp2 ninD (oNm 3) (oNm 2))) (gNot (gT (shW (gCallD [false, false] (g .f__law_forms) [] (gVa (gOp2 ixD (oNm 2) (oNm 3)) (gVa (gNm 4) (fun ρ => some ([], ρ))))))))) (gNm 3)))))) (oD (fun ρ => some (.int 0, ρ))))))))))
def l__law_cast_0 (g : Nm → FnD) : FS := (gSeq (gSet 9 (gCallD [false, false, false, false] (g .f__law_cast) [] (gVa (gOp2 ixD (oNm 4) (oNm 7)) (gVa (gOp2 ixD (oNm 5) (oNm 7)) (gVa (gNm 8) (gVa (gNm 3) (fun ρ => some ([], ρ)))))))) (gSeq (gIfS (gT (gOp2 eqD (oD (gOp2 ixD (oNm 9) (oD (fun ρ => some (.int 0, ρ))))) (oD (fun ρ => some (.str "blame", ρ))))) (gRet (gMv 9)) gSkip) (gApp 6 (gTup (gCons (gNm 7) (gCons (gOp2 ixD (oNm 9) (oD (fun ρ => some (.int 1, ρ)))) (fun ρ => some ([], ρ))))))))
def b__law_cast (g : Nm → FnD) : FS := (gSeq (gIfS (gT (gOp2 eqD (oNm 1) (oNm 2))) (gRet (wD (gTup (gCons (fun ρ => some (.str "ok", ρ)) (gCons (gNm 0) (fun ρ => some ([], ρ))))))) gSkip) (gSeq (gIfS (gT (gOp2 eqD (oNm 2) (oD (gTup (gCons (fun ρ => some (.str "any", ρ)) (fun ρ => some ([], ρ))))))) (gRet (wD (gTup (gCons (fun ρ => some (.str "ok", ρ)) (gCons (gTup (gCons (fun ρ => some (.str "tag", ρ)) (gCons (gNm 1) (gCons (gNm 0) (fun ρ => some ([], ρ)))))) (fun ρ => some ([], ρ))))))) gSkip) (gSeq (gIfS (gT (gOp2 eqD (oNm 1) (oD (gTup (gCons (fun ρ => some (.str "any", ρ)) (fun ρ => some ([], ρ))))))) (gRet (gIfW (gT (shW (gCallD [false, false] (g .f__law_forms) [] (gVa (gOp2 ixD (oNm 0) (oD (fun ρ => some (.int 1, ρ)))) (gVa (gNm 2) (fun ρ => some ([], ρ))))))) (gCallD [false, false, false, false] (g .f__law_cast) [] (gVa (gOp2 ixD (oNm 0) (oD (fun ρ => some (.int 2, ρ)))) (gVa (gOp2 ixD (oNm 0) (oD (fun ρ => some (.int 1, ρ)))) (gVa (gNm 2) (gVa (gNm 3) (fun ρ => some ([], ρ))))))) (wD (gTup (gCons (fun ρ => some (.str "blame", ρ)) (gCons (gNm 3) (fun ρ => some ([], ρ)))))))) gSkip) (gSeq (gIfS (gT (gOp2 eqD (oD (gOp2 ixD (oNm 1) (oD (fun ρ => some (.int 0, ρ))))) (oD (fun ρ => some (.str "fn", ρ))))) (gRet (wD (gTup (gCons (fun ρ => some (.str "ok", ρ)) (gCons (gTup (gCons (fun ρ => some (.str "wrap", ρ)) (gCons (gNm 0) (gCons (gNm 1) (gCons (gNm 2) (gCons (gNm 3) (fun ρ => some ([], ρ)))))))) (fun ρ => some ([], ρ))))))) gSkip) (gSeq (gIfS (gT (gOp2 neD (oD (gOp2 ixD (oNm 1) (oD (fun ρ => some (.int 0, ρ))))) (oD (fun ρ => some (.str "record", ρ))))) (gRet (wD (gTup (gCons (fun ρ => some (.str "ok", ρ)) (gCons (gNm 0) (fun ρ => some ([], ρ))))))) gSkip) (gSeq (gPar3 4 5 6 (shW (gOp1W dictD (oD (gOp2 ixD (oNm 0) (oD (fun ρ => some (.int 1, ρ))))))) (shW (gOp1W dictD (oD (gOp2 ixD (oNm 1) (oD (fun ρ => some (.int 1, ρ))))))) (gLst (fun ρ => some ([], ρ)))) (gSeq (gFor (gSqB (gOp2 ixD (oNm 2) (oD (fun ρ => some (.int 1, ρ))))) (hTup 2 (hCons (hNm 7) (hCons (hNm 8) hNil))) (l__law_cast_0 g)) (gRet (wD (gTup (gCons (fun ρ => some (.str "ok", ρ)) (gCons (gTup (gCons (fun ρ => some (.str "record", ρ)) (gCons (gOp1 tupD (oNm 6)) (fun ρ => some ([], ρ))))) (fun ρ => some ([], ρ))))))))))))))
def b__law_has (g : Nm → FnD) : FS := (gSeq (gIfS (gT (gOp2 eqD (oNm 1) (oD (gTup (gCons (fun ρ => some (.str "any", ρ)) (fun ρ => some ([], ρ))))))) (gRet (wD (gAndV (gOp2 eqD (oD (gOp2 ixD (oNm 0) (oD (fun ρ => some (.int 0, ρ))))) (oD (fun ρ => some (.str "tag", ρ)))) (shW (gCallD [false, false] (g .f__law_has) [] (gVa (gOp2 ixD (oNm 0) (oD (fun ρ => some (.int 2, ρ)))) (gVa (gOp2 ixD (oNm 0) (oD (fun ρ => some (.int 1, ρ)))) (fun ρ => some ([], ρ))))))))) gSkip) (gSeq (gIfS (gT (gOp2 eqD (oD (gOp2 ixD (oNm 1) (oD (fun ρ => some (.int 0, ρ))))) (oD (fun ρ => some (.str "fn", ρ))))) (gRet (wD (gOp2 inD (oD (gOp2 ixD (oNm 0) (oD (fun ρ => some (.int 0, ρ))))) (oD (shW (gLst (gCons (fun ρ => some (.str "name", ρ)) (gCons (fun ρ => some (.str "wrap", ρ)) (fun ρ => some ([], ρ)))))))))) gSkip) (gSeq (gIfS (gT (gOp2 neD (oD (gOp2 ixD (oNm 1) (oD (fun ρ => some (.int 0, ρ))))) (oD (fun ρ => some (.str "record", ρ))))) (gRet (wD (gOp2 eqD (oD (gOp2 ixD (oNm 0) (oD (fun ρ => some (.int 0, ρ))))) (oD (gOp2 ixD (oNm 1) (oD (fun ρ => some (.int 0, ρ)))))))) gSkip) (gRet (wD (gAndV (gOp2 eqD (oD (shW (gComp [2] (gSqB (gOp2 ixD (oNm 0) (oD (fun ρ => some (.int 1, ρ))))) (hNm 2) tYesD (gOp2 ixD (oNm 2) (oD (fun ρ => some (.int 0, ρ))))))) (oD (shW (gComp [2] (gSqB (gOp2 ixD (oNm 1) (oD (fun ρ => some (.int 1, ρ))))) (hNm 2) tYesD (gOp2 ixD (oNm 2) (oD (fun ρ => some (.int 0, ρ)))))))) (gOp2 eqD (oD (gOp1 lenD (oD (shW (gComp [3] (gRng1 (gCons (gOp1 lenD (oD (gOp2 ixD (oNm 1) (oD (fun ρ => some (.int 1, ρ)))))) (fun ρ => some ([], ρ)))) (hNm 3) (gNot (gT (shW (gCallD [false, false] (g .f__law_has) [] (gVa (gOp2 ixD (oD (gOp2 ixD (oD (gOp2 ixD (oNm 0) (oD (fun ρ => some (.int 1, ρ))))) (oNm 3))) (oD (fun ρ => some (.int 1, ρ)))) (gVa (gOp2 ixD (oD (gOp2 ixD (oD (gOp2 ixD (oNm 1) (oD (fun ρ => some (.int 1, ρ))))) (oNm 3))) (oD (fun ρ => some (.int 1, ρ)))) (fun ρ => some ([], ρ)))))))) (gNm 3)))))) (oD (fun ρ => some (.int 0, ρ))))))))))
def b__law_fewer (g : Nm → FnD) : FS := (gSeq (gIfS (gT (gOp2 neD (oD (gOp2 ixD (oNm 0) (oD (fun ρ => some (.int 0, ρ))))) (oD (fun ρ => some (.str "record", ρ))))) (gRet (gMv 0)) gSkip) (gSeq (gSet 2 (gOp1W dictD (oD (gOp2 ixD (oNm 0) (oD (fun ρ => some (.int 1, ρ))))))) (gRet (wD (gTup (gCons (fun ρ => some (.str "record", ρ)) (gCons (gOp1 tupD (oD (shW (gComp [3, 4] (gSqB (gOp2 ixD (oNm 1) (oD (fun ρ => some (.int 1, ρ))))) (hTup 2 (hCons (hNm 3) (hCons (hNm 4) hNil))) tYesD (gTup (gCons (gNm 3) (gCons (shW (gCallD [false, false] (g .f__law_fewer) [] (gVa (gOp2 ixD (oNm 2) (oNm 3)) (gVa (gNm 4) (fun ρ => some ([], ρ)))))) (fun ρ => some ([], ρ))))))))) (fun ρ => some ([], ρ)))))))))
def l_law_0 (g : Nm → FnD) : FS := (gSeq (gSet 4 (gCallD [true, false] (g .f__law_wide) [] (gBo 1 (gVa (fun ρ => some (.int 3, ρ)) (fun ρ => some ([], ρ)))))) (gSeq (gSet 5 (gCallD [true, false] (g .f__law_mixed) [] (gBo 1 (gVa (gNm 4) (fun ρ => some ([], ρ)))))) (gSeq (gSet 6 (gCallD [true, false, false] (g .f__law_value) [] (gBo 1 (gVa (gNm 4) (gVa (fun ρ => some (.int 2, ρ)) (fun ρ => some ([], ρ))))))) (gSeq (gIfS (gOr (gT (gOp2 isnD (oD (shW (gCallD [false, false] (g .f_has_wide) [] (gVa (gNm 6) (gVa (gNm 4) (fun ρ => some ([], ρ))))))) (oD (fun ρ => some (.bl true, ρ))))) (gOr (gNot (gT (shW (gCallD [false, false] (g .f__law_same) [] (gVa (shW (gCallD [false, false] (g .f_could_be) [] (gVa (gNm 4) (gVa (gNm 5) (fun ρ => some ([], ρ)))))) (gVa (shW (gCallD [false, false] (g .f__law_forms) [] (gVa (gNm 4) (gVa (gNm 5) (fun ρ => some ([], ρ)))))) (fun ρ => some ([], ρ)))))))) (gNot (gT (shW (gCallD [false, false] (g .f__law_same) [] (gVa (shW (gCallD [false, false] (g .f_is_free) [] (gVa (gNm 4) (gVa (gNm 5) (fun ρ => some ([], ρ)))))) (gVa (shW (gCallD [false, false] (g .f__law_under) [] (gVa (gNm 4) (gVa (gNm 5) (fun ρ => some ([], ρ)))))) (fun ρ => some ([], ρ)))))))))) (gRet (wD (fun ρ => some (.bl false, ρ)))) gSkip) (gSeq (gSet 7 (gCallD [false, false, false, false] (g .f_cast_wide) [] (gVa (gNm 6) (gVa (gNm 4) (gVa (gTup (gCons (fun ρ => some (.str "any", ρ)) (fun ρ => some ([], ρ)))) (gVa (gNm 2) (fun ρ => some ([], ρ)))))))) (gSeq (gSet 8 (gCallD [false, false, false, false] (g .f_cast_wide) [] (gVa (gOp2 ixD (oNm 7) (oD (fun ρ => some (.int 1, ρ)))) (gVa (gTup (gCons (fun ρ => some (.str "any", ρ)) (fun ρ => some ([], ρ)))) (gVa (gNm 4) (gVa (gNm 2) (fun ρ => some ([], ρ)))))))) (gSeq (gIfS (gOr (gT (gOp2 neD (oD (gOp2 ixD (oNm 7) (oD (fun ρ => some (.int 0, ρ))))) (oD (fun ρ => some (.str "ok", ρ))))) (gOr (gT (gOp2 isnD (oD (shW (gCallD [false, false] (g .f_has_wide) [] (gVa (gOp2 ixD (oNm 7) (oD (fun ρ => some (.int 1, ρ)))) (gVa (gTup (gCons (fun ρ => some (.str "any", ρ)) (fun ρ => some ([], ρ)))) (fun ρ => some ([], ρ))))))) (oD (fun ρ => some (.bl true, ρ))))) (gNot (gT (shW (gCallD [false, false] (g .f__law_same) [] (gVa (gNm 8) (gVa (gTup (gCons (fun ρ => some (.str "ok", ρ)) (gCons (gNm 6) (fun ρ => some ([], ρ))))) (fun ρ => some ([], ρ)))))))))) (gRet (wD (fun ρ => some (.bl false, ρ)))) gSkip) (gSeq (gIfS (gNot (gT (shW (gCallD [false, false] (g .f__law_could) [] (gVa (gNm 4) (gVa (gNm 5) (fun ρ => some ([], ρ)))))))) (fun ρ => some (.ct, ρ)) gSkip) (gSeq (gSet 9 (gCallD [false, false, false, false] (g .f_cast_wide) [] (gVa (gNm 6) (gVa (gNm 4) (gVa (gNm 5) (gVa (gNm 2) (fun ρ => some ([], ρ)))))))) (gSeq (gIfS (gOr (gNot (gT (shW (gCallD [false, false] (g .f__law_same) [] (gVa (gNm 9) (gVa (shW (gCallD [false, false, false, false] (g .f__law_cast) [] (gVa (gNm 6) (gVa (gNm 4) (gVa (gNm 5) (gVa (gNm 2) (fun ρ => some ([], ρ)))))))) (fun ρ => some ([], ρ)))))))) (gAnd (gT (gOp2 eqD (oD (gOp2 ixD (oNm 9) (oD (fun ρ => some (.int 0, ρ))))) (oD (fun ρ => some (.str "ok", ρ))))) (gOr (gT (gOp2 isnD (oD (shW (gCallD [false, false] (g .f_has_wide) [] (gVa (gOp2 ixD (oNm 9) (oD (fun ρ => some (.int 1, ρ)))) (gVa (gNm 5) (fun ρ => some ([], ρ))))))) (oD (fun ρ => some (.bl true, ρ))))) (gNot (gT (shW (gCallD [false, false] (g .f__law_has) [] (gVa (gOp2 ixD (oNm 9) (oD (fun ρ => some (.int 1, ρ)))) (gVa (gNm 5) (fun ρ => some ([], ρ))))))))))) (gRet (wD (fun ρ => some (.bl false, ρ)))) gSkip) (gSeq (gIfS (gT (shW (gCallD [false, false] (g .f_under) [] (gVa (gNm 4) (gVa (gNm 5) (fun ρ => some ([], ρ))))))) (gSeq (gIfS (gOr (gT (gOp2 neD (oD (gOp2 ixD (oNm 9) (oD (fun ρ => some (.int 0, ρ))))) (oD (fun ρ => some (.str "ok", ρ))))) (gAnd (gT (gOp2 ninD (oD (fun ρ => some (.str "any", ρ))) (oD (gOp1 reprD (oNm 4))))) (gAnd (gT (gOp2 ninD (oD (fun ρ => some (.str "'fn'", ρ))) (oD (gOp1 reprD (oNm 4))))) (gNot (gT (shW (gCallD [false, false] (g .f__law_same) [] (gVa (gOp2 ixD (oNm 9) (oD (fun ρ => some (.int 1, ρ)))) (gVa (shW (gCallD [false, false] (g .f_fewer_fields) [] (gVa (gNm 6) (gVa (gNm 5) (fun ρ => some ([], ρ)))))) (fun ρ => some ([], ρ))))))))))) (gRet (wD (fun ρ => some (.bl false, ρ)))) gSkip) (gIfS (gAnd (gT (gOp2 ninD (oD (fun ρ => some (.str "'fn'", ρ))) (oD (gOp1 reprD (oNm 4))))) (gAnd (gT (gOp2 ninD (oD (fun ρ => some (.str "any", ρ))) (oD (gOp1 reprD (oNm 4))))) (gT (gOp2 neD (oD (shW (gCallD [false] (g .f_shown_wide) [] (gVa (gOp2 ixD (oNm 9) (oD (fun ρ => some (.int 1, ρ)))) (fun ρ => some ([], ρ)))))) (oD (shW (gCallD [false, false] (g .f__law_fewer) [] (gVa (gNm 6) (gVa (gNm 5) (fun ρ => some ([], ρ))))))))))) (gRet (wD (fun ρ => some (.bl false, ρ)))) gSkip)) gSkip) (gIfS (gT (shW (gCallD [false, false] (g .f_alike_under) [] (gVa (gNm 4) (gVa (gNm 5) (fun ρ => some ([], ρ))))))) (gSeq (gSet 10 (gCallD [false, false] (g .f_between_up) [] (gVa (gNm 4) (gVa (gNm 5) (fun ρ => some ([], ρ)))))) (gSeq (gSet 11 (gCallD [false, false, false, false] (g .f_cast_wide) [] (gVa (gNm 6) (gVa (gNm 4) (gVa (gNm 10) (gVa (gNm 2) (fun ρ => some ([], ρ)))))))) (gSeq (gIfS (gT (gOp2 neD (oD (gOp2 ixD (oNm 11) (oD (fun ρ => some (.int 0, ρ))))) (oD (fun ρ => some (.str "ok", ρ))))) (gRet (wD (fun ρ => some (.bl false, ρ)))) gSkip) (gSeq (gSet 12 (gCallD [false, false, false, false] (g .f_cast_wide) [] (gVa (gOp2 ixD (oNm 11) (oD (fun ρ => some (.int 1, ρ)))) (gVa (gNm 10) (gVa (gNm 5) (gVa (gNm 2) (fun ρ => some ([], ρ)))))))) (gIfS (gOr (gT (gOp2 neD (oD (gOp2 ixD (oNm 12) (oD (fun ρ => some (.int 0, ρ))))) (oD (gOp2 ixD (oNm 9) (oD (fun ρ => some (.int 0, ρ))))))) (gAnd (gT (gOp2 eqD (oD (gOp2 ixD (oNm 9) (oD (fun ρ => some (.int 0, ρ))))) (oD (fun ρ => some (.str "ok", ρ))))) (gAnd (gT (gOp2 ninD (oD (fun ρ => some (.str "any", ρ))) (oD (gOp1 reprD (oNm 5))))) (gT (gOp2 neD (oD (shW (gCallD [false] (g .f_shown_wide) [] (gVa (gOp2 ixD (oNm 12) (oD (fun ρ => some (.int 1, ρ)))) (fun ρ => some ([], ρ)))))) (oD (shW (gCallD [false] (g .f_shown_wide) [] (gVa (gOp2 ixD (oNm 9) (oD (fun ρ => some (.int 1, ρ)))) (fun ρ => some ([], ρ))))))))))) (gRet (wD (fun ρ => some (.bl false, ρ)))) gSkip))))) gSkip))))))))))))
def b_law (g : Nm → FnD) : FS := (gSeq (gSet 1 (gCallD [false] (g .f__law_draws) [] (gVa (gNm 0) (fun ρ => some ([], ρ))))) (gSeq (gSet 2 (wD (gTup (gCons (gTup (gCons (fun ρ => some (.int 3, ρ)) (fun ρ => some ([], ρ)))) (gCons (fun ρ => some (.bl true, ρ)) (fun ρ => some ([], ρ))))))) (gSeq (gFor (gRng1 (gCons (fun ρ => some (.int 8, ρ)) (fun ρ => some ([], ρ)))) (hNm 3) (l_law_0 g)) (gRet (wD (fun ρ => some (.bl true, ρ)))))))
def bd (g : Nm → FnD) : Nm → FnD
  | .f_fields => runG [false] 3 (b_fields g)
  | .f_record => runG [false] 2 (b_record g)
  | .f_under => runG [false, false] 5 (b_under g)
  | .f_alike_under => runG [false, false] 5 (b_alike_under g)
  | .f_between_up => runG [false, false] 5 (b_between_up g)
  | .f_between_down => runG [false, false] 5 (b_between_down g)
  | .f_cast_wide => runG [false, false, false, false] 10 (b_cast_wide g)
  | .f_untagged => runG [false, false, false] 5 (b_untagged g)
  | .f_could_be => runG [false, false] 5 (b_could_be g)
  | .f_has_wide => runG [false, false] 6 (b_has_wide g)
  | .f_shown_wide => runG [false] 3 (b_shown_wide g)
  | .f_fewer_fields => runG [false, false] 5 (b_fewer_fields g)
  | .f_is_free => runG [false, false] 2 (b_is_free g)
  | .f__law_draws => runG [false] 1 (b__law_draws g)
  | .f__law_draw => runG [true, false] 4 (b__law_draw g)
  | .f__law_same => runG [false, false] 3 (b__law_same g)
  | .f__law_wide => runG [true, false] 5 (b__law_wide g)
  | .f__law_mixed => runG [true, false] 6 (b__law_mixed g)
  | .f__law_under => runG [false, false] 5 (b__law_under g)
  | .f__law_could => runG [false, false] 5 (b__law_could g)
  | .f__law_value => runG [true, false, false] 6 (b__law_value g)
  | .f__law_forms => runG [false, false] 5 (b__law_forms g)
  | .f__law_cast => runG [false, false, false, false] 10 (b__law_cast g)
  | .f__law_has => runG [false, false] 4 (b__law_has g)
  | .f__law_fewer => runG [false, false] 5 (b__law_fewer g)
def G : Nat → Nm → FnD
  | 0 => fun _ _ => none
  | n + 1 => bd (G n)
def lawG (n : Nat) : FnD := runG [false] 13 (b_law (G n))
theorem G_succ (n : Nat) (x : Nm) (ds : List D) : G (n + 1) x ds = bd (G n) x ds := rfl
section
variable {P : Program} {w : World} {K : PySem.W.Frag} {mg : Str → Option Value} {base : Heap}
structure Gf (K : PySem.W.Frag) (mg : Str → Option Value) : Prop where
  z : Zs mg
  g_ANY : ∃ u v, mg "ANY" = some u ∧ RelV v u ∧ ∀ F H, Rep ⟨K, mg⟩ F H c_ANY v
  r_repr : mg "repr" = none
structure Fs (P : Program) (w : World) (K : PySem.W.Frag) (mg : Str → Option Value) (base : Heap) (n : Nat) (g : Nm → FnD) : Prop where
  f_fields : FnA P w K mg base n "fields" [false] (g .f_fields)
  f_record : FnA P w K mg base n "record" [false] (g .f_record)
  f_under : FnA P w K mg base n "under" [false, false] (g .f_under)
  f_alike_under : FnA P w K mg base n "alike_under" [false, false] (g .f_alike_under)
  f_between_up : FnA P w K mg base n "between_up" [false, false] (g .f_between_up)
  f_between_down : FnA P w K mg base n "between_down" [false, false] (g .f_between_down)
  f_cast_wide : FnA P w K mg base n "cast_wide" [false, false, false, false] (g .f_cast_wide)
  f_untagged : FnA P w K mg base n "untagged" [false, false, false] (g .f_untagged)
  f_could_be : FnA P w K mg base n "could_be" [false, false] (g .f_could_be)
  f_has_wide : FnA P w K mg base n "has_wide" [false, false] (g .f_has_wide)
  f_shown_wide : FnA P w K mg base n "shown_wide" [false] (g .f_shown_wide)
  f_fewer_fields : FnA P w K mg base n "fewer_fields" [false, false] (g .f_fewer_fields)
  f_is_free : FnA P w K mg base n "is_free" [false, false] (g .f_is_free)
  f__law_draws : FnA P w K mg base n "_law_draws" [false] (g .f__law_draws)
  f__law_draw : FnA P w K mg base n "_law_draw" [true, false] (g .f__law_draw)
  f__law_same : FnA P w K mg base n "_law_same" [false, false] (g .f__law_same)
  f__law_wide : FnA P w K mg base n "_law_wide" [true, false] (g .f__law_wide)
  f__law_mixed : FnA P w K mg base n "_law_mixed" [true, false] (g .f__law_mixed)
  f__law_under : FnA P w K mg base n "_law_under" [false, false] (g .f__law_under)
  f__law_could : FnA P w K mg base n "_law_could" [false, false] (g .f__law_could)
  f__law_value : FnA P w K mg base n "_law_value" [true, false, false] (g .f__law_value)
  f__law_forms : FnA P w K mg base n "_law_forms" [false, false] (g .f__law_forms)
  f__law_cast : FnA P w K mg base n "_law_cast" [false, false, false, false] (g .f__law_cast)
  f__law_has : FnA P w K mg base n "_law_has" [false, false] (g .f__law_has)
  f__law_fewer : FnA P w K mg base n "_law_fewer" [false, false] (g .f__law_fewer)
abbrev s_fields : Stmt := topS 2
abbrev N_fields : List Str := ["kind", "label", "part"]
theorem sc_fields : FnScope N_fields ["kind"] (defScope s_fields) := ⟨rfl, rfl, rfl, by decide +kernel, rfl, by decide +kernel, by decide +kernel⟩
theorem ok_fields {n : Nat} {g : Nm → FnD} (Gs : Gf K mg) (ih : Fs P w K mg base n g) : ∀ (f : Addr) (cdv : Value) (A : Around) (outer : List PySem.Env) (s : Shared) (H : Hp) (E : XK), Room n (A.deeper (envOfC "fields" (defScope s_fields) s.heap.objs.size f cdv)) →
    PSs (bodyX P w K mg base N_fields "fields" (defScope s_fields) f cdv A outer s H E) (defBody s_fields) (tS ⟨K, mg⟩ (b_fields g)) := fun f cdv A outer s H E hr =>
  have Z := Gs.z
  have SC := sc_fields
  (css_one (cs_ret (cw_dc rfl SC.nd (own := [("label", 1), ("part", 2)]) (ci_seqB (w_ix hr (co_name (i := 0)) (co_of cd_int))) (blkOk_by (by show blkC N_fields (defScope s_fields) _ _ = true; decide +kernel)) (by decide) (fun _ _ _ _ _ => (cg_tup rfl (cgs_cons (cg_name (i := 1) SC.nd rfl (by first | exact Or.inl rfl | exact Or.inr rfl) (by first | exact Or.inl rfl | exact Or.inr rfl)) (cgs_cons (cg_name (i := 2) SC.nd rfl (by first | exact Or.inl rfl | exact Or.inr rfl) (by first | exact Or.inl rfl | exact Or.inr rfl)) cgs_nil)))) (fun _ _ _ _ _ => cts_nil) (fun _ _ _ _ _ => (cd_name (i := 1))) (fun _ _ _ _ _ => (cd_name (i := 2))))))
abbrev s_record : Stmt := topS 3
abbrev N_record : List Str := ["table", "label"]
theorem sc_record : FnScope N_record ["table"] (defScope s_record) := ⟨rfl, rfl, rfl, by decide +kernel, rfl, by decide +kernel, by decide +kernel⟩
theorem ok_record {n : Nat} {g : Nm → FnD} (Gs : Gf K mg) (ih : Fs P w K mg base n g) : ∀ (f : Addr) (cdv : Value) (A : Around) (outer : List PySem.Env) (s : Shared) (H : Hp) (E : XK), Room n (A.deeper (envOfC "record" (defScope s_record) s.heap.objs.size f cdv)) →
    PSs (bodyX P w K mg base N_record "record" (defScope s_record) f cdv A outer s H E) (defBody s_record) (tS ⟨K, mg⟩ (b_record g)) := fun f cdv A outer s H E hr =>
  have Z := Gs.z
  have SC := sc_record
  (css_one (cs_ret (cw_of (cd_tup (cl_cons cd_str (cl_cons (w_tuple Z (co_of (cd_of (cw_lc rfl SC.nd (own := [("label", 1)]) (ci_seqB (cd_of (w_sorted Z rfl (co_name (i := 0))))) (blkOk_by (by show blkC N_record (defScope s_record) _ _ = true; decide +kernel)) (by decide) (fun _ _ _ _ _ => (cg_name (i := 1) SC.nd rfl (by first | exact Or.inl rfl | exact Or.inr rfl) (by first | exact Or.inl rfl | exact Or.inr rfl))) (fun _ _ _ _ _ => cts_nil) (fun _ _ _ _ _ => (cd_tup (cl_cons (cd_name (i := 1)) (cl_cons (w_ix hr (co_name (i := 0)) (co_name (i := 1))) cl_nil)))))))) cl_nil))))))
abbrev s_under : Stmt := topS 4
abbrev N_under : List Str := ["one", "two", "known", "label", "part"]
theorem sc_under : FnScope N_under ["one", "two"] (defScope s_under) := ⟨rfl, rfl, rfl, by decide +kernel, rfl, by decide +kernel, by decide +kernel⟩
theorem ok_under {n : Nat} {g : Nm → FnD} (Gs : Gf K mg) (ih : Fs P w K mg base n g) : ∀ (f : Addr) (cdv : Value) (A : Around) (outer : List PySem.Env) (s : Shared) (H : Hp) (E : XK), Room n (A.deeper (envOfC "under" (defScope s_under) s.heap.objs.size f cdv)) →
    PSs (bodyX P w K mg base N_under "under" (defScope s_under) f cdv A outer s H E) (defBody s_under) (tS ⟨K, mg⟩ (b_under g)) := fun f cdv A outer s H E hr =>
  have Z := Gs.z
  have SC := sc_under
  (css_cons (cs_if (t_cmp (c_ne hr) (co_of (w_ix hr (co_name (i := 0)) (co_of cd_int))) (co_of (w_ix hr (co_name (i := 1)) (co_of cd_int)))) (css_one (cs_ret (cw_of cd_bl))) css_nil)
    (css_cons (cs_if (t_cmp (c_eq hr) (co_of (w_ix hr (co_name (i := 0)) (co_of cd_int))) (co_of cd_str)) (css_one (cs_ret (cw_of (cd_and (cd_of (cw_call ih.f_under.to hr rfl (ca_val (w_ix hr (co_name (i := 1)) (co_of cd_int)) (ca_val (w_ix hr (co_name (i := 0)) (co_of cd_int)) ca_nil)))) (cd_one (cd_of (cw_call ih.f_under.to hr rfl (ca_val (w_ix hr (co_name (i := 0)) (co_of cd_int)) (ca_val (w_ix hr (co_name (i := 1)) (co_of cd_int)) ca_nil))))))))) css_nil)
    (css_cons (cs_if (t_cmp (c_ne hr) (co_of (w_ix hr (co_name (i := 0)) (co_of cd_int))) (co_of cd_str)) (css_one (cs_ret (cw_of cd_bl))) css_nil)
    (css_cons (cs_set (i := 2) SC.nd rfl (by first | exact Or.inl rfl | exact Or.inr rfl) (cw_call ih.f_fields.to hr rfl (ca_val (cd_name (i := 0)) ca_nil)))
    (css_one (cs_ret (cw_of (w_all Z rfl (co_of (cd_of (cw_lc rfl SC.nd (own := [("label", 3), ("part", 4)]) (ci_seqB (w_ix hr (co_name (i := 1)) (co_of cd_int))) (blkOk_by (by show blkC N_under (defScope s_under) _ _ = true; decide +kernel)) (by decide) (fun _ _ _ _ _ => (cg_tup rfl (cgs_cons (cg_name (i := 3) SC.nd rfl (by first | exact Or.inl rfl | exact Or.inr rfl) (by first | exact Or.inl rfl | exact Or.inr rfl)) (cgs_cons (cg_name (i := 4) SC.nd rfl (by first | exact Or.inl rfl | exact Or.inr rfl) (by first | exact Or.inl rfl | exact Or.inr rfl)) cgs_nil)))) (fun _ _ _ _ _ => cts_nil) (fun _ _ _ _ _ => (cd_and (w_cmp (c_in hr) (co_name (i := 3)) (co_name (i := 2))) (cd_one (cd_of (cw_call ih.f_under.to hr rfl (ca_val (w_ix hr (co_name (i := 2)) (co_name (i := 3))) (ca_val (cd_name (i := 4)) ca_nil))))))))))))))))))
abbrev s_alike_under : Stmt := topS 5
abbrev N_alike_under : List Str := ["one", "two", "known", "label", "part"]
theorem sc_alike_under : FnScope N_alike_under ["one", "two"] (defScope s_alike_under) := ⟨rfl, rfl, rfl, by decide +kernel, rfl, by decide +kernel, by decide +kernel⟩
theorem ok_alike_under {n : Nat} {g : Nm → FnD} (Gs : Gf K mg) (ih : Fs P w K mg base n g) : ∀ (f : Addr) (cdv : Value) (A : Around) (outer : List PySem.Env) (s : Shared) (H : Hp) (E : XK), Room n (A.deeper (envOfC "alike_under" (defScope s_alike_under) s.heap.objs.size f cdv)) →
    PSs (bodyX P w K mg base N_alike_under "alike_under" (defScope s_alike_under) f cdv A outer s H E) (defBody s_alike_under) (tS ⟨K, mg⟩ (b_alike_under g)) := fun f cdv A outer s H E hr =>
  have Z := Gs.z
  have SC := sc_alike_under
  (css_cons (cs_if (CB.pt (cb_or (t_cmp (c_eq hr) (co_name (i := 0)) (co_of (cd_glob ⟨rfl, Gs.g_ANY⟩))) (cb_or1 (t_cmp (c_eq hr) (co_name (i := 1)) (co_of (cd_glob ⟨rfl, Gs.g_ANY⟩)))))) (css_one (cs_ret (cw_of cd_bl))) css_nil)
    (css_cons (cs_if (t_cmp (c_ne hr) (co_of (w_ix hr (co_name (i := 0)) (co_of cd_int))) (co_of (w_ix hr (co_name (i := 1)) (co_of cd_int)))) (css_one (cs_ret (cw_of cd_bl))) css_nil)
    (css_cons (cs_if (t_cmp (c_eq hr) (co_of (w_ix hr (co_name (i := 0)) (co_of cd_int))) (co_of cd_str)) (css_one (cs_ret (cw_of (cd_and (cd_of (cw_call ih.f_alike_under.to hr rfl (ca_val (w_ix hr (co_name (i := 1)) (co_of cd_int)) (ca_val (w_ix hr (co_name (i := 0)) (co_of cd_int)) ca_nil)))) (cd_one (cd_of (cw_call ih.f_alike_under.to hr rfl (ca_val (w_ix hr (co_name (i := 0)) (co_of cd_int)) (ca_val (w_ix hr (co_name (i := 1)) (co_of cd_int)) ca_nil))))))))) css_nil)
    (css_cons (cs_if (t_cmp (c_ne hr) (co_of (w_ix hr (co_name (i := 0)) (co_of cd_int))) (co_of cd_str)) (css_one (cs_ret (cw_of cd_bl))) css_nil)
    (css_cons (cs_set (i := 2) SC.nd rfl (by first | exact Or.inl rfl | exact Or.inr rfl) (cw_call ih.f_fields.to hr rfl (ca_val (cd_name (i := 0)) ca_nil)))
    (css_one (cs_ret (cw_of (w_all Z rfl (co_of (cd_of (cw_lc rfl SC.nd (own := [("label", 3), ("part", 4)]) (ci_seqB (w_ix hr (co_name (i := 1)) (co_of cd_int))) (blkOk_by (by show blkC N_alike_under (defScope s_alike_under) _ _ = true; decide +kernel)) (by decide) (fun _ _ _ _ _ => (cg_tup rfl (cgs_cons (cg_name (i := 3) SC.nd rfl (by first | exact Or.inl rfl | exact Or.inr rfl) (by first | exact Or.inl rfl | exact Or.inr rfl)) (cgs_cons (cg_name (i := 4) SC.nd rfl (by first | exact Or.inl rfl | exact Or.inr rfl) (by first | exact Or.inl rfl | exact Or.inr rfl)) cgs_nil)))) (fun _ _ _ _ _ => cts_nil) (fun _ _ _ _ _ => (cd_and (w_cmp (c_in hr) (co_name (i := 3)) (co_name (i := 2))) (cd_one (cd_of (cw_call ih.f_alike_under.to hr rfl (ca_val (w_ix hr (co_name (i := 2)) (co_name (i := 3))) (ca_val (cd_name (i := 4)) ca_nil)))))))))))))))))))
abbrev s_between_up : Stmt := topS 6
abbrev N_between_up : List Str := ["one", "two", "known", "label", "part"]
theorem sc_between_up : FnScope N_between_up ["one", "two"] (defScope s_between_up) := ⟨rfl, rfl, rfl, by decide +kernel, rfl, by decide +kernel, by decide +kernel⟩
theorem ok_between_up {n : Nat} {g : Nm → FnD} (Gs : Gf K mg) (ih : Fs P w K mg base n g) : ∀ (f : Addr) (cdv : Value) (A : Around) (outer : List PySem.Env) (s : Shared) (H : Hp) (E : XK), Room n (A.deeper (envOfC "between_up" (defScope s_between_up) s.heap.objs.size f cdv)) →
    PSs (bodyX P w K mg base N_between_up "between_up" (defScope s_between_up) f cdv A outer s H E) (defBody s_between_up) (tS ⟨K, mg⟩ (b_between_up g)) := fun f cdv A outer s H E hr =>
  have Z := Gs.z
  have SC := sc_between_up
  (css_cons (cs_if (CB.pt (cb_or (t_cmp (c_eq hr) (co_name (i := 0)) (co_of (cd_glob ⟨rfl, Gs.g_ANY⟩))) (cb_or1 (t_cmp (c_eq hr) (co_name (i := 1)) (co_of (cd_glob ⟨rfl, Gs.g_ANY⟩)))))) (css_one (cs_ret (cw_move (i := 0)))) css_nil)
    (css_cons (cs_if (t_cmp (c_eq hr) (co_of (w_ix hr (co_name (i := 0)) (co_of cd_int))) (co_of cd_str)) (css_one (cs_ret (cw_of (cd_tup (cl_cons cd_str (cl_cons (cd_of (cw_call ih.f_between_down.to hr rfl (ca_val (w_ix hr (co_name (i := 1)) (co_of cd_int)) (ca_val (w_ix hr (co_name (i := 0)) (co_of cd_int)) ca_nil)))) (cl_cons (cd_of (cw_call ih.f_between_up.to hr rfl (ca_val (w_ix hr (co_name (i := 0)) (co_of cd_int)) (ca_val (w_ix hr (co_name (i := 1)) (co_of cd_int)) ca_nil)))) cl_nil))))))) css_nil)
    (css_cons (cs_if (t_cmp (c_ne hr) (co_of (w_ix hr (co_name (i := 0)) (co_of cd_int))) (co_of cd_str)) (css_one (cs_ret (cw_move (i := 0)))) css_nil)
    (css_cons (cs_set (i := 2) SC.nd rfl (by first | exact Or.inl rfl | exact Or.inr rfl) (cw_call ih.f_fields.to hr rfl (ca_val (cd_name (i := 0)) ca_nil)))
    (css_one (cs_ret (cw_call ih.f_record.to hr rfl (ca_val (cd_of (cw_dc rfl SC.nd (own := [("label", 3), ("part", 4)]) (ci_seqB (w_ix hr (co_name (i := 1)) (co_of cd_int))) (blkOk_by (by show blkC N_between_up (defScope s_between_up) _ _ = true; decide +kernel)) (by decide) (fun _ _ _ _ _ => (cg_tup rfl (cgs_cons (cg_name (i := 3) SC.nd rfl (by first | exact Or.inl rfl | exact Or.inr rfl) (by first | exact Or.inl rfl | exact Or.inr rfl)) (cgs_cons (cg_name (i := 4) SC.nd rfl (by first | exact Or.inl rfl | exact Or.inr rfl) (by first | exact Or.inl rfl | exact Or.inr rfl)) cgs_nil)))) (fun _ _ _ _ _ => cts_nil) (fun _ _ _ _ _ => (cd_name (i := 3))) (fun _ _ _ _ _ => (cd_of (cw_call ih.f_between_up.to hr rfl (ca_val (w_ix hr (co_name (i := 2)) (co_name (i := 3))) (ca_val (cd_name (i := 4)) ca_nil))))))) ca_nil))))))))
abbrev s_between_down : Stmt := topS 7
abbrev N_between_down : List Str := ["one", "two", "found", "label", "part"]
theorem sc_between_down : FnScope N_between_down ["one", "two"] (defScope s_between_down) := ⟨rfl, rfl, rfl, by decide +kernel, rfl, by decide +kernel, by decide +kernel⟩
theorem ok_between_down {n : Nat} {g : Nm → FnD} (Gs : Gf K mg) (ih : Fs P w K mg base n g) : ∀ (f : Addr) (cdv : Value) (A : Around) (outer : List PySem.Env) (s : Shared) (H : Hp) (E : XK), Room n (A.deeper (envOfC "between_down" (defScope s_between_down) s.heap.objs.size f cdv)) →
    PSs (bodyX P w K mg base N_between_down "between_down" (defScope s_between_down) f cdv A outer s H E) (defBody s_between_down) (tS ⟨K, mg⟩ (b_between_down g)) := fun f cdv A outer s H E hr =>
  have Z := Gs.z
  have SC := sc_between_down
  (css_cons (cs_if (CB.pt (cb_or (t_cmp (c_eq hr) (co_name (i := 0)) (co_of (cd_glob ⟨rfl, Gs.g_ANY⟩))) (cb_or1 (t_cmp (c_eq hr) (co_name (i := 1)) (co_of (cd_glob ⟨rfl, Gs.g_ANY⟩)))))) (css_one (cs_ret (cw_move (i := 1)))) css_nil)
    (css_cons (cs_if (t_cmp (c_eq hr) (co_of (w_ix hr (co_name (i := 0)) (co_of cd_int))) (co_of cd_str)) (css_one (cs_ret (cw_of (cd_tup (cl_cons cd_str (cl_cons (cd_of (cw_call ih.f_between_up.to hr rfl (ca_val (w_ix hr (co_name (i := 1)) (co_of cd_int)) (ca_val (w_ix hr (co_name (i := 0)) (co_of cd_int)) ca_nil)))) (cl_cons (cd_of (cw_call ih.f_between_down.to hr rfl (ca_val (w_ix hr (co_name (i := 0)) (co_of cd_int)) (ca_val (w_ix hr (co_name (i := 1)) (co_of cd_int)) ca_nil)))) cl_nil))))))) css_nil)
    (css_cons (cs_if (t_cmp (c_ne hr) (co_of (w_ix hr (co_name (i := 0)) (co_of cd_int))) (co_of cd_str)) (css_one (cs_ret (cw_move (i := 1)))) css_nil)
    (css_cons (cs_set (i := 2) SC.nd rfl (by first | exact Or.inl rfl | exact Or.inr rfl) (cw_call ih.f_fields.to hr rfl (ca_val (cd_name (i := 0)) ca_nil)))
    (css_cons (cs_upd (i := 2) rfl (by first | exact Or.inl rfl | exact Or.inr (Or.inl rfl) | exact Or.inr (Or.inr rfl)) (cd_of (cw_dc rfl SC.nd (own := [("label", 3), ("part", 4)]) (ci_seqB (w_ix hr (co_name (i := 1)) (co_of cd_int))) (blkOk_by (by show blkC N_between_down (defScope s_between_down) _ _ = true; decide +kernel)) (by decide) (fun _ _ _ _ _ => (cg_tup rfl (cgs_cons (cg_name (i := 3) SC.nd rfl (by first | exact Or.inl rfl | exact Or.inr rfl) (by first | exact Or.inl rfl | exact Or.inr rfl)) (cgs_cons (cg_name (i := 4) SC.nd rfl (by first | exact Or.inl rfl | exact Or.inr rfl) (by first | exact Or.inl rfl | exact Or.inr rfl)) cgs_nil)))) (fun _ _ _ _ _ => cts_nil) (fun _ _ _ _ _ => (cd_name (i := 3))) (fun _ _ _ _ _ => (cd_of (cw_call ih.f_between_down.to hr rfl (ca_val (w_ix hr (co_name (i := 2)) (co_name (i := 3))) (ca_val (cd_name (i := 4)) ca_nil))))))))
    (css_one (cs_ret (cw_call ih.f_record.to hr rfl (ca_val (cd_name (i := 2)) ca_nil)))))))))
abbrev s_cast_wide : Stmt := topS 9
abbrev N_cast_wide : List Str := ["value", "kind", "due", "name", "known", "types", "found", "label", "part", "told"]
theorem sc_cast_wide : FnScope N_cast_wide ["value", "kind", "due", "name"] (defScope s_cast_wide) := ⟨rfl, rfl, rfl, by decide +kernel, rfl, by decide +kernel, by decide +kernel⟩
theorem ok_cast_wide {n : Nat} {g : Nm → FnD} (Gs : Gf K mg) (ih : Fs P w K mg base n g) : ∀ (f : Addr) (cdv : Value) (A : Around) (outer : List PySem.Env) (s : Shared) (H : Hp) (E : XK), Room n (A.deeper (envOfC "cast_wide" (defScope s_cast_wide) s.heap.objs.size f cdv)) →
    PSs (bodyX P w K mg base N_cast_wide "cast_wide" (defScope s_cast_wide) f cdv A outer s H E) (defBody s_cast_wide) (tS ⟨K, mg⟩ (b_cast_wide g)) := fun f cdv A outer s H E hr =>
  have Z := Gs.z
  have SC := sc_cast_wide
  (css_cons (cs_if (t_cmp (c_eq hr) (co_name (i := 1)) (co_name (i := 2))) (css_one (cs_ret (cw_of (cd_tup (cl_cons cd_str (cl_cons (cd_name (i := 0)) cl_nil)))))) css_nil)
    (css_cons (cs_if (t_cmp (c_eq hr) (co_name (i := 2)) (co_of (cd_glob ⟨rfl, Gs.g_ANY⟩))) (css_one (cs_ret (cw_of (cd_tup (cl_cons cd_str (cl_cons (cd_tup (cl_cons cd_str (cl_cons (cd_name (i := 1)) (cl_cons (cd_name (i := 0)) cl_nil)))) cl_nil)))))) css_nil)
    (css_cons (cs_if (t_cmp (c_eq hr) (co_name (i := 1)) (co_of (cd_glob ⟨rfl, Gs.g_ANY⟩))) (css_one (cs_ret (cw_call ih.f_untagged.to hr rfl (ca_val (cd_name (i := 0)) (ca_val (cd_name (i := 2)) (ca_val (cd_name (i := 3)) ca_nil)))))) css_nil)
    (css_cons (cs_if (t_cmp (c_eq hr) (co_of (w_ix hr (co_name (i := 1)) (co_of cd_int))) (co_of cd_str)) (css_one (cs_ret (cw_of (cd_tup (cl_cons cd_str (cl_cons (cd_tup (cl_cons cd_str (cl_cons (cd_name (i := 0)) (cl_cons (cd_name (i := 1)) (cl_cons (cd_name (i := 2)) (cl_cons (cd_name (i := 3)) cl_nil)))))) cl_nil)))))) css_nil)
    (css_cons (cs_if (t_cmp (c_ne hr) (co_of (w_ix hr (co_name (i := 1)) (co_of cd_int))) (co_of cd_str)) (css_one (cs_ret (cw_of (cd_tup (cl_cons cd_str (cl_cons (cd_name (i := 0)) cl_nil)))))) css_nil)
    (css_cons (cs_par (i := 4) (j := 5) rfl SC.nd rfl rfl (by decide) rfl rfl (cw_dc rfl SC.nd (own := [("label", 7), ("part", 8)]) (ci_seqB (w_ix hr (co_name (i := 0)) (co_of cd_int))) (blkOk_by (by show blkC N_cast_wide (defScope s_cast_wide) _ _ = true; decide +kernel)) (by decide) (fun _ _ _ _ _ => (cg_tup rfl (cgs_cons (cg_name (i := 7) SC.nd rfl (by first | exact Or.inl rfl | exact Or.inr rfl) (by first | exact Or.inl rfl | exact Or.inr rfl)) (cgs_cons (cg_name (i := 8) SC.nd rfl (by first | exact Or.inl rfl | exact Or.inr rfl) (by first | exact Or.inl rfl | exact Or.inr rfl)) cgs_nil)))) (fun _ _ _ _ _ => cts_nil) (fun _ _ _ _ _ => (cd_name (i := 7))) (fun _ _ _ _ _ => (cd_name (i := 8)))) (cw_call ih.f_fields.to hr rfl (ca_val (cd_name (i := 1)) ca_nil)) (by rfl))
    (css_cons (cs_set (i := 6) SC.nd rfl (by first | exact Or.inl rfl | exact Or.inr rfl) (cw_lst cl_nil))
    (css_cons (cs_for PassesOwn.never rfl (ci_seqB (w_ix hr (co_name (i := 2)) (co_of cd_int))) (cg_tup rfl (cgs_cons (cg_name (i := 7) SC.nd rfl (by first | exact Or.inl rfl | exact Or.inr rfl) (by first | exact Or.inl rfl | exact Or.inr rfl)) (cgs_cons (cg_name (i := 8) SC.nd rfl (by first | exact Or.inl rfl | exact Or.inr rfl) (by first | exact Or.inl rfl | exact Or.inr rfl)) cgs_nil))) (css_cons (cs_set (i := 9) SC.nd rfl (by first | exact Or.inl rfl | exact Or.inr rfl) (cw_call ih.f_cast_wide.to hr rfl (ca_val (w_ix hr (co_name (i := 4)) (co_name (i := 7))) (ca_val (w_ix hr (co_name (i := 5)) (co_name (i := 7))) (ca_val (cd_name (i := 8)) (ca_val (cd_name (i := 3)) ca_nil))))))
    (css_cons (cs_if (t_cmp (c_eq hr) (co_of (w_ix hr (co_name (i := 9)) (co_of cd_int))) (co_of cd_str)) (css_one (cs_ret (cw_move (i := 9)))) css_nil)
    (css_one (cs_app (i := 6) rfl (by first | exact Or.inl rfl | exact Or.inr (Or.inl rfl) | exact Or.inr (Or.inr rfl)) (cd_tup (cl_cons (cd_name (i := 7)) (cl_cons (w_ix hr (co_name (i := 9)) (co_of cd_int)) cl_nil))))))))
    (css_one (cs_ret (cw_of (cd_tup (cl_cons cd_str (cl_cons (cd_tup (cl_cons cd_str (cl_cons (w_tuple Z (co_name (i := 6))) cl_nil))) cl_nil))))))))))))))
abbrev s_untagged : Stmt := topS 10
abbrev N_untagged : List Str := ["value", "due", "name", "kind", "inner"]
theorem sc_untagged : FnScope N_untagged ["value", "due", "name"] (defScope s_untagged) := ⟨rfl, rfl, rfl, by decide +kernel, rfl, by decide +kernel, by decide +kernel⟩
theorem ok_untagged {n : Nat} {g : Nm → FnD} (Gs : Gf K mg) (ih : Fs P w K mg base n g) : ∀ (f : Addr) (cdv : Value) (A : Around) (outer : List PySem.Env) (s : Shared) (H : Hp) (E : XK), Room n (A.deeper (envOfC "untagged" (defScope s_untagged) s.heap.objs.size f cdv)) →
    PSs (bodyX P w K mg base N_untagged "untagged" (defScope s_untagged) f cdv A outer s H E) (defBody s_untagged) (tS ⟨K, mg⟩ (b_untagged g)) := fun f cdv A outer s H E hr =>
  have Z := Gs.z
  have SC := sc_untagged
  (css_cons (cs_par (i := 3) (j := 4) rfl SC.nd rfl rfl (by decide) rfl rfl (cw_of (w_ix hr (co_name (i := 0)) (co_of cd_int))) (cw_of (w_ix hr (co_name (i := 0)) (co_of cd_int))) (by rfl))
    (css_cons (cs_if (ct_not (ct_val (cd_of (cw_call ih.f_could_be.to hr rfl (ca_val (cd_name (i := 3)) (ca_val (cd_name (i := 1)) ca_nil)))))) (css_one (cs_ret (cw_of (cd_tup (cl_cons cd_str (cl_cons (cd_name (i := 2)) cl_nil)))))) css_nil)
    (css_one (cs_ret (cw_call ih.f_cast_wide.to hr rfl (ca_val (cd_name (i := 4)) (ca_val (cd_name (i := 3)) (ca_val (cd_name (i := 1)) (ca_val (cd_name (i := 2)) ca_nil)))))))))
abbrev s_could_be : Stmt := topS 11
abbrev N_could_be : List Str := ["kind", "due", "known", "label", "part"]
theorem sc_could_be : FnScope N_could_be ["kind", "due"] (defScope s_could_be) := ⟨rfl, rfl, rfl, by decide +kernel, rfl, by decide +kernel, by decide +kernel⟩
theorem ok_could_be {n : Nat} {g : Nm → FnD} (Gs : Gf K mg) (ih : Fs P w K mg base n g) : ∀ (f : Addr) (cdv : Value) (A : Around) (outer : List PySem.Env) (s : Shared) (H : Hp) (E : XK), Room n (A.deeper (envOfC "could_be" (defScope s_could_be) s.heap.objs.size f cdv)) →
    PSs (bodyX P w K mg base N_could_be "could_be" (defScope s_could_be) f cdv A outer s H E) (defBody s_could_be) (tS ⟨K, mg⟩ (b_could_be g)) := fun f cdv A outer s H E hr =>
  have Z := Gs.z
  have SC := sc_could_be
  (css_cons (cs_if (CB.pt (cb_or (t_cmp (c_eq hr) (co_name (i := 0)) (co_of (cd_glob ⟨rfl, Gs.g_ANY⟩))) (cb_or1 (t_cmp (c_eq hr) (co_name (i := 1)) (co_of (cd_glob ⟨rfl, Gs.g_ANY⟩)))))) (css_one (cs_ret (cw_of cd_bl))) css_nil)
    (css_cons (cs_if (t_cmp (c_ne hr) (co_of (w_ix hr (co_name (i := 0)) (co_of cd_int))) (co_of (w_ix hr (co_name (i := 1)) (co_of cd_int)))) (css_one (cs_ret (cw_of cd_bl))) css_nil)
    (css_cons (cs_if (t_cmp (c_ne hr) (co_of (w_ix hr (co_name (i := 0)) (co_of cd_int))) (co_of cd_str)) (css_one (cs_ret (cw_of cd_bl))) css_nil)
    (css_cons (cs_set (i := 2) SC.nd rfl (by first | exact Or.inl rfl | exact Or.inr rfl) (cw_call ih.f_fields.to hr rfl (ca_val (cd_name (i := 0)) ca_nil)))
    (css_one (cs_ret (cw_of (w_all Z rfl (co_of (cd_of (cw_lc rfl SC.nd (own := [("label", 3), ("part", 4)]) (ci_seqB (w_ix hr (co_name (i := 1)) (co_of cd_int))) (blkOk_by (by show blkC N_could_be (defScope s_could_be) _ _ = true; decide +kernel)) (by decide) (fun _ _ _ _ _ => (cg_tup rfl (cgs_cons (cg_name (i := 3) SC.nd rfl (by first | exact Or.inl rfl | exact Or.inr rfl) (by first | exact Or.inl rfl | exact Or.inr rfl)) (cgs_cons (cg_name (i := 4) SC.nd rfl (by first | exact Or.inl rfl | exact Or.inr rfl) (by first | exact Or.inl rfl | exact Or.inr rfl)) cgs_nil)))) (fun _ _ _ _ _ => cts_nil) (fun _ _ _ _ _ => (cd_and (w_cmp (c_in hr) (co_name (i := 3)) (co_name (i := 2))) (cd_one (cd_of (cw_call ih.f_could_be.to hr rfl (ca_val (w_ix hr (co_name (i := 2)) (co_name (i := 3))) (ca_val (cd_name (i := 4)) ca_nil))))))))))))))))))
abbrev s_has_wide : Stmt := topS 12
abbrev N_has_wide : List Str := ["value", "kind", "one", "two", "label", "part"]
theorem sc_has_wide : FnScope N_has_wide ["value", "kind"] (defScope s_has_wide) := ⟨rfl, rfl, rfl, by decide +kernel, rfl, by decide +kernel, by decide +kernel⟩
theorem ok_has_wide {n : Nat} {g : Nm → FnD} (Gs : Gf K mg) (ih : Fs P w K mg base n g) : ∀ (f : Addr) (cdv : Value) (A : Around) (outer : List PySem.Env) (s : Shared) (H : Hp) (E : XK), Room n (A.deeper (envOfC "has_wide" (defScope s_has_wide) s.heap.objs.size f cdv)) →
    PSs (bodyX P w K mg base N_has_wide "has_wide" (defScope s_has_wide) f cdv A outer s H E) (defBody s_has_wide) (tS ⟨K, mg⟩ (b_has_wide g)) := fun f cdv A outer s H E hr =>
  have Z := Gs.z
  have SC := sc_has_wide
  (css_cons (cs_if (t_cmp (c_eq hr) (co_name (i := 1)) (co_of (cd_glob ⟨rfl, Gs.g_ANY⟩))) (css_one (cs_ret (cw_of (cd_and (w_cmp (c_eq hr) (co_of (w_ix hr (co_name (i := 0)) (co_of cd_int))) (co_of cd_str)) (cd_and (w_cmp (c_ne hr) (co_of (w_ix hr (co_name (i := 0)) (co_of cd_int))) (co_of (cd_glob ⟨rfl, Gs.g_ANY⟩))) (cd_one (cd_of (cw_call ih.f_has_wide.to hr rfl (ca_val (w_ix hr (co_name (i := 0)) (co_of cd_int)) (ca_val (w_ix hr (co_name (i := 0)) (co_of cd_int)) ca_nil)))))))))) css_nil)
    (css_cons (cs_if (t_cmp (c_eq hr) (co_of (w_ix hr (co_name (i := 1)) (co_of cd_int))) (co_of cd_str)) (css_one (cs_ret (cw_of (w_cmp (c_in hr) (co_of (w_ix hr (co_name (i := 0)) (co_of cd_int))) (co_of (cd_tup (cl_cons cd_str (cl_cons cd_str cl_nil)))))))) css_nil)
    (css_cons (cs_if (t_cmp (c_ne hr) (co_of (w_ix hr (co_name (i := 1)) (co_of cd_int))) (co_of cd_str)) (css_one (cs_ret (cw_of (w_cmp (c_eq hr) (co_of (w_ix hr (co_name (i := 0)) (co_of cd_int))) (co_of (w_ix hr (co_name (i := 1)) (co_of cd_int))))))) css_nil)
    (css_cons (cs_if (CB.pt (cb_or (t_cmp (c_ne hr) (co_of (w_ix hr (co_name (i := 0)) (co_of cd_int))) (co_of cd_str)) (cb_or1 (t_cmp (c_ne hr) (co_of (cd_of (cw_lc rfl SC.nd (own := [("label", 4), ("part", 5)]) (ci_seqB (w_ix hr (co_name (i := 0)) (co_of cd_int))) (blkOk_by (by show blkC N_has_wide (defScope s_has_wide) _ _ = true; decide +kernel)) (by decide) (fun _ _ _ _ _ => (cg_tup rfl (cgs_cons (cg_name (i := 4) SC.nd rfl (by first | exact Or.inl rfl | exact Or.inr rfl) (by first | exact Or.inl rfl | exact Or.inr rfl)) (cgs_cons (cg_name (i := 5) SC.nd rfl (by first | exact Or.inl rfl | exact Or.inr rfl) (by first | exact Or.inl rfl | exact Or.inr rfl)) cgs_nil)))) (fun _ _ _ _ _ => cts_nil) (fun _ _ _ _ _ => (cd_name (i := 4)))))) (co_of (cd_of (cw_lc rfl SC.nd (own := [("label", 4), ("part", 5)]) (ci_seqB (w_ix hr (co_name (i := 1)) (co_of cd_int))) (blkOk_by (by show blkC N_has_wide (defScope s_has_wide) _ _ = true; decide +kernel)) (by decide) (fun _ _ _ _ _ => (cg_tup rfl (cgs_cons (cg_name (i := 4) SC.nd rfl (by first | exact Or.inl rfl | exact Or.inr rfl) (by first | exact Or.inl rfl | exact Or.inr rfl)) (cgs_cons (cg_name (i := 5) SC.nd rfl (by first | exact Or.inl rfl | exact Or.inr rfl) (by first | exact Or.inl rfl | exact Or.inr rfl)) cgs_nil)))) (fun _ _ _ _ _ => cts_nil) (fun _ _ _ _ _ => (cd_name (i := 4)))))))))) (css_one (cs_ret (cw_of cd_bl))) css_nil)
    (css_one (cs_ret (cw_of (w_all Z rfl (co_of (cd_of (cw_lc rfl SC.nd (own := [("one", 2), ("two", 3)]) (ci_zip rfl Z.zip (cl_cons (w_ix hr (co_name (i := 0)) (co_of cd_int)) (cl_cons (w_ix hr (co_name (i := 1)) (co_of cd_int)) cl_nil))) (blkOk_by (by show blkC N_has_wide (defScope s_has_wide) _ _ = true; decide +kernel)) (by decide) (fun _ _ _ _ _ => (cg_tup rfl (cgs_cons (cg_name (i := 2) SC.nd rfl (by first | exact Or.inl rfl | exact Or.inr rfl) (by first | exact Or.inl rfl | exact Or.inr rfl)) (cgs_cons (cg_name (i := 3) SC.nd rfl (by first | exact Or.inl rfl | exact Or.inr rfl) (by first | exact Or.inl rfl | exact Or.inr rfl)) cgs_nil)))) (fun _ _ _ _ _ => cts_nil) (fun _ _ _ _ _ => (cd_of (cw_call ih.f_has_wide.to hr rfl (ca_val (w_ix hr (co_name (i := 2)) (co_of cd_int)) (ca_val (w_ix hr (co_name (i := 3)) (co_of cd_int)) ca_nil))))))))))))))))
abbrev s_shown_wide : Stmt := topS 13
abbrev N_shown_wide : List Str := ["value", "label", "part"]
theorem sc_shown_wide : FnScope N_shown_wide ["value"] (defScope s_shown_wide) := ⟨rfl, rfl, rfl, by decide +kernel, rfl, by decide +kernel, by decide +kernel⟩
theorem ok_shown_wide {n : Nat} {g : Nm → FnD} (Gs : Gf K mg) (ih : Fs P w K mg base n g) : ∀ (f : Addr) (cdv : Value) (A : Around) (outer : List PySem.Env) (s : Shared) (H : Hp) (E : XK), Room n (A.deeper (envOfC "shown_wide" (defScope s_shown_wide) s.heap.objs.size f cdv)) →
    PSs (bodyX P w K mg base N_shown_wide "shown_wide" (defScope s_shown_wide) f cdv A outer s H E) (defBody s_shown_wide) (tS ⟨K, mg⟩ (b_shown_wide g)) := fun f cdv A outer s H E hr =>
  have Z := Gs.z
  have SC := sc_shown_wide
  (css_cons (cs_if (t_cmp (c_eq hr) (co_of (w_ix hr (co_name (i := 0)) (co_of cd_int))) (co_of cd_str)) (css_one (cs_ret (cw_call ih.f_shown_wide.to hr rfl (ca_val (w_ix hr (co_name (i := 0)) (co_of cd_int)) ca_nil)))) css_nil)
    (css_cons (cs_if (t_cmp (c_in hr) (co_of (w_ix hr (co_name (i := 0)) (co_of cd_int))) (co_of (cd_tup (cl_cons cd_str (cl_cons cd_str cl_nil))))) (css_one (cs_ret (cw_of (cd_tup (cl_cons cd_str cl_nil))))) css_nil)
    (css_cons (cs_if (t_cmp (c_ne hr) (co_of (w_ix hr (co_name (i := 0)) (co_of cd_int))) (co_of cd_str)) (css_one (cs_ret (cw_move (i := 0)))) css_nil)
    (css_one (cs_ret (cw_of (cd_tup (cl_cons cd_str (cl_cons (w_tuple Z (co_of (cd_of (cw_lc rfl SC.nd (own := [("label", 1), ("part", 2)]) (ci_seqB (w_ix hr (co_name (i := 0)) (co_of cd_int))) (blkOk_by (by show blkC N_shown_wide (defScope s_shown_wide) _ _ = true; decide +kernel)) (by decide) (fun _ _ _ _ _ => (cg_tup rfl (cgs_cons (cg_name (i := 1) SC.nd rfl (by first | exact Or.inl rfl | exact Or.inr rfl) (by first | exact Or.inl rfl | exact Or.inr rfl)) (cgs_cons (cg_name (i := 2) SC.nd rfl (by first | exact Or.inl rfl | exact Or.inr rfl) (by first | exact Or.inl rfl | exact Or.inr rfl)) cgs_nil)))) (fun _ _ _ _ _ => cts_nil) (fun _ _ _ _ _ => (cd_tup (cl_cons (cd_name (i := 1)) (cl_cons (cd_of (cw_call ih.f_shown_wide.to hr rfl (ca_val (cd_name (i := 2)) ca_nil))) cl_nil)))))))) cl_nil)))))))))
abbrev s_fewer_fields : Stmt := topS 14
abbrev N_fewer_fields : List Str := ["value", "kind", "known", "label", "part"]
theorem sc_fewer_fields : FnScope N_fewer_fields ["value", "kind"] (defScope s_fewer_fields) := ⟨rfl, rfl, rfl, by decide +kernel, rfl, by decide +kernel, by decide +kernel⟩
theorem ok_fewer_fields {n : Nat} {g : Nm → FnD} (Gs : Gf K mg) (ih : Fs P w K mg base n g) : ∀ (f : Addr) (cdv : Value) (A : Around) (outer : List PySem.Env) (s : Shared) (H : Hp) (E : XK), Room n (A.deeper (envOfC "fewer_fields" (defScope s_fewer_fields) s.heap.objs.size f cdv)) →
    PSs (bodyX P w K mg base N_fewer_fields "fewer_fields" (defScope s_fewer_fields) f cdv A outer s H E) (defBody s_fewer_fields) (tS ⟨K, mg⟩ (b_fewer_fields g)) := fun f cdv A outer s H E hr =>
  have Z := Gs.z
  have SC := sc_fewer_fields
  (css_cons (cs_if (t_cmp (c_ne hr) (co_of (w_ix hr (co_name (i := 0)) (co_of cd_int))) (co_of cd_str)) (css_one (cs_ret (cw_move (i := 0)))) css_nil)
    (css_cons (cs_set (i := 2) SC.nd rfl (by first | exact Or.inl rfl | exact Or.inr rfl) (cw_dc rfl SC.nd (own := [("label", 3), ("part", 4)]) (ci_seqB (w_ix hr (co_name (i := 0)) (co_of cd_int))) (blkOk_by (by show blkC N_fewer_fields (defScope s_fewer_fields) _ _ = true; decide +kernel)) (by decide) (fun _ _ _ _ _ => (cg_tup rfl (cgs_cons (cg_name (i := 3) SC.nd rfl (by first | exact Or.inl rfl | exact Or.inr rfl) (by first | exact Or.inl rfl | exact Or.inr rfl)) (cgs_cons (cg_name (i := 4) SC.nd rfl (by first | exact Or.inl rfl | exact Or.inr rfl) (by first | exact Or.inl rfl | exact Or.inr rfl)) cgs_nil)))) (fun _ _ _ _ _ => cts_nil) (fun _ _ _ _ _ => (cd_name (i := 3))) (fun _ _ _ _ _ => (cd_name (i := 4)))))
    (css_one (cs_ret (cw_of (cd_tup (cl_cons cd_str (cl_cons (w_tuple Z (co_of (cd_of (cw_lc rfl SC.nd (own := [("label", 3), ("part", 4)]) (ci_seqB (w_ix hr (co_name (i := 1)) (co_of cd_int))) (blkOk_by (by show blkC N_fewer_fields (defScope s_fewer_fields) _ _ = true; decide +kernel)) (by decide) (fun _ _ _ _ _ => (cg_tup rfl (cgs_cons (cg_name (i := 3) SC.nd rfl (by first | exact Or.inl rfl | exact Or.inr rfl) (by first | exact Or.inl rfl | exact Or.inr rfl)) (cgs_cons (cg_name (i := 4) SC.nd rfl (by first | exact Or.inl rfl | exact Or.inr rfl) (by first | exact Or.inl rfl | exact Or.inr rfl)) cgs_nil)))) (fun _ _ _ _ _ => cts_nil) (fun _ _ _ _ _ => (cd_tup (cl_cons (cd_name (i := 3)) (cl_cons (cd_of (cw_call ih.f_fewer_fields.to hr rfl (ca_val (w_ix hr (co_name (i := 2)) (co_name (i := 3))) (ca_val (cd_name (i := 4)) ca_nil)))) cl_nil)))))))) cl_nil))))))))
abbrev s_is_free : Stmt := topS 15
abbrev N_is_free : List Str := ["kind", "due"]
theorem sc_is_free : FnScope N_is_free ["kind", "due"] (defScope s_is_free) := ⟨rfl, rfl, rfl, by decide +kernel, rfl, by decide +kernel, by decide +kernel⟩
theorem ok_is_free {n : Nat} {g : Nm → FnD} (Gs : Gf K mg) (ih : Fs P w K mg base n g) : ∀ (f : Addr) (cdv : Value) (A : Around) (outer : List PySem.Env) (s : Shared) (H : Hp) (E : XK), Room n (A.deeper (envOfC "is_free" (defScope s_is_free) s.heap.objs.size f cdv)) →
    PSs (bodyX P w K mg base N_is_free "is_free" (defScope s_is_free) f cdv A outer s H E) (defBody s_is_free) (tS ⟨K, mg⟩ (b_is_free g)) := fun f cdv A outer s H E hr =>
  have Z := Gs.z
  have SC := sc_is_free
  (css_one (cs_ret (cw_call ih.f_under.to hr rfl (ca_val (cd_name (i := 0)) (ca_val (cd_name (i := 1)) ca_nil)))))
abbrev s__law_draws : Stmt := topS 17
abbrev N__law_draws : List Str := ["script"]
theorem sc__law_draws : FnScope N__law_draws ["script"] (defScope s__law_draws) := ⟨rfl, rfl, rfl, by decide +kernel, rfl, by decide +kernel, by decide +kernel⟩
theorem ok__law_draws {n : Nat} {g : Nm → FnD} (Gs : Gf K mg) (ih : Fs P w K mg base n g) : ∀ (f : Addr) (cdv : Value) (A : Around) (outer : List PySem.Env) (s : Shared) (H : Hp) (E : XK), Room n (A.deeper (envOfC "_law_draws" (defScope s__law_draws) s.heap.objs.size f cdv)) →
    PSs (bodyX P w K mg base N__law_draws "_law_draws" (defScope s__law_draws) f cdv A outer s H E) (defBody s__law_draws) (tS ⟨K, mg⟩ (b__law_draws g)) := fun f cdv A outer s H E hr =>
  have Z := Gs.z
  have SC := sc__law_draws
  (css_one (cs_ret (cw_lst (cl_cons (cd_of (w_list Z (co_name (i := 0)))) (cl_cons cd_int (cl_cons cd_int (cl_cons cd_int cl_nil)))))))
abbrev s__law_draw : Stmt := topS 18
abbrev N__law_draw : List Str := ["draws", "limit", "cell", "value"]
theorem sc__law_draw : FnScope N__law_draw ["draws", "limit"] (defScope s__law_draw) := ⟨rfl, rfl, rfl, by decide +kernel, rfl, by decide +kernel, by decide +kernel⟩
theorem ok__law_draw {n : Nat} {g : Nm → FnD} (Gs : Gf K mg) (ih : Fs P w K mg base n g) : ∀ (f : Addr) (cdv : Value) (A : Around) (outer : List PySem.Env) (s : Shared) (H : Hp) (E : XK), Room n (A.deeper (envOfC "_law_draw" (defScope s__law_draw) s.heap.objs.size f cdv)) →
    PSs (bodyX P w K mg base N__law_draw "_law_draw" (defScope s__law_draw) f cdv A outer s H E) (defBody s__law_draw) (tS ⟨K, mg⟩ (b__law_draw g)) := fun f cdv A outer s H E hr =>
  have Z := Gs.z
  have SC := sc__law_draw
  (css_cons (cs_if (CB.pt (cb_and (t_cmp (c_eq hr) (co_of (w_ix hr (co_name (i := 0)) (co_of cd_int))) (co_of cd_int)) (cb_and1 (t_cmp c_lt (co_of (w_ix hr (co_name (i := 0)) (co_of cd_int))) (co_of (w_len Z (co_of (w_ix hr (co_name (i := 0)) (co_of cd_int))))))))) (css_cons (cs_set (i := 2) SC.nd rfl (by first | exact Or.inl rfl | exact Or.inr rfl) (cw_of (w_ix hr (co_of (w_ix hr (co_name (i := 0)) (co_of cd_int))) (co_of (w_ix hr (co_name (i := 0)) (co_of cd_int))))))
    (css_cons (cs_put (i := 0) (ru1 hr) rfl (by first | exact Or.inl rfl | exact Or.inr (Or.inl rfl) | exact Or.inr (Or.inr rfl)) (w_add (co_of (w_ix hr (co_name (i := 0)) (co_of cd_int))) (co_of cd_int)) cd_int)
    (css_cons (cs_if (t_cmp c_ge (co_name (i := 2)) (co_of (w_pow (co_of cd_int) (co_of cd_int)))) (css_one (cs_put (i := 0) (ru1 hr) rfl (by first | exact Or.inl rfl | exact Or.inr (Or.inl rfl) | exact Or.inr (Or.inr rfl)) (cd_name (i := 2)) cd_int)) css_nil)
    (css_one (cs_put (i := 0) (ru1 hr) rfl (by first | exact Or.inl rfl | exact Or.inr (Or.inl rfl) | exact Or.inr (Or.inr rfl)) (w_mod (co_of (w_int Z (co_of (w_add (co_of (w_add (co_of (w_mul (co_of (w_ix hr (co_name (i := 0)) (co_of cd_int))) (co_of cd_int))) (co_name (i := 2)))) (co_of cd_int))))) (co_of cd_int)) cd_int))))) css_nil)
    (css_cons (cs_if (t_cmp c_gt (co_of (w_ix hr (co_name (i := 0)) (co_of cd_int))) (co_of cd_int)) (css_cons (cs_set (i := 3) SC.nd rfl (by first | exact Or.inl rfl | exact Or.inr rfl) (cw_of (w_mod (co_of (w_int Z (co_of (w_ix hr (co_name (i := 0)) (co_of cd_int))))) (co_name (i := 1)))))
    (css_cons (cs_put (i := 0) (ru1 hr) rfl (by first | exact Or.inl rfl | exact Or.inr (Or.inl rfl) | exact Or.inr (Or.inr rfl)) (w_div (co_of (w_ix hr (co_name (i := 0)) (co_of cd_int))) (co_name (i := 1))) cd_int)
    (css_one (cs_ret (cw_move (i := 3)))))) css_nil)
    (css_cons (cs_put (i := 0) (ru1 hr) rfl (by first | exact Or.inl rfl | exact Or.inr (Or.inl rfl) | exact Or.inr (Or.inr rfl)) (w_mod (co_of (w_int Z (co_of (w_add (co_of (w_mul (co_of (w_ix hr (co_name (i := 0)) (co_of cd_int))) (co_of cd_int))) (co_of cd_int))))) (co_of cd_int)) cd_int)
    (css_one (cs_ret (cw_of (w_mod (co_of (w_int Z (co_of (w_div (co_of (w_ix hr (co_name (i := 0)) (co_of cd_int))) (co_of cd_int))))) (co_name (i := 1)))))))))
abbrev s__law_same : Stmt := topS 19
abbrev N__law_same : List Str := ["actual", "expected", "k"]
theorem sc__law_same : FnScope N__law_same ["actual", "expected"] (defScope s__law_same) := ⟨rfl, rfl, rfl, by decide +kernel, rfl, by decide +kernel, by decide +kernel⟩
theorem ok__law_same {n : Nat} {g : Nm → FnD} (Gs : Gf K mg) (ih : Fs P w K mg base n g) : ∀ (f : Addr) (cdv : Value) (A : Around) (outer : List PySem.Env) (s : Shared) (H : Hp) (E : XK), Room n (A.deeper (envOfC "_law_same" (defScope s__law_same) s.heap.objs.size f cdv)) →
    PSs (bodyX P w K mg base N__law_same "_law_same" (defScope s__law_same) f cdv A outer s H E) (defBody s__law_same) (tS ⟨K, mg⟩ (b__law_same g)) := fun f cdv A outer s H E hr =>
  have Z := Gs.z
  have SC := sc__law_same
  (css_cons (cs_if (CB.pt (cb_or (ct_val (w_isi Z (co_name (i := 1)) (co_of (ty_tuple Z)))) (cb_or1 (ct_val (w_isi Z (co_name (i := 1)) (co_of (ty_list Z))))))) (css_cons (cs_if (CB.pt (cb_or (t_cmp (c_ne hr) (co_of (w_isi Z (co_name (i := 1)) (co_of (ty_tuple Z)))) (co_of (w_isi Z (co_name (i := 0)) (co_of (ty_tuple Z))))) (cb_or1 (t_cmp (c_ne hr) (co_of (w_isi Z (co_name (i := 1)) (co_of (ty_list Z)))) (co_of (w_isi Z (co_name (i := 0)) (co_of (ty_list Z)))))))) (css_one (cs_ret (cw_of cd_bl))) css_nil)
    (css_cons (cs_if (t_cmp (c_ne hr) (co_of (w_len Z (co_name (i := 0)))) (co_of (w_len Z (co_name (i := 1))))) (css_one (cs_ret (cw_of cd_bl))) css_nil)
    (css_one (cs_ret (cw_of (w_cmp (c_eq hr) (co_of (w_len Z (co_of (cd_of (cw_lc rfl SC.nd (own := [("k", 2)]) (ci_rng1 rfl Z.range (cl_cons (w_len Z (co_name (i := 1))) cl_nil)) (blkOk_by (by show blkC N__law_same (defScope s__law_same) _ _ = true; decide +kernel)) (by decide) (fun _ _ _ _ _ => (cg_name (i := 2) SC.nd rfl (by first | exact Or.inl rfl | exact Or.inr rfl) (by first | exact Or.inl rfl | exact Or.inr rfl))) (fun _ _ _ _ _ => (cts_one (ct_not (ct_val (cd_of (cw_call ih.f__law_same.to hr rfl (ca_val (w_ix hr (co_name (i := 0)) (co_name (i := 2))) (ca_val (w_ix hr (co_name (i := 1)) (co_name (i := 2))) ca_nil)))))))) (fun _ _ _ _ _ => (cd_name (i := 2)))))))) (co_of cd_int))))))) css_nil)
    (css_cons (cs_if (ct_val (w_isi Z (co_name (i := 1)) (co_of (ty_str Z)))) (css_one (cs_ret (cw_of (cd_and (w_isi Z (co_name (i := 0)) (co_of (ty_str Z))) (cd_one (w_cmp (c_eq hr) (co_name (i := 0)) (co_name (i := 1)))))))) css_nil)
    (css_cons (cs_if (t_cmp c_is (co_name (i := 1)) (co_of cd_non)) (css_one (cs_ret (cw_of (w_cmp c_is (co_name (i := 0)) (co_of cd_non))))) css_nil)
    (css_cons (cs_if (CB.pt (cb_or (ct_val (w_isi Z (co_name (i := 1)) (co_of (ty_bool Z)))) (cb_or1 (ct_val (w_isi Z (co_name (i := 0)) (co_of (ty_bool Z))))))) (css_one (cs_ret (cw_of (cd_and (w_isi Z (co_name (i := 1)) (co_of (ty_bool Z))) (cd_and (w_isi Z (co_name (i := 0)) (co_of (ty_bool Z))) (cd_one (w_cmp (c_eq hr) (co_name (i := 0)) (co_name (i := 1))))))))) css_nil)
    (css_one (cs_ret (cw_of (cd_and (w_isi Z (co_name (i := 0)) (co_of (ty_int Z))) (cd_and (w_isi Z (co_name (i := 1)) (co_of (ty_int Z))) (cd_one (w_cmp (c_eq hr) (co_name (i := 0)) (co_name (i := 1)))))))))))))
abbrev s__law_wide : Stmt := topS 20
abbrev N__law_wide : List Str := ["draws", "deep", "form", "labels", "label"]
theorem sc__law_wide : FnScope N__law_wide ["draws", "deep"] (defScope s__law_wide) := ⟨rfl, rfl, rfl, by decide +kernel, rfl, by decide +kernel, by decide +kernel⟩
theorem ok__law_wide {n : Nat} {g : Nm → FnD} (Gs : Gf K mg) (ih : Fs P w K mg base n g) : ∀ (f : Addr) (cdv : Value) (A : Around) (outer : List PySem.Env) (s : Shared) (H : Hp) (E : XK), Room n (A.deeper (envOfC "_law_wide" (defScope s__law_wide) s.heap.objs.size f cdv)) →
    PSs (bodyX P w K mg base N__law_wide "_law_wide" (defScope s__law_wide) f cdv A outer s H E) (defBody s__law_wide) (tS ⟨K, mg⟩ (b__law_wide g)) := fun f cdv A outer s H E hr =>
  have Z := Gs.z
  have SC := sc__law_wide
  (css_cons (cs_set (i := 2) SC.nd rfl (by first | exact Or.inl rfl | exact Or.inr rfl) (cw_if (t_cmp c_gt (co_name (i := 1)) (co_of cd_int)) (cw_call ih.f__law_draw.to hr rfl (ca_bor (i := 0) rfl (by first | exact Or.inl rfl | exact Or.inr (Or.inl rfl) | exact Or.inr (Or.inr rfl)) (ca_val cd_int ca_nil))) (cw_call ih.f__law_draw.to hr rfl (ca_bor (i := 0) rfl (by first | exact Or.inl rfl | exact Or.inr (Or.inl rfl) | exact Or.inr (Or.inr rfl)) (ca_val cd_int ca_nil)))))
    (css_cons (cs_if (t_cmp c_lt (co_name (i := 2)) (co_of cd_int)) (css_one (cs_ret (cw_of (w_ix hr (co_of (cd_of (cw_lst (cl_cons (cd_tup (cl_cons cd_str cl_nil)) (cl_cons (cd_tup (cl_cons cd_str cl_nil)) (cl_cons (cd_tup (cl_cons cd_str cl_nil)) cl_nil)))))) (co_name (i := 2)))))) css_nil)
    (css_cons (cs_if (t_cmp (c_eq hr) (co_name (i := 2)) (co_of cd_int)) (css_one (cs_ret (cw_of (cd_tup (cl_cons cd_str (cl_cons (cd_of (cw_call ih.f__law_wide.to hr rfl (ca_bor (i := 0) rfl (by first | exact Or.inl rfl | exact Or.inr (Or.inl rfl) | exact Or.inr (Or.inr rfl)) (ca_val (w_sub (co_name (i := 1)) (co_of cd_int)) ca_nil)))) (cl_cons (cd_of (cw_call ih.f__law_wide.to hr rfl (ca_bor (i := 0) rfl (by first | exact Or.inl rfl | exact Or.inr (Or.inl rfl) | exact Or.inr (Or.inr rfl)) (ca_val (w_sub (co_name (i := 1)) (co_of cd_int)) ca_nil)))) cl_nil))))))) css_nil)
    (css_cons (cs_setLc (i := 3) rfl SC.nd rfl rfl (sw_true rfl rfl rfl (by show _ = _; decide +kernel)) (own := [("label", 4)]) (ci_seqB (cd_of (cw_lst (cl_cons cd_str (cl_cons cd_str (cl_cons cd_str cl_nil)))))) (blkOk_by (by show blkC N__law_wide (defScope s__law_wide) _ _ = true; decide +kernel)) (by decide) (fun _ _ _ _ _ => (cg_name (i := 4) SC.nd rfl (by first | exact Or.inl rfl | exact Or.inr rfl) (by first | exact Or.inl rfl | exact Or.inr rfl))) (fun _ _ _ _ _ => (cts_one (t_cmp (c_eq hr) (co_of (cd_of (cw_call ih.f__law_draw.to hr rfl (ca_bor (i := 0) rfl (by first | exact Or.inl rfl | exact Or.inr (Or.inl rfl) | exact Or.inr (Or.inr rfl)) (ca_val cd_int ca_nil))))) (co_of cd_int)))) (fun _ _ _ _ _ => (cd_name (i := 4))))
    (css_one (cs_ret (cw_of (cd_tup (cl_cons cd_str (cl_cons (w_tuple Z (co_of (cd_of (cw_lc rfl SC.nd (own := [("label", 4)]) (ci_seqB (cd_name (i := 3))) (blkOk_by (by show blkC N__law_wide (defScope s__law_wide) _ _ = true; decide +kernel)) (by decide) (fun _ _ _ _ _ => (cg_name (i := 4) SC.nd rfl (by first | exact Or.inl rfl | exact Or.inr rfl) (by first | exact Or.inl rfl | exact Or.inr rfl))) (fun _ _ _ _ _ => cts_nil) (fun _ _ _ _ _ => (cd_tup (cl_cons (cd_name (i := 4)) (cl_cons (cd_of (cw_call ih.f__law_wide.to hr rfl (ca_bor (i := 0) rfl (by first | exact Or.inl rfl | exact Or.inr (Or.inl rfl) | exact Or.inr (Or.inr rfl)) (ca_val (w_sub (co_name (i := 1)) (co_of cd_int)) ca_nil)))) cl_nil)))))))) cl_nil))))))))))
abbrev s__law_mixed : Stmt := topS 21
abbrev N__law_mixed : List Str := ["draws", "kind", "form", "kept", "label", "part"]
theorem sc__law_mixed : FnScope N__law_mixed ["draws", "kind"] (defScope s__law_mixed) := ⟨rfl, rfl, rfl, by decide +kernel, rfl, by decide +kernel, by decide +kernel⟩
theorem ok__law_mixed {n : Nat} {g : Nm → FnD} (Gs : Gf K mg) (ih : Fs P w K mg base n g) : ∀ (f : Addr) (cdv : Value) (A : Around) (outer : List PySem.Env) (s : Shared) (H : Hp) (E : XK), Room n (A.deeper (envOfC "_law_mixed" (defScope s__law_mixed) s.heap.objs.size f cdv)) →
    PSs (bodyX P w K mg base N__law_mixed "_law_mixed" (defScope s__law_mixed) f cdv A outer s H E) (defBody s__law_mixed) (tS ⟨K, mg⟩ (b__law_mixed g)) := fun f cdv A outer s H E hr =>
  have Z := Gs.z
  have SC := sc__law_mixed
  (css_cons (cs_set (i := 2) SC.nd rfl (by first | exact Or.inl rfl | exact Or.inr rfl) (cw_call ih.f__law_draw.to hr rfl (ca_bor (i := 0) rfl (by first | exact Or.inl rfl | exact Or.inr (Or.inl rfl) | exact Or.inr (Or.inr rfl)) (ca_val cd_int ca_nil))))
    (css_cons (cs_if (t_cmp (c_eq hr) (co_name (i := 2)) (co_of cd_int)) (css_one (cs_ret (cw_of (cd_tup (cl_cons cd_str cl_nil))))) css_nil)
    (css_cons (cs_if (t_cmp (c_eq hr) (co_name (i := 2)) (co_of cd_int)) (css_one (cs_ret (cw_call ih.f__law_wide.to hr rfl (ca_bor (i := 0) rfl (by first | exact Or.inl rfl | exact Or.inr (Or.inl rfl) | exact Or.inr (Or.inr rfl)) (ca_val cd_int ca_nil))))) css_nil)
    (css_cons (cs_if (t_cmp (c_eq hr) (co_of (w_ix hr (co_name (i := 1)) (co_of cd_int))) (co_of cd_str)) (css_one (cs_ret (cw_of (cd_tup (cl_cons cd_str (cl_cons (cd_of (cw_call ih.f__law_mixed.to hr rfl (ca_bor (i := 0) rfl (by first | exact Or.inl rfl | exact Or.inr (Or.inl rfl) | exact Or.inr (Or.inr rfl)) (ca_val (w_ix hr (co_name (i := 1)) (co_of cd_int)) ca_nil)))) (cl_cons (cd_of (cw_call ih.f__law_mixed.to hr rfl (ca_bor (i := 0) rfl (by first | exact Or.inl rfl | exact Or.inr (Or.inl rfl) | exact Or.inr (Or.inr rfl)) (ca_val (w_ix hr (co_name (i := 1)) (co_of cd_int)) ca_nil)))) cl_nil))))))) css_nil)
    (css_cons (cs_if (t_cmp (c_ne hr) (co_of (w_ix hr (co_name (i := 1)) (co_of cd_int))) (co_of cd_str)) (css_one (cs_ret (cw_move (i := 1)))) css_nil)
    (css_cons (cs_setLc (i := 3) rfl SC.nd rfl rfl (sw_true rfl rfl rfl (by show _ = _; decide +kernel)) (own := [("label", 4), ("part", 5)]) (ci_seqB (w_ix hr (co_name (i := 1)) (co_of cd_int))) (blkOk_by (by show blkC N__law_mixed (defScope s__law_mixed) _ _ = true; decide +kernel)) (by decide) (fun _ _ _ _ _ => (cg_tup rfl (cgs_cons (cg_name (i := 4) SC.nd rfl (by first | exact Or.inl rfl | exact Or.inr rfl) (by first | exact Or.inl rfl | exact Or.inr rfl)) (cgs_cons (cg_name (i := 5) SC.nd rfl (by first | exact Or.inl rfl | exact Or.inr rfl) (by first | exact Or.inl rfl | exact Or.inr rfl)) cgs_nil)))) (fun _ _ _ _ _ => (cts_one (t_cmp c_gt (co_of (cd_of (cw_call ih.f__law_draw.to hr rfl (ca_bor (i := 0) rfl (by first | exact Or.inl rfl | exact Or.inr (Or.inl rfl) | exact Or.inr (Or.inr rfl)) (ca_val cd_int ca_nil))))) (co_of cd_int)))) (fun _ _ _ _ _ => (cd_tup (cl_cons (cd_name (i := 4)) (cl_cons (cd_of (cw_call ih.f__law_mixed.to hr rfl (ca_bor (i := 0) rfl (by first | exact Or.inl rfl | exact Or.inr (Or.inl rfl) | exact Or.inr (Or.inr rfl)) (ca_val (cd_name (i := 5)) ca_nil)))) cl_nil)))))
    (css_cons (cs_if (CB.pt (cb_and (t_cmp (c_nin hr) (co_of cd_str) (co_of (cd_of (cw_lc rfl SC.nd (own := [("label", 4), ("part", 5)]) (ci_seqB (cd_name (i := 3))) (blkOk_by (by show blkC N__law_mixed (defScope s__law_mixed) _ _ = true; decide +kernel)) (by decide) (fun _ _ _ _ _ => (cg_tup rfl (cgs_cons (cg_name (i := 4) SC.nd rfl (by first | exact Or.inl rfl | exact Or.inr rfl) (by first | exact Or.inl rfl | exact Or.inr rfl)) (cgs_cons (cg_name (i := 5) SC.nd rfl (by first | exact Or.inl rfl | exact Or.inr rfl) (by first | exact Or.inl rfl | exact Or.inr rfl)) cgs_nil)))) (fun _ _ _ _ _ => cts_nil) (fun _ _ _ _ _ => (cd_name (i := 4))))))) (cb_and1 (t_cmp (c_eq hr) (co_of (cd_of (cw_call ih.f__law_draw.to hr rfl (ca_bor (i := 0) rfl (by first | exact Or.inl rfl | exact Or.inr (Or.inl rfl) | exact Or.inr (Or.inr rfl)) (ca_val cd_int ca_nil))))) (co_of cd_int))))) (css_one (cs_set (i := 3) SC.nd rfl (by first | exact Or.inl rfl | exact Or.inr rfl) (cw_of (w_add (co_name (i := 3)) (co_of (cd_of (cw_lst (cl_cons (cd_tup (cl_cons cd_str (cl_cons (cd_tup (cl_cons cd_str cl_nil)) cl_nil))) cl_nil)))))))) css_nil)
    (css_one (cs_ret (cw_of (cd_tup (cl_cons cd_str (cl_cons (w_tuple Z (co_name (i := 3))) cl_nil)))))))))))))
abbrev s__law_under : Stmt := topS 22
abbrev N__law_under : List Str := ["one", "two", "known", "label", "part"]
theorem sc__law_under : FnScope N__law_under ["one", "two"] (defScope s__law_under) := ⟨rfl, rfl, rfl, by decide +kernel, rfl, by decide +kernel, by decide +kernel⟩
theorem ok__law_under {n : Nat} {g : Nm → FnD} (Gs : Gf K mg) (ih : Fs P w K mg base n g) : ∀ (f : Addr) (cdv : Value) (A : Around) (outer : List PySem.Env) (s : Shared) (H : Hp) (E : XK), Room n (A.deeper (envOfC "_law_under" (defScope s__law_under) s.heap.objs.size f cdv)) →
    PSs (bodyX P w K mg base N__law_under "_law_under" (defScope s__law_under) f cdv A outer s H E) (defBody s__law_under) (tS ⟨K, mg⟩ (b__law_under g)) := fun f cdv A outer s H E hr =>
  have Z := Gs.z
  have SC := sc__law_under
  (css_cons (cs_if (t_cmp (c_ne hr) (co_of (w_ix hr (co_name (i := 0)) (co_of cd_int))) (co_of (w_ix hr (co_name (i := 1)) (co_of cd_int)))) (css_one (cs_ret (cw_of cd_bl))) css_nil)
    (css_cons (cs_if (t_cmp (c_eq hr) (co_of (w_ix hr (co_name (i := 0)) (co_of cd_int))) (co_of cd_str)) (css_one (cs_ret (cw_of (cd_and (cd_of (cw_call ih.f__law_under.to hr rfl (ca_val (w_ix hr (co_name (i := 1)) (co_of cd_int)) (ca_val (w_ix hr (co_name (i := 0)) (co_of cd_int)) ca_nil)))) (cd_one (cd_of (cw_call ih.f__law_under.to hr rfl (ca_val (w_ix hr (co_name (i := 0)) (co_of cd_int)) (ca_val (w_ix hr (co_name (i := 1)) (co_of cd_int)) ca_nil))))))))) css_nil)
    (css_cons (cs_set (i := 2) SC.nd rfl (by first | exact Or.inl rfl | exact Or.inr rfl) (cw_if (t_cmp (c_eq hr) (co_of (w_ix hr (co_name (i := 0)) (co_of cd_int))) (co_of cd_str)) (w_dict Z rfl (co_of (w_ix hr (co_name (i := 0)) (co_of cd_int)))) cw_dic0))
    (css_one (cs_ret (cw_of (cd_or (w_cmp (c_ne hr) (co_of (w_ix hr (co_name (i := 0)) (co_of cd_int))) (co_of cd_str)) (cd_one (w_cmp (c_eq hr) (co_of (w_len Z (co_of (cd_of (cw_lc rfl SC.nd (own := [("label", 3), ("part", 4)]) (ci_seqB (w_ix hr (co_name (i := 1)) (co_of cd_int))) (blkOk_by (by show blkC N__law_under (defScope s__law_under) _ _ = true; decide +kernel)) (by decide) (fun _ _ _ _ _ => (cg_tup rfl (cgs_cons (cg_name (i := 3) SC.nd rfl (by first | exact Or.inl rfl | exact Or.inr rfl) (by first | exact Or.inl rfl | exact Or.inr rfl)) (cgs_cons (cg_name (i := 4) SC.nd rfl (by first | exact Or.inl rfl | exact Or.inr rfl) (by first | exact Or.inl rfl | exact Or.inr rfl)) cgs_nil)))) (fun _ _ _ _ _ => (cts_one (CB.pt (cb_or (t_cmp (c_nin hr) (co_name (i := 3)) (co_name (i := 2))) (cb_or1 (ct_not (ct_val (cd_of (cw_call ih.f__law_under.to hr rfl (ca_val (w_ix hr (co_name (i := 2)) (co_name (i := 3))) (ca_val (cd_name (i := 4)) ca_nil))))))))))) (fun _ _ _ _ _ => (cd_name (i := 3)))))))) (co_of cd_int))))))))))
abbrev s__law_could : Stmt := topS 24
abbrev N__law_could : List Str := ["one", "two", "known", "label", "part"]
theorem sc__law_could : FnScope N__law_could ["one", "two"] (defScope s__law_could) := ⟨rfl, rfl, rfl, by decide +kernel, rfl, by decide +kernel, by decide +kernel⟩
theorem ok__law_could {n : Nat} {g : Nm → FnD} (Gs : Gf K mg) (ih : Fs P w K mg base n g) : ∀ (f : Addr) (cdv : Value) (A : Around) (outer : List PySem.Env) (s : Shared) (H : Hp) (E : XK), Room n (A.deeper (envOfC "_law_could" (defScope s__law_could) s.heap.objs.size f cdv)) →
    PSs (bodyX P w K mg base N__law_could "_law_could" (defScope s__law_could) f cdv A outer s H E) (defBody s__law_could) (tS ⟨K, mg⟩ (b__law_could g)) := fun f cdv A outer s H E hr =>
  have Z := Gs.z
  have SC := sc__law_could
  (css_cons (cs_if (t_cmp (c_in hr) (co_of (cd_tup (cl_cons cd_str cl_nil))) (co_of (cd_of (cw_lst (cl_cons (cd_name (i := 0)) (cl_cons (cd_name (i := 1)) cl_nil)))))) (css_one (cs_ret (cw_of cd_bl))) css_nil)
    (css_cons (cs_if (t_cmp (c_ne hr) (co_of (w_ix hr (co_name (i := 0)) (co_of cd_int))) (co_of (w_ix hr (co_name (i := 1)) (co_of cd_int)))) (css_one (cs_ret (cw_of cd_bl))) css_nil)
    (css_cons (cs_if (t_cmp (c_eq hr) (co_of (w_ix hr (co_name (i := 0)) (co_of cd_int))) (co_of cd_str)) (css_one (cs_ret (cw_of (cd_and (cd_of (cw_call ih.f__law_could.to hr rfl (ca_val (w_ix hr (co_name (i := 1)) (co_of cd_int)) (ca_val (w_ix hr (co_name (i := 0)) (co_of cd_int)) ca_nil)))) (cd_one (cd_of (cw_call ih.f__law_could.to hr rfl (ca_val (w_ix hr (co_name (i := 0)) (co_of cd_int)) (ca_val (w_ix hr (co_name (i := 1)) (co_of cd_int)) ca_nil))))))))) css_nil)
    (css_cons (cs_set (i := 2) SC.nd rfl (by first | exact Or.inl rfl | exact Or.inr rfl) (cw_if (t_cmp (c_eq hr) (co_of (w_ix hr (co_name (i := 0)) (co_of cd_int))) (co_of cd_str)) (w_dict Z rfl (co_of (w_ix hr (co_name (i := 0)) (co_of cd_int)))) cw_dic0))
    (css_one (cs_ret (cw_of (cd_or (w_cmp (c_ne hr) (co_of (w_ix hr (co_name (i := 0)) (co_of cd_int))) (co_of cd_str)) (cd_one (w_cmp (c_eq hr) (co_of (w_len Z (co_of (cd_of (cw_lc rfl SC.nd (own := [("label", 3), ("part", 4)]) (ci_seqB (w_ix hr (co_name (i := 1)) (co_of cd_int))) (blkOk_by (by show blkC N__law_could (defScope s__law_could) _ _ = true; decide +kernel)) (by decide) (fun _ _ _ _ _ => (cg_tup rfl (cgs_cons (cg_name (i := 3) SC.nd rfl (by first | exact Or.inl rfl | exact Or.inr rfl) (by first | exact Or.inl rfl | exact Or.inr rfl)) (cgs_cons (cg_name (i := 4) SC.nd rfl (by first | exact Or.inl rfl | exact Or.inr rfl) (by first | exact Or.inl rfl | exact Or.inr rfl)) cgs_nil)))) (fun _ _ _ _ _ => (cts_one (CB.pt (cb_or (t_cmp (c_nin hr) (co_name (i := 3)) (co_name (i := 2))) (cb_or1 (ct_not (ct_val (cd_of (cw_call ih.f__law_could.to hr rfl (ca_val (w_ix hr (co_name (i := 2)) (co_name (i := 3))) (ca_val (cd_name (i := 4)) ca_nil))))))))))) (fun _ _ _ _ _ => (cd_name (i := 3)))))))) (co_of cd_int)))))))))))
abbrev s__law_value : Stmt := topS 25
abbrev N__law_value : List Str := ["draws", "kind", "deep", "own", "label", "part"]
theorem sc__law_value : FnScope N__law_value ["draws", "kind", "deep"] (defScope s__law_value) := ⟨rfl, rfl, rfl, by decide +kernel, rfl, by decide +kernel, by decide +kernel⟩
theorem ok__law_value {n : Nat} {g : Nm → FnD} (Gs : Gf K mg) (ih : Fs P w K mg base n g) : ∀ (f : Addr) (cdv : Value) (A : Around) (outer : List PySem.Env) (s : Shared) (H : Hp) (E : XK), Room n (A.deeper (envOfC "_law_value" (defScope s__law_value) s.heap.objs.size f cdv)) →
    PSs (bodyX P w K mg base N__law_value "_law_value" (defScope s__law_value) f cdv A outer s H E) (defBody s__law_value) (tS ⟨K, mg⟩ (b__law_value g)) := fun f cdv A outer s H E hr =>
  have Z := Gs.z
  have SC := sc__law_value
  (css_cons (cs_if (t_cmp (c_eq hr) (co_name (i := 1)) (co_of (cd_tup (cl_cons cd_str cl_nil)))) (css_cons (cs_set (i := 3) SC.nd rfl (by first | exact Or.inl rfl | exact Or.inr rfl) (cw_if (t_cmp c_gt (co_name (i := 2)) (co_of cd_int)) (cw_call ih.f__law_wide.to hr rfl (ca_bor (i := 0) rfl (by first | exact Or.inl rfl | exact Or.inr (Or.inl rfl) | exact Or.inr (Or.inr rfl)) (ca_val cd_int ca_nil))) (cw_of (cd_tup (cl_cons cd_str cl_nil)))))
    (css_cons (cs_set (i := 3) SC.nd rfl (by first | exact Or.inl rfl | exact Or.inr rfl) (cw_if (t_cmp (c_ne hr) (co_name (i := 3)) (co_of (cd_tup (cl_cons cd_str cl_nil)))) (cw_of (cd_name (i := 3))) (cw_of (cd_tup (cl_cons cd_str cl_nil)))))
    (css_one (cs_ret (cw_of (cd_tup (cl_cons cd_str (cl_cons (cd_name (i := 3)) (cl_cons (cd_of (cw_call ih.f__law_value.to hr rfl (ca_bor (i := 0) rfl (by first | exact Or.inl rfl | exact Or.inr (Or.inl rfl) | exact Or.inr (Or.inr rfl)) (ca_val (cd_name (i := 3)) (ca_val (w_sub (co_name (i := 2)) (co_of cd_int)) ca_nil))))) cl_nil))))))))) css_nil)
    (css_cons (cs_if (t_cmp (c_eq hr) (co_of (w_ix hr (co_name (i := 1)) (co_of cd_int))) (co_of cd_str)) (css_one (cs_ret (cw_of (cd_tup (cl_cons cd_str (cl_cons (w_sub (co_of (cd_of (cw_call ih.f__law_draw.to hr rfl (ca_bor (i := 0) rfl (by first | exact Or.inl rfl | exact Or.inr (Or.inl rfl) | exact Or.inr (Or.inr rfl)) (ca_val cd_int ca_nil))))) (co_of cd_int)) cl_nil)))))) css_nil)
    (css_cons (cs_if (t_cmp (c_eq hr) (co_of (w_ix hr (co_name (i := 1)) (co_of cd_int))) (co_of cd_str)) (css_one (cs_ret (cw_of (cd_tup (cl_cons cd_str (cl_cons (w_cmp (c_eq hr) (co_of (cd_of (cw_call ih.f__law_draw.to hr rfl (ca_bor (i := 0) rfl (by first | exact Or.inl rfl | exact Or.inr (Or.inl rfl) | exact Or.inr (Or.inr rfl)) (ca_val cd_int ca_nil))))) (co_of cd_int)) cl_nil)))))) css_nil)
    (css_cons (cs_if (t_cmp (c_eq hr) (co_of (w_ix hr (co_name (i := 1)) (co_of cd_int))) (co_of cd_str)) (css_one (cs_ret (cw_of (cd_tup (cl_cons cd_str (cl_cons cd_str cl_nil)))))) css_nil)
    (css_one (cs_ret (cw_of (cd_tup (cl_cons cd_str (cl_cons (w_tuple Z (co_of (cd_of (cw_lc rfl SC.nd (own := [("label", 4), ("part", 5)]) (ci_seqB (w_ix hr (co_name (i := 1)) (co_of cd_int))) (blkOk_by (by show blkC N__law_value (defScope s__law_value) _ _ = true; decide +kernel)) (by decide) (fun _ _ _ _ _ => (cg_tup rfl (cgs_cons (cg_name (i := 4) SC.nd rfl (by first | exact Or.inl rfl | exact Or.inr rfl) (by first | exact Or.inl rfl | exact Or.inr rfl)) (cgs_cons (cg_name (i := 5) SC.nd rfl (by first | exact Or.inl rfl | exact Or.inr rfl) (by first | exact Or.inl rfl | exact Or.inr rfl)) cgs_nil)))) (fun _ _ _ _ _ => cts_nil) (fun _ _ _ _ _ => (cd_tup (cl_cons (cd_name (i := 4)) (cl_cons (cd_of (cw_call ih.f__law_value.to hr rfl (ca_bor (i := 0) rfl (by first | exact Or.inl rfl | exact Or.inr (Or.inl rfl) | exact Or.inr (Or.inr rfl)) (ca_val (cd_name (i := 5)) (ca_val (w_sub (co_name (i := 2)) (co_of cd_int)) ca_nil))))) cl_nil)))))))) cl_nil))))))))))
abbrev s__law_forms : Stmt := topS 26
abbrev N__law_forms : List Str := ["kind", "due", "known", "label", "part"]
theorem sc__law_forms : FnScope N__law_forms ["kind", "due"] (defScope s__law_forms) := ⟨rfl, rfl, rfl, by decide +kernel, rfl, by decide +kernel, by decide +kernel⟩
theorem ok__law_forms {n : Nat} {g : Nm → FnD} (Gs : Gf K mg) (ih : Fs P w K mg base n g) : ∀ (f : Addr) (cdv : Value) (A : Around) (outer : List PySem.Env) (s : Shared) (H : Hp) (E : XK), Room n (A.deeper (envOfC "_law_forms" (defScope s__law_forms) s.heap.objs.size f cdv)) →
    PSs (bodyX P w K mg base N__law_forms "_law_forms" (defScope s__law_forms) f cdv A outer s H E) (defBody s__law_forms) (tS ⟨K, mg⟩ (b__law_forms g)) := fun f cdv A outer s H E hr =>
  have Z := Gs.z
  have SC := sc__law_forms
  (css_cons (cs_if (t_cmp (c_in hr) (co_of (cd_tup (cl_cons cd_str cl_nil))) (co_of (cd_of (cw_lst (cl_cons (cd_name (i := 0)) (cl_cons (cd_name (i := 1)) cl_nil)))))) (css_one (cs_ret (cw_of cd_bl))) css_nil)
    (css_cons (cs_if (t_cmp (c_ne hr) (co_of (w_ix hr (co_name (i := 0)) (co_of cd_int))) (co_of (w_ix hr (co_name (i := 1)) (co_of cd_int)))) (css_one (cs_ret (cw_of cd_bl))) css_nil)
    (css_cons (cs_set (i := 2) SC.nd rfl (by first | exact Or.inl rfl | exact Or.inr rfl) (cw_if (t_cmp (c_eq hr) (co_of (w_ix hr (co_name (i := 0)) (co_of cd_int))) (co_of cd_str)) (w_dict Z rfl (co_of (w_ix hr (co_name (i := 0)) (co_of cd_int)))) cw_dic0))
    (css_one (cs_ret (cw_of (cd_or (w_cmp (c_ne hr) (co_of (w_ix hr (co_name (i := 0)) (co_of cd_int))) (co_of cd_str)) (cd_one (w_cmp (c_eq hr) (co_of (w_len Z (co_of (cd_of (cw_lc rfl SC.nd (own := [("label", 3), ("part", 4)]) (ci_seqB (w_ix hr (co_name (i := 1)) (co_of cd_int))) (blkOk_by (by show blkC N__law_forms (defScope s__law_forms) _ _ = true; decide +kernel)) (by decide) (fun _ _ _ _ _ => (cg_tup rfl (cgs_cons (cg_name (i := 3) SC.nd rfl (by first | exact Or.inl rfl | exact Or.inr rfl) (by first | exact Or.inl rfl | exact Or.inr rfl)) (cgs_cons (cg_name (i := 4) SC.nd rfl (by first | exact Or.inl rfl | exact Or.inr rfl) (by first | exact Or.inl rfl | exact Or.inr rfl)) cgs_nil)))) (fun _ _ _ _ _ => (cts_one (CB.pt (cb_or (t_cmp (c_nin hr) (co_name (i := 3)) (co_name (i := 2))) (cb_or1 (ct_not (ct_val (cd_of (cw_call ih.f__law_forms.to hr rfl (ca_val (w_ix hr (co_name (i := 2)) (co_name (i := 3))) (ca_val (cd_name (i := 4)) ca_nil))))))))))) (fun _ _ _ _ _ => (cd_name (i := 3)))))))) (co_of cd_int))))))))))
abbrev s__law_cast : Stmt := topS 27
abbrev N__law_cast : List Str := ["value", "kind", "due", "name", "known", "kinds", "found", "label", "part", "told"]
theorem sc__law_cast : FnScope N__law_cast ["value", "kind", "due", "name"] (defScope s__law_cast) := ⟨rfl, rfl, rfl, by decide +kernel, rfl, by decide +kernel, by decide +kernel⟩
theorem ok__law_cast {n : Nat} {g : Nm → FnD} (Gs : Gf K mg) (ih : Fs P w K mg base n g) : ∀ (f : Addr) (cdv : Value) (A : Around) (outer : List PySem.Env) (s : Shared) (H : Hp) (E : XK), Room n (A.deeper (envOfC "_law_cast" (defScope s__law_cast) s.heap.objs.size f cdv)) →
    PSs (bodyX P w K mg base N__law_cast "_law_cast" (defScope s__law_cast) f cdv A outer s H E) (defBody s__law_cast) (tS ⟨K, mg⟩ (b__law_cast g)) := fun f cdv A outer s H E hr =>
  have Z := Gs.z
  have SC := sc__law_cast
  (css_cons (cs_if (t_cmp (c_eq hr) (co_name (i := 1)) (co_name (i := 2))) (css_one (cs_ret (cw_of (cd_tup (cl_cons cd_str (cl_cons (cd_name (i := 0)) cl_nil)))))) css_nil)
    (css_cons (cs_if (t_cmp (c_eq hr) (co_name (i := 2)) (co_of (cd_tup (cl_cons cd_str cl_nil)))) (css_one (cs_ret (cw_of (cd_tup (cl_cons cd_str (cl_cons (cd_tup (cl_cons cd_str (cl_cons (cd_name (i := 1)) (cl_cons (cd_name (i := 0)) cl_nil)))) cl_nil)))))) css_nil)
    (css_cons (cs_if (t_cmp (c_eq hr) (co_name (i := 1)) (co_of (cd_tup (cl_cons cd_str cl_nil)))) (css_one (cs_ret (cw_if (ct_val (cd_of (cw_call ih.f__law_forms.to hr rfl (ca_val (w_ix hr (co_name (i := 0)) (co_of cd_int)) (ca_val (cd_name (i := 2)) ca_nil))))) (cw_call ih.f__law_cast.to hr rfl (ca_val (w_ix hr (co_name (i := 0)) (co_of cd_int)) (ca_val (w_ix hr (co_name (i := 0)) (co_of cd_int)) (ca_val (cd_name (i := 2)) (ca_val (cd_name (i := 3)) ca_nil))))) (cw_of (cd_tup (cl_cons cd_str (cl_cons (cd_name (i := 3)) cl_nil))))))) css_nil)
    (css_cons (cs_if (t_cmp (c_eq hr) (co_of (w_ix hr (co_name (i := 1)) (co_of cd_int))) (co_of cd_str)) (css_one (cs_ret (cw_of (cd_tup (cl_cons cd_str (cl_cons (cd_tup (cl_cons cd_str (cl_cons (cd_name (i := 0)) (cl_cons (cd_name (i := 1)) (cl_cons (cd_name (i := 2)) (cl_cons (cd_name (i := 3)) cl_nil)))))) cl_nil)))))) css_nil)
    (css_cons (cs_if (t_cmp (c_ne hr) (co_of (w_ix hr (co_name (i := 1)) (co_of cd_int))) (co_of cd_str)) (css_one (cs_ret (cw_of (cd_tup (cl_cons cd_str (cl_cons (cd_name (i := 0)) cl_nil)))))) css_nil)
    (css_cons (cs_parW3 (i := 4) (j := 5) (l := 6) rfl SC.nd rfl rfl rfl (by decide) (by decide) (by decide) rfl rfl rfl (cd_of (w_dict Z rfl (co_of (w_ix hr (co_name (i := 0)) (co_of cd_int))))) (cd_of (w_dict Z rfl (co_of (w_ix hr (co_name (i := 1)) (co_of cd_int))))) (cw_lst cl_nil) (by rfl))
    (css_cons (cs_for PassesOwn.never rfl (ci_seqB (w_ix hr (co_name (i := 2)) (co_of cd_int))) (cg_tup rfl (cgs_cons (cg_name (i := 7) SC.nd rfl (by first | exact Or.inl rfl | exact Or.inr rfl) (by first | exact Or.inl rfl | exact Or.inr rfl)) (cgs_cons (cg_name (i := 8) SC.nd rfl (by first | exact Or.inl rfl | exact Or.inr rfl) (by first | exact Or.inl rfl | exact Or.inr rfl)) cgs_nil))) (css_cons (cs_set (i := 9) SC.nd rfl (by first | exact Or.inl rfl | exact Or.inr rfl) (cw_call ih.f__law_cast.to hr rfl (ca_val (w_ix hr (co_name (i := 4)) (co_name (i := 7))) (ca_val (w_ix hr (co_name (i := 5)) (co_name (i := 7))) (ca_val (cd_name (i := 8)) (ca_val (cd_name (i := 3)) ca_nil))))))
    (css_cons (cs_if (t_cmp (c_eq hr) (co_of (w_ix hr (co_name (i := 9)) (co_of cd_int))) (co_of cd_str)) (css_one (cs_ret (cw_move (i := 9)))) css_nil)
    (css_one (cs_app (i := 6) rfl (by first | exact Or.inl rfl | exact Or.inr (Or.inl rfl) | exact Or.inr (Or.inr rfl)) (cd_tup (cl_cons (cd_name (i := 7)) (cl_cons (w_ix hr (co_name (i := 9)) (co_of cd_int)) cl_nil))))))))
    (css_one (cs_ret (cw_of (cd_tup (cl_cons cd_str (cl_cons (cd_tup (cl_cons cd_str (cl_cons (w_tuple Z (co_name (i := 6))) cl_nil))) cl_nil)))))))))))))
abbrev s__law_has : Stmt := topS 28
abbrev N__law_has : List Str := ["value", "kind", "row", "k"]
theorem sc__law_has : FnScope N__law_has ["value", "kind"] (defScope s__law_has) := ⟨rfl, rfl, rfl, by decide +kernel, rfl, by decide +kernel, by decide +kernel⟩
theorem ok__law_has {n : Nat} {g : Nm → FnD} (Gs : Gf K mg) (ih : Fs P w K mg base n g) : ∀ (f : Addr) (cdv : Value) (A : Around) (outer : List PySem.Env) (s : Shared) (H : Hp) (E : XK), Room n (A.deeper (envOfC "_law_has" (defScope s__law_has) s.heap.objs.size f cdv)) →
    PSs (bodyX P w K mg base N__law_has "_law_has" (defScope s__law_has) f cdv A outer s H E) (defBody s__law_has) (tS ⟨K, mg⟩ (b__law_has g)) := fun f cdv A outer s H E hr =>
  have Z := Gs.z
  have SC := sc__law_has
  (css_cons (cs_if (t_cmp (c_eq hr) (co_name (i := 1)) (co_of (cd_tup (cl_cons cd_str cl_nil)))) (css_one (cs_ret (cw_of (cd_and (w_cmp (c_eq hr) (co_of (w_ix hr (co_name (i := 0)) (co_of cd_int))) (co_of cd_str)) (cd_one (cd_of (cw_call ih.f__law_has.to hr rfl (ca_val (w_ix hr (co_name (i := 0)) (co_of cd_int)) (ca_val (w_ix hr (co_name (i := 0)) (co_of cd_int)) ca_nil))))))))) css_nil)
    (css_cons (cs_if (t_cmp (c_eq hr) (co_of (w_ix hr (co_name (i := 1)) (co_of cd_int))) (co_of cd_str)) (css_one (cs_ret (cw_of (w_cmp (c_in hr) (co_of (w_ix hr (co_name (i := 0)) (co_of cd_int))) (co_of (cd_of (cw_lst (cl_cons cd_str (cl_cons cd_str cl_nil))))))))) css_nil)
    (css_cons (cs_if (t_cmp (c_ne hr) (co_of (w_ix hr (co_name (i := 1)) (co_of cd_int))) (co_of cd_str)) (css_one (cs_ret (cw_of (w_cmp (c_eq hr) (co_of (w_ix hr (co_name (i := 0)) (co_of cd_int))) (co_of (w_ix hr (co_name (i := 1)) (co_of cd_int))))))) css_nil)
    (css_one (cs_ret (cw_of (cd_and (w_cmp (c_eq hr) (co_of (cd_of (cw_lc rfl SC.nd (own := [("row", 2)]) (ci_seqB (w_ix hr (co_name (i := 0)) (co_of cd_int))) (blkOk_by (by show blkC N__law_has (defScope s__law_has) _ _ = true; decide +kernel)) (by decide) (fun _ _ _ _ _ => (cg_name (i := 2) SC.nd rfl (by first | exact Or.inl rfl | exact Or.inr rfl) (by first | exact Or.inl rfl | exact Or.inr rfl))) (fun _ _ _ _ _ => cts_nil) (fun _ _ _ _ _ => (w_ix hr (co_name (i := 2)) (co_of cd_int)))))) (co_of (cd_of (cw_lc rfl SC.nd (own := [("row", 2)]) (ci_seqB (w_ix hr (co_name (i := 1)) (co_of cd_int))) (blkOk_by (by show blkC N__law_has (defScope s__law_has) _ _ = true; decide +kernel)) (by decide) (fun _ _ _ _ _ => (cg_name (i := 2) SC.nd rfl (by first | exact Or.inl rfl | exact Or.inr rfl) (by first | exact Or.inl rfl | exact Or.inr rfl))) (fun _ _ _ _ _ => cts_nil) (fun _ _ _ _ _ => (w_ix hr (co_name (i := 2)) (co_of cd_int))))))) (cd_one (w_cmp (c_eq hr) (co_of (w_len Z (co_of (cd_of (cw_lc rfl SC.nd (own := [("k", 3)]) (ci_rng1 rfl Z.range (cl_cons (w_len Z (co_of (w_ix hr (co_name (i := 1)) (co_of cd_int)))) cl_nil)) (blkOk_by (by show blkC N__law_has (defScope s__law_has) _ _ = true; decide +kernel)) (by decide) (fun _ _ _ _ _ => (cg_name (i := 3) SC.nd rfl (by first | exact Or.inl rfl | exact Or.inr rfl) (by first | exact Or.inl rfl | exact Or.inr rfl))) (fun _ _ _ _ _ => (cts_one (ct_not (ct_val (cd_of (cw_call ih.f__law_has.to hr rfl (ca_val (w_ix hr (co_of (w_ix hr (co_of (w_ix hr (co_name (i := 0)) (co_of cd_int))) (co_name (i := 3)))) (co_of cd_int)) (ca_val (w_ix hr (co_of (w_ix hr (co_of (w_ix hr (co_name (i := 1)) (co_of cd_int))) (co_name (i := 3)))) (co_of cd_int)) ca_nil)))))))) (fun _ _ _ _ _ => (cd_name (i := 3)))))))) (co_of cd_int))))))))))
abbrev s__law_fewer : Stmt := topS 29
abbrev N__law_fewer : List Str := ["value", "kind", "known", "label", "part"]
theorem sc__law_fewer : FnScope N__law_fewer ["value", "kind"] (defScope s__law_fewer) := ⟨rfl, rfl, rfl, by decide +kernel, rfl, by decide +kernel, by decide +kernel⟩
theorem ok__law_fewer {n : Nat} {g : Nm → FnD} (Gs : Gf K mg) (ih : Fs P w K mg base n g) : ∀ (f : Addr) (cdv : Value) (A : Around) (outer : List PySem.Env) (s : Shared) (H : Hp) (E : XK), Room n (A.deeper (envOfC "_law_fewer" (defScope s__law_fewer) s.heap.objs.size f cdv)) →
    PSs (bodyX P w K mg base N__law_fewer "_law_fewer" (defScope s__law_fewer) f cdv A outer s H E) (defBody s__law_fewer) (tS ⟨K, mg⟩ (b__law_fewer g)) := fun f cdv A outer s H E hr =>
  have Z := Gs.z
  have SC := sc__law_fewer
  (css_cons (cs_if (t_cmp (c_ne hr) (co_of (w_ix hr (co_name (i := 0)) (co_of cd_int))) (co_of cd_str)) (css_one (cs_ret (cw_move (i := 0)))) css_nil)
    (css_cons (cs_set (i := 2) SC.nd rfl (by first | exact Or.inl rfl | exact Or.inr rfl) (w_dict Z rfl (co_of (w_ix hr (co_name (i := 0)) (co_of cd_int)))))
    (css_one (cs_ret (cw_of (cd_tup (cl_cons cd_str (cl_cons (w_tuple Z (co_of (cd_of (cw_lc rfl SC.nd (own := [("label", 3), ("part", 4)]) (ci_seqB (w_ix hr (co_name (i := 1)) (co_of cd_int))) (blkOk_by (by show blkC N__law_fewer (defScope s__law_fewer) _ _ = true; decide +kernel)) (by decide) (fun _ _ _ _ _ => (cg_tup rfl (cgs_cons (cg_name (i := 3) SC.nd rfl (by first | exact Or.inl rfl | exact Or.inr rfl) (by first | exact Or.inl rfl | exact Or.inr rfl)) (cgs_cons (cg_name (i := 4) SC.nd rfl (by first | exact Or.inl rfl | exact Or.inr rfl) (by first | exact Or.inl rfl | exact Or.inr rfl)) cgs_nil)))) (fun _ _ _ _ _ => cts_nil) (fun _ _ _ _ _ => (cd_tup (cl_cons (cd_name (i := 3)) (cl_cons (cd_of (cw_call ih.f__law_fewer.to hr rfl (ca_val (w_ix hr (co_name (i := 2)) (co_name (i := 3))) (ca_val (cd_name (i := 4)) ca_nil)))) cl_nil)))))))) cl_nil))))))))
abbrev s_law : Stmt := topS 30
abbrev N_law : List Str := ["script", "draws", "name", "turn", "kind", "due", "value", "up", "back", "told", "middle", "first", "second"]
theorem sc_law : FnScope N_law ["script"] (defScope s_law) := ⟨rfl, rfl, rfl, by decide +kernel, rfl, by decide +kernel, by decide +kernel⟩
theorem ok_law {n : Nat} {g : Nm → FnD} (Gs : Gf K mg) (ih : Fs P w K mg base n g) : ∀ (f : Addr) (cdv : Value) (A : Around) (outer : List PySem.Env) (s : Shared) (H : Hp) (E : XK), A.guards = some [] → Room n (A.deeper (envOfC "law" (defScope s_law) s.heap.objs.size f cdv)) →
    PSs (bodyX P w K mg base N_law "law" (defScope s_law) f cdv A outer s H E) (defBody s_law) (tS ⟨K, mg⟩ (b_law g)) := fun f cdv A outer s H E hgd hr =>
  have Z := Gs.z
  have SC := sc_law
  (css_cons (cs_set (i := 1) SC.nd rfl (by first | exact Or.inl rfl | exact Or.inr rfl) (cw_call ih.f__law_draws.to hr rfl (ca_val (cd_name (i := 0)) ca_nil)))
    (css_cons (cs_set (i := 2) SC.nd rfl (by first | exact Or.inl rfl | exact Or.inr rfl) (cw_of (cd_tup (cl_cons (cd_tup (cl_cons cd_int cl_nil)) (cl_cons cd_bl cl_nil)))))
    (css_cons (cs_for PassesOwn.never rfl (ci_rng1 rfl Z.range (cl_cons cd_int cl_nil)) (cg_name (i := 3) SC.nd rfl (by first | exact Or.inl rfl | exact Or.inr rfl) (by first | exact Or.inl rfl | exact Or.inr rfl)) (css_cons (cs_set (i := 4) SC.nd rfl (by first | exact Or.inl rfl | exact Or.inr rfl) (cw_call ih.f__law_wide.to hr rfl (ca_bor (i := 1) rfl (by first | exact Or.inl rfl | exact Or.inr (Or.inl rfl) | exact Or.inr (Or.inr rfl)) (ca_val cd_int ca_nil))))
    (css_cons (cs_set (i := 5) SC.nd rfl (by first | exact Or.inl rfl | exact Or.inr rfl) (cw_call ih.f__law_mixed.to hr rfl (ca_bor (i := 1) rfl (by first | exact Or.inl rfl | exact Or.inr (Or.inl rfl) | exact Or.inr (Or.inr rfl)) (ca_val (cd_name (i := 4)) ca_nil))))
    (css_cons (cs_set (i := 6) SC.nd rfl (by first | exact Or.inl rfl | exact Or.inr rfl) (cw_call ih.f__law_value.to hr rfl (ca_bor (i := 1) rfl (by first | exact Or.inl rfl | exact Or.inr (Or.inl rfl) | exact Or.inr (Or.inr rfl)) (ca_val (cd_name (i := 4)) (ca_val cd_int ca_nil)))))
    (css_cons (cs_if (CB.pt (cb_or (t_cmp c_isn (co_of (cd_of (cw_call ih.f_has_wide.to hr rfl (ca_val (cd_name (i := 6)) (ca_val (cd_name (i := 4)) ca_nil))))) (co_of cd_bl)) (cb_or (ct_not (ct_val (cd_of (cw_call ih.f__law_same.to hr rfl (ca_val (cd_of (cw_call ih.f_could_be.to hr rfl (ca_val (cd_name (i := 4)) (ca_val (cd_name (i := 5)) ca_nil)))) (ca_val (cd_of (cw_call ih.f__law_forms.to hr rfl (ca_val (cd_name (i := 4)) (ca_val (cd_name (i := 5)) ca_nil)))) ca_nil)))))) (cb_or1 (ct_not (ct_val (cd_of (cw_call ih.f__law_same.to hr rfl (ca_val (cd_of (cw_call ih.f_is_free.to hr rfl (ca_val (cd_name (i := 4)) (ca_val (cd_name (i := 5)) ca_nil)))) (ca_val (cd_of (cw_call ih.f__law_under.to hr rfl (ca_val (cd_name (i := 4)) (ca_val (cd_name (i := 5)) ca_nil)))) ca_nil)))))))))) (css_one (cs_ret (cw_of cd_bl))) css_nil)
    (css_cons (cs_set (i := 7) SC.nd rfl (by first | exact Or.inl rfl | exact Or.inr rfl) (cw_call ih.f_cast_wide.to hr rfl (ca_val (cd_name (i := 6)) (ca_val (cd_name (i := 4)) (ca_val (cd_tup (cl_cons cd_str cl_nil)) (ca_val (cd_name (i := 2)) ca_nil))))))
    (css_cons (cs_set (i := 8) SC.nd rfl (by first | exact Or.inl rfl | exact Or.inr rfl) (cw_call ih.f_cast_wide.to hr rfl (ca_val (w_ix hr (co_name (i := 7)) (co_of cd_int)) (ca_val (cd_tup (cl_cons cd_str cl_nil)) (ca_val (cd_name (i := 4)) (ca_val (cd_name (i := 2)) ca_nil))))))
    (css_cons (cs_if (CB.pt (cb_or (t_cmp (c_ne hr) (co_of (w_ix hr (co_name (i := 7)) (co_of cd_int))) (co_of cd_str)) (cb_or (t_cmp c_isn (co_of (cd_of (cw_call ih.f_has_wide.to hr rfl (ca_val (w_ix hr (co_name (i := 7)) (co_of cd_int)) (ca_val (cd_tup (cl_cons cd_str cl_nil)) ca_nil))))) (co_of cd_bl)) (cb_or1 (ct_not (ct_val (cd_of (cw_call ih.f__law_same.to hr rfl (ca_val (cd_name (i := 8)) (ca_val (cd_tup (cl_cons cd_str (cl_cons (cd_name (i := 6)) cl_nil))) ca_nil)))))))))) (css_one (cs_ret (cw_of cd_bl))) css_nil)
    (css_cons (cs_if (ct_not (ct_val (cd_of (cw_call ih.f__law_could.to hr rfl (ca_val (cd_name (i := 4)) (ca_val (cd_name (i := 5)) ca_nil)))))) (css_one cs_cont) css_nil)
    (css_cons (cs_set (i := 9) SC.nd rfl (by first | exact Or.inl rfl | exact Or.inr rfl) (cw_call ih.f_cast_wide.to hr rfl (ca_val (cd_name (i := 6)) (ca_val (cd_name (i := 4)) (ca_val (cd_name (i := 5)) (ca_val (cd_name (i := 2)) ca_nil))))))
    (css_cons (cs_if (CB.pt (cb_or (ct_not (ct_val (cd_of (cw_call ih.f__law_same.to hr rfl (ca_val (cd_name (i := 9)) (ca_val (cd_of (cw_call ih.f__law_cast.to hr rfl (ca_val (cd_name (i := 6)) (ca_val (cd_name (i := 4)) (ca_val (cd_name (i := 5)) (ca_val (cd_name (i := 2)) ca_nil)))))) ca_nil)))))) (cb_or1 (CB.pt (cb_and (t_cmp (c_eq hr) (co_of (w_ix hr (co_name (i := 9)) (co_of cd_int))) (co_of cd_str)) (cb_and1 (CB.pt (cb_or (t_cmp c_isn (co_of (cd_of (cw_call ih.f_has_wide.to hr rfl (ca_val (w_ix hr (co_name (i := 9)) (co_of cd_int)) (ca_val (cd_name (i := 5)) ca_nil))))) (co_of cd_bl)) (cb_or1 (ct_not (ct_val (cd_of (cw_call ih.f__law_has.to hr rfl (ca_val (w_ix hr (co_name (i := 9)) (co_of cd_int)) (ca_val (cd_name (i := 5)) ca_nil))))))))))))))) (css_one (cs_ret (cw_of cd_bl))) css_nil)
    (css_cons (cs_if (ct_val (cd_of (cw_call ih.f_under.to hr rfl (ca_val (cd_name (i := 4)) (ca_val (cd_name (i := 5)) ca_nil))))) (css_cons (cs_if (CB.pt (cb_or (t_cmp (c_ne hr) (co_of (w_ix hr (co_name (i := 9)) (co_of cd_int))) (co_of cd_str)) (cb_or1 (CB.pt (cb_and (t_cmp (c_nin hr) (co_of cd_str) (co_of (w_repr hr hgd Gs.r_repr (co_name (i := 4))))) (cb_and (t_cmp (c_nin hr) (co_of cd_str) (co_of (w_repr hr hgd Gs.r_repr (co_name (i := 4))))) (cb_and1 (ct_not (ct_val (cd_of (cw_call ih.f__law_same.to hr rfl (ca_val (w_ix hr (co_name (i := 9)) (co_of cd_int)) (ca_val (cd_of (cw_call ih.f_fewer_fields.to hr rfl (ca_val (cd_name (i := 6)) (ca_val (cd_name (i := 5)) ca_nil)))) ca_nil))))))))))))) (css_one (cs_ret (cw_of cd_bl))) css_nil)
    (css_one (cs_if (CB.pt (cb_and (t_cmp (c_nin hr) (co_of cd_str) (co_of (w_repr hr hgd Gs.r_repr (co_name (i := 4))))) (cb_and (t_cmp (c_nin hr) (co_of cd_str) (co_of (w_repr hr hgd Gs.r_repr (co_name (i := 4))))) (cb_and1 (t_cmp (c_ne hr) (co_of (cd_of (cw_call ih.f_shown_wide.to hr rfl (ca_val (w_ix hr (co_name (i := 9)) (co_of cd_int)) ca_nil)))) (co_of (cd_of (cw_call ih.f__law_fewer.to hr rfl (ca_val (cd_name (i := 6)) (ca_val (cd_name (i := 5)) ca_nil)))))))))) (css_one (cs_ret (cw_of cd_bl))) css_nil))) css_nil)
    (css_one (cs_if (ct_val (cd_of (cw_call ih.f_alike_under.to hr rfl (ca_val (cd_name (i := 4)) (ca_val (cd_name (i := 5)) ca_nil))))) (css_cons (cs_set (i := 10) SC.nd rfl (by first | exact Or.inl rfl | exact Or.inr rfl) (cw_call ih.f_between_up.to hr rfl (ca_val (cd_name (i := 4)) (ca_val (cd_name (i := 5)) ca_nil))))
    (css_cons (cs_set (i := 11) SC.nd rfl (by first | exact Or.inl rfl | exact Or.inr rfl) (cw_call ih.f_cast_wide.to hr rfl (ca_val (cd_name (i := 6)) (ca_val (cd_name (i := 4)) (ca_val (cd_name (i := 10)) (ca_val (cd_name (i := 2)) ca_nil))))))
    (css_cons (cs_if (t_cmp (c_ne hr) (co_of (w_ix hr (co_name (i := 11)) (co_of cd_int))) (co_of cd_str)) (css_one (cs_ret (cw_of cd_bl))) css_nil)
    (css_cons (cs_set (i := 12) SC.nd rfl (by first | exact Or.inl rfl | exact Or.inr rfl) (cw_call ih.f_cast_wide.to hr rfl (ca_val (w_ix hr (co_name (i := 11)) (co_of cd_int)) (ca_val (cd_name (i := 10)) (ca_val (cd_name (i := 5)) (ca_val (cd_name (i := 2)) ca_nil))))))
    (css_one (cs_if (CB.pt (cb_or (t_cmp (c_ne hr) (co_of (w_ix hr (co_name (i := 12)) (co_of cd_int))) (co_of (w_ix hr (co_name (i := 9)) (co_of cd_int)))) (cb_or1 (CB.pt (cb_and (t_cmp (c_eq hr) (co_of (w_ix hr (co_name (i := 9)) (co_of cd_int))) (co_of cd_str)) (cb_and (t_cmp (c_nin hr) (co_of cd_str) (co_of (w_repr hr hgd Gs.r_repr (co_name (i := 5))))) (cb_and1 (t_cmp (c_ne hr) (co_of (cd_of (cw_call ih.f_shown_wide.to hr rfl (ca_val (w_ix hr (co_name (i := 12)) (co_of cd_int)) ca_nil)))) (co_of (cd_of (cw_call ih.f_shown_wide.to hr rfl (ca_val (w_ix hr (co_name (i := 9)) (co_of cd_int)) ca_nil)))))))))))) (css_one (cs_ret (cw_of cd_bl))) css_nil)))))) css_nil))))))))))))))
    (css_one (cs_ret (cw_of cd_bl))))))
structure Ds (K : PySem.W.Frag) (mg : Str → Option Value) : Prop where
  f_fields : DefF K mg "fields" s_fields ["kind"]
  f_record : DefF K mg "record" s_record ["table"]
  f_under : DefF K mg "under" s_under ["one", "two"]
  f_alike_under : DefF K mg "alike_under" s_alike_under ["one", "two"]
  f_between_up : DefF K mg "between_up" s_between_up ["one", "two"]
  f_between_down : DefF K mg "between_down" s_between_down ["one", "two"]
  f_cast_wide : DefF K mg "cast_wide" s_cast_wide ["value", "kind", "due", "name"]
  f_untagged : DefF K mg "untagged" s_untagged ["value", "due", "name"]
  f_could_be : DefF K mg "could_be" s_could_be ["kind", "due"]
  f_has_wide : DefF K mg "has_wide" s_has_wide ["value", "kind"]
  f_shown_wide : DefF K mg "shown_wide" s_shown_wide ["value"]
  f_fewer_fields : DefF K mg "fewer_fields" s_fewer_fields ["value", "kind"]
  f_is_free : DefF K mg "is_free" s_is_free ["kind", "due"]
  f__law_draws : DefF K mg "_law_draws" s__law_draws ["script"]
  f__law_draw : DefF K mg "_law_draw" s__law_draw ["draws", "limit"]
  f__law_same : DefF K mg "_law_same" s__law_same ["actual", "expected"]
  f__law_wide : DefF K mg "_law_wide" s__law_wide ["draws", "deep"]
  f__law_mixed : DefF K mg "_law_mixed" s__law_mixed ["draws", "kind"]
  f__law_under : DefF K mg "_law_under" s__law_under ["one", "two"]
  f__law_could : DefF K mg "_law_could" s__law_could ["one", "two"]
  f__law_value : DefF K mg "_law_value" s__law_value ["draws", "kind", "deep"]
  f__law_forms : DefF K mg "_law_forms" s__law_forms ["kind", "due"]
  f__law_cast : DefF K mg "_law_cast" s__law_cast ["value", "kind", "due", "name"]
  f__law_has : DefF K mg "_law_has" s__law_has ["value", "kind"]
  f__law_fewer : DefF K mg "_law_fewer" s__law_fewer ["value", "kind"]
theorem all_ok (Gs : Gf K mg) (Df : Ds K mg) : ∀ n, Fs P w K mg base n (G n)
  | 0 => ⟨Df.f_fields.zero fun _ => rfl, Df.f_record.zero fun _ => rfl, Df.f_under.zero fun _ => rfl, Df.f_alike_under.zero fun _ => rfl, Df.f_between_up.zero fun _ => rfl, Df.f_between_down.zero fun _ => rfl, Df.f_cast_wide.zero fun _ => rfl, Df.f_untagged.zero fun _ => rfl, Df.f_could_be.zero fun _ => rfl, Df.f_has_wide.zero fun _ => rfl, Df.f_shown_wide.zero fun _ => rfl, Df.f_fewer_fields.zero fun _ => rfl, Df.f_is_free.zero fun _ => rfl, Df.f__law_draws.zero fun _ => rfl, Df.f__law_draw.zero fun _ => rfl, Df.f__law_same.zero fun _ => rfl, Df.f__law_wide.zero fun _ => rfl, Df.f__law_mixed.zero fun _ => rfl, Df.f__law_under.zero fun _ => rfl, Df.f__law_could.zero fun _ => rfl, Df.f__law_value.zero fun _ => rfl, Df.f__law_forms.zero fun _ => rfl, Df.f__law_cast.zero fun _ => rfl, Df.f__law_has.zero fun _ => rfl, Df.f__law_fewer.zero fun _ => rfl⟩
  | n + 1 => by
    have ih := all_ok Gs Df n
    have h_fields := Df.f_fields.step (P := P) (w := w) (base := base) (bo := [false]) (n := n) (g := b_fields (G n)) sc_fields rfl (ok_fields Gs ih)
    have h_record := Df.f_record.step (P := P) (w := w) (base := base) (bo := [false]) (n := n) (g := b_record (G n)) sc_record rfl (ok_record Gs ih)
    have h_under := Df.f_under.step (P := P) (w := w) (base := base) (bo := [false, false]) (n := n) (g := b_under (G n)) sc_under rfl (ok_under Gs ih)
    have h_alike_under := Df.f_alike_under.step (P := P) (w := w) (base := base) (bo := [false, false]) (n := n) (g := b_alike_under (G n)) sc_alike_under rfl (ok_alike_under Gs ih)
    have h_between_up := Df.f_between_up.step (P := P) (w := w) (base := base) (bo := [false, false]) (n := n) (g := b_between_up (G n)) sc_between_up rfl (ok_between_up Gs ih)
    have h_between_down := Df.f_between_down.step (P := P) (w := w) (base := base) (bo := [false, false]) (n := n) (g := b_between_down (G n)) sc_between_down rfl (ok_between_down Gs ih)
    have h_cast_wide := Df.f_cast_wide.step (P := P) (w := w) (base := base) (bo := [false, false, false, false]) (n := n) (g := b_cast_wide (G n)) sc_cast_wide rfl (ok_cast_wide Gs ih)
    have h_untagged := Df.f_untagged.step (P := P) (w := w) (base := base) (bo := [false, false, false]) (n := n) (g := b_untagged (G n)) sc_untagged rfl (ok_untagged Gs ih)
    have h_could_be := Df.f_could_be.step (P := P) (w := w) (base := base) (bo := [false, false]) (n := n) (g := b_could_be (G n)) sc_could_be rfl (ok_could_be Gs ih)
    have h_has_wide := Df.f_has_wide.step (P := P) (w := w) (base := base) (bo := [false, false]) (n := n) (g := b_has_wide (G n)) sc_has_wide rfl (ok_has_wide Gs ih)
    have h_shown_wide := Df.f_shown_wide.step (P := P) (w := w) (base := base) (bo := [false]) (n := n) (g := b_shown_wide (G n)) sc_shown_wide rfl (ok_shown_wide Gs ih)
    have h_fewer_fields := Df.f_fewer_fields.step (P := P) (w := w) (base := base) (bo := [false, false]) (n := n) (g := b_fewer_fields (G n)) sc_fewer_fields rfl (ok_fewer_fields Gs ih)
    have h_is_free := Df.f_is_free.step (P := P) (w := w) (base := base) (bo := [false, false]) (n := n) (g := b_is_free (G n)) sc_is_free rfl (ok_is_free Gs ih)
    have h__law_draws := Df.f__law_draws.step (P := P) (w := w) (base := base) (bo := [false]) (n := n) (g := b__law_draws (G n)) sc__law_draws rfl (ok__law_draws Gs ih)
    have h__law_draw := Df.f__law_draw.step (P := P) (w := w) (base := base) (bo := [true, false]) (n := n) (g := b__law_draw (G n)) sc__law_draw rfl (ok__law_draw Gs ih)
    have h__law_same := Df.f__law_same.step (P := P) (w := w) (base := base) (bo := [false, false]) (n := n) (g := b__law_same (G n)) sc__law_same rfl (ok__law_same Gs ih)
    have h__law_wide := Df.f__law_wide.step (P := P) (w := w) (base := base) (bo := [true, false]) (n := n) (g := b__law_wide (G n)) sc__law_wide rfl (ok__law_wide Gs ih)
    have h__law_mixed := Df.f__law_mixed.step (P := P) (w := w) (base := base) (bo := [true, false]) (n := n) (g := b__law_mixed (G n)) sc__law_mixed rfl (ok__law_mixed Gs ih)
    have h__law_under := Df.f__law_under.step (P := P) (w := w) (base := base) (bo := [false, false]) (n := n) (g := b__law_under (G n)) sc__law_under rfl (ok__law_under Gs ih)
    have h__law_could := Df.f__law_could.step (P := P) (w := w) (base := base) (bo := [false, false]) (n := n) (g := b__law_could (G n)) sc__law_could rfl (ok__law_could Gs ih)
    have h__law_value := Df.f__law_value.step (P := P) (w := w) (base := base) (bo := [true, false, false]) (n := n) (g := b__law_value (G n)) sc__law_value rfl (ok__law_value Gs ih)
    have h__law_forms := Df.f__law_forms.step (P := P) (w := w) (base := base) (bo := [false, false]) (n := n) (g := b__law_forms (G n)) sc__law_forms rfl (ok__law_forms Gs ih)
    have h__law_cast := Df.f__law_cast.step (P := P) (w := w) (base := base) (bo := [false, false, false, false]) (n := n) (g := b__law_cast (G n)) sc__law_cast rfl (ok__law_cast Gs ih)
    have h__law_has := Df.f__law_has.step (P := P) (w := w) (base := base) (bo := [false, false]) (n := n) (g := b__law_has (G n)) sc__law_has rfl (ok__law_has Gs ih)
    have h__law_fewer := Df.f__law_fewer.step (P := P) (w := w) (base := base) (bo := [false, false]) (n := n) (g := b__law_fewer (G n)) sc__law_fewer rfl (ok__law_fewer Gs ih)
    exact ⟨h_fields, h_record, h_under, h_alike_under, h_between_up, h_between_down, h_cast_wide, h_untagged, h_could_be, h_has_wide, h_shown_wide, h_fewer_fields, h_is_free, h__law_draws, h__law_draw, h__law_same, h__law_wide, h__law_mixed, h__law_under, h__law_could, h__law_value, h__law_forms, h__law_cast, h__law_has, h__law_fewer⟩
end
end K75

namespace K75
open DV L2 PySem PySem.Spec PyProof.Rows
/-- wide types; a record's fields a, b, c, d, `no` where there is none -/
inductive Wd where
  | no | any | int | bool | fn (a b : Wd) | rc (a b c d : Wd)
deriving DecidableEq
def fl (a b c d : Wd) : List (Str × Wd) :=
  (if a = .no then [] else [(("a" : Str), a)]) ++ ((if b = .no then [] else [(("b" : Str), b)]) ++ ((if c = .no then [] else [(("c" : Str), c)]) ++ (if d = .no then [] else [(("d" : Str), d)])))
def enc : Wd → D
  | .no => .non
  | .any => .tup [.str "any"]
  | .int => .tup [.str "int"]
  | .bool => .tup [.str "bool"]
  | .fn a b => .tup [.str "fn", enc a, enc b]
  | .rc a b c d => .tup [.str "record", .tup ((if a = .no then [] else [.tup [.str "a", enc a]]) ++ ((if b = .no then [] else [.tup [.str "b", enc b]]) ++ ((if c = .no then [] else [.tup [.str "c", enc c]]) ++ (if d = .no then [] else [.tup [.str "d", enc d]]))))]
def it (p : Str × Wd) : D := .tup [.str p.1, enc p.2]
/-- the fields as a table -/
def tb (L : List (Str × Wd)) : Tab := L.map fun p => (p.1, enc p.2)
theorem enc_rc {a b c d : Wd} : enc (.rc a b c d) = .tup [.str "record", .tup ((fl a b c d).map it)] := by
  unfold fl enc
  by_cases ha : a = .no <;> by_cases hb : b = .no <;> by_cases hc : c = .no <;> by_cases hd : d = .no <;> simp [ha, hb, hc, hd, it]
theorem its_tb (L : List (Str × Wd)) : itsT (tb L) = L.map it := by
  unfold itsT tb
  rw [List.map_map]; rfl
/-- no part is missing that is no field -/
def ok : Wd → Prop
  | .no => False
  | .fn a b => ok a ∧ ok b
  | .rc a b c d => (a = .no ∨ ok a) ∧ (b = .no ∨ ok b) ∧ (c = .no ∨ ok c) ∧ (d = .no ∨ ok d)
  | _ => True
def dep : Wd → Nat
  | .fn a b => max (dep a) (dep b) + 1
  | .rc a b c d => max (max (dep a) (dep b)) (max (dep c) (dep d)) + 1
  | _ => 0
theorem fl_mem {a b c d : Wd} {p : Str × Wd} (h : p ∈ fl a b c d) : p.2 ≠ .no ∧ (p = (("a" : Str), a) ∨ p = (("b" : Str), b) ∨ p = (("c" : Str), c) ∨ p = (("d" : Str), d)) := by
  unfold fl at h
  by_cases ha : a = .no <;> by_cases hb : b = .no <;> by_cases hc : c = .no <;> by_cases hd : d = .no <;> simp [ha, hb, hc, hd] at h <;>
    (first | exact h.elim | (rcases h with rfl | rfl | rfl | rfl <;> simp_all) | (rcases h with rfl | rfl | rfl <;> simp_all) | (rcases h with rfl | rfl <;> simp_all) | (subst h; simp_all))
theorem fl_ok {a b c d : Wd} (h : ok (.rc a b c d)) {p : Str × Wd} (m : p ∈ fl a b c d) : ok p.2 := by
  obtain ⟨hn, e⟩ := fl_mem m
  obtain ⟨h1, h2, h3, h4⟩ := h
  rcases e with rfl | rfl | rfl | rfl
  · exact h1.resolve_left hn
  · exact h2.resolve_left hn
  · exact h3.resolve_left hn
  · exact h4.resolve_left hn
theorem fl_dep {a b c d : Wd} {n : Nat} (h : dep (.rc a b c d) < n + 1) {p : Str × Wd} (m : p ∈ fl a b c d) : dep p.2 < n := by
  obtain ⟨hn, e⟩ := fl_mem m
  unfold dep at h
  rcases e with rfl | rfl | rfl | rfl <;> simp only <;> omega
/-- the field of a name -/
def gf (a b c d : Wd) (l : Str) : Wd := if l = "a" then a else if l = "b" then b else if l = "c" then c else if l = "d" then d else .no
def ow (x : Wd) : Option Wd := if x = .no then none else some x
theorem ab : ¬ (("a" : Str) = "b") := by decide
theorem ac : ¬ (("a" : Str) = "c") := by decide
theorem ad : ¬ (("a" : Str) = "d") := by decide
theorem bc : ¬ (("b" : Str) = "c") := by decide
theorem bd' : ¬ (("b" : Str) = "d") := by decide
theorem cd : ¬ (("c" : Str) = "d") := by decide
theorem ba : ¬ (("b" : Str) = "a") := by decide
theorem ca : ¬ (("c" : Str) = "a") := by decide
theorem da : ¬ (("d" : Str) = "a") := by decide
theorem cb : ¬ (("c" : Str) = "b") := by decide
theorem db : ¬ (("d" : Str) = "b") := by decide
theorem dc : ¬ (("d" : Str) = "c") := by decide
theorem fl_nodup {a b c d : Wd} : ((fl a b c d).map (·.1)).Nodup := by
  unfold fl
  by_cases ha : a = .no <;> by_cases hb : b = .no <;> by_cases hc : c = .no <;> by_cases hd : d = .no <;> simp [ha, hb, hc, hd, ab, ac, ad, bc, bd', cd]
theorem fl_len {a b c d : Wd} : (fl a b c d).length ≤ 4 := by
  unfold fl
  by_cases ha : a = .no <;> by_cases hb : b = .no <;> by_cases hc : c = .no <;> by_cases hd : d = .no <;> simp [ha, hb, hc, hd]
theorem le_ab : leS "a" "b" = true := by decide
theorem le_ac : leS "a" "c" = true := by decide
theorem le_ad : leS "a" "d" = true := by decide
theorem le_bc : leS "b" "c" = true := by decide
theorem le_bd : leS "b" "d" = true := by decide
theorem le_cd : leS "c" "d" = true := by decide
theorem fl_sorted {a b c d : Wd} : ((fl a b c d).map (·.1)).Pairwise fun a b => leS a b = true := by
  unfold fl
  by_cases ha : a = .no <;> by_cases hb : b = .no <;> by_cases hc : c = .no <;> by_cases hd : d = .no <;> simp [ha, hb, hc, hd, le_ab, le_ac, le_ad, le_bc, le_bd, le_cd]
theorem tb_lookup {L : List (Str × Wd)} {l : Str} : (tb L).lookup l = (L.lookup l).map enc := by
  induction L with
  | nil => rfl
  | cons p L ih =>
    obtain ⟨k, x⟩ := p
    unfold tb at ih ⊢
    rw [List.map_cons, look_cons, ih, List.lookup_cons]
    by_cases h : k = l
    · subst h; simp
    · have : (l == k) = false := by simpa using fun e => h e.symm
      simp [h, this]
theorem fl_lookup {a b c d : Wd} {l : Str} : (fl a b c d).lookup l = ow (gf a b c d l) := by
  have lk : ∀ (k : Str) (x : Wd) (L : List (Str × Wd)), List.lookup l ((k, x) :: L) = if l = k then some x else List.lookup l L := fun k x L => by
    rw [List.lookup_cons]
    by_cases h : l = k
    · subst h; simp
    · have : (l == k) = false := by simpa using h
      simp [h, this]
  unfold gf
  by_cases h1 : l = "a"
  · subst h1
    unfold fl ow
    by_cases ha : a = .no <;> by_cases hb : b = .no <;> by_cases hc : c = .no <;> by_cases hd : d = .no <;> simp [ha, hb, hc, hd, lk, ab, ac, ad]
  · by_cases h2 : l = "b"
    · subst h2
      unfold fl ow
      by_cases ha : a = .no <;> by_cases hb : b = .no <;> by_cases hc : c = .no <;> by_cases hd : d = .no <;> simp [ha, hb, hc, hd, lk, ba, bc, bd']
    · by_cases h3 : l = "c"
      · subst h3
        unfold fl ow
        by_cases ha : a = .no <;> by_cases hb : b = .no <;> by_cases hc : c = .no <;> by_cases hd : d = .no <;> simp [ha, hb, hc, hd, lk, ca, cb, cd]
      · by_cases h4 : l = "d"
        · subst h4
          unfold fl ow
          by_cases ha : a = .no <;> by_cases hb : b = .no <;> by_cases hc : c = .no <;> by_cases hd : d = .no <;> simp [ha, hb, hc, hd, lk, da, db, dc]
        · unfold fl ow
          by_cases ha : a = .no <;> by_cases hb : b = .no <;> by_cases hc : c = .no <;> by_cases hd : d = .no <;> simp [ha, hb, hc, hd, lk, h1, h2, h3, h4]
@[simp] theorem gf_a {a b c d : Wd} : gf a b c d "a" = a := by simp [gf]
@[simp] theorem gf_b {a b c d : Wd} : gf a b c d "b" = b := by simp [gf, ba]
@[simp] theorem gf_c {a b c d : Wd} : gf a b c d "c" = c := by simp [gf, ca, cb]
@[simp] theorem gf_d {a b c d : Wd} : gf a b c d "d" = d := by simp [gf, da, db, dc]
end K75

namespace K75
open DV L2 PySem PySem.Spec PyProof.Rows
/-- x is under y; a missing field is above all -/
def und : Wd → Wd → Bool
  | _, .no => true
  | .any, .any => true
  | .int, .int => true
  | .bool, .bool => true
  | .fn a b, .fn c d => und c a && und b d
  | .rc a b c d, .rc a' b' c' d' => und a a' && und b b' && und c c' && und d d'
  | _, _ => false
termination_by x y => sizeOf x + sizeOf y
def alk : Wd → Wd → Bool
  | .no, .no => true
  | .no, _ => false
  | _, .no => false
  | .any, _ => true
  | _, .any => true
  | .int, .int => true
  | .bool, .bool => true
  | .fn a b, .fn c d => alk a c && alk b d
  | .rc a b c d, .rc a' b' c' d' => alk a a' && alk b b' && alk c c' && alk d d'
  | _, _ => false
termination_by x y => sizeOf x + sizeOf y
def cou : Wd → Wd → Bool
  | _, .no => true
  | .no, _ => false
  | .any, _ => true
  | _, .any => true
  | .int, .int => true
  | .bool, .bool => true
  | .fn a b, .fn c d => cou c a && cou b d
  | .rc a b c d, .rc a' b' c' d' => cou a a' && cou b b' && cou c c' && cou d d'
  | _, _ => false
termination_by x y => sizeOf x + sizeOf y
def msk : Wd → Wd → Wd
  | .no, _ => .no
  | x, .no => x
  | _, .any => .any
  | .fn a b, .fn c d => .fn (msk a c) (msk b d)
  | .rc a b c d, .rc a' b' c' d' => .rc (msk a a') (msk b b') (msk c c') (msk d d')
  | x, _ => x
termination_by x y => sizeOf x + sizeOf y
/-- between: from above (true), from below -/
def btw : Bool → Wd → Wd → Wd
  | true, _, .no => .no
  | false, x, .no => x
  | _, .no, y => y
  | true, .any, _ => .any
  | true, x, .any => x
  | false, .any, y => y
  | false, _, .any => .any
  | k, .fn a b, .fn c d => .fn (btw (!k) c a) (btw k b d)
  | k, .rc a b c d, .rc a' b' c' d' => .rc (btw k a a') (btw k b b') (btw k c c') (btw k d d')
  | true, x, _ => x
  | false, _, y => y
termination_by _ x y => sizeOf x + sizeOf y
theorem und_refl : ∀ x, und x x = true := by
  intro x
  induction x with
  | no => simp [und]
  | any => simp [und]
  | int => simp [und]
  | bool => simp [und]
  | fn a b iha ihb => simp [und, iha, ihb]
  | rc a b c d iha ihb ihc ihd => simp [und, iha, ihb, ihc, ihd]
theorem alk_refl : ∀ x, alk x x = true := by
  intro x
  induction x with
  | no => simp [alk]
  | any => simp [alk]
  | int => simp [alk]
  | bool => simp [alk]
  | fn a b iha ihb => simp [alk, iha, ihb]
  | rc a b c d iha ihb ihc ihd => simp [alk, iha, ihb, ihc, ihd]
theorem alk_comm : ∀ x y, alk x y = alk y x := by
  intro x
  induction x with
  | fn a b iha ihb => intro y; cases y <;> simp [alk, iha, ihb]
  | rc a b c d iha ihb ihc ihd => intro y; cases y <;> simp [alk, iha, ihb, ihc, ihd]
  | _ => intro y; cases y <;> simp [alk]
/-- as masked ones -/
theorem msk_und : ∀ x y, und (msk x y) (msk y x) = cou x y ∧ und (msk y x) (msk x y) = cou y x := by
  intro x
  induction x with
  | fn a b iha ihb => intro y; cases y <;> simp [msk, und, cou, iha, ihb, und_refl]
  | rc a b c d iha ihb ihc ihd => intro y; cases y <;> simp [msk, und, cou, iha, ihb, ihc, ihd, und_refl]
  | _ => intro y; cases y <;> simp [msk, und, cou]
/-- what lies between -/
theorem btw_ok : ∀ x y, (cou x y = true → und x (btw true x y) = true ∧ alk (btw true x y) y = true ∧ alk x (btw false x y) = true ∧ und (btw false x y) y = true) ∧
    (cou y x = true → und y (btw true y x) = true ∧ alk (btw true y x) x = true ∧ alk y (btw false y x) = true ∧ und (btw false y x) x = true) := by
  intro x
  induction x with
  | fn a b iha ihb =>
    intro y
    cases y <;> simp [btw, und, cou, alk, und_refl, alk_refl]
    rename_i c d
    refine ⟨fun h1 h2 => ?_, fun h1 h2 => ?_⟩
    · obtain ⟨p1, p2, p3, p4⟩ := (iha c).2 h1
      obtain ⟨q1, q2, q3, q4⟩ := (ihb d).1 h2
      simp [p1, p2, p3, p4, q1, q2, q3, q4, alk_comm a, alk_comm _ c]
    · obtain ⟨p1, p2, p3, p4⟩ := (iha c).1 h1
      obtain ⟨q1, q2, q3, q4⟩ := (ihb d).2 h2
      simp [p1, p2, p3, p4, q1, q2, q3, q4, alk_comm c, alk_comm _ a]
  | rc a b c d iha ihb ihc ihd =>
    intro y
    cases y <;> simp [btw, und, cou, alk, und_refl, alk_refl]
    rename_i a' b' c' d'
    refine ⟨fun h1 h2 h3 h4 => ?_, fun h1 h2 h3 h4 => ?_⟩
    · simp [(iha a').1 h1, (ihb b').1 h2, (ihc c').1 h3, (ihd d').1 h4]
    · simp [(iha a').2 h1, (ihb b').2 h2, (ihc c').2 h3, (ihd d').2 h4]
  | _ => intro y; cases y <;> simp [btw, und, cou, alk, und_refl, alk_refl]
theorem und_cou : ∀ x y, (und x y = true → cou x y = true) ∧ (und y x = true → cou y x = true) := by
  intro x
  induction x with
  | fn a b iha ihb =>
    intro y
    cases y <;> simp [und, cou]
    rename_i c d
    exact ⟨fun h1 h2 => ⟨(iha c).2 h1, (ihb d).1 h2⟩, fun h1 h2 => ⟨(iha c).1 h1, (ihb d).2 h2⟩⟩
  | rc a b c d iha ihb ihc ihd =>
    intro y
    cases y <;> simp [und, cou]
    rename_i a' b' c' d'
    exact ⟨fun h1 h2 h3 h4 => ⟨⟨⟨(iha a').1 h1, (ihb b').1 h2⟩, (ihc c').1 h3⟩, (ihd d').1 h4⟩, fun h1 h2 h3 h4 => ⟨⟨⟨(iha a').2 h1, (ihb b').2 h2⟩, (ihc c').2 h3⟩, (ihd d').2 h4⟩⟩
  | _ => intro y; cases y <;> simp [und, cou]
theorem alk_cou : ∀ x y, alk x y = true → cou x y = true ∧ cou y x = true := by
  intro x
  induction x with
  | fn a b iha ihb =>
    intro y
    cases y <;> simp [alk, cou]
    rename_i c d
    exact fun h1 h2 => ⟨⟨(iha c h1).2, (ihb d h2).1⟩, (iha c h1).1, (ihb d h2).2⟩
  | rc a b c d iha ihb ihc ihd =>
    intro y
    cases y <;> simp [alk, cou]
    rename_i a' b' c' d'
    exact fun h1 h2 h3 h4 => ⟨⟨⟨⟨(iha a' h1).1, (ihb b' h2).1⟩, (ihc c' h3).1⟩, (ihd d' h4).1⟩, ⟨⟨(iha a' h1).2, (ihb b' h2).2⟩, (ihc c' h3).2⟩, (ihd d' h4).2⟩
  | _ => intro y; cases y <;> simp [alk, cou]
/-- by a type between -/
theorem mid_cou : ∀ s x y, (und x s = true → alk s y = true → cou x y = true) ∧ (alk x s = true → und s y = true → cou x y = true) := by
  intro s
  induction s with
  | fn e f ihe ihf =>
    intro x y
    cases x <;> simp [und, alk, cou] <;> cases y <;> simp [und, alk, cou]
    · rename_i a b c d
      refine ⟨fun h1 h2 h3 h4 => ⟨(ihe c a).2 (by rw [alk_comm]; exact h3) h1, (ihf b d).1 h2 h4⟩, fun h1 h2 h3 h4 => ⟨(ihe c a).1 h3 (by rw [alk_comm]; exact h1), (ihf b d).2 h2 h4⟩⟩
  | rc a b c d iha ihb ihc ihd =>
    intro x y
    cases x <;> simp [und, alk, cou] <;> cases y <;> simp [und, alk, cou]
    · rename_i a1 b1 c1 d1 a2 b2 c2 d2
      exact ⟨fun h1 h2 h3 h4 k1 k2 k3 k4 => ⟨⟨⟨(iha a1 a2).1 h1 k1, (ihb b1 b2).1 h2 k2⟩, (ihc c1 c2).1 h3 k3⟩, (ihd d1 d2).1 h4 k4⟩,
        fun h1 h2 h3 h4 k1 k2 k3 k4 => ⟨⟨⟨(iha a1 a2).2 h1 k1, (ihb b1 b2).2 h2 k2⟩, (ihc c1 c2).2 h3 k3⟩, (ihd d1 d2).2 h4 k4⟩⟩
  | _ => intro x y; cases x <;> simp [und, alk, cou] <;> cases y <;> simp [und, alk, cou]
end K75

namespace K75
open DV L2 PySem PySem.Spec PyProof.Rows
/-! data -/
theorem layL_app : ∀ xs ys : List D, PyData.canLayAll0 (toPyL (xs ++ ys)) = (PyData.canLayAll0 (toPyL xs) && PyData.canLayAll0 (toPyL ys))
  | [], ys => by simp [toPyL, PyData.canLayAll0]
  | x :: xs, ys => by simp [toPyL, PyData.canLayAll0, layL_app xs ys, Bool.and_assoc]
theorem depL_app : ∀ xs ys : List D, PyData.depthAll (toPyL (xs ++ ys)) = max (PyData.depthAll (toPyL xs)) (PyData.depthAll (toPyL ys))
  | [], ys => by simp [toPyL, PyData.depthAll]
  | x :: xs, ys => by simp [toPyL, PyData.depthAll, depL_app xs ys, Nat.max_assoc]
theorem enc_okN : ∀ x, okN (enc x) (3 * dep x + 3) := by
  have sr : PyData.strOk "record" = true := by decide +kernel
  have sf : PyData.strOk "fn" = true := by decide +kernel
  have sa : PyData.strOk "a" = true := by decide +kernel
  have sb : PyData.strOk "b" = true := by decide +kernel
  have sc : PyData.strOk "c" = true := by decide +kernel
  have sd : PyData.strOk "d" = true := by decide +kernel
  intro x
  induction x with
  | no => exact ⟨by decide +kernel, by decide +kernel⟩
  | any => exact ⟨by decide +kernel, by decide +kernel⟩
  | int => exact ⟨by decide +kernel, by decide +kernel⟩
  | bool => exact ⟨by decide +kernel, by decide +kernel⟩
  | fn a b iha ihb =>
    refine ⟨by simp [enc, toPy, toPyL, PyData.canLay0, PyData.canLayAll0, iha.1, ihb.1, sf], ?_⟩
    have := iha.2
    have := ihb.2
    simp only [enc, toPy, toPyL, PyData.depth, PyData.depthAll, dep]
    omega
  | rc a b c d iha ihb ihc ihd =>
    have one : ∀ (l : Str) (x : Wd), PyData.strOk l = true → okN (enc x) (3 * dep x + 3) → PyData.canLayAll0 (toPyL (if x = .no then [] else [.tup [.str l, enc x]])) = true ∧ PyData.depthAll (toPyL (if x = .no then [] else [.tup [.str l, enc x]])) ≤ 3 * dep x + 4 := fun l x hl hx => by
      split
      · exact ⟨rfl, Nat.zero_le _⟩
      · refine ⟨by simp [toPy, toPyL, PyData.canLay0, PyData.canLayAll0, hx.1, hl], ?_⟩
        have := hx.2
        simp only [toPy, toPyL, PyData.depth, PyData.depthAll]
        omega
    obtain ⟨a1, a2⟩ := one "a" a sa iha
    obtain ⟨b1, b2⟩ := one "b" b sb ihb
    obtain ⟨c1, c2⟩ := one "c" c sc ihc
    obtain ⟨d1, d2⟩ := one "d" d sd ihd
    unfold enc
    refine ⟨?_, ?_⟩
    · simp only [toPy, toPyL, PyData.canLay0, PyData.canLayAll0, layL_app, sr, a1, b1, c1, d1]; rfl
    · simp only [toPy, toPyL, PyData.depth, PyData.depthAll, depL_app, dep]
      omega
theorem enc_tup {x : Wd} (h : ok x) : ∃ xs, enc x = .tup xs := by cases x <;> first | exact h.elim | exact ⟨_, rfl⟩
theorem enc_py {x : Wd} (h : dep x ≤ 20) : okPy (enc x) = true := (enc_okN x).py (by omega)
theorem eqv_any {x : Wd} (h : ok x) : PyData.eqv (toPy (enc x)) (toPy (enc .any)) = decide (x = .any) := by
  cases x with
  | no => exact h.elim
  | any => decide +kernel
  | int => decide +kernel
  | bool => decide +kernel
  | fn a b => simp [enc, toPy, toPyL, PyData.eqv, PyData.eqvAll]
  | rc a b c d => simp [enc, toPy, toPyL, PyData.eqv, PyData.eqvAll]
theorem eq_any {x : Wd} (h : ok x) (hd : dep x ≤ 20) : eqD (enc x) (enc .any) = some (.bl (decide (x = .any))) := by
  have e : eqS (enc x) (enc .any) = none := by obtain ⟨xs, e⟩ := enc_tup h; rw [e]; rfl
  unfold eqD
  rw [e, eqP_ok (enc_py hd) (enc_py (Nat.zero_le _)), eqv_any h]; rfl
@[simp] theorem any_enc : c_ANY = enc .any := rfl
theorem lit_any : D.tup [.str "any"] = enc .any := rfl
theorem lit_int : D.tup [.str "int"] = enc .int := rfl
theorem lit_bool : D.tup [.str "bool"] = enc .bool := rfl
theorem lit_fn {a b : Wd} : D.tup [.str "fn", enc a, enc b] = enc (.fn a b) := rfl
def tag : Wd → Str
  | .any => "any"
  | .int => "int"
  | .bool => "bool"
  | .fn _ _ => "fn"
  | .rc _ _ _ _ => "record"
  | .no => ""
theorem ix0 {x : Wd} (h : ok x) : ixD (enc x) (.int 0) = some (.str (tag x)) := by cases x <;> first | exact h.elim | rfl
@[simp] theorem ix_any : ixD (enc .any) (.int 0) = some (.str "any") := rfl
@[simp] theorem ix_int : ixD (enc .int) (.int 0) = some (.str "int") := rfl
@[simp] theorem ix_bool : ixD (enc .bool) (.int 0) = some (.str "bool") := rfl
@[simp] theorem ix_fn {a b : Wd} : ixD (enc (.fn a b)) (.int 0) = some (.str "fn") := rfl
@[simp] theorem ix_fn1 {a b : Wd} : ixD (enc (.fn a b)) (.int 1) = some (enc a) := rfl
@[simp] theorem ix_fn2 {a b : Wd} : ixD (enc (.fn a b)) (.int 2) = some (enc b) := rfl
@[simp] theorem ix_rc {a b c d : Wd} : ixD (enc (.rc a b c d)) (.int 0) = some (.str "record") := rfl
@[simp] theorem ix_rc1 {a b c d : Wd} : ixD (enc (.rc a b c d)) (.int 1) = some (.tup ((fl a b c d).map it)) := by rw [enc_rc]; rfl
theorem dep_fn {a b : Wd} {n : Nat} (h : dep (.fn a b) < n + 1) : dep a < n ∧ dep b < n := by unfold dep at h; omega
/-! fields -/
theorem fields_ok (n : Nat) (a b c d : Wd) : G (n + 1) .f_fields [enc (.rc a b c d)] = some (dicT (tb (fl a b c d)), true, []) := by
  rw [G_succ]
  simp [bd, at_run, b_fields]
  rw [show (D.dic [] []) = dicT [] from rfl, dcomp_map (key := fun p => p.1) (f := fun p => enc p.2)]
  · simp
    rfl
  · intro p hp
    exact ⟨[.sh (enc (.rc a b c d)), .sh (.str p.1), .sh (enc p.2)], rfl, fun ds acc => by rw [dcompD_cons]; simp [it]⟩
  · exact fl_nodup
  · intro p m; cases m
  · have := fl_len (a := a) (b := b) (c := c) (d := d)
    simp [SZ] <;> omega
section
variable {ρ ρ1 : DV.Env}
@[simp] theorem kNm_T {i : Nat} {A : Tab} : kNm i ρ (some (.ow (dicT A))) = some (dicT A, ρ.set i (.sh (dicT A))) := rfl
@[simp] theorem kSh_T {A : Tab} : kSh (dicT A, true, ρ1) = some (dicT A, ρ1) := rfl
@[simp] theorem kSqB_T {A : Tab} : kSqB (dicT A, ρ1) = some (ksT A, ρ1) := rfl
@[simp] theorem kUp0_T {i} {g : FD} {A : Tab} : kUp0 i g ρ (some (.ow (dicT A))) = (g ρ).bind (kUp1 i) := rfl
@[simp] theorem kUp1_T {i} {A : Tab} : kUp1 i (dicT A, ρ1) = kUp2 i (ksT A) (vsT A) ρ1 ρ1[i]? := rfl
@[simp] theorem kUp2_T {i k2 v2} {A : Tab} : kUp2 i k2 v2 ρ (some (.ow (dicT A))) = if A.length + k2.length ≤ SZ then (mergeD (dicT A) k2 v2).map (kUp3 i ρ) else none := by
  show (if (ksT A).length + k2.length ≤ SZ then _ else _) = _
  rw [show (ksT A).length = A.length by simp [ksT]]; rfl
end
@[simp] theorem ksT_len {A : Tab} : (ksT A).length = A.length := by simp [ksT]
@[simp] theorem in_T {A : Tab} {l : Str} : inD (.str l) (dicT A) = some (.bl (A.lookup l).isSome) := by
  simp [inD, inB, inS, inK, dicT]
@[simp] theorem nin_T {A : Tab} {l : Str} : ninD (.str l) (dicT A) = some (.bl (!(A.lookup l).isSome)) := by
  simp [ninD, inB, inS, inK, dicT]
@[simp] theorem ix_T {A : Tab} {l : Str} : ixD (dicT A) (.str l) = A.lookup l := by simp [ixD, dicT]
theorem bls_map {α : Type} {b : α → Bool} (L : List α) : blsOf (L.map fun p => .bl (b p)) = some (L.map b) := by
  induction L with
  | nil => rfl
  | cons p L ih => rw [List.map_cons, blsOf, ih]; rfl
theorem all_map' {α : Type} {b : α → Bool} (L : List α) : (L.map b).all id = L.all b := by rw [List.all_map]; rfl
theorem look_mem {A : Tab} (hn : (A.map (·.1)).Nodup) {p : Str × D} (m : p ∈ A) : A.lookup p.1 = some p.2 := by
  induction A with
  | nil => cases m
  | cons q A ih =>
    obtain ⟨k, d⟩ := q
    have hn := List.nodup_cons.mp hn
    rw [look_cons]
    rcases List.mem_cons.mp m with rfl | m
    · simp
    · rw [if_neg (fun e => hn.1 (List.mem_map.mpr ⟨p, m, (show k = p.1 from e).symm⟩)), ih hn.2 m]
/-! record -/
theorem record_ok (n : Nat) {A : Tab} (hn : (A.map (·.1)).Nodup) (hs : (A.map (·.1)).Pairwise fun a b => leS a b = true) (hz : A.length < 64) : G (n + 1) .f_record [dicT A] = some (.tup [.str "record", .tup (itsT A)], false, []) := by
  rw [G_succ]
  have sz : A.length ≤ 100000 := by omega
  simp [bd, at_run, b_record, sort_T hs hz]
  rw [show (A.map ((fun x => D.str x) ∘ fun x => x.1)) = A.map (fun p => D.str p.1) from rfl, comp_map (f := fun p => .tup [.str p.1, p.2])]
  · simp [itsT, sz]
  · intro p hp ds
    rw [compD_cons]
    simp [look_mem hn hp]
theorem tb_keys (L : List (Str × Wd)) : (tb L).map (·.1) = L.map (·.1) := by
  unfold tb
  rw [List.map_map]; rfl
theorem tb_len (L : List (Str × Wd)) : (tb L).length = L.length := by simp [tb]
theorem record_fl (n : Nat) (a b c d : Wd) : G (n + 1) .f_record [dicT (tb (fl a b c d))] = some (enc (.rc a b c d), false, []) := by
  have l := fl_len (a := a) (b := b) (c := c) (d := d)
  rw [record_ok n (by rw [tb_keys]; exact fl_nodup) (by rw [tb_keys]; exact fl_sorted) (by rw [tb_len]; omega), its_tb, ← enc_rc]
@[simp] theorem fl_sz {a b c d : Wd} : (fl a b c d).length ≤ 100000 := Nat.le_trans fl_len (by omega)
/-! under -/
theorem fl_all {a b c d : Wd} {q : Str × Wd → Bool} : (fl a b c d).all q = ((decide (a = .no) || q ("a", a)) && ((decide (b = .no) || q ("b", b)) && ((decide (c = .no) || q ("c", c)) && (decide (d = .no) || q ("d", d))))) := by
  unfold fl
  by_cases ha : a = .no <;> by_cases hb : b = .no <;> by_cases hc : c = .no <;> by_cases hd : d = .no <;> simp [ha, hb, hc, hd]
/-- of a field and one that may be missing -/
def fb (u : Wd → Wd → Bool) (s t : Wd) : Bool := match ow s with
  | some s => u s t
  | none => false
theorem fb_und {s t : Wd} : (decide (t = .no) || fb und s t) = und s t := by
  unfold fb ow
  by_cases hs : s = .no
  · subst hs; cases t <;> simp [und]
  · by_cases ht : t = .no
    · subst ht; cases s <;> simp [und]
    · simp [hs, ht]
theorem fb_cou {s t : Wd} : (decide (t = .no) || fb cou s t) = cou s t := by
  unfold fb ow
  by_cases hs : s = .no
  · subst hs; cases t <;> simp [cou]
  · by_cases ht : t = .no
    · subst ht; cases s <;> simp [cou]
    · simp [hs, ht]
theorem gf_ok {a b c d : Wd} (h : ok (.rc a b c d)) {l : Str} {s : Wd} (e : ow (gf a b c d l) = some s) : ok s := by
  rw [← fl_lookup] at e
  have m : (l, s) ∈ fl a b c d := by
    have : ∀ L : List (Str × Wd), L.lookup l = some s → (l, s) ∈ L := fun L => by
      induction L with
      | nil => intro h; cases h
      | cons p L ih =>
        obtain ⟨k, x⟩ := p
        intro h
        rw [List.lookup_cons] at h
        by_cases hk : l = k
        · subst hk; simp at h; subst h; exact List.mem_cons_self
        · have : (l == k) = false := by simpa using hk
          rw [this] at h
          exact List.mem_cons_of_mem _ (ih h)
    exact this _ e
  exact fl_ok h m
theorem gf_dep {a b c d : Wd} {n : Nat} (h : dep (.rc a b c d) < n + 1) {l : Str} {s : Wd} (e : ow (gf a b c d l) = some s) : dep s < n := by
  unfold ow at e
  split at e
  · cases e
  · cases e
    unfold dep at h
    unfold gf
    split
    · omega
    · split
      · omega
      · split
        · omega
        · split
          · omega
          · simp [dep]; omega
theorem under_ok : ∀ (n : Nat) (x y : Wd), ok x → ok y → dep x < n → dep y < n → G n .f_under [enc x, enc y] = some (.bl (und x y), false, [])
  | 0, x, y, _, _, h, _ => absurd h (by omega)
  | n + 1, x, y, hx, hy, dx, dy => by
    have ih := under_ok n
    rw [G_succ]
    cases x <;> cases y
    case fn.fn a1 a2 b1 b2 =>
      have l := dep_fn dx; have r := dep_fn dy
      have e1 := ih b1 a1 hy.1 hx.1 r.1 l.1
      have e2 := ih a2 b2 hx.2 hy.2 l.2 r.2
      simp only [und]
      generalize und b1 a1 = u at e1 ⊢
      generalize und a2 b2 = v at e2 ⊢
      cases u <;> cases v <;> simp [bd, at_run, b_under, e1, e2]
    case rc.rc a b c d a' b' c' d' =>
      obtain ⟨m, rfl⟩ : ∃ m, n = m + 1 := ⟨n - 1, by unfold dep at dx; omega⟩
      have ef := fields_ok m a b c d
      simp [bd, at_run, b_under, ef, strOf_inj]
      rw [comp_map (f := fun p : Str × Wd => .bl (fb und (gf a b c d p.1) p.2))]
      · simp only [Option.bind_some]
        simp [bls_map, all_map', fl_all, fb_und, und, Bool.and_assoc]
      · intro p hp ds
        rw [compD_cons]
        have lk : (tb (fl a b c d)).lookup p.1 = (ow (gf a b c d p.1)).map enc := by rw [tb_lookup, fl_lookup]
        cases h : ow (gf a b c d p.1) with
        | none => simp [it, lk, h, fb]
        | some s =>
          have e := ih s p.2 (gf_ok hx h) (fl_ok hy hp) (gf_dep dx h) (fl_dep dy hp)
          simp [it, lk, h, fb, e]
    all_goals first | exact hx.elim | exact hy.elim | simp [bd, at_run, b_under, und, strOf_inj]
end K75

namespace K75
open DV L2 PySem PySem.Spec PyProof.Rows
theorem look_tb {a b c d : Wd} {l : Str} : (tb (fl a b c d)).lookup l = (ow (gf a b c d l)).map enc := by rw [tb_lookup, fl_lookup]
theorem dict_fl {a b c d : Wd} : dictD (.tup ((fl a b c d).map it)) = some (dicT (tb (fl a b c d))) := by
  rw [← its_tb, dict_T (by rw [tb_keys]; exact fl_nodup) (by rw [tb_len]; have := fl_len (a := a) (b := b) (c := c) (d := d); unfold SZ; omega)]
theorem alike_under_ok : ∀ (n e : Nat) (x y : Wd), ok x → ok y → dep x < e → dep y < e → e ≤ n → e ≤ 20 → G n .f_alike_under [enc x, enc y] = some (.bl (cou x y), false, [])
  | 0, e, x, y, _, _, h, _, _, _ => absurd h (by omega)
  | n + 1, 0, x, y, _, _, h, _, _, _ => absurd h (by omega)
  | n + 1, e + 1, x, y, hx, hy, dx, dy, hq, hn => by
    have ih := fun x y a b c d => alike_under_ok n e x y a b c d (by omega) (by omega)
    have q1 := eq_any hx (by omega)
    have q2 := eq_any hy (by omega)
    rw [G_succ]
    cases x <;> cases y
    case fn.fn a1 a2 b1 b2 =>
      have l := dep_fn dx; have r := dep_fn dy
      have e1 := ih b1 a1 hy.1 hx.1 r.1 l.1
      have e2 := ih a2 b2 hx.2 hy.2 l.2 r.2
      simp only [cou]
      generalize cou b1 a1 = u at e1 ⊢
      generalize cou a2 b2 = v at e2 ⊢
      cases u <;> cases v <;> simp [bd, at_run, b_alike_under, e1, e2, q1, q2, strOf_inj]
    case rc.rc a b c d a' b' c' d' =>
      obtain ⟨m, rfl⟩ : ∃ m, n = m + 1 := ⟨n - 1, by unfold dep at dx; omega⟩
      have ef := fields_ok m a b c d
      simp [bd, at_run, b_alike_under, ef, q1, q2, strOf_inj]
      rw [comp_map (f := fun p : Str × Wd => .bl (fb cou (gf a b c d p.1) p.2))]
      · simp only [Option.bind_some]
        simp [bls_map, all_map', fl_all, fb_cou, cou, Bool.and_assoc]
      · intro p hp ds
        rw [compD_cons]
        cases h : ow (gf a b c d p.1) with
        | none => simp [it, look_tb, h, fb]
        | some s =>
          have e := ih s p.2 (gf_ok hx h) (fl_ok hy hp) (gf_dep dx h) (fl_dep dy hp)
          simp [it, look_tb, h, fb, e]
    all_goals first | exact hx.elim | exact hy.elim | simp [bd, at_run, b_alike_under, cou, q1, q2, strOf_inj]
/-- what is kept of a row: nothing just if all are good -/
theorem keep_nil {α : Type} {b : α → Bool} {g : α → D} : ∀ L : List α, (((L.filterMap fun p => if b p = true then none else some (g p)).length : Nat) : Int) = 0 ↔ L.all b = true
  | [] => by simp
  | p :: L => by
    have ih := keep_nil (b := b) (g := g) L
    rw [List.filterMap_cons, List.all_cons]
    cases h : b p
    · simp; omega
    · simpa [h] using ih
theorem keep_len {α : Type} {b : α → Bool} {g : α → D} (L : List α) : (L.filterMap fun p => if b p = true then none else some (g p)).length ≤ L.length := List.length_filterMap_le _ _
theorem dec_keep {α : Type} {b : α → Bool} {g : α → D} (L : List α) : decide ((((L.filterMap fun p => if b p = true then none else some (g p)).length : Nat) : Int) = 0) = L.all b := by
  rw [Bool.eq_iff_iff, decide_eq_true_eq]
  exact keep_nil L
theorem law_under_ok : ∀ (n : Nat) (x y : Wd), ok x → ok y → dep x < n → dep y < n → G n .f__law_under [enc x, enc y] = some (.bl (und x y), false, [])
  | 0, x, y, _, _, h, _ => absurd h (by omega)
  | n + 1, x, y, hx, hy, dx, dy => by
    have ih := law_under_ok n
    rw [G_succ]
    cases x <;> cases y
    case fn.fn a1 a2 b1 b2 =>
      have l := dep_fn dx; have r := dep_fn dy
      have e1 := ih b1 a1 hy.1 hx.1 r.1 l.1
      have e2 := ih a2 b2 hx.2 hy.2 l.2 r.2
      simp only [und]
      generalize und b1 a1 = u at e1 ⊢
      generalize und a2 b2 = v at e2 ⊢
      cases u <;> cases v <;> simp [bd, at_run, b__law_under, e1, e2]
    case rc.rc a b c d a' b' c' d' =>
      simp [bd, at_run, b__law_under, dict_fl, strOf_inj]
      rw [comp_keep (f := fun p : Str × Wd => if fb und (gf a b c d p.1) p.2 = true then none else some (.str p.1))]
      · have z := Nat.le_trans (keep_len (b := fun p : Str × Wd => fb und (gf a b c d p.1) p.2) (g := fun p => .str p.1) (fl a' b' c' d')) fl_sz
        simp only [Option.bind_some]
        simp [z, dec_keep, fl_all, fb_und, und, Bool.and_assoc]
      · intro p hp ds
        rw [compD_cons]
        cases h : ow (gf a b c d p.1) with
        | none => simp [it, look_tb, h, fb]
        | some s =>
          have e := ih s p.2 (gf_ok hx h) (fl_ok hy hp) (gf_dep dx h) (fl_dep dy hp)
          cases hu : und s p.2 <;> simp [it, look_tb, h, fb, e, hu]
    all_goals first | exact hx.elim | exact hy.elim | simp [bd, at_run, b__law_under, und, strOf_inj]
end K75

namespace K75
open DV L2 PySem PySem.Spec PyProof.Rows
theorem in_any {x y : Wd} (hx : ok x) (hy : ok y) (dx : dep x ≤ 20) (dy : dep y ≤ 20) : inD (enc .any) (.lst [enc x, enc y]) = some (.bl (decide (x = .any) || decide (y = .any))) := by
  have o : okPy (.lst [enc x, enc y]) = true := by
    have a := enc_okN x
    have b := enc_okN y
    refine okN.py (n := 64) ⟨?_, ?_⟩ (by omega)
    · simp [toPy, toPyL, PyData.canLay0, PyData.canLayAll0, a.1, b.1]
    · have := a.2
      have := b.2
      simp only [toPy, toPyL, PyData.depth, PyData.depthAll]
      omega
  have oa : okPy (enc .any) = true := enc_py (Nat.zero_le _)
  have e1 := eqv_any hx
  have e2 := eqv_any hy
  obtain ⟨xs, ex⟩ := enc_tup hx
  have f : flatD (enc .any) = false := rfl
  have s : inS (enc .any) (.lst [enc x, enc y]) = none := rfl
  have k : inK (enc .any) (.lst [enc x, enc y]) = none := rfl
  simp [inD, inB, s, k, inF, inP, seqOf, f, o, oa, toPyL, e1, e2]
theorem law_could_ok : ∀ (n e : Nat) (x y : Wd), ok x → ok y → dep x < e → dep y < e → e ≤ n → e ≤ 20 → G n .f__law_could [enc x, enc y] = some (.bl (cou x y), false, [])
  | 0, e, x, y, _, _, h, _, _, _ => absurd h (by omega)
  | n + 1, 0, x, y, _, _, h, _, _, _ => absurd h (by omega)
  | n + 1, e + 1, x, y, hx, hy, dx, dy, hq, hn => by
    have ih := fun x y a b c d => law_could_ok n e x y a b c d (by omega) (by omega)
    have q := in_any hx hy (by omega) (by omega)
    rw [G_succ]
    cases x <;> cases y
    case fn.fn a1 a2 b1 b2 =>
      have l := dep_fn dx; have r := dep_fn dy
      have e1 := ih b1 a1 hy.1 hx.1 r.1 l.1
      have e2 := ih a2 b2 hx.2 hy.2 l.2 r.2
      simp only [cou]
      generalize cou b1 a1 = u at e1 ⊢
      generalize cou a2 b2 = v at e2 ⊢
      cases u <;> cases v <;> simp [bd, at_run, b__law_could, lit_any, q, e1, e2]
    case rc.rc a b c d a' b' c' d' =>
      simp [bd, at_run, b__law_could, lit_any, q, dict_fl, strOf_inj]
      rw [comp_keep (f := fun p : Str × Wd => if fb cou (gf a b c d p.1) p.2 = true then none else some (.str p.1))]
      · have z := Nat.le_trans (keep_len (b := fun p : Str × Wd => fb cou (gf a b c d p.1) p.2) (g := fun p => .str p.1) (fl a' b' c' d')) fl_sz
        simp only [Option.bind_some]
        simp [z, dec_keep, fl_all, fb_cou, cou, Bool.and_assoc]
      · intro p hp ds
        rw [compD_cons]
        cases h : ow (gf a b c d p.1) with
        | none => simp [it, look_tb, h, fb]
        | some s =>
          have e := ih s p.2 (gf_ok hx h) (fl_ok hy hp) (gf_dep dx h) (fl_dep dy hp)
          cases hu : cou s p.2 <;> simp [it, look_tb, h, fb, e, hu]
    all_goals first | exact hx.elim | exact hy.elim | simp [bd, at_run, b__law_could, lit_any, q, cou, strOf_inj]
/-! masked -/
theorem msk_no {x y : Wd} : msk x y = .no ↔ x = .no := by cases x <;> cases y <;> simp [msk]
theorem fl_msk {a b c d a' b' c' d' : Wd} : (fl a b c d).map (fun p => (p.1, msk p.2 (gf a' b' c' d' p.1))) = fl (msk a a') (msk b b') (msk c c') (msk d d') := by
  unfold fl
  simp only [msk_no]
  by_cases ha : a = .no <;> by_cases hb : b = .no <;> by_cases hc : c = .no <;> by_cases hd : d = .no <;> simp [ha, hb, hc, hd]
theorem msk_x_no {x : Wd} : msk x .no = x := by cases x <;> simp [msk]
theorem nin2 {x y z : Str} : ninD (.str x) (.tup [.str y, .str z]) = some (.bl (!(decide (y = x) || decide (z = x)))) := by
  simp [ninD, inB, inS, inK, inF, seqOf, flatD, eqFl]
  rfl
theorem nin2l {x y z : Str} : ninD (.str x) (.lst [.str y, .str z]) = some (.bl (!(decide (y = x) || decide (z = x)))) := by
  simp [ninD, inB, inS, inK, inF, seqOf, flatD, eqFl]
  rfl
end K75

namespace K75
open DV L2 PySem PySem.Spec PyProof.Rows
/-! rows of labels -/
def lb (p q r s : Bool) : List Str := (if p = true then [] else [("a" : Str)]) ++ ((if q = true then [] else [("b" : Str)]) ++ ((if r = true then [] else [("c" : Str)]) ++ (if s = true then [] else [("d" : Str)])))
theorem fl_lb {a b c d : Wd} : (fl a b c d).map (·.1) = lb (decide (a = .no)) (decide (b = .no)) (decide (c = .no)) (decide (d = .no)) := by
  unfold fl lb
  by_cases ha : a = .no <;> by_cases hb : b = .no <;> by_cases hc : c = .no <;> by_cases hd : d = .no <;> simp [ha, hb, hc, hd]
theorem lb_py : ∀ p q r s : Bool, okPy (.lst ((lb p q r s).map .str)) = true := by decide +kernel
theorem lb_eqv : ∀ p q r s p' q' r' s' : Bool, PyData.eqv (toPy (.lst ((lb p q r s).map .str))) (toPy (.lst ((lb p' q' r' s').map .str))) = (p == p' && (q == q' && (r == r' && s == s'))) := by decide +kernel
def sm (x y : Wd) : Bool := decide (x = .no) == decide (y = .no)
theorem eq_lbs {a b c d a' b' c' d' : Wd} : eqD (.lst (((fl a b c d).map (·.1)).map .str)) (.lst (((fl a' b' c' d').map (·.1)).map .str)) = some (.bl (sm a a' && (sm b b' && (sm c c' && sm d d')))) := by
  unfold eqD
  rw [fl_lb, fl_lb, eqP_ok (lb_py _ _ _ _) (lb_py _ _ _ _), lb_eqv]
  rfl
theorem ne_lbs {a b c d a' b' c' d' : Wd} : neD (.lst (((fl a b c d).map (·.1)).map .str)) (.lst (((fl a' b' c' d').map (·.1)).map .str)) = some (.bl (!(sm a a' && (sm b b' && (sm c c' && sm d d'))))) := by
  unfold neD
  rw [fl_lb, fl_lb, neP_ok (lb_py _ _ _ _) (lb_py _ _ _ _), lb_eqv]
  rfl
theorem alk_sm {x y : Wd} (h : alk x y = true) : sm x y = true := by
  unfold sm
  cases x <;> cases y <;> simp [alk] at h ⊢
/-- of a field and one of the other -/
def fr (u : Wd → Wd → Bool) (s t : Wd) : Bool := match ow t with
  | some t => u s t
  | none => false
theorem fr_alk {s t : Wd} (h : sm s t = true) : (decide (s = .no) || fr alk s t) = alk s t := by
  unfold fr ow
  unfold sm at h
  by_cases hs : s = .no
  · subst hs; cases t <;> simp [alk] at h ⊢
  · by_cases ht : t = .no
    · subst ht; simp [hs] at h
    · simp [hs, ht]
theorem sm_get {a b c d a' b' c' d' : Wd} (h1 : sm a a' = true) (h2 : sm b b' = true) (h3 : sm c c' = true) (h4 : sm d d' = true) {p : Str × Wd} (m : p ∈ fl a b c d) : ∃ t, ow (gf a' b' c' d' p.1) = some t := by
  obtain ⟨hn, e⟩ := fl_mem m
  unfold sm at h1 h2 h3 h4
  rcases e with rfl | rfl | rfl | rfl
  · have : a' ≠ .no := fun z => by simp only at hn; simp [z, hn] at h1
    exact ⟨a', by simp [ow, this]⟩
  · have : b' ≠ .no := fun z => by simp only at hn; simp [z, hn] at h2
    exact ⟨b', by simp [ow, this]⟩
  · have : c' ≠ .no := fun z => by simp only at hn; simp [z, hn] at h3
    exact ⟨c', by simp [ow, this]⟩
  · have : d' ≠ .no := fun z => by simp only at hn; simp [z, hn] at h4
    exact ⟨d', by simp [ow, this]⟩
theorem alk_rc {a b c d a' b' c' d' : Wd} : alk (.rc a b c d) (.rc a' b' c' d') = (alk a a' && (alk b b' && (alk c c' && alk d d'))) := by simp [alk, Bool.and_assoc]
theorem alk_rc_f {a b c d a' b' c' d' : Wd} (h : (sm a a' && (sm b b' && (sm c c' && sm d d'))) = false) : alk (.rc a b c d) (.rc a' b' c' d') = false := by
  rw [alk_rc]
  cases h1 : alk a a' <;> cases h2 : alk b b' <;> cases h3 : alk c c' <;> cases h4 : alk d d' <;> try rfl
  rw [alk_sm h1, alk_sm h2, alk_sm h3, alk_sm h4] at h
  cases h
theorem sort_fl {a b c d : Wd} : sortD (dicT (tb (fl a b c d))) = some (.lst (((fl a b c d).map (·.1)).map .str)) := by
  have := fl_len (a := a) (b := b) (c := c) (d := d)
  rw [sort_T (by rw [tb_keys]; exact fl_sorted) (by rw [tb_len]; omega), tb_keys]
theorem ks_tb (L : List (Str × Wd)) : ksT (tb L) = L.map fun p => D.str p.1 := by
  unfold ksT tb
  rw [List.map_map]; rfl
theorem look_own {a b c d : Wd} {p : Str × Wd} (m : p ∈ fl a b c d) : (tb (fl a b c d)).lookup p.1 = some (enc p.2) :=
  look_mem (A := tb (fl a b c d)) (by rw [tb_keys]; exact fl_nodup) (p := (p.1, enc p.2)) (List.mem_map.mpr ⟨p, m, rfl⟩)
/-! by places -/
def zb (u : Wd → Wd → Bool) (L M : List (Str × Wd)) (i : Nat) : Bool := match L[i]?, M[i]? with
  | some p, some q => u p.2 q.2
  | _, _ => true
theorem zb_all {a b c d a' b' c' d' : Wd} (h1 : sm a a' = true) (h2 : sm b b' = true) (h3 : sm c c' = true) (h4 : sm d d' = true) :
    (List.range (fl a b c d).length).all (zb alk (fl a b c d) (fl a' b' c' d')) = (alk a a' && (alk b b' && (alk c c' && alk d d'))) := by
  have k : ∀ {x y : Wd}, sm x y = true → (x = .no ∧ y = .no) ∨ (x ≠ .no ∧ y ≠ .no) := fun {x y} h => by
    unfold sm at h
    by_cases hx : x = .no <;> by_cases hy : y = .no <;> simp [hx, hy] at h ⊢
  rcases k h1 with ⟨rfl, rfl⟩ | ⟨a1, a2⟩ <;> rcases k h2 with ⟨rfl, rfl⟩ | ⟨b1, b2⟩ <;> rcases k h3 with ⟨rfl, rfl⟩ | ⟨c1, c2⟩ <;> rcases k h4 with ⟨rfl, rfl⟩ | ⟨d1, d2⟩ <;>
    simp_all [fl, zb, List.range_succ, alk, Bool.and_assoc]
theorem fl_len_eq {a b c d a' b' c' d' : Wd} (h1 : sm a a' = true) (h2 : sm b b' = true) (h3 : sm c c' = true) (h4 : sm d d' = true) : (fl a b c d).length = (fl a' b' c' d').length := by
  have e : (fl a b c d).map (·.1) = (fl a' b' c' d').map (·.1) := by
    rw [fl_lb, fl_lb]
    unfold sm at h1 h2 h3 h4
    simp only [beq_iff_eq] at h1 h2 h3 h4
    rw [h1, h2, h3, h4]
  simpa using congrArg List.length e
end K75

namespace K75
open DV L2 PySem PySem.Spec PyProof.Rows
theorem btw_no {k : Bool} {x y : Wd} (hx : x ≠ .no) (hy : y ≠ .no) : btw k x y ≠ .no := by
  cases k <;> cases x <;> cases y <;> simp [btw] at hx hy ⊢
theorem cou_no {x y : Wd} (h : cou x y = true) : y = .no ∨ (x ≠ .no ∧ y ≠ .no) := by
  cases x <;> cases y <;> simp [cou] at h ⊢
@[simp] theorem up_no {x : Wd} : btw true x .no = .no := by cases x <;> simp [btw]
@[simp] theorem dn_no {x : Wd} : btw false x .no = x := by cases x <;> simp [btw]
theorem fl_up {a b c d a' b' c' d' : Wd} (h1 : cou a a' = true) (h2 : cou b b' = true) (h3 : cou c c' = true) (h4 : cou d d' = true) :
    (fl a' b' c' d').map (fun p => (p.1, btw true (gf a b c d p.1) p.2)) = fl (btw true a a') (btw true b b') (btw true c c') (btw true d d') := by
  rcases cou_no h1 with rfl | ⟨a1, a2⟩ <;> rcases cou_no h2 with rfl | ⟨b1, b2⟩ <;> rcases cou_no h3 with rfl | ⟨c1, c2⟩ <;> rcases cou_no h4 with rfl | ⟨d1, d2⟩ <;> simp_all [fl, btw_no]
theorem cou_no3 {x y : Wd} (h : cou x y = true) : (x = .no ∧ y = .no) ∨ (x ≠ .no ∧ y = .no) ∨ (x ≠ .no ∧ y ≠ .no) := by
  rcases cou_no h with rfl | h
  · by_cases hx : x = .no
    · exact .inl ⟨hx, rfl⟩
    · exact .inr (.inl ⟨hx, rfl⟩)
  · exact .inr (.inr h)
theorem fl_dn {a b c d a' b' c' d' : Wd} (h1 : cou a a' = true) (h2 : cou b b' = true) (h3 : cou c c' = true) (h4 : cou d d' = true) :
    ((fl a' b' c' d').map (fun p => (p.1, enc (btw false (gf a b c d p.1) p.2)))).foldl (fun A q => updT A q.1 q.2) (tb (fl a b c d)) = tb (fl (btw false a a') (btw false b b') (btw false c c') (btw false d d')) := by
  rcases cou_no3 h1 with ⟨rfl, rfl⟩ | ⟨a1, rfl⟩ | ⟨a1, a2⟩ <;> rcases cou_no3 h2 with ⟨rfl, rfl⟩ | ⟨b1, rfl⟩ | ⟨b1, b2⟩ <;> rcases cou_no3 h3 with ⟨rfl, rfl⟩ | ⟨c1, rfl⟩ | ⟨c1, c2⟩ <;> rcases cou_no3 h4 with ⟨rfl, rfl⟩ | ⟨d1, rfl⟩ | ⟨d1, d2⟩ <;>
    simp [fl, btw_no, tb, updT, ab, ac, ad, bc, bd', cd, ba, ca, da, cb, db, dc, *]
theorem cou_rc {a b c d a' b' c' d' : Wd} (h : cou (.rc a b c d) (.rc a' b' c' d') = true) : cou a a' = true ∧ cou b b' = true ∧ cou c c' = true ∧ cou d d' = true := by
  simpa [cou, and_assoc] using h
theorem cou_get {a b c d a' b' c' d' : Wd} (h : cou (.rc a b c d) (.rc a' b' c' d') = true) {p : Str × Wd} (m : p ∈ fl a' b' c' d') : ∃ s, ow (gf a b c d p.1) = some s ∧ gf a b c d p.1 = s ∧ cou s p.2 = true := by
  obtain ⟨h1, h2, h3, h4⟩ := cou_rc h
  obtain ⟨hn, e⟩ := fl_mem m
  rcases e with rfl | rfl | rfl | rfl
  · rcases cou_no h1 with z | ⟨z, _⟩
    · exact absurd z hn
    · exact ⟨a, by simp [ow, z], by simp, h1⟩
  · rcases cou_no h2 with z | ⟨z, _⟩
    · exact absurd z hn
    · exact ⟨b, by simp [ow, z], by simp, h2⟩
  · rcases cou_no h3 with z | ⟨z, _⟩
    · exact absurd z hn
    · exact ⟨c, by simp [ow, z], by simp, h3⟩
  · rcases cou_no h4 with z | ⟨z, _⟩
    · exact absurd z hn
    · exact ⟨d, by simp [ow, z], by simp, h4⟩
theorem tb_get (L : List (Str × Wd)) (f : Str × Wd → Wd) : L.map (fun p => (p.1, enc (f p))) = tb (L.map fun p => (p.1, f p)) := by
  unfold tb
  rw [List.map_map]; rfl
theorem between_ok : ∀ (n e : Nat) (x y : Wd), ok x → ok y → dep x < e → dep y < e → e ≤ n → e ≤ 20 → cou x y = true →
    G n .f_between_up [enc x, enc y] = some (enc (btw true x y), false, []) ∧ G n .f_between_down [enc x, enc y] = some (enc (btw false x y), false, [])
  | 0, e, x, y, _, _, h, _, _, _, _ => absurd h (by omega)
  | n + 1, 0, x, y, _, _, h, _, _, _, _ => absurd h (by omega)
  | n + 1, e + 1, x, y, hx, hy, dx, dy, hq, hn, hc => by
    have ih := fun x y a b c d => between_ok n e x y a b c d (by omega) (by omega)
    have q1 := eq_any hx (by omega)
    have q2 := eq_any hy (by omega)
    rw [G_succ, G_succ]
    cases x <;> cases y
    case fn.fn a1 a2 b1 b2 =>
      have l := dep_fn dx; have r := dep_fn dy
      have hc' : cou b1 a1 = true ∧ cou a2 b2 = true := by simpa [cou] using hc
      obtain ⟨e1, e2⟩ := ih b1 a1 hy.1 hx.1 r.1 l.1 hc'.1
      obtain ⟨e3, e4⟩ := ih a2 b2 hx.2 hy.2 l.2 r.2 hc'.2
      constructor
      · simp [bd, at_run, b_between_up, e1, e2, e3, e4, q1, q2, btw, lit_fn, strOf_inj]
      · simp [bd, at_run, b_between_down, e1, e2, e3, e4, q1, q2, btw, lit_fn, strOf_inj]
    case rc.rc a b c d a' b' c' d' =>
      obtain ⟨m, rfl⟩ : ∃ m, n = m + 1 := ⟨n - 1, by unfold dep at dx; omega⟩
      have ef := fields_ok m a b c d
      obtain ⟨h1, h2, h3, h4⟩ := cou_rc hc
      have l4 := fl_len (a := a) (b := b) (c := c) (d := d)
      have l4' := fl_len (a := a') (b := b') (c := c') (d := d')
      have st : ∀ p ∈ fl a' b' c' d', ∃ s, ow (gf a b c d p.1) = some s ∧ gf a b c d p.1 = s ∧ (tb (fl a b c d)).lookup p.1 = some (enc s) ∧ G (m + 1) .f_between_up [enc s, enc p.2] = some (enc (btw true s p.2), false, []) ∧ G (m + 1) .f_between_down [enc s, enc p.2] = some (enc (btw false s p.2), false, []) := fun p hp => by
        obtain ⟨s, k1, k2, k3⟩ := cou_get hc hp
        obtain ⟨e1, e2⟩ := ih s p.2 (gf_ok hx k1) (fl_ok hy hp) (gf_dep dx k1) (fl_dep dy hp) k3
        exact ⟨s, k1, k2, by rw [look_tb, k1]; rfl, e1, e2⟩
      constructor
      · simp [bd, at_run, b_between_up, ef, q1, q2, strOf_inj]
        rw [show (D.dic [] []) = dicT [] from rfl, dcomp_map (key := fun p : Str × Wd => p.1) (f := fun p => enc (btw true (gf a b c d p.1) p.2))]
        · have er := record_fl m (btw true a a') (btw true b b') (btw true c c') (btw true d d')
          rw [← fl_up h1 h2 h3 h4, ← tb_get] at er
          simp [er, fl_up h1 h2 h3 h4, btw]
        · intro p hp
          obtain ⟨s, k1, k2, k3, k4, k5⟩ := st p hp
          refine ⟨[.sh (enc (.rc a b c d)), .sh (enc (.rc a' b' c' d')), .ow (dicT (tb (fl a b c d))), .sh (.str p.1), .sh (enc p.2)], rfl, fun ds acc => ?_⟩
          rw [dcompD_cons]
          simp [it, k2, k3, k4]
        · exact fl_nodup
        · intro p m; cases m
        · simp [SZ] <;> omega
      · simp [bd, at_run, b_between_down, ef, q1, q2, strOf_inj]
        rw [show (D.dic [] []) = dicT [] from rfl, dcomp_map (key := fun p : Str × Wd => p.1) (f := fun p => enc (btw false (gf a b c d p.1) p.2))]
        · have er := record_fl m (btw false a a') (btw false b b') (btw false c c') (btw false d d')
          have mo := merge_old (A := tb (fl a b c d)) (B := (fl a' b' c' d').map fun p => (p.1, enc (btw false (gf a b c d p.1) p.2))) (fun q hq => by
            obtain ⟨p, hp, rfl⟩ := List.mem_map.mp hq
            obtain ⟨s, k1, k2, k3, k4, k5⟩ := st p hp
            rw [k3]; rfl) (by rw [tb_len]; unfold SZ; omega)
          rw [fl_dn h1 h2 h3 h4] at mo
          have z : (fl a b c d).length + (fl a' b' c' d').length ≤ 100000 := by omega
          simp [mo, z, tb_len, er, btw]
        · intro p hp
          obtain ⟨s, k1, k2, k3, k4, k5⟩ := st p hp
          refine ⟨[.sh (enc (.rc a b c d)), .sh (enc (.rc a' b' c' d')), .ow (dicT (tb (fl a b c d))), .sh (.str p.1), .sh (enc p.2)], rfl, fun ds acc => ?_⟩
          rw [dcompD_cons]
          simp [it, k2, k3, k5]
        · exact fl_nodup
        · intro p m; cases m
        · simp [SZ] <;> omega
    all_goals first | exact hx.elim | exact hy.elim | (simp [cou] at hc; done) | (constructor; (simp [bd, at_run, b_between_up, q1, q2, btw, strOf_inj]); (simp [bd, at_run, b_between_down, q1, q2, btw, strOf_inj]))
end K75

namespace K75
open DV L2 PySem PySem.Spec PyProof.Rows
theorem draw1 {n : Nat} {s : Dr} (h : s.ok) {lim : Int} (h0 : 0 < lim) (h1 : lim < 1073741824) : ∃ (v : Int) (s' : Dr), s'.ok ∧ 0 ≤ v ∧ v < lim ∧ G (n + 1) .f__law_draw [s.d, .int lim] = some (.int v, false, [s'.d]) := draw_ok s h h0 h1
theorem compD_app {vs : List Nat} {h : FG} {tt : FT} {te : FD} : ∀ {A B ys zs : List D} {ρ ρ1 ρ2 : DV.Env}, compD vs h tt te A ρ = some (ys, ρ1) → compD vs h tt te B ρ1 = some (zs, ρ2) → compD vs h tt te (A ++ B) ρ = some (ys ++ zs, ρ2)
  | [], B, ys, zs, ρ, ρ1, ρ2, e1, e2 => by
    simp at e1
    obtain ⟨rfl, rfl⟩ := e1
    simpa using e2
  | d :: A, B, ys, zs, ρ, ρ1, ρ2, e1, e2 => by
    rw [List.cons_append, compD_cons]
    rw [compD_cons] at e1
    obtain ⟨r1, f1, e1⟩ := Option.bind_eq_some_iff.mp e1
    rw [f1]
    simp only [Option.bind_some, kCo1_at] at e1 ⊢
    obtain ⟨⟨b, r2⟩, f2, e1⟩ := Option.bind_eq_some_iff.mp e1
    rw [f2]
    cases b with
    | false =>
      simp only [Option.bind_some, kCo2_f] at e1 ⊢
      exact compD_app e1 e2
    | true =>
      simp only [Option.bind_some, kCo2_t] at e1 ⊢
      obtain ⟨⟨y, r3⟩, f3, e1⟩ := Option.bind_eq_some_iff.mp e1
      rw [f3]
      simp only [Option.bind_some, kCo3_at] at e1 ⊢
      obtain ⟨⟨ys', r4⟩, f4, e1⟩ := Option.map_eq_some_iff.mp e1
      have e1' : (y :: ys', r4) = (ys, ρ1) := e1
      cases e1'
      rw [compD_app f4 e2]
      rfl
/-- a field that may be missing, its depth -/
def okf (D : Nat) (x : Wd) : Prop := x = .no ∨ (ok x ∧ dep x < D)
def one (l : Str) (x : Wd) : List DV.D := if x = .no then [] else [it (l, x)]
theorem fl_one {a b c d : Wd} : (fl a b c d).map it = one "a" a ++ (one "b" b ++ (one "c" c ++ one "d" d)) := by
  unfold fl one
  by_cases ha : a = .no <;> by_cases hb : b = .no <;> by_cases hc : c = .no <;> by_cases hd : d = .no <;> simp [ha, hb, hc, hd]
theorem ok_ne {x : Wd} (h : ok x) : x ≠ .no := fun e => by rw [e] at h; exact h
theorem rc_ok {a b c d : Wd} {D : Nat} (h1 : okf D a) (h2 : okf D b) (h3 : okf D c) (h4 : okf D d) (hD : 0 < D) : ok (.rc a b c d) ∧ dep (.rc a b c d) < D + 1 := by
  refine ⟨⟨h1.imp_right (·.1), h2.imp_right (·.1), h3.imp_right (·.1), h4.imp_right (·.1)⟩, ?_⟩
  have k : ∀ {x}, okf D x → dep x < D := fun {x} h => by
    rcases h with rfl | h
    · exact hD
    · exact h.2
  have := k h1; have := k h2; have := k h3; have := k h4
  unfold dep
  omega
theorem wide_ok : ∀ (n : Nat) (k : Nat) (s : Dr), s.ok → 1 ≤ k → k + 1 ≤ n → ∃ (t : Wd) (s' : Dr), s'.ok ∧ ok t ∧ dep t < k ∧ G n .f__law_wide [s.d, .int k] = some (enc t, false, [s'.d])
  | 0, k, s, _, _, h => absurd h (by omega)
  | 1, k, s, _, h1, h => absurd h (by omega)
  | n + 2, k, s, hs, h1, hk => by
    have ih := wide_ok (n + 1)
    have pick : ∀ (v : Int), 0 ≤ v → v < 3 → v = 0 ∨ v = 1 ∨ v = 2 := by omega
    by_cases hd : 1 < k
    · obtain ⟨v, s1, o1, v0, v6, e⟩ := draw1 (n := n) hs (lim := 7) (by omega) (by omega)
      have hd' : (1 : Int) < k := by omega
      have ek : (k : Int) - 1 = ((k - 1 : Nat) : Int) := by omega
      by_cases h3 : v < 3
      · rcases pick v v0 h3 with rfl | rfl | rfl
        · exact ⟨.int, s1, o1, trivial, by simp [dep]; omega, by rw [G_succ]; simp [bd, at_run, b__law_wide, e, hd', lit_int]⟩
        · exact ⟨.bool, s1, o1, trivial, by simp [dep]; omega, by rw [G_succ]; simp [bd, at_run, b__law_wide, e, hd', lit_bool]⟩
        · exact ⟨.any, s1, o1, trivial, by simp [dep]; omega, by rw [G_succ]; simp [bd, at_run, b__law_wide, e, hd', lit_any]⟩
      · by_cases h33 : v = 3
        · obtain ⟨a, s2, o2, ka, da, e2⟩ := ih (k - 1) s1 o1 (by omega) (by omega)
          obtain ⟨b, s3, o3, kb, db, e3⟩ := ih (k - 1) s2 o2 (by omega) (by omega)
          refine ⟨.fn a b, s3, o3, ⟨ka, kb⟩, by simp only [dep]; omega, ?_⟩
          subst h33
          rw [G_succ]
          simp [bd, at_run, b__law_wide, e, hd', ek, e2, e3, lit_fn]
        · obtain ⟨v1, t1, u1, w1, w2, f1⟩ := draw1 (n := n) o1 (lim := 2) (by omega) (by omega)
          obtain ⟨v2, t2, u2, w3, w4, f2⟩ := draw1 (n := n) u1 (lim := 2) (by omega) (by omega)
          obtain ⟨v3, t3, u3, w5, w6, f3⟩ := draw1 (n := n) u2 (lim := 2) (by omega) (by omega)
          have st : ∀ (l : Str) (b : Bool) (z : D) (s : Dr), s.ok → ∃ (x : Wd) (s' : Dr), s'.ok ∧ okf (k - 1) x ∧
              compD [4] (hNm 4) tYesD (gTup (gCons (gNm 4) (gCons (shW (gCallD [true, false] (G (n + 1) .f__law_wide) [] (gBo 0 (gVa (gOp2 subI (oNm 1) (oD (fun ρ => some (.int 1, ρ)))) (fun ρ => some ([], ρ)))))) (fun ρ => some ([], ρ))))) (if b = true then [.str l] else []) [.bo 0 s.d, .sh (.int k), .sh (.int v), .sh z, .no] =
                some (one l x, [.bo 0 s'.d, .sh (.int k), .sh (.int v), .sh z, .no]) := fun l b z s hs => by
            cases b with
            | false => exact ⟨.no, s, hs, .inl rfl, by simp [one]⟩
            | true =>
              obtain ⟨x, s', o', kx, dx, ex⟩ := ih (k - 1) s hs (by omega) (by omega)
              refine ⟨x, s', o', .inr ⟨kx, dx⟩, ?_⟩
              simp [compD_cons, ek, ex, one, ok_ne kx, it]
          let z : D := .lst ((if decide (v1 = 0) = true then [D.str "a"] else []) ++ ((if decide (v2 = 0) = true then [D.str "b"] else []) ++ (if decide (v3 = 0) = true then [D.str "c"] else [])))
          obtain ⟨a, s4, o4, ka, ea⟩ := st "a" (decide (v1 = 0)) z t3 u3
          obtain ⟨b, s5, o5, kb, eb⟩ := st "b" (decide (v2 = 0)) z s4 o4
          obtain ⟨c, s6, o6, kc, ec⟩ := st "c" (decide (v3 = 0)) z s5 o5
          have ee := compD_app ea (compD_app eb ec)
          have hz : one "d" .no = [] := rfl
          have ef := fl_one (a := a) (b := b) (c := c) (d := .no)
          rw [hz, List.append_nil] at ef
          rw [← ef] at ee
          obtain ⟨k1, k2⟩ := rc_ok (d := .no) ka kb kc (.inl rfl) (by omega : 0 < k - 1)
          refine ⟨.rc a b c .no, s6, o6, k1, by omega, ?_⟩
          have er := enc_rc (a := a) (b := b) (c := c) (d := .no)
          rw [G_succ, er]
          by_cases g1 : v1 = 0 <;> by_cases g2 : v2 = 0 <;> by_cases g3 : v3 = 0 <;>
            simp [z, g1, g2, g3] at ee f1 f2 f3 ⊢ <;>
            simp [bd, at_run, b__law_wide, e, hd', h3, h33, f1, f2, f3, compD_cons, g1, g2, g3, ee]
    · obtain ⟨v, s1, o1, v0, v3, e⟩ := draw1 (n := n) hs (lim := 3) (by omega) (by omega)
      have hd' : ¬ (1 : Int) < k := by omega
      rcases pick v v0 v3 with rfl | rfl | rfl
      · exact ⟨.int, s1, o1, trivial, by simp [dep]; omega, by rw [G_succ]; simp [bd, at_run, b__law_wide, e, hd', lit_int]⟩
      · exact ⟨.bool, s1, o1, trivial, by simp [dep]; omega, by rw [G_succ]; simp [bd, at_run, b__law_wide, e, hd', lit_bool]⟩
      · exact ⟨.any, s1, o1, trivial, by simp [dep]; omega, by rw [G_succ]; simp [bd, at_run, b__law_wide, e, hd', lit_any]⟩
end K75

namespace K75
open DV L2 PySem PySem.Spec PyProof.Rows
theorem nin_d {a b c d : Wd} : ninD (.str "d") (.lst ((fl a b c d).map fun p => D.str p.1)) = some (.bl (decide (d = .no))) := by
  have e : ∀ L : List Str, ninD (.str "d") (.lst (L.map .str)) = some (.bl (!(L.any fun z => decide (z = "d")))) := fun L => by
    have h1 : (L.map D.str).all flatD = true := by
      rw [List.all_map, List.all_eq_true]; intro x _; rfl
    simp only [ninD, inB, inS, inK, inF, seqOf, flatD, h1]
    simp
    rw [show ((fun z => eqFl z (D.str "d")) ∘ D.str) = fun z : Str => decide (z = "d") from by funext z; simp [eqFl]; rfl]
  have := e ((fl a b c d).map (·.1))
  rw [List.map_map] at this
  rw [show (D.str ∘ fun x : Str × Wd => x.1) = fun p => D.str p.1 from rfl] at this
  rw [this]
  unfold fl
  by_cases ha : a = .no <;> by_cases hb : b = .no <;> by_cases hc : c = .no <;> by_cases hd : d = .no <;> simp [ha, hb, hc, hd, ad, bd', cd]
theorem fl_add {a b c : Wd} : (fl a b c .no).map it ++ [.tup [.str "d", enc .int]] = (fl a b c .int).map it := by
  unfold fl
  by_cases ha : a = .no <;> by_cases hb : b = .no <;> by_cases hc : c = .no <;> simp [ha, hb, hc, it]
theorem fl_z (a b c d : Wd) : (fl a b c d).length < 100000 := by have := fl_len (a := a) (b := b) (c := c) (d := d); omega
theorem mixed_ok : ∀ (n : Nat) (x : Wd) (s : Dr), s.ok → ok x → dep x + 5 ≤ n → ∃ (t : Wd) (s' : Dr), s'.ok ∧ ok t ∧ dep t ≤ dep x + 1 ∧ G n .f__law_mixed [s.d, enc x] = some (enc t, false, [s'.d])
  | 0, x, s, _, _, h => absurd h (by omega)
  | 1, x, s, _, _, h => absurd h (by omega)
  | n + 2, x, s, hs, hx, hn => by
    have ih := mixed_ok (n + 1)
    obtain ⟨v, s1, o1, v0, v6, e⟩ := draw1 (n := n) hs (lim := 6) (by omega) (by omega)
    by_cases h0 : v = 0
    · subst h0
      exact ⟨.any, s1, o1, trivial, by simp [dep], by rw [G_succ]; simp [bd, at_run, b__law_mixed, e, lit_any]⟩
    by_cases h1 : v = 1
    · subst h1
      obtain ⟨t, s2, o2, kt, dt, e2⟩ := wide_ok (n + 1) 2 s1 o1 (by omega) (by omega)
      exact ⟨t, s2, o2, kt, by omega, by rw [G_succ]; simp at e2; simp [bd, at_run, b__law_mixed, e, e2]⟩
    cases x with
    | no => exact hx.elim
    | any => exact ⟨.any, s1, o1, trivial, by simp [dep], by rw [G_succ]; simp [bd, at_run, b__law_mixed, e, h0, h1, strOf_inj]⟩
    | int => exact ⟨.int, s1, o1, trivial, by simp [dep], by rw [G_succ]; simp [bd, at_run, b__law_mixed, e, h0, h1, strOf_inj]⟩
    | bool => exact ⟨.bool, s1, o1, trivial, by simp [dep], by rw [G_succ]; simp [bd, at_run, b__law_mixed, e, h0, h1, strOf_inj]⟩
    | fn a b =>
      simp only [dep] at hn
      obtain ⟨a', s2, o2, ka, da, e2⟩ := ih a s1 o1 hx.1 (by omega)
      obtain ⟨b', s3, o3, kb, db, e3⟩ := ih b s2 o2 hx.2 (by omega)
      refine ⟨.fn a' b', s3, o3, ⟨ka, kb⟩, by simp only [dep]; omega, ?_⟩
      rw [G_succ]
      simp [bd, at_run, b__law_mixed, e, h0, h1, e2, e3, lit_fn]
    | rc a b c d =>
      simp only [dep] at hn
      obtain ⟨xa, xb, xc, xd⟩ := hx
      let M := max (max (dep a) (dep b)) (max (dep c) (dep d))
      have st : ∀ (l : Str) (x : Wd) (s : Dr), s.ok → (x = .no ∨ ok x) → dep x ≤ M → ∃ (x' : Wd) (s' : Dr), s'.ok ∧ okf (M + 2) x' ∧
          compD [4, 5] (hTup 2 (hCons (hNm 4) (hCons (hNm 5) hNil))) (gT (gOp2 gtI (oD (shW (gCallD [true, false] (G (n + 1) .f__law_draw) [] (gBo 0 (gVa (fun ρ => some (.int 4, ρ)) (fun ρ => some ([], ρ))))))) (oD (fun ρ => some (.int 0, ρ)))))
            (gTup (gCons (gNm 4) (gCons (shW (gCallD [true, false] (G (n + 1) .f__law_mixed) [] (gBo 0 (gVa (gNm 5) (fun ρ => some ([], ρ)))))) (fun ρ => some ([], ρ))))) (one l x) [.bo 0 s.d, .sh (enc (.rc a b c d)), .sh (.int v), .no, .no, .no] =
            some (one l x', [.bo 0 s'.d, .sh (enc (.rc a b c d)), .sh (.int v), .no, .no, .no]) := fun l x s hs hx hd => by
        by_cases hn0 : x = .no
        · subst hn0
          exact ⟨.no, s, hs, .inl rfl, by simp [one]⟩
        · have kx := hx.resolve_left hn0
          obtain ⟨w, s2, o2, w0, w4, f⟩ := draw1 (n := n) hs (lim := 4) (by omega) (by omega)
          by_cases hw : 0 < w
          · obtain ⟨x', s3, o3, kx', dx', f2⟩ := ih x s2 o2 kx (by omega)
            refine ⟨x', s3, o3, .inr ⟨kx', by omega⟩, ?_⟩
            simp [one, hn0, ok_ne kx', compD_cons, it, f, hw, f2]
          · refine ⟨.no, s2, o2, .inl rfl, ?_⟩
            simp [one, hn0, compD_cons, it, f, hw]
      obtain ⟨a', s2, o2, ka, ea⟩ := st "a" a s1 o1 xa (by omega)
      obtain ⟨b', s3, o3, kb, eb⟩ := st "b" b s2 o2 xb (by omega)
      obtain ⟨c', s4, o4, kc, ec⟩ := st "c" c s3 o3 xc (by omega)
      obtain ⟨d', s5, o5, kd, ed⟩ := st "d" d s4 o4 xd (by omega)
      have ee := compD_app ea (compD_app eb (compD_app ec ed))
      rw [← fl_one, ← fl_one] at ee
      have lz := fl_z a' b' c' d'
      have lz' := fl_sz (a := a') (b := b') (c := c') (d := d')
      have cm : ∀ {ρ : DV.Env} (L : List (Str × Wd)) (hρ : ρ = [.bo 0 s5.d, .sh (enc (.rc a b c d)), .sh (.int v), .sh (.lst ((fl a' b' c' d').map it)), .no, .no]), compD [4, 5] (hTup 2 (hCons (hNm 4) (hCons (hNm 5) hNil))) tYesD (gNm 4) (L.map it) ρ = some (L.map fun p => D.str p.1, ρ) := fun L hρ => by
        subst hρ
        exact comp_map fun p _ ds => by rw [compD_cons]; simp [it]
      by_cases hd : d' = .no
      · subst hd
        obtain ⟨w, s6, o6, w0, w4, f⟩ := draw1 (n := n) o5 (lim := 4) (by omega) (by omega)
        by_cases hw : w = 0
        · subst hw
          obtain ⟨k1, k2⟩ := rc_ok (d := .int) ka kb kc (.inr ⟨trivial, by simp [dep]⟩) (by omega : 0 < M + 2)
          refine ⟨.rc a' b' c' .int, s6, o6, k1, by simp only [dep]; simp only [dep] at k2; omega, ?_⟩
          have fa := fl_add (a := a') (b := b') (c := c')
          have fz : (fl a' b' c' .no).length + 1 ≤ 100000 := by omega
          rw [G_succ, enc_rc (a := a') (b := b') (c := c')]
          simp [bd, at_run, b__law_mixed, e, h0, h1, strOf_inj, ee, cm, nin_d, f, lit_int, fa, fz]
        · obtain ⟨k1, k2⟩ := rc_ok ka kb kc kd (by omega : 0 < M + 2)
          refine ⟨.rc a' b' c' .no, s6, o6, k1, by simp only [dep]; simp only [dep] at k2; omega, ?_⟩
          rw [G_succ, enc_rc (a := a') (b := b') (c := c')]
          simp [bd, at_run, b__law_mixed, e, h0, h1, strOf_inj, ee, cm, nin_d, f, hw]
      · obtain ⟨k1, k2⟩ := rc_ok ka kb kc kd (by omega : 0 < M + 2)
        refine ⟨.rc a' b' c' d', s5, o5, k1, by simp only [dep]; simp only [dep] at k2; omega, ?_⟩
        rw [G_succ, enc_rc (a := a') (b := b') (c := c')]
        simp [bd, at_run, b__law_mixed, e, h0, h1, strOf_inj, ee, cm, nin_d, hd]
end K75

namespace K75
open DV L2 PySem PySem.Spec PyProof.Rows
def on (x : Wd) : Prop := x = .no ∨ ok x
theorem msk_on : ∀ x y, on x → on (msk x y) := by
  intro x
  induction x with
  | no => intro y _; cases y <;> simp [msk, on]
  | any => intro y _; cases y <;> simp [msk, on, ok]
  | int => intro y _; cases y <;> simp [msk, on, ok]
  | bool => intro y _; cases y <;> simp [msk, on, ok]
  | fn a b iha ihb =>
    intro y h
    have h := h.resolve_left (by simp)
    have hf : ∀ c d, on (.fn (msk a c) (msk b d)) := fun c d => .inr ⟨(iha c (.inr h.1)).resolve_left (fun z => ok_ne h.1 (msk_no.mp z)), (ihb d (.inr h.2)).resolve_left (fun z => ok_ne h.2 (msk_no.mp z))⟩
    cases y <;> simp only [msk] <;> first | exact .inr h | exact .inr trivial | exact hf _ _
  | rc a b c d iha ihb ihc ihd =>
    intro y h
    have h := h.resolve_left (by simp)
    cases y <;> simp only [msk] <;> first | exact .inr h | exact .inr trivial | exact .inr ⟨iha _ h.1, ihb _ h.2.1, ihc _ h.2.2.1, ihd _ h.2.2.2⟩
theorem msk_ok {x y : Wd} (h : ok x) : ok (msk x y) := (msk_on x y (.inr h)).resolve_left fun z => ok_ne h (msk_no.mp z)
theorem msk_dep : ∀ x y, dep (msk x y) ≤ dep x := by
  intro x
  induction x with
  | fn a b iha ihb =>
    intro y
    cases y <;> simp only [msk] <;> first | exact Nat.le_refl _ | exact Nat.zero_le _ | (rename_i c d; have := iha c; have := ihb d; simp only [dep]; omega)
  | rc a b c d iha ihb ihc ihd =>
    intro y
    cases y <;> simp only [msk] <;> first | exact Nat.le_refl _ | exact Nat.zero_le _ | (rename_i a' b' c' d'; have := iha a'; have := ihb b'; have := ihc c'; have := ihd d'; simp only [dep]; omega)
  | _ => intro y; cases y <;> simp [msk, dep]
theorem btw_on : ∀ x y, on x → on y → ∀ k, on (btw k x y) ∧ on (btw k y x) := by
  intro x
  induction x with
  | no => intro y hx hy k; cases k <;> cases y <;> simp [btw] <;> first | exact ⟨hx, hy⟩ | exact ⟨hy, hx⟩ | exact hx | exact hy | exact .inl rfl
  | any => intro y hx hy k; cases k <;> cases y <;> simp [btw] <;> first | exact ⟨hx, hy⟩ | exact ⟨hy, hx⟩ | exact hx | exact hy | exact .inl rfl | exact ⟨.inl rfl, hx⟩ | exact ⟨hx, .inl rfl⟩
  | int => intro y hx hy k; cases k <;> cases y <;> simp [btw] <;> first | exact ⟨hx, hy⟩ | exact ⟨hy, hx⟩ | exact hx | exact hy | exact .inl rfl | exact ⟨.inl rfl, hx⟩ | exact ⟨hx, .inl rfl⟩
  | bool => intro y hx hy k; cases k <;> cases y <;> simp [btw] <;> first | exact ⟨hx, hy⟩ | exact ⟨hy, hx⟩ | exact hx | exact hy | exact .inl rfl | exact ⟨.inl rfl, hx⟩ | exact ⟨hx, .inl rfl⟩
  | fn a b iha ihb =>
    intro y hx hy k
    have h := hx.resolve_left (by simp)
    cases y
    case fn c d =>
      have h' := hy.resolve_left (by simp)
      have n1 : ∀ k, ok (btw k c a) := fun k => ((iha c (.inr h.1) (.inr h'.1) k).2).resolve_left (btw_no (ok_ne h'.1) (ok_ne h.1))
      have n2 : ∀ k, ok (btw k a c) := fun k => ((iha c (.inr h.1) (.inr h'.1) k).1).resolve_left (btw_no (ok_ne h.1) (ok_ne h'.1))
      have n3 : ∀ k, ok (btw k b d) := fun k => ((ihb d (.inr h.2) (.inr h'.2) k).1).resolve_left (btw_no (ok_ne h.2) (ok_ne h'.2))
      have n4 : ∀ k, ok (btw k d b) := fun k => ((ihb d (.inr h.2) (.inr h'.2) k).2).resolve_left (btw_no (ok_ne h'.2) (ok_ne h.2))
      cases k <;> simp only [btw] <;> exact ⟨.inr ⟨n1 _, n3 _⟩, .inr ⟨n2 _, n4 _⟩⟩
    all_goals cases k <;> simp only [btw] <;> first | exact ⟨hx, hy⟩ | exact ⟨hy, hx⟩ | exact ⟨hx, hx⟩ | exact ⟨hy, hy⟩ | exact ⟨.inl rfl, hx⟩ | exact ⟨hx, .inl rfl⟩
  | rc a b c d iha ihb ihc ihd =>
    intro y hx hy k
    have h := hx.resolve_left (by simp)
    cases y
    case rc a' b' c' d' =>
      have h' := hy.resolve_left (by simp)
      have p1 := iha a' h.1 h'.1 k
      have p2 := ihb b' h.2.1 h'.2.1 k
      have p3 := ihc c' h.2.2.1 h'.2.2.1 k
      have p4 := ihd d' h.2.2.2 h'.2.2.2 k
      cases k <;> simp only [btw] <;> exact ⟨.inr ⟨p1.1, p2.1, p3.1, p4.1⟩, .inr ⟨p1.2, p2.2, p3.2, p4.2⟩⟩
    all_goals cases k <;> simp only [btw] <;> first | exact ⟨hx, hy⟩ | exact ⟨hy, hx⟩ | exact ⟨hx, hx⟩ | exact ⟨hy, hy⟩ | exact ⟨.inl rfl, hx⟩ | exact ⟨hx, .inl rfl⟩
theorem btw_ok' {k : Bool} {x y : Wd} (hx : ok x) (hy : ok y) : ok (btw k x y) := ((btw_on x y (.inr hx) (.inr hy) k).1).resolve_left (btw_no (ok_ne hx) (ok_ne hy))
theorem rc_le {a b c d : Wd} {D : Nat} : dep (.rc a b c d) ≤ D + 1 ↔ dep a ≤ D ∧ dep b ≤ D ∧ dep c ≤ D ∧ dep d ≤ D := by
  simp only [dep, Nat.add_le_add_iff_right, Nat.max_le, and_assoc]
theorem fn_le {a b : Wd} {D : Nat} : dep (.fn a b) ≤ D + 1 ↔ dep a ≤ D ∧ dep b ≤ D := by
  simp only [dep, Nat.add_le_add_iff_right, Nat.max_le]
theorem btw_dep : ∀ x y (D : Nat), dep x ≤ D → dep y ≤ D → ∀ k, dep (btw k x y) ≤ D ∧ dep (btw k y x) ≤ D := by
  intro x
  induction x with
  | fn a b iha ihb =>
    intro y D hx hy k
    cases y
    case fn c d =>
      obtain ⟨D, rfl⟩ : ∃ D', D = D' + 1 := ⟨D - 1, by simp only [dep] at hx; omega⟩
      obtain ⟨x1, x2⟩ := fn_le.mp hx
      obtain ⟨y1, y2⟩ := fn_le.mp hy
      have p1 := iha c D x1 y1 (!k)
      have p2 := ihb d D x2 y2 k
      cases k <;> simp only [btw, fn_le] <;> exact ⟨⟨p1.2, p2.1⟩, p1.1, p2.2⟩
    all_goals cases k <;> simp only [btw] <;> first | exact ⟨hx, hy⟩ | exact ⟨hy, hx⟩ | exact ⟨hx, hx⟩ | exact ⟨hy, hy⟩ | exact ⟨Nat.zero_le _, hx⟩ | exact ⟨hx, Nat.zero_le _⟩
  | rc a b c d iha ihb ihc ihd =>
    intro y D hx hy k
    cases y
    case rc a' b' c' d' =>
      obtain ⟨D, rfl⟩ : ∃ D', D = D' + 1 := ⟨D - 1, by simp only [dep] at hx; omega⟩
      obtain ⟨x1, x2, x3, x4⟩ := rc_le.mp hx
      obtain ⟨y1, y2, y3, y4⟩ := rc_le.mp hy
      have p1 := iha a' D x1 y1 k
      have p2 := ihb b' D x2 y2 k
      have p3 := ihc c' D x3 y3 k
      have p4 := ihd d' D x4 y4 k
      cases k <;> simp only [btw, rc_le] <;> exact ⟨⟨p1.1, p2.1, p3.1, p4.1⟩, p1.2, p2.2, p3.2, p4.2⟩
    all_goals cases k <;> simp only [btw] <;> first | exact ⟨hx, hy⟩ | exact ⟨hy, hx⟩ | exact ⟨hx, hx⟩ | exact ⟨hy, hy⟩ | exact ⟨Nat.zero_le _, hx⟩ | exact ⟨hx, Nat.zero_le _⟩
  | _ => intro y D hx hy k; cases k <;> cases y <;> simp only [btw] <;> first | exact ⟨hx, hy⟩ | exact ⟨hy, hx⟩ | exact ⟨hx, hx⟩ | exact ⟨hy, hy⟩ | exact ⟨Nat.zero_le _, hx⟩ | exact ⟨hx, Nat.zero_le _⟩ | exact ⟨Nat.zero_le _, Nat.zero_le _⟩
theorem plnL_app : ∀ {xs ys : List D} {n : Nat}, plnL xs n → plnL ys n → plnL (xs ++ ys) n
  | [], ys, n, _, h => h
  | x :: xs, ys, n, h, h' => by
    unfold plnL at h
    rw [List.cons_append]
    unfold plnL
    exact ⟨h.1, plnL_app h.2 h'⟩
theorem pln_enc : ∀ (x : Wd) (n : Nat), 3 * dep x + 3 ≤ n → pln (enc x) n := by
  have str : ∀ (s : Str) (n : Nat), pln (.str s) n := fun s n => by cases n <;> simp [pln]
  intro x
  induction x with
  | no => intro n h; cases n <;> simp [enc, pln]
  | any => intro n h; obtain ⟨m, rfl⟩ : ∃ m, n = m + 1 := ⟨n - 1, by omega⟩; simp [enc, pln, plnL, str]
  | int => intro n h; obtain ⟨m, rfl⟩ : ∃ m, n = m + 1 := ⟨n - 1, by omega⟩; simp [enc, pln, plnL, str]
  | bool => intro n h; obtain ⟨m, rfl⟩ : ∃ m, n = m + 1 := ⟨n - 1, by omega⟩; simp [enc, pln, plnL, str]
  | fn a b iha ihb =>
    intro n h
    obtain ⟨m, rfl⟩ : ∃ m, n = m + 1 := ⟨n - 1, by omega⟩
    simp only [dep] at h
    simp [enc, pln, plnL, str, iha m (by omega), ihb m (by omega)]
  | rc a b c d iha ihb ihc ihd =>
    intro n h
    obtain ⟨m, rfl⟩ : ∃ m, n = m + 3 := ⟨n - 3, by omega⟩
    simp only [dep] at h
    have one : ∀ (l : Str) (x : Wd), pln (enc x) m → plnL (if x = .no then [] else [.tup [.str l, enc x]]) (m + 1) := fun l x hx => by
      split
      · unfold plnL; trivial
      · simp [pln, plnL, str, hx]
    have len : ∀ (l : Str) (x : Wd), (if x = .no then [] else [D.tup [.str l, enc x]]).length ≤ 1 := fun l x => by split <;> simp
    have l1 := len "a" a
    have l2 := len "b" b
    have l3 := len "c" c
    have l4 := len "d" d
    unfold enc
    refine ⟨by simp, ?_⟩
    unfold plnL
    refine ⟨str _ _, ?_⟩
    unfold plnL
    refine ⟨⟨by simp only [List.length_append]; omega, ?_⟩, by unfold plnL; trivial⟩
    exact plnL_app (one "a" a (iha m (by omega))) (plnL_app (one "b" b (ihb m (by omega))) (plnL_app (one "c" c (ihc m (by omega))) (one "d" d (ihd m (by omega)))))
theorem same_r {n : Nat} {x : D} (h : pln x n) : G (n + 1) .f__law_same [x, x] = some (.bl true, false, []) := same_ok (S := fun n => G n .f__law_same) (fun _ _ => rfl) n x h
theorem isn_bl {a b : Bool} : isnD (.bl a) (.bl b) = some (.bl (!(a == b))) := rfl
end K75

/-! k75: values, casts; plain -/
namespace K75
open DV L2 PySem PySem.Spec PyProof.Rows
/-- values; a record's fields a, b, c, d, `no` where there is none -/
inductive Va where
  | no | int (i : Int) | bool (b : Bool) | name | wrap (v : Va) (k d : Wd) | tag (k : Wd) (v : Va) | rc (a b c d : Va)
deriving DecidableEq
def has : Va → Wd → Bool
  | .no, .no => true
  | .int _, .int => true
  | .bool _, .bool => true
  | .name, .fn _ _ => true
  | .wrap _ _ _, .fn _ _ => true
  | .tag k v, .any => decide (k ≠ .any) && has v k
  | .rc a b c d, .rc a' b' c' d' => has a a' && (has b b' && (has c c' && has d d'))
  | _, _ => false
/-- could be, by outer forms and labels -/
def cbl : Wd → Wd → Bool
  | _, .no => true
  | .no, _ => false
  | .any, _ => true
  | _, .any => true
  | .int, .int => true
  | .bool, .bool => true
  | .fn _ _, .fn _ _ => true
  | .rc a b c d, .rc a' b' c' d' => cbl a a' && (cbl b b' && (cbl c c' && cbl d d'))
  | _, _ => false
def castO (v : Va) (k d : Wd) (r : Option Va) : Option Va := if d = .no then some .no else if k = d then some v else if d = .any then some (.tag k v) else r
def castR (v : Va) (k d : Wd) : Option Va := match k with
  | .fn _ _ => some (.wrap v k d)
  | _ => some v
def cast : Va → Wd → Wd → Option Va
  | .tag k' x, k, d => castO (.tag k' x) k d (match k with
      | .any => if cbl k' d = true then cast x k' d else none
      | _ => castR (.tag k' x) k d)
  | .rc a b c e, k, d => castO (.rc a b c e) k d (match k, d with
      | .rc ka kb kc ke, .rc da db dc de => (cast a ka da).bind fun a' => (cast b kb db).bind fun b' => (cast c kc dc).bind fun c' => (cast e ke de).map fun e' => .rc a' b' c' e'
      | _, _ => castR (.rc a b c e) k d)
  | v, k, d => castO v k d (castR v k d)
def few : Va → Wd → Va
  | _, .no => .no
  | .rc a b c e, .rc a' b' c' e' => .rc (few a a') (few b b') (few c c') (few e e')
  | v, _ => v
def pure : Wd → Bool
  | .any => false
  | .fn _ _ => false
  | .rc a b c d => pure a && (pure b && (pure c && pure d))
  | _ => true
/-- what is seen of both is the same -/
def same : Va → Va → Bool
  | .no, .no => true
  | .int i, .int j => i == j
  | .bool i, .bool j => i == j
  | .name, .name => true
  | .name, .wrap _ _ _ => true
  | .wrap _ _ _, .name => true
  | .wrap _ _ _, .wrap _ _ _ => true
  | .tag _ x, y => same x y
  | x, .tag _ y => same x y
  | .rc a b c d, .rc a' b' c' d' => same a a' && (same b b' && (same c c' && same d d'))
  | _, _ => false
termination_by x y => sizeOf x + sizeOf y
@[simp] theorem cast_no {v : Va} {k : Wd} : cast v k .no = some .no := by cases v <;> simp [cast, castO]
theorem cast_self {v : Va} {k : Wd} (h : k ≠ .no) : cast v k k = some v := by cases v <;> simp [cast, castO, h]
theorem cast_any {v : Va} {k : Wd} (h : k ≠ .any) : cast v k .any = some (.tag k v) := by cases v <;> simp [cast, castO, h]
theorem cast_tag {k' : Wd} {x : Va} {d : Wd} (h : d ≠ .any) (h2 : d ≠ .no) : cast (.tag k' x) .any d = if cbl k' d = true then cast x k' d else none := by simp [cast, castO, h, h2, Ne.symm h]
theorem cast_fn {v : Va} {a b c d : Wd} (h : has v (.fn a b) = true) : cast v (.fn a b) (.fn c d) = if Wd.fn a b = .fn c d then some v else some (.wrap v (.fn a b) (.fn c d)) := by
  cases v <;> simp [has] at h <;> simp [cast, castO, castR]
theorem has_no {v : Va} : has v .no = true ↔ v = .no := by cases v <;> simp [has]
theorem has_no' {k : Wd} : has .no k = true ↔ k = .no := by cases k <;> simp [has]
theorem cast_self' {v : Va} {k : Wd} (h : has v k = true) : cast v k k = some v := by
  by_cases hk : k = .no
  · subst hk; rw [has_no.mp h, cast_no]
  · exact cast_self hk
theorem cast_rc {a b c e : Va} {ka kb kc ke da db dc de : Wd} (h : has (.rc a b c e) (.rc ka kb kc ke) = true) :
    cast (.rc a b c e) (.rc ka kb kc ke) (.rc da db dc de) = (cast a ka da).bind fun a' => (cast b kb db).bind fun b' => (cast c kc dc).bind fun c' => (cast e ke de).map fun e' => .rc a' b' c' e' := by
  simp only [cast, castO]
  by_cases q : Wd.rc ka kb kc ke = .rc da db dc de
  · simp only [has, Bool.and_eq_true] at h
    obtain ⟨h1, h2, h3, h4⟩ := h
    injection q with q1 q2 q3 q4
    subst q1 q2 q3 q4
    simp [cast_self' h1, cast_self' h2, cast_self' h3, cast_self' h4]
  · simp [q]
theorem cbl_refl : ∀ k, cbl k k = true := by
  intro k
  induction k with
  | rc a b c d iha ihb ihc ihd => simp [cbl, iha, ihb, ihc, ihd]
  | _ => simp [cbl]
theorem cou_cbl : ∀ k d, cou k d = true → cbl k d = true := by
  intro k
  induction k with
  | rc a b c e iha ihb ihc ihe =>
    intro d
    cases d <;> simp [cou, cbl]
    exact fun h1 h2 h3 h4 => ⟨iha _ h1, ihb _ h2, ihc _ h3, ihe _ h4⟩
  | _ => intro d; cases d <;> simp [cou, cbl]
theorem und_cbl {k d : Wd} (h : und k d = true) : cbl k d = true := cou_cbl _ _ ((und_cou k d).1 h)
theorem has_cast : ∀ (v : Va) (k d : Wd) (v' : Va), has v k = true → cbl k d = true → cast v k d = some v' → has v' d = true := by
  intro v
  induction v with
  | tag k' x ih =>
    intro k d v' h hc e
    cases k <;> simp [has] at h
    by_cases h1 : d = .no
    · subst h1; simp at e; subst e; rfl
    by_cases h2 : d = .any
    · subst h2; rw [cast_self (by simp)] at e; cases e; simp [has, h]
    rw [cast_tag h2 h1] at e
    split at e
    · rename_i hb
      exact ih k' d v' h.2 hb e
    · cases e
  | rc a b c e iha ihb ihc ihe =>
    intro k d v' h hc ec
    cases k <;> simp only [has] at h <;> try (cases h; done)
    rename_i ka kb kc ke
    cases d <;> simp only [cbl] at hc <;> try (cases hc; done)
    · simp at ec; subst ec; rfl
    · rw [cast_any (by simp)] at ec; cases ec; simp [has]; simpa [has] using h
    · rename_i da db dc de
      have h' := h
      rw [cast_rc (by simpa only [has] using h)] at ec
      simp only [Bool.and_eq_true] at h hc
      obtain ⟨a', ea, ec⟩ := Option.bind_eq_some_iff.mp ec
      obtain ⟨b', eb, ec⟩ := Option.bind_eq_some_iff.mp ec
      obtain ⟨c', ecc, ec⟩ := Option.bind_eq_some_iff.mp ec
      obtain ⟨e', ee, ec⟩ := Option.map_eq_some_iff.mp ec
      subst ec
      simp only [has, Bool.and_eq_true]
      exact ⟨iha _ _ _ h.1 hc.1 ea, ihb _ _ _ h.2.1 hc.2.1 eb, ihc _ _ _ h.2.2.1 hc.2.2.1 ecc, ihe _ _ _ h.2.2.2 hc.2.2.2 ee⟩
  | _ =>
    intro k d v' h hc e
    cases k <;> simp [has] at h <;> cases d <;> simp [cbl] at hc <;> simp [cast, castO, castR] at e <;> (try split at e) <;> (try (simp at e)) <;> subst e <;> simp [has]
theorem und_cast : ∀ (v : Va) (k d : Wd), has v k = true → und k d = true → (cast v k d).isSome = true := by
  intro v
  induction v with
  | tag k' x ih =>
    intro k d h hu
    cases k <;> simp [has] at h
    cases d <;> simp [und] at hu
    · simp
    · rw [cast_self (by simp)]; rfl
  | rc a b c e iha ihb ihc ihe =>
    intro k d h hu
    cases k <;> simp only [has] at h <;> try (cases h; done)
    cases d <;> simp only [und] at hu <;> try (cases hu; done)
    · simp
    · rw [cast_rc (by simpa only [has] using h)]
      simp only [Bool.and_eq_true] at h hu
      obtain ⟨a', ea⟩ := Option.isSome_iff_exists.mp (iha _ _ h.1 hu.1.1.1)
      obtain ⟨b', eb⟩ := Option.isSome_iff_exists.mp (ihb _ _ h.2.1 hu.1.1.2)
      obtain ⟨c', ec⟩ := Option.isSome_iff_exists.mp (ihc _ _ h.2.2.1 hu.1.2)
      obtain ⟨e', ee⟩ := Option.isSome_iff_exists.mp (ihe _ _ h.2.2.2 hu.2)
      simp [ea, eb, ec, ee]
  | _ =>
    intro k d h hu
    cases k <;> simp [has] at h <;> cases d <;> simp [und] at hu <;> simp [cast, castO, castR] <;> (try split) <;> rfl
end K75

/-! k75: what is seen; by the type between; fewer fields -/
namespace K75
open DV L2 PySem PySem.Spec PyProof.Rows
def ofl (l : Str) (p : Bool) (d : D) : List D := if p = true then [] else [.tup [.str l, d]]
def shR (a b c e : Va) (da db dc de : D) : D := .tup [.str "record", .tup (ofl "a" (decide (a = .no)) da ++ (ofl "b" (decide (b = .no)) db ++ (ofl "c" (decide (c = .no)) dc ++ ofl "d" (decide (e = .no)) de)))]
def sh : Va → D
  | .no => .non
  | .int i => .tup [.str "int", .int i]
  | .bool b => .tup [.str "bool", .bl b]
  | .name => .tup [.str "fn"]
  | .wrap _ _ _ => .tup [.str "fn"]
  | .tag _ v => sh v
  | .rc a b c e => shR a b c e (sh a) (sh b) (sh c) (sh e)
def eqs (x y : Va) : Prop := (x = .no ↔ y = .no) ∧ sh x = sh y
theorem eqs_rfl {x : Va} : eqs x x := ⟨Iff.rfl, rfl⟩
def agr : Option Va → Option Va → Prop
  | none, none => True
  | some x, some y => eqs x y
  | _, _ => False
theorem agr_rfl {p : Option Va} : agr p p := by cases p <;> simp [agr, eqs_rfl]
def rcO (p q r s : Option Va) : Option Va := p.bind fun a => q.bind fun b => r.bind fun c => s.map fun e => .rc a b c e
theorem agr_rc {p1 p2 p3 p4 q1 q2 q3 q4 : Option Va} (h1 : agr p1 q1) (h2 : agr p2 q2) (h3 : agr p3 q3) (h4 : agr p4 q4) : agr (rcO p1 p2 p3 p4) (rcO q1 q2 q3 q4) := by
  cases p1 <;> cases q1 <;> simp only [agr] at h1 <;> try (simp only [rcO, Option.bind_none, agr]; done)
  cases p2 <;> cases q2 <;> simp only [agr] at h2 <;> try (simp only [rcO, Option.bind_none, Option.bind_some, agr]; done)
  cases p3 <;> cases q3 <;> simp only [agr] at h3 <;> try (simp only [rcO, Option.bind_none, Option.bind_some, agr]; done)
  cases p4 <;> cases q4 <;> simp only [agr] at h4 <;> try (simp only [rcO, Option.bind_none, Option.bind_some, Option.map_none, agr]; done)
  simp only [rcO, Option.bind_some, Option.map_some, agr]
  refine ⟨by simp, ?_⟩
  have k : ∀ {x y : Va}, (x = .no ↔ y = .no) → decide (x = .no) = decide (y = .no) := fun {x y} h => by by_cases q : x = .no <;> simp [h.mp, q] <;> simpa [h] using q
  simp only [sh, shR]
  rw [h1.2, h2.2, h3.2, h4.2, k h1.1, k h2.1, k h3.1, k h4.1]
theorem sh_fn {v : Va} {a b : Wd} (h : has v (.fn a b) = true) : sh v = .tup [.str "fn"] ∧ v ≠ .no := by
  cases v <;> simp [has] at h <;> exact ⟨rfl, by simp⟩
theorem eqs_fn {v w : Va} {a b c d : Wd} (h : has v (.fn a b) = true) (h' : has w (.fn c d) = true) : eqs v w := by
  obtain ⟨h1, h2⟩ := sh_fn h
  obtain ⟨h3, h4⟩ := sh_fn h'
  exact ⟨⟨fun z => absurd z h2, fun z => absurd z h4⟩, by rw [h1, h3]⟩
theorem up_any {d : Wd} (h : d ≠ .no) : btw true .any d = .any := by cases d <;> simp [btw] at h ⊢
theorem up_to_any {k : Wd} (h : k ≠ .no) : btw true k .any = k := by cases k <;> simp [btw] at h ⊢
theorem mid_easy (v : Va) (k d : Wd) (h : has v k = true) (hc : cou k d = true) (hs : d = .no ∨ k = .any ∨ d = .any) : ∃ f, cast v k (btw true k d) = some f ∧ agr (cast v k d) (cast f (btw true k d) d) := by
  by_cases hd : d = .no
  · subst hd; exact ⟨.no, by simp, by simp [agr, eqs_rfl]⟩
  have hk : k ≠ .no := fun z => by subst z; cases d <;> simp [cou] at hc hd
  by_cases ha : k = .any
  · subst ha
    rw [up_any hd]
    exact ⟨v, cast_self (by simp), agr_rfl⟩
  rcases hs with z | z | z
  · exact absurd z hd
  · exact absurd z ha
  · subst z
    rw [up_to_any hk]
    exact ⟨v, cast_self hk, agr_rfl⟩
theorem mid_fn (v : Va) (a b c d : Wd) (h : has v (.fn a b) = true) (hc : cou (.fn a b) (.fn c d) = true) : ∃ f, cast v (.fn a b) (btw true (.fn a b) (.fn c d)) = some f ∧ agr (cast v (.fn a b) (.fn c d)) (cast f (btw true (.fn a b) (.fn c d)) (.fn c d)) := by
  have e : btw true (.fn a b) (.fn c d) = .fn (btw false c a) (btw true b d) := by simp [btw]
  obtain ⟨u1, u2, _, _⟩ := (btw_ok (.fn a b) (.fn c d)).1 hc
  rw [e] at u1 u2 ⊢
  obtain ⟨f, hf⟩ := Option.isSome_iff_exists.mp (und_cast v _ _ h u1)
  have kf := has_cast _ _ _ _ h (und_cbl u1) hf
  have c1 : cbl (Wd.fn a b) (.fn c d) = true := by simp [cbl]
  have c2 : cbl (Wd.fn (btw false c a) (btw true b d)) (.fn c d) = true := by simp [cbl]
  obtain ⟨x, hx⟩ : ∃ x, cast v (.fn a b) (.fn c d) = some x := by rw [cast_fn h]; split <;> exact ⟨_, rfl⟩
  obtain ⟨y, hy⟩ : ∃ y, cast f (.fn (btw false c a) (btw true b d)) (.fn c d) = some y := by rw [cast_fn kf]; split <;> exact ⟨_, rfl⟩
  refine ⟨f, hf, ?_⟩
  rw [hx, hy]
  exact eqs_fn (has_cast _ _ _ _ h c1 hx) (has_cast _ _ _ _ kf c2 hy)
/-- by the type between, from above -/
theorem mid_cast : ∀ (v : Va) (k d : Wd), has v k = true → cou k d = true → ∃ f, cast v k (btw true k d) = some f ∧ agr (cast v k d) (cast f (btw true k d) d) := by
  intro v
  induction v with
  | rc a b c e iha ihb ihc ihe =>
    intro k d h hc
    cases k <;> simp only [has] at h <;> try (cases h; done)
    rename_i ka kb kc ke
    have h0 : has (.rc a b c e) (.rc ka kb kc ke) = true := by simpa only [has] using h
    cases d <;> try (first | exact mid_easy _ _ _ h0 hc (.inl rfl) | exact mid_easy _ _ _ h0 hc (.inr (.inr rfl)) | (simp [cou] at hc; done))
    rename_i da db dc de
    have hc' := hc
    simp only [cou, Bool.and_eq_true, and_assoc] at hc'
    simp only [Bool.and_eq_true] at h
    obtain ⟨fa, ea, ga⟩ := iha _ _ h.1 hc'.1
    obtain ⟨fb, eb, gb⟩ := ihb _ _ h.2.1 hc'.2.1
    obtain ⟨fc, ec, gc⟩ := ihc _ _ h.2.2.1 hc'.2.2.1
    obtain ⟨fe, ee, ge⟩ := ihe _ _ h.2.2.2 hc'.2.2.2
    have eb0 : btw true (.rc ka kb kc ke) (.rc da db dc de) = .rc (btw true ka da) (btw true kb db) (btw true kc dc) (btw true ke de) := by simp [btw]
    obtain ⟨u1, u2, _, _⟩ := (btw_ok (.rc ka kb kc ke) (.rc da db dc de)).1 hc
    rw [eb0] at u1 u2 ⊢
    have hf : cast (.rc a b c e) (.rc ka kb kc ke) (.rc (btw true ka da) (btw true kb db) (btw true kc dc) (btw true ke de)) = some (.rc fa fb fc fe) := by
      rw [cast_rc h0, ea, eb, ec, ee]; rfl
    refine ⟨_, hf, ?_⟩
    rw [cast_rc h0, cast_rc (has_cast _ _ _ _ h0 (und_cbl u1) hf)]
    exact agr_rc ga gb gc ge
  | int i =>
    intro k d h hc
    cases k <;> simp [has] at h
    cases d <;> first | exact mid_easy _ _ _ rfl hc (.inl rfl) | exact mid_easy _ _ _ rfl hc (.inr (.inr rfl)) | (simp [cou] at hc; done) | exact ⟨.int i, by simp [btw, cast, castO], by simp [btw, cast, castO, agr, eqs_rfl]⟩
  | bool i =>
    intro k d h hc
    cases k <;> simp [has] at h
    cases d <;> first | exact mid_easy _ _ _ rfl hc (.inl rfl) | exact mid_easy _ _ _ rfl hc (.inr (.inr rfl)) | (simp [cou] at hc; done) | exact ⟨.bool i, by simp [btw, cast, castO], by simp [btw, cast, castO, agr, eqs_rfl]⟩
  | no =>
    intro k d h hc
    rw [has_no'] at h
    subst h
    cases d <;> first | exact mid_easy _ _ _ rfl hc (.inl rfl) | exact mid_easy _ _ _ rfl hc (.inr (.inr rfl)) | (simp [cou] at hc; done)
  | tag k' x ih =>
    intro k d h hc
    cases k <;> simp [has] at h
    exact mid_easy _ _ _ (by simp [has, h]) hc (.inr (.inl rfl))
  | name =>
    intro k d h hc
    cases k <;> simp [has] at h
    cases d <;> first | exact mid_easy _ _ _ rfl hc (.inl rfl) | exact mid_easy _ _ _ rfl hc (.inr (.inr rfl)) | (simp [cou] at hc; done) | exact mid_fn _ _ _ _ _ rfl hc
  | wrap x k1 d1 ih =>
    intro k d h hc
    cases k <;> simp [has] at h
    cases d <;> first | exact mid_easy _ _ _ rfl hc (.inl rfl) | exact mid_easy _ _ _ rfl hc (.inr (.inr rfl)) | (simp [cou] at hc; done) | exact mid_fn _ _ _ _ _ rfl hc
/-! fewer fields -/
theorem und_pure : ∀ k d, pure k = true → und k d = true → pure d = true := by
  intro k
  induction k with
  | rc a b c e iha ihb ihc ihe =>
    intro d hp hu
    cases d <;> simp only [und] at hu <;> try (cases hu; done)
    · rfl
    · simp only [pure, Bool.and_eq_true] at hp hu ⊢
      exact ⟨iha _ hp.1 hu.1.1.1, ihb _ hp.2.1 hu.1.1.2, ihc _ hp.2.2.1 hu.1.2, ihe _ hp.2.2.2 hu.2⟩
  | _ => intro d hp hu; cases d <;> simp [pure, und] at hp hu ⊢
theorem few_cast : ∀ (v : Va) (k d : Wd), has v k = true → pure k = true → und k d = true → cast v k d = some (few v d) := by
  intro v
  induction v with
  | rc a b c e iha ihb ihc ihe =>
    intro k d h hp hu
    cases k <;> simp only [has] at h <;> try (cases h; done)
    rename_i ka kb kc ke
    have h0 : has (.rc a b c e) (.rc ka kb kc ke) = true := by simpa only [has] using h
    cases d <;> simp only [und] at hu <;> try (cases hu; done)
    · simp [few]
    · rw [cast_rc h0]
      simp only [pure, Bool.and_eq_true] at h hp hu
      rw [iha _ _ h.1 hp.1 hu.1.1.1, ihb _ _ h.2.1 hp.2.1 hu.1.1.2, ihc _ _ h.2.2.1 hp.2.2.1 hu.1.2, ihe _ _ h.2.2.2 hp.2.2.2 hu.2]
      rfl
  | _ =>
    intro k d h hp hu
    cases k <;> simp [has] at h <;> simp [pure] at hp <;> cases d <;> simp [und] at hu <;> simp [few, cast, castO, castR]
end K75

/-! k75: values on data (the lemmas on fields are those on types, turned) -/
namespace K75
open DV L2 PySem PySem.Spec PyProof.Rows
def nm : D := .tup [.tup [.int 3], .bl true]
def encV : Va → D
  | .no => .non
  | .int i => .tup [.str "int", .int i]
  | .bool b => .tup [.str "bool", .bl b]
  | .name => .tup [.str "name", .str "f"]
  | .wrap v k d => .tup [.str "wrap", encV v, enc k, enc d, nm]
  | .tag k v => .tup [.str "tag", enc k, encV v]
  | .rc a b c d => .tup [.str "record", .tup ((if a = .no then [] else [.tup [.str "a", encV a]]) ++ ((if b = .no then [] else [.tup [.str "b", encV b]]) ++ ((if c = .no then [] else [.tup [.str "c", encV c]]) ++ (if d = .no then [] else [.tup [.str "d", encV d]]))))]
def fV (a b c d : Va) : List (Str × Va) :=
  (if a = .no then [] else [(("a" : Str), a)]) ++ ((if b = .no then [] else [(("b" : Str), b)]) ++ ((if c = .no then [] else [(("c" : Str), c)]) ++ (if d = .no then [] else [(("d" : Str), d)])))
def iV (p : Str × Va) : D := .tup [.str p.1, encV p.2]
def tV (L : List (Str × Va)) : Tab := L.map fun p => (p.1, encV p.2)
theorem encV_rc {a b c d : Va} : encV (.rc a b c d) = .tup [.str "record", .tup ((fV a b c d).map iV)] := by
  unfold fV encV
  by_cases ha : a = .no <;> by_cases hb : b = .no <;> by_cases hc : c = .no <;> by_cases hd : d = .no <;> simp [ha, hb, hc, hd, iV]
theorem its_tV (L : List (Str × Va)) : itsT (tV L) = L.map iV := by
  unfold itsT tV
  rw [List.map_map]; rfl
theorem fV_mem {a b c d : Va} {p : Str × Va} (h : p ∈ fV a b c d) : p.2 ≠ .no ∧ (p = (("a" : Str), a) ∨ p = (("b" : Str), b) ∨ p = (("c" : Str), c) ∨ p = (("d" : Str), d)) := by
  unfold fV at h
  by_cases ha : a = .no <;> by_cases hb : b = .no <;> by_cases hc : c = .no <;> by_cases hd : d = .no <;> simp [ha, hb, hc, hd] at h <;>
    (first | exact h.elim | (rcases h with rfl | rfl | rfl | rfl <;> simp_all) | (rcases h with rfl | rfl | rfl <;> simp_all) | (rcases h with rfl | rfl <;> simp_all) | (subst h; simp_all))
def gV (a b c d : Va) (l : Str) : Va := if l = "a" then a else if l = "b" then b else if l = "c" then c else if l = "d" then d else .no
def oV (x : Va) : Option Va := if x = .no then none else some x
theorem fV_nodup {a b c d : Va} : ((fV a b c d).map (·.1)).Nodup := by
  unfold fV
  by_cases ha : a = .no <;> by_cases hb : b = .no <;> by_cases hc : c = .no <;> by_cases hd : d = .no <;> simp [ha, hb, hc, hd, ab, ac, ad, bc, bd', cd]
theorem fV_len {a b c d : Va} : (fV a b c d).length ≤ 4 := by
  unfold fV
  by_cases ha : a = .no <;> by_cases hb : b = .no <;> by_cases hc : c = .no <;> by_cases hd : d = .no <;> simp [ha, hb, hc, hd]
theorem fV_sorted {a b c d : Va} : ((fV a b c d).map (·.1)).Pairwise fun a b => leS a b = true := by
  unfold fV
  by_cases ha : a = .no <;> by_cases hb : b = .no <;> by_cases hc : c = .no <;> by_cases hd : d = .no <;> simp [ha, hb, hc, hd, le_ab, le_ac, le_ad, le_bc, le_bd, le_cd]
theorem tV_lookup {L : List (Str × Va)} {l : Str} : (tV L).lookup l = (L.lookup l).map encV := by
  induction L with
  | nil => rfl
  | cons p L ih =>
    obtain ⟨k, x⟩ := p
    unfold tV at ih ⊢
    rw [List.map_cons, look_cons, ih, List.lookup_cons]
    by_cases h : k = l
    · subst h; simp
    · have : (l == k) = false := by simpa using fun e => h e.symm
      simp [h, this]
theorem fV_lookup {a b c d : Va} {l : Str} : (fV a b c d).lookup l = oV (gV a b c d l) := by
  have lk : ∀ (k : Str) (x : Va) (L : List (Str × Va)), List.lookup l ((k, x) :: L) = if l = k then some x else List.lookup l L := fun k x L => by
    rw [List.lookup_cons]
    by_cases h : l = k
    · subst h; simp
    · have : (l == k) = false := by simpa using h
      simp [h, this]
  unfold gV
  by_cases h1 : l = "a"
  · subst h1
    unfold fV oV
    by_cases ha : a = .no <;> by_cases hb : b = .no <;> by_cases hc : c = .no <;> by_cases hd : d = .no <;> simp [ha, hb, hc, hd, lk, ab, ac, ad]
  · by_cases h2 : l = "b"
    · subst h2
      unfold fV oV
      by_cases ha : a = .no <;> by_cases hb : b = .no <;> by_cases hc : c = .no <;> by_cases hd : d = .no <;> simp [ha, hb, hc, hd, lk, ba, bc, bd']
    · by_cases h3 : l = "c"
      · subst h3
        unfold fV oV
        by_cases ha : a = .no <;> by_cases hb : b = .no <;> by_cases hc : c = .no <;> by_cases hd : d = .no <;> simp [ha, hb, hc, hd, lk, ca, cb, cd]
      · by_cases h4 : l = "d"
        · subst h4
          unfold fV oV
          by_cases ha : a = .no <;> by_cases hb : b = .no <;> by_cases hc : c = .no <;> by_cases hd : d = .no <;> simp [ha, hb, hc, hd, lk, da, db, dc]
        · unfold fV oV
          by_cases ha : a = .no <;> by_cases hb : b = .no <;> by_cases hc : c = .no <;> by_cases hd : d = .no <;> simp [ha, hb, hc, hd, lk, h1, h2, h3, h4]
@[simp] theorem gV_a {a b c d : Va} : gV a b c d "a" = a := by simp [gV]
@[simp] theorem gV_b {a b c d : Va} : gV a b c d "b" = b := by simp [gV, ba]
@[simp] theorem gV_c {a b c d : Va} : gV a b c d "c" = c := by simp [gV, ca, cb]
@[simp] theorem gV_d {a b c d : Va} : gV a b c d "d" = d := by simp [gV, da, db, dc]
theorem tV_keys (L : List (Str × Va)) : (tV L).map (·.1) = L.map (·.1) := by
  unfold tV
  rw [List.map_map]; rfl
theorem tV_len (L : List (Str × Va)) : (tV L).length = L.length := by simp [tV]
@[simp] theorem fV_sz {a b c d : Va} : (fV a b c d).length ≤ 100000 := Nat.le_trans fV_len (by omega)
theorem look_tV {a b c d : Va} {l : Str} : (tV (fV a b c d)).lookup l = (oV (gV a b c d l)).map encV := by rw [tV_lookup, fV_lookup]
theorem dict_fV {a b c d : Va} : dictD (.tup ((fV a b c d).map iV)) = some (dicT (tV (fV a b c d))) := by
  rw [← its_tV, dict_T (by rw [tV_keys]; exact fV_nodup) (by rw [tV_len]; have := fV_len (a := a) (b := b) (c := c) (d := d); unfold SZ; omega)]

def iS (p : Str × Va) : D := .tup [.str p.1, sh p.2]
theorem sh_rc {a b c d : Va} : sh (.rc a b c d) = .tup [.str "record", .tup ((fV a b c d).map iS)] := by
  unfold fV sh shR ofl
  by_cases ha : a = .no <;> by_cases hb : b = .no <;> by_cases hc : c = .no <;> by_cases hd : d = .no <;> simp [ha, hb, hc, hd, iS]
/-! types are the same where their data are -/
def mkP (p q r s : Bool) (a b c d : PyData) : List PyData := (if p = true then [] else [.tuple [.str "a", a]]) ++ ((if q = true then [] else [.tuple [.str "b", b]]) ++ ((if r = true then [] else [.tuple [.str "c", c]]) ++ (if s = true then [] else [.tuple [.str "d", d]])))
theorem bab : (("a" : Str) == "b") = false := by decide
theorem bac : (("a" : Str) == "c") = false := by decide
theorem bad : (("a" : Str) == "d") = false := by decide
theorem bbc : (("b" : Str) == "c") = false := by decide
theorem bbd : (("b" : Str) == "d") = false := by decide
theorem bcd : (("c" : Str) == "d") = false := by decide
theorem bba : (("b" : Str) == "a") = false := by decide
theorem bca : (("c" : Str) == "a") = false := by decide
theorem bda : (("d" : Str) == "a") = false := by decide
theorem bcb : (("c" : Str) == "b") = false := by decide
theorem bdb : (("d" : Str) == "b") = false := by decide
theorem bdc : (("d" : Str) == "c") = false := by decide
theorem mkP_eqv (p q r s p' q' r' s' : Bool) (a b c d a' b' c' d' : PyData) : PyData.eqvAll (mkP p q r s a b c d) (mkP p' q' r' s' a' b' c' d') =
    ((p == p' && (p || PyData.eqv a a')) && ((q == q' && (q || PyData.eqv b b')) && ((r == r' && (r || PyData.eqv c c')) && (s == s' && (s || PyData.eqv d d'))))) := by
  cases p <;> cases q <;> cases r <;> cases s <;> cases p' <;> cases q' <;> cases r' <;> cases s' <;>
    simp [mkP, PyData.eqv, PyData.eqvAll, bab, bac, bad, bbc, bbd, bcd, bba, bca, bda, bcb, bdb, bdc]
end K75

/-! k75: == of types; the height of values -/
namespace K75
open DV L2 PySem PySem.Spec PyProof.Rows
theorem toPyL_app : ∀ xs ys : List D, toPyL (xs ++ ys) = toPyL xs ++ toPyL ys
  | [], ys => by simp [toPyL]
  | x :: xs, ys => by simp [toPyL, toPyL_app xs ys]
theorem toPy_rc {a b c d : Wd} : toPy (enc (.rc a b c d)) = .tuple [.str "record", .tuple (mkP (decide (a = .no)) (decide (b = .no)) (decide (c = .no)) (decide (d = .no)) (toPy (enc a)) (toPy (enc b)) (toPy (enc c)) (toPy (enc d)))] := by
  have one : ∀ (l : Str) (x : Wd), toPyL (if x = .no then [] else [.tup [.str l, enc x]]) = if decide (x = .no) = true then [] else [.tuple [.str l, toPy (enc x)]] := fun l x => by
    by_cases h : x = .no <;> simp [h, toPy, toPyL]
  simp only [enc, toPy, toPyL, toPyL_app, one, mkP]
theorem hd_ne {x y : Str} {xs ys : List PyData} (h : (x == y) = false) : PyData.eqv (.tuple (.str x :: xs)) (.tuple (.str y :: ys)) = false := by
  show ((x == y) && PyData.eqvAll xs ys) = false
  rw [h]; rfl
theorem toPy_hd : ∀ {x : Wd}, x ≠ .no → ∃ xs, toPy (enc x) = .tuple (.str (tag x) :: xs)
  | .no, h => absurd rfl h
  | .any, _ => ⟨_, rfl⟩
  | .int, _ => ⟨_, rfl⟩
  | .bool, _ => ⟨_, rfl⟩
  | .fn _ _, _ => ⟨_, rfl⟩
  | .rc _ _ _ _, _ => ⟨_, toPy_rc⟩
theorem eqv_far {x y : Wd} (hx : x ≠ .no) (hy : y ≠ .no) (h : (tag x == tag y) = false) : PyData.eqv (toPy (enc x)) (toPy (enc y)) = decide (x = y) := by
  obtain ⟨xs, e1⟩ := toPy_hd hx
  obtain ⟨ys, e2⟩ := toPy_hd hy
  rw [e1, e2, hd_ne h]
  exact (decide_eq_false fun z => by rw [z] at h; simp at h).symm
theorem eqv_no {y : Wd} (h : y ≠ .no) : PyData.eqv (toPy (enc .no)) (toPy (enc y)) = decide (Wd.no = y) ∧ PyData.eqv (toPy (enc y)) (toPy (enc .no)) = decide (y = .no) := by
  obtain ⟨ys, e2⟩ := toPy_hd h
  rw [e2]
  exact ⟨(decide_eq_false (Ne.symm h)).symm, (decide_eq_false h).symm⟩
theorem eqv_fn {a b c d : Wd} : PyData.eqv (toPy (enc (.fn a b))) (toPy (enc (.fn c d))) = (PyData.eqv (toPy (enc a)) (toPy (enc c)) && PyData.eqv (toPy (enc b)) (toPy (enc d))) := by
  show ((("fn" : Str) == "fn") && (PyData.eqv (toPy (enc a)) (toPy (enc c)) && (PyData.eqv (toPy (enc b)) (toPy (enc d)) && true))) = _
  rw [Bool.and_true]
  generalize (PyData.eqv (toPy (enc a)) (toPy (enc c)) && PyData.eqv (toPy (enc b)) (toPy (enc d))) = z
  rw [show (("fn" : Str) == "fn") = true by decide, Bool.true_and]
theorem eqv_rc {a b c d a' b' c' d' : Wd} : PyData.eqv (toPy (enc (.rc a b c d))) (toPy (enc (.rc a' b' c' d'))) = PyData.eqvAll (mkP (decide (a = .no)) (decide (b = .no)) (decide (c = .no)) (decide (d = .no)) (toPy (enc a)) (toPy (enc b)) (toPy (enc c)) (toPy (enc d))) (mkP (decide (a' = .no)) (decide (b' = .no)) (decide (c' = .no)) (decide (d' = .no)) (toPy (enc a')) (toPy (enc b')) (toPy (enc c')) (toPy (enc d'))) := by
  rw [toPy_rc, toPy_rc]
  generalize mkP (decide (a = .no)) (decide (b = .no)) (decide (c = .no)) (decide (d = .no)) (toPy (enc a)) (toPy (enc b)) (toPy (enc c)) (toPy (enc d)) = L
  generalize mkP (decide (a' = .no)) (decide (b' = .no)) (decide (c' = .no)) (decide (d' = .no)) (toPy (enc a')) (toPy (enc b')) (toPy (enc c')) (toPy (enc d')) = M
  show ((("record" : Str) == "record") && (PyData.eqvAll L M && true)) = _
  rw [Bool.and_true, show (("record" : Str) == "record") = true by decide, Bool.true_and]
theorem eqv_enc : ∀ x y : Wd, PyData.eqv (toPy (enc x)) (toPy (enc y)) = decide (x = y) := by
  intro x
  induction x with
  | no =>
    intro y
    by_cases h : y = .no
    · subst h; decide +kernel
    · exact (eqv_no h).1
  | fn a b iha ihb =>
    intro y
    cases y with
    | no => exact (eqv_no (by simp)).2
    | fn c d =>
      rw [eqv_fn, iha c, ihb d]
      by_cases e1 : a = c <;> by_cases e2 : b = d <;> simp [e1, e2]
    | _ => exact eqv_far (by simp) (by simp) (by simp only [tag]; decide)
  | rc a b c d iha ihb ihc ihd =>
    intro y
    cases y with
    | no => exact (eqv_no (by simp)).2
    | rc a' b' c' d' =>
      rw [eqv_rc, mkP_eqv, iha, ihb, ihc, ihd]
      have k : ∀ x y : Wd, (decide (x = .no) == decide (y = .no) && (decide (x = .no) || decide (x = y))) = decide (x = y) := fun x y => by
        by_cases h1 : x = .no
        · subst h1
          by_cases h2 : y = .no
          · subst h2; simp
          · simp [h2, Ne.symm h2]
        · by_cases h2 : y = .no
          · subst h2; simp [h1]
          · simp [h1, h2]
      rw [k, k, k, k]
      by_cases e1 : a = a' <;> by_cases e2 : b = b' <;> by_cases e3 : c = c' <;> by_cases e4 : d = d' <;> simp [e1, e2, e3, e4]
    | _ => exact eqv_far (by simp) (by simp) (by simp only [tag]; decide)
  | _ =>
    intro y
    cases y with
    | no => exact (eqv_no (by simp)).2
    | _ => first | decide +kernel | exact eqv_far (by simp) (by simp) (by simp only [tag]; decide)
theorem eq_enc {x y : Wd} (hx : ok x) (dx : dep x ≤ 20) (dy : dep y ≤ 20) : eqD (enc x) (enc y) = some (.bl (decide (x = y))) := by
  have e : eqS (enc x) (enc y) = none := by obtain ⟨xs, e⟩ := enc_tup hx; rw [e]; rfl
  unfold eqD
  rw [e, eqP_ok (enc_py dx) (enc_py dy), eqv_enc]; rfl
theorem ne_enc {x y : Wd} (hx : ok x) (dx : dep x ≤ 20) (dy : dep y ≤ 20) : neD (enc x) (enc y) = some (.bl (!decide (x = y))) := by
  have e : eqS (enc x) (enc y) = none := by obtain ⟨xs, e⟩ := enc_tup hx; rw [e]; rfl
  unfold neD
  rw [e, neP_ok (enc_py dx) (enc_py dy), eqv_enc]; rfl
/-! heights -/
def okV : Va → Prop
  | .no => False
  | .wrap v k d => okV v ∧ ok k ∧ ok d
  | .tag k v => ok k ∧ okV v
  | .rc a b c d => (a = .no ∨ okV a) ∧ (b = .no ∨ okV b) ∧ (c = .no ∨ okV c) ∧ (d = .no ∨ okV d)
  | _ => True
def hv : Va → Nat
  | .wrap v k d => max (hv v) (max (3 * dep k + 3) (3 * dep d + 3)) + 1
  | .tag k v => max (hv v) (3 * dep k + 3) + 1
  | .rc a b c d => max (max (hv a) (hv b)) (max (hv c) (hv d)) + 3
  | .no => 0
  | _ => 3
theorem fV_ok {a b c d : Va} (h : okV (.rc a b c d)) {p : Str × Va} (m : p ∈ fV a b c d) : okV p.2 := by
  obtain ⟨hn, e⟩ := fV_mem m
  obtain ⟨h1, h2, h3, h4⟩ := h
  rcases e with rfl | rfl | rfl | rfl
  · exact h1.resolve_left hn
  · exact h2.resolve_left hn
  · exact h3.resolve_left hn
  · exact h4.resolve_left hn
theorem hv_rc {a b c d : Va} {n : Nat} : hv (.rc a b c d) ≤ n + 3 ↔ hv a ≤ n ∧ hv b ≤ n ∧ hv c ≤ n ∧ hv d ≤ n := by
  simp only [hv, Nat.add_le_add_iff_right, Nat.max_le, and_assoc]
theorem rc_lt {a b c d : Wd} {n : Nat} (h : 3 * dep (.rc a b c d) ≤ n) : 3 * dep a + 3 ≤ n ∧ 3 * dep b + 3 ≤ n ∧ 3 * dep c + 3 ≤ n ∧ 3 * dep d + 3 ≤ n := by
  simp only [dep] at h; omega
theorem okV_ne {x : Va} (h : okV x) : x ≠ .no := fun e => by rw [e] at h; exact h
theorem pln_str (s : Str) (n : Nat) : pln (.str s) n := by cases n <;> simp [pln]
theorem pln_nm (n : Nat) (h : 2 ≤ n) : pln nm n := by
  obtain ⟨m, rfl⟩ : ∃ m, n = m + 2 := ⟨n - 2, by omega⟩
  simp [nm, pln, plnL]
theorem pln_one (l : Str) {d : D} {p : Prop} [Decidable p] {n : Nat} (h : ¬ p → pln d n) : plnL (if p then [] else [.tup [.str l, d]]) (n + 1) := by
  split
  · unfold plnL; trivial
  · rename_i q
    simp [pln, plnL, pln_str, h q]
theorem one_len {l : Str} {d : D} {p : Prop} [Decidable p] : (if p then [] else [D.tup [.str l, d]]).length ≤ 1 := by split <;> simp
theorem pln_encV : ∀ (v : Va) (n : Nat), hv v ≤ n → pln (encV v) n := by
  intro v
  induction v with
  | no => intro n h; cases n <;> simp [encV, pln]
  | int i => intro n h; obtain ⟨m, rfl⟩ : ∃ m, n = m + 1 := ⟨n - 1, by simp only [hv] at h; omega⟩; simp [encV, pln, plnL, pln_str]
  | bool i => intro n h; obtain ⟨m, rfl⟩ : ∃ m, n = m + 1 := ⟨n - 1, by simp only [hv] at h; omega⟩; simp [encV, pln, plnL, pln_str]
  | name => intro n h; obtain ⟨m, rfl⟩ : ∃ m, n = m + 1 := ⟨n - 1, by simp only [hv] at h; omega⟩; simp [encV, pln, plnL, pln_str]
  | wrap v k d ih =>
    intro n h
    obtain ⟨m, rfl⟩ : ∃ m, n = m + 1 := ⟨n - 1, by simp only [hv] at h; omega⟩
    simp only [hv] at h
    simp [encV, pln, plnL, pln_str, ih m (by omega), pln_enc k m (by omega), pln_enc d m (by omega), pln_nm m (by omega)]
  | tag k v ih =>
    intro n h
    obtain ⟨m, rfl⟩ : ∃ m, n = m + 1 := ⟨n - 1, by simp only [hv] at h; omega⟩
    simp only [hv] at h
    simp [encV, pln, plnL, pln_str, ih m (by omega), pln_enc k m (by omega)]
  | rc a b c d iha ihb ihc ihd =>
    intro n h
    obtain ⟨m, rfl⟩ : ∃ m, n = m + 3 := ⟨n - 3, by simp only [hv] at h; omega⟩
    obtain ⟨h1, h2, h3, h4⟩ := hv_rc.mp h
    have l1 := one_len (l := "a") (d := encV a) (p := a = .no)
    have l2 := one_len (l := "b") (d := encV b) (p := b = .no)
    have l3 := one_len (l := "c") (d := encV c) (p := c = .no)
    have l4 := one_len (l := "d") (d := encV d) (p := d = .no)
    unfold encV
    refine ⟨by simp, ?_⟩
    unfold plnL
    refine ⟨pln_str _ _, ?_⟩
    unfold plnL
    refine ⟨⟨by simp only [List.length_append]; omega, ?_⟩, by unfold plnL; trivial⟩
    exact plnL_app (pln_one "a" fun _ => iha m h1) (plnL_app (pln_one "b" fun _ => ihb m h2) (plnL_app (pln_one "c" fun _ => ihc m h3) (pln_one "d" fun _ => ihd m h4)))
theorem cast_hv : ∀ (v : Va) (k d : Wd) (v' : Va), cast v k d = some v' → hv v' ≤ max (hv v) (max (3 * dep k + 3) (3 * dep d + 3)) + 1 := by
  have base : ∀ (v : Va) (k d : Wd) (v' : Va) (r : Option Va), castO v k d r = some v' → (r = some v' → hv v' ≤ max (hv v) (max (3 * dep k + 3) (3 * dep d + 3)) + 1) → hv v' ≤ max (hv v) (max (3 * dep k + 3) (3 * dep d + 3)) + 1 := by
    intro v k d v' r h hr
    unfold castO at h
    split at h
    · cases h; exact Nat.zero_le _
    · split at h
      · cases h; omega
      · split at h
        · cases h; simp only [hv]; omega
        · exact hr h
  have baseR : ∀ (v : Va) (k d : Wd) (v' : Va), castR v k d = some v' → hv v' ≤ max (hv v) (max (3 * dep k + 3) (3 * dep d + 3)) + 1 := by
    intro v k d v' h
    unfold castR at h
    split at h
    · cases h; simp only [hv]; omega
    · cases h; omega
  intro v
  induction v with
  | tag k' x ih =>
    intro k d v' h
    simp only [cast] at h
    refine base _ _ _ _ _ h fun h => ?_
    cases k with
    | any =>
      simp only at h
      split at h
      · have := ih k' d v' h
        simp only [hv]; omega
      · cases h
    | _ => exact baseR _ _ _ _ h
  | rc a b c e iha ihb ihc ihe =>
    intro k d v' h
    simp only [cast] at h
    refine base _ _ _ _ _ h fun h => ?_
    cases k with
    | rc ka kb kc ke =>
      cases d with
      | rc da db dc de =>
        simp only at h
        obtain ⟨a', ea, h⟩ := Option.bind_eq_some_iff.mp h
        obtain ⟨b', eb, h⟩ := Option.bind_eq_some_iff.mp h
        obtain ⟨c', ec, h⟩ := Option.bind_eq_some_iff.mp h
        obtain ⟨e', ee, h⟩ := Option.map_eq_some_iff.mp h
        subst h
        have g1 := iha _ _ _ ea
        have g2 := ihb _ _ _ eb
        have g3 := ihc _ _ _ ec
        have g4 := ihe _ _ _ ee
        clear iha ihb ihc ihe ea eb ec ee
        obtain ⟨n, hn⟩ : ∃ n, max (hv (.rc a b c e)) (max (3 * dep (.rc ka kb kc ke) + 3) (3 * dep (.rc da db dc de) + 3)) = n + 3 := ⟨_, (Nat.sub_add_cancel (by simp only [hv]; omega)).symm⟩
        rw [hn]
        have l1 : hv (.rc a b c e) ≤ n + 3 := by omega
        have l2 : 3 * dep (.rc ka kb kc ke) ≤ n := by omega
        have l3 : 3 * dep (.rc da db dc de) ≤ n := by omega
        clear hn
        obtain ⟨v1, v2, v3, v4⟩ := hv_rc.mp l1
        obtain ⟨k1, k2, k3, k4⟩ := rc_lt l2
        obtain ⟨d1, d2, d3, d4⟩ := rc_lt l3
        clear l1 l2 l3
        show hv (.rc a' b' c' e') ≤ (n + 1) + 3
        exact hv_rc.mpr ⟨by omega, by omega, by omega, by omega⟩
      | _ => exact baseR _ _ _ _ h
    | _ => exact baseR _ _ _ _ h
  | _ => intro k d v' h; simp only [cast] at h; exact base _ _ _ _ _ h fun h => baseR _ _ _ _ h
end K75

/-! k75: could_be, has_wide on data -/
namespace K75
open DV L2 PySem PySem.Spec PyProof.Rows
theorem fb_cbl {s t : Wd} : (decide (t = .no) || fb cbl s t) = cbl s t := by
  unfold fb ow
  by_cases hs : s = .no
  · subst hs; cases t <;> simp [cbl]
  · by_cases ht : t = .no
    · subst ht; cases s <;> simp [cbl]
    · simp [hs, ht]
theorem could_be_ok : ∀ (n e : Nat) (x y : Wd), ok x → ok y → dep x < e → dep y < e → e ≤ n → e ≤ 20 → G n .f_could_be [enc x, enc y] = some (.bl (cbl x y), false, [])
  | 0, e, x, y, _, _, h, _, _, _ => absurd h (by omega)
  | n + 1, 0, x, y, _, _, h, _, _, _ => absurd h (by omega)
  | n + 1, e + 1, x, y, hx, hy, dx, dy, hq, hn => by
    have ih := fun x y a b c d => could_be_ok n e x y a b c d (by omega) (by omega)
    have q1 := eq_any hx (by omega)
    have q2 := eq_any hy (by omega)
    rw [G_succ]
    cases x <;> cases y
    case rc.rc a b c d a' b' c' d' =>
      obtain ⟨m, rfl⟩ : ∃ m, n = m + 1 := ⟨n - 1, by unfold dep at dx; omega⟩
      have ef := fields_ok m a b c d
      simp [bd, at_run, b_could_be, ef, q1, q2, strOf_inj]
      rw [comp_map (f := fun p : Str × Wd => .bl (fb cbl (gf a b c d p.1) p.2))]
      · simp only [Option.bind_some]
        simp [bls_map, all_map', fl_all, fb_cbl, cbl, Bool.and_assoc]
      · intro p hp ds
        rw [compD_cons]
        cases h : ow (gf a b c d p.1) with
        | none => simp [it, look_tb, h, fb]
        | some s =>
          have e := ih s p.2 (gf_ok hx h) (fl_ok hy hp) (gf_dep dx h) (fl_dep dy hp)
          simp [it, look_tb, h, fb, e]
    all_goals first | exact hx.elim | exact hy.elim | simp [bd, at_run, b_could_be, cbl, q1, q2, strOf_inj]
theorem law_forms_ok : ∀ (n e : Nat) (x y : Wd), ok x → ok y → dep x < e → dep y < e → e ≤ n → e ≤ 20 → G n .f__law_forms [enc x, enc y] = some (.bl (cbl x y), false, [])
  | 0, e, x, y, _, _, h, _, _, _ => absurd h (by omega)
  | n + 1, 0, x, y, _, _, h, _, _, _ => absurd h (by omega)
  | n + 1, e + 1, x, y, hx, hy, dx, dy, hq, hn => by
    have ih := fun x y a b c d => law_forms_ok n e x y a b c d (by omega) (by omega)
    have q := in_any hx hy (by omega) (by omega)
    rw [G_succ]
    cases x <;> cases y
    case rc.rc a b c d a' b' c' d' =>
      simp [bd, at_run, b__law_forms, lit_any, q, dict_fl, strOf_inj]
      rw [comp_keep (f := fun p : Str × Wd => if fb cbl (gf a b c d p.1) p.2 = true then none else some (.str p.1))]
      · have z := Nat.le_trans (keep_len (b := fun p : Str × Wd => fb cbl (gf a b c d p.1) p.2) (g := fun p => .str p.1) (fl a' b' c' d')) fl_sz
        simp only [Option.bind_some]
        simp [z, dec_keep, fl_all, fb_cbl, cbl, Bool.and_assoc]
      · intro p hp ds
        rw [compD_cons]
        cases h : ow (gf a b c d p.1) with
        | none => simp [it, look_tb, h, fb]
        | some s =>
          have e := ih s p.2 (gf_ok hx h) (fl_ok hy hp) (gf_dep dx h) (fl_dep dy hp)
          cases hu : cbl s p.2 <;> simp [it, look_tb, h, fb, e, hu]
    all_goals first | exact hx.elim | exact hy.elim | simp [bd, at_run, b__law_forms, lit_any, q, cbl, strOf_inj]
theorem in2 {x y z : Str} : inD (.str x) (.tup [.str y, .str z]) = some (.bl (decide (y = x) || decide (z = x))) := by
  simp [inD, inB, inS, inK, inF, seqOf, flatD, eqFl]
  rfl
theorem in2l {x y z : Str} : inD (.str x) (.lst [.str y, .str z]) = some (.bl (decide (y = x) || decide (z = x))) := by
  simp [inD, inB, inS, inK, inF, seqOf, flatD, eqFl]
  rfl
/-! values by places -/
@[simp] theorem ix_V_int {i : Int} : ixD (encV (.int i)) (.int 0) = some (.str "int") := rfl
@[simp] theorem ix_V_bool {i : Bool} : ixD (encV (.bool i)) (.int 0) = some (.str "bool") := rfl
@[simp] theorem ix_V_name : ixD (encV .name) (.int 0) = some (.str "name") := rfl
@[simp] theorem ix_V_wrap {v k d} : ixD (encV (.wrap v k d)) (.int 0) = some (.str "wrap") := rfl
@[simp] theorem ix_V_tag {v k} : ixD (encV (.tag k v)) (.int 0) = some (.str "tag") := rfl
@[simp] theorem ix_V_tag1 {v k} : ixD (encV (.tag k v)) (.int 1) = some (enc k) := rfl
@[simp] theorem ix_V_tag2 {v k} : ixD (encV (.tag k v)) (.int 2) = some (encV v) := rfl
@[simp] theorem ix_V_rc {a b c d} : ixD (encV (.rc a b c d)) (.int 0) = some (.str "record") := rfl
@[simp] theorem ix_V_rc1 {a b c d} : ixD (encV (.rc a b c d)) (.int 1) = some (.tup ((fV a b c d).map iV)) := by rw [encV_rc]; rfl
theorem has_lbs {a b c e : Va} {ka kb kc ke : Wd} (h : has (.rc a b c e) (.rc ka kb kc ke) = true) : (a = .no ↔ ka = .no) ∧ (b = .no ↔ kb = .no) ∧ (c = .no ↔ kc = .no) ∧ (e = .no ↔ ke = .no) := by
  simp only [has, Bool.and_eq_true] at h
  have k : ∀ {v : Va} {k : Wd}, has v k = true → (v = .no ↔ k = .no) := fun {v k} h => ⟨fun e => by subst e; exact has_no'.mp h, fun e => by subst e; exact has_no.mp h⟩
  exact ⟨k h.1, k h.2.1, k h.2.2.1, k h.2.2.2⟩
/-- fields of both, pairwise -/
def zf (a b c e : Va) (ka kb kc ke : Wd) : List (Str × Va × Wd) :=
  (if a = .no then [] else [(("a" : Str), a, ka)]) ++ ((if b = .no then [] else [(("b" : Str), b, kb)]) ++ ((if c = .no then [] else [(("c" : Str), c, kc)]) ++ (if e = .no then [] else [(("d" : Str), e, ke)])))
theorem zf_l {a b c e : Va} {ka kb kc ke : Wd} : (zf a b c e ka kb kc ke).map (fun p => (p.1, p.2.1)) = fV a b c e := by
  unfold zf fV
  by_cases ha : a = .no <;> by_cases hb : b = .no <;> by_cases hc : c = .no <;> by_cases hd : e = .no <;> simp [ha, hb, hc, hd]
theorem zf_r {a b c e : Va} {ka kb kc ke : Wd} (h : has (.rc a b c e) (.rc ka kb kc ke) = true) : (zf a b c e ka kb kc ke).map (fun p => (p.1, p.2.2)) = fl ka kb kc ke := by
  obtain ⟨h1, h2, h3, h4⟩ := has_lbs h
  unfold zf fl
  simp only [← h1, ← h2, ← h3, ← h4]
  by_cases ha : a = .no <;> by_cases hb : b = .no <;> by_cases hc : c = .no <;> by_cases hd : e = .no <;> simp [ha, hb, hc, hd]
theorem zf_has {a b c e : Va} {ka kb kc ke : Wd} (h : has (.rc a b c e) (.rc ka kb kc ke) = true) : ∀ p ∈ zf a b c e ka kb kc ke, has p.2.1 p.2.2 = true := by
  simp only [has, Bool.and_eq_true] at h
  intro p hp
  unfold zf at hp
  simp only [List.mem_append] at hp
  have one : ∀ {l : Str} {v : Va} {k : Wd}, has v k = true → p ∈ (if v = .no then [] else [(l, v, k)]) → has p.2.1 p.2.2 = true := fun {l v k} h hp => by
    split at hp
    · cases hp
    · rw [List.mem_singleton.mp hp]; exact h
  rcases hp with hp | hp | hp | hp
  · exact one h.1 hp
  · exact one h.2.1 hp
  · exact one h.2.2.1 hp
  · exact one h.2.2.2 hp
theorem zf_memV {a b c e : Va} {ka kb kc ke : Wd} {p} (h : p ∈ zf a b c e ka kb kc ke) : (p.1, p.2.1) ∈ fV a b c e := by rw [← zf_l (ka := ka) (kb := kb) (kc := kc) (ke := ke)]; exact List.mem_map.mpr ⟨p, h, rfl⟩
theorem zf_memW {a b c e : Va} {ka kb kc ke : Wd} (h0 : has (.rc a b c e) (.rc ka kb kc ke) = true) {p} (h : p ∈ zf a b c e ka kb kc ke) : (p.1, p.2.2) ∈ fl ka kb kc ke := by rw [← zf_r h0]; exact List.mem_map.mpr ⟨p, h, rfl⟩
theorem sm_refl {x : Wd} : sm x x = true := by simp [sm]
theorem lbs_eq {ka kb kc ke : Wd} : neD (.lst ((fl ka kb kc ke).map fun p => D.str p.1)) (.lst ((fl ka kb kc ke).map fun p => D.str p.1)) = some (.bl false) ∧ eqD (.lst ((fl ka kb kc ke).map fun p => D.str p.1)) (.lst ((fl ka kb kc ke).map fun p => D.str p.1)) = some (.bl true) := by
  have e := ne_lbs (a := ka) (b := kb) (c := kc) (d := ke) (a' := ka) (b' := kb) (c' := kc) (d' := ke)
  have e' := eq_lbs (a := ka) (b := kb) (c := kc) (d := ke) (a' := ka) (b' := kb) (c' := kc) (d' := ke)
  simp only [List.map_map] at e e'
  rw [show (D.str ∘ fun x : Str × Wd => x.1) = fun p => D.str p.1 from rfl] at e e'
  simp only [sm_refl] at e e'
  exact ⟨e, e'⟩
theorem lab_V {a b c e : Va} {ka kb kc ke : Wd} (h : has (.rc a b c e) (.rc ka kb kc ke) = true) : ((fV a b c e).map fun p => D.str p.1) = (fl ka kb kc ke).map fun p => D.str p.1 := by
  rw [← zf_l (ka := ka) (kb := kb) (kc := kc) (ke := ke), ← zf_r h, List.map_map, List.map_map]; rfl
theorem zip_map {α : Type} {f g : α → D} : ∀ L : List α, zipD (L.map f) (L.map g) = L.map fun p => .tup [f p, g p]
  | [] => rfl
  | p :: L => by
    have := zip_map (f := f) (g := g) L
    simp only [List.map_cons]
    rw [← this]
    rfl
theorem has_hv {a b c e : Va} {n : Nat} (h : hv (.rc a b c e) ≤ n + 1) {p : Str × Va} (m : p ∈ fV a b c e) : hv p.2 ≤ n := by
  obtain ⟨_, e⟩ := fV_mem m
  simp only [hv] at h
  rcases e with rfl | rfl | rfl | rfl <;> simp only <;> omega
theorem has_wide_ok : ∀ (n e : Nat) (v : Va) (k : Wd), okV v → ok k → hv v ≤ e → e < n → e ≤ 60 → dep k ≤ 20 → has v k = true → G n .f_has_wide [encV v, enc k] = some (.bl true, false, [])
  | 0, e, v, k, _, _, _, h, _, _, _ => absurd h (by omega)
  | n + 1, 0, v, k, hv0, _, h, _, _, _, _ => by exfalso; cases v <;> simp [hv, okV] at h hv0
  | n + 1, e + 1, v, k, kv, kk, he, hn, h60, dk, h => by
    have ih := fun v k a b c d z => has_wide_ok n e v k a b c (by omega) (by omega) d z
    have q := eq_any kk dk
    rw [G_succ]
    cases v with
    | no => exact kv.elim
    | int i => cases k <;> simp [has] at h; simp [bd, at_run, b_has_wide, q, strOf_inj]
    | bool i => cases k <;> simp [has] at h; simp [bd, at_run, b_has_wide, q, strOf_inj]
    | name => cases k <;> simp [has] at h; simp [bd, at_run, b_has_wide, q, strOf_inj, in2]
    | wrap x k1 d1 => cases k <;> simp [has] at h; simp [bd, at_run, b_has_wide, q, strOf_inj, in2]
    | tag k' x =>
      cases k <;> simp [has] at h
      simp only [hv] at he
      have q2 := ne_enc (y := .any) kv.1 (by omega) (by decide)
      have e1 := ih x k' kv.2 kv.1 (by omega) (by omega) h.2
      simp [bd, at_run, b_has_wide, q, q2, e1, h.1, strOf_inj]
    | rc a b c d =>
      cases k <;> simp only [has] at h <;> try (cases h; done)
      rename_i ka kb kc ke
      have h0 : has (.rc a b c d) (.rc ka kb kc ke) = true := by simpa only [has] using h
      have c1 : compD [4, 5] (hTup 2 (hCons (hNm 4) (hCons (hNm 5) hNil))) tYesD (gNm 4) ((fV a b c d).map iV) [.sh (encV (.rc a b c d)), .sh (enc (.rc ka kb kc ke)), .no, .no, .no, .no] = some ((fl ka kb kc ke).map fun p => D.str p.1, [.sh (encV (.rc a b c d)), .sh (enc (.rc ka kb kc ke)), .no, .no, .no, .no]) := by
        rw [← lab_V h0]
        exact comp_map fun p _ ds => by rw [compD_cons]; simp [iV]
      have c2 : compD [4, 5] (hTup 2 (hCons (hNm 4) (hCons (hNm 5) hNil))) tYesD (gNm 4) ((fl ka kb kc ke).map it) [.sh (encV (.rc a b c d)), .sh (enc (.rc ka kb kc ke)), .no, .no, .no, .no] = some ((fl ka kb kc ke).map fun p => D.str p.1, [.sh (encV (.rc a b c d)), .sh (enc (.rc ka kb kc ke)), .no, .no, .no, .no]) :=
        comp_map fun p _ ds => by rw [compD_cons]; simp [it]
      have zz : zipD ((fV a b c d).map iV) ((fl ka kb kc ke).map it) = (zf a b c d ka kb kc ke).map fun p => .tup [iV (p.1, p.2.1), it (p.1, p.2.2)] := by
        rw [← zf_l (ka := ka) (kb := kb) (kc := kc) (ke := ke), ← zf_r h0, List.map_map, List.map_map, zip_map]; rfl
      simp [bd, at_run, b_has_wide, q, strOf_inj, c1, c2, lbs_eq.1, zz]
      rw [comp_map (f := fun p : Str × Va × Wd => .bl true)]
      · have zl : (zf a b c d ka kb kc ke).length ≤ 100000 := by have e := congrArg List.length (zf_r h0); rw [List.length_map] at e; rw [e]; exact fl_sz
        simp [bls_map, zl]
      · intro p hp ds
        rw [compD_cons]
        have m1 := zf_memV hp
        have m2 := zf_memW h0 hp
        have hd : dep p.2.2 ≤ 20 := by have := fl_dep (n := 20) (by omega) m2; simp only at this; omega
        have e1 := ih p.2.1 p.2.2 (fV_ok kv m1) (fl_ok kk m2) (has_hv he m1) hd (zf_has h0 p hp)
        simp [iV, it, e1]
theorem fm_none {α β : Type} : ∀ L : List α, L.filterMap (fun _ => (none : Option β)) = []
  | [] => rfl
  | _ :: L => fm_none L
theorem law_has_ok : ∀ (n e : Nat) (v : Va) (k : Wd), okV v → ok k → hv v ≤ e → e < n → e ≤ 60 → dep k ≤ 20 → has v k = true → G n .f__law_has [encV v, enc k] = some (.bl true, false, [])
  | 0, e, v, k, _, _, _, h, _, _, _ => absurd h (by omega)
  | n + 1, 0, v, k, hv0, _, h, _, _, _, _ => by exfalso; cases v <;> simp [hv, okV] at h hv0
  | n + 1, e + 1, v, k, kv, kk, he, hn, h60, dk, h => by
    have ih := fun v k a b c d z => law_has_ok n e v k a b c (by omega) (by omega) d z
    have q := eq_any kk dk
    rw [G_succ]
    cases v with
    | no => exact kv.elim
    | int i => cases k <;> simp [has] at h; simp [bd, at_run, b__law_has, q, strOf_inj, lit_any]
    | bool i => cases k <;> simp [has] at h; simp [bd, at_run, b__law_has, q, strOf_inj, lit_any]
    | name => cases k <;> simp [has] at h; simp [bd, at_run, b__law_has, q, strOf_inj, in2l, lit_any]
    | wrap x k1 d1 => cases k <;> simp [has] at h; simp [bd, at_run, b__law_has, q, strOf_inj, in2l, lit_any]
    | tag k' x =>
      cases k <;> simp [has] at h
      simp only [hv] at he
      have e1 := ih x k' kv.2 kv.1 (by omega) (by omega) h.2
      simp [bd, at_run, b__law_has, q, e1, h.1, strOf_inj, lit_any]
    | rc a b c d =>
      cases k <;> simp only [has] at h <;> try (cases h; done)
      rename_i ka kb kc ke
      have h0 : has (.rc a b c d) (.rc ka kb kc ke) = true := by simpa only [has] using h
      have c1 : compD [2] (hNm 2) tYesD (gOp2 ixD (oNm 2) (oD fun ρ => some (.int 0, ρ))) ((fV a b c d).map iV) [.sh (encV (.rc a b c d)), .sh (enc (.rc ka kb kc ke)), .no, .no] = some ((fl ka kb kc ke).map fun p => D.str p.1, [.sh (encV (.rc a b c d)), .sh (enc (.rc ka kb kc ke)), .no, .no]) := by
        rw [← lab_V h0]
        exact comp_map fun p _ ds => by rw [compD_cons]; simp [iV]
      have c2 : compD [2] (hNm 2) tYesD (gOp2 ixD (oNm 2) (oD fun ρ => some (.int 0, ρ))) ((fl ka kb kc ke).map it) [.sh (encV (.rc a b c d)), .sh (enc (.rc ka kb kc ke)), .no, .no] = some ((fl ka kb kc ke).map fun p => D.str p.1, [.sh (encV (.rc a b c d)), .sh (enc (.rc ka kb kc ke)), .no, .no]) :=
        comp_map fun p _ ds => by rw [compD_cons]; simp [it]
      have zz : ((fl ka kb kc ke).length : Int) ≤ 100000 := by have := fl_sz (a := ka) (b := kb) (c := kc) (d := ke); omega
      have zz2 : (-100000 : Int) ≤ ((fl ka kb kc ke).length : Int) := by omega
      simp [bd, at_run, b__law_has, q, strOf_inj, lit_any, c1, c2, lbs_eq.2, rngD, zz, zz2]
      rw [comp_keep (f := fun i : Nat => (none : Option D))]
      · rw [fm_none]; simp
      · intro i hi ds
        rw [List.mem_range] at hi
        have hl : (fl ka kb kc ke).length = (zf a b c d ka kb kc ke).length := by rw [← zf_r h0, List.length_map]
        obtain ⟨p, hp⟩ : ∃ p, (zf a b c d ka kb kc ke)[i]? = some p := ⟨_, List.getElem?_eq_getElem (by omega)⟩
        have g1 : (fV a b c d)[i]? = some (p.1, p.2.1) := by rw [← zf_l (ka := ka) (kb := kb) (kc := kc) (ke := ke), List.getElem?_map, hp]; rfl
        have g2 : (fl ka kb kc ke)[i]? = some (p.1, p.2.2) := by rw [← zf_r h0, List.getElem?_map, hp]; rfl
        have hp := List.mem_of_getElem? hp
        have m1 := zf_memV hp
        have m2 := zf_memW h0 hp
        have hd : dep p.2.2 ≤ 20 := by have := fl_dep (n := 20) (by omega) m2; simp only at this; omega
        have e1 := ih p.2.1 p.2.2 (fV_ok kv m1) (fl_ok kk m2) (has_hv he m1) hd (zf_has h0 p hp)
        rw [compD_cons]
        simp [iV, it, g1, g2, e1]
end K75

/-! k75: casts on data -/
namespace K75
open DV L2 PySem PySem.Spec PyProof.Rows
def encR : Option Va → D
  | some v => .tup [.str "ok", encV v]
  | none => .tup [.str "blame", nm]
def sq (r : Str × Wd → Option Va) : List (Str × Wd) → Option (List D)
  | [] => some []
  | p :: L => (r p).bind fun v => (sq r L).map (iV (p.1, v) :: ·)
@[simp] theorem ix_ok0 {d : D} : ixD (.tup [.str "ok", d]) (.int 0) = some (.str "ok") := rfl
theorem sq_fl {a b c e : Va} {ka kb kc ke da db dc de : Wd} (h : has (.rc a b c e) (.rc ka kb kc ke) = true) (hc : cbl (.rc ka kb kc ke) (.rc da db dc de) = true) :
    sq (fun p => cast (gV a b c e p.1) (gf ka kb kc ke p.1) p.2) (fl da db dc de) = (cast a ka da).bind fun a' => (cast b kb db).bind fun b' => (cast c kc dc).bind fun c' => (cast e ke de).map fun e' => (fV a' b' c' e').map iV := by
  simp only [has, Bool.and_eq_true] at h
  simp only [cbl, Bool.and_eq_true] at hc
  have kk : ∀ {v : Va} {k d : Wd} {v' : Va}, has v k = true → cbl k d = true → cast v k d = some v' → d ≠ .no → v' ≠ .no := fun {v k d v'} h1 h2 h3 h4 h5 => by
    have := has_cast _ _ _ _ h1 h2 h3
    rw [h5, has_no'] at this
    exact h4 this
  have one : ∀ (l : Str) (v : Va) (k d : Wd) (R : Option (List D)), has v k = true → cbl k d = true → (if d = .no then R else (cast v k d).bind fun v => R.map (iV (l, v) :: ·)) = (cast v k d).bind fun v' => R.map fun r => (if v' = .no then [] else [iV (l, v')]) ++ r := fun l v k d R h1 h2 => by
    by_cases hd : d = .no
    · subst hd; simp
    · rw [if_neg hd]
      cases e : cast v k d with
      | none => rfl
      | some v' => simp [kk h1 h2 e hd]
  have sqc : ∀ (r : Str × Wd → Option Va) (l : Str) (d : Wd) (L : List (Str × Wd)), sq r ((if d = .no then [] else [(l, d)]) ++ L) = if d = .no then sq r L else (r (l, d)).bind fun v => (sq r L).map (iV (l, v) :: ·) := fun r l d L => by
    by_cases hd : d = .no <;> simp [hd, sq]
  have last : ∀ (r : Str × Wd → Option Va) (l : Str) (d : Wd), sq r (if d = .no then [] else [(l, d)]) = if d = .no then some [] else (r (l, d)).bind fun v => (some []).map (iV (l, v) :: ·) := fun r l d => by
    by_cases hd : d = .no <;> simp [hd, sq]
  unfold fl
  rw [sqc, sqc, sqc, last]
  simp only [gV_a, gV_b, gV_c, gV_d, gf_a, gf_b, gf_c, gf_d]
  rw [one "d" e ke de _ h.2.2.2 hc.2.2.2, one "c" c kc dc _ h.2.2.1 hc.2.2.1, one "b" b kb db _ h.2.1 hc.2.1, one "a" a ka da _ h.1 hc.1]
  cases cast a ka da <;> cases cast b kb db <;> cases cast c kc dc <;> cases cast e ke de <;> simp [fV]
  rename_i a' b' c' e'
  by_cases h1 : a' = .no <;> by_cases h2 : b' = .no <;> by_cases h3 : c' = .no <;> by_cases h4 : e' = .no <;> simp [h1, h2, h3, h4]
theorem gV_ok {a b c d : Va} (h : okV (.rc a b c d)) {l : Str} {s : Va} (e : oV (gV a b c d l) = some s) : okV s := by
  unfold oV at e
  split at e
  · cases e
  · rename_i hn
    cases e
    obtain ⟨h1, h2, h3, h4⟩ := h
    revert hn
    unfold gV
    split
    · exact fun hn => h1.resolve_left hn
    · split
      · exact fun hn => h2.resolve_left hn
      · split
        · exact fun hn => h3.resolve_left hn
        · split
          · exact fun hn => h4.resolve_left hn
          · exact fun hn => absurd rfl hn
theorem gV_hv {a b c d : Va} {n : Nat} (h : hv (.rc a b c d) ≤ n + 1) {l : Str} : hv (gV a b c d l) ≤ n := by
  simp only [hv] at h
  unfold gV
  split
  · omega
  · split
    · omega
    · split
      · omega
      · split
        · omega
        · simp [hv]
/-- a field that is due is there, in type and value -/
theorem due_there {a b c e : Va} {ka kb kc ke da db dc de : Wd} (h : has (.rc a b c e) (.rc ka kb kc ke) = true) (hc : cbl (.rc ka kb kc ke) (.rc da db dc de) = true) {p : Str × Wd} (m : p ∈ fl da db dc de) :
    oV (gV a b c e p.1) = some (gV a b c e p.1) ∧ ow (gf ka kb kc ke p.1) = some (gf ka kb kc ke p.1) ∧ has (gV a b c e p.1) (gf ka kb kc ke p.1) = true ∧ cbl (gf ka kb kc ke p.1) p.2 = true := by
  simp only [has, Bool.and_eq_true] at h
  simp only [cbl, Bool.and_eq_true] at hc
  obtain ⟨hn, e⟩ := fl_mem m
  have k : ∀ {v : Va} {k d : Wd}, has v k = true → cbl k d = true → d ≠ .no → oV v = some v ∧ ow k = some k := fun {v k d} h1 h2 h3 => by
    have hk : k ≠ .no := fun z => by subst z; cases d <;> simp [cbl] at h2 h3
    have hv : v ≠ .no := fun z => by subst z; exact hk (has_no'.mp h1)
    simp [oV, ow, hk, hv]
  rcases e with rfl | rfl | rfl | rfl
  · simp only [gV_a, gf_a]; exact ⟨(k h.1 hc.1 hn).1, (k h.1 hc.1 hn).2, h.1, hc.1⟩
  · simp only [gV_b, gf_b]; exact ⟨(k h.2.1 hc.2.1 hn).1, (k h.2.1 hc.2.1 hn).2, h.2.1, hc.2.1⟩
  · simp only [gV_c, gf_c]; exact ⟨(k h.2.2.1 hc.2.2.1 hn).1, (k h.2.2.1 hc.2.2.1 hn).2, h.2.2.1, hc.2.2.1⟩
  · simp only [gV_d, gf_d]; exact ⟨(k h.2.2.2 hc.2.2.2 hn).1, (k h.2.2.2 hc.2.2.2 hn).2, h.2.2.2, hc.2.2.2⟩
theorem loop_ok {n : Nat} {a b c e : Va} {ka kb kc ke : Wd} {r : Str × Wd → Option Va} {v0 v1 v2 : D} : ∀ (L : List (Str × Wd)) (acc : List D) (z7 z8 z9 : Sl), Bd z7 → Bd z8 → Bd z9 → acc.length + L.length ≤ 8 →
    (∀ p ∈ L, oV (gV a b c e p.1) = some (gV a b c e p.1) ∧ ow (gf ka kb kc ke p.1) = some (gf ka kb kc ke p.1) ∧ G n .f_cast_wide [encV (gV a b c e p.1), enc (gf ka kb kc ke p.1), enc p.2, nm] = some (encR (r p), false, [])) →
    match sq r L with
    | some ys => ∃ y7 y8 y9, forD (hTup 2 (hCons (hNm 7) (hCons (hNm 8) hNil))) (l_cast_wide_0 (G n)) (L.map it) [.sh v0, .sh v1, .sh v2, .sh nm, .ow (dicT (tV (fV a b c e))), .ow (dicT (tb (fl ka kb kc ke))), .ow (.lst acc), z7, z8, z9] =
        some (.nx, [.sh v0, .sh v1, .sh v2, .sh nm, .ow (dicT (tV (fV a b c e))), .ow (dicT (tb (fl ka kb kc ke))), .ow (.lst (acc ++ ys)), y7, y8, y9])
    | none => ∃ ρ', finB [false, false, false, false] 0 ρ' = some [] ∧ forD (hTup 2 (hCons (hNm 7) (hCons (hNm 8) hNil))) (l_cast_wide_0 (G n)) (L.map it) [.sh v0, .sh v1, .sh v2, .sh nm, .ow (dicT (tV (fV a b c e))), .ow (dicT (tb (fl ka kb kc ke))), .ow (.lst acc), z7, z8, z9] = some (.rt (encR none) false, ρ')
  | [], acc, z7, z8, z9, _, _, _, _, _ => by simp [sq]
  | p :: L, acc, z7, z8, z9, h7, h8, h9, hl, hp => by
    obtain ⟨g1, g2, g3⟩ := hp p List.mem_cons_self
    simp only [List.length_cons] at hl
    unfold sq
    cases hr : r p with
    | none =>
      rw [hr] at g3
      simp only [Option.bind_none]
      refine ⟨[.sh v0, .sh v1, .sh v2, .sh nm, .ow (dicT (tV (fV a b c e))), .ow (dicT (tb (fl ka kb kc ke))), .ow (.lst acc), .sh (.str p.1), .sh (enc p.2), .sh (encR none)], rfl, ?_⟩
      simp [forD_cons, kB_Bd h7, kB_Bd h8, kB_Bd h9, it, l_cast_wide_0, look_tV, look_tb, g1, g2, g3, encR]
    | some v =>
      rw [hr] at g3
      have ih := loop_ok (n := n) (v0 := v0) (v1 := v1) (v2 := v2) (r := r) L (acc ++ [iV (p.1, v)]) (.sh (.str p.1)) (.sh (enc p.2)) (.sh (encR (some v))) Bd_sh Bd_sh Bd_sh (by simp; omega) (fun q m => hp q (List.mem_cons_of_mem _ m))
      simp only [Option.bind_some]
      have st : forD (hTup 2 (hCons (hNm 7) (hCons (hNm 8) hNil))) (l_cast_wide_0 (G n)) ((p :: L).map it) [.sh v0, .sh v1, .sh v2, .sh nm, .ow (dicT (tV (fV a b c e))), .ow (dicT (tb (fl ka kb kc ke))), .ow (.lst acc), z7, z8, z9] =
          forD (hTup 2 (hCons (hNm 7) (hCons (hNm 8) hNil))) (l_cast_wide_0 (G n)) (L.map it) [.sh v0, .sh v1, .sh v2, .sh nm, .ow (dicT (tV (fV a b c e))), .ow (dicT (tb (fl ka kb kc ke))), .ow (.lst (acc ++ [iV (p.1, v)])), .sh (.str p.1), .sh (enc p.2), .sh (encR (some v))] := by
        have al : acc.length < 100000 := by omega
        simp [forD_cons, kB_Bd h7, kB_Bd h8, kB_Bd h9, it, l_cast_wide_0, look_tV, look_tb, g1, g2, g3, encR, strOf_inj, al, iV]
      rw [st]
      cases hs : sq r L with
      | none => rw [hs] at ih; exact ih
      | some ys => rw [hs] at ih; simpa using ih
end K75

/-! k75: casts on data -/
namespace K75
open DV L2 PySem PySem.Spec PyProof.Rows
theorem lit_ok {v : Va} : D.tup [.str "ok", encV v] = encR (some v) := rfl
theorem lit_bl : D.tup [.str "blame", nm] = encR none := rfl
theorem lit_tag {k : Wd} {v : Va} : D.tup [.str "tag", enc k, encV v] = encV (.tag k v) := rfl
theorem lit_wrap {k d : Wd} {v : Va} : D.tup [.str "wrap", encV v, enc k, enc d, nm] = encV (.wrap v k d) := rfl
theorem ok_no {k : Wd} (h : ok k) : k ≠ .no := fun e => by rw [e] at h; exact h
theorem sq_len {r : Str × Wd → Option Va} : ∀ {L : List (Str × Wd)} {ys : List D}, sq r L = some ys → ys.length = L.length
  | [], ys, h => by cases h; rfl
  | p :: L, ys, h => by
    unfold sq at h
    obtain ⟨v, _, h⟩ := Option.bind_eq_some_iff.mp h
    obtain ⟨zs, hz, rfl⟩ := Option.map_eq_some_iff.mp h
    simp [sq_len hz]
theorem dict_V {a b c e : Va} {ρ1 ρ2 ρ3 ρ4 ρ5 ρ6 ρ9 : Sl} {v : D} : dcompD [7, 8] (hTup 2 (hCons (hNm 7) (hCons (hNm 8) hNil))) tYesD (gNm 7) (gNm 8) ((fV a b c e).map iV) [.sh v, ρ1, ρ2, ρ3, ρ4, ρ5, ρ6, .no, .no, ρ9] (dicT []) = some (dicT (tV (fV a b c e)), [.sh v, ρ1, ρ2, ρ3, ρ4, ρ5, ρ6, .no, .no, ρ9]) := by
  rw [dcomp_map (key := fun p : Str × Va => p.1) (f := fun p => encV p.2)]
  · rfl
  · intro p hp
    exact ⟨[.sh v, ρ1, ρ2, ρ3, ρ4, ρ5, ρ6, .sh (.str p.1), .sh (encV p.2), ρ9], rfl, fun ds acc => by rw [dcompD_cons]; simp [iV]⟩
  · exact fV_nodup
  · intro p m; cases m
  · have := fV_len (a := a) (b := b) (c := c) (d := e)
    simp [SZ] <;> omega
theorem cast_wide_ok : ∀ (n e : Nat) (v : Va) (k d : Wd), okV v → ok k → ok d → hv v ≤ e → 2 * e + 25 ≤ n → e ≤ 60 → dep k ≤ 18 → dep d ≤ 18 → has v k = true → cbl k d = true → G n .f_cast_wide [encV v, enc k, enc d, nm] = some (encR (cast v k d), false, [])
  | 0, e, v, k, d, _, _, _, _, h, _, _, _, _, _ => absurd h (by omega)
  | 1, e, v, k, d, _, _, _, _, h, _, _, _, _, _ => absurd h (by omega)
  | n + 2, 0, v, k, d, hv0, _, _, h, _, _, _, _, _, _ => by exfalso; cases v <;> simp [hv, okV] at h hv0
  | n + 2, e + 1, v, k, d, kv, kk, kd, he, hn, h60, dk, dd, h, hc => by
    have q := eq_enc kk (y := d) (by omega) (by omega)
    have q1 := eq_any kk (by omega)
    have q2 := eq_any kd (by omega)
    rw [G_succ]
    by_cases hs : k = d
    · subst hs
      rw [cast_self (ok_no kk)]
      simp [bd, at_run, b_cast_wide, q, encR]
    by_cases ha : d = .any
    · subst ha
      rw [cast_any hs]
      simp [bd, at_run, b_cast_wide, q, q2, hs, encR, encV]
    by_cases hk : k = .any
    · subst hk
      cases v <;> simp [has] at h
      rename_i k' x
      rw [cast_tag ha (ok_no kd)]
      simp only [hv] at he
      have e1 := could_be_ok n 19 k' d kv.1 kd (by omega) (by omega) (by omega) (by omega)
      have u : G (n + 1) .f_untagged [encV (.tag k' x), enc d, nm] = some (encR (if cbl k' d = true then cast x k' d else none), false, []) := by
        rw [G_succ]
        cases hb : cbl k' d with
        | false => rw [hb] at e1; simp [bd, at_run, b_untagged, e1, lit_bl]
        | true =>
          rw [hb] at e1
          have e2 := cast_wide_ok n e x k' d kv.2 kv.1 kd (by omega) (by omega) (by omega) (by omega) (by omega) h.2 hb
          simp [bd, at_run, b_untagged, e1, e2]
      simp [bd, at_run, b_cast_wide, q, q1, q2, ha, hs, u]
    cases k with
    | no => exact kk.elim
    | any => exact absurd rfl hk
    | int => cases d <;> simp [cbl] at hc <;> first | exact kd.elim | exact absurd rfl ha | exact absurd rfl hs
    | bool => cases d <;> simp [cbl] at hc <;> first | exact kd.elim | exact absurd rfl ha | exact absurd rfl hs
    | fn a b =>
      cases d <;> simp [cbl] at hc <;> first | exact kd.elim | exact absurd rfl ha | skip
      rw [cast_fn h, if_neg hs]
      simp [bd, at_run, b_cast_wide, q, q1, q2, ha, hs, encR, encV, strOf_inj]
    | rc ka kb kc ke =>
      cases d <;> simp only [cbl] at hc <;> try (first | exact kd.elim | exact absurd rfl ha | (cases hc; done))
      rename_i da db dc de
      have hc0 : cbl (.rc ka kb kc ke) (.rc da db dc de) = true := by simpa only [cbl] using hc
      cases v <;> simp only [has] at h <;> try (cases h; done)
      rename_i a b c x
      have h0 : has (.rc a b c x) (.rc ka kb kc ke) = true := by simpa only [has] using h
      have ef := fields_ok n ka kb kc ke
      have lp := loop_ok (n := n + 1) (a := a) (b := b) (c := c) (e := x) (ka := ka) (kb := kb) (kc := kc) (ke := ke) (r := fun p => cast (gV a b c x p.1) (gf ka kb kc ke p.1) p.2) (v0 := encV (.rc a b c x)) (v1 := enc (.rc ka kb kc ke)) (v2 := enc (.rc da db dc de)) (fl da db dc de) [] .no .no .no Bd_no Bd_no Bd_no (by have := fl_len (a := da) (b := db) (c := dc) (d := de); simp; omega) (fun p hp => by
        obtain ⟨g1, g2, g3, g4⟩ := due_there h0 hc0 hp
        refine ⟨g1, g2, ?_⟩
        exact cast_wide_ok (n + 1) e _ _ _ (gV_ok kv g1) (gf_ok kk g2) (fl_ok kd hp) (gV_hv he) (by omega) (by omega) (Nat.le_of_lt_succ (Nat.lt_succ_of_lt (gf_dep (n := 18) (by omega) g2))) (Nat.le_of_lt_succ (Nat.lt_succ_of_lt (fl_dep (n := 18) (by omega) hp))) g3 g4)
      rw [sq_fl h0 hc0] at lp
      rw [cast_rc h0]
      have e0 : (D.dic [] []) = dicT [] := rfl
      have fin_none : (∃ ρ', finB [false, false, false, false] 0 ρ' = some [] ∧ forD (hTup 2 (hCons (hNm 7) (hCons (hNm 8) hNil))) (l_cast_wide_0 (G (n + 1))) ((fl da db dc de).map it) [.sh (encV (.rc a b c x)), .sh (enc (.rc ka kb kc ke)), .sh (enc (.rc da db dc de)), .sh nm, .ow (dicT (tV (fV a b c x))), .ow (dicT (tb (fl ka kb kc ke))), .ow (.lst []), .no, .no, .no] = some (.rt (encR none) false, ρ')) →
          bd (G (n + 1)) .f_cast_wide [encV (.rc a b c x), enc (.rc ka kb kc ke), enc (.rc da db dc de), nm] = some (encR none, false, []) := fun ⟨ρ', hf, hl⟩ => by
        simp [bd, at_run, b_cast_wide, q, q1, q2, hs, ef, strOf_inj]
        rw [e0, dict_V]
        simp [hl, hf, ef]
      have fin_some : ∀ a' b' c' x', (∃ y7 y8 y9, forD (hTup 2 (hCons (hNm 7) (hCons (hNm 8) hNil))) (l_cast_wide_0 (G (n + 1))) ((fl da db dc de).map it) [.sh (encV (.rc a b c x)), .sh (enc (.rc ka kb kc ke)), .sh (enc (.rc da db dc de)), .sh nm, .ow (dicT (tV (fV a b c x))), .ow (dicT (tb (fl ka kb kc ke))), .ow (.lst []), .no, .no, .no] = some (.nx, [.sh (encV (.rc a b c x)), .sh (enc (.rc ka kb kc ke)), .sh (enc (.rc da db dc de)), .sh nm, .ow (dicT (tV (fV a b c x))), .ow (dicT (tb (fl ka kb kc ke))), .ow (.lst ([] ++ (fV a' b' c' x').map iV)), y7, y8, y9])) →
          bd (G (n + 1)) .f_cast_wide [encV (.rc a b c x), enc (.rc ka kb kc ke), enc (.rc da db dc de), nm] = some (encR (some (.rc a' b' c' x')), false, []) := fun a' b' c' x' ⟨y7, y8, y9, hl⟩ => by
        have er := encV_rc (a := a') (b := b') (c := c') (d := x')
        simp [bd, at_run, b_cast_wide, q, q1, q2, hs, ef, strOf_inj]
        rw [e0, dict_V]
        simp at hl
        simp [hl, ef, encR, er]
      cases ea : cast a ka da with
      | none => rw [ea] at lp; exact fin_none (by simpa using lp)
      | some a' =>
        cases eb : cast b kb db with
        | none => rw [ea, eb] at lp; exact fin_none (by simpa using lp)
        | some b' =>
          cases ec : cast c kc dc with
          | none => rw [ea, eb, ec] at lp; exact fin_none (by simpa using lp)
          | some c' =>
            cases ee : cast x ke de with
            | none => rw [ea, eb, ec, ee] at lp; exact fin_none (by simpa using lp)
            | some x' => rw [ea, eb, ec, ee] at lp; exact fin_some a' b' c' x' (by simpa using lp)
end K75

/-! k75: the law's own cast (LXf, LXg turned) -/
namespace K75
open DV L2 PySem PySem.Spec PyProof.Rows
theorem law_loop_ok {n : Nat} {a b c e : Va} {ka kb kc ke : Wd} {r : Str × Wd → Option Va} {v0 v1 v2 : D} : ∀ (L : List (Str × Wd)) (acc : List D) (z7 z8 z9 : Sl), Bd z7 → Bd z8 → Bd z9 → acc.length + L.length ≤ 8 →
    (∀ p ∈ L, oV (gV a b c e p.1) = some (gV a b c e p.1) ∧ ow (gf ka kb kc ke p.1) = some (gf ka kb kc ke p.1) ∧ G n .f__law_cast [encV (gV a b c e p.1), enc (gf ka kb kc ke p.1), enc p.2, nm] = some (encR (r p), false, [])) →
    match sq r L with
    | some ys => ∃ y7 y8 y9, forD (hTup 2 (hCons (hNm 7) (hCons (hNm 8) hNil))) (l__law_cast_0 (G n)) (L.map it) [.sh v0, .sh v1, .sh v2, .sh nm, .sh (dicT (tV (fV a b c e))), .sh (dicT (tb (fl ka kb kc ke))), .ow (.lst acc), z7, z8, z9] =
        some (.nx, [.sh v0, .sh v1, .sh v2, .sh nm, .sh (dicT (tV (fV a b c e))), .sh (dicT (tb (fl ka kb kc ke))), .ow (.lst (acc ++ ys)), y7, y8, y9])
    | none => ∃ ρ', finB [false, false, false, false] 0 ρ' = some [] ∧ forD (hTup 2 (hCons (hNm 7) (hCons (hNm 8) hNil))) (l__law_cast_0 (G n)) (L.map it) [.sh v0, .sh v1, .sh v2, .sh nm, .sh (dicT (tV (fV a b c e))), .sh (dicT (tb (fl ka kb kc ke))), .ow (.lst acc), z7, z8, z9] = some (.rt (encR none) false, ρ')
  | [], acc, z7, z8, z9, _, _, _, _, _ => by simp [sq]
  | p :: L, acc, z7, z8, z9, h7, h8, h9, hl, hp => by
    obtain ⟨g1, g2, g3⟩ := hp p List.mem_cons_self
    simp only [List.length_cons] at hl
    unfold sq
    cases hr : r p with
    | none =>
      rw [hr] at g3
      simp only [Option.bind_none]
      refine ⟨[.sh v0, .sh v1, .sh v2, .sh nm, .sh (dicT (tV (fV a b c e))), .sh (dicT (tb (fl ka kb kc ke))), .ow (.lst acc), .sh (.str p.1), .sh (enc p.2), .sh (encR none)], rfl, ?_⟩
      simp [forD_cons, kB_Bd h7, kB_Bd h8, kB_Bd h9, it, l__law_cast_0, look_tV, look_tb, g1, g2, g3, encR]
    | some v =>
      rw [hr] at g3
      have ih := law_loop_ok (n := n) (v0 := v0) (v1 := v1) (v2 := v2) (r := r) L (acc ++ [iV (p.1, v)]) (.sh (.str p.1)) (.sh (enc p.2)) (.sh (encR (some v))) Bd_sh Bd_sh Bd_sh (by simp; omega) (fun q m => hp q (List.mem_cons_of_mem _ m))
      simp only [Option.bind_some]
      have st : forD (hTup 2 (hCons (hNm 7) (hCons (hNm 8) hNil))) (l__law_cast_0 (G n)) ((p :: L).map it) [.sh v0, .sh v1, .sh v2, .sh nm, .sh (dicT (tV (fV a b c e))), .sh (dicT (tb (fl ka kb kc ke))), .ow (.lst acc), z7, z8, z9] =
          forD (hTup 2 (hCons (hNm 7) (hCons (hNm 8) hNil))) (l__law_cast_0 (G n)) (L.map it) [.sh v0, .sh v1, .sh v2, .sh nm, .sh (dicT (tV (fV a b c e))), .sh (dicT (tb (fl ka kb kc ke))), .ow (.lst (acc ++ [iV (p.1, v)])), .sh (.str p.1), .sh (enc p.2), .sh (encR (some v))] := by
        have al : acc.length < 100000 := by omega
        simp [forD_cons, kB_Bd h7, kB_Bd h8, kB_Bd h9, it, l__law_cast_0, look_tV, look_tb, g1, g2, g3, encR, strOf_inj, al, iV]
      rw [st]
      cases hs : sq r L with
      | none => rw [hs] at ih; exact ih
      | some ys => rw [hs] at ih; simpa using ih
theorem law_cast_ok : ∀ (n e : Nat) (v : Va) (k d : Wd), okV v → ok k → ok d → hv v ≤ e → 2 * e + 25 ≤ n → e ≤ 60 → dep k ≤ 18 → dep d ≤ 18 → has v k = true → cbl k d = true → G n .f__law_cast [encV v, enc k, enc d, nm] = some (encR (cast v k d), false, [])
  | 0, e, v, k, d, _, _, _, _, h, _, _, _, _, _ => absurd h (by omega)
  | 1, e, v, k, d, _, _, _, _, h, _, _, _, _, _ => absurd h (by omega)
  | n + 2, 0, v, k, d, hv0, _, _, h, _, _, _, _, _, _ => by exfalso; cases v <;> simp [hv, okV] at h hv0
  | n + 2, e + 1, v, k, d, kv, kk, kd, he, hn, h60, dk, dd, h, hc => by
    have q := eq_enc kk (y := d) (by omega) (by omega)
    have q1 := eq_any kk (by omega)
    have q2 := eq_any kd (by omega)
    rw [G_succ]
    by_cases hs : k = d
    · subst hs
      rw [cast_self (ok_no kk)]
      simp [bd, at_run, b__law_cast, lit_any, q, encR]
    by_cases ha : d = .any
    · subst ha
      rw [cast_any hs]
      simp [bd, at_run, b__law_cast, lit_any, q, q2, hs, encR, encV]
    by_cases hk : k = .any
    · subst hk
      cases v <;> simp [has] at h
      rename_i k' x
      rw [cast_tag ha (ok_no kd)]
      simp only [hv] at he
      have e1 := law_forms_ok (n + 1) 19 k' d kv.1 kd (by omega) (by omega) (by omega) (by omega)
      cases hb : cbl k' d with
      | false => rw [hb] at e1; simp [bd, at_run, b__law_cast, lit_any, q, q1, q2, ha, hs, e1, lit_bl]
      | true =>
        rw [hb] at e1
        have e2 := law_cast_ok (n + 1) e x k' d kv.2 kv.1 kd (by omega) (by omega) (by omega) (by omega) (by omega) h.2 hb
        simp [bd, at_run, b__law_cast, lit_any, q, q1, q2, ha, hs, e1, e2]
    cases k with
    | no => exact kk.elim
    | any => exact absurd rfl hk
    | int => cases d <;> simp [cbl] at hc <;> first | exact kd.elim | exact absurd rfl ha | exact absurd rfl hs
    | bool => cases d <;> simp [cbl] at hc <;> first | exact kd.elim | exact absurd rfl ha | exact absurd rfl hs
    | fn a b =>
      cases d <;> simp [cbl] at hc <;> first | exact kd.elim | exact absurd rfl ha | skip
      rw [cast_fn h, if_neg hs]
      simp [bd, at_run, b__law_cast, lit_any, q, q1, q2, ha, hs, encR, encV, strOf_inj]
    | rc ka kb kc ke =>
      cases d <;> simp only [cbl] at hc <;> try (first | exact kd.elim | exact absurd rfl ha | (cases hc; done))
      rename_i da db dc de
      have hc0 : cbl (.rc ka kb kc ke) (.rc da db dc de) = true := by simpa only [cbl] using hc
      cases v <;> simp only [has] at h <;> try (cases h; done)
      rename_i a b c x
      have h0 : has (.rc a b c x) (.rc ka kb kc ke) = true := by simpa only [has] using h
      have ef := dict_fl (a := ka) (b := kb) (c := kc) (d := ke)
      have ev := dict_fV (a := a) (b := b) (c := c) (d := x)
      have lp := law_loop_ok (n := n + 1) (a := a) (b := b) (c := c) (e := x) (ka := ka) (kb := kb) (kc := kc) (ke := ke) (r := fun p => cast (gV a b c x p.1) (gf ka kb kc ke p.1) p.2) (v0 := encV (.rc a b c x)) (v1 := enc (.rc ka kb kc ke)) (v2 := enc (.rc da db dc de)) (fl da db dc de) [] .no .no .no Bd_no Bd_no Bd_no (by have := fl_len (a := da) (b := db) (c := dc) (d := de); simp; omega) (fun p hp => by
        obtain ⟨g1, g2, g3, g4⟩ := due_there h0 hc0 hp
        refine ⟨g1, g2, ?_⟩
        exact law_cast_ok (n + 1) e _ _ _ (gV_ok kv g1) (gf_ok kk g2) (fl_ok kd hp) (gV_hv he) (by omega) (by omega) (Nat.le_of_lt_succ (Nat.lt_succ_of_lt (gf_dep (n := 18) (by omega) g2))) (Nat.le_of_lt_succ (Nat.lt_succ_of_lt (fl_dep (n := 18) (by omega) hp))) g3 g4)
      rw [sq_fl h0 hc0] at lp
      rw [cast_rc h0]
      have fin_none : (∃ ρ', finB [false, false, false, false] 0 ρ' = some [] ∧ forD (hTup 2 (hCons (hNm 7) (hCons (hNm 8) hNil))) (l__law_cast_0 (G (n + 1))) ((fl da db dc de).map it) [.sh (encV (.rc a b c x)), .sh (enc (.rc ka kb kc ke)), .sh (enc (.rc da db dc de)), .sh nm, .sh (dicT (tV (fV a b c x))), .sh (dicT (tb (fl ka kb kc ke))), .ow (.lst []), .no, .no, .no] = some (.rt (encR none) false, ρ')) →
          bd (G (n + 1)) .f__law_cast [encV (.rc a b c x), enc (.rc ka kb kc ke), enc (.rc da db dc de), nm] = some (encR none, false, []) := fun ⟨ρ', hf, hl⟩ => by
        simp [bd, at_run, b__law_cast, lit_any, q, q1, q2, hs, ef, ev, strOf_inj]
        simp [hl, hf]
      have fin_some : ∀ a' b' c' x', (∃ y7 y8 y9, forD (hTup 2 (hCons (hNm 7) (hCons (hNm 8) hNil))) (l__law_cast_0 (G (n + 1))) ((fl da db dc de).map it) [.sh (encV (.rc a b c x)), .sh (enc (.rc ka kb kc ke)), .sh (enc (.rc da db dc de)), .sh nm, .sh (dicT (tV (fV a b c x))), .sh (dicT (tb (fl ka kb kc ke))), .ow (.lst []), .no, .no, .no] = some (.nx, [.sh (encV (.rc a b c x)), .sh (enc (.rc ka kb kc ke)), .sh (enc (.rc da db dc de)), .sh nm, .sh (dicT (tV (fV a b c x))), .sh (dicT (tb (fl ka kb kc ke))), .ow (.lst ([] ++ (fV a' b' c' x').map iV)), y7, y8, y9])) →
          bd (G (n + 1)) .f__law_cast [encV (.rc a b c x), enc (.rc ka kb kc ke), enc (.rc da db dc de), nm] = some (encR (some (.rc a' b' c' x')), false, []) := fun a' b' c' x' ⟨y7, y8, y9, hl⟩ => by
        have er := encV_rc (a := a') (b := b') (c := c') (d := x')
        simp [bd, at_run, b__law_cast, lit_any, q, q1, q2, hs, ef, ev, strOf_inj]
        simp at hl
        simp [hl, encR, er]
      cases ea : cast a ka da with
      | none => rw [ea] at lp; exact fin_none (by simpa using lp)
      | some a' =>
        cases eb : cast b kb db with
        | none => rw [ea, eb] at lp; exact fin_none (by simpa using lp)
        | some b' =>
          cases ec : cast c kc dc with
          | none => rw [ea, eb, ec] at lp; exact fin_none (by simpa using lp)
          | some c' =>
            cases ee : cast x ke de with
            | none => rw [ea, eb, ec, ee] at lp; exact fin_none (by simpa using lp)
            | some x' => rw [ea, eb, ec, ee] at lp; exact fin_some a' b' c' x' (by simpa using lp)
end K75

/-! k75: what is seen, fewer fields, drawn values on data -/
namespace K75
open DV L2 PySem PySem.Spec PyProof.Rows
theorem shown_ok : ∀ (n e : Nat) (v : Va), okV v → hv v ≤ e → e < n → G n .f_shown_wide [encV v] = some (sh v, false, [])
  | 0, e, v, _, _, h => absurd h (by omega)
  | n + 1, 0, v, hv0, h, _ => by exfalso; cases v <;> simp [hv, okV] at h hv0
  | n + 1, e + 1, v, kv, he, hn => by
    have ih := fun v a b => shown_ok n e v a b (by omega)
    rw [G_succ]
    cases v with
    | no => exact kv.elim
    | int i => simp [bd, at_run, b_shown_wide, in2, strOf_inj]; rfl
    | bool i => simp [bd, at_run, b_shown_wide, in2, strOf_inj]; rfl
    | name => simp [bd, at_run, b_shown_wide, in2, strOf_inj]; rfl
    | wrap x k d => simp [bd, at_run, b_shown_wide, in2, strOf_inj]; rfl
    | tag k x =>
      simp only [hv] at he
      have e1 := ih x kv.2 (by omega)
      simp [bd, at_run, b_shown_wide, in2, strOf_inj, e1, sh]
    | rc a b c d =>
      simp [bd, at_run, b_shown_wide, in2, strOf_inj]
      rw [comp_map (f := iS)]
      · simp [sh_rc, fV_sz]
      · intro p hp ds
        rw [compD_cons]
        have e1 := ih p.2 (fV_ok kv hp) (has_hv he hp)
        simp [iV, iS, e1]
theorem few_no {v : Va} {d : Wd} (h : d ≠ .no → v ≠ .no) : few v d = .no ↔ d = .no := by
  cases d <;> cases v <;> simp [few] at h ⊢
theorem fl_few {a b c e : Va} {da db dc de : Wd} (h1 : da ≠ .no → a ≠ .no) (h2 : db ≠ .no → b ≠ .no) (h3 : dc ≠ .no → c ≠ .no) (h4 : de ≠ .no → e ≠ .no) :
    (fl da db dc de).map (fun p => iV (p.1, few (gV a b c e p.1) p.2)) = (fV (few a da) (few b db) (few c dc) (few e de)).map iV := by
  unfold fl fV
  simp only [few_no h1, few_no h2, few_no h3, few_no h4]
  by_cases ha : da = .no <;> by_cases hb : db = .no <;> by_cases hc : dc = .no <;> by_cases hd : de = .no <;> simp [ha, hb, hc, hd]
theorem few_nos {a b c e : Va} {ka kb kc ke da db dc de : Wd} (h : has (.rc a b c e) (.rc ka kb kc ke) = true) (hu : und (.rc ka kb kc ke) (.rc da db dc de) = true) :
    (da ≠ .no → a ≠ .no) ∧ (db ≠ .no → b ≠ .no) ∧ (dc ≠ .no → c ≠ .no) ∧ (de ≠ .no → e ≠ .no) := by
  simp only [has, Bool.and_eq_true] at h
  simp only [und, Bool.and_eq_true] at hu
  have k : ∀ {v : Va} {k d : Wd}, has v k = true → und k d = true → d ≠ .no → v ≠ .no := fun {v k d} h1 h2 h3 e => by
    subst e
    rw [has_no'] at h1
    subst h1
    cases d <;> simp [und] at h2 h3
  exact ⟨k h.1 hu.1.1.1, k h.2.1 hu.1.1.2, k h.2.2.1 hu.1.2, k h.2.2.2 hu.2⟩
theorem fewer_ok : ∀ (n e : Nat) (v : Va) (k d : Wd), okV v → ok d → hv v ≤ e → e < n → has v k = true → und k d = true → G n .f_fewer_fields [encV v, enc d] = some (encV (few v d), false, [])
  | 0, e, v, k, d, _, _, _, h, _, _ => absurd h (by omega)
  | n + 1, 0, v, k, d, hv0, _, h, _, _, _ => by exfalso; cases v <;> simp [hv, okV] at h hv0
  | n + 1, e + 1, v, k, d, kv, kd, he, hn, h, hu => by
    have ih := fun v k d a b c h hu => fewer_ok n e v k d a b c (by omega) h hu
    rw [G_succ]
    cases v with
    | no => exact kv.elim
    | int i => cases d <;> first | exact kd.elim | simp [bd, at_run, b_fewer_fields, strOf_inj, few]
    | bool i => cases d <;> first | exact kd.elim | simp [bd, at_run, b_fewer_fields, strOf_inj, few]
    | name => cases d <;> first | exact kd.elim | simp [bd, at_run, b_fewer_fields, strOf_inj, few]
    | wrap x k1 d1 => cases d <;> first | exact kd.elim | simp [bd, at_run, b_fewer_fields, strOf_inj, few]
    | tag k1 x => cases d <;> first | exact kd.elim | simp [bd, at_run, b_fewer_fields, strOf_inj, few]
    | rc a b c x =>
      cases k <;> simp only [has] at h <;> try (cases h; done)
      rename_i ka kb kc ke
      have h0 : has (.rc a b c x) (.rc ka kb kc ke) = true := by simpa only [has] using h
      cases d <;> simp only [und] at hu <;> try (first | exact kd.elim | (cases hu; done))
      rename_i da db dc de
      have hu0 : und (.rc ka kb kc ke) (.rc da db dc de) = true := by simpa only [und] using hu
      obtain ⟨n1, n2, n3, n4⟩ := few_nos h0 hu0
      have ef := fl_few n1 n2 n3 n4
      have er := encV_rc (a := few a da) (b := few b db) (c := few c dc) (d := few x de)
      simp [bd, at_run, b_fewer_fields, strOf_inj, few]
      rw [show (D.dic [] []) = dicT [] from rfl, dcomp_map (key := fun p : Str × Va => p.1) (f := fun p => encV p.2)]
      · simp
        rw [show (fV a b c x).map (fun p => (p.1, encV p.2)) = tV (fV a b c x) from rfl, comp_map (f := fun p : Str × Wd => iV (p.1, few (gV a b c x p.1) p.2))]
        · simp [ef, er, fl_sz]
        · intro p hp ds
          rw [compD_cons]
          obtain ⟨g1, g2, g3, g4⟩ := due_there h0 (und_cbl hu0) hp
          have hup : und (gf ka kb kc ke p.1) p.2 = true := by
            simp only [Bool.and_eq_true] at hu
            obtain ⟨_, e⟩ := fl_mem hp
            rcases e with rfl | rfl | rfl | rfl
            · simpa using hu.1.1.1
            · simpa using hu.1.1.2
            · simpa using hu.1.2
            · simpa using hu.2
          have e1 := ih _ _ _ (gV_ok kv g1) (fl_ok kd hp) (gV_hv he) g3 hup
          simp [it, iV, look_tV, g1, e1]
      · intro p hp
        exact ⟨[.sh (encV (.rc a b c x)), .sh (enc (.rc da db dc de)), .no, .sh (.str p.1), .sh (encV p.2)], rfl, fun ds acc => by rw [dcompD_cons]; simp [iV]⟩
      · exact fV_nodup
      · intro p m; cases m
      · have := fV_len (a := a) (b := b) (c := c) (d := x)
        simp [SZ] <;> omega
theorem law_fewer_ok : ∀ (n e : Nat) (v : Va) (k d : Wd), okV v → ok d → hv v ≤ e → e < n → has v k = true → und k d = true → G n .f__law_fewer [encV v, enc d] = some (encV (few v d), false, [])
  | 0, e, v, k, d, _, _, _, h, _, _ => absurd h (by omega)
  | n + 1, 0, v, k, d, hv0, _, h, _, _, _ => by exfalso; cases v <;> simp [hv, okV] at h hv0
  | n + 1, e + 1, v, k, d, kv, kd, he, hn, h, hu => by
    have ih := fun v k d a b c h hu => law_fewer_ok n e v k d a b c (by omega) h hu
    rw [G_succ]
    cases v with
    | no => exact kv.elim
    | int i => cases d <;> first | exact kd.elim | simp [bd, at_run, b__law_fewer, strOf_inj, few]
    | bool i => cases d <;> first | exact kd.elim | simp [bd, at_run, b__law_fewer, strOf_inj, few]
    | name => cases d <;> first | exact kd.elim | simp [bd, at_run, b__law_fewer, strOf_inj, few]
    | wrap x k1 d1 => cases d <;> first | exact kd.elim | simp [bd, at_run, b__law_fewer, strOf_inj, few]
    | tag k1 x => cases d <;> first | exact kd.elim | simp [bd, at_run, b__law_fewer, strOf_inj, few]
    | rc a b c x =>
      cases k <;> simp only [has] at h <;> try (cases h; done)
      rename_i ka kb kc ke
      have h0 : has (.rc a b c x) (.rc ka kb kc ke) = true := by simpa only [has] using h
      cases d <;> simp only [und] at hu <;> try (first | exact kd.elim | (cases hu; done))
      rename_i da db dc de
      have hu0 : und (.rc ka kb kc ke) (.rc da db dc de) = true := by simpa only [und] using hu
      obtain ⟨n1, n2, n3, n4⟩ := few_nos h0 hu0
      have ef := fl_few n1 n2 n3 n4
      have er := encV_rc (a := few a da) (b := few b db) (c := few c dc) (d := few x de)
      simp [bd, at_run, b__law_fewer, strOf_inj, few, dict_fV]
      rw [comp_map (f := fun p : Str × Wd => iV (p.1, few (gV a b c x p.1) p.2))]
      · simp [ef, er, fl_sz]
      · intro p hp ds
        rw [compD_cons]
        obtain ⟨g1, g2, g3, g4⟩ := due_there h0 (und_cbl hu0) hp
        have hup : und (gf ka kb kc ke p.1) p.2 = true := by
          simp only [Bool.and_eq_true] at hu
          obtain ⟨_, e⟩ := fl_mem hp
          rcases e with rfl | rfl | rfl | rfl
          · simpa using hu.1.1.1
          · simpa using hu.1.1.2
          · simpa using hu.1.2
          · simpa using hu.2
        have e1 := ih _ _ _ (gV_ok kv g1) (fl_ok kd hp) (gV_hv he) g3 hup
        simp [it, iV, look_tV, g1, e1]
end K75

/-! k75: drawn values -/
namespace K75
open DV L2 PySem PySem.Spec PyProof.Rows
def onev (l : Str) (v : Va) : List D := if v = .no then [] else [iV (l, v)]
theorem fV_onev {a b c d : Va} : (fV a b c d).map iV = onev "a" a ++ (onev "b" b ++ (onev "c" c ++ onev "d" d)) := by
  unfold fV onev
  by_cases ha : a = .no <;> by_cases hb : b = .no <;> by_cases hc : c = .no <;> by_cases hd : d = .no <;> simp [ha, hb, hc, hd]
theorem value_int (n : Nat) (s : Dr) (hs : s.ok) (z : Int) : ∃ (v : Va) (s' : Dr), s'.ok ∧ has v .int = true ∧ okV v ∧ hv v ≤ 3 ∧ G (n + 2) .f__law_value [s.d, enc .int, .int z] = some (encV v, false, [s'.d]) := by
  obtain ⟨w, s', o', _, _, e⟩ := draw1 (n := n) hs (lim := 9) (by omega) (by omega)
  have q := eq_any (x := .int) trivial (by decide)
  refine ⟨.int (w - 4), s', o', rfl, trivial, by simp [hv], ?_⟩
  rw [G_succ]
  simp [bd, at_run, b__law_value, lit_any, q, e, strOf_inj, encV]
theorem value_ok : ∀ (n : Nat) (k : Wd) (z : Int) (s : Dr), s.ok → ok k → dep k ≤ 10 → z ≤ 2 → dep k + 2 * z.toNat + 4 ≤ n → ∃ (v : Va) (s' : Dr), s'.ok ∧ has v k = true ∧ okV v ∧ hv v ≤ 3 * dep k + 4 * z.toNat + 4 ∧ G n .f__law_value [s.d, enc k, .int z] = some (encV v, false, [s'.d])
  | 0, k, z, s, _, _, _, _, h => absurd h (by omega)
  | 1, k, z, s, _, _, _, _, h => absurd h (by omega)
  | n + 2, k, z, s, hs, hk, dk, z2, hn => by
    have ih := value_ok (n + 1)
    have q := eq_any hk (by omega)
    cases k with
    | no => exact hk.elim
    | int =>
      obtain ⟨v, s', o', h1, h2, h3, e⟩ := value_int n s hs z
      exact ⟨v, s', o', h1, h2, by omega, e⟩
    | bool =>
      obtain ⟨w, s', o', _, _, e⟩ := draw1 (n := n) hs (lim := 2) (by omega) (by omega)
      refine ⟨.bool (decide (w = 0)), s', o', rfl, trivial, by simp [hv], ?_⟩
      rw [G_succ]
      simp [bd, at_run, b__law_value, lit_any, q, e, strOf_inj, encV]
    | fn a b =>
      refine ⟨.name, s, hs, rfl, trivial, by simp [hv], ?_⟩
      rw [G_succ]
      simp [bd, at_run, b__law_value, lit_any, q, strOf_inj, encV]
    | any =>
      by_cases hz : 0 < z
      · obtain ⟨own, s1, o1, ko, dow, e1⟩ := wide_ok (n + 1) 2 s hs (by omega) (by omega)
        have e1' : G (n + 1) .f__law_wide [s.d, .int 2] = some (enc own, false, [s1.d]) := by simpa using e1
        have ez : (z - 1).toNat + 1 = z.toNat := by omega
        by_cases ha : own = .any
        · subst ha
          obtain ⟨v, s2, o2, h1, h2, h3, e2⟩ := ih .bool (z - 1) s1 o1 trivial (by simp [dep]) (by omega) (by simp [dep]; omega)
          have qn := ne_enc (x := .any) (y := .any) trivial (by decide) (by decide)
          refine ⟨.tag .bool v, s2, o2, by simp [has, h1], ⟨trivial, h2⟩, by simp only [hv, dep] at h3 ⊢; omega, ?_⟩
          rw [G_succ]
          simp [bd, at_run, b__law_value, lit_any, lit_bool, q, e1', hz, qn, e2, encV]
        · obtain ⟨v, s2, o2, h1, h2, h3, e2⟩ := ih own (z - 1) s1 o1 ko (by omega) (by omega) (by omega)
          have qn := ne_enc (x := own) (y := .any) ko (by omega) (by decide)
          refine ⟨.tag own v, s2, o2, by simp [has, h1, ha], ⟨ko, h2⟩, by simp only [hv, dep] at h3 ⊢; omega, ?_⟩
          rw [G_succ]
          simp [bd, at_run, b__law_value, lit_any, q, e1', hz, qn, ha, e2, encV]
      · obtain ⟨m, rfl⟩ : ∃ m, n = m + 1 := ⟨n - 1, by omega⟩
        obtain ⟨v, s2, o2, h1, h2, h3, e2⟩ := value_int m s hs (z - 1)
        have qn := ne_enc (x := .int) (y := .any) trivial (by decide) (by decide)
        refine ⟨.tag .int v, s2, o2, by simp [has, h1], ⟨trivial, h2⟩, by simp only [hv, dep] at h3 ⊢; omega, ?_⟩
        rw [G_succ]
        simp [bd, at_run, b__law_value, lit_any, lit_int, q, hz, qn, e2, encV]
    | rc a b c d =>
      obtain ⟨ka, kb, kc, kd⟩ := hk
      have hd1 : dep a ≤ dep (.rc a b c d) - 1 ∧ dep b ≤ dep (.rc a b c d) - 1 ∧ dep c ≤ dep (.rc a b c d) - 1 ∧ dep d ≤ dep (.rc a b c d) - 1 := by simp only [dep]; omega
      have hdp : 1 ≤ dep (.rc a b c d) := by simp only [dep]; omega
      have st : ∀ (l : Str) (x : Wd) (s : Dr), s.ok → (x = .no ∨ ok x) → dep x ≤ dep (.rc a b c d) - 1 → ∃ (v : Va) (s' : Dr), s'.ok ∧ has v x = true ∧ (v = .no ∨ okV v) ∧ hv v ≤ 3 * dep (.rc a b c d) + 4 * z.toNat + 1 ∧
          compD [4, 5] (hTup 2 (hCons (hNm 4) (hCons (hNm 5) hNil))) tYesD (gTup (gCons (gNm 4) (gCons (shW (gCallD [true, false, false] (G (n + 1) .f__law_value) [] (gBo 0 (gVa (gNm 5) (gVa (gOp2 subI (oNm 2) (oD (fun ρ => some (.int 1, ρ)))) (fun ρ => some ([], ρ))))))) (fun ρ => some ([], ρ)))))
            (one l x) [.bo 0 s.d, .sh (enc (.rc a b c d)), .sh (.int z), .no, .no, .no] = some (onev l v, [.bo 0 s'.d, .sh (enc (.rc a b c d)), .sh (.int z), .no, .no, .no]) := fun l x s hs hx hd => by
        by_cases hn0 : x = .no
        · subst hn0
          exact ⟨.no, s, hs, rfl, .inl rfl, by simp [hv], by simp [one, onev]⟩
        · have kx := hx.resolve_left hn0
          obtain ⟨v, s', o', h1, h2, h3, e⟩ := ih x (z - 1) s hs kx (by omega) (by omega) (by omega)
          refine ⟨v, s', o', h1, .inr h2, by omega, ?_⟩
          simp [one, onev, hn0, okV_ne h2, compD_cons, it, iV, e]
      obtain ⟨va, s1, o1, ha, oa, la, ea⟩ := st "a" a s hs ka hd1.1
      obtain ⟨vb, s2, o2, hb, ob, lb', eb⟩ := st "b" b s1 o1 kb hd1.2.1
      obtain ⟨vc, s3, o3, hc, oc, lc, ec⟩ := st "c" c s2 o2 kc hd1.2.2.1
      obtain ⟨vd, s4, o4, hd, od, ld, ed⟩ := st "d" d s3 o3 kd hd1.2.2.2
      have ee := compD_app ea (compD_app eb (compD_app ec ed))
      rw [← fl_one, ← fV_onev] at ee
      refine ⟨.rc va vb vc vd, s4, o4, by simp [has, ha, hb, hc, hd], ⟨oa, ob, oc, od⟩, by simp only [hv]; omega, ?_⟩
      rw [G_succ, encV_rc]
      simp [bd, at_run, b__law_value, lit_any, q, strOf_inj, ee, fV_sz]
end K75

/-! k75: what repr of a type shows -/
namespace K75
open DV L2 PySem PySem.Spec PyProof.Rows
def Sub (y x : Str) : Prop := ∃ p q : Str, x = p ++ y ++ q
theorem str_cps (a b : Str) : (a ++ b).cps = a.cps ++ b.cps := rfl
theorem str_ext {a b : Str} (h : a.cps.toList = b.cps.toList) : a = b := by
  cases a; cases b
  simp only [Str.mk.injEq]
  exact Array.toList_inj.mp h
theorem app_assoc (a b c : Str) : a ++ b ++ c = a ++ (b ++ c) := str_ext (by simp [str_cps])
theorem Sub.app {y x : Str} (h : Sub y x) (a b : Str) : Sub y (a ++ x ++ b) := by
  obtain ⟨p, q, rfl⟩ := h
  exact ⟨a ++ p, q ++ b, by simp only [app_assoc]⟩
theorem Sub.left {y x : Str} (h : Sub y x) (b : Str) : Sub y (x ++ b) := by
  obtain ⟨p, q, rfl⟩ := h
  exact ⟨p, q ++ b, by simp only [app_assoc]⟩
theorem Sub.right {y x : Str} (h : Sub y x) (a : Str) : Sub y (a ++ x) := by
  obtain ⟨p, q, rfl⟩ := h
  exact ⟨a ++ p, q, by simp only [app_assoc]⟩
theorem Sub.self (y : Str) : Sub y y := ⟨⟨#[]⟩, ⟨#[]⟩, str_ext (by simp [str_cps])⟩
theorem sub_found {x y : Str} (h : Sub y x) : (!(Builtin.Str.occurrences x y 0 x.length 1).isEmpty) = true := by
  obtain ⟨p, q, rfl⟩ := h
  refine (StrLaws.found_iff _ _).mpr ⟨p.length, ?_, ?_⟩
  · rw [strLen_append, strLen_append]; omega
  · unfold Builtin.Str.subAt
    rw [beq_iff_eq]
    refine Array.toList_inj.mp ?_
    have e : p.length = p.cps.toList.length := by rw [Array.length_toList]; rfl
    have e2 : y.length = y.cps.toList.length := by rw [Array.length_toList]; rfl
    rw [Array.toList_extract, str_cps, str_cps, Array.toList_append, Array.toList_append, e, e2]
    simp
theorem sub_join {y t : Str} : ∀ {ts : List Str}, t ∈ ts → Sub y t → Sub y (Str.join ", " ts)
  | [], m, _ => by cases m
  | [x], m, h => by
    rw [List.mem_singleton.mp m] at h
    exact h
  | x :: z :: r, m, h => by
    show Sub y (x ++ ", " ++ Str.join ", " (z :: r))
    rcases List.mem_cons.mp m with rfl | m
    · exact (h.left _).left _
    · exact (sub_join m h).right _
theorem mem_shown : ∀ {xs : List PyData} {x : PyData}, x ∈ xs → x.shown ∈ PyData.shownAll xs
  | [], _, m => by cases m
  | z :: r, x, m => by
    simp only [PyData.shownAll]
    rcases List.mem_cons.mp m with rfl | m
    · exact List.mem_cons_self
    · exact List.mem_cons_of_mem _ (mem_shown m)
theorem sub_tup {y : Str} {xs : List PyData} {x : PyData} (m : x ∈ xs) (h : Sub y x.shown) : Sub y (PyData.tuple xs).shown := by
  simp only [PyData.shown, tupleText]
  exact (sub_join (mem_shown m) h).app _ _
def anyIn : Wd → Bool
  | .any => true
  | .fn a b => anyIn a || anyIn b
  | .rc a b c d => anyIn a || (anyIn b || (anyIn c || anyIn d))
  | _ => false
def fnIn : Wd → Bool
  | .fn _ _ => true
  | .rc a b c d => fnIn a || (fnIn b || (fnIn c || fnIn d))
  | _ => false
theorem pure_of : ∀ k, anyIn k = false → fnIn k = false → pure k = true := by
  intro k
  induction k with
  | rc a b c d iha ihb ihc ihd =>
    intro h1 h2
    simp only [anyIn, fnIn, Bool.or_eq_false_iff] at h1 h2
    simp only [pure, Bool.and_eq_true]
    exact ⟨iha h1.1 h2.1, ihb h1.2.1 h2.2.1, ihc h1.2.2.1 h2.2.2.1, ihd h1.2.2.2 h2.2.2.2⟩
  | _ => simp [anyIn, fnIn, pure]
theorem mk_mem {p q r s : Bool} {a b c d : PyData} : (p = false → .tuple [.str "a", a] ∈ mkP p q r s a b c d) ∧ (q = false → .tuple [.str "b", b] ∈ mkP p q r s a b c d) ∧ (r = false → .tuple [.str "c", c] ∈ mkP p q r s a b c d) ∧ (s = false → .tuple [.str "d", d] ∈ mkP p q r s a b c d) := by
  unfold mkP
  refine ⟨?_, ?_, ?_, ?_⟩ <;> rintro rfl <;> simp
theorem sub_rc {y : Str} {a b c d : Wd} (h : (a ≠ .no ∧ Sub y (toPy (enc a)).shown) ∨ (b ≠ .no ∧ Sub y (toPy (enc b)).shown) ∨ (c ≠ .no ∧ Sub y (toPy (enc c)).shown) ∨ (d ≠ .no ∧ Sub y (toPy (enc d)).shown)) : Sub y (toPy (enc (.rc a b c d))).shown := by
  rw [toPy_rc]
  obtain ⟨m1, m2, m3, m4⟩ := mk_mem (p := decide (a = .no)) (q := decide (b = .no)) (r := decide (c = .no)) (s := decide (d = .no)) (a := toPy (enc a)) (b := toPy (enc b)) (c := toPy (enc c)) (d := toPy (enc d))
  refine sub_tup (List.mem_cons_of_mem _ List.mem_cons_self) ?_
  rcases h with ⟨n, h⟩ | ⟨n, h⟩ | ⟨n, h⟩ | ⟨n, h⟩
  · exact sub_tup (m1 (decide_eq_false n)) (sub_tup (List.mem_cons_of_mem _ List.mem_cons_self) h)
  · exact sub_tup (m2 (decide_eq_false n)) (sub_tup (List.mem_cons_of_mem _ List.mem_cons_self) h)
  · exact sub_tup (m3 (decide_eq_false n)) (sub_tup (List.mem_cons_of_mem _ List.mem_cons_self) h)
  · exact sub_tup (m4 (decide_eq_false n)) (sub_tup (List.mem_cons_of_mem _ List.mem_cons_self) h)
theorem sub_fn {y : Str} {a b : Wd} (h : Sub y (toPy (enc a)).shown ∨ Sub y (toPy (enc b)).shown) : Sub y (toPy (enc (.fn a b))).shown := by
  show Sub y (PyData.tuple [.str "fn", toPy (enc a), toPy (enc b)]).shown
  rcases h with h | h
  · exact sub_tup (List.mem_cons_of_mem _ List.mem_cons_self) h
  · exact sub_tup (List.mem_cons_of_mem _ (List.mem_cons_of_mem _ List.mem_cons_self)) h
theorem sh_any : (PyData.str "any").shown = "'any'" := by decide +kernel
theorem sh_fnw : (PyData.str "fn").shown = "'fn'" := by decide +kernel
theorem any_sub : ∀ k, anyIn k = true → Sub "any" (toPy (enc k)).shown := by
  intro k
  induction k with
  | any =>
    intro _
    refine sub_tup (x := .str "any") List.mem_cons_self ?_
    rw [sh_any]
    exact ⟨"'", "'", by decide +kernel⟩
  | fn a b iha ihb =>
    intro h
    simp only [anyIn, Bool.or_eq_true] at h
    exact sub_fn (h.imp iha ihb)
  | rc a b c d iha ihb ihc ihd =>
    intro h
    simp only [anyIn, Bool.or_eq_true] at h
    have k : ∀ {x : Wd}, anyIn x = true → x ≠ .no := fun {x} h e => by subst e; cases h
    exact sub_rc (h.imp (fun h => ⟨k h, iha h⟩) (Or.imp (fun h => ⟨k h, ihb h⟩) (Or.imp (fun h => ⟨k h, ihc h⟩) fun h => ⟨k h, ihd h⟩)))
  | _ => intro h; cases h
theorem fn_sub : ∀ k, fnIn k = true → Sub "'fn'" (toPy (enc k)).shown := by
  intro k
  induction k with
  | fn a b iha ihb =>
    intro _
    refine sub_tup (x := .str "fn") List.mem_cons_self ?_
    rw [sh_fnw]
    exact .self _
  | rc a b c d iha ihb ihc ihd =>
    intro h
    simp only [fnIn, Bool.or_eq_true] at h
    have k : ∀ {x : Wd}, fnIn x = true → x ≠ .no := fun {x} h e => by subst e; cases h
    exact sub_rc (h.imp (fun h => ⟨k h, iha h⟩) (Or.imp (fun h => ⟨k h, ihb h⟩) (Or.imp (fun h => ⟨k h, ihc h⟩) fun h => ⟨k h, ihd h⟩)))
  | _ => intro h; cases h
end K75

/-! k75: repr of a type on data -/
namespace K75
open DV L2 PySem PySem.Spec PyProof.Rows
def lnS (p : PyData) : Nat := p.shown.length
theorem ln_tup (xs : List PyData) : lnS (.tuple xs) ≤ piled (PyData.shownAll xs) + 3 := by
  unfold lnS
  simp only [PyData.shown, tupleText]
  rw [strLen_append, strLen_append]
  have e1 : ((("(" : String) : Str)).length = 1 := rfl
  have e3 : ((if (PyData.shownAll xs).length == 1 then ",)" else ")" : String) : Str).length ≤ 2 := by split <;> decide
  rw [e1]
  by_cases h : PyData.shownAll xs = []
  · rw [h] at e3 ⊢
    have : (Str.join ", " ([] : List Str)).length = 0 := rfl
    rw [this]; omega
  · have := join_length_add _ h
    omega
theorem piled_all : ∀ xs : List PyData, piled (PyData.shownAll xs) = (xs.map fun x => lnS x + 2).sum
  | [] => by simp [PyData.shownAll, piled]
  | x :: xs => by
    simp only [PyData.shownAll, List.map_cons, List.sum_cons]
    rw [piled_cons, piled_all xs]; rfl
theorem ln_str {s : Str} {n : Nat} (h : (PyData.str s).shown.length = n) : lnS (.str s) = n := h
theorem l_any : lnS (.str "any") = 5 := by unfold lnS; decide +kernel
theorem l_int : lnS (.str "int") = 5 := by unfold lnS; decide +kernel
theorem l_bool : lnS (.str "bool") = 6 := by unfold lnS; decide +kernel
theorem l_fn : lnS (.str "fn") = 4 := by unfold lnS; decide +kernel
theorem l_rec : lnS (.str "record") = 8 := by unfold lnS; decide +kernel
theorem l_a : lnS (.str "a") = 3 := by unfold lnS; decide +kernel
theorem l_b : lnS (.str "b") = 3 := by unfold lnS; decide +kernel
theorem l_c : lnS (.str "c") = 3 := by unfold lnS; decide +kernel
theorem l_d : lnS (.str "d") = 3 := by unfold lnS; decide +kernel
theorem ln_pair {l : Str} {d : PyData} (h : lnS (.str l) = 3) : lnS (.tuple [.str l, d]) ≤ lnS d + 10 := by
  have := ln_tup [.str l, d]
  rw [piled_all] at this
  simp only [List.map_cons, List.map_nil, List.sum_cons, List.sum_nil, h] at this
  omega
theorem ln_mk {p q r s : Bool} {a b c d : PyData} {M : Nat} (ha : lnS a ≤ M) (hb : lnS b ≤ M) (hc : lnS c ≤ M) (hd : lnS d ≤ M) : ((mkP p q r s a b c d).map fun x => lnS x + 2).sum ≤ 4 * (M + 12) := by
  have one : ∀ (p : Bool) (l : Str) (d : PyData), lnS (.str l) = 3 → lnS d ≤ M → (((if p = true then [] else [PyData.tuple [.str l, d]]) : List PyData).map fun x => lnS x + 2).sum ≤ M + 12 := fun p l d hl hd => by
    cases p
    · have := ln_pair (d := d) hl
      simp; omega
    · simp
  unfold mkP
  simp only [List.map_append, List.sum_append]
  have := one p "a" a l_a ha
  have := one q "b" b l_b hb
  have := one r "c" c l_c hc
  have := one s "d" d l_d hd
  omega
theorem ln_enc : ∀ k, lnS (toPy (enc k)) ≤ 100 * 5 ^ dep k := by
  intro k
  induction k with
  | no => unfold lnS; decide +kernel
  | any => unfold lnS; decide +kernel
  | int => unfold lnS; decide +kernel
  | bool => unfold lnS; decide +kernel
  | fn a b iha ihb =>
    have h : lnS (toPy (enc (.fn a b))) ≤ _ := ln_tup [.str "fn", toPy (enc a), toPy (enc b)]
    rw [piled_all] at h
    simp only [List.map_cons, List.map_nil, List.sum_cons, List.sum_nil, l_fn] at h
    have p1 : 5 ^ dep a ≤ 5 ^ max (dep a) (dep b) := Nat.pow_le_pow_right (by omega) (by omega)
    have p2 : 5 ^ dep b ≤ 5 ^ max (dep a) (dep b) := Nat.pow_le_pow_right (by omega) (by omega)
    have p3 : 1 ≤ 5 ^ max (dep a) (dep b) := Nat.one_le_pow _ _ (by omega)
    simp only [dep, Nat.pow_succ]
    omega
  | rc a b c d iha ihb ihc ihd =>
    rw [toPy_rc]
    have h := ln_tup [.str "record", .tuple (mkP (decide (a = .no)) (decide (b = .no)) (decide (c = .no)) (decide (d = .no)) (toPy (enc a)) (toPy (enc b)) (toPy (enc c)) (toPy (enc d)))]
    rw [piled_all] at h
    simp only [List.map_cons, List.map_nil, List.sum_cons, List.sum_nil, l_rec] at h
    have h2 := ln_tup (mkP (decide (a = .no)) (decide (b = .no)) (decide (c = .no)) (decide (d = .no)) (toPy (enc a)) (toPy (enc b)) (toPy (enc c)) (toPy (enc d)))
    rw [piled_all] at h2
    let m := max (max (dep a) (dep b)) (max (dep c) (dep d))
    have p1 : 5 ^ dep a ≤ 5 ^ m := Nat.pow_le_pow_right (by omega) (by simp only [m]; omega)
    have p2 : 5 ^ dep b ≤ 5 ^ m := Nat.pow_le_pow_right (by omega) (by simp only [m]; omega)
    have p3 : 5 ^ dep c ≤ 5 ^ m := Nat.pow_le_pow_right (by omega) (by simp only [m]; omega)
    have p4 : 5 ^ dep d ≤ 5 ^ m := Nat.pow_le_pow_right (by omega) (by simp only [m]; omega)
    have p5 : 1 ≤ 5 ^ m := Nat.one_le_pow _ _ (by omega)
    have h3 := ln_mk (p := decide (a = .no)) (q := decide (b = .no)) (r := decide (c = .no)) (s := decide (d = .no)) (a := toPy (enc a)) (b := toPy (enc b)) (c := toPy (enc c)) (d := toPy (enc d)) (M := 100 * 5 ^ m) (by omega) (by omega) (by omega) (by omega)
    show _ ≤ 100 * 5 ^ (m + 1)
    rw [Nat.pow_succ]
    omega
theorem showAll_app : ∀ xs ys : List PyData, PyData.showableAll (xs ++ ys) = (PyData.showableAll xs && PyData.showableAll ys)
  | [], ys => by simp [PyData.showableAll]
  | x :: xs, ys => by simp [PyData.showableAll, showAll_app xs ys, Bool.and_assoc]
theorem show_enc : ∀ k, (toPy (enc k)).showable = true := by
  intro k
  induction k with
  | no => decide +kernel
  | any => decide +kernel
  | int => decide +kernel
  | bool => decide +kernel
  | fn a b iha ihb =>
    show (PyData.tuple [.str "fn", toPy (enc a), toPy (enc b)]).showable = true
    simp [PyData.showable, PyData.showableAll, iha, ihb]
  | rc a b c d iha ihb ihc ihd =>
    have one : ∀ (p : Bool) (l : Str) (d : PyData), d.showable = true → PyData.showableAll (if p = true then [] else [PyData.tuple [.str l, d]]) = true := fun p l d h => by
      cases p <;> simp [PyData.showable, PyData.showableAll, h]
    rw [toPy_rc]
    simp only [PyData.showable, PyData.showableAll, mkP, showAll_app, one _ _ _ iha, one _ _ _ ihb, one _ _ _ ihc, one _ _ _ ihd, Bool.and_self]
theorem repr_enc {k : Wd} (h : ok k) (hd : dep k ≤ 6) : reprD (enc k) = some (.str (toPy (enc k)).shown) := by
  obtain ⟨xs, e⟩ := enc_tup h
  have h1 : okPy (enc k) = true := enc_py (by omega)
  have h2 := show_enc k
  have h3 : (toPy (enc k)).shown.length ≤ sizeLine := by
    refine Nat.le_trans (ln_enc k) (Nat.le_trans (Nat.mul_le_mul_left 100 (Nat.pow_le_pow_right (by omega) hd)) ?_)
    decide +kernel
  have r : reprOk (toPy (enc k)) = true := reprOk_iff.mpr ⟨h1, h2, h3⟩
  rw [e] at r ⊢
  show (if reprOk (toPy (.tup xs)) = true then _ else _) = _
  rw [if_pos r]
theorem nin_str {x y : Str} : ninD (.str y) (.str x) = some (.bl (!(!(Builtin.Str.occurrences x y 0 x.length 1).isEmpty))) := rfl
/-- "any" in the text, and what follows where it is not in it -/
theorem nin_any {k : Wd} : ∃ b, ninD (.str "any") (.str (toPy (enc k)).shown) = some (.bl b) ∧ (b = true → anyIn k = false) := by
  refine ⟨_, nin_str, fun h => ?_⟩
  cases e : anyIn k with
  | false => rfl
  | true => rw [sub_found (any_sub k e)] at h; cases h
theorem nin_fn {k : Wd} : ∃ b, ninD (.str "'fn'") (.str (toPy (enc k)).shown) = some (.bl b) ∧ (b = true → fnIn k = false) := by
  refine ⟨_, nin_str, fun h => ?_⟩
  cases e : fnIn k with
  | false => rfl
  | true => rw [sub_found (fn_sub k e)] at h; cases h
end K75

/-! k75: what is seen, compared; casts are values -/
namespace K75
open DV L2 PySem PySem.Spec PyProof.Rows
theorem sh_okN : ∀ v, okN (sh v) (hv v + 1) := by
  have sr : PyData.strOk "record" = true := by decide +kernel
  have si : PyData.strOk "int" = true := by decide +kernel
  have sb0 : PyData.strOk "bool" = true := by decide +kernel
  have sa : PyData.strOk "a" = true := by decide +kernel
  have sb : PyData.strOk "b" = true := by decide +kernel
  have sc : PyData.strOk "c" = true := by decide +kernel
  have sd : PyData.strOk "d" = true := by decide +kernel
  intro v
  induction v with
  | no => exact ⟨by decide +kernel, by decide +kernel⟩
  | int i => exact ⟨by simp [sh, toPy, toPyL, PyData.canLay0, PyData.canLayAll0, si], by simp [sh, toPy, toPyL, PyData.depth, PyData.depthAll, hv]⟩
  | bool i => exact ⟨by simp [sh, toPy, toPyL, PyData.canLay0, PyData.canLayAll0, sb0], by simp [sh, toPy, toPyL, PyData.depth, PyData.depthAll, hv]⟩
  | name => exact ⟨by decide +kernel, by decide +kernel⟩
  | wrap v k d ih => exact ⟨by simp only [sh]; decide +kernel, by have : (toPy (sh (.wrap v k d))).depth = 1 := by { simp only [sh]; decide +kernel }; omega⟩
  | tag k v ih => exact ⟨ih.1, by have := ih.2; simp only [sh, hv]; omega⟩
  | rc a b c d iha ihb ihc ihd =>
    have one : ∀ (l : Str) (p : Bool) (x : D) (n : Nat), PyData.strOk l = true → okN x (n + 1) → PyData.canLayAll0 (toPyL (ofl l p x)) = true ∧ PyData.depthAll (toPyL (ofl l p x)) ≤ n + 2 := fun l p x n hl hx => by
      unfold ofl
      cases p
      · refine ⟨by simp [toPy, toPyL, PyData.canLay0, PyData.canLayAll0, hx.1, hl], ?_⟩
        have := hx.2
        simp only [toPy, toPyL, PyData.depth, PyData.depthAll, Bool.false_eq_true, if_false]
        omega
      · exact ⟨rfl, Nat.zero_le _⟩
    obtain ⟨a1, a2⟩ := one "a" (decide (a = .no)) _ _ sa iha
    obtain ⟨b1, b2⟩ := one "b" (decide (b = .no)) _ _ sb ihb
    obtain ⟨c1, c2⟩ := one "c" (decide (c = .no)) _ _ sc ihc
    obtain ⟨d1, d2⟩ := one "d" (decide (d = .no)) _ _ sd ihd
    unfold sh shR
    refine ⟨?_, ?_⟩
    · simp only [toPy, toPyL, PyData.canLay0, PyData.canLayAll0, layL_app, sr, a1, b1, c1, d1]; rfl
    · simp only [toPy, toPyL, PyData.depth, PyData.depthAll, depL_app, hv]
      omega
theorem sh_tup : ∀ {v : Va}, okV v → ∃ xs, sh v = .tup xs
  | .no, h => h.elim
  | .int _, _ => ⟨_, rfl⟩
  | .bool _, _ => ⟨_, rfl⟩
  | .name, _ => ⟨_, rfl⟩
  | .wrap _ _ _, _ => ⟨_, rfl⟩
  | .tag _ v, h => sh_tup (v := v) h.2
  | .rc _ _ _ _, _ => ⟨_, rfl⟩
theorem ne_sh {v : Va} (h : okV v) (hh : hv v ≤ 60) : neD (sh v) (sh v) = some (.bl false) := by
  have e : eqS (sh v) (sh v) = none := by obtain ⟨xs, e⟩ := sh_tup h; rw [e]; rfl
  have c : okPy (sh v) = true := okN.py (sh_okN v) (by omega)
  have l : (toPy (sh v)).canLay0 = true := (sh_okN v).1
  unfold neD
  rw [neP_ok c c, PySem.SeqAt.eqv_refl _ l, e]
  rfl
theorem sh_pure : ∀ (v : Va) (k : Wd), has v k = true → pure k = true → sh v = encV v := by
  intro v
  induction v with
  | rc a b c d iha ihb ihc ihd =>
    intro k h hp
    cases k <;> simp only [has] at h <;> try (cases h; done)
    simp only [pure, Bool.and_eq_true] at h hp
    rw [sh_rc, encV_rc]
    have e1 := iha _ h.1 hp.1
    have e2 := ihb _ h.2.1 hp.2.1
    have e3 := ihc _ h.2.2.1 hp.2.2.1
    have e4 := ihd _ h.2.2.2 hp.2.2.2
    congr 2
    congr 1
    refine congrArg D.tup (List.map_congr_left fun p m => ?_)
    obtain ⟨_, e⟩ := fV_mem m
    unfold iS iV
    rcases e with rfl | rfl | rfl | rfl
    · simp only [e1]
    · simp only [e2]
    · simp only [e3]
    · simp only [e4]
  | _ => intro k h hp; cases k <;> simp [has] at h <;> simp [pure] at hp <;> rfl
theorem cast_okV : ∀ (v : Va) (k d : Wd) (v' : Va), (v = .no ∨ okV v) → (k = .no ∨ ok k) → (d = .no ∨ ok d) → has v k = true → cbl k d = true → cast v k d = some v' → (v' = .no ∨ okV v') := by
  intro v
  induction v with
  | tag k' x ih =>
    intro k d v' kv kk kd h hc e
    cases k <;> simp [has] at h
    by_cases h1 : d = .no
    · subst h1; simp at e; exact .inl e.symm
    by_cases h2 : d = .any
    · subst h2; rw [cast_self (by simp)] at e; cases e; exact kv
    rw [cast_tag h2 h1] at e
    have kv := kv.resolve_left (by simp)
    split at e
    · rename_i hb
      exact ih k' d v' (.inr kv.2) (.inr kv.1) kd h.2 hb e
    · cases e
  | rc a b c e iha ihb ihc ihe =>
    intro k d v' kv kk kd h hc ec
    cases k <;> simp only [has] at h <;> try (cases h; done)
    rename_i ka kb kc ke
    have h0 : has (.rc a b c e) (.rc ka kb kc ke) = true := by simpa only [has] using h
    have kv' := kv.resolve_left (by simp)
    have kk' := kk.resolve_left (by simp)
    cases d with
    | no => simp at ec; exact .inl ec.symm
    | any => rw [cast_any (by simp)] at ec; cases ec; exact .inr ⟨kk', kv'⟩
    | rc da db dc de =>
      have kd' := kd.resolve_left (by simp)
      rw [cast_rc h0] at ec
      simp only [cbl, Bool.and_eq_true] at h hc
      obtain ⟨a', ea, ec⟩ := Option.bind_eq_some_iff.mp ec
      obtain ⟨b', eb, ec⟩ := Option.bind_eq_some_iff.mp ec
      obtain ⟨c', ecc, ec⟩ := Option.bind_eq_some_iff.mp ec
      obtain ⟨e', ee, ec⟩ := Option.map_eq_some_iff.mp ec
      subst ec
      exact .inr ⟨iha _ _ _ kv'.1 kk'.1 kd'.1 h.1 hc.1 ea, ihb _ _ _ kv'.2.1 kk'.2.1 kd'.2.1 h.2.1 hc.2.1 eb, ihc _ _ _ kv'.2.2.1 kk'.2.2.1 kd'.2.2.1 h.2.2.1 hc.2.2.1 ecc, ihe _ _ _ kv'.2.2.2 kk'.2.2.2 kd'.2.2.2 h.2.2.2 hc.2.2.2 ee⟩
    | _ => simp [cast, castO, castR] at ec; subst ec; exact kv
  | no =>
    intro k d v' kv kk kd h hc e
    rw [has_no'] at h
    subst h
    cases d <;> simp [cbl] at hc
    simp at e
    exact .inl e.symm
  | _ =>
    intro k d v' kv kk kd h hc e
    cases k <;> simp [has] at h
    have kk' := kk.resolve_left (by simp)
    have kv' := kv.resolve_left (by simp)
    unfold cast castO castR at e
    split at e
    · cases e; exact .inl rfl
    · rename_i hd
      have kd' := kd.resolve_left hd
      split at e
      · cases e; exact .inr kv'
      · split at e
        · cases e; exact .inr ⟨kk', kv'⟩
        · first | (cases e; exact .inr kv') | (cases e; exact .inr ⟨kv', kk', kd'⟩)
theorem cast_okV' {v : Va} {k d : Wd} {v' : Va} (kv : okV v) (kk : ok k) (kd : ok d) (h : has v k = true) (hc : cbl k d = true) (e : cast v k d = some v') : okV v' := by
  rcases cast_okV v k d v' (.inr kv) (.inr kk) (.inr kd) h hc e with z | z
  · have := has_cast _ _ _ _ h hc e
    rw [z, has_no'] at this
    exact absurd this (ok_no kd)
  · exact z
end K75

/-! k75: the law -/
namespace K75
open DV L2 PySem PySem.Spec PyProof.Rows
theorem is_free_ok (n : Nat) (x y : Wd) (hx : ok x) (hy : ok y) (dx : dep x < n) (dy : dep y < n) : G (n + 1) .f_is_free [enc x, enc y] = some (.bl (und x y), false, []) := by
  have e := under_ok n x y hx hy dx dy
  rw [G_succ]
  simp [bd, at_run, b_is_free, e]
@[simp] theorem ix_R0 {v : Va} : ixD (encR (some v)) (.int 0) = some (.str "ok") := rfl
@[simp] theorem ix_R1 {v : Va} : ixD (encR (some v)) (.int 1) = some (encV v) := rfl
@[simp] theorem ix_N0 : ixD (encR none) (.int 0) = some (.str "blame") := rfl
theorem pln_R {r : Option Va} {n : Nat} (h : ∀ v, r = some v → hv v ≤ n) (hn : 2 ≤ n) : pln (encR r) (n + 1) := by
  cases r with
  | none => simp [encR, pln, plnL, pln_str, pln_nm n hn]
  | some v => simp [encR, pln, plnL, pln_str, pln_encV v n (h v rfl)]
theorem up_cast {v : Va} {k : Wd} (h : has v k = true) (kk : ok k) : ∃ u, cast v k .any = some u ∧ has u .any = true ∧ cast u .any k = some v := by
  by_cases hk : k = .any
  · subst hk
    exact ⟨v, cast_self (by simp), h, cast_self (by simp)⟩
  · refine ⟨.tag k v, cast_any hk, by simp [has, h, hk], ?_⟩
    rw [cast_tag hk (ok_no kk), cbl_refl, if_pos rfl, cast_self (ok_no kk)]
theorem cbl_any {k : Wd} (h : ok k) : cbl k .any = true := by cases k <;> first | exact h.elim | rfl
theorem any_cbl {k : Wd} (h : ok k) : cbl .any k = true := by cases k <;> first | exact h.elim | rfl
/-- all that the law asks of one kind, due and value -/
structure Fs3 (N : Nat) (k d : Wd) (v : Va) : Prop where
  h1 : G N .f_has_wide [encV v, enc k] = some (.bl true, false, [])
  h2 : G N .f_could_be [enc k, enc d] = some (.bl (cbl k d), false, [])
  h3 : G N .f__law_forms [enc k, enc d] = some (.bl (cbl k d), false, [])
  h4 : G N .f_is_free [enc k, enc d] = some (.bl (und k d), false, [])
  h5 : G N .f__law_under [enc k, enc d] = some (.bl (und k d), false, [])
  h6 : ∃ u, G N .f_cast_wide [encV v, enc k, enc .any, nm] = some (encR (some u), false, []) ∧ G N .f_cast_wide [encV u, enc .any, enc k, nm] = some (encR (some v), false, []) ∧ G N .f_has_wide [encV u, enc .any] = some (.bl true, false, [])
  h7 : G N .f__law_could [enc k, enc d] = some (.bl (cou k d), false, [])
  h8 : G N .f_under [enc k, enc d] = some (.bl (und k d), false, [])
  h9 : G N .f_alike_under [enc k, enc d] = some (.bl (cou k d), false, [])
  sb : ∀ b : Bool, G N .f__law_same [.bl b, .bl b] = some (.bl true, false, [])
  sv : G N .f__law_same [encR (some v), encR (some v)] = some (.bl true, false, [])
  rk : reprD (enc k) = some (.str (toPy (enc k)).shown)
  rd : reprD (enc d) = some (.str (toPy (enc d)).shown)
theorem fs3 {N : Nat} (hN : N = 79) {k d : Wd} {v : Va} (kk : ok k) (kd : ok d) (kv : okV v) (dk : dep k ≤ 3) (dd : dep d ≤ 3) (hh : hv v ≤ 18) (h : has v k = true) : Fs3 N k d v := by
  have same : ∀ {x : D} {n : Nat}, n + 1 = N → pln x n → G N .f__law_same [x, x] = some (.bl true, false, []) := fun {x n} e h => by rw [← e]; exact same_r h
  obtain ⟨u, u1, u2, u3⟩ := up_cast h kk
  have hu := cast_hv _ _ _ _ u1
  have da : dep .any = 0 := rfl
  have ou := cast_okV' kv kk (d := .any) trivial h (cbl_any kk) u1
  have c1 := cast_wide_ok N 18 v k .any kv kk trivial hh (by omega) (by omega) (by omega) (by omega) h (cbl_any kk)
  have c2 := cast_wide_ok N 19 u .any k ou trivial kk (by omega) (by omega) (by omega) (by omega) (by omega) u2 (any_cbl kk)
  rw [u1] at c1
  rw [u3] at c2
  exact ⟨has_wide_ok N 18 v k kv kk hh (by omega) (by omega) (by omega) h, could_be_ok N 19 k d kk kd (by omega) (by omega) (by omega) (by omega), law_forms_ok N 19 k d kk kd (by omega) (by omega) (by omega) (by omega),
    by rw [show N = 78 + 1 by omega]; exact is_free_ok 78 k d kk kd (by omega) (by omega), law_under_ok N k d kk kd (by omega) (by omega),
    ⟨u, c1, c2, has_wide_ok N 19 u .any ou trivial (by omega) (by omega) (by omega) (by omega) u2⟩, law_could_ok N 19 k d kk kd (by omega) (by omega) (by omega) (by omega), under_ok N k d kk kd (by omega) (by omega),
    alike_under_ok N 19 k d kk kd (by omega) (by omega) (by omega) (by omega), fun b => same (n := 78) (by omega) (by simp only [pln]), same (n := 77 + 1) (by omega) (pln_R (fun w e => by cases e; omega) (by omega)), repr_enc kk (by omega), repr_enc kd (by omega)⟩
/-- and where it could be -/
structure Fs4 (N : Nat) (k d : Wd) (v : Va) : Prop where
  g1 : G N .f_cast_wide [encV v, enc k, enc d, nm] = some (encR (cast v k d), false, [])
  g2 : G N .f__law_cast [encV v, enc k, enc d, nm] = some (encR (cast v k d), false, [])
  g3 : G N .f__law_same [encR (cast v k d), encR (cast v k d)] = some (.bl true, false, [])
  g4 : ∀ w, cast v k d = some w → G N .f_has_wide [encV w, enc d] = some (.bl true, false, []) ∧ G N .f__law_has [encV w, enc d] = some (.bl true, false, []) ∧ G N .f_shown_wide [encV w] = some (sh w, false, [])
  g5 : und k d = true → ∃ w, cast v k d = some w
  g6 : ∀ w, cast v k d = some w → und k d = true → anyIn k = false → fnIn k = false → G N .f_fewer_fields [encV v, enc d] = some (encV w, false, []) ∧ G N .f__law_fewer [encV v, enc d] = some (encV w, false, []) ∧ G N .f__law_same [encV w, encV w] = some (.bl true, false, []) ∧ neD (sh w) (encV w) = some (.bl false)
  g6' : und k d = true → (∃ x, G N .f_fewer_fields [encV v, enc d] = some (encV x, false, [])) ∧ ∃ x, G N .f__law_fewer [encV v, enc d] = some (encV x, false, [])
  g7 : G N .f_between_up [enc k, enc d] = some (enc (btw true k d), false, [])
  g8 : ∃ f, G N .f_cast_wide [encV v, enc k, enc (btw true k d), nm] = some (encR (some f), false, []) ∧ ∃ r, G N .f_cast_wide [encV f, enc (btw true k d), enc d, nm] = some (encR r, false, []) ∧ (cast v k d = none → r = none) ∧
    ∀ w, cast v k d = some w → ∃ y, r = some y ∧ G N .f_shown_wide [encV y] = some (sh w, false, []) ∧ neD (sh w) (sh w) = some (.bl false)
theorem fs4 {N : Nat} (hN : N = 79) {k d : Wd} {v : Va} (kk : ok k) (kd : ok d) (kv : okV v) (dk : dep k ≤ 3) (dd : dep d ≤ 3) (hh : hv v ≤ 18) (h : has v k = true) (hc : cou k d = true) : Fs4 N k d v := by
  have same : ∀ {x : D} {n : Nat}, n + 1 = N → pln x n → G N .f__law_same [x, x] = some (.bl true, false, []) := fun {x n} e h => by rw [← e]; exact same_r h
  have cb := cou_cbl _ _ hc
  have hw : ∀ w, cast v k d = some w → hv w ≤ 19 ∧ okV w ∧ has w d = true := fun w e => ⟨by have := cast_hv _ _ _ _ e; omega, cast_okV' kv kk kd h cb e, has_cast _ _ _ _ h cb e⟩
  obtain ⟨u1, u2, _, _⟩ := (btw_ok k d).1 hc
  have km : ok (btw true k d) := btw_ok' kk kd
  have dm := (btw_dep k d 3 dk dd true).1
  obtain ⟨f, f1, f2⟩ := mid_cast v k d h hc
  have of := cast_okV' kv kk km h (und_cbl u1) f1
  have hf := cast_hv _ _ _ _ f1
  have kf := has_cast _ _ _ _ h (und_cbl u1) f1
  have cm := cou_cbl _ _ (alk_cou _ _ u2).1
  have c1 := cast_wide_ok N 18 v k _ kv kk km hh (by omega) (by omega) (by omega) (by omega) h (und_cbl u1)
  have c2 := cast_wide_ok N 19 f _ d of km kd (by omega) (by omega) (by omega) (by omega) (by omega) kf cm
  rw [f1] at c1
  refine ⟨cast_wide_ok N 18 v k d kv kk kd hh (by omega) (by omega) (by omega) (by omega) h cb, law_cast_ok N 18 v k d kv kk kd hh (by omega) (by omega) (by omega) (by omega) h cb,
    same (n := 77 + 1) (by omega) (pln_R (fun w e => by have := (hw w e).1; omega) (by omega)), fun w e => ?_, fun hu => Option.isSome_iff_exists.mp (und_cast v k d h hu), fun w e hu ha hf => ?_, fun hu => ?_, (between_ok N 19 k d kk kd (by omega) (by omega) (by omega) (by omega) hc).1, ⟨f, c1, _, c2, fun e => ?_, fun w e => ?_⟩⟩
  · obtain ⟨w1, w2, w3⟩ := hw w e
    exact ⟨has_wide_ok N 19 w d w2 kd w1 (by omega) (by omega) (by omega) w3, law_has_ok N 19 w d w2 kd w1 (by omega) (by omega) (by omega) w3, shown_ok N 19 w w2 w1 (by omega)⟩
  · obtain ⟨w1, w2, w3⟩ := hw w e
    have hp := pure_of k ha hf
    have ef := few_cast v k d h hp hu
    rw [e] at ef
    cases ef
    have es := sh_pure _ _ w3 (und_pure k d hp hu)
    have n1 := ne_sh w2 (by omega)
    exact ⟨fewer_ok N 18 v k d kv kd hh (by omega) h hu, law_fewer_ok N 18 v k d kv kd hh (by omega) h hu, same (n := 78) (by omega) (pln_encV _ _ (by omega)), by rw [← es]; exact n1⟩
  · exact ⟨⟨_, fewer_ok N 18 v k d kv kd hh (by omega) h hu⟩, _, law_fewer_ok N 18 v k d kv kd hh (by omega) h hu⟩
  · rw [e] at f2
    cases hr : cast f (btw true k d) d with
    | none => rfl
    | some y => rw [hr] at f2; exact f2.elim
  · rw [e] at f2
    cases hr : cast f (btw true k d) d with
    | none => rw [hr] at f2; exact f2.elim
    | some y =>
      rw [hr] at f2
      obtain ⟨w1, w2, w3⟩ := hw w e
      have hy := cast_hv _ _ _ _ hr
      have oy := cast_okV' of km kd kf cm hr
      have s1 := shown_ok N 20 y oy (by omega) (by omega)
      rw [← f2.2] at s1
      exact ⟨y, rfl, s1, ne_sh w2 (by omega)⟩
end K75

/-! k75: the law holds -/
namespace K75
open DV L2 PySem PySem.Spec PyProof.Rows
theorem isn_b {a b : Bool} : isnD (.bl a) (.bl b) = some (.bl (!(a == b))) := rfl
set_option maxHeartbeats 2000000 in
theorem turn_ok {N : Nat} (hN : N = 79) {q d : D} {z3 z4 z5 z6 z7 z8 z9 z10 z11 z12 : Sl} {s : Dr} (hs : s.ok) (h3 : Bd z3) (h4 : Bd z4) (h5 : Bd z5) (h6 : Bd z6) (h7 : Bd z7) (h8 : Bd z8) (h9 : Bd z9) (h10 : Bd z10) (h11 : Bd z11) (h12 : Bd z12) :
    ∃ (f : Fl) (s' : Dr) (y4 y5 y6 y7 y8 y9 y10 y11 y12 : Sl), (f = .nx ∨ f = .ct) ∧ s'.ok ∧ Bd y4 ∧ Bd y5 ∧ Bd y6 ∧ Bd y7 ∧ Bd y8 ∧ Bd y9 ∧ Bd y10 ∧ Bd y11 ∧ Bd y12 ∧
      (hNm 3 d [.sh q, .ow s.d, .sh nm, z3, z4, z5, z6, z7, z8, z9, z10, z11, z12]).bind (l_law_0 (G N)) = some (f, [.sh q, .ow s'.d, .sh nm, .sh d, y4, y5, y6, y7, y8, y9, y10, y11, y12]) := by
  obtain ⟨k, s1, o1, kk, dk, e1⟩ := wide_ok N 3 s hs (by omega) (by omega)
  obtain ⟨due, s2, o2, kd, dd, e2⟩ := mixed_ok N k s1 o1 kk (by omega)
  obtain ⟨v, s3, o3, h, kv, hh, e3⟩ := value_ok N k 2 s2 o2 kk (by omega) (by omega) (by simp; omega)
  simp at e1
  have F3 := fs3 hN kk kd kv (by omega) (by omega) (by simp at hh; omega) h
  obtain ⟨h1, h2', h3', h4', h5', ⟨u, u1, u2, u3⟩, h7', h8', h9', sb, sv, rk, rd⟩ := F3
  have lz := lit_ok (v := v)
  have bk := fun (i : Nat) (d : D) (w : Bool) (x : Sl) (ρ : DV.Env) (hx : Bd x) => kB_Bd (i := i) (d := d) (w := w) (ρ := ρ) hx
  cases hc : cou k due with
  | false =>
    rw [hc] at h7'
    refine ⟨.ct, s3, .sh (enc k), .sh (enc due), .sh (encV v), .sh (encR (some u)), .sh (encR (some v)), z9, z10, z11, z12, .inr rfl, o3, Bd_sh, Bd_sh, Bd_sh, Bd_sh, Bd_sh, h9, h10, h11, h12, ?_⟩
    simp [l_law_0, kB_Bd h3, kB_Bd h4, kB_Bd h5, kB_Bd h6, kB_Bd h7, kB_Bd h8, e1, e2, e3, h1, h2', h3', h4', h5', u1, u2, u3, h7', sb, sv, lit_any, lz, isn_b]
  | true =>
    have F4 := fs4 hN kk kd kv (by omega) (by omega) (by simp at hh; omega) h hc
    obtain ⟨g1, g2, g3, g4, g5, g6, g6', g7, f, f1, r, f2, f3, f4⟩ := F4
    rw [hc] at h7' h9'
    obtain ⟨b1, n1, p1⟩ := nin_any (k := k)
    obtain ⟨b2, n2, p2⟩ := nin_fn (k := k)
    obtain ⟨b3, n3, p3⟩ := nin_any (k := due)
    cases hr : cast v k due with
    | none =>
      rw [hr] at g1 g2 g3
      have hu : und k due = false := by
        cases hu : und k due with
        | false => rfl
        | true => obtain ⟨w, hw⟩ := g5 hu; rw [hr] at hw; cases hw
      have hrn := f3 hr
      subst hrn
      rw [hu] at h4' h5' h8'
      refine ⟨.nx, s3, .sh (enc k), .sh (enc due), .sh (encV v), .sh (encR (some u)), .sh (encR (some v)), .sh (encR none), .sh (enc (btw true k due)), .sh (encR (some f)), .sh (encR none), .inl rfl, o3, Bd_sh, Bd_sh, Bd_sh, Bd_sh, Bd_sh, Bd_sh, Bd_sh, Bd_sh, Bd_sh, ?_⟩
      simp [l_law_0, kB_Bd h3, kB_Bd h4, kB_Bd h5, kB_Bd h6, kB_Bd h7, kB_Bd h8, kB_Bd h9, kB_Bd h10, kB_Bd h11, kB_Bd h12, e1, e2, e3, h1, h2', h3', h4', h5', u1, u2, u3, h7', h8', h9', sb, sv, lit_any, lz, isn_b, g1, g2, g3, g7, f1, f2, strOf_inj]
    | some w =>
      rw [hr] at g1 g2 g3
      obtain ⟨q1, q2, q3⟩ := g4 w hr
      obtain ⟨y, rfl, t1, t2⟩ := f4 w hr
      refine ⟨.nx, s3, .sh (enc k), .sh (enc due), .sh (encV v), .sh (encR (some u)), .sh (encR (some v)), .sh (encR (some w)), .sh (enc (btw true k due)), .sh (encR (some f)), .sh (encR (some y)), .inl rfl, o3, Bd_sh, Bd_sh, Bd_sh, Bd_sh, Bd_sh, Bd_sh, Bd_sh, Bd_sh, Bd_sh, ?_⟩
      cases hu : und k due with
      | false =>
        rw [hu] at h4' h5' h8'
        cases b3 <;> simp [l_law_0, kB_Bd h3, kB_Bd h4, kB_Bd h5, kB_Bd h6, kB_Bd h7, kB_Bd h8, kB_Bd h9, kB_Bd h10, kB_Bd h11, kB_Bd h12, e1, e2, e3, h1, h2', h3', h4', h5', u1, u2, u3, h7', h8', h9', sb, sv, lit_any, lz, isn_b, g1, g2, g3, g7, f1, f2, strOf_inj, q1, q2, q3, t1, t2, rd, n3]
      | true =>
        rw [hu] at h4' h5' h8'
        obtain ⟨⟨x1, v1⟩, x2, v2⟩ := g6' hu
        have B : (b1 = false ∨ b2 = false) ∨ (b1 = true ∧ b2 = true) := by cases b1 <;> cases b2 <;> simp
        rcases B with B | ⟨rfl, rfl⟩
        · cases b1 <;> cases b2 <;> first | (exfalso; simp at B; done) | (cases b3 <;> simp [l_law_0, kB_Bd h3, kB_Bd h4, kB_Bd h5, kB_Bd h6, kB_Bd h7, kB_Bd h8, kB_Bd h9, kB_Bd h10, kB_Bd h11, kB_Bd h12, e1, e2, e3, h1, h2', h3', h4', h5', u1, u2, u3, h7', h8', h9', sb, sv, lit_any, lz, isn_b, g1, g2, g3, g7, f1, f2, strOf_inj, q1, q2, q3, t1, t2, rd, rk, n1, n2, n3])
        · obtain ⟨w1, w2, w3, w4⟩ := g6 w hr hu (p1 rfl) (p2 rfl)
          cases b3 <;> simp [l_law_0, kB_Bd h3, kB_Bd h4, kB_Bd h5, kB_Bd h6, kB_Bd h7, kB_Bd h8, kB_Bd h9, kB_Bd h10, kB_Bd h11, kB_Bd h12, e1, e2, e3, h1, h2', h3', h4', h5', u1, u2, u3, h7', h8', h9', sb, sv, lit_any, lz, isn_b, g1, g2, g3, g7, f1, f2, strOf_inj, q1, q2, q3, t1, t2, rd, rk, n1, n2, n3, w1, w2, w3, w4]
theorem law_gen {N : Nat} (hN : N = 79) (ns : List Int) : ∃ ds', lawG N [.scr ns] = some (.bl true, false, ds') := by
  have e : G N .f__law_draws [.scr ns] = some ((Dr.mk ns 0 0 1).d, true, []) := by
    obtain ⟨m, rfl⟩ : ∃ m, N = m + 1 := ⟨N - 1, by omega⟩
    exact draws_ok ns
  obtain ⟨ρ', e2, s', z3, y4, y5, y6, y7, y8, y9, y10, y11, y12, _, _, _, _, _, _, _, _, _, _, _, hρ⟩ := forD_all (h := hNm 3) (body := l_law_0 (G N)) (items := rngD 0 8) (I := fun ρ' => ∃ (s' : Dr) (z3 y4 y5 y6 y7 y8 y9 y10 y11 y12 : Sl), s'.ok ∧ Bd z3 ∧ Bd y4 ∧ Bd y5 ∧ Bd y6 ∧ Bd y7 ∧ Bd y8 ∧ Bd y9 ∧ Bd y10 ∧ Bd y11 ∧ Bd y12 ∧ ρ' = [.sh (.scr ns), .ow s'.d, .sh nm, z3, y4, y5, y6, y7, y8, y9, y10, y11, y12])
    (fun d ρ _ ⟨s1, z3, y4, y5, y6, y7, y8, y9, y10, y11, y12, o1, h3, h4, h5, h6, h7, h8, h9, h10, h11, h12, hρ⟩ => by
      subst hρ
      obtain ⟨f, s', x4, x5, x6, x7, x8, x9, x10, x11, x12, hf, o', i4, i5, i6, i7, i8, i9, i10, i11, i12, e⟩ := turn_ok hN (q := .scr ns) (d := d) o1 h3 h4 h5 h6 h7 h8 h9 h10 h11 h12
      exact ⟨f, _, e, hf, s', .sh d, x4, x5, x6, x7, x8, x9, x10, x11, x12, o', Bd_sh, i4, i5, i6, i7, i8, i9, i10, i11, i12, rfl⟩)
    [.sh (.scr ns), .ow (Dr.mk ns 0 0 1).d, .sh nm, .no, .no, .no, .no, .no, .no, .no, .no, .no, .no] ⟨⟨ns, 0, 0, 1⟩, .no, .no, .no, .no, .no, .no, .no, .no, .no, .no, Int.le_refl 0, Bd_no, Bd_no, Bd_no, Bd_no, Bd_no, Bd_no, Bd_no, Bd_no, Bd_no, Bd_no, rfl⟩
  refine ⟨[], ?_⟩
  subst hρ
  unfold nm at e2
  unfold lawG
  simp [at_run, b_law, e, e2]
theorem law_ok (ns : List Int) : ∃ ds', lawG 79 [.scr ns] = some (.bl true, false, ds') := law_gen (N := 79) rfl ns
end K75

section
open PySem PySem.W PyProof.Rows
set_option maxHeartbeats 0 in
theorem PySem.Challenge.cw_blamekeep_k75_whole_records_that_are_cas_holds : PySem.Challenge.rw_blamekeep_k75_whole_records_that_are_cas.Holds := by
  w_on; o_law; k_head; (case hw => w_witness2)
  k_fill
  refine DV.law_endG (l := PySem.Challenge.rw_blamekeep_k75_whole_records_that_are_cas) (G := K75.lawG 79) rfl rfl (fun w h Y => PySem.W.kIn_of Y) (fun ns _ _ => K75.law_ok ns) ?F
  case F =>
    intro w mg fa h KX GX hmg
    have Z : DV.Zs mg := by
      refine' ⟨PySem.W.mg_none_of KX GX ?z0, PySem.W.mg_none_of KX GX ?z1, PySem.W.mg_none_of KX GX ?z2, PySem.W.mg_none_of KX GX ?z3, PySem.W.mg_none_of KX GX ?z4, PySem.W.mg_none_of KX GX ?z5, PySem.W.mg_none_of KX GX ?z6, PySem.W.mg_none_of KX GX ?z7, PySem.W.mg_none_of KX GX ?z8, PySem.W.mg_none_of KX GX ?z9, PySem.W.mg_none_of KX GX ?z10, PySem.W.mg_none_of KX GX ?z11, PySem.W.mg_none_of KX GX ?z12, PySem.W.mg_none_of KX GX ?z13, PySem.W.mg_none_of KX GX ?z14⟩
      (case z0 => k_is)
      (case z1 => k_is)
      (case z2 => k_is)
      (case z3 => k_is)
      (case z4 => k_is)
      (case z5 => k_is)
      (case z6 => k_is)
      (case z7 => k_is)
      (case z8 => k_is)
      (case z9 => k_is)
      (case z10 => k_is)
      (case z11 => k_is)
      (case z12 => k_is)
      (case z13 => k_is)
      (case z14 => k_is)
    have g_ANY : ∃ u v, mg "ANY" = some u ∧ L2.RelV v u ∧ ∀ F H, DV.Rep ⟨DV.KOf KX, mg⟩ F H K75.c_ANY v := by
      refine' DV.glob_tup (vs := [.str "any"]) KX GX ?gE ?gL ?gC ?gN ?gD ?gS ?gV (fun F H => (DV.RepL.cons DV.Rep.str' DV.RepL.nil))
      (case gE => dsimp only [DV.KOf]; k_is); (case gL => dsimp only [DV.KOf]; k_is); (case gC => rfl); (case gN => rfl); (case gD => rfl); (case gS => decide); (case gV => exact (.cons ⟨_, rfl⟩ .nil))
    have r_repr : mg "repr" = none := PySem.W.mg_none_of KX GX (by k_is)
    have Gs : K75.Gf (DV.KOf KX) mg := ⟨Z, g_ANY, r_repr⟩
    have d_fields : DV.DefF (DV.KOf KX) mg "fields" K75.s_fields ["kind"] := by
      refine' DV.defF_mk KX GX (fun _ _ _ _ _ _ us hl => match us, hl with | [_], _ => rfl) ?dA ?dL ?dC ?dK
      (case dA => dsimp only [DV.KOf]; k_is); (case dL => dsimp only [DV.KOf]; k_is); (case dC => dsimp only [DV.KOf]; k_is); (case dK => dsimp only [DV.KOf]; k_is)
    have d_record : DV.DefF (DV.KOf KX) mg "record" K75.s_record ["table"] := by
      refine' DV.defF_mk KX GX (fun _ _ _ _ _ _ us hl => match us, hl with | [_], _ => rfl) ?dA ?dL ?dC ?dK
      (case dA => dsimp only [DV.KOf]; k_is); (case dL => dsimp only [DV.KOf]; k_is); (case dC => dsimp only [DV.KOf]; k_is); (case dK => dsimp only [DV.KOf]; k_is)
    have d_under : DV.DefF (DV.KOf KX) mg "under" K75.s_under ["one", "two"] := by
      refine' DV.defF_mk KX GX (fun _ _ _ _ _ _ us hl => match us, hl with | [_, _], _ => rfl) ?dA ?dL ?dC ?dK
      (case dA => dsimp only [DV.KOf]; k_is); (case dL => dsimp only [DV.KOf]; k_is); (case dC => dsimp only [DV.KOf]; k_is); (case dK => dsimp only [DV.KOf]; k_is)
    have d_alike_under : DV.DefF (DV.KOf KX) mg "alike_under" K75.s_alike_under ["one", "two"] := by
      refine' DV.defF_mk KX GX (fun _ _ _ _ _ _ us hl => match us, hl with | [_, _], _ => rfl) ?dA ?dL ?dC ?dK
      (case dA => dsimp only [DV.KOf]; k_is); (case dL => dsimp only [DV.KOf]; k_is); (case dC => dsimp only [DV.KOf]; k_is); (case dK => dsimp only [DV.KOf]; k_is)
    have d_between_up : DV.DefF (DV.KOf KX) mg "between_up" K75.s_between_up ["one", "two"] := by
      refine' DV.defF_mk KX GX (fun _ _ _ _ _ _ us hl => match us, hl with | [_, _], _ => rfl) ?dA ?dL ?dC ?dK
      (case dA => dsimp only [DV.KOf]; k_is); (case dL => dsimp only [DV.KOf]; k_is); (case dC => dsimp only [DV.KOf]; k_is); (case dK => dsimp only [DV.KOf]; k_is)
    have d_between_down : DV.DefF (DV.KOf KX) mg "between_down" K75.s_between_down ["one", "two"] := by
      refine' DV.defF_mk KX GX (fun _ _ _ _ _ _ us hl => match us, hl with | [_, _], _ => rfl) ?dA ?dL ?dC ?dK
      (case dA => dsimp only [DV.KOf]; k_is); (case dL => dsimp only [DV.KOf]; k_is); (case dC => dsimp only [DV.KOf]; k_is); (case dK => dsimp only [DV.KOf]; k_is)
    have d_cast_wide : DV.DefF (DV.KOf KX) mg "cast_wide" K75.s_cast_wide ["value", "kind", "due", "name"] := by
      refine' DV.defF_mk KX GX (fun _ _ _ _ _ _ us hl => match us, hl with | [_, _, _, _], _ => rfl) ?dA ?dL ?dC ?dK
      (case dA => dsimp only [DV.KOf]; k_is); (case dL => dsimp only [DV.KOf]; k_is); (case dC => dsimp only [DV.KOf]; k_is); (case dK => dsimp only [DV.KOf]; k_is)
    have d_untagged : DV.DefF (DV.KOf KX) mg "untagged" K75.s_untagged ["value", "due", "name"] := by
      refine' DV.defF_mk KX GX (fun _ _ _ _ _ _ us hl => match us, hl with | [_, _, _], _ => rfl) ?dA ?dL ?dC ?dK
      (case dA => dsimp only [DV.KOf]; k_is); (case dL => dsimp only [DV.KOf]; k_is); (case dC => dsimp only [DV.KOf]; k_is); (case dK => dsimp only [DV.KOf]; k_is)
    have d_could_be : DV.DefF (DV.KOf KX) mg "could_be" K75.s_could_be ["kind", "due"] := by
      refine' DV.defF_mk KX GX (fun _ _ _ _ _ _ us hl => match us, hl with | [_, _], _ => rfl) ?dA ?dL ?dC ?dK
      (case dA => dsimp only [DV.KOf]; k_is); (case dL => dsimp only [DV.KOf]; k_is); (case dC => dsimp only [DV.KOf]; k_is); (case dK => dsimp only [DV.KOf]; k_is)
    have d_has_wide : DV.DefF (DV.KOf KX) mg "has_wide" K75.s_has_wide ["value", "kind"] := by
      refine' DV.defF_mk KX GX (fun _ _ _ _ _ _ us hl => match us, hl with | [_, _], _ => rfl) ?dA ?dL ?dC ?dK
      (case dA => dsimp only [DV.KOf]; k_is); (case dL => dsimp only [DV.KOf]; k_is); (case dC => dsimp only [DV.KOf]; k_is); (case dK => dsimp only [DV.KOf]; k_is)
    have d_shown_wide : DV.DefF (DV.KOf KX) mg "shown_wide" K75.s_shown_wide ["value"] := by
      refine' DV.defF_mk KX GX (fun _ _ _ _ _ _ us hl => match us, hl with | [_], _ => rfl) ?dA ?dL ?dC ?dK
      (case dA => dsimp only [DV.KOf]; k_is); (case dL => dsimp only [DV.KOf]; k_is); (case dC => dsimp only [DV.KOf]; k_is); (case dK => dsimp only [DV.KOf]; k_is)
    have d_fewer_fields : DV.DefF (DV.KOf KX) mg "fewer_fields" K75.s_fewer_fields ["value", "kind"] := by
      refine' DV.defF_mk KX GX (fun _ _ _ _ _ _ us hl => match us, hl with | [_, _], _ => rfl) ?dA ?dL ?dC ?dK
      (case dA => dsimp only [DV.KOf]; k_is); (case dL => dsimp only [DV.KOf]; k_is); (case dC => dsimp only [DV.KOf]; k_is); (case dK => dsimp only [DV.KOf]; k_is)
    have d_is_free : DV.DefF (DV.KOf KX) mg "is_free" K75.s_is_free ["kind", "due"] := by
      refine' DV.defF_mk KX GX (fun _ _ _ _ _ _ us hl => match us, hl with | [_, _], _ => rfl) ?dA ?dL ?dC ?dK
      (case dA => dsimp only [DV.KOf]; k_is); (case dL => dsimp only [DV.KOf]; k_is); (case dC => dsimp only [DV.KOf]; k_is); (case dK => dsimp only [DV.KOf]; k_is)
    have d__law_draws : DV.DefF (DV.KOf KX) mg "_law_draws" K75.s__law_draws ["script"] := by
      refine' DV.defF_mk KX GX (fun _ _ _ _ _ _ us hl => match us, hl with | [_], _ => rfl) ?dA ?dL ?dC ?dK
      (case dA => dsimp only [DV.KOf]; k_is); (case dL => dsimp only [DV.KOf]; k_is); (case dC => dsimp only [DV.KOf]; k_is); (case dK => dsimp only [DV.KOf]; k_is)
    have d__law_draw : DV.DefF (DV.KOf KX) mg "_law_draw" K75.s__law_draw ["draws", "limit"] := by
      refine' DV.defF_mk KX GX (fun _ _ _ _ _ _ us hl => match us, hl with | [_, _], _ => rfl) ?dA ?dL ?dC ?dK
      (case dA => dsimp only [DV.KOf]; k_is); (case dL => dsimp only [DV.KOf]; k_is); (case dC => dsimp only [DV.KOf]; k_is); (case dK => dsimp only [DV.KOf]; k_is)
    have d__law_same : DV.DefF (DV.KOf KX) mg "_law_same" K75.s__law_same ["actual", "expected"] := by
      refine' DV.defF_mk KX GX (fun _ _ _ _ _ _ us hl => match us, hl with | [_, _], _ => rfl) ?dA ?dL ?dC ?dK
      (case dA => dsimp only [DV.KOf]; k_is); (case dL => dsimp only [DV.KOf]; k_is); (case dC => dsimp only [DV.KOf]; k_is); (case dK => dsimp only [DV.KOf]; k_is)
    have d__law_wide : DV.DefF (DV.KOf KX) mg "_law_wide" K75.s__law_wide ["draws", "deep"] := by
      refine' DV.defF_mk KX GX (fun _ _ _ _ _ _ us hl => match us, hl with | [_, _], _ => rfl) ?dA ?dL ?dC ?dK
      (case dA => dsimp only [DV.KOf]; k_is); (case dL => dsimp only [DV.KOf]; k_is); (case dC => dsimp only [DV.KOf]; k_is); (case dK => dsimp only [DV.KOf]; k_is)
    have d__law_mixed : DV.DefF (DV.KOf KX) mg "_law_mixed" K75.s__law_mixed ["draws", "kind"] := by
      refine' DV.defF_mk KX GX (fun _ _ _ _ _ _ us hl => match us, hl with | [_, _], _ => rfl) ?dA ?dL ?dC ?dK
      (case dA => dsimp only [DV.KOf]; k_is); (case dL => dsimp only [DV.KOf]; k_is); (case dC => dsimp only [DV.KOf]; k_is); (case dK => dsimp only [DV.KOf]; k_is)
    have d__law_under : DV.DefF (DV.KOf KX) mg "_law_under" K75.s__law_under ["one", "two"] := by
      refine' DV.defF_mk KX GX (fun _ _ _ _ _ _ us hl => match us, hl with | [_, _], _ => rfl) ?dA ?dL ?dC ?dK
      (case dA => dsimp only [DV.KOf]; k_is); (case dL => dsimp only [DV.KOf]; k_is); (case dC => dsimp only [DV.KOf]; k_is); (case dK => dsimp only [DV.KOf]; k_is)
    have d__law_could : DV.DefF (DV.KOf KX) mg "_law_could" K75.s__law_could ["one", "two"] := by
      refine' DV.defF_mk KX GX (fun _ _ _ _ _ _ us hl => match us, hl with | [_, _], _ => rfl) ?dA ?dL ?dC ?dK
      (case dA => dsimp only [DV.KOf]; k_is); (case dL => dsimp only [DV.KOf]; k_is); (case dC => dsimp only [DV.KOf]; k_is); (case dK => dsimp only [DV.KOf]; k_is)
    have d__law_value : DV.DefF (DV.KOf KX) mg "_law_value" K75.s__law_value ["draws", "kind", "deep"] := by
      refine' DV.defF_mk KX GX (fun _ _ _ _ _ _ us hl => match us, hl with | [_, _, _], _ => rfl) ?dA ?dL ?dC ?dK
      (case dA => dsimp only [DV.KOf]; k_is); (case dL => dsimp only [DV.KOf]; k_is); (case dC => dsimp only [DV.KOf]; k_is); (case dK => dsimp only [DV.KOf]; k_is)
    have d__law_forms : DV.DefF (DV.KOf KX) mg "_law_forms" K75.s__law_forms ["kind", "due"] := by
      refine' DV.defF_mk KX GX (fun _ _ _ _ _ _ us hl => match us, hl with | [_, _], _ => rfl) ?dA ?dL ?dC ?dK
      (case dA => dsimp only [DV.KOf]; k_is); (case dL => dsimp only [DV.KOf]; k_is); (case dC => dsimp only [DV.KOf]; k_is); (case dK => dsimp only [DV.KOf]; k_is)
    have d__law_cast : DV.DefF (DV.KOf KX) mg "_law_cast" K75.s__law_cast ["value", "kind", "due", "name"] := by
      refine' DV.defF_mk KX GX (fun _ _ _ _ _ _ us hl => match us, hl with | [_, _, _, _], _ => rfl) ?dA ?dL ?dC ?dK
      (case dA => dsimp only [DV.KOf]; k_is); (case dL => dsimp only [DV.KOf]; k_is); (case dC => dsimp only [DV.KOf]; k_is); (case dK => dsimp only [DV.KOf]; k_is)
    have d__law_has : DV.DefF (DV.KOf KX) mg "_law_has" K75.s__law_has ["value", "kind"] := by
      refine' DV.defF_mk KX GX (fun _ _ _ _ _ _ us hl => match us, hl with | [_, _], _ => rfl) ?dA ?dL ?dC ?dK
      (case dA => dsimp only [DV.KOf]; k_is); (case dL => dsimp only [DV.KOf]; k_is); (case dC => dsimp only [DV.KOf]; k_is); (case dK => dsimp only [DV.KOf]; k_is)
    have d__law_fewer : DV.DefF (DV.KOf KX) mg "_law_fewer" K75.s__law_fewer ["value", "kind"] := by
      refine' DV.defF_mk KX GX (fun _ _ _ _ _ _ us hl => match us, hl with | [_, _], _ => rfl) ?dA ?dL ?dC ?dK
      (case dA => dsimp only [DV.KOf]; k_is); (case dL => dsimp only [DV.KOf]; k_is); (case dC => dsimp only [DV.KOf]; k_is); (case dK => dsimp only [DV.KOf]; k_is)
    have Df : K75.Ds (DV.KOf KX) mg := ⟨d_fields, d_record, d_under, d_alike_under, d_between_up, d_between_down, d_cast_wide, d_untagged, d_could_be, d_has_wide, d_shown_wide, d_fewer_fields, d_is_free, d__law_draws, d__law_draw, d__law_same, d__law_wide, d__law_mixed, d__law_under, d__law_could, d__law_value, d__law_forms, d__law_cast, d__law_has, d__law_fewer⟩
    refine' DV.law_mkG (n := 79) KX GX hmg K75.sc_law (fun _ _ _ _ _ _ _ _ => .of_eq rfl) ⟨rfl, by decide, by decide⟩ (fun base => K75.ok_law Gs (K75.all_ok Gs Df 79)) ?dA ?dL ?dC
    (case dA => k_is); (case dL => k_is); (case dC => k_is)
end
