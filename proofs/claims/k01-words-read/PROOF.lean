import PyProof.Rows.All
import Wide.All
import OpenK.AllK
import Wide.FinOn
import HandS.ForMost
import HandS.ForExc
import HandS.EndTab
import HandS.TupAny
import HandS.Zip
import KE.GoesMore
import HandS.Wide
import HandS.IsInst
import HandS.Gcd
import HandS.CallSlots
import HandS.Flow
import HandS.Style
import HandS.Deep
import HandS.Small
import HandS.Iter
import HandS.WordsExc
import HandS.Defaults
import HandS.Dict
import HandS.ExcIs
import HandS.Comp
import PyProof.ReprRoads
import HandS.Lambda
import KE.SortKeyHeap
import HandS.Keys
import HandS.More
import HandS.Star
import HandS.ExcInit
import KE.KExcSuper
import HandS.ExcField
import HandS.MakeKwOnly
import PyProof.InstNe
import HandS.Set
import HandS.SetFor
import HandS.Text
import HandS.StrMore
import HandS.Strs
import HandS.Conv
import PySem.Challenge.RW_hitclocks_k01_words_read
import PyProof.StrLawsRepr
set_option Elab.async false
set_option linter.all false
set_option maxRecDepth 100000
set_option maxHeartbeats 4000000
/-! DL0: new tuples, of which the object is known (it has no dict). -/
namespace L2
open PySem PySem.Spec PyProof.Rows
/-- the tuple at a, its object known -/
def TupN (H : Hp) (a : Addr) (xs : List V) : Prop := ∃ ob : Obj, ob.dict = none ∧ H a = some (.frz ob (.tup xs))
theorem TupN.rd {H : Hp} {a : Addr} {xs : List V} (h : TupN H a xs) : Rd H a (.tup xs) := let ⟨ob, _, e⟩ := h; .inr ⟨ob, e⟩
abbrev tupO (its : List Value) : Obj := { cls := .type "tuple", data := .seq its.toArray }
abbrev NewT (H : Hp) (xs : List V) (k : V → Hp → Prop) : Prop := ∀ (p : Addr) (ob : Obj), H p = none → ob.dict = none → k (.ref p) (upd H p (.frz ob (.tup xs)))
section
variable {X : Cx} {pins : List (Addr × Obj)} {σ : L2.St} {H : Hp} {s : Shared} {es : List Expr} {pos : Pos} {t : TA}
theorem tupO_ok {P : Program} {w : World} {h : Heap} {a : Addr} {xs : List V} {its : List Value} {ob : Obj} (ho : h.get? a = some ob) (hc : ob.cls = .type "tuple") (hd : ob.data = .seq its.toArray its.toArray.size ∨ ∃ n, ob.data = .seq its.toArray n) (hz : xs.length ≤ sizeLine) (r : Vals xs its) : ObjOk P w (upd H a (.frz ob (.tup xs))) h a (.frz ob (.tup xs)) := by
  obtain ⟨n, hd⟩ : ∃ n, ob.data = .seq its.toArray n := hd.elim (fun z => ⟨_, z⟩) id
  exact ⟨ho, hz, its, r, ob, ho, hc, n, hd⟩
def tTupN (t : TA) : TE := fun σ H Q => t σ H fun xs H1 => xs.length ≤ sizeLine ∧ NewT H1 xs Q
theorem pe_tupN {x1} (h : PA X es t) : PE X (.Tuple es x1 pos) (tTupN t) := by
  refine ⟨fun pins s σ H Q I hq => ?_⟩
  refine wpAny_Tuple_spliced (thn (h.run pos pins s σ H _ I hq) fun us s1 ⟨xs, H1, I1, r, z, q⟩ => ⟨by rw [← r.length]; exact z, ?_⟩)
  have e : (s1.heap.push (tupO us)).get? s1.heap.objs.size = some (tupO us) := Heap.get?_push_size _ rfl
  exact ⟨.ref s1.heap.objs.size, _, I1.laid (t' := s1.toks) (fun b u e => Heap.get?_push_of_some _ e) (Nat.le_refl _) (tupO_ok e rfl (.inr ⟨_, rfl⟩) z r), rfl, q _ _ (I1.hok.fresh (Nat.le_refl _)) rfl⟩
/-- t + u -/
def rCatN (K : PySem.W.Frag) : R2 := fun x y H Q => ∃ a b xs ys, x = .ref a ∧ y = .ref b ∧ SqT K H a xs ∧ SqT K H b ys ∧ xs.length + ys.length ≤ sizeLine ∧
  (xs = [] → Q (.ref b) H) ∧ (xs ≠ [] → ys = [] → Q (.ref a) H) ∧ (xs ≠ [] → ys ≠ [] → NewT H (xs ++ ys) Q)
theorem op_catN : OpR X (binaryOp .Add) (rCatN X.K) := by
  intro pins s σ H x y v u Q I rx ry h
  obtain ⟨a, b, xs, ys, rfl, rfl, ha, hb, hz, q0, q1, q2⟩ := h
  cases rx
  cases ry
  obtain ⟨its, r1, p1, _⟩ := I.tuple ha
  obtain ⟨its2, r2, p2, _⟩ := I.tuple hb
  by_cases hx : xs = []
  · subst hx
    cases r1
    exact cat_tup0 p1 p2 ⟨.ref b, H, I, rfl, q0 rfl⟩
  · refine HT.cat_tup p1 p2 (fun z => hx (r1.nil_iff.mp z)) (fun z => ⟨.ref a, H, I, rfl, q1 hx (r2.nil_iff.mp z)⟩) (fun z => ?_) (by rw [← r1.length, ← r2.length]; exact hz)
    have e : (s.heap.push (tupO (its ++ its2))).get? s.heap.objs.size = some (tupO (its ++ its2)) := Heap.get?_push_size _ rfl
    exact ⟨.ref s.heap.objs.size, _, I.laid (t' := s.toks) (fun b ob q => Heap.get?_push_of_some _ q) (Nat.le_refl _) (tupO_ok e rfl (.inr ⟨_, rfl⟩) (by rw [List.length_append]; exact hz) (r1.append r2)), rfl, q2 hx (fun w => z (r2.nil_iff.mpr w)) _ _ (I.hok.fresh (Nat.le_refl _)) rfl⟩
/-- t[lo:hi] -/
def rSlN (K : PySem.W.Frag) : V → Option Int → Option Int → Hp → VK → Prop := fun x lo hi H Q => ∃ a xs, x = .ref a ∧ SqT K H a xs ∧
  (HT.sIx xs.length 0 lo = 0 ∧ HT.sIx xs.length xs.length hi = xs.length → Q (.ref a) H) ∧ (¬ (HT.sIx xs.length 0 lo = 0 ∧ HT.sIx xs.length xs.length hi = xs.length) → NewT H (cutV xs lo hi) Q)
theorem sl_tupN : SlR X (rSlN X.K) := by
  intro pins s σ H x v vl vu lo hi sl Q I rx hs pl pu h
  obtain ⟨a, xs, rfl, hx, q1, q2⟩ := h
  cases rx
  obtain ⟨its, r, ht, hz⟩ := I.tuple hx
  have hl : its.toArray.size = xs.length := by rw [List.size_toArray]; exact r.length.symm
  refine ⟨"tuple", _, PyProof.Rows.slot_tuple_getitem.lookup, ht.typeIs, ?_⟩
  by_cases hw : HT.sIx xs.length 0 lo = 0 ∧ HT.sIx xs.length xs.length hi = xs.length
  · exact getItem_tuple_whole ht hs pl pu (by rw [hl]; exact hw) ⟨.ref a, H, I, rfl, q1 hw⟩
  · refine HT.getItem_tuple_cut ht hs pl pu (by rw [hl]; exact hw) ?_ (by rw [hl]; exact hz)
    rw [hl]
    exact ⟨.ref s.heap.objs.size, _, I.laid (t' := s.toks) (fun b ob q => Heap.get?_push_of_some _ q) (Nat.le_refl _) (tupO_ok (Heap.get?_push_size _ rfl) rfl (.inr ⟨_, rfl⟩) (Nat.le_trans (cutV_length xs lo hi) hz) ((r.drop (HT.sIx xs.length 0 lo)).take (HT.sIx xs.length xs.length hi - HT.sIx xs.length 0 lo))), rfl, q2 hw _ _ (I.hok.fresh (Nat.le_refl _)) rfl⟩
/-- tuple(x) -/
theorem call_tupleN : CallR X (.type "tuple") (fun xs H Q => ∃ p ys, xs = [.ref p] ∧ ((SqL X.K H p ys ∧ NewT H ys Q) ∨ (SqT X.K H p ys ∧ Q (.ref p) H))) := by
  intro pins s σ H xs us Q I r h
  obtain ⟨p, ys, rfl, h⟩ := h
  obtain ⟨u, rfl, rx⟩ := vals1 r
  cases rx
  rcases h with ⟨hq, q⟩ | ⟨hq, q⟩
  · obtain ⟨its, r', pl, hz⟩ := I.list hq
    have hl := r'.length
    refine call_tuple_list pl.isList (fun h' kp => ?_) (by simp only [List.size_toArray] <;> omega)
    have I1 : Inv X pins σ H { s with heap := h' } := I.kept (t' := s.toks) kp
    have e : (h'.push (tupO its)).get? h'.objs.size = some (tupO its) := Heap.get?_push_size _ rfl
    exact ⟨.ref h'.objs.size, _, I1.laid (t' := s.toks) (fun b o e => Heap.get?_push_of_some _ e) (Nat.le_refl _) (tupO_ok e rfl (.inr ⟨_, rfl⟩) hz r'), rfl, q _ _ (I1.hok.fresh (Nat.le_refl _)) rfl⟩
  · obtain ⟨its, r', pl, hz⟩ := I.tuple hq
    exact call_tuple_same pl ⟨.ref p, H, I, rfl, q⟩
end
/-! ### enumerate, zip: each item a new pair -/
def IteN (K : PySem.W.Frag) (a : Addr) : It :=
  ⟨fun i H => ∃ (xs : List V) (x : V), SqL K H a xs ∧ xs[i]? = some x, fun i H v H' => ∃ T x ob, v = .ref T ∧ H T = none ∧ ob.dict = none ∧ H' = upd H T (.frz ob (.tup [.int (i : Nat), x])) ∧ ∀ xs, SqL K H a xs → xs[i]? = some x, fun i H => ∃ xs : List V, SqL K H a xs ∧ xs.length ≤ i⟩
theorem turn_enumN {P : Program} {w : World} {K : PySem.W.Frag} {elts : List Expr} {kk : Nat} {tpos : Pos} (a e it : Addr) : Turn P w K (.Tuple elts kk tpos) (IteN K a) [e, it] e fun i h => (∃ old, IsEnum h e it ((i : Nat) : Int) old) ∧ h.IsListIter it a i ∧ e ≠ it where
  mem := List.mem_cons_self
  obj := fun i h st b hb => by
    obtain ⟨⟨old, he⟩, ⟨o, ho, hc, hd⟩, _⟩ := st
    rcases (show b = e ∨ b = it by simpa using hb) with rfl | rfl
    · exact ⟨_, he, fun v q => nomatch q⟩
    · exact ⟨o, ho, fun v q => by rw [hd] at q; cases q⟩
  keep := fun i h h' st k => by
    obtain ⟨⟨old, he⟩, hi, hne⟩ := st
    exact ⟨⟨old, k e (by simp) _ he⟩, hi.at fun o q => k it (by simp) o q, hne⟩
  item := by
    intro X hP hw hK hc i pins s σ H E I hf st hg
    cases hP; cases hw; cases hK
    obtain ⟨⟨old, he⟩, hit, hne⟩ := st
    obtain ⟨xs, x, hq, hx⟩ := hg
    obtain ⟨its, rv, p, hz⟩ := I.list hq
    obtain ⟨u, hu, ru⟩ := rv.get hx
    have z1 : e < s.heap.objs.size := Heap.lt_size he
    have z2 : it < s.heap.objs.size := Heap.lt_size hit.choose_spec.1
    refine wpAny_pyNext_enum_item he hit p.isList (x := u) (by simpa using hu) hne fun h1 ho hit' hT hsz hk => ?_
    refine ⟨_, rfl, wpAny_letOwnedTupleGo_enum (s := { s with heap := h1, toks := s.toks + 1 }) ho fun h2 he2 sb => ?_⟩
    have hT2 : h2.get? s.heap.objs.size = some (tupO [.int i s.toks, u]) := (sb.2 _ (Nat.ne_of_gt z1)).trans hT
    have I1 := I.turnedNew (t' := s.toks + 1) (ch := [e, it]) (fun b ob hb q => (sb.2 b fun z => hb (by simp [z])).trans (hk b ob (fun z => hb (by simp [z])) (fun z => hb (by simp [z])) q)) hf (Nat.le_refl _) (tupO_ok (P := X.prog) (w := X.w) (H := H) (xs := [.int (i : Nat), x]) hT2 rfl (.inr ⟨_, rfl⟩) (by show 2 ≤ sizeLine; decide) (.cons ⟨_, rfl⟩ (.cons ru .nil)))
    have e1 : ((i + 1 : Nat) : Int) = (i : Int) + 1 := by omega
    refine ⟨.ref s.heap.objs.size, _, I1, rfl, ⟨_, x, _, rfl, I.hok.fresh (Nat.le_refl _), rfl, rfl, fun ys hy => by rw [I.list_inj hy hq]; exact hx⟩, ⟨⟨u, by rw [e1]; exact he2⟩, hit'.at fun o q => (sb.2 it (Ne.symm hne)).trans q, hne⟩, fun b hb => ?_⟩
    have hb' : b < s.heap.objs.size := by
      rcases (show b = e ∨ b = it by simpa using hb) with rfl | rfl
      · exact z1
      · exact z2
    rw [upd_ne (Nat.ne_of_lt hb'), (hf b hb).1]
  done := by
    intro X hP hw hK hc i pins s σ H E I hf st hg
    cases hP; cases hw; cases hK
    obtain ⟨⟨old, he⟩, hit, hne⟩ := st
    obtain ⟨xs, hq, hx⟩ := hg
    obtain ⟨its, rv, p, hz⟩ := I.list hq
    obtain ⟨f0, f1, f2, f3, f4, f5⟩ := hf it (by simp)
    have hl := rv.length
    exact wpAny_pyNext_enum_end (I.ok.hd hc) he hit p.isList (by simp; omega) fun h1 eb => ⟨rfl, I.turned (t' := s.toks) (fun b o hb q => eb b o hb q) f0 f1 f3 f4 f5⟩
  self := fun A i s Q E st h => by
    obtain ⟨⟨_, he⟩, _⟩ := st
    exact wpAny_pyIter_enum he h
end L2
set_option maxHeartbeats 4000000
/-! DN1: zip: each item a new pair whose object is known. Printed by mkdn1.py. -/
namespace L2
open PySem PySem.Spec PyProof.Rows
theorem five {c z TI TO i1 i2 : Addr} (h : c ∈ [z, TI, TO, i1, i2]) : c = z ∨ c = TI ∨ c = TO ∨ c = i1 ∨ c = i2 := by simpa using h
def ItzNL (K : PySem.W.Frag) (a b : Addr) : It :=
  ⟨fun i H => ∃ (xs ys : List V) (x y : V), SqL K H a xs ∧ SqL K H b ys ∧ xs[i]? = some x ∧ ys[i]? = some y,
   fun i H v H' => ∃ T x y ob, v = .ref T ∧ H T = none ∧ ob.dict = none ∧ H' = upd H T (.frz ob (.tup [x, y])) ∧ (∀ xs, SqL K H a xs → xs[i]? = some x) ∧ ∀ ys, SqL K H b ys → ys[i]? = some y,
   fun i H => ∃ xs ys : List V, SqL K H a xs ∧ SqL K H b ys ∧ (xs.length ≤ i ∨ ys.length ≤ i)⟩
theorem turn_zipNL {P : Program} {w : World} {K : PySem.W.Frag} {elts : List Expr} {kk : Nat} {tpos : Pos} {a b z TI TO i1 i2 : Addr} (D : ZipApart z TI TO i1 i2 a b) :
    Turn P w K (.Tuple elts kk tpos) (ItzNL K a b) [z, TI, TO, i1, i2] z fun i h => IsZip h z TI TO .none ∧ IsPair h TI (.ref i1) (.ref i2) ∧ (∃ x y, IsPair h TO x y) ∧ h.IsListIter i1 a i ∧ h.IsListIter i2 b i where
  mem := List.mem_cons_self
  obj := fun i h st c hc => by
    obtain ⟨q0, q1, ⟨x, y, q2⟩, ⟨o1, e1, _, d1⟩, ⟨o2, e2, _, d2⟩⟩ := st
    rcases five hc with rfl | rfl | rfl | rfl | rfl
    · exact ⟨_, q0, fun v q => nomatch q⟩
    · exact ⟨_, q1, fun v q => nomatch q⟩
    · exact ⟨_, q2, fun v q => nomatch q⟩
    · exact ⟨o1, e1, fun v q => by rw [d1] at q; cases q⟩
    · exact ⟨o2, e2, fun v q => by rw [d2] at q; cases q⟩
  keep := fun i h h' st k => by
    obtain ⟨q0, q1, ⟨x, y, q2⟩, q3, q4⟩ := st
    exact ⟨k z (by simp) _ q0, k TI (by simp) _ q1, ⟨x, y, k TO (by simp) _ q2⟩, q3.at fun o q => k i1 (by simp) o q, q4.at fun o q => k i2 (by simp) o q⟩
  item := by
    intro X hP hw hK hc i pins s σ H E I hf st hg
    cases hP; cases hw; cases hK
    obtain ⟨q0, q1, ⟨x0, y0, q2⟩, q3, q4⟩ := st
    obtain ⟨xs, ys, x, y, hqx, hqy, hx, hy⟩ := hg
    obtain ⟨its, rv, p, _⟩ := I.list hqx
    obtain ⟨itt, rw_, p2, _⟩ := I.list hqy
    obtain ⟨u, hu, ru⟩ := rv.get hx
    obtain ⟨u2, hu2, ru2⟩ := rw_.get hy
    have zl : z < s.heap.objs.size := Heap.lt_size q0
    refine wpAny_pyNext_zip_item D q0 q1 q2 q3 q4 p.isList p2.isList (x := u) (y := u2) (by simpa using hu) (by simpa using hu2) fun h1 w0 w2 w3 w4 hT hsz hk => ?_
    refine ⟨_, rfl, wpAny_letOwnedTupleGo_zip (s := { s with heap := h1 }) w0 fun h2 v0 sb => ?_⟩
    have hT2 : h2.get? s.heap.objs.size = some (tupO [u, u2]) := (sb.2 _ (Nat.ne_of_gt zl)).trans hT
    have I1 := I.turnedNew (t' := s.toks) (ch := [z, TI, TO, i1, i2]) (fun c o hb q => (sb.2 c fun e => hb (by simp [e])).trans (hk c o (fun e => hb (by simp [e])) (fun e => hb (by simp [e])) (fun e => hb (by simp [e])) (fun e => hb (by simp [e])) q)) hf (Nat.le_refl _)
      (tupO_ok (P := X.prog) (w := X.w) (H := H) (xs := [x, y]) hT2 rfl (.inr ⟨_, rfl⟩) (by show 2 ≤ sizeLine; decide) (.cons ru (.cons ru2 .nil)))
    refine ⟨.ref s.heap.objs.size, _, I1, rfl, ⟨_, x, y, _, rfl, I.hok.fresh (Nat.le_refl _), rfl, rfl, fun l hl => by rw [I.list_inj hl hqx]; exact hx, fun l hl => by rw [I.list_inj hl hqy]; exact hy⟩,
      ⟨v0, (sb.2 _ D.TIz).trans (hk _ _ D.TIz D.TITO D.TIi1 D.TIi2 q1), ⟨u, u2, (sb.2 _ D.TOz).trans w2⟩, w3.at fun o q => (sb.2 _ D.i1z).trans q, w4.at fun o q => (sb.2 _ D.i2z).trans q⟩, fun c hcm => ?_⟩
    have hlt : c < s.heap.objs.size := by
      rcases five hcm with rfl | rfl | rfl | rfl | rfl
      · exact zl
      · exact Heap.lt_size q1
      · exact Heap.lt_size q2
      · obtain ⟨_, e1, _⟩ := q3; exact Heap.lt_size e1
      · obtain ⟨_, e2, _⟩ := q4; exact Heap.lt_size e2
    rw [upd_ne (Nat.ne_of_lt hlt), (hf c hcm).1]
  done := by
    intro X hP hw hK hc i pins s σ H E I hf st hg
    cases hP; cases hw; cases hK
    obtain ⟨q0, q1, ⟨x0, y0, q2⟩, q3, q4⟩ := st
    obtain ⟨xs, ys, hqx, hqy, hend⟩ := hg
    obtain ⟨its, rv, p, _⟩ := I.list hqx
    obtain ⟨itt, rw_, p2, _⟩ := I.list hqy
    have l1 := rv.length
    have l2 := rw_.length
    have he : its.toArray[i]? = none ∨ itt.toArray[i]? = none := hend.imp (fun q => by simp; omega) fun q => by simp; omega
    exact wpAny_pyNext_zip_end (I.ok.hd hc) D q0 q1 q2 q3 q4 p.isList p2.isList he fun h1 hk => ⟨rfl, I.turnedL (t' := s.toks) (ch := [z, TI, TO, i1, i2]) (fun c o hb q =>
      hk c o (fun e => hb (by simp [e])) (fun e => hb (by simp [e])) (fun e => hb (by simp [e])) (fun e => hb (by simp [e])) q) hf⟩
  self := fun A i s Q E st h => wpAny_pyIter_zip st.1 h
def ItzNT (K : PySem.W.Frag) (a b : Addr) : It :=
  ⟨fun i H => ∃ (xs ys : List V) (x y : V), SqT K H a xs ∧ SqT K H b ys ∧ xs[i]? = some x ∧ ys[i]? = some y,
   fun i H v H' => ∃ T x y ob, v = .ref T ∧ H T = none ∧ ob.dict = none ∧ H' = upd H T (.frz ob (.tup [x, y])) ∧ (∀ xs, SqT K H a xs → xs[i]? = some x) ∧ ∀ ys, SqT K H b ys → ys[i]? = some y,
   fun i H => ∃ xs ys : List V, SqT K H a xs ∧ SqT K H b ys ∧ (xs.length ≤ i ∨ ys.length ≤ i)⟩
theorem turn_zipNT {P : Program} {w : World} {K : PySem.W.Frag} {elts : List Expr} {kk : Nat} {tpos : Pos} {a b z TI TO i1 i2 : Addr} (D : ZipApart z TI TO i1 i2 a b) :
    Turn P w K (.Tuple elts kk tpos) (ItzNT K a b) [z, TI, TO, i1, i2] z fun i h => IsZip h z TI TO .none ∧ IsPair h TI (.ref i1) (.ref i2) ∧ (∃ x y, IsPair h TO x y) ∧ h.IsTupleIter i1 a i ∧ h.IsTupleIter i2 b i where
  mem := List.mem_cons_self
  obj := fun i h st c hc => by
    obtain ⟨q0, q1, ⟨x, y, q2⟩, ⟨o1, e1, _, d1⟩, ⟨o2, e2, _, d2⟩⟩ := st
    rcases five hc with rfl | rfl | rfl | rfl | rfl
    · exact ⟨_, q0, fun v q => nomatch q⟩
    · exact ⟨_, q1, fun v q => nomatch q⟩
    · exact ⟨_, q2, fun v q => nomatch q⟩
    · exact ⟨o1, e1, fun v q => by rw [d1] at q; cases q⟩
    · exact ⟨o2, e2, fun v q => by rw [d2] at q; cases q⟩
  keep := fun i h h' st k => by
    obtain ⟨q0, q1, ⟨x, y, q2⟩, q3, q4⟩ := st
    exact ⟨k z (by simp) _ q0, k TI (by simp) _ q1, ⟨x, y, k TO (by simp) _ q2⟩, q3.at fun o q => k i1 (by simp) o q, q4.at fun o q => k i2 (by simp) o q⟩
  item := by
    intro X hP hw hK hc i pins s σ H E I hf st hg
    cases hP; cases hw; cases hK
    obtain ⟨q0, q1, ⟨x0, y0, q2⟩, q3, q4⟩ := st
    obtain ⟨xs, ys, x, y, hqx, hqy, hx, hy⟩ := hg
    obtain ⟨its, rv, p, _⟩ := I.tuple hqx
    obtain ⟨itt, rw_, p2, _⟩ := I.tuple hqy
    obtain ⟨u, hu, ru⟩ := rv.get hx
    obtain ⟨u2, hu2, ru2⟩ := rw_.get hy
    have zl : z < s.heap.objs.size := Heap.lt_size q0
    refine RZ.pyNext_zipT_item D q0 q1 q2 q3 q4 p p2 (x := u) (y := u2) (by simpa using hu) (by simpa using hu2) fun h1 w0 w2 w3 w4 hT hsz hk => ?_
    refine ⟨_, rfl, wpAny_letOwnedTupleGo_zip (s := { s with heap := h1 }) w0 fun h2 v0 sb => ?_⟩
    have hT2 : h2.get? s.heap.objs.size = some (tupO [u, u2]) := (sb.2 _ (Nat.ne_of_gt zl)).trans hT
    have I1 := I.turnedNew (t' := s.toks) (ch := [z, TI, TO, i1, i2]) (fun c o hb q => (sb.2 c fun e => hb (by simp [e])).trans (hk c o (fun e => hb (by simp [e])) (fun e => hb (by simp [e])) (fun e => hb (by simp [e])) (fun e => hb (by simp [e])) q)) hf (Nat.le_refl _)
      (tupO_ok (P := X.prog) (w := X.w) (H := H) (xs := [x, y]) hT2 rfl (.inr ⟨_, rfl⟩) (by show 2 ≤ sizeLine; decide) (.cons ru (.cons ru2 .nil)))
    refine ⟨.ref s.heap.objs.size, _, I1, rfl, ⟨_, x, y, _, rfl, I.hok.fresh (Nat.le_refl _), rfl, rfl, fun l hl => by rw [I.tuple_inj hl hqx]; exact hx, fun l hl => by rw [I.tuple_inj hl hqy]; exact hy⟩,
      ⟨v0, (sb.2 _ D.TIz).trans (hk _ _ D.TIz D.TITO D.TIi1 D.TIi2 q1), ⟨u, u2, (sb.2 _ D.TOz).trans w2⟩, w3.at fun o q => (sb.2 _ D.i1z).trans q, w4.at fun o q => (sb.2 _ D.i2z).trans q⟩, fun c hcm => ?_⟩
    have hlt : c < s.heap.objs.size := by
      rcases five hcm with rfl | rfl | rfl | rfl | rfl
      · exact zl
      · exact Heap.lt_size q1
      · exact Heap.lt_size q2
      · obtain ⟨_, e1, _⟩ := q3; exact Heap.lt_size e1
      · obtain ⟨_, e2, _⟩ := q4; exact Heap.lt_size e2
    rw [upd_ne (Nat.ne_of_lt hlt), (hf c hcm).1]
  done := by
    intro X hP hw hK hc i pins s σ H E I hf st hg
    cases hP; cases hw; cases hK
    obtain ⟨q0, q1, ⟨x0, y0, q2⟩, q3, q4⟩ := st
    obtain ⟨xs, ys, hqx, hqy, hend⟩ := hg
    obtain ⟨its, rv, p, _⟩ := I.tuple hqx
    obtain ⟨itt, rw_, p2, _⟩ := I.tuple hqy
    have l1 := rv.length
    have l2 := rw_.length
    have he : its.toArray[i]? = none ∨ itt.toArray[i]? = none := hend.imp (fun q => by simp; omega) fun q => by simp; omega
    exact RZ.pyNext_zipT_end (I.ok.hd hc) D q0 q1 q2 q3 q4 p p2 he fun h1 hk => ⟨rfl, I.turnedL (t' := s.toks) (ch := [z, TI, TO, i1, i2]) (fun c o hb q =>
      hk c o (fun e => hb (by simp [e])) (fun e => hb (by simp [e])) (fun e => hb (by simp [e])) (fun e => hb (by simp [e])) q) hf⟩
  self := fun A i s Q E st h => wpAny_pyIter_zip st.1 h
def iZipN (K : PySem.W.Frag) (ta : TA) : TI := fun σ H R => ta σ H fun vs H1 => ∃ a b xs ys, vs = [.ref a, .ref b] ∧ ((SqL K H1 a xs ∧ SqL K H1 b ys ∧ R (ItzNL K a b) H1) ∨ (SqT K H1 a xs ∧ SqT K H1 b ys ∧ R (ItzNT K a b) H1))
theorem pi_zipN {X : Cx} {e e2 : Expr} {ta : TA} {p pos tpos : Pos} {elts : List Expr} {kk : Nat} (hg : Gl X "zip") (hm : X.mg "zip" = none) (ha : PA X [e, e2] ta)
    (hs : starEach [e, e2] X.env = (false, eval e X.env) :: starEach [e2] X.env := by rfl) (hpl : (backTo pos (starEach [e2] X.env)).any (·.1) = false := by rfl) : PI X (.Tuple elts kk tpos) (.Call (.Name "zip" p) [e, e2] [] pos) (iZipN X.K ta) := ⟨fun pins s σ H R I h => by
  refine Call_ (ld_blt I hg hm PyProof.Rows.boot_zip (PyProof.Rows.callWith_type1 (thn (ha.run pos pins s σ H _ I h) fun us s1 ⟨vs, H1, I1, r1, q1⟩ => ?_) hs hpl))
  obtain ⟨a, b, xs, ys, ex, q1⟩ := q1
  subst ex
  cases r1 with
  | cons r rr =>
    cases rr with
    | cons r' rr =>
      cases rr; cases r; cases r'
      have fr : ∀ c, c ∈ [s1.heap.objs.size + 4, s1.heap.objs.size + 2, s1.heap.objs.size + 3, s1.heap.objs.size, s1.heap.objs.size + 1] → FpOk X pins H1 c := fun c hc => by
        have hle : s1.heap.objs.size ≤ c := by rcases five hc with rfl | rfl | rfl | rfl | rfl <;> omega
        exact I1.fpOk hle (I1.hok.fresh hle)
      rcases q1 with ⟨hqx, hqy, q⟩ | ⟨hqx, hqy, q⟩
      · obtain ⟨its, rv, p1, _⟩ := I1.list hqx
        obtain ⟨itt, rw_, p2, _⟩ := I1.list hqy
        refine call_zip_2 p1.isList p2.isList fun h1 w0 w1 w2 w3 w4 hsz hk => wpAny_pyIter_zip w0 ?_
        exact ⟨s1.heap.objs.size + 4, _, _, _, H1, rfl, I1.kept (t' := s1.toks) hk, turn_zipNL (PySem.W.ktu_apart s1.heap.objs.size a b p1.lt p2.lt), ⟨w0, w1, ⟨_, _, w2⟩, w3, w4⟩, fr, q⟩
      · obtain ⟨its, rv, p1, _⟩ := I1.tuple hqx
        obtain ⟨itt, rw_, p2, _⟩ := I1.tuple hqy
        obtain ⟨o1, ho1, _⟩ := id p1
        obtain ⟨o2, ho2, _⟩ := id p2
        refine RZ.call_zipT (show s1.heap.IsTuple a its.toArray from p1) (show s1.heap.IsTuple b itt.toArray from p2) fun h1 w0 w1 w2 w3 w4 hsz hk => wpAny_pyIter_zip w0 ?_
        exact ⟨s1.heap.objs.size + 4, _, _, _, H1, rfl, I1.kept (t' := s1.toks) hk, turn_zipNT (PySem.W.ktu_apart s1.heap.objs.size a b (Heap.lt_size ho1) (Heap.lt_size ho2)), ⟨w0, w1, ⟨_, _, w2⟩, w3, w4⟩, fr, q⟩⟩
end L2
set_option maxHeartbeats 4000000


/-! Values as plain data; the store of what may change; how an abstract heap holds both. -/
namespace DL
open PySem PySem.Spec PyProof.Rows L2

/-- a value as data; own n: the changing object of the label n -/
inductive D where
  | non | bl (b : Bool) | int (i : Int) | str (x : Str) | tup (xs : List D) | lst (xs : List D) | flst (xs : List D)
  | dic (ks : List Key) (vs : List D) | dit (ks : List (List Key)) (vs : List D) | obj (c : Nat) (fs : List Str) (vs : List D) | exc (c : Nat) (fs : List Str) (vs : List D) | own (n : Nat)
  deriving Inhabited
/-- what a changing object holds -/
inductive MO where
  | lst (xs : List D) | dic (ks : List Key) (vs : List D) | dit (ks : List (List Key)) (vs : List D) | ins (c : Nat) (fs : List Str) (vs : List D)
  deriving Inhabited
abbrev Sto := List MO
abbrev Env := List (Option D)
/-- what is fixed through a law: the written part, the classes by number, the code tables -/
structure Cfg where
  K : PySem.W.Frag
  cls : List Addr
  exs : List Addr
  T : List (Addr × Str)
def KTup (K : PySem.W.Frag) (a : Addr) (xs : List V) : Prop := ∃ (o : Obj) (its : Array Value) (n : Nat), K.lookup a = some o ∧ o.cls = .type "tuple" ∧ o.dict = none ∧ o.data = .seq its n ∧ its.size ≤ sizeLine ∧ Vals xs its.toList
def KLst (K : PySem.W.Frag) (a : Addr) (xs : List V) : Prop := ∃ (o : Obj) (its : Array Value) (n : Nat), K.lookup a = some o ∧ o.cls = .type "list" ∧ o.dict = none ∧ o.data = .seq its n ∧ its.size ≤ sizeLine ∧ Vals xs its.toList
/-- a caught exception at a -/
def ExH (cls : Value) (d : Option Addr) (a : Addr) : HO := .ext fun h => ∃ (oe : Obj) (vs : Array Value), h.get? a = some oe ∧ Zc cls d oe ∧ oe.data = .fields vs
/-- the changing objects: lb by their labels; av: all that no data but a label leads to -/
structure Th where
  av : List Addr
  lb : List Addr
  sub : ∀ a ∈ lb, a ∈ av
/-- .. with one more label; with one more that is hidden; and shown again -/
def Th.own (θ : Th) (p : Addr) : Th := ⟨p :: θ.av, θ.lb ++ [p], fun a h => by
  rcases List.mem_append.mp h with h | h
  · exact List.mem_cons_of_mem _ (θ.sub a h)
  · rw [List.mem_singleton.mp h]; exact List.mem_cons_self⟩
def Th.hid (θ : Th) (p : Addr) : Th := ⟨p :: θ.av, θ.lb, fun a h => List.mem_cons_of_mem _ (θ.sub a h)⟩
def Th.unh (θ : Th) (p : Addr) : Th := ⟨θ.av.filter fun a => decide (a ≠ p) || decide (a ∈ θ.lb), θ.lb, fun a h => List.mem_filter.mpr ⟨θ.sub a h, by simp [h]⟩⟩
mutual
inductive Rep (G : Cfg) (H : Hp) (θ : Th) : V → D → Prop
  | non : Rep G H θ .non .non
  | bl (b : Bool) : Rep G H θ (.bl b) (.bl b)
  | int (i : Int) : Rep G H θ (.int i) (.int i)
  | str (x : Str) : Rep G H θ (.str x) (.str x)
  | tup {a : Addr} {xs : List V} {ds : List D} (h : TupN H a xs) (n : a ∉ θ.av) (r : Reps G H θ xs ds) : Rep G H θ (.ref a) (.tup ds)
  | ktup {a : Addr} {xs : List V} {ds : List D} (h : KTup G.K a xs) (r : Reps G H θ xs ds) : Rep G H θ (.ref a) (.tup ds)
  | lst {a : Addr} {xs : List V} {ds : List D} (h : H a = some (.lst xs)) (n : a ∉ θ.av) (r : Reps G H θ xs ds) : Rep G H θ (.ref a) (.lst ds)
  | flst {a : Addr} {xs : List V} {ds : List D} (h : Rd H a (.lst xs)) (n : a ∉ θ.av) (r : Reps G H θ xs ds) : Rep G H θ (.ref a) (.flst ds)
  | klst {a : Addr} {xs : List V} {ds : List D} (h : KLst G.K a xs) (r : Reps G H θ xs ds) : Rep G H θ (.ref a) (.flst ds)
  | dic {a : Addr} {kvs : List (Key × V)} {ks : List Key} {ds : List D} (h : H a = some (.dK kvs)) (n : a ∉ θ.av) (hk : kvs.map (·.1) = ks) (r : Reps G H θ (kvs.map (·.2)) ds) : Rep G H θ (.ref a) (.dic ks ds)
  | dit {a : Addr} {kvs : List (List Key × V)} {ks : List (List Key)} {ds : List D} (h : H a = some (.dT kvs)) (n : a ∉ θ.av) (hk : kvs.map (·.1) = ks) (r : Reps G H θ (kvs.map (·.2)) ds) : Rep G H θ (.ref a) (.dit ks ds)
  | obj {a C dx : Addr} {fv : List (Str × V)} {c : Nat} {fs : List Str} {ds : List D} (hc : G.cls[c]? = some C) (h : H a = some (.ins C dx fv)) (n : a ∉ θ.av) (hk : fv.map (·.1) = fs) (r : Reps G H θ (fv.map (·.2)) ds) : Rep G H θ (.ref a) (.obj c fs ds)
  | exc0 {a C : Addr} {c : Nat} (hc : G.exs[c]? = some C) (h : H a = some (ExH (.ref C) none a)) (n : a ∉ θ.av) : Rep G H θ (.ref a) (.exc c [] [])
  | exc1 {a C dd : Addr} {fv : List (Str × V)} {c : Nat} {fs : List Str} {ds : List D} (hc : G.exs[c]? = some C) (h : H a = some (ExH (.ref C) (some dd) a)) (n : a ∉ θ.av) (hd : H dd = some (.xd fv)) (nd : dd ∉ θ.av) (hk : fv.map (·.1) = fs) (r : Reps G H θ (fv.map (·.2)) ds) (ne : fs ≠ []) : Rep G H θ (.ref a) (.exc c fs ds)
  | own {a : Addr} {n : Nat} (h : θ.lb[n]? = some a) : Rep G H θ (.ref a) (.own n)
inductive Reps (G : Cfg) (H : Hp) (θ : Th) : List V → List D → Prop
  | nil : Reps G H θ [] []
  | cons {v : V} {vs : List V} {d : D} {ds : List D} (h : Rep G H θ v d) (t : Reps G H θ vs ds) : Reps G H θ (v :: vs) (d :: ds)
end
/-- all but the changing objects (and the tables) stays -/
structure Ext (H : Hp) (θ : Th) (H' : Hp) (θ' : Th) : Prop where
  pre : θ.lb <+: θ'.lb
  sub : ∀ a ∈ θ.av, a ∈ θ'.av
  keep : ∀ b o, H b = some o → b ∉ θ.lb → (∀ ps, o ≠ .tbl ps) → H' b = some o
  new : ∀ b ∈ θ'.av, b ∉ θ.av → ∀ o, H b = some o → ∃ ps, o = .tbl ps
  newl : ∀ b ∈ θ'.lb, b ∉ θ.lb → ∀ o, H b = some o → ∃ ps, o = .tbl ps
section
variable {G : Cfg} {H H' H1 H2 : Hp} {θ θ' θ1 θ2 : Th} {a b p : Addr} {o : HO}
theorem Th.nl (h : a ∉ θ.av) : a ∉ θ.lb := fun z => h (θ.sub a z)
theorem Ext.refl (H : Hp) (θ : Th) : Ext H θ H θ := ⟨⟨[], by simp⟩, fun _ h => h, fun _ _ h _ _ => h, fun b h n => absurd h n, fun b h n => absurd h n⟩
theorem Ext.out (E : Ext H θ H' θ') (h : H a = some o) (n : a ∉ θ.av) (t : ∀ ps, o ≠ .tbl ps) : a ∉ θ'.av := fun m => by
  obtain ⟨ps, z⟩ := E.new a m n o h
  exact t ps z
theorem Ext.outl (E : Ext H θ H' θ') (h : H a = some o) (n : a ∉ θ.lb) (t : ∀ ps, o ≠ .tbl ps) : a ∉ θ'.lb := fun m => by
  obtain ⟨ps, z⟩ := E.newl a m n o h
  exact t ps z
theorem Ext.trans (E : Ext H θ H1 θ1) (F : Ext H1 θ1 H2 θ2) : Ext H θ H2 θ2 where
  pre := E.pre.trans F.pre
  sub := fun a h => F.sub a (E.sub a h)
  keep := fun b o h n t => F.keep b o (E.keep b o h n t) (E.outl h n t) t
  new := fun b m n o h => by
    by_cases t : ∃ ps, o = .tbl ps
    · exact t
    · have t' : ∀ ps, o ≠ .tbl ps := fun ps e => t ⟨ps, e⟩
      by_cases h1 : b ∈ θ1.av
      · exact E.new b h1 n o h
      · exact F.new b m h1 o (E.keep b o h (Th.nl n) t')
  newl := fun b m n o h => by
    by_cases t : ∃ ps, o = .tbl ps
    · exact t
    · have t' : ∀ ps, o ≠ .tbl ps := fun ps e => t ⟨ps, e⟩
      by_cases h1 : b ∈ θ1.lb
      · exact E.newl b h1 n o h
      · exact F.newl b m h1 o (E.keep b o h n t')
theorem Ext.alloc (hp : H p = none) (o : HO) : Ext H θ (upd H p o) θ :=
  ⟨⟨[], by simp⟩, fun _ h => h, fun b u h _ _ => by rw [upd_ne (ne_of_none h hp)]; exact h, fun b h n => absurd h n, fun b h n => absurd h n⟩
theorem Ext.allocOwn (hp : H p = none) (o : HO) : Ext H θ (upd H p o) (θ.own p) :=
  ⟨⟨[p], rfl⟩, fun _ h => List.mem_cons_of_mem _ h, fun b u h _ _ => by rw [upd_ne (ne_of_none h hp)]; exact h, fun b h n u e => by
    rcases List.mem_cons.mp h with z | h
    · rw [z, hp] at e
      cases e
    · exact absurd h n, fun b h n u e => by
    rcases List.mem_append.mp h with h | h
    · exact absurd h n
    · have z : b = p := by simpa using h
      rw [z, hp] at e
      cases e⟩
theorem Ext.allocHid (hp : H p = none) (o : HO) : Ext H θ (upd H p o) (θ.hid p) :=
  ⟨⟨[], by simp [Th.hid]⟩, fun _ h => List.mem_cons_of_mem _ h, fun b u h _ _ => by rw [upd_ne (ne_of_none h hp)]; exact h, fun b h n u e => by
    rcases List.mem_cons.mp h with z | h
    · rw [z, hp] at e
      cases e
    · exact absurd h n, fun b h n => absurd h n⟩
theorem Ext.write (ha : a ∈ θ.lb) (o : HO) : Ext H θ (upd H a o) θ :=
  ⟨⟨[], by simp⟩, fun _ h => h, fun b u h n _ => by rw [upd_ne (fun z => n (by rw [z]; exact ha))]; exact h, fun b h n => absurd h n, fun b h n => absurd h n⟩
theorem tn_ext (E : Ext H θ H' θ') {xs : List V} (h : TupN H a xs) (n : a ∉ θ.av) : TupN H' a xs ∧ a ∉ θ'.av := by
  obtain ⟨ob, d, h⟩ := h
  exact ⟨⟨ob, d, E.keep a _ h (Th.nl n) (fun ps z => by cases z)⟩, E.out h n (fun ps z => by cases z)⟩
theorem rd_ext (E : Ext H θ H' θ') {u : HO} (h : Rd H a u) (n : a ∉ θ.av) (t : ∀ ps, u ≠ .tbl ps) : Rd H' a u ∧ a ∉ θ'.av := by
  rcases h with h | ⟨ob, h⟩
  · exact ⟨.inl (E.keep a _ h (Th.nl n) t), E.out h n t⟩
  · exact ⟨.inr ⟨ob, E.keep a _ h (Th.nl n) (fun ps z => by cases z)⟩, E.out h n (fun ps z => by cases z)⟩
mutual
theorem Rep.ext (E : Ext H θ H' θ') : ∀ {v : V} {d : D}, Rep G H θ v d → Rep G H' θ' v d
  | _, _, .non => .non
  | _, _, .bl b => .bl b
  | _, _, .int i => .int i
  | _, _, .str x => .str x
  | _, _, .tup h n r => .tup (tn_ext E h n).1 (tn_ext E h n).2 (Reps.ext E r)
  | _, _, .ktup h r => .ktup h (Reps.ext E r)
  | _, _, .lst h n r => .lst (E.keep _ _ h (Th.nl n) (fun _ z => by cases z)) (E.out h n (fun _ z => by cases z)) (Reps.ext E r)
  | _, _, .flst h n r => .flst (rd_ext E h n (fun _ z => by cases z)).1 (rd_ext E h n (fun _ z => by cases z)).2 (Reps.ext E r)
  | _, _, .klst h r => .klst h (Reps.ext E r)
  | _, _, .dic h n hk r => .dic (E.keep _ _ h (Th.nl n) (fun _ z => by cases z)) (E.out h n (fun _ z => by cases z)) hk (Reps.ext E r)
  | _, _, .dit h n hk r => .dit (E.keep _ _ h (Th.nl n) (fun _ z => by cases z)) (E.out h n (fun _ z => by cases z)) hk (Reps.ext E r)
  | _, _, .obj hc h n hk r => .obj hc (E.keep _ _ h (Th.nl n) (fun _ z => by cases z)) (E.out h n (fun _ z => by cases z)) hk (Reps.ext E r)
  | _, _, .exc0 hc h n => .exc0 hc (E.keep _ _ h (Th.nl n) (fun _ z => by unfold ExH at z; cases z)) (E.out h n (fun _ z => by unfold ExH at z; cases z))
  | _, _, .exc1 hc h n hd nd hk r ne => .exc1 hc (E.keep _ _ h (Th.nl n) (fun _ z => by unfold ExH at z; cases z)) (E.out h n (fun _ z => by unfold ExH at z; cases z))
      (E.keep _ _ hd (Th.nl nd) (fun _ z => by cases z)) (E.out hd nd (fun _ z => by cases z)) hk (Reps.ext E r) ne
  | _, _, .own h => .own (by
      obtain ⟨t, e⟩ := E.pre
      rw [← e]
      obtain ⟨h1, h2⟩ := List.getElem?_eq_some_iff.mp h
      rw [List.getElem?_append_left h1]
      exact h)
theorem Reps.ext (E : Ext H θ H' θ') : ∀ {vs : List V} {ds : List D}, Reps G H θ vs ds → Reps G H' θ' vs ds
  | _, _, .nil => .nil
  | _, _, .cons h t => .cons (Rep.ext E h) (Reps.ext E t)
end
theorem Reps.length : ∀ {vs : List V} {ds : List D}, Reps G H θ vs ds → vs.length = ds.length
  | _, _, .nil => rfl
  | _, _, .cons _ t => by rw [List.length_cons, List.length_cons, Reps.length t]
theorem Reps.get : ∀ {vs : List V} {ds : List D} {i : Nat} {d : D}, Reps G H θ vs ds → ds[i]? = some d → ∃ v, vs[i]? = some v ∧ Rep G H θ v d
  | _, _, _, _, .nil, e => by simp at e
  | _, _, 0, _, .cons h _, e => by simp at e; subst e; exact ⟨_, rfl, h⟩
  | _, _, i + 1, d, .cons _ t, e => by
    obtain ⟨v, h1, h2⟩ := Reps.get (i := i) (d := d) t (by simpa using e)
    exact ⟨v, by simpa using h1, h2⟩
theorem Reps.getv : ∀ {vs : List V} {ds : List D} {i : Nat} {v : V}, Reps G H θ vs ds → vs[i]? = some v → ∃ d, ds[i]? = some d ∧ Rep G H θ v d
  | _, _, _, _, .nil, e => by simp at e
  | _, _, 0, _, .cons h _, e => by simp at e; subst e; exact ⟨_, rfl, h⟩
  | _, _, i + 1, d, .cons _ t, e => by
    obtain ⟨v, h1, h2⟩ := Reps.getv (i := i) (v := d) t (by simpa using e)
    exact ⟨v, by simpa using h1, h2⟩
theorem Reps.append : ∀ {vs ws : List V} {ds es : List D}, Reps G H θ vs ds → Reps G H θ ws es → Reps G H θ (vs ++ ws) (ds ++ es)
  | _, _, _, _, .nil, s => s
  | _, _, _, _, .cons h t, s => .cons h (Reps.append t s)
theorem Reps.set : ∀ {vs : List V} {ds : List D} (i : Nat) {v : V} {d : D}, Reps G H θ vs ds → Rep G H θ v d → Reps G H θ (vs.set i v) (ds.set i d)
  | _, _, _, _, _, .nil, _ => .nil
  | _, _, 0, _, _, .cons _ t, r => .cons r t
  | _, _, i + 1, _, _, .cons h t, r => .cons h (Reps.set i t r)
theorem Reps.take : ∀ {vs : List V} {ds : List D} (n : Nat), Reps G H θ vs ds → Reps G H θ (vs.take n) (ds.take n)
  | _, _, 0, _ => .nil
  | _, _, _ + 1, .nil => .nil
  | _, _, n + 1, .cons h t => .cons h (Reps.take n t)
theorem Reps.drop : ∀ {vs : List V} {ds : List D} (n : Nat), Reps G H θ vs ds → Reps G H θ (vs.drop n) (ds.drop n)
  | _, _, 0, r => r
  | _, _, _ + 1, .nil => .nil
  | _, _, n + 1, .cons _ t => Reps.drop n t
theorem Reps.eraseIdx : ∀ {vs : List V} {ds : List D} (n : Nat), Reps G H θ vs ds → Reps G H θ (vs.eraseIdx n) (ds.eraseIdx n)
  | _, _, _, .nil => .nil
  | _, _, 0, .cons _ t => t
  | _, _, n + 1, .cons h t => .cons h (Reps.eraseIdx n t)
theorem Reps.reverse {vs : List V} {ds : List D} (r : Reps G H θ vs ds) : Reps G H θ vs.reverse ds.reverse := by
  induction r using Reps.rec (motive_1 := fun _ _ _ => True) with
  | nil => exact .nil
  | cons h t _ ih => rw [List.reverse_cons, List.reverse_cons]; exact ih.append (.cons h .nil)
  | _ => trivial
/-- what a changing object's place holds -/
def MOR (G : Cfg) (H : Hp) (θ : Th) (a : Addr) : MO → Prop
  | .lst ds => ∃ xs, H a = some (.lst xs) ∧ Reps G H θ xs ds
  | .dic ks ds => ∃ kvs : List (Key × V), H a = some (.dK kvs) ∧ kvs.map (·.1) = ks ∧ Reps G H θ (kvs.map (·.2)) ds
  | .dit ks ds => ∃ kvs : List (List Key × V), H a = some (.dT kvs) ∧ kvs.map (·.1) = ks ∧ Reps G H θ (kvs.map (·.2)) ds
  | .ins c fs ds => ∃ C dx fv, G.cls[c]? = some C ∧ H a = some (.ins C dx fv) ∧ fv.map (·.1) = fs ∧ Reps G H θ (fv.map (·.2)) ds
structure StoR (G : Cfg) (H : Hp) (θ : Th) (M : Sto) : Prop where
  nd : θ.lb.Nodup
  len : θ.lb.length = M.length
  at_ : ∀ (n : Nat) (m : MO), M[n]? = some m → ∃ a, θ.lb[n]? = some a ∧ MOR G H θ a m
  tabs : LamX.Tabs G.T H
  hid : ∀ a ∈ θ.av, ∃ o, H a = some o ∧ ∀ ps, o ≠ .tbl ps
/-- neither a table nor a code object -/
def Plain (o : HO) : Prop := (∀ ps, o ≠ .tbl ps) ∧ ∀ c q, o ≠ LamX.CodeO c q
theorem MOR.there {m : MO} (r : MOR G H θ a m) : ∃ o, H a = some o ∧ Plain o := by
  cases m with
  | lst ds => obtain ⟨xs, h, _⟩ := r; exact ⟨_, h, ⟨(fun _ z => by cases z), (fun _ _ z => by unfold LamX.CodeO at z; cases z)⟩⟩
  | dic ks ds => obtain ⟨xs, h, _⟩ := r; exact ⟨_, h, ⟨(fun _ z => by cases z), (fun _ _ z => by unfold LamX.CodeO at z; cases z)⟩⟩
  | dit ks ds => obtain ⟨xs, h, _⟩ := r; exact ⟨_, h, ⟨(fun _ z => by cases z), (fun _ _ z => by unfold LamX.CodeO at z; cases z)⟩⟩
  | ins c fs ds => obtain ⟨C, dx, fv, _, h, _⟩ := r; exact ⟨_, h, ⟨(fun _ z => by cases z), (fun _ _ z => by unfold LamX.CodeO at z; cases z)⟩⟩
theorem MOR.ext {m : MO} (r : MOR G H θ a m) (E : Ext H θ H' θ') (h : H' a = H a) : MOR G H' θ' a m := by
  cases m with
  | lst ds => obtain ⟨xs, e, r⟩ := r; exact ⟨xs, h.trans e, r.ext E⟩
  | dic ks ds => obtain ⟨xs, e, k, r⟩ := r; exact ⟨xs, h.trans e, k, r.ext E⟩
  | dit ks ds => obtain ⟨xs, e, k, r⟩ := r; exact ⟨xs, h.trans e, k, r.ext E⟩
  | ins c fs ds => obtain ⟨C, dx, fv, hc, e, k, r⟩ := r; exact ⟨C, dx, fv, hc, h.trans e, k, r.ext E⟩
variable {M M' : Sto}
theorem StoR.there (S : StoR G H θ M) (ha : a ∈ θ.lb) : ∃ o, H a = some o ∧ Plain o := by
  obtain ⟨i, hi, e⟩ := List.mem_iff_getElem.mp ha
  have hm : M[i]? = some (M[i]'(by rw [← S.len]; exact hi)) := List.getElem?_eq_getElem _
  obtain ⟨b, h1, h2⟩ := S.at_ i _ hm
  rw [List.getElem?_eq_getElem hi, e] at h1
  cases h1
  exact h2.there
theorem StoR.out (S : StoR G H θ M) (hp : H p = none) : p ∉ θ.av := fun h => by
  obtain ⟨o, e, _⟩ := S.hid p h
  rw [hp] at e
  cases e
/-- the changing objects stand as they stood -/
theorem StoR.keep (S : StoR G H θ M) (E : Ext H θ H' θ) (h : ∀ a ∈ θ.av, H' a = H a) (t : LamX.Tabs G.T H') : StoR G H' θ M :=
  ⟨S.nd, S.len, fun n m e => by
    obtain ⟨a, h1, h2⟩ := S.at_ n m e
    exact ⟨a, h1, h2.ext E (h a (θ.sub a (List.mem_of_getElem? h1)))⟩, t, fun a ha => by rw [h a ha]; exact S.hid a ha⟩
theorem tabs_new {T : List (Addr × Str)} (t : LamX.Tabs T H) (hp : H p = none) : LamX.Tabs T (upd H p o) := t.ext fun b u e => by
  rw [upd_ne (ne_of_none e hp)]
  exact e
theorem tabs_write {T : List (Addr × Str)} (t : LamX.Tabs T H) {u : HO} (ha : H a = some u) (pl : Plain u) : LamX.Tabs T (upd H a o) := fun q hq => by
  obtain ⟨ps, h1, h2, h3⟩ := t q hq
  refine ⟨ps, ?_, h2, fun pos cv hc => ?_⟩
  · rw [upd_ne (fun z => pl.1 ps (Option.some.inj (ha.symm.trans (by rw [← z]; exact h1))))]
    exact h1
  · obtain ⟨c, e1, e2⟩ := h3 pos cv hc
    refine ⟨c, e1, ?_⟩
    rw [upd_ne (fun z => pl.2 c q.2 (Option.some.inj (ha.symm.trans (by rw [← z]; exact e2))))]
    exact e2
/-- a new object that does not change -/
theorem StoR.alloc (S : StoR G H θ M) (hp : H p = none) (o : HO) : StoR G (upd H p o) θ M :=
  S.keep (Ext.alloc hp o) (fun a ha => upd_ne fun z => S.out hp (by rw [← z]; exact ha)) (tabs_new S.tabs hp)
/-- a new one that is hidden -/
theorem StoR.allocHid (S : StoR G H θ M) (hp : H p = none) (o : HO) (po : ∀ ps, o ≠ .tbl ps) : StoR G (upd H p o) (θ.hid p) M :=
  ⟨S.nd, S.len, fun n m e => by
    obtain ⟨b, h1, h2⟩ := S.at_ n m e
    exact ⟨b, h1, h2.ext (Ext.allocHid hp o) (upd_ne fun z => S.out hp (by rw [← z]; exact θ.sub b (List.mem_of_getElem? h1)))⟩, tabs_new S.tabs hp, fun a ha => by
    rcases List.mem_cons.mp ha with z | ha
    · exact ⟨o, by rw [z, upd_same], po⟩
    · obtain ⟨u, e, pu⟩ := S.hid a ha
      exact ⟨u, by rw [upd_ne (ne_of_none e hp)]; exact e, pu⟩⟩
theorem StoR.push (S : StoR G H θ M) (hp : H p = none) {o : HO} {m : MO} (r : MOR G (upd H p o) (θ.own p) p m) : StoR G (upd H p o) (θ.own p) (M ++ [m]) where
  nd := by
    show (θ.lb ++ [p]).Nodup
    rw [List.nodup_append]
    refine ⟨S.nd, by simp, fun b hb c hc => ?_⟩
    have z : c = p := by simpa using hc
    intro e
    exact S.out hp (θ.sub p (by rw [← z, ← e]; exact hb))
  len := by
    show (θ.lb ++ [p]).length = _
    rw [List.length_append, List.length_append, S.len]
    rfl
  at_ := fun n m' e => by
    show ∃ a, (θ.lb ++ [p])[n]? = some a ∧ _
    by_cases hn : n < M.length
    · rw [List.getElem?_append_left hn] at e
      obtain ⟨b, h1, h2⟩ := S.at_ n m' e
      refine ⟨b, ?_, h2.ext (Ext.allocOwn hp o) (upd_ne fun z => S.out hp (θ.sub p (by rw [← z]; exact List.mem_of_getElem? h1)))⟩
      rw [List.getElem?_append_left (by rw [S.len]; exact hn)]
      exact h1
    · have hn' : M.length ≤ n := Nat.le_of_not_lt hn
      rw [List.getElem?_append_right hn'] at e
      have e0 : n - M.length = 0 := by
        cases q : n - M.length with
        | zero => rfl
        | succ j => rw [q] at e; simp at e
      rw [e0] at e
      have em : m' = m := by simpa using e.symm
      subst em
      refine ⟨p, ?_, r⟩
      rw [List.getElem?_append_right (by rw [S.len]; exact hn'), S.len, e0]
      rfl
  tabs := tabs_new S.tabs hp
  hid := fun a ha => by
    rcases List.mem_cons.mp ha with z | ha
    · obtain ⟨o', e, po⟩ := r.there
      exact ⟨o', by rw [z]; exact e, po.1⟩
    · obtain ⟨u, e, pu⟩ := S.hid a ha
      exact ⟨u, by rw [upd_ne (ne_of_none e hp)]; exact e, pu⟩
theorem StoR.set (S : StoR G H θ M) {n : Nat} (hn : θ.lb[n]? = some a) {o : HO} {m : MO} (r : MOR G (upd H a o) θ a m) : StoR G (upd H a o) θ (M.set n m) where
  nd := S.nd
  len := by rw [List.length_set, S.len]
  at_ := fun j m' e => by
    by_cases hj : j = n
    · subst hj
      have hlt : j < M.length := by
        rw [← S.len]
        exact (List.getElem?_eq_some_iff.mp hn).1
      rw [List.getElem?_set_self hlt] at e
      cases e
      exact ⟨a, hn, r⟩
    · rw [List.getElem?_set_ne (Ne.symm hj)] at e
      obtain ⟨b, h1, h2⟩ := S.at_ j m' e
      refine ⟨b, h1, h2.ext (Ext.write (List.mem_of_getElem? hn) o) (upd_ne fun z => hj ?_)⟩
      obtain ⟨k1, q1⟩ := List.getElem?_eq_some_iff.mp h1
      obtain ⟨k2, q2⟩ := List.getElem?_eq_some_iff.mp hn
      exact (List.getElem_inj S.nd).mp (q1.trans (z.trans q2.symm))
  tabs := by
    obtain ⟨u, hu, pl⟩ := S.there (List.mem_of_getElem? hn)
    exact tabs_write S.tabs hu pl
  hid := fun b hb => by
    by_cases z : b = a
    · obtain ⟨o', e, po⟩ := r.there
      exact ⟨o', by rw [z]; exact e, po.1⟩
    · obtain ⟨u, e, pu⟩ := S.hid b hb
      exact ⟨u, by rw [upd_ne z]; exact e, pu⟩
theorem StoR.own (S : StoR G H θ M) {n : Nat} {m : MO} (hn : θ.lb[n]? = some a) (hm : M[n]? = some m) : MOR G H θ a m := by
  obtain ⟨b, h1, h2⟩ := S.at_ n m hm
  rw [hn] at h1
  cases h1
  exact h2
/-! ### a hidden object is written, and shown -/
theorem rd_touch {u : HO} (h : Rd H a u) (n : a ∉ θ.av) (hp : p ∈ θ.av) : Rd (upd H p o) a u := by
  have ne : a ≠ p := fun z => n (by rw [z]; exact hp)
  rcases h with h | ⟨ob, h⟩
  · exact .inl (by rw [upd_ne ne]; exact h)
  · exact .inr ⟨ob, by rw [upd_ne ne]; exact h⟩
theorem at_touch {u : HO} (h : H a = some u) (n : a ∉ θ.av) (hp : p ∈ θ.av) : upd H p o a = some u := by
  rw [upd_ne (fun z => n (by rw [z]; exact hp))]
  exact h
theorem tn_touch {xs : List V} (h : TupN H a xs) (n : a ∉ θ.av) (hp : p ∈ θ.av) : TupN (upd H p o) a xs := by
  obtain ⟨ob, d, h⟩ := h
  exact ⟨ob, d, at_touch h n hp⟩
mutual
theorem Rep.touch (hp : p ∈ θ.av) : ∀ {v : V} {d : D}, Rep G H θ v d → Rep G (upd H p o) θ v d
  | _, _, .non => .non
  | _, _, .bl b => .bl b
  | _, _, .int i => .int i
  | _, _, .str x => .str x
  | _, _, .tup h n r => .tup (tn_touch h n hp) n (Reps.touch hp r)
  | _, _, .ktup h r => .ktup h (Reps.touch hp r)
  | _, _, .lst h n r => .lst (at_touch h n hp) n (Reps.touch hp r)
  | _, _, .flst h n r => .flst (rd_touch h n hp) n (Reps.touch hp r)
  | _, _, .klst h r => .klst h (Reps.touch hp r)
  | _, _, .dic h n hk r => .dic (at_touch h n hp) n hk (Reps.touch hp r)
  | _, _, .dit h n hk r => .dit (at_touch h n hp) n hk (Reps.touch hp r)
  | _, _, .obj hc h n hk r => .obj hc (at_touch h n hp) n hk (Reps.touch hp r)
  | _, _, .exc0 hc h n => .exc0 hc (at_touch h n hp) n
  | _, _, .exc1 hc h n hd nd hk r ne => .exc1 hc (at_touch h n hp) n (at_touch hd nd hp) nd hk (Reps.touch hp r) ne
  | _, _, .own h => .own h
theorem Reps.touch (hp : p ∈ θ.av) : ∀ {vs : List V} {ds : List D}, Reps G H θ vs ds → Reps G (upd H p o) θ vs ds
  | _, _, .nil => .nil
  | _, _, .cons h t => .cons (Rep.touch hp h) (Reps.touch hp t)
end
mutual
/-- fewer are hidden -/
theorem Rep.less (hs : ∀ a ∈ θ'.av, a ∈ θ.av) (hl : θ.lb <+: θ'.lb) : ∀ {v : V} {d : D}, Rep G H θ v d → Rep G H θ' v d
  | _, _, .non => .non
  | _, _, .bl b => .bl b
  | _, _, .int i => .int i
  | _, _, .str x => .str x
  | _, _, .tup h n r => .tup h (fun z => n (hs _ z)) (Reps.less hs hl r)
  | _, _, .ktup h r => .ktup h (Reps.less hs hl r)
  | _, _, .lst h n r => .lst h (fun z => n (hs _ z)) (Reps.less hs hl r)
  | _, _, .flst h n r => .flst h (fun z => n (hs _ z)) (Reps.less hs hl r)
  | _, _, .klst h r => .klst h (Reps.less hs hl r)
  | _, _, .dic h n hk r => .dic h (fun z => n (hs _ z)) hk (Reps.less hs hl r)
  | _, _, .dit h n hk r => .dit h (fun z => n (hs _ z)) hk (Reps.less hs hl r)
  | _, _, .obj hc h n hk r => .obj hc h (fun z => n (hs _ z)) hk (Reps.less hs hl r)
  | _, _, .exc0 hc h n => .exc0 hc h (fun z => n (hs _ z))
  | _, _, .exc1 hc h n hd nd hk r ne => .exc1 hc h (fun z => n (hs _ z)) hd (fun z => nd (hs _ z)) hk (Reps.less hs hl r) ne
  | _, _, .own h => .own (by
      obtain ⟨t, e⟩ := hl
      rw [← e]
      obtain ⟨h1, h2⟩ := List.getElem?_eq_some_iff.mp h
      rw [List.getElem?_append_left h1, List.getElem?_eq_getElem h1, h2])
theorem Reps.less (hs : ∀ a ∈ θ'.av, a ∈ θ.av) (hl : θ.lb <+: θ'.lb) : ∀ {vs : List V} {ds : List D}, Reps G H θ vs ds → Reps G H θ' vs ds
  | _, _, .nil => .nil
  | _, _, .cons h t => .cons (Rep.less hs hl h) (Reps.less hs hl t)
end
theorem MOR.touch {m : MO} (r : MOR G H θ a m) (hp : p ∈ θ.av) (ne : a ≠ p) : MOR G (upd H p o) θ a m := by
  cases m with
  | lst ds => obtain ⟨xs, e, r⟩ := r; exact ⟨xs, by rw [upd_ne ne]; exact e, r.touch hp⟩
  | dic ks ds => obtain ⟨xs, e, k, r⟩ := r; exact ⟨xs, by rw [upd_ne ne]; exact e, k, r.touch hp⟩
  | dit ks ds => obtain ⟨xs, e, k, r⟩ := r; exact ⟨xs, by rw [upd_ne ne]; exact e, k, r.touch hp⟩
  | ins c fs ds => obtain ⟨C, dx, fv, hc, e, k, r⟩ := r; exact ⟨C, dx, fv, hc, by rw [upd_ne ne]; exact e, k, r.touch hp⟩
theorem MOR.less {m : MO} (r : MOR G H θ a m) (hs : ∀ a ∈ θ'.av, a ∈ θ.av) (hl : θ.lb <+: θ'.lb) : MOR G H θ' a m := by
  cases m with
  | lst ds => obtain ⟨xs, e, r⟩ := r; exact ⟨xs, e, r.less hs hl⟩
  | dic ks ds => obtain ⟨xs, e, k, r⟩ := r; exact ⟨xs, e, k, r.less hs hl⟩
  | dit ks ds => obtain ⟨xs, e, k, r⟩ := r; exact ⟨xs, e, k, r.less hs hl⟩
  | ins c fs ds => obtain ⟨C, dx, fv, hc, e, k, r⟩ := r; exact ⟨C, dx, fv, hc, e, k, r.less hs hl⟩
theorem StoR.touch (S : StoR G H θ M) (hp : p ∈ θ.av) (nl : p ∉ θ.lb) {u : HO} (hu : H p = some u) (pl : Plain u) (po : ∀ ps, o ≠ .tbl ps) : StoR G (upd H p o) θ M :=
  ⟨S.nd, S.len, fun n m e => by
    obtain ⟨b, h1, h2⟩ := S.at_ n m e
    exact ⟨b, h1, h2.touch hp (fun z => nl (by rw [← z]; exact List.mem_of_getElem? h1))⟩, tabs_write S.tabs hu pl, fun b hb => by
    by_cases z : b = p
    · exact ⟨o, by rw [z, upd_same], po⟩
    · obtain ⟨u, e, pu⟩ := S.hid b hb
      exact ⟨u, by rw [upd_ne z]; exact e, pu⟩⟩
theorem StoR.less (S : StoR G H θ M) (hs : ∀ a ∈ θ'.av, a ∈ θ.av) (hl : θ'.lb = θ.lb) : StoR G H θ' M :=
  ⟨by rw [hl]; exact S.nd, by rw [hl]; exact S.len, fun n m e => by
    obtain ⟨b, h1, h2⟩ := S.at_ n m e
    exact ⟨b, by rw [hl]; exact h1, h2.less hs ⟨[], by rw [hl]; simp⟩⟩, S.tabs, fun a ha => S.hid a (hs a ha)⟩
theorem Th.unh_sub (θ : Th) (p : Addr) : ∀ a ∈ (θ.unh p).av, a ∈ θ.av := fun a h => (List.mem_filter.mp h).1
theorem Th.unh_out (θ : Th) (n : p ∉ θ.lb) : p ∉ (θ.unh p).av := fun h => by
  have z := (List.mem_filter.mp h).2
  simp [n] at z
/-! ### the frame's names -/
def EnvR (G : Cfg) (H : Hp) (θ : Th) (σ : L2.St) (ρ : Env) : Prop := σ.length = ρ.length ∧ ∀ (i : Nat) (d : D), ρ[i]? = some (some d) → ∃ v, σ[i]? = some (some v) ∧ Rep G H θ v d
variable {σ σ' : L2.St} {ρ ρ' : Env}
theorem EnvR.ext (R : EnvR G H θ σ ρ) (E : Ext H θ H' θ') : EnvR G H' θ' σ ρ := ⟨R.1, fun i d e => by
  obtain ⟨v, h1, h2⟩ := R.2 i d e
  exact ⟨v, h1, h2.ext E⟩⟩
theorem EnvR.touch (R : EnvR G H θ σ ρ) (hp : p ∈ θ.av) : EnvR G (upd H p o) θ σ ρ := ⟨R.1, fun i d e => by
  obtain ⟨v, h1, h2⟩ := R.2 i d e
  exact ⟨v, h1, h2.touch hp⟩⟩
theorem EnvR.less (R : EnvR G H θ σ ρ) (hs : ∀ a ∈ θ'.av, a ∈ θ.av) (hl : θ.lb <+: θ'.lb) : EnvR G H θ' σ ρ := ⟨R.1, fun i d e => by
  obtain ⟨v, h1, h2⟩ := R.2 i d e
  exact ⟨v, h1, h2.less hs hl⟩⟩
theorem EnvR.set (R : EnvR G H θ σ ρ) (i : Nat) {v : V} {d : D} (r : Rep G H θ v d) : EnvR G H θ (σ.set i (some v)) (ρ.set i (some d)) :=
  ⟨by rw [List.length_set, List.length_set]; exact R.1, fun j e h => by
    by_cases hj : j = i
    · subst hj
      by_cases hl : j < ρ.length
      · rw [List.getElem?_set_self hl] at h
        cases h
        exact ⟨v, by rw [List.getElem?_set_self (by rw [R.1]; exact hl)], r⟩
      · rw [List.getElem?_eq_none (by rw [List.length_set]; exact Nat.le_of_not_lt hl)] at h
        cases h
    · rw [List.getElem?_set_ne (Ne.symm hj)] at h
      rw [List.getElem?_set_ne (Ne.symm hj)]
      exact R.2 j e h⟩
theorem EnvR.gone (R : EnvR G H θ σ ρ) (i : Nat) : EnvR G H θ (σ.set i none) (ρ.set i none) :=
  ⟨by rw [List.length_set, List.length_set]; exact R.1, fun j e h => by
    by_cases hj : j = i
    · subst hj
      by_cases hl : j < ρ.length
      · rw [List.getElem?_set_self hl] at h
        cases h
      · rw [List.getElem?_eq_none (by rw [List.length_set]; exact Nat.le_of_not_lt hl)] at h
        cases h
    · rw [List.getElem?_set_ne (Ne.symm hj)] at h
      rw [List.getElem?_set_ne (Ne.symm hj)]
      exact R.2 j e h⟩
end
/-! ### what an expression, a block comes to -/
inductive Res (α : Type) where
  | ok (a : α) (M : Sto)
  | exc (c : Nat) (fs : List Str) (vs : List D) (M : Sto)
  | bad
inductive Out where
  | nx (ρ : Env) (M : Sto)
  | rt (d : D) (M : Sto)
  | bk (ρ : Env) (M : Sto)
  | ct (ρ : Env) (M : Sto)
  | exc (c : Nat) (fs : List Str) (vs : List D) (ρ : Env) (M : Sto)
  | bad
def Res.bind {α β : Type} : Res α → (α → Sto → Res β) → Res β
  | .ok a M, f => f a M
  | .exc c fs vs M, _ => .exc c fs vs M
  | .bad, _ => .bad
/-- what is known of an exception -/
def ExcR (G : Cfg) (H : Hp) (θ : Th) (cls : Value) (d : Option Addr) (c : Nat) (fs : List Str) (ds : List D) : Prop :=
  ∃ C, G.exs[c]? = some C ∧ cls = .ref C ∧ ((d = none ∧ fs = [] ∧ ds = []) ∨ ∃ dd fv, d = some dd ∧ H dd = some (.xd fv) ∧ dd ∉ θ.av ∧ fv.map (·.1) = fs ∧ Reps G H θ (fv.map (·.2)) ds ∧ fs ≠ [])
abbrev FE (α : Type) := Env → Sto → Res α
/-- behind an expression -/
def postR {α : Type} (G : Cfg) (W : WX) (σ : L2.St) (H : Hp) (θ : Th) (R : Hp → Th → Sto → α → Prop) : Res α → Prop
  | .ok a M => ∀ H' θ', Ext H θ H' θ' → StoR G H' θ' M → R H' θ' M a
  | .exc c fs vs M => ∀ cls dd H' θ', Ext H θ H' θ' → StoR G H' θ' M → ExcR G H' θ' cls dd c fs vs → W cls dd σ H'
  | .bad => False
def StR (G : Cfg) (σ : L2.St) (H : Hp) (ρ : Env) (θ : Th) (M : Sto) : Prop := EnvR G H θ σ ρ ∧ StoR G H θ M
def rdE (G : Cfg) (W : WX) (f : FE D) : TE := fun σ H Q => ∃ ρ θ M, StR G σ H ρ θ M ∧ postR G W σ H θ (fun H' θ' _ d => ∀ v, Rep G H' θ' v d → Q v H') (f ρ M)
def rdT (G : Cfg) (W : WX) (f : FE Bool) : TT := fun σ H Q => ∃ ρ θ M, StR G σ H ρ θ M ∧ postR G W σ H θ (fun H' _ _ b => Q b H') (f ρ M)
def rdA (G : Cfg) (W : WX) (f : FE (List D)) : TA := fun σ H Q => ∃ ρ θ M, StR G σ H ρ θ M ∧ postR G W σ H θ (fun H' θ' _ ds => ∀ vs, Reps G H' θ' vs ds → Q vs H') (f ρ M)
/-- what the rules ask of the context -/
structure Okc (G : Cfg) (X : Cx) : Prop where
  hk : G.K = X.K
  calm : X.calm = true
  hu : X.A.units + 100 < cLine

def DE (G : Cfg) (X : Cx) (e : Expr) (f : FE D) : Prop := Okc G X → ∀ W, Takes X W → PE X e (rdE G W f)
def DT (G : Cfg) (X : Cx) (e : Expr) (f : FE Bool) : Prop := Okc G X → ∀ W, Takes X W → PT X e (rdT G W f)
/-- a test, whatever its whole is -/
def DW (G : Cfg) (X : Cx) (e : Expr) (f : FE Bool) : Prop := Okc G X → ∀ W, Takes X W → PW X e (rdT G W f)
def DA (G : Cfg) (X : Cx) (es : List Expr) (f : FE (List D)) : Prop := Okc G X → ∀ W, Takes X W → PA X es (rdA G W f)
/-- behind a statement -/
def postS (G : Cfg) (W : WX) (D : Ends) (H : Hp) (θ : Th) : Out → Prop
  | .nx ρ M => ∀ σ' H' θ', Ext H θ H' θ' → StR G σ' H' ρ θ' M → D.nx σ' H'
  | .bk ρ M => ∀ σ' H' θ', Ext H θ H' θ' → StR G σ' H' ρ θ' M → D.bk σ' H'
  | .ct ρ M => ∀ σ' H' θ', Ext H θ H' θ' → StR G σ' H' ρ θ' M → D.ct σ' H'
  | .rt d M => ∀ v H' θ', Ext H θ H' θ' → StoR G H' θ' M → Rep G H' θ' v d → D.rt v H'
  | .exc c fs vs ρ M => ∀ cls dd σ' H' θ', Ext H θ H' θ' → StR G σ' H' ρ θ' M → ExcR G H' θ' cls dd c fs vs → W cls dd σ' H'
  | .bad => False
abbrev FS := Env → Sto → Out
def rdS (G : Cfg) (W : WX) (g : FS) : TS := fun D σ H => ∃ ρ θ M, StR G σ H ρ θ M ∧ postS G W D H θ (g ρ M)
def DS (G : Cfg) (X : Cx) (st : Stmt) (g : FS) : Prop := Okc G X → PassesOwn (model X.prog X.w) X.A X.env X.xe → ∀ W, Takes X W → PS X st (rdS G W g)
def DSs (G : Cfg) (X : Cx) (st : List Stmt) (g : FS) : Prop := Okc G X → PassesOwn (model X.prog X.w) X.A X.env X.xe → ∀ W, Takes X W → PSs X st (rdS G W g)
section
variable {G : Cfg} {W : WX} {σ σ' : L2.St} {H H1 H' : Hp} {ρ ρ' : Env} {θ θ1 θ' : Th} {M M1 : Sto}
theorem StR.ext (S : StR G σ H ρ θ M) (E : Ext H θ H1 θ1) (S1 : StoR G H1 θ1 M1) : StR G σ H1 ρ θ1 M1 := ⟨S.1.ext E, S1⟩
theorem postR.base {α : Type} {R : Hp → Th → Sto → α → Prop} {r : Res α} (h : postR G W σ H θ R r) (E : Ext H θ H1 θ1) : postR G W σ H1 θ1 R r := by
  cases r with
  | ok a M1 => exact fun H' θ' E1 S1 => h H' θ' (E.trans E1) S1
  | exc c fs vs M1 => exact fun cls dd H' θ' E1 S1 x => h cls dd H' θ' (E.trans E1) S1 x
  | bad => exact h
theorem postR.imp {α : Type} {R R' : Hp → Th → Sto → α → Prop} {r : Res α} (h : postR G W σ H θ R r) (k : ∀ H' θ' M' a, R H' θ' M' a → R' H' θ' M' a) : postR G W σ H θ R' r := by
  cases r with
  | ok a M1 => exact fun H' θ' E1 S1 => k _ _ _ _ (h H' θ' E1 S1)
  | exc c fs vs M1 => exact h
  | bad => exact h
/-- one part, then the rest -/
theorem postR.seq {α β : Type} {S : Hp → Th → Sto → β → Prop} {R : Hp → Th → Sto → α → Prop} {r : Res α} {g : α → Sto → Res β} (h : postR G W σ H θ S (r.bind g))
    (k : ∀ x M1 H1 θ1, Ext H θ H1 θ1 → StoR G H1 θ1 M1 → postR G W σ H1 θ1 S (g x M1) → R H1 θ1 M1 x) : postR G W σ H θ R r := by
  cases r with
  | ok a M1 => exact fun H1 θ1 E S1 => k a M1 H1 θ1 E S1 (postR.base (show postR G W σ H θ S (g a M1) from h) E)
  | exc c fs vs M1 => exact h
  | bad => exact h
theorem postS.base {D : Ends} {r : Out} (h : postS G W D H θ r) (E : Ext H θ H1 θ1) : postS G W D H1 θ1 r := by
  cases r with
  | nx ρ M => exact fun σ' H' θ' E1 S1 => h σ' H' θ' (E.trans E1) S1
  | bk ρ M => exact fun σ' H' θ' E1 S1 => h σ' H' θ' (E.trans E1) S1
  | ct ρ M => exact fun σ' H' θ' E1 S1 => h σ' H' θ' (E.trans E1) S1
  | rt d M => exact fun v H' θ' E1 S1 x => h v H' θ' (E.trans E1) S1 x
  | exc c fs vs ρ M => exact fun cls dd σ' H' θ' E1 S1 x => h cls dd σ' H' θ' (E.trans E1) S1 x
  | bad => exact h
/-- an expression's result, then a statement's -/
def Res.thn {α : Type} (r : Res α) (ρ : Env) (g : α → Sto → Out) : Out := match r with
  | .ok a M => g a M
  | .exc c fs vs M => .exc c fs vs ρ M
  | .bad => .bad
theorem postS.seq {α : Type} {D : Ends} {R : Hp → Th → Sto → α → Prop} {r : Res α} {g : α → Sto → Out} (S0 : EnvR G H θ σ ρ) (h : postS G W D H θ (r.thn ρ g))
    (k : ∀ x M1 H1 θ1, Ext H θ H1 θ1 → StoR G H1 θ1 M1 → postS G W D H1 θ1 (g x M1) → R H1 θ1 M1 x) : postR G W σ H θ R r := by
  cases r with
  | ok a M1 => exact fun H1 θ1 E S1 => k a M1 H1 θ1 E S1 (postS.base (show postS G W D H θ (g a M1) from h) E)
  | exc c fs vs M1 => exact fun cls dd H' θ' E S1 x => h cls dd σ H' θ' E ⟨S0.ext E, S1⟩ x
  | bad => exact h
end
end DL
namespace L2
open PySem PySem.Spec PyProof.Rows
section
variable {X : Cx}
theorem PE.imp {e : Expr} {t t' : TE} (h : PE X e t) (k : ∀ σ H Q, t' σ H Q → t σ H Q) : PE X e t' := ⟨fun pins s σ H Q I q => h.run pins s σ H Q I (k σ H Q q)⟩
theorem PT.imp {e : Expr} {t t' : TT} (h : PT X e t) (k : ∀ σ H Q, t' σ H Q → t σ H Q) : PT X e t' := ⟨fun pins s σ H Q I q => h.run pins s σ H Q I (k σ H Q q)⟩
theorem PW.imp {e : Expr} {t t' : TT} (h : PW X e t) (k : ∀ σ H Q, t' σ H Q → t σ H Q) : PW X e t' := ⟨fun wh pins s σ H Q I q => h.run wh pins s σ H Q I (k σ H Q q)⟩
theorem PA.imp {e : List Expr} {t t' : TA} (h : PA X e t) (k : ∀ σ H Q, t' σ H Q → t σ H Q) : PA X e t' := ⟨fun p pins s σ H Q I q => h.run p pins s σ H Q I (k σ H Q q)⟩
theorem PS.imp {e : Stmt} {t t' : TS} (h : PS X e t) (k : ∀ D σ H, t' D σ H → t D σ H) : PS X e t' := ⟨fun pins s σ H Q I q => h.run pins s σ H Q I (k Q σ H q)⟩
theorem PSs.imp {e : List Stmt} {t t' : TS} (h : PSs X e t) (k : ∀ D σ H, t' D σ H → t D σ H) : PSs X e t' := ⟨fun pins s σ H Q I q => h.run pins s σ H Q I (k Q σ H q)⟩
end
end L2
set_option maxHeartbeats 4000000
namespace DL
open PySem PySem.Spec PyProof.Rows L2
/-! ### what a representation says of the value -/
section
variable {G : Cfg} {H : Hp} {θ : Th} {M : Sto} {v : V} {d : D}
theorem rep_non (r : Rep G H θ v .non) : v = .non := by cases r; rfl
theorem rep_bl {b : Bool} (r : Rep G H θ v (.bl b)) : v = .bl b := by cases r; rfl
theorem rep_int {i : Int} (r : Rep G H θ v (.int i)) : v = .int i := by cases r; rfl
theorem rep_str {x : Str} (r : Rep G H θ v (.str x)) : v = .str x := by cases r; rfl
theorem rep_tup {ds : List D} (r : Rep G H θ v (.tup ds)) : ∃ a xs, v = .ref a ∧ SqT G.K H a xs ∧ Reps G H θ xs ds := by
  cases r with
  | tup h n r => exact ⟨_, _, rfl, .inl h.rd, r⟩
  | ktup h r =>
    obtain ⟨o, its, n, h1, h2, _, h3⟩ := h
    exact ⟨_, _, rfl, .inr ⟨o, its, n, h1, h2, h3⟩, r⟩
/-- the items of a list, changing or not -/
def lstOf (M : Sto) : D → Option (List D)
  | .lst ds => some ds
  | .flst ds => some ds
  | .own n => match M[n]? with
    | some (.lst ds) => some ds
    | _ => none
  | _ => none
theorem rep_lst {ds : List D} (S : StoR G H θ M) (r : Rep G H θ v d) (h : lstOf M d = some ds) : ∃ a xs, v = .ref a ∧ SqL G.K H a xs ∧ Reps G H θ xs ds := by
  cases r with
  | lst h' n r => cases h; exact ⟨_, _, rfl, .inl (.inl h'), r⟩
  | flst h' n r => cases h; exact ⟨_, _, rfl, .inl h', r⟩
  | klst h' r => cases h; exact ⟨_, _, rfl, .inr h', r⟩
  | @own a n h' =>
    have h2 : (match M[n]? with | some (MO.lst ds) => some ds | _ => none) = some ds := h
    split at h2
    · rename_i ds' hm
      cases h2
      obtain ⟨xs, e, r⟩ := S.own h' hm
      exact ⟨_, xs, rfl, .inl (.inl e), r⟩
    · cases h2
  | _ => cases h
def seqOf (M : Sto) : D → Option (List D)
  | .tup ds => some ds
  | d => lstOf M d
theorem rep_seq {ds : List D} (S : StoR G H θ M) (r : Rep G H θ v d) (h : seqOf M d = some ds) : ∃ a xs, v = .ref a ∧ (SqL G.K H a xs ∨ SqT G.K H a xs) ∧ Reps G H θ xs ds := by
  by_cases hd : ∃ es, d = .tup es
  · obtain ⟨es, rfl⟩ := hd
    cases h
    obtain ⟨a, xs, e, h, r⟩ := rep_tup r
    exact ⟨a, xs, e, .inr h, r⟩
  · have h' : lstOf M d = some ds := by
      unfold seqOf at h
      split at h
      · exact absurd ⟨_, rfl⟩ hd
      · exact h
    obtain ⟨a, xs, e, h, r⟩ := rep_lst S r h'
    exact ⟨a, xs, e, .inl h, r⟩
/-- a new object that does not change: a tuple, a list -/
theorem new_tup {H1 : Hp} {p : Addr} {xs : List V} {ds : List D} (S : StoR G H1 θ M) {ob : Obj} (hp : H1 p = none) (hd : ob.dict = none) (r : Reps G H1 θ xs ds) : Rep G (upd H1 p (.frz ob (.tup xs))) θ (.ref p) (.tup ds) :=
  .tup ⟨ob, hd, upd_same⟩ (S.out hp) (r.ext (Ext.alloc hp _))
theorem new_lst {H1 : Hp} {p : Addr} {xs : List V} {ds : List D} (S : StoR G H1 θ M) (hp : H1 p = none) (r : Reps G H1 θ xs ds) : Rep G (upd H1 p (.lst xs)) θ (.ref p) (.lst ds) :=
  .lst upd_same (S.out hp) (r.ext (Ext.alloc hp _))
end
def Res.ofO {α : Type} : Option α → Sto → Res α
  | some a, M => .ok a M
  | none, _ => .bad
@[simp] theorem Res.ofO_some {α : Type} (a : α) (M : Sto) : Res.ofO (some a) M = .ok a M := rfl
@[simp] theorem Res.bind_ok {α β : Type} (a : α) (M : Sto) (g : α → Sto → Res β) : (Res.ok a M).bind g = g a M := rfl
section
variable {G : Cfg} {X : Cx} {a b c e : Expr} {es : List Expr} {fa fb fc f : FE D} {ft : FE Bool} {fs : FE (List D)} {pos : Pos} {W : WX}
/-! ### names, constants -/
def dVar (i : Nat) : FE D := fun ρ M => match ρ[i]? with
  | some (some d) => .ok d M
  | _ => .bad
theorem de_var (i : Nat) {x : Str} (hN : X.N[i]? = some x := by rfl) (hv : Vis X.env.scope x := by first | exact Or.inl rfl | exact Or.inr (Or.inl rfl) | exact Or.inr (Or.inr rfl)) (hd : (x == ("__debug__" : Str)) = false := by decide)
    (hcd : (x == ("__classdict__" : Str)) = false := by decide) : DE G X (.Name x pos) (dVar i) := fun ok W tk => by
  refine (pe_var hN hv hd hcd).imp fun σ H Q h => ?_
  obtain ⟨ρ, θ, M, S, q⟩ := h
  unfold dVar at q
  split at q
  · rename_i d e
    obtain ⟨v, h1, h2⟩ := S.1.2 i d e
    exact ⟨v, h1, q H θ (Ext.refl _ _) S.2 v h2⟩
  · exact q.elim
def dC (d : D) : FE D := fun _ M => .ok d M
theorem de_int {i : Int} {j : Nat} : DE G X (.Constant (.int i) j pos) (dC (.int i)) := fun ok W tk => pe_int.imp fun σ H Q h => by
  obtain ⟨ρ, θ, M, S, q⟩ := h
  exact q H θ (Ext.refl _ _) S.2 _ (.int i)
theorem de_bl {i : Bool} {j : Nat} : DE G X (.Constant (.bool i) j pos) (dC (.bl i)) := fun ok W tk => pe_bl.imp fun σ H Q h => by
  obtain ⟨ρ, θ, M, S, q⟩ := h
  exact q H θ (Ext.refl _ _) S.2 _ (.bl i)
theorem de_non {j : Nat} : DE G X (.Constant .none j pos) (dC .non) := fun ok W tk => pe_non.imp fun σ H Q h => by
  obtain ⟨ρ, θ, M, S, q⟩ := h
  exact q H θ (Ext.refl _ _) S.2 _ .non
theorem de_str {x : Str} {j : Nat} : DE G X (.Constant (.str x) j pos) (dC (.str x)) := fun ok W tk => pe_str.imp fun σ H Q h => by
  obtain ⟨ρ, θ, M, S, q⟩ := h
  exact q H θ (Ext.refl _ _) S.2 _ (.str x)
/-- a module's name for an int or a text -/
theorem de_gint {x : Str} {i : Int} {t : Tok} (hm : X.mg x = some (.int i t)) (hg : Gl X x := by rfl) (hd : (x == ("__debug__" : Str)) = false := by decide) : DE G X (.Name x pos) (dC (.int i)) := fun ok W tk => (pe_glob (v := .int i) hg hm ⟨_, rfl⟩ hd).imp fun σ H Q h => by
  obtain ⟨ρ, θ, M, S, q⟩ := h
  exact q H θ (Ext.refl _ _) S.2 _ (.int i)
theorem de_gstr {x : Str} {i : Str} {t : Tok} (hm : X.mg x = some (.str i t)) (hg : Gl X x := by rfl) (hd : (x == ("__debug__" : Str)) = false := by decide) : DE G X (.Name x pos) (dC (.str i)) := fun ok W tk => (pe_glob (v := .str i) hg hm ⟨_, rfl⟩ hd).imp fun σ H Q h => by
  obtain ⟨ρ, θ, M, S, q⟩ := h
  exact q H θ (Ext.refl _ _) S.2 _ (.str i)
/-! ### a part, then the rest -/
theorem rdE_seq {α : Type} {S : Hp → Th → Sto → α → Prop} {g : D → FE α} {σ : L2.St} {H : Hp} {Q : VK} {ρ : Env} {θ : Th} {M : Sto} (S0 : StR G σ H ρ θ M) (h : postR G W σ H θ S ((f ρ M).bind fun x => g x ρ))
    (k : ∀ x v H1 θ1 M1, StR G σ H1 ρ θ1 M1 → Ext H θ H1 θ1 → Rep G H1 θ1 v x → postR G W σ H1 θ1 S (g x ρ M1) → Q v H1) : rdE G W f σ H Q :=
  ⟨ρ, θ, M, S0, h.seq fun x M1 H1 θ1 E S1 q v r => k x v H1 θ1 M1 (S0.ext E S1) E r q⟩
theorem rdT_seq {α : Type} {S : Hp → Th → Sto → α → Prop} {g : Bool → FE α} {σ : L2.St} {H : Hp} {Q : Bool → Hp → Prop} {ρ : Env} {θ : Th} {M : Sto} (S0 : StR G σ H ρ θ M) (h : postR G W σ H θ S ((ft ρ M).bind fun x => g x ρ))
    (k : ∀ x H1 θ1 M1, StR G σ H1 ρ θ1 M1 → Ext H θ H1 θ1 → postR G W σ H1 θ1 S (g x ρ M1) → Q x H1) : rdT G W ft σ H Q :=
  ⟨ρ, θ, M, S0, h.seq fun x M1 H1 θ1 E S1 q => k x H1 θ1 M1 (S0.ext E S1) E q⟩
theorem rdA_seq {α : Type} {S : Hp → Th → Sto → α → Prop} {g : List D → FE α} {σ : L2.St} {H : Hp} {Q : List V → Hp → Prop} {ρ : Env} {θ : Th} {M : Sto} (S0 : StR G σ H ρ θ M) (h : postR G W σ H θ S ((fs ρ M).bind fun x => g x ρ))
    (k : ∀ xs vs H1 θ1 M1, StR G σ H1 ρ θ1 M1 → Ext H θ H1 θ1 → Reps G H1 θ1 vs xs → postR G W σ H1 θ1 S (g xs ρ M1) → Q vs H1) : rdA G W fs σ H Q :=
  ⟨ρ, θ, M, S0, h.seq fun x M1 H1 θ1 E S1 q vs r => k x vs H1 θ1 M1 (S0.ext E S1) E r q⟩
/-! ### operators by values -/
/-- what an operator gives, by data: g -/
def rOp (G : Cfg) (g : Sto → D → D → Option D) : R2 := fun x y H Q => ∃ θ M dx dy d, StoR G H θ M ∧ Rep G H θ x dx ∧ Rep G H θ y dy ∧ g M dx dy = some d ∧ ∀ v H', Ext H θ H' θ → StoR G H' θ M → Rep G H' θ v d → Q v H'
def OpD (G : Cfg) (X : Cx) (f : Value → Value → Sem Value) (g : Sto → D → D → Option D) : Prop := Okc G X → OpR X f (rOp G g)
def dBin (g : Sto → D → D → Option D) (fa fb : FE D) : FE D := fun ρ M => (fa ρ M).bind fun x M1 => (fb ρ M1).bind fun y M2 => .ofO (g M2 x y) M2
theorem bin_rd {g : Sto → D → D → Option D} {σ : L2.St} {H : Hp} {Q : VK} (h : rdE G W (dBin g fa fb) σ H Q) : tOp (rOp G g) (rdE G W fa) (rdE G W fb) σ H Q := by
  obtain ⟨ρ, θ, M, S, q⟩ := h
  refine rdE_seq (g := fun x ρ M1 => (fb ρ M1).bind fun y M2 => .ofO (g M2 x y) M2) S q fun x v H1 θ1 M1 S1 E1 r1 q1 => ?_
  refine rdE_seq (g := fun y ρ M2 => .ofO (g M2 x y) M2) S1 q1 fun y u H2 θ2 M2 S2 E2 r2 q2 => ?_
  cases e : g M2 x y with
  | none => rw [e] at q2; exact q2.elim
  | some d =>
    rw [e] at q2
    exact ⟨θ2, M2, x, y, d, S2.2, r1.ext E2, r2, e, fun v H' E S' r => q2 H' θ2 E S' v r⟩
theorem de_bin {op : Operator} {g : Sto → D → D → Option D} (o : OpD G X (binaryOp op) g) (ha : DE G X a fa) (hb : DE G X b fb) : DE G X (.BinOp a op b pos) (dBin g fa fb) := fun ok W tk =>
  (pe_op (o ok) (ha ok W tk) (hb ok W tk)).imp fun σ H Q h => bin_rd h
theorem de_cmp {op : CmpOp} {g : Sto → D → D → Option D} (o : OpD G X (compareOp op) g) (ha : DE G X a fa) (hb : DE G X b fb) (hm : behindInMarks op b = false := by first | exact nomark _ | rfl) : DE G X (.Compare a [op] [b] pos) (dBin g fa fb) := fun ok W tk =>
  (pe_cmpR (o ok) (ha ok W tk) (hb ok W tk) hm).imp fun σ H Q h => bin_rd h
/-- a value as a test: a bool -/
def dTst (f : FE D) : FE Bool := fun ρ M => (f ρ M).bind fun x M1 => match x with
  | .bl k => .ok k M1
  | _ => .bad
theorem tst_rd {σ : L2.St} {H : Hp} {Q : Bool → Hp → Prop} (h : rdT G W (dTst f) σ H Q) : rdE G W f σ H fun x H1 => ∃ k, x = .bl k ∧ Q k H1 := by
  obtain ⟨ρ, θ, M, S, q⟩ := h
  refine rdE_seq (g := fun x _ M1 => match x with | .bl k => .ok k M1 | _ => .bad) S q fun x v H1 θ1 M1 S1 E1 r1 q1 => ?_
  cases x with
  | bl k => exact ⟨k, rep_bl r1, q1 H1 θ1 (Ext.refl _ _) S1.2⟩
  | _ => exact q1.elim
theorem dt_cmp {op : CmpOp} {g : Sto → D → D → Option D} (o : OpD G X (compareOp op) g) (ha : DE G X a fa) (hb : DE G X b fb) (hm : behindInMarks op b = false := by first | exact nomark _ | rfl) : DT G X (.Compare a [op] [b] pos) (dTst (dBin g fa fb)) := fun ok W tk => by
  refine (pt_cmpR (o ok) (ha ok W tk) (hb ok W tk) hm).imp fun σ H Q h => ?_
  obtain ⟨ρ, θ, M, S, q⟩ := tst_rd h
  exact bin_rd ⟨ρ, θ, M, S, q⟩
/-- any other expression as a test, a bool -/
theorem dt_val (h : DE G X e f) (he : ∀ whole, isTrue e X.env whole = (do let v ← whole; standAt e.pos; holding [v] (truthy v)) := by intro _; rfl) : DT G X e (dTst f) := fun ok W tk => (pt_val (h ok W tk) he).imp fun σ H Q h => tst_rd h
/-! ### and, or, not; a if t else b -/
def dAnd (t u : FE Bool) : FE Bool := fun ρ M => (t ρ M).bind fun c M1 => if c = true then u ρ M1 else .ok false M1
def dOr (t u : FE Bool) : FE Bool := fun ρ M => (t ρ M).bind fun c M1 => if c = true then .ok true M1 else u ρ M1
def dNot (t : FE Bool) : FE Bool := fun ρ M => (t ρ M).bind fun c M1 => .ok (!c) M1
variable {ta tb tc : FE Bool} {rest : List Expr}
theorem dw_and1 (ha : DT G X a ta) : DW G X (.BoolOp .And [a] pos) ta := fun ok W tk => pw_and1 (ha ok W tk)
theorem dw_or1 (ha : DT G X a ta) : DW G X (.BoolOp .Or [a] pos) ta := fun ok W tk => pw_or1 (ha ok W tk)
theorem dw_and (ha : DT G X a ta) (hb : DW G X (.BoolOp .And (b :: rest) pos) tb) : DW G X (.BoolOp .And (a :: b :: rest) pos) (dAnd ta tb) := fun ok W tk => by
  refine PW.imp (pw_and (ha ok W tk) (hb ok W tk)) fun σ H Q h => ?_
  obtain ⟨ρ, θ, M, S, q⟩ := h
  refine rdT_seq (g := fun c ρ M1 => if c = true then tb ρ M1 else .ok false M1) S q fun c H1 θ1 M1 S1 E1 q1 => ?_
  cases c with
  | true => exact ⟨ρ, θ1, M1, S1, q1⟩
  | false => exact q1 H1 θ1 (Ext.refl _ _) S1.2
theorem dw_or (ha : DT G X a ta) (hb : DW G X (.BoolOp .Or (b :: rest) pos) tb) : DW G X (.BoolOp .Or (a :: b :: rest) pos) (dOr ta tb) := fun ok W tk => by
  refine PW.imp (pw_or (ha ok W tk) (hb ok W tk)) fun σ H Q h => ?_
  obtain ⟨ρ, θ, M, S, q⟩ := h
  refine rdT_seq (g := fun c ρ M1 => if c = true then .ok true M1 else tb ρ M1) S q fun c H1 θ1 M1 S1 E1 q1 => ?_
  cases c with
  | true => exact q1 H1 θ1 (Ext.refl _ _) S1.2
  | false => exact ⟨ρ, θ1, M1, S1, q1⟩
theorem dt_of (h : DW G X e ta) : DT G X e ta := fun ok W tk => (h ok W tk).pt
theorem dt_not (ha : DT G X a ta) : DT G X (.UnaryOp .Not a pos) (dNot ta) := fun ok W tk => by
  refine PT.imp (pt_not (ha ok W tk)) fun σ H Q h => ?_
  obtain ⟨ρ, θ, M, S, q⟩ := h
  exact rdT_seq (g := fun c _ M1 => .ok (!c) M1) S q fun c H1 θ1 M1 S1 E1 q1 => q1 H1 θ1 (Ext.refl _ _) S1.2
/-- as values: all but the last are bools -/
def dAndV (fa fb : FE D) : FE D := fun ρ M => (fa ρ M).bind fun x M1 => match x with
  | .bl true => fb ρ M1
  | .bl false => .ok (.bl false) M1
  | _ => .bad
def dOrV (fa fb : FE D) : FE D := fun ρ M => (fa ρ M).bind fun x M1 => match x with
  | .bl false => fb ρ M1
  | .bl true => .ok (.bl true) M1
  | _ => .bad
def dNotV (fa : FE D) : FE D := fun ρ M => (fa ρ M).bind fun x M1 => match x with
  | .bl k => .ok (.bl (!k)) M1
  | _ => .bad
theorem de_one {op} (h : DE G X a f) : DE G X (.BoolOp op [a] pos) f := fun ok W tk => pe_one (h ok W tk)
theorem de_and (ha : DE G X a fa) (hb : DE G X (.BoolOp .And (b :: rest) pos) fb) : DE G X (.BoolOp .And (a :: b :: rest) pos) (dAndV fa fb) := fun ok W tk => by
  refine (pe_and (ha ok W tk) (hb ok W tk)).imp fun σ H Q h => ?_
  obtain ⟨ρ, θ, M, S, q⟩ := h
  refine rdE_seq (g := fun x ρ M1 => match x with | .bl true => fb ρ M1 | .bl false => .ok (D.bl false) M1 | _ => .bad) S q fun x v H1 θ1 M1 S1 E1 r1 q1 => ?_
  cases x with
  | bl k =>
    cases k with
    | true => exact ⟨true, rep_bl r1, iteT ⟨ρ, θ1, M1, S1, q1⟩⟩
    | false => exact ⟨false, rep_bl r1, iteF (q1 H1 θ1 (Ext.refl _ _) S1.2 _ (.bl false))⟩
  | _ => exact q1.elim
theorem de_or (ha : DE G X a fa) (hb : DE G X (.BoolOp .Or (b :: rest) pos) fb) : DE G X (.BoolOp .Or (a :: b :: rest) pos) (dOrV fa fb) := fun ok W tk => by
  refine (pe_or (ha ok W tk) (hb ok W tk)).imp fun σ H Q h => ?_
  obtain ⟨ρ, θ, M, S, q⟩ := h
  refine rdE_seq (g := fun x ρ M1 => match x with | .bl false => fb ρ M1 | .bl true => .ok (D.bl true) M1 | _ => .bad) S q fun x v H1 θ1 M1 S1 E1 r1 q1 => ?_
  cases x with
  | bl k =>
    cases k with
    | false => exact ⟨false, rep_bl r1, iteF ⟨ρ, θ1, M1, S1, q1⟩⟩
    | true => exact ⟨true, rep_bl r1, iteT (q1 H1 θ1 (Ext.refl _ _) S1.2 _ (.bl true))⟩
  | _ => exact q1.elim
theorem de_not (ha : DE G X a fa) : DE G X (.UnaryOp .Not a pos) (dNotV fa) := fun ok W tk => by
  refine (pe_not (ha ok W tk)).imp fun σ H Q h => ?_
  obtain ⟨ρ, θ, M, S, q⟩ := h
  refine rdE_seq (g := fun x _ M1 => match x with | .bl k => .ok (D.bl (!k)) M1 | _ => .bad) S q fun x v H1 θ1 M1 S1 E1 r1 q1 => ?_
  cases x with
  | bl k => exact ⟨k, rep_bl r1, q1 H1 θ1 (Ext.refl _ _) S1.2 _ (.bl _)⟩
  | _ => exact q1.elim
def dIf {α : Type} (t : FE Bool) (fa fb : FE α) : FE α := fun ρ M => (t ρ M).bind fun c M1 => if c = true then fa ρ M1 else fb ρ M1
theorem de_if (hc : DT G X c tc) (ha : DE G X a fa) (hb : DE G X b fb) : DE G X (.IfExp c a b pos) (dIf tc fa fb) := fun ok W tk => by
  refine (pe_ifExp (hc ok W tk) (ha ok W tk) (hb ok W tk)).imp fun σ H Q h => ?_
  obtain ⟨ρ, θ, M, S, q⟩ := h
  refine rdT_seq (g := fun c ρ M1 => if c = true then fa ρ M1 else fb ρ M1) S q fun c H1 θ1 M1 S1 E1 q1 => ?_
  cases c with
  | true => exact iteT ⟨ρ, θ1, M1, S1, q1⟩
  | false => exact iteF ⟨ρ, θ1, M1, S1, q1⟩
/-- not of a test, as a value -/
def dVal (t : FE Bool) : FE D := fun ρ M => (t ρ M).bind fun c M1 => .ok (.bl c) M1
/-! ### argument lists, tuples, lists -/
def dNil : FE (List D) := fun _ M => .ok [] M
def dCons (fa : FE D) (fr : FE (List D)) : FE (List D) := fun ρ M => (fa ρ M).bind fun x M1 => (fr ρ M1).bind fun xs M2 => .ok (x :: xs) M2
theorem da_nil : DA G X [] dNil := fun ok W tk => PA.imp pa_nil fun σ H Q h => by
  obtain ⟨ρ, θ, M, S, q⟩ := h
  exact q H θ (Ext.refl _ _) S.2 _ .nil
theorem da_cons {fr : FE (List D)} (ha : DE G X e fa) (hr : DA G X es fr) (hs : starEach (e :: es) X.env = (false, eval e X.env) :: starEach es X.env := by rfl) : DA G X (e :: es) (dCons fa fr) := fun ok W tk => by
  refine PA.imp (pa_cons (ha ok W tk) (hr ok W tk) hs) fun σ H Q h => ?_
  obtain ⟨ρ, θ, M, S, q⟩ := h
  refine rdE_seq (g := fun x ρ M1 => (fr ρ M1).bind fun xs M2 => .ok (x :: xs) M2) S q fun x v H1 θ1 M1 S1 E1 r1 q1 => ?_
  exact rdA_seq (g := fun xs _ M2 => .ok (x :: xs) M2) S1 q1 fun xs vs H2 θ2 M2 S2 E2 r2 q2 => q2 H2 θ2 (Ext.refl _ _) S2.2 _ (.cons (r1.ext E2) r2)
def dTup (fs : FE (List D)) : FE D := fun ρ M => (fs ρ M).bind fun xs M1 => if xs.length ≤ sizeLine then .ok (.tup xs) M1 else .bad
def dLst (fs : FE (List D)) : FE D := fun ρ M => (fs ρ M).bind fun xs M1 => if xs.length ≤ sizeLine then .ok (.lst xs) M1 else .bad
/-- .. a list that will change -/
def dLstO (fs : FE (List D)) : FE D := fun ρ M => (fs ρ M).bind fun xs M1 => if xs.length ≤ sizeLine then .ok (.own M1.length) (M1 ++ [.lst xs]) else .bad
theorem de_tup {x1} (h : DA G X es fs) : DE G X (.Tuple es x1 pos) (dTup fs) := fun ok W tk => by
  refine (pe_tupN (h ok W tk)).imp fun σ H Q h => ?_
  obtain ⟨ρ, θ, M, S, q⟩ := h
  refine rdA_seq (g := fun xs _ M1 => if xs.length ≤ sizeLine then .ok (D.tup xs) M1 else .bad) S q fun xs vs H1 θ1 M1 S1 E1 r1 q1 => ?_
  by_cases hz : xs.length ≤ sizeLine
  · rw [if_pos hz] at q1
    exact ⟨by rw [r1.length]; exact hz, fun p ob hp hd => q1 _ θ1 (Ext.alloc hp _) (S1.2.alloc hp _) _ (new_tup S1.2 hp hd r1)⟩
  · rw [if_neg hz] at q1
    exact q1.elim
theorem de_lst (h : DA G X es fs) : DE G X (.List es pos) (dLst fs) := fun ok W tk => by
  refine (pe_lst (h ok W tk)).imp fun σ H Q h => ?_
  obtain ⟨ρ, θ, M, S, q⟩ := h
  refine rdA_seq (g := fun xs _ M1 => if xs.length ≤ sizeLine then .ok (D.lst xs) M1 else .bad) S q fun xs vs H1 θ1 M1 S1 E1 r1 q1 => ?_
  by_cases hz : xs.length ≤ sizeLine
  · rw [if_pos hz] at q1
    exact ⟨by rw [r1.length]; exact hz, fun p hp => q1 _ θ1 (Ext.alloc hp _) (S1.2.alloc hp _) _ (new_lst S1.2 hp r1)⟩
  · rw [if_neg hz] at q1
    exact q1.elim
theorem StoR.last {H : Hp} {θ : Th} {M : Sto} {p : Addr} (S : StoR G H θ M) : (θ.own p).lb[M.length]? = some p := by
  show (θ.lb ++ [p])[M.length]? = some p
  rw [List.getElem?_append_right (by rw [S.len]; exact Nat.le_refl _), S.len, Nat.sub_self]
  rfl
theorem de_lstO (h : DA G X es fs) : DE G X (.List es pos) (dLstO fs) := fun ok W tk => by
  refine (pe_lst (h ok W tk)).imp fun σ H Q h => ?_
  obtain ⟨ρ, θ, M, S, q⟩ := h
  refine rdA_seq (g := fun xs _ M1 => if xs.length ≤ sizeLine then .ok (D.own M1.length) (M1 ++ [.lst xs]) else .bad) S q fun xs vs H1 θ1 M1 S1 E1 r1 q1 => ?_
  by_cases hz : xs.length ≤ sizeLine
  · rw [if_pos hz] at q1
    refine ⟨by rw [r1.length]; exact hz, fun p hp => q1 _ (θ1.own p) (Ext.allocOwn hp _) (S1.2.push hp ⟨vs, upd_same, r1.ext (Ext.allocOwn hp _)⟩) _ (.own S1.2.last)⟩
  · rw [if_neg hz] at q1
    exact q1.elim
end
end DL
set_option maxHeartbeats 4000000
namespace DL
open PySem PySem.Spec PyProof.Rows L2
/-! ### data as the library's data -/
mutual
def toPy (M : Sto) : D → Option PyData
  | .non => some .none
  | .bl b => some (.bool b)
  | .int i => some (.int i)
  | .str x => some (.str x)
  | .tup xs => (toPys M xs).map .tuple
  | .lst xs => (toPys M xs).map .list
  | .flst xs => (toPys M xs).map .list
  | .own n => match M[n]? with
    | some (.lst xs) => (toPysF xs).map .list
    | _ => none
  | _ => none
def toPys (M : Sto) : List D → Option (List PyData)
  | [] => some []
  | x :: xs => match toPy M x, toPys M xs with
    | some d, some ds => some (d :: ds)
    | _, _ => none
/-- without changing objects -/
def toPyF : D → Option PyData
  | .non => some .none
  | .bl b => some (.bool b)
  | .int i => some (.int i)
  | .str x => some (.str x)
  | .tup xs => (toPysF xs).map .tuple
  | .lst xs => (toPysF xs).map .list
  | .flst xs => (toPysF xs).map .list
  | _ => none
def toPysF : List D → Option (List PyData)
  | [] => some []
  | x :: xs => match toPyF x, toPysF xs with
    | some d, some ds => some (d :: ds)
    | _, _ => none
end
section
variable {G : Cfg} {H : Hp} {θ : Th} {M : Sto}
mutual
theorem rep_dpF (S : StoR G H θ M) : ∀ {d : D} {v : V} {e : PyData}, Rep G H θ v d → toPyF d = some e → Dp G.K H v e
  | .non, v, e, r, h => by cases h; cases r; exact .non
  | .bl b, v, e, r, h => by cases h; cases r; exact .bl b
  | .int i, v, e, r, h => by cases h; cases r; exact .int i
  | .str x, v, e, r, h => by cases h; cases r; exact .str x
  | .tup xs, v, e, r, h => by
    obtain ⟨ds, h1, h2⟩ := Option.map_eq_some_iff.mp h
    subst h2
    obtain ⟨a, vs, rfl, hq, rs⟩ := rep_tup r
    exact .tup hq (reps_dpF S rs h1)
  | .lst xs, v, e, r, h => by
    obtain ⟨ds, h1, h2⟩ := Option.map_eq_some_iff.mp h
    subst h2
    obtain ⟨a, vs, rfl, hq, rs⟩ := rep_lst S r rfl
    exact .lst hq (reps_dpF S rs h1)
  | .flst xs, v, e, r, h => by
    obtain ⟨ds, h1, h2⟩ := Option.map_eq_some_iff.mp h
    subst h2
    obtain ⟨a, vs, rfl, hq, rs⟩ := rep_lst S r rfl
    exact .lst hq (reps_dpF S rs h1)
  | .dic _ _, _, _, _, h => by cases h
  | .dit _ _, _, _, _, h => by cases h
  | .obj _ _ _, _, _, _, h => by cases h
  | .exc _ _ _, _, _, _, h => by cases h
  | .own _, _, _, _, h => by cases h
theorem reps_dpF (S : StoR G H θ M) : ∀ {ds : List D} {vs : List V} {es : List PyData}, Reps G H θ vs ds → toPysF ds = some es → DpAll G.K H vs es
  | [], vs, es, r, h => by cases h; cases r; exact .nil
  | x :: xs, vs, es, r, h => by
    cases r with
    | cons r rs =>
      have h2 : (match toPyF x, toPysF xs with | some d, some ds => some (d :: ds) | _, _ => none) = some es := h
      split at h2
      · rename_i d ds e1 e2
        cases h2
        exact .cons (rep_dpF S r e1) (reps_dpF S rs e2)
      · cases h2
end
mutual
theorem rep_dp (S : StoR G H θ M) : ∀ {d : D} {v : V} {e : PyData}, Rep G H θ v d → toPy M d = some e → Dp G.K H v e
  | .non, v, e, r, h => by cases h; cases r; exact .non
  | .bl b, v, e, r, h => by cases h; cases r; exact .bl b
  | .int i, v, e, r, h => by cases h; cases r; exact .int i
  | .str x, v, e, r, h => by cases h; cases r; exact .str x
  | .tup xs, v, e, r, h => by
    obtain ⟨ds, h1, h2⟩ := Option.map_eq_some_iff.mp h
    subst h2
    obtain ⟨a, vs, rfl, hq, rs⟩ := rep_tup r
    exact .tup hq (reps_dp S rs h1)
  | .lst xs, v, e, r, h => by
    obtain ⟨ds, h1, h2⟩ := Option.map_eq_some_iff.mp h
    subst h2
    obtain ⟨a, vs, rfl, hq, rs⟩ := rep_lst S r rfl
    exact .lst hq (reps_dp S rs h1)
  | .flst xs, v, e, r, h => by
    obtain ⟨ds, h1, h2⟩ := Option.map_eq_some_iff.mp h
    subst h2
    obtain ⟨a, vs, rfl, hq, rs⟩ := rep_lst S r rfl
    exact .lst hq (reps_dp S rs h1)
  | .own n, v, e, r, h => by
    have h2 : (match M[n]? with | some (.lst xs) => (toPysF xs).map PyData.list | _ => none) = some e := h
    split at h2
    · rename_i xs hm
      obtain ⟨ds, h3, h4⟩ := Option.map_eq_some_iff.mp h2
      subst h4
      obtain ⟨a, vs, rfl, hq, rs⟩ := rep_lst S r (show lstOf M (.own n) = some xs from by simp [lstOf, hm])
      exact .lst hq (reps_dpF S rs h3)
    · cases h2
  | .dic _ _, _, _, _, h => by cases h
  | .dit _ _, _, _, _, h => by cases h
  | .obj _ _ _, _, _, _, h => by cases h
  | .exc _ _ _, _, _, _, h => by cases h
theorem reps_dp (S : StoR G H θ M) : ∀ {ds : List D} {vs : List V} {es : List PyData}, Reps G H θ vs ds → toPys M ds = some es → DpAll G.K H vs es
  | [], vs, es, r, h => by cases h; cases r; exact .nil
  | x :: xs, vs, es, r, h => by
    cases r with
    | cons r rs =>
      have h2 : (match toPy M x, toPys M xs with | some d, some ds => some (d :: ds) | _, _ => none) = some es := h
      split at h2
      · rename_i d ds e1 e2
        cases h2
        exact .cons (rep_dp S r e1) (reps_dp S rs e2)
      · cases h2
end
end
/-! ### arithmetic -/
/-- the items of a list that stands in the heap -/
def lst0 (M : Sto) : D → Option (List D)
  | .lst ds => some ds
  | .own n => match M[n]? with
    | some (.lst ds) => some ds
    | _ => none
  | _ => none
def gAdd (M : Sto) (x y : D) : Option D := match x, y with
  | .int i, .int j => some (.int (i + j))
  | .str a, .str b => if a.length + b.length ≤ sizeLine then some (.str (a ++ b)) else none
  | .tup as, .tup bs => if as.length + bs.length ≤ sizeLine then some (.tup (as ++ bs)) else none
  | x, y => match lst0 M x, lst0 M y with
    | some as, some bs => if as.length + bs.length ≤ sizeLine then some (.lst (as ++ bs)) else none
    | _, _ => none
def gSub (_ : Sto) (x y : D) : Option D := match x, y with
  | .int i, .int j => some (.int (i - j))
  | _, _ => none
def gMul (M : Sto) (x y : D) : Option D := match x, y with
  | .int i, .int j => if i.natAbs.log2 + j.natAbs.log2 < 1000000 then some (.int (i * j)) else none
  | x, .int k => match lst0 M x with
    | some ds => if -(2 ^ 63) ≤ k ∧ k < 2 ^ 63 ∧ ds.length * k.toNat ≤ sizeLine then some (.lst (List.replicate k.toNat ds).flatten) else none
    | none => none
  | _, _ => none
def gDiv (_ : Sto) (x y : D) : Option D := match x, y with
  | .int i, .int j => if 0 < j ∧ j.natAbs.log2 < 9000 then some (.int (i / j)) else none
  | _, _ => none
def gMod (_ : Sto) (x y : D) : Option D := match x, y with
  | .int i, .int j => if 0 < j then some (.int (i % j)) else none
  | _, _ => none
def gPow (_ : Sto) (x y : D) : Option D := match x, y with
  | .int i, .int j => if 0 ≤ j ∧ j ≤ 1000000 ∧ i.natAbs < 2 ^ 64 then some (.int (i ^ j.toNat)) else none
  | _, _ => none
section
variable {G : Cfg} {X : Cx}
theorem rep_lst0 {H : Hp} {θ : Th} {v : V} {ds : List D} (r : Rep G H θ v (.lst ds)) : ∃ a xs, v = .ref a ∧ H a = some (.lst xs) ∧ Reps G H θ xs ds := by
  cases r with
  | lst h n r => exact ⟨_, _, rfl, h, r⟩
theorem rep_lst1 {H : Hp} {θ : Th} {M : Sto} {v : V} {d : D} {ds : List D} (S : StoR G H θ M) (r : Rep G H θ v d) (h : lst0 M d = some ds) : ∃ a xs, v = .ref a ∧ H a = some (.lst xs) ∧ Reps G H θ xs ds := by
  cases r with
  | lst h' n r => cases h; exact ⟨_, _, rfl, h', r⟩
  | @own a n h' =>
    have h2 : (match M[n]? with | some (MO.lst ds) => some ds | _ => none) = some ds := h
    split at h2
    · rename_i ds' hm
      cases h2
      obtain ⟨xs, e, r⟩ := S.own h' hm
      exact ⟨_, xs, rfl, e, r⟩
    · cases h2
  | _ => cases h
theorem od_add : OpD G X (binaryOp .Add) gAdd := fun ok => by
  intro pins s σ H x y v u Q I rx ry h
  obtain ⟨θ, M, dx, dy, d, S, r1, r2, hg, q⟩ := h
  unfold gAdd at hg
  split at hg
  · cases hg
    cases rep_int r1; cases rep_int r2
    exact op_add pins s σ H _ _ v u Q I rx ry ⟨_, _, rfl, rfl, q _ H (Ext.refl _ _) S (.int _)⟩
  · split at hg
    · rename_i hz
      cases hg
      cases rep_str r1; cases rep_str r2
      exact op_add_str pins s σ H _ _ v u Q I rx ry ⟨_, _, rfl, rfl, hz, q _ H (Ext.refl _ _) S (.str _)⟩
    · cases hg
  · split at hg
    · rename_i as bs hz
      cases hg
      obtain ⟨a, xs, rfl, ha, ra⟩ := rep_tup r1
      obtain ⟨b, ys, rfl, hb, rb⟩ := rep_tup r2
      rw [ok.hk] at ha hb
      refine op_catN pins s σ H _ _ v u Q I rx ry ⟨a, b, xs, ys, rfl, rfl, ha, hb, by rw [ra.length, rb.length]; exact hz, fun e => ?_, fun _ e => ?_, fun _ _ p ob hp hd => ?_⟩
      · subst e
        cases ra
        exact q _ H (Ext.refl _ _) S r2
      · subst e
        cases rb
        rw [List.append_nil] at q
        exact q _ H (Ext.refl _ _) S r1
      · exact q _ _ (Ext.alloc hp _) (S.alloc hp _) (new_tup S hp hd (ra.append rb))
    · cases hg
  · split at hg
    · rename_i as bs h1 h2
      split at hg
      · rename_i hz
        cases hg
        obtain ⟨a, xs, rfl, ha, ra⟩ := rep_lst1 S r1 h1
        obtain ⟨b, ys, rfl, hb, rb⟩ := rep_lst1 S r2 h2
        exact op_cat pins s σ H _ _ v u Q I rx ry ⟨a, b, xs, ys, rfl, rfl, ha, hb, by rw [ra.length, rb.length]; exact hz, fun p hp => q _ _ (Ext.alloc hp _) (S.alloc hp _) (new_lst S hp (ra.append rb))⟩
      · cases hg
    · cases hg
theorem od_sub : OpD G X (binaryOp .Sub) gSub := fun ok => by
  intro pins s σ H x y v u Q I rx ry h
  obtain ⟨θ, M, dx, dy, d, S, r1, r2, hg, q⟩ := h
  unfold gSub at hg
  split at hg
  · cases hg
    cases rep_int r1; cases rep_int r2
    exact op_sub pins s σ H _ _ v u Q I rx ry ⟨_, _, rfl, rfl, q _ H (Ext.refl _ _) S (.int _)⟩
  · cases hg
theorem reps_flat {H : Hp} {θ : Th} {xs : List V} {ds : List D} (r : Reps G H θ xs ds) : ∀ n : Nat, Reps G H θ (List.replicate n xs).flatten (List.replicate n ds).flatten
  | 0 => .nil
  | n + 1 => by
    rw [List.replicate_succ, List.replicate_succ, List.flatten_cons, List.flatten_cons]
    exact r.append (reps_flat r n)
theorem od_mul : OpD G X (binaryOp .Mult) gMul := fun ok => by
  intro pins s σ H x y v u Q I rx ry h
  obtain ⟨θ, M, dx, dy, d, S, r1, r2, hg, q⟩ := h
  unfold gMul at hg
  split at hg
  · split at hg
    · rename_i hz
      cases hg
      cases rep_int r1; cases rep_int r2
      exact op_mulW pins s σ H _ _ v u Q I rx ry ⟨_, _, rfl, rfl, hz, q _ H (Ext.refl _ _) S (.int _)⟩
    · cases hg
  · split at hg
    · rename_i ds h1
      split at hg
      · rename_i hz
        cases hg
        obtain ⟨a, xs, rfl, ha, ra⟩ := rep_lst1 S r1 h1
        cases rep_int r2
        exact op_rep pins s σ H _ _ v u Q I rx ry ⟨a, _, xs, rfl, rfl, ha, hz.1, hz.2.1, by rw [ra.length]; exact hz.2.2, fun p hp => q _ _ (Ext.alloc hp _) (S.alloc hp _) (new_lst S hp (reps_flat ra _))⟩
      · cases hg
    · cases hg
  · cases hg
theorem od_div : OpD G X (binaryOp .FloorDiv) gDiv := fun ok => by
  intro pins s σ H x y v u Q I rx ry h
  obtain ⟨θ, M, dx, dy, d, S, r1, r2, hg, q⟩ := h
  unfold gDiv at hg
  split at hg
  · split at hg
    · rename_i hz
      cases hg
      cases rep_int r1; cases rep_int r2
      exact op_fdivW pins s σ H _ _ v u Q I rx ry ⟨_, _, rfl, rfl, hz, q _ H (Ext.refl _ _) S (.int _)⟩
    · cases hg
  · cases hg
theorem od_mod : OpD G X (binaryOp .Mod) gMod := fun ok => by
  intro pins s σ H x y v u Q I rx ry h
  obtain ⟨θ, M, dx, dy, d, S, r1, r2, hg, q⟩ := h
  unfold gMod at hg
  split at hg
  · split at hg
    · rename_i hz
      cases hg
      cases rep_int r1; cases rep_int r2
      exact op_mod pins s σ H _ _ v u Q I rx ry ⟨_, _, rfl, rfl, hz, q _ H (Ext.refl _ _) S (.int _)⟩
    · cases hg
  · cases hg
theorem od_pow : OpD G X (binaryOp .Pow) gPow := fun ok => by
  intro pins s σ H x y v u Q I rx ry h
  obtain ⟨θ, M, dx, dy, d, S, r1, r2, hg, q⟩ := h
  unfold gPow at hg
  split at hg
  · split at hg
    · rename_i hz
      cases hg
      cases rep_int r1; cases rep_int r2
      exact op_pow pins s σ H _ _ v u Q I rx ry ⟨_, _, rfl, rfl, hz, q _ H (Ext.refl _ _) S (.int _)⟩
    · cases hg
  · cases hg
/-! ### comparisons -/
def flatEq : D → D → Option Bool
  | .int i, .int j => some (decide (i = j))
  | .str i, .str j => some (decide (i = j))
  | .bl i, .bl j => some (decide (i = j))
  | _, _ => none
def gEqB (neg : Bool) (M : Sto) (x y : D) : Option D := match flatEq x y with
  | some b => some (.bl (if neg then !b else b))
  | none => match toPy M x, toPy M y with
    | some d, some e => if SeqAt.shaped d = true ∧ SeqAt.shaped e = true then some (.bl (if neg then !PyData.eqv d e else PyData.eqv d e)) else none
    | _, _ => none
abbrev gEq := gEqB false
abbrev gNe := gEqB true
theorem flat_rd {G : Cfg} {H : Hp} {θ : Th} {x y : V} {dx dy : D} {b : Bool} (r1 : Rep G H θ x dx) (r2 : Rep G H θ y dy) (h : flatEq dx dy = some b) : scal x y = true ∧ decide (x = y) = b := by
  unfold flatEq at h
  split at h
  · cases h; cases rep_int r1; cases rep_int r2; exact ⟨rfl, by simp⟩
  · cases h; cases rep_str r1; cases rep_str r2; exact ⟨rfl, by simp⟩
  · cases h; cases rep_bl r1; cases rep_bl r2; exact ⟨rfl, by simp⟩
  · cases h
theorem od_eq : OpD G X (compareOp .Eq) gEq := fun ok => by
  intro pins s σ H x y v u Q I rx ry h
  obtain ⟨θ, M, dx, dy, d, S, r1, r2, hg, q⟩ := h
  unfold gEq gEqB at hg
  split at hg
  · rename_i b hb
    cases hg
    obtain ⟨h1, h2⟩ := flat_rd r1 r2 hb
    exact op_eq pins s σ H _ _ v u Q I rx ry ⟨h1, q _ H (Ext.refl _ _) S (by rw [h2]; exact .bl b)⟩
  · split at hg
    · rename_i d1 e1 h1 h2
      split at hg
      · rename_i hz
        cases hg
        have p1 := rep_dp S r1 h1
        have p2 := rep_dp S r2 h2
        rw [ok.hk] at p1 p2
        exact op_eqD (by have := ok.hu; omega) pins s σ H _ _ v u Q I rx ry ⟨_, _, p1, p2, hz.1, hz.2, q _ H (Ext.refl _ _) S (.bl _)⟩
      · cases hg
    · cases hg
theorem od_ne : OpD G X (compareOp .NotEq) gNe := fun ok => by
  intro pins s σ H x y v u Q I rx ry h
  obtain ⟨θ, M, dx, dy, d, S, r1, r2, hg, q⟩ := h
  unfold gNe gEqB at hg
  split at hg
  · rename_i b hb
    cases hg
    obtain ⟨h1, h2⟩ := flat_rd r1 r2 hb
    exact op_ne pins s σ H _ _ v u Q I rx ry ⟨h1, q _ H (Ext.refl _ _) S (by rw [h2]; exact .bl (!b))⟩
  · split at hg
    · rename_i d1 e1 h1 h2
      split at hg
      · rename_i hz
        cases hg
        have p1 := rep_dp S r1 h1
        have p2 := rep_dp S r2 h2
        rw [ok.hk] at p1 p2
        exact op_neD (by have := ok.hu; omega) pins s σ H _ _ v u Q I rx ry ⟨_, _, p1, p2, hz.1, hz.2, q _ H (Ext.refl _ _) S (.bl _)⟩
      · cases hg
    · cases hg
def gLt (_ : Sto) (x y : D) : Option D := match x, y with
  | .int i, .int j => some (.bl (decide (i < j)))
  | .str a, .str b => some (.bl (decide (a.cps.toList < b.cps.toList)))
  | _, _ => none
def gLe (_ : Sto) (x y : D) : Option D := match x, y with
  | .int i, .int j => some (.bl (decide (i ≤ j)))
  | _, _ => none
def gGt (_ : Sto) (x y : D) : Option D := match x, y with
  | .int i, .int j => some (.bl (decide (j < i)))
  | _, _ => none
def gGe (_ : Sto) (x y : D) : Option D := match x, y with
  | .int i, .int j => some (.bl (decide (j ≤ i)))
  | _, _ => none
theorem od_lt : OpD G X (compareOp .Lt) gLt := fun ok => by
  intro pins s σ H x y v u Q I rx ry h
  obtain ⟨θ, M, dx, dy, d, S, r1, r2, hg, q⟩ := h
  unfold gLt at hg
  split at hg
  · cases hg
    cases rep_int r1; cases rep_int r2
    exact op_lt pins s σ H _ _ v u Q I rx ry ⟨_, _, rfl, rfl, q _ H (Ext.refl _ _) S (.bl _)⟩
  · cases hg
    cases rep_str r1; cases rep_str r2
    exact op_lt_str pins s σ H _ _ v u Q I rx ry ⟨_, _, rfl, rfl, q _ H (Ext.refl _ _) S (.bl _)⟩
  · cases hg
theorem od_le : OpD G X (compareOp .LtE) gLe := fun ok => by
  intro pins s σ H x y v u Q I rx ry h
  obtain ⟨θ, M, dx, dy, d, S, r1, r2, hg, q⟩ := h
  unfold gLe at hg
  split at hg
  · cases hg
    cases rep_int r1; cases rep_int r2
    exact op_le pins s σ H _ _ v u Q I rx ry ⟨_, _, rfl, rfl, q _ H (Ext.refl _ _) S (.bl _)⟩
  · cases hg
theorem od_gt : OpD G X (compareOp .Gt) gGt := fun ok => by
  intro pins s σ H x y v u Q I rx ry h
  obtain ⟨θ, M, dx, dy, d, S, r1, r2, hg, q⟩ := h
  unfold gGt at hg
  split at hg
  · cases hg
    cases rep_int r1; cases rep_int r2
    exact op_gt pins s σ H _ _ v u Q I rx ry ⟨_, _, rfl, rfl, q _ H (Ext.refl _ _) S (.bl _)⟩
  · cases hg
theorem od_ge : OpD G X (compareOp .GtE) gGe := fun ok => by
  intro pins s σ H x y v u Q I rx ry h
  obtain ⟨θ, M, dx, dy, d, S, r1, r2, hg, q⟩ := h
  unfold gGe at hg
  split at hg
  · cases hg
    cases rep_int r1; cases rep_int r2
    exact op_ge pins s σ H _ _ v u Q I rx ry ⟨_, _, rfl, rfl, q _ H (Ext.refl _ _) S (.bl _)⟩
  · cases hg
/-- is: of None or of a bool, on the right -/
def isNon : D → Bool
  | .non => true
  | _ => false
def isB (x y : D) : Option Bool := match y with
  | .non => some (isNon x)
  | .bl b => match x with
    | .bl a => some (decide (a = b))
    | _ => none
  | _ => none
def gIs (_ : Sto) (x y : D) : Option D := (isB x y).map .bl
def gIsNot (_ : Sto) (x y : D) : Option D := (isB x y).map fun b => .bl (!b)
theorem rep_isnon {H : Hp} {θ : Th} {v : V} {d : D} (r : Rep G H θ v d) : decide (v = .non) = isNon d := by
  cases r <;> first | rfl | exact decide_eq_false (fun z => by cases z)
theorem od_is : OpD G X (compareOp .Is) gIs := fun ok => by
  intro pins s σ H x y v u Q I rx ry h
  obtain ⟨θ, M, dx, dy, d, S, r1, r2, hg, q⟩ := h
  obtain ⟨b, hb, hd⟩ := Option.map_eq_some_iff.mp hg
  subst hd
  unfold isB at hb
  split at hb
  · cases rep_non r2
    refine op_isN pins s σ H _ _ v u Q I rx ry ⟨rfl, ?_⟩
    rw [rep_isnon r1]
    cases hb
    exact q _ H (Ext.refl _ _) S (.bl _)
  · split at hb
    · cases hb
      cases rep_bl r1; cases rep_bl r2
      exact op_isBl pins s σ H _ _ v u Q I rx ry ⟨_, _, rfl, rfl, q _ H (Ext.refl _ _) S (.bl _)⟩
    · cases hb
  · cases hb
theorem od_isnot : OpD G X (compareOp .IsNot) gIsNot := fun ok => by
  intro pins s σ H x y v u Q I rx ry h
  obtain ⟨θ, M, dx, dy, d, S, r1, r2, hg, q⟩ := h
  obtain ⟨b, hb, hd⟩ := Option.map_eq_some_iff.mp hg
  subst hd
  unfold isB at hb
  split at hb
  · cases rep_non r2
    refine op_notN pins s σ H _ _ v u Q I rx ry ⟨rfl, ?_⟩
    rw [rep_isnon r1]
    cases hb
    exact q _ H (Ext.refl _ _) S (.bl _)
  · split at hb
    · cases hb
      cases rep_bl r1; cases rep_bl r2
      exact op_notBl pins s σ H _ _ v u Q I rx ry ⟨_, _, rfl, rfl, q _ H (Ext.refl _ _) S (.bl _)⟩
    · cases hb
  · cases hb
end
end DL
set_option maxHeartbeats 4000000
namespace DL
open PySem PySem.Spec PyProof.Rows L2
section
variable {G : Cfg} {H : Hp} {θ : Th} {M : Sto}
theorem ixN_len {n m : Nat} (h : n = m) (i : Int) : ixN n i = ixN m i := by rw [h]
theorem reps_at {xs : List V} {ds : List D} {i : Int} {d : D} (r : Reps G H θ xs ds) (h : atI ds i = some d) : ∃ v, atI xs i = some v ∧ Rep G H θ v d := by
  unfold atI at h ⊢
  rw [ixN_len r.length]
  cases e : ixN ds.length i with
  | none => rw [e] at h; cases h
  | some j =>
    rw [e] at h
    exact r.get h
end
/-! ### subscripts -/
def gIx (M : Sto) (x y : D) : Option D := match y with
  | .int i => match x with
    | .str z => if z.length ≤ sizeLine then (atI z.cps.toList i).map fun c => .str ⟨#[c]⟩ else none
    | x => match seqOf M x with
      | some ds => atI ds i
      | none => none
  | _ => none
section
variable {G : Cfg} {X : Cx} {a b c e : Expr} {es : List Expr} {fa fb fc f : FE D} {fs : FE (List D)} {pos : Pos}
theorem ix_rd (ok : Okc G X) : IxR X (rOp G gIx) := by
  intro value slice pins s σ H x y v u Q I rx ry h hs
  obtain ⟨θ, M, dx, dy, d, S, r1, r2, hg, q⟩ := h
  unfold gIx at hg
  split at hg
  · rename_i i
    cases rep_int r2
    split at hg
    · split at hg
      · rename_i hz
        obtain ⟨c, h1, h2⟩ := Option.map_eq_some_iff.mp hg
        subst h2
        cases rep_str r1
        exact ix_str value slice pins s σ H _ _ v u Q I rx ry ⟨_, _, c, rfl, rfl, hz, h1, q _ H (Ext.refl _ _) S (.str _)⟩ hs
      · cases hg
    · split at hg
      · rename_i ds hd
        obtain ⟨p, xs, rfl, hp, r⟩ := rep_seq S r1 hd
        obtain ⟨w, h1, h2⟩ := reps_at r hg
        rw [ok.hk] at hp
        rcases hp with hp | hp
        · exact ix_list value slice pins s σ H _ _ v u Q I rx ry ⟨p, xs, _, w, rfl, rfl, hp, h1, q _ H (Ext.refl _ _) S h2⟩ hs
        · exact ix_tup value slice pins s σ H _ _ v u Q I rx ry ⟨p, xs, _, w, rfl, rfl, hp, h1, q _ H (Ext.refl _ _) S h2⟩ hs
      · cases hg
  · cases hg
theorem de_ix (ha : DE G X a fa) (hb : DE G X b fb) (hs : PlainIx b := by exact fun _ _ => rfl) : DE G X (.Subscript a b pos) (dBin gIx fa fb) := fun ok W tk =>
  (pe_ix (ix_rd ok) (ha ok W tk) (hb ok W tk) hs).imp fun σ H Q h => bin_rd h
/-! ### -e -/
def dNeg (fa : FE D) : FE D := fun ρ M => (fa ρ M).bind fun x M1 => match x with
  | .int i => .ok (.int (-i)) M1
  | _ => .bad
theorem de_neg (ha : DE G X a fa) : DE G X (.UnaryOp .USub a pos) (dNeg fa) := fun ok W tk => by
  refine (pe_un un_neg (ha ok W tk)).imp fun σ H Q h => ?_
  obtain ⟨ρ, θ, M, S, q⟩ := h
  refine rdE_seq (g := fun x _ M1 => match x with | .int i => .ok (D.int (-i)) M1 | _ => .bad) S q fun x v H1 θ1 M1 S1 E1 r1 q1 => ?_
  cases x with
  | int i => exact ⟨i, rep_int r1, q1 H1 θ1 (Ext.refl _ _) S1.2 _ (.int _)⟩
  | _ => exact q1.elim
/-! ### a op b op' c -/
def dChain (g g' : Sto → D → D → Option D) (fa fb fc : FE D) : FE D := fun ρ M => (fa ρ M).bind fun x M1 => (fb ρ M1).bind fun y M2 => match g M2 x y with
  | some (.bl true) => (fc ρ M2).bind fun z M3 => .ofO (g' M3 y z) M3
  | some (.bl false) => .ok (.bl false) M2
  | _ => .bad
theorem chain_rd {W : WX} {g g' : Sto → D → D → Option D} {σ : L2.St} {H : Hp} {Q : VK} (h : rdE G W (dChain g g' fa fb fc) σ H Q) : tChain (rOp G g) (rOp G g') (rdE G W fa) (rdE G W fb) (rdE G W fc) σ H Q := by
  obtain ⟨ρ, θ, M, S, q⟩ := h
  refine rdE_seq (g := fun x ρ M1 => (fb ρ M1).bind fun y M2 => match g M2 x y with | some (.bl true) => (fc ρ M2).bind fun z M3 => .ofO (g' M3 y z) M3 | some (.bl false) => .ok (D.bl false) M2 | _ => .bad) S q fun x v H1 θ1 M1 S1 E1 r1 q1 => ?_
  refine rdE_seq (g := fun y ρ M2 => match g M2 x y with | some (.bl true) => (fc ρ M2).bind fun z M3 => .ofO (g' M3 y z) M3 | some (.bl false) => .ok (D.bl false) M2 | _ => .bad) S1 q1 fun y u H2 θ2 M2 S2 E2 r2 q2 => ?_
  refine ⟨θ2, M2, x, y, ?_⟩
  split at q2
  · rename_i e
    refine ⟨.bl true, S2.2, r1.ext E2, r2, e, fun w H3 E3 S3 r3 => ⟨true, rep_bl r3, iteT ?_⟩⟩
    refine rdE_seq (g := fun z _ M3 => .ofO (g' M3 y z) M3) ⟨S2.1.ext E3, S3⟩ (postR.base q2 E3) fun z w' H4 θ4 M4 S4 E4 r4 q4 => ?_
    cases e4 : g' M4 y z with
    | none => rw [e4] at q4; exact q4.elim
    | some d =>
      rw [e4] at q4
      exact ⟨θ4, M4, y, z, d, S4.2, (r2.ext E3).ext E4, r4, e4, fun v' H' E' S' r' => q4 H' θ4 E' S' v' r'⟩
  · rename_i e
    exact ⟨.bl false, S2.2, r1.ext E2, r2, e, fun w H3 E3 S3 r3 => ⟨false, rep_bl r3, iteF (q2 H3 θ2 E3 S3 _ (.bl false))⟩⟩
  · exact q2.elim
theorem de_chain {op op' : CmpOp} {g g' : Sto → D → D → Option D} (o : OpD G X (compareOp op) g) (o' : OpD G X (compareOp op') g') (ha : DE G X a fa) (hb : DE G X b fb) (hc : DE G X c fc)
    (hm : lastMarks [op, op'] [b, c] = false := by with_unfolding_all rfl) : DE G X (.Compare a [op, op'] [b, c] pos) (dChain g g' fa fb fc) := fun ok W tk =>
  (pe_chain (o ok) (o' ok) (ha ok W tk) (hb ok W tk) (hc ok W tk) hm).imp fun σ H Q h => chain_rd h
theorem dt_chain {op op' : CmpOp} {g g' : Sto → D → D → Option D} (o : OpD G X (compareOp op) g) (o' : OpD G X (compareOp op') g') (ha : DE G X a fa) (hb : DE G X b fb) (hc : DE G X c fc)
    (hm : lastMarks [op, op'] [b, c] = false := by with_unfolding_all rfl) : DT G X (.Compare a [op, op'] [b, c] pos) (dTst (dChain g g' fa fb fc)) := fun ok W tk => by
  refine (pt_chain (o ok) (o' ok) (ha ok W tk) (hb ok W tk) (hc ok W tk) hm).imp fun σ H Q h => ?_
  obtain ⟨ρ, θ, M, S, q⟩ := tst_rd h
  exact chain_rd ⟨ρ, θ, M, S, q⟩
/-! ### slices -/
def DO (G : Cfg) (X : Cx) (e : Option Expr) (f : FE (Option Int)) : Prop := Okc G X → ∀ W, Takes X W → PO X e fun σ H Q => ∃ ρ θ M, StR G σ H ρ θ M ∧ postR G W σ H θ (fun H' _ _ o => Q o H') (f ρ M)
def dNoPart : FE (Option Int) := fun _ M => .ok none M
def dPart (f : FE D) : FE (Option Int) := fun ρ M => (f ρ M).bind fun x M1 => match x with
  | .int i => .ok (some i) M1
  | _ => .bad
theorem do_none : DO G X none dNoPart := fun ok W tk => ⟨fun pins s σ H Q I h => by
  obtain ⟨ρ, θ, M, S, q⟩ := h
  exact po_none.run pins s σ H Q I (q H θ (Ext.refl _ _) S.2)⟩
theorem do_some (h : DE G X e f) : DO G X (some e) (dPart f) := fun ok W tk => ⟨fun pins s σ H Q I h' => by
  obtain ⟨ρ, θ, M, S, q⟩ := h'
  refine (po_some (h ok W tk)).run pins s σ H Q I ?_
  refine rdE_seq (g := fun x _ M1 => match x with | .int i => .ok (some i) M1 | _ => .bad) S q fun x v H1 θ1 M1 S1 E1 r1 q1 => ?_
  cases x with
  | int i => exact ⟨i, rep_int r1, q1 H1 θ1 (Ext.refl _ _) S1.2⟩
  | _ => exact q1.elim⟩
def cut {α : Type} (xs : List α) (lo hi : Option Int) : List α := (xs.drop (HT.sIx xs.length 0 lo)).take (HT.sIx xs.length xs.length hi - HT.sIx xs.length 0 lo)
def gSl (M : Sto) (x : D) (lo hi : Option Int) : Option D := match x with
  | .str z => if z.length ≤ sizeLine then some (.str (cutS z lo hi)) else none
  | .tup ds => some (.tup (cut ds lo hi))
  | x => (lstOf M x).map fun ds => .lst (cut ds lo hi)
def rSlD (G : Cfg) : V → Option Int → Option Int → Hp → VK → Prop := fun x lo hi H Q => ∃ θ M dx d, StoR G H θ M ∧ Rep G H θ x dx ∧ gSl M dx lo hi = some d ∧ ∀ v H', Ext H θ H' θ → StoR G H' θ M → Rep G H' θ v d → Q v H'
theorem cut_reps {H : Hp} {θ : Th} {xs : List V} {ds : List D} (r : Reps G H θ xs ds) (lo hi : Option Int) : Reps G H θ (cutV xs lo hi) (cut ds lo hi) := by
  unfold cutV cut
  rw [r.length]
  exact (r.drop _).take _
theorem sl_rd (ok : Okc G X) : SlR X (rSlD G) := by
  intro pins s σ H x v vl vu lo hi sl Q I rx hs pl pu h
  obtain ⟨θ, M, dx, d, S, r1, hg, q⟩ := h
  unfold gSl at hg
  split at hg
  · split at hg
    · rename_i hz
      cases hg
      cases rep_str r1
      exact sl_str pins s σ H _ v vl vu lo hi sl Q I rx hs pl pu ⟨_, rfl, hz, q _ H (Ext.refl _ _) S (.str _)⟩
    · cases hg
  · rename_i ds
    cases hg
    obtain ⟨p, xs, rfl, hp, r⟩ := rep_tup r1
    rw [ok.hk] at hp
    refine sl_tupN pins s σ H _ v vl vu lo hi sl Q I rx hs pl pu ⟨p, xs, rfl, hp, fun z => ?_, fun z p ob hp hd => q _ _ (Ext.alloc hp _) (S.alloc hp _) (new_tup S hp hd (cut_reps r lo hi))⟩
    have e : cut ds lo hi = ds := by
      unfold cut
      rw [r.length] at z
      rw [z.1, z.2]
      simp
    rw [e] at q
    exact q _ H (Ext.refl _ _) S r1
  · obtain ⟨ds, h1, h2⟩ := Option.map_eq_some_iff.mp hg
    subst h2
    obtain ⟨p, xs, rfl, hp, r⟩ := rep_lst S r1 h1
    rw [ok.hk] at hp
    exact sl_list pins s σ H _ v vl vu lo hi sl Q I rx hs pl pu ⟨p, xs, rfl, hp, fun p hp => q _ _ (Ext.alloc hp _) (S.alloc hp _) (new_lst S hp (cut_reps r lo hi))⟩
def dSl (fa : FE D) (fl fh : FE (Option Int)) : FE D := fun ρ M => (fa ρ M).bind fun x M1 => (fl ρ M1).bind fun l M2 => (fh ρ M2).bind fun h M3 => .ofO (gSl M3 x l h) M3
theorem de_slice {lo hi : Option Expr} {fl fh : FE (Option Int)} {p2 : Pos} (ha : DE G X a fa) (hl : DO G X lo fl) (hh : DO G X hi fh) : DE G X (.Subscript a (.Slice lo hi none p2) pos) (dSl fa fl fh) := fun ok W tk => by
  refine (pe_slice (sl_rd ok) (ha ok W tk) (hl ok W tk) (hh ok W tk)).imp fun σ H Q h => ?_
  obtain ⟨ρ, θ, M, S, q⟩ := h
  refine rdE_seq (g := fun x ρ M1 => (fl ρ M1).bind fun l M2 => (fh ρ M2).bind fun h M3 => .ofO (gSl M3 x l h) M3) S q fun x v H1 θ1 M1 S1 E1 r1 q1 => ?_
  refine ⟨ρ, θ1, M1, S1, q1.seq fun l M2 H2 θ2 E2 S2 q2 => ?_⟩
  refine ⟨ρ, θ2, M2, S1.ext E2 S2, q2.seq fun h M3 H3 θ3 E3 S3 q3 => ?_⟩
  cases e : gSl M3 x l h with
  | none => rw [e] at q3; exact q3.elim
  | some d =>
    rw [e] at q3
    exact ⟨θ3, M3, x, d, S3, (r1.ext E2).ext E3, e, fun v H' E' S' r => q3 H' θ3 E' S' v r⟩
/-! ### calls of what is built in -/
def rCall (G : Cfg) (g : Sto → List D → Option D) : List V → Hp → VK → Prop := fun vs H Q => ∃ θ M ds d, StoR G H θ M ∧ Reps G H θ vs ds ∧ g M ds = some d ∧ ∀ v H', Ext H θ H' θ → StoR G H' θ M → Rep G H' θ v d → Q v H'
def CallD (G : Cfg) (X : Cx) (f : Value) (g : Sto → List D → Option D) : Prop := Okc G X → CallR X f (rCall G g)
def dCallB (g : Sto → List D → Option D) (fs : FE (List D)) : FE D := fun ρ M => (fs ρ M).bind fun ds M1 => .ofO (g M1 ds) M1
theorem callB_rd {W : WX} {g : Sto → List D → Option D} {σ : L2.St} {H : Hp} {Q : VK} (h : rdE G W (dCallB g fs) σ H Q) : tCB (rCall G g) (rdA G W fs) σ H Q := by
  obtain ⟨ρ, θ, M, S, q⟩ := h
  refine rdA_seq (g := fun ds _ M1 => .ofO (g M1 ds) M1) S q fun ds vs H1 θ1 M1 S1 E1 r1 q1 => ?_
  cases e : g M1 ds with
  | none => rw [e] at q1; exact q1.elim
  | some d =>
    rw [e] at q1
    exact ⟨θ1, M1, ds, d, S1.2, r1, e, fun v H' E' S' r => q1 H' θ1 E' S' v r⟩
variable {x : Str} {p : Pos} {id T : String} {g : Sto → List D → Option D}
theorem de_callB (c : CallD G X (.builtin id) g) (hm : X.mg x = none) (ha : DA G X (e :: es) fs) (hg : Gl X x := by rfl) (hv : bootBuiltins x = some (.builtin id) := by decide +kernel) (hn : x ≠ "__name__" := by decide) (hdb : (x == ("__debug__" : Str)) = false := by decide)
    (he : starEach (e :: es) X.env = (false, eval e X.env) :: starEach es X.env := by rfl) (hpl : (backTo pos (starEach es X.env)).any (·.1) = false := by rfl) : DE G X (.Call (.Name x p) (e :: es) [] pos) (dCallB g fs) := fun ok W tk =>
  (pe_callB (c ok) hg hm hv (ha ok W tk) hn hdb he hpl).imp fun σ H Q h => callB_rd h
theorem de_callTy (c : CallD G X (.type T) g) (hm : X.mg x = none) (ha : DA G X (e :: es) fs) (hg : Gl X x := by rfl) (hv : bootBuiltins x = some (.type T) := by decide +kernel) (hn : x ≠ "__name__" := by decide) (hdb : (x == ("__debug__" : Str)) = false := by decide)
    (he : starEach (e :: es) X.env = (false, eval e X.env) :: starEach es X.env := by rfl) (hpl : (backTo pos (starEach es X.env)).any (·.1) = false := by rfl) : DE G X (.Call (.Name x p) (e :: es) [] pos) (dCallB g fs) := fun ok W tk =>
  (pe_callTy (c ok) hg hm hv (ha ok W tk) hn hdb he hpl).imp fun σ H Q h => callB_rd h
theorem de_callBf (c : CallD G X (.builtin id) g) (hm : X.mg x = some (.builtin id)) (ha : DA G X (e :: es) fs) (hg : Gl X x := by rfl) (hdb : (x == ("__debug__" : Str)) = false := by decide)
    (he : starEach (e :: es) X.env = (false, eval e X.env) :: starEach es X.env := by rfl) (hpl : (backTo pos (starEach es X.env)).any (·.1) = false := by rfl) : DE G X (.Call (.Name x p) (e :: es) [] pos) (dCallB g fs) := fun ok W tk =>
  (pe_callBfun (c ok) hg hm (ha ok W tk) hdb he hpl).imp fun σ H Q h => callB_rd h
/-! ### what some of them give -/
def gAbs (_ : Sto) : List D → Option D
  | [.int i] => some (.int (if i < 0 then -i else i))
  | _ => none
theorem cd_abs : CallD G X (.builtin "abs") gAbs := fun ok => by
  intro pins s σ H xs us Q I r h
  obtain ⟨θ, M, ds, d, S, rs, hg, q⟩ := h
  unfold gAbs at hg
  split at hg
  · cases hg
    cases rs with | cons r1 rs => cases rs; cases rep_int r1; exact call_abs pins s σ H _ us Q I r ⟨_, rfl, q _ H (Ext.refl _ _) S (.int _)⟩
  · cases hg
def gGcd (_ : Sto) : List D → Option D
  | [.int i, .int j] => some (.int ((Nat.gcd i.natAbs j.natAbs : Nat) : Int))
  | _ => none
theorem cd_gcd : CallD G X (.builtin "math.gcd") gGcd := fun ok => by
  intro pins s σ H xs us Q I r h
  obtain ⟨θ, M, ds, d, S, rs, hg, q⟩ := h
  unfold gGcd at hg
  split at hg
  · cases hg
    cases rs with | cons r1 rs => cases rs with | cons r2 rs => cases rs; cases rep_int r1; cases rep_int r2; exact cr_gcd pins s σ H _ us Q I r ⟨_, _, rfl, q _ H (Ext.refl _ _) S (.int _)⟩
  · cases hg
def gMin2 (_ : Sto) : List D → Option D
  | [.int i, .int j] => some (.int (if j < i then j else i))
  | _ => none
theorem cd_min2 : CallD G X (.builtin "min") gMin2 := fun ok => by
  intro pins s σ H xs us Q I r h
  obtain ⟨θ, M, ds, d, S, rs, hg, q⟩ := h
  unfold gMin2 at hg
  split at hg
  · cases hg
    cases rs with | cons r1 rs => cases rs with | cons r2 rs => cases rs; cases rep_int r1; cases rep_int r2; exact call_min2 ok.calm pins s σ H _ us Q I r ⟨_, _, rfl, q _ H (Ext.refl _ _) S (.int _)⟩
  · cases hg
def gInt1 (_ : Sto) : List D → Option D
  | [.int i] => some (.int i)
  | [.bl k] => some (.int (if k then 1 else 0))
  | _ => none
theorem cd_int : CallD G X (.type "int") gInt1 := fun ok => by
  intro pins s σ H xs us Q I r h
  obtain ⟨θ, M, ds, d, S, rs, hg, q⟩ := h
  unfold gInt1 at hg
  split at hg
  · cases hg
    cases rs with | cons r1 rs => cases rs; cases rep_int r1; exact call_int1 pins s σ H _ us Q I r (.inl ⟨_, rfl, q _ H (Ext.refl _ _) S (.int _)⟩)
  · cases hg
    cases rs with | cons r1 rs => cases rs; cases rep_bl r1; exact call_int1 pins s σ H _ us Q I r (.inr ⟨_, rfl, q _ H (Ext.refl _ _) S (.int _)⟩)
  · cases hg
def gLen (M : Sto) : List D → Option D
  | [.str z] => if z.length ≤ sizeLine then some (.int z.length) else none
  | [x] => (seqOf M x).map fun ds => .int ds.length
  | _ => none
theorem cd_len : CallD G X (.builtin "len") gLen := fun ok => by
  intro pins s σ H xs us Q I r h
  obtain ⟨θ, M, ds, d, S, rs, hg, q⟩ := h
  unfold gLen at hg
  split at hg
  · split at hg
    · rename_i hz
      cases hg
      cases rs with | cons r1 rs => cases rs; cases rep_str r1; exact call_len_str pins s σ H _ us Q I r ⟨_, rfl, hz, q _ H (Ext.refl _ _) S (.int _)⟩
    · cases hg
  · obtain ⟨es, h1, h2⟩ := Option.map_eq_some_iff.mp hg
    subst h2
    cases rs with | cons r1 rs =>
      cases rs
      obtain ⟨p, ys, rfl, hp, r2⟩ := rep_seq S r1 h1
      rw [ok.hk] at hp
      rw [← r2.length] at q
      exact call_len_seq pins s σ H _ us Q I r ⟨p, ys, rfl, hp, q _ H (Ext.refl _ _) S (.int _)⟩
  · cases hg
def gTuple (M : Sto) : List D → Option D
  | [.tup ds] => some (.tup ds)
  | [x] => (lstOf M x).map .tup
  | _ => none
theorem cd_tuple : CallD G X (.type "tuple") gTuple := fun ok => by
  intro pins s σ H xs us Q I r h
  obtain ⟨θ, M, ds, d, S, rs, hg, q⟩ := h
  unfold gTuple at hg
  split at hg
  · cases hg
    cases rs with | cons r1 rs =>
      cases rs
      obtain ⟨p, ys, rfl, hp, r2⟩ := rep_tup r1
      rw [ok.hk] at hp
      exact call_tupleN pins s σ H _ us Q I r ⟨p, ys, rfl, .inr ⟨hp, q _ H (Ext.refl _ _) S r1⟩⟩
  · obtain ⟨es, h1, h2⟩ := Option.map_eq_some_iff.mp hg
    subst h2
    cases rs with | cons r1 rs =>
      cases rs
      obtain ⟨p, ys, rfl, hp, r2⟩ := rep_lst S r1 h1
      rw [ok.hk] at hp
      exact call_tupleN pins s σ H _ us Q I r ⟨p, ys, rfl, .inl ⟨hp, fun l ob hl hd => q _ _ (Ext.alloc hl _) (S.alloc hl _) (new_tup S hl hd r2)⟩⟩
  · cases hg
def gList (M : Sto) : List D → Option D
  | [x] => (seqOf M x).map .lst
  | _ => none
theorem cd_list : CallD G X (.type "list") gList := fun ok => by
  intro pins s σ H xs us Q I r h
  obtain ⟨θ, M, ds, d, S, rs, hg, q⟩ := h
  unfold gList at hg
  split at hg
  · obtain ⟨es, h1, h2⟩ := Option.map_eq_some_iff.mp hg
    subst h2
    cases rs with | cons r1 rs =>
      cases rs
      obtain ⟨p, ys, rfl, hp, r2⟩ := rep_seq S r1 h1
      rw [ok.hk] at hp
      exact call_list_of pins s σ H _ us Q I r ⟨p, ys, rfl, hp, fun l hl => q _ _ (Ext.alloc hl _) (S.alloc hl _) (new_lst S hl r2)⟩
  · cases hg
def bls : List D → Option (List Bool)
  | [] => some []
  | .bl b :: r => (bls r).map (b :: ·)
  | _ => none
theorem reps_bls {H : Hp} {θ : Th} : ∀ {ds : List D} {vs : List V} {bs : List Bool}, Reps G H θ vs ds → bls ds = some bs → vs = bs.map V.bl
  | [], _, _, r, h => by cases h; cases r; rfl
  | .bl b :: r, _, _, rs, h => by
    obtain ⟨bs, h1, h2⟩ := Option.map_eq_some_iff.mp h
    subst h2
    cases rs with
    | cons r1 rs => rw [rep_bl r1, reps_bls rs h1]; rfl
  | .non :: _, _, _, _, h => by cases h
  | .int _ :: _, _, _, _, h => by cases h
  | .str _ :: _, _, _, _, h => by cases h
  | .tup _ :: _, _, _, _, h => by cases h
  | .lst _ :: _, _, _, _, h => by cases h
  | .flst _ :: _, _, _, _, h => by cases h
  | .dic _ _ :: _, _, _, _, h => by cases h
  | .dit _ _ :: _, _, _, _, h => by cases h
  | .obj _ _ _ :: _, _, _, _, h => by cases h
  | .exc _ _ _ :: _, _, _, _, h => by cases h
  | .own _ :: _, _, _, _, h => by cases h
def gAll (M : Sto) : List D → Option D
  | [x] => (lstOf M x).bind fun ds => (bls ds).map fun bs => .bl (bs.all _root_.id)
  | _ => none
theorem cd_all : CallD G X (.builtin "all") gAll := fun ok => by
  intro pins s σ H xs us Q I r h
  obtain ⟨θ, M, ds, d, S, rs, hg, q⟩ := h
  unfold gAll at hg
  split at hg
  · obtain ⟨es, h1, h3⟩ := Option.bind_eq_some_iff.mp hg
    obtain ⟨bs, h4, h2⟩ := Option.map_eq_some_iff.mp h3
    subst h2
    cases rs with | cons r1 rs =>
      cases rs
      obtain ⟨p, ys, rfl, hp, r2⟩ := rep_lst S r1 h1
      rw [ok.hk] at hp
      have e := reps_bls r2 h4
      subst e
      exact cr_all ok.calm pins s σ H _ us Q I r ⟨p, bs, rfl, hp, q _ H (Ext.refl _ _) S (.bl _)⟩
  · cases hg
end
end DL
set_option maxHeartbeats 4000000
namespace DL
open PySem PySem.Spec PyProof.Rows L2
/-! ### what is stored to -/
abbrev FG := D → Env → Sto → Option (Env × Sto)
abbrev FGs := List D → Env → Sto → Option (Env × Sto)
def rdG (G : Cfg) (g : FG) : TG := fun v σ H Q => ∃ ρ θ M d ρ' M', StR G σ H ρ θ M ∧ Rep G H θ v d ∧ g d ρ M = some (ρ', M') ∧ ∀ σ' H' θ', Ext H θ H' θ' → StR G σ' H' ρ' θ' M' → Q σ' H'
def rdGs (G : Cfg) (g : FGs) : TGs := fun vs σ H Q => ∃ ρ θ M ds ρ' M', StR G σ H ρ θ M ∧ Reps G H θ vs ds ∧ g ds ρ M = some (ρ', M') ∧ ∀ σ' H' θ', Ext H θ H' θ' → StR G σ' H' ρ' θ' M' → Q σ' H'
def DG (G : Cfg) (X : Cx) (tg : Expr) (g : FG) : Prop := Okc G X → PG X tg (rdG G g)
def DGs (G : Cfg) (X : Cx) (tg : List Expr) (g : FGs) : Prop := Okc G X → PGs X tg (rdGs G g)
end DL
namespace L2
open PySem PySem.Spec PyProof.Rows
section
variable {X : Cx}
theorem PG.imp {e : Expr} {t t' : TG} (h : PG X e t) (k : ∀ v σ H Q, t' v σ H Q → t v σ H Q) : PG X e t' := ⟨fun pins s σ H v u Q I r q => h.run pins s σ H v u Q I r (k v σ H Q q)⟩
theorem PGs.imp {e : List Expr} {t t' : TGs} (h : PGs X e t) (k : ∀ v σ H Q, t' v σ H Q → t v σ H Q) : PGs X e t' := ⟨fun pins s σ H v u Q I r q => h.run pins s σ H v u Q I r (k v σ H Q q)⟩
end
end L2
namespace DL
open PySem PySem.Spec PyProof.Rows L2
section
variable {G : Cfg} {X : Cx} {a b c e : Expr} {es : List Expr} {fa fb fc f : FE D} {fs : FE (List D)} {ft : FE Bool} {pos : Pos} {st : Stmt} {sts : List Stmt} {s1 s2 : FS} {g : FG} {gs : FGs}
def gNm (i : Nat) : FG := fun d ρ M => some (ρ.set i (some d), M)
theorem dg_name (i : Nat) {x : Str} (hN : X.N.Nodup) (hi : X.N[i]? = some x := by rfl) (hx : Loc X.env.scope x := by first | exact Or.inl rfl | exact Or.inr rfl) (hf : X.fn x = true ∨ X.env.scope.names.lookup x = some .local := by first | exact .inl rfl | exact .inr rfl) : DG G X (.Name x pos) (gNm i) := fun ok => by
  refine (pg_name hN hi hx hf).imp fun v σ H Q h => ?_
  obtain ⟨ρ, θ, M, d, ρ', M', S, r, e, q⟩ := h
  cases e
  exact q _ _ θ (Ext.refl _ _) ⟨S.1.set i r, S.2⟩
def gsNil : FGs := fun ds ρ M => match ds with
  | [] => some (ρ, M)
  | _ => none
def gsCons (g : FG) (gs : FGs) : FGs := fun ds ρ M => match ds with
  | d :: ds => match g d ρ M with
    | some (ρ1, M1) => gs ds ρ1 M1
    | none => none
  | [] => none
theorem dgs_nil : DGs G X [] gsNil := fun ok => pgs_nil.imp fun vs σ H Q h => by
  obtain ⟨ρ, θ, M, ds, ρ', M', S, r, e, q⟩ := h
  cases r with
  | nil => cases e; exact ⟨rfl, q _ _ θ (Ext.refl _ _) S⟩
  | cons r rs => cases e
theorem dgs_cons (h1 : DG G X e g) (h2 : DGs G X es gs) (hs : (assignEach (e :: es) X.env).map (·.2) = assign e X.env :: (assignEach es X.env).map (·.2) := by rfl) : DGs G X (e :: es) (gsCons g gs) := fun ok => (pgs_cons (h1 ok) (h2 ok) hs).imp fun vs σ H Q h => by
  obtain ⟨ρ, θ, M, ds, ρ', M', S, r, e, q⟩ := h
  cases r with
  | nil => cases e
  | cons r rs =>
    rename_i v vs d ds
    have e' : (match g d ρ M with | some (ρ1, M1) => gs ds ρ1 M1 | none => none) = some (ρ', M') := e
    split at e'
    · rename_i ρ1 M1 e1
      exact ⟨_, _, rfl, ρ, θ, M, d, ρ1, M1, S, r, e1, fun σ1 H1 θ1 E1 S1 => ⟨ρ1, θ1, M1, ds, ρ', M', S1, rs.ext E1, e', fun σ2 H2 θ2 E2 S2 => q σ2 H2 θ2 (E1.trans E2) S2⟩⟩
    · cases e'
def gTp (n : Nat) (gs : FGs) : FG := fun d ρ M => match d with
  | .tup ds => if ds.length = n then gs ds ρ M else none
  | _ => none
theorem dg_tup {k n : Nat} (h : DGs G X es gs) (hn : (assignEach es X.env).length = n := by rfl) (hst : (assignEach es X.env).findIdx? (·.1) = none := by rfl) : DG G X (.Tuple es k pos) (gTp n gs) := fun ok => (pg_tup ok.calm (h ok) hn hst).imp fun v σ H Q h => by
  obtain ⟨ρ, θ, M, d, ρ', M', S, r, e, q⟩ := h
  unfold gTp at e
  split at e
  · rename_i ds
    split at e
    · rename_i hl
      obtain ⟨p, xs, rfl, hp, rs⟩ := rep_tup r
      rw [ok.hk] at hp
      exact ⟨p, xs, rfl, hp, by rw [rs.length]; exact hl, ρ, θ, M, ds, ρ', M', S, rs, e, q⟩
    · cases e
  · cases e
/-! ### blocks -/
def sNx : FS := fun ρ M => .nx ρ M
def Out.seq (o : Out) (k : Env → Sto → Out) : Out := match o with
  | .nx ρ M => k ρ M
  | .rt d M => .rt d M
  | .bk ρ M => .bk ρ M
  | .ct ρ M => .ct ρ M
  | .exc c fs vs ρ M => .exc c fs vs ρ M
  | .bad => .bad
def sSq (s1 s2 : FS) : FS := fun ρ M => (s1 ρ M).seq s2
theorem dss_nil : DSs G X [] sNx := fun ok po W tk => pss_nil.imp fun D σ H h => by
  obtain ⟨ρ, θ, M, S, q⟩ := h
  exact q σ H θ (Ext.refl _ _) S
theorem dss_cons (h1 : DS G X st s1) (h2 : DSs G X sts s2) : DSs G X (st :: sts) (sSq s1 s2) := fun ok po W tk => (pss_cons (h1 ok po W tk) (h2 ok po W tk)).imp fun D σ H h => by
  obtain ⟨ρ, θ, M, S, q⟩ := h
  refine ⟨ρ, θ, M, S, ?_⟩
  have q : postS G W D H θ ((s1 ρ M).seq s2) := q
  cases e : s1 ρ M with
  | nx ρ1 M1 => rw [e] at q; exact fun σ1 H1 θ1 E1 S1 => ⟨ρ1, θ1, M1, S1, postS.base q E1⟩
  | rt d M1 => rw [e] at q; exact q
  | bk ρ1 M1 => rw [e] at q; exact q
  | ct ρ1 M1 => rw [e] at q; exact q
  | exc c fs vs ρ1 M1 => rw [e] at q; exact q
  | bad => rw [e] at q; exact q
theorem dss_one (h1 : DS G X st s1) : DSs G X [st] s1 := fun ok po W tk => pss_one (h1 ok po W tk)
theorem ds_pass : DS G X (.Pass pos) sNx := fun ok po W tk => ps_pass.imp fun D σ H h => by
  obtain ⟨ρ, θ, M, S, q⟩ := h
  exact q σ H θ (Ext.refl _ _) S
theorem ds_doc {x j pos'} : DS G X (.Expr (.Constant (.str x) j pos) pos') sNx := fun ok po W tk => ps_doc.imp fun D σ H h => by
  obtain ⟨ρ, θ, M, S, q⟩ := h
  exact q σ H θ (Ext.refl _ _) S
def sBk : FS := fun ρ M => .bk ρ M
def sCt : FS := fun ρ M => .ct ρ M
theorem ds_break : DS G X (.Break pos) sBk := fun ok po W tk => ps_break.imp fun D σ H h => by
  obtain ⟨ρ, θ, M, S, q⟩ := h
  exact q σ H θ (Ext.refl _ _) S
theorem ds_continue : DS G X (.Continue pos) sCt := fun ok po W tk => ps_continue.imp fun D σ H h => by
  obtain ⟨ρ, θ, M, S, q⟩ := h
  exact q σ H θ (Ext.refl _ _) S
def sEx (f : FE D) : FS := fun ρ M => (f ρ M).thn ρ fun _ M1 => .nx ρ M1
theorem ds_expr (h : DE G X e f) (hs : swapsWith e none pos.line X.env = pure false := by rfl) : DS G X (.Expr e pos) (sEx f) := fun ok po W tk => (ps_expr (h ok W tk) hs).imp fun D σ H h => by
  obtain ⟨ρ, θ, M, S, q⟩ := h
  exact ⟨ρ, θ, M, S, postS.seq (g := fun _ M1 => .nx ρ M1) S.1 q fun x M1 H1 θ1 E S1 q1 v r => q1 σ H1 θ1 (Ext.refl _ _) ⟨S.1.ext E, S1⟩⟩
def sRt (f : FE D) : FS := fun ρ M => (f ρ M).thn ρ fun d M1 => .rt d M1
theorem ds_ret (h : DE G X e f) : DS G X (.Return (some e) pos) (sRt f) := fun ok po W tk => (ps_ret (h ok W tk)).imp fun D σ H h => by
  obtain ⟨ρ, θ, M, S, q⟩ := h
  exact ⟨ρ, θ, M, S, postS.seq (g := fun d M1 => .rt d M1) S.1 q fun x M1 H1 θ1 E S1 q1 v r => q1 v H1 θ1 (Ext.refl _ _) S1 r⟩
def sRtN : FS := fun _ M => .rt .non M
theorem ds_retN : DS G X (.Return none pos) sRtN := fun ok po W tk => ps_retN.imp fun D σ H h => by
  obtain ⟨ρ, θ, M, S, q⟩ := h
  exact q .non H θ (Ext.refl _ _) S.2 .non
def sIf (t : FE Bool) (s1 s2 : FS) : FS := fun ρ M => (t ρ M).thn ρ fun c M1 => if c = true then s1 ρ M1 else s2 ρ M1
theorem ds_if {sts2 : List Stmt} (hc : DT G X c ft) (h1 : DSs G X sts s1) (h2 : DSs G X sts2 s2) : DS G X (.If c sts sts2 pos) (sIf ft s1 s2) := fun ok po W tk => (ps_if (hc ok W tk) (h1 ok po W tk) (h2 ok po W tk)).imp fun D σ H h => by
  obtain ⟨ρ, θ, M, S, q⟩ := h
  refine ⟨ρ, θ, M, S, postS.seq (g := fun c M1 => if c = true then s1 ρ M1 else s2 ρ M1) S.1 q fun c M1 H1 θ1 E S1 q1 => ?_⟩
  cases c with
  | true => exact iteT ⟨ρ, θ1, M1, ⟨S.1.ext E, S1⟩, q1⟩
  | false => exact iteF ⟨ρ, θ1, M1, ⟨S.1.ext E, S1⟩, q1⟩
/-! ### target = value -/
def Out.ofO : Option (Env × Sto) → Out
  | some (ρ, M) => .nx ρ M
  | none => .bad
def sAs (f : FE D) (g : FG) : FS := fun ρ M => (f ρ M).thn ρ fun d M1 => Out.ofO (g d ρ M1)
theorem as_rd {W : WX} {D : Ends} {σ : L2.St} {H : Hp} (h : rdS G W (sAs f g) D σ H) : tAsg (rdE G W f) (rdG G g) D σ H := by
  obtain ⟨ρ, θ, M, S, q⟩ := h
  refine ⟨ρ, θ, M, S, postS.seq (g := fun d M1 => Out.ofO (g d ρ M1)) S.1 q fun d M1 H1 θ1 E S1 q1 v r => ?_⟩
  cases e : g d ρ M1 with
  | none => rw [e] at q1; exact q1.elim
  | some p =>
    obtain ⟨ρ', M'⟩ := p
    rw [e] at q1
    exact ⟨ρ, θ1, M1, d, ρ', M', ⟨S.1.ext E, S1⟩, r, e, q1⟩
theorem ds_asg {tg : Expr} (he : DE G X e f) (hg : DG G X tg g) (hs : swapsWithSole [tg] e pos.line X.env = pure false := by rfl) (hw : swappedStores [tg] e X.env = pure none := by rfl)
    (h1 : (assignEach [tg] X.env).map (·.2) = [assign tg X.env] := by rfl) : DS G X (.Assign [tg] e pos) (sAs f g) := fun ok po W tk => (ps_asg (he ok W tk) (hg ok) hs hw h1).imp fun D σ H h => as_rd h
def sSet (i : Nat) (f : FE D) : FS := fun ρ M => (f ρ M).thn ρ fun d M1 => .nx (ρ.set i (some d)) M1
theorem ds_set (i : Nat) {x : Str} {pos' : Pos} (hN : X.N.Nodup) (he : DE G X e f) (hi : X.N[i]? = some x := by rfl) (hx : Loc X.env.scope x := by first | exact Or.inl rfl | exact Or.inr rfl) (hs : swapsWith e (some (.Name x pos')) pos.line X.env = pure false := by rfl)
    (hf : X.fn x = true ∨ X.env.scope.names.lookup x = some .local := by first | exact .inl rfl | exact .inr rfl) : DS G X (.Assign [.Name x pos'] e pos) (sSet i f) := fun ok po W tk => (ps_set hN hi hx (he ok W tk) hs hf).imp fun D σ H h => by
  obtain ⟨ρ, θ, M, S, q⟩ := h
  exact ⟨ρ, θ, M, S, postS.seq (g := fun d M1 => .nx (ρ.set i (some d)) M1) S.1 q fun d M1 H1 θ1 E S1 q1 v r => q1 _ H1 θ1 (Ext.refl _ _) ⟨(S.1.ext E).set i r, S1⟩⟩
def sPar (i j : Nat) (fa fb : FE D) : FS := fun ρ M => (fa ρ M).thn ρ fun x M1 => (fb ρ M1).thn ρ fun y M2 => .nx ((ρ.set i (some x)).set j (some y)) M2
theorem ds_par (i j : Nat) {x y : Str} {px py pt : Pos} {kt k2 pt2} (hN : X.N.Nodup) (ha : DE G X a fa) (hb : DE G X b fb) (hi : X.N[i]? = some x := by rfl) (hj : X.N[j]? = some y := by rfl) (hij : i ≠ j := by decide)
    (hx : X.env.scope.names.lookup x = some .local := by rfl) (hy : X.env.scope.names.lookup y = some .local := by rfl)
    (hst : starEach [a, b] X.env = (false, eval a X.env) :: starEach [b] X.env := by rfl) (hst2 : starEach [b] X.env = (false, eval b X.env) :: starEach [] X.env := by rfl)
    (hw : swappedStores [.Tuple [.Name x px, .Name y py] kt pt] (.Tuple [a, b] k2 pt2) X.env = pure (some [x, y]) := by rfl)
    (hs : swapsWithSole [.Tuple [.Name x px, .Name y py] kt pt] (.Tuple [a, b] k2 pt2) pos.line X.env = pure false := by rfl) :
    DS G X (.Assign [.Tuple [.Name x px, .Name y py] kt pt] (.Tuple [a, b] k2 pt2) pos) (sPar i j fa fb) := fun ok po W tk => by
  refine (ps_par ok.calm hN hi hj hij hx hy (pa_cons (ha ok W tk) (pa_cons (hb ok W tk) pa_nil hst2) hst) hw hs).imp fun D σ H h => ?_
  obtain ⟨ρ, θ, M, S, q⟩ := h
  refine ⟨ρ, θ, M, S, postS.seq (g := fun x M1 => (fb ρ M1).thn ρ fun y M2 => .nx ((ρ.set i (some x)).set j (some y)) M2) S.1 q fun d M1 H1 θ1 E S1 q1 v r => ?_⟩
  refine ⟨ρ, θ1, M1, ⟨S.1.ext E, S1⟩, postS.seq (g := fun y M2 => .nx ((ρ.set i (some d)).set j (some y)) M2) (S.1.ext E) q1 fun d2 M2 H2 θ2 E2 S2 q2 u r2 => ?_⟩
  exact ⟨v, u, rfl, q2 _ H2 θ2 (Ext.refl _ _) ⟨((((S.1.ext E).ext E2).set i (r.ext E2)).set j r2), S2⟩⟩
def sPar3 (i j l : Nat) (fa fb fc : FE D) : FS := fun ρ M => (fa ρ M).thn ρ fun x M1 => (fb ρ M1).thn ρ fun y M2 => (fc ρ M2).thn ρ fun z M3 => .nx (((ρ.set i (some x)).set j (some y)).set l (some z)) M3
theorem ds_par3 (i j l : Nat) {x y z : Str} {px py pz pt : Pos} {kt k2 pt2} (hN : X.N.Nodup) (ha : DE G X a fa) (hb : DE G X b fb) (hc : DE G X c fc) (hi : X.N[i]? = some x := by rfl) (hj : X.N[j]? = some y := by rfl) (hl : X.N[l]? = some z := by rfl) (hij : i ≠ j := by decide) (hil : i ≠ l := by decide) (hjl : j ≠ l := by decide)
    (hx : X.env.scope.names.lookup x = some .local := by rfl) (hy : X.env.scope.names.lookup y = some .local := by rfl) (hz : X.env.scope.names.lookup z = some .local := by rfl)
    (hst : starEach [a, b, c] X.env = (false, eval a X.env) :: starEach [b, c] X.env := by rfl) (hst2 : starEach [b, c] X.env = (false, eval b X.env) :: starEach [c] X.env := by rfl) (hst3 : starEach [c] X.env = (false, eval c X.env) :: starEach [] X.env := by rfl)
    (hw : swappedStores [.Tuple [.Name x px, .Name y py, .Name z pz] kt pt] (.Tuple [a, b, c] k2 pt2) X.env = pure (some [x, y, z]) := by rfl)
    (hs : swapsWithSole [.Tuple [.Name x px, .Name y py, .Name z pz] kt pt] (.Tuple [a, b, c] k2 pt2) pos.line X.env = pure false := by rfl) :
    DS G X (.Assign [.Tuple [.Name x px, .Name y py, .Name z pz] kt pt] (.Tuple [a, b, c] k2 pt2) pos) (sPar3 i j l fa fb fc) := fun ok po W tk => by
  refine (ps_par3 ok.calm hN hi hj hl hij hil hjl hx hy hz (pa_cons (ha ok W tk) (pa_cons (hb ok W tk) (pa_cons (hc ok W tk) pa_nil hst3) hst2) hst) hw hs).imp fun D σ H h => ?_
  obtain ⟨ρ, θ, M, S, q⟩ := h
  refine ⟨ρ, θ, M, S, postS.seq (g := fun x M1 => (fb ρ M1).thn ρ fun y M2 => (fc ρ M2).thn ρ fun z M3 => .nx (((ρ.set i (some x)).set j (some y)).set l (some z)) M3) S.1 q fun d M1 H1 θ1 E S1 q1 v r => ?_⟩
  refine ⟨ρ, θ1, M1, ⟨S.1.ext E, S1⟩, postS.seq (g := fun y M2 => (fc ρ M2).thn ρ fun z M3 => .nx (((ρ.set i (some d)).set j (some y)).set l (some z)) M3) (S.1.ext E) q1 fun d2 M2 H2 θ2 E2 S2 q2 u r2 => ?_⟩
  refine ⟨ρ, θ2, M2, ⟨(S.1.ext E).ext E2, S2⟩, postS.seq (g := fun z M3 => .nx (((ρ.set i (some d)).set j (some d2)).set l (some z)) M3) ((S.1.ext E).ext E2) q2 fun d3 M3 H3 θ3 E3 S3 q3 w r3 => ?_⟩
  exact ⟨v, u, w, rfl, q3 _ H3 θ3 (Ext.refl _ _) ⟨((((((S.1.ext E).ext E2).ext E3).set i ((r.ext E2).ext E3)).set j (r2.ext E3)).set l r3), S3⟩⟩
/-! ### name op= e -/
def sAug (i : Nat) (g : Sto → D → D → Option D) (f : FE D) : FS := fun ρ M => match ρ[i]? with
  | some (some x) => (f ρ M).thn ρ fun y M1 => match g M1 x y with
    | some z => .nx (ρ.set i (some z)) M1
    | none => .bad
  | _ => .bad
theorem ds_aug (i : Nat) {x : Str} {op : Operator} {g : Sto → D → D → Option D} {pos' : Pos} (o : OpD G X (inplaceOp op) g) (hN : X.N.Nodup) (he : DE G X e f) (hi : X.N[i]? = some x := by rfl) (hx : Loc X.env.scope x := by first | exact Or.inl rfl | exact Or.inr rfl)
    (hf : X.fn x = true ∨ X.env.scope.names.lookup x = some .local := by first | exact .inl rfl | exact .inr rfl) : DS G X (.AugAssign (.Name x pos') op e pos) (sAug i g f) := fun ok po W tk => by
  refine (ps_aug (ti := rOp G g) hN hi hx (he ok W tk) (o ok) hf).imp fun D σ H h => ?_
  obtain ⟨ρ, θ, M, S, q⟩ := h
  unfold sAug at q
  split at q
  · rename_i x e
    obtain ⟨v, h1, h2⟩ := S.1.2 i x e
    refine ⟨v, h1, ρ, θ, M, S, postS.seq (g := fun y M1 => match g M1 x y with | some z => .nx (ρ.set i (some z)) M1 | none => .bad) S.1 q fun d M1 H1 θ1 E S1 q1 u r => ?_⟩
    cases eg : g M1 x d with
    | none => rw [eg] at q1; exact q1.elim
    | some z =>
      rw [eg] at q1
      exact ⟨θ1, M1, x, d, z, S1, h2.ext E, r, eg, fun w H2 E2 S2 r2 => q1 _ H2 θ1 E2 ⟨((S.1.ext E).ext E2).set i r2, S2⟩⟩
  · exact q.elim
end
end DL
set_option maxHeartbeats 4000000
namespace DL
open PySem PySem.Spec PyProof.Rows L2
/-! ### what is walked -/
/-- J yields the items that at_ tells of the store -/
structure ItD (G : Cfg) (H : Hp) (θ : Th) (at_ : Sto → Option (List D)) (J : It) : Prop where
  go : ∀ (H1 : Hp) (θ1 : Th) (M1 : Sto) (ds : List D) (i : Nat) (d : D), Ext H θ H1 θ1 → StoR G H1 θ1 M1 → at_ M1 = some ds → ds[i]? = some d → J.go i H1 ∧ ∀ x H2, J.yld i H1 x H2 → ∃ θ2, Ext H1 θ1 H2 θ2 ∧ StoR G H2 θ2 M1 ∧ Rep G H2 θ2 x d
  stop : ∀ (H1 : Hp) (θ1 : Th) (M1 : Sto) (ds : List D) (i : Nat), Ext H θ H1 θ1 → StoR G H1 θ1 M1 → at_ M1 = some ds → ds.length ≤ i → J.stop i H1
/-- fixed items, or those of the changing list n -/
inductive IT where
  | fix (ds : List D)
  | own (n : Nat)
  | gen (f : Sto → Option (List D))
/-- the items with their numbers -/
def enumT (ds : List D) : List D := ds.zipIdx.map fun p => .tup [.int (p.2 : Nat), p.1]
theorem enumT_len (ds : List D) : (enumT ds).length = ds.length := by unfold enumT; simp
theorem enumT_get (ds : List D) (i : Nat) : (enumT ds)[i]? = ds[i]?.map fun d => .tup [.int (i : Nat), d] := by
  unfold enumT
  rw [List.getElem?_map, List.getElem?_zipIdx]
  cases ds[i]? <;> simp
def IT.at_ : IT → Sto → Option (List D)
  | .fix ds, _ => some ds
  | .own n, M => lstOf M (.own n)
  | .gen f, M => f M
def DI (G : Cfg) (X : Cx) (tg iter : Expr) (fi : FE IT) : Prop := Okc G X → ∀ W, Takes X W → PI X tg iter fun σ H R => ∃ ρ θ M, StR G σ H ρ θ M ∧ postR G W σ H θ (fun H' θ' _ p => ∀ J, ItD G H' θ' p.at_ J → R J H') (fi ρ M)
end DL
namespace L2
open PySem PySem.Spec PyProof.Rows
theorem PI.imp {X : Cx} {tg e : Expr} {t t' : TI} (h : PI X tg e t) (k : ∀ σ H R, t' σ H R → t σ H R) : PI X tg e t' := ⟨fun pins s σ H R I q => h.run pins s σ H R I (k σ H R q)⟩
end L2
namespace DL
open PySem PySem.Spec PyProof.Rows L2
/-- what an item-yielding value is: its kind -/
def itOf : D → Option IT
  | .tup ds => some (.fix ds)
  | .lst ds => some (.fix ds)
  | .flst ds => some (.fix ds)
  | .own n => some (.own n)
  | _ => none
section
variable {G : Cfg} {X : Cx} {tg a b c e : Expr} {es : List Expr} {fa fb fc f : FE D} {fs : FE (List D)} {ft : FE Bool} {pos : Pos}
theorem itl_of {H : Hp} {θ : Th} {v : V} {d : D} {p : IT} (ok : Okc G X) (r : Rep G H θ v d) (h : itOf d = some p) (ht : ∀ ds, d ≠ .tup ds) : ∃ a, v = .ref a ∧ ItD G H θ p.at_ (Itl X.K a) ∧ ∀ ds M, StoR G H θ M → p.at_ M = some ds → ∃ xs, SqL X.K H a xs := by
  have key : ∃ a, v = .ref a ∧ ∀ (H1 : Hp) (θ1 : Th) (M1 : Sto) (ds : List D), Ext H θ H1 θ1 → StoR G H1 θ1 M1 → p.at_ M1 = some ds → ∃ xs, SqL X.K H1 a xs ∧ (∀ ys, SqL X.K H1 a ys → ∃ zs, SqL X.K H1 a zs ∧ True) ∧ Reps G H1 θ1 xs ds := by
    obtain ⟨a, e⟩ : ∃ a, v = .ref a := by
      cases r <;> first | exact ⟨_, rfl⟩ | cases h
    subst e
    refine ⟨a, rfl, fun H1 θ1 M1 ds E S1 hat => ?_⟩
    have r1 := r.ext E
    have hl : lstOf M1 d = some ds := by
      cases d with
      | tup es => exact absurd rfl (ht es)
      | lst es => cases h; exact hat
      | flst es => cases h; exact hat
      | own n => cases h; exact hat
      | _ => cases h
    obtain ⟨a', xs, ea, hq, rs⟩ := rep_lst S1 r1 hl
    cases ea
    rw [ok.hk] at hq
    exact ⟨xs, hq, fun ys hy => ⟨ys, hy, trivial⟩, rs⟩
  obtain ⟨a, ea, k⟩ := key
  refine ⟨a, ea, ⟨fun H1 θ1 M1 ds i d' E S1 hat hi => ?_, fun H1 θ1 M1 ds i E S1 hat hi => ?_⟩, fun ds M S hat => ?_⟩
  · obtain ⟨xs, hq, _, rs⟩ := k H1 θ1 M1 ds E S1 hat
    obtain ⟨x, h1, h2⟩ := rs.get hi
    refine ⟨⟨xs, x, hq, h1⟩, fun y H2 hy => ?_⟩
    obtain ⟨e2, hy⟩ := hy
    subst e2
    have z := hy xs hq
    rw [h1] at z
    cases z
    exact ⟨θ1, Ext.refl _ _, S1, h2⟩
  · obtain ⟨xs, hq, _, rs⟩ := k H1 θ1 M1 ds E S1 hat
    exact ⟨xs, hq, by rw [rs.length]; exact hi⟩
  · obtain ⟨xs, hq, _⟩ := k H θ M ds (Ext.refl _ _) S hat
    exact ⟨xs, hq⟩
theorem itt_of {H : Hp} {θ : Th} {v : V} {ds : List D} (ok : Okc G X) (r : Rep G H θ v (.tup ds)) : ∃ a, v = .ref a ∧ ItD G H θ (IT.fix ds).at_ (Itt X.K a) ∧ ∃ xs, SqT X.K H a xs := by
  have key : ∃ a, v = .ref a ∧ ∀ (H1 : Hp) (θ1 : Th), Ext H θ H1 θ1 → ∃ xs, SqT X.K H1 a xs ∧ Reps G H1 θ1 xs ds := by
    obtain ⟨a, xs, ea, hq, rs⟩ := rep_tup r
    subst ea
    refine ⟨a, rfl, fun H1 θ1 E => ?_⟩
    obtain ⟨a', xs', ea, hq', rs'⟩ := rep_tup (r.ext E)
    cases ea
    rw [ok.hk] at hq'
    exact ⟨xs', hq', rs'⟩
  obtain ⟨a, ea, k⟩ := key
  refine ⟨a, ea, ⟨fun H1 θ1 M1 ds' i d' E S1 hat hi => ?_, fun H1 θ1 M1 ds' i E S1 hat hi => ?_⟩, ?_⟩
  · cases hat
    obtain ⟨xs, hq, rs⟩ := k H1 θ1 E
    obtain ⟨x, h1, h2⟩ := rs.get hi
    refine ⟨⟨xs, x, hq, h1⟩, fun y H2 hy => ?_⟩
    obtain ⟨e2, hy⟩ := hy
    subst e2
    have z := hy xs hq
    rw [h1] at z
    cases z
    exact ⟨θ1, Ext.refl _ _, S1, h2⟩
  · cases hat
    obtain ⟨xs, hq, rs⟩ := k H1 θ1 E
    exact ⟨xs, hq, by rw [rs.length]; exact hi⟩
  · obtain ⟨xs, hq, rs⟩ := k H θ (Ext.refl _ _)
    exact ⟨xs, hq⟩
/-- a list: of any kind -/
def isTp : D → Bool
  | .tup _ => true
  | _ => false
def kLst (d : D) (M : Sto) : Res IT := if isTp d = true then .bad else match itOf d with
  | none => .bad
  | some p => match p.at_ M with
    | some _ => .ok p M
    | none => .bad
def iLst (f : FE D) : FE IT := fun ρ M => (f ρ M).bind kLst
theorem di_list (h : DE G X e f) : DI G X tg e (iLst f) := fun ok W tk => (pi_list (h ok W tk)).imp fun σ H R q => by
  obtain ⟨ρ, θ, M, S, q⟩ := q
  refine rdE_seq (g := fun d _ M1 => kLst d M1) S q fun d v H1 θ1 M1 S1 E1 r1 q1 => ?_
  unfold kLst at q1
  split at q1
  · exact q1.elim
  · rename_i hd
    cases hp : itOf d with
    | none => rw [hp] at q1; exact q1.elim
    | some p =>
      simp only [hp] at q1
      cases hat : p.at_ M1 with
      | none => rw [hat] at q1; exact q1.elim
      | some ds =>
        rw [hat] at q1
        obtain ⟨a, ea, J, k⟩ := itl_of ok r1 hp (fun ds z => hd (by rw [z]; rfl))
        exact ⟨a, ea, k ds M1 S1.2 hat, q1 H1 θ1 (Ext.refl _ _) S1.2 _ J⟩
def kTpl (d : D) (M : Sto) : Res IT := match d with
  | .tup ds => .ok (IT.fix ds) M
  | _ => .bad
def iTpl (f : FE D) : FE IT := fun ρ M => (f ρ M).bind kTpl
theorem di_tup (h : DE G X e f) : DI G X tg e (iTpl f) := fun ok W tk => (pi_tup (h ok W tk)).imp fun σ H R q => by
  obtain ⟨ρ, θ, M, S, q⟩ := q
  refine rdE_seq (g := fun d _ M1 => kTpl d M1) S q fun d v H1 θ1 M1 S1 E1 r1 q1 => ?_
  cases d with
  | tup ds =>
    obtain ⟨a, ea, J, k⟩ := itt_of ok r1
    exact ⟨a, ea, k, q1 H1 θ1 (Ext.refl _ _) S1.2 _ J⟩
  | _ => exact q1.elim
/-- lo, lo + 1, .. -/
def intUp (lo : Int) : Nat → List D
  | 0 => []
  | n + 1 => .int lo :: intUp (lo + 1) n
theorem intUp_len : ∀ (n : Nat) (lo : Int), (intUp lo n).length = n
  | 0, _ => rfl
  | n + 1, lo => by rw [intUp, List.length_cons, intUp_len n]
theorem intUp_at : ∀ (n : Nat) (lo : Int) (i : Nat) (d : D), (intUp lo n)[i]? = some d → i < n ∧ d = .int (lo + i)
  | 0, _, _, _, h => by simp [intUp] at h
  | n + 1, lo, 0, d, h => by simp [intUp] at h; exact ⟨Nat.succ_pos _, by rw [← h]; simp⟩
  | n + 1, lo, i + 1, d, h => by
    rw [intUp, List.getElem?_cons_succ] at h
    obtain ⟨h1, h2⟩ := intUp_at n (lo + 1) i d h
    exact ⟨Nat.succ_lt_succ h1, by rw [h2]; congr 1; omega⟩
theorem itr_of {H : Hp} {θ : Th} (lo : Int) (n : Nat) : ItD G H θ (IT.fix (intUp lo n)).at_ (Itr lo n) := by
  refine ⟨fun H1 θ1 M1 ds' i d' E S1 hat hi => ?_, fun H1 θ1 M1 ds' i E S1 hat hi => ?_⟩
  · cases hat
    obtain ⟨h1, h2⟩ := intUp_at n lo i d' hi
    refine ⟨h1, fun x H2 hy => ?_⟩
    obtain ⟨e2, hy⟩ := hy
    subst e2; subst hy; subst h2
    exact ⟨θ1, Ext.refl _ _, S1, .int _⟩
  · cases hat
    rw [intUp_len] at hi
    exact hi
def small62 (i : Int) : Bool := decide (-(2 ^ 62) ≤ i) && decide (i < 2 ^ 62)
def kRg1 (ds : List D) (M : Sto) : Res IT := match ds with
  | [.int j] => if small62 j = true then .ok (IT.fix (intUp 0 j.toNat)) M else .bad
  | _ => .bad
def iRg1 (fs : FE (List D)) : FE IT := fun ρ M => (fs ρ M).bind kRg1
theorem di_range1 {p : Pos} (hm : X.mg "range" = none) (ha : DA G X [a] fs) (hg : Gl X "range" := by rfl) (hs : starEach [a] X.env = [(false, eval a X.env)] := by rfl) : DI G X tg (.Call (.Name "range" p) [a] [] pos) (iRg1 fs) := fun ok W tk => (pi_range1 hg hm (ha ok W tk) hs).imp fun σ H R q => by
  obtain ⟨ρ, θ, M, S, q⟩ := q
  refine rdA_seq (g := fun ds _ M1 => kRg1 ds M1) S q fun ds vs H1 θ1 M1 S1 E1 r1 q1 => ?_
  unfold kRg1 at q1
  split at q1
  · rename_i j
    split at q1
    · rename_i hj
      unfold small62 at hj
      rw [Bool.and_eq_true, decide_eq_true_eq, decide_eq_true_eq] at hj
      cases r1 with | cons r1 rs => cases rs; cases rep_int r1; exact ⟨j, rfl, hj.1, hj.2, q1 H1 θ1 (Ext.refl _ _) S1.2 _ (itr_of _ _)⟩
    · exact q1.elim
  · exact q1.elim
def kRg2 (ds : List D) (M : Sto) : Res IT := match ds with
  | [.int i, .int j] => if (small62 i && small62 j) = true then .ok (IT.fix (intUp i (j - i).toNat)) M else .bad
  | _ => .bad
def iRg2 (fs : FE (List D)) : FE IT := fun ρ M => (fs ρ M).bind kRg2
theorem di_range2 {p : Pos} (hm : X.mg "range" = none) (ha : DA G X [a, b] fs) (hg : Gl X "range" := by rfl) (hs : starEach [a, b] X.env = [(false, eval a X.env), (false, eval b X.env)] := by rfl) (hs2 : starEach [b] X.env = [(false, eval b X.env)] := by rfl) : DI G X tg (.Call (.Name "range" p) [a, b] [] pos) (iRg2 fs) := fun ok W tk => (pi_range2 hg hm (ha ok W tk) hs hs2).imp fun σ H R q => by
  obtain ⟨ρ, θ, M, S, q⟩ := q
  refine rdA_seq (g := fun ds _ M1 => kRg2 ds M1) S q fun ds vs H1 θ1 M1 S1 E1 r1 q1 => ?_
  unfold kRg2 at q1
  split at q1
  · rename_i i j
    split at q1
    · rename_i hj
      unfold small62 at hj
      simp only [Bool.and_eq_true, decide_eq_true_eq] at hj
      cases r1 with
      | cons r1 rs =>
        cases rs with
        | cons r2 rs =>
          cases rs
          cases rep_int r1
          cases rep_int r2
          exact ⟨i, j, rfl, ⟨hj.1.1, hj.1.2, hj.2.1, hj.2.2⟩, q1 H1 θ1 (Ext.refl _ _) S1.2 _ (itr_of _ _)⟩
    · exact q1.elim
  · exact q1.elim
/-- a text, letter by letter -/
def chrs (x : Str) : List D := x.cps.toList.map fun c => .str ⟨#[c]⟩
def kStr' (d : D) (M : Sto) : Res IT := match d with
  | .str x => .ok (IT.fix (chrs x)) M
  | _ => .bad
def iStr' (f : FE D) : FE IT := fun ρ M => (f ρ M).bind kStr'
theorem di_str (h : DE G X e f) : DI G X tg e (iStr' f) := fun ok W tk => (pi_str (h ok W tk)).imp fun σ H R q => by
  obtain ⟨ρ, θ, M, S, q⟩ := q
  refine rdE_seq (g := fun d _ M1 => kStr' d M1) S q fun d v H1 θ1 M1 S1 E1 r1 q1 => ?_
  cases d with
  | str x =>
    refine ⟨x, rep_str r1, q1 H1 θ1 (Ext.refl _ _) S1.2 _ ⟨fun H1 θ1 M1 ds' i d' E S1 hat hi => ?_, fun H1 θ1 M1 ds' i E S1 hat hi => ?_⟩⟩
    · cases hat
      unfold chrs at hi
      rw [List.getElem?_map] at hi
      obtain ⟨c, h1, h2⟩ := Option.map_eq_some_iff.mp hi
      subst h2
      have h1' : x.cps[i]? = some c := by rw [← Array.getElem?_toList]; exact h1
      refine ⟨(Array.getElem?_eq_some_iff.mp h1').1, fun y H2 hy => ?_⟩
      obtain ⟨e2, c', h3, h4⟩ := hy
      rw [h1'] at h3
      cases h3
      subst e2; subst h4
      exact ⟨θ1, Ext.refl _ _, S1, .str _⟩
    · cases hat
      unfold chrs at hi
      rw [List.length_map, Array.length_toList] at hi
      exact hi
  | _ => exact q1.elim
/-! ### for -/
/-- behind the body -/
def Out.aft (o : Out) (k : Env → Sto → Out) : Out := match o with
  | .nx ρ M => k ρ M
  | .ct ρ M => k ρ M
  | .bk ρ M => .nx ρ M
  | .rt d M => .rt d M
  | .exc c fs vs ρ M => .exc c fs vs ρ M
  | .bad => .bad
def stp (g : FG) (s : FS) (d : D) (ρ : Env) (M : Sto) (k : Env → Sto → Out) : Out := match g d ρ M with
  | some (ρ1, M1) => (s ρ1 M1).aft k
  | none => .bad
/-- over fixed items -/
def forD (g : FG) (s : FS) : List D → Env → Sto → Out
  | [], ρ, M => .nx ρ M
  | d :: ds, ρ, M => stp g s d ρ M (forD g s ds)
/-- over a changing list, n turns at most -/
def forO (g : FG) (s : FS) (l : Nat) : Nat → Nat → Env → Sto → Out
  | 0, _, _, _ => .bad
  | n + 1, i, ρ, M => match lstOf M (.own l) with
    | some ds => match ds[i]? with
      | some d => stp g s d ρ M (forO g s l n (i + 1))
      | none => .nx ρ M
    | none => .bad
/-- .. with numbers -/
def forE (g : FG) (s : FS) (f : Sto → Option (List D)) : Nat → Nat → Env → Sto → Out
  | 0, _, _, _ => .bad
  | n + 1, i, ρ, M => match f M with
    | some ds => match ds[i]? with
      | some d => stp g s d ρ M (forE g s f n (i + 1))
      | none => .nx ρ M
    | none => .bad
def forI (g : FG) (s : FS) (m : Nat) : IT → Env → Sto → Out
  | .fix ds => forD g s ds
  | .own l => forO g s l m 0
  | .gen f => forE g s f m 0
def sFor (m : Nat) (fi : FE IT) (g : FG) (s : FS) : FS := fun ρ M => (fi ρ M).thn ρ fun p M1 => forI g s m p ρ M1
/-- the turns -/
theorem turns {W : WX} {D0 : Ends} {g : FG} {s : FS} {σ : L2.St} {H : Hp} {θ : Th} {ρ : Env} {M : Sto} {at_ : Sto → Option (List D)} {J : It} (loop : Nat → Nat → Env → Sto → Out) (m : Nat) (JD : ItD G H θ at_ J) (S : StR G σ H ρ θ M)
    (hl : ∀ m i ρ M, loop m i ρ M = .bad ∨ ∃ ds, at_ M = some ds ∧ ((ds.length ≤ i ∧ loop m i ρ M = .nx ρ M) ∨ ∃ d m', ds[i]? = some d ∧ m' < m ∧ loop m i ρ M = stp g s d ρ M (loop m' (i + 1))))
    (h : postS G W D0 H θ (loop m 0 ρ M)) : ∃ Wv : Nat → Nat → L2.St → Hp → Prop, (∃ m, Wv 0 m σ H) ∧ ∀ i m σ H, Wv i m σ H →
      (J.stop i H ∧ D0.nx σ H) ∨ (J.go i H ∧ ∃ N : L2.St → Hp → Prop, (∀ σ' H', N σ' H' → ∃ m', m' < m ∧ Wv (i + 1) m' σ' H') ∧ ∀ x H', J.yld i H x H' → rdG G g x σ H' fun σ2 H2 => rdS G W s { D0 with nx := N, ct := N, bk := D0.nx } σ2 H2) := by
  refine ⟨fun i m σ1 H1 => ∃ ρ1 θ1 M1, StR G σ1 H1 ρ1 θ1 M1 ∧ Ext H θ H1 θ1 ∧ postS G W D0 H1 θ1 (loop m i ρ1 M1), ⟨m, ρ, θ, M, S, Ext.refl _ _, h⟩, fun i m σ1 H1 hw => ?_⟩
  obtain ⟨ρ1, θ1, M1, S1, E1, q1⟩ := hw
  rcases hl m i ρ1 M1 with hb | ⟨ds, hat, hs | ⟨d, m', hi, hm, hs⟩⟩
  · rw [hb] at q1
    exact q1.elim
  · rw [hs.2] at q1
    exact .inl ⟨JD.stop H1 θ1 M1 ds i E1 S1.2 hat hs.1, q1 σ1 H1 θ1 (Ext.refl _ _) S1⟩
  · obtain ⟨hgo, hy⟩ := JD.go H1 θ1 M1 ds i d E1 S1.2 hat hi
    rw [hs] at q1
    refine .inr ⟨hgo, fun σ2 H2 => ∃ ρ2 θ2 M2, StR G σ2 H2 ρ2 θ2 M2 ∧ Ext H θ H2 θ2 ∧ postS G W D0 H2 θ2 (loop m' (i + 1) ρ2 M2), fun σ' H' hn => ⟨m', hm, hn⟩, fun x H' y => ?_⟩
    obtain ⟨θ2, E2, S2, r⟩ := hy x H' y
    unfold stp at q1
    split at q1
    · rename_i ρ2 M2 eg
      refine ⟨ρ1, θ2, M1, d, ρ2, M2, ⟨S1.1.ext E2, S2⟩, r, eg, fun σ3 H3 θ3 E3 S3 => ⟨ρ2, θ3, M2, S3, ?_⟩⟩
      have q2 := postS.base q1 (E2.trans E3)
      cases eo : s ρ2 M2 with
      | nx ρ4 M4 => rw [eo] at q2; exact fun σ4 H4 θ4 E4 S4 => ⟨ρ4, θ4, M4, S4, ((E1.trans E2).trans E3).trans E4, postS.base q2 E4⟩
      | ct ρ4 M4 => rw [eo] at q2; exact fun σ4 H4 θ4 E4 S4 => ⟨ρ4, θ4, M4, S4, ((E1.trans E2).trans E3).trans E4, postS.base q2 E4⟩
      | bk ρ4 M4 => rw [eo] at q2; exact q2
      | rt d4 M4 => rw [eo] at q2; exact q2
      | exc c4 f4 v4 ρ4 M4 => rw [eo] at q2; exact q2
      | bad => rw [eo] at q2; exact q2.elim
    · exact q1.elim
theorem ds_for {body : List Stmt} {fi : FE IT} {g : FG} {s : FS} (m : Nat) (hi : DI G X tg e fi) (hg : DG G X tg g) (hb : DSs G X body s) (hs : ∀ x, foldedSetIterable e X.env x = pure x := by intro _; rfl) : DS G X (.For tg e body [] pos) (sFor m fi g s) := fun ok po W tk => by
  refine (ps_for po ok.calm (hi ok W tk) (hg ok) (hb ok po W tk) hs).imp fun D0 σ H h => ?_
  obtain ⟨ρ, θ, M, S, q⟩ := h
  refine ⟨ρ, θ, M, S, postS.seq (g := fun p M1 => forI g s m p ρ M1) S.1 q fun p M1 H1 θ1 E S1 q1 J JD => ?_⟩
  cases p with
  | fix ds =>
    refine turns (fun m i ρ M => if m + i = ds.length then forD g s (ds.drop i) ρ M else .bad) ds.length JD ⟨S.1.ext E, S1⟩ (fun m i ρ2 M2 => ?_) ?_
    · by_cases hm : m + i = ds.length
      · refine .inr ⟨ds, rfl, ?_⟩
        show (_ ∧ (if m + i = ds.length then forD g s (ds.drop i) ρ2 M2 else .bad) = _) ∨ ∃ d m', _ ∧ _ ∧ (if m + i = ds.length then forD g s (ds.drop i) ρ2 M2 else .bad) = _
        rw [if_pos hm]
        by_cases hlt : i < ds.length
        · obtain ⟨m', rfl⟩ : ∃ m', m = m' + 1 := ⟨m - 1, by omega⟩
          refine .inr ⟨ds[i], m', List.getElem?_eq_getElem hlt, Nat.lt_succ_self _, ?_⟩
          rw [List.drop_eq_getElem_cons hlt]
          show stp g s ds[i] ρ2 M2 (forD g s (ds.drop (i + 1))) = _
          congr 1
          funext ρ3 M3
          show _ = if m' + (i + 1) = ds.length then _ else _
          rw [if_pos (by omega)]
        · refine .inl ⟨by omega, ?_⟩
          rw [List.drop_eq_nil_of_le (by omega)]
          rfl
      · left
        exact if_neg hm
    · show postS G W D0 H1 θ1 (if ds.length + 0 = ds.length then forD g s (ds.drop 0) ρ M1 else .bad)
      rw [if_pos (Nat.add_zero _), List.drop_zero]
      exact q1
  | own l =>
    refine turns (fun m i => forO g s l m i) m JD ⟨S.1.ext E, S1⟩ (fun m i ρ2 M2 => ?_) q1
    cases m with
    | zero => exact .inl rfl
    | succ m =>
      cases hat : lstOf M2 (.own l) with
      | none => exact .inl (by show forO g s l (m + 1) i ρ2 M2 = Out.bad; rw [forO, hat])
      | some ds =>
        refine .inr ⟨ds, hat, ?_⟩
        cases hi : ds[i]? with
        | none => exact .inl ⟨by simpa using hi, by show forO g s l (m + 1) i ρ2 M2 = _; rw [forO, hat]; simp [hi]⟩
        | some d => exact .inr ⟨d, m, rfl, Nat.lt_succ_self _, by show forO g s l (m + 1) i ρ2 M2 = _; rw [forO, hat]; simp [hi]⟩
  | gen l =>
    refine turns (fun m i => forE g s l m i) m JD ⟨S.1.ext E, S1⟩ (fun m i ρ2 M2 => ?_) q1
    cases m with
    | zero => exact .inl rfl
    | succ m =>
      cases hat : l M2 with
      | none => exact .inl (by show forE g s l (m + 1) i ρ2 M2 = Out.bad; rw [forE, hat])
      | some ds =>
        refine .inr ⟨ds, hat, ?_⟩
        cases hi : ds[i]? with
        | none => exact .inl ⟨by simpa using hi, by show forE g s l (m + 1) i ρ2 M2 = _; rw [forE, hat]; simp [hi]⟩
        | some d => exact .inr ⟨d, m, rfl, Nat.lt_succ_self _, by show forE g s l (m + 1) i ρ2 M2 = _; rw [forE, hat]; simp [hi]⟩
/-! ### while -/
def whD (t : FE Bool) (s : FS) : Nat → Env → Sto → Out
  | 0, _, _ => .bad
  | n + 1, ρ, M => (t ρ M).thn ρ fun c M1 => if c = true then (s ρ M1).aft (whD t s n) else .nx ρ M1
def sWh (n : Nat) (t : FE Bool) (s : FS) : FS := whD t s n
/-- n: by the state at the entry -/
def sWhB (n : Env → Sto → Nat) (t : FE Bool) (s : FS) : FS := fun ρ M => whD t s (n ρ M) ρ M
theorem ds_while {body : List Stmt} {s : FS} (n : Env → Sto → Nat) (hc : DT G X c ft) (hb : DSs G X body s) : DS G X (.While c body [] pos) (sWhB n ft s) := fun ok po W tk => by
  refine (ps_while po (hc ok W tk) (hb ok po W tk)).imp fun D0 σ H h => ?_
  obtain ⟨ρ, θ, M, S, q⟩ := h
  refine ⟨fun m σ1 H1 => ∃ ρ1 θ1 M1, StR G σ1 H1 ρ1 θ1 M1 ∧ postS G W D0 H1 θ1 (whD ft s m ρ1 M1), ⟨n ρ M, ρ, θ, M, S, q⟩, fun m σ1 H1 hw => ?_⟩
  obtain ⟨ρ1, θ1, M1, S1, q1⟩ := hw
  cases m with
  | zero => exact q1.elim
  | succ m =>
    refine ⟨ρ1, θ1, M1, S1, postS.seq (g := fun c M1 => if c = true then (s ρ1 M1).aft (whD ft s m) else .nx ρ1 M1) S1.1 q1 fun c M2 H2 θ2 E2 S2 q2 => ?_⟩
    cases c with
    | false => exact iteF (q2 σ1 H2 θ2 (Ext.refl _ _) ⟨S1.1.ext E2, S2⟩)
    | true =>
      refine iteT ⟨fun σ3 H3 => ∃ ρ3 θ3 M3, StR G σ3 H3 ρ3 θ3 M3 ∧ postS G W D0 H3 θ3 (whD ft s m ρ3 M3), fun σ' H' hn => ⟨m, Nat.lt_succ_self _, hn⟩, ρ1, θ2, M2, ⟨S1.1.ext E2, S2⟩, ?_⟩
      have q2 : postS G W D0 H2 θ2 ((s ρ1 M2).aft (whD ft s m)) := q2
      cases eo : s ρ1 M2 with
      | nx ρ4 M4 => rw [eo] at q2; exact fun σ4 H4 θ4 E4 S4 => ⟨ρ4, θ4, M4, S4, postS.base q2 E4⟩
      | ct ρ4 M4 => rw [eo] at q2; exact fun σ4 H4 θ4 E4 S4 => ⟨ρ4, θ4, M4, S4, postS.base q2 E4⟩
      | bk ρ4 M4 => rw [eo] at q2; exact q2
      | rt d4 M4 => rw [eo] at q2; exact q2
      | exc c4 f4 v4 ρ4 M4 => rw [eo] at q2; exact q2
      | bad => rw [eo] at q2; exact q2.elim
end
end DL
set_option maxHeartbeats 4000000
namespace DL
open PySem PySem.Spec PyProof.Rows L2
/-! ### the promise of a def, by data -/
def postF (G : Cfg) (H : Hp) (θ : Th) (Q : VK) (E : XK) : Res D → Prop
  | .ok d M => ∀ v H' θ', Ext H θ H' θ' → StoR G H' θ' M → Rep G H' θ' v d → Q v H'
  | .exc c fs vs M => ∀ cls dd H' θ', Ext H θ H' θ' → StoR G H' θ' M → ExcR G H' θ' cls dd c fs vs → E cls dd H'
  | .bad => False
def spD (G : Cfg) (n : Nat) (F : List D → Sto → Res D) : Sp := fun vs H Q E => ∃ ds θ M, vs.length = n ∧ StoR G H θ M ∧ Reps G H θ vs ds ∧ postF G H θ Q E (F ds M)
/-- what a def comes to, from its body: n names -/
def fnD (n : Nat) (g : FS) (ds : List D) (M : Sto) : Res D := match g (ds.map some ++ List.replicate (n - ds.length) none) M with
  | .nx _ M' => .ok .non M'
  | .rt d M' => .ok d M'
  | .exc c fs vs _ M' => .exc c fs vs M'
  | _ => .bad
theorem start_rep {G : Cfg} {H : Hp} {θ : Th} {N : List Str} {vs : List V} {ds : List D} (r : Reps G H θ vs ds) : EnvR G H θ (L2.start N vs) (ds.map some ++ List.replicate (N.length - ds.length) none) := by
  unfold L2.start
  refine ⟨by simp [r.length], fun i d h => ?_⟩
  by_cases hi : i < ds.length
  · rw [List.getElem?_append_left (by simpa using hi), List.getElem?_map] at h
    obtain ⟨d', h1, h2⟩ := Option.map_eq_some_iff.mp h
    cases h2
    obtain ⟨v, h3, h4⟩ := r.get h1
    have hv : i < vs.length := by rw [r.length]; exact hi
    exact ⟨v, by rw [List.getElem?_append_left (by simpa using hv), List.getElem?_map, h3]; rfl, h4⟩
  · rw [List.getElem?_append_right (by simpa using hi), List.getElem?_replicate] at h
    split at h <;> cases h
section
variable {P : Program} {w : World} {K : PySem.W.Frag} {mg : Str → Option Value} {base : Heap} {G : Cfg}
abbrev cxD (P : Program) (w : World) (K : PySem.W.Frag) (mg : Str → Option Value) (base : Heap) (N : List Str) (qual : Str) (sc : Scope) (f : Addr) (cdv : Value) (A : Around) (outer : List PySem.Env) (s : Shared) (H : Hp) (E : XK) : Cx := cxOf (L2.CX P w) P w K mg base N qual sc f cdv A outer s H E
theorem body_data {k : Nat} {N : List Str} {qual : Str} {sc : Scope} {f : Addr} {cdv : Value} {A : Around} {outer : List PySem.Env} {s : Shared} {H : Hp} {E : XK} {g : FS} {body : List Stmt} {vs : List V} {Q : VK} (hG : G.K = K) (hr : Room k (A.deeper (envOfC qual sc s.heap.objs.size f cdv)))
    (hb : DSs G (cxD P w K mg base N qual sc f cdv A outer s H E) body g) {n : Nat} (h : spD G n (fnD N.length g) vs H Q E) :
    ∃ t, PSs (cxD P w K mg base N qual sc f cdv A outer s H E) body t ∧ t { nx := fun _ H' => Q .non H', rt := Q } (L2.start N vs) H := by
  obtain ⟨ds, θ, M, hl, S, r, q⟩ := h
  refine ⟨_, hb ⟨hG, rfl, (by have := hr.un; show (A.deeper (envOfC qual sc s.heap.objs.size f cdv)).units + 100 < cLine; omega)⟩ (passes_of rfl) _ (takes_of rfl rfl rfl rfl), _, θ, M, ⟨start_rep r, S⟩, ?_⟩
  unfold fnD at q
  cases e : g (ds.map some ++ List.replicate (N.length - ds.length) none) M with
  | nx ρ M' => rw [e] at q; exact fun σ' H' θ' E' S' => q _ H' θ' E' S'.2 .non
  | rt d M' => rw [e] at q; exact fun v H' θ' E' S' r' => q v H' θ' E' S' r'
  | exc c fs us ρ M' => rw [e] at q; exact fun cls dd σ' H' θ' E' S' x => q cls dd H' θ' E' S'.2 x
  | bk ρ M' => rw [e] at q; exact q.elim
  | ct ρ M' => rw [e] at q; exact q.elim
  | bad => rw [e] at q; exact q.elim
/-- THE RULE for a def -/
theorem fn_data {x qual : Str} {st : Stmt} {f : Addr} {fd : FuncData} {N ps : List Str} {k : Nat} {g : FS} (F : Fun K x qual st f fd) (S : FnScope N ps (defScope st)) (hG : G.K = K)
    (hb : ∀ (cdv : Value) (A : Around) (outer : List PySem.Env) (s : Shared) (H : Hp) (E : XK), Room k (A.deeper (envOfC qual (defScope st) s.heap.objs.size f cdv)) → DSs G (cxD P w K mg base N qual (defScope st) f cdv A outer s H E) (defBody st) g) :
    FnOk P w K mg base (L2.CX P w) (k + 1) f fd ps (spD G ps.length (fnD N.length g)) := F.okX S (fun vs H Q E h => h.choose_spec.choose_spec.choose_spec.1) fun cdv A outer s H vs Q E hr h => body_data hG hr (hb cdv A outer s H E hr) h
/-- a def whose code object is at c (it makes lambdas) -/
theorem fn_dataC {name qual : Str} {params : Arguments} {body : List Stmt} {scope : Scope} {dV kV doc pm ct oc cdv : Value} {an od : Option Addr} {osl : Array (Option Value)} {f : Addr} {N ps : List Str} {k : Nat} {g : FS}
    (lk : K.lookup f = some ⟨oc, od, .func (PySem.W.fnOf name qual params body scope dV kV doc pm an cdv ct), osl⟩) (hcd : PySem.W.codeIn K cdv qual = true) (S : FnScope N ps scope) (hG : G.K = K)
    (hb : ∀ (A : Around) (outer : List PySem.Env) (s : Shared) (H : Hp) (E : XK), Room k (A.deeper (envOfC qual scope s.heap.objs.size f cdv)) → DSs G (cxD P w K mg base N qual scope f cdv A outer s H E) body g) :
    FnOk P w K mg base (L2.CX P w) (k + 1) f (PySem.W.fnOf name qual params body scope dV kV doc pm an cdv ct) ps (spD G ps.length (fnD N.length g)) :=
  fn_of lk hcd S (fun vs H Q E h => h.choose_spec.choose_spec.choose_spec.1) fun A outer s H vs Q E hr h => body_data hG hr (hb A outer s H E hr) h
/-- a def that may be called -/
structure Own (G : Cfg) (P : Program) (w : World) (mg : Str → Option Value) (base : Heap) (k : Nat) (x : Str) (f : Addr) (fd : FuncData) (ps : List Str) (F : List D → Sto → Res D) : Prop where
  ok : FnOk P w G.K mg base (L2.CX P w) k f fd ps (spD G ps.length F)
  mgf : mg x = some (.ref f)
  kp : PySem.W.keepIn G.K (.ref f) = true
  b : Binds G.K fd ps []
end
section
variable {G : Cfg} {X : Cx} {e : Expr} {es : List Expr} {fs : FE (List D)} {pos p : Pos} {x : Str} {f : Addr} {fd : FuncData} {ps : List Str} {F : List D → Sto → Res D} {j k : Nat}
def dCallF (F : List D → Sto → Res D) (fs : FE (List D)) : FE D := fun ρ M => (fs ρ M).bind F
theorem callF_post {W : WX} {σ : L2.St} {H : Hp} {θ : Th} {r : Res D} {Q : VK} (q : postR G W σ H θ (fun H' θ' _ d => ∀ v, Rep G H' θ' v d → Q v H') r) : postF G H θ Q (WE W σ) r := by
  cases r with
  | ok d M => exact fun v H' θ' E S r => q H' θ' E S v r
  | exc c fs vs M => exact q
  | bad => exact q
theorem de_call (Fo : Own G X.prog X.w X.mg X.base j x f fd ps F) (hr : Room k X.A) (hj : j ≤ k) (ha : DA G X (e :: es) fs) (hn : (e :: es).length = ps.length := by rfl) (hg : Gl X x := by rfl) (hdb : (x == ("__debug__" : Str)) = false := by decide)
    (he : starEach (e :: es) X.env = (false, eval e X.env) :: starEach es X.env := by rfl) (hpl : (backTo pos (starEach es X.env)).any (·.1) = false := by rfl) (hlen : ∀ ρ M ds M', fs ρ M = .ok ds M' → ds.length = (e :: es).length := by intros; assumption) :
    DE G X (.Call (.Name x p) (e :: es) [] pos) (dCallF F fs) := fun ok W tk => by
  have FO := Fo.ok
  have kp := Fo.kp
  have b := Fo.b
  rw [ok.hk] at FO kp b
  refine (pe_callS FO (hr.mono hj) hg Fo.mgf kp b (fun σ => passAt tk σ) (ha ok W tk) hdb he hpl).imp fun σ H Q h => ?_
  obtain ⟨ρ, θ, M, S, q⟩ := h
  refine ⟨ρ, θ, M, S, ?_⟩
  cases e1 : fs ρ M with
  | ok ds M1 =>
    have q : postR G W σ H θ (fun H' θ' _ d => ∀ v, Rep G H' θ' v d → Q v H') ((fs ρ M).bind F) := q
    rw [e1] at q
    intro H1 θ1 E1 S1 vs r1
    exact ⟨ds, θ1, M1, by rw [r1.length, hlen ρ M ds M1 e1, hn], S1, r1, callF_post (postR.base q E1)⟩
  | exc c fs' vs M1 =>
    have q : postR G W σ H θ (fun H' θ' _ d => ∀ v, Rep G H' θ' v d → Q v H') ((fs ρ M).bind F) := q
    rw [e1] at q
    exact q
  | bad =>
    have q : postR G W σ H θ (fun H' θ' _ d => ∀ v, Rep G H' θ' v d → Q v H') ((fs ρ M).bind F) := q
    rw [e1] at q
    exact q
theorem len_nil : ∀ ρ M ds M', dNil ρ M = .ok ds M' → ds.length = 0 := fun ρ M ds M' h => by cases h; rfl
theorem len_cons {n : Nat} {fa : FE D} {fr : FE (List D)} (h : ∀ ρ M ds M', fr ρ M = .ok ds M' → ds.length = n) : ∀ ρ M ds M', dCons fa fr ρ M = .ok ds M' → ds.length = n + 1 := fun ρ M ds M' e => by
  unfold dCons at e
  cases e1 : fa ρ M with
  | ok x M1 =>
    rw [e1] at e
    have e : (fr ρ M1).bind (fun xs M2 => .ok (x :: xs) M2) = .ok ds M' := e
    cases e2 : fr ρ M1 with
    | ok xs M3 => rw [e2] at e; cases e; rw [List.length_cons, h ρ M1 xs _ e2]
    | exc c f v M2 => rw [e2] at e; cases e
    | bad => rw [e2] at e; cases e
  | exc c f v M1 => rw [e1] at e; cases e
  | bad => rw [e1] at e; cases e
end
/-! ### keywords -/
/-- the values in the parameters' order -/
def gath {α : Type} (n m : Nat) (ix : List Nat) (us ws : List α) : List α := if us.length = n ∧ ws.length = m then ix.filterMap ((us ++ ws)[·]?) else []
theorem gath_vals {n m : Nat} : ∀ {ix : List Nat} {vs zs : List V} {us ws : List Value}, Vals vs us → Vals zs ws → Vals (gath n m ix vs zs) (gath n m ix us ws) := fun {ix vs zs us ws} h1 h2 => by
  unfold gath
  rw [h1.length, h2.length]
  split
  · have h := h1.append h2
    induction ix with
    | nil => exact .nil
    | cons i ix ih =>
      rw [List.filterMap_cons, List.filterMap_cons]
      cases e : (vs ++ zs)[i]? with
      | none => rw [h.none_of e]; exact ih
      | some v =>
        obtain ⟨u, e2, r⟩ := h.get e
        rw [e2]
        exact .cons r ih
  · exact .nil
theorem gath_reps {G : Cfg} {H : Hp} {θ : Th} {n m : Nat} : ∀ {ix : List Nat} {vs zs : List V} {us ws : List D}, Reps G H θ vs us → Reps G H θ zs ws → Reps G H θ (gath n m ix vs zs) (gath n m ix us ws) := fun {ix vs zs us ws} h1 h2 => by
  unfold gath
  rw [h1.length, h2.length]
  split
  · have h := h1.append h2
    induction ix with
    | nil => exact .nil
    | cons i ix ih =>
      rw [List.filterMap_cons, List.filterMap_cons]
      cases e : (us ++ ws)[i]? with
      | none =>
        have e' : (vs ++ zs)[i]? = none := by
          rw [List.getElem?_eq_none_iff] at e ⊢
          rw [h.length]
          exact e
        rw [e']
        exact ih
      | some v =>
        obtain ⟨u, e2, r⟩ := h.get e
        rw [e2]
        exact .cons r ih
  · exact .nil
theorem fun_kb {K : PySem.W.Frag} {x qual : Str} {st : Stmt} {f : Addr} {fd : FuncData} {ps ks : List Str} {n m : Nat} {ix : List Nat} (F : Fun K x qual st f fd) (hp : 0 < ps.length)
    (h : ∀ (kV doc pm : Value) (an : Option Addr) (cdv ct : Value) (us ws : List Value), us.length = n → ws.length = m → bindArgs (PySem.W.fnOf x qual (defArgs st) (defBody st) (defScope st) .none kV doc pm an cdv ct) ⟨us, ks.zip ws⟩ = pure (ps.zip (gath n m ix us ws))) :
    KBinds K fd ps ks (gath n m ix) (gath n m ix) := by
  obtain ⟨oc, od, kV, doc, pm, an, cdv, ct, osl, rfl, lk, hcd⟩ := F.ex
  refine ⟨fun s us ws _ hl => .of_eq ?_, gath_vals⟩
  by_cases hc : us.length = n ∧ ws.length = m
  · exact h kV doc pm an cdv ct us ws hc.1 hc.2
  · exfalso
    unfold gath at hl
    rw [if_neg hc] at hl
    rw [← hl] at hp
    exact Nat.lt_irrefl _ hp
section
variable {G : Cfg} {X : Cx} {e : Expr} {es : List Expr} {fs fk : FE (List D)} {pos p : Pos} {x : Str} {f : Addr} {fd : FuncData} {ps ks : List Str} {F : List D → Sto → Res D} {j k n m : Nat} {ix : List Nat} {kws : List Keyword}
def DK (G : Cfg) (X : Cx) (kws : List Keyword) (f : FE (List D)) : Prop := Okc G X → ∀ W, Takes X W → PK X kws (rdA G W f)
theorem PK.imp' {t t' : TA} (h : PK X kws t) (k : ∀ σ H Q, t' σ H Q → t σ H Q) : PK X kws t' := ⟨fun pos pins s σ H Q I q => h.run pos pins s σ H Q I (k σ H Q q)⟩
theorem dk_nil : DK G X [] dNil := fun ok W tk => PK.imp' pk_nil fun σ H Q h => by
  obtain ⟨ρ, θ, M, S, q⟩ := h
  exact q H θ (Ext.refl _ _) S.2 _ .nil
theorem dk_cons {nm : Option Str} {kp : Pos} {fa : FE D} {fr : FE (List D)} (ha : DE G X e fa) (hr : DK G X kws fr) : DK G X (⟨nm, e, kp⟩ :: kws) (dCons fa fr) := fun ok W tk => by
  refine PK.imp' (pk_cons (ha ok W tk) (hr ok W tk)) fun σ H Q h => ?_
  obtain ⟨ρ, θ, M, S, q⟩ := h
  refine rdE_seq (g := fun x ρ M1 => (fr ρ M1).bind fun xs M2 => .ok (x :: xs) M2) S q fun x v H1 θ1 M1 S1 E1 r1 q1 => ?_
  exact rdA_seq (g := fun xs _ M2 => .ok (x :: xs) M2) S1 q1 fun xs vs H2 θ2 M2 S2 E2 r2 q2 => q2 H2 θ2 (Ext.refl _ _) S2.2 _ (.cons (r1.ext E2) r2)
def dCallK (F : List D → Sto → Res D) (n m : Nat) (ix : List Nat) (fs fk : FE (List D)) : FE D := fun ρ M => (fs ρ M).bind fun ds M1 => (fk ρ M1).bind fun es M2 => F (gath n m ix ds es) M2
theorem run_K {pins : List (Addr × Obj)} {σ : L2.St} {H : Hp} {s : Shared} {Q : VK} {us ws : List Value} {vs zs : List V} {sp : Sp} {g : List Value → List Value → List Value} {gV : List V → List V → List V} {E : XK} (FO : FnOk X.prog X.w X.K X.mg X.base (L2.CX X.prog X.w) k f fd ps sp) (hr : Room k X.A) (hb : KBinds X.K fd ps ks g gV)
    (hx : PassesAt (L2.CX X.prog X.w) X σ E) (I : Inv X pins σ H s) (r : Vals vs us) (rz : Vals zs ws) (h : sp (gV vs zs) H Q E) : wpAny (model X.prog X.w) X.A (call (.ref f) us (ks.zip ws)) (EP X pins σ Q) X.xe s := by
  have r2 := hb.rel r rz
  have hl : (g us ws).length = ps.length := r2.length.symm.trans (FO.len _ _ _ _ h)
  have run := FO.run X.A X.stack s H ⟨us, ks.zip ws⟩ (g us ws) (gV vs zs) Q E hr I.env0 (hb.to s us ws I.kIn hl) r2 h
  exact wpAny_call (codeAny_mono run fun res s' hq => match res, hq with
    | .error e, hq => hx pins H s e s' I hq
    | .ok (.ret u), hq => I.after hq
    | .ok .next, hq => False.elim hq
    | .ok .brk, hq => False.elim hq
    | .ok .cont, hq => False.elim hq)
theorem de_callK0 (Fo : Own G X.prog X.w X.mg X.base j x f fd ps F) (hb : KBinds G.K fd ps ks (gath 0 m ix) (gath 0 m ix)) (hr : Room k X.A) (hj : j ≤ k) (hkw : DK G X kws fk) (hn : ∀ (ds : List D), ds.length = m → (gath 0 m ix [] ds).length = ps.length)
    (hlen : ∀ ρ M ds M', fk ρ M = .ok ds M' → ds.length = m) (hg : Gl X x := by rfl) (hdb : (x == ("__debug__" : Str)) = false := by decide) (hall : (backToKw pos (keywordEach kws X.env)).all (·.1.isSome) = true := by rfl) (hks : (backToKw pos (keywordEach kws X.env)).filterMap (·.1) = ks := by rfl)
    (hpl : ((backTo pos (starEach [] X.env)).any (·.1) || (backToKw pos (keywordEach kws X.env)).any (·.1.isNone)) = false := by rfl) :
    DE G X (.Call (.Name x p) [] kws pos) (dCallK F 0 m ix dNil fk) := fun ok W tk => ⟨fun pins s σ H Q I h => by
  have FO := Fo.ok
  have kp := Fo.kp
  rw [ok.hk] at FO kp hb
  refine wpAny_Call_Name_kw (ld_glob I hg Fo.mgf ?_ hdb)
  refine PySem.W.callWith_KW0 (h₀ := X.base) I.ok.mod.kin kp hall ?_ hpl
  obtain ⟨ρ, θ, M, S, q⟩ := h
  have q : postR G W σ H θ (fun H' θ' _ d => ∀ v, Rep G H' θ' v d → Q v H') ((fk ρ M).bind fun es M2 => F (gath 0 m ix [] es) M2) := q
  refine thn ((hkw ok W tk).run pos pins s σ H (fun vs H1 => spD G ps.length F (gath 0 m ix [] vs) H1 Q (WE W σ)) I ⟨ρ, θ, M, S, ?_⟩) fun ws s2 ⟨zs, H2, I2, rz, q2⟩ => ⟨I2.kIn, ?_⟩
  · cases e1 : fk ρ M with
    | ok ds M1 =>
      rw [e1] at q
      intro H1 θ1 E1 S1 vs r1
      have rr : Reps G H1 θ1 (gath 0 m ix [] vs) (gath 0 m ix [] ds) := gath_reps .nil r1
      exact ⟨_, θ1, M1, by rw [rr.length, hn ds (hlen ρ M ds M1 e1)], S1, rr, callF_post (postR.base q E1)⟩
    | exc c f' v' M1 => rw [e1] at q; exact q
    | bad => rw [e1] at q; exact q
  · rw [hks]
    exact run_K FO (hr.mono hj) hb (passAt tk σ) I2 .nil rz q2⟩
theorem de_callKw (Fo : Own G X.prog X.w X.mg X.base j x f fd ps F) (hb : KBinds G.K fd ps ks (gath n m ix) (gath n m ix)) (hr : Room k X.A) (hj : j ≤ k) (ha : DA G X (e :: es) fs) (hkw : DK G X kws fk) (hn : ∀ (us ds : List D), us.length = n → ds.length = m → (gath n m ix us ds).length = ps.length)
    (hlen0 : ∀ ρ M ds M', fs ρ M = .ok ds M' → ds.length = n) (hlen : ∀ ρ M ds M', fk ρ M = .ok ds M' → ds.length = m) (hg : Gl X x := by rfl) (hdb : (x == ("__debug__" : Str)) = false := by decide) (hall : (backToKw pos (keywordEach kws X.env)).all (·.1.isSome) = true := by rfl)
    (hks : (backToKw pos (keywordEach kws X.env)).filterMap (·.1) = ks := by rfl) (he : starEach (e :: es) X.env = (false, eval e X.env) :: starEach es X.env := by rfl)
    (hpl : ((backTo pos (starEach (e :: es) X.env)).any (·.1) || (backToKw pos (keywordEach kws X.env)).any (·.1.isNone)) = false := by rfl) :
    DE G X (.Call (.Name x p) (e :: es) kws pos) (dCallK F n m ix fs fk) := fun ok W tk => ⟨fun pins s σ H Q I h => by
  have FO := Fo.ok
  have kp := Fo.kp
  rw [ok.hk] at FO kp hb
  refine wpAny_Call_Name_kw (ld_glob I hg Fo.mgf ?_ hdb)
  obtain ⟨ρ, θ, M, S, q⟩ := h
  have I0 := I
  refine PySem.W.callWith_KW (h₀ := X.base) I.ok.mod.kin kp hall (thn ((ha ok W tk).run pos pins s σ H (fun vs H1 => rdA G W fk σ H1 fun zs H2 => spD G ps.length F (gath n m ix vs zs) H2 Q (WE W σ)) I ⟨ρ, θ, M, S, ?_⟩) fun us s1 ⟨vs, H1, I1, r, q1⟩ => ?_) hpl he
  · have q : postR G W σ H θ (fun H' θ' _ d => ∀ v, Rep G H' θ' v d → Q v H') ((fs ρ M).bind fun ds M1 => (fk ρ M1).bind fun es M2 => F (gath n m ix ds es) M2) := q
    cases e0 : fs ρ M with
    | ok us M1 =>
      rw [e0] at q
      intro H1 θ1 E1 S1 vs r1
      refine ⟨ρ, θ1, M1, S.ext E1 S1, ?_⟩
      have q1 := postR.base (show postR G W σ H θ (fun H' θ' _ d => ∀ v, Rep G H' θ' v d → Q v H') ((fk ρ M1).bind fun es M2 => F (gath n m ix us es) M2) from q) E1
      cases e1 : fk ρ M1 with
      | ok ds M2 =>
        rw [e1] at q1
        intro H2 θ2 E2 S2 zs r2
        have rr : Reps G H2 θ2 (gath n m ix vs zs) (gath n m ix us ds) := gath_reps (r1.ext E2) r2
        exact ⟨_, θ2, M2, by rw [rr.length, hn us ds (hlen0 ρ M us M1 e0) (hlen ρ M1 ds M2 e1)], S2, rr, callF_post (postR.base q1 E2)⟩
      | exc c f' v' M1 => rw [e1] at q1; exact q1
      | bad => rw [e1] at q1; exact q1
    | exc c f' v' M1 => rw [e0] at q; exact q
    | bad => rw [e0] at q; exact q
  · refine thn ((hkw ok W tk).run pos pins s1 σ H1 _ I1 q1) fun ws s2 ⟨zs, H2, I2, rz, q2⟩ => ⟨I2.kIn, ?_⟩
    rw [hks]
    exact run_K FO (hr.mono hj) hb (passAt tk σ) I2 r rz q2⟩
end
/-! ### raise X('text'), an own class without __init__ -/
/-- an own exception class, the c-th of G -/
structure Exd (G : Cfg) (mg : Str → Option Value) (x : Str) (c : Nat) (C : Addr) : Prop where
  at_ : G.exs[c]? = some C
  q : ∃ (B newId initId : String) (bmB : List Value), ExcBaseFacts B newId initId bmB ∧ PySem.W.excIn G.K C bmB newId = true
  gC : mg x = some (.ref C)
  kC : PySem.W.keepIn G.K (.ref C) = true
  s1 : PySem.W.subIn G.K (.ref C) (.type "BaseException") = some true
  s2 : PySem.W.typeIn G.K (.ref C) = some (.type "type")
section
variable {G : Cfg} {X : Cx} {x m : Str} {c j : Nat} {C : Addr} {p p2 pos pos2 : Pos}
def sRaise (c : Nat) : FS := fun ρ M => .exc c [] [] ρ M
theorem ds_raise (F : Exd G X.mg x c C) (hg : Gl X x := by rfl) (hdb : (x == ("__debug__" : Str)) = false := by decide) : DS G X (.Raise (some (.Call (.Name x p) [.Constant (.str m) j p2] [] pos)) none pos2) (sRaise c) := fun ok po W tk => by
  obtain ⟨B, newId, initId, bmB, F1, F2⟩ := F.q
  have kC := F.kC
  have s1 := F.s1
  have s2 := F.s2
  rw [ok.hk] at F2 kC s1 s2
  refine (ps_raise ok.calm tk (pmk_own F1 F2 F.gC kC (raises_own s1 s2) hg hdb)).imp fun D0 σ H h => ?_
  obtain ⟨ρ, θ, M, S, q⟩ := h
  exact q (.ref C) none σ H θ (Ext.refl _ _) S ⟨C, F.at_, rfl, .inl ⟨rfl, rfl, rfl⟩⟩
end
end DL
set_option maxHeartbeats 4000000
namespace DL
open PySem PySem.Spec PyProof.Rows L2
/-! ### a hidden object is finished: shown as a value, or among the changing ones -/
/-- the hidden p gets the next label -/
def Th.adopt (θ : Th) (p : Addr) (h : p ∈ θ.av) : Th := ⟨θ.av, θ.lb ++ [p], fun a ha => by
  rcases List.mem_append.mp ha with ha | ha
  · exact θ.sub a ha
  · rw [List.mem_singleton.mp ha]; exact h⟩
section
variable {G : Cfg} {H H1 H2 : Hp} {θ θ1 θ2 : Th} {M M' : Sto} {p : Addr} {o o' : HO}
theorem hid_keep (S : StoR G H θ M) (hp : H p = none) (E : Ext (upd H p o) (θ.hid p) H2 θ2) (ht : ∀ ps, o ≠ .tbl ps) : H2 p = some o ∧ p ∈ θ2.av ∧ p ∉ θ2.lb := by
  have nl : p ∉ (θ.hid p).lb := fun z => S.out hp (θ.sub p z)
  exact ⟨E.keep p o upd_same nl ht, E.sub p List.mem_cons_self, E.outl upd_same nl ht⟩
theorem hid_ext (S : StoR G H θ M) (hp : H p = none) (E : Ext (upd H p o) (θ.hid p) H2 θ2) (ht : ∀ ps, o ≠ .tbl ps) : Ext H θ (upd H2 p o') (θ2.unh p) := by
  obtain ⟨h1, h2, h3⟩ := hid_keep S hp E ht
  have E0 : Ext H θ H2 θ2 := (Ext.allocHid hp o).trans E
  exact ⟨E0.pre, fun a ha => List.mem_filter.mpr ⟨E0.sub a ha, by
    have z : a ≠ p := fun z => S.out hp (by rw [← z]; exact ha)
    simp [z]⟩, fun b u hb n t => by
    rw [upd_ne (ne_of_none hb hp)]
    exact E0.keep b u hb n t, fun b hb n => E0.new b (Th.unh_sub θ2 p b hb) n, E0.newl⟩
theorem hid_sto (S2 : StoR G H2 θ2 M') (h1 : p ∈ θ2.av) (h2 : p ∉ θ2.lb) (h3 : H2 p = some o) (pl : Plain o) (po : ∀ ps, o' ≠ .tbl ps) : StoR G (upd H2 p o') (θ2.unh p) M' := (S2.touch h1 h2 h3 pl po).less (Th.unh_sub θ2 p) rfl
theorem hid_rep {v : V} {d : D} (h1 : p ∈ θ2.av) (r : Rep G H2 θ2 v d) : Rep G (upd H2 p o') (θ2.unh p) v d := (r.touch h1).less (Th.unh_sub θ2 p) ⟨[], by simp [Th.unh]⟩
theorem hid_reps {v : List V} {d : List D} (h1 : p ∈ θ2.av) (r : Reps G H2 θ2 v d) : Reps G (upd H2 p o') (θ2.unh p) v d := (r.touch h1).less (Th.unh_sub θ2 p) ⟨[], by simp [Th.unh]⟩
/-- .. among the changing ones -/
theorem ad_ext (S : StoR G H θ M) (hp : H p = none) (E : Ext (upd H p o) (θ.hid p) H2 θ2) (h1 : p ∈ θ2.av) : Ext H θ (upd H2 p o') (θ2.adopt p h1) := by
  have E0 : Ext H θ H2 θ2 := (Ext.allocHid hp o).trans E
  exact ⟨E0.pre.trans ⟨[p], rfl⟩, E0.sub, fun b u hb n t => by
    rw [upd_ne (ne_of_none hb hp)]
    exact E0.keep b u hb n t, E0.new, fun b hb n u e => by
    rcases List.mem_append.mp hb with hb | hb
    · exact E0.newl b hb n u e
    · rw [List.mem_singleton.mp hb, hp] at e
      cases e⟩
theorem ad_reps {v : List V} {d : List D} (h1 : p ∈ θ2.av) (r : Reps G H2 θ2 v d) : Reps G (upd H2 p o') (θ2.adopt p h1) v d := Reps.less (θ := θ2) (θ' := θ2.adopt p h1) (fun a h => h) ⟨[p], rfl⟩ (r.touch h1)
theorem ad_sto (S2 : StoR G H2 θ2 M') (h1 : p ∈ θ2.av) (h2 : p ∉ θ2.lb) (h3 : H2 p = some o) (pl : Plain o) {m : MO} (r : MOR G (upd H2 p o') (θ2.adopt p h1) p m) : StoR G (upd H2 p o') (θ2.adopt p h1) (M' ++ [m]) := by
  obtain ⟨om, em, pm⟩ := r.there
  have em2 : om = o' := Option.some.inj (em.symm.trans upd_same)
  subst em2
  have S3 := S2.touch h1 h2 h3 pl pm.1
  refine ⟨?_, ?_, fun n m' e => ?_, S3.tabs, S3.hid⟩
  · show (θ2.lb ++ [p]).Nodup
    rw [List.nodup_append]
    exact ⟨S2.nd, by simp, fun b hb c hc e => h2 (by rw [List.mem_singleton.mp hc] at e; rw [← e]; exact hb)⟩
  · show (θ2.lb ++ [p]).length = _
    rw [List.length_append, List.length_append, S2.len]
    rfl
  · show ∃ a, (θ2.lb ++ [p])[n]? = some a ∧ _
    by_cases hn : n < M'.length
    · rw [List.getElem?_append_left hn] at e
      obtain ⟨b, e1, e2⟩ := S3.at_ n m' e
      exact ⟨b, by rw [List.getElem?_append_left (by rw [S2.len]; exact hn)]; exact e1, MOR.less (θ := θ2) (θ' := θ2.adopt p h1) e2 (fun a h => h) ⟨[p], rfl⟩⟩
    · have hn' : M'.length ≤ n := Nat.le_of_not_lt hn
      rw [List.getElem?_append_right hn'] at e
      have e0 : n - M'.length = 0 := by
        cases q : n - M'.length with
        | zero => rfl
        | succ j => rw [q] at e; simp at e
      rw [e0] at e
      have em : m' = m := by simpa using e.symm
      subst em
      exact ⟨p, by rw [List.getElem?_append_right (by rw [S2.len]; exact hn'), S2.len, e0]; rfl, r⟩
theorem ad_own (S2 : StoR G H2 θ2 M') (h1 : p ∈ θ2.av) : (θ2.adopt p h1).lb[M'.length]? = some p := by
  show (θ2.lb ++ [p])[M'.length]? = some p
  rw [List.getElem?_append_right (by rw [S2.len]; exact Nat.le_refl _), S2.len, Nat.sub_self]
  rfl
end
/-! ### dicts -/
def keyOf : D → Option Key
  | .int i => some (.inl i)
  | .str x => some (.inr x)
  | _ => none
theorem rep_key {G : Cfg} {H : Hp} {θ : Th} {v : V} {d : D} {k : Key} (r : Rep G H θ v d) (h : keyOf d = some k) : v = kV k := by
  cases d with
  | int i => cases h; exact rep_int r
  | str x => cases h; exact rep_str r
  | _ => cases h
def dicOf (M : Sto) : D → Option (List Key × List D)
  | .dic ks vs => some (ks, vs)
  | .own n => match M[n]? with
    | some (.dic ks vs) => some (ks, vs)
    | _ => none
  | _ => none
def lookD : List Key → List D → Key → Option D
  | a :: ks, d :: vs, k => if a = k then some d else lookD ks vs k
  | _, _, _ => none
def hasK (ks : List Key) (k : Key) : Bool := ks.any fun a => decide (a = k)
def putKs (ks : List Key) (k : Key) : List Key := if hasK ks k = true then ks else ks ++ [k]
def setVs : List Key → List D → Key → D → List D
  | a :: ks, v :: vs, k, d => (if a = k then d else v) :: setVs ks vs k d
  | _, vs, _, _ => vs
def putVs (ks : List Key) (vs : List D) (k : Key) (d : D) : List D := if hasK ks k = true then setVs ks vs k d else vs ++ [d]
section
variable {G : Cfg} {H : Hp} {θ : Th} {M : Sto}
theorem rep_dic {v : V} {d : D} {ks : List Key} {vs : List D} (S : StoR G H θ M) (r : Rep G H θ v d) (h : dicOf M d = some (ks, vs)) : ∃ a kvs, v = .ref a ∧ H a = some (.dK kvs) ∧ kvs.map (·.1) = ks ∧ Reps G H θ (kvs.map (·.2)) vs := by
  cases r with
  | dic h' n hk r => cases h; exact ⟨_, _, rfl, h', hk, r⟩
  | @own a n h' =>
    have h2 : (match M[n]? with | some (MO.dic ks vs) => some (ks, vs) | _ => none) = some (ks, vs) := h
    split at h2
    · rename_i hm
      cases h2
      obtain ⟨kvs, e, hk, r⟩ := S.own h' hm
      exact ⟨_, kvs, rfl, e, hk, r⟩
    · cases h2
  | _ => cases h
theorem lookD_ok : ∀ {kvs : List (Key × V)} {ks : List Key} {vs : List D} {k : Key} {d : D}, kvs.map (·.1) = ks → Reps G H θ (kvs.map (·.2)) vs → lookD ks vs k = some d → ∃ v, valV kvs k = some v ∧ Rep G H θ v d
  | [], ks, vs, k, d, hk, r, h => by
    simp at hk
    subst hk
    simp [lookD] at h
  | (a, v) :: kvs, ks, vs, k, d, hk, r, h => by
    subst hk
    cases r with
    | cons r rs =>
      simp only [List.map_cons, lookD] at h
      split at h
      · rename_i e
        cases h
        exact ⟨v, valV_pos e, r⟩
      · rename_i e
        obtain ⟨u, h1, h2⟩ := lookD_ok (kvs := kvs) rfl rs h
        exact ⟨u, by rw [valV_neg e]; exact h1, h2⟩
theorem any_key {kvs : List (Key × V)} {k : Key} : hasK (kvs.map (·.1)) k = (kvs.any fun kv => decide (kv.1 = k)) := by
  unfold hasK
  rw [List.any_map]
  rfl
theorem putK_ok {kvs : List (Key × V)} {ks : List Key} {vs : List D} {k : Key} {v : V} {d : D} (hk : kvs.map (·.1) = ks) (rs : Reps G H θ (kvs.map (·.2)) vs) (r : Rep G H θ v d) :
    (putK kvs k v).map (·.1) = putKs ks k ∧ Reps G H θ ((putK kvs k v).map (·.2)) (putVs ks vs k d) := by
  subst hk
  unfold putK putKs putVs
  rw [any_key]
  by_cases h : (kvs.any fun kv => decide (kv.1 = k)) = true
  · rw [if_pos h, if_pos h, if_pos h]
    clear h
    refine ⟨?_, ?_⟩
    · rw [List.map_map]
      apply List.map_congr_left
      intro q _
      show (if q.1 = k then (q.1, v) else q).1 = q.1
      split <;> rfl
    · induction kvs generalizing vs with
      | nil => cases rs; exact .nil
      | cons p l ih =>
        cases rs with
        | cons r1 rs =>
          rw [List.map_cons, List.map_cons]
          show Reps G H θ _ ((if p.1 = k then d else _) :: setVs (l.map (·.1)) _ k d)
          refine .cons ?_ (ih rs)
          by_cases e : p.1 = k
          · rw [if_pos e, if_pos e]; exact r
          · rw [if_neg e, if_neg e]; exact r1
  · rw [if_neg h, if_neg h, if_neg h]
    exact ⟨by simp, by rw [List.map_append]; exact rs.append (.cons r .nil)⟩
end
section
variable {G : Cfg} {X : Cx} {a b c e : Expr} {es : List Expr} {fa fb fc f : FE D} {fs : FE (List D)} {ft : FE Bool} {pos pos' : Pos}
def gDGet (M : Sto) (x y : D) : Option D := match keyOf y with
  | some k => match dicOf M x with
    | some (ks, vs) => lookD ks vs k
    | none => none
  | none => none
theorem de_dget (ha : DE G X a fa) (hb : DE G X b fb) (hs : NoSl b := by exact fun _ _ => rfl) : DE G X (.Subscript a b pos) (dBin gDGet fa fb) := fun ok W tk => by
  refine (pe_dget (by have := ok.hu; omega) (ha ok W tk) (hb ok W tk) hs).imp fun σ H Q h => ?_
  obtain ⟨ρ, θ, M, S, q⟩ := h
  refine rdE_seq (g := fun x ρ M1 => (fb ρ M1).bind fun y N => .ofO (gDGet N x y) N) S q fun x v H1 θ1 N1 S1 E1 r1 q1 => ?_
  refine rdE_seq (g := fun y ρ N => .ofO (gDGet N x y) N) S1 q1 fun y u H2 θ2 N2 S2 E2 r2 q2 => ?_
  cases eg : gDGet N2 x y with
  | none => rw [eg] at q2; exact q2.elim
  | some d =>
    rw [eg] at q2
    unfold gDGet at eg
    split at eg
    · rename_i k hk
      split at eg
      · rename_i ks vs hd
        obtain ⟨p, kvs, e1, e2, e3, e4⟩ := rep_dic S2.2 (r1.ext E2) hd
        obtain ⟨z, h1, h2⟩ := lookD_ok e3 e4 eg
        have ek := rep_key r2 hk
        subst ek
        refine ⟨p, z, e1, ?_, q2 H2 θ2 (Ext.refl _ _) S2.2 z h2⟩
        rw [← h1]
        exact DGet.k e2
      · cases eg
    · cases eg
/-- d[k] = v -/
def sDP (fo fi fv : FE D) : FS := fun ρ M => (fv ρ M).thn ρ fun v M1 => (fo ρ M1).thn ρ fun o M2 => (fi ρ M2).thn ρ fun y M3 => match o with
  | .own n => match keyOf y with
    | some k => match M3[n]? with
      | some (.dic ks vs) => if ks.length < sizeLine then .nx ρ (M3.set n (.dic (putKs ks k) (putVs ks vs k v))) else .bad
      | _ => .bad
    | none => .bad
  | _ => .bad
def kDP (ρ : Env) (v o y : D) (M3 : Sto) : Out := match o with
  | .own n => match keyOf y with
    | some k => match M3[n]? with
      | some (.dic ks vs) => if ks.length < sizeLine then .nx ρ (M3.set n (.dic (putKs ks k) (putVs ks vs k v))) else .bad
      | _ => .bad
    | none => .bad
  | _ => .bad
theorem ds_dput (ho : DE G X a fa) (hi : DE G X b fb) (hv : DE G X e f) (hs : swapsWith e (some (.Subscript a b pos')) pos.line X.env = pure false := by rfl) : DS G X (.Assign [.Subscript a b pos'] e pos) (sDP fa fb f) := fun ok po W tk => by
  refine (ps_dput (by have := ok.hu; omega) (ho ok W tk) (hi ok W tk) (hv ok W tk) hs).imp fun D0 σ H h => ?_
  obtain ⟨ρ, θ, M, S, q⟩ := h
  refine ⟨ρ, θ, M, S, postS.seq (g := fun v M1 => (fa ρ M1).thn ρ fun o M2 => (fb ρ M2).thn ρ fun y M3 => kDP ρ v o y M3) S.1 q fun v N1 H1 θ1 E1 S1 q1 v' r1 => ?_⟩
  refine ⟨ρ, θ1, N1, ⟨S.1.ext E1, S1⟩, postS.seq (g := fun o M2 => (fb ρ M2).thn ρ fun y M3 => kDP ρ v o y M3) (S.1.ext E1) q1 fun o N2 H2 θ2 E2 S2 q2 o' r2 => ?_⟩
  refine ⟨ρ, θ2, N2, ⟨(S.1.ext E1).ext E2, S2⟩, postS.seq (g := fun y M3 => kDP ρ v o y M3) ((S.1.ext E1).ext E2) q2 fun y N3 H3 θ3 E3 S3 q3 y' r3 => ?_⟩
  unfold kDP at q3
  split at q3
  · rename_i n
    split at q3
    · rename_i k hk
      split at q3
      · rename_i ks vs hm
        split at q3
        · rename_i hz
          cases r2.ext E3 with
          | @own p _ hn =>
            obtain ⟨kvs, e1, e2, e3⟩ := S3.own hn hm
            have ek := rep_key r3 hk
            subst ek
            have E4 := Ext.write (H := H3) (List.mem_of_getElem? hn) (.dK (putK kvs k v'))
            have pk := putK_ok (k := k) e2 e3 ((r1.ext E2).ext E3)
            refine ⟨p, _, rfl, DPut.k e1 (by rw [← List.length_map (f := (·.1)), e2]; exact hz), q3 _ _ θ3 E4 ⟨(((S.1.ext E1).ext E2).ext E3).ext E4, S3.set hn ⟨_, upd_same, pk.1, pk.2.ext E4⟩⟩⟩
        · exact q3.elim
      · exact q3.elim
    · exact q3.elim
  · exact q3.elim
/-! ### displays of dicts -/
def dPairs : List (FE D × FE D) → FE (List (D × D))
  | [], _, M => .ok [] M
  | (fk, fv) :: r, ρ, M => (fk ρ M).bind fun x M1 => (fv ρ M1).bind fun y M2 => (dPairs r ρ M2).bind fun ps M3 => .ok ((x, y) :: ps) M3
def mkKV : List (D × D) → Option (List (Key × D))
  | [] => some []
  | (x, y) :: r => match keyOf x, mkKV r with
    | some k, some l => some ((k, y) :: l)
    | _, _ => none
def mgD (acc : List Key × List D) : List (Key × D) → List Key × List D
  | [] => acc
  | (k, d) :: r => mgD (putKs acc.1 k, putVs acc.1 acc.2 k d) r
/-- the pairs with their readings -/
inductive PrD (G : Cfg) (X : Cx) : List (Option Expr) → List Expr → List (FE D × FE D) → Prop
  | nil : PrD G X [] [] []
  | cons {k v : Expr} {ks : List (Option Expr)} {vs : List Expr} {fk fv : FE D} {fr : List (FE D × FE D)} (hk : DE G X k fk) (hv : DE G X v fv) (r : PrD G X ks vs fr) : PrD G X (some k :: ks) (v :: vs) ((fk, fv) :: fr)
theorem prd_pps {ks : List (Option Expr)} {vs : List Expr} {fr : List (FE D × FE D)} {W : WX} (h : PrD G X ks vs fr) (ok : Okc G X) (tk : Takes X W) : PPs X pos ks vs (fr.map fun q => (rdE G W q.1, rdE G W q.2)) := by
  induction h with
  | nil => exact pps_nil
  | cons hk hv r ih => exact pps_cons (hk ok W tk) (hv ok W tk) ih
inductive RepP (G : Cfg) (H : Hp) (θ : Th) : List (V × V) → List (D × D) → Prop
  | nil : RepP G H θ [] []
  | cons {x y : V} {a b : D} {l : List (V × V)} {m : List (D × D)} (h1 : Rep G H θ x a) (h2 : Rep G H θ y b) (r : RepP G H θ l m) : RepP G H θ ((x, y) :: l) ((a, b) :: m)
theorem pairs_rd {W : WX} : ∀ {fr : List (FE D × FE D)} {σ : L2.St} {H : Hp} {ρ : Env} {θ : Th} {M : Sto} {Q : List (V × V) → Hp → Prop}, StR G σ H ρ θ M →
    postR G W σ H θ (fun H' θ' _ ds => ∀ vs, RepP G H' θ' vs ds → Q vs H') (dPairs fr ρ M) → tPairs (fr.map fun q => (rdE G W q.1, rdE G W q.2)) σ H Q
  | [], σ, H, ρ, θ, M, Q, S, q => q H θ (Ext.refl _ _) S.2 [] .nil
  | (fk, fv) :: fr, σ, H, ρ, θ, M, Q, S, q => by
    show rdE G W fk σ H fun x H1 => rdE G W fv σ H1 fun y H2 => tPairs (fr.map fun q => (rdE G W q.1, rdE G W q.2)) σ H2 fun ps H3 => Q ((x, y) :: ps) H3
    refine rdE_seq (g := fun x ρ M1 => (fv ρ M1).bind fun y M2 => (dPairs fr ρ M2).bind fun ps M3 => .ok ((x, y) :: ps) M3) S q fun x v H1 θ1 N1 S1 E1 r1 q1 => ?_
    refine rdE_seq (g := fun y ρ M2 => (dPairs fr ρ M2).bind fun ps M3 => .ok ((x, y) :: ps) M3) S1 q1 fun y u H2 θ2 N2 S2 E2 r2 q2 => ?_
    refine pairs_rd S2 (q2.seq fun ds N3 H3 θ3 E3 S3 q3 vs r3 => q3 H3 θ3 (Ext.refl _ _) S3 _ (.cons ((r1.ext E2).ext E3) (r2.ext E3) r3))
theorem mkKV_ok {H : Hp} {θ : Th} : ∀ {ps : List (V × V)} {ds : List (D × D)} {l : List (Key × D)}, RepP G H θ ps ds → mkKV ds = some l → ∃ kvs : List (Key × V), ps = kvs.map (fun kv => (kV kv.1, kv.2)) ∧ kvs.length = l.length ∧ kvs.map (·.1) = l.map (·.1) ∧ Reps G H θ (kvs.map (·.2)) (l.map (·.2))
  | _, _, _, .nil, h => by cases h; exact ⟨[], rfl, rfl, rfl, .nil⟩
  | _, _, l, .cons (a := a) (b := b) (m := m) h1 h2 r, h => by
    have h : (match keyOf a, mkKV m with | some k, some l => some ((k, b) :: l) | _, _ => none) = some l := h
    split at h
    · rename_i k l' hk hl
      cases h
      obtain ⟨kvs, e1, e2, e3, e4⟩ := mkKV_ok r hl
      have ek := rep_key h1 hk
      subst ek
      exact ⟨(k, _) :: kvs, by rw [e1]; rfl, by simp [e2], by simp [e3], .cons h2 e4⟩
    · cases h
theorem mgD_ok {H : Hp} {θ : Th} : ∀ {more : List (Key × V)} {l : List (Key × D)} {kvs : List (Key × V)} {acc : List Key × List D}, more.map (·.1) = l.map (·.1) → Reps G H θ (more.map (·.2)) (l.map (·.2)) → kvs.map (·.1) = acc.1 → Reps G H θ (kvs.map (·.2)) acc.2 →
    (mergeK kvs more).map (·.1) = (mgD acc l).1 ∧ Reps G H θ ((mergeK kvs more).map (·.2)) (mgD acc l).2
  | [], [], kvs, acc, _, _, h1, h2 => ⟨h1, h2⟩
  | [], _ :: _, _, _, h, _, _, _ => by simp at h
  | _ :: _, [], _, _, h, _, _, _ => by simp at h
  | (k, v) :: more, (k', d) :: l, kvs, acc, hk, r, h1, h2 => by
    simp only [List.map_cons, List.cons.injEq] at hk
    obtain ⟨rfl, hk⟩ := hk
    cases r with
    | cons r rs =>
      have pk := putK_ok (k := k) h1 h2 r
      exact mgD_ok (kvs := putK kvs k v) (acc := (putKs acc.1 k, putVs acc.1 acc.2 k d)) hk rs pk.1 pk.2
/-- a display: a value that does not change (own = false), or one that does -/
def dDisp (own : Bool) (fr : List (FE D × FE D)) : FE D := fun ρ M => (dPairs fr ρ M).bind fun ps N => match mkKV ps with
  | some l => if l.length ≤ 15 then (if own = true then .ok (.own N.length) (N ++ [.dic (mgD ([], []) l).1 (mgD ([], []) l).2]) else .ok (.dic (mgD ([], []) l).1 (mgD ([], []) l).2) N) else .bad
  | none => .bad
def kDisp (own : Bool) (ps : List (D × D)) (N : Sto) : Res D := match mkKV ps with
  | some l => if l.length ≤ 15 then (if own = true then .ok (.own N.length) (N ++ [.dic (mgD ([], []) l).1 (mgD ([], []) l).2]) else .ok (.dic (mgD ([], []) l).1 (mgD ([], []) l).2) N) else .bad
  | none => .bad
theorem plain_dK (kvs : List (Key × V)) : Plain (.dK kvs) := ⟨(fun _ z => by cases z), (fun _ _ z => by unfold LamX.CodeO at z; cases z)⟩
theorem plain_lst (xs : List V) : Plain (.lst xs) := ⟨(fun _ z => by cases z), (fun _ _ z => by unfold LamX.CodeO at z; cases z)⟩
theorem de_disp (own : Bool) {keys : List (Option Expr)} {values : List Expr} {fr : List (FE D × FE D)} (h : PrD G X keys values fr) (hall : keys.all (·.isSome) = true := by rfl) (hl : keys.length = values.length := by rfl) (h0 : keys ≠ [] := by decide) (h15 : keys.length ≤ 15 := by decide) :
    DE G X (.Dict keys values pos) (dDisp own fr) := fun ok W tk => by
  refine (pe_disp (prd_pps h ok tk) hall hl h0 h15).imp fun σ H Q h => ?_
  obtain ⟨ρ, θ, M, S, q⟩ := h
  intro p hp
  have q : postR G W σ H θ (fun H' θ' _ d => ∀ v, Rep G H' θ' v d → Q v H') ((dPairs fr ρ M).bind (kDisp own)) := q
  have SH : StR G σ (upd H p (.dK [])) ρ (θ.hid p) M := ⟨S.1.ext (Ext.allocHid hp _), S.2.allocHid hp _ (plain_dK []).1⟩
  refine pairs_rd SH ?_
  cases e1 : dPairs fr ρ M with
  | ok ds N =>
    rw [e1] at q
    intro H2 θ2 E2 S2 vs r2
    obtain ⟨k1, k2, k3⟩ := hid_keep S.2 hp E2 (plain_dK []).1
    refine ⟨k1, ?_⟩
    have q : postR G W σ H θ (fun H' θ' _ d => ∀ v, Rep G H' θ' v d → Q v H') (kDisp own ds N) := q
    unfold kDisp at q
    split at q
    · rename_i l hl
      split at q
      · rename_i h15
        obtain ⟨kvs, e2, e3, e4, e5⟩ := mkKV_ok r2 hl
        refine ⟨kvs, e2, by rw [e3]; exact h15, ?_⟩
        obtain ⟨m1, m2⟩ := mgD_ok (kvs := []) (acc := ([], [])) e4 e5 rfl .nil
        cases own with
        | true =>
          rw [if_pos rfl] at q
          exact q _ (θ2.adopt p k2) (ad_ext S.2 hp E2 k2) (ad_sto S2 k2 k3 k1 (plain_dK []) ⟨_, upd_same, m1, ad_reps k2 m2⟩) _ (.own (ad_own S2 k2))
        | false =>
          rw [if_neg Bool.false_ne_true] at q
          exact q _ (θ2.unh p) (hid_ext S.2 hp E2 (plain_dK []).1) (hid_sto S2 k2 k3 k1 (plain_dK []) (plain_dK _).1) _ (.dic upd_same (Th.unh_out θ2 k3) m1 (hid_reps k2 m2))
      · exact q.elim
    · exact q.elim
  | exc c fs vs N =>
    rw [e1] at q
    exact fun cls dd H' θ' E S' x => q cls dd H' θ' ((Ext.allocHid hp _).trans E) S' x
  | bad => rw [e1] at q; exact q
/-- {} -/
def dNew (own : Bool) : FE D := fun _ N => if own = true then .ok (.own N.length) (N ++ [.dic [] []]) else .ok (.dic [] []) N
theorem de_dnew (own : Bool) : DE G X (.Dict [] [] pos) (dNew own) := fun ok W tk => pe_dnewK.imp fun σ H Q h => by
  obtain ⟨ρ, θ, M, S, q⟩ := h
  intro p hp
  cases own with
  | true => exact q _ (θ.own p) (Ext.allocOwn hp _) (S.2.push hp ⟨[], upd_same, rfl, .nil⟩) _ (.own S.2.last)
  | false => exact q _ θ (Ext.alloc hp _) (S.2.alloc hp _) _ (.dic (kvs := []) upd_same (S.2.out hp) rfl .nil)
/-! ### methods of changing lists -/
def rMt (G : Cfg) (g : Sto → D → List D → Option (D × Sto)) : V → List V → Hp → VK → Prop := fun x vs H Q => ∃ θ M dx ds d M', StoR G H θ M ∧ Rep G H θ x dx ∧ Reps G H θ vs ds ∧ g M dx ds = some (d, M') ∧ ∀ v H', Ext H θ H' θ → StoR G H' θ M' → Rep G H' θ v d → Q v H'
def dMt (g : Sto → D → List D → Option (D × Sto)) (fo : FE D) (fs : FE (List D)) : FE D := fun ρ M => (fo ρ M).bind fun x M1 => match lstOf M1 x with
  | some _ => (fs ρ M1).bind fun ds M2 => match g M2 x ds with
    | some (d, M3) => .ok d M3
    | none => .bad
  | none => .bad
def kMt (g : Sto → D → List D → Option (D × Sto)) (x : D) (ds : List D) (N : Sto) : Res D := match g N x ds with
  | some (d, M3) => .ok d M3
  | none => .bad
theorem mt_rd {W : WX} {g : Sto → D → List D → Option (D × Sto)} (ok : Okc G X) {σ : L2.St} {H : Hp} {Q : VK} (h : rdE G W (dMt g fa fs) σ H Q) : tBM X.K "list" (rMt G g) (rdE G W fa) (rdA G W fs) σ H Q := by
  obtain ⟨ρ, θ, M, S, q⟩ := h
  refine rdE_seq (g := fun x ρ N => match lstOf N x with | some _ => (fs ρ N).bind fun ds M2 => kMt g x ds M2 | none => .bad) S q fun x v H1 θ1 N1 S1 E1 r1 q1 => ?_
  cases el : lstOf N1 x with
  | none => simp only [el] at q1; exact q1.elim
  | some ys =>
    simp only [el] at q1
    obtain ⟨a, xs, e1, e2, _⟩ := rep_lst S1.2 r1 el
    rw [ok.hk] at e2
    subst e1
    refine ⟨.inl ⟨rfl, xs, e2⟩, ?_⟩
    refine rdA_seq (g := fun ds _ M2 => kMt g x ds M2) S1 q1 fun ds vs H2 θ2 N2 S2 E2 r2 q2 => ?_
    unfold kMt at q2
    split at q2
    · rename_i d M3 eg
      exact ⟨θ2, N2, x, ds, d, M3, S2.2, r1.ext E2, r2, eg, fun v H' E S' r => q2 H' θ2 E S' v r⟩
    · exact q2.elim
theorem de_mt {g : Sto → D → List D → Option (D × Sto)} {name : Str} {id : String} {apos : Pos} (slot : Slot "list" name id) (hty : typeOf (.builtin id) = pure (.type "method_descriptor")) (hm : Okc G X → MtR X id (rMt G g)) (ho : DE G X a fa) (ha : DA G X (e :: es) fs)
    (hbase : attributeBase a name X.env (eval a X.env) = eval a X.env := by rfl)
    (hfew : ((backTo pos (starEach (e :: es) X.env)).all (fun x => !x.1) && (backToKw pos (keywordEach [] X.env)).all (fun x => x.1.isSome) && decide ((e :: es).length + ([] : List Keyword).length + (if ([] : List Keyword).isEmpty then 0 else 1) < 30)) = true := by rfl)
    (hline : (apos.endLine == pos.line) = true := by rfl) (hs : starEach (e :: es) X.env = (false, eval e X.env) :: starEach es X.env := by rfl) (hplain : (backTo pos (starEach es X.env)).any (·.1) = false := by rfl) :
    DE G X (.Call (.Attribute a name apos) (e :: es) [] pos) (dMt g fa fs) := fun ok W tk =>
  (pe_bm F.plainAttrs_list slot hty (hm ok) (ho ok W tk) (ha ok W tk) hbase hfew hline hs hplain).imp fun σ H Q h => mt_rd ok h
def gApp (M : Sto) (x : D) (ds : List D) : Option (D × Sto) := match x, ds with
  | .own n, [d] => match M[n]? with
    | some (.lst xs) => if xs.length < sizeLine then some (.non, M.set n (.lst (xs ++ [d]))) else none
    | _ => none
  | _, _ => none
theorem md_app (ok : Okc G X) : MtR X "list.append" (rMt G gApp) := by
  intro pins s σ H x vs v us Q I rx rv h
  obtain ⟨θ, M, dx, ds, d, M', S, r1, rs, hg, q⟩ := h
  unfold gApp at hg
  split at hg
  · rename_i n d'
    split at hg
    · rename_i xs hm
      split at hg
      · rename_i hz
        cases hg
        cases r1 with
        | @own p _ hn =>
          cases rs with
          | cons r2 rs =>
            cases rs
            obtain ⟨ys, e1, e2⟩ := S.own hn hm
            rename_i y
            have E := Ext.write (H := H) (List.mem_of_getElem? hn) (.lst (ys ++ [y]))
            exact mt_append pins s σ H _ _ v us Q I rx rv ⟨p, ys, _, rfl, rfl, e1, by rw [e2.length]; exact hz, q _ _ E (S.set hn ⟨_, upd_same, (e2.ext E).append (.cons (r2.ext E) .nil)⟩) .non⟩
      · cases hg
    · cases hg
  · cases hg
def gPopAt (M : Sto) (x : D) (ds : List D) : Option (D × Sto) := match x, ds with
  | .own n, [.int i] => match M[n]? with
    | some (.lst xs) => if -(2 ^ 63) ≤ i ∧ i < 2 ^ 63 then match seqIndex? i xs.length with
      | some k => match xs[k]? with
        | some d => some (d, M.set n (.lst (xs.eraseIdx k)))
        | none => none
      | none => none
      else none
    | _ => none
  | _, _ => none
theorem md_popAt (ok : Okc G X) : MtR X "list.pop" (rMt G gPopAt) := by
  intro pins s σ H x vs v us Q I rx rv h
  obtain ⟨θ, M, dx, ds, d, M', S, r1, rs, hg, q⟩ := h
  unfold gPopAt at hg
  split at hg
  · rename_i n i
    split at hg
    · rename_i xs hm
      split at hg
      · rename_i hz
        split at hg
        · rename_i k hk
          split at hg
          · rename_i d' hd
            cases hg
            cases r1 with
            | @own p _ hn =>
              cases rs with
              | cons r2 rs =>
                cases rs
                cases rep_int r2
                obtain ⟨ys, e1, e2⟩ := S.own hn hm
                have E := Ext.write (H := H) (List.mem_of_getElem? hn) (.lst (ys.eraseIdx k))
                obtain ⟨y, h1, h2⟩ := e2.get hd
                exact mt_popAt pins s σ H _ _ v us Q I rx rv ⟨p, ys, i, k, y, rfl, rfl, e1, hz.1, hz.2, by rw [e2.length]; exact hk, h1, q _ _ E (S.set hn ⟨_, upd_same, (e2.ext E).eraseIdx k⟩) (h2.ext E)⟩
          · cases hg
        · cases hg
      · cases hg
    · cases hg
  · cases hg
end
end DL
set_option maxHeartbeats 4000000
namespace L2
open PySem PySem.Spec PyProof.Rows
theorem PTs.imp {X : Cx} {ifs : List Expr} {t t' : TT} (h : PTs X ifs t) (k : ∀ σ H Q, t' σ H Q → t σ H Q) : PTs X ifs t' := ⟨fun pins s σ H Q I q => h.run pins s σ H Q I (k σ H Q q)⟩
end L2
namespace DL
open PySem PySem.Spec PyProof.Rows L2
/-! ### a comprehension's names -/
def wipeE (ρ : Env) : List Nat → Env
  | [] => ρ
  | v :: vs => (wipeE ρ vs).set v none
theorem wipe_at (σ : L2.St) : ∀ (vs : List Nat) (j : Nat), (wipe σ vs)[j]? = if j ∈ vs then σ[j]?.map (fun _ => none) else σ[j]?
  | [], j => by simp [wipe]
  | v :: vs, j => by
    show ((wipe σ vs).set v none)[j]? = _
    rw [List.getElem?_set, wipe_length]
    by_cases e : v = j
    · subst e
      simp only [if_true, List.mem_cons, true_or]
      by_cases hl : v < σ.length
      · rw [if_pos hl, List.getElem?_eq_getElem hl]; rfl
      · rw [if_neg hl, List.getElem?_eq_none (by omega)]; rfl
    · rw [if_neg e, wipe_at σ vs j]
      have e2 : (j ∈ v :: vs) = (j ∈ vs) := by simp [Ne.symm e]
      simp only [e2]
theorem wipe_set {σ : L2.St} {vs : List Nat} {i : Nat} (x : Option V) (h : i ∈ vs) : wipe (σ.set i x) vs = wipe σ vs := by
  apply List.ext_getElem?
  intro j
  rw [wipe_at, wipe_at]
  by_cases hj : j ∈ vs
  · rw [if_pos hj, if_pos hj]
    rw [List.getElem?_set]
    split
    · rename_i e
      subst e
      split
      · rename_i hl
        rw [List.getElem?_eq_getElem hl]; rfl
      · rename_i hl
        rw [List.getElem?_eq_none (by omega)]
    · rfl
  · rw [if_neg hj, if_neg hj, List.getElem?_set_ne (fun e => hj (by rw [← e]; exact h))]
theorem wipe_wipe (σ : L2.St) (vs : List Nat) : wipe (wipe σ vs) vs = wipe σ vs := by
  apply List.ext_getElem?
  intro j
  rw [wipe_at, wipe_at]
  split
  · cases σ[j]? <;> rfl
  · rfl
/-- what the items are stored to -/
inductive TgC where
  | one (i : Nat)
  | tup (is : List Nat)
def gCs : List Nat → TGs
  | [] => gNil
  | i :: is => gCons (gName i) (gCs is)
def TgC.k (K : PySem.W.Frag) : TgC → TG
  | .one i => gName i
  | .tup is => gTup K is.length (gCs is)
def TgC.ix : TgC → List Nat
  | .one i => [i]
  | .tup is => is
def setAll : List Nat → List D → Env → Option Env
  | [], [], ρ => some ρ
  | i :: is, d :: ds, ρ => setAll is ds (ρ.set i (some d))
  | _, _, _ => none
def TgC.d : TgC → D → Env → Option Env
  | .one i, d, ρ => some (ρ.set i (some d))
  | .tup is, .tup ds, ρ => setAll is ds ρ
  | .tup _, _, _ => none
section
variable {G : Cfg} {H : Hp} {θ : Th}
theorem wipe_env {σ : L2.St} {ρ : Env} (R : EnvR G H θ σ ρ) : ∀ vs : List Nat, EnvR G H θ (wipe σ vs) (wipeE ρ vs)
  | [] => R
  | v :: vs => (wipe_env R vs).gone v
theorem setAll_len : ∀ {is : List Nat} {ds : List D} {ρ ρ' : Env}, setAll is ds ρ = some ρ' → ds.length = is.length
  | [], [], _, _, _ => rfl
  | i :: is, d :: ds, ρ, ρ', h => by
    have h : setAll is ds (ρ.set i (some d)) = some ρ' := h
    rw [List.length_cons, List.length_cons, setAll_len h]
  | [], _ :: _, _, _, h => by cases h
  | _ :: _, [], _, _, h => by cases h
theorem gCs_run {ws : List Nat} : ∀ {is : List Nat} {ds : List D} {xs : List V} {σ : L2.St} {ρ ρ' : Env} {Q : L2.St → Hp → Prop}, (∀ i ∈ is, i ∈ ws) → EnvR G H θ σ ρ → Reps G H θ xs ds → setAll is ds ρ = some ρ' → (∀ σ', EnvR G H θ σ' ρ' → wipe σ' ws = wipe σ ws → Q σ' H) → gCs is xs σ H Q
  | [], [], xs, σ, ρ, ρ', Q, _, R, r, h, q => by
    cases r
    cases h
    exact ⟨rfl, q σ R rfl⟩
  | i :: is, d :: ds, xs, σ, ρ, ρ', Q, hi, R, r, h, q => by
    cases r with
    | cons r rs =>
      refine ⟨_, _, rfl, ?_⟩
      exact gCs_run (fun j hj => hi j (List.mem_cons_of_mem _ hj)) (R.set i r) rs h fun σ' R' e => q σ' R' (by rw [e, wipe_set _ (hi i List.mem_cons_self)])
  | [], _ :: _, _, _, _, _, _, _, _, _, h, _ => by cases h
  | _ :: _, [], _, _, _, _, _, _, _, _, h, _ => by cases h
theorem tg_run {K : PySem.W.Frag} {ws : List Nat} {T : TgC} {v : V} {d : D} {σ : L2.St} {ρ ρ' : Env} {Q : L2.St → Hp → Prop} (hK : G.K = K) (hi : ∀ i ∈ T.ix, i ∈ ws) (R : EnvR G H θ σ ρ) (r : Rep G H θ v d) (h : T.d d ρ = some ρ')
    (q : ∀ σ', EnvR G H θ σ' ρ' → wipe σ' ws = wipe σ ws → Q σ' H) : T.k K v σ H Q := by
  cases T with
  | one i =>
    cases h
    exact q _ (R.set i r) (wipe_set _ (hi i List.mem_cons_self))
  | tup is =>
    cases d with
    | tup ds =>
      obtain ⟨a, xs, e, hq, rs⟩ := rep_tup r
      rw [hK] at hq
      exact ⟨a, xs, e, hq, by rw [rs.length, setAll_len h], gCs_run hi R rs h q⟩
    | _ => cases h
end
/-! ### [elt for target in iter if test] -/
abbrev WF : WX := fun _ _ _ _ => False
def lstp (T : TgC) (ft : FE Bool) (fe : FE D) (ws : List Nat) (ρ : Env) (d : D) (M : Sto) (k : Sto → Res (List D)) : Res (List D) := match T.d d (wipeE ρ ws) with
  | none => .bad
  | some ρ2 => match ft ρ2 M with
    | .ok true M2 => match fe ρ2 M2 with
      | .ok y M3 => match k M3 with
        | .ok ys M4 => .ok (y :: ys) M4
        | _ => .bad
      | _ => .bad
    | .ok false M2 => k M2
    | _ => .bad
def lcD (T : TgC) (ft : FE Bool) (fe : FE D) (ws : List Nat) (ρ : Env) : List D → Sto → Res (List D)
  | [], M => .ok [] M
  | d :: ds, M => lstp T ft fe ws ρ d M (lcD T ft fe ws ρ ds)
def lcO (T : TgC) (ft : FE Bool) (fe : FE D) (ws : List Nat) (ρ : Env) (l : Nat) : Nat → Nat → Sto → Res (List D)
  | 0, _, _ => .bad
  | n + 1, i, M => match lstOf M (.own l) with
    | some ds => match ds[i]? with
      | some d => lstp T ft fe ws ρ d M (lcO T ft fe ws ρ l n (i + 1))
      | none => .ok [] M
    | none => .bad
def lcE (T : TgC) (ft : FE Bool) (fe : FE D) (ws : List Nat) (ρ : Env) (f : Sto → Option (List D)) : Nat → Nat → Sto → Res (List D)
  | 0, _, _ => .bad
  | n + 1, i, M => match f M with
    | some ds => match ds[i]? with
      | some d => lstp T ft fe ws ρ d M (lcE T ft fe ws ρ f n (i + 1))
      | none => .ok [] M
    | none => .bad
def lcI (T : TgC) (ft : FE Bool) (fe : FE D) (ws : List Nat) (ρ : Env) : IT → Sto → Res (List D)
  | .fix ds, M => lcD T ft fe ws ρ ds M
  | .own l, M => match lstOf M (.own l) with
    | some ds => lcO T ft fe ws ρ l (ds.length + 1) 0 M
    | none => .bad
  | .gen f, M => match f M with
    | some ds => lcE T ft fe ws ρ f (ds.length + 1) 0 M
    | none => .bad
def kLc (own : Bool) (r : Res (List D)) : Res D := match r with
  | .ok ys M => if ys.length ≤ sizeLine then (if own = true then .ok (.own M.length) (M ++ [.lst ys]) else .ok (.lst ys) M) else .bad
  | _ => .bad
def fLc (own : Bool) (fi : FE IT) (T : TgC) (ft : FE Bool) (fe : FE D) (ws : List Nat) : FE D := fun ρ M => (fi ρ M).bind fun p M1 => kLc own (lcI T ft fe ws ρ p M1)
section
variable {G : Cfg} {X : Cx}
theorem lc_turns {K : PySem.W.Frag} {T : TgC} {ft : FE Bool} {fe : FE D} {ws : List Nat} {ρ : Env} {σ : L2.St} {H : Hp} {θ : Th} {M Mf : Sto} {at_ : Sto → Option (List D)} {J : It} {p : Addr} {tot : List D} {Q : Hp → Prop} (loop : Nat → Nat → Sto → Res (List D)) (m : Nat) (hK : G.K = K)
    (JD : ItD G H θ at_ J) (S : StR G σ H ρ θ M) (hp : H p = none) (hw : ∀ i ∈ T.ix, i ∈ ws)
    (hl : ∀ m i M, loop m i M = .bad ∨ ∃ ds, at_ M = some ds ∧ ((ds.length ≤ i ∧ loop m i M = .ok [] M) ∨ ∃ d m', ds[i]? = some d ∧ m' < m ∧ loop m i M = lstp T ft fe ws ρ d M (loop m' (i + 1))))
    (h0 : loop m 0 M = .ok tot Mf) (hz : tot.length ≤ sizeLine)
    (hd : ∀ H' θ' acc, Ext (upd H p (.lst [])) (θ.hid p) H' θ' ∨ (Ext H θ H' θ' ∧ True) → Ext H θ H' θ' → p ∈ θ'.av → p ∉ θ'.lb → H' p = some (.lst acc) → Reps G H' θ' acc tot → StoR G H' θ' Mf → Q H') :
    ∃ Wv : Nat → Nat → Hp → Prop, (∃ m, Wv 0 m (upd H p (.lst []))) ∧ ∀ i m H, Wv i m H → (J.stop i H ∧ Q H) ∨ (J.go i H ∧ ∃ Nx : Hp → Prop, (∀ H', Nx H' → ∃ m', m' < m ∧ Wv (i + 1) m' H') ∧ ∀ x H', J.yld i H x H' →
      T.k K x (wipe σ ws) H' fun σ2 H2 => wipe σ2 ws = wipe σ ws ∧ rdT G WF ft σ2 H2 fun b H3 => if b = true then rdE G WF fe σ2 H3 fun y H4 => ∃ acc, H4 p = some (.lst acc) ∧ acc.length < sizeLine ∧ Nx (upd H4 p (.lst (acc ++ [y]))) else Nx H3) := by
  refine ⟨fun i m H1 => ∃ θ1 M1 acc ds ys, Ext H θ H1 θ1 ∧ StoR G H1 θ1 M1 ∧ p ∈ θ1.av ∧ p ∉ θ1.lb ∧ H1 p = some (.lst acc) ∧ Reps G H1 θ1 acc ds ∧ loop m i M1 = .ok ys Mf ∧ tot = ds ++ ys,
    ⟨m, θ.hid p, M, [], [], tot, Ext.allocHid hp _, S.2.allocHid hp _ (plain_lst []).1, List.mem_cons_self, fun z => S.2.out hp (θ.sub p z), upd_same, .nil, h0, rfl⟩, fun i m H1 hw1 => ?_⟩
  obtain ⟨θ1, M1, acc, ds, ys, E1, S1, a1, a2, a3, rs, hlp, ht⟩ := hw1
  rcases hl m i M1 with hb | ⟨its, hat, ⟨hs1, hs2⟩ | ⟨d, m', hi, hm, hs⟩⟩
  · rw [hb] at hlp; cases hlp
  · rw [hs2] at hlp
    cases hlp
    rw [List.append_nil] at ht
    subst ht
    exact .inl ⟨JD.stop H1 θ1 _ its i E1 S1 hat hs1, hd H1 θ1 acc (.inr ⟨E1, trivial⟩) E1 a1 a2 a3 rs S1⟩
  · obtain ⟨hgo, hy⟩ := JD.go H1 θ1 M1 its i d E1 S1 hat hi
    rw [hs] at hlp
    refine .inr ⟨hgo, fun H2 => ∃ θ1 M1 acc ds ys, Ext H θ H2 θ1 ∧ StoR G H2 θ1 M1 ∧ p ∈ θ1.av ∧ p ∉ θ1.lb ∧ H2 p = some (.lst acc) ∧ Reps G H2 θ1 acc ds ∧ loop m' (i + 1) M1 = .ok ys Mf ∧ tot = ds ++ ys, fun H' hn => ⟨m', hm, hn⟩, fun x H' y => ?_⟩
    obtain ⟨θ2, E2, S2, r⟩ := hy x H' y
    unfold lstp at hlp
    split at hlp
    · cases hlp
    · rename_i ρ2 hT
      have R2 : EnvR G H' θ2 (wipe σ ws) (wipeE ρ ws) := wipe_env ((S.1.ext E1).ext E2) ws
      refine tg_run hK hw R2 r hT fun σ2 R3 ew => ⟨by rw [ew, wipe_wipe], ρ2, θ2, M1, ⟨R3, S2⟩, ?_⟩
      have keepP : ∀ {Ha Hb : Hp} {θa θb : Th} {ac : List V}, Ext Ha θa Hb θb → p ∈ θa.av → p ∉ θa.lb → Ha p = some (.lst ac) → p ∈ θb.av ∧ p ∉ θb.lb ∧ Hb p = some (.lst ac) := fun E h1 h2 h3 =>
        ⟨E.sub p h1, E.outl h3 h2 (fun _ z => by cases z), E.keep p _ h3 h2 (fun _ z => by cases z)⟩
      obtain ⟨b1, b2, b3⟩ := keepP E2 a1 a2 a3
      split at hlp
      · rename_i M2 eT
        rw [eT]
        intro H3 θ3 E3 S3
        refine iteT ⟨ρ2, θ3, M2, ⟨R3.ext E3, S3⟩, ?_⟩
        obtain ⟨c1, c2, c3⟩ := keepP E3 b1 b2 b3
        split at hlp
        · rename_i y' M3 eE
          rw [eE]
          intro H4 θ4 E4 S4 v r4
          obtain ⟨d1, d2, d3⟩ := keepP E4 c1 c2 c3
          split at hlp
          · rename_i ys' M4 ek
            cases hlp
            have rs4 := (((rs.ext E2).ext E3).ext E4)
            have hlen : acc.length < sizeLine := by
              rw [rs.length]
              rw [ht, List.length_append, List.length_cons] at hz
              omega
            have E5 : Ext H θ H4 θ4 := ((E1.trans E2).trans E3).trans E4
            refine ⟨acc, d3, hlen, θ4, M3, acc ++ [v], ds ++ [y'], ys', ⟨E5.pre, E5.sub, fun b o hb n t => ?_, E5.new, E5.newl⟩, S4.touch d1 d2 d3 (plain_lst acc) (plain_lst _).1, d1, d2, upd_same, (rs4.append (.cons r4 .nil)).touch d1, ek, by rw [ht, List.append_assoc]; rfl⟩
            rw [upd_ne (ne_of_none hb hp)]
            exact E5.keep b o hb n t
          · cases hlp
        · cases hlp
      · rename_i M2 eT
        rw [eT]
        intro H3 θ3 E3 S3
        obtain ⟨c1, c2, c3⟩ := keepP E3 b1 b2 b3
        exact iteF ⟨θ3, M2, acc, ds, ys, (E1.trans E2).trans E3, S3, c1, c2, c3, (rs.ext E2).ext E3, hlp, ht⟩
      · cases hlp
theorem lc_rd {W : WX} {own : Bool} {T : TgC} {ft : FE Bool} {fe : FE D} {ws : List Nat} {fi : FE IT} {σ : L2.St} {H : Hp} {Q : VK} (hK : G.K = X.K) (hw : ∀ i ∈ T.ix, i ∈ ws) (h : rdE G W (fLc own fi T ft fe ws) σ H Q) :
    tLc (fun σ H R => ∃ ρ θ M, StR G σ H ρ θ M ∧ postR G W σ H θ (fun H' θ' _ p => ∀ J, ItD G H' θ' p.at_ J → R J H') (fi ρ M)) (T.k X.K) (rdT G WF ft) (rdE G WF fe) ws σ H Q := by
  obtain ⟨ρ, θ, M, S, q⟩ := h
  have q : postR G W σ H θ (fun H' θ' _ d => ∀ v, Rep G H' θ' v d → Q v H') ((fi ρ M).bind fun p M1 => kLc own (lcI T ft fe ws ρ p M1)) := q
  refine ⟨ρ, θ, M, S, q.seq fun it N H1 θ1 E1 S1 q1 J JD p hp => ?_⟩
  unfold kLc at q1
  split at q1
  · rename_i tot Mf et
    split at q1
    · rename_i hz
      have fin : ∀ H' θ' acc, Ext (upd H1 p (.lst [])) (θ1.hid p) H' θ' ∨ (Ext H1 θ1 H' θ' ∧ True) → Ext H1 θ1 H' θ' → p ∈ θ'.av → p ∉ θ'.lb → H' p = some (.lst acc) → Reps G H' θ' acc tot → StoR G H' θ' Mf → Q (.ref p) H' := fun H' θ' acc _ E a1 a2 a3 rs SF => by
        have hu : upd H' p (.lst acc) = H' := by
          funext b
          by_cases e : b = p
          · rw [e, upd_same, a3]
          · rw [upd_ne e]
        cases own with
        | true =>
          rw [if_pos rfl] at q1
          have S' := ad_sto (o' := .lst acc) (m := .lst tot) SF a1 a2 a3 (plain_lst acc) ⟨acc, upd_same, ad_reps a1 rs⟩
          rw [hu] at S'
          refine q1 H' (θ'.adopt p a1) ⟨E.pre.trans ⟨[p], rfl⟩, E.sub, E.keep, E.new, fun b hb n u e => ?_⟩ S' _ (.own (ad_own SF a1))
          rcases List.mem_append.mp hb with hb | hb
          · exact E.newl b hb n u e
          · rw [List.mem_singleton.mp hb, hp] at e
            cases e
        | false =>
          rw [if_neg Bool.false_ne_true] at q1
          have S' := hid_sto (o' := .lst acc) SF a1 a2 a3 (plain_lst acc) (plain_lst acc).1
          have R' := hid_reps (o' := .lst acc) a1 rs
          rw [hu] at S' R'
          exact q1 H' (θ'.unh p) ⟨E.pre, fun a ha => List.mem_filter.mpr ⟨E.sub a ha, by
            have z : a ≠ p := fun z => S1.out hp (by rw [← z]; exact ha)
            simp [z]⟩, E.keep, fun b hb n => E.new b (Th.unh_sub θ' p b hb) n, E.newl⟩ S' _ (.lst a3 (Th.unh_out θ' a2) R')
      cases it with
      | fix ds =>
        refine lc_turns (fun m i M => if m + i = ds.length then lcD T ft fe ws ρ (ds.drop i) M else .bad) ds.length hK JD ⟨S.1.ext E1, S1⟩ hp hw (fun m i M2 => ?_) ?_ hz fin
        · by_cases hm : m + i = ds.length
          · refine .inr ⟨ds, rfl, ?_⟩
            show (_ ∧ (if m + i = ds.length then lcD T ft fe ws ρ (ds.drop i) M2 else .bad) = _) ∨ ∃ d m', _ ∧ _ ∧ (if m + i = ds.length then lcD T ft fe ws ρ (ds.drop i) M2 else .bad) = _
            rw [if_pos hm]
            by_cases hlt : i < ds.length
            · obtain ⟨m', rfl⟩ : ∃ m', m = m' + 1 := ⟨m - 1, by omega⟩
              refine .inr ⟨ds[i], m', List.getElem?_eq_getElem hlt, Nat.lt_succ_self _, ?_⟩
              rw [List.drop_eq_getElem_cons hlt]
              show lstp T ft fe ws ρ ds[i] M2 (lcD T ft fe ws ρ (ds.drop (i + 1))) = _
              congr 1
              funext M3
              show _ = if m' + (i + 1) = ds.length then _ else _
              rw [if_pos (by omega)]
            · refine .inl ⟨by omega, ?_⟩
              rw [List.drop_eq_nil_of_le (by omega)]
              rfl
          · left
            exact if_neg hm
        · show (if ds.length + 0 = ds.length then lcD T ft fe ws ρ (ds.drop 0) N else .bad) = _
          rw [if_pos (Nat.add_zero _), List.drop_zero]
          exact et
      | own l =>
        have et : (match lstOf N (.own l) with | some ds => lcO T ft fe ws ρ l (ds.length + 1) 0 N | none => .bad) = .ok tot Mf := et
        cases hat0 : lstOf N (.own l) with
        | none => rw [hat0] at et; cases et
        | some ds0 =>
          rw [hat0] at et
          refine lc_turns (fun m i => lcO T ft fe ws ρ l m i) (ds0.length + 1) hK JD ⟨S.1.ext E1, S1⟩ hp hw (fun m i M2 => ?_) et hz fin
          cases m with
          | zero => exact .inl rfl
          | succ m =>
            cases hat : lstOf M2 (.own l) with
            | none => exact .inl (by show lcO T ft fe ws ρ l (m + 1) i M2 = .bad; rw [lcO, hat])
            | some ds =>
              refine .inr ⟨ds, hat, ?_⟩
              cases hi : ds[i]? with
              | none => exact .inl ⟨by simpa using hi, by show lcO T ft fe ws ρ l (m + 1) i M2 = _; rw [lcO, hat]; simp [hi]⟩
              | some d => exact .inr ⟨d, m, rfl, Nat.lt_succ_self _, by show lcO T ft fe ws ρ l (m + 1) i M2 = _; rw [lcO, hat]; simp [hi]⟩
      | gen l =>
        have et : (match l N with | some ds => lcE T ft fe ws ρ l (ds.length + 1) 0 N | none => .bad) = .ok tot Mf := et
        cases hat0 : l N with
        | none => rw [hat0] at et; cases et
        | some ds0 =>
          rw [hat0] at et
          refine lc_turns (fun m i => lcE T ft fe ws ρ l m i) (ds0.length + 1) hK JD ⟨S.1.ext E1, S1⟩ hp hw (fun m i M2 => ?_) et hz fin
          cases m with
          | zero => exact .inl rfl
          | succ m =>
            cases hat : l M2 with
            | none => exact .inl (by show lcE T ft fe ws ρ l (m + 1) i M2 = .bad; rw [lcE, hat])
            | some ds =>
              refine .inr ⟨ds, hat, ?_⟩
              cases hi : ds[i]? with
              | none => exact .inl ⟨by simpa using hi, by show lcE T ft fe ws ρ l (m + 1) i M2 = _; rw [lcE, hat]; simp [hi]⟩
              | some d => exact .inr ⟨d, m, rfl, Nat.lt_succ_self _, by show lcE T ft fe ws ρ l (m + 1) i M2 = _; rw [lcE, hat]; simp [hi]⟩
    · exact q1.elim
  · exact q1.elim
abbrev BlkCx (X : Cx) (scope : Scope) (s : Shared) (H : Hp) (C : Addr) (cl : List (Str × Addr)) (fp : List Addr) : Cx := X.blk s H scope (compEnvC scope cl C X.env) fp
/-- a clause's tests -/
def DTs (G : Cfg) (X : Cx) (ifs : List Expr) (f : FE Bool) : Prop := Okc G X → PTs X ifs (rdT G WF f)
def dYes : FE Bool := fun _ M => .ok true M
theorem dts_nil : DTs G X [] dYes := fun ok => PTs.imp pts_nil fun σ H Q h => by
  obtain ⟨ρ, θ, M, S, q⟩ := h
  exact q H θ (Ext.refl _ _) S.2
theorem dts_one {c : Expr} {f : FE Bool} (h : DT G X c f) : DTs G X [c] f := fun ok => pts_one (h ok WF takes0)
theorem blk_ok {scope : Scope} {s : Shared} {H : Hp} {C : Addr} {cl : List (Str × Addr)} {fp : List Addr} (ok : Okc G X) : Okc G (BlkCx X scope s H C cl fp) := ⟨ok.hk, ok.calm, ok.hu⟩
variable {elt tg iter : Expr} {ifs : List Expr} {scope : Scope} {pos : Pos} {T : TgC} {ft : FE Bool} {fe : FE D} {fi : FE IT} {ix : List (Str × Nat)}
theorem de_lc (own : Bool) (hN : X.N.Nodup) (okB : BlkOk X.N X.env.scope scope ix) (hi : DI G X tg iter fi) (hw : ∀ i ∈ T.ix, i ∈ ix.map (·.2))
    (hg : ∀ (s : Shared) (H : Hp) (C : Addr) (cl : List (Str × Addr)) (fp : List Addr), X.calm = true → PG (BlkCx X scope s H C cl fp) tg (T.k X.K)) (ht : ∀ (s : Shared) (H : Hp) (C : Addr) (cl : List (Str × Addr)) (fp : List Addr), DTs G (BlkCx X scope s H C cl fp) ifs ft)
    (he : ∀ (s : Shared) (H : Hp) (C : Addr) (cl : List (Str × Addr)) (fp : List Addr), DE G (BlkCx X scope s H C cl fp) elt fe) (hs : ∀ x, foldedSetIterable iter X.env x = pure x := by intro _; rfl) :
    DE G X (.ListComp elt [⟨tg, iter, ifs, 0⟩] scope pos) (fLc own fi T ft fe (ix.map (·.2))) := fun ok W tk =>
  (pe_lc ok.calm hN (hi ok W tk) okB (fun s H C cl fp => hg s H C cl fp ok.calm) (fun s H C cl fp => ht s H C cl fp (blk_ok ok)) (fun s H C cl fp => he s H C cl fp (blk_ok ok) WF takes0) hs).imp fun σ H Q h => lc_rd ok.hk hw h
theorem ds_setLc (own : Bool) (i : Nat) {y : Str} {py spos : Pos} (hN : X.N.Nodup) (okB : BlkOk X.N X.env.scope scope ix) (hi : DI G X tg iter fi) (hw : ∀ i ∈ T.ix, i ∈ ix.map (·.2))
    (hg : ∀ (s : Shared) (H : Hp) (C : Addr) (cl : List (Str × Addr)) (fp : List Addr), X.calm = true → PG (BlkCx X scope s H C cl fp) tg (T.k X.K)) (ht : ∀ (s : Shared) (H : Hp) (C : Addr) (cl : List (Str × Addr)) (fp : List Addr), DTs G (BlkCx X scope s H C cl fp) ifs ft)
    (he : ∀ (s : Shared) (H : Hp) (C : Addr) (cl : List (Str × Addr)) (fp : List Addr), DE G (BlkCx X scope s H C cl fp) elt fe) (hy : X.N[i]? = some y := by rfl) (hyl : X.env.scope.names.lookup y = some .local := by rfl)
    (hsw : swapsWith (.ListComp elt [⟨tg, iter, ifs, 0⟩] scope pos) (some (.Name y py)) spos.line X.env = pure true := by exact sw_true rfl rfl rfl rfl) (hs : ∀ x, foldedSetIterable iter X.env x = pure x := by intro _; rfl) :
    DS G X (.Assign [.Name y py] (.ListComp elt [⟨tg, iter, ifs, 0⟩] scope pos) spos) (sSet i (fLc own fi T ft fe (ix.map (·.2)))) := fun ok po W tk => by
  refine (ps_setLc ok.calm hN hy hyl hsw (hi ok W tk) okB (fun s H C cl fp => hg s H C cl fp ok.calm) (fun s H C cl fp => ht s H C cl fp (blk_ok ok)) (fun s H C cl fp => he s H C cl fp (blk_ok ok) WF takes0) hs).imp fun D0 σ H h => ?_
  obtain ⟨ρ, θ, M, S, q⟩ := h
  refine lc_rd (own := own) ok.hk hw ⟨ρ, θ, M, S, ?_⟩
  exact postS.seq (g := fun d M1 => .nx (ρ.set i (some d)) M1) S.1 q fun d M1 H1 θ1 E S1 q1 v r => q1 _ H1 θ1 (Ext.refl _ _) ⟨(S.1.ext E).set i r, S1⟩
end
end DL
set_option maxHeartbeats 4000000
namespace PySem.W
open PySem PySem.Spec PySem.Calls PyProof.Rows
section
variable {prog : Program} {w : World} {A : Around} {E : Value → Shared → Prop} {s : Shared} {K : Frag} {x D : Addr} {ox od : Obj}
/-- isinstance asks an exception that has its dict -/
theorem kin_classD {Q : Option Value → Shared → Prop} (g1 : findIn K (.ref D) "__getattribute__" = some (some (.builtin "BaseException.__getattribute__"))) (g2 : findIn K (.ref D) "__getattr__" = some none) (g3 : subIn K (.ref D) (.type "BaseException") = some true)
    (g4 : hasDictIn K D = true) (g5 : findIn K (.ref D) "__class__" = some (some (.builtin "object.__class__")))
    (g6 : specialIn K (.builtin "object.__class__") "__get__" = some (some (.builtin "getset_descriptor.__get__"))) (g7 : takesIn K (.builtin "object.__class__") = some true) (g8 : mroIn K D (.type "object") = some true)
    (X : K.In s.heap) (I : InstAt s.heap x ox D (some od)) (h : Q (some (.ref D)) { s with toks := s.toks + 1 }) : wpAny (model prog w) A (getAttr? (.ref x) "__class__") Q E s := by
  obtain ⟨hp, g, d, t, os⟩ := s
  have Y0 := I.type (M := model prog w)
  have Y1 := looks_findIn (M := model prog w) X g1
  have Y2 := looks_findIn (M := model prog w) X g2
  have Y3 := looks_find (M := model prog w) X I (findObj_data (by obtain ⟨cd, hc, _⟩ := any_some g4; rw [hc]; rfl) g5 g6 g7)
  have Yb : Looks (model prog w) hp (isInstance (.ref x) (.type "BaseException")) true := Y0.andThen (looks_subIn X g3)
  have n1 : (onTheHeap (Value.ref D) && Value.builtin "BaseException.__getattribute__" == Value.builtin "object.__getattribute__") = false := by
    rw [show (Value.builtin "BaseException.__getattribute__" == Value.builtin "object.__getattribute__") = false from by decide +kernel]; rfl
  unfold getAttr? getAttrBy?; unfold getAttrBy
  refine wpAny_bind (wpAny_mkText (wpAny_bind (wpAny_attempt (wpAny_holding (wpAny_bind (Y0.at (wpAny_bind (Y1.at ?_))))))))
  show wpAny _ _ (if (onTheHeap (Value.ref D) && Value.builtin "BaseException.__getattribute__" == Value.builtin "object.__getattribute__") = true then getAttrEveryday (.ref x) (.str "__class__" t) false else getAttrByItsOwn (.ref x) (.str "__class__" t) (.ref D) (.builtin "BaseException.__getattribute__") false false) _ _ _
  rw [n1, if_neg Bool.false_ne_true]
  unfold getAttrByItsOwn; unfold hookBefore
  refine wpAny_bind ?_
  rw [if_pos (show onTheHeap (Value.ref D) = true by rfl)]
  refine Y2.at (wpAny_bind (wpAny_attempt (wpAny_holding ?_)))
  unfold callGetattribute; rw [show (false && onTheHeap (Value.builtin "BaseException.__getattribute__")) = false from rfl, if_neg Bool.false_ne_true]
  unfold boundAndCalled; rw [PySem.F.excAttr_ValueError.ga.bind (.ref x)]
  refine wpAny_bind (wpAny_pure (show wpAny _ _ (call (.builtin "BaseException.__getattribute__") [.ref x, .str "__class__" t]) _ _ _ from ?_))
  refine wpAny_call (codeAny_call_builtin F.excAttr_ValueError.ga.plain F.entry_bexc_ga ?_)
  refine @check_slot (model prog w) _ _ ⟨hp, g, d, t + 1, os⟩ "BaseException.__getattribute__" "BaseException" "__getattribute__" (.ref x) [.str "__class__" t] [] _ (by decide +kernel) (by decide +kernel) Yb (F.args_bexc_ga (.ref x) (.str "__class__" t)) ?_
  unfold Builtin.«object.__getattribute__»; refine wpAny_bind (wpAny_of_eq (a := ((Value.ref x : Value), [Value.str "__class__" t])) (by first | rfl | (simp only [slotArgs]; rfl)) ?_)
  refine wpAny_bind (wpAny_pure (wpAny_bind (Y0.at (wpAny_bind (Y3.at ?_)))))
  show wpAny _ _ (holding [Value.builtin "object.__class__"] (call (.builtin "getset_descriptor.__get__") [.builtin "object.__class__", .ref x, .ref D]) >>= ret) _ _ _
  refine wpAny_bind (wpAny_holding (wpAny_call (class_get (s := ⟨hp, g, d, t + 1, os⟩) (ox := ox) (od := some od) X I g8 (wpAny_pure ?_))))
  show wpAny _ _ (handedOut (.ref D)) _ _ _; rw [handedOut_of (v := .ref D) rfl]
  first | exact wpAny_pure (wpAny_pure h) | exact wpAny_pure h | exact wpAny_pure (wpAny_bind (wpAny_pure (wpAny_pure h)))
theorem kitx_excD (C : L2.ExcC K D) : KitX K (.ref x) (.ref D) (fun h => InstAt h x ox D (some od)) where
  ty := fun _ _ _ I => I.type
  it := fun _ _ X _ => by
    obtain ⟨cd, hc, _⟩ := any_some C.hd
    unfold clsIn at hc
    split at hc
    · rename_i c' d' cd' sl' ho
      exact fun A' Q' E' s' k q => by
        unfold isType loadHead; exact wpAny_bind (wpAny_loadPart (k _ _ (X _ _ ho)) (wpAny_pure q))
    · cases hc
  ne := fun h tp dd its n sl X htp => by
    obtain ⟨cd, hc, _⟩ := any_some C.hd
    refine Bool.eq_false_iff.mpr fun q => ?_
    obtain rfl : D = tp := Value.ref.inj (beq_iff_eq.mp q)
    unfold clsIn at hc
    split at hc
    · rename_i c' d' cd' sl' ho
      exact nomatch (X _ _ ho).symm.trans htp
    · cases hc
  ca := fun X I k => kin_classD C.hg C.hk C.hs C.hd C.ha C.hn C.ht C.hm X I k
end
end PySem.W
namespace DL
open PySem PySem.Spec PyProof.Rows L2
/-! ### isinstance -/
inductive Kd where
  | non | bl | int | str | tup | lst | dic | obj (c : Nat) | exc (c : Nat)
  deriving DecidableEq
def kdOf (M : Sto) : D → Option Kd
  | .non => some .non
  | .bl _ => some .bl
  | .int _ => some .int
  | .str _ => some .str
  | .tup _ => some .tup
  | .lst _ => some .lst
  | .flst _ => some .lst
  | .dic _ _ => some .dic
  | .dit _ _ => some .dic
  | .obj c _ _ => some (.obj c)
  | .exc c _ _ => some (.exc c)
  | .own n => match M[n]? with
    | some (.lst _) => some .lst
    | some (.dic _ _) => some .dic
    | some (.dit _ _) => some .dic
    | some (.ins c _ _) => some (.obj c)
    | none => none
def kdTy (G : Cfg) : Kd → Option Value
  | .non => some (.type "NoneType")
  | .bl => some (.type "bool")
  | .int => some (.type "int")
  | .str => some (.type "str")
  | .tup => some (.type "tuple")
  | .lst => some (.type "list")
  | .dic => some (.type "dict")
  | .obj c => (G.cls[c]?).map .ref
  | .exc c => (G.exs[c]?).map .ref
/-- what the classes must say -/
structure KindsOk (G : Cfg) : Prop where
  obj : ∀ (c : Nat) (C : Addr), G.cls[c]? = some C → Cls G.K C ∧ PySem.W.findIn G.K (.ref C) "__class__" = some (some (.builtin "object.__class__")) ∧ PySem.W.specialIn G.K (.builtin "object.__class__") "__get__" = some (some (.builtin "getset_descriptor.__get__")) ∧
    PySem.W.takesIn G.K (.builtin "object.__class__") = some true ∧ PySem.W.mroIn G.K C (.type "object") = some true
  exc : ∀ (c : Nat) (C : Addr), G.exs[c]? = some C → ExcC G.K C
section
variable {G : Cfg} {H : Hp} {θ : Th} {M : Sto} {v : V} {d : D}
theorem rep_kit (KO : KindsOk G) (S : StoR G H θ M) (r : Rep G H θ v d) {k : Kd} (h : kdOf M d = some k) : ∃ t, kdTy G k = some t ∧ ((∃ K, K = G.K ∧ TyX K H v t) ∨ ∃ (a C : Addr), v = .ref a ∧ t = .ref C ∧ (∃ dd, H a = some (ExH (.ref C) dd a) ∧ ∀ d, dd = some d → ∃ fv, H d = some (.xd fv)) ∧ ExcC G.K C) := by
  cases r with
  | non => cases h; exact ⟨_, rfl, .inl ⟨_, rfl, .base .non⟩⟩
  | bl b => cases h; exact ⟨_, rfl, .inl ⟨_, rfl, .base (.bl b)⟩⟩
  | int b => cases h; exact ⟨_, rfl, .inl ⟨_, rfl, .base (.int b)⟩⟩
  | str b => cases h; exact ⟨_, rfl, .inl ⟨_, rfl, .base (.str b)⟩⟩
  | tup h' n r =>
    cases h
    obtain ⟨o, _, h'⟩ := h'
    exact ⟨_, rfl, .inl ⟨_, rfl, .fTuple h'⟩⟩
  | ktup h' r =>
    cases h
    obtain ⟨o, its, n, e1, e2, _⟩ := h'
    exact ⟨_, rfl, .inl ⟨_, rfl, .kTuple e1 e2⟩⟩
  | lst h' n r => cases h; exact ⟨_, rfl, .inl ⟨_, rfl, .base (.lst h')⟩⟩
  | flst h' n r =>
    cases h
    rcases h' with h' | ⟨o, h'⟩
    · exact ⟨_, rfl, .inl ⟨_, rfl, .base (.lst h')⟩⟩
    · exact ⟨_, rfl, .inl ⟨_, rfl, .base (.frz h')⟩⟩
  | klst h' r =>
    cases h
    obtain ⟨o, its, n, e1, e2, _⟩ := h'
    exact ⟨_, rfl, .inl ⟨_, rfl, .kList e1 e2⟩⟩
  | dic h' n hk r => cases h; exact ⟨_, rfl, .inl ⟨_, rfl, .base (.dK h')⟩⟩
  | dit h' n hk r => cases h; exact ⟨_, rfl, .inl ⟨_, rfl, .base (.dT h')⟩⟩
  | obj hc h' n hk r =>
    cases h
    obtain ⟨k1, k2, k3, k4, k5⟩ := KO.obj _ _ hc
    exact ⟨_, by show (G.cls[_]?).map Value.ref = _; rw [hc]; rfl, .inl ⟨_, rfl, .base (.ins h' k1 k2 k3 k4 k5)⟩⟩
  | exc0 hc h' n =>
    cases h
    exact ⟨_, by show (G.exs[_]?).map Value.ref = _; rw [hc]; rfl, .inr ⟨_, _, rfl, rfl, ⟨none, h', fun _ z => by cases z⟩, KO.exc _ _ hc⟩⟩
  | @exc1 a C dd fv c fs ds hc h' n hd nd hk r ne =>
    cases h
    exact ⟨_, by show (G.exs[_]?).map Value.ref = _; rw [hc]; rfl, .inr ⟨_, _, rfl, rfl, ⟨some dd, h', fun _ z => by cases z; exact ⟨fv, hd⟩⟩, KO.exc _ _ hc⟩⟩
  | @own a n h' =>
    have h : (match M[n]? with | some (.lst _) => some Kd.lst | some (.dic _ _) => some .dic | some (.dit _ _) => some .dic | some (.ins c _ _) => some (.obj c) | none => none) = some k := h
    cases hm : M[n]? with
    | none => rw [hm] at h; cases h
    | some m =>
      rw [hm] at h
      have mr := S.own h' hm
      cases m with
      | lst xs => cases h; obtain ⟨ys, e, _⟩ := mr; exact ⟨_, rfl, .inl ⟨_, rfl, .base (.lst e)⟩⟩
      | dic ks vs => cases h; obtain ⟨ys, e, _⟩ := mr; exact ⟨_, rfl, .inl ⟨_, rfl, .base (.dK e)⟩⟩
      | dit ks vs => cases h; obtain ⟨ys, e, _⟩ := mr; exact ⟨_, rfl, .inl ⟨_, rfl, .base (.dT e)⟩⟩
      | ins c fs vs =>
        cases h
        obtain ⟨C, dx, fv, hc, e, _⟩ := mr
        obtain ⟨k1, k2, k3, k4, k5⟩ := KO.obj _ _ hc
        exact ⟨_, by show (G.cls[_]?).map Value.ref = _; rw [hc]; rfl, .inl ⟨_, rfl, .base (.ins e k1 k2 k3 k4 k5)⟩⟩
section
variable {X : Cx} {a c : Expr} {fa : FE D} {p pos : Pos}
def rIsD (G : Cfg) (r : Kd → Option Bool) : List V → Hp → VK → Prop := fun xs H Q => ∃ θ M x y d k b, xs = [x, y] ∧ StoR G H θ M ∧ Rep G H θ x d ∧ kdOf M d = some k ∧ r k = some b ∧
  ((∃ u, ClsV y u ∧ ∀ t, kdTy G k = some t → PySem.W.kitOne G.K t u = some b) ∨ ∃ tp cs us, y = .ref tp ∧ H tp = some (.tup cs) ∧ Paired ClsV cs us ∧ ∀ t, kdTy G k = some t → PySem.W.kitAny G.K t us = some b) ∧ Q (.bl b) H
theorem cr_isD (ok : Okc G X) (KO : KindsOk G) (r : Kd → Option Bool) : CallR X (.builtin "isinstance") (rIsD G r) := by
  intro pins s σ H xs us Q I rv h
  obtain ⟨θ, M, x, y, d, k, b, rfl, S, rx, hk, hr, hc, q⟩ := h
  have hK := ok.hk
  obtain ⟨t, ht, hx⟩ := rep_kit KO S rx hk
  rcases hx with ⟨K', eK, ty⟩ | ⟨e, C, ex, et, ⟨dd, he, hdd⟩, xc⟩
  · subst eK
    rw [hK] at ty
    rcases hc with ⟨u, cu, hu⟩ | ⟨tp, cs, us', ey, hT, hp, hu⟩
    · exact call_isi pins s σ H _ us Q I rv ⟨x, y, t, u, b, rfl, cu, ty, by rw [← hK]; exact hu t ht, q⟩
    · subst ey
      exact call_isiT pins s σ H _ us Q I rv ⟨x, tp, cs, t, us', b, rfl, hT, hp, ty, by rw [← hK]; exact hu t ht, q⟩
  · subst ex et
    rw [hK] at xc
    obtain ⟨u1, u2, rfl, r1, r2⟩ := Vals.two rv
    obtain rfl : u1 = Value.ref e := r1
    obtain ⟨⟨oe, vs, h1, hz, hd⟩, _⟩ := (show ObjOk X.prog X.w H s.heap e (ExH (.ref C) dd e) from I.hok e _ he)
    obtain ⟨Pz, Z, inst⟩ : ∃ Pz : Heap → Prop, PySem.W.KitX X.K (.ref e) (.ref C) Pz ∧ Pz s.heap := by
      cases dd with
      | none => exact ⟨fun h => PySem.W.InstAt h e oe C none, PySem.W.handS_kitx_exc (ox := oe) (x := e) xc.hg xc.hk xc.hs xc.hd xc.ha xc.hn xc.ht xc.hm, ⟨h1, hz.1, by unfold PySem.W.notCls; rw [hd], by rw [hz.2]; trivial⟩⟩
      | some d =>
        obtain ⟨fv, hx⟩ := hdd d rfl
        obtain ⟨mA, ⟨o, es, ep, ho, _⟩, _⟩ := (show ObjOk X.prog X.w H s.heap d (.xd fv) from I.hok d _ hx)
        exact ⟨fun h => PySem.W.InstAt h e oe C (some o), PySem.W.kitx_excD xc, ⟨h1, hz.1, by unfold PySem.W.notCls; rw [hd], by rw [hz.2]; exact ho⟩⟩
    rcases hc with ⟨u, cu, hu⟩ | ⟨tp, cs, us', ey, hT, hp, hu⟩
    · have e2 := cu.eq r2
      subst e2
      exact PySem.W.kia_one Z I.kIn inst (by rw [← hK]; exact hu _ ht) (fun z => nomatch z) fun tk => ⟨.bl b, H, I.tok tk, rfl, q⟩
    · subst ey
      obtain rfl : u2 = Value.ref tp := r2
      obtain ⟨_, its, rvs, o, g1, g2, n, g3⟩ := (show ObjOk X.prog X.w H s.heap tp (.tup cs) from I.hok tp _ hT)
      have e3 := ClsV.all hp rvs
      subst e3
      obtain ⟨oc, od, dt, sl⟩ := o
      simp only at g2 g3
      subst g2 g3
      exact PySem.W.kia_tup Z I.kIn inst g1 (by rw [← hK]; exact hu _ ht) (fun z => nomatch z) fun tk => ⟨.bl b, H, I.tok tk, rfl, q⟩
def dIsi (r : Kd → Option Bool) (fa : FE D) : FE D := fun ρ M => (fa ρ M).bind fun x M1 => match kdOf M1 x with
  | some k => match r k with
    | some b => .ok (.bl b) M1
    | none => .bad
  | none => .bad
def kIsi (r : Kd → Option Bool) (x : D) (N : Sto) : Res D := match kdOf N x with
  | some k => match r k with
    | some b => .ok (.bl b) N
    | none => .bad
  | none => .bad
theorem de_isi (KO : KindsOk G) {y : V} {u : Value} (r : Kd → Option Bool) (hm : X.mg "isinstance" = none) (ha : DE G X a fa) (hc : PE X c (tC y)) (cu : ClsV y u) (hr : ∀ k t b, kdTy G k = some t → r k = some b → PySem.W.kitOne G.K t u = some b) (hg : Gl X "isinstance" := by rfl)
    (hst : starEach [a, c] X.env = (false, eval a X.env) :: starEach [c] X.env := by rfl) (hst2 : starEach [c] X.env = (false, eval c X.env) :: starEach [] X.env := by rfl) (hpl : (backTo pos (starEach [c] X.env)).any (·.1) = false := by rfl) :
    DE G X (.Call (.Name "isinstance" p) [a, c] [] pos) (dIsi r fa) := fun ok W tk => by
  refine (pe_callB (cr_isD ok KO r) hg hm (by decide +kernel) (pa_cons (ha ok W tk) (pa_cons hc pa_nil hst2) hst) (by decide) (by decide) hst hpl).imp fun σ H Q h => ?_
  obtain ⟨ρ, θ, M, S, q⟩ := h
  show rdE G W fa σ H fun x H1 => rIsD G r [x, y] H1 Q
  refine rdE_seq (g := fun x _ N => kIsi r x N) S q fun x v H1 θ1 N S1 E1 r1 q1 => ?_
  unfold kIsi at q1
  split at q1
  · rename_i k hk
    split at q1
    · rename_i b hb
      exact ⟨θ1, N, v, y, x, k, b, rfl, S1.2, r1, hk, hb, .inl ⟨u, cu, fun t ht => hr k t b ht hb⟩, q1 H1 θ1 (Ext.refl _ _) S1.2 _ (.bl b)⟩
    · exact q1.elim
  · exact q1.elim
/-- the second is a built-in type -/
def kName : Kd → Option String
  | .non => some "NoneType"
  | .bl => some "bool"
  | .int => some "int"
  | .str => some "str"
  | .tup => some "tuple"
  | .lst => some "list"
  | .dic => some "dict"
  | _ => none
def isTy (n : String) (k : Kd) : Option Bool := (kName k).bind fun a => kitB a n
theorem isTy_ok {n : String} (k : Kd) (t : Value) (b : Bool) (ht : kdTy G k = some t) (h : isTy n k = some b) : PySem.W.kitOne G.K t (.type n) = some b := by
  unfold isTy at h
  obtain ⟨z, h1, h2⟩ := Option.bind_eq_some_iff.mp h
  cases k <;> cases h1 <;> (cases ht; exact kit_ty h2)
theorem de_isiT (KO : KindsOk G) {n : String} {x : Str} {px : Pos} (hm : X.mg "isinstance" = none) (hx : X.mg x = none) (ha : DE G X a fa) (hv : bootBuiltins x = some (.type n) := by decide +kernel) (hgx : Gl X x := by rfl) (hn : x ≠ "__name__" := by decide) (hd : (x == ("__debug__" : Str)) = false := by decide) (hg : Gl X "isinstance" := by rfl)
    (hst : starEach [a, .Name x px] X.env = (false, eval a X.env) :: starEach [.Name x px] X.env := by rfl) (hst2 : starEach [.Name x px] X.env = (false, eval (.Name x px) X.env) :: starEach [] X.env := by rfl) (hpl : (backTo pos (starEach [.Name x px] X.env)).any (·.1) = false := by rfl) :
    DE G X (.Call (.Name "isinstance" p) [a, .Name x px] [] pos) (dIsi (isTy n) fa) :=
  de_isi KO (isTy n) hm ha (pe_bltn (v := .ty n) hgx hx hv rfl hn hd) (.ty n) (fun k t b => isTy_ok k t b) hg hst hst2 hpl
/-- .. an own class, by a table -/
theorem de_isiC (KO : KindsOk G) {x : Str} {C : Addr} {px : Pos} (r : Kd → Option Bool) (hm : X.mg "isinstance" = none) (hx : X.mg x = some (.ref C)) (hr : ∀ k t b, kdTy G k = some t → r k = some b → PySem.W.kitOne G.K t (.ref C) = some b) (ha : DE G X a fa) (hgx : Gl X x := by rfl) (hd : (x == ("__debug__" : Str)) = false := by decide) (hg : Gl X "isinstance" := by rfl)
    (hst : starEach [a, .Name x px] X.env = (false, eval a X.env) :: starEach [.Name x px] X.env := by rfl) (hst2 : starEach [.Name x px] X.env = (false, eval (.Name x px) X.env) :: starEach [] X.env := by rfl) (hpl : (backTo pos (starEach [.Name x px] X.env)).any (·.1) = false := by rfl) :
    DE G X (.Call (.Name "isinstance" p) [a, .Name x px] [] pos) (dIsi r fa) :=
  de_isi KO r hm ha (pe_glob (v := .ref C) hgx hx rfl hd) (.own C) hr hg hst hst2 hpl
/-! ### repr -/
def gRepr (M : Sto) : List D → Option D
  | [x] => match toPy M x with
    | some d => if d.showable = true ∧ d.hasDict = false ∧ d.depth ≤ 60 ∧ d.shown.length ≤ sizeLine then some (.str d.shown) else none
    | none => none
  | _ => none
theorem cd_repr (hgd : X.A.guards = some []) : CallD G X (.builtin "repr") gRepr := fun ok => by
  intro pins s σ H xs us Q I rv h
  obtain ⟨θ, M, ds, d, S, rs, hg, q⟩ := h
  unfold gRepr at hg
  split at hg
  · rename_i x
    split at hg
    · rename_i e he
      split at hg
      · rename_i hc
        obtain ⟨h1, h2, h3, h4⟩ := hc
        cases hg
        cases rs with
        | cons r1 rs =>
          cases rs
          rename_i v
          obtain ⟨u, rfl, ru⟩ := Vals.one rv
          have dp := rep_dp S r1 he
          rw [ok.hk] at dp
          have fin : ∀ (h' : Heap) (t : Tok) (tk : Nat), (∀ b o, s.heap.get? b = some o → h'.get? b = some o) → EP X pins σ Q (.str e.shown t) { s with heap := h', toks := tk } := fun h' t tk k => ⟨.str e.shown, H, I.kept k, ⟨t, rfl⟩, q _ H (Ext.refl _ _) S (.str _)⟩
          obtain ⟨as, rd⟩ := Dp.reads I e v u dp ru
          cases dp with
          | non => cases ru; exact PySem.P.repr_of_none (fin s.heap _ _ fun _ _ z => z)
          | bl b => cases ru; exact PySem.P.repr_of_bool (fin s.heap _ _ fun _ _ z => z)
          | int i =>
            obtain ⟨t, rfl⟩ := ru
            have hz : i.natAbs.log2 < 1920 := by simpa [PyData.showable] using h1
            exact PySem.P.repr_of_int hz (by have z := fin s.heap s.toks (s.toks + 1) fun _ _ z => z; simpa [PyData.shown] using z)
          | str y =>
            obtain ⟨t, rfl⟩ := ru
            have hz : (reprText y).length ≤ sizeLine := by simpa [PyData.shown] using h4
            exact PySem.P.repr_of_str (by have z := fin s.heap s.toks (s.toks + 1) fun _ _ z => z; simpa [PyData.shown] using z) hz
          | lst hq hr =>
            obtain rfl := ru
            exact repr_of_reads' rd h1 (fun z => by rw [h2] at z; cases z) hgd (by have := ok.hu; omega) (fun _ _ z => z) (fun h' t tk k => fin h' t tk k) h4
          | tup hq hr =>
            obtain rfl := ru
            exact repr_of_reads' rd h1 (fun z => by rw [h2] at z; cases z) hgd (by have := ok.hu; omega) (fun _ _ z => z) (fun h' t tk k => fin h' t tk k) h4
      · cases hg
    · cases hg
  · cases hg
end
end
end DL
set_option maxHeartbeats 4000000
namespace DL
open PySem PySem.Spec PyProof.Rows L2
/-! ### a caught exception becomes known -/
section
variable {X : Cx} {pins : List (Addr × Obj)} {σ : L2.St} {H : Hp} {s : Shared} {a : Addr} {o : HO}
theorem inv_known (I : L2.Inv X pins σ H s) (hn : H a = none) (new : X.s_0.heap.get? a = none) (nL : a ≠ X.env.locals) (nc : ∀ x c, X.env.cells.lookup x = some c → c ≠ a) (np : ∀ p ∈ X.pn ++ pins, p.1 ≠ a) (ha : ObjOk X.prog X.w (upd H a o) s.heap a o) : L2.Inv X pins σ (upd H a o) s := by
  have up : ∀ {b : Addr} {u : HO}, H b = some u → upd H a o b = some u := fun {b u} e => by rw [upd_ne (ne_of_none e hn)]; exact e
  refine ⟨I.ok, I.os, I.bare, ⟨I.base.keep, I.base.slot, fun b ob e n hx => ?_, I.base.there, fun b xs e => up (I.base.tups b xs e), fun b ob u e => up (I.base.frzs b ob u e), fun b ps e => ?_⟩, I.loc, I.cell, ?_, fun x c e => ?_, fun p hp => ?_, fun b u e => ?_, I.len⟩
  · rw [upd_ne (fun z => by rw [z, new] at e; cases e)]
    exact I.base.free b ob e n hx
  · obtain ⟨more, e1⟩ := I.base.tbls b ps e
    exact ⟨more, up e1⟩
  · rw [upd_ne (Ne.symm nL)]; exact I.free
  · rw [upd_ne (nc x c e)]; exact I.freeC x c e
  · obtain ⟨e1, e2, e3⟩ := I.pin p hp
    exact ⟨e1, by rw [upd_ne (np p hp)]; exact e2, e3⟩
  · by_cases z : b = a
    · subst z
      rw [upd_same] at e
      cases e
      exact ha
    · rw [upd_ne z] at e
      exact (I.hok b u e).stay (fun c u' _ q => q) (fun c q => up q) fun c xs q => up q
end
/-- what the clause 'except x as n' wishes, the caught object known behind the suite -/
def wKeep (K : PySem.W.Frag) (c : Value) (i : Nat) (ts : Addr → TS) (Wout : WX) (D : Ends) : WX := fun cls d σ H =>
  ∃ b, PySem.W.exmOne K cls c = some b ∧ (b = true → ∀ a, H a = none → ts a { nx := fun σ' H' => H' a = none → D.nx (σ'.set i none) (upd H' a (ExH cls d a)), rt := fun _ _ => False } (σ.set i (some (.ref a))) H) ∧ (b = false → Wout cls d σ H)
section
variable {X : Cx} {x n : Str} {c : Value} {i : Nat} {body suite : List Stmt} {b₀ : Stmt} {np pos pos' : Pos} {tb : WX → TS} {ts : Addr → TS} {Wout : WX}
theorem ps_try_keep (hs : X.stack = X.env :: X.outer) (hf : X.env.frame = some X.env.locals) (hex : X.ex = []) (hN : X.N.Nodup) (hi : X.N[i]? = some n) (hln : X.env.kindOf n = some .local) (hc : Names X x c) (tk : Takes X Wout)
    (hb : ∀ (W : WX) (pn : List (Addr × Obj)) (xe : Value → Shared → Prop), Takes (X.tr pn xe) W → PassesOwn (model X.prog X.w) X.A X.env xe → PSs (X.tr pn xe) body (tb W)) (hsu : ∀ (a : Addr) (oe : Obj) (pn : List (Addr × Obj)), PSs (X.suite a ((a, oe) :: pn)) (b₀ :: suite) (ts a)) :
    PS X (.Try body [.ExceptHandler (some (.Name x np)) (some n) (b₀ :: suite) pos'] [] [] pos) (fun D σ H => tb (wKeep X.K c i ts Wout D) D σ H) := by
  refine ⟨fun pins s σ H D I h => ?_⟩
  have ok := I.ok
  have frm : X.A.frames = some (X.env :: X.outer) := by rw [ok.frames, hs]
  let hd := [ExceptHandler.ExceptHandler (some (.Name x np)) (some n) (b₀ :: suite) pos']
  let cat : Value → Shared → Prop := fun e s₃ => wpAny (model X.prog X.w) X.A (handleBy e X.env hd) (SP X pins D) X.xe s₃
  have tks : Takes (X.tr (X.pn ++ pins) fun e s₁ => wpAny (model X.prog X.w) X.A (noteFrame e X.env) (fun _ s₂ => wpAny (model X.prog X.w) X.A (setFlight e none) (fun _ s₃ => cat e s₃) X.xe s₂) X.xe s₁) (wKeep X.K c i ts Wout D) := fun u s' xx => by
    obtain ⟨a, B, sI, pins', σ', H', cls, d, rfl, J', nb, up, sky, na, os, ag, b, hb1, hyes, hno⟩ := xx
    have J : L2.Inv X pins σ' H' sI := J'.ofTry ok
    show wpAny (model X.prog X.w) X.A (noteFrame (.ref a) X.env) _ _ _
    refine Sky.land Zc.steady frm hf (by rw [← hs]; exact sky) fun h3 fl3 up3 => ?_
    have J3 : L2.Inv X pins σ' H' { s' with heap := h3 } := J.landed nb fl3.1 (up.trans up3) os ag
    obtain ⟨oe3, vs3, he3, hz3, hd3⟩ := fl3.there
    have nfr : a ∉ frs (X.env :: X.outer) := fun hm => by
      obtain ⟨_, o', e', hnf⟩ := fl3.2.2.1.mem hm
      rw [he3] at e'
      cases e'
      exact hnf _ hd3
    have nL : a ≠ X.env.locals := fun z => nfr (List.mem_filterMap.mpr ⟨X.env, List.mem_cons_self, by rw [hf, z]⟩)
    have nF : a ∉ X.fs := fun hm => by
      obtain ⟨e, he, q⟩ := List.mem_filterMap.mp hm
      exact nfr (List.mem_filterMap.mpr ⟨e, List.mem_cons_of_mem _ he, q⟩)
    -- a is newer than the state ahead of the raise
    have nI : sI.heap.get? a = none := by
      cases e : sI.heap.get? a with
      | none => rfl
      | some o =>
        have z := nb a o e (by rw [show (X.tr (X.pn ++ pins) fun e s₁ => wpAny (model X.prog X.w) X.A (noteFrame e X.env) (fun _ s₂ => wpAny (model X.prog X.w) X.A (setFlight e none) (fun _ s₃ => cat e s₃) X.xe s₂) X.xe s₁).stack = X.stack from rfl, hs]; exact nfr)
        rw [fl3.2.1] at z
        cases z
    have nS : X.s_0.heap.get? a = none := by
      cases e : X.s_0.heap.get? a with
      | none => rfl
      | some o =>
        obtain ⟨o', z⟩ := J.base.there a o e (by rw [hex]; exact List.not_mem_nil)
        rw [nI] at z
        cases z
    have nP : ∀ p ∈ X.pn ++ pins, p.1 ≠ a := fun p hp z => by
      have q := (J.pin p hp).1
      rw [z, nI] at q
      cases q
    have S3 := J3.suite he3 hd3 na nL nF
    show wpAny (model X.prog X.w) X.A (handleBy (.ref a) X.env hd) _ _ _
    refine wpAny_handleBy_cons (codeAny_handlers_test ?_) (by intro q; cases q)
    have LM := PySem.W.exm_one (M := model X.prog X.w) J3.kIn (fun A Q E s k q => wpAny_typeOf_ref (k _ _ he3) (by rw [hz3.1]; exact q)) hb1
    have test : ∀ {Q : Value → Shared → Prop} {E : Value → Shared → Prop}, Q c { s' with heap := h3 } → wpAny (model X.prog X.w) (X.A.mark (some (.ref a))) (eval (.Name x np) X.env) Q E { s' with heap := h3 } := fun {Q E} q => by
      obtain ⟨hg, hdbg, hm | ⟨hm, hv, hnn⟩⟩ := hc
      · exact ld_glob (X := X.suite a ((a, oe3) :: (X.pn ++ pins))) S3 hg hm q hdbg
      · exact ld_blt (X := X.suite a ((a, oe3) :: (X.pn ++ pins))) S3 hg hm hv q hnn hdbg
    refine test (LM.here ?_)
    cases b with
    | true =>
      refine codeAny_handlers_suite_as (HandSPX.lands_againZ fl3 fun h4 fl4 up4 => ?_)
      have J4 : L2.Inv X pins σ' H' { s' with heap := h4 } := J.landed nb fl4.1 ((up.trans up3).trans up4) os ag
      obtain ⟨oe4, vs4, he4, hz4, hd4⟩ := fl4.there
      have S4 := J4.suite he4 hd4 na nL nF
      refine store_ok (X := X.suite a ((a, oe4) :: (X.pn ++ pins))) (v := .ref a) S4 hN hi (.inl hln) rfl (fun s5 S5 => ?_) (.inr hln)
      refine wpAny_mono ((hsu a oe4 (X.pn ++ pins)).run [] s5 _ H' _ S5 (hyes rfl a na)) (fun f s6 hsp => ?_) (fun _ _ z => False.elim z)
      cases f with
      | next =>
        obtain ⟨σ6, H6, S6, q6⟩ := hsp
        have pin6 := S6.pin (a, oe4) (List.mem_append_left _ List.mem_cons_self)
        have J6 := S6.unsuite ok
        have J6k := inv_known (o := ExH cls d a) J6 pin6.2.1 nS nL (fun y cc e z => by
          obtain ⟨v, o', e1, e2⟩ := J6.cell y cc e
          rw [z, pin6.1] at e1
          cases e1
          exact pin6.2.2.2.2 v e2) nP ⟨⟨oe4, vs4, pin6.1, hz4, hd4⟩, ⟨_, pin6.1⟩, fun h1 h2 ⟨oe, vs, e1, e2, e3⟩ k => ⟨oe, vs, k oe e1, e2, e3⟩⟩
        exact gone_ok J6k hN hi hln fun s7 J7 => ⟨_, _, J7, q6 pin6.2.1⟩
      | brk => obtain ⟨_, _, _, q6⟩ := hsp; exact q6.elim
      | cont => obtain ⟨_, _, _, q6⟩ := hsp; exact q6.elim
      | ret u => obtain ⟨_, _, _, _, _, q6⟩ := hsp; exact q6.elim
    | false =>
      show wpAny _ X.A (handleBy (.ref a) X.env []) _ _ _
      refine wpAny_handleBy_nil ?_
      obtain ⟨k1, k2, k3, oe, vs, T, oT, ts', he, hz, hd5, h1, hr⟩ := id fl3
      unfold PySem.passOn
      refine wpAny_bind (wpAny_field he hd5 h1 ?_)
      rw [if_neg (show ¬ ((Value.ref T == Value.none) = true) from by simp)]
      have fin : wpAny (model X.prog X.w) X.A (setFlight (.ref a) X.env.frame) (fun _ s4 => wpAny (model X.prog X.w) X.A (throw (.ref a) : Sem Flow) (SP X pins D) X.xe s4) X.xe { s' with heap := h3 } := by
        rw [hf]
        exact HandSPX.setFlight_upZ fl3 fun h4 hh4 up4 => wpAny_throw (tk _ _ ⟨a, B, sI, pins, σ', H', cls, d, rfl, J, nb, (up.trans up3).trans up4, .inr (.inr (by rw [hs]; exact hh4)), na, os, ag, hno rfl⟩)
      first
        | exact wpAny_bind (wpAny_pure (wpAny_bind fin))
        | exact wpAny_bind fin
  refine wpAny_Try_except (wpAny_mono ((hb (wKeep X.K c i ts Wout D) (X.pn ++ pins) _ tks PassesOwn.looking).run [] s σ H D (I.toTry _) h) (fun f s1 hsp => ?_) fun e s1 he => he)
  cases f with
  | next => obtain ⟨σ', H', J', q⟩ := hsp; exact wpAny_execs_nil ⟨σ', H', J'.ofTry ok, q⟩
  | brk => obtain ⟨σ', H', J', q⟩ := hsp; exact ⟨σ', H', J'.ofTry ok, q⟩
  | cont => obtain ⟨σ', H', J', q⟩ := hsp; exact ⟨σ', H', J'.ofTry ok, q⟩
  | ret u => obtain ⟨v, σ', H', J', r, q⟩ := hsp; exact ⟨v, σ', H', J'.ofTry ok, r, q⟩
end
end DL
set_option maxHeartbeats 4000000
namespace DL
open PySem PySem.Spec PyProof.Rows L2 LamX
/-! ### the def that calls what it got and gives what it caught -/
/-- h = None; try: a() / except e as n: h = n; return h -/
def CatBody (a h n e : Str) (b : List Stmt) : Prop := ∃ (p1 p2 p3 p4 p5 p6 p7 p8 p9 p10 p11 p12 p13 p14 : Pos) (j : Nat), b = [.Assign [.Name h p1] (.Constant .none j p2) p3,
  .Try [.Expr (.Call (.Name a p4) [] [] p5) p6] [.ExceptHandler (some (.Name e p7)) (some n) [.Assign [.Name h p8] (.Name n p9) p10] p11] [] [] p12, .Return (some (.Name h p13)) p14]
def TTcat (K : PySem.W.Frag) (CS : Addr) : (XK → Hp → VK → Prop) → Hp → VK → Prop := fun tl H Q =>
  tl (fun cls d H' => PySem.W.exmOne K cls (.ref CS) = some true ∧ ∀ a, H' a = none → Q (.ref a) (upd H' a (ExH cls d a))) H fun _ H' => Q .non H'
/-- what is to be seen of the def's names -/
structure CatS (a h n e : Str) (sg : Scope) : Prop where
  sc : FnScope [a, h, n] [a] sg
  la : sg.names.lookup a = some .local
  lh : sg.names.lookup h = some .local
  ln : sg.names.lookup n = some .local
  le : sg.names.lookup e = some .globalImplicit
  da : (a == ("__debug__" : Str)) = false
  dh : (h == ("__debug__" : Str)) = false
  dn : (n == ("__debug__" : Str)) = false
  de : (e == ("__debug__" : Str)) = false
  ca : (a == ("__classdict__" : Str)) = false
  ch : (h == ("__classdict__" : Str)) = false
  cn : (n == ("__classdict__" : Str)) = false
theorem cat_gives {X : Cx} {x a h n e q : Str} {sg : Scope} {g CS : Addr} {cdg : Value} {b : List Stmt} (hb : CatBody a h n e b) (S : CatS a h n e sg) (hme : X.mg e = some (.ref CS)) : GivesTo X [a, h, n] x sg g cdg b a q (TTcat X.K CS) := by
  obtain ⟨p1, p2, p3, p4, p5, p6, p7, p8, p9, p10, p11, p12, p13, p14, j, rfl⟩ := hb
  intro f c' s H Q tl act hc hq
  let Y : Cx := (cxOf C8.CX0 X.prog X.w X.K X.mg X.base [a, h, n] x sg g cdg X.A X.stack s H C8.E0).nox
  have hN : Y.N.Nodup := S.sc.nd
  have vh : Vis Y.env.scope h := .inl S.lh
  have vn : Vis Y.env.scope n := .inl S.ln
  have st1 := ps_set (X := Y) (i := 1) (x := h) (e := .Constant .none j p2) (pos := p3) (pos' := p1) hN rfl (.inl S.lh) pe_non rfl (.inl rfl)
  have st3 := ps_ret (X := Y) (pos := p14) (pe_var (X := Y) (i := 1) (x := h) (pos := p13) rfl vh S.dh S.ch)
  have st2 := ps_try_keep (X := Y) (x := e) (n := n) (c := .ref CS) (i := 2) (body := [.Expr (.Call (.Name a p4) [] [] p5) p6]) (b₀ := .Assign [.Name h p8] (.Name n p9) p10) (suite := []) (np := p7) (pos := p12) (pos' := p11) (Wout := fun _ _ _ _ => False)
    (tb := fun W D σ H => ∃ Ech : XK, (∀ (cls : Value) (d : Option Addr) (σ' : L2.St) (H' : Hp), Ech cls d H' → σ'.length = 3 → W cls d σ' H') ∧ σ[0]? = some (some (.ref f)) ∧ H c' = some (CodeO c' q) ∧ tl Ech H fun _ H' => D.nx σ H')
    (ts := fun _ => tAsg (tVar 2) (gName 1)) rfl rfl rfl hN rfl S.ln ⟨S.le, S.de, .inl hme⟩ L2.takes0
    (fun W pn xe tk po => ⟨fun pins s' σ H' D I h' => h'.elim fun Ech hh => by
      obtain ⟨hW, h1, h2, h3⟩ := hh
      have tk' : Takes (Y.tr pn xe) (fun cls d σ' H' => σ'.length = 3 → W cls d σ' H') := fun u s1 xx => tk u s1 (by
        obtain ⟨a1, B, sI, pins1, σ1, H1, cls, d, e1, I1, e2, e3, e4, e5, e6, e7, w⟩ := xx
        exact ⟨a1, B, sI, pins1, σ1, H1, cls, d, e1, I1, e2, e3, e4, e5, e6, e7, w I1.len⟩)
      exact (pss_one (ps_expr (X := Y.tr pn xe) (pos := p6) (act (fun cls d σ' H' => σ'.length = 3 → W cls d σ' H') pn xe Ech p4 p5 tk' fun cls d σ' H' h => hW cls d σ' H' h) rfl)).run pins s' σ H' D I ⟨h1, h2, h3⟩⟩)
    (fun a' oe pn => pss_one (ps_set (X := Y.suite a' ((a', oe) :: pn)) (i := 1) (x := h) (e := .Name n p9) (pos := p10) (pos' := p8) hN rfl (.inl S.lh) (pe_var (i := 2) rfl vn S.dn S.cn) rfl (.inl rfl)))
  refine ⟨_, pss_cons st1 (pss_cons st2 (pss_one st3)), ?_⟩
  show ∃ Ech : XK, _
  refine ⟨fun cls d H' => PySem.W.exmOne X.K cls (.ref CS) = some true ∧ ∀ a, H' a = none → Q (.ref a) (upd H' a (ExH cls d a)), fun cls d σ' H' he hl => ⟨true, he.1, fun _ a' ha' => ?_, fun z => by cases z⟩, rfl, hc, ?_⟩
  · have g2 : (σ'.set 2 (some (V.ref a')))[2]? = some (some (.ref a')) := List.getElem?_set_self (by omega)
    refine ⟨.ref a', g2, fun ha2 => ⟨.ref a', ?_, he.2 a' ha2⟩⟩
    rw [List.getElem?_set_ne (by decide)]
    exact List.getElem?_set_self (by rw [List.length_set]; omega)
  · have ee : (fun (_ : V) (H' : Hp) => tRet (tVar 1) ({ nx := fun _ H' => Q .non H', rt := Q } : Ends) (List.set (L2.start [a, h, n] [V.ref f]) 1 (some V.non)) H') = fun _ H' => Q .non H' := by
      funext v H'
      refine propext ⟨fun ⟨v, e1, e2⟩ => ?_, fun z => ⟨.non, rfl, z⟩⟩
      have e1 : some (some V.non) = some (some v) := e1
      cases e1
      exact e2
    show tl _ H (fun (_ : V) (H' : Hp) => tRet (tVar 1) ({ nx := fun _ H' => Q .non H', rt := Q } : Ends) (List.set (L2.start [a, h, n] [V.ref f]) 1 (some V.non)) H')
    rw [ee]
    exact hq
/-! ### x(lambda: body) -/
def dCaught (fb : FE D) : FE D := fun ρ M => match fb ρ M with
  | .ok _ M' => .ok .non M'
  | .exc c fs vs M' => .ok (.exc c fs vs) M'
  | .bad => .bad
/-- what the law's own def for it is -/
structure CatD (G : Cfg) (mg : Str → Option Value) (x a h n e : Str) (st : Stmt) (g : Addr) (fd : FuncData) (CS : Addr) : Prop where
  fn : Fun G.K x x st g fd
  hm : mg x = some (.ref g)
  body : CatBody a h n e (defBody st)
  s : CatS a h n e (defScope st)
  hme : mg e = some (.ref CS)
  b : L2.Binds G.K fd [a] []
  ex : ∀ (c : Nat) (C : Addr), G.exs[c]? = some C → PySem.W.exmOne G.K (.ref C) (.ref CS) = some true
section
variable {G : Cfg} {X : Cx} {x a h n e : Str} {st : Stmt} {g CS : Addr} {fd : FuncData}
theorem ext_of_n {H H1 : Hp} {θ : Th} (E : ExtN H H1) : Ext H θ H1 θ := ⟨⟨[], by simp⟩, fun _ h => h, fun b o e _ t => E b o e t, fun b h n => absurd h n, fun b h n => absurd h n⟩
theorem sto_of_n {H H1 : Hp} {θ : Th} {M : Sto} (E : ExtN H H1) (S : StoR G H θ M) (t : Tabs G.T H1) : StoR G H1 θ M := ⟨S.nd, S.len, fun n m e => by
  obtain ⟨b, h1, h2⟩ := S.at_ n m e
  obtain ⟨o, h3, h4⟩ := h2.there
  exact ⟨b, h1, h2.ext (ext_of_n E) (by rw [h3, E b o h3 h4.1])⟩, t, fun b hb => by
  obtain ⟨o, h3, h4⟩ := S.hid b hb
  exact ⟨o, E b o h3 h4, h4⟩⟩
/-- x(lambda: body): t at the def's names -/
theorem de_caught {c P : Addr} {k : Nat} {params : Arguments} {body : Expr} {scope : Scope} {fb : FE D} {p lpos pos : Pos} (C : CatD G X.mg x a h n e st g fd CS) (TB : TabB X.base X.mg c P) (hcode : X.env.code = .ref c) (hmT : (P, X.env.qual ++ "<lambda>") ∈ G.T) (hu : ∀ q ∈ G.T, q.1 = P → q.2 = X.env.qual ++ "<lambda>")
    (hr : Room (k + 2) X.A) (hbody : ∀ (A : Around) (outer : List PySem.Env) (s : Shared) (H : Hp) (E : XK) (f c' : Addr), Room k (A.deeper (lamEnv X scope s.heap.objs.size f c')) → DE G (lamCx X A outer s H E scope f c') body fb)
    {sc0 : Scope} (hsc : X.env.scope = sc0) (L : lamSB sc0 scope = true) (hg : Gl X x := by rfl) (hdef : defaultsOf params X.env = ([], []) := by rfl)
    (hbind : ∀ (q : Str) (cl : List (Str × Addr)) (pm cv ctv : Value), bindArgs (PySem.W.kla_fn "<lambda>" q params body scope cl pm cv ctv) ⟨[], []⟩ = pure [] := by intros; rfl) (hdb : (x == ("__debug__" : Str)) = false := by decide) :
    DE G X (.Call (.Name x p) [.Lambda params body scope lpos] [] pos) (dCaught fb) := fun ok W tk => by
  subst hsc
  have F := C.fn
  have hK := ok.hk
  obtain ⟨oc, od, kV, doc, pm, an, cdv, ct, osl, hfd, lk, hcd⟩ := F.ex
  have kp := F.kp
  have bb := C.b
  rw [hfd] at lk bb
  rw [hK] at lk hcd kp bb
  refine (pe_lamcall (T := G.T) (TT := TTcat X.K CS) (a := a) (k := k) (t := fun E => rdE G (fun cls d _ H => E cls d H) fb) hg C.hm kp lk hcd bb C.s.sc rfl (.inl C.s.la) (cat_gives C.body C.s C.hme) TB hcode hmT hu hr (lamS_by L) hdef hbind
    (fun A outer s H E f c' hr2 => hbody A outer s H E f c' hr2 ⟨hK, rfl, by have := hr2.un; show (A.deeper (lamEnv X scope s.heap.objs.size f c')).units + 100 < cLine; omega⟩ _ (L2.takes_of rfl rfl rfl rfl)) hdb C.s.da C.s.ca).imp fun σ H Q q => ?_
  obtain ⟨ρ, θ, M, S, q⟩ := q
  refine ⟨S.2.tabs, fun H1 eN T1 => ?_⟩
  have E1 := ext_of_n (θ := θ) eN
  refine ⟨ρ, θ, M, ⟨S.1.ext E1, sto_of_n eN S.2 T1⟩, ?_⟩
  unfold dCaught at q
  cases er : fb ρ M with
  | ok d M' =>
    rw [er] at q
    exact fun H' θ' E S' v r => q H' θ' (E1.trans E) S' _ .non
  | exc c' fs vs M' =>
    rw [er] at q
    intro cls dd H' θ' E S' hx
    obtain ⟨Cc, hc, ecls, hd⟩ := hx
    subst ecls
    refine ⟨by rw [← hK]; exact C.ex c' Cc hc, fun p hp => ?_⟩
    have Eu : Ext H' θ' (upd H' p (ExH (.ref Cc) dd p)) θ' := Ext.alloc hp _
    refine q _ θ' ((E1.trans E).trans Eu) (S'.alloc hp _) _ ?_
    rcases hd with ⟨rfl, rfl, rfl⟩ | ⟨d2, fv, rfl, h1, h2, h3, h4, h5⟩
    · exact .exc0 hc upd_same (S'.out hp)
    · exact .exc1 hc upd_same (S'.out hp) (by rw [upd_ne (ne_of_none h1 hp)]; exact h1) h2 h3 (h4.ext Eu) h5
  | bad => rw [er] at q; exact q
end
end DL
set_option maxHeartbeats 4000000
namespace DL
open PySem PySem.Spec PyProof.Rows L2 LamX
/-! ### defs that want to know that no repr is under way (guards) -/
structure FnG (P : Program) (w : World) (K : PySem.W.Frag) (mg : Str → Option Value) (base : Heap) (k : Nat) (f : Addr) (fd : FuncData) (ps : List Str) (sp : Sp) : Prop where
  len : ∀ vs H Q E, sp vs H Q E → vs.length = ps.length
  run : ∀ (A : Around) (outer : List PySem.Env) (s : Shared) (H : Hp) (args : Args) (us : List Value) (vs : List V) (Q : VK) (E : XK), A.guards = some [] → Room k A → Env0 P w K mg base A outer s H → BindsTo s fd args (ps.zip us) → Vals vs us → sp vs H Q E →
    codeAny (model P w) A (.call (.ref f) args) (CR (L2.CX P w) outer P w H s Q E) s
section
variable {P : Program} {w : World} {K : PySem.W.Frag} {mg : Str → Option Value} {base : Heap} {G : Cfg}
theorem fn_dataG {name qual : Str} {params : Arguments} {body : List Stmt} {scope : Scope} {dV kV doc pm ct oc cdv : Value} {an od : Option Addr} {osl : Array (Option Value)} {f : Addr} {N ps : List Str} {k : Nat} {g : FS}
    (lk : K.lookup f = some ⟨oc, od, .func (PySem.W.fnOf name qual params body scope dV kV doc pm an cdv ct), osl⟩) (hcd : PySem.W.codeIn K cdv qual = true) (S : FnScope N ps scope) (hG : G.K = K)
    (hb : ∀ (A : Around) (outer : List PySem.Env) (s : Shared) (H : Hp) (E : XK), A.guards = some [] → Room k (A.deeper (envOfC qual scope s.heap.objs.size f cdv)) → DSs G (cxD P w K mg base N qual scope f cdv A outer s H E) body g) :
    FnG P w K mg base (k + 1) f (PySem.W.fnOf name qual params body scope dV kV doc pm an cdv ct) ps (spD G ps.length (fnD N.length g)) :=
  ⟨fun vs H Q E h => h.choose_spec.choose_spec.choose_spec.1, fun A outer s H args us vs Q E gd hr e0 hbt r h =>
    run_ofS lk hcd S hr e0 hbt r h.choose_spec.choose_spec.choose_spec.1 fun hr' => body_data hG hr' (hb A outer s H E gd hr') h⟩
theorem fn_dataGF {x qual : Str} {st : Stmt} {f : Addr} {fd : FuncData} {N ps : List Str} {k : Nat} {g : FS} (F : Fun K x qual st f fd) (S : FnScope N ps (defScope st)) (hG : G.K = K)
    (hb : ∀ (cdv : Value) (A : Around) (outer : List PySem.Env) (s : Shared) (H : Hp) (E : XK), A.guards = some [] → Room k (A.deeper (envOfC qual (defScope st) s.heap.objs.size f cdv)) → DSs G (cxD P w K mg base N qual (defScope st) f cdv A outer s H E) (defBody st) g) :
    FnG P w K mg base (k + 1) f fd ps (spD G ps.length (fnD N.length g)) := by
  obtain ⟨oc, od, kV, doc, pm, an, cdv, ct, osl, rfl, lk, hcd⟩ := F.ex
  exact fn_dataG lk hcd S hG fun A outer s H E gd hr => hb cdv A outer s H E gd hr
structure OwnG (G : Cfg) (P : Program) (w : World) (mg : Str → Option Value) (base : Heap) (k : Nat) (x : Str) (f : Addr) (fd : FuncData) (ps : List Str) (F : List D → Sto → Res D) : Prop where
  ok : FnG P w G.K mg base k f fd ps (spD G ps.length F)
  mgf : mg x = some (.ref f)
  kp : PySem.W.keepIn G.K (.ref f) = true
  b : L2.Binds G.K fd ps []
end
section
variable {G : Cfg} {X : Cx} {e : Expr} {es : List Expr} {fs : FE (List D)} {pos p : Pos} {x : Str} {f : Addr} {fd : FuncData} {ps : List Str} {F : List D → Sto → Res D} {j k : Nat}
theorem run_G {pins : List (Addr × Obj)} {σ : L2.St} {H : Hp} {s : Shared} {Q : VK} {us : List Value} {vs : List V} {sp : Sp} {E : XK} (FO : FnG X.prog X.w X.K X.mg X.base k f fd ps sp) (gd : X.A.guards = some []) (hr : Room k X.A) (hb : L2.Binds X.K fd ps [])
    (hx : PassesAt (L2.CX X.prog X.w) X σ E) (I : L2.Inv X pins σ H s) (r : Vals vs us) (h : sp vs H Q E) : wpAny (model X.prog X.w) X.A (call (.ref f) us) (EP X pins σ Q) X.xe s := by
  have hl : us.length = ps.length := r.length.symm.trans (FO.len _ _ _ _ h)
  have bt := hb s us I.kIn (by rw [List.append_nil]; exact hl)
  rw [List.append_nil] at bt
  have run := FO.run X.A X.stack s H ⟨us, []⟩ us vs Q E gd hr I.env0 bt r h
  exact wpAny_call (codeAny_mono run fun res s' hq => match res, hq with
    | .error e, hq => hx pins H s e s' I hq
    | .ok (.ret u), hq => I.after hq
    | .ok .next, hq => False.elim hq
    | .ok .brk, hq => False.elim hq
    | .ok .cont, hq => False.elim hq)
theorem de_callG (Fo : OwnG G X.prog X.w X.mg X.base j x f fd ps F) (gd : X.A.guards = some []) (hr : Room k X.A) (hj : j ≤ k) (ha : DA G X (e :: es) fs) (hlen : ∀ ρ M ds M', fs ρ M = .ok ds M' → ds.length = (e :: es).length) (hn : (e :: es).length = ps.length := by rfl) (hg : Gl X x := by rfl) (hdb : (x == ("__debug__" : Str)) = false := by decide)
    (he : starEach (e :: es) X.env = (false, eval e X.env) :: starEach es X.env := by rfl) (hpl : (backTo pos (starEach es X.env)).any (·.1) = false := by rfl) :
    DE G X (.Call (.Name x p) (e :: es) [] pos) (dCallF F fs) := fun ok W tk => ⟨fun pins s σ H Q I h => by
  have FO := Fo.ok
  have kp := Fo.kp
  have b := Fo.b
  rw [ok.hk] at FO kp b
  obtain ⟨ρ, θ, M, S, q⟩ := h
  have q : postR G W σ H θ (fun H' θ' _ d => ∀ v, Rep G H' θ' v d → Q v H') ((fs ρ M).bind F) := q
  refine wpAny_Call_Name_kw (ld_glob I hg Fo.mgf ?_ hdb)
  refine PySem.W.callWith_K (h₀ := X.base) I.ok.mod.kin kp (thn ((ha ok W tk).run pos pins s σ H (fun vs H1 => spD G ps.length F vs H1 Q (WE W σ)) I ⟨ρ, θ, M, S, ?_⟩) fun us s1 ⟨vs, H1, I1, r, q1⟩ => ⟨I1.kIn, run_G FO gd (hr.mono hj) b (passAt tk σ) I1 r q1⟩) he hpl
  cases e1 : fs ρ M with
  | ok ds N =>
    rw [e1] at q
    exact fun H1 θ1 E1 S1 vs r1 => ⟨ds, θ1, N, by rw [r1.length, hlen ρ M ds N e1, hn], S1, r1, callF_post (postR.base q E1)⟩
  | exc c fs' vs N => rw [e1] at q; exact q
  | bad => rw [e1] at q; exact q⟩
end
end DL
set_option maxHeartbeats 4000000
namespace DL
open PySem PySem.Spec PyProof.Rows L2 LamX
/-! ### the law's end: the law called from the bare ground, no repr under way -/
section
variable {P : Program} {w : World} {K : PySem.W.Frag} {mg mb : Str → Option Value} {k : Nat} {fa a : Addr} {cs : List (Addr × Addr)} {fd : FuncData} {x : Str} {sp : Sp} {s₁ : Shared} {vs : List Value} {ns : List Int}
/-- what is tracked at the law's entry: the tables, and the script (where it is no constant) -/
def entryH (K : PySem.W.Frag) (cs : List (Addr × Addr)) (a : Addr) (ob : Obj) (xs : List V) : Hp := fun b => if b ∈ cs.map (·.2) then some (.tbl #[]) else if b = a ∧ (K.lookup a).isNone = true then some (.frz ob (.lst xs)) else none
theorem entry_elim {ob : Obj} {xs : List V} {b : Addr} {u : HO} (h : entryH K cs a ob xs b = some u) : (b ∈ cs.map (·.2) ∧ u = .tbl #[]) ∨ (b ∉ cs.map (·.2) ∧ b = a ∧ K.lookup a = none ∧ u = .frz ob (.lst xs)) := by
  unfold entryH at h
  split at h
  · rename_i hb
    cases h
    exact .inl ⟨hb, rfl⟩
  · rename_i hb
    split at h
    · rename_i ha
      cases h
      exact .inr ⟨hb, ha.1, Option.isNone_iff_eq_none.mp ha.2, rfl⟩
    · cases h
theorem law_callG (KX : K.In s₁.heap) (hns : s₁.heap.Ns mainGlobals mg) (hb : s₁.heap.Ns builtinsNs mb) (hbb : ∀ x : Str, x ≠ "__name__" → mb x = bootBuiltins x) (hlim : s₁.heap.NoLimit) (hg : s₁.gens = #[])
    (hT : ∀ p ∈ cs, s₁.heap.get? p.2 = some { cls := .none, data := .fields #[] }) (nT : ∀ p ∈ cs, K.lookup p.2 = none) (C : ∀ p ∈ cs, PySem.W.CodeHd s₁.heap p.1 p.2)
    (hbm : ∃ (bm : Addr) (ob : Obj), mg "__builtins__" = some (.ref bm) ∧ bm ≠ builtinsNs ∧ s₁.heap.get? bm = some ob ∧ ob.cls = .type "module" ∧ ob.dict = some builtinsNs ∧ ob.data = .plain)
    (ha : s₁.heap.get? a = some { cls := .type "list", data := .seq vs.toArray }) (hi : IntsAre vs ns) (hl : ns.length ≤ sizeLine) (hr : Room k callerA)
    (Fg : ∀ base : Heap, K.In base → base.Ns mainGlobals mg → (∀ p ∈ cs, TabB base mg p.1 p.2) → FnG P w K mg base k fa fd [x] sp) (hbind : ∀ (s : Shared) (u : Value), BindsTo s fd ⟨[u], []⟩ [(x, u)])
    (hsp : ∀ H : Hp, (∀ p ∈ cs, H p.2 = some (.tbl #[])) → SqL K H a (ns.map V.int) → sp [.ref a] H (fun v _ => v = .bl true) fun _ _ _ => False) :
    codeAny (model P w) callerA (.call (.ref fa) ⟨[.ref a], []⟩) (fun r s' => r = .ok (.ret (.bool true)) ∧ OldK s₁.heap s'.heap ∧ s'.os = s₁.os ∧ AllBare s'.gens) s₁ := by
  have rv : Vals (ns.map V.int) vs := vals_ints hi
  let lo : Obj := { cls := .type "list", data := .seq vs.toArray }
  let H : Hp := entryH K cs a lo (ns.map V.int)
  have tabAt : ∀ b ∈ cs.map (·.2), s₁.heap.get? b = some { cls := .none, data := .fields #[] } := fun b hb => by
    obtain ⟨p, hp, rfl⟩ := List.mem_map.mp hb
    exact hT p hp
  have nTa : a ∉ cs.map (·.2) := fun z => by
    have q := (tabAt a z).symm.trans ha
    cases q
  have HT : ∀ p ∈ cs, H p.2 = some (.tbl #[]) := fun p hp => if_pos (List.mem_map.mpr ⟨p, hp, rfl⟩)
  have HS : SqL K H a (ns.map V.int) := by
    cases e : K.lookup a with
    | none => exact .inl (.inr ⟨lo, (if_neg nTa).trans (if_pos ⟨rfl, by rw [e]; rfl⟩)⟩)
    | some o =>
      have q := KX a o e
      rw [ha] at q
      cases q
      exact .inr ⟨_, vs.toArray, _, e, rfl, rfl, rfl, by rw [List.size_toArray, hi.length]; exact hl, by simpa using rv⟩
  -- no record but the tables', no list but the script's is tracked
  have free : ∀ {b : Addr} {o : Obj}, s₁.heap.get? b = some o → (o ≠ lo) → (o ≠ { cls := .none, data := .fields #[] }) → H b = none := fun {b o} e n1 n2 => by
    cases q : H b with
    | none => rfl
    | some u =>
      rcases entry_elim q with ⟨h1, _⟩ | ⟨_, h1, _⟩
      · exact absurd (Option.some.inj (e.symm.trans (tabAt b h1))) n2
      · rw [h1] at e
        exact absurd (Option.some.inj (e.symm.trans ha)) n1
  have old : ∀ {b : Addr} {o : Obj}, s₁.heap.get? b = some o → H b = none → (hidT s₁.heap H).get? b = some o := fun e n => hidT_get e n
  have nsOf : ∀ {b : Addr} {m : Str → Option Value}, s₁.heap.Ns b m → (hidT s₁.heap H).Ns b m := fun {b m} ⟨o, es, ep, e, d, r⟩ => ⟨o, es, ep, old e (free e (fun z => by rw [z] at d; cases d) fun z => by rw [z] at d; cases d), d, r⟩
  have KB : K.In (hidT s₁.heap H) := fun b o e => old (KX b o e) (by
    cases q : H b with
    | none => rfl
    | some u =>
      rcases entry_elim q with ⟨h1, _⟩ | ⟨_, h1, h2, _⟩
      · obtain ⟨p, hp, ep⟩ := List.mem_map.mp h1
        have z := nT p hp
        rw [ep, e] at z
        cases z
      · rw [h1, h2] at e
        cases e)
  have MB : L2.Mod K mg (hidT s₁.heap H) := by
    obtain ⟨mc, l1, l2⟩ := hlim
    exact ⟨KB, nsOf hns, ⟨mb, nsOf hb, hbb⟩, mc, nsOf l1, l2⟩
  have OKH : HOk P w H s₁.heap := fun b u q => by
    rcases entry_elim q with ⟨h1, rfl⟩ | ⟨_, rfl, _, rfl⟩
    · exact tabAt b h1
    · exact ⟨ha, by rw [List.length_map]; exact hl, vs, _, rv, ha⟩
  have TBS : ∀ p ∈ cs, TabB (hidT s₁.heap H) mg p.1 p.2 := fun p hp => by
    obtain ⟨o, us, file, tf, flags, tg, inF, text, tt, e1, r1, r2, r3, r4, r5, r6, r7, r8, hne⟩ := C p hp
    obtain ⟨bm, ob, b1, b2, b3, b4, b5, b6⟩ := hbm
    obtain ⟨og, es, ep, g1, g2, _⟩ := hns
    have no1 : ob ≠ lo := fun z => by
      rw [z] at b6
      cases b6
    have no2 : ob ≠ { cls := .none, data := .fields #[] } := fun z => by
      rw [z] at b6
      cases b6
    refine ⟨⟨o, us, file, tf, flags, tg, inF, text, tt, old e1 (free e1 (fun z => ?_) fun z => ?_), r1, r2, r3, r4, r5, r6, r7, r8, hne⟩, ⟨bm, ob, b1, b2, fun z => ?_, fun z => ?_, old b3 (free b3 no1 no2), b4, b5, b6⟩, fun z => ?_⟩
    · rw [z] at r2
      cases r2
    · rw [z] at r2
      cases r2
      simp at r3
    · rw [z, g1] at b3
      cases b3
      rw [g2] at b6
      cases b6
    · rw [z, hT p hp] at b3
      cases b3
      cases b6
    · rw [z, hT p hp] at g1
      cases g1
      cases g2
  have E0' : Env0 P w K mg (hidT s₁.heap H) callerA [] s₁ H := ⟨rfl, MB, fun b o e => of_hidT e, Nat.le_of_eq (hidT_size _ _), trivial, fun b hb => absurd hb List.not_mem_nil, OKH, .of_eq hg⟩
  refine codeAny_mono ((Fg _ KB (nsOf hns) TBS).run callerA [] s₁ H ⟨[.ref a], []⟩ [.ref a] [.ref a] _ _ rfl hr E0' (hbind s₁ (.ref a)) (.cons rfl .nil) (hsp H HT HS)) fun r s' h => ?_
  match r, h with
  | .error e, h =>
    obtain ⟨_, _, _, _, _, _, _, _, _, _, _, _, z⟩ := h
    exact z.elim
  | .ok .next, h => exact False.elim h
  | .ok .brk, h => exact False.elim h
  | .ok .cont, h => exact False.elim h
  | .ok (.ret u), h =>
    obtain ⟨v, H', os, bare, un, hok', r', q⟩ := h
    have q : v = .bl true := q
    subst q
    obtain rfl : u = Value.bool true := r'
    have noEx : ∀ b : Addr, b ∉ ([] : List Addr) := fun _ => List.not_mem_nil
    have stay : ∀ b o, b ∉ cs.map (·.2) → s₁.heap.get? b = some o → s'.heap.get? b = some o := fun b o nb e => by
      cases q : H b with
      | none => exact un.keep b o e q (noEx b) (noEx b)
      | some u =>
        rcases entry_elim q with ⟨h1, _⟩ | ⟨_, h1, _, h2⟩
        · exact absurd h1 nb
        · rw [h2] at q
          have z := (hok' b _ (un.frzs b lo _ q)).1
          rw [h1, ha] at e
          cases e
          exact z
    have grew : ∀ b ∈ cs.map (·.2), ∃ more : Array Value, s'.heap.get? b = some { cls := .none, data := .fields more } := fun b hb => by
      obtain ⟨p, hp, rfl⟩ := List.mem_map.mp hb
      obtain ⟨more, z⟩ := un.tbls p.2 #[] (HT p hp)
      exact ⟨_, hok' p.2 _ z⟩
    refine ⟨rfl, ⟨fun b o e => ?_, fun b o e => ?_⟩, os, bare⟩
    · by_cases hb : b ∈ cs.map (·.2)
      · obtain ⟨more, hm⟩ := grew b hb
        obtain ⟨p, hp, rfl⟩ := List.mem_map.mp hb
        rw [hT p hp] at e
        cases e
        exact .inr (.inl ⟨((C p hp).tab (hT p hp)).isCodeTable, rfl, #[], more, rfl, by rw [Array.empty_append]; exact hm⟩)
      · exact .inl (stay b o hb e)
    · by_cases hb : b ∈ cs.map (·.2)
      · obtain ⟨more, hm⟩ := grew b hb
        exact ⟨_, hm⟩
      · exact ⟨o, stay b o hb e⟩
end
/-- what is known of the law at the head's heap h -/
def LawG (l : PySem.W.OpenLaw) (w : World) (K : PySem.W.Frag) (k n : Nat) (x : Str) (mg : Str → Option Value) (fa : Addr) (h : Heap) : Prop :=
  ∃ (fd : FuncData) (cs : List (Addr × Addr)) (sp : Sp), (∀ p ∈ cs, h.get? p.2 = some { cls := .none, data := .fields #[] }) ∧ (∀ p ∈ cs, K.lookup p.2 = none) ∧ (∀ p ∈ cs, PySem.W.CodeHd h p.1 p.2) ∧ (∀ (s : Shared) (u : Value), BindsTo s fd ⟨[u], []⟩ [(x, u)]) ∧
    (∀ (H : Hp) (a : Addr) (ns : List Int), ns.length ≤ n → (∀ z ∈ ns, Builtin.Int.intBits z ≤ 1048576) → (∀ p ∈ cs, H p.2 = some (.tbl #[])) → SqL K H a (ns.map V.int) → sp [.ref a] H (fun v _ => v = .bl true) fun _ _ _ => False) ∧
    ∀ base : Heap, K.In base → base.Ns mainGlobals mg → (∀ p ∈ cs, TabB base mg p.1 p.2) → FnG l.prog w K mg base k fa fd [x] sp
theorem walk_G {l : PySem.W.OpenLaw} {n k : Nat} {q : Program} {loose : List Str} {XP : (Str → Option Value) → Heap → Prop} {YP : World → Heap → Prop} {d : DefRec} {K : Params → PySem.W.Frag} {x : Str} (hn : l.most = some n) (hn2 : n ≤ sizeLine) (hdf : d.params.defaults = []) (hr : Room k callerA)
    (hY : ∀ (w : World) (h : Heap), YP w h → (K w.params).In h) (Fl : ∀ (w : World) (mg : Str → Option Value) (fa : Addr) (h : Heap), YP w h → (K w.params).In h → h.Ns mainGlobals mg → mg d.name = some (.ref fa) → LawG l w (K w.params) k n x mg fa h) :
    PySem.W.WalkO q loose XP YP l.row.toRowW d [] (fun f vs => PySem.call f vs) := by
  refine Att.attach_callB hn hdf fun w s₀ s₁ mg mb fa o pm cd doc a vs ns Gd Y ho hd hcd hmg hobj hints hlen hbits hgens => ?_
  have KX := hY w _ Y
  obtain ⟨fd, cs, sp, hT, nT, C, hbd, hsp, hF⟩ := Fl w mg fa _ Y KX Gd.T.g hmg
  exact law_callG KX Gd.T.g Gd.T.b Gd.T.builtins Gd.T.nolimit hgens hT nT C Gd.T.bmain hobj hints (Nat.le_trans hlen hn2) hr hF hbd fun H hH hS => hsp H a ns hlen hbits hH hS
/-- the entry of the law, by data -/
theorem law_entry {K : PySem.W.Frag} {G : Cfg} {F : List D → Sto → Res D} {H : Hp} {a : Addr} {ns : List Int} (hG : G.K = K) (hT : ∀ p ∈ G.T, H p.1 = some (.tbl #[])) (hS : SqL K H a (ns.map V.int)) (h : ∃ M, F [.flst (ns.map D.int)] [] = .ok (.bl true) M) :
    spD G 1 F [.ref a] H (fun v _ => v = .bl true) fun _ _ _ => False := by
  have th : Th := ⟨[], [], fun _ h => absurd h List.not_mem_nil⟩
  have rs : ∀ (θ : Th) (ns : List Int), Reps G H θ (ns.map V.int) (ns.map D.int) := fun θ ns => by
    induction ns with
    | nil => exact .nil
    | cons n ns ih => exact .cons (.int n) ih
  refine ⟨[.flst (ns.map D.int)], ⟨[], [], fun _ h => absurd h List.not_mem_nil⟩, [], rfl, ⟨List.nodup_nil, rfl, fun n m e => by simp at e, fun p hp => TabS.nil (hT p hp), fun b hb => absurd hb List.not_mem_nil⟩, .cons ?_ .nil, ?_⟩
  · rcases hS with hS | hS
    · exact .flst hS List.not_mem_nil (rs _ ns)
    · exact .klst (by rw [hG]; exact hS) (rs _ ns)
  · obtain ⟨M, e⟩ := h
    rw [e]
    exact fun v H' θ' E S r => rep_bl r
end DL
set_option maxHeartbeats 4000000
namespace DL
open PySem PySem.Spec PyProof.Rows L2 LamX
/-- a def whose code object is at c -/
structure FunC (K : PySem.W.Frag) (x qual : Str) (st : Stmt) (f : Addr) (fd : FuncData) (c : Addr) : Prop where
  ex : ∃ (oc : Value) (od : Option Addr) (kV doc pm : Value) (an : Option Addr) (ct : Value) (osl : Array (Option Value)),
    fd = PySem.W.fnOf x qual (defArgs st) (defBody st) (defScope st) .none kV doc pm an (.ref c) ct ∧ K.lookup f = some ⟨oc, od, .func fd, osl⟩ ∧ PySem.W.codeIn K (.ref c) qual = true
  kp : PySem.W.keepIn K (.ref f) = true
theorem funC_mk {K : PySem.W.Frag} {x qual : Str} {st : Stmt} {f c : Addr} {oc : Value} {od an : Option Addr} {osl : Array (Option Value)} {kV doc pm ct : Value} (l : K.lookup f = some ⟨oc, od, .func (PySem.W.fnOf x qual (defArgs st) (defBody st) (defScope st) .none kV doc pm an (.ref c) ct), osl⟩)
    (h : PySem.W.codeIn K (.ref c) qual = true) (k : PySem.W.keepIn K (.ref f) = true) : FunC K x qual st f (PySem.W.fnOf x qual (defArgs st) (defBody st) (defScope st) .none kV doc pm an (.ref c) ct) c := ⟨⟨oc, od, kV, doc, pm, an, ct, osl, rfl, l, h⟩, k⟩
section
variable {P : Program} {w : World} {K : PySem.W.Frag} {mg : Str → Option Value} {base : Heap} {G : Cfg} {x qual : Str} {st : Stmt} {f c : Addr} {fd : FuncData} {N ps : List Str} {k : Nat} {g : FS}
theorem FunC.fn (F : FunC K x qual st f fd c) : Fun K x qual st f fd := by
  obtain ⟨oc, od, kV, doc, pm, an, ct, osl, h1, h2, h3⟩ := F.ex
  exact ⟨⟨oc, od, kV, doc, pm, an, .ref c, ct, osl, h1, h2, h3⟩, F.kp⟩
theorem fn_dataFC (F : FunC K x qual st f fd c) (S : FnScope N ps (defScope st)) (hG : G.K = K)
    (hb : ∀ (A : Around) (outer : List PySem.Env) (s : Shared) (H : Hp) (E : XK), Room k (A.deeper (envOfC qual (defScope st) s.heap.objs.size f (.ref c))) → DSs G (cxD P w K mg base N qual (defScope st) f (.ref c) A outer s H E) (defBody st) g) :
    FnOk P w K mg base (L2.CX P w) (k + 1) f fd ps (spD G ps.length (fnD N.length g)) := by
  obtain ⟨oc, od, kV, doc, pm, an, ct, osl, rfl, h2, h3⟩ := F.ex
  exact fn_dataC h2 h3 S hG hb
theorem fn_dataGC (F : FunC K x qual st f fd c) (S : FnScope N ps (defScope st)) (hG : G.K = K)
    (hb : ∀ (A : Around) (outer : List PySem.Env) (s : Shared) (H : Hp) (E : XK), A.guards = some [] → Room k (A.deeper (envOfC qual (defScope st) s.heap.objs.size f (.ref c))) → DSs G (cxD P w K mg base N qual (defScope st) f (.ref c) A outer s H E) (defBody st) g) :
    FnG P w K mg base (k + 1) f fd ps (spD G ps.length (fnD N.length g)) := by
  obtain ⟨oc, od, kV, doc, pm, an, ct, osl, rfl, h2, h3⟩ := F.ex
  exact fn_dataG h2 h3 S hG hb
end
/-- a def without lambdas among its own is one that asks less -/
theorem Own.g {G : Cfg} {P : Program} {w : World} {mg : Str → Option Value} {base : Heap} {k : Nat} {x : Str} {f : Addr} {fd : FuncData} {ps : List Str} {F : List D → Sto → Res D} (o : Own G P w mg base k x f fd ps F) : OwnG G P w mg base k x f fd ps F :=
  ⟨⟨o.ok.len, fun A outer s H args us vs Q E _ hr e0 hb r h => o.ok.run A outer s H args us vs Q E hr e0 hb r h⟩, o.mgf, o.kp, o.b⟩
end DL
set_option maxHeartbeats 4000000
namespace DL
open PySem PySem.Spec PyProof.Rows L2
/-! ### constants of the module -/
def KRep (K : PySem.W.Frag) (u : Value) (d : D) : Prop := ∃ v, RelV v u ∧ ∀ (G : Cfg) H θ, G.K = K → Rep G H θ v d
def KReps (K : PySem.W.Frag) (us : List Value) (ds : List D) : Prop := ∃ vs, Vals vs us ∧ ∀ (G : Cfg) H θ, G.K = K → Reps G H θ vs ds
theorem KReps.nil {K : PySem.W.Frag} : KReps K [] [] := ⟨[], .nil, fun _ _ _ _ => .nil⟩
theorem KReps.cons {K : PySem.W.Frag} {u : Value} {us : List Value} {d : D} {ds : List D} (h : KRep K u d) (t : KReps K us ds) : KReps K (u :: us) (d :: ds) := by
  obtain ⟨v, h1, h2⟩ := h
  obtain ⟨vs, t1, t2⟩ := t
  exact ⟨v :: vs, .cons h1 t1, fun G H θ e => .cons (h2 G H θ e) (t2 G H θ e)⟩
theorem KRep.int {K : PySem.W.Frag} (i : Int) (t : Tok) : KRep K (.int i t) (.int i) := ⟨.int i, ⟨t, rfl⟩, fun _ _ _ _ => .int i⟩
theorem KRep.str {K : PySem.W.Frag} (x : Str) (t : Tok) : KRep K (.str x t) (.str x) := ⟨.str x, ⟨t, rfl⟩, fun _ _ _ _ => .str x⟩
theorem KRep.non {K : PySem.W.Frag} : KRep K .none .non := ⟨.non, rfl, fun _ _ _ _ => .non⟩
theorem KRep.tup {K : PySem.W.Frag} {a : Addr} {its : Array Value} {n : Nat} {sl : Array (Option Value)} {ds : List D} (h : K.lookup a = some ⟨.type "tuple", none, .seq its n, sl⟩) (hz : its.size ≤ sizeLine) (r : KReps K its.toList ds) :
    KRep K (.ref a) (.tup ds) := by
  obtain ⟨vs, h1, h2⟩ := r
  exact ⟨.ref a, rfl, fun G H θ e => .ktup (by rw [e]; exact ⟨_, its, n, h, rfl, rfl, rfl, hz, h1⟩) (h2 G H θ e)⟩
section
variable {G : Cfg} {X : Cx} {W : WX}
theorem de_gk {x : Str} {d : D} {pos : Pos} (h : ∃ u, X.mg x = some u ∧ KRep G.K u d) (hg : Gl X x := by rfl) (hd : (x == ("__debug__" : Str)) = false := by decide) : DE G X (.Name x pos) (dC d) := fun ok W tk => by
  obtain ⟨u, hm, v, rv, hr⟩ := h
  refine (pe_glob (v := v) hg hm rv hd).imp fun σ H Q q => ?_
  obtain ⟨ρ, θ, M, S, q⟩ := q
  exact q H θ (Ext.refl _ _) S.2 _ (hr G H θ rfl)
/-! ### x in c -/
def gInB (neg : Bool) (M : Sto) (x c : D) : Option D := match x, c with
  | .str i, .str j => some (.bl (if neg then !(!(Builtin.Str.occurrences j i 0 j.length 1).isEmpty) else !(Builtin.Str.occurrences j i 0 j.length 1).isEmpty))
  | _, _ => match toPy M x, toPy M c with
    | some d, some (.list es) => if SeqAt.shaped d = true ∧ SeqAt.shaped (.list es) = true then some (.bl (if neg then !(es.any fun z => PyData.eqv z d) else es.any fun z => PyData.eqv z d)) else none
    | some d, some (.tuple es) => if SeqAt.shaped d = true ∧ SeqAt.shaped (.tuple es) = true then some (.bl (if neg then !(es.any fun z => PyData.eqv z d) else es.any fun z => PyData.eqv z d)) else none
    | _, _ => none
abbrev gIn := gInB false
abbrev gNotIn := gInB true
theorem od_in : OpD G X (compareOp .In) gIn := fun ok => by
  intro pins s σ H x y v u Q I rx ry hh
  obtain ⟨θ, M, dx, dy, d, S, r1, r2, hg, q⟩ := hh
  unfold gIn gInB at hg
  have hu := ok.hu
  split at hg
  · cases hg
    cases rep_str r1; cases rep_str r2
    exact op_in_str pins s σ H _ _ v u Q I rx ry ⟨_, _, rfl, rfl, q _ H (Ext.refl _ _) S (.bl _)⟩
  · split at hg
    · rename_i d1 es h1 h2
      split at hg
      · rename_i hz
        cases hg
        have p1 := rep_dp S r1 h1
        have p2 := rep_dp S r2 h2
        rw [ok.hk] at p1 p2
        exact op_inD (by omega) pins s σ H _ _ v u Q I rx ry ⟨_, _, p1, p2, hz.1, hz.2, q _ H (Ext.refl _ _) S (.bl _)⟩
      · cases hg
    · rename_i d1 es h1 h2
      split at hg
      · rename_i hz
        cases hg
        have p1 := rep_dp S r1 h1
        have p2 := rep_dp S r2 h2
        rw [ok.hk] at p1 p2
        obtain ⟨as, q1⟩ := Dp.reads I d1 x v p1 rx
        obtain ⟨bs, q2⟩ := Dp.reads I (.tuple es) y u p2 ry
        exact SeqAt.in_tuple_reads q2 q1 (SeqAt.canLay_of_shaped hz.2) (SeqAt.canLay_of_shaped hz.1) (room_in_shaped hz.1 (by omega)) ⟨.bl _, H, I, rfl, q _ H (Ext.refl _ _) S (.bl _)⟩
      · cases hg
    · cases hg
theorem od_notin : OpD G X (compareOp .NotIn) gNotIn := fun ok => by
  intro pins s σ H x y v u Q I rx ry hh
  obtain ⟨θ, M, dx, dy, d, S, r1, r2, hg, q⟩ := hh
  unfold gNotIn gInB at hg
  have hu := ok.hu
  split at hg
  · cases hg
    cases rep_str r1; cases rep_str r2
    exact op_notin_str pins s σ H _ _ v u Q I rx ry ⟨_, _, rfl, rfl, q _ H (Ext.refl _ _) S (.bl _)⟩
  · split at hg
    · rename_i d1 es h1 h2
      split at hg
      · rename_i hz
        cases hg
        have p1 := rep_dp S r1 h1
        have p2 := rep_dp S r2 h2
        rw [ok.hk] at p1 p2
        exact op_notInD (by omega) pins s σ H _ _ v u Q I rx ry ⟨_, _, p1, p2, hz.1, hz.2, q _ H (Ext.refl _ _) S (.bl _)⟩
      · cases hg
    · rename_i d1 es h1 h2
      split at hg
      · rename_i hz
        cases hg
        have p1 := rep_dp S r1 h1
        have p2 := rep_dp S r2 h2
        rw [ok.hk] at p1 p2
        obtain ⟨as, q1⟩ := Dp.reads I d1 x v p1 rx
        obtain ⟨bs, q2⟩ := Dp.reads I (.tuple es) y u p2 ry
        exact SeqAt.notIn_tuple_reads q2 q1 (SeqAt.canLay_of_shaped hz.2) (SeqAt.canLay_of_shaped hz.1) (room_in_shaped hz.1 (by omega)) ⟨.bl _, H, I, rfl, q _ H (Ext.refl _ _) S (.bl _)⟩
      · cases hg
    · cases hg
/-! ### max -/
def intsOf : List D → Option (List Int)
  | [] => some []
  | .int i :: ds => (intsOf ds).map (i :: ·)
  | _ => none
theorem reps_intsD {H : Hp} {θ : Th} : ∀ {ds : List D} {vs : List V} {is : List Int}, Reps G H θ vs ds → intsOf ds = some is → vs = is.map V.int
  | [], _, _, .nil, h => by cases h; rfl
  | .int i :: ds, _, _, .cons r t, h => by
    obtain ⟨is, h1, h2⟩ := Option.map_eq_some_iff.mp h
    subst h2
    cases rep_int r
    rw [reps_intsD t h1]
    rfl
  | .non :: _, _, _, _, h | .bl _ :: _, _, _, _, h | .str _ :: _, _, _, _, h | .tup _ :: _, _, _, _, h | .lst _ :: _, _, _, _, h | .flst _ :: _, _, _, _, h | .dic _ _ :: _, _, _, _, h | .dit _ _ :: _, _, _, _, h | .obj _ _ _ :: _, _, _, _, h | .exc _ _ _ :: _, _, _, _, h | .own _ :: _, _, _, _, h => by cases h
def maxI (x : Int) (xs : List Int) : Int := xs.foldl (fun a b => if a < b then b else a) x
theorem maxI_spec : ∀ (xs : List Int) (x : Int), maxI x xs ∈ x :: xs ∧ ∀ y ∈ x :: xs, y ≤ maxI x xs
  | [], x => ⟨List.mem_cons_self, fun y hy => by rw [List.mem_singleton.mp hy]; exact Int.le_refl _⟩
  | z :: xs, x => by
    obtain ⟨h1, h2⟩ := maxI_spec xs (if x < z then z else x)
    have e : maxI x (z :: xs) = maxI (if x < z then z else x) xs := rfl
    rw [e]
    have h3 := h2 _ List.mem_cons_self
    refine ⟨?_, fun y hy => ?_⟩
    · rcases List.mem_cons.mp h1 with h | h
      · rw [h]; split
        · exact List.mem_cons_of_mem _ List.mem_cons_self
        · exact List.mem_cons_self
      · exact List.mem_cons_of_mem _ (List.mem_cons_of_mem _ h)
    · rcases List.mem_cons.mp hy with h | h
      · rw [h]
        refine Int.le_trans ?_ h3
        split <;> omega
      · rcases List.mem_cons.mp h with h | h
        · rw [h]
          refine Int.le_trans ?_ h3
          split <;> omega
        · exact h2 y (List.mem_cons_of_mem _ h)
def gMax (M : Sto) : List D → Option D
  | [.int i, .int j] => some (.int (if i < j then j else i))
  | [x] => match lstOf M x with
    | some ds => match intsOf ds with
      | some (i :: is) => some (.int (maxI i is))
      | _ => none
    | none => none
  | _ => none
theorem cd_max : CallD G X (.builtin "max") gMax := fun ok => by
  intro pins s σ H xs us Q I r h
  obtain ⟨θ, M, ds, d, S, rs, hg, q⟩ := h
  unfold gMax at hg
  split at hg
  · cases hg
    cases rs with | cons r1 rs => cases rs with | cons r2 rs => cases rs; cases rep_int r1; cases rep_int r2; exact call_max2 ok.calm pins s σ H _ us Q I r ⟨_, _, rfl, q _ H (Ext.refl _ _) S (.int _)⟩
  · split at hg
    · rename_i es h1
      split at hg
      · rename_i i is h2
        cases hg
        cases rs with | cons r1 rs =>
          cases rs
          obtain ⟨a, ys, rfl, hq, r2⟩ := rep_lst S r1 h1
          rw [reps_intsD r2 h2, ok.hk] at hq
          obtain ⟨m1, m2⟩ := maxI_spec is i
          exact cr_max ok.calm pins s σ H _ us Q I r ⟨a, i :: is, rfl, hq, by simp, fun m hm hy => by
            have e : m = maxI i is := Int.le_antisymm (m2 m hm) (hy _ m1)
            subst e
            exact q _ H (Ext.refl _ _) S (.int _)⟩
      · cases hg
    · cases hg
  · cases hg
/-! ### sorted -/
open PySem.W
def sortOk (es : List PyData) : Bool := es.all (fun d => es.all fun d' => alike d d') && (es.all (fun d => match d with | .tuple (_ :: _) => true | _ => false) || es.all fun d => match d with | .none => false | .tuple _ => false | _ => true) && es.all fun d => decide (d.depth ≤ 50)
theorem sortOk_spec {es : List PyData} (h : sortOk es = true) : AllAlike es ∧ Sortable es ∧ ∀ d ∈ es, d.depth ≤ 50 := by
  unfold sortOk at h
  rw [Bool.and_eq_true, Bool.and_eq_true, Bool.or_eq_true] at h
  obtain ⟨⟨h1, h2⟩, h3⟩ := h
  refine ⟨fun d hd d' hd' => List.all_eq_true.mp (List.all_eq_true.mp h1 d hd) d' hd', ?_, fun d hd => of_decide_eq_true (List.all_eq_true.mp h3 d hd)⟩
  rcases h2 with h2 | h2
  · refine .inl fun d hd => ?_
    have z := List.all_eq_true.mp h2 d hd
    cases d with
    | tuple xs => cases xs with
      | nil => cases z
      | cons x r => exact ⟨_, _, rfl⟩
    | _ => cases z
  · refine .inr fun d hd => ?_
    have z := List.all_eq_true.mp h2 d hd
    cases d with
    | none => cases z
    | tuple xs => cases z
    | _ => exact ⟨(fun e => by cases e), fun _ e => by cases e⟩
/-- the data by their keys -/
def sortBy (ds : List D) (es : List PyData) : List D := ((ds.zip es).mergeSort (dataLe false (·.2))).map (·.1)
def gSorted (M : Sto) : List D → Option D
  | [x] => match lstOf M x with
    | some ds => match toPys M ds with
      | some es => if sortOk es = true ∧ ds.length ≤ sizeLine then some (.lst (sortBy ds es)) else none
      | none => none
    | none => none
  | _ => none
abbrev RvD (G : Cfg) (H : Hp) (θ : Th) (v : Value) (b : D × PyData) : Prop := ∃ x, RelV x v ∧ Rep G H θ x b.1
theorem each_rv {H : Hp} {θ : Th} : ∀ {ds : List D} {vs : List V} {us : List Value} {es : List PyData}, Reps G H θ vs ds → Vals vs us → es.length = ds.length → EachIs (RvD G H θ) us (ds.zip es)
  | [], _, _, _, .nil, .nil, _ => .nil
  | d :: ds, _, _, [], .cons r t, .cons r1 t1, h => by simp at h
  | d :: ds, _, _, e :: es, .cons r t, .cons r1 t1, h => .cons ⟨_, r1, r⟩ (each_rv t t1 (by simpa using h))
theorem each_back {H : Hp} {θ : Th} {us : List Value} {bs : List (D × PyData)} (e : EachIs (RvD G H θ) us bs) : ∃ vs, Vals vs us ∧ Reps G H θ vs (bs.map (·.1)) := by
  induction e with
  | nil => exact ⟨[], .nil, .nil⟩
  | cons h _ ih =>
    obtain ⟨x, h1, h2⟩ := h
    obtain ⟨vs, i1, i2⟩ := ih
    exact ⟨x :: vs, .cons h1 i1, .cons h2 i2⟩
theorem toPys_len {M : Sto} : ∀ {ds : List D} {es : List PyData}, toPys M ds = some es → es.length = ds.length
  | [], _, h => by cases h; rfl
  | d :: ds, es, h => by
    unfold toPys at h
    split at h
    · rename_i h1 h2
      cases h
      rw [List.length_cons, List.length_cons, toPys_len h2]
    · cases h
theorem each_dp {pins : List (Addr × Obj)} {σ : L2.St} {H : Hp} {s : Shared} (I : Inv X pins σ H s) : ∀ {vs : List V} {us : List Value} {ds : List D} {es : List PyData}, DpAll X.K H vs es → Vals vs us → ds.length = es.length → EachIs (fun v (b : D × PyData) => ∃ as, Reads s.heap v b.2 as) us (ds.zip es)
  | _, _, [], _, .nil, .nil, _ => .nil
  | _, _, d :: ds, _, .cons h t, .cons r1 t1, e => .cons (Dp.reads I _ _ _ h r1) (each_dp I t t1 (by simpa using e))
theorem map_zip_snd (ds : List D) (es : List PyData) (h : es.length = ds.length) : (ds.zip es).map (fun b => b.2) = es := by
  rw [List.map_snd_zip (by omega)]
theorem cd_sorted : CallD G X (.builtin "sorted") gSorted := fun ok => by
  intro pins s σ H xs us Q I r h
  obtain ⟨θ, M, ds0, d, S, rs, hg, q⟩ := h
  unfold gSorted at hg
  have hu := ok.hu
  split at hg
  · split at hg
    · rename_i ds h1
      split at hg
      · rename_i es h2
        split at hg
        · rename_i hz
          cases hg
          cases rs with | cons r1 rs =>
            cases rs
            obtain ⟨a, ys, rfl, hq, r2⟩ := rep_lst S r1 h1
            have dp := reps_dp S r2 h2
            rw [ok.hk] at hq dp
            obtain ⟨its, rv, hl, _⟩ := I.list hq
            obtain ⟨u, rfl, ru⟩ := vals1 r
            obtain rfl : u = Value.ref a := ru
            obtain ⟨s1, s2, s3⟩ := sortOk_spec hz.1
            have hle := toPys_len h2
            have em : (ds.zip es).map (fun b => b.2) = es := map_zip_snd ds es hle
            have hlz : (ds.zip es).length = ds.length := by rw [List.length_zip]; omega
            refine sorted_data (enc := fun b : D × PyData => b.2) (bs := ds.zip es) (R := RvD G H θ) hl.isList (each_rv r2 rv hle) (each_dp I dp rv hle.symm) (by rw [em]; exact s1) (by rw [em]; exact s2) (by rw [hlz]; exact hz.2)
              (fun b hb => by have := s3 b.2 (List.of_mem_zip hb).2; omega) fun out ho eo => ?_
            obtain ⟨vs', k1, k2⟩ := each_back eo
            obtain ⟨ep, he'⟩ := PyProof.Rows.sortedAll_at s.heap its out.toArray
            have hn : H (s.heap.objs.size + 1) = none := I.hok.fresh (Nat.le_succ _)
            have hlen : vs'.length ≤ sizeLine := by rw [k1.length, ho, hlz]; exact hz.2
            refine ⟨.ref _, upd H (s.heap.objs.size + 1) (.lst vs'), I.laid (t' := s.toks) (fun _ _ => PyProof.Rows.sortedAll_old) (Nat.le_succ _) ⟨hlen, out, ep, k1, he'⟩, rfl, ?_⟩
            exact q _ _ (Ext.alloc hn _) (S.alloc hn _) (.lst upd_same (S.out hn) (k2.ext (Ext.alloc hn _)))
        · cases hg
      · cases hg
    · cases hg
  · cases hg
end
end DL
set_option maxHeartbeats 4000000
/-! ### a list sorted by keys that a call gives, over any state's invariant -/
namespace DL
open PySem PySem.W PySem.Calls PyProof.Rows
section
variable {prog : Program} {w : World} {A : Around} {E : Value → Shared → Prop} {s : Shared}
/-- what a turn leaves: the key store and the sorted list stand, J holds once the key is laid -/
def TurnOk (J : Nat → List Value → Shared → Prop) (j : Nat) (kS a : Addr) (kA : Array Value) (e e1 : Nat) (k : Value) (s' : Shared) : Prop :=
  s'.heap.get? kS = some (seqObj "list" kA e) ∧ s'.heap.get? a = some (seqObj "list" #[] e1) ∧ ∀ h' : Heap, Heap.SameBut kS s'.heap h' → (∃ c, h'.get? kS = some (seqObj "list" (kA.push k) c)) → J (j + 1) (kA.push k).toList { s' with heap := h' }
theorem keyJ_rest {b : Bool} {vs : List Value} {kz : List PyData} {a kS : Addr} {e1 : Nat} {f : Value} {P : PySem.Fin → Shared → Prop} (J : Nat → List Value → Shared → Prop) (hka : kS ≠ a)
    (nk : s.heap.get? kS = some (seqObj "list" #[] 0)) (na : s.heap.get? a = some (seqObj "list" #[] e1)) (hlen : kz.length = vs.length) (hZ : vs.length ≤ sizeLine) (hal : AllAlike kz) (hsk : Sortable kz) (hu : ∀ d, d ∈ kz → A.units + d.depth < cLine)
    (j0 : J 0 [] s) (hJ : ∀ j ks s', J j ks s' → ks.length = j)
    (turn : ∀ (j : Nat) (v : Value) (s' : Shared) (kA : Array Value) (e : Nat), vs[j]? = some v → J j kA.toList s' → s'.heap.get? kS = some (seqObj "list" kA e) → s'.heap.get? a = some (seqObj "list" #[] e1) →
      wpAny (model prog w) A (call f [v]) (TurnOk J j kS a kA e e1) (fun _ _ => False) s')
    (fin : ∀ (kA : Array Value) (s' : Shared), J vs.length kA.toList s' → EachIs (fun v k => ∃ as, Reads s'.heap v k as) kA.toList kz)
    (h : ∀ (kA : Array Value) (s' : Shared) (h' : Heap) tk out c, J vs.length kA.toList s' → (∀ b o, b ≠ a → b ≠ kS → s'.heap.get? b = some o → h'.get? b = some o) → h'.get? a = some (seqObj "list" (List.toArray out) c) → KeyedOut b kz vs out →
      P (.done (.ret .none)) { s' with heap := h', toks := tk }) : wpAny (model prog w) A (ksk_rest a f b vs.toArray e1 (.ref kS)) P E s := by
  unfold ksk_rest
  refine wpAny_bind (wpAny_rule ?_)
  first
    | rw [List.forIn_toArray]
    | (rw [← Array.forIn_toList]; simp only [List.toList_toArray])
    | rw [← Array.forIn_toList]
  refine wpAny_bind (ksk_fold (fun i s' => ∃ kA e, J i kA.toList s' ∧ s'.heap.get? kS = some (seqObj "list" kA e) ∧ s'.heap.get? a = some (seqObj "list" #[] e1)) vs 0 s ⟨#[], 0, j0, nk, na⟩ ?step ?done)
  case step =>
    rintro j x s' hx ⟨kA, e, hj, nk', na'⟩
    rw [Nat.zero_add] at hj
    have hlt : j < vs.length := (List.getElem?_eq_some_iff.mp hx).1
    have hz : kA.size ≤ vs.length := by
      have z := hJ _ _ _ hj
      rw [Array.length_toList] at z
      omega
    refine wpAny_bind (wpAny_attempt (wpAny_mono (turn j x s' kA e hx hj nk' na') (fun v s2 ht => ?_) fun _ _ hF => hF.elim))
    obtain ⟨t1, t2, t3⟩ := ht
    try dsimp only
    refine wpAny_bind (listUpdate_at t1 rfl ?_ (Nat.le_trans hz hZ) (Nat.le_trans (Nat.le_of_eq (Array.size_push ..)) (Nat.succ_le_succ (Nat.le_trans hz hZ))))
    have sb := Heap.SameBut.update s2.heap kS (Obj.mapSeq (·.push v))
    have hc := get?_update_seq t1 (·.push v)
    refine wpAny_pure ⟨rfl, kA.push v, _, ?_, hc, (sb.2 a hka.symm).trans t2⟩
    rw [Nat.zero_add]
    exact t3 _ sb ⟨_, hc⟩
  case done =>
    rintro s' ⟨kA, e, hj, nk', na'⟩
    rw [Nat.zero_add] at hj
    have hk := fin kA s' hj
    have hsz : kA.size = vs.length := by
      have z := hJ _ _ _ hj
      rw [Array.length_toList] at z
      exact z
    try dsimp only
    refine wpAny_bind (listItems_at nk' rfl ?_)
    obtain ⟨g, g1, g2⟩ := L2.restrict s'.heap fun b => decide (b ≠ kS)
    have kp : KeepsBut a g s'.heap := fun b o _ eo => by
      by_cases hb : b = kS
      · rw [hb, g2 kS (by simp)] at eo
        cases eo
      · rw [← g1 b (by simp [hb])]
        exact eo
    refine keyH_end (κ := dataKind s'.heap kz) (h₁ := g) kp (g2 kS (by simp)) nk' na' hka (SortsAt.data (s := s') hk hal hsk hu) hsz hZ fun h3 tk3 c k3 n3 => ?_
    exact h kA s' h3 tk3 _ c hj (fun b o hb hb2 eo => k3 b o hb (by rw [g1 b (by simp [hb2])]; exact eo)) n3 ⟨s'.heap, kA.toList, hal, rfl, hk⟩
/-- the whole of list.sort by keys; the list's own object stands at a -/
theorem keyJ_tree {b : Bool} {vs : List Value} {kz : List PyData} {a : Addr} {n : Nat} {f : Value} {P : PySem.Fin → Shared → Prop} (J : Addr → Nat → List Value → Shared → Prop) (ho : s.heap.get? a = some (seqObj "list" vs.toArray n))
    (hlen : kz.length = vs.length) (hZ : vs.length ≤ sizeLine) (hal : AllAlike kz) (hsk : Sortable kz) (hu : ∀ d, d ∈ kz → A.units + d.depth < cLine)
    (j0 : ∀ (kS : Addr) (h' : Heap), (∀ b o, b ≠ a → s.heap.get? b = some o → h'.get? b = some o) → s.heap.objs.size ≤ kS → h'.get? kS = some (seqObj "list" #[] 0) → J kS 0 [] { s with heap := h' }) (hJ : ∀ kS j ks s', J kS j ks s' → ks.length = j)
    (turn : ∀ (kS : Addr) (j : Nat) (v : Value) (s' : Shared) (kA : Array Value) (e e1 : Nat), kS ≠ a → vs[j]? = some v → J kS j kA.toList s' → s'.heap.get? kS = some (seqObj "list" kA e) → s'.heap.get? a = some (seqObj "list" #[] e1) →
      wpAny (model prog w) A (call f [v]) (TurnOk (J kS) j kS a kA e e1) (fun _ _ => False) s')
    (fin : ∀ (kS : Addr) (kA : Array Value) (s' : Shared), J kS vs.length kA.toList s' → EachIs (fun v k => ∃ as, Reads s'.heap v k as) kA.toList kz)
    (h : ∀ (kS : Addr) (kA : Array Value) (s' : Shared) (h' : Heap) tk out c, kS ≠ a → J kS vs.length kA.toList s' → (∀ b o, b ≠ a → b ≠ kS → s'.heap.get? b = some o → h'.get? b = some o) → h'.get? a = some (seqObj "list" (List.toArray out) c) → KeyedOut b kz vs out →
      P (.done (.ret .none)) { s' with heap := h', toks := tk }) : wpAny (model prog w) A (ksk_tree a f b) P E s := by
  have ha : a < s.heap.objs.size := Heap.lt_size ho
  have hc1 := get?_update_seq ho fun _ => (#[] : Array Value)
  have hsz : ((s.heap.update a (Obj.mapSeq fun _ => (#[] : Array Value))).push (seqObj "tuple" vs.toArray 0)).objs.size = s.heap.objs.size + 1 := by rw [size_push', Heap.size_update]
  have hne : s.heap.objs.size + 1 ≠ a := Nat.ne_of_gt (Nat.lt_succ_of_lt ha)
  unfold ksk_tree
  refine wpAny_bind (listItems_at ho rfl ?_)
  refine wpAny_bind (listUpdate_at ho rfl ?_ (by rw [List.size_toArray]; exact hZ) (Nat.zero_le _))
  refine wpAny_bind (seqEpoch_at hc1 rfl ?_)
  refine wpAny_bind (wpAny_newTuple ?_ (by show vs.length ≤ _; exact hZ))
  refine wpAny_bind (wpAny_newList ?_ (Nat.zero_le _))
  refine wpAny_holding ?_
  show wpAny _ _ (ksk_rest a f b vs.toArray _ (.ref ((s.heap.update a (Obj.mapSeq fun _ => (#[] : Array Value))).push (seqObj "tuple" vs.toArray 0)).objs.size)) _ _ { s with heap := sortingHeap s.heap a vs }
  have hk0 : (sortingHeap s.heap a vs).get? ((s.heap.update a (Obj.mapSeq fun _ => (#[] : Array Value))).push (seqObj "tuple" vs.toArray 0)).objs.size = some (seqObj "list" #[] 0) := Heap.get?_push_size _ rfl
  have ha0 := Heap.get?_push_of_some (seqObj "list" #[] 0) (Heap.get?_push_of_some (seqObj "tuple" vs.toArray 0) hc1)
  rw [hsz] at hk0 ⊢
  exact keyJ_rest (s := { s with heap := sortingHeap s.heap a vs }) (J (s.heap.objs.size + 1)) hne hk0 ha0 hlen hZ hal hsk hu (j0 _ _ (fun b o hb eo => sortingHeap_old hb eo) (Nat.le_succ _) hk0) (hJ _)
    (fun j v s' kA e => turn _ j v s' kA e _ hne) (fin _) (fun kA s' h' tk out c => h _ kA s' h' tk out c hne)
end
end DL
set_option maxHeartbeats 4000000
namespace DL
open PySem PySem.W PySem.Calls PyProof.Rows
section
variable {prog : Program} {w : World} {A : Around} {E : Value → Shared → Prop} {s : Shared}
/-- the items of a tuple, collected -/
theorem collect_tup {l : Addr} {vs : List Value} {Q : List Value → Shared → Prop} (hl : s.heap.IsTuple l vs.toArray) (hsz : vs.length ≤ sizeLine)
    (h : Q vs { s with heap := (s.heap.push (seqObj "list" #[] 0)).update s.heap.objs.size (Obj.mapSeq (· ++ vs.toArray)) }) : wpAny (model prog w) A (collect (.ref l)) Q E s := by
  obtain ⟨o, ho, hc, n, hd⟩ := id hl
  have h0 : (s.heap.push (seqObj "list" #[] 0)).get? s.heap.objs.size = some (seqObj "list" #[] 0) := Heap.get?_push_size _ rfl
  unfold collect
  refine wpAny_bind (wpAny_runValue (codeAny_builtin entry_proto_collect' ?_))
  show wpAny _ _ (newList [] >>= fun u => again (.builtin "list.__iadd__" ⟨[u, .ref l], []⟩)) _ _ s
  refine wpAny_bind (wpAny_newList (wpAny_pure ⟨Code.quiet_builtin _ (by decide +kernel), codeAny_builtin entry_list_iadd' ?_⟩))
  show wpAny _ _ (Builtin.List.listExtendWith (.ref s.heap.objs.size) (.ref l) (.ref s.heap.objs.size)) _ _ { s with heap := s.heap.push (seqObj "list" #[] 0) }
  unfold Builtin.List.listExtendWith
  have ho' := Heap.get?_push_of_some (seqObj "list" #[] 0) ho
  refine wpAny_bind (wpAny_typeOf (T := "tuple") ⟨o, ho', hc⟩ ?_)
  have ht : (Value.type "tuple" == Value.type "tuple") = true := by rfl
  rw [if_pos (by rw [ht]; simp)]
  refine wpAny_bind (listItems_at ho' hd ?_)
  refine wpAny_bind (listItems_at (xs := #[]) (n := 0) h0 rfl ?_)
  rw [if_neg (by simp)]
  refine wpAny_bind (listUpdate_at (xs := #[]) (n := 0) h0 rfl ?_ (Nat.zero_le _) (by
    show (#[] ++ vs.toArray).size ≤ sizeLine + 1
    simp only [Array.size_append, List.size_toArray, List.length_nil]; omega))
  refine wpAny_pure ?_
  show wpAny (model prog w) A (load s.heap.objs.size >>= fun o => match o.data with
      | .seq xs _ => pure xs.toList
      | _ => unsupported "internal:collect") Q E { s with heap := (s.heap.push (seqObj "list" #[] 0)).update s.heap.objs.size (Obj.mapSeq (· ++ vs.toArray)) }
  refine wpAny_bind (wpAny_load (get?_update_seq h0 _) ?_)
  show wpAny _ _ (pure ((#[] : Array Value) ++ vs.toArray).toList) Q E _
  have ez : ((#[] : Array Value) ++ vs.toArray).toList = vs := by simp
  rw [ez]
  exact wpAny_pure h
/-- sorted(l, ..), l a list or a tuple, by list.sort of the copy -/
theorem sorted_seq {l : Addr} {vs : List Value} {kw : List (Str × Value)} {Q : Value → Shared → Prop} (hl : s.heap.IsList l vs.toArray ∨ s.heap.IsTuple l vs.toArray) (hL : vs.length ≤ sizeLine) (ha1 : argsOk "sorted" ⟨[.ref l], kw⟩) (ha2 : ∀ x, argsOk "list.sort" ⟨[.ref x], kw⟩)
    (body : ∀ E' : Value → Shared → Prop, wpAny (model prog w) A.in1.in1 (Builtin.«list.sort» ⟨[.ref (s.heap.objs.size + 1)], kw⟩) (fun f s' => f = .done (.ret .none) ∧ Q (.ref (s.heap.objs.size + 1)) s') E' { s with heap := copyHeap s.heap vs }) :
    wpAny (model prog w) A (call (.builtin "sorted") [.ref l] kw) Q E s := by
  rcases hl with hl | hl
  · exact sorted_of_sort hl hL ha1 ha2 body
  · refine call_function_entry_kw kind_sorted plain_sorted entry_sorted ha1 ?_
    unfold Builtin.«sorted»
    refine wpAny_bind (m := checkCount "sorted" 1 1 _) (wpAny_pure ?_)
    refine wpAny_bind (collect_tup hl hL ?_)
    refine wpAny_bind (wpAny_newList ?_ hL)
    have hsz : ((s.heap.push (seqObj "list" #[] 0)).update s.heap.objs.size (Obj.mapSeq (· ++ vs.toArray))).objs.size = s.heap.objs.size + 1 := (Heap.size_update ..).trans (size_push' ..)
    show wpAny _ _ _ _ _ { s with heap := copyHeap s.heap vs }
    rw [hsz]
    refine wpAny_bind (wpAny_holding (wpAny_call_entry_kw slot_list_sort ⟨_, copyHeap_at s.heap vs, rfl⟩ entry_list_sort ?bd (ha2 _)))
    refine wpAny_mono (body _) (fun f s' hf => ?_) fun _ _ e => e
    obtain ⟨rfl, hq⟩ := hf
    exact ⟨_, rfl, wpAny_pure ⟨_, rfl, hq⟩⟩
end
end DL
namespace DL
open PySem PySem.Spec PyProof.Rows L2 LamX
/-! ### a lambda of one parameter -/
structure LamP (p : Str) (sc scope : Scope) : Prop where
  kind : scope.kind = .function
  co : scope.isCoroutine = false
  gen : scope.isGenerator = false
  own : ∀ y ∈ scope.names, y.2 = .local → y.1 = p
  nc : ∀ y ∈ scope.names, y.2 ≠ .cell
  par : scope.names.lookup p = some .local
  free : ∀ y ∈ scope.names, y.2 = .free → sc.names.lookup y.1 = some .cell ∨ sc.names.lookup y.1 = some .free
def lamPB (p : Str) (sc scope : Scope) : Bool :=
  (decide (scope.kind = .function) && !scope.isCoroutine && !scope.isGenerator && decide (scope.names.lookup p = some .local)) &&
    scope.names.all fun y => (!decide (y.2 = .local) || decide (y.1 = p)) && !decide (y.2 = .cell) && (!decide (y.2 = .free) || decide (sc.names.lookup y.1 = some .cell) || decide (sc.names.lookup y.1 = some .free))
theorem lamP_by {p : Str} {sc scope : Scope} (h : lamPB p sc scope = true) : LamP p sc scope := by
  unfold lamPB at h
  simp only [Bool.and_eq_true, Bool.or_eq_true, Bool.not_eq_true', decide_eq_true_eq, decide_eq_false_iff_not, List.all_eq_true] at h
  obtain ⟨⟨⟨⟨h1, h2⟩, h3⟩, h4⟩, h5⟩ := h
  refine ⟨h1, h2, h3, fun y hy e => ?_, fun y hy => (h5 y hy).1.2, h4, fun y hy e => ?_⟩
  · rcases (h5 y hy).1.1 with z | z
    · exact absurd e z
    · exact z
  · rcases (h5 y hy).2 with (z | z) | z
    · exact absurd e z
    · exact .inl z
    · exact .inr z
theorem LamP.has {p : Str} {X : Cx} {scope : Scope} (L : LamP p X.env.scope scope) (ok : X.Ok) : ∀ y ∈ scope.names, y.2 = .free → ∃ c, X.env.cells.lookup y.1 = some c := fun y hy e =>
  (L.free y hy e).elim (fun k => ok.has _ (.inl k)) fun k => ok.has _ (.inr k)
section
variable {X : Cx} {pins : List (Addr × Obj)} {σ : L2.St} {H : Hp} {s : Shared} {p : Str}
/-- the lambda's frame is laid: its parameter stands at i -/
theorem lam_startP {A : Around} {E : XK} {scope : Scope} {f c' : Addr} {h₁ : Heap} {tk i : Nat} {x : V} {u : Value} (I : Inv X pins σ H s) (L : LamP p X.env.scope scope) (e0 : Env0 X.prog X.w X.K X.mg X.base A X.stack s H) (hd : A.handled = none) (hi : X.N[i]? = some p) (hN : X.N.Nodup) (ru : RelV x u)
    (hns : h₁.Ns s.heap.objs.size fun y => ([(p, u)] : List (Str × Value)).reverse.lookup y) (kp : ∀ b o, s.heap.get? b = some o → h₁.get? b = some o) : Inv (lamCx X A X.stack s H E scope f c') [] (σ.set i (some x)) H { s with heap := h₁, toks := tk } := by
  have hfree := L.has I.ok
  have cm : ∀ {y c}, (cloFrom X.env.cells scope.names []).lookup y = some c → X.env.cells.lookup y = some c := fun {y c} e => by
    rcases cloFrom_mem (PySem.mem_of_lookup e) with hm | ⟨h1, h2⟩
    · cases hm
    · obtain ⟨c1, hc⟩ := hfree _ h1 rfl
      have hc : X.env.cells.lookup y = some c1 := hc
      have e2 : c = c1 := by
        rw [h2, hc] <;> rfl
      rw [e2]
      exact hc
  have look : ∀ {y}, scope.names.lookup y = some .free → ∃ c, (cloFrom X.env.cells scope.names []).lookup y = some c := fun {y} hl => mem_lookup (cloFrom_has (cells := X.env.cells) (acc := []) (PySem.mem_of_lookup hl))
  have cellK : ∀ {c : Addr} {v : Option Value}, s.heap.IsCell c v → h₁.IsCell c v := fun {c v} ⟨o, ho, hd⟩ => ⟨_, kp _ _ ho, hd⟩
  have noA : ∀ b : Addr, b ∉ (lamCx X A X.stack s H E scope f c').ex := fun b z => absurd (show b ∈ ([] : List Addr) from z) (by simp)
  have hil : i < σ.length := by
    rw [I.len]
    exact (List.getElem?_eq_some_iff.mp hi).1
  refine ⟨⟨e0.mod, L.kind, rfl, rfl, Nat.le_refl _, fun y z c e1 e2 => I.ok.inj y z c (cm e1) (cm e2), fun y hy => ?_, fun y c z _ => ?_, fun _ => hd, Around.frames_deeper e0.frames, .inr ⟨rfl, rfl⟩, fun b z => absurd z (noA b), e0.bs, e0.bsz, fun b _ _ => noA b,
      fun b z => absurd z (noA b), e0.funs, e0.frf⟩,
    rfl, e0.bare, Un.kept kp, ⟨_, hns, fun j y v e1 e2 e3 => ?_⟩, fun y c e => ?_, e0.hok.fresh (Nat.le_refl _), fun y c e => ?_, fun q hq => absurd (show q ∈ ([] : List (Addr × Obj)) ++ [] from hq) (by simp), e0.hok.kept kp, (List.length_set ..).trans I.len⟩
  · have hy : scope.names.lookup y = some .cell ∨ scope.names.lookup y = some .free := hy
    rcases hy with hy | hy
    · exact absurd rfl (L.nc _ (PySem.mem_of_lookup hy))
    · exact look hy
  · have z : false = true := z
    cases z
  · have e3 : Vis scope y := e3
    have e1 : X.N[j]? = some y := e1
    by_cases hj : j = i
    · subst hj
      rw [hi] at e1
      cases e1
      rw [List.getElem?_set_self hil] at e2
      cases e2
      exact ⟨u, ru, .inl ⟨L.par, by show ([(p, u)] : List (Str × Value)).reverse.lookup p = some u; simp⟩⟩
    · rw [List.getElem?_set_ne (Ne.symm hj)] at e2
      have ne : y ≠ p := fun z => by
        rw [z] at e1
        exact hj (nodup_ix hN e1 hi)
      rcases e3 with k | k | k
      · exact absurd (L.own _ (PySem.mem_of_lookup k) rfl) ne
      · exact absurd rfl (L.nc _ (PySem.mem_of_lookup k))
      · obtain ⟨m, hn, hl⟩ := I.loc
        have hvis : Vis X.env.scope y := (L.free _ (PySem.mem_of_lookup k) rfl).elim (fun k => .inr (.inl k)) (fun k => .inr (.inr k))
        obtain ⟨w', r, q⟩ := hl j y v e1 e2 hvis
        obtain ⟨c2, h2⟩ := look k
        refine ⟨w', r, .inr ⟨.inr k, c2, h2, ?_⟩⟩
        have c1 := cm h2
        rcases q with ⟨k', _⟩ | ⟨_, c3, e', z⟩
        · have k' : X.env.scope.names.lookup y = some .local := k'
          rcases L.free _ (PySem.mem_of_lookup k) rfl with k2 | k2 <;> rw [show X.env.scope.names.lookup y = _ from k2] at k' <;> cases k'
        · rw [c1] at e'
          cases e'
          exact cellK z
  · obtain ⟨w', z⟩ := I.cell y c (cm e)
    exact ⟨w', cellK z⟩
  · exact I.freeC y c (cm e)
/-- f(u): the lambda's body runs -/
theorem lam_run {A : Around} {E : XK} {Q : VK} {tb : TE} {f c' : Addr} {pm ctv : Value} {params : Arguments} {body : Expr} {scope : Scope} {k i : Nat} {x : V} {u : Value} (I : Inv X pins σ H s) (L : LamP p X.env.scope scope) (e0 : Env0 X.prog X.w X.K X.mg X.base A X.stack s H)
    (hf : s.heap.get? f = some (PySem.W.kla_obj "<lambda>" (X.env.qual ++ "<lambda>") params body scope (cloFrom X.env.cells scope.names []) pm c' ctv)) (hc : H c' = some (CodeO c' (X.env.qual ++ "<lambda>")))
    (hbind : bindArgs (PySem.W.kla_fn "<lambda>" (X.env.qual ++ "<lambda>") params body scope (cloFrom X.env.cells scope.names []) pm (.ref c') ctv) ⟨[u], []⟩ = pure [(p, u)]) (hr : Room (k + 1) A) (hi : X.N[i]? = some p) (hN : X.N.Nodup) (ru : RelV x u)
    (hbody : Room k (A.deeper (lamEnv X scope s.heap.objs.size f c')) → PE (lamCx X A X.stack s H E scope f c') body tb) (ht : tb (σ.set i (some x)) H Q) :
    codeAny (model X.prog X.w) A (.call (.ref f) ⟨[u], []⟩) (CR (L2.CX X.prog X.w) X.stack X.prog X.w H s Q E) s := by
  obtain ⟨⟨oc, vs, t, hoc, hdc, hvc⟩, _, _⟩ := I.hok c' _ hc
  refine PySem.W.kla_callFunE hr.depth hf rfl L.co L.gen rfl ⟨c', oc, vs, t, rfl, hoc, hdc, hvc⟩ ?_
  rw [hbind]
  refine wpAny_pure (wpAny_newFunctionEnv L.nc (fun y hy => by rw [List.mem_singleton.mp hy]; exact L.par) (fun h₁ hns hsb => ⟨I.nolimit.fresh _ hsb, ?_⟩) L.kind)
  show codeAny _ _ (.expr body (lamEnv X scope s.heap.objs.size f c')) _ _
  have kp : ∀ b o, s.heap.get? b = some o → h₁.get? b = some o := fun b o e => hsb.extBut b o (Nat.ne_of_lt (Heap.lt_size e)) (Heap.get?_push_of_some _ e)
  have J := lam_startP (E := E) (f := f) (c' := c') (tk := s.toks + ([(p, u)] : List (Str × Value)).length) I L e0 hr.hd hi hN ru hns kp
  refine PySem.W.kla_codeExpr (wpAny_mono ((hbody (hr.deeper _)).run [] _ _ H Q J ht) (fun v s' hq => ?_) fun e s' hq => hq)
  obtain ⟨w', H', J', rv, q⟩ := hq
  exact ⟨w', H', J'.os, J'.bare, J'.base, J'.hok, rv, q⟩
end
end DL
set_option maxHeartbeats 4000000
namespace DL
open PySem PySem.Spec PyProof.Rows L2 LamX
/-! ### sorted(e, key=lambda p: body) -/
def keysD (ρ : Env) (i : Nat) (fb : FE D) : List D → Sto → Res (List D)
  | [], M => .ok [] M
  | d :: ds, M => (fb (ρ.set i (some d)) M).bind fun k M1 => (keysD ρ i fb ds M1).bind fun ks M2 => .ok (k :: ks) M2
/-- the states of the turns -/
def KeysAt (ρ : Env) (i : Nat) (fb : FE D) (ds ks : List D) (Ms : Nat → Sto) : Prop := ks.length = ds.length ∧ ∀ j d, ds[j]? = some d → ∃ k, ks[j]? = some k ∧ fb (ρ.set i (some d)) (Ms j) = .ok k (Ms (j + 1))
theorem keys_at {ρ : Env} {i : Nat} {fb : FE D} : ∀ {ds : List D} {M : Sto} {ks : List D} {M' : Sto}, keysD ρ i fb ds M = .ok ks M' → ∃ Ms : Nat → Sto, Ms 0 = M ∧ Ms ds.length = M' ∧ KeysAt ρ i fb ds ks Ms
  | [], M, ks, M', h => by
    cases h
    exact ⟨fun _ => M, rfl, rfl, rfl, fun j d e => by simp at e⟩
  | d :: ds, M, ks, M', h => by
    unfold keysD at h
    cases e1 : fb (ρ.set i (some d)) M with
    | ok k M1 =>
      rw [e1] at h
      have h : (keysD ρ i fb ds M1).bind (fun ks M2 => Res.ok (k :: ks) M2) = .ok ks M' := h
      cases e2 : keysD ρ i fb ds M1 with
      | ok ks1 M2 =>
        rw [e2] at h
        cases h
        obtain ⟨Ms, a1, a2, a3, a4⟩ := keys_at e2
        refine ⟨fun j => match j with | 0 => M | j + 1 => Ms j, rfl, a2, by rw [List.length_cons, List.length_cons, a3], fun j d' hj => ?_⟩
        cases j with
        | zero =>
          cases hj
          exact ⟨k, rfl, by show fb _ M = .ok k (Ms 0); rw [a1]; exact e1⟩
        | succ j => exact a4 j d' hj
      | exc c fs vs M2 => rw [e2] at h; cases h
      | bad => rw [e2] at h; cases h
    | exc c fs vs M2 => rw [e1] at h; cases h
    | bad => rw [e1] at h; cases h
def dSortKey (fa : FE D) (i : Nat) (fb : FE D) : FE D := fun ρ M => (fa ρ M).bind fun x M1 => match seqOf M1 x with
  | none => .bad
  | some ds => match keysD ρ i fb ds M1 with
    | .ok ks M2 => match toPys M2 ks with
      | some es => if sortOk es = true ∧ ds.length ≤ sizeLine then .ok (.lst (sortBy ds es)) M2 else .bad
      | none => .bad
    | _ => .bad
theorem Reps.snoc {G : Cfg} {H : Hp} {θ : Th} {vs : List V} {ds : List D} {v : V} {d : D} (r : Reps G H θ vs ds) (h : Rep G H θ v d) : Reps G H θ (vs ++ [v]) (ds ++ [d]) := r.append (.cons h .nil)
theorem vals_snoc {vs : List V} {us : List Value} {v : V} {u : Value} (r : Vals vs us) (h : RelV v u) : Vals (vs ++ [v]) (us ++ [u]) := r.append (.cons h .nil)
section
variable {G : Cfg} {X : Cx}
/-- what stands at turn j of the sort -/
structure SJ (G : Cfg) (X : Cx) (pins : List (Addr × Obj)) (σ : L2.St) (H1 : Hp) (θ1 : Th) (Ms : Nat → Sto) (ks : List D) (a kS : Addr) (j : Nat) (us : List Value) (s' : Shared) : Prop where
  ex : ∃ H θ xs, Ext H1 θ1 H θ ∧ StoR G H θ (Ms j) ∧ Inv X pins σ H s' ∧ FpOk X pins H kS ∧ FpOk X pins H a ∧ Vals xs us ∧ Reps G H θ xs (ks.take j)
  len : us.length = j
theorem fp_at {X : Cx} {pins : List (Addr × Obj)} {H H' : Hp} {b : Addr} (f : FpOk X pins H b) (h : H' b = none) : FpOk X pins H' b := ⟨h, f.2⟩
theorem de_sortKey {x p : Str} {c P : Addr} {k i : Nat} {e : Expr} {fa fb : FE D} {params : Arguments} {body : Expr} {scope : Scope} {p1 lpos kpos pos : Pos} (hm : X.mg x = none) (ha : DE G X e fa) (TB : TabB X.base X.mg c P) (hcode : X.env.code = .ref c)
    (hmT : (P, X.env.qual ++ "<lambda>") ∈ G.T) (hu : ∀ q ∈ G.T, q.1 = P → q.2 = X.env.qual ++ "<lambda>") (hr : Room (k + 3) X.A)
    (hbody : ∀ (A : Around) (outer : List PySem.Env) (s : Shared) (H : Hp) (E : XK) (f c' : Addr), Room k (A.deeper (lamEnv X scope s.heap.objs.size f c')) → DE G (lamCx X A outer s H E scope f c') body fb)
    (hi : X.N[i]? = some p) (hN : X.N.Nodup) {sc0 : Scope} (hsc : X.env.scope = sc0) (L : lamPB p sc0 scope = true) (hx : x = "sorted") (hg : Gl X x := by rfl) (hdef : defaultsOf params X.env = ([], []) := by rfl)
    (hbind : ∀ (q : Str) (cl : List (Str × Addr)) (pm cv ctv u : Value), bindArgs (PySem.W.kla_fn "<lambda>" q params body scope cl pm cv ctv) ⟨[u], []⟩ = pure [(p, u)] := by intros; rfl)
    (hs : starEach [e] X.env = (false, eval e X.env) :: starEach [] X.env := by rfl)
    (hb1 : backTo pos (starEach [e] X.env) = (false, eval e X.env) :: backTo pos (starEach [] X.env) := by rfl) (hb2 : (backTo pos (starEach [e] X.env)).any (·.1) = false := by rfl) : DE G X (.Call (.Name x p1) [e] [⟨some "key", .Lambda params body scope lpos, kpos⟩] pos) (dSortKey fa i fb) := fun ok W tk => by
  subst hsc hx
  have L := lamP_by L
  have hK := ok.hk
  refine ⟨fun pins s σ H Q I h => ?_⟩
  obtain ⟨ρ, θ, M, S, q⟩ := h
  refine wpAny_Call_Name_kw (ld_blt I hg hm (u := .builtin "sorted") (by decide +kernel) ?_ (by decide) (by decide))
  have hargs : rdA G W (dCons fa dNil) σ H fun vs H1 => ∃ v x θ1 M1, vs = [v] ∧ Ext H θ H1 θ1 ∧ StoR G H1 θ1 M1 ∧ Rep G H1 θ1 v x ∧ postR G W σ H1 θ1 (fun H' θ' _ d => ∀ v, Rep G H' θ' v d → Q v H') (match seqOf M1 x with
      | none => .bad
      | some ds => match keysD ρ i fb ds M1 with
        | .ok ks M2 => match toPys M2 ks with
          | some es => if sortOk es = true ∧ ds.length ≤ sizeLine then .ok (.lst (sortBy ds es)) M2 else .bad
          | none => .bad
        | _ => .bad) := by
    refine ⟨ρ, θ, M, S, ?_⟩
    unfold dSortKey at q
    show postR G W σ H θ _ ((fa ρ M).bind fun x M1 => Res.ok [x] M1)
    cases er : fa ρ M with
    | ok y M1 =>
      rw [er] at q
      intro H1 θ1 E1 S1 vs rs
      cases rs with | cons r1 rs =>
        cases rs
        exact ⟨_, y, θ1, M1, rfl, E1, S1, r1, q.base E1⟩
    | exc c fs vs M1 => rw [er] at q; exact q
    | bad => rw [er] at q; exact q
  refine PyProof.Rows.callWith_kw (thn ((da_cons ha da_nil hs ok W tk).run pos pins s σ H _ I hargs) fun us s1 ⟨vs, H1, I1, r1, q1⟩ => ?_) hb1 hb2 rfl rfl
  obtain ⟨v, y, θ1, M1, rfl, E1, S1, ry, q⟩ := q1
  obtain ⟨u, rfl, ru⟩ := vals1 r1
  cases hds : seqOf M1 y with
  | none => rw [hds] at q; exact q.elim
  | some ds =>
  simp only [hds] at q
  cases hks : keysD ρ i fb ds M1 with
  | exc c fs vs M2 => simp only [hks] at q; exact q.elim
  | bad => simp only [hks] at q; exact q.elim
  | ok ks M2 =>
  simp only [hks] at q
  cases hes : toPys M2 ks with
  | none => simp only [hes] at q; exact q.elim
  | some es =>
  simp only [hes] at q
  split at q
  case isFalse => exact q.elim
  rename_i hz
  show wpAny _ _ (evalAll [(eval (.Lambda params body scope lpos) X.env >>= fun v => standAt pos >>= fun _ => pure v)]) _ _ s1
  refine wpAny_evalAll_cons (wpAny_bind (lam_make2 I1 TB hcode hmT hu S1.tabs hdef (L.has I.ok) fun f c' pm' ctv H2 s2 I2 eN T2 hf hfn hfr hco => wpAny_bind (wpAny_standAt (wpAny_pure ?_))))
  refine wpAny_evalAll_nil ?_
  have E2 := ext_of_n (θ := θ1) eN
  have S2 := sto_of_n eN S1 T2
  have R2 : EnvR G H2 θ1 σ ρ := (S.1.ext E1).ext E2
  obtain ⟨a0, ys, rfl, hq, rys⟩ := rep_seq S2 (ry.ext E2) hds
  rw [hK] at hq
  obtain rfl : u = Value.ref a0 := ru
  show wpAny _ _ (call (.builtin "sorted") [.ref a0] [((Str.ofString "key"), .ref f)]) _ _ s2
  have hits : ∃ its : List Value, Vals ys its ∧ (s2.heap.IsList a0 its.toArray ∨ s2.heap.IsTuple a0 its.toArray) := by
    rcases hq with hq | hq
    · obtain ⟨its, rv, hl, _⟩ := I2.list hq
      exact ⟨its, rv, .inl hl.isList⟩
    · obtain ⟨its, rv, hl, _⟩ := I2.tuple hq
      exact ⟨its, rv, .inr hl⟩
  obtain ⟨its, rv, hl⟩ := hits
  obtain ⟨Ms, m0, m1, kl, ka⟩ := keys_at hks
  have lits : its.length = ds.length := by rw [← rv.length, rys.length]
  have les := toPys_len hes
  obtain ⟨o1, o2, o3⟩ := sortOk_spec hz.1
  have hub := ok.hu
  have hfs : f ∉ X.fs := fun z => hfr (by
    rcases I.ok.stk with e | ⟨e, hf'⟩
    · rw [e]; exact z
    · rw [e]; unfold frs; rw [List.filterMap_cons, hf']; exact List.mem_cons_of_mem _ z)
  have hfl : f ≠ X.env.locals := fun z => by
    obtain ⟨m, ⟨o, es', ep', ho, hd⟩, _⟩ := I2.loc
    rw [← z, hf] at ho
    cases ho
    cases hd.1
  obtain ⟨fo, hf1, hfo⟩ : ∃ fo, s2.heap.get? f = some fo ∧ fo = PySem.W.kla_obj "<lambda>" (X.env.qual ++ "<lambda>") params body scope (cloFrom X.env.cells scope.names []) pm' c' ctv := ⟨_, hf, rfl⟩
  have If : Inv X ((f, fo) :: pins) σ H2 s2 := I2.pins_of fun q hq => by
    rcases List.mem_cons.mp hq with e | hq
    · rw [e]; exact ⟨hf1, hfn, hfl, hfs, fun v z => by rw [hfo] at z; cases z⟩
    · exact I2.pin q (List.mem_append_right _ hq)
  refine sorted_seq hl (by rw [lits]; exact hz.2) (ksk_s1 _ _) (fun _ => ksk_l1 _ _) fun E' => ?_
  rw [ksk_t1]
  have hcp : ∀ b o, s2.heap.get? b = some o → (PySem.W.copyHeap s2.heap its).get? b = some o := fun b o eo => PySem.W.copyHeap_old eo
  have hA : X.A.in1.in1.units = X.A.units + 2 := rfl
  refine keyJ_tree (s := { s2 with heap := PySem.W.copyHeap s2.heap its }) (kz := es) (SJ G X ((f, fo) :: pins) σ H2 θ1 Ms ks (s2.heap.objs.size + 1)) (PySem.W.copyHeap_at s2.heap its) (by rw [les, kl, lits]) (by rw [lits]; exact hz.2) o1 o2
    (fun d hd => by have := o3 d hd; omega) (fun kS h' kp hk0 hk1 => ?_) (fun kS j us s' hj => hj.len) (fun kS j v s' kA eN' e1 hne hv hj nk na => ?_) (fun kS kA s' hj => ?_) (fun kS kA s' h' tk out cc hne hj kp hout ko => ?_)
  · -- the first turn
    have kpp : ∀ b o, s2.heap.get? b = some o → h'.get? b = some o := fun b o eo => kp b o (Nat.ne_of_lt (Nat.lt_succ_of_lt (Heap.lt_size eo))) (hcp b o eo)
    have hks0 : s2.heap.objs.size ≤ kS := Nat.le_trans (Nat.le_succ _) (Nat.le_of_lt (Nat.lt_of_lt_of_le (Heap.lt_size (PySem.W.copyHeap_at s2.heap its)) hk0))
    refine ⟨⟨H2, θ1, [], Ext.refl _ _, by rw [m0]; exact S2, If.kept (t' := s2.toks) kpp, If.fpOk hks0 (I2.hok.fresh hks0), If.fpOk (Nat.le_succ _) (I2.hok.fresh (Nat.le_succ _)), .nil, by rw [List.take_zero]; exact .nil⟩, rfl⟩
  · -- a turn
    obtain ⟨⟨Hj, θj, xs, Ej, Sj, Ij, f1, f2, vx, rx⟩, hlen⟩ := hj
    have hlt : j < ds.length := by rw [← lits]; exact (List.getElem?_eq_some_iff.mp hv).1
    obtain ⟨d, hd⟩ : ∃ d, ds[j]? = some d := ⟨_, List.getElem?_eq_getElem hlt⟩
    obtain ⟨y', hy1, hy2⟩ := rys.get hd
    have ryv : RelV y' v := by
      obtain ⟨u', hu1, hu2⟩ := rv.get hy1
      rw [hv] at hu1
      cases hu1
      exact hu2
    obtain ⟨kk, hk1, hk2⟩ := ka j d hd
    have Ip : Inv X ((kS, seqObj "list" kA eN') :: (s2.heap.objs.size + 1, seqObj "list" #[] e1) :: (f, fo) :: pins) σ Hj s' := Ij.pins_of fun q hq => by
      rcases List.mem_cons.mp hq with e | hq
      · rw [e]; exact ⟨nk, f1.1, f1.2.1, f1.2.2.1, fun v z => by cases z⟩
      · rcases List.mem_cons.mp hq with e | hq
        · rw [e]; exact ⟨na, f2.1, f2.2.1, f2.2.2.1, fun v z => by cases z⟩
        · exact Ij.pin q (List.mem_append_right _ hq)
    have hfj := (Ij.pin (f, fo) (List.mem_append_right _ List.mem_cons_self)).1
    rw [hfo] at hfj
    have hcj : Hj c' = some (CodeO c' (X.env.qual ++ "<lambda>")) := Ej.keep _ _ hco (fun z => by
      obtain ⟨o, e1, e2⟩ := S2.there z
      rw [hco] at e1
      cases e1
      exact e2.2 _ _ rfl) codeO_ne
    have hr2 : Room (k + 1) X.A.in1.in1 := hr.in1.in1
    have rc := lam_run (A := X.A.in1.in1) (E := fun _ _ _ => False) (Q := fun v' H' => ∃ θ', Ext Hj θj H' θ' ∧ StoR G H' θ' (Ms (j + 1)) ∧ Rep G H' θ' v' kk) (tb := rdE G (fun _ _ _ _ => False) fb) Ip L Ip.env0.in1.in1 hfj hcj (hbind _ _ _ _ _ _) hr2 hi hN ryv
      (fun hr3 => hbody X.A.in1.in1 X.stack s' Hj (fun _ _ _ => False) f c' hr3 ⟨hK, rfl, by
        have z : (X.A.in1.in1.deeper (lamEnv X scope s'.heap.objs.size f c')).units + 16 * k + 200 < cLine := hr3.un
        show (X.A.in1.in1.deeper (lamEnv X scope s'.heap.objs.size f c')).units + 100 < cLine
        omega⟩ _ L2.takes0)
      ⟨ρ.set i (some d), θj, Ms j, ⟨(R2.ext Ej).set i (hy2.ext Ej), Sj⟩, by rw [hk2]; exact fun H' θ' E' S' v' rv' => ⟨θ', E', S', rv'⟩⟩
    refine wpAny_call (codeAny_mono rc fun r s3 hq => ?_)
    cases r with
    | error er =>
      obtain ⟨_, _, _, _, _, _, _, _, _, _, _, _, zz⟩ := (show L2.CX X.prog X.w X.stack Hj s' (fun _ _ _ => False) er s3 from hq)
      exact zz.elim
    | ok fl =>
      cases fl with
      | next => exact False.elim hq
      | brk => exact False.elim hq
      | cont => exact False.elim hq
      | ret uu =>
        obtain ⟨v', H', I3, rvv, θ', E', S', rv'⟩ := Ip.after hq
        have pk := I3.pin (kS, seqObj "list" kA eN') (List.mem_append_right _ List.mem_cons_self)
        have pa := I3.pin (s2.heap.objs.size + 1, seqObj "list" #[] e1) (List.mem_append_right _ (List.mem_cons_of_mem _ List.mem_cons_self))
        refine ⟨pk.1, pa.1, fun h' sb hc2 => ⟨⟨H', θ', xs ++ [v'], Ej.trans E', S', ?_, fp_at f1 pk.2.1, fp_at f2 pa.2.1, ?_, ?_⟩, ?_⟩⟩
        · have I4 : Inv X ((f, fo) :: pins) σ H' s3 := I3.pins_of fun q hq => I3.pin q (List.mem_append_right _ (List.mem_cons_of_mem _ (List.mem_cons_of_mem _ hq)))
          have fk := fp_at f1 pk.2.1
          exact I4.turned (t' := s3.toks) (fun b o hb eo => (sb.2 b hb).trans eo) fk.1 fk.2.1 fk.2.2.2.1 fk.2.2.2.2.1 fk.2.2.2.2.2
        · rw [Array.toList_push]
          exact vals_snoc vx rvv
        · rw [List.take_add_one, hk1]
          exact (rx.ext E').snoc rv'
        · rw [Array.toList_push, List.length_append, hlen]
          rfl
  · -- the keys
    obtain ⟨⟨Hj, θj, xs, Ej, Sj, Ij, f1, f2, vx, rx⟩, hlen⟩ := hj
    rw [lits] at rx Sj
    rw [m1] at Sj
    rw [← kl, List.take_length] at rx
    have dp := reps_dp Sj rx hes
    rw [hK] at dp
    have z := each_dp Ij dp vx (by rw [les] : ks.length = es.length)
    have z3 := PySem.W.each_map (R := fun v k => ∃ as, Reads s'.heap v k as) (fun b : D × PyData => b.2) z
    rw [map_zip_snd ks es les] at z3
    exact z3
  · -- the sorted list
    obtain ⟨⟨Hj, θj, xs, Ej, Sj, Ij, f1, f2, vx, rx⟩, hlen⟩ := hj
    rw [lits, m1] at Sj
    refine ⟨rfl, ?_⟩
    have hle : es.length = ds.length := by rw [les, kl]
    have ko' : PySem.W.KeyedOut false ((ds.zip es).map fun b => b.2) its out := by rw [map_zip_snd ds es hle]; exact ko
    have eo := PySem.W.keyedOut_each (fun b : D × PyData => b.2) ko' (each_rv (rys.ext Ej) rv hle)
    obtain ⟨vs', k1, k2⟩ := each_back eo
    have hlo : out.length = ds.length := by
      have z := ko'.length (by rw [List.length_map, List.length_zip]; omega)
      rw [z, lits]
    have hlv : vs'.length ≤ sizeLine := by rw [k1.length, hlo]; exact hz.2
    have I5 : Inv X ((f, fo) :: pins) σ Hj { s' with heap := h', toks := tk } := Ij.turnedL (t' := tk) (ch := [kS, s2.heap.objs.size + 1]) (fun b o hb eo => kp b o (fun z => hb (by simp [z])) (fun z => hb (by simp [z])) eo) (fun b hb => by
      rcases List.mem_cons.mp hb with e | hb
      · rw [e]; exact f1
      · rw [List.mem_singleton.mp hb]; exact f2)
    have I6 := I5.take (t' := tk) (o := .lst vs') (h' := h') (fun b ob _ eo => eo) f2 ⟨hlv, out, cc, k1, hout⟩
    have hn := f2.1
    refine ⟨.ref (s2.heap.objs.size + 1), _, I6.pins_of fun q hq => I6.pin q (List.mem_append_right _ (List.mem_cons_of_mem _ hq)), rfl, ?_⟩
    exact q _ θj ((E2.trans Ej).trans (Ext.alloc hn _)) (Sj.alloc hn _) _ (.lst upd_same (Sj.out hn) (k2.ext (Ext.alloc hn _)))
end
end DL
set_option maxHeartbeats 4000000
namespace DL
open PySem PySem.Spec PyProof.Rows L2
section
variable {G : Cfg} {X : Cx} {tg e e2 : Expr} {f : FE D} {fs : FE (List D)}
/-! ### a list or a tuple is walked -/
def kAny (d : D) (M : Sto) : Res IT := match d with
  | .tup ds => .ok (IT.fix ds) M
  | d => kLst d M
def iAny (f : FE D) : FE IT := fun ρ M => (f ρ M).bind kAny
theorem di_any (h : DE G X e f) : DI G X tg e (iAny f) := fun ok W tk => ⟨fun pins s σ H R I q => by
  obtain ⟨ρ, θ, M, S, q⟩ := q
  by_cases ht : ∃ ds M1, f ρ M = .ok (.tup ds) M1
  · obtain ⟨ds, M1, er⟩ := ht
    refine (di_tup h ok W tk).run pins s σ H R I ⟨ρ, θ, M, S, ?_⟩
    unfold iTpl
    unfold iAny at q
    rw [er] at q ⊢
    exact q
  · refine (di_list h ok W tk).run pins s σ H R I ⟨ρ, θ, M, S, ?_⟩
    unfold iLst
    unfold iAny at q
    cases er : f ρ M with
    | ok d M1 =>
      rw [er] at q
      cases d with
      | tup ds => exact absurd ⟨ds, M1, er⟩ ht
      | _ => exact q
    | exc c fs vs M1 => rw [er] at q; exact q
    | bad => rw [er] at q; exact q⟩
/-! ### zip -/
def zipT (xs ys : List D) : List D := (xs.zip ys).map fun p => .tup [p.1, p.2]
def fixL : D → Option (List D)
  | .lst ds => some ds
  | .flst ds => some ds
  | _ => none
/-- what two lists hold, side by side, at the moment -/
def zipM (x y : D) (M : Sto) : Option (List D) := match lstOf M x, lstOf M y with
  | some xs, some ys => some (zipT xs ys)
  | _, _ => none
def kZip (ds : List D) (M : Sto) : Res IT := match ds with
  | [.tup xs, .tup ys] => .ok (IT.fix (zipT xs ys)) M
  | [x, y] => match fixL x, fixL y with
    | some xs, some ys => .ok (IT.fix (zipT xs ys)) M
    | _, _ => match lstOf M x, lstOf M y with
      | some _, some _ => .ok (IT.gen (zipM x y)) M
      | _, _ => .bad
  | _ => .bad
def iZipD (fs : FE (List D)) : FE IT := fun ρ M => (fs ρ M).bind kZip
theorem zipT_at {xs ys : List D} {i : Nat} {d : D} (h : (zipT xs ys)[i]? = some d) : ∃ x y, xs[i]? = some x ∧ ys[i]? = some y ∧ d = .tup [x, y] := by
  unfold zipT at h
  rw [List.getElem?_map] at h
  obtain ⟨⟨x, y⟩, h1, h2⟩ := Option.map_eq_some_iff.mp h
  obtain ⟨h3, h4⟩ := List.getElem?_zip_eq_some.mp h1
  exact ⟨x, y, h3, h4, h2.symm⟩
theorem zipT_len (xs ys : List D) : (zipT xs ys).length = min xs.length ys.length := by simp [zipT]
theorem rep_fix {H : Hp} {θ : Th} {v : V} {d : D} {ds : List D} (r : Rep G H θ v d) (h : fixL d = some ds) : ∃ a, v = .ref a ∧ ∀ (H1 : Hp) (θ1 : Th), Ext H θ H1 θ1 → ∃ xs, SqL G.K H1 a xs ∧ Reps G H1 θ1 xs ds := by
  obtain ⟨a, e⟩ : ∃ a, v = .ref a := by
    cases r <;> first | exact ⟨_, rfl⟩ | cases h
  subst e
  refine ⟨a, rfl, fun H1 θ1 E => ?_⟩
  have r1 := r.ext E
  cases d with
  | lst es =>
    cases h
    cases r1 with | lst h1 _ rs => exact ⟨_, .of h1, rs⟩
  | flst es =>
    cases h
    cases r1 with
    | flst h1 _ rs => exact ⟨_, .inl h1, rs⟩
    | klst h1 rs => exact ⟨_, .inr h1, rs⟩
  | _ => cases h
theorem itz_of {H : Hp} {θ : Th} {a b : Addr} {xs ys : List D} (ka : ∀ (H1 : Hp) (θ1 : Th), Ext H θ H1 θ1 → ∃ vs, SqL G.K H1 a vs ∧ Reps G H1 θ1 vs xs) (kb : ∀ (H1 : Hp) (θ1 : Th), Ext H θ H1 θ1 → ∃ vs, SqL G.K H1 b vs ∧ Reps G H1 θ1 vs ys) :
    ItD G H θ (IT.fix (zipT xs ys)).at_ (ItzNL G.K a b) := by
  refine ⟨fun H1 θ1 M1 ds i d E S1 hat hi => ?_, fun H1 θ1 M1 ds i E S1 hat hi => ?_⟩
  · cases hat
    obtain ⟨x, y, h1, h2, rfl⟩ := zipT_at hi
    obtain ⟨vs, q1, r1⟩ := ka H1 θ1 E
    obtain ⟨ws, q2, r2⟩ := kb H1 θ1 E
    obtain ⟨v, g1, g2⟩ := r1.get h1
    obtain ⟨w, g3, g4⟩ := r2.get h2
    refine ⟨⟨vs, ws, v, w, q1, q2, g1, g3⟩, fun z H2 hy => ?_⟩
    obtain ⟨T, v', w', ob, rfl, hn, hd, rfl, z1, z2⟩ := hy
    have e1 := z1 vs q1
    have e2 := z2 ws q2
    rw [g1] at e1
    rw [g3] at e2
    cases e1
    cases e2
    have E1 : Ext H1 θ1 (upd H1 T (.frz ob (.tup [v, w]))) θ1 := Ext.alloc hn _
    exact ⟨θ1, E1, S1.alloc hn _, .tup ⟨ob, hd, upd_same⟩ (S1.out hn) (.cons (g2.ext E1) (.cons (g4.ext E1) .nil))⟩
  · cases hat
    rw [zipT_len] at hi
    obtain ⟨vs, q1, r1⟩ := ka H1 θ1 E
    obtain ⟨ws, q2, r2⟩ := kb H1 θ1 E
    refine ⟨vs, ws, q1, q2, ?_⟩
    rw [r1.length, r2.length]
    omega
theorem itzM_of {H : Hp} {θ : Th} {a b : Addr} {x y : D} (ka : ∀ (H1 : Hp) (θ1 : Th) (M1 : Sto) xs, Ext H θ H1 θ1 → StoR G H1 θ1 M1 → lstOf M1 x = some xs → ∃ vs, SqL G.K H1 a vs ∧ Reps G H1 θ1 vs xs) (kb : ∀ (H1 : Hp) (θ1 : Th) (M1 : Sto) ys, Ext H θ H1 θ1 → StoR G H1 θ1 M1 → lstOf M1 y = some ys → ∃ vs, SqL G.K H1 b vs ∧ Reps G H1 θ1 vs ys) :
    ItD G H θ (IT.gen (zipM x y)).at_ (ItzNL G.K a b) := by
  have key : ∀ {M1 : Sto} {ds : List D}, (IT.gen (zipM x y)).at_ M1 = some ds → ∃ xs ys, lstOf M1 x = some xs ∧ lstOf M1 y = some ys ∧ ds = zipT xs ys := by
    intro M1 ds h
    have h : zipM x y M1 = some ds := h
    unfold zipM at h
    split at h
    · rename_i xs ys hx hy
      cases h
      exact ⟨xs, ys, hx, hy, rfl⟩
    · cases h
  refine ⟨fun H1 θ1 M1 ds i d E S1 hat hi => ?_, fun H1 θ1 M1 ds i E S1 hat hi => ?_⟩
  · obtain ⟨xs, ys, hx, hy, rfl⟩ := key hat
    obtain ⟨x', y', h1, h2, rfl⟩ := zipT_at hi
    obtain ⟨vs, q1, r1⟩ := ka H1 θ1 M1 xs E S1 hx
    obtain ⟨ws, q2, r2⟩ := kb H1 θ1 M1 ys E S1 hy
    obtain ⟨v, g1, g2⟩ := r1.get h1
    obtain ⟨w, g3, g4⟩ := r2.get h2
    refine ⟨⟨vs, ws, v, w, q1, q2, g1, g3⟩, fun z H2 hy => ?_⟩
    obtain ⟨T, v', w', ob, rfl, hn, hd, rfl, z1, z2⟩ := hy
    have e1 := z1 vs q1
    have e2 := z2 ws q2
    rw [g1] at e1
    rw [g3] at e2
    cases e1
    cases e2
    have E1 : Ext H1 θ1 (upd H1 T (.frz ob (.tup [v, w]))) θ1 := Ext.alloc hn _
    exact ⟨θ1, E1, S1.alloc hn _, .tup ⟨ob, hd, upd_same⟩ (S1.out hn) (.cons (g2.ext E1) (.cons (g4.ext E1) .nil))⟩
  · obtain ⟨xs, ys, hx, hy, rfl⟩ := key hat
    rw [zipT_len] at hi
    obtain ⟨vs, q1, r1⟩ := ka H1 θ1 M1 xs E S1 hx
    obtain ⟨ws, q2, r2⟩ := kb H1 θ1 M1 ys E S1 hy
    refine ⟨vs, ws, q1, q2, ?_⟩
    rw [r1.length, r2.length]
    omega
theorem itzT_of {H : Hp} {θ : Th} {a b : Addr} {xs ys : List D} (ka : ∀ (H1 : Hp) (θ1 : Th), Ext H θ H1 θ1 → ∃ vs, SqT G.K H1 a vs ∧ Reps G H1 θ1 vs xs) (kb : ∀ (H1 : Hp) (θ1 : Th), Ext H θ H1 θ1 → ∃ vs, SqT G.K H1 b vs ∧ Reps G H1 θ1 vs ys) :
    ItD G H θ (IT.fix (zipT xs ys)).at_ (ItzNT G.K a b) := by
  refine ⟨fun H1 θ1 M1 ds i d E S1 hat hi => ?_, fun H1 θ1 M1 ds i E S1 hat hi => ?_⟩
  · cases hat
    obtain ⟨x, y, h1, h2, rfl⟩ := zipT_at hi
    obtain ⟨vs, q1, r1⟩ := ka H1 θ1 E
    obtain ⟨ws, q2, r2⟩ := kb H1 θ1 E
    obtain ⟨v, g1, g2⟩ := r1.get h1
    obtain ⟨w, g3, g4⟩ := r2.get h2
    refine ⟨⟨vs, ws, v, w, q1, q2, g1, g3⟩, fun z H2 hy => ?_⟩
    obtain ⟨T, v', w', ob, rfl, hn, hd, rfl, z1, z2⟩ := hy
    have e1 := z1 vs q1
    have e2 := z2 ws q2
    rw [g1] at e1
    rw [g3] at e2
    cases e1
    cases e2
    have E1 : Ext H1 θ1 (upd H1 T (.frz ob (.tup [v, w]))) θ1 := Ext.alloc hn _
    exact ⟨θ1, E1, S1.alloc hn _, .tup ⟨ob, hd, upd_same⟩ (S1.out hn) (.cons (g2.ext E1) (.cons (g4.ext E1) .nil))⟩
  · cases hat
    rw [zipT_len] at hi
    obtain ⟨vs, q1, r1⟩ := ka H1 θ1 E
    obtain ⟨ws, q2, r2⟩ := kb H1 θ1 E
    refine ⟨vs, ws, q1, q2, ?_⟩
    rw [r1.length, r2.length]
    omega
theorem rep_tups {H : Hp} {θ : Th} {v : V} {ds : List D} (r : Rep G H θ v (.tup ds)) : ∃ a, v = .ref a ∧ ∀ (H1 : Hp) (θ1 : Th), Ext H θ H1 θ1 → ∃ xs, SqT G.K H1 a xs ∧ Reps G H1 θ1 xs ds := by
  obtain ⟨a, xs, ea, hq, rs⟩ := rep_tup r
  subst ea
  refine ⟨a, rfl, fun H1 θ1 E => ?_⟩
  obtain ⟨a', xs', ea, hq', rs'⟩ := rep_tup (r.ext E)
  cases ea
  exact ⟨xs', hq', rs'⟩
theorem di_zip {p pos tpos : Pos} {elts : List Expr} {kk : Nat} (hm : X.mg "zip" = none) (ha : DA G X [e, e2] fs) (hg : Gl X "zip" := by rfl)
    (hs : starEach [e, e2] X.env = (false, eval e X.env) :: starEach [e2] X.env := by rfl) (hpl : (backTo pos (starEach [e2] X.env)).any (·.1) = false := by rfl) : DI G X (.Tuple elts kk tpos) (.Call (.Name "zip" p) [e, e2] [] pos) (iZipD fs) := fun ok W tk =>
  (pi_zipN hg hm (ha ok W tk) hs hpl).imp fun σ H R q => by
  obtain ⟨ρ, θ, M, S, q⟩ := q
  refine rdA_seq (g := fun ds _ M1 => kZip ds M1) S q fun ds vs H1 θ1 M1 S1 E1 r1 q1 => ?_
  have hK := ok.hk
  unfold kZip at q1
  split at q1
  · rename_i xs ys
    cases r1 with | cons r1 rs =>
      cases rs with | cons r2 rs =>
        cases rs
        obtain ⟨a, rfl, ka⟩ := rep_tups r1
        obtain ⟨b, rfl, kb⟩ := rep_tups r2
        obtain ⟨us, q2, _⟩ := ka H1 θ1 (Ext.refl _ _)
        obtain ⟨ws, q3, _⟩ := kb H1 θ1 (Ext.refl _ _)
        have J := itzT_of ka kb
        rw [hK] at q2 q3 J
        exact ⟨a, b, us, ws, rfl, .inr ⟨q2, q3, q1 H1 θ1 (Ext.refl _ _) S1.2 _ J⟩⟩
  · split at q1
    · rename_i hx hy
      cases r1 with | cons r1 rs =>
        cases rs with | cons r2 rs =>
          cases rs
          obtain ⟨a, rfl, ka⟩ := rep_fix r1 hx
          obtain ⟨b, rfl, kb⟩ := rep_fix r2 hy
          obtain ⟨us, q2, _⟩ := ka H1 θ1 (Ext.refl _ _)
          obtain ⟨ws, q3, _⟩ := kb H1 θ1 (Ext.refl _ _)
          have J := itz_of ka kb
          rw [hK] at q2 q3 J
          exact ⟨a, b, us, ws, rfl, .inl ⟨q2, q3, q1 H1 θ1 (Ext.refl _ _) S1.2 _ J⟩⟩
    · split at q1
      · rename_i xs ys hx hy
        cases r1 with | cons r1 rs =>
          cases rs with | cons r2 rs =>
            cases rs
            obtain ⟨a, us, ea, q2, _⟩ := rep_lst S1.2 r1 hx
            obtain ⟨b, ws, eb, q3, _⟩ := rep_lst S1.2 r2 hy
            subst ea eb
            have J := itzM_of (G := G) (a := a) (b := b) (fun H2 θ2 M2 zs E S2 h2 => by
              obtain ⟨a', vs', ea', h3, h4⟩ := rep_lst S2 (r1.ext E) h2
              cases ea'
              exact ⟨vs', h3, h4⟩) (fun H2 θ2 M2 zs E S2 h2 => by
              obtain ⟨a', vs', ea', h3, h4⟩ := rep_lst S2 (r2.ext E) h2
              cases ea'
              exact ⟨vs', h3, h4⟩)
            rw [hK] at q2 q3 J
            exact ⟨a, b, us, ws, rfl, .inl ⟨q2, q3, q1 H1 θ1 (Ext.refl _ _) S1.2 _ J⟩⟩
      · exact q1.elim
  · exact q1.elim
end
end DL
set_option maxHeartbeats 4000000
namespace DL
open PySem PySem.Spec PyProof.Rows L2
section
variable {G : Cfg} {X : Cx} {a e : Expr} {fa : FE D} {pos : Pos}
/-! ### a list's method without arguments; pop(), insert -/
theorem mt0_rd {W : WX} {g : Sto → D → List D → Option (D × Sto)} (ok : Okc G X) {σ : L2.St} {H : Hp} {Q : VK} (h : rdE G W (dMt g fa dNil) σ H Q) : tBM0 X.K "list" (rMt G g) (rdE G W fa) σ H Q := by
  obtain ⟨ρ, θ, M, S, q⟩ := h
  refine rdE_seq (g := fun x ρ N => match lstOf N x with | some _ => (dNil ρ N).bind fun ds M2 => kMt g x ds M2 | none => .bad) S q fun x v H1 θ1 N1 S1 E1 r1 q1 => ?_
  cases el : lstOf N1 x with
  | none => simp only [el] at q1; exact q1.elim
  | some ys =>
    simp only [el] at q1
    obtain ⟨l, xs, e1, e2, _⟩ := rep_lst S1.2 r1 el
    rw [ok.hk] at e2
    subst e1
    refine ⟨.inl ⟨rfl, xs, e2⟩, ?_⟩
    have q1 : postR G W σ H1 θ1 _ (kMt g x [] N1) := q1
    unfold kMt at q1
    split at q1
    · rename_i d M3 eg
      exact ⟨θ1, N1, x, [], d, M3, S1.2, r1, .nil, eg, fun v H' E S' r => q1 H' θ1 E S' v r⟩
    · exact q1.elim
theorem de_mt0 {g : Sto → D → List D → Option (D × Sto)} {name : Str} {id : String} {apos : Pos} (slot : Slot "list" name id) (hty : typeOf (.builtin id) = pure (.type "method_descriptor")) (hm : Okc G X → MtR X id (rMt G g)) (ho : DE G X a fa)
    (hbase : attributeBase a name X.env (eval a X.env) = eval a X.env := by rfl) (hline : (apos.endLine == pos.line) = true := by rfl) : DE G X (.Call (.Attribute a name apos) [] [] pos) (dMt g fa dNil) := fun ok W tk =>
  (pe_bm0 F.plainAttrs_list slot hty (hm ok) (ho ok W tk) hbase hline).imp fun σ H Q h => mt0_rd ok h
def gPop (M : Sto) (x : D) (ds : List D) : Option (D × Sto) := match x, ds with
  | .own n, [] => match M[n]? with
    | some (.lst xs) => match xs[xs.length - 1]? with
      | some d => some (d, M.set n (.lst xs.dropLast))
      | none => none
    | _ => none
  | _, _ => none
theorem Reps.dropLast {H : Hp} {θ : Th} {vs : List V} {ds : List D} (r : Reps G H θ vs ds) : Reps G H θ vs.dropLast ds.dropLast := by
  rw [List.dropLast_eq_take, List.dropLast_eq_take, r.length]
  exact r.take _
theorem md_pop (ok : Okc G X) : MtR X "list.pop" (rMt G gPop) := by
  intro pins s σ H x vs v us Q I rx rv h
  obtain ⟨θ, M, dx, ds, d, M', S, r1, rs, hg, q⟩ := h
  unfold gPop at hg
  split at hg
  · rename_i n
    split at hg
    · rename_i xs hm
      split at hg
      · rename_i d' hd
        cases hg
        cases r1 with
        | @own p _ hn =>
          cases rs
          obtain ⟨ys, e1, e2⟩ := S.own hn hm
          have E := Ext.write (H := H) (List.mem_of_getElem? hn) (.lst ys.dropLast)
          obtain ⟨y, h1, h2⟩ := e2.get hd
          exact mt_pop pins s σ H _ _ v us Q I rx rv ⟨p, ys, y, rfl, rfl, e1, by rw [e2.length]; exact h1, q _ _ E (S.set hn ⟨_, upd_same, (e2.ext E).dropLast⟩) (h2.ext E)⟩
      · cases hg
    · cases hg
  · cases hg
def gInsert (M : Sto) (x : D) (ds : List D) : Option (D × Sto) := match x, ds with
  | .own n, [.int i, d] => match M[n]? with
    | some (.lst xs) => if xs.length < sizeLine ∧ 0 ≤ i ∧ i < 2 ^ 63 then some (.non, M.set n (.lst (xs.take i.toNat ++ [d] ++ xs.drop i.toNat))) else none
    | _ => none
  | _, _ => none
theorem md_insert (ok : Okc G X) : MtR X "list.insert" (rMt G gInsert) := by
  intro pins s σ H x vs v us Q I rx rv h
  obtain ⟨θ, M, dx, ds, d, M', S, r1, rs, hg, q⟩ := h
  unfold gInsert at hg
  split at hg
  · rename_i n i d'
    split at hg
    · rename_i xs hm
      split at hg
      · rename_i hz
        cases hg
        cases r1 with
        | @own p _ hn =>
          cases rs with
          | cons r2 rs =>
            cases rs with
            | cons r3 rs =>
              cases rs
              cases rep_int r2
              obtain ⟨ys, e1, e2⟩ := S.own hn hm
              rename_i y
              have E := Ext.write (H := H) (List.mem_of_getElem? hn) (.lst (ys.take i.toNat ++ [y] ++ ys.drop i.toNat))
              exact mt_insert pins s σ H _ _ v us Q I rx rv ⟨p, ys, i, y, rfl, rfl, e1, by rw [e2.length]; exact hz.1, hz.2.1, hz.2.2, q _ _ E (S.set hn ⟨_, upd_same, (((e2.ext E).take _).append (.cons (r3.ext E) .nil)).append ((e2.ext E).drop _)⟩) .non⟩
      · cases hg
    · cases hg
  · cases hg
end
end DL
set_option maxHeartbeats 4000000
namespace DL
open PySem PySem.Spec PyProof.Rows L2
section
variable {G : Cfg} {X : Cx} {e : Expr} {es : List Expr} {fa : FE D} {fr : FE (List D)}
/-! ### *e in a display -/
def dStar (fa : FE D) (fr : FE (List D)) : FE (List D) := fun ρ M => (fa ρ M).bind fun x M1 => match seqOf M1 x with
  | some ds => (fr ρ M1).bind fun xs M2 => .ok (ds ++ xs) M2
  | none => .bad
theorem da_star {p : Pos} (ha : DE G X e fa) (hr : DA G X es fr) (hs : starEach (.Starred e p :: es) X.env = (true, eval e X.env) :: starEach es X.env := by rfl) : DA G X (.Starred e p :: es) (dStar fa fr) := fun ok W tk =>
  (StX.pa_star (ha ok W tk) (hr ok W tk) hs).imp fun σ H Q q => by
  obtain ⟨ρ, θ, M, S, q⟩ := q
  refine rdE_seq (g := fun x ρ M1 => match seqOf M1 x with | some ds => (fr ρ M1).bind fun xs M2 => .ok (ds ++ xs) M2 | none => .bad) S q fun x v H1 θ1 M1 S1 E1 r1 q1 => ?_
  cases es : seqOf M1 x with
  | none => simp only [es] at q1; exact q1.elim
  | some ds =>
    simp only [es] at q1
    obtain ⟨a, xs, rfl, hq, rs⟩ := rep_seq S1.2 r1 es
    rw [ok.hk] at hq
    refine ⟨a, xs, rfl, hq.symm, ?_⟩
    refine rdA_seq (g := fun ys _ M2 => .ok (ds ++ ys) M2) S1 q1 fun ys vs H2 θ2 M2 S2 E2 r2 q2 => ?_
    exact q2 H2 θ2 (Ext.refl _ _) S2.2 _ ((rs.ext E2).append r2)
end
end DL
set_option maxHeartbeats 4000000
namespace DL
open PySem PySem.Spec PyProof.Rows L2
/-! ### [elt for .. in .. for .. in ..]: the list is one of one's own from the start -/
def lc2In (T1 : TgC) (ft1 : FE Bool) (fe : FE D) (ws1 : List Nat) (n : Nat) (ρ2 : Env) : List D → Sto → Res Unit
  | [], M => .ok () M
  | e :: es, M => match T1.d e (wipeE ρ2 ws1) with
    | none => .bad
    | some ρ3 => match ft1 ρ3 M with
      | .ok true M2 => match fe ρ3 M2 with
        | .ok y M3 => match gApp M3 (.own n) [y] with
          | some (_, M4) => lc2In T1 ft1 fe ws1 n ρ2 es M4
          | none => .bad
        | _ => .bad
      | .ok false M2 => lc2In T1 ft1 fe ws1 n ρ2 es M2
      | _ => .bad
def lc2Out (T : TgC) (ft : FE Bool) (fi1 : FE IT) (T1 : TgC) (ft1 : FE Bool) (fe : FE D) (ws ws1 : List Nat) (n : Nat) (ρ : Env) : List D → Sto → Res Unit
  | [], M => .ok () M
  | d :: ds, M => match T.d d (wipeE ρ ws) with
    | none => .bad
    | some ρ2 => match ft ρ2 M with
      | .ok true M2 => match fi1 ρ2 M2 with
        | .ok (IT.fix es) M3 => match lc2In T1 ft1 fe ws1 n ρ2 es M3 with
          | .ok _ M4 => lc2Out T ft fi1 T1 ft1 fe ws ws1 n ρ ds M4
          | _ => .bad
        | _ => .bad
      | .ok false M2 => lc2Out T ft fi1 T1 ft1 fe ws ws1 n ρ ds M2
      | _ => .bad
def kLc2 (T : TgC) (ft : FE Bool) (fi1 : FE IT) (T1 : TgC) (ft1 : FE Bool) (fe : FE D) (ws ws1 : List Nat) (ρ : Env) (it : IT) (M : Sto) : Res D := match it with
  | .fix ds => match lc2Out T ft fi1 T1 ft1 fe ws ws1 M.length ρ ds (M ++ [.lst []]) with
    | .ok _ M2 => .ok (.own M.length) M2
    | _ => .bad
  | _ => .bad
def fLc2 (fi : FE IT) (T : TgC) (ft : FE Bool) (fi1 : FE IT) (T1 : TgC) (ft1 : FE Bool) (fe : FE D) (ws ws1 : List Nat) : FE D := fun ρ M => (fi ρ M).bind fun it M1 => kLc2 T ft fi1 T1 ft1 fe ws ws1 ρ it M1
section
variable {G : Cfg} {X : Cx}
abbrev rdI (G : Cfg) (W : WX) (fi : FE IT) : TI := fun σ H R => ∃ ρ θ M, StR G σ H ρ θ M ∧ postR G W σ H θ (fun H' θ' _ p => ∀ J, ItD G H' θ' p.at_ J → R J H') (fi ρ M)
theorem lc2_rd {W : WX} {T T1 : TgC} {ft ft1 : FE Bool} {fe : FE D} {ws ws1 : List Nat} {fi fi1 : FE IT} {σ : L2.St} {H : Hp} {Q : VK} (hK : G.K = X.K) (hw : ∀ i ∈ T.ix, i ∈ ws) (hw1 : ∀ i ∈ T1.ix, i ∈ ws1)
    (h : rdE G W (fLc2 fi T ft fi1 T1 ft1 fe ws ws1) σ H Q) :
    tLc2 (rdI G W fi) (T.k X.K) (rdT G WF ft) (rdI G WF fi1) (T1.k X.K) (rdT G WF ft1) (rdE G WF fe) ws ws1 σ H Q := by
  obtain ⟨ρ, θ, M, S, q⟩ := h
  have q : postR G W σ H θ (fun H' θ' _ d => ∀ v, Rep G H' θ' v d → Q v H') ((fi ρ M).bind fun it M1 => kLc2 T ft fi1 T1 ft1 fe ws ws1 ρ it M1) := q
  refine ⟨ρ, θ, M, S, q.seq fun it N H1 θ1 E1 S1 q1 J JD p hp => ?_⟩
  unfold kLc2 at q1
  split at q1
  case h_2 => exact q1.elim
  rename_i ds0
  split at q1
  case h_2 => exact q1.elim
  rename_i uu Mf et
  -- the state at the start
  have hlast : (θ1.own p).lb[N.length]? = some p := S1.last
  have hst0 : StoR G (upd H1 p (.lst [])) (θ1.own p) (N ++ [.lst []]) := S1.push hp ⟨[], upd_same, .nil⟩
  have E0 : Ext H1 θ1 (upd H1 p (.lst [])) (θ1.own p) := Ext.allocOwn hp _
  have lbp : ∀ {H' : Hp} {θ' : Th}, Ext (upd H1 p (.lst [])) (θ1.own p) H' θ' → θ'.lb[N.length]? = some p := fun E => by
    obtain ⟨t, ht⟩ := E.pre
    rw [← ht, List.getElem?_append_left (by have := List.getElem?_eq_some_iff.1 hlast; exact this.1), hlast]
  refine ⟨fun i m H2 => m + i = ds0.length ∧ ∃ θ2 M2, Ext (upd H1 p (.lst [])) (θ1.own p) H2 θ2 ∧ StoR G H2 θ2 M2 ∧ lc2Out T ft fi1 T1 ft1 fe ws ws1 N.length ρ (ds0.drop i) M2 = .ok uu Mf,
    ⟨ds0.length, by omega, θ1.own p, N ++ [.lst []], Ext.refl _ _, hst0, by rw [List.drop_zero]; exact et⟩, fun i m H2 hw2 => ?_⟩
  obtain ⟨hm, θ2, M2, E2, S2, hl⟩ := hw2
  by_cases hlt : i < ds0.length
  · have hi : ds0[i]? = some ds0[i] := List.getElem?_eq_getElem hlt
    obtain ⟨hgo, hy⟩ := JD.go H2 θ2 M2 ds0 i ds0[i] (E0.trans E2) S2 rfl hi
    obtain ⟨m', rfl⟩ : ∃ m', m = m' + 1 := ⟨m - 1, by omega⟩
    rw [List.drop_eq_getElem_cons hlt] at hl
    refine .inr ⟨hgo, fun H3 => ∃ θ3 M3, Ext (upd H1 p (.lst [])) (θ1.own p) H3 θ3 ∧ StoR G H3 θ3 M3 ∧ lc2Out T ft fi1 T1 ft1 fe ws ws1 N.length ρ (ds0.drop (i + 1)) M3 = .ok uu Mf, fun H' hn => ⟨m', Nat.lt_succ_self _, by omega, hn⟩, fun x H' y => ?_⟩
    obtain ⟨θ3, E3, S3, r⟩ := hy x H' y
    unfold lc2Out at hl
    split at hl
    · cases hl
    · rename_i ρ2 hT
      have R3 : EnvR G H' θ3 (wipe σ ws) (wipeE ρ ws) := wipe_env ((((S.1.ext E1).ext E0).ext E2).ext E3) ws
      refine tg_run hK hw R3 r hT fun σ2 R4 ew => ⟨by rw [ew, wipe_wipe], ρ2, θ3, M2, ⟨R4, S3⟩, ?_⟩
      split at hl
      · rename_i M4 eT
        rw [eT]
        intro H4 θ4 E4 S4
        refine iteT ⟨ρ2, θ4, M4, ⟨R4.ext E4, S4⟩, ?_⟩
        split at hl
        · rename_i es M5 eI
          rw [eI]
          intro H5 θ5 E5 S5 J1 JD1
          split at hl
          · rename_i u5 M6 eL
            have E05 : Ext (upd H1 p (.lst [])) (θ1.own p) H5 θ5 := ((E2.trans E3).trans E4).trans E5
            refine ⟨fun j k H6 => k + j = es.length ∧ ∃ θ6 M7, Ext H5 θ5 H6 θ6 ∧ StoR G H6 θ6 M7 ∧ lc2In T1 ft1 fe ws1 N.length ρ2 (es.drop j) M7 = .ok u5 M6, ⟨es.length, by omega, θ5, M5, Ext.refl _ _, S5, by rw [List.drop_zero]; exact eL⟩, fun j k H6 hw6 => ?_⟩
            obtain ⟨hk, θ6, M7, E6, S6, hl6⟩ := hw6
            by_cases hj : j < es.length
            · obtain ⟨k', rfl⟩ : ∃ k', k = k' + 1 := ⟨k - 1, by omega⟩
              obtain ⟨hgo1, hy1⟩ := JD1.go H6 θ6 M7 es j es[j] E6 S6 rfl (List.getElem?_eq_getElem hj)
              rw [List.drop_eq_getElem_cons hj] at hl6
              refine .inr ⟨hgo1, fun H8 => ∃ θ8 M8, Ext H5 θ5 H8 θ8 ∧ StoR G H8 θ8 M8 ∧ lc2In T1 ft1 fe ws1 N.length ρ2 (es.drop (j + 1)) M8 = .ok u5 M6, fun H'' hn => ⟨k', Nat.lt_succ_self _, by omega, hn⟩, fun x1 H8 y1 => ?_⟩
              obtain ⟨θ8, E8, S8, r8⟩ := hy1 x1 H8 y1
              unfold lc2In at hl6
              split at hl6
              · cases hl6
              · rename_i ρ3 hT1
                have R8 : EnvR G H8 θ8 (wipe σ2 ws1) (wipeE ρ2 ws1) := wipe_env ((((R4.ext E4).ext E5).ext E6).ext E8) ws1
                refine tg_run hK hw1 R8 r8 hT1 fun σ3 R9 ew1 => ⟨by rw [ew1, wipe_wipe], ρ3, θ8, M7, ⟨R9, S8⟩, ?_⟩
                split at hl6
                · rename_i M9 eT1
                  rw [eT1]
                  intro H9 θ9 E9 S9
                  refine iteT ⟨ρ3, θ9, M9, ⟨R9.ext E9, S9⟩, ?_⟩
                  split at hl6
                  · rename_i y M10 eE
                    rw [eE]
                    intro H10 θ10 E10 S10 v r10
                    split at hl6
                    · rename_i dd M11 eA
                      have E510 : Ext H5 θ5 H10 θ10 := ((E6.trans E8).trans E9).trans E10
                      have hn := lbp (E05.trans E510)
                      unfold gApp at eA
                      simp only [] at eA
                      split at eA
                      · rename_i xs hm10
                        split at eA
                        · rename_i hz
                          cases eA
                          obtain ⟨ys, e1, e2⟩ := S10.own hn hm10
                          have EW := Ext.write (H := H10) (List.mem_of_getElem? hn) (.lst (ys ++ [v]))
                          exact ⟨ys, e1, by rw [e2.length]; exact hz, θ10, _, E510.trans EW, S10.set (m := .lst (xs ++ [y])) hn ⟨_, upd_same, (e2.ext EW).append (.cons (r10.ext EW) .nil)⟩, hl6⟩
                        · cases eA
                      · cases eA
                    · cases hl6
                  · cases hl6
                · rename_i M9 eT1
                  rw [eT1]
                  intro H9 θ9 E9 S9
                  exact iteF ⟨θ9, M9, (E6.trans E8).trans E9, S9, hl6⟩
                · cases hl6
            · rw [List.drop_eq_nil_of_le (by omega)] at hl6
              cases hl6
              exact .inl ⟨JD1.stop H6 θ6 _ es j E6 S6 rfl (by omega), θ6, _, E05.trans E6, S6, hl⟩
          · cases hl
        · cases hl
      · rename_i M4 eT
        rw [eT]
        intro H4 θ4 E4 S4
        exact iteF ⟨θ4, M4, (E2.trans E3).trans E4, S4, hl⟩
      · cases hl
  · rw [List.drop_eq_nil_of_le (by omega)] at hl
    cases hl
    refine .inl ⟨JD.stop H2 θ2 _ ds0 i (E0.trans E2) S2 rfl (by omega), ?_⟩
    exact q1 H2 θ2 (E0.trans E2) S2 _ (.own (lbp E2))
variable {elt tg iter tg1 iter1 : Expr} {ifs ifs1 : List Expr} {scope : Scope} {pos : Pos} {T T1 : TgC} {ft ft1 : FE Bool} {fe : FE D} {fi fi1 : FE IT} {ix : List (Str × Nat)} {ws1 : List Nat}
theorem de_lc2 (hN : X.N.Nodup) (okB : BlkOk X.N X.env.scope scope ix) (hv : ∀ i ∈ ws1, i ∈ ix.map (·.2)) (hi : DI G X tg iter fi) (hw : ∀ i ∈ T.ix, i ∈ ix.map (·.2)) (hw1 : ∀ i ∈ T1.ix, i ∈ ws1)
    (hg : ∀ (s : Shared) (H : Hp) (C : Addr) (cl : List (Str × Addr)) (fp : List Addr), X.calm = true → PG (BlkCx X scope s H C cl fp) tg (T.k X.K)) (ht : ∀ (s : Shared) (H : Hp) (C : Addr) (cl : List (Str × Addr)) (fp : List Addr), DTs G (BlkCx X scope s H C cl fp) ifs ft)
    (hi1 : ∀ (s : Shared) (H : Hp) (C : Addr) (cl : List (Str × Addr)) (fp : List Addr), DI G (BlkCx X scope s H C cl fp) tg1 iter1 fi1)
    (hg1 : ∀ (s : Shared) (H : Hp) (C : Addr) (cl : List (Str × Addr)) (fp : List Addr), X.calm = true → PG (BlkCx X scope s H C cl fp) tg1 (T1.k X.K)) (ht1 : ∀ (s : Shared) (H : Hp) (C : Addr) (cl : List (Str × Addr)) (fp : List Addr), DTs G (BlkCx X scope s H C cl fp) ifs1 ft1)
    (he : ∀ (s : Shared) (H : Hp) (C : Addr) (cl : List (Str × Addr)) (fp : List Addr), DE G (BlkCx X scope s H C cl fp) elt fe) (hs : ∀ x, foldedSetIterable iter X.env x = pure x := by intro _; rfl) (hs1 : ∀ env x, foldedSetIterable iter1 env x = pure x := by intro _ _; rfl) :
    DE G X (.ListComp elt [⟨tg, iter, ifs, 0⟩, ⟨tg1, iter1, ifs1, 0⟩] scope pos) (fLc2 fi T ft fi1 T1 ft1 fe (ix.map (·.2)) ws1) := fun ok W tk =>
  (pe_lc2 ok.calm hN (hi ok W tk) okB hv (fun s H C cl fp => hg s H C cl fp ok.calm) (fun s H C cl fp => ht s H C cl fp (blk_ok ok)) (fun s H C cl fp => hi1 s H C cl fp (blk_ok ok) WF takes0) (fun s H C cl fp => hg1 s H C cl fp ok.calm) (fun s H C cl fp => ht1 s H C cl fp (blk_ok ok)) (fun s H C cl fp => he s H C cl fp (blk_ok ok) WF takes0) hs hs1).imp fun σ H Q h => lc2_rd ok.hk hw hw1 h
end
end DL
set_option maxHeartbeats 4000000
/-! DLS: own exceptions whose __init__ says super().__init__('text') and keeps one field. -/
namespace DL
open PySem PySem.Spec PyProof.Rows L2
open PySem.W PySem.Calls
section
variable {prog : Program} {w : World} {A : Around} {E : Value → Shared → Prop} {h : Heap} {g : Array GenState} {d : Drawn} {t : Nat} {os : OsState}
/-- the built-in __init__, bound to the exception at e, called -/
theorem xi_call {nm q : Str} {C N e u t0 : Addr} {bs bm : List Value} {hdct : Bool} {sn : List Str} {sub : List Value} {ab : Bool} {col : Option Bool} {dd : Option Addr} {k0 k1 k2 k3 k5 : Option Value} {rest : List Value} {Q : Value → Shared → Prop}
    (hC : h.get? C = some (excClassObj nm q C N bs bm hdct sn sub ab col dd k0 k1 k2 k3 k5 "ValueError.__new__")) (he : h.get? e = some (HandSPX.excO C t0)) (hu : h.get? u = some (kxs_mw "ValueError.__init__" e)) (hz : rest.length ≤ sizeLine)
    (hq : ∀ h' t1, (∀ b o, b ≠ e → h.get? b = some o → h'.get? b = some o) → h'.get? e = some (HandSPX.excO C t1) → Q .none ⟨h', g, d, t, os⟩) :
    wpAny (model prog w) A (call (.ref u) rest) Q E ⟨h, g, d, t, os⟩ := by
  refine wpAny_call (codeAny_of_tree (show wpAny _ A.in1 (callAny (.ref u) ⟨rest, []⟩) _ _ _ from ?_))
  simp only [callAny]
  refine wpAny_bind (wpAny_load hu ?_)
  simp only [kxs_mw, show (Value.type "method-wrapper" == Value.type "method" || Value.type "method-wrapper" == Value.type "builtin_function_or_method" || Value.type "method-wrapper" == Value.type "method-wrapper") = true from by decide, if_true]
  refine PySem.W.KFB.if_so (by decide) (wpAny_bind (check_bound_init F.excBase_ValueError.toExcCallFacts hC he rfl ?_))
  refine wpAny_bind (wpAny_pure (wpAny_pure ⟨plainId_quiet F.excBase_ValueError.init.plain _, codeAny_builtin F.excBase_ValueError.initEntry ?_⟩))
  exact exc_init_tree (cls := .ref C) (t0 := t0) (dv := none) (c2 := .none) (c3 := .none) (b4 := .bool false) he hz fun h' k e' _ => hq h' _ k e'
end
/-- the text of such an __init__ -/
def xiBody (sf pr f m : Str) (p0 p1 p2 p3 p4 p5 p6 p7 p8 p9 : Pos) (j : Nat) : List Stmt :=
  [.Expr (.Call (.Attribute (.Call (.Name "super" p0) [] [] p1) "__init__" p2) [.Constant (.str m) j p3] [] p4) p5, .Assign [.Attribute (.Name sf p6) f p7] (.Name pr p8) p9]
/-- what the written part says of such a class -/
structure XiC (P : Program) (K : PySem.W.Frag) (C : Addr) (f : Str) : Prop where
  T : OexC K C
  hno : PySem.W.findIn K (.ref C) f = some none
  val : PySem.W.subIn K (.ref C) (.type "ValueError") = some true
  opq : PySem.W.nsIn K cStatics "thirdparty.any" = some none
  along : ks_superIn K C C "__init__" = some (some (.builtin "ValueError.__init__"))
  self : PySem.W.mroIn K C (.ref C) = some true
  run : ∃ (fI cda cc : Addr) (name qual : Str) (params : Arguments) (scope : Scope) (kV doc pm ct oc ccl cl : Value) (an od cdd cld : Option Addr) (osl ccs csl : Array (Option Value)) (vs : Array Value) (file : Str) (tf : Tok) (sf pr m : Str) (p0 p1 p2 p3 p4 p5 p6 p7 p8 p9 : Pos) (j : Nat) (ar : Arg),
    PySem.W.findIn K (.ref C) "__init__" = some (some (.ref fI)) ∧ PySem.W.typeIn K (.ref fI) = some (.type "function") ∧
    K.lookup fI = some ⟨oc, od, .func (ksFn name qual params (xiBody sf pr f m p0 p1 p2 p3 p4 p5 p6 p7 p8 p9 j) scope .none kV doc pm an (.ref cda) ct cc), osl⟩ ∧ PySem.W.codeIn K (.ref cda) qual = true ∧
    K.lookup cda = some ⟨ccl, cdd, .fields vs, ccs⟩ ∧ vs[2]? = some (.str file tf) ∧ ((P.main.file : Str) == file) = true ∧ K.lookup cc = some ⟨cl, cld, .cell (some (.ref C)), csl⟩ ∧
    (∀ u v : Value, bindArgs (ksFn name qual params (xiBody sf pr f m p0 p1 p2 p3 p4 p5 p6 p7 p8 p9 j) scope .none kV doc pm an (.ref cda) ct cc) ⟨[u, v], []⟩ = pure [(sf, u), (pr, v)]) ∧
    (params.posonlyargs ++ params.args).head? = some ar ∧ ar.arg = sf ∧ pr ≠ sf ∧ scope.names.lookup ("super" : Str) = some .globalImplicit ∧ scope.names.lookup ("__class__" : Str) = some .free ∧ scope.names.lookup sf = some .local ∧ scope.names.lookup pr = some .local ∧
    (∀ x ∈ scope.names, x.2 ≠ .cell) ∧ scope.isCoroutine = false ∧ scope.isGenerator = false ∧ scope.kind = .function ∧ (P.main.scope.names.lookup ("super" : Str)).isSome = false ∧ (sf == ("__debug__" : Str)) = false ∧ (pr == ("__debug__" : Str)) = false ∧
    (∀ env : PySem.Env, ∃ pl : Sem Bool, eval (.Call (.Attribute (.Call (.Name "super" p0) [] [] p1) "__init__" p2) [.Constant (.str m) j p3] [] p4) env = (do
      let ov ← attributeBase (.Call (.Name "super" p0) [] [] p1) "__init__" env (eval (.Call (.Name "super" p0) [] [] p1) env)
      standAt p2.atName
      let (f, first) ← holding [ov] (getMethod ov "__init__" pl)
      callWith p4 f first (backTo p4 (starEach [.Constant (.str m) j p3] env)) []))
section
variable {prog : Program} {w : World} {A : Around} {K : PySem.W.Frag} {mg : Str → Option Value} {h : Heap} {g : Array GenState} {d : Drawn} {t : Nat} {os : OsState} {R : Result → Shared → Prop} {C e t0 : Addr} {f : Str} {u : Value}
theorem xi_run (F1 : XiC prog K C f) (hroom : A.depth < recursionLimit) (X : K.In h) (lim : h.NoLimit) (gl : h.Ns mainGlobals mg) (ms : mg "super" = none) (blt : ∃ mb, h.Ns builtinsNs mb ∧ ∀ x : Str, x ≠ "__name__" → mb x = bootBuiltins x)
    (he : h.get? e = some (HandSPX.excO C t0)) (hek : K.lookup e = none)
    (hq : ∀ h' tk' dx t1, (∀ b o, b ≠ e → h.get? b = some o → h'.get? b = some o) → h.objs.size ≤ dx → h'.get? e = some { cls := .ref C, dict := some dx, data := .fields #[.ref t1, .none, .none, .none, .bool false, .none] } → h'.Ns1 dx (fun y => if y = f then some u else none) → R (.ok (.ret .none)) ⟨h', g, d, tk', os⟩) :
    ∃ fI, PySem.W.findIn K (.ref C) "__init__" = some (some (.ref fI)) ∧ PySem.W.typeIn K (.ref fI) = some (.type "function") ∧ codeAny (model prog w) A (.call (.ref fI) ⟨[.ref e, u], []⟩) R ⟨h, g, d, t, os⟩ := by
  obtain ⟨⟨nmC, qC, N, bs, bm, sn, sub, ab, col, dd, k0, k1, k2, k3, k5, hC, hbm⟩, sa, exC, tyC, kC⟩ := F1.T
  obtain ⟨fI, cda, cc, name, qual, params, scope, kV, doc, pm, ct, oc, ccl, cl, an, od, cdd, cld, osl, ccs, csl, vs, file, tf, sf, pr, m, p0, p1, p2, p3, p4, p5, p6, p7, p8, p9, j, ar, iC, tI, lk, hcd, lc, hvs, hfile, lcell, hbind, hp, har, hne, nsup, ncls, nsf, npr, ncell, nco, ngen, nk, ntop, hd1, hd2, hev⟩ := F1.run
  refine ⟨fI, iC, tI, ?_⟩
  obtain ⟨mb, hmb, hboot⟩ := blt
  have hcl : PySem.W.clsIn K C = some { name := nmC, bases := bs, mro := .ref C :: bm, ns := N, qualname := qC, hasDict := true, slotNames := sn, subclasses := sub, abstract := ab, collection := col, hasDel := false } := by unfold PySem.W.clsIn; rw [hC] <;> rfl
  have hal : PySem.W.alongIn K "__init__" bm = some (some (.builtin "ValueError.__init__")) := by
    have := F1.along
    unfold ks_superIn at this
    rw [hcl] at this
    simpa [List.dropWhile_cons] using this
  refine ks_codeAny_call_defAt (binds := [(sf, .ref e), (pr, u)]) hroom (X _ _ lk) rfl lim (PySem.W.codeRec_of X hcd) rfl (.of_eq (hbind _ _)) ncell (fun x hx => ?_) (fun h1 hns hk => ?_) nco ngen nk
  · simp only [List.mem_cons, List.not_mem_nil, or_false] at hx
    rcases hx with rfl | rfl
    · exact nsf
    · exact npr
  obtain ⟨mL, hmL⟩ : ∃ mL : Str → Option Value, mL = fun x => List.lookup x (List.reverse [(sf, Value.ref e), (pr, u)]) := ⟨_, rfl⟩
  rw [← hmL] at hns
  have hns : h1.Ns h.objs.size mL := hns
  have X1 : K.In h1 := X.keeps hk
  have e1 := hk _ _ he
  show _root_.PySem.wpAt (model prog w) (A.deeper (ksEnv qual scope h.objs.size fI (.ref cda) cc)) (.func _ (ksEnv qual scope h.objs.size fI (.ref cda) cc)) (execs _ (ksEnv qual scope h.objs.size fI (.ref cda) cc)) _ _ _
  have vsf : mL sf = some (.ref e) := by
    rw [hmL]
    have : (sf == pr) = false := by simpa using fun z => hne z.symm
    simp [List.lookup, this]
  have vpr : mL pr = some u := by rw [hmL]; simp [List.lookup]
  have kb : ∀ {x : Str} {c : NameKind}, scope.names.lookup x = some c → (ksEnv qual scope h.objs.size fI (.ref cda) cc).kindOf x = some c := fun h => h
  obtain ⟨pl, hev⟩ := hev (ksEnv qual scope h.objs.size fI (.ref cda) cc)
  have hi : interactive (ksEnv qual scope h.objs.size fI (.ref cda) cc) = false := by unfold interactive; rw [show (ksEnv qual scope h.objs.size fI (.ref cda) cc).scope.kind = .function from nk]; rfl
  refine ks_wpAt_execs_cons (ks_wpAt_Expr_any (ks_wpAt_MethodCall (he := hev) (ks_wpAt_super_base (kb nsup) (kb ncls) (by decide) rfl (X1 _ _ lk) rfl hp rfl (X1 _ _ lc) rfl hvs hfile ntop ?_)) hi)
  refine ks_loadName_global nk (kb nsup) (loadGlobal_builtin (env := ksEnv qual scope h.objs.size fI (.ref cda) cc) (gl.keeps hk) ms (hmb.keeps hk) ((hboot _ (by decide +kernel)).trans rfl) ⟨rfl, ?_⟩)
  refine wpAny_loadName_free nk (kb ncls) rfl ⟨_, X1 _ _ lcell, rfl⟩ ?_
  refine wpAny_loadName_local nk (by rw [har]; exact kb nsf) hns (by rw [har]; exact vsf) ?_
  refine ks_wpAny_isType_cls (X1 _ _ hC) rfl ⟨rfl, ?_⟩
  refine ks_wpAny_call_super (X1 _ _ hC) rfl e1 rfl (fun c z => by cases z) (looks_mroIn X1 F1.self) (fun h2 hso hk2 => ?_)
  have X2 : K.In h2 := X1.keeps hk2
  have I2 : PySem.W.InstAt h2 e (HandSPX.excO C t0) C none := ⟨hk2 _ _ e1, rfl, rfl, trivial⟩
  refine kxs_getMethod kxs_ValueError (l₀ := .ref C :: bm) hso (looks_opaque X2 F1.opq) (fun A Q E s k q => wpAny_bind ((looks_clsIn X2 hcl) A _ E s k (wpAny_pure q))) rfl X2 (by simpa [List.dropWhile_cons] using hal) (I2.type.andThen (looks_subIn X2 F1.val)) (ks_ne X2 I2 hcl) (by decide) ?_
  have hk3 : ∀ b o, h2.get? b = some o → (h2.push (kxs_mw "ValueError.__init__" e)).get? b = some o := fun b o z => Heap.get?_push_of_some _ z
  have X3 := X2.keeps hk3
  have e3 := hk3 _ _ (hk2 _ _ e1)
  have hso3 : (h2.push (kxs_mw "ValueError.__init__" e)).get? h2.objs.size = some (kxs_mw "ValueError.__init__" e) := Heap.get?_push_at rfl rfl
  refine kxs_callWith (i := "ValueError.__init__") (x := e) rfl ?_
  refine evalArgs_plain (show wpAny _ _ (spliced _) _ _ _ from ?_)
  refine spliced_cons (Constant_str (k := j) (pos := p3) (spliced_nil ?_))
  refine ⟨hso3, xi_call (X3 _ _ hC) e3 hso3 (by rw [sizeLine_eq]; show (1 : Nat) ≤ _; decide) (fun h4 t1 hk4 e4 => ?_)⟩
  have X4 : K.In h4 := fun a o z => hk4 a o (fun y => by rw [y, hek] at z; cases z) (X3 a o z)
  have leL : e ≠ h.objs.size := Nat.ne_of_lt (Heap.lt_size he)
  have n4 := ((hns.keeps hk2).keeps hk3).at (fun o z => hk4 _ o (Ne.symm leL) z)
  have rest : ∀ b o, b ≠ e → h.get? b = some o → h4.get? b = some o := fun b o hb z => hk4 b o hb (hk3 _ _ (hk2 _ _ (hk _ _ z)))
  show _root_.PySem.wpAt _ _ _ (execs [_] _) _ _ _
  refine ks_wpAt_execs_cons (ks_wpAt_Assign_Attr ?_)
  refine wpAt_of_wpAny (wpAny_Name ?_ hd2)
  refine wpAny_loadName_local nk (kb npr) n4 vpr ?_
  refine wpAny_Name ?_ hd1
  refine wpAny_loadName_local nk (kb nsf) n4 vsf ?_
  refine PySem.W.set_plain X4 (ox := HandSPX.excO C t1) (od := none) ⟨e4, rfl, rfl, trivial⟩ sa ?_
  refine HandSPX.exc_osa X4 e4 hcl (show HandSPX.refsVE (.ref C :: bm) = true from hbm) rfl F1.hno (fun h5 tk5 dx k5' dn dne hx hx2 => ?_)
  have hdx : h5.get? dx ≠ none := by
    obtain ⟨o, _, _, z, _⟩ := hx2
    rw [z]; exact fun y => by cases y
  show _root_.PySem.wpAt _ _ _ (execs [] _) _ _ _
  refine wpAt_of_wpAny (wpAny_execs_nil ?_)
  refine hq h5 tk5 dx t1 (fun b o hb z => k5' b o hb (rest b o hb z)) ?_ hx hx2
  refine Nat.le_trans ?_ dn
  refine Nat.le_trans (Nat.le_of_lt n4.lt) (Nat.le_refl _)
end
/-- C(e), C's own __init__ keeping the field f -/
def tMkS (C : Addr) (f : Str) (ta : TA) : L2.St → Hp → XK → Prop := fun σ H Q => ta σ H fun vs H1 => ∃ v, vs = [v] ∧ ∀ dx, H1 dx = none → Q (.ref C) (some dx) (upd H1 dx (.xd [(f, v)]))
section
variable {X : Cx} {e : Expr} {es : List Expr} {ta : TA} {f x : Str} {p pos : Pos} {C : Addr} {k : Nat}
theorem pmk_sup (F1 : XiC X.prog X.K C f) (hr : Room (k + 1) X.A) (ms : X.mg "super" = none) (hg : Gl X x) (hm : X.mg x = some (.ref C)) (ha : PA X (e :: es) ta)
    (hdb : (x == ("__debug__" : Str)) = false := by decide) (he : starEach (e :: es) X.env = (false, eval e X.env) :: starEach es X.env := by rfl) (hpl : (backTo pos (starEach es X.env)).any (·.1) = false := by rfl) : PMk X (.Call (.Name x p) (e :: es) [] pos) (tMkS C f ta) := by
  intro pins s σ H Q I0 h
  have T := F1.T
  obtain ⟨nmC, qC, N, bs, bm, sn, sub, ab, col, dd, k0, k1, k2, k3, k5, hC, hbm⟩ := T.cls
  refine wpAny_Call_Name_kw (ld_glob I0 hg hm ?_ hdb)
  refine PySem.W.callWith_K (h₀ := X.base) I0.ok.mod.kin T.kC (thn (ha.run pos pins s σ H _ I0 h) fun us s1 ⟨vs, H1, I1, r1, v, ev, q1⟩ => ⟨I1.kIn, ?_⟩) he hpl
  subst ev
  obtain ⟨u, rfl, ru⟩ : ∃ u, us = [u] ∧ RelV v u := by
    cases r1 with
    | cons ra rb => cases rb with
      | nil => exact ⟨_, rfl, ra⟩
  show wpAny _ _ (call (.ref C) [u]) _ _ _
  obtain ⟨hp, g, dr, tk, os⟩ := s1
  have hp2 : hp.objs.size ≤ hp.objs.size + 1 := Nat.le_succ _
  have kk : ∀ b o, hp.get? b = some o → ((hp.push (PySem.W.kdv_tup [u])).push (PySem.HandSPX.excO C hp.objs.size)).get? b = some o := fun b o z => Heap.get?_push_of_some _ (Heap.get?_push_of_some _ z)
  have ge : ((hp.push (PySem.W.kdv_tup [u])).push (PySem.HandSPX.excO C hp.objs.size)).get? (hp.objs.size + 1) = some (PySem.HandSPX.excO C hp.objs.size) := by heap_get
  obtain ⟨a, ea⟩ : ∃ a, a = hp.objs.size + 1 := ⟨_, rfl⟩
  rw [← ea] at hp2 ge
  have I2 : Inv X pins σ (upd H1 a (exo a C none)) ⟨(hp.push (PySem.W.kdv_tup [u])).push (PySem.HandSPX.excO C hp.objs.size), g, dr, tk, os⟩ := I1.laid (t' := tk) kk hp2 (exo_ok ge)
  obtain ⟨h2, eh2⟩ : ∃ h2, h2 = (hp.push (PySem.W.kdv_tup [u])).push (PySem.HandSPX.excO C hp.objs.size) := ⟨_, rfl⟩
  rw [← eh2] at ge I2 kk
  have hn1 : H1 a = none := I1.hok.fresh hp2
  have hek : X.K.lookup a = none := by
    cases z : X.K.lookup a with
    | none => rfl
    | some o => exact absurd (Heap.lt_size (I1.kIn _ _ z)) (Nat.not_lt.2 hp2)
  obtain ⟨mb, b1, b2⟩ := I2.mod.blt
  obtain ⟨fI, iC, tI, hrun⟩ : ∃ fI, PySem.W.findIn X.K (.ref C) "__init__" = some (some (.ref fI)) ∧ PySem.W.typeIn X.K (.ref fI) = some (.type "function") ∧ codeAny (model X.prog X.w) (X.A.under (.builtin "type.__call__" ⟨.ref C :: [u], []⟩)) (.call (.ref fI) ⟨[.ref a, u], []⟩) (PySem.W.InitBack a fun r s' => match r with | .ok (.ret y) => MkP X pins σ Q y s' | .ok _ => False | .error z => X.xe z s') ⟨h2, g, dr, tk, os⟩ := by
    refine xi_run F1 (hr.make C [u] []).depth I2.kIn I2.nolimit (I2.mod.glob.keeps I2.bk) ms ⟨mb, b1.keeps I2.bk, b2⟩ ge hek (fun h' tk' dx t1 kp dn hx hns => ⟨rfl, ?_⟩)
    show MkP X pins σ Q (.ref a) _
    have nd : ∀ {b : Addr} {o : Obj}, h2.get? b = some o → b ≠ dx := fun z => Nat.ne_of_lt (Nat.lt_of_lt_of_le (Heap.lt_size z) dn)
    have dxa : dx ≠ a := fun z => by
      obtain ⟨o, es', ep, e1, e2, _⟩ := hns
      rw [z, hx] at e1
      cases e1
      cases e2
    have hd2 : upd H1 a (exo a C none) dx = none := I2.hok.fresh dn
    have hd1 : H1 dx = none := by rwa [upd_ne dxa] at hd2
    have na : ∀ {b : Addr}, upd H1 a (exo a C none) b = none → b ≠ a := fun n z => by rw [z, upd_same] at n; cases n
    have ua : upd H1 a (exo a C none) a = some (exo a C none) := upd_same
    have U : Un (frs X.stack) [] (upd H1 a (exo a C none)) (upd (upd (upd H1 a (exo a C none)) dx (exd dx [(f, v)])) a (exo a C (some dx))) h2 h' := ⟨fun b o z n _ _ => kp b o (na n) z, fun b o z n _ _ => ⟨o.slots, kp b o (na n) z⟩, fun b o z n _ => by rw [upd_ne (na n), upd_ne (nd z)]; exact n, fun b o z _ => by
      by_cases hb : b = a
      · exact ⟨_, by rw [hb]; exact hx⟩
      · exact ⟨o, kp b o hb z⟩, fun b xs z => by rw [upd_ne (at_ne ua z exo_tup), upd_ne (ne_of_none z hd2)]; exact z, fun b o y z => by rw [upd_ne (at_ne ua z exo_frz), upd_ne (ne_of_none z hd2)]; exact z, fun b ps z => ⟨#[], by rw [upd_ne (at_ne ua z exo_tbl), upd_ne (ne_of_none z hd2), z]; simp⟩⟩
    have ho : HOk X.prog X.w (upd (upd (upd H1 a (exo a C none)) dx (exd dx [(f, v)])) a (exo a C (some dx))) h' := fun b o z => by
      by_cases hb : b = a
      · subst hb
        rw [upd_same] at z
        cases z
        exact exo_ok hx
      · rw [upd_ne hb] at z
        by_cases hd : b = dx
        · subst hd
          rw [upd_same] at z
          cases z
          exact exd_ok hns (relO_put (fs := []) ru fun g => True.intro)
        · rw [upd_ne hd] at z
          refine (I2.hok b o z).stay (fun c y hc q => kp c y ?_ q) (fun c hc => by rw [upd_ne (at_ne ua hc exo_own), upd_ne (ne_of_none hc hd2)]; exact hc) (fun c xs hc => by rw [upd_ne (at_ne ua hc exo_tup), upd_ne (ne_of_none hc hd2)]; exact hc)
          rcases hc with hc | hc
          · rw [hc]; exact hb
          · exact at_ne ua hc exo_own
    have q2 := q1 dx hd1
    refine mk_end (fs := [(f, v)]) (raises_own T.exC T.tyC) I1 hp2 kk U ho rfl I1.bare upd_same (by rw [upd_ne dxa, upd_same]) hd1 ?_
    have eq : upd (del (upd (upd (upd H1 a (exo a C none)) dx (exd dx [(f, v)])) a (exo a C (some dx))) a) dx (.xd [(f, v)]) = upd H1 dx (.xd [(f, v)]) := by
      funext b
      by_cases hb : b = dx
      · rw [hb, upd_same, upd_same]
      · rw [upd_ne hb, upd_ne hb]
        by_cases hba : b = a
        · rw [hba, del_same, hn1]
        · rw [del_ne hba, upd_ne hba, upd_ne hb, upd_ne hba]
    rw [eq]
    exact q2
  refine wpAny_call (PySem.HandSPX.call_own F.excBase_ValueError (fun Y => PySem.HandSPX.refsVE_contains Y bm hbm) (I1.kIn _ _ hC) (PySem.W.looks_findIn I1.kIn iC) (fun self => PySem.W.bind_fn I1.kIn self tI) (by rw [sizeLine_eq]; show (1 : Nat) ≤ _; decide) ?_)
  rw [← eh2, ← ea]
  refine codeAny_mono hrun fun r s' z => ?_
  cases r with
  | error er => exact z
  | ok fl =>
    cases fl with
    | ret y => exact z
    | next => exact z
    | brk => exact z
    | cont => exact z
end
end DL
namespace DL
open PySem PySem.Spec PyProof.Rows L2
/-- an own exception class that keeps one field, the c-th of G -/
structure Exf (G : Cfg) (P : Program) (mg : Str → Option Value) (x : Str) (c : Nat) (C : Addr) (f : Str) : Prop where
  at_ : G.exs[c]? = some C
  xi : XiC P G.K C f
  gC : mg x = some (.ref C)
  ms : mg "super" = none
section
variable {G : Cfg} {X : Cx} {x f : Str} {c k : Nat} {C : Addr} {p pos pos2 : Pos} {e : Expr} {fa : FE D}
def sRaiseF (c : Nat) (f : Str) (fa : FE D) : FS := fun ρ M => (fa ρ M).thn ρ fun d M' => .exc c [f] [d] ρ M'
theorem ds_raiseF (F : Exf G X.prog X.mg x c C f) (hr : Room (k + 1) X.A) (ha : DE G X e fa) (hg : Gl X x := by rfl) (hdb : (x == ("__debug__" : Str)) = false := by decide) (he : starEach [e] X.env = (false, eval e X.env) :: starEach [] X.env := by rfl) (hpl : (backTo pos (starEach [] X.env)).any (·.1) = false := by rfl) :
    DS G X (.Raise (some (.Call (.Name x p) [e] [] pos)) none pos2) (sRaiseF c f fa) := fun ok po W tk => by
  have xi : XiC X.prog X.K C f := ok.hk ▸ F.xi
  refine (ps_raise ok.calm tk (pmk_sup xi hr F.ms hg F.gC (da_cons ha da_nil he ok W tk) hdb he hpl)).imp fun D0 σ H h => ?_
  obtain ⟨ρ, θ, M, S, q⟩ := h
  have q1 := postS.seq (R := fun H1 θ1 _ d => ∀ v, Rep G H1 θ1 v d → ∀ dx, H1 dx = none → W (.ref C) (some dx) σ (upd H1 dx (.xd [(f, v)]))) S.1 (show postS G W D0 H θ ((fa ρ M).thn ρ fun d M' => .exc c [f] [d] ρ M') from q) (fun d M1 H1 θ1 E1 S1 w v rv dx hd => by
    have E2 : Ext H1 θ1 (upd H1 dx (.xd [(f, v)])) θ1 := Ext.alloc hd _
    exact w _ _ σ _ θ1 E2 ⟨(S.1.ext E1).ext E2, S1.alloc hd _⟩ ⟨C, F.at_, rfl, .inr ⟨dx, _, rfl, upd_same, S1.out hd, rfl, .cons (rv.ext E2) .nil, by simp⟩⟩)
  refine ⟨ρ, θ, M, S, ?_⟩
  show postR G W σ H θ _ ((fa ρ M).bind fun x M1 => .ok [x] M1)
  cases er : fa ρ M with
  | ok d M1 =>
    rw [er] at q1
    intro H1 θ1 E1 S1 vs rv
    cases rv with
    | cons ra rb => cases rb with
      | nil => exact ⟨_, rfl, fun dx hd => q1 H1 θ1 E1 S1 _ ra dx hd⟩
  | exc c' fs vs M1 => rw [er] at q1; exact q1
  | bad => rw [er] at q1; exact q1
end
end DL
namespace DL
open PySem PySem.Spec PyProof.Rows L2
open PySem.W
def oexB (K : PySem.W.Frag) (C : Addr) : Bool := match K.lookup C with
  | some ⟨.type "type", _, .cls cd, sl⟩ => (match cd.mro, sl.toList with
    | .ref C' :: bm, [_, _, _, _, some (.builtin n), _] => C' == C && (n == "ValueError.__new__" && (!cd.hasDel && (cd.hasDict && HandSPX.refsVE bm)))
    | _, _ => false)
  | _ => false
theorem oexB_ok {K : PySem.W.Frag} {C : Addr} (q : oexB K C = true) : ∃ nm q N bs bm sn sub ab col dd k0 k1 k2 k3 k5, K.lookup C = some (excClassObj nm q C N bs bm true sn sub ab col dd k0 k1 k2 k3 k5 "ValueError.__new__") ∧ HandSPX.refsVE bm = true := by
  unfold oexB at q
  split at q
  · rename_i dd cd sl ho
    split at q
    · rename_i C' bm k0 k1 k2 k3 n k5 hm hs
      simp only [Bool.and_eq_true, beq_iff_eq, Bool.not_eq_true'] at q
      obtain ⟨e1, e2, e3, e4, e5⟩ := q
      subst e1 e2
      obtain ⟨nm, bs, mro, ns, qn, hd, sn, sub, ab, col, del⟩ := cd
      dsimp only at hm e3 e4
      subst hm e3 e4
      obtain rfl : sl = #[k0, k1, k2, k3, some (.builtin "ValueError.__new__"), k5] := by
        obtain ⟨l⟩ := sl
        simp only at hs
        rw [hs]
      exact ⟨nm, qn, ns, bs, bm, sn, sub, ab, col, dd, k0, k1, k2, k3, k5, ho, e5⟩
    · cases q
  · cases q
theorem xi_mk {P : Program} {K : PySem.W.Frag} {C fI cda cc : Addr} {f qual file sf pr m : Str} {mt : Stmt} {kV doc pm ct oc ccl cl : Value} {an od cdd cld : Option Addr} {osl ccs csl : Array (Option Value)} {vs : Array Value} {tf : Tok} {p0 p1 p2 p3 p4 p5 p6 p7 p8 p9 : Pos} {j : Nat} {ar : Arg}
    (ho : oexB K C = true) (sa : PySem.W.findIn K (.ref C) "__setattr__" = some (some (.builtin "object.__setattr__"))) (h1 : PySem.W.subIn K (.ref C) (.type "BaseException") = some true) (h2 : PySem.W.typeIn K (.ref C) = some (.type "type")) (h3 : PySem.W.keepIn K (.ref C) = true)
    (hno : PySem.W.findIn K (.ref C) f = some none) (val : PySem.W.subIn K (.ref C) (.type "ValueError") = some true) (opq : PySem.W.nsIn K cStatics "thirdparty.any" = some none) (along : ks_superIn K C C "__init__" = some (some (.builtin "ValueError.__init__"))) (self : PySem.W.mroIn K C (.ref C) = some true)
    (iC : PySem.W.findIn K (.ref C) "__init__" = some (some (.ref fI))) (tI : PySem.W.typeIn K (.ref fI) = some (.type "function"))
    (lk : K.lookup fI = some ⟨oc, od, .func (ksFn "__init__" qual (defArgs mt) (defBody mt) (defScope mt) .none kV doc pm an (.ref cda) ct cc), osl⟩) (hcd : PySem.W.codeIn K (.ref cda) qual = true) (lc : K.lookup cda = some ⟨ccl, cdd, .fields vs, ccs⟩) (hvs : vs[2]? = some (.str file tf))
    (hfile : ((P.main.file : Str) == file) = true) (lcell : K.lookup cc = some ⟨cl, cld, .cell (some (.ref C)), csl⟩) (ntop : (P.main.scope.names.lookup ("super" : Str)).isSome = false)
    (hb : defBody mt = xiBody sf pr f m p0 p1 p2 p3 p4 p5 p6 p7 p8 p9 j)
    (hbind : ∀ (u v kV doc pm cd ct : Value) (an : Option Addr) (cc : Addr), bindArgs (ksFn "__init__" qual (defArgs mt) (defBody mt) (defScope mt) .none kV doc pm an cd ct cc) ⟨[u, v], []⟩ = pure [(sf, u), (pr, v)])
    (hp : ((defArgs mt).posonlyargs ++ (defArgs mt).args).head? = some ar) (har : ar.arg = sf) (hne : pr ≠ sf) (s1 : (defScope mt).names.lookup ("super" : Str) = some .globalImplicit) (s2 : (defScope mt).names.lookup ("__class__" : Str) = some .free) (s3 : (defScope mt).names.lookup sf = some .local) (s4 : (defScope mt).names.lookup pr = some .local)
    (s5 : ∀ x ∈ (defScope mt).names, x.2 ≠ .cell) (s6 : (defScope mt).isCoroutine = false) (s7 : (defScope mt).isGenerator = false) (s8 : (defScope mt).kind = .function) (d1 : (sf == ("__debug__" : Str)) = false) (d2 : (pr == ("__debug__" : Str)) = false)
    (he : ∀ env : PySem.Env, ∃ pl : Sem Bool, eval (.Call (.Attribute (.Call (.Name "super" p0) [] [] p1) "__init__" p2) [.Constant (.str m) j p3] [] p4) env = (do
      let ov ← attributeBase (.Call (.Name "super" p0) [] [] p1) "__init__" env (eval (.Call (.Name "super" p0) [] [] p1) env)
      standAt p2.atName
      let (f, first) ← holding [ov] (getMethod ov "__init__" pl)
      callWith p4 f first (backTo p4 (starEach [.Constant (.str m) j p3] env)) [])) : XiC P K C f := by
  rw [hb] at lk
  refine ⟨⟨oexB_ok ho, sa, h1, h2, h3⟩, hno, val, opq, along, self, fI, cda, cc, "__init__", qual, defArgs mt, defScope mt, kV, doc, pm, ct, oc, ccl, cl, an, od, cdd, cld, osl, ccs, csl, vs, file, tf, sf, pr, m, p0, p1, p2, p3, p4, p5, p6, p7, p8, p9, j, ar, iC, tI, lk, hcd, lc, hvs, hfile, lcell, fun u v => ?_, hp, har, hne, s1, s2, s3, s4, s5, s6, s7, s8, ntop, d1, d2, he⟩
  have := hbind u v kV doc pm (.ref cda) ct an cc
  rwa [hb] at this
end DL
set_option maxHeartbeats 4000000
/-! DLT: enumerate over a tuple. -/
namespace PySem
theorem meets_enumerate_newTu (l : Addr) (items : Array Value) :
    Meets (Builtin.«enumerate.__new__» ⟨[.type "enumerate", .ref l], []⟩) (fun _ R s => s.heap.IsTuple l items ∧
      R (.ok (.ret (.ref (s.heap.push { cls := .type "tuple_iterator", data := .fields #[.ref l, .int 0 0] }).objs.size)))
        { s with heap := (s.heap.push { cls := .type "tuple_iterator", data := .fields #[.ref l, .int 0 0] }).push { cls := .type "enumerate", data := .fields #[.none, .bool false, .ref s.heap.objs.size, rawInt 0, .none, .none] } }) :=
  .of_wp fun prog w A R s hx => by
    obtain ⟨hp, g, d, tk, os⟩ := s
    obtain ⟨hl, h⟩ := hx
    have hsub := sub_enumerate
    have hL : Heap.IsTuple (Shared.heap ⟨hp, g, d, tk, os⟩) l items := hl
    obtain ⟨ot, ht, hct, nt, hdt⟩ := hl
    obtain ⟨oc, od, odt, osl⟩ := ot
    simp only at hct hdt
    subst hct hdt
    wp_walk using AutoSeq1.wpAny_loadPart' ht
    refine wpAny_stack_any fun st => wpAny_pure ?_
    split
    · rename_i c _ _ _ _ _
      cases (c == Value.type "enumerate") <;> (wp_walk using AutoSeq1.wpAny_loadPart' ht, wpAny_pyIter_tuple hL) <;> exact ⟨_, rfl, h⟩
    · wp_walk using AutoSeq1.wpAny_loadPart' ht, wpAny_pyIter_tuple hL
      exact ⟨_, rfl, h⟩
theorem call_enum_tuple {prog : Program} {w : World} {A : Around} {E : Value → Shared → Prop} {s : Shared} {l : Addr} {items : Array Value} {Q : Value → Shared → Prop} (hL : s.heap.IsTuple l items)
    (h : ∀ h', IsEnum h' (s.heap.objs.size + 1) s.heap.objs.size 0 .none → h'.IsTupleIter s.heap.objs.size l 0 → (∀ b o, s.heap.get? b = some o → h'.get? b = some o) → Q (.ref (s.heap.objs.size + 1)) { s with heap := h' }) :
    wpAny (model prog w) A (call (.type "enumerate") [.ref l]) Q E s := by
  refine callType_new F.called_enumerate (by decide) (F.typeCall_enumerate_1 _) (F.newCall_enumerate_1 _) (fun obj => F.args_object_init_2 obj _) F.entry_enumerate_new (meets_enumerate_newTu l items) ⟨hL, ?_⟩
  have z1 : (s.heap.push { cls := .type "tuple_iterator", data := .fields #[.ref l, .int 0 0] }).objs.size = s.heap.objs.size + 1 := Heap.size_push ..
  show _ ∧ _
  rw [z1]
  have en : IsEnum ((s.heap.push { cls := .type "tuple_iterator", data := .fields #[.ref l, .int 0 0] }).push { cls := .type "enumerate", data := .fields #[.none, .bool false, .ref s.heap.objs.size, rawInt 0, .none, .none] }) (s.heap.objs.size + 1) s.heap.objs.size 0 .none := by
    have z2 := Heap.get?_push_size (s.heap.push { cls := .type "tuple_iterator", data := .fields #[.ref l, .int 0 0] }) (o := { cls := .type "enumerate", data := .fields #[.none, .bool false, .ref s.heap.objs.size, rawInt 0, .none, .none] }) rfl
    rw [z1] at z2; exact z2
  exact ⟨⟨_, en, rfl⟩, h _ en ⟨_, Heap.get?_push_of_some _ (Heap.get?_push_size _ rfl), rfl, rfl⟩ fun b o x => Heap.get?_push_of_some _ (Heap.get?_push_of_some _ x)⟩
end PySem
namespace L2
open PySem PySem.Spec PyProof.Rows
/-- the tuple at a, each item in a new pair -/
def IteT (K : PySem.W.Frag) (a : Addr) : It :=
  ⟨fun i H => ∃ (xs : List V) (x : V), SqT K H a xs ∧ xs[i]? = some x, fun i H v H' => ∃ T x ob, v = .ref T ∧ H T = none ∧ ob.dict = none ∧ H' = upd H T (.frz ob (.tup [.int (i : Nat), x])) ∧ ∀ xs, SqT K H a xs → xs[i]? = some x, fun i H => ∃ xs : List V, SqT K H a xs ∧ xs.length ≤ i⟩
theorem turn_enumT {P : Program} {w : World} {K : PySem.W.Frag} {elts : List Expr} {kk : Nat} {tpos : Pos} (a e it : Addr) (ha : a ≠ it) (hae : a ≠ e) :
    Turn P w K (.Tuple elts kk tpos) (IteT K a) [e, it] e (fun i h => (∃ old, IsEnum h e it ((i : Nat) : Int) old) ∧ h.IsTupleIter it a i ∧ e ≠ it) where
  mem := List.mem_cons_self
  obj := fun i h st b hb => by
    obtain ⟨⟨old, he⟩, ⟨oi, ho, hci, hdi⟩, _⟩ := st
    rcases (show b = e ∨ b = it by simpa using hb) with rfl | rfl
    · exact ⟨_, he, fun v q => nomatch q⟩
    · exact ⟨oi, ho, fun v q => by rw [hdi] at q; cases q⟩
  keep := fun i h h' st k => by
    obtain ⟨⟨old, he⟩, hi, hne⟩ := st
    exact ⟨⟨old, k e (by simp) _ he⟩, hi.at fun oi q => k it (by simp) oi q, hne⟩
  item := by
    intro X hP hw hK hc i pins s σ H E I hf st hg
    cases hP; cases hw; cases hK
    obtain ⟨⟨old, he⟩, hit, hne⟩ := st
    obtain ⟨xs, x, hq, hx⟩ := hg
    obtain ⟨its, rv, p, hz⟩ := I.tuple hq
    obtain ⟨u, hu, ru⟩ := rv.get hx
    have hel : e < s.heap.objs.size := Heap.lt_size he
    have hil : it < s.heap.objs.size := Heap.lt_size hit.choose_spec.1
    have hlt : i < its.toArray.size := by
      have := (List.getElem?_eq_some_iff.1 hu).1
      simpa using this
    refine wpAny_pyNext_enum_itemD (Draws.tuple (A := X.A.in1) (I.ok.hd hc) it a ha its.toArray) he ⟨hit, p⟩ hlt hne (by simp; exact ⟨hne, Ne.symm hae⟩) fun y h' tk hy ho hst' hT hsz hk => ?_
    obtain rfl : y = u := by
      have e1 : its.toArray[i]? = some u := by simpa using hu
      rw [e1] at hy
      exact (Option.some.inj hy).symm
    refine ⟨_, rfl, wpAny_letOwnedTupleGo_enum (s := { s with heap := h', toks := tk + 1 }) ho fun h2 he2 sb => ?_⟩
    have hT2 : h2.get? s.heap.objs.size = some (tupO [.int i tk, y]) := (sb.2 _ (Nat.ne_of_gt hel)).trans hT
    have I1 := I.turnedNew (t' := tk + 1) (ch := [e, it]) (fun b ob hb q => (sb.2 b (fun z => hb (by simp [z]))).trans (hk b ob (fun z => hb (by simp [z])) (fun z => hb (by simp [z])) q)) hf (Nat.le_refl _) (tupO_ok (P := X.prog) (w := X.w) (H := H) (xs := [.int (i : Nat), x]) hT2 rfl (.inr ⟨_, rfl⟩) (by show 2 ≤ sizeLine; decide) (.cons ⟨_, rfl⟩ (.cons ru .nil)))
    have e1 : ((i + 1 : Nat) : Int) = (i : Int) + 1 := by omega
    refine ⟨.ref s.heap.objs.size, _, I1, rfl, ⟨_, x, _, rfl, I.hok.fresh (Nat.le_refl _), rfl, rfl, fun ys hy => by rw [I.tuple_inj hy hq]; exact hx⟩, ⟨⟨y, by rw [e1]; exact he2⟩, hst'.1.at fun oi q => (sb.2 it (Ne.symm hne)).trans q, hne⟩, fun b hb => ?_⟩
    have hb' : b < s.heap.objs.size := by
      rcases (show b = e ∨ b = it by simpa using hb) with rfl | rfl
      · exact hel
      · exact hil
    rw [upd_ne (Nat.ne_of_lt hb'), (hf b hb).1]
  done := by
    intro X hP hw hK hc i pins s σ H E I hf st hg
    cases hP; cases hw; cases hK
    obtain ⟨⟨old, he⟩, hit, hne⟩ := st
    obtain ⟨xs, hq, hx⟩ := hg
    obtain ⟨its, rv, p, hz⟩ := I.tuple hq
    obtain ⟨f0, f1, f2, f3, f4, f5⟩ := hf it (by simp)
    have hl : its.length ≤ i := by rw [← rv.length]; exact hx
    unfold pyNext
    have hTy : s.TypeIs (.ref e) "enumerate" := ⟨_, he, rfl⟩
    refine wpAny_bind (wpAny_attempt (wpAny_callSpecial?_slot (name := Str.ofString "__next__") hTy F.slot_enumerate_next (wpAny_call_entry F.slot_enumerate_next hTy F.entry_enumerate_next ?_ (F.args_enumerate_next_1 _))))
    show wpAny _ _ (field (.ref e) 2 >>= _) _ _ _
    refine wpAny_bind (wpAny_field he rfl (x := .ref it) rfl (wpAny_bind (wpAny_nextOf_tuple_end (I.ok.hd hc) hit p (by simp; omega) fun h' x he' hx' => ?_)))
    obtain ⟨ox, hox, hcx⟩ := hx'
    exact wpAny_bind (wpAny_isInstance (T := "StopIteration") (b := true) ⟨ox, hox, hcx⟩ isSubtype_stop (wpAny_pure ⟨rfl, I.turned (t' := s.toks) (fun b o hb q => he' b o hb q) f0 f1 f3 f4 f5⟩))
  self := fun A i s Q E st h => by
    obtain ⟨⟨_, he⟩, _⟩ := st
    exact wpAny_pyIter_enum he h
def iEnumA (K : PySem.W.Frag) (ta : TA) : TI := fun σ H R => ta σ H fun vs H1 => ∃ a xs, vs = [.ref a] ∧ ((SqL K H1 a xs ∧ R (IteN K a) H1) ∨ (SqT K H1 a xs ∧ R (IteT K a) H1))
theorem pi_enumA {X : Cx} {e : Expr} {ta : TA} {p pos tpos : Pos} {elts : List Expr} {kk : Nat} (hg : Gl X "enumerate") (hm : X.mg "enumerate" = none) (ha : PA X [e] ta) (hs : starEach [e] X.env = [(false, eval e X.env)] := by rfl) :
    PI X (.Tuple elts kk tpos) (.Call (.Name "enumerate" p) [e] [] pos) (iEnumA X.K ta) := ⟨fun pins s σ H R I h => by
  refine Call_ (ld_blt I hg hm boot_enumerate (PyProof.Rows.callWith_type1 (thn (ha.run pos pins s σ H _ I h) fun us s1 ⟨vs, H1, I1, r1, q1⟩ => ?_) hs rfl))
  obtain ⟨a, xs, ex, hq⟩ := q1
  subst ex
  cases r1 with
  | cons r rr =>
    cases rr
    cases r
    have fresh : ∀ b, b ∈ [s1.heap.objs.size + 1, s1.heap.objs.size] → FpOk X pins H1 b := fun b hb => by
      have hle : s1.heap.objs.size ≤ b := by
        rcases (show b = s1.heap.objs.size + 1 ∨ b = s1.heap.objs.size by simpa using hb) with rfl | rfl
        · exact Nat.le_add_right _ _
        · exact Nat.le_refl _
      exact I1.fpOk hle (I1.hok.fresh hle)
    rcases hq with ⟨hq, q⟩ | ⟨hq, q⟩
    · obtain ⟨its, rv, p', hz⟩ := I1.list hq
      refine call_enumerate_list p'.isList fun h' he hit hsz hk => wpAny_pyIter_enum he ?_
      exact ⟨s1.heap.objs.size + 1, [s1.heap.objs.size + 1, s1.heap.objs.size], _, _, H1, rfl, I1.kept (t' := s1.toks) hk, turn_enumN a (s1.heap.objs.size + 1) s1.heap.objs.size, ⟨⟨.none, he⟩, hit, Nat.succ_ne_self _⟩, fresh, q⟩
    · obtain ⟨its, rv, p', hz⟩ := I1.tuple hq
      have hal : a < s1.heap.objs.size := by
        obtain ⟨ot, hot, _⟩ := id p'
        exact Heap.lt_size hot
      refine call_enum_tuple p' fun h' he hit hk => wpAny_pyIter_enum he ?_
      exact ⟨s1.heap.objs.size + 1, [s1.heap.objs.size + 1, s1.heap.objs.size], _, _, H1, rfl, I1.kept (t' := s1.toks) hk, turn_enumT a (s1.heap.objs.size + 1) s1.heap.objs.size (Nat.ne_of_lt hal) (Nat.ne_of_lt (Nat.lt_succ_of_lt hal)), ⟨⟨.none, he⟩, hit, Nat.succ_ne_self _⟩, fresh, q⟩⟩
end L2
namespace DL
open PySem PySem.Spec PyProof.Rows L2
section
variable {G : Cfg} {X : Cx} {e : Expr} {fs : FE (List D)} {H : Hp} {θ : Th} {a : Addr}
def kEnum (ds : List D) (M : Sto) : Res IT := match ds with
  | [.tup xs] => .ok (IT.fix (enumT xs)) M
  | [.own n] => match lstOf M (.own n) with
    | some _ => .ok (IT.gen fun M => (lstOf M (.own n)).map enumT) M
    | none => .bad
  | [x] => match fixL x with
    | some xs => .ok (IT.fix (enumT xs)) M
    | none => .bad
  | _ => .bad
def iEnumD (fs : FE (List D)) : FE IT := fun ρ M => (fs ρ M).bind kEnum
theorem ite_of {at0 : Sto → Option (List D)} (k : ∀ H1 θ1 M1 xs, Ext H θ H1 θ1 → StoR G H1 θ1 M1 → at0 M1 = some xs → ∃ vs, SqL G.K H1 a vs ∧ Reps G H1 θ1 vs xs) : ItD G H θ (fun M => (at0 M).map enumT) (IteN G.K a) := by
  refine ⟨fun H1 θ1 M1 ds i d E S1 hat hi => ?_, fun H1 θ1 M1 ds i E S1 hat hi => ?_⟩
  · obtain ⟨xs, h0, rfl⟩ := Option.map_eq_some_iff.1 hat
    rw [enumT_get] at hi
    obtain ⟨x, h1, rfl⟩ := Option.map_eq_some_iff.1 hi
    obtain ⟨vs, q1, r1⟩ := k H1 θ1 M1 xs E S1 h0
    obtain ⟨v, g1, g2⟩ := r1.get h1
    refine ⟨⟨vs, v, q1, g1⟩, fun z H2 hy => ?_⟩
    obtain ⟨T, v', ob, rfl, hn, hd, rfl, z1⟩ := hy
    have e1 := z1 vs q1
    rw [g1] at e1
    cases e1
    have E1 : Ext H1 θ1 (upd H1 T (.frz ob (.tup [.int (i : Nat), v]))) θ1 := Ext.alloc hn _
    exact ⟨θ1, E1, S1.alloc hn _, .tup ⟨ob, hd, upd_same⟩ (S1.out hn) (.cons (.int _) (.cons (g2.ext E1) .nil))⟩
  · obtain ⟨xs, h0, rfl⟩ := Option.map_eq_some_iff.1 hat
    rw [enumT_len] at hi
    obtain ⟨vs, q1, r1⟩ := k H1 θ1 M1 xs E S1 h0
    exact ⟨vs, q1, by rw [r1.length]; exact hi⟩
theorem iteT_of {xs : List D} (k : ∀ H1 θ1, Ext H θ H1 θ1 → ∃ vs, SqT G.K H1 a vs ∧ Reps G H1 θ1 vs xs) : ItD G H θ (IT.fix (enumT xs)).at_ (IteT G.K a) := by
  refine ⟨fun H1 θ1 M1 ds i d E S1 hat hi => ?_, fun H1 θ1 M1 ds i E S1 hat hi => ?_⟩
  · cases hat
    rw [enumT_get] at hi
    obtain ⟨x, h1, rfl⟩ := Option.map_eq_some_iff.1 hi
    obtain ⟨vs, q1, r1⟩ := k H1 θ1 E
    obtain ⟨v, g1, g2⟩ := r1.get h1
    refine ⟨⟨vs, v, q1, g1⟩, fun z H2 hy => ?_⟩
    obtain ⟨T, v', ob, rfl, hn, hd, rfl, z1⟩ := hy
    have e1 := z1 vs q1
    rw [g1] at e1
    cases e1
    have E1 : Ext H1 θ1 (upd H1 T (.frz ob (.tup [.int (i : Nat), v]))) θ1 := Ext.alloc hn _
    exact ⟨θ1, E1, S1.alloc hn _, .tup ⟨ob, hd, upd_same⟩ (S1.out hn) (.cons (.int _) (.cons (g2.ext E1) .nil))⟩
  · cases hat
    rw [enumT_len] at hi
    obtain ⟨vs, q1, r1⟩ := k H1 θ1 E
    exact ⟨vs, q1, by rw [r1.length]; exact hi⟩
theorem di_enum {p pos tpos : Pos} {elts : List Expr} {kk : Nat} (hm : X.mg "enumerate" = none) (ha : DA G X [e] fs) (hg : Gl X "enumerate" := by rfl)
    (hs : starEach [e] X.env = [(false, eval e X.env)] := by rfl) : DI G X (.Tuple elts kk tpos) (.Call (.Name "enumerate" p) [e] [] pos) (iEnumD fs) := fun ok W tk =>
  (pi_enumA hg hm (ha ok W tk) hs).imp fun σ H R q => by
  obtain ⟨ρ, θ, M, S, q⟩ := q
  refine rdA_seq (g := fun ds _ M1 => kEnum ds M1) S q fun ds vs H1 θ1 M1 S1 E1 r1 q1 => ?_
  have hK := ok.hk
  unfold kEnum at q1
  split at q1
  · rename_i xs
    cases r1 with | cons r1 rs =>
      cases rs
      obtain ⟨a, rfl, ka⟩ := rep_tups r1
      obtain ⟨us, q2, _⟩ := ka H1 θ1 (Ext.refl _ _)
      have J := iteT_of ka
      rw [hK] at q2 J
      exact ⟨a, us, rfl, .inr ⟨q2, q1 H1 θ1 (Ext.refl _ _) S1.2 _ J⟩⟩
  · rename_i n
    split at q1
    · rename_i xs hl
      cases r1 with | cons r1 rs =>
        cases rs
        obtain ⟨a, us, ea, q2, _⟩ := rep_lst S1.2 r1 hl
        subst ea
        have J : ItD G H1 θ1 (IT.gen fun M => (lstOf M (.own n)).map enumT).at_ (IteN G.K a) := ite_of (at0 := fun M => lstOf M (.own n)) fun H2 θ2 M2 ys E S2 h2 => by
          obtain ⟨a', vs', ea', h3, h4⟩ := rep_lst S2 (r1.ext E) h2
          cases ea'
          exact ⟨vs', h3, h4⟩
        rw [hK] at q2 J
        exact ⟨a, us, rfl, .inl ⟨q2, q1 H1 θ1 (Ext.refl _ _) S1.2 _ J⟩⟩
    · exact q1.elim
  · split at q1
    · rename_i xs hx
      cases r1 with | cons r1 rs =>
        cases rs
        obtain ⟨a, rfl, ka⟩ := rep_fix r1 hx
        obtain ⟨us, q2, _⟩ := ka H1 θ1 (Ext.refl _ _)
        have J : ItD G H1 θ1 (IT.fix (enumT xs)).at_ (IteN G.K a) := ite_of (at0 := fun _ => some xs) fun H2 θ2 M2 ys E S2 h2 => by
          cases h2
          exact ka H2 θ2 E
        rw [hK] at q2 J
        exact ⟨a, us, rfl, .inl ⟨q2, q1 H1 θ1 (Ext.refl _ _) S1.2 _ J⟩⟩
    · exact q1.elim
  · exact q1.elim
end
/-! ### isinstance(x, (T1, T2)), two built-in types -/
def isTy2 (n m : String) (k : Kd) : Option Bool := match isTy n k with
  | some true => some true
  | some false => isTy m k
  | none => none
section
variable {G : Cfg} {X : Cx} {a : Expr} {fa : FE D} {p pos px py tpos : Pos} {kk : Nat}
theorem isTy2_ok {n m : String} (k : Kd) (t : Value) (b : Bool) (ht : kdTy G k = some t) (h : isTy2 n m k = some b) : PySem.W.kitAny G.K t [.type n, .type m] = some b := by
  unfold isTy2 at h
  show (match PySem.W.kitOne G.K t (.type n) with | some true => some true | some false => (match PySem.W.kitOne G.K t (.type m) with | some true => some true | some false => some false | none => none) | none => none) = some b
  cases h1 : isTy n k with
  | none => rw [h1] at h; cases h
  | some v =>
    rw [h1] at h
    rw [isTy_ok k t v ht h1]
    cases v with
    | true => exact h
    | false =>
      simp only at h ⊢
      rw [isTy_ok k t b ht h]
      cases b <;> rfl
theorem de_isi2 (KO : KindsOk G) {n m : String} {x y : Str} (hm : X.mg "isinstance" = none) (hx : X.mg x = none) (hy : X.mg y = none) (ha : DE G X a fa) (hv : bootBuiltins x = some (.type n) := by decide +kernel) (hw : bootBuiltins y = some (.type m) := by decide +kernel) (hgx : Gl X x := by rfl) (hgy : Gl X y := by rfl) (hn : x ≠ "__name__" := by decide) (hn2 : y ≠ "__name__" := by decide) (hd : (x == ("__debug__" : Str)) = false := by decide) (hd2 : (y == ("__debug__" : Str)) = false := by decide) (hg : Gl X "isinstance" := by rfl)
    (hst : starEach [a, .Tuple [.Name x px, .Name y py] kk tpos] X.env = (false, eval a X.env) :: starEach [.Tuple [.Name x px, .Name y py] kk tpos] X.env := by rfl) (hst2 : starEach [.Tuple [.Name x px, .Name y py] kk tpos] X.env = (false, eval (.Tuple [.Name x px, .Name y py] kk tpos) X.env) :: starEach [] X.env := by rfl)
    (hst3 : starEach [.Name x px, .Name y py] X.env = (false, eval (.Name x px) X.env) :: starEach [.Name y py] X.env := by rfl) (hst4 : starEach [.Name y py] X.env = (false, eval (.Name y py) X.env) :: starEach [] X.env := by rfl) (hpl : (backTo pos (starEach [.Tuple [.Name x px, .Name y py] kk tpos] X.env)).any (·.1) = false := by rfl) :
    DE G X (.Call (.Name "isinstance" p) [a, .Tuple [.Name x px, .Name y py] kk tpos] [] pos) (dIsi (isTy2 n m) fa) := fun ok W tk => by
  refine (pe_callB (cr_isD ok KO (isTy2 n m)) hg hm (by decide +kernel) (pa_cons (ha ok W tk) (pa_cons (pe_tup (pa_cons (pe_bltn (v := .ty n) hgx hx hv rfl hn hd) (pa_cons (pe_bltn (v := .ty m) hgy hy hw rfl hn2 hd2) pa_nil hst4) hst3)) pa_nil hst2) hst) (by decide) (by decide) hst hpl).imp fun σ H Q h => ?_
  obtain ⟨ρ, θ, M, S, q⟩ := h
  refine rdE_seq (g := fun x _ N => kIsi (isTy2 n m) x N) S q fun d v H1 θ1 N S1 E1 r1 q1 => ?_
  refine ⟨by show (2 : Nat) ≤ sizeLine; decide, fun tp htp => ?_⟩
  have E2 : Ext H1 θ1 (upd H1 tp (.tup [.ty n, .ty m])) θ1 := Ext.alloc htp _
  unfold kIsi at q1
  split at q1
  · rename_i k hk
    split at q1
    · rename_i b hb
      exact ⟨θ1, N, v, .ref tp, d, k, b, rfl, S1.2.alloc htp _, r1.ext E2, hk, hb, .inr ⟨tp, _, _, rfl, upd_same, .cons (.ty n) (.cons (.ty m) .nil), fun t ht => isTy2_ok k t b ht hb⟩, q1 _ θ1 E2 (S1.2.alloc htp _) _ (.bl b)⟩
    · exact q1.elim
  · exact q1.elim
end
/-! ### e.f, e an own exception that keeps f -/
def gFldX (cs : List Nat) (f : Str) (d : D) : Option D := match d with
  | .exc c fs vs => if c ∈ cs then (fs.zip vs).lookup f else none
  | _ => none
def dFldX (cs : List Nat) (f : Str) (fa : FE D) : FE D := fun ρ M => (fa ρ M).bind fun x M1 => .ofO (gFldX cs f x) M1
/-- .. what the classes say -/
def FldX (G : Cfg) (cs : List Nat) (f : Str) : Prop := ∀ c ∈ cs, ∀ C, G.exs[c]? = some C → XfC G.K C ∧ PySem.W.findIn G.K (.ref C) f = some none
theorem reps_lookup {G : Cfg} {H : Hp} {θ : Th} {f : Str} : ∀ {fv : List (Str × V)} {ds : List D} {y : D}, Reps G H θ (fv.map (·.2)) ds → ((fv.map (·.1)).zip ds).lookup f = some y → ∃ v, fv.lookup f = some v ∧ Rep G H θ v y
  | [], _, _, _, h => by cases h
  | (g, w) :: fv, _, y, .cons r rs, h => by
    simp only [List.map_cons, List.zip_cons_cons, List.lookup_cons] at h ⊢
    cases hg : f == g with
    | true => rw [hg] at h; cases h; exact ⟨w, rfl, r⟩
    | false => rw [hg] at h; exact reps_lookup rs h
section
variable {G : Cfg} {X : Cx} {a : Expr} {fa : FE D} {pos : Pos} {f : Str} {cs : List Nat}
theorem de_fldX (F : FldX G cs f) (ha : DE G X a fa) (hb : attributeBase a f X.env (eval a X.env) = eval a X.env := by rfl) : DE G X (.Attribute a f pos) (dFldX cs f fa) := fun ok W tk => by
  refine ⟨fun pins s σ H Q I h => ?_⟩
  obtain ⟨ρ, θ, M, S, q⟩ := h
  have q2 : rdE G W fa σ H fun v H1 => ∀ s1, Inv X pins σ H1 s1 → ∀ u, RelV v u → wpAny (model X.prog X.w) X.A (getAttr u f true) (EP X pins σ Q) X.xe s1 := by
    refine rdE_seq (g := fun x _ N => .ofO (gFldX cs f x) N) S q fun d v H1 θ1 N S1 E1 r1 q1 s1 I1 u ru => ?_
    cases r1 with
    | @exc1 a C dd fv c fs ds hc h' n hd nd hk r ne =>
      obtain rfl : u = Value.ref a := ru
      unfold gFldX at q1
      simp only at q1
      by_cases hcs : c ∈ cs
      · rw [if_pos hcs] at q1
        cases hl : (fs.zip ds).lookup f with
        | none => rw [hl] at q1; exact q1.elim
        | some y =>
          rw [hl] at q1
          subst hk
          obtain ⟨w, g1, g2⟩ := reps_lookup r hl
          obtain ⟨T, hno⟩ := F c hcs C hc
          rw [ok.hk] at T hno
          obtain ⟨⟨oe, vs, h1, hz, hdt⟩, _⟩ := (show ObjOk X.prog X.w H1 s1.heap a (ExH (.ref C) (some dd) a) from I1.hok a _ h')
          have hx : ObjOk X.prog X.w H1 s1.heap dd (.xd fv) := I1.hok dd _ hd
          obtain ⟨mA, hns, hr⟩ := hx
          obtain ⟨od, ho, hlk⟩ := lookIn_ns hns
          obtain ⟨u2, hu, ru2⟩ := RelO.some_of (v := w) (o := mA f) (by rw [← g1]; exact hr f)
          have J : PySem.W.InstAt s1.heap a oe C (some od) := ⟨h1, hz.1, by unfold PySem.W.notCls; rw [hdt] <;> rfl, by rw [hz.2]; exact ho⟩
          exact HandSPX.exc_get I1.kIn J T.ga T.gg T.exC (PySem.W.findObj_own T.hdC hno rfl (by rw [hlk, hu])) (handed_of ru2) ⟨w, H1, I1.tok _, ru2, q1 H1 θ1 (Ext.refl _ _) S1.2 _ g2⟩
      · rw [if_neg hcs] at q1; exact q1.elim
    | @exc0 a C c hc h' n =>
      have z : gFldX cs f (.exc c [] []) = none := by show (if c ∈ cs then List.lookup f ([].zip []) else none) = none; split <;> rfl
      rw [z] at q1
      exact q1.elim
    | _ => exact q1.elim
  refine attr_of hb (thn ((ha ok W tk).run pins s σ H _ I q2) fun u s1 hh => ?_)
  obtain ⟨v, H1, I1, rv, k⟩ := hh
  exact k s1 I1 u rv
end
end DL
set_option maxHeartbeats 4000000
/-! DLV: a dict display of one pair whose key is a tuple. -/
namespace PySem
section
variable {prog : Program} {w : World} {K : Type} [DecidableEq K] {knd : HeapKind prog w K} {A : Around} {E : Value → Shared → Prop} {s : Shared}
theorem dl_subDict1 {pk pv : Sem Value} {Q : Addr → Shared → Prop} (hu : knd.room A)
    (h : wpAny (model prog w) A (evalPairs [(pk, pv)]) (fun vs s₁ => ∃ (k : K) (b : Addr) (v : Value), vs = [(.ref b, v)] ∧ knd.is s₁.heap k b ∧ s₁.heap.DictOfH knd s.heap.objs.size [] ∧
      ∀ h', h'.DictOfH knd s.heap.objs.size (storedH [] k b v) → Heap.SameBut s.heap.objs.size s₁.heap h' → Q s.heap.objs.size { s₁ with heap := h', toks := s₁.toks + knd.draws k }) E
      { s with heap := s.heap.push { cls := .type "dict", data := .dict #[] } }) :
    wpAny (model prog w) A (subDict [(pk, pv)]) Q E s := by
  unfold subDict
  refine wpAny_bind (wpAny_alloc ?_)
  refine wpAny_bind (wpAny_holding ?_)
  rw [if_pos (by simp)]
  refine wpAny_bind (wpAny_mono h (fun vs s₁ h₁ => ?_) fun _ _ e => e)
  obtain ⟨k, b, v, rfl, hk, hm, hQ⟩ := h₁
  refine wpAny_holding ?_
  refine wpAny_bind ?_
  rw [List.forIn_cons]
  refine wpAny_bind (wpAny_bind (wpAny_dictSet_heap (hsz := Nat.zero_le _) hu hk hm fun h' hm' hs' => wpAny_pure ?_))
  show wpAny (model prog w) A (forIn [] _ _) _ _ _
  rw [List.forIn_nil]
  exact wpAny_pure (wpAny_pure (wpAny_pure (hQ h' hm' hs')))
theorem dl_Dict1 {env : Env} {ke ve : Expr} {pos : Pos} {Q : Value → Shared → Prop} (hu : knd.room A)
    (h : wpAny (model prog w) A (eval ke env) (fun kv s₁ => wpAny (model prog w) A (eval ve env) (fun v s₂ => ∃ (k : K) (b : Addr), kv = .ref b ∧ knd.is s₂.heap k b ∧ s₂.heap.DictOfH knd s.heap.objs.size [] ∧
      ∀ h', h'.DictOfH knd s.heap.objs.size (storedH [] k b v) → Heap.SameBut s.heap.objs.size s₂.heap h' → Q (.ref s.heap.objs.size) { s₂ with heap := h', toks := s₂.toks + knd.draws k }) E s₁) E
      { s with heap := s.heap.push { cls := .type "dict", data := .dict #[] } }) :
    wpAny (model prog w) A (eval (.Dict [some ke] [ve] pos) env) Q E s := by
  have hz := zip_pairTrees [some ke] [ve] env pos rfl rfl
  rw [arm_eval_Dict, hz, dictDisplay_pairs (pairTrees [some ke] [ve] env pos) (by simp [pairTrees]) (by simp [pairTrees])]
  refine wpAny_bind (wpAny_standAt (wpAny_bind ?_))
  refine dl_subDict1 (knd := knd) (Q := fun d s' => wpAny (model prog w) A (pure (Value.ref d)) Q E s') hu ?_
  refine pairTrees_cons_walk (wpAny_mono h (fun kv s₁ h₁ => wpAny_mono h₁ (fun v s₂ h₂ => pairTrees_nil_walk ?_) fun _ _ e => e) fun _ _ e => e)
  obtain ⟨k, b, rfl, hk, hm, hq⟩ := h₂
  exact ⟨k, b, v, rfl, hk, hm, fun h' a c => wpAny_pure (hq h' a c)⟩
end
end PySem
namespace L2
open PySem PySem.Spec PyProof.Rows
/-- {(..): v} -/
def tDisp1 (ta : TA) (tv : TE) : TE := fun σ H Q => ∀ p, H p = none → tTup ta σ (upd H p (.dT [])) fun x H1 => ∃ (b : Addr) (xs : List V) (ks : List Key), x = .ref b ∧ H1 b = some (.tup xs) ∧ xs = ks.map kV ∧ tv σ H1 fun y H2 => H2 p = some (.dT []) ∧ H2 b = some (.tup xs) ∧ Q (.ref p) (upd H2 p (.dT [(ks, y)]))
theorem pe_disp1 {X : Cx} {pos tpos : Pos} {es : List Expr} {kk : Nat} {ve : Expr} {ta : TA} {tv : TE} (hu : X.A.units < cLine) (ha : PA X es ta) (hv : PE X ve tv) : PE X (.Dict [some (.Tuple es kk tpos)] [ve] pos) (tDisp1 ta tv) := by
  refine ⟨fun pins s σ H Q I q => ?_⟩
  have hn := I.hok.fresh (Nat.le_refl s.heap.objs.size)
  have I1 := I.laid (a := s.heap.objs.size) (o := .dT []) (h' := s.heap.push { cls := .type "dict", data := .dict #[] }) (t' := s.toks) (fun _ _ q => Heap.get?_push_of_some _ q) (Nat.le_refl _) (dt_empty s.heap I.big)
  refine dl_Dict1 (knd := tupleKind (mixKind X.prog X.w)) hu ?_
  have pt : PE X (.Tuple es kk tpos) (tTup ta) := pe_tup ha
  refine thn (pt.run pins _ σ _ _ I1 (q _ hn)) fun kv s1 ⟨x, H1, I2, rx, b, xs, ks, ex, eb, ek, q2⟩ => ?_
  subst ex
  obtain rfl : kv = Value.ref b := rx
  refine thn (hv.run pins s1 σ H1 _ I2 q2) fun v s2 ⟨y, H2, I3, ry, hp, hb, q3⟩ => ?_
  subst ek
  obtain ⟨z, hd, zs, rel, dd⟩ := dt_of I3.hok hp
  cases rel
  refine ⟨ks, b, rfl, key_of I3.hok hb, dd, fun h' dd' hs => ⟨.ref s.heap.objs.size, _, ?_, rfl, q3⟩⟩
  obtain ⟨o, es', ep, ho, h2, h3, h4, _, h5⟩ := dd'
  have hl : ([(ks, y)] : List (List Key × V)).length ≤ sizeLine := by rw [sizeLine_eq]; simp
  refine d_write I3 (by rw [hp]; exact True.intro) hs ⟨o, ho⟩ ⟨hl, hd, _, ((KT.put (kvs := []) (xs := []) .nil ks hb ry).keeps fun c ys ec => ?_), o, es', ep, ho, h2, h3, h4, h5⟩
  rw [upd_ne (ne_of ec hp (fun z => nomatch z))]
  exact ec
end L2
namespace DL
open PySem PySem.Spec PyProof.Rows L2
def keysOf : List D → Option (List Key)
  | [] => some []
  | d :: r => match keyOf d, keysOf r with
    | some k, some ks => some (k :: ks)
    | _, _ => none
theorem reps_keys {G : Cfg} {H : Hp} {θ : Th} : ∀ {ds : List D} {vs : List V} {ks : List Key}, Reps G H θ vs ds → keysOf ds = some ks → vs = ks.map kV
  | [], _, _, .nil, h => by cases h; rfl
  | d :: ds, _, _, .cons r t, h => by
    unfold keysOf at h
    split at h
    · rename_i k ks h1 h2
      cases h
      rw [rep_key r h1, reps_keys t h2]
      rfl
    · cases h
section
variable {G : Cfg} {X : Cx} {es : List Expr} {ve : Expr} {fs : FE (List D)} {fv : FE D} {pos tpos : Pos} {kk : Nat}
/-- {(..): v}, a dict that does not change -/
def dDisp1 (fs : FE (List D)) (fv : FE D) : FE D := fun ρ M => (fs ρ M).bind fun xs M1 => if xs.length ≤ sizeLine then (match keysOf xs with
  | some ks => (fv ρ M1).bind fun y M2 => .ok (.dit [ks] [y]) M2
  | none => .bad) else .bad
theorem plain_dT (kvs : List (List Key × V)) : Plain (.dT kvs) := ⟨(fun _ z => by cases z), (fun _ _ z => by unfold LamX.CodeO at z; cases z)⟩
theorem de_disp1 (ha : DA G X es fs) (hv : DE G X ve fv) : DE G X (.Dict [some (.Tuple es kk tpos)] [ve] pos) (dDisp1 fs fv) := fun ok W tk => by
  refine (pe_disp1 (by have := ok.hu; omega) (ha ok W tk) (hv ok W tk)).imp fun σ H Q h => ?_
  obtain ⟨ρ, θ, M, S, q⟩ := h
  intro p hp
  have SH : StR G σ (upd H p (.dT [])) ρ (θ.hid p) M := ⟨S.1.ext (Ext.allocHid hp _), S.2.allocHid hp _ (plain_dT []).1⟩
  refine ⟨ρ, θ.hid p, M, SH, ?_⟩
  unfold dDisp1 at q
  cases e1 : fs ρ M with
  | ok ds N =>
    rw [e1] at q
    intro H1 θ1 E1 S1 vs r1
    have q : postR G W σ H θ (fun H' θ' _ d => ∀ v, Rep G H' θ' v d → Q v H') (if ds.length ≤ sizeLine then (match keysOf ds with
      | some ks => (fv ρ N).bind fun y M2 => .ok (D.dit [ks] [y]) M2
      | none => .bad) else .bad) := q
    by_cases hl : ds.length ≤ sizeLine
    · rw [if_pos hl] at q
      refine ⟨by rw [r1.length]; exact hl, fun b hb => ?_⟩
      cases hk : keysOf ds with
      | none => rw [hk] at q; exact q.elim
      | some ks =>
        rw [hk] at q
        have E2 : Ext H1 θ1 (upd H1 b (.tup vs)) θ1 := Ext.alloc hb _
        have S2 : StoR G (upd H1 b (.tup vs)) θ1 N := S1.alloc hb _
        refine ⟨b, vs, ks, rfl, upd_same, reps_keys r1 hk, ρ, θ1, N, ⟨SH.1.ext (E1.trans E2), S2⟩, ?_⟩
        cases e2 : fv ρ N with
        | ok y N2 =>
          rw [e2] at q
          intro H2 θ2 E3 S3 v r2
          have E : Ext (upd H p (.dT [])) (θ.hid p) H2 θ2 := (E1.trans E2).trans E3
          obtain ⟨k1, k2, k3⟩ := hid_keep S.2 hp E (plain_dT []).1
          exact ⟨k1, E3.keep b _ upd_same (Th.nl (S1.out hb)) (fun _ z => by cases z), q _ (θ2.unh p) (hid_ext S.2 hp E (plain_dT []).1) (hid_sto S3 k2 k3 k1 (plain_dT []) (plain_dT _).1) _ (.dit upd_same (Th.unh_out θ2 k3) rfl (hid_reps k2 (.cons r2 .nil)))⟩
        | exc c fs vs N2 =>
          rw [e2] at q
          exact fun cls dd H' θ' E3 S' x => q cls dd H' θ' ((Ext.allocHid hp _).trans ((E1.trans E2).trans E3)) S' x
        | bad => rw [e2] at q; exact q
    · rw [if_neg hl] at q
      exact q.elim
  | exc c fs vs N =>
    rw [e1] at q
    exact fun cls dd H' θ' E S' x => q cls dd H' θ' ((Ext.allocHid hp _).trans E) S' x
  | bad => rw [e1] at q; exact q
end
end DL
set_option maxHeartbeats 4000000
/-! DLW: list.extend. -/
namespace DL
open PySem PySem.Spec PyProof.Rows L2
section
variable {G : Cfg} {X : Cx}
def gExtend (M : Sto) (x : D) (ds : List D) : Option (D × Sto) := match x, ds with
  | .own n, [y] => match M[n]?, lst0 M y with
    | some (.lst xs), some zs => if xs.length + zs.length ≤ sizeLine then some (.non, M.set n (.lst (xs ++ zs))) else none
    | _, _ => none
  | _, _ => none
theorem md_extend (ok : Okc G X) : MtR X "list.extend" (rMt G gExtend) := by
  intro pins s σ H x vs v us Q I rx rv h
  obtain ⟨θ, M, dx, ds, d, M', S, r1, rs, hg, q⟩ := h
  unfold gExtend at hg
  split at hg
  · rename_i n y
    split at hg
    · rename_i xs zs hm hy
      split at hg
      · rename_i hz
        cases hg
        cases r1 with
        | @own p _ hn =>
          cases rs with
          | cons r2 rs =>
            cases rs
            obtain ⟨ys, e1, e2⟩ := S.own hn hm
            obtain ⟨b, ws, eb, hb, rb⟩ := rep_lst1 S r2 hy
            have E := Ext.write (H := H) (List.mem_of_getElem? hn) (.lst (ys ++ ws))
            exact mt_extend pins s σ H _ _ v us Q I rx rv ⟨p, b, ys, ws, rfl, by rw [eb], e1, hb, by rw [e2.length, rb.length]; exact hz, q _ _ E (S.set hn ⟨_, upd_same, (e2.ext E).append (rb.ext E)⟩) .non⟩
      · cases hg
    · cases hg
  · cases hg
end
end DL
set_option maxHeartbeats 4000000
/-! DLX: instances of own classes: fields read, made, len, ==, isinstance. -/
namespace DL
open PySem PySem.Spec PyProof.Rows L2
/-! ### what an instance is -/
def insOf (M : Sto) : D → Option (Nat × List Str × List D)
  | .obj c fs vs => some (c, fs, vs)
  | .own n => match M[n]? with
    | some (.ins c fs vs) => some (c, fs, vs)
    | _ => none
  | _ => none
section
variable {G : Cfg} {H : Hp} {θ : Th} {M : Sto} {v : V} {d : D} {c : Nat} {fs : List Str} {ds : List D}
theorem rep_ins (S : StoR G H θ M) (r : Rep G H θ v d) (h : insOf M d = some (c, fs, ds)) : ∃ a C dx fv, v = .ref a ∧ G.cls[c]? = some C ∧ H a = some (.ins C dx fv) ∧ fv.map (·.1) = fs ∧ Reps G H θ (fv.map (·.2)) ds := by
  cases r with
  | obj hc h' n hk r => cases h; exact ⟨_, _, _, _, rfl, hc, h', hk, r⟩
  | @own a n h' =>
    have h : (match M[n]? with | some (.ins c fs vs) => some (c, fs, vs) | _ => none) = some (c, fs, ds) := h
    split at h
    · rename_i hm
      cases h
      obtain ⟨C, dx, fv, h1, h2, h3, h4⟩ := S.own h' hm
      exact ⟨_, C, dx, fv, rfl, h1, h2, h3, h4⟩
    · cases h
  | _ => cases h
end
/-! ### e.f -/
def fldOf (M : Sto) (cs : List Nat) (f : Str) (d : D) : Option D := match insOf M d with
  | some (c, fs, vs) => if c ∈ cs then (fs.zip vs).lookup f else none
  | none => none
def dFld (cs : List Nat) (f : Str) (fa : FE D) : FE D := fun ρ M => (fa ρ M).bind fun x M1 => .ofO (fldOf M1 cs f x) M1
/-- .. what the classes say -/
def FldC (G : Cfg) (cs : List Nat) (f : Str) : Prop := ∀ c ∈ cs, ∀ C, G.cls[c]? = some C → Cls G.K C ∧ NoAttr G.K C f
section
variable {G : Cfg} {X : Cx} {a o value : Expr} {fa fo fv : FE D} {pos pos' : Pos} {f : Str} {cs : List Nat}
theorem de_fld (F : FldC G cs f) (ha : DE G X a fa) (hb : attributeBase a f X.env (eval a X.env) = eval a X.env := by rfl) : DE G X (.Attribute a f pos) (dFld cs f fa) := fun ok W tk => by
  refine (pe_fld (ha ok W tk) hb).imp fun σ H Q h => ?_
  obtain ⟨ρ, θ, M, S, q⟩ := h
  refine rdE_seq (g := fun x _ N => .ofO (fldOf N cs f x) N) S q fun d v H1 θ1 N S1 E1 r1 q1 => ?_
  cases hl : fldOf N cs f d with
  | none => rw [hl] at q1; exact q1.elim
  | some y =>
    rw [hl] at q1
    unfold fldOf at hl
    split at hl
    · rename_i c fs vs hi
      split at hl
      · rename_i hc
        obtain ⟨b, C, dx, fw, rfl, h1, h2, h3, h4⟩ := rep_ins S1.2 r1 hi
        subst h3
        obtain ⟨w, g1, g2⟩ := reps_lookup h4 hl
        obtain ⟨k1, k2⟩ := F c hc C h1
        rw [ok.hk] at k1 k2
        exact ⟨b, C, dx, fw, w, rfl, h2, k1, k2, g1, q1 H1 θ1 (Ext.refl _ _) S1.2 _ g2⟩
      · cases hl
    · cases hl
/-! ### o.f = value, o a changing instance -/
def putN (f : Str) : List Str → List Str
  | [] => [f]
  | g :: r => if g = f then g :: r else g :: putN f r
def putD (f : Str) (y : D) : List Str → List D → List D
  | [], _ => [y]
  | g :: r, ds => if g = f then y :: ds.drop 1 else ds.take 1 ++ putD f y r (ds.drop 1)
theorem put_reps {H : Hp} {θ : Th} {w : V} {y : D} (ry : Rep G H θ w y) : ∀ {fw : List (Str × V)} {ds : List D}, Reps G H θ (fw.map (·.2)) ds → (putF f w fw).map (·.1) = putN f (fw.map (·.1)) ∧ Reps G H θ ((putF f w fw).map (·.2)) (putD f y (fw.map (·.1)) ds)
  | [], _, .nil => ⟨rfl, .cons ry .nil⟩
  | (g, u) :: fw, _, .cons r rs => by
    obtain ⟨i1, i2⟩ := put_reps ry rs
    simp only [putF, putN, putD, List.map_cons]
    by_cases h : g = f
    · rw [if_pos h, if_pos h, if_pos h]
      exact ⟨rfl, .cons ry rs⟩
    · rw [if_neg h, if_neg h, if_neg h]
      exact ⟨by rw [List.map_cons, i1], .cons r i2⟩
def kFldS (cs : List Nat) (f : Str) (y x : D) (ρ : Env) (M : Sto) : Out := match x with
  | .own n => match M[n]? with
    | some (.ins c fs vs) => if c ∈ cs ∧ fs.length < 1000 then .nx ρ (M.set n (.ins c (putN f fs) (putD f y fs vs))) else .bad
    | _ => .bad
  | _ => .bad
def sFldS (cs : List Nat) (f : Str) (fo fv : FE D) : FS := fun ρ M => (fv ρ M).thn ρ fun y M1 => (fo ρ M1).thn ρ fun x M2 => kFldS cs f y x ρ M2
theorem ds_fld (F : FldC G cs f) (ho : DE G X o fo) (hv : DE G X value fv) (hs : swapsWith value (some (.Attribute o f pos')) pos.line X.env = pure false := by rfl) : DS G X (.Assign [.Attribute o f pos'] value pos) (sFldS cs f fo fv) := fun ok po W tk => by
  refine (ps_fld (ho ok W tk) (hv ok W tk) hs).imp fun D0 σ H h => ?_
  obtain ⟨ρ, θ, M, S, q⟩ := h
  refine ⟨ρ, θ, M, S, postS.seq S.1 q fun y M1 H1 θ1 E1 S1 q1 v1 r1 => ?_⟩
  refine ⟨ρ, θ1, M1, S.ext E1 S1, postS.seq (S.1.ext E1) q1 fun x M2 H2 θ2 E2 S2 q2 v2 r2 => ?_⟩
  unfold kFldS at q2
  split at q2
  · rename_i n
    split at q2
    · rename_i c fs vs hm
      split at q2
      · rename_i hc
        cases r2 with
        | own hl =>
          obtain ⟨C, dx, fw, h1, h2, h3, h4⟩ := S2.own hl hm
          obtain ⟨k1, k2⟩ := F c hc.1 C h1
          rw [ok.hk] at k1 k2
          obtain ⟨p1, p2⟩ := put_reps (f := f) (r1.ext E2) h4
          have lz : fw.length < 1000 := by have := hc.2; rw [← h3, List.length_map] at this; exact this
          rename_i a
          have pa : a ∈ θ2.av := θ2.sub _ (List.mem_of_getElem? hl)
          have E3 : Ext H2 θ2 (upd H2 a (.ins C dx (putF f v1 fw))) θ2 := Ext.write (List.mem_of_getElem? hl) _
          subst h3
          have mr : MOR G (upd H2 a (.ins C dx (putF f v1 fw))) θ2 a (.ins c (putN f (fw.map (·.1))) (putD f y (fw.map (·.1)) vs)) := ⟨C, dx, _, h1, upd_same, p1, p2.touch pa⟩
          exact ⟨_, C, dx, fw, rfl, h2, k1, k2, lz, q2 σ _ θ2 E3 ⟨(S.1.ext (E1.trans E2)).ext E3, S2.set hl mr⟩⟩
      · exact q2.elim
    · exact q2.elim
  · exact q2.elim
end
/-! ### labels that a datum bears -/
mutual
def low (n : Nat) : D → Bool
  | .own k => decide (k < n)
  | .tup xs => lows n xs
  | .lst xs => lows n xs
  | .flst xs => lows n xs
  | .dic _ xs => lows n xs
  | .dit _ xs => lows n xs
  | .obj _ _ xs => lows n xs
  | .exc _ _ xs => lows n xs
  | _ => true
def lows (n : Nat) : List D → Bool
  | [] => true
  | x :: xs => low n x && lows n xs
end
section
variable {G : Cfg} {H : Hp} {θ θ' : Th}
mutual
theorem rep_low : ∀ {v : V} {d : D}, Rep G H θ v d → low θ.lb.length d = true
  | _, _, .non => rfl
  | _, _, .bl b => rfl
  | _, _, .int i => rfl
  | _, _, .str x => rfl
  | _, _, .tup h n r => reps_lows r
  | _, _, .ktup h r => reps_lows r
  | _, _, .lst h n r => reps_lows r
  | _, _, .flst h n r => reps_lows r
  | _, _, .klst h r => reps_lows r
  | _, _, .dic h n hk r => reps_lows r
  | _, _, .dit h n hk r => reps_lows r
  | _, _, .obj hc h n hk r => reps_lows r
  | _, _, .exc0 hc h n => rfl
  | _, _, .exc1 hc h n hd nd hk r ne => reps_lows r
  | _, _, .own h => decide_eq_true (List.getElem?_eq_some_iff.mp h).1
theorem reps_lows : ∀ {vs : List V} {ds : List D}, Reps G H θ vs ds → lows θ.lb.length ds = true
  | _, _, .nil => rfl
  | _, _, .cons h t => by
    show (low _ _ && lows _ _) = true
    rw [rep_low h, reps_lows t]
    rfl
end
mutual
theorem Rep.drop {k : Nat} (hl : ∀ n, n < k → θ'.lb[n]? = θ.lb[n]?) (hv : ∀ a ∈ θ'.av, a ∈ θ.av) : ∀ {v : V} {d : D}, Rep G H θ v d → low k d = true → Rep G H θ' v d
  | _, _, .non, _ => .non
  | _, _, .bl b, _ => .bl b
  | _, _, .int i, _ => .int i
  | _, _, .str x, _ => .str x
  | _, _, .tup h n r, z => .tup h (fun m => n (hv _ m)) (Reps.drop' hl hv r z)
  | _, _, .ktup h r, z => .ktup h (Reps.drop' hl hv r z)
  | _, _, .lst h n r, z => .lst h (fun m => n (hv _ m)) (Reps.drop' hl hv r z)
  | _, _, .flst h n r, z => .flst h (fun m => n (hv _ m)) (Reps.drop' hl hv r z)
  | _, _, .klst h r, z => .klst h (Reps.drop' hl hv r z)
  | _, _, .dic h n hk r, z => .dic h (fun m => n (hv _ m)) hk (Reps.drop' hl hv r z)
  | _, _, .dit h n hk r, z => .dit h (fun m => n (hv _ m)) hk (Reps.drop' hl hv r z)
  | _, _, .obj hc h n hk r, z => .obj hc h (fun m => n (hv _ m)) hk (Reps.drop' hl hv r z)
  | _, _, .exc0 hc h n, z => .exc0 hc h (fun m => n (hv _ m))
  | _, _, .exc1 hc h n hd nd hk r ne, z => .exc1 hc h (fun m => n (hv _ m)) hd (fun m => nd (hv _ m)) hk (Reps.drop' hl hv r z) ne
  | _, _, .own h, z => .own (by rw [hl _ (of_decide_eq_true z)]; exact h)
theorem Reps.drop' {k : Nat} (hl : ∀ n, n < k → θ'.lb[n]? = θ.lb[n]?) (hv : ∀ a ∈ θ'.av, a ∈ θ.av) : ∀ {vs : List V} {ds : List D}, Reps G H θ vs ds → lows k ds = true → Reps G H θ' vs ds
  | _, _, .nil, _ => .nil
  | _, _, .cons (d := d) (ds := ds) h t, z => by
    have z : (low k d && lows k ds) = true := z
    rw [Bool.and_eq_true] at z
    exact .cons (Rep.drop hl hv h z.1) (Reps.drop' hl hv t z.2)
end
def lowM (n : Nat) : MO → Bool
  | .lst ds => lows n ds
  | .dic _ ds => lows n ds
  | .dit _ ds => lows n ds
  | .ins _ _ ds => lows n ds
theorem MOR.low {a : Addr} {m : MO} (r : MOR G H θ a m) : lowM θ.lb.length m = true := by
  cases m with
  | lst ds => obtain ⟨xs, e, r⟩ := r; exact reps_lows r
  | dic ks ds => obtain ⟨xs, e, k, r⟩ := r; exact reps_lows r
  | dit ks ds => obtain ⟨xs, e, k, r⟩ := r; exact reps_lows r
  | ins c fs ds => obtain ⟨C, dx, fv, hc, e, k, r⟩ := r; exact reps_lows r
theorem MOR.drop {k : Nat} {a : Addr} {m : MO} (hl : ∀ n, n < k → θ'.lb[n]? = θ.lb[n]?) (hv : ∀ a ∈ θ'.av, a ∈ θ.av) (r : MOR G H θ a m) (z : lowM k m = true) : MOR G H θ' a m := by
  cases m with
  | lst ds => obtain ⟨xs, e, r⟩ := r; exact ⟨xs, e, r.drop' hl hv z⟩
  | dic ks ds => obtain ⟨xs, e, k, r⟩ := r; exact ⟨xs, e, k, r.drop' hl hv z⟩
  | dit ks ds => obtain ⟨xs, e, k, r⟩ := r; exact ⟨xs, e, k, r.drop' hl hv z⟩
  | ins c fs ds => obtain ⟨C, dx, fv, hc, e, k, r⟩ := r; exact ⟨C, dx, fv, hc, e, k, r.drop' hl hv z⟩
end
/-! ### an instance is made, and never changed behind its __init__ -/
open Classical in
/-- the new instance, the last changing object, is taken out of the store -/
noncomputable def finO (c : Nat) (M1 M2 : Sto) : Res D := if h : ∃ p : List Str × List D, M2 = M1 ++ [.ins c p.1 p.2] ∧ lows M1.length p.2 = true then .ok (.obj c h.choose.1 h.choose.2) M1 else .bad
theorem finO_eq {c : Nat} {M : Sto} {fs : List Str} {vs : List D} (h : lows M.length vs = true) : finO c M (M ++ [.ins c fs vs]) = .ok (.obj c fs vs) M := by
  have hx : ∃ p : List Str × List D, M ++ [.ins c fs vs] = M ++ [.ins c p.1 p.2] ∧ lows M.length p.2 = true := ⟨(fs, vs), rfl, h⟩
  unfold finO
  rw [dif_pos hx]
  have e := hx.choose_spec.1
  have e2 := List.append_cancel_left e
  have e3 : MO.ins c fs vs = MO.ins c hx.choose.1 hx.choose.2 := by simpa using e2
  injection e3 with _ e4 e5
  rw [← e4, ← e5]
noncomputable def finN (c : Nat) (M1 : Sto) (x : D) (M2 : Sto) : Res D := match x with
  | .non => finO c M1 M2
  | _ => .bad
noncomputable def dNewF (c : Nat) (F : List D → Sto → Res D) (fs : FE (List D)) : FE D := fun ρ M => (fs ρ M).bind fun ds M1 => (F (.own M1.length :: ds) (M1 ++ [.ins c [] []])).bind (finN c M1)
/-- an own class: the c-th of G, its __init__ at f -/
structure ClsD (G : Cfg) (mg : Str → Option Value) (x : Str) (c : Nat) (C f : Addr) : Prop where
  at_ : G.cls[c]? = some C
  gC : mg x = some (.ref C)
  mkC : Mk G.K C f
/-- a method that may be called -/
structure OwnM (G : Cfg) (P : Program) (w : World) (mg : Str → Option Value) (base : Heap) (k : Nat) (f : Addr) (fd : FuncData) (ps : List Str) (F : List D → Sto → Res D) : Prop where
  ok : FnOk P w G.K mg base (L2.CX P w) k f fd ps (spD G ps.length F)
  b : L2.Binds G.K fd ps []
  fn : PySem.W.isFn G.K (.ref f) = true
  kp : PySem.W.keepIn G.K (.ref f) = true
section
variable {G : Cfg} {X : Cx} {e : Expr} {es : List Expr} {fs fk : FE (List D)} {pos p : Pos} {x : Str} {f C : Addr} {fd : FuncData} {ps ks : List Str} {F : List D → Sto → Res D} {j k c n m : Nat} {ix : List Nat} {kws : List Keyword}
theorem run_makeS {pins : List (Addr × Obj)} {σ : L2.St} {H : Hp} {s : Shared} {Q : VK} {us : List Value} {vs : List V} {sp : Sp} {E : XK} (M : Mk X.K C f) (F : FnOk X.prog X.w X.K X.mg X.base (L2.CX X.prog X.w) k f fd ps sp) (hr : Room (k + 1) X.A) (hb : L2.Binds X.K fd ps [])
    (hx : PassesAt (L2.CX X.prog X.w) X σ E) (I : L2.Inv X pins σ H s) (r : Vals vs us)
    (h : ∀ x dx, H x = none → H dx = none → dx ≠ x → sp (.ref x :: vs) (upd (upd H dx (.own x)) x (.ins C dx [])) (fun v H2 => v = .non ∧ Q (.ref x) H2) E) :
    wpAny (model X.prog X.w) X.A (call (.ref C) us) (EP X pins σ Q) X.xe s := by
  have hq := h (s.heap.objs.size + 1) s.heap.objs.size (I.hok.fresh (Nat.le_succ _)) (I.hok.fresh (Nat.le_refl _)) (Nat.ne_of_lt (Nat.lt_succ_self _))
  have I2 := Inv.made (C := C) I
  have r2 : Vals (V.ref (s.heap.objs.size + 1) :: vs) (Value.ref (s.heap.objs.size + 1) :: us) := .cons rfl r
  have hl : (Value.ref (s.heap.objs.size + 1) :: us ++ []).length = ps.length := by
    have e := r2.length
    rw [F.len _ _ _ _ hq] at e
    rw [List.append_nil]
    exact e.symm
  have bt := hb _ (Value.ref (s.heap.objs.size + 1) :: us) I2.kIn hl
  rw [List.append_nil] at bt
  refine wpAny_call (make_map (f := f) I.kIn M.makes M.init (beq_iff_eq.mp M.fn) (codeAny_mono (F.run _ X.stack _ _ ⟨Value.ref (s.heap.objs.size + 1) :: us, []⟩ (Value.ref (s.heap.objs.size + 1) :: us) _ _ E (hr.make C us [])
    (I2.env0.make C us []) bt r2 hq) fun r s' hq' => ?_))
  cases r with
  | error e => exact hx pins _ _ e s' I2 hq'
  | ok fl =>
    cases fl with
    | ret u =>
      obtain ⟨v, H', I3, rv, ev, q3⟩ := I2.after hq'
      subst ev
      exact ⟨rv, ⟨V.ref (s.heap.objs.size + 1), H', I3, rfl, q3⟩⟩
    | next => exact False.elim hq'
    | brk => exact False.elim hq'
    | cont => exact False.elim hq'
/-- the promise of __init__ gives the new instance -/
theorem made_post2 {W : WX} {σ : L2.St} {H : Hp} {θ : Th} {M : Sto} {Q : VK} {ds : List D} {vs : List V} (hC : G.cls[c]? = some C) (S : StoR G H θ M) (a dx : Addr) (r : ∀ H2, Ext H θ H2 (θ.own a) → (θ.own a).lb[M.length]? = some a → Reps G H2 (θ.own a) vs ds) (hn : vs.length = n)
    (q : postR G W σ H θ (fun H' θ' _ d => ∀ v, Rep G H' θ' v d → Q v H') ((F ds (M ++ [.ins c [] []])).bind (finN c M)))
    (ha : H a = none) (hdx : H dx = none) (hne : dx ≠ a) :
    spD G n F vs (upd (upd H dx (.own a)) a (.ins C dx [])) (fun v H2 => v = .non ∧ Q (.ref a) H2) (WE W σ) := by
  have ha1 : upd H dx (.own a) a = none := by rw [upd_ne (Ne.symm hne)]; exact ha
  have Ea : Ext H θ (upd H dx (.own a)) θ := Ext.alloc hdx _
  have Sa := S.alloc hdx (.own a)
  have E2 : Ext H θ (upd (upd H dx (.own a)) a (.ins C dx [])) (θ.own a) := Ea.trans (Ext.allocOwn ha1 _)
  have S2 : StoR G (upd (upd H dx (.own a)) a (.ins C dx [])) (θ.own a) (M ++ [.ins c [] []]) := Sa.push ha1 ⟨C, dx, [], hC, upd_same, rfl, .nil⟩
  refine ⟨ds, θ.own a, M ++ [.ins c [] []], hn, S2, r _ E2 Sa.last, ?_⟩
  cases e1 : F ds (M ++ [.ins c [] []]) with
  | ok d M2 =>
    rw [e1] at q
    have q : postR G W σ H θ (fun H' θ' _ d => ∀ v, Rep G H' θ' v d → Q v H') (finN c M d M2) := q
    intro v H3 θ3 E3 S3 r3
    cases d with
    | non =>
      refine ⟨rep_non r3, ?_⟩
      have q : postR G W σ H θ (fun H' θ' _ d => ∀ v, Rep G H' θ' v d → Q v H') (finO c M M2) := q
      by_cases hp : ∃ p : List Str × List D, M2 = M ++ [.ins c p.1 p.2] ∧ lows M.length p.2 = true
      · obtain ⟨⟨fs, ws⟩, rfl, hlw⟩ := hp
        rw [finO_eq hlw] at q
        have El : Ext H θ H3 θ3 := E2.trans E3
        have hlb : θ3.lb = θ.lb ++ [a] := by
          obtain ⟨t, et⟩ := E3.pre
          have l3 := S3.len
          have l0 := S.len
          rw [List.length_append] at l3
          have : t = [] := by
            have e5 : ((θ.own a).lb ++ t).length = θ3.lb.length := by rw [et]
            have e6 : (θ.own a).lb = θ.lb ++ [a] := rfl
            rw [e6, List.length_append, List.length_append] at e5
            simp at l3 e5
            exact List.length_eq_zero_iff.mp (by omega)
          rw [this, List.append_nil] at et
          exact et.symm
        have nd3 := S3.nd
        rw [hlb, List.nodup_append] at nd3
        have hna : a ∉ θ.lb := fun h => nd3.2.2 a h a (by simp) rfl
        let θ4 : Th := ⟨θ3.av.filter fun b => decide (b ≠ a), θ.lb, fun b hb => List.mem_filter.mpr ⟨θ3.sub b (by rw [hlb]; simp [hb]), by simp; intro z; exact hna (by rw [← z]; exact hb)⟩⟩
        have hav : ∀ b ∈ θ4.av, b ∈ θ3.av := fun b hb => (List.mem_filter.mp hb).1
        have hlo : ∀ i, i < M.length → θ4.lb[i]? = θ3.lb[i]? := fun i hi => by
          rw [hlb, List.getElem?_append_left (by rw [S.len]; exact hi)]
        have E4 : Ext H θ H3 θ4 := ⟨⟨[], by simp [θ4]⟩, fun b hb => List.mem_filter.mpr ⟨El.sub b hb, by
          simp
          intro z
          obtain ⟨o, ho, _⟩ := S.hid b hb
          rw [z, ha] at ho
          cases ho⟩, El.keep, fun b hb => El.new b (hav b hb), fun b hb nb => absurd hb nb⟩
        have S4 : StoR G H3 θ4 M := ⟨S.nd, S.len, fun i m' hm => by
          have hi : i < M.length := (List.getElem?_eq_some_iff.mp hm).1
          obtain ⟨b, h1, h2⟩ := S3.at_ i m' (by rw [List.getElem?_append_left hi]; exact hm)
          obtain ⟨b0, k1, k2⟩ := S.at_ i m' hm
          refine ⟨b, by rw [hlo i hi]; exact h1, h2.drop hlo hav (by have := k2.low; rw [S.len] at this; exact this)⟩, S3.tabs, fun b hb => S3.hid b (hav b hb)⟩
        obtain ⟨b, h1, h2⟩ := S3.at_ M.length (.ins c fs ws) (by simp)
        have eb : b = a := by
          rw [hlb, List.getElem?_append_right (by rw [S.len]; exact Nat.le_refl _), S.len] at h1
          simpa using h1.symm
        subst eb
        obtain ⟨C', dx', fw, g1, g2, g3, g4⟩ := h2
        exact q H3 θ4 E4 S4 _ (.obj g1 g2 (fun h => by simpa [θ4] using (List.mem_filter.mp h).2) g3 (g4.drop' hlo hav hlw))
      · unfold finO at q
        rw [dif_neg hp] at q
        exact q.elim
    | _ => exact q.elim
  | exc c' fs' vs' M2 =>
    rw [e1] at q
    exact fun cls dd H3 θ3 E3 S3 x3 => q cls dd H3 θ3 (E2.trans E3) S3 x3
  | bad => rw [e1] at q; exact q
theorem made_post {W : WX} {σ : L2.St} {H : Hp} {θ : Th} {M : Sto} {Q : VK} {ds : List D} {vs : List V} (hC : G.cls[c]? = some C) (S : StoR G H θ M) (r : Reps G H θ vs ds) (hn : vs.length + 1 = n)
    (q : postR G W σ H θ (fun H' θ' _ d => ∀ v, Rep G H' θ' v d → Q v H') ((F (.own M.length :: ds) (M ++ [.ins c [] []])).bind (finN c M)))
    (a dx : Addr) (ha : H a = none) (hdx : H dx = none) (hne : dx ≠ a) :
    spD G n F (.ref a :: vs) (upd (upd H dx (.own a)) a (.ins C dx [])) (fun v H2 => v = .non ∧ Q (.ref a) H2) (WE W σ) :=
  made_post2 hC S a dx (fun H2 E2 hl => .cons (.own hl) (r.ext E2)) (by rw [List.length_cons]; exact hn) q ha hdx hne
theorem de_newF (T : ClsD G X.mg x c C f) (Fo : OwnM G X.prog X.w X.mg X.base j f fd ps F) (hr : Room k X.A) (hj : j + 1 ≤ k) (ha : DA G X (e :: es) fs) (hkC : PySem.W.keepIn G.K (.ref C) = true) (hn : (e :: es).length + 1 = ps.length := by rfl) (hg : Gl X x := by rfl) (hdb : (x == ("__debug__" : Str)) = false := by decide)
    (he : starEach (e :: es) X.env = (false, eval e X.env) :: starEach es X.env := by rfl) (hpl : (backTo pos (starEach es X.env)).any (·.1) = false := by rfl) (hlen : ∀ ρ M ds M', fs ρ M = .ok ds M' → ds.length = (e :: es).length := by intros; assumption) :
    DE G X (.Call (.Name x p) (e :: es) [] pos) (dNewF c F fs) := fun ok W tk => ⟨fun pins s σ H Q I h => by
  have FO := Fo.ok
  have b := Fo.b
  have mk := T.mkC
  rw [ok.hk] at FO b mk hkC
  obtain ⟨ρ, θ, M, S, q⟩ := h
  refine wpAny_Call_Name_kw (ld_glob I hg T.gC ?_ hdb)
  refine PySem.W.callWith_K (h₀ := X.base) I.ok.mod.kin hkC (thn ((ha ok W tk).run pos pins s σ H (fun vs H1 => ∀ y dx, H1 y = none → H1 dx = none → dx ≠ y → spD G ps.length F (.ref y :: vs) (upd (upd H1 dx (.own y)) y (.ins C dx [])) (fun v H2 => v = .non ∧ Q (.ref y) H2) (WE W σ)) I ⟨ρ, θ, M, S, ?_⟩) fun us s1 ⟨vs, H1, I1, r, q1⟩ => ⟨I1.kIn, ?_⟩) he hpl
  · have q : postR G W σ H θ (fun H' θ' _ d => ∀ v, Rep G H' θ' v d → Q v H') ((fs ρ M).bind fun ds M1 => (F (.own M1.length :: ds) (M1 ++ [.ins c [] []])).bind (finN c M1)) := q
    cases e1 : fs ρ M with
    | ok ds M1 =>
      rw [e1] at q
      intro H1 θ1 E1 S1 vs r1 y dx hy hdx hne
      exact made_post T.at_ S1 r1 (by rw [r1.length, hlen ρ M ds M1 e1, hn]) (postR.base q E1) y dx hy hdx hne
    | exc c' fs' vs M1 => rw [e1] at q; exact q
    | bad => rw [e1] at q; exact q
  · exact run_makeS mk FO (hr.mono hj) b (passAt tk σ) I1 r q1⟩
end
end DL
set_option maxHeartbeats 4000000
/-! DLY: instances: ==, != by an own __eq__; len by an own __len__; made by keywords; methods. -/
namespace DL
open PySem PySem.Spec PyProof.Rows Builtin
section
variable {prog : Program} {w : World} {A : Around} {E : Value → Shared → Prop} {s : Shared} {K : PySem.W.Frag} {x C L f : Addr} {h₀ : Heap} {m : Str → Option Value} {ox : Obj} {od : Option Obj} {b tb : Value}
theorem objNe_K {Q : Fin → Shared → Prop} (hu : A.units < cLine) (X : K.In s.heap) (I : PySem.W.InstAt s.heap x ox C od) (hs : PySem.W.findIn K (.ref C) "__eq__" = some (some (.ref f))) (hf : PySem.W.isFn K (.ref f) = true)
    (h : wpAny (model prog w) A (call (.ref f) [.ref x, b]) (fun v s' => ∃ r, v = .bool r ∧ Q (.done (.ret (.bool (!r)))) s') E s) : wpAny (model prog w) A (Builtin.«object.__ne__» ⟨[.ref x, b], []⟩) Q E s := by
  obtain ⟨hp, g, d, t, os⟩ := s
  unfold Builtin.«object.__ne__»
  repeat (first
    | with_reducible refine wpAny_cRoomFor hu ?_
    | (refine wpAny_bind (m := callSpecialIfBound? (.ref x) (Str.ofString "__eq__") [b])
        (PySem.W.ifBound_K X I hs hf (wpAny_mono h (fun r s' hr => by
          obtain ⟨b, rfl, hq⟩ := hr
          repeat (first | exact hq | exact wpAny_pure hq | exact wpAny_truthy_bool hq | (refine wpAny_bind (m := truthy (.bool _)) (wpAny_truthy_bool ?_)) | wp_step)) fun _ _ e => e)))
    | wp_step)
theorem cmpNe_K {Q : Value → Shared → Prop} (hu : A.units + 1 < cLine) (F : Fr h₀ L s.heap m) (X₀ : K.In h₀) (I : PySem.W.InstAt s.heap x ox C od) (hb : PySem.W.Looks (model prog w) s.heap (typeOf b) tb) (hn : PySem.W.notFirst K C tb = true)
    (hne : PySem.W.findIn K (.ref C) "__ne__" = some (some (.builtin "object.__ne__"))) (hob : PySem.W.subIn K (.ref C) (.type "object") = some true)
    (hs : PySem.W.findIn K (.ref C) "__eq__" = some (some (.ref f))) (hf : PySem.W.isFn K (.ref f) = true)
    (h : wpAny (model prog w) A.in1 (call (.ref f) [.ref x, b]) (fun v s' => ∃ r, v = .bool r ∧ Q (.bool (!r)) s') E s) : wpAny (model prog w) A (richCompare .NotEq (.ref x) b) Q E s := by
  have X := X₀.keeps F.keep
  have ha : argsOk "object.__ne__" ⟨[.ref x, b], []⟩ := PySem.F.cmpArgs_ne _ _
  have Y := I.type (M := model prog w)
  have Yb : PySem.W.Looks (model prog w) s.heap (isInstance (.ref x) (.type "object")) true := Y.andThen (PySem.W.looks_subIn X hob)
  have one : wpAny (model prog w) A (tryCompare (.ref x) "__ne__" b) (fun r s' => ∃ v, r = some v ∧ Q v s') E s := by
    have hcall : wpAny (model prog w) A (call (.builtin "object.__ne__") [.ref x, b]) (fun v s' => ∃ r, v = .bool r ∧ Q v s') E s := by
      refine wpAny_call (codeAny_call_builtin PySem.F.cmp_object.ne.plain PySem.F.cmpEntry_ne ?_)
      refine @PySem.W.check_slot (model prog w) _ _ s "object.__ne__" "object" "__ne__" (.ref x) [b] [] _ PySem.F.cmpKind_ne PySem.F.cmpSplit_ne Yb ha ?_
      refine objNe_K (A := A.in1) (by exact hu) X I hs hf (wpAny_mono h (fun v s' hv => ?_) fun _ _ e => e)
      obtain ⟨r, rfl, hq⟩ := hv
      exact ⟨r, rfl, _, rfl, hq⟩
    unfold tryCompare
    simp only [callSpecialIfBound?, bindSpecialIfBound?]
    refine wpAny_bind (wpAny_holding (wpAny_bind (wpAny_bind (wpAny_bind (I.type.here ((PySem.W.looks_findIn X hne).here ?_))))))
    simp only [PySem.F.cmp_object.ne.bind]
    refine wpAny_bind (wpAny_askSetting (wpAny_ite ?_))
    split
    · refine wpAny_bind (wpAny_pure (wpAny_pure ?_))
      show wpAny _ _ (call (.builtin "object.__ne__") ([.ref x] ++ [b]) >>= _) _ _ _
      refine wpAny_bind (wpAny_mono hcall (fun v s' hv => ?_) fun _ _ e => e)
      obtain ⟨r, rfl, hq⟩ := hv
      exact wpAny_pure (wpAny_pure ⟨_, rfl, hq⟩)
    · refine wpAny_tryCatch (wpAny_bind (wpAny_pure (wpAny_pure ?_)))
      show wpAny _ _ (call (.builtin "object.__ne__") ([.ref x] ++ [b]) >>= _) _ _ _
      refine wpAny_bind (wpAny_mono hcall (fun v s' hv => ?_) fun _ _ e => e)
      obtain ⟨r, rfl, hq⟩ := hv
      exact wpAny_pure (wpAny_pure ⟨_, rfl, hq⟩)
  unfold richCompare
  simp only [oneThing_ref]
  refine wpAny_holding (wpAny_bind (wpAny_cRoomFor (Nat.lt_of_succ_lt hu) ?_))
  refine wpAny_bind (I.type.here (wpAny_bind (hb.here ?_)))
  split
  · rename_i q
    have e : PySem.W.subIn K tb (.ref C) = some false := by
      rcases Bool.or_eq_true_iff.mp hn with e | e
      · rw [beq_iff_eq.mp e] at q; simp at q
      · exact beq_iff_eq.mp e
    refine wpAny_bind ((PySem.W.looks_subIn X e).here ?_)
    simp only [Bool.false_eq_true, if_false]
    refine wpAny_bind (wpAny_mono one (fun r s' z => ?_) fun _ _ e => e)
    obtain ⟨v, rfl, hq⟩ := z
    exact wpAny_pure hq
  · refine wpAny_bind (wpAny_pure ?_)
    simp only [Bool.false_eq_true, if_false]
    refine wpAny_bind (wpAny_mono one (fun r s' z => ?_) fun _ _ e => e)
    obtain ⟨v, rfl, hq⟩ := z
    exact wpAny_pure hq
end
open L2
/-! ### a == b, a != b; a an instance whose class has its own __eq__ -/
/-- what the class says of its own == -/
structure EqC (G : Cfg) (c : Nat) (C f : Addr) : Prop where
  at_ : G.cls[c]? = some C
  cl : Cls G.K C
  eq : PySem.W.findIn G.K (.ref C) "__eq__" = some (some (.ref f))
  ne : PySem.W.findIn G.K (.ref C) "__ne__" = some (some (.builtin "object.__ne__"))
  ob : PySem.W.subIn G.K (.ref C) (.type "object") = some true
  nf : ∀ n ∈ ["NoneType", "bool", "int", "str", "tuple", "list", "dict"], PySem.W.notFirst G.K C (.type n) = true
/-- what may stand on the other side -/
def kdEq (c : Nat) : Kd → Bool
  | .obj c' => c' == c
  | .exc _ => false
  | _ => true
def kEqO (c : Nat) (neg : Bool) (F : List D → Sto → Res D) (x y : D) (M : Sto) : Res D := match insOf M x, kdOf M y with
  | some (c', _, _), some k => if c' = c ∧ kdEq c k = true then (F [x, y] M).bind fun d M2 => match d with
    | .bl b => .ok (.bl (if neg then !b else b)) M2
    | _ => .bad else .bad
  | _, _ => .bad
def rEqO (G : Cfg) (c : Nat) (neg : Bool) (F : List D → Sto → Res D) : R2 := fun x y H Q => ∃ θ M dx dy b M2, StoR G H θ M ∧ Rep G H θ x dx ∧ Rep G H θ y dy ∧ (∃ p, insOf M dx = some (c, p)) ∧ (∃ k, kdOf M dy = some k ∧ kdEq c k = true) ∧ F [dx, dy] M = .ok (.bl b) M2 ∧
  ∀ H' θ', Ext H θ H' θ' → StoR G H' θ' M2 → Q (.bl (if neg then !b else b)) H'
section
variable {G : Cfg} {X : Cx} {a b e : Expr} {es : List Expr} {fa fb : FE D} {fs fk : FE (List D)} {pos p : Pos} {x : Str} {f C : Addr} {fd : FuncData} {ps ks : List Str} {F : List D → Sto → Res D} {j k c n m : Nat} {ix : List Nat} {kws : List Keyword}
theorem kd_ins {M : Sto} {d : D} {c : Nat} (h : kdOf M d = some (.obj c)) : ∃ p, insOf M d = some (c, p) := by
  cases d with
  | obj c' fs vs => cases h; exact ⟨_, rfl⟩
  | own n =>
    have h : (match M[n]? with | some (.lst _) => some Kd.lst | some (.dic _ _) => some .dic | some (.dit _ _) => some .dic | some (.ins c _ _) => some (.obj c) | none => none) = some (.obj c) := h
    show ∃ p, (match M[n]? with | some (.ins c fs vs) => some (c, fs, vs) | _ => none) = some (c, p)
    cases hm : M[n]? with
    | none => rw [hm] at h; cases h
    | some m => cases m <;> (rw [hm] at h; cases h); exact ⟨_, rfl⟩
  | _ => cases h
/-- the type of a value is seen -/
theorem type_seen {pins : List (Addr × Obj)} {σ : L2.St} {H : Hp} {s : Shared} {θ : Th} {M : Sto} {v : V} {u : Value} {d : D} {kd : Kd} (ok : Okc G X) (KO : KindsOk G) (E : EqC G c C f) (I : L2.Inv X pins σ H s) (S : StoR G H θ M) (r : Rep G H θ v d) (rv : RelV v u) (hk : kdOf M d = some kd) (hq : kdEq c kd = true) :
    ∃ t, PySem.W.Looks (model X.prog X.w) s.heap (typeOf u) t ∧ PySem.W.notFirst X.K C t = true := by
  obtain ⟨t, ht, hx⟩ := rep_kit KO S r hk
  rcases hx with ⟨K', eK, ty⟩ | ⟨e, C', ex, et, ⟨dd, hH, _⟩, xc⟩
  · subst eK
    rw [ok.hk] at ty
    obtain ⟨P, Z, hP, _⟩ := kit_of I rv ty
    refine ⟨t, Z.ty _ _ I.kIn hP, ?_⟩
    have nf := E.nf
    rw [ok.hk] at nf
    cases kd with
    | obj c' =>
      have hc : c' = c := by simpa [kdEq] using hq
      subst hc
      have ht : (G.cls[c']?).map Value.ref = some t := ht
      rw [E.at_] at ht
      cases ht
      unfold PySem.W.notFirst
      simp
    | exc _ => cases hq
    | _ => cases ht; exact nf _ (by simp)
  · subst et
    cases kd with
    | exc _ => cases hq
    | obj c' =>
      exfalso
      obtain ⟨p, hp⟩ := kd_ins hk
      obtain ⟨a, C2, dx, fw, ea, _, h2, _⟩ := rep_ins S r hp
      rw [ex] at ea
      cases ea
      rw [hH] at h2
      unfold ExH at h2
      cases h2
    | _ => cases ht
theorem op_eqO (neg : Bool) (ok : Okc G X) (KO : KindsOk G) (E : EqC G c C f) (Fo : OwnM G X.prog X.w X.mg X.base j f fd ps F) (hl : ps.length = 2) (hr : Room k X.A) (hj : j + 1 ≤ k) : OpR X (compareOp (if neg then .NotEq else .Eq)) (rEqO G c neg F) := by
  intro pins s σ H x y v u Q I rx ry hh
  obtain ⟨θ, M, dx, dy, bb, M2, S, r1, r2, ⟨p, hi⟩, ⟨kd, hk, hq⟩, hF, q⟩ := hh
  obtain ⟨a, C', d', fw, rfl, h1, h2, h3, h4⟩ := rep_ins S r1 hi
  rw [E.at_] at h1
  cases h1
  obtain rfl : v = Value.ref a := rx
  obtain ⟨t, ht, hn⟩ := type_seen ok KO E I S r2 ry hk hq
  have FO := Fo.ok
  have hb := Fo.b
  have hf := Fo.fn
  have e1 := E.eq
  have e2 := E.ne
  have e3 := E.ob
  rw [ok.hk] at FO hb hf e1 e2 e3
  obtain ⟨mA, J, _⟩ := ins_get I.hok h2
  obtain ⟨od, J, _⟩ := J.look
  obtain ⟨mm, hFr⟩ := I.fr
  have hsp : ∀ Q' : VK, (∀ v H' θ', Ext H θ H' θ' → StoR G H' θ' M2 → Rep G H' θ' v (.bl bb) → Q' v H') → spD G ps.length F [.ref a, y] H Q' (fun _ _ _ => False) := fun Q' hQ => ⟨[dx, dy], θ, M, by rw [hl]; rfl, S, .cons r1 (.cons r2 .nil), by rw [hF]; exact hQ⟩
  have r3 : Vals [V.ref a, y] [Value.ref a, u] := .cons rfl (.cons ry .nil)
  have bt := hb s [.ref a, u] I.kIn (by rw [hl]; rfl)
  rw [List.append_nil] at bt
  have noE : ∀ (e : Value) (s' : Shared), L2.CX X.prog X.w X.stack H s (fun _ _ _ => False) e s' → False := fun e s' h => by
    obtain ⟨_, _, _, _, _, _, _, _, _, _, _, _, z⟩ := h
    exact z
  cases neg with
  | false =>
    refine PySem.W.cmp_K (op := .Eq) (tb := t) hr.units0 hFr I.ok.mod.kin J ht hn e1 hf ?_
    refine wpAny_call (codeAny_mono (FO.run X.A X.stack s H ⟨[.ref a, u], []⟩ [.ref a, u] [.ref a, y] _ _ (hr.mono (by omega)) I.env0 bt r3 (hsp (fun v H' => v = .bl bb ∧ Q (.bl bb) H') fun v H' θ' E S r => ⟨rep_bl r, q H' θ' E S⟩)) fun r s' hq => ?_)
    cases r with
    | error e => exact (noE _ _ hq).elim
    | ok fl =>
      cases fl with
      | ret w =>
        obtain ⟨z, H', I', rz, ez, q'⟩ := I.after hq
        subst ez
        cases rz
        exact ⟨.bl bb, H', I', rfl, q'⟩
      | next => exact False.elim hq
      | brk => exact False.elim hq
      | cont => exact False.elim hq
  | true =>
    refine cmpNe_K (tb := t) (by have := hr.units; omega) hFr I.ok.mod.kin J ht hn e2 e3 e1 hf ?_
    have hr1 : Room j X.A.in1 := (hr.mono hj).in1
    have e0 : Env0 X.prog X.w X.K X.mg X.base X.A.in1 X.stack s H := by
      have e := I.env0
      exact ⟨e.frames, e.mod, e.bs, e.bsz, e.funs, e.frf, e.hok, e.bare⟩
    refine wpAny_call (codeAny_mono (FO.run X.A.in1 X.stack s H ⟨[.ref a, u], []⟩ [.ref a, u] [.ref a, y] _ _ hr1 e0 bt r3 (hsp (fun v H' => v = .bl bb ∧ Q (.bl (!bb)) H') fun v H' θ' E S r => ⟨rep_bl r, q H' θ' E S⟩)) fun r s' hq => ?_)
    cases r with
    | error e => exact (noE _ _ hq).elim
    | ok fl =>
      cases fl with
      | ret w =>
        obtain ⟨z, H', I', rz, ez, q'⟩ := I.after hq
        subst ez
        cases rz
        exact ⟨bb, rfl, .bl (!bb), H', I', rfl, q'⟩
      | next => exact False.elim hq
      | brk => exact False.elim hq
      | cont => exact False.elim hq
def dEqO (c : Nat) (neg : Bool) (F : List D → Sto → Res D) (fa fb : FE D) : FE D := fun ρ M => (fa ρ M).bind fun x M1 => (fb ρ M1).bind fun y M2 => match kEqO c neg F x y M2 with
  | .ok d M3 => .ok d M3
  | _ => .bad
theorem eqO_rd {W : WX} {neg : Bool} {σ : L2.St} {H : Hp} {Q : VK} (h : rdE G W (dEqO c neg F fa fb) σ H Q) : tOp (rEqO G c neg F) (rdE G W fa) (rdE G W fb) σ H Q := by
  obtain ⟨ρ, θ, M, S, q⟩ := h
  refine rdE_seq (g := fun x ρ M1 => (fb ρ M1).bind fun y M2 => match kEqO c neg F x y M2 with | .ok d M3 => .ok d M3 | _ => .bad) S q fun x v H1 θ1 M1 S1 E1 r1 q1 => ?_
  refine rdE_seq (g := fun y _ M2 => match kEqO c neg F x y M2 with | .ok d M3 => .ok d M3 | _ => .bad) S1 q1 fun y u H2 θ2 M2 S2 E2 r2 q2 => ?_
  cases e : kEqO c neg F x y M2 with
  | ok d M3 =>
    rw [e] at q2
    unfold kEqO at e
    split at e
    · rename_i c' fs vs kd h1 h2
      split at e
      · rename_i hc
        cases e2 : F [x, y] M2 with
        | ok d2 M4 =>
          rw [e2] at e
          have e : (match d2 with | .bl b => Res.ok (D.bl (if neg then !b else b)) M4 | _ => .bad) = .ok d M3 := e
          cases d2 with
          | bl b =>
            cases e
            exact ⟨θ2, M2, x, y, b, M3, S2.2, r1.ext E2, r2, ⟨(fs, vs), by rw [h1, hc.1]⟩, ⟨kd, h2, hc.2⟩, e2, fun H' θ' E' S' => q2 H' θ' E' S' _ (.bl _)⟩
          | _ => cases e
        | exc _ _ _ _ => rw [e2] at e; cases e
        | bad => rw [e2] at e; cases e
      · cases e
    · cases e
  | exc _ _ _ _ => rw [e] at q2; exact q2.elim
  | bad => rw [e] at q2; exact q2.elim
theorem de_eqO (KO : KindsOk G) (E : EqC G c C f) (Fo : OwnM G X.prog X.w X.mg X.base j f fd ps F) (hl : ps.length = 2) (hr : Room k X.A) (hj : j + 1 ≤ k) (ha : DE G X a fa) (hb : DE G X b fb) (hm : behindInMarks .Eq b = false := by first | exact nomark _ | rfl) : DE G X (.Compare a [.Eq] [b] pos) (dEqO c false F fa fb) := fun ok W tk =>
  (pe_cmpR (op_eqO false ok KO E Fo hl hr hj) (ha ok W tk) (hb ok W tk) hm).imp fun σ H Q h => eqO_rd h
theorem de_neO (KO : KindsOk G) (E : EqC G c C f) (Fo : OwnM G X.prog X.w X.mg X.base j f fd ps F) (hl : ps.length = 2) (hr : Room k X.A) (hj : j + 1 ≤ k) (ha : DE G X a fa) (hb : DE G X b fb) (hm : behindInMarks .NotEq b = false := by first | exact nomark _ | rfl) : DE G X (.Compare a [.NotEq] [b] pos) (dEqO c true F fa fb) := fun ok W tk =>
  (pe_cmpR (op_eqO true ok KO E Fo hl hr hj) (ha ok W tk) (hb ok W tk) hm).imp fun σ H Q h => eqO_rd h
theorem dt_eqO (KO : KindsOk G) (E : EqC G c C f) (Fo : OwnM G X.prog X.w X.mg X.base j f fd ps F) (hl : ps.length = 2) (hr : Room k X.A) (hj : j + 1 ≤ k) (ha : DE G X a fa) (hb : DE G X b fb) (hm : behindInMarks .Eq b = false := by first | exact nomark _ | rfl) : DT G X (.Compare a [.Eq] [b] pos) (dTst (dEqO c false F fa fb)) := fun ok W tk => by
  refine (pt_cmpR (op_eqO false ok KO E Fo hl hr hj) (ha ok W tk) (hb ok W tk) hm).imp fun σ H Q h => ?_
  obtain ⟨ρ, θ, M, S, q⟩ := tst_rd h
  exact eqO_rd ⟨ρ, θ, M, S, q⟩
theorem dt_neO (KO : KindsOk G) (E : EqC G c C f) (Fo : OwnM G X.prog X.w X.mg X.base j f fd ps F) (hl : ps.length = 2) (hr : Room k X.A) (hj : j + 1 ≤ k) (ha : DE G X a fa) (hb : DE G X b fb) (hm : behindInMarks .NotEq b = false := by first | exact nomark _ | rfl) : DT G X (.Compare a [.NotEq] [b] pos) (dTst (dEqO c true F fa fb)) := fun ok W tk => by
  refine (pt_cmpR (op_eqO true ok KO E Fo hl hr hj) (ha ok W tk) (hb ok W tk) hm).imp fun σ H Q h => ?_
  obtain ⟨ρ, θ, M, S, q⟩ := tst_rd h
  exact eqO_rd ⟨ρ, θ, M, S, q⟩
end
end DL
set_option maxHeartbeats 4000000
/-! DLZ: instances: len by an own __len__; made by keywords. -/
namespace DL
open PySem PySem.Spec PyProof.Rows L2
/-! ### len(a), a an instance with its own __len__ -/
structure LenC (G : Cfg) (c : Nat) (C f : Addr) : Prop where
  at_ : G.cls[c]? = some C
  len : PySem.W.findIn G.K (.ref C) "__len__" = some (some (.ref f))
def rLenO (G : Cfg) (c : Nat) (F : List D → Sto → Res D) : List V → Hp → VK → Prop := fun xs H Q => ∃ θ M x dx n M2, xs = [x] ∧ StoR G H θ M ∧ Rep G H θ x dx ∧ (∃ p, insOf M dx = some (c, p)) ∧ F [dx] M = .ok (.int n) M2 ∧ 0 ≤ n ∧ n < 2 ^ 63 ∧
  ∀ H' θ', Ext H θ H' θ' → StoR G H' θ' M2 → Q (.int n) H'
def kLenO (c : Nat) (F : List D → Sto → Res D) (x : D) (M : Sto) : Res D := match insOf M x with
  | some (c', _, _) => if c' = c then match F [x] M with
    | .ok (.int n) M2 => if 0 ≤ n ∧ n < 2 ^ 63 then .ok (.int n) M2 else .bad
    | _ => .bad else .bad
  | none => .bad
def dLenO (c : Nat) (F : List D → Sto → Res D) (fa : FE D) : FE D := fun ρ M => (fa ρ M).bind (kLenO c F)
section
variable {G : Cfg} {X : Cx} {a b e : Expr} {es : List Expr} {fa fb : FE D} {fs fk : FE (List D)} {pos p : Pos} {x : Str} {f C : Addr} {fd : FuncData} {ps ks : List Str} {F : List D → Sto → Res D} {j k c n m : Nat} {ix : List Nat} {kws : List Keyword}
theorem cr_lenO (ok : Okc G X) (L : LenC G c C f) (Fo : OwnM G X.prog X.w X.mg X.base j f fd ps F) (hl : ps.length = 1) (hr : Room k X.A) (hj : j + 1 ≤ k) : CallR X (.builtin "len") (rLenO G c F) := by
  intro pins s σ H xs us Q I rv hh
  obtain ⟨θ, M, v, dx, n, M2, rfl, S, r1, ⟨p, hi⟩, hF, n0, n1, q⟩ := hh
  obtain ⟨a, C', d', fw, rfl, h1, h2, h3, h4⟩ := rep_ins S r1 hi
  rw [L.at_] at h1
  cases h1
  obtain ⟨u, rfl, rx⟩ := vals1 rv
  obtain rfl : u = Value.ref a := rx
  have FO := Fo.ok
  have hb := Fo.b
  have hf := Fo.fn
  have e1 := L.len
  rw [ok.hk] at FO hb hf e1
  obtain ⟨mA, J, _⟩ := ins_get I.hok h2
  obtain ⟨od, J, _⟩ := J.look
  obtain ⟨mm, hFr⟩ := I.fr
  have hsp : spD G ps.length F [.ref a] H (fun v H' => v = .int n ∧ Q (.int n) H') (fun _ _ _ => False) := ⟨[dx], θ, M, by rw [hl]; rfl, S, .cons r1 .nil, by rw [hF]; exact fun v H' θ' E S r => ⟨rep_int r, q H' θ' E S⟩⟩
  have bt := hb s [.ref a] I.kIn (by rw [hl]; rfl)
  rw [List.append_nil] at bt
  have hr1 : Room j X.A.in1 := (hr.mono hj).in1
  have e0 : Env0 X.prog X.w X.K X.mg X.base X.A.in1 X.stack s H := by
    have e := I.env0
    exact ⟨e.frames, e.mod, e.bs, e.bsz, e.funs, e.frf, e.hok, e.bare⟩
  refine PySem.W.len_K hFr I.ok.mod.kin J e1 hf ?_
  refine wpAny_call (codeAny_mono (FO.run X.A.in1 X.stack s H ⟨[.ref a], []⟩ [.ref a] [.ref a] _ _ hr1 e0 bt (.cons rfl .nil) hsp) fun r s' hq => ?_)
  cases r with
  | error e =>
    obtain ⟨_, _, _, _, _, _, _, _, _, _, _, _, z⟩ := hq
    exact z.elim
  | ok fl =>
    cases fl with
    | ret w =>
      obtain ⟨z, H', I', rz, ez, q'⟩ := I.after hq
      subst ez
      obtain ⟨tk, rfl⟩ := (show ∃ t, w = Value.int n t from rz)
      exact ⟨⟨n0, n1⟩, .int n, H', I'.tok _, ⟨_, rfl⟩, q'⟩
    | next => exact False.elim hq
    | brk => exact False.elim hq
    | cont => exact False.elim hq
theorem de_lenO (L : LenC G c C f) (Fo : OwnM G X.prog X.w X.mg X.base j f fd ps F) (hl : ps.length = 1) (hr : Room k X.A) (hj : j + 1 ≤ k) (hm : X.mg "len" = none) (ha : DE G X a fa) (hg : Gl X "len" := by rfl)
    (hst : starEach [a] X.env = (false, eval a X.env) :: starEach [] X.env := by rfl) (hpl : (backTo pos (starEach [] X.env)).any (·.1) = false := by rfl) :
    DE G X (.Call (.Name "len" p) [a] [] pos) (dLenO c F fa) := fun ok W tk => by
  refine (pe_callB (cr_lenO ok L Fo hl hr hj) hg hm (by decide +kernel) (pa_cons (ha ok W tk) pa_nil hst) (by decide) (by decide) hst hpl).imp fun σ H Q h => ?_
  obtain ⟨ρ, θ, M, S, q⟩ := h
  show rdE G W fa σ H fun x H1 => rLenO G c F [x] H1 Q
  refine rdE_seq (g := fun x _ N => kLenO c F x N) S q fun x v H1 θ1 N S1 E1 r1 q1 => ?_
  unfold kLenO at q1
  split at q1
  · rename_i c' fs vs hi
    split at q1
    · rename_i hc
      subst hc
      split at q1
      · rename_i n M2 hF
        split at q1
        · rename_i hn
          exact ⟨θ1, N, v, x, n, M2, rfl, S1.2, r1, ⟨_, hi⟩, hF, hn.1, hn.2, fun H' θ' E' S' => q1 H' θ' E' S' _ (.int n)⟩
        · exact q1.elim
      · exact q1.elim
    · exact q1.elim
  · exact q1.elim
/-! ### C(k = v, ..) -/
noncomputable def dNewK (c : Nat) (F : List D → Sto → Res D) (m : Nat) (ix : List Nat) (fk : FE (List D)) : FE D := fun ρ M => (fk ρ M).bind fun ds M1 => (F (gath 1 m ix [.own M1.length] ds) (M1 ++ [.ins c [] []])).bind (finN c M1)
theorem run_makeSK {pins : List (Addr × Obj)} {σ : L2.St} {H : Hp} {s : Shared} {Q : VK} {ws : List Value} {zs : List V} {sp : Sp} {E : XK} {g : List Value → List Value → List Value} {gV : List V → List V → List V} (M : Mk X.K C f) (F : FnOk X.prog X.w X.K X.mg X.base (L2.CX X.prog X.w) k f fd ps sp) (hr : Room (k + 1) X.A) (hb : KBinds X.K fd ps ks g gV)
    (hx : PassesAt (L2.CX X.prog X.w) X σ E) (I : L2.Inv X pins σ H s) (rz : Vals zs ws)
    (h : ∀ x dx, H x = none → H dx = none → dx ≠ x → sp (gV [.ref x] zs) (upd (upd H dx (.own x)) x (.ins C dx [])) (fun v H2 => v = .non ∧ Q (.ref x) H2) E) :
    wpAny (model X.prog X.w) X.A (call (.ref C) [] (ks.zip ws)) (EP X pins σ Q) X.xe s := by
  have hq := h (s.heap.objs.size + 1) s.heap.objs.size (I.hok.fresh (Nat.le_succ _)) (I.hok.fresh (Nat.le_refl _)) (Nat.ne_of_lt (Nat.lt_succ_self _))
  have I2 := Inv.made (C := C) I
  have r1 : Vals [V.ref (s.heap.objs.size + 1)] [Value.ref (s.heap.objs.size + 1)] := .cons rfl .nil
  have r2 := hb.rel r1 rz
  have hl : (g [Value.ref (s.heap.objs.size + 1)] ws).length = ps.length := r2.length.symm.trans (F.len _ _ _ _ hq)
  refine wpAny_call (make_map (f := f) I.kIn M.makes M.init (beq_iff_eq.mp M.fn) (codeAny_mono (F.run _ X.stack _ _ ⟨[Value.ref (s.heap.objs.size + 1)], ks.zip ws⟩ (g [Value.ref (s.heap.objs.size + 1)] ws) _ _ E (hr.make C [] (ks.zip ws))
    (I2.env0.make C [] (ks.zip ws)) (hb.to _ [Value.ref (s.heap.objs.size + 1)] ws I2.kIn hl) r2 hq) fun r s' hq' => ?_))
  cases r with
  | error e => exact hx pins _ _ e s' I2 hq'
  | ok fl =>
    cases fl with
    | ret u =>
      obtain ⟨v, H', I3, rv, ev, q3⟩ := I2.after hq'
      subst ev
      exact ⟨rv, ⟨V.ref (s.heap.objs.size + 1), H', I3, rfl, q3⟩⟩
    | next => exact False.elim hq'
    | brk => exact False.elim hq'
    | cont => exact False.elim hq'
theorem gath_len {α : Type} (a b : α) (vs : List α) : ∀ ix : List Nat, (gath 1 m ix [a] vs).length = (gath 1 m ix [b] vs).length := fun ix => by
  unfold gath
  simp only [List.length_cons, List.length_nil]
  split
  · induction ix with
    | nil => rfl
    | cons i ix ih =>
      rw [List.filterMap_cons, List.filterMap_cons]
      cases i with
      | zero => simpa using ih
      | succ i =>
        have e1 : ([a] ++ vs)[i + 1]? = vs[i]? := by simp
        have e2 : ([b] ++ vs)[i + 1]? = vs[i]? := by simp
        rw [e1, e2]
        cases vs[i]? with
        | none => exact ih
        | some w => simpa using ih
  · rfl
theorem de_newK0 (T : ClsD G X.mg x c C f) (Fo : OwnM G X.prog X.w X.mg X.base j f fd ps F) (hb : KBinds G.K fd ps ks (gath 1 m ix) (gath 1 m ix)) (hr : Room k X.A) (hj : j + 1 ≤ k) (hkw : DK G X kws fk) (hkC : PySem.W.keepIn G.K (.ref C) = true)
    (hn : ∀ (u : D) (ds : List D), ds.length = m → (gath 1 m ix [u] ds).length = ps.length)
    (hlen : ∀ ρ M ds M', fk ρ M = .ok ds M' → ds.length = m) (hg : Gl X x := by rfl) (hdb : (x == ("__debug__" : Str)) = false := by decide) (hall : (backToKw pos (keywordEach kws X.env)).all (·.1.isSome) = true := by rfl) (hks : (backToKw pos (keywordEach kws X.env)).filterMap (·.1) = ks := by rfl)
    (hpl : ((backTo pos (starEach [] X.env)).any (·.1) || (backToKw pos (keywordEach kws X.env)).any (·.1.isNone)) = false := by rfl) :
    DE G X (.Call (.Name x p) [] kws pos) (dNewK c F m ix fk) := fun ok W tk => ⟨fun pins s σ H Q I h => by
  have FO := Fo.ok
  have mk := T.mkC
  rw [ok.hk] at FO mk hb hkC
  refine wpAny_Call_Name_kw (ld_glob I hg T.gC ?_ hdb)
  refine PySem.W.callWith_KW0 (h₀ := X.base) I.ok.mod.kin hkC hall ?_ hpl
  obtain ⟨ρ, θ, M, S, q⟩ := h
  have q : postR G W σ H θ (fun H' θ' _ d => ∀ v, Rep G H' θ' v d → Q v H') ((fk ρ M).bind fun ds M1 => (F (gath 1 m ix [.own M1.length] ds) (M1 ++ [.ins c [] []])).bind (finN c M1)) := q
  refine thn ((hkw ok W tk).run pos pins s σ H (fun vs H1 => ∀ y dx, H1 y = none → H1 dx = none → dx ≠ y → spD G ps.length F (gath 1 m ix [.ref y] vs) (upd (upd H1 dx (.own y)) y (.ins C dx [])) (fun v H2 => v = .non ∧ Q (.ref y) H2) (WE W σ)) I ⟨ρ, θ, M, S, ?_⟩) fun ws s2 ⟨zs, H2, I2, rz, q2⟩ => ⟨I2.kIn, ?_⟩
  · cases e1 : fk ρ M with
    | ok ds M1 =>
      rw [e1] at q
      intro H1 θ1 E1 S1 vs r1 y dx hy hdx hne
      refine made_post2 T.at_ S1 y dx (fun H2 E2 hl => gath_reps (.cons (.own hl) .nil) (r1.ext E2)) ?_ (postR.base q E1) hy hdx hne
      have rr : Reps G H1 θ1 (gath 1 m ix [V.non] vs) (gath 1 m ix [D.non] ds) := gath_reps (.cons .non .nil) r1
      have l1 := hn .non ds (hlen ρ M ds M1 e1)
      rw [← rr.length] at l1
      rw [gath_len _ V.non]
      exact l1
    | exc c' f' v' M1 => rw [e1] at q; exact q
    | bad => rw [e1] at q; exact q
  · rw [hks]
    exact run_makeSK mk FO (hr.mono hj) hb (passAt tk σ) I2 rz q2⟩
end
end DL
set_option maxHeartbeats 4000000
/-! DS1: sets of texts: one more, of a list or tuple of texts. -/
namespace DL
open PySem PySem.Spec PyProof.Rows L2
/-- an entry's text -/
def txOf (e : Int × Value) : Str := match e.2 with
  | .str k _ => k
  | _ => Str.empty
def TxE (w : World) (e : Int × Value) : Prop := ∃ k t, e = (hashStr w k, .str k t)
/-- the order can be told -/
def Ord (w : World) (t : SetTable) : Prop := Ris t.place.toList ∧ (w.params.followText "set-order" = true ∨ t.led = true)
/-- the set at a holds the texts l, each once -/
def SetT (w : World) (h : Heap) (a : Addr) (l : List Str) : Prop := ∃ o es ep t, h.get? a = some o ∧ o.ExactSet ∧ o.data = .set es ep t ∧ (∀ e ∈ es.toList, TxE w e) ∧ (es.toList.map txOf).Perm l ∧ l.Nodup ∧ l.length < scanBound ∧ t.fits es.size = true ∧ Ord w t
section
variable {P : Program} {w : World} {h h' : Heap} {a : Addr} {l : List Str}
theorem SetT.at (R : SetT w h a l) (k : ∀ o, h.get? a = some o → h'.get? a = some o) : SetT w h' a l := by
  obtain ⟨o, es, ep, t, ho, r⟩ := R
  exact ⟨o, es, ep, t, k o ho, r⟩
theorem tx_self (k : Str) (t : Tok) : (strKind P w).is k (.str k t) = true := by
  show Value.isStrOf k (.str k t) = true
  simp [Value.isStrOf]
theorem tx_elems {z : List (Int × Value)} (g : ∀ e ∈ z, TxE w e) : ElemsOf (strKind P w) z := fun e he => by
  obtain ⟨k, t, rfl⟩ := g e he
  exact ⟨⟨k, tx_self k t, rfl⟩, rfl⟩
theorem tx_is {e : Int × Value} (g : TxE w e) (k : Str) : (strKind P w).is k e.2 = true ↔ txOf e = k := by
  obtain ⟨k0, t, rfl⟩ := g
  exact ⟨fun z => (strKind P w).inj _ _ _ (tx_self k0 t) z, fun z => by
    have z : k0 = k := z
    subst z
    exact tx_self k0 t⟩
theorem tx_mem {z : List (Int × Value)} (g : ∀ e ∈ z, TxE w e) (k : Str) : k ∈ z.map txOf ↔ ∃ e ∈ z, (strKind P w).is k e.2 = true := by
  rw [List.mem_map]
  exact ⟨fun ⟨e, he, q⟩ => ⟨e, he, (tx_is (g e he) k).2 q⟩, fun ⟨e, he, q⟩ => ⟨e, he, (tx_is (g e he) k).1 q⟩⟩
end
section
variable {P : Program} {w : World} {A : Around} {E : Value → Shared → Prop} {s : Shared} {a : Addr} {l : List Str}
/-- the new entries are stored, the table perhaps laid anew -/
theorem tx_tail {gw : Bool → Sem Unit} (hgw : ∀ (b : Bool) (s1 : Shared) (Q' : Unit → Shared → Prop), Q' () s1 → wpAny (model P w) A (gw b) Q' E s1) {o : Obj} {es e1 : Array (Int × Value)} {ep : Nat} {t t2 : SetTable} (ho : s.heap.get? a = some o) (hx : o.ExactSet) (hd : o.data = .set es ep t)
    {l1 : List Str} (g1 : ∀ e ∈ e1.toList, TxE w e) (p1 : (e1.toList.map txOf).Perm l1) (nd : l1.Nodup) (hb : l1.length < scanBound) (hf : t2.fits e1.size = true) (hO : Ord w t2) {dm : Bool} {R : Option Bool → Shared → Prop}
    (hR : ∀ h', Heap.SameBut a s.heap h' → SetT w h' a l1 → R (some true) { s with heap := h' }) :
    wpAny (model P w) A (storeSet a e1 t2 >>= fun _ => if (!dm && t2.tooFull) = true then gw (relayAll t2 e1 (SetTable.grown e1.size)).2.2 >>= fun _ => storeSet a (relayAll t2 e1 (SetTable.grown e1.size)).1 (relayAll t2 e1 (SetTable.grown e1.size)).2.1 >>= fun _ => pure (some true) else pure (some true)) R E s := by
  have z1 : e1.size = l1.length := by rw [← Array.length_toList, ← p1.length_eq, List.length_map]
  have b1 : e1.size < scanBound := by omega
  refine wpAny_bind (wpAny_storeSet_of ho hd ?_ (fits_of_scanBound b1))
  have q1 := store_at (es' := e1) (t' := t2) ho hd
  have sb := Heap.SameBut.update s.heap a (Obj.putSet e1 t2)
  split
  · have y1 := relayAll_perm t2 e1 (SetTable.grown e1.size)
    have y2 := relayAll_fits t2 e1 (SetTable.grown e1.size)
    have y3 := relayAll_ris t2 e1 (SetTable.grown e1.size)
    have y4 := relayAll_led t2 e1 (SetTable.grown e1.size)
    generalize relayAll t2 e1 (SetTable.grown e1.size) = Y at y1 y2 y3 y4 ⊢
    obtain ⟨e2, t3, gave⟩ := Y
    dsimp only at y1 y2 y3 y4 ⊢
    have z2 : e2.size = e1.size := by rw [← Array.length_toList, y1.length_eq, Array.length_toList]
    refine wpAny_bind (hgw _ _ _ (wpAny_bind (wpAny_storeSet_of q1 rfl ?_ (fits_of_scanBound (by omega)))))
    have q2 := store_at (es' := e2) (t' := t3) q1 rfl
    exact wpAny_pure (hR _ (sb.trans (Heap.SameBut.update _ a _)) ⟨_, e2, _, t3, q2, hx, rfl, fun e he => g1 e (y1.mem_iff.mp he), (y1.map txOf).trans p1, nd, hb, y2, y3, hO.2.imp id fun z => by rw [y4]; exact z⟩)
  · exact wpAny_pure (hR _ sb ⟨_, e1, _, t2, q1, hx, rfl, g1, p1, nd, hb, hf, hO⟩)
/-- one more text -/
def more (l : List Str) (k : Str) : List Str := if k ∈ l then l else l ++ [k]
theorem tx_add {k : Str} {tk : Tok} {Q : Bool → Shared → Prop} (R : SetT w s.heap a l) (room : l.length + 1 < scanBound) (hQ : ∀ h' b, Heap.SameBut a s.heap h' → SetT w h' a (more l k) → Q b { s with heap := h' }) :
    wpAny (model P w) A (setAddHashed a (.str k tk) ((strKind P w).hash k)) Q E s := by
  obtain ⟨o, es, ep, t, ho, hx, hd, g, pm, nd, hb, hf, hO⟩ := R
  have key : (strKind P w).is k (.str k tk) = true := tx_self k tk
  have hel : ElemsOf (strKind P w) es.toList := tx_elems g
  have zs : es.size = l.length := by rw [← Array.length_toList, ← pm.length_eq, List.length_map]
  have be : es.size < scanBound := by omega
  unfold setAddHashed setAddHashedIn
  refine wpAny_holding (wpAny_bind (wpAny_setState_of ho hd hf ?_))
  dsimp only
  rw [byScan_of rfl be hel]
  simp only [↓reduceIte]
  unfold setAddByScan
  refine wpAny_bind (wpAny_bind (wpAny_rule (wpAny_bind (wpAny_setScan_of key ho hd hf hel ?_))))
  cases hfi : List.findIdx? (fun e => (strKind P w).is k e.2) es.toList with
  | some j =>
    dsimp only
    obtain ⟨hj, pj, _⟩ := List.findIdx?_eq_some_iff_getElem.mp hfi
    have hk : k ∈ l := pm.mem_iff.mp ((tx_mem (P := P) g k).2 ⟨es.toList[j], List.getElem_mem hj, pj⟩)
    have q := hQ s.heap false (Heap.SameBut.refl a s.heap) (by
      unfold more
      rw [if_pos hk]
      exact ⟨o, es, ep, t, ho, hx, hd, g, pm, nd, hb, hf, hO⟩)
    exact wpAny_pure (wpAny_pure q)
  | none =>
    dsimp only
    have hk : k ∉ l := fun z => by
      obtain ⟨e, he, q⟩ := (tx_mem (P := P) g k).1 (pm.mem_iff.mpr z)
      have c := List.findIdx?_eq_none_iff.mp hfi e he
      rw [q] at c
      cases c
    have rw_ : ∀ (b : Bool) {s1 : Shared} {Q' : Unit → Shared → Prop}, Q' () s1 → wpAny (model P w) A (match b with | true => rule "set.scan.the-table-gave-way" | false => pure ()) Q' E s1 :=
      fun b s1 Q' q => by cases b <;> first | exact wpAny_pure q | exact wpAny_rule q
    have y1 := layNew_perm t es ((strKind P w).hash k) (.str k tk)
    have y2 := layNew_fits t es ((strKind P w).hash k) (.str k tk)
    have y3 := layNew_ris t es ((strKind P w).hash k) (.str k tk) hO.1
    have y4 := layNew_led t es ((strKind P w).hash k) (.str k tk)
    generalize layNew t es ((strKind P w).hash k) (.str k tk) = Y at y1 y2 y3 y4 ⊢
    obtain ⟨e1, t1, dm, gave⟩ := Y
    dsimp only at y1 y2 y3 y4 ⊢
    rw [Array.toList_push] at y1
    have g1 : ∀ e ∈ e1.toList, TxE w e := fun e he => by
      rcases List.mem_append.mp (y1.mem_iff.mp he) with z | z
      · exact g e z
      · rw [List.mem_singleton.mp z]; exact ⟨k, tk, rfl⟩
    have p1 : (e1.toList.map txOf).Perm (l ++ [k]) := by
      have q := y1.map txOf
      rw [List.map_append] at q
      exact q.trans (pm.append_right _)
    have n1 : (l ++ [k]).Nodup := List.nodup_append.mpr ⟨nd, by simp, fun x hx y hy e => hk (by rw [List.mem_singleton.mp hy] at e; rw [← e]; exact hx)⟩
    have b1 : (l ++ [k]).length < scanBound := by rw [List.length_append]; exact room
    have fin : ∀ h', Heap.SameBut a s.heap h' → SetT w h' a (l ++ [k]) → Q true { s with heap := h' } := fun h' sb r => hQ h' true sb (by unfold more; rw [if_neg hk]; exact r)
    have o1 : Ord w t1 := ⟨y3, hO.2.imp id fun z => by rw [y4]; exact z⟩
    refine wpAny_bind (rw_ _ ?_)
    split
    · refine wpAny_bind ?_
      rw [hashByValue_scannable 8 (x := Value.str k tk) rfl]
      refine wpAny_pure ?_
      refine tx_tail (dm := dm) ?_ ho hx hd g1 p1 n1 b1 ?_ ?_ fun h' sb r => by dsimp only; exact wpAny_pure (fin h' sb r)
      · intro b s1 Q' q; cases b <;> first | exact wpAny_pure q | exact wpAny_rule q
      · first | (split <;> first | exact y2 | exact SetTable.fits_plain_off y2) | exact y2
      · first | (split <;> exact o1) | exact o1
    · refine wpAny_bind (wpAny_pure ?_)
      simp only [↓reduceIte]
      refine tx_tail (dm := dm) ?_ ho hx hd g1 p1 n1 b1 y2 o1 fun h' sb r => by dsimp only; exact wpAny_pure (fin h' sb r)
      intro b s1 Q' q; cases b <;> first | exact wpAny_pure q | exact wpAny_rule q
end
end DL
set_option maxHeartbeats 4000000
/-! DS2: set(x), x a tuple or a list of texts; sorted of such a set. Printed by mkds2.py. -/
namespace DL
open PySem PySem.Spec PyProof.Rows L2
def uniq (xs : List Str) : List Str := xs.foldl more []
theorem more_len (l : List Str) (k : Str) : (more l k).length ≤ l.length + 1 := by
  unfold more
  split
  · omega
  · simp
theorem uniq_take {xs : List Str} {i : Nat} {k : Str} (h : xs[i]? = some k) : uniq (xs.take (i + 1)) = more (uniq (xs.take i)) k := by
  unfold uniq
  rw [List.take_add_one, h, List.foldl_append]
  rfl
theorem uniq_len (xs : List Str) : (uniq xs).length ≤ xs.length := by
  have key : ∀ (xs l : List Str), (xs.foldl more l).length ≤ l.length + xs.length := by
    intro xs
    induction xs with
    | nil => intro l; simp
    | cons x xs ih =>
      intro l
      have := ih (more l x)
      have := more_len l x
      rw [List.foldl_cons, List.length_cons]
      omega
  have := key xs []
  simpa [uniq] using this
/-- the object that set(..) begins with -/
abbrev set0 (w : World) : Obj := { cls := .type "set", dict := none, data := .set #[] 0 (.fresh 0 0 (!w.params.followText "set-order")) }
theorem setT0 {w : World} {h : Heap} {a : Addr} (ho : h.get? a = some (set0 w)) : SetT w h a [] := ⟨_, #[], 0, _, ho, ⟨rfl, rfl, rfl⟩, rfl, (fun e he => by simp at he), List.Perm.nil, List.nodup_nil, by decide, rfl, List.Pairwise.nil, by
  show _ ∨ (!w.params.followText "set-order") = true
  cases w.params.followText "set-order"
  · exact .inr rfl
  · exact .inl rfl⟩
section
variable {P : Program} {w : World} {A : Around} {E : Value → Shared → Prop} {s : Shared}
theorem tx_update {I : Addr} {fp wr : List Addr} {G : Array GenState → Array GenState → Prop} {n : Nat} {Pv : Nat → Value → Prop} {St : Nat → Shared → Prop} {R : Result → Shared → Prop} (W : WalksS P w A.in1 I fp wr G n Pv St) (S : Addr) (nS : S ∉ fp) (xs : List Str) (hn : n = xs.length)
    (hb : xs.length + 1 < scanBound) (hv : ∀ i v, Pv i v → ∃ k t, xs[i]? = some k ∧ v = .str k t) (j : Nat) : ∀ (i : Nat) (s : Shared), n - i = j → i ≤ n → St i s → SetT w s.heap S (uniq (xs.take i)) →
      (∀ s', Moved (S :: wr) G s s' → SetT w s'.heap S (uniq xs) → R (.ok (.ret .none)) s') → codeAny (model P w) A (.builtin "set.update.loop" ⟨[.ref S, .ref I], []⟩) R s := by
  have nW : S ∉ wr := fun h => nS (W.sub _ h)
  induction j with
  | zero =>
    intro i s hj hi hst hS hR
    obtain rfl : i = n := by omega
    refine codeAny_builtin F.entry_set_update_loop ?_
    rw [Around.under_plainId F.plain_set_update_loop _]
    show wpAny _ A.in1 (pyNext (.ref I) >>= _) _ _ s
    refine wpAny_bind (W.done s _ _ hst fun s' hm => ?_)
    show wpAny _ A.in1 (ret Value.none) _ _ s'
    rw [List.take_of_length_le (by omega)] at hS
    exact wpAny_pure (hR s' (hm.mono fun b hb => List.mem_cons_of_mem _ hb) (hS.at fun o e => hm.heap S o nW e))
  | succ j ih =>
    intro i s hj hi hst hS hR
    have hlt : i < n := by omega
    refine codeAny_builtin F.entry_set_update_loop ?_
    rw [Around.under_plainId F.plain_set_update_loop _]
    show wpAny _ A.in1 (pyNext (.ref I) >>= _) _ _ s
    refine wpAny_bind (W.item i s _ _ hlt hst fun v s' hP hst' hm => ?_)
    obtain ⟨k, t, hk, rfl⟩ := hv i v hP
    have hS' : SetT w s'.heap S (uniq (xs.take i)) := hS.at fun o e => hm.heap S o nW e
    have hl := uniq_len (xs.take i)
    have hl2 : (xs.take i).length ≤ xs.length := by rw [List.length_take]; omega
    show wpAny _ A.in1 (holding [Value.str k t] (setAdd S (.str k t)) >>= _) _ _ s'
    refine wpAny_bind (wpAny_holding ?_)
    unfold setAdd
    refine wpAny_holding (wpAny_bind ((strKind P w).pyHash (k := k) (tx_self k t) ?_))
    refine tx_add (s := { s' with toks := s'.toks + 1 }) hS' (by omega) fun h' b hsb hS2 => ?_
    rw [← uniq_take hk] at hS2
    refine wpAny_pure ⟨plainId_quiet F.plain_set_update_loop _, ih (i + 1) _ (by omega) hlt (W.frame _ s' _ _ hst' (Nat.le_succ _) fun b hb o e => ?_) hS2 fun s2 hm2 hS3 => ?_⟩
    · rw [hsb.2 b fun z : b = S => nS (by rw [← z]; exact hb)]
      exact e
    · refine hR s2 (Moved.trans W.gtrans ((hm.mono fun b hb => List.mem_cons_of_mem _ hb).then_heap (Nat.le_succ _) fun b o hb e => ?_) hm2) hS3
      rw [hsb.2 b fun z : b = S => hb (by rw [z]; exact List.mem_cons_self)]
      exact e
end
set_option maxHeartbeats 8000000 in
theorem set_tuple {P : Program} {w : World} {A : Around} {E : Value → Shared → Prop} {s : Shared} {l : Addr} {its : Array Value} (xs : List Str) {Q : Value → Shared → Prop} (hh : A.handled = none) (hl : s.heap.IsTuple l its) (hz : its.size = xs.length) (hv : ∀ (i : Nat) (v : Value), its[i]? = some v → ∃ k t, xs[i]? = some k ∧ v = .str k t)
    (hb : xs.length + 1 < scanBound) (h : ∀ (h' : Heap) (tk : Nat), SetT w h' s.heap.objs.size (uniq xs) → (∀ b o, s.heap.get? b = some o → h'.get? b = some o) → Q (.ref s.heap.objs.size) { s with heap := h', toks := tk }) : wpAny (model P w) A (call (.type "set") [.ref l]) Q E s := by
  obtain ⟨c, tl, hmro⟩ := PySem.F.called_set.mro
  have f1 := PySem.F.called_set.made
  have f2 := PySem.F.called_set.sub
  refine wpAny_call (codeAny_of_tree ?_)
  show wpAny _ _ (callAny (.type "set") _) _ _ _
  refine wpAny_pure ⟨Code.quiet_builtin _ (by decide +kernel), codeAny_builtin PySem.F.entry_type_call ?_⟩
  rw [Around.under_plain (weight_type_call_type "set" [.ref l] []) rfl]
  have f3 := PySem.F.called_set.notType
  have f4 := PySem.F.called_set.canCreate
  have f5 := PySem.F.typeCall_set_1 (.ref l)
  repeat (any_goals (first | assumption | wp_step))
  refine codeAny_mono (code_set_led1 (.ref l) (E := E) (Q₁ := fun v s1 => v = .ref s.heap.objs.size ∧ s1 = { s with heap := s.heap.push (set0 w) }) ⟨rfl, rfl⟩) fun r s1 hr => ?_
  cases r with
  | error e => exact hr
  | ok fl =>
    cases fl with
    | ret v =>
      obtain ⟨rfl, rfl⟩ := hr
      have q0 : (s.heap.push (set0 w)).get? s.heap.objs.size = some (set0 w) := Heap.get?_push_size _ rfl
      have qT : Shared.TypeIs { s with heap := s.heap.push (set0 w) } (.ref s.heap.objs.size) "set" := ⟨_, q0, rfl⟩
      have f6 := PySem.F.called_set.init.lookup
      have f7 := PySem.F.called_set.init.bind (.ref s.heap.objs.size)
      repeat (any_goals (first | assumption | wp_step))
      refine codeAny_mono (codeAny_call_builtin (R := wants (fun r s2 => r = .none ∧ ∃ h' tk, s2 = { s with heap := h', toks := tk } ∧ SetT w h' s.heap.objs.size (uniq xs) ∧ ∀ b o, s.heap.get? b = some o → h'.get? b = some o) E) PySem.F.called_set.init.plain PySem.F.entry_set_init (check_set_init_1 qT ?_)) fun r2 s2 hr2 => ?_
      · obtain ⟨⟨oc, od, dt, sl⟩, hol, hcl, nl, hdl⟩ := hl
        simp only at hcl hdl
        subst hcl hdl
        have hol' : (s.heap.push (set0 w)).get? l = some { cls := .type "tuple", dict := od, data := .seq its nl, slots := sl } := Heap.get?_push_of_some _ hol
        have f8 := PySem.F.sub_tuple_set
        have f9 := PySem.F.sub_tuple_frozenset
        have hne : (Value.type "tuple" == Value.type "dict") = false := by decide
        have hl1 : (s.heap.push (set0 w)).IsTuple l its := ⟨_, hol', rfl, nl, rfl⟩
        unfold Builtin.«set.__init__» noKeywords Builtin.Frozenset.updateFrom
        generalize hPI : pyIter = PI
        wp_walk
        subst hPI
        refine wpAny_pyIter_tuple hl1 (wpAny_bind (wpAny_runValue ?_))
        have lS : l < s.heap.objs.size := Heap.lt_size hol
        have h3 : A.in1.in1.in1.handled = none := by simp [hh]
        have zp : (s.heap.push (set0 w)).objs.size = s.heap.objs.size + 1 := Heap.size_push ..
        have nI : l ≠ (s.heap.push (set0 w)).objs.size := by rw [zp]; exact Nat.ne_of_lt (Nat.lt_succ_of_lt lS)
        have nS : s.heap.objs.size ∉ [(s.heap.push (set0 w)).objs.size, l] := by
          rw [zp]
          simp only [List.mem_cons, List.not_mem_nil, or_false, not_or]
          exact ⟨Nat.ne_of_lt (Nat.lt_succ_self _), Nat.ne_of_gt lS⟩
        refine tx_update ((Walks.tuple h3 _ l nI its).toS) s.heap.objs.size nS xs hz hb hv (its.size - 0) 0 _ (by omega) (Nat.zero_le _) ⟨⟨_, Heap.get?_push_size _ rfl, rfl, rfl⟩, (hl1.push _)⟩ ?a1 ?a2
        case a1 => exact setT0 (Heap.get?_push_of_some _ q0)
        case a2 =>
          intro s' hm hS'
          obtain ⟨h', g2, d', tk', os'⟩ := s'
          obtain rfl : g2 = s.gens := hm.gens
          obtain rfl : d' = s.drawn := hm.drawn
          obtain rfl : os' = s.os := hm.os
          show wpAny _ _ _ _ _ _
          refine wpAny_pure ?_
          show wpAny _ _ (ret Value.none) _ _ _
          refine wpAny_pure ⟨rfl, h', tk', rfl, hS', fun b o e => ?_⟩
          have b0 : b < s.heap.objs.size := Heap.lt_size e
          have b2 : b ≠ (s.heap.push (set0 w)).objs.size := by rw [zp]; exact Nat.ne_of_lt (Nat.lt_succ_of_lt b0)
          exact hm.heap b o (by simp only [List.mem_cons, List.not_mem_nil, or_false, not_or]; exact ⟨Nat.ne_of_lt b0, b2⟩) (Heap.get?_push_of_some _ (Heap.get?_push_of_some _ e))
      · cases r2 with
        | error e => exact hr2
        | ok f =>
          cases f with
          | ret r =>
            obtain ⟨rfl, h', tk, rfl, hS', hk'⟩ := hr2
            repeat (any_goals (first | assumption | wp_step))
            exact h _ _ hS' hk'
          | _ => exact hr2.elim
    | _ => exact hr.elim
end DL
set_option maxHeartbeats 4000000
/-! DS3: sorted(set(x)), x a tuple of texts. -/
namespace DL
open PySem PySem.Spec PyProof.Rows L2
open PySem.W (dataLe EachIs)

def txLe : Str → Str → Bool := dataLe false PyData.str
theorem txLe_all : (∀ a b c : Str, txLe a b = true → txLe b c = true → txLe a c = true) ∧ ∀ a b : Str, (txLe a b || txLe b a) = true := by
  have t := PySem.W.sortLe_total (listOrd itemOrd) false fun b => PySem.W.keyToks (PyData.str b)
  exact ⟨fun a b c h1 h2 => t.trans a b c h1 h2, fun a b => by have := t.total a b; simpa [txLe, dataLe] using this⟩
theorem txLe_anti {x y : Str} (h : txLe x y = true) (k : txLe y x = true) : x = y := by
  have h : (!(listOrd itemOrd).blt (PySem.W.keyToks (.str y)) (PySem.W.keyToks (.str x))) = true := h
  have k : (!(listOrd itemOrd).blt (PySem.W.keyToks (.str x)) (PySem.W.keyToks (.str y))) = true := k
  have e := (listOrd itemOrd).total _ _ (by simpa using k) (by simpa using h)
  have e : [Sum.inr (α := Int) x.cps.toList] = [Sum.inr y.cps.toList] := e
  simp at e
  cases x; cases y
  simpa using e
/-- texts in their order -/
def sortT (xs : List Str) : List Str := xs.mergeSort txLe
theorem sortT_perm {xs ys : List Str} (p : xs.Perm ys) : sortT xs = sortT ys := by
  have a := List.pairwise_mergeSort txLe_all.1 txLe_all.2 xs
  have b := List.pairwise_mergeSort txLe_all.1 txLe_all.2 ys
  exact List.Perm.eq_of_pairwise (le := fun x y => txLe x y = true) (fun x y _ _ h k => txLe_anti h k) a b (((List.mergeSort_perm xs _).trans p).trans (List.mergeSort_perm ys _).symm)
abbrev IsTx (v : Value) (x : Str) : Prop := ∃ t, v = .str x t
section
variable {P : Program} {w : World} {A : Around} {E : Value → Shared → Prop} {s : Shared} {a : Addr} {l : List Str}
theorem tx_vals : ∀ {es : List (Int × Value)}, (∀ e ∈ es, TxE w e) → EachIs IsTx (es.map (·.2)) (es.map txOf)
  | [], _ => .nil
  | e :: es, g => by
    obtain ⟨k, t, rfl⟩ := g e (by simp)
    exact .cons ⟨t, rfl⟩ (tx_vals fun e h => g e (List.mem_cons_of_mem _ h))
theorem tx_each : ∀ (vs : List Value), (∀ v ∈ vs, ∃ x, IsTx v x) → ∃ xs : List Str, EachIs IsTx vs xs
  | [], _ => ⟨[], .nil⟩
  | v :: vs, h => by
    obtain ⟨x, hx⟩ := h v (by simp)
    obtain ⟨xs, hxs⟩ := tx_each vs fun v hv => h v (List.mem_cons_of_mem _ hv)
    exact ⟨x :: xs, .cons hx hxs⟩
theorem tx_perm {vs : List Value} {xs : List Str} (e : EachIs IsTx vs xs) : vs.map (fun v => txOf (0, v)) = xs := by
  induction e with
  | nil => rfl
  | cons h _ ih =>
    obtain ⟨t, rfl⟩ := h
    rw [List.map_cons, ih]
    rfl
theorem tx_alike (xs : List Str) : PySem.W.AllAlike (xs.map PyData.str) ∧ PySem.W.Sortable (xs.map PyData.str) := by
  constructor
  · intro x hx y hy
    obtain ⟨a, _, rfl⟩ := List.mem_map.1 hx
    obtain ⟨b, _, rfl⟩ := List.mem_map.1 hy
    rfl
  · refine .inr fun d hd => ?_
    obtain ⟨a, _, rfl⟩ := List.mem_map.1 hd
    exact ⟨(fun e => by cases e), fun _ e => by cases e⟩
theorem tx_reads {h : Heap} {c : Addr} {vs : List Value} {xs : List Str} (e : EachIs IsTx vs xs) : EachIs (fun v (x : Str) => ∃ as, Reads h v (.str x) as ∧ c ∉ as) vs xs :=
  e.mono fun v x ⟨t, q⟩ => by
    subst q
    exact ⟨[], .str x t, by simp⟩
theorem sorted_tx {Q : Value → Shared → Prop} (R : SetT w s.heap a l) (hh : A.handled = none) (hu : A.units + 10 < cLine) (hQ : ∀ (s' : Shared) (p : Addr) (out : List Value) (c : Nat), (∀ b o, s.heap.get? b = some o → s'.heap.get? b = some o) → s'.gens = s.gens → s'.os = s.os → s.heap.objs.size ≤ p →
      s'.heap.get? p = some (seqObj "list" out.toArray c) → EachIs IsTx out (sortT l) → Q (.ref p) s') : wpAny (model P w) A (call (.builtin "sorted") [.ref a]) Q E s := by
  obtain ⟨o, es, ep, t, ho, hx, hd, g, pm, nd, hb, hf, hO⟩ := R
  have zs : es.size = l.length := by rw [← Array.length_toList, ← pm.length_eq, List.length_map]
  refine Calls.call_function_entry kind_sorted plain_sorted entry_sorted (args_sorted1 _) ?_
  unfold Builtin.«sorted»
  refine wpAny_bind (m := checkCount "sorted" 1 1 _) (wpAny_pure ?_)
  refine wpAny_bind (collect_set (A := A.in1) hh ⟨o, ho, hx.1, hd⟩ hf (by omega) hO.1 hO.2 fun s1 vs k1 hz g1 o1 pv => ?_)
  obtain ⟨xs, ex⟩ := tx_each vs fun v hv => by
    obtain ⟨e, he, q⟩ := List.mem_map.mp (pv.mem_iff.mp hv)
    obtain ⟨k, tk, rfl⟩ := g e he
    exact ⟨k, tk, q.symm⟩
  have px : xs.Perm l := by
    have q := pv.map fun v => txOf (0, v)
    rw [tx_perm ex, List.map_map] at q
    exact q.trans pm
  have lx : xs.length = l.length := px.length_eq
  have lv : vs.length = xs.length := ex.length
  have hsl : xs.length ≤ sizeLine := by
    rw [lx, ← zs]
    exact fits_of_scanBound (by omega)
  refine wpAny_bind (wpAny_newList ?_ (by omega))
  have hoL : (s1.heap.push (seqObj "list" vs.toArray 0)).get? s1.heap.objs.size = some (seqObj "list" vs.toArray 0) := Heap.get?_push_size _ rfl
  refine wpAny_bind (wpAny_holding (PySem.W.list_sort_data (s := { s1 with heap := s1.heap.push (seqObj "list" vs.toArray 0) }) (A := A.in1) (enc := PyData.str) (bs := xs) (R := IsTx) hoL ex (tx_reads ex) (tx_alike xs).1 (tx_alike xs).2 hsl
    (fun b hb => by show A.units + 1 + 1 + 0 < cLine; omega) fun out ol eo => ?_))
  obtain ⟨c, hc⟩ := sortedHeap_at (vs := vs) (out := out.toArray) hoL
  rw [← show sortT xs = xs.mergeSort (dataLe false PyData.str) from rfl, sortT_perm px] at eo
  have hc' : (sortedHeap (s1.heap.push (seqObj "list" vs.toArray 0)) s1.heap.objs.size vs out.toArray).get? s1.heap.objs.size = some (seqObj "list" out.toArray c) := hc
  refine wpAny_pure ⟨_, rfl, hQ { s1 with heap := sortedHeap (s1.heap.push (seqObj "list" vs.toArray 0)) s1.heap.objs.size vs out.toArray } s1.heap.objs.size out c (fun b u e => ?_) g1 o1 hz hc' eo⟩
  have q := k1 b u e
  have hlt := Heap.lt_size q
  show (sortedHeap (s1.heap.push (seqObj "list" vs.toArray 0)) s1.heap.objs.size vs out.toArray).get? b = some u
  rw [sortedHeap_old (Nat.ne_of_lt hlt) (by rw [size_push']; exact Nat.lt_succ_of_lt hlt)]
  exact Heap.get?_push_of_some _ q
end
end DL
set_option maxHeartbeats 4000000
/-! DS4: sorted(set(x)); methods of texts and of tuples; x[::-1]. -/
namespace L2
open PySem PySem.Spec PyProof.Rows
section
variable {prog : Program} {w : World} {A : Around} {E : Value → Shared → Prop} {s : Shared}
/-- t[::-1] of a tuple -/
theorem sliceApplied_rev {sl : Addr} {vs : Value} {n : Nat} {Q : Int × Int × Nat → Shared → Prop} (hs : s.heap.IsSliceOf sl .none .none vs) (ps : IsPart vs (some (-1))) (h : Q ((n : Int) - 1, -1, n) s) : wpAny (model prog w) A (Builtin.Slice.sliceApplied (.ref sl) (pure (n : Int))) Q E s := by
  obtain ⟨os, hos, hcs, hds⟩ := id hs
  unfold Builtin.Slice.sliceApplied Builtin.Slice.sliceFields
  refine wpAny_bind (wpAny_bind (wpAny_field hos hds (x := .none) rfl (wpAny_bind (wpAny_field hos hds (x := .none) rfl (wpAny_bind (wpAny_field hos hds (x := vs) rfl (wpAny_pure ?_)))))))
  refine wpAny_bind (HT.slicePart_ ps ?_)
  show wpAny _ _ (if ((-1 : Int) == 0) = true then _ else _) _ _ s
  rw [if_neg (by decide)]
  refine wpAny_bind (HT.slicePart_ .none (wpAny_bind (HT.slicePart_ .none (wpAny_bind (wpAny_pure ?_)))))
  have e : Builtin.Slice.slicePlaces ((n : Int) - 1) (-1) (-1) = n := by
    unfold Builtin.Slice.slicePlaces
    rw [if_neg (by decide)]
    split
    · have : ((n : Int) - 1 - -1 - 1) / (- -1) = (n : Int) - 1 := by
        have e0 : (- (-1) : Int) = 1 := rfl
        rw [e0, Int.ediv_one]; omega
      rw [this]; omega
    · omega
  show wpAny _ _ (pure ((n : Int) - 1, (-1 : Int), Builtin.Slice.slicePlaces ((n : Int) - 1) (-1) (-1))) _ _ s
  rw [e]
  exact wpAny_pure h
theorem fm_congr {α β : Type} {f g : α → Option β} : ∀ {l : List α}, (∀ k ∈ l, f k = g k) → l.filterMap f = l.filterMap g
  | [], _ => rfl
  | k :: l, h => by
    rw [List.filterMap_cons, List.filterMap_cons, h k (by simp), fm_congr fun j hj => h j (List.mem_cons_of_mem _ hj)]
theorem pick_rev (xs : Array Value) : (List.range xs.size).filterMap (fun (k : Nat) => xs[((xs.size : Int) - 1 + (k : Int) * (-1)).toNat]?) = xs.toList.reverse := by
  have e1 : (List.range xs.size).filterMap (fun (k : Nat) => xs[((xs.size : Int) - 1 + (k : Int) * (-1)).toNat]?) = (List.range xs.size).filterMap fun k => xs.toList.reverse.toArray[k]? := by
    refine fm_congr fun k hk => ?_
    have hk := List.mem_range.mp hk
    have a1 : xs.toList.reverse.toArray[k]? = xs.toList.reverse[k]? := by simp
    have a2 : xs.toList.reverse[k]? = xs.toList[xs.toList.length - 1 - k]? := List.getElem?_reverse (by rw [Array.length_toList]; exact hk)
    have a3 : ((xs.size : Int) - 1 + (k : Int) * (-1)).toNat = xs.toList.length - 1 - k := by rw [Array.length_toList]; omega
    rw [a1, a2, a3, Array.getElem?_toList]
  have e2 := PySem.W.krv_all xs.toList.reverse.toArray
  rw [e1]
  simpa using e2
theorem getItem_tuple_rev {t sl : Addr} {its : Array Value} {vs : Value} {Q : Value → Shared → Prop} (ht : IsTup s.heap t its) (hs : s.heap.IsSliceOf sl .none .none vs) (ps : IsPart vs (some (-1)))
    (h : Q (.ref s.heap.objs.size) { s with heap := s.heap.push (tupO its.toList.reverse) }) (hz : its.size ≤ sizeLine) : wpAny (model prog w) A (getItem (.ref t) (.ref sl)) Q E s := by
  have hfit : sizeOk (.seq its.toList.reverse.toArray) := by
    show its.toList.reverse.toArray.size ≤ sizeLine
    rw [List.size_toArray, List.length_reverse, Array.length_toList]
    exact hz
  obtain ⟨os, hos, hcs, hds⟩ := id hs
  have hTs : s.TypeIs (.ref sl) "slice" := ⟨os, hos, hcs⟩
  unfold getItem
  try with_reducible refine wpAny_holding ?_
  first | refine wpAny_bind (wpAny_pure ?_) | skip
  refine wpAny_bind (wpAny_sequenceKey ht.typeIs (by decide) ?_)
  refine wpAny_bind (wpAny_callSpecial?_slot (name := Str.ofString "__getitem__") ht.typeIs PyProof.Rows.slot_tuple_getitem (wpAny_call_entry PyProof.Rows.slot_tuple_getitem ht.typeIs entry_tuple_getitem ?_ (args_tuple_getitem _ _)))
  show wpAny _ _ (Builtin.Tuple.tupleItemsOf (.ref t) >>= _) _ _ s
  refine wpAny_bind (tupleItemsOf_ ht (wpAny_bind (wpAny_typeOf hTs ?_)))
  rw [if_pos (by decide)]
  refine wpAny_bind (sliceApplied_rev hs ps ?_)
  have no : ¬ ((((its.size : Int) - 1) == 0 && (-1 : Int) == 1 && its.size == its.size) = true) := by simp
  show wpAny _ _ (if (((its.size : Int) - 1) == 0 && (-1 : Int) == 1 && its.size == its.size) = true then _ else _) _ _ s
  rw [if_neg no, pick_rev]
  first
    | exact wpAny_bind (m := Builtin.Tuple.tupleExact _) (wpAny_newObj_type (wpAny_pure ⟨_, rfl, wpAny_pure h⟩) hfit)
    | exact wpAny_bind (m := Builtin.Tuple.tupleExact _) (wpAny_newObj_type (wpAny_bind (wpAny_pure (wpAny_pure ⟨_, rfl, wpAny_pure h⟩))) hfit)
    | exact wpAny_bind (wpAny_bind (m := Builtin.Tuple.tupleExact _) (wpAny_newObj_type (wpAny_pure (wpAny_pure ⟨_, rfl, wpAny_pure h⟩)) hfit))
    | exact wpAny_bind (wpAny_bind (m := Builtin.Tuple.tupleExact _) (wpAny_newObj_type (wpAny_pure ⟨_, rfl, wpAny_pure h⟩) hfit))
end
section
variable {X : Cx}
def tRevA (K : PySem.W.Frag) (te : TE) : TE := fun σ H Q => te σ H fun x H1 => ∃ a xs, x = .ref a ∧ ((SqL K H1 a xs ∧ ∀ p, H1 p = none → Q (.ref p) (upd H1 p (.lst xs.reverse))) ∨ (SqT K H1 a xs ∧ NewT H1 xs.reverse Q))
theorem pe_revA {e : Expr} {te : TE} {k : Nat} {p1 p2 p3 pos : Pos} (he : PE X e te) : PE X (.Subscript e (.Slice none none (some (.UnaryOp .USub (.Constant (.int 1) k p1) p2)) p3) pos) (tRevA X.K te) := by
  refine ⟨fun pins s σ H Q I h => ?_⟩
  refine Subscript_ (thn (he.run pins s σ H _ I h) fun v s1 ⟨x, H1, I1, r1, q1⟩ => ?_)
  obtain ⟨a, xs, ex, hx⟩ := q1
  subst ex
  cases r1
  have hst : PO X (some (.UnaryOp .USub (.Constant (.int 1) k p1) p2)) (tPart (tUn (rU fun i => .int (-i)) (tC (.int 1)))) := po_some (pe_un un_neg pe_int)
  refine wpAny_Slice (thn (po_none.run pins s1 σ H1 (fun o H2 => o = none ∧ H2 = H1) I1 ⟨rfl, rfl⟩) fun vl s2 ⟨l, H2, I2, pl, el, e2⟩ => ?_)
  subst el e2
  refine thn (po_none.run pins s2 σ H2 (fun o H3 => o = none ∧ H3 = H2) I2 ⟨rfl, rfl⟩) fun vu s3 ⟨u, H3, I3, pu, eu, e3⟩ => ?_
  subst eu e3
  refine thn (hst.run pins s3 σ H3 (fun o H4 => o = some (-1) ∧ H4 = H3) I3 ⟨1, rfl, -1, rfl, rfl, rfl⟩) fun vs s4 ⟨o, H4, I4, ps, eo, e4⟩ => ?_
  subst eo e4
  have I5 : Inv X pins σ H4 { s4 with heap := s4.heap.push { cls := .type "slice", data := .fields #[vl, vu, vs] } } := I4.kept (t' := s4.toks) fun b ob q => Heap.get?_push_of_some _ q
  show wpAny (model X.prog X.w) X.A (subscriptTail e (.Slice none none (some (.UnaryOp .USub (.Constant (.int 1) k p1) p2)) p3) (.ref a) (.ref s4.heap.objs.size)) (EP X pins σ Q) X.xe { s4 with heap := s4.heap.push { cls := .type "slice", data := .fields #[vl, vu, vs] } }
  rcases hx with ⟨hx, q⟩ | ⟨hx, q⟩
  · obtain ⟨its, r, ht, hz⟩ := I5.list hx
    have hl := r.length
    refine tail_any (ops := [.ref a, .ref s4.heap.objs.size]) ht.isList.typeIs (PySem.slot_list_getitem.lookup) ?_ (by with_unfolding_all rfl)
    refine wpAny_getItem_list_slice ht.isList (Heap.IsSliceOf.new _ vl vu vs) pl pu ps (by decide) ?_ (by rw [List.size_toArray]; omega)
    rw [PySem.W.krv_pick]
    refine ⟨.ref _, _, I5.laid (t' := s4.toks) (o := .lst xs.reverse) (fun b ob q => Heap.get?_push_of_some _ q) (Nat.le_refl _) ?_, rfl, q _ (I5.hok.fresh (Nat.le_refl _))⟩
    exact ⟨by rw [List.length_reverse]; exact hz, _, 0, r.reverse, Heap.get?_push_size _ rfl⟩
  · obtain ⟨its, r, ht, hz⟩ := I5.tuple hx
    have hl := r.length
    cases pl
    cases pu
    refine tail_any (ops := [.ref a, .ref s4.heap.objs.size]) ht.typeIs (PyProof.Rows.slot_tuple_getitem.lookup) ?_ (by with_unfolding_all rfl)
    refine getItem_tuple_rev ht (Heap.IsSliceOf.new _ .none .none vs) ps ?_ (by rw [List.size_toArray]; omega)
    have e : ((s4.heap.push { cls := .type "slice", data := .fields #[.none, .none, vs] }).push (tupO its.reverse)).get? (s4.heap.push { cls := .type "slice", data := .fields #[.none, .none, vs] }).objs.size = some (tupO its.reverse) := Heap.get?_push_size _ rfl
    exact ⟨.ref _, _, I5.laid (t' := s4.toks) (fun b ob q => Heap.get?_push_of_some _ q) (Nat.le_refl _) (tupO_ok e rfl (.inr ⟨_, rfl⟩) (by rw [List.length_reverse]; exact hz) r.reverse), rfl, q _ _ (I5.hok.fresh (Nat.le_refl _)) rfl⟩
/-- o.m(e, ..), o a tuple whose object is known -/
def TyT (K : PySem.W.Frag) (x : V) (H : Hp) : Prop := ∃ a, x = .ref a ∧ ((∃ xs, TupN H a xs) ∨ ∃ o, K.lookup a = some o ∧ o.cls = .type "tuple" ∧ o.dict = none)
def tBMT (K : PySem.W.Frag) (r : V → List V → Hp → VK → Prop) (to : TE) (t : TA) : TE := fun σ H Q => to σ H fun x H1 => TyT K x H1 ∧ t σ H1 fun xs H2 => r x xs H2 Q
variable {o e : Expr} {es : List Expr} {to : TE} {t : TA} {name : Str} {apos cpos : Pos} {id : String} {r : V → List V → Hp → VK → Prop}
theorem tyT_is {pins : List (Addr × Obj)} {σ : St} {H : Hp} {s : Shared} {x : V} {v : Value} (I : Inv X pins σ H s) (rx : RelV x v) (ty : TyT X.K x H) : s.TypeIs v "tuple" ∧ ∀ a, v = .ref a → ∃ ob, s.heap.get? a = some ob ∧ ob.dict = none := by
  obtain ⟨a, rfl, h⟩ := ty
  obtain rfl : v = Value.ref a := rx
  rcases h with ⟨xs, ob, hd, h⟩ | ⟨ob, hk, hc, hd⟩
  · obtain ⟨h1, _, its, _, ⟨o2, h2, hc, _⟩⟩ := (show ObjOk X.prog X.w H s.heap a (.frz ob (.tup xs)) from I.hok a _ h)
    rw [h1] at h2
    cases h2
    exact ⟨⟨ob, h1, hc⟩, fun b e => by cases e; exact ⟨ob, h1, hd⟩⟩
  · exact ⟨⟨ob, I.kIn a ob hk, hc⟩, fun b e => by cases e; exact ⟨ob, I.kIn _ ob hk, hd⟩⟩
theorem pe_bmT (pa : PlainAttrs "tuple") (slot : Slot "tuple" name id) (hty : typeOf (.builtin id) = pure (.type "method_descriptor")) (hm : MtR X id r) (ho : PE X o to) (ha : PA X (e :: es) t) (hbase : attributeBase o name X.env (eval o X.env) = eval o X.env)
    (hfew : ((backTo cpos (starEach (e :: es) X.env)).all (fun x => !x.1) && (backToKw cpos (keywordEach [] X.env)).all (fun x => x.1.isSome) && decide ((e :: es).length + ([] : List Keyword).length + (if ([] : List Keyword).isEmpty then 0 else 1) < 30)) = true)
    (hline : (apos.endLine == cpos.line) = true) (hs : starEach (e :: es) X.env = (false, eval e X.env) :: starEach es X.env) (hplain : (backTo cpos (starEach es X.env)).any (·.1) = false) : PE X (.Call (.Attribute o name apos) (e :: es) [] cpos) (tBMT X.K r to t) := by
  refine ⟨fun pins s σ H Q I h => ?_⟩
  refine wpAny_Call_method_late hbase hfew hline rfl (thn (ho.run pins s σ H _ I h) fun v s1 ⟨x, H1, I1, r1, ty, q1⟩ => ?_)
  obtain ⟨h1, h2⟩ := tyT_is I1 r1 ty
  refine ⟨"tuple", id, pa, slot, hty, h1, h2, ?_⟩
  have hA := ha.run cpos pins s1 σ H1 _ I1 q1
  rw [hs] at hA ⊢
  exact Calls.callWith_builtin (by show (false || (backTo cpos (starEach es X.env)).any (·.1)) = false; rw [hplain] <;> rfl) (Calls.evalArgs_plain (thn hA fun us s2 ⟨vs, H2, I2, r2, q2⟩ => hm pins s2 σ H2 x vs v us Q I2 r1 r2 q2))
end
end L2
set_option maxHeartbeats 4000000
/-! DS5: the rules by data: sorted(set(x)), x[::-1], methods of texts and tuples, list(range(..)). -/
namespace DL
open PySem PySem.Spec PyProof.Rows L2
/-- a list of texts -/
def txts : List D → Option (List Str)
  | [] => some []
  | .str x :: r => (txts r).map (x :: ·)
  | _ => none
theorem txts_map : ∀ xs : List Str, txts (xs.map .str) = some xs
  | [] => rfl
  | x :: xs => by rw [List.map_cons, txts, txts_map xs]; rfl
theorem reps_txts {G : Cfg} {H : Hp} {θ : Th} : ∀ {ds : List D} {vs : List V} {xs : List Str}, Reps G H θ vs ds → txts ds = some xs → vs = xs.map V.str
  | [], _, _, .nil, h => by cases h; rfl
  | d :: ds, _, xs, .cons r rs, h => by
    cases d with
    | str x =>
      obtain ⟨ys, h1, h2⟩ := Option.map_eq_some_iff.mp (show (txts ds).map (x :: ·) = some xs from h)
      subst h2
      rw [rep_str r, reps_txts rs h1]
      rfl
    | _ => cases h
theorem txts_reps {G : Cfg} {H : Hp} {θ : Th} : ∀ xs : List Str, Reps G H θ (xs.map V.str) (xs.map D.str)
  | [] => .nil
  | x :: xs => .cons (.str x) (txts_reps xs)
theorem tx_vals_of : ∀ {us : List Value} {xs : List Str}, PySem.W.EachIs IsTx us xs → Vals (xs.map V.str) us
  | _, _, .nil => .nil
  | _, _, .cons h t => .cons h (tx_vals_of t)
theorem vals_tx : ∀ {us : List Value} {xs : List Str}, Vals (xs.map V.str) us → ∀ (i : Nat) (v : Value), us.toArray[i]? = some v → ∃ k t, xs[i]? = some k ∧ v = .str k t := fun {us xs} r i v h => by
  have h : us[i]? = some v := by simpa using h
  cases e : xs[i]? with
  | none =>
    have : us.length ≤ i := by
      have := r.length
      rw [List.length_map] at this
      have := List.getElem?_eq_none_iff.mp e
      omega
    rw [List.getElem?_eq_none_iff.mpr this] at h
    cases h
  | some k =>
    obtain ⟨u, hu, ru⟩ := r.get (show (xs.map V.str)[i]? = some (.str k) by rw [List.getElem?_map, e]; rfl)
    rw [h] at hu
    cases hu
    obtain ⟨t, rfl⟩ := ru
    exact ⟨k, t, rfl, rfl⟩
section
variable {G : Cfg} {X : Cx} {a e : Expr} {es : List Expr} {fa : FE D} {fs : FE (List D)} {p p2 q pos : Pos}
/-! ### sorted(set(x)) -/
def kSortSet (x : D) (M : Sto) : Res D := match x with
  | .tup ds => match txts ds with
    | some xs => if xs.length + 1 < scanBound then .ok (.lst ((sortT (uniq xs)).map .str)) M else .bad
    | none => .bad
  | _ => .bad
def dSortSet (fa : FE D) : FE D := fun ρ M => (fa ρ M).bind kSortSet
theorem de_sortSet (hm : X.mg "sorted" = none) (hm2 : X.mg "set" = none) (ha : DE G X a fa) (hg : Gl X "sorted" := by rfl) (hg2 : Gl X "set" := by rfl) (na : starEach [a] X.env = (false, eval a X.env) :: starEach [] X.env := by rfl) :
    DE G X (.Call (.Name "sorted" p) [.Call (.Name "set" p2) [a] [] q] [] pos) (dSortSet fa) := fun ok W tk => ⟨fun pins s σ H Q I h => by
  have q2 : rdE G W fa σ H fun v H1 => ∃ (l : Addr) (xs : List Str), v = .ref l ∧ SqT X.K H1 l (xs.map V.str) ∧ xs.length + 1 < scanBound ∧ ∀ r, H1 r = none → Q (.ref r) (upd H1 r (.lst ((sortT (uniq xs)).map V.str))) := by
    obtain ⟨ρ, θ, M, S, q⟩ := h
    refine rdE_seq (g := fun x _ N => kSortSet x N) S q fun d v H1 θ1 N S1 E1 r1 q1 => ?_
    unfold kSortSet at q1
    split at q1
    · rename_i ds
      split at q1
      · rename_i xs hx
        split at q1
        · rename_i hb
          obtain ⟨l, vs, rfl, hl, rs⟩ := rep_tup r1
          rw [ok.hk, reps_txts rs hx] at hl
          exact ⟨l, xs, rfl, hl, hb, fun r hr => q1 _ θ1 (Ext.alloc hr _) (S1.2.alloc hr _) _ (new_lst S1.2 hr (txts_reps _))⟩
        · exact q1.elim
      · exact q1.elim
    · exact q1.elim
  refine Call_ (ld_blt I hg hm PyProof.Rows.boot_sorted ?_)
  refine PyProof.Rows.callWith_builtin1 (PyProof.Rows.args_cons ?_ rfl) rfl rfl
  refine Call_ (ld_blt I hg2 hm2 PyProof.Rows.boot_set ?_)
  refine PyProof.Rows.callWith_type1 (PyProof.Rows.args_cons (thn ((ha ok W tk).run pins s σ H _ I q2) fun v s1 ⟨x, H1, I1, r1, q1⟩ => PyProof.Rows.args_nil ?_) na) na rfl
  obtain ⟨l, xs, rfl, hl, hb, q3⟩ := q1
  cases r1
  obtain ⟨its, rv, pt, hz⟩ := I1.tuple hl
  have hlen := rv.length
  rw [List.length_map] at hlen
  have hd := I1.ok.hd ok.calm
  have hu := ok.hu
  refine set_tuple xs hd (show s1.heap.IsTuple l its.toArray from pt) (by rw [List.size_toArray]; exact hlen.symm) (vals_tx rv) hb fun h1 tk1 R1 k1 => ?_
  refine PyProof.Rows.args_nil ?_
  have key : ∀ s2 : Shared, SetT X.w s2.heap s1.heap.objs.size (uniq xs) → L2.Inv X pins σ H1 s2 → wpAny (model X.prog X.w) X.A (call (.builtin "sorted") [.ref s1.heap.objs.size]) (EP X pins σ Q) X.xe s2 := fun s2 R2 I2 => by
    refine sorted_tx (s := s2) R2 hd (by omega) fun s' r out c k g o hp hg' eo => ?_
    have lo : out.length = (sortT (uniq xs)).length := eo.length
    have hlen2 : ((sortT (uniq xs)).map V.str).length ≤ sizeLine := by
      have := uniq_len xs
      have e : (sortT (uniq xs)).length = (uniq xs).length := (List.mergeSort_perm _ _).length_eq
      have : scanBound ≤ sizeLine := by rw [sizeLine_eq]; decide
      rw [List.length_map]
      omega
    have hn : H1 r = none := I2.hok.fresh hp
    have J : L2.Inv X pins σ (upd H1 r (.lst ((sortT (uniq xs)).map V.str))) { s2 with heap := s'.heap, gens := s'.gens, drawn := s'.drawn, toks := s'.toks } :=
      I2.call (ch := []) (Un.laid k hp hn) (I2.hok.laid k hp ⟨hlen2, out, c, tx_vals_of eo, hg'⟩) (by rw [g]; exact I2.bare) (fun _ z => nomatch z)
    have e : s' = { s2 with heap := s'.heap, gens := s'.gens, drawn := s'.drawn, toks := s'.toks } := by
      cases s'
      cases s2
      cases o
      rfl
    rw [e]
    exact ⟨.ref r, _, J, rfl, q3 r hn⟩
  exact key _ R1 (I1.kept k1)⟩
/-! ### x[::-1] -/
def gRev (M : Sto) (x : D) : Option D := match x with
  | .tup ds => some (.tup ds.reverse)
  | x => (lstOf M x).map fun ds => .lst ds.reverse
def dRev (fa : FE D) : FE D := fun ρ M => (fa ρ M).bind fun x M1 => .ofO (gRev M1 x) M1
theorem de_rev {k : Nat} {p1 p3 : Pos} (ha : DE G X a fa) : DE G X (.Subscript a (.Slice none none (some (.UnaryOp .USub (.Constant (.int 1) k p1) p2)) p3) pos) (dRev fa) := fun ok W tk => by
  refine (pe_revA (ha ok W tk)).imp fun σ H Q h => ?_
  obtain ⟨ρ, θ, M, S, q⟩ := h
  refine rdE_seq (g := fun x _ N => .ofO (gRev N x) N) S q fun d v H1 θ1 N S1 E1 r1 q1 => ?_
  cases e : gRev N d with
  | none => rw [e] at q1; exact q1.elim
  | some y =>
    rw [e] at q1
    unfold gRev at e
    split at e
    · cases e
      obtain ⟨l, vs, rfl, hl, rs⟩ := rep_tup r1
      rw [ok.hk] at hl
      exact ⟨l, vs, rfl, .inr ⟨hl, fun r ob hr hd => q1 _ θ1 (Ext.alloc hr _) (S1.2.alloc hr _) _ (new_tup S1.2 hr hd rs.reverse)⟩⟩
    · obtain ⟨ds, h1, h2⟩ := Option.map_eq_some_iff.mp e
      subst h2
      obtain ⟨l, vs, rfl, hl, rs⟩ := rep_lst S1.2 r1 h1
      rw [ok.hk] at hl
      exact ⟨l, vs, rfl, .inl ⟨hl, fun r hr => q1 _ θ1 (Ext.alloc hr _) (S1.2.alloc hr _) _ (new_lst S1.2 hr rs.reverse)⟩⟩
/-! ### methods that change nothing -/
def rBm (G : Cfg) (g : Sto → D → List D → Option D) : V → List V → Hp → VK → Prop := fun x vs H Q => ∃ θ M dx ds d, StoR G H θ M ∧ Rep G H θ x dx ∧ Reps G H θ vs ds ∧ g M dx ds = some d ∧ ∀ v H', Ext H θ H' θ → StoR G H' θ M → Rep G H' θ v d → Q v H'
def isStr : D → Bool
  | .str _ => true
  | _ => false
def dSm (g : Sto → D → List D → Option D) (fo : FE D) (fs : FE (List D)) : FE D := fun ρ M => (fo ρ M).bind fun x M1 => if isStr x = true then (fs ρ M1).bind fun ds M2 => .ofO (g M2 x ds) M2 else .bad
def dTm (g : Sto → D → List D → Option D) (fo : FE D) (fs : FE (List D)) : FE D := fun ρ M => (fo ρ M).bind fun x M1 => if isTp x = true then (fs ρ M1).bind fun ds M2 => .ofO (g M2 x ds) M2 else .bad
theorem sm_rd {W : WX} {g : Sto → D → List D → Option D} {σ : L2.St} {H : Hp} {Q : VK} (h : rdE G W (dSm g fa fs) σ H Q) : tBM X.K "str" (rBm G g) (rdE G W fa) (rdA G W fs) σ H Q := by
  obtain ⟨ρ, θ, M, S, q⟩ := h
  refine rdE_seq (g := fun x ρ N => if isStr x = true then (fs ρ N).bind fun ds M2 => .ofO (g M2 x ds) M2 else .bad) S q fun x v H1 θ1 N1 S1 E1 r1 q1 => ?_
  split at q1
  · rename_i hx
    cases x with
    | str z =>
      cases rep_str r1
      refine ⟨rfl, ?_⟩
      refine rdA_seq (g := fun ds _ M2 => .ofO (g M2 (.str z) ds) M2) S1 q1 fun ds vs H2 θ2 N2 S2 E2 r2 q2 => ?_
      cases e : g N2 (.str z) ds with
      | none => rw [e] at q2; exact q2.elim
      | some d => rw [e] at q2; exact ⟨θ2, N2, .str z, ds, d, S2.2, .str z, r2, e, fun v H' E S' r => q2 H' θ2 E S' v r⟩
    | _ => cases hx
  · exact q1.elim
theorem tm_rd {W : WX} {g : Sto → D → List D → Option D} (ok : Okc G X) {σ : L2.St} {H : Hp} {Q : VK} (h : rdE G W (dTm g fa fs) σ H Q) : tBMT X.K (rBm G g) (rdE G W fa) (rdA G W fs) σ H Q := by
  obtain ⟨ρ, θ, M, S, q⟩ := h
  refine rdE_seq (g := fun x ρ N => if isTp x = true then (fs ρ N).bind fun ds M2 => .ofO (g M2 x ds) M2 else .bad) S q fun x v H1 θ1 N1 S1 E1 r1 q1 => ?_
  split at q1
  · rename_i hx
    cases x with
    | tup zs =>
      have ty : TyT X.K v H1 := by
        cases r1 with
        | tup h n r => exact ⟨_, rfl, .inl ⟨_, h⟩⟩
        | ktup h r =>
          obtain ⟨o, its, n, h1, h2, h3, _⟩ := h
          rw [ok.hk] at h1
          exact ⟨_, rfl, .inr ⟨o, h1, h2, h3⟩⟩
      refine ⟨ty, ?_⟩
      refine rdA_seq (g := fun ds _ M2 => .ofO (g M2 (.tup zs) ds) M2) S1 q1 fun ds vs H2 θ2 N2 S2 E2 r2 q2 => ?_
      cases e : g N2 (.tup zs) ds with
      | none => rw [e] at q2; exact q2.elim
      | some d => rw [e] at q2; exact ⟨θ2, N2, .tup zs, ds, d, S2.2, r1.ext E2, r2, e, fun v H' E S' r => q2 H' θ2 E S' v r⟩
    | _ => cases hx
  · exact q1.elim
theorem de_sm {g : Sto → D → List D → Option D} {name : Str} {id : String} {apos : Pos} (slot : Slot "str" name id) (hty : typeOf (.builtin id) = pure (.type "method_descriptor")) (hm : Okc G X → MtR X id (rBm G g)) (ho : DE G X a fa) (ha : DA G X (e :: es) fs)
    (hbase : attributeBase a name X.env (eval a X.env) = eval a X.env := by rfl)
    (hfew : ((backTo pos (starEach (e :: es) X.env)).all (fun x => !x.1) && (backToKw pos (keywordEach [] X.env)).all (fun x => x.1.isSome) && decide ((e :: es).length + ([] : List Keyword).length + (if ([] : List Keyword).isEmpty then 0 else 1) < 30)) = true := by rfl)
    (hline : (apos.endLine == pos.line) = true := by rfl) (hs : starEach (e :: es) X.env = (false, eval e X.env) :: starEach es X.env := by rfl) (hplain : (backTo pos (starEach es X.env)).any (·.1) = false := by rfl) :
    DE G X (.Call (.Attribute a name apos) (e :: es) [] pos) (dSm g fa fs) := fun ok W tk =>
  (pe_bm PySem.F.plainAttrs_str slot hty (hm ok) (ho ok W tk) (ha ok W tk) hbase hfew hline hs hplain).imp fun σ H Q h => sm_rd h
theorem de_sm0 {g : Sto → D → List D → Option D} {name : Str} {id : String} {apos : Pos} (slot : Slot "str" name id) (hty : typeOf (.builtin id) = pure (.type "method_descriptor")) (hm : Okc G X → MtR X id (rBm G g)) (ho : DE G X a fa)
    (hbase : attributeBase a name X.env (eval a X.env) = eval a X.env := by rfl) (hline : (apos.endLine == pos.line) = true := by rfl) : DE G X (.Call (.Attribute a name apos) [] [] pos) (dSm g fa dNil) := fun ok W tk =>
  (pe_bm0 PySem.F.plainAttrs_str slot hty (hm ok) (ho ok W tk) hbase hline).imp fun σ H Q h => by
    obtain ⟨ρ, θ, M, S, q⟩ := h
    refine rdE_seq (g := fun x ρ N => if isStr x = true then (dNil ρ N).bind fun ds M2 => .ofO (g M2 x ds) M2 else .bad) S q fun x v H1 θ1 N1 S1 E1 r1 q1 => ?_
    split at q1
    · rename_i hx
      cases x with
      | str z =>
        cases rep_str r1
        have q1 : postR G W σ H1 θ1 _ (Res.ofO (g N1 (.str z) []) N1) := q1
        cases e : g N1 (.str z) [] with
        | none => rw [e] at q1; exact q1.elim
        | some d => rw [e] at q1; exact ⟨rfl, θ1, N1, .str z, [], d, S1.2, .str z, .nil, e, fun v H' E S' r => q1 H' θ1 E S' v r⟩
      | _ => cases hx
    · exact q1.elim
theorem de_tm {g : Sto → D → List D → Option D} {name : Str} {id : String} {apos : Pos} (slot : Slot "tuple" name id) (hty : typeOf (.builtin id) = pure (.type "method_descriptor")) (hm : Okc G X → MtR X id (rBm G g)) (ho : DE G X a fa) (ha : DA G X (e :: es) fs)
    (hbase : attributeBase a name X.env (eval a X.env) = eval a X.env := by rfl)
    (hfew : ((backTo pos (starEach (e :: es) X.env)).all (fun x => !x.1) && (backToKw pos (keywordEach [] X.env)).all (fun x => x.1.isSome) && decide ((e :: es).length + ([] : List Keyword).length + (if ([] : List Keyword).isEmpty then 0 else 1) < 30)) = true := by rfl)
    (hline : (apos.endLine == pos.line) = true := by rfl) (hs : starEach (e :: es) X.env = (false, eval e X.env) :: starEach es X.env := by rfl) (hplain : (backTo pos (starEach es X.env)).any (·.1) = false := by rfl) :
    DE G X (.Call (.Attribute a name apos) (e :: es) [] pos) (dTm g fa fs) := fun ok W tk =>
  (pe_bmT PySem.F.plainAttrs_tuple slot hty (hm ok) (ho ok W tk) (ha ok W tk) hbase hfew hline hs hplain).imp fun σ H Q h => tm_rd ok h
/-- s.join(xs) -/
def gJoin (M : Sto) (x : D) (ds : List D) : Option D := match x, ds with
  | .str a, [y] => match seqOf M y with
    | some es => match txts es with
      | some ys => if (ys.map (·.length)).sum + ys.length * a.length ≤ 16777216 then some (.str (Txt.join a ys)) else none
      | none => none
    | none => none
  | _, _ => none
theorem md_join (ok : Okc G X) : MtR X "str.join" (rBm G gJoin) := by
  intro pins s σ H x vs v us Q I rx rv h
  obtain ⟨θ, M, dx, ds, d, S, r1, rs, hg, q⟩ := h
  unfold gJoin at hg
  split at hg
  · rename_i a y
    split at hg
    · rename_i es h1
      split at hg
      · rename_i ys h2
        split at hg
        · rename_i hz
          cases hg
          cases rs with | cons r2 rs =>
            cases rs
            cases rep_str r1
            obtain ⟨l, zs, rfl, hl, r3⟩ := rep_seq S r2 h1
            rw [ok.hk, reps_txts r3 h2] at hl
            exact mt_join pins s σ H _ _ v us Q I rx rv ⟨a, l, ys, rfl, rfl, hl, hz, q _ H (Ext.refl _ _) S (.str _)⟩
        · cases hg
      · cases hg
    · cases hg
  · cases hg
/-- t.index(z), t a tuple of texts -/
def gTIx (_ : Sto) (x : D) (ds : List D) : Option D := match x, ds with
  | .tup es, [.str z] => match txts es with
    | some ys => if z ∈ ys then some (.int (ys.idxOf z : Nat)) else none
    | none => none
  | _, _ => none
theorem md_tix (ok : Okc G X) : MtR X "tuple.index" (rBm G gTIx) := by
  intro pins s σ H x vs v us Q I rx rv h
  obtain ⟨θ, M, dx, ds, d, S, r1, rs, hg, q⟩ := h
  unfold gTIx at hg
  split at hg
  · rename_i es z
    split at hg
    · rename_i ys h2
      split at hg
      · rename_i hz
        cases hg
        cases rs with | cons r2 rs =>
          cases rs
          cases rep_str r2
          obtain ⟨l, zs, rfl, hl, r3⟩ := rep_tup r1
          rw [ok.hk, reps_txts r3 h2] at hl
          have hlt := List.idxOf_lt_length_iff.mpr hz
          refine mt_tup_index pins s σ H _ _ v us Q I rx rv ⟨l, ys, z, ys.idxOf z, rfl, rfl, hl, ?_, fun m hm e => ?_, q _ H (Ext.refl _ _) S (.int _)⟩
          · rw [List.getElem?_eq_getElem hlt, List.getElem_idxOf hlt]
          · obtain ⟨h3, h4⟩ := List.getElem?_eq_some_iff.mp e
            have := List.not_of_lt_findIdx hm
            simp [h4] at this
      · cases hg
    · cases hg
  · cases hg
def gStrB (f : Str → Bool) (_ : Sto) (x : D) (ds : List D) : Option D := match x, ds with
  | .str a, [] => some (.bl (f a))
  | _, _ => none
def gStrS (f : Str → Str) (_ : Sto) (x : D) (ds : List D) : Option D := match x, ds with
  | .str a, [] => if a.length ≤ 5592405 then some (.str (f a)) else none
  | _, _ => none
theorem md_strB {id : String} {f : Str → Bool} (m : MtR X id (fun x xs H Q => ∃ a, x = .str a ∧ xs = [] ∧ True ∧ Q (.bl (f a)) H)) (ok : Okc G X) : MtR X id (rBm G (gStrB f)) := by
  intro pins s σ H x vs v us Q I rx rv h
  obtain ⟨θ, M, dx, ds, d, S, r1, rs, hg, q⟩ := h
  unfold gStrB at hg
  split at hg
  · cases hg
    cases rs
    cases rep_str r1
    exact m pins s σ H _ _ v us Q I rx rv ⟨_, rfl, rfl, trivial, q _ H (Ext.refl _ _) S (.bl _)⟩
  · cases hg
theorem md_strS {id : String} {f : Str → Str} (m : MtR X id (fun x xs H Q => ∃ a, x = .str a ∧ xs = [] ∧ a.length ≤ 5592405 ∧ Q (.str (f a)) H)) (ok : Okc G X) : MtR X id (rBm G (gStrS f)) := by
  intro pins s σ H x vs v us Q I rx rv h
  obtain ⟨θ, M, dx, ds, d, S, r1, rs, hg, q⟩ := h
  unfold gStrS at hg
  split at hg
  · split at hg
    · rename_i hz
      cases hg
      cases rs
      cases rep_str r1
      exact m pins s σ H _ _ v us Q I rx rv ⟨_, rfl, rfl, hz, q _ H (Ext.refl _ _) S (.str _)⟩
    · cases hg
  · cases hg
/-- s.split(z) -/
def gSplit (_ : Sto) (x : D) (ds : List D) : Option D := match x, ds with
  | .str a, [.str b] => if (b.length == 0) = false ∧ a.length + 2 ≤ sizeLine then some (.lst ((Txt.split a b).map .str)) else none
  | _, _ => none
theorem md_split (ok : Okc G X) : MtR X "str.split" (rBm G gSplit) := by
  intro pins s σ H x vs v us Q I rx rv h
  obtain ⟨θ, M, dx, ds, d, S, r1, rs, hg, q⟩ := h
  unfold gSplit at hg
  split at hg
  · split at hg
    · rename_i hz
      cases hg
      cases rs with | cons r2 rs =>
        cases rs
        cases rep_str r1
        cases rep_str r2
        exact mt_split pins s σ H _ _ v us Q I rx rv ⟨_, _, rfl, rfl, hz.1, hz.2, fun r hr => q _ _ (Ext.alloc hr _) (S.alloc hr _) (new_lst S hr (txts_reps _))⟩
    · cases hg
  · cases hg
/-! ### list(range(n)) -/
def kLrg (d : D) (M : Sto) : Res D := match d with
  | .int n => if 0 ≤ n ∧ n ≤ 16777216 then .ok (.lst (intUp 0 n.toNat)) M else .bad
  | _ => .bad
def dLrg (fa : FE D) : FE D := fun ρ M => (fa ρ M).bind kLrg
theorem rg_reps {H : Hp} {θ : Th} : ∀ (n : Nat) (lo : Int), Reps G H θ ((List.range n).map fun i => V.int (lo + (i : Nat))) (intUp lo n)
  | 0, _ => .nil
  | n + 1, lo => by
    rw [List.range_succ_eq_map, List.map_cons, List.map_map, intUp]
    have e : (lo + ((0 : Nat) : Int)) = lo := by omega
    rw [e]
    refine .cons (.int lo) ?_
    have := rg_reps (H := H) (θ := θ) n (lo + 1)
    have e2 : ((fun i : Nat => V.int (lo + (i : Nat))) ∘ Nat.succ) = fun i : Nat => V.int (lo + 1 + (i : Nat)) := by
      funext i
      show V.int (lo + ((i + 1 : Nat) : Int)) = _
      congr 1
      omega
    rw [e2]
    exact this
theorem de_lrg (hm : X.mg "list" = none) (hm2 : X.mg "range" = none) (ha : DE G X a fa) (hg : Gl X "list" := by rfl) (hg2 : Gl X "range" := by rfl) (na : starEach [a] X.env = [(false, eval a X.env)] := by rfl)
    (nb : starEach [.Call (.Name "range" p2) [a] [] q] X.env = [(false, eval (.Call (.Name "range" p2) [a] [] q) X.env)] := by rfl) :
    DE G X (.Call (.Name "list" p) [.Call (.Name "range" p2) [a] [] q] [] pos) (dLrg fa) := fun ok W tk => by
  refine (pe_listRg ok.calm hg hm (prg_1 hg2 hm2 (ha ok W tk) na) nb).imp fun σ H Q h => ?_
  obtain ⟨ρ, θ, M, S, q⟩ := h
  refine rdE_seq (g := fun x _ N => kLrg x N) S q fun d v H1 θ1 N S1 E1 r1 q1 => ?_
  unfold kLrg at q1
  split at q1
  · rename_i n
    split at q1
    · rename_i hn
      refine ⟨n, rep_int r1, RgOk.of_le (Int.le_refl 0) hn.2 (by decide) hn.1, fun r hr => ?_⟩
      have rr : Reps G H1 θ1 (rgV 0 n) (intUp 0 n.toNat) := by
        unfold rgV
        have := rg_reps (G := G) (H := H1) (θ := θ1) n.toNat 0
        rw [Int.sub_zero]
        exact this
      exact q1 _ θ1 (Ext.alloc hr _) (S1.2.alloc hr _) _ (new_lst S1.2 hr rr)
    · exact q1.elim
  · exact q1.elim
end
end DL
set_option maxHeartbeats 4000000
/-! DS6: isinstance of a built-in exception class, by a table. -/
namespace DL
open PySem PySem.Spec PyProof.Rows L2
theorem de_isiB {G : Cfg} {X : Cx} {a : Expr} {fa : FE D} {p pos : Pos} (KO : KindsOk G) {n : String} (r : Kd → Option Bool) {x : Str} {px : Pos} (hm : X.mg "isinstance" = none) (hx : X.mg x = none) (hr : ∀ k t b, kdTy G k = some t → r k = some b → PySem.W.kitOne G.K t (.type n) = some b) (ha : DE G X a fa) (hv : bootBuiltins x = some (.type n) := by decide +kernel) (hgx : Gl X x := by rfl) (hn : x ≠ "__name__" := by decide) (hd : (x == ("__debug__" : Str)) = false := by decide) (hg : Gl X "isinstance" := by rfl)
    (hst : starEach [a, .Name x px] X.env = (false, eval a X.env) :: starEach [.Name x px] X.env := by rfl) (hst2 : starEach [.Name x px] X.env = (false, eval (.Name x px) X.env) :: starEach [] X.env := by rfl) (hpl : (backTo pos (starEach [.Name x px] X.env)).any (·.1) = false := by rfl) :
    DE G X (.Call (.Name "isinstance" p) [a, .Name x px] [] pos) (dIsi r fa) :=
  de_isi KO r hm ha (pe_bltn (v := .ty n) hgx hx hv rfl hn hd) (.ty n) hr hg hst hst2 hpl
end DL
set_option maxHeartbeats 4000000
namespace K01
open PySem PySem.Spec PyProof.Rows L2 LamX DL
-- excs: ClockError BadMemory BadLetter BadState BadWord
-- classes: Memory
/-! ### the text by places -/
def top (i : Nat) : Stmt := PySem.Challenge.pw_hitclocks_k01_words_read.main.body.getD i (.Pass ⟨0, 0, 0, 0⟩)
abbrev s1000 : Stmt := inClass (top 16) 0
abbrev s1001 : Stmt := inClass (top 16) 1
abbrev s1002 : Stmt := inClass (top 16) 2
abbrev s11 : Stmt := top 11
abbrev s12 : Stmt := top 12
abbrev s13 : Stmt := top 13
abbrev s14 : Stmt := top 14
abbrev s15 : Stmt := top 15
abbrev s17 : Stmt := top 17
abbrev s18 : Stmt := top 18
abbrev s19 : Stmt := top 19
abbrev s20 : Stmt := top 20
abbrev s21 : Stmt := top 21
abbrev s22 : Stmt := top 22
abbrev s23 : Stmt := top 23
abbrev s24 : Stmt := top 24
abbrev s26 : Stmt := top 26
abbrev s27 : Stmt := top 27
abbrev s28 : Stmt := top 28
abbrev s29 : Stmt := top 29
abbrev s30 : Stmt := top 30
abbrev s31 : Stmt := top 31
abbrev s32 : Stmt := top 32
abbrev s33 : Stmt := top 33
abbrev s34 : Stmt := top 34
abbrev s35 : Stmt := top 35
abbrev s36 : Stmt := top 36
abbrev s37 : Stmt := top 37
abbrev s38 : Stmt := top 38
abbrev s39 : Stmt := top 39
/-! ### isinstance of the own errors -/
def ic_BadMemory : Kd → Option Bool
  | .non => some false
  | .exc 0 => some false
  | .exc 1 => some true
  | .exc 2 => some false
  | .exc 3 => some false
  | .exc 4 => some false
  | _ => none
def ic_BadLetter : Kd → Option Bool
  | .non => some false
  | .exc 0 => some false
  | .exc 1 => some false
  | .exc 2 => some true
  | .exc 3 => some false
  | .exc 4 => some false
  | _ => none
def ic_BadState : Kd → Option Bool
  | .non => some false
  | .exc 0 => some false
  | .exc 1 => some false
  | .exc 2 => some false
  | .exc 3 => some true
  | .exc 4 => some false
  | _ => none
def ic_BadWord : Kd → Option Bool
  | .non => some false
  | .exc 0 => some false
  | .exc 1 => some false
  | .exc 2 => some false
  | .exc 3 => some false
  | .exc 4 => some true
  | _ => none
def ic_Memory : Kd → Option Bool
  | .non => some false
  | .bl => some false
  | .int => some false
  | .str => some false
  | .tup => some false
  | .lst => some false
  | .dic => some false
  | .obj 0 => some true
  | _ => none
/-! ### what the defs come to -/
noncomputable def b_is_letter : FS := sRt (dAndV (dIsi (isTy "str") (dVar 0)) (dAndV (dChain gLe gLe (dC (.int 1)) (dCallB gLen (dCons (dVar 0) (dNil))) (dC (.int 12))) (dCallB gAll (dCons (fLc false (iStr' (dVar 0)) (.one 1) (dYes) (dBin gIn (dVar 1) (dC (.str ("abcdefghijklmnopqrstuvwxyzABCDEFGHIJKLMNOPQRSTUVWXYZ0123456789." : Str)))) [1]) (dNil)))))
noncomputable def F_is_letter : List D → Sto → Res D := fnD 2 b_is_letter
noncomputable def b_are_letters : FS := sSq (sIf (dOr (dNot (dTst (dIsi (isTy "tuple") (dVar 0)))) (dNot (dTst (dChain gLe gLe (dC (.int 1)) (dCallB gLen (dCons (dVar 0) (dNil))) (dC (.int 72)))))) (sRt (dC (.bl false))) (sNx)) (sRt (dAndV (dCallB gAll (dCons (fLc false (iAny (dVar 0)) (.one 1) (dYes) (dCallF F_is_letter (dCons (dVar 1) (dNil))) [1]) (dNil))) (dBin gEq (dCallB gList (dCons (dVar 0) (dNil))) (dSortSet (dVar 0)))))
noncomputable def F_are_letters : List D → Sto → Res D := fnD 2 b_are_letters
noncomputable def b_is_number : FS := sRt (dAndV (dIsi (isTy "int") (dVar 0)) (dNotV (dIsi (isTy "bool") (dVar 0))))
noncomputable def F_is_number : List D → Sto → Res D := fnD 1 b_is_number
noncomputable def b_is_count : FS := sRt (dAndV (dCallF F_is_number (dCons (dVar 0) (dNil))) (dChain gLe gLe (dVar 1) (dVar 0) (dVar 2)))
noncomputable def F_is_count : List D → Sto → Res D := fnD 3 b_is_count
noncomputable def b_is_move : FS := sSq (sIf (dOr (dNot (dTst (dIsi (isTy "tuple") (dVar 0)))) (dOr (dTst (dBin gNe (dCallB gLen (dCons (dVar 0) (dNil))) (dC (.int 3)))) (dNot (dTst (dCallF F_is_count (dCons (dBin gIx (dVar 0) (dC (.int 0))) (dCons (dC (.int 0)) (dCons (dBin gSub (dVar 1) (dC (.int 1))) (dNil))))))))) (sRt (dC (.bl false))) (sNx)) (sRt (dAndV (dCallF F_is_count (dCons (dBin gIx (dVar 0) (dC (.int 1))) (dCons (dNeg (dC (.int 999))) (dCons (dC (.int 999)) (dNil))))) (dCallF F_is_count (dCons (dBin gIx (dVar 0) (dC (.int 2))) (dCons (dNeg (dC (.int 999))) (dCons (dC (.int 999)) (dNil)))))))
noncomputable def F_is_move : List D → Sto → Res D := fnD 2 b_is_move
noncomputable def b_Memory___init__ : FS := sSq (sIf (dNot (dTst (dCallF F_are_letters (dCons (dVar 1) (dNil))))) (sRaiseF 1 ("part" : Str) (dC (.str ("letters" : Str)))) (sNx)) (sSq (sIf (dOr (dNot (dTst (dIsi (isTy "tuple") (dVar 2)))) (dNot (dTst (dChain gLe gLe (dC (.int 1)) (dCallB gLen (dCons (dVar 2) (dNil))) (dC (.int 120)))))) (sRaiseF 1 ("part" : Str) (dC (.str ("moves" : Str)))) (sNx)) (sSq (sFor 4000 (iEnumD (dCons (dVar 2) (dNil))) (gTp 2 (gsCons (gNm 3) (gsCons (gNm 4) (gsNil)))) (sSq (sIf (dOr (dNot (dTst (dIsi (isTy "tuple") (dVar 4)))) (dTst (dBin gNe (dCallB gLen (dCons (dVar 4) (dNil))) (dCallB gLen (dCons (dVar 1) (dNil)))))) (sRaiseF 1 ("part" : Str) (dVar 3)) (sNx)) (sIf (dNot (dTst (dCallB gAll (dCons (fLc false (iAny (dVar 4)) (.one 5) (dYes) (dCallF F_is_move (dCons (dVar 5) (dCons (dCallB gLen (dCons (dVar 2) (dNil))) (dNil)))) [5]) (dNil))))) (sRaiseF 1 ("part" : Str) (dVar 3)) (sNx)))) (sSq (sFldS [0] ("letters" : Str) (dVar 0) (dVar 1)) (sFldS [0] ("moves" : Str) (dVar 0) (dVar 2)))))
noncomputable def F_Memory___init__ : List D → Sto → Res D := fnD 6 b_Memory___init__
noncomputable def b_Memory___len__ : FS := sRt (dCallB gLen (dCons (dFld [0] ("moves" : Str) (dVar 0)) (dNil)))
noncomputable def F_Memory___len__ : List D → Sto → Res D := fnD 1 b_Memory___len__
noncomputable def b_Memory___eq__ : FS := sRt (dAndV (dIsi ic_Memory (dVar 1)) (dAndV (dBin gEq (dFld [0] ("letters" : Str) (dVar 0)) (dFld [0] ("letters" : Str) (dVar 1))) (dBin gEq (dFld [0] ("moves" : Str) (dVar 0)) (dFld [0] ("moves" : Str) (dVar 1)))))
noncomputable def F_Memory___eq__ : List D → Sto → Res D := fnD 2 b_Memory___eq__
noncomputable def b_need_memory : FS := sIf (dNot (dTst (dIsi ic_Memory (dVar 0)))) (sRaiseF 1 ("part" : Str) (dC .non)) (sNx)
noncomputable def F_need_memory : List D → Sto → Res D := fnD 1 b_need_memory
noncomputable def b_need_state : FS := sIf (dNot (dTst (dCallF F_is_count (dCons (dVar 1) (dCons (dC (.int 0)) (dCons (dBin gSub (dLenO 0 F_Memory___len__ (dVar 0)) (dC (.int 1))) (dNil))))))) (sRaise 3) (sNx)
noncomputable def F_need_state : List D → Sto → Res D := fnD 2 b_need_state
noncomputable def b_is_word : FS := sRt (dAndV (dIsi (isTy "tuple") (dVar 1)) (dCallB gAll (dCons (fLc false (iAny (dVar 1)) (.one 2) (dYes) (dAndV (dIsi (isTy "str") (dVar 2)) (dBin gIn (dVar 2) (dFld [0] ("letters" : Str) (dVar 0)))) [2]) (dNil))))
noncomputable def F_is_word : List D → Sto → Res D := fnD 3 b_is_word
noncomputable def b_move_of : FS := sRt (dBin gIx (dBin gIx (dFld [0] ("moves" : Str) (dVar 0)) (dVar 1)) (dTm gTIx (dFld [0] ("letters" : Str) (dVar 0)) (dCons (dVar 2) (dNil))))
noncomputable def F_move_of : List D → Sto → Res D := fnD 3 b_move_of
noncomputable def b_stepped : FS := sSq (sEx (dCallF F_need_memory (dCons (dVar 0) (dNil)))) (sSq (sEx (dCallF F_need_state (dCons (dVar 0) (dCons (dVar 1) (dNil))))) (sSq (sIf (dOr (dNot (dTst (dIsi (isTy "str") (dVar 2)))) (dTst (dBin gNotIn (dVar 2) (dFld [0] ("letters" : Str) (dVar 0))))) (sRaise 2) (sNx)) (sSq (sAs (dCallF F_move_of (dCons (dVar 0) (dCons (dVar 1) (dCons (dVar 2) (dNil))))) (gTp 3 (gsCons (gNm 3) (gsCons (gNm 4) (gsCons (gNm 5) (gsNil)))))) (sRt (dTup (dCons (dVar 3) (dCons (dTup (dCons (dVar 4) (dCons (dVar 5) (dNil)))) (dNil))))))))
noncomputable def F_stepped : List D → Sto → Res D := fnD 6 b_stepped
noncomputable def b_read_on : FS := sSq (sAs (dTup (dCons (dC (.int 0)) (dCons (dC (.int 0)) (dNil)))) (gTp 2 (gsCons (gNm 3) (gsCons (gNm 4) (gsNil))))) (sSq (sFor 4000 (iAny (dVar 2)) (gNm 5) (sSq (sAs (dCallF F_move_of (dCons (dVar 0) (dCons (dVar 1) (dCons (dVar 5) (dNil))))) (gTp 3 (gsCons (gNm 1) (gsCons (gNm 6) (gsCons (gNm 7) (gsNil)))))) (sPar 3 4 (dBin gAdd (dVar 3) (dVar 6)) (dBin gAdd (dVar 4) (dVar 7))))) (sRt (dTup (dCons (dVar 1) (dCons (dTup (dCons (dVar 3) (dCons (dVar 4) (dNil)))) (dNil))))))
noncomputable def F_read_on : List D → Sto → Res D := fnD 8 b_read_on
noncomputable def b_read : FS := sSq (sEx (dCallF F_need_memory (dCons (dVar 0) (dNil)))) (sSq (sEx (dCallF F_need_state (dCons (dVar 0) (dCons (dVar 1) (dNil))))) (sSq (sIf (dNot (dTst (dCallF F_is_word (dCons (dVar 0) (dCons (dVar 2) (dNil)))))) (sRaise 4) (sNx)) (sRt (dCallF F_read_on (dCons (dVar 0) (dCons (dVar 1) (dCons (dVar 2) (dNil))))))))
noncomputable def F_read : List D → Sto → Res D := fnD 3 b_read
noncomputable def b_negated : FS := sSq (sEx (dCallF F_need_memory (dCons (dVar 0) (dNil)))) (sSq (sSet 1 (dLstO (dNil))) (sSq (sFor 4000 (iAny (dFld [0] ("moves" : Str) (dVar 0))) (gNm 2) (sEx (dMt gApp (dVar 1) (dCons (dCallB gTuple (dCons (fLc false (iAny (dVar 2)) (.tup [3, 4, 5]) (dYes) (dTup (dCons (dVar 3) (dCons (dNeg (dVar 4)) (dCons (dNeg (dVar 5)) (dNil))))) [3, 4, 5]) (dNil))) (dNil))))) (sRt (dNewF 0 F_Memory___init__ (dCons (dFld [0] ("letters" : Str) (dVar 0)) (dCons (dCallB gTuple (dCons (dVar 1) (dNil))) (dNil)))))))
noncomputable def F_negated : List D → Sto → Res D := fnD 6 b_negated
noncomputable def b__law_begun : FS := sSq (sSet 1 (fLc true (iAny (dVar 0)) (.one 2) (dTst (dBin gGe (dCallB gAbs (dCons (dVar 2) (dNil))) (dBin gPow (dC (.int 10)) (dC (.int 18))))) (dBin gSub (dCallB gAbs (dCons (dVar 2) (dNil))) (dBin gPow (dC (.int 10)) (dC (.int 18)))) [2])) (sRt (dDisp true [(dC (.str ("great" : Str)), dVar 1), (dC (.str ("cells" : Str)), fLc false (iAny (dVar 0)) (.one 2) (dYes) (dBin gMod (dCallB gInt1 (dCons (dCallB gAbs (dCons (dVar 2) (dNil))) (dNil))) (dC (.int 2147483629))) [2]), (dC (.str ("left" : Str)), dC (.int 0)), (dC (.str ("turn" : Str)), dC (.int 0))]))
noncomputable def F__law_begun : List D → Sto → Res D := fnD 3 b__law_begun
noncomputable def b__law_mixed : FS := sSq (sPar 1 2 (dBin gAdd (dBin gDGet (dVar 0) (dC (.str ("turn" : Str)))) (dC (.int 1))) (dC (.int 0))) (sSq (sDP (dVar 0) (dC (.str ("turn" : Str))) (dVar 1)) (sSq (sFor 4000 (iLst (dLst (dCons (dC (.int 2147483647)) (dCons (dC (.int 2147483629)) (dCons (dC (.int 2147483587)) (dCons (dC (.int 2147483579)) (dNil))))))) (gNm 3) (sSq (sSet 4 (dBin gAdd (dBin gMul (dC (.int 48271)) (dVar 1)) (dBin gDiv (dVar 3) (dC (.int 37))))) (sSq (sFor 4000 (iLst (dBin gDGet (dVar 0) (dC (.str ("cells" : Str))))) (gNm 5) (sSet 4 (dBin gMod (dCallB gInt1 (dCons (dBin gAdd (dBin gAdd (dBin gMul (dVar 4) (dC (.int 69621))) (dVar 5)) (dVar 1)) (dNil))) (dVar 3)))) (sSet 2 (dBin gAdd (dBin gMul (dVar 2) (dC (.int 2147483647))) (dBin gMod (dCallB gInt1 (dCons (dBin gPow (dVar 4) (dC (.int 5))) (dNil))) (dVar 3))))))) (sRt (dVar 2))))
noncomputable def F__law_mixed : List D → Sto → Res D := fnD 6 b__law_mixed
noncomputable def b__law_take : FS := sSq (sIf (dTst (dBin gEq (dBin gDGet (dVar 0) (dC (.str ("left" : Str)))) (dC (.int 0)))) (sDP (dVar 0) (dC (.str ("left" : Str))) (dIf (dTst (dBin gNe (dBin gDGet (dVar 0) (dC (.str ("great" : Str)))) (dLst (dNil)))) (dMt gPopAt (dBin gDGet (dVar 0) (dC (.str ("great" : Str)))) (dCons (dC (.int 0)) (dNil))) (dCallF F__law_mixed (dCons (dVar 0) (dNil))))) (sNx)) (sSq (sSet 2 (dBin gMod (dCallB gInt1 (dCons (dBin gDGet (dVar 0) (dC (.str ("left" : Str)))) (dNil))) (dVar 1))) (sSq (sDP (dVar 0) (dC (.str ("left" : Str))) (dBin gDiv (dBin gDGet (dVar 0) (dC (.str ("left" : Str)))) (dVar 1))) (sRt (dVar 2))))
noncomputable def F__law_take : List D → Sto → Res D := fnD 3 b__law_take
noncomputable def b__law_pick : FS := sRt (dBin gIx (dVar 1) (dCallF F__law_take (dCons (dVar 0) (dCons (dCallB gLen (dCons (dVar 1) (dNil))) (dNil)))))
noncomputable def F__law_pick : List D → Sto → Res D := fnD 2 b__law_pick
noncomputable def b__law_sign : FS := sSq (sSet 1 (dCallF F__law_pick (dCons (dVar 0) (dCons (dLst (dCons (dC (.int 1)) (dCons (dC (.int 1)) (dCons (dC (.int 1)) (dCons (dC (.int 2)) (dCons (dC (.int 3)) (dCons (dC (.int 12)) (dNil)))))))) (dNil))))) (sRt (dSm gJoin (dC (.str ("" : Str))) (dCons (fLc false (iRg1 (dCons (dVar 1) (dNil))) (.one 2) (dYes) (dCallF F__law_pick (dCons (dVar 0) (dCons (dC (.str ("ABCDEFGHIJKLMNOPQRSTUVWXYZabcdefghijklmnopqrstuvwxyz0123456789." : Str))) (dNil)))) [2]) (dNil))))
noncomputable def F__law_sign : List D → Sto → Res D := fnD 3 b__law_sign
noncomputable def b__law_signs : FS := sSq (sSet 2 (dLstO (dNil))) (sSq (sFor 4000 (iRg1 (dCons (dVar 1) (dNil))) (gNm 3) (sSq (sSet 4 (dCallF F__law_sign (dCons (dVar 0) (dNil)))) (sSq (sSet 5 (dBin gAdd (dLst (dCons (dVar 4) (dNil))) (fLc false (iStr' (dC (.str ("kQ7.zA0mB2cX" : Str)))) (.one 6) (dYes) (dBin gAdd (dSl (dVar 4) (dNoPart) (dPart (dC (.int 11)))) (dVar 6)) [6]))) (sEx (dMt gApp (dVar 2) (dCons (dBin gIx (fLc false (iAny (dVar 5)) (.one 7) (dTst (dBin gNotIn (dVar 7) (dVar 2))) (dVar 7) [7]) (dC (.int 0))) (dNil))))))) (sRt (dCallB gTuple (dCons (dCallB gSorted (dCons (dVar 2) (dNil))) (dNil)))))
noncomputable def F__law_signs : List D → Sto → Res D := fnD 8 b__law_signs
noncomputable def b__law_cost : FS := sRt (dBin gSub (dCallF F__law_take (dCons (dVar 0) (dCons (dBin gAdd (dBin gMul (dC (.int 2)) (dVar 1)) (dC (.int 1))) (dNil)))) (dVar 1))
noncomputable def F__law_cost : List D → Sto → Res D := fnD 2 b__law_cost
noncomputable def b__law_grid : FS := sSq (sSet 4 (dLstO (dNil))) (sSq (sFor 4000 (iRg1 (dCons (dVar 1) (dNil))) (gNm 5) (sEx (dMt gApp (dVar 4) (dCons (dCallB gTuple (dCons (fLc false (iRg1 (dCons (dVar 2) (dNil))) (.one 6) (dYes) (dTup (dCons (dCallF F__law_take (dCons (dVar 0) (dCons (dVar 1) (dNil)))) (dCons (dCallF F__law_cost (dCons (dVar 0) (dCons (dVar 3) (dNil)))) (dCons (dCallF F__law_cost (dCons (dVar 0) (dCons (dVar 3) (dNil)))) (dNil))))) [6]) (dNil))) (dNil))))) (sRt (dCallB gTuple (dCons (dVar 4) (dNil)))))
noncomputable def F__law_grid : List D → Sto → Res D := fnD 7 b__law_grid
noncomputable def b__law_went : FS := sSq (sAs (dTup (dCons (dC (.int 0)) (dCons (dC (.int 0)) (dNil)))) (gTp 2 (gsCons (gNm 4) (gsCons (gNm 5) (gsNil))))) (sSq (sFor 4000 (iAny (dVar 3)) (gNm 6) (sSq (sSet 7 (dBin gIx (dBin gIx (dVar 1) (dVar 2)) (dTm gTIx (dVar 0) (dCons (dVar 6) (dNil))))) (sPar3 2 4 5 (dBin gIx (dVar 7) (dC (.int 0))) (dBin gAdd (dVar 4) (dBin gIx (dVar 7) (dC (.int 1)))) (dBin gAdd (dVar 5) (dBin gIx (dVar 7) (dC (.int 2))))))) (sRt (dTup (dCons (dVar 2) (dCons (dTup (dCons (dVar 4) (dCons (dVar 5) (dNil)))) (dNil))))))
noncomputable def F__law_went : List D → Sto → Res D := fnD 8 b__law_went
noncomputable def b__law_text : FS := sSq (sIf (dTst (dBin gEq (dCallF F__law_take (dCons (dVar 0) (dCons (dC (.int 12)) (dNil)))) (dC (.int 0)))) (sSq (sSet 2 (fLc false (iRg1 (dCons (dBin gAdd (dC (.int 1)) (dCallF F__law_take (dCons (dVar 0) (dCons (dC (.int 3)) (dNil))))) (dNil))) (.one 4) (dYes) (dCallF F__law_pick (dCons (dVar 0) (dCons (dVar 1) (dNil)))) [4])) (sRt (dCallB gTuple (dCons (dSl (dBin gMul (dVar 2) (dC (.int 2000))) (dNoPart) (dPart (dC (.int 2000)))) (dNil))))) (sNx)) (sSq (sSet 3 (dCallF F__law_take (dCons (dVar 0) (dCons (dCallF F__law_pick (dCons (dVar 0) (dCons (dLst (dCons (dC (.int 1)) (dCons (dC (.int 2)) (dCons (dC (.int 4)) (dCons (dC (.int 8)) (dCons (dC (.int 61)) (dNil))))))) (dNil)))) (dNil))))) (sRt (dCallB gTuple (dCons (fLc false (iRg1 (dCons (dVar 3) (dNil))) (.one 4) (dYes) (dCallF F__law_pick (dCons (dVar 0) (dCons (dVar 1) (dNil)))) [4]) (dNil)))))
noncomputable def F__law_text : List D → Sto → Res D := fnD 5 b__law_text
noncomputable def b__law_strange : FS := sRt (dBin gIx (fLc false (iLst (dLst (dCons (dC (.str ("a" : Str))) (dCons (dC (.str ("Z" : Str))) (dCons (dC (.str ("0" : Str))) (dCons (dC (.str ("b." : Str))) (dCons (dC (.str ("k9" : Str))) (dNil)))))))) (.one 1) (dTst (dBin gNotIn (dVar 1) (dVar 0))) (dVar 1) [1]) (dC (.int 0)))
noncomputable def F__law_strange : List D → Sto → Res D := fnD 2 b__law_strange
noncomputable def b__law_refusals : FS := sSq (sSet 11 (dCallF F__law_pick (dCons (dVar 0) (dCons (dLst (dCons (dC .non) (dCons (dC (.int 5)) (dCons (dVar 2) (dCons (dVar 3) (dCons (dTup (dCons (dVar 2) (dCons (dVar 3) (dNil)))) (dCons (dC (.str ("memory" : Str))) (dNil)))))))) (dNil))))) (sSq (sSet 8 (dCallF F__law_pick (dCons (dVar 0) (dCons (dLst (dCons (dNeg (dC (.int 1))) (dCons (dCallB gLen (dCons (dVar 3) (dNil))) (dCons (dBin gAdd (dCallB gLen (dCons (dVar 3) (dNil))) (dC (.int 7))) (dCons (dC (.bl true)) (dCons (dC .non) (dCons (dC (.str ("0" : Str))) (dCons (dTup (dCons (dC (.int 0)) (dNil))) (dCons (dLst (dCons (dC (.int 0)) (dNil))) (dNil)))))))))) (dNil))))) (sSq (sSet 12 (dCallF F__law_pick (dCons (dVar 0) (dCons (dLst (dCons (dCallF F__law_strange (dCons (dVar 2) (dNil))) (dCons (dC .non) (dCons (dC (.int 3)) (dCons (dTup (dCons (dBin gIx (dVar 2) (dC (.int 0))) (dNil))) (dCons (dBin gAdd (dBin gIx (dVar 2) (dC (.int 0))) (dC (.str ("_" : Str)))) (dCons (dC (.str ("" : Str))) (dCons (dCallB gList (dCons (dVar 2) (dNil))) (dNil))))))))) (dNil))))) (sSq (sSet 5 (dCallF F__law_take (dCons (dVar 0) (dCons (dBin gAdd (dCallB gLen (dCons (dVar 4) (dNil))) (dC (.int 1))) (dNil))))) (sSq (sSet 10 (dCallF F__law_pick (dCons (dVar 0) (dCons (dLst (dCons (dCallB gList (dCons (dVar 4) (dNil))) (dCons (dBin gIx (dVar 2) (dC (.int 0))) (dCons (dC .non) (dCons (dBin gAdd (dBin gAdd (dSl (dVar 4) (dNoPart) (dPart (dVar 5))) (dTup (dCons (dCallF F__law_strange (dCons (dVar 2) (dNil))) (dNil)))) (dSl (dVar 4) (dPart (dVar 5)) (dNoPart))) (dCons (dBin gAdd (dBin gAdd (dSl (dVar 4) (dNoPart) (dPart (dVar 5))) (dTup (dCons (dC .non) (dNil)))) (dSl (dVar 4) (dPart (dVar 5)) (dNoPart))) (dCons (dBin gAdd (dBin gAdd (dSl (dVar 4) (dNoPart) (dPart (dVar 5))) (dTup (dCons (dLst (dCons (dC (.str ("a" : Str))) (dNil))) (dNil)))) (dSl (dVar 4) (dPart (dVar 5)) (dNoPart))) (dCons (dC (.int 7)) (dNil))))))))) (dNil))))) (sSq (sSet 6 (dLstO (dCons (dCaught (dCallF F_read (dCons (dVar 11) (dCons (dVar 8) (dCons (dVar 10) (dNil)))))) (dNil)))) (sSq (sEx (dMt gApp (dVar 6) (dCons (dCaught (dCallF F_stepped (dCons (dVar 11) (dCons (dC (.int 0)) (dCons (dVar 12) (dNil)))))) (dNil)))) (sSq (sEx (dMt gApp (dVar 6) (dCons (dCaught (dCallF F_negated (dCons (dVar 11) (dNil)))) (dNil)))) (sSq (sFor 4000 (iAny (dVar 6)) (gNm 7) (sIf (dOr (dNot (dTst (dIsi ic_BadMemory (dVar 7)))) (dTst (dBin gIsNot (dFldX [1] ("part" : Str) (dVar 7)) (dC .non)))) (sRt (dC (.bl false))) (sNx))) (sSq (sSet 6 (dLstO (dCons (dCaught (dCallF F_read (dCons (dVar 1) (dCons (dVar 8) (dCons (dVar 10) (dNil)))))) (dNil)))) (sSq (sEx (dMt gApp (dVar 6) (dCons (dCaught (dCallF F_stepped (dCons (dVar 1) (dCons (dVar 8) (dCons (dVar 12) (dNil)))))) (dNil)))) (sSq (sEx (dMt gApp (dVar 6) (dCons (dCaught (dCallF F_read (dCons (dVar 1) (dCons (dVar 8) (dCons (dVar 4) (dNil)))))) (dNil)))) (sSq (sEx (dMt gApp (dVar 6) (dCons (dCaught (dCallF F_stepped (dCons (dVar 1) (dCons (dVar 8) (dCons (dBin gIx (dVar 2) (dC (.int 0))) (dNil)))))) (dNil)))) (sSq (sIf (dTst (dBin gNe (fLc false (iAny (dVar 6)) (.one 7) (dNot (dTst (dIsi ic_BadState (dVar 7)))) (dC (.int 1)) [7]) (dLst (dNil)))) (sRt (dC (.bl false))) (sNx)) (sSq (sSet 9 (dCallF F__law_take (dCons (dVar 0) (dCons (dCallB gLen (dCons (dVar 3) (dNil))) (dNil))))) (sSq (sIf (dNot (dTst (dIsi ic_BadWord (dCaught (dCallF F_read (dCons (dVar 1) (dCons (dVar 9) (dCons (dVar 10) (dNil))))))))) (sRt (dC (.bl false))) (sNx)) (sRt (dIsi ic_BadLetter (dCaught (dCallF F_stepped (dCons (dVar 1) (dCons (dVar 9) (dCons (dVar 12) (dNil)))))))))))))))))))))))
noncomputable def F__law_refusals : List D → Sto → Res D := fnD 13 b__law_refusals
noncomputable def b_law : FS := sSq (sSet 1 (dCallF F__law_begun (dCons (dVar 0) (dNil)))) (sSq (sFor 4000 (iRg1 (dCons (dBin gAdd (dC (.int 1)) (dCallB gMin2 (dCons (dBin gDiv (dCallB gLen (dCons (dVar 0) (dNil))) (dC (.int 8))) (dCons (dC (.int 2)) (dNil))))) (dNil))) (gNm 2) (sSq (sSet 3 (dCallF F__law_signs (dCons (dVar 1) (dCons (dBin gAdd (dC (.int 1)) (dCallF F__law_take (dCons (dVar 1) (dCons (dC (.int 4)) (dNil))))) (dNil))))) (sSq (sSet 4 (dCallF F__law_grid (dCons (dVar 1) (dCons (dBin gAdd (dC (.int 1)) (dCallF F__law_take (dCons (dVar 1) (dCons (dC (.int 4)) (dNil))))) (dCons (dCallB gLen (dCons (dVar 3) (dNil))) (dCons (dCallF F__law_pick (dCons (dVar 1) (dCons (dLst (dCons (dC (.int 1)) (dCons (dC (.int 9)) (dCons (dC (.int 999)) (dNil))))) (dNil)))) (dNil))))))) (sSq (sPar 5 6 (dNewF 0 F_Memory___init__ (dCons (dVar 3) (dCons (dVar 4) (dNil)))) (dCallF F__law_text (dCons (dVar 1) (dCons (dVar 3) (dNil))))) (sSq (sPar 7 8 (dCallF F_negated (dCons (dVar 5) (dNil))) (dLrg (dCallB gLen (dCons (dVar 4) (dNil))))) (sSq (sFor 4000 (iAny (dIf (dTst (dBin gLt (dCallB gLen (dCons (dVar 6) (dNil))) (dC (.int 99)))) (dVar 8) (dLst (dCons (dCallF F__law_pick (dCons (dVar 1) (dCons (dVar 8) (dNil)))) (dNil))))) (gNm 9) (sSq (sSet 10 (dCallF F__law_went (dCons (dVar 3) (dCons (dVar 4) (dCons (dVar 9) (dCons (dVar 6) (dNil))))))) (sSq (sIf (dOr (dTst (dBin gNe (dCallB gRepr (dCons (dCallF F_read (dCons (dVar 5) (dCons (dVar 9) (dCons (dVar 6) (dNil))))) (dNil))) (dCallB gRepr (dCons (dVar 10) (dNil))))) (dTst (dBin gNe (dCallB gRepr (dCons (dCallK F_read 0 3 [0, 2, 1] dNil (dCons (dVar 5) (dCons (dVar 6) (dCons (dVar 9) (dNil))))) (dNil))) (dCallB gRepr (dCons (dVar 10) (dNil)))))) (sRt (dC (.bl false))) (sNx)) (sSq (sSet 11 (dCallF F__law_take (dCons (dVar 1) (dCons (dBin gAdd (dCallB gLen (dCons (dVar 6) (dNil))) (dC (.int 1))) (dNil))))) (sSq (sAs (dCallF F_read (dCons (dVar 5) (dCons (dVar 9) (dCons (dSl (dVar 6) (dNoPart) (dPart (dVar 11))) (dNil))))) (gTp 2 (gsCons (gNm 12) (gsCons (gNm 13) (gsNil))))) (sSq (sAs (dCallF F_read (dCons (dVar 5) (dCons (dVar 12) (dCons (dSl (dVar 6) (dPart (dVar 11)) (dNoPart)) (dNil))))) (gTp 2 (gsCons (gNm 14) (gsCons (gNm 15) (gsNil))))) (sSq (sIf (dTst (dBin gNe (dCallB gRepr (dCons (dTup (dCons (dVar 14) (dCons (dTup (dCons (dBin gAdd (dBin gIx (dVar 13) (dC (.int 0))) (dBin gIx (dVar 15) (dC (.int 0)))) (dCons (dBin gAdd (dBin gIx (dVar 13) (dC (.int 1))) (dBin gIx (dVar 15) (dC (.int 1)))) (dNil)))) (dNil)))) (dNil))) (dCallB gRepr (dCons (dVar 10) (dNil))))) (sRt (dC (.bl false))) (sNx)) (sSq (sIf (dTst (dBin gNe (dCallB gRepr (dCons (dCallF F_read (dCons (dVar 7) (dCons (dVar 9) (dCons (dVar 6) (dNil))))) (dNil))) (dCallB gRepr (dCons (dTup (dCons (dBin gIx (dVar 10) (dC (.int 0))) (dCons (dTup (dCons (dNeg (dBin gIx (dBin gIx (dVar 10) (dC (.int 1))) (dC (.int 0)))) (dCons (dNeg (dBin gIx (dBin gIx (dVar 10) (dC (.int 1))) (dC (.int 1)))) (dNil)))) (dNil)))) (dNil))))) (sRt (dC (.bl false))) (sNx)) (sFor 4000 (iEnumD (dCons (dVar 3) (dNil))) (gTp 2 (gsCons (gNm 16) (gsCons (gNm 17) (gsNil)))) (sSq (sAs (dBin gIx (dBin gIx (dVar 4) (dVar 9)) (dVar 16)) (gTp 3 (gsCons (gNm 18) (gsCons (gNm 19) (gsCons (gNm 20) (gsNil)))))) (sSq (sIf (dTst (dBin gNe (dCallB gRepr (dCons (dCallF F_stepped (dCons (dVar 5) (dCons (dVar 9) (dCons (dVar 17) (dNil))))) (dNil))) (dCallB gRepr (dCons (dTup (dCons (dVar 18) (dCons (dTup (dCons (dVar 19) (dCons (dVar 20) (dNil)))) (dNil)))) (dNil))))) (sRt (dC (.bl false))) (sNx)) (sSq (sIf (dTst (dBin gNe (dCallB gRepr (dCons (dCallK F_stepped 0 3 [2, 1, 0] dNil (dCons (dVar 17) (dCons (dVar 9) (dCons (dVar 7) (dNil))))) (dNil))) (dCallB gRepr (dCons (dTup (dCons (dVar 18) (dCons (dTup (dCons (dNeg (dVar 19)) (dCons (dNeg (dVar 20)) (dNil)))) (dNil)))) (dNil))))) (sRt (dC (.bl false))) (sNx)) (sIf (dTst (dBin gNe (dCallF F_stepped (dCons (dVar 5) (dCons (dVar 9) (dCons (dVar 17) (dNil))))) (dCallF F_read (dCons (dVar 5) (dCons (dVar 9) (dCons (dTup (dCons (dVar 17) (dNil))) (dNil))))))) (sRt (dC (.bl false))) (sNx)))))))))))))) (sSq (sIf (dOr (dTst (dBin gNe (dFld [0] ("letters" : Str) (dVar 7)) (dVar 3))) (dOr (dTst (dBin gNe (dLenO 0 F_Memory___len__ (dVar 7)) (dCallB gLen (dCons (dVar 4) (dNil))))) (dTst (dEqO 0 true F_Memory___eq__ (dCallK F_negated 0 1 [0] dNil (dCons (dVar 7) (dNil))) (dVar 5))))) (sRt (dC (.bl false))) (sNx)) (sIf (dOr (dTst (dBin gNe (dCallB gRepr (dCons (dFld [0] ("moves" : Str) (dVar 5)) (dNil))) (dCallB gRepr (dCons (dVar 4) (dNil))))) (dNot (dTst (dCallF F__law_refusals (dCons (dVar 1) (dCons (dVar 5) (dCons (dVar 3) (dCons (dVar 4) (dCons (dVar 6) (dNil)))))))))) (sRt (dC (.bl false))) (sNx))))))))) (sRt (dC (.bl true))))
noncomputable def F_law : List D → Sto → Res D := fnD 21 b_law
/-! ### where things stand, and what is said of them -/
structure Ad where
  (f1000 f1001 f1002 f11 f12 f13 f14 f15 f17 f18 f19 f20 f21 f22 f23 f24 f26 f27 f28 f29 f30 f31 f32 f33 f34 f35 f36 f37 f38 f39 D0 C0 C1 C2 C3 C4 c38 P38 : Addr)
  (fd1000 fd1001 fd1002 fd11 fd12 fd13 fd14 fd15 fd17 fd18 fd19 fd20 fd21 fd22 fd23 fd24 fd26 fd27 fd28 fd29 fd30 fd31 fd32 fd33 fd34 fd35 fd36 fd37 fd38 fd39 : FuncData)
abbrev q38 : Str := (envOfC ("_law_refusals" : Str) (defScope s38) 0 0 .none).qual ++ "<lambda>"
abbrev Gk (K : PySem.W.Frag) (a : Ad) : Cfg := ⟨K, [a.D0], [a.C0, a.C1, a.C2, a.C3, a.C4], [(a.P38, q38)]⟩
structure Txt (P : Program) (K : PySem.W.Frag) (mg : Str → Option Value) (a : Ad) : Prop where
  F1000 : Fun K ("__init__" : Str) ("Memory.__init__" : Str) s1000 a.f1000 a.fd1000
  fn1000 : PySem.W.isFn K (.ref a.f1000) = true
  F1001 : Fun K ("__len__" : Str) ("Memory.__len__" : Str) s1001 a.f1001 a.fd1001
  fn1001 : PySem.W.isFn K (.ref a.f1001) = true
  F1002 : Fun K ("__eq__" : Str) ("Memory.__eq__" : Str) s1002 a.f1002 a.fd1002
  fn1002 : PySem.W.isFn K (.ref a.f1002) = true
  F11 : Fun K ("is_number" : Str) ("is_number" : Str) s11 a.f11 a.fd11
  m11 : mg ("is_number" : Str) = some (.ref a.f11)
  F12 : Fun K ("is_count" : Str) ("is_count" : Str) s12 a.f12 a.fd12
  m12 : mg ("is_count" : Str) = some (.ref a.f12)
  F13 : Fun K ("is_letter" : Str) ("is_letter" : Str) s13 a.f13 a.fd13
  m13 : mg ("is_letter" : Str) = some (.ref a.f13)
  F14 : Fun K ("are_letters" : Str) ("are_letters" : Str) s14 a.f14 a.fd14
  m14 : mg ("are_letters" : Str) = some (.ref a.f14)
  F15 : Fun K ("is_move" : Str) ("is_move" : Str) s15 a.f15 a.fd15
  m15 : mg ("is_move" : Str) = some (.ref a.f15)
  F17 : Fun K ("need_memory" : Str) ("need_memory" : Str) s17 a.f17 a.fd17
  m17 : mg ("need_memory" : Str) = some (.ref a.f17)
  F18 : Fun K ("need_state" : Str) ("need_state" : Str) s18 a.f18 a.fd18
  m18 : mg ("need_state" : Str) = some (.ref a.f18)
  F19 : Fun K ("is_word" : Str) ("is_word" : Str) s19 a.f19 a.fd19
  m19 : mg ("is_word" : Str) = some (.ref a.f19)
  F20 : Fun K ("move_of" : Str) ("move_of" : Str) s20 a.f20 a.fd20
  m20 : mg ("move_of" : Str) = some (.ref a.f20)
  F21 : Fun K ("stepped" : Str) ("stepped" : Str) s21 a.f21 a.fd21
  m21 : mg ("stepped" : Str) = some (.ref a.f21)
  F22 : Fun K ("read_on" : Str) ("read_on" : Str) s22 a.f22 a.fd22
  m22 : mg ("read_on" : Str) = some (.ref a.f22)
  F23 : Fun K ("read" : Str) ("read" : Str) s23 a.f23 a.fd23
  m23 : mg ("read" : Str) = some (.ref a.f23)
  F24 : Fun K ("negated" : Str) ("negated" : Str) s24 a.f24 a.fd24
  m24 : mg ("negated" : Str) = some (.ref a.f24)
  F26 : Fun K ("_law_begun" : Str) ("_law_begun" : Str) s26 a.f26 a.fd26
  m26 : mg ("_law_begun" : Str) = some (.ref a.f26)
  F27 : Fun K ("_law_mixed" : Str) ("_law_mixed" : Str) s27 a.f27 a.fd27
  m27 : mg ("_law_mixed" : Str) = some (.ref a.f27)
  F28 : Fun K ("_law_take" : Str) ("_law_take" : Str) s28 a.f28 a.fd28
  m28 : mg ("_law_take" : Str) = some (.ref a.f28)
  F29 : Fun K ("_law_pick" : Str) ("_law_pick" : Str) s29 a.f29 a.fd29
  m29 : mg ("_law_pick" : Str) = some (.ref a.f29)
  F30 : Fun K ("_law_caught" : Str) ("_law_caught" : Str) s30 a.f30 a.fd30
  m30 : mg ("_law_caught" : Str) = some (.ref a.f30)
  F31 : Fun K ("_law_sign" : Str) ("_law_sign" : Str) s31 a.f31 a.fd31
  m31 : mg ("_law_sign" : Str) = some (.ref a.f31)
  F32 : Fun K ("_law_signs" : Str) ("_law_signs" : Str) s32 a.f32 a.fd32
  m32 : mg ("_law_signs" : Str) = some (.ref a.f32)
  F33 : Fun K ("_law_cost" : Str) ("_law_cost" : Str) s33 a.f33 a.fd33
  m33 : mg ("_law_cost" : Str) = some (.ref a.f33)
  F34 : Fun K ("_law_grid" : Str) ("_law_grid" : Str) s34 a.f34 a.fd34
  m34 : mg ("_law_grid" : Str) = some (.ref a.f34)
  F35 : Fun K ("_law_went" : Str) ("_law_went" : Str) s35 a.f35 a.fd35
  m35 : mg ("_law_went" : Str) = some (.ref a.f35)
  F36 : Fun K ("_law_text" : Str) ("_law_text" : Str) s36 a.f36 a.fd36
  m36 : mg ("_law_text" : Str) = some (.ref a.f36)
  F37 : Fun K ("_law_strange" : Str) ("_law_strange" : Str) s37 a.f37 a.fd37
  m37 : mg ("_law_strange" : Str) = some (.ref a.f37)
  F38 : FunC K ("_law_refusals" : Str) ("_law_refusals" : Str) s38 a.f38 a.fd38 a.c38
  m38 : mg ("_law_refusals" : Str) = some (.ref a.f38)
  F39 : Fun K ("law" : Str) ("law" : Str) s39 a.f39 a.fd39
  m39 : mg ("law" : Str) = some (.ref a.f39)
  x0 : Exd (Gk K a) mg ("ClockError" : Str) 0 a.C0
  x1 : Exf (Gk K a) P mg ("BadMemory" : Str) 1 a.C1 ("part" : Str)
  x2 : Exd (Gk K a) mg ("BadLetter" : Str) 2 a.C2
  x3 : Exd (Gk K a) mg ("BadState" : Str) 3 a.C3
  x4 : Exd (Gk K a) mg ("BadWord" : Str) 4 a.C4
  fx_part : FldX (Gk K a) [1] ("part" : Str)
  n_abs : mg ("abs" : Str) = none
  n_all : mg ("all" : Str) = none
  n_bool : mg ("bool" : Str) = none
  n_enumerate : mg ("enumerate" : Str) = none
  n_int : mg ("int" : Str) = none
  n_isinstance : mg ("isinstance" : Str) = none
  n_len : mg ("len" : Str) = none
  n_list : mg ("list" : Str) = none
  n_min : mg ("min" : Str) = none
  n_range : mg ("range" : Str) = none
  n_repr : mg ("repr" : Str) = none
  n_set : mg ("set" : Str) = none
  n_sorted : mg ("sorted" : Str) = none
  n_str : mg ("str" : Str) = none
  n_super : mg ("super" : Str) = none
  n_tuple : mg ("tuple" : Str) = none
  g_MOST_STATES : ∃ u, mg ("MOST_STATES" : Str) = some u ∧ KRep K u (.int 120)
  g_SIGNS : ∃ u, mg ("SIGNS" : Str) = some u ∧ KRep K u (.str ("abcdefghijklmnopqrstuvwxyzABCDEFGHIJKLMNOPQRSTUVWXYZ0123456789." : Str))
  g_MOST_LETTERS : ∃ u, mg ("MOST_LETTERS" : Str) = some u ∧ KRep K u (.int 72)
  g_MOST_COST : ∃ u, mg ("MOST_COST" : Str) = some u ∧ KRep K u (.int 999)
  y0 : ClsD (Gk K a) mg ("Memory" : Str) 0 a.D0 a.f1000
  yk0 : PySem.W.keepIn K (.ref a.D0) = true
  ye0 : EqC (Gk K a) 0 a.D0 a.f1002
  yl0 : LenC (Gk K a) 0 a.D0 a.f1001
  fc_letters : FldC (Gk K a) [0] ("letters" : Str)
  fc_moves : FldC (Gk K a) [0] ("moves" : Str)
  kc_Memory_non : PySem.W.kitOne K (.type "NoneType") (.ref a.D0) = some false
  kc_Memory_bl : PySem.W.kitOne K (.type "bool") (.ref a.D0) = some false
  kc_Memory_int : PySem.W.kitOne K (.type "int") (.ref a.D0) = some false
  kc_Memory_str : PySem.W.kitOne K (.type "str") (.ref a.D0) = some false
  kc_Memory_tup : PySem.W.kitOne K (.type "tuple") (.ref a.D0) = some false
  kc_Memory_lst : PySem.W.kitOne K (.type "list") (.ref a.D0) = some false
  kc_Memory_dic : PySem.W.kitOne K (.type "dict") (.ref a.D0) = some false
  kc_Memory_0 : PySem.W.kitOne K (.ref a.D0) (.ref a.D0) = some true
  kinds : KindsOk (Gk K a)
  kn_BadMemory : PySem.W.kitOne K (.type "NoneType") (.ref a.C1) = some false
  k0_BadMemory : PySem.W.kitOne K (.ref a.C0) (.ref a.C1) = some false
  k1_BadMemory : PySem.W.kitOne K (.ref a.C1) (.ref a.C1) = some true
  k2_BadMemory : PySem.W.kitOne K (.ref a.C2) (.ref a.C1) = some false
  k3_BadMemory : PySem.W.kitOne K (.ref a.C3) (.ref a.C1) = some false
  k4_BadMemory : PySem.W.kitOne K (.ref a.C4) (.ref a.C1) = some false
  kn_BadLetter : PySem.W.kitOne K (.type "NoneType") (.ref a.C2) = some false
  k0_BadLetter : PySem.W.kitOne K (.ref a.C0) (.ref a.C2) = some false
  k1_BadLetter : PySem.W.kitOne K (.ref a.C1) (.ref a.C2) = some false
  k2_BadLetter : PySem.W.kitOne K (.ref a.C2) (.ref a.C2) = some true
  k3_BadLetter : PySem.W.kitOne K (.ref a.C3) (.ref a.C2) = some false
  k4_BadLetter : PySem.W.kitOne K (.ref a.C4) (.ref a.C2) = some false
  kn_BadState : PySem.W.kitOne K (.type "NoneType") (.ref a.C3) = some false
  k0_BadState : PySem.W.kitOne K (.ref a.C0) (.ref a.C3) = some false
  k1_BadState : PySem.W.kitOne K (.ref a.C1) (.ref a.C3) = some false
  k2_BadState : PySem.W.kitOne K (.ref a.C2) (.ref a.C3) = some false
  k3_BadState : PySem.W.kitOne K (.ref a.C3) (.ref a.C3) = some true
  k4_BadState : PySem.W.kitOne K (.ref a.C4) (.ref a.C3) = some false
  kn_BadWord : PySem.W.kitOne K (.type "NoneType") (.ref a.C4) = some false
  k0_BadWord : PySem.W.kitOne K (.ref a.C0) (.ref a.C4) = some false
  k1_BadWord : PySem.W.kitOne K (.ref a.C1) (.ref a.C4) = some false
  k2_BadWord : PySem.W.kitOne K (.ref a.C2) (.ref a.C4) = some false
  k3_BadWord : PySem.W.kitOne K (.ref a.C3) (.ref a.C4) = some false
  k4_BadWord : PySem.W.kitOne K (.ref a.C4) (.ref a.C4) = some true
  ex0 : PySem.W.exmOne K (.ref a.C0) (.ref a.C0) = some true
  ex1 : PySem.W.exmOne K (.ref a.C1) (.ref a.C0) = some true
  ex2 : PySem.W.exmOne K (.ref a.C2) (.ref a.C0) = some true
  ex3 : PySem.W.exmOne K (.ref a.C3) (.ref a.C0) = some true
  ex4 : PySem.W.exmOne K (.ref a.C4) (.ref a.C0) = some true
abbrev Tbs (base : Heap) (mg : Str → Option Value) (a : Ad) : Prop := ∀ p ∈ ([(a.c38, a.P38)] : List (Addr × Addr)), TabB base mg p.1 p.2
section
variable {P : Program} {w : World} {K : PySem.W.Frag} {mg : Str → Option Value} {base : Heap} {a : Ad}
theorem ih_BadMemory (T : Txt P K mg a) : ∀ k t b, kdTy (Gk K a) k = some t → ic_BadMemory k = some b → PySem.W.kitOne (Gk K a).K t (.ref a.C1) = some b := by
  intro k t b h1 h2
  unfold ic_BadMemory at h2
  split at h2 <;> cases h2 <;> cases h1
  · exact T.kn_BadMemory
  · exact T.k0_BadMemory
  · exact T.k1_BadMemory
  · exact T.k2_BadMemory
  · exact T.k3_BadMemory
  · exact T.k4_BadMemory
theorem ih_BadLetter (T : Txt P K mg a) : ∀ k t b, kdTy (Gk K a) k = some t → ic_BadLetter k = some b → PySem.W.kitOne (Gk K a).K t (.ref a.C2) = some b := by
  intro k t b h1 h2
  unfold ic_BadLetter at h2
  split at h2 <;> cases h2 <;> cases h1
  · exact T.kn_BadLetter
  · exact T.k0_BadLetter
  · exact T.k1_BadLetter
  · exact T.k2_BadLetter
  · exact T.k3_BadLetter
  · exact T.k4_BadLetter
theorem ih_BadState (T : Txt P K mg a) : ∀ k t b, kdTy (Gk K a) k = some t → ic_BadState k = some b → PySem.W.kitOne (Gk K a).K t (.ref a.C3) = some b := by
  intro k t b h1 h2
  unfold ic_BadState at h2
  split at h2 <;> cases h2 <;> cases h1
  · exact T.kn_BadState
  · exact T.k0_BadState
  · exact T.k1_BadState
  · exact T.k2_BadState
  · exact T.k3_BadState
  · exact T.k4_BadState
theorem ih_BadWord (T : Txt P K mg a) : ∀ k t b, kdTy (Gk K a) k = some t → ic_BadWord k = some b → PySem.W.kitOne (Gk K a).K t (.ref a.C4) = some b := by
  intro k t b h1 h2
  unfold ic_BadWord at h2
  split at h2 <;> cases h2 <;> cases h1
  · exact T.kn_BadWord
  · exact T.k0_BadWord
  · exact T.k1_BadWord
  · exact T.k2_BadWord
  · exact T.k3_BadWord
  · exact T.k4_BadWord
theorem ih_Memory (T : Txt P K mg a) : ∀ k t b, kdTy (Gk K a) k = some t → ic_Memory k = some b → PySem.W.kitOne (Gk K a).K t (.ref a.D0) = some b := by
  intro k t b h1 h2
  unfold ic_Memory at h2
  split at h2 <;> cases h2 <;> cases h1
  · exact T.kc_Memory_non
  · exact T.kc_Memory_bl
  · exact T.kc_Memory_int
  · exact T.kc_Memory_str
  · exact T.kc_Memory_tup
  · exact T.kc_Memory_lst
  · exact T.kc_Memory_dic
  · exact T.kc_Memory_0
theorem catS : CatS ("_law_task" : Str) ("_law_caught_here" : Str) ("_law_error" : Str) ("ClockError" : Str) (defScope s30) := ⟨⟨rfl, rfl, rfl, by decide +kernel, rfl, by decide +kernel, by decide +kernel⟩, rfl, rfl, rfl, rfl, rfl, rfl, rfl, rfl, rfl, rfl, rfl⟩
theorem Txt.cat (T : Txt P K mg a) : CatD (Gk K a) mg ("_law_caught" : Str) ("_law_task" : Str) ("_law_caught_here" : Str) ("_law_error" : Str) ("ClockError" : Str) s30 a.f30 a.fd30 a.C0 := ⟨T.F30, T.m30, ⟨_, _, _, _, _, _, _, _, _, _, _, _, _, _, _, rfl⟩, catS, T.x0.gC, T.F30.binds fun _ _ _ _ _ _ us hl => match us, hl with | [_], _ => rfl, fun c C h => by
  match c, h with
  | 0, h => cases h; exact T.ex0
  | 1, h => cases h; exact T.ex1
  | 2, h => cases h; exact T.ex2
  | 3, h => cases h; exact T.ex3
  | 4, h => cases h; exact T.ex4
  | n + 5, h => simp at h⟩
theorem hm38 (T : Txt P K mg a) : (a.P38, q38) ∈ (Gk K a).T := by simp
theorem hu38 (T : Txt P K mg a) : ∀ x ∈ (Gk K a).T, x.1 = a.P38 → x.2 = q38 := by
  intro x hx he
  obtain rfl := List.mem_singleton.mp hx
  rfl
theorem kb_read_0_memory_word_state (T : Txt P K mg a) : KBinds (Gk K a).K a.fd23 [("memory" : Str), ("state" : Str), ("word" : Str)] [("memory" : Str), ("word" : Str), ("state" : Str)] (gath 0 3 [0, 2, 1]) (gath 0 3 [0, 2, 1]) := fun_kb T.F23 (by decide) fun _ _ _ _ _ _ us ws h1 h2 => match us, ws, h1, h2 with | [], [_, _, _], _, _ => rfl
theorem kb_stepped_0_letter_state_memory (T : Txt P K mg a) : KBinds (Gk K a).K a.fd21 [("memory" : Str), ("state" : Str), ("letter" : Str)] [("letter" : Str), ("state" : Str), ("memory" : Str)] (gath 0 3 [2, 1, 0]) (gath 0 3 [2, 1, 0]) := fun_kb T.F21 (by decide) fun _ _ _ _ _ _ us ws h1 h2 => match us, ws, h1, h2 with | [], [_, _, _], _, _ => rfl
theorem kb_negated_0_memory (T : Txt P K mg a) : KBinds (Gk K a).K a.fd24 [("memory" : Str)] [("memory" : Str)] (gath 0 1 [0]) (gath 0 1 [0]) := fun_kb T.F24 (by decide) fun _ _ _ _ _ _ us ws h1 h2 => match us, ws, h1, h2 with | [], [_], _, _ => rfl
/-! ### the defs keep it -/
theorem o_is_letter (T : Txt P K mg a) (tb : Tbs base mg a) : Own (Gk K a) P w mg base 1 ("is_letter" : Str) a.f13 a.fd13 [("thing" : Str)] F_is_letter := by
  have hN : ([("thing" : Str), ("sign" : Str)] : List Str).Nodup := by decide +kernel
  have sc : FnScope [("thing" : Str), ("sign" : Str)] [("thing" : Str)] (defScope s13) := ⟨rfl, rfl, rfl, hN, rfl, by decide +kernel, by decide +kernel⟩
  refine ⟨fn_data (k := 0) (G := Gk K a) T.F13 sc rfl fun cdv A outer s H E hr => ?_, T.m13, T.F13.kp, T.F13.binds fun _ _ _ _ _ _ us hl => match us, hl with | [_], _ => rfl⟩
  show DSs (Gk K a) (cxD P w K mg base [("thing" : Str), ("sign" : Str)] ("is_letter" : Str) (defScope s13) a.f13 cdv A outer s H E) (defBody s13) b_is_letter
  exact dss_one (ds_ret (de_and (de_isiT T.kinds (n := "str") T.n_isinstance T.n_str (de_var 0)) (de_and (de_chain od_le od_le (de_int) (de_callB cd_len T.n_len (da_cons (de_var 0) (da_nil))) (de_int)) (de_one (de_callB cd_all T.n_all (da_cons (de_lc false hN (ix := [(("sign" : Str), 1)]) (T := (.one 1)) (blkOk_by (N := [("thing" : Str), ("sign" : Str)]) (sc := defScope s13) (by decide +kernel)) (di_str (de_var 0)) (by decide) (fun _ _ _ _ _ _ => (pg_name hN rfl (by first | exact Or.inl rfl | exact Or.inr rfl) (by first | exact .inl rfl | exact .inr rfl))) (fun _ _ _ _ _ => dts_nil) (fun _ _ _ _ _ => de_cmp od_in (de_var 1) (de_gk T.g_SIGNS))) (da_nil)))))))
theorem o_are_letters (T : Txt P K mg a) (tb : Tbs base mg a) : Own (Gk K a) P w mg base 2 ("are_letters" : Str) a.f14 a.fd14 [("thing" : Str)] F_are_letters := by
  have hN : ([("thing" : Str), ("one" : Str)] : List Str).Nodup := by decide +kernel
  have sc : FnScope [("thing" : Str), ("one" : Str)] [("thing" : Str)] (defScope s14) := ⟨rfl, rfl, rfl, hN, rfl, by decide +kernel, by decide +kernel⟩
  refine ⟨fn_data (k := 1) (G := Gk K a) T.F14 sc rfl fun cdv A outer s H E hr => ?_, T.m14, T.F14.kp, T.F14.binds fun _ _ _ _ _ _ us hl => match us, hl with | [_], _ => rfl⟩
  show DSs (Gk K a) (cxD P w K mg base [("thing" : Str), ("one" : Str)] ("are_letters" : Str) (defScope s14) a.f14 cdv A outer s H E) (defBody s14) b_are_letters
  exact dss_cons (ds_if (dt_of (dw_or (dt_not (dt_val (de_isiT T.kinds (n := "tuple") T.n_isinstance T.n_tuple (de_var 0)))) (dw_or1 (dt_not (dt_chain od_le od_le (de_int) (de_callB cd_len T.n_len (da_cons (de_var 0) (da_nil))) (de_gk T.g_MOST_LETTERS)))))) (dss_one (ds_ret (de_bl))) (dss_nil)) (dss_one (ds_ret (de_and (de_callB cd_all T.n_all (da_cons (de_lc false hN (ix := [(("one" : Str), 1)]) (T := (.one 1)) (blkOk_by (N := [("thing" : Str), ("one" : Str)]) (sc := defScope s14) (by decide +kernel)) (di_any (de_var 0)) (by decide) (fun _ _ _ _ _ _ => (pg_name hN rfl (by first | exact Or.inl rfl | exact Or.inr rfl) (by first | exact .inl rfl | exact .inr rfl))) (fun _ _ _ _ _ => dts_nil) (fun _ _ _ _ _ => de_call (o_is_letter T tb) hr (by decide) (da_cons (de_var 1) (da_nil)) (hlen := len_cons (len_nil)))) (da_nil))) (de_one (de_cmp od_eq (de_callTy cd_list T.n_list (da_cons (de_var 0) (da_nil))) (de_sortSet T.n_sorted T.n_set (de_var 0)))))))
theorem o_is_number (T : Txt P K mg a) (tb : Tbs base mg a) : Own (Gk K a) P w mg base 1 ("is_number" : Str) a.f11 a.fd11 [("thing" : Str)] F_is_number := by
  have hN : ([("thing" : Str)] : List Str).Nodup := by decide +kernel
  have sc : FnScope [("thing" : Str)] [("thing" : Str)] (defScope s11) := ⟨rfl, rfl, rfl, hN, rfl, by decide +kernel, by decide +kernel⟩
  refine ⟨fn_data (k := 0) (G := Gk K a) T.F11 sc rfl fun cdv A outer s H E hr => ?_, T.m11, T.F11.kp, T.F11.binds fun _ _ _ _ _ _ us hl => match us, hl with | [_], _ => rfl⟩
  show DSs (Gk K a) (cxD P w K mg base [("thing" : Str)] ("is_number" : Str) (defScope s11) a.f11 cdv A outer s H E) (defBody s11) b_is_number
  exact dss_one (ds_ret (de_and (de_isiT T.kinds (n := "int") T.n_isinstance T.n_int (de_var 0)) (de_one (de_not (de_isiT T.kinds (n := "bool") T.n_isinstance T.n_bool (de_var 0))))))
theorem o_is_count (T : Txt P K mg a) (tb : Tbs base mg a) : Own (Gk K a) P w mg base 2 ("is_count" : Str) a.f12 a.fd12 [("thing" : Str), ("least" : Str), ("most" : Str)] F_is_count := by
  have hN : ([("thing" : Str), ("least" : Str), ("most" : Str)] : List Str).Nodup := by decide +kernel
  have sc : FnScope [("thing" : Str), ("least" : Str), ("most" : Str)] [("thing" : Str), ("least" : Str), ("most" : Str)] (defScope s12) := ⟨rfl, rfl, rfl, hN, rfl, by decide +kernel, by decide +kernel⟩
  refine ⟨fn_data (k := 1) (G := Gk K a) T.F12 sc rfl fun cdv A outer s H E hr => ?_, T.m12, T.F12.kp, T.F12.binds fun _ _ _ _ _ _ us hl => match us, hl with | [_, _, _], _ => rfl⟩
  show DSs (Gk K a) (cxD P w K mg base [("thing" : Str), ("least" : Str), ("most" : Str)] ("is_count" : Str) (defScope s12) a.f12 cdv A outer s H E) (defBody s12) b_is_count
  exact dss_one (ds_ret (de_and (de_call (o_is_number T tb) hr (by decide) (da_cons (de_var 0) (da_nil)) (hlen := len_cons (len_nil))) (de_one (de_chain od_le od_le (de_var 1) (de_var 0) (de_var 2)))))
theorem o_is_move (T : Txt P K mg a) (tb : Tbs base mg a) : Own (Gk K a) P w mg base 3 ("is_move" : Str) a.f15 a.fd15 [("thing" : Str), ("many" : Str)] F_is_move := by
  have hN : ([("thing" : Str), ("many" : Str)] : List Str).Nodup := by decide +kernel
  have sc : FnScope [("thing" : Str), ("many" : Str)] [("thing" : Str), ("many" : Str)] (defScope s15) := ⟨rfl, rfl, rfl, hN, rfl, by decide +kernel, by decide +kernel⟩
  refine ⟨fn_data (k := 2) (G := Gk K a) T.F15 sc rfl fun cdv A outer s H E hr => ?_, T.m15, T.F15.kp, T.F15.binds fun _ _ _ _ _ _ us hl => match us, hl with | [_, _], _ => rfl⟩
  show DSs (Gk K a) (cxD P w K mg base [("thing" : Str), ("many" : Str)] ("is_move" : Str) (defScope s15) a.f15 cdv A outer s H E) (defBody s15) b_is_move
  exact dss_cons (ds_if (dt_of (dw_or (dt_not (dt_val (de_isiT T.kinds (n := "tuple") T.n_isinstance T.n_tuple (de_var 0)))) (dw_or (dt_cmp od_ne (de_callB cd_len T.n_len (da_cons (de_var 0) (da_nil))) (de_int)) (dw_or1 (dt_not (dt_val (de_call (o_is_count T tb) hr (by decide) (da_cons (de_ix (de_var 0) (de_int)) (da_cons (de_int) (da_cons (de_bin od_sub (de_var 1) (de_int)) (da_nil)))) (hlen := len_cons (len_cons (len_cons (len_nil))))))))))) (dss_one (ds_ret (de_bl))) (dss_nil)) (dss_one (ds_ret (de_and (de_call (o_is_count T tb) hr (by decide) (da_cons (de_ix (de_var 0) (de_int)) (da_cons (de_neg (de_gk T.g_MOST_COST)) (da_cons (de_gk T.g_MOST_COST) (da_nil)))) (hlen := len_cons (len_cons (len_cons (len_nil))))) (de_one (de_call (o_is_count T tb) hr (by decide) (da_cons (de_ix (de_var 0) (de_int)) (da_cons (de_neg (de_gk T.g_MOST_COST)) (da_cons (de_gk T.g_MOST_COST) (da_nil)))) (hlen := len_cons (len_cons (len_cons (len_nil)))))))))
theorem o_Memory___init__ (T : Txt P K mg a) (tb : Tbs base mg a) : OwnM (Gk K a) P w mg base 4 a.f1000 a.fd1000 [("self" : Str), ("letters" : Str), ("moves" : Str)] F_Memory___init__ := by
  have hN : ([("self" : Str), ("letters" : Str), ("moves" : Str), ("state" : Str), ("row" : Str), ("move" : Str)] : List Str).Nodup := by decide +kernel
  have sc : FnScope [("self" : Str), ("letters" : Str), ("moves" : Str), ("state" : Str), ("row" : Str), ("move" : Str)] [("self" : Str), ("letters" : Str), ("moves" : Str)] (defScope s1000) := ⟨rfl, rfl, rfl, hN, rfl, by decide +kernel, by decide +kernel⟩
  refine ⟨fn_data (k := 3) (G := Gk K a) T.F1000 sc rfl fun cdv A outer s H E hr => ?_, T.F1000.binds fun _ _ _ _ _ _ us hl => match us, hl with | [_, _, _], _ => rfl, T.fn1000, T.F1000.kp⟩
  show DSs (Gk K a) (cxD P w K mg base [("self" : Str), ("letters" : Str), ("moves" : Str), ("state" : Str), ("row" : Str), ("move" : Str)] ("Memory.__init__" : Str) (defScope s1000) a.f1000 cdv A outer s H E) (defBody s1000) b_Memory___init__
  exact dss_cons (ds_if (dt_not (dt_val (de_call (o_are_letters T tb) hr (by decide) (da_cons (de_var 1) (da_nil)) (hlen := len_cons (len_nil))))) (dss_one (ds_raiseF (k := 0) T.x1 (hr.mono (by decide)) (de_str))) (dss_nil)) (dss_cons (ds_if (dt_of (dw_or (dt_not (dt_val (de_isiT T.kinds (n := "tuple") T.n_isinstance T.n_tuple (de_var 2)))) (dw_or1 (dt_not (dt_chain od_le od_le (de_int) (de_callB cd_len T.n_len (da_cons (de_var 2) (da_nil))) (de_gk T.g_MOST_STATES)))))) (dss_one (ds_raiseF (k := 0) T.x1 (hr.mono (by decide)) (de_str))) (dss_nil)) (dss_cons (ds_for 4000 (di_enum T.n_enumerate (da_cons (de_var 2) (da_nil))) (dg_tup (dgs_cons (dg_name 3 hN) (dgs_cons (dg_name 4 hN) (dgs_nil)))) (dss_cons (ds_if (dt_of (dw_or (dt_not (dt_val (de_isiT T.kinds (n := "tuple") T.n_isinstance T.n_tuple (de_var 4)))) (dw_or1 (dt_cmp od_ne (de_callB cd_len T.n_len (da_cons (de_var 4) (da_nil))) (de_callB cd_len T.n_len (da_cons (de_var 1) (da_nil))))))) (dss_one (ds_raiseF (k := 0) T.x1 (hr.mono (by decide)) (de_var 3))) (dss_nil)) (dss_one (ds_if (dt_not (dt_val (de_callB cd_all T.n_all (da_cons (de_lc false hN (ix := [(("move" : Str), 5)]) (T := (.one 5)) (blkOk_by (N := [("self" : Str), ("letters" : Str), ("moves" : Str), ("state" : Str), ("row" : Str), ("move" : Str)]) (sc := defScope s1000) (by decide +kernel)) (di_any (de_var 4)) (by decide) (fun _ _ _ _ _ _ => (pg_name hN rfl (by first | exact Or.inl rfl | exact Or.inr rfl) (by first | exact .inl rfl | exact .inr rfl))) (fun _ _ _ _ _ => dts_nil) (fun _ _ _ _ _ => de_call (o_is_move T tb) hr (by decide) (da_cons (de_var 5) (da_cons (de_callB cd_len T.n_len (da_cons (de_var 2) (da_nil))) (da_nil))) (hlen := len_cons (len_cons (len_nil))))) (da_nil))))) (dss_one (ds_raiseF (k := 0) T.x1 (hr.mono (by decide)) (de_var 3))) (dss_nil))))) (dss_cons (ds_fld T.fc_letters (de_var 0) (de_var 1)) (dss_one (ds_fld T.fc_moves (de_var 0) (de_var 2))))))
theorem o_Memory___len__ (T : Txt P K mg a) (tb : Tbs base mg a) : OwnM (Gk K a) P w mg base 1 a.f1001 a.fd1001 [("self" : Str)] F_Memory___len__ := by
  have hN : ([("self" : Str)] : List Str).Nodup := by decide +kernel
  have sc : FnScope [("self" : Str)] [("self" : Str)] (defScope s1001) := ⟨rfl, rfl, rfl, hN, rfl, by decide +kernel, by decide +kernel⟩
  refine ⟨fn_data (k := 0) (G := Gk K a) T.F1001 sc rfl fun cdv A outer s H E hr => ?_, T.F1001.binds fun _ _ _ _ _ _ us hl => match us, hl with | [_], _ => rfl, T.fn1001, T.F1001.kp⟩
  show DSs (Gk K a) (cxD P w K mg base [("self" : Str)] ("Memory.__len__" : Str) (defScope s1001) a.f1001 cdv A outer s H E) (defBody s1001) b_Memory___len__
  exact dss_one (ds_ret (de_callB cd_len T.n_len (da_cons (de_fld T.fc_moves (de_var 0)) (da_nil))))
theorem o_Memory___eq__ (T : Txt P K mg a) (tb : Tbs base mg a) : OwnM (Gk K a) P w mg base 1 a.f1002 a.fd1002 [("self" : Str), ("other" : Str)] F_Memory___eq__ := by
  have hN : ([("self" : Str), ("other" : Str)] : List Str).Nodup := by decide +kernel
  have sc : FnScope [("self" : Str), ("other" : Str)] [("self" : Str), ("other" : Str)] (defScope s1002) := ⟨rfl, rfl, rfl, hN, rfl, by decide +kernel, by decide +kernel⟩
  refine ⟨fn_data (k := 0) (G := Gk K a) T.F1002 sc rfl fun cdv A outer s H E hr => ?_, T.F1002.binds fun _ _ _ _ _ _ us hl => match us, hl with | [_, _], _ => rfl, T.fn1002, T.F1002.kp⟩
  show DSs (Gk K a) (cxD P w K mg base [("self" : Str), ("other" : Str)] ("Memory.__eq__" : Str) (defScope s1002) a.f1002 cdv A outer s H E) (defBody s1002) b_Memory___eq__
  exact dss_one (ds_ret (de_and (de_isiC T.kinds (C := a.D0) ic_Memory T.n_isinstance T.y0.gC (ih_Memory T) (de_var 1)) (de_and (de_cmp od_eq (de_fld T.fc_letters (de_var 0)) (de_fld T.fc_letters (de_var 1))) (de_one (de_cmp od_eq (de_fld T.fc_moves (de_var 0)) (de_fld T.fc_moves (de_var 1)))))))
theorem o_need_memory (T : Txt P K mg a) (tb : Tbs base mg a) : Own (Gk K a) P w mg base 2 ("need_memory" : Str) a.f17 a.fd17 [("memory" : Str)] F_need_memory := by
  have hN : ([("memory" : Str)] : List Str).Nodup := by decide +kernel
  have sc : FnScope [("memory" : Str)] [("memory" : Str)] (defScope s17) := ⟨rfl, rfl, rfl, hN, rfl, by decide +kernel, by decide +kernel⟩
  refine ⟨fn_data (k := 1) (G := Gk K a) T.F17 sc rfl fun cdv A outer s H E hr => ?_, T.m17, T.F17.kp, T.F17.binds fun _ _ _ _ _ _ us hl => match us, hl with | [_], _ => rfl⟩
  show DSs (Gk K a) (cxD P w K mg base [("memory" : Str)] ("need_memory" : Str) (defScope s17) a.f17 cdv A outer s H E) (defBody s17) b_need_memory
  exact dss_one (ds_if (dt_not (dt_val (de_isiC T.kinds (C := a.D0) ic_Memory T.n_isinstance T.y0.gC (ih_Memory T) (de_var 0)))) (dss_one (ds_raiseF (k := 0) T.x1 (hr.mono (by decide)) (de_non))) (dss_nil))
theorem o_need_state (T : Txt P K mg a) (tb : Tbs base mg a) : Own (Gk K a) P w mg base 3 ("need_state" : Str) a.f18 a.fd18 [("memory" : Str), ("state" : Str)] F_need_state := by
  have hN : ([("memory" : Str), ("state" : Str)] : List Str).Nodup := by decide +kernel
  have sc : FnScope [("memory" : Str), ("state" : Str)] [("memory" : Str), ("state" : Str)] (defScope s18) := ⟨rfl, rfl, rfl, hN, rfl, by decide +kernel, by decide +kernel⟩
  refine ⟨fn_data (k := 2) (G := Gk K a) T.F18 sc rfl fun cdv A outer s H E hr => ?_, T.m18, T.F18.kp, T.F18.binds fun _ _ _ _ _ _ us hl => match us, hl with | [_, _], _ => rfl⟩
  show DSs (Gk K a) (cxD P w K mg base [("memory" : Str), ("state" : Str)] ("need_state" : Str) (defScope s18) a.f18 cdv A outer s H E) (defBody s18) b_need_state
  exact dss_one (ds_if (dt_not (dt_val (de_call (o_is_count T tb) hr (by decide) (da_cons (de_var 1) (da_cons (de_int) (da_cons (de_bin od_sub (de_lenO T.yl0 (o_Memory___len__ T tb) rfl hr (by decide) T.n_len (de_var 0)) (de_int)) (da_nil)))) (hlen := len_cons (len_cons (len_cons (len_nil))))))) (dss_one (ds_raise T.x3)) (dss_nil))
theorem o_is_word (T : Txt P K mg a) (tb : Tbs base mg a) : Own (Gk K a) P w mg base 1 ("is_word" : Str) a.f19 a.fd19 [("memory" : Str), ("thing" : Str)] F_is_word := by
  have hN : ([("memory" : Str), ("thing" : Str), ("one" : Str)] : List Str).Nodup := by decide +kernel
  have sc : FnScope [("memory" : Str), ("thing" : Str), ("one" : Str)] [("memory" : Str), ("thing" : Str)] (defScope s19) := ⟨rfl, rfl, rfl, hN, rfl, by decide +kernel, by decide +kernel⟩
  refine ⟨fn_data (k := 0) (G := Gk K a) T.F19 sc rfl fun cdv A outer s H E hr => ?_, T.m19, T.F19.kp, T.F19.binds fun _ _ _ _ _ _ us hl => match us, hl with | [_, _], _ => rfl⟩
  show DSs (Gk K a) (cxD P w K mg base [("memory" : Str), ("thing" : Str), ("one" : Str)] ("is_word" : Str) (defScope s19) a.f19 cdv A outer s H E) (defBody s19) b_is_word
  exact dss_one (ds_ret (de_and (de_isiT T.kinds (n := "tuple") T.n_isinstance T.n_tuple (de_var 1)) (de_one (de_callB cd_all T.n_all (da_cons (de_lc false hN (ix := [(("one" : Str), 2)]) (T := (.one 2)) (blkOk_by (N := [("memory" : Str), ("thing" : Str), ("one" : Str)]) (sc := defScope s19) (by decide +kernel)) (di_any (de_var 1)) (by decide) (fun _ _ _ _ _ _ => (pg_name hN rfl (by first | exact Or.inl rfl | exact Or.inr rfl) (by first | exact .inl rfl | exact .inr rfl))) (fun _ _ _ _ _ => dts_nil) (fun _ _ _ _ _ => de_and (de_isiT T.kinds (n := "str") T.n_isinstance T.n_str (de_var 2)) (de_one (de_cmp od_in (de_var 2) (de_fld T.fc_letters (de_var 0)))))) (da_nil))))))
theorem o_move_of (T : Txt P K mg a) (tb : Tbs base mg a) : Own (Gk K a) P w mg base 1 ("move_of" : Str) a.f20 a.fd20 [("memory" : Str), ("state" : Str), ("letter" : Str)] F_move_of := by
  have hN : ([("memory" : Str), ("state" : Str), ("letter" : Str)] : List Str).Nodup := by decide +kernel
  have sc : FnScope [("memory" : Str), ("state" : Str), ("letter" : Str)] [("memory" : Str), ("state" : Str), ("letter" : Str)] (defScope s20) := ⟨rfl, rfl, rfl, hN, rfl, by decide +kernel, by decide +kernel⟩
  refine ⟨fn_data (k := 0) (G := Gk K a) T.F20 sc rfl fun cdv A outer s H E hr => ?_, T.m20, T.F20.kp, T.F20.binds fun _ _ _ _ _ _ us hl => match us, hl with | [_, _, _], _ => rfl⟩
  show DSs (Gk K a) (cxD P w K mg base [("memory" : Str), ("state" : Str), ("letter" : Str)] ("move_of" : Str) (defScope s20) a.f20 cdv A outer s H E) (defBody s20) b_move_of
  exact dss_one (ds_ret (de_ix (de_ix (de_fld T.fc_moves (de_var 0)) (de_var 1)) (de_tm PySem.F.slot_tuple_index PySem.F.type_tuple_index md_tix (de_fld T.fc_letters (de_var 0)) (da_cons (de_var 2) (da_nil)))))
theorem o_stepped (T : Txt P K mg a) (tb : Tbs base mg a) : Own (Gk K a) P w mg base 4 ("stepped" : Str) a.f21 a.fd21 [("memory" : Str), ("state" : Str), ("letter" : Str)] F_stepped := by
  have hN : ([("memory" : Str), ("state" : Str), ("letter" : Str), ("after" : Str), ("one" : Str), ("other" : Str)] : List Str).Nodup := by decide +kernel
  have sc : FnScope [("memory" : Str), ("state" : Str), ("letter" : Str), ("after" : Str), ("one" : Str), ("other" : Str)] [("memory" : Str), ("state" : Str), ("letter" : Str)] (defScope s21) := ⟨rfl, rfl, rfl, hN, rfl, by decide +kernel, by decide +kernel⟩
  refine ⟨fn_data (k := 3) (G := Gk K a) T.F21 sc rfl fun cdv A outer s H E hr => ?_, T.m21, T.F21.kp, T.F21.binds fun _ _ _ _ _ _ us hl => match us, hl with | [_, _, _], _ => rfl⟩
  show DSs (Gk K a) (cxD P w K mg base [("memory" : Str), ("state" : Str), ("letter" : Str), ("after" : Str), ("one" : Str), ("other" : Str)] ("stepped" : Str) (defScope s21) a.f21 cdv A outer s H E) (defBody s21) b_stepped
  exact dss_cons (ds_expr (de_call (o_need_memory T tb) hr (by decide) (da_cons (de_var 0) (da_nil)) (hlen := len_cons (len_nil)))) (dss_cons (ds_expr (de_call (o_need_state T tb) hr (by decide) (da_cons (de_var 0) (da_cons (de_var 1) (da_nil))) (hlen := len_cons (len_cons (len_nil))))) (dss_cons (ds_if (dt_of (dw_or (dt_not (dt_val (de_isiT T.kinds (n := "str") T.n_isinstance T.n_str (de_var 2)))) (dw_or1 (dt_cmp od_notin (de_var 2) (de_fld T.fc_letters (de_var 0)))))) (dss_one (ds_raise T.x2)) (dss_nil)) (dss_cons (ds_asg (de_call (o_move_of T tb) hr (by decide) (da_cons (de_var 0) (da_cons (de_var 1) (da_cons (de_var 2) (da_nil)))) (hlen := len_cons (len_cons (len_cons (len_nil))))) (dg_tup (dgs_cons (dg_name 3 hN) (dgs_cons (dg_name 4 hN) (dgs_cons (dg_name 5 hN) (dgs_nil)))))) (dss_one (ds_ret (de_tup (da_cons (de_var 3) (da_cons (de_tup (da_cons (de_var 4) (da_cons (de_var 5) (da_nil)))) (da_nil)))))))))
theorem o_read_on (T : Txt P K mg a) (tb : Tbs base mg a) : Own (Gk K a) P w mg base 2 ("read_on" : Str) a.f22 a.fd22 [("memory" : Str), ("state" : Str), ("word" : Str)] F_read_on := by
  have hN : ([("memory" : Str), ("state" : Str), ("word" : Str), ("one" : Str), ("other" : Str), ("letter" : Str), ("more" : Str), ("less" : Str)] : List Str).Nodup := by decide +kernel
  have sc : FnScope [("memory" : Str), ("state" : Str), ("word" : Str), ("one" : Str), ("other" : Str), ("letter" : Str), ("more" : Str), ("less" : Str)] [("memory" : Str), ("state" : Str), ("word" : Str)] (defScope s22) := ⟨rfl, rfl, rfl, hN, rfl, by decide +kernel, by decide +kernel⟩
  refine ⟨fn_data (k := 1) (G := Gk K a) T.F22 sc rfl fun cdv A outer s H E hr => ?_, T.m22, T.F22.kp, T.F22.binds fun _ _ _ _ _ _ us hl => match us, hl with | [_, _, _], _ => rfl⟩
  show DSs (Gk K a) (cxD P w K mg base [("memory" : Str), ("state" : Str), ("word" : Str), ("one" : Str), ("other" : Str), ("letter" : Str), ("more" : Str), ("less" : Str)] ("read_on" : Str) (defScope s22) a.f22 cdv A outer s H E) (defBody s22) b_read_on
  exact dss_cons (ds_asg (de_tup (da_cons (de_int) (da_cons (de_int) (da_nil)))) (dg_tup (dgs_cons (dg_name 3 hN) (dgs_cons (dg_name 4 hN) (dgs_nil))))) (dss_cons (ds_for 4000 (di_any (de_var 2)) (dg_name 5 hN) (dss_cons (ds_asg (de_call (o_move_of T tb) hr (by decide) (da_cons (de_var 0) (da_cons (de_var 1) (da_cons (de_var 5) (da_nil)))) (hlen := len_cons (len_cons (len_cons (len_nil))))) (dg_tup (dgs_cons (dg_name 1 hN) (dgs_cons (dg_name 6 hN) (dgs_cons (dg_name 7 hN) (dgs_nil)))))) (dss_one (ds_par 3 4 hN (de_bin od_add (de_var 3) (de_var 6)) (de_bin od_add (de_var 4) (de_var 7)))))) (dss_one (ds_ret (de_tup (da_cons (de_var 1) (da_cons (de_tup (da_cons (de_var 3) (da_cons (de_var 4) (da_nil)))) (da_nil)))))))
theorem o_read (T : Txt P K mg a) (tb : Tbs base mg a) : Own (Gk K a) P w mg base 4 ("read" : Str) a.f23 a.fd23 [("memory" : Str), ("state" : Str), ("word" : Str)] F_read := by
  have hN : ([("memory" : Str), ("state" : Str), ("word" : Str)] : List Str).Nodup := by decide +kernel
  have sc : FnScope [("memory" : Str), ("state" : Str), ("word" : Str)] [("memory" : Str), ("state" : Str), ("word" : Str)] (defScope s23) := ⟨rfl, rfl, rfl, hN, rfl, by decide +kernel, by decide +kernel⟩
  refine ⟨fn_data (k := 3) (G := Gk K a) T.F23 sc rfl fun cdv A outer s H E hr => ?_, T.m23, T.F23.kp, T.F23.binds fun _ _ _ _ _ _ us hl => match us, hl with | [_, _, _], _ => rfl⟩
  show DSs (Gk K a) (cxD P w K mg base [("memory" : Str), ("state" : Str), ("word" : Str)] ("read" : Str) (defScope s23) a.f23 cdv A outer s H E) (defBody s23) b_read
  exact dss_cons (ds_expr (de_call (o_need_memory T tb) hr (by decide) (da_cons (de_var 0) (da_nil)) (hlen := len_cons (len_nil)))) (dss_cons (ds_expr (de_call (o_need_state T tb) hr (by decide) (da_cons (de_var 0) (da_cons (de_var 1) (da_nil))) (hlen := len_cons (len_cons (len_nil))))) (dss_cons (ds_if (dt_not (dt_val (de_call (o_is_word T tb) hr (by decide) (da_cons (de_var 0) (da_cons (de_var 2) (da_nil))) (hlen := len_cons (len_cons (len_nil)))))) (dss_one (ds_raise T.x4)) (dss_nil)) (dss_one (ds_ret (de_call (o_read_on T tb) hr (by decide) (da_cons (de_var 0) (da_cons (de_var 1) (da_cons (de_var 2) (da_nil)))) (hlen := len_cons (len_cons (len_cons (len_nil)))))))))
theorem o_negated (T : Txt P K mg a) (tb : Tbs base mg a) : Own (Gk K a) P w mg base 6 ("negated" : Str) a.f24 a.fd24 [("memory" : Str)] F_negated := by
  have hN : ([("memory" : Str), ("rows" : Str), ("row" : Str), ("after" : Str), ("one" : Str), ("other" : Str)] : List Str).Nodup := by decide +kernel
  have sc : FnScope [("memory" : Str), ("rows" : Str), ("row" : Str), ("after" : Str), ("one" : Str), ("other" : Str)] [("memory" : Str)] (defScope s24) := ⟨rfl, rfl, rfl, hN, rfl, by decide +kernel, by decide +kernel⟩
  refine ⟨fn_data (k := 5) (G := Gk K a) T.F24 sc rfl fun cdv A outer s H E hr => ?_, T.m24, T.F24.kp, T.F24.binds fun _ _ _ _ _ _ us hl => match us, hl with | [_], _ => rfl⟩
  show DSs (Gk K a) (cxD P w K mg base [("memory" : Str), ("rows" : Str), ("row" : Str), ("after" : Str), ("one" : Str), ("other" : Str)] ("negated" : Str) (defScope s24) a.f24 cdv A outer s H E) (defBody s24) b_negated
  exact dss_cons (ds_expr (de_call (o_need_memory T tb) hr (by decide) (da_cons (de_var 0) (da_nil)) (hlen := len_cons (len_nil)))) (dss_cons (ds_set 1 hN (de_lstO (da_nil))) (dss_cons (ds_for 4000 (di_any (de_fld T.fc_moves (de_var 0))) (dg_name 2 hN) (dss_one (ds_expr (de_mt PySem.F.slot_list_append PySem.F.type_list_append md_app (de_var 1) (da_cons (de_callTy cd_tuple T.n_tuple (da_cons (de_lc false hN (ix := [(("after" : Str), 3), (("one" : Str), 4), (("other" : Str), 5)]) (T := (.tup [3, 4, 5])) (blkOk_by (N := [("memory" : Str), ("rows" : Str), ("row" : Str), ("after" : Str), ("one" : Str), ("other" : Str)]) (sc := defScope s24) (by decide +kernel)) (di_any (de_var 2)) (by decide) (fun _ _ _ _ _ hc => pg_tup hc (pgs_cons (pg_name hN rfl (by first | exact Or.inl rfl | exact Or.inr rfl) (by first | exact .inl rfl | exact .inr rfl)) (pgs_cons (pg_name hN rfl (by first | exact Or.inl rfl | exact Or.inr rfl) (by first | exact .inl rfl | exact .inr rfl)) (pgs_cons (pg_name hN rfl (by first | exact Or.inl rfl | exact Or.inr rfl) (by first | exact .inl rfl | exact .inr rfl)) pgs_nil)))) (fun _ _ _ _ _ => dts_nil) (fun _ _ _ _ _ => de_tup (da_cons (de_var 3) (da_cons (de_neg (de_var 4)) (da_cons (de_neg (de_var 5)) (da_nil)))))) (da_nil))) (da_nil)))))) (dss_one (ds_ret (de_newF T.y0 (o_Memory___init__ T tb) hr (by decide) (da_cons (de_fld T.fc_letters (de_var 0)) (da_cons (de_callTy cd_tuple T.n_tuple (da_cons (de_var 1) (da_nil))) (da_nil))) T.yk0 (hlen := len_cons (len_cons (len_nil))))))))
theorem o__law_begun (T : Txt P K mg a) (tb : Tbs base mg a) : Own (Gk K a) P w mg base 1 ("_law_begun" : Str) a.f26 a.fd26 [("_law_script" : Str)] F__law_begun := by
  have hN : ([("_law_script" : Str), ("_law_great" : Str), ("_law_cell" : Str)] : List Str).Nodup := by decide +kernel
  have sc : FnScope [("_law_script" : Str), ("_law_great" : Str), ("_law_cell" : Str)] [("_law_script" : Str)] (defScope s26) := ⟨rfl, rfl, rfl, hN, rfl, by decide +kernel, by decide +kernel⟩
  refine ⟨fn_data (k := 0) (G := Gk K a) T.F26 sc rfl fun cdv A outer s H E hr => ?_, T.m26, T.F26.kp, T.F26.binds fun _ _ _ _ _ _ us hl => match us, hl with | [_], _ => rfl⟩
  show DSs (Gk K a) (cxD P w K mg base [("_law_script" : Str), ("_law_great" : Str), ("_law_cell" : Str)] ("_law_begun" : Str) (defScope s26) a.f26 cdv A outer s H E) (defBody s26) b__law_begun
  exact dss_cons (ds_setLc true 1 hN (ix := [(("_law_cell" : Str), 2)]) (T := (.one 2)) (blkOk_by (N := [("_law_script" : Str), ("_law_great" : Str), ("_law_cell" : Str)]) (sc := defScope s26) (by decide +kernel)) (di_any (de_var 0)) (by decide) (fun _ _ _ _ _ _ => (pg_name hN rfl (by first | exact Or.inl rfl | exact Or.inr rfl) (by first | exact .inl rfl | exact .inr rfl))) (fun _ _ _ _ _ => dts_one (dt_cmp od_ge (de_callB cd_abs T.n_abs (da_cons (de_var 2) (da_nil))) (de_bin od_pow (de_int) (de_int)))) (fun _ _ _ _ _ => de_bin od_sub (de_callB cd_abs T.n_abs (da_cons (de_var 2) (da_nil))) (de_bin od_pow (de_int) (de_int)))) (dss_one (ds_ret (de_disp true (PrD.cons (de_str) (de_var 1) (PrD.cons (de_str) (de_lc false hN (ix := [(("_law_cell" : Str), 2)]) (T := (.one 2)) (blkOk_by (N := [("_law_script" : Str), ("_law_great" : Str), ("_law_cell" : Str)]) (sc := defScope s26) (by decide +kernel)) (di_any (de_var 0)) (by decide) (fun _ _ _ _ _ _ => (pg_name hN rfl (by first | exact Or.inl rfl | exact Or.inr rfl) (by first | exact .inl rfl | exact .inr rfl))) (fun _ _ _ _ _ => dts_nil) (fun _ _ _ _ _ => de_bin od_mod (de_callTy cd_int T.n_int (da_cons (de_callB cd_abs T.n_abs (da_cons (de_var 2) (da_nil))) (da_nil))) (de_int))) (PrD.cons (de_str) (de_int) (PrD.cons (de_str) (de_int) (PrD.nil))))))))
theorem o__law_mixed (T : Txt P K mg a) (tb : Tbs base mg a) : Own (Gk K a) P w mg base 1 ("_law_mixed" : Str) a.f27 a.fd27 [("_law_draw" : Str)] F__law_mixed := by
  have hN : ([("_law_draw" : Str), ("_law_turn" : Str), ("_law_found" : Str), ("_law_prime" : Str), ("_law_blend" : Str), ("_law_cell" : Str)] : List Str).Nodup := by decide +kernel
  have sc : FnScope [("_law_draw" : Str), ("_law_turn" : Str), ("_law_found" : Str), ("_law_prime" : Str), ("_law_blend" : Str), ("_law_cell" : Str)] [("_law_draw" : Str)] (defScope s27) := ⟨rfl, rfl, rfl, hN, rfl, by decide +kernel, by decide +kernel⟩
  refine ⟨fn_data (k := 0) (G := Gk K a) T.F27 sc rfl fun cdv A outer s H E hr => ?_, T.m27, T.F27.kp, T.F27.binds fun _ _ _ _ _ _ us hl => match us, hl with | [_], _ => rfl⟩
  show DSs (Gk K a) (cxD P w K mg base [("_law_draw" : Str), ("_law_turn" : Str), ("_law_found" : Str), ("_law_prime" : Str), ("_law_blend" : Str), ("_law_cell" : Str)] ("_law_mixed" : Str) (defScope s27) a.f27 cdv A outer s H E) (defBody s27) b__law_mixed
  exact dss_cons (ds_par 1 2 hN (de_bin od_add (de_dget (de_var 0) (de_str)) (de_int)) (de_int)) (dss_cons (ds_dput (de_var 0) (de_str) (de_var 1)) (dss_cons (ds_for 4000 (di_list (de_lst (da_cons (de_int) (da_cons (de_int) (da_cons (de_int) (da_cons (de_int) (da_nil))))))) (dg_name 3 hN) (dss_cons (ds_set 4 hN (de_bin od_add (de_bin od_mul (de_int) (de_var 1)) (de_bin od_div (de_var 3) (de_int)))) (dss_cons (ds_for 4000 (di_list (de_dget (de_var 0) (de_str))) (dg_name 5 hN) (dss_one (ds_set 4 hN (de_bin od_mod (de_callTy cd_int T.n_int (da_cons (de_bin od_add (de_bin od_add (de_bin od_mul (de_var 4) (de_int)) (de_var 5)) (de_var 1)) (da_nil))) (de_var 3))))) (dss_one (ds_set 2 hN (de_bin od_add (de_bin od_mul (de_var 2) (de_int)) (de_bin od_mod (de_callTy cd_int T.n_int (da_cons (de_bin od_pow (de_var 4) (de_int)) (da_nil))) (de_var 3)))))))) (dss_one (ds_ret (de_var 2)))))
theorem o__law_take (T : Txt P K mg a) (tb : Tbs base mg a) : Own (Gk K a) P w mg base 2 ("_law_take" : Str) a.f28 a.fd28 [("_law_draw" : Str), ("_law_many" : Str)] F__law_take := by
  have hN : ([("_law_draw" : Str), ("_law_many" : Str), ("_law_found" : Str)] : List Str).Nodup := by decide +kernel
  have sc : FnScope [("_law_draw" : Str), ("_law_many" : Str), ("_law_found" : Str)] [("_law_draw" : Str), ("_law_many" : Str)] (defScope s28) := ⟨rfl, rfl, rfl, hN, rfl, by decide +kernel, by decide +kernel⟩
  refine ⟨fn_data (k := 1) (G := Gk K a) T.F28 sc rfl fun cdv A outer s H E hr => ?_, T.m28, T.F28.kp, T.F28.binds fun _ _ _ _ _ _ us hl => match us, hl with | [_, _], _ => rfl⟩
  show DSs (Gk K a) (cxD P w K mg base [("_law_draw" : Str), ("_law_many" : Str), ("_law_found" : Str)] ("_law_take" : Str) (defScope s28) a.f28 cdv A outer s H E) (defBody s28) b__law_take
  exact dss_cons (ds_if (dt_cmp od_eq (de_dget (de_var 0) (de_str)) (de_int)) (dss_one (ds_dput (de_var 0) (de_str) (de_if (dt_cmp od_ne (de_dget (de_var 0) (de_str)) (de_lst (da_nil))) (de_mt PySem.F.slot_list_pop PySem.F.type_list_pop md_popAt (de_dget (de_var 0) (de_str)) (da_cons (de_int) (da_nil))) (de_call (o__law_mixed T tb) hr (by decide) (da_cons (de_var 0) (da_nil)) (hlen := len_cons (len_nil)))))) (dss_nil)) (dss_cons (ds_set 2 hN (de_bin od_mod (de_callTy cd_int T.n_int (da_cons (de_dget (de_var 0) (de_str)) (da_nil))) (de_var 1))) (dss_cons (ds_dput (de_var 0) (de_str) (de_bin od_div (de_dget (de_var 0) (de_str)) (de_var 1))) (dss_one (ds_ret (de_var 2)))))
theorem o__law_pick (T : Txt P K mg a) (tb : Tbs base mg a) : Own (Gk K a) P w mg base 3 ("_law_pick" : Str) a.f29 a.fd29 [("_law_draw" : Str), ("_law_some" : Str)] F__law_pick := by
  have hN : ([("_law_draw" : Str), ("_law_some" : Str)] : List Str).Nodup := by decide +kernel
  have sc : FnScope [("_law_draw" : Str), ("_law_some" : Str)] [("_law_draw" : Str), ("_law_some" : Str)] (defScope s29) := ⟨rfl, rfl, rfl, hN, rfl, by decide +kernel, by decide +kernel⟩
  refine ⟨fn_data (k := 2) (G := Gk K a) T.F29 sc rfl fun cdv A outer s H E hr => ?_, T.m29, T.F29.kp, T.F29.binds fun _ _ _ _ _ _ us hl => match us, hl with | [_, _], _ => rfl⟩
  show DSs (Gk K a) (cxD P w K mg base [("_law_draw" : Str), ("_law_some" : Str)] ("_law_pick" : Str) (defScope s29) a.f29 cdv A outer s H E) (defBody s29) b__law_pick
  exact dss_one (ds_ret (de_ix (de_var 1) (de_call (o__law_take T tb) hr (by decide) (da_cons (de_var 0) (da_cons (de_callB cd_len T.n_len (da_cons (de_var 1) (da_nil))) (da_nil))) (hlen := len_cons (len_cons (len_nil))))))
theorem o__law_sign (T : Txt P K mg a) (tb : Tbs base mg a) : Own (Gk K a) P w mg base 4 ("_law_sign" : Str) a.f31 a.fd31 [("_law_draw" : Str)] F__law_sign := by
  have hN : ([("_law_draw" : Str), ("_law_wide" : Str), ("_law_turn" : Str)] : List Str).Nodup := by decide +kernel
  have sc : FnScope [("_law_draw" : Str), ("_law_wide" : Str), ("_law_turn" : Str)] [("_law_draw" : Str)] (defScope s31) := ⟨rfl, rfl, rfl, hN, rfl, by decide +kernel, by decide +kernel⟩
  refine ⟨fn_data (k := 3) (G := Gk K a) T.F31 sc rfl fun cdv A outer s H E hr => ?_, T.m31, T.F31.kp, T.F31.binds fun _ _ _ _ _ _ us hl => match us, hl with | [_], _ => rfl⟩
  show DSs (Gk K a) (cxD P w K mg base [("_law_draw" : Str), ("_law_wide" : Str), ("_law_turn" : Str)] ("_law_sign" : Str) (defScope s31) a.f31 cdv A outer s H E) (defBody s31) b__law_sign
  exact dss_cons (ds_set 1 hN (de_call (o__law_pick T tb) hr (by decide) (da_cons (de_var 0) (da_cons (de_lst (da_cons (de_int) (da_cons (de_int) (da_cons (de_int) (da_cons (de_int) (da_cons (de_int) (da_cons (de_int) (da_nil)))))))) (da_nil))) (hlen := len_cons (len_cons (len_nil))))) (dss_one (ds_ret (de_sm PySem.F.slot_str_join PySem.F.type_str_join md_join (de_str) (da_cons (de_lc false hN (ix := [(("_law_turn" : Str), 2)]) (T := (.one 2)) (blkOk_by (N := [("_law_draw" : Str), ("_law_wide" : Str), ("_law_turn" : Str)]) (sc := defScope s31) (by decide +kernel)) (di_range1 T.n_range (da_cons (de_var 1) (da_nil))) (by decide) (fun _ _ _ _ _ _ => (pg_name hN rfl (by first | exact Or.inl rfl | exact Or.inr rfl) (by first | exact .inl rfl | exact .inr rfl))) (fun _ _ _ _ _ => dts_nil) (fun _ _ _ _ _ => de_call (o__law_pick T tb) hr (by decide) (da_cons (de_var 0) (da_cons (de_str) (da_nil))) (hlen := len_cons (len_cons (len_nil))))) (da_nil)))))
theorem o__law_signs (T : Txt P K mg a) (tb : Tbs base mg a) : Own (Gk K a) P w mg base 5 ("_law_signs" : Str) a.f32 a.fd32 [("_law_draw" : Str), ("_law_many" : Str)] F__law_signs := by
  have hN : ([("_law_draw" : Str), ("_law_many" : Str), ("_law_found" : Str), ("_law_turn" : Str), ("_law_sign_here" : Str), ("_law_spare" : Str), ("_law_mark" : Str), ("_law_one" : Str)] : List Str).Nodup := by decide +kernel
  have sc : FnScope [("_law_draw" : Str), ("_law_many" : Str), ("_law_found" : Str), ("_law_turn" : Str), ("_law_sign_here" : Str), ("_law_spare" : Str), ("_law_mark" : Str), ("_law_one" : Str)] [("_law_draw" : Str), ("_law_many" : Str)] (defScope s32) := ⟨rfl, rfl, rfl, hN, rfl, by decide +kernel, by decide +kernel⟩
  refine ⟨fn_data (k := 4) (G := Gk K a) T.F32 sc rfl fun cdv A outer s H E hr => ?_, T.m32, T.F32.kp, T.F32.binds fun _ _ _ _ _ _ us hl => match us, hl with | [_, _], _ => rfl⟩
  show DSs (Gk K a) (cxD P w K mg base [("_law_draw" : Str), ("_law_many" : Str), ("_law_found" : Str), ("_law_turn" : Str), ("_law_sign_here" : Str), ("_law_spare" : Str), ("_law_mark" : Str), ("_law_one" : Str)] ("_law_signs" : Str) (defScope s32) a.f32 cdv A outer s H E) (defBody s32) b__law_signs
  exact dss_cons (ds_set 2 hN (de_lstO (da_nil))) (dss_cons (ds_for 4000 (di_range1 T.n_range (da_cons (de_var 1) (da_nil))) (dg_name 3 hN) (dss_cons (ds_set 4 hN (de_call (o__law_sign T tb) hr (by decide) (da_cons (de_var 0) (da_nil)) (hlen := len_cons (len_nil)))) (dss_cons (ds_set 5 hN (de_bin od_add (de_lst (da_cons (de_var 4) (da_nil))) (de_lc false hN (ix := [(("_law_mark" : Str), 6)]) (T := (.one 6)) (blkOk_by (N := [("_law_draw" : Str), ("_law_many" : Str), ("_law_found" : Str), ("_law_turn" : Str), ("_law_sign_here" : Str), ("_law_spare" : Str), ("_law_mark" : Str), ("_law_one" : Str)]) (sc := defScope s32) (by decide +kernel)) (di_str (de_str)) (by decide) (fun _ _ _ _ _ _ => (pg_name hN rfl (by first | exact Or.inl rfl | exact Or.inr rfl) (by first | exact .inl rfl | exact .inr rfl))) (fun _ _ _ _ _ => dts_nil) (fun _ _ _ _ _ => de_bin od_add (de_slice (de_var 4) (do_none) (do_some (de_int))) (de_var 6))))) (dss_one (ds_expr (de_mt PySem.F.slot_list_append PySem.F.type_list_append md_app (de_var 2) (da_cons (de_ix (de_lc false hN (ix := [(("_law_one" : Str), 7)]) (T := (.one 7)) (blkOk_by (N := [("_law_draw" : Str), ("_law_many" : Str), ("_law_found" : Str), ("_law_turn" : Str), ("_law_sign_here" : Str), ("_law_spare" : Str), ("_law_mark" : Str), ("_law_one" : Str)]) (sc := defScope s32) (by decide +kernel)) (di_any (de_var 5)) (by decide) (fun _ _ _ _ _ _ => (pg_name hN rfl (by first | exact Or.inl rfl | exact Or.inr rfl) (by first | exact .inl rfl | exact .inr rfl))) (fun _ _ _ _ _ => dts_one (dt_cmp od_notin (de_var 7) (de_var 2))) (fun _ _ _ _ _ => de_var 7)) (de_int)) (da_nil)))))))) (dss_one (ds_ret (de_callTy cd_tuple T.n_tuple (da_cons (de_callB cd_sorted T.n_sorted (da_cons (de_var 2) (da_nil))) (da_nil))))))
theorem o__law_cost (T : Txt P K mg a) (tb : Tbs base mg a) : Own (Gk K a) P w mg base 3 ("_law_cost" : Str) a.f33 a.fd33 [("_law_draw" : Str), ("_law_peak" : Str)] F__law_cost := by
  have hN : ([("_law_draw" : Str), ("_law_peak" : Str)] : List Str).Nodup := by decide +kernel
  have sc : FnScope [("_law_draw" : Str), ("_law_peak" : Str)] [("_law_draw" : Str), ("_law_peak" : Str)] (defScope s33) := ⟨rfl, rfl, rfl, hN, rfl, by decide +kernel, by decide +kernel⟩
  refine ⟨fn_data (k := 2) (G := Gk K a) T.F33 sc rfl fun cdv A outer s H E hr => ?_, T.m33, T.F33.kp, T.F33.binds fun _ _ _ _ _ _ us hl => match us, hl with | [_, _], _ => rfl⟩
  show DSs (Gk K a) (cxD P w K mg base [("_law_draw" : Str), ("_law_peak" : Str)] ("_law_cost" : Str) (defScope s33) a.f33 cdv A outer s H E) (defBody s33) b__law_cost
  exact dss_one (ds_ret (de_bin od_sub (de_call (o__law_take T tb) hr (by decide) (da_cons (de_var 0) (da_cons (de_bin od_add (de_bin od_mul (de_int) (de_var 1)) (de_int)) (da_nil))) (hlen := len_cons (len_cons (len_nil)))) (de_var 1)))
theorem o__law_grid (T : Txt P K mg a) (tb : Tbs base mg a) : Own (Gk K a) P w mg base 4 ("_law_grid" : Str) a.f34 a.fd34 [("_law_draw" : Str), ("_law_many" : Str), ("_law_wide" : Str), ("_law_peak" : Str)] F__law_grid := by
  have hN : ([("_law_draw" : Str), ("_law_many" : Str), ("_law_wide" : Str), ("_law_peak" : Str), ("_law_grid_here" : Str), ("_law_turn" : Str), ("_law_one" : Str)] : List Str).Nodup := by decide +kernel
  have sc : FnScope [("_law_draw" : Str), ("_law_many" : Str), ("_law_wide" : Str), ("_law_peak" : Str), ("_law_grid_here" : Str), ("_law_turn" : Str), ("_law_one" : Str)] [("_law_draw" : Str), ("_law_many" : Str), ("_law_wide" : Str), ("_law_peak" : Str)] (defScope s34) := ⟨rfl, rfl, rfl, hN, rfl, by decide +kernel, by decide +kernel⟩
  refine ⟨fn_data (k := 3) (G := Gk K a) T.F34 sc rfl fun cdv A outer s H E hr => ?_, T.m34, T.F34.kp, T.F34.binds fun _ _ _ _ _ _ us hl => match us, hl with | [_, _, _, _], _ => rfl⟩
  show DSs (Gk K a) (cxD P w K mg base [("_law_draw" : Str), ("_law_many" : Str), ("_law_wide" : Str), ("_law_peak" : Str), ("_law_grid_here" : Str), ("_law_turn" : Str), ("_law_one" : Str)] ("_law_grid" : Str) (defScope s34) a.f34 cdv A outer s H E) (defBody s34) b__law_grid
  exact dss_cons (ds_set 4 hN (de_lstO (da_nil))) (dss_cons (ds_for 4000 (di_range1 T.n_range (da_cons (de_var 1) (da_nil))) (dg_name 5 hN) (dss_one (ds_expr (de_mt PySem.F.slot_list_append PySem.F.type_list_append md_app (de_var 4) (da_cons (de_callTy cd_tuple T.n_tuple (da_cons (de_lc false hN (ix := [(("_law_one" : Str), 6)]) (T := (.one 6)) (blkOk_by (N := [("_law_draw" : Str), ("_law_many" : Str), ("_law_wide" : Str), ("_law_peak" : Str), ("_law_grid_here" : Str), ("_law_turn" : Str), ("_law_one" : Str)]) (sc := defScope s34) (by decide +kernel)) (di_range1 T.n_range (da_cons (de_var 2) (da_nil))) (by decide) (fun _ _ _ _ _ _ => (pg_name hN rfl (by first | exact Or.inl rfl | exact Or.inr rfl) (by first | exact .inl rfl | exact .inr rfl))) (fun _ _ _ _ _ => dts_nil) (fun _ _ _ _ _ => de_tup (da_cons (de_call (o__law_take T tb) hr (by decide) (da_cons (de_var 0) (da_cons (de_var 1) (da_nil))) (hlen := len_cons (len_cons (len_nil)))) (da_cons (de_call (o__law_cost T tb) hr (by decide) (da_cons (de_var 0) (da_cons (de_var 3) (da_nil))) (hlen := len_cons (len_cons (len_nil)))) (da_cons (de_call (o__law_cost T tb) hr (by decide) (da_cons (de_var 0) (da_cons (de_var 3) (da_nil))) (hlen := len_cons (len_cons (len_nil)))) (da_nil)))))) (da_nil))) (da_nil)))))) (dss_one (ds_ret (de_callTy cd_tuple T.n_tuple (da_cons (de_var 4) (da_nil))))))
theorem o__law_went (T : Txt P K mg a) (tb : Tbs base mg a) : Own (Gk K a) P w mg base 1 ("_law_went" : Str) a.f35 a.fd35 [("_law_signs_here" : Str), ("_law_grid_here" : Str), ("_law_here" : Str), ("_law_row" : Str)] F__law_went := by
  have hN : ([("_law_signs_here" : Str), ("_law_grid_here" : Str), ("_law_here" : Str), ("_law_row" : Str), ("_law_one" : Str), ("_law_two" : Str), ("_law_sign_here" : Str), ("_law_move" : Str)] : List Str).Nodup := by decide +kernel
  have sc : FnScope [("_law_signs_here" : Str), ("_law_grid_here" : Str), ("_law_here" : Str), ("_law_row" : Str), ("_law_one" : Str), ("_law_two" : Str), ("_law_sign_here" : Str), ("_law_move" : Str)] [("_law_signs_here" : Str), ("_law_grid_here" : Str), ("_law_here" : Str), ("_law_row" : Str)] (defScope s35) := ⟨rfl, rfl, rfl, hN, rfl, by decide +kernel, by decide +kernel⟩
  refine ⟨fn_data (k := 0) (G := Gk K a) T.F35 sc rfl fun cdv A outer s H E hr => ?_, T.m35, T.F35.kp, T.F35.binds fun _ _ _ _ _ _ us hl => match us, hl with | [_, _, _, _], _ => rfl⟩
  show DSs (Gk K a) (cxD P w K mg base [("_law_signs_here" : Str), ("_law_grid_here" : Str), ("_law_here" : Str), ("_law_row" : Str), ("_law_one" : Str), ("_law_two" : Str), ("_law_sign_here" : Str), ("_law_move" : Str)] ("_law_went" : Str) (defScope s35) a.f35 cdv A outer s H E) (defBody s35) b__law_went
  exact dss_cons (ds_asg (de_tup (da_cons (de_int) (da_cons (de_int) (da_nil)))) (dg_tup (dgs_cons (dg_name 4 hN) (dgs_cons (dg_name 5 hN) (dgs_nil))))) (dss_cons (ds_for 4000 (di_any (de_var 3)) (dg_name 6 hN) (dss_cons (ds_set 7 hN (de_ix (de_ix (de_var 1) (de_var 2)) (de_tm PySem.F.slot_tuple_index PySem.F.type_tuple_index md_tix (de_var 0) (da_cons (de_var 6) (da_nil))))) (dss_one (ds_par3 2 4 5 hN (de_ix (de_var 7) (de_int)) (de_bin od_add (de_var 4) (de_ix (de_var 7) (de_int))) (de_bin od_add (de_var 5) (de_ix (de_var 7) (de_int))))))) (dss_one (ds_ret (de_tup (da_cons (de_var 2) (da_cons (de_tup (da_cons (de_var 4) (da_cons (de_var 5) (da_nil)))) (da_nil)))))))
theorem o__law_text (T : Txt P K mg a) (tb : Tbs base mg a) : Own (Gk K a) P w mg base 4 ("_law_text" : Str) a.f36 a.fd36 [("_law_draw" : Str), ("_law_signs_here" : Str)] F__law_text := by
  have hN : ([("_law_draw" : Str), ("_law_signs_here" : Str), ("_law_some" : Str), ("_law_many" : Str), ("_law_turn" : Str)] : List Str).Nodup := by decide +kernel
  have sc : FnScope [("_law_draw" : Str), ("_law_signs_here" : Str), ("_law_some" : Str), ("_law_many" : Str), ("_law_turn" : Str)] [("_law_draw" : Str), ("_law_signs_here" : Str)] (defScope s36) := ⟨rfl, rfl, rfl, hN, rfl, by decide +kernel, by decide +kernel⟩
  refine ⟨fn_data (k := 3) (G := Gk K a) T.F36 sc rfl fun cdv A outer s H E hr => ?_, T.m36, T.F36.kp, T.F36.binds fun _ _ _ _ _ _ us hl => match us, hl with | [_, _], _ => rfl⟩
  show DSs (Gk K a) (cxD P w K mg base [("_law_draw" : Str), ("_law_signs_here" : Str), ("_law_some" : Str), ("_law_many" : Str), ("_law_turn" : Str)] ("_law_text" : Str) (defScope s36) a.f36 cdv A outer s H E) (defBody s36) b__law_text
  exact dss_cons (ds_if (dt_cmp od_eq (de_call (o__law_take T tb) hr (by decide) (da_cons (de_var 0) (da_cons (de_int) (da_nil))) (hlen := len_cons (len_cons (len_nil)))) (de_int)) (dss_cons (ds_setLc false 2 hN (ix := [(("_law_turn" : Str), 4)]) (T := (.one 4)) (blkOk_by (N := [("_law_draw" : Str), ("_law_signs_here" : Str), ("_law_some" : Str), ("_law_many" : Str), ("_law_turn" : Str)]) (sc := defScope s36) (by decide +kernel)) (di_range1 T.n_range (da_cons (de_bin od_add (de_int) (de_call (o__law_take T tb) hr (by decide) (da_cons (de_var 0) (da_cons (de_int) (da_nil))) (hlen := len_cons (len_cons (len_nil))))) (da_nil))) (by decide) (fun _ _ _ _ _ _ => (pg_name hN rfl (by first | exact Or.inl rfl | exact Or.inr rfl) (by first | exact .inl rfl | exact .inr rfl))) (fun _ _ _ _ _ => dts_nil) (fun _ _ _ _ _ => de_call (o__law_pick T tb) hr (by decide) (da_cons (de_var 0) (da_cons (de_var 1) (da_nil))) (hlen := len_cons (len_cons (len_nil))))) (dss_one (ds_ret (de_callTy cd_tuple T.n_tuple (da_cons (de_slice (de_bin od_mul (de_var 2) (de_int)) (do_none) (do_some (de_int))) (da_nil)))))) (dss_nil)) (dss_cons (ds_set 3 hN (de_call (o__law_take T tb) hr (by decide) (da_cons (de_var 0) (da_cons (de_call (o__law_pick T tb) hr (by decide) (da_cons (de_var 0) (da_cons (de_lst (da_cons (de_int) (da_cons (de_int) (da_cons (de_int) (da_cons (de_int) (da_cons (de_int) (da_nil))))))) (da_nil))) (hlen := len_cons (len_cons (len_nil)))) (da_nil))) (hlen := len_cons (len_cons (len_nil))))) (dss_one (ds_ret (de_callTy cd_tuple T.n_tuple (da_cons (de_lc false hN (ix := [(("_law_turn" : Str), 4)]) (T := (.one 4)) (blkOk_by (N := [("_law_draw" : Str), ("_law_signs_here" : Str), ("_law_some" : Str), ("_law_many" : Str), ("_law_turn" : Str)]) (sc := defScope s36) (by decide +kernel)) (di_range1 T.n_range (da_cons (de_var 3) (da_nil))) (by decide) (fun _ _ _ _ _ _ => (pg_name hN rfl (by first | exact Or.inl rfl | exact Or.inr rfl) (by first | exact .inl rfl | exact .inr rfl))) (fun _ _ _ _ _ => dts_nil) (fun _ _ _ _ _ => de_call (o__law_pick T tb) hr (by decide) (da_cons (de_var 0) (da_cons (de_var 1) (da_nil))) (hlen := len_cons (len_cons (len_nil))))) (da_nil))))))
theorem o__law_strange (T : Txt P K mg a) (tb : Tbs base mg a) : Own (Gk K a) P w mg base 1 ("_law_strange" : Str) a.f37 a.fd37 [("_law_signs_here" : Str)] F__law_strange := by
  have hN : ([("_law_signs_here" : Str), ("_law_one" : Str)] : List Str).Nodup := by decide +kernel
  have sc : FnScope [("_law_signs_here" : Str), ("_law_one" : Str)] [("_law_signs_here" : Str)] (defScope s37) := ⟨rfl, rfl, rfl, hN, rfl, by decide +kernel, by decide +kernel⟩
  refine ⟨fn_data (k := 0) (G := Gk K a) T.F37 sc rfl fun cdv A outer s H E hr => ?_, T.m37, T.F37.kp, T.F37.binds fun _ _ _ _ _ _ us hl => match us, hl with | [_], _ => rfl⟩
  show DSs (Gk K a) (cxD P w K mg base [("_law_signs_here" : Str), ("_law_one" : Str)] ("_law_strange" : Str) (defScope s37) a.f37 cdv A outer s H E) (defBody s37) b__law_strange
  exact dss_one (ds_ret (de_ix (de_lc false hN (ix := [(("_law_one" : Str), 1)]) (T := (.one 1)) (blkOk_by (N := [("_law_signs_here" : Str), ("_law_one" : Str)]) (sc := defScope s37) (by decide +kernel)) (di_list (de_lst (da_cons (de_str) (da_cons (de_str) (da_cons (de_str) (da_cons (de_str) (da_cons (de_str) (da_nil)))))))) (by decide) (fun _ _ _ _ _ _ => (pg_name hN rfl (by first | exact Or.inl rfl | exact Or.inr rfl) (by first | exact .inl rfl | exact .inr rfl))) (fun _ _ _ _ _ => dts_one (dt_cmp od_notin (de_var 1) (de_var 0))) (fun _ _ _ _ _ => de_var 1)) (de_int)))
theorem o__law_refusals (T : Txt P K mg a) (tb : Tbs base mg a) : Own (Gk K a) P w mg base 9 ("_law_refusals" : Str) a.f38 a.fd38 [("_law_draw" : Str), ("_law_store" : Str), ("_law_signs_here" : Str), ("_law_grid_here" : Str), ("_law_row" : Str)] F__law_refusals := by
  have hN : ([("_law_draw" : Str), ("_law_store" : Str), ("_law_signs_here" : Str), ("_law_grid_here" : Str), ("_law_row" : Str), ("_law_k" : Str), ("_law_some" : Str), ("_law_error" : Str), ("_law_away" : Str), ("_law_here" : Str), ("_law_item" : Str), ("_law_odd" : Str), ("_law_sign_here" : Str)] : List Str).Nodup := by decide +kernel
  have sc : FnScope [("_law_draw" : Str), ("_law_store" : Str), ("_law_signs_here" : Str), ("_law_grid_here" : Str), ("_law_row" : Str), ("_law_k" : Str), ("_law_some" : Str), ("_law_error" : Str), ("_law_away" : Str), ("_law_here" : Str), ("_law_item" : Str), ("_law_odd" : Str), ("_law_sign_here" : Str)] [("_law_draw" : Str), ("_law_store" : Str), ("_law_signs_here" : Str), ("_law_grid_here" : Str), ("_law_row" : Str)] (defScope s38) := ⟨rfl, rfl, rfl, hN, rfl, by decide +kernel, by decide +kernel⟩
  refine ⟨fn_dataFC (k := 8) (G := Gk K a) T.F38 sc rfl fun A outer s H E hr => ?_, T.m38, T.F38.kp, T.F38.fn.binds fun _ _ _ _ _ _ us hl => match us, hl with | [_, _, _, _, _], _ => rfl⟩
  show DSs (Gk K a) (cxD P w K mg base [("_law_draw" : Str), ("_law_store" : Str), ("_law_signs_here" : Str), ("_law_grid_here" : Str), ("_law_row" : Str), ("_law_k" : Str), ("_law_some" : Str), ("_law_error" : Str), ("_law_away" : Str), ("_law_here" : Str), ("_law_item" : Str), ("_law_odd" : Str), ("_law_sign_here" : Str)] ("_law_refusals" : Str) (defScope s38) a.f38 (.ref a.c38) A outer s H E) (defBody s38) b__law_refusals
  exact dss_cons (ds_set 11 hN (de_call (o__law_pick T tb) hr (by decide) (da_cons (de_var 0) (da_cons (de_lst (da_cons (de_non) (da_cons (de_int) (da_cons (de_var 2) (da_cons (de_var 3) (da_cons (de_tup (da_cons (de_var 2) (da_cons (de_var 3) (da_nil)))) (da_cons (de_str) (da_nil)))))))) (da_nil))) (hlen := len_cons (len_cons (len_nil))))) (dss_cons (ds_set 8 hN (de_call (o__law_pick T tb) hr (by decide) (da_cons (de_var 0) (da_cons (de_lst (da_cons (de_neg (de_int)) (da_cons (de_callB cd_len T.n_len (da_cons (de_var 3) (da_nil))) (da_cons (de_bin od_add (de_callB cd_len T.n_len (da_cons (de_var 3) (da_nil))) (de_int)) (da_cons (de_bl) (da_cons (de_non) (da_cons (de_str) (da_cons (de_tup (da_cons (de_int) (da_nil))) (da_cons (de_lst (da_cons (de_int) (da_nil))) (da_nil)))))))))) (da_nil))) (hlen := len_cons (len_cons (len_nil))))) (dss_cons (ds_set 12 hN (de_call (o__law_pick T tb) hr (by decide) (da_cons (de_var 0) (da_cons (de_lst (da_cons (de_call (o__law_strange T tb) hr (by decide) (da_cons (de_var 2) (da_nil)) (hlen := len_cons (len_nil))) (da_cons (de_non) (da_cons (de_int) (da_cons (de_tup (da_cons (de_ix (de_var 2) (de_int)) (da_nil))) (da_cons (de_bin od_add (de_ix (de_var 2) (de_int)) (de_str)) (da_cons (de_str) (da_cons (de_callTy cd_list T.n_list (da_cons (de_var 2) (da_nil))) (da_nil))))))))) (da_nil))) (hlen := len_cons (len_cons (len_nil))))) (dss_cons (ds_set 5 hN (de_call (o__law_take T tb) hr (by decide) (da_cons (de_var 0) (da_cons (de_bin od_add (de_callB cd_len T.n_len (da_cons (de_var 4) (da_nil))) (de_int)) (da_nil))) (hlen := len_cons (len_cons (len_nil))))) (dss_cons (ds_set 10 hN (de_call (o__law_pick T tb) hr (by decide) (da_cons (de_var 0) (da_cons (de_lst (da_cons (de_callTy cd_list T.n_list (da_cons (de_var 4) (da_nil))) (da_cons (de_ix (de_var 2) (de_int)) (da_cons (de_non) (da_cons (de_bin od_add (de_bin od_add (de_slice (de_var 4) (do_none) (do_some (de_var 5))) (de_tup (da_cons (de_call (o__law_strange T tb) hr (by decide) (da_cons (de_var 2) (da_nil)) (hlen := len_cons (len_nil))) (da_nil)))) (de_slice (de_var 4) (do_some (de_var 5)) (do_none))) (da_cons (de_bin od_add (de_bin od_add (de_slice (de_var 4) (do_none) (do_some (de_var 5))) (de_tup (da_cons (de_non) (da_nil)))) (de_slice (de_var 4) (do_some (de_var 5)) (do_none))) (da_cons (de_bin od_add (de_bin od_add (de_slice (de_var 4) (do_none) (do_some (de_var 5))) (de_tup (da_cons (de_lst (da_cons (de_str) (da_nil))) (da_nil)))) (de_slice (de_var 4) (do_some (de_var 5)) (do_none))) (da_cons (de_int) (da_nil))))))))) (da_nil))) (hlen := len_cons (len_cons (len_nil))))) (dss_cons (ds_set 6 hN (de_lstO (da_cons (de_caught (k := 6) (P := a.P38) T.cat (tb (a.c38, a.P38) (by simp)) rfl (hm38 T) (hu38 T) (hr.mono (by decide)) (fun A outer s H E f c hr2 => de_call (o_read T tb) hr2 (by decide) (da_cons (de_var 11) (da_cons (de_var 8) (da_cons (de_var 10) (da_nil)))) (hlen := len_cons (len_cons (len_cons (len_nil))))) (sc0 := defScope s38) rfl (by decide +kernel)) (da_nil)))) (dss_cons (ds_expr (de_mt PySem.F.slot_list_append PySem.F.type_list_append md_app (de_var 6) (da_cons (de_caught (k := 6) (P := a.P38) T.cat (tb (a.c38, a.P38) (by simp)) rfl (hm38 T) (hu38 T) (hr.mono (by decide)) (fun A outer s H E f c hr2 => de_call (o_stepped T tb) hr2 (by decide) (da_cons (de_var 11) (da_cons (de_int) (da_cons (de_var 12) (da_nil)))) (hlen := len_cons (len_cons (len_cons (len_nil))))) (sc0 := defScope s38) rfl (by decide +kernel)) (da_nil)))) (dss_cons (ds_expr (de_mt PySem.F.slot_list_append PySem.F.type_list_append md_app (de_var 6) (da_cons (de_caught (k := 6) (P := a.P38) T.cat (tb (a.c38, a.P38) (by simp)) rfl (hm38 T) (hu38 T) (hr.mono (by decide)) (fun A outer s H E f c hr2 => de_call (o_negated T tb) hr2 (by decide) (da_cons (de_var 11) (da_nil)) (hlen := len_cons (len_nil))) (sc0 := defScope s38) rfl (by decide +kernel)) (da_nil)))) (dss_cons (ds_for 4000 (di_any (de_var 6)) (dg_name 7 hN) (dss_one (ds_if (dt_of (dw_or (dt_not (dt_val (de_isiC T.kinds (C := a.C1) ic_BadMemory T.n_isinstance T.x1.gC (ih_BadMemory T) (de_var 7)))) (dw_or1 (dt_cmp od_isnot (de_fldX T.fx_part (de_var 7)) (de_non))))) (dss_one (ds_ret (de_bl))) (dss_nil)))) (dss_cons (ds_set 6 hN (de_lstO (da_cons (de_caught (k := 6) (P := a.P38) T.cat (tb (a.c38, a.P38) (by simp)) rfl (hm38 T) (hu38 T) (hr.mono (by decide)) (fun A outer s H E f c hr2 => de_call (o_read T tb) hr2 (by decide) (da_cons (de_var 1) (da_cons (de_var 8) (da_cons (de_var 10) (da_nil)))) (hlen := len_cons (len_cons (len_cons (len_nil))))) (sc0 := defScope s38) rfl (by decide +kernel)) (da_nil)))) (dss_cons (ds_expr (de_mt PySem.F.slot_list_append PySem.F.type_list_append md_app (de_var 6) (da_cons (de_caught (k := 6) (P := a.P38) T.cat (tb (a.c38, a.P38) (by simp)) rfl (hm38 T) (hu38 T) (hr.mono (by decide)) (fun A outer s H E f c hr2 => de_call (o_stepped T tb) hr2 (by decide) (da_cons (de_var 1) (da_cons (de_var 8) (da_cons (de_var 12) (da_nil)))) (hlen := len_cons (len_cons (len_cons (len_nil))))) (sc0 := defScope s38) rfl (by decide +kernel)) (da_nil)))) (dss_cons (ds_expr (de_mt PySem.F.slot_list_append PySem.F.type_list_append md_app (de_var 6) (da_cons (de_caught (k := 6) (P := a.P38) T.cat (tb (a.c38, a.P38) (by simp)) rfl (hm38 T) (hu38 T) (hr.mono (by decide)) (fun A outer s H E f c hr2 => de_call (o_read T tb) hr2 (by decide) (da_cons (de_var 1) (da_cons (de_var 8) (da_cons (de_var 4) (da_nil)))) (hlen := len_cons (len_cons (len_cons (len_nil))))) (sc0 := defScope s38) rfl (by decide +kernel)) (da_nil)))) (dss_cons (ds_expr (de_mt PySem.F.slot_list_append PySem.F.type_list_append md_app (de_var 6) (da_cons (de_caught (k := 6) (P := a.P38) T.cat (tb (a.c38, a.P38) (by simp)) rfl (hm38 T) (hu38 T) (hr.mono (by decide)) (fun A outer s H E f c hr2 => de_call (o_stepped T tb) hr2 (by decide) (da_cons (de_var 1) (da_cons (de_var 8) (da_cons (de_ix (de_var 2) (de_int)) (da_nil)))) (hlen := len_cons (len_cons (len_cons (len_nil))))) (sc0 := defScope s38) rfl (by decide +kernel)) (da_nil)))) (dss_cons (ds_if (dt_cmp od_ne (de_lc false hN (ix := [(("_law_error" : Str), 7)]) (T := (.one 7)) (blkOk_by (N := [("_law_draw" : Str), ("_law_store" : Str), ("_law_signs_here" : Str), ("_law_grid_here" : Str), ("_law_row" : Str), ("_law_k" : Str), ("_law_some" : Str), ("_law_error" : Str), ("_law_away" : Str), ("_law_here" : Str), ("_law_item" : Str), ("_law_odd" : Str), ("_law_sign_here" : Str)]) (sc := defScope s38) (by decide +kernel)) (di_any (de_var 6)) (by decide) (fun _ _ _ _ _ _ => (pg_name hN rfl (by first | exact Or.inl rfl | exact Or.inr rfl) (by first | exact .inl rfl | exact .inr rfl))) (fun _ _ _ _ _ => dts_one (dt_not (dt_val (de_isiC T.kinds (C := a.C3) ic_BadState T.n_isinstance T.x3.gC (ih_BadState T) (de_var 7))))) (fun _ _ _ _ _ => de_int)) (de_lst (da_nil))) (dss_one (ds_ret (de_bl))) (dss_nil)) (dss_cons (ds_set 9 hN (de_call (o__law_take T tb) hr (by decide) (da_cons (de_var 0) (da_cons (de_callB cd_len T.n_len (da_cons (de_var 3) (da_nil))) (da_nil))) (hlen := len_cons (len_cons (len_nil))))) (dss_cons (ds_if (dt_not (dt_val (de_isiC T.kinds (C := a.C4) ic_BadWord T.n_isinstance T.x4.gC (ih_BadWord T) (de_caught (k := 6) (P := a.P38) T.cat (tb (a.c38, a.P38) (by simp)) rfl (hm38 T) (hu38 T) (hr.mono (by decide)) (fun A outer s H E f c hr2 => de_call (o_read T tb) hr2 (by decide) (da_cons (de_var 1) (da_cons (de_var 9) (da_cons (de_var 10) (da_nil)))) (hlen := len_cons (len_cons (len_cons (len_nil))))) (sc0 := defScope s38) rfl (by decide +kernel))))) (dss_one (ds_ret (de_bl))) (dss_nil)) (dss_one (ds_ret (de_isiC T.kinds (C := a.C2) ic_BadLetter T.n_isinstance T.x2.gC (ih_BadLetter T) (de_caught (k := 6) (P := a.P38) T.cat (tb (a.c38, a.P38) (by simp)) rfl (hm38 T) (hu38 T) (hr.mono (by decide)) (fun A outer s H E f c hr2 => de_call (o_stepped T tb) hr2 (by decide) (da_cons (de_var 1) (da_cons (de_var 9) (da_cons (de_var 12) (da_nil)))) (hlen := len_cons (len_cons (len_cons (len_nil))))) (sc0 := defScope s38) rfl (by decide +kernel))))))))))))))))))))
theorem o_law (T : Txt P K mg a) (tb : Tbs base mg a) : OwnG (Gk K a) P w mg base 10 ("law" : Str) a.f39 a.fd39 [("_law_script" : Str)] F_law := by
  have hN : ([("_law_script" : Str), ("_law_draw" : Str), ("_law_lap" : Str), ("_law_signs_here" : Str), ("_law_grid_here" : Str), ("_law_store" : Str), ("_law_row" : Str), ("_law_turned" : Str), ("_law_some" : Str), ("_law_here" : Str), ("_law_due" : Str), ("_law_k" : Str), ("_law_mid" : Str), ("_law_pair" : Str), ("_law_far" : Str), ("_law_more" : Str), ("_law_spot" : Str), ("_law_sign_here" : Str), ("_law_to" : Str), ("_law_one" : Str), ("_law_two" : Str)] : List Str).Nodup := by decide +kernel
  have sc : FnScope [("_law_script" : Str), ("_law_draw" : Str), ("_law_lap" : Str), ("_law_signs_here" : Str), ("_law_grid_here" : Str), ("_law_store" : Str), ("_law_row" : Str), ("_law_turned" : Str), ("_law_some" : Str), ("_law_here" : Str), ("_law_due" : Str), ("_law_k" : Str), ("_law_mid" : Str), ("_law_pair" : Str), ("_law_far" : Str), ("_law_more" : Str), ("_law_spot" : Str), ("_law_sign_here" : Str), ("_law_to" : Str), ("_law_one" : Str), ("_law_two" : Str)] [("_law_script" : Str)] (defScope s39) := ⟨rfl, rfl, rfl, hN, rfl, by decide +kernel, by decide +kernel⟩
  refine ⟨fn_dataGF (k := 9) (G := Gk K a) T.F39 sc rfl fun cdv A outer s H E gd hr => ?_, T.m39, T.F39.kp, T.F39.binds fun _ _ _ _ _ _ us hl => match us, hl with | [_], _ => rfl⟩
  show DSs (Gk K a) (cxD P w K mg base [("_law_script" : Str), ("_law_draw" : Str), ("_law_lap" : Str), ("_law_signs_here" : Str), ("_law_grid_here" : Str), ("_law_store" : Str), ("_law_row" : Str), ("_law_turned" : Str), ("_law_some" : Str), ("_law_here" : Str), ("_law_due" : Str), ("_law_k" : Str), ("_law_mid" : Str), ("_law_pair" : Str), ("_law_far" : Str), ("_law_more" : Str), ("_law_spot" : Str), ("_law_sign_here" : Str), ("_law_to" : Str), ("_law_one" : Str), ("_law_two" : Str)] ("law" : Str) (defScope s39) a.f39 cdv A outer s H E) (defBody s39) b_law
  exact dss_cons (ds_set 1 hN (de_call (o__law_begun T tb) hr (by decide) (da_cons (de_var 0) (da_nil)) (hlen := len_cons (len_nil)))) (dss_cons (ds_for 4000 (di_range1 T.n_range (da_cons (de_bin od_add (de_int) (de_callB cd_min2 T.n_min (da_cons (de_bin od_div (de_callB cd_len T.n_len (da_cons (de_var 0) (da_nil))) (de_int)) (da_cons (de_int) (da_nil))))) (da_nil))) (dg_name 2 hN) (dss_cons (ds_set 3 hN (de_call (o__law_signs T tb) hr (by decide) (da_cons (de_var 1) (da_cons (de_bin od_add (de_int) (de_call (o__law_take T tb) hr (by decide) (da_cons (de_var 1) (da_cons (de_int) (da_nil))) (hlen := len_cons (len_cons (len_nil))))) (da_nil))) (hlen := len_cons (len_cons (len_nil))))) (dss_cons (ds_set 4 hN (de_call (o__law_grid T tb) hr (by decide) (da_cons (de_var 1) (da_cons (de_bin od_add (de_int) (de_call (o__law_take T tb) hr (by decide) (da_cons (de_var 1) (da_cons (de_int) (da_nil))) (hlen := len_cons (len_cons (len_nil))))) (da_cons (de_callB cd_len T.n_len (da_cons (de_var 3) (da_nil))) (da_cons (de_call (o__law_pick T tb) hr (by decide) (da_cons (de_var 1) (da_cons (de_lst (da_cons (de_int) (da_cons (de_int) (da_cons (de_int) (da_nil))))) (da_nil))) (hlen := len_cons (len_cons (len_nil)))) (da_nil))))) (hlen := len_cons (len_cons (len_cons (len_cons (len_nil))))))) (dss_cons (ds_par 5 6 hN (de_newF T.y0 (o_Memory___init__ T tb) hr (by decide) (da_cons (de_var 3) (da_cons (de_var 4) (da_nil))) T.yk0 (hlen := len_cons (len_cons (len_nil)))) (de_call (o__law_text T tb) hr (by decide) (da_cons (de_var 1) (da_cons (de_var 3) (da_nil))) (hlen := len_cons (len_cons (len_nil))))) (dss_cons (ds_par 7 8 hN (de_call (o_negated T tb) hr (by decide) (da_cons (de_var 5) (da_nil)) (hlen := len_cons (len_nil))) (de_lrg T.n_list T.n_range (de_callB cd_len T.n_len (da_cons (de_var 4) (da_nil))))) (dss_cons (ds_for 4000 (di_any (de_if (dt_cmp od_lt (de_callB cd_len T.n_len (da_cons (de_var 6) (da_nil))) (de_int)) (de_var 8) (de_lst (da_cons (de_call (o__law_pick T tb) hr (by decide) (da_cons (de_var 1) (da_cons (de_var 8) (da_nil))) (hlen := len_cons (len_cons (len_nil)))) (da_nil))))) (dg_name 9 hN) (dss_cons (ds_set 10 hN (de_call (o__law_went T tb) hr (by decide) (da_cons (de_var 3) (da_cons (de_var 4) (da_cons (de_var 9) (da_cons (de_var 6) (da_nil))))) (hlen := len_cons (len_cons (len_cons (len_cons (len_nil))))))) (dss_cons (ds_if (dt_of (dw_or (dt_cmp od_ne (de_callB (cd_repr gd) T.n_repr (da_cons (de_call (o_read T tb) hr (by decide) (da_cons (de_var 5) (da_cons (de_var 9) (da_cons (de_var 6) (da_nil)))) (hlen := len_cons (len_cons (len_cons (len_nil))))) (da_nil))) (de_callB (cd_repr gd) T.n_repr (da_cons (de_var 10) (da_nil)))) (dw_or1 (dt_cmp od_ne (de_callB (cd_repr gd) T.n_repr (da_cons (de_callK0 (o_read T tb) (kb_read_0_memory_word_state T) hr (by decide) (dk_cons (de_var 5) (dk_cons (de_var 6) (dk_cons (de_var 9) (dk_nil)))) (fun ds h => match ds, h with | [_, _, _], _ => rfl) (len_cons (len_cons (len_cons (len_nil))))) (da_nil))) (de_callB (cd_repr gd) T.n_repr (da_cons (de_var 10) (da_nil))))))) (dss_one (ds_ret (de_bl))) (dss_nil)) (dss_cons (ds_set 11 hN (de_call (o__law_take T tb) hr (by decide) (da_cons (de_var 1) (da_cons (de_bin od_add (de_callB cd_len T.n_len (da_cons (de_var 6) (da_nil))) (de_int)) (da_nil))) (hlen := len_cons (len_cons (len_nil))))) (dss_cons (ds_asg (de_call (o_read T tb) hr (by decide) (da_cons (de_var 5) (da_cons (de_var 9) (da_cons (de_slice (de_var 6) (do_none) (do_some (de_var 11))) (da_nil)))) (hlen := len_cons (len_cons (len_cons (len_nil))))) (dg_tup (dgs_cons (dg_name 12 hN) (dgs_cons (dg_name 13 hN) (dgs_nil))))) (dss_cons (ds_asg (de_call (o_read T tb) hr (by decide) (da_cons (de_var 5) (da_cons (de_var 12) (da_cons (de_slice (de_var 6) (do_some (de_var 11)) (do_none)) (da_nil)))) (hlen := len_cons (len_cons (len_cons (len_nil))))) (dg_tup (dgs_cons (dg_name 14 hN) (dgs_cons (dg_name 15 hN) (dgs_nil))))) (dss_cons (ds_if (dt_cmp od_ne (de_callB (cd_repr gd) T.n_repr (da_cons (de_tup (da_cons (de_var 14) (da_cons (de_tup (da_cons (de_bin od_add (de_ix (de_var 13) (de_int)) (de_ix (de_var 15) (de_int))) (da_cons (de_bin od_add (de_ix (de_var 13) (de_int)) (de_ix (de_var 15) (de_int))) (da_nil)))) (da_nil)))) (da_nil))) (de_callB (cd_repr gd) T.n_repr (da_cons (de_var 10) (da_nil)))) (dss_one (ds_ret (de_bl))) (dss_nil)) (dss_cons (ds_if (dt_cmp od_ne (de_callB (cd_repr gd) T.n_repr (da_cons (de_call (o_read T tb) hr (by decide) (da_cons (de_var 7) (da_cons (de_var 9) (da_cons (de_var 6) (da_nil)))) (hlen := len_cons (len_cons (len_cons (len_nil))))) (da_nil))) (de_callB (cd_repr gd) T.n_repr (da_cons (de_tup (da_cons (de_ix (de_var 10) (de_int)) (da_cons (de_tup (da_cons (de_neg (de_ix (de_ix (de_var 10) (de_int)) (de_int))) (da_cons (de_neg (de_ix (de_ix (de_var 10) (de_int)) (de_int))) (da_nil)))) (da_nil)))) (da_nil)))) (dss_one (ds_ret (de_bl))) (dss_nil)) (dss_one (ds_for 4000 (di_enum T.n_enumerate (da_cons (de_var 3) (da_nil))) (dg_tup (dgs_cons (dg_name 16 hN) (dgs_cons (dg_name 17 hN) (dgs_nil)))) (dss_cons (ds_asg (de_ix (de_ix (de_var 4) (de_var 9)) (de_var 16)) (dg_tup (dgs_cons (dg_name 18 hN) (dgs_cons (dg_name 19 hN) (dgs_cons (dg_name 20 hN) (dgs_nil)))))) (dss_cons (ds_if (dt_cmp od_ne (de_callB (cd_repr gd) T.n_repr (da_cons (de_call (o_stepped T tb) hr (by decide) (da_cons (de_var 5) (da_cons (de_var 9) (da_cons (de_var 17) (da_nil)))) (hlen := len_cons (len_cons (len_cons (len_nil))))) (da_nil))) (de_callB (cd_repr gd) T.n_repr (da_cons (de_tup (da_cons (de_var 18) (da_cons (de_tup (da_cons (de_var 19) (da_cons (de_var 20) (da_nil)))) (da_nil)))) (da_nil)))) (dss_one (ds_ret (de_bl))) (dss_nil)) (dss_cons (ds_if (dt_cmp od_ne (de_callB (cd_repr gd) T.n_repr (da_cons (de_callK0 (o_stepped T tb) (kb_stepped_0_letter_state_memory T) hr (by decide) (dk_cons (de_var 17) (dk_cons (de_var 9) (dk_cons (de_var 7) (dk_nil)))) (fun ds h => match ds, h with | [_, _, _], _ => rfl) (len_cons (len_cons (len_cons (len_nil))))) (da_nil))) (de_callB (cd_repr gd) T.n_repr (da_cons (de_tup (da_cons (de_var 18) (da_cons (de_tup (da_cons (de_neg (de_var 19)) (da_cons (de_neg (de_var 20)) (da_nil)))) (da_nil)))) (da_nil)))) (dss_one (ds_ret (de_bl))) (dss_nil)) (dss_one (ds_if (dt_cmp od_ne (de_call (o_stepped T tb) hr (by decide) (da_cons (de_var 5) (da_cons (de_var 9) (da_cons (de_var 17) (da_nil)))) (hlen := len_cons (len_cons (len_cons (len_nil))))) (de_call (o_read T tb) hr (by decide) (da_cons (de_var 5) (da_cons (de_var 9) (da_cons (de_tup (da_cons (de_var 17) (da_nil))) (da_nil)))) (hlen := len_cons (len_cons (len_cons (len_nil)))))) (dss_one (ds_ret (de_bl))) (dss_nil)))))))))))))))) (dss_cons (ds_if (dt_of (dw_or (dt_cmp od_ne (de_fld T.fc_letters (de_var 7)) (de_var 3)) (dw_or (dt_cmp od_ne (de_lenO T.yl0 (o_Memory___len__ T tb) rfl hr (by decide) T.n_len (de_var 7)) (de_callB cd_len T.n_len (da_cons (de_var 4) (da_nil)))) (dw_or1 (dt_neO T.kinds T.ye0 (o_Memory___eq__ T tb) rfl hr (by decide) (de_callK0 (o_negated T tb) (kb_negated_0_memory T) hr (by decide) (dk_cons (de_var 7) (dk_nil)) (fun ds h => match ds, h with | [_], _ => rfl) (len_cons (len_nil))) (de_var 5)))))) (dss_one (ds_ret (de_bl))) (dss_nil)) (dss_one (ds_if (dt_of (dw_or (dt_cmp od_ne (de_callB (cd_repr gd) T.n_repr (da_cons (de_fld T.fc_moves (de_var 5)) (da_nil))) (de_callB (cd_repr gd) T.n_repr (da_cons (de_var 4) (da_nil)))) (dw_or1 (dt_not (dt_val (de_call (o__law_refusals T tb) hr (by decide) (da_cons (de_var 1) (da_cons (de_var 5) (da_cons (de_var 3) (da_cons (de_var 4) (da_cons (de_var 6) (da_nil)))))) (hlen := len_cons (len_cons (len_cons (len_cons (len_cons (len_nil)))))))))))) (dss_one (ds_ret (de_bl))) (dss_nil)))))))))) (dss_one (ds_ret (de_bl))))
end
end K01
set_option maxHeartbeats 4000000
namespace DL
open PySem L2
/-! ### plain equations -/
section
variable {α β : Type} {M : Sto} {ρ : Env}
@[simp] theorem bind_ok (a : α) (g : α → Sto → Res β) : (Res.ok a M).bind g = g a M := (rfl)
@[simp] theorem bind_exc (c : Nat) (fs : List Str) (vs : List D) (g : α → Sto → Res β) : (Res.exc c fs vs M : Res α).bind g = .exc c fs vs M := (rfl)
@[simp] theorem thn_ok (a : α) (g : α → Sto → Out) : (Res.ok a M).thn ρ g = g a M := (rfl)
@[simp] theorem thn_exc (c : Nat) (fs : List Str) (vs : List D) (g : α → Sto → Out) : (Res.exc c fs vs M : Res α).thn ρ g = .exc c fs vs ρ M := (rfl)
@[simp] theorem ofO_some' (a : α) : Res.ofO (some a) M = .ok a M := (rfl)
@[simp] theorem seq_nx (k : Env → Sto → Out) : (Out.nx ρ M).seq k = k ρ M := (rfl)
@[simp] theorem seq_rt (d : D) (k : Env → Sto → Out) : (Out.rt d M).seq k = .rt d M := (rfl)
@[simp] theorem seq_exc (c : Nat) (fs : List Str) (vs : List D) (k : Env → Sto → Out) : (Out.exc c fs vs ρ M).seq k = .exc c fs vs ρ M := (rfl)
@[simp] theorem seq_bk (k : Env → Sto → Out) : (Out.bk ρ M).seq k = .bk ρ M := (rfl)
@[simp] theorem seq_ct (k : Env → Sto → Out) : (Out.ct ρ M).seq k = .ct ρ M := (rfl)
@[simp] theorem aft_nx (k : Env → Sto → Out) : (Out.nx ρ M).aft k = k ρ M := (rfl)
@[simp] theorem aft_ct (k : Env → Sto → Out) : (Out.ct ρ M).aft k = k ρ M := (rfl)
@[simp] theorem aft_bk (k : Env → Sto → Out) : (Out.bk ρ M).aft k = .nx ρ M := (rfl)
@[simp] theorem aft_rt (d : D) (k : Env → Sto → Out) : (Out.rt d M).aft k = .rt d M := (rfl)
@[simp] theorem aft_exc (c : Nat) (fs : List Str) (vs : List D) (k : Env → Sto → Out) : (Out.exc c fs vs ρ M).aft k = .exc c fs vs ρ M := (rfl)
/-- what a def gives of its body's end -/
def outR : Out → Res D
  | .nx _ M' => .ok .non M'
  | .rt d M' => .ok d M'
  | .exc c fs vs _ M' => .exc c fs vs M'
  | _ => .bad
@[simp] theorem outR_nx : outR (.nx ρ M) = .ok .non M := (rfl)
@[simp] theorem outR_rt (d : D) : outR (.rt d M) = .ok d M := (rfl)
@[simp] theorem outR_exc (c : Nat) (fs : List Str) (vs : List D) : outR (.exc c fs vs ρ M) = .exc c fs vs M := (rfl)
theorem fnD_eq (n : Nat) (g : FS) (ds : List D) (M : Sto) : fnD n g ds M = outR (g (ds.map some ++ List.replicate (n - ds.length) none) M) := by
  unfold fnD outR
  cases g (ds.map some ++ List.replicate (n - ds.length) none) M <;> rfl
/-! expressions -/
theorem dVar_at {i : Nat} {d : D} (h : ρ[i]? = some (some d)) : dVar i ρ M = .ok d M := by
  unfold dVar
  rw [h]
@[simp] theorem dVar_0 (d : D) (r : Env) : dVar 0 (some d :: r) M = .ok d M := rfl
@[simp] theorem dVar_s (i : Nat) (x : Option D) (r : Env) : dVar (i + 1) (x :: r) M = dVar i r M := rfl
@[simp] theorem dC_eq (d : D) : dC d ρ M = .ok d M := rfl
@[simp] theorem dBin_eq (g : Sto → D → D → Option D) (a b : FE D) : dBin g a b ρ M = (a ρ M).bind fun x M1 => (b ρ M1).bind fun y M2 => .ofO (g M2 x y) M2 := rfl
@[simp] theorem dAnd_eq (a b : FE Bool) : dAnd a b ρ M = (a ρ M).bind fun c M1 => if c = true then b ρ M1 else .ok false M1 := rfl
@[simp] theorem dOr_eq (a b : FE Bool) : dOr a b ρ M = (a ρ M).bind fun c M1 => if c = true then .ok true M1 else b ρ M1 := rfl
@[simp] theorem dNot_eq (a : FE Bool) : dNot a ρ M = (a ρ M).bind fun c M1 => .ok (!c) M1 := rfl
def asB (x : D) (M1 : Sto) : Res Bool := match x with
  | .bl k => .ok k M1
  | _ => .bad
@[simp] theorem asB_bl (k : Bool) : asB (.bl k) M = .ok k M := rfl
@[simp] theorem dTst_eq (f : FE D) : dTst f ρ M = (f ρ M).bind asB := rfl
def andV (fb : FE D) (ρ : Env) (x : D) (M1 : Sto) : Res D := match x with
  | .bl true => fb ρ M1
  | .bl false => .ok (.bl false) M1
  | _ => .bad
def orV (fb : FE D) (ρ : Env) (x : D) (M1 : Sto) : Res D := match x with
  | .bl false => fb ρ M1
  | .bl true => .ok (.bl true) M1
  | _ => .bad
@[simp] theorem andV_bl (fb : FE D) (k : Bool) : andV fb ρ (.bl k) M = if k = true then fb ρ M else .ok (.bl false) M := by cases k <;> rfl
@[simp] theorem orV_bl (fb : FE D) (k : Bool) : orV fb ρ (.bl k) M = if k = true then .ok (.bl true) M else fb ρ M := by cases k <;> rfl
@[simp] theorem dAndV_eq (a b : FE D) : dAndV a b ρ M = (a ρ M).bind (andV b ρ) := rfl
@[simp] theorem dOrV_eq (a b : FE D) : dOrV a b ρ M = (a ρ M).bind (orV b ρ) := rfl
def notV (x : D) (M1 : Sto) : Res D := match x with
  | .bl k => .ok (.bl (!k)) M1
  | _ => .bad
@[simp] theorem notV_bl (k : Bool) : notV (.bl k) M = .ok (.bl (!k)) M := rfl
@[simp] theorem dNotV_eq (a : FE D) : dNotV a ρ M = (a ρ M).bind notV := rfl
@[simp] theorem dIf_eq (t : FE Bool) (a b : FE α) : dIf t a b ρ M = (t ρ M).bind fun c M1 => if c = true then a ρ M1 else b ρ M1 := rfl
@[simp] theorem dNil_eq : dNil ρ M = .ok [] M := rfl
@[simp] theorem dCons_eq (a : FE D) (r : FE (List D)) : dCons a r ρ M = (a ρ M).bind fun x M1 => (r ρ M1).bind fun xs M2 => .ok (x :: xs) M2 := rfl
@[simp] theorem dTup_eq (fs : FE (List D)) : dTup fs ρ M = (fs ρ M).bind fun xs M1 => if xs.length ≤ sizeLine then .ok (.tup xs) M1 else .bad := rfl
@[simp] theorem dLst_eq (fs : FE (List D)) : dLst fs ρ M = (fs ρ M).bind fun xs M1 => if xs.length ≤ sizeLine then .ok (.lst xs) M1 else .bad := rfl
@[simp] theorem dLstO_eq (fs : FE (List D)) : dLstO fs ρ M = (fs ρ M).bind fun xs M1 => if xs.length ≤ sizeLine then .ok (.own M1.length) (M1 ++ [.lst xs]) else .bad := rfl
def negV (x : D) (M1 : Sto) : Res D := match x with
  | .int i => .ok (.int (-i)) M1
  | _ => .bad
@[simp] theorem negV_int (i : Int) : negV (.int i) M = .ok (.int (-i)) M := rfl
@[simp] theorem dNeg_eq (a : FE D) : dNeg a ρ M = (a ρ M).bind negV := rfl
@[simp] theorem dCallB_eq (g : Sto → List D → Option D) (fs : FE (List D)) : dCallB g fs ρ M = (fs ρ M).bind fun ds M1 => .ofO (g M1 ds) M1 := rfl
@[simp] theorem dCallF_eq (F : List D → Sto → Res D) (fs : FE (List D)) : dCallF F fs ρ M = (fs ρ M).bind F := rfl
@[simp] theorem dCallK_eq (F : List D → Sto → Res D) (n m : Nat) (ix : List Nat) (fs fk : FE (List D)) : dCallK F n m ix fs fk ρ M = (fs ρ M).bind fun ds M1 => (fk ρ M1).bind fun es M2 => F (gath n m ix ds es) M2 := rfl
@[simp] theorem dIsi_eq (r : Kd → Option Bool) (f : FE D) : dIsi r f ρ M = (f ρ M).bind (kIsi r) := rfl
def catR : Res D → Res D
  | .ok _ M' => .ok .non M'
  | .exc c fs vs M' => .ok (.exc c fs vs) M'
  | .bad => .bad
@[simp] theorem catR_ok (d : D) : catR (.ok d M) = .ok .non M := rfl
@[simp] theorem catR_exc (c : Nat) (fs : List Str) (vs : List D) : catR (.exc c fs vs M) = .ok (.exc c fs vs) M := rfl
@[simp] theorem dCaught_eq (f : FE D) : dCaught f ρ M = catR (f ρ M) := by
  unfold dCaught catR
  cases f ρ M <;> rfl
/-! statements -/
@[simp] theorem sNx_eq : sNx ρ M = .nx ρ M := rfl
@[simp] theorem sBk_eq : sBk ρ M = .bk ρ M := rfl
@[simp] theorem sCt_eq : sCt ρ M = .ct ρ M := rfl
@[simp] theorem sSq_eq (a b : FS) : sSq a b ρ M = (a ρ M).seq b := rfl
@[simp] theorem sEx_eq (f : FE D) : sEx f ρ M = (f ρ M).thn ρ fun _ M1 => .nx ρ M1 := rfl
@[simp] theorem sRt_eq (f : FE D) : sRt f ρ M = (f ρ M).thn ρ fun d M1 => .rt d M1 := rfl
@[simp] theorem sRtN_eq : sRtN ρ M = .rt .non M := rfl
@[simp] theorem sIf_eq (t : FE Bool) (a b : FS) : sIf t a b ρ M = (t ρ M).thn ρ fun c M1 => if c = true then a ρ M1 else b ρ M1 := rfl
@[simp] theorem ofO_so (p : Env × Sto) : Out.ofO (some p) = .nx p.1 p.2 := rfl
@[simp] theorem sAs_eq (f : FE D) (g : FG) : sAs f g ρ M = (f ρ M).thn ρ fun d M1 => Out.ofO (g d ρ M1) := rfl
@[simp] theorem sSet_eq (i : Nat) (f : FE D) : sSet i f ρ M = (f ρ M).thn ρ fun d M1 => .nx (ρ.set i (some d)) M1 := rfl
@[simp] theorem sPar_eq (i j : Nat) (a b : FE D) : sPar i j a b ρ M = (a ρ M).thn ρ fun x M1 => (b ρ M1).thn ρ fun y M2 => .nx ((ρ.set i (some x)).set j (some y)) M2 := rfl
@[simp] theorem sPar3_eq (i j l : Nat) (a b c : FE D) : sPar3 i j l a b c ρ M = (a ρ M).thn ρ fun x M1 => (b ρ M1).thn ρ fun y M2 => (c ρ M2).thn ρ fun z M3 => .nx (((ρ.set i (some x)).set j (some y)).set l (some z)) M3 := rfl
@[simp] theorem sRaise_eq (c : Nat) : sRaise c ρ M = .exc c [] [] ρ M := rfl
@[simp] theorem sFor_eq (m : Nat) (fi : FE IT) (g : FG) (s : FS) : sFor m fi g s ρ M = (fi ρ M).thn ρ fun p M1 => forI g s m p ρ M1 := rfl
@[simp] theorem forI_fix (m : Nat) (g : FG) (s : FS) (ds : List D) : forI g s m (IT.fix ds) ρ M = forD g s ds ρ M := rfl
@[simp] theorem forD_nil (g : FG) (s : FS) : forD g s [] ρ M = .nx ρ M := rfl
theorem forD_cons (g : FG) (s : FS) (d : D) (ds : List D) : forD g s (d :: ds) ρ M = stp g s d ρ M (forD g s ds) := rfl
@[simp] theorem stp_nm (i : Nat) (s : FS) (d : D) (k : Env → Sto → Out) : stp (gNm i) s d ρ M k = (s (ρ.set i (some d)) M).aft k := rfl
@[simp] theorem gNm_eq (i : Nat) (d : D) : gNm i d ρ M = some (ρ.set i (some d), M) := rfl
@[simp] theorem gTp_tup (n : Nat) (gs : FGs) (ds : List D) : gTp n gs (.tup ds) ρ M = if ds.length = n then gs ds ρ M else none := rfl
@[simp] theorem gsNil_eq : gsNil [] ρ M = some (ρ, M) := rfl
@[simp] theorem gsCons_nm (i : Nat) (gs : FGs) (d : D) (ds : List D) : gsCons (gNm i) gs (d :: ds) ρ M = gs ds (ρ.set i (some d)) M := rfl
@[simp] theorem iLst_eq (f : FE D) : iLst f ρ M = (f ρ M).bind kLst := rfl
@[simp] theorem kLst_lst (ds : List D) : kLst (.lst ds) M = .ok (IT.fix ds) M := rfl
@[simp] theorem kLst_flst (ds : List D) : kLst (.flst ds) M = .ok (IT.fix ds) M := rfl
@[simp] theorem iTpl_eq (f : FE D) : iTpl f ρ M = (f ρ M).bind kTpl := rfl
@[simp] theorem kTpl_tup (ds : List D) : kTpl (.tup ds) M = .ok (IT.fix ds) M := rfl
@[simp] theorem iRg1_eq (fs : FE (List D)) : iRg1 fs ρ M = (fs ρ M).bind kRg1 := rfl
theorem kRg1_int {j : Int} (h : small62 j = true) : kRg1 [.int j] M = .ok (IT.fix (intUp 0 j.toNat)) M := if_pos h
@[simp] theorem iRg2_eq (fs : FE (List D)) : iRg2 fs ρ M = (fs ρ M).bind kRg2 := rfl
theorem kRg2_int {i j : Int} (h : (small62 i && small62 j) = true) : kRg2 [.int i, .int j] M = .ok (IT.fix (intUp i (j - i).toNat)) M := if_pos h
theorem small_of {j : Int} (h1 : -(2 ^ 62) ≤ j) (h2 : j < 2 ^ 62) : small62 j = true := by
  unfold small62
  rw [Bool.and_eq_true, decide_eq_true_eq, decide_eq_true_eq]
  exact ⟨h1, h2⟩
@[simp] theorem dMt_own (g : Sto → D → List D → Option (D × Sto)) (fo : FE D) (fs : FE (List D)) : dMt g fo fs ρ M = (fo ρ M).bind fun x M1 => match lstOf M1 x with | some _ => (fs ρ M1).bind fun ds M2 => kMt g x ds M2 | none => .bad := rfl
@[simp] theorem sDP_eq (fo fi fv : FE D) : sDP fo fi fv ρ M = (fv ρ M).thn ρ fun v M1 => (fo ρ M1).thn ρ fun o M2 => (fi ρ M2).thn ρ fun y M3 => kDP ρ v o y M3 := rfl
@[simp] theorem fLc_eq (own : Bool) (fi : FE IT) (T : TgC) (ft : FE Bool) (fe : FE D) (ws : List Nat) : fLc own fi T ft fe ws ρ M = (fi ρ M).bind fun p M1 => kLc own (lcI T ft fe ws ρ p M1) := rfl
@[simp] theorem lcI_fix (T : TgC) (ft : FE Bool) (fe : FE D) (ws : List Nat) (ds : List D) : lcI T ft fe ws ρ (IT.fix ds) M = lcD T ft fe ws ρ ds M := rfl
@[simp] theorem dYes_eq : dYes ρ M = .ok true M := rfl
/-- [f x for x in ds if p x], the store left as it is -/
theorem lcD_map {T : TgC} {ft : FE Bool} {fe : FE D} {ws : List Nat} {p : D → Bool} {f : D → D} : ∀ {ds : List D}, (∀ d ∈ ds, ∃ ρ2, T.d d (wipeE ρ ws) = some ρ2 ∧ ft ρ2 M = .ok (p d) M ∧ (p d = true → fe ρ2 M = .ok (f d) M)) →
    lcD T ft fe ws ρ ds M = .ok ((ds.filter p).map f) M
  | [], _ => rfl
  | d :: ds, h => by
    obtain ⟨ρ2, h1, h2, h3⟩ := h d List.mem_cons_self
    have ih := lcD_map fun e he => h e (List.mem_cons_of_mem _ he)
    show lstp T ft fe ws ρ d M (lcD T ft fe ws ρ ds) = _
    unfold lstp
    rw [h1]
    simp only [h2]
    cases hp : p d with
    | true => simp only [h3 hp, ih, List.filter_cons, hp, if_true, List.map_cons]
    | false => simp only [ih, List.filter_cons, hp, Bool.false_eq_true, if_false]
/-! operators -/
@[simp] theorem gAdd_int (i j : Int) : gAdd M (.int i) (.int j) = some (.int (i + j)) := rfl
@[simp] theorem gSub_int (i j : Int) : gSub M (.int i) (.int j) = some (.int (i - j)) := rfl
theorem gMul_int {i j : Int} (h : i.natAbs.log2 + j.natAbs.log2 < 1000000) : gMul M (.int i) (.int j) = some (.int (i * j)) := if_pos h
theorem gDiv_int {i j : Int} (h : 0 < j) (h2 : j.natAbs.log2 < 9000) : gDiv M (.int i) (.int j) = some (.int (i / j)) := if_pos ⟨h, h2⟩
theorem gMod_int {i j : Int} (h : 0 < j) : gMod M (.int i) (.int j) = some (.int (i % j)) := if_pos h
theorem gPow_int {i j : Int} (h : 0 ≤ j ∧ j ≤ 1000000 ∧ i.natAbs < 2 ^ 64) : gPow M (.int i) (.int j) = some (.int (i ^ j.toNat)) := if_pos h
@[simp] theorem gLt_int (i j : Int) : gLt M (.int i) (.int j) = some (.bl (decide (i < j))) := rfl
@[simp] theorem gLe_int (i j : Int) : gLe M (.int i) (.int j) = some (.bl (decide (i ≤ j))) := rfl
@[simp] theorem gGt_int (i j : Int) : gGt M (.int i) (.int j) = some (.bl (decide (j < i))) := rfl
@[simp] theorem gGe_int (i j : Int) : gGe M (.int i) (.int j) = some (.bl (decide (j ≤ i))) := rfl
theorem log2_lt {n k : Nat} (h : n < 2 ^ k) (hk : 0 < k) : n.log2 < k := by
  by_cases h0 : n = 0
  · subst h0; simpa using hk
  · exact (Nat.log2_lt h0).mpr h
/-! isinstance -/
def isR (o : Option Bool) (M : Sto) : Res D := match o with
  | some b => .ok (.bl b) M
  | none => .bad
@[simp] theorem isR_some (b : Bool) : isR (some b) M = .ok (.bl b) M := rfl
@[simp] theorem kIsi_non (r : Kd → Option Bool) : kIsi r .non M = isR (r .non) M := rfl
@[simp] theorem kIsi_bl (r : Kd → Option Bool) (b : Bool) : kIsi r (.bl b) M = isR (r .bl) M := rfl
@[simp] theorem kIsi_int (r : Kd → Option Bool) (i : Int) : kIsi r (.int i) M = isR (r .int) M := rfl
@[simp] theorem kIsi_str (r : Kd → Option Bool) (x : Str) : kIsi r (.str x) M = isR (r .str) M := rfl
@[simp] theorem kIsi_tup (r : Kd → Option Bool) (x : List D) : kIsi r (.tup x) M = isR (r .tup) M := rfl
@[simp] theorem kIsi_lst (r : Kd → Option Bool) (x : List D) : kIsi r (.lst x) M = isR (r .lst) M := rfl
@[simp] theorem kIsi_flst (r : Kd → Option Bool) (x : List D) : kIsi r (.flst x) M = isR (r .lst) M := rfl
@[simp] theorem kIsi_dic (r : Kd → Option Bool) (k : List Key) (x : List D) : kIsi r (.dic k x) M = isR (r .dic) M := rfl
@[simp] theorem kIsi_dit (r : Kd → Option Bool) (k : List (List Key)) (x : List D) : kIsi r (.dit k x) M = isR (r .dic) M := rfl
@[simp] theorem kIsi_exc (r : Kd → Option Bool) (c : Nat) (fs : List Str) (vs : List D) : kIsi r (.exc c fs vs) M = isR (r (.exc c)) M := rfl
@[simp] theorem isTy_int_non : isTy "int" .non = some false := by decide +kernel
@[simp] theorem isTy_int_bl : isTy "int" .bl = some true := by decide +kernel
@[simp] theorem isTy_int_int : isTy "int" .int = some true := by decide +kernel
@[simp] theorem isTy_int_str : isTy "int" .str = some false := by decide +kernel
@[simp] theorem isTy_int_tup : isTy "int" .tup = some false := by decide +kernel
@[simp] theorem isTy_int_lst : isTy "int" .lst = some false := by decide +kernel
@[simp] theorem isTy_int_dic : isTy "int" .dic = some false := by decide +kernel
@[simp] theorem isTy_bool_non : isTy "bool" .non = some false := by decide +kernel
@[simp] theorem isTy_bool_bl : isTy "bool" .bl = some true := by decide +kernel
@[simp] theorem isTy_bool_int : isTy "bool" .int = some false := by decide +kernel
@[simp] theorem isTy_bool_str : isTy "bool" .str = some false := by decide +kernel
@[simp] theorem isTy_bool_tup : isTy "bool" .tup = some false := by decide +kernel
@[simp] theorem isTy_bool_lst : isTy "bool" .lst = some false := by decide +kernel
@[simp] theorem isTy_bool_dic : isTy "bool" .dic = some false := by decide +kernel
@[simp] theorem isTy_str_non : isTy "str" .non = some false := by decide +kernel
@[simp] theorem isTy_str_bl : isTy "str" .bl = some false := by decide +kernel
@[simp] theorem isTy_str_int : isTy "str" .int = some false := by decide +kernel
@[simp] theorem isTy_str_str : isTy "str" .str = some true := by decide +kernel
@[simp] theorem isTy_str_tup : isTy "str" .tup = some false := by decide +kernel
@[simp] theorem isTy_str_lst : isTy "str" .lst = some false := by decide +kernel
@[simp] theorem isTy_str_dic : isTy "str" .dic = some false := by decide +kernel
@[simp] theorem isTy_tuple_non : isTy "tuple" .non = some false := by decide +kernel
@[simp] theorem isTy_tuple_bl : isTy "tuple" .bl = some false := by decide +kernel
@[simp] theorem isTy_tuple_int : isTy "tuple" .int = some false := by decide +kernel
@[simp] theorem isTy_tuple_str : isTy "tuple" .str = some false := by decide +kernel
@[simp] theorem isTy_tuple_tup : isTy "tuple" .tup = some true := by decide +kernel
@[simp] theorem isTy_tuple_lst : isTy "tuple" .lst = some false := by decide +kernel
@[simp] theorem isTy_tuple_dic : isTy "tuple" .dic = some false := by decide +kernel
@[simp] theorem isTy_list_non : isTy "list" .non = some false := by decide +kernel
@[simp] theorem isTy_list_bl : isTy "list" .bl = some false := by decide +kernel
@[simp] theorem isTy_list_int : isTy "list" .int = some false := by decide +kernel
@[simp] theorem isTy_list_str : isTy "list" .str = some false := by decide +kernel
@[simp] theorem isTy_list_tup : isTy "list" .tup = some false := by decide +kernel
@[simp] theorem isTy_list_lst : isTy "list" .lst = some true := by decide +kernel
@[simp] theorem isTy_list_dic : isTy "list" .dic = some false := by decide +kernel
@[simp] theorem isTy_dict_non : isTy "dict" .non = some false := by decide +kernel
@[simp] theorem isTy_dict_bl : isTy "dict" .bl = some false := by decide +kernel
@[simp] theorem isTy_dict_int : isTy "dict" .int = some false := by decide +kernel
@[simp] theorem isTy_dict_str : isTy "dict" .str = some false := by decide +kernel
@[simp] theorem isTy_dict_tup : isTy "dict" .tup = some false := by decide +kernel
@[simp] theorem isTy_dict_lst : isTy "dict" .lst = some false := by decide +kernel
@[simp] theorem isTy_dict_dic : isTy "dict" .dic = some true := by decide +kernel
/-! subscripts, lengths, equality -/
theorem ixN_nn {n : Nat} {i : Int} (h0 : 0 ≤ i) (h : i < n) : ixN n i = some i.toNat := by
  unfold ixN
  simp [h0, h]
  try omega
@[simp] theorem gEq_int (i j : Int) : gEqB false M (.int i) (.int j) = some (.bl (decide (i = j))) := rfl
@[simp] theorem gNe_int (i j : Int) : gEqB true M (.int i) (.int j) = some (.bl (!decide (i = j))) := rfl
@[simp] theorem gEq_str (i j : Str) : gEqB false M (.str i) (.str j) = some (.bl (decide (i = j))) := rfl
@[simp] theorem gNe_str (i j : Str) : gEqB true M (.str i) (.str j) = some (.bl (!decide (i = j))) := rfl
@[simp] theorem gEq_pr (a b c d : Int) : gEqB false M (.tup [.int a, .int b]) (.tup [.int c, .int d]) = some (.bl (decide (a = c) && decide (b = d))) := by
  have h : gEqB false M (.tup [.int a, .int b]) (.tup [.int c, .int d]) = some (.bl ((a == c) && ((b == d) && true))) := by simp [gEqB, flatEq, toPy, toPys, SeqAt.shaped, PyData.canLay0, PyData.canLayAll0, PyData.depth, PyData.depthAll, PyData.eqv, PyData.eqvAll]
  rw [h, Bool.and_true]
  rfl
theorem toPysF_int : ∀ l : List Int, toPysF (l.map D.int) = some (l.map PyData.int)
  | [] => rfl
  | i :: l => by
    show (match toPyF (D.int i), toPysF (l.map D.int) with | some d, some ds => some (d :: ds) | _, _ => none) = _
    rw [toPysF_int l]
    rfl
theorem toPys_int : ∀ l : List Int, toPys M (l.map D.int) = some (l.map PyData.int)
  | [] => rfl
  | i :: l => by
    show (match toPy M (D.int i), toPys M (l.map D.int) with | some d, some ds => some (d :: ds) | _, _ => none) = _
    rw [toPys_int l]
    rfl
theorem canLay_int : ∀ l : List Int, PyData.canLayAll0 (l.map PyData.int) = true
  | [] => rfl
  | i :: l => by simp [PyData.canLayAll0, PyData.canLay0, canLay_int l]
theorem depth_int : ∀ l : List Int, PyData.depthAll (l.map PyData.int) = 0
  | [] => rfl
  | i :: l => by simp [PyData.depthAll, PyData.depth, depth_int l]
theorem shaped_int (l : List Int) : SeqAt.shaped (.list (l.map PyData.int)) = true := by simp [SeqAt.shaped, PyData.canLay0, canLay_int, PyData.depth, depth_int]
/-- a changing list of ints != [] -/
theorem gNe_own {n : Nat} {l : List Int} (h : M[n]? = some (.lst (l.map D.int))) : gEqB true M (.own n) (.lst []) = some (.bl (!decide (l = []))) := by
  have h1 : toPy M (.own n) = some (.list (l.map PyData.int)) := by
    show (match M[n]? with | some (.lst xs) => (toPysF xs).map PyData.list | _ => none) = _
    rw [h]
    show (toPysF (l.map D.int)).map PyData.list = _
    rw [toPysF_int]
    rfl
  have h2 : toPy M (.lst []) = some (.list []) := rfl
  show (match toPy M (.own n), toPy M (.lst []) with
    | some d, some e => if SeqAt.shaped d = true ∧ SeqAt.shaped e = true then some (D.bl (if true then !PyData.eqv d e else PyData.eqv d e)) else none
    | _, _ => none) = _
  rw [h1, h2]
  have h3 : SeqAt.shaped (.list []) = true := shaped_int []
  simp only [shaped_int, h3, and_self, if_true]
  cases l with
  | nil => rfl
  | cons i l => simp [PyData.eqv, PyData.eqvAll]
/-! repr -/
theorem gRepr_ok {x : D} {d : PyData} (h : toPy M x = some d) (h1 : d.showable = true) (h2 : d.hasDict = false) (h3 : d.depth ≤ 60) (h4 : d.shown.length ≤ sizeLine) : gRepr M [x] = some (.str d.shown) := by
  show (match toPy M x with
    | some d => if d.showable = true ∧ d.hasDict = false ∧ d.depth ≤ 60 ∧ d.shown.length ≤ sizeLine then some (D.str d.shown) else none
    | none => none) = _
  rw [h]
  exact if_pos ⟨h1, h2, h3, h4⟩
theorem repr_non : gRepr M [.non] = some (.str "None") := by
  refine (gRepr_ok (d := .none) rfl rfl rfl (by decide) ?_).trans rfl
  rw [PyData.shown_none, sizeLine_eq]
  decide
theorem repr_int {i : Int} (h : i.natAbs.log2 < 1920) : gRepr M [.int i] = some (.str (toString i)) := by
  refine (gRepr_ok (d := .int i) rfl (by simp [PyData.showable, h]) rfl (by simp [PyData.depth]) ?_).trans (by rw [PyData.shown_int])
  rw [PyData.shown_int]
  exact int_text_fits h
theorem repr_pr {i j : Int} (h : i.natAbs.log2 < 1920) (h' : j.natAbs.log2 < 1920) : ∃ s, gRepr M [.tup [.int i, .int j]] = some (.str s) := by
  refine ⟨_, gRepr_ok (d := .tuple [.int i, .int j]) rfl (by simp [PyData.showable, PyData.showableAll, h, h']) rfl (by simp [PyData.depth, PyData.depthAll]) ?_⟩
  have l1 := PyProof.Rows.int_text_len_1921 h
  have l2 := PyProof.Rows.int_text_len_1921 h'
  rw [PyData.shown_tuple]
  have e : PyData.shownAll [.int i, .int j] = [((toString i : String) : Str), ((toString j : String) : Str)] := PyData.shownAll_ints [i, j]
  rw [e]
  have ej : Str.join ", " [((toString i : String) : Str), ((toString j : String) : Str)] = ((toString i : String) : Str) ++ ", " ++ ((toString j : String) : Str) := rfl
  rw [ej, sizeLine_eq]
  have la : ∀ a b : Str, (a ++ b).length = a.length + b.length := fun a b => Array.size_append
  simp only [la]
  have c1 : (("(" : Str)).length = 1 := by decide
  have c2 : ((", " : Str)).length = 2 := by decide
  have c3 : (((if ([PyData.int i, PyData.int j].length == 1) = true then ",)" else ")" : String) : Str)).length = 1 := by rfl
  omega
end
end DL
set_option maxHeartbeats 4000000
namespace DL
open PySem L2
/-! ### more plain equations -/
section
variable {ρ : DL.Env} {M : Sto}
@[simp] theorem iAny_eq (f : FE D) : iAny f ρ M = (f ρ M).bind kAny := rfl
@[simp] theorem kAny_tup (ds : List D) : kAny (.tup ds) M = .ok (IT.fix ds) M := rfl
@[simp] theorem kAny_lst (ds : List D) : kAny (.lst ds) M = .ok (IT.fix ds) M := rfl
@[simp] theorem kAny_flst (ds : List D) : kAny (.flst ds) M = .ok (IT.fix ds) M := rfl
theorem kAny_own {n : Nat} {ds : List D} (h : lstOf M (.own n) = some ds) : kAny (.own n) M = .ok (IT.own n) M := by
  show kLst (.own n) M = _
  unfold kLst
  show (match IT.at_ (IT.own n) M with | some _ => Res.ok (IT.own n) M | none => .bad) = _
  show (match lstOf M (.own n) with | some _ => Res.ok (IT.own n) M | none => .bad) = _
  rw [h]
theorem kLst_own {n : Nat} {ds : List D} (h : lstOf M (.own n) = some ds) : kLst (.own n) M = .ok (IT.own n) M := kAny_own h
theorem intUp_range : ∀ (n : Nat) (lo : Int), intUp lo n = (List.range n).map fun (i : Nat) => D.int (lo + i)
  | 0, _ => rfl
  | n + 1, lo => by
    rw [intUp, intUp_range n, List.range_succ_eq_map, List.map_cons, List.map_map]
    refine List.cons_eq_cons.2 ⟨by simp, List.map_congr_left fun i _ => ?_⟩
    show D.int (lo + 1 + i) = D.int (lo + (i + 1 : Nat))
    rw [Int.add_assoc]
    congr 1
    omega
@[simp] theorem forI_own (m l : Nat) (g : FG) (s : FS) : forI g s m (IT.own l) ρ M = forO g s l m 0 ρ M := rfl
theorem forO_go {g : FG} {s : FS} {l n i : Nat} {ds : List D} {d : D} (h : lstOf M (.own l) = some ds) (hd : ds[i]? = some d) : forO g s l (n + 1) i ρ M = stp g s d ρ M (forO g s l n (i + 1)) := by
  rw [forO, h]
  simp only [hd]
theorem forO_end {g : FG} {s : FS} {l n i : Nat} {ds : List D} (h : lstOf M (.own l) = some ds) (hd : ds.length ≤ i) : forO g s l (n + 1) i ρ M = .nx ρ M := by
  rw [forO, h]
  simp only [List.getElem?_eq_none hd]
theorem lcO_map {T : TgC} {ft : FE Bool} {fe : FE D} {ws : List Nat} {p : D → Bool} {f : D → D} {l : Nat} {tot : List D} (hl : lstOf M (.own l) = some tot) : ∀ (ds pre : List D) (n : Nat), tot = pre ++ ds → ds.length < n →
    (∀ d ∈ ds, ∃ ρ2, T.d d (wipeE ρ ws) = some ρ2 ∧ ft ρ2 M = .ok (p d) M ∧ (p d = true → fe ρ2 M = .ok (f d) M)) →
    lcO T ft fe ws ρ l n pre.length M = .ok ((ds.filter p).map f) M
  | [], pre, n + 1, e, hn, _ => by
    rw [lcO, hl]
    simp [e]
  | d :: ds, pre, n + 1, e, hn, h => by
    obtain ⟨ρ2, h1, h2, h3⟩ := h d List.mem_cons_self
    have ih := lcO_map hl ds (pre ++ [d]) n (by simp [e]) (by simp at hn; omega) fun e he => h e (List.mem_cons_of_mem _ he)
    have hg : tot[pre.length]? = some d := by rw [e]; simp
    rw [lcO, hl]
    simp only [hg]
    unfold lstp
    rw [h1]
    simp only [h2]
    have el : (pre ++ [d]).length = pre.length + 1 := by simp
    rw [el] at ih
    cases hp : p d with
    | true => simp only [h3 hp, ih, List.filter_cons, hp, if_true, List.map_cons]
    | false => simp only [ih, List.filter_cons, hp, Bool.false_eq_true, if_false]
  | _, _, 0, _, hn, _ => by simp at hn
@[simp] theorem lcI_own (T : TgC) (ft : FE Bool) (fe : FE D) (ws : List Nat) (l : Nat) : lcI T ft fe ws ρ (IT.own l) M = match lstOf M (.own l) with | some ds => lcO T ft fe ws ρ l (ds.length + 1) 0 M | none => .bad := rfl
/-- one rule for what is walked: a tuple, a list, a list of one's own -/
theorem lcI_map {T : TgC} {ft : FE Bool} {fe : FE D} {ws : List Nat} {p : D → Bool} {f : D → D} {d0 : D} {ds : List D} (hs : seqOf M d0 = some ds)
    (h : ∀ d ∈ ds, ∃ ρ2, T.d d (wipeE ρ ws) = some ρ2 ∧ ft ρ2 M = .ok (p d) M ∧ (p d = true → fe ρ2 M = .ok (f d) M)) :
    ∃ I, kAny d0 M = .ok I M ∧ lcI T ft fe ws ρ I M = .ok ((ds.filter p).map f) M := by
  cases d0 with
  | tup es => cases hs; exact ⟨_, rfl, lcD_map h⟩
  | lst es => cases hs; exact ⟨_, rfl, lcD_map h⟩
  | flst es => cases hs; exact ⟨_, rfl, lcD_map h⟩
  | own n =>
    have hl : lstOf M (.own n) = some ds := hs
    refine ⟨_, kAny_own hl, ?_⟩
    rw [lcI_own, hl]
    exact lcO_map hl ds [] (ds.length + 1) rfl (by omega) h
  | _ => cases hs
theorem lcD_on {α : Type} {T : TgC} {ft : FE Bool} {fe : FE D} {ws : List Nat} {inj : α → D} {p : α → Bool} {f : α → D} : ∀ {xs : List α}, (∀ x ∈ xs, ∃ ρ2, T.d (inj x) (wipeE ρ ws) = some ρ2 ∧ ft ρ2 M = .ok (p x) M ∧ (p x = true → fe ρ2 M = .ok (f x) M)) →
    lcD T ft fe ws ρ (xs.map inj) M = .ok ((xs.filter p).map f) M
  | [], _ => rfl
  | x :: xs, h => by
    obtain ⟨ρ2, h1, h2, h3⟩ := h x List.mem_cons_self
    have ih := lcD_on fun e he => h e (List.mem_cons_of_mem _ he)
    show lstp T ft fe ws ρ (inj x) M (lcD T ft fe ws ρ (xs.map inj)) = _
    unfold lstp
    rw [h1]
    simp only [h2]
    cases hp : p x with
    | true => simp only [h3 hp, ih, List.filter_cons, hp, if_true, List.map_cons]
    | false => simp only [ih, List.filter_cons, hp, Bool.false_eq_true, if_false]
theorem lcO_on {α : Type} {T : TgC} {ft : FE Bool} {fe : FE D} {ws : List Nat} {inj : α → D} {p : α → Bool} {f : α → D} {l : Nat} {tot : List D} (hl : lstOf M (.own l) = some tot) : ∀ (xs : List α) (pre : List D) (n : Nat), tot = pre ++ xs.map inj → xs.length < n →
    (∀ x ∈ xs, ∃ ρ2, T.d (inj x) (wipeE ρ ws) = some ρ2 ∧ ft ρ2 M = .ok (p x) M ∧ (p x = true → fe ρ2 M = .ok (f x) M)) →
    lcO T ft fe ws ρ l n pre.length M = .ok ((xs.filter p).map f) M
  | [], pre, n + 1, e, hn, _ => by
    rw [lcO, hl]
    simp [e]
  | x :: xs, pre, n + 1, e, hn, h => by
    obtain ⟨ρ2, h1, h2, h3⟩ := h x List.mem_cons_self
    have ih := lcO_on hl xs (pre ++ [inj x]) n (by simp [e]) (by simp at hn; omega) fun e he => h e (List.mem_cons_of_mem _ he)
    have hg : tot[pre.length]? = some (inj x) := by rw [e]; simp
    rw [lcO, hl]
    simp only [hg]
    unfold lstp
    rw [h1]
    simp only [h2]
    have el : (pre ++ [inj x]).length = pre.length + 1 := by simp
    rw [el] at ih
    cases hp : p x with
    | true => simp only [h3 hp, ih, List.filter_cons, hp, if_true, List.map_cons]
    | false => simp only [ih, List.filter_cons, hp, Bool.false_eq_true, if_false]
  | _, _, 0, _, hn, _ => by simp at hn
theorem lcI_on {α : Type} {T : TgC} {ft : FE Bool} {fe : FE D} {ws : List Nat} {inj : α → D} {p : α → Bool} {f : α → D} {d0 : D} {xs : List α} (hs : seqOf M d0 = some (xs.map inj))
    (h : ∀ x ∈ xs, ∃ ρ2, T.d (inj x) (wipeE ρ ws) = some ρ2 ∧ ft ρ2 M = .ok (p x) M ∧ (p x = true → fe ρ2 M = .ok (f x) M)) :
    ∃ I, kAny d0 M = .ok I M ∧ lcI T ft fe ws ρ I M = .ok ((xs.filter p).map f) M := by
  cases d0 with
  | tup es => cases hs; exact ⟨_, rfl, lcD_on h⟩
  | lst es => cases hs; exact ⟨_, rfl, lcD_on h⟩
  | flst es => cases hs; exact ⟨_, rfl, lcD_on h⟩
  | own n =>
    have hl : lstOf M (.own n) = some (xs.map inj) := hs
    refine ⟨_, kAny_own hl, ?_⟩
    rw [lcI_own, hl]
    simp only [List.length_map]
    exact lcO_on hl xs [] (xs.length + 1) rfl (by omega) h
  | _ => cases hs
@[simp] theorem kLc_f (ys : List D) : kLc false (.ok ys M) = if ys.length ≤ sizeLine then .ok (.lst ys) M else .bad := rfl
@[simp] theorem kLc_t (ys : List D) : kLc true (.ok ys M) = if ys.length ≤ sizeLine then .ok (.own M.length) (M ++ [.lst ys]) else .bad := rfl
@[simp] theorem dChain_eq (g g' : Sto → D → D → Option D) (fa fb fc : FE D) : dChain g g' fa fb fc ρ M = (fa ρ M).bind fun x M1 => (fb ρ M1).bind fun y M2 => match g M2 x y with
  | some (.bl true) => (fc ρ M2).bind fun z M3 => .ofO (g' M3 y z) M3
  | some (.bl false) => .ok (.bl false) M2
  | _ => .bad := rfl
@[simp] theorem dSl_eq (fa : FE D) (fl fh : FE (Option Int)) : dSl fa fl fh ρ M = (fa ρ M).bind fun x M1 => (fl ρ M1).bind fun l M2 => (fh ρ M2).bind fun h M3 => .ofO (gSl M3 x l h) M3 := rfl
@[simp] theorem dNoPart_eq : dNoPart ρ M = .ok none M := rfl
@[simp] theorem dPart_eq (f : FE D) : dPart f ρ M = (f ρ M).bind fun x M1 => match x with | .int i => .ok (some i) M1 | _ => .bad := rfl
@[simp] theorem dStar_eq (fa : FE D) (fr : FE (List D)) : dStar fa fr ρ M = (fa ρ M).bind fun x M1 => match seqOf M1 x with | some ds => (fr ρ M1).bind fun xs M2 => .ok (ds ++ xs) M2 | none => .bad := rfl
@[simp] theorem iZip_eq (fs : FE (List D)) : iZipD fs ρ M = (fs ρ M).bind kZip := rfl
@[simp] theorem kZip_tup (xs ys : List D) : kZip [.tup xs, .tup ys] M = .ok (IT.fix (zipT xs ys)) M := rfl
@[simp] theorem gIs_non (d : D) : gIs M d .non = some (.bl (isNon d)) := rfl
@[simp] theorem gIsNot_non (d : D) : gIsNot M d .non = some (.bl (!isNon d)) := rfl
@[simp] theorem gIs_bl (a b : Bool) : gIs M (.bl a) (.bl b) = some (.bl (decide (a = b))) := rfl
@[simp] theorem isNon_non : isNon .non = true := rfl
@[simp] theorem isNon_tup (ds : List D) : isNon (.tup ds) = false := rfl
@[simp] theorem isNon_int (i : Int) : isNon (.int i) = false := rfl
@[simp] theorem isNon_bl (i : Bool) : isNon (.bl i) = false := rfl
@[simp] theorem isNon_str (i : Str) : isNon (.str i) = false := rfl
@[simp] theorem isNon_lst (ds : List D) : isNon (.lst ds) = false := rfl
@[simp] theorem isNon_own (n : Nat) : isNon (.own n) = false := rfl
@[simp] theorem len_tup (ds : List D) : gLen M [.tup ds] = some (.int ds.length) := rfl
@[simp] theorem len_lst (ds : List D) : gLen M [.lst ds] = some (.int ds.length) := rfl
theorem bls_map {α : Type} (f : α → Bool) : ∀ l : List α, bls (l.map fun x => D.bl (f x)) = some (l.map f)
  | [] => rfl
  | x :: l => by rw [List.map_cons, bls, bls_map f l]; rfl
theorem forD_it {g : FG} {s : FS} (S : Nat → DL.Env × Sto) : ∀ (ds pre : List D) , (∀ i d, (pre ++ ds)[i]? = some d → ∀ k, stp g s d (S i).1 (S i).2 k = k (S (i + 1)).1 (S (i + 1)).2) → forD g s ds (S pre.length).1 (S pre.length).2 = .nx (S (pre ++ ds).length).1 (S (pre ++ ds).length).2
  | [], pre, _ => by simp
  | d :: ds, pre, h => by
    have h1 := h pre.length d (by simp)
    have ih := forD_it S ds (pre ++ [d]) (by simpa using h)
    rw [forD_cons, h1]
    simpa using ih
theorem forO_it {g : FG} {s : FS} {l : Nat} (S : Nat → DL.Env × Sto) {tot : List D} (hl : ∀ i, i ≤ tot.length → lstOf (S i).2 (.own l) = some tot) : ∀ (ds pre : List D) (n : Nat), tot = pre ++ ds → ds.length < n → (∀ i d, tot[i]? = some d → ∀ k, stp g s d (S i).1 (S i).2 k = k (S (i + 1)).1 (S (i + 1)).2) → forO g s l n pre.length (S pre.length).1 (S pre.length).2 = .nx (S tot.length).1 (S tot.length).2
  | [], pre, n + 1, e, _, _ => by
    have hp : pre.length = tot.length := by rw [e]; simp
    rw [forO_end (hl _ (by omega)) (by omega), hp]
  | d :: ds, pre, n + 1, e, hn, h => by
    have hg : tot[pre.length]? = some d := by rw [e]; simp
    have h1 := h pre.length d hg
    have ih := forO_it S hl ds (pre ++ [d]) n (by simp [e]) (by simp at hn; omega) h
    rw [forO_go (hl _ (by rw [e]; simp)) hg, h1]
    have el : (pre ++ [d]).length = pre.length + 1 := by simp
    rw [el] at ih
    exact ih
  | _, _, 0, _, hn, _ => by omega
/-- a loop without a way out, over a tuple or a list that stays as it is -/
theorem forI_it {g : FG} {s : FS} {x : D} {ds : List D} {m : Nat} (S : Nat → DL.Env × Sto) (hx : ∀ i, i ≤ ds.length → seqOf (S i).2 x = some ds) (hm : ds.length < m) (h : ∀ i d, ds[i]? = some d → ∀ k, stp g s d (S i).1 (S i).2 k = k (S (i + 1)).1 (S (i + 1)).2) :
    ∃ I, kAny x (S 0).2 = .ok I (S 0).2 ∧ forI g s m I (S 0).1 (S 0).2 = .nx (S ds.length).1 (S ds.length).2 := by
  have h0 := hx 0 (Nat.zero_le _)
  cases x with
  | tup es => cases h0; exact ⟨_, rfl, by rw [forI_fix]; simpa using forD_it S ds [] (by simpa using h)⟩
  | lst es => cases h0; exact ⟨_, rfl, by rw [forI_fix]; simpa using forD_it S ds [] (by simpa using h)⟩
  | flst es => cases h0; exact ⟨_, rfl, by rw [forI_fix]; simpa using forD_it S ds [] (by simpa using h)⟩
  | own n =>
    refine ⟨_, kAny_own h0, ?_⟩
    rw [forI_own]
    exact forO_it S hx ds [] m rfl hm h
  | _ => cases h0
theorem cut_from {α : Type} (xs : List α) (n : Nat) (h : n ≤ xs.length) : cut xs (some (n : Int)) none = xs.drop n := by
  unfold cut
  have e1 : HT.sIx xs.length 0 (some (n : Int)) = n := by
    rw [HT.sIx_nat]; omega
  have e2 : HT.sIx xs.length xs.length none = xs.length := rfl
  rw [e1, e2]
  rw [List.take_of_length_le (by simp)]
theorem ix_tup' {ds : List D} {i : Int} : gIx M (.tup ds) (.int i) = atI ds i := rfl
theorem gMax_ints {M : Sto} {x : D} {ds : List D} {i : Int} {is : List Int} (h : lstOf M x = some ds) (hi : ds = (i :: is).map D.int) : gMax M [x] = some (.int (maxI i is)) := by
  have e : ∀ l : List Int, intsOf (l.map D.int) = some l := by
    intro l
    induction l with
    | nil => rfl
    | cons a l ih => rw [List.map_cons, intsOf, ih]; rfl
  cases x with
  | int j => cases h
  | _ => simp only [gMax, h, hi, e]
end
end DL
set_option maxHeartbeats 4000000
/-! DLU: plain equations, on: exceptions with a field, enumerate, zip of changing lists. -/
namespace DL
open PySem L2
section
variable {M : Sto} {ρ : Env}
@[simp] theorem sRaiseF_eq (c : Nat) (f : Str) (fa : FE D) : sRaiseF c f fa ρ M = (fa ρ M).thn ρ fun d M' => .exc c [f] [d] ρ M' := rfl
@[simp] theorem iEnum_eq (fs : FE (List D)) : iEnumD fs ρ M = (fs ρ M).bind kEnum := rfl
@[simp] theorem kEnum_lst (ds : List D) : kEnum [.lst ds] M = .ok (IT.fix (enumT ds)) M := rfl
@[simp] theorem kEnum_flst (ds : List D) : kEnum [.flst ds] M = .ok (IT.fix (enumT ds)) M := rfl
@[simp] theorem kEnum_tup (ds : List D) : kEnum [.tup ds] M = .ok (IT.fix (enumT ds)) M := rfl
theorem kEnum_own {n : Nat} {ds : List D} (h : lstOf M (.own n) = some ds) : kEnum [.own n] M = .ok (IT.gen fun M => (lstOf M (.own n)).map enumT) M := by
  unfold kEnum
  simp only [h]
@[simp] theorem dFldX_eq (cs : List Nat) (f : Str) (fa : FE D) : dFldX cs f fa ρ M = (fa ρ M).bind fun x M1 => .ofO (gFldX cs f x) M1 := rfl
@[simp] theorem dDisp1_eq (fs : FE (List D)) (fv : FE D) : dDisp1 fs fv ρ M = (fs ρ M).bind fun xs M1 => if xs.length ≤ sizeLine then (match keysOf xs with | some ks => (fv ρ M1).bind fun y M2 => .ok (.dit [ks] [y]) M2 | none => .bad) else .bad := rfl
@[simp] theorem forI_gen (m : Nat) (g : FG) (s : FS) (f : Sto → Option (List D)) : forI g s m (IT.gen f) ρ M = forE g s f m 0 ρ M := rfl
theorem forE_go {g : FG} {s : FS} {f : Sto → Option (List D)} {n i : Nat} {ds : List D} {d : D} (h : f M = some ds) (hd : ds[i]? = some d) : forE g s f (n + 1) i ρ M = stp g s d ρ M (forE g s f n (i + 1)) := by
  rw [forE, h]
  simp only [hd]
theorem forE_end {g : FG} {s : FS} {f : Sto → Option (List D)} {n i : Nat} {ds : List D} (h : f M = some ds) (hd : ds.length ≤ i) : forE g s f (n + 1) i ρ M = .nx ρ M := by
  rw [forE, h]
  simp only [List.getElem?_eq_none hd]
/-- turns over what a source tells, none of which leaves -/
theorem forE_it {g : FG} {s : FS} {f : Sto → Option (List D)} (S : Nat → DL.Env × Sto) {tot : List D} (hl : ∀ i, i ≤ tot.length → f (S i).2 = some tot) : ∀ (ds pre : List D) (n : Nat), tot = pre ++ ds → ds.length < n → (∀ i d, tot[i]? = some d → ∀ k, stp g s d (S i).1 (S i).2 k = k (S (i + 1)).1 (S (i + 1)).2) → forE g s f n pre.length (S pre.length).1 (S pre.length).2 = .nx (S tot.length).1 (S tot.length).2
  | [], pre, n, e, hn, h => by
    obtain ⟨n, rfl⟩ : ∃ m, n = m + 1 := ⟨n - 1, by simp at hn; omega⟩
    have e' : tot = pre := by rw [e]; simp
    rw [forE_end (hl _ (Nat.le_of_eq (by rw [e']))) (Nat.le_of_eq (by rw [e']))]
    rw [e']
  | d :: ds, pre, n, e, hn, h => by
    obtain ⟨n, rfl⟩ : ∃ m, n = m + 1 := ⟨n - 1, by simp at hn; omega⟩
    have hi : tot[pre.length]? = some d := by rw [e]; simp
    rw [forE_go (hl _ (by rw [e]; simp)) hi, h _ _ hi]
    have := forE_it S hl ds (pre ++ [d]) n (by rw [e]; simp) (by simp at hn; omega) h
    simpa using this
theorem zipM_of {x y : D} {xs ys : List D} (hx : lstOf M x = some xs) (hy : lstOf M y = some ys) : zipM x y M = some (zipT xs ys) := by
  unfold zipM
  simp only [hx, hy]
/-- any two lists, walked side by side, none of whose turns leaves -/
theorem zip_it {g : FG} {s : FS} {x y : D} {xs ys : List D} {m : Nat} (S : Nat → DL.Env × Sto) (ht : ∀ zs, x ≠ .tup zs) (hx : ∀ i, i ≤ (zipT xs ys).length → lstOf (S i).2 x = some xs) (hy : ∀ i, i ≤ (zipT xs ys).length → lstOf (S i).2 y = some ys) (hm : (zipT xs ys).length < m)
    (h : ∀ i d, (zipT xs ys)[i]? = some d → ∀ k, stp g s d (S i).1 (S i).2 k = k (S (i + 1)).1 (S (i + 1)).2) :
    ∃ I, kZip [x, y] (S 0).2 = .ok I (S 0).2 ∧ forI g s m I (S 0).1 (S 0).2 = .nx (S (zipT xs ys).length).1 (S (zipT xs ys).length).2 := by
  have e : kZip [x, y] (S 0).2 = match fixL x, fixL y with
    | some xs, some ys => .ok (IT.fix (zipT xs ys)) (S 0).2
    | _, _ => match lstOf (S 0).2 x, lstOf (S 0).2 y with
      | some _, some _ => .ok (IT.gen (zipM x y)) (S 0).2
      | _, _ => .bad := by
    unfold kZip
    split
    · rename_i a b q
      cases q
      exact absurd rfl (ht _)
    · rename_i q1 q2 q
      cases q
      rfl
    · rename_i q1 q2
      exact absurd rfl (q2 x y)
  have gen : forI g s m (IT.gen (zipM x y)) (S 0).1 (S 0).2 = .nx (S (zipT xs ys).length).1 (S (zipT xs ys).length).2 := by
    have := forE_it (g := g) (s := s) (f := zipM x y) S (tot := zipT xs ys) (fun i hi => zipM_of (hx i hi) (hy i hi)) (zipT xs ys) [] m rfl hm h
    exact this
  have fx : forI g s m (IT.fix (zipT xs ys)) (S 0).1 (S 0).2 = .nx (S (zipT xs ys).length).1 (S (zipT xs ys).length).2 := by
    have := forD_it (g := g) (s := s) S (zipT xs ys) [] (by simpa using h)
    simpa using this
  have hx0 := hx 0 (Nat.zero_le _)
  have hy0 := hy 0 (Nat.zero_le _)
  have fl : ∀ {d : D} {ds : List D} {N : Sto}, fixL d = some ds → lstOf N d = some ds := by
    intro d ds N h
    cases d <;> first | exact h | cases h
  rw [e]
  split
  · rename_i a b q1 q2
    rw [fl q1] at hx0
    rw [fl q2] at hy0
    cases hx0
    cases hy0
    exact ⟨_, rfl, fx⟩
  · rw [hx0, hy0]
    exact ⟨_, rfl, gen⟩
@[simp] theorem isTy2_lt_non : isTy2 "list" "tuple" .non = some false := by decide +kernel
@[simp] theorem isTy2_lt_bl : isTy2 "list" "tuple" .bl = some false := by decide +kernel
@[simp] theorem isTy2_lt_int : isTy2 "list" "tuple" .int = some false := by decide +kernel
@[simp] theorem isTy2_lt_str : isTy2 "list" "tuple" .str = some false := by decide +kernel
@[simp] theorem isTy2_lt_tup : isTy2 "list" "tuple" .tup = some true := by decide +kernel
@[simp] theorem isTy2_lt_lst : isTy2 "list" "tuple" .lst = some true := by decide +kernel
@[simp] theorem isTy2_lt_dic : isTy2 "list" "tuple" .dic = some false := by decide +kernel
end
end DL
namespace DL
open PySem L2
theorem gAdd_l {M : Sto} {x y : D} {as bs : List D} (hx : lst0 M x = some as) (hy : lst0 M y = some bs) (h : as.length + bs.length ≤ sizeLine) : gAdd M x y = some (.lst (as ++ bs)) := by
  have e : gAdd M x y = match lst0 M x, lst0 M y with
    | some as, some bs => if as.length + bs.length ≤ sizeLine then some (.lst (as ++ bs)) else none
    | _, _ => none := by
    cases x <;> first | (cases hx; done) | (cases y <;> first | (cases hy; done) | rfl)
  rw [e, hx, hy]
  exact if_pos h
theorem gAdd_lst {M : Sto} {as bs : List D} (h : as.length + bs.length ≤ sizeLine) : gAdd M (.lst as) (.lst bs) = some (.lst (as ++ bs)) := if_pos h
theorem lst0_ofD {M : Sto} {x : D} {ds : List D} (h : lst0 M x = some ds) : lstOf M x = some ds ∧ seqOf M x = some ds ∧ (∀ zs, x ≠ .tup zs) ∧ ∀ s, x ≠ .str s := by
  cases x <;> first | (cases h; done) | exact ⟨h, h, (fun zs z => by cases z), fun zs z => by cases z⟩
theorem cut_to {α : Type} (xs : List α) (n : Nat) (h : n ≤ xs.length) : cut xs none (some (n : Int)) = xs.take n := by
  unfold cut
  have h1 : HT.sIx xs.length 0 none = 0 := rfl
  have h2 : HT.sIx xs.length xs.length (some (n : Int)) = n := by
    rw [HT.sIx_nat]
    omega
  rw [h1, h2]
  simp
theorem gSl_l0 {M : Sto} {x : D} {ds : List D} (h : lst0 M x = some ds) (lo hi : Option Int) : gSl M x lo hi = some (.lst (cut ds lo hi)) := by
  obtain ⟨h1, _, ht, hs⟩ := lst0_ofD h
  unfold gSl
  split
  · exact absurd rfl (hs _)
  · exact absurd rfl (ht _)
  · rw [h1]; rfl
theorem gLen_l0 {M : Sto} {x : D} {ds : List D} (h : seqOf M x = some ds) (hs : ∀ s, x ≠ .str s) : gLen M [x] = some (.int ds.length) := by
  unfold gLen
  split
  · rename_i q; cases q; exact absurd rfl (hs _)
  · rename_i q; cases q; rw [h]; rfl
  · rename_i q1 q2; exact absurd rfl (q2 _)
theorem gIx_l0 {M : Sto} {x : D} {ds : List D} (h : seqOf M x = some ds) (hs : ∀ s, x ≠ .str s) (i : Int) : gIx M x (.int i) = atI ds i := by
  have e : gIx M x (.int i) = match seqOf M x with
    | some ds => atI ds i
    | none => none := by
    cases x <;> first | rfl | exact absurd rfl (hs _)
  rw [e, h]
theorem gTuple_l0 {M : Sto} {x : D} {ds : List D} (h : lst0 M x = some ds) : gTuple M [x] = some (.tup ds) := by
  obtain ⟨h1, _, ht, hs⟩ := lst0_ofD h
  unfold gTuple
  split
  · rename_i q; cases q; exact absurd rfl (ht _)
  · rename_i q; cases q; rw [h1]; rfl
  · rename_i q1 q2; exact absurd rfl (q2 _)
theorem gList_l0 {M : Sto} {x : D} {ds : List D} (h : seqOf M x = some ds) : gList M [x] = some (.lst ds) := by
  show (seqOf M x).map D.lst = _
  rw [h]
  rfl
end DL
namespace DL
open PySem L2
/-! ### walks whose items stay while the store grows -/
structure Walk (L : Nat → Env → Sto → Out) (g : FG) (s : FS) (tot : List D) (M0 : Sto) : Prop where
  step : ∀ i d ρ J, tot[i]? = some d → L i ρ (M0 ++ J) = stp g s d ρ (M0 ++ J) (L (i + 1))
  stop : ∀ ρ J, L tot.length ρ (M0 ++ J) = .nx ρ (M0 ++ J)
theorem walk_fix (g : FG) (s : FS) (tot : List D) (M0 : Sto) : Walk (fun i => forD g s (tot.drop i)) g s tot M0 :=
  ⟨fun i d ρ J h => by
    obtain ⟨hi, e⟩ := List.getElem?_eq_some_iff.1 h
    show forD g s (tot.drop i) ρ _ = _
    rw [List.drop_eq_getElem_cons hi, e, forD_cons], fun ρ J => by
    show forD g s (tot.drop tot.length) ρ _ = _
    rw [List.drop_length]
    rfl⟩
theorem walk_gen {g : FG} {s : FS} {tot : List D} {M0 : Sto} {f : Sto → Option (List D)} {m : Nat} (hf : ∀ J, f (M0 ++ J) = some tot) (hm : tot.length < m) : Walk (fun i => forE g s f (m - i) i) g s tot M0 :=
  ⟨fun i d ρ J h => by
    obtain ⟨hi, e⟩ := List.getElem?_eq_some_iff.1 h
    show forE g s f (m - i) i ρ _ = _
    obtain ⟨n, hn⟩ : ∃ n, m - i = n + 1 := ⟨m - i - 1, by omega⟩
    rw [hn, forE_go (hf J) h]
    have : m - (i + 1) = n := by omega
    rw [this], fun ρ J => by
    show forE g s f (m - tot.length) tot.length ρ _ = _
    obtain ⟨n, hn⟩ : ∃ n, m - tot.length = n + 1 := ⟨m - tot.length - 1, by omega⟩
    rw [hn, forE_end (hf J) (Nat.le_refl _)]⟩
theorem walk_own {g : FG} {s : FS} {tot : List D} {M0 : Sto} {l m : Nat} (hf : ∀ J, lstOf (M0 ++ J) (.own l) = some tot) (hm : tot.length < m) : Walk (fun i => forO g s l (m - i) i) g s tot M0 :=
  ⟨fun i d ρ J h => by
    obtain ⟨hi, e⟩ := List.getElem?_eq_some_iff.1 h
    show forO g s l (m - i) i ρ _ = _
    obtain ⟨n, hn⟩ : ∃ n, m - i = n + 1 := ⟨m - i - 1, by omega⟩
    rw [hn, forO_go (hf J) h]
    have : m - (i + 1) = n := by omega
    rw [this], fun ρ J => by
    show forO g s l (m - tot.length) tot.length ρ _ = _
    obtain ⟨n, hn⟩ : ∃ n, m - tot.length = n + 1 := ⟨m - tot.length - 1, by omega⟩
    rw [hn, forO_end (hf J) (Nat.le_refl _)]⟩
theorem walk_any {g : FG} {s : FS} {ds : List D} {M0 : Sto} {x : D} (m : Nat) (hx : ∀ J, seqOf (M0 ++ J) x = some ds) (hm : ds.length < m) :
    ∃ I L, (∀ J, kAny x (M0 ++ J) = .ok I (M0 ++ J)) ∧ (∀ ρ J, forI g s m I ρ (M0 ++ J) = L 0 ρ (M0 ++ J)) ∧ Walk L g s ds M0 := by
  have h0 := hx []
  rw [List.append_nil] at h0
  cases x with
  | tup es => cases h0; exact ⟨_, _, fun J => rfl, fun ρ J => rfl, walk_fix g s _ M0⟩
  | lst es => cases h0; exact ⟨_, _, fun J => rfl, fun ρ J => rfl, walk_fix g s _ M0⟩
  | flst es => cases h0; exact ⟨_, _, fun J => rfl, fun ρ J => rfl, walk_fix g s _ M0⟩
  | own l => exact ⟨_, fun i => forO g s l (m - i) i, fun J => kAny_own (hx J), fun ρ J => rfl, walk_own hx hm⟩
  | _ => cases h0
theorem enumT_length (ds : List D) : (enumT ds).length = ds.length := enumT_len ds
theorem walk_enum {g : FG} {s : FS} {ds : List D} {M0 : Sto} {x : D} (m : Nat) (hx : ∀ J, seqOf (M0 ++ J) x = some ds) (hm : ds.length < m) :
    ∃ I L, (∀ J, kEnum [x] (M0 ++ J) = .ok I (M0 ++ J)) ∧ (∀ ρ J, forI g s m I ρ (M0 ++ J) = L 0 ρ (M0 ++ J)) ∧ Walk L g s (enumT ds) M0 := by
  have h0 := hx []
  rw [List.append_nil] at h0
  cases x with
  | tup es => cases h0; exact ⟨_, _, fun J => rfl, fun ρ J => rfl, walk_fix g s _ M0⟩
  | lst es => cases h0; exact ⟨_, _, fun J => rfl, fun ρ J => rfl, walk_fix g s _ M0⟩
  | flst es => cases h0; exact ⟨_, _, fun J => rfl, fun ρ J => rfl, walk_fix g s _ M0⟩
  | own l => exact ⟨_, fun i => forE g s (fun M => (lstOf M (.own l)).map enumT) (m - i) i, fun J => kEnum_own (hx J), fun ρ J => rfl, walk_gen (f := fun M => (lstOf M (.own l)).map enumT) (fun J => by
      have h : lstOf (M0 ++ J) (.own l) = some ds := hx J
      show (lstOf (M0 ++ J) (.own l)).map enumT = _
      rw [h]; rfl) (by rw [enumT_length]; exact hm)⟩
  | _ => cases h0
end DL
namespace DL
open PySem L2
theorem gEqB_flip {M : Sto} {x y : D} {b : Bool} (h : gEqB true M x y = some (.bl b)) : gEqB false M x y = some (.bl (!b)) := by
  unfold gEqB at h ⊢
  cases hf : flatEq x y with
  | some c =>
    rw [hf] at h
    simp at h ⊢
    rw [← h]
  | none =>
    rw [hf] at h
    simp only at h ⊢
    cases hx : toPy M x with
    | none => rw [hx] at h; cases h
    | some d =>
      cases hy : toPy M y with
      | none => rw [hx, hy] at h; cases h
      | some e =>
        rw [hx, hy] at h
        simp only at h ⊢
        split at h
        · rename_i hs
          rw [if_pos hs]
          simp at h ⊢
          rw [← h]
        · cases h
end DL
set_option maxHeartbeats 4000000
/-! PM1: plain equations, on: texts, sets of texts, instances. -/
namespace DL
open PySem L2
open PySem.PyData (strOk)
section
variable {M : Sto} {ρ : Env}
@[simp] theorem iStr'_eq (f : FE D) : iStr' f ρ M = (f ρ M).bind kStr' := (rfl)
@[simp] theorem kStr'_str (x : Str) : kStr' (.str x) M = .ok (IT.fix (chrs x)) M := (rfl)
@[simp] theorem dSortSet_eq (f : FE D) : dSortSet f ρ M = (f ρ M).bind kSortSet := (rfl)
theorem kSortSet_txt {xs : List Str} (h : xs.length < 4000) : kSortSet (.tup (xs.map .str)) M = .ok (.lst ((sortT (uniq xs)).map .str)) M := by
  unfold kSortSet
  simp only [txts_map]
  rw [if_pos (by have : scanBound = 4096 := rfl
                 omega)]
@[simp] theorem dSm_eq (g : Sto → D → List D → Option D) (fo : FE D) (fs : FE (List D)) : dSm g fo fs ρ M = (fo ρ M).bind fun x M1 => if isStr x = true then (fs ρ M1).bind fun ds M2 => .ofO (g M2 x ds) M2 else .bad := (rfl)
@[simp] theorem isStr_str (x : Str) : isStr (.str x) = true := (rfl)
@[simp] theorem dTm_eq (g : Sto → D → List D → Option D) (fo : FE D) (fs : FE (List D)) : dTm g fo fs ρ M = (fo ρ M).bind fun x M1 => if isTp x = true then (fs ρ M1).bind fun ds M2 => .ofO (g M2 x ds) M2 else .bad := (rfl)
@[simp] theorem isTp_tup (x : List D) : isTp (.tup x) = true := (rfl)
@[simp] theorem dFld_eq (cs : List Nat) (f : Str) (fa : FE D) : dFld cs f fa ρ M = (fa ρ M).bind fun x M1 => .ofO (fldOf M1 cs f x) M1 := (rfl)
@[simp] theorem dLenO_eq (c : Nat) (F : List D → Sto → Res D) (fa : FE D) : dLenO c F fa ρ M = (fa ρ M).bind (kLenO c F) := (rfl)
theorem kLenO_obj {c : Nat} {F : List D → Sto → Res D} {fs : List Str} {vs : List D} {n : Nat} (h : F [.obj c fs vs] M = .ok (.int n) M) (hn : n < 1000000) : kLenO c F (.obj c fs vs) M = .ok (.int n) M := by
  have e : kLenO c F (.obj c fs vs) M = if c = c then match F [.obj c fs vs] M with
    | .ok (.int n) M2 => if 0 ≤ n ∧ n < 2 ^ 63 then .ok (.int n) M2 else .bad
    | _ => .bad else .bad := rfl
  rw [e, if_pos rfl, h]
  exact if_pos ⟨by omega, by omega⟩
theorem dEqO_eq (c : Nat) (neg : Bool) (F : List D → Sto → Res D) (fa fb : FE D) : dEqO c neg F fa fb ρ M = (fa ρ M).bind fun x M1 => (fb ρ M1).bind fun y M2 => match kEqO c neg F x y M2 with
  | .ok d M3 => .ok d M3
  | _ => .bad := rfl
theorem dEqO_ok {c : Nat} {neg : Bool} {F : List D → Sto → Res D} {fa fb : FE D} {M1 M2 M3 : Sto} {y : D} {fs : List Str} {vs : List D} {k : Kd} {b : Bool} (ha : fa ρ M = .ok (.obj c fs vs) M1) (hb : fb ρ M1 = .ok y M2) (hk : kdOf M2 y = some k) (hq : kdEq c k = true) (hF : F [.obj c fs vs, y] M2 = .ok (.bl b) M3) :
    dEqO c neg F fa fb ρ M = .ok (.bl (if neg then !b else b)) M3 := by
  rw [dEqO_eq, ha, bind_ok, hb, bind_ok]
  have e : kEqO c neg F (.obj c fs vs) y M2 = match some (c, fs, vs), kdOf M2 y with
    | some (c', _, _), some k => if c' = c ∧ kdEq c k = true then (F [.obj c fs vs, y] M2).bind fun d M2 => match d with
      | .bl b => .ok (.bl (if neg then !b else b)) M2
      | _ => .bad else .bad
    | _, _ => .bad := rfl
  rw [e, hk]
  simp only [hq, and_self, if_true, hF, bind_ok]
@[simp] theorem dNewF_eq (c : Nat) (F : List D → Sto → Res D) (fs : FE (List D)) : dNewF c F fs ρ M = (fs ρ M).bind fun ds M1 => (F (.own M1.length :: ds) (M1 ++ [.ins c [] []])).bind (finN c M1) := (rfl)
@[simp] theorem dNewK_eq (c : Nat) (F : List D → Sto → Res D) (m : Nat) (ix : List Nat) (fk : FE (List D)) : dNewK c F m ix fk ρ M = (fk ρ M).bind fun ds M1 => (F (gath 1 m ix [.own M1.length] ds) (M1 ++ [.ins c [] []])).bind (finN c M1) := (rfl)
@[simp] theorem finN_non (c : Nat) (M1 M2 : Sto) : finN c M1 .non M2 = finO c M1 M2 := (rfl)
@[simp] theorem sFldS_eq (cs : List Nat) (f : Str) (fo fv : FE D) : sFldS cs f fo fv ρ M = (fv ρ M).thn ρ fun y M1 => (fo ρ M1).thn ρ fun x M2 => kFldS cs f y x ρ M2 := (rfl)
theorem kFldS_last {c : Nat} {cs : List Nat} {f : Str} {y : D} {fs : List Str} {vs : List D} (hc : c ∈ cs) (hl : fs.length < 1000) : kFldS cs f y (.own M.length) ρ (M ++ [.ins c fs vs]) = .nx ρ (M ++ [.ins c (putN f fs) (putD f y fs vs)]) := by
  unfold kFldS
  simp only [List.getElem?_append_right (Nat.le_refl _), Nat.sub_self, List.getElem?_cons_zero]
  rw [if_pos ⟨hc, hl⟩]
  congr 1
  rw [List.set_append_right _ _ (Nat.le_refl _), Nat.sub_self]
  rfl
@[simp] theorem dLrg_eq (f : FE D) : dLrg f ρ M = (f ρ M).bind kLrg := (rfl)
theorem kLrg_int {n : Nat} (h : n < 1000000) : kLrg (.int n) M = .ok (.lst (intUp 0 n)) M := by
  have e : kLrg (.int n) M = if (0 : Int) ≤ n ∧ (n : Int) ≤ 16777216 then .ok (.lst (intUp 0 (n : Int).toNat)) M else .bad := rfl
  rw [e, if_pos ⟨by omega, by omega⟩]
  rfl
@[simp] theorem dRev_eq (fa : FE D) : dRev fa ρ M = (fa ρ M).bind fun x M1 => .ofO (gRev M1 x) M1 := (rfl)
@[simp] theorem kIsi_obj (r : Kd → Option Bool) (c : Nat) (fs : List Str) (vs : List D) : kIsi r (.obj c fs vs) M = isR (r (.obj c)) M := (rfl)
/-! ### letters -/
abbrev sgs : Str := "abcdefghijklmnopqrstuvwxyzABCDEFGHIJKLMNOPQRSTUVWXYZ0123456789."
/-- a letter -/
def Lt (s : Str) : Prop := 1 ≤ s.length ∧ s.length ≤ 12 ∧ ∀ c ∈ s.cps.toList, c ∈ sgs.cps.toList
theorem in_sgs {c : Nat} (h : c ∈ sgs.cps.toList) : gIn M (.str ⟨#[c]⟩) (.str sgs) = some (.bl true) := by
  have k : ∀ c ∈ sgs.cps.toList, (!(Builtin.Str.occurrences sgs ⟨#[c]⟩ 0 sgs.length 1).isEmpty) = true := by decide +kernel
  show some (D.bl (if false = true then _ else (!(Builtin.Str.occurrences sgs ⟨#[c]⟩ 0 sgs.length 1).isEmpty))) = _
  rw [k c h]
  rfl
def isIn (j i : Str) : Bool := !(Builtin.Str.occurrences j i 0 j.length 1).isEmpty
theorem gIn_str (i j : Str) : gInB false M (.str i) (.str j) = some (.bl (isIn j i)) := rfl
theorem strOk_of {s : Str} (h : ∀ c ∈ s.cps.toList, c ∈ sgs.cps.toList) : strOk s = true := by
  have k : ∀ c ∈ sgs.cps.toList, c < 0x110000 := by decide +kernel
  unfold strOk
  rw [← Array.all_toList, List.all_eq_true]
  intro c hc
  exact decide_eq_true (k c (h c hc))
theorem Lt.ok {s : Str} (h : Lt s) : strOk s = true := strOk_of h.2.2
theorem lt_len {s : Str} (h : Lt s) : gLen M [.str s] = some (.int s.length) := if_pos (by have := h.2.1; have := sizeLine_eq; omega)
theorem toPys_str : ∀ l : List Str, toPys M (l.map D.str) = some (l.map PyData.str)
  | [] => rfl
  | i :: l => by
    show (match toPy M (D.str i), toPys M (l.map D.str) with | some d, some ds => some (d :: ds) | _, _ => none) = _
    rw [toPys_str l]
    rfl
theorem toPysF_str : ∀ l : List Str, toPysF (l.map D.str) = some (l.map PyData.str)
  | [] => rfl
  | i :: l => by
    show (match toPyF (D.str i), toPysF (l.map D.str) with | some d, some ds => some (d :: ds) | _, _ => none) = _
    rw [toPysF_str l]
    rfl
theorem canLay_str : ∀ l : List Str, (∀ s ∈ l, strOk s = true) → PyData.canLayAll0 (l.map PyData.str) = true
  | [], _ => rfl
  | i :: l, h => by
    have h1 := h i List.mem_cons_self
    have h2 := canLay_str l fun s hs => h s (List.mem_cons_of_mem _ hs)
    simp [PyData.canLayAll0, PyData.canLay0, h1, h2]
theorem depth_str : ∀ l : List Str, PyData.depthAll (l.map PyData.str) = 0
  | [] => rfl
  | i :: l => by simp [PyData.depthAll, PyData.depth, depth_str l]
theorem shaped_tups {l : List Str} (h : ∀ s ∈ l, strOk s = true) : SeqAt.shaped (.tuple (l.map PyData.str)) = true := by simp [SeqAt.shaped, PyData.canLay0, canLay_str l h, PyData.depth, depth_str]
theorem shaped_lsts {l : List Str} (h : ∀ s ∈ l, strOk s = true) : SeqAt.shaped (.list (l.map PyData.str)) = true := by simp [SeqAt.shaped, PyData.canLay0, canLay_str l h, PyData.depth, depth_str]
theorem shaped_s {s : Str} (h : strOk s = true) : SeqAt.shaped (.str s) = true := by simp [SeqAt.shaped, PyData.canLay0, h, PyData.depth]
theorem eqvAll_str : ∀ a b : List Str, PyData.eqvAll (a.map PyData.str) (b.map PyData.str) = decide (a = b)
  | [], [] => by simp [PyData.eqvAll]
  | [], _ :: _ => by simp [PyData.eqvAll]
  | _ :: _, [] => by simp [PyData.eqvAll]
  | x :: a, y :: b => by
    rw [List.map_cons, List.map_cons, PyData.eqvAll, eqvAll_str a b]
    have : PyData.eqv (.str x) (.str y) = decide (x = y) := by
      rw [PyData.eqv]
      rfl
    rw [this]
    by_cases h : x = y <;> by_cases k : a = b <;> simp [h, k]
theorem any_str (s : Str) : ∀ l : List Str, ((l.map PyData.str).any fun z => PyData.eqv z (.str s)) = decide (s ∈ l)
  | [] => by simp
  | x :: l => by
    rw [List.map_cons, List.any_cons, any_str s l]
    have : PyData.eqv (.str x) (.str s) = decide (x = s) := by
      rw [PyData.eqv]
      rfl
    rw [this]
    by_cases h : x = s
    · subst h; simp
    · have : ¬ s = x := fun z => h z.symm
      simp [h, this]
theorem gIn_tups {neg : Bool} {s : Str} {l : List Str} (hs : strOk s = true) (hl : ∀ s ∈ l, strOk s = true) : gInB neg M (.str s) (.tup (l.map .str)) = some (.bl (if neg then !decide (s ∈ l) else decide (s ∈ l))) := by
  have h2 : toPy M (.tup (l.map .str)) = some (.tuple (l.map PyData.str)) := by
    show (toPys M (l.map D.str)).map PyData.tuple = _
    rw [toPys_str]; rfl
  have e : gInB neg M (.str s) (.tup (l.map .str)) = match toPy M (.str s), toPy M (.tup (l.map .str)) with
    | some d, some (.list es) => if SeqAt.shaped d = true ∧ SeqAt.shaped (.list es) = true then some (.bl (if neg then !(es.any fun z => PyData.eqv z d) else es.any fun z => PyData.eqv z d)) else none
    | some d, some (.tuple es) => if SeqAt.shaped d = true ∧ SeqAt.shaped (.tuple es) = true then some (.bl (if neg then !(es.any fun z => PyData.eqv z d) else es.any fun z => PyData.eqv z d)) else none
    | _, _ => none := rfl
  rw [e, h2]
  show (if SeqAt.shaped (.str s) = true ∧ SeqAt.shaped (.tuple (l.map PyData.str)) = true then some (D.bl (if neg then !((l.map PyData.str).any fun z => PyData.eqv z (.str s)) else (l.map PyData.str).any fun z => PyData.eqv z (.str s))) else none) = _
  rw [if_pos ⟨shaped_s hs, shaped_tups hl⟩, any_str]
theorem gIn_owns {neg : Bool} {s : Str} {n : Nat} {l : List Str} (hn : M[n]? = some (.lst (l.map .str))) (hs : strOk s = true) (hl : ∀ s ∈ l, strOk s = true) : gInB neg M (.str s) (.own n) = some (.bl (if neg then !decide (s ∈ l) else decide (s ∈ l))) := by
  have h2 : toPy M (.own n) = some (.list (l.map PyData.str)) := by
    show (match M[n]? with | some (.lst xs) => (toPysF xs).map PyData.list | _ => none) = _
    rw [hn]
    show (toPysF (l.map D.str)).map PyData.list = _
    rw [toPysF_str]; rfl
  have e : gInB neg M (.str s) (.own n) = match toPy M (.str s), toPy M (.own n) with
    | some d, some (.list es) => if SeqAt.shaped d = true ∧ SeqAt.shaped (.list es) = true then some (.bl (if neg then !(es.any fun z => PyData.eqv z d) else es.any fun z => PyData.eqv z d)) else none
    | some d, some (.tuple es) => if SeqAt.shaped d = true ∧ SeqAt.shaped (.tuple es) = true then some (.bl (if neg then !(es.any fun z => PyData.eqv z d) else es.any fun z => PyData.eqv z d)) else none
    | _, _ => none := rfl
  rw [e, h2]
  show (if SeqAt.shaped (.str s) = true ∧ SeqAt.shaped (.list (l.map PyData.str)) = true then some (D.bl (if neg then !((l.map PyData.str).any fun z => PyData.eqv z (.str s)) else (l.map PyData.str).any fun z => PyData.eqv z (.str s))) else none) = _
  rw [if_pos ⟨shaped_s hs, shaped_lsts hl⟩, any_str]
theorem gEq_lsts {neg : Bool} {a b : List Str} (ha : ∀ s ∈ a, strOk s = true) (hb : ∀ s ∈ b, strOk s = true) : gEqB neg M (.lst (a.map .str)) (.lst (b.map .str)) = some (.bl (if neg then !decide (a = b) else decide (a = b))) := by
  have h2 : ∀ l : List Str, toPy M (.lst (l.map .str)) = some (.list (l.map PyData.str)) := fun l => by
    show (toPys M (l.map D.str)).map PyData.list = _
    rw [toPys_str]; rfl
  have e : gEqB neg M (.lst (a.map .str)) (.lst (b.map .str)) = match toPy M (.lst (a.map .str)), toPy M (.lst (b.map .str)) with
    | some d, some e => if SeqAt.shaped d = true ∧ SeqAt.shaped e = true then some (.bl (if neg then !PyData.eqv d e else PyData.eqv d e)) else none
    | _, _ => none := rfl
  rw [e, h2, h2]
  simp only [shaped_lsts ha, shaped_lsts hb, and_self, if_true, PyData.eqv, eqvAll_str]
theorem gTIx_txt {z : Str} {l : List Str} (h : z ∈ l) : gTIx M (.tup (l.map .str)) [.str z] = some (.int (l.idxOf z : Nat)) := by
  show (match txts (l.map D.str) with
    | some ys => if z ∈ ys then some (D.int (ys.idxOf z : Nat)) else none
    | none => none) = _
  rw [txts_map]
  exact if_pos h
/-! texts, sorted -/
theorem uniq_nodup {l : List Str} (h : l.Nodup) : uniq l = l := by
  have k : ∀ (r p : List Str), (p ++ r).Nodup → r.foldl more p = p ++ r := by
    intro r
    induction r with
    | nil => intro p _; simp
    | cons x r ih =>
      intro p hp
      have hx : x ∉ p := fun z => by
        rw [List.nodup_append] at hp
        exact hp.2.2 x z x List.mem_cons_self rfl
      rw [List.foldl_cons]
      have e : more p x = p ++ [x] := by unfold more; rw [if_neg hx]
      rw [e, ih (p ++ [x]) (by simpa using hp)]
      simp
  unfold uniq
  rw [k l [] (by simpa using h)]
  rfl
theorem sortT_sortT (l : List Str) : sortT (sortT l) = sortT l := sortT_perm (List.mergeSort_perm l _)
theorem mem_sortT {s : Str} {l : List Str} : s ∈ sortT l ↔ s ∈ l := (List.mergeSort_perm l _).mem_iff
theorem nodup_sortT {l : List Str} (h : l.Nodup) : (sortT l).Nodup := (List.mergeSort_perm l txLe).nodup_iff.2 h
theorem len_sortT (l : List Str) : (sortT l).length = l.length := List.length_mergeSort l
end
/-! ### data told by their text: none, ints, texts, tuples -/
mutual
def Cl : D → Prop
  | .non => True
  | .int i => i.natAbs.log2 < 1920
  | .str s => strOk s = true ∧ s.length ≤ 100
  | .tup xs => Cls xs
  | _ => False
def Cls : List D → Prop
  | [] => True
  | x :: xs => Cl x ∧ Cls xs
end
mutual
def py : D → PyData
  | .int i => .int i
  | .str s => .str s
  | .tup xs => .tuple (pys xs)
  | _ => .none
def pys : List D → List PyData
  | [] => []
  | x :: xs => py x :: pys xs
end
mutual
/-- a bound of the text's length -/
def wt : D → Nat
  | .tup xs => wts xs + 4
  | _ => 1921
def wts : List D → Nat
  | [] => 0
  | x :: xs => wt x + 2 + wts xs
end
mutual
def nst : D → Nat
  | .tup xs => nsts xs + 1
  | _ => 0
def nsts : List D → Nat
  | [] => 0
  | x :: xs => max (nst x) (nsts xs)
end
section
variable {M : Sto}
mutual
theorem cl_py : ∀ {d : D}, Cl d → toPy M d = some (py d)
  | .non, _ => rfl
  | .int i, _ => rfl
  | .str s, _ => rfl
  | .tup xs, h => by
    show (toPys M xs).map PyData.tuple = _
    rw [cls_py (show Cls xs from h)]; rfl
theorem cls_py : ∀ {xs : List D}, Cls xs → toPys M xs = some (pys xs)
  | [], _ => rfl
  | x :: xs, h => by
    obtain ⟨h1, h2⟩ := (show Cl x ∧ Cls xs from h)
    show (match toPy M x, toPys M xs with | some d, some ds => some (d :: ds) | _, _ => none) = _
    rw [cl_py h1, cls_py h2]
    rfl
end
mutual
theorem cl_lay : ∀ {d : D}, Cl d → (py d).canLay0 = true
  | .non, _ => by simp [py, PyData.canLay0]
  | .int i, _ => by simp [py, PyData.canLay0]
  | .str s, h => by simp [py, PyData.canLay0, (show strOk s = true ∧ _ from h).1]
  | .tup xs, h => by simp [py, PyData.canLay0, cls_lay (show Cls xs from h)]
theorem cls_lay : ∀ {xs : List D}, Cls xs → PyData.canLayAll0 (pys xs) = true
  | [], _ => rfl
  | x :: xs, h => by
    obtain ⟨h1, h2⟩ := (show Cl x ∧ Cls xs from h)
    simp [pys, PyData.canLayAll0, cl_lay h1, cls_lay h2]
end
mutual
theorem cl_dep : ∀ {d : D}, Cl d → (py d).depth = nst d
  | .non, _ => by simp [py, PyData.depth, nst]
  | .int i, _ => by simp [py, PyData.depth, nst]
  | .str s, h => by simp [py, PyData.depth, nst]
  | .tup xs, h => by simp [py, PyData.depth, nst, cls_dep (show Cls xs from h)]
theorem cls_dep : ∀ {xs : List D}, Cls xs → PyData.depthAll (pys xs) = nsts xs
  | [], _ => rfl
  | x :: xs, h => by
    obtain ⟨h1, h2⟩ := (show Cl x ∧ Cls xs from h)
    simp [pys, PyData.depthAll, nsts, cl_dep h1, cls_dep h2]
end
mutual
theorem cl_show : ∀ {d : D}, Cl d → (py d).showable = true ∧ (py d).hasDict = false
  | .non, _ => by simp [py, PyData.showable, PyData.hasDict]
  | .int i, h => by
    have h : i.natAbs.log2 < 1920 := h
    simp [py, PyData.showable, PyData.hasDict, h]
  | .str s, h => by simp [py, PyData.showable, PyData.hasDict]
  | .tup xs, h => by simp [py, PyData.showable, PyData.hasDict, cls_show (show Cls xs from h)]
theorem cls_show : ∀ {xs : List D}, Cls xs → PyData.showableAll (pys xs) = true ∧ PyData.hasDictAll (pys xs) = false
  | [], _ => by simp [pys, PyData.showableAll, PyData.hasDictAll]
  | x :: xs, h => by
    obtain ⟨h1, h2⟩ := (show Cl x ∧ Cls xs from h)
    simp [pys, PyData.showableAll, PyData.hasDictAll, cl_show h1, cls_show h2]
end
mutual
theorem cl_inj : ∀ {d e : D}, Cl d → Cl e → py d = py e → d = e
  | .non, .non, _, _, _ => rfl
  | .int i, .int j, _, _, h => by cases h; rfl
  | .str i, .str j, _, _, h => by cases h; rfl
  | .tup xs, .tup ys, h1, h2, h => by
    injection h with h
    rw [cls_inj (show Cls xs from h1) (show Cls ys from h2) h]
  | .non, .int j, _, _, h => by cases h
  | .non, .str j, _, _, h => by cases h
  | .non, .tup j, _, _, h => by cases h
  | .int i, .non, _, _, h => by cases h
  | .int i, .str j, _, _, h => by cases h
  | .int i, .tup j, _, _, h => by cases h
  | .str i, .non, _, _, h => by cases h
  | .str i, .int j, _, _, h => by cases h
  | .str i, .tup j, _, _, h => by cases h
  | .tup i, .non, _, _, h => by cases h
  | .tup i, .int j, _, _, h => by cases h
  | .tup i, .str j, _, _, h => by cases h
theorem cls_inj : ∀ {xs ys : List D}, Cls xs → Cls ys → pys xs = pys ys → xs = ys
  | [], [], _, _, _ => rfl
  | [], _ :: _, _, _, h => by cases h
  | _ :: _, [], _, _, h => by cases h
  | x :: xs, y :: ys, h1, h2, h => by
    obtain ⟨a1, a2⟩ := (show Cl x ∧ Cls xs from h1)
    obtain ⟨b1, b2⟩ := (show Cl y ∧ Cls ys from h2)
    injection h with e1 e2
    rw [cl_inj a1 b1 e1, cls_inj a2 b2 e2]
end
mutual
theorem cl_eqv : ∀ {d e : D}, Cl d → Cl e → PyData.eqv (py d) (py e) = true → py d = py e
  | .non, .non, _, _, _ => rfl
  | .int i, .int j, _, _, h => by
    simp [py, PyData.eqv] at h ⊢
    exact h
  | .str i, .str j, _, _, h => by
    simp [py, PyData.eqv] at h ⊢
    exact h
  | .tup xs, .tup ys, h1, h2, h => by
    simp only [py, PyData.eqv] at h ⊢
    rw [cls_eqv (show Cls xs from h1) (show Cls ys from h2) h]
  | .non, .int j, _, _, h => by simp [py, PyData.eqv] at h
  | .non, .str j, _, _, h => by simp [py, PyData.eqv] at h
  | .non, .tup j, _, _, h => by simp [py, PyData.eqv] at h
  | .int i, .non, _, _, h => by simp [py, PyData.eqv] at h
  | .int i, .str j, _, _, h => by simp [py, PyData.eqv] at h
  | .int i, .tup j, _, _, h => by simp [py, PyData.eqv] at h
  | .str i, .non, _, _, h => by simp [py, PyData.eqv] at h
  | .str i, .int j, _, _, h => by simp [py, PyData.eqv] at h
  | .str i, .tup j, _, _, h => by simp [py, PyData.eqv] at h
  | .tup i, .non, _, _, h => by simp [py, PyData.eqv] at h
  | .tup i, .int j, _, _, h => by simp [py, PyData.eqv] at h
  | .tup i, .str j, _, _, h => by simp [py, PyData.eqv] at h
theorem cls_eqv : ∀ {xs ys : List D}, Cls xs → Cls ys → PyData.eqvAll (pys xs) (pys ys) = true → pys xs = pys ys
  | [], [], _, _, _ => rfl
  | [], _ :: _, _, _, h => by simp [pys, PyData.eqvAll] at h
  | _ :: _, [], _, _, h => by simp [pys, PyData.eqvAll] at h
  | x :: xs, y :: ys, h1, h2, h => by
    obtain ⟨a1, a2⟩ := (show Cl x ∧ Cls xs from h1)
    obtain ⟨b1, b2⟩ := (show Cl y ∧ Cls ys from h2)
    simp only [pys, PyData.eqvAll, Bool.and_eq_true] at h ⊢
    rw [cl_eqv a1 b1 h.1, cls_eqv a2 b2 h.2]
end
noncomputable def eqD (d e : D) : Bool := @decide (d = e) (Classical.propDecidable _)
theorem eqD_self (d : D) : eqD d d = true := by unfold eqD; simp
theorem eqD_ne {d e : D} (h : d ≠ e) : eqD d e = false := by unfold eqD; simp [h]
theorem gEq_cl {neg : Bool} {d e : D} (h1 : Cl d) (h2 : Cl e) (n1 : nst d ≤ 60) (n2 : nst e ≤ 60) (hf : flatEq d e = none) : gEqB neg M d e = some (.bl (if neg then !eqD d e else eqD d e)) := by
  have k1 : SeqAt.shaped (py d) = true := by simp [SeqAt.shaped, cl_lay h1, cl_dep h1]; omega
  have k2 : SeqAt.shaped (py e) = true := by simp [SeqAt.shaped, cl_lay h2, cl_dep h2]; omega
  have q : PyData.eqv (py d) (py e) = eqD d e := by
    rcases Classical.em (d = e) with hde | hde
    · subst hde
      rw [SeqAt.eqv_refl _ (cl_lay h1), eqD_self]
    · cases hq : PyData.eqv (py d) (py e) with
      | true => exact absurd (cl_inj h1 h2 (cl_eqv h1 h2 hq)) hde
      | false => rw [eqD_ne hde]
  unfold gEqB
  rw [hf]
  simp only [cl_py h1, cl_py h2, k1, k2, and_self, if_true, q]
theorem pm_app (a b : Str) : (a ++ b).length = a.length + b.length := Array.size_append
theorem pm_join : ∀ xs : List D, (∀ x ∈ xs, (py x).shown.length ≤ wt x) → (Str.join ", " ((pys xs).map PyData.shown)).length ≤ wts xs
  | [], _ => Nat.zero_le _
  | [x], h => by
    have := h x (by simp)
    show (py x).shown.length ≤ wt x + 2 + 0
    omega
  | x :: y :: r, h => by
    have ih := pm_join (y :: r) fun z hz => h z (List.mem_cons_of_mem _ hz)
    have hx := h x (by simp)
    have c2 : ((", " : Str)).length = 2 := by decide
    show ((py x).shown ++ ", " ++ Str.join ", " ((pys (y :: r)).map PyData.shown)).length ≤ wt x + 2 + wts (y :: r)
    rw [pm_app, pm_app, c2]
    omega
mutual
theorem pm_shown : ∀ {d : D}, Cl d → (py d).shown.length ≤ wt d
  | .non, _ => by show (PyData.none).shown.length ≤ 1921; rw [PyData.shown_none]; decide
  | .int i, h => by
    have := PyProof.Rows.int_text_len_1921 (show i.natAbs.log2 < 1920 from h)
    have e : PyData.shownAll [.int i] = [((toString i : String) : Str)] := PyData.shownAll_ints [i]
    rw [PyProof.Rows.shownAll_eq_map] at e
    have e2 : (PyData.int i).shown = ((toString i : String) : Str) := by simpa using e
    show (PyData.int i).shown.length ≤ 1921
    rw [e2]; omega
  | .str s, h => by
    obtain ⟨h1, h2⟩ := (show strOk s = true ∧ s.length ≤ 100 from h)
    show (PyData.str s).shown.length ≤ 1921
    rw [PyData.shown_str]
    have := StrLaws.reprText_len s (fun c hc => by
      unfold PyData.strOk at h1
      rw [← Array.all_toList, List.all_eq_true] at h1
      have := of_decide_eq_true (h1 c hc)
      have e : (16 : Nat) ^ 8 = 4294967296 := by decide
      omega)
    omega
  | .tup xs, h => by
    have hj := pm_join xs (pm_showns (show Cls xs from h))
    show (PyData.tuple (pys xs)).shown.length ≤ wts xs + 4
    rw [PyData.shown_tuple, PyProof.Rows.shownAll_eq_map]
    have c1 : (("(" : Str)).length = 1 := by decide
    have c3 : (((if ((pys xs).length == 1) = true then ",)" else ")" : String) : Str)).length ≤ 2 := by
      split
      · decide
      · decide
    simp only [pm_app, c1]
    omega
theorem pm_showns : ∀ {xs : List D}, Cls xs → ∀ x ∈ xs, (py x).shown.length ≤ wt x
  | [], _, x, hx => by cases hx
  | y :: ys, h, x, hx => by
    obtain ⟨h1, h2⟩ := (show Cl y ∧ Cls ys from h)
    have k := pm_shown h1
    rcases List.mem_cons.1 hx with e | hx
    · rw [e]; exact k
    · exact pm_showns h2 x hx
end
/-- its text -/
def tx (d : D) : D := .str (py d).shown
theorem repr_cl {d : D} (h : Cl d) (hn : nst d ≤ 60) (hw : wt d ≤ 16000000) : gRepr M [d] = some (tx d) :=
  gRepr_ok (cl_py h) (cl_show h).1 (cl_show h).2 (by rw [cl_dep h]; exact hn) (by have := pm_shown h; have := sizeLine_eq; omega)
theorem cls_of {xs : List D} (h : ∀ x ∈ xs, Cl x) : Cls xs := by
  induction xs with
  | nil => trivial
  | cons x xs ih => exact ⟨h x List.mem_cons_self, ih fun y hy => h y (List.mem_cons_of_mem _ hy)⟩
theorem wts_le {k : Nat} {xs : List D} (h : ∀ x ∈ xs, wt x ≤ k) : wts xs ≤ xs.length * (k + 2) := by
  induction xs with
  | nil => exact Nat.zero_le _
  | cons x xs ih =>
    have h1 := h x List.mem_cons_self
    have h2 := ih fun y hy => h y (List.mem_cons_of_mem _ hy)
    show wt x + 2 + wts xs ≤ _
    rw [List.length_cons, Nat.succ_mul]
    omega
theorem nsts_le {k : Nat} {xs : List D} (h : ∀ x ∈ xs, nst x ≤ k) : nsts xs ≤ k := by
  induction xs with
  | nil => exact Nat.zero_le _
  | cons x xs ih =>
    have h1 := h x List.mem_cons_self
    have h2 := ih fun y hy => h y (List.mem_cons_of_mem _ hy)
    exact Nat.max_le.2 ⟨h1, h2⟩
mutual
theorem cl_low {n : Nat} : ∀ {d : D}, Cl d → low n d = true
  | .non, _ => rfl
  | .int i, _ => rfl
  | .str s, _ => rfl
  | .tup xs, h => cls_low (show Cls xs from h)
theorem cls_low {n : Nat} : ∀ {xs : List D}, Cls xs → lows n xs = true
  | [], _ => rfl
  | x :: xs, h => by
    obtain ⟨h1, h2⟩ := (show Cl x ∧ Cls xs from h)
    show (low n x && lows n xs) = true
    rw [cl_low h1, cls_low h2]
    rfl
end
end
end DL
/-! Plain facts about corners of pairs: the walk over the sorted pairs, in coordinates X, Y. -/
namespace HU
abbrev P := Int × Int
section
variable (X Y : P → Int)
def Bt (c m o : P) : Prop := (X c - X m) * (Y o - Y c) < (Y m - Y c) * (X c - X o)
instance (c m o : P) : Decidable (Bt X Y c m o) := by unfold Bt; infer_instance
def pops (p : P) : List P → List P
  | [] => []
  | [m] => [m]
  | m :: c :: r => if Bt X Y c m p then m :: c :: r else pops p (c :: r)
def step (st : List P) (p : P) : List P := match st with
  | [] => [p]
  | m :: r => if Y p ≤ Y m then m :: r else p :: pops X Y p (m :: r)
def env (l : List P) : List P := (l.foldl (step X Y) []).reverse
def GB : List P → Prop
  | [] => True
  | o :: r => r.Pairwise (fun m c => Bt X Y c m o) ∧ GB r
def Mono (st : List P) : Prop := st.Pairwise (fun m c => X m < X c ∧ Y c < Y m)
theorem cross_trans {x1 y1 x2 y2 x3 y3 : Int} (h2x : 0 < x2) (h2y : 0 < y2) (h1x : 0 < x1) (h3x : 0 < x3) (h1y : 0 < y1) (h3y : 0 < y3) (a : x1 * y2 < y1 * x2) (b : x2 * y3 < y2 * x3) : x1 * y3 < y1 * x3 := by
  have e1 : (x1 * y2) * (x2 * y3) < (y1 * x2) * (x2 * y3) := Int.mul_lt_mul_of_pos_right a (Int.mul_pos h2x h3y)
  have e2 : (y1 * x2) * (x2 * y3) < (y1 * x2) * (y2 * x3) := Int.mul_lt_mul_of_pos_left b (Int.mul_pos h1y h2x)
  have e3 : (x2 * y2) * (x1 * y3) < (x2 * y2) * (y1 * x3) := by grind
  exact Int.lt_of_mul_lt_mul_left e3 (Int.le_of_lt (Int.mul_pos h2x h2y))
theorem bt_iff {c m o : P} : Bt X Y c m o ↔ (X c - X m) * (Y o - Y m) < (Y m - Y c) * (X m - X o) := by
  unfold Bt; constructor <;> intro h <;> grind
theorem bt_four {c' c m p : P} (h1 : X c < X c' ∧ Y c' < Y c) (h2 : X m < X c ∧ Y c < Y m) (h3 : X p < X m ∧ Y m < Y p) (a : Bt X Y c' c m) (b : Bt X Y c m p) : Bt X Y c' m p ∧ Bt X Y c' c p := by
  rw [bt_iff] at a b
  have e := cross_trans (x1 := X c' - X c) (y1 := Y c - Y c') (x2 := X c - X m) (y2 := Y m - Y c) (x3 := X m - X p) (y3 := Y p - Y m) (by omega) (by omega) (by omega) (by omega) (by omega) (by omega) a b
  rw [bt_iff, bt_iff]
  constructor <;> grind
theorem mono_tail {m : P} {r : List P} (h : Mono X Y (m :: r)) : Mono X Y r := (List.pairwise_cons.1 h).2
theorem bent_ext {p : P} : ∀ {r : List P} {m c : P}, GB X Y (m :: c :: r) → Mono X Y (m :: c :: r) → X p < X m → Y m < Y p → Bt X Y c m p → (m :: c :: r).Pairwise (fun m' c' => Bt X Y c' m' p)
  | [], m, c, g, mo, hx, hy, b => by
    refine List.pairwise_cons.2 ⟨fun z hz => ?_, List.pairwise_cons.2 ⟨fun z hz => ?_, .nil⟩⟩
    · simp at hz; subst hz; exact b
    · simp at hz
  | c2 :: r, m, c, g, mo, hx, hy, b => by
    have g1 := g.1
    have g2 := g.2
    have m1 := List.pairwise_cons.1 mo
    have m2 := List.pairwise_cons.1 m1.2
    have hmc := m1.1 c (by simp)
    have key : ∀ z ∈ c2 :: r, Bt X Y z m p ∧ Bt X Y z c p := fun z hz => bt_four X Y (m2.1 z hz) hmc ⟨hx, hy⟩ ((List.pairwise_cons.1 g1).1 z hz) b
    refine List.pairwise_cons.2 ⟨fun z hz => ?_, bent_ext (m := c) (c := c2) g2 m1.2 (by omega) (by omega) (key c2 (by simp)).2⟩
    rcases List.mem_cons.1 hz with rfl | hz
    · exact b
    · exact (key z hz).1
theorem pops_suffix (p : P) : ∀ st : List P, pops X Y p st <:+ st
  | [] => List.suffix_refl _
  | [m] => List.suffix_refl _
  | m :: c :: r => by
    rw [pops]
    split
    · exact List.suffix_refl _
    · exact (pops_suffix p (c :: r)).trans (List.suffix_cons m (c :: r))
theorem pops_ne (p : P) : ∀ st : List P, st ≠ [] → pops X Y p st ≠ []
  | [], h => absurd rfl h
  | [m], _ => by simp [pops]
  | m :: c :: r, _ => by
    rw [pops]
    split
    · simp
    · exact pops_ne p (c :: r) (by simp)
theorem pops_top (p : P) : ∀ st : List P, ∀ m c r, pops X Y p st = m :: c :: r → Bt X Y c m p
  | [], _, _, _, h => by simp [pops] at h
  | [m], _, _, _, h => by simp [pops] at h
  | m :: c :: r, m', c', r', h => by
    rw [pops] at h
    split at h
    · cases h; assumption
    · exact pops_top p (c :: r) m' c' r' h
theorem gb_suffix : ∀ {st s : List P}, s <:+ st → GB X Y st → GB X Y s
  | [], s, h, g => by rw [List.suffix_nil.1 h]; trivial
  | m :: r, s, h, g => by
    rcases List.suffix_cons_iff.1 h with rfl | h
    · exact g
    · exact gb_suffix h g.2
theorem mono_suffix {st s : List P} (h : s <:+ st) (g : Mono X Y st) : Mono X Y s := List.Pairwise.sublist h.sublist g
theorem pop_dom {a b x2 y2 x3 y3 : Int} (ha : 0 ≤ a) (hb : 0 ≤ b) (h2x : 0 < x2) (h2y : 0 < y2) (h3x : 0 < x3) (h3y : 0 < y3) (h : y2 * x3 ≤ x2 * y3) : b * y2 ≤ a * x2 ∨ a * x3 ≤ b * y3 := by
  apply Classical.byContradiction
  intro hn
  have h1 : a * x2 < b * y2 := by apply Classical.byContradiction; intro h; exact hn (.inl (by omega))
  have h2 : b * y3 < a * x3 := by apply Classical.byContradiction; intro h; exact hn (.inr (by omega))
  have e1 := Int.mul_lt_mul_of_pos_right h1 h3x
  have e2 := Int.mul_lt_mul_of_pos_right h2 h2x
  have e3 := Int.mul_le_mul_of_nonneg_left h hb
  grind
theorem pops_dom {p : P} {a b : Int} (ha : 0 ≤ a) (hb : 0 ≤ b) : ∀ st : List P, Mono X Y st → (∀ m ∈ st, X p < X m) → (∀ m, st.head? = some m → Y m < Y p) → ∀ c ∈ st, ∃ c' ∈ p :: pops X Y p st, a * X c + b * Y c ≤ a * X c' + b * Y c'
  | [], _, _, _, c, hc => by simp at hc
  | [m], _, _, _, c, hc => ⟨c, by simp at hc; simp [pops, hc], by omega⟩
  | m :: c1 :: r, mo, hx, hy, c, hc => by
    rw [pops]
    split
    · exact ⟨c, List.mem_cons_of_mem _ hc, by omega⟩
    · rename_i hb'
      have m1 := (List.pairwise_cons.1 mo).1 c1 (by simp)
      have hym := hy m rfl
      have ih := pops_dom ha hb (c1 :: r) (List.pairwise_cons.1 mo).2 (fun z hz => hx z (List.mem_cons_of_mem _ hz)) (fun z hz => by simp at hz; subst hz; omega)
      rcases List.mem_cons.1 hc with rfl | hc
      · rw [bt_iff] at hb'
        have hxm := hx c (by simp)
        rcases pop_dom (a := a) (b := b) (x2 := X c1 - X c) (y2 := Y c - Y c1) (x3 := X c - X p) (y3 := Y p - Y c) ha hb (by omega) (by omega) (by omega) (by omega) (by omega) with h | h
        · obtain ⟨c', h1, h2⟩ := ih c1 (by simp)
          exact ⟨c', h1, by grind⟩
        · exact ⟨p, by simp, by grind⟩
      · exact ih c hc
/-- what holds of the stack behind the pairs that were met -/
structure Inv (pre st : List P) : Prop where
  gb : GB X Y st
  mo : Mono X Y st
  sub : ∀ c ∈ st, c ∈ pre
  dom : ∀ q ∈ pre, ∀ a b : Int, 0 ≤ a → 0 ≤ b → ∃ c ∈ st, a * X q + b * Y q ≤ a * X c + b * Y c
def Le (p q : P) : Prop := X q < X p ∨ (X q = X p ∧ Y q ≤ Y p)
theorem gb_push {p : P} {st : List P} (g : GB X Y st) (mo : Mono X Y st) (hx : ∀ m ∈ st, X p < X m) (hy : ∀ m ∈ st, Y m < Y p) (ht : ∀ m c r, st = m :: c :: r → Bt X Y c m p) : GB X Y (p :: st) ∧ Mono X Y (p :: st) := by
  refine ⟨⟨?_, g⟩, List.pairwise_cons.2 ⟨fun z hz => ⟨hx z hz, hy z hz⟩, mo⟩⟩
  match st, g, mo, hx, hy, ht with
  | [], _, _, _, _, _ => exact .nil
  | [m], _, _, _, _, _ => exact List.pairwise_singleton _ _
  | m :: c :: r, g, mo, hx, hy, ht => exact bent_ext X Y g mo (hx m (by simp)) (hy m (by simp)) (ht m c r rfl)
theorem mono_head {m : P} {r : List P} (h : Mono X Y (m :: r)) : ∀ z ∈ m :: r, X m ≤ X z ∧ Y z ≤ Y m := by
  intro z hz
  rcases List.mem_cons.1 hz with rfl | hz
  · omega
  · have := (List.pairwise_cons.1 h).1 z hz; omega
theorem step_inv {pre st : List P} {p : P} (I : Inv X Y pre st) (hp : ∀ q ∈ pre, Le X Y q p) (hne : pre ≠ [] → st ≠ []) : Inv X Y (pre ++ [p]) (step X Y st p) ∧ step X Y st p ≠ [] := by
  obtain ⟨gb, mo, sub, dom⟩ := I
  match st, gb, mo, sub, dom, hne with
  | [], gb, mo, sub, dom, hne =>
    have : pre = [] := Classical.byContradiction fun h => hne h rfl
    subst this
    refine ⟨⟨⟨.nil, trivial⟩, List.pairwise_singleton _ _, fun c hc => by simpa [step] using hc, fun q hq a b _ _ => ⟨p, by simp [step], ?_⟩⟩, by simp [step]⟩
    simp at hq; subst hq; omega
  | m :: r, gb, mo, sub, dom, hne =>
    rw [step]
    have hm := hp m (sub m (by simp))
    split
    · rename_i hy
      refine ⟨⟨gb, mo, fun c hc => List.mem_append_left _ (sub c hc), fun q hq a b ha hb => ?_⟩, by simp⟩
      rcases List.mem_append.1 hq with hq | hq
      · exact dom q hq a b ha hb
      · simp at hq; subst hq
        refine ⟨m, by simp, ?_⟩
        have hx : X q ≤ X m := by rcases hm with h | h <;> omega
        have e1 := Int.mul_le_mul_of_nonneg_left hx ha
        have e2 := Int.mul_le_mul_of_nonneg_left hy hb
        omega
    · rename_i hy
      have hx : X p < X m := by
        rcases hm with h | h
        · exact h
        · exact absurd h.2 hy
      have hd := mono_head X Y mo
      have sf := pops_suffix X Y p (m :: r)
      have hxa : ∀ z ∈ m :: r, X p < X z := fun z hz => by have := hd z hz; omega
      have hya : ∀ z ∈ m :: r, Y z < Y p := fun z hz => by have := hd z hz; omega
      have g := gb_push X Y (gb_suffix X Y sf gb) (mono_suffix X Y sf mo) (fun z hz => hxa z (sf.subset hz)) (fun z hz => hya z (sf.subset hz)) (fun m' c' r' h => pops_top X Y p _ m' c' r' h)
      refine ⟨⟨g.1, g.2, fun c hc => ?_, fun q hq a b ha hb => ?_⟩, by simp⟩
      · rcases List.mem_cons.1 hc with rfl | hc
        · simp
        · exact List.mem_append_left _ (sub c (sf.subset hc))
      · rcases List.mem_append.1 hq with hq | hq
        · obtain ⟨c, hc, h1⟩ := dom q hq a b ha hb
          obtain ⟨c', hc', h2⟩ := pops_dom X Y ha hb (m :: r) mo hxa (fun z hz => by simp at hz; subst hz; omega) c hc
          exact ⟨c', hc', by omega⟩
        · simp at hq; subst hq
          exact ⟨q, by simp, by omega⟩
theorem fold_inv : ∀ (l pre st : List P), Inv X Y pre st → (pre ≠ [] → st ≠ []) → (∀ q ∈ pre, ∀ p ∈ l, Le X Y q p) → l.Pairwise (Le X Y) → Inv X Y (pre ++ l) (l.foldl (step X Y) st)
  | [], pre, st, I, _, _, _ => by simpa using I
  | p :: l, pre, st, I, hne, hl, hs => by
    have s := step_inv X Y I (fun q hq => hl q hq p (by simp)) hne
    have hs' := List.pairwise_cons.1 hs
    have := fold_inv l (pre ++ [p]) (step X Y st p) s.1 (fun _ => s.2) (fun q hq z hz => by
      rcases List.mem_append.1 hq with hq | hq
      · exact hl q hq z (List.mem_cons_of_mem _ hz)
      · simp at hq; subst hq; exact hs'.1 z hz) hs'.2
    simpa using this
/-- the stack behind all pairs -/
theorem stack_inv {l : List P} (hs : l.Pairwise (Le X Y)) : Inv X Y l (l.foldl (step X Y) []) := by
  have := fold_inv X Y l [] [] ⟨trivial, .nil, fun c hc => by simp at hc, fun q hq => by simp at hq⟩ (fun h => absurd rfl h) (fun q hq => by simp at hq) hs
  simpa using this
end
end HU
namespace HU
section
variable (X Y : P → Int)
/-- worth more than all other pairs, at some price strictly between the ends -/
def Str (l : List P) (p : P) : Prop := p ∈ l ∧ ∃ a b : Int, 0 < a ∧ 0 < b ∧ ∀ q ∈ l, q ≠ p → a * X q + b * Y q < a * X p + b * Y p
theorem Str.sub {l l' : List P} {p : P} (h : Str X Y l p) (hp : p ∈ l') (hs : ∀ q ∈ l', q ∈ l) : Str X Y l' p := by
  obtain ⟨_, a, b, ha, hb, h⟩ := h
  exact ⟨hp, a, b, ha, hb, fun q hq hn => h q (hs q hq) hn⟩
theorem gb_pair {s t : List P} {o : P} : ∀ {st : List P}, GB X Y st → st = s ++ o :: t → ∀ {u v : List P} {m c : P}, t = u ++ m :: v → c ∈ v → Bt X Y c m o := by
  intro st
  induction st generalizing s with
  | nil => intro g h; simp at h
  | cons z st ih =>
    intro g h u v m c ht hc
    match s, h with
    | [], h =>
      cases h; subst ht
      have := (List.pairwise_append.1 g.1).2.1
      exact (List.pairwise_cons.1 this).1 c hc
    | y :: s, h => cases h; exact ih g.2 rfl ht hc
/-- the stack's parts around a corner: s is behind, t ahead -/
theorem corner_dirs {s t : List P} {c : P} (g : GB X Y (s ++ c :: t)) (mo : Mono X Y (s ++ c :: t)) :
    ∃ ma mb na nb : Int, 0 ≤ ma ∧ 0 ≤ mb ∧ 0 ≤ na ∧ 0 ≤ nb ∧ 0 < ma * nb - mb * na ∧
      (∀ e ∈ s ++ c :: t, ma * X e + mb * Y e ≤ ma * X c + mb * Y c) ∧ (∀ e ∈ s ++ c :: t, na * X e + nb * Y e ≤ na * X c + nb * Y c) := by
  have mo2 := List.pairwise_append.1 mo
  have mc := List.pairwise_cons.1 mo2.2.1
  -- ahead of c: larger X
  have hA : ∃ ma mb : Int, 0 < ma ∧ 0 ≤ mb ∧ (∀ e ∈ s ++ c :: t, ma * X e + mb * Y e ≤ ma * X c + mb * Y c) ∧ ((ma = 1 ∧ mb = 0 ∧ t = []) ∨ ∃ a0 t', t = a0 :: t' ∧ ma = Y c - Y a0 ∧ mb = X a0 - X c) := by
    match t, mc, g, mo, mo2 with
    | [], mc, g, mo, mo2 =>
      refine ⟨1, 0, by omega, by omega, fun e he => ?_, .inl ⟨rfl, rfl, rfl⟩⟩
      rcases List.mem_append.1 he with he | he
      · have := (mo2.2.2 e he c (by simp)).1; omega
      · simp at he; subst he; omega
    | a0 :: t', mc, g, mo, mo2 =>
      have h0 := mc.1 a0 (by simp)
      refine ⟨Y c - Y a0, X a0 - X c, by omega, by omega, fun e he => ?_, .inr ⟨a0, t', rfl, rfl, rfl⟩⟩
      rcases List.mem_append.1 he with he | he
      · obtain ⟨s1, s2, rfl⟩ := List.append_of_mem he
        have := gb_pair X Y (s := s1) (o := e) (t := s2 ++ c :: a0 :: t') g (by simp) (u := s2) (v := a0 :: t') (m := c) (c := a0) rfl (by simp)
        rw [bt_iff] at this; grind
      · rcases List.mem_cons.1 he with rfl | he
        · omega
        · rcases List.mem_cons.1 he with rfl | he
          · grind
          · have := gb_pair X Y (s := s) (o := c) (t := a0 :: t') g rfl (u := []) (v := t') (m := a0) (c := e) rfl he
            rw [bt_iff] at this; grind
  have hB : ∃ na nb : Int, 0 ≤ na ∧ 0 < nb ∧ (∀ e ∈ s ++ c :: t, na * X e + nb * Y e ≤ na * X c + nb * Y c) ∧ ((na = 0 ∧ nb = 1 ∧ s = []) ∨ ∃ b0 s', s = s' ++ [b0] ∧ na = Y b0 - Y c ∧ nb = X c - X b0) := by
    rcases List.eq_nil_or_concat s with rfl | ⟨s', b0, rfl⟩
    · refine ⟨0, 1, by omega, by omega, fun e he => ?_, .inl ⟨rfl, rfl, rfl⟩⟩
      rcases List.mem_cons.1 he with rfl | he
      · omega
      · have := (mc.1 e he).2; omega
    · have h0 := mo2.2.2 b0 (by simp) c (by simp)
      refine ⟨Y b0 - Y c, X c - X b0, by omega, by omega, fun e he => ?_, .inr ⟨b0, s', by simp, rfl, rfl⟩⟩
      rcases List.mem_append.1 he with he | he
      · simp only [List.concat_eq_append, List.mem_append, List.mem_singleton] at he
        rcases he with he | rfl
        · obtain ⟨s1, s2, rfl⟩ := List.append_of_mem he
          have := gb_pair X Y (s := s1) (o := e) (t := s2 ++ b0 :: c :: t) g (by simp) (u := s2) (v := c :: t) (m := b0) (c := c) rfl (by simp)
          rw [bt_iff] at this; grind
        · grind
      · rcases List.mem_cons.1 he with rfl | he
        · omega
        · have := gb_pair X Y (s := s') (o := b0) (t := c :: t) g (by simp) (u := []) (v := t) (m := c) (c := e) rfl he
          rw [bt_iff] at this; grind
  obtain ⟨ma, mb, h1, h2, h3, h4⟩ := hA
  obtain ⟨na, nb, k1, k2, k3, k4⟩ := hB
  refine ⟨ma, mb, na, nb, by omega, h2, k1, by omega, ?_, h3, k3⟩
  rcases h4 with ⟨rfl, rfl, rfl⟩ | ⟨a0, t', rfl, e1, e2⟩
  · omega
  · rcases k4 with ⟨rfl, rfl, rfl⟩ | ⟨b0, s', rfl, f1, f2⟩
    · omega
    · have := gb_pair X Y (s := s') (o := b0) (t := c :: a0 :: t') g (by simp) (u := []) (v := a0 :: t') (m := c) (c := a0) rfl (by simp)
      rw [bt_iff] at this
      have e3 : ma * nb - mb * na = (Y c - Y a0) * (X c - X b0) - (X a0 - X c) * (Y b0 - Y c) := by rw [e1, e2, f1, f2]
      omega
theorem inv_str {l st : List P} (I : Inv X Y l st) (inj : ∀ p ∈ l, ∀ q ∈ l, X p = X q → Y p = Y q → p = q) (p : P) : p ∈ st ↔ Str X Y l p := by
  constructor
  · intro hp
    obtain ⟨s, t, rfl⟩ := List.append_of_mem hp
    obtain ⟨ma, mb, na, nb, h1, h2, h3, h4, hd, hm, hn⟩ := corner_dirs X Y I.gb I.mo
    have pl := I.sub p (by simp)
    refine ⟨pl, ma + na, mb + nb, ?_, ?_, fun q hq hne => ?_⟩
    · apply Classical.byContradiction; intro h
      have : ma = 0 := by omega
      subst this
      have : 0 ≤ mb * na := Int.mul_nonneg h2 h3
      omega
    · apply Classical.byContradiction; intro h
      have : nb = 0 := by omega
      subst this
      have : 0 ≤ mb * na := Int.mul_nonneg h2 h3
      omega
    · obtain ⟨c, hc, d1⟩ := I.dom q hq ma mb h1 h2
      obtain ⟨c', hc', d2⟩ := I.dom q hq na nb h3 h4
      have d3 := hm c hc
      have d4 := hn c' hc'
      apply Classical.byContradiction
      intro hlt
      have e1 : ma * (X q - X p) + mb * (Y q - Y p) = 0 := by grind
      have e2 : na * (X q - X p) + nb * (Y q - Y p) = 0 := by grind
      have f1 : (ma * nb - mb * na) * (X q - X p) = 0 := by grind
      have f2 : (ma * nb - mb * na) * (Y q - Y p) = 0 := by grind
      have g1 : X q - X p = 0 := by
        rcases Int.mul_eq_zero.1 f1 with h | h
        · omega
        · exact h
      have g2 : Y q - Y p = 0 := by
        rcases Int.mul_eq_zero.1 f2 with h | h
        · omega
        · exact h
      exact hne (inj q hq p pl (by omega) (by omega))
  · rintro ⟨pl, a, b, ha, hb, h⟩
    obtain ⟨c, hc, h1⟩ := I.dom p pl a b (by omega) (by omega)
    by_cases e : c = p
    · exact e ▸ hc
    · have := h c (I.sub c hc) e
      omega
theorem env_mono {l : List P} (hs : l.Pairwise (Le X Y)) : (env X Y l).Pairwise (fun c m => X m < X c ∧ Y c < Y m) := by
  have I := stack_inv X Y hs
  unfold env
  rw [List.pairwise_reverse]
  exact I.mo
theorem env_mem {l : List P} (hs : l.Pairwise (Le X Y)) (inj : ∀ p ∈ l, ∀ q ∈ l, X p = X q → Y p = Y q → p = q) (p : P) : p ∈ env X Y l ↔ Str X Y l p := by
  rw [← inv_str X Y (stack_inv X Y hs) inj p]
  unfold env; simp
theorem env_dom {l : List P} (hs : l.Pairwise (Le X Y)) {q : P} (hq : q ∈ l) {a b : Int} (ha : 0 ≤ a) (hb : 0 ≤ b) : ∃ c ∈ env X Y l, a * X q + b * Y q ≤ a * X c + b * Y c := by
  obtain ⟨c, hc, h⟩ := (stack_inv X Y hs).dom q hq a b ha hb
  exact ⟨c, by unfold env; simpa using hc, h⟩
theorem env_sub {l : List P} (hs : l.Pairwise (Le X Y)) {c : P} (hc : c ∈ env X Y l) : c ∈ l := (stack_inv X Y hs).sub c (by unfold env at hc; simpa using hc)
/-- two lists falling in X with the same members are one -/
theorem eq_of_desc : ∀ {l k : List P}, l.Pairwise (fun c m => X m < X c) → k.Pairwise (fun c m => X m < X c) → (∀ p, p ∈ l ↔ p ∈ k) → l = k
  | [], [], _, _, _ => rfl
  | [], q :: k, _, _, h => by have := (h q).2 (by simp); simp at this
  | p :: l, [], _, _, h => by have := (h p).1 (by simp); simp at this
  | p :: l, q :: k, hl, hk, h => by
    have hl' := List.pairwise_cons.1 hl
    have hk' := List.pairwise_cons.1 hk
    have e : p = q := by
      rcases List.mem_cons.1 ((h p).1 (by simp)) with e | e1
      · exact e
      · rcases List.mem_cons.1 ((h q).2 (by simp)) with e | e2
        · exact e.symm
        · have := hk'.1 p e1; have := hl'.1 q e2; omega
    subst e
    rw [eq_of_desc hl'.2 hk'.2 fun z => ?_]
    constructor
    · intro hz
      rcases List.mem_cons.1 ((h z).1 (List.mem_cons_of_mem _ hz)) with rfl | h1
      · have := hl'.1 z hz; omega
      · exact h1
    · intro hz
      rcases List.mem_cons.1 ((h z).2 (List.mem_cons_of_mem _ hz)) with rfl | h1
      · have := hk'.1 z hz; omega
      · exact h1
/-- the edge of two corners beside one another is above all pairs -/
theorem edge_sup {l : List P} (hs : l.Pairwise (Le X Y)) {A B : List P} {c m : P} (he : env X Y l = A ++ c :: m :: B) : X m < X c ∧ Y c < Y m ∧ ∀ q ∈ l, (Y m - Y c) * X q + (X c - X m) * Y q ≤ (Y m - Y c) * X c + (X c - X m) * Y c := by
  have I := stack_inv X Y hs
  have hst : l.foldl (step X Y) [] = B.reverse ++ m :: c :: A.reverse := by
    have := congrArg List.reverse he
    unfold env at this
    simpa using this
  have mo := I.mo
  have g := I.gb
  rw [hst] at mo g
  have mo2 := List.pairwise_append.1 mo
  have h0 := (List.pairwise_cons.1 mo2.2.1).1 c (by simp)
  refine ⟨h0.1, h0.2, fun q hq => ?_⟩
  obtain ⟨e, hE, h⟩ := I.dom q hq (Y m - Y c) (X c - X m) (by omega) (by omega)
  refine Int.le_trans h ?_
  rw [hst] at hE
  rcases List.mem_append.1 hE with hE | hE
  · obtain ⟨s1, s2, hh⟩ := List.append_of_mem hE
    rw [hh] at g
    have := gb_pair X Y (s := s1) (o := e) (t := s2 ++ m :: c :: A.reverse) g (by simp) (u := s2) (v := c :: A.reverse) (m := m) (c := c) rfl (by simp)
    rw [bt_iff] at this; grind
  · rcases List.mem_cons.1 hE with rfl | hE
    · grind
    · rcases List.mem_cons.1 hE with rfl | hE
      · omega
      · have := gb_pair X Y (s := B.reverse) (o := m) (t := c :: A.reverse) g rfl (u := []) (v := A.reverse) (m := c) (c := e) rfl hE
        rw [bt_iff] at this; grind
end
end HU
namespace HU
/-! ### prices -/
def wt (p s : P) : Int := s.1 * p.1 + s.2 * p.2
abbrev ld (s t : P) : Prop := t.1 * s.2 < s.1 * t.2
abbrev le (s t : P) : Prop := t.1 * s.2 ≤ s.1 * t.2
def NN (s : P) : Prop := 0 ≤ s.1 ∧ 0 ≤ s.2 ∧ 0 < s.1 + s.2
def gc (x y : Int) : Int := ((Nat.gcd x.natAbs y.natAbs : Nat) : Int)
def tm (x y : Int) : P := (x / gc x y, y / gc x y)
theorem tm_spec {x y : Int} (hx : 0 ≤ x) (hy : 0 ≤ y) (h : 0 < x + y) : 0 < gc x y ∧ x = gc x y * (tm x y).1 ∧ y = gc x y * (tm x y).2 ∧ NN (tm x y) := by
  have g0 : 0 < gc x y := by
    unfold gc
    have : 0 < Nat.gcd x.natAbs y.natAbs := by
      rcases Nat.eq_zero_or_pos (Nat.gcd x.natAbs y.natAbs) with e | e
      · have := Nat.gcd_eq_zero_iff.1 e; omega
      · exact e
    omega
  have d1 : gc x y ∣ x := by unfold gc; exact Int.ofNat_dvd_left.2 (Nat.gcd_dvd_left _ _)
  have d2 : gc x y ∣ y := by unfold gc; exact Int.ofNat_dvd_left.2 (Nat.gcd_dvd_right _ _)
  have e1 : x = gc x y * (tm x y).1 := (Int.mul_ediv_cancel' d1).symm
  have e2 : y = gc x y * (tm x y).2 := (Int.mul_ediv_cancel' d2).symm
  have n1 : 0 ≤ (tm x y).1 := Int.ediv_nonneg hx (Int.le_of_lt g0)
  have n2 : 0 ≤ (tm x y).2 := Int.ediv_nonneg hy (Int.le_of_lt g0)
  refine ⟨g0, e1, e2, n1, n2, ?_⟩
  apply Classical.byContradiction; intro hn
  have z1 : (tm x y).1 = 0 := by omega
  have z2 : (tm x y).2 = 0 := by omega
  rw [z1] at e1; rw [z2] at e2; omega
theorem le_or_ld (s t : P) : le s t ∨ ld t s := by unfold le ld; have := Int.mul_comm s.1 t.2; have := Int.mul_comm t.1 s.2; omega
theorem not_ld {s t : P} : ¬ ld s t ↔ le t s := by unfold le ld; have := Int.mul_comm s.1 t.2; have := Int.mul_comm t.1 s.2; omega
theorem le_trans {s t u : P} (hs : NN s) (ht : NN t) (hu : NN u) (h1 : le s t) (h2 : le t u) : le s u := by
  unfold le at *
  obtain ⟨s1, s2, _⟩ := hs; obtain ⟨t1, t2, t3⟩ := ht; obtain ⟨u1, u2, _⟩ := hu
  by_cases h : t.1 = 0
  · rw [h] at h2
    have : u.1 = 0 := by
      apply Classical.byContradiction; intro hn
      have : 0 < u.1 * t.2 := Int.mul_pos (by omega) (by omega)
      omega
    rw [this]
    have := Int.mul_nonneg s1 u2
    omega
  · have e1 := Int.mul_le_mul_of_nonneg_left h1 u1
    have e2 := Int.mul_le_mul_of_nonneg_left h2 s1
    have e3 : t.1 * (u.1 * s.2) ≤ t.1 * (s.1 * u.2) := by grind
    exact Int.le_of_mul_le_mul_left e3 (by omega)
theorem ld_le {s t u : P} (hs : NN s) (ht : NN t) (hu : NN u) (h1 : ld s t) (h2 : le t u) : ld s u := by
  unfold le ld at *
  obtain ⟨s1, s2, _⟩ := hs; obtain ⟨t1, t2, t3⟩ := ht; obtain ⟨u1, u2, u3⟩ := hu
  have t2p : 0 < t.2 := by
    apply Classical.byContradiction; intro hn
    have : t.2 = 0 := by omega
    rw [this] at h1
    have := Int.mul_nonneg t1 s2
    omega
  have u2p : 0 < u.2 := by
    apply Classical.byContradiction; intro hn
    have z : u.2 = 0 := by omega
    rw [z] at h2
    have : 0 < u.1 * t.2 := Int.mul_pos (by omega) t2p
    omega
  have e1 := Int.mul_lt_mul_of_pos_left h1 u2p
  have e2 := Int.mul_le_mul_of_nonneg_left h2 s2
  have e3 : t.2 * (u.1 * s.2) < t.2 * (s.1 * u.2) := by grind
  exact Int.lt_of_mul_lt_mul_left e3 t2
theorem le_ld {s t u : P} (hs : NN s) (ht : NN t) (hu : NN u) (h1 : le s t) (h2 : ld t u) : ld s u := by
  unfold le ld at *
  obtain ⟨s1, s2, s3⟩ := hs; obtain ⟨t1, t2, t3⟩ := ht; obtain ⟨u1, u2, u3⟩ := hu
  have t1p : 0 < t.1 := by
    apply Classical.byContradiction; intro hn
    have : t.1 = 0 := by omega
    rw [this] at h2
    have := Int.mul_nonneg u1 t2
    omega
  have s1p : 0 < s.1 := by
    apply Classical.byContradiction; intro hn
    have z : s.1 = 0 := by omega
    rw [z] at h1
    have : 0 < t.1 * s.2 := Int.mul_pos t1p (by omega)
    omega
  have e1 := Int.mul_le_mul_of_nonneg_left h1 u1
  have e2 := Int.mul_lt_mul_of_pos_left h2 s1p
  have e3 : t.1 * (u.1 * s.2) < t.1 * (s.1 * u.2) := by grind
  exact Int.lt_of_mul_lt_mul_left e3 t1
theorem ld_trans {s t u : P} (hs : NN s) (ht : NN t) (hu : NN u) (h1 : ld s t) (h2 : ld t u) : ld s u := ld_le hs ht hu h1 (by unfold le; unfold ld at h2; omega)
theorem ld_weak {s t : P} (h : ld s t) : le s t := by unfold le; unfold ld at h; omega
theorem mid_nn {l h : P} (a : NN l) (b : NN h) : NN (l.1 + h.1, l.2 + h.2) := by
  obtain ⟨a1, a2, a3⟩ := a; obtain ⟨b1, b2, b3⟩ := b
  exact ⟨by show 0 ≤ l.1 + h.1; omega, by show 0 ≤ l.2 + h.2; omega, by show 0 < l.1 + h.1 + (l.2 + h.2); omega⟩
theorem mid_ld {l h : P} (x : ld l h) : ld l (l.1 + h.1, l.2 + h.2) ∧ ld (l.1 + h.1, l.2 + h.2) h := by
  unfold ld at *
  constructor <;> simp only [] <;> grind
/-- the two prices strictly between which p is worth more than the others -/
def alone (p : P) : List P → P → P → Option (P × P)
  | [], lo, hi => if ld lo hi then some (lo, hi) else none
  | o :: r, lo, hi =>
    if p.1 - o.1 ≤ 0 ∧ p.2 - o.2 ≤ 0 then none
    else alone p r (if p.1 - o.1 < 0 ∧ ld lo (tm (p.2 - o.2) (0 - (p.1 - o.1))) then tm (p.2 - o.2) (0 - (p.1 - o.1)) else lo)
      (if p.2 - o.2 < 0 ∧ ld (tm (0 - (p.2 - o.2)) (p.1 - o.1)) hi then tm (0 - (p.2 - o.2)) (p.1 - o.1) else hi)
theorem lo_step {lo : P} {m s : Int} (hlo : NN lo) (hm : m < 0 → 0 < s) : NN (if m < 0 ∧ ld lo (tm s (0 - m)) then tm s (0 - m) else lo) ∧ le lo (if m < 0 ∧ ld lo (tm s (0 - m)) then tm s (0 - m) else lo) ∧ (m < 0 → le (s, -m) (if m < 0 ∧ ld lo (tm s (0 - m)) then tm s (0 - m) else lo)) := by
  by_cases h : m < 0
  · have hs := hm h
    obtain ⟨g, e1, e2, n⟩ := tm_spec (x := s) (y := 0 - m) (by omega) (by omega) (by omega)
    split
    · rename_i hh
      refine ⟨n, ld_weak hh.2, fun _ => ?_⟩
      show (tm s (0 - m)).1 * (-m) ≤ s * (tm s (0 - m)).2
      have : -m = gc s (0 - m) * (tm s (0 - m)).2 := by omega
      rw [this]
      have : s * (tm s (0 - m)).2 = (gc s (0 - m) * (tm s (0 - m)).1) * (tm s (0 - m)).2 := by rw [← e1]
      rw [this]; grind
    · rename_i hh
      refine ⟨hlo, Int.le_refl _, fun _ => ?_⟩
      have hn : ¬ ld lo (tm s (0 - m)) := fun q => hh ⟨h, q⟩
      rw [not_ld] at hn
      show lo.1 * (-m) ≤ s * lo.2
      have e3 : -m = gc s (0 - m) * (tm s (0 - m)).2 := by omega
      rw [e3]
      have e4 : s * lo.2 = (gc s (0 - m) * (tm s (0 - m)).1) * lo.2 := by rw [← e1]
      rw [e4]
      have := Int.mul_le_mul_of_nonneg_left hn (Int.le_of_lt g)
      grind
  · rw [if_neg (fun q => h q.1)]
    exact ⟨hlo, Int.le_refl _, fun q => absurd q h⟩
theorem hi_step {hi : P} {m s : Int} (hhi : NN hi) (hm : s < 0 → 0 < m) : NN (if s < 0 ∧ ld (tm (0 - s) m) hi then tm (0 - s) m else hi) ∧ le (if s < 0 ∧ ld (tm (0 - s) m) hi then tm (0 - s) m else hi) hi ∧ (s < 0 → le (if s < 0 ∧ ld (tm (0 - s) m) hi then tm (0 - s) m else hi) (-s, m)) := by
  by_cases h : s < 0
  · have hs := hm h
    obtain ⟨g, e1, e2, n⟩ := tm_spec (x := 0 - s) (y := m) (by omega) (by omega) (by omega)
    split
    · rename_i hh
      refine ⟨n, ld_weak hh.2, fun _ => ?_⟩
      show (-s) * (tm (0 - s) m).2 ≤ (tm (0 - s) m).1 * m
      have e3 : -s = gc (0 - s) m * (tm (0 - s) m).1 := by omega
      rw [e3]
      have e4 : (tm (0 - s) m).1 * m = (tm (0 - s) m).1 * (gc (0 - s) m * (tm (0 - s) m).2) := by rw [← e2]
      rw [e4]; grind
    · rename_i hh
      refine ⟨hhi, Int.le_refl _, fun _ => ?_⟩
      have hn : ¬ ld (tm (0 - s) m) hi := fun q => hh ⟨h, q⟩
      rw [not_ld] at hn
      show (-s) * hi.2 ≤ hi.1 * m
      have e3 : -s = gc (0 - s) m * (tm (0 - s) m).1 := by omega
      rw [e3]
      have e4 : hi.1 * m = hi.1 * (gc (0 - s) m * (tm (0 - s) m).2) := by rw [← e2]
      rw [e4]
      have := Int.mul_le_mul_of_nonneg_left hn (Int.le_of_lt g)
      grind
  · rw [if_neg (fun q => h q.1)]
    exact ⟨hhi, Int.le_refl _, fun q => absurd q h⟩
/-- what two prices tell of p and another pair -/
structure Cut (p : P) (l h : P) (o : P) : Prop where
  pos : 0 < p.1 - o.1 ∨ 0 < p.2 - o.2
  up : p.2 - o.2 < 0 → le h (-(p.2 - o.2), p.1 - o.1)
  dn : p.1 - o.1 < 0 → le (p.2 - o.2, -(p.1 - o.1)) l
theorem alone_some {p : P} : ∀ {os : List P} {lo hi l h : P}, NN lo → NN hi → alone p os lo hi = some (l, h) → NN l ∧ NN h ∧ ld l h ∧ le lo l ∧ le h hi ∧ ∀ o ∈ os, Cut p l h o
  | [], lo, hi, l, h, n1, n2, e => by
    simp only [alone] at e
    split at e
    · cases e
      exact ⟨n1, n2, by assumption, Int.le_refl _, Int.le_refl _, fun o ho => by simp at ho⟩
    · cases e
  | o :: r, lo, hi, l, h, n1, n2, e => by
    simp only [alone] at e
    split at e
    · cases e
    · rename_i hn
      have h1 : p.1 - o.1 < 0 → 0 < p.2 - o.2 := by omega
      have h2 : p.2 - o.2 < 0 → 0 < p.1 - o.1 := by omega
      obtain ⟨a1, a2, a3⟩ := lo_step (lo := lo) (m := p.1 - o.1) (s := p.2 - o.2) n1 h1
      obtain ⟨b1, b2, b3⟩ := hi_step (hi := hi) (m := p.1 - o.1) (s := p.2 - o.2) n2 h2
      obtain ⟨c1, c2, c3, c4, c5, c6⟩ := alone_some a1 b1 e
      refine ⟨c1, c2, c3, le_trans n1 a1 c1 a2 c4, le_trans c2 b1 n2 c5 b2, fun z hz => ?_⟩
      rcases List.mem_cons.1 hz with rfl | hz
      · refine ⟨by omega, fun q => ?_, fun q => ?_⟩
        · have := h2 q
          exact le_trans c2 b1 ⟨by show 0 ≤ -(p.2 - z.2); omega, by show 0 ≤ p.1 - z.1; omega, by show 0 < -(p.2 - z.2) + (p.1 - z.1); omega⟩ c5 (b3 q)
        · have := h1 q
          exact le_trans ⟨by show 0 ≤ p.2 - z.2; omega, by show 0 ≤ -(p.1 - z.1); omega, by show 0 < p.2 - z.2 + -(p.1 - z.1); omega⟩ a1 c1 (a3 q) c4
      · exact c6 z hz
theorem cut_le {p l h o s : P} (c : Cut p l h o) (hl : NN l) (hh : NN h) (hs : NN s) (h1 : le l s) (h2 : le s h) : wt o s ≤ wt p s := by
  obtain ⟨pos, up, dn⟩ := c
  have key : 0 ≤ s.1 * (p.1 - o.1) + s.2 * (p.2 - o.2) := by
    by_cases hm : p.1 - o.1 < 0
    · have : 0 < p.2 - o.2 := by omega
      have := le_trans (s := (p.2 - o.2, -(p.1 - o.1))) ⟨by show 0 ≤ p.2 - o.2; omega, by show 0 ≤ -(p.1 - o.1); omega, by show 0 < p.2 - o.2 + -(p.1 - o.1); omega⟩ hl hs (dn hm) h1
      unfold le at this; simp only [] at this; grind
    · by_cases hq : p.2 - o.2 < 0
      · have : 0 < p.1 - o.1 := by omega
        have := le_trans (u := (-(p.2 - o.2), p.1 - o.1)) hs hh ⟨by show 0 ≤ -(p.2 - o.2); omega, by show 0 ≤ p.1 - o.1; omega, by show 0 < -(p.2 - o.2) + (p.1 - o.1); omega⟩ h2 (up hq)
        unfold le at this; simp only [] at this; grind
      · have a := Int.mul_nonneg hs.1 (show 0 ≤ p.1 - o.1 by omega)
        have b := Int.mul_nonneg hs.2.1 (show 0 ≤ p.2 - o.2 by omega)
        omega
  unfold wt; grind
theorem ld_pos {s t : P} (hs : NN s) (ht : NN t) (h : ld s t) : 0 < s.1 ∧ 0 < t.2 := by
  unfold ld at h
  have a := Int.mul_nonneg ht.1 hs.2.1
  constructor
  · apply Classical.byContradiction; intro hn
    have : s.1 = 0 := by have := hs.1; omega
    rw [this] at h; omega
  · apply Classical.byContradiction; intro hn
    have : t.2 = 0 := by have := ht.2.1; omega
    rw [this] at h; omega
theorem cut_lt {p l h o s : P} (c : Cut p l h o) (hl : NN l) (hh : NN h) (hs : NN s) (h1 : ld l s) (h2 : ld s h) : wt o s < wt p s := by
  obtain ⟨pos, up, dn⟩ := c
  have key : 0 < s.1 * (p.1 - o.1) + s.2 * (p.2 - o.2) := by
    by_cases hm : p.1 - o.1 < 0
    · have : 0 < p.2 - o.2 := by omega
      have := le_ld (s := (p.2 - o.2, -(p.1 - o.1))) ⟨by show 0 ≤ p.2 - o.2; omega, by show 0 ≤ -(p.1 - o.1); omega, by show 0 < p.2 - o.2 + -(p.1 - o.1); omega⟩ hl hs (dn hm) h1
      unfold ld at this; simp only [] at this; grind
    · by_cases hq : p.2 - o.2 < 0
      · have : 0 < p.1 - o.1 := by omega
        have := ld_le (u := (-(p.2 - o.2), p.1 - o.1)) hs hh ⟨by show 0 ≤ -(p.2 - o.2); omega, by show 0 ≤ p.1 - o.1; omega, by show 0 < -(p.2 - o.2) + (p.1 - o.1); omega⟩ h2 (up hq)
        unfold ld at this; simp only [] at this; grind
      · have s1 := (ld_pos hs hh h2).1
        have s2 := (ld_pos hl hs h1).2
        have a := Int.mul_nonneg hs.1 (show 0 ≤ p.1 - o.1 by omega)
        have b := Int.mul_nonneg hs.2.1 (show 0 ≤ p.2 - o.2 by omega)
        rcases pos with q | q
        · have := Int.mul_pos s1 q; omega
        · have := Int.mul_pos s2 q; omega
  unfold wt; grind
theorem lo_keep {lo s : P} {m d : Int} (hlo : NN lo) (hs : NN s) (hm : m < 0 → 0 < d) (h : ld lo s) (hp : 0 < s.1 * m + s.2 * d) : ld (if m < 0 ∧ ld lo (tm d (0 - m)) then tm d (0 - m) else lo) s := by
  split
  · rename_i hh
    have hd := hm hh.1
    obtain ⟨g, e1, e2, n⟩ := tm_spec (x := d) (y := 0 - m) (by omega) (by omega) (by omega)
    unfold ld
    have e3 : gc d (0 - m) * (s.1 * (tm d (0 - m)).2) = s.1 * (0 - m) := by
      have : s.1 * (0 - m) = s.1 * (gc d (0 - m) * (tm d (0 - m)).2) := by rw [← e2]
      rw [this]; grind
    have e4 : gc d (0 - m) * ((tm d (0 - m)).1 * s.2) = d * s.2 := by
      have : d * s.2 = (gc d (0 - m) * (tm d (0 - m)).1) * s.2 := by rw [← e1]
      rw [this]; grind
    have : gc d (0 - m) * (s.1 * (tm d (0 - m)).2) < gc d (0 - m) * ((tm d (0 - m)).1 * s.2) := by rw [e3, e4]; grind
    exact Int.lt_of_mul_lt_mul_left this (Int.le_of_lt g)
  · exact h
theorem hi_keep {hi s : P} {m d : Int} (hhi : NN hi) (hs : NN s) (hm : d < 0 → 0 < m) (h : ld s hi) (hp : 0 < s.1 * m + s.2 * d) : ld s (if d < 0 ∧ ld (tm (0 - d) m) hi then tm (0 - d) m else hi) := by
  split
  · rename_i hh
    have hd := hm hh.1
    obtain ⟨g, e1, e2, n⟩ := tm_spec (x := 0 - d) (y := m) (by omega) (by omega) (by omega)
    unfold ld
    have e3 : gc (0 - d) m * (s.1 * (tm (0 - d) m).2) = s.1 * m := by
      have : s.1 * m = s.1 * (gc (0 - d) m * (tm (0 - d) m).2) := by rw [← e2]
      rw [this]; grind
    have e4 : gc (0 - d) m * ((tm (0 - d) m).1 * s.2) = (0 - d) * s.2 := by
      have : (0 - d) * s.2 = (gc (0 - d) m * (tm (0 - d) m).1) * s.2 := by rw [← e1]
      rw [this]; grind
    have : gc (0 - d) m * ((tm (0 - d) m).1 * s.2) < gc (0 - d) m * (s.1 * (tm (0 - d) m).2) := by rw [e3, e4]; grind
    exact Int.lt_of_mul_lt_mul_left this (Int.le_of_lt g)
  · exact h
theorem alone_of {p s : P} (hs : NN s) : ∀ {os : List P} {lo hi : P}, NN lo → NN hi → ld lo s → ld s hi → (∀ o ∈ os, wt o s < wt p s) → ∃ l h, alone p os lo hi = some (l, h)
  | [], lo, hi, n1, n2, h1, h2, _ => ⟨lo, hi, if_pos (ld_trans n1 hs n2 h1 h2)⟩
  | o :: r, lo, hi, n1, n2, h1, h2, H => by
    have ho := H o (by simp)
    have hp : 0 < s.1 * (p.1 - o.1) + s.2 * (p.2 - o.2) := by unfold wt at ho; grind
    have hn : ¬ (p.1 - o.1 ≤ 0 ∧ p.2 - o.2 ≤ 0) := by
      intro ⟨q1, q2⟩
      have a := Int.mul_nonneg hs.1 (show 0 ≤ -(p.1 - o.1) by omega)
      have b := Int.mul_nonneg hs.2.1 (show 0 ≤ -(p.2 - o.2) by omega)
      grind
    have q1 : p.1 - o.1 < 0 → 0 < p.2 - o.2 := by omega
    have q2 : p.2 - o.2 < 0 → 0 < p.1 - o.1 := by omega
    simp only [alone]
    rw [if_neg hn]
    exact alone_of hs (lo_step n1 q1).1 (hi_step n2 q2).1 (lo_keep n1 hs q1 h1 hp) (hi_keep n2 hs q2 h2 hp) fun z hz => H z (List.mem_cons_of_mem _ hz)
end HU
namespace HU
section
variable {low high : P}
abbrev cX (low : P) (p : P) : Int := wt p low
/-- coordinates -/
theorem coord (p s : P) : (low.1 * high.2 - high.1 * low.2) * wt p s = (s.1 * high.2 - high.1 * s.2) * wt p low + (low.1 * s.2 - s.1 * low.2) * wt p high := by
  unfold wt; grind
theorem coord_inj (hd : ld low high) {p q : P} (hx : wt p low = wt q low) (hy : wt p high = wt q high) : p = q := by
  have e := coord (low := low) (high := high) p (1, 0)
  have e' := coord (low := low) (high := high) q (1, 0)
  have f := coord (low := low) (high := high) p (0, 1)
  have f' := coord (low := low) (high := high) q (0, 1)
  rw [hx, hy] at e f
  have h1 := e.trans e'.symm
  have h2 := f.trans f'.symm
  have dp : low.1 * high.2 - high.1 * low.2 ≠ 0 := by unfold ld at hd; omega
  have g1 := Int.eq_of_mul_eq_mul_left dp h1
  have g2 := Int.eq_of_mul_eq_mul_left dp h2
  simp [wt] at g1 g2
  exact Prod.ext g1 g2
/-- worth in coordinates, turned to the price -/
theorem wt_lt_iff (hd : ld low high) (p q s : P) : wt q s < wt p s ↔ (s.1 * high.2 - high.1 * s.2) * wt q low + (low.1 * s.2 - s.1 * low.2) * wt q high < (s.1 * high.2 - high.1 * s.2) * wt p low + (low.1 * s.2 - s.1 * low.2) * wt p high := by
  rw [← coord, ← coord]
  have dp : 0 < low.1 * high.2 - high.1 * low.2 := by unfold ld at hd; omega
  exact ⟨fun h => Int.mul_lt_mul_of_pos_left h dp, fun h => Int.lt_of_mul_lt_mul_left h (Int.le_of_lt dp)⟩
theorem wt_le_iff (hd : ld low high) (p q s : P) : wt q s ≤ wt p s ↔ (s.1 * high.2 - high.1 * s.2) * wt q low + (low.1 * s.2 - s.1 * low.2) * wt q high ≤ (s.1 * high.2 - high.1 * s.2) * wt p low + (low.1 * s.2 - s.1 * low.2) * wt p high := by
  have := wt_lt_iff hd q p s
  omega
/-- the price of a direction -/
theorem dir_wt (a b : Int) (p : P) : wt p (a * low.1 + b * high.1, a * low.2 + b * high.2) = a * wt p low + b * wt p high := by unfold wt; grind
theorem dir_nn {a b : Int} (nl : NN low) (nh : NN high) (ha : 0 ≤ a) (hb : 0 ≤ b) (h : 0 < a + b) : NN (a * low.1 + b * high.1, a * low.2 + b * high.2) := by
  obtain ⟨l1, l2, l3⟩ := nl; obtain ⟨h1, h2, h3⟩ := nh
  have e1 := Int.mul_nonneg ha l1
  have e2 := Int.mul_nonneg ha l2
  have e3 := Int.mul_nonneg hb h1
  have e4 := Int.mul_nonneg hb h2
  refine ⟨by show 0 ≤ _ + _; omega, by show 0 ≤ _ + _; omega, ?_⟩
  show 0 < a * low.1 + b * high.1 + (a * low.2 + b * high.2)
  by_cases q : 0 < a
  · have := Int.mul_pos q l3; grind
  · have := Int.mul_pos (show 0 < b by omega) h3; grind
abbrev fX (low : P) : P → Int := fun p => wt p low
def OKlh (low high : P) : Prop := NN low ∧ NN high ∧ ld low high
theorem alone_str (H : OKlh low high) {some' : List P} {p : P} (hp : p ∈ some') : (∃ l h, alone p (some'.filter fun o => decide (o ≠ p)) low high = some (l, h)) ↔ Str (fX low) (fX high) some' p := by
  obtain ⟨nl, nh, hd⟩ := H
  constructor
  · rintro ⟨l, h, e⟩
    obtain ⟨n1, n2, h3, h4, h5, h6⟩ := alone_some nl nh e
    have ns := mid_nn n1 n2
    have ⟨m1, m2⟩ := mid_ld h3
    have a1 := le_ld nl n1 ns h4 m1
    have a2 := ld_le ns n2 nh m2 h5
    refine ⟨hp, (l.1 + h.1) * high.2 - high.1 * (l.2 + h.2), low.1 * (l.2 + h.2) - (l.1 + h.1) * low.2, by unfold ld at a2; simp only [] at a2; omega, by unfold ld at a1; simp only [] at a1; omega, fun q hq hne => ?_⟩
    exact (wt_lt_iff hd p q (l.1 + h.1, l.2 + h.2)).1 (cut_lt (h6 q (by simp [hq, hne])) n1 n2 ns m1 m2)
  · rintro ⟨_, a, b, ha, hb, h⟩
    refine alone_of (s := (a * low.1 + b * high.1, a * low.2 + b * high.2)) (dir_nn nl nh (by omega) (by omega) (by omega)) nl nh ?_ ?_ fun o ho => ?_
    · unfold ld at *; simp only []
      have := Int.mul_lt_mul_of_pos_left hd hb
      grind
    · unfold ld at *; simp only []
      have := Int.mul_lt_mul_of_pos_left hd ha
      grind
    · simp at ho
      rw [dir_wt, dir_wt]
      exact h o ho.1 ho.2
/-- who comes first by its start is further at the low end -/
theorem start_order (H : OKlh low high) {ps : List P} {p q l h l' h' : P} (hpq : p ≠ q) (hp : p ∈ ps) (hq : q ∈ ps)
    (e : alone p (ps.filter fun o => decide (o ≠ p)) low high = some (l, h)) (e' : alone q (ps.filter fun o => decide (o ≠ q)) low high = some (l', h')) (hx : wt p low < wt q low) : ld l' l := by
  obtain ⟨nl, nh, hd⟩ := H
  obtain ⟨n1, n2, h3, h4, h5, h6⟩ := alone_some nl nh e
  obtain ⟨k1, k2, k3, k4, k5, k6⟩ := alone_some nl nh e'
  have c1 := cut_le (h6 q (by simp [hq, Ne.symm hpq])) n1 n2 n1 (Int.le_refl _) (ld_weak h3)
  have ns := mid_nn k1 k2
  have ⟨m1, m2⟩ := mid_ld k3
  have c2 := cut_lt (k6 p (by simp [hp, hpq])) k1 k2 ns m1 m2
  have ln := le_trans nl n1 n2 h4 (ld_weak h3)
  rw [wt_le_iff hd] at c1
  rw [wt_lt_iff hd] at c2
  generalize hs : ((l'.1 + h'.1, l'.2 + h'.2) : P) = s at *
  have b1 : 0 ≤ low.1 * l.2 - l.1 * low.2 := by unfold le at h4; omega
  have b2 : 0 ≤ low.1 * s.2 - s.1 * low.2 := by have := ld_weak (le_ld nl k1 ns k4 m1); unfold le at this; omega
  have a1 : 0 ≤ l.1 * high.2 - high.1 * l.2 := by have := le_trans n1 n2 nh (ld_weak h3) h5; unfold le at this; omega
  have dp : 0 < low.1 * high.2 - high.1 * low.2 := by unfold ld at hd; omega
  have bp : 0 < low.1 * l.2 - l.1 * low.2 := by
    apply Classical.byContradiction; intro hn
    have b0 : low.1 * l.2 - l.1 * low.2 = 0 := by omega
    rw [b0] at c1
    have a0 : l.1 * high.2 - high.1 * l.2 = 0 := by
      apply Classical.byContradiction; intro hn
      have := Int.mul_lt_mul_of_pos_left hx (show 0 < l.1 * high.2 - high.1 * l.2 by omega)
      omega
    have e1 : (low.1 * high.2 - high.1 * low.2) * l.1 = 0 := by
      have : (low.1 * high.2 - high.1 * low.2) * l.1 = low.1 * (l.1 * high.2 - high.1 * l.2) + high.1 * (low.1 * l.2 - l.1 * low.2) := by grind
      rw [this, a0, b0]; omega
    have e2 : (low.1 * high.2 - high.1 * low.2) * l.2 = 0 := by
      have : (low.1 * high.2 - high.1 * low.2) * l.2 = low.2 * (l.1 * high.2 - high.1 * l.2) + high.2 * (low.1 * l.2 - l.1 * low.2) := by grind
      rw [this, a0, b0]; omega
    have z1 : l.1 = 0 := by
      rcases Int.mul_eq_zero.1 e1 with q | q
      · omega
      · exact q
    have z2 : l.2 = 0 := by
      rcases Int.mul_eq_zero.1 e2 with q | q
      · omega
      · exact q
    have := n1.2.2
    omega
  have f1 := Int.mul_lt_mul_of_pos_left c2 bp
  have f2 := Int.mul_le_mul_of_nonneg_left c1 b2
  have f3 : 0 < ((low.1 * l.2 - l.1 * low.2) * (s.1 * high.2 - high.1 * s.2) - (low.1 * s.2 - s.1 * low.2) * (l.1 * high.2 - high.1 * l.2)) * (wt q low - wt p low) := by grind
  have f4 : 0 < (low.1 * l.2 - l.1 * low.2) * (s.1 * high.2 - high.1 * s.2) - (low.1 * s.2 - s.1 * low.2) * (l.1 * high.2 - high.1 * l.2) := by
    apply Classical.byContradiction; intro hn
    have := Int.mul_nonneg (show 0 ≤ -((low.1 * l.2 - l.1 * low.2) * (s.1 * high.2 - high.1 * s.2) - (low.1 * s.2 - s.1 * low.2) * (l.1 * high.2 - high.1 * l.2)) by omega) (show 0 ≤ wt q low - wt p low by omega)
    grind
  have f5 : (low.1 * l.2 - l.1 * low.2) * (s.1 * high.2 - high.1 * s.2) - (low.1 * s.2 - s.1 * low.2) * (l.1 * high.2 - high.1 * l.2) = (low.1 * high.2 - high.1 * low.2) * (s.1 * l.2 - l.1 * s.2) := by grind
  rw [f5] at f4
  have f6 : 0 < s.1 * l.2 - l.1 * s.2 := by
    apply Classical.byContradiction; intro hn
    have := Int.mul_nonneg (Int.le_of_lt dp) (show 0 ≤ -(s.1 * l.2 - l.1 * s.2) by omega)
    grind
  have f7 : ld s l := by unfold ld; omega
  exact ld_trans k1 ns n1 m1 f7
/-- the law's list: starts and corners -/
def starts (low high : P) (ps : List P) : List (P × P) := ps.filterMap fun p => (alone p (ps.filter fun o => decide (o ≠ p)) low high).map fun i => (i.1, p)
def rank (fs : List (P × P)) (l : P) : Nat := (fs.filter fun o => decide (ld o.1 l)).length
theorem filter_lt {α : Type} {p q : α → Bool} : ∀ {l : List α}, (∀ x ∈ l, p x = true → q x = true) → (∃ x ∈ l, q x = true ∧ p x = false) → (l.filter p).length < (l.filter q).length
  | [], _, ⟨x, hx, _⟩ => by simp at hx
  | y :: l, h, ⟨x, hx, h1, h2⟩ => by
    have hle : ∀ {l : List α}, (∀ x ∈ l, p x = true → q x = true) → (l.filter p).length ≤ (l.filter q).length := by
      intro l
      induction l with
      | nil => intro _; simp
      | cons z l ih =>
        intro h
        have := ih fun x hx => h x (List.mem_cons_of_mem _ hx)
        rw [List.filter_cons, List.filter_cons]
        by_cases e : p z = true
        · rw [if_pos e, if_pos (h z (by simp) e)]; simp; omega
        · rw [if_neg e]; split <;> simp <;> omega
    rw [List.filter_cons, List.filter_cons]
    have ht : ∀ x ∈ l, p x = true → q x = true := fun x hx => h x (List.mem_cons_of_mem _ hx)
    rcases List.mem_cons.1 hx with rfl | hx
    · rw [if_neg (by simp [h2]), if_pos h1]
      have := hle ht; simp; omega
    · have ih := filter_lt ht ⟨x, hx, h1, h2⟩
      by_cases e : p y = true
      · rw [if_pos e, if_pos (h y (by simp) e)]; simp; omega
      · rw [if_neg e]; split <;> simp <;> omega
theorem mem_starts {ps : List P} {f : P × P} : f ∈ starts low high ps ↔ f.2 ∈ ps ∧ ∃ h, alone f.2 (ps.filter fun o => decide (o ≠ f.2)) low high = some (f.1, h) := by
  unfold starts
  rw [List.mem_filterMap]
  constructor
  · rintro ⟨p, hp, e⟩
    cases ha : alone p (ps.filter fun o => decide (o ≠ p)) low high with
    | none => rw [ha] at e; cases e
    | some i => rw [ha] at e; cases e; exact ⟨hp, i.2, ha⟩
  · rintro ⟨hp, h, e⟩
    exact ⟨f.2, hp, by rw [e]; rfl⟩
theorem starts_nodup {ps : List P} (hn : ps.Nodup) : ((starts low high ps).map (·.2)).Nodup := by
  unfold starts
  have : (ps.filterMap fun p => (alone p (ps.filter fun o => decide (o ≠ p)) low high).map fun i => (i.1, p)).map (·.2) = ps.filter fun p => (alone p (ps.filter fun o => decide (o ≠ p)) low high).isSome := by
    rw [List.map_filterMap]
    generalize hf : (fun p => alone p (ps.filter fun o => decide (o ≠ p)) low high) = F
    have e1 : (fun x => Option.map (fun x => x.snd) (Option.map (fun i : P × P => (i.1, x)) (alone x (ps.filter fun o => decide (o ≠ x)) low high))) = fun x => if (F x).isSome = true then some x else none := by
      funext x; rw [← hf]; show _ = if (alone x (ps.filter fun o => decide (o ≠ x)) low high).isSome = true then some x else none; cases alone x (ps.filter fun o => decide (o ≠ x)) low high <;> rfl
    rw [e1]
    have e2 : (fun p => (alone p (ps.filter fun o => decide (o ≠ p)) low high).isSome) = fun p => (F p).isSome := by rw [← hf]
    rw [e2]
    clear e1 e2 hf hn
    induction ps with
    | nil => rfl
    | cons p ps ih =>
      rw [List.filterMap_cons, List.filter_cons, ih]
      split <;> split <;> simp_all
  rw [this]
  exact hn.sublist List.filter_sublist
/-- the law's order is the order of the walk -/
theorem corners_env (H : OKlh low high) {ps l : List P} (hn : ps.Nodup) (hm : ∀ p, p ∈ ps ↔ p ∈ l) (hs : l.Pairwise (Le (fX low) (fX high))) {S : List (Nat × P)}
    (hp : S.Perm ((starts low high ps).map fun f => (rank (starts low high ps) f.1, f.2))) (ho : S.Pairwise fun u v => u.1 ≤ v.1) : S.map (·.2) = env (fX low) (fX high) l := by
  have H' := H
  obtain ⟨nl, nh, hd⟩ := H
  have inj : ∀ p ∈ l, ∀ q ∈ l, fX low p = fX low q → fX high p = fX high q → p = q := fun p _ q _ a b => coord_inj hd a b
  have ms : ∀ {k : Nat} {p : P}, (k, p) ∈ S → ∃ f ∈ starts low high ps, k = rank (starts low high ps) f.1 ∧ p = f.2 := by
    intro k p hk
    have := hp.subset hk
    simp only [List.mem_map, Prod.mk.injEq] at this
    obtain ⟨f, hf, e1, e2⟩ := this
    exact ⟨f, hf, e1.symm, e2.symm⟩
  have hnd : (S.map (·.2)).Nodup := by
    have := (hp.map (·.2)).nodup_iff.2 (by simpa [Function.comp_def] using starts_nodup (low := low) (high := high) hn)
    exact this
  have pn : S.Pairwise fun u v => u.2 ≠ v.2 := List.pairwise_map.1 hnd
  have key : S.Pairwise fun u v => fX low v.2 < fX low u.2 := by
    have := (ho.and pn)
    refine List.Pairwise.imp_of_mem ?_ this
    rintro ⟨k, p⟩ ⟨j, q⟩ hk hj ⟨h1, h2⟩
    obtain ⟨f, hf, rfl, rfl⟩ := ms hk
    obtain ⟨g, hg, rfl, rfl⟩ := ms hj
    have hf' := mem_starts.1 hf
    have hg' := mem_starts.1 hg
    obtain ⟨p1, h, e⟩ := hf'
    obtain ⟨q1, h', e'⟩ := hg'
    simp only [] at h1 h2
    apply Classical.byContradiction
    intro hx
    show False
    by_cases he : wt f.2 low = wt g.2 low
    · obtain ⟨_, a, b, ha, hb, s1⟩ := (alone_str H' p1).1 ⟨_, _, e⟩
      obtain ⟨_, a', b', ha', hb', s2⟩ := (alone_str H' q1).1 ⟨_, _, e'⟩
      have t1 := s1 g.2 q1 (Ne.symm h2)
      have t2 := s2 f.2 p1 h2
      simp only [fX, he] at t1 t2
      have u1 : wt g.2 high < wt f.2 high := Int.lt_of_mul_lt_mul_left (a := b) (by omega) (by omega)
      have u2 : wt f.2 high < wt g.2 high := Int.lt_of_mul_lt_mul_left (a := b') (by omega) (by omega)
      omega
    · have hlt : wt f.2 low < wt g.2 low := by simp only [fX] at hx; omega
      have so := start_order H' h2 p1 q1 e e' hlt
      have n1 := (alone_some nl nh e).1
      have n2 := (alone_some nl nh e').1
      have : rank (starts low high ps) g.1 < rank (starts low high ps) f.1 := by
        unfold rank
        refine filter_lt (fun x hx hd => ?_) ⟨g, hg, by simpa using so, by simp [ld]⟩
        have nx := mem_starts.1 hx
        obtain ⟨_, hx', ex⟩ := nx
        have := (alone_some nl nh ex).1
        simp only [decide_eq_true_eq] at hd ⊢
        exact ld_trans this n2 n1 hd so
      omega
  refine eq_of_desc (fX low) (List.pairwise_map.2 key) (List.Pairwise.imp (fun h => h.1) (env_mono _ _ hs)) fun p => ?_
  rw [env_mem _ _ hs inj p]
  have : p ∈ S.map (·.2) ↔ ∃ f ∈ starts low high ps, f.2 = p := by
    constructor
    · intro h
      obtain ⟨⟨k, q⟩, hk, rfl⟩ := List.mem_map.1 h
      obtain ⟨f, hf, _, e⟩ := ms hk
      exact ⟨f, hf, e.symm⟩
    · rintro ⟨f, hf, rfl⟩
      exact List.mem_map.2 ⟨(rank (starts low high ps) f.1, f.2), hp.symm.subset (List.mem_map.2 ⟨f, hf, rfl⟩), rfl⟩
  rw [this]
  constructor
  · rintro ⟨f, hf, rfl⟩
    obtain ⟨h1, h, e⟩ := mem_starts.1 hf
    exact ((alone_str H' h1).1 ⟨_, _, e⟩).sub _ _ ((hm _).1 h1) fun q hq => (hm q).2 hq
  · intro h
    have hp' := (hm p).2 h.1
    obtain ⟨l', h', e⟩ := (alone_str H' hp').2 (h.sub _ _ hp' fun q hq => (hm q).1 hq)
    exact ⟨(l', p), mem_starts.2 ⟨hp', h', e⟩, rfl⟩
/-- the corners of corners -/
theorem env_env (hd : ld low high) {l k : List P} (hs : l.Pairwise (Le (fX low) (fX high))) (hk : k.Pairwise (Le (fX low) (fX high))) (hm : ∀ p, p ∈ k ↔ p ∈ env (fX low) (fX high) l) : env (fX low) (fX high) k = env (fX low) (fX high) l := by
  refine eq_of_desc (fX low) (List.Pairwise.imp (fun h => h.1) (env_mono _ _ hk)) (List.Pairwise.imp (fun h => h.1) (env_mono _ _ hs)) fun p => ?_
  rw [env_mem _ _ hk (fun p _ q _ a b => coord_inj hd a b) p]
  constructor
  · intro h; exact (hm p).1 h.1
  · intro h
    have := (env_mem _ _ hs (fun p _ q _ a b => coord_inj hd a b) p).1 h
    exact this.sub _ _ ((hm p).2 h) fun q hq => env_sub _ _ hs ((hm q).1 hq)
end
end HU
namespace HU
section
variable {low high : P}
/-- differences of two corners beside one another -/
theorem beside (H : OKlh low high) {c m : P} (hx : wt m low < wt c low) (hy : wt c high < wt m high) : 0 ≤ c.1 - m.1 ∧ 0 ≤ m.2 - c.2 ∧ 0 < (m.2 - c.2) + (c.1 - m.1) := by
  obtain ⟨⟨l1, l2, l3⟩, ⟨h1, h2, h3⟩, hd⟩ := H
  unfold wt at hx hy
  unfold ld at hd
  have dx : low.2 * (m.2 - c.2) < low.1 * (c.1 - m.1) := by grind
  have dy : high.1 * (c.1 - m.1) < high.2 * (m.2 - c.2) := by grind
  generalize c.1 - m.1 = u at *
  generalize m.2 - c.2 = v at *
  have u0 : 0 ≤ u := by
    apply Classical.byContradiction; intro hn
    have hv : v < 0 := by
      apply Classical.byContradiction; intro hv
      have a := Int.mul_nonneg l2 (show 0 ≤ v by omega)
      have b := Int.mul_nonneg l1 (show 0 ≤ -u by omega)
      grind
    have e1 := Int.mul_le_mul_of_nonneg_left (Int.le_of_lt dx) h2
    have e2 := Int.mul_le_mul_of_nonneg_left (Int.le_of_lt dy) l2
    have e3 := Int.mul_lt_mul_of_pos_right hd (show 0 < -u by omega)
    grind
  have v0 : 0 ≤ v := by
    apply Classical.byContradiction; intro hn
    have a := Int.mul_nonneg h1 u0
    have b := Int.mul_nonneg h2 (show 0 ≤ -v by omega)
    grind
  refine ⟨u0, v0, ?_⟩
  apply Classical.byContradiction; intro hn
  have z1 : u = 0 := by omega
  have z2 : v = 0 := by omega
  rw [z1, z2] at dx; simp at dx
/-- the price at which two corners beside one another meet -/
theorem meet_spec (H : OKlh low high) {l A B : List P} {c m : P} (hs : l.Pairwise (Le (fX low) (fX high))) (he : env (fX low) (fX high) l = A ++ c :: m :: B) :
    0 ≤ c.1 - m.1 ∧ 0 ≤ m.2 - c.2 ∧ 0 < (m.2 - c.2) + (c.1 - m.1) ∧ NN (tm (m.2 - c.2) (c.1 - m.1)) ∧ le low (tm (m.2 - c.2) (c.1 - m.1)) ∧ le (tm (m.2 - c.2) (c.1 - m.1)) high ∧
      wt c (tm (m.2 - c.2) (c.1 - m.1)) = wt m (tm (m.2 - c.2) (c.1 - m.1)) ∧ ∀ q ∈ l, wt q (tm (m.2 - c.2) (c.1 - m.1)) ≤ wt c (tm (m.2 - c.2) (c.1 - m.1)) := by
  obtain ⟨hx, hy, sup⟩ := edge_sup (fX low) (fX high) hs he
  obtain ⟨u0, v0, s0⟩ := beside H hx hy
  obtain ⟨g, e1, e2, n⟩ := tm_spec v0 u0 s0
  have hd := H.2.2
  refine ⟨u0, v0, s0, n, ?_, ?_, ?_, ?_⟩
  · unfold le
    simp only [fX] at hx
    unfold wt at hx
    have : gc (m.2 - c.2) (c.1 - m.1) * ((tm (m.2 - c.2) (c.1 - m.1)).1 * low.2) ≤ gc (m.2 - c.2) (c.1 - m.1) * (low.1 * (tm (m.2 - c.2) (c.1 - m.1)).2) := by
      have f1 : gc (m.2 - c.2) (c.1 - m.1) * ((tm (m.2 - c.2) (c.1 - m.1)).1 * low.2) = (m.2 - c.2) * low.2 := by rw [← Int.mul_assoc, ← e1]
      have f2 : gc (m.2 - c.2) (c.1 - m.1) * (low.1 * (tm (m.2 - c.2) (c.1 - m.1)).2) = low.1 * (c.1 - m.1) := by rw [Int.mul_left_comm, ← e2]
      rw [f1, f2]; grind
    exact Int.le_of_mul_le_mul_left this g
  · unfold le
    simp only [fX] at hy
    unfold wt at hy
    have : gc (m.2 - c.2) (c.1 - m.1) * (high.1 * (tm (m.2 - c.2) (c.1 - m.1)).2) ≤ gc (m.2 - c.2) (c.1 - m.1) * ((tm (m.2 - c.2) (c.1 - m.1)).1 * high.2) := by
      have f1 : gc (m.2 - c.2) (c.1 - m.1) * ((tm (m.2 - c.2) (c.1 - m.1)).1 * high.2) = (m.2 - c.2) * high.2 := by rw [← Int.mul_assoc, ← e1]
      have f2 : gc (m.2 - c.2) (c.1 - m.1) * (high.1 * (tm (m.2 - c.2) (c.1 - m.1)).2) = high.1 * (c.1 - m.1) := by rw [Int.mul_left_comm, ← e2]
      rw [f1, f2]; grind
    exact Int.le_of_mul_le_mul_left this g
  · have : (gc (m.2 - c.2) (c.1 - m.1)) * wt c (tm (m.2 - c.2) (c.1 - m.1)) = (gc (m.2 - c.2) (c.1 - m.1)) * wt m (tm (m.2 - c.2) (c.1 - m.1)) := by
      have f : ∀ q : P, gc (m.2 - c.2) (c.1 - m.1) * wt q (tm (m.2 - c.2) (c.1 - m.1)) = (m.2 - c.2) * q.1 + (c.1 - m.1) * q.2 := by
        intro q
        unfold wt
        rw [Int.mul_add, ← Int.mul_assoc, ← Int.mul_assoc, ← e1, ← e2]
      rw [f, f]; grind
    exact Int.eq_of_mul_eq_mul_left (by omega) this
  · intro q hq
    have f : ∀ q : P, gc (m.2 - c.2) (c.1 - m.1) * wt q (tm (m.2 - c.2) (c.1 - m.1)) = (m.2 - c.2) * q.1 + (c.1 - m.1) * q.2 := by
      intro q
      unfold wt
      rw [Int.mul_add, ← Int.mul_assoc, ← Int.mul_assoc, ← e1, ← e2]
    have k := sup q hq
    have z : ∀ q : P, (fX high m - fX high c) * fX low q + (fX low c - fX low m) * fX high q = (low.1 * high.2 - high.1 * low.2) * ((m.2 - c.2) * q.1 + (c.1 - m.1) * q.2) := by
      intro q; simp only [fX, wt]; grind
    rw [z, z, ← f, ← f, ← Int.mul_assoc, ← Int.mul_assoc] at k
    have dp : 0 < low.1 * high.2 - high.1 * low.2 := by unfold ld at hd; omega
    exact Int.le_of_mul_le_mul_left k (Int.mul_pos dp g)
/-- somewhere in a falling list the number lies between two beside one another -/
theorem gap {X : P → Int} {x : Int} : ∀ (E : List P) (c0 : P), x ≤ X c0 → (∃ e ∈ E, X e < x) → ∃ A c m B, c0 :: E = A ++ c :: m :: B ∧ X m < x ∧ x ≤ X c
  | [], _, _, ⟨e, he, _⟩ => by simp at he
  | m :: E, c0, h, ⟨e, he, h2⟩ => by
    by_cases hm : X m < x
    · exact ⟨[], c0, m, E, rfl, hm, h⟩
    · rcases List.mem_cons.1 he with rfl | he
      · exact absurd h2 hm
      · obtain ⟨A, c, m', B, e1, e2, e3⟩ := gap E m (by omega) ⟨e, he, h2⟩
        exact ⟨c0 :: A, c, m', B, by rw [List.cons_append, ← e1], e2, e3⟩
/-- a pair that is at no bend above the corners is shown by two of them -/
theorem mixing (H : OKlh low high) {l : List P} (hs : l.Pairwise (Le (fX low) (fX high))) {p : P}
    (h1 : ∃ c ∈ env (fX low) (fX high) l, wt p low ≤ wt c low) (h2 : ∃ c ∈ env (fX low) (fX high) l, wt p high ≤ wt c high)
    (h3 : ∀ A B c m, env (fX low) (fX high) l = A ++ c :: m :: B → ∃ e ∈ env (fX low) (fX high) l, wt p (tm (m.2 - c.2) (c.1 - m.1)) ≤ wt e (tm (m.2 - c.2) (c.1 - m.1))) :
    (∃ A c B, env (fX low) (fX high) l = A ++ c :: B ∧ wt p low ≤ wt c low ∧ wt p high ≤ wt c high) ∨
    (∃ A c m B, env (fX low) (fX high) l = A ++ c :: m :: B ∧ wt m low < wt p low ∧ wt p low ≤ wt c low ∧
      0 ≤ (wt p low - wt m low) * wt c high + (wt c low - wt p low) * wt m high - (wt c low - wt m low) * wt p high) := by
  have mo := env_mono (fX low) (fX high) hs
  obtain ⟨c1, hc1, k1⟩ := h1
  obtain ⟨c2, hc2, k2⟩ := h2
  by_cases hall : ∀ e ∈ env (fX low) (fX high) l, wt p low ≤ wt e low
  · obtain ⟨A, B, e⟩ := List.append_of_mem hc2
    exact .inl ⟨A, c2, B, e, hall c2 hc2, k2⟩
  · have hex : ∃ e ∈ env (fX low) (fX high) l, wt e low < wt p low := by
      apply Classical.byContradiction; intro hn
      exact hall fun e he => by
        apply Classical.byContradiction; intro q
        exact hn ⟨e, he, by omega⟩
    match hE : env (fX low) (fX high) l, hc1, mo, hex with
    | [], hc1, _, _ => simp at hc1
    | c0 :: E, hc1, mo, ⟨e, he, hlt⟩ =>
      have m1 := (List.pairwise_cons.1 mo).1
      have hc0 : wt p low ≤ wt c0 low := by
        rcases List.mem_cons.1 hc1 with rfl | q
        · exact k1
        · have := (m1 c1 q).1; simp only [fX] at this; omega
      have he' : ∃ e ∈ E, fX low e < wt p low := by
        rcases List.mem_cons.1 he with rfl | q
        · omega
        · exact ⟨e, q, hlt⟩
      obtain ⟨A, c, m, B, e1, e2, e3⟩ := gap (X := fX low) E c0 hc0 he'
      refine .inr ⟨A, c, m, B, e1, e2, e3, ?_⟩
      have e1' := hE.trans e1
      have ms := meet_spec H hs e1'
      obtain ⟨f, hf, k⟩ := h3 A B c m e1'
      have k' := Int.le_trans k (ms.2.2.2.2.2.2.2 f (env_sub _ _ hs hf))
      obtain ⟨g, g1, g2, n⟩ := tm_spec ms.2.1 ms.1 ms.2.2.1
      have hd := H.2.2
      have f : ∀ q : P, gc (m.2 - c.2) (c.1 - m.1) * wt q (tm (m.2 - c.2) (c.1 - m.1)) = (m.2 - c.2) * q.1 + (c.1 - m.1) * q.2 := by
        intro q
        unfold wt
        rw [Int.mul_add, ← Int.mul_assoc, ← Int.mul_assoc, ← g1, ← g2]
      have k2 := Int.mul_le_mul_of_nonneg_left k' (Int.le_of_lt g)
      rw [f, f] at k2
      have dp : 0 < low.1 * high.2 - high.1 * low.2 := by unfold ld at hd; omega
      have k3 := Int.mul_le_mul_of_nonneg_left k2 (Int.le_of_lt dp)
      unfold wt
      grind
/-- what is shown by two corners is nowhere above them -/
theorem mix_sound (hd : ld low high) {one other p s : P} {m n : Int} (hm : 0 ≤ m) (hn : 0 ≤ n) (h0 : m + n ≠ 0) (h1 : 0 ≤ wt (m * one.1 + n * other.1 - (m + n) * p.1, m * one.2 + n * other.2 - (m + n) * p.2) low)
    (h2 : 0 ≤ wt (m * one.1 + n * other.1 - (m + n) * p.1, m * one.2 + n * other.2 - (m + n) * p.2) high) (s1 : le low s) (s2 : le s high) : wt p s ≤ wt one s ∨ (0 < n ∧ wt p s ≤ wt other s) := by
  have dp : 0 < low.1 * high.2 - high.1 * low.2 := by unfold ld at hd; omega
  have c := coord (low := low) (high := high) (m * one.1 + n * other.1 - (m + n) * p.1, m * one.2 + n * other.2 - (m + n) * p.2) s
  have a1 : 0 ≤ s.1 * high.2 - high.1 * s.2 := by unfold le at s2; omega
  have a2 : 0 ≤ low.1 * s.2 - s.1 * low.2 := by unfold le at s1; omega
  have b1 := Int.mul_nonneg a1 h1
  have b2 := Int.mul_nonneg a2 h2
  have w0 : 0 ≤ wt (m * one.1 + n * other.1 - (m + n) * p.1, m * one.2 + n * other.2 - (m + n) * p.2) s := by
    apply Classical.byContradiction; intro q
    have := Int.mul_pos dp (show 0 < - wt (m * one.1 + n * other.1 - (m + n) * p.1, m * one.2 + n * other.2 - (m + n) * p.2) s by omega)
    grind
  have w1 : wt (m * one.1 + n * other.1 - (m + n) * p.1, m * one.2 + n * other.2 - (m + n) * p.2) s = m * (wt one s - wt p s) + n * (wt other s - wt p s) := by
    unfold wt; grind
  rw [w1] at w0
  apply Classical.byContradiction; intro q
  have q1 : wt one s - wt p s < 0 := by
    apply Classical.byContradiction; intro z; exact q (.inl (by omega))
  by_cases hn0 : 0 < n
  · have q2 : wt other s - wt p s < 0 := by
      apply Classical.byContradiction; intro z; exact q (.inr ⟨hn0, by omega⟩)
    have e2 := Int.mul_pos hn0 (show 0 < -(wt other s - wt p s) by omega)
    have e1 := Int.mul_nonneg hm (show 0 ≤ -(wt one s - wt p s) by omega)
    grind
  · have hn1 : n = 0 := by omega
    subst hn1
    have e1 := Int.mul_pos (show 0 < m by omega) (show 0 < -(wt one s - wt p s) by omega)
    grind
end
end HU
set_option maxHeartbeats 1000000
namespace HU
open PySem PySem.W PySem.Spec PyProof.Rows DL
/-! ### pairs as data, and their sorting -/
abbrev tD (p : P) : D := .tup [.int p.1, .int p.2]
abbrev tK (p : P) : PyData := .tuple [.int p.1, .int p.2]
theorem toPy_tD (M : Sto) (p : P) : toPy M (tD p) = some (tK p) := rfl
theorem toPys_map {α : Type} {M : Sto} {f : α → D} {g : α → PyData} : ∀ {l : List α}, (∀ x ∈ l, toPy M (f x) = some (g x)) → toPys M (l.map f) = some (l.map g)
  | [], _ => rfl
  | x :: l, h => by
    rw [List.map_cons, List.map_cons, toPys, h x (by simp), toPys_map fun z hz => h z (List.mem_cons_of_mem _ hz)]
theorem zip_map {α β γ : Type} (f : α → β) (g : α → γ) : ∀ l : List α, (l.map f).zip (l.map g) = l.map fun x => (f x, g x)
  | [] => rfl
  | x :: l => by rw [List.map_cons, List.map_cons, List.zip_cons_cons, zip_map, List.map_cons]
theorem dataLe_total {β : Type} (k : β → PyData) : (∀ a b c, dataLe false k a b = true → dataLe false k b c = true → dataLe false k a c = true) ∧ ∀ a b, (dataLe false k a b || dataLe false k b a) = true := by
  have t := sortLe_total (listOrd itemOrd) false fun b => keyToks (k b)
  exact ⟨fun a b c h1 h2 => t.trans a b c h1 h2, fun a b => by have := t.total a b; simpa [dataLe] using this⟩
/-- sorting of things by keys: a permutation in their order -/
theorem sortBy_gen {α : Type} (f : α → D) (g : α → PyData) (l : List α) : sortBy (l.map f) (l.map g) = (l.mergeSort (dataLe false g)).map f ∧ (l.mergeSort (dataLe false g)).Perm l ∧ (l.mergeSort (dataLe false g)).Pairwise fun a b => dataLt (g b) (g a) = false := by
  refine ⟨?_, List.mergeSort_perm _ _, ?_⟩
  · unfold sortBy
    rw [zip_map]
    have : (l.map fun x => (f x, g x)).mergeSort (dataLe false (·.2)) = (l.mergeSort (dataLe false g)).map fun x => (f x, g x) := by
      rw [List.map_mergeSort]
      intro a _ b _
      rfl
    rw [this, List.map_map]
    rfl
  · have t := dataLe_total g
    refine List.Pairwise.imp ?_ (List.pairwise_mergeSort t.1 t.2 l)
    intro a b h
    have : (!dataLt (g b) (g a)) = true := h
    simpa using this
theorem ii_all (x y : P → Int) (l : List P) : sortOk (l.map fun p => .tuple [.int (x p), .int (y p)]) = true := by
  unfold sortOk
  simp [alike, alikeAll, PyData.depth, PyData.depthAll]
/-- the walk's sorting -/
theorem sort_pairs (l : List P) (x y : P → Int) : ∃ s : List P, sortBy (l.map tD) (l.map fun p => .tuple [.int (-x p), .int (-y p)]) = s.map tD ∧ s.Perm l ∧ s.Pairwise (Le x y) := by
  obtain ⟨h1, h2, h3⟩ := sortBy_gen tD (fun p => .tuple [.int (-x p), .int (-y p)]) l
  refine ⟨_, h1, h2, h3.imp fun {a b} h => ?_⟩
  rw [dataLt_ii] at h
  have := of_decide_eq_false h
  unfold Le
  omega
abbrev rD (u : Nat × P) : D := .tup [.int u.1, tD u.2]
abbrev rK (u : Nat × P) : PyData := .tuple [.int u.1, tK u.2]
theorem rk_all (l : List (Nat × P)) : sortOk (l.map rK) = true := by
  unfold sortOk
  simp [alike, alikeAll, PyData.depth, PyData.depthAll]
theorem sort_ranks (l : List (Nat × P)) : ∃ s : List (Nat × P), sortBy (l.map rD) (l.map rK) = s.map rD ∧ s.Perm l ∧ s.Pairwise fun u v => u.1 ≤ v.1 := by
  obtain ⟨h1, h2, h3⟩ := sortBy_gen rD rK l
  refine ⟨_, h1, h2, h3.imp fun {a b} h => ?_⟩
  unfold rK at h
  rw [dataLt_pair (by simp [alike]) (by simp [alike, alikeAll]), dataLt_int] at h
  apply Classical.byContradiction
  intro hn
  rw [if_neg (by simp [PyData.eqv]; omega)] at h
  simp at h
  omega
end HU
set_option maxHeartbeats 4000000
namespace HU
/-! the corners of any list of pairs -/
def leB (lo hi p q : P) : Bool := decide (wt q lo < wt p lo ∨ (wt q lo = wt p lo ∧ wt q hi ≤ wt p hi))
def srt (lo hi : P) (ps : List P) : List P := ps.mergeSort (leB lo hi)
theorem srt_spec (lo hi : P) (ps : List P) : (srt lo hi ps).Perm ps ∧ (srt lo hi ps).Pairwise (Le (fX lo) (fX hi)) := by
  refine ⟨List.mergeSort_perm _ _, List.Pairwise.imp ?_ (List.pairwise_mergeSort (le := leB lo hi) ?_ ?_ ps)⟩
  · intro a b h
    have := of_decide_eq_true h
    unfold Le
    exact this
  · intro a b c h1 h2
    have := of_decide_eq_true h1
    have := of_decide_eq_true h2
    exact decide_eq_true (by omega)
  · intro a b
    unfold leB
    rw [Bool.or_eq_true, decide_eq_true_eq, decide_eq_true_eq]
    omega
def cor (lo hi : P) (ps : List P) : List P := env (fX lo) (fX hi) (srt lo hi ps)
theorem cor_eq {lo hi : P} (hd : ld lo hi) {s ps : List P} (hs : s.Pairwise (Le (fX lo) (fX hi))) (hm : ∀ p, p ∈ s ↔ p ∈ ps) : env (fX lo) (fX hi) s = cor lo hi ps := by
  obtain ⟨h1, h2⟩ := srt_spec lo hi ps
  have inj : ∀ l : List P, ∀ p ∈ l, ∀ q ∈ l, fX lo p = fX lo q → fX hi p = fX hi q → p = q := fun l p _ q _ a b => coord_inj hd a b
  refine eq_of_desc (fX lo) (List.Pairwise.imp (fun h => h.1) (env_mono _ _ hs)) (List.Pairwise.imp (fun h => h.1) (env_mono _ _ h2)) fun p => ?_
  unfold cor
  rw [env_mem _ _ hs (inj _) p, env_mem _ _ h2 (inj _) p]
  constructor
  · intro h; exact h.sub _ _ (h1.mem_iff.2 ((hm p).1 h.1)) fun q hq => (hm q).2 (h1.mem_iff.1 hq)
  · intro h; exact h.sub _ _ ((hm p).2 (h1.mem_iff.1 h.1)) fun q hq => h1.mem_iff.2 ((hm q).1 hq)
theorem cor_sub {lo hi : P} {ps : List P} {c : P} (h : c ∈ cor lo hi ps) : c ∈ ps := (srt_spec lo hi ps).1.mem_iff.1 (env_sub _ _ (srt_spec lo hi ps).2 h)
end HU
set_option maxHeartbeats 4000000
namespace HU
/-! a front is told by its values -/
/-- at each price of the stretch, what the first tells is reached by the second -/
def DmS (lo hi : P) (E F : List P) : Prop := ∀ s, NN s → le lo s → le s hi → ∀ c ∈ E, ∃ d ∈ F, wt c s ≤ wt d s
theorem DmS.trans {lo hi : P} {E F G : List P} (h : DmS lo hi E F) (k : DmS lo hi F G) : DmS lo hi E G := fun s a b c e he => by
  obtain ⟨d, hd, h1⟩ := h s a b c e he
  obtain ⟨g, hg, h2⟩ := k s a b c d hd
  exact ⟨g, hg, Int.le_trans h1 h2⟩
theorem DmS.of_sub {lo hi : P} {E F : List P} (h : ∀ c ∈ E, c ∈ F) : DmS lo hi E F := fun s _ _ _ c hc => ⟨c, h c hc, Int.le_refl _⟩
theorem DmS.narrow {lo hi lo' hi' : P} {E F : List P} (h : DmS lo hi E F) (n1 : NN lo) (n2 : NN hi) (n3 : NN lo') (n4 : NN hi') (a : le lo lo') (b : le hi' hi) : DmS lo' hi' E F := fun s hs h1 h2 =>
  h s hs (le_trans n1 n3 hs a h1) (le_trans hs n4 n2 h2 b)
theorem DmS.app {lo hi : P} {E F E' F' : List P} (h : DmS lo hi E F) (k : DmS lo hi E' F') : DmS lo hi (E ++ E') (F ++ F') := fun s a b c e he => by
  rcases List.mem_append.1 he with h1 | h1
  · obtain ⟨d, hd, h2⟩ := h s a b c e h1
    exact ⟨d, List.mem_append_left _ hd, h2⟩
  · obtain ⟨d, hd, h2⟩ := k s a b c e h1
    exact ⟨d, List.mem_append_right _ hd, h2⟩
/-- in coordinates -/
theorem DmS.dir {lo hi : P} {E F : List P} (H : OKlh lo hi) (h : DmS lo hi E F) {a b : Int} (ha : 0 ≤ a) (hb : 0 ≤ b) : ∀ c ∈ E, ∃ d ∈ F, a * wt c lo + b * wt c hi ≤ a * wt d lo + b * wt d hi := by
  obtain ⟨nl, nh, hd⟩ := H
  intro c hc
  by_cases z : 0 < a + b
  · obtain ⟨d, hd', h1⟩ := h (a * lo.1 + b * hi.1, a * lo.2 + b * hi.2) (dir_nn nl nh ha hb z) (by
      unfold le ld at *
      have := Int.mul_le_mul_of_nonneg_left (Int.le_of_lt hd) hb
      simp only []
      grind) (by
      unfold le ld at *
      have := Int.mul_le_mul_of_nonneg_left (Int.le_of_lt hd) ha
      simp only []
      grind) c hc
    rw [dir_wt, dir_wt] at h1
    exact ⟨d, hd', h1⟩
  · have a0 : a = 0 := by omega
    have b0 : b = 0 := by omega
    subst a0; subst b0
    obtain ⟨d, hd', _⟩ := h lo nl (Int.le_refl _) (ld_weak hd) c hc
    exact ⟨d, hd', by simp⟩
/-- the corners reach what all pairs tell -/
theorem cor_dom {lo hi : P} (H : OKlh lo hi) (ps : List P) : DmS lo hi ps (cor lo hi ps) := by
  obtain ⟨h1, h2⟩ := srt_spec lo hi ps
  obtain ⟨nl, nh, hd⟩ := H
  intro s hs l1 l2 c hc
  have a1 : 0 ≤ s.1 * hi.2 - hi.1 * s.2 := by unfold le at l2; omega
  have a2 : 0 ≤ lo.1 * s.2 - s.1 * lo.2 := by unfold le at l1; omega
  obtain ⟨d, hd', h3⟩ := env_dom (fX lo) (fX hi) h2 (h1.mem_iff.2 hc) a1 a2
  exact ⟨d, hd', (wt_le_iff hd d c s).2 h3⟩
theorem cor_back {lo hi : P} (ps : List P) : DmS lo hi (cor lo hi ps) ps := DmS.of_sub fun c hc => cor_sub hc
/-- two lists of corners that reach each other are one -/
theorem env_uniq {lo hi : P} (H : OKlh lo hi) {l k : List P} (hl : l.Pairwise (Le (fX lo) (fX hi))) (hk : k.Pairwise (Le (fX lo) (fX hi)))
    (h1 : DmS lo hi (env (fX lo) (fX hi) l) (env (fX lo) (fX hi) k)) (h2 : DmS lo hi (env (fX lo) (fX hi) k) (env (fX lo) (fX hi) l)) : env (fX lo) (fX hi) l = env (fX lo) (fX hi) k := by
  have key : ∀ {l k : List P}, l.Pairwise (Le (fX lo) (fX hi)) → DmS lo hi (env (fX lo) (fX hi) l) (env (fX lo) (fX hi) k) → DmS lo hi (env (fX lo) (fX hi) k) (env (fX lo) (fX hi) l) → ∀ c ∈ env (fX lo) (fX hi) l, c ∈ env (fX lo) (fX hi) k := by
    intro l k hl h1 h2 c hc
    have I := stack_inv (fX lo) (fX hi) hl
    have hcs : c ∈ l.foldl (step (fX lo) (fX hi)) [] := by unfold env at hc; simpa using hc
    obtain ⟨s, t, e⟩ := List.append_of_mem hcs
    have g := I.gb
    have mo := I.mo
    rw [e] at g mo
    obtain ⟨ma, mb, na, nb, p1, p2, p3, p4, hx, hm, hn⟩ := corner_dirs (fX lo) (fX hi) g mo
    obtain ⟨d, hd, h3⟩ := h1.dir H (a := ma + na) (b := mb + nb) (by omega) (by omega) c hc
    obtain ⟨e1, he1, q1⟩ := h2.dir H p1 p2 d hd
    obtain ⟨e2, he2, q2⟩ := h2.dir H p3 p4 d hd
    have st : ∀ z ∈ env (fX lo) (fX hi) l, z ∈ s ++ c :: t := fun z hz => by rw [← e]; unfold env at hz; simpa using hz
    have r1 := hm e1 (st e1 he1)
    have r2 := hn e2 (st e2 he2)
    have z1 : ma * (wt d lo - wt c lo) + mb * (wt d hi - wt c hi) = 0 := by
      simp only [fX] at r1 r2
      grind
    have z2 : na * (wt d lo - wt c lo) + nb * (wt d hi - wt c hi) = 0 := by
      simp only [fX] at r1 r2
      grind
    have f1 : (ma * nb - mb * na) * (wt d lo - wt c lo) = 0 := by grind
    have f2 : (ma * nb - mb * na) * (wt d hi - wt c hi) = 0 := by grind
    have g1 : wt d lo - wt c lo = 0 := by
      rcases Int.mul_eq_zero.1 f1 with q | q
      · omega
      · exact q
    have g2 : wt d hi - wt c hi = 0 := by
      rcases Int.mul_eq_zero.1 f2 with q | q
      · omega
      · exact q
    have : d = c := coord_inj H.2.2 (by omega) (by omega)
    exact this ▸ hd
  exact eq_of_desc (fX lo) (List.Pairwise.imp (fun h => h.1) (env_mono _ _ hl)) (List.Pairwise.imp (fun h => h.1) (env_mono _ _ hk)) fun p => ⟨key hl h1 h2 p, key hk h2 h1 p⟩
/-- the corners of lists that reach each other -/
theorem cor_uniq {lo hi : P} (H : OKlh lo hi) {ps qs : List P} (h1 : DmS lo hi ps qs) (h2 : DmS lo hi qs ps) : cor lo hi ps = cor lo hi qs := by
  refine env_uniq H (srt_spec lo hi ps).2 (srt_spec lo hi qs).2 ?_ ?_
  · exact ((cor_back ps).trans h1).trans (cor_dom H qs)
  · exact ((cor_back qs).trans h2).trans (cor_dom H ps)
end HU
set_option maxHeartbeats 4000000
namespace K01
open PySem L2 DL
theorem szl {n : Nat} (h : n ≤ 1000) : n ≤ sizeLine := by
  have : sizeLine = 16777216 := sizeLine_eq
  omega
theorem lg {i : Int} (k : Nat) (hk : 0 < k) (h : i.natAbs < 2 ^ k) : i.natAbs.log2 < k := log2_lt h hk
def Kd4 : List Key := [.inr "great", .inr "cells", .inr "left", .inr "turn"]
def Dr (g c : List Int) (l t : Int) (R : Sto) : Sto := .lst (g.map .int) :: .dic Kd4 [.own 0, .lst (c.map .int), .int l, .int t] :: R
structure Dv (n : Int) (R : Sto) (M : Sto) : Prop where
  ex : ∃ g c l t, M = Dr g c l t R ∧ (∀ x ∈ g, 0 ≤ x) ∧ (∀ x ∈ c, 0 ≤ x ∧ x < 2147483629) ∧ 0 ≤ l ∧ 0 ≤ t ∧ t ≤ n
theorem Dv.mono {n m : Int} {R M : Sto} (h : Dv n R M) (k : n ≤ m) : Dv m R M := by
  obtain ⟨g, c, l, t, e, h1, h2, h3, h4, h5⟩ := h.ex
  exact ⟨g, c, l, t, e, h1, h2, h3, h4, Int.le_trans h5 k⟩
section
variable {g c : List Int} {l t v : Int} {R : Sto} {ρ : DL.Env}
theorem get_great : gDGet (Dr g c l t R) (.own 1) (.str "great") = some (.own 0) := by rfl
theorem get_cells : gDGet (Dr g c l t R) (.own 1) (.str "cells") = some (.lst (c.map .int)) := by rfl
theorem get_left : gDGet (Dr g c l t R) (.own 1) (.str "left") = some (.int l) := by rfl
theorem get_turn : gDGet (Dr g c l t R) (.own 1) (.str "turn") = some (.int t) := by rfl
theorem put_left : kDP ρ (.int v) (.own 1) (.str "left") (Dr g c l t R) = .nx ρ (Dr g c v t R) := by
  have h : (4 : Nat) < sizeLine := by rw [sizeLine_eq]; decide
  show (if (4 : Nat) < sizeLine then Out.nx ρ ((Dr g c l t R).set 1 (.dic (putKs Kd4 (.inr "left")) (putVs Kd4 [.own 0, .lst (c.map .int), .int l, .int t] (.inr "left") (.int v)))) else .bad) = _
  rw [if_pos h]
  rfl
theorem put_turn : kDP ρ (.int v) (.own 1) (.str "turn") (Dr g c l t R) = .nx ρ (Dr g c l v R) := by
  have h : (4 : Nat) < sizeLine := by rw [sizeLine_eq]; decide
  show (if (4 : Nat) < sizeLine then Out.nx ρ ((Dr g c l t R).set 1 (.dic (putKs Kd4 (.inr "turn")) (putVs Kd4 [.own 0, .lst (c.map .int), .int l, .int t] (.inr "turn") (.int v)))) else .bad) = _
  rw [if_pos h]
  rfl
end
theorem gInt_int (M : Sto) (i : Int) : gInt1 M [.int i] = some (.int i) := rfl
theorem mix_cells {M : Sto} {turn p found : Int} (hp : 0 < p) (hp2 : p < 2147483648) (ht : 0 ≤ turn) (ht2 : turn ≤ 1000000000) : ∀ (c : List Int) (blend : Int) (x5 : Option D), (∀ x ∈ c, 0 ≤ x ∧ x < 2147483629) → 0 ≤ blend → blend < 2 ^ 63 →
    ∃ (b' : Int) (x5' : Option D), forD (gNm 5) (sSet 4 (dBin gMod (dCallB gInt1 (dCons (dBin gAdd (dBin gAdd (dBin gMul (dVar 4) (dC (.int 69621))) (dVar 5)) (dVar 1)) (dNil))) (dVar 3))) (c.map .int) [some (.own 1), some (.int turn), some (.int found), some (.int p), some (.int blend), x5] M =
      .nx [some (.own 1), some (.int turn), some (.int found), some (.int p), some (.int b'), x5'] M ∧ 0 ≤ b' ∧ b' < 2 ^ 63
  | [], blend, x5, _, h1, h2 => ⟨blend, x5, rfl, h1, h2⟩
  | x :: c, blend, x5, hc, h1, h2 => by
    have hx := hc x List.mem_cons_self
    have hm := Int.emod_nonneg (blend * 69621 + x + turn) (Int.ne_of_gt hp)
    have hm2 := Int.emod_lt_of_pos (blend * 69621 + x + turn) hp
    obtain ⟨b', x5', e, e1, e2⟩ := mix_cells hp hp2 ht ht2 c ((blend * 69621 + x + turn) % p) (some (.int x)) (fun y hy => hc y (List.mem_cons_of_mem _ hy)) hm (by omega)
    refine ⟨b', x5', ?_, e1, e2⟩
    have l1 := lg (i := blend) 63 (by decide) (by omega)
    have l2 : (69621 : Int).natAbs.log2 < 20 := by decide
    rw [List.map_cons, forD_cons, stp_nm]
    simp only [List.set_cons_succ, List.set_cons_zero, sSet_eq, dBin_eq, dCallB_eq, dCons_eq, dNil_eq, dVar_s, dVar_0, dC_eq, bind_ok, gMul_int (M := M) (i := blend) (j := 69621) (by omega), ofO_some', gAdd_int, gInt_int, gMod_int hp, thn_ok, aft_nx]
    exact e
theorem mix_round {M : Sto} {g c : List Int} {l turn p : Int} {R : Sto} (hM : M = Dr g c l turn R) (hc : ∀ x ∈ c, 0 ≤ x ∧ x < 2147483629) (hp : 37 ≤ p) (hp2 : p < 2147483648) (ht : 0 ≤ turn) (ht2 : turn ≤ 1000000000) (found : Int) (hf : 0 ≤ found) (hf2 : found < 2 ^ 200) (x3 x4 x5 : Option D) :
    ∃ (f' : Int) (x4' x5' : Option D), (sSq (sSet 4 (dBin gAdd (dBin gMul (dC (.int 48271)) (dVar 1)) (dBin gDiv (dVar 3) (dC (.int 37))))) (sSq (sFor 4000 (iLst (dBin gDGet (dVar 0) (dC (.str ("cells" : Str))))) (gNm 5) (sSet 4 (dBin gMod (dCallB gInt1 (dCons (dBin gAdd (dBin gAdd (dBin gMul (dVar 4) (dC (.int 69621))) (dVar 5)) (dVar 1)) (dNil))) (dVar 3)))) (sSet 2 (dBin gAdd (dBin gMul (dVar 2) (dC (.int 2147483647))) (dBin gMod (dCallB gInt1 (dCons (dBin gPow (dVar 4) (dC (.int 5))) (dNil))) (dVar 3))))))
      [some (.own 1), some (.int turn), some (.int found), some (.int p), x4, x5] M = .nx [some (.own 1), some (.int turn), some (.int f'), some (.int p), x4', x5'] M ∧ 0 ≤ f' ∧ f' ≤ found * 2147483647 + p := by
  subst hM
  have q0 : 0 ≤ p / 37 := by omega
  have q1 : p / 37 ≤ p := by omega
  obtain ⟨b', x5', e, e1, e2⟩ := mix_cells (M := Dr g c l turn R) (p := p) (found := found) (by omega) hp2 ht ht2 c (48271 * turn + p / 37) x5 hc (by omega) (by omega)
  have m0 := Int.emod_nonneg (b' ^ 5) (show p ≠ 0 by omega)
  have m1 := Int.emod_lt_of_pos (b' ^ 5) (show 0 < p by omega)
  have l1 := lg (i := turn) 63 (by decide) (by omega)
  have l2 : (48271 : Int).natAbs.log2 < 20 := by decide
  have l3 := lg (i := found) 200 (by decide) (by omega)
  have l4 : (2147483647 : Int).natAbs.log2 < 40 := by decide
  have l5 : (37 : Int).natAbs.log2 < 20 := by decide
  refine ⟨found * 2147483647 + b' ^ 5 % p, some (.int b'), x5', ?_, by omega, by omega⟩
  simp only [sSq_eq, sSet_eq, sFor_eq, iLst_eq, List.set_cons_succ, List.set_cons_zero, dBin_eq, dCallB_eq, dCons_eq, dNil_eq, dVar_s, dVar_0, dC_eq, bind_ok, gMul_int (M := Dr g c l turn R) (i := 48271) (j := turn) (by omega), gDiv_int (M := Dr g c l turn R) (i := p) (j := 37) (by decide) (by omega), ofO_some', gAdd_int, thn_ok, seq_nx, get_cells, kLst_lst, forI_fix, e,
    gPow_int (M := Dr g c l turn R) (i := b') (j := 5) ⟨by decide, by decide, by omega⟩, gInt_int, gMod_int (M := Dr g c l turn R) (j := p) (show 0 < p by omega), gMul_int (M := Dr g c l turn R) (i := found) (j := 2147483647) (by omega)]
  rfl
theorem mixed {M : Sto} {g c : List Int} {l turn : Int} {R : Sto} (hM : M = Dr g c l turn R) (hc : ∀ x ∈ c, 0 ≤ x ∧ x < 2147483629) (ht : 0 ≤ turn) (ht2 : turn < 1000000000) : ∃ f : Int, F__law_mixed [.own 1] M = .ok (.int f) (Dr g c l (turn + 1) R) ∧ 0 ≤ f := by
  subst hM
  have z : (0 : Int) ≤ 0 := Int.le_refl _
  obtain ⟨f1, a4, a5, e1, p1, r1⟩ := mix_round (M := Dr g c l (turn + 1) R) rfl hc (p := 2147483647) (by decide) (by decide) (by omega) (by omega) 0 z (by decide) none none none
  obtain ⟨f2, b4, b5, e2, p2, r2⟩ := mix_round (M := Dr g c l (turn + 1) R) rfl hc (p := 2147483629) (by decide) (by decide) (by omega) (by omega) f1 p1 (by omega) none a4 a5
  obtain ⟨f3, c4, c5, e3, p3, r3⟩ := mix_round (M := Dr g c l (turn + 1) R) rfl hc (p := 2147483587) (by decide) (by decide) (by omega) (by omega) f2 p2 (by omega) none b4 b5
  obtain ⟨f4, d4, d5, e4, p4, r4⟩ := mix_round (M := Dr g c l (turn + 1) R) rfl hc (p := 2147483579) (by decide) (by decide) (by omega) (by omega) f3 p3 (by omega) none c4 c5
  refine ⟨f4, ?_, p4⟩
  rw [F__law_mixed, fnD_eq]
  show outR (b__law_mixed [some (.own 1), none, none, none, none, none] (Dr g c l turn R)) = _
  rw [b__law_mixed, sSq_eq, sPar_eq]
  simp only [dBin_eq, dVar_0, dC_eq, bind_ok, get_turn, ofO_some', gAdd_int, thn_ok, List.set_cons_succ, List.set_cons_zero, seq_nx]
  rw [sSq_eq, sDP_eq]
  simp only [dVar_s, dVar_0, dC_eq, bind_ok, thn_ok, put_turn, seq_nx]
  rw [sSq_eq, sFor_eq]
  simp only [iLst_eq, dLst_eq, dCons_eq, dNil_eq, dC_eq, bind_ok]
  rw [if_pos (szl (by decide))]
  simp only [bind_ok, kLst_lst, thn_ok, forI_fix]
  rw [forD_cons, stp_nm]
  simp only [List.set_cons_succ, List.set_cons_zero, e1, aft_nx]
  rw [forD_cons, stp_nm]
  simp only [List.set_cons_succ, List.set_cons_zero, e2, aft_nx]
  rw [forD_cons, stp_nm]
  simp only [List.set_cons_succ, List.set_cons_zero, e3, aft_nx]
  rw [forD_cons, stp_nm]
  simp only [List.set_cons_succ, List.set_cons_zero, e4, aft_nx, forD_nil, seq_nx, sRt_eq, dVar_s, dVar_0, thn_ok, outR_rt]
theorem lst_own {g c : List Int} {l t : Int} {R : Sto} : lstOf (Dr g c l t R) (.own 0) = some (g.map .int) := rfl
theorem pop_own {x : Int} {g c : List Int} {l t : Int} {R : Sto} : kMt gPopAt (.own 0) [.int 0] (Dr (x :: g) c l t R) = .ok (.int x) (Dr g c l t R) := by
  have h : seqIndex? 0 ((x :: g).map D.int).length = some 0 := by
    unfold seqIndex?
    simp
  show (match (match (if -(2 ^ 63) ≤ (0 : Int) ∧ (0 : Int) < 2 ^ 63 then match seqIndex? 0 ((x :: g).map D.int).length with
      | some k => match ((x :: g).map D.int)[k]? with
        | some d => some (d, (Dr (x :: g) c l t R).set 0 (.lst (((x :: g).map D.int).eraseIdx k)))
        | none => none
      | none => none
      else none) with
    | some (d, M3) => Res.ok d M3
    | none => .bad) with | r => r) = _
  rw [if_pos (by decide), h]
  rfl
theorem take_tail {g c : List Int} {l t m : Int} {R : Sto} (hl : 0 ≤ l) (hm : 0 < m) (hm2 : m.natAbs.log2 < 9000) (x2 : Option D) :
    (sSq (sSet 2 (dBin gMod (dCallB gInt1 (dCons (dBin gDGet (dVar 0) (dC (.str ("left" : Str)))) (dNil))) (dVar 1))) (sSq (sDP (dVar 0) (dC (.str ("left" : Str))) (dBin gDiv (dBin gDGet (dVar 0) (dC (.str ("left" : Str)))) (dVar 1))) (sRt (dVar 2)))) [some (.own 1), some (.int m), x2] (Dr g c l t R) = .rt (.int (l % m)) (Dr g c (l / m) t R) := by
  simp only [sSq_eq, sSet_eq, sDP_eq, sRt_eq, dBin_eq, dCallB_eq, dCons_eq, dNil_eq, dVar_s, dVar_0, dC_eq, bind_ok, thn_ok, get_left, ofO_some', gInt_int, gMod_int hm, gDiv_int hm hm2, List.set_cons_succ, List.set_cons_zero, seq_nx, put_left]
theorem take {n m : Int} {R M : Sto} (h : Dv n R M) (hn : n < 1000000000) (hm : 0 < m) (hm2 : m.natAbs.log2 < 9000) : ∃ r M', F__law_take [.own 1, .int m] M = .ok (.int r) M' ∧ 0 ≤ r ∧ r < m ∧ Dv (n + 1) R M' := by
  obtain ⟨g, c, l, t, rfl, h1, h2, h3, h4, h5⟩ := h.ex
  have run : ∃ g' l' t', (∀ x ∈ g', 0 ≤ x) ∧ 0 ≤ l' ∧ 0 ≤ t' ∧ t' ≤ n + 1 ∧ (sIf (dTst (dBin gEq (dBin gDGet (dVar 0) (dC (.str ("left" : Str)))) (dC (.int 0)))) (sDP (dVar 0) (dC (.str ("left" : Str))) (dIf (dTst (dBin gNe (dBin gDGet (dVar 0) (dC (.str ("great" : Str)))) (dLst (dNil)))) (dMt gPopAt (dBin gDGet (dVar 0) (dC (.str ("great" : Str)))) (dCons (dC (.int 0)) (dNil))) (dCallF F__law_mixed (dCons (dVar 0) (dNil))))) (sNx))
      [some (.own 1), some (.int m), none] (Dr g c l t R) = .nx [some (.own 1), some (.int m), none] (Dr g' c l' t' R) := by
    rw [sIf_eq]
    simp only [dTst_eq, dBin_eq, dVar_0, dC_eq, bind_ok, get_left, ofO_some', gEq_int, asB_bl, thn_ok]
    by_cases hl : l = 0
    · rw [if_pos (by simp [hl]), sDP_eq, dIf_eq]
      simp only [dTst_eq, dBin_eq, dVar_0, dC_eq, bind_ok, get_great, ofO_some', dLst_eq, dNil_eq]
      rw [if_pos (szl (by decide))]
      have hne := gNe_own (M := Dr g c l t R) (n := 0) (l := g) rfl
      simp only [bind_ok, hne, ofO_some', asB_bl]
      cases g with
      | nil =>
        obtain ⟨f, e, hf⟩ := mixed (M := Dr [] c l t R) rfl h2 h4 (by omega)
        refine ⟨[], f, t + 1, fun x hx => by simp at hx, hf, by omega, by omega, ?_⟩
        rw [if_neg (by simp)]
        simp only [dCallF_eq, dCons_eq, dNil_eq, dVar_0, bind_ok, e, thn_ok, dC_eq, put_left]
      | cons x g =>
        refine ⟨g, x, t, fun y hy => h1 y (List.mem_cons_of_mem _ hy), h1 x List.mem_cons_self, h4, by omega, ?_⟩
        rw [if_pos (by simp)]
        simp only [dMt_own, dBin_eq, dVar_0, dC_eq, bind_ok, get_great, ofO_some', lst_own, dCons_eq, dNil_eq, pop_own, thn_ok, put_left]
    · rw [if_neg (by simp [hl])]
      exact ⟨g, l, t, h1, h3, h4, by omega, rfl⟩
  obtain ⟨g', l', t', k1, k2, k3, k4, e⟩ := run
  refine ⟨l' % m, Dr g' c (l' / m) t' R, ?_, Int.emod_nonneg _ (by omega), Int.emod_lt_of_pos _ hm, ⟨g', c, l' / m, t', rfl, k1, h2, Int.ediv_nonneg k2 (by omega), k3, k4⟩⟩
  rw [F__law_take, fnD_eq]
  show outR (b__law_take [some (.own 1), some (.int m), none] (Dr g c l t R)) = _
  rw [b__law_take, sSq_eq, e, seq_nx, take_tail k2 hm hm2]
  rfl
/-- an item of a list that is drawn -/
theorem pick {n : Int} {R M : Sto} {ds : List D} (h : Dv n R M) (hn : n < 1000000000) (h0 : ds ≠ []) (h1 : ds.length < 1000000) : ∃ d M', F__law_pick [.own 1, .lst ds] M = .ok d M' ∧ d ∈ ds ∧ Dv (n + 1) R M' := by
  have hp : 0 < ds.length := List.length_pos_iff.mpr h0
  obtain ⟨r, M', e, r0, r1, v⟩ := take (m := ds.length) h hn (by omega) (Nat.lt_trans (lg 63 (by decide) (by omega)) (by decide))
  have hr : r.toNat < ds.length := by omega
  refine ⟨ds[r.toNat], M', ?_, List.getElem_mem hr, v⟩
  have hix : gIx M' (.lst ds) (.int r) = some ds[r.toNat] := by
    show atI ds r = _
    unfold atI
    rw [ixN_nn r0 r1]
    exact List.getElem?_eq_getElem hr
  have hlen : gLen M [.lst ds] = some (.int ds.length) := rfl
  rw [F__law_pick, fnD_eq]
  show outR (b__law_pick [some (.own 1), some (.lst ds)] M) = _
  rw [b__law_pick, sRt_eq]
  simp only [dBin_eq, dVar_s, dVar_0, bind_ok, dCallF_eq, dCons_eq, dCallB_eq, dNil_eq, hlen, ofO_some', e, hix, thn_ok, outR_rt]
/-- the draws from the script -/
theorem begun (ns : List Int) (hb : ns.length ≤ 1000) : ∃ M, F__law_begun [.flst (ns.map .int)] [] = .ok (.own 1) M ∧ Dv 0 [] M := by
  have w : ∀ (p : Int → Bool) (f : Int → Int) (ft : FE Bool) (fe : FE D) (x1 : Option D) (M : Sto), (∀ i ∈ ns, ft [some (.flst (ns.map .int)), x1, some (.int i)] M = .ok (p i) M) → (∀ i ∈ ns, p i = true → fe [some (.flst (ns.map .int)), x1, some (.int i)] M = .ok (.int (f i)) M) →
      lcD (.one 2) ft fe [2] [some (.flst (ns.map .int)), x1, none] (ns.map D.int) M = .ok (((ns.filter p).map f).map D.int) M := fun p f ft fe x1 M hp hf => by
    have z := lcD_map (ρ := [some (.flst (ns.map .int)), x1, none]) (M := M) (T := .one 2) (ft := ft) (fe := fe) (ws := [2]) (p := fun d => match d with | .int i => p i | _ => false) (f := fun d => match d with | .int i => .int (f i) | d => d) (ds := ns.map D.int) fun d hd => by
      obtain ⟨i, hi, rfl⟩ := List.mem_map.mp hd
      exact ⟨_, rfl, hp i hi, fun h => hf i hi h⟩
    rw [z]
    congr 1
    rw [List.filter_map, List.map_map, List.map_map]
    rfl
  have hle : ∀ (p : Int → Bool) (f : Int → Int), (((ns.filter p).map f).map D.int).length ≤ sizeLine := fun p f => by
    rw [List.length_map, List.length_map]
    exact szl (Nat.le_trans (List.length_filter_le _ _) hb)
  have pw : ∀ M : Sto, gPow M (.int 10) (.int 18) = some (.int (10 ^ 18)) := fun M => gPow_int ⟨by decide, by decide, by decide⟩
  have ab : ∀ (M : Sto) (i : Int), gAbs M [.int i] = some (.int (if i < 0 then -i else i)) := fun M i => rfl
  let g := (ns.filter fun i => decide ((10 : Int) ^ 18 ≤ if i < 0 then -i else i)).map fun i => (if i < 0 then -i else i) - 10 ^ 18
  let c := (ns.filter fun _ => true).map fun i => (if i < 0 then -i else i) % 2147483629
  have e1 := w (fun i => decide ((10 : Int) ^ 18 ≤ if i < 0 then -i else i)) (fun i => (if i < 0 then -i else i) - 10 ^ 18) (dTst (dBin gGe (dCallB gAbs (dCons (dVar 2) (dNil))) (dBin gPow (dC (.int 10)) (dC (.int 18))))) (dBin gSub (dCallB gAbs (dCons (dVar 2) (dNil))) (dBin gPow (dC (.int 10)) (dC (.int 18)))) none []
    (fun i _ => by simp only [dTst_eq, dBin_eq, dCallB_eq, dCons_eq, dNil_eq, dVar_s, dVar_0, dC_eq, bind_ok, ab, pw, ofO_some', gGe_int, asB_bl]) (fun i _ _ => by simp only [dBin_eq, dCallB_eq, dCons_eq, dNil_eq, dVar_s, dVar_0, dC_eq, bind_ok, ab, pw, ofO_some', gSub_int])
  have e2 := w (fun _ => true) (fun i => (if i < 0 then -i else i) % 2147483629) dYes (dBin gMod (dCallB gInt1 (dCons (dCallB gAbs (dCons (dVar 2) (dNil))) (dNil))) (dC (.int 2147483629))) (some (.own 0)) [.lst (g.map .int)]
    (fun i _ => rfl) (fun i _ _ => by simp only [dBin_eq, dCallB_eq, dCons_eq, dNil_eq, dVar_s, dVar_0, dC_eq, bind_ok, ab, ofO_some', gInt_int, gMod_int (M := [.lst (g.map .int)]) (j := 2147483629) (by decide)])
  refine ⟨Dr g c 0 0 [], ?_, ⟨g, c, 0, 0, rfl, fun x hx => ?_, fun x hx => ?_, Int.le_refl _, Int.le_refl _, Int.le_refl _⟩⟩
  · rw [F__law_begun, fnD_eq]
    show outR (b__law_begun [some (.flst (ns.map .int)), none, none] []) = _
    rw [b__law_begun, sSq_eq, sSet_eq, fLc_eq]
    simp only [iAny_eq, dVar_0, bind_ok, kAny_flst, lcI_fix, e1]
    have k1 : kLc true (.ok (g.map D.int) []) = .ok (.own 0) [.lst (g.map .int)] := if_pos (hle _ _)
    have k2 : kLc false (.ok (c.map D.int) [.lst (g.map .int)]) = .ok (.lst (c.map .int)) [.lst (g.map .int)] := if_pos (hle _ _)
    have e1' : kLc true (.ok (((ns.filter fun i => decide ((10 : Int) ^ 18 ≤ if i < 0 then -i else i)).map fun i => (if i < 0 then -i else i) - 10 ^ 18).map D.int) []) = .ok (.own 0) [.lst (g.map .int)] := k1
    rw [e1']
    simp only [thn_ok, List.set_cons_succ, List.set_cons_zero, seq_nx, sRt_eq]
    have cl : fLc false (iAny (dVar 0)) (.one 2) dYes (dBin gMod (dCallB gInt1 (dCons (dCallB gAbs (dCons (dVar 2) (dNil))) (dNil))) (dC (.int 2147483629))) [2] [some (.flst (ns.map .int)), some (.own 0), none] [.lst (g.map .int)] = .ok (.lst (c.map .int)) [.lst (g.map .int)] := by
      rw [fLc_eq]
      simp only [iAny_eq, dVar_0, bind_ok, kAny_flst, lcI_fix, e2]
      exact k2
    show outR ((((dPairs _ _ _).bind (kDisp true)) : Res D).thn _ _) = _
    simp only [dPairs, dC_eq, bind_ok, dVar_s, dVar_0, cl]
    rfl
  · obtain ⟨i, hi, rfl⟩ := List.mem_map.mp hx
    have z := of_decide_eq_true (List.mem_filter.mp hi).2
    omega
  · obtain ⟨i, hi, rfl⟩ := List.mem_map.mp hx
    exact ⟨Int.emod_nonneg _ (by decide), Int.emod_lt_of_pos _ (by decide)⟩
abbrev pr (p q : Int) : D := .tup [.int p, .int q]
def Base : D → Prop
  | .non => True
  | .bl _ => True
  | .int _ => True
  | .str _ => True
  | .tup _ => True
  | .lst _ => True
  | .dic _ _ => True
  | _ => False
def isNum : D → Bool
  | .int _ => true
  | _ => false
theorem num_ok (d : D) (M : Sto) (h : Base d) : F_is_number [d] M = .ok (.bl (isNum d)) M := by
  rw [F_is_number, fnD_eq]
  show outR (b_is_number [some d] M) = _
  rw [b_is_number]
  cases d <;> first | exact h.elim | (simp [isNum]; try rfl)
def g2 (p q : Int) : Int := ((Nat.gcd p.natAbs q.natAbs : Nat) : Int)
def isPrice : D → Bool
  | .tup [.int p, .int q] => decide (0 ≤ p) && (decide (0 ≤ q) && decide (g2 p q = 1))
  | _ => false
/-- not both 0, of less than 100 bits -/
structure Nz (p q : Int) : Prop where
  p0 : 0 ≤ p
  q0 : 0 ≤ q
  ps : p < 2 ^ 100
  qs : q < 2 ^ 100
  nz : ¬ (p = 0 ∧ q = 0)
theorem Nz.pos {p q : Int} (h : Nz p q) : 0 < g2 p q := by
  unfold g2
  have : 0 < Nat.gcd p.natAbs q.natAbs := by
    apply Nat.pos_of_ne_zero
    intro z
    obtain ⟨a, b⟩ := Nat.gcd_eq_zero_iff.mp z
    exact h.nz ⟨Int.natAbs_eq_zero.mp a, Int.natAbs_eq_zero.mp b⟩
  omega
theorem Nz.small {p q : Int} (h : Nz p q) : (g2 p q).natAbs.log2 < 9000 := by
  have hg : (g2 p q).natAbs < 2 ^ 100 := by
    unfold g2
    rw [Int.natAbs_natCast]
    by_cases hp : p = 0
    · subst hp
      rw [Int.natAbs_zero, Nat.gcd_zero_left]
      have := h.qs; have := h.q0
      have z : ((2 : Int) ^ 100) = ((2 ^ 100 : Nat) : Int) := by norm_cast
      omega
    · have z : Nat.gcd p.natAbs q.natAbs ≤ p.natAbs := Nat.gcd_le_left _ (Int.natAbs_pos.mpr hp)
      have := h.ps; have := h.p0
      have z : ((2 : Int) ^ 100) = ((2 ^ 100 : Nat) : Int) := by norm_cast
      omega
  exact Nat.lt_trans (lg 100 (by decide) hg) (by decide)
theorem price_iff {p q : Int} : isPrice (pr p q) = true ↔ 0 ≤ p ∧ 0 ≤ q ∧ g2 p q = 1 := by simp [isPrice]
/-- small: less than 70 bits -/
def Sm (i : Int) : Prop := i.natAbs < 2 ^ 70
def absI (i : Int) : Int := if i < 0 then -i else i
theorem tk {n : Int} {R M : Sto} (m : Int) (h : Dv n R M) (hn : n < 1000000) (hm : 0 < m) (hs : m < 2 ^ 100) : ∃ r M', F__law_take [.own 1, .int m] M = .ok (.int r) M' ∧ 0 ≤ r ∧ r < m ∧ Dv (n + 1) R M' :=
  take h (by omega) hm (Nat.lt_trans (lg 100 (by decide) (by omega)) (by decide))
theorem pw (M : Sto) (k : Int) (h : 0 ≤ k ∧ k ≤ 100) : gPow M (.int 10) (.int k) = some (.int (10 ^ k.toNat)) := gPow_int ⟨h.1, by omega, by decide⟩
/-- a price of less than 10 ** 11 in both -/
structure Spot (p q : Int) : Prop where
  pc : isPrice (pr p q) = true
  ps : p < 100000000000
  qs : q < 100000000000
theorem Spot.nn {p q : Int} (h : Spot p q) : 0 ≤ p ∧ 0 ≤ q := ⟨(price_iff.mp h.pc).1, (price_iff.mp h.pc).2.1⟩
theorem Spot.sm {p q : Int} (h : Spot p q) : Sm p ∧ Sm q := by
  have := h.nn; have := h.ps; have := h.qs
  exact ⟨by unfold Sm; omega, by unfold Sm; omega⟩
def Ss (i : Int) : Prop := i.natAbs < 2 ^ 64
theorem Ss.sm {i : Int} (h : Ss i) : Sm i := Nat.lt_trans h (by decide +kernel)
/-- a pair of small numbers -/
structure SmP (p : HU.P) : Prop where
  a : Ss p.1
  b : Ss p.2
/-- a price of small numbers -/
structure SpP (p : HU.P) : Prop where
  a : Sm p.1
  b : Sm p.2
theorem nup {i : Int} (a : Nat) {b : Nat} (h : i.natAbs < 2 ^ a) (ha : a ≤ b) : i.natAbs < 2 ^ b := Nat.lt_of_lt_of_le h (Nat.pow_le_pow_right (by decide) ha)
theorem own_end (M : Sto) (d : MO) : (M ++ [d])[M.length]? = some d := by simp
theorem lst_end (M : Sto) (ds : List D) : lstOf (M ++ [.lst ds]) (.own M.length) = some ds := by
  simp [lstOf]
theorem app_end (M : Sto) (ds : List D) (d : D) (h : ds.length < sizeLine) : kMt gApp (.own M.length) [d] (M ++ [.lst ds]) = .ok .non (M ++ [.lst (ds ++ [d])]) := by
  simp [kMt, gApp, h]
/-- a front -/
inductive Fr
  | non
  | endless
  | at_ (s : HU.P) (v : Int)
  | over (lo hi : HU.P) (cs : List HU.P)
deriving DecidableEq
def Fr.d : Fr → D
  | .non => .non
  | .endless => .tup [.str ("endless" : Str)]
  | .at_ s v => .tup [.str ("at" : Str), HU.tD s, .int v]
  | .over lo hi cs => .tup [.str ("over" : Str), HU.tD lo, HU.tD hi, .tup (cs.map HU.tD)]
structure Pc (s : HU.P) : Prop where
  p : isPrice (HU.tD s) = true
  m : SpP s
theorem Pc.nn {s : HU.P} (h : Pc s) : HU.NN s := by
  obtain ⟨h1, h2, h3⟩ := price_iff.mp h.p
  refine ⟨h1, h2, ?_⟩
  apply Classical.byContradiction; intro hn
  have e1 : s.1 = 0 := by omega
  have e2 : s.2 = 0 := by omega
  rw [e1, e2] at h3
  cases h3
structure Ov (lo hi : HU.P) (cs : List HU.P) : Prop where
  pl : Pc lo
  ph : Pc hi
  hd : HU.ld lo hi
  ex : ∃ l, l ≠ [] ∧ l.Pairwise (HU.Le (HU.fX lo) (HU.fX hi)) ∧ cs = HU.env (HU.fX lo) (HU.fX hi) l ∧ ∀ p ∈ l, SmP p
  len : cs.length < 1000
theorem Ov.sm {lo hi : HU.P} {cs : List HU.P} (h : Ov lo hi cs) : ∀ c ∈ cs, SmP c := by
  obtain ⟨l, _, hs, rfl, hm⟩ := h.ex
  exact fun c hc => hm c (HU.env_sub _ _ hs hc)
theorem Ov.ne {lo hi : HU.P} {cs : List HU.P} (h : Ov lo hi cs) : cs ≠ [] := by
  obtain ⟨l, hn, hs, rfl, hm⟩ := h.ex
  cases l with
  | nil => exact absurd rfl hn
  | cons p l =>
    obtain ⟨c, hc, _⟩ := HU.env_dom _ _ hs (q := p) (by simp) (a := 0) (b := 0) (by omega) (by omega)
    exact List.ne_nil_of_mem hc
def FrOk : Fr → Prop
  | .at_ s v => Pc s ∧ v.natAbs < 2 ^ 150
  | .over lo hi cs => Ov lo hi cs
  | _ => True
def Fr.sm : Fr → Prop
  | .over lo hi cs => SpP lo ∧ SpP hi ∧ (∀ c ∈ cs, SmP c) ∧ cs ≠ [] ∧ cs.length < 1000
  | .at_ s _ => SpP s
  | _ => True
theorem FrOk.sm {f : Fr} (h : FrOk f) : f.sm := by
  cases f with
  | over lo hi cs => exact ⟨h.pl.m, h.ph.m, Ov.sm h, Ov.ne h, Ov.len h⟩
  | at_ s v => exact h.1.m
  | _ => trivial
theorem Dv.app {n : Int} {R M : Sto} (J : Sto) (h : Dv n R M) : Dv n (R ++ J) (M ++ J) := by
  obtain ⟨g, c, l, t, e, h1⟩ := h.ex
  exact ⟨g, c, l, t, by rw [e]; rfl, h1⟩
theorem Dv.len {n : Int} {R M : Sto} (h : Dv n R M) : M.length = R.length + 2 := by
  obtain ⟨g, c, l, t, e, h1⟩ := h.ex
  rw [e]; rfl
theorem Dv.last {n : Int} {R M : Sto} {x : MO} (h : Dv n (R ++ [x]) M) : ∃ N, M = N ++ [x] ∧ N.length = R.length + 2 ∧ ∀ y, Dv n (R ++ [y]) (N ++ [y]) := by
  obtain ⟨g, c, l, t, e, h1⟩ := h.ex
  exact ⟨Dr g c l t R, by rw [e]; rfl, rfl, fun y => ⟨g, c, l, t, rfl, h1⟩⟩
/-- the draws, whatever else is in store -/
def DV (n : Int) (M : Sto) : Prop := ∃ R, Dv n R M
theorem DV.app {n : Int} {M : Sto} (J : Sto) (h : DV n M) : DV n (M ++ J) := by
  obtain ⟨R, h⟩ := h
  exact ⟨_, h.app J⟩
theorem DV.mono {n m : Int} {M : Sto} (h : DV n M) (k : n ≤ m) : DV m M := by
  obtain ⟨R, h⟩ := h
  exact ⟨R, h.mono k⟩
/-- numbers to a peak -/
structure Pk (k : Int) (p : HU.P) : Prop where
  a : -k ≤ p.1 ∧ p.1 ≤ k
  b : -k ≤ p.2 ∧ p.2 ≤ k
theorem Pk.sm {k : Int} {p : HU.P} (h : Pk k p) (hk : k < 100000000000) : SmP p := by
  have := h.a; have := h.b
  exact ⟨by unfold Ss; omega, by unfold Ss; omega⟩
def Fr.num : Fr → Prop
  | .at_ _ _ => True
  | .over _ _ _ => True
  | _ => False
/-- the greater of two fronts, their sum -/
def mxI (a b : Int) : Int := if a < b then b else a
def Fr.cs : Fr → List HU.P
  | .over _ _ cs => cs
  | _ => []
def sums (a b : List HU.P) : List HU.P := a.flatMap fun x => b.map fun y => (x.1 + y.1, x.2 + y.2)
/-- small corners -/
def FrB (f : Fr) : Prop := ∀ c ∈ f.cs, c.1.natAbs < 2 ^ 60 ∧ c.2.natAbs < 2 ^ 60
/-- few corners -/
def FrN (f : Fr) : Prop := f.cs.length ≤ 30
theorem FrB.sm {f : Fr} (h : FrB f) : ∀ c ∈ f.cs, SmP c := fun c hc => by
  obtain ⟨h1, h2⟩ := h c hc
  exact ⟨by show c.1.natAbs < 2 ^ 64; omega, by show c.2.natAbs < 2 ^ 64; omega⟩
def Ns (i : Int) : Prop := i.natAbs.log2 < 1920
theorem ns_of {i : Int} (a : Nat) (h : i.natAbs < 2 ^ a) (ha : 0 < a) (hb : a ≤ 1920) : Ns i := Nat.lt_of_lt_of_le (log2_lt h ha) hb
/-- a front whose text can be told -/
def FrR : Fr → Prop
  | .at_ s v => Ns s.1 ∧ Ns s.2 ∧ Ns v
  | .over lo hi cs => Ns lo.1 ∧ Ns lo.2 ∧ Ns hi.1 ∧ Ns hi.2 ∧ (∀ c ∈ cs, Ns c.1 ∧ Ns c.2) ∧ cs.length ≤ 1000
  | _ => True
inductive Ev
  | neg
  | num (i : Int)
  | pos
def Ev.max : Ev → Ev → Ev
  | .neg, y => y
  | x, .neg => x
  | .num a, .num b => .num (mxI a b)
  | _, _ => .pos
def Ev.add : Ev → Ev → Ev
  | .neg, _ => .neg
  | _, .neg => .neg
  | .num a, .num b => .num (a + b)
  | _, _ => .pos
def Ev.mul (k : Int) : Ev → Ev
  | x => if k = 0 then .num 0 else match x with
    | .neg => .neg
    | .num a => .num (a * k)
    | .pos => .pos
structure FrK (b n : Nat) (f : Fr) : Prop where
  ok : FrOk f
  cb : ∀ c ∈ f.cs, c.1.natAbs < 2 ^ b ∧ c.2.natAbs < 2 ^ b
  n : f.cs.length ≤ n
  v : ∀ s v, f = .at_ s v → v.natAbs < 2 ^ (b + 75)
theorem FrK.mono {b b' n n' : Nat} {f : Fr} (h : FrK b n f) (hb : b ≤ b') (hn : n ≤ n') : FrK b' n' f :=
  ⟨h.ok, fun c hc => ⟨nup b (h.cb c hc).1 hb, nup b (h.cb c hc).2 hb⟩, Nat.le_trans h.n hn, fun s v e => nup (b + 75) (h.v s v e) (by omega)⟩
theorem Ev.add_assoc (x y z : Ev) : x.add (y.add z) = (x.add y).add z := by cases x <;> cases y <;> cases z <;> simp [Ev.add, Int.add_assoc]
theorem Ev.mul_add {m k : Int} (hm : 0 ≤ m) (hk : 0 ≤ k) (x : Ev) : Ev.mul (m + k) x = (Ev.mul m x).add (Ev.mul k x) := by
  unfold Ev.mul
  by_cases h1 : m = 0
  · by_cases h2 : k = 0
    · subst h1; subst h2; rfl
    · have h3 : ¬ (m + k = 0) := by omega
      rw [if_pos h1, if_neg h2, if_neg h3]
      subst h1
      cases x <;> simp [Ev.add]
  · by_cases h2 : k = 0
    · have h3 : ¬ (m + k = 0) := by omega
      rw [if_neg h1, if_pos h2, if_neg h3]
      subst h2
      cases x <;> simp [Ev.add]
    · have h3 : ¬ (m + k = 0) := by omega
      rw [if_neg h1, if_neg h2, if_neg h3]
      cases x <;> simp [Ev.add, Int.mul_add]
section
variable {b n m k : Nat} {f g h : Fr}
end
def Fr.lt : Fr → List Nat
  | .non => [111, 110, 101]
  | .endless => [101, 110, 100, 108, 101, 115, 115]
  | .at_ _ _ => [97, 116]
  | .over _ _ _ => [111, 118, 101, 114]
theorem FrK.b' {b n : Nat} {f : Fr} (h : FrK b n f) (hb : b ≤ 60) : FrB f := fun c hc => ⟨nup b (h.cb c hc).1 hb, nup b (h.cb c hc).2 hb⟩
theorem FrK.n' {b n : Nat} {f : Fr} (h : FrK b n f) (hn : n ≤ 30) : FrN f := Nat.le_trans h.n hn
theorem FrK.r {b n : Nat} {f : Fr} (h : FrK b n f) (hn : n ≤ 1000) : FrR f := by
  cases f with
  | at_ s v => exact ⟨ns_of 70 h.ok.1.m.a (by decide) (by decide), ns_of 70 h.ok.1.m.b (by decide) (by decide), ns_of 150 h.ok.2 (by decide) (by decide)⟩
  | over lo hi cs =>
    have ho : Ov lo hi cs := h.ok
    have hc : cs.length ≤ n := h.n
    exact ⟨ns_of 70 ho.pl.m.a (by decide) (by decide), ns_of 70 ho.pl.m.b (by decide) (by decide), ns_of 70 ho.ph.m.a (by decide) (by decide), ns_of 70 ho.ph.m.b (by decide) (by decide), fun c hc => ⟨ns_of 64 (ho.sm c hc).a (by decide) (by decide), ns_of 64 (ho.sm c hc).b (by decide) (by decide)⟩, by omega⟩
  | _ => trivial
/-- an expression that makes a front -/
structure XF (ρ : DL.Env) (e : FE D) (b n : Nat) (f : Fr) : Prop where
  k : FrK b n f
  e : ∀ M, ∃ J, e ρ M = .ok f.d (M ++ J)
def XB (ρ : DL.Env) (t : FE Bool) (v : Bool) : Prop := ∀ M, ∃ J, t ρ M = .ok v (M ++ J)
def XS (ρ : DL.Env) (s : FS) : Prop := ∀ M, ∃ J, s ρ M = .nx ρ (M ++ J)
theorem XF.mono {ρ : DL.Env} {e : FE D} {b n b' n' : Nat} {f : Fr} (h : XF ρ e b n f) (hb : b ≤ b') (hn : n ≤ n') : XF ρ e b' n' f := ⟨h.k.mono hb hn, h.e⟩
theorem XB.not {ρ : DL.Env} {t : FE Bool} {v : Bool} (h : XB ρ t v) : XB ρ (dNot t) (!v) := fun M => by
  obtain ⟨J, e⟩ := h M
  exact ⟨J, by rw [dNot_eq, e]; rfl⟩
theorem XS.run {ρ : DL.Env} {s t : FS} {P : Out → Prop} (h : XS ρ s) (M : Sto) (k : ∀ J, P (t ρ (M ++ J))) : P (sSq s t ρ M) := by
  obtain ⟨J, e⟩ := h M
  rw [sSq_eq, e]
  exact k J
def Pl (R : Sto) (x : D) (ps : List HU.P) : Prop := ∀ n J M, Dv n (R ++ J) M → lst0 M x = some (ps.map HU.tD)
theorem Pl.lst (R : Sto) (ps : List HU.P) : Pl R (.lst (ps.map HU.tD)) ps := fun _ _ _ _ => rfl
theorem Pl.own (R : Sto) (ps : List HU.P) : Pl (R ++ [.lst (ps.map HU.tD)]) (.own (R.length + 2)) ps := fun n J M h => by
  obtain ⟨g, c, l, t, e, _⟩ := h.ex
  rw [e]
  show (match (Dr g c l t (R ++ [.lst (ps.map HU.tD)] ++ J))[R.length + 2]? with | some (MO.lst ds) => some ds | _ => none) = _
  have : (Dr g c l t (R ++ [.lst (ps.map HU.tD)] ++ J))[R.length + 2]? = some (.lst (ps.map HU.tD)) := by
    unfold Dr
    simp
  rw [this]
theorem Pl.app {R : Sto} {x : D} {ps : List HU.P} (h : Pl R x ps) (J : Sto) : Pl (R ++ J) x ps := fun n K M v => h n (J ++ K) M (by rw [← List.append_assoc]; exact v)
theorem Pl.at {R M : Sto} {x : D} {ps : List HU.P} {n : Int} (h : Pl R x ps) (v : Dv n R M) (J : Sto) : lst0 (M ++ J) x = some (ps.map HU.tD) := h n J _ (v.app J)
def mo (c m : HU.P) : Option HU.P := if (c.1 - m.1 = 0 ∧ m.2 - c.2 = 0) ∨ (c.1 - m.1) * (m.2 - c.2) < 0 then none else some (HU.tm (absI (m.2 - c.2)) (absI (c.1 - m.1)))
theorem side_lt {x y : Int} (hx : 0 ≤ x) (hy : 0 ≤ y) (h : 0 < x + y) (s : HU.P) : HU.ld s (HU.tm y x) ↔ s.2 * y < s.1 * x := by
  obtain ⟨g0, e1, e2, _⟩ := HU.tm_spec hy hx (by omega)
  generalize HU.gc y x = g at g0 e1 e2
  generalize HU.tm y x = t at e1 e2 ⊢
  unfold HU.ld
  constructor
  · intro z
    have := Int.mul_lt_mul_of_pos_left z g0
    rw [e1, e2]
    calc s.2 * (g * t.1) = g * (t.1 * s.2) := by grind
      _ < g * (s.1 * t.2) := this
      _ = s.1 * (g * t.2) := by grind
  · intro z
    rw [e1, e2] at z
    have : g * (t.1 * s.2) < g * (s.1 * t.2) := by
      calc g * (t.1 * s.2) = s.2 * (g * t.1) := by grind
        _ < s.1 * (g * t.2) := z
        _ = g * (s.1 * t.2) := by grind
    exact Int.lt_of_mul_lt_mul_left this (by omega)
theorem side_gt {x y : Int} (hx : 0 ≤ x) (hy : 0 ≤ y) (h : 0 < x + y) (s : HU.P) : HU.ld (HU.tm y x) s ↔ s.1 * x < s.2 * y := by
  obtain ⟨g0, e1, e2, _⟩ := HU.tm_spec hy hx (by omega)
  generalize HU.gc y x = g at g0 e1 e2
  generalize HU.tm y x = t at e1 e2 ⊢
  unfold HU.ld
  constructor
  · intro z
    have := Int.mul_lt_mul_of_pos_left z g0
    rw [e1, e2]
    calc s.1 * (g * t.2) = g * (s.1 * t.2) := by grind
      _ < g * (t.1 * s.2) := this
      _ = s.2 * (g * t.1) := by grind
  · intro z
    rw [e1, e2] at z
    have : g * (s.1 * t.2) < g * (t.1 * s.2) := by
      calc g * (s.1 * t.2) = s.1 * (g * t.2) := by grind
        _ < s.2 * (g * t.1) := z
        _ = g * (t.1 * s.2) := by grind
    exact Int.lt_of_mul_lt_mul_left this (by omega)
abbrev mtp (c m : HU.P) : HU.P := HU.tm (m.2 - c.2) (c.1 - m.1)
structure Mt (c m : HU.P) : Prop where
  y : 0 ≤ m.2 - c.2
  x : 0 ≤ c.1 - m.1
  s : 0 < c.1 - m.1 + (m.2 - c.2)
theorem Mt.nn {c m : HU.P} (h : Mt c m) : HU.NN (mtp c m) := (HU.tm_spec h.y h.x (by have := h.s; omega)).2.2.2
theorem Mt.lt {c m : HU.P} (h : Mt c m) (s : HU.P) : HU.ld s (mtp c m) ↔ HU.wt m s < HU.wt c s := by
  rw [side_lt h.x h.y h.s]
  unfold HU.wt
  rw [Int.mul_sub, Int.mul_sub]
  omega
theorem Mt.gt {c m : HU.P} (h : Mt c m) (s : HU.P) : HU.ld (mtp c m) s ↔ HU.wt c s < HU.wt m s := by
  rw [side_gt h.x h.y h.s]
  unfold HU.wt
  rw [Int.mul_sub, Int.mul_sub]
  omega
structure FrC (f : Fr) : Prop where
  ok : FrOk f
  n : f.cs.length ≤ 5
def Pd (R : Sto) (x : D) (ds : List D) : Prop := ∀ n J M, Dv n (R ++ J) M → lst0 M x = some ds
theorem Pd.lst (R : Sto) (ds : List D) : Pd R (.lst ds) ds := fun _ _ _ _ => rfl
theorem Pd.own (R : Sto) (ds : List D) : Pd (R ++ [.lst ds]) (.own (R.length + 2)) ds := fun n J M h => by
  obtain ⟨g, c, l, t, e, _⟩ := h.ex
  rw [e]
  show (match (Dr g c l t (R ++ [.lst ds] ++ J))[R.length + 2]? with | some (MO.lst ds) => some ds | _ => none) = _
  have : (Dr g c l t (R ++ [.lst ds] ++ J))[R.length + 2]? = some (.lst ds) := by
    unfold Dr
    simp
  rw [this]
theorem Pd.app {R : Sto} {x : D} {ds : List D} (h : Pd R x ds) (J : Sto) : Pd (R ++ J) x ds := fun n K M v => h n (J ++ K) M (by rw [← List.append_assoc]; exact v)
theorem Pd.at {R M : Sto} {x : D} {ds : List D} {n : Int} (h : Pd R x ds) (v : Dv n R M) (J : Sto) : lst0 (M ++ J) x = some ds := h n J _ (v.app J)
theorem FrK.c {b n : Nat} {f : Fr} (h : FrK b n f) (hn : n ≤ 5) : FrC f := ⟨h.ok, Nat.le_trans h.n hn⟩
theorem gAll_true {ds : List D} {M : Sto} (h : ∀ d ∈ ds, d = .bl true) : gAll M [.lst ds] = some (.bl true) := by
  have k : bls ds = some (ds.map fun _ => true) := by
    induction ds with
    | nil => rfl
    | cons d ds ih =>
      have h1 := h d List.mem_cons_self
      subst h1
      rw [bls, ih fun e he => h e (List.mem_cons_of_mem _ he)]
      rfl
  show (bls ds).map (fun bs => D.bl (bs.all _root_.id)) = _
  rw [k]
  simp
theorem lc_true {ds : List D} {M : Sto} {ρ : DL.Env} {T : TgC} {fe : FE D} {ws : List Nat} (h : ∀ d ∈ ds, ∃ ρ2, T.d d (wipeE ρ ws) = some ρ2 ∧ fe ρ2 M = .ok (.bl true) M) : ∃ es, lcD T dYes fe ws ρ ds M = .ok es M ∧ es.length ≤ ds.length ∧ ∀ e ∈ es, e = .bl true := by
  refine ⟨_, lcD_map (p := fun _ => true) (f := fun _ => .bl true) fun d hd => ?_, ?_, ?_⟩
  · obtain ⟨ρ2, h1, h2⟩ := h d hd
    exact ⟨ρ2, h1, rfl, fun _ => h2⟩
  · rw [List.length_map]; exact List.length_filter_le _ _
  · intro e he
    obtain ⟨_, _, rfl⟩ := List.mem_map.1 he
    rfl
theorem letter_ok {s : Str} (h : Lt s) (M : Sto) : F_is_letter [.str s] M = .ok (.bl true) M := by
  have h1 : (1 : Int) ≤ s.length := by have := h.1; omega
  have h2 : (s.length : Int) ≤ 12 := by have := h.2.1; omega
  obtain ⟨es, e1, e2, e3⟩ := lc_true (ds := chrs s) (M := M) (ρ := [some (.str s), none]) (T := .one 1) (fe := dBin gIn (dVar 1) (dC (.str sgs))) (ws := [1]) fun d hd => by
    obtain ⟨c, hc, rfl⟩ := List.mem_map.1 hd
    refine ⟨[some (.str s), some (.str ⟨#[c]⟩)], rfl, ?_⟩
    simp [in_sgs (h.2.2 c hc)]
  have el : es.length ≤ sizeLine := by
    have : (chrs s).length = s.length := by unfold chrs; rw [List.length_map]; rfl
    have := h.2.1
    exact szl (by omega)
  rw [F_is_letter, fnD_eq]
  show outR (b_is_letter [some (.str s), none] M) = _
  rw [b_is_letter]
  simp [lt_len h, h1, h2, e1, el, gAll_true e3]
/-- letters as a memory has them -/
structure Ls (ls : List Str) : Prop where
  lt : ∀ s ∈ ls, Lt s
  nd : ls.Nodup
  so : sortT ls = ls
  n0 : 1 ≤ ls.length
  n1 : ls.length ≤ 72
abbrev tS (ls : List Str) : D := .tup (ls.map .str)
theorem Ls.ok {ls : List Str} (h : Ls ls) : ∀ s ∈ ls, PyData.strOk s = true := fun s hs => (h.lt s hs).ok
theorem are_letters_ok {ls : List Str} (h : Ls ls) (M : Sto) : F_are_letters [tS ls] M = .ok (.bl true) M := by
  have h1 : (1 : Int) ≤ ls.length := by have := h.n0; omega
  have h2 : (ls.length : Int) ≤ 72 := by have := h.n1; omega
  obtain ⟨es, e1, e2, e3⟩ := lc_true (ds := ls.map D.str) (M := M) (ρ := [some (tS ls), none]) (T := .one 1) (fe := dCallF F_is_letter (dCons (dVar 1) dNil)) (ws := [1]) fun d hd => by
    obtain ⟨s, hs, rfl⟩ := List.mem_map.1 hd
    refine ⟨[some (tS ls), some (.str s)], rfl, ?_⟩
    simp [letter_ok (h.lt s hs)]
  rw [List.length_map] at e2
  have el : es.length ≤ sizeLine := szl (by have := h.n1; omega)
  have hl : gLen M [tS ls] = some (.int ls.length) := by
    show some (D.int (ls.map D.str).length) = _
    rw [List.length_map]
  have hk : gList M [tS ls] = some (.lst (ls.map .str)) := rfl
  have hs : kSortSet (tS ls) M = .ok (.lst (ls.map .str)) M := by
    rw [kSortSet_txt (by have := h.n1; omega), uniq_nodup h.nd, h.so]
  have he := gEq_lsts (M := M) (neg := false) h.ok h.ok
  simp only [decide_true, Bool.false_eq_true, if_false] at he
  rw [F_are_letters, fnD_eq]
  show outR (b_are_letters [some (tS ls), none] M) = _
  rw [b_are_letters]
  simp [hl, h1, h2, e1, el, gAll_true e3, hk, hs, he]
/-- a move: the state after, the two pays -/
abbrev Mv := Int × Int × Int
abbrev mvD (m : Mv) : D := .tup [.int m.1, .int m.2.1, .int m.2.2]
def MvOk (n : Nat) (m : Mv) : Prop := 0 ≤ m.1 ∧ m.1 < n ∧ -999 ≤ m.2.1 ∧ m.2.1 ≤ 999 ∧ -999 ≤ m.2.2 ∧ m.2.2 ≤ 999
theorem is_count_int (i a b : Int) (M : Sto) : F_is_count [.int i, .int a, .int b] M = .ok (.bl (decide (a ≤ i) && decide (i ≤ b))) M := by
  rw [F_is_count, fnD_eq]
  show outR (b_is_count [some (.int i), some (.int a), some (.int b)] M) = _
  rw [b_is_count]
  by_cases q : a ≤ i <;> simp [num_ok (.int i) M trivial, isNum, q]
theorem is_count_bad {d : D} {x y : D} (M : Sto) (h : Base d) (hn : isNum d = false) : F_is_count [d, x, y] M = .ok (.bl false) M := by
  rw [F_is_count, fnD_eq]
  show outR (b_is_count [some d, some x, some y] M) = _
  rw [b_is_count]
  simp [num_ok d M h, hn]
theorem move_ok {n : Nat} {m : Mv} (h : MvOk n m) (M : Sto) : F_is_move [mvD m, .int n] M = .ok (.bl true) M := by
  obtain ⟨a, x, y⟩ := m
  obtain ⟨h1, h2, h3, h4, h5, h6⟩ := h
  have i0 : gIx M (mvD (a, x, y)) (.int 0) = some (.int a) := rfl
  have i1 : gIx M (mvD (a, x, y)) (.int 1) = some (.int x) := rfl
  have i2 : gIx M (mvD (a, x, y)) (.int 2) = some (.int y) := rfl
  have h2' : a ≤ (n : Int) - 1 := by simp at h2; omega
  rw [F_is_move, fnD_eq]
  show outR (b_is_move [some (mvD (a, x, y)), some (.int n)] M) = _
  rw [b_is_move]
  simp at h1 h3 h4 h5 h6
  simp [i0, i1, i2, is_count_int, h1, h2', h3, h4, h5, h6]
abbrev rowD (r : List Mv) : D := .tup (r.map mvD)
abbrev gridD (g : List (List Mv)) : D := .tup (g.map rowD)
/-- moves that go with the letters -/
structure Gd (w : Nat) (g : List (List Mv)) : Prop where
  wd : ∀ r ∈ g, r.length = w
  mv : ∀ r ∈ g, ∀ m ∈ r, MvOk g.length m
  n0 : 1 ≤ g.length
  n1 : g.length ≤ 120
/-- a memory -/
def mem (ls : List Str) (g : List (List Mv)) : D := .obj 0 ["letters", "moves"] [tS ls, gridD g]
theorem cl_int {i : Int} (h : i.natAbs < 2 ^ 1000) : Cl (.int i) := Nat.lt_trans (log2_lt h (by decide)) (by decide)
theorem cl_tS {ls : List Str} (h : Ls ls) : Cl (tS ls) := cls_of fun d hd => by
  obtain ⟨s, hs, rfl⟩ := List.mem_map.1 hd
  exact ⟨h.ok s hs, by have := (h.lt s hs).2.1; omega⟩
theorem cl_mv {n : Nat} {m : Mv} (h : MvOk n m) (hn : n ≤ 1000) : Cl (mvD m) := by
  obtain ⟨h1, h2, h3, h4, h5, h6⟩ := h
  exact ⟨cl_int (by omega), cl_int (by omega), cl_int (by omega), trivial⟩
theorem cl_row {n : Nat} {r : List Mv} (h : ∀ m ∈ r, MvOk n m) (hn : n ≤ 1000) : Cl (rowD r) := cls_of fun d hd => by
  obtain ⟨m, hm, rfl⟩ := List.mem_map.1 hd
  exact cl_mv (h m hm) hn
theorem cl_grid {w : Nat} {g : List (List Mv)} (h : Gd w g) : Cl (gridD g) := cls_of fun d hd => by
  obtain ⟨r, hr, rfl⟩ := List.mem_map.1 hd
  exact cl_row (h.mv r hr) (by have := h.n1; omega)
theorem ns_row (r : List Mv) : nst (rowD r) ≤ 2 := by
  have : nsts (r.map mvD) ≤ 1 := nsts_le fun d hd => by
    obtain ⟨m, hm, rfl⟩ := List.mem_map.1 hd
    exact Nat.le_refl _
  show nsts (r.map mvD) + 1 ≤ 2
  omega
theorem ns_grid (g : List (List Mv)) : nst (gridD g) ≤ 3 := by
  have : nsts (g.map rowD) ≤ 2 := nsts_le fun d hd => by
    obtain ⟨m, hm, rfl⟩ := List.mem_map.1 hd
    exact ns_row m
  show nsts (g.map rowD) + 1 ≤ 3
  omega
theorem wt_row (r : List Mv) : wt (rowD r) ≤ r.length * 5800 + 4 := by
  have : wts (r.map mvD) ≤ (r.map mvD).length * (5773 + 2) := wts_le fun d hd => by
    obtain ⟨m, hm, rfl⟩ := List.mem_map.1 hd
    show 1921 + 2 + (1921 + 2 + (1921 + 2 + 0)) + 4 ≤ 5773
    omega
  rw [List.length_map] at this
  show wts (r.map mvD) + 4 ≤ _
  omega
theorem wt_grid {k : Nat} {g : List (List Mv)} (h : ∀ r ∈ g, r.length ≤ k) : wt (gridD g) ≤ g.length * (k * 5800 + 4 + 2) + 4 := by
  have : wts (g.map rowD) ≤ (g.map rowD).length * ((k * 5800 + 4) + 2) := wts_le fun d hd => by
    obtain ⟨r, hr, rfl⟩ := List.mem_map.1 hd
    have h1 := wt_row r
    have h2 := Nat.mul_le_mul_right 5800 (h r hr)
    omega
  rw [List.length_map] at this
  show wts (g.map rowD) + 4 ≤ _
  omega
theorem len_map' {α : Type} (f : α → D) (l : List α) (M : Sto) : gLen M [.tup (l.map f)] = some (.int l.length) := by
  show some (D.int (l.map f).length) = _
  rw [List.length_map]
noncomputable def initB : FS := sSq (sIf (dOr (dNot (dTst (dIsi (isTy "tuple") (dVar 4)))) (dTst (dBin gNe (dCallB gLen (dCons (dVar 4) (dNil))) (dCallB gLen (dCons (dVar 1) (dNil)))))) (sRaiseF 1 ("part" : Str) (dVar 3)) (sNx)) (sIf (dNot (dTst (dCallB gAll (dCons (fLc false (iAny (dVar 4)) (.one 5) (dYes) (dCallF F_is_move (dCons (dVar 5) (dCons (dCallB gLen (dCons (dVar 2) (dNil))) (dNil)))) [5]) (dNil))))) (sRaiseF 1 ("part" : Str) (dVar 3)) (sNx))
abbrev initG : FG := gTp 2 (gsCons (gNm 3) (gsCons (gNm 4) (gsNil)))
theorem init_row {ls : List Str} {g : List (List Mv)} (hl : Ls ls) (hg : Gd ls.length g) {r : List Mv} (hr : r ∈ g) (self : D) (i : Int) (x3 x4 : Option D) (M : Sto) (k : DL.Env → Sto → Out) :
    stp initG initB (.tup [.int i, rowD r]) [some self, some (tS ls), some (gridD g), x3, x4, none] M k = k [some self, some (tS ls), some (gridD g), some (.int i), some (rowD r), none] M := by
  obtain ⟨es, e1, e2, e3⟩ := lc_true (ds := r.map mvD) (M := M) (ρ := [some self, some (tS ls), some (gridD g), some (.int i), some (rowD r), none]) (T := .one 5) (fe := dCallF F_is_move (dCons (dVar 5) (dCons (dCallB gLen (dCons (dVar 2) dNil)) dNil))) (ws := [5]) fun d hd => by
    obtain ⟨m, hm, rfl⟩ := List.mem_map.1 hd
    refine ⟨[some self, some (tS ls), some (gridD g), some (.int i), some (rowD r), some (mvD m)], rfl, ?_⟩
    simp [len_map', move_ok (hg.mv r hr m hm)]
  rw [List.length_map] at e2
  have hw := hg.wd r hr
  have el : es.length ≤ sizeLine := szl (by have := hl.n1; omega)
  show (initB [some self, some (tS ls), some (gridD g), some (.int i), some (rowD r), none] M).aft k = _
  rw [initB]
  simp [len_map', hw, e1, el, gAll_true e3]
theorem init_loop {ls : List Str} {g : List (List Mv)} (hl : Ls ls) (hg : Gd ls.length g) (self : D) (M : Sto) : ∃ x3 x4, forD initG initB (enumT (g.map rowD)) [some self, some (tS ls), some (gridD g), none, none, none] M = .nx [some self, some (tS ls), some (gridD g), x3, x4, none] M := by
  have key : ∀ (ds : List (List Mv)) (n : Nat) (x3 x4 : Option D), (∀ r ∈ ds, r ∈ g) → ∃ y3 y4, forD initG initB ((ds.zipIdx n).map fun p => .tup [.int (p.2 : Nat), rowD p.1]) [some self, some (tS ls), some (gridD g), x3, x4, none] M = .nx [some self, some (tS ls), some (gridD g), y3, y4, none] M := by
    intro ds
    induction ds with
    | nil => exact fun n x3 x4 _ => ⟨x3, x4, rfl⟩
    | cons r ds ih =>
      intro n x3 x4 h
      obtain ⟨y3, y4, e⟩ := ih (n + 1) (some (.int (n : Nat))) (some (rowD r)) fun q hq => h q (List.mem_cons_of_mem _ hq)
      refine ⟨y3, y4, ?_⟩
      rw [List.zipIdx_cons, List.map_cons, forD_cons, init_row hl hg (h r List.mem_cons_self)]
      exact e
  have e : enumT (g.map rowD) = (g.zipIdx 0).map fun p => .tup [.int (p.2 : Nat), rowD p.1] := by
    unfold enumT
    rw [List.zipIdx_map, List.map_map]
    rfl
  rw [e]
  exact key g 0 none none fun r h => h
theorem let_mov : ("letters" : Str) ≠ "moves" := by decide +kernel
theorem init_ok {ls : List Str} {g : List (List Mv)} (hl : Ls ls) (hg : Gd ls.length g) (M : Sto) : F_Memory___init__ [.own M.length, tS ls, gridD g] (M ++ [.ins 0 [] []]) = .ok .non (M ++ [.ins 0 ["letters", "moves"] [tS ls, gridD g]]) := by
  obtain ⟨x3, x4, e⟩ := init_loop hl hg (.own M.length) (M ++ [.ins 0 [] []])
  have h1 : (1 : Int) ≤ g.length := by have := hg.n0; omega
  have h2 : (g.length : Int) ≤ 120 := by have := hg.n1; omega
  have k1 : ∀ ρ, kFldS [0] ("letters" : Str) (tS ls) (.own M.length) ρ (M ++ [.ins 0 [] []]) = .nx ρ (M ++ [.ins 0 ["letters"] [tS ls]]) := fun ρ => kFldS_last (List.mem_singleton.2 (Eq.refl _)) (Nat.lt_trans Nat.zero_lt_one (by decide))
  have p1 : putN ("moves" : Str) ["letters"] = [("letters" : Str), "moves"] := by
    unfold putN
    rw [if_neg let_mov]
    unfold putN
    exact Eq.refl _
  have p2 : putD ("moves" : Str) (gridD g) ["letters"] [tS ls] = [tS ls, gridD g] := by
    unfold putD
    rw [if_neg let_mov]
    unfold putD
    exact Eq.refl _
  have k2 : ∀ ρ, kFldS [0] ("moves" : Str) (gridD g) (.own M.length) ρ (M ++ [.ins 0 ["letters"] [tS ls]]) = .nx ρ (M ++ [.ins 0 ["letters", "moves"] [tS ls, gridD g]]) := fun ρ => by
    have := kFldS_last (M := M) (ρ := ρ) (c := 0) (cs := [0]) (f := ("moves" : Str)) (y := gridD g) (fs := ["letters"]) (vs := [tS ls]) (List.mem_singleton.2 (Eq.refl _)) (show (1 : Nat) < 1000 by decide)
    rw [p1, p2] at this
    exact this
  unfold initB at e
  generalize (M ++ [MO.ins 0 [] []]) = N at e k1 ⊢
  rw [F_Memory___init__, fnD_eq]
  show outR (b_Memory___init__ [some (.own M.length), some (tS ls), some (gridD g), none, none, none] N) = _
  rw [b_Memory___init__]
  simp [are_letters_ok hl, len_map', h1, h2, e, k1, k2]
theorem low_mem {ls : List Str} {g : List (List Mv)} (hl : Ls ls) (hg : Gd ls.length g) (n : Nat) : lows n [tS ls, gridD g] = true := cls_low ⟨cl_tS hl, cl_grid hg, trivial⟩
theorem made {ls : List Str} {g : List (List Mv)} (hl : Ls ls) (hg : Gd ls.length g) {ρ : DL.Env} {fs : FE (List D)} {M M1 : Sto} (h : fs ρ M = .ok [tS ls, gridD g] M1) : dNewF 0 F_Memory___init__ fs ρ M = .ok (mem ls g) M1 := by
  rw [dNewF_eq, h, bind_ok, init_ok hl hg, bind_ok, finN_non, finO_eq (low_mem hl hg _)]
  rfl
theorem fld_l (ls : List Str) (g : List (List Mv)) (M : Sto) : fldOf M [0] "letters" (mem ls g) = some (tS ls) := (rfl)
theorem fld_m (ls : List Str) (g : List (List Mv)) (M : Sto) : fldOf M [0] "moves" (mem ls g) = some (gridD g) := (rfl)
theorem len_mem (ls : List Str) (g : List (List Mv)) (M : Sto) : F_Memory___len__ [mem ls g] M = .ok (.int g.length) M := by
  rw [F_Memory___len__, fnD_eq]
  show outR (b_Memory___len__ [some (mem ls g)] M) = _
  rw [b_Memory___len__]
  simp [fld_m, len_map']
theorem leno_mem {ls : List Str} {g : List (List Mv)} (h : g.length ≤ 120) (M : Sto) : kLenO 0 F_Memory___len__ (mem ls g) M = .ok (.int g.length) M := kLenO_obj (len_mem ls g M) (by omega)
theorem isi_mem (ls : List Str) (g : List (List Mv)) (M : Sto) : kIsi ic_Memory (mem ls g) M = .ok (.bl true) M := (rfl)
theorem eq_mem {ls ls' : List Str} {g g' : List (List Mv)} (hl : Ls ls) (hl' : Ls ls') {w w' : Nat} (hg : Gd w g) (hg' : Gd w' g') (M : Sto) : F_Memory___eq__ [mem ls g, mem ls' g'] M = .ok (.bl (eqD (tS ls) (tS ls') && eqD (gridD g) (gridD g'))) M := by
  have n1 : ∀ ls : List Str, nst (tS ls) ≤ 60 := fun ls => by
    have : nsts (ls.map D.str) ≤ 0 := nsts_le fun d hd => by
      obtain ⟨m, hm, rfl⟩ := List.mem_map.1 hd
      exact Nat.le_refl _
    show nsts (ls.map D.str) + 1 ≤ 60
    omega
  have n2 : ∀ g, nst (gridD g) ≤ 60 := fun g => Nat.le_trans (ns_grid g) (by decide)
  have e1 := gEq_cl (M := M) (neg := false) (cl_tS hl) (cl_tS hl') (n1 _) (n1 _) rfl
  have e2 := gEq_cl (M := M) (neg := false) (cl_grid hg) (cl_grid hg') (n2 _) (n2 _) rfl
  simp only [Bool.false_eq_true, if_false] at e1 e2
  rw [F_Memory___eq__, fnD_eq]
  show outR (b_Memory___eq__ [some (mem ls g), some (mem ls' g')] M) = _
  rw [b_Memory___eq__]
  simp only [sRt_eq, dAndV_eq, dIsi_eq, dVar_s, dVar_0, bind_ok, isi_mem, andV_bl, if_true, dBin_eq, dFld_eq, fld_l, fld_m, ofO_some', e1, e2]
  cases eqD (tS ls) (tS ls') with
  | true => simp only [if_true, thn_ok, outR_rt, Bool.true_and]
  | false => simp
theorem need_memory_ok (ls : List Str) (g : List (List Mv)) (M : Sto) : F_need_memory [mem ls g] M = .ok .non M := by
  rw [F_need_memory, fnD_eq]
  show outR (b_need_memory [some (mem ls g)] M) = _
  rw [b_need_memory]
  simp [isi_mem]
/-- no instance -/
def NoObj : D → Prop
  | .non => True
  | .bl _ => True
  | .int _ => True
  | .str _ => True
  | .tup _ => True
  | .lst _ => True
  | .flst _ => True
  | _ => False
theorem isi_no {d : D} (h : NoObj d) (M : Sto) : kIsi ic_Memory d M = .ok (.bl false) M := by
  cases d <;> first | exact h.elim | rfl
theorem need_memory_x {d : D} (h : NoObj d) (M : Sto) : F_need_memory [d] M = .exc 1 ["part"] [.non] M := by
  rw [F_need_memory, fnD_eq]
  show outR (b_need_memory [some d] M) = _
  rw [b_need_memory]
  simp [isi_no h]
theorem need_state_ok {ls : List Str} {g : List (List Mv)} (hg : g.length ≤ 120) {i : Int} (h0 : 0 ≤ i) (h1 : i < g.length) (M : Sto) : F_need_state [mem ls g, .int i] M = .ok .non M := by
  have h2 : i ≤ (g.length : Int) - 1 := by omega
  rw [F_need_state, fnD_eq]
  show outR (b_need_state [some (mem ls g), some (.int i)] M) = _
  rw [b_need_state]
  simp only [sIf_eq, dNot_eq, dTst_eq, dCallF_eq, dCons_eq, dNil_eq, dVar_s, dVar_0, bind_ok, dC_eq]
  rw [dBin_eq, dLenO_eq, dVar_0, bind_ok, leno_mem hg]
  simp only [sIf_eq, dNot_eq, dTst_eq, dCallF_eq, dCons_eq, dNil_eq, dVar_s, dVar_0, bind_ok, dC_eq, ofO_some', gSub_int]
  rw [is_count_int]
  simp [h0, h2]
/-- no state -/
def isState (n : Nat) : D → Bool
  | .int i => decide (0 ≤ i) && decide (i < n)
  | _ => false
theorem need_state_x {ls : List Str} {g : List (List Mv)} (hg : g.length ≤ 120) {d : D} (hd : Base d) (h : isState g.length d = false) (M : Sto) : F_need_state [mem ls g, d] M = .exc 3 [] [] M := by
  rw [F_need_state, fnD_eq]
  show outR (b_need_state [some (mem ls g), some d] M) = _
  rw [b_need_state]
  simp only [sIf_eq, dNot_eq, dTst_eq, dCallF_eq, dCons_eq, dNil_eq, dVar_s, dVar_0, bind_ok, dC_eq]
  rw [dBin_eq, dLenO_eq, dVar_0, bind_ok, leno_mem hg]
  simp only [sIf_eq, dNot_eq, dTst_eq, dCallF_eq, dCons_eq, dNil_eq, dVar_s, dVar_0, bind_ok, dC_eq, ofO_some', gSub_int]
  rcases Classical.em (∃ i, d = .int i) with ⟨i, rfl⟩ | hn
  · have h : (decide (0 ≤ i) && decide (i < g.length)) = false := h
    have e : (decide (0 ≤ i) && decide (i ≤ (g.length : Int) - 1)) = false := by
      rw [← h]
      congr 1
      exact decide_eq_decide.2 (by omega)
    rw [is_count_int, e]
    simp
  · have hm : isNum d = false := by
      cases d <;> first | rfl | exact absurd ⟨_, rfl⟩ hn
    rw [is_count_bad M hd hm]
    simp
def oneOk (ls : List Str) : D → Bool
  | .str s => decide (s ∈ ls)
  | _ => false
def wordB (ls : List Str) : D → Bool
  | .tup ds => ds.all (oneOk ls)
  | _ => false
/-- an item that is asked about -/
def Itm (d : D) : Prop := NoObj d ∧ ∀ s, d = .str s → PyData.strOk s = true
def Wrd (d : D) : Prop := NoObj d ∧ ∀ ds, d = .tup ds → ds.length ≤ 100000 ∧ ∀ x ∈ ds, Itm x
theorem isi_str {d : D} (h : NoObj d) (M : Sto) : kIsi (isTy "str") d M = .ok (.bl (isStr d)) M := by
  cases d <;> first | exact h.elim | (simp [isStr]; try rfl)
theorem isi_tup {d : D} (h : NoObj d) (M : Sto) : kIsi (isTy "tuple") d M = .ok (.bl (isTp d)) M := by
  cases d <;> first | exact h.elim | (simp [isTp]; try rfl)
theorem one_at {ls : List Str} (hl : Ls ls) {d : D} (h : Itm d) (M : Sto) {ρ : DL.Env} {i : Nat} {f : FE D} (hi : dVar i ρ M = .ok d M) (hf : f ρ M = .ok (tS ls) M) : dAndV (dIsi (isTy "str") (dVar i)) (dBin gIn (dVar i) f) ρ M = .ok (.bl (oneOk ls d)) M := by
  rw [dAndV_eq, dIsi_eq, hi, bind_ok, isi_str h.1, bind_ok, andV_bl]
  cases d with
  | str s =>
    have e := gIn_tups (M := M) (neg := false) (h.2 s rfl) hl.ok
    simp only [Bool.false_eq_true, if_false] at e
    rw [isStr_str, if_pos (Eq.refl _), dBin_eq, hi, bind_ok, hf, bind_ok]
    show Res.ofO (gInB false M (.str s) (.tup (ls.map .str))) M = _
    rw [e]
    rfl
  | _ => first | exact h.1.elim | rfl
theorem is_word_at {ls : List Str} {g : List (List Mv)} (hl : Ls ls) {d : D} (h : Wrd d) (M : Sto) : F_is_word [mem ls g, d] M = .ok (.bl (wordB ls d)) M := by
  rw [F_is_word, fnD_eq]
  show outR (b_is_word [some (mem ls g), some d, none] M) = _
  rw [b_is_word, sRt_eq, dAndV_eq, dIsi_eq, dVar_s, dVar_0, bind_ok, isi_tup h.1, bind_ok, andV_bl]
  cases d with
  | tup ds =>
    obtain ⟨hn, hx⟩ := h.2 ds rfl
    have e := lcD_map (M := M) (ρ := [some (mem ls g), some (.tup ds), none]) (T := .one 2) (ft := dYes) (fe := dAndV (dIsi (isTy "str") (dVar 2)) (dBin gIn (dVar 2) (dFld [0] ("letters" : Str) (dVar 0)))) (ws := [2]) (p := fun _ => true) (f := fun d => .bl (oneOk ls d)) (ds := ds) fun d hd =>
      ⟨[some (mem ls g), some (.tup ds), some d], rfl, rfl, fun _ => one_at hl (hx d hd) M rfl (by rw [dFld_eq, dVar_0, bind_ok, fld_l]; rfl)⟩
    have ef : ds.filter (fun _ => true) = ds := by simp
    rw [ef] at e
    have ez : (ds.map fun d => D.bl (oneOk ls d)).length ≤ sizeLine := by rw [List.length_map, sizeLine_eq]; omega
    have ea : gAll M [.lst (ds.map fun d => D.bl (oneOk ls d))] = some (.bl (ds.all (oneOk ls))) := by
      show (bls (ds.map fun d => D.bl (oneOk ls d))).map (fun bs => D.bl (bs.all _root_.id)) = _
      rw [bls_map]
      simp [List.all_map]
    rw [isTp_tup, if_pos (Eq.refl _), dCallB_eq, dCons_eq, fLc_eq, iAny_eq, dVar_s, dVar_0, bind_ok, kAny_tup, bind_ok, lcI_fix, e, kLc_f, if_pos ez, bind_ok, dNil_eq, bind_ok, bind_ok, ea]
    rfl
  | _ => first | exact h.1.elim | rfl
def mvAt (ls : List Str) (g : List (List Mv)) (i : Int) (s : Str) : Mv := (g.getD i.toNat []).getD (ls.idxOf s) (0, 0, 0)
theorem mv_at {ls : List Str} {g : List (List Mv)} (hg : Gd ls.length g) {i : Int} (h0 : 0 ≤ i) (h1 : i < g.length) {s : Str} (hs : s ∈ ls) :
    ∃ r, g[i.toNat]? = some r ∧ r[ls.idxOf s]? = some (mvAt ls g i s) ∧ MvOk g.length (mvAt ls g i s) := by
  have hi : i.toNat < g.length := by omega
  have hr : g[i.toNat] ∈ g := List.getElem_mem hi
  have hw := hg.wd _ hr
  have hk : ls.idxOf s < (g[i.toNat]).length := by rw [hw]; exact List.idxOf_lt_length_iff.2 hs
  have e : mvAt ls g i s = (g[i.toNat])[ls.idxOf s] := by
    unfold mvAt
    have e1 : g.getD i.toNat [] = g[i.toNat] := by simp [List.getD, hi]
    rw [e1]
    simp [List.getD, hk]
  rw [e]
  exact ⟨_, List.getElem?_eq_getElem hi, List.getElem?_eq_getElem hk, hg.mv _ hr _ (List.getElem_mem hk)⟩
theorem ix_row {g : List (List Mv)} {i : Int} (h0 : 0 ≤ i) (h1 : i < g.length) {r : List Mv} (hr : g[i.toNat]? = some r) (M : Sto) : gIx M (gridD g) (.int i) = some (rowD r) := by
  show atI (g.map rowD) i = _
  unfold atI
  rw [List.length_map, ixN_nn h0 h1]
  show (g.map rowD)[i.toNat]? = _
  rw [List.getElem?_map, hr]
  rfl
theorem ix_mv {r : List Mv} {k : Nat} {m : Mv} (hm : r[k]? = some m) (M : Sto) : gIx M (rowD r) (.int (k : Nat)) = some (mvD m) := by
  obtain ⟨hk, _⟩ := List.getElem?_eq_some_iff.1 hm
  show atI (r.map mvD) (k : Nat) = _
  unfold atI
  rw [List.length_map, ixN_nn (by omega) (by omega)]
  show (r.map mvD)[((k : Nat) : Int).toNat]? = _
  rw [Int.toNat_natCast, List.getElem?_map, hm]
  rfl
theorem move_of_ok {ls : List Str} {g : List (List Mv)} (hg : Gd ls.length g) {i : Int} (h0 : 0 ≤ i) (h1 : i < g.length) {s : Str} (hs : s ∈ ls) (M : Sto) : F_move_of [mem ls g, .int i, .str s] M = .ok (mvD (mvAt ls g i s)) M := by
  obtain ⟨r, e1, e2, _⟩ := mv_at hg h0 h1 hs
  rw [F_move_of, fnD_eq]
  show outR (b_move_of [some (mem ls g), some (.int i), some (.str s)] M) = _
  rw [b_move_of]
  simp only [sRt_eq, dBin_eq, dFld_eq, dVar_s, dVar_0, bind_ok, fld_m, fld_l, ofO_some', ix_row h0 h1 e1, dTm_eq, isTp_tup, if_true, dCons_eq, dNil_eq, gTIx_txt hs, ix_mv e2, thn_ok, outR_rt]
/-- state and sums, after a word -/
abbrev St3 := Int × Int × Int
def goes (ls : List Str) (g : List (List Mv)) : List Str → St3 → St3
  | [], t => t
  | s :: r, t => goes ls g r ((mvAt ls g t.1 s).1, t.2.1 + (mvAt ls g t.1 s).2.1, t.2.2 + (mvAt ls g t.1 s).2.2)
abbrev rs (t : St3) : D := .tup [.int t.1, .tup [.int t.2.1, .int t.2.2]]
theorem goes_app (ls : List Str) (g : List (List Mv)) : ∀ (a b : List Str) (t : St3), goes ls g (a ++ b) t = goes ls g b (goes ls g a t)
  | [], _, _ => rfl
  | s :: a, b, t => goes_app ls g a b _
theorem goes_sum (ls : List Str) (g : List (List Mv)) : ∀ (a : List Str) (i x y : Int), goes ls g a (i, x, y) = ((goes ls g a (i, 0, 0)).1, x + (goes ls g a (i, 0, 0)).2.1, y + (goes ls g a (i, 0, 0)).2.2)
  | [], i, x, y => by simp [goes]
  | s :: a, i, x, y => by
    rw [goes, goes, goes_sum ls g a _ (x + _), goes_sum ls g a _ ((i, 0, 0) : St3).2.1 ]
    simp only [Int.zero_add]
    rw [goes_sum ls g a _ (mvAt ls g i s).2.1]
    simp only [Int.add_assoc]
def StOk (n : Nat) (k : Int) (t : St3) : Prop := 0 ≤ t.1 ∧ t.1 < n ∧ -(k * 999) ≤ t.2.1 ∧ t.2.1 ≤ k * 999 ∧ -(k * 999) ≤ t.2.2 ∧ t.2.2 ≤ k * 999
theorem goes_ok {ls : List Str} {g : List (List Mv)} (hg : Gd ls.length g) : ∀ {ws : List Str} {t : St3} {k : Int}, (∀ s ∈ ws, s ∈ ls) → StOk g.length k t → StOk g.length (k + ws.length) (goes ls g ws t)
  | [], t, k, _, h => by simpa [goes] using h
  | s :: ws, t, k, hw, h => by
    obtain ⟨h1, h2, h3, h4, h5, h6⟩ := h
    obtain ⟨r, e1, e2, m1, m2, m3, m4, m5, m6⟩ := mv_at hg h1 h2 (hw s List.mem_cons_self)
    have := goes_ok hg (ws := ws) (t := ((mvAt ls g t.1 s).1, t.2.1 + (mvAt ls g t.1 s).2.1, t.2.2 + (mvAt ls g t.1 s).2.2)) (k := k + 1) (fun z hz => hw z (List.mem_cons_of_mem _ hz)) ⟨m1, m2, by dsimp only; omega, by dsimp only; omega, by dsimp only; omega, by dsimp only; omega⟩
    rw [goes]
    have e : k + ((s :: ws).length : Int) = k + 1 + ws.length := by rw [List.length_cons]; omega
    rw [e]
    exact this
abbrev readG : FG := gNm 5
noncomputable def readB : FS := sSq (sAs (dCallF F_move_of (dCons (dVar 0) (dCons (dVar 1) (dCons (dVar 5) (dNil))))) (gTp 3 (gsCons (gNm 1) (gsCons (gNm 6) (gsCons (gNm 7) (gsNil)))))) (sPar 3 4 (dBin gAdd (dVar 3) (dVar 6)) (dBin gAdd (dVar 4) (dVar 7)))
theorem read_loop {ls : List Str} {g : List (List Mv)} (hg : Gd ls.length g) (M : Sto) (d : D) : ∀ (ws : List Str) (t : St3) (x5 x6 x7 : Option D), (∀ s ∈ ws, s ∈ ls) → 0 ≤ t.1 → t.1 < g.length →
    ∃ y5 y6 y7, forD readG readB (ws.map .str) [some (mem ls g), some (.int t.1), some d, some (.int t.2.1), some (.int t.2.2), x5, x6, x7] M = .nx [some (mem ls g), some (.int (goes ls g ws t).1), some d, some (.int (goes ls g ws t).2.1), some (.int (goes ls g ws t).2.2), y5, y6, y7] M
  | [], t, x5, x6, x7, _, _, _ => ⟨x5, x6, x7, rfl⟩
  | s :: ws, t, x5, x6, x7, hw, h0, h1 => by
    obtain ⟨r, e1, e2, m1, m2, _⟩ := mv_at hg h0 h1 (hw s List.mem_cons_self)
    obtain ⟨y5, y6, y7, e⟩ := read_loop hg M d ws ((mvAt ls g t.1 s).1, t.2.1 + (mvAt ls g t.1 s).2.1, t.2.2 + (mvAt ls g t.1 s).2.2) (some (.str s)) (some (.int (mvAt ls g t.1 s).2.1)) (some (.int (mvAt ls g t.1 s).2.2)) (fun z hz => hw z (List.mem_cons_of_mem _ hz)) m1 m2
    refine ⟨y5, y6, y7, ?_⟩
    rw [List.map_cons, forD_cons, stp_nm]
    have q : readB [some (mem ls g), some (.int t.1), some d, some (.int t.2.1), some (.int t.2.2), some (.str s), x6, x7] M = .nx [some (mem ls g), some (.int (mvAt ls g t.1 s).1), some d, some (.int (t.2.1 + (mvAt ls g t.1 s).2.1)), some (.int (t.2.2 + (mvAt ls g t.1 s).2.2)), some (.str s), some (.int (mvAt ls g t.1 s).2.1), some (.int (mvAt ls g t.1 s).2.2)] M := by
      rw [readB]
      simp only [sSq_eq, sAs_eq, dCallF_eq, dCons_eq, dNil_eq, dVar_s, dVar_0, bind_ok, move_of_ok hg h0 h1 (hw s List.mem_cons_self), thn_ok, gTp_tup, List.length_cons, List.length_nil, if_true, gsCons_nm, gsNil_eq, List.set_cons_succ, List.set_cons_zero, ofO_so, seq_nx, sPar_eq, dBin_eq, gAdd_int, ofO_some']
    show (readB [some (mem ls g), some (.int t.1), some d, some (.int t.2.1), some (.int t.2.2), some (.str s), x6, x7] M).aft (forD readG readB (ws.map .str)) = _
    rw [q, aft_nx, e]
    rfl
theorem read_on_ok {ls : List Str} {g : List (List Mv)} (hg : Gd ls.length g) {i : Int} (h0 : 0 ≤ i) (h1 : i < g.length) {ws : List Str} (hw : ∀ s ∈ ws, s ∈ ls) (M : Sto) : F_read_on [mem ls g, .int i, tS ws] M = .ok (rs (goes ls g ws (i, 0, 0))) M := by
  obtain ⟨y5, y6, y7, e⟩ := read_loop hg M (tS ws) ws (i, 0, 0) none none none hw h0 h1
  have s2 : (2 : Nat) ≤ sizeLine := szl (by decide)
  unfold readB at e
  rw [F_read_on, fnD_eq]
  show outR (b_read_on [some (mem ls g), some (.int i), some (tS ws), none, none, none, none, none] M) = _
  rw [b_read_on]
  simp only [sSq_eq, sAs_eq, dTup_eq, dCons_eq, dNil_eq, dC_eq, bind_ok, List.length_cons, List.length_nil, s2, if_true, thn_ok, gTp_tup, gsCons_nm, gsNil_eq, List.set_cons_succ, List.set_cons_zero, ofO_so, seq_nx, sFor_eq, iAny_eq, dVar_s, dVar_0, kAny_tup, forI_fix, e, sRt_eq, outR_rt]
theorem wrd_of {ls ws : List Str} (hl : Ls ls) (hw : ∀ s ∈ ws, s ∈ ls) (hn : ws.length ≤ 100000) : Wrd (tS ws) ∧ wordB ls (tS ws) = true := by
  refine ⟨⟨trivial, fun ds e => ?_⟩, ?_⟩
  · cases e
    refine ⟨by rw [List.length_map]; exact hn, fun x hx => ?_⟩
    obtain ⟨s, hs, rfl⟩ := List.mem_map.1 hx
    exact ⟨trivial, fun z e => by cases e; exact hl.ok s (hw s hs)⟩
  · show (ws.map D.str).all (oneOk ls) = true
    rw [List.all_eq_true]
    intro x hx
    obtain ⟨s, hs, rfl⟩ := List.mem_map.1 hx
    exact decide_eq_true (hw s hs)
theorem read_ok {ls : List Str} {g : List (List Mv)} (hl : Ls ls) (hg : Gd ls.length g) {i : Int} (h0 : 0 ≤ i) (h1 : i < g.length) {ws : List Str} (hw : ∀ s ∈ ws, s ∈ ls) (hn : ws.length ≤ 100000) (M : Sto) : F_read [mem ls g, .int i, tS ws] M = .ok (rs (goes ls g ws (i, 0, 0))) M := by
  obtain ⟨w1, w2⟩ := wrd_of hl hw hn
  rw [F_read, fnD_eq]
  show outR (b_read [some (mem ls g), some (.int i), some (tS ws)] M) = _
  rw [b_read]
  simp only [sSq_eq, sEx_eq, dCallF_eq, dCons_eq, dNil_eq, dVar_s, dVar_0, bind_ok, need_memory_ok, thn_ok, seq_nx, need_state_ok hg.n1 h0 h1, sIf_eq, dNot_eq, dTst_eq, is_word_at hl w1, w2, asB_bl, Bool.not_true, Bool.false_eq_true, if_false, sNx_eq, sRt_eq, read_on_ok hg h0 h1 hw, outR_rt]
theorem stepped_ok {ls : List Str} {g : List (List Mv)} (hl : Ls ls) (hg : Gd ls.length g) {i : Int} (h0 : 0 ≤ i) (h1 : i < g.length) {s : Str} (hs : s ∈ ls) (M : Sto) : F_stepped [mem ls g, .int i, .str s] M = .ok (rs (mvAt ls g i s)) M := by
  have e := gIn_tups (M := M) (neg := true) (hl.ok s hs) hl.ok
  rw [decide_eq_true hs] at e
  have s2 : (2 : Nat) ≤ sizeLine := szl (by decide)
  rw [F_stepped, fnD_eq]
  show outR (b_stepped [some (mem ls g), some (.int i), some (.str s), none, none, none] M) = _
  rw [b_stepped]
  simp only [sSq_eq, sEx_eq, dCallF_eq, dCons_eq, dNil_eq, dVar_s, dVar_0, bind_ok, need_memory_ok, thn_ok, seq_nx, need_state_ok hg.n1 h0 h1, sIf_eq, dOr_eq, dNot_eq, dTst_eq, dIsi_eq, kIsi_str, isTy_str_str, isR_some, asB_bl, Bool.not_true, Bool.false_eq_true, if_false, dBin_eq, dFld_eq, fld_l, ofO_some', e, if_true, sNx_eq, sAs_eq, move_of_ok hg h0 h1 hs, gTp_tup, List.length_cons, List.length_nil, gsCons_nm, gsNil_eq, List.set_cons_succ, List.set_cons_zero, ofO_so, sRt_eq, dTup_eq, s2, outR_rt]
theorem read_x1 {d x y : D} (h : NoObj d) (M : Sto) : F_read [d, x, y] M = .exc 1 ["part"] [.non] M := by
  rw [F_read, fnD_eq]
  show outR (b_read [some d, some x, some y] M) = _
  rw [b_read]
  simp only [sSq_eq, sEx_eq, dCallF_eq, dCons_eq, dNil_eq, dVar_s, dVar_0, bind_ok, need_memory_x h, thn_exc, seq_exc, outR_exc]
theorem stepped_x1 {d x y : D} (h : NoObj d) (M : Sto) : F_stepped [d, x, y] M = .exc 1 ["part"] [.non] M := by
  rw [F_stepped, fnD_eq]
  show outR (b_stepped [some d, some x, some y, none, none, none] M) = _
  rw [b_stepped]
  simp only [sSq_eq, sEx_eq, dCallF_eq, dCons_eq, dNil_eq, dVar_s, dVar_0, bind_ok, need_memory_x h, thn_exc, seq_exc, outR_exc]
theorem negated_x1 {d : D} (h : NoObj d) (M : Sto) : F_negated [d] M = .exc 1 ["part"] [.non] M := by
  rw [F_negated, fnD_eq]
  show outR (b_negated [some d, none, none, none, none, none] M) = _
  rw [b_negated]
  simp only [sSq_eq, sEx_eq, dCallF_eq, dCons_eq, dNil_eq, dVar_s, dVar_0, bind_ok, need_memory_x h, thn_exc, seq_exc, outR_exc]
theorem read_x2 {ls : List Str} {g : List (List Mv)} (hg : g.length ≤ 120) {d y : D} (hd : Base d) (h : isState g.length d = false) (M : Sto) : F_read [mem ls g, d, y] M = .exc 3 [] [] M := by
  rw [F_read, fnD_eq]
  show outR (b_read [some (mem ls g), some d, some y] M) = _
  rw [b_read]
  simp only [sSq_eq, sEx_eq, dCallF_eq, dCons_eq, dNil_eq, dVar_s, dVar_0, bind_ok, need_memory_ok, thn_ok, seq_nx, need_state_x hg hd h, thn_exc, seq_exc, outR_exc]
theorem stepped_x2 {ls : List Str} {g : List (List Mv)} (hg : g.length ≤ 120) {d y : D} (hd : Base d) (h : isState g.length d = false) (M : Sto) : F_stepped [mem ls g, d, y] M = .exc 3 [] [] M := by
  rw [F_stepped, fnD_eq]
  show outR (b_stepped [some (mem ls g), some d, some y, none, none, none] M) = _
  rw [b_stepped]
  simp only [sSq_eq, sEx_eq, dCallF_eq, dCons_eq, dNil_eq, dVar_s, dVar_0, bind_ok, need_memory_ok, thn_ok, seq_nx, need_state_x hg hd h, thn_exc, seq_exc, outR_exc]
theorem read_x3 {ls : List Str} {g : List (List Mv)} (hl : Ls ls) (hg : g.length ≤ 120) {i : Int} (h0 : 0 ≤ i) (h1 : i < g.length) {d : D} (hd : Wrd d) (h : wordB ls d = false) (M : Sto) : F_read [mem ls g, .int i, d] M = .exc 4 [] [] M := by
  rw [F_read, fnD_eq]
  show outR (b_read [some (mem ls g), some (.int i), some d] M) = _
  rw [b_read]
  simp only [sSq_eq, sEx_eq, dCallF_eq, dCons_eq, dNil_eq, dVar_s, dVar_0, bind_ok, need_memory_ok, thn_ok, seq_nx, need_state_ok hg h0 h1, sIf_eq, dNot_eq, dTst_eq, is_word_at hl hd, h, asB_bl, Bool.not_false, if_true, sRaise_eq, seq_exc, outR_exc]
theorem stepped_x3 {ls : List Str} {g : List (List Mv)} (hl : Ls ls) (hg : g.length ≤ 120) {i : Int} (h0 : 0 ≤ i) (h1 : i < g.length) {d : D} (hd : Itm d) (h : oneOk ls d = false) (M : Sto) : F_stepped [mem ls g, .int i, d] M = .exc 2 [] [] M := by
  have t : (dOr (dNot (dTst (dIsi (isTy "str") (dVar 2)))) (dTst (dBin gNotIn (dVar 2) (dFld [0] ("letters" : Str) (dVar 0))))) [some (mem ls g), some (.int i), some d, none, none, none] M = .ok true M := by
    rw [dOr_eq, dNot_eq, dTst_eq, dIsi_eq, dVar_s, dVar_s, dVar_0, bind_ok, isi_str hd.1]
    cases d with
    | str s =>
      have e := gIn_tups (M := M) (neg := true) (hd.2 s rfl) hl.ok
      have h : decide (s ∈ ls) = false := h
      rw [h] at e
      simp only [if_true, Bool.not_false] at e
      simp only [isStr_str, bind_ok, asB_bl, Bool.not_true, Bool.false_eq_true, if_false, dTst_eq, dBin_eq, dVar_s, dVar_0, dFld_eq, fld_l, ofO_some', e]
    | _ => first | exact hd.1.elim | rfl
  rw [F_stepped, fnD_eq]
  show outR (b_stepped [some (mem ls g), some (.int i), some d, none, none, none] M) = _
  rw [b_stepped]
  simp only [sSq_eq, sEx_eq, dCallF_eq, dCons_eq, dNil_eq, dVar_s, dVar_0, bind_ok, need_memory_ok, thn_ok, seq_nx, need_state_ok hg h0 h1]
  rw [sIf_eq, t]
  simp only [thn_ok, if_true, sRaise_eq, seq_exc, outR_exc]
def ngM (m : Mv) : Mv := (m.1, -m.2.1, -m.2.2)
def ng (g : List (List Mv)) : List (List Mv) := g.map fun r => r.map ngM
theorem ng_ng (g : List (List Mv)) : ng (ng g) = g := by
  unfold ng
  rw [List.map_map]
  have : ∀ r : List Mv, (r.map ngM).map ngM = r := fun r => by
    rw [List.map_map]
    have e : (ngM ∘ ngM) = id := by
      funext m
      obtain ⟨a, b, c⟩ := m
      simp [ngM]
    rw [e, List.map_id]
  have e : ((fun r : List Mv => r.map ngM) ∘ fun r => r.map ngM) = id := by
    funext r
    exact this r
  rw [e, List.map_id]
theorem ng_ok {w : Nat} {g : List (List Mv)} (h : Gd w g) : Gd w (ng g) := by
  have hl : (ng g).length = g.length := by unfold ng; rw [List.length_map]
  refine ⟨fun r hr => ?_, fun r hr m hm => ?_, by rw [hl]; exact h.n0, by rw [hl]; exact h.n1⟩
  · obtain ⟨q, hq, rfl⟩ := List.mem_map.1 hr
    rw [List.length_map]
    exact h.wd q hq
  · obtain ⟨q, hq, rfl⟩ := List.mem_map.1 hr
    obtain ⟨z, hz, rfl⟩ := List.mem_map.1 hm
    obtain ⟨h1, h2, h3, h4, h5, h6⟩ := h.mv q hq z hz
    rw [hl]
    exact ⟨h1, h2, by show -999 ≤ -z.2.1; omega, by show -z.2.1 ≤ 999; omega, by show -999 ≤ -z.2.2; omega, by show -z.2.2 ≤ 999; omega⟩
noncomputable def negB : FS := sEx (dMt gApp (dVar 1) (dCons (dCallB gTuple (dCons (fLc false (iAny (dVar 2)) (.tup [3, 4, 5]) (dYes) (dTup (dCons (dVar 3) (dCons (dNeg (dVar 4)) (dCons (dNeg (dVar 5)) (dNil))))) [3, 4, 5]) (dNil))) (dNil)))
theorem neg_loop (M : Sto) (d : D) : ∀ (gs acc : List (List Mv)) (x2 : Option D), (∀ r ∈ gs, r.length ≤ 1000) → acc.length + gs.length ≤ 1000 →
    ∃ y2, forD (gNm 2) negB (gs.map rowD) [some d, some (.own M.length), x2, none, none, none] (M ++ [.lst (acc.map rowD)]) = .nx [some d, some (.own M.length), y2, none, none, none] (M ++ [.lst ((acc ++ ng gs).map rowD)])
  | [], acc, x2, _, _ => ⟨x2, by simp [ng]⟩
  | r :: gs, acc, x2, h, hl => by
    rw [List.length_cons] at hl
    obtain ⟨y2, e⟩ := neg_loop M d gs (acc ++ [r.map ngM]) (some (rowD r)) (fun q hq => h q (List.mem_cons_of_mem _ hq)) (by rw [List.length_append, List.length_singleton]; omega)
    have s3 : (3 : Nat) ≤ sizeLine := szl (by decide)
    have q := lcD_on (M := M ++ [.lst (acc.map rowD)]) (ρ := [some d, some (.own M.length), some (rowD r), none, none, none]) (T := .tup [3, 4, 5]) (ft := dYes) (fe := dTup (dCons (dVar 3) (dCons (dNeg (dVar 4)) (dCons (dNeg (dVar 5)) (dNil))))) (ws := [3, 4, 5]) (inj := mvD) (p := fun _ => true) (f := fun m => mvD (ngM m)) (xs := r) fun m hm =>
      ⟨[some d, some (.own M.length), some (rowD r), some (.int m.1), some (.int m.2.1), some (.int m.2.2)], rfl, rfl, fun _ => by
        simp only [dTup_eq, dCons_eq, dVar_s, dVar_0, bind_ok, dNeg_eq, negV_int, dNil_eq, List.length_cons, List.length_nil, s3, if_true]
        rfl⟩
    have ef : r.filter (fun _ => true) = r := by simp
    rw [ef] at q
    have er : r.map (fun m => mvD (ngM m)) = (r.map ngM).map mvD := by rw [List.map_map]; rfl
    rw [er] at q
    have ez : ((r.map ngM).map mvD).length ≤ sizeLine := szl (by rw [List.length_map, List.length_map]; exact h r List.mem_cons_self)
    have ha := app_end M (acc.map rowD) (rowD (r.map ngM)) (by rw [List.length_map, sizeLine_eq]; omega)
    have hb : negB [some d, some (.own M.length), some (rowD r), none, none, none] (M ++ [.lst (acc.map rowD)]) = .nx [some d, some (.own M.length), some (rowD r), none, none, none] (M ++ [.lst ((acc ++ [r.map ngM]).map rowD)]) := by
      rw [negB, sEx_eq, dMt_own]
      simp only [dVar_s, dVar_0, bind_ok, lst_end]
      rw [dCons_eq, dCallB_eq, dCons_eq, fLc_eq, iAny_eq]
      simp only [dVar_s, dVar_0, bind_ok, kAny_tup, lcI_fix, q, kLc_f, if_pos ez, dNil_eq]
      have et : gTuple (M ++ [.lst (acc.map rowD)]) [.lst ((r.map ngM).map mvD)] = some (rowD (r.map ngM)) := rfl
      rw [et, ofO_some', bind_ok, bind_ok, ha, List.map_append]
      rfl
    refine ⟨y2, ?_⟩
    rw [List.map_cons, forD_cons, stp_nm]
    show (negB [some d, some (.own M.length), some (rowD r), none, none, none] (M ++ [.lst (acc.map rowD)])).aft (forD (gNm 2) negB (gs.map rowD)) = _
    rw [hb, aft_nx, e]
    have : acc ++ [r.map ngM] ++ ng gs = acc ++ ng (r :: gs) := by simp [ng]
    rw [this]
theorem negated_ok {ls : List Str} {g : List (List Mv)} (hl : Ls ls) (hg : Gd ls.length g) (M : Sto) : ∃ J, F_negated [mem ls g] M = .ok (mem ls (ng g)) (M ++ J) := by
  obtain ⟨y2, e⟩ := neg_loop M (mem ls g) g [] none (fun r hr => by rw [hg.wd r hr]; have := hl.n1; omega) (by have := hg.n1; simp; omega)
  have s0 : (0 : Nat) ≤ sizeLine := szl (by decide)
  refine ⟨[.lst ((ng g).map rowD)], ?_⟩
  have hm := made hl (ng_ok hg) (ρ := [some (mem ls g), some (.own M.length), y2, none, none, none]) (fs := dCons (dFld [0] ("letters" : Str) (dVar 0)) (dCons (dCallB gTuple (dCons (dVar 1) (dNil))) (dNil))) (M := M ++ [.lst ((ng g).map rowD)]) (M1 := M ++ [.lst ((ng g).map rowD)]) (by
    have et : gTuple (M ++ [.lst ((ng g).map rowD)]) [.own M.length] = some (gridD (ng g)) := by
      show (lstOf (M ++ [.lst ((ng g).map rowD)]) (.own M.length)).map D.tup = _
      rw [lst_end]
      rfl
    simp only [dCons_eq, dFld_eq, dVar_0, dVar_s, bind_ok, fld_l, ofO_some', dCallB_eq, dNil_eq, et])
  unfold negB at e
  rw [F_negated, fnD_eq]
  show outR (b_negated [some (mem ls g), none, none, none, none, none] M) = _
  rw [b_negated]
  simp only [List.map_nil, List.nil_append] at e
  simp only [sSq_eq, sEx_eq, dCallF_eq, dCons_eq, dNil_eq, dVar_s, dVar_0, bind_ok, need_memory_ok, thn_ok, seq_nx, sSet_eq, dLstO_eq, List.length_nil, s0, if_true, List.set_cons_succ, List.set_cons_zero, sFor_eq, iAny_eq, dFld_eq, fld_m, ofO_some', kAny_tup, forI_fix]
  rw [e, seq_nx, sRt_eq]
  rw [hm]
  rfl
theorem lc_draw {T : TgC} {fe : FE D} {ws : List Nat} {ρ : DL.Env} {P : D → Prop} {R : Sto} (k : Int) (hk : 0 ≤ k) (B : Int) : ∀ (ds : List D) (n : Int) (M : Sto), Dv n R M → n + k * ds.length ≤ B →
    (∀ d ∈ ds, ∀ (m : Int) (N : Sto), Dv m R N → m + k ≤ B → ∃ ρ2, T.d d (wipeE ρ ws) = some ρ2 ∧ ∃ e N', fe ρ2 N = .ok e N' ∧ P e ∧ Dv (m + k) R N') →
    ∃ es M', lcD T dYes fe ws ρ ds M = .ok es M' ∧ es.length = ds.length ∧ (∀ e ∈ es, P e) ∧ Dv (n + k * ds.length) R M'
  | [], n, M, v, _, _ => ⟨[], M, rfl, rfl, (fun e he => by cases he), v.mono (by simp)⟩
  | d :: ds, n, M, v, hB, h => by
    have e1 : k * ((d :: ds).length : Int) = k + k * ds.length := by rw [List.length_cons]; push_cast; rw [Int.mul_add]; omega
    have e2 : 0 ≤ k * (ds.length : Int) := Int.mul_nonneg hk (by omega)
    rw [e1] at hB
    obtain ⟨ρ2, h1, e, N', h2, h3, h4⟩ := h d List.mem_cons_self n M v (by omega)
    obtain ⟨es, M', h5, h6, h7, h8⟩ := lc_draw k hk B ds (n + k) N' h4 (by omega) fun x hx => h x (List.mem_cons_of_mem _ hx)
    refine ⟨e :: es, M', ?_, by simp [h6], fun x hx => ?_, h8.mono (by rw [e1]; omega)⟩
    · show lstp T dYes fe ws ρ d M (lcD T dYes fe ws ρ ds) = _
      unfold lstp
      rw [h1]
      simp only [dYes_eq, h2, h5]
    · rcases List.mem_cons.1 hx with rfl | hx
      · exact h3
      · exact h7 x hx
theorem pick_tup {n : Int} {R M : Sto} {ds : List D} (h : Dv n R M) (hn : n < 1000000000) (h0 : ds ≠ []) (h1 : ds.length < 1000000) : ∃ d M', F__law_pick [.own 1, .tup ds] M = .ok d M' ∧ d ∈ ds ∧ Dv (n + 1) R M' := by
  have hp : 0 < ds.length := List.length_pos_iff.mpr h0
  obtain ⟨r, M', e, r0, r1, v⟩ := take (m := ds.length) h hn (by omega) (Nat.lt_trans (lg 63 (by decide) (by omega)) (by decide))
  have hr : r.toNat < ds.length := by omega
  refine ⟨ds[r.toNat], M', ?_, List.getElem_mem hr, v⟩
  have hix : gIx M' (.tup ds) (.int r) = some ds[r.toNat] := by
    show atI ds r = _
    unfold atI
    rw [ixN_nn r0 r1]
    exact List.getElem?_eq_getElem hr
  have hlen : gLen M [.tup ds] = some (.int ds.length) := rfl
  rw [F__law_pick, fnD_eq]
  show outR (b__law_pick [some (.own 1), some (.tup ds)] M) = _
  rw [b__law_pick, sRt_eq]
  simp only [dBin_eq, dVar_s, dVar_0, bind_ok, dCallF_eq, dCons_eq, dCallB_eq, dNil_eq, hlen, ofO_some', e, hix, thn_ok, outR_rt]
theorem pick_str {n : Int} {R M : Sto} {s : Str} (h : Dv n R M) (hn : n < 1000000000) (h0 : 0 < s.length) (h1 : s.length < 1000000) : ∃ c M', F__law_pick [.own 1, .str s] M = .ok (.str ⟨#[c]⟩) M' ∧ c ∈ s.cps.toList ∧ Dv (n + 1) R M' := by
  obtain ⟨r, M', e, r0, r1, v⟩ := take (m := s.length) h hn (by omega) (Nat.lt_trans (lg 63 (by decide) (by omega)) (by decide))
  have hz : s.cps.toList.length = s.length := by rw [Array.length_toList]; rfl
  have hr : r.toNat < s.cps.toList.length := by rw [hz]; omega
  have hs : s.length ≤ sizeLine := by have := sizeLine_eq; omega
  refine ⟨s.cps.toList[r.toNat], M', ?_, List.getElem_mem hr, v⟩
  have hix : gIx M' (.str s) (.int r) = some (.str ⟨#[s.cps.toList[r.toNat]]⟩) := by
    show (if s.length ≤ sizeLine then (atI s.cps.toList r).map (fun c => D.str ⟨#[c]⟩) else none) = _
    rw [if_pos hs]
    unfold atI
    rw [hz, ixN_nn r0 r1]
    show (s.cps.toList[r.toNat]?).map (fun c => D.str ⟨#[c]⟩) = _
    rw [List.getElem?_eq_getElem hr]
    rfl
  have hlen : gLen M [.str s] = some (.int s.length) := if_pos hs
  rw [F__law_pick, fnD_eq]
  show outR (b__law_pick [some (.own 1), some (.str s)] M) = _
  rw [b__law_pick, sRt_eq]
  simp only [dBin_eq, dVar_s, dVar_0, bind_ok, dCallF_eq, dCons_eq, dCallB_eq, dNil_eq, hlen, ofO_some', e, hix, thn_ok, outR_rt]
theorem law_cost {n pk : Int} {R M : Sto} (h : Dv n R M) (hn : n < 1000000) (h0 : 0 ≤ pk) (h1 : pk ≤ 999) : ∃ x M', F__law_cost [.own 1, .int pk] M = .ok (.int x) M' ∧ -pk ≤ x ∧ x ≤ pk ∧ Dv (n + 1) R M' := by
  obtain ⟨r, M', e, r0, r1, v⟩ := tk (2 * pk + 1) h hn (by omega) (by omega)
  have m2 : ∀ M : Sto, gMul M (.int 2) (.int pk) = some (.int (2 * pk)) := fun M => gMul_int (by
    have := lg (i := pk) 63 (by decide) (by omega)
    have : (2 : Int).natAbs.log2 < 20 := by decide
    omega)
  refine ⟨r - pk, M', ?_, by omega, by omega, v⟩
  rw [F__law_cost, fnD_eq]
  show outR (b__law_cost [some (.own 1), some (.int pk)] M) = _
  rw [b__law_cost]
  simp [m2, e]
theorem php {α : Type} [DecidableEq α] : ∀ {l1 l2 : List α}, l1.Nodup → l2.length < l1.length → ∃ x ∈ l1, x ∉ l2
  | [], l2, _, h => by simp at h
  | a :: l1, l2, hn, h => by
    rw [List.nodup_cons] at hn
    by_cases ha : a ∈ l2
    · have hl := List.length_erase_of_mem ha
      have hp := List.length_pos_of_mem ha
      obtain ⟨x, h1, h2⟩ := php (l2 := l2.erase a) hn.2 (by rw [hl]; simp at h; omega)
      refine ⟨x, List.mem_cons_of_mem _ h1, fun z => h2 ?_⟩
      have : x ≠ a := fun e => hn.1 (e ▸ h1)
      exact (List.mem_erase_of_ne this).2 z
    · exact ⟨a, List.mem_cons_self, ha⟩
theorem singles {p : Nat → Prop} : ∀ {es : List D}, (∀ e ∈ es, ∃ c, e = .str ⟨#[c]⟩ ∧ p c) → ∃ cs : List Nat, es = cs.map (fun c => D.str ⟨#[c]⟩) ∧ ∀ c ∈ cs, p c
  | [], _ => ⟨[], rfl, fun c hc => by cases hc⟩
  | e :: es, h => by
    obtain ⟨c, rfl, h1⟩ := h e List.mem_cons_self
    obtain ⟨cs, rfl, h2⟩ := singles fun x hx => h x (List.mem_cons_of_mem _ hx)
    exact ⟨c :: cs, rfl, fun x hx => by
      rcases List.mem_cons.1 hx with rfl | hx
      · exact h1
      · exact h2 x hx⟩
theorem join_ones : ∀ cs : List Nat, (Str.join ("" : Str) (cs.map fun c => (⟨#[c]⟩ : Str))).cps.toList = cs
  | [] => rfl
  | [c] => rfl
  | c :: d :: cs => by
    have ih := join_ones (d :: cs)
    show ((⟨#[c]⟩ : Str) ++ "" ++ Str.join ("" : Str) ((d :: cs).map fun c => (⟨#[c]⟩ : Str))).cps.toList = _
    have e : ∀ a b : Str, (a ++ b).cps.toList = a.cps.toList ++ b.cps.toList := fun a b => Array.toList_append
    have e0 : ("" : Str).cps.toList = [] := by decide
    rw [e, e, ih, e0]
    rfl
theorem gJoin_ones {M : Sto} {cs : List Nat} (h : cs.length ≤ 1000) : gJoin M (.str ("" : Str)) [.lst (cs.map fun c => D.str ⟨#[c]⟩)] = some (.str ⟨cs.toArray⟩) := by
  have e1 : (cs.map fun c => D.str ⟨#[c]⟩) = (cs.map fun c => (⟨#[c]⟩ : Str)).map D.str := by rw [List.map_map]; rfl
  have e2 : ((cs.map fun c => (⟨#[c]⟩ : Str)).map fun y : Str => y.length).sum = cs.length := by
    induction cs with
    | nil => rfl
    | cons c cs ih =>
      have ih := ih (by simp at h; omega)
      rw [List.map_cons, List.map_cons, List.sum_cons, ih (by rw [List.map_map]; rfl), List.length_cons]
      show 1 + cs.length = _
      omega
  have e3 : ("" : Str).length = 0 := by decide
  have ej : Txt.join ("" : Str) (cs.map fun c => (⟨#[c]⟩ : Str)) = ⟨cs.toArray⟩ := by
    have h1 : Txt.join ("" : Str) (cs.map fun c => (⟨#[c]⟩ : Str)) = Str.join ("" : Str) (cs.map fun c => (⟨#[c]⟩ : Str)) := StrLaws.glued_eq_join _ _
    rw [h1]
    have h2 := join_ones cs
    have h3 : (Str.join ("" : Str) (cs.map fun c => (⟨#[c]⟩ : Str))).cps = cs.toArray := by rw [← Array.toArray_toList (xs := (Str.join ("" : Str) (cs.map fun c => (⟨#[c]⟩ : Str))).cps), h2]
    cases hq : Str.join ("" : Str) (cs.map fun c => (⟨#[c]⟩ : Str)) with | mk q =>
    rw [hq] at h3
    rw [← h3]
  show (match txts (cs.map fun c => D.str ⟨#[c]⟩) with
    | some ys => if (ys.map fun y : Str => y.length).sum + ys.length * ("" : Str).length ≤ 16777216 then some (D.str (Txt.join ("" : Str) ys)) else none
    | none => none) = _
  rw [e1, txts_map]
  show (if ((cs.map fun c => (⟨#[c]⟩ : Str)).map fun y : Str => y.length).sum + (cs.map fun c => (⟨#[c]⟩ : Str)).length * ("" : Str).length ≤ 16777216 then some (D.str (Txt.join ("" : Str) (cs.map fun c => (⟨#[c]⟩ : Str)))) else none) = _
  rw [e2, e3, ej, if_pos (by omega)]
theorem law_sign {n : Int} {R M : Sto} (h : Dv n R M) (hn : n < 900000) : ∃ s M', F__law_sign [.own 1] M = .ok (.str s) M' ∧ Lt s ∧ Dv (n + 13) R M' := by
  obtain ⟨d, M1, e1, hd, v1⟩ := pick (ds := [.int 1, .int 1, .int 1, .int 2, .int 3, .int 12]) h (by omega) (by simp) (by simp)
  obtain ⟨w, rfl, w0, w1⟩ : ∃ w, d = .int w ∧ 1 ≤ w ∧ w ≤ 12 := by
    simp at hd
    rcases hd with rfl | rfl | rfl | rfl <;> exact ⟨_, rfl, by decide, by decide⟩
  have s6 : (6 : Nat) ≤ sizeLine := szl (by decide)
  have hr : kRg1 [.int w] M1 = .ok (IT.fix (intUp 0 w.toNat)) M1 := kRg1_int (small_of (by omega) (by omega))
  have hl : ((intUp 0 w.toNat).length : Int) = w := by rw [intUp_range, List.length_map, List.length_range]; omega
  have hsz : ("ABCDEFGHIJKLMNOPQRSTUVWXYZabcdefghijklmnopqrstuvwxyz0123456789." : Str).length = 63 := by decide +kernel
  obtain ⟨es, M2, e2, l2, p2, v2⟩ := lc_draw (T := .one 2) (fe := dCallF F__law_pick (dCons (dVar 0) (dCons (dC (.str ("ABCDEFGHIJKLMNOPQRSTUVWXYZabcdefghijklmnopqrstuvwxyz0123456789." : Str))) (dNil)))) (ws := [2]) (ρ := [some (.own 1), some (.int w), none])
    (P := fun e => ∃ c, e = .str ⟨#[c]⟩ ∧ c ∈ ("ABCDEFGHIJKLMNOPQRSTUVWXYZabcdefghijklmnopqrstuvwxyz0123456789." : Str).cps.toList) (R := R) 1 (by decide) 950000 (intUp 0 w.toNat) (n + 1) M1 v1 (by rw [hl]; omega) (fun x _ m N v hm => by
      obtain ⟨c, N', e, hc, v'⟩ := pick_str (s := ("ABCDEFGHIJKLMNOPQRSTUVWXYZabcdefghijklmnopqrstuvwxyz0123456789." : Str)) v (by omega) (by rw [hsz]; decide) (by rw [hsz]; decide)
      exact ⟨[some (.own 1), some (.int w), some x], rfl, _, N', by simp only [dCallF_eq, dCons_eq, dVar_0, dVar_s, bind_ok, dC_eq, dNil_eq, e], ⟨c, rfl, hc⟩, v'⟩)
  obtain ⟨cs, rfl, hc⟩ := singles p2
  rw [List.length_map] at l2
  have hcl : (cs.length : Int) = w := by omega
  have hin : ∀ c ∈ ("ABCDEFGHIJKLMNOPQRSTUVWXYZabcdefghijklmnopqrstuvwxyz0123456789." : Str).cps.toList, c ∈ sgs.cps.toList := by decide +kernel
  refine ⟨⟨cs.toArray⟩, M2, ?_, ⟨?_, ?_, ?_⟩, v2.mono (by rw [hl]; omega)⟩
  · have hz : (cs.map fun c => D.str ⟨#[c]⟩).length ≤ sizeLine := szl (by rw [List.length_map]; omega)
    rw [F__law_sign, fnD_eq]
    show outR (b__law_sign [some (.own 1), none, none] M) = _
    rw [b__law_sign, sSq_eq, sSet_eq, dCallF_eq, dCons_eq, dVar_0, bind_ok, dCons_eq, dLst_eq]
    simp only [dCons_eq, dC_eq, bind_ok, dNil_eq, List.length_cons, List.length_nil, s6, if_true, e1, thn_ok, List.set_cons_succ, List.set_cons_zero, seq_nx, sRt_eq, dSm_eq, isStr_str, fLc_eq, iRg1_eq, dVar_s, dVar_0, hr, lcI_fix, e2, kLc_f, if_pos hz, gJoin_ones (show cs.length ≤ 1000 by omega), ofO_some', outR_rt]
  · show 1 ≤ cs.toArray.size
    rw [List.size_toArray]; omega
  · show cs.toArray.size ≤ 12
    rw [List.size_toArray]; omega
  · intro c hc'
    exact hin c (hc c (by simpa using hc'))
def mks : Str := "kQ7.zA0mB2cX"
theorem mks_in : ∀ c ∈ mks.cps.toList, c ∈ sgs.cps.toList := by decide +kernel
theorem mks_nd : mks.cps.toList.Nodup := by decide +kernel
theorem mks_len : mks.cps.toList.length = 12 := by decide +kernel
def spare (s : Str) : List Str := mks.cps.toList.map fun c => cutS s none (some 11) ++ (⟨#[c]⟩ : Str)
theorem cut11_len (s : Str) : (cutS s none (some 11)).length ≤ 11 := by
  show (((s.cps.toList.drop (HT.sIx s.length 0 none)).take (HT.sIx s.length s.length (some 11) - HT.sIx s.length 0 none)).toArray).size ≤ 11
  have e : HT.sIx s.length s.length (some (11 : Int)) = min 11 s.length := HT.sIx_nat s.length s.length 11
  rw [List.size_toArray, List.length_take, e]
  have : min 11 s.length ≤ 11 := Nat.min_le_left _ _
  omega
theorem cut11_mem (s : Str) : ∀ c ∈ (cutS s none (some 11)).cps.toList, c ∈ s.cps.toList := by
  intro c hc
  have hc : c ∈ ((s.cps.toList.drop (HT.sIx s.length 0 none)).take (HT.sIx s.length s.length (some 11) - HT.sIx s.length 0 none)) := by simpa [cutS] using hc
  exact List.mem_of_mem_drop (List.mem_of_mem_take hc)
theorem str_cps (a b : Str) : (a ++ b).cps.toList = a.cps.toList ++ b.cps.toList := Array.toList_append
theorem spare_lt {s : Str} (h : Lt s) : ∀ z ∈ spare s, Lt z := by
  intro z hz
  obtain ⟨c, hc, rfl⟩ := List.mem_map.1 hz
  have l1 : (cutS s none (some 11) ++ (⟨#[c]⟩ : Str)).length = (cutS s none (some 11)).length + 1 := Array.size_append
  have := cut11_len s
  refine ⟨by omega, by omega, fun x hx => ?_⟩
  rw [str_cps] at hx
  rcases List.mem_append.1 hx with hx | hx
  · exact h.2.2 x (cut11_mem s x hx)
  · have : x = c := by simpa using hx
    rw [this]
    exact mks_in c hc
theorem spare_nd (s : Str) : (spare s).Nodup := by
  unfold spare List.Nodup
  rw [List.pairwise_map]
  refine List.Pairwise.imp (fun {a b} hab e => hab ?_) (show mks.cps.toList.Pairwise (· ≠ ·) from mks_nd)
  have := congrArg (fun z : Str => z.cps.toList) e
  simp only [str_cps] at this
  have := List.append_cancel_left this
  simpa using this
theorem spare_len (s : Str) : (spare s).length = 12 := by unfold spare; rw [List.length_map, mks_len]
noncomputable def sgB : FS := sSq (sSet 4 (dCallF F__law_sign (dCons (dVar 0) (dNil)))) (sSq (sSet 5 (dBin gAdd (dLst (dCons (dVar 4) (dNil))) (fLc false (iStr' (dC (.str ("kQ7.zA0mB2cX" : Str)))) (.one 6) (dYes) (dBin gAdd (dSl (dVar 4) (dNoPart) (dPart (dC (.int 11)))) (dVar 6)) [6]))) (sEx (dMt gApp (dVar 2) (dCons (dBin gIx (fLc false (iAny (dVar 5)) (.one 7) (dTst (dBin gNotIn (dVar 7) (dVar 2))) (dVar 7) [7]) (dC (.int 0))) (dNil)))))
theorem sg_step {n : Int} {R M : Sto} {acc : List Str} (h : Dv n (R ++ [.lst (acc.map .str)]) M) (hn : n < 900000) (ha : ∀ s ∈ acc, Lt s) (hl : acc.length ≤ 10) (many x3 y4 y5 : Option D) :
    ∃ s x4 x5 M', sgB [some (.own 1), many, some (.own (R.length + 2)), x3, y4, y5, none, none] M = .nx [some (.own 1), many, some (.own (R.length + 2)), x3, x4, x5, none, none] M' ∧ Lt s ∧ s ∉ acc ∧ Dv (n + 13) (R ++ [.lst ((acc ++ [s]).map .str)]) M' := by
  obtain ⟨s, M1, e1, hs, v1⟩ := law_sign h hn
  obtain ⟨N, rfl, hN, hv⟩ := v1.last
  have hcut := cut11_len s
  have hss : s.length ≤ sizeLine := szl (by have := hs.2.1; omega)
  have q1 := lcD_on (M := N ++ [.lst (acc.map .str)]) (ρ := [some (.own 1), many, some (.own (R.length + 2)), x3, some (.str s), y5, none, none]) (T := .one 6) (ft := dYes) (fe := dBin gAdd (dSl (dVar 4) (dNoPart) (dPart (dC (.int 11)))) (dVar 6)) (ws := [6]) (inj := fun c : Nat => D.str ⟨#[c]⟩) (p := fun _ => true) (f := fun c => .str (cutS s none (some 11) ++ (⟨#[c]⟩ : Str))) (xs := mks.cps.toList) fun c hc =>
    ⟨[some (.own 1), many, some (.own (R.length + 2)), x3, some (.str s), y5, some (.str ⟨#[c]⟩), none], rfl, rfl, fun _ => by
      have g1 : gSl (N ++ [.lst (acc.map .str)]) (.str s) none (some 11) = some (.str (cutS s none (some 11))) := if_pos hss
      have g2 : gAdd (N ++ [.lst (acc.map .str)]) (.str (cutS s none (some 11))) (.str ⟨#[c]⟩) = some (.str (cutS s none (some 11) ++ (⟨#[c]⟩ : Str))) := if_pos (szl (by show (cutS s none (some 11)).length + 1 ≤ 1000; omega))
      simp only [dBin_eq, dSl_eq, dVar_s, dVar_0, bind_ok, dNoPart_eq, dPart_eq, dC_eq, g1, ofO_some', g2]⟩
  have ef : mks.cps.toList.filter (fun _ => true) = mks.cps.toList := by simp
  rw [ef] at q1
  have es : (mks.cps.toList.map fun c => D.str (cutS s none (some 11) ++ (⟨#[c]⟩ : Str))) = (spare s).map .str := by unfold spare; rw [List.map_map]; rfl
  rw [es] at q1
  have hz1 : ((spare s).map D.str).length ≤ sizeLine := szl (by rw [List.length_map, spare_len]; decide)
  have gadd : gAdd (N ++ [.lst (acc.map .str)]) (.lst [.str s]) (.lst ((spare s).map .str)) = some (.lst ((s :: spare s).map .str)) := gAdd_lst (szl (by rw [List.length_map, spare_len]; show 1 + 12 ≤ 1000; omega))
  have hlt : ∀ z ∈ s :: spare s, Lt z := fun z hz => by
    rcases List.mem_cons.1 hz with rfl | hz
    · exact hs
    · exact spare_lt hs z hz
  have hM : (N ++ [MO.lst (acc.map .str)])[R.length + 2]? = some (.lst (acc.map .str)) := by rw [← hN]; exact own_end N _
  have q2 := lcD_on (M := N ++ [.lst (acc.map .str)]) (ρ := [some (.own 1), many, some (.own (R.length + 2)), x3, some (.str s), some (.lst ((s :: spare s).map .str)), none, none]) (T := .one 7) (ft := dTst (dBin gNotIn (dVar 7) (dVar 2))) (fe := dVar 7) (ws := [7]) (inj := D.str) (p := fun z => !decide (z ∈ acc)) (f := .str) (xs := s :: spare s) fun z hz =>
    ⟨[some (.own 1), many, some (.own (R.length + 2)), x3, some (.str s), some (.lst ((s :: spare s).map .str)), none, some (.str z)], rfl, by
      have g := gIn_owns (neg := true) hM (hlt z hz).ok fun y hy => (ha y hy).ok
      simp only [if_true] at g
      simp only [dTst_eq, dBin_eq, dVar_s, dVar_0, bind_ok, g, ofO_some', asB_bl], fun _ => rfl⟩
  obtain ⟨z0, hz0, hz1'⟩ := php (l1 := spare s) (l2 := acc) (spare_nd s) (by rw [spare_len]; omega)
  obtain ⟨z, r, hf⟩ : ∃ z r, (s :: spare s).filter (fun z => !decide (z ∈ acc)) = z :: r := by
    cases hq : (s :: spare s).filter (fun z => !decide (z ∈ acc)) with
    | cons z r => exact ⟨z, r, rfl⟩
    | nil =>
      have : z0 ∈ (s :: spare s).filter (fun z => !decide (z ∈ acc)) := List.mem_filter.2 ⟨List.mem_cons_of_mem _ hz0, by simp [hz1']⟩
      rw [hq] at this
      cases this
  have hzm : z ∈ (s :: spare s).filter (fun z => !decide (z ∈ acc)) := by rw [hf]; exact List.mem_cons_self
  obtain ⟨hz2, hz3⟩ := List.mem_filter.1 hzm
  rw [hf] at q2
  have hz4 : ((z :: r).map D.str).length ≤ sizeLine := szl (by
    have := List.length_filter_le (fun z => !decide (z ∈ acc)) (s :: spare s)
    rw [hf, List.length_cons (as := spare s), spare_len] at this
    rw [List.length_map]; omega)
  have hap : kMt gApp (.own (R.length + 2)) [.str z] (N ++ [.lst (acc.map .str)]) = .ok .non (N ++ [.lst (acc.map .str ++ [.str z])]) := by
    rw [← hN]
    exact app_end N (acc.map .str) (.str z) (by rw [List.length_map, sizeLine_eq]; omega)
  have hlo : lstOf (N ++ [.lst (acc.map .str)]) (.own (R.length + 2)) = some (acc.map .str) := by rw [← hN]; exact lst_end N _
  have hix : gIx (N ++ [.lst (acc.map .str)]) (.lst ((z :: r).map .str)) (.int 0) = some (.str z) := by
    show atI ((z :: r).map D.str) 0 = _
    unfold atI
    rw [ixN_nn (by decide) (by rw [List.length_map, List.length_cons]; omega)]
    rfl
  have s1 : (1 : Nat) ≤ sizeLine := szl (by decide)
  have hch : chrs ("kQ7.zA0mB2cX" : Str) = mks.cps.toList.map (fun c : Nat => D.str ⟨#[c]⟩) := rfl
  refine ⟨z, some (.str s), some (.lst ((s :: spare s).map .str)), N ++ [.lst ((acc ++ [z]).map .str)], ?_, hlt z hz2, by simpa using hz3, by exact hv _⟩
  rw [sgB, sSq_eq, sSet_eq, dCallF_eq]
  simp only [dCons_eq, dVar_0, bind_ok, dNil_eq, e1, thn_ok, List.set_cons_succ, List.set_cons_zero, seq_nx]
  rw [sSq_eq, sSet_eq, dBin_eq, dLst_eq]
  simp only [dCons_eq, dVar_s, dVar_0, bind_ok, dNil_eq, List.length_cons, List.length_nil, s1, if_true, fLc_eq, iStr'_eq, dC_eq, kStr'_str, lcI_fix, hch, q1, kLc_f, if_pos hz1, gadd, ofO_some', thn_ok, List.set_cons_succ, List.set_cons_zero, seq_nx]
  rw [sEx_eq, dMt_own]
  simp only [dVar_s, dVar_0, bind_ok, hlo]
  rw [dCons_eq, dBin_eq]
  simp only [fLc_eq, iAny_eq, dVar_s, dVar_0, bind_ok, kAny_lst, lcI_fix, q2, kLc_f, if_pos hz4, dC_eq, hix, ofO_some', dNil_eq, hap, thn_ok]
  rw [List.map_append]
  rfl
theorem sg_loop {R : Sto} (many : Option D) : ∀ (k : Nat) (i n : Int) (acc : List Str) (x3 x4 x5 : Option D) (M : Sto), Dv n (R ++ [.lst (acc.map .str)]) M → n + 13 * k < 900000 → (∀ s ∈ acc, Lt s) → acc.Nodup → acc.length + k ≤ 10 →
    ∃ (acc' : List Str) (y3 y4 y5 : Option D) (M' : Sto), forD (gNm 3) sgB (intUp i k) [some (.own 1), many, some (.own (R.length + 2)), x3, x4, x5, none, none] M = .nx [some (.own 1), many, some (.own (R.length + 2)), y3, y4, y5, none, none] M' ∧ (∀ s ∈ acc', Lt s) ∧ acc'.Nodup ∧ acc'.length = acc.length + k ∧ Dv (n + 13 * k) (R ++ [.lst (acc'.map .str)]) M'
  | 0, i, n, acc, x3, x4, x5, M, v, _, h1, h2, _ => ⟨acc, x3, x4, x5, M, rfl, h1, h2, rfl, v.mono (by simp)⟩
  | k + 1, i, n, acc, x3, x4, x5, M, v, hn, h1, h2, h3 => by
    obtain ⟨s, a4, a5, M1, e1, hs, hn1, v1⟩ := sg_step v (by omega) h1 (by omega) many (some (.int i)) x4 x5
    obtain ⟨acc', y3, y4, y5, M2, e2, g1, g2, g3, v2⟩ := sg_loop many k (i + 1) (n + 13) (acc ++ [s]) (some (.int i)) a4 a5 M1 v1 (by omega) (fun z hz => by
      rcases List.mem_append.1 hz with hz | hz
      · exact h1 z hz
      · rw [List.mem_singleton.1 hz]; exact hs) (List.nodup_append.2 ⟨h2, by simp, fun a ha b hb => by
        rw [List.mem_singleton.1 hb]
        exact fun e => hn1 (e ▸ ha)⟩) (by rw [List.length_append, List.length_singleton]; omega)
    refine ⟨acc', y3, y4, y5, M2, ?_, g1, g2, by rw [g3, List.length_append, List.length_singleton]; omega, v2.mono (by push_cast; omega)⟩
    rw [intUp, forD_cons, stp_nm]
    show (sgB [some (.own 1), many, some (.own (R.length + 2)), some (.int i), x4, x5, none, none] M).aft (forD (gNm 3) sgB (intUp (i + 1) k)) = _
    rw [e1, aft_nx, e2]
theorem sortBy_str (l : List Str) : sortBy (l.map .str) (l.map PyData.str) = (sortT l).map .str := by
  unfold sortBy sortT
  have e : (l.map D.str).zip (l.map PyData.str) = l.map fun s => (D.str s, PyData.str s) := by
    induction l with
    | nil => rfl
    | cons x l ih => rw [List.map_cons, List.map_cons, List.zip_cons_cons, ih]; rfl
  rw [e]
  have h := List.map_mergeSort (r := txLe) (s := PySem.W.dataLe false fun b : D × PyData => b.2) (f := fun s => (D.str s, PyData.str s)) (l := l) fun a _ b _ => rfl
  rw [← h, List.map_map]
  rfl
theorem gSorted_own {M : Sto} {n : Nat} {l : List Str} (hn : M[n]? = some (.lst (l.map .str))) (hl : l.length ≤ 1000) : gSorted M [.own n] = some (.lst ((sortT l).map .str)) := by
  have h1 : lstOf M (.own n) = some (l.map .str) := by
    show (match M[n]? with | some (.lst ds) => some ds | _ => none) = _
    rw [hn]
  have h2 : sortOk (l.map PyData.str) = true := by
    unfold sortOk
    simp [List.all_eq_true, PySem.W.alike, PyData.depth]
  have h3 : (l.map D.str).length ≤ sizeLine := szl (by rw [List.length_map]; exact hl)
  show (match lstOf M (.own n) with
    | some ds => match toPys M ds with
      | some es => if sortOk es = true ∧ ds.length ≤ sizeLine then some (D.lst (sortBy ds es)) else none
      | none => none
    | none => none) = _
  rw [h1]
  simp only [toPys_str, h2, h3, and_self, if_true, sortBy_str]
theorem law_signs {n k : Int} {R M : Sto} (h : Dv n R M) (hn : n < 800000) (k0 : 1 ≤ k) (k1 : k ≤ 10) : ∃ ls J M', F__law_signs [.own 1, .int k] M = .ok (tS ls) M' ∧ Ls ls ∧ (ls.length : Int) = k ∧ Dv (n + 13 * k) (R ++ J) M' := by
  have hM := h.len
  have hr : ∀ M1, kRg1 [.int k] M1 = .ok (IT.fix (intUp 0 k.toNat)) M1 := fun M1 => kRg1_int (small_of (by omega) (by omega))
  have s0 : (0 : Nat) ≤ sizeLine := szl (by decide)
  obtain ⟨acc, y3, y4, y5, M2, e, g1, g2, g3, v⟩ := sg_loop (R := R) (some (.int k)) k.toNat 0 n [] none none none (M ++ [.lst []]) (h.app _) (by omega) (fun s hs => by cases hs) List.nodup_nil (by simp; omega)
  simp only [List.length_nil, Nat.zero_add] at g3
  obtain ⟨N, rfl, hN, _⟩ := v.last
  have hg := gSorted_own (M := N ++ [.lst (acc.map .str)]) (n := R.length + 2) (l := acc) (by rw [← hN]; exact own_end N _) (by omega)
  have hL : Ls (sortT acc) := ⟨fun s hs => g1 s (mem_sortT.1 hs), nodup_sortT g2, sortT_sortT acc, by rw [len_sortT]; omega, by rw [len_sortT]; omega⟩
  refine ⟨sortT acc, _, _, ?_, hL, by rw [len_sortT]; omega, v.mono (by omega)⟩
  unfold sgB at e
  rw [F__law_signs, fnD_eq]
  show outR (b__law_signs [some (.own 1), some (.int k), none, none, none, none, none, none] M) = _
  rw [b__law_signs, sSq_eq, sSet_eq, dLstO_eq, dNil_eq, bind_ok, List.length_nil, if_pos s0]
  simp only [thn_ok, List.set_cons_succ, List.set_cons_zero, seq_nx]
  rw [sSq_eq, sFor_eq, iRg1_eq]
  simp only [dCons_eq, dVar_s, dVar_0, dNil_eq, bind_ok, hr, thn_ok, forI_fix, hM]
  rw [e, seq_nx]
  simp only [sRt_eq, dCallB_eq, dCons_eq, dVar_s, dVar_0, bind_ok, dNil_eq, hg, ofO_some']
  rfl
theorem mvs_of {n : Nat} : ∀ {es : List D}, (∀ e ∈ es, ∃ m, e = mvD m ∧ MvOk n m) → ∃ r : List Mv, es = r.map mvD ∧ ∀ m ∈ r, MvOk n m
  | [], _ => ⟨[], rfl, fun c hc => by cases hc⟩
  | e :: es, h => by
    obtain ⟨c, rfl, h1⟩ := h e List.mem_cons_self
    obtain ⟨cs, rfl, h2⟩ := mvs_of fun x hx => h x (List.mem_cons_of_mem _ hx)
    exact ⟨c :: cs, rfl, fun x hx => by
      rcases List.mem_cons.1 hx with rfl | hx
      · exact h1
      · exact h2 x hx⟩
theorem strs_of {p : Str → Prop} : ∀ {es : List D}, (∀ e ∈ es, ∃ s, e = .str s ∧ p s) → ∃ ws : List Str, es = ws.map .str ∧ ∀ s ∈ ws, p s
  | [], _ => ⟨[], rfl, fun c hc => by cases hc⟩
  | e :: es, h => by
    obtain ⟨c, rfl, h1⟩ := h e List.mem_cons_self
    obtain ⟨cs, rfl, h2⟩ := strs_of fun x hx => h x (List.mem_cons_of_mem _ hx)
    exact ⟨c :: cs, rfl, fun x hx => by
      rcases List.mem_cons.1 hx with rfl | hx
      · exact h1
      · exact h2 x hx⟩
theorem up_len (i : Int) (k : Nat) : (intUp i k).length = k := by rw [intUp_range, List.length_map, List.length_range]
noncomputable def grB : FS := sEx (dMt gApp (dVar 4) (dCons (dCallB gTuple (dCons (fLc false (iRg1 (dCons (dVar 2) (dNil))) (.one 6) (dYes) (dTup (dCons (dCallF F__law_take (dCons (dVar 0) (dCons (dVar 1) (dNil)))) (dCons (dCallF F__law_cost (dCons (dVar 0) (dCons (dVar 3) (dNil)))) (dCons (dCallF F__law_cost (dCons (dVar 0) (dCons (dVar 3) (dNil)))) (dNil))))) [6]) (dNil))) (dNil)))
theorem gr_step {n many wide pk : Int} {R M : Sto} {acc : List (List Mv)} (h : Dv n (R ++ [.lst (acc.map rowD)]) M) (hn : n < 700000) (m0 : 1 ≤ many) (m1 : many ≤ 120) (w0 : 0 ≤ wide) (w1 : wide ≤ 100) (p0 : 0 ≤ pk) (p1 : pk ≤ 999) (hl : acc.length ≤ 200) (x5 : Option D) :
    ∃ r M', grB [some (.own 1), some (.int many), some (.int wide), some (.int pk), some (.own (R.length + 2)), x5, none] M = .nx [some (.own 1), some (.int many), some (.int wide), some (.int pk), some (.own (R.length + 2)), x5, none] M' ∧ r.length = wide.toNat ∧ (∀ m ∈ r, MvOk many.toNat m) ∧ Dv (n + 3 * wide) (R ++ [.lst ((acc ++ [r]).map rowD)]) M' := by
  have hr : ∀ M1, kRg1 [.int wide] M1 = .ok (IT.fix (intUp 0 wide.toNat)) M1 := fun M1 => kRg1_int (small_of (by omega) (by omega))
  have hl' : ((intUp 0 wide.toNat).length : Int) = wide := by rw [up_len]; omega
  have s3 : (3 : Nat) ≤ sizeLine := szl (by decide)
  obtain ⟨es, M2, e2, l2, p2, v2⟩ := lc_draw (T := .one 6) (fe := dTup (dCons (dCallF F__law_take (dCons (dVar 0) (dCons (dVar 1) (dNil)))) (dCons (dCallF F__law_cost (dCons (dVar 0) (dCons (dVar 3) (dNil)))) (dCons (dCallF F__law_cost (dCons (dVar 0) (dCons (dVar 3) (dNil)))) (dNil))))) (ws := [6]) (ρ := [some (.own 1), some (.int many), some (.int wide), some (.int pk), some (.own (R.length + 2)), x5, none])
    (P := fun e => ∃ m, e = mvD m ∧ MvOk many.toNat m) (R := R ++ [.lst (acc.map rowD)]) 3 (by decide) 900000 (intUp 0 wide.toNat) n M h (by rw [hl']; omega) (fun x _ m N v hm => by
      obtain ⟨a, N1, e1, a0, a1, v1⟩ := tk many v (by omega) (by omega) (by omega)
      obtain ⟨b, N2, e2, b0, b1, v2⟩ := law_cost v1 (by omega) p0 p1
      obtain ⟨c, N3, e3, c0, c1, v3⟩ := law_cost v2 (by omega) p0 p1
      refine ⟨[some (.own 1), some (.int many), some (.int wide), some (.int pk), some (.own (R.length + 2)), x5, some x], rfl, mvD (a, b, c), N3, ?_, ⟨(a, b, c), rfl, ⟨a0, by show a < (many.toNat : Int); omega, by show -999 ≤ b; omega, by show b ≤ 999; omega, by show -999 ≤ c; omega, by show c ≤ 999; omega⟩⟩, v3.mono (by omega)⟩
      rw [dTup_eq]
      simp only [dCons_eq, dCallF_eq, dVar_0, dVar_s, bind_ok, dNil_eq, e1, e2, e3, List.length_cons, List.length_nil, s3, if_true])
  obtain ⟨r, rfl, hr2⟩ := mvs_of p2
  rw [List.length_map, up_len] at l2
  obtain ⟨N, rfl, hN, hv⟩ := v2.last
  have hM := h.len
  have hlo : lstOf M (.own (R.length + 2)) = some (acc.map rowD) := by
    obtain ⟨N', rfl, hN', _⟩ := h.last
    rw [← hN']
    exact lst_end N' _
  have hap : kMt gApp (.own (R.length + 2)) [rowD r] (N ++ [.lst (acc.map rowD)]) = .ok .non (N ++ [.lst (acc.map rowD ++ [rowD r])]) := by
    rw [← hN]
    exact app_end N (acc.map rowD) (rowD r) (by rw [List.length_map, sizeLine_eq]; omega)
  have hz : (r.map mvD).length ≤ sizeLine := szl (by rw [List.length_map]; omega)
  have ht : ∀ M, gTuple M [.lst (r.map mvD)] = some (rowD r) := fun M => rfl
  refine ⟨r, _, ?_, l2, hr2, (hv (.lst ((acc ++ [r]).map rowD))).mono (by rw [hl']; omega)⟩
  rw [grB, sEx_eq, dMt_own]
  simp only [dVar_s, dVar_0, bind_ok, hlo]
  rw [dCons_eq, dCallB_eq, dCons_eq, fLc_eq, iRg1_eq]
  simp only [dCons_eq, dVar_s, dVar_0, bind_ok, dNil_eq, hr, lcI_fix]
  rw [e2]
  simp only [kLc_f, if_pos hz, bind_ok, ht, ofO_some', hap, thn_ok]
  rw [List.map_append]
  rfl
theorem gr_loop {many wide pk : Int} {R : Sto} (m0 : 1 ≤ many) (m1 : many ≤ 120) (w0 : 0 ≤ wide) (w1 : wide ≤ 100) (p0 : 0 ≤ pk) (p1 : pk ≤ 999) : ∀ (k : Nat) (i n : Int) (acc : List (List Mv)) (x5 : Option D) (M : Sto), Dv n (R ++ [.lst (acc.map rowD)]) M → n + 300 * k < 700000 → (∀ r ∈ acc, r.length = wide.toNat ∧ ∀ m ∈ r, MvOk many.toNat m) → acc.length + k ≤ 200 →
    ∃ (acc' : List (List Mv)) (y5 : Option D) (M' : Sto), forD (gNm 5) grB (intUp i k) [some (.own 1), some (.int many), some (.int wide), some (.int pk), some (.own (R.length + 2)), x5, none] M = .nx [some (.own 1), some (.int many), some (.int wide), some (.int pk), some (.own (R.length + 2)), y5, none] M' ∧ (∀ r ∈ acc', r.length = wide.toNat ∧ ∀ m ∈ r, MvOk many.toNat m) ∧ acc'.length = acc.length + k ∧ Dv (n + 300 * k) (R ++ [.lst (acc'.map rowD)]) M'
  | 0, i, n, acc, x5, M, v, _, h1, _ => ⟨acc, x5, M, rfl, h1, rfl, v.mono (by simp)⟩
  | k + 1, i, n, acc, x5, M, v, hn, h1, h3 => by
    obtain ⟨r, M1, e1, hr, hm, v1⟩ := gr_step v (by omega) m0 m1 w0 w1 p0 p1 (by omega) (some (.int i))
    obtain ⟨acc', y5, M2, e2, g1, g3, v2⟩ := gr_loop m0 m1 w0 w1 p0 p1 k (i + 1) (n + 300) (acc ++ [r]) (some (.int i)) M1 (v1.mono (by omega)) (by omega) (fun z hz => by
      rcases List.mem_append.1 hz with hz | hz
      · exact h1 z hz
      · rw [List.mem_singleton.1 hz]; exact ⟨hr, hm⟩) (by rw [List.length_append, List.length_singleton]; omega)
    refine ⟨acc', y5, M2, ?_, g1, by rw [g3, List.length_append, List.length_singleton]; omega, v2.mono (by push_cast; omega)⟩
    rw [intUp, forD_cons, stp_nm]
    show (grB [some (.own 1), some (.int many), some (.int wide), some (.int pk), some (.own (R.length + 2)), some (.int i), none] M).aft (forD (gNm 5) grB (intUp (i + 1) k)) = _
    rw [e1, aft_nx, e2]
theorem law_grid {n many wide pk : Int} {R M : Sto} (h : Dv n R M) (hn : n < 600000) (m0 : 1 ≤ many) (m1 : many ≤ 120) (w0 : 0 ≤ wide) (w1 : wide ≤ 100) (p0 : 0 ≤ pk) (p1 : pk ≤ 999) :
    ∃ g J M', F__law_grid [.own 1, .int many, .int wide, .int pk] M = .ok (gridD g) M' ∧ Gd wide.toNat g ∧ (g.length : Int) = many ∧ Dv (n + 300 * many) (R ++ J) M' := by
  have hM := h.len
  have hr : ∀ M1, kRg1 [.int many] M1 = .ok (IT.fix (intUp 0 many.toNat)) M1 := fun M1 => kRg1_int (small_of (by omega) (by omega))
  have s0 : (0 : Nat) ≤ sizeLine := szl (by decide)
  obtain ⟨g, y5, M2, e, g1, g3, v⟩ := gr_loop (R := R) m0 m1 w0 w1 p0 p1 many.toNat 0 n [] none (M ++ [.lst []]) (h.app _) (by omega) (fun s hs => by cases hs) (by simp; omega)
  simp only [List.length_nil, Nat.zero_add] at g3
  obtain ⟨N, rfl, hN, _⟩ := v.last
  have ht : gTuple (N ++ [.lst (g.map rowD)]) [.own (R.length + 2)] = some (gridD g) := by
    show (lstOf (N ++ [.lst (g.map rowD)]) (.own (R.length + 2))).map D.tup = _
    rw [← hN, lst_end]
    rfl
  refine ⟨g, _, _, ?_, ⟨fun r hr => (g1 r hr).1, fun r hr => by rw [g3]; exact (g1 r hr).2, by omega, by omega⟩, by omega, v.mono (by omega)⟩
  unfold grB at e
  rw [F__law_grid, fnD_eq]
  show outR (b__law_grid [some (.own 1), some (.int many), some (.int wide), some (.int pk), none, none, none] M) = _
  rw [b__law_grid, sSq_eq, sSet_eq, dLstO_eq, dNil_eq, bind_ok, List.length_nil, if_pos s0]
  simp only [thn_ok, List.set_cons_succ, List.set_cons_zero, seq_nx]
  rw [sSq_eq, sFor_eq, iRg1_eq]
  simp only [dCons_eq, dVar_s, dVar_0, dNil_eq, bind_ok, hr, thn_ok, forI_fix, hM]
  rw [e, seq_nx]
  simp only [sRt_eq, dCallB_eq, dCons_eq, dVar_s, dVar_0, bind_ok, dNil_eq, ht, ofO_some']
  rfl
/-- letters drawn of the letters -/
theorem draw_letters {ls : List Str} (hl : Ls ls) {n : Int} {R M : Sto} (ρ : DL.Env) (i : Nat) (k : Nat) (h : Dv n R M) (hn : n + k < 900000) (h0 : ∀ (x : D) (M : Sto), dVar 0 ((wipeE ρ [i]).set i (some x)) M = .ok (.own 1) M) (h1 : ∀ (x : D) (M : Sto), dVar 1 ((wipeE ρ [i]).set i (some x)) M = .ok (tS ls) M) :
    ∃ (ws : List Str) (M' : Sto), lcD (.one i) dYes (dCallF F__law_pick (dCons (dVar 0) (dCons (dVar 1) (dNil)))) [i] ρ (intUp 0 k) M = .ok (ws.map .str) M' ∧ ws.length = k ∧ (∀ s ∈ ws, s ∈ ls) ∧ Dv (n + k) R M' := by
  have hne : ls.map D.str ≠ [] := fun z => by
    have e := congrArg List.length z
    rw [List.length_map] at e
    have e1 := hl.n0
    have e0 : ([] : List D).length = 0 := rfl
    omega
  obtain ⟨es, M2, e2, l2, p2, v2⟩ := lc_draw (T := .one i) (fe := dCallF F__law_pick (dCons (dVar 0) (dCons (dVar 1) (dNil)))) (ws := [i]) (ρ := ρ) (P := fun e => ∃ s, e = .str s ∧ s ∈ ls) (R := R) 1 (by decide) 900000 (intUp 0 k) n M h (by rw [up_len]; omega) (fun x _ m N v hm => by
    obtain ⟨d, N', e, hd, v'⟩ := pick_tup (ds := ls.map D.str) v (by omega) hne (by rw [List.length_map]; have := hl.n1; omega)
    obtain ⟨s, hs, rfl⟩ := List.mem_map.1 hd
    exact ⟨_, rfl, _, N', by rw [dCallF_eq, dCons_eq, h0, bind_ok, dCons_eq, h1]; simp only [bind_ok, dNil_eq]; exact e, ⟨s, rfl, hs⟩, v'⟩)
  obtain ⟨ws, rfl, hw⟩ := strs_of p2
  rw [List.length_map, up_len] at l2
  exact ⟨ws, M2, e2, l2, hw, v2.mono (by rw [up_len]; omega)⟩
theorem law_text {ls : List Str} (hl : Ls ls) {n : Int} {R M : Sto} (h : Dv n R M) (hn : n < 600000) : ∃ ws M', F__law_text [.own 1, tS ls] M = .ok (tS ws) M' ∧ (∀ s ∈ ws, s ∈ ls) ∧ ws.length ≤ 2000 ∧ Dv (n + 100) R M' := by
  obtain ⟨a, M1, e1, a0, a1, v1⟩ := tk 12 h (by omega) (by decide) (by decide)
  have run : F__law_text [.own 1, tS ls] M = outR (b__law_text [some (.own 1), some (tS ls), none, none, none] M) := by rw [F__law_text, fnD_eq]; rfl
  by_cases ha : a = 0
  · obtain ⟨b, M2, e2, b0, b1, v2⟩ := tk 3 v1 (by omega) (by decide) (by decide)
    have hr : ∀ M1, kRg1 [.int (1 + b)] M1 = .ok (IT.fix (intUp 0 (1 + b).toNat)) M1 := fun M1 => kRg1_int (small_of (by omega) (by omega))
    obtain ⟨ws, M3, e3, l3, hw, v3⟩ := draw_letters hl [some (.own 1), some (tS ls), none, none, none] 4 (1 + b).toNat v2 (by omega) (fun x M => rfl) (fun x M => rfl)
    have hz : (ws.map D.str).length ≤ sizeLine := szl (by rw [List.length_map]; omega)
    have hmul : gMul M3 (.lst (ws.map .str)) (.int 2000) = some (.lst (List.replicate 2000 (ws.map D.str)).flatten) := by
      have : gMul M3 (.lst (ws.map .str)) (.int 2000) = if -(2 ^ 63) ≤ (2000 : Int) ∧ (2000 : Int) < 2 ^ 63 ∧ (ws.map D.str).length * (2000 : Int).toNat ≤ sizeLine then some (.lst (List.replicate (2000 : Int).toNat (ws.map D.str)).flatten) else none := rfl
      rw [this, if_pos ⟨by decide, by decide, by rw [List.length_map, sizeLine_eq]; show ws.length * 2000 ≤ _; omega⟩]
      rfl
    have hfl : (List.replicate 2000 (ws.map D.str)).flatten = ((List.replicate 2000 ws).flatten).map D.str := by rw [List.map_flatten, List.map_replicate]
    have hlen : ((List.replicate 2000 ws).flatten).length = 2000 * ws.length := by rw [List.length_flatten, List.map_replicate, List.sum_replicate_nat]
    have hcut : gSl M3 (.lst (((List.replicate 2000 ws).flatten).map D.str)) none (some 2000) = some (.lst ((((List.replicate 2000 ws).flatten).take 2000).map D.str)) := by
      rw [gSl_l0 (ds := ((List.replicate 2000 ws).flatten).map D.str) (Eq.refl _)]
      have := cut_to (((List.replicate 2000 ws).flatten).map D.str) 2000 (by rw [List.length_map, hlen]; omega)
      rw [show (some (2000 : Int)) = some ((2000 : Nat) : Int) from rfl, this, List.map_take]
    refine ⟨((List.replicate 2000 ws).flatten).take 2000, M3, ?_, fun s hs => ?_, by rw [List.length_take]; omega, v3.mono (by omega)⟩
    · rw [run, b__law_text, sSq_eq, sIf_eq, dTst_eq, dBin_eq, dCallF_eq]
      simp only [dCons_eq, dVar_0, bind_ok, dC_eq, dNil_eq, e1, ofO_some', gEq_int, ha, decide_true, asB_bl, thn_ok, if_true]
      rw [sSq_eq, sSet_eq, fLc_eq, iRg1_eq]
      simp only [dCons_eq, dBin_eq, dCallF_eq, dVar_0, bind_ok, dC_eq, dNil_eq, e2, gAdd_int, ofO_some', hr, lcI_fix, e3, kLc_f, if_pos hz, thn_ok, List.set_cons_succ, List.set_cons_zero, seq_nx, sRt_eq, dCallB_eq, dSl_eq, dVar_s, hmul, hfl, dNoPart_eq, dPart_eq, hcut]
      rfl
    · have := List.mem_of_mem_take hs
      obtain ⟨l, h1, h2⟩ := List.mem_flatten.1 this
      rw [List.eq_of_mem_replicate h1] at h2
      exact hw s h2
  · obtain ⟨d, M2, e2, hd, v2⟩ := pick (ds := [.int 1, .int 2, .int 4, .int 8, .int 61]) v1 (by omega) (by simp) (by simp)
    obtain ⟨w, rfl, w0, w1⟩ : ∃ w, d = .int w ∧ 1 ≤ w ∧ w ≤ 61 := by
      simp at hd
      rcases hd with rfl | rfl | rfl | rfl | rfl <;> exact ⟨_, rfl, by decide, by decide⟩
    obtain ⟨b, M3, e3, b0, b1, v3⟩ := tk w v2 (by omega) (by omega) (by omega)
    have hr : ∀ M1, kRg1 [.int b] M1 = .ok (IT.fix (intUp 0 b.toNat)) M1 := fun M1 => kRg1_int (small_of (by omega) (by omega))
    obtain ⟨ws, M4, e4, l4, hw, v4⟩ := draw_letters hl [some (.own 1), some (tS ls), none, some (.int b), none] 4 b.toNat v3 (by omega) (fun x M => rfl) (fun x M => rfl)
    have hz : (ws.map D.str).length ≤ sizeLine := szl (by rw [List.length_map]; omega)
    have s5 : (5 : Nat) ≤ sizeLine := szl (by decide)
    refine ⟨ws, M4, ?_, hw, by omega, v4.mono (by omega)⟩
    rw [run, b__law_text, sSq_eq, sIf_eq, dTst_eq, dBin_eq, dCallF_eq]
    simp only [dCons_eq, dVar_0, bind_ok, dC_eq, dNil_eq, e1, ofO_some', gEq_int, ha, decide_false, asB_bl, thn_ok, Bool.false_eq_true, if_false, sNx_eq, seq_nx]
    rw [sSq_eq, sSet_eq, dCallF_eq]
    simp only [dCons_eq, dVar_0, bind_ok, dC_eq, dNil_eq, dCallF_eq, dLst_eq, List.length_cons, List.length_nil, s5, if_true, e2, e3, thn_ok, List.set_cons_succ, List.set_cons_zero, seq_nx]
    rw [sRt_eq, dCallB_eq, dCons_eq, fLc_eq, iRg1_eq]
    simp only [dCons_eq, dVar_s, dVar_0, bind_ok, dNil_eq, hr, lcI_fix, e4, kLc_f, if_pos hz]
    rfl
noncomputable def wnB : FS := sSq (sSet 7 (dBin gIx (dBin gIx (dVar 1) (dVar 2)) (dTm gTIx (dVar 0) (dCons (dVar 6) (dNil))))) (sPar3 2 4 5 (dBin gIx (dVar 7) (dC (.int 0))) (dBin gAdd (dVar 4) (dBin gIx (dVar 7) (dC (.int 1)))) (dBin gAdd (dVar 5) (dBin gIx (dVar 7) (dC (.int 2)))))
theorem went_loop {ls : List Str} {g : List (List Mv)} (hg : Gd ls.length g) (M : Sto) (d : D) : ∀ (ws : List Str) (t : St3) (x6 x7 : Option D), (∀ s ∈ ws, s ∈ ls) → 0 ≤ t.1 → t.1 < g.length →
    ∃ y6 y7, forD (gNm 6) wnB (ws.map .str) [some (tS ls), some (gridD g), some (.int t.1), some d, some (.int t.2.1), some (.int t.2.2), x6, x7] M = .nx [some (tS ls), some (gridD g), some (.int (goes ls g ws t).1), some d, some (.int (goes ls g ws t).2.1), some (.int (goes ls g ws t).2.2), y6, y7] M
  | [], t, x6, x7, _, _, _ => ⟨x6, x7, rfl⟩
  | s :: ws, t, x6, x7, hw, h0, h1 => by
    obtain ⟨r, e1, e2, m1, m2, _⟩ := mv_at hg h0 h1 (hw s List.mem_cons_self)
    obtain ⟨y6, y7, e⟩ := went_loop hg M d ws ((mvAt ls g t.1 s).1, t.2.1 + (mvAt ls g t.1 s).2.1, t.2.2 + (mvAt ls g t.1 s).2.2) (some (.str s)) (some (mvD (mvAt ls g t.1 s))) (fun z hz => hw z (List.mem_cons_of_mem _ hz)) m1 m2
    refine ⟨y6, y7, ?_⟩
    have i0 : ∀ m : Mv, gIx M (mvD m) (.int 0) = some (.int m.1) := fun m => rfl
    have i1 : ∀ m : Mv, gIx M (mvD m) (.int 1) = some (.int m.2.1) := fun m => rfl
    have i2 : ∀ m : Mv, gIx M (mvD m) (.int 2) = some (.int m.2.2) := fun m => rfl
    rw [List.map_cons, forD_cons, stp_nm]
    have q : wnB [some (tS ls), some (gridD g), some (.int t.1), some d, some (.int t.2.1), some (.int t.2.2), some (.str s), x7] M = .nx [some (tS ls), some (gridD g), some (.int (mvAt ls g t.1 s).1), some d, some (.int (t.2.1 + (mvAt ls g t.1 s).2.1)), some (.int (t.2.2 + (mvAt ls g t.1 s).2.2)), some (.str s), some (mvD (mvAt ls g t.1 s))] M := by
      rw [wnB]
      simp only [sSq_eq, sSet_eq, dBin_eq, dVar_s, dVar_0, bind_ok, ix_row h0 h1 e1, ofO_some', dTm_eq, isTp_tup, if_true, dCons_eq, dNil_eq, gTIx_txt (hw s List.mem_cons_self), ix_mv e2, thn_ok, List.set_cons_succ, List.set_cons_zero, seq_nx, sPar3_eq, dC_eq, i0, i1, i2, gAdd_int]
    show (wnB [some (tS ls), some (gridD g), some (.int t.1), some d, some (.int t.2.1), some (.int t.2.2), some (.str s), x7] M).aft (forD (gNm 6) wnB (ws.map .str)) = _
    rw [q, aft_nx, e]
    rfl
theorem law_went {ls : List Str} {g : List (List Mv)} (hg : Gd ls.length g) {i : Int} (h0 : 0 ≤ i) (h1 : i < g.length) {ws : List Str} (hw : ∀ s ∈ ws, s ∈ ls) (M : Sto) : F__law_went [tS ls, gridD g, .int i, tS ws] M = .ok (rs (goes ls g ws (i, 0, 0))) M := by
  obtain ⟨y6, y7, e⟩ := went_loop hg M (tS ws) ws (i, 0, 0) none none hw h0 h1
  have s2 : (2 : Nat) ≤ sizeLine := szl (by decide)
  unfold wnB at e
  rw [F__law_went, fnD_eq]
  show outR (b__law_went [some (tS ls), some (gridD g), some (.int i), some (tS ws), none, none, none, none] M) = _
  rw [b__law_went]
  simp only [sSq_eq, sAs_eq, dTup_eq, dCons_eq, dNil_eq, dC_eq, bind_ok, List.length_cons, List.length_nil, s2, if_true, thn_ok, gTp_tup, gsCons_nm, gsNil_eq, List.set_cons_succ, List.set_cons_zero, ofO_so, seq_nx, sFor_eq, iAny_eq, dVar_s, dVar_0, kAny_tup, forI_fix, e, sRt_eq, outR_rt]
def strg : List Str := ["a", "Z", "0", "b.", "k9"]
theorem strg_ok : ∀ z ∈ strg, PyData.strOk z = true := by decide +kernel
theorem strg_nd : strg.Nodup := by decide +kernel
theorem law_strange {ls : List Str} (hl : Ls ls) (h4 : ls.length ≤ 4) (M : Sto) : ∃ z, F__law_strange [tS ls] M = .ok (.str z) M ∧ z ∉ ls ∧ PyData.strOk z = true := by
  have s5 : (5 : Nat) ≤ sizeLine := szl (by decide)
  have q := lcD_on (M := M) (ρ := [some (tS ls), none]) (T := .one 1) (ft := dTst (dBin gNotIn (dVar 1) (dVar 0))) (fe := dVar 1) (ws := [1]) (inj := D.str) (p := fun z => !decide (z ∈ ls)) (f := .str) (xs := strg) fun z hz =>
    ⟨[some (tS ls), some (.str z)], rfl, by
      have g := gIn_tups (M := M) (neg := true) (strg_ok z hz) hl.ok
      simp only [if_true] at g
      simp only [dTst_eq, dBin_eq, dVar_s, dVar_0, bind_ok, g, ofO_some', asB_bl], fun _ => rfl⟩
  obtain ⟨z0, hz0, hz1⟩ := php (l1 := strg) (l2 := ls) strg_nd (by show ls.length < 5; omega)
  obtain ⟨z, r, hf⟩ : ∃ z r, strg.filter (fun z => !decide (z ∈ ls)) = z :: r := by
    cases hq : strg.filter (fun z => !decide (z ∈ ls)) with
    | cons z r => exact ⟨z, r, rfl⟩
    | nil =>
      have : z0 ∈ strg.filter (fun z => !decide (z ∈ ls)) := List.mem_filter.2 ⟨hz0, by simp [hz1]⟩
      rw [hq] at this
      cases this
  have hzm : z ∈ strg.filter (fun z => !decide (z ∈ ls)) := by rw [hf]; exact List.mem_cons_self
  obtain ⟨hz2, hz3⟩ := List.mem_filter.1 hzm
  rw [hf] at q
  have hz4 : ((z :: r).map D.str).length ≤ sizeLine := szl (by
    have := List.length_filter_le (fun z => !decide (z ∈ ls)) strg
    rw [hf] at this
    rw [List.length_map]
    have : strg.length = 5 := rfl
    omega)
  have hix : gIx M (.lst ((z :: r).map .str)) (.int 0) = some (.str z) := by
    show atI ((z :: r).map D.str) 0 = _
    unfold atI
    rw [ixN_nn (by decide) (by rw [List.length_map, List.length_cons]; omega)]
    rfl
  have ho : strg.map D.str = [.str ("a" : Str), .str ("Z" : Str), .str ("0" : Str), .str ("b." : Str), .str ("k9" : Str)] := rfl
  rw [ho] at q
  refine ⟨z, ?_, by simpa using hz3, strg_ok z hz2⟩
  rw [F__law_strange, fnD_eq]
  show outR (b__law_strange [some (tS ls), none] M) = _
  rw [b__law_strange, sRt_eq, dBin_eq, fLc_eq, iLst_eq, dLst_eq]
  simp only [dCons_eq, dC_eq, bind_ok, dNil_eq, List.length_cons, List.length_nil, s5, if_true, kLst_lst, lcI_fix]
  rw [q]
  simp only [kLc_f, if_pos hz4, bind_ok, hix, ofO_some', thn_ok, outR_rt]
theorem idx_nd {l : List Str} (h : l.Nodup) {j : Nat} (hj : j < l.length) : l.idxOf l[j] = j := h.idxOf_getElem j hj
theorem mv_ng (ls : List Str) (g : List (List Mv)) (i : Int) (s : Str) : mvAt ls (ng g) i s = ngM (mvAt ls g i s) := by
  unfold mvAt ng
  have e : (g.map fun r => r.map ngM).getD i.toNat [] = (g.getD i.toNat []).map ngM := by
    simp only [List.getD_eq_getElem?_getD, List.getElem?_map]
    cases g[i.toNat]? <;> rfl
  rw [e]
  simp only [List.getD_eq_getElem?_getD, List.getElem?_map]
  cases (g[i.toNat]?.getD [])[ls.idxOf s]? <;> rfl
end K01
set_option maxHeartbeats 4000000
namespace K01
open PySem L2 DL
/-! ### k01: words read -/
noncomputable def N0 : FS := sAs (dBin gIx (dBin gIx (dVar 4) (dVar 9)) (dVar 16)) (gTp 3 (gsCons (gNm 18) (gsCons (gNm 19) (gsCons (gNm 20) (gsNil)))))
noncomputable def N1 : FS := sIf (dTst (dBin gNe (dCallB gRepr (dCons (dCallF F_stepped (dCons (dVar 5) (dCons (dVar 9) (dCons (dVar 17) (dNil))))) (dNil))) (dCallB gRepr (dCons (dTup (dCons (dVar 18) (dCons (dTup (dCons (dVar 19) (dCons (dVar 20) (dNil)))) (dNil)))) (dNil))))) (sRt (dC (.bl false))) (sNx)
noncomputable def N2 : FS := sIf (dTst (dBin gNe (dCallB gRepr (dCons (dCallK F_stepped 0 3 [2, 1, 0] dNil (dCons (dVar 17) (dCons (dVar 9) (dCons (dVar 7) (dNil))))) (dNil))) (dCallB gRepr (dCons (dTup (dCons (dVar 18) (dCons (dTup (dCons (dNeg (dVar 19)) (dCons (dNeg (dVar 20)) (dNil)))) (dNil)))) (dNil))))) (sRt (dC (.bl false))) (sNx)
noncomputable def N3 : FS := sIf (dTst (dBin gNe (dCallF F_stepped (dCons (dVar 5) (dCons (dVar 9) (dCons (dVar 17) (dNil))))) (dCallF F_read (dCons (dVar 5) (dCons (dVar 9) (dCons (dTup (dCons (dVar 17) (dNil))) (dNil))))))) (sRt (dC (.bl false))) (sNx)
noncomputable def enB : FS := sSq N0 (sSq N1 (sSq N2 (N3)))
noncomputable def K0 : FS := sSet 10 (dCallF F__law_went (dCons (dVar 3) (dCons (dVar 4) (dCons (dVar 9) (dCons (dVar 6) (dNil))))))
noncomputable def K1 : FS := sIf (dOr (dTst (dBin gNe (dCallB gRepr (dCons (dCallF F_read (dCons (dVar 5) (dCons (dVar 9) (dCons (dVar 6) (dNil))))) (dNil))) (dCallB gRepr (dCons (dVar 10) (dNil))))) (dTst (dBin gNe (dCallB gRepr (dCons (dCallK F_read 0 3 [0, 2, 1] dNil (dCons (dVar 5) (dCons (dVar 6) (dCons (dVar 9) (dNil))))) (dNil))) (dCallB gRepr (dCons (dVar 10) (dNil)))))) (sRt (dC (.bl false))) (sNx)
noncomputable def K2 : FS := sSet 11 (dCallF F__law_take (dCons (dVar 1) (dCons (dBin gAdd (dCallB gLen (dCons (dVar 6) (dNil))) (dC (.int 1))) (dNil))))
noncomputable def K3 : FS := sAs (dCallF F_read (dCons (dVar 5) (dCons (dVar 9) (dCons (dSl (dVar 6) (dNoPart) (dPart (dVar 11))) (dNil))))) (gTp 2 (gsCons (gNm 12) (gsCons (gNm 13) (gsNil))))
noncomputable def K4 : FS := sAs (dCallF F_read (dCons (dVar 5) (dCons (dVar 12) (dCons (dSl (dVar 6) (dPart (dVar 11)) (dNoPart)) (dNil))))) (gTp 2 (gsCons (gNm 14) (gsCons (gNm 15) (gsNil))))
noncomputable def K5 : FS := sIf (dTst (dBin gNe (dCallB gRepr (dCons (dTup (dCons (dVar 14) (dCons (dTup (dCons (dBin gAdd (dBin gIx (dVar 13) (dC (.int 0))) (dBin gIx (dVar 15) (dC (.int 0)))) (dCons (dBin gAdd (dBin gIx (dVar 13) (dC (.int 1))) (dBin gIx (dVar 15) (dC (.int 1)))) (dNil)))) (dNil)))) (dNil))) (dCallB gRepr (dCons (dVar 10) (dNil))))) (sRt (dC (.bl false))) (sNx)
noncomputable def K6 : FS := sIf (dTst (dBin gNe (dCallB gRepr (dCons (dCallF F_read (dCons (dVar 7) (dCons (dVar 9) (dCons (dVar 6) (dNil))))) (dNil))) (dCallB gRepr (dCons (dTup (dCons (dBin gIx (dVar 10) (dC (.int 0))) (dCons (dTup (dCons (dNeg (dBin gIx (dBin gIx (dVar 10) (dC (.int 1))) (dC (.int 0)))) (dCons (dNeg (dBin gIx (dBin gIx (dVar 10) (dC (.int 1))) (dC (.int 1)))) (dNil)))) (dNil)))) (dNil))))) (sRt (dC (.bl false))) (sNx)
noncomputable def K7 : FS := sFor 4000 (iEnumD (dCons (dVar 3) (dNil))) (gTp 2 (gsCons (gNm 16) (gsCons (gNm 17) (gsNil)))) enB
noncomputable def stB : FS := sSq K0 (sSq K1 (sSq K2 (sSq K3 (sSq K4 (sSq K5 (sSq K6 (K7)))))))
noncomputable def L0 : FS := sSet 3 (dCallF F__law_signs (dCons (dVar 1) (dCons (dBin gAdd (dC (.int 1)) (dCallF F__law_take (dCons (dVar 1) (dCons (dC (.int 4)) (dNil))))) (dNil))))
noncomputable def L1 : FS := sSet 4 (dCallF F__law_grid (dCons (dVar 1) (dCons (dBin gAdd (dC (.int 1)) (dCallF F__law_take (dCons (dVar 1) (dCons (dC (.int 4)) (dNil))))) (dCons (dCallB gLen (dCons (dVar 3) (dNil))) (dCons (dCallF F__law_pick (dCons (dVar 1) (dCons (dLst (dCons (dC (.int 1)) (dCons (dC (.int 9)) (dCons (dC (.int 999)) (dNil))))) (dNil)))) (dNil))))))
noncomputable def L2 : FS := sPar 5 6 (dNewF 0 F_Memory___init__ (dCons (dVar 3) (dCons (dVar 4) (dNil)))) (dCallF F__law_text (dCons (dVar 1) (dCons (dVar 3) (dNil))))
noncomputable def L3 : FS := sPar 7 8 (dCallF F_negated (dCons (dVar 5) (dNil))) (dLrg (dCallB gLen (dCons (dVar 4) (dNil))))
noncomputable def L4 : FS := sFor 4000 (iAny (dIf (dTst (dBin gLt (dCallB gLen (dCons (dVar 6) (dNil))) (dC (.int 99)))) (dVar 8) (dLst (dCons (dCallF F__law_pick (dCons (dVar 1) (dCons (dVar 8) (dNil)))) (dNil))))) (gNm 9) stB
noncomputable def L5 : FS := sIf (dOr (dTst (dBin gNe (dFld [0] ("letters" : Str) (dVar 7)) (dVar 3))) (dOr (dTst (dBin gNe (dLenO 0 F_Memory___len__ (dVar 7)) (dCallB gLen (dCons (dVar 4) (dNil))))) (dTst (dEqO 0 true F_Memory___eq__ (dCallK F_negated 0 1 [0] dNil (dCons (dVar 7) (dNil))) (dVar 5))))) (sRt (dC (.bl false))) (sNx)
noncomputable def L6 : FS := sIf (dOr (dTst (dBin gNe (dCallB gRepr (dCons (dFld [0] ("moves" : Str) (dVar 5)) (dNil))) (dCallB gRepr (dCons (dVar 4) (dNil))))) (dNot (dTst (dCallF F__law_refusals (dCons (dVar 1) (dCons (dVar 5) (dCons (dVar 3) (dCons (dVar 4) (dCons (dVar 6) (dNil)))))))))) (sRt (dC (.bl false))) (sNx)
noncomputable def lapB : FS := sSq L0 (sSq L1 (sSq L2 (sSq L3 (sSq L4 (sSq L5 (L6))))))
noncomputable def R0 : FS := sSet 11 (dCallF F__law_pick (dCons (dVar 0) (dCons (dLst (dCons (dC .non) (dCons (dC (.int 5)) (dCons (dVar 2) (dCons (dVar 3) (dCons (dTup (dCons (dVar 2) (dCons (dVar 3) (dNil)))) (dCons (dC (.str ("memory" : Str))) (dNil)))))))) (dNil))))
noncomputable def R1 : FS := sSet 8 (dCallF F__law_pick (dCons (dVar 0) (dCons (dLst (dCons (dNeg (dC (.int 1))) (dCons (dCallB gLen (dCons (dVar 3) (dNil))) (dCons (dBin gAdd (dCallB gLen (dCons (dVar 3) (dNil))) (dC (.int 7))) (dCons (dC (.bl true)) (dCons (dC .non) (dCons (dC (.str ("0" : Str))) (dCons (dTup (dCons (dC (.int 0)) (dNil))) (dCons (dLst (dCons (dC (.int 0)) (dNil))) (dNil)))))))))) (dNil))))
noncomputable def R2 : FS := sSet 12 (dCallF F__law_pick (dCons (dVar 0) (dCons (dLst (dCons (dCallF F__law_strange (dCons (dVar 2) (dNil))) (dCons (dC .non) (dCons (dC (.int 3)) (dCons (dTup (dCons (dBin gIx (dVar 2) (dC (.int 0))) (dNil))) (dCons (dBin gAdd (dBin gIx (dVar 2) (dC (.int 0))) (dC (.str ("_" : Str)))) (dCons (dC (.str ("" : Str))) (dCons (dCallB gList (dCons (dVar 2) (dNil))) (dNil))))))))) (dNil))))
noncomputable def R3 : FS := sSet 5 (dCallF F__law_take (dCons (dVar 0) (dCons (dBin gAdd (dCallB gLen (dCons (dVar 4) (dNil))) (dC (.int 1))) (dNil))))
noncomputable def R4 : FS := sSet 10 (dCallF F__law_pick (dCons (dVar 0) (dCons (dLst (dCons (dCallB gList (dCons (dVar 4) (dNil))) (dCons (dBin gIx (dVar 2) (dC (.int 0))) (dCons (dC .non) (dCons (dBin gAdd (dBin gAdd (dSl (dVar 4) (dNoPart) (dPart (dVar 5))) (dTup (dCons (dCallF F__law_strange (dCons (dVar 2) (dNil))) (dNil)))) (dSl (dVar 4) (dPart (dVar 5)) (dNoPart))) (dCons (dBin gAdd (dBin gAdd (dSl (dVar 4) (dNoPart) (dPart (dVar 5))) (dTup (dCons (dC .non) (dNil)))) (dSl (dVar 4) (dPart (dVar 5)) (dNoPart))) (dCons (dBin gAdd (dBin gAdd (dSl (dVar 4) (dNoPart) (dPart (dVar 5))) (dTup (dCons (dLst (dCons (dC (.str ("a" : Str))) (dNil))) (dNil)))) (dSl (dVar 4) (dPart (dVar 5)) (dNoPart))) (dCons (dC (.int 7)) (dNil))))))))) (dNil))))
noncomputable def R5 : FS := sSet 6 (dLstO (dCons (dCaught (dCallF F_read (dCons (dVar 11) (dCons (dVar 8) (dCons (dVar 10) (dNil)))))) (dNil)))
noncomputable def R6 : FS := sEx (dMt gApp (dVar 6) (dCons (dCaught (dCallF F_stepped (dCons (dVar 11) (dCons (dC (.int 0)) (dCons (dVar 12) (dNil)))))) (dNil)))
noncomputable def R7 : FS := sEx (dMt gApp (dVar 6) (dCons (dCaught (dCallF F_negated (dCons (dVar 11) (dNil)))) (dNil)))
noncomputable def R8 : FS := sFor 4000 (iAny (dVar 6)) (gNm 7) (sIf (dOr (dNot (dTst (dIsi ic_BadMemory (dVar 7)))) (dTst (dBin gIsNot (dFldX [1] ("part" : Str) (dVar 7)) (dC .non)))) (sRt (dC (.bl false))) (sNx))
noncomputable def R9 : FS := sSet 6 (dLstO (dCons (dCaught (dCallF F_read (dCons (dVar 1) (dCons (dVar 8) (dCons (dVar 10) (dNil)))))) (dNil)))
noncomputable def R10 : FS := sEx (dMt gApp (dVar 6) (dCons (dCaught (dCallF F_stepped (dCons (dVar 1) (dCons (dVar 8) (dCons (dVar 12) (dNil)))))) (dNil)))
noncomputable def R11 : FS := sEx (dMt gApp (dVar 6) (dCons (dCaught (dCallF F_read (dCons (dVar 1) (dCons (dVar 8) (dCons (dVar 4) (dNil)))))) (dNil)))
noncomputable def R12 : FS := sEx (dMt gApp (dVar 6) (dCons (dCaught (dCallF F_stepped (dCons (dVar 1) (dCons (dVar 8) (dCons (dBin gIx (dVar 2) (dC (.int 0))) (dNil)))))) (dNil)))
noncomputable def R13 : FS := sIf (dTst (dBin gNe (fLc false (iAny (dVar 6)) (.one 7) (dNot (dTst (dIsi ic_BadState (dVar 7)))) (dC (.int 1)) [7]) (dLst (dNil)))) (sRt (dC (.bl false))) (sNx)
noncomputable def R14 : FS := sSet 9 (dCallF F__law_take (dCons (dVar 0) (dCons (dCallB gLen (dCons (dVar 3) (dNil))) (dNil))))
noncomputable def R15 : FS := sIf (dNot (dTst (dIsi ic_BadWord (dCaught (dCallF F_read (dCons (dVar 1) (dCons (dVar 9) (dCons (dVar 10) (dNil))))))))) (sRt (dC (.bl false))) (sNx)
noncomputable def R16 : FS := sRt (dIsi ic_BadLetter (dCaught (dCallF F_stepped (dCons (dVar 1) (dCons (dVar 9) (dCons (dVar 12) (dNil)))))))
noncomputable def refB : FS := sSq R0 (sSq R1 (sSq R2 (sSq R3 (sSq R4 (sSq R5 (sSq R6 (sSq R7 (sSq R8 (sSq R9 (sSq R10 (sSq R11 (sSq R12 (sSq R13 (sSq R14 (sSq R15 (R16))))))))))))))))
theorem goes_ng (ls : List Str) (g : List (List Mv)) : ∀ (ws : List Str) (i x y : Int), goes ls (ng g) ws (i, -x, -y) = ((goes ls g ws (i, x, y)).1, -(goes ls g ws (i, x, y)).2.1, -(goes ls g ws (i, x, y)).2.2)
  | [], i, x, y => rfl
  | s :: ws, i, x, y => by
    have e : mvAt ls (ng g) i s = ngM (mvAt ls g i s) := mv_ng ls g i s
    rw [goes, goes]
    have e1 : (mvAt ls (ng g) ((i, -x, -y) : St3).1 s) = ngM (mvAt ls g i s) := e
    rw [e1]
    have := goes_ng ls g ws (mvAt ls g i s).1 (x + (mvAt ls g i s).2.1) (y + (mvAt ls g i s).2.2)
    rw [← this]
    show goes ls (ng g) ws ((mvAt ls g i s).1, -x + -(mvAt ls g i s).2.1, -y + -(mvAt ls g i s).2.2) = _
    rw [Int.neg_add, Int.neg_add]
theorem cl_rs {n : Nat} {k : Int} {t : St3} (h : StOk n k t) (hn : n ≤ 1000) (h0 : 0 ≤ k) (hk : k ≤ 100000) : Cl (rs t) := by
  obtain ⟨h1, h2, h3, h4, h5, h6⟩ := h
  have b : ∀ x : Int, -(k * 999) ≤ x → x ≤ k * 999 → x.natAbs < 2 ^ 1000 := fun x a b => by
    have : x.natAbs < 2 ^ 100 := by omega
    exact Nat.lt_trans this (by decide)
  refine ⟨cl_int (Nat.lt_trans (show t.1.natAbs < 2 ^ 100 by omega) (by decide)), ⟨cl_int (b _ h3 h4), cl_int (b _ h5 h6), trivial⟩, trivial⟩
theorem rp_rs {n : Nat} {k : Int} {t : St3} (h : StOk n k t) (hn : n ≤ 1000) (h0 : 0 ≤ k) (hk : k ≤ 100000) (M : Sto) : gRepr M [rs t] = some (tx (rs t)) :=
  repr_cl (cl_rs h hn h0 hk) (by show max 0 (max (max 0 (max 0 0) + 1) 0) + 1 ≤ 60; decide) (by show 1921 + 2 + ((1921 + 2 + (1921 + 2 + 0) + 4) + 2 + 0) + 4 ≤ 16000000; omega)
theorem ne_tx (d : D) (M : Sto) : gEqB true M (tx d) (tx d) = some (.bl false) := by
  unfold tx
  rw [gNe_str]
  simp
theorem st_mv {n : Nat} {m : Mv} (h : MvOk n m) : StOk n 1 m := by
  obtain ⟨h1, h2, h3, h4, h5, h6⟩ := h
  exact ⟨h1, h2, by omega, by omega, by omega, by omega⟩
theorem st_0 {n : Nat} {i : Int} (h0 : 0 ≤ i) (h1 : i < n) : StOk n 0 (i, 0, 0) := ⟨h0, h1, by simp, by simp, by simp, by simp⟩
theorem ng_len (g : List (List Mv)) : (ng g).length = g.length := by unfold ng; rw [List.length_map]
section
variable {ls : List Str} {g : List (List Mv)} {ws : List Str} {sc : D} {x2 x8 x9 x10 x11 x12 x13 x14 x15 x16 x17 x18 x19 x20 : Option D}
abbrev EN (sc : D) (ls : List Str) (g : List (List Mv)) (ws : List Str) (x2 x8 x9 x10 x11 x12 x13 x14 x15 x16 x17 x18 x19 x20 : Option D) : DL.Env := [some sc, some (.own 1), x2, some (tS ls), some (gridD g), some (mem ls g), some (tS ws), some (mem ls (ng g)), x8, x9, x10, x11, x12, x13, x14, x15, x16, x17, x18, x19, x20]
theorem en_step (hl : Ls ls) (hg : Gd ls.length g) {i : Int} (h0 : 0 ≤ i) (h1 : i < g.length) {j : Nat} {s : Str} (hj : ls[j]? = some s) (M : Sto) (k : DL.Env → Sto → Out) : ∃ y18 y19 y20,
    stp (gTp 2 (gsCons (gNm 16) (gsCons (gNm 17) (gsNil)))) enB (.tup [.int j, .str s]) (EN sc ls g ws x2 x8 (some (.int i)) x10 x11 x12 x13 x14 x15 x16 x17 x18 x19 x20) M k = k (EN sc ls g ws x2 x8 (some (.int i)) x10 x11 x12 x13 x14 x15 (some (.int j)) (some (.str s)) y18 y19 y20) M := by
  have hs : s ∈ ls := List.mem_of_getElem? hj
  have hix : ls.idxOf s = j := by
    obtain ⟨hlt, e⟩ := List.getElem?_eq_some_iff.1 hj
    rw [← e]
    exact idx_nd hl.nd hlt
  obtain ⟨r, e1, e2, mo⟩ := mv_at hg h0 h1 hs
  rw [hix] at e2
  have hng := ng_ok hg
  have h1' : i < (ng g).length := by rw [ng_len]; exact h1
  have st1 := st_mv mo
  have st2 : StOk g.length 1 (ngM (mvAt ls g i s)) := by
    obtain ⟨r', _, _, m'⟩ := mv_at hng h0 h1' hs
    rw [mv_ng, ng_len] at m'
    exact st_mv m'
  have n1 : g.length ≤ 1000 := by have := hg.n1; omega
  have p1 := rp_rs st1 n1 (by decide) (by decide) M
  have p2 := rp_rs st2 n1 (by decide) (by decide) M
  have w1 : ∀ z ∈ [s], z ∈ ls := fun z hz => by rw [List.mem_singleton.1 hz]; exact hs
  have eg : goes ls g [s] (i, 0, 0) = mvAt ls g i s := by
    simp only [goes, Int.zero_add]
  have rd := read_ok hl hg h0 h1 w1 (by simp) M
  rw [eg] at rd
  have gq := gEq_cl (M := M) (neg := true) (cl_rs st1 n1 (by decide) (by decide)) (cl_rs st1 n1 (by decide) (by decide)) (by show max 0 (max (max 0 (max 0 0) + 1) 0) + 1 ≤ 60; decide) (by show max 0 (max (max 0 (max 0 0) + 1) 0) + 1 ≤ 60; decide) rfl
  rw [eqD_self] at gq
  simp only [if_true, Bool.not_true] at gq
  have sd := stepped_ok hl hg h0 h1 hs M
  have sd2 := stepped_ok hl hng h0 h1' hs M
  rw [mv_ng] at sd2
  have s1 : (1 : Nat) ≤ sizeLine := szl (by decide)
  have s2 : (2 : Nat) ≤ sizeLine := szl (by decide)
  have t1 : D.tup [.int (mvAt ls g i s).1, .tup [.int (mvAt ls g i s).2.1, .int (mvAt ls g i s).2.2]] = rs (mvAt ls g i s) := rfl
  have t2 : D.tup [.int (mvAt ls g i s).1, .tup [.int (-(mvAt ls g i s).2.1), .int (-(mvAt ls g i s).2.2)]] = rs (ngM (mvAt ls g i s)) := rfl
  have gt : gath 0 3 [2, 1, 0] [] [D.str s, .int i, mem ls (ng g)] = [mem ls (ng g), .int i, .str s] := rfl
  have t3 : D.tup [.str s] = tS [s] := rfl
  refine ⟨some (.int (mvAt ls g i s).1), some (.int (mvAt ls g i s).2.1), some (.int (mvAt ls g i s).2.2), ?_⟩
  show (enB (EN sc ls g ws x2 x8 (some (.int i)) x10 x11 x12 x13 x14 x15 (some (.int j)) (some (.str s)) x18 x19 x20) M).aft k = _
  have q0 : N0 (EN sc ls g ws x2 x8 (some (.int i)) x10 x11 x12 x13 x14 x15 (some (.int j)) (some (.str s)) x18 x19 x20) M = .nx (EN sc ls g ws x2 x8 (some (.int i)) x10 x11 x12 x13 x14 x15 (some (.int j)) (some (.str s)) (some (.int (mvAt ls g i s).1)) (some (.int (mvAt ls g i s).2.1)) (some (.int (mvAt ls g i s).2.2))) M := by
    rw [N0, sAs_eq, dBin_eq, dBin_eq]
    simp only [dVar_s, dVar_0, bind_ok, ix_row h0 h1 e1, ofO_some', ix_mv e2, thn_ok, gTp_tup, List.length_cons, List.length_nil, if_true, gsCons_nm, gsNil_eq, List.set_cons_succ, List.set_cons_zero, ofO_so]
  have q1 : N1 (EN sc ls g ws x2 x8 (some (.int i)) x10 x11 x12 x13 x14 x15 (some (.int j)) (some (.str s)) (some (.int (mvAt ls g i s).1)) (some (.int (mvAt ls g i s).2.1)) (some (.int (mvAt ls g i s).2.2))) M = .nx (EN sc ls g ws x2 x8 (some (.int i)) x10 x11 x12 x13 x14 x15 (some (.int j)) (some (.str s)) (some (.int (mvAt ls g i s).1)) (some (.int (mvAt ls g i s).2.1)) (some (.int (mvAt ls g i s).2.2))) M := by
    rw [N1, sIf_eq, dTst_eq, dBin_eq]
    simp only [dCallB_eq, dCallF_eq, dCons_eq, dNil_eq, dVar_s, dVar_0, bind_ok, sd, p1, ofO_some', dTup_eq, List.length_cons, List.length_nil, s2, if_true, t1, ne_tx, asB_bl, thn_ok, Bool.false_eq_true, if_false, sNx_eq]
  have q2 : N2 (EN sc ls g ws x2 x8 (some (.int i)) x10 x11 x12 x13 x14 x15 (some (.int j)) (some (.str s)) (some (.int (mvAt ls g i s).1)) (some (.int (mvAt ls g i s).2.1)) (some (.int (mvAt ls g i s).2.2))) M = .nx (EN sc ls g ws x2 x8 (some (.int i)) x10 x11 x12 x13 x14 x15 (some (.int j)) (some (.str s)) (some (.int (mvAt ls g i s).1)) (some (.int (mvAt ls g i s).2.1)) (some (.int (mvAt ls g i s).2.2))) M := by
    rw [N2, sIf_eq, dTst_eq, dBin_eq]
    simp only [dCallB_eq, dCallK_eq, dCons_eq, dNil_eq, dVar_s, dVar_0, bind_ok, gt, sd2, p2, ofO_some', dTup_eq, dNeg_eq, negV_int, List.length_cons, List.length_nil, s2, if_true, t2, ne_tx, asB_bl, thn_ok, Bool.false_eq_true, if_false, sNx_eq]
  have q3 : N3 (EN sc ls g ws x2 x8 (some (.int i)) x10 x11 x12 x13 x14 x15 (some (.int j)) (some (.str s)) (some (.int (mvAt ls g i s).1)) (some (.int (mvAt ls g i s).2.1)) (some (.int (mvAt ls g i s).2.2))) M = .nx (EN sc ls g ws x2 x8 (some (.int i)) x10 x11 x12 x13 x14 x15 (some (.int j)) (some (.str s)) (some (.int (mvAt ls g i s).1)) (some (.int (mvAt ls g i s).2.1)) (some (.int (mvAt ls g i s).2.2))) M := by
    rw [N3, sIf_eq, dTst_eq, dBin_eq]
    simp only [dCallF_eq, dCons_eq, dNil_eq, dVar_s, dVar_0, bind_ok, sd, dTup_eq, List.length_cons, List.length_nil, s1, if_true, t3, rd, gq, ofO_some', asB_bl, thn_ok, Bool.false_eq_true, if_false, sNx_eq]
  rw [enB, sSq_eq, q0, seq_nx, sSq_eq, q1, seq_nx, sSq_eq, q2, seq_nx, q3, aft_nx]
theorem en_loop (hl : Ls ls) (hg : Gd ls.length g) {i : Int} (h0 : 0 ≤ i) (h1 : i < g.length) (M : Sto) : ∀ (rest : List Str) (j : Nat) (x16 x17 x18 x19 x20 : Option D), (∀ k s, rest[k]? = some s → ls[j + k]? = some s) →
    ∃ y16 y17 y18 y19 y20, forD (gTp 2 (gsCons (gNm 16) (gsCons (gNm 17) (gsNil)))) enB ((rest.zipIdx j).map fun p => .tup [.int (p.2 : Nat), .str p.1]) (EN sc ls g ws x2 x8 (some (.int i)) x10 x11 x12 x13 x14 x15 x16 x17 x18 x19 x20) M = .nx (EN sc ls g ws x2 x8 (some (.int i)) x10 x11 x12 x13 x14 x15 y16 y17 y18 y19 y20) M
  | [], j, x16, x17, x18, x19, x20, _ => ⟨x16, x17, x18, x19, x20, rfl⟩
  | s :: rest, j, x16, x17, x18, x19, x20, h => by
    obtain ⟨y18, y19, y20, e⟩ := en_step (ws := ws) (sc := sc) (x2 := x2) (x8 := x8) (x10 := x10) (x11 := x11) (x12 := x12) (x13 := x13) (x14 := x14) (x15 := x15) (x16 := x16) (x17 := x17) (x18 := x18) (x19 := x19) (x20 := x20) hl hg h0 h1 (j := j) (s := s) (by simpa using h 0 s rfl) M (forD (gTp 2 (gsCons (gNm 16) (gsCons (gNm 17) (gsNil)))) enB ((rest.zipIdx (j + 1)).map fun p => .tup [.int (p.2 : Nat), .str p.1]))
    obtain ⟨z16, z17, z18, z19, z20, e2⟩ := en_loop hl hg h0 h1 M rest (j + 1) (some (.int j)) (some (.str s)) y18 y19 y20 fun k z hk => by
      have := h (k + 1) z (by simpa using hk)
      rw [← this]
      congr 1
      omega
    refine ⟨z16, z17, z18, z19, z20, ?_⟩
    rw [List.zipIdx_cons, List.map_cons, forD_cons, e, e2]
theorem goes_parts (k : Nat) (i : Int) : goes ls g ws (i, 0, 0) = ((goes ls g (ws.drop k) ((goes ls g (ws.take k) (i, 0, 0)).1, 0, 0)).1, (goes ls g (ws.take k) (i, 0, 0)).2.1 + (goes ls g (ws.drop k) ((goes ls g (ws.take k) (i, 0, 0)).1, 0, 0)).2.1, (goes ls g (ws.take k) (i, 0, 0)).2.2 + (goes ls g (ws.drop k) ((goes ls g (ws.take k) (i, 0, 0)).1, 0, 0)).2.2) := by
  have e := goes_app ls g (ws.take k) (ws.drop k) (i, 0, 0)
  rw [List.take_append_drop] at e
  rw [e]
  exact goes_sum ls g (ws.drop k) _ _ _
theorem st_step (hl : Ls ls) (hg : Gd ls.length g) (hw : ∀ s ∈ ws, s ∈ ls) (hn : ws.length ≤ 2000) {i : Int} (h0 : 0 ≤ i) (h1 : i < g.length) {n : Int} {R M : Sto} (v : Dv n R M) (hb : n < 900000) : ∃ y10 y11 y12 y13 y14 y15 y16 y17 y18 y19 y20 M',
    stB (EN sc ls g ws x2 x8 (some (.int i)) x10 x11 x12 x13 x14 x15 x16 x17 x18 x19 x20) M = .nx (EN sc ls g ws x2 x8 (some (.int i)) y10 y11 y12 y13 y14 y15 y16 y17 y18 y19 y20) M' ∧ Dv (n + 1) R M' := by
  have hng := ng_ok hg
  have h1' : i < (ng g).length := by rw [ng_len]; exact h1
  have n1 : g.length ≤ 1000 := by have := hg.n1; omega
  have sd := goes_ok hg hw (st_0 h0 h1)
  have cl0 := rp_rs sd n1 (by omega) (by omega)
  obtain ⟨r, M1, e1, r0, r1, v1⟩ := tk ((ws.length : Int) + 1) v (by omega) (by omega) (by omega)
  obtain ⟨k, rfl⟩ := Int.eq_ofNat_of_zero_le r0
  have hk : k ≤ ws.length := by omega
  have hw1 : ∀ s ∈ ws.take k, s ∈ ls := fun s hs => hw s (List.mem_of_mem_take hs)
  have hw2 : ∀ s ∈ ws.drop k, s ∈ ls := fun s hs => hw s (List.mem_of_mem_drop hs)
  have st1 := goes_ok hg hw1 (st_0 h0 h1)
  obtain ⟨a0, a1, _⟩ := st1
  have rd1 := read_ok hl hg h0 h1 hw1 (by rw [List.length_take]; omega) M1
  have rd2 := read_ok hl hg a0 a1 hw2 (by rw [List.length_drop]; omega) M1
  have gn := goes_ng ls g ws i 0 0
  simp only [Int.neg_zero] at gn
  have rdn := read_ok hl hng h0 h1' hw (by omega) M1
  rw [gn] at rdn
  have sdn : StOk g.length (0 + ws.length) ((goes ls g ws (i, 0, 0)).1, -(goes ls g ws (i, 0, 0)).2.1, -(goes ls g ws (i, 0, 0)).2.2) := by
    obtain ⟨b1, b2, b3, b4, b5, b6⟩ := sd
    exact ⟨b1, b2, by dsimp only; omega, by dsimp only; omega, by dsimp only; omega, by dsimp only; omega⟩
  have cln := rp_rs sdn n1 (by omega) (by omega) M1
  have rd := read_ok hl hg h0 h1 hw (by omega) M
  have gt : gath 0 3 [0, 2, 1] [] [mem ls g, tS ws, D.int i] = [mem ls g, .int i, tS ws] := rfl
  have s2 : (2 : Nat) ≤ sizeLine := szl (by decide)
  have c1 : gSl M1 (tS ws) none (some (k : Int)) = some (tS (ws.take k)) := by
    show some (D.tup (cut (ws.map D.str) none (some (k : Int)))) = _
    rw [cut_to _ k (by rw [List.length_map]; exact hk), ← List.map_take]
  have c2 : gSl M1 (tS ws) (some (k : Int)) none = some (tS (ws.drop k)) := by
    show some (D.tup (cut (ws.map D.str) (some (k : Int)) none)) = _
    rw [cut_from _ k (by rw [List.length_map]; exact hk), ← List.map_drop]
  have ix : ∀ (a b : D) (M : Sto), gIx M (.tup [a, b]) (.int 0) = some a ∧ gIx M (.tup [a, b]) (.int 1) = some b := fun a b M => ⟨rfl, rfl⟩
  obtain ⟨z16, z17, z18, z19, z20, e7⟩ := en_loop (ws := ws) (sc := sc) (x2 := x2) (x8 := x8) (x10 := some (rs (goes ls g ws (i, 0, 0)))) (x11 := some (.int k)) (x12 := some (.int (goes ls g (ws.take k) (i, 0, 0)).1)) (x13 := some (.tup [.int (goes ls g (ws.take k) (i, 0, 0)).2.1, .int (goes ls g (ws.take k) (i, 0, 0)).2.2]))
    (x14 := some (.int (goes ls g (ws.drop k) ((goes ls g (ws.take k) (i, 0, 0)).1, 0, 0)).1)) (x15 := some (.tup [.int (goes ls g (ws.drop k) ((goes ls g (ws.take k) (i, 0, 0)).1, 0, 0)).2.1, .int (goes ls g (ws.drop k) ((goes ls g (ws.take k) (i, 0, 0)).1, 0, 0)).2.2])) hl hg h0 h1 M1 ls 0 x16 x17 x18 x19 x20 (fun k s h => by simpa using h)
  have ee : enumT (ls.map D.str) = (ls.zipIdx 0).map fun p => .tup [.int (p.2 : Nat), .str p.1] := by
    unfold enumT
    rw [List.zipIdx_map, List.map_map]
    rfl
  have hgp := goes_parts (ls := ls) (g := g) (ws := ws) k i
  have t5 : D.tup [.int (goes ls g (ws.drop k) ((goes ls g (ws.take k) (i, 0, 0)).1, 0, 0)).1, .tup [.int ((goes ls g (ws.take k) (i, 0, 0)).2.1 + (goes ls g (ws.drop k) ((goes ls g (ws.take k) (i, 0, 0)).1, 0, 0)).2.1), .int ((goes ls g (ws.take k) (i, 0, 0)).2.2 + (goes ls g (ws.drop k) ((goes ls g (ws.take k) (i, 0, 0)).1, 0, 0)).2.2)]] = rs (goes ls g ws (i, 0, 0)) := by
    rw [hgp]
  refine ⟨some (rs (goes ls g ws (i, 0, 0))), some (.int k), some (.int (goes ls g (ws.take k) (i, 0, 0)).1), some (.tup [.int (goes ls g (ws.take k) (i, 0, 0)).2.1, .int (goes ls g (ws.take k) (i, 0, 0)).2.2]), some (.int (goes ls g (ws.drop k) ((goes ls g (ws.take k) (i, 0, 0)).1, 0, 0)).1), some (.tup [.int (goes ls g (ws.drop k) ((goes ls g (ws.take k) (i, 0, 0)).1, 0, 0)).2.1, .int (goes ls g (ws.drop k) ((goes ls g (ws.take k) (i, 0, 0)).1, 0, 0)).2.2]), z16, z17, z18, z19, z20, M1, ?_, v1⟩
  have q0 : K0 (EN sc ls g ws x2 x8 (some (.int i)) x10 x11 x12 x13 x14 x15 x16 x17 x18 x19 x20) M = .nx (EN sc ls g ws x2 x8 (some (.int i)) (some (rs (goes ls g ws (i, 0, 0)))) x11 x12 x13 x14 x15 x16 x17 x18 x19 x20) M := by
    rw [K0, sSet_eq, dCallF_eq]
    simp only [dCons_eq, dNil_eq, dVar_s, dVar_0, bind_ok, law_went hg h0 h1 hw, thn_ok, List.set_cons_succ, List.set_cons_zero]
  have q1 : K1 (EN sc ls g ws x2 x8 (some (.int i)) (some (rs (goes ls g ws (i, 0, 0)))) x11 x12 x13 x14 x15 x16 x17 x18 x19 x20) M = .nx (EN sc ls g ws x2 x8 (some (.int i)) (some (rs (goes ls g ws (i, 0, 0)))) x11 x12 x13 x14 x15 x16 x17 x18 x19 x20) M := by
    rw [K1, sIf_eq, dOr_eq]
    simp only [dTst_eq, dBin_eq, dCallB_eq, dCallF_eq, dCallK_eq, dCons_eq, dNil_eq, dVar_s, dVar_0, bind_ok, rd, gt, cl0, ofO_some', ne_tx, asB_bl, thn_ok, Bool.false_eq_true, if_false, sNx_eq]
  have hlen : gLen M [tS ws] = some (.int ws.length) := len_map' D.str ws M
  have q2 : K2 (EN sc ls g ws x2 x8 (some (.int i)) (some (rs (goes ls g ws (i, 0, 0)))) x11 x12 x13 x14 x15 x16 x17 x18 x19 x20) M = .nx (EN sc ls g ws x2 x8 (some (.int i)) (some (rs (goes ls g ws (i, 0, 0)))) (some (.int k)) x12 x13 x14 x15 x16 x17 x18 x19 x20) M1 := by
    rw [K2, sSet_eq, dCallF_eq]
    simp only [dCons_eq, dBin_eq, dCallB_eq, dNil_eq, dVar_s, dVar_0, bind_ok, hlen, dC_eq, gAdd_int, ofO_some', e1, thn_ok, List.set_cons_succ, List.set_cons_zero]
  have q3 : K3 (EN sc ls g ws x2 x8 (some (.int i)) (some (rs (goes ls g ws (i, 0, 0)))) (some (.int k)) x12 x13 x14 x15 x16 x17 x18 x19 x20) M1 = .nx (EN sc ls g ws x2 x8 (some (.int i)) (some (rs (goes ls g ws (i, 0, 0)))) (some (.int k)) (some (.int (goes ls g (ws.take k) (i, 0, 0)).1)) (some (.tup [.int (goes ls g (ws.take k) (i, 0, 0)).2.1, .int (goes ls g (ws.take k) (i, 0, 0)).2.2])) x14 x15 x16 x17 x18 x19 x20) M1 := by
    rw [K3, sAs_eq, dCallF_eq]
    simp only [dCons_eq, dSl_eq, dNoPart_eq, dPart_eq, dNil_eq, dVar_s, dVar_0, bind_ok, c1, ofO_some', rd1, thn_ok, gTp_tup, List.length_cons, List.length_nil, if_true, gsCons_nm, gsNil_eq, List.set_cons_succ, List.set_cons_zero, ofO_so]
  have q4 : K4 (EN sc ls g ws x2 x8 (some (.int i)) (some (rs (goes ls g ws (i, 0, 0)))) (some (.int k)) (some (.int (goes ls g (ws.take k) (i, 0, 0)).1)) (some (.tup [.int (goes ls g (ws.take k) (i, 0, 0)).2.1, .int (goes ls g (ws.take k) (i, 0, 0)).2.2])) x14 x15 x16 x17 x18 x19 x20) M1 = .nx (EN sc ls g ws x2 x8 (some (.int i)) (some (rs (goes ls g ws (i, 0, 0)))) (some (.int k)) (some (.int (goes ls g (ws.take k) (i, 0, 0)).1)) (some (.tup [.int (goes ls g (ws.take k) (i, 0, 0)).2.1, .int (goes ls g (ws.take k) (i, 0, 0)).2.2]))
      (some (.int (goes ls g (ws.drop k) ((goes ls g (ws.take k) (i, 0, 0)).1, 0, 0)).1)) (some (.tup [.int (goes ls g (ws.drop k) ((goes ls g (ws.take k) (i, 0, 0)).1, 0, 0)).2.1, .int (goes ls g (ws.drop k) ((goes ls g (ws.take k) (i, 0, 0)).1, 0, 0)).2.2])) x16 x17 x18 x19 x20) M1 := by
    rw [K4, sAs_eq, dCallF_eq]
    simp only [dCons_eq, dSl_eq, dNoPart_eq, dPart_eq, dNil_eq, dVar_s, dVar_0, bind_ok, c2, ofO_some', rd2, thn_ok, gTp_tup, List.length_cons, List.length_nil, if_true, gsCons_nm, gsNil_eq, List.set_cons_succ, List.set_cons_zero, ofO_so]
  have q5 : ∀ y16 y17 y18 y19 y20, K5 (EN sc ls g ws x2 x8 (some (.int i)) (some (rs (goes ls g ws (i, 0, 0)))) (some (.int k)) (some (.int (goes ls g (ws.take k) (i, 0, 0)).1)) (some (.tup [.int (goes ls g (ws.take k) (i, 0, 0)).2.1, .int (goes ls g (ws.take k) (i, 0, 0)).2.2]))
      (some (.int (goes ls g (ws.drop k) ((goes ls g (ws.take k) (i, 0, 0)).1, 0, 0)).1)) (some (.tup [.int (goes ls g (ws.drop k) ((goes ls g (ws.take k) (i, 0, 0)).1, 0, 0)).2.1, .int (goes ls g (ws.drop k) ((goes ls g (ws.take k) (i, 0, 0)).1, 0, 0)).2.2])) y16 y17 y18 y19 y20) M1 = .nx (EN sc ls g ws x2 x8 (some (.int i)) (some (rs (goes ls g ws (i, 0, 0)))) (some (.int k)) (some (.int (goes ls g (ws.take k) (i, 0, 0)).1)) (some (.tup [.int (goes ls g (ws.take k) (i, 0, 0)).2.1, .int (goes ls g (ws.take k) (i, 0, 0)).2.2]))
      (some (.int (goes ls g (ws.drop k) ((goes ls g (ws.take k) (i, 0, 0)).1, 0, 0)).1)) (some (.tup [.int (goes ls g (ws.drop k) ((goes ls g (ws.take k) (i, 0, 0)).1, 0, 0)).2.1, .int (goes ls g (ws.drop k) ((goes ls g (ws.take k) (i, 0, 0)).1, 0, 0)).2.2])) y16 y17 y18 y19 y20) M1 := fun y16 y17 y18 y19 y20 => by
    rw [K5, sIf_eq, dTst_eq, dBin_eq]
    simp only [dCallB_eq, dCons_eq, dNil_eq, dTup_eq, dBin_eq, dC_eq, dVar_s, dVar_0, bind_ok, (ix _ _ _).1, (ix _ _ _).2, ofO_some', gAdd_int, List.length_cons, List.length_nil, s2, if_true, t5, cl0, ne_tx, asB_bl, thn_ok, Bool.false_eq_true, if_false, sNx_eq]
  have q6 : ∀ y11 y12 y13 y14 y15 y16 y17 y18 y19 y20, K6 (EN sc ls g ws x2 x8 (some (.int i)) (some (rs (goes ls g ws (i, 0, 0)))) y11 y12 y13 y14 y15 y16 y17 y18 y19 y20) M1 = .nx (EN sc ls g ws x2 x8 (some (.int i)) (some (rs (goes ls g ws (i, 0, 0)))) y11 y12 y13 y14 y15 y16 y17 y18 y19 y20) M1 := fun y11 y12 y13 y14 y15 y16 y17 y18 y19 y20 => by
    rw [K6, sIf_eq, dTst_eq, dBin_eq]
    simp only [dCallB_eq, dCallF_eq, dCons_eq, dNil_eq, dTup_eq, dBin_eq, dNeg_eq, dC_eq, dVar_s, dVar_0, bind_ok, rdn, cln, (ix _ _ _).1, (ix _ _ _).2, ofO_some', negV_int, List.length_cons, List.length_nil, s2, if_true, ne_tx, asB_bl, thn_ok, Bool.false_eq_true, if_false, sNx_eq]
  rw [stB, sSq_eq, q0, seq_nx, sSq_eq, q1, seq_nx, sSq_eq, q2, seq_nx, sSq_eq, q3, seq_nx, sSq_eq, q4, seq_nx, sSq_eq, q5, seq_nx, sSq_eq, q6, seq_nx, K7, sFor_eq, iEnum_eq]
  simp only [dCons_eq, dNil_eq, dVar_s, dVar_0, bind_ok, kEnum_tup, thn_ok, forI_fix, ee]
  exact e7
theorem st_loop (hl : Ls ls) (hg : Gd ls.length g) (hw : ∀ s ∈ ws, s ∈ ls) (hn : ws.length ≤ 2000) {R : Sto} : ∀ (is : List Int) (n : Int) (M : Sto) (x9 x10 x11 x12 x13 x14 x15 x16 x17 x18 x19 x20 : Option D), (∀ i ∈ is, 0 ≤ i ∧ i < g.length) → Dv n R M → n + is.length < 900000 →
    ∃ y9 y10 y11 y12 y13 y14 y15 y16 y17 y18 y19 y20 M', forD (gNm 9) stB (is.map .int) (EN sc ls g ws x2 x8 x9 x10 x11 x12 x13 x14 x15 x16 x17 x18 x19 x20) M = .nx (EN sc ls g ws x2 x8 y9 y10 y11 y12 y13 y14 y15 y16 y17 y18 y19 y20) M' ∧ Dv (n + is.length) R M'
  | [], n, M, x9, x10, x11, x12, x13, x14, x15, x16, x17, x18, x19, x20, _, v, _ => ⟨x9, x10, x11, x12, x13, x14, x15, x16, x17, x18, x19, x20, M, rfl, v.mono (by simp)⟩
  | i :: is, n, M, x9, x10, x11, x12, x13, x14, x15, x16, x17, x18, x19, x20, h, v, hb => by
    obtain ⟨h0, h1⟩ := h i List.mem_cons_self
    rw [List.length_cons] at hb
    obtain ⟨y10, y11, y12, y13, y14, y15, y16, y17, y18, y19, y20, M1, e, v1⟩ := st_step (sc := sc) (x2 := x2) (x8 := x8) (x10 := x10) (x11 := x11) (x12 := x12) (x13 := x13) (x14 := x14) (x15 := x15) (x16 := x16) (x17 := x17) (x18 := x18) (x19 := x19) (x20 := x20) hl hg hw hn h0 h1 v (by omega)
    obtain ⟨z9, z10, z11, z12, z13, z14, z15, z16, z17, z18, z19, z20, M2, e2, v2⟩ := st_loop hl hg hw hn is (n + 1) M1 (some (.int i)) y10 y11 y12 y13 y14 y15 y16 y17 y18 y19 y20 (fun j hj => h j (List.mem_cons_of_mem _ hj)) v1 (by omega)
    refine ⟨z9, z10, z11, z12, z13, z14, z15, z16, z17, z18, z19, z20, M2, ?_, v2.mono (by rw [List.length_cons]; omega)⟩
    rw [List.map_cons, forD_cons, stp_nm]
    show (stB (EN sc ls g ws x2 x8 (some (.int i)) x10 x11 x12 x13 x14 x15 x16 x17 x18 x19 x20) M).aft (forD (gNm 9) stB (is.map .int)) = _
    rw [e, aft_nx, e2]
end
/-! ### refusals -/
theorem at_of {ds : List D} {k : Nat} {x : D} (h : ds[k]? = some x) : atI ds (k : Int) = some x := by
  obtain ⟨hk, _⟩ := List.getElem?_eq_some_iff.1 h
  unfold atI
  rw [ixN_nn (by omega) (by omega)]
  show ds[((k : Nat) : Int).toNat]? = _
  rw [Int.toNat_natCast, h]
abbrev X1 : D := .exc 1 ["part"] [.non]
abbrev X3 : D := .exc 3 [] []
theorem scored {ls : List Str} (hl : Ls ls) (s : Str) : s ++ ("_" : Str) ∉ ls := fun h => by
  have h1 := (hl.lt _ h).2.2 95 (by
    rw [str_cps]
    have : ("_" : Str).cps.toList = [95] := by decide
    rw [this]
    simp)
  exact absurd h1 (by decide +kernel)
theorem empty_no {ls : List Str} (hl : Ls ls) : ("" : Str) ∉ ls := fun h => by
  have h1 := (hl.lt _ h).1
  have : ("" : Str).length = 0 := by decide
  omega
theorem scored_ok {s : Str} (h : PyData.strOk s = true) : PyData.strOk (s ++ ("_" : Str)) = true := by
  unfold PyData.strOk at h ⊢
  rw [← Array.all_toList, List.all_eq_true] at h ⊢
  intro c hc
  rw [str_cps] at hc
  rcases List.mem_append.1 hc with hc | hc
  · exact h c hc
  · have : ("_" : Str).cps.toList = [95] := by decide
    rw [this] at hc
    rw [List.mem_singleton.1 hc]
    decide
theorem all_bad {ls : List Str} {a b : List D} {x : D} (h : oneOk ls x = false) : wordB ls (.tup (a ++ [x] ++ b)) = false := by
  show (a ++ [x] ++ b).all (oneOk ls) = false
  rw [List.all_append, List.all_append]
  simp [h]
theorem wrd_mid {ls ws : List Str} (hl : Ls ls) (hw : ∀ s ∈ ws, s ∈ ls) (hn : ws.length ≤ 2000) (k : Nat) {x : D} (hx : Itm x) : Wrd (.tup ((ws.take k).map .str ++ [x] ++ (ws.drop k).map .str)) := by
  refine ⟨trivial, fun ds e => ?_⟩
  cases e
  refine ⟨by simp; omega, fun y hy => ?_⟩
  rcases List.mem_append.1 hy with hy | hy
  · rcases List.mem_append.1 hy with hy | hy
    · obtain ⟨s, hs, rfl⟩ := List.mem_map.1 hy
      exact ⟨trivial, fun z e => by cases e; exact hl.ok s (hw s (List.mem_of_mem_take hs))⟩
    · rw [List.mem_singleton.1 hy]; exact hx
  · obtain ⟨s, hs, rfl⟩ := List.mem_map.1 hy
    exact ⟨trivial, fun z e => by cases e; exact hl.ok s (hw s (List.mem_of_mem_drop hs))⟩
section
variable {ls : List Str} {g : List (List Mv)} {ws : List Str} {x5 x6 x7 x8 x9 x10 x11 x12 : Option D}
abbrev EF (ls : List Str) (g : List (List Mv)) (ws : List Str) (x5 x6 x7 x8 x9 x10 x11 x12 : Option D) : DL.Env := [some (.own 1), some (mem ls g), some (tS ls), some (gridD g), some (tS ws), x5, x6, x7, x8, x9, x10, x11, x12]
theorem ref0 {n : Int} {R M : Sto} (v : Dv n R M) (hn : n < 900000) : ∃ d M', R0 (EF ls g ws x5 x6 x7 x8 x9 x10 x11 x12) M = .nx (EF ls g ws x5 x6 x7 x8 x9 x10 (some d) x12) M' ∧ NoObj d ∧ Dv (n + 1) R M' := by
  obtain ⟨d, M1, e, hd, v1⟩ := pick (ds := [.non, .int 5, tS ls, gridD g, .tup [tS ls, gridD g], .str ("memory" : Str)]) v (by omega) (by simp) (by simp)
  have s6 : (6 : Nat) ≤ sizeLine := szl (by decide)
  have s2 : (2 : Nat) ≤ sizeLine := szl (by decide)
  refine ⟨d, M1, ?_, ?_, v1⟩
  · rw [R0, sSet_eq, dCallF_eq]
    simp only [dCons_eq, dLst_eq, dTup_eq, dC_eq, dNil_eq, dVar_s, dVar_0, bind_ok, List.length_cons, List.length_nil, s6, s2, if_true, e, thn_ok, List.set_cons_succ, List.set_cons_zero]
  · simp at hd
    rcases hd with rfl | rfl | rfl | rfl | rfl | rfl <;> trivial
theorem ref1 {n : Int} {R M : Sto} (v : Dv n R M) (hn : n < 900000) : ∃ d M', R1 (EF ls g ws x5 x6 x7 x8 x9 x10 x11 x12) M = .nx (EF ls g ws x5 x6 x7 (some d) x9 x10 x11 x12) M' ∧ Base d ∧ isState g.length d = false ∧ Dv (n + 1) R M' := by
  obtain ⟨d, M1, e, hd, v1⟩ := pick (ds := [.int (-1), .int g.length, .int ((g.length : Int) + 7), .bl true, .non, .str ("0" : Str), .tup [.int 0], .lst [.int 0]]) v (by omega) (by simp) (by simp)
  have s8 : (8 : Nat) ≤ sizeLine := szl (by decide)
  have s1 : (1 : Nat) ≤ sizeLine := szl (by decide)
  have hlen : gLen M [gridD g] = some (.int g.length) := len_map' rowD g M
  refine ⟨d, M1, ?_, ?_, ?_, v1⟩
  · rw [R1, sSet_eq, dCallF_eq]
    simp only [dCons_eq, dLst_eq, dTup_eq, dNeg_eq, negV_int, dBin_eq, dCallB_eq, hlen, gAdd_int, ofO_some', dC_eq, dNil_eq, dVar_s, dVar_0, bind_ok, List.length_cons, List.length_nil, s8, s1, if_true, e, thn_ok, List.set_cons_succ, List.set_cons_zero]
  · simp at hd
    rcases hd with rfl | rfl | rfl | rfl | rfl | rfl | rfl | rfl <;> trivial
  · simp at hd
    rcases hd with rfl | rfl | rfl | rfl | rfl | rfl | rfl | rfl <;> simp [isState]
    omega
theorem ref2 (hl : Ls ls) (h4 : ls.length ≤ 4) {n : Int} {R M : Sto} (v : Dv n R M) (hn : n < 900000) : ∃ d M', R2 (EF ls g ws x5 x6 x7 x8 x9 x10 x11 x12) M = .nx (EF ls g ws x5 x6 x7 x8 x9 x10 x11 (some d)) M' ∧ Itm d ∧ oneOk ls d = false ∧ Dv (n + 1) R M' := by
  obtain ⟨z, ez, hz, oz⟩ := law_strange hl h4 M
  obtain ⟨s0, hs0⟩ : ∃ s0, ls[0]? = some s0 := ⟨_, List.getElem?_eq_getElem (show 0 < ls.length from hl.n0)⟩
  have hm := List.mem_of_getElem? hs0
  have l0 := (hl.lt s0 hm).2.1
  obtain ⟨d, M1, e, hd, v1⟩ := pick (ds := [.str z, .non, .int 3, .tup [.str s0], .str (s0 ++ ("_" : Str)), .str ("" : Str), .lst (ls.map .str)]) v (by omega) (by simp) (by simp)
  have s7 : (7 : Nat) ≤ sizeLine := szl (by decide)
  have s1 : (1 : Nat) ≤ sizeLine := szl (by decide)
  have hix : gIx M (tS ls) (.int 0) = some (.str s0) := at_of (ds := ls.map D.str) (k := 0) (by rw [List.getElem?_map, hs0]; rfl)
  have hl1 : ("_" : Str).length = 1 := by decide
  have hadd : gAdd M (.str s0) (.str ("_" : Str)) = some (.str (s0 ++ ("_" : Str))) := if_pos (szl (by omega))
  have hls : gList M [tS ls] = some (.lst (ls.map .str)) := rfl
  refine ⟨d, M1, ?_, ?_, ?_, v1⟩
  · rw [R2, sSet_eq, dCallF_eq]
    simp only [dCons_eq, dLst_eq, dCallF_eq, ez, dTup_eq, dBin_eq, dCallB_eq, hix, hadd, hls, ofO_some', dC_eq, dNil_eq, dVar_s, dVar_0, bind_ok, List.length_cons, List.length_nil, s7, s1, if_true, e, thn_ok, List.set_cons_succ, List.set_cons_zero]
  · simp only [List.mem_cons, List.not_mem_nil, or_false] at hd
    rcases hd with rfl | rfl | rfl | rfl | rfl | rfl | rfl
    · exact ⟨trivial, fun y e => by cases e; exact oz⟩
    · exact ⟨trivial, fun y e => by cases e⟩
    · exact ⟨trivial, fun y e => by cases e⟩
    · exact ⟨trivial, fun y e => by cases e⟩
    · exact ⟨trivial, fun y e => by cases e; exact scored_ok (hl.ok s0 hm)⟩
    · exact ⟨trivial, fun y e => by cases e; decide +kernel⟩
    · exact ⟨trivial, fun y e => by cases e⟩
  · simp only [List.mem_cons, List.not_mem_nil, or_false] at hd
    rcases hd with rfl | rfl | rfl | rfl | rfl | rfl | rfl
    · exact decide_eq_false hz
    · rfl
    · rfl
    · rfl
    · exact decide_eq_false (scored hl s0)
    · exact decide_eq_false (empty_no hl)
    · rfl
theorem ref34 (hl : Ls ls) (h4 : ls.length ≤ 4) (hw : ∀ s ∈ ws, s ∈ ls) (hn0 : ws.length ≤ 2000) {n : Int} {R M : Sto} (v : Dv n R M) (hn : n < 900000) : ∃ y5 d M', (sSq R3 R4) (EF ls g ws x5 x6 x7 x8 x9 x10 x11 x12) M = .nx (EF ls g ws y5 x6 x7 x8 x9 (some d) x11 x12) M' ∧ Wrd d ∧ wordB ls d = false ∧ Dv (n + 2) R M' := by
  obtain ⟨r, M1, e1, r0, r1, v1⟩ := tk ((ws.length : Int) + 1) v (by omega) (by omega) (by omega)
  obtain ⟨k, rfl⟩ := Int.eq_ofNat_of_zero_le r0
  have hk : k ≤ ws.length := by omega
  obtain ⟨z, ez, hz, oz⟩ := law_strange hl h4 M1
  obtain ⟨s0, hs0⟩ : ∃ s0, ls[0]? = some s0 := ⟨_, List.getElem?_eq_getElem (show 0 < ls.length from hl.n0)⟩
  have hm := List.mem_of_getElem? hs0
  have hla : D.lst [.str ("a" : Str)] = D.lst [.str ("a" : Str)] := rfl
  obtain ⟨d, M2, e, hd, v2⟩ := pick (ds := [.lst (ws.map .str), .str s0, .non, .tup ((ws.take k).map .str ++ [.str z] ++ (ws.drop k).map .str), .tup ((ws.take k).map .str ++ [.non] ++ (ws.drop k).map .str), .tup ((ws.take k).map .str ++ [.lst [.str ("a" : Str)]] ++ (ws.drop k).map .str), .int 7]) v1 (by omega) (by simp) (by simp)
  have s7 : (7 : Nat) ≤ sizeLine := szl (by decide)
  have s1 : (1 : Nat) ≤ sizeLine := szl (by decide)
  have hlen : gLen M [tS ws] = some (.int ws.length) := len_map' D.str ws M
  have hix : gIx M1 (tS ls) (.int 0) = some (.str s0) := at_of (ds := ls.map D.str) (k := 0) (by rw [List.getElem?_map, hs0]; rfl)
  have hls : gList M1 [tS ws] = some (.lst (ws.map .str)) := rfl
  have c1 : gSl M1 (tS ws) none (some (k : Int)) = some (.tup ((ws.take k).map .str)) := by
    show some (D.tup (cut (ws.map D.str) none (some (k : Int)))) = _
    rw [cut_to _ k (by rw [List.length_map]; exact hk), ← List.map_take]
  have c2 : gSl M1 (tS ws) (some (k : Int)) none = some (.tup ((ws.drop k).map .str)) := by
    show some (D.tup (cut (ws.map D.str) (some (k : Int)) none)) = _
    rw [cut_from _ k (by rw [List.length_map]; exact hk), ← List.map_drop]
  have sz : (5000 : Nat) ≤ sizeLine := by rw [sizeLine_eq]; decide
  have a1 : ∀ x : D, gAdd M1 (.tup ((ws.take k).map .str)) (.tup [x]) = some (.tup ((ws.take k).map .str ++ [x])) := fun x => if_pos (by rw [List.length_map, List.length_take, List.length_singleton]; omega)
  have a2 : ∀ x : D, gAdd M1 (.tup ((ws.take k).map .str ++ [x])) (.tup ((ws.drop k).map .str)) = some (.tup ((ws.take k).map .str ++ [x] ++ (ws.drop k).map .str)) := fun x => if_pos (by rw [List.length_append, List.length_map, List.length_take, List.length_singleton, List.length_map, List.length_drop]; omega)
  refine ⟨some (.int k), d, M2, ?_, ?_, ?_, v2.mono (by omega)⟩
  · have q3 : R3 (EF ls g ws x5 x6 x7 x8 x9 x10 x11 x12) M = .nx (EF ls g ws (some (.int k)) x6 x7 x8 x9 x10 x11 x12) M1 := by
      rw [R3, sSet_eq, dCallF_eq]
      simp only [dCons_eq, dBin_eq, dCallB_eq, dNil_eq, dVar_s, dVar_0, bind_ok, hlen, dC_eq, gAdd_int, ofO_some', e1, thn_ok, List.set_cons_succ, List.set_cons_zero]
    rw [sSq_eq, q3, seq_nx, R4, sSet_eq, dCallF_eq]
    simp only [dCons_eq, dLst_eq, dCallF_eq, ez, dTup_eq, dBin_eq, dSl_eq, dNoPart_eq, dPart_eq, c1, c2, a1, a2, dCallB_eq, hix, hls, ofO_some', dC_eq, dNil_eq, dVar_s, dVar_0, bind_ok, List.length_cons, List.length_nil, s7, s1, if_true, e, thn_ok, List.set_cons_succ, List.set_cons_zero]
  · simp only [List.mem_cons, List.not_mem_nil, or_false] at hd
    rcases hd with rfl | rfl | rfl | rfl | rfl | rfl | rfl
    · exact ⟨trivial, fun y e => by cases e⟩
    · exact ⟨trivial, fun y e => by cases e⟩
    · exact ⟨trivial, fun y e => by cases e⟩
    · exact wrd_mid hl hw hn0 k ⟨trivial, fun y e => by cases e; exact oz⟩
    · exact wrd_mid hl hw hn0 k ⟨trivial, fun y e => by cases e⟩
    · exact wrd_mid hl hw hn0 k ⟨trivial, fun y e => by cases e⟩
    · exact ⟨trivial, fun y e => by cases e⟩
  · simp only [List.mem_cons, List.not_mem_nil, or_false] at hd
    rcases hd with rfl | rfl | rfl | rfl | rfl | rfl | rfl
    · rfl
    · rfl
    · rfl
    · exact all_bad (decide_eq_false hz)
    · exact all_bad rfl
    · exact all_bad rfl
    · rfl
/-- a list of one's own, at the end: what is caught goes in -/
theorem ref567 {od it sg : D} (ho : NoObj od) (M : Sto) : ∃ y7, (sSq R5 (sSq R6 (sSq R7 R8))) (EF ls g ws x5 x6 x7 x8 x9 (some it) (some od) (some sg)) M = .nx (EF ls g ws x5 (some (.own M.length)) y7 x8 x9 (some it) (some od) (some sg)) (M ++ [.lst [X1, X1, X1]]) ∨ x8 = none := by
  cases x8 with
  | none => exact ⟨none, .inr rfl⟩
  | some aw =>
    refine ⟨some X1, .inl ?_⟩
    have s1 : (1 : Nat) ≤ sizeLine := szl (by decide)
    have c1 := read_x1 (d := od) (x := aw) (y := it) ho M
    have c2 := fun N => stepped_x1 (d := od) (x := .int 0) (y := sg) ho N
    have c3 := fun N => negated_x1 (d := od) ho N
    have a1 := app_end M [X1] X1 (by rw [sizeLine_eq]; decide)
    have a2 := app_end M [X1, X1] X1 (by rw [sizeLine_eq]; decide)
    simp only [List.cons_append, List.nil_append] at a1 a2
    have q5 : R5 (EF ls g ws x5 x6 x7 (some aw) x9 (some it) (some od) (some sg)) M = .nx (EF ls g ws x5 (some (.own M.length)) x7 (some aw) x9 (some it) (some od) (some sg)) (M ++ [.lst [X1]]) := by
      rw [R5, sSet_eq, dLstO_eq, dCons_eq, dCaught_eq, dCallF_eq]
      simp only [dCons_eq, dNil_eq, dVar_s, dVar_0, bind_ok, c1, catR_exc, List.length_cons, List.length_nil, s1, if_true, thn_ok, List.set_cons_succ, List.set_cons_zero]
    have q6 : R6 (EF ls g ws x5 (some (.own M.length)) x7 (some aw) x9 (some it) (some od) (some sg)) (M ++ [.lst [X1]]) = .nx (EF ls g ws x5 (some (.own M.length)) x7 (some aw) x9 (some it) (some od) (some sg)) (M ++ [.lst [X1, X1]]) := by
      rw [R6, sEx_eq, dMt_own]
      simp only [dVar_s, dVar_0, bind_ok, lst_end]
      rw [dCons_eq, dCaught_eq, dCallF_eq]
      simp only [dCons_eq, dNil_eq, dC_eq, dVar_s, dVar_0, bind_ok, c2, catR_exc, a1, thn_ok]
    have q7 : R7 (EF ls g ws x5 (some (.own M.length)) x7 (some aw) x9 (some it) (some od) (some sg)) (M ++ [.lst [X1, X1]]) = .nx (EF ls g ws x5 (some (.own M.length)) x7 (some aw) x9 (some it) (some od) (some sg)) (M ++ [.lst [X1, X1, X1]]) := by
      rw [R7, sEx_eq, dMt_own]
      simp only [dVar_s, dVar_0, bind_ok, lst_end]
      rw [dCons_eq, dCaught_eq, dCallF_eq]
      simp only [dCons_eq, dNil_eq, dC_eq, dVar_s, dVar_0, bind_ok, c3, catR_exc, a2, thn_ok]
    let S : Nat → DL.Env × Sto := fun i => (EF ls g ws x5 (some (.own M.length)) (if i = 0 then x7 else some X1) (some aw) x9 (some it) (some od) (some sg), M ++ [.lst [X1, X1, X1]])
    have hX : ∀ i d, ([X1, X1, X1] : List D)[i]? = some d → d = X1 := fun i d h => by
      have := List.mem_of_getElem? h
      simpa using this
    have hfx : gFldX [1] ("part" : Str) X1 = some .non := by rfl
    have hic : ic_BadMemory (.exc 1) = some true := rfl
    obtain ⟨I, k1, k2⟩ := forI_it (g := gNm 7) (s := sIf (dOr (dNot (dTst (dIsi ic_BadMemory (dVar 7)))) (dTst (dBin gIsNot (dFldX [1] ("part" : Str) (dVar 7)) (dC .non)))) (sRt (dC (.bl false))) (sNx)) (x := .own M.length) (ds := [X1, X1, X1]) (m := 4000) S (fun i _ => lst_end M [X1, X1, X1]) (by decide) fun i d hd k => by
      rw [hX i d hd, stp_nm]
      show ((sIf (dOr (dNot (dTst (dIsi ic_BadMemory (dVar 7)))) (dTst (dBin gIsNot (dFldX [1] ("part" : Str) (dVar 7)) (dC .non)))) (sRt (dC (.bl false))) (sNx)) (EF ls g ws x5 (some (.own M.length)) (some X1) (some aw) x9 (some it) (some od) (some sg)) (M ++ [.lst [X1, X1, X1]])).aft k = k (EF ls g ws x5 (some (.own M.length)) (some X1) (some aw) x9 (some it) (some od) (some sg)) (M ++ [.lst [X1, X1, X1]])
      rw [sIf_eq, dOr_eq]
      simp only [dNot_eq, dTst_eq, dIsi_eq, dVar_s, dVar_0, bind_ok, kIsi_exc, hic, isR_some, asB_bl, Bool.not_true, Bool.false_eq_true, if_false, dBin_eq, dFldX_eq, hfx, ofO_some', dC_eq, gIsNot_non, isNon_non, thn_ok, sNx_eq, aft_nx]
    rw [sSq_eq, q5, seq_nx, sSq_eq, q6, seq_nx, sSq_eq, q7, seq_nx, R8, sFor_eq, iAny_eq]
    have k1 : kAny (.own M.length) (M ++ [.lst [X1, X1, X1]]) = .ok I (M ++ [.lst [X1, X1, X1]]) := k1
    have k2 : forI (gNm 7) (sIf (dOr (dNot (dTst (dIsi ic_BadMemory (dVar 7)))) (dTst (dBin gIsNot (dFldX [1] ("part" : Str) (dVar 7)) (dC .non)))) (sRt (dC (.bl false))) (sNx)) 4000 I (EF ls g ws x5 (some (.own M.length)) x7 (some aw) x9 (some it) (some od) (some sg)) (M ++ [.lst [X1, X1, X1]]) = .nx (EF ls g ws x5 (some (.own M.length)) (some X1) (some aw) x9 (some it) (some od) (some sg)) (M ++ [.lst [X1, X1, X1]]) := k2
    simp only [dVar_s, dVar_0, bind_ok, k1, thn_ok]
    exact k2
theorem ref9 (hl : Ls ls) (hg : Gd ls.length g) {od it sg aw : D} (ha : Base aw) (hs : isState g.length aw = false) (M : Sto) : (sSq R9 (sSq R10 (sSq R11 (sSq R12 R13)))) (EF ls g ws x5 x6 x7 (some aw) x9 (some it) (some od) (some sg)) M = .nx (EF ls g ws x5 (some (.own M.length)) x7 (some aw) x9 (some it) (some od) (some sg)) (M ++ [.lst [X3, X3, X3, X3]]) := by
  have s1 : (1 : Nat) ≤ sizeLine := szl (by decide)
  have s0 : (0 : Nat) ≤ sizeLine := szl (by decide)
  obtain ⟨s0', hs0⟩ : ∃ s0, ls[0]? = some s0 := ⟨_, List.getElem?_eq_getElem (show 0 < ls.length from hl.n0)⟩
  have hix : ∀ M, gIx M (tS ls) (.int 0) = some (.str s0') := fun M => at_of (ds := ls.map D.str) (k := 0) (by rw [List.getElem?_map, hs0]; rfl)
  have c1 := fun (y : D) N => read_x2 (ls := ls) (d := aw) (y := y) hg.n1 ha hs N
  have c2 := fun (y : D) N => stepped_x2 (ls := ls) (d := aw) (y := y) hg.n1 ha hs N
  have a1 := app_end M [X3] X3 (by rw [sizeLine_eq]; decide)
  have a2 := app_end M [X3, X3] X3 (by rw [sizeLine_eq]; decide)
  have a3 := app_end M [X3, X3, X3] X3 (by rw [sizeLine_eq]; decide)
  simp only [List.cons_append, List.nil_append] at a1 a2 a3
  have q9 : R9 (EF ls g ws x5 x6 x7 (some aw) x9 (some it) (some od) (some sg)) M = .nx (EF ls g ws x5 (some (.own M.length)) x7 (some aw) x9 (some it) (some od) (some sg)) (M ++ [.lst [X3]]) := by
    rw [R9, sSet_eq, dLstO_eq, dCons_eq, dCaught_eq, dCallF_eq]
    simp only [dCons_eq, dNil_eq, dVar_s, dVar_0, bind_ok, c1, catR_exc, List.length_cons, List.length_nil, s1, if_true, thn_ok, List.set_cons_succ, List.set_cons_zero]
  have q10 : R10 (EF ls g ws x5 (some (.own M.length)) x7 (some aw) x9 (some it) (some od) (some sg)) (M ++ [.lst [X3]]) = .nx (EF ls g ws x5 (some (.own M.length)) x7 (some aw) x9 (some it) (some od) (some sg)) (M ++ [.lst [X3, X3]]) := by
    rw [R10, sEx_eq, dMt_own]
    simp only [dVar_s, dVar_0, bind_ok, lst_end]
    rw [dCons_eq, dCaught_eq, dCallF_eq]
    simp only [dCons_eq, dNil_eq, dC_eq, dVar_s, dVar_0, bind_ok, c2, catR_exc, a1, thn_ok]
  have q11 : R11 (EF ls g ws x5 (some (.own M.length)) x7 (some aw) x9 (some it) (some od) (some sg)) (M ++ [.lst [X3, X3]]) = .nx (EF ls g ws x5 (some (.own M.length)) x7 (some aw) x9 (some it) (some od) (some sg)) (M ++ [.lst [X3, X3, X3]]) := by
    rw [R11, sEx_eq, dMt_own]
    simp only [dVar_s, dVar_0, bind_ok, lst_end]
    rw [dCons_eq, dCaught_eq, dCallF_eq]
    simp only [dCons_eq, dNil_eq, dC_eq, dVar_s, dVar_0, bind_ok, c1, catR_exc, a2, thn_ok]
  have q12 : R12 (EF ls g ws x5 (some (.own M.length)) x7 (some aw) x9 (some it) (some od) (some sg)) (M ++ [.lst [X3, X3, X3]]) = .nx (EF ls g ws x5 (some (.own M.length)) x7 (some aw) x9 (some it) (some od) (some sg)) (M ++ [.lst [X3, X3, X3, X3]]) := by
    rw [R12, sEx_eq, dMt_own]
    simp only [dVar_s, dVar_0, bind_ok, lst_end]
    rw [dCons_eq, dCaught_eq, dCallF_eq]
    simp only [dCons_eq, dBin_eq, dNil_eq, dC_eq, dVar_s, dVar_0, bind_ok, hix, ofO_some', c2, catR_exc, a3, thn_ok]
  have hic : ic_BadState (.exc 3) = some true := rfl
  obtain ⟨I, k1, k2⟩ := lcI_map (T := .one 7) (ft := dNot (dTst (dIsi ic_BadState (dVar 7)))) (fe := dC (.int 1)) (ws := [7]) (p := fun _ => false) (f := fun d => d) (ρ := EF ls g ws x5 (some (.own M.length)) x7 (some aw) x9 (some it) (some od) (some sg)) (M := M ++ [.lst [X3, X3, X3, X3]]) (d0 := .own M.length) (ds := [X3, X3, X3, X3]) (show seqOf (M ++ [.lst [X3, X3, X3, X3]]) (.own M.length) = some [X3, X3, X3, X3] from lst_end M [X3, X3, X3, X3]) fun d hd => by
    have : d = X3 := by simpa using hd
    subst this
    refine ⟨EF ls g ws x5 (some (.own M.length)) (some X3) (some aw) x9 (some it) (some od) (some sg), rfl, ?_, fun h => by cases h⟩
    simp only [dNot_eq, dTst_eq, dIsi_eq, dVar_s, dVar_0, bind_ok, kIsi_exc, hic, isR_some, asB_bl, Bool.not_true]
  have ef : (([X3, X3, X3, X3] : List D).filter fun _ => false).map (fun d => d) = [] := by simp
  rw [ef] at k2
  have hne : gEqB true (M ++ [.lst [X3, X3, X3, X3]]) (.lst []) (.lst []) = some (.bl false) := by
    simp [gEqB, flatEq, toPy, toPys, SeqAt.shaped, PyData.canLay0, PyData.canLayAll0, PyData.depth, PyData.depthAll, PyData.eqv, PyData.eqvAll]
  rw [sSq_eq, q9, seq_nx, sSq_eq, q10, seq_nx, sSq_eq, q11, seq_nx, sSq_eq, q12, seq_nx, R13, sIf_eq, dTst_eq, dBin_eq, fLc_eq, iAny_eq]
  simp only [dVar_s, dVar_0, bind_ok, k1, k2, kLc_f, List.length_nil, s0, if_true, dLst_eq, dNil_eq, hne, ofO_some', asB_bl, thn_ok, Bool.false_eq_true, if_false, sNx_eq]
theorem ref1416 (hl : Ls ls) (hg : Gd ls.length g) {od it sg aw : D} (hi : Wrd it) (hi2 : wordB ls it = false) (hs : Itm sg) (hs2 : oneOk ls sg = false) {n : Int} {R M : Sto} (v : Dv n R M) (hn : n < 900000) : ∃ M', (sSq R14 (sSq R15 R16)) (EF ls g ws x5 x6 x7 (some aw) x9 (some it) (some od) (some sg)) M = .rt (.bl true) M' ∧ Dv (n + 1) R M' := by
  obtain ⟨r, M1, e1, r0, r1, v1⟩ := tk (g.length : Int) v (by omega) (by have := hg.n0; omega) (by have := hg.n1; omega)
  have c1 := read_x3 hl hg.n1 r0 r1 hi hi2 M1
  have c2 := stepped_x3 hl hg.n1 r0 r1 hs hs2 M1
  have hlen : gLen M [gridD g] = some (.int g.length) := len_map' rowD g M
  have i1 : ic_BadWord (.exc 4) = some true := rfl
  have i2 : ic_BadLetter (.exc 2) = some true := rfl
  refine ⟨M1, ?_, v1⟩
  have q14 : R14 (EF ls g ws x5 x6 x7 (some aw) x9 (some it) (some od) (some sg)) M = .nx (EF ls g ws x5 x6 x7 (some aw) (some (.int r)) (some it) (some od) (some sg)) M1 := by
    rw [R14, sSet_eq, dCallF_eq]
    simp only [dCons_eq, dCallB_eq, dNil_eq, dVar_s, dVar_0, bind_ok, hlen, ofO_some', e1, thn_ok, List.set_cons_succ, List.set_cons_zero]
  have q15 : R15 (EF ls g ws x5 x6 x7 (some aw) (some (.int r)) (some it) (some od) (some sg)) M1 = .nx (EF ls g ws x5 x6 x7 (some aw) (some (.int r)) (some it) (some od) (some sg)) M1 := by
    rw [R15, sIf_eq, dNot_eq, dTst_eq, dIsi_eq, dCaught_eq, dCallF_eq]
    simp only [dCons_eq, dNil_eq, dVar_s, dVar_0, bind_ok, c1, catR_exc, kIsi_exc, i1, isR_some, asB_bl, Bool.not_true, thn_ok, Bool.false_eq_true, if_false, sNx_eq]
  rw [sSq_eq, q14, seq_nx, sSq_eq, q15, seq_nx, R16, sRt_eq, dIsi_eq, dCaught_eq, dCallF_eq]
  simp only [dCons_eq, dNil_eq, dVar_s, dVar_0, bind_ok, c2, catR_exc, kIsi_exc, i2, isR_some, thn_ok]
end
theorem sq_as (a b c : FS) : sSq (sSq a b) c = sSq a (sSq b c) := by
  funext ρ M
  simp only [sSq_eq]
  cases a ρ M <;> rfl
theorem refused {ls ws : List Str} {g : List (List Mv)} (hl : Ls ls) (h4 : ls.length ≤ 4) (hg : Gd ls.length g) (hw : ∀ s ∈ ws, s ∈ ls) (hn0 : ws.length ≤ 2000) {n : Int} {R M : Sto} (v : Dv n R M) (hn : n < 800000) : ∃ J M', F__law_refusals [.own 1, mem ls g, tS ls, gridD g, tS ws] M = .ok (.bl true) M' ∧ Dv (n + 6) (R ++ J) M' := by
  obtain ⟨od, M1, c0, ho, v1⟩ := ref0 (ls := ls) (g := g) (ws := ws) (x5 := none) (x6 := none) (x7 := none) (x8 := none) (x9 := none) (x10 := none) (x11 := none) (x12 := none) v (by omega)
  obtain ⟨aw, M2, c1, ha, ha2, v2⟩ := ref1 (ls := ls) (g := g) (ws := ws) (x5 := none) (x6 := none) (x7 := none) (x8 := none) (x9 := none) (x10 := none) (x11 := some od) (x12 := none) v1 (by omega)
  obtain ⟨sg, M3, c2, hs, hs2, v3⟩ := ref2 (ls := ls) (g := g) (ws := ws) (x5 := none) (x6 := none) (x7 := none) (x8 := some aw) (x9 := none) (x10 := none) (x11 := some od) (x12 := none) hl h4 v2 (by omega)
  obtain ⟨y5, it, M4, c34, hi, hi2, v4⟩ := ref34 (ls := ls) (g := g) (ws := ws) (x5 := none) (x6 := none) (x7 := none) (x8 := some aw) (x9 := none) (x10 := none) (x11 := some od) (x12 := some sg) hl h4 hw hn0 v3 (by omega)
  obtain ⟨y7, c5⟩ := ref567 (ls := ls) (g := g) (ws := ws) (x5 := y5) (x6 := none) (x7 := none) (x8 := some aw) (x9 := none) (it := it) (sg := sg) ho M4
  have c5 := c5.resolve_right (by simp)
  have v5 := v4.app [.lst [X1, X1, X1]]
  have c9 := ref9 (ls := ls) (g := g) (ws := ws) (x5 := y5) (x6 := some (.own M4.length)) (x7 := y7) (x9 := none) (it := it) (od := od) (sg := sg) hl hg ha ha2 (M4 ++ [.lst [X1, X1, X1]])
  have v9 := v5.app [.lst [X3, X3, X3, X3]]
  obtain ⟨M5, c14, v14⟩ := ref1416 (ls := ls) (g := g) (ws := ws) (x5 := y5) (x6 := some (.own (M4 ++ [MO.lst [X1, X1, X1]]).length)) (x7 := y7) (x9 := none) (aw := aw) (od := od) hl hg hi hi2 hs hs2 v9 (by omega)
  refine ⟨_, M5, ?_, by rw [List.append_assoc] at v14; exact v14.mono (by omega)⟩
  have hb : b__law_refusals = refB := rfl
  rw [F__law_refusals, fnD_eq]
  show outR (b__law_refusals (EF ls g ws none none none none none none none none) M) = _
  have e5 : ∀ k : FS, sSq R5 (sSq R6 (sSq R7 (sSq R8 k))) = sSq (sSq R5 (sSq R6 (sSq R7 R8))) k := fun k => by rw [sq_as, sq_as, sq_as]
  have e9 : ∀ k : FS, sSq R9 (sSq R10 (sSq R11 (sSq R12 (sSq R13 k)))) = sSq (sSq R9 (sSq R10 (sSq R11 (sSq R12 R13)))) k := fun k => by rw [sq_as, sq_as, sq_as, sq_as]
  have e3 : ∀ k : FS, sSq R3 (sSq R4 k) = sSq (sSq R3 R4) k := fun k => by rw [sq_as]
  rw [hb, refB, sSq_eq, c0, seq_nx, sSq_eq, c1, seq_nx, sSq_eq, c2, seq_nx, e3, sSq_eq, c34, seq_nx, e5, sSq_eq, c5, seq_nx, e9, sSq_eq, c9, seq_nx, c14]
  rfl
/-! ### a lap -/
section
variable {sc : D} {x2 x3 x4 x5 x6 x7 x8 x9 x10 x11 x12 x13 x14 x15 x16 x17 x18 x19 x20 : Option D}
abbrev EL (sc : D) (x2 x3 x4 x5 x6 x7 x8 x9 x10 x11 x12 x13 x14 x15 x16 x17 x18 x19 x20 : Option D) : DL.Env := [some sc, some (.own 1), x2, x3, x4, x5, x6, x7, x8, x9, x10, x11, x12, x13, x14, x15, x16, x17, x18, x19, x20]
theorem lap0 {n : Int} {R M : Sto} (v : Dv n R M) (hn : n < 500000) : ∃ ls J M', L0 (EL sc x2 x3 x4 x5 x6 x7 x8 x9 x10 x11 x12 x13 x14 x15 x16 x17 x18 x19 x20) M = .nx (EL sc x2 (some (tS ls)) x4 x5 x6 x7 x8 x9 x10 x11 x12 x13 x14 x15 x16 x17 x18 x19 x20) M' ∧ Ls ls ∧ ls.length ≤ 4 ∧ Dv (n + 100) (R ++ J) M' := by
  obtain ⟨a, M1, e1, a0, a1, v1⟩ := tk 4 v (by omega) (by decide) (by decide)
  obtain ⟨ls, J, M2, e2, hl, hk, v2⟩ := law_signs (k := 1 + a) v1 (by omega) (by omega) (by omega)
  refine ⟨ls, J, M2, ?_, hl, by omega, v2.mono (by omega)⟩
  rw [L0, sSet_eq, dCallF_eq]
  simp only [dCons_eq, dBin_eq, dCallF_eq, dC_eq, dNil_eq, dVar_s, dVar_0, bind_ok, e1, gAdd_int, ofO_some', e2, thn_ok, List.set_cons_succ, List.set_cons_zero]
theorem lap1 {ls : List Str} (hl : Ls ls) {n : Int} {R M : Sto} (v : Dv n R M) (hn : n < 500000) : ∃ g J M', L1 (EL sc x2 (some (tS ls)) x4 x5 x6 x7 x8 x9 x10 x11 x12 x13 x14 x15 x16 x17 x18 x19 x20) M = .nx (EL sc x2 (some (tS ls)) (some (gridD g)) x5 x6 x7 x8 x9 x10 x11 x12 x13 x14 x15 x16 x17 x18 x19 x20) M' ∧ Gd ls.length g ∧ g.length ≤ 4 ∧ Dv (n + 2000) (R ++ J) M' := by
  obtain ⟨a, M1, e1, a0, a1, v1⟩ := tk 4 v (by omega) (by decide) (by decide)
  obtain ⟨d, M2, e2, hd, v2⟩ := pick (ds := [.int 1, .int 9, .int 999]) v1 (by omega) (by simp) (by simp)
  obtain ⟨w, rfl, w0, w1⟩ : ∃ w, d = .int w ∧ 0 ≤ w ∧ w ≤ 999 := by
    simp at hd
    rcases hd with rfl | rfl | rfl <;> exact ⟨_, rfl, by decide, by decide⟩
  obtain ⟨g, J, M3, e3, hg, hk, v3⟩ := law_grid (many := 1 + a) (wide := ls.length) (pk := w) v2 (by omega) (by omega) (by omega) (by omega) (by have := hl.n1; omega) w0 w1
  have hlen : ∀ M, gLen M [tS ls] = some (.int ls.length) := fun M => len_map' D.str ls M
  have s3 : (3 : Nat) ≤ sizeLine := szl (by decide)
  refine ⟨g, J, M3, ?_, by simpa using hg, by omega, v3.mono (by omega)⟩
  rw [L1, sSet_eq, dCallF_eq]
  simp only [dCons_eq, dBin_eq, dCallF_eq, dCallB_eq, dLst_eq, dC_eq, dNil_eq, dVar_s, dVar_0, bind_ok, e1, gAdd_int, ofO_some', hlen, List.length_cons, List.length_nil, s3, if_true, e2, e3, thn_ok, List.set_cons_succ, List.set_cons_zero]
theorem lap2 {ls : List Str} {g : List (List Mv)} (hl : Ls ls) (hg : Gd ls.length g) {n : Int} {R M : Sto} (v : Dv n R M) (hn : n < 500000) : ∃ ws M', L2 (EL sc x2 (some (tS ls)) (some (gridD g)) x5 x6 x7 x8 x9 x10 x11 x12 x13 x14 x15 x16 x17 x18 x19 x20) M = .nx (EL sc x2 (some (tS ls)) (some (gridD g)) (some (mem ls g)) (some (tS ws)) x7 x8 x9 x10 x11 x12 x13 x14 x15 x16 x17 x18 x19 x20) M' ∧ (∀ s ∈ ws, s ∈ ls) ∧ ws.length ≤ 2000 ∧ Dv (n + 100) R M' := by
  obtain ⟨ws, M1, e1, hw, hn0, v1⟩ := law_text hl v (by omega)
  have hm := made hl hg (ρ := EL sc x2 (some (tS ls)) (some (gridD g)) x5 x6 x7 x8 x9 x10 x11 x12 x13 x14 x15 x16 x17 x18 x19 x20) (fs := dCons (dVar 3) (dCons (dVar 4) (dNil))) (M := M) (M1 := M) (by simp only [dCons_eq, dNil_eq, dVar_s, dVar_0, bind_ok])
  refine ⟨ws, M1, ?_, hw, hn0, v1⟩
  rw [L2, sPar_eq, hm, thn_ok, dCallF_eq]
  simp only [dCons_eq, dNil_eq, dVar_s, dVar_0, bind_ok, e1, thn_ok, List.set_cons_succ, List.set_cons_zero]
theorem lap3 {ls ws : List Str} {g : List (List Mv)} (hl : Ls ls) (hg : Gd ls.length g) {n : Int} {R M : Sto} (v : Dv n R M) : ∃ J, L3 (EL sc x2 (some (tS ls)) (some (gridD g)) (some (mem ls g)) (some (tS ws)) x7 x8 x9 x10 x11 x12 x13 x14 x15 x16 x17 x18 x19 x20) M = .nx (EN sc ls g ws x2 (some (.lst (intUp 0 g.length))) x9 x10 x11 x12 x13 x14 x15 x16 x17 x18 x19 x20) (M ++ J) ∧ Dv n (R ++ J) (M ++ J) := by
  obtain ⟨J, e⟩ := negated_ok hl hg M
  have hlen : ∀ M, gLen M [gridD g] = some (.int g.length) := fun M => len_map' rowD g M
  refine ⟨J, ?_, v.app J⟩
  rw [L3, sPar_eq, dCallF_eq]
  simp only [dCons_eq, dNil_eq, dVar_s, dVar_0, bind_ok, e, thn_ok, dLrg_eq, dCallB_eq, hlen, ofO_some', kLrg_int (show g.length < 1000000 by have := hg.n1; omega), List.set_cons_succ, List.set_cons_zero]
theorem up_int (k : Nat) : ∃ is : List Int, intUp 0 k = is.map .int ∧ is.length = k ∧ ∀ i ∈ is, 0 ≤ i ∧ i < k := by
  refine ⟨(List.range k).map fun (i : Nat) => (0 : Int) + i, by rw [intUp_range, List.map_map]; rfl, by simp, fun i hi => ?_⟩
  obtain ⟨j, hj, rfl⟩ := List.mem_map.1 hi
  have := List.mem_range.1 hj
  omega
theorem lap4 {ls ws : List Str} {g : List (List Mv)} (hl : Ls ls) (hg : Gd ls.length g) (hw : ∀ s ∈ ws, s ∈ ls) (hn0 : ws.length ≤ 2000) {n : Int} {R M : Sto} (v : Dv n R M) (hn : n < 500000) :
    ∃ y9 y10 y11 y12 y13 y14 y15 y16 y17 y18 y19 y20 M', L4 (EN sc ls g ws x2 (some (.lst (intUp 0 g.length))) x9 x10 x11 x12 x13 x14 x15 x16 x17 x18 x19 x20) M = .nx (EN sc ls g ws x2 (some (.lst (intUp 0 g.length))) y9 y10 y11 y12 y13 y14 y15 y16 y17 y18 y19 y20) M' ∧ Dv (n + 200) R M' := by
  obtain ⟨is, hi, hil, hir⟩ := up_int g.length
  have hlen : gLen M [tS ws] = some (.int ws.length) := len_map' D.str ws M
  have s1 : (1 : Nat) ≤ sizeLine := szl (by decide)
  by_cases hc : (ws.length : Int) < 99
  · obtain ⟨y9, y10, y11, y12, y13, y14, y15, y16, y17, y18, y19, y20, M', e, v'⟩ := st_loop (sc := sc) (x2 := x2) (x8 := some (.lst (intUp 0 g.length))) hl hg hw hn0 is n M x9 x10 x11 x12 x13 x14 x15 x16 x17 x18 x19 x20 hir v (by have := hg.n1; omega)
    refine ⟨y9, y10, y11, y12, y13, y14, y15, y16, y17, y18, y19, y20, M', ?_, v'.mono (by have := hg.n1; omega)⟩
    rw [← hi] at e
    rw [L4, sFor_eq, iAny_eq, dIf_eq]
    simp only [dTst_eq, dBin_eq, dCallB_eq, dCons_eq, dNil_eq, dC_eq, dVar_s, dVar_0, bind_ok, hlen, ofO_some', gLt_int, hc, decide_true, asB_bl, if_true, kAny_lst, thn_ok, forI_fix]
    exact e
  · have hne : intUp 0 g.length ≠ [] := fun z => by
      have e := congrArg List.length z
      rw [up_len] at e
      have e1 := hg.n0
      have e0 : ([] : List D).length = 0 := rfl
      omega
    obtain ⟨d, M1, e1, hd, v1⟩ := pick (ds := intUp 0 g.length) v (by omega) hne (by rw [up_len]; have := hg.n1; omega)
    rw [hi] at hd
    obtain ⟨i, him, rfl⟩ := List.mem_map.1 hd
    obtain ⟨y9, y10, y11, y12, y13, y14, y15, y16, y17, y18, y19, y20, M', e, v'⟩ := st_loop (sc := sc) (x2 := x2) (x8 := some (.lst (intUp 0 g.length))) hl hg hw hn0 [i] (n + 1) M1 x9 x10 x11 x12 x13 x14 x15 x16 x17 x18 x19 x20 (fun j hj => by rw [List.mem_singleton.1 hj]; exact hir i him) v1 (by simp; omega)
    refine ⟨y9, y10, y11, y12, y13, y14, y15, y16, y17, y18, y19, y20, M', ?_, v'.mono (by simp; omega)⟩
    rw [L4, sFor_eq, iAny_eq, dIf_eq]
    simp only [dTst_eq, dBin_eq, dCallB_eq, dCallF_eq, dLst_eq, dCons_eq, dNil_eq, dC_eq, dVar_s, dVar_0, bind_ok, hlen, ofO_some', gLt_int, hc, decide_false, asB_bl, Bool.false_eq_true, if_false, e1, List.length_cons, List.length_nil, s1, if_true, kAny_lst, thn_ok, forI_fix]
    exact e
theorem lap56 {ls ws : List Str} {g : List (List Mv)} (hl : Ls ls) (h4 : ls.length ≤ 4) (hg : Gd ls.length g) (hg4 : g.length ≤ 4) (hw : ∀ s ∈ ws, s ∈ ls) (hn0 : ws.length ≤ 2000) {n : Int} {R M : Sto} (v : Dv n R M) (hn : n < 500000) :
    ∃ J M', (sSq L5 L6) (EN sc ls g ws x2 x8 x9 x10 x11 x12 x13 x14 x15 x16 x17 x18 x19 x20) M = .nx (EN sc ls g ws x2 x8 x9 x10 x11 x12 x13 x14 x15 x16 x17 x18 x19 x20) M' ∧ Dv (n + 6) (R ++ J) M' := by
  have hng := ng_ok hg
  obtain ⟨J1, e1⟩ := negated_ok hl hng M
  rw [ng_ng] at e1
  have v1 := v.app J1
  obtain ⟨J2, M2, e2, v2⟩ := refused hl h4 hg hw hn0 v1 (by omega)
  have nt : nst (tS ls) ≤ 60 := by
    have : nsts (ls.map D.str) ≤ 0 := nsts_le fun d hd => by
      obtain ⟨m, hm, rfl⟩ := List.mem_map.1 hd
      exact Nat.le_refl _
    show nsts (ls.map D.str) + 1 ≤ 60
    omega
  have ng3 : nst (gridD g) ≤ 60 := Nat.le_trans (ns_grid g) (by decide)
  have gq := gEq_cl (M := M) (neg := true) (cl_tS hl) (cl_tS hl) nt nt rfl
  rw [eqD_self] at gq
  simp only [if_true, Bool.not_true] at gq
  have em := eq_mem hl hl hg hg (M ++ J1)
  rw [eqD_self, eqD_self] at em
  have hlen : gLen M [gridD g] = some (.int g.length) := len_map' rowD g M
  have hwt : wt (gridD g) ≤ 16000000 := by
    have h1 := wt_grid (k := 4) (g := g) fun r hr => by rw [hg.wd r hr]; exact h4
    have h2 := Nat.mul_le_mul_right (4 * 5800 + 4 + 2) hg4
    omega
  have rp : gRepr (M ++ J1) [gridD g] = some (tx (gridD g)) := repr_cl (cl_grid hg) ng3 hwt
  have gt : gath 0 1 [0] [] [mem ls (ng g)] = [mem ls (ng g)] := rfl
  have tk : dCallK F_negated 0 1 [0] dNil (dCons (dVar 7) (dNil)) (EN sc ls g ws x2 x8 x9 x10 x11 x12 x13 x14 x15 x16 x17 x18 x19 x20) M = .ok (mem ls g) (M ++ J1) := by
    rw [dCallK_eq]
    simp only [dCons_eq, dNil_eq, dVar_s, dVar_0, bind_ok, gt, e1]
  have eo : dEqO 0 true F_Memory___eq__ (dCallK F_negated 0 1 [0] dNil (dCons (dVar 7) (dNil))) (dVar 5) (EN sc ls g ws x2 x8 x9 x10 x11 x12 x13 x14 x15 x16 x17 x18 x19 x20) M = .ok (.bl false) (M ++ J1) :=
    dEqO_ok (b := true) tk (by simp only [dVar_s, dVar_0]) (k := .obj 0) rfl (by rfl) em
  have lo : dLenO 0 F_Memory___len__ (dVar 7) (EN sc ls g ws x2 x8 x9 x10 x11 x12 x13 x14 x15 x16 x17 x18 x19 x20) M = .ok (.int g.length) M := by
    rw [dLenO_eq, dVar_s, dVar_s, dVar_s, dVar_s, dVar_s, dVar_s, dVar_s, dVar_0, bind_ok, leno_mem (by rw [ng_len]; omega), ng_len]
  refine ⟨J1 ++ J2, M2, ?_, by rw [← List.append_assoc]; exact v2⟩
  have q5 : L5 (EN sc ls g ws x2 x8 x9 x10 x11 x12 x13 x14 x15 x16 x17 x18 x19 x20) M = .nx (EN sc ls g ws x2 x8 x9 x10 x11 x12 x13 x14 x15 x16 x17 x18 x19 x20) (M ++ J1) := by
    rw [L5, sIf_eq, dOr_eq, dTst_eq, dBin_eq, dFld_eq]
    simp only [dVar_s, dVar_0, bind_ok, fld_l, ofO_some', gq, asB_bl, Bool.false_eq_true, if_false]
    rw [dOr_eq, dTst_eq, dBin_eq, lo, bind_ok]
    simp only [dCallB_eq, dCons_eq, dNil_eq, dVar_s, dVar_0, bind_ok, hlen, ofO_some', gNe_int, decide_true, Bool.not_true, asB_bl, Bool.false_eq_true, if_false]
    rw [dTst_eq, eo]
    simp only [bind_ok, asB_bl, thn_ok, Bool.false_eq_true, if_false, sNx_eq]
  rw [sSq_eq, q5, seq_nx, L6, sIf_eq, dOr_eq, dTst_eq, dBin_eq]
  simp only [dCallB_eq, dFld_eq, dCons_eq, dNil_eq, dVar_s, dVar_0, bind_ok, fld_m, rp, ofO_some', ne_tx, asB_bl, Bool.false_eq_true, if_false, dNot_eq, dTst_eq, dCallF_eq, e2, Bool.not_true, thn_ok, sNx_eq]
theorem lap {n : Int} {R M : Sto} (v : Dv n R M) (hn : n < 400000) : ∃ y3 y4 y5 y6 y7 y8 y9 y10 y11 y12 y13 y14 y15 y16 y17 y18 y19 y20 J M',
    lapB (EL sc x2 x3 x4 x5 x6 x7 x8 x9 x10 x11 x12 x13 x14 x15 x16 x17 x18 x19 x20) M = .nx (EL sc x2 y3 y4 y5 y6 y7 y8 y9 y10 y11 y12 y13 y14 y15 y16 y17 y18 y19 y20) M' ∧ Dv (n + 5000) (R ++ J) M' := by
  obtain ⟨ls, J0, M0, c0, hl, h4, v0⟩ := lap0 (sc := sc) (x2 := x2) (x3 := x3) (x4 := x4) (x5 := x5) (x6 := x6) (x7 := x7) (x8 := x8) (x9 := x9) (x10 := x10) (x11 := x11) (x12 := x12) (x13 := x13) (x14 := x14) (x15 := x15) (x16 := x16) (x17 := x17) (x18 := x18) (x19 := x19) (x20 := x20) v (by omega)
  obtain ⟨g, J1, M1, c1, hg, hg4, v1⟩ := lap1 (sc := sc) (x2 := x2) (x4 := x4) (x5 := x5) (x6 := x6) (x7 := x7) (x8 := x8) (x9 := x9) (x10 := x10) (x11 := x11) (x12 := x12) (x13 := x13) (x14 := x14) (x15 := x15) (x16 := x16) (x17 := x17) (x18 := x18) (x19 := x19) (x20 := x20) hl v0 (by omega)
  obtain ⟨ws, M2, c2, hw, hn0, v2⟩ := lap2 (sc := sc) (x2 := x2) (x5 := x5) (x6 := x6) (x7 := x7) (x8 := x8) (x9 := x9) (x10 := x10) (x11 := x11) (x12 := x12) (x13 := x13) (x14 := x14) (x15 := x15) (x16 := x16) (x17 := x17) (x18 := x18) (x19 := x19) (x20 := x20) hl hg v1 (by omega)
  obtain ⟨J3, c3, v3⟩ := lap3 (ws := ws) (sc := sc) (x2 := x2) (x7 := x7) (x8 := x8) (x9 := x9) (x10 := x10) (x11 := x11) (x12 := x12) (x13 := x13) (x14 := x14) (x15 := x15) (x16 := x16) (x17 := x17) (x18 := x18) (x19 := x19) (x20 := x20) hl hg v2
  obtain ⟨y9, y10, y11, y12, y13, y14, y15, y16, y17, y18, y19, y20, M4, c4, v4⟩ := lap4 (sc := sc) (x2 := x2) (x9 := x9) (x10 := x10) (x11 := x11) (x12 := x12) (x13 := x13) (x14 := x14) (x15 := x15) (x16 := x16) (x17 := x17) (x18 := x18) (x19 := x19) (x20 := x20) hl hg hw hn0 v3 (by omega)
  obtain ⟨J5, M5, c5, v5⟩ := lap56 (sc := sc) (x2 := x2) (x8 := some (.lst (intUp 0 g.length))) (x9 := y9) (x10 := y10) (x11 := y11) (x12 := y12) (x13 := y13) (x14 := y14) (x15 := y15) (x16 := y16) (x17 := y17) (x18 := y18) (x19 := y19) (x20 := y20) hl h4 hg hg4 hw hn0 v4 (by omega)
  simp only [List.append_assoc] at v5
  refine ⟨some (tS ls), some (gridD g), some (mem ls g), some (tS ws), some (mem ls (ng g)), some (.lst (intUp 0 g.length)), y9, y10, y11, y12, y13, y14, y15, y16, y17, y18, y19, y20, _, M5, ?_, v5.mono (by omega)⟩
  rw [lapB, sSq_eq, c0, seq_nx, sSq_eq, c1, seq_nx, sSq_eq, c2, seq_nx, sSq_eq, c3, seq_nx, sSq_eq, c4, seq_nx, c5]
theorem laps : ∀ (j : Nat) (i n : Int) (R M : Sto) (x2 x3 x4 x5 x6 x7 x8 x9 x10 x11 x12 x13 x14 x15 x16 x17 x18 x19 x20 : Option D), Dv n R M → n + 5000 * j < 400000 → ∃ M' ρ', forD (gNm 2) lapB (intUp i j) (EL sc x2 x3 x4 x5 x6 x7 x8 x9 x10 x11 x12 x13 x14 x15 x16 x17 x18 x19 x20) M = .nx ρ' M'
  | 0, i, n, R, M, x2, x3, x4, x5, x6, x7, x8, x9, x10, x11, x12, x13, x14, x15, x16, x17, x18, x19, x20, _, _ => ⟨M, _, rfl⟩
  | j + 1, i, n, R, M, x2, x3, x4, x5, x6, x7, x8, x9, x10, x11, x12, x13, x14, x15, x16, x17, x18, x19, x20, v, hn => by
    obtain ⟨y3, y4, y5, y6, y7, y8, y9, y10, y11, y12, y13, y14, y15, y16, y17, y18, y19, y20, J, M1, e, v1⟩ := lap (sc := sc) (x2 := some (.int i)) (x3 := x3) (x4 := x4) (x5 := x5) (x6 := x6) (x7 := x7) (x8 := x8) (x9 := x9) (x10 := x10) (x11 := x11) (x12 := x12) (x13 := x13) (x14 := x14) (x15 := x15) (x16 := x16) (x17 := x17) (x18 := x18) (x19 := x19) (x20 := x20) v (by omega)
    obtain ⟨M2, ρ', e2⟩ := laps j (i + 1) (n + 5000) (R ++ J) M1 (some (.int i)) y3 y4 y5 y6 y7 y8 y9 y10 y11 y12 y13 y14 y15 y16 y17 y18 y19 y20 v1 (by omega)
    refine ⟨M2, ρ', ?_⟩
    rw [intUp, forD_cons, stp_nm]
    show (lapB (EL sc (some (.int i)) x3 x4 x5 x6 x7 x8 x9 x10 x11 x12 x13 x14 x15 x16 x17 x18 x19 x20) M).aft (forD (gNm 2) lapB (intUp (i + 1) j)) = _
    rw [e, aft_nx, e2]
end
theorem pure_law : ∀ ns : List Int, ns.length ≤ 63 → (∀ z ∈ ns, PySem.Builtin.Int.intBits z ≤ 1048576) → ∃ M, F_law [.flst (ns.map DL.D.int)] [] = .ok (.bl true) M := by
  intro ns hl _
  obtain ⟨M0, e0, v0⟩ := begun ns (by omega)
  have gl : gLen M0 [.flst (ns.map D.int)] = some (.int ns.length) := by
    show some (D.int ((ns.map D.int).length : Nat)) = _
    rw [List.length_map]
  have gd : gDiv M0 (.int (ns.length : Int)) (.int 8) = some (.int ((ns.length : Int) / 8)) := gDiv_int (by decide) (by decide)
  obtain ⟨k, hk, ek⟩ : ∃ k : Nat, k ≤ 3 ∧ (1 : Int) + (if (2 : Int) < (ns.length : Int) / 8 then 2 else (ns.length : Int) / 8) = (k : Int) := by
    by_cases q : (2 : Int) < (ns.length : Int) / 8
    · exact ⟨3, by omega, by rw [if_pos q]; rfl⟩
    · exact ⟨1 + ns.length / 8, by omega, by rw [if_neg q]; omega⟩
  have gm : gMin2 M0 [.int ((ns.length : Int) / 8), .int 2] = some (.int (if (2 : Int) < (ns.length : Int) / 8 then 2 else (ns.length : Int) / 8)) := rfl
  have r1 : kRg1 [.int ((k : Nat) : Int)] M0 = .ok (IT.fix (intUp 0 k)) M0 := kRg1_int (small_of (by omega) (by omega))
  obtain ⟨M', ρ', e1⟩ := laps (sc := .flst (ns.map D.int)) k 0 0 [] M0 none none none none none none none none none none none none none none none none none none none v0 (by omega)
  refine ⟨M', ?_⟩
  rw [F_law, fnD_eq]
  show outR (b_law [some (.flst (ns.map D.int)), none, none, none, none, none, none, none, none, none, none, none, none, none, none, none, none, none, none, none, none] []) = _
  have hb : b_law = sSq (sSet 1 (dCallF F__law_begun (dCons (dVar 0) (dNil)))) (sSq (sFor 4000 (iRg1 (dCons (dBin gAdd (dC (.int 1)) (dCallB gMin2 (dCons (dBin gDiv (dCallB gLen (dCons (dVar 0) (dNil))) (dC (.int 8))) (dCons (dC (.int 2)) (dNil))))) (dNil))) (gNm 2) lapB) (sRt (dC (.bl true)))) := rfl
  rw [hb, sSq_eq, sSet_eq]
  simp only [dCallF_eq, dCons_eq, dVar_0, dNil_eq, bind_ok, e0, thn_ok, List.set_cons_succ, List.set_cons_zero, seq_nx]
  rw [sSq_eq, sFor_eq]
  simp only [iRg1_eq, dCons_eq, dBin_eq, dC_eq, dCallB_eq, dVar_0, dNil_eq, bind_ok, gl, gd, ofO_some', gm, gAdd_int, ek, r1, thn_ok, forI_fix]
  rw [e1]
  simp only [seq_nx, sRt_eq, dC_eq, thn_ok, outR_rt]

end K01
set_option maxHeartbeats 4000000
namespace K01
open PySem PySem.Spec PyProof.Rows L2 LamX DL
theorem all_mk {l : PySem.W.OpenLaw} {w : World} {K : PySem.W.Frag} {h : Heap} {mg : Str → Option Value} {fa : Addr} (X : K.In h) (Gm : h.Ns mainGlobals mg) (hfa : mg ("law" : Str) = some (.ref fa))
    {f1000 f1001 f1002 f11 f12 f13 f14 f15 f17 f18 f19 f20 f21 f22 f23 f24 f26 f27 f28 f29 f30 f31 f32 f33 f34 f35 f36 f37 f38 f39 D0 C0 C1 C2 C3 C4 c38 P38 : Addr} {od1000 an1000 od1001 an1001 od1002 an1002 od11 an11 od12 an12 od13 an13 od14 an14 od15 an15 od17 an17 od18 an18 od19 an19 od20 an20 od21 an21 od22 an22 od23 an23 od24 an24 od26 an26 od27 an27 od28 an28 od29 an29 od30 an30 od31 an31 od32 an32 od33 an33 od34 an34 od35 an35 od36 an36 od37 an37 od38 an38 od39 an39 : Option Addr} {sl1000 sl1001 sl1002 sl11 sl12 sl13 sl14 sl15 sl17 sl18 sl19 sl20 sl21 sl22 sl23 sl24 sl26 sl27 sl28 sl29 sl30 sl31 sl32 sl33 sl34 sl35 sl36 sl37 sl38 sl39 : Array (Option Value)}
    {oc1000 kV1000 dc1000 pm1000 ct1000 cd1000 oc1001 kV1001 dc1001 pm1001 ct1001 cd1001 oc1002 kV1002 dc1002 pm1002 ct1002 cd1002 oc11 kV11 dc11 pm11 ct11 cd11 oc12 kV12 dc12 pm12 ct12 cd12 oc13 kV13 dc13 pm13 ct13 cd13 oc14 kV14 dc14 pm14 ct14 cd14 oc15 kV15 dc15 pm15 ct15 cd15 oc17 kV17 dc17 pm17 ct17 cd17 oc18 kV18 dc18 pm18 ct18 cd18 oc19 kV19 dc19 pm19 ct19 cd19 oc20 kV20 dc20 pm20 ct20 cd20 oc21 kV21 dc21 pm21 ct21 cd21 oc22 kV22 dc22 pm22 ct22 cd22 oc23 kV23 dc23 pm23 ct23 cd23 oc24 kV24 dc24 pm24 ct24 cd24 oc26 kV26 dc26 pm26 ct26 cd26 oc27 kV27 dc27 pm27 ct27 cd27 oc28 kV28 dc28 pm28 ct28 cd28 oc29 kV29 dc29 pm29 ct29 cd29 oc30 kV30 dc30 pm30 ct30 cd30 oc31 kV31 dc31 pm31 ct31 cd31 oc32 kV32 dc32 pm32 ct32 cd32 oc33 kV33 dc33 pm33 ct33 cd33 oc34 kV34 dc34 pm34 ct34 cd34 oc35 kV35 dc35 pm35 ct35 cd35 oc36 kV36 dc36 pm36 ct36 cd36 oc37 kV37 dc37 pm37 ct37 cd37 oc38 kV38 dc38 pm38 ct38 oc39 kV39 dc39 pm39 ct39 cd39 : Value}
    {fI1 xcda1 xcc1 : Addr} {xoc1 xkV1 xdoc1 xpm1 xct1 xccl1 xcl1 : Value} {xod1 xan1 xcdd1 xcld1 : Option Addr} {xosl1 xccs1 xcsl1 : Array (Option Value)} {xvs1 : Array Value} {xfile1 : Str} {xtf1 : Tok}
    {cdd38 : Option Addr} {cvs38 : Array Value} {csl38 : Array (Option Value)}
    (da0 : PySem.W.nsIn K mainGlobals ("Memory" : Str) = some (some (.ref D0)))
    (di0 : PySem.W.findIn K (.ref D0) "__init__" = some (some (.ref f1000)))
    (dq0 : PySem.W.findIn K (.ref D0) "__eq__" = some (some (.ref f1002)))
    (dl0 : PySem.W.findIn K (.ref D0) "__len__" = some (some (.ref f1001)))
    (dk0 : PySem.W.keepIn K (.ref D0) = true)
    (ds0 : PySem.W.findIn K (.ref D0) "__setattr__" = some (some (.builtin "object.__setattr__")))
    (dc0 : PySem.W.findIn K (.ref D0) "__class__" = some (some (.builtin "object.__class__")))
    (do0 : PySem.W.mroIn K D0 (.type "object") = some true)
    (dvm0 : PySem.W.makesIn K D0 = true)
    (dvp0 : PySem.W.plainGet K D0 Str.empty = true)
    (dh0 : PySem.W.hasDictIn K D0 = true)
    (dvo0 : PySem.W.plainOver K D0 = true)
    (dn0 : PySem.W.findIn K (.ref D0) "__ne__" = some (some (.builtin "object.__ne__")))
    (dso0 : PySem.W.subIn K (.ref D0) (.type "object") = some true)
    (dvn0non : PySem.W.notFirst K D0 (.type "NoneType") = true)
    (dvn0bl : PySem.W.notFirst K D0 (.type "bool") = true)
    (dvn0int : PySem.W.notFirst K D0 (.type "int") = true)
    (dvn0str : PySem.W.notFirst K D0 (.type "str") = true)
    (dvn0tup : PySem.W.notFirst K D0 (.type "tuple") = true)
    (dvn0lst : PySem.W.notFirst K D0 (.type "list") = true)
    (dvn0dic : PySem.W.notFirst K D0 (.type "dict") = true)
    (df0_letters : PySem.W.findIn K (.ref D0) ("letters" : Str) = some none)
    (df0_moves : PySem.W.findIn K (.ref D0) ("moves" : Str) = some none)
    (kn_Memory_non : PySem.W.kitOne K (.type "NoneType") (.ref D0) = some false)
    (kn_Memory_bl : PySem.W.kitOne K (.type "bool") (.ref D0) = some false)
    (kn_Memory_int : PySem.W.kitOne K (.type "int") (.ref D0) = some false)
    (kn_Memory_str : PySem.W.kitOne K (.type "str") (.ref D0) = some false)
    (kn_Memory_tup : PySem.W.kitOne K (.type "tuple") (.ref D0) = some false)
    (kn_Memory_lst : PySem.W.kitOne K (.type "list") (.ref D0) = some false)
    (kn_Memory_dic : PySem.W.kitOne K (.type "dict") (.ref D0) = some false)
    (kn_Memory_0 : PySem.W.kitOne K (.ref D0) (.ref D0) = some true)
    (dfn1000 : PySem.W.isFn K (.ref f1000) = true)
    (dfn1001 : PySem.W.isFn K (.ref f1001) = true)
    (dfn1002 : PySem.W.isFn K (.ref f1002) = true)
    (l1000 : K.lookup f1000 = some ⟨oc1000, od1000, .func (PySem.W.fnOf ("__init__" : Str) ("Memory.__init__" : Str) (defArgs s1000) (defBody s1000) (defScope s1000) .none kV1000 dc1000 pm1000 an1000 cd1000 ct1000), sl1000⟩)
    (h1000 : PySem.W.codeIn K cd1000 ("Memory.__init__" : Str) = true)
    (k1000 : PySem.W.keepIn K (.ref f1000) = true)
    (l1001 : K.lookup f1001 = some ⟨oc1001, od1001, .func (PySem.W.fnOf ("__len__" : Str) ("Memory.__len__" : Str) (defArgs s1001) (defBody s1001) (defScope s1001) .none kV1001 dc1001 pm1001 an1001 cd1001 ct1001), sl1001⟩)
    (h1001 : PySem.W.codeIn K cd1001 ("Memory.__len__" : Str) = true)
    (k1001 : PySem.W.keepIn K (.ref f1001) = true)
    (l1002 : K.lookup f1002 = some ⟨oc1002, od1002, .func (PySem.W.fnOf ("__eq__" : Str) ("Memory.__eq__" : Str) (defArgs s1002) (defBody s1002) (defScope s1002) .none kV1002 dc1002 pm1002 an1002 cd1002 ct1002), sl1002⟩)
    (h1002 : PySem.W.codeIn K cd1002 ("Memory.__eq__" : Str) = true)
    (k1002 : PySem.W.keepIn K (.ref f1002) = true)
    (a11 : PySem.W.nsIn K mainGlobals ("is_number" : Str) = some (some (.ref f11)))
    (l11 : K.lookup f11 = some ⟨oc11, od11, .func (PySem.W.fnOf ("is_number" : Str) ("is_number" : Str) (defArgs s11) (defBody s11) (defScope s11) .none kV11 dc11 pm11 an11 cd11 ct11), sl11⟩)
    (h11 : PySem.W.codeIn K cd11 ("is_number" : Str) = true)
    (k11 : PySem.W.keepIn K (.ref f11) = true)
    (a12 : PySem.W.nsIn K mainGlobals ("is_count" : Str) = some (some (.ref f12)))
    (l12 : K.lookup f12 = some ⟨oc12, od12, .func (PySem.W.fnOf ("is_count" : Str) ("is_count" : Str) (defArgs s12) (defBody s12) (defScope s12) .none kV12 dc12 pm12 an12 cd12 ct12), sl12⟩)
    (h12 : PySem.W.codeIn K cd12 ("is_count" : Str) = true)
    (k12 : PySem.W.keepIn K (.ref f12) = true)
    (a13 : PySem.W.nsIn K mainGlobals ("is_letter" : Str) = some (some (.ref f13)))
    (l13 : K.lookup f13 = some ⟨oc13, od13, .func (PySem.W.fnOf ("is_letter" : Str) ("is_letter" : Str) (defArgs s13) (defBody s13) (defScope s13) .none kV13 dc13 pm13 an13 cd13 ct13), sl13⟩)
    (h13 : PySem.W.codeIn K cd13 ("is_letter" : Str) = true)
    (k13 : PySem.W.keepIn K (.ref f13) = true)
    (a14 : PySem.W.nsIn K mainGlobals ("are_letters" : Str) = some (some (.ref f14)))
    (l14 : K.lookup f14 = some ⟨oc14, od14, .func (PySem.W.fnOf ("are_letters" : Str) ("are_letters" : Str) (defArgs s14) (defBody s14) (defScope s14) .none kV14 dc14 pm14 an14 cd14 ct14), sl14⟩)
    (h14 : PySem.W.codeIn K cd14 ("are_letters" : Str) = true)
    (k14 : PySem.W.keepIn K (.ref f14) = true)
    (a15 : PySem.W.nsIn K mainGlobals ("is_move" : Str) = some (some (.ref f15)))
    (l15 : K.lookup f15 = some ⟨oc15, od15, .func (PySem.W.fnOf ("is_move" : Str) ("is_move" : Str) (defArgs s15) (defBody s15) (defScope s15) .none kV15 dc15 pm15 an15 cd15 ct15), sl15⟩)
    (h15 : PySem.W.codeIn K cd15 ("is_move" : Str) = true)
    (k15 : PySem.W.keepIn K (.ref f15) = true)
    (a17 : PySem.W.nsIn K mainGlobals ("need_memory" : Str) = some (some (.ref f17)))
    (l17 : K.lookup f17 = some ⟨oc17, od17, .func (PySem.W.fnOf ("need_memory" : Str) ("need_memory" : Str) (defArgs s17) (defBody s17) (defScope s17) .none kV17 dc17 pm17 an17 cd17 ct17), sl17⟩)
    (h17 : PySem.W.codeIn K cd17 ("need_memory" : Str) = true)
    (k17 : PySem.W.keepIn K (.ref f17) = true)
    (a18 : PySem.W.nsIn K mainGlobals ("need_state" : Str) = some (some (.ref f18)))
    (l18 : K.lookup f18 = some ⟨oc18, od18, .func (PySem.W.fnOf ("need_state" : Str) ("need_state" : Str) (defArgs s18) (defBody s18) (defScope s18) .none kV18 dc18 pm18 an18 cd18 ct18), sl18⟩)
    (h18 : PySem.W.codeIn K cd18 ("need_state" : Str) = true)
    (k18 : PySem.W.keepIn K (.ref f18) = true)
    (a19 : PySem.W.nsIn K mainGlobals ("is_word" : Str) = some (some (.ref f19)))
    (l19 : K.lookup f19 = some ⟨oc19, od19, .func (PySem.W.fnOf ("is_word" : Str) ("is_word" : Str) (defArgs s19) (defBody s19) (defScope s19) .none kV19 dc19 pm19 an19 cd19 ct19), sl19⟩)
    (h19 : PySem.W.codeIn K cd19 ("is_word" : Str) = true)
    (k19 : PySem.W.keepIn K (.ref f19) = true)
    (a20 : PySem.W.nsIn K mainGlobals ("move_of" : Str) = some (some (.ref f20)))
    (l20 : K.lookup f20 = some ⟨oc20, od20, .func (PySem.W.fnOf ("move_of" : Str) ("move_of" : Str) (defArgs s20) (defBody s20) (defScope s20) .none kV20 dc20 pm20 an20 cd20 ct20), sl20⟩)
    (h20 : PySem.W.codeIn K cd20 ("move_of" : Str) = true)
    (k20 : PySem.W.keepIn K (.ref f20) = true)
    (a21 : PySem.W.nsIn K mainGlobals ("stepped" : Str) = some (some (.ref f21)))
    (l21 : K.lookup f21 = some ⟨oc21, od21, .func (PySem.W.fnOf ("stepped" : Str) ("stepped" : Str) (defArgs s21) (defBody s21) (defScope s21) .none kV21 dc21 pm21 an21 cd21 ct21), sl21⟩)
    (h21 : PySem.W.codeIn K cd21 ("stepped" : Str) = true)
    (k21 : PySem.W.keepIn K (.ref f21) = true)
    (a22 : PySem.W.nsIn K mainGlobals ("read_on" : Str) = some (some (.ref f22)))
    (l22 : K.lookup f22 = some ⟨oc22, od22, .func (PySem.W.fnOf ("read_on" : Str) ("read_on" : Str) (defArgs s22) (defBody s22) (defScope s22) .none kV22 dc22 pm22 an22 cd22 ct22), sl22⟩)
    (h22 : PySem.W.codeIn K cd22 ("read_on" : Str) = true)
    (k22 : PySem.W.keepIn K (.ref f22) = true)
    (a23 : PySem.W.nsIn K mainGlobals ("read" : Str) = some (some (.ref f23)))
    (l23 : K.lookup f23 = some ⟨oc23, od23, .func (PySem.W.fnOf ("read" : Str) ("read" : Str) (defArgs s23) (defBody s23) (defScope s23) .none kV23 dc23 pm23 an23 cd23 ct23), sl23⟩)
    (h23 : PySem.W.codeIn K cd23 ("read" : Str) = true)
    (k23 : PySem.W.keepIn K (.ref f23) = true)
    (a24 : PySem.W.nsIn K mainGlobals ("negated" : Str) = some (some (.ref f24)))
    (l24 : K.lookup f24 = some ⟨oc24, od24, .func (PySem.W.fnOf ("negated" : Str) ("negated" : Str) (defArgs s24) (defBody s24) (defScope s24) .none kV24 dc24 pm24 an24 cd24 ct24), sl24⟩)
    (h24 : PySem.W.codeIn K cd24 ("negated" : Str) = true)
    (k24 : PySem.W.keepIn K (.ref f24) = true)
    (a26 : PySem.W.nsIn K mainGlobals ("_law_begun" : Str) = some (some (.ref f26)))
    (l26 : K.lookup f26 = some ⟨oc26, od26, .func (PySem.W.fnOf ("_law_begun" : Str) ("_law_begun" : Str) (defArgs s26) (defBody s26) (defScope s26) .none kV26 dc26 pm26 an26 cd26 ct26), sl26⟩)
    (h26 : PySem.W.codeIn K cd26 ("_law_begun" : Str) = true)
    (k26 : PySem.W.keepIn K (.ref f26) = true)
    (a27 : PySem.W.nsIn K mainGlobals ("_law_mixed" : Str) = some (some (.ref f27)))
    (l27 : K.lookup f27 = some ⟨oc27, od27, .func (PySem.W.fnOf ("_law_mixed" : Str) ("_law_mixed" : Str) (defArgs s27) (defBody s27) (defScope s27) .none kV27 dc27 pm27 an27 cd27 ct27), sl27⟩)
    (h27 : PySem.W.codeIn K cd27 ("_law_mixed" : Str) = true)
    (k27 : PySem.W.keepIn K (.ref f27) = true)
    (a28 : PySem.W.nsIn K mainGlobals ("_law_take" : Str) = some (some (.ref f28)))
    (l28 : K.lookup f28 = some ⟨oc28, od28, .func (PySem.W.fnOf ("_law_take" : Str) ("_law_take" : Str) (defArgs s28) (defBody s28) (defScope s28) .none kV28 dc28 pm28 an28 cd28 ct28), sl28⟩)
    (h28 : PySem.W.codeIn K cd28 ("_law_take" : Str) = true)
    (k28 : PySem.W.keepIn K (.ref f28) = true)
    (a29 : PySem.W.nsIn K mainGlobals ("_law_pick" : Str) = some (some (.ref f29)))
    (l29 : K.lookup f29 = some ⟨oc29, od29, .func (PySem.W.fnOf ("_law_pick" : Str) ("_law_pick" : Str) (defArgs s29) (defBody s29) (defScope s29) .none kV29 dc29 pm29 an29 cd29 ct29), sl29⟩)
    (h29 : PySem.W.codeIn K cd29 ("_law_pick" : Str) = true)
    (k29 : PySem.W.keepIn K (.ref f29) = true)
    (a30 : PySem.W.nsIn K mainGlobals ("_law_caught" : Str) = some (some (.ref f30)))
    (l30 : K.lookup f30 = some ⟨oc30, od30, .func (PySem.W.fnOf ("_law_caught" : Str) ("_law_caught" : Str) (defArgs s30) (defBody s30) (defScope s30) .none kV30 dc30 pm30 an30 cd30 ct30), sl30⟩)
    (h30 : PySem.W.codeIn K cd30 ("_law_caught" : Str) = true)
    (k30 : PySem.W.keepIn K (.ref f30) = true)
    (a31 : PySem.W.nsIn K mainGlobals ("_law_sign" : Str) = some (some (.ref f31)))
    (l31 : K.lookup f31 = some ⟨oc31, od31, .func (PySem.W.fnOf ("_law_sign" : Str) ("_law_sign" : Str) (defArgs s31) (defBody s31) (defScope s31) .none kV31 dc31 pm31 an31 cd31 ct31), sl31⟩)
    (h31 : PySem.W.codeIn K cd31 ("_law_sign" : Str) = true)
    (k31 : PySem.W.keepIn K (.ref f31) = true)
    (a32 : PySem.W.nsIn K mainGlobals ("_law_signs" : Str) = some (some (.ref f32)))
    (l32 : K.lookup f32 = some ⟨oc32, od32, .func (PySem.W.fnOf ("_law_signs" : Str) ("_law_signs" : Str) (defArgs s32) (defBody s32) (defScope s32) .none kV32 dc32 pm32 an32 cd32 ct32), sl32⟩)
    (h32 : PySem.W.codeIn K cd32 ("_law_signs" : Str) = true)
    (k32 : PySem.W.keepIn K (.ref f32) = true)
    (a33 : PySem.W.nsIn K mainGlobals ("_law_cost" : Str) = some (some (.ref f33)))
    (l33 : K.lookup f33 = some ⟨oc33, od33, .func (PySem.W.fnOf ("_law_cost" : Str) ("_law_cost" : Str) (defArgs s33) (defBody s33) (defScope s33) .none kV33 dc33 pm33 an33 cd33 ct33), sl33⟩)
    (h33 : PySem.W.codeIn K cd33 ("_law_cost" : Str) = true)
    (k33 : PySem.W.keepIn K (.ref f33) = true)
    (a34 : PySem.W.nsIn K mainGlobals ("_law_grid" : Str) = some (some (.ref f34)))
    (l34 : K.lookup f34 = some ⟨oc34, od34, .func (PySem.W.fnOf ("_law_grid" : Str) ("_law_grid" : Str) (defArgs s34) (defBody s34) (defScope s34) .none kV34 dc34 pm34 an34 cd34 ct34), sl34⟩)
    (h34 : PySem.W.codeIn K cd34 ("_law_grid" : Str) = true)
    (k34 : PySem.W.keepIn K (.ref f34) = true)
    (a35 : PySem.W.nsIn K mainGlobals ("_law_went" : Str) = some (some (.ref f35)))
    (l35 : K.lookup f35 = some ⟨oc35, od35, .func (PySem.W.fnOf ("_law_went" : Str) ("_law_went" : Str) (defArgs s35) (defBody s35) (defScope s35) .none kV35 dc35 pm35 an35 cd35 ct35), sl35⟩)
    (h35 : PySem.W.codeIn K cd35 ("_law_went" : Str) = true)
    (k35 : PySem.W.keepIn K (.ref f35) = true)
    (a36 : PySem.W.nsIn K mainGlobals ("_law_text" : Str) = some (some (.ref f36)))
    (l36 : K.lookup f36 = some ⟨oc36, od36, .func (PySem.W.fnOf ("_law_text" : Str) ("_law_text" : Str) (defArgs s36) (defBody s36) (defScope s36) .none kV36 dc36 pm36 an36 cd36 ct36), sl36⟩)
    (h36 : PySem.W.codeIn K cd36 ("_law_text" : Str) = true)
    (k36 : PySem.W.keepIn K (.ref f36) = true)
    (a37 : PySem.W.nsIn K mainGlobals ("_law_strange" : Str) = some (some (.ref f37)))
    (l37 : K.lookup f37 = some ⟨oc37, od37, .func (PySem.W.fnOf ("_law_strange" : Str) ("_law_strange" : Str) (defArgs s37) (defBody s37) (defScope s37) .none kV37 dc37 pm37 an37 cd37 ct37), sl37⟩)
    (h37 : PySem.W.codeIn K cd37 ("_law_strange" : Str) = true)
    (k37 : PySem.W.keepIn K (.ref f37) = true)
    (a38 : PySem.W.nsIn K mainGlobals ("_law_refusals" : Str) = some (some (.ref f38)))
    (l38 : K.lookup f38 = some ⟨oc38, od38, .func (PySem.W.fnOf ("_law_refusals" : Str) ("_law_refusals" : Str) (defArgs s38) (defBody s38) (defScope s38) .none kV38 dc38 pm38 an38 (.ref c38) ct38), sl38⟩)
    (h38 : PySem.W.codeIn K (.ref c38) ("_law_refusals" : Str) = true)
    (k38 : PySem.W.keepIn K (.ref f38) = true)
    (a39 : PySem.W.nsIn K mainGlobals ("law" : Str) = some (some (.ref f39)))
    (l39 : K.lookup f39 = some ⟨oc39, od39, .func (PySem.W.fnOf ("law" : Str) ("law" : Str) (defArgs s39) (defBody s39) (defScope s39) .none kV39 dc39 pm39 an39 cd39 ct39), sl39⟩)
    (h39 : PySem.W.codeIn K cd39 ("law" : Str) = true)
    (k39 : PySem.W.keepIn K (.ref f39) = true)
    (ea0 : PySem.W.nsIn K mainGlobals ("ClockError" : Str) = some (some (.ref C0)))
    (eq0 : PySem.W.excIn K C0 [.type "ValueError", .type "Exception", .type "BaseException", .type "object"] "ValueError.__new__" = true)
    (ek0 : PySem.W.keepIn K (.ref C0) = true)
    (es0 : PySem.W.subIn K (.ref C0) (.type "BaseException") = some true)
    (et0 : PySem.W.typeIn K (.ref C0) = some (.type "type"))
    (eg0 : PySem.W.findIn K (.ref C0) "__getattribute__" = some (some (.builtin "BaseException.__getattribute__")))
    (eh0 : PySem.W.findIn K (.ref C0) "__getattr__" = some none)
    (ed0 : PySem.W.hasDictIn K C0 = true)
    (ec0 : PySem.W.findIn K (.ref C0) "__class__" = some (some (.builtin "object.__class__")))
    (em0 : PySem.W.mroIn K C0 (.type "object") = some true)
    (ea1 : PySem.W.nsIn K mainGlobals ("BadMemory" : Str) = some (some (.ref C1)))
    (fo1 : oexB K C1 = true)
    (fs1 : PySem.W.findIn K (.ref C1) "__setattr__" = some (some (.builtin "object.__setattr__")))
    (fh1 : PySem.W.findIn K (.ref C1) ("part" : Str) = some none)
    (fv1 : PySem.W.subIn K (.ref C1) (.type "ValueError") = some true)
    (fl1 : PySem.W.ks_superIn K C1 C1 "__init__" = some (some (.builtin "ValueError.__init__")))
    (fm1 : PySem.W.mroIn K C1 (.ref C1) = some true)
    (fi1 : PySem.W.findIn K (.ref C1) "__init__" = some (some (.ref fI1)))
    (ft1 : PySem.W.typeIn K (.ref fI1) = some (.type "function"))
    (fk1 : K.lookup fI1 = some ⟨xoc1, xod1, .func (PySem.W.ksFn "__init__" ("BadMemory.__init__" : Str) (defArgs (inClass (top 2) 0)) (defBody (inClass (top 2) 0)) (defScope (inClass (top 2) 0)) .none xkV1 xdoc1 xpm1 xan1 (.ref xcda1) xct1 xcc1), xosl1⟩)
    (fc1 : PySem.W.codeIn K (.ref xcda1) ("BadMemory.__init__" : Str) = true)
    (fd1 : K.lookup xcda1 = some ⟨xccl1, xcdd1, .fields xvs1, xccs1⟩)
    (fe1 : xvs1[2]? = some (.str xfile1 xtf1))
    (ff1 : ((l.prog.main.file : Str) == xfile1) = true)
    (fg1 : K.lookup xcc1 = some ⟨xcl1, xcld1, .cell (some (.ref C1)), xcsl1⟩)
    (ek1 : PySem.W.keepIn K (.ref C1) = true)
    (es1 : PySem.W.subIn K (.ref C1) (.type "BaseException") = some true)
    (et1 : PySem.W.typeIn K (.ref C1) = some (.type "type"))
    (eg1 : PySem.W.findIn K (.ref C1) "__getattribute__" = some (some (.builtin "BaseException.__getattribute__")))
    (eh1 : PySem.W.findIn K (.ref C1) "__getattr__" = some none)
    (ed1 : PySem.W.hasDictIn K C1 = true)
    (ec1 : PySem.W.findIn K (.ref C1) "__class__" = some (some (.builtin "object.__class__")))
    (em1 : PySem.W.mroIn K C1 (.type "object") = some true)
    (ea2 : PySem.W.nsIn K mainGlobals ("BadLetter" : Str) = some (some (.ref C2)))
    (eq2 : PySem.W.excIn K C2 [.type "ValueError", .type "Exception", .type "BaseException", .type "object"] "ValueError.__new__" = true)
    (ek2 : PySem.W.keepIn K (.ref C2) = true)
    (es2 : PySem.W.subIn K (.ref C2) (.type "BaseException") = some true)
    (et2 : PySem.W.typeIn K (.ref C2) = some (.type "type"))
    (eg2 : PySem.W.findIn K (.ref C2) "__getattribute__" = some (some (.builtin "BaseException.__getattribute__")))
    (eh2 : PySem.W.findIn K (.ref C2) "__getattr__" = some none)
    (ed2 : PySem.W.hasDictIn K C2 = true)
    (ec2 : PySem.W.findIn K (.ref C2) "__class__" = some (some (.builtin "object.__class__")))
    (em2 : PySem.W.mroIn K C2 (.type "object") = some true)
    (ea3 : PySem.W.nsIn K mainGlobals ("BadState" : Str) = some (some (.ref C3)))
    (eq3 : PySem.W.excIn K C3 [.type "ValueError", .type "Exception", .type "BaseException", .type "object"] "ValueError.__new__" = true)
    (ek3 : PySem.W.keepIn K (.ref C3) = true)
    (es3 : PySem.W.subIn K (.ref C3) (.type "BaseException") = some true)
    (et3 : PySem.W.typeIn K (.ref C3) = some (.type "type"))
    (eg3 : PySem.W.findIn K (.ref C3) "__getattribute__" = some (some (.builtin "BaseException.__getattribute__")))
    (eh3 : PySem.W.findIn K (.ref C3) "__getattr__" = some none)
    (ed3 : PySem.W.hasDictIn K C3 = true)
    (ec3 : PySem.W.findIn K (.ref C3) "__class__" = some (some (.builtin "object.__class__")))
    (em3 : PySem.W.mroIn K C3 (.type "object") = some true)
    (ea4 : PySem.W.nsIn K mainGlobals ("BadWord" : Str) = some (some (.ref C4)))
    (eq4 : PySem.W.excIn K C4 [.type "ValueError", .type "Exception", .type "BaseException", .type "object"] "ValueError.__new__" = true)
    (ek4 : PySem.W.keepIn K (.ref C4) = true)
    (es4 : PySem.W.subIn K (.ref C4) (.type "BaseException") = some true)
    (et4 : PySem.W.typeIn K (.ref C4) = some (.type "type"))
    (eg4 : PySem.W.findIn K (.ref C4) "__getattribute__" = some (some (.builtin "BaseException.__getattribute__")))
    (eh4 : PySem.W.findIn K (.ref C4) "__getattr__" = some none)
    (ed4 : PySem.W.hasDictIn K C4 = true)
    (ec4 : PySem.W.findIn K (.ref C4) "__class__" = some (some (.builtin "object.__class__")))
    (em4 : PySem.W.mroIn K C4 (.type "object") = some true)
    (xq : PySem.W.nsIn K cStatics "thirdparty.any" = some none)
    (xw : (l.prog.main.scope.names.lookup ("super" : Str)).isSome = false)
    (xn : PySem.W.specialIn K (.builtin "object.__class__") "__get__" = some (some (.builtin "getset_descriptor.__get__")))
    (xt : PySem.W.takesIn K (.builtin "object.__class__") = some true)
    (kn_BadMemory : PySem.W.kitOne K (.type "NoneType") (.ref C1) = some false)
    (k0_BadMemory : PySem.W.kitOne K (.ref C0) (.ref C1) = some false)
    (k1_BadMemory : PySem.W.kitOne K (.ref C1) (.ref C1) = some true)
    (k2_BadMemory : PySem.W.kitOne K (.ref C2) (.ref C1) = some false)
    (k3_BadMemory : PySem.W.kitOne K (.ref C3) (.ref C1) = some false)
    (k4_BadMemory : PySem.W.kitOne K (.ref C4) (.ref C1) = some false)
    (kn_BadLetter : PySem.W.kitOne K (.type "NoneType") (.ref C2) = some false)
    (k0_BadLetter : PySem.W.kitOne K (.ref C0) (.ref C2) = some false)
    (k1_BadLetter : PySem.W.kitOne K (.ref C1) (.ref C2) = some false)
    (k2_BadLetter : PySem.W.kitOne K (.ref C2) (.ref C2) = some true)
    (k3_BadLetter : PySem.W.kitOne K (.ref C3) (.ref C2) = some false)
    (k4_BadLetter : PySem.W.kitOne K (.ref C4) (.ref C2) = some false)
    (kn_BadState : PySem.W.kitOne K (.type "NoneType") (.ref C3) = some false)
    (k0_BadState : PySem.W.kitOne K (.ref C0) (.ref C3) = some false)
    (k1_BadState : PySem.W.kitOne K (.ref C1) (.ref C3) = some false)
    (k2_BadState : PySem.W.kitOne K (.ref C2) (.ref C3) = some false)
    (k3_BadState : PySem.W.kitOne K (.ref C3) (.ref C3) = some true)
    (k4_BadState : PySem.W.kitOne K (.ref C4) (.ref C3) = some false)
    (kn_BadWord : PySem.W.kitOne K (.type "NoneType") (.ref C4) = some false)
    (k0_BadWord : PySem.W.kitOne K (.ref C0) (.ref C4) = some false)
    (k1_BadWord : PySem.W.kitOne K (.ref C1) (.ref C4) = some false)
    (k2_BadWord : PySem.W.kitOne K (.ref C2) (.ref C4) = some false)
    (k3_BadWord : PySem.W.kitOne K (.ref C3) (.ref C4) = some false)
    (k4_BadWord : PySem.W.kitOne K (.ref C4) (.ref C4) = some true)
    (ex0 : PySem.W.exmOne K (.ref C0) (.ref C0) = some true)
    (ex1 : PySem.W.exmOne K (.ref C1) (.ref C0) = some true)
    (ex2 : PySem.W.exmOne K (.ref C2) (.ref C0) = some true)
    (ex3 : PySem.W.exmOne K (.ref C3) (.ref C0) = some true)
    (ex4 : PySem.W.exmOne K (.ref C4) (.ref C0) = some true)
    (z_abs : PySem.W.nsIn K mainGlobals ("abs" : Str) = some none)
    (z_all : PySem.W.nsIn K mainGlobals ("all" : Str) = some none)
    (z_bool : PySem.W.nsIn K mainGlobals ("bool" : Str) = some none)
    (z_enumerate : PySem.W.nsIn K mainGlobals ("enumerate" : Str) = some none)
    (z_int : PySem.W.nsIn K mainGlobals ("int" : Str) = some none)
    (z_isinstance : PySem.W.nsIn K mainGlobals ("isinstance" : Str) = some none)
    (z_len : PySem.W.nsIn K mainGlobals ("len" : Str) = some none)
    (z_list : PySem.W.nsIn K mainGlobals ("list" : Str) = some none)
    (z_min : PySem.W.nsIn K mainGlobals ("min" : Str) = some none)
    (z_range : PySem.W.nsIn K mainGlobals ("range" : Str) = some none)
    (z_repr : PySem.W.nsIn K mainGlobals ("repr" : Str) = some none)
    (z_set : PySem.W.nsIn K mainGlobals ("set" : Str) = some none)
    (z_sorted : PySem.W.nsIn K mainGlobals ("sorted" : Str) = some none)
    (z_str : PySem.W.nsIn K mainGlobals ("str" : Str) = some none)
    (z_super : PySem.W.nsIn K mainGlobals ("super" : Str) = some none)
    (z_tuple : PySem.W.nsIn K mainGlobals ("tuple" : Str) = some none)
    {kt0 : Tok} {kt1 : Tok} {kt2 : Tok} {kt3 : Tok}
    (kg_MOST_STATES : PySem.W.nsIn K mainGlobals ("MOST_STATES" : Str) = some (some (.int (120) kt0)))
    (kg_SIGNS : PySem.W.nsIn K mainGlobals ("SIGNS" : Str) = some (some (.str ("abcdefghijklmnopqrstuvwxyzABCDEFGHIJKLMNOPQRSTUVWXYZ0123456789." : Str) kt1)))
    (kg_MOST_LETTERS : PySem.W.nsIn K mainGlobals ("MOST_LETTERS" : Str) = some (some (.int (72) kt2)))
    (kg_MOST_COST : PySem.W.nsIn K mainGlobals ("MOST_COST" : Str) = some (some (.int (999) kt3)))
    (tl38 : K.lookup c38 = some ⟨.type "code", cdd38, .fields cvs38, csl38⟩)
    (tv38 : cvs38[11]? = some (.ref P38))
    (tt38 : h.get? P38 = some { cls := .none, data := .fields #[] } ∧ PySem.W.codeHdIn K c38 P38 = true ∧ K.lookup P38 = none)
    : LawG l w K 10 63 "_law_script" mg fa h := by
  have e0 : f39 = fa := by
    have z := (PySem.W.mg_of X Gm a39).symm.trans hfa
    cases z
    rfl
  subst e0
  let a : Ad := ⟨f1000, f1001, f1002, f11, f12, f13, f14, f15, f17, f18, f19, f20, f21, f22, f23, f24, f26, f27, f28, f29, f30, f31, f32, f33, f34, f35, f36, f37, f38, f39, D0, C0, C1, C2, C3, C4, c38, P38, PySem.W.fnOf ("__init__" : Str) ("Memory.__init__" : Str) (defArgs s1000) (defBody s1000) (defScope s1000) .none kV1000 dc1000 pm1000 an1000 cd1000 ct1000, PySem.W.fnOf ("__len__" : Str) ("Memory.__len__" : Str) (defArgs s1001) (defBody s1001) (defScope s1001) .none kV1001 dc1001 pm1001 an1001 cd1001 ct1001, PySem.W.fnOf ("__eq__" : Str) ("Memory.__eq__" : Str) (defArgs s1002) (defBody s1002) (defScope s1002) .none kV1002 dc1002 pm1002 an1002 cd1002 ct1002, PySem.W.fnOf ("is_number" : Str) ("is_number" : Str) (defArgs s11) (defBody s11) (defScope s11) .none kV11 dc11 pm11 an11 cd11 ct11, PySem.W.fnOf ("is_count" : Str) ("is_count" : Str) (defArgs s12) (defBody s12) (defScope s12) .none kV12 dc12 pm12 an12 cd12 ct12, PySem.W.fnOf ("is_letter" : Str) ("is_letter" : Str) (defArgs s13) (defBody s13) (defScope s13) .none kV13 dc13 pm13 an13 cd13 ct13, PySem.W.fnOf ("are_letters" : Str) ("are_letters" : Str) (defArgs s14) (defBody s14) (defScope s14) .none kV14 dc14 pm14 an14 cd14 ct14, PySem.W.fnOf ("is_move" : Str) ("is_move" : Str) (defArgs s15) (defBody s15) (defScope s15) .none kV15 dc15 pm15 an15 cd15 ct15, PySem.W.fnOf ("need_memory" : Str) ("need_memory" : Str) (defArgs s17) (defBody s17) (defScope s17) .none kV17 dc17 pm17 an17 cd17 ct17, PySem.W.fnOf ("need_state" : Str) ("need_state" : Str) (defArgs s18) (defBody s18) (defScope s18) .none kV18 dc18 pm18 an18 cd18 ct18, PySem.W.fnOf ("is_word" : Str) ("is_word" : Str) (defArgs s19) (defBody s19) (defScope s19) .none kV19 dc19 pm19 an19 cd19 ct19, PySem.W.fnOf ("move_of" : Str) ("move_of" : Str) (defArgs s20) (defBody s20) (defScope s20) .none kV20 dc20 pm20 an20 cd20 ct20, PySem.W.fnOf ("stepped" : Str) ("stepped" : Str) (defArgs s21) (defBody s21) (defScope s21) .none kV21 dc21 pm21 an21 cd21 ct21, PySem.W.fnOf ("read_on" : Str) ("read_on" : Str) (defArgs s22) (defBody s22) (defScope s22) .none kV22 dc22 pm22 an22 cd22 ct22, PySem.W.fnOf ("read" : Str) ("read" : Str) (defArgs s23) (defBody s23) (defScope s23) .none kV23 dc23 pm23 an23 cd23 ct23, PySem.W.fnOf ("negated" : Str) ("negated" : Str) (defArgs s24) (defBody s24) (defScope s24) .none kV24 dc24 pm24 an24 cd24 ct24, PySem.W.fnOf ("_law_begun" : Str) ("_law_begun" : Str) (defArgs s26) (defBody s26) (defScope s26) .none kV26 dc26 pm26 an26 cd26 ct26, PySem.W.fnOf ("_law_mixed" : Str) ("_law_mixed" : Str) (defArgs s27) (defBody s27) (defScope s27) .none kV27 dc27 pm27 an27 cd27 ct27, PySem.W.fnOf ("_law_take" : Str) ("_law_take" : Str) (defArgs s28) (defBody s28) (defScope s28) .none kV28 dc28 pm28 an28 cd28 ct28, PySem.W.fnOf ("_law_pick" : Str) ("_law_pick" : Str) (defArgs s29) (defBody s29) (defScope s29) .none kV29 dc29 pm29 an29 cd29 ct29, PySem.W.fnOf ("_law_caught" : Str) ("_law_caught" : Str) (defArgs s30) (defBody s30) (defScope s30) .none kV30 dc30 pm30 an30 cd30 ct30, PySem.W.fnOf ("_law_sign" : Str) ("_law_sign" : Str) (defArgs s31) (defBody s31) (defScope s31) .none kV31 dc31 pm31 an31 cd31 ct31, PySem.W.fnOf ("_law_signs" : Str) ("_law_signs" : Str) (defArgs s32) (defBody s32) (defScope s32) .none kV32 dc32 pm32 an32 cd32 ct32, PySem.W.fnOf ("_law_cost" : Str) ("_law_cost" : Str) (defArgs s33) (defBody s33) (defScope s33) .none kV33 dc33 pm33 an33 cd33 ct33, PySem.W.fnOf ("_law_grid" : Str) ("_law_grid" : Str) (defArgs s34) (defBody s34) (defScope s34) .none kV34 dc34 pm34 an34 cd34 ct34, PySem.W.fnOf ("_law_went" : Str) ("_law_went" : Str) (defArgs s35) (defBody s35) (defScope s35) .none kV35 dc35 pm35 an35 cd35 ct35, PySem.W.fnOf ("_law_text" : Str) ("_law_text" : Str) (defArgs s36) (defBody s36) (defScope s36) .none kV36 dc36 pm36 an36 cd36 ct36, PySem.W.fnOf ("_law_strange" : Str) ("_law_strange" : Str) (defArgs s37) (defBody s37) (defScope s37) .none kV37 dc37 pm37 an37 cd37 ct37, PySem.W.fnOf ("_law_refusals" : Str) ("_law_refusals" : Str) (defArgs s38) (defBody s38) (defScope s38) .none kV38 dc38 pm38 an38 (.ref c38) ct38, PySem.W.fnOf ("law" : Str) ("law" : Str) (defArgs s39) (defBody s39) (defScope s39) .none kV39 dc39 pm39 an39 cd39 ct39⟩
  have yc0 : L2.Cls K D0 := ⟨dvp0, dh0, dvo0, ds0⟩
  have xc0 : ExcC K C0 := ⟨eg0, eh0, es0, ed0, ec0, xn, xt, em0⟩
  have xc1 : ExcC K C1 := ⟨eg1, eh1, es1, ed1, ec1, xn, xt, em1⟩
  have xc2 : ExcC K C2 := ⟨eg2, eh2, es2, ed2, ec2, xn, xt, em2⟩
  have xc3 : ExcC K C3 := ⟨eg3, eh3, es3, ed3, ec3, xn, xt, em3⟩
  have xc4 : ExcC K C4 := ⟨eg4, eh4, es4, ed4, ec4, xn, xt, em4⟩
  have xi1 : XiC l.prog K C1 ("part" : Str) := xi_mk (mt := inClass (top 2) 0) (sf := ("self" : Str)) (pr := ("part" : Str)) (m := ("not a memory" : Str)) fo1 fs1 es1 et1 ek1 fh1 fv1 xq fl1 fm1 fi1 ft1 fk1 fc1 fd1 fe1 ff1 fg1 xw rfl (fun _ _ _ _ _ _ _ _ _ => rfl) rfl rfl (by decide) rfl rfl rfl rfl (by decide +kernel) rfl rfl rfl (by decide) (by decide) (fun _ => ⟨_, rfl⟩)
  have T : Txt l.prog K mg a := ⟨fun_mk l1000 h1000 k1000, dfn1000, fun_mk l1001 h1001 k1001, dfn1001, fun_mk l1002 h1002 k1002, dfn1002, fun_mk l11 h11 k11, PySem.W.mg_of X Gm a11, fun_mk l12 h12 k12, PySem.W.mg_of X Gm a12, fun_mk l13 h13 k13, PySem.W.mg_of X Gm a13, fun_mk l14 h14 k14, PySem.W.mg_of X Gm a14, fun_mk l15 h15 k15, PySem.W.mg_of X Gm a15, fun_mk l17 h17 k17, PySem.W.mg_of X Gm a17, fun_mk l18 h18 k18, PySem.W.mg_of X Gm a18, fun_mk l19 h19 k19, PySem.W.mg_of X Gm a19, fun_mk l20 h20 k20, PySem.W.mg_of X Gm a20, fun_mk l21 h21 k21, PySem.W.mg_of X Gm a21, fun_mk l22 h22 k22, PySem.W.mg_of X Gm a22, fun_mk l23 h23 k23, PySem.W.mg_of X Gm a23, fun_mk l24 h24 k24, PySem.W.mg_of X Gm a24, fun_mk l26 h26 k26, PySem.W.mg_of X Gm a26, fun_mk l27 h27 k27, PySem.W.mg_of X Gm a27, fun_mk l28 h28 k28, PySem.W.mg_of X Gm a28, fun_mk l29 h29 k29, PySem.W.mg_of X Gm a29, fun_mk l30 h30 k30, PySem.W.mg_of X Gm a30, fun_mk l31 h31 k31, PySem.W.mg_of X Gm a31, fun_mk l32 h32 k32, PySem.W.mg_of X Gm a32, fun_mk l33 h33 k33, PySem.W.mg_of X Gm a33, fun_mk l34 h34 k34, PySem.W.mg_of X Gm a34, fun_mk l35 h35 k35, PySem.W.mg_of X Gm a35, fun_mk l36 h36 k36, PySem.W.mg_of X Gm a36, fun_mk l37 h37 k37, PySem.W.mg_of X Gm a37, funC_mk l38 h38 k38, PySem.W.mg_of X Gm a38, fun_mk l39 h39 k39, PySem.W.mg_of X Gm a39, ⟨rfl, ⟨_, _, _, _, PySem.F.excBase_ValueError, eq0⟩, PySem.W.mg_of X Gm ea0, ek0, es0, et0⟩, ⟨rfl, xi1, PySem.W.mg_of X Gm ea1, PySem.W.mg_none_of X Gm z_super⟩, ⟨rfl, ⟨_, _, _, _, PySem.F.excBase_ValueError, eq2⟩, PySem.W.mg_of X Gm ea2, ek2, es2, et2⟩, ⟨rfl, ⟨_, _, _, _, PySem.F.excBase_ValueError, eq3⟩, PySem.W.mg_of X Gm ea3, ek3, es3, et3⟩, ⟨rfl, ⟨_, _, _, _, PySem.F.excBase_ValueError, eq4⟩, PySem.W.mg_of X Gm ea4, ek4, es4, et4⟩, fun c hc C hC => by
    simp only [List.mem_cons, List.not_mem_nil, or_false] at hc
    rcases hc with rfl
    · cases hC; exact ⟨⟨eg1, eh1, es1, ed1⟩, fh1⟩, PySem.W.mg_none_of X Gm z_abs, PySem.W.mg_none_of X Gm z_all, PySem.W.mg_none_of X Gm z_bool, PySem.W.mg_none_of X Gm z_enumerate, PySem.W.mg_none_of X Gm z_int, PySem.W.mg_none_of X Gm z_isinstance, PySem.W.mg_none_of X Gm z_len, PySem.W.mg_none_of X Gm z_list, PySem.W.mg_none_of X Gm z_min, PySem.W.mg_none_of X Gm z_range, PySem.W.mg_none_of X Gm z_repr, PySem.W.mg_none_of X Gm z_set, PySem.W.mg_none_of X Gm z_sorted, PySem.W.mg_none_of X Gm z_str, PySem.W.mg_none_of X Gm z_super, PySem.W.mg_none_of X Gm z_tuple, ⟨_, PySem.W.mg_of X Gm kg_MOST_STATES, KRep.int _ _⟩, ⟨_, PySem.W.mg_of X Gm kg_SIGNS, KRep.str _ _⟩, ⟨_, PySem.W.mg_of X Gm kg_MOST_LETTERS, KRep.int _ _⟩, ⟨_, PySem.W.mg_of X Gm kg_MOST_COST, KRep.int _ _⟩, ⟨rfl, PySem.W.mg_of X Gm da0, ⟨dvm0, di0, dfn1000, dk0⟩⟩, dk0, ⟨rfl, yc0, dq0, dn0, dso0, fun n hn => by
    simp only [List.mem_cons, List.not_mem_nil, or_false] at hn
    rcases hn with rfl | rfl | rfl | rfl | rfl | rfl | rfl
    · exact dvn0non
    · exact dvn0bl
    · exact dvn0int
    · exact dvn0str
    · exact dvn0tup
    · exact dvn0lst
    · exact dvn0dic⟩, ⟨rfl, dl0⟩, fun c hc C hC => by
    simp only [List.mem_cons, List.not_mem_nil, or_false] at hc
    rcases hc with rfl
    · cases hC; exact ⟨yc0, df0_letters⟩, fun c hc C hC => by
    simp only [List.mem_cons, List.not_mem_nil, or_false] at hc
    rcases hc with rfl
    · cases hC; exact ⟨yc0, df0_moves⟩, kn_Memory_non, kn_Memory_bl, kn_Memory_int, kn_Memory_str, kn_Memory_tup, kn_Memory_lst, kn_Memory_dic, kn_Memory_0, ⟨fun c C hc => by
    match c, hc with
    | 0, hc => cases hc; exact ⟨yc0, dc0, xn, xt, do0⟩
    | n + 1, hc => simp at hc, fun c C hc => by
    match c, hc with
    | 0, hc => cases hc; exact xc0
    | 1, hc => cases hc; exact xc1
    | 2, hc => cases hc; exact xc2
    | 3, hc => cases hc; exact xc3
    | 4, hc => cases hc; exact xc4
    | n + 5, hc => simp at hc⟩, kn_BadMemory, k0_BadMemory, k1_BadMemory, k2_BadMemory, k3_BadMemory, k4_BadMemory, kn_BadLetter, k0_BadLetter, k1_BadLetter, k2_BadLetter, k3_BadLetter, k4_BadLetter, kn_BadState, k0_BadState, k1_BadState, k2_BadState, k3_BadState, k4_BadState, kn_BadWord, k0_BadWord, k1_BadWord, k2_BadWord, k3_BadWord, k4_BadWord, ex0, ex1, ex2, ex3, ex4⟩
  refine ⟨_, [(c38, P38)], spD (Gk K a) 1 F_law, fun p hp => by
    simp only [List.mem_cons, List.not_mem_nil, or_false] at hp
    rcases hp with rfl
    · exact tt38.1,
  fun p hp => by
    simp only [List.mem_cons, List.not_mem_nil, or_false] at hp
    rcases hp with rfl
    · exact tt38.2.2,
  fun p hp => by
    simp only [List.mem_cons, List.not_mem_nil, or_false] at hp
    rcases hp with rfl
    · exact PySem.W.codeHd_of_K X tt38.2.1, fun s u => .of_eq rfl, fun H x ns hl hb hH hS => law_entry rfl (fun p hp => by
        simp only [List.mem_cons, List.not_mem_nil, or_false] at hp
        rcases hp with rfl
        · exact hH (c38, P38) (by simp)) hS (pure_law ns hl hb), fun base hK hN tb => (o_law T tb).ok⟩
end K01
open PySem PySem.W PyProof.Rows
set_option maxHeartbeats 0 in
theorem PySem.Challenge.cw_hitclocks_k01_words_read_holds : PySem.Challenge.rw_hitclocks_k01_words_read.Holds := by
  w_on; o_law; k_head; (case hw => w_witness2)
  k_fill
  refine DL.walk_G (l := PySem.Challenge.rw_hitclocks_k01_words_read) (n := 63) (k := 10) (x := "_law_script") rfl (by decide) rfl ⟨rfl, by decide, by decide⟩ (fun w h Y => PySem.W.km_in_of Y) ?F
  case F =>
    intro w mg fa h Y KX Gm hmg
    refine' K01.all_mk KX Gm hmg ?da0 ?di0 ?dq0 ?dl0 ?dk0 ?ds0 ?dc0 ?do0 ?dvm0 ?dvp0 ?dh0 ?dvo0 ?dn0 ?dso0 ?dvn0non ?dvn0bl ?dvn0int ?dvn0str ?dvn0tup ?dvn0lst ?dvn0dic ?df0_letters ?df0_moves ?kn_Memory_non ?kn_Memory_bl ?kn_Memory_int ?kn_Memory_str ?kn_Memory_tup ?kn_Memory_lst ?kn_Memory_dic ?kn_Memory_0 ?dfn1000 ?dfn1001 ?dfn1002 ?l1000 ?h1000 ?k1000 ?l1001 ?h1001 ?k1001 ?l1002 ?h1002 ?k1002 ?a11 ?l11 ?h11 ?k11 ?a12 ?l12 ?h12 ?k12 ?a13 ?l13 ?h13 ?k13 ?a14 ?l14 ?h14 ?k14 ?a15 ?l15 ?h15 ?k15 ?a17 ?l17 ?h17 ?k17 ?a18 ?l18 ?h18 ?k18 ?a19 ?l19 ?h19 ?k19 ?a20 ?l20 ?h20 ?k20 ?a21 ?l21 ?h21 ?k21 ?a22 ?l22 ?h22 ?k22 ?a23 ?l23 ?h23 ?k23 ?a24 ?l24 ?h24 ?k24 ?a26 ?l26 ?h26 ?k26 ?a27 ?l27 ?h27 ?k27 ?a28 ?l28 ?h28 ?k28 ?a29 ?l29 ?h29 ?k29 ?a30 ?l30 ?h30 ?k30 ?a31 ?l31 ?h31 ?k31 ?a32 ?l32 ?h32 ?k32 ?a33 ?l33 ?h33 ?k33 ?a34 ?l34 ?h34 ?k34 ?a35 ?l35 ?h35 ?k35 ?a36 ?l36 ?h36 ?k36 ?a37 ?l37 ?h37 ?k37 ?a38 ?l38 ?h38 ?k38 ?a39 ?l39 ?h39 ?k39 ?ea0 ?eq0 ?ek0 ?es0 ?et0 ?eg0 ?eh0 ?ed0 ?ec0 ?em0 ?ea1 ?fo1 ?fs1 ?fh1 ?fv1 ?fl1 ?fm1 ?fi1 ?ft1 ?fk1 ?fc1 ?fd1 ?fe1 ?ff1 ?fg1 ?ek1 ?es1 ?et1 ?eg1 ?eh1 ?ed1 ?ec1 ?em1 ?ea2 ?eq2 ?ek2 ?es2 ?et2 ?eg2 ?eh2 ?ed2 ?ec2 ?em2 ?ea3 ?eq3 ?ek3 ?es3 ?et3 ?eg3 ?eh3 ?ed3 ?ec3 ?em3 ?ea4 ?eq4 ?ek4 ?es4 ?et4 ?eg4 ?eh4 ?ed4 ?ec4 ?em4 ?xq ?xw ?xn ?xt ?kn_BadMemory ?k0_BadMemory ?k1_BadMemory ?k2_BadMemory ?k3_BadMemory ?k4_BadMemory ?kn_BadLetter ?k0_BadLetter ?k1_BadLetter ?k2_BadLetter ?k3_BadLetter ?k4_BadLetter ?kn_BadState ?k0_BadState ?k1_BadState ?k2_BadState ?k3_BadState ?k4_BadState ?kn_BadWord ?k0_BadWord ?k1_BadWord ?k2_BadWord ?k3_BadWord ?k4_BadWord ?ex0 ?ex1 ?ex2 ?ex3 ?ex4 ?z_abs ?z_all ?z_bool ?z_enumerate ?z_int ?z_isinstance ?z_len ?z_list ?z_min ?z_range ?z_repr ?z_set ?z_sorted ?z_str ?z_super ?z_tuple ?kg_MOST_STATES ?kg_SIGNS ?kg_MOST_LETTERS ?kg_MOST_COST ?tl38 ?tv38 ?tt38
    (case da0 => k_is)
    (case di0 => k_is)
    (case dq0 => k_is)
    (case dl0 => k_is)
    (case dk0 => k_is)
    (case ds0 => k_is)
    (case dc0 => k_is)
    (case do0 => k_is)
    (case dvm0 => first | k_exc | kernel_rfl | k_is)
    (case dvp0 => first | k_exc | kernel_rfl | k_is)
    (case dh0 => k_is)
    (case dvo0 => first | k_exc | kernel_rfl | k_is)
    (case dn0 => k_is)
    (case dso0 => k_is)
    (case dvn0non => first | k_exc | kernel_rfl | k_is)
    (case dvn0bl => first | k_exc | kernel_rfl | k_is)
    (case dvn0int => first | k_exc | kernel_rfl | k_is)
    (case dvn0str => first | k_exc | kernel_rfl | k_is)
    (case dvn0tup => first | k_exc | kernel_rfl | k_is)
    (case dvn0lst => first | k_exc | kernel_rfl | k_is)
    (case dvn0dic => first | k_exc | kernel_rfl | k_is)
    (case df0_letters => k_is)
    (case df0_moves => k_is)
    (case kn_Memory_non => first | k_exc | kernel_rfl | k_is)
    (case kn_Memory_bl => first | k_exc | kernel_rfl | k_is)
    (case kn_Memory_int => first | k_exc | kernel_rfl | k_is)
    (case kn_Memory_str => first | k_exc | kernel_rfl | k_is)
    (case kn_Memory_tup => first | k_exc | kernel_rfl | k_is)
    (case kn_Memory_lst => first | k_exc | kernel_rfl | k_is)
    (case kn_Memory_dic => first | k_exc | kernel_rfl | k_is)
    (case kn_Memory_0 => first | k_exc | kernel_rfl | k_is)
    (case dfn1000 => first | k_exc | kernel_rfl | k_is)
    (case dfn1001 => first | k_exc | kernel_rfl | k_is)
    (case dfn1002 => first | k_exc | kernel_rfl | k_is)
    (case l1000 => k_is)
    (case h1000 => k_is)
    (case k1000 => k_is)
    (case l1001 => k_is)
    (case h1001 => k_is)
    (case k1001 => k_is)
    (case l1002 => k_is)
    (case h1002 => k_is)
    (case k1002 => k_is)
    (case a11 => k_is)
    (case l11 => k_is)
    (case h11 => k_is)
    (case k11 => k_is)
    (case a12 => k_is)
    (case l12 => k_is)
    (case h12 => k_is)
    (case k12 => k_is)
    (case a13 => k_is)
    (case l13 => k_is)
    (case h13 => k_is)
    (case k13 => k_is)
    (case a14 => k_is)
    (case l14 => k_is)
    (case h14 => k_is)
    (case k14 => k_is)
    (case a15 => k_is)
    (case l15 => k_is)
    (case h15 => k_is)
    (case k15 => k_is)
    (case a17 => k_is)
    (case l17 => k_is)
    (case h17 => k_is)
    (case k17 => k_is)
    (case a18 => k_is)
    (case l18 => k_is)
    (case h18 => k_is)
    (case k18 => k_is)
    (case a19 => k_is)
    (case l19 => k_is)
    (case h19 => k_is)
    (case k19 => k_is)
    (case a20 => k_is)
    (case l20 => k_is)
    (case h20 => k_is)
    (case k20 => k_is)
    (case a21 => k_is)
    (case l21 => k_is)
    (case h21 => k_is)
    (case k21 => k_is)
    (case a22 => k_is)
    (case l22 => k_is)
    (case h22 => k_is)
    (case k22 => k_is)
    (case a23 => k_is)
    (case l23 => k_is)
    (case h23 => k_is)
    (case k23 => k_is)
    (case a24 => k_is)
    (case l24 => k_is)
    (case h24 => k_is)
    (case k24 => k_is)
    (case a26 => k_is)
    (case l26 => k_is)
    (case h26 => k_is)
    (case k26 => k_is)
    (case a27 => k_is)
    (case l27 => k_is)
    (case h27 => k_is)
    (case k27 => k_is)
    (case a28 => k_is)
    (case l28 => k_is)
    (case h28 => k_is)
    (case k28 => k_is)
    (case a29 => k_is)
    (case l29 => k_is)
    (case h29 => k_is)
    (case k29 => k_is)
    (case a30 => k_is)
    (case l30 => k_is)
    (case h30 => k_is)
    (case k30 => k_is)
    (case a31 => k_is)
    (case l31 => k_is)
    (case h31 => k_is)
    (case k31 => k_is)
    (case a32 => k_is)
    (case l32 => k_is)
    (case h32 => k_is)
    (case k32 => k_is)
    (case a33 => k_is)
    (case l33 => k_is)
    (case h33 => k_is)
    (case k33 => k_is)
    (case a34 => k_is)
    (case l34 => k_is)
    (case h34 => k_is)
    (case k34 => k_is)
    (case a35 => k_is)
    (case l35 => k_is)
    (case h35 => k_is)
    (case k35 => k_is)
    (case a36 => k_is)
    (case l36 => k_is)
    (case h36 => k_is)
    (case k36 => k_is)
    (case a37 => k_is)
    (case l37 => k_is)
    (case h37 => k_is)
    (case k37 => k_is)
    (case a38 => k_is)
    (case l38 => k_is)
    (case h38 => k_is)
    (case k38 => k_is)
    (case a39 => k_is)
    (case l39 => k_is)
    (case h39 => k_is)
    (case k39 => k_is)
    (case ea0 => k_is)
    (case eq0 => first | k_exc | kernel_rfl | k_is)
    (case ek0 => k_is)
    (case es0 => k_is)
    (case et0 => k_is)
    (case eg0 => k_is)
    (case eh0 => k_is)
    (case ed0 => k_is)
    (case ec0 => k_is)
    (case em0 => k_is)
    (case ea1 => k_is)
    (case fo1 => first | k_exc | kernel_rfl | k_is)
    (case fs1 => k_is)
    (case fh1 => k_is)
    (case fv1 => k_is)
    (case fl1 => first | k_exc | kernel_rfl | k_is)
    (case fm1 => k_is)
    (case fi1 => k_is)
    (case ft1 => k_is)
    (case fk1 => k_is)
    (case fc1 => k_is)
    (case fd1 => k_is)
    (case fe1 => first | rfl | decide +kernel | kernel_rfl)
    (case ff1 => first | rfl | decide +kernel | kernel_rfl)
    (case fg1 => k_is)
    (case ek1 => k_is)
    (case es1 => k_is)
    (case et1 => k_is)
    (case eg1 => k_is)
    (case eh1 => k_is)
    (case ed1 => k_is)
    (case ec1 => k_is)
    (case em1 => k_is)
    (case ea2 => k_is)
    (case eq2 => first | k_exc | kernel_rfl | k_is)
    (case ek2 => k_is)
    (case es2 => k_is)
    (case et2 => k_is)
    (case eg2 => k_is)
    (case eh2 => k_is)
    (case ed2 => k_is)
    (case ec2 => k_is)
    (case em2 => k_is)
    (case ea3 => k_is)
    (case eq3 => first | k_exc | kernel_rfl | k_is)
    (case ek3 => k_is)
    (case es3 => k_is)
    (case et3 => k_is)
    (case eg3 => k_is)
    (case eh3 => k_is)
    (case ed3 => k_is)
    (case ec3 => k_is)
    (case em3 => k_is)
    (case ea4 => k_is)
    (case eq4 => first | k_exc | kernel_rfl | k_is)
    (case ek4 => k_is)
    (case es4 => k_is)
    (case et4 => k_is)
    (case eg4 => k_is)
    (case eh4 => k_is)
    (case ed4 => k_is)
    (case ec4 => k_is)
    (case em4 => k_is)
    (case xq => k_is)
    (case xw => first | rfl | decide +kernel | kernel_rfl)
    (case xn => k_is)
    (case xt => k_is)
    (case kn_BadMemory => first | k_exc | kernel_rfl | k_is)
    (case k0_BadMemory => first | k_exc | kernel_rfl | k_is)
    (case k1_BadMemory => first | k_exc | kernel_rfl | k_is)
    (case k2_BadMemory => first | k_exc | kernel_rfl | k_is)
    (case k3_BadMemory => first | k_exc | kernel_rfl | k_is)
    (case k4_BadMemory => first | k_exc | kernel_rfl | k_is)
    (case kn_BadLetter => first | k_exc | kernel_rfl | k_is)
    (case k0_BadLetter => first | k_exc | kernel_rfl | k_is)
    (case k1_BadLetter => first | k_exc | kernel_rfl | k_is)
    (case k2_BadLetter => first | k_exc | kernel_rfl | k_is)
    (case k3_BadLetter => first | k_exc | kernel_rfl | k_is)
    (case k4_BadLetter => first | k_exc | kernel_rfl | k_is)
    (case kn_BadState => first | k_exc | kernel_rfl | k_is)
    (case k0_BadState => first | k_exc | kernel_rfl | k_is)
    (case k1_BadState => first | k_exc | kernel_rfl | k_is)
    (case k2_BadState => first | k_exc | kernel_rfl | k_is)
    (case k3_BadState => first | k_exc | kernel_rfl | k_is)
    (case k4_BadState => first | k_exc | kernel_rfl | k_is)
    (case kn_BadWord => first | k_exc | kernel_rfl | k_is)
    (case k0_BadWord => first | k_exc | kernel_rfl | k_is)
    (case k1_BadWord => first | k_exc | kernel_rfl | k_is)
    (case k2_BadWord => first | k_exc | kernel_rfl | k_is)
    (case k3_BadWord => first | k_exc | kernel_rfl | k_is)
    (case k4_BadWord => first | k_exc | kernel_rfl | k_is)
    (case ex0 => first | k_exc | kernel_rfl | k_is)
    (case ex1 => first | k_exc | kernel_rfl | k_is)
    (case ex2 => first | k_exc | kernel_rfl | k_is)
    (case ex3 => first | k_exc | kernel_rfl | k_is)
    (case ex4 => first | k_exc | kernel_rfl | k_is)
    (case z_abs => k_is)
    (case z_all => k_is)
    (case z_bool => k_is)
    (case z_enumerate => k_is)
    (case z_int => k_is)
    (case z_isinstance => k_is)
    (case z_len => k_is)
    (case z_list => k_is)
    (case z_min => k_is)
    (case z_range => k_is)
    (case z_repr => k_is)
    (case z_set => k_is)
    (case z_sorted => k_is)
    (case z_str => k_is)
    (case z_super => k_is)
    (case z_tuple => k_is)
    (case kg_MOST_STATES => k_is)
    (case kg_SIGNS => k_is)
    (case kg_MOST_LETTERS => k_is)
    (case kg_MOST_COST => k_is)
    (case tl38 => k_is)
    (case tv38 => rfl)
    (case tt38 => exact ⟨PySem.W.km_tabs_of Y _ (by simp), by kernel_rfl, by kernel_rfl⟩)
