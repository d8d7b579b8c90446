import PyProof.Rows.All
import Wide.All
import OpenK.AllK
import Wide.FinOn
import HandS.ForMost
import HandS.IsInst
import HandS.TupAny
import HandS.TupMul
import HandS.Deep
import HandS.Zip
import HandS.Conv
import HandS.Style
import HandS.SortInts
import KE.KIndexOf
import KE.KRevSl
import KE.KTupSum
import KE.KStateDown
import KE.GoesEnum
import HandS.TupSets
import PySem.Challenge.RW_swapyard_k60_whole_settled_lines
set_option Elab.async false
set_option linter.all false
set_option maxRecDepth 100000
set_option maxHeartbeats 4000000
/-! k60: makers of tuples that leave the object known (.frz): its dict is none -/
namespace Dv
open PySem PySem.Spec PyProof.Rows L2
def BareT (o : Obj) : Prop := o.cls = .type "tuple" ∧ o.dict = none
section
variable {X : Cx} {es : List Expr} {t : TA} {pos : Pos}
def tTupF (t : TA) : TE := fun σ H Q => t σ H fun xs H1 => xs.length ≤ sizeLine ∧ ∀ p o, H1 p = none → BareT o → Q (.ref p) (upd H1 p (.frz o (.tup xs)))
theorem pe_tupF {x1} (h : PA X es t) : PE X (.Tuple es x1 pos) (tTupF t) := by
  refine ⟨fun pins s σ H Q I hq => ?_⟩
  refine wpAny_Tuple_spliced (thn (h.run pos pins s σ H _ I hq) fun us s1 ⟨xs, H1, I1, r, z, q⟩ => ⟨by rw [← r.length]; exact z, ?_⟩)
  have hf : H1 s1.heap.objs.size = none := I1.hok.fresh (Nat.le_refl _)
  refine ⟨.ref s1.heap.objs.size, upd H1 s1.heap.objs.size (.frz _ (.tup xs)), I1.laid (t' := s1.toks) (fun b u e => Heap.get?_push_of_some _ e) (Nat.le_refl _) ⟨Heap.get?_push_size _ rfl, z, us, r, ⟨_, Heap.get?_push_size _ rfl, rfl, _, rfl⟩⟩, rfl, q _ _ hf ⟨rfl, rfl⟩⟩
def kTupF (K : PySem.W.Frag) : V → Hp → VK → Prop := fun x H Q => ∃ p xs, x = .ref p ∧ SqL K H p xs ∧ ∀ l o, H l = none → BareT o → Q (.ref l) (upd H l (.frz o (.tup xs)))
theorem rl_tupleF (pins : List (Addr × Obj)) (s : Shared) (σ : L2.St) (H : Hp) (x : V) (v : Value) (Q : VK) (I : Inv X pins σ H s) (r : RelV x v) (h : kTupF X.K x H Q) :
    wpAny (model X.prog X.w) X.A (call (.type "tuple") [v]) (EP X pins σ Q) X.xe s := by
  obtain ⟨p, xs, rfl, hs, q⟩ := h
  obtain rfl : v = .ref p := r
  obtain ⟨its, rv, pl, hz⟩ := I.list hs
  refine call_tuple_list pl.isList (fun h' hk => ?_) (by rw [List.size_toArray, ← rv.length]; exact hz)
  have I1 : Inv X pins σ H { s with heap := h' } := I.kept (t' := s.toks) hk
  have I2 : Inv X pins σ (upd H h'.objs.size (.frz { cls := .type "tuple", data := .seq its.toArray } (.tup xs))) { s with heap := h'.push { cls := .type "tuple", data := .seq its.toArray } } :=
    I1.laid (t' := s.toks) (fun b o e => Heap.get?_push_of_some _ e) (Nat.le_refl _) (show ObjOk X.prog X.w _ _ _ (.frz _ (.tup xs)) from ⟨Heap.get?_push_size _ rfl, hz, its, rv, IsTup.new _ _⟩)
  exact ⟨.ref h'.objs.size, _, I2, rfl, q _ _ (I1.hok.fresh (Nat.le_refl _)) ⟨rfl, rfl⟩⟩
def rCatF (K : PySem.W.Frag) : R2 := fun x y H Q => ∃ a b xs ys, x = .ref a ∧ y = .ref b ∧ SqT K H a xs ∧ SqT K H b ys ∧ xs.length + ys.length ≤ sizeLine ∧
  (xs = [] → Q (.ref b) H) ∧ (xs ≠ [] → ys = [] → Q (.ref a) H) ∧ (xs ≠ [] → ys ≠ [] → ∀ p o, H p = none → BareT o → Q (.ref p) (upd H p (.frz o (.tup (xs ++ ys)))))
theorem op_catF : OpR X (binaryOp .Add) (rCatF X.K) := by
  intro pins s σ H x y v u Q I rx ry h
  obtain ⟨a, b, xs, ys, rfl, rfl, ha, hb, hz, q0, q1, q2⟩ := h
  cases rx
  cases ry
  obtain ⟨its, r1, p1, _⟩ := I.tuple ha
  obtain ⟨its2, r2, p2, _⟩ := I.tuple hb
  by_cases hx : xs = []
  · subst hx
    cases r1
    exact cat_tup0 p1 p2 ⟨.ref b, H, I, rfl, q0 rfl⟩
  · refine HT.cat_tup p1 p2 (fun z => hx (r1.nil_iff.mp z)) (fun z => ⟨.ref a, H, I, rfl, q1 hx (r2.nil_iff.mp z)⟩) (fun z => ?_) (by rw [← r1.length, ← r2.length]; exact hz)
    refine ⟨.ref s.heap.objs.size, _, I.laid (t' := s.toks) (o := .frz _ (.tup (xs ++ ys))) (fun b ob q => Heap.get?_push_of_some _ q) (Nat.le_refl _) ⟨Heap.get?_push_size _ rfl, ?_⟩, rfl, q2 hx (fun w => z (r2.nil_iff.mpr w)) _ _ (I.hok.fresh (Nat.le_refl _)) ⟨rfl, rfl⟩⟩
    exact ⟨by rw [List.length_append]; exact hz, _, r1.append r2, IsTup.new _ _⟩
def rSlF (K : PySem.W.Frag) : V → Option Int → Option Int → Hp → VK → Prop := fun x lo hi H Q => ∃ a xs, x = .ref a ∧ SqT K H a xs ∧
  (HT.sIx xs.length 0 lo = 0 ∧ HT.sIx xs.length xs.length hi = xs.length → Q (.ref a) H) ∧ (¬ (HT.sIx xs.length 0 lo = 0 ∧ HT.sIx xs.length xs.length hi = xs.length) → ∀ p o, H p = none → BareT o → Q (.ref p) (upd H p (.frz o (.tup (cutV xs lo hi)))))
theorem sl_tupF : SlR X (rSlF X.K) := by
  intro pins s σ H x v vl vu lo hi sl Q I rx hs pl pu h
  obtain ⟨a, xs, rfl, hx, q1, q2⟩ := h
  cases rx
  obtain ⟨its, r, ht, hz⟩ := I.tuple hx
  have hlen : its.toArray.size = xs.length := by rw [List.size_toArray]; exact r.length.symm
  refine ⟨"tuple", _, PyProof.Rows.slot_tuple_getitem.lookup, ht.typeIs, ?_⟩
  by_cases hw : HT.sIx xs.length 0 lo = 0 ∧ HT.sIx xs.length xs.length hi = xs.length
  · exact getItem_tuple_whole ht hs pl pu (by rw [hlen]; exact hw) ⟨.ref a, H, I, rfl, q1 hw⟩
  · refine HT.getItem_tuple_cut ht hs pl pu (by rw [hlen]; exact hw) ?_ (by rw [hlen]; exact hz)
    rw [hlen]
    refine ⟨.ref s.heap.objs.size, _, I.laid (t' := s.toks) (o := .frz _ (.tup (cutV xs lo hi))) (fun b ob q => Heap.get?_push_of_some _ q) (Nat.le_refl _) ⟨Heap.get?_push_size _ rfl, ?_⟩, rfl, q2 hw _ _ (I.hok.fresh (Nat.le_refl _)) ⟨rfl, rfl⟩⟩
    exact ⟨Nat.le_trans (cutV_length xs lo hi) hz, _, (r.drop (HT.sIx xs.length 0 lo)).take (HT.sIx xs.length xs.length hi - HT.sIx xs.length 0 lo), IsTup.new _ _⟩
end
def SqB (K : PySem.W.Frag) (H : Hp) (a : Addr) (xs : List V) : Prop := (∃ o, H a = some (.frz o (.tup xs)) ∧ BareT o) ∨ ∃ (o : Obj) (its : Array Value) (n : Nat), K.lookup a = some o ∧ o.cls = .type "tuple" ∧ o.dict = none ∧ o.data = .seq its n ∧ its.size ≤ sizeLine ∧ Vals xs its.toList
theorem SqB.sq {K : PySem.W.Frag} {H : Hp} {a : Addr} {xs : List V} (h : SqB K H a xs) : SqT K H a xs := by
  rcases h with ⟨o, h, _⟩ | ⟨o, its, n, h1, h2, _, h3⟩
  · exact .inl (.inr ⟨o, h⟩)
  · exact .inr ⟨o, its, n, h1, h2, h3⟩
section
variable {X : Cx} {o e : Expr} {es : List Expr} {to : TE} {t : TA} {name : Str} {apos cpos : Pos} {id : String} {r : V → List V → Hp → VK → Prop}
theorem sqB_is {pins : List (Addr × Obj)} {σ : L2.St} {H : Hp} {s : Shared} {p : Addr} {xs : List V} (I : Inv X pins σ H s) (h : SqB X.K H p xs) : s.TypeIs (.ref p) "tuple" ∧ ∀ a, Value.ref p = .ref a → ∃ ob, s.heap.get? a = some ob ∧ ob.dict = none := by
  rcases h with ⟨o, h, hc, hd⟩ | ⟨o, its, n, h1, h2, h3, _⟩
  · obtain ⟨e, _⟩ := I.hok p _ h
    exact ⟨⟨o, e, hc⟩, fun a ea => by cases ea; exact ⟨o, e, hd⟩⟩
  · exact ⟨⟨o, I.kIn p o h1, h2⟩, fun a ea => by cases ea; exact ⟨o, I.kIn p o h1, h3⟩⟩
def tBMB (K : PySem.W.Frag) (r : V → List V → Hp → VK → Prop) (to : TE) (t : TA) : TE := fun σ H Q => to σ H fun x H1 => (∃ p xs, x = .ref p ∧ SqB K H1 p xs) ∧ t σ H1 fun xs H2 => r x xs H2 Q
theorem pe_bmB (slot : Slot "tuple" name id) (hty : typeOf (.builtin id) = pure (.type "method_descriptor")) (hm : MtR X id r) (ho : PE X o to) (ha : PA X (e :: es) t)
    (hbase : attributeBase o name X.env (eval o X.env) = eval o X.env := by rfl)
    (hfew : ((backTo cpos (starEach (e :: es) X.env)).all (fun x => !x.1) && (backToKw cpos (keywordEach [] X.env)).all (fun x => x.1.isSome)
      && decide ((e :: es).length + ([] : List Keyword).length + (if ([] : List Keyword).isEmpty then 0 else 1) < 30)) = true := by rfl)
    (hline : (apos.endLine == cpos.line) = true := by rfl) (hs : starEach (e :: es) X.env = (false, eval e X.env) :: starEach es X.env := by rfl) (hplain : (backTo cpos (starEach es X.env)).any (·.1) = false := by rfl) :
    PE X (.Call (.Attribute o name apos) (e :: es) [] cpos) (tBMB X.K r to t) := by
  refine ⟨fun pins s σ H Q I h => ?_⟩
  refine wpAny_Call_method_late hbase hfew hline rfl (thn (ho.run pins s σ H _ I h) fun v s1 ⟨x, H1, I1, r1, ⟨p, xs, ex, ty⟩, q1⟩ => ?_)
  subst ex
  cases r1
  obtain ⟨h1, h2⟩ := sqB_is I1 ty
  refine ⟨"tuple", id, PySem.F.plainAttrs_tuple, slot, hty, h1, h2, ?_⟩
  have hA := ha.run cpos pins s1 σ H1 _ I1 q1
  rw [hs] at hA ⊢
  refine Calls.callWith_builtin (by show (false || (backTo cpos (starEach es X.env)).any (·.1)) = false; rw [hplain] <;> rfl) (Calls.evalArgs_plain ?_)
  exact thn hA fun us s2 ⟨vs, H2, I2, r2, q2⟩ => hm pins s2 σ H2 (.ref p) vs (.ref p) us Q I2 rfl r2 q2
def rIndexB (K : PySem.W.Frag) : V → List V → Hp → VK → Prop := fun x xs H Q => ∃ (a : Addr) (ns : List Int) (k : Int), x = .ref a ∧ xs = [.int k] ∧ SqT K H a (ns.map V.int) ∧ k ∈ ns ∧ Q (.int (ns.idxOf k : Nat)) H
theorem mt_indexB : MtR X "tuple.index" (rIndexB X.K) := by
  intro pins s σ H x xs v us Q I rx rxs h
  obtain ⟨a, ns, k, rfl, rfl, hs, hk, q⟩ := h
  cases rx
  obtain ⟨u, rfl, ru⟩ := vals1 rxs
  obtain ⟨tk, rfl⟩ := ru
  obtain ⟨its, r1, p1, _⟩ := I.tuple hs
  exact PySem.SeqAt.tuple_index_ints p1 (intsAre_of r1) hk ⟨.int _, H, I.kept (t' := s.toks + 1) fun _ _ z => z, ⟨_, rfl⟩, q⟩
end
section
variable {X : Cx}
def rTupF (K : PySem.W.Frag) : List V → Hp → VK → Prop := fun xs H Q => ∃ p ys, xs = [.ref p] ∧ ((SqL K H p ys ∧ ∀ l o, H l = none → BareT o → Q (.ref l) (upd H l (.frz o (.tup ys)))) ∨ (SqT K H p ys ∧ Q (.ref p) H))
theorem call_tuple_ofF : CallR X (.type "tuple") (rTupF X.K) := by
  intro pins s σ H xs us Q I r h
  obtain ⟨p, ys, rfl, h⟩ := h
  obtain ⟨u, rfl, ru⟩ := vals1 r
  rcases h with ⟨h1, h2⟩ | ⟨h1, h2⟩
  · exact rl_tupleF pins s σ H (.ref p) u Q I ru ⟨p, ys, rfl, h1, h2⟩
  · cases ru
    obtain ⟨its, _, p1, _⟩ := I.tuple h1
    exact call_tuple_same p1 ⟨.ref p, H, I, rfl, h2⟩
end
section
variable {X : Cx} {e : Expr} {te : L2.St → Hp → (Int → Int → Hp → Prop) → Prop}
def tTupRgF (te : L2.St → Hp → (Int → Int → Hp → Prop) → Prop) : TE := fun σ H Q => te σ H fun a b H1 => RgOk a b ∧ ∀ p o, H1 p = none → BareT o → Q (.ref p) (upd H1 p (.frz o (.tup (rgV a b))))
theorem pe_tupRgF {p pos : Pos} (hc : X.calm = true) (hg : Gl X "tuple") (hm : X.mg "tuple" = none) (he : PRg X e te) (na : starEach [e] X.env = (false, eval e X.env) :: starEach [] X.env := by rfl) : PE X (.Call (.Name "tuple" p) [e] [] pos) (tTupRgF te) := by
  refine ⟨fun pins s σ H Q I h => ?_⟩
  refine Call_ (ld_blt I hg hm boot_tuple (PyProof.Rows.callWith_type1 (args_cons (thn (he pins s σ H _ I h) fun x s1 ⟨r, a, b, t, u, v, H1, ex, hr, I1, ok, q⟩ => args_nil ?_) na) na))
  subst ex
  obtain ⟨b1, b2, b3, b4, b5⟩ := ok
  refine call_tuple_range (n := (b - a).toNat) (I1.ok.hd hc) hr (small_one b1 b2 b3 b4) (rangeSize_nat a b) b5 fun h' tk acc hk hi => ?_
  have I2 : Inv X pins σ H1 { s1 with heap := h', toks := tk } := I1.kept hk
  refine ⟨.ref h'.objs.size, upd H1 h'.objs.size (.frz _ (.tup (rgV a b))), I2.laid (t' := tk) (fun c o e => Heap.get?_push_of_some _ e) (Nat.le_refl _) (show ObjOk X.prog X.w _ _ _ (.frz _ (.tup (rgV a b))) from ⟨Heap.get?_push_size _ rfl, ?_, acc.toList, vals_rg hi, ?_⟩), rfl, q _ _ (I2.hok.fresh (Nat.le_refl _)) ⟨rfl, rfl⟩⟩
  · rw [rgV_length, sizeLine_eq]; omega
  · rw [Array.toArray_toList]; exact IsTup.new _ _
end
end Dv

/-! k60: zip of two tuples, enumerate of a list: the pairs laid with a known object -/
namespace Dv
open PySem PySem.Spec PyProof.Rows L2
/-- a pair laid anew at T, its object known -/
def PairAt (H : Hp) (v : V) (H' : Hp) (x y : V) : Prop := ∃ T o, v = .ref T ∧ H T = none ∧ BareT o ∧ H' = upd H T (.frz o (.tup [x, y]))
def ItzF (K : PySem.W.Frag) (a b : Addr) : It where
  go := (RZ.ItzT K a b).go
  yld := fun i H v H' => ∃ x y, PairAt H v H' x y ∧ (∀ xs, SqT K H a xs → xs[i]? = some x) ∧ ∀ ys, SqT K H b ys → ys[i]? = some y
  stop := (RZ.ItzT K a b).stop
def IteF (K : PySem.W.Frag) (a : Addr) : It where
  go := (Ite K a).go
  yld := fun i H v H' => ∃ x, PairAt H v H' (.int (i : Nat)) x ∧ ∀ xs, SqL K H a xs → xs[i]? = some x
  stop := (Ite K a).stop
theorem pair_new {P : Program} {w : World} {H : Hp} {h : Heap} {T : Addr} {x y : V} {u v : Value} (e : h.get? T = some { cls := .type "tuple", data := .seq #[u, v] }) (r1 : RelV x u) (r2 : RelV y v) :
    ObjOk P w (upd H T (.frz { cls := .type "tuple", data := .seq #[u, v] } (.tup [x, y]))) h T (.frz { cls := .type "tuple", data := .seq #[u, v] } (.tup [x, y])) :=
  ⟨e, by show 2 ≤ sizeLine; decide, [u, v], .cons r1 (.cons r2 .nil), ⟨_, e, rfl, _, rfl⟩⟩
theorem bare2 {u v : Value} : BareT { cls := .type "tuple", data := .seq #[u, v] } := ⟨rfl, rfl⟩
theorem turn_enumF {P : Program} {w : World} {K : PySem.W.Frag} {elts : List Expr} {kk : Nat} {tpos : Pos} (a e it : Addr) :
    Turn P w K (.Tuple elts kk tpos) (IteF K a) [e, it] e (fun i h => (∃ old, IsEnum h e it ((i : Nat) : Int) old) ∧ h.IsListIter it a i ∧ e ≠ it) :=
  have B := turn_enum (P := P) (w := w) (K := K) (elts := elts) (kk := kk) (tpos := tpos) a e it
  { mem := B.mem, obj := B.obj, keep := B.keep, done := B.done, self := B.self
    item := by
      intro X hP hw hK hc i pins s σ H E I hf ⟨⟨old, he⟩, hit, hne⟩ ⟨xs, x, hq, hx⟩
      subst hP hw hK
      obtain ⟨its, rv, p, _⟩ := I.list hq
      obtain ⟨u, hu, ru⟩ := rv.get hx
      have le : e < s.heap.objs.size := Heap.lt_size he
      have li : it < s.heap.objs.size := let ⟨_, q, _⟩ := hit; Heap.lt_size q
      refine wpAny_pyNext_enum_item he hit p.isList (x := u) (by simpa using hu) hne fun h1 ho hit1 hT _ hk => ⟨_, rfl, wpAny_letOwnedTupleGo_enum (s := { s with heap := h1, toks := s.toks + 1 }) ho fun h2 he2 sb => ?_⟩
      have eT := (sb.2 _ (Nat.ne_of_gt le)).trans hT
      have J := I.turnedNew (t' := s.toks + 1) (ch := [e, it]) (fun b ob hb q => (sb.2 b fun z => hb (by simp [z])).trans (hk b ob (fun z => hb (by simp [z])) (fun z => hb (by simp [z])) q)) hf (Nat.le_refl _) (pair_new (P := X.prog) (w := X.w) (H := H) eT (x := .int (i : Nat)) ⟨_, rfl⟩ ru)
      refine ⟨.ref s.heap.objs.size, _, J, rfl, ⟨x, ⟨_, _, rfl, I.hok.fresh (Nat.le_refl _), bare2, rfl⟩, fun ys hy => by rw [I.list_inj hy hq]; exact hx⟩, ⟨⟨u, ?_⟩, hit1.at fun o q => (sb.2 it (Ne.symm hne)).trans q, hne⟩, fun b hb => ?_⟩
      · rw [show ((i + 1 : Nat) : Int) = (i : Int) + 1 by omega]; exact he2
      · have lb : b < s.heap.objs.size := by
          rcases (by simpa using hb : b = e ∨ b = it) with rfl | rfl <;> assumption
        rw [upd_ne (Nat.ne_of_lt lb)]
        exact (hf b hb).1 }
theorem turn_zipF {P : Program} {w : World} {K : PySem.W.Frag} {elts : List Expr} {kk : Nat} {tpos : Pos} {a b z TI TO i1 i2 : Addr} (D : ZipApart z TI TO i1 i2 a b) :
    Turn P w K (.Tuple elts kk tpos) (ItzF K a b) [z, TI, TO, i1, i2] z (fun i h => IsZip h z TI TO .none ∧ IsPair h TI (.ref i1) (.ref i2) ∧ (∃ x y, IsPair h TO x y) ∧ h.IsTupleIter i1 a i ∧ h.IsTupleIter i2 b i) :=
  have B := RZ.turn_zipT (P := P) (w := w) (K := K) (elts := elts) (kk := kk) (tpos := tpos) D
  { mem := B.mem, obj := B.obj, keep := B.keep, done := B.done, self := B.self
    item := by
      intro X hP hw hK hc i pins s σ H E I hf ⟨hz, hTI, ⟨x0, y0, hTO⟩, h1, h2⟩ ⟨xs, ys, x, y, hqx, hqy, hx, hy⟩
      subst hP hw hK
      obtain ⟨its, rv, p, _⟩ := I.tuple hqx
      obtain ⟨its2, rv2, p2, _⟩ := I.tuple hqy
      obtain ⟨u, hu, ru⟩ := rv.get hx
      obtain ⟨u2, hu2, ru2⟩ := rv2.get hy
      have lz : z < s.heap.objs.size := Heap.lt_size hz
      refine RZ.pyNext_zipT_item D hz hTI hTO h1 h2 p p2 (x := u) (y := u2) (by simpa using hu) (by simpa using hu2) fun g zz TOO k1 k2 hT _ hk => ⟨_, rfl, wpAny_letOwnedTupleGo_zip (s := { s with heap := g }) zz fun g2 z2 sb => ?_⟩
      have eT := (sb.2 _ (Nat.ne_of_gt lz)).trans hT
      have J := I.turnedNew (t' := s.toks) (ch := [z, TI, TO, i1, i2]) (fun c o hb q => by
        simp only [List.mem_cons, List.not_mem_nil, or_false, not_or] at hb
        exact (sb.2 c hb.1).trans (hk c o hb.1 hb.2.2.1 hb.2.2.2.1 hb.2.2.2.2 q)) hf (Nat.le_refl _) (pair_new (P := X.prog) (w := X.w) (H := H) eT ru ru2)
      refine ⟨.ref s.heap.objs.size, _, J, rfl, ⟨x, y, ⟨_, _, rfl, I.hok.fresh (Nat.le_refl _), bare2, rfl⟩, fun l hl => by rw [I.tuple_inj hl hqx]; exact hx, fun l hl => by rw [I.tuple_inj hl hqy]; exact hy⟩,
        ⟨z2, (sb.2 _ D.TIz).trans (hk _ _ D.TIz D.TITO D.TIi1 D.TIi2 hTI), ⟨u, u2, (sb.2 _ D.TOz).trans TOO⟩, k1.at fun o q => (sb.2 _ D.i1z).trans q, k2.at fun o q => (sb.2 _ D.i2z).trans q⟩, fun c hcm => ?_⟩
      have lc : c < s.heap.objs.size := by
        obtain ⟨_, m1, _⟩ := h1
        obtain ⟨_, m2, _⟩ := h2
        rcases (by simpa using hcm : c = z ∨ c = TI ∨ c = TO ∨ c = i1 ∨ c = i2) with rfl | rfl | rfl | rfl | rfl
        · exact lz
        · exact Heap.lt_size hTI
        · exact Heap.lt_size hTO
        · exact Heap.lt_size m1
        · exact Heap.lt_size m2
      rw [upd_ne (Nat.ne_of_lt lc)]
      exact (hf c hcm).1 }
section
variable {X : Cx} {e e2 : Expr} {ta : TA} {p pos tpos : Pos} {elts : List Expr} {kk : Nat}
def iZipF (K : PySem.W.Frag) (ta : TA) : TI := fun σ H R => ta σ H fun vs H1 => ∃ a b xs ys, vs = [.ref a, .ref b] ∧ SqT K H1 a xs ∧ SqT K H1 b ys ∧ R (ItzF K a b) H1
theorem pi_zipF (hg : Gl X "zip") (hm : X.mg "zip" = none) (ha : PA X [e, e2] ta)
    (hs : starEach [e, e2] X.env = (false, eval e X.env) :: starEach [e2] X.env := by rfl) (hpl : (backTo pos (starEach [e2] X.env)).any (·.1) = false := by rfl) :
    PI X (.Tuple elts kk tpos) (.Call (.Name "zip" p) [e, e2] [] pos) (iZipF X.K ta) := by
  refine ⟨fun pins s σ H R I h => Call_ (ld_blt I hg hm PyProof.Rows.boot_zip (PyProof.Rows.callWith_type1 (thn (ha.run pos pins s σ H _ I h) fun us s1 ⟨vs, H1, I1, r1, a, b, xs, ys, ex, hqx, hqy, q⟩ => ?_) hs hpl))⟩
  subst ex
  obtain ⟨u1, u2, rfl, ra, rb⟩ := vals2 r1
  cases ra
  cases rb
  obtain ⟨its, _, p1, _⟩ := I1.tuple hqx
  obtain ⟨its2, _, p2, _⟩ := I1.tuple hqy
  obtain ⟨o1, ho1, _⟩ := id p1
  obtain ⟨o2, ho2, _⟩ := id p2
  refine RZ.call_zipT (show s1.heap.IsTuple a its.toArray from p1) (show s1.heap.IsTuple b its2.toArray from p2) fun h' hz hTI hTO k1 k2 _ hk => wpAny_pyIter_zip hz ?_
  refine ⟨_, [s1.heap.objs.size + 4, s1.heap.objs.size + 2, s1.heap.objs.size + 3, s1.heap.objs.size, s1.heap.objs.size + 1], _, _, H1, rfl, I1.kept (t' := s1.toks) hk, turn_zipF (PySem.W.ktu_apart s1.heap.objs.size a b (Heap.lt_size ho1) (Heap.lt_size ho2)), ⟨hz, hTI, ⟨_, _, hTO⟩, k1, k2⟩, fun c hcm => ?_, q⟩
  have le : s1.heap.objs.size ≤ c := by
    simp only [List.mem_cons, List.not_mem_nil, or_false] at hcm
    rcases hcm with z | z | z | z | z <;> rw [z] <;> first | exact Nat.le_add_right _ _ | exact Nat.le_refl _
  exact I1.fpOk le (I1.hok.fresh le)
def iEnF (K : PySem.W.Frag) (ta : TA) : TI := fun σ H R => ta σ H fun vs H1 => ∃ a xs, vs = [.ref a] ∧ SqL K H1 a xs ∧ R (IteF K a) H1
theorem pi_enumF (hg : Gl X "enumerate") (hm : X.mg "enumerate" = none) (ha : PA X [e] ta) (hs : starEach [e] X.env = [(false, eval e X.env)] := by rfl) :
    PI X (.Tuple elts kk tpos) (.Call (.Name "enumerate" p) [e] [] pos) (iEnF X.K ta) := by
  refine ⟨fun pins s σ H R I h => Call_ (ld_blt I hg hm boot_enumerate (PyProof.Rows.callWith_type1 (thn (ha.run pos pins s σ H _ I h) fun us s1 ⟨vs, H1, I1, r1, a, xs, ex, hq, q⟩ => ?_) hs rfl))⟩
  subst ex
  obtain ⟨u1, rfl, ra⟩ := vals1 r1
  cases ra
  obtain ⟨its, _, p1, _⟩ := I1.list hq
  refine call_enumerate_list p1.isList fun h' he hit _ hk => wpAny_pyIter_enum he ?_
  refine ⟨_, [s1.heap.objs.size + 1, s1.heap.objs.size], _, _, H1, rfl, I1.kept (t' := s1.toks) hk, turn_enumF a (s1.heap.objs.size + 1) s1.heap.objs.size, ⟨⟨.none, he⟩, hit, Nat.succ_ne_self _⟩, fun c hcm => ?_, q⟩
  have le : s1.heap.objs.size ≤ c := by
    simp only [List.mem_cons, List.not_mem_nil, or_false] at hcm
    rcases hcm with z | z <;> rw [z] <;> first | exact Nat.le_add_right _ _ | exact Nat.le_refl _
  exact I1.fpOk le (I1.hok.fresh le)
end
end Dv

/-! Dv: plain data over the hand layer: what an expression is worth, as a function of the data in the slots. -/
namespace Dv
open PySem PySem.Spec PyProof.Rows L2

/-! ### data in the heap -/
mutual
inductive Den (K : PySem.W.Frag) (H : Hp) : V → PyData → Prop
  | non : Den K H .non .none
  | bl (b : Bool) : Den K H (.bl b) (.bool b)
  | int (i : Int) : Den K H (.int i) (.int i)
  | str (x : Str) : Den K H (.str x) (.str x)
  | lst {a : Addr} {xs : List V} {ds : List PyData} : SqL K H a xs → ds.length ≤ sizeLine → DenL K H xs ds → Den K H (.ref a) (.list ds)
  | tup {a : Addr} {xs : List V} {ds : List PyData} : SqB K H a xs → ds.length ≤ sizeLine → DenL K H xs ds → Den K H (.ref a) (.tuple ds)
inductive DenL (K : PySem.W.Frag) (H : Hp) : List V → List PyData → Prop
  | nil : DenL K H [] []
  | cons {v : V} {vs : List V} {d : PyData} {ds : List PyData} : Den K H v d → DenL K H vs ds → DenL K H (v :: vs) (d :: ds)
end

section
variable {K : PySem.W.Frag} {H H' H1 H1' H2 H2' : Hp} {a p : Addr} {o : HO} {xs vs : List V} {ds : List PyData} {v : V} {d : PyData}
instance : Coe (SqB K H a xs) (SqT K H a xs) := ⟨SqB.sq⟩
theorem sqB_mono (e : Same H H') (h : SqB K H a xs) : SqB K H' a xs := by
  rcases h with ⟨o, h, b⟩ | h
  · exact .inl ⟨o, e _ _ h, b⟩
  · exact .inr h
theorem sqT_mono0 (e : Same H H') (h : SqT K H a xs) : SqT K H' a xs := by
  rcases h with (h | ⟨o, h⟩) | h
  · exact .inl (.inl (e _ _ h))
  · exact .inl (.inr ⟨o, e _ _ h⟩)
  · exact .inr h
theorem sqT_mono (e : Same H H') (h : SqB K H a xs) : SqT K H' a xs := sqT_mono0 e h.sq
mutual
theorem Den.mono (e : Same H H') : ∀ (d : PyData) (v : V), Den K H v d → Den K H' v d
  | .none, _, h => by cases h; exact .non
  | .bool b, _, h => by cases h; exact .bl b
  | .int i, _, h => by cases h; exact .int i
  | .str x, _, h => by cases h; exact .str x
  | .list ds, _, h => by cases h with | lst a b c => exact .lst (e.seq a) b (DenL.mono e ds _ c)
  | .tuple ds, _, h => by cases h with | tup a b c => exact .tup (sqB_mono e a) b (DenL.mono e ds _ c)
  | .dict _, _, h => by cases h
theorem DenL.mono (e : Same H H') : ∀ (ds : List PyData) (vs : List V), DenL K H vs ds → DenL K H' vs ds
  | [], _, h => by cases h; exact .nil
  | d :: ds, _, h => by cases h with | cons a b => exact .cons (Den.mono e d _ a) (DenL.mono e ds _ b)
end
mutual
theorem Den.dp : ∀ (d : PyData) (v : V), Den K H v d → Dp K H v d
  | .none, _, h => by cases h; exact .non
  | .bool b, _, h => by cases h; exact .bl b
  | .int i, _, h => by cases h; exact .int i
  | .str x, _, h => by cases h; exact .str x
  | .list ds, _, h => by cases h with | lst a b c => exact .lst a (DenL.dp ds _ c)
  | .tuple ds, _, h => by cases h with | tup a b c => exact .tup a (DenL.dp ds _ c)
  | .dict _, _, h => by cases h
theorem DenL.dp : ∀ (ds : List PyData) (vs : List V), DenL K H vs ds → DpAll K H vs ds
  | [], _, h => by cases h; exact .nil
  | d :: ds, _, h => by cases h with | cons a b => exact .cons (Den.dp d _ a) (DenL.dp ds _ b)
end
theorem DenL.length : ∀ {ds : List PyData} {vs : List V}, DenL K H vs ds → vs.length = ds.length
  | [], _, h => by cases h; rfl
  | d :: ds, _, h => by cases h with | cons a b => rw [List.length_cons, List.length_cons, DenL.length b]
theorem DenL.get : ∀ {ds : List PyData} {vs : List V} {i : Nat} {d : PyData}, DenL K H vs ds → ds[i]? = some d → ∃ v, vs[i]? = some v ∧ Den K H v d
  | [], _, _, _, h, e => by simp at e
  | x :: ds, _, 0, d, h, e => by
    cases h with
    | cons a b =>
      have e' : x = d := by simpa using e
      subst e'
      exact ⟨_, rfl, a⟩
  | x :: ds, _, i + 1, d, h, e => by
    cases h with
    | cons a b =>
      obtain ⟨v, q1, q2⟩ := DenL.get (i := i) (d := d) b (by simpa using e)
      exact ⟨v, by simpa using q1, q2⟩
theorem DenL.get' : ∀ {ds : List PyData} {vs : List V} {i : Nat} {v : V}, DenL K H vs ds → vs[i]? = some v → ∃ d, ds[i]? = some d ∧ Den K H v d
  | [], _, _, _, h, e => by cases h; simp at e
  | x :: ds, _, 0, v, h, e => by
    cases h with
    | cons a b =>
      rename_i y ys
      have e' : y = v := by simpa using e
      subst e'
      exact ⟨_, rfl, a⟩
  | x :: ds, _, i + 1, v, h, e => by
    cases h with
    | cons a b =>
      obtain ⟨d, q1, q2⟩ := DenL.get' (i := i) (v := v) b (by simpa using e)
      exact ⟨d, by simpa using q1, q2⟩
theorem DenL.append : ∀ {ds es : List PyData} {vs ws : List V}, DenL K H vs ds → DenL K H ws es → DenL K H (vs ++ ws) (ds ++ es)
  | [], _, _, _, h, h' => by cases h; exact h'
  | x :: ds, _, _, _, h, h' => by cases h with | cons a b => exact .cons a (DenL.append b h')
theorem DenL.take : ∀ (n : Nat) {ds : List PyData} {vs : List V}, DenL K H vs ds → DenL K H (vs.take n) (ds.take n)
  | 0, _, _, _ => by rw [List.take_zero, List.take_zero]; exact .nil
  | n + 1, [], _, h => by cases h; exact .nil
  | n + 1, x :: ds, _, h => by cases h with | cons a b => exact .cons a (DenL.take n b)
theorem DenL.drop : ∀ (n : Nat) {ds : List PyData} {vs : List V}, DenL K H vs ds → DenL K H (vs.drop n) (ds.drop n)
  | 0, _, _, h => h
  | n + 1, [], _, h => by cases h; exact .nil
  | n + 1, x :: ds, _, h => by cases h with | cons a b => exact DenL.drop n b
theorem DenL.set {w : V} {e : PyData} (q : Den K H w e) : ∀ (n : Nat) {ds : List PyData} {vs : List V}, DenL K H vs ds → DenL K H (vs.set n w) (ds.set n e)
  | _, [], _, h => by cases h; exact .nil
  | 0, x :: ds, _, h => by cases h with | cons a b => exact .cons q b
  | n + 1, x :: ds, _, h => by cases h with | cons a b => exact .cons a (DenL.set q n b)
theorem DenL.reverse : ∀ {ds : List PyData} {vs : List V}, DenL K H vs ds → DenL K H vs.reverse ds.reverse
  | [], _, h => by cases h; exact .nil
  | x :: ds, _, h => by
    cases h with
    | cons a b =>
      rw [List.reverse_cons, List.reverse_cons]
      exact DenL.append (DenL.reverse b) (.cons a .nil)
theorem DenL.rep {ds : List PyData} {vs : List V} (h : DenL K H vs ds) : ∀ n : Nat, DenL K H (List.replicate n vs).flatten (List.replicate n ds).flatten
  | 0 => .nil
  | n + 1 => by
    rw [List.replicate_succ, List.replicate_succ, List.flatten_cons, List.flatten_cons]
    exact h.append (DenL.rep h n)
theorem DenL.one (h : Den K H v d) : DenL K H [v] [d] := .cons h .nil
theorem DenL.ints : ∀ (ns : List Int), DenL K H (ns.map V.int) (ns.map PyData.int)
  | [] => .nil
  | n :: ns => .cons (.int n) (DenL.ints ns)
theorem DenL.ints_of : ∀ {ns : List Int} {vs : List V}, DenL K H vs (ns.map PyData.int) → vs = ns.map V.int
  | [], _, h => by cases h; rfl
  | n :: ns, _, h => by
    cases h with
    | cons a b =>
      cases a
      rw [DenL.ints_of b]
      rfl

/-! ### the stable heap and the heap -/
/-- from (H1, H) to (H1', H'): H1 the stable part of H -/
structure Ext (H1 H H1' H' : Hp) : Prop where
  st : Same H1 H1'
  sub : Same H1' H'
  fr : ∀ b o, H b = some o → H1 b = none → H1' b = none ∧ H' b = some o
theorem Ext.refl (s : Same H1 H) : Ext H1 H H1 H := ⟨Same.refl _, s, fun _ _ e n => ⟨n, e⟩⟩
theorem Ext.trans (x : Ext H1 H H1' H') (y : Ext H1' H' H2 H2') : Ext H1 H H2 H2' := ⟨x.st.trans y.st, y.sub, fun b o e n => let ⟨n', e'⟩ := x.fr b o e n; y.fr b o e' n'⟩
theorem Ext.same (s : Same H1 H) (x : Ext H1 H H1' H') : Same H H' := fun b o e => by
  cases q : H1 b with
  | none => exact (x.fr b o e q).2
  | some o' =>
    have e2 := s b o' q
    rw [e] at e2
    cases e2
    exact x.sub _ _ (x.st _ _ q)
theorem upd_none {b : Addr} (h : upd H p o b = none) : b ≠ p ∧ H b = none := by
  by_cases e : b = p
  · subst e; rw [upd_same] at h; cases h
  · rw [upd_ne e] at h; exact ⟨e, h⟩
theorem same_new (n : H p = none) : Same H (upd H p o) := fun b x e => by rw [upd_ne (ne_of_none e n)]; exact e
theorem none_of_sub (s : Same H1 H) (n : H p = none) : H1 p = none := s.free n
theorem Ext.new (s : Same H1 H) (n : H p = none) : Ext H1 H (upd H1 p o) (upd H p o) := by
  refine ⟨same_new (s.free n), fun b x e => ?_, fun b x e m => ?_⟩
  · by_cases hb : b = p
    · subst hb; rw [upd_same] at e ⊢; exact e
    · rw [upd_ne hb] at e ⊢; exact s _ _ e
  · have hb : b ≠ p := ne_of_none e n
    rw [upd_ne hb, upd_ne hb]
    exact ⟨m, e⟩
theorem Ext.newMut (s : Same H1 H) (n : H p = none) : Ext H1 H H1 (upd H p o) :=
  ⟨Same.refl _, s.trans (same_new n), fun b x e m => ⟨m, by rw [upd_ne (ne_of_none e n)]; exact e⟩⟩
/-- a new object becomes stable -/
theorem Ext.frz (x : Ext H1 H H1' H') (n : H a = none) (e : H' a = some o) (n' : H1' a = none) : Ext H1 H (upd H1' a o) H' := by
  refine ⟨x.st.trans (same_new n'), fun b u q => ?_, fun b u q m => ?_⟩
  · by_cases hb : b = a
    · subst hb; rw [upd_same] at q; rw [← q]; exact e
    · rw [upd_ne hb] at q; exact x.sub _ _ q
  · rw [upd_ne (ne_of_none q n)]
    exact x.fr b u q m
end

/-! ### what stands in the slots -/
inductive W where
  | im (d : PyData)
  | ml (ds : List PyData)
  | md (kvs : List (Int × PyData))
  | mm (rows : List (List PyData))
  | xo (a : Addr) (c : Str)
  | fo (C : Addr) (fs : List (Str × PyData))
  | so (C a dx : Addr) (fs : List (Str × PyData))
  | ob (C : Addr) (fs : List (Str × PyData))
abbrev En := List (Option W)
def W.mut : W → Prop
  | .im _ => False
  | .xo _ _ => False
  | .fo _ _ => False
  | .so _ _ _ _ => False
  | .ob _ _ => False
  | _ => True
def DenKV (K : PySem.W.Frag) (H : Hp) : List (Key × V) → List (Int × PyData) → Prop := Paired fun p q => p.1 = Sum.inl q.1 ∧ Den K H p.2 q.2
def RowsOk (K : PySem.W.Frag) (H1 H : Hp) : List Addr → List (List PyData) → Prop := Paired fun k ds => ∃ vs, H k = some (.lst vs) ∧ H1 k = none ∧ ds.length ≤ sizeLine ∧ DenL K H1 vs ds
/-- an instance's attributes -/
def FDen (K : PySem.W.Frag) (H : Hp) : List (Str × V) → List (Str × PyData) → Prop := Paired fun p q => p.1 = q.1 ∧ Den K H p.2 q.2
def InsOk (K : PySem.W.Frag) (H1 H : Hp) (C a dx : Addr) (fs : List (Str × PyData)) : Prop := ∃ fsV, H a = some (.ins C dx fsV) ∧ H dx = some (.own a) ∧ H1 a = none ∧ H1 dx = none ∧ fs.length ≤ 900 ∧ FDen K H1 fsV fs
def WOk (K : PySem.W.Frag) (H1 H : Hp) (v : V) : W → Prop
  | .im d => Den K H1 v d
  | .ml ds => ∃ a vs, v = .ref a ∧ H a = some (.lst vs) ∧ H1 a = none ∧ ds.length ≤ sizeLine ∧ DenL K H1 vs ds
  | .md kvs => ∃ a ws, v = .ref a ∧ H a = some (.dK ws) ∧ H1 a = none ∧ kvs.length ≤ sizeLine ∧ DenKV K H1 ws kvs
  | .mm rows => ∃ (a : Addr) (ks : List Addr), v = .ref a ∧ H a = some (.lst (ks.map V.ref)) ∧ H1 a = none ∧ rows.length ≤ sizeLine ∧ a ∉ ks ∧ ks.Nodup ∧ RowsOk K H1 H ks rows
  | .xo a _ => v = .ref a
  | .fo C fs => ∃ a dx fsV, v = .ref a ∧ H1 a = some (.ins C dx fsV) ∧ H1 dx = some (.own a) ∧ fs.length ≤ 900 ∧ FDen K H1 fsV fs
  | .so C a dx fs => v = .ref a ∧ InsOk K H1 H C a dx fs
  | .ob C fs => ∃ a dx, v = .ref a ∧ InsOk K H1 H C a dx fs
/-- what a slot has for its own -/
def Owned (H : Hp) (v : V) (b : Addr) : W → Prop
  | .im _ => False
  | .xo _ _ => False
  | .fo _ _ => False
  | .so _ a dx _ => v = .ref a ∧ (b = a ∨ b = dx)
  | .ob C _ => v = .ref b ∨ ∃ (a dx : Addr) (fsV : List (Str × V)), v = .ref a ∧ H a = some (.ins C dx fsV) ∧ b = dx
  | .ml _ => v = .ref b
  | .md _ => v = .ref b
  | .mm _ => v = .ref b ∨ ∃ (a : Addr) (ks : List Addr), v = .ref a ∧ H a = some (.lst (ks.map V.ref)) ∧ b ∈ ks
theorem map_ref_inj : ∀ {ks ls : List Addr}, ks.map V.ref = ls.map V.ref → ks = ls
  | [], [], _ => rfl
  | [], _ :: _, h => by cases h
  | _ :: _, [], h => by cases h
  | k :: ks, l :: ls, h => by
    rw [List.map_cons, List.map_cons] at h
    injection h with h1 h2
    cases h1
    rw [map_ref_inj h2]
theorem RowsOk.at_ {K : PySem.W.Frag} {H1 H : Hp} : ∀ {ks : List Addr} {rows : List (List PyData)}, RowsOk K H1 H ks rows → ∀ b ∈ ks, ∃ o, H b = some o ∧ H1 b = none
  | _, _, .nil, b, hb => by cases hb
  | _, _, .cons ⟨vs, h1, h2, _⟩ t, b, hb => by
    rcases List.mem_cons.mp hb with rfl | hb
    · exact ⟨_, h1, h2⟩
    · exact RowsOk.at_ t b hb
theorem RowsOk.ext {K : PySem.W.Frag} {H1 H H1' H' : Hp} {ks : List Addr} {rows : List (List PyData)} (x : Ext H1 H H1' H') (h : RowsOk K H1 H ks rows) : RowsOk K H1' H' ks rows :=
  Paired.mapP h fun k ds ⟨vs, h1, h2, h3, h4⟩ => ⟨vs, (x.fr k _ h1 h2).2, (x.fr k _ h1 h2).1, h3, DenL.mono x.st ds vs h4⟩
theorem Owned.at_ {K : PySem.W.Frag} {H1 H : Hp} {v : V} {b : Addr} {w : W} (q : WOk K H1 H v w) (h : Owned H v b w) : ∃ o, H b = some o ∧ H1 b = none := by
  cases w with
  | im d => exact h.elim
  | xo a c => exact h.elim
  | fo C fs => exact h.elim
  | so C a dx fs =>
    obtain ⟨rfl, fsV, q1, q2, q3, q4, _⟩ := q
    rcases h with ⟨_, rfl | rfl⟩
    · exact ⟨_, q1, q3⟩
    · exact ⟨_, q2, q4⟩
  | ob C fs =>
    obtain ⟨a, dx, rfl, fsV, q1, q2, q3, q4, _⟩ := q
    rcases h with h | ⟨a', dx', fsV', h, e', rfl⟩
    · cases h
      exact ⟨_, q1, q3⟩
    · cases h
      rw [q1] at e'
      cases e'
      exact ⟨_, q2, q4⟩
  | ml ds =>
    obtain ⟨a, vs, rfl, e, n, _⟩ := q
    cases h
    exact ⟨_, e, n⟩
  | md ds =>
    obtain ⟨a, vs, rfl, e, n, _⟩ := q
    cases h
    exact ⟨_, e, n⟩
  | mm rows =>
    obtain ⟨a, ks, rfl, e, n, _, _, _, r⟩ := q
    rcases h with h | ⟨a', ks', h, e', hb⟩
    · cases h
      exact ⟨_, e, n⟩
    · cases h
      rw [e] at e'
      injection e' with e'
      injection e' with e'
      rw [← map_ref_inj e'] at hb
      exact r.at_ b hb
/-- .. is known from any heap that has it as it was -/
theorem Owned.back {K : PySem.W.Frag} {H1 H H' : Hp} {v : V} {b : Addr} {w : W} (q : WOk K H1 H v w) (s : ∀ a o, v = .ref a → H a = some o → H' a = some o) (h : Owned H' v b w) : Owned H v b w := by
  cases w with
  | im d => exact h
  | xo a c => exact h
  | fo C fs => exact h
  | so C a dx fs => exact h
  | ob C fs =>
    obtain ⟨a, dx, rfl, fsV, q1, q2, q3, q4, _⟩ := q
    rcases h with h | ⟨a', dx', fsV', h, e', rfl⟩
    · exact .inl h
    · cases h
      rw [s a _ rfl q1] at e'
      cases e'
      exact .inr ⟨a, _, _, rfl, q1, rfl⟩
  | ml ds => exact h
  | md ds => exact h
  | mm rows =>
    obtain ⟨a, ks, rfl, e, _⟩ := q
    rcases h with h | ⟨a', ks', h, e', hb⟩
    · exact .inl h
    · cases h
      rw [s a _ rfl e] at e'
      injection e' with e'
      injection e' with e'
      exact .inr ⟨a, ks, rfl, e, by rw [map_ref_inj e']; exact hb⟩
theorem FDen.mono {K : PySem.W.Frag} {H H' : Hp} {fsV : List (Str × V)} {fs : List (Str × PyData)} (e : Same H H') (h : FDen K H fsV fs) : FDen K H' fsV fs := Paired.mapP h fun p q ⟨e1, e2⟩ => ⟨e1, Den.mono e _ _ e2⟩
theorem InsOk.ext {K : PySem.W.Frag} {H1 H H1' H' : Hp} {C a dx : Addr} {fs : List (Str × PyData)} (x : Ext H1 H H1' H') (h : InsOk K H1 H C a dx fs) : InsOk K H1' H' C a dx fs := by
  obtain ⟨fsV, q1, q2, q3, q4, q5, q6⟩ := h
  exact ⟨fsV, (x.fr _ _ q1 q3).2, (x.fr _ _ q2 q4).2, (x.fr _ _ q1 q3).1, (x.fr _ _ q2 q4).1, q5, q6.mono x.st⟩
theorem WOk.ext {K : PySem.W.Frag} {H1 H H1' H' : Hp} {v : V} {w : W} (x : Ext H1 H H1' H') (h : WOk K H1 H v w) : WOk K H1' H' v w := by
  cases w with
  | im d => exact Den.mono x.st d v h
  | xo a c => exact h
  | fo C fs =>
    obtain ⟨a, dx, fsV, e0, q1, q2, q3, q4⟩ := h
    exact ⟨a, dx, fsV, e0, x.st _ _ q1, x.st _ _ q2, q3, q4.mono x.st⟩
  | so C a dx fs => exact ⟨h.1, h.2.ext x⟩
  | ob C fs =>
    obtain ⟨a, dx, e0, q⟩ := h
    exact ⟨a, dx, e0, q.ext x⟩
  | ml ds =>
    obtain ⟨a, vs, rfl, e, n, l, q⟩ := h
    exact ⟨a, vs, rfl, (x.fr a _ e n).2, (x.fr a _ e n).1, l, DenL.mono x.st ds vs q⟩
  | md kvs =>
    obtain ⟨a, ws, rfl, e, n, l, q⟩ := h
    exact ⟨a, ws, rfl, (x.fr a _ e n).2, (x.fr a _ e n).1, l, Paired.mapP q fun p z ⟨e1, e2⟩ => ⟨e1, Den.mono x.st _ _ e2⟩⟩
  | mm rows =>
    obtain ⟨a, ks, rfl, e, n, l, d1, d2, q⟩ := h
    exact ⟨a, ks, rfl, (x.fr a _ e n).2, (x.fr a _ e n).1, l, d1, d2, q.ext x⟩
structure Sok (K : PySem.W.Frag) (H1 H : Hp) (σ : L2.St) (ρ : En) : Prop where
  sub : Same H1 H
  len : σ.length = ρ.length
  at_ : ∀ (i : Nat) w, ρ[i]? = some (some w) → ∃ v, σ[i]? = some (some v) ∧ WOk K H1 H v w
  inj : ∀ (i j : Nat) w w' v v' b, ρ[i]? = some (some w) → ρ[j]? = some (some w') → σ[i]? = some (some v) → σ[j]? = some (some v') → Owned H v b w → Owned H v' b w' → i = j
theorem Sok.ext {K : PySem.W.Frag} {H1 H H1' H' : Hp} {σ : L2.St} {ρ : En} (s : Sok K H1 H σ ρ) (x : Ext H1 H H1' H') : Sok K H1' H' σ ρ :=
  ⟨x.sub, s.len, fun i w e => let ⟨v, e1, q⟩ := s.at_ i w e; ⟨v, e1, q.ext x⟩, fun i j w w' v v' b e1 e2 f1 f2 o1 o2 => by
    obtain ⟨u, g1, q1⟩ := s.at_ i w e1
    rw [f1] at g1
    cases g1
    obtain ⟨u, g2, q2⟩ := s.at_ j w' e2
    rw [f2] at g2
    cases g2
    have sm := x.same s.sub
    exact s.inj i j w w' v v' b e1 e2 f1 f2 (o1.back q1 fun a o _ h => sm _ _ h) (o2.back q2 fun a o _ h => sm _ _ h)⟩
/-- a slot gets plain data -/
theorem Sok.set {K : PySem.W.Frag} {H1 H : Hp} {σ : L2.St} {ρ : En} {v : V} {d : PyData} (s : Sok K H1 H σ ρ) (i : Nat) (q : Den K H1 v d) : Sok K H1 H (σ.set i (some v)) (ρ.set i (some (.im d))) := by
  refine ⟨s.sub, by rw [List.length_set, List.length_set]; exact s.len, fun j w e => ?_, fun j l w w' v1 v2 b e1 e2 f1 f2 o1 o2 => ?_⟩
  · by_cases hj : i = j
    · subst hj
      have hl : i < ρ.length := by
        have := (List.getElem?_eq_some_iff.mp e).1
        rwa [List.length_set] at this
      rw [List.getElem?_set_self hl] at e
      cases e
      rw [List.getElem?_set_self (by rw [s.len]; exact hl)]
      exact ⟨v, rfl, q⟩
    · rw [List.getElem?_set_ne hj] at e ⊢
      exact s.at_ j w e
  · have nj : ∀ {j w v1}, (ρ.set i (some (.im d)))[j]? = some (some w) → Owned H v1 b w → i ≠ j := fun {j w v1} e m hj => by
      subst hj
      have hl : i < ρ.length := by
        have := (List.getElem?_eq_some_iff.mp e).1
        rwa [List.length_set] at this
      rw [List.getElem?_set_self hl] at e
      cases e
      exact m
    have n1 := nj e1 o1
    have n2 := nj e2 o2
    rw [List.getElem?_set_ne n1] at e1 f1
    rw [List.getElem?_set_ne n2] at e2 f2
    exact s.inj j l w w' v1 v2 b e1 e2 f1 f2 o1 o2

/-! ### judgements -/
/-- the expression e is worth f of the slots -/
def DE (X : Cx) (e : Expr) (f : En → Option PyData) : Prop :=
  ∃ t, PE X e t ∧ ∀ (σ : L2.St) (H1 H : Hp) (ρ : En) (d : PyData) (Q : VK), Sok X.K H1 H σ ρ → f ρ = some d → (∀ v H1' H', Ext H1 H H1' H' → Den X.K H1' v d → Q v H') → t σ H Q
/-- .. a new list -/
def DL (X : Cx) (e : Expr) (f : En → Option (List PyData)) : Prop :=
  ∃ t, PE X e t ∧ ∀ (σ : L2.St) (H1 H : Hp) (ρ : En) (ds : List PyData) (Q : VK), Sok X.K H1 H σ ρ → f ρ = some ds →
    (∀ a vs H1' H', Ext H1 H H1' H' → H a = none → H' a = some (.lst vs) → H1' a = none → ds.length ≤ sizeLine → DenL X.K H1' vs ds → Q (.ref a) H') → t σ H Q
def DT (X : Cx) (e : Expr) (f : En → Option Bool) : Prop :=
  ∃ t, PT X e t ∧ ∀ (σ : L2.St) (H1 H : Hp) (ρ : En) (b : Bool) (Q : Bool → Hp → Prop), Sok X.K H1 H σ ρ → f ρ = some b → (∀ H1' H', Ext H1 H H1' H' → Q b H') → t σ H Q
def DW (X : Cx) (e : Expr) (f : En → Option Bool) : Prop :=
  ∃ t, PW X e t ∧ ∀ (σ : L2.St) (H1 H : Hp) (ρ : En) (b : Bool) (Q : Bool → Hp → Prop), Sok X.K H1 H σ ρ → f ρ = some b → (∀ H1' H', Ext H1 H H1' H' → Q b H') → t σ H Q
def DA (X : Cx) (es : List Expr) (f : En → Option (List PyData)) : Prop :=
  ∃ t, PA X es t ∧ ∀ (σ : L2.St) (H1 H : Hp) (ρ : En) (ds : List PyData) (Q : List V → Hp → Prop), Sok X.K H1 H σ ρ → f ρ = some ds → (∀ vs H1' H', Ext H1 H H1' H' → DenL X.K H1' vs ds → Q vs H') → t σ H Q

/-! ### by values -/
def V1 (K : PySem.W.Frag) (r : V → Hp → VK → Prop) (g : PyData → Option PyData) : Prop := ∀ (x : V) (d c : PyData) (H1 H : Hp) (Q : VK), Same H1 H → Den K H1 x d → g d = some c → (∀ v H1' H', Ext H1 H H1' H' → Den K H1' v c → Q v H') → r x H Q
def V2 (K : PySem.W.Frag) (r : R2) (g : PyData → PyData → Option PyData) : Prop := ∀ (x y : V) (d e c : PyData) (H1 H : Hp) (Q : VK), Same H1 H → Den K H1 x d → Den K H1 y e → g d e = some c → (∀ v H1' H', Ext H1 H H1' H' → Den K H1' v c → Q v H') → r x y H Q
def VN (K : PySem.W.Frag) (r : List V → Hp → VK → Prop) (g : List PyData → Option PyData) : Prop := ∀ (xs : List V) (ds : List PyData) (c : PyData) (H1 H : Hp) (Q : VK), Same H1 H → DenL K H1 xs ds → g ds = some c → (∀ v H1' H', Ext H1 H H1' H' → Den K H1' v c → Q v H') → r xs H Q
/-- .. a new list -/
def VNL (K : PySem.W.Frag) (r : List V → Hp → VK → Prop) (g : List PyData → Option (List PyData)) : Prop := ∀ (xs : List V) (ds cs : List PyData) (H1 H : Hp) (Q : VK), Same H1 H → DenL K H1 xs ds → g ds = some cs →
  (∀ a vs H1' H', Ext H1 H H1' H' → H a = none → H' a = some (.lst vs) → H1' a = none → cs.length ≤ sizeLine → DenL K H1' vs cs → Q (.ref a) H') → r xs H Q
def V2L (K : PySem.W.Frag) (r : R2) (g : PyData → PyData → Option (List PyData)) : Prop := ∀ (x y : V) (d e : PyData) (cs : List PyData) (H1 H : Hp) (Q : VK), Same H1 H → Den K H1 x d → Den K H1 y e → g d e = some cs →
  (∀ a vs H1' H', Ext H1 H H1' H' → H a = none → H' a = some (.lst vs) → H1' a = none → cs.length ≤ sizeLine → DenL K H1' vs cs → Q (.ref a) H') → r x y H Q

/-! ### the functions of the slots -/
def eVar (i : Nat) : En → Option PyData := fun ρ => match ρ[i]? with
  | some (some (.im d)) => some d
  | _ => none
def eC (d : PyData) : En → Option PyData := fun _ => some d
def e1 (g : PyData → Option PyData) (f : En → Option PyData) : En → Option PyData := fun ρ => (f ρ).bind g
def e2 (g : PyData → PyData → Option PyData) (f f' : En → Option PyData) : En → Option PyData := fun ρ => (f ρ).bind fun d => (f' ρ).bind fun e => g d e
def e2L (g : PyData → PyData → Option (List PyData)) (f f' : En → Option PyData) : En → Option (List PyData) := fun ρ => (f ρ).bind fun d => (f' ρ).bind fun e => g d e
def eN (g : List PyData → Option PyData) (f : En → Option (List PyData)) : En → Option PyData := fun ρ => (f ρ).bind g
def eNL (g : List PyData → Option (List PyData)) (f : En → Option (List PyData)) : En → Option (List PyData) := fun ρ => (f ρ).bind g
def eL (f : En → Option (List PyData)) : En → Option PyData := fun ρ => (f ρ).map PyData.list
def eNil : En → Option (List PyData) := fun _ => some []
def eCons (f : En → Option PyData) (r : En → Option (List PyData)) : En → Option (List PyData) := fun ρ => (f ρ).bind fun d => (r ρ).map fun ds => d :: ds
def asB : PyData → Option Bool
  | .bool b => some b
  | _ => none
def tB (f : En → Option PyData) : En → Option Bool := fun ρ => (f ρ).bind asB
def tAndD (f g : En → Option Bool) : En → Option Bool := fun ρ => (f ρ).bind fun b => if b = true then g ρ else some false
def tOrD (f g : En → Option Bool) : En → Option Bool := fun ρ => (f ρ).bind fun b => if b = true then some true else g ρ
def tNotD (f : En → Option Bool) : En → Option Bool := fun ρ => (f ρ).map fun b => !b
def eBl (f : En → Option Bool) : En → Option PyData := fun ρ => (f ρ).map PyData.bool
def eIf (t : En → Option Bool) (f g : En → Option PyData) : En → Option PyData := fun ρ => (t ρ).bind fun b => if b = true then f ρ else g ρ

theorem bind_some {α β : Type} {x : Option α} {f : α → Option β} {b : β} (h : x.bind f = some b) : ∃ a, x = some a ∧ f a = some b := by
  cases x with
  | none => cases h
  | some a => exact ⟨a, rfl, h⟩
theorem map_some {α β : Type} {x : Option α} {f : α → β} {b : β} (h : x.map f = some b) : ∃ a, x = some a ∧ f a = b := by
  cases x with
  | none => cases h
  | some a => exact ⟨a, rfl, Option.some.inj h⟩

section
variable {X : Cx} {a b c e : Expr} {es : List Expr} {fa fb fc f : En → Option PyData} {fs : En → Option (List PyData)} {pos p : Pos} {x : Str}

/-! ### names, constants -/
theorem de_var (i : Nat) {x : Str} {pos : Pos} (hN : X.N[i]? = some x := by rfl) (hv : Vis X.env.scope x := by first | exact Or.inl rfl | exact Or.inr (Or.inl rfl) | exact Or.inr (Or.inr rfl)) (hd : (x == ("__debug__" : Str)) = false := by decide)
    (hcd : (x == ("__classdict__" : Str)) = false := by decide) : DE X (.Name x pos) (eVar i) := by
  refine ⟨_, pe_var hN hv hd hcd, fun σ H1 H ρ d Q s h k => ?_⟩
  unfold eVar at h
  split at h
  · rename_i d' e
    cases h
    obtain ⟨v, e1, q⟩ := s.at_ i _ e
    exact ⟨v, e1, k v H1 H (.refl s.sub) q⟩
  · cases h
theorem de_int {i : Int} {j pos} : DE X (.Constant (.int i) j pos) (eC (.int i)) := ⟨_, pe_int, fun _ H1 H _ d _ s h k => by cases h; exact k _ H1 H (.refl s.sub) (.int i)⟩
theorem de_bl {i : Bool} {j pos} : DE X (.Constant (.bool i) j pos) (eC (.bool i)) := ⟨_, pe_bl, fun _ H1 H _ d _ s h k => by cases h; exact k _ H1 H (.refl s.sub) (.bl i)⟩
theorem de_non {j pos} : DE X (.Constant .none j pos) (eC .none) := ⟨_, pe_non, fun _ H1 H _ d _ s h k => by cases h; exact k _ H1 H (.refl s.sub) .non⟩
theorem de_str {i : Str} {j pos} : DE X (.Constant (.str i) j pos) (eC (.str i)) := ⟨_, pe_str, fun _ H1 H _ d _ s h k => by cases h; exact k _ H1 H (.refl s.sub) (.str i)⟩
theorem de_gint {i : Int} {t : Tok} (hg : Gl X x) (hm : X.mg x = some (.int i t)) (hd : (x == ("__debug__" : Str)) = false := by decide) : DE X (.Name x pos) (eC (.int i)) :=
  ⟨_, pe_glob hg hm (v := .int i) ⟨_, rfl⟩ hd, fun _ H1 H _ d _ s h k => by cases h; exact k _ H1 H (.refl s.sub) (.int i)⟩
theorem de_gstr {i : Str} {t : Tok} (hg : Gl X x) (hm : X.mg x = some (.str i t)) (hd : (x == ("__debug__" : Str)) = false := by decide) : DE X (.Name x pos) (eC (.str i)) :=
  ⟨_, pe_glob hg hm (v := .str i) ⟨_, rfl⟩ hd, fun _ H1 H _ d _ s h k => by cases h; exact k _ H1 H (.refl s.sub) (.str i)⟩

/-! ### a new list is data -/
theorem DL.de (h : DL X e fs) : DE X e (eL fs) := by
  obtain ⟨t, ht, q⟩ := h
  refine ⟨t, ht, fun σ H1 H ρ d Q s h k => ?_⟩
  obtain ⟨ds, e1, rfl⟩ := map_some h
  refine q σ H1 H ρ ds Q s e1 fun a vs H1' H' x n e' n' l dl => ?_
  exact k _ _ _ (x.frz n e' n') (.lst (.of upd_same) l (DenL.mono (same_new n') ds vs dl))

/-! ### operators -/
theorem two {ta tb : TE} (qa : ∀ (σ : L2.St) (H1 H : Hp) (ρ : En) (d : PyData) (Q : VK), Sok X.K H1 H σ ρ → fa ρ = some d → (∀ v H1' H', Ext H1 H H1' H' → Den X.K H1' v d → Q v H') → ta σ H Q)
    (qb : ∀ (σ : L2.St) (H1 H : Hp) (ρ : En) (d : PyData) (Q : VK), Sok X.K H1 H σ ρ → fb ρ = some d → (∀ v H1' H', Ext H1 H H1' H' → Den X.K H1' v d → Q v H') → tb σ H Q)
    {σ : L2.St} {H1 H : Hp} {ρ : En} {d e : PyData} {R : V → V → Hp → Prop} (s : Sok X.K H1 H σ ρ) (h1 : fa ρ = some d) (h2 : fb ρ = some e)
    (k : ∀ x y H1' H', Ext H1 H H1' H' → Den X.K H1' x d → Den X.K H1' y e → R x y H') : ta σ H fun x H1 => tb σ H1 fun y H2 => R x y H2 :=
  qa σ H1 H ρ d _ s h1 fun x H1' H' x1 d1 => qb σ H1' H' ρ e _ (s.ext x1) h2 fun y H2 H2' x2 d2 => k x y _ _ (x1.trans x2) (Den.mono x2.st _ _ d1) d2
theorem de_op {op : Operator} {r : R2} {g : PyData → PyData → Option PyData} (ho : OpR X (binaryOp op) r) (hr : V2 X.K r g) (ha : DE X a fa) (hb : DE X b fb) : DE X (.BinOp a op b pos) (e2 g fa fb) := by
  obtain ⟨ta, pa, qa⟩ := ha
  obtain ⟨tb, pb, qb⟩ := hb
  refine ⟨_, pe_op ho pa pb, fun σ H1 H ρ d Q s h k => ?_⟩
  obtain ⟨d1, h1, h⟩ := bind_some h
  obtain ⟨d2, h2, h⟩ := bind_some h
  exact two qa qb s h1 h2 fun x y H1' H' x1 q1 q2 => hr x y d1 d2 d H1' H' Q x1.sub q1 q2 h fun v H2 H2' x2 => k v H2 H2' (x1.trans x2)
theorem dl_op {op : Operator} {r : R2} {g : PyData → PyData → Option (List PyData)} (ho : OpR X (binaryOp op) r) (hr : V2L X.K r g) (ha : DE X a fa) (hb : DE X b fb) : DL X (.BinOp a op b pos) (e2L g fa fb) := by
  obtain ⟨ta, pa, qa⟩ := ha
  obtain ⟨tb, pb, qb⟩ := hb
  refine ⟨_, pe_op ho pa pb, fun σ H1 H ρ d Q s h k => ?_⟩
  obtain ⟨d1, h1, h⟩ := bind_some h
  obtain ⟨d2, h2, h⟩ := bind_some h
  refine two qa qb s h1 h2 fun x y H1' H' x1 q1 q2 => hr x y d1 d2 d H1' H' Q x1.sub q1 q2 h fun p vs H2 H2' x2 n e' n' l dl => k p vs H2 H2' (x1.trans x2) ?_ e' n' l dl
  exact (Ext.same s.sub x1).free n
theorem de_un {op : UnaryOp} {r : V → Hp → VK → Prop} {g : PyData → Option PyData} (ho : UnR X (unaryOp op) r) (hr : V1 X.K r g) (ha : DE X a fa) : DE X (.UnaryOp op a pos) (e1 g fa) := by
  obtain ⟨ta, pa, qa⟩ := ha
  refine ⟨_, pe_un ho pa, fun σ H1 H ρ d Q s h k => ?_⟩
  obtain ⟨d1, h1, h⟩ := bind_some h
  exact qa σ H1 H ρ d1 _ s h1 fun x H1' H' x1 q1 => hr x d1 d H1' H' Q x1.sub q1 h fun v H2 H2' x2 => k v H2 H2' (x1.trans x2)
theorem de_cmp {op : CmpOp} {r : R2} {g : PyData → PyData → Option PyData} (ho : OpR X (compareOp op) r) (hr : V2 X.K r g) (ha : DE X a fa) (hb : DE X b fb) (hm : behindInMarks op b = false) : DE X (.Compare a [op] [b] pos) (e2 g fa fb) := by
  obtain ⟨ta, pa, qa⟩ := ha
  obtain ⟨tb, pb, qb⟩ := hb
  refine ⟨_, pe_cmpR ho pa pb hm, fun σ H1 H ρ d Q s h k => ?_⟩
  obtain ⟨d1, h1, h⟩ := bind_some h
  obtain ⟨d2, h2, h⟩ := bind_some h
  exact two qa qb s h1 h2 fun x y H1' H' x1 q1 q2 => hr x y d1 d2 d H1' H' Q x1.sub q1 q2 h fun v H2 H2' x2 => k v H2 H2' (x1.trans x2)
theorem asB_some {d : PyData} {b : Bool} (h : asB d = some b) : d = .bool b := by
  cases d <;> first | (cases h; rfl) | cases h
theorem den_bl {K : PySem.W.Frag} {H : Hp} {v : V} {b : Bool} (h : Den K H v (.bool b)) : v = .bl b := by cases h; rfl
theorem dt_cmp {op : CmpOp} {r : R2} {g : PyData → PyData → Option PyData} (ho : OpR X (compareOp op) r) (hr : V2 X.K r g) (ha : DE X a fa) (hb : DE X b fb) (hm : behindInMarks op b = false) : DT X (.Compare a [op] [b] pos) (tB (e2 g fa fb)) := by
  obtain ⟨ta, pa, qa⟩ := ha
  obtain ⟨tb, pb, qb⟩ := hb
  refine ⟨_, pt_cmpR ho pa pb hm, fun σ H1 H ρ d Q s h k => ?_⟩
  obtain ⟨d0, h, hb'⟩ := bind_some h
  obtain ⟨d1, h1, h⟩ := bind_some h
  obtain ⟨d2, h2, h⟩ := bind_some h
  have e := asB_some hb'
  subst e
  exact two qa qb s h1 h2 fun x y H1' H' x1 q1 q2 => hr x y d1 d2 _ H1' H' _ x1.sub q1 q2 h fun v H2 H2' x2 dv => ⟨d, den_bl dv, k H2 H2' (x1.trans x2)⟩
/-- a value that is a truth, as a test -/
theorem dt_val (h : DE X e f) (he : ∀ whole, isTrue e X.env whole = (do let v ← whole; standAt e.pos; holding [v] (truthy v)) := by intro _; rfl) : DT X e (tB f) := by
  obtain ⟨t, p, q⟩ := h
  refine ⟨_, pt_val p he, fun σ H1 H ρ d Q s h k => ?_⟩
  obtain ⟨d0, h, hb'⟩ := bind_some h
  have e := asB_some hb'
  subst e
  exact q σ H1 H ρ _ _ s h fun v H1' H' x1 dv => ⟨d, den_bl dv, k _ _ x1⟩
/-! ### and, or, not as tests -/
variable {tf tg : En → Option Bool} {rest : List Expr}
theorem DW.dt (h : DW X e tf) : DT X e tf := let ⟨t, p, q⟩ := h; ⟨t, p.pt, q⟩
theorem dw_and1 (h : DT X a tf) : DW X (.BoolOp .And [a] pos) tf := let ⟨t, p, q⟩ := h; ⟨t, pw_and1 p, q⟩
theorem dw_or1 (h : DT X a tf) : DW X (.BoolOp .Or [a] pos) tf := let ⟨t, p, q⟩ := h; ⟨t, pw_or1 p, q⟩
theorem dw_and (h : DT X a tf) (h' : DW X (.BoolOp .And (b :: rest) pos) tg) : DW X (.BoolOp .And (a :: b :: rest) pos) (tAndD tf tg) := by
  obtain ⟨t, p, q⟩ := h
  obtain ⟨t', p', q'⟩ := h'
  refine ⟨_, pw_and p p', fun σ H1 H ρ d Q s h k => ?_⟩
  obtain ⟨c, h1, h⟩ := bind_some h
  refine q σ H1 H ρ c _ s h1 fun H1' H' x1 => ?_
  cases c with
  | true => exact q' σ H1' H' ρ d Q (s.ext x1) h fun H2 H2' x2 => k _ _ (x1.trans x2)
  | false =>
    cases h
    exact k _ _ x1
theorem dw_or (h : DT X a tf) (h' : DW X (.BoolOp .Or (b :: rest) pos) tg) : DW X (.BoolOp .Or (a :: b :: rest) pos) (tOrD tf tg) := by
  obtain ⟨t, p, q⟩ := h
  obtain ⟨t', p', q'⟩ := h'
  refine ⟨_, pw_or p p', fun σ H1 H ρ d Q s h k => ?_⟩
  obtain ⟨c, h1, h⟩ := bind_some h
  refine q σ H1 H ρ c _ s h1 fun H1' H' x1 => ?_
  cases c with
  | false => exact q' σ H1' H' ρ d Q (s.ext x1) h fun H2 H2' x2 => k _ _ (x1.trans x2)
  | true =>
    cases h
    exact k _ _ x1
theorem dt_not (h : DT X a tf) : DT X (.UnaryOp .Not a pos) (tNotD tf) := by
  obtain ⟨t, p, q⟩ := h
  refine ⟨_, pt_not p, fun σ H1 H ρ d Q s h k => ?_⟩
  obtain ⟨c, h1, rfl⟩ := map_some h
  exact q σ H1 H ρ c _ s h1 fun H1' H' x1 => k _ _ x1
/-! ### .. as values -/
theorem de_one {op} (h : DE X a fa) : DE X (.BoolOp op [a] pos) fa := let ⟨t, p, q⟩ := h; ⟨t, pe_one p, q⟩
def eAnd (f g : En → Option PyData) : En → Option PyData := fun ρ => (tB f ρ).bind fun b => if b = true then g ρ else some (.bool false)
def eOr (f g : En → Option PyData) : En → Option PyData := fun ρ => (tB f ρ).bind fun b => if b = true then some (.bool true) else g ρ
def eNot (f : En → Option PyData) : En → Option PyData := fun ρ => (tB f ρ).map fun b => .bool (!b)
theorem de_and (h : DE X a fa) (h' : DE X (.BoolOp .And (b :: rest) pos) fb) : DE X (.BoolOp .And (a :: b :: rest) pos) (eAnd fa fb) := by
  obtain ⟨t, p, q⟩ := h
  obtain ⟨t', p', q'⟩ := h'
  refine ⟨_, pe_and p p', fun σ H1 H ρ d Q s h k => ?_⟩
  obtain ⟨c, h1, h⟩ := bind_some h
  obtain ⟨d0, h1, hb'⟩ := bind_some h1
  have e := asB_some hb'
  subst e
  refine q σ H1 H ρ _ _ s h1 fun v H1' H' x1 dv => ⟨c, den_bl dv, ?_⟩
  cases c with
  | true => exact q' σ H1' H' ρ d Q (s.ext x1) h fun v H2 H2' x2 => k _ _ _ (x1.trans x2)
  | false =>
    cases h
    exact k _ _ _ x1 (.bl _)
theorem de_or (h : DE X a fa) (h' : DE X (.BoolOp .Or (b :: rest) pos) fb) : DE X (.BoolOp .Or (a :: b :: rest) pos) (eOr fa fb) := by
  obtain ⟨t, p, q⟩ := h
  obtain ⟨t', p', q'⟩ := h'
  refine ⟨_, pe_or p p', fun σ H1 H ρ d Q s h k => ?_⟩
  obtain ⟨c, h1, h⟩ := bind_some h
  obtain ⟨d0, h1, hb'⟩ := bind_some h1
  have e := asB_some hb'
  subst e
  refine q σ H1 H ρ _ _ s h1 fun v H1' H' x1 dv => ⟨c, den_bl dv, ?_⟩
  cases c with
  | false => exact q' σ H1' H' ρ d Q (s.ext x1) h fun v H2 H2' x2 => k _ _ _ (x1.trans x2)
  | true =>
    cases h
    exact k _ _ _ x1 (.bl _)
theorem de_not (h : DE X a fa) : DE X (.UnaryOp .Not a pos) (eNot fa) := by
  obtain ⟨t, p, q⟩ := h
  refine ⟨_, pe_not p, fun σ H1 H ρ d Q s h k => ?_⟩
  obtain ⟨c, h1, rfl⟩ := map_some h
  obtain ⟨d0, h1, hb'⟩ := bind_some h1
  have e := asB_some hb'
  subst e
  exact q σ H1 H ρ _ _ s h1 fun v H1' H' x1 dv => ⟨c, den_bl dv, k _ _ _ x1 (.bl _)⟩
theorem de_if (hc : DT X c tf) (ha : DE X a fa) (hb : DE X b fb) : DE X (.IfExp c a b pos) (eIf tf fa fb) := by
  obtain ⟨t, p, q⟩ := hc
  obtain ⟨ta, pa, qa⟩ := ha
  obtain ⟨tb, pb, qb⟩ := hb
  refine ⟨_, pe_ifExp p pa pb, fun σ H1 H ρ d Q s h k => ?_⟩
  obtain ⟨c, h1, h⟩ := bind_some h
  refine q σ H1 H ρ c _ s h1 fun H1' H' x1 => ?_
  cases c with
  | true => exact qa σ H1' H' ρ d Q (s.ext x1) h fun v H2 H2' x2 => k _ _ _ (x1.trans x2)
  | false => exact qb σ H1' H' ρ d Q (s.ext x1) h fun v H2 H2' x2 => k _ _ _ (x1.trans x2)
/-! ### arguments, displays -/
theorem da_nil : DA X [] eNil := ⟨_, pa_nil, fun σ H1 H ρ d Q s h k => by cases h; exact k [] H1 H (.refl s.sub) .nil⟩
theorem da_cons (ha : DE X a fa) (hr : DA X es fs) (hs : starEach (a :: es) X.env = (false, eval a X.env) :: starEach es X.env := by rfl) : DA X (a :: es) (eCons fa fs) := by
  obtain ⟨ta, pa, qa⟩ := ha
  obtain ⟨tr, pr, qr⟩ := hr
  refine ⟨_, pa_cons pa pr hs, fun σ H1 H ρ d Q s h k => ?_⟩
  obtain ⟨d1, h1, h⟩ := bind_some h
  obtain ⟨dr, h2, rfl⟩ := map_some h
  exact qa σ H1 H ρ d1 _ s h1 fun v H1' H' x1 q1 => qr σ H1' H' ρ dr _ (s.ext x1) h2 fun vs H2 H2' x2 q2 => k _ _ _ (x1.trans x2) (.cons (Den.mono x2.st _ _ q1) q2)
def mkT (ds : List PyData) : Option PyData := if ds.length ≤ sizeLine then some (.tuple ds) else none
def mkL (ds : List PyData) : Option (List PyData) := if ds.length ≤ sizeLine then some ds else none
theorem de_tup {k} (h : DA X es fs) : DE X (.Tuple es k pos) (eN mkT fs) := by
  obtain ⟨t, p, q⟩ := h
  refine ⟨_, pe_tupF p, fun σ H1 H ρ d Q s h k => ?_⟩
  obtain ⟨ds, h1, h⟩ := bind_some h
  unfold mkT at h
  split at h
  · cases h
    rename_i hl
    refine q σ H1 H ρ ds _ s h1 fun vs H1' H' x1 q1 => ⟨by rw [q1.length]; exact hl, fun p o n bo => ?_⟩
    exact k _ _ _ (x1.trans (.new x1.sub n)) (.tup (.inl ⟨_, upd_same, bo⟩) hl (DenL.mono (same_new (x1.sub.free n)) _ _ q1))
  · cases h
theorem dl_lst (h : DA X es fs) : DL X (.List es pos) (eNL mkL fs) := by
  obtain ⟨t, p, q⟩ := h
  refine ⟨_, pe_lst p, fun σ H1 H ρ d Q s h k => ?_⟩
  obtain ⟨ds, h1, h⟩ := bind_some h
  unfold mkL at h
  split at h
  · cases h
    rename_i hl
    refine q σ H1 H ρ d _ s h1 fun vs H1' H' x1 q1 => ⟨by rw [q1.length]; exact hl, fun p n => ?_⟩
    exact k p vs H1' _ (x1.trans (.newMut x1.sub n)) ((Ext.same s.sub x1).free n) upd_same (x1.sub.free n) hl q1
  · cases h
/-! ### calls of built-ins -/
theorem de_callB {id : String} {r : List V → Hp → VK → Prop} {g : List PyData → Option PyData} (hc : CallR X (.builtin id) r) (hr : VN X.K r g) (hg : Gl X x) (hm : X.mg x = none) (hv : bootBuiltins x = some (.builtin id)) (ha : DA X (a :: es) fs) (hn : x ≠ "__name__" := by decide) (hdb : (x == ("__debug__" : Str)) = false := by decide)
    (hst : starEach (a :: es) X.env = (false, eval a X.env) :: starEach es X.env := by rfl) (hpl : (backTo pos (starEach es X.env)).any (·.1) = false := by rfl) : DE X (.Call (.Name x p) (a :: es) [] pos) (eN g fs) := by
  obtain ⟨t, pt, q⟩ := ha
  refine ⟨_, pe_callB hc hg hm hv pt hn hdb hst hpl, fun σ H1 H ρ d Q s h k => ?_⟩
  obtain ⟨ds, h1, h⟩ := bind_some h
  exact q σ H1 H ρ ds _ s h1 fun vs H1' H' x1 q1 => hr vs ds d H1' H' Q x1.sub q1 h fun v H2 H2' x2 => k _ _ _ (x1.trans x2)
theorem de_callTy {T : String} {r : List V → Hp → VK → Prop} {g : List PyData → Option PyData} (hc : CallR X (.type T) r) (hr : VN X.K r g) (hg : Gl X x) (hm : X.mg x = none) (hv : bootBuiltins x = some (.type T)) (ha : DA X (a :: es) fs) (hn : x ≠ "__name__" := by decide) (hdb : (x == ("__debug__" : Str)) = false := by decide)
    (hst : starEach (a :: es) X.env = (false, eval a X.env) :: starEach es X.env := by rfl) (hpl : (backTo pos (starEach es X.env)).any (·.1) = false := by rfl) : DE X (.Call (.Name x p) (a :: es) [] pos) (eN g fs) := by
  obtain ⟨t, pt, q⟩ := ha
  refine ⟨_, pe_callTy hc hg hm hv pt hn hdb hst hpl, fun σ H1 H ρ d Q s h k => ?_⟩
  obtain ⟨ds, h1, h⟩ := bind_some h
  exact q σ H1 H ρ ds _ s h1 fun vs H1' H' x1 q1 => hr vs ds d H1' H' Q x1.sub q1 h fun v H2 H2' x2 => k _ _ _ (x1.trans x2)
theorem dl_callB {id : String} {r : List V → Hp → VK → Prop} {g : List PyData → Option (List PyData)} (hc : CallR X (.builtin id) r) (hr : VNL X.K r g) (hg : Gl X x) (hm : X.mg x = none) (hv : bootBuiltins x = some (.builtin id)) (ha : DA X (a :: es) fs) (hn : x ≠ "__name__" := by decide) (hdb : (x == ("__debug__" : Str)) = false := by decide)
    (hst : starEach (a :: es) X.env = (false, eval a X.env) :: starEach es X.env := by rfl) (hpl : (backTo pos (starEach es X.env)).any (·.1) = false := by rfl) : DL X (.Call (.Name x p) (a :: es) [] pos) (eNL g fs) := by
  obtain ⟨t, pt, q⟩ := ha
  refine ⟨_, pe_callB hc hg hm hv pt hn hdb hst hpl, fun σ H1 H ρ d Q s h k => ?_⟩
  obtain ⟨ds, h1, h⟩ := bind_some h
  exact q σ H1 H ρ ds _ s h1 fun vs H1' H' x1 q1 => hr vs ds d H1' H' Q x1.sub q1 h fun p ws H2 H2' x2 n e' n' l dl => k _ _ _ _ (x1.trans x2) ((Ext.same s.sub x1).free n) e' n' l dl
theorem dl_callTy {T : String} {r : List V → Hp → VK → Prop} {g : List PyData → Option (List PyData)} (hc : CallR X (.type T) r) (hr : VNL X.K r g) (hg : Gl X x) (hm : X.mg x = none) (hv : bootBuiltins x = some (.type T)) (ha : DA X (a :: es) fs) (hn : x ≠ "__name__" := by decide) (hdb : (x == ("__debug__" : Str)) = false := by decide)
    (hst : starEach (a :: es) X.env = (false, eval a X.env) :: starEach es X.env := by rfl) (hpl : (backTo pos (starEach es X.env)).any (·.1) = false := by rfl) : DL X (.Call (.Name x p) (a :: es) [] pos) (eNL g fs) := by
  obtain ⟨t, pt, q⟩ := ha
  refine ⟨_, pe_callTy hc hg hm hv pt hn hdb hst hpl, fun σ H1 H ρ d Q s h k => ?_⟩
  obtain ⟨ds, h1, h⟩ := bind_some h
  exact q σ H1 H ρ ds _ s h1 fun vs H1' H' x1 q1 => hr vs ds d H1' H' Q x1.sub q1 h fun p ws H2 H2' x2 n e' n' l dl => k _ _ _ _ (x1.trans x2) ((Ext.same s.sub x1).free n) e' n' l dl
end
end Dv

namespace Dv
open PySem PySem.Spec PyProof.Rows L2

/-! ### readings told by the functions -/
def rdE (K : PySem.W.Frag) (f : En → Option PyData) : TE := fun σ H Q => ∃ (H1 : Hp) (ρ : En) (d : PyData), Sok K H1 H σ ρ ∧ f ρ = some d ∧ ∀ v H1' H', Ext H1 H H1' H' → Den K H1' v d → Q v H'
theorem DE.pe {X : Cx} {e : Expr} {f : En → Option PyData} (h : DE X e f) : PE X e (rdE X.K f) := by
  obtain ⟨t, p, q⟩ := h
  exact ⟨fun pins s σ H Q I ⟨H1, ρ, d, sk, hf, k⟩ => p.run pins s σ H Q I (q σ H1 H ρ d Q sk hf k)⟩
def rdT (K : PySem.W.Frag) (f : En → Option Bool) : TT := fun σ H Q => ∃ (H1 : Hp) (ρ : En) (d : Bool), Sok K H1 H σ ρ ∧ f ρ = some d ∧ ∀ H1' H', Ext H1 H H1' H' → Q d H'
theorem DT.pt {X : Cx} {e : Expr} {f : En → Option Bool} (h : DT X e f) : PT X e (rdT X.K f) := by
  obtain ⟨t, p, q⟩ := h
  exact ⟨fun pins s σ H Q I ⟨H1, ρ, d, sk, hf, k⟩ => p.run pins s σ H Q I (q σ H1 H ρ d Q sk hf k)⟩

/-! ### statements -/
inductive Out where
  | nx (ρ : En)
  | rt (d : PyData)
  | bk (ρ : En)
  | ct (ρ : En)
structure Sst (K : PySem.W.Frag) (B1 B H1 H : Hp) (σ : L2.St) (ρ : En) : Prop where
  sok : Sok K H1 H σ ρ
  bs : Same B1 B
  fr : Ext B1 B H1 H
  own : ∀ (i : Nat) w v b, ρ[i]? = some (some w) → σ[i]? = some (some v) → Owned H v b w → B b = none
theorem Sst.same {K : PySem.W.Frag} {B1 B H1 H : Hp} {σ : L2.St} {ρ : En} (s : Sst K B1 B H1 H σ ρ) : Same B H := s.fr.same s.bs
theorem Sst.ext {K : PySem.W.Frag} {B1 B H1 H H1' H' : Hp} {σ : L2.St} {ρ : En} (s : Sst K B1 B H1 H σ ρ) (x : Ext H1 H H1' H') : Sst K B1 B H1' H' σ ρ := ⟨s.sok.ext x, s.bs, s.fr.trans x, fun i w v b e f o => by
    obtain ⟨u, g1, q1⟩ := s.sok.at_ i w e
    rw [f] at g1
    cases g1
    have sm := x.same s.sok.sub
    exact s.own i w v b e f (o.back q1 fun a o _ h => sm _ _ h)⟩
theorem Sst.set {K : PySem.W.Frag} {B1 B H1 H : Hp} {σ : L2.St} {ρ : En} {v : V} {d : PyData} (s : Sst K B1 B H1 H σ ρ) (i : Nat) (q : Den K H1 v d) : Sst K B1 B H1 H (σ.set i (some v)) (ρ.set i (some (.im d))) := by
  refine ⟨s.sok.set i q, s.bs, s.fr, fun j w a b e f m => ?_⟩
  have n : i ≠ j := fun hj => by
    subst hj
    have hl : i < ρ.length := by
      have := (List.getElem?_eq_some_iff.mp e).1
      rwa [List.length_set] at this
    rw [List.getElem?_set_self hl] at e
    cases e
    exact m
  rw [List.getElem?_set_ne n] at e f
  exact s.own j w a b e f m
theorem W.mut_ref {K : PySem.W.Frag} {H1 H : Hp} {v : V} {w : W} (m : w.mut) (q : WOk K H1 H v w) : ∃ a o, v = .ref a ∧ H a = some o ∧ H1 a = none := by
  cases w with
  | im d => exact m.elim
  | xo a c => exact m.elim
  | fo C fs => exact m.elim
  | so C a dx fs => exact m.elim
  | ob C fs => exact m.elim
  | ml ds =>
    obtain ⟨a, vs, rfl, e, n, _⟩ := q
    exact ⟨a, _, rfl, e, n⟩
  | md ds =>
    obtain ⟨a, vs, rfl, e, n, _⟩ := q
    exact ⟨a, _, rfl, e, n⟩
  | mm ds =>
    obtain ⟨a, vs, rfl, e, n, _⟩ := q
    exact ⟨a, _, rfl, e, n⟩
theorem Sok.own_eq {K : PySem.W.Frag} {H1 H : Hp} {σ : L2.St} {ρ : En} (s : Sok K H1 H σ ρ) {i j : Nat} {w w' : W} {a : Addr} (e : ρ[i]? = some (some w)) (m : w.mut) (e2 : ρ[j]? = some (some w')) (m2 : w'.mut) (f : σ[i]? = some (some (.ref a))) (f2 : σ[j]? = some (some (.ref a))) : i = j := by
  have o : ∀ {u : W}, u.mut → Owned H (.ref a) a u := fun {u} m => by
    cases u with
    | im d => exact m.elim
    | xo a c => exact m.elim
    | fo C fs => exact m.elim
    | so C a dx fs => exact m.elim
    | ob C fs => exact m.elim
    | ml d => rfl
    | md d => rfl
    | mm d => exact .inl rfl
  exact s.inj i j w w' _ _ a e e2 f f2 (o m) (o m2)
/-- a slot gets a new thing of its own -/
theorem Sst.setM {K : PySem.W.Frag} {B1 B H1 H H1' H' : Hp} {σ : L2.St} {ρ : En} {a : Addr} {w : W} (s : Sst K B1 B H1 H σ ρ) (i : Nat) (x : Ext H1 H H1' H') (n : ∀ b, Owned H' (.ref a) b w → H b = none) (q : WOk K H1' H' (.ref a) w) :
    Sst K B1 B H1' H' (σ.set i (some (.ref a))) (ρ.set i (some w)) := by
  have s' := s.ext x
  have cs : ∀ {j : Nat} {u}, (ρ.set i (some w))[j]? = some (some u) → (i = j ∧ u = w ∧ i < ρ.length) ∨ (i ≠ j ∧ ρ[j]? = some (some u)) := fun {j u} e => by
    by_cases hj : i = j
    · subst hj
      have hl : i < ρ.length := by
        have := (List.getElem?_eq_some_iff.mp e).1
        rwa [List.length_set] at this
      rw [List.getElem?_set_self hl] at e
      cases e
      exact .inl ⟨rfl, rfl, hl⟩
    · rw [List.getElem?_set_ne hj] at e
      exact .inr ⟨hj, e⟩
  have far : ∀ {j : Nat} {u v b}, ρ[j]? = some (some u) → σ[j]? = some (some v) → Owned H' v b u → H b = none → False := fun {j u v b} e f o hb => by
    obtain ⟨v', e1, q1⟩ := s.sok.at_ j u e
    rw [f] at e1
    cases e1
    have sm := x.same s.sok.sub
    obtain ⟨o', e2, _⟩ := (o.back q1 fun a o _ h => sm _ _ h).at_ q1
    rw [hb] at e2
    cases e2
  have hσ : i < ρ.length → (σ.set i (some (V.ref a)))[i]? = some (some (.ref a)) := fun hl => List.getElem?_set_self (by rw [s.sok.len]; exact hl)
  refine ⟨⟨s'.sok.sub, by rw [List.length_set, List.length_set]; exact s.sok.len, fun j u e => ?_, fun j l u u' v1 v2 b e1 e2 f1 f2 o1 o2 => ?_⟩, s.bs, s'.fr, fun j u v b e f o => ?_⟩
  · rcases cs e with ⟨rfl, rfl, hl⟩ | ⟨hj, e⟩
    · exact ⟨_, hσ hl, q⟩
    · rw [List.getElem?_set_ne hj]
      exact s'.sok.at_ j u e
  · rcases cs e1 with ⟨rfl, rfl, hl⟩ | ⟨hj, e3⟩
    · rcases cs e2 with ⟨rfl, rfl, _⟩ | ⟨hk, e2⟩
      · rfl
      · rw [hσ hl] at f1
        cases f1
        rw [List.getElem?_set_ne hk] at f2
        exact (far e2 f2 o2 (n b o1)).elim
    · rcases cs e2 with ⟨q1, q2, hl⟩ | ⟨hk, e2⟩
      · rw [← q1, hσ hl] at f2
        cases f2
        rw [List.getElem?_set_ne hj] at f1
        subst q2
        exact (far e3 f1 o1 (n b o2)).elim
      · rw [List.getElem?_set_ne hj] at f1
        rw [List.getElem?_set_ne hk] at f2
        exact s.ext x |>.sok.inj j l u u' v1 v2 b e3 e2 f1 f2 o1 o2
  · rcases cs e with ⟨rfl, rfl, hl⟩ | ⟨hj, e⟩
    · rw [hσ hl] at f
      cases f
      exact s.same.free (n b o)
    · rw [List.getElem?_set_ne hj] at f
      exact s'.own j u v b e f o
theorem RowsOk.upd {K : PySem.W.Frag} {H1 H : Hp} {a : Addr} {o : HO} : ∀ {ks : List Addr} {rows : List (List PyData)}, RowsOk K H1 H ks rows → (∀ b ∈ ks, b ≠ a) → RowsOk K H1 (L2.upd H a o) ks rows
  | _, _, .nil, _ => .nil
  | _, _, .cons ⟨vs, h1, h2⟩ t, h => .cons ⟨vs, by rw [upd_ne (h _ (List.mem_cons_self ..))]; exact h1, h2⟩ (RowsOk.upd t fun b hb => h b (List.mem_cons_of_mem _ hb))
theorem InsOk.upd {K : PySem.W.Frag} {H1 H : Hp} {C a dx b : Addr} {o : HO} {fs : List (Str × PyData)} (h : InsOk K H1 H C a dx fs) (n1 : a ≠ b) (n2 : dx ≠ b) : InsOk K H1 (L2.upd H b o) C a dx fs := by
  obtain ⟨fsV, q1, q2, q⟩ := h
  exact ⟨fsV, by rw [upd_ne n1]; exact q1, by rw [upd_ne n2]; exact q2, q⟩
theorem WOk.upd {K : PySem.W.Frag} {H1 H : Hp} {a : Addr} {o : HO} {v : V} {u : W} (q : WOk K H1 H v u) (h : ∀ b, Owned H v b u → b ≠ a) : WOk K H1 (L2.upd H a o) v u := by
  cases u with
  | im d => exact q
  | xo a c => exact q
  | fo C fs => exact q
  | so C a' dx fs => exact ⟨q.1, q.2.upd (h _ ⟨q.1, .inl rfl⟩) (h _ ⟨q.1, .inr rfl⟩)⟩
  | ob C fs =>
    obtain ⟨a', dx, rfl, q⟩ := q
    obtain ⟨fsV, q1, _⟩ := id q
    exact ⟨a', dx, rfl, q.upd (h _ (.inl rfl)) (h _ (.inr ⟨a', dx, fsV, rfl, q1, rfl⟩))⟩
  | ml ds =>
    obtain ⟨b, vs, rfl, z1, z⟩ := q
    exact ⟨b, vs, rfl, by rw [upd_ne (h b rfl)]; exact z1, z⟩
  | md ds =>
    obtain ⟨b, vs, rfl, z1, z⟩ := q
    exact ⟨b, vs, rfl, by rw [upd_ne (h b rfl)]; exact z1, z⟩
  | mm rows =>
    obtain ⟨b, ks, rfl, z1, z2, z3, z4, z5, z6⟩ := q
    exact ⟨b, ks, rfl, by rw [upd_ne (h b (.inl rfl))]; exact z1, z2, z3, z4, z5, z6.upd fun c hc => h c (.inr ⟨b, ks, rfl, z1, hc⟩)⟩
theorem Owned.head {H : Hp} {a b : Addr} {v : V} {u : W} (h : Owned H v b u) (hv : v = .ref a) : Owned H v a u := by
  cases u with
  | im d => exact h
  | xo a c => exact h
  | fo C fs => exact h
  | so C a' dx fs =>
    refine ⟨h.1, .inl ?_⟩
    have e := hv.symm.trans h.1
    cases e
    rfl
  | ob C fs => exact .inl hv
  | ml ds => exact hv
  | md ds => exact hv
  | mm rows => exact .inl hv
/-- one of the things of a slot is changed; what it has besides is new -/
theorem Sst.change {K : PySem.W.Frag} {B1 B H1 H : Hp} {σ : L2.St} {ρ : En} {a : Addr} {v : V} {w w' : W} {o : HO} (s : Sst K B1 B H1 H σ ρ) {i : Nat} (e : ρ[i]? = some (some w)) (e' : σ[i]? = some (some v)) (oa : Owned H v a w)
    (q : WOk K H1 (upd H a o) v w') (ow : ∀ b, Owned (upd H a o) v b w' → Owned H v b w ∨ (B b = none ∧ ∀ (j : Nat) u v', i ≠ j → ρ[j]? = some (some u) → σ[j]? = some (some v') → ¬ Owned H v' b u)) : Sst K B1 B H1 (upd H a o) σ (ρ.set i (some w')) := by
  have hl : i < ρ.length := (List.getElem?_eq_some_iff.mp e).1
  have hB : B a = none := s.own i w v a e e' oa
  have n : H1 a = none := by
    obtain ⟨v1, f1, q1⟩ := s.sok.at_ i w e
    rw [e'] at f1
    cases f1
    obtain ⟨_, _, h⟩ := oa.at_ q1
    exact h
  have cs : ∀ {j : Nat} {u}, (ρ.set i (some w'))[j]? = some (some u) → (i = j ∧ u = w') ∨ (i ≠ j ∧ ρ[j]? = some (some u)) := fun {j u} e => by
    by_cases hj : i = j
    · subst hj
      rw [List.getElem?_set_self hl] at e
      cases e
      exact .inl ⟨rfl, rfl⟩
    · rw [List.getElem?_set_ne hj] at e
      exact .inr ⟨hj, e⟩
  have far : ∀ {j : Nat} {u v' b}, i ≠ j → ρ[j]? = some (some u) → σ[j]? = some (some v') → Owned H v' b u → b ≠ a := fun {j u v' b} hj e2 f2 o2 h => by
    subst h
    exact hj (s.sok.inj i j w u v v' b e e2 e' f2 oa o2)
  have bk : ∀ {j : Nat} {u v' b}, i ≠ j → ρ[j]? = some (some u) → σ[j]? = some (some v') → Owned (upd H a o) v' b u → Owned H v' b u := fun {j u v' b} hj e2 f2 o2 => by
    obtain ⟨v1, f1, q1⟩ := s.sok.at_ j u e2
    rw [f2] at f1
    cases f1
    refine o2.back q1 fun c x hv hc => ?_
    have ho : Owned H v' c u := by
      cases u with
      | im d => exact o2
      | xo a c => exact o2
      | fo C fs => exact o2
      | so C a' dx fs =>
        refine ⟨o2.1, .inl ?_⟩
        have e := hv.symm.trans o2.1
        cases e
        rfl
      | ob C fs => exact .inl hv
      | ml ds => exact hv
      | md ds => exact hv
      | mm rows => exact .inl hv
    rw [upd_ne (far hj e2 f2 ho)]
    exact hc
  refine ⟨⟨fun b x z => ?_, by rw [List.length_set]; exact s.sok.len, fun j u e2 => ?_, fun j l u u' v1 v2 b e1 e2 f1 f2 o1 o2 => ?_⟩, s.bs, ⟨s.fr.st, fun b x z => ?_, fun b x z y => ?_⟩, fun j u v1 b e2 f o2 => ?_⟩
  · rw [upd_ne (ne_of_none z n)]; exact s.sok.sub _ _ z
  · rcases cs e2 with ⟨rfl, rfl⟩ | ⟨hj, e2⟩
    · exact ⟨_, e', q⟩
    · obtain ⟨v1, f, z⟩ := s.sok.at_ j u e2
      exact ⟨v1, f, z.upd fun b ob => far hj e2 f ob⟩
  · rcases cs e1 with ⟨rfl, rfl⟩ | ⟨hj, e3⟩
    · rcases cs e2 with ⟨rfl, rfl⟩ | ⟨hk, e2⟩
      · rfl
      · rw [e'] at f1
        cases f1
        rcases ow b o1 with h | ⟨_, h⟩
        · exact s.sok.inj _ _ w u' v v2 b e e2 e' f2 h (bk hk e2 f2 o2)
        · exact (h l u' v2 hk e2 f2 (bk hk e2 f2 o2)).elim
    · rcases cs e2 with ⟨q1, q2⟩ | ⟨hk, e2⟩
      · subst q1
        subst q2
        rw [e'] at f2
        cases f2
        rcases ow b o2 with h | ⟨_, h⟩
        · exact s.sok.inj _ _ u w v1 v b e3 e f1 e' (bk hj e3 f1 o1) h
        · exact (h j u v1 hj e3 f1 (bk hj e3 f1 o1)).elim
      · exact s.sok.inj j l u u' v1 v2 b e3 e2 f1 f2 (bk hj e3 f1 o1) (bk hk e2 f2 o2)
  · rw [upd_ne (ne_of_none z n)]; exact s.fr.sub _ _ z
  · obtain ⟨z1, z2⟩ := s.fr.fr b x z y
    rw [upd_ne (ne_of_none z hB)]
    exact ⟨z1, z2⟩
  · rcases cs e2 with ⟨rfl, rfl⟩ | ⟨hj, e2⟩
    · rw [e'] at f
      cases f
      rcases ow b o2 with h | ⟨h, _⟩
      · exact s.own _ w v b e e' h
      · exact h
    · exact s.own j u v1 b e2 f (bk hj e2 f o2)
/-- the thing of a slot is changed -/
theorem Sst.mutate {K : PySem.W.Frag} {B1 B H1 H : Hp} {σ : L2.St} {ρ : En} {a : Addr} {w w' : W} {o : HO} (s : Sst K B1 B H1 H σ ρ) {i : Nat} (e : ρ[i]? = some (some w)) (m : w.mut) (e' : σ[i]? = some (some (.ref a))) (n : H1 a = none) (m' : ∀ b, Owned (upd H a o) (.ref a) b w' → b = a)
    (q : WOk K H1 (upd H a o) (.ref a) w') : Sst K B1 B H1 (upd H a o) σ (ρ.set i (some w')) := by
  have oa : Owned H (.ref a) a w := by
    cases w with
    | im d => exact m.elim
    | xo a c => exact m.elim
    | fo C fs => exact m.elim
    | so C a dx fs => exact m.elim
    | ob C fs => exact m.elim
    | ml d => rfl
    | md d => rfl
    | mm d => exact .inl rfl
  exact s.change e e' oa q fun b h => .inl (by rw [m' b h]; exact oa)
/-- the list of a slot becomes plain data -/
def frz (i : Nat) (ρ : En) : En := match ρ[i]? with
  | some (some (.ml ds)) => ρ.set i (some (.im (.list ds)))
  | _ => ρ
theorem RowsOk.stable {K : PySem.W.Frag} {H1 H : Hp} {a : Addr} {o : HO} (sm : Same H1 (L2.upd H1 a o)) : ∀ {ks : List Addr} {rows : List (List PyData)}, RowsOk K H1 H ks rows → (∀ b ∈ ks, b ≠ a) → RowsOk K (L2.upd H1 a o) H ks rows
  | _, _, .nil, _ => .nil
  | _, _, .cons ⟨vs, h1, h2, h3, h4⟩ t, h => .cons ⟨vs, h1, by rw [upd_ne (h _ (List.mem_cons_self ..))]; exact h2, h3, DenL.mono sm _ _ h4⟩ (RowsOk.stable sm t fun b hb => h b (List.mem_cons_of_mem _ hb))
theorem Sst.frz {K : PySem.W.Frag} {B1 B H1 H : Hp} {σ : L2.St} {ρ : En} (s : Sst K B1 B H1 H σ ρ) (i : Nat) : ∃ H1', Same H1 H1' ∧ Sst K B1 B H1' H σ (frz i ρ) := by
  unfold Dv.frz
  split
  · rename_i ds e
    have hl : i < ρ.length := (List.getElem?_eq_some_iff.mp e).1
    obtain ⟨v, e', a, vs, rfl, h1, h2, h3, h4⟩ := s.sok.at_ i _ e
    have hB : B a = none := s.own i _ _ a e e' rfl
    have sm : Same H1 (upd H1 a (.lst vs)) := same_new h2
    have cs : ∀ {j : Nat} {u}, (ρ.set i (some (.im (.list ds))))[j]? = some (some u) → (i = j ∧ u = .im (.list ds)) ∨ (i ≠ j ∧ ρ[j]? = some (some u)) := fun {j u} e => by
      by_cases hj : i = j
      · subst hj
        rw [List.getElem?_set_self hl] at e
        cases e
        exact .inl ⟨rfl, rfl⟩
      · rw [List.getElem?_set_ne hj] at e
        exact .inr ⟨hj, e⟩
    have sb : Same (upd H1 a (.lst vs)) H := fun b x z => by
      by_cases hb : b = a
      · subst hb; rw [upd_same] at z; rw [← z]; exact h1
      · rw [upd_ne hb] at z; exact s.sok.sub _ _ z
    refine ⟨upd H1 a (.lst vs), sm, ⟨sb, by rw [List.length_set]; exact s.sok.len, fun j u e2 => ?_, fun j l u u' v1 v2 b e1 e2 f1 f2 m1 m2 => ?_⟩, s.bs, ⟨s.fr.st.trans sm, sb, fun b x z y => ?_⟩, fun j u v1 b e2 f m2 => ?_⟩
    · rcases cs e2 with ⟨rfl, rfl⟩ | ⟨hj, e2⟩
      · exact ⟨_, e', .lst (.of upd_same) h3 (DenL.mono sm _ _ h4)⟩
      · obtain ⟨v, f, z⟩ := s.sok.at_ j u e2
        refine ⟨v, f, ?_⟩
        cases u with
        | im d => exact Den.mono sm _ _ z
        | xo a c => exact z
        | fo C fs =>
          obtain ⟨b, dx, fsV, e0, z1, z2, z3, z4⟩ := z
          exact ⟨b, dx, fsV, e0, sm _ _ z1, sm _ _ z2, z3, z4.mono sm⟩
        | so C b dx fs =>
          obtain ⟨e0, fsV, z1, z2, z3, z4, z5, z6⟩ := z
          have n1 : b ≠ a := fun h => hj (s.sok.inj i j _ _ _ _ a e e2 e' f rfl ⟨e0, .inl h.symm⟩)
          have n2 : dx ≠ a := fun h => hj (s.sok.inj i j _ _ _ _ a e e2 e' f rfl ⟨e0, .inr h.symm⟩)
          exact ⟨e0, fsV, z1, z2, by rw [upd_ne n1]; exact z3, by rw [upd_ne n2]; exact z4, z5, z6.mono sm⟩
        | ob C fs =>
          obtain ⟨b, dx, e0, fsV, z1, z2, z3, z4, z5, z6⟩ := z
          have n1 : b ≠ a := fun h => hj (s.sok.inj i j _ _ _ _ a e e2 e' f rfl (.inl (by rw [e0, h])))
          have n2 : dx ≠ a := fun h => hj (s.sok.inj i j _ _ _ _ a e e2 e' f rfl (.inr ⟨b, dx, fsV, e0, z1, h.symm⟩))
          exact ⟨b, dx, e0, fsV, z1, z2, by rw [upd_ne n1]; exact z3, by rw [upd_ne n2]; exact z4, z5, z6.mono sm⟩
        | ml es =>
          obtain ⟨b, ws, rfl, z1, z2, z3, z4⟩ := z
          have hb : b ≠ a := fun h => hj (s.sok.own_eq e trivial e2 trivial e' (by rw [f, h]))
          exact ⟨b, ws, rfl, z1, by rw [upd_ne hb]; exact z2, z3, DenL.mono sm _ _ z4⟩
        | md es =>
          obtain ⟨b, ws, rfl, z1, z2, z3, z4⟩ := z
          have hb : b ≠ a := fun h => hj (s.sok.own_eq e trivial e2 trivial e' (by rw [f, h]))
          exact ⟨b, ws, rfl, z1, by rw [upd_ne hb]; exact z2, z3, Paired.mapP z4 fun p z ⟨e1, e2⟩ => ⟨e1, Den.mono sm _ _ e2⟩⟩
        | mm rows =>
          obtain ⟨b, ks, rfl, z1, z2, z3, z4, z5, z6⟩ := z
          have hb : b ≠ a := fun h => hj (s.sok.own_eq e trivial e2 trivial e' (by rw [f, h]))
          refine ⟨b, ks, rfl, z1, by rw [upd_ne hb]; exact z2, z3, z4, z5, ?_⟩
          have hk : ∀ c ∈ ks, c ≠ a := fun c hc h => hj (s.sok.inj i j _ _ _ _ a e e2 e' f rfl (.inr ⟨b, ks, rfl, z1, by rw [← h]; exact hc⟩))
          exact z6.stable sm hk
    · rcases cs e1 with ⟨rfl, rfl⟩ | ⟨hj, e1⟩
      · exact m1.elim
      · rcases cs e2 with ⟨rfl, rfl⟩ | ⟨hk, e2⟩
        · exact m2.elim
        · exact s.sok.inj j l u u' v1 v2 b e1 e2 f1 f2 m1 m2
    · obtain ⟨z1, z2⟩ := s.fr.fr b x z y
      rw [upd_ne (ne_of_none z hB)]
      exact ⟨z1, z2⟩
    · rcases cs e2 with ⟨rfl, rfl⟩ | ⟨hj, e2⟩
      · exact m2.elim
      · exact s.own j u v1 b e2 f m2
  · exact ⟨H1, .refl _, s⟩

def EndsOk (K : PySem.W.Frag) (B1 B H1 : Hp) (D : Ends) : Out → Prop
  | .nx ρ => ∀ σ H1' H', Same H1 H1' → Sst K B1 B H1' H' σ ρ → D.nx σ H'
  | .rt d => ∀ v H1' H', Ext B1 B H1' H' → Den K H1' v d → D.rt v H'
  | .bk ρ => ∀ σ H1' H', Same H1 H1' → Sst K B1 B H1' H' σ ρ → D.bk σ H'
  | .ct ρ => ∀ σ H1' H', Same H1 H1' → Sst K B1 B H1' H' σ ρ → D.ct σ H'
theorem EndsOk.mono {K : PySem.W.Frag} {B1 B H1 H1' : Hp} {D : Ends} {o : Out} (h : EndsOk K B1 B H1 D o) (s : Same H1 H1') : EndsOk K B1 B H1' D o := by
  cases o with
  | nx ρ => exact fun σ H2 H' s' => h σ H2 H' (s.trans s')
  | rt d => exact h
  | bk ρ => exact fun σ H2 H' s' => h σ H2 H' (s.trans s')
  | ct ρ => exact fun σ H2 H' s' => h σ H2 H' (s.trans s')
def DS (X : Cx) (st : Stmt) (f : En → Option Out) : Prop :=
  ∃ t, PS X st t ∧ ∀ (B1 B H1 H : Hp) (σ : L2.St) (ρ : En) (o : Out) (D : Ends), Sst X.K B1 B H1 H σ ρ → f ρ = some o → EndsOk X.K B1 B H1 D o → t D σ H
def DSs (X : Cx) (sts : List Stmt) (f : En → Option Out) : Prop :=
  ∃ t, PSs X sts t ∧ ∀ (B1 B H1 H : Hp) (σ : L2.St) (ρ : En) (o : Out) (D : Ends), Sst X.K B1 B H1 H σ ρ → f ρ = some o → EndsOk X.K B1 B H1 D o → t D σ H
/-- a target -/
def DG (X : Cx) (tg : Expr) (g : PyData → En → Option En) : Prop :=
  ∃ t, PG X tg t ∧ ∀ (B1 B H1 H : Hp) (σ : L2.St) (ρ ρ' : En) (v : V) (d : PyData) (Q : L2.St → Hp → Prop), Sst X.K B1 B H1 H σ ρ → Den X.K H1 v d → g d ρ = some ρ' → (∀ σ' H1' H', Same H1 H1' → Sst X.K B1 B H1' H' σ' ρ' → Q σ' H') → t v σ H Q
def DGs (X : Cx) (tgs : List Expr) (g : List PyData → En → Option En) : Prop :=
  ∃ t, PGs X tgs t ∧ ∀ (B1 B H1 H : Hp) (σ : L2.St) (ρ ρ' : En) (vs : List V) (ds : List PyData) (Q : L2.St → Hp → Prop), Sst X.K B1 B H1 H σ ρ → DenL X.K H1 vs ds → g ds ρ = some ρ' → (∀ σ' H1' H', Same H1 H1' → Sst X.K B1 B H1' H' σ' ρ' → Q σ' H') → t vs σ H Q

/-! ### the functions -/
def gN (i : Nat) : PyData → En → Option En := fun d ρ => some (ρ.set i (some (.im d)))
def gNilD : List PyData → En → Option En := fun ds ρ => match ds with
  | [] => some ρ
  | _ => none
def gConsD (g : PyData → En → Option En) (r : List PyData → En → Option En) : List PyData → En → Option En := fun ds ρ => match ds with
  | [] => none
  | d :: ds => (g d ρ).bind fun ρ' => r ds ρ'
def gT (n : Nat) (g : List PyData → En → Option En) : PyData → En → Option En := fun d ρ => match d with
  | .tuple ds => if ds.length = n then g ds ρ else none
  | _ => none
def gSubK (i : Nat) (k : PyData) (d : PyData) (ρ : En) : Option En := match k, ρ[i]? with
  | .int k, some (some (.ml ds)) => (ixN ds.length k).map fun j => ρ.set i (some (.ml (ds.set j d)))
  | _, _ => none
def gSubM (i : Nat) (fk : En → Option PyData) : PyData → En → Option En := fun d ρ => (fk ρ).bind fun k => gSubK i k d ρ
def appK (i : Nat) (d : PyData) (ρ : En) : Option En := match ρ[i]? with
  | some (some (.ml ds)) => if ds.length < sizeLine then some (ρ.set i (some (.ml (ds ++ [d])))) else none
  | _ => none
def sNil : En → Option Out := fun ρ => some (.nx ρ)
def thenD (g : En → Option Out) : Out → Option Out
  | .nx ρ => g ρ
  | o => some o
def sSeq (f g : En → Option Out) : En → Option Out := fun ρ => (f ρ).bind (thenD g)
def sAsg (f : En → Option PyData) (g : PyData → En → Option En) : En → Option Out := fun ρ => (f ρ).bind fun d => (g d ρ).map Out.nx
def sAsgL (i : Nat) (f : En → Option (List PyData)) : En → Option Out := fun ρ => (f ρ).map fun ds => .nx (ρ.set i (some (.ml ds)))
def sApp (i : Nat) (f : En → Option PyData) : En → Option Out := fun ρ => (f ρ).bind fun d => (appK i d ρ).map Out.nx
def sAug (i : Nat) (g : Int → Int → Int) (f : En → Option PyData) : En → Option Out := fun ρ => match ρ[i]? with
  | some (some (.im (.int a))) => (f ρ).bind fun d => match d with
    | .int b => some (.nx (ρ.set i (some (.im (.int (g a b))))))
    | _ => none
  | _ => none
def sIf (t : En → Option Bool) (f g : En → Option Out) : En → Option Out := fun ρ => (t ρ).bind fun b => if b = true then f ρ else g ρ
def sRet (f : En → Option PyData) : En → Option Out := fun ρ => (f ρ).map Out.rt
def sRetN : En → Option Out := fun _ => some (.rt .none)
def sFrz (i : Nat) (f : En → Option Out) : En → Option Out := fun ρ => f (frz i ρ)
def sBreak : En → Option Out := fun ρ => some (.bk ρ)
def sCont : En → Option Out := fun ρ => some (.ct ρ)
def loopD (go : En → Option Out) : Out → Option Out
  | .nx ρ => go ρ
  | .ct ρ => go ρ
  | .bk ρ => some (.nx ρ)
  | .rt d => some (.rt d)
def forD (g : PyData → En → Option En) (f : En → Option Out) : List PyData → En → Option Out
  | [], ρ => some (.nx ρ)
  | d :: ds, ρ => (g d ρ).bind fun ρ1 => (f ρ1).bind (loopD (forD g f ds))
def sFor (fi : En → Option (List PyData)) (g : PyData → En → Option En) (f : En → Option Out) : En → Option Out := fun ρ => (fi ρ).bind fun ds => forD g f ds ρ
def whileD (t : En → Option Bool) (f : En → Option Out) : Nat → En → Option Out
  | 0, _ => none
  | n + 1, ρ => (t ρ).bind fun b => if b = true then (f ρ).bind (loopD (whileD t f n)) else some (.nx ρ)

section
variable {X : Cx} {a b c e : Expr} {es : List Expr} {fa fb fc f : En → Option PyData} {fs : En → Option (List PyData)} {pos p : Pos} {x : Str} {st : Stmt} {sts : List Stmt} {g h : En → Option Out} {tg : Expr} {tf : En → Option Bool}
theorem dss_nil : DSs X [] sNil := ⟨_, pss_nil, fun B1 B H1 H σ ρ o D s h k => by cases h; exact k σ H1 H (.refl _) s⟩
theorem dss_cons (h1 : DS X st g) (h2 : DSs X sts h) : DSs X (st :: sts) (sSeq g h) := by
  obtain ⟨t, p, q⟩ := h1
  obtain ⟨u, p', q'⟩ := h2
  refine ⟨_, pss_cons p p', fun B1 B H1 H σ ρ o D s e k => ?_⟩
  obtain ⟨o1, e1, e⟩ := bind_some e
  refine q B1 B H1 H σ ρ o1 { D with nx := u D } s e1 ?_
  cases o1 with
  | nx ρ' => exact fun σ' H1' H' sm s' => q' B1 B H1' H' σ' ρ' o D s' e (k.mono sm)
  | rt d => cases e; exact k
  | bk ρ' => cases e; exact k
  | ct ρ' => cases e; exact k
theorem dss_one (h1 : DS X st g) : DSs X [st] g := by
  obtain ⟨t, p, q⟩ := h1
  exact ⟨_, pss_one p, q⟩
theorem dss_frz (i : Nat) (h : DSs X sts g) : DSs X sts (sFrz i g) := by
  obtain ⟨t, p, q⟩ := h
  refine ⟨t, p, fun B1 B H1 H σ ρ o D s e k => ?_⟩
  obtain ⟨H1', sm, s'⟩ := s.frz i
  exact q B1 B H1' H σ _ o D s' e (k.mono sm)
theorem ds_frz (i : Nat) (h : DS X st g) : DS X st (sFrz i g) := by
  obtain ⟨t, p, q⟩ := h
  refine ⟨t, p, fun B1 B H1 H σ ρ o D s e k => ?_⟩
  obtain ⟨H1', sm, s'⟩ := s.frz i
  exact q B1 B H1' H σ _ o D s' e (k.mono sm)
theorem ds_ret (h : DE X e f) : DS X (.Return (some e) pos) (sRet f) := by
  obtain ⟨t, p, q⟩ := h
  refine ⟨_, ps_ret p, fun B1 B H1 H σ ρ o D s e k => ?_⟩
  obtain ⟨d, e1, rfl⟩ := map_some e
  exact q σ H1 H ρ d _ s.sok e1 fun v H1' H' x dv => k v H1' H' (s.fr.trans x) dv
theorem ds_retN : DS X (.Return none pos) sRetN := ⟨_, ps_retN, fun B1 B H1 H σ ρ o D s e k => by cases e; exact k .non H1 H s.fr .non⟩
theorem ds_if {ss us : List Stmt} (hc : DT X c tf) (ha : DSs X ss g) (hb : DSs X us h) : DS X (.If c ss us pos) (sIf tf g h) := by
  obtain ⟨t, p, q⟩ := hc
  obtain ⟨ta, pa, qa⟩ := ha
  obtain ⟨tb, pb, qb⟩ := hb
  refine ⟨_, ps_if p pa pb, fun B1 B H1 H σ ρ o D s e k => ?_⟩
  obtain ⟨c, e1, e⟩ := bind_some e
  refine q σ H1 H ρ c _ s.sok e1 fun H1' H' x => ?_
  cases c with
  | true => exact qa B1 B H1' H' σ ρ o D (s.ext x) e (k.mono x.st)
  | false => exact qb B1 B H1' H' σ ρ o D (s.ext x) e (k.mono x.st)
theorem ds_break : DS X (.Break pos) sBreak := ⟨_, ps_break, fun B1 B H1 H σ ρ o D s e k => by cases e; exact k σ H1 H (.refl _) s⟩
theorem ds_cont : DS X (.Continue pos) sCont := ⟨_, ps_continue, fun B1 B H1 H σ ρ o D s e k => by cases e; exact k σ H1 H (.refl _) s⟩
theorem ds_pass : DS X (.Pass pos) sNil := ⟨_, ps_pass, fun B1 B H1 H σ ρ o D s e k => by cases e; exact k σ H1 H (.refl _) s⟩

/-! ### targets -/
theorem dg_name (i : Nat) {x : Str} (hN : X.N.Nodup) (hi : X.N[i]? = some x := by rfl) (hx : Loc X.env.scope x := by first | exact Or.inl rfl | exact Or.inr rfl) (hf : X.fn x = true ∨ X.env.scope.names.lookup x = some .local := by first | exact .inl rfl | exact .inr rfl) : DG X (.Name x pos) (gN i) :=
  ⟨_, pg_name hN hi hx hf, fun B1 B H1 H σ ρ ρ' v d Q s dv e k => by cases e; exact k _ H1 H (.refl _) (s.set i dv)⟩
theorem dgs_nil : DGs X [] gNilD := by
  refine ⟨_, pgs_nil, fun B1 B H1 H σ ρ ρ' vs ds Q s dv e k => ?_⟩
  cases dv with
  | nil => cases e; exact ⟨rfl, k σ H1 H (.refl _) s⟩
  | cons _ _ => cases e
theorem dgs_cons {gd : PyData → En → Option En} {gr : List PyData → En → Option En} (h1 : DG X e gd) (h2 : DGs X es gr) (hs : (assignEach (e :: es) X.env).map (·.2) = assign e X.env :: (assignEach es X.env).map (·.2) := by rfl) : DGs X (e :: es) (gConsD gd gr) := by
  obtain ⟨t, p, q⟩ := h1
  obtain ⟨u, p', q'⟩ := h2
  refine ⟨_, pgs_cons p p' hs, fun B1 B H1 H σ ρ ρ' vs ds Q s dv e k => ?_⟩
  cases dv with
  | nil => cases e
  | cons d1 d2 =>
    obtain ⟨ρ1, e1, e⟩ := bind_some e
    refine ⟨_, _, rfl, q B1 B H1 H σ ρ ρ1 _ _ _ s d1 e1 fun σ1 H1' H' sm s1 => ?_⟩
    exact q' B1 B H1' H' σ1 ρ1 ρ' _ _ Q s1 (DenL.mono sm _ _ d2) e fun σ2 H2' H2 sm2 s2 => k σ2 H2' H2 (sm.trans sm2) s2
theorem dg_tup {k : Nat} {n : Nat} {gr : List PyData → En → Option En} (hc : X.calm = true) (h : DGs X es gr) (hn : (assignEach es X.env).length = n := by rfl) (hst : (assignEach es X.env).findIdx? (·.1) = none := by rfl) : DG X (.Tuple es k pos) (gT n gr) := by
  obtain ⟨t, p, q⟩ := h
  refine ⟨_, pg_tup hc p hn hst, fun B1 B H1 H σ ρ ρ' v d Q s dv e k => ?_⟩
  cases d with
  | tuple ds =>
    cases dv with
    | tup hq hl dl =>
      have e : (if ds.length = n then gr ds ρ else none) = some ρ' := e
      split at e
      · rename_i hln
        exact ⟨_, _, rfl, sqT_mono s.sok.sub hq, by rw [dl.length]; exact hln, q B1 B H1 H σ ρ ρ' _ ds Q s dl e k⟩
      · cases e
  | _ => cases e
/-- the thing in a slot -/
theorem Sok.ml {K : PySem.W.Frag} {H1 H : Hp} {σ : L2.St} {ρ : En} {i : Nat} {ds : List PyData} (s : Sok K H1 H σ ρ) (e : ρ[i]? = some (some (.ml ds))) : ∃ a vs, σ[i]? = some (some (.ref a)) ∧ H a = some (.lst vs) ∧ H1 a = none ∧ ds.length ≤ sizeLine ∧ DenL K H1 vs ds := by
  obtain ⟨v, e1, a, vs, rfl, h⟩ := s.at_ i _ e
  exact ⟨a, vs, e1, h⟩
theorem ixN_lt {n j : Nat} {k : Int} (h : ixN n k = some j) : j < n := (ixN_seq h).2.1
theorem dg_sub {k : Expr} {fk : En → Option PyData} (i : Nat) {x : Str} {px : Pos} (hk : DE X k fk) (hN : X.N[i]? = some x := by rfl) (hv : Vis X.env.scope x := by first | exact Or.inl rfl | exact Or.inr (Or.inl rfl) | exact Or.inr (Or.inr rfl)) (hd : (x == ("__debug__" : Str)) = false := by decide)
    (hcd : (x == ("__classdict__" : Str)) = false := by decide) (ha : ∀ v, assign (.Subscript (.Name x px) k pos) X.env v = (do
      let ov ← holding [v] (eval (.Name x px) X.env)
      let iv ← holding [v, ov] (eval k X.env)
      standAt pos
      holding [v, ov, iv] (setItem ov iv v)
      release [v, ov, iv] []) := by intro _; rfl) : DG X (.Subscript (.Name x px) k pos) (gSubM i fk) := by
  obtain ⟨t, p, q⟩ := hk
  refine ⟨_, pg_sub (pe_var hN hv hd hcd) p set_list ha, fun B1 B H1 H σ ρ ρ' v d Q s dv e k => ?_⟩
  obtain ⟨kk, ek, e⟩ := bind_some e
  unfold gSubK at e
  split at e
  · rename_i n ds em
    obtain ⟨j, ej, rfl⟩ := map_some e
    obtain ⟨A, vs, eσ, hA, nA, hl, dl⟩ := s.sok.ml em
    refine ⟨_, eσ, ?_⟩
    refine q σ H1 H ρ _ _ s.sok ek fun w H1' H' x dw => ?_
    cases dw
    obtain ⟨nA', hA'⟩ := x.fr A _ hA nA
    have dl' := DenL.mono x.st _ _ dl
    refine ⟨A, vs, n, j, rfl, rfl, hA', by rw [dl.length]; exact ej, ?_⟩
    refine k σ H1' _ x.st ((s.ext x).mutate em trivial eσ nA' (fun b h => by cases h; rfl) ⟨A, vs.set j v, rfl, upd_same, nA', by rw [List.length_set]; exact hl, ?_⟩)
    exact DenL.set (Den.mono x.st _ _ dv) j dl'
  · cases e

/-! ### assignments -/
theorem ds_asg {gd : PyData → En → Option En} (he : DE X e f) (hg : DG X tg gd) (hs : swapsWithSole [tg] e pos.line X.env = pure false := by rfl) (hw : swappedStores [tg] e X.env = pure none := by rfl)
    (h1 : (assignEach [tg] X.env).map (·.2) = [assign tg X.env] := by rfl) : DS X (.Assign [tg] e pos) (sAsg f gd) := by
  obtain ⟨t, p, q⟩ := he
  obtain ⟨u, p', q'⟩ := hg
  refine ⟨_, ps_asg p p' hs hw h1, fun B1 B H1 H σ ρ o D s e k => ?_⟩
  obtain ⟨d, e1, e⟩ := bind_some e
  obtain ⟨ρ', e2, rfl⟩ := map_some e
  refine q σ H1 H ρ d _ s.sok e1 fun v H1' H' x dv => ?_
  exact q' B1 B H1' H' σ ρ ρ' v d _ (s.ext x) dv e2 fun σ' H2' H2 sm s' => k σ' H2' H2 (x.st.trans sm) s'
theorem ds_set (i : Nat) {x : Str} {pos' : Pos} (hN : X.N.Nodup) (he : DE X e f) (hi : X.N[i]? = some x := by rfl) (hx : Loc X.env.scope x := by first | exact Or.inl rfl | exact Or.inr rfl) (hs : swapsWith e (some (.Name x pos')) pos.line X.env = pure false := by rfl) (hf : X.fn x = true ∨ X.env.scope.names.lookup x = some .local := by first | exact .inl rfl | exact .inr rfl) :
    DS X (.Assign [.Name x pos'] e pos) (sAsg f (gN i)) := by
  obtain ⟨t, p, q⟩ := he
  refine ⟨_, ps_set hN hi hx p hs hf, fun B1 B H1 H σ ρ o D s e k => ?_⟩
  obtain ⟨d, e1, e⟩ := bind_some e
  cases e
  exact q σ H1 H ρ d _ s.sok e1 fun v H1' H' x dv => k _ H1' H' x.st ((s.ext x).set i dv)
/-- a new list that the def will change -/
theorem ds_setL (i : Nat) {x : Str} {pos' : Pos} (hN : X.N.Nodup) (he : DL X e fs) (hi : X.N[i]? = some x := by rfl) (hx : Loc X.env.scope x := by first | exact Or.inl rfl | exact Or.inr rfl) (hs : swapsWith e (some (.Name x pos')) pos.line X.env = pure false := by rfl) (hf : X.fn x = true ∨ X.env.scope.names.lookup x = some .local := by first | exact .inl rfl | exact .inr rfl) :
    DS X (.Assign [.Name x pos'] e pos) (sAsgL i fs) := by
  obtain ⟨t, p, q⟩ := he
  refine ⟨_, ps_set hN hi hx p hs hf, fun B1 B H1 H σ ρ o D s e k => ?_⟩
  obtain ⟨ds, e1, rfl⟩ := map_some e
  exact q σ H1 H ρ ds _ s.sok e1 fun a vs H1' H' x n e' n' l dl => k _ H1' H' x.st (s.setM i x (fun b h => by cases h; exact n) ⟨a, vs, rfl, e', n', l, dl⟩)
def sPar (i j : Nat) (f g : En → Option PyData) : En → Option Out := fun ρ => (f ρ).bind fun d => (g ρ).map fun e => .nx ((ρ.set i (some (.im d))).set j (some (.im e)))
/-- a, b = x, y with plain local names -/
theorem ds_par (i j : Nat) {x y : Str} {px py pt : Pos} {kt k2 pt2} (hc : X.calm = true) (hN : X.N.Nodup) (ha : DE X a fa) (hb : DE X b fb) (hi : X.N[i]? = some x := by rfl) (hj : X.N[j]? = some y := by rfl) (hij : i ≠ j := by decide)
    (hx : X.env.scope.names.lookup x = some .local := by rfl) (hy : X.env.scope.names.lookup y = some .local := by rfl) (hse : starEach (a :: [b]) X.env = (false, eval a X.env) :: starEach [b] X.env := by rfl) (hse2 : starEach (b :: []) X.env = (false, eval b X.env) :: starEach [] X.env := by rfl)
    (hw : swappedStores [.Tuple [.Name x px, .Name y py] kt pt] (.Tuple [a, b] k2 pt2) X.env = pure (some [x, y]) := by rfl)
    (hs : swapsWithSole [.Tuple [.Name x px, .Name y py] kt pt] (.Tuple [a, b] k2 pt2) pos.line X.env = pure false := by rfl) :
    DS X (.Assign [.Tuple [.Name x px, .Name y py] kt pt] (.Tuple [a, b] k2 pt2) pos) (sPar i j fa fb) := by
  obtain ⟨ta, pa, qa⟩ := ha
  obtain ⟨tb, pb, qb⟩ := hb
  refine ⟨_, ps_par hc hN hi hj hij hx hy (pa_cons pa (pa_cons pb pa_nil hse2) hse) hw hs, fun B1 B H1 H σ ρ o D s e k => ?_⟩
  obtain ⟨d1, e1, e⟩ := bind_some e
  obtain ⟨d2, e2, rfl⟩ := map_some e
  refine qa σ H1 H ρ d1 _ s.sok e1 fun v H1' H' x1 q1 => qb σ H1' H' ρ d2 _ (s.sok.ext x1) e2 fun w H2' H2 x2 q2 => ⟨v, w, rfl, ?_⟩
  exact k _ H2' H2 (x1.st.trans x2.st) ((((s.ext x1).ext x2).set i (Den.mono x2.st _ _ q1)).set j q2)
theorem ds_augI {op : Operator} {gi : Int → Int → Int} (i : Nat) {x : Str} {pos' : Pos} (hN : X.N.Nodup) (he : DE X e f) (ho : PIp X op (ipI gi)) (hi : X.N[i]? = some x := by rfl) (hx : Loc X.env.scope x := by first | exact Or.inl rfl | exact Or.inr rfl) (hf : X.fn x = true ∨ X.env.scope.names.lookup x = some .local := by first | exact .inl rfl | exact .inr rfl) :
    DS X (.AugAssign (.Name x pos') op e pos) (sAug i gi f) := by
  obtain ⟨t, p, q⟩ := he
  refine ⟨_, ps_aug hN hi hx p ho hf, fun B1 B H1 H σ ρ o D s e k => ?_⟩
  unfold sAug at e
  split at e
  · rename_i n em
    obtain ⟨d, e1, e⟩ := bind_some e
    split at e
    · rename_i m
      cases e
      obtain ⟨v, eσ, dv⟩ := s.sok.at_ i _ em
      cases dv
      refine ⟨_, eσ, q σ H1 H ρ _ _ s.sok e1 fun w H1' H' x dw => ?_⟩
      cases dw
      exact ⟨n, m, rfl, rfl, k _ H1' H' x.st ((s.ext x).set i (.int _))⟩
    · cases e
  · cases e
/-- xs.append(e) -/
theorem ds_app (i : Nat) {x : Str} {px apos cpos : Pos} (he : DE X e f) (hN : X.N[i]? = some x := by rfl) (hv : Vis X.env.scope x := by first | exact Or.inl rfl | exact Or.inr (Or.inl rfl) | exact Or.inr (Or.inr rfl)) (hd : (x == ("__debug__" : Str)) = false := by decide)
    (hcd : (x == ("__classdict__" : Str)) = false := by decide) (hse : starEach (e :: []) X.env = (false, eval e X.env) :: starEach [] X.env := by rfl) (hs : swapsWith (.Call (.Attribute (.Name x px) "append" apos) [e] [] cpos) none pos.line X.env = pure false := by rfl) (pe : ∀ {te : TE}, PE X e te → PE X (.Call (.Attribute (.Name x px) "append" apos) [e] [] cpos) (tBM X.K "list" rAppend (tVar i) (tCons te tNil)) := by exact fun he => pe_bm PySem.F.plainAttrs_list PySem.F.slot_list_append PySem.F.type_list_append mt_append (pv _) (pa_cons he pa_nil)) :
    DS X (.Expr (.Call (.Attribute (.Name x px) "append" apos) [e] [] cpos) pos) (sApp i f) := by
  obtain ⟨t, p, q⟩ := he
  refine ⟨_, ps_expr (pe p) hs, fun B1 B H1 H σ ρ o D s e k => ?_⟩
  obtain ⟨d, e1, e⟩ := bind_some e
  obtain ⟨ρ', e, rfl⟩ := map_some e
  unfold appK at e
  split at e
  · rename_i ds em
    split at e
    · rename_i hlt
      cases e
      obtain ⟨A, vs, eσ, hA, nA, hl, dl⟩ := s.sok.ml em
      refine ⟨_, eσ, .inl ⟨rfl, _, .of hA⟩, ?_⟩
      refine q σ H1 H ρ _ _ s.sok e1 fun v H1' H' x dv => ?_
      obtain ⟨nA', hA'⟩ := x.fr A _ hA nA
      refine ⟨A, vs, v, rfl, rfl, hA', by rw [dl.length]; exact hlt, ?_⟩
      refine k σ H1' _ x.st ((s.ext x).mutate em trivial eσ nA' (fun b h => by cases h; rfl) ⟨A, vs ++ [v], rfl, upd_same, nA', by rw [List.length_append]; exact hlt, ?_⟩)
      exact (DenL.mono x.st _ _ dl).append (.one dv)
    · cases e
  · cases e

/-! ### what is walked -/
def Walks (K : PySem.W.Frag) (J : It) (H1 : Hp) (ds : List PyData) : Prop := ∀ (H1' H' : Hp), Same H1 H1' → Same H1' H' → ∀ i : Nat,
  (∀ d, ds[i]? = some d → J.go i H' ∧ ∀ x H'', J.yld i H' x H'' → ∃ H1'', Ext H1' H' H1'' H'' ∧ Den K H1'' x d) ∧ (ds.length ≤ i → J.stop i H')
def DI (X : Cx) (tg iter : Expr) (f : En → Option (List PyData)) : Prop :=
  ∃ wi, PI X tg iter wi ∧ ∀ (σ : L2.St) (H1 H : Hp) (ρ : En) (ds : List PyData) (R : It → Hp → Prop), Sok X.K H1 H σ ρ → f ρ = some ds → (∀ J H1' H', Ext H1 H H1' H' → ds.length ≤ sizeLine → Walks X.K J H1' ds → R J H') → wi σ H R
def asSeq : PyData → Option (List PyData)
  | .list ds => some ds
  | .tuple ds => some ds
  | _ => none
def iSq (f : En → Option PyData) : En → Option (List PyData) := fun ρ => (f ρ).bind asSeq
theorem pi_seq {l : Expr} {tl : TE} (hl : PE X l tl) : PI X tg l (fun σ H R => tl σ H fun x H1 => ∃ a, x = .ref a ∧ ((∃ xs, SqL X.K H1 a xs ∧ R (Itl X.K a) H1) ∨ ∃ xs, SqT X.K H1 a xs ∧ R (Itt X.K a) H1)) := by
  refine ⟨fun pins s σ H R I h => ?_⟩
  refine thn (hl.run pins s σ H _ I h) fun v s1 ⟨x, H1, I1, r1, q1⟩ => ?_
  obtain ⟨a, e, q⟩ := q1
  subst e
  cases r1
  rcases q with ⟨xs, hq, q⟩ | ⟨xs, hq, q⟩
  · obtain ⟨its, rv, p, hz⟩ := I1.list hq
    refine wpAny_pyIter_list p.isList ?_
    refine ⟨s1.heap.objs.size, [s1.heap.objs.size], _, _, H1, rfl, I1.kept (t' := s1.toks) fun b o e => Heap.get?_push_of_some _ e, turn_list a _, ⟨_, Heap.get?_push_size _ rfl, rfl, rfl⟩, fun b hb => ?_, q⟩
    have e : b = s1.heap.objs.size := by simpa using hb
    subst e
    exact I1.fpOk (Nat.le_refl _) (I1.hok.fresh (Nat.le_refl _))
  · obtain ⟨its, rv, p, hz⟩ := I1.tuple hq
    refine wpAny_pyIter_tuple (show s1.heap.IsTuple a its.toArray from p) ?_
    refine ⟨s1.heap.objs.size, [s1.heap.objs.size], _, _, H1, rfl, I1.kept (t' := s1.toks) fun b o e => Heap.get?_push_of_some _ e, turn_tuple a _, ⟨_, Heap.get?_push_size _ rfl, rfl, rfl⟩, fun b hb => ?_, q⟩
    have e : b = s1.heap.objs.size := by simpa using hb
    subst e
    exact I1.fpOk (Nat.le_refl _) (I1.hok.fresh (Nat.le_refl _))
theorem walks_list {K : PySem.W.Frag} {H1 : Hp} {a : Addr} {xs : List V} {ds : List PyData} (h : SqL K H1 a xs) (dl : DenL K H1 xs ds) : Walks K (Itl K a) H1 ds := fun H1' H' s1 s2 i => by
  refine ⟨fun d e => ?_, fun l => ⟨xs, (s1.trans s2).seq h, by rw [dl.length]; exact l⟩⟩
  obtain ⟨v, e1, dv⟩ := dl.get e
  refine ⟨⟨xs, v, (s1.trans s2).seq h, e1⟩, fun x H'' y => ?_⟩
  obtain ⟨rfl, y⟩ := y
  have e2 := y xs ((s1.trans s2).seq h)
  rw [e1] at e2
  cases e2
  exact ⟨H1', .refl s2, Den.mono s1 _ _ dv⟩
theorem walks_tup {K : PySem.W.Frag} {H1 : Hp} {a : Addr} {xs : List V} {ds : List PyData} (h : SqT K H1 a xs) (dl : DenL K H1 xs ds) : Walks K (Itt K a) H1 ds := fun H1' H' s1 s2 i => by
  refine ⟨fun d e => ?_, fun l => ⟨xs, sqT_mono0 (s1.trans s2) h, by rw [dl.length]; exact l⟩⟩
  obtain ⟨v, e1, dv⟩ := dl.get e
  refine ⟨⟨xs, v, sqT_mono0 (s1.trans s2) h, e1⟩, fun x H'' y => ?_⟩
  obtain ⟨rfl, y⟩ := y
  have e2 := y xs (sqT_mono0 (s1.trans s2) h)
  rw [e1] at e2
  cases e2
  exact ⟨H1', .refl s2, Den.mono s1 _ _ dv⟩
theorem di_seq (h : DE X e f) : DI X tg e (iSq f) := by
  obtain ⟨t, p, q⟩ := h
  refine ⟨_, pi_seq p, fun σ H1 H ρ ds R s e k => ?_⟩
  obtain ⟨d, e1, e⟩ := bind_some e
  refine q σ H1 H ρ d _ s e1 fun v H1' H' x dv => ?_
  cases d with
  | list es =>
    cases e
    cases dv with
    | lst hs hl dl => exact ⟨_, rfl, .inl ⟨_, x.sub.seq hs, k _ H1' H' x hl (walks_list hs dl)⟩⟩
  | tuple es =>
    cases e
    cases dv with
    | tup hs hl dl => exact ⟨_, rfl, .inr ⟨_, sqT_mono x.sub hs, k _ H1' H' x hl (walks_tup hs dl)⟩⟩
  | _ => cases e
def rng (lo : Int) (n : Nat) : List PyData := (List.range n).map fun i => .int (lo + (i : Nat))
theorem rng_len (lo : Int) (n : Nat) : (rng lo n).length = n := by unfold rng; rw [List.length_map, List.length_range]
theorem walks_rng {K : PySem.W.Frag} {H1 : Hp} (lo : Int) (n : Nat) : Walks K (Itr lo n) H1 (rng lo n) := fun H1' H' s1 s2 i => by
  refine ⟨fun d e => ?_, fun l => by rw [rng_len] at l; exact l⟩
  have hl : i < n := by
    have := (List.getElem?_eq_some_iff.mp e).1
    rwa [rng_len] at this
  unfold rng at e
  rw [List.getElem?_map, List.getElem?_range hl] at e
  cases e
  refine ⟨hl, fun x H'' y => ?_⟩
  obtain ⟨rfl, rfl⟩ := y
  exact ⟨H1', .refl s2, .int _⟩
def rg1 (ds : List PyData) : Option (List PyData) := match ds with
  | [.int j] => if j.natAbs ≤ 16777216 then some (rng 0 j.toNat) else none
  | _ => none
def rg2 (ds : List PyData) : Option (List PyData) := match ds with
  | [.int i, .int j] => if i.natAbs ≤ 4194304 ∧ j.natAbs ≤ 4194304 then some (rng i (j - i).toNat) else none
  | _ => none
theorem di_range1 (ha : DA X [a] fs) (hg : Gl X "range") (hm : X.mg "range" = none) (hs : starEach [a] X.env = [(false, eval a X.env)] := by rfl) : DI X tg (.Call (.Name "range" p) [a] [] pos) (eNL rg1 fs) := by
  obtain ⟨t, pt, q⟩ := ha
  refine ⟨_, pi_range1 hg hm pt hs, fun σ H1 H ρ ds R s e k => ?_⟩
  obtain ⟨es, e1, e⟩ := bind_some e
  refine q σ H1 H ρ es _ s e1 fun vs H1' H' x dv => ?_
  unfold rg1 at e
  split at e
  · rename_i j
    split at e
    · rename_i hj
      cases e
      cases dv with
      | cons d1 d2 =>
        cases d1
        cases d2
        refine ⟨j, rfl, by omega, by omega, k _ H1' H' x (by rw [rng_len, sizeLine_eq]; omega) (walks_rng 0 _)⟩
    · cases e
  · cases e
theorem di_range2 (ha : DA X [a, b] fs) (hg : Gl X "range") (hm : X.mg "range" = none) (hs : starEach [a, b] X.env = [(false, eval a X.env), (false, eval b X.env)] := by rfl) (hs2 : starEach [b] X.env = [(false, eval b X.env)] := by rfl) : DI X tg (.Call (.Name "range" p) [a, b] [] pos) (eNL rg2 fs) := by
  obtain ⟨t, pt, q⟩ := ha
  refine ⟨_, pi_range2 hg hm pt hs hs2, fun σ H1 H ρ ds R s e k => ?_⟩
  obtain ⟨es, e1, e⟩ := bind_some e
  refine q σ H1 H ρ es _ s e1 fun vs H1' H' x dv => ?_
  unfold rg2 at e
  split at e
  · rename_i i j
    split at e
    · rename_i hj
      cases e
      cases dv with
      | cons d1 d2 =>
        cases d1
        cases d2 with
        | cons d3 d4 =>
          cases d3
          cases d4
          refine ⟨i, j, rfl, ⟨by omega, by omega, by omega, by omega⟩, k _ H1' H' x (by rw [rng_len, sizeLine_eq]; omega) (walks_rng i _)⟩
    · cases e
  · cases e

/-! ### loops -/
theorem ds_for {iter : Expr} {body : List Stmt} {fi : En → Option (List PyData)} {gd : PyData → En → Option En} (hp : PassesOwn (model X.prog X.w) X.A X.env X.xe) (hc : X.calm = true) (hi : DI X tg iter fi) (hg : DG X tg gd) (hb : DSs X body g)
    (hs : ∀ x, foldedSetIterable iter X.env x = pure x := by intro _; rfl) : DS X (.For tg iter body [] pos) (sFor fi gd g) := by
  obtain ⟨wi, pi, qi⟩ := hi
  obtain ⟨tg', pg, qg⟩ := hg
  obtain ⟨tb, pb, qb⟩ := hb
  refine ⟨_, ps_for hp hc pi pg pb hs, fun B1 B H1 H σ ρ o D s e k => ?_⟩
  obtain ⟨ds, e1, e⟩ := bind_some e
  refine qi σ H1 H ρ ds _ s.sok e1 fun J Hi H' x hl wk => ?_
  refine ⟨fun i m σ H => m = ds.length - i ∧ ∃ H1' ρ', Same Hi H1' ∧ Sst X.K B1 B H1' H σ ρ' ∧ forD gd g (ds.drop i) ρ' = some o, ⟨_, rfl, Hi, ρ, .refl _, s.ext x, by rw [List.drop_zero]; exact e⟩, ?_⟩
  rintro i m σ H ⟨rfl, H1', ρ', sm, s', e'⟩
  obtain ⟨w1, w2⟩ := wk H1' H sm s'.sok.sub i
  by_cases hi : i < ds.length
  · right
    rw [List.drop_eq_getElem_cons hi] at e'
    obtain ⟨go, yl⟩ := w1 ds[i] (List.getElem?_eq_getElem hi)
    obtain ⟨ρ1, e2, e'⟩ := bind_some e'
    obtain ⟨o1, e3, e'⟩ := bind_some e'
    refine ⟨go, fun σ2 H2 => ∃ H1'' ρ'', Same Hi H1'' ∧ Sst X.K B1 B H1'' H2 σ2 ρ'' ∧ forD gd g (ds.drop (i + 1)) ρ'' = some o, fun σ2 H2 ⟨H1'', ρ'', a1, a2, a3⟩ => ⟨ds.length - (i + 1), by omega, rfl, H1'', ρ'', a1, a2, a3⟩, fun v H2 y => ?_⟩
    obtain ⟨H1'', x2, dv⟩ := yl v H2 y
    refine qg B1 B H1'' H2 σ ρ' ρ1 v _ _ (s'.ext x2) dv e2 fun σ3 H13 H3 sm3 s3 => ?_
    refine qb B1 B H13 H3 σ3 ρ1 o1 _ s3 e3 ?_
    have sm4 : Same Hi H13 := (sm.trans x2.st).trans sm3
    cases o1 with
    | nx ρ2 => exact fun σ4 H14 H4 sm5 s4 => ⟨H14, ρ2, sm4.trans sm5, s4, e'⟩
    | ct ρ2 => exact fun σ4 H14 H4 sm5 s4 => ⟨H14, ρ2, sm4.trans sm5, s4, e'⟩
    | bk ρ2 =>
      cases e'
      exact fun σ4 H14 H4 sm5 s4 => k σ4 H14 H4 ((x.st.trans sm4).trans sm5) s4
    | rt d =>
      cases e'
      exact k
  · left
    rw [List.drop_eq_nil_of_le (by omega)] at e'
    cases e'
    exact ⟨w2 (by omega), k σ H1' H (x.st.trans sm) s'⟩
theorem ds_while {body : List Stmt} (n : Nat) (hp : PassesOwn (model X.prog X.w) X.A X.env X.xe) (hc : DT X c tf) (hb : DSs X body g) : DS X (.While c body [] pos) (whileD tf g n) := by
  obtain ⟨tc, pc, qc⟩ := hc
  obtain ⟨tb, pb, qb⟩ := hb
  refine ⟨_, ps_while hp pc pb, fun B1 B H1 H σ ρ o D s e k => ?_⟩
  refine ⟨fun m σ H => ∃ H1' ρ', Same H1 H1' ∧ Sst X.K B1 B H1' H σ ρ' ∧ whileD tf g m ρ' = some o, ⟨n, H1, ρ, .refl _, s, e⟩, ?_⟩
  rintro m σ H ⟨H1', ρ', sm, s', e'⟩
  cases m with
  | zero => cases e'
  | succ m =>
    obtain ⟨b, e1, e'⟩ := bind_some e'
    refine qc σ H1' H ρ' b _ s'.sok e1 fun H1'' H' x => ?_
    cases b with
    | false =>
      cases e'
      exact k σ H1'' H' (sm.trans x.st) (s'.ext x)
    | true =>
      obtain ⟨o1, e3, e'⟩ := bind_some e'
      refine ⟨fun σ2 H2 => ∃ H1' ρ', Same H1 H1' ∧ Sst X.K B1 B H1' H2 σ2 ρ' ∧ whileD tf g m ρ' = some o, fun σ2 H2 z => ⟨m, Nat.lt_succ_self _, z⟩, ?_⟩
      refine qb B1 B H1'' H' σ ρ' o1 _ (s'.ext x) e3 ?_
      have sm4 : Same H1 H1'' := sm.trans x.st
      cases o1 with
      | nx ρ2 => exact fun σ4 H14 H4 sm5 s4 => ⟨H14, ρ2, sm4.trans sm5, s4, e'⟩
      | ct ρ2 => exact fun σ4 H14 H4 sm5 s4 => ⟨H14, ρ2, sm4.trans sm5, s4, e'⟩
      | bk ρ2 =>
        cases e'
        exact fun σ4 H14 H4 sm5 s4 => k σ4 H14 H4 (sm4.trans sm5) s4
      | rt d =>
        cases e'
        exact k
end
end Dv

namespace Dv
open PySem PySem.Spec PyProof.Rows L2

/-! ### several slots at once -/
def setAll {α : Type} : List (Option α) → List Nat → List α → List (Option α)
  | σ, i :: is, v :: vs => setAll (σ.set i (some v)) is vs
  | σ, _, _ => σ
def setAllW (ρ : En) (is : List Nat) (ds : List PyData) : En := setAll ρ is (ds.map W.im)
theorem Sok.setAll {K : PySem.W.Frag} {H1 H : Hp} : ∀ {is : List Nat} {vs : List V} {ds : List PyData} {σ : L2.St} {ρ : En}, Sok K H1 H σ ρ → DenL K H1 vs ds → Sok K H1 H (Dv.setAll σ is vs) (setAllW ρ is ds)
  | [], _, _, _, _, s, _ => by unfold setAllW Dv.setAll; exact s
  | i :: is, _, [], _, _, s, h => by cases h; exact s
  | i :: is, _, d :: ds, σ, ρ, s, h => by
    cases h with
    | @cons v vs _ _ a b => exact Sok.setAll (σ := σ.set i (some v)) (ρ := ρ.set i (some (.im d))) (Sok.set s i a) b
def wipeE (ρ : En) : List Nat → En
  | [] => ρ
  | v :: vs => (wipeE ρ vs).set v none
theorem Sok.setN {K : PySem.W.Frag} {H1 H : Hp} {σ : L2.St} {ρ : En} (s : Sok K H1 H σ ρ) (i : Nat) : Sok K H1 H (σ.set i none) (ρ.set i none) := by
  have cs : ∀ {j : Nat} {u}, (ρ.set i none)[j]? = some (some u) → i ≠ j ∧ ρ[j]? = some (some u) := fun {j u} e => by
    by_cases hj : i = j
    · subst hj
      have hl : i < ρ.length := by
        have := (List.getElem?_eq_some_iff.mp e).1
        rwa [List.length_set] at this
      rw [List.getElem?_set_self hl] at e
      cases e
    · rw [List.getElem?_set_ne hj] at e
      exact ⟨hj, e⟩
  refine ⟨s.sub, by rw [List.length_set, List.length_set]; exact s.len, fun j u e => ?_, fun j l u u' v1 v2 b e1 e2 f1 f2 m1 m2 => ?_⟩
  · obtain ⟨hj, e⟩ := cs e
    rw [List.getElem?_set_ne hj]
    exact s.at_ j u e
  · obtain ⟨hj, e1⟩ := cs e1
    obtain ⟨hk, e2⟩ := cs e2
    rw [List.getElem?_set_ne hj] at f1
    rw [List.getElem?_set_ne hk] at f2
    exact s.inj j l u u' v1 v2 b e1 e2 f1 f2 m1 m2
theorem Sok.wipe {K : PySem.W.Frag} {H1 H : Hp} {σ : L2.St} {ρ : En} (s : Sok K H1 H σ ρ) : ∀ vs : List Nat, Sok K H1 H (wipe σ vs) (wipeE ρ vs)
  | [] => s
  | v :: vs => (Sok.wipe s vs).setN v
theorem wipe_in {σ : L2.St} {i : Nat} : ∀ {vs : List Nat}, i ∈ vs → (wipe σ vs)[i]? = if i < σ.length then some none else none
  | [], h => by simp at h
  | v :: vs, h => by
    unfold wipe
    by_cases hv : v = i
    · subst hv
      by_cases hl : v < σ.length
      · rw [List.getElem?_set_self (by rw [wipe_length]; exact hl), if_pos hl]
      · rw [if_neg hl, List.getElem?_eq_none (by rw [List.length_set, wipe_length]; omega)]
    · rw [List.getElem?_set_ne hv]
      rcases List.mem_cons.mp h with e | h
      · exact absurd e.symm hv
      · exact wipe_in h
theorem wipe_set {σ : L2.St} {i : Nat} {x : Option V} {vs : List Nat} (h : i ∈ vs) : wipe (σ.set i x) vs = wipe σ vs := by
  refine List.ext_getElem? fun j => ?_
  by_cases hj : j ∈ vs
  · rw [wipe_in hj, wipe_in hj, List.length_set]
  · rw [wipe_out hj, wipe_out hj, List.getElem?_set_ne (fun e => hj (by rw [← e]; exact h))]
theorem wipe_setAll {ow : List Nat} : ∀ {is : List Nat} {vs : List V} {σ : L2.St}, (∀ i ∈ is, i ∈ ow) → wipe (Dv.setAll σ is vs) ow = wipe σ ow
  | [], _, _, _ => by unfold Dv.setAll; rfl
  | i :: is, [], _, _ => rfl
  | i :: is, v :: vs, σ, h => by
    show wipe (Dv.setAll (σ.set i (some v)) is vs) ow = _
    rw [wipe_setAll fun j hj => h j (List.mem_cons_of_mem _ hj), wipe_set (h i List.mem_cons_self)]
theorem wipe_wipe {σ : L2.St} (vs : List Nat) : wipe (wipe σ vs) vs = wipe σ vs := by
  refine List.ext_getElem? fun j => ?_
  by_cases hj : j ∈ vs
  · rw [wipe_in hj, wipe_in hj, wipe_length]
  · rw [wipe_out hj, wipe_out hj]

/-! ### a comprehension's target, tests -/
def DGc (X : Cx) (tg : Expr) (is : List Nat) (spl : PyData → Option (List PyData)) : Prop :=
  ∃ t, PG X tg t ∧ ∀ (H1 H : Hp) (σ : L2.St) (v : V) (d : PyData) (ds : List PyData) (Q : L2.St → Hp → Prop), Same H1 H → Den X.K H1 v d → spl d = some ds → (∀ vs, DenL X.K H1 vs ds → Q (setAll σ is vs) H) → t v σ H Q
def DGcs (X : Cx) (tgs : List Expr) (is : List Nat) : Prop :=
  ∃ t, PGs X tgs t ∧ ∀ (H1 H : Hp) (σ : L2.St) (vs : List V) (ds : List PyData) (Q : L2.St → Hp → Prop), Same H1 H → DenL X.K H1 vs ds → ds.length = is.length → Q (setAll σ is vs) H → t vs σ H Q
def splN (d : PyData) : Option (List PyData) := some [d]
def splT (n : Nat) (d : PyData) : Option (List PyData) := match d with
  | .tuple ds => if ds.length = n then some ds else none
  | _ => none
def DTs (X : Cx) (ifs : List Expr) (f : En → Option Bool) : Prop :=
  ∃ t, PTs X ifs t ∧ ∀ (σ : L2.St) (H1 H : Hp) (ρ : En) (b : Bool) (Q : Bool → Hp → Prop), Sok X.K H1 H σ ρ → f ρ = some b → (∀ H1' H', Ext H1 H H1' H' → Q b H') → t σ H Q
def tYesD : En → Option Bool := fun _ => some true
def lcD (spl : PyData → Option (List PyData)) (is : List Nat) (ft : En → Option Bool) (fe : En → Option PyData) (ρ : En) : List PyData → Option (List PyData)
  | [] => some []
  | d :: ds => (spl d).bind fun xs => (ft (setAllW ρ is xs)).bind fun b => if b = true then (fe (setAllW ρ is xs)).bind fun y => (lcD spl is ft fe ρ ds).map fun r => y :: r else lcD spl is ft fe ρ ds
def eLc (fi : En → Option (List PyData)) (spl : PyData → Option (List PyData)) (is own : List Nat) (ft : En → Option Bool) (fe : En → Option PyData) : En → Option (List PyData) := fun ρ => (fi ρ).bind fun ds => lcD spl is ft fe (wipeE ρ own) ds

section
variable {X : Cx} {a b c e : Expr} {es : List Expr} {fa fb fc f : En → Option PyData} {fs : En → Option (List PyData)} {pos p : Pos} {x : Str} {tg : Expr} {tf : En → Option Bool}
theorem dgc_name (i : Nat) {x : Str} (hN : X.N.Nodup) (hi : X.N[i]? = some x := by rfl) (hx : Loc X.env.scope x := by first | exact Or.inl rfl | exact Or.inr rfl) (hf : X.fn x = true ∨ X.env.scope.names.lookup x = some .local := by first | exact .inl rfl | exact .inr rfl) : DGc X (.Name x pos) [i] splN :=
  ⟨_, pg_name hN hi hx hf, fun H1 H σ v d ds Q s dv e k => by cases e; exact k [v] (.one dv)⟩
theorem dgcs_nil : DGcs X [] [] := by
  refine ⟨_, pgs_nil, fun H1 H σ vs ds Q s dv e k => ?_⟩
  have : ds = [] := List.eq_nil_of_length_eq_zero e
  subst this
  cases dv
  exact ⟨rfl, k⟩
theorem dgcs_cons (i : Nat) {is : List Nat} {x : Str} (hN : X.N.Nodup) (h2 : DGcs X es is) (hi : X.N[i]? = some x := by rfl) (hx : Loc X.env.scope x := by first | exact Or.inl rfl | exact Or.inr rfl) (hf : X.fn x = true ∨ X.env.scope.names.lookup x = some .local := by first | exact .inl rfl | exact .inr rfl)
    (hs : (assignEach (.Name x pos :: es) X.env).map (·.2) = assign (.Name x pos) X.env :: (assignEach es X.env).map (·.2) := by rfl) : DGcs X (.Name x pos :: es) (i :: is) := by
  obtain ⟨t, pt, q⟩ := h2
  refine ⟨_, pgs_cons (pg_name hN hi hx hf) pt hs, fun H1 H σ vs ds Q s dv e k => ?_⟩
  cases dv with
  | nil => cases e
  | cons d1 d2 => exact ⟨_, _, rfl, q H1 H _ _ _ Q s d2 (Nat.succ.inj e) k⟩
theorem dgc_tup {k n : Nat} {is : List Nat} (hc : X.calm = true) (h : DGcs X es is) (hl : is.length = n := by rfl) (hn : (assignEach es X.env).length = n := by rfl) (hst : (assignEach es X.env).findIdx? (·.1) = none := by rfl) : DGc X (.Tuple es k pos) is (splT n) := by
  obtain ⟨t, pt, q⟩ := h
  refine ⟨_, pg_tup hc pt hn hst, fun H1 H σ v d ds Q s dv e k => ?_⟩
  cases d with
  | tuple es =>
    cases dv with
    | tup hq hz dl =>
      have e : (if es.length = n then some es else none) = some ds := e
      split at e
      · cases e
        rename_i hln
        exact ⟨_, _, rfl, sqT_mono s hq, by rw [dl.length]; exact hln, q H1 H σ _ _ Q s dl (hln.trans hl.symm) (k _ dl)⟩
      · cases e
  | _ => cases e
theorem dts_nil : DTs X [] tYesD := ⟨_, pts_nil, fun σ H1 H ρ b Q s e k => by cases e; exact k H1 H (.refl s.sub)⟩
theorem dts_one (h : DT X e tf) : DTs X [e] tf := let ⟨t, p, q⟩ := h; ⟨_, pts_one p, q⟩
def rdTs (K : PySem.W.Frag) (f : En → Option Bool) : TT := fun σ H Q => ∃ (H1 : Hp) (ρ : En) (d : Bool), Sok K H1 H σ ρ ∧ f ρ = some d ∧ ∀ H1' H', Ext H1 H H1' H' → Q d H'
theorem DTs.pt {es : List Expr} {f : En → Option Bool} (h : DTs X es f) : PTs X es (rdTs X.K f) := by
  obtain ⟨t, p, q⟩ := h
  exact ⟨fun pins s σ H Q I ⟨H1, ρ, d, sk, hf, k⟩ => p.run pins s σ H Q I (q σ H1 H ρ d Q sk hf k)⟩
def rdG (K : PySem.W.Frag) (is : List Nat) (spl : PyData → Option (List PyData)) : TG := fun v σ H Q => ∃ (H1 : Hp) (d : PyData) (ds : List PyData), Same H1 H ∧ Den K H1 v d ∧ spl d = some ds ∧ ∀ vs, DenL K H1 vs ds → Q (setAll σ is vs) H
theorem DGc.pg {is : List Nat} {spl : PyData → Option (List PyData)} (h : DGc X tg is spl) : PG X tg (rdG X.K is spl) := by
  obtain ⟨t, p, q⟩ := h
  exact ⟨fun pins s σ H v u Q I r ⟨H1, d, ds, sm, dv, e, k⟩ => p.run pins s σ H v u Q I r (q H1 H σ v d ds Q sm dv e k)⟩

/-- a comprehension's reading -/
theorem lc_read {K : PySem.W.Frag} {wi : TI} {fi : En → Option (List PyData)} {spl : PyData → Option (List PyData)} {is own : List Nat} {ft : En → Option Bool} {fe : En → Option PyData}
    (qi : ∀ (σ : L2.St) (H1 H : Hp) (ρ : En) (ds : List PyData) (R : It → Hp → Prop), Sok K H1 H σ ρ → fi ρ = some ds → (∀ J H1' H', Ext H1 H H1' H' → ds.length ≤ sizeLine → Walks K J H1' ds → R J H') → wi σ H R)
    (hown : ∀ i ∈ is, i ∈ own) {σ : L2.St} {H1 H : Hp} {ρ : En} {rs : List PyData} {Q : VK} (s : Sok K H1 H σ ρ) (e : eLc fi spl is own ft fe ρ = some rs)
    (k : ∀ a vs H1' H', Ext H1 H H1' H' → H a = none → H' a = some (.lst vs) → H1' a = none → rs.length ≤ sizeLine → DenL K H1' vs rs → Q (.ref a) H') : tLc wi (rdG K is spl) (rdTs K ft) (rdE K fe) own σ H Q := by
  obtain ⟨ds, e1, e⟩ := bind_some e
  refine qi σ H1 H ρ ds _ s e1 fun J Hi H' x hl wk => fun D nD => ?_
  have nD0 : H D = none := (x.same s.sub).free nD
  refine ⟨fun i m H2 => m = ds.length - i ∧ ∃ H12 acc accd rest, H2 D = some (.lst acc) ∧ H12 D = none ∧ Same Hi H12 ∧ Ext H1 H H12 H2 ∧ DenL K H12 acc accd ∧ accd.length ≤ i ∧ i ≤ ds.length ∧ lcD spl is ft fe (wipeE ρ own) (ds.drop i) = some rest ∧ accd ++ rest = rs, ⟨_, rfl, Hi, [], [], rs, upd_same, x.sub.free nD, .refl _, x.trans (.newMut x.sub nD), .nil, Nat.le_refl _, Nat.zero_le _, by rw [List.drop_zero]; exact e, rfl⟩, ?_⟩
  rintro i m H2 ⟨rfl, H12, acc, accd, rest, hD, hD1, sm, x2, dl, hli, hile, e2, e3⟩
  have s2 : Sok K H12 H2 σ ρ := s.ext x2
  obtain ⟨w1, w2⟩ := wk H12 H2 sm x2.sub i
  by_cases hi : i < ds.length
  · right
    rw [List.drop_eq_getElem_cons hi] at e2
    obtain ⟨go, yl⟩ := w1 ds[i] (List.getElem?_eq_getElem hi)
    obtain ⟨xs, e4, e2⟩ := bind_some e2
    obtain ⟨bb, e5, e2⟩ := bind_some e2
    refine ⟨go, fun H3 => ∃ H13 acc accd rest, H3 D = some (.lst acc) ∧ H13 D = none ∧ Same Hi H13 ∧ Ext H1 H H13 H3 ∧ DenL K H13 acc accd ∧ accd.length ≤ i + 1 ∧ i + 1 ≤ ds.length ∧ lcD spl is ft fe (wipeE ρ own) (ds.drop (i + 1)) = some rest ∧ accd ++ rest = rs, fun H3 z => ⟨ds.length - (i + 1), by omega, rfl, z⟩, fun v H3 y => ?_⟩
    obtain ⟨H13, x3, dv⟩ := yl v H3 y
    refine ⟨H13, ds[i], xs, x3.sub, dv, e4, fun vs dvs => ⟨by rw [wipe_setAll hown, wipe_wipe], ?_⟩⟩
    have s3 : Sok K H13 H3 (setAll (wipe σ own) is vs) (setAllW (wipeE ρ own) is xs) := ((s2.ext x3).wipe own).setAll dvs
    obtain ⟨n3, h3⟩ := x3.fr D _ hD hD1
    refine ⟨H13, _, bb, s3, e5, fun H14 H4 x4 => ?_⟩
    obtain ⟨n4, h4⟩ := x4.fr D _ h3 n3
    cases bb with
    | false =>
      rw [if_neg Bool.false_ne_true]
      exact ⟨H14, acc, accd, rest, h4, n4, (sm.trans x3.st).trans x4.st, (x2.trans x3).trans x4, DenL.mono (x3.st.trans x4.st) _ _ dl, Nat.le_succ_of_le hli, hi, e2, e3⟩
    | true =>
      rw [if_pos rfl]
      rw [if_pos rfl] at e2
      obtain ⟨y, e6, e2⟩ := bind_some e2
      obtain ⟨r, e7, rfl⟩ := map_some e2
      refine ⟨H14, _, y, s3.ext x4, e6, fun w H15 H5 x5 dw => ?_⟩
      obtain ⟨n5, h5⟩ := x5.fr D _ h4 n4
      have lacc : acc.length = accd.length := dl.length
      refine ⟨acc, h5, by omega, ?_⟩
      have x6 : Ext H1 H H15 H5 := ((x2.trans x3).trans x4).trans x5
      refine ⟨H15, acc ++ [w], accd ++ [y], r, upd_same, n5, ((sm.trans x3.st).trans x4.st).trans x5.st, ⟨x6.st, fun b o z => ?_, fun b o z z1 => ?_⟩, (DenL.mono ((x3.st.trans x4.st).trans x5.st) _ _ dl).append (.one dw), by rw [List.length_append]; exact Nat.add_le_add_right hli 1, hi, e7, ?_⟩
      · rw [upd_ne (ne_of_none z n5)]; exact x6.sub _ _ z
      · obtain ⟨q1, q2⟩ := x6.fr b o z z1
        rw [upd_ne (ne_of_none z nD0)]
        exact ⟨q1, q2⟩
      · rw [← e3, List.append_assoc]; rfl
  · left
    have hie : i = ds.length := by omega
    rw [List.drop_eq_nil_of_le (by omega)] at e2
    cases e2
    rw [List.append_nil] at e3
    subst e3
    exact ⟨w2 (by omega), k D acc H12 H2 x2 nD0 hD hD1 (by omega) dl⟩

theorem dl_lc {elt iter : Expr} {ifs : List Expr} {scope : Scope} {own : List (Str × Nat)} {fi : En → Option (List PyData)} {spl : PyData → Option (List PyData)} {is ow : List Nat} {ft : En → Option Bool} {fe : En → Option PyData} (hc : X.calm = true) (hN : X.N.Nodup) (hi : DI X tg iter fi) (ok : BlkOk X.N X.env.scope scope own)
    (hg : ∀ (s : Shared) (H : Hp) (C : Addr) (cl : List (Str × Addr)) (fp : List Addr), DGc (X.blk s H scope (compEnvC scope cl C X.env) fp) tg is spl) (ht : ∀ (s : Shared) (H : Hp) (C : Addr) (cl : List (Str × Addr)) (fp : List Addr), DTs (X.blk s H scope (compEnvC scope cl C X.env) fp) ifs ft)
    (he : ∀ (s : Shared) (H : Hp) (C : Addr) (cl : List (Str × Addr)) (fp : List Addr), DE (X.blk s H scope (compEnvC scope cl C X.env) fp) elt fe) (how : own.map (·.2) = ow := by rfl) (hown : ∀ i ∈ is, i ∈ ow := by decide) (hs : ∀ x, foldedSetIterable iter X.env x = pure x := by intro _; rfl) :
    DL X (.ListComp elt [⟨tg, iter, ifs, 0⟩] scope pos) (eLc fi spl is ow ft fe) := by
  subst how
  obtain ⟨wi, pi, qi⟩ := hi
  refine ⟨_, pe_lc (g := rdG X.K is spl) (tt := rdTs X.K ft) (te := rdE X.K fe) hc hN pi ok (fun s H C cl fp => (hg s H C cl fp).pg) (fun s H C cl fp => (ht s H C cl fp).pt) (fun s H C cl fp => (he s H C cl fp).pe) hs, fun σ H1 H ρ rs Q s e k => ?_⟩
  exact lc_read qi hown s e k
/-- name = [..] where the model stores within the comprehension -/
theorem ds_setLc (i : Nat) {y : Str} {py spos : Pos} {elt iter : Expr} {ifs : List Expr} {scope : Scope} {own : List (Str × Nat)} {fi : En → Option (List PyData)} {spl : PyData → Option (List PyData)} {is ow : List Nat} {ft : En → Option Bool} {fe : En → Option PyData} (hc : X.calm = true) (hN : X.N.Nodup) (hi : DI X tg iter fi) (ok : BlkOk X.N X.env.scope scope own)
    (hg : ∀ (s : Shared) (H : Hp) (C : Addr) (cl : List (Str × Addr)) (fp : List Addr), DGc (X.blk s H scope (compEnvC scope cl C X.env) fp) tg is spl) (ht : ∀ (s : Shared) (H : Hp) (C : Addr) (cl : List (Str × Addr)) (fp : List Addr), DTs (X.blk s H scope (compEnvC scope cl C X.env) fp) ifs ft)
    (he : ∀ (s : Shared) (H : Hp) (C : Addr) (cl : List (Str × Addr)) (fp : List Addr), DE (X.blk s H scope (compEnvC scope cl C X.env) fp) elt fe) (hsw : swapsWith (.ListComp elt [⟨tg, iter, ifs, 0⟩] scope pos) (some (.Name y py)) spos.line X.env = pure true) (hy : X.N[i]? = some y := by rfl) (hyl : X.env.scope.names.lookup y = some .local := by rfl) (how : own.map (·.2) = ow := by rfl) (hown : ∀ i ∈ is, i ∈ ow := by decide) (hs : ∀ x, foldedSetIterable iter X.env x = pure x := by intro _; rfl) :
    DS X (.Assign [.Name y py] (.ListComp elt [⟨tg, iter, ifs, 0⟩] scope pos) spos) (sAsg (eL (eLc fi spl is ow ft fe)) (gN i)) := by
  subst how
  obtain ⟨wi, pi, qi⟩ := hi
  refine ⟨_, ps_setLc (g := rdG X.K is spl) (tt := rdTs X.K ft) (te := rdE X.K fe) hc hN hy hyl hsw pi ok (fun s H C cl fp => (hg s H C cl fp).pg) (fun s H C cl fp => (ht s H C cl fp).pt) (fun s H C cl fp => (he s H C cl fp).pe) hs, fun B1 B H1 H σ ρ o D s e k => ?_⟩
  obtain ⟨d, e1, e⟩ := bind_some e
  cases e
  obtain ⟨rs, e2, rfl⟩ := map_some e1
  refine lc_read qi hown s.sok e2 fun a vs H1' H' x n e' n' l dl => ?_
  have x2 := x.frz n e' n'
  exact k _ _ H' x2.st ((s.ext x2).set i (.lst (.of upd_same) l (DenL.mono (same_new n') _ _ dl)))
theorem ds_setLcM (i : Nat) {y : Str} {py spos : Pos} {elt iter : Expr} {ifs : List Expr} {scope : Scope} {own : List (Str × Nat)} {fi : En → Option (List PyData)} {spl : PyData → Option (List PyData)} {is ow : List Nat} {ft : En → Option Bool} {fe : En → Option PyData} (hc : X.calm = true) (hN : X.N.Nodup) (hi : DI X tg iter fi) (ok : BlkOk X.N X.env.scope scope own)
    (hg : ∀ (s : Shared) (H : Hp) (C : Addr) (cl : List (Str × Addr)) (fp : List Addr), DGc (X.blk s H scope (compEnvC scope cl C X.env) fp) tg is spl) (ht : ∀ (s : Shared) (H : Hp) (C : Addr) (cl : List (Str × Addr)) (fp : List Addr), DTs (X.blk s H scope (compEnvC scope cl C X.env) fp) ifs ft)
    (he : ∀ (s : Shared) (H : Hp) (C : Addr) (cl : List (Str × Addr)) (fp : List Addr), DE (X.blk s H scope (compEnvC scope cl C X.env) fp) elt fe) (hsw : swapsWith (.ListComp elt [⟨tg, iter, ifs, 0⟩] scope pos) (some (.Name y py)) spos.line X.env = pure true) (hy : X.N[i]? = some y := by rfl) (hyl : X.env.scope.names.lookup y = some .local := by rfl) (how : own.map (·.2) = ow := by rfl) (hown : ∀ i ∈ is, i ∈ ow := by decide) (hs : ∀ x, foldedSetIterable iter X.env x = pure x := by intro _; rfl) :
    DS X (.Assign [.Name y py] (.ListComp elt [⟨tg, iter, ifs, 0⟩] scope pos) spos) (sAsgL i (eLc fi spl is ow ft fe)) := by
  subst how
  obtain ⟨wi, pi, qi⟩ := hi
  refine ⟨_, ps_setLc (g := rdG X.K is spl) (tt := rdTs X.K ft) (te := rdE X.K fe) hc hN hy hyl hsw pi ok (fun s H C cl fp => (hg s H C cl fp).pg) (fun s H C cl fp => (ht s H C cl fp).pt) (fun s H C cl fp => (he s H C cl fp).pe) hs, fun B1 B H1 H σ ρ o D s e k => ?_⟩
  obtain ⟨rs, e1, rfl⟩ := map_some e
  refine lc_read qi hown s.sok e1 fun a vs H1' H' x n e' n' l dl => ?_
  exact k _ H1' H' x.st (s.setM i x (fun b h => by cases h; exact n) ⟨a, vs, rfl, e', n', l, dl⟩)
end

/-! ### defs -/
def outD : Option Out → Option PyData
  | some (.rt d) => some d
  | some (.nx _) => some .none
  | _ => none
def fnD (n m : Nat) (f : En → Option Out) (ds : List PyData) : Option PyData := if ds.length = n then outD (f (ds.map (fun d => some (.im d)) ++ List.replicate m none)) else none
def spD (K : PySem.W.Frag) (n : Nat) (g : List PyData → Option PyData) : Sp := fun vs H Q _ => vs.length = n ∧ ∃ (H1 : Hp) (ds : List PyData) (d : PyData), Same H1 H ∧ DenL K H1 vs ds ∧ g ds = some d ∧ ∀ v H1' H', Ext H1 H H1' H' → Den K H1' v d → Q v H'
structure CalD (P : Program) (w : World) (K : PySem.W.Frag) (mg : Str → Option Value) (base : Heap) (k : Nat) (x : Str) (n : Nat) (g : List PyData → Option PyData) : Prop where
  ex : ∃ (f : Addr) (fd : FuncData) (ps : List Str), FnOk P w K mg base CX0 k f fd ps (spD K n g) ∧ mg x = some (.ref f) ∧ PySem.W.keepIn K (.ref f) = true ∧ Binds K fd ps []
section
variable {P : Program} {w : World} {K : PySem.W.Frag} {mg : Str → Option Value} {base : Heap}
theorem sok_start {H1 H : Hp} {vs : List V} {ds : List PyData} {m : Nat} (s : Same H1 H) (dl : DenL K H1 vs ds) : Sok K H1 H (vs.map some ++ List.replicate m none) (ds.map (fun d => some (.im d)) ++ List.replicate m none) := by
  have cs : ∀ {j : Nat} {u}, (ds.map (fun d => some (W.im d)) ++ List.replicate m none)[j]? = some (some u) → ∃ d, u = .im d ∧ ds[j]? = some d := fun {j u} e => by
    by_cases hj : j < ds.length
    · rw [List.getElem?_append_left (by rw [List.length_map]; exact hj), List.getElem?_map, List.getElem?_eq_getElem hj] at e
      cases e
      exact ⟨_, rfl, List.getElem?_eq_getElem hj⟩
    · rw [List.getElem?_append_right (by rw [List.length_map]; omega)] at e
      have := List.eq_of_mem_replicate (List.mem_of_getElem? e)
      cases this
  refine ⟨s, by rw [List.length_append, List.length_append, List.length_map, List.length_map, List.length_replicate, List.length_replicate, dl.length], fun j u e => ?_, fun j l u u' v1 v2 b e1 e2 f1 f2 m1 m2 => ?_⟩
  · obtain ⟨d, rfl, e3⟩ := cs e
    obtain ⟨v, e2, dv⟩ := dl.get e3
    refine ⟨v, ?_, dv⟩
    rw [List.getElem?_append_left (by rw [List.length_map]; exact (List.getElem?_eq_some_iff.mp e2).1), List.getElem?_map, e2]
    rfl
  · obtain ⟨d, rfl, e⟩ := cs e1
    exact m1.elim
theorem fn_mk {x : Str} {st : Stmt} {f : Addr} {fd : FuncData} {N ps : List Str} {k : Nat} {fb : En → Option Out} (n m : Nat) (F : Fun K x x st f fd) (S : FnScope N ps (defScope st)) (hn : ps.length = n) (hNm : N.length = n + m)
    (body : ∀ (cdv : Value) (A : Around) (outer : List Env) (s : Shared) (H : Hp) (E : XK), Room k (A.deeper (envOfC x (defScope st) s.heap.objs.size f cdv)) → DSs (cxOf CX0 P w K mg base N x (defScope st) f cdv A outer s H E).nox (defBody st) fb) :
    FnOk P w K mg base CX0 (k + 1) f fd ps (spD K n (fnD n m fb)) := by
  subst hn
  refine F.ok S (fun vs H Q E h => h.1) (fun cdv A outer s H vs Q E hr h => ?_)
  obtain ⟨hl, H1, ds, d, sm, dl, e, k⟩ := h
  obtain ⟨t, p, q⟩ := body cdv A outer s H E hr
  unfold fnD at e
  have hds : ds.length = ps.length := by rw [← dl.length]; exact hl
  rw [if_pos hds] at e
  refine ⟨t, p, ?_⟩
  have hst : L2.start N vs = vs.map some ++ List.replicate m none := by
    unfold L2.start
    rw [show N.length - vs.length = m by omega]
  rw [hst]
  cases ho : fb (ds.map (fun d => some (.im d)) ++ List.replicate m none) with
  | none => rw [ho] at e; cases e
  | some o =>
    rw [ho] at e
    have sk : Sok K H1 H (vs.map some ++ List.replicate m none) (ds.map (fun d => some (.im d)) ++ List.replicate m none) := sok_start sm dl
    have s0 : Sst K H1 H H1 H (vs.map some ++ List.replicate m none) (ds.map (fun d => some (.im d)) ++ List.replicate m none) := by
      refine ⟨sk, sm, .refl sm, fun i w v b e _ m => ?_⟩
      have := List.mem_of_getElem? e
      rcases List.mem_append.mp this with z | z
      · obtain ⟨d, _, z⟩ := List.mem_map.mp z
        cases z
        exact m.elim
      · have := List.eq_of_mem_replicate z
        cases this
    refine q H1 H H1 H _ _ o _ s0 ho ?_
    cases o with
    | rt d' =>
      cases e
      exact fun v H1' H' x dv => k v H1' H' x dv
    | nx ρ =>
      cases e
      exact fun σ H1' H' _ s => k .non H1' H' s.fr .non
    | bk ρ => cases e
    | ct ρ => cases e
theorem cal_mk {x : Str} {st : Stmt} {f : Addr} {fd : FuncData} {N ps : List Str} {k : Nat} {fb : En → Option Out} (n m : Nat) (F : Fun K x x st f fd) (hm : mg x = some (.ref f)) (b : Binds K fd ps []) (S : FnScope N ps (defScope st)) (hn : ps.length = n) (hNm : N.length = n + m)
    (body : ∀ (cdv : Value) (A : Around) (outer : List Env) (s : Shared) (H : Hp) (E : XK), Room k (A.deeper (envOfC x (defScope st) s.heap.objs.size f cdv)) → DSs (cxOf CX0 P w K mg base N x (defScope st) f cdv A outer s H E).nox (defBody st) fb) :
    CalD P w K mg base (k + 1) x n (fnD n m fb) :=
  ⟨f, fd, ps, fn_mk n m F S hn hNm body, hm, F.kp, b⟩
/-- nothing is promised -/
theorem cal_zero {x : Str} {st : Stmt} {f : Addr} {fd : FuncData} {ps : List Str} {k n : Nat} (F : Fun K x x st f fd) (hm : mg x = some (.ref f)) (b : Binds K fd ps []) (hn : ps.length = n := by rfl) : CalD P w K mg base k x n (fun _ => none) :=
  ⟨f, fd, ps, ⟨fun vs H Q E h => h.1.trans hn.symm, fun A outer s H args us vs Q E hr e0 hb r h => by
    obtain ⟨_, _, _, _, _, _, e, _⟩ := h
    cases e⟩, hm, F.kp, b⟩
/-- the law's call -/
theorem law_sp {g : List PyData → Option PyData} (hg : ∀ ns : List Int, ns.length ≤ 63 → g [.list (ns.map PyData.int)] = some (.bool true)) {H : Hp} {a : Addr} {ns : List Int} {E : XK} (hS : SqL K H a (ns.map V.int)) (hl : ns.length ≤ 63) : spD K 1 g [.ref a] H (fun v _ => v = .bl true) E :=
  ⟨rfl, H, [.list (ns.map PyData.int)], .bool true, .refl H, .one (.lst hS (by rw [List.length_map, sizeLine_eq]; omega) (DenL.ints ns)), hg ns hl, fun v H1' H' x dv => den_bl dv⟩
end
section
variable {X : Cx} {e : Expr} {es : List Expr} {fs : En → Option (List PyData)} {pos p : Pos} {x : Str} {k j n : Nat} {g : List PyData → Option PyData}
theorem de_fn (c : CalD X.prog X.w X.K X.mg X.base k x n g) (hr : Room j X.A) (hk : k ≤ j) (hg : Gl X x) (ha : DA X (e :: es) fs) (hn : ∀ ρ ds, fs ρ = some ds → ds.length = n) (hdb : (x == ("__debug__" : Str)) = false := by decide)
    (he : starEach (e :: es) X.env = (false, eval e X.env) :: starEach es X.env := by rfl) (hpl : (backTo pos (starEach es X.env)).any (·.1) = false := by rfl) :
    DE X (.Call (.Name x p) (e :: es) [] pos) (eN g fs) := by
  obtain ⟨f, fd, ps, F, hm, kp, b⟩ := c.ex
  obtain ⟨t, pt, q⟩ := ha
  refine ⟨_, pe_call F (hr.mono hk) hg hm kp b .nil pass0 pt hdb he hpl, fun σ H1 H ρ d Q s h k => ?_⟩
  obtain ⟨ds, h1, h⟩ := bind_some h
  refine q σ H1 H ρ ds _ s h1 fun vs H1' H' x1 q1 => ?_
  show spD X.K n g (vs ++ []) H' Q E0
  rw [List.append_nil]
  exact ⟨q1.length.trans (hn _ _ h1), H1', ds, d, x1.sub, q1, h, fun v H2 H2' x2 => k v H2 H2' (x1.trans x2)⟩
end
theorem len_nil : ∀ ρ ds, eNil ρ = some ds → ds.length = 0 := fun ρ ds h => by cases h; rfl
theorem len_cons {f : En → Option PyData} {r : En → Option (List PyData)} {n : Nat} (h : ∀ ρ ds, r ρ = some ds → ds.length = n) : ∀ ρ ds, eCons f r ρ = some ds → ds.length = n + 1 := fun ρ ds e => by
  obtain ⟨d, _, e⟩ := bind_some e
  obtain ⟨es, e1, rfl⟩ := map_some e
  rw [List.length_cons, h _ _ e1]
end Dv

namespace Dv
open PySem PySem.Spec PyProof.Rows L2

/-! ### operators on data -/
def iiD (g : Int → Int → Int) (C : Int → Int → Bool) : PyData → PyData → Option PyData
  | .int i, .int j => if C i j = true then some (.int (g i j)) else none
  | _, _ => none
def addD : PyData → PyData → Option PyData
  | .int i, .int j => some (.int (i + j))
  | .str i, .str j => if i.length + j.length ≤ sizeLine then some (.str (i ++ j)) else none
  | .list a, .list b => if a.length + b.length ≤ sizeLine then some (.list (a ++ b)) else none
  | .tuple a, .tuple b => if a.length + b.length ≤ sizeLine then some (.tuple (a ++ b)) else none
  | _, _ => none
def catD : PyData → PyData → Option (List PyData)
  | .list a, .list b => if a.length + b.length ≤ sizeLine then some (a ++ b) else none
  | _, _ => none
def subD : PyData → PyData → Option PyData
  | .int i, .int j => some (.int (i - j))
  | _, _ => none
def cMul (i j : Int) : Bool := decide (i.natAbs < 18446744073709551616) || decide (j.natAbs < 18446744073709551616)
def modD : PyData → PyData → Option PyData
  | .int i, .int j => if 0 < j then some (.int (i % j)) else none
  | _, _ => none
def fdivD : PyData → PyData → Option PyData
  | .int i, .int j => if 0 < j ∧ j.natAbs < 1073741824 then some (.int (i / j)) else none
  | _, _ => none
def ltD : PyData → PyData → Option PyData
  | .int i, .int j => some (.bool (decide (i < j)))
  | _, _ => none
def leD : PyData → PyData → Option PyData
  | .int i, .int j => some (.bool (decide (i ≤ j)))
  | _, _ => none
def gtD : PyData → PyData → Option PyData
  | .int i, .int j => some (.bool (decide (j < i)))
  | _, _ => none
def geD : PyData → PyData → Option PyData
  | .int i, .int j => some (.bool (decide (j ≤ i)))
  | _, _ => none
def good (d : PyData) : Bool := d.canLay0 && decide (d.depth ≤ 60)
def eqD (d e : PyData) : Option PyData := if good d && good e then some (.bool (PyData.eqv d e)) else none
def neD (d e : PyData) : Option PyData := if good d && good e then some (.bool (!PyData.eqv d e)) else none
def inD (d e : PyData) : Option PyData := if good d && good e then (match e with
  | .list es => some (.bool (es.any fun z => PyData.eqv z d))
  | .tuple es => some (.bool (es.any fun z => PyData.eqv z d))
  | _ => none) else none
def ninD (d e : PyData) : Option PyData := if good d && good e then (match e with
  | .list es => some (.bool (!es.any fun z => PyData.eqv z d))
  | .tuple es => some (.bool (!es.any fun z => PyData.eqv z d))
  | _ => none) else none
def isNonB : PyData → Bool
  | .none => true
  | _ => false
def isN (d e : PyData) : Option PyData := if isNonB e = true then some (.bool (isNonB d)) else none
def notN (d e : PyData) : Option PyData := if isNonB e = true then some (.bool (!isNonB d)) else none
def negD : PyData → Option PyData
  | .int i => some (.int (-i))
  | _ => none

section
variable {X : Cx} {K : PySem.W.Frag}
theorem of_if {α : Type} {c : Prop} [Decidable c] {a b : α} (h : (if c then some a else none) = some b) : c ∧ a = b := by
  split at h
  · rename_i hc; exact ⟨hc, Option.some.inj h⟩
  · cases h

/-- + : one rule for ints, texts, lists, tuples -/
def rAddA (K : PySem.W.Frag) : R2 := fun x y H Q => rI0 (fun i j => .int (i + j)) x y H Q ∨ (∃ i j, x = .str i ∧ y = .str j ∧ i.length + j.length ≤ sizeLine ∧ Q (.str (i ++ j)) H) ∨ rCatF K x y H Q ∨
  (∃ l b xs zs, x = .ref l ∧ y = .ref b ∧ SqL K H l xs ∧ SqL K H b zs ∧ xs.length + zs.length ≤ sizeLine ∧ ∀ p, H p = none → Q (.ref p) (upd H p (.lst (xs ++ zs))))
theorem lst_obj {pins : List (Addr × Obj)} {σ : L2.St} {H : Hp} {s : Shared} {l : Addr} {xs : List V} (I : Inv X pins σ H s) (h : SqL X.K H l xs) : ∃ its : List Value, Vals xs its ∧ ∃ (n : Nat) (dd : Option Addr) (sl : Array (Option Value)), s.heap.get? l = some { cls := .type "list", dict := dd, data := .seq its.toArray n, slots := sl } ∧ xs.length ≤ sizeLine := by
  obtain ⟨its, rv, ⟨⟨c, dd, dt, sl⟩, n, ho, hc, hd, hdt⟩, hz⟩ := I.list h
  simp only at hc hd hdt
  subst hc hd hdt
  exact ⟨its, rv, n, _, sl, ho, hz⟩

theorem op_addA : OpR X (binaryOp .Add) (rAddA X.K) := by
  intro pins s σ H x y v u Q I rx ry h
  rcases h with h | h | h | h
  · exact op_add pins s σ H x y v u Q I rx ry h
  · exact op_add_str pins s σ H x y v u Q I rx ry h
  · exact op_catF pins s σ H x y v u Q I rx ry h
  · obtain ⟨l, b, xs, zs, rfl, rfl, hL, hB, hz, q⟩ := h
    cases rx
    cases ry
    obtain ⟨its, r, n, dd, sl, ho, _⟩ := lst_obj I hL
    obtain ⟨its2, r2, n2, dd2, sl2, ho2, _⟩ := lst_obj I hB
    have hsz : its.length + its2.length ≤ sizeLine := by rw [← r.length, ← r2.length]; exact hz
    have e : its.toArray ++ its2.toArray = (its ++ its2).toArray := by simp
    refine concat_meets ⟨_, ho, rfl⟩ ⟨_, ho2, rfl⟩ noFill_list_add seq_list_add PySem.F.slot_list_add PySem.F.entry_list_add (PySem.F.args_list_add_2 _ _) (list_addW l b its.toArray its2.toArray n n2 dd dd2 sl sl2 (by simpa using hsz)) ⟨ho, ho2, ?_⟩
    rw [e]
    exact ⟨.ref _, _, I.lnew (t' := s.toks) (r.append r2) (by rw [List.length_append]; omega), rfl, q _ I.fresh⟩
theorem v_add : V2 K (rAddA K) addD := by
  intro x y d e c H1 H Q sm dx dy h k
  unfold addD at h
  split at h
  · cases h
    cases dx
    cases dy
    exact .inl ⟨_, _, rfl, rfl, k _ H1 H (.refl sm) (.int _)⟩
  · obtain ⟨hl, rfl⟩ := of_if h
    cases dx
    cases dy
    exact .inr (.inl ⟨_, _, rfl, rfl, hl, k _ H1 H (.refl sm) (.str _)⟩)
  · obtain ⟨hl, rfl⟩ := of_if h
    cases dx with
    | lst h1 l1 q1 =>
      cases dy with
      | lst h2 l2 q2 =>
        refine .inr (.inr (.inr ⟨_, _, _, _, rfl, rfl, sm.seq h1, sm.seq h2, by rw [q1.length, q2.length]; exact hl, fun p n => ?_⟩))
        exact k _ _ _ (.new sm n) (.lst (.of upd_same) (by rw [List.length_append]; exact hl) (DenL.mono (same_new (sm.free n)) _ _ (q1.append q2)))
  · obtain ⟨hl, rfl⟩ := of_if h
    cases dx with
    | tup h1 l1 q1 =>
      cases dy with
      | tup h2 l2 q2 =>
        refine .inr (.inr (.inl ⟨_, _, _, _, rfl, rfl, sqT_mono sm h1, sqT_mono sm h2, by rw [q1.length, q2.length]; exact hl, fun e => ?_, fun e1 e2 => ?_, fun e1 e2 p o n bo => ?_⟩))
        · subst e
          cases q1
          exact k _ H1 H (.refl sm) (.tup h2 l2 q2)
        · subst e2
          cases q2
          refine k _ H1 H (.refl sm) ?_
          rw [List.append_nil]
          exact .tup h1 l1 q1
        · exact k _ _ _ (.new sm n) (.tup (.inl ⟨_, upd_same, bo⟩) (by rw [List.length_append]; exact hl) (DenL.mono (same_new (sm.free n)) _ _ (q1.append q2)))
  · cases h
theorem v_cat : V2L K (rAddA K) catD := by
  intro x y d e cs H1 H Q sm dx dy h k
  unfold catD at h
  split at h
  · obtain ⟨hl, rfl⟩ := of_if h
    cases dx with
    | lst h1 l1 q1 =>
      cases dy with
      | lst h2 l2 q2 =>
        refine .inr (.inr (.inr ⟨_, _, _, _, rfl, rfl, sm.seq h1, sm.seq h2, by rw [q1.length, q2.length]; exact hl, fun p n => ?_⟩))
        exact k p _ H1 _ (.newMut sm n) n upd_same (sm.free n) (by rw [List.length_append]; exact hl) (q1.append q2)
  · cases h
theorem v_ii {C : Int → Int → Prop} {g : Int → Int → V} {f : PyData → PyData → Option PyData} (h : ∀ d e c, f d e = some c → ∃ i j, d = .int i ∧ e = .int j ∧ C i j ∧ ∀ (H : Hp), Den K H (g i j) c) : V2 K (rI C g) f := by
  intro x y d e c H1 H Q sm dx dy hf k
  obtain ⟨i, j, rfl, rfl, hc, q⟩ := h d e c hf
  cases dx
  cases dy
  exact ⟨i, j, rfl, rfl, hc, k _ H1 H (.refl sm) (q H1)⟩
theorem v_ii0 {g : Int → Int → V} {f : PyData → PyData → Option PyData} (h : ∀ d e c, f d e = some c → ∃ i j, d = .int i ∧ e = .int j ∧ ∀ (H : Hp), Den K H (g i j) c) : V2 K (rI0 g) f := by
  intro x y d e c H1 H Q sm dx dy hf k
  obtain ⟨i, j, rfl, rfl, q⟩ := h d e c hf
  cases dx
  cases dy
  exact ⟨i, j, rfl, rfl, k _ H1 H (.refl sm) (q H1)⟩
theorem v_sub : V2 K (rI0 fun i j => .int (i - j)) subD := v_ii0 fun d e c h => by
  unfold subD at h
  split at h
  · cases h; exact ⟨_, _, rfl, rfl, fun _ => .int _⟩
  · cases h
theorem v_lt : V2 K (rI0 fun i j => .bl (decide (i < j))) ltD := v_ii0 fun d e c h => by
  unfold ltD at h
  split at h
  · cases h; exact ⟨_, _, rfl, rfl, fun _ => .bl _⟩
  · cases h
theorem v_le : V2 K (rI0 fun i j => .bl (decide (i ≤ j))) leD := v_ii0 fun d e c h => by
  unfold leD at h
  split at h
  · cases h; exact ⟨_, _, rfl, rfl, fun _ => .bl _⟩
  · cases h
theorem v_gt : V2 K (rI0 fun i j => .bl (decide (j < i))) gtD := v_ii0 fun d e c h => by
  unfold gtD at h
  split at h
  · cases h; exact ⟨_, _, rfl, rfl, fun _ => .bl _⟩
  · cases h
theorem v_ge : V2 K (rI0 fun i j => .bl (decide (j ≤ i))) geD := v_ii0 fun d e c h => by
  unfold geD at h
  split at h
  · cases h; exact ⟨_, _, rfl, rfl, fun _ => .bl _⟩
  · cases h
theorem v_mod : V2 K (rI (fun _ j => 0 < j) fun i j => .int (i % j)) modD := v_ii fun d e c h => by
  unfold modD at h
  split at h
  · obtain ⟨hc, rfl⟩ := of_if h; exact ⟨_, _, rfl, rfl, hc, fun _ => .int _⟩
  · cases h
theorem v_fdiv : V2 K (rI CDiv fun i j => .int (i / j)) fdivD := v_ii fun d e c h => by
  unfold fdivD at h
  split at h
  · obtain ⟨hc, rfl⟩ := of_if h; exact ⟨_, _, rfl, rfl, ⟨hc.1, by omega⟩, fun _ => .int _⟩
  · cases h
theorem cMul_ok {i j : Int} (h : cMul i j = true) : CMul i j := by
  unfold cMul at h
  simp only [Bool.or_eq_true, decide_eq_true_eq] at h
  unfold CMul
  omega
/-- * of ints, a tuple times an int -/
def rMulA (K : PySem.W.Frag) : R2 := fun x y H Q => rI CMul (fun i j => .int (i * j)) x y H Q ∨ rRepT K x y H Q
theorem op_mulA : OpR X (binaryOp .Mult) (rMulA X.K) := op_mul.or op_repT
def mulD2 : PyData → PyData → Option PyData
  | .int i, .int j => if cMul i j = true then some (.int (i * j)) else none
  | .tuple a, .int k => if False ∧ a.isEmpty = false ∧ 2 ≤ k.toNat ∧ k.toNat ≤ 1000 ∧ a.length ≤ 1000 then some (.tuple (List.replicate k.toNat a).flatten) else none
  | _, _ => none
theorem rep_len {α : Type} (a : List α) (n : Nat) : (List.replicate n a).flatten.length = n * a.length := by
  rw [PyProof.Rows.lm_len_rep_flat]
theorem v_mul : V2 K (rMulA K) mulD2 := by
  intro x y d e c H1 H Q sm dx dy h k
  unfold mulD2 at h
  split at h
  · obtain ⟨hc, rfl⟩ := of_if h
    cases dx
    cases dy
    exact .inl ⟨_, _, rfl, rfl, cMul_ok hc, k _ H1 H (.refl sm) (.int _)⟩
  · obtain ⟨⟨h0, h1, h2, h3, h4⟩, rfl⟩ := of_if h
    cases dx with
    | tup hs hl dl =>
      cases dy
      rename_i a kk A xs
      have hx : xs.length = a.length := dl.length
      refine .inr ⟨_, _, _, rfl, rfl, sqT_mono sm hs, fun e => ?_, by omega, by omega, by rw [hx]; exact h4, fun p n => ?_⟩
      · subst e
        cases dl
        cases h1
      · have hlen : (List.replicate kk.toNat a).flatten.length ≤ sizeLine := by
          rw [rep_len, sizeLine_eq]
          have := Nat.mul_le_mul (show kk.toNat ≤ 1000 by omega) h4
          omega
        exact h0.elim
  · cases h
theorem v_neg : V1 K (rU fun i => .int (-i)) negD := by
  intro x d c H1 H Q sm dx h k
  unfold negD at h
  split at h
  · cases h
    cases dx
    exact ⟨_, rfl, k _ H1 H (.refl sm) (.int _)⟩
  · cases h
theorem good_lay {d : PyData} (h : good d = true) : d.canLay0 = true := (Bool.and_eq_true_iff.mp h).1
theorem good_depth {d : PyData} (h : good d = true) : d.depth ≤ 60 := of_decide_eq_true (Bool.and_eq_true_iff.mp h).2
theorem good_shaped {d : PyData} (h : good d = true) : SeqAt.shaped d = true := by
  unfold SeqAt.shaped
  rw [good_lay h, Bool.true_and]
  exact decide_eq_true (Nat.le_trans (good_depth h) (by decide))
theorem v_eq : V2 K (rEqD K) eqD := by
  intro x y d e c H1 H Q sm dx dy h k
  obtain ⟨hg, rfl⟩ := of_if h
  rw [Bool.and_eq_true] at hg
  exact ⟨d, e, Den.dp _ _ (Den.mono sm _ _ dx), Den.dp _ _ (Den.mono sm _ _ dy), good_shaped hg.1, good_shaped hg.2, k _ H1 H (.refl sm) (.bl _)⟩
theorem v_ne : V2 K (rNeD K) neD := by
  intro x y d e c H1 H Q sm dx dy h k
  obtain ⟨hg, rfl⟩ := of_if h
  rw [Bool.and_eq_true] at hg
  exact ⟨d, e, Den.dp _ _ (Den.mono sm _ _ dx), Den.dp _ _ (Den.mono sm _ _ dy), good_shaped hg.1, good_shaped hg.2, k _ H1 H (.refl sm) (.bl _)⟩
def rInA (K : PySem.W.Frag) : R2 := fun x y H Q => ∃ d ds, Dp K H x d ∧ (Dp K H y (.list ds) ∨ Dp K H y (.tuple ds)) ∧ good d = true ∧ PyData.canLayAll0 ds = true ∧ PyData.depthAll ds ≤ 60 ∧ Q (.bl (ds.any fun z => PyData.eqv z d)) H
def rNinA (K : PySem.W.Frag) : R2 := fun x y H Q => ∃ d ds, Dp K H x d ∧ (Dp K H y (.list ds) ∨ Dp K H y (.tuple ds)) ∧ good d = true ∧ PyData.canLayAll0 ds = true ∧ PyData.depthAll ds ≤ 60 ∧ Q (.bl (!ds.any fun z => PyData.eqv z d)) H
theorem op_inA (hu : X.A.units + 64 < cLine) : OpR X (compareOp .In) (rInA X.K) := by
  intro pins s σ H x y v u Q I rx ry h
  obtain ⟨d, ds, hd, he, sd, c1, c2, q⟩ := h
  obtain ⟨as, r1⟩ := Dp.reads I d x v hd rx
  have hr : X.A.units + 1 + min (PyData.depthAll ds) d.depth < cLine := by
    have := Nat.min_le_left (PyData.depthAll ds) d.depth
    omega
  rcases he with he | he
  · obtain ⟨bs, r2⟩ := Dp.reads I (.list ds) y u he ry
    exact SeqAt.in_list_reads r2 r1 c1 (good_lay sd) hr ⟨.bl _, H, I, rfl, q⟩
  · obtain ⟨bs, r2⟩ := Dp.reads I (.tuple ds) y u he ry
    exact SeqAt.in_tuple_reads r2 r1 c1 (good_lay sd) hr ⟨.bl _, H, I, rfl, q⟩
theorem op_ninA (hu : X.A.units + 64 < cLine) : OpR X (compareOp .NotIn) (rNinA X.K) := by
  intro pins s σ H x y v u Q I rx ry h
  obtain ⟨d, ds, hd, he, sd, c1, c2, q⟩ := h
  obtain ⟨as, r1⟩ := Dp.reads I d x v hd rx
  have hr : X.A.units + 1 + min (PyData.depthAll ds) d.depth < cLine := by
    have := Nat.min_le_left (PyData.depthAll ds) d.depth
    omega
  rcases he with he | he
  · obtain ⟨bs, r2⟩ := Dp.reads I (.list ds) y u he ry
    exact SeqAt.notIn_list_reads r2 r1 c1 (good_lay sd) hr ⟨.bl _, H, I, rfl, q⟩
  · obtain ⟨bs, r2⟩ := Dp.reads I (.tuple ds) y u he ry
    exact SeqAt.notIn_tuple_reads r2 r1 c1 (good_lay sd) hr ⟨.bl _, H, I, rfl, q⟩
theorem v_in : V2 K (rInA K) inD := by
  intro x y d e c H1 H Q sm dx dy h k
  unfold inD at h
  split at h
  · rename_i hg
    rw [Bool.and_eq_true] at hg
    have dy' := Den.dp _ _ (Den.mono sm _ _ dy)
    have gl := good_lay hg.2
    have gd := good_depth hg.2
    split at h
    · cases h
      exact ⟨d, _, Den.dp _ _ (Den.mono sm _ _ dx), .inl dy', hg.1, by simpa only [PyData.canLay0] using gl, by simp only [PyData.depth] at gd; omega, k _ H1 H (.refl sm) (.bl _)⟩
    · cases h
      exact ⟨d, _, Den.dp _ _ (Den.mono sm _ _ dx), .inr dy', hg.1, by simpa only [PyData.canLay0] using gl, by simp only [PyData.depth] at gd; omega, k _ H1 H (.refl sm) (.bl _)⟩
    · cases h
  · cases h
theorem v_nin : V2 K (rNinA K) ninD := by
  intro x y d e c H1 H Q sm dx dy h k
  unfold ninD at h
  split at h
  · rename_i hg
    rw [Bool.and_eq_true] at hg
    have dy' := Den.dp _ _ (Den.mono sm _ _ dy)
    have gl := good_lay hg.2
    have gd := good_depth hg.2
    split at h
    · cases h
      exact ⟨d, _, Den.dp _ _ (Den.mono sm _ _ dx), .inl dy', hg.1, by simpa only [PyData.canLay0] using gl, by simp only [PyData.depth] at gd; omega, k _ H1 H (.refl sm) (.bl _)⟩
    · cases h
      exact ⟨d, _, Den.dp _ _ (Den.mono sm _ _ dx), .inr dy', hg.1, by simpa only [PyData.canLay0] using gl, by simp only [PyData.depth] at gd; omega, k _ H1 H (.refl sm) (.bl _)⟩
    · cases h
  · cases h
theorem den_non {H : Hp} {v : V} {d : PyData} (h : Den K H v d) : decide (v = .non) = isNonB d := by
  cases h <;> rfl
theorem v_isN : V2 K (fun x y H Q => y = .non ∧ Q (.bl (decide (x = .non))) H) isN := by
  intro x y d e c H1 H Q sm dx dy h k
  obtain ⟨hn, rfl⟩ := of_if h
  cases dy <;> try (cases hn)
  refine ⟨rfl, ?_⟩
  rw [den_non dx]
  exact k _ H1 H (.refl sm) (.bl _)
theorem v_notN : V2 K (fun x y H Q => y = .non ∧ Q (.bl (!decide (x = .non))) H) notN := by
  intro x y d e c H1 H Q sm dx dy h k
  obtain ⟨hn, rfl⟩ := of_if h
  cases dy <;> try (cases hn)
  refine ⟨rfl, ?_⟩
  rw [den_non dx]
  exact k _ H1 H (.refl sm) (.bl _)

/-! ### built-ins on data -/
def lenD : List PyData → Option PyData
  | [.list ds] => some (.int ds.length)
  | [.tuple ds] => some (.int ds.length)
  | [.str z] => if z.length ≤ sizeLine then some (.int z.length) else none
  | _ => none
theorem v_len : VN K (fun xs H Q => ∃ x n, xs = [x] ∧ LenV K x H n ∧ Q (.int n) H) lenD := by
  intro xs ds c H1 H Q sm dl h k
  unfold lenD at h
  split at h
  · cases h
    cases dl with
    | cons d1 d2 =>
      cases d2
      cases d1 with
      | lst hs hl dl => exact ⟨_, _, rfl, .inl ⟨_, sm.seq hs, dl.length.symm⟩, k _ H1 H (.refl sm) (.int _)⟩
  · cases h
    cases dl with
    | cons d1 d2 =>
      cases d2
      cases d1 with
      | tup hs hl dl => exact ⟨_, _, rfl, .inr ⟨_, sqT_mono sm hs, dl.length.symm⟩, k _ H1 H (.refl sm) (.int _)⟩
  · obtain ⟨hz, rfl⟩ := of_if h
    cases dl with
    | cons d1 d2 =>
      cases d2
      cases d1
      exact ⟨_, _, rfl, ⟨hz, rfl⟩, k _ H1 H (.refl sm) (.int _)⟩
  · cases h
def maxD2 : List PyData → Option PyData
  | [.int i, .int j] => some (.int (if j > i then j else i))
  | _ => none
def minD2 : List PyData → Option PyData
  | [.int i, .int j] => some (.int (if j < i then j else i))
  | _ => none
theorem v_max2 : VN K (fun xs H Q => ∃ i j, xs = [.int i, .int j] ∧ Q (.int (if j > i then j else i)) H) maxD2 := by
  intro xs ds c H1 H Q sm dl h k
  unfold maxD2 at h
  split at h
  · cases h
    cases dl with
    | cons d1 d2 =>
      cases d2 with
      | cons d2 d3 =>
        cases d1
        cases d2
        cases d3
        exact ⟨_, _, rfl, k _ H1 H (.refl sm) (.int _)⟩
  · cases h
theorem v_min2 : VN K (fun xs H Q => ∃ i j, xs = [.int i, .int j] ∧ Q (.int (if j < i then j else i)) H) minD2 := by
  intro xs ds c H1 H Q sm dl h k
  unfold minD2 at h
  split at h
  · cases h
    cases dl with
    | cons d1 d2 =>
      cases d2 with
      | cons d2 d3 =>
        cases d1
        cases d2
        cases d3
        exact ⟨_, _, rfl, k _ H1 H (.refl sm) (.int _)⟩
  · cases h
def tupD : List PyData → Option PyData
  | [.list ds] => some (.tuple ds)
  | [.tuple ds] => some (.tuple ds)
  | _ => none
theorem v_tup : VN K (rTupF K) tupD := by
  intro xs ds c H1 H Q sm dl h k
  unfold tupD at h
  split at h
  · cases h
    cases dl with
    | cons d1 d2 =>
      cases d2
      cases d1 with
      | lst hs hl dl => exact ⟨_, _, rfl, .inl ⟨sm.seq hs, fun p o n bo => k _ _ _ (.new sm n) (.tup (.inl ⟨_, upd_same, bo⟩) hl (DenL.mono (same_new (sm.free n)) _ _ dl))⟩⟩
  · cases h
    cases dl with
    | cons d1 d2 =>
      cases d2
      cases d1 with
      | tup hs hl dl => exact ⟨_, _, rfl, .inr ⟨sqT_mono sm hs, k _ H1 H (.refl sm) (.tup hs hl dl)⟩⟩
  · cases h
def listD : List PyData → Option (List PyData)
  | [.list ds] => some ds
  | [.tuple ds] => some ds
  | _ => none
theorem v_list : VNL K (fun xs H Q => ∃ p ys, xs = [.ref p] ∧ (SqL K H p ys ∨ SqT K H p ys) ∧ ∀ l, H l = none → Q (.ref l) (upd H l (.lst ys))) listD := by
  intro xs ds c H1 H Q sm dl h k
  unfold listD at h
  split at h
  · cases h
    cases dl with
    | cons d1 d2 =>
      cases d2
      cases d1 with
      | lst hs hl dl => exact ⟨_, _, rfl, .inl (sm.seq hs), fun p n => k p _ H1 _ (.newMut sm n) n upd_same (sm.free n) hl dl⟩
  · cases h
    cases dl with
    | cons d1 d2 =>
      cases d2
      cases d1 with
      | tup hs hl dl => exact ⟨_, _, rfl, .inr (sqT_mono sm hs), fun p n => k p _ H1 _ (.newMut sm n) n upd_same (sm.free n) hl dl⟩
  · cases h
/-- a list of truths -/
def bools : List PyData → Option (List Bool)
  | [] => some []
  | .bool b :: ds => (bools ds).map fun bs => b :: bs
  | _ :: _ => none
theorem bools_vals {H : Hp} : ∀ {ds : List PyData} {bs : List Bool} {xs : List V}, bools ds = some bs → DenL K H xs ds → xs = bs.map V.bl
  | [], bs, xs, h, dl => by cases h; cases dl; rfl
  | d :: ds, bs, xs, h, dl => by
    cases dl with
    | cons d1 d2 =>
      cases d <;> try (cases h)
      obtain ⟨cs, e, rfl⟩ := map_some h
      cases d1
      rw [bools_vals e d2]
      rfl
def allD : List PyData → Option PyData
  | [.list ds] => (bools ds).map fun bs => .bool (bs.all id)
  | _ => none
theorem v_all : VN K (rAll K) allD := by
  intro xs ds c H1 H Q sm dl h k
  unfold allD at h
  split at h
  · obtain ⟨bs, e, rfl⟩ := map_some h
    cases dl with
    | cons d1 d2 =>
      cases d2
      cases d1 with
      | lst hs hl dl =>
        have e2 := bools_vals e dl
        subst e2
        exact ⟨_, bs, rfl, sm.seq hs, k _ H1 H (.refl sm) (.bl _)⟩
  · cases h
/-- a list or tuple of ints -/
def intsD : List PyData → Option (List Int)
  | [] => some []
  | .int b :: ds => (intsD ds).map fun bs => b :: bs
  | _ :: _ => none
theorem intsD_vals {H : Hp} : ∀ {ds : List PyData} {bs : List Int} {xs : List V}, intsD ds = some bs → DenL K H xs ds → xs = bs.map V.int
  | [], bs, xs, h, dl => by cases h; cases dl; rfl
  | d :: ds, bs, xs, h, dl => by
    cases dl with
    | cons d1 d2 =>
      cases d <;> try (cases h)
      obtain ⟨cs, e, rfl⟩ := map_some h
      cases d1
      rw [intsD_vals e d2]
      rfl
theorem intsD_map : ∀ ns : List Int, intsD (ns.map PyData.int) = some ns
  | [] => rfl
  | n :: ns => by
    show (intsD (ns.map PyData.int)).map (fun bs => n :: bs) = _
    rw [intsD_map ns]
    rfl
def int1D : List PyData → Option PyData
  | [.int i] => some (.int i)
  | [.bool b] => some (.int (if b then 1 else 0))
  | _ => none
theorem v_int1 : VN K (fun xs H Q => (∃ i, xs = [.int i] ∧ Q (.int i) H) ∨ ∃ k, xs = [.bl k] ∧ Q (.int (if k then 1 else 0)) H) int1D := by
  intro xs ds c H1 H Q sm dl h k
  unfold int1D at h
  split at h
  · cases h
    cases dl with
    | cons d1 d2 =>
      cases d2
      cases d1
      exact .inl ⟨_, rfl, k _ H1 H (.refl sm) (.int _)⟩
  · cases h
    cases dl with
    | cons d1 d2 =>
      cases d2
      cases d1
      exact .inr ⟨_, rfl, k _ H1 H (.refl sm) (.int _)⟩
  · cases h
/-! ### a[i] -/
def idxD : PyData → PyData → Option PyData
  | .list ds, .int i => atI ds i
  | .tuple ds, .int i => atI ds i
  | .str z, .int i => if z.length ≤ sizeLine then (atI z.cps.toList i).map fun c => .str ⟨#[c]⟩ else none
  | _, _ => none
theorem DenL.at {H : Hp} {xs : List V} {ds : List PyData} {i : Int} {c : PyData} (dl : DenL K H xs ds) (h : atI ds i = some c) : ∃ v, atI xs i = some v ∧ Den K H v c := by
  unfold atI at h
  obtain ⟨j, e1, e2⟩ := bind_some h
  obtain ⟨v, q1, q2⟩ := dl.get e2
  refine ⟨v, ?_, q2⟩
  unfold atI
  rw [dl.length, e1]
  exact q1
theorem v_idx : V2 K (rIx K) idxD := by
  intro x y d e c H1 H Q sm dx dy h k
  unfold idxD at h
  split at h
  · cases dx with
    | lst hs hl dl =>
      cases dy
      obtain ⟨v, q1, q2⟩ := dl.at h
      exact .inl ⟨_, _, _, _, rfl, rfl, sm.seq hs, q1, k _ H1 H (.refl sm) q2⟩
  · cases dx with
    | tup hs hl dl =>
      cases dy
      obtain ⟨v, q1, q2⟩ := dl.at h
      exact .inr (.inl ⟨_, _, _, _, rfl, rfl, sqT_mono sm hs, q1, k _ H1 H (.refl sm) q2⟩)
  · split at h
    · rename_i hz
      obtain ⟨cc, q1, rfl⟩ := map_some h
      cases dx
      cases dy
      exact .inr (.inr ⟨_, _, _, rfl, rfl, hz, q1, k _ H1 H (.refl sm) (.str _)⟩)
    · cases h
  · cases h
end
section
variable {X : Cx} {a b c e lo hi : Expr} {es : List Expr} {fa fb fc f fl fh : En → Option PyData} {fs : En → Option (List PyData)} {pos p p2 : Pos} {x : Str} {tg : Expr} {tf : En → Option Bool}
theorem de_ix (ha : DE X a fa) (hb : DE X b fb) (hs : PlainIx b := by exact fun _ _ => rfl) : DE X (.Subscript a b pos) (e2 idxD fa fb) := by
  obtain ⟨ta, pa, qa⟩ := ha
  obtain ⟨tb, pb, qb⟩ := hb
  refine ⟨_, pe_ix ix_seq pa pb hs, fun σ H1 H ρ d Q s h k => ?_⟩
  obtain ⟨d1, h1, h⟩ := bind_some h
  obtain ⟨d2, h2, h⟩ := bind_some h
  exact two qa qb s h1 h2 fun x y H1' H' x1 q1 q2 => v_idx x y d1 d2 d H1' H' Q x1.sub q1 q2 h fun v H2 H2' x2 => k v H2 H2' (x1.trans x2)
/-! ### slices -/
def asI : PyData → Option (Option Int)
  | .int i => some (some i)
  | _ => none
def oNo : En → Option (Option Int) := fun _ => some none
def oSo (f : En → Option PyData) : En → Option (Option Int) := fun ρ => (f ρ).bind asI
def DO (X : Cx) (e : Option Expr) (f : En → Option (Option Int)) : Prop :=
  ∃ t, PO X e t ∧ ∀ (σ : L2.St) (H1 H : Hp) (ρ : En) (d : Option Int) (Q : Option Int → Hp → Prop), Sok X.K H1 H σ ρ → f ρ = some d → (∀ H1' H', Ext H1 H H1' H' → Q d H') → t σ H Q
theorem do_no : DO X none oNo := ⟨_, po_none, fun σ H1 H ρ d Q s h k => by cases h; exact k H1 H (.refl s.sub)⟩
theorem do_so (h : DE X e f) : DO X (some e) (oSo f) := by
  obtain ⟨t, p, q⟩ := h
  refine ⟨_, po_some p, fun σ H1 H ρ d Q s h k => ?_⟩
  obtain ⟨d1, h1, h⟩ := bind_some h
  cases d1 <;> try (cases h)
  refine q σ H1 H ρ _ _ s h1 fun v H1' H' x dv => ?_
  cases dv
  exact ⟨_, rfl, k _ _ x⟩
def cutD {α : Type} (xs : List α) (lo hi : Option Int) : List α := (xs.drop (HT.sIx xs.length 0 lo)).take (HT.sIx xs.length xs.length hi - HT.sIx xs.length 0 lo)
theorem cutD_len {α : Type} (xs : List α) (lo hi : Option Int) : (cutD xs lo hi).length ≤ xs.length := by
  unfold cutD
  rw [List.length_take, List.length_drop]
  omega
theorem DenL.cut {K : PySem.W.Frag} {H : Hp} {xs : List V} {ds : List PyData} (dl : DenL K H xs ds) (lo hi : Option Int) : DenL K H (cutV xs lo hi) (cutD ds lo hi) := by
  unfold cutV cutD
  rw [dl.length]
  exact (dl.drop _).take _
def slD (lo hi : Option Int) : PyData → Option PyData
  | .list ds => some (.list (cutD ds lo hi))
  | .tuple ds => some (.tuple (cutD ds lo hi))
  | .str z => if z.length ≤ sizeLine then some (.str (cutS z lo hi)) else none
  | _ => none
def eSl (f : En → Option PyData) (l h : En → Option (Option Int)) : En → Option PyData := fun ρ => (f ρ).bind fun d => (l ρ).bind fun lo => (h ρ).bind fun hi => slD lo hi d
def rSlAll (K : PySem.W.Frag) : V → Option Int → Option Int → Hp → VK → Prop := fun x lo hi H Q => rSlL K x lo hi H Q ∨ rSlF K x lo hi H Q ∨ rSlS x lo hi H Q
theorem sl_all : SlR X (rSlAll X.K) := sl_list.or (sl_tupF.or sl_str)
theorem v_sl {K : PySem.W.Frag} {x : V} {d c : PyData} {lo hi : Option Int} {H1 H : Hp} {Q : VK} (sm : Same H1 H) (dx : Den K H1 x d) (h : slD lo hi d = some c) (k : ∀ v H1' H', Ext H1 H H1' H' → Den K H1' v c → Q v H') : rSlAll K x lo hi H Q := by
  unfold slD at h
  split at h
  · cases h
    cases dx with
    | lst hs hl dl => exact .inl ⟨_, _, rfl, sm.seq hs, fun p n => k _ _ _ (.new sm n) (.lst (.of upd_same) (Nat.le_trans (cutD_len _ _ _) hl) (DenL.mono (same_new (sm.free n)) _ _ (dl.cut lo hi)))⟩
  · cases h
    cases dx with
    | tup hs hl dl =>
      refine .inr (.inl ⟨_, _, rfl, sqT_mono sm hs, fun hw => ?_, fun _ p o n bo => k _ _ _ (.new sm n) (.tup (.inl ⟨_, upd_same, bo⟩) (Nat.le_trans (cutD_len _ _ _) hl) (DenL.mono (same_new (sm.free n)) _ _ (dl.cut lo hi)))⟩)
      refine k _ H1 H (.refl sm) ?_
      rename_i ds A xs
      have hx : xs.length = ds.length := dl.length
      rw [hx] at hw
      have e : cutD ds lo hi = ds := by
        unfold cutD
        rw [hw.1, hw.2, List.drop_zero, Nat.sub_zero, List.take_length]
      rw [e]
      exact .tup hs hl dl
  · obtain ⟨hz, rfl⟩ := of_if h
    cases dx
    exact .inr (.inr ⟨_, rfl, hz, k _ H1 H (.refl sm) (.str _)⟩)
  · cases h
theorem de_sl {olo ohi : Option Expr} {gl gh : En → Option (Option Int)} (he : DE X e f) (hl : DO X olo gl) (hu : DO X ohi gh) : DE X (.Subscript e (.Slice olo ohi none p2) pos) (eSl f gl gh) := by
  obtain ⟨t, pt, q⟩ := he
  obtain ⟨tl, pl, ql⟩ := hl
  obtain ⟨th, ph, qh⟩ := hu
  refine ⟨_, pe_slice sl_all pt pl ph, fun σ H1 H ρ d Q s h k => ?_⟩
  obtain ⟨d1, h1, h⟩ := bind_some h
  obtain ⟨lo, h2, h⟩ := bind_some h
  obtain ⟨hi, h3, h⟩ := bind_some h
  refine q σ H1 H ρ d1 _ s h1 fun v H1' H' x dv => ql σ H1' H' ρ lo _ (s.ext x) h2 fun H2 H2' x2 => qh σ H2 H2' ρ hi _ ((s.ext x).ext x2) h3 fun H3 H3' x3 => ?_
  have x4 := (x.trans x2).trans x3
  exact v_sl x3.sub (Den.mono (x2.st.trans x3.st) _ _ dv) h fun w H4 H4' x5 dw => k w H4 H4' (x4.trans x5) dw

/-! ### isinstance -/
def tyN : PyData → String
  | .none => "NoneType"
  | .bool _ => "bool"
  | .int _ => "int"
  | .str _ => "str"
  | .list _ => "list"
  | .tuple _ => "tuple"
  | .dict _ => "dict"
theorem Den.tyX {K : PySem.W.Frag} {H : Hp} {v : V} {d : PyData} (h : Den K H v d) : TyX K H v (.type (tyN d)) := by
  cases h with
  | non => exact .base .non
  | bl b => exact .base (.bl b)
  | int i => exact .base (.int i)
  | str x => exact .base (.str x)
  | lst hs _ _ =>
    rcases hs with (h | ⟨o, h⟩) | ⟨o, its, n, h, c, _⟩
    · exact .base (.lst h)
    · exact .base (.frz h)
    · exact .kList h c
  | tup hs _ _ =>
    rcases hs with ⟨o, h, _⟩ | ⟨o, its, n, h, c, _⟩
    · exact .fTuple h
    · exact .kTuple h c
def isiD (T : String) (d : PyData) : Option PyData := (kitB (tyN d) T).map PyData.bool
theorem de_isi {T : String} {pT : Pos} {y : Str} (he : DE X e f) (hg : Gl X "isinstance") (hm : X.mg "isinstance" = none) (hgT : Gl X y) (hmT : X.mg y = none) (hvT : bootBuiltins y = some (.type T)) (hn : y ≠ "__name__" := by decide) (hd : (y == ("__debug__" : Str)) = false := by decide)
    (hst : starEach (e :: [.Name y pT]) X.env = (false, eval e X.env) :: starEach [.Name y pT] X.env := by rfl) (hst2 : starEach (.Name y pT :: []) X.env = (false, eval (.Name y pT) X.env) :: starEach [] X.env := by rfl) (hpl : (backTo pos (starEach [.Name y pT] X.env)).any (·.1) = false := by rfl) :
    DE X (.Call (.Name "isinstance" p) [e, .Name y pT] [] pos) (e1 (isiD T) f) := by
  obtain ⟨t, pt, q⟩ := he
  refine ⟨_, pe_callB call_isi hg hm (by decide +kernel) (pa_cons pt (pa_cons (pe_bltn (v := .ty T) hgT hmT hvT rfl hn hd) pa_nil hst2) hst) (he := hst) (hpl := hpl), fun σ H1 H ρ d Q s h k => ?_⟩
  obtain ⟨d1, h1, h⟩ := bind_some h
  obtain ⟨b, h2, rfl⟩ := map_some h
  refine q σ H1 H ρ d1 _ s h1 fun v H1' H' x dv => ?_
  exact ⟨v, .ty T, .type (tyN d1), .type T, b, rfl, .ty T, Den.tyX (Den.mono x.sub _ _ dv), kit_ty h2, k _ _ _ x (.bl b)⟩

/-! ### range(..) as a list, a tuple -/
theorem rgV_den {K : PySem.W.Frag} {H : Hp} (a b : Int) : DenL K H (rgV a b) (rng a (b - a).toNat) := by
  unfold rgV rng
  generalize List.range (b - a).toNat = l
  induction l with
  | nil => exact .nil
  | cons i l ih => exact .cons (.int _) ih
def rgOkB (a b : Int) : Bool := decide (a.natAbs ≤ 4194304) && decide (b.natAbs ≤ 4194304)
theorem rgOkB_ok {a b : Int} (h : rgOkB a b = true) : RgOk a b ∧ (b - a).toNat ≤ sizeLine := by
  unfold rgOkB at h
  simp only [Bool.and_eq_true, decide_eq_true_eq] at h
  rw [sizeLine_eq]
  exact ⟨⟨by omega, by omega, by omega, by omega, by omega⟩, by omega⟩
def rngD1 : PyData → Option (List PyData)
  | .int n => if rgOkB 0 n = true then some (rng 0 (n - 0).toNat) else none
  | _ => none
def eRg1 (f : En → Option PyData) : En → Option (List PyData) := fun ρ => (f ρ).bind rngD1
theorem dl_listRg {p1 p2 : Pos} (hc : X.calm = true) (hg : Gl X "list") (hm : X.mg "list" = none) (hg2 : Gl X "range") (hm2 : X.mg "range" = none) (ha : DE X a fa) (na : starEach [a] X.env = (false, eval a X.env) :: starEach [] X.env := by rfl)
    (nb : starEach [.Call (.Name "range" p1) [a] [] p2] X.env = (false, eval (.Call (.Name "range" p1) [a] [] p2) X.env) :: starEach [] X.env := by rfl) : DL X (.Call (.Name "list" p) [.Call (.Name "range" p1) [a] [] p2] [] pos) (eRg1 fa) := by
  obtain ⟨t, pt, q⟩ := ha
  refine ⟨_, pe_listRg hc hg hm (prg_1 hg2 hm2 pt na) nb, fun σ H1 H ρ d Q s h k => ?_⟩
  obtain ⟨d1, h1, h⟩ := bind_some h
  cases d1 <;> try (cases h)
  obtain ⟨hr, rfl⟩ := of_if h
  refine q σ H1 H ρ _ _ s h1 fun v H1' H' x dv => ?_
  cases dv
  obtain ⟨r1, r2⟩ := rgOkB_ok hr
  exact ⟨_, rfl, r1, fun p n => k p _ H1' _ (x.trans (.newMut x.sub n)) ((Ext.same s.sub x).free n) upd_same (x.sub.free n) (by rw [rng_len]; exact r2) (rgV_den _ _)⟩
def eRg1T (f : En → Option PyData) : En → Option PyData := fun ρ => (eRg1 f ρ).map PyData.tuple
theorem de_tupRg {p1 p2 : Pos} (hc : X.calm = true) (hg : Gl X "tuple") (hm : X.mg "tuple" = none) (hg2 : Gl X "range") (hm2 : X.mg "range" = none) (ha : DE X a fa) (na : starEach [a] X.env = (false, eval a X.env) :: starEach [] X.env := by rfl)
    (nb : starEach [.Call (.Name "range" p1) [a] [] p2] X.env = (false, eval (.Call (.Name "range" p1) [a] [] p2) X.env) :: starEach [] X.env := by rfl) : DE X (.Call (.Name "tuple" p) [.Call (.Name "range" p1) [a] [] p2] [] pos) (eRg1T fa) := by
  obtain ⟨t, pt, q⟩ := ha
  refine ⟨_, pe_tupRgF hc hg hm (prg_1 hg2 hm2 pt na) nb, fun σ H1 H ρ d Q s h k => ?_⟩
  obtain ⟨rs, h', rfl⟩ := map_some h
  obtain ⟨d1, h1, h⟩ := bind_some h'
  cases d1 <;> try (cases h)
  obtain ⟨hr, rfl⟩ := of_if h
  refine q σ H1 H ρ _ _ s h1 fun v H1' H' x dv => ?_
  cases dv
  obtain ⟨r1, r2⟩ := rgOkB_ok hr
  exact ⟨_, rfl, r1, fun p o n bo => k _ _ _ (x.trans (.new x.sub n)) (.tup (.inl ⟨_, upd_same, bo⟩) (by rw [rng_len]; exact r2) (rgV_den _ _))⟩

/-! ### zip of two lists, of two tuples -/
def zipD : List PyData → List PyData → List PyData
  | a :: as, b :: bs => .tuple [a, b] :: zipD as bs
  | _, _ => []
theorem zipD_get : ∀ {as bs : List PyData} {i : Nat} {d : PyData}, (zipD as bs)[i]? = some d → ∃ a b, d = .tuple [a, b] ∧ as[i]? = some a ∧ bs[i]? = some b
  | [], _, _, _, h => by simp [zipD] at h
  | _ :: _, [], _, _, h => by simp [zipD] at h
  | a :: as, b :: bs, 0, d, h => by
    have e : PyData.tuple [a, b] = d := by simpa [zipD] using h
    exact ⟨a, b, e.symm, rfl, rfl⟩
  | a :: as, b :: bs, i + 1, d, h => zipD_get (as := as) (bs := bs) (i := i) (by simpa [zipD] using h)
theorem zipD_len : ∀ (as bs : List PyData), (zipD as bs).length = min as.length bs.length
  | [], bs => by cases bs <;> simp [zipD]
  | _ :: _, [] => by simp [zipD]
  | a :: as, b :: bs => by
    show (zipD as bs).length + 1 = _
    rw [zipD_len as bs, List.length_cons, List.length_cons]
    omega
def zip2D : List PyData → Option (List PyData)
  | [.tuple a, .tuple b] => some (zipD a b)
  | _ => none
/-- a pair laid by zip, enumerate is data -/
theorem pair_den {K : PySem.W.Frag} {H1 H H' : Hp} {v x y : V} {d e : PyData} (s : Same H1 H) (h : PairAt H v H' x y) (dx : Den K H1 x d) (dy : Den K H1 y e) : ∃ H1'', Ext H1 H H1'' H' ∧ Den K H1'' v (.tuple [d, e]) := by
  obtain ⟨T, o, rfl, n, bo, rfl⟩ := h
  exact ⟨_, .new s n, .tup (.inl ⟨_, upd_same, bo⟩) (by show 2 ≤ sizeLine; decide) (DenL.mono (same_new (s.free n)) _ _ (.cons dx (.cons dy .nil)))⟩
theorem di_zip {elts : List Expr} {kk : Nat} {tpos : Pos} (ha : DA X [a, b] fs) (hg : Gl X "zip") (hm : X.mg "zip" = none) (hs : starEach [a, b] X.env = (false, eval a X.env) :: starEach [b] X.env := by rfl) (hpl : (backTo pos (starEach [b] X.env)).any (·.1) = false := by rfl) :
    DI X (.Tuple elts kk tpos) (.Call (.Name "zip" p) [a, b] [] pos) (eNL zip2D fs) := by
  obtain ⟨t, pt, q⟩ := ha
  refine ⟨_, pi_zipF hg hm pt hs hpl, fun σ H1 H ρ ds R s h k => ?_⟩
  obtain ⟨es, e1, h⟩ := bind_some h
  refine q σ H1 H ρ es _ s e1 fun vs H1' H' x dv => ?_
  unfold zip2D at h
  split at h
  · cases h
    cases dv with
    | cons d1 d2 =>
      cases d2 with
      | cons d2 d3 =>
        cases d3
        cases d1 with
        | tup hs1 hl1 dl1 =>
          cases d2 with
          | tup hs2 hl2 dl2 =>
            refine ⟨_, _, _, _, rfl, sqT_mono x.sub hs1, sqT_mono x.sub hs2, k _ H1' H' x (by rw [zipD_len]; omega) ?_⟩
            intro G1 G s1 s2 i
            have t1 := sqT_mono (s1.trans s2) hs1
            have t2 := sqT_mono (s1.trans s2) hs2
            refine ⟨fun d e => ?_, fun l => ⟨_, _, t1, t2, by rw [zipD_len, ← dl1.length, ← dl2.length] at l; omega⟩⟩
            obtain ⟨u, w, rfl, q1, q2⟩ := zipD_get e
            obtain ⟨v1, g1, z1⟩ := dl1.get q1
            obtain ⟨v2, g2, z2⟩ := dl2.get q2
            refine ⟨⟨_, _, v1, v2, t1, t2, g1, g2⟩, fun y G' ⟨y1, y2, pa, f1, f2⟩ => ?_⟩
            have b1 := f1 _ t1
            have b2 := f2 _ t2
            rw [g1] at b1
            rw [g2] at b2
            cases b1
            cases b2
            exact pair_den s2 pa (Den.mono s1 _ _ z1) (Den.mono s1 _ _ z2)
  · cases h

/-! ### lists that the def changes, read -/
def eLenM (i : Nat) : En → Option PyData := fun ρ => match ρ[i]? with
  | some (some (.ml ds)) => some (.int ds.length)
  | _ => none
def eIdxM (i : Nat) (f : En → Option PyData) : En → Option PyData := fun ρ => (f ρ).bind fun k => match k, ρ[i]? with
  | .int n, some (some (.ml ds)) => atI ds n
  | _, _ => none
def eTupM (i : Nat) : En → Option PyData := fun ρ => match ρ[i]? with
  | some (some (.ml ds)) => some (.tuple ds)
  | _ => none
theorem de_idxM (i : Nat) {x : Str} {px : Pos} (hb : DE X b fb) (hN : X.N[i]? = some x := by rfl) (hv : Vis X.env.scope x := by first | exact Or.inl rfl | exact Or.inr (Or.inl rfl) | exact Or.inr (Or.inr rfl)) (hd : (x == ("__debug__" : Str)) = false := by decide)
    (hcd : (x == ("__classdict__" : Str)) = false := by decide) (hs : PlainIx b := by exact fun _ _ => rfl) : DE X (.Subscript (.Name x px) b pos) (eIdxM i fb) := by
  obtain ⟨tb, pb, qb⟩ := hb
  refine ⟨_, pe_ix ix_list (pe_var hN hv hd hcd) pb hs, fun σ H1 H ρ d Q s h k => ?_⟩
  obtain ⟨kk, h1, h⟩ := bind_some h
  split at h
  · rename_i n ds em
    obtain ⟨A, vs, eσ, hA, nA, hl, dl⟩ := s.ml em
    refine ⟨_, eσ, qb σ H1 H ρ _ _ s h1 fun w H1' H' x dw => ?_⟩
    cases dw
    obtain ⟨nA', hA'⟩ := x.fr A _ hA nA
    obtain ⟨v, q1, q2⟩ := (DenL.mono x.st _ _ dl).at h
    exact ⟨A, vs, n, v, rfl, rfl, .of hA', q1, k v _ _ x q2⟩
  · cases h
theorem de_lenM (i : Nat) {x : Str} {px : Pos} (hg : Gl X "len") (hm : X.mg "len" = none) (hN : X.N[i]? = some x := by rfl) (hv : Vis X.env.scope x := by first | exact Or.inl rfl | exact Or.inr (Or.inl rfl) | exact Or.inr (Or.inr rfl)) (hd : (x == ("__debug__" : Str)) = false := by decide)
    (hcd : (x == ("__classdict__" : Str)) = false := by decide) (hst : starEach (.Name x px :: []) X.env = (false, eval (.Name x px) X.env) :: starEach [] X.env := by rfl) (hpl : (backTo pos (starEach [] X.env)).any (·.1) = false := by rfl) : DE X (.Call (.Name "len" p) [.Name x px] [] pos) (eLenM i) := by
  refine ⟨_, pe_callB call_len_seq hg hm PySem.boot_len (pa_cons (pe_var hN hv hd hcd) pa_nil hst) (he := hst) (hpl := hpl), fun σ H1 H ρ d Q s h k => ?_⟩
  unfold eLenM at h
  split at h
  · rename_i ds em
    cases h
    obtain ⟨A, vs, eσ, hA, nA, hl, dl⟩ := s.ml em
    refine ⟨_, eσ, A, vs, rfl, .inl (.of hA), ?_⟩
    rw [dl.length]
    exact k _ H1 H (.refl s.sub) (.int _)
  · cases h
theorem de_tupM (i : Nat) {x : Str} {px : Pos} (hg : Gl X "tuple") (hm : X.mg "tuple" = none) (hN : X.N[i]? = some x := by rfl) (hv : Vis X.env.scope x := by first | exact Or.inl rfl | exact Or.inr (Or.inl rfl) | exact Or.inr (Or.inr rfl)) (hd : (x == ("__debug__" : Str)) = false := by decide)
    (hcd : (x == ("__classdict__" : Str)) = false := by decide) (hst : starEach (.Name x px :: []) X.env = (false, eval (.Name x px) X.env) :: starEach [] X.env := by rfl) (hpl : (backTo pos (starEach [] X.env)).any (·.1) = false := by rfl) : DE X (.Call (.Name "tuple" p) [.Name x px] [] pos) (eTupM i) := by
  refine ⟨_, pe_callTy call_tuple_ofF hg hm boot_tuple (pa_cons (pe_var hN hv hd hcd) pa_nil hst) (he := hst) (hpl := hpl), fun σ H1 H ρ d Q s h k => ?_⟩
  unfold eTupM at h
  split at h
  · rename_i ds em
    cases h
    obtain ⟨A, vs, eσ, hA, nA, hl, dl⟩ := s.ml em
    refine ⟨_, eσ, A, vs, rfl, .inl ⟨.of hA, fun p o n bo => ?_⟩⟩
    exact k _ _ _ (.new s.sub n) (.tup (.inl ⟨_, upd_same, bo⟩) hl (DenL.mono (same_new (s.sub.free n)) _ _ dl))
  · cases h
/-- chains a < b < c -/
def eChain (g g' : PyData → PyData → Option PyData) (fa fb fc : En → Option PyData) : En → Option PyData := fun ρ => (fa ρ).bind fun d => (fb ρ).bind fun e => ((g d e).bind asB).bind fun b => if b = true then (fc ρ).bind fun c => ((g' e c).bind asB).map PyData.bool else some (.bool false)
end
end Dv

namespace Dv
open PySem PySem.Spec PyProof.Rows L2 HT

/-! ### xs[::-1] of a list, of a tuple -/
section
variable {prog : Program} {w : World} {A : Around} {E : Value → Shared → Prop} {s : Shared}
theorem sliceApplied_rev {sl : Addr} {vs : Value} {n : Nat} {Q : Int × Int × Nat → Shared → Prop} (hs : s.heap.IsSliceOf sl .none .none vs) (ps : IsPart vs (some (-1)))
    (h : Q ((n : Int) - 1, -1, n) s) : wpAny (model prog w) A (Builtin.Slice.sliceApplied (.ref sl) (pure (n : Int))) Q E s := by
  obtain ⟨os, hos, hcs, hds⟩ := id hs
  unfold Builtin.Slice.sliceApplied Builtin.Slice.sliceFields
  refine wpAny_bind (wpAny_bind (wpAny_field hos hds (x := .none) rfl (wpAny_bind (wpAny_field hos hds (x := .none) rfl (wpAny_bind (wpAny_field hos hds (x := vs) rfl (wpAny_pure ?_)))))))
  refine wpAny_bind (slicePart_ ps ?_)
  show wpAny _ _ (if ((-1 : Int) == 0) = true then _ else _) _ _ s
  rw [if_neg (by decide)]
  refine wpAny_bind (slicePart_none (wpAny_bind (slicePart_none (wpAny_bind (wpAny_pure ?_)))))
  show wpAny _ _ (pure (((n : Int) - 1, (-1 : Int), Builtin.Slice.slicePlaces ((n : Int) - 1) (-1) (-1)))) _ _ s
  have e : Builtin.Slice.slicePlaces ((n : Int) - 1) (-1) (-1) = n := by
    unfold Builtin.Slice.slicePlaces
    rw [if_neg (by decide)]
    by_cases h0 : (n : Int) - 1 > -1
    · rw [if_pos h0, show (- -1 : Int) = 1 by decide, Int.ediv_one]
      omega
    · rw [if_neg h0]; omega
  rw [e]
  exact wpAny_pure h
theorem pick_rev (xs : Array Value) : ((List.range xs.size).filterMap fun (k : Nat) => xs[((xs.size : Int) - 1 + (k : Int) * (-1)).toNat]?).toArray = xs.toList.reverse.toArray := by
  have e : (fun (k : Nat) => xs[((xs.size : Int) - 1 + (k : Int) * (-1)).toNat]?) = fun (k : Nat) => xs[((xs.size : Int) - 1 + (-1) * (k : Int)).toNat]? := by
    funext k
    rw [Int.mul_comm]
  rw [e]
  have q := PySem.W.krv_pick xs
  unfold slicePick at q
  rw [PySem.W.krv_bounds] at q
  have h2 : sliceRange ((xs.size : Int) - 1) (-1) (-1) = (List.range xs.size).map fun (k : Nat) => ((xs.size : Int) - 1 + (-1) * (k : Int)).toNat := by
    rw [PySem.W.krv_sliceRange]
    apply List.map_congr_left
    intro k hk
    have := List.mem_range.mp hk
    omega
  have q2 : ((sliceRange ((xs.size : Int) - 1) (-1) (-1)).filterMap (xs[·]?)).toArray = xs.toList.reverse.toArray := q
  rw [h2, List.filterMap_map] at q2
  exact q2
theorem getItem_tuple_rev {t sl : Addr} {items : Array Value} {vs : Value} {Q : Value → Shared → Prop} (ht : IsTup s.heap t items) (hs : s.heap.IsSliceOf sl .none .none vs) (ps : IsPart vs (some (-1)))
    (h : Q (.ref s.heap.objs.size) { s with heap := s.heap.push { cls := .type "tuple", data := .seq items.toList.reverse.toArray } })
    (hsz : items.size ≤ sizeLine) : wpAny (model prog w) A (getItem (.ref t) (.ref sl)) Q E s := by
  have htake : sizeOk (.seq items.toList.reverse.toArray) := by
    show items.toList.reverse.toArray.size ≤ sizeLine
    rw [List.size_toArray, List.length_reverse, Array.length_toList]
    exact hsz
  obtain ⟨os, hos, hcs, hds⟩ := id hs
  have hTs : s.TypeIs (.ref sl) "slice" := ⟨os, hos, hcs⟩
  unfold getItem
  try with_reducible refine wpAny_holding ?_
  first | refine wpAny_bind (wpAny_pure ?_) | skip
  refine wpAny_bind (wpAny_sequenceKey ht.typeIs (by decide) ?_)
  refine wpAny_bind (wpAny_callSpecial?_slot (name := Str.ofString "__getitem__") ht.typeIs PyProof.Rows.slot_tuple_getitem
    (wpAny_call_entry PyProof.Rows.slot_tuple_getitem ht.typeIs entry_tuple_getitem ?_ (args_tuple_getitem _ _)))
  show wpAny _ _ (Builtin.Tuple.tupleItemsOf (.ref t) >>= _) _ _ s
  refine wpAny_bind (tupleItemsOf_ ht ?_)
  refine wpAny_bind (wpAny_typeOf hTs ?_)
  rw [if_pos (by decide)]
  refine wpAny_bind (sliceApplied_rev hs ps ?_)
  have hno : ¬ ((((items.size : Int) - 1) == 0 && (-1 : Int) == 1 && items.size == items.size) = true) := by
    rw [show ((-1 : Int) == 1) = false from by decide, Bool.and_false, Bool.false_and]
    exact Bool.false_ne_true
  show wpAny _ _ (if (((items.size : Int) - 1) == 0 && (-1 : Int) == 1 && items.size == items.size) = true then _ else _) _ _ s
  rw [if_neg hno, pick_rev]
  first
    | exact wpAny_bind (m := Builtin.Tuple.tupleExact _) (wpAny_newObj_type (wpAny_pure ⟨_, rfl, wpAny_pure h⟩) htake)
    | exact wpAny_bind (m := Builtin.Tuple.tupleExact _) (wpAny_newObj_type (wpAny_bind (wpAny_pure (wpAny_pure ⟨_, rfl, wpAny_pure h⟩))) htake)
    | exact wpAny_bind (wpAny_bind (m := Builtin.Tuple.tupleExact _) (wpAny_newObj_type (wpAny_pure (wpAny_pure ⟨_, rfl, wpAny_pure h⟩)) htake))
    | exact wpAny_bind (wpAny_bind (m := Builtin.Tuple.tupleExact _) (wpAny_newObj_type (wpAny_pure ⟨_, rfl, wpAny_pure h⟩) htake))
end
section
variable {X : Cx} {a b c e : Expr} {es : List Expr} {fa fb fc f : En → Option PyData} {fs : En → Option (List PyData)} {pos p : Pos} {x : Str} {tg : Expr} {tf : En → Option Bool}
/-- xs[lo::st] of a list by constants, t[::-1] of a tuple -/
def stepL {α : Type} (lo st : Option Int) (ds : List α) : List α := (sliceRange (sliceBounds lo none st ds.length).1 (sliceBounds lo none st ds.length).2.1 (sliceBounds lo none st ds.length).2.2).filterMap (ds[·]?)
def tStL (K : PySem.W.Frag) (lo st : Option Int) (te : TE) : TE := fun σ H Q => te σ H fun x H1 => ∃ a xs, x = .ref a ∧ SqL K H1 a xs ∧ ∀ p, H1 p = none → Q (.ref p) (upd H1 p (.lst (stepL lo st xs)))
theorem vals_fil {xs : List V} {us : List Value} (h : Vals xs us) : ∀ is : List Nat, Vals (is.filterMap (xs[·]?)) (is.filterMap (us[·]?))
  | [] => .nil
  | i :: is => by
    rw [List.filterMap_cons, List.filterMap_cons]
    cases e : xs[i]? with
    | some x =>
      obtain ⟨u, hu, ru⟩ := h.get e
      rw [hu]
      exact .cons ru (vals_fil h is)
    | none =>
      have l := List.getElem?_eq_none_iff.mp e
      rw [h.length] at l
      rw [List.getElem?_eq_none l]
      exact vals_fil h is
theorem denL_fil {K : PySem.W.Frag} {H : Hp} {vs : List V} {ds : List PyData} (h : DenL K H vs ds) : ∀ is : List Nat, DenL K H (is.filterMap (vs[·]?)) (is.filterMap (ds[·]?))
  | [] => .nil
  | i :: is => by
    rw [List.filterMap_cons, List.filterMap_cons]
    cases e : ds[i]? with
    | some x =>
      obtain ⟨u, hu, ru⟩ := h.get e
      rw [hu]
      exact .cons ru (denL_fil h is)
    | none =>
      have l := List.getElem?_eq_none_iff.mp e
      rw [← h.length] at l
      rw [List.getElem?_eq_none l]
      exact denL_fil h is
theorem stepL_len {α : Type} (lo st : Option Int) (ds : List α) : (stepL lo st ds).length ≤ ds.length := by
  have h := slicePick_size_le (ds.map fun _ => Value.none).toArray lo none st
  unfold slicePick at h
  unfold stepL
  rw [List.size_toArray] at h
  have e : ∀ is : List Nat, (is.filterMap (ds[·]?)).length = (is.filterMap ((ds.map fun _ => Value.none).toArray[·]?)).length := by
    intro is
    induction is with
    | nil => rfl
    | cons i is ih =>
      rw [List.filterMap_cons, List.filterMap_cons]
      rw [List.getElem?_toArray, List.getElem?_map]
      cases ds[i]? with
      | none => exact ih
      | some x => exact congrArg Nat.succ ih
  rw [e]
  have z : (ds.map fun _ => Value.none).toArray.size = ds.length := by simp
  rw [z] at h
  exact h
theorem pe_stL {olo : Option Expr} {ost : Option Expr} {lo st : Option Int} {te : TE} {p3 : Pos} (he : PE X e te) (h0 : st ≠ some 0)
    (hlo : ∀ (pins : List (Addr × Obj)) (s : Shared) (σ : L2.St) (H : Hp) (Q : Value → Shared → Prop), Inv X pins σ H s → (∀ v s', Inv X pins σ H s' → IsPart v lo → Q v s') → wpAny (model X.prog X.w) X.A (evalPart olo X.env) Q X.xe s)
    (hst : ∀ (pins : List (Addr × Obj)) (s : Shared) (σ : L2.St) (H : Hp) (Q : Value → Shared → Prop), Inv X pins σ H s → (∀ v s', Inv X pins σ H s' → IsPart v st → Q v s') → wpAny (model X.prog X.w) X.A (evalPart ost X.env) Q X.xe s)
    (hgo : ∀ x o, subscripted (.Slice olo none ost p3) false x o = operate [x, o] (getItem x o) := by intro _ _; with_unfolding_all rfl) : PE X (.Subscript e (.Slice olo none ost p3) pos) (tStL X.K lo st te) := by
  refine ⟨fun pins s σ H Q I h => ?_⟩
  refine Subscript_ (thn (he.run pins s σ H _ I h) fun v s1 ⟨x, H1, I1, r1, q1⟩ => ?_)
  obtain ⟨a, xs, ex, hx, q⟩ := q1
  subst ex
  cases r1
  refine wpAny_Slice (hlo pins s1 σ H1 _ I1 fun vl s2 I2 pl => ?_)
  refine thn (po_none.run pins s2 σ H1 (fun o H3 => o = none ∧ H3 = H1) I2 ⟨rfl, rfl⟩) fun vu s3 ⟨u, H3, I3, pu, eu, e3⟩ => ?_
  subst eu e3
  refine hst pins s3 σ H3 _ I3 fun vs s4 I4 ps => ?_
  have I5 : Inv X pins σ H3 { s4 with heap := s4.heap.push { cls := .type "slice", data := .fields #[vl, vu, vs] } } := I4.kept (t' := s4.toks) fun b ob q => Heap.get?_push_of_some _ q
  obtain ⟨its, r, ht, hz⟩ := I5.list hx
  have hlen := r.length
  show wpAny (model X.prog X.w) X.A (subscriptTail e (.Slice olo none ost p3) (.ref a) (.ref s4.heap.objs.size)) (EP X pins σ Q) X.xe { s4 with heap := s4.heap.push { cls := .type "slice", data := .fields #[vl, vu, vs] } }
  refine tail_any (ops := [.ref a, .ref s4.heap.objs.size]) ht.isList.typeIs (PySem.slot_list_getitem.lookup) ?_ (hgo _ _)
  refine wpAny_getItem_list_slice ht.isList (Heap.IsSliceOf.new _ vl vu vs) pl pu ps h0 ?_ (by rw [List.size_toArray]; omega)
  have ep : slicePick its.toArray lo none st = (stepL lo st its).toArray := by
    unfold slicePick stepL
    rw [List.size_toArray]
    have ef : (fun (k : Nat) => its.toArray[k]?) = fun (k : Nat) => its[k]? := by
      funext k
      rw [List.getElem?_toArray]
    rw [ef]
  rw [ep]
  refine ⟨.ref _, _, I5.laid (t' := s4.toks) (o := .lst (stepL lo st xs)) (fun b ob q => Heap.get?_push_of_some _ q) (Nat.le_refl _) ?_, rfl, q _ (I5.hok.fresh (Nat.le_refl _))⟩
  have ex : Vals (stepL lo st xs) (stepL lo st its) := by
    unfold stepL
    rw [← hlen]
    exact vals_fil r _
  exact ⟨Nat.le_trans (stepL_len _ _ _) (by omega), _, 0, ex, Heap.get?_push_size _ rfl⟩
def stD (lo st : Option Int) : PyData → Option PyData
  | .list ds => some (.list (stepL lo st ds))
  | _ => none
theorem part_none {pins : List (Addr × Obj)} {s : Shared} {σ : L2.St} {H : Hp} {Q : Value → Shared → Prop} (I : L2.Inv X pins σ H s) (k : ∀ v s', L2.Inv X pins σ H s' → IsPart v none → Q v s') : wpAny (model X.prog X.w) X.A (evalPart none X.env) Q X.xe s :=
  thn (po_none.run pins s σ H (fun o H3 => o = none ∧ H3 = H) I ⟨rfl, rfl⟩) fun vu s3 ⟨u, H3, I3, pu, eu, e3⟩ => by
    subst eu e3
    exact k vu s3 I3 pu
theorem part_int {i : Int} {kk pos} {pins : List (Addr × Obj)} {s : Shared} {σ : L2.St} {H : Hp} {Q : Value → Shared → Prop} (I : L2.Inv X pins σ H s) (k : ∀ v s', L2.Inv X pins σ H s' → IsPart v (some i) → Q v s') : wpAny (model X.prog X.w) X.A (evalPart (some (.Constant (.int i) kk pos)) X.env) Q X.xe s :=
  thn ((po_some (pe_int (X := X) (i := i) (j := kk) (pos := pos))).run pins s σ H (fun o H3 => o = some i ∧ H3 = H) I ⟨i, rfl, rfl, rfl⟩) fun vu s3 ⟨u, H3, I3, pu, eu, e3⟩ => by
    subst eu e3
    exact k vu s3 I3 pu
theorem part_neg {i : Int} {kk pos p2} {pins : List (Addr × Obj)} {s : Shared} {σ : L2.St} {H : Hp} {Q : Value → Shared → Prop} (I : L2.Inv X pins σ H s) (k : ∀ v s', L2.Inv X pins σ H s' → IsPart v (some (-i)) → Q v s') : wpAny (model X.prog X.w) X.A (evalPart (some (.UnaryOp .USub (.Constant (.int i) kk pos) p2)) X.env) Q X.xe s :=
  thn ((po_some (pe_un (X := X) un_neg (pe_int (i := i) (j := kk) (pos := pos)))).run pins s σ H (fun o H3 => o = some (-i) ∧ H3 = H) I ⟨i, rfl, -i, rfl, rfl, rfl⟩) fun vu s3 ⟨u, H3, I3, pu, eu, e3⟩ => by
    subst eu e3
    exact k vu s3 I3 pu
theorem den_stL {K : PySem.W.Frag} {H : Hp} {xs : List V} {ds : List PyData} (lo st : Option Int) (dl : DenL K H xs ds) : DenL K H (stepL lo st xs) (stepL lo st ds) := by
  unfold stepL
  rw [dl.length]
  exact denL_fil dl _
theorem de_stL {olo ost : Option Expr} {lo st : Option Int} {p3 : Pos} (he : DE X e f) (h0 : st ≠ some 0)
    (hlo : ∀ (pins : List (Addr × Obj)) (s : Shared) (σ : L2.St) (H : Hp) (Q : Value → Shared → Prop), L2.Inv X pins σ H s → (∀ v s', L2.Inv X pins σ H s' → IsPart v lo → Q v s') → wpAny (model X.prog X.w) X.A (evalPart olo X.env) Q X.xe s)
    (hst : ∀ (pins : List (Addr × Obj)) (s : Shared) (σ : L2.St) (H : Hp) (Q : Value → Shared → Prop), L2.Inv X pins σ H s → (∀ v s', L2.Inv X pins σ H s' → IsPart v st → Q v s') → wpAny (model X.prog X.w) X.A (evalPart ost X.env) Q X.xe s)
    (hgo : ∀ x o, subscripted (.Slice olo none ost p3) false x o = operate [x, o] (getItem x o) := by intro _ _; with_unfolding_all rfl) : DE X (.Subscript e (.Slice olo none ost p3) pos) (Dv.e1 (stD lo st) f) := by
  obtain ⟨t, pt, q⟩ := he
  refine ⟨_, pe_stL pt h0 hlo hst hgo, fun σ H1 H ρ d Q s h k => ?_⟩
  obtain ⟨d1, h1, h⟩ := bind_some h
  refine q σ H1 H ρ d1 _ s h1 fun v H1' H' x dv => ?_
  cases d1 <;> try (cases h)
  cases dv with
  | lst hs hl dl => exact ⟨_, _, rfl, x.sub.seq hs, fun p n => k _ _ _ (x.trans (.new x.sub n)) (.lst (.of upd_same) (Nat.le_trans (stepL_len _ _ _) hl) (DenL.mono (same_new (x.sub.free n)) _ _ (den_stL lo st dl)))⟩
theorem de_step2 {lo : Int} {k1 p1 k2 p2 p3} (he : DE X e f) (hgo : ∀ x o, subscripted (.Slice (some (.Constant (.int lo) k1 p1)) none (some (.Constant (.int 2) k2 p2)) p3) false x o = operate [x, o] (getItem x o) := by intro _ _; with_unfolding_all rfl) :
    DE X (.Subscript e (.Slice (some (.Constant (.int lo) k1 p1)) none (some (.Constant (.int 2) k2 p2)) p3) pos) (Dv.e1 (stD (some lo) (some 2)) f) :=
  de_stL he (by decide) (fun pins s σ H Q I k => part_int I k) (fun pins s σ H Q I k => part_int I k) hgo

/-! ### [::-1] of both -/
def revD : PyData → Option PyData
  | .list ds => some (.list ds.reverse)
  | .tuple ds => some (.tuple ds.reverse)
  | _ => none
def tRevA (K : PySem.W.Frag) (te : TE) : TE := fun σ H Q => te σ H fun x H1 => ∃ a xs, x = .ref a ∧ ((SqL K H1 a xs ∧ ∀ p, H1 p = none → Q (.ref p) (upd H1 p (.lst xs.reverse))) ∨ (SqT K H1 a xs ∧ ∀ p, H1 p = none → Q (.ref p) (upd H1 p (.tup xs.reverse))))
theorem pe_revA {te : TE} {k : Nat} {p1 p2 p3 : Pos} (he : PE X e te) : PE X (.Subscript e (.Slice none none (some (.UnaryOp .USub (.Constant (.int 1) k p1) p2)) p3) pos) (tRevA X.K te) := by
  refine ⟨fun pins s σ H Q I h => ?_⟩
  refine Subscript_ (thn (he.run pins s σ H _ I h) fun v s1 ⟨x, H1, I1, r1, q1⟩ => ?_)
  obtain ⟨a, xs, ex, hq⟩ := q1
  subst ex
  cases r1
  refine wpAny_Slice (part_none I1 fun vl s2 I2 pl => part_none I2 fun vu s3 I3 pu => part_neg I3 fun vs s4 I4 ps => ?_)
  have I5 : L2.Inv X pins σ H1 { s4 with heap := s4.heap.push { cls := .type "slice", data := .fields #[vl, vu, vs] } } := I4.kept (t' := s4.toks) fun b ob q => Heap.get?_push_of_some _ q
  show wpAny (model X.prog X.w) X.A (subscriptTail e (.Slice none none (some (.UnaryOp .USub (.Constant (.int 1) k p1) p2)) p3) (.ref a) (.ref s4.heap.objs.size)) (EP X pins σ Q) X.xe { s4 with heap := s4.heap.push { cls := .type "slice", data := .fields #[vl, vu, vs] } }
  rcases hq with ⟨hx, q⟩ | ⟨hx, q⟩
  · obtain ⟨its, r, ht, hz⟩ := I5.list hx
    have hlen := r.length
    refine tail_any (ops := [.ref a, .ref s4.heap.objs.size]) ht.isList.typeIs (PySem.slot_list_getitem.lookup) ?_ (by with_unfolding_all rfl)
    refine wpAny_getItem_list_slice ht.isList (Heap.IsSliceOf.new _ vl vu vs) pl pu ps (by decide) ?_ (by rw [List.size_toArray]; omega)
    rw [PySem.W.krv_pick]
    refine ⟨.ref _, _, I5.laid (t' := s4.toks) (o := .lst xs.reverse) (fun b ob q => Heap.get?_push_of_some _ q) (Nat.le_refl _) ?_, rfl, q _ (I5.hok.fresh (Nat.le_refl _))⟩
    exact ⟨by rw [List.length_reverse]; exact hz, _, 0, r.reverse, Heap.get?_push_size _ rfl⟩
  · obtain ⟨its, r, ht, hz⟩ := I5.tuple hx
    have hlen := r.length
    cases pl
    cases pu
    refine tail_any (ops := [.ref a, .ref s4.heap.objs.size]) ht.typeIs (PyProof.Rows.slot_tuple_getitem.lookup) ?_ (by with_unfolding_all rfl)
    refine getItem_tuple_rev ht (Heap.IsSliceOf.new _ .none .none vs) ps ?_ (by rw [List.size_toArray]; omega)
    refine ⟨.ref _, _, I5.laid (t' := s4.toks) (o := .tup xs.reverse) (fun b ob q => Heap.get?_push_of_some _ q) (Nat.le_refl _) ?_, rfl, q _ (I5.hok.fresh (Nat.le_refl _))⟩
    exact ⟨by rw [List.length_reverse]; exact hz, its.reverse, r.reverse, IsTup.new _ _⟩
/-! ### a < b < c -/
theorem bool_v {v : V} {b : Bool} {K : PySem.W.Frag} {H : Hp} (h : Den K H v (.bool b)) : v = .bl b := by cases h; rfl
theorem chain_read {r r' : R2} {g g' : PyData → PyData → Option PyData} (hr : V2 X.K r g) (hr' : V2 X.K r' g') {ta tb tc : TE}
    (qa : ∀ (σ : L2.St) (H1 H : Hp) (ρ : En) (d : PyData) (Q : VK), Sok X.K H1 H σ ρ → fa ρ = some d → (∀ v H1' H', Ext H1 H H1' H' → Den X.K H1' v d → Q v H') → ta σ H Q)
    (qb : ∀ (σ : L2.St) (H1 H : Hp) (ρ : En) (d : PyData) (Q : VK), Sok X.K H1 H σ ρ → fb ρ = some d → (∀ v H1' H', Ext H1 H H1' H' → Den X.K H1' v d → Q v H') → tb σ H Q)
    (qc : ∀ (σ : L2.St) (H1 H : Hp) (ρ : En) (d : PyData) (Q : VK), Sok X.K H1 H σ ρ → fc ρ = some d → (∀ v H1' H', Ext H1 H H1' H' → Den X.K H1' v d → Q v H') → tc σ H Q)
    (σ : L2.St) (H1 H : Hp) (ρ : En) (d : PyData) (Q : VK) (s : Sok X.K H1 H σ ρ) (h : eChain g g' fa fb fc ρ = some d) (k : ∀ v H1' H', Ext H1 H H1' H' → Den X.K H1' v d → Q v H') : tChain r r' ta tb tc σ H Q := by
  obtain ⟨d1, h1, h⟩ := bind_some h
  obtain ⟨d2, h2, h⟩ := bind_some h
  obtain ⟨b, h3, h⟩ := bind_some h
  obtain ⟨d3, h3, hb⟩ := bind_some h3
  have e := asB_some hb
  subst e
  refine qa σ H1 H ρ d1 _ s h1 fun v H1' H' x1 q1 => qb σ H1' H' ρ d2 _ (s.ext x1) h2 fun w H2 H2' x2 q2 => hr v w d1 d2 _ H2 H2' _ x2.sub (Den.mono x2.st _ _ q1) q2 h3 fun z H3 H3' x3 q3 => ⟨b, bool_v q3, ?_⟩
  have x4 := (x1.trans x2).trans x3
  cases b with
  | false =>
    cases h
    exact k _ _ _ x4 (.bl _)
  | true =>
    obtain ⟨d4, h4, h⟩ := bind_some h
    obtain ⟨b', h5, rfl⟩ := map_some h
    obtain ⟨d5, h5, hb5⟩ := bind_some h5
    have e5 := asB_some hb5
    subst e5
    exact qc σ H3 H3' ρ d4 _ (s.ext x4) h4 fun u H4 H4' x5 q5 => hr' w u d2 d4 _ H4 H4' Q x5.sub (Den.mono (x3.st.trans x5.st) _ _ q2) q5 h5 fun z H5 H5' x6 q6 => k z _ _ ((x4.trans x5).trans x6) q6
theorem de_chain {op op' : CmpOp} {r r' : R2} {g g' : PyData → PyData → Option PyData} (ho : OpR X (compareOp op) r) (hr : V2 X.K r g) (ho' : OpR X (compareOp op') r') (hr' : V2 X.K r' g') (ha : DE X a fa) (hb : DE X b fb) (hc : DE X c fc)
    (hm : lastMarks [op, op'] [b, c] = false := by with_unfolding_all rfl) : DE X (.Compare a [op, op'] [b, c] pos) (eChain g g' fa fb fc) := by
  obtain ⟨ta, pa, qa⟩ := ha
  obtain ⟨tb, pb, qb⟩ := hb
  obtain ⟨tc, pc, qc⟩ := hc
  exact ⟨_, pe_chain ho ho' pa pb pc hm, chain_read hr hr' qa qb qc⟩
theorem dt_chain {op op' : CmpOp} {r r' : R2} {g g' : PyData → PyData → Option PyData} (ho : OpR X (compareOp op) r) (hr : V2 X.K r g) (ho' : OpR X (compareOp op') r') (hr' : V2 X.K r' g') (ha : DE X a fa) (hb : DE X b fb) (hc : DE X c fc)
    (hm : lastMarks [op, op'] [b, c] = false := by with_unfolding_all rfl) : DT X (.Compare a [op, op'] [b, c] pos) (tB (eChain g g' fa fb fc)) := by
  obtain ⟨ta, pa, qa⟩ := ha
  obtain ⟨tb, pb, qb⟩ := hb
  obtain ⟨tc, pc, qc⟩ := hc
  refine ⟨_, pt_chain ho ho' pa pb pc hm, fun σ H1 H ρ d Q s h k => ?_⟩
  obtain ⟨d0, h, hb'⟩ := bind_some h
  have e := asB_some hb'
  subst e
  exact chain_read hr hr' qa qb qc σ H1 H ρ _ _ s h fun v H2 H2' x2 dv => ⟨d, bool_v dv, k H2 H2' x2⟩
end
end Dv

namespace Dv
open PySem PySem.Spec PyProof.Rows L2 HT

/-! ### range with a step (-1 or 2) -/
def rngC (lo c : Int) (n : Nat) : List PyData := (List.range n).map fun i => .int (lo + (i : Nat) * c)
theorem rngC_len (lo c : Int) (n : Nat) : (rngC lo c n).length = n := by unfold rngC; rw [List.length_map, List.length_range]
def rg3n (i j c : Int) : Option Nat := if i.natAbs ≤ 4194304 ∧ j.natAbs ≤ 4194304 then (if c = -1 then some (i - j).toNat else if c = 2 then some ((j - i + 1).toNat / 2) else none) else none
theorem rg3n_ok {i j c : Int} {n : Nat} (h : rg3n i j c = some n) : RgC i j c n ∧ n ≤ 16777216 := by
  unfold rg3n at h
  split at h
  · rename_i hb
    split at h
    · rename_i hc
      cases h
      subst hc
      exact ⟨.neg (by omega) (by omega) (by omega) (by omega), by omega⟩
    · split at h
      · rename_i hc
        cases h
        subst hc
        have e : Builtin.Range.rangeSize i j 2 = (((j - i + 1).toNat / 2 : Nat) : Int) := by
          unfold Builtin.Range.rangeSize
          rw [if_pos (by decide)]
          by_cases hij : i < j
          · rw [if_pos hij]; omega
          · rw [if_neg hij]; omega
        refine ⟨⟨by decide, by decide, ?_, e⟩, by omega⟩
        unfold Builtin.Range.small
        rw [e]
        simp only [Builtin.Range.rangeFitsLong, Bool.and_eq_true, Bool.or_eq_true, decide_eq_true_eq, beq_iff_eq, show (2 : Int) > 0 by decide, if_true]
        omega
      · cases h
  · cases h
def rg3 (ds : List PyData) : Option (List PyData) := match ds with
  | [.int i, .int j, .int c] => (rg3n i j c).map fun n => rngC i c n
  | _ => none
theorem walks_rngC {K : PySem.W.Frag} {H1 : Hp} (lo c : Int) (n : Nat) : Walks K (Itc lo c n) H1 (rngC lo c n) := fun H1' H' s1 s2 i => by
  refine ⟨fun d e => ?_, fun l => by rw [rngC_len] at l; exact l⟩
  have hl : i < n := by
    have := (List.getElem?_eq_some_iff.mp e).1
    rwa [rngC_len] at this
  unfold rngC at e
  rw [List.getElem?_map, List.getElem?_range hl] at e
  cases e
  refine ⟨hl, fun x H'' y => ?_⟩
  obtain ⟨rfl, rfl⟩ := y
  exact ⟨H1', .refl s2, .int _⟩
section
variable {X : Cx} {a b c e : Expr} {es : List Expr} {fa fb fc f : En → Option PyData} {fs : En → Option (List PyData)} {pos p : Pos} {x : Str} {tg : Expr} {tf : En → Option Bool}
theorem den_ints3 {K : PySem.W.Frag} {H : Hp} {vs : List V} {i j c : Int} (h : DenL K H vs [.int i, .int j, .int c]) : vs = [.int i, .int j, .int c] := by
  have e := DenL.ints_of (ns := [i, j, c]) h
  exact e
theorem di_range3 (ha : DA X [a, b, c] fs) (hg : Gl X "range") (hm : X.mg "range" = none) (hs : starEach [a, b, c] X.env = (false, eval a X.env) :: starEach [b, c] X.env := by rfl) (hpl : (backTo pos (starEach [b, c] X.env)).any (·.1) = false := by rfl) : DI X tg (.Call (.Name "range" p) [a, b, c] [] pos) (eNL rg3 fs) := by
  obtain ⟨t, pt, q⟩ := ha
  refine ⟨_, pi_range3 hg hm pt hs hpl, fun σ H1 H ρ ds R s e k => ?_⟩
  obtain ⟨es, e1, e⟩ := bind_some e
  refine q σ H1 H ρ es _ s e1 fun vs H1' H' x dv => ?_
  unfold rg3 at e
  split at e
  · rename_i i j c
    obtain ⟨n, e2, rfl⟩ := map_some e
    obtain ⟨r1, r2⟩ := rg3n_ok e2
    exact ⟨i, j, c, n, den_ints3 dv, r1, k _ H1' H' x (by rw [rngC_len, sizeLine_eq]; omega) (walks_rngC i c n)⟩
  · cases e

/-! ### tuple(range(a, b, c)) -/
theorem vals_rgC {lo c : Int} {n : Nat} {acc : Array Value} (h : ItemsOf (fun i v => ∃ t, v = .int (lo + i * c) t) acc n) : Vals ((List.range n).map fun i => V.int (lo + (i : Nat) * c)) acc.toList := by
  have e : acc.toList.length = n := by rw [Array.length_toList]; exact h.1
  rw [← e]
  refine vals_of_get acc.toList _ fun j u hj => ?_
  obtain ⟨t, rfl⟩ := h.2 j u (by rw [← hj, Array.getElem?_toList])
  exact ⟨t, rfl⟩
theorem den_rgC {K : PySem.W.Frag} {H : Hp} (lo c : Int) (n : Nat) : DenL K H ((List.range n).map fun i => V.int (lo + (i : Nat) * c)) (rngC lo c n) := by
  unfold rngC
  generalize List.range n = l
  induction l with
  | nil => exact .nil
  | cons i l ih => exact .cons (.int _) ih
def tTupRg3 (ta : TA) : TE := fun σ H Q => ta σ H fun vs H1 => ∃ (i j c : Int) (n : Nat), vs = [.int i, .int j, .int c] ∧ RgC i j c n ∧ n ≤ 2 ^ 24 ∧ ∀ q, H1 q = none → Q (.ref q) (upd H1 q (.tup ((List.range n).map fun i' => V.int (i + (i' : Nat) * c))))
theorem pe_tupRg3 {ta : TA} {p1 p2 : Pos} (hc : X.calm = true) (hg : Gl X "tuple") (hm : X.mg "tuple" = none) (hg2 : Gl X "range") (hm2 : X.mg "range" = none) (ha : PA X [a, b, c] ta)
    (hs : starEach [a, b, c] X.env = (false, eval a X.env) :: starEach [b, c] X.env) (hpl : (backTo p2 (starEach [b, c] X.env)).any (·.1) = false)
    (na : starEach [.Call (.Name "range" p1) [a, b, c] [] p2] X.env = (false, eval (.Call (.Name "range" p1) [a, b, c] [] p2) X.env) :: starEach [] X.env) : PE X (.Call (.Name "tuple" p) [.Call (.Name "range" p1) [a, b, c] [] p2] [] pos) (tTupRg3 ta) := by
  refine ⟨fun pins s σ H Q I h => ?_⟩
  refine Call_ (ld_blt I hg hm boot_tuple (PyProof.Rows.callWith_type1 (args_cons ?_ na) na))
  refine Call_ (ld_blt I hg2 hm2 boot_range (PyProof.Rows.callWith_type1 (thn (ha.run p2 pins s σ H _ I h) fun us s1 ⟨vs, H1, I1, r1, q1⟩ => ?_) hs hpl))
  obtain ⟨i, j, k, n, e, ⟨c0, c1, c2, c3⟩, hn, q⟩ := q1
  subst e
  cases r1 with
  | cons r rr =>
    cases rr with
    | cons r' rr =>
      cases rr with
      | cons r'' rr =>
        cases rr
        obtain ⟨t, rfl⟩ := r
        obtain ⟨t', rfl⟩ := r'
        obtain ⟨t'', rfl⟩ := r''
        refine call_range_3 c0 (args_nil ?_) (.inl (PyProof.noPylong_small c1))
        have I2 : L2.Inv X pins σ H1 { s1 with heap := s1.heap.push { cls := .type "range", data := .fields #[.int i t, .int j t', .int k t''] } } := I1.kept (t' := s1.toks) fun b o e => Heap.get?_push_of_some _ e
        refine call_tuple_range (n := n) (I2.ok.hd hc) (IsRange.new ..) c2 c3 hn fun h' tk acc hk hi => ?_
        have I3 : L2.Inv X pins σ H1 { s1 with heap := h', toks := tk } := I2.kept hk
        refine ⟨.ref h'.objs.size, _, I3.laid (t' := tk) (fun c o e => Heap.get?_push_of_some _ e) (Nat.le_refl _) (show ObjOk X.prog X.w _ _ _ (.tup ((List.range n).map fun i' => V.int (i + (i' : Nat) * k))) from ⟨?_, acc.toList, vals_rgC hi, ?_⟩), rfl, q _ (I3.hok.fresh (Nat.le_refl _))⟩
        · rw [List.length_map, List.length_range, sizeLine_eq]; omega
        · rw [Array.toArray_toList]; exact IsTup.new _ _
end

/-! ### min, max, sum of a list or a tuple of ints -/
section
variable {prog : Program} {w : World} {A : Around} {E : Value → Shared → Prop} {s : Shared} {t : Addr} {its : List Value} {ns : List Int} {Q : Value → Shared → Prop}
theorem min_tupRaw (hh : A.handled = none) (ht : s.heap.IsTuple t its.toArray) (hi : IntsAre its ns) (hne : 0 < ns.length)
    (h : ∀ h' tk M t', (∀ b o, s.heap.get? b = some o → h'.get? b = some o) → M ∈ ns → (∀ a, a ∈ ns → M ≤ a) → Q (.int M t') { s with heap := h', toks := tk }) : wpAny (model prog w) A (call (.builtin "min") [.ref t]) Q E s := by
  obtain ⟨xs, e⟩ := hi.allInts.items
  have hn : numsOf (intItems xs).toList = ns := by rw [← e]; exact hi.numsOf
  rw [nums_intItems] at hn
  subst hn
  rw [e] at ht
  have hsz : 0 < xs.size := by simpa using hne
  obtain ⟨o, ho, hc, n, hd⟩ := id ht
  have hne' : t ≠ s.heap.objs.size := Nat.ne_of_lt (Heap.lt_size ho)
  refine call_min_walk (wpAny_pyIter_tuple ht ?_)
  refine ⟨s.heap.objs.size, [_, t], [_], _, _, _, _, rfl, PySem.Walks.tuple (A := A.in1) hh _ t hne' (intItems xs), ⟨⟨_, Heap.get?_push_size _ rfl, rfl, rfl⟩, ht.at fun o e => Heap.get?_push_of_some _ e⟩, fun b hb => ?_, by simpa [intItems] using hsz, CmpOf.ints_lt (numAt xs) (fun _ _ => intItems_at), fun v h' tk hv hk => ?_⟩
  · rcases List.mem_cons.mp hb with rfl | hb
    · exact Heap.lt_size (Heap.get?_push_size _ rfl)
    · obtain rfl := List.mem_singleton.mp hb
      exact Heap.lt_size (Heap.get?_push_of_some _ ho)
  · have hv : (intItems xs)[argBest (fun i j => decide (numAt xs i < numAt xs j)) (xs.size - 1)]? = some v := by simpa [intItems] using hv
    obtain ⟨t, rfl⟩ := intItems_at hv
    obtain ⟨h1, h2⟩ := argBest_lt (numAt xs) (xs.size - 1)
    refine h h' tk _ t (fun b o e => hk b o (fun hb => absurd (Heap.lt_size e) ((List.mem_singleton.mp hb) ▸ Nat.lt_irrefl _)) (Heap.get?_push_of_some _ e)) ?_ fun a ha => ?_
    · rw [numAt_eq]; exact PySem.getD_mem (by rw [List.length_map, Array.length_toList]; omega)
    · obtain ⟨j, hj, rfl⟩ := mem_getD ha
      rw [List.length_map, Array.length_toList] at hj
      rw [← numAt_eq]; exact h2 j (by omega)
theorem max_tupRaw (hh : A.handled = none) (ht : s.heap.IsTuple t its.toArray) (hi : IntsAre its ns) (hne : 0 < ns.length)
    (h : ∀ h' tk M t', (∀ b o, s.heap.get? b = some o → h'.get? b = some o) → M ∈ ns → (∀ a, a ∈ ns → a ≤ M) → Q (.int M t') { s with heap := h', toks := tk }) : wpAny (model prog w) A (call (.builtin "max") [.ref t]) Q E s := by
  obtain ⟨xs, e⟩ := hi.allInts.items
  have hn : numsOf (intItems xs).toList = ns := by rw [← e]; exact hi.numsOf
  rw [nums_intItems] at hn
  subst hn
  rw [e] at ht
  have hsz : 0 < xs.size := by simpa using hne
  obtain ⟨o, ho, hc, n, hd⟩ := id ht
  have hne' : t ≠ s.heap.objs.size := Nat.ne_of_lt (Heap.lt_size ho)
  refine call_max_walk (wpAny_pyIter_tuple ht ?_)
  refine ⟨s.heap.objs.size, [_, t], [_], _, _, _, _, rfl, PySem.Walks.tuple (A := A.in1) hh _ t hne' (intItems xs), ⟨⟨_, Heap.get?_push_size _ rfl, rfl, rfl⟩, ht.at fun o e => Heap.get?_push_of_some _ e⟩, fun b hb => ?_, by simpa [intItems] using hsz, CmpOf.ints_gt (numAt xs) (fun _ _ => intItems_at), fun v h' tk hv hk => ?_⟩
  · rcases List.mem_cons.mp hb with rfl | hb
    · exact Heap.lt_size (Heap.get?_push_size _ rfl)
    · obtain rfl := List.mem_singleton.mp hb
      exact Heap.lt_size (Heap.get?_push_of_some _ ho)
  · have hv : (intItems xs)[argBest (fun i j => decide (numAt xs i > numAt xs j)) (xs.size - 1)]? = some v := by simpa [intItems] using hv
    obtain ⟨t, rfl⟩ := intItems_at hv
    obtain ⟨h1, h2⟩ := argBest_gt (numAt xs) (xs.size - 1)
    refine h h' tk _ t (fun b o e => hk b o (fun hb => absurd (Heap.lt_size e) ((List.mem_singleton.mp hb) ▸ Nat.lt_irrefl _)) (Heap.get?_push_of_some _ e)) ?_ fun a ha => ?_
    · rw [numAt_eq]; exact PySem.getD_mem (by rw [List.length_map, Array.length_toList]; omega)
    · obtain ⟨j, hj, rfl⟩ := mem_getD ha
      rw [List.length_map, Array.length_toList] at hj
      rw [← numAt_eq]; exact h2 j (by omega)
end
section
variable {X : Cx}
/-- f of one list or tuple of ints -/
def rSeqI (K : PySem.W.Frag) (C : List Int → Int → Prop) : List V → Hp → VK → Prop := fun vs H Q => ∃ (a : Addr) (ns : List Int), vs = [V.ref a] ∧ (SqL K H a (ns.map V.int) ∨ SqT K H a (ns.map V.int)) ∧ 0 < ns.length ∧ ∀ m, C ns m → Q (.int m) H
theorem cr_min1 (hc : X.calm = true) : CallR X (.builtin "min") (rSeqI X.K fun ns m => m ∈ ns ∧ ∀ y, y ∈ ns → m ≤ y) := by
  intro pins s σ H vs us Q I r h
  obtain ⟨a, ns, rfl, hs | hs, hne, q⟩ := h
  · obtain ⟨its, rv, hl, _⟩ := I.list hs
    rw [Vals.ref1 r]
    exact min_raw (I.ok.hd hc) hl.isList rv.ints hne fun h' tk m t' hk h1 h2 => ⟨.int _, H, I.kept hk, ⟨_, rfl⟩, q m ⟨h1, h2⟩⟩
  · obtain ⟨its, rv, hl, _⟩ := I.tuple hs
    rw [Vals.ref1 r]
    exact min_tupRaw (I.ok.hd hc) hl rv.ints hne fun h' tk m t' hk h1 h2 => ⟨.int _, H, I.kept hk, ⟨_, rfl⟩, q m ⟨h1, h2⟩⟩
theorem cr_max1 (hc : X.calm = true) : CallR X (.builtin "max") (rSeqI X.K fun ns m => m ∈ ns ∧ ∀ y, y ∈ ns → y ≤ m) := by
  intro pins s σ H vs us Q I r h
  obtain ⟨a, ns, rfl, hs | hs, hne, q⟩ := h
  · obtain ⟨its, rv, hl, _⟩ := I.list hs
    rw [Vals.ref1 r]
    exact max_raw (I.ok.hd hc) hl.isList rv.ints hne fun h' tk m t' hk h1 h2 => ⟨.int _, H, I.kept hk, ⟨_, rfl⟩, q m ⟨h1, h2⟩⟩
  · obtain ⟨its, rv, hl, _⟩ := I.tuple hs
    rw [Vals.ref1 r]
    exact max_tupRaw (I.ok.hd hc) hl rv.ints hne fun h' tk m t' hk h1 h2 => ⟨.int _, H, I.kept hk, ⟨_, rfl⟩, q m ⟨h1, h2⟩⟩
def rSumA (K : PySem.W.Frag) : List V → Hp → VK → Prop := fun vs H Q => ∃ (a : Addr) (ns : List Int), vs = [V.ref a] ∧ (SqL K H a (ns.map V.int) ∨ SqT K H a (ns.map V.int)) ∧ Q (.int ns.sum) H
theorem cr_sumD (hc : X.calm = true) : CallR X (.builtin "sum") (rSumA X.K) := by
  intro pins s σ H vs us Q I r h
  obtain ⟨a, ns, rfl, hs | hs, q⟩ := h
  · obtain ⟨its, rv, hl, _⟩ := I.list hs
    rw [Vals.ref1 r]
    exact sum_raw (I.ok.hd hc) hl.isList rv.ints fun h' tk t' hk => ⟨.int _, H, I.kept hk, ⟨_, rfl⟩, q⟩
  · obtain ⟨its, rv, hl, _⟩ := I.tuple hs
    rw [Vals.ref1 r]
    have hi := rv.ints
    obtain ⟨xs, hx⟩ := hi.allInts.items
    have hn : numsOf its.toArray.toList = ns := by rw [show its.toArray.toList = its from rfl, hi.numsOf]
    have hl' : s.heap.IsTuple a its.toArray := hl
    have hx' : its.toArray = intItems xs := hx
    rw [hx'] at hl' hn
    rw [nums_intItems] at hn
    refine PySem.W.ktm_sumG (I.ok.hd hc) hl' fun h' tk t' hk => ?_
    rw [preSum_eq, List.take_of_length_le (by simp), hn]
    exact ⟨.int _, H, I.kept hk, ⟨_, rfl⟩, q⟩

theorem seqI_vals {K : PySem.W.Frag} {H1 H : Hp} {x : V} {ds : List PyData} {ns : List Int} (sm : Same H1 H) (h : intsD ds = some ns) (hx : Den K H1 x (.list ds) ∨ Den K H1 x (.tuple ds)) : ∃ a, x = .ref a ∧ (SqL K H a (ns.map V.int) ∨ SqT K H a (ns.map V.int)) := by
  rcases hx with hx | hx
  · cases hx with
    | lst hs hl dl =>
      rw [intsD_vals h dl] at hs
      exact ⟨_, rfl, .inl (sm.seq hs)⟩
  · cases hx with
    | tup hs hl dl =>
      rw [intsD_vals h dl] at hs
      exact ⟨_, rfl, .inr (sqT_mono sm hs)⟩
def minL : List Int → Int
  | [] => 0
  | [n] => n
  | n :: m :: ns => min n (minL (m :: ns))
def maxL : List Int → Int
  | [] => 0
  | [n] => n
  | n :: m :: ns => max n (maxL (m :: ns))
theorem minL_mem : ∀ {ns : List Int}, ns ≠ [] → minL ns ∈ ns
  | [], h => absurd rfl h
  | [n], _ => by simp [minL]
  | n :: m :: ns, _ => by
    have := minL_mem (ns := m :: ns) (by simp)
    show min n (minL (m :: ns)) ∈ _
    by_cases h : n ≤ minL (m :: ns)
    · rw [Int.min_eq_left h]; exact List.mem_cons_self
    · rw [Int.min_eq_right (by omega)]; exact List.mem_cons_of_mem _ this
theorem minL_le : ∀ {ns : List Int} {y : Int}, y ∈ ns → minL ns ≤ y
  | [], _, h => by simp at h
  | [n], y, h => by
    have : y = n := by simpa using h
    subst this
    exact Int.le_refl _
  | n :: m :: ns, y, h => by
    show min n (minL (m :: ns)) ≤ y
    rcases List.mem_cons.mp h with rfl | h
    · exact Int.min_le_left _ _
    · exact Int.le_trans (Int.min_le_right _ _) (minL_le h)
theorem maxL_mem : ∀ {ns : List Int}, ns ≠ [] → maxL ns ∈ ns
  | [], h => absurd rfl h
  | [n], _ => by simp [maxL]
  | n :: m :: ns, _ => by
    have := maxL_mem (ns := m :: ns) (by simp)
    show max n (maxL (m :: ns)) ∈ _
    by_cases h : maxL (m :: ns) ≤ n
    · rw [Int.max_eq_left h]; exact List.mem_cons_self
    · rw [Int.max_eq_right (by omega)]; exact List.mem_cons_of_mem _ this
theorem maxL_le : ∀ {ns : List Int} {y : Int}, y ∈ ns → y ≤ maxL ns
  | [], _, h => by simp at h
  | [n], y, h => by
    have : y = n := by simpa using h
    subst this
    exact Int.le_refl _
  | n :: m :: ns, y, h => by
    show y ≤ max n (maxL (m :: ns))
    rcases List.mem_cons.mp h with rfl | h
    · exact Int.le_max_left _ _
    · exact Int.le_trans (maxL_le h) (Int.le_max_right _ _)
def seqI : List PyData → Option (List Int)
  | [.list ds] => intsD ds
  | [.tuple ds] => intsD ds
  | _ => none
def minD1 (ds : List PyData) : Option PyData := (seqI ds).bind fun ns => if 0 < ns.length then some (.int (minL ns)) else none
def maxD1 (ds : List PyData) : Option PyData := (seqI ds).bind fun ns => if 0 < ns.length then some (.int (maxL ns)) else none
def sumD (ds : List PyData) : Option PyData := (seqI ds).map fun ns => .int ns.sum
theorem seqI_den {K : PySem.W.Frag} {H1 H : Hp} {xs : List V} {ds : List PyData} {ns : List Int} (sm : Same H1 H) (h : seqI ds = some ns) (hx : DenL K H1 xs ds) : ∃ a, xs = [.ref a] ∧ (SqL K H a (ns.map V.int) ∨ SqT K H a (ns.map V.int)) := by
  unfold seqI at h
  split at h
  · cases hx with
    | cons d1 d2 =>
      cases d2
      obtain ⟨a, rfl, q⟩ := seqI_vals sm h (.inl d1)
      exact ⟨a, rfl, q⟩
  · cases hx with
    | cons d1 d2 =>
      cases d2
      obtain ⟨a, rfl, q⟩ := seqI_vals sm h (.inr d1)
      exact ⟨a, rfl, q⟩
  · cases h
theorem v_min1 {K : PySem.W.Frag} : VN K (rSeqI K fun ns m => m ∈ ns ∧ ∀ y, y ∈ ns → m ≤ y) minD1 := by
  intro xs ds c H1 H Q sm dx h k
  obtain ⟨ns, h1, h⟩ := bind_some h
  obtain ⟨hp, rfl⟩ := of_if h
  obtain ⟨a, rfl, q⟩ := seqI_den sm h1 dx
  refine ⟨a, ns, rfl, q, hp, fun m ⟨m1, m2⟩ => ?_⟩
  have e : m = minL ns := Int.le_antisymm (m2 _ (minL_mem (by intro e; subst e; simp at hp))) (minL_le m1)
  subst e
  exact k _ H1 H (.refl sm) (.int _)
theorem v_max1 {K : PySem.W.Frag} : VN K (rSeqI K fun ns m => m ∈ ns ∧ ∀ y, y ∈ ns → y ≤ m) maxD1 := by
  intro xs ds c H1 H Q sm dx h k
  obtain ⟨ns, h1, h⟩ := bind_some h
  obtain ⟨hp, rfl⟩ := of_if h
  obtain ⟨a, rfl, q⟩ := seqI_den sm h1 dx
  refine ⟨a, ns, rfl, q, hp, fun m ⟨m1, m2⟩ => ?_⟩
  have e : m = maxL ns := Int.le_antisymm (maxL_le m1) (m2 _ (maxL_mem (by intro e; subst e; simp at hp)))
  subst e
  exact k _ H1 H (.refl sm) (.int _)
theorem v_sum {K : PySem.W.Frag} : VN K (rSumA K) sumD := by
  intro xs ds c H1 H Q sm dx h k
  obtain ⟨ns, h1, rfl⟩ := map_some h
  obtain ⟨a, rfl, q⟩ := seqI_den sm h1 dx
  exact ⟨a, ns, rfl, q, k _ H1 H (.refl sm) (.int _)⟩
end

/-! ### sorted of a list or a tuple of ints -/
section
variable {prog : Program} {w : World} {A : Around} {E : Value → Shared → Prop} {s : Shared}
theorem collect_tup {l : Addr} {vs : List Value} {Q : List Value → Shared → Prop} (hl : s.heap.IsTuple l vs.toArray)
    (h : Q vs { s with heap := (s.heap.push (seqObj "list" #[] 0)).update s.heap.objs.size (Obj.mapSeq (· ++ vs.toArray)) }) (hsz : vs.length ≤ sizeLine) :
    wpAny (model prog w) A (collect (.ref l)) Q E s := by
  obtain ⟨o, ho, hc, n, hd⟩ := id hl
  unfold collect
  refine wpAny_bind (wpAny_runValue (codeAny_builtin entry_proto_collect' ?_))
  show wpAny _ _ (do again (.builtin "list.__iadd__" ⟨[← newList [], .ref l], []⟩)) _ _ s
  refine wpAny_bind (wpAny_newList (wpAny_pure ⟨Code.quiet_builtin _ (by decide +kernel), codeAny_builtin entry_list_iadd' ?_⟩))
  show wpAny _ _ (Builtin.List.listExtendWith (.ref s.heap.objs.size) (.ref l) (.ref s.heap.objs.size)) _ _ { s with heap := s.heap.push (seqObj "list" #[] 0) }
  unfold Builtin.List.listExtendWith
  have ho' : (s.heap.push (seqObj "list" #[] 0)).get? l = some o := Heap.get?_push_of_some _ ho
  refine wpAny_bind (wpAny_typeOf (T := "tuple") ⟨o, ho', hc⟩ ?_)
  have ht : (Value.type "tuple" == Value.type "tuple") = true := by rfl
  rw [if_pos (by rw [ht]; simp)]
  refine wpAny_bind (listItems_at ho' hd ?_)
  refine wpAny_bind (listItems_at (xs := #[]) (n := 0) (Heap.get?_push_size _ rfl) rfl ?_)
  rw [if_neg (by simp)]
  refine wpAny_bind (listUpdate_at (xs := #[]) (n := 0) (Heap.get?_push_size _ rfl) rfl ?_ (Nat.zero_le _) (by show (#[] ++ vs.toArray).size ≤ sizeLine + 1; simp only [Array.size_append, List.size_toArray, List.length_nil]; omega))
  refine wpAny_pure ?_
  show wpAny (model prog w) A (do
      let o ← load s.heap.objs.size
      match o.data with
      | .seq xs _ => pure xs.toList
      | _ => unsupported "internal:collect") Q E { s with heap := (s.heap.push (seqObj "list" #[] 0)).update s.heap.objs.size (Obj.mapSeq (· ++ vs.toArray)) }
  refine wpAny_bind (wpAny_load (get?_update_seq (Heap.get?_push_size _ rfl) _) ?_)
  show wpAny _ _ (pure ((#[] : Array Value) ++ vs.toArray).toList) Q E _
  rw [show ((#[] : Array Value) ++ vs.toArray).toList = vs by simp]
  exact wpAny_pure h
theorem sorted_ordT {l : Addr} {vs : List Value} {ltv : Value → Value → Bool} {Q : Value → Shared → Prop} (O : SrtO.Swo ltv) (hl : s.heap.IsTuple l vs.toArray) (hz : vs.length ≤ sizeLine)
    (hS : 2 ≤ vs.length → ∀ (h₁ : Heap) (a : Addr), h₁.get? a = some (seqObj "list" vs.toArray 0) → (∀ b o, s.heap.get? b = some o → b ≠ a ∧ h₁.get? b = some o) → SrtO.SortableO prog w A.in1.in1 { s with heap := h₁ } a vs ltv)
    (h : ∀ out : List Value, SrtO.Srtd ltv out → SrtO.Stb ltv out vs → Q (.ref (s.heap.objs.size + 1)) { s with heap := sortedAll s.heap vs out.toArray }) :
    wpAny (model prog w) A (call (.builtin "sorted") [.ref l]) Q E s := by
  refine Calls.call_function_entry kind_sorted plain_sorted entry_sorted (args_sorted1 _) ?_
  unfold Builtin.«sorted»
  refine wpAny_bind (m := checkCount "sorted" 1 1 _) (wpAny_pure ?_)
  refine wpAny_bind (collect_tup hl ?_ hz)
  refine wpAny_bind (wpAny_newList ?_ hz)
  have hsz : ((s.heap.push (seqObj "list" #[] 0)).update s.heap.objs.size (Obj.mapSeq (· ++ vs.toArray))).objs.size = s.heap.objs.size + 1 := by
    rw [Heap.size_update, size_push']
  have hoL : (((s.heap.push (seqObj "list" #[] 0)).update s.heap.objs.size (Obj.mapSeq (· ++ vs.toArray))).push (seqObj "list" vs.toArray 0)).get? (s.heap.objs.size + 1) = some (seqObj "list" vs.toArray 0) := by
    rw [← hsz]; exact Heap.get?_push_size _ rfl
  have keep : ∀ b o, s.heap.get? b = some o → b ≠ s.heap.objs.size + 1 ∧ (((s.heap.push (seqObj "list" #[] 0)).update s.heap.objs.size (Obj.mapSeq (· ++ vs.toArray))).push (seqObj "list" vs.toArray 0)).get? b = some o := fun b o q => by
    have hlt : b < s.heap.objs.size := Heap.lt_size q
    refine ⟨Nat.ne_of_lt (Nat.lt_succ_of_lt hlt), Heap.get?_push_of_some _ ?_⟩
    rw [Heap.get?_update_ne _ _ _ _ (Nat.ne_of_lt hlt)]
    exact Heap.get?_push_of_some _ q
  show wpAny _ _ _ _ _ { s with heap := ((s.heap.push (seqObj "list" #[] 0)).update s.heap.objs.size (Obj.mapSeq (· ++ vs.toArray))).push (seqObj "list" vs.toArray 0) }
  rw [hsz]
  refine wpAny_bind (wpAny_holding (wpAny_call_entry slot_list_sort ⟨_, hoL, rfl⟩ entry_list_sort (SrtO.list_sort_ord O hoL hz (fun h2 => hS h2 _ _ hoL keep) fun out hs hb => ⟨_, rfl, ?_⟩) (args_list_sort _)))
  exact wpAny_pure ⟨_, rfl, h out hs hb⟩
end
def srt (ns : List Int) : List Int := ns.mergeSort fun a b => decide (a ≤ b)
theorem srt_perm (ns : List Int) : (srt ns).Perm ns := List.mergeSort_perm _ _
theorem srt_pw (ns : List Int) : (srt ns).Pairwise (· ≤ ·) := by
  have h := List.pairwise_mergeSort (le := fun a b : Int => decide (a ≤ b)) (fun a b c h1 h2 => by simp only [decide_eq_true_eq] at *; omega) (fun a b => by simp only [Bool.or_eq_true, decide_eq_true_eq]; omega) ns
  exact h.imp fun h => by simpa using h
theorem srt_eq {ns ms : List Int} (hp : ms.Perm ns) (hs : ms.Pairwise (· ≤ ·)) : ms = srt ns :=
  List.Perm.eq_of_pairwise (fun a b _ _ h1 h2 => Int.le_antisymm h1 h2) hs (srt_pw ns) (hp.trans (srt_perm ns).symm)
section
variable {X : Cx}
def rSortA (K : PySem.W.Frag) : List V → Hp → VK → Prop := fun vs H Q => ∃ (a : Addr) (ns : List Int), vs = [V.ref a] ∧ (SqL K H a (ns.map V.int) ∨ SqT K H a (ns.map V.int)) ∧
  ∀ (p : Addr), H p = none → Q (.ref p) (upd H p (.lst ((srt ns).map V.int)))
theorem cr_sortedD : CallR X (.builtin "sorted") (rSortA X.K) := by
  intro pins s σ H vs us Q I r h
  obtain ⟨a, ns, rfl, hs | hs, q⟩ := h
  · exact cr_sortedI pins s σ H _ us Q I r ⟨a, ns, rfl, hs, fun ns' p k1 k2 hn => by rw [srt_eq k1 k2]; exact q p hn⟩
  · obtain ⟨its, rv, hl, hz⟩ := I.tuple hs
    rw [Vals.ref1 r]
    have hi := rv.ints
    refine sorted_ordT SrtO.swo_int hl (by rw [← rv.length]; exact hz) (fun h2 h₁ a' _ _ => SrtO.ints_sortable hi h2) fun out h1 h2 => ?_
    obtain ⟨k1, k2, k3⟩ := SrtO.ints_out hi h1 h2
    obtain ⟨ep, he'⟩ := PyProof.Rows.sortedAll_at s.heap its out.toArray
    have hlen : ((out.map SrtO.iv).map V.int).length ≤ sizeLine := by
      rw [List.length_map, k2.length_eq]
      rw [List.length_map] at hz
      exact hz
    have qq := q (s.heap.objs.size + 1) (I.hok.fresh (Nat.le_succ _))
    rw [← srt_eq k2 k3] at qq
    exact ⟨.ref _, upd H (s.heap.objs.size + 1) (.lst ((out.map SrtO.iv).map V.int)), I.laid (t' := s.toks) (fun _ _ => PyProof.Rows.sortedAll_old) (Nat.le_succ _) ⟨hlen, out, ep, vals_of_ints k1, he'⟩, rfl, qq⟩
theorem seqI_len {K : PySem.W.Frag} {H1 : Hp} {xs : List V} {ds : List PyData} {ns : List Int} (h : seqI ds = some ns) (hx : DenL K H1 xs ds) : ns.length ≤ sizeLine := by
  unfold seqI at h
  split at h
  · cases hx with
    | cons d1 d2 =>
      cases d1 with
      | lst hs hl dl =>
        have e := dl.length
        rw [intsD_vals h dl, List.length_map] at e
        omega
  · cases hx with
    | cons d1 d2 =>
      cases d1 with
      | tup hs hl dl =>
        have e := dl.length
        rw [intsD_vals h dl, List.length_map] at e
        omega
  · cases h
def sortedD (ds : List PyData) : Option (List PyData) := (seqI ds).map fun ns => (srt ns).map PyData.int
theorem v_sorted {K : PySem.W.Frag} : VNL K (rSortA K) sortedD := by
  intro xs ds cs H1 H Q sm dx h k
  obtain ⟨ns, h1, rfl⟩ := map_some h
  obtain ⟨a, rfl, q⟩ := seqI_den sm h1 dx
  refine ⟨a, ns, rfl, q, fun p n => k p _ H1 _ (.newMut sm n) n upd_same (sm.free n) ?_ (DenL.ints _)⟩
  rw [List.length_map, (srt_perm ns).length_eq]
  exact seqI_len h1 dx
end

/-! ### enumerate of a list, of a tuple -/
def enD : Nat → List PyData → List PyData
  | _, [] => []
  | k, d :: ds => .tuple [.int k, d] :: enD (k + 1) ds
theorem enD_len : ∀ (k : Nat) (ds : List PyData), (enD k ds).length = ds.length
  | _, [] => rfl
  | k, d :: ds => by show (enD (k + 1) ds).length + 1 = _; rw [enD_len]; rfl
theorem enD_get : ∀ {ds : List PyData} {k i : Nat} {d : PyData}, (enD k ds)[i]? = some d → ∃ e, d = .tuple [.int ((k + i : Nat) : Int), e] ∧ ds[i]? = some e
  | [], _, _, _, h => by simp [enD] at h
  | e :: ds, k, 0, d, h => by
    have z : PyData.tuple [.int k, e] = d := by simpa [enD] using h
    exact ⟨e, by rw [← z]; rfl, rfl⟩
  | e :: ds, k, i + 1, d, h => by
    obtain ⟨u, h1, h2⟩ := enD_get (ds := ds) (k := k + 1) (i := i) (by simpa [enD] using h)
    exact ⟨u, by rw [h1, show k + 1 + i = k + (i + 1) from by omega], by simpa using h2⟩
def asLst : PyData → Option (List PyData)
  | .list ds => some ds
  | _ => none
def iEn (f : En → Option PyData) : En → Option (List PyData) := fun ρ => ((f ρ).bind asLst).map (enD 0)
section
variable {X : Cx} {a b c e : Expr} {es : List Expr} {fa fb fc f : En → Option PyData} {fs : En → Option (List PyData)} {pos p : Pos} {x : Str} {tg : Expr} {tf : En → Option Bool}
theorem di_enum {elts : List Expr} {kk : Nat} {tpos : Pos} (he : DE X e f) (hg : Gl X "enumerate") (hm : X.mg "enumerate" = none) (hs1 : starEach (e :: []) X.env = (false, eval e X.env) :: starEach [] X.env := by rfl) (hs : starEach [e] X.env = [(false, eval e X.env)] := by rfl) :
    DI X (.Tuple elts kk tpos) (.Call (.Name "enumerate" p) [e] [] pos) (iEn f) := by
  obtain ⟨t, pt, q⟩ := he
  refine ⟨_, pi_enumF hg hm (pa_cons pt pa_nil hs1) hs, fun σ H1 H ρ ds R s h k => ?_⟩
  obtain ⟨es, hz, rfl⟩ := map_some h
  clear h
  obtain ⟨d1, h1, hy⟩ := bind_some hz
  clear hz
  refine q σ H1 H ρ d1 _ s h1 fun v H1' H' x dv => ?_
  cases d1 <;> try (cases hy)
  cases dv with
  | lst hs hl dl =>
    refine ⟨_, _, rfl, x.sub.seq hs, k _ H1' H' x (by rw [enD_len]; exact hl) ?_⟩
    intro G1 G s1 s2 i
    have t1 := (s1.trans s2).seq hs
    refine ⟨fun d z => ?_, fun l => ⟨_, t1, by rw [enD_len] at l; rw [dl.length]; exact l⟩⟩
    obtain ⟨u, rfl, z2⟩ := enD_get z
    obtain ⟨v, g1, g2⟩ := dl.get z2
    refine ⟨⟨_, v, t1, g1⟩, fun y G' ⟨y1, pa, f1⟩ => ?_⟩
    have b1 := f1 _ t1
    rw [g1] at b1
    cases b1
    rw [Nat.zero_add]
    exact pair_den s2 pa (.int _) (Den.mono s1 _ _ g2)
end
end Dv

namespace Dv
open PySem PySem.Spec PyProof.Rows L2

/-! ### rows of ints in the order of tuples -/
def lexLe : List Int → List Int → Bool
  | [], _ => true
  | _ :: _, [] => false
  | a :: r, b :: q => decide (a < b) || (decide (a = b) && lexLe r q)
theorem lexLe_cons {a b : Int} {r q : List Int} : lexLe (a :: r) (b :: q) = true ↔ a < b ∨ (a = b ∧ lexLe r q = true) := by
  show (decide (a < b) || (decide (a = b) && lexLe r q)) = true ↔ _
  rw [Bool.or_eq_true, Bool.and_eq_true, decide_eq_true_eq, decide_eq_true_eq]
theorem lexLe_trans : ∀ {a b c : List Int}, lexLe a b = true → lexLe b c = true → lexLe a c = true
  | [], _, _, _, _ => rfl
  | _ :: _, [], _, h, _ => by cases h
  | _ :: _, _ :: _, [], _, h => by cases h
  | x :: a, y :: b, z :: c, h1, h2 => by
    rw [lexLe_cons] at *
    rcases h1 with h1 | ⟨h1, h3⟩
    · rcases h2 with h2 | ⟨h2, h4⟩
      · left; omega
      · left; omega
    · rcases h2 with h2 | ⟨h2, h4⟩
      · left; omega
      · right; exact ⟨by omega, lexLe_trans h3 h4⟩
theorem lexLe_total : ∀ (a b : List Int), (lexLe a b || lexLe b a) = true
  | [], _ => rfl
  | _ :: _, [] => rfl
  | x :: a, y :: b => by
    rw [Bool.or_eq_true, lexLe_cons, lexLe_cons]
    have ih := lexLe_total a b
    rw [Bool.or_eq_true] at ih
    rcases Int.lt_trichotomy x y with c | c | c
    · exact .inl (.inl c)
    · rcases ih with ih | ih
      · exact .inl (.inr ⟨c, ih⟩)
      · exact .inr (.inr ⟨c.symm, ih⟩)
    · exact .inr (.inl c)
theorem lexLe_anti : ∀ {a b : List Int}, lexLe a b = true → lexLe b a = true → a = b
  | [], [], _, _ => rfl
  | [], _ :: _, _, h => by cases h
  | _ :: _, [], h, _ => by cases h
  | x :: a, y :: b, h1, h2 => by
    rw [lexLe_cons] at *
    have e : x = y := by omega
    subst e
    rw [lexLe_anti (a := a) (b := b) (h1.elim (fun h => absurd h (Int.lt_irrefl _)) fun h => h.2) (h2.elim (fun h => absurd h (Int.lt_irrefl _)) fun h => h.2)]
theorem lexLe_refl : ∀ a : List Int, lexLe a a = true
  | [] => rfl
  | x :: a => lexLe_cons.mpr (.inr ⟨rfl, lexLe_refl a⟩)
/-- sorted(set(rows)) -/
def ssT (rs : List (List Int)) : List (List Int) := rs.eraseDups.mergeSort lexLe
theorem nodup_eraseDups {α : Type} [BEq α] [LawfulBEq α] : ∀ (n : Nat) (l : List α), l.length ≤ n → l.eraseDups.Nodup
  | _, [], _ => by simp
  | 0, _ :: _, h => by simp at h
  | n + 1, a :: l, h => by
    rw [List.eraseDups_cons, List.nodup_cons]
    refine ⟨?_, nodup_eraseDups n _ ?_⟩
    · rw [List.mem_eraseDups, List.mem_filter]
      simp
    · have := List.length_filter_le (fun b => !b == a) l
      rw [List.length_cons] at h
      omega
theorem eraseDups_len {α : Type} [BEq α] [LawfulBEq α] : ∀ (n : Nat) (l : List α), l.length ≤ n → l.eraseDups.length ≤ l.length
  | _, [], _ => by simp
  | 0, _ :: _, h => by simp at h
  | n + 1, a :: l, h => by
    rw [List.eraseDups_cons, List.length_cons, List.length_cons]
    have h1 := List.length_filter_le (fun b => !b == a) l
    rw [List.length_cons] at h
    have := eraseDups_len n (l.filter fun b => !b == a) (by omega)
    omega
theorem ssT_mem {rs : List (List Int)} {r : List Int} : r ∈ ssT rs ↔ r ∈ rs := by
  unfold ssT
  rw [(List.mergeSort_perm _ _).mem_iff, List.mem_eraseDups]
theorem ssT_nodup (rs : List (List Int)) : (ssT rs).Nodup := by
  unfold ssT
  rw [(List.mergeSort_perm _ _).nodup_iff]
  exact nodup_eraseDups _ _ (Nat.le_refl _)
theorem ssT_pw (rs : List (List Int)) : (ssT rs).Pairwise (fun a b => lexLe a b = true) :=
  List.pairwise_mergeSort (le := lexLe) (fun _ _ _ h1 h2 => lexLe_trans h1 h2) lexLe_total _
theorem ssT_eq {rs X : List (List Int)} (h1 : X.Nodup) (h2 : ∀ r, r ∈ X ↔ r ∈ rs) (h3 : X.Pairwise (fun a b => lexLe a b = true)) : X = ssT rs :=
  List.Perm.eq_of_pairwise (fun a b _ _ h1 h2 => lexLe_anti h1 h2) h3 (ssT_pw rs) ((List.perm_ext_iff_of_nodup h1 (ssT_nodup rs)).mpr fun r => by rw [h2, ssT_mem])
theorem ssT_congr {rs qs : List (List Int)} (h : ∀ r, r ∈ rs ↔ r ∈ qs) : ssT rs = ssT qs := ssT_eq (ssT_nodup rs) (fun r => by rw [ssT_mem, h]) (ssT_pw rs)
theorem code_lex : ∀ {a b : List Int}, a.length = b.length → TS.Bd 64 a → TS.Bd 64 b → TS.code 64 a ≤ TS.code 64 b → lexLe a b = true
  | [], [], _, _, _, _ => rfl
  | [], _ :: _, h, _, _, _ => by simp at h
  | _ :: _, [], h, _, _, _ => by simp at h
  | x :: a, y :: b, hl, h1, h2, h => by
    rw [List.length_cons, List.length_cons] at hl
    have hl' : a.length = b.length := by omega
    rw [lexLe_cons]
    rcases Int.lt_trichotomy x y with c | c | c
    · exact .inl c
    · subst c
      refine .inr ⟨rfl, code_lex hl' h1.tail h2.tail ?_⟩
      have := (TS.code_same (B := 64) (d := x) (r := b) (q := a) hl'.symm)
      omega
    · have := TS.code_lt (B := 64) hl'.symm h2.tail h1.tail c
      omega
def rowsD : List PyData → Option (List (List Int))
  | [] => some []
  | .tuple ds :: rest => (intsD ds).bind fun r => (rowsD rest).map fun rs => r :: rs
  | _ :: _ => none
theorem rowsD_map : ∀ rs : List (List Int), rowsD (rs.map fun r => PyData.tuple (r.map PyData.int)) = some rs
  | [] => rfl
  | r :: rs => by
    show (intsD (r.map PyData.int)).bind _ = _
    rw [intsD_map]
    show (rowsD (rs.map fun r => PyData.tuple (r.map PyData.int))).map _ = _
    rw [rowsD_map rs]
    rfl
theorem rowsD_den {K : PySem.W.Frag} {H : Hp} : ∀ {ds : List PyData} {rs : List (List Int)} {xs : List V}, rowsD ds = some rs → DenL K H xs ds → ∃ ks : List (Addr × List Int), xs = ks.map (fun p => V.ref p.1) ∧ ks.map (·.2) = rs ∧ ∀ p ∈ ks, Den K H (.ref p.1) (.tuple (p.2.map PyData.int)) ∧ SqT K H p.1 (p.2.map V.int)
  | [], _, _, h, hx => by
    cases h
    cases hx
    exact ⟨[], rfl, rfl, by simp⟩
  | d :: ds, rs, _, h, hx => by
    cases d <;> try (cases h)
    rename_i es
    obtain ⟨r, h1, h⟩ := bind_some h
    obtain ⟨rs', h2, rfl⟩ := map_some h
    cases hx with
    | cons a b =>
      obtain ⟨ks, e1, e2, e3⟩ := rowsD_den h2 b
      cases a with
      | tup hs hl dl =>
        have ev := intsD_vals h1 dl
        subst ev
        rename_i adr
        refine ⟨(adr, r) :: ks, by rw [List.map_cons, e1], by rw [List.map_cons, e2], fun p hp => ?_⟩
        rcases List.mem_cons.mp hp with rfl | hp
        · exact ⟨.tup hs (by have := dl.length; rw [List.length_map] at this; rw [List.length_map]; show r.length ≤ sizeLine; omega) (DenL.ints r), hs⟩
        · exact e3 p hp
def okRows (rs : List (List Int)) : Bool := decide (rs.length < 64) && rs.all fun r => decide (r.length = (rs.headD [0]).length) && decide (1 ≤ r.length) && r.all fun x => decide (0 ≤ x) && decide (x < 64)
theorem okRows_ok {rs : List (List Int)} (h : okRows rs = true) : rs.length < 64 ∧ ∃ d, 1 ≤ d ∧ ∀ r ∈ rs, r.length = d ∧ TS.Bd 64 r := by
  unfold okRows at h
  rw [Bool.and_eq_true, decide_eq_true_eq, List.all_eq_true] at h
  obtain ⟨h1, h2⟩ := h
  refine ⟨h1, ?_⟩
  match rs, h2 with
  | [], _ => exact ⟨1, Nat.le_refl _, by simp⟩
  | r :: rs, h2 =>
    have h0 := h2 r List.mem_cons_self
    simp only [Bool.and_eq_true, decide_eq_true_eq, List.all_eq_true] at h0
    refine ⟨r.length, h0.1.2, fun q hq => ?_⟩
    have h3 := h2 q hq
    simp only [Bool.and_eq_true, decide_eq_true_eq, List.all_eq_true, List.headD_cons] at h3
    exact ⟨of_decide_eq_true h3.1.1, fun m hm => h3.2 m hm⟩
def sortSetD : PyData → Option (List PyData)
  | .list ds => (rowsD ds).bind fun rs => if okRows rs = true then some ((ssT rs).map fun r => PyData.tuple (r.map PyData.int)) else none
  | _ => none
def eSortSet (f : En → Option PyData) : En → Option (List PyData) := fun ρ => (f ρ).bind sortSetD
section
variable {X : Cx} {a b c e : Expr} {es : List Expr} {fa fb fc f : En → Option PyData} {fs : En → Option (List PyData)} {pos p : Pos} {x : Str} {tg : Expr} {tf : En → Option Bool}
theorem den_rows {K : PySem.W.Frag} {H : Hp} : ∀ {ks : List (Addr × List Int)}, (∀ p ∈ ks, Den K H (.ref p.1) (.tuple (p.2.map PyData.int))) → DenL K H (ks.map fun p => V.ref p.1) ((ks.map (·.2)).map fun r => PyData.tuple (r.map PyData.int))
  | [], _ => .nil
  | p :: ks, h => .cons (h p List.mem_cons_self) (den_rows fun q hq => h q (List.mem_cons_of_mem _ hq))
theorem dl_sortSet {p2 q2 : Pos} (hc : X.calm = true) (hg : Gl X "sorted") (hm : X.mg "sorted" = none) (hg2 : Gl X "set") (hm2 : X.mg "set" = none) (hu : X.A.units + 64 < cLine) (he : DE X e f)
    (n1 : starEach (.Call (.Name "set" p2) [e] [] q2 :: []) X.env = (false, eval (.Call (.Name "set" p2) [e] [] q2) X.env) :: starEach [] X.env := by rfl) (n2 : starEach (e :: []) X.env = (false, eval e X.env) :: starEach [] X.env := by rfl) :
    DL X (.Call (.Name "sorted" p) [.Call (.Name "set" p2) [e] [] q2] [] pos) (eSortSet f) := by
  obtain ⟨t, pt, q⟩ := he
  refine ⟨_, pe_callB (cr_sortedT hc) hg hm (by decide +kernel) (pa_cons (pe_callTy (cr_setOfT hc hu) hg2 hm2 PyProof.Rows.boot_set (pa_cons pt pa_nil n2) (he := n2) (hpl := by rfl)) pa_nil n1) (he := n1) (hpl := by rfl), fun σ H1 H ρ cs Q s h k => ?_⟩
  obtain ⟨d1, h1, h⟩ := bind_some h
  cases d1 <;> try (cases h)
  rename_i ds
  obtain ⟨rs, h2, h⟩ := bind_some h
  obtain ⟨ok, rfl⟩ := of_if h
  obtain ⟨o1, d, o2, o3⟩ := okRows_ok ok
  refine q σ H1 H ρ _ _ s h1 fun v H1' H' x dv => ?_
  cases dv with
  | lst hs hl dl =>
    obtain ⟨ks, rfl, e2, e3⟩ := rowsD_den h2 dl
    subst e2
    have hks : ∀ p ∈ ks, p.2.length = d ∧ TS.Bd 64 p.2 := fun p hp => o3 p.2 (List.mem_map_of_mem hp)
    refine ⟨_, ks, rfl, x.sub.seq hs, fun p hp => sqT_mono0 x.sub (e3 p hp).2, by rw [List.length_map] at o1; exact o1, fun A L nA sub all => ?_⟩
    have x2 : Ext H1' H' H1' (upd H' A (SetTO X.prog X.w A L)) := .newMut x.sub nA
    refine ⟨A, L, d, 64, rfl, upd_same, fun p hp => sqT_mono0 x2.sub (e3 p (sub p hp)).2, o2, fun p hp => hks p (sub p hp), fun L' P pm nd few pw nP => ?_⟩
    have x3 : Ext H1' (upd H' A (SetTO X.prog X.w A L)) H1' (upd (upd H' A (SetTO X.prog X.w A L)) P (.lst (L'.map fun q => V.ref q.1))) := .newMut x2.sub nP
    have xx := (x.trans x2).trans x3
    have hsub : ∀ p ∈ L', p ∈ ks := fun p hp => sub p (pm.mem_iff.mp hp)
    have er : L'.map (·.2) = ssT (ks.map (·.2)) := by
      refine ssT_eq nd (fun r => ?_) ?_
      · rw [List.mem_map, List.mem_map]
        constructor
        · rintro ⟨p, hp, rfl⟩
          exact ⟨p, hsub p hp, rfl⟩
        · rintro ⟨p, hp, rfl⟩
          obtain ⟨p', hp', e⟩ := List.mem_map.mp (all p hp)
          exact ⟨p', pm.mem_iff.mpr hp', e⟩
      · rw [List.pairwise_map]
        refine List.Pairwise.imp_of_mem (fun {u v} hu hv huv => ?_) pw
        obtain ⟨a1, a2⟩ := hks u (hsub u hu)
        obtain ⟨b1, b2⟩ := hks v (hsub v hv)
        exact code_lex (a1.trans b1.symm) a2 b2 huv
    rw [← er] at k
    refine k P _ H1' _ xx ?_ upd_same (x2.sub.free nP) ?_ (den_rows fun p hp => (e3 p (hsub p hp)).1)
    · exact (Ext.same s.sub (x.trans x2)).free nP
    · rw [List.length_map, List.length_map, sizeLine_eq]; omega
/-! ### str(int) -/
def strD (ds : List PyData) : Option PyData := match ds with
  | [.int i] => if i.natAbs < 1000000000 then some (.str (toString i)) else none
  | _ => none
theorem v_str {K : PySem.W.Frag} : VN K (fun xs H Q => ∃ i : Int, xs = [.int i] ∧ i.natAbs.log2 < 1920 ∧ Q (.str (toString i)) H) strD := by
  intro xs ds c H1 H Q sm dx h k
  unfold strD at h
  split at h
  · obtain ⟨hl, rfl⟩ := of_if h
    rename_i i
    have e := DenL.ints_of (ns := [i]) dx
    subst e
    refine ⟨i, rfl, ?_, k _ H1 H (.refl sm) (.str _)⟩
    by_cases z : i.natAbs = 0
    · rw [z]; decide
    · rw [Nat.log2_lt z]
      refine Nat.lt_trans hl (Nat.lt_of_lt_of_le (show 1000000000 < 2 ^ 30 by decide) (Nat.pow_le_pow_right (by decide) (by decide)))
  · cases h

/-! ### x in xs, xs a list that the def changes -/
def eInM (i : Nat) (f : En → Option PyData) : En → Option PyData := fun ρ => (f ρ).bind fun d => match ρ[i]? with
  | some (some (.ml ds)) => inD d (.list ds)
  | _ => none
def eNinM (i : Nat) (f : En → Option PyData) : En → Option PyData := fun ρ => (f ρ).bind fun d => match ρ[i]? with
  | some (some (.ml ds)) => ninD d (.list ds)
  | _ => none
theorem ml_dp {K : PySem.W.Frag} {H1 H : Hp} {σ : L2.St} {ρ : En} {i : Nat} {ds : List PyData} (s : Sok K H1 H σ ρ) (e : ρ[i]? = some (some (.ml ds))) : ∃ v, σ[i]? = some (some v) ∧ Dp K H v (.list ds) := by
  obtain ⟨A, vs, eσ, hA, nA, hl, dl⟩ := s.ml e
  exact ⟨_, eσ, .lst (.of hA) (DenL.dp ds vs (DenL.mono s.sub _ _ dl))⟩
theorem den_ml {K : PySem.W.Frag} {H1 H : Hp} {A : Addr} {vs : List V} {ds : List PyData} (s : Same H1 H) (hA : H A = some (.lst vs)) (dl : DenL K H1 vs ds) : Dp K H (.ref A) (.list ds) :=
  .lst (.of hA) (DenL.dp ds vs (DenL.mono s _ _ dl))
theorem de_ninM (i : Nat) {x : Str} {px : Pos} (hu : X.A.units + 64 < cLine) (ha : DE X a fa) (hN : X.N[i]? = some x := by rfl) (hv : Vis X.env.scope x := by first | exact Or.inl rfl | exact Or.inr (Or.inl rfl) | exact Or.inr (Or.inr rfl)) (hd : (x == ("__debug__" : Str)) = false := by decide)
    (hcd : (x == ("__classdict__" : Str)) = false := by decide) (hm : behindInMarks .NotIn (.Name x px) = false := by rfl) : DE X (.Compare a [.NotIn] [.Name x px] pos) (eNinM i fa) := by
  obtain ⟨ta, pa, qa⟩ := ha
  refine ⟨_, pe_cmpR (op_ninA hu) pa (pe_var hN hv hd hcd) hm, fun σ H1 H ρ d Q s h k => ?_⟩
  obtain ⟨d1, h1, h⟩ := bind_some h
  split at h
  · rename_i ds em
    obtain ⟨A, vs, eσ, hA, nA, hl, dl⟩ := s.ml em
    refine qa σ H1 H ρ d1 _ s h1 fun v H1' H' x dv => ⟨_, eσ, ?_⟩
    obtain ⟨nA', hA'⟩ := x.fr A _ hA nA
    unfold ninD at h
    split at h
    · rename_i hg
      rw [Bool.and_eq_true] at hg
      cases h
      have gl := good_lay hg.2
      have gd := good_depth hg.2
      exact ⟨d1, ds, Den.dp _ _ (Den.mono x.sub _ _ dv), .inl (den_ml (x.st.trans x.sub) hA' dl), hg.1, by simpa only [PyData.canLay0] using gl, by simp only [PyData.depth] at gd; omega, k _ _ _ x (.bl _)⟩
    · cases h
  · cases h
theorem dt_ninM (i : Nat) {x : Str} {px : Pos} (hu : X.A.units + 64 < cLine) (ha : DE X a fa) (hN : X.N[i]? = some x := by rfl) (hv : Vis X.env.scope x := by first | exact Or.inl rfl | exact Or.inr (Or.inl rfl) | exact Or.inr (Or.inr rfl)) (hd : (x == ("__debug__" : Str)) = false := by decide)
    (hcd : (x == ("__classdict__" : Str)) = false := by decide) (hm : behindInMarks .NotIn (.Name x px) = false := by rfl) : DT X (.Compare a [.NotIn] [.Name x px] pos) (tB (eNinM i fa)) := by
  obtain ⟨ta, pa, qa⟩ := ha
  refine ⟨_, pt_cmpR (op_ninA hu) pa (pe_var hN hv hd hcd) hm, fun σ H1 H ρ d Q s h k => ?_⟩
  obtain ⟨d0, h, hb⟩ := bind_some h
  have e := asB_some hb
  subst e
  obtain ⟨d1, h1, h⟩ := bind_some h
  split at h
  · rename_i ds em
    obtain ⟨A, vs, eσ, hA, nA, hl, dl⟩ := s.ml em
    refine qa σ H1 H ρ d1 _ s h1 fun v H1' H' x dv => ⟨_, eσ, ?_⟩
    obtain ⟨nA', hA'⟩ := x.fr A _ hA nA
    unfold ninD at h
    split at h
    · rename_i hg
      rw [Bool.and_eq_true] at hg
      cases h
      have gl := good_lay hg.2
      have gd := good_depth hg.2
      exact ⟨d1, ds, Den.dp _ _ (Den.mono x.sub _ _ dv), .inl (den_ml (x.st.trans x.sub) hA' dl), hg.1, by simpa only [PyData.canLay0] using gl, by simp only [PyData.depth] at gd; omega, _, rfl, k _ _ x⟩
    · cases h
  · cases h
end
end Dv

namespace Dv
open PySem PySem.Spec PyProof.Rows L2

/-! ### how the functions of the slots are reckoned -/
section
variable {ρ : En} {f f' g fa fb fc : En → Option PyData} {fs fi : En → Option (List PyData)} {t u : En → Option Bool} {s s' : En → Option Out} {d e : PyData} {ds : List PyData} {i j : Nat}
@[simp] theorem eC_ap : eC d ρ = some d := rfl
@[simp] theorem eVar_0 : eVar 0 (some (.im d) :: ρ) = some d := rfl
@[simp] theorem eVar_s {x} : eVar (i + 1) (x :: ρ) = eVar i ρ := rfl
@[simp] theorem e1_ap {h} : e1 h f ρ = (f ρ).bind h := rfl
@[simp] theorem e2_ap {h} : e2 h f g ρ = (f ρ).bind fun d => (g ρ).bind fun e => h d e := rfl
@[simp] theorem e2L_ap {h} : e2L h f g ρ = (f ρ).bind fun d => (g ρ).bind fun e => h d e := rfl
@[simp] theorem eN_ap {h} : eN h fs ρ = (fs ρ).bind h := rfl
@[simp] theorem eNL_ap {h} : eNL h fs ρ = (fs ρ).bind h := rfl
@[simp] theorem eL_ap : eL fs ρ = (fs ρ).map PyData.list := rfl
@[simp] theorem eNil_ap : eNil ρ = some [] := rfl
@[simp] theorem eCons_ap : eCons f fs ρ = (f ρ).bind fun d => (fs ρ).map fun ds => d :: ds := rfl
@[simp] theorem tB_ap : tB f ρ = (f ρ).bind asB := rfl
@[simp] theorem asB_b {b} : asB (.bool b) = some b := rfl
@[simp] theorem tAndD_ap : tAndD t u ρ = (t ρ).bind fun b => if b = true then u ρ else some false := rfl
@[simp] theorem tOrD_ap : tOrD t u ρ = (t ρ).bind fun b => if b = true then some true else u ρ := rfl
@[simp] theorem tNotD_ap : tNotD t ρ = (t ρ).map fun b => !b := rfl
@[simp] theorem eAnd_ap : eAnd f g ρ = (tB f ρ).bind fun b => if b = true then g ρ else some (.bool false) := rfl
@[simp] theorem eOr_ap : eOr f g ρ = (tB f ρ).bind fun b => if b = true then some (.bool true) else g ρ := rfl
@[simp] theorem eNot_ap : eNot f ρ = (tB f ρ).map fun b => .bool (!b) := rfl
@[simp] theorem eIf_ap : eIf t f g ρ = (t ρ).bind fun b => if b = true then f ρ else g ρ := rfl
@[simp] theorem gN_ap : gN i d ρ = some (ρ.set i (some (.im d))) := rfl
@[simp] theorem sNil_ap : sNil ρ = some (.nx ρ) := rfl
@[simp] theorem sSeq_ap : sSeq s s' ρ = (s ρ).bind (thenD s') := rfl
@[simp] theorem thenD_nx : thenD s (.nx ρ) = s ρ := rfl
@[simp] theorem thenD_rt : thenD s (.rt d) = some (.rt d) := rfl
@[simp] theorem sAsg_ap {h} : sAsg f h ρ = (f ρ).bind fun d => (h d ρ).map Out.nx := rfl
@[simp] theorem sAsgL_ap : sAsgL i fs ρ = (fs ρ).map fun ds => .nx (ρ.set i (some (.ml ds))) := rfl
@[simp] theorem sIf_ap : sIf t s s' ρ = (t ρ).bind fun b => if b = true then s ρ else s' ρ := rfl
@[simp] theorem sRet_ap : sRet f ρ = (f ρ).map Out.rt := rfl
@[simp] theorem sFor_ap {h} : sFor fi h s ρ = (fi ρ).bind fun ds => forD h s ds ρ := rfl
@[simp] theorem sFrz_ap : sFrz i s ρ = s (frz i ρ) := rfl
@[simp] theorem forD_nil {h} : forD h s [] ρ = some (.nx ρ) := rfl
@[simp] theorem forD_cons {h} : forD h s (d :: ds) ρ = (h d ρ).bind fun ρ1 => (s ρ1).bind (loopD (forD h s ds)) := rfl
@[simp] theorem loopD_nx {go} : loopD go (.nx ρ) = go ρ := rfl
@[simp] theorem loopD_rt {go} : loopD go (.rt d) = some (.rt d) := rfl
@[simp] theorem gT_ap {n gs} : gT n gs (.tuple ds) ρ = if ds.length = n then gs ds ρ else none := rfl
@[simp] theorem gConsD_ap {h gs} : gConsD h gs (d :: ds) ρ = (h d ρ).bind fun ρ' => gs ds ρ' := rfl
@[simp] theorem gNilD_ap : gNilD [] ρ = some ρ := rfl
@[simp] theorem iSq_ap : iSq f ρ = (f ρ).bind asSeq := rfl
@[simp] theorem asSeq_l : asSeq (.list ds) = some ds := rfl
@[simp] theorem asSeq_t : asSeq (.tuple ds) = some ds := rfl
@[simp] theorem eLc_ap {spl is ow} : eLc fi spl is ow t f ρ = (fi ρ).bind fun ds => lcD spl is t f (wipeE ρ ow) ds := rfl
@[simp] theorem tYesD_ap : tYesD ρ = some true := rfl
@[simp] theorem oNo_ap : oNo ρ = some none := rfl
@[simp] theorem oSo_ap : oSo f ρ = (f ρ).bind asI := rfl
@[simp] theorem asI_i {k} : asI (.int k) = some (some k) := rfl
@[simp] theorem eSl_ap {l h} : eSl f l h ρ = (f ρ).bind fun d => (l ρ).bind fun lo => (h ρ).bind fun hi => slD lo hi d := rfl
@[simp] theorem slD_l {lo hi} : slD lo hi (.list ds) = some (.list (cutD ds lo hi)) := rfl
@[simp] theorem slD_t {lo hi} : slD lo hi (.tuple ds) = some (.tuple (cutD ds lo hi)) := rfl
@[simp] theorem setAllW_0 {is} : setAllW ρ [] is = ρ := rfl
@[simp] theorem setAllW_c {is} : setAllW ρ (i :: is) (d :: ds) = setAllW (ρ.set i (some (.im d))) is ds := rfl
@[simp] theorem wipeE_0 : wipeE ρ [] = ρ := rfl
@[simp] theorem wipeE_c {is} : wipeE ρ (i :: is) = (wipeE ρ is).set i none := rfl
@[simp] theorem splN_ap : splN d = some [d] := rfl
@[simp] theorem splT_ap {n} : splT n (.tuple ds) = if ds.length = n then some ds else none := rfl
@[simp] theorem outD_rt : outD (some (.rt d)) = some d := rfl
@[simp] theorem outD_nx : outD (some (.nx ρ)) = some .none := rfl
/-! lists that the def changes -/
@[simp] theorem gSubM_ap : gSubM i f d ρ = (f ρ).bind fun k => gSubK i k d ρ := rfl
@[simp] theorem gSubK_0 {k : Int} {ρ : En} : gSubK 0 (.int k) d (some (.ml ds) :: ρ) = (ixN ds.length k).map fun j => some (.ml (ds.set j d)) :: ρ := rfl
@[simp] theorem gSubK_s {k : Int} {x} : gSubK (i + 1) (.int k) d (x :: ρ) = (gSubK i (.int k) d ρ).map fun r => x :: r := by
  unfold gSubK
  simp only [List.getElem?_cons_succ]
  cases ρ[i]? with
  | none => rfl
  | some w =>
    cases w with
    | none => rfl
    | some w =>
      cases w with
      | ml ds =>
        simp only [Option.map_map]
        rfl
      | _ => rfl
def idxK (i : Nat) (k : PyData) (ρ : En) : Option PyData := match k, ρ[i]? with
  | .int n, some (some (.ml ds)) => atI ds n
  | _, _ => none
theorem eIdxM_ap : eIdxM i f ρ = (f ρ).bind fun k => idxK i k ρ := rfl
@[simp] theorem idxK_0 {k : Int} : idxK 0 (.int k) (some (.ml ds) :: ρ) = atI ds k := rfl
@[simp] theorem idxK_s {k : PyData} {x} : idxK (i + 1) k (x :: ρ) = idxK i k ρ := rfl
@[simp] theorem eTupM_0 : eTupM 0 (some (.ml ds) :: ρ) = some (.tuple ds) := rfl
@[simp] theorem eTupM_s {x} : eTupM (i + 1) (x :: ρ) = eTupM i ρ := rfl
@[simp] theorem eLenM_0 : eLenM 0 (some (.ml ds) :: ρ) = some (.int ds.length) := rfl
@[simp] theorem eLenM_s {x} : eLenM (i + 1) (x :: ρ) = eLenM i ρ := rfl
@[simp] theorem sApp_ap : sApp i f ρ = (f ρ).bind fun d => (appK i d ρ).map Out.nx := rfl
theorem appK_0 (h : ds.length < 16777216) : appK 0 d (some (.ml ds) :: ρ) = some (some (.ml (ds ++ [d])) :: ρ) := if_pos (by rw [sizeLine_eq]; exact h)
@[simp] theorem appK_s {x} : appK (i + 1) d (x :: ρ) = (appK i d ρ).map fun r => x :: r := by
  unfold appK
  simp only [List.getElem?_cons_succ]
  cases ρ[i]? with
  | none => rfl
  | some w =>
    cases w with
    | none => rfl
    | some w =>
      cases w with
      | ml ds =>
        simp only
        split <;> rfl
      | _ => rfl
@[simp] theorem frz_0 : frz 0 (some (.ml ds) :: ρ) = some (.im (.list ds)) :: ρ := rfl
@[simp] theorem frz_s {x} : frz (i + 1) (x :: ρ) = x :: frz i ρ := by
  unfold frz
  simp only [List.getElem?_cons_succ]
  cases ρ[i]? with
  | none => rfl
  | some w =>
    cases w with
    | none => rfl
    | some w => cases w <;> rfl
/-! ### data -/
@[simp] theorem addD_i {a b} : addD (.int a) (.int b) = some (.int (a + b)) := rfl
@[simp] theorem subD_i {a b} : subD (.int a) (.int b) = some (.int (a - b)) := rfl
@[simp] theorem negD_i {a} : negD (.int a) = some (.int (-a)) := rfl
@[simp] theorem ltD_i {a b} : ltD (.int a) (.int b) = some (.bool (decide (a < b))) := rfl
@[simp] theorem leD_i {a b} : leD (.int a) (.int b) = some (.bool (decide (a ≤ b))) := rfl
@[simp] theorem gtD_i {a b} : gtD (.int a) (.int b) = some (.bool (decide (b < a))) := rfl
@[simp] theorem geD_i {a b} : geD (.int a) (.int b) = some (.bool (decide (b ≤ a))) := rfl
theorem sz : (sizeLine : Nat) = 16777216 := sizeLine_eq
theorem addD_t {a b : List PyData} (h : a.length + b.length ≤ 16777216) : addD (.tuple a) (.tuple b) = some (.tuple (a ++ b)) := if_pos (by rw [sz]; exact h)
theorem addD_l {a b : List PyData} (h : a.length + b.length ≤ 16777216) : addD (.list a) (.list b) = some (.list (a ++ b)) := if_pos (by rw [sz]; exact h)
theorem catD_l {a b : List PyData} (h : a.length + b.length ≤ 16777216) : catD (.list a) (.list b) = some (a ++ b) := if_pos (by rw [sz]; exact h)
theorem mulD_l {a b : Int} (h : -(2 ^ 64) < a ∧ a < 2 ^ 64) : mulD2 (.int a) (.int b) = some (.int (a * b)) := if_pos (by unfold cMul; simp only [Bool.or_eq_true, decide_eq_true_eq]; omega)
theorem mulD_r {a b : Int} (h : -(2 ^ 64) < b ∧ b < 2 ^ 64) : mulD2 (.int a) (.int b) = some (.int (a * b)) := if_pos (by unfold cMul; simp only [Bool.or_eq_true, decide_eq_true_eq]; omega)
theorem modD_i {a b : Int} (h : 0 < b) : modD (.int a) (.int b) = some (.int (a % b)) := if_pos h
theorem fdivD_i {a b : Int} (h : 0 < b ∧ b < 1073741824) : fdivD (.int a) (.int b) = some (.int (a / b)) := if_pos ⟨h.1, by omega⟩
@[simp] theorem lenD_l : lenD [.list ds] = some (.int ds.length) := rfl
@[simp] theorem lenD_t : lenD [.tuple ds] = some (.int ds.length) := rfl
@[simp] theorem tupD_l : tupD [.list ds] = some (.tuple ds) := rfl
@[simp] theorem tupD_t : tupD [.tuple ds] = some (.tuple ds) := rfl
@[simp] theorem listD_l : listD [.list ds] = some ds := rfl
@[simp] theorem listD_t : listD [.tuple ds] = some ds := rfl
theorem minD2_i {a b : Int} : minD2 [.int a, .int b] = some (.int (min a b)) := by
  show some (PyData.int (if b < a then b else a)) = _
  congr 2
  omega
theorem maxD2_i {a b : Int} : maxD2 [.int a, .int b] = some (.int (max a b)) := by
  show some (PyData.int (if b > a then b else a)) = _
  congr 2
  omega
@[simp] theorem idxD_l {k} : idxD (.list ds) (.int k) = atI ds k := rfl
@[simp] theorem idxD_t {k} : idxD (.tuple ds) (.int k) = atI ds k := rfl
theorem mkT_ap (h : ds.length ≤ 16777216) : mkT ds = some (.tuple ds) := if_pos (by rw [sz]; exact h)
theorem mkL_ap (h : ds.length ≤ 16777216) : mkL ds = some ds := if_pos (by rw [sz]; exact h)
@[simp] theorem mkT_0 : mkT [] = some (.tuple []) := mkT_ap (by simp)
@[simp] theorem mkT_1 {a} : mkT [a] = some (.tuple [a]) := mkT_ap (by simp)
@[simp] theorem mkT_2 {a b} : mkT [a, b] = some (.tuple [a, b]) := mkT_ap (by simp)
@[simp] theorem mkL_0 : mkL [] = some [] := mkL_ap (by simp)
@[simp] theorem mkL_1 {a} : mkL [a] = some [a] := mkL_ap (by simp)
theorem rg1_i {k : Int} (h : 0 ≤ k ∧ k ≤ 16777216) : rg1 [.int k] = some (rng 0 k.toNat) := if_pos (by omega)
theorem rg2_i {a b : Int} (h : -4194304 ≤ a ∧ a ≤ 4194304 ∧ -4194304 ≤ b ∧ b ≤ 4194304) : rg2 [.int a, .int b] = some (rng a (b - a).toNat) := if_pos ⟨by omega, by omega⟩
@[simp] theorem eRg1_ap : eRg1 f ρ = (f ρ).bind rngD1 := rfl
@[simp] theorem eRg1T_ap : eRg1T f ρ = ((f ρ).bind rngD1).map PyData.tuple := rfl
theorem rngD1_i {k : Int} (h : 0 ≤ k ∧ k ≤ 4194304) : rngD1 (.int k) = some (rng 0 k.toNat) := by
  show (if rgOkB 0 k = true then some (rng 0 (k - 0).toNat) else none) = _
  rw [if_pos (by unfold rgOkB; simp; omega), Int.sub_zero]
theorem rg3_i {i j c : Int} {n : Nat} (h : rg3n i j c = some n) : rg3 [.int i, .int j, .int c] = some (rngC i c n) := by
  unfold rg3
  simp only [h, Option.map_some]
theorem rg3n_dn {i j : Int} {n : Nat} (h : i.natAbs ≤ 4194304) (h2 : j.natAbs ≤ 4194304) (hn : (i - j).toNat = n) : rg3n i j (-1) = some n := by
  unfold rg3n
  rw [if_pos ⟨h, h2⟩, if_pos rfl, hn]
theorem rg3n_two {i j : Int} {n : Nat} (h : i.natAbs ≤ 4194304) (h2 : j.natAbs ≤ 4194304) (hn : (j - i + 1).toNat / 2 = n) : rg3n i j 2 = some n := by
  unfold rg3n
  rw [if_pos ⟨h, h2⟩, if_neg (by decide), if_pos rfl, hn]
@[simp] theorem eChain_ap {h h' : PyData → PyData → Option PyData} : eChain h h' fa fb fc ρ = (fa ρ).bind fun d => (fb ρ).bind fun e => ((h d e).bind asB).bind fun b => if b = true then (fc ρ).bind fun c => ((h' e c).bind asB).map PyData.bool else some (.bool false) := rfl
theorem eqD_bb (a b : Bool) : eqD (.bool a) (.bool b) = some (.bool (decide (a = b))) := by cases a <;> cases b <;> rfl
theorem neD_bb (a b : Bool) : neD (.bool a) (.bool b) = some (.bool (!decide (a = b))) := by cases a <;> cases b <;> rfl
theorem sortedD_t (ns : List Int) : sortedD [.tuple (ns.map PyData.int)] = some ((srt ns).map PyData.int) := by
  show (intsD (ns.map PyData.int)).map _ = _
  rw [intsD_map]
  rfl
theorem sortedD_l (ns : List Int) : sortedD [.list (ns.map PyData.int)] = some ((srt ns).map PyData.int) := by
  show (intsD (ns.map PyData.int)).map _ = _
  rw [intsD_map]
  rfl
@[simp] theorem eSortSet_ap : eSortSet f ρ = (f ρ).bind sortSetD := rfl
theorem iEn_ap : iEn f ρ = ((f ρ).bind asLst).map (enD 0) := rfl
theorem atI_i {ds : List PyData} {k : Int} {n : Nat} {d : PyData} (hk : k = (n : Int)) (h : ds[n]? = some d) : atI ds k = some d := by
  subst hk
  exact atI_nat h

/-! ### good data, equality -/
def goodN (n : Nat) (d : PyData) : Prop := d.canLay0 = true ∧ d.depth ≤ n
theorem goodN.mono {n m : Nat} (h : goodN n d) (l : n ≤ m) : goodN m d := ⟨h.1, Nat.le_trans h.2 l⟩
theorem good_of {n : Nat} (h : goodN n d) (l : n ≤ 60 := by decide) : good d = true := by
  unfold good
  rw [h.1, decide_eq_true (Nat.le_trans h.2 l)]
  rfl
theorem goodN_int {k : Int} {n : Nat} : goodN n (.int k) := ⟨by simp [PyData.canLay0], by simp [PyData.depth]⟩
theorem goodN_bool {k : Bool} {n : Nat} : goodN n (.bool k) := ⟨by simp [PyData.canLay0], by simp [PyData.depth]⟩
theorem goodN_none {n : Nat} : goodN n .none := ⟨by simp [PyData.canLay0], by simp [PyData.depth]⟩
theorem all_lay {n : Nat} : ∀ {ds : List PyData}, (∀ d ∈ ds, goodN n d) → PyData.canLayAll0 ds = true ∧ PyData.depthAll ds ≤ n
  | [], _ => ⟨by simp [PyData.canLayAll0], by simp [PyData.depthAll]⟩
  | d :: ds, h => by
    obtain ⟨h1, h2⟩ := all_lay (ds := ds) fun x hx => h x (List.mem_cons_of_mem _ hx)
    obtain ⟨h3, h4⟩ := h d List.mem_cons_self
    exact ⟨by simp [PyData.canLayAll0, h1, h3], by simp only [PyData.depthAll]; omega⟩
theorem goodN_tuple {n : Nat} (h : ∀ d ∈ ds, goodN n d) : goodN (n + 1) (.tuple ds) := ⟨by simp only [PyData.canLay0]; exact (all_lay h).1, by simp only [PyData.depth]; have := (all_lay h).2; omega⟩
theorem goodN_list {n : Nat} (h : ∀ d ∈ ds, goodN n d) : goodN (n + 1) (.list ds) := ⟨by simp only [PyData.canLay0]; exact (all_lay h).1, by simp only [PyData.depth]; have := (all_lay h).2; omega⟩
/-! data without truths: equality is equality -/
mutual
def noB : PyData → Bool
  | .bool _ => false
  | .list ds => noBs ds
  | .tuple ds => noBs ds
  | .dict _ => false
  | _ => true
def noBs : List PyData → Bool
  | [] => true
  | d :: ds => noB d && noBs ds
end
mutual
theorem eqv_iff : ∀ (d e : PyData), noB d = true → noB e = true → (PyData.eqv d e = true ↔ d = e)
  | .none, e, _, h => by cases e <;> simp [PyData.eqv, noB] at *
  | .bool _, _, h, _ => by simp [noB] at h
  | .int i, e, _, h => by cases e <;> simp [PyData.eqv, noB] at *
  | .str i, e, _, h => by cases e <;> simp [PyData.eqv, noB] at *
  | .dict _, _, h, _ => by simp [noB] at h
  | .list ds, e, h1, h => by
    cases e with
    | list es =>
      simp only [noB] at h1 h
      simp only [PyData.eqv, PyData.list.injEq]
      exact eqvAll_iff ds es h1 h
    | _ => simp [PyData.eqv]
  | .tuple ds, e, h1, h => by
    cases e with
    | tuple es =>
      simp only [noB] at h1 h
      simp only [PyData.eqv, PyData.tuple.injEq]
      exact eqvAll_iff ds es h1 h
    | _ => simp [PyData.eqv]
theorem eqvAll_iff : ∀ (ds es : List PyData), noBs ds = true → noBs es = true → (PyData.eqvAll ds es = true ↔ ds = es)
  | [], [], _, _ => by simp [PyData.eqvAll]
  | [], _ :: _, _, _ => by simp [PyData.eqvAll]
  | _ :: _, [], _, _ => by simp [PyData.eqvAll]
  | d :: ds, e :: es, h1, h2 => by
    simp only [noBs, Bool.and_eq_true] at h1 h2
    simp only [PyData.eqvAll, Bool.and_eq_true, List.cons.injEq, eqv_iff d e h1.1 h2.1, eqvAll_iff ds es h1.2 h2.2]
end
theorem noBs_all : ∀ {ds : List PyData}, (∀ d ∈ ds, noB d = true) → noBs ds = true
  | [], _ => rfl
  | d :: ds, h => by
    show (noB d && noBs ds) = true
    rw [h d List.mem_cons_self, noBs_all fun x hx => h x (List.mem_cons_of_mem _ hx)]
    rfl
/-- plain: good and without truths -/
def pl (n : Nat) (d : PyData) : Prop := goodN n d ∧ noB d = true
theorem pl.mono {n m : Nat} (h : pl n d) (l : n ≤ m) : pl m d := ⟨h.1.mono l, h.2⟩
theorem pl_int {k : Int} {n : Nat} : pl n (.int k) := ⟨goodN_int, rfl⟩
theorem pl_none {n : Nat} : pl n .none := ⟨goodN_none, rfl⟩
theorem pl_tuple {n : Nat} (h : ∀ d ∈ ds, pl n d) : pl (n + 1) (.tuple ds) := ⟨goodN_tuple fun d hd => (h d hd).1, noBs_all fun d hd => (h d hd).2⟩
theorem pl_list {n : Nat} (h : ∀ d ∈ ds, pl n d) : pl (n + 1) (.list ds) := ⟨goodN_list fun d hd => (h d hd).1, noBs_all fun d hd => (h d hd).2⟩
theorem pl_two {n : Nat} {a b : PyData} (ha : pl n a) (hb : pl n b) : pl (n + 1) (.tuple [a, b]) := pl_tuple fun d hd => by
  rcases List.mem_cons.mp hd with rfl | hd
  · exact ha
  · rw [List.mem_singleton] at hd; subst hd; exact hb
theorem eqv_dec (h1 : noB d = true) (h2 : noB e = true) [Decidable (d = e)] : PyData.eqv d e = decide (d = e) := by
  have := eqv_iff d e h1 h2
  cases hq : PyData.eqv d e
  · rw [hq] at this
    exact (decide_eq_false fun z => by simpa using this.mpr z).symm
  · exact (decide_eq_true (this.mp hq)).symm
theorem eqD_pl {n m : Nat} (h1 : pl n d) (h2 : pl m e) {p : Prop} [Decidable p] (hp : d = e ↔ p) (l1 : n ≤ 60 := by decide) (l2 : m ≤ 60 := by decide) : eqD d e = some (.bool (decide p)) := by
  unfold eqD
  rw [good_of h1.1 l1, good_of h2.1 l2]
  have := (eqv_iff d e h1.2 h2.2).trans hp
  have e2 : PyData.eqv d e = decide p := by
    cases hq : PyData.eqv d e
    · exact (decide_eq_false fun z => by rw [hq] at this; simpa using this.mpr z).symm
    · exact (decide_eq_true (this.mp hq)).symm
  rw [e2]
  rfl
theorem neD_pl {n m : Nat} (h1 : pl n d) (h2 : pl m e) {p : Prop} [Decidable p] (hp : d = e ↔ p) (l1 : n ≤ 60 := by decide) (l2 : m ≤ 60 := by decide) : neD d e = some (.bool (!decide p)) := by
  have := eqD_pl h1 h2 hp l1 l2
  unfold eqD at this
  unfold neD
  rw [good_of h1.1 l1, good_of h2.1 l2] at this ⊢
  simp only [Bool.and_true, if_true, Option.some.injEq, PyData.bool.injEq] at this ⊢
  rw [this]
@[simp] theorem eqD_i {a b : Int} : eqD (.int a) (.int b) = some (.bool (decide (a = b))) := eqD_pl (n := 0) (m := 0) pl_int pl_int (by simp)
@[simp] theorem neD_i {a b : Int} : neD (.int a) (.int b) = some (.bool (!decide (a = b))) := neD_pl (n := 0) (m := 0) pl_int pl_int (by simp)
@[simp] theorem isN_n : isN d .none = some (.bool (isNonB d)) := rfl
@[simp] theorem notN_n : notN d .none = some (.bool (!isNonB d)) := rfl
@[simp] theorem isNonB_n : isNonB .none = true := rfl
@[simp] theorem isNonB_t : isNonB (.tuple ds) = false := rfl
/-- an empty list -/
theorem eqD_nil {n : Nat} (h : ∀ d ∈ ds, pl n d) (l : n + 1 ≤ 60 := by decide) : eqD (.list ds) (.list []) = some (.bool ds.isEmpty) := by
  rw [eqD_pl (p := ds = []) (pl_list h) (pl_list (n := 0) (ds := []) (by simp)) (by simp) l]
  cases ds <;> simp
theorem neD_nil {n : Nat} (h : ∀ d ∈ ds, pl n d) (l : n + 1 ≤ 60 := by decide) : neD (.list ds) (.list []) = some (.bool (!ds.isEmpty)) := by
  rw [neD_pl (p := ds = []) (pl_list h) (pl_list (n := 0) (ds := []) (by simp)) (by simp) l]
  cases ds <;> simp

/-! ### comprehensions -/
theorem lcD_spec {α : Type} {spl : PyData → Option (List PyData)} {is : List Nat} {ft : En → Option Bool} {fe : En → Option PyData} {ρ : En} (enc : α → PyData) (parts : α → List PyData) (p : α → Bool) (h : α → PyData) :
    ∀ (xs : List α), (∀ x ∈ xs, spl (enc x) = some (parts x) ∧ ft (setAllW ρ is (parts x)) = some (p x) ∧ (p x = true → fe (setAllW ρ is (parts x)) = some (h x))) → lcD spl is ft fe ρ (xs.map enc) = some ((xs.filter p).map h)
  | [], _ => rfl
  | x :: xs, H => by
    obtain ⟨h1, h2, h3⟩ := H x List.mem_cons_self
    have ih := lcD_spec enc parts p h xs fun y hy => H y (List.mem_cons_of_mem _ hy)
    show (spl (enc x)).bind _ = _
    rw [h1]
    show (ft (setAllW ρ is (parts x))).bind _ = _
    rw [h2]
    show (if p x = true then _ else _) = _
    rw [ih]
    by_cases hp : p x = true
    · rw [if_pos hp, h3 hp, List.filter_cons_of_pos hp]
      rfl
    · rw [if_neg hp, List.filter_cons_of_neg hp]
theorem lcD_map {α : Type} {spl : PyData → Option (List PyData)} {is : List Nat} {fe : En → Option PyData} {ρ : En} (enc : α → PyData) (parts : α → List PyData) (h : α → PyData) (xs : List α)
    (H : ∀ x ∈ xs, spl (enc x) = some (parts x) ∧ fe (setAllW ρ is (parts x)) = some (h x)) : lcD spl is tYesD fe ρ (xs.map enc) = some (xs.map h) := by
  have := lcD_spec (spl := spl) (is := is) (ft := tYesD) (fe := fe) (ρ := ρ) enc parts (fun _ => true) h xs fun x hx => ⟨(H x hx).1, rfl, fun _ => (H x hx).2⟩
  rw [this, List.filter_eq_self.mpr fun _ _ => rfl]
/-- a target that is one name -/
theorem lcD_mapN {α : Type} {i : Nat} {fe : En → Option PyData} {ρ : En} (enc h : α → PyData) (xs : List α) (H : ∀ x ∈ xs, fe (ρ.set i (some (.im (enc x)))) = some (h x)) : lcD splN [i] tYesD fe ρ (xs.map enc) = some (xs.map h) :=
  lcD_map enc (fun x => [enc x]) h xs fun x hx => ⟨rfl, H x hx⟩
theorem lcD_filN {α : Type} {i : Nat} {ft : En → Option Bool} {fe : En → Option PyData} {ρ : En} (enc : α → PyData) (p : α → Bool) (h : α → PyData) (xs : List α) (H : ∀ x ∈ xs, ft (ρ.set i (some (.im (enc x)))) = some (p x) ∧ (p x = true → fe (ρ.set i (some (.im (enc x)))) = some (h x))) :
    lcD splN [i] ft fe ρ (xs.map enc) = some ((xs.filter p).map h) := lcD_spec enc (fun x => [enc x]) p h xs fun x hx => ⟨rfl, H x hx⟩
end
/-- a loop that keeps to P and never leaves -/
theorem forD_inv {g : PyData → En → Option En} {f : En → Option Out} (P : En → Prop) : ∀ (ds : List PyData), (∀ d ∈ ds, ∀ ρ, P ρ → ∃ ρ1 ρ2, g d ρ = some ρ1 ∧ f ρ1 = some (.nx ρ2) ∧ P ρ2) → ∀ ρ, P ρ → ∃ ρ', forD g f ds ρ = some (.nx ρ') ∧ P ρ'
  | [], _, ρ, h => ⟨ρ, rfl, h⟩
  | d :: ds, H, ρ, h => by
    obtain ⟨ρ1, ρ2, e1, e2, h2⟩ := H d List.mem_cons_self ρ h
    obtain ⟨ρ', e3, h3⟩ := forD_inv P ds (fun d hd => H d (List.mem_cons_of_mem _ hd)) ρ2 h2
    refine ⟨ρ', ?_, h3⟩
    rw [forD_cons, e1, Option.bind_some, e2, Option.bind_some, loopD_nx]
    exact e3
theorem inD_pl {n m : Nat} {d : PyData} {ds : List PyData} (h1 : pl n d) (h2 : ∀ e ∈ ds, pl m e) (p : PyData → Bool) (hp : ∀ e ∈ ds, (e = d ↔ p e = true)) (l1 : n ≤ 60 := by decide) (l2 : m + 1 ≤ 60 := by decide) : inD d (.tuple ds) = some (.bool (ds.any p)) := by
  unfold inD
  rw [good_of h1.1 l1, good_of (pl_tuple h2).1 l2]
  simp only [Bool.and_true, if_true, Option.some.injEq, PyData.bool.injEq]
  rw [Bool.eq_iff_iff, List.any_eq_true, List.any_eq_true]
  constructor
  · rintro ⟨e, he, h⟩
    exact ⟨e, he, (hp e he).mp ((eqv_iff e d (h2 e he).2 h1.2).mp h)⟩
  · rintro ⟨e, he, h⟩
    exact ⟨e, he, (eqv_iff e d (h2 e he).2 h1.2).mpr ((hp e he).mpr h)⟩
theorem ninD_pl {n m : Nat} {d : PyData} {ds : List PyData} (h1 : pl n d) (h2 : ∀ e ∈ ds, pl m e) (p : PyData → Bool) (hp : ∀ e ∈ ds, (e = d ↔ p e = true)) (l1 : n ≤ 60 := by decide) (l2 : m + 1 ≤ 60 := by decide) : ninD d (.tuple ds) = some (.bool (!ds.any p)) := by
  have h := inD_pl h1 h2 p hp l1 l2
  unfold inD at h
  unfold ninD
  rw [good_of h1.1 l1, good_of (pl_tuple h2).1 l2] at h ⊢
  simp only [Bool.and_true, if_true, Option.some.injEq, PyData.bool.injEq] at h ⊢
  rw [h]
/-- a def that has n places, m of them none -/
theorem fnD_ap {n m : Nat} {f : En → Option Out} {ds : List PyData} (h : ds.length = n) : fnD n m f ds = outD (f (ds.map (fun d => some (.im d)) ++ List.replicate m none)) := if_pos h
end Dv

/-! Nets and rows, in plain Lean. -/
namespace Nt
open PySem

abbrev Sw := Nat × Nat
abbrev Net := List Sw
abbrev Row := List Int
def lo (p : Sw) (r : Row) : Int := min (r.getD p.1 0) (r.getD p.2 0)
def hi (p : Sw) (r : Row) : Int := max (r.getD p.1 0) (r.getD p.2 0)
def sw (p : Sw) (r : Row) : Row := (r.set p.1 (lo p r)).set p.2 (hi p r)
def run (n : Net) (r : Row) : Row := n.foldl (fun r p => sw p r) r
def SwOk (w : Nat) (p : Sw) : Prop := p.1 < w ∧ p.2 < w ∧ p.1 ≠ p.2
def Ok (w : Nat) (n : Net) : Prop := ∀ p ∈ n, SwOk w p
theorem sw_len (p : Sw) (r : Row) : (sw p r).length = r.length := by unfold sw; rw [List.length_set, List.length_set]
theorem run_nil (r : Row) : run [] r = r := rfl
theorem run_cons (p : Sw) (n : Net) (r : Row) : run (p :: n) r = run n (sw p r) := rfl
theorem run_app (n m : Net) (r : Row) : run (n ++ m) r = run m (run n r) := by unfold run; rw [List.foldl_append]
theorem run_len : ∀ (n : Net) (r : Row), (run n r).length = r.length
  | [], _ => rfl
  | p :: n, r => by rw [run_cons, run_len n, sw_len]
theorem Ok.nil (w : Nat) : Ok w [] := fun p h => by simp at h
theorem Ok.cons {w : Nat} {p : Sw} {n : Net} (h : SwOk w p) (h' : Ok w n) : Ok w (p :: n) := fun q hq => by
  rcases List.mem_cons.mp hq with rfl | hq
  · exact h
  · exact h' q hq
theorem Ok.head {w : Nat} {p : Sw} {n : Net} (h : Ok w (p :: n)) : SwOk w p := h p List.mem_cons_self
theorem Ok.tail {w : Nat} {p : Sw} {n : Net} (h : Ok w (p :: n)) : Ok w n := fun q hq => h q (List.mem_cons_of_mem _ hq)
theorem Ok.app {w : Nat} {n m : Net} (h : Ok w n) (h' : Ok w m) : Ok w (n ++ m) := fun q hq => (List.mem_append.mp hq).elim (h q) (h' q)
theorem Ok.take {w : Nat} {n : Net} (h : Ok w n) (k : Nat) : Ok w (n.take k) := fun q hq => h q (List.mem_of_mem_take hq)
theorem Ok.drop {w : Nat} {n : Net} (h : Ok w n) (k : Nat) : Ok w (n.drop k) := fun q hq => h q (List.mem_of_mem_drop hq)
theorem getD_map (f : Int → Int) (r : Row) {i : Nat} (h : i < r.length) : (r.map f).getD i 0 = f (r.getD i 0) := by
  simp [List.getD_eq_getElem?_getD, List.getElem?_eq_getElem h]
/-- what stands on a line behind a swap -/
theorem sw_get (p : Sw) (r : Row) (h : SwOk r.length p) (i : Nat) : (sw p r).getD i 0 = if i = p.2 then hi p r else if i = p.1 then lo p r else r.getD i 0 := by
  unfold sw
  rw [List.getD_eq_getElem?_getD, List.getElem?_set, List.getElem?_set, List.length_set]
  obtain ⟨h1, h2, h3⟩ := h
  by_cases e2 : i = p.2
  · subst e2
    rw [if_pos rfl, if_pos h2, if_pos rfl]
    rfl
  · rw [if_neg fun z => e2 z.symm, if_neg e2]
    by_cases e1 : i = p.1
    · subst e1
      rw [if_pos rfl, if_pos h1, if_pos rfl]
      rfl
    · rw [if_neg fun z => e1 z.symm, if_neg e1, List.getD_eq_getElem?_getD]

/-! ### maps that rise -/
def Rises (f : Int → Int) : Prop := ∀ a b, a ≤ b → f a ≤ f b
theorem Rises.min {f : Int → Int} (h : Rises f) (a b : Int) : f (min a b) = min (f a) (f b) := by
  have h1 := h a b
  have h2 := h b a
  by_cases hab : a ≤ b
  · rw [Int.min_eq_left hab, Int.min_eq_left (h1 hab)]
  · rw [Int.min_eq_right (by omega), Int.min_eq_right (h2 (by omega))]
theorem Rises.max {f : Int → Int} (h : Rises f) (a b : Int) : f (max a b) = max (f a) (f b) := by
  have h1 := h a b
  have h2 := h b a
  by_cases hab : a ≤ b
  · rw [Int.max_eq_right hab, Int.max_eq_right (h1 hab)]
  · rw [Int.max_eq_left (by omega), Int.max_eq_left (h2 (by omega))]
theorem sw_map {f : Int → Int} (h : Rises f) {p : Sw} {r : Row} (hp : SwOk r.length p) : sw p (r.map f) = (sw p r).map f := by
  unfold sw lo hi
  rw [getD_map f r hp.1, getD_map f r hp.2.1, ← h.min, ← h.max, List.map_set, List.map_set]
theorem run_map {f : Int → Int} (h : Rises f) : ∀ {n : Net} {r : Row}, Ok r.length n → run n (r.map f) = (run n r).map f
  | [], _, _ => rfl
  | p :: n, r, ok => by
    rw [run_cons, run_cons, sw_map h ok.head, run_map h (by rw [sw_len]; exact ok.tail)]

/-! ### in order -/
def ord : Row → Bool
  | a :: b :: r => decide (a ≤ b) && ord (b :: r)
  | _ => true
theorem ord_iff : ∀ r : Row, ord r = true ↔ ∀ i, i + 1 < r.length → r.getD i 0 ≤ r.getD (i + 1) 0
  | [] => by simp [ord]
  | [a] => by simp [ord]
  | a :: b :: r => by
    unfold ord
    rw [Bool.and_eq_true, decide_eq_true_eq, ord_iff (b :: r)]
    constructor
    · rintro ⟨h1, h2⟩ i hi
      cases i with
      | zero => exact h1
      | succ i => exact h2 i (by simpa using hi)
    · intro h
      exact ⟨h 0 (by simp), fun i hi => h (i + 1) (by simpa using hi)⟩
theorem ord_le {r : Row} (h : ord r = true) : ∀ {i j : Nat}, i ≤ j → j < r.length → r.getD i 0 ≤ r.getD j 0 := fun {i j} hij hj => by
  have key := (ord_iff r).mp h
  induction j with
  | zero => rw [Nat.le_zero.mp hij]; exact Int.le_refl _
  | succ j ih =>
    by_cases e : i = j + 1
    · rw [e]; exact Int.le_refl _
    · exact Int.le_trans (ih (by omega) (by omega)) (key j hj)
theorem ord_of {r : Row} (h : ∀ i j : Nat, i < j → j < r.length → r.getD i 0 ≤ r.getD j 0) : ord r = true := (ord_iff r).mpr fun i hi => h i (i + 1) (by omega) hi
/-- noughts and ones -/
def plain : Nat → List Row
  | 0 => [[]]
  | w + 1 => (plain w).map (fun r => r ++ [0]) ++ (plain w).map (fun r => r ++ [1])
theorem plain_mem : ∀ {w : Nat} {r : Row}, r ∈ plain w ↔ r.length = w ∧ ∀ x ∈ r, x = 0 ∨ x = 1
  | 0, r => by
    unfold plain
    rw [List.mem_singleton]
    constructor
    · rintro rfl; simp
    · rintro ⟨h, _⟩; exact List.eq_nil_of_length_eq_zero h
  | w + 1, r => by
    unfold plain
    rw [List.mem_append, List.mem_map, List.mem_map]
    constructor
    · rintro (⟨q, hq, rfl⟩ | ⟨q, hq, rfl⟩)
      · obtain ⟨h1, h2⟩ := plain_mem.mp hq
        refine ⟨by simp [h1], fun x hx => ?_⟩
        rcases List.mem_append.mp hx with hx | hx
        · exact h2 x hx
        · rw [List.mem_singleton] at hx; exact .inl hx
      · obtain ⟨h1, h2⟩ := plain_mem.mp hq
        refine ⟨by simp [h1], fun x hx => ?_⟩
        rcases List.mem_append.mp hx with hx | hx
        · exact h2 x hx
        · rw [List.mem_singleton] at hx; exact .inr hx
    · rintro ⟨h1, h2⟩
      have hne : r ≠ [] := fun e => by rw [e] at h1; simp at h1
      have e : r.dropLast ++ [r.getLast hne] = r := List.dropLast_concat_getLast hne
      have hq : r.dropLast ∈ plain w := plain_mem.mpr ⟨by rw [List.length_dropLast]; omega, fun x hx => h2 x (List.dropLast_subset _ hx)⟩
      rcases h2 (r.getLast hne) (List.getLast_mem hne) with z | z
      · left
        refine ⟨_, hq, ?_⟩
        rw [z] at e
        exact e
      · right
        refine ⟨_, hq, ?_⟩
        rw [z] at e
        exact e
theorem plain_len (w : Nat) : (plain w).length = 2 ^ w := by
  induction w with
  | zero => rfl
  | succ w ih =>
    unfold plain
    rw [List.length_append, List.length_map, List.length_map, ih]
    omega
def step (c : Int) (x : Int) : Int := if x > c then 1 else 0
theorem step_rises (c : Int) : Rises (step c) := fun a b h => by
  unfold step
  split <;> split <;> omega
theorem step_plain (c : Int) (r : Row) : r.map (step c) ∈ plain r.length := plain_mem.mpr ⟨by rw [List.length_map], fun x hx => by
  obtain ⟨y, _, rfl⟩ := List.mem_map.mp hx
  unfold step
  split
  · exact .inr rfl
  · exact .inl rfl⟩
/-- between two lines: what holds of noughts and ones holds of all -/
theorem zero_one_pair {n : Net} {w i j : Nat} (ok : Ok w n) (h : ∀ q ∈ plain w, (run n q).getD i 0 ≤ (run n q).getD j 0) (hi : i < w) (hj : j < w) {r : Row} (hr : r.length = w) : (run n r).getD i 0 ≤ (run n r).getD j 0 := by
  have hq := h (r.map (step ((run n r).getD j 0))) (by rw [← hr]; exact step_plain _ _)
  rw [run_map (step_rises _) (by rw [hr]; exact ok), getD_map _ _ (by rw [run_len]; omega), getD_map _ _ (by rw [run_len]; omega)] at hq
  unfold step at hq
  split at hq
  · split at hq <;> omega
  · omega
/-- .. for rows of some kind that is kept -/
theorem zero_one_of {n : Net} {w : Nat} (ok : Ok w n) {r : Row} (hr : r.length = w) (h : ∀ c : Int, ord (run n (r.map (step c))) = true) : ord (run n r) = true := by
  refine (ord_iff _).mpr fun i hi => ?_
  rw [run_len] at hi
  have hq := (ord_iff _).mp (h ((run n r).getD (i + 1) 0)) i (by rw [run_len, List.length_map]; exact hi)
  rw [run_map (step_rises _) (by rw [hr]; exact ok), getD_map _ _ (by rw [run_len]; omega), getD_map _ _ (by rw [run_len]; omega)] at hq
  unfold step at hq
  split at hq
  · split at hq <;> omega
  · omega
theorem zero_one {n : Net} {w : Nat} (ok : Ok w n) (h : ∀ q ∈ plain w, ord (run n q) = true) {r : Row} (hr : r.length = w) : ord (run n r) = true :=
  zero_one_of ok hr fun c => h _ (by rw [← hr]; exact step_plain _ _)
end Nt

/-! nets and rows as data -/
namespace Dv
open PySem PySem.Spec PyProof.Rows L2
def swD (p : Nt.Sw) : PyData := .tuple [.int p.1, .int p.2]
def netD (n : Nt.Net) : PyData := .tuple (n.map swD)
def rowD (r : Nt.Row) : PyData := .tuple (r.map .int)
def optRow : Option Nt.Row → PyData
  | none => .none
  | some q => rowD q
theorem opt_non (o : Option Nt.Row) : isNonB (optRow o) = !o.isSome := by cases o <;> rfl
theorem bools_map : ∀ bs : List Bool, bools (bs.map PyData.bool) = some bs
  | [] => rfl
  | b :: bs => by
    show (bools (bs.map PyData.bool)).map (fun c => b :: c) = _
    rw [bools_map bs]
    rfl
theorem at_row {r : Nt.Row} {k : Nat} (h : k < r.length) : atI (r.map PyData.int) (k : Int) = some (.int (r.getD k 0)) :=
  atI_nat (by rw [List.getElem?_map, List.getElem?_eq_getElem h, List.getD_eq_getElem?_getD, List.getElem?_eq_getElem h]; rfl)
theorem ixN_nat {n k : Nat} (h : k < n) : ixN n (k : Int) = some k := by
  unfold ixN
  rw [if_pos (by omega), if_pos (by omega)]
  rfl
theorem map_set_int (r : Nt.Row) (k : Nat) (x : Int) : (r.map PyData.int).set k (.int x) = (r.set k x).map PyData.int := by rw [List.map_set]
theorem pl_sw (p : Nt.Sw) : pl 1 (swD p) := pl_two pl_int pl_int
theorem pl_net (n : Nt.Net) : pl 2 (netD n) := pl_tuple fun d hd => by
  obtain ⟨p, _, rfl⟩ := List.mem_map.mp hd
  exact pl_sw p
theorem pl_row (r : Nt.Row) : pl 1 (rowD r) := pl_tuple fun d hd => by
  obtain ⟨p, _, rfl⟩ := List.mem_map.mp hd
  exact pl_int
theorem ints_inj : ∀ {a b : List Int}, a.map PyData.int = b.map PyData.int → a = b
  | [], [], _ => rfl
  | [], _ :: _, h => by simp at h
  | _ :: _, [], h => by simp at h
  | x :: a, y :: b, h => by
    simp only [List.map_cons, List.cons.injEq, PyData.int.injEq] at h
    rw [h.1, ints_inj h.2]
theorem rowD_inj {a b : Nt.Row} : rowD a = rowD b ↔ a = b := ⟨fun h => ints_inj (PyData.tuple.inj h), fun h => by rw [h]⟩
theorem swD_inj {p q : Nt.Sw} : swD p = swD q ↔ p = q := by
  constructor
  · intro h
    have h := PyData.tuple.inj h
    simp only [List.cons.injEq, PyData.int.injEq, and_true] at h
    obtain ⟨a, b⟩ := p
    obtain ⟨c, d⟩ := q
    simp only at h
    rw [Prod.mk.injEq]
    omega
  · intro h; rw [h]
theorem sws_inj : ∀ {a b : Nt.Net}, a.map swD = b.map swD → a = b
  | [], [], _ => rfl
  | [], _ :: _, h => by simp at h
  | _ :: _, [], h => by simp at h
  | x :: a, y :: b, h => by
    simp only [List.map_cons, List.cons.injEq] at h
    rw [swD_inj.mp h.1, sws_inj h.2]
theorem netD_inj {a b : Nt.Net} : netD a = netD b ↔ a = b := ⟨fun h => sws_inj (PyData.tuple.inj h), fun h => by rw [h]⟩
theorem cut_to {α : Type} (xs : List α) (k : Nat) : cutD xs none (some (k : Int)) = xs.take k := by
  unfold cutD
  rw [HT.sIx_none, HT.sIx_nat, List.drop_zero, Nat.sub_zero]
  by_cases h : k ≤ xs.length
  · rw [Nat.min_eq_left h]
  · rw [Nat.min_eq_right (by omega), List.take_length, List.take_of_length_le (by omega)]
theorem cut_from {α : Type} (xs : List α) (k : Nat) : cutD xs (some (k : Int)) none = xs.drop k := by
  unfold cutD
  rw [HT.sIx_none, HT.sIx_nat]
  by_cases h : k ≤ xs.length
  · rw [Nat.min_eq_left h, List.take_of_length_le (by rw [List.length_drop]; omega)]
  · rw [Nat.min_eq_right (by omega), List.drop_of_length_le (Nat.le_refl _), List.drop_of_length_le (by omega), List.take_nil]
theorem cut_last {α : Type} (xs : List α) : cutD xs none (some (-1)) = xs.dropLast := by
  unfold cutD
  rw [HT.sIx_none]
  have e : HT.sIx xs.length xs.length (some (-1)) = xs.length - 1 := by
    have h := HT.clip_eq (-1) xs.length xs.length
    rw [if_pos (by omega)] at h
    omega
  rw [e, List.drop_zero, Nat.sub_zero, List.dropLast_eq_take]
theorem rng0 (n : Nat) : rng 0 n = (List.range n).map fun i => PyData.int ((i : Nat) : Int) := by
  unfold rng
  refine List.map_congr_left fun i _ => ?_
  rw [Int.zero_add]
theorem kit_tt {ds : List PyData} : isiD "tuple" (.tuple ds) = some (.bool true) := by
  show (kitB "tuple" "tuple").map PyData.bool = _
  rw [show kitB "tuple" "tuple" = some true by decide +kernel]
  rfl
theorem kit_ib {i : Int} : isiD "bool" (.int i) = some (.bool false) := by
  show (kitB "int" "bool").map PyData.bool = _
  rw [show kitB "int" "bool" = some false by decide +kernel]
  rfl
theorem kit_ii {i : Int} : isiD "int" (.int i) = some (.bool true) := by
  show (kitB "int" "int").map PyData.bool = _
  rw [show kitB "int" "int" = some true by decide +kernel]
  rfl
theorem kit_bb {b : Bool} : isiD "bool" (.bool b) = some (.bool true) := by
  show (kitB "bool" "bool").map PyData.bool = _
  rw [show kitB "bool" "bool" = some true by decide +kernel]
  rfl
theorem any_sw (p : Nt.Sw) (n : Nt.Net) : ((n.map swD).any fun e => PyData.eqv e (swD p)) = decide (p ∈ n) := by
  rw [Bool.eq_iff_iff, List.any_eq_true, decide_eq_true_eq]
  constructor
  · rintro ⟨e, he, h⟩
    obtain ⟨q, hq, rfl⟩ := List.mem_map.mp he
    have := (eqv_iff (swD q) (swD p) (pl_sw q).2 (pl_sw p).2).mp h
    rw [← swD_inj.mp this]
    exact hq
  · intro h
    exact ⟨swD p, List.mem_map_of_mem h, (eqv_iff _ _ (pl_sw p).2 (pl_sw p).2).mpr rfl⟩
theorem in_net (p : Nt.Sw) (n : Nt.Net) : inD (swD p) (netD n) = some (.bool (decide (p ∈ n))) := by
  unfold inD netD
  rw [good_of (pl_sw p).1 (by decide), good_of (show pl 2 (.tuple (n.map swD)) from pl_net n).1 (by decide)]
  simp only [Bool.and_true, if_true, any_sw]
theorem nin_net (p : Nt.Sw) (n : Nt.Net) : ninD (swD p) (netD n) = some (.bool (!decide (p ∈ n))) := by
  unfold ninD netD
  rw [good_of (pl_sw p).1 (by decide), good_of (show pl 2 (.tuple (n.map swD)) from pl_net n).1 (by decide)]
  simp only [Bool.and_true, if_true, any_sw]
theorem neD_net (n : Nt.Net) : neD (netD n) (netD n) = some (.bool false) := by
  rw [neD_pl (p := True) (pl_net _) (pl_net _) (by simp)]
  rfl
theorem eqD_net (n : Nt.Net) : eqD (netD n) (netD n) = some (.bool true) := by
  rw [eqD_pl (p := True) (pl_net _) (pl_net _) (by simp)]
  rfl
theorem neD_row (n : Nt.Row) : neD (rowD n) (rowD n) = some (.bool false) := by
  rw [neD_pl (p := True) (pl_row _) (pl_row _) (by simp)]
  rfl
theorem eqD_row (n : Nt.Row) : eqD (rowD n) (rowD n) = some (.bool true) := by
  rw [eqD_pl (p := True) (pl_row _) (pl_row _) (by simp)]
  rfl
theorem add_net {n m : Nt.Net} (h : n.length + m.length ≤ 10000) : addD (netD n) (netD m) = some (netD (n ++ m)) := by
  unfold netD
  rw [addD_t (by rw [List.length_map, List.length_map]; omega), List.map_append]
theorem len_net (n : Nt.Net) : lenD [netD n] = some (.int (n.length : Int)) := by unfold netD; rw [lenD_t, List.length_map]
theorem cut_net_to (n : Nt.Net) (k : Nat) : slD none (some (k : Int)) (netD n) = some (netD (n.take k)) := by unfold netD; rw [slD_t, cut_to, List.map_take]
theorem cut_net_from (n : Nt.Net) (k : Nat) : slD (some (k : Int)) none (netD n) = some (netD (n.drop k)) := by unfold netD; rw [slD_t, cut_from, List.map_drop]
end Dv

/-! k60: t.index(x) of a tuple of ints (over the texts that mkDw.py prints) -/
namespace Dv
open PySem PySem.Spec PyProof.Rows L2
def indexD : PyData → PyData → Option PyData
  | .tuple ds, .int k => (intsD ds).bind fun ns => if k ∈ ns then some (.int ((ns.idxOf k : Nat) : Int)) else none
  | _, _ => none
section
variable {X : Cx} {a b : Expr} {fa fb : En → Option PyData} {apos cpos : Pos}
theorem de_indexB (ha : DE X a fa) (hb : DE X b fb) (pe : ∀ {to te : TE}, PE X a to → PE X b te → PE X (.Call (.Attribute a "index" apos) [b] [] cpos) (tBMB X.K (rIndexB X.K) to (tCons te tNil))) : DE X (.Call (.Attribute a "index" apos) [b] [] cpos) (Dv.e2 indexD fa fb) := by
  obtain ⟨ta, pa, qa⟩ := ha
  obtain ⟨tb, pb, qb⟩ := hb
  refine ⟨_, pe pa pb, fun σ H1 H ρ d Q s h k => ?_⟩
  obtain ⟨d1, h1, h⟩ := bind_some h
  obtain ⟨d2, h2, h⟩ := bind_some h
  unfold indexD at h
  split at h
  · obtain ⟨ns, h3, h⟩ := bind_some h
    obtain ⟨hk, rfl⟩ := of_if h
    refine qa σ H1 H ρ _ _ s h1 fun x H1' H' x1 q1 => ?_
    cases q1 with
    | tup hs hl dl =>
      have e := intsD_vals h3 dl
      subst e
      refine ⟨⟨_, _, rfl, sqB_mono x1.sub hs⟩, qb σ H1' H' ρ _ _ (s.ext x1) h2 fun y H2 H2' x2 q2 => ?_⟩
      cases q2
      exact ⟨_, ns, _, rfl, rfl, sqT_mono (x2.st.trans x2.sub) hs, hk, k _ _ _ (x1.trans x2) (.int _)⟩
  · cases h
theorem index_row {r : List Int} {k : Int} (h : k ∈ r) : indexD (.tuple (r.map PyData.int)) (.int k) = some (.int ((r.idxOf k : Nat) : Int)) := by
  show (intsD (r.map PyData.int)).bind _ = _
  rw [intsD_map]
  exact if_pos h
end
end Dv

namespace Nt
/-! ### nets made straight -/
def stp (o : List Nat) (p : Sw) : List Nat := if o.getD p.2 0 < o.getD p.1 0 then (o.set p.1 (o.getD p.2 0)).set p.2 (o.getD p.1 0) else o
def strT : Net → List Nat → Net × List Nat
  | [], o => ([], o)
  | p :: n, o => (((stp o p).getD p.1 0, (stp o p).getD p.2 0) :: (strT n (stp o p)).1, (strT n (stp o p)).2)
structure OrdOk (w : Nat) (o : List Nat) : Prop where
  len : o.length = w
  lt : ∀ i, i < w → o.getD i 0 < w
  inj : ∀ i j, i < w → j < w → o.getD i 0 = o.getD j 0 → i = j
def Straight (n : Net) : Prop := ∀ p ∈ n, p.1 < p.2
theorem getD_set {α : Type} (l : List α) (i j : Nat) (x d : α) : (l.set i x).getD j d = if i = j ∧ j < l.length then x else l.getD j d := by
  rw [List.getD_eq_getElem?_getD, List.getElem?_set, List.getD_eq_getElem?_getD]
  by_cases h : i = j
  · subst h
    by_cases hl : i < l.length
    · simp [hl]
    · simp [hl]
  · simp [h]
theorem stp_len (o : List Nat) (p : Sw) : (stp o p).length = o.length := by
  unfold stp
  split
  · rw [List.length_set, List.length_set]
  · rfl
theorem stp_get {w : Nat} {o : List Nat} (h : OrdOk w o) {p : Sw} (hp : SwOk w p) {i : Nat} (hi : i < w) : (stp o p).getD i 0 = if o.getD p.2 0 < o.getD p.1 0 then (if i = p.2 then o.getD p.1 0 else if i = p.1 then o.getD p.2 0 else o.getD i 0) else o.getD i 0 := by
  unfold stp
  split
  · rw [getD_set, List.length_set, getD_set, h.len]
    by_cases e2 : i = p.2
    · rw [if_pos ⟨e2.symm, hi⟩, if_pos e2]
    · rw [if_neg (fun z => e2 z.1.symm), if_neg e2]
      by_cases e1 : i = p.1
      · rw [if_pos ⟨e1.symm, hi⟩, if_pos e1]
      · rw [if_neg (fun z => e1 z.1.symm), if_neg e1]
  · rfl
theorem stp_ok {w : Nat} {o : List Nat} (h : OrdOk w o) {p : Sw} (hp : SwOk w p) : OrdOk w (stp o p) := by
  obtain ⟨p1, p2, p3⟩ := hp
  refine ⟨by rw [stp_len]; exact h.len, fun i hi => ?_, fun i j hi hj e => ?_⟩
  · rw [stp_get h ⟨p1, p2, p3⟩ hi]
    have := h.lt i hi
    have := h.lt p.1 p1
    have := h.lt p.2 p2
    split
    · split
      · assumption
      · split <;> assumption
    · assumption
  · rw [stp_get h ⟨p1, p2, p3⟩ hi, stp_get h ⟨p1, p2, p3⟩ hj] at e
    split at e
    · by_cases i2 : i = p.2
      · by_cases j2 : j = p.2
        · omega
        · rw [if_pos i2, if_neg j2] at e
          by_cases j1 : j = p.1
          · rw [if_pos j1] at e; have := h.inj _ _ p1 p2 e; omega
          · rw [if_neg j1] at e; have := h.inj _ _ p1 hj e; omega
      · rw [if_neg i2] at e
        by_cases i1 : i = p.1
        · rw [if_pos i1] at e
          by_cases j2 : j = p.2
          · rw [if_pos j2] at e; have := h.inj _ _ p2 p1 e; omega
          · rw [if_neg j2] at e
            by_cases j1 : j = p.1
            · omega
            · rw [if_neg j1] at e; have := h.inj _ _ p2 hj e; omega
        · rw [if_neg i1] at e
          by_cases j2 : j = p.2
          · rw [if_pos j2] at e; have := h.inj _ _ hi p1 e; omega
          · rw [if_neg j2] at e
            by_cases j1 : j = p.1
            · rw [if_pos j1] at e; have := h.inj _ _ hi p2 e; omega
            · rw [if_neg j1] at e; exact h.inj _ _ hi hj e
    · exact h.inj _ _ hi hj e
theorem stp_lt {w : Nat} {o : List Nat} (h : OrdOk w o) {p : Sw} (hp : SwOk w p) : (stp o p).getD p.1 0 < (stp o p).getD p.2 0 := by
  have ok := stp_ok h hp
  obtain ⟨p1, p2, p3⟩ := hp
  have ne : (stp o p).getD p.1 0 ≠ (stp o p).getD p.2 0 := fun e => p3 (ok.inj _ _ p1 p2 e)
  rw [stp_get h ⟨p1, p2, p3⟩ p1, stp_get h ⟨p1, p2, p3⟩ p2] at ne ⊢
  by_cases c : o.getD p.2 0 < o.getD p.1 0
  · rw [if_pos c, if_pos c, if_neg p3, if_pos rfl, if_pos rfl]
    exact c
  · rw [if_neg c, if_neg c] at ne ⊢
    omega
theorem strT_ok : ∀ {w : Nat} {n : Net} {o : List Nat}, OrdOk w o → Ok w n → OrdOk w (strT n o).2 ∧ Ok w (strT n o).1 ∧ Straight (strT n o).1
  | w, [], o, h, _ => ⟨h, .nil w, fun p hp => by simp [strT] at hp⟩
  | w, p :: n, o, h, ok => by
    have h' := stp_ok h ok.head
    obtain ⟨a, b, c⟩ := strT_ok h' ok.tail
    have lt := stp_lt h ok.head
    refine ⟨a, .cons ⟨h'.lt _ ok.head.1, h'.lt _ ok.head.2.1, Nat.ne_of_lt lt⟩ b, fun q hq => ?_⟩
    rcases List.mem_cons.mp hq with rfl | hq
    · exact lt
    · exact c q hq
theorem strT_len : ∀ (n : Net) (o : List Nat), (strT n o).1.length = n.length
  | [], _ => rfl
  | p :: n, o => by
    show (strT n (stp o p)).1.length + 1 = _
    rw [strT_len n]
    rfl
/-- each line's number stands on the line that the order tells -/
theorem str_run : ∀ {w : Nat} {n : Net} {o : List Nat} {r S : Row}, OrdOk w o → Ok w n → r.length = w → S.length = w → (∀ i, i < w → S.getD (o.getD i 0) 0 = r.getD i 0) → ∀ i, i < w → (run (strT n o).1 S).getD ((strT n o).2.getD i 0) 0 = (run n r).getD i 0
  | w, [], o, r, S, _, _, _, _, h, i, hi => h i hi
  | w, p :: n, o, r, S, ho, ok, hr, hS, h, i, hi => by
    have ho' := stp_ok ho ok.head
    obtain ⟨p1, p2, p3⟩ := ok.head
    have e1 := stp_get ho ok.head p1
    have e2 := stp_get ho ok.head p2
    have q1 := ho'.lt _ p1
    have q2 := ho'.lt _ p2
    have q3 : (stp o p).getD p.1 0 ≠ (stp o p).getD p.2 0 := Nat.ne_of_lt (stp_lt ho ok.head)
    have hp' : SwOk S.length ((stp o p).getD p.1 0, (stp o p).getD p.2 0) := ⟨by rw [hS]; exact q1, by rw [hS]; exact q2, q3⟩
    have hpr : SwOk r.length p := by rw [hr]; exact ok.head
    -- the two numbers that are looked at
    have hlo : lo ((stp o p).getD p.1 0, (stp o p).getD p.2 0) S = lo p r := by
      unfold lo
      simp only [e1, e2]
      by_cases c : o.getD p.2 0 < o.getD p.1 0
      · simp only [if_pos c, if_neg p3, if_true, h _ p1, h _ p2]
        exact Int.min_comm _ _
      · simp only [if_neg c, h _ p1, h _ p2]
    have hhi : Nt.hi ((stp o p).getD p.1 0, (stp o p).getD p.2 0) S = Nt.hi p r := by
      unfold Nt.hi
      simp only [e1, e2]
      by_cases c : o.getD p.2 0 < o.getD p.1 0
      · simp only [if_pos c, if_neg p3, if_true, h _ p1, h _ p2]
        exact Int.max_comm _ _
      · simp only [if_neg c, h _ p1, h _ p2]
    show (run (strT n (stp o p)).1 (sw ((stp o p).getD p.1 0, (stp o p).getD p.2 0) S)).getD ((strT n (stp o p)).2.getD i 0) 0 = (run n (sw p r)).getD i 0
    refine str_run ho' ok.tail (by rw [sw_len]; exact hr) (by rw [sw_len]; exact hS) (fun j hj => ?_) i hi
    rw [sw_get _ _ hp', sw_get _ _ hpr, hlo, hhi]
    simp only
    by_cases j2 : j = p.2
    · rw [if_pos j2, if_pos (by rw [j2])]
    · rw [if_neg j2, if_neg (fun e => j2 (ho'.inj _ _ hj p2 e))]
      by_cases j1 : j = p.1
      · rw [if_pos j1, if_pos (by rw [j1])]
      · rw [if_neg j1, if_neg (fun e => j1 (ho'.inj _ _ hj p1 e)), stp_get ho ok.head hj]
        by_cases c : o.getD p.2 0 < o.getD p.1 0
        · rw [if_pos c, if_neg j2, if_neg j1, h _ hj]
        · rw [if_neg c, h _ hj]
/-- a straight swap leaves a row in order as it is -/
theorem sw_ord {p : Sw} {r : Row} (h : ord r = true) (hp : SwOk r.length p) (lt : p.1 < p.2) : sw p r = r := by
  have le := ord_le h (Nat.le_of_lt lt) hp.2.1
  refine List.ext_getElem (sw_len p r) fun i h1 h2 => ?_
  have e := sw_get p r hp i
  rw [List.getD_eq_getElem?_getD, List.getElem?_eq_getElem h1] at e
  have e' : (sw p r)[i] = if i = p.2 then Nt.hi p r else if i = p.1 then lo p r else r.getD i 0 := e
  rw [e']
  have g : r.getD i 0 = r[i] := by rw [List.getD_eq_getElem?_getD, List.getElem?_eq_getElem h2]; rfl
  by_cases i2 : i = p.2
  · rw [if_pos i2, ← g, i2]
    exact Int.max_eq_right le
  · rw [if_neg i2]
    by_cases i1 : i = p.1
    · rw [if_pos i1, ← g, i1]
      exact Int.min_eq_left le
    · rw [if_neg i1, g]
theorem run_ord : ∀ {n : Net} {r : Row}, ord r = true → Ok r.length n → Straight n → run n r = r
  | [], _, _, _, _ => rfl
  | p :: n, r, h, ok, st => by
    rw [run_cons, sw_ord h ok.head (st p List.mem_cons_self)]
    exact run_ord h ok.tail fun q hq => st q (List.mem_cons_of_mem _ hq)
def ids (w : Nat) : List Nat := List.range w
theorem ids_ok (w : Nat) : OrdOk w (ids w) := by
  have g : ∀ i, i < w → (ids w).getD i 0 = i := fun i hi => by
    unfold ids
    rw [List.getD_eq_getElem?_getD, List.getElem?_range hi]
    rfl
  exact ⟨List.length_range, fun i hi => by rw [g i hi]; exact hi, fun i j hi hj e => by rw [g i hi, g j hj] at e; exact e⟩
theorem ids_get {w i : Nat} (hi : i < w) : (ids w).getD i 0 = i := by
  unfold ids
  rw [List.getD_eq_getElem?_getD, List.getElem?_range hi]
  rfl
def idRow (w : Nat) : Row := (List.range w).map fun i => ((i : Nat) : Int)
theorem idRow_len (w : Nat) : (idRow w).length = w := by unfold idRow; rw [List.length_map, List.length_range]
theorem idRow_get {w i : Nat} (hi : i < w) : (idRow w).getD i 0 = (i : Int) := by
  unfold idRow
  rw [List.getD_eq_getElem?_getD, List.getElem?_map, List.getElem?_range hi]
  rfl
theorem idRow_ord (w : Nat) : ord (idRow w) = true := (ord_iff _).mpr fun i hi => by
  rw [idRow_len] at hi
  rw [idRow_get (by omega), idRow_get hi]
  omega
/-- an order that rises is none -/
theorem ord_ids {w : Nat} {o : List Nat} (h : OrdOk w o) (r : ∀ i, i + 1 < w → o.getD i 0 ≤ o.getD (i + 1) 0) : o = ids w := by
  have lt : ∀ i, i + 1 < w → o.getD i 0 < o.getD (i + 1) 0 := fun i hi => by
    have a := r i hi
    have b : o.getD i 0 ≠ o.getD (i + 1) 0 := fun e => by have := h.inj _ _ (by omega) hi e; omega
    omega
  have up : ∀ i, i < w → i ≤ o.getD i 0 := fun i => by
    induction i with
    | zero => intro _; exact Nat.zero_le _
    | succ i ih => intro hi; have := ih (by omega); have := lt i hi; omega
  have down : ∀ k i, i + k + 1 = w → o.getD i 0 ≤ i := fun k => by
    induction k with
    | zero => intro i hi; have := h.lt i (by omega); omega
    | succ k ih => intro i hi; have := ih (i + 1) (by omega); have := lt i (by omega); omega
  refine List.ext_getElem (by rw [h.len]; unfold ids; rw [List.length_range]) fun i h1 h2 => ?_
  have hi : i < w := by rw [← h.len]; exact h1
  have e : o.getD i 0 = i := Nat.le_antisymm (down (w - 1 - i) i (by omega)) (up i hi)
  rw [List.getD_eq_getElem?_getD, List.getElem?_eq_getElem h1] at e
  have e3 : (ids w)[i] = i := by
    unfold ids
    exact List.getElem_range _
  rw [e3]
  exact e
theorem row_ext {a b : Row} (hl : a.length = b.length) (h : ∀ i, i < a.length → a.getD i 0 = b.getD i 0) : a = b := by
  refine List.ext_getElem hl fun i h1 h2 => ?_
  have := h i h1
  rwa [List.getD_eq_getElem?_getD, List.getElem?_eq_getElem h1, List.getD_eq_getElem?_getD, List.getElem?_eq_getElem h2] at this
/-- of a net that puts rows in order no lines differ -/
theorem str_sorts {w : Nat} {n : Net} (ok : Ok w n) (h : ∀ r : Row, r.length = w → ord (run n r) = true) : (strT n (ids w)).2 = ids w ∧ ∀ r : Row, r.length = w → run (strT n (ids w)).1 r = run n r := by
  obtain ⟨o1, o2, o3⟩ := strT_ok (ids_ok w) ok
  have key := fun r (hr : r.length = w) => str_run (r := r) (S := r) (ids_ok w) ok hr hr fun i hi => by rw [ids_get hi]
  have e0 := key (idRow w) (idRow_len w)
  have e1 : run (strT n (ids w)).1 (idRow w) = idRow w := run_ord (idRow_ord w) (by rw [idRow_len]; exact o2) o3
  rw [e1] at e0
  have srt := (ord_iff _).mp (h (idRow w) (idRow_len w))
  have e2 : (strT n (ids w)).2 = ids w := ord_ids o1 fun i hi => by
    have a := e0 i (by omega)
    have b := e0 (i + 1) hi
    rw [idRow_get (o1.lt _ (by omega))] at a
    rw [idRow_get (o1.lt _ hi)] at b
    have := srt i (by rw [run_len, idRow_len]; exact hi)
    omega
  refine ⟨e2, fun r hr => ?_⟩
  refine row_ext (by rw [run_len, run_len]) fun i hi => ?_
  rw [run_len, hr] at hi
  have := key r hr i hi
  rw [e2, ids_get hi] at this
  exact this
end Nt

/-! nets turned upside down -/
namespace Nt
def flip (w : Nat) (p : Sw) : Sw := (w - 1 - p.2, w - 1 - p.1)
def trn (w : Nat) (n : Net) : Net := n.map (flip w)
def mir (r : Row) : Row := r.reverse.map fun x => -x
theorem mir_len (r : Row) : (mir r).length = r.length := by unfold mir; rw [List.length_map, List.length_reverse]
theorem mir_get {r : Row} {i : Nat} (h : i < r.length) : (mir r).getD i 0 = -(r.getD (r.length - 1 - i) 0) := by
  unfold mir
  rw [getD_map (fun x => -x) r.reverse (by rw [List.length_reverse]; exact h)]
  simp only [List.getD_eq_getElem?_getD]
  rw [List.getElem?_reverse h]
theorem flip_ok {w : Nat} {p : Sw} (h : SwOk w p) : SwOk w (flip w p) := by
  obtain ⟨h1, h2, h3⟩ := h
  exact ⟨by simp only [flip]; omega, by simp only [flip]; omega, by simp only [flip]; omega⟩
theorem trn_ok {w : Nat} {n : Net} (h : Ok w n) : Ok w (trn w n) := fun q hq => by
  obtain ⟨p, hp, rfl⟩ := List.mem_map.mp hq
  exact flip_ok (h p hp)
theorem flip_flip {w : Nat} {p : Sw} (h : SwOk w p) : flip w (flip w p) = p := by
  obtain ⟨h1, h2, h3⟩ := h
  obtain ⟨a, b⟩ := p
  simp only [flip, Prod.mk.injEq] at *
  omega
theorem trn_trn : ∀ {w : Nat} {n : Net}, Ok w n → trn w (trn w n) = n
  | _, [], _ => rfl
  | w, p :: n, h => by
    show flip w (flip w p) :: trn w (trn w n) = _
    rw [flip_flip h.head, trn_trn h.tail]
theorem mir_mir (r : Row) : mir (mir r) = r := row_ext (by rw [mir_len, mir_len]) fun i hi => by
  rw [mir_len, mir_len] at hi
  rw [mir_get (by rw [mir_len]; exact hi), mir_len, mir_get (by omega)]
  rw [show r.length - 1 - (r.length - 1 - i) = i by omega]
  omega
theorem sw_mir {p : Sw} {r : Row} (h : SwOk r.length p) : sw (flip r.length p) (mir r) = mir (sw p r) := by
  have hf : SwOk (mir r).length (flip r.length p) := by rw [mir_len]; exact flip_ok h
  obtain ⟨h1, h2, h3⟩ := h
  refine row_ext (by rw [sw_len, mir_len, mir_len, sw_len]) fun i hi => ?_
  rw [sw_len, mir_len] at hi
  rw [sw_get _ _ hf, mir_get (r := sw p r) (by rw [sw_len]; exact hi), sw_len, sw_get p r ⟨h1, h2, h3⟩]
  have e1 : (mir r).getD (r.length - 1 - p.2) 0 = -(r.getD p.2 0) := by
    rw [mir_get (by omega)]
    rw [show r.length - 1 - (r.length - 1 - p.2) = p.2 by omega]
  have e2 : (mir r).getD (r.length - 1 - p.1) 0 = -(r.getD p.1 0) := by
    rw [mir_get (by omega)]
    rw [show r.length - 1 - (r.length - 1 - p.1) = p.1 by omega]
  have e3 := mir_get hi
  have el : lo (flip r.length p) (mir r) = min (-(r.getD p.2 0)) (-(r.getD p.1 0)) := by
    show min ((mir r).getD (r.length - 1 - p.2) 0) ((mir r).getD (r.length - 1 - p.1) 0) = _
    rw [e1, e2]
  have eh : Nt.hi (flip r.length p) (mir r) = max (-(r.getD p.2 0)) (-(r.getD p.1 0)) := by
    show max ((mir r).getD (r.length - 1 - p.2) 0) ((mir r).getD (r.length - 1 - p.1) 0) = _
    rw [e1, e2]
  have f2 : (flip r.length p).2 = r.length - 1 - p.1 := rfl
  have f1 : (flip r.length p).1 = r.length - 1 - p.2 := rfl
  rw [el, eh, e3]
  unfold lo Nt.hi
  by_cases c1 : i = (flip r.length p).2
  · rw [if_pos c1, if_neg (by omega), if_pos (by omega)]
    omega
  · rw [if_neg c1]
    by_cases c2 : i = (flip r.length p).1
    · rw [if_pos c2, if_pos (by omega)]
      omega
    · rw [if_neg c2, if_neg (by omega), if_neg (by omega)]
theorem run_mir : ∀ {n : Net} {r : Row}, Ok r.length n → run (trn r.length n) (mir r) = mir (run n r)
  | [], _, _ => rfl
  | p :: n, r, ok => by
    show run (trn r.length n) (sw (flip r.length p) (mir r)) = _
    rw [sw_mir ok.head, run_cons]
    have := run_mir (n := n) (r := sw p r) (by rw [sw_len]; exact ok.tail)
    rw [sw_len] at this
    exact this
theorem mir_ord {r : Row} (h : ord r = true) : ord (mir r) = true := (ord_iff _).mpr fun i hi => by
  rw [mir_len] at hi
  rw [mir_get (by omega), mir_get hi]
  have := ord_le h (i := r.length - 1 - (i + 1)) (j := r.length - 1 - i) (by omega) (by omega)
  omega
def Sorts (w : Nat) (n : Net) : Prop := ∀ r : Row, r.length = w → ord (run n r) = true
theorem sorts_trn {w : Nat} {n : Net} (ok : Ok w n) (h : Sorts w n) : Sorts w (trn w n) := fun r hr => by
  subst hr
  have e := run_mir (n := n) (r := mir r) (by rw [mir_len]; exact ok)
  rw [mir_mir, mir_len] at e
  rw [e]
  exact mir_ord (h _ (mir_len r))
theorem sorts_iff {w : Nat} {n : Net} (ok : Ok w n) : Sorts w n ↔ ∀ q ∈ plain w, ord (run n q) = true :=
  ⟨fun h q hq => h q (plain_mem.mp hq).1, fun h r hr => zero_one ok h hr⟩
end Nt

/-! nets of neighbours alone: they sort all rows when they sort the falling one -/
namespace Nt
def pre (r : Row) : Nat → Int
  | 0 => 0
  | j + 1 => pre r j + r.getD j 0
theorem pre_succ (r : Row) (j : Nat) : pre r (j + 1) = pre r j + r.getD j 0 := rfl
def Bit (r : Row) : Prop := ∀ i, i < r.length → 0 ≤ r.getD i 0 ∧ r.getD i 0 ≤ 1
theorem Bit.sw {p : Sw} {r : Row} (h : Bit r) (hp : SwOk r.length p) : Bit (sw p r) := fun i hi => by
  rw [sw_len] at hi
  rw [sw_get p r hp]
  have h1 := h _ hp.1
  have h2 := h _ hp.2.1
  have h3 := h i hi
  unfold lo Nt.hi
  split
  · omega
  · split <;> omega
def Near (n : Net) : Prop := ∀ p ∈ n, p.2 = p.1 + 1
theorem pre_below {p : Sw} {r : Row} (hp : SwOk r.length p) (hn : p.2 = p.1 + 1) : ∀ j, j ≤ p.1 → pre (sw p r) j = pre r j
  | 0, _ => rfl
  | j + 1, h => by
    rw [pre_succ, pre_succ, pre_below hp hn j (by omega), sw_get p r hp, if_neg (by omega), if_neg (by omega)]
theorem pre_mid {p : Sw} {r : Row} (hp : SwOk r.length p) (hn : p.2 = p.1 + 1) : pre (sw p r) (p.1 + 1) = pre r p.1 + lo p r := by
  rw [pre_succ, pre_below hp hn p.1 (Nat.le_refl _), sw_get p r hp, if_neg (by omega), if_pos rfl]
theorem pre_above {p : Sw} {r : Row} (hp : SwOk r.length p) (hn : p.2 = p.1 + 1) : ∀ j, pre (sw p r) (p.1 + 2 + j) = pre r (p.1 + 2 + j)
  | 0 => by
    show pre (sw p r) (p.1 + 1) + _ = pre r p.1 + _ + _
    rw [pre_mid hp hn, sw_get p r hp, if_pos (by omega)]
    unfold lo Nt.hi
    rw [hn]
    omega
  | j + 1 => by
    show pre (sw p r) (p.1 + 2 + j) + (sw p r).getD (p.1 + 2 + j) 0 = pre r (p.1 + 2 + j) + r.getD (p.1 + 2 + j) 0
    rw [pre_above hp hn j, sw_get p r hp, if_neg (by omega), if_neg (by omega)]
structure Dom (w : Nat) (x y : Row) : Prop where
  lx : x.length = w
  ly : y.length = w
  bx : Bit x
  by_ : Bit y
  all : pre x w = pre y w
  le : ∀ j, j ≤ w → pre y j ≤ pre x j
theorem Dom.sw {w : Nat} {x y : Row} {p : Sw} (d : Dom w x y) (hp : SwOk w p) (hn : p.2 = p.1 + 1) : Dom w (sw p x) (sw p y) := by
  have px : SwOk x.length p := by rw [d.lx]; exact hp
  have py : SwOk y.length p := by rw [d.ly]; exact hp
  have hw : ∃ k, w = p.1 + 2 + k := ⟨w - (p.1 + 2), by have := hp.2.1; omega⟩
  refine ⟨by rw [sw_len, d.lx], by rw [sw_len, d.ly], d.bx.sw px, d.by_.sw py, ?_, fun j hj => ?_⟩
  · obtain ⟨k, rfl⟩ := hw
    rw [pre_above px hn, pre_above py hn]
    exact d.all
  · rcases Nat.lt_or_ge p.1 j with c | c
    · by_cases c2 : j = p.1 + 1
      · subst c2
        rw [pre_mid px hn, pre_mid py hn]
        have l0 := d.le p.1 (by omega)
        have l1 := d.le (p.1 + 1) hj
        have l2 := d.le (p.1 + 2) (by obtain ⟨k, hk⟩ := hw; omega)
        have e1 : pre x (p.1 + 2) = pre x p.1 + x.getD p.1 0 + x.getD p.2 0 := by rw [hn]; rfl
        have e2 : pre y (p.1 + 2) = pre y p.1 + y.getD p.1 0 + y.getD p.2 0 := by rw [hn]; rfl
        rw [pre_succ, pre_succ] at l1
        rw [e1, e2] at l2
        have b1 := d.bx _ px.1
        have b2 := d.bx _ px.2.1
        have b3 := d.by_ _ py.1
        have b4 := d.by_ _ py.2.1
        unfold lo
        omega
      · obtain ⟨k, rfl⟩ : ∃ k, j = p.1 + 2 + k := ⟨j - (p.1 + 2), by omega⟩
        rw [pre_above px hn, pre_above py hn]
        exact d.le _ hj
    · rw [pre_below px hn j c, pre_below py hn j c]
      exact d.le j hj
theorem Dom.run {w : Nat} : ∀ {n : Net} {x y : Row}, Ok w n → Near n → Dom w x y → Dom w (run n x) (run n y)
  | [], _, _, _, _, d => d
  | p :: n, x, y, ok, hn, d => by
    rw [run_cons, run_cons]
    exact Dom.run ok.tail (fun q hq => hn q (List.mem_cons_of_mem _ hq)) (d.sw ok.head (hn p List.mem_cons_self))
theorem pre_ones {r : Row} {i : Nat} : ∀ (k : Nat), (∀ j, i ≤ j → j < i + k → r.getD j 0 = 1) → pre r (i + k) = pre r i + k
  | 0, _ => by simp
  | k + 1, h => by
    show pre r (i + k) + r.getD (i + k) 0 = _
    rw [pre_ones k fun j h1 h2 => h j h1 (by omega), h (i + k) (by omega) (by omega)]
    omega
theorem pre_noughts {r : Row} : ∀ (k : Nat), (∀ j, j < k → r.getD j 0 = 0) → pre r k = 0
  | 0, _ => rfl
  | k + 1, h => by
    rw [pre_succ, pre_noughts k fun j hj => h j (by omega), h k (by omega)]
    rfl
theorem pre_up {r : Row} (b : Bit r) {i : Nat} : ∀ (k : Nat), i + k ≤ r.length → pre r (i + k) ≤ pre r i + k
  | 0, _ => by simp
  | k + 1, h => by
    have := pre_up b (i := i) k (by omega)
    have h2 := b (i + k) (by omega)
    show pre r (i + k) + r.getD (i + k) 0 ≤ _
    omega
theorem pre_nonneg {r : Row} (b : Bit r) : ∀ (k : Nat), k ≤ r.length → 0 ≤ pre r k
  | 0, _ => Int.le_refl _
  | k + 1, h => by
    have := pre_nonneg b k (by omega)
    have h2 := b k (by omega)
    rw [pre_succ]
    omega
theorem pre_mono {r : Row} (b : Bit r) {i : Nat} : ∀ (k : Nat), i + k ≤ r.length → pre r i ≤ pre r (i + k)
  | 0, _ => Int.le_refl _
  | k + 1, h => by
    have := pre_mono b (i := i) k (by omega)
    have h2 := b (i + k) (by omega)
    show _ ≤ pre r (i + k) + r.getD (i + k) 0
    omega
theorem Dom.ord {w : Nat} {x y : Row} (d : Dom w x y) (h : ord x = true) : ord y = true := (ord_iff _).mpr fun i hi => by
  have bi := d.by_ i (by omega)
  have bi1 := d.by_ (i + 1) hi
  rw [d.ly] at hi
  by_cases c : x.getD i 0 = 1
  · have e := pre_ones (r := x) (i := i) (w - i) fun j h1 h2 => by
      have l := ord_le h (i := i) (j := j) h1 (by rw [d.lx]; omega)
      have b := d.bx j (by rw [d.lx]; omega)
      omega
    rw [show i + (w - i) = w by omega] at e
    have u := pre_up d.by_ (i := i + 2) (w - (i + 2)) (by rw [d.ly]; omega)
    rw [show i + 2 + (w - (i + 2)) = w by omega] at u
    have e2 : pre y (i + 2) = pre y i + y.getD i 0 + y.getD (i + 1) 0 := rfl
    have l := d.le i (by omega)
    have a := d.all
    omega
  · have bx := d.bx i (by rw [d.lx]; omega)
    have e := pre_noughts (r := x) (i + 1) fun j hj => by
      have l := ord_le h (i := j) (j := i) (by omega) (by rw [d.lx]; omega)
      have b := d.bx j (by rw [d.lx]; omega)
      omega
    have l := d.le (i + 1) (by omega)
    have z := pre_nonneg d.by_ i (by rw [d.ly]; omega)
    rw [pre_succ y] at l
    omega
/-- the falling row w, .., 1 -/
def fall (w : Nat) : Row := (List.range w).map fun i => (w : Int) + ((i : Nat) : Int) * (-1)
theorem fall_len (w : Nat) : (fall w).length = w := by unfold fall; rw [List.length_map, List.length_range]
theorem fall_get {w i : Nat} (h : i < w) : (fall w).getD i 0 = (w : Int) - i := by
  unfold fall
  simp [List.getD_eq_getElem?_getD, h]
  omega
theorem plain_bit {w : Nat} {q : Row} (h : q ∈ plain w) : Bit q := fun i hi => by
  have := (plain_mem.mp h).2 (q.getD i 0) (by rw [List.getD_eq_getElem?_getD, List.getElem?_eq_getElem hi]; exact List.getElem_mem hi)
  omega
theorem ord_map {f : Int → Int} (hf : Rises f) {r : Row} (h : ord r = true) : ord (r.map f) = true := (ord_iff _).mpr fun i hi => by
  rw [List.length_map] at hi
  rw [getD_map f r (by omega), getD_map f r hi]
  exact hf _ _ ((ord_iff r).mp h i hi)
theorem fall_dom {w : Nat} {q : Row} (h : q ∈ plain w) : ∃ c : Int, Dom w ((fall w).map (step c)) q := by
  have hl := (plain_mem.mp h).1
  have b := plain_bit h
  have k0 := pre_nonneg b w (by omega)
  have k1 := pre_up b (i := 0) w (by omega)
  rw [Nat.zero_add] at k1
  have z : pre q 0 = 0 := rfl
  obtain ⟨k, hk⟩ : ∃ k : Nat, pre q w = (k : Int) := ⟨(pre q w).toNat, by omega⟩
  have hkw : k ≤ w := by omega
  have g : ∀ i, i < w → ((fall w).map (step ((w : Int) - k))).getD i 0 = if i < k then 1 else 0 := fun i hi => by
    rw [getD_map _ _ (by rw [fall_len]; exact hi), fall_get hi]
    unfold step
    by_cases c : i < k
    · rw [if_pos c, if_pos (by omega)]
    · rw [if_neg c, if_neg (by omega)]
  have pg : ∀ j, j ≤ w → pre ((fall w).map (step ((w : Int) - k))) j = ((min j k : Nat) : Int) := fun j => by
    induction j with
    | zero => intro _; simp [pre]
    | succ j ih =>
      intro hj
      rw [pre_succ, ih (by omega), g j (by omega)]
      by_cases c : j < k
      · rw [if_pos c]; omega
      · rw [if_neg c]; omega
  refine ⟨(w : Int) - k, by rw [List.length_map, fall_len], hl, fun i hi => ?_, b, ?_, fun j hj => ?_⟩
  · rw [List.length_map, fall_len] at hi
    rw [g i hi]
    split <;> omega
  · rw [pg w (Nat.le_refl _), hk]; omega
  · rw [pg j hj]
    have u1 := pre_up b (i := 0) j (by omega)
    rw [Nat.zero_add] at u1
    have u2 := pre_mono b (i := j) (w - j) (by omega)
    rw [show j + (w - j) = w by omega] at u2
    omega
theorem near_sorts {w : Nat} {n : Net} (ok : Ok w n) (hn : Near n) (h : ord (run n (fall w)) = true) : ∀ q ∈ plain w, ord (run n q) = true := fun q hq => by
  obtain ⟨c, d⟩ := fall_dom hq
  have d2 := Dom.run ok hn d
  rw [run_map (step_rises c) (by rw [fall_len]; exact ok)] at d2
  exact d2.ord (ord_map (step_rises c) h)
end Nt

namespace Nt
open Dv
theorem ord_pw {r : Row} : ord r = true ↔ r.Pairwise (· ≤ ·) := by
  rw [List.pairwise_iff_getElem]
  constructor
  · intro h i j hi hj hij
    have := ord_le h (i := i) (j := j) (by omega) hj
    simp only [List.getD_eq_getElem?_getD, List.getElem?_eq_getElem hi, List.getElem?_eq_getElem hj] at this
    exact this
  · intro h
    refine ord_of fun i j hij hj => ?_
    have := h i j (by omega) hj hij
    simp only [List.getD_eq_getElem?_getD, List.getElem?_eq_getElem (show i < r.length by omega), List.getElem?_eq_getElem hj]
    exact this
theorem srt_ord (r : Row) : ord (srt r) = true := ord_pw.mpr (srt_pw r)
theorem srt_len (r : Row) : (srt r).length = r.length := (srt_perm r).length_eq
theorem srt_id {r : Row} (h : ord r = true) : srt r = r := (srt_eq (List.Perm.refl r) (ord_pw.mp h)).symm
theorem srt_id_iff {r : Row} : srt r = r ↔ ord r = true := ⟨fun h => h ▸ srt_ord r, srt_id⟩
end Nt

namespace Nt
open Dv
theorem sw_perm {p : Sw} {r : Row} (h : SwOk r.length p) : (sw p r).Perm r := by
  obtain ⟨h1, h2, h3⟩ := h
  by_cases c : r.getD p.1 0 ≤ r.getD p.2 0
  · rw [show sw p r = r from by
      refine row_ext (sw_len p r) fun i hi => ?_
      rw [sw_len] at hi
      rw [sw_get p r ⟨h1, h2, h3⟩]
      unfold lo Nt.hi
      by_cases c1 : i = p.2
      · rw [if_pos c1, c1]; omega
      · rw [if_neg c1]
        by_cases c2 : i = p.1
        · rw [if_pos c2, c2]; omega
        · rw [if_neg c2]]
  · have e : sw p r = (r.set p.1 r[p.2]).set p.2 r[p.1] := by
      unfold sw lo Nt.hi
      have e1 : r.getD p.1 0 = r[p.1] := by rw [List.getD_eq_getElem?_getD, List.getElem?_eq_getElem h1]; rfl
      have e2 : r.getD p.2 0 = r[p.2] := by rw [List.getD_eq_getElem?_getD, List.getElem?_eq_getElem h2]; rfl
      rw [e1, e2] at c ⊢
      rw [Int.min_eq_right (by omega), Int.max_eq_left (by omega)]
    rw [e]
    exact List.set_set_perm h1 h2
theorem run_perm : ∀ {n : Net} {r : Row}, Ok r.length n → (run n r).Perm r
  | [], _, _ => List.Perm.refl _
  | p :: n, r, ok => by
    rw [run_cons]
    exact (run_perm (by rw [sw_len]; exact ok.tail)).trans (sw_perm ok.head)
theorem srt_run {n : Net} {r : Row} (ok : Ok r.length n) : srt (run n r) = srt r := (srt_eq ((srt_perm _).trans (run_perm ok)) (srt_pw _))
end Nt

/-! orders, settled lines -/
namespace Nt
open Dv
def idR (w : Nat) : Row := (List.range w).map fun i => ((i : Nat) : Int)
theorem idR_len (w : Nat) : (idR w).length = w := by unfold idR; rw [List.length_map, List.length_range]
theorem idR_get {w i : Nat} (h : i < w) : (idR w).getD i 0 = i := by
  unfold idR
  simp [List.getD_eq_getElem?_getD, h]
theorem idR_mem {w : Nat} {x : Int} : x ∈ idR w ↔ 0 ≤ x ∧ x < w := by
  unfold idR
  rw [List.mem_map]
  constructor
  · rintro ⟨i, hi, rfl⟩
    rw [List.mem_range] at hi
    omega
  · rintro ⟨h1, h2⟩
    exact ⟨x.toNat, List.mem_range.mpr (by omega), by omega⟩
theorem idR_ord (w : Nat) : ord (idR w) = true := (ord_iff _).mpr fun i hi => by
  rw [idR_len] at hi
  rw [idR_get (by omega), idR_get hi]
  omega
theorem idR_nodup (w : Nat) : (idR w).Nodup := by
  unfold idR
  rw [List.nodup_iff_pairwise_ne, List.pairwise_map]
  exact List.pairwise_lt_range.imp fun h => by omega
/-- longer by one -/
def ext (w : Nat) (r : Row) : List Row := ((List.range w).filter fun i => !decide (((i : Nat) : Int) ∈ r)).map fun i => r ++ [((i : Nat) : Int)]
def ords (w : Nat) : Nat → List Row
  | 0 => [[]]
  | k + 1 => (ords w k).flatMap (ext w)
theorem ext_mem {w : Nat} {r q : Row} : q ∈ ext w r ↔ ∃ x : Int, q = r ++ [x] ∧ 0 ≤ x ∧ x < w ∧ x ∉ r := by
  unfold ext
  rw [List.mem_map]
  constructor
  · rintro ⟨i, hi, rfl⟩
    rw [List.mem_filter, List.mem_range] at hi
    exact ⟨i, rfl, by omega, by omega, by simpa using hi.2⟩
  · rintro ⟨x, rfl, h1, h2, h3⟩
    refine ⟨x.toNat, ?_, by rw [Int.toNat_of_nonneg h1]⟩
    rw [List.mem_filter, List.mem_range]
    refine ⟨by omega, ?_⟩
    rw [Int.toNat_of_nonneg h1]
    simpa using h3
theorem ords_mem {w : Nat} : ∀ {k : Nat} {r : Row}, r ∈ ords w k ↔ r.length = k ∧ r.Nodup ∧ ∀ x ∈ r, 0 ≤ x ∧ x < w
  | 0, r => by
    unfold ords
    rw [List.mem_singleton]
    constructor
    · rintro rfl; simp
    · rintro ⟨h, _⟩; exact List.eq_nil_of_length_eq_zero h
  | k + 1, r => by
    unfold ords
    rw [List.mem_flatMap]
    constructor
    · rintro ⟨q, hq, h⟩
      obtain ⟨h1, h2, h3⟩ := ords_mem.mp hq
      obtain ⟨x, rfl, x1, x2, x3⟩ := ext_mem.mp h
      refine ⟨by simp [h1], ?_, fun y hy => ?_⟩
      · rw [List.nodup_append]
        refine ⟨h2, by simp, fun a ha b hb e => ?_⟩
        rw [List.mem_singleton] at hb
        subst hb e
        exact x3 ha
      · rcases List.mem_append.mp hy with hy | hy
        · exact h3 y hy
        · rw [List.mem_singleton] at hy
          subst hy
          exact ⟨x1, x2⟩
    · rintro ⟨h1, h2, h3⟩
      have hne : r ≠ [] := fun e => by rw [e] at h1; simp at h1
      have e : r.dropLast ++ [r.getLast hne] = r := List.dropLast_concat_getLast hne
      rw [← e, List.nodup_append] at h2
      refine ⟨r.dropLast, ords_mem.mpr ⟨by rw [List.length_dropLast]; omega, h2.1, fun x hx => h3 x (List.dropLast_subset _ hx)⟩, ?_⟩
      have hl := h3 _ (List.getLast_mem hne)
      exact ext_mem.mpr ⟨r.getLast hne, e.symm, hl.1, hl.2, fun z => h2.2.2 _ z _ (by simp) rfl⟩
theorem ext_len (w : Nat) (r : Row) : (ext w r).length ≤ w := by
  unfold ext
  rw [List.length_map]
  have := List.length_filter_le (fun i : Nat => !decide (((i : Nat) : Int) ∈ r)) (List.range w)
  rw [List.length_range] at this
  exact this
theorem ords_len (w : Nat) : ∀ k, (ords w k).length ≤ w ^ k
  | 0 => by simp [ords]
  | k + 1 => by
    unfold ords
    rw [List.length_flatMap]
    have : ∀ l : List Row, (l.map fun r => (ext w r).length).sum ≤ l.length * w := by
      intro l
      induction l with
      | nil => simp
      | cons a l ih =>
        rw [List.map_cons, List.sum_cons, List.length_cons]
        have := ext_len w a
        have e : (l.length + 1) * w = l.length * w + w := Nat.succ_mul _ _
        omega
    refine Nat.le_trans (this _) ?_
    rw [Nat.pow_succ]
    exact Nat.mul_le_mul_right _ (ords_len w k)
theorem nodup_sub_perm : ∀ {a b : List Int}, a.Nodup → (∀ x ∈ a, x ∈ b) → b.length ≤ a.length → a.Perm b
  | [], b, _, _, h => by
    have : b = [] := List.eq_nil_of_length_eq_zero (by simpa using h)
    subst this
    exact .refl _
  | x :: a, b, hn, hs, hl => by
    obtain ⟨h1, h2⟩ := List.nodup_cons.mp hn
    have hx : x ∈ b := hs x List.mem_cons_self
    have ih := nodup_sub_perm (a := a) (b := b.erase x) h2 (fun y hy => (List.mem_erase_of_ne (fun e => h1 (by rw [← e]; exact hy))).2 (hs y (List.mem_cons_of_mem _ hy))) (by
      rw [List.length_erase_of_mem hx]
      simp only [List.length_cons] at hl
      omega)
    exact (ih.cons x).trans (List.perm_cons_erase hx).symm
/-- an order is a permutation -/
theorem ords_perm {w : Nat} {p : Row} : p ∈ ords w w ↔ p.Perm (idR w) := by
  rw [ords_mem]
  constructor
  · rintro ⟨h1, h2, h3⟩
    exact nodup_sub_perm h2 (fun x hx => idR_mem.mpr (h3 x hx)) (by rw [idR_len]; omega)
  · intro h
    exact ⟨by rw [h.length_eq, idR_len], h.nodup_iff.mpr (idR_nodup w), fun x hx => idR_mem.mp (h.mem_iff.mp hx)⟩
theorem perm_lift {α β : Type} {f : α → β} {l1 l2 : List β} (h : l1.Perm l2) : ∀ l : List α, l.map f = l1 → ∃ l' : List α, l'.Perm l ∧ l'.map f = l2 := by
  induction h with
  | nil => exact fun l e => ⟨l, .refl _, e⟩
  | cons x _ ih =>
    intro l e
    match l, e with
    | a :: l, e =>
      rw [List.map_cons] at e
      injection e with e1 e2
      obtain ⟨l', p, q⟩ := ih l e2
      exact ⟨a :: l', p.cons a, by rw [List.map_cons, q, e1]⟩
  | swap x y t =>
    intro l e
    match l, e with
    | a :: b :: l, e =>
      rw [List.map_cons, List.map_cons] at e
      injection e with e1 e2
      injection e2 with e2 e3
      exact ⟨b :: a :: l, .swap _ _ _, by rw [List.map_cons, List.map_cons, e1, e2, e3]⟩
  | trans _ _ ih1 ih2 =>
    intro l e
    obtain ⟨l', p, q⟩ := ih1 l e
    obtain ⟨l2, p2, q2⟩ := ih2 l' q
    exact ⟨l2, p2.trans p, q2⟩
/-- any row is an order, its numbers exchanged for the row's, rising -/
def rk (r : Row) (x : Int) : Int := (srt r).getD (min x.toNat (r.length - 1)) 0
theorem rk_rises {r : Row} (h : 0 < r.length) : Rises (rk r) := fun a b hab => by
  unfold rk
  refine ord_le (srt_ord r) (by omega) ?_
  rw [srt_len]
  omega
theorem row_of {r : Row} (h : 0 < r.length) : ∃ p ∈ ords r.length r.length, p.map (rk r) = r := by
  have e : (idR r.length).map (rk r) = srt r := by
    refine row_ext (by rw [List.length_map, idR_len, srt_len]) fun i hi => ?_
    rw [List.length_map, idR_len] at hi
    rw [getD_map _ _ (by rw [idR_len]; exact hi), idR_get hi]
    unfold rk
    congr 1
    omega
  obtain ⟨p, h1, h2⟩ := perm_lift (srt_perm r) _ e
  exact ⟨p, ords_perm.mpr h1, h2⟩
theorem ords_ok {w : Nat} {p : Row} (h : p ∈ ords w w) : p.length = w := (ords_mem.mp h).1
theorem run_ords {n : Net} {w : Nat} {p : Row} (ok : Ok w n) (h : p ∈ ords w w) : (run n p).Perm (idR w) :=
  (run_perm (by rw [ords_ok h]; exact ok)).trans (ords_perm.mp h)
theorem srt_ords {w : Nat} {p : Row} (h : p.Perm (idR w)) : srt p = idR w := (srt_eq h.symm (ord_pw.mp (idR_ord w))).symm
/-- line l has, of each order, the number of its place -/
def St (n : Net) (w l : Nat) : Prop := ∀ p ∈ ords w w, (run n p).getD l 0 = (l : Int)
theorem St.row {n : Net} {w l : Nat} (ok : Ok w n) (hl : l < w) (h : St n w l) {r : Row} (hr : r.length = w) : (run n r).getD l 0 = (srt r).getD l 0 := by
  subst hr
  obtain ⟨p, hp, e⟩ := row_of (r := r) (by omega)
  have lp := ords_ok hp
  conv => lhs; rw [← e]
  rw [run_map (rk_rises (by omega)) (by rw [lp]; exact ok), getD_map _ _ (by rw [run_len, lp]; exact hl), h p hp]
  unfold rk
  congr 1
  omega
theorem St.of_plain {n : Net} {w l : Nat} (ok : Ok w n) (hl : l < w) (h : ∀ q ∈ plain w, (run n q).getD l 0 = (srt q).getD l 0) : St n w l := fun p hp => by
  have lp := ords_ok hp
  have key : ∀ c : Int, step c ((run n p).getD l 0) = step c l := fun c => by
    have h1 := h (p.map (step c)) (by rw [← lp]; exact step_plain c p)
    rw [run_map (step_rises c) (by rw [lp]; exact ok), getD_map _ _ (by rw [run_len, lp]; exact hl)] at h1
    have e : srt (p.map (step c)) = (idR w).map (step c) := (srt_eq (((ords_perm.mp hp).map (step c)).symm) (ord_pw.mp (ord_map (step_rises c) (idR_ord w)))).symm
    rw [e, getD_map _ _ (by rw [idR_len]; exact hl), idR_get hl] at h1
    exact h1
  have k1 := key l
  have k2 := key ((run n p).getD l 0)
  unfold step at k1 k2
  split at k1 <;> split at k2 <;> omega
def stB (n : Net) (w l : Nat) : Bool := (ords w w).all fun p => decide ((run n p).getD l 0 = (l : Int))
theorem stB_iff {n : Net} {w l : Nat} : stB n w l = true ↔ St n w l := by
  unfold stB St
  rw [List.all_eq_true]
  exact ⟨fun h p hp => of_decide_eq_true (h p hp), fun h p hp => decide_eq_true (h p hp)⟩
def due (n : Net) (w : Nat) : List Nat := (List.range w).filter (stB n w)
theorem plain_st {n : Net} {w l : Nat} (ok : Ok w n) (hl : l < w) : ((plain w).filter fun q => !decide ((run n q).getD l 0 = (srt q).getD l 0)).isEmpty = stB n w l := by
  rw [Bool.eq_iff_iff, List.isEmpty_iff, List.filter_eq_nil_iff, stB_iff]
  constructor
  · intro h
    exact St.of_plain ok hl fun q hq => by simpa using h q hq
  · intro h q hq
    rw [h.row ok hl (plain_mem.mp hq).1, decide_eq_true rfl]
    simp
theorem due_len {n : Net} {w : Nat} : (due n w).length = w ↔ ∀ l, l < w → St n w l := by
  unfold due
  constructor
  · intro h l hl
    have e : (List.range w).filter (stB n w) = List.range w := List.filter_sublist.eq_of_length (by rw [h, List.length_range])
    have hm : l ∈ (List.range w).filter (stB n w) := by rw [e]; exact List.mem_range.mpr hl
    exact stB_iff.mp (List.mem_filter.mp hm).2
  · intro h
    rw [List.filter_eq_self.mpr fun l hl => stB_iff.mpr (h l (List.mem_range.mp hl)), List.length_range]
theorem all_st {n : Net} {w : Nat} (ok : Ok w n) : (∀ l, l < w → St n w l) ↔ ∀ p ∈ ords w w, ord (run n p) = true := by
  constructor
  · intro h p hp
    have lp := ords_ok hp
    refine (ord_iff _).mpr fun i hi => ?_
    rw [run_len, lp] at hi
    rw [h i (by omega) p hp, h (i + 1) hi p hp]
    omega
  · intro h l hl p hp
    have e := srt_id (h p hp)
    rw [srt_ords (run_ords ok hp)] at e
    rw [← e, idR_get hl]
theorem all_plain {n : Net} {w : Nat} (ok : Ok w n) : (∀ q ∈ plain w, ord (run n q) = true) ↔ ∀ p ∈ ords w w, ord (run n p) = true := by
  constructor
  · intro h p hp
    exact zero_one ok h (ords_ok hp)
  · intro h q hq
    have lq := (plain_mem.mp hq).1
    have hs := (all_st ok).mpr h
    have e : run n q = srt q := row_ext (by rw [run_len, srt_len]) fun i hi => by
      rw [run_len, lq] at hi
      exact (hs i hi).row ok hi lq
    rw [e]
    exact srt_ord q
theorem run_id_iff {n : Net} {w : Nat} {p : Row} (ok : Ok w n) (hp : p ∈ ords w w) : run n p = idR w ↔ ord (run n p) = true := by
  constructor
  · intro h
    rw [h]
    exact idR_ord w
  · intro h
    rw [← srt_id h, srt_ords (run_ords ok hp)]
/-! twists -/
def twAt (r : Row) (i : Nat) : Nat := ((r.drop (i + 1)).filter fun x => decide (x < r.getD i 0)).length
def tw (r : Row) (w : Nat) : Nat := ((List.range w).map (twAt r)).sum
def tws (rs : List Row) (w : Nat) : Nat := (rs.map fun r => tw r w).sum
theorem sum0 : ∀ {l : List Nat}, l.sum = 0 ↔ ∀ x ∈ l, x = 0
  | [] => by simp
  | a :: l => by
    rw [List.sum_cons, List.forall_mem_cons, ← sum0 (l := l)]
    omega
theorem tw0 {r : Row} : tw r r.length = 0 ↔ ord r = true := by
  unfold tw
  rw [sum0]
  constructor
  · intro h
    refine ord_of fun i j hij hj => ?_
    have h0 := h (twAt r i) (List.mem_map_of_mem (List.mem_range.mpr (by omega)))
    unfold twAt at h0
    have h1 := List.filter_eq_nil_iff.mp (List.eq_nil_of_length_eq_zero h0) (r.getD j 0) (by
      rw [List.getD_eq_getElem?_getD, List.getElem?_eq_getElem hj]
      have : (r.drop (i + 1))[j - (i + 1)]? = some r[j] := by
        rw [List.getElem?_drop, show i + 1 + (j - (i + 1)) = j by omega, List.getElem?_eq_getElem hj]
      exact List.mem_of_getElem? this)
    rw [decide_eq_true_eq] at h1
    omega
  · intro h x hx
    obtain ⟨i, hi, rfl⟩ := List.mem_map.mp hx
    rw [List.mem_range] at hi
    unfold twAt
    rw [List.filter_eq_nil_iff.mpr, List.length_nil]
    intro y hy
    obtain ⟨j, hj, e⟩ := List.getElem_of_mem hy
    rw [List.length_drop] at hj
    rw [List.getElem_drop] at e
    have := ord_le h (i := i) (j := i + 1 + j) (by omega) (by omega)
    rw [show r.getD (i + 1 + j) 0 = y by rw [List.getD_eq_getElem?_getD, List.getElem?_eq_getElem (show i + 1 + j < r.length by omega)]; exact e] at this
    rw [decide_eq_true_eq]
    omega
theorem tws0 {n : Net} {w : Nat} : tws ((ords w w).map (run n)) w = 0 ↔ ∀ p ∈ ords w w, ord (run n p) = true := by
  unfold tws
  rw [sum0]
  have e : ∀ p ∈ ords w w, tw (run n p) w = 0 ↔ ord (run n p) = true := fun p hp => by
    have := tw0 (r := run n p)
    rw [run_len, ords_ok hp] at this
    exact this
  constructor
  · intro h p hp
    exact (e p hp).mp (h _ (by rw [List.map_map]; exact List.mem_map_of_mem (f := (fun r => tw r w) ∘ run n) hp))
  · intro h x hx
    rw [List.map_map] at hx
    obtain ⟨p, hp, rfl⟩ := List.mem_map.mp hx
    exact (e p hp).mpr (h p hp)
/-! where a number comes to -/
def goal (n : Net) (l : Nat) (p : Row) : Nat := (run n p).idxOf (p.getD l 0)
def gls (n : Net) (w l : Nat) : List Nat := (ords w w).map (goal n l)
theorem mem_getD {r : Row} {l : Nat} (h : l < r.length) : r.getD l 0 ∈ r := by
  rw [List.getD_eq_getElem?_getD, List.getElem?_eq_getElem h]
  exact List.getElem_mem h
theorem goal_mem {n : Net} {w l : Nat} {p : Row} (ok : Ok w n) (hl : l < w) (hp : p ∈ ords w w) : p.getD l 0 ∈ run n p :=
  (run_perm (by rw [ords_ok hp]; exact ok)).mem_iff.mpr (mem_getD (by rw [ords_ok hp]; exact hl))
theorem goal_lt {n : Net} {w l : Nat} {p : Row} (ok : Ok w n) (hl : l < w) (hp : p ∈ ords w w) : goal n l p < w := by
  have := List.idxOf_lt_length_of_mem (goal_mem ok hl hp)
  rw [run_len, ords_ok hp] at this
  exact this
def rchd (n : Net) (w l : Nat) : List Nat := (List.range w).filter fun g => decide (g ∈ gls n w l)
/-- an order with number m on line l -/
theorem ord_with {w l m : Nat} (hl : l < w) (hm : m < w) : ∃ p ∈ ords w w, p.getD l 0 = (m : Int) := by
  have h1 : l < (idR w).length := by rw [idR_len]; exact hl
  have h2 : m < (idR w).length := by rw [idR_len]; exact hm
  refine ⟨((idR w).set l (idR w)[m]).set m (idR w)[l], ords_perm.mpr (List.set_set_perm h1 h2), ?_⟩
  have e1 : (idR w)[m] = (m : Int) := by have := idR_get hm; rw [List.getD_eq_getElem?_getD, List.getElem?_eq_getElem h2] at this; exact this
  have e2 : (idR w)[l] = (l : Int) := by have := idR_get hl; rw [List.getD_eq_getElem?_getD, List.getElem?_eq_getElem h1] at this; exact this
  rw [getD_set, getD_set, List.length_set, idR_len, e1, e2]
  by_cases c : m = l
  · rw [if_pos ⟨c, hl⟩, c]
  · rw [if_neg fun z => c z.1, if_pos ⟨rfl, hl⟩]
theorem st_goal {n : Net} {w l m : Nat} (ok : Ok w n) (hl : l < w) (hm : m < w) (h : St n w m) : m ∈ gls n w l := by
  obtain ⟨p, hp, e⟩ := ord_with hl hm
  unfold gls
  rw [List.mem_map]
  refine ⟨p, hp, ?_⟩
  unfold goal
  rw [e, ← h p hp]
  have hlen : m < (run n p).length := by rw [run_len, ords_ok hp]; exact hm
  have nd : (run n p).Nodup := (run_ords ok hp).nodup_iff.mpr (idR_nodup w)
  rw [List.getD_eq_getElem?_getD, List.getElem?_eq_getElem hlen]
  exact nd.idxOf_getElem m hlen
theorem st_nil {w l : Nat} (hl : l < w) : stB [] w l = decide (w = 1) := by
  rw [Bool.eq_iff_iff, stB_iff, decide_eq_true_eq]
  constructor
  · intro h
    by_cases c : w = 1
    · exact c
    · obtain ⟨m, hm, hne⟩ : ∃ m, m < w ∧ m ≠ l := by
        by_cases z : l = 0
        · exact ⟨1, by omega, by omega⟩
        · exact ⟨0, by omega, by omega⟩
      obtain ⟨p, hp, e⟩ := ord_with hl hm
      have := h p hp
      rw [run_nil, e] at this
      omega
  · rintro rfl p hp
    obtain ⟨h1, _, h3⟩ := ords_mem.mp hp
    have := h3 (p.getD l 0) (mem_getD (by omega))
    rw [run_nil]
    omega
theorem due_nil {w : Nat} (hw : 0 < w) : due [] w = if w = 1 then [0] else [] := by
  unfold due
  by_cases c : w = 1
  · subst c
    rw [if_pos rfl]
    show List.filter (stB [] 1) [0] = [0]
    rw [List.filter_cons, st_nil (by omega)]
    simp
  · rw [if_neg c, List.filter_eq_nil_iff]
    intro l hl
    rw [st_nil (List.mem_range.mp hl)]
    simp [c]
theorem gls_nil {w g : Nat} (hw : 0 < w) : g ∈ gls [] w 0 ↔ g = 0 := by
  have e : ∀ p ∈ ords w w, goal [] 0 p = 0 := fun p hp => by
    unfold goal
    rw [run_nil]
    match p, ords_ok hp with
    | [], h => exact absurd h (by simp; omega)
    | a :: p, _ =>
      show List.idxOf a (a :: p) = 0
      rw [List.idxOf_cons_self]
  unfold gls
  rw [List.mem_map]
  constructor
  · rintro ⟨p, hp, rfl⟩
    exact e p hp
  · rintro rfl
    exact ⟨idR w, ords_perm.mpr (.refl _), e _ (ords_perm.mpr (.refl _))⟩
theorem rchd_nil {w : Nat} (hw : 0 < w) : rchd [] w 0 = [0] := by
  unfold rchd
  obtain ⟨k, rfl⟩ : ∃ k, w = k + 1 := ⟨w - 1, by omega⟩
  rw [List.range_succ_eq_map, List.filter_cons, decide_eq_true ((gls_nil hw).mpr rfl), if_pos rfl, List.filter_eq_nil_iff.mpr]
  intro g hg
  obtain ⟨i, _, rfl⟩ := List.mem_map.mp hg
  rw [decide_eq_true_eq, gls_nil hw]
  omega
end Nt

/-! rows of natural numbers as data -/
namespace Dv
open PySem PySem.Spec PyProof.Rows L2
def natL (o : List Nat) : List PyData := o.map fun k => PyData.int ((k : Nat) : Int)
theorem at_nat {o : List Nat} {k : Nat} (h : k < o.length) : atI (natL o) (k : Int) = some (.int ((o.getD k 0 : Nat) : Int)) :=
  atI_nat (by unfold natL; rw [List.getElem?_map, List.getElem?_eq_getElem h, List.getD_eq_getElem?_getD, List.getElem?_eq_getElem h]; rfl)
theorem natL_len (o : List Nat) : (natL o).length = o.length := by unfold natL; rw [List.length_map]
theorem natL_set (o : List Nat) (i k : Nat) : (natL o).set i (.int (k : Int)) = natL (o.set i k) := by unfold natL; rw [List.map_set]
theorem natL_rng (w : Nat) : rng 0 w = natL (Nt.ids w) := by rw [rng0]; rfl
theorem pl_nats (o : List Nat) : ∀ d ∈ natL o, pl 0 d := fun d hd => by
  obtain ⟨p, _, rfl⟩ := List.mem_map.mp hd
  exact pl_int
theorem natsL_inj : ∀ {a b : List Nat}, natL a = natL b → a = b
  | [], [], _ => rfl
  | [], _ :: _, h => by simp [natL] at h
  | _ :: _, [], h => by simp [natL] at h
  | x :: a, y :: b, h => by
    simp only [natL, List.map_cons, List.cons.injEq, PyData.int.injEq] at h
    rw [natsL_inj (a := a) (b := b) h.2, show x = y by omega]
theorem natL_int (o : List Nat) : natL o = (o.map fun k => ((k : Nat) : Int)).map PyData.int := by unfold natL; rw [List.map_map]; rfl
theorem any_nat (i : Nat) (o : List Nat) : ((natL o).any fun e => PyData.eqv e (.int (i : Int))) = decide (i ∈ o) := by
  rw [Bool.eq_iff_iff, List.any_eq_true, decide_eq_true_eq]
  constructor
  · rintro ⟨e, he, h⟩
    obtain ⟨q, hq, rfl⟩ := List.mem_map.mp he
    have := (eqv_iff _ _ (by rfl) (by rfl)).mp h
    injection this with this
    rw [show i = q by omega]
    exact hq
  · intro h
    exact ⟨.int (i : Int), List.mem_map_of_mem (f := fun k : Nat => PyData.int (k : Int)) h, (eqv_iff _ _ (by rfl) (by rfl)).mpr rfl⟩
theorem in_natL (i : Nat) (o : List Nat) : inD (.int (i : Int)) (.list (natL o)) = some (.bool (decide (i ∈ o))) := by
  unfold inD
  rw [good_of (n := 0) goodN_int (by decide), good_of (pl_list (pl_nats o)).1 (by decide)]
  simp only [Bool.and_true, if_true, any_nat]
theorem nin_natL (i : Nat) (o : List Nat) : ninD (.int (i : Int)) (.list (natL o)) = some (.bool (!decide (i ∈ o))) := by
  unfold ninD
  rw [good_of (n := 0) goodN_int (by decide), good_of (pl_list (pl_nats o)).1 (by decide)]
  simp only [Bool.and_true, if_true, any_nat]
theorem nin_natT (i : Nat) (o : List Nat) : ninD (.int (i : Int)) (.tuple (natL o)) = some (.bool (!decide (i ∈ o))) := by
  unfold ninD
  rw [good_of (n := 0) goodN_int (by decide), good_of (pl_tuple (pl_nats o)).1 (by decide)]
  simp only [Bool.and_true, if_true, any_nat]
theorem sort_natL (o : List Nat) {s : List Nat} (h : s.Perm o) (hs : s.Pairwise (· ≤ ·)) : sortedD [.list (natL o)] = some (natL s) := by
  rw [natL_int, sortedD_l, natL_int]
  congr 2
  refine (srt_eq (h.map _) ?_).symm
  rw [List.pairwise_map]
  exact hs.imp fun h => by omega
end Dv

/-! rows and their order as data -/
namespace Dv
open PySem PySem.Spec PyProof.Rows L2
theorem neD_ints (a b : List Int) : neD (.list (a.map PyData.int)) (.list (b.map PyData.int)) = some (.bool (!decide (a = b))) := by
  have pi : ∀ c : List Int, pl 1 (.list (c.map PyData.int)) := fun c => pl_list fun d hd => by
    obtain ⟨x, _, rfl⟩ := List.mem_map.mp hd
    exact pl_int
  exact neD_pl (p := a = b) (pi a) (pi b) ⟨fun h => ints_inj (PyData.list.inj h), fun h => by rw [h]⟩
theorem ne_srt (r : Nt.Row) : (!decide (r = srt r)) = !Nt.ord r := by
  have h : (r = srt r) ↔ Nt.ord r = true := ⟨fun h => Nt.srt_id_iff.mp h.symm, fun h => (Nt.srt_id h).symm⟩
  cases q : Nt.ord r with
  | true => rw [decide_eq_true (h.mpr q)]
  | false => rw [decide_eq_false fun z => by rw [h.mp z] at q; cases q]
theorem fil_all : ∀ rows : List Nt.Row, ((rows.filter fun r => !Nt.ord r).map rowD).isEmpty = rows.all Nt.ord
  | [] => rfl
  | r :: rows => by
    have ih := fil_all rows
    rw [List.filter_cons, List.all_cons]
    cases h : Nt.ord r with
    | true => simpa using ih
    | false => simp
end Dv

/-! orders as data -/
namespace Dv
open PySem PySem.Spec PyProof.Rows L2
theorem any_row (k : Int) (r : List Int) : ((r.map PyData.int).any fun e => PyData.eqv e (.int k)) = decide (k ∈ r) := by
  rw [Bool.eq_iff_iff, List.any_eq_true, decide_eq_true_eq]
  constructor
  · rintro ⟨e, he, h⟩
    obtain ⟨q, hq, rfl⟩ := List.mem_map.mp he
    have := (eqv_iff _ _ (by rfl) (by rfl)).mp h
    injection this with this
    rw [← this]
    exact hq
  · intro h
    exact ⟨.int k, List.mem_map_of_mem (f := PyData.int) h, (eqv_iff _ _ (by rfl) (by rfl)).mpr rfl⟩
theorem nin_row (k : Int) (r : List Int) : ninD (.int k) (.tuple (r.map PyData.int)) = some (.bool (!decide (k ∈ r))) := by
  unfold ninD
  rw [good_of (n := 0) goodN_int (by decide), good_of (show pl 1 (.tuple (r.map PyData.int)) from pl_row r).1 (by decide)]
  simp only [Bool.and_true, if_true, any_row]
theorem rg_nat {w : Nat} (h : w ≤ 1000) : rg1 [.int (w : Int)] = some ((List.range' 0 w).map fun i => PyData.int ((i : Nat) : Int)) := by
  rw [rg1_i ⟨by omega, by omega⟩, rng0, ← List.range_eq_range']
  rfl
theorem eNinM_ap {i : Nat} {f : En → Option PyData} {ρ : En} : eNinM i f ρ = (f ρ).bind fun d => match ρ[i]? with
  | some (some (.ml ds)) => ninD d (.list ds)
  | _ => none := rfl
theorem idR_rng (w : Nat) : rng 0 w = (Nt.idR w).map PyData.int := by
  rw [rng0]
  unfold Nt.idR
  rw [List.map_map]
  rfl
theorem sum_pre (f : Nat → Nat) (k j : Nat) : (((List.range' j (k + 1)).map f).sum : Nat) = f j + ((List.range' (j + 1) k).map f).sum := by
  rw [List.range'_succ, List.map_cons, List.sum_cons]
/-- len([x for x in r[i + 1:] if x < r[i]]) -/
theorem tw_len (r : Nt.Row) (i : Nat) : lenD [.list (((r.drop (i + 1)).filter fun x => decide (x < r.getD i 0)).map PyData.int)] = some (.int ((Nt.twAt r i : Nat) : Int)) := by
  rw [lenD_l, List.length_map]
  rfl
theorem tw_cut (r : Nt.Row) (i : Nat) : slD (some ((i : Int) + 1)) none (.tuple (r.map PyData.int)) = some (.tuple ((r.drop (i + 1)).map PyData.int)) := by
  rw [slD_t, show (i : Int) + 1 = ((i + 1 : Nat) : Int) by omega, cut_from, List.map_drop]
end Dv

namespace Lw
open PySem PySem.Spec PyProof.Rows L2 Dv
def b_swapped : En → Option Out :=
  (sSeq (sAsgL 3 (eNL listD (eCons (eVar 0) eNil)))
  (sSeq (sAsg (eN minD2 (eCons (e2 idxD (eVar 0) (eVar 1)) (eCons (e2 idxD (eVar 0) (eVar 2)) eNil))) (gSubM 3 (eVar 1)))
  (sSeq (sAsg (eN maxD2 (eCons (e2 idxD (eVar 0) (eVar 1)) (eCons (e2 idxD (eVar 0) (eVar 2)) eNil))) (gSubM 3 (eVar 2)))
  (sRet (eTupM 3)))))
def g_swapped : List PyData → Option PyData := fnD 3 1 b_swapped
def b_run : En → Option Out :=
  (sSeq (sFor (iSq (eVar 0)) (gT 2 (gConsD (gN 2) (gConsD (gN 3) gNilD))) (sAsg (eN g_swapped (eCons (eVar 1) (eCons (eVar 2) (eCons (eVar 3) eNil)))) (gN 1)))
  (sRet (eVar 1)))
def g_run : List PyData → Option PyData := fnD 2 2 b_run
def b_plain_rows : En → Option Out :=
  (sSeq (sAsg (eL (eNL mkL (eCons (eN mkT eNil) eNil))) (gN 1))
  (sSeq (sFor (eNL rg1 (eCons (eVar 0) eNil)) (gN 2) (sAsg (e2 addD (eL (eLc (iSq (eVar 1)) splN [3] [3] tYesD (e2 addD (eVar 3) (eN mkT (eCons (eC (.int 0)) eNil))))) (eL (eLc (iSq (eVar 1)) splN [3] [3] tYesD (e2 addD (eVar 3) (eN mkT (eCons (eC (.int 1)) eNil)))))) (gN 1)))
  (sRet (eVar 1))))
def g_plain_rows : List PyData → Option PyData := fnD 1 3 b_plain_rows
def b_settled : En → Option Out :=
  (sSeq (sAsgL 2 (eNL mkL eNil))
  (sSeq (sFor (eNL rg1 (eCons (eVar 1) eNil)) (gN 3) (sIf (tB (e2 eqD (eL (eLc (iSq (eN g_plain_rows (eCons (eVar 1) eNil))) splN [4] [4] (tB (e2 neD (e2 idxD (eN g_run (eCons (eVar 0) (eCons (eVar 4) eNil))) (eVar 3)) (e2 idxD (eL (eNL sortedD (eCons (eVar 4) eNil))) (eVar 3)))) (eVar 4))) (eL (eNL mkL eNil)))) (sApp 2 (eVar 3)) sNil))
  (sRet (eTupM 2))))
def g_settled : List PyData → Option PyData := fnD 2 3 b_settled
def b_orders : En → Option Out :=
  (sSeq (sAsg (eL (eNL mkL (eCons (eN mkT eNil) eNil))) (gN 1))
  (sSeq (sFor (eNL rg1 (eCons (eVar 0) eNil)) (gN 2) (sSeq (sAsg (eL (eNL mkL eNil)) (gN 3))
  (sSeq (sFor (iSq (eVar 1)) (gN 4) (sAsg (e2 addD (eVar 3) (eL (eLc (eNL rg1 (eCons (eVar 0) eNil)) splN [5] [5] (tB (e2 ninD (eVar 5) (eVar 4))) (e2 addD (eVar 4) (eN mkT (eCons (eVar 5) eNil)))))) (gN 3)))
  (sAsg (eVar 3) (gN 1)))))
  (sRet (eVar 1))))
def g_orders : List PyData → Option PyData := fnD 1 5 b_orders
def b_reached : En → Option Out :=
  (sSeq (sAsgL 3 (eNL mkL eNil))
  (sSeq (sFor (iSq (eN g_orders (eCons (eVar 1) eNil))) (gN 4) (sSeq (sAsg (e2 indexD (eN g_run (eCons (eVar 0) (eCons (eVar 4) eNil))) (e2 idxD (eVar 4) (eVar 2))) (gN 5))
  (sIf (tB (eNinM 3 (eVar 5))) (sApp 3 (eVar 5)) sNil)))
  (sFrz 3 (sRet (eN tupD (eCons (eL (eNL sortedD (eCons (eVar 3) eNil))) eNil))))))
def g_reached : List PyData → Option PyData := fnD 3 3 b_reached
def b_count_put_in_order : En → Option Out :=
  (sRet (eN lenD (eCons (eL (eLc (iSq (eN g_orders (eCons (eVar 1) eNil))) splN [2] [2] (tB (e2 eqD (eN g_run (eCons (eVar 0) (eCons (eVar 2) eNil))) (eRg1T (eVar 1)))) (eVar 2))) eNil)))
def g_count_put_in_order : List PyData → Option PyData := fnD 2 1 b_count_put_in_order
def b_undone : En → Option Out :=
  (sSeq (sAsg (eC (.int 0)) (gN 2))
  (sSeq (sFor (iSq (eN g_orders (eCons (eVar 1) eNil))) (gN 3) (sSeq (sAsg (eN g_run (eCons (eVar 0) (eCons (eVar 3) eNil))) (gN 4))
  (sFor (eNL rg1 (eCons (eVar 1) eNil)) (gN 5) (sAug 2 (fun i j => i + j) (eN lenD (eCons (eL (eLc (iSq (eSl (eVar 4) (oSo (e2 addD (eVar 5) (eC (.int 1)))) oNo)) splN [6] [6] (tB (e2 ltD (eVar 6) (e2 idxD (eVar 4) (eVar 5)))) (eVar 6))) eNil))))))
  (sRet (eVar 2))))
def g_undone : List PyData → Option PyData := fnD 2 5 b_undone
def b_in_order : En → Option Out :=
  (sRet (eN allD (eCons (eL (eLc (eNL zip2D (eCons (eSl (eVar 0) oNo (oSo (e1 negD (eC (.int 1))))) (eCons (eSl (eVar 0) (oSo (eC (.int 1))) oNo) eNil))) (splT 2) [1, 2] [1, 2] tYesD (e2 leD (eVar 1) (eVar 2)))) eNil)))
def g_in_order : List PyData → Option PyData := fnD 1 2 b_in_order
def b_first_failing : En → Option Out :=
  (sSeq (sFor (iSq (eVar 1)) (gN 2) (sIf (tNotD (tB (eN g_in_order (eCons (eN g_run (eCons (eVar 0) (eCons (eVar 2) eNil))) eNil)))) (sRet (eVar 2)) sNil))
  (sRet (eC .none)))
def g_first_failing : List PyData → Option PyData := fnD 2 1 b_first_failing
def b_fails : En → Option Out :=
  (sRet (eN g_first_failing (eCons (eVar 0) (eCons (eN g_plain_rows (eCons (eVar 1) eNil)) eNil))))
def g_fails : List PyData → Option PyData := fnD 2 0 b_fails
def b_law_cell_at : En → Option Out :=
  (sSeq (sIf (tB (e2 ltD (eVar 1) (eN lenD (eCons (eVar 0) eNil)))) (sRet (e2 idxD (eVar 0) (eVar 1))) sNil)
  (sRet (eC (.int 0))))
def g_law_cell_at : List PyData → Option PyData := fnD 2 0 b_law_cell_at
def b_law_mixed : En → Option Out :=
  (sSeq (sAsg (e2 modD (e2 mulD2 (e2 addD (e2 addD (eN g_law_cell_at (eCons (eVar 0) (eCons (eVar 1) eNil))) (e2 mulD2 (eC (.int 7919)) (eVar 1))) (eC (.int 1))) (eC (.int 48271))) (eC (.int 2147483647))) (gN 2))
  (sRet (e2 modD (e2 addD (e2 addD (e2 mulD2 (eVar 2) (eVar 2)) (e2 mulD2 (eC (.int 7)) (eVar 2))) (eVar 1)) (eC (.int 2147483629)))))
def g_law_mixed : List PyData → Option PyData := fnD 2 1 b_law_mixed
def b_law_drawn : En → Option Out :=
  (sSeq (sAsg (e2 modD (e2 mulD2 (e2 addD (e2 addD (eVar 0) (e2 mulD2 (eC (.int 104729)) (eVar 1))) (eC (.int 17))) (eC (.int 69621))) (eC (.int 2147483647))) (gN 2))
  (sRet (e2 modD (e2 addD (e2 addD (e2 mulD2 (eVar 2) (eVar 2)) (e2 mulD2 (eC (.int 3)) (eVar 2))) (eVar 1)) (eC (.int 2147483629)))))
def g_law_drawn : List PyData → Option PyData := fnD 2 1 b_law_drawn
def b_law_swap : En → Option Out :=
  (sSeq (sAsg (e2 modD (eVar 0) (eVar 1)) (gN 2))
  (sRet (eN mkT (eCons (eVar 2) (eCons (e2 modD (e2 addD (e2 addD (eVar 2) (eC (.int 1))) (e2 modD (e2 fdivD (eVar 0) (eC (.int 8))) (e2 subD (eVar 1) (eC (.int 1))))) (eVar 1)) eNil)))))
def g_law_swap : List PyData → Option PyData := fnD 2 1 b_law_swap
def b_law_bubble : En → Option Out :=
  (sSeq (sAsg (eL (eNL mkL eNil)) (gN 1))
  (sSeq (sFor (eNL rg1 (eCons (eVar 0) eNil)) (gN 2) (sAsg (e2 addD (eVar 1) (eL (eLc (eNL rg1 (eCons (e2 subD (e2 subD (eVar 0) (eC (.int 1))) (eVar 2)) eNil)) splN [3] [3] tYesD (eN mkT (eCons (eVar 3) (eCons (e2 addD (eVar 3) (eC (.int 1))) eNil)))))) (gN 1)))
  (sRet (eVar 1))))
def g_law_bubble : List PyData → Option PyData := fnD 1 3 b_law_bubble
def b_law_net : En → Option Out :=
  (sSeq (sIf (tB (e2 eqD (eVar 1) (eC (.int 1)))) (sRet (eN mkT eNil)) sNil)
  (sSeq (sAsg (e2 modD (e2 fdivD (eVar 0) (eC (.int 64))) (eC (.int 4))) (gN 3))
  (sSeq (sAsg (eL (eLc (eNL rg1 (eCons (e2 modD (eVar 0) (e2 addD (eVar 2) (eC (.int 1)))) eNil)) splN [6] [6] tYesD (eN g_law_swap (eCons (eN g_law_drawn (eCons (eVar 0) (eCons (eVar 6) eNil))) (eCons (eVar 1) eNil))))) (gN 4))
  (sSeq (sIf (tB (e2 eqD (eVar 3) (eC (.int 1)))) (sAsg (eL (eLc (iSq (eVar 4)) (splT 2) [7, 8] [7, 8] tYesD (eN mkT (eCons (eN minD2 (eCons (eVar 7) (eCons (eVar 8) eNil))) (eCons (eN maxD2 (eCons (eVar 7) (eCons (eVar 8) eNil))) eNil))))) (gN 4)) sNil)
  (sSeq (sIf (tB (e2 eqD (eVar 3) (eC (.int 2)))) (sAsg (eL (eLc (iSq (eVar 4)) (splT 2) [7, 8] [7, 8] tYesD (eN mkT (eCons (e2 modD (eVar 7) (e2 subD (eVar 1) (eC (.int 1)))) (eCons (e2 addD (e2 modD (eVar 7) (e2 subD (eVar 1) (eC (.int 1)))) (eC (.int 1))) eNil))))) (gN 4)) sNil)
  (sSeq (sIf (tB (e2 eqD (eVar 3) (eC (.int 3)))) (sSeq (sAsg (e2 addD (eSl (eVar 4) oNo (oSo (e2 mulD2 (eC (.int 5)) (e2 modD (e2 fdivD (eVar 0) (eC (.int 256))) (eC (.int 2)))))) (eN g_law_bubble (eCons (eVar 1) eNil))) (gN 4))
  (sIf (tB (e2 eqD (e2 modD (e2 fdivD (eVar 0) (eC (.int 512))) (eC (.int 2))) (eC (.int 1)))) (sSeq (sAsg (e2 modD (e2 fdivD (eVar 0) (eC (.int 1024))) (eN lenD (eCons (eVar 4) eNil))) (gN 5))
  (sAsg (e2 addD (eSl (eVar 4) oNo (oSo (eVar 5))) (eSl (eVar 4) (oSo (e2 addD (eVar 5) (eC (.int 1)))) oNo)) (gN 4))) sNil)) sNil)
  (sRet (eN tupD (eCons (eVar 4) eNil)))))))))
def g_law_net : List PyData → Option PyData := fnD 3 6 b_law_net
def b_law_row : En → Option Out :=
  (sSeq (sAsg (eL (eLc (eNL rg1 (eCons (eVar 2) eNil)) splN [5] [5] tYesD (eN g_law_cell_at (eCons (eVar 0) (eCons (e2 addD (eVar 1) (eVar 5)) eNil))))) (gN 4))
  (sSeq (sIf (tB (e2 eqD (e2 modD (eVar 3) (eC (.int 3))) (eC (.int 1)))) (sAsg (eL (eLc (iSq (eVar 4)) splN [6] [6] tYesD (e2 modD (eVar 6) (eC (.int 2))))) (gN 4)) sNil)
  (sSeq (sIf (tB (e2 eqD (e2 modD (eVar 3) (eC (.int 3))) (eC (.int 2)))) (sAsg (eL (eLc (eNL rg1 (eCons (eVar 2) eNil)) splN [5] [5] tYesD (e2 modD (eN g_law_drawn (eCons (eVar 3) (eCons (eVar 5) eNil))) (e2 idxD (eN mkT (eCons (eC (.int 2)) (eCons (eC (.int 3)) (eCons (eC (.int 9)) (eCons (eC (.int 1000)) eNil))))) (e2 modD (e2 fdivD (eVar 3) (eC (.int 3))) (eC (.int 4))))))) (gN 4)) sNil)
  (sRet (eN tupD (eCons (eVar 4) eNil))))))
def g_law_row : List PyData → Option PyData := fnD 4 3 b_law_row
def b_law_run : En → Option Out :=
  (sSeq (sAsgL 2 (eNL listD (eCons (eVar 1) eNil)))
  (sSeq (sFor (iSq (eVar 0)) (gT 2 (gConsD (gN 3) (gConsD (gN 4) gNilD))) (sSeq (sAsg (eN minD2 (eCons (eIdxM 2 (eVar 3)) (eCons (eIdxM 2 (eVar 4)) eNil))) (gN 5))
  (sSeq (sAsg (eN maxD2 (eCons (eIdxM 2 (eVar 3)) (eCons (eIdxM 2 (eVar 4)) eNil))) (gSubM 2 (eVar 4)))
  (sAsg (eVar 5) (gSubM 2 (eVar 3))))))
  (sRet (eTupM 2))))
def g_law_run : List PyData → Option PyData := fnD 2 4 b_law_run
def b_law_orders : En → Option Out :=
  (sSeq (sAsg (eL (eNL mkL (eCons (eN mkT eNil) eNil))) (gN 1))
  (sSeq (sFor (eNL rg1 (eCons (eVar 0) eNil)) (gN 2) (sSeq (sAsg (eL (eNL mkL eNil)) (gN 3))
  (sSeq (sFor (iSq (eVar 1)) (gN 4) (sAsg (e2 addD (eVar 3) (eL (eLc (eNL rg1 (eCons (eVar 0) eNil)) splN [5] [5] (tB (e2 ninD (eVar 5) (eVar 4))) (e2 addD (eVar 4) (eN mkT (eCons (eVar 5) eNil)))))) (gN 3)))
  (sAsg (eVar 3) (gN 1)))))
  (sRet (eVar 1))))
def g_law_orders : List PyData → Option PyData := fnD 1 5 b_law_orders
def b_law : En → Option Out :=
  (sSeq (sAsg (eN g_law_mixed (eCons (eVar 0) (eCons (eC (.int 0)) eNil))) (gN 1))
  (sSeq (sAsg (e2 addD (eC (.int 1)) (e2 modD (eVar 1) (eC (.int 5)))) (gN 2))
  (sSeq (sAsg (eN g_law_net (eCons (eN g_law_mixed (eCons (eVar 0) (eCons (eC (.int 1)) eNil))) (eCons (eVar 2) (eCons (eC (.int 14)) eNil)))) (gN 3))
  (sSeq (sAsg (eL (eLc (iSq (eN g_law_orders (eCons (eVar 2) eNil))) splN [6] [6] tYesD (eN g_law_run (eCons (eVar 3) (eCons (eVar 6) eNil))))) (gN 4))
  (sSeq (sAsg (eL (eLc (eNL rg1 (eCons (eVar 2) eNil)) splN [13] [13] (tB (e2 eqD (eL (eLc (iSq (eVar 4)) splN [7] [7] (tB (e2 neD (e2 idxD (eVar 7) (eVar 13)) (eVar 13))) (eVar 7))) (eL (eNL mkL eNil)))) (eVar 13))) (gN 5))
  (sSeq (sIf (tB (e2 neD (eL (eNL listD (eCons (eN g_settled (eCons (eVar 3) (eCons (eVar 2) eNil))) eNil))) (eVar 5))) (sRet (eC (.bool false))) sNil)
  (sSeq (sAsg (eN g_law_row (eCons (eVar 0) (eCons (eC (.int 4)) (eCons (eVar 2) (eCons (eN g_law_mixed (eCons (eVar 0) (eCons (eC (.int 2)) eNil))) eNil))))) (gN 6))
  (sSeq (sAsg (eN g_run (eCons (eVar 3) (eCons (eVar 6) eNil))) (gN 7))
  (sSeq (sIf (tB (e2 neD (eL (eLc (iSq (eVar 5)) splN [13] [13] (tB (e2 neD (e2 idxD (eVar 7) (eVar 13)) (e2 idxD (eL (eNL sortedD (eCons (eVar 6) eNil))) (eVar 13)))) (eVar 13))) (eL (eNL mkL eNil)))) (sRet (eC (.bool false))) sNil)
  (sSeq (sAsg (eN lenD (eCons (eL (eLc (iSq (eVar 4)) splN [10] [10] (tB (e2 eqD (eL (eNL listD (eCons (eVar 10) eNil))) (eL (eNL sortedD (eCons (eVar 10) eNil))))) (eVar 10))) eNil)) (gN 8))
  (sSeq (sAsg (eC (.int 0)) (gN 9))
  (sSeq (sFor (iSq (eVar 4)) (gN 10) (sFor (eNL rg1 (eCons (eVar 2) eNil)) (gN 11) (sAsg (e2 addD (eVar 9) (eN lenD (eCons (eL (eLc (iSq (eSl (eVar 10) (oSo (e2 addD (eVar 11) (eC (.int 1)))) oNo)) splN [1] [1] (tB (e2 ltD (eVar 1) (e2 idxD (eVar 10) (eVar 11)))) (eVar 1))) eNil))) (gN 9))))
  (sSeq (sIf (tOrD (tB (e2 neD (eN g_count_put_in_order (eCons (eVar 3) (eCons (eVar 2) eNil))) (eVar 8))) (tB (e2 neD (eN g_undone (eCons (eVar 3) (eCons (eVar 2) eNil))) (eVar 9)))) (sRet (eC (.bool false))) sNil)
  (sSeq (sIf (tOrD (tB (e2 neD (e2 isN (eN g_fails (eCons (eVar 3) (eCons (eVar 2) eNil))) (eC .none)) (e2 eqD (eN lenD (eCons (eVar 5) eNil)) (eVar 2)))) (tB (e2 neD (e2 eqD (eVar 8) (eN lenD (eCons (eVar 4) eNil))) (e2 eqD (eVar 9) (eC (.int 0)))))) (sRet (eC (.bool false))) sNil)
  (sSeq (sIf (tB (e2 neD (e2 eqD (eN lenD (eCons (eVar 5) eNil)) (eVar 2)) (e2 eqD (eVar 9) (eC (.int 0))))) (sRet (eC (.bool false))) sNil)
  (sSeq (sAsg (eN g_law_orders (eCons (eVar 2) eNil)) (gN 12))
  (sSeq (sFor (eNL rg1 (eCons (eVar 2) eNil)) (gN 13) (sSeq (sAsgL 14 (eNL mkL eNil))
  (sSeq (sFor (iEn (eVar 12)) (gT 2 (gConsD (gN 15) (gConsD (gN 16) gNilD))) (sApp 14 (e2 indexD (e2 idxD (eVar 4) (eVar 15)) (e2 idxD (eVar 16) (eVar 13)))))
  (sSeq (sAsg (eN g_reached (eCons (eVar 3) (eCons (eVar 2) (eCons (eVar 13) eNil)))) (gN 17))
  (sFrz 14 (sSeq (sIf (tB (e2 neD (eVar 17) (eN tupD (eCons (eL (eLc (eNL rg1 (eCons (eVar 2) eNil)) splN [18] [18] (tB (e2 inD (eVar 18) (eVar 14))) (eVar 18))) eNil)))) (sRet (eC (.bool false))) sNil)
  (sIf (tB (e2 neD (eL (eLc (iSq (eVar 5)) splN [18] [18] (tB (e2 ninD (eVar 18) (eVar 17))) (eVar 18))) (eL (eNL mkL eNil)))) (sRet (eC (.bool false))) sNil)))))))
  (sRet (eAnd (e2 eqD (eN g_settled (eCons (eN mkT eNil) (eCons (eVar 2) eNil))) (e2 idxD (eN mkT (eCons (eN mkT eNil) (eCons (eN mkT (eCons (eC (.int 0)) eNil)) eNil))) (eN int1D (eCons (e2 eqD (eVar 2) (eC (.int 1))) eNil)))) (e2 eqD (eN g_reached (eCons (eN mkT eNil) (eCons (eVar 2) (eCons (eC (.int 0)) eNil)))) (eN mkT (eCons (eC (.int 0)) eNil))))))))))))))))))))))
def g_law : List PyData → Option PyData := fnD 1 18 b_law
theorem sp_swapped {r : Nt.Row} {a b : Nat} (h : Nt.SwOk r.length (a, b)) : g_swapped [rowD r, .int (a : Int), .int (b : Int)] = some (rowD (Nt.sw (a, b) r)) := by
  obtain ⟨h1, h2, h3⟩ := h
  simp only at h1 h2
  have e1 := at_row h1
  have e2 := at_row h2
  unfold g_swapped
  rw [fnD_ap (by rfl)]
  simp [b_swapped, rowD, e1, e2, minD2_i, maxD2_i, gSubM_ap, ixN_nat, h1, h2, Nt.sw, Nt.lo, Nt.hi]

theorem run_loop : ∀ (n : Nt.Net) (r : Nt.Row) (N : PyData) (x y : Option W), Nt.Ok r.length n → ∃ x' y', forD (gT 2 (gConsD (gN 2) (gConsD (gN 3) gNilD))) (sAsg (eN g_swapped (eCons (eVar 1) (eCons (eVar 2) (eCons (eVar 3) eNil)))) (gN 1)) (n.map swD) [some (.im N), some (.im (rowD r)), x, y] = some (.nx [some (.im N), some (.im (rowD (Nt.run n r))), x', y'])
  | [], r, N, x, y, _ => ⟨x, y, rfl⟩
  | p :: n, r, N, x, y, ok => by
    obtain ⟨a, b⟩ := p
    obtain ⟨x', y', ih⟩ := run_loop n (Nt.sw (a, b) r) N (some (.im (.int a))) (some (.im (.int b))) (by rw [Nt.sw_len]; exact ok.tail)
    refine ⟨x', y', ?_⟩
    rw [Nt.run_cons, ← ih]
    simp [swD, sp_swapped ok.head]
theorem sp_run {n : Nt.Net} {r : Nt.Row} (ok : Nt.Ok r.length n) : g_run [netD n, rowD r] = some (rowD (Nt.run n r)) := by
  obtain ⟨x, y, h⟩ := run_loop n r (netD n) none none ok
  unfold g_run
  rw [fnD_ap (by rfl)]
  simp [b_run, netD] at h ⊢
  simp [h]

theorem plain_loop (N : PyData) : ∀ (k w : Nat) (x : Option W), w + k ≤ 10 → ∃ x', forD (gN 2) (sAsg (e2 addD (eL (eLc (iSq (eVar 1)) splN [3] [3] tYesD (e2 addD (eVar 3) (eN mkT (eCons (eC (.int 0)) eNil))))) (eL (eLc (iSq (eVar 1)) splN [3] [3] tYesD (e2 addD (eVar 3) (eN mkT (eCons (eC (.int 1)) eNil)))))) (gN 1)) ((List.range' w k).map fun i => PyData.int ((i : Nat) : Int)) [some (.im N), some (.im (.list ((Nt.plain w).map rowD))), x, none] = some (.nx [some (.im N), some (.im (.list ((Nt.plain (w + k)).map rowD))), x', none])
  | 0, w, x, _ => ⟨x, rfl⟩
  | k + 1, w, x, h => by
    obtain ⟨x', ih⟩ := plain_loop N k (w + 1) (some (.im (.int (w : Int)))) (by omega)
    refine ⟨x', ?_⟩
    have hl : (Nt.plain w).length ≤ 1024 := by
      rw [Nt.plain_len]
      exact Nat.le_trans (Nat.pow_le_pow_right (n := 2) (by decide) (show w ≤ 10 by omega)) (by decide)
    have one : ∀ c : Int, lcD splN [3] tYesD (e2 addD (eVar 3) (eN mkT (eCons (eC (.int c)) eNil))) [some (.im N), some (.im (.list ((Nt.plain w).map rowD))), some (.im (.int (w : Int))), none] ((Nt.plain w).map rowD) = some (((Nt.plain w).map fun r => r ++ [c]).map rowD) := fun c => by
      rw [lcD_mapN rowD (fun r => rowD (r ++ [c]))]
      · rw [List.map_map]; rfl
      · intro r hr
        have hlr := (Nt.plain_mem.mp hr).1
        simp [rowD]
        rw [addD_t (by rw [List.length_map]; simp; omega)]
    rw [show w + (k + 1) = (w + 1) + k by omega, ← ih, List.range'_succ]
    simp [one]
    rw [addD_l (by simp only [List.length_map]; omega)]
    simp [Nt.plain]
theorem sp_plain_rows {w : Nat} (h : w ≤ 10) : g_plain_rows [.int (w : Int)] = some (.list ((Nt.plain w).map rowD)) := by
  obtain ⟨x, hl⟩ := plain_loop (.int w) w 0 none (by omega)
  unfold g_plain_rows
  rw [fnD_ap (by rfl)]
  rw [← List.range_eq_range'] at hl
  simp [b_plain_rows, rg1_i (k := (w : Int)) ⟨by omega, by omega⟩, rng0]
  simp [Nt.plain, rowD] at hl
  simp [hl, rowD]

theorem set_loop {n : Nt.Net} {w : Nat} (hw : w ≤ 8) (ok : Nt.Ok w n) : ∀ (k j : Nat) (acc : List Nat) (x3 : Option W), j + k ≤ w → acc.length ≤ j → ∃ y3, forD (gN 3) (sIf (tB (Dv.e2 eqD (eL (eLc (iSq (eN g_plain_rows (eCons (eVar 1) eNil))) splN [4] [4] (tB (Dv.e2 neD (Dv.e2 idxD (eN g_run (eCons (eVar 0) (eCons (eVar 4) eNil))) (eVar 3)) (Dv.e2 idxD (eL (eNL sortedD (eCons (eVar 4) eNil))) (eVar 3)))) (eVar 4))) (eL (eNL mkL eNil)))) (sApp 2 (eVar 3)) sNil) ((List.range' j k).map fun i => PyData.int ((i : Nat) : Int)) [some (.im (netD n)), some (.im (.int (w : Int))), some (.ml (natL acc)), x3, none] =
    some (.nx [some (.im (netD n)), some (.im (.int (w : Int))), some (.ml (natL (acc ++ (List.range' j k).filter (Nt.stB n w)))), y3, none])
  | 0, j, acc, x3, _, _ => ⟨x3, by simp⟩
  | k + 1, j, acc, x3, h, ha => by
    have hp := sp_plain_rows (w := w) (by omega)
    have hj : j < w := by omega
    have c1 : lcD splN [4] (tB (Dv.e2 neD (Dv.e2 idxD (eN g_run (eCons (eVar 0) (eCons (eVar 4) eNil))) (eVar 3)) (Dv.e2 idxD (eL (eNL sortedD (eCons (eVar 4) eNil))) (eVar 3)))) (eVar 4) [some (.im (netD n)), some (.im (.int (w : Int))), some (.ml (natL acc)), some (.im (.int (j : Int))), none] ((Nt.plain w).map rowD) = some (((Nt.plain w).filter fun q => !decide ((Nt.run n q).getD j 0 = (srt q).getD j 0)).map rowD) := by
      rw [lcD_filN rowD (fun q => !decide ((Nt.run n q).getD j 0 = (srt q).getD j 0)) rowD]
      intro q hq
      have lq := (Nt.plain_mem.mp hq).1
      have hr := sp_run (n := n) (r := q) (by rw [lq]; exact ok)
      have i1 := at_row (r := Nt.run n q) (k := j) (by rw [Nt.run_len]; omega)
      have i2 := at_row (r := srt q) (k := j) (by rw [Nt.srt_len]; omega)
      have so := sortedD_t q
      simp only [rowD] at hr so ⊢
      simp only [List.set_cons_succ, List.set_cons_zero, tB_ap, Dv.e2_ap, eN_ap, eCons_ap, eNil_ap, eL_ap, eNL_ap, eVar_0, eVar_s, Option.bind_some, Option.map_some, hr, so, idxD_t, idxD_l, i1, i2, neD_i, asB_b]
      exact ⟨trivial, fun _ => trivial⟩
    have due : eqD (.list (((Nt.plain w).filter fun q => !decide ((Nt.run n q).getD j 0 = (srt q).getD j 0)).map rowD)) (.list []) = some (.bool (Nt.stB n w j)) := by
      rw [eqD_nil (n := 1) (fun d hd => by obtain ⟨p, _, rfl⟩ := List.mem_map.mp hd; exact pl_row p), List.isEmpty_map, Nt.plain_st ok hj]
    rw [List.range'_succ, List.map_cons, forD_cons, gN_ap, Option.bind_some]
    simp only [sIf_ap, tB_ap, Dv.e2_ap, eL_ap, eLc_ap, eNL_ap, iSq_ap, eN_ap, eCons_ap, eNil_ap, eVar_0, eVar_s, Option.bind_some, Option.map_some, hp, asSeq_l, wipeE_c, wipeE_0, List.set_cons_succ, List.set_cons_zero, mkL_0]
    rw [c1]
    simp only [Option.bind_some, Option.map_some, due, asB_b]
    by_cases hs : Nt.stB n w j = true
    · obtain ⟨y3, ih⟩ := set_loop hw ok k (j + 1) (acc ++ [j]) (some (.im (.int (j : Int)))) (by omega) (by rw [List.length_append, List.length_singleton]; omega)
      refine ⟨y3, ?_⟩
      have e : acc ++ (j :: List.range' (j + 1) k).filter (Nt.stB n w) = acc ++ [j] ++ (List.range' (j + 1) k).filter (Nt.stB n w) := by
        rw [List.filter_cons_of_pos hs, List.append_assoc]
        rfl
      have ea : natL acc ++ [PyData.int (j : Int)] = natL (acc ++ [j]) := by unfold natL; rw [List.map_append]; rfl
      rw [e, ← ih, if_pos hs]
      simp only [sApp_ap, eVar_0, eVar_s, Option.bind_some, appK_s, appK_0 (ds := natL acc) (by rw [natL_len]; omega), Option.map_some, ea, loopD_nx]
    · obtain ⟨y3, ih⟩ := set_loop hw ok k (j + 1) acc (some (.im (.int (j : Int)))) (by omega) (by omega)
      refine ⟨y3, ?_⟩
      rw [List.filter_cons_of_neg hs, ← ih, if_neg hs]
      simp only [sNil_ap, Option.bind_some, loopD_nx]
theorem sp_settled {n : Nt.Net} {w : Nat} (hw : w ≤ 8) (ok : Nt.Ok w n) : g_settled [netD n, .int (w : Int)] = some (.tuple (natL (Nt.due n w))) := by
  obtain ⟨y3, e⟩ := set_loop hw ok w 0 [] none (by omega) (Nat.le_refl _)
  rw [List.nil_append, ← List.range_eq_range'] at e
  unfold g_settled
  rw [fnD_ap (by rfl)]
  unfold b_settled
  simp only [List.map_cons, List.map_nil, List.replicate, List.cons_append, List.nil_append]
  have s1 : (sAsgL 2 (eNL mkL eNil)) [some (.im (netD n)), some (.im (.int (w : Int))), none, none, none] = some (.nx [some (.im (netD n)), some (.im (.int (w : Int))), some (.ml (natL [])), none, none]) := by
    simp only [sAsgL_ap, eNL_ap, eNil_ap, Option.bind_some, mkL_0, Option.map_some, List.set_cons_succ, List.set_cons_zero]
    rfl
  have s2 : (sFor (eNL rg1 (eCons (eVar 1) eNil)) (gN 3) (sIf (tB (Dv.e2 eqD (eL (eLc (iSq (eN g_plain_rows (eCons (eVar 1) eNil))) splN [4] [4] (tB (Dv.e2 neD (Dv.e2 idxD (eN g_run (eCons (eVar 0) (eCons (eVar 4) eNil))) (eVar 3)) (Dv.e2 idxD (eL (eNL sortedD (eCons (eVar 4) eNil))) (eVar 3)))) (eVar 4))) (eL (eNL mkL eNil)))) (sApp 2 (eVar 3)) sNil)) [some (.im (netD n)), some (.im (.int (w : Int))), some (.ml (natL [])), none, none] = some (.nx [some (.im (netD n)), some (.im (.int (w : Int))), some (.ml (natL (Nt.due n w))), y3, none]) := by
    rw [sFor_ap]
    simp only [eNL_ap, eCons_ap, eNil_ap, eVar_0, eVar_s, Option.bind_some, Option.map_some, rg_nat (show w ≤ 1000 by omega)]
    rw [← List.range_eq_range']
    exact e
  rw [sSeq_ap, s1, Option.bind_some, thenD_nx, sSeq_ap, s2, Option.bind_some, thenD_nx]
  simp only [sRet_ap, eTupM_s, eTupM_0, Option.map_some, outD_rt]

theorem ord_in (w : Nat) (hw : w ≤ 1000) (A L : PyData) : ∀ (rows acc : List Nt.Row) (x4 : Option W), (∀ r ∈ rows, r.length ≤ 100) → acc.length + rows.length * w ≤ 100000 → ∃ y4, forD (gN 4) (sAsg (Dv.e2 addD (eVar 3) (eL (eLc (eNL rg1 (eCons (eVar 0) eNil)) splN [5] [5] (tB (Dv.e2 ninD (eVar 5) (eVar 4))) (Dv.e2 addD (eVar 4) (eN mkT (eCons (eVar 5) eNil)))))) (gN 3)) (rows.map rowD) [some (.im (.int (w : Int))), some (.im A), some (.im L), some (.im (.list (acc.map rowD))), x4, none] =
    some (.nx [some (.im (.int (w : Int))), some (.im A), some (.im L), some (.im (.list ((acc ++ rows.flatMap (Nt.ext w)).map rowD))), y4, none])
  | [], acc, x4, _, _ => ⟨x4, by rw [List.flatMap_nil, List.append_nil]; rfl⟩
  | r :: rows, acc, x4, hr, hl => by
    have le := Nt.ext_len w r
    have e0 : (r :: rows).length * w = rows.length * w + w := by rw [List.length_cons, Nat.succ_mul]
    obtain ⟨y4, ih⟩ := ord_in w hw A L rows (acc ++ Nt.ext w r) (some (.im (rowD r))) (fun q hq => hr q (List.mem_cons_of_mem _ hq)) (by rw [List.length_append]; omega)
    refine ⟨y4, ?_⟩
    have hr0 := hr r List.mem_cons_self
    have c1 : lcD splN [5] (tB (Dv.e2 ninD (eVar 5) (eVar 4))) (Dv.e2 addD (eVar 4) (eN mkT (eCons (eVar 5) eNil))) [some (.im (.int (w : Int))), some (.im A), some (.im L), some (.im (.list (acc.map rowD))), some (.im (rowD r)), none] ((List.range' 0 w).map fun i => PyData.int ((i : Nat) : Int)) = some ((Nt.ext w r).map rowD) := by
      rw [lcD_filN (fun k : Nat => PyData.int ((k : Nat) : Int)) (fun i => !decide (((i : Nat) : Int) ∈ r)) (fun i => rowD (r ++ [((i : Nat) : Int)]))]
      · unfold Nt.ext
        rw [List.map_map, ← List.range_eq_range']
        rfl
      · intro i _
        have nn := nin_row (i : Int) r
        simp only [rowD] at nn ⊢
        simp only [List.set_cons_succ, List.set_cons_zero, tB_ap, Dv.e2_ap, eVar_0, eVar_s, Option.bind_some, nn, asB_b]
        refine ⟨trivial, fun _ => ?_⟩
        simp only [eN_ap, eCons_ap, eNil_ap, eVar_0, eVar_s, Option.bind_some, Option.map_some, mkT_1]
        rw [addD_t (by rw [List.length_map]; simp only [List.length_cons, List.length_nil]; omega), List.map_append]
        rfl
    have ad : addD (.list (acc.map rowD)) (.list ((Nt.ext w r).map rowD)) = some (.list ((acc ++ Nt.ext w r).map rowD)) := by
      rw [addD_l (by rw [List.length_map, List.length_map]; omega), List.map_append]
    rw [List.map_cons, forD_cons, gN_ap, Option.bind_some, List.flatMap_cons, ← List.append_assoc, ← ih]
    simp only [sAsg_ap, Dv.e2_ap, eL_ap, eLc_ap, eNL_ap, eCons_ap, eNil_ap, eVar_0, eVar_s, List.set_cons_succ, List.set_cons_zero, Option.bind_some, Option.map_some, rg_nat hw, wipeE_c, wipeE_0, c1, ad, gN_ap, loopD_nx]
theorem ord_pow {w j : Nat} (h : w ≤ 5) (hj : j ≤ 5) : (Nt.ords w j).length ≤ 3125 := by
  refine Nat.le_trans (Nt.ords_len w j) (Nat.le_trans (Nat.pow_le_pow_left h j) ?_)
  exact Nat.le_trans (Nat.pow_le_pow_right (by decide) hj) (by decide)
theorem ord_out (w : Nat) (hw : w ≤ 5) : ∀ (k j : Nat) (x2 x3 x4 : Option W), j + k ≤ w → ∃ y2 y3 y4, forD (gN 2) (sSeq (sAsg (eL (eNL mkL eNil)) (gN 3)) (sSeq (sFor (iSq (eVar 1)) (gN 4) (sAsg (Dv.e2 addD (eVar 3) (eL (eLc (eNL rg1 (eCons (eVar 0) eNil)) splN [5] [5] (tB (Dv.e2 ninD (eVar 5) (eVar 4))) (Dv.e2 addD (eVar 4) (eN mkT (eCons (eVar 5) eNil)))))) (gN 3))) (sAsg (eVar 3) (gN 1)))) ((List.range' j k).map fun i => PyData.int ((i : Nat) : Int)) [some (.im (.int (w : Int))), some (.im (.list ((Nt.ords w j).map rowD))), x2, x3, x4, none] =
    some (.nx [some (.im (.int (w : Int))), some (.im (.list ((Nt.ords w (j + k)).map rowD))), y2, y3, y4, none])
  | 0, j, x2, x3, x4, _ => ⟨x2, x3, x4, rfl⟩
  | k + 1, j, x2, x3, x4, h => by
    have hl := ord_pow (w := w) (j := j) hw (by omega)
    obtain ⟨y4, e⟩ := ord_in w (by omega) (.list ((Nt.ords w j).map rowD)) (.int (j : Int)) (Nt.ords w j) [] x4 (fun r hr => by rw [(Nt.ords_mem.mp hr).1]; omega) (by
      have := Nat.mul_le_mul hl hw
      rw [List.length_nil]
      omega)
    rw [List.nil_append] at e
    obtain ⟨y2, y3, y4', ih⟩ := ord_out w hw k (j + 1) (some (.im (.int (j : Int)))) (some (.im (.list ((Nt.ords w (j + 1)).map rowD)))) y4 (by omega)
    refine ⟨y2, y3, y4', ?_⟩
    have e' : (sFor (iSq (eVar 1)) (gN 4) (sAsg (Dv.e2 addD (eVar 3) (eL (eLc (eNL rg1 (eCons (eVar 0) eNil)) splN [5] [5] (tB (Dv.e2 ninD (eVar 5) (eVar 4))) (Dv.e2 addD (eVar 4) (eN mkT (eCons (eVar 5) eNil)))))) (gN 3))) [some (.im (.int (w : Int))), some (.im (.list ((Nt.ords w j).map rowD))), some (.im (.int (j : Int))), some (.im (.list (([] : List Nt.Row).map rowD))), x4, none] = some (.nx [some (.im (.int (w : Int))), some (.im (.list ((Nt.ords w j).map rowD))), some (.im (.int (j : Int))), some (.im (.list ((Nt.ords w (j + 1)).map rowD))), y4, none]) := e
    rw [List.range'_succ, List.map_cons, forD_cons, gN_ap, Option.bind_some, show j + (k + 1) = j + 1 + k by omega, ← ih]
    have s1 : (sAsg (eL (eNL mkL eNil)) (gN 3)) [some (.im (.int (w : Int))), some (.im (.list ((Nt.ords w j).map rowD))), some (.im (.int (j : Int))), x3, x4, none] = some (.nx [some (.im (.int (w : Int))), some (.im (.list ((Nt.ords w j).map rowD))), some (.im (.int (j : Int))), some (.im (.list (([] : List Nt.Row).map rowD))), x4, none]) := by
      simp only [sAsg_ap, eL_ap, eNL_ap, eNil_ap, Option.bind_some, mkL_0, Option.map_some, gN_ap, List.set_cons_succ, List.set_cons_zero, List.map_nil]
    simp only [List.set_cons_succ, List.set_cons_zero]
    rw [sSeq_ap, s1, Option.bind_some, thenD_nx, sSeq_ap, e', Option.bind_some, thenD_nx]
    simp only [sAsg_ap, eVar_0, eVar_s, Option.bind_some, gN_ap, List.set_cons_succ, List.set_cons_zero, Option.map_some, loopD_nx]
theorem sp_orders {w : Nat} (h : w ≤ 5) : g_orders [.int (w : Int)] = some (.list ((Nt.ords w w).map rowD)) := by
  obtain ⟨y2, y3, y4, e⟩ := ord_out w h w 0 none none none (by omega)
  rw [Nat.zero_add] at e
  unfold g_orders
  rw [fnD_ap (by rfl)]
  unfold b_orders
  simp only [List.map_cons, List.map_nil, List.replicate, List.cons_append, List.nil_append]
  have s1 : (sAsg (eL (eNL mkL (eCons (eN mkT eNil) eNil))) (gN 1)) [some (.im (.int (w : Int))), none, none, none, none, none] = some (.nx [some (.im (.int (w : Int))), some (.im (.list ((Nt.ords w 0).map rowD))), none, none, none, none]) := by
    simp only [sAsg_ap, eL_ap, eNL_ap, eCons_ap, eNil_ap, eN_ap, mkT_0, mkL_1, Option.bind_some, Option.map_some, gN_ap, List.set_cons_succ, List.set_cons_zero]
    rfl
  have s2 : (sFor (eNL rg1 (eCons (eVar 0) eNil)) (gN 2) (sSeq (sAsg (eL (eNL mkL eNil)) (gN 3)) (sSeq (sFor (iSq (eVar 1)) (gN 4) (sAsg (Dv.e2 addD (eVar 3) (eL (eLc (eNL rg1 (eCons (eVar 0) eNil)) splN [5] [5] (tB (Dv.e2 ninD (eVar 5) (eVar 4))) (Dv.e2 addD (eVar 4) (eN mkT (eCons (eVar 5) eNil)))))) (gN 3))) (sAsg (eVar 3) (gN 1))))) [some (.im (.int (w : Int))), some (.im (.list ((Nt.ords w 0).map rowD))), none, none, none, none] = some (.nx [some (.im (.int (w : Int))), some (.im (.list ((Nt.ords w w).map rowD))), y2, y3, y4, none]) := by
    rw [sFor_ap]
    simp only [eNL_ap, eCons_ap, eNil_ap, eVar_0, Option.bind_some, Option.map_some, rg_nat (show w ≤ 1000 by omega)]
    exact e
  rw [sSeq_ap, s1, Option.bind_some, thenD_nx, sSeq_ap, s2, Option.bind_some, thenD_nx]
  simp only [sRet_ap, eVar_0, eVar_s, Option.map_some, outD_rt]

def addN (f : List Nat) (g : Nat) : List Nat := if g ∈ f then f else f ++ [g]
theorem addN_mem {f : List Nat} {g i : Nat} : i ∈ addN f g ↔ i ∈ f ∨ i = g := by
  unfold addN
  split
  · rename_i h
    exact ⟨.inl, fun z => z.elim id fun e => by rw [e]; exact h⟩
  · rw [List.mem_append, List.mem_singleton]
theorem addN_nodup {f : List Nat} {g : Nat} (h : f.Nodup) : (addN f g).Nodup := by
  unfold addN
  split
  · exact h
  · rename_i hg
    refine List.nodup_append.mpr ⟨h, by simp, fun a ha b hb e => ?_⟩
    rw [List.mem_singleton] at hb
    subst hb e
    exact hg ha
theorem addN_len (f : List Nat) (g : Nat) : (addN f g).length ≤ f.length + 1 := by
  unfold addN
  split
  · omega
  · rw [List.length_append, List.length_singleton]; exact Nat.le_refl _
theorem addN_fold : ∀ (gs : List Nat) {f : List Nat}, f.Nodup → (gs.foldl addN f).Nodup ∧ ∀ i, i ∈ gs.foldl addN f ↔ i ∈ f ∨ i ∈ gs
  | [], f, h => ⟨h, fun i => by simp⟩
  | g :: gs, f, h => by
    obtain ⟨a, b⟩ := addN_fold gs (f := addN f g) (addN_nodup h)
    refine ⟨a, fun i => ?_⟩
    rw [List.foldl_cons, b i, addN_mem, List.mem_cons, or_assoc]
theorem rc_loop {n : Nt.Net} {w l : Nat} (ok : Nt.Ok w n) (hl : l < w) : ∀ (rows : List Nt.Row) (acc : List Nat) (x4 x5 : Option W), (∀ p ∈ rows, p ∈ Nt.ords w w) → acc.length + rows.length ≤ 100000 → ∃ y4 y5, forD (gN 4) (sSeq (sAsg (Dv.e2 indexD (eN g_run (eCons (eVar 0) (eCons (eVar 4) eNil))) (Dv.e2 idxD (eVar 4) (eVar 2))) (gN 5)) (sIf (tB (eNinM 3 (eVar 5))) (sApp 3 (eVar 5)) sNil)) (rows.map rowD) [some (.im (netD n)), some (.im (.int (w : Int))), some (.im (.int (l : Int))), some (.ml (natL acc)), x4, x5] =
    some (.nx [some (.im (netD n)), some (.im (.int (w : Int))), some (.im (.int (l : Int))), some (.ml (natL ((rows.map (Nt.goal n l)).foldl addN acc))), y4, y5])
  | [], acc, x4, x5, _, _ => ⟨x4, x5, rfl⟩
  | p :: rows, acc, x4, x5, hp, hle => by
    rw [List.length_cons] at hle
    have hp0 := hp p List.mem_cons_self
    have lp := Nt.ords_ok hp0
    have la := addN_len acc (Nt.goal n l p)
    obtain ⟨y4, y5, ih⟩ := rc_loop ok hl rows (addN acc (Nt.goal n l p)) (some (.im (rowD p))) (some (.im (.int ((Nt.goal n l p : Nat) : Int)))) (fun q hq => hp q (List.mem_cons_of_mem _ hq)) (by omega)
    refine ⟨y4, y5, ?_⟩
    have hr := sp_run (n := n) (r := p) (by rw [lp]; exact ok)
    have i1 := at_row (r := p) (k := l) (by omega)
    have ix := index_row (Nt.goal_mem ok hl hp0)
    have nn := nin_natL (Nt.goal n l p) acc
    rw [List.map_cons, forD_cons, gN_ap, Option.bind_some, List.map_cons, List.foldl_cons, ← ih]
    have s1 : (sAsg (Dv.e2 indexD (eN g_run (eCons (eVar 0) (eCons (eVar 4) eNil))) (Dv.e2 idxD (eVar 4) (eVar 2))) (gN 5)) [some (.im (netD n)), some (.im (.int (w : Int))), some (.im (.int (l : Int))), some (.ml (natL acc)), some (.im (rowD p)), x5] = some (.nx [some (.im (netD n)), some (.im (.int (w : Int))), some (.im (.int (l : Int))), some (.ml (natL acc)), some (.im (rowD p)), some (.im (.int ((Nt.goal n l p : Nat) : Int)))]) := by
      simp only [rowD] at hr ⊢
      simp only [sAsg_ap, Dv.e2_ap, eN_ap, eCons_ap, eNil_ap, eVar_0, eVar_s, Option.bind_some, Option.map_some, hr, idxD_t, i1, ix, gN_ap, List.set_cons_succ, List.set_cons_zero]
      rfl
    have s2 : (sIf (tB (eNinM 3 (eVar 5))) (sApp 3 (eVar 5)) sNil) [some (.im (netD n)), some (.im (.int (w : Int))), some (.im (.int (l : Int))), some (.ml (natL acc)), some (.im (rowD p)), some (.im (.int ((Nt.goal n l p : Nat) : Int)))] = some (.nx [some (.im (netD n)), some (.im (.int (w : Int))), some (.im (.int (l : Int))), some (.ml (natL (addN acc (Nt.goal n l p)))), some (.im (rowD p)), some (.im (.int ((Nt.goal n l p : Nat) : Int)))]) := by
      have e1 : eNinM 3 (eVar 5) [some (.im (netD n)), some (.im (.int (w : Int))), some (.im (.int (l : Int))), some (.ml (natL acc)), some (.im (rowD p)), some (.im (.int ((Nt.goal n l p : Nat) : Int)))] = some (.bool (!decide (Nt.goal n l p ∈ acc))) := nn
      rw [sIf_ap, tB_ap, e1, Option.bind_some, asB_b, Option.bind_some]
      unfold addN
      by_cases c : Nt.goal n l p ∈ acc
      · rw [decide_eq_true c, if_pos c]
        rfl
      · have ea : natL acc ++ [PyData.int ((Nt.goal n l p : Nat) : Int)] = natL (acc ++ [Nt.goal n l p]) := by unfold natL; rw [List.map_append]; rfl
        rw [decide_eq_false c, if_neg c, if_pos (by rfl)]
        simp only [sApp_ap, eVar_0, eVar_s, Option.bind_some, appK_s, appK_0 (ds := natL acc) (by rw [natL_len]; omega), Option.map_some, ea]
    simp only [List.set_cons_succ, List.set_cons_zero]
    rw [sSeq_ap, s1, Option.bind_some, thenD_nx, s2, Option.bind_some, loopD_nx]
theorem sp_reached {n : Nt.Net} {w l : Nat} (hw : w ≤ 5) (ok : Nt.Ok w n) (hl : l < w) : g_reached [netD n, .int (w : Int), .int (l : Int)] = some (.tuple (natL (Nt.rchd n w l))) := by
  have lo := ord_pow (w := w) (j := w) hw hw
  obtain ⟨y4, y5, e⟩ := rc_loop ok hl (Nt.ords w w) [] none none (fun p hp => hp) (by rw [List.length_nil]; omega)
  obtain ⟨nd, mem⟩ := addN_fold ((Nt.ords w w).map (Nt.goal n l)) (f := []) List.nodup_nil
  have so := sort_natL (((Nt.ords w w).map (Nt.goal n l)).foldl addN []) (s := Nt.rchd n w l) (by
    refine (List.perm_ext_iff_of_nodup (List.Pairwise.filter _ List.nodup_range) nd).mpr fun i => ?_
    rw [mem i]
    rw [List.mem_filter, decide_eq_true_eq, List.mem_range]
    constructor
    · rintro ⟨_, h⟩; exact .inr h
    · rintro (h | h)
      · simp at h
      · refine ⟨?_, h⟩
        obtain ⟨p, hp, rfl⟩ := List.mem_map.mp h
        exact Nt.goal_lt ok hl hp) (by
    unfold Nt.rchd
    exact List.Pairwise.filter _ (List.pairwise_lt_range.imp fun h => Nat.le_of_lt h))
  have ho := sp_orders hw
  unfold g_reached
  rw [fnD_ap (by rfl)]
  unfold b_reached
  simp only [List.map_cons, List.map_nil, List.replicate, List.cons_append, List.nil_append]
  have s1 : (sAsgL 3 (eNL mkL eNil)) [some (.im (netD n)), some (.im (.int (w : Int))), some (.im (.int (l : Int))), none, none, none] = some (.nx [some (.im (netD n)), some (.im (.int (w : Int))), some (.im (.int (l : Int))), some (.ml (natL [])), none, none]) := by
    simp only [sAsgL_ap, eNL_ap, eNil_ap, Option.bind_some, mkL_0, Option.map_some, List.set_cons_succ, List.set_cons_zero]
    rfl
  have s2 : (sFor (iSq (eN g_orders (eCons (eVar 1) eNil))) (gN 4) (sSeq (sAsg (Dv.e2 indexD (eN g_run (eCons (eVar 0) (eCons (eVar 4) eNil))) (Dv.e2 idxD (eVar 4) (eVar 2))) (gN 5)) (sIf (tB (eNinM 3 (eVar 5))) (sApp 3 (eVar 5)) sNil))) [some (.im (netD n)), some (.im (.int (w : Int))), some (.im (.int (l : Int))), some (.ml (natL [])), none, none] = some (.nx [some (.im (netD n)), some (.im (.int (w : Int))), some (.im (.int (l : Int))), some (.ml (natL (((Nt.ords w w).map (Nt.goal n l)).foldl addN []))), y4, y5]) := by
    rw [sFor_ap]
    simp only [iSq_ap, eN_ap, eCons_ap, eNil_ap, eVar_0, eVar_s, Option.bind_some, Option.map_some, ho, asSeq_l]
    exact e
  rw [sSeq_ap, s1, Option.bind_some, thenD_nx, sSeq_ap, s2, Option.bind_some, thenD_nx]
  simp only [sFrz_ap, frz_s, frz_0, sRet_ap, eN_ap, eL_ap, eNL_ap, eCons_ap, eNil_ap, eVar_0, eVar_s, Option.bind_some, Option.map_some, so, tupD_l, outD_rt]

def whl (n : Nt.Net) (w : Nat) : Nat := ((Nt.ords w w).filter fun p => Nt.ord (Nt.run n p)).length
theorem sp_count {n : Nt.Net} {w : Nat} (hw : w ≤ 5) (ok : Nt.Ok w n) : g_count_put_in_order [netD n, .int (w : Int)] = some (.int ((whl n w : Nat) : Int)) := by
  have ho := sp_orders hw
  have c1 : lcD splN [2] (tB (Dv.e2 eqD (eN g_run (eCons (eVar 0) (eCons (eVar 2) eNil))) (eRg1T (eVar 1)))) (eVar 2) [some (.im (netD n)), some (.im (.int (w : Int))), none] ((Nt.ords w w).map rowD) = some (((Nt.ords w w).filter fun p => Nt.ord (Nt.run n p)).map rowD) := by
    rw [lcD_filN rowD (fun p => Nt.ord (Nt.run n p)) rowD]
    intro p hp
    have hr := sp_run (n := n) (r := p) (by rw [Nt.ords_ok hp]; exact ok)
    have rg : (rngD1 (.int (w : Int))).map PyData.tuple = some (rowD (Nt.idR w)) := by
      rw [rngD1_i ⟨by omega, by omega⟩]
      show some (PyData.tuple (rng 0 w)) = _
      rw [idR_rng]
      rfl
    have eq : eqD (rowD (Nt.run n p)) (rowD (Nt.idR w)) = some (.bool (Nt.ord (Nt.run n p))) := by
      rw [eqD_pl (p := Nt.ord (Nt.run n p) = true) (pl_row _) (pl_row _) (by rw [rowD_inj]; exact Nt.run_id_iff ok hp), Bool.decide_eq_true]
    simp only [List.set_cons_succ, List.set_cons_zero, tB_ap, Dv.e2_ap, eN_ap, eCons_ap, eNil_ap, eRg1T_ap, eVar_0, eVar_s, Option.bind_some, Option.map_some, hr, rg, eq, asB_b]
    exact ⟨trivial, fun _ => trivial⟩
  unfold g_count_put_in_order
  rw [fnD_ap (by rfl)]
  unfold b_count_put_in_order
  simp only [List.map_cons, List.map_nil, List.replicate, List.cons_append, List.nil_append]
  simp only [sRet_ap, eN_ap, eL_ap, eLc_ap, iSq_ap, eCons_ap, eNil_ap, eVar_0, eVar_s, Option.bind_some, Option.map_some, ho, asSeq_l, wipeE_c, wipeE_0, List.set_cons_succ, List.set_cons_zero, c1, lenD_l, outD_rt, List.length_map]
  rfl

theorem ud_in (N : PyData) (w : Nat) (r : Nt.Row) (hr : r.length = w) : ∀ (k j f : Nat) (x5 : Option W), j + k ≤ w → ∃ y5, forD (gN 5) (sAug 2 (fun i j => i + j) (eN lenD (eCons (eL (eLc (iSq (eSl (eVar 4) (oSo (Dv.e2 addD (eVar 5) (eC (.int 1)))) oNo)) splN [6] [6] (tB (Dv.e2 ltD (eVar 6) (Dv.e2 idxD (eVar 4) (eVar 5)))) (eVar 6))) eNil))) ((List.range' j k).map fun i => PyData.int ((i : Nat) : Int)) [some (.im N), some (.im (.int (w : Int))), some (.im (.int (f : Int))), some (.im R), some (.im (rowD r)), x5, none] =
    some (.nx [some (.im N), some (.im (.int (w : Int))), some (.im (.int ((f + ((List.range' j k).map (Nt.twAt r)).sum : Nat) : Int))), some (.im R), some (.im (rowD r)), y5, none])
  | 0, j, f, x5, _ => ⟨x5, rfl⟩
  | k + 1, j, f, x5, h => by
    obtain ⟨y5, ih⟩ := ud_in N w r hr k (j + 1) (f + Nt.twAt r j) (some (.im (.int (j : Int)))) (by omega)
    refine ⟨y5, ?_⟩
    have i1 := at_row (r := r) (k := j) (by omega)
    have c1 : lcD splN [6] (tB (Dv.e2 ltD (eVar 6) (Dv.e2 idxD (eVar 4) (eVar 5)))) (eVar 6) [some (.im N), some (.im (.int (w : Int))), some (.im (.int (f : Int))), some (.im R), some (.im (rowD r)), some (.im (.int (j : Int))), none] ((r.drop (j + 1)).map PyData.int) = some (((r.drop (j + 1)).filter fun x => decide (x < r.getD j 0)).map PyData.int) := by
      rw [lcD_filN PyData.int (fun x => decide (x < r.getD j 0)) PyData.int]
      intro x _
      simp only [rowD, List.set_cons_succ, List.set_cons_zero, tB_ap, Dv.e2_ap, eVar_0, eVar_s, Option.bind_some, idxD_t, i1, ltD_i, asB_b]
      exact ⟨trivial, fun _ => trivial⟩
    have cu := tw_cut r j
    have le := tw_len r j
    have ea : eN lenD (eCons (eL (eLc (iSq (eSl (eVar 4) (oSo (Dv.e2 addD (eVar 5) (eC (.int 1)))) oNo)) splN [6] [6] (tB (Dv.e2 ltD (eVar 6) (Dv.e2 idxD (eVar 4) (eVar 5)))) (eVar 6))) eNil) [some (.im N), some (.im (.int (w : Int))), some (.im (.int (f : Int))), some (.im R), some (.im (rowD r)), some (.im (.int (j : Int))), none] = some (.int ((Nt.twAt r j : Nat) : Int)) := by
      simp only [rowD] at c1 ⊢
      simp only [eN_ap, eL_ap, eLc_ap, iSq_ap, eSl_ap, oSo_ap, oNo_ap, Dv.e2_ap, eC_ap, addD_i, asI_i, eCons_ap, eNil_ap, eVar_0, eVar_s, Option.bind_some, Option.map_some, cu, asSeq_t, wipeE_c, wipeE_0, List.set_cons_succ, List.set_cons_zero, c1, le]
    rw [List.range'_succ, List.map_cons, forD_cons, gN_ap, Option.bind_some, List.map_cons, List.sum_cons, ← Nat.add_assoc, ← ih]
    have sa : (sAug 2 (fun i j => i + j) (eN lenD (eCons (eL (eLc (iSq (eSl (eVar 4) (oSo (Dv.e2 addD (eVar 5) (eC (.int 1)))) oNo)) splN [6] [6] (tB (Dv.e2 ltD (eVar 6) (Dv.e2 idxD (eVar 4) (eVar 5)))) (eVar 6))) eNil))) [some (.im N), some (.im (.int (w : Int))), some (.im (.int (f : Int))), some (.im R), some (.im (rowD r)), some (.im (.int (j : Int))), none] = some (.nx [some (.im N), some (.im (.int (w : Int))), some (.im (.int ((f + Nt.twAt r j : Nat) : Int))), some (.im R), some (.im (rowD r)), some (.im (.int (j : Int))), none]) := by
      show (eN lenD _ _).bind _ = _
      rw [ea]
      rfl
    simp only [List.set_cons_succ, List.set_cons_zero]
    rw [sa, Option.bind_some, loopD_nx]
theorem ud_out {n : Nt.Net} {w : Nat} (hw : w ≤ 5) (ok : Nt.Ok w n) : ∀ (rows : List Nt.Row) (f : Nat) (x3 x4 x5 : Option W), (∀ p ∈ rows, p ∈ Nt.ords w w) → ∃ y3 y4 y5, forD (gN 3) (sSeq (sAsg (eN g_run (eCons (eVar 0) (eCons (eVar 3) eNil))) (gN 4)) (sFor (eNL rg1 (eCons (eVar 1) eNil)) (gN 5) (sAug 2 (fun i j => i + j) (eN lenD (eCons (eL (eLc (iSq (eSl (eVar 4) (oSo (Dv.e2 addD (eVar 5) (eC (.int 1)))) oNo)) splN [6] [6] (tB (Dv.e2 ltD (eVar 6) (Dv.e2 idxD (eVar 4) (eVar 5)))) (eVar 6))) eNil))))) (rows.map rowD) [some (.im (netD n)), some (.im (.int (w : Int))), some (.im (.int (f : Int))), x3, x4, x5, none] =
    some (.nx [some (.im (netD n)), some (.im (.int (w : Int))), some (.im (.int ((f + Nt.tws (rows.map (Nt.run n)) w : Nat) : Int))), y3, y4, y5, none])
  | [], f, x3, x4, x5, _ => ⟨x3, x4, x5, rfl⟩
  | p :: rows, f, x3, x4, x5, hp => by
    have lp := Nt.ords_ok (hp p List.mem_cons_self)
    have hr := sp_run (n := n) (r := p) (by rw [lp]; exact ok)
    obtain ⟨y5', e⟩ := ud_in (R := rowD p) (netD n) w (Nt.run n p) (by rw [Nt.run_len]; exact lp) w 0 f x5 (by omega)
    rw [← List.range_eq_range'] at e
    obtain ⟨y3, y4, y5, ih⟩ := ud_out hw ok rows (f + Nt.tw (Nt.run n p) w) (some (.im (rowD p))) (some (.im (rowD (Nt.run n p)))) y5' (fun q hq => hp q (List.mem_cons_of_mem _ hq))
    refine ⟨y3, y4, y5, ?_⟩
    have es : f + Nt.tws ((p :: rows).map (Nt.run n)) w = f + Nt.tw (Nt.run n p) w + Nt.tws (rows.map (Nt.run n)) w := by
      unfold Nt.tws
      rw [List.map_cons, List.map_cons, List.sum_cons]
      omega
    rw [es, ← ih, List.map_cons, forD_cons, gN_ap, Option.bind_some]
    have s1 : (sAsg (eN g_run (eCons (eVar 0) (eCons (eVar 3) eNil))) (gN 4)) [some (.im (netD n)), some (.im (.int (w : Int))), some (.im (.int (f : Int))), some (.im (rowD p)), x4, x5, none] = some (.nx [some (.im (netD n)), some (.im (.int (w : Int))), some (.im (.int (f : Int))), some (.im (rowD p)), some (.im (rowD (Nt.run n p))), x5, none]) := by
      simp only [sAsg_ap, eN_ap, eCons_ap, eNil_ap, eVar_0, eVar_s, Option.bind_some, Option.map_some, hr, gN_ap, List.set_cons_succ, List.set_cons_zero]
    have s2 : (sFor (eNL rg1 (eCons (eVar 1) eNil)) (gN 5) (sAug 2 (fun i j => i + j) (eN lenD (eCons (eL (eLc (iSq (eSl (eVar 4) (oSo (Dv.e2 addD (eVar 5) (eC (.int 1)))) oNo)) splN [6] [6] (tB (Dv.e2 ltD (eVar 6) (Dv.e2 idxD (eVar 4) (eVar 5)))) (eVar 6))) eNil)))) [some (.im (netD n)), some (.im (.int (w : Int))), some (.im (.int (f : Int))), some (.im (rowD p)), some (.im (rowD (Nt.run n p))), x5, none] = some (.nx [some (.im (netD n)), some (.im (.int (w : Int))), some (.im (.int ((f + Nt.tw (Nt.run n p) w : Nat) : Int))), some (.im (rowD p)), some (.im (rowD (Nt.run n p))), y5', none]) := by
      rw [sFor_ap]
      simp only [eNL_ap, eCons_ap, eNil_ap, eVar_0, eVar_s, Option.bind_some, Option.map_some, rg_nat (show w ≤ 1000 by omega)]
      rw [← List.range_eq_range']
      exact e
    simp only [List.set_cons_succ, List.set_cons_zero]
    rw [sSeq_ap, s1, Option.bind_some, thenD_nx, s2, Option.bind_some, loopD_nx]
theorem sp_undone {n : Nt.Net} {w : Nat} (hw : w ≤ 5) (ok : Nt.Ok w n) : g_undone [netD n, .int (w : Int)] = some (.int ((Nt.tws ((Nt.ords w w).map (Nt.run n)) w : Nat) : Int)) := by
  have ho := sp_orders hw
  obtain ⟨y3, y4, y5, e⟩ := ud_out hw ok (Nt.ords w w) 0 none none none fun p hp => hp
  rw [Nat.zero_add] at e
  unfold g_undone
  rw [fnD_ap (by rfl)]
  unfold b_undone
  simp only [List.map_cons, List.map_nil, List.replicate, List.cons_append, List.nil_append]
  have s1 : (sAsg (eC (.int 0)) (gN 2)) [some (.im (netD n)), some (.im (.int (w : Int))), none, none, none, none, none] = some (.nx [some (.im (netD n)), some (.im (.int (w : Int))), some (.im (.int ((0 : Nat) : Int))), none, none, none, none]) := rfl
  have s2 : (sFor (iSq (eN g_orders (eCons (eVar 1) eNil))) (gN 3) (sSeq (sAsg (eN g_run (eCons (eVar 0) (eCons (eVar 3) eNil))) (gN 4)) (sFor (eNL rg1 (eCons (eVar 1) eNil)) (gN 5) (sAug 2 (fun i j => i + j) (eN lenD (eCons (eL (eLc (iSq (eSl (eVar 4) (oSo (Dv.e2 addD (eVar 5) (eC (.int 1)))) oNo)) splN [6] [6] (tB (Dv.e2 ltD (eVar 6) (Dv.e2 idxD (eVar 4) (eVar 5)))) (eVar 6))) eNil)))))) [some (.im (netD n)), some (.im (.int (w : Int))), some (.im (.int ((0 : Nat) : Int))), none, none, none, none] = some (.nx [some (.im (netD n)), some (.im (.int (w : Int))), some (.im (.int ((Nt.tws ((Nt.ords w w).map (Nt.run n)) w : Nat) : Int))), y3, y4, y5, none]) := by
    rw [sFor_ap]
    simp only [iSq_ap, eN_ap, eCons_ap, eNil_ap, eVar_0, eVar_s, Option.bind_some, Option.map_some, ho, asSeq_l]
    exact e
  rw [sSeq_ap, s1, Option.bind_some, thenD_nx, sSeq_ap, s2, Option.bind_some, thenD_nx]
  simp only [sRet_ap, eVar_0, eVar_s, Option.map_some, outD_rt]

theorem zip_ints : ∀ a b : List Int, zipD (a.map PyData.int) (b.map PyData.int) = (a.zip b).map fun p => PyData.tuple [.int p.1, .int p.2]
  | [], _ => rfl
  | _ :: _, [] => rfl
  | x :: a, y :: b => by
    show _ :: zipD (a.map PyData.int) (b.map PyData.int) = _
    rw [zip_ints a b]
    rfl
theorem ord_zip : ∀ r : Nt.Row, ((r.dropLast.zip (r.drop 1)).map fun p => decide (p.1 ≤ p.2)).all id = Nt.ord r
  | [] => rfl
  | [_] => rfl
  | a :: b :: r => by
    have ih := ord_zip (b :: r)
    unfold Nt.ord
    rw [← ih]
    rfl
theorem sp_in_order (r : Nt.Row) : g_in_order [rowD r] = some (.bool (Nt.ord r)) := by
  unfold g_in_order
  rw [fnD_ap (by rfl)]
  have e1 := cut_from (r.map PyData.int) 1
  have e : lcD (splT 2) [1, 2] tYesD (e2 leD (eVar 1) (eVar 2)) [some (.im (rowD r)), none, none] ((r.dropLast.zip (r.drop 1)).map fun p => PyData.tuple [.int p.1, .int p.2]) = some (((r.dropLast.zip (r.drop 1)).map fun p => decide (p.1 ≤ p.2)).map PyData.bool) := by
    rw [lcD_map (fun p : Int × Int => PyData.tuple [.int p.1, .int p.2]) (fun p => [.int p.1, .int p.2]) (fun p => .bool (decide (p.1 ≤ p.2)))]
    · rw [List.map_map]; rfl
    · intro p _
      simp
  have z : zip2D [.tuple (cutD (r.map PyData.int) none (some (-1))), .tuple (cutD (r.map PyData.int) (some 1) none)] = some ((r.dropLast.zip (r.drop 1)).map fun p => PyData.tuple [.int p.1, .int p.2]) := by
    show some (zipD _ _) = _
    rw [cut_last, show (some (1 : Int)) = some ((1 : Nat) : Int) from rfl, e1, ← List.map_dropLast, ← List.map_drop, zip_ints]
  simp only [rowD] at e ⊢
  simp [b_in_order, z]
  simp only [List.drop_one] at e
  simp [e]
  show outD ((allD [.list _]).map Out.rt) = _
  simp only [allD]
  have := bools_map ((r.dropLast.zip (r.drop 1)).map fun p => decide (p.1 ≤ p.2))
  simp only [List.drop_one, List.map_map] at this
  rw [this]
  have o := ord_zip r
  simp only [List.drop_one] at o
  simp [← o]

def badRow (n : Nt.Net) (q : Nt.Row) : Bool := !Nt.ord (Nt.run n q)
theorem ff_loop (n : Nt.Net) (R : PyData) : ∀ (rows : List Nt.Row) (x : Option W), (∀ q ∈ rows, Nt.Ok q.length n) → ∃ x', forD (gN 2) (sIf (tNotD (tB (eN g_in_order (eCons (eN g_run (eCons (eVar 0) (eCons (eVar 2) eNil))) eNil)))) (sRet (eVar 2)) sNil) (rows.map rowD) [some (.im (netD n)), some (.im R), x] =
    (match rows.find? (badRow n) with
     | none => some (.nx [some (.im (netD n)), some (.im R), x'])
     | some q => some (.rt (rowD q)))
  | [], x, _ => ⟨x, rfl⟩
  | q :: rows, x, h => by
    obtain ⟨x', ih⟩ := ff_loop n R rows (some (.im (rowD q))) fun p hp => h p (List.mem_cons_of_mem _ hp)
    have hr := sp_run (h q List.mem_cons_self)
    by_cases hb : badRow n q = true
    · refine ⟨x, ?_⟩
      rw [List.find?_cons_of_pos hb]
      have hb' : Nt.ord (Nt.run n q) = false := by simpa [badRow] using hb
      simp [hr, sp_in_order, hb']
    · refine ⟨x', ?_⟩
      rw [List.find?_cons_of_neg hb, ← ih]
      have hb' : Nt.ord (Nt.run n q) = true := by simpa [badRow] using hb
      simp [hr, sp_in_order, hb']
theorem sp_first_failing {n : Nt.Net} {rows : List Nt.Row} (h : ∀ q ∈ rows, Nt.Ok q.length n) : g_first_failing [netD n, .list (rows.map rowD)] = some (optRow (rows.find? (badRow n))) := by
  obtain ⟨x', hl⟩ := ff_loop n (.list (rows.map rowD)) rows none h
  unfold g_first_failing
  rw [fnD_ap (by rfl)]
  simp [b_first_failing, hl]
  cases rows.find? (badRow n) <;> simp [optRow]

def failsT (n : Nt.Net) (w : Nat) : Option Nt.Row := (Nt.plain w).find? (badRow n)
theorem sp_fails {n : Nt.Net} {w : Nat} (hw : w ≤ 10) (ok : Nt.Ok w n) : g_fails [netD n, .int (w : Int)] = some (optRow (failsT n w)) := by
  have h1 := sp_plain_rows hw
  have h2 := sp_first_failing (n := n) (rows := Nt.plain w) fun q hq => by rw [(Nt.plain_mem.mp hq).1]; exact ok
  unfold g_fails
  rw [fnD_ap (by rfl)]
  simp [b_fails, h1, h2, failsT]
theorem fails_none {n : Nt.Net} {w : Nat} (h : failsT n w = none) : ∀ q ∈ Nt.plain w, Nt.ord (Nt.run n q) = true := fun q hq => by
  have := List.find?_eq_none.mp h q hq
  simpa [badRow] using this
theorem fails_none_of {n : Nt.Net} {w : Nat} (h : ∀ q ∈ Nt.plain w, Nt.ord (Nt.run n q) = true) : failsT n w = none :=
  List.find?_eq_none.mpr fun q hq => by simp [badRow, h q hq]

theorem sp_cell_at (ns : List Int) (k : Nat) : g_law_cell_at [.list (ns.map PyData.int), .int (k : Int)] = some (.int (ns.getD k 0)) := by
  unfold g_law_cell_at
  rw [fnD_ap (by rfl)]
  by_cases h : k < ns.length
  · have e := at_row h
    simp [b_law_cell_at, h]
    simp [e, List.getElem?_eq_getElem h]
  · have e : ns[k]? = none := List.getElem?_eq_none (by omega)
    simp [b_law_cell_at, h, e]

theorem sp_mixed (ns : List Int) (k : Nat) (hk : k ≤ 1000) : ∃ m : Nat, g_law_mixed [.list (ns.map PyData.int), .int (k : Int)] = some (.int (m : Int)) ∧ m < 2147483629 := by
  have hc := sp_cell_at ns k
  generalize ns.getD k 0 = c at hc
  unfold g_law_mixed
  rw [fnD_ap (by rfl)]
  have d0 := Int.emod_nonneg ((c + 7919 * (k : Int) + 1) * 48271) (show (2147483647 : Int) ≠ 0 by decide)
  have d1 := Int.emod_lt_of_pos ((c + 7919 * (k : Int) + 1) * 48271) (show (0 : Int) < 2147483647 by decide)
  generalize hd : (c + 7919 * (k : Int) + 1) * 48271 % 2147483647 = d at d0 d1
  have r0 := Int.emod_nonneg (d * d + 7 * d + (k : Int)) (show (2147483629 : Int) ≠ 0 by decide)
  have r1 := Int.emod_lt_of_pos (d * d + 7 * d + (k : Int)) (show (0 : Int) < 2147483629 by decide)
  refine ⟨((d * d + 7 * d + (k : Int)) % 2147483629).toNat, ?_, by omega⟩
  simp [b_law_mixed, hc]
  rw [mulD_l (by omega)]
  simp
  rw [mulD_r (by omega)]
  simp [modD_i (show (0 : Int) < 2147483647 by decide), hd]
  rw [mulD_l (by omega), mulD_l (by omega)]
  simp [modD_i (show (0 : Int) < 2147483629 by decide)]
  omega
theorem mx (ns : List Int) (k : Int) (h : 0 ≤ k ∧ k ≤ 1000 := by decide) : ∃ m : Nat, g_law_mixed [.list (ns.map PyData.int), .int k] = some (.int (m : Int)) ∧ m < 2147483629 := by
  obtain ⟨j, rfl⟩ : ∃ j : Nat, k = (j : Int) := ⟨k.toNat, by omega⟩
  exact sp_mixed ns j (by omega)
theorem wide_of (m : Nat) (k : Nat) (c : Nat) (hk : 0 < k := by decide) : ∃ w : Nat, (c : Int) + (m : Int) % (k : Int) = (w : Int) ∧ c ≤ w ∧ w < c + k :=
  ⟨c + m % k, by rw [Int.natCast_add, Int.natCast_emod], by omega, by have := Nat.mod_lt m hk; omega⟩

def drawnT (x k : Int) : Int := ((x + 104729 * k + 17) * 69621 % 2147483647 * ((x + 104729 * k + 17) * 69621 % 2147483647) + 3 * ((x + 104729 * k + 17) * 69621 % 2147483647) + k) % 2147483629
theorem drawnT_nn (x k : Int) : 0 ≤ drawnT x k := Int.emod_nonneg _ (by decide)
theorem drawnT_lt (x k : Int) : drawnT x k < 2147483629 := Int.emod_lt_of_pos _ (by decide)
theorem sp_drawn (x k : Int) : g_law_drawn [.int x, .int k] = some (.int (drawnT x k)) := by
  unfold g_law_drawn drawnT
  rw [fnD_ap (by rfl)]
  have d0 := Int.emod_nonneg ((x + 104729 * k + 17) * 69621) (show (2147483647 : Int) ≠ 0 by decide)
  have d1 := Int.emod_lt_of_pos ((x + 104729 * k + 17) * 69621) (show (0 : Int) < 2147483647 by decide)
  simp [b_law_drawn]
  rw [mulD_l (by omega)]
  simp
  rw [mulD_r (by omega)]
  simp [modD_i (show (0 : Int) < 2147483647 by decide)]
  generalize (x + 104729 * k + 17) * 69621 % 2147483647 = d at d0 d1 ⊢
  rw [mulD_l (by omega), mulD_l (by omega)]
  simp [modD_i (show (0 : Int) < 2147483629 by decide)]

def swapT (x : Int) (w : Nat) : Nt.Sw := ((x % (w : Int)).toNat, ((x % (w : Int) + 1 + x / 8 % ((w : Int) - 1)) % (w : Int)).toNat)
theorem swapT_ok (x : Int) {w : Nat} (hw : 2 ≤ w) : Nt.SwOk w (swapT x w) := by
  have a0 := Int.emod_nonneg x (show (w : Int) ≠ 0 by omega)
  have a1 := Int.emod_lt_of_pos x (show (0 : Int) < w by omega)
  have b0 := Int.emod_nonneg (x / 8) (show (w : Int) - 1 ≠ 0 by omega)
  have b1 := Int.emod_lt_of_pos (x / 8) (show (0 : Int) < (w : Int) - 1 by omega)
  unfold swapT
  generalize x % (w : Int) = a at a0 a1 ⊢
  generalize x / 8 % ((w : Int) - 1) = b at b0 b1 ⊢
  have c : (a + 1 + b) % (w : Int) = if a + 1 + b < w then a + 1 + b else a + 1 + b - w := by
    split
    · exact Int.emod_eq_of_lt (by omega) (by omega)
    · rw [← Int.sub_emod_right, Int.emod_eq_of_lt (by omega) (by omega)]
  rw [c]
  refine ⟨?_, ?_, ?_⟩
  · show a.toNat < w
    omega
  · simp only
    split <;> omega
  · simp only
    split <;> omega
theorem sp_swap (x : Int) {w : Nat} (hw : 2 ≤ w) : g_law_swap [.int x, .int (w : Int)] = some (swD (swapT x w)) := by
  have a0 := Int.emod_nonneg x (show (w : Int) ≠ 0 by omega)
  have c0 := Int.emod_nonneg (x % (w : Int) + 1 + x / 8 % ((w : Int) - 1)) (show (w : Int) ≠ 0 by omega)
  unfold g_law_swap
  rw [fnD_ap (by rfl)]
  simp [b_law_swap, modD_i (show (0 : Int) < (w : Int) by omega), modD_i (show (0 : Int) < (w : Int) - 1 by omega), fdivD_i (show (0 : Int) < 8 ∧ (8 : Int) < 1073741824 by decide), swD, swapT]
  omega

def bubT (w : Nat) : Nt.Net := (List.range w).flatMap fun k => (List.range (w - 1 - k)).map fun l => (l, l + 1)
theorem bub_sp : ∀ w : Fin 9, g_law_bubble [.int ((w.val : Nat) : Int)] = some (.list ((bubT w.val).map swD))
  | 0 => by kernel_rfl
  | 1 => by kernel_rfl
  | 2 => by kernel_rfl
  | 3 => by kernel_rfl
  | 4 => by kernel_rfl
  | 5 => by kernel_rfl
  | 6 => by kernel_rfl
  | 7 => by kernel_rfl
  | 8 => by kernel_rfl
theorem sp_bubble {w : Nat} (hw : w ≤ 8) : g_law_bubble [.int (w : Int)] = some (.list ((bubT w).map swD)) := bub_sp ⟨w, by omega⟩
theorem bubT_ok (w : Nat) : Nt.Ok w (bubT w) := fun p hp => by
  unfold bubT at hp
  obtain ⟨k, hk, hp⟩ := List.mem_flatMap.mp hp
  obtain ⟨l, hl, rfl⟩ := List.mem_map.mp hp
  rw [List.mem_range] at hk hl
  exact ⟨by simp only; omega, by simp only; omega, by simp only; omega⟩
theorem bubT_len {w : Nat} (hw : w ≤ 8) : (bubT w).length ≤ 28 := (show ∀ w : Fin 9, (bubT w.val).length ≤ 28 by decide +kernel) ⟨w, by omega⟩
theorem bubT_pos {w : Nat} (h1 : 2 ≤ w) (hw : w ≤ 8) : 1 ≤ (bubT w).length := (show ∀ w : Fin 9, 2 ≤ w.val → 1 ≤ (bubT w.val).length by decide +kernel) ⟨w, by omega⟩ h1

def st9 (x w m kd : Int) (n : Nt.Net) (a : Option W) : En := [some (.im (.int x)), some (.im (.int w)), some (.im (.int m)), some (.im (.int kd)), some (.im (.list (n.map swD))), a, none, none, none]
theorem net_first {x : Int} {w m : Nat} (hw : 2 ≤ w) (hm : m ≤ 1000) (kd : Int) (hx : 0 ≤ x) : ∃ n : Nt.Net, Nt.Ok w n ∧ n.length ≤ m ∧
    sAsg (eL (eLc (eNL rg1 (eCons (e2 modD (eVar 0) (e2 addD (eVar 2) (eC (.int 1)))) eNil)) splN [6] [6] tYesD (eN g_law_swap (eCons (eN g_law_drawn (eCons (eVar 0) (eCons (eVar 6) eNil))) (eCons (eVar 1) eNil))))) (gN 4)
      [some (.im (.int x)), some (.im (.int (w : Int))), some (.im (.int (m : Int))), some (.im (.int kd)), none, none, none, none, none] = some (.nx (st9 x w m kd n none)) := by
  have a0 := Int.emod_nonneg x (show (m : Int) + 1 ≠ 0 by omega)
  have a1 := Int.emod_lt_of_pos x (show (0 : Int) < (m : Int) + 1 by omega)
  refine ⟨(List.range (x % ((m : Int) + 1)).toNat).map fun i => swapT (drawnT x ((i : Nat) : Int)) w, fun p hp => ?_, by rw [List.length_map, List.length_range]; omega, ?_⟩
  · obtain ⟨i, _, rfl⟩ := List.mem_map.mp hp
    exact swapT_ok _ hw
  · simp [modD_i (show (0 : Int) < (m : Int) + 1 by omega)]
    rw [rg1_i ⟨a0, by omega⟩]
    simp [rng0]
    rw [lcD_mapN _ (fun i => swD (swapT (drawnT x ((i : Nat) : Int)) w))]
    · simp [st9, List.map_map, Function.comp_def]
    · intro i _
      simp [sp_drawn, sp_swap _ hw]
theorem net_min {x m kd : Int} {w : Nat} {n : Nt.Net} (ok : Nt.Ok w n) : ∃ n' : Nt.Net, Nt.Ok w n' ∧ n'.length ≤ n.length ∧
    sIf (tB (e2 eqD (eVar 3) (eC (.int 1)))) (sAsg (eL (eLc (iSq (eVar 4)) (splT 2) [7, 8] [7, 8] tYesD (eN mkT (eCons (eN minD2 (eCons (eVar 7) (eCons (eVar 8) eNil))) (eCons (eN maxD2 (eCons (eVar 7) (eCons (eVar 8) eNil))) eNil))))) (gN 4)) sNil (st9 x w m kd n none) = some (.nx (st9 x w m kd n' none)) := by
  by_cases h : kd = 1
  · refine ⟨n.map fun p => (min p.1 p.2, max p.1 p.2), fun q hq => ?_, by rw [List.length_map]; exact Nat.le_refl _, ?_⟩
    · obtain ⟨p, hp, rfl⟩ := List.mem_map.mp hq
      obtain ⟨h1, h2, h3⟩ := ok p hp
      exact ⟨by simp only; omega, by simp only; omega, by simp only; omega⟩
    · simp [st9, h]
      rw [lcD_map swD (fun p => [.int p.1, .int p.2]) (fun p => swD (min p.1 p.2, max p.1 p.2))]
      · simp [List.map_map, Function.comp_def]
      · intro p _
        simp [swD, minD2_i, maxD2_i]
        omega
  · exact ⟨n, ok, Nat.le_refl _, by simp [st9, h]⟩
theorem net_next {x m kd : Int} {w : Nat} {n : Nt.Net} (hw : 2 ≤ w) (ok : Nt.Ok w n) : ∃ n' : Nt.Net, Nt.Ok w n' ∧ n'.length ≤ n.length ∧
    sIf (tB (e2 eqD (eVar 3) (eC (.int 2)))) (sAsg (eL (eLc (iSq (eVar 4)) (splT 2) [7, 8] [7, 8] tYesD (eN mkT (eCons (e2 modD (eVar 7) (e2 subD (eVar 1) (eC (.int 1)))) (eCons (e2 addD (e2 modD (eVar 7) (e2 subD (eVar 1) (eC (.int 1)))) (eC (.int 1))) eNil))))) (gN 4)) sNil (st9 x w m kd n none) = some (.nx (st9 x w m kd n' none)) := by
  by_cases h : kd = 2
  · refine ⟨n.map fun p => (p.1 % (w - 1), p.1 % (w - 1) + 1), fun q hq => ?_, by rw [List.length_map]; exact Nat.le_refl _, ?_⟩
    · obtain ⟨p, hp, rfl⟩ := List.mem_map.mp hq
      have := Nat.mod_lt p.1 (show w - 1 > 0 by omega)
      exact ⟨by simp only; omega, by simp only; omega, by simp only; omega⟩
    · simp [st9, h]
      rw [lcD_map swD (fun p => [.int p.1, .int p.2]) (fun p => swD (p.1 % (w - 1), p.1 % (w - 1) + 1))]
      · simp [List.map_map, Function.comp_def]
      · intro p _
        have e : ((p.1 % (w - 1) : Nat) : Int) = (p.1 : Int) % ((w : Int) - 1) := by
          rw [Int.natCast_emod, Int.natCast_sub (by omega)]
          rfl
        simp [swD, modD_i (show (0 : Int) < (w : Int) - 1 by omega), e]
  · exact ⟨n, ok, Nat.le_refl _, by simp [st9, h]⟩
theorem net_last {x m kd : Int} {w : Nat} {n : Nt.Net} (hx : 0 ≤ x) (hw : 2 ≤ w) (hw8 : w ≤ 8) (ok : Nt.Ok w n) (hn : n.length ≤ 1000) : ∃ (n' : Nt.Net) (a : Option W), Nt.Ok w n' ∧ n'.length ≤ max n.length 33 ∧
    sIf (tB (e2 eqD (eVar 3) (eC (.int 3)))) (sSeq (sAsg (e2 addD (eSl (eVar 4) oNo (oSo (e2 mulD2 (eC (.int 5)) (e2 modD (e2 fdivD (eVar 0) (eC (.int 256))) (eC (.int 2)))))) (eN g_law_bubble (eCons (eVar 1) eNil))) (gN 4))
  (sIf (tB (e2 eqD (e2 modD (e2 fdivD (eVar 0) (eC (.int 512))) (eC (.int 2))) (eC (.int 1)))) (sSeq (sAsg (e2 modD (e2 fdivD (eVar 0) (eC (.int 1024))) (eN lenD (eCons (eVar 4) eNil))) (gN 5))
  (sAsg (e2 addD (eSl (eVar 4) oNo (oSo (eVar 5))) (eSl (eVar 4) (oSo (e2 addD (eVar 5) (eC (.int 1)))) oNo)) (gN 4))) sNil)) sNil (st9 x w m kd n none) = some (.nx (st9 x w m kd n' a)) := by
  by_cases h : kd = 3
  · have f1 : (0 : Int) < 256 ∧ (256 : Int) < 1073741824 := by decide
    have f2 : (0 : Int) < 512 ∧ (512 : Int) < 1073741824 := by decide
    have f3 : (0 : Int) < 1024 ∧ (1024 : Int) < 1073741824 := by decide
    have g2 : (0 : Int) < 2 := by decide
    have hb := sp_bubble hw8
    have hbl := bubT_len hw8
    have hbp := bubT_pos hw hw8
    obtain ⟨k, hk, hk5⟩ : ∃ k : Nat, 5 * (x / 256 % 2) = (k : Int) ∧ k ≤ 5 := ⟨(5 * (x / 256 % 2)).toNat, by omega, by omega⟩
    have h1l : (n.take k ++ bubT w).length ≤ 33 := by rw [List.length_append, List.length_take]; omega
    have h1p : 1 ≤ (n.take k ++ bubT w).length := by rw [List.length_append]; omega
    have h1o : Nt.Ok w (n.take k ++ bubT w) := (ok.take k).app (bubT_ok w)
    have e1 : addD (.list (cutD (n.map swD) none (some (5 * (x / 256 % 2))))) (.list ((bubT w).map swD)) = some (.list ((n.take k ++ bubT w).map swD)) := by
      rw [hk, cut_to, addD_l (by rw [List.length_take, List.length_map, List.length_map]; omega), List.map_append, List.map_take]
    by_cases h2 : x / 512 % 2 = 1
    · generalize n.take k ++ bubT w = n1 at h1l h1p h1o e1
      obtain ⟨j, hj⟩ : ∃ j : Nat, x / 1024 % (n1.length : Int) = (j : Int) := ⟨(x / 1024 % (n1.length : Int)).toNat, by
        have := Int.emod_nonneg (x / 1024) (show (n1.length : Int) ≠ 0 by omega)
        omega⟩
      refine ⟨n1.take j ++ n1.drop (j + 1), some (.im (.int (j : Int))), (h1o.take j).app (h1o.drop _), by rw [List.length_append, List.length_take, List.length_drop]; omega, ?_⟩
      simp [st9, h, fdivD_i f1, fdivD_i f2, fdivD_i f3, modD_i g2, mulD_l (show -(2 ^ 64 : Int) < 5 ∧ (5 : Int) < 2 ^ 64 by decide), hb, e1, h2, modD_i (show (0 : Int) < (n1.length : Int) by omega), hj, cut_to]
      rw [show (j : Int) + 1 = ((j + 1 : Nat) : Int) by omega, cut_from, addD_l (by rw [List.length_take, List.length_drop, List.length_map]; omega)]
      simp
    · refine ⟨n.take k ++ bubT w, none, h1o, by omega, ?_⟩
      simp [st9, h, fdivD_i f1, fdivD_i f2, modD_i g2, mulD_l (show -(2 ^ 64 : Int) < 5 ∧ (5 : Int) < 2 ^ 64 by decide), hb, e1, h2]
  · exact ⟨n, none, ok, by omega, by simp [st9, h]⟩
theorem sp_net {x w m : Nat} (h1 : 1 ≤ w) (h8 : w ≤ 8) (hm : m ≤ 1000) : ∃ n : Nt.Net, g_law_net [.int (x : Int), .int (w : Int), .int (m : Int)] = some (netD n) ∧ Nt.Ok w n ∧ n.length ≤ max m 33 := by
  unfold g_law_net
  rw [fnD_ap (by rfl)]
  by_cases hw : w = 1
  · refine ⟨[], ?_, .nil w, by simp⟩
    subst hw
    simp [b_law_net, netD]
  · obtain ⟨n1, o1, l1, e1⟩ := net_first (x := x) (w := w) (m := m) (by omega) hm ((x : Int) / 64 % 4) (by omega)
    obtain ⟨n2, o2, l2, e2⟩ := net_min (x := x) (m := m) (kd := (x : Int) / 64 % 4) o1
    obtain ⟨n3, o3, l3, e3⟩ := net_next (x := x) (m := m) (kd := (x : Int) / 64 % 4) (by omega) o2
    obtain ⟨n4, a, o4, l4, e4⟩ := net_last (x := x) (m := m) (kd := (x : Int) / 64 % 4) (by omega) (by omega) h8 o3 (by omega)
    refine ⟨n4, ?_, o4, by omega⟩
    have hw' : ¬ (w : Int) = 1 := by omega
    unfold b_law_net
    rw [sSeq_ap]
    have z1 : sIf (tB (Dv.e2 eqD (eVar 1) (eC (.int 1)))) (sRet (eN mkT eNil)) sNil (List.map (fun d => some (W.im d)) [PyData.int (x : Int), .int (w : Int), .int (m : Int)] ++ List.replicate 6 none) = some (.nx [some (.im (.int (x : Int))), some (.im (.int (w : Int))), some (.im (.int (m : Int))), none, none, none, none, none, none]) := by
      simp [hw', List.replicate]
    rw [z1, Option.bind_some, thenD_nx, sSeq_ap]
    have z2 : sAsg (Dv.e2 modD (Dv.e2 fdivD (eVar 0) (eC (.int 64))) (eC (.int 4))) (gN 3) [some (.im (.int (x : Int))), some (.im (.int (w : Int))), some (.im (.int (m : Int))), none, none, none, none, none, none] = some (.nx [some (.im (.int (x : Int))), some (.im (.int (w : Int))), some (.im (.int (m : Int))), some (.im (.int ((x : Int) / 64 % 4))), none, none, none, none, none]) := by
      simp [fdivD_i (show (0 : Int) < 64 ∧ (64 : Int) < 1073741824 by decide), modD_i (show (0 : Int) < 4 by decide)]
    rw [z2, Option.bind_some, thenD_nx, sSeq_ap, e1, Option.bind_some, thenD_nx, sSeq_ap, e2, Option.bind_some, thenD_nx, sSeq_ap, e3, Option.bind_some, thenD_nx, sSeq_ap, e4, Option.bind_some, thenD_nx]
    simp [st9, netD]
theorem nx_ {x w : Nat} (m : Int) (h1 : 1 ≤ w) (h8 : w ≤ 8) (hm : 0 ≤ m ∧ m ≤ 1000 := by decide) : ∃ n : Nt.Net, g_law_net [.int (x : Int), .int (w : Int), .int m] = some (netD n) ∧ Nt.Ok w n ∧ n.length ≤ max m.toNat 33 := by
  obtain ⟨j, rfl⟩ : ∃ j : Nat, m = (j : Int) := ⟨m.toNat, by omega⟩
  exact sp_net h1 h8 (by omega)

theorem sp_row (ns : List Int) (a w x : Nat) (hw : w ≤ 8) (ha : a ≤ 100) : ∃ r : Nt.Row, g_law_row [.list (ns.map PyData.int), .int (a : Int), .int (w : Int), .int (x : Int)] = some (rowD r) ∧ r.length = w := by
  unfold g_law_row
  rw [fnD_ap (by rfl)]
  have e0 : rg1 [.int (w : Int)] = some ((List.range w).map fun i => PyData.int ((i : Nat) : Int)) := by
    rw [rg1_i ⟨by omega, by omega⟩, rng0]
    rfl
  have e1 : ∀ o : List (Option W), lcD splN [5] tYesD (eN g_law_cell_at (eCons (eVar 0) (eCons (e2 addD (eVar 1) (eVar 5)) eNil))) (some (.im (.list (ns.map PyData.int))) :: some (.im (.int (a : Int))) :: some (.im (.int (w : Int))) :: some (.im (.int (x : Int))) :: none :: none :: o) ((List.range w).map fun i => PyData.int ((i : Nat) : Int)) = some (((List.range w).map fun i => ns.getD (a + i) 0).map .int) := fun o => by
    rw [lcD_mapN _ (fun i => .int (ns.getD (a + i) 0))]
    · rw [List.map_map]; rfl
    · intro i _
      have := sp_cell_at ns (a + i)
      rw [show ((a + i : Nat) : Int) = (a : Int) + (i : Int) by omega] at this
      simp [this]
  have g3 : (0 : Int) < 3 := by decide
  have g2 : (0 : Int) < 2 := by decide
  have g4 : (0 : Int) < 4 := by decide
  have f3 : (0 : Int) < 3 ∧ (3 : Int) < 1073741824 := by decide
  generalize hr0 : (List.range w).map (fun i => ns.getD (a + i) 0) = r0 at e1
  have hl0 : r0.length = w := by rw [← hr0, List.length_map, List.length_range]
  have e2 : ∀ ρ : En, ρ = [some (.im (.list (ns.map PyData.int))), some (.im (.int (a : Int))), some (.im (.int (w : Int))), some (.im (.int (x : Int))), some (.im (.list (r0.map .int))), none, none] → lcD splN [6] tYesD (e2 modD (eVar 6) (eC (.int 2))) ρ (r0.map .int) = some ((r0.map fun v => v % 2).map .int) := fun ρ h => by
    subst h
    rw [lcD_mapN _ (fun v => .int (v % 2))]
    · rw [List.map_map]; rfl
    · intro i _
      simp [modD_i g2]
  have e3 : ∀ ρ : En, ρ = [some (.im (.list (ns.map PyData.int))), some (.im (.int (a : Int))), some (.im (.int (w : Int))), some (.im (.int (x : Int))), some (.im (.list (r0.map .int))), none, none] → ∃ r : Nt.Row, r.length = w ∧ lcD splN [5] tYesD (Dv.e2 modD (eN g_law_drawn (eCons (eVar 3) (eCons (eVar 5) eNil))) (Dv.e2 idxD (eN mkT (eCons (eC (.int 2)) (eCons (eC (.int 3)) (eCons (eC (.int 9)) (eCons (eC (.int 1000)) eNil))))) (Dv.e2 modD (Dv.e2 fdivD (eVar 3) (eC (.int 3))) (eC (.int 4))))) ρ ((List.range w).map fun i => PyData.int ((i : Nat) : Int)) = some (r.map .int) := fun ρ h => by
    subst h
    obtain ⟨c, hc, hc0⟩ : ∃ c : Int, atI [PyData.int 2, .int 3, .int 9, .int 1000] ((x : Int) / 3 % 4) = some (.int c) ∧ 0 < c := by
      obtain ⟨k, hk, hk4⟩ : ∃ k : Nat, (x : Int) / 3 % 4 = (k : Int) ∧ k < 4 := ⟨((x : Int) / 3 % 4).toNat, by omega, by omega⟩
      rw [hk]
      match k, hk4 with
      | 0, _ => exact ⟨2, rfl, by decide⟩
      | 1, _ => exact ⟨3, rfl, by decide⟩
      | 2, _ => exact ⟨9, rfl, by decide⟩
      | 3, _ => exact ⟨1000, rfl, by decide⟩
    refine ⟨(List.range w).map fun i => drawnT (x : Int) ((i : Nat) : Int) % c, by rw [List.length_map, List.length_range], ?_⟩
    rw [lcD_mapN _ (fun i => .int (drawnT (x : Int) ((i : Nat) : Int) % c))]
    · rw [List.map_map]; rfl
    · intro i _
      have m4 : mkT [PyData.int 2, .int 3, .int 9, .int 1000] = some (.tuple [.int 2, .int 3, .int 9, .int 1000]) := mkT_ap (by simp)
      simp [sp_drawn, m4, fdivD_i f3, modD_i g4, hc, modD_i hc0]
  by_cases h1 : (x : Int) % 3 = 1
  · refine ⟨r0.map fun v => v % 2, ?_, by rw [List.length_map]; exact hl0⟩
    simp [b_law_row, e0, e1, modD_i g3, h1, e2, rowD]
  · by_cases h2 : (x : Int) % 3 = 2
    · obtain ⟨r, hl, e⟩ := e3 _ rfl
      refine ⟨r, ?_, hl⟩
      simp [b_law_row, e0, e1, modD_i g3, h1, h2, rowD]
      simp [e]
    · refine ⟨r0, ?_, hl0⟩
      simp [b_law_row, e0, e1, modD_i g3, h1, h2, rowD]
theorem rx (ns : List Int) (a : Int) (w x : Nat) (hw : w ≤ 8) (ha : 0 ≤ a ∧ a ≤ 100 := by decide) : ∃ r : Nt.Row, g_law_row [.list (ns.map PyData.int), .int a, .int (w : Int), .int (x : Int)] = some (rowD r) ∧ r.length = w := by
  obtain ⟨j, rfl⟩ : ∃ j : Nat, a = (j : Int) := ⟨a.toNat, by omega⟩
  exact sp_row ns j w x hw (by omega)

theorem law_run_loop : ∀ (n : Nt.Net) (r : Nt.Row) (N R : PyData) (x y z : Option W), Nt.Ok r.length n → ∃ x' y' z', forD (gT 2 (gConsD (gN 3) (gConsD (gN 4) gNilD))) (sSeq (sAsg (eN minD2 (eCons (eIdxM 2 (eVar 3)) (eCons (eIdxM 2 (eVar 4)) eNil))) (gN 5))
  (sSeq (sAsg (eN maxD2 (eCons (eIdxM 2 (eVar 3)) (eCons (eIdxM 2 (eVar 4)) eNil))) (gSubM 2 (eVar 4)))
  (sAsg (eVar 5) (gSubM 2 (eVar 3))))) (n.map swD) [some (.im N), some (.im R), some (.ml (r.map .int)), x, y, z] = some (.nx [some (.im N), some (.im R), some (.ml ((Nt.run n r).map .int)), x', y', z'])
  | [], r, N, R, x, y, z, _ => ⟨x, y, z, rfl⟩
  | p :: n, r, N, R, x, y, z, ok => by
    obtain ⟨a, b⟩ := p
    obtain ⟨h1, h2, h3⟩ := ok.head
    simp only at h1 h2 h3
    obtain ⟨x', y', z', ih⟩ := law_run_loop n (Nt.sw (a, b) r) N R (some (.im (.int a))) (some (.im (.int b))) (some (.im (.int (min (r.getD a 0) (r.getD b 0))))) (by rw [Nt.sw_len]; exact ok.tail)
    refine ⟨x', y', z', ?_⟩
    rw [Nt.run_cons, ← ih]
    have e1 := at_row h1
    have e2 := at_row h2
    have e3 : (Nt.sw (a, b) r) = (r.set b (max (r.getD a 0) (r.getD b 0))).set a (min (r.getD a 0) (r.getD b 0)) := by
      unfold Nt.sw Nt.lo Nt.hi
      rw [List.set_comm _ _ h3]
    simp [swD, eIdxM_ap, e1, e2, minD2_i, maxD2_i, ixN_nat, h1, h2, e3]
theorem sp_law_run {n : Nt.Net} {r : Nt.Row} (ok : Nt.Ok r.length n) : g_law_run [netD n, rowD r] = some (rowD (Nt.run n r)) := by
  obtain ⟨x, y, z, h⟩ := law_run_loop n r (netD n) (rowD r) none none none ok
  unfold g_law_run
  rw [fnD_ap (by rfl)]
  simp [b_law_run, netD, rowD] at h ⊢
  simp [h]

theorem sp_law_orders {w : Nat} (h : w ≤ 5) : g_law_orders [.int (w : Int)] = some (.list ((Nt.ords w w).map rowD)) := sp_orders h

theorem outs_st {n : Nt.Net} {w l : Nat} : (((Nt.ords w w).map (Nt.run n)).filter fun o => !decide (o.getD l 0 = (l : Int))).isEmpty = Nt.stB n w l := by
  unfold Nt.stB
  generalize Nt.ords w w = ps
  rw [Bool.eq_iff_iff, List.isEmpty_iff, List.filter_eq_nil_iff, List.all_eq_true]
  simp
theorem outs_ord {n : Nt.Net} {w : Nat} : (((Nt.ords w w).map (Nt.run n)).filter Nt.ord).length = whl n w := by
  unfold whl
  generalize Nt.ords w w = ps
  rw [List.filter_map, List.length_map]
  rfl
theorem whl_all {n : Nt.Net} {w : Nat} : whl n w = (Nt.ords w w).length ↔ ∀ p ∈ Nt.ords w w, Nt.ord (Nt.run n p) = true := by
  unfold whl
  constructor
  · intro h p hp
    have e : (Nt.ords w w).filter (fun p => Nt.ord (Nt.run n p)) = Nt.ords w w := List.filter_sublist.eq_of_length h
    rw [← e] at hp
    exact (List.mem_filter.mp hp).2
  · intro h
    rw [List.filter_eq_self.mpr h]
theorem law_in (S M : PyData) (w : Nat) (N O D R P : Option W) (x8 : Option W) (q : Nt.Row) (hq : q.length = w) (hw : w ≤ 5) : ∀ (k j f : Nat) (x11 : Option W), j + k ≤ w → ∃ y11, forD (gN 11) (sAsg (Dv.e2 addD (eVar 9) (eN lenD (eCons (eL (eLc (iSq (eSl (eVar 10) (oSo (Dv.e2 addD (eVar 11) (eC (.int 1)))) oNo)) splN [1] [1] (tB (Dv.e2 ltD (eVar 1) (Dv.e2 idxD (eVar 10) (eVar 11)))) (eVar 1))) eNil))) (gN 9)) ((List.range' j k).map fun i => PyData.int ((i : Nat) : Int)) (some (.im S) :: some (.im M) :: (some (.im (.int (w : Int)))) :: N :: O :: D :: R :: P :: x8 :: (some (.im (.int (f : Int)))) :: (some (.im (rowD q))) :: x11 :: [none, none, none, none, none, none, none]) =
    some (.nx (some (.im S) :: some (.im M) :: (some (.im (.int (w : Int)))) :: N :: O :: D :: R :: P :: x8 :: (some (.im (.int ((f + ((List.range' j k).map (Nt.twAt q)).sum : Nat) : Int)))) :: (some (.im (rowD q))) :: y11 :: [none, none, none, none, none, none, none]))
  | 0, j, f, x11, _ => ⟨x11, rfl⟩
  | k + 1, j, f, x11, h => by
    obtain ⟨y11, ih⟩ := law_in S M w N O D R P x8 q hq hw k (j + 1) (f + Nt.twAt q j) (some (.im (.int (j : Int)))) (by omega)
    refine ⟨y11, ?_⟩
    have i1 := at_row (r := q) (k := j) (by omega)
    have c1 : ∀ x0 x1 : Option W, lcD splN [1] (tB (Dv.e2 ltD (eVar 1) (Dv.e2 idxD (eVar 10) (eVar 11)))) (eVar 1) (x0 :: x1 :: (some (.im (.int (w : Int)))) :: N :: O :: D :: R :: P :: x8 :: (some (.im (.int (f : Int)))) :: (some (.im (rowD q))) :: (some (.im (.int (j : Int)))) :: [none, none, none, none, none, none, none]) ((q.drop (j + 1)).map PyData.int) = some (((q.drop (j + 1)).filter fun x => decide (x < q.getD j 0)).map PyData.int) := fun x0 x1 => by
      rw [lcD_filN PyData.int (fun x => decide (x < q.getD j 0)) PyData.int]
      intro x _
      simp only [rowD, List.set_cons_succ, List.set_cons_zero, tB_ap, Dv.e2_ap, eVar_0, eVar_s, Option.bind_some, idxD_t, i1, ltD_i, asB_b]
      exact ⟨trivial, fun _ => trivial⟩
    have cu := tw_cut q j
    have le := tw_len q j
    have ea : (eN lenD (eCons (eL (eLc (iSq (eSl (eVar 10) (oSo (Dv.e2 addD (eVar 11) (eC (.int 1)))) oNo)) splN [1] [1] (tB (Dv.e2 ltD (eVar 1) (Dv.e2 idxD (eVar 10) (eVar 11)))) (eVar 1))) eNil)) (some (.im S) :: some (.im M) :: (some (.im (.int (w : Int)))) :: N :: O :: D :: R :: P :: x8 :: (some (.im (.int (f : Int)))) :: (some (.im (rowD q))) :: (some (.im (.int (j : Int)))) :: [none, none, none, none, none, none, none]) = some (.int ((Nt.twAt q j : Nat) : Int)) := by
      simp only [rowD] at c1 ⊢
      simp only [eN_ap, eL_ap, eLc_ap, iSq_ap, eSl_ap, oSo_ap, oNo_ap, Dv.e2_ap, eC_ap, addD_i, asI_i, eCons_ap, eNil_ap, eVar_0, eVar_s, Option.bind_some, Option.map_some, cu, asSeq_t, wipeE_c, wipeE_0, List.set_cons_succ, List.set_cons_zero, c1, le]
    rw [List.range'_succ, List.map_cons, forD_cons, gN_ap, Option.bind_some, List.map_cons, List.sum_cons, ← Nat.add_assoc, ← ih]
    have ad : addD (.int (f : Int)) (.int ((Nt.twAt q j : Nat) : Int)) = some (.int ((f + Nt.twAt q j : Nat) : Int)) := by
      rw [addD_i]
      congr 2
    have sa : (sAsg (Dv.e2 addD (eVar 9) (eN lenD (eCons (eL (eLc (iSq (eSl (eVar 10) (oSo (Dv.e2 addD (eVar 11) (eC (.int 1)))) oNo)) splN [1] [1] (tB (Dv.e2 ltD (eVar 1) (Dv.e2 idxD (eVar 10) (eVar 11)))) (eVar 1))) eNil))) (gN 9)) (some (.im S) :: some (.im M) :: (some (.im (.int (w : Int)))) :: N :: O :: D :: R :: P :: x8 :: (some (.im (.int (f : Int)))) :: (some (.im (rowD q))) :: (some (.im (.int (j : Int)))) :: [none, none, none, none, none, none, none]) = some (.nx (some (.im S) :: some (.im M) :: (some (.im (.int (w : Int)))) :: N :: O :: D :: R :: P :: x8 :: (some (.im (.int ((f + Nt.twAt q j : Nat) : Int)))) :: (some (.im (rowD q))) :: (some (.im (.int (j : Int)))) :: [none, none, none, none, none, none, none])) := by
      rw [sAsg_ap, Dv.e2_ap, ea]
      simp only [eVar_0, eVar_s, Option.bind_some, ad, gN_ap, List.set_cons_succ, List.set_cons_zero, Option.map_some]
    simp only [List.set_cons_succ, List.set_cons_zero]
    rw [sa, Option.bind_some, loopD_nx]
theorem law_out (S M : PyData) (w : Nat) (N O D R P : Option W) (x8 : Option W) (hw : w ≤ 5) : ∀ (rows : List Nt.Row) (f : Nat) (x10 x11 : Option W), (∀ q ∈ rows, q.length = w) → ∃ y10 y11, forD (gN 10) (sFor (eNL rg1 (eCons (eVar 2) eNil)) (gN 11) (sAsg (Dv.e2 addD (eVar 9) (eN lenD (eCons (eL (eLc (iSq (eSl (eVar 10) (oSo (Dv.e2 addD (eVar 11) (eC (.int 1)))) oNo)) splN [1] [1] (tB (Dv.e2 ltD (eVar 1) (Dv.e2 idxD (eVar 10) (eVar 11)))) (eVar 1))) eNil))) (gN 9))) (rows.map rowD) (some (.im S) :: some (.im M) :: (some (.im (.int (w : Int)))) :: N :: O :: D :: R :: P :: x8 :: (some (.im (.int (f : Int)))) :: x10 :: x11 :: [none, none, none, none, none, none, none]) =
    some (.nx (some (.im S) :: some (.im M) :: (some (.im (.int (w : Int)))) :: N :: O :: D :: R :: P :: x8 :: (some (.im (.int ((f + Nt.tws rows w : Nat) : Int)))) :: y10 :: y11 :: [none, none, none, none, none, none, none]))
  | [], f, x10, x11, _ => ⟨x10, x11, rfl⟩
  | q :: rows, f, x10, x11, h => by
    obtain ⟨y11', e⟩ := law_in S M w N O D R P x8 q (h q List.mem_cons_self) hw w 0 f x11 (by omega)
    rw [← List.range_eq_range'] at e
    obtain ⟨y10, y11, ih⟩ := law_out S M w N O D R P x8 hw rows (f + Nt.tw q w) (some (.im (rowD q))) y11' fun p hp => h p (List.mem_cons_of_mem _ hp)
    refine ⟨y10, y11, ?_⟩
    have es : f + Nt.tws (q :: rows) w = f + Nt.tw q w + Nt.tws rows w := by
      unfold Nt.tws
      rw [List.map_cons, List.sum_cons]
      omega
    rw [es, ← ih, List.map_cons, forD_cons, gN_ap, Option.bind_some]
    have s2 : (sFor (eNL rg1 (eCons (eVar 2) eNil)) (gN 11) (sAsg (Dv.e2 addD (eVar 9) (eN lenD (eCons (eL (eLc (iSq (eSl (eVar 10) (oSo (Dv.e2 addD (eVar 11) (eC (.int 1)))) oNo)) splN [1] [1] (tB (Dv.e2 ltD (eVar 1) (Dv.e2 idxD (eVar 10) (eVar 11)))) (eVar 1))) eNil))) (gN 9))) (some (.im S) :: some (.im M) :: (some (.im (.int (w : Int)))) :: N :: O :: D :: R :: P :: x8 :: (some (.im (.int (f : Int)))) :: (some (.im (rowD q))) :: x11 :: [none, none, none, none, none, none, none]) = some (.nx (some (.im S) :: some (.im M) :: (some (.im (.int (w : Int)))) :: N :: O :: D :: R :: P :: x8 :: (some (.im (.int ((f + Nt.tw q w : Nat) : Int)))) :: (some (.im (rowD q))) :: y11' :: [none, none, none, none, none, none, none])) := by
      rw [sFor_ap]
      simp only [eNL_ap, eCons_ap, eNil_ap, eVar_0, eVar_s, Option.bind_some, Option.map_some, rg_nat (show w ≤ 1000 by omega)]
      rw [← List.range_eq_range']
      exact e
    simp only [List.set_cons_succ, List.set_cons_zero]
    rw [s2, Option.bind_some, loopD_nx]
theorem gl_loop {n : Nt.Net} {w l : Nat} (ok : Nt.Ok w n) (hl : l < w) (a0 a1 a2 a3 a5 a6 a7 a8 a9 a10 a11 a12 : Option W) : ∀ (rows : List Nt.Row) (k : Nat) (acc : List Nat) (x15 x16 x17 : Option W), (∀ i p, rows[i]? = some p → (Nt.ords w w)[k + i]? = some p) → acc.length + rows.length ≤ 100000 →
    ∃ y15 y16, forD (gT 2 (gConsD (gN 15) (gConsD (gN 16) gNilD))) (sApp 14 (Dv.e2 indexD (Dv.e2 idxD (eVar 4) (eVar 15)) (Dv.e2 idxD (eVar 16) (eVar 13)))) (enD k (rows.map rowD)) (a0 :: a1 :: a2 :: a3 :: (some (.im (.list (((Nt.ords w w).map (Nt.run n)).map rowD)))) :: a5 :: a6 :: a7 :: a8 :: a9 :: a10 :: a11 :: a12 :: (some (.im (.int (l : Int)))) :: (some (.ml (natL acc))) :: x15 :: x16 :: x17 :: [none]) =
    some (.nx (a0 :: a1 :: a2 :: a3 :: (some (.im (.list (((Nt.ords w w).map (Nt.run n)).map rowD)))) :: a5 :: a6 :: a7 :: a8 :: a9 :: a10 :: a11 :: a12 :: (some (.im (.int (l : Int)))) :: (some (.ml (natL (acc ++ rows.map (Nt.goal n l))))) :: y15 :: y16 :: x17 :: [none]))
  | [], k, acc, x15, x16, x17, _, _ => ⟨x15, x16, by rw [List.map_nil, List.map_nil, List.append_nil]; rfl⟩
  | p :: rows, k, acc, x15, x16, x17, hp, hle => by
    rw [List.length_cons] at hle
    have hp0 := hp 0 p rfl
    rw [Nat.add_zero] at hp0
    have hm : p ∈ Nt.ords w w := List.mem_of_getElem? hp0
    have lp := Nt.ords_ok hm
    obtain ⟨y15, y16, ih⟩ := gl_loop ok hl a0 a1 a2 a3 a5 a6 a7 a8 a9 a10 a11 a12 rows (k + 1) (acc ++ [Nt.goal n l p]) (some (.im (.int (k : Int)))) (some (.im (rowD p))) x17 (fun i q hq => by
      have := hp (i + 1) q hq
      rw [show k + 1 + i = k + (i + 1) by omega]
      exact this) (by rw [List.length_append, List.length_singleton]; omega)
    refine ⟨y15, y16, ?_⟩
    have o1 : atI (((Nt.ords w w).map (Nt.run n)).map rowD) (k : Int) = some (rowD (Nt.run n p)) := atI_nat (by rw [List.getElem?_map, List.getElem?_map, hp0]; rfl)
    have i1 := at_row (r := p) (k := l) (by omega)
    have ix := index_row (Nt.goal_mem ok hl hm)
    have eg : acc ++ (p :: rows).map (Nt.goal n l) = acc ++ [Nt.goal n l p] ++ rows.map (Nt.goal n l) := by rw [List.map_cons, List.append_assoc]; rfl
    rw [eg, ← ih]
    show forD _ _ (.tuple [.int (k : Int), rowD p] :: enD (k + 1) (rows.map rowD)) _ = _
    rw [forD_cons, gT_ap, if_pos (by rfl), gConsD_ap, gN_ap, Option.bind_some, gConsD_ap, gN_ap, Option.bind_some, gNilD_ap, Option.bind_some]
    simp only [List.set_cons_succ, List.set_cons_zero]
    have sa : (sApp 14 (Dv.e2 indexD (Dv.e2 idxD (eVar 4) (eVar 15)) (Dv.e2 idxD (eVar 16) (eVar 13)))) (a0 :: a1 :: a2 :: a3 :: (some (.im (.list (((Nt.ords w w).map (Nt.run n)).map rowD)))) :: a5 :: a6 :: a7 :: a8 :: a9 :: a10 :: a11 :: a12 :: (some (.im (.int (l : Int)))) :: (some (.ml (natL acc))) :: (some (.im (.int (k : Int)))) :: (some (.im (rowD p))) :: x17 :: [none]) = some (.nx (a0 :: a1 :: a2 :: a3 :: (some (.im (.list (((Nt.ords w w).map (Nt.run n)).map rowD)))) :: a5 :: a6 :: a7 :: a8 :: a9 :: a10 :: a11 :: a12 :: (some (.im (.int (l : Int)))) :: (some (.ml (natL (acc ++ [Nt.goal n l p])))) :: (some (.im (.int (k : Int)))) :: (some (.im (rowD p))) :: x17 :: [none])) := by
      have ea : natL acc ++ [PyData.int (((Nt.run n p).idxOf (p.getD l 0) : Nat) : Int)] = natL (acc ++ [Nt.goal n l p]) := by unfold natL; rw [List.map_append]; rfl
      simp only [rowD] at o1 ⊢
      simp only [sApp_ap, Dv.e2_ap, eVar_0, eVar_s, Option.bind_some, idxD_l, idxD_t, o1, i1, ix, appK_s, appK_0 (ds := natL acc) (by rw [natL_len]; omega), Option.map_some, ea]
    rw [sa, Option.bind_some, loopD_nx]
theorem ln_body {n : Nt.Net} {w l : Nat} (hw : w ≤ 5) (ok : Nt.Ok w n) (hl : l < w) (a0 a1 a6 a7 a8 a9 a10 a11 : Option W) (x14 x15 x16 x17 : Option W) :
    ∃ y14 y15 y16 y17, (sSeq (sAsgL 14 (eNL mkL eNil)) (sSeq (sFor (iEn (eVar 12)) (gT 2 (gConsD (gN 15) (gConsD (gN 16) gNilD))) (sApp 14 (Dv.e2 indexD (Dv.e2 idxD (eVar 4) (eVar 15)) (Dv.e2 idxD (eVar 16) (eVar 13))))) (sSeq (sAsg (eN g_reached (eCons (eVar 3) (eCons (eVar 2) (eCons (eVar 13) eNil)))) (gN 17)) (sFrz 14 (sSeq (sIf (tB (Dv.e2 neD (eVar 17) (eN tupD (eCons (eL (eLc (eNL rg1 (eCons (eVar 2) eNil)) splN [18] [18] (tB (Dv.e2 inD (eVar 18) (eVar 14))) (eVar 18))) eNil)))) (sRet (eC (.bool false))) sNil) (sIf (tB (Dv.e2 neD (eL (eLc (iSq (eVar 5)) splN [18] [18] (tB (Dv.e2 ninD (eVar 18) (eVar 17))) (eVar 18))) (eL (eNL mkL eNil)))) (sRet (eC (.bool false))) sNil)))))) (a0 :: a1 :: (some (.im (.int (w : Int)))) :: (some (.im (netD n))) :: (some (.im (.list (((Nt.ords w w).map (Nt.run n)).map rowD)))) :: (some (.im (.list (natL (Nt.due n w))))) :: a6 :: a7 :: a8 :: a9 :: a10 :: a11 :: (some (.im (.list ((Nt.ords w w).map rowD)))) :: (some (.im (.int (l : Int)))) :: x14 :: x15 :: x16 :: x17 :: [none]) =
    some (.nx (a0 :: a1 :: (some (.im (.int (w : Int)))) :: (some (.im (netD n))) :: (some (.im (.list (((Nt.ords w w).map (Nt.run n)).map rowD)))) :: (some (.im (.list (natL (Nt.due n w))))) :: a6 :: a7 :: a8 :: a9 :: a10 :: a11 :: (some (.im (.list ((Nt.ords w w).map rowD)))) :: (some (.im (.int (l : Int)))) :: y14 :: y15 :: y16 :: y17 :: [none])) := by
  have lo := ord_pow (w := w) (j := w) hw hw
  obtain ⟨y15, y16, e⟩ := gl_loop ok hl a0 a1 (some (.im (.int (w : Int)))) (some (.im (netD n))) (some (.im (.list (natL (Nt.due n w))))) a6 a7 a8 a9 a10 a11 (some (.im (.list ((Nt.ords w w).map rowD)))) (Nt.ords w w) 0 [] x15 x16 x17 (fun i p h => by rw [Nat.zero_add]; exact h) (by rw [List.length_nil]; omega)
  rw [List.nil_append] at e
  refine ⟨(some (.im (.list (natL (Nt.gls n w l))))), y15, y16, (some (.im (.tuple (natL (Nt.rchd n w l))))), ?_⟩
  have sr := sp_reached hw ok hl
  have s1 : (sAsgL 14 (eNL mkL eNil)) (a0 :: a1 :: (some (.im (.int (w : Int)))) :: (some (.im (netD n))) :: (some (.im (.list (((Nt.ords w w).map (Nt.run n)).map rowD)))) :: (some (.im (.list (natL (Nt.due n w))))) :: a6 :: a7 :: a8 :: a9 :: a10 :: a11 :: (some (.im (.list ((Nt.ords w w).map rowD)))) :: (some (.im (.int (l : Int)))) :: x14 :: x15 :: x16 :: x17 :: [none]) = some (.nx (a0 :: a1 :: (some (.im (.int (w : Int)))) :: (some (.im (netD n))) :: (some (.im (.list (((Nt.ords w w).map (Nt.run n)).map rowD)))) :: (some (.im (.list (natL (Nt.due n w))))) :: a6 :: a7 :: a8 :: a9 :: a10 :: a11 :: (some (.im (.list ((Nt.ords w w).map rowD)))) :: (some (.im (.int (l : Int)))) :: (some (.ml (natL []))) :: x15 :: x16 :: x17 :: [none])) := by
    simp only [sAsgL_ap, eNL_ap, eNil_ap, Option.bind_some, mkL_0, Option.map_some, List.set_cons_succ, List.set_cons_zero]
    rfl
  have s2 : (sFor (iEn (eVar 12)) (gT 2 (gConsD (gN 15) (gConsD (gN 16) gNilD))) (sApp 14 (Dv.e2 indexD (Dv.e2 idxD (eVar 4) (eVar 15)) (Dv.e2 idxD (eVar 16) (eVar 13))))) (a0 :: a1 :: (some (.im (.int (w : Int)))) :: (some (.im (netD n))) :: (some (.im (.list (((Nt.ords w w).map (Nt.run n)).map rowD)))) :: (some (.im (.list (natL (Nt.due n w))))) :: a6 :: a7 :: a8 :: a9 :: a10 :: a11 :: (some (.im (.list ((Nt.ords w w).map rowD)))) :: (some (.im (.int (l : Int)))) :: (some (.ml (natL []))) :: x15 :: x16 :: x17 :: [none]) = some (.nx (a0 :: a1 :: (some (.im (.int (w : Int)))) :: (some (.im (netD n))) :: (some (.im (.list (((Nt.ords w w).map (Nt.run n)).map rowD)))) :: (some (.im (.list (natL (Nt.due n w))))) :: a6 :: a7 :: a8 :: a9 :: a10 :: a11 :: (some (.im (.list ((Nt.ords w w).map rowD)))) :: (some (.im (.int (l : Int)))) :: (some (.ml (natL (Nt.gls n w l)))) :: y15 :: y16 :: x17 :: [none])) := by
    rw [sFor_ap, iEn_ap]
    simp only [eVar_0, eVar_s, Option.bind_some]
    exact e
  have s3 : (sAsg (eN g_reached (eCons (eVar 3) (eCons (eVar 2) (eCons (eVar 13) eNil)))) (gN 17)) (a0 :: a1 :: (some (.im (.int (w : Int)))) :: (some (.im (netD n))) :: (some (.im (.list (((Nt.ords w w).map (Nt.run n)).map rowD)))) :: (some (.im (.list (natL (Nt.due n w))))) :: a6 :: a7 :: a8 :: a9 :: a10 :: a11 :: (some (.im (.list ((Nt.ords w w).map rowD)))) :: (some (.im (.int (l : Int)))) :: (some (.ml (natL (Nt.gls n w l)))) :: y15 :: y16 :: x17 :: [none]) = some (.nx (a0 :: a1 :: (some (.im (.int (w : Int)))) :: (some (.im (netD n))) :: (some (.im (.list (((Nt.ords w w).map (Nt.run n)).map rowD)))) :: (some (.im (.list (natL (Nt.due n w))))) :: a6 :: a7 :: a8 :: a9 :: a10 :: a11 :: (some (.im (.list ((Nt.ords w w).map rowD)))) :: (some (.im (.int (l : Int)))) :: (some (.ml (natL (Nt.gls n w l)))) :: y15 :: y16 :: (some (.im (.tuple (natL (Nt.rchd n w l))))) :: [none])) := by
    simp only [sAsg_ap, eN_ap, eCons_ap, eNil_ap, eVar_0, eVar_s, Option.bind_some, Option.map_some, sr, gN_ap, List.set_cons_succ, List.set_cons_zero]
  have c5 : lcD splN [18] (tB (Dv.e2 inD (eVar 18) (eVar 14))) (eVar 18) (a0 :: a1 :: (some (.im (.int (w : Int)))) :: (some (.im (netD n))) :: (some (.im (.list (((Nt.ords w w).map (Nt.run n)).map rowD)))) :: (some (.im (.list (natL (Nt.due n w))))) :: a6 :: a7 :: a8 :: a9 :: a10 :: a11 :: (some (.im (.list ((Nt.ords w w).map rowD)))) :: (some (.im (.int (l : Int)))) :: (some (.im (.list (natL (Nt.gls n w l))))) :: y15 :: y16 :: (some (.im (.tuple (natL (Nt.rchd n w l))))) :: [none]) ((List.range' 0 w).map fun i => PyData.int ((i : Nat) : Int)) = some (natL (Nt.rchd n w l)) := by
    rw [lcD_filN (fun k : Nat => PyData.int ((k : Nat) : Int)) (fun g => decide (g ∈ Nt.gls n w l)) (fun k : Nat => PyData.int ((k : Nat) : Int))]
    · rw [← List.range_eq_range']
      rfl
    · intro i _
      have nn := in_natL i (Nt.gls n w l)
      simp only [List.set_cons_succ, List.set_cons_zero, tB_ap, Dv.e2_ap, eVar_0, eVar_s, Option.bind_some, nn, asB_b]
      exact ⟨trivial, fun _ => trivial⟩
  have s5 : (sIf (tB (Dv.e2 neD (eVar 17) (eN tupD (eCons (eL (eLc (eNL rg1 (eCons (eVar 2) eNil)) splN [18] [18] (tB (Dv.e2 inD (eVar 18) (eVar 14))) (eVar 18))) eNil)))) (sRet (eC (.bool false))) sNil) (a0 :: a1 :: (some (.im (.int (w : Int)))) :: (some (.im (netD n))) :: (some (.im (.list (((Nt.ords w w).map (Nt.run n)).map rowD)))) :: (some (.im (.list (natL (Nt.due n w))))) :: a6 :: a7 :: a8 :: a9 :: a10 :: a11 :: (some (.im (.list ((Nt.ords w w).map rowD)))) :: (some (.im (.int (l : Int)))) :: (some (.im (.list (natL (Nt.gls n w l))))) :: y15 :: y16 :: (some (.im (.tuple (natL (Nt.rchd n w l))))) :: [none]) = some (.nx (a0 :: a1 :: (some (.im (.int (w : Int)))) :: (some (.im (netD n))) :: (some (.im (.list (((Nt.ords w w).map (Nt.run n)).map rowD)))) :: (some (.im (.list (natL (Nt.due n w))))) :: a6 :: a7 :: a8 :: a9 :: a10 :: a11 :: (some (.im (.list ((Nt.ords w w).map rowD)))) :: (some (.im (.int (l : Int)))) :: (some (.im (.list (natL (Nt.gls n w l))))) :: y15 :: y16 :: (some (.im (.tuple (natL (Nt.rchd n w l))))) :: [none])) := by
    have ne : neD (.tuple (natL (Nt.rchd n w l))) (.tuple (natL (Nt.rchd n w l))) = some (.bool false) := by
      rw [neD_pl (n := 1) (m := 1) (p := True) (pl_tuple (pl_nats _)) (pl_tuple (pl_nats _)) (by simp)]
      rfl
    simp only [sIf_ap, tB_ap, Dv.e2_ap, eN_ap, eL_ap, eLc_ap, eNL_ap, eCons_ap, eNil_ap, eVar_0, eVar_s, Option.bind_some, Option.map_some, rg_nat (show w ≤ 1000 by omega), wipeE_c, wipeE_0, List.set_cons_succ, List.set_cons_zero, c5, tupD_l, ne, asB_b, Bool.false_eq_true, if_false, sNil_ap]
  have c6 : lcD splN [18] (tB (Dv.e2 ninD (eVar 18) (eVar 17))) (eVar 18) (a0 :: a1 :: (some (.im (.int (w : Int)))) :: (some (.im (netD n))) :: (some (.im (.list (((Nt.ords w w).map (Nt.run n)).map rowD)))) :: (some (.im (.list (natL (Nt.due n w))))) :: a6 :: a7 :: a8 :: a9 :: a10 :: a11 :: (some (.im (.list ((Nt.ords w w).map rowD)))) :: (some (.im (.int (l : Int)))) :: (some (.im (.list (natL (Nt.gls n w l))))) :: y15 :: y16 :: (some (.im (.tuple (natL (Nt.rchd n w l))))) :: [none]) (natL (Nt.due n w)) = some [] := by
    unfold natL
    rw [lcD_filN (fun k : Nat => PyData.int ((k : Nat) : Int)) (fun g => !decide (g ∈ Nt.rchd n w l)) (fun k : Nat => PyData.int ((k : Nat) : Int))]
    · rw [List.filter_eq_nil_iff.mpr]
      · rfl
      · intro m hm
        obtain ⟨h1, h2⟩ := List.mem_filter.mp hm
        rw [List.mem_range] at h1
        have : m ∈ Nt.rchd n w l := List.mem_filter.mpr ⟨List.mem_range.mpr h1, decide_eq_true (Nt.st_goal ok hl h1 (Nt.stB_iff.mp h2))⟩
        simp [this]
    · intro i _
      have nn := nin_natT i (Nt.rchd n w l)
      unfold natL at nn
      simp only [List.set_cons_succ, List.set_cons_zero, tB_ap, Dv.e2_ap, eVar_0, eVar_s, Option.bind_some, nn, asB_b]
      exact ⟨trivial, fun _ => trivial⟩
  have s6 : (sIf (tB (Dv.e2 neD (eL (eLc (iSq (eVar 5)) splN [18] [18] (tB (Dv.e2 ninD (eVar 18) (eVar 17))) (eVar 18))) (eL (eNL mkL eNil)))) (sRet (eC (.bool false))) sNil) (a0 :: a1 :: (some (.im (.int (w : Int)))) :: (some (.im (netD n))) :: (some (.im (.list (((Nt.ords w w).map (Nt.run n)).map rowD)))) :: (some (.im (.list (natL (Nt.due n w))))) :: a6 :: a7 :: a8 :: a9 :: a10 :: a11 :: (some (.im (.list ((Nt.ords w w).map rowD)))) :: (some (.im (.int (l : Int)))) :: (some (.im (.list (natL (Nt.gls n w l))))) :: y15 :: y16 :: (some (.im (.tuple (natL (Nt.rchd n w l))))) :: [none]) = some (.nx (a0 :: a1 :: (some (.im (.int (w : Int)))) :: (some (.im (netD n))) :: (some (.im (.list (((Nt.ords w w).map (Nt.run n)).map rowD)))) :: (some (.im (.list (natL (Nt.due n w))))) :: a6 :: a7 :: a8 :: a9 :: a10 :: a11 :: (some (.im (.list ((Nt.ords w w).map rowD)))) :: (some (.im (.int (l : Int)))) :: (some (.im (.list (natL (Nt.gls n w l))))) :: y15 :: y16 :: (some (.im (.tuple (natL (Nt.rchd n w l))))) :: [none])) := by
    have ne : neD (.list []) (.list []) = some (.bool false) := neD_nil (n := 0) (ds := []) (by simp)
    simp only [sIf_ap, tB_ap, Dv.e2_ap, eN_ap, eL_ap, eLc_ap, eNL_ap, iSq_ap, eCons_ap, eNil_ap, eVar_0, eVar_s, Option.bind_some, Option.map_some, asSeq_l, wipeE_c, wipeE_0, List.set_cons_succ, List.set_cons_zero, c6, mkL_0, ne, asB_b, Bool.false_eq_true, if_false, sNil_ap]
  rw [sSeq_ap, s1, Option.bind_some, thenD_nx, sSeq_ap, s2, Option.bind_some, thenD_nx, sSeq_ap, s3, Option.bind_some, thenD_nx, sFrz_ap]
  simp only [frz_s, frz_0]
  rw [sSeq_ap, s5, Option.bind_some, thenD_nx, s6]
theorem ln_loop {n : Nt.Net} {w : Nat} (hw : w ≤ 5) (ok : Nt.Ok w n) (a0 a1 a6 a7 a8 a9 a10 a11 : Option W) : ∀ (k l : Nat) (x13 x14 x15 x16 x17 : Option W), l + k ≤ w →
    ∃ y13 y14 y15 y16 y17, forD (gN 13) (sSeq (sAsgL 14 (eNL mkL eNil)) (sSeq (sFor (iEn (eVar 12)) (gT 2 (gConsD (gN 15) (gConsD (gN 16) gNilD))) (sApp 14 (Dv.e2 indexD (Dv.e2 idxD (eVar 4) (eVar 15)) (Dv.e2 idxD (eVar 16) (eVar 13))))) (sSeq (sAsg (eN g_reached (eCons (eVar 3) (eCons (eVar 2) (eCons (eVar 13) eNil)))) (gN 17)) (sFrz 14 (sSeq (sIf (tB (Dv.e2 neD (eVar 17) (eN tupD (eCons (eL (eLc (eNL rg1 (eCons (eVar 2) eNil)) splN [18] [18] (tB (Dv.e2 inD (eVar 18) (eVar 14))) (eVar 18))) eNil)))) (sRet (eC (.bool false))) sNil) (sIf (tB (Dv.e2 neD (eL (eLc (iSq (eVar 5)) splN [18] [18] (tB (Dv.e2 ninD (eVar 18) (eVar 17))) (eVar 18))) (eL (eNL mkL eNil)))) (sRet (eC (.bool false))) sNil)))))) ((List.range' l k).map fun i => PyData.int ((i : Nat) : Int)) (a0 :: a1 :: (some (.im (.int (w : Int)))) :: (some (.im (netD n))) :: (some (.im (.list (((Nt.ords w w).map (Nt.run n)).map rowD)))) :: (some (.im (.list (natL (Nt.due n w))))) :: a6 :: a7 :: a8 :: a9 :: a10 :: a11 :: (some (.im (.list ((Nt.ords w w).map rowD)))) :: x13 :: x14 :: x15 :: x16 :: x17 :: [none]) =
    some (.nx (a0 :: a1 :: (some (.im (.int (w : Int)))) :: (some (.im (netD n))) :: (some (.im (.list (((Nt.ords w w).map (Nt.run n)).map rowD)))) :: (some (.im (.list (natL (Nt.due n w))))) :: a6 :: a7 :: a8 :: a9 :: a10 :: a11 :: (some (.im (.list ((Nt.ords w w).map rowD)))) :: y13 :: y14 :: y15 :: y16 :: y17 :: [none]))
  | 0, l, x13, x14, x15, x16, x17, _ => ⟨x13, x14, x15, x16, x17, rfl⟩
  | k + 1, l, x13, x14, x15, x16, x17, h => by
    obtain ⟨z14, z15, z16, z17, e⟩ := ln_body hw ok (l := l) (by omega) a0 a1 a6 a7 a8 a9 a10 a11 x14 x15 x16 x17
    obtain ⟨y13, y14, y15, y16, y17, ih⟩ := ln_loop hw ok a0 a1 a6 a7 a8 a9 a10 a11 k (l + 1) (some (.im (.int (l : Int)))) z14 z15 z16 z17 (by omega)
    refine ⟨y13, y14, y15, y16, y17, ?_⟩
    rw [List.range'_succ, List.map_cons, forD_cons, gN_ap, Option.bind_some]
    simp only [List.set_cons_succ, List.set_cons_zero]
    rw [e, Option.bind_some, loopD_nx]
    exact ih
theorem law_true (ns : List Int) (hl : ns.length ≤ 63) : g_law [.list (ns.map PyData.int)] = some (.bool true) := by
  obtain ⟨m0, e0, _⟩ := mx ns 0
  obtain ⟨m1, e1, _⟩ := mx ns 1
  obtain ⟨m2, e2, _⟩ := mx ns 2
  obtain ⟨w, ew, w1, w6⟩ := wide_of m0 5 1
  obtain ⟨n, en, ok, ln⟩ := nx_ (x := m1) (w := w) 14 w1 (by omega)
  obtain ⟨r, er, lr⟩ := rx ns 4 w m2 (by omega)
  have g5 : (0 : Int) < 5 := by decide
  have ew' : (1 : Int) + (m0 : Int) % 5 = (w : Int) := ew
  have hw : w ≤ 5 := by omega
  have ho := sp_law_orders hw
  have so := sp_settled (n := n) (w := w) (by omega) ok
  have rgn := rg_nat (show w ≤ 1000 by omega)
  have qr := sp_run (n := n) (r := r) (by rw [lr]; exact ok)
  have lu : (Nt.due n w).length ≤ w := by
    have := List.length_filter_le (Nt.stB n w) (List.range w)
    rw [List.length_range] at this
    exact this
  have z1 : (sAsg (eN g_law_mixed (eCons (eVar 0) (eCons (eC (.int 0)) eNil))) (gN 1)) [some (.im (.list (ns.map PyData.int))), none, none, none, none, none, none, none, none, none, none, none, none, none, none, none, none, none, none] = some (.nx [some (.im (.list (ns.map PyData.int))), some (.im (.int (m0 : Int))), none, none, none, none, none, none, none, none, none, none, none, none, none, none, none, none, none]) := by
    simp only [sAsg_ap, eN_ap, eCons_ap, eNil_ap, eVar_0, eVar_s, eC_ap, Option.bind_some, Option.map_some, e0, gN_ap, List.set_cons_succ, List.set_cons_zero]
  have z2 : (sAsg (Dv.e2 addD (eC (.int 1)) (Dv.e2 modD (eVar 1) (eC (.int 5)))) (gN 2)) [some (.im (.list (ns.map PyData.int))), some (.im (.int (m0 : Int))), none, none, none, none, none, none, none, none, none, none, none, none, none, none, none, none, none] = some (.nx [some (.im (.list (ns.map PyData.int))), some (.im (.int (m0 : Int))), some (.im (.int (w : Int))), none, none, none, none, none, none, none, none, none, none, none, none, none, none, none, none]) := by
    simp only [sAsg_ap, Dv.e2_ap, eVar_0, eVar_s, eC_ap, Option.bind_some, Option.map_some, modD_i g5, addD_i, ew', gN_ap, List.set_cons_succ, List.set_cons_zero]
  have z3 : (sAsg (eN g_law_net (eCons (eN g_law_mixed (eCons (eVar 0) (eCons (eC (.int 1)) eNil))) (eCons (eVar 2) (eCons (eC (.int 14)) eNil)))) (gN 3)) [some (.im (.list (ns.map PyData.int))), some (.im (.int (m0 : Int))), some (.im (.int (w : Int))), none, none, none, none, none, none, none, none, none, none, none, none, none, none, none, none] = some (.nx [some (.im (.list (ns.map PyData.int))), some (.im (.int (m0 : Int))), some (.im (.int (w : Int))), some (.im (netD n)), none, none, none, none, none, none, none, none, none, none, none, none, none, none, none]) := by
    simp only [sAsg_ap, eN_ap, eCons_ap, eNil_ap, eVar_0, eVar_s, eC_ap, Option.bind_some, Option.map_some, e1, en, gN_ap, List.set_cons_succ, List.set_cons_zero]
  have c4 : lcD splN [6] tYesD (eN g_law_run (eCons (eVar 3) (eCons (eVar 6) eNil))) [some (.im (.list (ns.map PyData.int))), some (.im (.int (m0 : Int))), some (.im (.int (w : Int))), some (.im (netD n)), none, none, none, none, none, none, none, none, none, none, none, none, none, none, none] ((Nt.ords w w).map rowD) = some (((Nt.ords w w).map (Nt.run n)).map rowD) := by
    rw [lcD_mapN rowD (fun p => rowD (Nt.run n p))]
    · rw [List.map_map]; rfl
    · intro p hp
      have q := sp_law_run (n := n) (r := p) (by rw [Nt.ords_ok hp]; exact ok)
      simp only [eN_ap, eCons_ap, eNil_ap, eVar_0, eVar_s, List.set_cons_succ, List.set_cons_zero, Option.bind_some, Option.map_some, q]
  have z4 : (sAsg (eL (eLc (iSq (eN g_law_orders (eCons (eVar 2) eNil))) splN [6] [6] tYesD (eN g_law_run (eCons (eVar 3) (eCons (eVar 6) eNil))))) (gN 4)) [some (.im (.list (ns.map PyData.int))), some (.im (.int (m0 : Int))), some (.im (.int (w : Int))), some (.im (netD n)), none, none, none, none, none, none, none, none, none, none, none, none, none, none, none] = some (.nx [some (.im (.list (ns.map PyData.int))), some (.im (.int (m0 : Int))), some (.im (.int (w : Int))), some (.im (netD n)), some (.im (.list (((Nt.ords w w).map (Nt.run n)).map rowD))), none, none, none, none, none, none, none, none, none, none, none, none, none, none]) := by
    simp only [sAsg_ap, eL_ap, eLc_ap, iSq_ap, eN_ap, eCons_ap, eNil_ap, eVar_0, eVar_s, Option.bind_some, Option.map_some, ho, asSeq_l, wipeE_c, wipeE_0, List.set_cons_succ, List.set_cons_zero]
    rw [c4]
    simp only [Option.map_some, Option.bind_some, gN_ap, List.set_cons_succ, List.set_cons_zero]
  have c5 : lcD splN [13] (tB (Dv.e2 eqD (eL (eLc (iSq (eVar 4)) splN [7] [7] (tB (Dv.e2 neD (Dv.e2 idxD (eVar 7) (eVar 13)) (eVar 13))) (eVar 7))) (eL (eNL mkL eNil)))) (eVar 13) [some (.im (.list (ns.map PyData.int))), some (.im (.int (m0 : Int))), some (.im (.int (w : Int))), some (.im (netD n)), some (.im (.list (((Nt.ords w w).map (Nt.run n)).map rowD))), none, none, none, none, none, none, none, none, none, none, none, none, none, none] ((List.range' 0 w).map fun i => PyData.int ((i : Nat) : Int)) = some (natL (Nt.due n w)) := by
    rw [lcD_filN (fun k : Nat => PyData.int ((k : Nat) : Int)) (Nt.stB n w) (fun k : Nat => PyData.int ((k : Nat) : Int))]
    · rw [← List.range_eq_range']
      rfl
    · intro l hm
      have hlw : l < w := by
        rw [List.mem_range'_1] at hm
        omega
      have c : ∀ ρ : En, lcD splN [7] (tB (Dv.e2 neD (Dv.e2 idxD (eVar 7) (eVar 13)) (eVar 13))) (eVar 7) (some (.im (.list (ns.map PyData.int))) :: (some (.im (.int (m0 : Int)))) :: (some (.im (.int (w : Int)))) :: (some (.im (netD n))) :: (some (.im (.list (((Nt.ords w w).map (Nt.run n)).map rowD)))) :: none :: none :: none :: none :: none :: none :: none :: none :: (some (.im (.int (l : Int)))) :: ρ) (((Nt.ords w w).map (Nt.run n)).map rowD) = some ((((Nt.ords w w).map (Nt.run n)).filter fun o => !decide (o.getD l 0 = (l : Int))).map rowD) := fun ρ => by
        rw [lcD_filN rowD (fun o : Nt.Row => !decide (o.getD l 0 = (l : Int))) rowD]
        intro o hmo
        obtain ⟨p, hp, rfl⟩ := List.mem_map.mp hmo
        have i1 := at_row (r := Nt.run n p) (k := l) (by rw [Nt.run_len, Nt.ords_ok hp]; exact hlw)
        simp only [rowD, List.set_cons_succ, List.set_cons_zero, tB_ap, Dv.e2_ap, eVar_0, eVar_s, Option.bind_some, idxD_t, i1, neD_i, asB_b]
        exact ⟨trivial, fun _ => trivial⟩
      have due : eqD (.list ((((Nt.ords w w).map (Nt.run n)).filter fun o => !decide (o.getD l 0 = (l : Int))).map rowD)) (.list []) = some (.bool (Nt.stB n w l)) := by
        rw [eqD_nil (n := 1) (fun d hd => by obtain ⟨p, _, rfl⟩ := List.mem_map.mp hd; exact pl_row p), List.isEmpty_map, outs_st]
      simp only [List.set_cons_succ, List.set_cons_zero, tB_ap, Dv.e2_ap, eL_ap, eLc_ap, eNL_ap, eNil_ap, iSq_ap, eVar_0, eVar_s, Option.bind_some, Option.map_some, asSeq_l, wipeE_c, wipeE_0, mkL_0]
      rw [c]
      simp only [Option.bind_some, Option.map_some, due, asB_b]
      exact ⟨trivial, fun _ => trivial⟩
  have z5 : (sAsg (eL (eLc (eNL rg1 (eCons (eVar 2) eNil)) splN [13] [13] (tB (Dv.e2 eqD (eL (eLc (iSq (eVar 4)) splN [7] [7] (tB (Dv.e2 neD (Dv.e2 idxD (eVar 7) (eVar 13)) (eVar 13))) (eVar 7))) (eL (eNL mkL eNil)))) (eVar 13))) (gN 5)) [some (.im (.list (ns.map PyData.int))), some (.im (.int (m0 : Int))), some (.im (.int (w : Int))), some (.im (netD n)), some (.im (.list (((Nt.ords w w).map (Nt.run n)).map rowD))), none, none, none, none, none, none, none, none, none, none, none, none, none, none] = some (.nx [some (.im (.list (ns.map PyData.int))), some (.im (.int (m0 : Int))), some (.im (.int (w : Int))), some (.im (netD n)), some (.im (.list (((Nt.ords w w).map (Nt.run n)).map rowD))), some (.im (.list (natL (Nt.due n w)))), none, none, none, none, none, none, none, none, none, none, none, none, none]) := by
    simp only [sAsg_ap]
    rw [eL_ap, eLc_ap, eNL_ap]
    simp only [eCons_ap, eNil_ap, eVar_0, eVar_s, Option.bind_some, Option.map_some, rgn, wipeE_c, wipeE_0, List.set_cons_succ, List.set_cons_zero]
    rw [c5]
    simp only [Option.bind_some, Option.map_some, gN_ap, List.set_cons_succ, List.set_cons_zero]
  have z6 : (sIf (tB (Dv.e2 neD (eL (eNL listD (eCons (eN g_settled (eCons (eVar 3) (eCons (eVar 2) eNil))) eNil))) (eVar 5))) (sRet (eC (.bool false))) sNil) [some (.im (.list (ns.map PyData.int))), some (.im (.int (m0 : Int))), some (.im (.int (w : Int))), some (.im (netD n)), some (.im (.list (((Nt.ords w w).map (Nt.run n)).map rowD))), some (.im (.list (natL (Nt.due n w)))), none, none, none, none, none, none, none, none, none, none, none, none, none] = some (.nx [some (.im (.list (ns.map PyData.int))), some (.im (.int (m0 : Int))), some (.im (.int (w : Int))), some (.im (netD n)), some (.im (.list (((Nt.ords w w).map (Nt.run n)).map rowD))), some (.im (.list (natL (Nt.due n w)))), none, none, none, none, none, none, none, none, none, none, none, none, none]) := by
    have ne : neD (.list (natL (Nt.due n w))) (.list (natL (Nt.due n w))) = some (.bool false) := by
      rw [neD_pl (n := 1) (m := 1) (p := True) (pl_list (pl_nats _)) (pl_list (pl_nats _)) (by simp)]
      rfl
    simp only [sIf_ap, tB_ap, Dv.e2_ap, eN_ap, eL_ap, eNL_ap, eCons_ap, eNil_ap, eVar_0, eVar_s, Option.bind_some, Option.map_some, so, listD_t, ne, asB_b, Bool.false_eq_true, if_false, sNil_ap]
  have z7 : (sAsg (eN g_law_row (eCons (eVar 0) (eCons (eC (.int 4)) (eCons (eVar 2) (eCons (eN g_law_mixed (eCons (eVar 0) (eCons (eC (.int 2)) eNil))) eNil))))) (gN 6)) [some (.im (.list (ns.map PyData.int))), some (.im (.int (m0 : Int))), some (.im (.int (w : Int))), some (.im (netD n)), some (.im (.list (((Nt.ords w w).map (Nt.run n)).map rowD))), some (.im (.list (natL (Nt.due n w)))), none, none, none, none, none, none, none, none, none, none, none, none, none] = some (.nx [some (.im (.list (ns.map PyData.int))), some (.im (.int (m0 : Int))), some (.im (.int (w : Int))), some (.im (netD n)), some (.im (.list (((Nt.ords w w).map (Nt.run n)).map rowD))), some (.im (.list (natL (Nt.due n w)))), some (.im (rowD r)), none, none, none, none, none, none, none, none, none, none, none, none]) := by
    simp only [sAsg_ap, eN_ap, eCons_ap, eNil_ap, eVar_0, eVar_s, eC_ap, Option.bind_some, Option.map_some, e2, er, gN_ap, List.set_cons_succ, List.set_cons_zero]
  have z8 : (sAsg (eN g_run (eCons (eVar 3) (eCons (eVar 6) eNil))) (gN 7)) [some (.im (.list (ns.map PyData.int))), some (.im (.int (m0 : Int))), some (.im (.int (w : Int))), some (.im (netD n)), some (.im (.list (((Nt.ords w w).map (Nt.run n)).map rowD))), some (.im (.list (natL (Nt.due n w)))), some (.im (rowD r)), none, none, none, none, none, none, none, none, none, none, none, none] = some (.nx [some (.im (.list (ns.map PyData.int))), some (.im (.int (m0 : Int))), some (.im (.int (w : Int))), some (.im (netD n)), some (.im (.list (((Nt.ords w w).map (Nt.run n)).map rowD))), some (.im (.list (natL (Nt.due n w)))), some (.im (rowD r)), some (.im (rowD (Nt.run n r))), none, none, none, none, none, none, none, none, none, none, none]) := by
    simp only [sAsg_ap, eN_ap, eCons_ap, eNil_ap, eVar_0, eVar_s, eC_ap, Option.bind_some, Option.map_some, qr, gN_ap, List.set_cons_succ, List.set_cons_zero]
  have c9 : lcD splN [13] (tB (Dv.e2 neD (Dv.e2 idxD (eVar 7) (eVar 13)) (Dv.e2 idxD (eL (eNL sortedD (eCons (eVar 6) eNil))) (eVar 13)))) (eVar 13) [some (.im (.list (ns.map PyData.int))), some (.im (.int (m0 : Int))), some (.im (.int (w : Int))), some (.im (netD n)), some (.im (.list (((Nt.ords w w).map (Nt.run n)).map rowD))), some (.im (.list (natL (Nt.due n w)))), some (.im (rowD r)), some (.im (rowD (Nt.run n r))), none, none, none, none, none, none, none, none, none, none, none] (natL (Nt.due n w)) = some [] := by
    unfold natL
    rw [lcD_filN (fun k : Nat => PyData.int ((k : Nat) : Int)) (fun l => !decide ((Nt.run n r).getD l 0 = (srt r).getD l 0)) (fun k : Nat => PyData.int ((k : Nat) : Int))]
    · rw [List.filter_eq_nil_iff.mpr]
      · rfl
      · intro l hm
        obtain ⟨h1, h2⟩ := List.mem_filter.mp hm
        rw [(Nt.stB_iff.mp h2).row ok (List.mem_range.mp h1) lr, decide_eq_true rfl]
        simp
    · intro l hm
      have hlw := List.mem_range.mp (List.mem_filter.mp hm).1
      have i1 := at_row (r := Nt.run n r) (k := l) (by rw [Nt.run_len]; omega)
      have i2 := at_row (r := srt r) (k := l) (by rw [Nt.srt_len]; omega)
      have sr := sortedD_t r
      simp only [rowD, List.set_cons_succ, List.set_cons_zero, tB_ap, Dv.e2_ap, eL_ap, eNL_ap, eCons_ap, eNil_ap, eVar_0, eVar_s, Option.bind_some, Option.map_some, sr, idxD_t, idxD_l, i1, i2, neD_i, asB_b]
      exact ⟨trivial, fun _ => trivial⟩
  have z9 : (sIf (tB (Dv.e2 neD (eL (eLc (iSq (eVar 5)) splN [13] [13] (tB (Dv.e2 neD (Dv.e2 idxD (eVar 7) (eVar 13)) (Dv.e2 idxD (eL (eNL sortedD (eCons (eVar 6) eNil))) (eVar 13)))) (eVar 13))) (eL (eNL mkL eNil)))) (sRet (eC (.bool false))) sNil) [some (.im (.list (ns.map PyData.int))), some (.im (.int (m0 : Int))), some (.im (.int (w : Int))), some (.im (netD n)), some (.im (.list (((Nt.ords w w).map (Nt.run n)).map rowD))), some (.im (.list (natL (Nt.due n w)))), some (.im (rowD r)), some (.im (rowD (Nt.run n r))), none, none, none, none, none, none, none, none, none, none, none] = some (.nx [some (.im (.list (ns.map PyData.int))), some (.im (.int (m0 : Int))), some (.im (.int (w : Int))), some (.im (netD n)), some (.im (.list (((Nt.ords w w).map (Nt.run n)).map rowD))), some (.im (.list (natL (Nt.due n w)))), some (.im (rowD r)), some (.im (rowD (Nt.run n r))), none, none, none, none, none, none, none, none, none, none, none]) := by
    have ne : neD (.list []) (.list []) = some (.bool false) := neD_nil (n := 0) (ds := []) (by simp)
    rw [sIf_ap, tB_ap, Dv.e2_ap, eL_ap, eLc_ap]
    simp only [iSq_ap, eL_ap, eNL_ap, eNil_ap, eVar_0, eVar_s, Option.bind_some, asSeq_l, wipeE_c, wipeE_0, List.set_cons_succ, List.set_cons_zero]
    rw [c9]
    simp only [Option.bind_some, Option.map_some, mkL_0, ne, asB_b, Bool.false_eq_true, if_false, sNil_ap]
  have c10 : lcD splN [10] (tB (Dv.e2 eqD (eL (eNL listD (eCons (eVar 10) eNil))) (eL (eNL sortedD (eCons (eVar 10) eNil))))) (eVar 10) [some (.im (.list (ns.map PyData.int))), some (.im (.int (m0 : Int))), some (.im (.int (w : Int))), some (.im (netD n)), some (.im (.list (((Nt.ords w w).map (Nt.run n)).map rowD))), some (.im (.list (natL (Nt.due n w)))), some (.im (rowD r)), some (.im (rowD (Nt.run n r))), none, none, none, none, none, none, none, none, none, none, none] (((Nt.ords w w).map (Nt.run n)).map rowD) = some ((((Nt.ords w w).map (Nt.run n)).filter Nt.ord).map rowD) := by
    rw [lcD_filN rowD Nt.ord rowD]
    intro o _
    have sr := sortedD_t o
    have eq : eqD (.list (o.map PyData.int)) (.list ((srt o).map PyData.int)) = some (.bool (Nt.ord o)) := by
      have pi : ∀ c : List Int, pl 1 (.list (c.map PyData.int)) := fun c => pl_list fun d hd => by
        obtain ⟨x, _, rfl⟩ := List.mem_map.mp hd
        exact pl_int
      rw [eqD_pl (p := Nt.ord o = true) (pi _) (pi _) ⟨fun h => Nt.srt_id_iff.mp (ints_inj (PyData.list.inj h)).symm, fun h => by rw [Nt.srt_id h]⟩, Bool.decide_eq_true]
    simp only [rowD, List.set_cons_succ, List.set_cons_zero, tB_ap, Dv.e2_ap, eL_ap, eNL_ap, eCons_ap, eNil_ap, eVar_0, eVar_s, Option.bind_some, Option.map_some, sr, listD_t, eq, asB_b]
    exact ⟨trivial, fun _ => trivial⟩
  have z10 : (sAsg (eN lenD (eCons (eL (eLc (iSq (eVar 4)) splN [10] [10] (tB (Dv.e2 eqD (eL (eNL listD (eCons (eVar 10) eNil))) (eL (eNL sortedD (eCons (eVar 10) eNil))))) (eVar 10))) eNil)) (gN 8)) [some (.im (.list (ns.map PyData.int))), some (.im (.int (m0 : Int))), some (.im (.int (w : Int))), some (.im (netD n)), some (.im (.list (((Nt.ords w w).map (Nt.run n)).map rowD))), some (.im (.list (natL (Nt.due n w)))), some (.im (rowD r)), some (.im (rowD (Nt.run n r))), none, none, none, none, none, none, none, none, none, none, none] = some (.nx [some (.im (.list (ns.map PyData.int))), some (.im (.int (m0 : Int))), some (.im (.int (w : Int))), some (.im (netD n)), some (.im (.list (((Nt.ords w w).map (Nt.run n)).map rowD))), some (.im (.list (natL (Nt.due n w)))), some (.im (rowD r)), some (.im (rowD (Nt.run n r))), some (.im (.int ((whl n w : Nat) : Int))), none, none, none, none, none, none, none, none, none, none]) := by
    rw [sAsg_ap, eN_ap, eCons_ap, eL_ap, eLc_ap]
    simp only [iSq_ap, eNil_ap, eVar_0, eVar_s, Option.bind_some, asSeq_l, wipeE_c, wipeE_0, List.set_cons_succ, List.set_cons_zero]
    rw [c10]
    simp only [Option.bind_some, Option.map_some, lenD_l, List.length_map, outs_ord, gN_ap, List.set_cons_succ, List.set_cons_zero]
  have z11 : (sAsg (eC (.int 0)) (gN 9)) [some (.im (.list (ns.map PyData.int))), some (.im (.int (m0 : Int))), some (.im (.int (w : Int))), some (.im (netD n)), some (.im (.list (((Nt.ords w w).map (Nt.run n)).map rowD))), some (.im (.list (natL (Nt.due n w)))), some (.im (rowD r)), some (.im (rowD (Nt.run n r))), some (.im (.int ((whl n w : Nat) : Int))), none, none, none, none, none, none, none, none, none, none] = some (.nx [some (.im (.list (ns.map PyData.int))), some (.im (.int (m0 : Int))), some (.im (.int (w : Int))), some (.im (netD n)), some (.im (.list (((Nt.ords w w).map (Nt.run n)).map rowD))), some (.im (.list (natL (Nt.due n w)))), some (.im (rowD r)), some (.im (rowD (Nt.run n r))), some (.im (.int ((whl n w : Nat) : Int))), some (.im (.int ((0 : Nat) : Int))), none, none, none, none, none, none, none, none, none]) := rfl
  obtain ⟨y10, y11, e12⟩ := law_out (.list (ns.map PyData.int)) (.int (m0 : Int)) w (some (.im (netD n))) (some (.im (.list (((Nt.ords w w).map (Nt.run n)).map rowD)))) (some (.im (.list (natL (Nt.due n w))))) (some (.im (rowD r))) (some (.im (rowD (Nt.run n r)))) (some (.im (.int ((whl n w : Nat) : Int)))) hw ((Nt.ords w w).map (Nt.run n)) 0 none none (fun q hq => by
    obtain ⟨p, hp, rfl⟩ := List.mem_map.mp hq
    rw [Nt.run_len, Nt.ords_ok hp])
  rw [Nat.zero_add] at e12
  have z12 : (sFor (iSq (eVar 4)) (gN 10) (sFor (eNL rg1 (eCons (eVar 2) eNil)) (gN 11) (sAsg (Dv.e2 addD (eVar 9) (eN lenD (eCons (eL (eLc (iSq (eSl (eVar 10) (oSo (Dv.e2 addD (eVar 11) (eC (.int 1)))) oNo)) splN [1] [1] (tB (Dv.e2 ltD (eVar 1) (Dv.e2 idxD (eVar 10) (eVar 11)))) (eVar 1))) eNil))) (gN 9)))) [some (.im (.list (ns.map PyData.int))), some (.im (.int (m0 : Int))), some (.im (.int (w : Int))), some (.im (netD n)), some (.im (.list (((Nt.ords w w).map (Nt.run n)).map rowD))), some (.im (.list (natL (Nt.due n w)))), some (.im (rowD r)), some (.im (rowD (Nt.run n r))), some (.im (.int ((whl n w : Nat) : Int))), some (.im (.int ((0 : Nat) : Int))), none, none, none, none, none, none, none, none, none] = some (.nx (some (.im (.list (ns.map PyData.int))) :: (some (.im (.int (m0 : Int)))) :: (some (.im (.int (w : Int)))) :: (some (.im (netD n))) :: (some (.im (.list (((Nt.ords w w).map (Nt.run n)).map rowD)))) :: (some (.im (.list (natL (Nt.due n w))))) :: (some (.im (rowD r))) :: (some (.im (rowD (Nt.run n r)))) :: (some (.im (.int ((whl n w : Nat) : Int)))) :: (some (.im (.int ((Nt.tws ((Nt.ords w w).map (Nt.run n)) w : Nat) : Int)))) :: y10 :: y11 :: [none, none, none, none, none, none, none])) := by
    rw [sFor_ap]
    simp only [iSq_ap, eVar_0, eVar_s, Option.bind_some, asSeq_l]
    exact e12
  have sc := sp_count hw ok
  have su := sp_undone hw ok
  have sf := sp_fails (n := n) (w := w) (by omega) ok
  have opt : isNonB (optRow (failsT n w)) = decide (failsT n w = none) := by cases failsT n w <;> rfl
  have b1 : failsT n w = none ↔ (Nt.due n w).length = w := by
    rw [Nt.due_len, Nt.all_st ok, ← Nt.all_plain ok]
    exact ⟨fails_none, fails_none_of⟩
  have b2 : whl n w = (Nt.ords w w).length ↔ Nt.tws ((Nt.ords w w).map (Nt.run n)) w = 0 := by rw [whl_all, Nt.tws0]
  have b3 : (Nt.due n w).length = w ↔ Nt.tws ((Nt.ords w w).map (Nt.run n)) w = 0 := by rw [Nt.due_len, Nt.all_st ok, Nt.tws0]
  have z13 : (sIf (tOrD (tB (Dv.e2 neD (eN g_count_put_in_order (eCons (eVar 3) (eCons (eVar 2) eNil))) (eVar 8))) (tB (Dv.e2 neD (eN g_undone (eCons (eVar 3) (eCons (eVar 2) eNil))) (eVar 9)))) (sRet (eC (.bool false))) sNil) (some (.im (.list (ns.map PyData.int))) :: (some (.im (.int (m0 : Int)))) :: (some (.im (.int (w : Int)))) :: (some (.im (netD n))) :: (some (.im (.list (((Nt.ords w w).map (Nt.run n)).map rowD)))) :: (some (.im (.list (natL (Nt.due n w))))) :: (some (.im (rowD r))) :: (some (.im (rowD (Nt.run n r)))) :: (some (.im (.int ((whl n w : Nat) : Int)))) :: (some (.im (.int ((Nt.tws ((Nt.ords w w).map (Nt.run n)) w : Nat) : Int)))) :: y10 :: y11 :: [none, none, none, none, none, none, none]) = some (.nx (some (.im (.list (ns.map PyData.int))) :: (some (.im (.int (m0 : Int)))) :: (some (.im (.int (w : Int)))) :: (some (.im (netD n))) :: (some (.im (.list (((Nt.ords w w).map (Nt.run n)).map rowD)))) :: (some (.im (.list (natL (Nt.due n w))))) :: (some (.im (rowD r))) :: (some (.im (rowD (Nt.run n r)))) :: (some (.im (.int ((whl n w : Nat) : Int)))) :: (some (.im (.int ((Nt.tws ((Nt.ords w w).map (Nt.run n)) w : Nat) : Int)))) :: y10 :: y11 :: [none, none, none, none, none, none, none])) := by
    simp only [sIf_ap, tOrD_ap, tB_ap, Dv.e2_ap, eN_ap, eCons_ap, eNil_ap, eVar_0, eVar_s, Option.bind_some, Option.map_some, sc, su, neD_i, decide_true, Bool.not_true, asB_b, Bool.false_eq_true, if_false, sNil_ap]
  have ieq : ∀ a b : Nat, eqD (.int (a : Int)) (.int (b : Int)) = some (.bool (decide (a = b))) := fun a b => by
    rw [eqD_i]
    congr 2
    rw [decide_eq_decide]
    omega
  have ieq0 : ∀ a : Nat, eqD (.int (a : Int)) (.int 0) = some (.bool (decide (a = 0))) := fun a => ieq a 0
  have nbb : ∀ {p q : Prop} [Decidable p] [Decidable q], (p ↔ q) → neD (.bool (decide p)) (.bool (decide q)) = some (.bool false) := fun {p q} _ _ h => by
    rw [neD_bb, decide_eq_true (decide_eq_decide.mpr h)]
    rfl
  have z14 : (sIf (tOrD (tB (Dv.e2 neD (Dv.e2 isN (eN g_fails (eCons (eVar 3) (eCons (eVar 2) eNil))) (eC .none)) (Dv.e2 eqD (eN lenD (eCons (eVar 5) eNil)) (eVar 2)))) (tB (Dv.e2 neD (Dv.e2 eqD (eVar 8) (eN lenD (eCons (eVar 4) eNil))) (Dv.e2 eqD (eVar 9) (eC (.int 0)))))) (sRet (eC (.bool false))) sNil) (some (.im (.list (ns.map PyData.int))) :: (some (.im (.int (m0 : Int)))) :: (some (.im (.int (w : Int)))) :: (some (.im (netD n))) :: (some (.im (.list (((Nt.ords w w).map (Nt.run n)).map rowD)))) :: (some (.im (.list (natL (Nt.due n w))))) :: (some (.im (rowD r))) :: (some (.im (rowD (Nt.run n r)))) :: (some (.im (.int ((whl n w : Nat) : Int)))) :: (some (.im (.int ((Nt.tws ((Nt.ords w w).map (Nt.run n)) w : Nat) : Int)))) :: y10 :: y11 :: [none, none, none, none, none, none, none]) = some (.nx (some (.im (.list (ns.map PyData.int))) :: (some (.im (.int (m0 : Int)))) :: (some (.im (.int (w : Int)))) :: (some (.im (netD n))) :: (some (.im (.list (((Nt.ords w w).map (Nt.run n)).map rowD)))) :: (some (.im (.list (natL (Nt.due n w))))) :: (some (.im (rowD r))) :: (some (.im (rowD (Nt.run n r)))) :: (some (.im (.int ((whl n w : Nat) : Int)))) :: (some (.im (.int ((Nt.tws ((Nt.ords w w).map (Nt.run n)) w : Nat) : Int)))) :: y10 :: y11 :: [none, none, none, none, none, none, none])) := by
    simp only [sIf_ap, tOrD_ap, tB_ap, Dv.e2_ap, eN_ap, eCons_ap, eNil_ap, eVar_0, eVar_s, eC_ap, Option.bind_some, Option.map_some, sf, isN_n, opt, lenD_l, List.length_map, natL_len, ieq, ieq0, nbb b1, nbb b2, asB_b, Bool.false_eq_true, if_false, sNil_ap]
  have z15 : (sIf (tB (Dv.e2 neD (Dv.e2 eqD (eN lenD (eCons (eVar 5) eNil)) (eVar 2)) (Dv.e2 eqD (eVar 9) (eC (.int 0))))) (sRet (eC (.bool false))) sNil) (some (.im (.list (ns.map PyData.int))) :: (some (.im (.int (m0 : Int)))) :: (some (.im (.int (w : Int)))) :: (some (.im (netD n))) :: (some (.im (.list (((Nt.ords w w).map (Nt.run n)).map rowD)))) :: (some (.im (.list (natL (Nt.due n w))))) :: (some (.im (rowD r))) :: (some (.im (rowD (Nt.run n r)))) :: (some (.im (.int ((whl n w : Nat) : Int)))) :: (some (.im (.int ((Nt.tws ((Nt.ords w w).map (Nt.run n)) w : Nat) : Int)))) :: y10 :: y11 :: [none, none, none, none, none, none, none]) = some (.nx (some (.im (.list (ns.map PyData.int))) :: (some (.im (.int (m0 : Int)))) :: (some (.im (.int (w : Int)))) :: (some (.im (netD n))) :: (some (.im (.list (((Nt.ords w w).map (Nt.run n)).map rowD)))) :: (some (.im (.list (natL (Nt.due n w))))) :: (some (.im (rowD r))) :: (some (.im (rowD (Nt.run n r)))) :: (some (.im (.int ((whl n w : Nat) : Int)))) :: (some (.im (.int ((Nt.tws ((Nt.ords w w).map (Nt.run n)) w : Nat) : Int)))) :: y10 :: y11 :: [none, none, none, none, none, none, none])) := by
    simp only [sIf_ap, tOrD_ap, tB_ap, Dv.e2_ap, eN_ap, eCons_ap, eNil_ap, eVar_0, eVar_s, eC_ap, Option.bind_some, Option.map_some, lenD_l, natL_len, ieq, ieq0, nbb b3, asB_b, Bool.false_eq_true, if_false, sNil_ap]
  have z16 : (sAsg (eN g_law_orders (eCons (eVar 2) eNil)) (gN 12)) (some (.im (.list (ns.map PyData.int))) :: (some (.im (.int (m0 : Int)))) :: (some (.im (.int (w : Int)))) :: (some (.im (netD n))) :: (some (.im (.list (((Nt.ords w w).map (Nt.run n)).map rowD)))) :: (some (.im (.list (natL (Nt.due n w))))) :: (some (.im (rowD r))) :: (some (.im (rowD (Nt.run n r)))) :: (some (.im (.int ((whl n w : Nat) : Int)))) :: (some (.im (.int ((Nt.tws ((Nt.ords w w).map (Nt.run n)) w : Nat) : Int)))) :: y10 :: y11 :: [none, none, none, none, none, none, none]) = some (.nx (some (.im (.list (ns.map PyData.int))) :: (some (.im (.int (m0 : Int)))) :: (some (.im (.int (w : Int)))) :: (some (.im (netD n))) :: (some (.im (.list (((Nt.ords w w).map (Nt.run n)).map rowD)))) :: (some (.im (.list (natL (Nt.due n w))))) :: (some (.im (rowD r))) :: (some (.im (rowD (Nt.run n r)))) :: (some (.im (.int ((whl n w : Nat) : Int)))) :: (some (.im (.int ((Nt.tws ((Nt.ords w w).map (Nt.run n)) w : Nat) : Int)))) :: y10 :: y11 :: [some (.im (.list ((Nt.ords w w).map rowD))), none, none, none, none, none, none])) := by
    simp only [sAsg_ap, eN_ap, eCons_ap, eNil_ap, eVar_0, eVar_s, Option.bind_some, Option.map_some, ho, gN_ap, List.set_cons_succ, List.set_cons_zero]
  obtain ⟨y13, y14, y15, y16, y17, e17⟩ := ln_loop hw ok (some (.im (.list (ns.map PyData.int)))) (some (.im (.int (m0 : Int)))) (some (.im (rowD r))) (some (.im (rowD (Nt.run n r)))) (some (.im (.int ((whl n w : Nat) : Int)))) (some (.im (.int ((Nt.tws ((Nt.ords w w).map (Nt.run n)) w : Nat) : Int)))) y10 y11 w 0 none none none none none (by omega)
  have z17 : (sFor (eNL rg1 (eCons (eVar 2) eNil)) (gN 13) (sSeq (sAsgL 14 (eNL mkL eNil)) (sSeq (sFor (iEn (eVar 12)) (gT 2 (gConsD (gN 15) (gConsD (gN 16) gNilD))) (sApp 14 (Dv.e2 indexD (Dv.e2 idxD (eVar 4) (eVar 15)) (Dv.e2 idxD (eVar 16) (eVar 13))))) (sSeq (sAsg (eN g_reached (eCons (eVar 3) (eCons (eVar 2) (eCons (eVar 13) eNil)))) (gN 17)) (sFrz 14 (sSeq (sIf (tB (Dv.e2 neD (eVar 17) (eN tupD (eCons (eL (eLc (eNL rg1 (eCons (eVar 2) eNil)) splN [18] [18] (tB (Dv.e2 inD (eVar 18) (eVar 14))) (eVar 18))) eNil)))) (sRet (eC (.bool false))) sNil) (sIf (tB (Dv.e2 neD (eL (eLc (iSq (eVar 5)) splN [18] [18] (tB (Dv.e2 ninD (eVar 18) (eVar 17))) (eVar 18))) (eL (eNL mkL eNil)))) (sRet (eC (.bool false))) sNil))))))) (some (.im (.list (ns.map PyData.int))) :: (some (.im (.int (m0 : Int)))) :: (some (.im (.int (w : Int)))) :: (some (.im (netD n))) :: (some (.im (.list (((Nt.ords w w).map (Nt.run n)).map rowD)))) :: (some (.im (.list (natL (Nt.due n w))))) :: (some (.im (rowD r))) :: (some (.im (rowD (Nt.run n r)))) :: (some (.im (.int ((whl n w : Nat) : Int)))) :: (some (.im (.int ((Nt.tws ((Nt.ords w w).map (Nt.run n)) w : Nat) : Int)))) :: y10 :: y11 :: [some (.im (.list ((Nt.ords w w).map rowD))), none, none, none, none, none, none]) = some (.nx (some (.im (.list (ns.map PyData.int))) :: (some (.im (.int (m0 : Int)))) :: (some (.im (.int (w : Int)))) :: (some (.im (netD n))) :: (some (.im (.list (((Nt.ords w w).map (Nt.run n)).map rowD)))) :: (some (.im (.list (natL (Nt.due n w))))) :: (some (.im (rowD r))) :: (some (.im (rowD (Nt.run n r)))) :: (some (.im (.int ((whl n w : Nat) : Int)))) :: (some (.im (.int ((Nt.tws ((Nt.ords w w).map (Nt.run n)) w : Nat) : Int)))) :: y10 :: y11 :: (some (.im (.list ((Nt.ords w w).map rowD)))) :: y13 :: y14 :: y15 :: y16 :: y17 :: [none])) := by
    rw [sFor_ap]
    simp only [eNL_ap, eCons_ap, eNil_ap, eVar_0, eVar_s, Option.bind_some, Option.map_some, rgn]
    exact e17
  have sn := sp_settled (n := []) (w := w) (by omega) (Nt.Ok.nil w)
  have rn := sp_reached (n := []) (w := w) (l := 0) hw (Nt.Ok.nil w) (by omega)
  rw [Nt.due_nil (by omega)] at sn
  rw [Nt.rchd_nil (by omega)] at rn
  have z18 : (sRet (eAnd (Dv.e2 eqD (eN g_settled (eCons (eN mkT eNil) (eCons (eVar 2) eNil))) (Dv.e2 idxD (eN mkT (eCons (eN mkT eNil) (eCons (eN mkT (eCons (eC (.int 0)) eNil)) eNil))) (eN int1D (eCons (Dv.e2 eqD (eVar 2) (eC (.int 1))) eNil)))) (Dv.e2 eqD (eN g_reached (eCons (eN mkT eNil) (eCons (eVar 2) (eCons (eC (.int 0)) eNil)))) (eN mkT (eCons (eC (.int 0)) eNil))))) (some (.im (.list (ns.map PyData.int))) :: (some (.im (.int (m0 : Int)))) :: (some (.im (.int (w : Int)))) :: (some (.im (netD n))) :: (some (.im (.list (((Nt.ords w w).map (Nt.run n)).map rowD)))) :: (some (.im (.list (natL (Nt.due n w))))) :: (some (.im (rowD r))) :: (some (.im (rowD (Nt.run n r)))) :: (some (.im (.int ((whl n w : Nat) : Int)))) :: (some (.im (.int ((Nt.tws ((Nt.ords w w).map (Nt.run n)) w : Nat) : Int)))) :: y10 :: y11 :: (some (.im (.list ((Nt.ords w w).map rowD)))) :: y13 :: y14 :: y15 :: y16 :: y17 :: [none]) = some (.rt (.bool true)) := by
    have e0' : netD ([] : Nt.Net) = .tuple [] := rfl
    have c0 : ((0 : Nat) : Int) = 0 := rfl
    rw [e0'] at sn rn
    rw [c0] at rn
    have iw : eqD (.int (w : Int)) (.int 1) = some (.bool (decide (w = 1))) := ieq w 1
    have t0 : eqD (.tuple (natL [0])) (.tuple [.int 0]) = some (.bool true) := by
      rw [show natL [0] = [PyData.int 0] from rfl, eqD_pl (n := 1) (m := 1) (p := True) (pl_tuple fun d hd => by rw [List.mem_singleton] at hd; rw [hd]; exact pl_int) (pl_tuple fun d hd => by rw [List.mem_singleton] at hd; rw [hd]; exact pl_int) (by simp)]
      rfl
    simp only [sRet_ap, eAnd_ap, tB_ap, Dv.e2_ap, eN_ap, eCons_ap, eNil_ap, eVar_0, eVar_s, eC_ap, Option.bind_some, Option.map_some, mkT_0, mkT_1, mkT_2, sn, rn, iw]
    by_cases h : w = 1
    · rw [if_pos h, decide_eq_true h]
      simp only [int1D, if_true, Option.bind_some, idxD_t, show atI [PyData.tuple [], .tuple [.int 0]] 1 = some (.tuple [.int 0]) from rfl, t0, asB_b, Option.map_some]
    · have t1 : eqD (.tuple (natL [])) (.tuple []) = some (.bool true) := by
        rw [show natL [] = [] from rfl, eqD_pl (n := 1) (m := 1) (p := True) (pl_tuple (by simp)) (pl_tuple (by simp)) (by simp)]
        rfl
      rw [if_neg h, decide_eq_false h]
      simp only [int1D, Bool.false_eq_true, if_false, if_true, Option.bind_some, idxD_t, show atI [PyData.tuple [], .tuple [.int 0]] 0 = some (.tuple []) from rfl, t0, t1, asB_b, Option.map_some]
  unfold g_law
  rw [fnD_ap (by rfl)]
  unfold b_law
  simp only [List.map_cons, List.map_nil, List.replicate, List.cons_append, List.nil_append]
  rw [sSeq_ap, z1, Option.bind_some, thenD_nx, sSeq_ap, z2, Option.bind_some, thenD_nx, sSeq_ap, z3, Option.bind_some, thenD_nx, sSeq_ap, z4, Option.bind_some, thenD_nx, sSeq_ap, z5, Option.bind_some, thenD_nx, sSeq_ap, z6, Option.bind_some, thenD_nx, sSeq_ap, z7, Option.bind_some, thenD_nx, sSeq_ap, z8, Option.bind_some, thenD_nx, sSeq_ap, z9, Option.bind_some, thenD_nx, sSeq_ap, z10, Option.bind_some, thenD_nx, sSeq_ap, z11, Option.bind_some, thenD_nx, sSeq_ap, z12, Option.bind_some, thenD_nx, sSeq_ap, z13, Option.bind_some, thenD_nx, sSeq_ap, z14, Option.bind_some, thenD_nx, sSeq_ap, z15, Option.bind_some, thenD_nx, sSeq_ap, z16, Option.bind_some, thenD_nx, sSeq_ap, z17, Option.bind_some, thenD_nx, z18, outD_rt]

def topS (i : Nat) : Stmt := PySem.Challenge.pw_swapyard_k60_whole_settled_lines.main.body.getD i (.Pass ⟨0, 0, 0, 0⟩)
abbrev s_swapped : Stmt := topS 1
theorem sc_swapped : FnScope ["row", "one", "other", "found"] ["row", "one", "other"] (defScope s_swapped) := ⟨rfl, rfl, rfl, by decide +kernel, rfl, by decide +kernel, by decide +kernel⟩
abbrev s_run : Stmt := topS 2
theorem sc_run : FnScope ["net", "row", "one", "other"] ["net", "row"] (defScope s_run) := ⟨rfl, rfl, rfl, by decide +kernel, rfl, by decide +kernel, by decide +kernel⟩
abbrev s_plain_rows : Stmt := topS 3
theorem sc_plain_rows : FnScope ["wide", "found", "line", "row"] ["wide"] (defScope s_plain_rows) := ⟨rfl, rfl, rfl, by decide +kernel, rfl, by decide +kernel, by decide +kernel⟩
abbrev s_settled : Stmt := topS 5
theorem sc_settled : FnScope ["net", "wide", "found", "line", "row"] ["net", "wide"] (defScope s_settled) := ⟨rfl, rfl, rfl, by decide +kernel, rfl, by decide +kernel, by decide +kernel⟩
abbrev s_orders : Stmt := topS 6
theorem sc_orders : FnScope ["wide", "rows", "line", "longer", "row", "number"] ["wide"] (defScope s_orders) := ⟨rfl, rfl, rfl, by decide +kernel, rfl, by decide +kernel, by decide +kernel⟩
abbrev s_reached : Stmt := topS 7
theorem sc_reached : FnScope ["net", "wide", "line", "found", "row", "goal"] ["net", "wide", "line"] (defScope s_reached) := ⟨rfl, rfl, rfl, by decide +kernel, rfl, by decide +kernel, by decide +kernel⟩
abbrev s_count_put_in_order : Stmt := topS 8
theorem sc_count_put_in_order : FnScope ["net", "wide", "row"] ["net", "wide"] (defScope s_count_put_in_order) := ⟨rfl, rfl, rfl, by decide +kernel, rfl, by decide +kernel, by decide +kernel⟩
abbrev s_undone : Stmt := topS 9
theorem sc_undone : FnScope ["net", "wide", "found", "row", "out", "at", "number"] ["net", "wide"] (defScope s_undone) := ⟨rfl, rfl, rfl, by decide +kernel, rfl, by decide +kernel, by decide +kernel⟩
abbrev s_in_order : Stmt := topS 11
theorem sc_in_order : FnScope ["row", "one", "other"] ["row"] (defScope s_in_order) := ⟨rfl, rfl, rfl, by decide +kernel, rfl, by decide +kernel, by decide +kernel⟩
abbrev s_first_failing : Stmt := topS 12
theorem sc_first_failing : FnScope ["net", "rows", "row"] ["net", "rows"] (defScope s_first_failing) := ⟨rfl, rfl, rfl, by decide +kernel, rfl, by decide +kernel, by decide +kernel⟩
abbrev s_fails : Stmt := topS 13
theorem sc_fails : FnScope ["net", "wide"] ["net", "wide"] (defScope s_fails) := ⟨rfl, rfl, rfl, by decide +kernel, rfl, by decide +kernel, by decide +kernel⟩
abbrev s_law_cell_at : Stmt := topS 15
theorem sc_law_cell_at : FnScope ["_law_script", "_law_k"] ["_law_script", "_law_k"] (defScope s_law_cell_at) := ⟨rfl, rfl, rfl, by decide +kernel, rfl, by decide +kernel, by decide +kernel⟩
abbrev s_law_mixed : Stmt := topS 16
theorem sc_law_mixed : FnScope ["_law_script", "_law_k", "_law_drawn_here"] ["_law_script", "_law_k"] (defScope s_law_mixed) := ⟨rfl, rfl, rfl, by decide +kernel, rfl, by decide +kernel, by decide +kernel⟩
abbrev s_law_drawn : Stmt := topS 17
theorem sc_law_drawn : FnScope ["_law_number", "_law_k", "_law_drawn_here"] ["_law_number", "_law_k"] (defScope s_law_drawn) := ⟨rfl, rfl, rfl, by decide +kernel, rfl, by decide +kernel, by decide +kernel⟩
abbrev s_law_swap : Stmt := topS 18
theorem sc_law_swap : FnScope ["_law_number", "_law_wide", "_law_one"] ["_law_number", "_law_wide"] (defScope s_law_swap) := ⟨rfl, rfl, rfl, by decide +kernel, rfl, by decide +kernel, by decide +kernel⟩
abbrev s_law_bubble : Stmt := topS 19
theorem sc_law_bubble : FnScope ["_law_wide", "_law_found", "_law_k", "_law_line"] ["_law_wide"] (defScope s_law_bubble) := ⟨rfl, rfl, rfl, by decide +kernel, rfl, by decide +kernel, by decide +kernel⟩
abbrev s_law_net : Stmt := topS 20
theorem sc_law_net : FnScope ["_law_number", "_law_wide", "_law_most", "_law_kind", "_law_some", "_law_at", "_law_k", "_law_one", "_law_other"] ["_law_number", "_law_wide", "_law_most"] (defScope s_law_net) := ⟨rfl, rfl, rfl, by decide +kernel, rfl, by decide +kernel, by decide +kernel⟩
abbrev s_law_row : Stmt := topS 21
theorem sc_law_row : FnScope ["_law_script", "_law_at", "_law_wide", "_law_number", "_law_found", "_law_k", "_law_part"] ["_law_script", "_law_at", "_law_wide", "_law_number"] (defScope s_law_row) := ⟨rfl, rfl, rfl, by decide +kernel, rfl, by decide +kernel, by decide +kernel⟩
abbrev s_law_run : Stmt := topS 22
theorem sc_law_run : FnScope ["_law_net_here", "_law_row_here", "_law_found", "_law_one", "_law_other", "_law_low"] ["_law_net_here", "_law_row_here"] (defScope s_law_run) := ⟨rfl, rfl, rfl, by decide +kernel, rfl, by decide +kernel, by decide +kernel⟩
abbrev s_law_orders : Stmt := topS 23
theorem sc_law_orders : FnScope ["_law_wide", "_law_found", "_law_line", "_law_longer", "_law_row_here", "_law_number"] ["_law_wide"] (defScope s_law_orders) := ⟨rfl, rfl, rfl, by decide +kernel, rfl, by decide +kernel, by decide +kernel⟩
abbrev s_law : Stmt := topS 24
theorem sc_law : FnScope ["_law_script", "_law_number", "_law_wide", "_law_net_here", "_law_outs", "_law_due", "_law_row_here", "_law_out", "_law_whole", "_law_left", "_law_one", "_law_at", "_law_every", "_law_line", "_law_goals", "_law_k", "_law_order", "_law_told", "_law_goal"] ["_law_script"] (defScope s_law) := ⟨rfl, rfl, rfl, by decide +kernel, rfl, by decide +kernel, by decide +kernel⟩
structure Txt (mg : Str → Option Value) : Prop where
  b_all : mg "all" = none
  b_enumerate : mg "enumerate" = none
  b_int : mg "int" = none
  b_len : mg "len" = none
  b_list : mg "list" = none
  b_max : mg "max" = none
  b_min : mg "min" = none
  b_range : mg "range" = none
  b_sorted : mg "sorted" = none
  b_tuple : mg "tuple" = none
  b_zip : mg "zip" = none
section
variable {P : Program} {w : World} {K : PySem.W.Frag} {mg : Str → Option Value} {base : Heap} {f : Addr} {fd : FuncData}
theorem c_swapped (T : Txt mg) (F : Fun K "swapped" "swapped" s_swapped f fd) (hm : mg "swapped" = some (.ref f)) (b : Binds K fd ["row", "one", "other"] [])  : CalD P w K mg base 1 "swapped" 3 g_swapped :=
  cal_mk 3 1 F hm b sc_swapped rfl rfl fun cdv A outer s H E hr => by
    have hu := hr.units
    exact (dss_cons (ds_setL 3 sc_swapped.nd (dl_callTy call_list_of v_list (by rfl) T.b_list boot_list (da_cons (de_var 0) da_nil)))
  (dss_cons (ds_asg (de_callB (call_min2 (by rfl)) v_min2 (by rfl) T.b_min (by decide +kernel) (da_cons (de_ix (de_var 0) (de_var 1)) (da_cons (de_ix (de_var 0) (de_var 2)) da_nil))) (dg_sub 3 (de_var 1)))
  (dss_cons (ds_asg (de_callB (call_max2 (by rfl)) v_max2 (by rfl) T.b_max (by decide +kernel) (da_cons (de_ix (de_var 0) (de_var 1)) (da_cons (de_ix (de_var 0) (de_var 2)) da_nil))) (dg_sub 3 (de_var 2)))
  (dss_one (ds_ret (de_tupM 3 (by rfl) T.b_tuple))))))
theorem c_run (T : Txt mg) (F : Fun K "run" "run" s_run f fd) (hm : mg "run" = some (.ref f)) (b : Binds K fd ["net", "row"] []) (c_swapped : CalD P w K mg base 1 "swapped" 3 g_swapped) : CalD P w K mg base 2 "run" 2 g_run :=
  cal_mk 2 2 F hm b sc_run rfl rfl fun cdv A outer s H E hr => by
    have hu := hr.units
    exact (dss_cons (ds_for PassesOwn.never (by rfl) (di_seq (de_var 0)) (dg_tup (by rfl) (dgs_cons (dg_name 2 sc_run.nd) (dgs_cons (dg_name 3 sc_run.nd) dgs_nil))) (dss_one (ds_set 1 sc_run.nd (de_fn c_swapped hr (by decide) (by rfl) (da_cons (de_var 1) (da_cons (de_var 2) (da_cons (de_var 3) da_nil))) (len_cons (len_cons (len_cons len_nil)))))))
  (dss_one (ds_ret (de_var 1))))
theorem c_plain_rows (T : Txt mg) (F : Fun K "plain_rows" "plain_rows" s_plain_rows f fd) (hm : mg "plain_rows" = some (.ref f)) (b : Binds K fd ["wide"] [])  : CalD P w K mg base 1 "plain_rows" 1 g_plain_rows :=
  cal_mk 1 3 F hm b sc_plain_rows rfl rfl fun cdv A outer s H E hr => by
    have hu := hr.units
    exact (dss_cons (ds_set 1 sc_plain_rows.nd ((dl_lst (da_cons (de_tup da_nil) da_nil))).de)
  (dss_cons (ds_for PassesOwn.never (by rfl) (di_range1 (da_cons (de_var 0) da_nil) (by rfl) T.b_range) (dg_name 2 sc_plain_rows.nd) (dss_one (ds_set 1 sc_plain_rows.nd (de_op op_addA v_add ((dl_lc (by rfl) sc_plain_rows.nd (di_seq (de_var 1)) (blkOk_by (own := [("row", 3)]) (by kernel_rfl)) (fun _ _ _ _ _ => (dgc_name 3 sc_plain_rows.nd)) (fun _ _ _ _ _ => dts_nil) (fun _ _ _ _ _ => (de_op op_addA v_add (de_var 3) (de_tup (da_cons de_int da_nil)))))).de ((dl_lc (by rfl) sc_plain_rows.nd (di_seq (de_var 1)) (blkOk_by (own := [("row", 3)]) (by kernel_rfl)) (fun _ _ _ _ _ => (dgc_name 3 sc_plain_rows.nd)) (fun _ _ _ _ _ => dts_nil) (fun _ _ _ _ _ => (de_op op_addA v_add (de_var 3) (de_tup (da_cons de_int da_nil)))))).de))))
  (dss_one (ds_ret (de_var 1)))))
theorem c_settled (T : Txt mg) (F : Fun K "settled" "settled" s_settled f fd) (hm : mg "settled" = some (.ref f)) (b : Binds K fd ["net", "wide"] []) (c_plain_rows : CalD P w K mg base 1 "plain_rows" 1 g_plain_rows) (c_run : CalD P w K mg base 2 "run" 2 g_run) : CalD P w K mg base 3 "settled" 2 g_settled :=
  cal_mk 2 3 F hm b sc_settled rfl rfl fun cdv A outer s H E hr => by
    have hu := hr.units
    exact (dss_cons (ds_setL 2 sc_settled.nd (dl_lst da_nil))
  (dss_cons (ds_for PassesOwn.never (by rfl) (di_range1 (da_cons (de_var 1) da_nil) (by rfl) T.b_range) (dg_name 3 sc_settled.nd) (dss_one (ds_if (dt_cmp (op_eqD hu) v_eq ((dl_lc (by rfl) sc_settled.nd (di_seq (de_fn c_plain_rows hr (by decide) (by rfl) (da_cons (de_var 1) da_nil) (len_cons len_nil))) (blkOk_by (own := [("row", 4)]) (by kernel_rfl)) (fun _ _ _ _ _ => (dgc_name 4 sc_settled.nd)) (fun _ _ _ _ _ => (dts_one (dt_cmp (op_neD hu) v_ne (de_ix (de_fn c_run hr (by decide) (by rfl) (da_cons (de_var 0) (da_cons (de_var 4) da_nil)) (len_cons (len_cons len_nil))) (de_var 3)) (de_ix ((dl_callB cr_sortedD v_sorted (by rfl) T.b_sorted (by decide +kernel) (da_cons (de_var 4) da_nil))).de (de_var 3)) (nomark _)))) (fun _ _ _ _ _ => (de_var 4)))).de ((dl_lst da_nil)).de (nomark _)) (dss_one (ds_app 2 (de_var 3))) dss_nil)))
  (dss_one (ds_ret (de_tupM 2 (by rfl) T.b_tuple)))))
theorem c_orders (T : Txt mg) (F : Fun K "orders" "orders" s_orders f fd) (hm : mg "orders" = some (.ref f)) (b : Binds K fd ["wide"] [])  : CalD P w K mg base 1 "orders" 1 g_orders :=
  cal_mk 1 5 F hm b sc_orders rfl rfl fun cdv A outer s H E hr => by
    have hu := hr.units
    exact (dss_cons (ds_set 1 sc_orders.nd ((dl_lst (da_cons (de_tup da_nil) da_nil))).de)
  (dss_cons (ds_for PassesOwn.never (by rfl) (di_range1 (da_cons (de_var 0) da_nil) (by rfl) T.b_range) (dg_name 2 sc_orders.nd) (dss_cons (ds_set 3 sc_orders.nd ((dl_lst da_nil)).de)
  (dss_cons (ds_for PassesOwn.never (by rfl) (di_seq (de_var 1)) (dg_name 4 sc_orders.nd) (dss_one (ds_set 3 sc_orders.nd (de_op op_addA v_add (de_var 3) ((dl_lc (by rfl) sc_orders.nd (di_range1 (da_cons (de_var 0) da_nil) (by rfl) T.b_range) (blkOk_by (own := [("number", 5)]) (by kernel_rfl)) (fun _ _ _ _ _ => (dgc_name 5 sc_orders.nd)) (fun _ _ _ _ _ => (dts_one (dt_cmp (op_ninA hu) v_nin (de_var 5) (de_var 4) (by rfl)))) (fun _ _ _ _ _ => (de_op op_addA v_add (de_var 4) (de_tup (da_cons (de_var 5) da_nil)))))).de))))
  (dss_one (ds_set 1 sc_orders.nd (de_var 3))))))
  (dss_one (ds_ret (de_var 1)))))
theorem c_reached (T : Txt mg) (F : Fun K "reached" "reached" s_reached f fd) (hm : mg "reached" = some (.ref f)) (b : Binds K fd ["net", "wide", "line"] []) (c_orders : CalD P w K mg base 1 "orders" 1 g_orders) (c_run : CalD P w K mg base 2 "run" 2 g_run) : CalD P w K mg base 3 "reached" 3 g_reached :=
  cal_mk 3 3 F hm b sc_reached rfl rfl fun cdv A outer s H E hr => by
    have hu := hr.units
    exact (dss_cons (ds_setL 3 sc_reached.nd (dl_lst da_nil))
  (dss_cons (ds_for PassesOwn.never (by rfl) (di_seq (de_fn c_orders hr (by decide) (by rfl) (da_cons (de_var 1) da_nil) (len_cons len_nil))) (dg_name 4 sc_reached.nd) (dss_cons (ds_set 5 sc_reached.nd (de_indexB (de_fn c_run hr (by decide) (by rfl) (da_cons (de_var 0) (da_cons (de_var 4) da_nil)) (len_cons (len_cons len_nil))) (de_ix (de_var 4) (de_var 2)) (fun ho he => pe_bmB PySem.F.slot_tuple_index PySem.F.type_tuple_index mt_indexB ho (pa_cons he pa_nil))))
  (dss_one (ds_if (dt_ninM 3 hu (de_var 5)) (dss_one (ds_app 3 (de_var 5))) dss_nil))))
  (dss_frz 3 (dss_one (ds_ret (de_callTy call_tuple_ofF v_tup (by rfl) T.b_tuple boot_tuple (da_cons ((dl_callB cr_sortedD v_sorted (by rfl) T.b_sorted (by decide +kernel) (da_cons (de_var 3) da_nil))).de da_nil)))))))
theorem c_count_put_in_order (T : Txt mg) (F : Fun K "count_put_in_order" "count_put_in_order" s_count_put_in_order f fd) (hm : mg "count_put_in_order" = some (.ref f)) (b : Binds K fd ["net", "wide"] []) (c_orders : CalD P w K mg base 1 "orders" 1 g_orders) (c_run : CalD P w K mg base 2 "run" 2 g_run) : CalD P w K mg base 3 "count_put_in_order" 2 g_count_put_in_order :=
  cal_mk 2 1 F hm b sc_count_put_in_order rfl rfl fun cdv A outer s H E hr => by
    have hu := hr.units
    exact (dss_one (ds_ret (de_callB call_len v_len (by rfl) T.b_len PySem.boot_len (da_cons ((dl_lc (by rfl) sc_count_put_in_order.nd (di_seq (de_fn c_orders hr (by decide) (by rfl) (da_cons (de_var 1) da_nil) (len_cons len_nil))) (blkOk_by (own := [("row", 2)]) (by kernel_rfl)) (fun _ _ _ _ _ => (dgc_name 2 sc_count_put_in_order.nd)) (fun _ _ _ _ _ => (dts_one (dt_cmp (op_eqD hu) v_eq (de_fn c_run hr (by decide) (by rfl) (da_cons (de_var 0) (da_cons (de_var 2) da_nil)) (len_cons (len_cons len_nil))) (de_tupRg (by rfl) (by rfl) T.b_tuple (by rfl) T.b_range (de_var 1)) (nomark _)))) (fun _ _ _ _ _ => (de_var 2)))).de da_nil))))
theorem c_undone (T : Txt mg) (F : Fun K "undone" "undone" s_undone f fd) (hm : mg "undone" = some (.ref f)) (b : Binds K fd ["net", "wide"] []) (c_orders : CalD P w K mg base 1 "orders" 1 g_orders) (c_run : CalD P w K mg base 2 "run" 2 g_run) : CalD P w K mg base 3 "undone" 2 g_undone :=
  cal_mk 2 5 F hm b sc_undone rfl rfl fun cdv A outer s H E hr => by
    have hu := hr.units
    exact (dss_cons (ds_set 2 sc_undone.nd de_int)
  (dss_cons (ds_for PassesOwn.never (by rfl) (di_seq (de_fn c_orders hr (by decide) (by rfl) (da_cons (de_var 1) da_nil) (len_cons len_nil))) (dg_name 3 sc_undone.nd) (dss_cons (ds_set 4 sc_undone.nd (de_fn c_run hr (by decide) (by rfl) (da_cons (de_var 0) (da_cons (de_var 3) da_nil)) (len_cons (len_cons len_nil))))
  (dss_one (ds_for PassesOwn.never (by rfl) (di_range1 (da_cons (de_var 1) da_nil) (by rfl) T.b_range) (dg_name 5 sc_undone.nd) (dss_one (ds_augI 2 sc_undone.nd (de_callB call_len v_len (by rfl) T.b_len PySem.boot_len (da_cons ((dl_lc (by rfl) sc_undone.nd (di_seq (de_sl (de_var 4) (do_so (de_op op_addA v_add (de_var 5) de_int)) do_no)) (blkOk_by (own := [("number", 6)]) (by kernel_rfl)) (fun _ _ _ _ _ => (dgc_name 6 sc_undone.nd)) (fun _ _ _ _ _ => (dts_one (dt_cmp op_lt v_lt (de_var 6) (de_ix (de_var 4) (de_var 5)) (nomark _)))) (fun _ _ _ _ _ => (de_var 6)))).de da_nil)) ip_add))))))
  (dss_one (ds_ret (de_var 2)))))
theorem c_in_order (T : Txt mg) (F : Fun K "in_order" "in_order" s_in_order f fd) (hm : mg "in_order" = some (.ref f)) (b : Binds K fd ["row"] [])  : CalD P w K mg base 1 "in_order" 1 g_in_order :=
  cal_mk 1 2 F hm b sc_in_order rfl rfl fun cdv A outer s H E hr => by
    have hu := hr.units
    exact (dss_one (ds_ret (de_callB (cr_all (by rfl)) v_all (by rfl) T.b_all (by decide +kernel) (da_cons ((dl_lc (by rfl) sc_in_order.nd (di_zip (da_cons (de_sl (de_var 0) do_no (do_so (de_un un_neg v_neg de_int))) (da_cons (de_sl (de_var 0) (do_so de_int) do_no) da_nil)) (by rfl) T.b_zip) (blkOk_by (own := [("one", 1), ("other", 2)]) (by kernel_rfl)) (fun _ _ _ _ _ => (dgc_tup (by rfl) (dgcs_cons 1 sc_in_order.nd (dgcs_cons 2 sc_in_order.nd dgcs_nil)))) (fun _ _ _ _ _ => dts_nil) (fun _ _ _ _ _ => (de_cmp op_le v_le (de_var 1) (de_var 2) (nomark _))))).de da_nil))))
theorem c_first_failing (T : Txt mg) (F : Fun K "first_failing" "first_failing" s_first_failing f fd) (hm : mg "first_failing" = some (.ref f)) (b : Binds K fd ["net", "rows"] []) (c_in_order : CalD P w K mg base 1 "in_order" 1 g_in_order) (c_run : CalD P w K mg base 2 "run" 2 g_run) : CalD P w K mg base 3 "first_failing" 2 g_first_failing :=
  cal_mk 2 1 F hm b sc_first_failing rfl rfl fun cdv A outer s H E hr => by
    have hu := hr.units
    exact (dss_cons (ds_for PassesOwn.never (by rfl) (di_seq (de_var 1)) (dg_name 2 sc_first_failing.nd) (dss_one (ds_if (dt_not (dt_val (de_fn c_in_order hr (by decide) (by rfl) (da_cons (de_fn c_run hr (by decide) (by rfl) (da_cons (de_var 0) (da_cons (de_var 2) da_nil)) (len_cons (len_cons len_nil))) da_nil) (len_cons len_nil)))) (dss_one (ds_ret (de_var 2))) dss_nil)))
  (dss_one (ds_ret de_non)))
theorem c_fails (T : Txt mg) (F : Fun K "fails" "fails" s_fails f fd) (hm : mg "fails" = some (.ref f)) (b : Binds K fd ["net", "wide"] []) (c_first_failing : CalD P w K mg base 3 "first_failing" 2 g_first_failing) (c_plain_rows : CalD P w K mg base 1 "plain_rows" 1 g_plain_rows) : CalD P w K mg base 4 "fails" 2 g_fails :=
  cal_mk 2 0 F hm b sc_fails rfl rfl fun cdv A outer s H E hr => by
    have hu := hr.units
    exact (dss_one (ds_ret (de_fn c_first_failing hr (by decide) (by rfl) (da_cons (de_var 0) (da_cons (de_fn c_plain_rows hr (by decide) (by rfl) (da_cons (de_var 1) da_nil) (len_cons len_nil)) da_nil)) (len_cons (len_cons len_nil)))))
theorem c_law_cell_at (T : Txt mg) (F : Fun K "_law_cell_at" "_law_cell_at" s_law_cell_at f fd) (hm : mg "_law_cell_at" = some (.ref f)) (b : Binds K fd ["_law_script", "_law_k"] [])  : CalD P w K mg base 1 "_law_cell_at" 2 g_law_cell_at :=
  cal_mk 2 0 F hm b sc_law_cell_at rfl rfl fun cdv A outer s H E hr => by
    have hu := hr.units
    exact (dss_cons (ds_if (dt_cmp op_lt v_lt (de_var 1) (de_callB call_len v_len (by rfl) T.b_len PySem.boot_len (da_cons (de_var 0) da_nil)) (nomark _)) (dss_one (ds_ret (de_ix (de_var 0) (de_var 1)))) dss_nil)
  (dss_one (ds_ret de_int)))
theorem c_law_mixed (T : Txt mg) (F : Fun K "_law_mixed" "_law_mixed" s_law_mixed f fd) (hm : mg "_law_mixed" = some (.ref f)) (b : Binds K fd ["_law_script", "_law_k"] []) (c_law_cell_at : CalD P w K mg base 1 "_law_cell_at" 2 g_law_cell_at) : CalD P w K mg base 2 "_law_mixed" 2 g_law_mixed :=
  cal_mk 2 1 F hm b sc_law_mixed rfl rfl fun cdv A outer s H E hr => by
    have hu := hr.units
    exact (dss_cons (ds_set 2 sc_law_mixed.nd (de_op op_mod v_mod (de_op op_mulA v_mul (de_op op_addA v_add (de_op op_addA v_add (de_fn c_law_cell_at hr (by decide) (by rfl) (da_cons (de_var 0) (da_cons (de_var 1) da_nil)) (len_cons (len_cons len_nil))) (de_op op_mulA v_mul de_int (de_var 1))) de_int) de_int) de_int))
  (dss_one (ds_ret (de_op op_mod v_mod (de_op op_addA v_add (de_op op_addA v_add (de_op op_mulA v_mul (de_var 2) (de_var 2)) (de_op op_mulA v_mul de_int (de_var 2))) (de_var 1)) de_int))))
theorem c_law_drawn (T : Txt mg) (F : Fun K "_law_drawn" "_law_drawn" s_law_drawn f fd) (hm : mg "_law_drawn" = some (.ref f)) (b : Binds K fd ["_law_number", "_law_k"] [])  : CalD P w K mg base 1 "_law_drawn" 2 g_law_drawn :=
  cal_mk 2 1 F hm b sc_law_drawn rfl rfl fun cdv A outer s H E hr => by
    have hu := hr.units
    exact (dss_cons (ds_set 2 sc_law_drawn.nd (de_op op_mod v_mod (de_op op_mulA v_mul (de_op op_addA v_add (de_op op_addA v_add (de_var 0) (de_op op_mulA v_mul de_int (de_var 1))) de_int) de_int) de_int))
  (dss_one (ds_ret (de_op op_mod v_mod (de_op op_addA v_add (de_op op_addA v_add (de_op op_mulA v_mul (de_var 2) (de_var 2)) (de_op op_mulA v_mul de_int (de_var 2))) (de_var 1)) de_int))))
theorem c_law_swap (T : Txt mg) (F : Fun K "_law_swap" "_law_swap" s_law_swap f fd) (hm : mg "_law_swap" = some (.ref f)) (b : Binds K fd ["_law_number", "_law_wide"] [])  : CalD P w K mg base 1 "_law_swap" 2 g_law_swap :=
  cal_mk 2 1 F hm b sc_law_swap rfl rfl fun cdv A outer s H E hr => by
    have hu := hr.units
    exact (dss_cons (ds_set 2 sc_law_swap.nd (de_op op_mod v_mod (de_var 0) (de_var 1)))
  (dss_one (ds_ret (de_tup (da_cons (de_var 2) (da_cons (de_op op_mod v_mod (de_op op_addA v_add (de_op op_addA v_add (de_var 2) de_int) (de_op op_mod v_mod (de_op op_fdiv v_fdiv (de_var 0) de_int) (de_op op_sub v_sub (de_var 1) de_int))) (de_var 1)) da_nil))))))
theorem c_law_bubble (T : Txt mg) (F : Fun K "_law_bubble" "_law_bubble" s_law_bubble f fd) (hm : mg "_law_bubble" = some (.ref f)) (b : Binds K fd ["_law_wide"] [])  : CalD P w K mg base 1 "_law_bubble" 1 g_law_bubble :=
  cal_mk 1 3 F hm b sc_law_bubble rfl rfl fun cdv A outer s H E hr => by
    have hu := hr.units
    exact (dss_cons (ds_set 1 sc_law_bubble.nd ((dl_lst da_nil)).de)
  (dss_cons (ds_for PassesOwn.never (by rfl) (di_range1 (da_cons (de_var 0) da_nil) (by rfl) T.b_range) (dg_name 2 sc_law_bubble.nd) (dss_one (ds_set 1 sc_law_bubble.nd (de_op op_addA v_add (de_var 1) ((dl_lc (by rfl) sc_law_bubble.nd (di_range1 (da_cons (de_op op_sub v_sub (de_op op_sub v_sub (de_var 0) de_int) (de_var 2)) da_nil) (by rfl) T.b_range) (blkOk_by (own := [("_law_line", 3)]) (by kernel_rfl)) (fun _ _ _ _ _ => (dgc_name 3 sc_law_bubble.nd)) (fun _ _ _ _ _ => dts_nil) (fun _ _ _ _ _ => (de_tup (da_cons (de_var 3) (da_cons (de_op op_addA v_add (de_var 3) de_int) da_nil)))))).de))))
  (dss_one (ds_ret (de_var 1)))))
theorem c_law_net (T : Txt mg) (F : Fun K "_law_net" "_law_net" s_law_net f fd) (hm : mg "_law_net" = some (.ref f)) (b : Binds K fd ["_law_number", "_law_wide", "_law_most"] []) (c_law_swap : CalD P w K mg base 1 "_law_swap" 2 g_law_swap) (c_law_drawn : CalD P w K mg base 1 "_law_drawn" 2 g_law_drawn) (c_law_bubble : CalD P w K mg base 1 "_law_bubble" 1 g_law_bubble) : CalD P w K mg base 2 "_law_net" 3 g_law_net :=
  cal_mk 3 6 F hm b sc_law_net rfl rfl fun cdv A outer s H E hr => by
    have hu := hr.units
    exact (dss_cons (ds_if (dt_cmp (op_eqD hu) v_eq (de_var 1) de_int (nomark _)) (dss_one (ds_ret (de_tup da_nil))) dss_nil)
  (dss_cons (ds_set 3 sc_law_net.nd (de_op op_mod v_mod (de_op op_fdiv v_fdiv (de_var 0) de_int) de_int))
  (dss_cons (ds_setLc 4 (by rfl) sc_law_net.nd (di_range1 (da_cons (de_op op_mod v_mod (de_var 0) (de_op op_addA v_add (de_var 2) de_int)) da_nil) (by rfl) T.b_range) (blkOk_by (own := [("_law_k", 6)]) (by kernel_rfl)) (fun _ _ _ _ _ => (dgc_name 6 sc_law_net.nd)) (fun _ _ _ _ _ => dts_nil) (fun _ _ _ _ _ => (de_fn c_law_swap hr (by decide) (by rfl) (da_cons (de_fn c_law_drawn hr (by decide) (by rfl) (da_cons (de_var 0) (da_cons (de_var 6) da_nil)) (len_cons (len_cons len_nil))) (da_cons (de_var 1) da_nil)) (len_cons (len_cons len_nil)))) (sw_true (by rfl) (by rfl) (by rfl) (by decide +kernel)))
  (dss_cons (ds_if (dt_cmp (op_eqD hu) v_eq (de_var 3) de_int (nomark _)) (dss_one (ds_setLc 4 (by rfl) sc_law_net.nd (di_seq (de_var 4)) (blkOk_by (own := [("_law_one", 7), ("_law_other", 8)]) (by kernel_rfl)) (fun _ _ _ _ _ => (dgc_tup (by rfl) (dgcs_cons 7 sc_law_net.nd (dgcs_cons 8 sc_law_net.nd dgcs_nil)))) (fun _ _ _ _ _ => dts_nil) (fun _ _ _ _ _ => (de_tup (da_cons (de_callB (call_min2 (by rfl)) v_min2 (by rfl) T.b_min (by decide +kernel) (da_cons (de_var 7) (da_cons (de_var 8) da_nil))) (da_cons (de_callB (call_max2 (by rfl)) v_max2 (by rfl) T.b_max (by decide +kernel) (da_cons (de_var 7) (da_cons (de_var 8) da_nil))) da_nil)))) (sw_true (by rfl) (by rfl) (by rfl) (by decide +kernel)))) dss_nil)
  (dss_cons (ds_if (dt_cmp (op_eqD hu) v_eq (de_var 3) de_int (nomark _)) (dss_one (ds_setLc 4 (by rfl) sc_law_net.nd (di_seq (de_var 4)) (blkOk_by (own := [("_law_one", 7), ("_law_other", 8)]) (by kernel_rfl)) (fun _ _ _ _ _ => (dgc_tup (by rfl) (dgcs_cons 7 sc_law_net.nd (dgcs_cons 8 sc_law_net.nd dgcs_nil)))) (fun _ _ _ _ _ => dts_nil) (fun _ _ _ _ _ => (de_tup (da_cons (de_op op_mod v_mod (de_var 7) (de_op op_sub v_sub (de_var 1) de_int)) (da_cons (de_op op_addA v_add (de_op op_mod v_mod (de_var 7) (de_op op_sub v_sub (de_var 1) de_int)) de_int) da_nil)))) (sw_true (by rfl) (by rfl) (by rfl) (by decide +kernel)))) dss_nil)
  (dss_cons (ds_if (dt_cmp (op_eqD hu) v_eq (de_var 3) de_int (nomark _)) (dss_cons (ds_set 4 sc_law_net.nd (de_op op_addA v_add (de_sl (de_var 4) do_no (do_so (de_op op_mulA v_mul de_int (de_op op_mod v_mod (de_op op_fdiv v_fdiv (de_var 0) de_int) de_int)))) (de_fn c_law_bubble hr (by decide) (by rfl) (da_cons (de_var 1) da_nil) (len_cons len_nil))))
  (dss_one (ds_if (dt_cmp (op_eqD hu) v_eq (de_op op_mod v_mod (de_op op_fdiv v_fdiv (de_var 0) de_int) de_int) de_int (nomark _)) (dss_cons (ds_set 5 sc_law_net.nd (de_op op_mod v_mod (de_op op_fdiv v_fdiv (de_var 0) de_int) (de_callB call_len v_len (by rfl) T.b_len PySem.boot_len (da_cons (de_var 4) da_nil))))
  (dss_one (ds_set 4 sc_law_net.nd (de_op op_addA v_add (de_sl (de_var 4) do_no (do_so (de_var 5))) (de_sl (de_var 4) (do_so (de_op op_addA v_add (de_var 5) de_int)) do_no))))) dss_nil))) dss_nil)
  (dss_one (ds_ret (de_callTy call_tuple_ofF v_tup (by rfl) T.b_tuple boot_tuple (da_cons (de_var 4) da_nil))))))))))
theorem c_law_row (T : Txt mg) (F : Fun K "_law_row" "_law_row" s_law_row f fd) (hm : mg "_law_row" = some (.ref f)) (b : Binds K fd ["_law_script", "_law_at", "_law_wide", "_law_number"] []) (c_law_cell_at : CalD P w K mg base 1 "_law_cell_at" 2 g_law_cell_at) (c_law_drawn : CalD P w K mg base 1 "_law_drawn" 2 g_law_drawn) : CalD P w K mg base 2 "_law_row" 4 g_law_row :=
  cal_mk 4 3 F hm b sc_law_row rfl rfl fun cdv A outer s H E hr => by
    have hu := hr.units
    exact (dss_cons (ds_setLc 4 (by rfl) sc_law_row.nd (di_range1 (da_cons (de_var 2) da_nil) (by rfl) T.b_range) (blkOk_by (own := [("_law_k", 5)]) (by kernel_rfl)) (fun _ _ _ _ _ => (dgc_name 5 sc_law_row.nd)) (fun _ _ _ _ _ => dts_nil) (fun _ _ _ _ _ => (de_fn c_law_cell_at hr (by decide) (by rfl) (da_cons (de_var 0) (da_cons (de_op op_addA v_add (de_var 1) (de_var 5)) da_nil)) (len_cons (len_cons len_nil)))) (sw_true (by rfl) (by rfl) (by rfl) (by decide +kernel)))
  (dss_cons (ds_if (dt_cmp (op_eqD hu) v_eq (de_op op_mod v_mod (de_var 3) de_int) de_int (nomark _)) (dss_one (ds_setLc 4 (by rfl) sc_law_row.nd (di_seq (de_var 4)) (blkOk_by (own := [("_law_part", 6)]) (by kernel_rfl)) (fun _ _ _ _ _ => (dgc_name 6 sc_law_row.nd)) (fun _ _ _ _ _ => dts_nil) (fun _ _ _ _ _ => (de_op op_mod v_mod (de_var 6) de_int)) (sw_true (by rfl) (by rfl) (by rfl) (by decide +kernel)))) dss_nil)
  (dss_cons (ds_if (dt_cmp (op_eqD hu) v_eq (de_op op_mod v_mod (de_var 3) de_int) de_int (nomark _)) (dss_one (ds_setLc 4 (by rfl) sc_law_row.nd (di_range1 (da_cons (de_var 2) da_nil) (by rfl) T.b_range) (blkOk_by (own := [("_law_k", 5)]) (by kernel_rfl)) (fun _ _ _ _ _ => (dgc_name 5 sc_law_row.nd)) (fun _ _ _ _ _ => dts_nil) (fun _ _ _ _ _ => (de_op op_mod v_mod (de_fn c_law_drawn hr (by decide) (by rfl) (da_cons (de_var 3) (da_cons (de_var 5) da_nil)) (len_cons (len_cons len_nil))) (de_ix (de_tup (da_cons de_int (da_cons de_int (da_cons de_int (da_cons de_int da_nil))))) (de_op op_mod v_mod (de_op op_fdiv v_fdiv (de_var 3) de_int) de_int)))) (sw_true (by rfl) (by rfl) (by rfl) (by decide +kernel)))) dss_nil)
  (dss_one (ds_ret (de_callTy call_tuple_ofF v_tup (by rfl) T.b_tuple boot_tuple (da_cons (de_var 4) da_nil)))))))
theorem c_law_run (T : Txt mg) (F : Fun K "_law_run" "_law_run" s_law_run f fd) (hm : mg "_law_run" = some (.ref f)) (b : Binds K fd ["_law_net_here", "_law_row_here"] [])  : CalD P w K mg base 1 "_law_run" 2 g_law_run :=
  cal_mk 2 4 F hm b sc_law_run rfl rfl fun cdv A outer s H E hr => by
    have hu := hr.units
    exact (dss_cons (ds_setL 2 sc_law_run.nd (dl_callTy call_list_of v_list (by rfl) T.b_list boot_list (da_cons (de_var 1) da_nil)))
  (dss_cons (ds_for PassesOwn.never (by rfl) (di_seq (de_var 0)) (dg_tup (by rfl) (dgs_cons (dg_name 3 sc_law_run.nd) (dgs_cons (dg_name 4 sc_law_run.nd) dgs_nil))) (dss_cons (ds_set 5 sc_law_run.nd (de_callB (call_min2 (by rfl)) v_min2 (by rfl) T.b_min (by decide +kernel) (da_cons (de_idxM 2 (de_var 3)) (da_cons (de_idxM 2 (de_var 4)) da_nil))))
  (dss_cons (ds_asg (de_callB (call_max2 (by rfl)) v_max2 (by rfl) T.b_max (by decide +kernel) (da_cons (de_idxM 2 (de_var 3)) (da_cons (de_idxM 2 (de_var 4)) da_nil))) (dg_sub 2 (de_var 4)))
  (dss_one (ds_asg (de_var 5) (dg_sub 2 (de_var 3)))))))
  (dss_one (ds_ret (de_tupM 2 (by rfl) T.b_tuple)))))
theorem c_law_orders (T : Txt mg) (F : Fun K "_law_orders" "_law_orders" s_law_orders f fd) (hm : mg "_law_orders" = some (.ref f)) (b : Binds K fd ["_law_wide"] [])  : CalD P w K mg base 1 "_law_orders" 1 g_law_orders :=
  cal_mk 1 5 F hm b sc_law_orders rfl rfl fun cdv A outer s H E hr => by
    have hu := hr.units
    exact (dss_cons (ds_set 1 sc_law_orders.nd ((dl_lst (da_cons (de_tup da_nil) da_nil))).de)
  (dss_cons (ds_for PassesOwn.never (by rfl) (di_range1 (da_cons (de_var 0) da_nil) (by rfl) T.b_range) (dg_name 2 sc_law_orders.nd) (dss_cons (ds_set 3 sc_law_orders.nd ((dl_lst da_nil)).de)
  (dss_cons (ds_for PassesOwn.never (by rfl) (di_seq (de_var 1)) (dg_name 4 sc_law_orders.nd) (dss_one (ds_set 3 sc_law_orders.nd (de_op op_addA v_add (de_var 3) ((dl_lc (by rfl) sc_law_orders.nd (di_range1 (da_cons (de_var 0) da_nil) (by rfl) T.b_range) (blkOk_by (own := [("_law_number", 5)]) (by kernel_rfl)) (fun _ _ _ _ _ => (dgc_name 5 sc_law_orders.nd)) (fun _ _ _ _ _ => (dts_one (dt_cmp (op_ninA hu) v_nin (de_var 5) (de_var 4) (by rfl)))) (fun _ _ _ _ _ => (de_op op_addA v_add (de_var 4) (de_tup (da_cons (de_var 5) da_nil)))))).de))))
  (dss_one (ds_set 1 sc_law_orders.nd (de_var 3))))))
  (dss_one (ds_ret (de_var 1)))))
theorem law_fn (T : Txt mg) (F : Fun K "law" "law" s_law f fd) (c_law_mixed : CalD P w K mg base 2 "_law_mixed" 2 g_law_mixed) (c_law_net : CalD P w K mg base 2 "_law_net" 3 g_law_net) (c_law_row : CalD P w K mg base 2 "_law_row" 4 g_law_row) (c_run : CalD P w K mg base 2 "run" 2 g_run) (c_law_orders : CalD P w K mg base 1 "_law_orders" 1 g_law_orders) (c_law_run : CalD P w K mg base 1 "_law_run" 2 g_law_run) (c_reached : CalD P w K mg base 3 "reached" 3 g_reached) (c_settled : CalD P w K mg base 3 "settled" 2 g_settled) (c_count_put_in_order : CalD P w K mg base 3 "count_put_in_order" 2 g_count_put_in_order) (c_undone : CalD P w K mg base 3 "undone" 2 g_undone) (c_fails : CalD P w K mg base 4 "fails" 2 g_fails) : FnOk P w K mg base CX0 5 f fd ["_law_script"] (spD K 1 g_law) :=
  fn_mk 1 18 F sc_law rfl rfl fun cdv A outer s H E hr => by
    have hu := hr.units
    exact (dss_cons (ds_set 1 sc_law.nd (de_fn c_law_mixed hr (by decide) (by rfl) (da_cons (de_var 0) (da_cons de_int da_nil)) (len_cons (len_cons len_nil))))
  (dss_cons (ds_set 2 sc_law.nd (de_op op_addA v_add de_int (de_op op_mod v_mod (de_var 1) de_int)))
  (dss_cons (ds_set 3 sc_law.nd (de_fn c_law_net hr (by decide) (by rfl) (da_cons (de_fn c_law_mixed hr (by decide) (by rfl) (da_cons (de_var 0) (da_cons de_int da_nil)) (len_cons (len_cons len_nil))) (da_cons (de_var 2) (da_cons de_int da_nil))) (len_cons (len_cons (len_cons len_nil)))))
  (dss_cons (ds_set 4 sc_law.nd ((dl_lc (by rfl) sc_law.nd (di_seq (de_fn c_law_orders hr (by decide) (by rfl) (da_cons (de_var 2) da_nil) (len_cons len_nil))) (blkOk_by (own := [("_law_row_here", 6)]) (by kernel_rfl)) (fun _ _ _ _ _ => (dgc_name 6 sc_law.nd)) (fun _ _ _ _ _ => dts_nil) (fun _ _ _ _ _ => (de_fn c_law_run hr (by decide) (by rfl) (da_cons (de_var 3) (da_cons (de_var 6) da_nil)) (len_cons (len_cons len_nil)))))).de)
  (dss_cons (ds_setLc 5 (by rfl) sc_law.nd (di_range1 (da_cons (de_var 2) da_nil) (by rfl) T.b_range) (blkOk_by (own := [("_law_line", 13)]) (by kernel_rfl)) (fun _ _ _ _ _ => (dgc_name 13 sc_law.nd)) (fun _ _ _ _ _ => (dts_one (dt_cmp (op_eqD hu) v_eq ((dl_lc (by rfl) sc_law.nd (di_seq (de_var 4)) (blkOk_by (own := [("_law_out", 7)]) (by kernel_rfl)) (fun _ _ _ _ _ => (dgc_name 7 sc_law.nd)) (fun _ _ _ _ _ => (dts_one (dt_cmp (op_neD hu) v_ne (de_ix (de_var 7) (de_var 13)) (de_var 13) (nomark _)))) (fun _ _ _ _ _ => (de_var 7)))).de ((dl_lst da_nil)).de (nomark _)))) (fun _ _ _ _ _ => (de_var 13)) (sw_true (by rfl) (by rfl) (by rfl) (by decide +kernel)))
  (dss_cons (ds_if (dt_cmp (op_neD hu) v_ne ((dl_callTy call_list_of v_list (by rfl) T.b_list boot_list (da_cons (de_fn c_settled hr (by decide) (by rfl) (da_cons (de_var 3) (da_cons (de_var 2) da_nil)) (len_cons (len_cons len_nil))) da_nil))).de (de_var 5) (nomark _)) (dss_one (ds_ret de_bl)) dss_nil)
  (dss_cons (ds_set 6 sc_law.nd (de_fn c_law_row hr (by decide) (by rfl) (da_cons (de_var 0) (da_cons de_int (da_cons (de_var 2) (da_cons (de_fn c_law_mixed hr (by decide) (by rfl) (da_cons (de_var 0) (da_cons de_int da_nil)) (len_cons (len_cons len_nil))) da_nil)))) (len_cons (len_cons (len_cons (len_cons len_nil))))))
  (dss_cons (ds_set 7 sc_law.nd (de_fn c_run hr (by decide) (by rfl) (da_cons (de_var 3) (da_cons (de_var 6) da_nil)) (len_cons (len_cons len_nil))))
  (dss_cons (ds_if (dt_cmp (op_neD hu) v_ne ((dl_lc (by rfl) sc_law.nd (di_seq (de_var 5)) (blkOk_by (own := [("_law_line", 13)]) (by kernel_rfl)) (fun _ _ _ _ _ => (dgc_name 13 sc_law.nd)) (fun _ _ _ _ _ => (dts_one (dt_cmp (op_neD hu) v_ne (de_ix (de_var 7) (de_var 13)) (de_ix ((dl_callB cr_sortedD v_sorted (by rfl) T.b_sorted (by decide +kernel) (da_cons (de_var 6) da_nil))).de (de_var 13)) (nomark _)))) (fun _ _ _ _ _ => (de_var 13)))).de ((dl_lst da_nil)).de (nomark _)) (dss_one (ds_ret de_bl)) dss_nil)
  (dss_cons (ds_set 8 sc_law.nd (de_callB call_len v_len (by rfl) T.b_len PySem.boot_len (da_cons ((dl_lc (by rfl) sc_law.nd (di_seq (de_var 4)) (blkOk_by (own := [("_law_one", 10)]) (by kernel_rfl)) (fun _ _ _ _ _ => (dgc_name 10 sc_law.nd)) (fun _ _ _ _ _ => (dts_one (dt_cmp (op_eqD hu) v_eq ((dl_callTy call_list_of v_list (by rfl) T.b_list boot_list (da_cons (de_var 10) da_nil))).de ((dl_callB cr_sortedD v_sorted (by rfl) T.b_sorted (by decide +kernel) (da_cons (de_var 10) da_nil))).de (nomark _)))) (fun _ _ _ _ _ => (de_var 10)))).de da_nil)))
  (dss_cons (ds_set 9 sc_law.nd de_int)
  (dss_cons (ds_for PassesOwn.never (by rfl) (di_seq (de_var 4)) (dg_name 10 sc_law.nd) (dss_one (ds_for PassesOwn.never (by rfl) (di_range1 (da_cons (de_var 2) da_nil) (by rfl) T.b_range) (dg_name 11 sc_law.nd) (dss_one (ds_set 9 sc_law.nd (de_op op_addA v_add (de_var 9) (de_callB call_len v_len (by rfl) T.b_len PySem.boot_len (da_cons ((dl_lc (by rfl) sc_law.nd (di_seq (de_sl (de_var 10) (do_so (de_op op_addA v_add (de_var 11) de_int)) do_no)) (blkOk_by (own := [("_law_number", 1)]) (by kernel_rfl)) (fun _ _ _ _ _ => (dgc_name 1 sc_law.nd)) (fun _ _ _ _ _ => (dts_one (dt_cmp op_lt v_lt (de_var 1) (de_ix (de_var 10) (de_var 11)) (nomark _)))) (fun _ _ _ _ _ => (de_var 1)))).de da_nil))))))))
  (dss_cons (ds_if ((dw_or (dt_cmp (op_neD hu) v_ne (de_fn c_count_put_in_order hr (by decide) (by rfl) (da_cons (de_var 3) (da_cons (de_var 2) da_nil)) (len_cons (len_cons len_nil))) (de_var 8) (nomark _)) (dw_or1 (dt_cmp (op_neD hu) v_ne (de_fn c_undone hr (by decide) (by rfl) (da_cons (de_var 3) (da_cons (de_var 2) da_nil)) (len_cons (len_cons len_nil))) (de_var 9) (nomark _))))).dt (dss_one (ds_ret de_bl)) dss_nil)
  (dss_cons (ds_if ((dw_or (dt_cmp (op_neD hu) v_ne (de_cmp op_isN v_isN (de_fn c_fails hr (by decide) (by rfl) (da_cons (de_var 3) (da_cons (de_var 2) da_nil)) (len_cons (len_cons len_nil))) de_non (nomark _)) (de_cmp (op_eqD hu) v_eq (de_callB call_len v_len (by rfl) T.b_len PySem.boot_len (da_cons (de_var 5) da_nil)) (de_var 2) (nomark _)) (nomark _)) (dw_or1 (dt_cmp (op_neD hu) v_ne (de_cmp (op_eqD hu) v_eq (de_var 8) (de_callB call_len v_len (by rfl) T.b_len PySem.boot_len (da_cons (de_var 4) da_nil)) (nomark _)) (de_cmp (op_eqD hu) v_eq (de_var 9) de_int (nomark _)) (nomark _))))).dt (dss_one (ds_ret de_bl)) dss_nil)
  (dss_cons (ds_if (dt_cmp (op_neD hu) v_ne (de_cmp (op_eqD hu) v_eq (de_callB call_len v_len (by rfl) T.b_len PySem.boot_len (da_cons (de_var 5) da_nil)) (de_var 2) (nomark _)) (de_cmp (op_eqD hu) v_eq (de_var 9) de_int (nomark _)) (nomark _)) (dss_one (ds_ret de_bl)) dss_nil)
  (dss_cons (ds_set 12 sc_law.nd (de_fn c_law_orders hr (by decide) (by rfl) (da_cons (de_var 2) da_nil) (len_cons len_nil)))
  (dss_cons (ds_for PassesOwn.never (by rfl) (di_range1 (da_cons (de_var 2) da_nil) (by rfl) T.b_range) (dg_name 13 sc_law.nd) (dss_cons (ds_setL 14 sc_law.nd (dl_lst da_nil))
  (dss_cons (ds_for PassesOwn.never (by rfl) (di_enum (de_var 12) (by rfl) T.b_enumerate) (dg_tup (by rfl) (dgs_cons (dg_name 15 sc_law.nd) (dgs_cons (dg_name 16 sc_law.nd) dgs_nil))) (dss_one (ds_app 14 (de_indexB (de_ix (de_var 4) (de_var 15)) (de_ix (de_var 16) (de_var 13)) (fun ho he => pe_bmB PySem.F.slot_tuple_index PySem.F.type_tuple_index mt_indexB ho (pa_cons he pa_nil))))))
  (dss_cons (ds_set 17 sc_law.nd (de_fn c_reached hr (by decide) (by rfl) (da_cons (de_var 3) (da_cons (de_var 2) (da_cons (de_var 13) da_nil))) (len_cons (len_cons (len_cons len_nil)))))
  (dss_frz 14 (dss_cons (ds_if (dt_cmp (op_neD hu) v_ne (de_var 17) (de_callTy call_tuple_ofF v_tup (by rfl) T.b_tuple boot_tuple (da_cons ((dl_lc (by rfl) sc_law.nd (di_range1 (da_cons (de_var 2) da_nil) (by rfl) T.b_range) (blkOk_by (own := [("_law_goal", 18)]) (by kernel_rfl)) (fun _ _ _ _ _ => (dgc_name 18 sc_law.nd)) (fun _ _ _ _ _ => (dts_one (dt_cmp (op_inA hu) v_in (de_var 18) (de_var 14) (by rfl)))) (fun _ _ _ _ _ => (de_var 18)))).de da_nil)) (nomark _)) (dss_one (ds_ret de_bl)) dss_nil)
  (dss_one (ds_if (dt_cmp (op_neD hu) v_ne ((dl_lc (by rfl) sc_law.nd (di_seq (de_var 5)) (blkOk_by (own := [("_law_goal", 18)]) (by kernel_rfl)) (fun _ _ _ _ _ => (dgc_name 18 sc_law.nd)) (fun _ _ _ _ _ => (dts_one (dt_cmp (op_ninA hu) v_nin (de_var 18) (de_var 17) (by rfl)))) (fun _ _ _ _ _ => (de_var 18)))).de ((dl_lst da_nil)).de (nomark _)) (dss_one (ds_ret de_bl)) dss_nil))))))))
  (dss_one (ds_ret (de_and (de_cmp (op_eqD hu) v_eq (de_fn c_settled hr (by decide) (by rfl) (da_cons (de_tup da_nil) (da_cons (de_var 2) da_nil)) (len_cons (len_cons len_nil))) (de_ix (de_tup (da_cons (de_tup da_nil) (da_cons (de_tup (da_cons de_int da_nil)) da_nil))) (de_callTy call_int1 v_int1 (by rfl) T.b_int (by decide +kernel) (da_cons (de_cmp (op_eqD hu) v_eq (de_var 2) de_int (nomark _)) da_nil))) (nomark _)) (de_one (de_cmp (op_eqD hu) v_eq (de_fn c_reached hr (by decide) (by rfl) (da_cons (de_tup da_nil) (da_cons (de_var 2) (da_cons de_int da_nil))) (len_cons (len_cons (len_cons len_nil)))) (de_tup (da_cons de_int da_nil)) (nomark _)))))))))))))))))))))))
end
def spLaw (K : PySem.W.Frag) : Sp := spD K 1 g_law
theorem all_mk {l : PySem.W.OpenLaw} {w : World} {K : PySem.W.Frag} {h : Heap} {mg : Str → Option Value} {fa f0 f1 f2 f3 f4 f5 f6 f7 f8 f9 f10 f11 f12 f13 f14 f15 f16 f17 f18 f19 f20 : Addr} (X : K.In h) (G : h.Ns mainGlobals mg) (hfa : mg "law" = some (.ref fa))
    {od0 an0 od1 an1 od2 an2 od3 an3 od4 an4 od5 an5 od6 an6 od7 an7 od8 an8 od9 an9 od10 an10 od11 an11 od12 an12 od13 an13 od14 an14 od15 an15 od16 an16 od17 an17 od18 an18 od19 an19 od20 an20 : Option Addr} {sl0 sl1 sl2 sl3 sl4 sl5 sl6 sl7 sl8 sl9 sl10 sl11 sl12 sl13 sl14 sl15 sl16 sl17 sl18 sl19 sl20 : Array (Option Value)} {oc0 kV0 dc0 pm0 cd0 ct0 oc1 kV1 dc1 pm1 cd1 ct1 oc2 kV2 dc2 pm2 cd2 ct2 oc3 kV3 dc3 pm3 cd3 ct3 oc4 kV4 dc4 pm4 cd4 ct4 oc5 kV5 dc5 pm5 cd5 ct5 oc6 kV6 dc6 pm6 cd6 ct6 oc7 kV7 dc7 pm7 cd7 ct7 oc8 kV8 dc8 pm8 cd8 ct8 oc9 kV9 dc9 pm9 cd9 ct9 oc10 kV10 dc10 pm10 cd10 ct10 oc11 kV11 dc11 pm11 cd11 ct11 oc12 kV12 dc12 pm12 cd12 ct12 oc13 kV13 dc13 pm13 cd13 ct13 oc14 kV14 dc14 pm14 cd14 ct14 oc15 kV15 dc15 pm15 cd15 ct15 oc16 kV16 dc16 pm16 cd16 ct16 oc17 kV17 dc17 pm17 cd17 ct17 oc18 kV18 dc18 pm18 cd18 ct18 oc19 kV19 dc19 pm19 cd19 ct19 oc20 kV20 dc20 pm20 cd20 ct20 : Value}
    (a0 : PySem.W.nsIn K mainGlobals "swapped" = some (some (.ref f0))) (l0 : K.lookup f0 = some ⟨oc0, od0, .func (PySem.W.fnOf "swapped" "swapped" (defArgs s_swapped) (defBody s_swapped) (defScope s_swapped) .none kV0 dc0 pm0 an0 cd0 ct0), sl0⟩) (q0 : PySem.W.codeIn K cd0 "swapped" = true) (k0 : PySem.W.keepIn K (.ref f0) = true)
    (a1 : PySem.W.nsIn K mainGlobals "run" = some (some (.ref f1))) (l1 : K.lookup f1 = some ⟨oc1, od1, .func (PySem.W.fnOf "run" "run" (defArgs s_run) (defBody s_run) (defScope s_run) .none kV1 dc1 pm1 an1 cd1 ct1), sl1⟩) (q1 : PySem.W.codeIn K cd1 "run" = true) (k1 : PySem.W.keepIn K (.ref f1) = true)
    (a2 : PySem.W.nsIn K mainGlobals "plain_rows" = some (some (.ref f2))) (l2 : K.lookup f2 = some ⟨oc2, od2, .func (PySem.W.fnOf "plain_rows" "plain_rows" (defArgs s_plain_rows) (defBody s_plain_rows) (defScope s_plain_rows) .none kV2 dc2 pm2 an2 cd2 ct2), sl2⟩) (q2 : PySem.W.codeIn K cd2 "plain_rows" = true) (k2 : PySem.W.keepIn K (.ref f2) = true)
    (a3 : PySem.W.nsIn K mainGlobals "settled" = some (some (.ref f3))) (l3 : K.lookup f3 = some ⟨oc3, od3, .func (PySem.W.fnOf "settled" "settled" (defArgs s_settled) (defBody s_settled) (defScope s_settled) .none kV3 dc3 pm3 an3 cd3 ct3), sl3⟩) (q3 : PySem.W.codeIn K cd3 "settled" = true) (k3 : PySem.W.keepIn K (.ref f3) = true)
    (a4 : PySem.W.nsIn K mainGlobals "orders" = some (some (.ref f4))) (l4 : K.lookup f4 = some ⟨oc4, od4, .func (PySem.W.fnOf "orders" "orders" (defArgs s_orders) (defBody s_orders) (defScope s_orders) .none kV4 dc4 pm4 an4 cd4 ct4), sl4⟩) (q4 : PySem.W.codeIn K cd4 "orders" = true) (k4 : PySem.W.keepIn K (.ref f4) = true)
    (a5 : PySem.W.nsIn K mainGlobals "reached" = some (some (.ref f5))) (l5 : K.lookup f5 = some ⟨oc5, od5, .func (PySem.W.fnOf "reached" "reached" (defArgs s_reached) (defBody s_reached) (defScope s_reached) .none kV5 dc5 pm5 an5 cd5 ct5), sl5⟩) (q5 : PySem.W.codeIn K cd5 "reached" = true) (k5 : PySem.W.keepIn K (.ref f5) = true)
    (a6 : PySem.W.nsIn K mainGlobals "count_put_in_order" = some (some (.ref f6))) (l6 : K.lookup f6 = some ⟨oc6, od6, .func (PySem.W.fnOf "count_put_in_order" "count_put_in_order" (defArgs s_count_put_in_order) (defBody s_count_put_in_order) (defScope s_count_put_in_order) .none kV6 dc6 pm6 an6 cd6 ct6), sl6⟩) (q6 : PySem.W.codeIn K cd6 "count_put_in_order" = true) (k6 : PySem.W.keepIn K (.ref f6) = true)
    (a7 : PySem.W.nsIn K mainGlobals "undone" = some (some (.ref f7))) (l7 : K.lookup f7 = some ⟨oc7, od7, .func (PySem.W.fnOf "undone" "undone" (defArgs s_undone) (defBody s_undone) (defScope s_undone) .none kV7 dc7 pm7 an7 cd7 ct7), sl7⟩) (q7 : PySem.W.codeIn K cd7 "undone" = true) (k7 : PySem.W.keepIn K (.ref f7) = true)
    (a8 : PySem.W.nsIn K mainGlobals "in_order" = some (some (.ref f8))) (l8 : K.lookup f8 = some ⟨oc8, od8, .func (PySem.W.fnOf "in_order" "in_order" (defArgs s_in_order) (defBody s_in_order) (defScope s_in_order) .none kV8 dc8 pm8 an8 cd8 ct8), sl8⟩) (q8 : PySem.W.codeIn K cd8 "in_order" = true) (k8 : PySem.W.keepIn K (.ref f8) = true)
    (a9 : PySem.W.nsIn K mainGlobals "first_failing" = some (some (.ref f9))) (l9 : K.lookup f9 = some ⟨oc9, od9, .func (PySem.W.fnOf "first_failing" "first_failing" (defArgs s_first_failing) (defBody s_first_failing) (defScope s_first_failing) .none kV9 dc9 pm9 an9 cd9 ct9), sl9⟩) (q9 : PySem.W.codeIn K cd9 "first_failing" = true) (k9 : PySem.W.keepIn K (.ref f9) = true)
    (a10 : PySem.W.nsIn K mainGlobals "fails" = some (some (.ref f10))) (l10 : K.lookup f10 = some ⟨oc10, od10, .func (PySem.W.fnOf "fails" "fails" (defArgs s_fails) (defBody s_fails) (defScope s_fails) .none kV10 dc10 pm10 an10 cd10 ct10), sl10⟩) (q10 : PySem.W.codeIn K cd10 "fails" = true) (k10 : PySem.W.keepIn K (.ref f10) = true)
    (a11 : PySem.W.nsIn K mainGlobals "_law_cell_at" = some (some (.ref f11))) (l11 : K.lookup f11 = some ⟨oc11, od11, .func (PySem.W.fnOf "_law_cell_at" "_law_cell_at" (defArgs s_law_cell_at) (defBody s_law_cell_at) (defScope s_law_cell_at) .none kV11 dc11 pm11 an11 cd11 ct11), sl11⟩) (q11 : PySem.W.codeIn K cd11 "_law_cell_at" = true) (k11 : PySem.W.keepIn K (.ref f11) = true)
    (a12 : PySem.W.nsIn K mainGlobals "_law_mixed" = some (some (.ref f12))) (l12 : K.lookup f12 = some ⟨oc12, od12, .func (PySem.W.fnOf "_law_mixed" "_law_mixed" (defArgs s_law_mixed) (defBody s_law_mixed) (defScope s_law_mixed) .none kV12 dc12 pm12 an12 cd12 ct12), sl12⟩) (q12 : PySem.W.codeIn K cd12 "_law_mixed" = true) (k12 : PySem.W.keepIn K (.ref f12) = true)
    (a13 : PySem.W.nsIn K mainGlobals "_law_drawn" = some (some (.ref f13))) (l13 : K.lookup f13 = some ⟨oc13, od13, .func (PySem.W.fnOf "_law_drawn" "_law_drawn" (defArgs s_law_drawn) (defBody s_law_drawn) (defScope s_law_drawn) .none kV13 dc13 pm13 an13 cd13 ct13), sl13⟩) (q13 : PySem.W.codeIn K cd13 "_law_drawn" = true) (k13 : PySem.W.keepIn K (.ref f13) = true)
    (a14 : PySem.W.nsIn K mainGlobals "_law_swap" = some (some (.ref f14))) (l14 : K.lookup f14 = some ⟨oc14, od14, .func (PySem.W.fnOf "_law_swap" "_law_swap" (defArgs s_law_swap) (defBody s_law_swap) (defScope s_law_swap) .none kV14 dc14 pm14 an14 cd14 ct14), sl14⟩) (q14 : PySem.W.codeIn K cd14 "_law_swap" = true) (k14 : PySem.W.keepIn K (.ref f14) = true)
    (a15 : PySem.W.nsIn K mainGlobals "_law_bubble" = some (some (.ref f15))) (l15 : K.lookup f15 = some ⟨oc15, od15, .func (PySem.W.fnOf "_law_bubble" "_law_bubble" (defArgs s_law_bubble) (defBody s_law_bubble) (defScope s_law_bubble) .none kV15 dc15 pm15 an15 cd15 ct15), sl15⟩) (q15 : PySem.W.codeIn K cd15 "_law_bubble" = true) (k15 : PySem.W.keepIn K (.ref f15) = true)
    (a16 : PySem.W.nsIn K mainGlobals "_law_net" = some (some (.ref f16))) (l16 : K.lookup f16 = some ⟨oc16, od16, .func (PySem.W.fnOf "_law_net" "_law_net" (defArgs s_law_net) (defBody s_law_net) (defScope s_law_net) .none kV16 dc16 pm16 an16 cd16 ct16), sl16⟩) (q16 : PySem.W.codeIn K cd16 "_law_net" = true) (k16 : PySem.W.keepIn K (.ref f16) = true)
    (a17 : PySem.W.nsIn K mainGlobals "_law_row" = some (some (.ref f17))) (l17 : K.lookup f17 = some ⟨oc17, od17, .func (PySem.W.fnOf "_law_row" "_law_row" (defArgs s_law_row) (defBody s_law_row) (defScope s_law_row) .none kV17 dc17 pm17 an17 cd17 ct17), sl17⟩) (q17 : PySem.W.codeIn K cd17 "_law_row" = true) (k17 : PySem.W.keepIn K (.ref f17) = true)
    (a18 : PySem.W.nsIn K mainGlobals "_law_run" = some (some (.ref f18))) (l18 : K.lookup f18 = some ⟨oc18, od18, .func (PySem.W.fnOf "_law_run" "_law_run" (defArgs s_law_run) (defBody s_law_run) (defScope s_law_run) .none kV18 dc18 pm18 an18 cd18 ct18), sl18⟩) (q18 : PySem.W.codeIn K cd18 "_law_run" = true) (k18 : PySem.W.keepIn K (.ref f18) = true)
    (a19 : PySem.W.nsIn K mainGlobals "_law_orders" = some (some (.ref f19))) (l19 : K.lookup f19 = some ⟨oc19, od19, .func (PySem.W.fnOf "_law_orders" "_law_orders" (defArgs s_law_orders) (defBody s_law_orders) (defScope s_law_orders) .none kV19 dc19 pm19 an19 cd19 ct19), sl19⟩) (q19 : PySem.W.codeIn K cd19 "_law_orders" = true) (k19 : PySem.W.keepIn K (.ref f19) = true)
    (a20 : PySem.W.nsIn K mainGlobals "law" = some (some (.ref f20))) (l20 : K.lookup f20 = some ⟨oc20, od20, .func (PySem.W.fnOf "law" "law" (defArgs s_law) (defBody s_law) (defScope s_law) .none kV20 dc20 pm20 an20 cd20 ct20), sl20⟩) (q20 : PySem.W.codeIn K cd20 "law" = true) (k20 : PySem.W.keepIn K (.ref f20) = true)
    (z0 : PySem.W.nsIn K mainGlobals "all" = some none)
    (z1 : PySem.W.nsIn K mainGlobals "enumerate" = some none)
    (z2 : PySem.W.nsIn K mainGlobals "int" = some none)
    (z3 : PySem.W.nsIn K mainGlobals "len" = some none)
    (z4 : PySem.W.nsIn K mainGlobals "list" = some none)
    (z5 : PySem.W.nsIn K mainGlobals "max" = some none)
    (z6 : PySem.W.nsIn K mainGlobals "min" = some none)
    (z7 : PySem.W.nsIn K mainGlobals "range" = some none)
    (z8 : PySem.W.nsIn K mainGlobals "sorted" = some none)
    (z9 : PySem.W.nsIn K mainGlobals "tuple" = some none)
    (z10 : PySem.W.nsIn K mainGlobals "zip" = some none) :
    ∃ fd : FuncData, (∀ (s : Shared) (v : Value), BindsTo s fd ⟨[v], []⟩ [("_law_script", v)]) ∧ ∀ base : Heap, K.In base → base.Ns mainGlobals mg → FnOk l.prog w K mg base CX0 5 fa fd ["_law_script"] (spLaw K) := by
  have e := hfa.symm.trans (PySem.W.mg_of X G a20)
  cases e
  have T : Txt mg  := ⟨PySem.W.mg_none_of X G z0, PySem.W.mg_none_of X G z1, PySem.W.mg_none_of X G z2, PySem.W.mg_none_of X G z3, PySem.W.mg_none_of X G z4, PySem.W.mg_none_of X G z5, PySem.W.mg_none_of X G z6, PySem.W.mg_none_of X G z7, PySem.W.mg_none_of X G z8, PySem.W.mg_none_of X G z9, PySem.W.mg_none_of X G z10⟩
  have F0 := fun_mk (st := s_swapped) l0 q0 k0
  have b0 := F0.binds (ps := ["row", "one", "other"]) fun _ _ _ _ _ _ us hl => match us, hl with | [_, _, _], _ => rfl
  have F1 := fun_mk (st := s_run) l1 q1 k1
  have b1 := F1.binds (ps := ["net", "row"]) fun _ _ _ _ _ _ us hl => match us, hl with | [_, _], _ => rfl
  have F2 := fun_mk (st := s_plain_rows) l2 q2 k2
  have b2 := F2.binds (ps := ["wide"]) fun _ _ _ _ _ _ us hl => match us, hl with | [_], _ => rfl
  have F3 := fun_mk (st := s_settled) l3 q3 k3
  have b3 := F3.binds (ps := ["net", "wide"]) fun _ _ _ _ _ _ us hl => match us, hl with | [_, _], _ => rfl
  have F4 := fun_mk (st := s_orders) l4 q4 k4
  have b4 := F4.binds (ps := ["wide"]) fun _ _ _ _ _ _ us hl => match us, hl with | [_], _ => rfl
  have F5 := fun_mk (st := s_reached) l5 q5 k5
  have b5 := F5.binds (ps := ["net", "wide", "line"]) fun _ _ _ _ _ _ us hl => match us, hl with | [_, _, _], _ => rfl
  have F6 := fun_mk (st := s_count_put_in_order) l6 q6 k6
  have b6 := F6.binds (ps := ["net", "wide"]) fun _ _ _ _ _ _ us hl => match us, hl with | [_, _], _ => rfl
  have F7 := fun_mk (st := s_undone) l7 q7 k7
  have b7 := F7.binds (ps := ["net", "wide"]) fun _ _ _ _ _ _ us hl => match us, hl with | [_, _], _ => rfl
  have F8 := fun_mk (st := s_in_order) l8 q8 k8
  have b8 := F8.binds (ps := ["row"]) fun _ _ _ _ _ _ us hl => match us, hl with | [_], _ => rfl
  have F9 := fun_mk (st := s_first_failing) l9 q9 k9
  have b9 := F9.binds (ps := ["net", "rows"]) fun _ _ _ _ _ _ us hl => match us, hl with | [_, _], _ => rfl
  have F10 := fun_mk (st := s_fails) l10 q10 k10
  have b10 := F10.binds (ps := ["net", "wide"]) fun _ _ _ _ _ _ us hl => match us, hl with | [_, _], _ => rfl
  have F11 := fun_mk (st := s_law_cell_at) l11 q11 k11
  have b11 := F11.binds (ps := ["_law_script", "_law_k"]) fun _ _ _ _ _ _ us hl => match us, hl with | [_, _], _ => rfl
  have F12 := fun_mk (st := s_law_mixed) l12 q12 k12
  have b12 := F12.binds (ps := ["_law_script", "_law_k"]) fun _ _ _ _ _ _ us hl => match us, hl with | [_, _], _ => rfl
  have F13 := fun_mk (st := s_law_drawn) l13 q13 k13
  have b13 := F13.binds (ps := ["_law_number", "_law_k"]) fun _ _ _ _ _ _ us hl => match us, hl with | [_, _], _ => rfl
  have F14 := fun_mk (st := s_law_swap) l14 q14 k14
  have b14 := F14.binds (ps := ["_law_number", "_law_wide"]) fun _ _ _ _ _ _ us hl => match us, hl with | [_, _], _ => rfl
  have F15 := fun_mk (st := s_law_bubble) l15 q15 k15
  have b15 := F15.binds (ps := ["_law_wide"]) fun _ _ _ _ _ _ us hl => match us, hl with | [_], _ => rfl
  have F16 := fun_mk (st := s_law_net) l16 q16 k16
  have b16 := F16.binds (ps := ["_law_number", "_law_wide", "_law_most"]) fun _ _ _ _ _ _ us hl => match us, hl with | [_, _, _], _ => rfl
  have F17 := fun_mk (st := s_law_row) l17 q17 k17
  have b17 := F17.binds (ps := ["_law_script", "_law_at", "_law_wide", "_law_number"]) fun _ _ _ _ _ _ us hl => match us, hl with | [_, _, _, _], _ => rfl
  have F18 := fun_mk (st := s_law_run) l18 q18 k18
  have b18 := F18.binds (ps := ["_law_net_here", "_law_row_here"]) fun _ _ _ _ _ _ us hl => match us, hl with | [_, _], _ => rfl
  have F19 := fun_mk (st := s_law_orders) l19 q19 k19
  have b19 := F19.binds (ps := ["_law_wide"]) fun _ _ _ _ _ _ us hl => match us, hl with | [_], _ => rfl
  have F20 := fun_mk (st := s_law) l20 q20 k20
  have b20 := F20.binds (ps := ["_law_script"]) fun _ _ _ _ _ _ us hl => match us, hl with | [_], _ => rfl
  refine ⟨PySem.W.fnOf "law" "law" (defArgs s_law) (defBody s_law) (defScope s_law) .none kV20 dc20 pm20 an20 cd20 ct20, fun s v => .of_eq rfl, fun base _ _ => ?_⟩
  have c_swapped := c_swapped (P := l.prog) (w := w) (base := base) T F0 (PySem.W.mg_of X G a0) b0
  have c_run := c_run (P := l.prog) (w := w) (base := base) T F1 (PySem.W.mg_of X G a1) b1 c_swapped
  have c_plain_rows := c_plain_rows (P := l.prog) (w := w) (base := base) T F2 (PySem.W.mg_of X G a2) b2
  have c_settled := c_settled (P := l.prog) (w := w) (base := base) T F3 (PySem.W.mg_of X G a3) b3 c_plain_rows c_run
  have c_orders := c_orders (P := l.prog) (w := w) (base := base) T F4 (PySem.W.mg_of X G a4) b4
  have c_reached := c_reached (P := l.prog) (w := w) (base := base) T F5 (PySem.W.mg_of X G a5) b5 c_orders c_run
  have c_count_put_in_order := c_count_put_in_order (P := l.prog) (w := w) (base := base) T F6 (PySem.W.mg_of X G a6) b6 c_orders c_run
  have c_undone := c_undone (P := l.prog) (w := w) (base := base) T F7 (PySem.W.mg_of X G a7) b7 c_orders c_run
  have c_in_order := c_in_order (P := l.prog) (w := w) (base := base) T F8 (PySem.W.mg_of X G a8) b8
  have c_first_failing := c_first_failing (P := l.prog) (w := w) (base := base) T F9 (PySem.W.mg_of X G a9) b9 c_in_order c_run
  have c_fails := c_fails (P := l.prog) (w := w) (base := base) T F10 (PySem.W.mg_of X G a10) b10 c_first_failing c_plain_rows
  have c_law_cell_at := c_law_cell_at (P := l.prog) (w := w) (base := base) T F11 (PySem.W.mg_of X G a11) b11
  have c_law_mixed := c_law_mixed (P := l.prog) (w := w) (base := base) T F12 (PySem.W.mg_of X G a12) b12 c_law_cell_at
  have c_law_drawn := c_law_drawn (P := l.prog) (w := w) (base := base) T F13 (PySem.W.mg_of X G a13) b13
  have c_law_swap := c_law_swap (P := l.prog) (w := w) (base := base) T F14 (PySem.W.mg_of X G a14) b14
  have c_law_bubble := c_law_bubble (P := l.prog) (w := w) (base := base) T F15 (PySem.W.mg_of X G a15) b15
  have c_law_net := c_law_net (P := l.prog) (w := w) (base := base) T F16 (PySem.W.mg_of X G a16) b16 c_law_swap c_law_drawn c_law_bubble
  have c_law_row := c_law_row (P := l.prog) (w := w) (base := base) T F17 (PySem.W.mg_of X G a17) b17 c_law_cell_at c_law_drawn
  have c_law_run := c_law_run (P := l.prog) (w := w) (base := base) T F18 (PySem.W.mg_of X G a18) b18
  have c_law_orders := c_law_orders (P := l.prog) (w := w) (base := base) T F19 (PySem.W.mg_of X G a19) b19
  exact law_fn T F20 c_law_mixed c_law_net c_law_row c_run c_law_orders c_law_run c_reached c_settled c_count_put_in_order c_undone c_fails
end Lw
open PySem PySem.W PyProof.Rows
set_option maxHeartbeats 0 in
theorem PySem.Challenge.cw_swapyard_k60_whole_settled_lines_holds : PySem.Challenge.rw_swapyard_k60_whole_settled_lines.Holds := by
  w_on; o_law; k_head; (case hw => w_witness2)
  k_fill
  refine L2.walk_of (l := PySem.Challenge.rw_swapyard_k60_whole_settled_lines) (n := 63) (k := 5) (x := "_law_script") (CX := fun _ => L2.CX0) (sp := fun w => Lw.spLaw _) rfl (by decide) rfl ⟨rfl, by decide, by decide⟩ (fun w h Y => PySem.W.kIn_of Y) ?F (fun _ _ a ns hl _ hS => Dv.law_sp Lw.law_true hS hl) (fun _ _ _ _ _ h => h)
  case F =>
    intro w mg fa h KX G hmg
    refine' Lw.all_mk KX G hmg ?a0 ?l0 ?q0 ?k0 ?a1 ?l1 ?q1 ?k1 ?a2 ?l2 ?q2 ?k2 ?a3 ?l3 ?q3 ?k3 ?a4 ?l4 ?q4 ?k4 ?a5 ?l5 ?q5 ?k5 ?a6 ?l6 ?q6 ?k6 ?a7 ?l7 ?q7 ?k7 ?a8 ?l8 ?q8 ?k8 ?a9 ?l9 ?q9 ?k9 ?a10 ?l10 ?q10 ?k10 ?a11 ?l11 ?q11 ?k11 ?a12 ?l12 ?q12 ?k12 ?a13 ?l13 ?q13 ?k13 ?a14 ?l14 ?q14 ?k14 ?a15 ?l15 ?q15 ?k15 ?a16 ?l16 ?q16 ?k16 ?a17 ?l17 ?q17 ?k17 ?a18 ?l18 ?q18 ?k18 ?a19 ?l19 ?q19 ?k19 ?a20 ?l20 ?q20 ?k20 ?z0 ?z1 ?z2 ?z3 ?z4 ?z5 ?z6 ?z7 ?z8 ?z9 ?z10
    (case a0 => k_is)
    (case l0 => k_is)
    (case q0 => k_is)
    (case k0 => k_is)
    (case a1 => k_is)
    (case l1 => k_is)
    (case q1 => k_is)
    (case k1 => k_is)
    (case a2 => k_is)
    (case l2 => k_is)
    (case q2 => k_is)
    (case k2 => k_is)
    (case a3 => k_is)
    (case l3 => k_is)
    (case q3 => k_is)
    (case k3 => k_is)
    (case a4 => k_is)
    (case l4 => k_is)
    (case q4 => k_is)
    (case k4 => k_is)
    (case a5 => k_is)
    (case l5 => k_is)
    (case q5 => k_is)
    (case k5 => k_is)
    (case a6 => k_is)
    (case l6 => k_is)
    (case q6 => k_is)
    (case k6 => k_is)
    (case a7 => k_is)
    (case l7 => k_is)
    (case q7 => k_is)
    (case k7 => k_is)
    (case a8 => k_is)
    (case l8 => k_is)
    (case q8 => k_is)
    (case k8 => k_is)
    (case a9 => k_is)
    (case l9 => k_is)
    (case q9 => k_is)
    (case k9 => k_is)
    (case a10 => k_is)
    (case l10 => k_is)
    (case q10 => k_is)
    (case k10 => k_is)
    (case a11 => k_is)
    (case l11 => k_is)
    (case q11 => k_is)
    (case k11 => k_is)
    (case a12 => k_is)
    (case l12 => k_is)
    (case q12 => k_is)
    (case k12 => k_is)
    (case a13 => k_is)
    (case l13 => k_is)
    (case q13 => k_is)
    (case k13 => k_is)
    (case a14 => k_is)
    (case l14 => k_is)
    (case q14 => k_is)
    (case k14 => k_is)
    (case a15 => k_is)
    (case l15 => k_is)
    (case q15 => k_is)
    (case k15 => k_is)
    (case a16 => k_is)
    (case l16 => k_is)
    (case q16 => k_is)
    (case k16 => k_is)
    (case a17 => k_is)
    (case l17 => k_is)
    (case q17 => k_is)
    (case k17 => k_is)
    (case a18 => k_is)
    (case l18 => k_is)
    (case q18 => k_is)
    (case k18 => k_is)
    (case a19 => k_is)
    (case l19 => k_is)
    (case q19 => k_is)
    (case k19 => k_is)
    (case a20 => k_is)
    (case l20 => k_is)
    (case q20 => k_is)
    (case k20 => k_is)
    (case z0 => k_is)
    (case z1 => k_is)
    (case z2 => k_is)
    (case z3 => k_is)
    (case z4 => k_is)
    (case z5 => k_is)
    (case z6 => k_is)
    (case z7 => k_is)
    (case z8 => k_is)
    (case z9 => k_is)
    (case z10 => k_is)
