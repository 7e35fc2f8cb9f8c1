import PyProof.Rows.All
import Wide.All
import OpenK.AllK
import Wide.FinOn
import HandS.ForExc
import HandS.Comp
import HandS.Conv
import HandS.TupAny
import HandS.Strs
import HandS.Iter
import HandS.ExcSuper
import HandS.ExcField
import HandS.TryMany
import HandS.IsInst
import HandS.Wide
import HandS.Deep
import HandS.Style
import HandS.SortInts
import HandS.Defaults
import HandS.Head0
import HandS.Head1
import HandS.Head2
import HandS.HeadEnd
import HandS.HeadHook1
import HandS.HeadHook2
import KE.KExcSuper
import HandS.TupSets
import HandS.TupMul
import PyProof.StrOps2
import HandS.SetFor
import HandS.Dict
import HandS.Small
import HandS.More
import HandS.TupLen
import HandS.WordsDict
import KE.KDictDisplayH
import HandS.Text
import HandS.Replace
import PyProof.ListNew
import PyProof.EnumIter
import PyProof.EnumStmt
import PyProof.Rows.TupIter
import KE.KItemsList
import PySem.Challenge.RW_reesblocks_k00_equivalences
set_option Elab.async false
set_option linter.all false
set_option maxRecDepth 100000
set_option maxHeartbeats 8000000
/-! Tuples made at run time whose object is kept (its dict is none), and what asks for it: tuple.index. -/
namespace DL
open PySem PySem.Spec PyProof.Rows L2
abbrev KnO (o : Obj) : Prop := o.cls = .type "tuple" ∧ o.dict = none
section
variable {X : Cx}
theorem laidK {pins : List (Addr × Obj)} {σ : L2.St} {H : Hp} {s : Shared} {h' : Heap} {tk : Nat} {xs : List V} {its : List Value} (I : Inv X pins σ H s) (hk : ∀ b ob, s.heap.get? b = some ob → (h'.push { cls := .type "tuple", data := .seq its.toArray }).get? b = some ob) (hl : s.heap.objs.size ≤ h'.objs.size)
    (hz : xs.length ≤ sizeLine) (r : Vals xs its) : Inv X pins σ (upd H h'.objs.size (.frz { cls := .type "tuple", data := .seq its.toArray } (.tup xs))) { s with heap := h'.push { cls := .type "tuple", data := .seq its.toArray }, toks := tk } :=
  I.laid (t' := tk) hk hl ⟨Heap.get?_push_size _ rfl, hz, its, r, IsTup.new _ _⟩
def rCatK (K : PySem.W.Frag) : R2 := fun x y H Q => ∃ a b xs ys, x = .ref a ∧ y = .ref b ∧ SqT K H a xs ∧ SqT K H b ys ∧ xs.length + ys.length ≤ sizeLine ∧
  (xs = [] → Q (.ref b) H) ∧ (xs ≠ [] → ys = [] → Q (.ref a) H) ∧ (xs ≠ [] → ys ≠ [] → ∀ p o, H p = none → KnO o → Q (.ref p) (upd H p (.frz o (.tup (xs ++ ys)))))
theorem op_catK : OpR X (binaryOp .Add) (rCatK X.K) := by
  intro pins s σ H x y v u Q I rx ry h
  obtain ⟨a, b, xs, ys, rfl, rfl, ha, hb, hz, q0, q1, q2⟩ := h
  by_cases hx : xs = []
  · exact op_catA pins s σ H _ _ v u Q I rx ry ⟨a, b, xs, ys, rfl, rfl, ha, hb, hz, q0, q1, fun z => absurd hx z⟩
  · cases rx
    cases ry
    obtain ⟨its, r1, p1, _⟩ := I.tuple ha
    obtain ⟨its2, r2, p2, _⟩ := I.tuple hb
    refine HT.cat_tup p1 p2 (fun z => hx (r1.nil_iff.mp z)) (fun z => ⟨.ref a, H, I, rfl, q1 hx (r2.nil_iff.mp z)⟩) (fun z => ?_) (by rw [← r1.length, ← r2.length]; exact hz)
    exact ⟨.ref s.heap.objs.size, _, laidK I (fun b ob q => Heap.get?_push_of_some _ q) (Nat.le_refl _) (by rw [List.length_append]; exact hz) (r1.append r2), rfl, q2 hx (fun w => z (r2.nil_iff.mpr w)) _ _ (I.hok.fresh (Nat.le_refl _)) ⟨rfl, rfl⟩⟩
theorem call_tupleK : CallR X (.type "tuple") (fun xs H Q => ∃ p ys, xs = [.ref p] ∧ ((SqL X.K H p ys ∧ ∀ l o, H l = none → KnO o → Q (.ref l) (upd H l (.frz o (.tup ys)))) ∨ (SqT X.K H p ys ∧ Q (.ref p) H))) := by
  intro pins s σ H xs us Q I r h
  obtain ⟨p, ys, rfl, h⟩ := h
  rcases h with ⟨hq, q⟩ | ⟨hq, q⟩
  · obtain ⟨u, rfl, rx⟩ := vals1 r
    cases rx
    obtain ⟨its, r', pl, hz⟩ := I.list hq
    have hlen := r'.length
    refine call_tuple_list pl.isList (fun h' kp => ?_) (by simp only [List.size_toArray] <;> omega)
    have I1 : Inv X pins σ H { s with heap := h' } := I.kept (t' := s.toks) kp
    exact ⟨.ref h'.objs.size, _, laidK (s := { s with heap := h' }) (tk := s.toks) I1 (fun b o e => Heap.get?_push_of_some _ e) (Nat.le_refl _) hz r', rfl, q _ _ (I1.hok.fresh (Nat.le_refl _)) ⟨rfl, rfl⟩⟩
  · exact call_tuple_of pins s σ H _ us Q I r ⟨p, ys, rfl, .inr ⟨hq, q⟩⟩
def rSlK (K : PySem.W.Frag) : V → Option Int → Option Int → Hp → VK → Prop := fun x lo hi H Q => ∃ a xs, x = .ref a ∧ SqT K H a xs ∧
  (HT.sIx xs.length 0 lo = 0 ∧ HT.sIx xs.length xs.length hi = xs.length → Q (.ref a) H) ∧ (¬ (HT.sIx xs.length 0 lo = 0 ∧ HT.sIx xs.length xs.length hi = xs.length) → ∀ p o, H p = none → KnO o → Q (.ref p) (upd H p (.frz o (.tup (cutV xs lo hi)))))
theorem sl_tupK : SlR X (rSlK X.K) := by
  intro pins s σ H x v vl vu lo hi sl Q I rx hs pl pu h
  obtain ⟨a, xs, rfl, hx, q1, q2⟩ := h
  by_cases hw : HT.sIx xs.length 0 lo = 0 ∧ HT.sIx xs.length xs.length hi = xs.length
  · exact sl_tupA pins s σ H _ v vl vu lo hi sl Q I rx hs pl pu ⟨a, xs, rfl, hx, q1, fun z => absurd hw z⟩
  · cases rx
    obtain ⟨its, r, ht, hz⟩ := I.tuple hx
    have hlen : its.toArray.size = xs.length := by rw [List.size_toArray]; exact r.length.symm
    refine ⟨"tuple", _, PyProof.Rows.slot_tuple_getitem.lookup, ht.typeIs, ?_⟩
    refine HT.getItem_tuple_cut ht hs pl pu (by rw [hlen]; exact hw) ?_ (by rw [hlen]; exact hz)
    rw [hlen]
    exact ⟨.ref s.heap.objs.size, _, laidK I (fun b ob q => Heap.get?_push_of_some _ q) (Nat.le_refl _) (Nat.le_trans (cutV_length xs lo hi) hz) ((r.drop (HT.sIx xs.length 0 lo)).take (HT.sIx xs.length xs.length hi - HT.sIx xs.length 0 lo)), rfl, q2 hw _ _ (I.hok.fresh (Nat.le_refl _)) ⟨rfl, rfl⟩⟩
/-! what is known of a tuple -/
def KnT (K : PySem.W.Frag) (H : Hp) (a : Addr) : Prop := (∃ o u, H a = some (.frz o u) ∧ KnO o) ∨ ∃ o, K.lookup a = some o ∧ KnO o
theorem KnT.mono {K : PySem.W.Frag} {H H' : Hp} {a : Addr} (e : Same H H') (h : KnT K H a) : KnT K H' a := by
  rcases h with ⟨o, u, h, k⟩ | h
  · exact .inl ⟨o, u, e _ _ h, k⟩
  · exact .inr h
theorem KnT.new {K : PySem.W.Frag} {H : Hp} {p : Addr} {o : Obj} {u : HO} (k : KnO o) : KnT K (upd H p (.frz o u)) p := .inl ⟨o, u, upd_same, k⟩
theorem KnT.is {pins : List (Addr × Obj)} {σ : L2.St} {H : Hp} {s : Shared} {a : Addr} (I : Inv X pins σ H s) (h : KnT X.K H a) : s.TypeIs (.ref a) "tuple" ∧ ∃ ob, s.heap.get? a = some ob ∧ ob.dict = none := by
  rcases h with ⟨o, u, h, k⟩ | ⟨o, h, k⟩
  · obtain ⟨g, _⟩ := I.hok a _ h
    exact ⟨⟨o, g, k.1⟩, o, g, k.2⟩
  · have g := I.kIn a o h
    exact ⟨⟨o, g, k.1⟩, o, g, k.2⟩
/-- t.index(x), flat items -/
def rIndexT (K : PySem.W.Frag) : V → List V → Hp → VK → Prop := fun x xs H Q => ∃ (a : Addr) (ys : List V) (y : V) (j : Nat) (z : V), x = V.ref a ∧ xs = [y] ∧ SqT K H a ys ∧ flatV y = true ∧ ys.all flatV = true ∧ ys[j]? = some z ∧ eqV z y = true ∧
  (∀ (m : Nat) (z' : V), m < j → ys[m]? = some z' → eqV z' y = false) ∧ Q (.int (j : Nat)) H
theorem mt_indexT : MtR X "tuple.index" (rIndexT X.K) := by
  intro pins s σ H x xs v us Q I rx rxs h
  obtain ⟨a, ys, y, j, z, rfl, rfl, hs, fy, fys, hz, hzj, hno, q⟩ := h
  cases rx
  cases rxs with
  | cons ry rt =>
    rename_i uy ut
    cases rt
    obtain ⟨its, rv, ⟨⟨cls, dd, data, sl⟩, ho, hc, n, hd⟩, hlen⟩ := I.tuple hs
    simp only at hc hd
    subst hc hd
    obtain ⟨u, hu, ru⟩ := rv.get hz
    obtain ⟨hjl, hje⟩ := List.getElem?_eq_some_iff.mp hu
    have hvl := rv.length
    have hj : j < its.toArray.size := by simpa using hjl
    refine call_meets PySem.F.slot_tuple_index ⟨_, ho, rfl⟩ PySem.F.entry_tuple_index (PySem.F.args_tuple_index_2 _ _)
      (TI.tuple_indexAt a its.toArray n dd sl uy (eqU y) j hj ?_ ?_) ⟨ho, fun u' hu' => mem_eqAt ry fy rv fys u' (by simpa using hu'), ⟨.int (j : Nat), H, I.tok _, ⟨_, rfl⟩, q⟩⟩
    · have e1 : its.toArray[j] = u := by simpa using hje
      rw [e1, eqU_of ru (flat_at fys hz)]
      exact hzj
    · intro m hm hmj
      have hml : m < its.length := by simpa using hm
      have hmy : m < ys.length := by omega
      have hy' : ys[m]? = some ys[m] := List.getElem?_eq_getElem hmy
      obtain ⟨u2, hu2, ru2⟩ := rv.get hy'
      have e2 : its.toArray[m] = u2 := by
        rw [List.getElem?_eq_getElem hml] at hu2
        simpa using hu2
      rw [e2, eqU_of ru2 (flat_at fys hy')]
      exact hno m _ hmj hy'
/-! both ways -/
def NewT (H : Hp) (Q : VK) (xs : List V) : Prop := (∀ p, H p = none → Q (.ref p) (upd H p (.tup xs))) ∨ (∀ p o, H p = none → KnO o → Q (.ref p) (upd H p (.frz o (.tup xs))))
def rCatN (K : PySem.W.Frag) : R2 := fun x y H Q => ∃ a b xs ys, x = .ref a ∧ y = .ref b ∧ SqT K H a xs ∧ SqT K H b ys ∧ xs.length + ys.length ≤ sizeLine ∧
  (xs = [] → Q (.ref b) H) ∧ (xs ≠ [] → ys = [] → Q (.ref a) H) ∧ (xs ≠ [] → ys ≠ [] → NewT H Q (xs ++ ys))
theorem op_catN : OpR X (binaryOp .Add) (rCatN X.K) := by
  intro pins s σ H x y v u Q I rx ry h
  obtain ⟨a, b, xs, ys, rfl, rfl, ha, hb, hz, q0, q1, q2⟩ := h
  by_cases hx : xs = []
  · exact op_catA pins s σ H _ _ v u Q I rx ry ⟨a, b, xs, ys, rfl, rfl, ha, hb, hz, q0, q1, fun z => absurd hx z⟩
  by_cases hy : ys = []
  · exact op_catA pins s σ H _ _ v u Q I rx ry ⟨a, b, xs, ys, rfl, rfl, ha, hb, hz, q0, q1, fun _ z => absurd hy z⟩
  rcases q2 hx hy with q | q
  · exact op_catA pins s σ H _ _ v u Q I rx ry ⟨a, b, xs, ys, rfl, rfl, ha, hb, hz, q0, q1, fun _ _ => q⟩
  · exact op_catK pins s σ H _ _ v u Q I rx ry ⟨a, b, xs, ys, rfl, rfl, ha, hb, hz, q0, q1, fun _ _ => q⟩
def rTupN (K : PySem.W.Frag) : List V → Hp → VK → Prop := fun xs H Q => ∃ p ys, xs = [.ref p] ∧ ((SqL K H p ys ∧ NewT H Q ys) ∨ (SqT K H p ys ∧ Q (.ref p) H))
theorem call_tupleN : CallR X (.type "tuple") (rTupN X.K) := by
  intro pins s σ H xs us Q I r h
  obtain ⟨p, ys, rfl, ⟨hq, q | q⟩ | ⟨hq, q⟩⟩ := h
  · exact call_tuple_of pins s σ H _ us Q I r ⟨p, ys, rfl, .inl ⟨hq, q⟩⟩
  · exact call_tupleK pins s σ H _ us Q I r ⟨p, ys, rfl, .inl ⟨hq, q⟩⟩
  · exact call_tuple_of pins s σ H _ us Q I r ⟨p, ys, rfl, .inr ⟨hq, q⟩⟩
def tTupN (t : TA) : TE := fun σ H Q => t σ H fun xs H1 => xs.length ≤ sizeLine ∧ NewT H1 Q xs
theorem pe_tupN {es : List Expr} {t : TA} {pos : Pos} {x1} (h : PA X es t) : PE X (.Tuple es x1 pos) (tTupN t) := by
  refine ⟨fun pins s σ H Q I hq => ?_⟩
  refine wpAny_Tuple_spliced (thn (h.run pos pins s σ H _ I hq) fun us s1 ⟨xs, H1, I1, r, z, q⟩ => ⟨by rw [← r.length]; exact z, ?_⟩)
  have hf : H1 s1.heap.objs.size = none := I1.hok.fresh (Nat.le_refl _)
  rcases q with q | q
  · refine ⟨.ref s1.heap.objs.size, upd H1 s1.heap.objs.size (.tup xs), I1.laid (t' := s1.toks) (fun b u e => Heap.get?_push_of_some _ e) (Nat.le_refl _) ?_, rfl, q _ hf⟩
    exact ⟨z, us, r, ⟨_, Heap.get?_push_size _ rfl, rfl, _, rfl⟩⟩
  · exact ⟨.ref s1.heap.objs.size, _, laidK I1 (fun b u e => Heap.get?_push_of_some _ e) (Nat.le_refl _) z r, rfl, q _ _ hf ⟨rfl, rfl⟩⟩
def rSlN (K : PySem.W.Frag) : V → Option Int → Option Int → Hp → VK → Prop := fun x lo hi H Q => ∃ a xs, x = .ref a ∧ SqT K H a xs ∧
  (HT.sIx xs.length 0 lo = 0 ∧ HT.sIx xs.length xs.length hi = xs.length → Q (.ref a) H) ∧ (¬ (HT.sIx xs.length 0 lo = 0 ∧ HT.sIx xs.length xs.length hi = xs.length) → NewT H Q (cutV xs lo hi))
theorem sl_tupN : SlR X (rSlN X.K) := by
  intro pins s σ H x v vl vu lo hi sl Q I rx hs pl pu h
  obtain ⟨a, xs, rfl, hx, q1, q2⟩ := h
  by_cases hw : HT.sIx xs.length 0 lo = 0 ∧ HT.sIx xs.length xs.length hi = xs.length
  · exact sl_tupA pins s σ H _ v vl vu lo hi sl Q I rx hs pl pu ⟨a, xs, rfl, hx, q1, fun z => absurd hw z⟩
  rcases q2 hw with q | q
  · exact sl_tupA pins s σ H _ v vl vu lo hi sl Q I rx hs pl pu ⟨a, xs, rfl, hx, q1, fun _ => q⟩
  · exact sl_tupK pins s σ H _ v vl vu lo hi sl Q I rx hs pl pu ⟨a, xs, rfl, hx, q1, fun _ => q⟩
def tTupRgN (te : L2.St → Hp → (Int → Int → Hp → Prop) → Prop) : TE := fun σ H Q => te σ H fun a b H1 => RgOk a b ∧ NewT H1 Q (rgV a b)
theorem pe_tupRgN {e : Expr} {te : L2.St → Hp → (Int → Int → Hp → Prop) → Prop} {p pos : Pos} (hc : X.calm = true) (hg : Gl X "tuple") (hm : X.mg "tuple" = none) (he : PRg X e te) (na : starEach [e] X.env = (false, eval e X.env) :: starEach [] X.env := by rfl) : PE X (.Call (.Name "tuple" p) [e] [] pos) (tTupRgN te) := by
  refine ⟨fun pins s σ H Q I h => ?_⟩
  refine Call_ (ld_blt I hg hm boot_tuple (PyProof.Rows.callWith_type1 (args_cons (thn (he pins s σ H _ I h) fun x s1 ⟨r, a, b, t, u, v, H1, ex, hr, I1, ok, q⟩ => args_nil ?_) na) na))
  subst ex
  obtain ⟨b1, b2, b3, b4, b5⟩ := ok
  refine call_tuple_range (n := (b - a).toNat) (I1.ok.hd hc) hr (small_one b1 b2 b3 b4) (rangeSize_nat a b) b5 fun h' tk acc hk hi => ?_
  have I2 : Inv X pins σ H1 { s1 with heap := h', toks := tk } := I1.kept hk
  have hz : (rgV a b).length ≤ sizeLine := by rw [rgV_length, sizeLine_eq]; omega
  rcases q with q | q
  · refine ⟨.ref h'.objs.size, upd H1 h'.objs.size (.tup (rgV a b)), I2.laid (t' := tk) (fun c o e => Heap.get?_push_of_some _ e) (Nat.le_refl _) (show ObjOk X.prog X.w _ _ _ (.tup (rgV a b)) from ⟨hz, acc.toList, vals_rg hi, ?_⟩), rfl, q _ (I2.hok.fresh (Nat.le_refl _))⟩
    rw [Array.toArray_toList]; exact IsTup.new _ _
  · have := laidK (s := { s1 with heap := h', toks := tk }) (tk := tk) (its := acc.toList) I2 (fun c o e => Heap.get?_push_of_some _ e) (Nat.le_refl _) hz (vals_rg hi)
    rw [Array.toArray_toList] at this
    exact ⟨.ref h'.objs.size, _, this, rfl, q _ _ (I2.hok.fresh (Nat.le_refl _)) ⟨rfl, rfl⟩⟩
/-- o.m(..), o a list or a known tuple -/
def tBMA (K : PySem.W.Frag) (r r' : V → List V → Hp → VK → Prop) (to : TE) (t : TA) : TE := fun σ H Q => to σ H fun x H1 => (tyV K "list" x H1 ∧ t σ H1 fun xs H2 => r x xs H2 Q) ∨ ((∃ a, x = .ref a ∧ KnT K H1 a) ∧ t σ H1 fun xs H2 => r' x xs H2 Q)
theorem pe_bmA {o e : Expr} {es : List Expr} {to : TE} {t : TA} {name : Str} {apos cpos : Pos} {id id' : String} {r r' : V → List V → Hp → VK → Prop} (pa : PlainAttrs "list") (slot : Slot "list" name id) (hty : typeOf (.builtin id) = pure (.type "method_descriptor")) (hm : MtR X id r)
    (pa' : PlainAttrs "tuple") (slot' : Slot "tuple" name id') (hty' : typeOf (.builtin id') = pure (.type "method_descriptor")) (hm' : MtR X id' r') (ho : PE X o to) (ha : PA X (e :: es) t)
    (hbase : attributeBase o name X.env (eval o X.env) = eval o X.env := by rfl)
    (hfew : ((backTo cpos (starEach (e :: es) X.env)).all (fun x => !x.1) && (backToKw cpos (keywordEach [] X.env)).all (fun x => x.1.isSome)
      && decide ((e :: es).length + ([] : List Keyword).length + (if ([] : List Keyword).isEmpty then 0 else 1) < 30)) = true := by rfl)
    (hline : (apos.endLine == cpos.line) = true := by rfl) (hs : starEach (e :: es) X.env = (false, eval e X.env) :: starEach es X.env := by rfl) (hplain : (backTo cpos (starEach es X.env)).any (·.1) = false := by rfl) :
    PE X (.Call (.Attribute o name apos) (e :: es) [] cpos) (tBMA X.K r r' to t) := by
  refine ⟨fun pins s σ H Q I h => ?_⟩
  refine wpAny_Call_method_late hbase hfew hline rfl (thn (ho.run pins s σ H _ I h) fun v s1 ⟨x, H1, I1, r1, q⟩ => ?_)
  rcases q with ⟨ty, q1⟩ | ⟨⟨a, ex, ty⟩, q1⟩
  · obtain ⟨h1, h2⟩ := tyV_is I1 r1 ty
    refine ⟨"list", id, pa, slot, hty, h1, h2, ?_⟩
    have hA := ha.run cpos pins s1 σ H1 _ I1 q1
    rw [hs] at hA ⊢
    refine Calls.callWith_builtin (by show (false || (backTo cpos (starEach es X.env)).any (·.1)) = false; rw [hplain] <;> rfl) (Calls.evalArgs_plain ?_)
    exact thn hA fun us s2 ⟨vs, H2, I2, r2, q2⟩ => hm pins s2 σ H2 x vs v us Q I2 r1 r2 q2
  · subst ex
    cases r1
    obtain ⟨h1, ob, h2, h3⟩ := ty.is I1
    refine ⟨"tuple", id', pa', slot', hty', h1, (fun b e => by cases e; exact ⟨ob, h2, h3⟩), ?_⟩
    have hA := ha.run cpos pins s1 σ H1 _ I1 q1
    rw [hs] at hA ⊢
    refine Calls.callWith_builtin (by show (false || (backTo cpos (starEach es X.env)).any (·.1)) = false; rw [hplain] <;> rfl) (Calls.evalArgs_plain ?_)
    exact thn hA fun us s2 ⟨vs, H2, I2, r2, q2⟩ => hm' pins s2 σ H2 (.ref a) vs _ us Q I2 rfl r2 q2
end
end DL

/-! Data layer: programs over immutable data (D), owned local lists; a body's meaning is a plain function of data. -/
namespace DL
open PySem PySem.Spec PyProof.Rows L2

inductive D where
  | non | bl (b : Bool) | int (i : Int) | str (x : Str)
  | lst (xs : List D) | tup (xs : List D)
  | ins (c : Str) (ns : List Str) (ds : List D)
  /-- the script -/
  | scr (ns : List Int)

structure G where
  K : PySem.W.Frag
  mg : Str → Option Value
  /-- the exception that an except suite holds: its address, class, dict -/
  xa : Option (Addr × Value × Option Addr)
  /-- are the objects of tuples known (their dicts are none) -/
  tk : Bool

/-- a tuple's object: known, or just the tuple -/
def TkP (g : G) (F : Hp) (a : Addr) (vs : List V) : Prop := match g.tk with
  | true => KnT g.K F a
  | false => F a = some (.tup vs)
theorem TkP.mono {g : G} {F F' : Hp} {a : Addr} {vs : List V} (e : Same F F') (h : TkP g F a vs) : TkP g F' a vs := by
  unfold TkP at h ⊢
  revert h
  cases g.tk with
  | true => exact fun h => KnT.mono e h
  | false => exact fun h => e _ _ h
mutual
inductive Rv (g : G) (F : Hp) : V → D → Prop
  | non : Rv g F .non .non
  | bl (b : Bool) : Rv g F (.bl b) (.bl b)
  | int (i : Int) : Rv g F (.int i) (.int i)
  | str (x : Str) : Rv g F (.str x) (.str x)
  | lst {a : Addr} {vs : List V} {ds : List D} : F a = some (.lst vs) → Rl g F vs ds → Rv g F (.ref a) (.lst ds)
  | tup {a : Addr} {vs : List V} {ds : List D} : SqT g.K F a vs → TkP g F a vs → Rl g F vs ds → Rv g F (.ref a) (.tup ds)
  | ins {a C dx : Addr} {c : Str} {ns : List Str} {vs : List V} {ds : List D} : F a = some (.ins C dx (ns.zip vs)) → g.mg c = some (.ref C) → ns.length = vs.length → Rl g F vs ds → Rv g F (.ref a) (.ins c ns ds)
  | scr {a : Addr} {ns : List Int} : SqL g.K F a (ns.map V.int) → Rv g F (.ref a) (.scr ns)
inductive Rl (g : G) (F : Hp) : List V → List D → Prop
  | nil : Rl g F [] []
  | cons {v : V} {vs : List V} {d : D} {ds : List D} : Rv g F v d → Rl g F vs ds → Rl g F (v :: vs) (d :: ds)
end

theorem sqT_mono {K : PySem.W.Frag} {F F' : Hp} {a : Addr} {xs : List V} (e : Same F F') (h : SqT K F a xs) : SqT K F' a xs := by
  rcases h with (h | ⟨o, h⟩) | h
  · exact .inl (.inl (e _ _ h))
  · exact .inl (.inr ⟨o, e _ _ h⟩)
  · exact .inr h
theorem sqL_mono {K : PySem.W.Frag} {F F' : Hp} {a : Addr} {xs : List V} (e : Same F F') (h : SqL K F a xs) : SqL K F' a xs := by
  rcases h with (h | ⟨o, h⟩) | h
  · exact .inl (.inl (e _ _ h))
  · exact .inl (.inr ⟨o, e _ _ h⟩)
  · exact .inr h
mutual
theorem Rv.mono {g : G} {F F' : Hp} (e : Same F F') : ∀ {v : V} {d : D}, Rv g F v d → Rv g F' v d
  | _, _, .non => .non
  | _, _, .bl b => .bl b
  | _, _, .int i => .int i
  | _, _, .str x => .str x
  | _, _, .lst h r => .lst (e _ _ h) (Rl.mono e r)
  | _, _, .tup h k r => .tup (sqT_mono e h) (k.mono e) (Rl.mono e r)
  | _, _, .ins h m l r => .ins (e _ _ h) m l (Rl.mono e r)
  | _, _, .scr h => .scr (sqL_mono e h)
theorem Rl.mono {g : G} {F F' : Hp} (e : Same F F') : ∀ {vs : List V} {ds : List D}, Rl g F vs ds → Rl g F' vs ds
  | _, _, .nil => .nil
  | _, _, .cons r t => .cons (Rv.mono e r) (Rl.mono e t)
end
section
variable {g : G} {F : Hp}
theorem Rl.length : ∀ {vs : List V} {ds : List D}, Rl g F vs ds → vs.length = ds.length
  | _, _, .nil => rfl
  | _, _, .cons _ t => by rw [List.length_cons, List.length_cons, Rl.length t]
theorem Rl.get : ∀ {vs : List V} {ds : List D} {i : Nat} {d : D}, Rl g F vs ds → ds[i]? = some d → ∃ v, vs[i]? = some v ∧ Rv g F v d
  | _, _, _, _, .nil, e => by simp at e
  | _, _, 0, _, .cons r _, e => by simp at e; subst e; exact ⟨_, rfl, r⟩
  | _, _, i + 1, d, .cons _ t, e => by
    obtain ⟨u, h1, h2⟩ := Rl.get (i := i) (d := d) t (by simpa using e)
    exact ⟨u, by simpa using h1, h2⟩
theorem Rl.get' : ∀ {vs : List V} {ds : List D} {i : Nat} {v : V}, Rl g F vs ds → vs[i]? = some v → ∃ d, ds[i]? = some d ∧ Rv g F v d
  | _, _, _, _, .nil, e => by simp at e
  | _, _, 0, _, .cons r _, e => by simp at e; subst e; exact ⟨_, rfl, r⟩
  | _, _, i + 1, d, .cons _ t, e => by
    obtain ⟨u, h1, h2⟩ := Rl.get' (i := i) (v := d) t (by simpa using e)
    exact ⟨u, by simpa using h1, h2⟩
theorem Rl.append : ∀ {vs ws : List V} {ds es : List D}, Rl g F vs ds → Rl g F ws es → Rl g F (vs ++ ws) (ds ++ es)
  | _, _, _, _, .nil, s => s
  | _, _, _, _, .cons r t, s => .cons r (Rl.append t s)
theorem Rl.take : ∀ {vs : List V} {ds : List D} (n : Nat), Rl g F vs ds → Rl g F (vs.take n) (ds.take n)
  | _, _, 0, _ => .nil
  | _, _, _ + 1, .nil => .nil
  | _, _, n + 1, .cons r t => .cons r (Rl.take n t)
theorem Rl.drop : ∀ {vs : List V} {ds : List D} (n : Nat), Rl g F vs ds → Rl g F (vs.drop n) (ds.drop n)
  | _, _, 0, r => r
  | _, _, _ + 1, .nil => .nil
  | _, _, n + 1, .cons _ t => Rl.drop n t
theorem Rl.set {v : V} {d : D} (r : Rv g F v d) : ∀ {vs : List V} {ds : List D} (i : Nat), Rl g F vs ds → Rl g F (vs.set i v) (ds.set i d)
  | _, _, _, .nil => .nil
  | _, _, 0, .cons _ t => .cons r t
  | _, _, i + 1, .cons q t => .cons q (Rl.set r i t)
theorem Rl.eraseIdx : ∀ {vs : List V} {ds : List D} (i : Nat), Rl g F vs ds → Rl g F (vs.eraseIdx i) (ds.eraseIdx i)
  | _, _, _, .nil => .nil
  | _, _, 0, .cons _ t => t
  | _, _, i + 1, .cons q t => .cons q (Rl.eraseIdx i t)
theorem Rl.rep {vs : List V} {ds : List D} (h : Rl g F vs ds) : ∀ k : Nat, Rl g F (List.replicate k vs).flatten (List.replicate k ds).flatten
  | 0 => .nil
  | k + 1 => by rw [List.replicate_succ, List.replicate_succ, List.flatten_cons, List.flatten_cons]; exact h.append (Rl.rep h k)
theorem Rl.ints : ∀ {vs : List V} {ns : List Int}, Rl g F vs (ns.map D.int) → vs = ns.map V.int
  | _, [], .nil => rfl
  | _, n :: ns, .cons r t => by cases r; rw [Rl.ints t]; rfl
theorem Rl.of_ints : ∀ (ns : List Int), Rl g F (ns.map V.int) (ns.map D.int)
  | [] => .nil
  | n :: ns => .cons (.int n) (Rl.of_ints ns)
theorem Rl.bls : ∀ {vs : List V} {ns : List Bool}, Rl g F vs (ns.map D.bl) → vs = ns.map V.bl
  | _, [], .nil => rfl
  | _, n :: ns, .cons r t => by cases r; rw [Rl.bls t]; rfl
end

/-! ### slots, states -/
inductive Slot where
  | no | sh (d : D) | ow (ds : List D) | rf (k : Nat) (ds : List D) | oi (k : Nat) (c : Str) (ns : List Str) (ds : List D) | o2 (dss : List (List D)) | xc (c nm : Str) (x : D)
  | dk (kvs : List (Int × D)) | dt (kvs : List (List Int × D)) | lk (kvs : List (Int × D)) | lt (kvs : List (List Int × D))
abbrev DSt := List Slot
structure Par where
  B : List Addr
  R : Hp
  N : Addr → Prop

/-- dicts whose keys are numbers, tuples of numbers -/
def hK (kvs : List (Int × D)) (vs : List V) : HO := .dK ((kvs.map fun p => (Sum.inl p.1 : Key)).zip vs)
def hT (kvs : List (List Int × D)) (vs : List V) : HO := .dT ((kvs.map fun p => p.1.map (Sum.inl : Int → Key)).zip vs)
def SlotOk (g : G) (P : Par) (O : Addr → Option Nat) (F H : Hp) (i : Nat) (s : Slot) (ov : Option V) : Prop := match s with
  | .no => True
  | .sh d => ∃ v, ov = some v ∧ Rv g F v d
  | .ow ds => ∃ a vs, ov = some (.ref a) ∧ O a = some i ∧ ¬ P.N a ∧ H a = some (.lst vs) ∧ Rl g F vs ds
  | .rf k ds => ∃ a vs, ov = some (.ref a) ∧ P.B[k]? = some a ∧ O a = some i ∧ H a = some (.lst vs) ∧ Rl g F vs ds
  | .oi k c ns ds => ∃ a C dx vs, ov = some (.ref a) ∧ P.B[k]? = some a ∧ O a = some i ∧ g.mg c = some (.ref C) ∧ ns.length = vs.length ∧ H a = some (.ins C dx (ns.zip vs)) ∧ Rl g F vs ds
  | .o2 dss => ∃ (a : Addr) (bs : List Addr), ov = some (.ref a) ∧ O a = some i ∧ ¬ P.N a ∧ H a = some (.lst (bs.map V.ref)) ∧ bs.Nodup ∧ a ∉ bs ∧ bs.length = dss.length ∧
      ∀ (j : Nat) (b : Addr) (ds : List D), bs[j]? = some b → dss[j]? = some ds → O b = some i ∧ ¬ P.N b ∧ ∃ vs, H b = some (.lst vs) ∧ Rl g F vs ds
  | .dk kvs => ∃ (a : Addr) (vs : List V), ov = some (.ref a) ∧ O a = some i ∧ ¬ P.N a ∧ H a = some (hK kvs vs) ∧ Rl g F vs (kvs.map Prod.snd)
  | .dt kvs => ∃ (a : Addr) (vs : List V), ov = some (.ref a) ∧ O a = some i ∧ ¬ P.N a ∧ H a = some (hT kvs vs) ∧ Rl g F vs (kvs.map Prod.snd)
  | .lk kvs => ∃ (a : Addr) (od : Obj) (vs : List V), ov = some (.ref a) ∧ F a = some (.frz od (hK kvs vs)) ∧ Rl g F vs (kvs.map Prod.snd)
  | .lt kvs => ∃ (a : Addr) (od : Obj) (vs : List V), ov = some (.ref a) ∧ F a = some (.frz od (hT kvs vs)) ∧ Rl g F vs (kvs.map Prod.snd)
  | .xc c nm x => ∃ (a C d : Addr) (v : V), g.xa = some (a, .ref C, some d) ∧ g.mg c = some (.ref C) ∧ ov = some (.ref a) ∧ F d = some (.xd [(nm, v)]) ∧ Rv g F v x
theorem SlotOk.move {g : G} {P P' : Par} {O O' : Addr → Option Nat} {F F' H H' : Hp} {i : Nat} {s : Slot} {ov : Option V} (h : SlotOk g P O F H i s ov) (hB : P'.B = P.B) (hO : ∀ a, O a = some i → O' a = some i) (hF : Same F F')
    (hH : ∀ a o, O a = some i → H a = some o → H' a = some o) (hN : ∀ a, O a = some i → ¬ P.N a → ¬ P'.N a) : SlotOk g P' O' F' H' i s ov := by
  cases s with
  | no => trivial
  | sh d => obtain ⟨v, e, r⟩ := h; exact ⟨v, e, r.mono hF⟩
  | ow ds => obtain ⟨a, vs, e, o, n, h1, r⟩ := h; exact ⟨a, vs, e, hO a o, hN a o n, hH _ _ o h1, r.mono hF⟩
  | rf k ds => obtain ⟨a, vs, e, b, o, h1, r⟩ := h; exact ⟨a, vs, e, by rw [hB]; exact b, hO a o, hH _ _ o h1, r.mono hF⟩
  | oi k c ns ds => obtain ⟨a, C, dx, vs, e, b, o, m, l, h1, r⟩ := h; exact ⟨a, C, dx, vs, e, by rw [hB]; exact b, hO a o, m, l, hH _ _ o h1, r.mono hF⟩
  | xc c nm x => obtain ⟨a, C, d, v, e1, e2, e3, h1, r⟩ := h; exact ⟨a, C, d, v, e1, e2, e3, hF _ _ h1, r.mono hF⟩
  | dk kvs => obtain ⟨a, vs, e, o, n, h1, r⟩ := h; exact ⟨a, vs, e, hO a o, hN a o n, hH _ _ o h1, r.mono hF⟩
  | dt kvs => obtain ⟨a, vs, e, o, n, h1, r⟩ := h; exact ⟨a, vs, e, hO a o, hN a o n, hH _ _ o h1, r.mono hF⟩
  | lk kvs => obtain ⟨a, od, vs, e, h1, r⟩ := h; exact ⟨a, od, vs, e, hF _ _ h1, r.mono hF⟩
  | lt kvs => obtain ⟨a, od, vs, e, h1, r⟩ := h; exact ⟨a, od, vs, e, hF _ _ h1, r.mono hF⟩
  | o2 dss =>
    obtain ⟨a, bs, e, o, n, h1, nd, na, l, r⟩ := h
    refine ⟨a, bs, e, hO a o, hN a o n, hH _ _ o h1, nd, na, l, fun j b ds e1 e2 => ?_⟩
    obtain ⟨o', n', vs, h2, r2⟩ := r j b ds e1 e2
    exact ⟨hO b o', hN b o' n', vs, hH _ _ o' h2, r2.mono hF⟩

/-- something stands there that is no tuple -/
def NT (H : Hp) (a : Addr) : Prop := H a ≠ none ∧ ∀ xs, H a ≠ some (.tup xs)
theorem NT.of {H : Hp} {a : Addr} {o : HO} (h : H a = some o) (n : ∀ xs, o ≠ .tup xs := by intro _ z; cases z) : NT H a := ⟨by rw [h]; simp, fun xs z => by rw [h] at z; exact n xs (Option.some.inj z)⟩
theorem NT.same {H H' : Hp} {a : Addr} (e : Same H H') (h : NT H a) : NT H' a := by
  obtain ⟨h1, h2⟩ := h
  cases q : H a with
  | none => exact absurd q h1
  | some o => exact NT.of (e a o q) fun xs z => h2 xs (by rw [q, z])
theorem NT.get {H : Hp} {a : Addr} (h : NT H a) : ∃ o, H a = some o := by
  cases q : H a with
  | none => exact absurd q h.1
  | some o => exact ⟨o, rfl⟩
theorem NT.move {H H' : Hp} {a : Addr} (h : NT H a) (e : ∀ o, H a = some o → H' a = some o) : NT H' a := by
  obtain ⟨o, q⟩ := h.get
  exact NT.of (e o q) fun xs z => h.2 xs (by rw [q, z])
theorem NT.upd {H : Hp} {a b : Addr} {o : HO} (hb : b ≠ a) (h : NT H b) : NT (L2.upd H a o) b := NT.move h fun u hu => by rw [upd_ne hb]; exact hu
structure SRc (g : G) (P : Par) (O : Addr → Option Nat) (σ : L2.St) (H F : Hp) (st : DSt) : Prop where
  le : Same F H
  rr : Same P.R H
  oo : ∀ a i, O a = some i → F a = none ∧ P.R a = none ∧ NT H a
  no : ∀ a, P.N a → F a = none ∧ NT H a
  len : σ.length = st.length
  sl : ∀ i s ov, st[i]? = some s → σ[i]? = some ov → SlotOk g P O F H i s ov
def SR (g : G) (P : Par) (σ : L2.St) (H F : Hp) (st : DSt) : Prop := ∃ O, SRc g P O σ H F st
/-- .. and p belongs to nobody -/
def SRx (g : G) (P : Par) (σ : L2.St) (H F : Hp) (st : DSt) (p : Addr) : Prop := ∃ O, SRc g P O σ H F st ∧ O p = none ∧ F p = none ∧ P.R p = none ∧ ¬ P.N p

structure Grow (H F H' F' : Hp) : Prop where
  h : Same H H'
  f : Same F F'
  i : Same F' H'
  n : ∀ a, NT H a → F a = none → F' a = none
theorem Grow.refl {H F : Hp} (l : Same F H) : Grow H F H F := ⟨Same.refl _, Same.refl _, l, fun _ _ h => h⟩
theorem Grow.trans {H F H1 F1 H2 F2 : Hp} (a : Grow H F H1 F1) (b : Grow H1 F1 H2 F2) : Grow H F H2 F2 :=
  ⟨a.h.trans b.h, a.f.trans b.f, b.i, fun x h1 h2 => b.n x (NT.same a.h h1) (a.n x h1 h2)⟩
theorem ne_some {α : Type} {o : Option α} (h : o ≠ none) : ∃ x, o = some x := by
  cases o with
  | none => exact absurd rfl h
  | some x => exact ⟨x, rfl⟩
theorem Same.ne {H H' : Hp} (e : Same H H') {a : Addr} (h : H a ≠ none) : H' a ≠ none := by
  obtain ⟨o, ho⟩ := ne_some h
  rw [e a o ho]; simp
/-- a new object, frozen -/
theorem Grow.new {H F : Hp} {p : Addr} {o : HO} (l : Same F H) (h : H p = none) : Grow H F (upd H p o) (upd F p o) := by
  have hp : ∀ {b : Addr} {u : HO}, H b = some u → b ≠ p := fun e z => by subst z; rw [h] at e; cases e
  refine ⟨fun b u e => by rw [upd_ne (hp e)]; exact e, fun b u e => by rw [upd_ne (hp (l _ _ e))]; exact e, fun b u e => ?_, fun b hb hf => ?_⟩
  · by_cases hbp : b = p
    · subst hbp; rw [upd_same] at e ⊢; exact e
    · rw [upd_ne hbp] at e ⊢; exact l _ _ e
  · obtain ⟨u, e⟩ := hb.get
    rw [upd_ne (hp e)]; exact hf
/-- a new object, not frozen -/
theorem Grow.new0 {H F : Hp} {p : Addr} {o : HO} (l : Same F H) (h : H p = none) : Grow H F (upd H p o) F := by
  have hp : ∀ {b : Addr} {u : HO}, H b = some u → b ≠ p := fun e z => by subst z; rw [h] at e; cases e
  exact ⟨fun b u e => by rw [upd_ne (hp e)]; exact e, Same.refl _, fun b u e => by rw [upd_ne (hp (l _ _ e))]; exact l _ _ e, fun _ _ h => h⟩
section
variable {g : G} {P : Par} {O : Addr → Option Nat} {σ : L2.St} {H F H' F' : Hp} {st : DSt}
theorem SlotOk.grow {i : Nat} {s : Slot} {ov : Option V} (gr : Grow H F H' F') (h : SlotOk g P O F H i s ov) : SlotOk g P O F' H' i s ov :=
  h.move rfl (fun _ h => h) gr.f (fun _ _ _ h => gr.h _ _ h) fun _ _ h => h
theorem SRc.grow (s : SRc g P O σ H F st) (gr : Grow H F H' F') : SRc g P O σ H' F' st :=
  ⟨gr.i, s.rr.trans gr.h, fun a i e => ⟨gr.n a (s.oo a i e).2.2 (s.oo a i e).1, (s.oo a i e).2.1, NT.same gr.h (s.oo a i e).2.2⟩,
    fun a n => ⟨gr.n a (s.no a n).2 (s.no a n).1, NT.same gr.h (s.no a n).2⟩, s.len, fun i sl ov e1 e2 => (s.sl i sl ov e1 e2).grow gr⟩
theorem SR.grow (s : SR g P σ H F st) (gr : Grow H F H' F') : SR g P σ H' F' st := let ⟨O, c⟩ := s; ⟨O, c.grow gr⟩
theorem SR.le (s : SR g P σ H F st) : Same F H := let ⟨_, c⟩ := s; c.le
theorem SR.len (s : SR g P σ H F st) : σ.length = st.length := let ⟨_, c⟩ := s; c.len
end

/-! ### results -/
inductive Res (α : Type) where
  | ok (a : α) (st : DSt) | exn (c : Str) (fs : List (Str × D)) (st : DSt) | stuck
inductive M (α : Type) where
  | ok (a : α) | exn (c : Str) (fs : List (Str × D)) | stuck
abbrev Den (α : Type) := DSt → Res α
@[simp] def bindD {α β : Type} (a : Den α) (k : α → Den β) : Den β := fun st => match a st with
  | .ok x st' => k x st'
  | .exn c fs st' => .exn c fs st'
  | .stuck => .stuck
@[simp] def liftO {α : Type} (o : Option α) : Den α := fun st => match o with
  | some a => .ok a st
  | none => .stuck
@[simp] def liftM' {α : Type} (m : M α) : Den α := fun st => match m with
  | .ok a => .ok a st
  | .exn c fs => .exn c fs st
  | .stuck => .stuck
@[simp] def retD {α : Type} (a : α) : Den α := fun st => .ok a st

def RepX (g : G) (F H : Hp) (c : Str) (fs : List (Str × D)) (cls : Value) (dd : Option Addr) : Prop :=
  ∃ C, g.mg c = some (.ref C) ∧ cls = .ref C ∧ ((fs = [] ∧ dd = none) ∨ ∃ d nm v x, dd = some d ∧ fs = [(nm, x)] ∧ F d = some (.xd [(nm, v)]) ∧ Rv g F v x)
theorem RepX.mono {g : G} {F F' H H' : Hp} {c : Str} {fs : List (Str × D)} {cls : Value} {dd : Option Addr} (ef : Same F F') (eh : Same H H') (h : RepX g F H c fs cls dd) : RepX g F' H' c fs cls dd := by
  obtain ⟨C, m, e, h⟩ := h
  refine ⟨C, m, e, ?_⟩
  rcases h with h | ⟨d, nm, v, x, e1, e2, e3, r⟩
  · exact .inl h
  · exact .inr ⟨d, nm, v, x, e1, e2, ef _ _ e3, r.mono ef⟩

def Out {α : Type} (g : G) (W : WX) (P : Par) (σ : L2.St) (F : Hp) (r : Res α) (k : α → DSt → Hp → Hp → Prop) : Prop := match r with
  | .ok a st' => ∀ H' F', Same F F' → SR g P σ H' F' st' → k a st' H' F'
  | .exn c fs st' => ∀ cls dd H' F', Same F F' → SR g P σ H' F' st' → RepX g F' H' c fs cls dd → W cls dd σ H'
  | .stuck => False
section
variable {g : G} {W : WX} {P : Par} {σ : L2.St} {F F' : Hp} {α β : Type}
theorem Out.imp {r : Res α} {k k' : α → DSt → Hp → Hp → Prop} (h : Out g W P σ F r k) (hk : ∀ a st' H' F', Same F F' → SR g P σ H' F' st' → k a st' H' F' → k' a st' H' F') : Out g W P σ F r k' := by
  cases r with
  | ok a st' => exact fun H' F' e s => hk a st' H' F' e s (h H' F' e s)
  | exn c fs st' => exact h
  | stuck => exact h
theorem Out.weak {r : Res α} {k : α → DSt → Hp → Hp → Prop} (e : Same F F') (h : Out g W P σ F r k) : Out g W P σ F' r k := by
  cases r with
  | ok a st' => exact fun H' F2 e2 s => h H' F2 (e.trans e2) s
  | exn c fs st' => exact fun cls dd H' F2 e2 s => h cls dd H' F2 (e.trans e2) s
  | stuck => exact h
theorem Out.bind {a : Den α} {f : α → Den β} {st : DSt} {k : β → DSt → Hp → Hp → Prop} (h : Out g W P σ F (bindD a f st) k) : Out g W P σ F (a st) (fun x st1 _ F1 => Out g W P σ F1 (f x st1) k) := by
  unfold bindD at h
  revert h
  cases a st with
  | ok x st' => exact fun h H' F' e s => Out.weak e h
  | exn c fs st' => exact fun h => h
  | stuck => exact fun h => h
theorem Out.lift {o : Option α} {st : DSt} {k : α → DSt → Hp → Hp → Prop} (h : Out g W P σ F (liftO o st) k) : ∃ a, o = some a ∧ ∀ H' F', Same F F' → SR g P σ H' F' st → k a st H' F' := by
  cases o with
  | some a => exact ⟨a, rfl, h⟩
  | none => exact h.elim
end

/-! ### judgements -/
def tE (g : G) (W : WX) (f : Den D) : TE := fun σ H Q => ∃ P F st, SR g P σ H F st ∧ Out g W P σ F (f st) fun d _ H' F' => ∀ v, Rv g F' v d → Q v H'
def tT (g : G) (W : WX) (f : Den Bool) : TT := fun σ H Q => ∃ P F st, SR g P σ H F st ∧ Out g W P σ F (f st) fun b _ H' _ => Q b H'
def tA (g : G) (W : WX) (f : Den (List D)) : TA := fun σ H Q => ∃ P F st, SR g P σ H F st ∧ Out g W P σ F (f st) fun ds _ H' F' => ∀ vs, Rl g F' vs ds → Q vs H'
/-- a new list, owned by nobody -/
def OutN (g : G) (W : WX) (P : Par) (σ : L2.St) (F : Hp) (r : Res (List D)) (Q : VK) : Prop := match r with
  | .ok ds st' => ∀ H' F' p vs, Same F F' → SRx g P σ H' F' st' p → H' p = some (.lst vs) → Rl g F' vs ds → Q (.ref p) H'
  | .exn c fs st' => ∀ cls dd H' F', Same F F' → SR g P σ H' F' st' → RepX g F' H' c fs cls dd → W cls dd σ H'
  | .stuck => False
def tN (g : G) (W : WX) (f : Den (List D)) : TE := fun σ H Q => ∃ P F st, SR g P σ H F st ∧ OutN g W P σ F (f st) Q

theorem _root_.L2.PE.imp {X : Cx} {e : Expr} {t t' : TE} (h : PE X e t) (i : ∀ σ H Q, t' σ H Q → t σ H Q) : PE X e t' := ⟨fun pins s σ H Q I q => h.run pins s σ H Q I (i σ H Q q)⟩
theorem _root_.L2.PT.imp {X : Cx} {e : Expr} {t t' : TT} (h : PT X e t) (i : ∀ σ H Q, t' σ H Q → t σ H Q) : PT X e t' := ⟨fun pins s σ H Q I q => h.run pins s σ H Q I (i σ H Q q)⟩
theorem _root_.L2.PW.imp {X : Cx} {e : Expr} {t t' : TT} (h : PW X e t) (i : ∀ σ H Q, t' σ H Q → t σ H Q) : PW X e t' := ⟨fun w pins s σ H Q I q => h.run w pins s σ H Q I (i σ H Q q)⟩
theorem _root_.L2.PA.imp {X : Cx} {e : List Expr} {t t' : TA} (h : PA X e t) (i : ∀ σ H Q, t' σ H Q → t σ H Q) : PA X e t' := ⟨fun pos pins s σ H Q I q => h.run pos pins s σ H Q I (i σ H Q q)⟩
theorem _root_.L2.PS.imp {X : Cx} {e : Stmt} {t t' : TS} (h : PS X e t) (i : ∀ D σ H, t' D σ H → t D σ H) : PS X e t' := ⟨fun pins s σ H D I q => h.run pins s σ H D I (i D σ H q)⟩
theorem _root_.L2.PSs.imp {X : Cx} {e : List Stmt} {t t' : TS} (h : PSs X e t) (i : ∀ D σ H, t' D σ H → t D σ H) : PSs X e t' := ⟨fun pins s σ H D I q => h.run pins s σ H D I (i D σ H q)⟩
/-- read at the heap: frozen, or an owned list -/
def Br (g : G) (F H : Hp) (v : V) (d : D) : Prop := Rv g F v d ∨ ∃ a vs ds, v = .ref a ∧ d = .lst ds ∧ H a = some (.lst vs) ∧ Rl g F vs ds
end DL

namespace DL
open PySem PySem.Spec PyProof.Rows L2

/-! ### data as plain data -/
mutual
def toPy : D → Option PyData
  | .non => some .none
  | .bl b => some (.bool b)
  | .int i => some (.int i)
  | .str x => some (.str x)
  | .lst xs => match toPys xs with | some ps => some (.list ps) | none => none
  | .tup xs => match toPys xs with | some ps => some (.tuple ps) | none => none
  | .ins _ _ _ => none
  | .scr _ => none
def toPys : List D → Option (List PyData)
  | [] => some []
  | d :: ds => match toPy d, toPys ds with | some p, some ps => some (p :: ps) | _, _ => none
end
theorem sqL_of {K : PySem.W.Frag} {H : Hp} {a : Addr} {xs : List V} (h : H a = some (.lst xs)) : SqL K H a xs := .inl (.inl h)
mutual
theorem Rv.dp {g : G} {F H : Hp} (l : Same F H) : ∀ {v : V} {d : D} {p : PyData}, Rv g F v d → toPy d = some p → Dp g.K H v p
  | _, .non, _, r, e => by cases r; cases e; exact .non
  | _, .bl b, _, r, e => by cases r; cases e; exact .bl b
  | _, .int b, _, r, e => by cases r; cases e; exact .int b
  | _, .str b, _, r, e => by cases r; cases e; exact .str b
  | _, .lst xs, _, r, e => by
    cases r with
    | lst h q =>
      unfold toPy at e
      cases z : toPys xs with
      | none => rw [z] at e; cases e
      | some ps => rw [z] at e; cases e; exact .lst (sqL_of (l _ _ h)) (Rl.dp l q z)
  | _, .tup xs, _, r, e => by
    cases r with
    | tup h _ q =>
      unfold toPy at e
      cases z : toPys xs with
      | none => rw [z] at e; cases e
      | some ps => rw [z] at e; cases e; exact .tup (sqT_mono l h) (Rl.dp l q z)
  | _, .ins _ _ _, _, r, e => by cases e
  | _, .scr _, _, r, e => by cases e
theorem Rl.dp {g : G} {F H : Hp} (l : Same F H) : ∀ {vs : List V} {ds : List D} {ps : List PyData}, Rl g F vs ds → toPys ds = some ps → DpAll g.K H vs ps
  | _, [], _, r, e => by cases r; cases e; exact .nil
  | _, d :: ds, _, r, e => by
    cases r with
    | cons a b =>
      unfold toPys at e
      cases z : toPy d with
      | none => rw [z] at e; cases e
      | some p =>
        cases z2 : toPys ds with
        | none => rw [z, z2] at e; cases e
        | some ps => rw [z, z2] at e; cases e; exact .cons (Rv.dp l a z) (Rl.dp l b z2)
end
theorem Br.dp {g : G} {F H : Hp} (l : Same F H) {v : V} {d : D} {p : PyData} (r : Br g F H v d) (e : toPy d = some p) : Dp g.K H v p := by
  rcases r with r | ⟨a, vs, ds, rfl, rfl, h, q⟩
  · exact r.dp l e
  · unfold toPy at e
    cases z : toPys ds with
    | none => rw [z] at e; cases e
    | some ps => rw [z] at e; cases e; exact .lst (sqL_of h) (Rl.dp l q z)
theorem Br.lst {g : G} {F H : Hp} (l : Same F H) {v : V} {ds : List D} (r : Br g F H v (.lst ds)) : ∃ a vs, v = .ref a ∧ H a = some (.lst vs) ∧ Rl g F vs ds := by
  rcases r with r | ⟨a, vs, ds', rfl, e, h, q⟩
  · cases r with
    | lst h q => exact ⟨_, _, rfl, l _ _ h, q⟩
  · cases e; exact ⟨a, vs, rfl, h, q⟩
theorem Br.tup {g : G} {F H : Hp} (l : Same F H) {v : V} {ds : List D} (r : Br g F H v (.tup ds)) : ∃ a vs, v = .ref a ∧ SqT g.K H a vs ∧ Rl g F vs ds := by
  rcases r with r | ⟨a, vs, ds', rfl, e, h, q⟩
  · cases r with
    | tup h _ q => exact ⟨_, _, rfl, sqT_mono l h, q⟩
  · cases e
theorem Br.int {g : G} {F H : Hp} {v : V} {i : Int} (r : Br g F H v (.int i)) : v = .int i := by
  rcases r with r | ⟨a, vs, ds', rfl, e, h, q⟩
  · cases r; rfl
  · cases e
theorem Br.bl {g : G} {F H : Hp} {v : V} {i : Bool} (r : Br g F H v (.bl i)) : v = .bl i := by
  rcases r with r | ⟨a, vs, ds', rfl, e, h, q⟩
  · cases r; rfl
  · cases e
theorem Br.str {g : G} {F H : Hp} {v : V} {i : Str} (r : Br g F H v (.str i)) : v = .str i := by
  rcases r with r | ⟨a, vs, ds', rfl, e, h, q⟩
  · cases r; rfl
  · cases e
theorem Br.non {g : G} {F H : Hp} {v : V} (r : Br g F H v .non) : v = .non := by
  rcases r with r | ⟨a, vs, ds', rfl, e, h, q⟩
  · cases r; rfl
  · cases e

/-! ### operations on values -/
def VO1 (g : G) (r : V → Hp → VK → Prop) (op : D → Option D) : Prop := ∀ (H F : Hp) (v : V) (d z : D), Same F H → Br g F H v d → op d = some z → ∀ Q : VK, (∀ v' H' F', Grow H F H' F' → Rv g F' v' z → Q v' H') → r v H Q
def VO2 (g : G) (r : R2) (op : D → D → Option D) : Prop := ∀ (H F : Hp) (v u : V) (d e z : D), Same F H → Br g F H v d → Br g F H u e → op d e = some z → ∀ Q : VK, (∀ v' H' F', Grow H F H' F' → Rv g F' v' z → Q v' H') → r v u H Q
def VOC (g : G) (r : List V → Hp → VK → Prop) (op : D → Option D) : Prop := VO1 g (fun v => r [v]) op
def VOC2 (g : G) (r : List V → Hp → VK → Prop) (op : D → D → Option D) : Prop := VO2 g (fun v u => r [v, u]) op
/-- .. that give a new list -/
def VN1 (g : G) (r : V → Hp → VK → Prop) (op : D → Option (List D)) : Prop := ∀ (H F : Hp) (v : V) (d : D) (zs : List D), Same F H → Br g F H v d → op d = some zs → ∀ Q : VK, (∀ p vs, H p = none → Rl g F vs zs → Q (.ref p) (upd H p (.lst vs))) → r v H Q
def VN2 (g : G) (r : R2) (op : D → D → Option (List D)) : Prop := ∀ (H F : Hp) (v u : V) (d e : D) (zs : List D), Same F H → Br g F H v d → Br g F H u e → op d e = some zs → ∀ Q : VK, (∀ p vs, H p = none → Rl g F vs zs → Q (.ref p) (upd H p (.lst vs))) → r v u H Q

theorem OpR.or {X : Cx} {f : Value → Value → Sem Value} {r r' : R2} (h : OpR X f r) (h' : OpR X f r') : OpR X f (fun x y H Q => r x y H Q ∨ r' x y H Q) := by
  intro pins s σ H x y v u Q I rx ry q
  rcases q with q | q
  · exact h pins s σ H x y v u Q I rx ry q
  · exact h' pins s σ H x y v u Q I rx ry q

theorem newT {g : G} {H F : Hp} {vs : List V} {ds : List D} {Q : VK} (l : Same F H) (r : Rl g F vs ds) (q : ∀ v' H' F', Grow H F H' F' → Rv g F' v' (.tup ds) → Q v' H') : NewT H Q vs := by
  cases ht : g.tk with
  | false => exact .inl fun p hp => q _ _ _ (Grow.new l hp) (.tup (.inl (.inl upd_same)) (by unfold TkP; rw [ht]; exact upd_same) (r.mono (Grow.new l hp).f))
  | true => exact .inr fun p o hp ko => q _ _ _ (Grow.new l hp) (.tup (.inl (.inr ⟨o, upd_same⟩)) (by unfold TkP; rw [ht]; exact KnT.new ko) (r.mono (Grow.new l hp).f))
section
variable {g : G}
def big : Nat := 16777216
theorem big_eq : big = sizeLine := by rw [sizeLine_eq]; rfl

@[simp] def opAdd : D → D → Option D
  | .int i, .int j => some (.int (i + j))
  | .str x, .str y => if x.length + y.length ≤ big then some (.str (x ++ y)) else none
  | .tup xs, .tup ys => if xs.length + ys.length ≤ big then some (.tup (xs ++ ys)) else none
  | .lst xs, .lst ys => if xs.length + ys.length ≤ big then some (.lst (xs ++ ys)) else none
  | _, _ => none
def rAddD (K : PySem.W.Frag) : R2 := fun x y H Q => rI0 (fun i j => .int (i + j)) x y H Q ∨ (∃ i j, x = .str i ∧ y = .str j ∧ i.length + j.length ≤ sizeLine ∧ Q (.str (i ++ j)) H) ∨ rCatN K x y H Q ∨ rCat x y H Q
theorem op_addD {X : Cx} : OpR X (binaryOp .Add) (rAddD X.K) := op_add.or (op_add_str.or (op_catN.or op_cat))
theorem vo_add : VO2 g (rAddD g.K) opAdd := by
  intro H F v u d e z l rd re h Q q
  unfold opAdd at h
  split at h
  · cases h; cases rd.int; cases re.int
    exact .inl ⟨_, _, rfl, rfl, q _ _ _ (Grow.refl l) (.int _)⟩
  · split at h
    · rename_i hl
      cases h; cases rd.str; cases re.str
      exact .inr (.inl ⟨_, _, rfl, rfl, by rw [← big_eq]; exact hl, q _ _ _ (Grow.refl l) (.str _)⟩)
    · cases h
  · split at h
    · rename_i xs ys hl
      cases h
      obtain ⟨a, vs, rfl, h1, r1⟩ := rd.tup l
      obtain ⟨b, ws, rfl, h2, r2⟩ := re.tup l
      refine .inr (.inr (.inl ?_))
      refine ⟨a, b, vs, ws, rfl, rfl, h1, h2, by rw [r1.length, r2.length, ← big_eq]; exact hl, fun e => ?_, fun _ e => ?_, fun _ _ => newT l (r1.append r2) q⟩
      · subst e
        cases r1
        rcases re with re | ⟨_, _, _, _, e, _⟩
        · exact q _ _ _ (Grow.refl l) re
        · cases e
      · subst e
        cases r2
        rw [List.append_nil] at q
        rcases rd with rd | ⟨_, _, _, _, e, _⟩
        · exact q _ _ _ (Grow.refl l) rd
        · cases e
    · cases h
  · split at h
    · rename_i xs ys hl
      cases h
      obtain ⟨a, vs, rfl, h1, r1⟩ := rd.lst l
      obtain ⟨b, ws, rfl, h2, r2⟩ := re.lst l
      exact .inr (.inr (.inr ⟨a, b, vs, ws, rfl, rfl, h1, h2, by rw [r1.length, r2.length, ← big_eq]; exact hl, fun p hp => q _ _ _ (Grow.new l hp) (.lst upd_same ((r1.append r2).mono (Grow.new l hp).f))⟩))
    · cases h
  · cases h
@[simp] def nAdd : D → D → Option (List D)
  | .lst xs, .lst ys => if xs.length + ys.length ≤ big then some (xs ++ ys) else none
  | _, _ => none
theorem vn_add : VN2 g (rAddD g.K) nAdd := by
  intro H F v u d e z l rd re h Q q
  unfold nAdd at h
  split at h
  · split at h
    · rename_i xs ys hl
      cases h
      obtain ⟨a, vs, rfl, h1, r1⟩ := rd.lst l
      obtain ⟨b, ws, rfl, h2, r2⟩ := re.lst l
      exact .inr (.inr (.inr ⟨a, b, vs, ws, rfl, rfl, h1, h2, by rw [r1.length, r2.length, ← big_eq]; exact hl, fun p hp => q _ _ hp (r1.append r2)⟩))
    · cases h
  · cases h
@[simp] def opSub : D → D → Option D
  | .int i, .int j => some (.int (i - j))
  | _, _ => none
theorem vo_sub : VO2 g (rI0 fun i j => .int (i - j)) opSub := by
  intro H F v u d e z l rd re h Q q
  unfold opSub at h
  split at h
  · cases h; cases rd.int; cases re.int
    exact ⟨_, _, rfl, rfl, q _ _ _ (Grow.refl l) (.int _)⟩
  · cases h
def smallI (i : Int) : Bool := decide (i.natAbs < 18446744073709551616)
theorem small_of {i : Int} (h : smallI i = true) : -(2 ^ 64) < i ∧ i < 2 ^ 64 := by
  have : i.natAbs < 18446744073709551616 := of_decide_eq_true h
  omega
@[simp] def opMul : D → D → Option D
  | .int i, .int j => if smallI i || smallI j then some (.int (i * j)) else none
  | .lst xs, .int k => if xs.length * k.toNat ≤ big ∧ smallI (k * 4) = true ∧ k.natAbs < 9223372036854775808 then some (.lst (List.replicate k.toNat xs).flatten) else none
  | _, _ => none
def rMulD : R2 := fun x y H Q => rI CMul (fun i j => .int (i * j)) x y H Q ∨ rRep x y H Q
theorem op_mulD {X : Cx} : OpR X (binaryOp .Mult) rMulD := op_mul.or op_rep
theorem vo_mul : VO2 g rMulD opMul := by
  intro H F v u d e z l rd re h Q q
  unfold opMul at h
  split at h
  · split at h
    · rename_i hc
      cases h; cases rd.int; cases re.int
      refine .inl ⟨_, _, rfl, rfl, ?_, q _ _ _ (Grow.refl l) (.int _)⟩
      rcases Bool.or_eq_true_iff.mp hc with c | c
      · exact .inl (small_of c)
      · exact .inr (small_of c)
    · cases h
  · split at h
    · rename_i xs k hl
      cases h
      obtain ⟨a, vs, rfl, h1, r1⟩ := rd.lst l
      cases re.int
      obtain ⟨hl1, hl2, hl3⟩ := hl
      exact .inr ⟨a, k, vs, rfl, rfl, h1, by omega, by omega, by rw [r1.length, ← big_eq]; exact hl1, fun p hp => q _ _ _ (Grow.new l hp) (.lst upd_same ((r1.rep k.toNat).mono (Grow.new l hp).f))⟩
    · cases h
  · cases h
@[simp] def nMul : D → D → Option (List D)
  | .lst xs, .int k => if xs.length * k.toNat ≤ big ∧ k.natAbs < 9223372036854775808 then some (List.replicate k.toNat xs).flatten else none
  | _, _ => none
theorem vn_mul : VN2 g rMulD nMul := by
  intro H F v u d e z l rd re h Q q
  unfold nMul at h
  split at h
  · split at h
    · rename_i xs k hl
      cases h
      obtain ⟨a, vs, rfl, h1, r1⟩ := rd.lst l
      cases re.int
      obtain ⟨hl1, hl3⟩ := hl
      exact .inr ⟨a, k, vs, rfl, rfl, h1, by omega, by omega, by rw [r1.length, ← big_eq]; exact hl1, fun p hp => q _ _ hp (r1.rep k.toNat)⟩
    · cases h
  · cases h
@[simp] def opDiv : D → D → Option D
  | .int i, .int j => if j ≠ 0 ∧ j.natAbs < 1073741824 then some (.int (i.fdiv j)) else none
  | _, _ => none
theorem vo_div : VO2 g (rI CDivN fun i j => .int (i.fdiv j)) opDiv := by
  intro H F v u d e z l rd re h Q q
  unfold opDiv at h
  split at h
  · split at h
    · rename_i hc
      cases h; cases rd.int; cases re.int
      exact ⟨_, _, rfl, rfl, hc, q _ _ _ (Grow.refl l) (.int _)⟩
    · cases h
  · cases h
@[simp] def opMod : D → D → Option D
  | .int i, .int j => if j ≠ 0 then some (.int (i.fmod j)) else none
  | _, _ => none
theorem vo_mod : VO2 g (rI (fun _ j => j ≠ 0) fun i j => .int (i.fmod j)) opMod := by
  intro H F v u d e z l rd re h Q q
  unfold opMod at h
  split at h
  · split at h
    · rename_i hc
      cases h; cases rd.int; cases re.int
      exact ⟨_, _, rfl, rfl, hc, q _ _ _ (Grow.refl l) (.int _)⟩
    · cases h
  · cases h
@[simp] def opNeg : D → Option D
  | .int i => some (.int (-i))
  | _ => none
theorem vo_neg : VO1 g (rU fun i => .int (-i)) opNeg := by
  intro H F v d z l rd h Q q
  unfold opNeg at h
  split at h
  · cases h; cases rd.int
    exact ⟨_, rfl, q _ _ _ (Grow.refl l) (.int _)⟩
  · cases h
/-! comparisons -/
@[simp] def cmpI (p : Int → Int → Bool) : D → D → Option D
  | .int i, .int j => some (.bl (p i j))
  | _, _ => none
theorem vo_cmpI (p : Int → Int → Bool) : VO2 g (rI0 fun i j => .bl (p i j)) (cmpI p) := by
  intro H F v u d e z l rd re h Q q
  unfold cmpI at h
  split at h
  · cases h; cases rd.int; cases re.int
    exact ⟨_, _, rfl, rfl, q _ _ _ (Grow.refl l) (.bl _)⟩
  · cases h
@[simp] def opLt : D → D → Option D := cmpI fun i j => decide (i < j)
@[simp] def opLe : D → D → Option D := cmpI fun i j => decide (i ≤ j)
@[simp] def opGt : D → D → Option D := cmpI fun i j => decide (j < i)
@[simp] def opGe : D → D → Option D := cmpI fun i j => decide (j ≤ i)
def eqD (x y : D) : Option Bool := match toPy x, toPy y with
  | some p, some q => if SeqAt.shaped p && SeqAt.shaped q then some (PyData.eqv p q) else none
  | _, _ => none
@[simp] def opEq (x y : D) : Option D := match eqD x y with | some b => some (.bl b) | none => none
@[simp] def opNe (x y : D) : Option D := match eqD x y with | some b => some (.bl (!b)) | none => none
theorem eqD_some {x y : D} {b : Bool} (h : eqD x y = some b) : ∃ p q, toPy x = some p ∧ toPy y = some q ∧ SeqAt.shaped p = true ∧ SeqAt.shaped q = true ∧ b = PyData.eqv p q := by
  unfold eqD at h
  split at h
  · rename_i p q e1 e2
    split at h
    · rename_i hs
      cases h
      obtain ⟨h1, h2⟩ := Bool.and_eq_true_iff.mp hs
      exact ⟨p, q, e1, e2, h1, h2, rfl⟩
    · cases h
  · cases h
theorem vo_eq : VO2 g (rEqD g.K) opEq := by
  intro H F v u d e z l rd re h Q q
  unfold opEq at h
  split at h
  · rename_i b hb
    cases h
    obtain ⟨p, r, e1, e2, s1, s2, rfl⟩ := eqD_some hb
    exact ⟨p, r, rd.dp l e1, re.dp l e2, s1, s2, q _ _ _ (Grow.refl l) (.bl _)⟩
  · cases h
theorem vo_ne : VO2 g (rNeD g.K) opNe := by
  intro H F v u d e z l rd re h Q q
  unfold opNe at h
  split at h
  · rename_i b hb
    cases h
    obtain ⟨p, r, e1, e2, s1, s2, rfl⟩ := eqD_some hb
    exact ⟨p, r, rd.dp l e1, re.dp l e2, s1, s2, q _ _ _ (Grow.refl l) (.bl _)⟩
  · cases h
/-- is, is not: None and truth values -/
@[simp] def isD : D → D → Option Bool
  | .bl a, .bl b => some (decide (a = b))
  | d, .non => some (match d with | .non => true | _ => false)
  | _, _ => none
@[simp] def opIs (x y : D) : Option D := match isD x y with | some b => some (.bl b) | none => none
@[simp] def opIsNot (x y : D) : Option D := match isD x y with | some b => some (.bl (!b)) | none => none
def rIsD : R2 := fun x y H Q => (y = .non ∧ Q (.bl (decide (x = .non))) H) ∨ rIsB x y H Q
def rIsNotD : R2 := fun x y H Q => (y = .non ∧ Q (.bl (!decide (x = .non))) H) ∨ rNotB x y H Q
theorem op_isD {X : Cx} : OpR X (compareOp .Is) rIsD := op_isN.or op_isBl
theorem op_isNotD {X : Cx} : OpR X (compareOp .IsNot) rIsNotD := op_notN.or op_notBl
theorem isD_cases {H F : Hp} {v u : V} {d e : D} {b : Bool} (l : Same F H) (rd : Br g F H v d) (re : Br g F H u e) (h : isD d e = some b) : (u = .non ∧ b = decide (v = .non)) ∨ ∃ x y, v = .bl x ∧ u = .bl y ∧ b = decide (x = y) := by
  unfold isD at h
  split at h
  · cases h; cases rd.bl; cases re.bl
    exact .inr ⟨_, _, rfl, rfl, rfl⟩
  · cases h; cases re.non
    refine .inl ⟨rfl, ?_⟩
    rcases rd with rd | ⟨a, vs, ds, rfl, rfl, _⟩
    · cases rd <;> rfl
    · rfl
  · cases h
theorem vo_is : VO2 g rIsD opIs := by
  intro H F v u d e z l rd re h Q q
  unfold opIs at h
  split at h
  · rename_i b hb
    cases h
    rcases isD_cases l rd re hb with ⟨rfl, rfl⟩ | ⟨x, y, rfl, rfl, rfl⟩
    · exact .inl ⟨rfl, q _ _ _ (Grow.refl l) (.bl _)⟩
    · exact .inr ⟨x, y, rfl, rfl, q _ _ _ (Grow.refl l) (.bl _)⟩
  · cases h
theorem vo_isnot : VO2 g rIsNotD opIsNot := by
  intro H F v u d e z l rd re h Q q
  unfold opIsNot at h
  split at h
  · rename_i b hb
    cases h
    rcases isD_cases l rd re hb with ⟨rfl, rfl⟩ | ⟨x, y, rfl, rfl, rfl⟩
    · exact .inl ⟨rfl, q _ _ _ (Grow.refl l) (.bl _)⟩
    · exact .inr ⟨x, y, rfl, rfl, q _ _ _ (Grow.refl l) (.bl _)⟩
  · cases h
/-! in, not in -/
def flatD : D → Bool
  | .non | .bl _ | .int _ | .str _ => true
  | _ => false
def eqF : D → D → Bool
  | .non, .non => true
  | .bl a, .bl b => a == b
  | .bl a, .int b => (if a then 1 else 0) == b
  | .int a, .bl b => a == (if b then 1 else 0)
  | .int a, .int b => a == b
  | .str a, .str b => a == b
  | _, _ => false
theorem flat_rv {F : Hp} {v : V} {d : D} (r : Rv g F v d) (h : flatD d = true) : flatV v = true := by
  cases r <;> first | rfl | cases h
theorem eqF_rv {F : Hp} {v u : V} {d e : D} (r : Rv g F v d) (s : Rv g F u e) (h : flatD d = true) (h2 : flatD e = true) : eqV v u = eqF d e := by
  cases r <;> first | (cases s <;> first | rfl | cases h2) | cases h
theorem all_flat {F : Hp} : ∀ {vs : List V} {ds : List D}, Rl g F vs ds → ds.all flatD = true → vs.all flatV = true
  | _, _, .nil, _ => rfl
  | _, _, .cons r t, h => by
    rw [List.all_cons, Bool.and_eq_true] at h
    rw [List.all_cons, flat_rv r h.1, all_flat t h.2]; rfl
theorem any_eqF {F : Hp} {u : V} {e : D} (s : Rv g F u e) (h2 : flatD e = true) : ∀ {vs : List V} {ds : List D}, Rl g F vs ds → ds.all flatD = true → vs.any (fun y => eqV y u) = ds.any fun y => eqF y e
  | _, _, .nil, _ => rfl
  | _, _, .cons r t, h => by
    rw [List.all_cons, Bool.and_eq_true] at h
    rw [List.any_cons, List.any_cons, eqF_rv r s h.1 h2, any_eqF s h2 t h.2]
def inD (x y : D) : Option Bool := match y with
  | .lst ys => if flatD x && ys.all flatD then some (ys.any fun y => eqF y x) else
      match toPy x, toPys ys with
      | some p, some qs => if SeqAt.shaped p && SeqAt.shaped (.list qs) then some (qs.any fun z => PyData.eqv z p) else none
      | _, _ => none
  | .tup ys => if flatD x && ys.all flatD then some (ys.any fun y => eqF y x) else
      match toPy x, toPys ys with
      | some p, some qs => if SeqAt.shaped p && SeqAt.shaped (.tuple qs) then some (qs.any fun z => PyData.eqv z p) else none
      | _, _ => none
  | .str t => match x with | .str s => some (!(Builtin.Str.occurrences t s 0 t.length 1).isEmpty) | _ => none
  | _ => none
@[simp] def opIn (x y : D) : Option D := match inD x y with | some b => some (.bl b) | none => none
@[simp] def opNotIn (x y : D) : Option D := match inD x y with | some b => some (.bl (!b)) | none => none
def rInT (K : PySem.W.Frag) : R2 := fun x y H Q => ∃ d ds, Dp K H x d ∧ Dp K H y (.tuple ds) ∧ SeqAt.shaped d = true ∧ SeqAt.shaped (.tuple ds) = true ∧ Q (.bl (ds.any fun z => PyData.eqv z d)) H
def rNotInT (K : PySem.W.Frag) : R2 := fun x y H Q => ∃ d ds, Dp K H x d ∧ Dp K H y (.tuple ds) ∧ SeqAt.shaped d = true ∧ SeqAt.shaped (.tuple ds) = true ∧ Q (.bl (!(ds.any fun z => PyData.eqv z d))) H
theorem op_inT {X : Cx} (hu : X.A.units + 65 < cLine) : OpR X (compareOp .In) (rInT X.K) := by
  intro pins s σ H x y v u Q I rx ry hw
  obtain ⟨d, ds, hd, he, sd, se, q⟩ := hw
  obtain ⟨as, r1⟩ := Dp.reads I d x v hd rx
  obtain ⟨bs, r2⟩ := Dp.reads I (.tuple ds) y u he ry
  exact SeqAt.in_tuple_reads r2 r1 (SeqAt.canLay_of_shaped se) (SeqAt.canLay_of_shaped sd) (room_in_shaped sd hu) ⟨.bl _, H, I, rfl, q⟩
theorem op_notInT {X : Cx} (hu : X.A.units + 65 < cLine) : OpR X (compareOp .NotIn) (rNotInT X.K) := by
  intro pins s σ H x y v u Q I rx ry hw
  obtain ⟨d, ds, hd, he, sd, se, q⟩ := hw
  obtain ⟨as, r1⟩ := Dp.reads I d x v hd rx
  obtain ⟨bs, r2⟩ := Dp.reads I (.tuple ds) y u he ry
  exact SeqAt.notIn_tuple_reads r2 r1 (SeqAt.canLay_of_shaped se) (SeqAt.canLay_of_shaped sd) (room_in_shaped sd hu) ⟨.bl _, H, I, rfl, q⟩
def rInA (K : PySem.W.Frag) : R2 := fun x y H Q => rIn K false x y H Q ∨ rInD K x y H Q ∨ rInT K x y H Q ∨ ∃ i j, x = .str i ∧ y = .str j ∧ Q (.bl (!(Builtin.Str.occurrences j i 0 j.length 1).isEmpty)) H
def rNotInA (K : PySem.W.Frag) : R2 := fun x y H Q => rIn K true x y H Q ∨ rNotInD K x y H Q ∨ rNotInT K x y H Q ∨ ∃ i j, x = .str i ∧ y = .str j ∧ Q (.bl (!(!(Builtin.Str.occurrences j i 0 j.length 1).isEmpty))) H
theorem op_inA {X : Cx} (hu : X.A.units + 65 < cLine) : OpR X (compareOp .In) (rInA X.K) := op_in_seq.or ((op_inD hu).or ((op_inT hu).or op_in_str))
theorem op_notInA {X : Cx} (hu : X.A.units + 65 < cLine) : OpR X (compareOp .NotIn) (rNotInA X.K) := op_notIn_seq.or ((op_notInD hu).or ((op_notInT hu).or op_notIn_str))
theorem Br.flat {F H : Hp} {v : V} {d : D} (r : Br g F H v d) (h : flatD d = true) : Rv g F v d := by
  rcases r with r | ⟨_, _, _, _, rfl, _⟩
  · exact r
  · cases h
theorem inD_cases {H F : Hp} {v u : V} {d e : D} {b : Bool} (l : Same F H) (rd : Br g F H v d) (re : Br g F H u e) (h : inD d e = some b) :
    (∃ p xs, u = .ref p ∧ (SqL g.K H p xs ∨ SqT g.K H p xs) ∧ flatV v = true ∧ xs.all flatV = true ∧ inV v xs = b) ∨
    (∃ d ds, Dp g.K H v d ∧ Dp g.K H u (.list ds) ∧ SeqAt.shaped d = true ∧ SeqAt.shaped (.list ds) = true ∧ (ds.any fun z => PyData.eqv z d) = b) ∨
    (∃ d ds, Dp g.K H v d ∧ Dp g.K H u (.tuple ds) ∧ SeqAt.shaped d = true ∧ SeqAt.shaped (.tuple ds) = true ∧ (ds.any fun z => PyData.eqv z d) = b) ∨
    ∃ i j, v = .str i ∧ u = .str j ∧ (!(Builtin.Str.occurrences j i 0 j.length 1).isEmpty) = b := by
  unfold inD at h
  split at h
  · rename_i ys
    split at h
    · rename_i hf
      cases h
      obtain ⟨f1, f2⟩ := Bool.and_eq_true_iff.mp hf
      obtain ⟨a, vs, rfl, h1, r1⟩ := re.lst l
      exact .inl ⟨a, vs, rfl, .inl (sqL_of h1), flat_rv (rd.flat f1) f1, all_flat r1 f2, any_eqF (rd.flat f1) f1 r1 f2⟩
    · split at h
      · rename_i p qs e1 e2
        split at h
        · rename_i hs
          cases h
          obtain ⟨h1, h2⟩ := Bool.and_eq_true_iff.mp hs
          exact .inr (.inl ⟨p, qs, rd.dp l e1, re.dp l (by unfold toPy; rw [e2]), h1, h2, rfl⟩)
        · cases h
      · cases h
  · rename_i ys
    split at h
    · rename_i hf
      cases h
      obtain ⟨f1, f2⟩ := Bool.and_eq_true_iff.mp hf
      obtain ⟨a, vs, rfl, h1, r1⟩ := re.tup l
      exact .inl ⟨a, vs, rfl, .inr h1, flat_rv (rd.flat f1) f1, all_flat r1 f2, any_eqF (rd.flat f1) f1 r1 f2⟩
    · split at h
      · rename_i p qs e1 e2
        split at h
        · rename_i hs
          cases h
          obtain ⟨h1, h2⟩ := Bool.and_eq_true_iff.mp hs
          exact .inr (.inr (.inl ⟨p, qs, rd.dp l e1, re.dp l (by unfold toPy; rw [e2]), h1, h2, rfl⟩))
        · cases h
      · cases h
  · split at h
    · cases h
      exact .inr (.inr (.inr ⟨_, _, rd.str, re.str, rfl⟩))
    · cases h
  · cases h
theorem vo_in : VO2 g (rInA g.K) opIn := by
  intro H F v u d e z l rd re h Q q
  unfold opIn at h
  split at h
  · rename_i b hb
    cases h
    rcases inD_cases l rd re hb with ⟨p, xs, e1, e2, e3, e4, rfl⟩ | ⟨p, ds, e1, e2, e3, e4, rfl⟩ | ⟨p, ds, e1, e2, e3, e4, rfl⟩ | ⟨i, j, e1, e2, rfl⟩
    · exact .inl ⟨p, xs, e1, e2, e3, e4, q _ _ _ (Grow.refl l) (.bl _)⟩
    · exact .inr (.inl ⟨p, ds, e1, e2, e3, e4, q _ _ _ (Grow.refl l) (.bl _)⟩)
    · exact .inr (.inr (.inl ⟨p, ds, e1, e2, e3, e4, q _ _ _ (Grow.refl l) (.bl _)⟩))
    · exact .inr (.inr (.inr ⟨i, j, e1, e2, q _ _ _ (Grow.refl l) (.bl _)⟩))
  · cases h
theorem vo_notin : VO2 g (rNotInA g.K) opNotIn := by
  intro H F v u d e z l rd re h Q q
  unfold opNotIn at h
  split at h
  · rename_i b hb
    cases h
    rcases inD_cases l rd re hb with ⟨p, xs, e1, e2, e3, e4, rfl⟩ | ⟨p, ds, e1, e2, e3, e4, rfl⟩ | ⟨p, ds, e1, e2, e3, e4, rfl⟩ | ⟨i, j, e1, e2, rfl⟩
    · exact .inl ⟨p, xs, e1, e2, e3, e4, q _ _ _ (Grow.refl l) (.bl _)⟩
    · exact .inr (.inl ⟨p, ds, e1, e2, e3, e4, q _ _ _ (Grow.refl l) (.bl _)⟩)
    · exact .inr (.inr (.inl ⟨p, ds, e1, e2, e3, e4, q _ _ _ (Grow.refl l) (.bl _)⟩))
    · exact .inr (.inr (.inr ⟨i, j, e1, e2, q _ _ _ (Grow.refl l) (.bl _)⟩))
  · cases h
/-! items -/
@[simp] def opIx : D → D → Option D
  | .lst xs, .int i => atI xs i
  | .tup xs, .int i => atI xs i
  | .str z, .int i => if z.length ≤ big then match atI z.cps.toList i with | some c => some (.str ⟨#[c]⟩) | none => none else none
  | _, _ => none
theorem atI_rl {F : Hp} {vs : List V} {ds : List D} {i : Int} {z : D} (r : Rl g F vs ds) (h : atI ds i = some z) : ∃ v, atI vs i = some v ∧ Rv g F v z := by
  unfold atI at h ⊢
  rw [r.length]
  cases e : ixN ds.length i with
  | none => rw [e] at h; cases h
  | some j =>
    rw [e] at h
    obtain ⟨v, h1, h2⟩ := r.get (show ds[j]? = some z from h)
    exact ⟨v, h1, h2⟩
theorem vo_ix : VO2 g (rIx g.K) opIx := by
  intro H F v u d e z l rd re h Q q
  unfold opIx at h
  split at h
  · cases re.int
    obtain ⟨a, vs, rfl, h1, r1⟩ := rd.lst l
    obtain ⟨w, h2, r2⟩ := atI_rl r1 h
    exact .inl ⟨a, vs, _, w, rfl, rfl, sqL_of h1, h2, q _ _ _ (Grow.refl l) r2⟩
  · cases re.int
    obtain ⟨a, vs, rfl, h1, r1⟩ := rd.tup l
    obtain ⟨w, h2, r2⟩ := atI_rl r1 h
    exact .inr (.inl ⟨a, vs, _, w, rfl, rfl, h1, h2, q _ _ _ (Grow.refl l) r2⟩)
  · split at h
    · rename_i hz
      split at h
      · rename_i c hc
        cases h; cases re.int; cases rd.str
        exact .inr (.inr ⟨_, _, c, rfl, rfl, by rw [← big_eq]; exact hz, hc, q _ _ _ (Grow.refl l) (.str _)⟩)
      · cases h
    · cases h
  · cases h
/-! built-in functions of one or two values -/
@[simp] def opLen : D → Option D
  | .lst xs => some (.int xs.length)
  | .tup xs => some (.int xs.length)
  | .str z => if z.length ≤ big then some (.int z.length) else none
  | _ => none
def rLenD (K : PySem.W.Frag) : List V → Hp → VK → Prop := fun xs H Q => (∃ p ys, xs = [.ref p] ∧ (SqL K H p ys ∨ SqT K H p ys) ∧ Q (.int ys.length) H) ∨ ∃ z, xs = [.str z] ∧ z.length ≤ sizeLine ∧ Q (.int z.length) H
theorem call_lenD {X : Cx} : CallR X (.builtin "len") (rLenD X.K) := call_len_seq.or call_len_str
theorem vo_len : VOC g (rLenD g.K) opLen := by
  intro H F v d z l rd h Q q
  unfold opLen at h
  split at h
  · cases h
    obtain ⟨a, vs, rfl, h1, r1⟩ := rd.lst l
    exact .inl ⟨a, vs, rfl, .inl (sqL_of h1), by rw [r1.length]; exact q _ _ _ (Grow.refl l) (.int _)⟩
  · cases h
    obtain ⟨a, vs, rfl, h1, r1⟩ := rd.tup l
    exact .inl ⟨a, vs, rfl, .inr h1, by rw [r1.length]; exact q _ _ _ (Grow.refl l) (.int _)⟩
  · split at h
    · rename_i hz
      cases h; cases rd.str
      exact .inr ⟨_, rfl, by rw [← big_eq]; exact hz, q _ _ _ (Grow.refl l) (.int _)⟩
    · cases h
  · cases h
@[simp] def opAbs : D → Option D
  | .int i => some (.int (if i < 0 then -i else i))
  | _ => none
theorem vo_abs : VOC g (fun xs H Q => ∃ i, xs = [.int i] ∧ Q (.int (if i < 0 then -i else i)) H) opAbs := by
  intro H F v d z l rd h Q q
  unfold opAbs at h
  split at h
  · cases h; cases rd.int; exact ⟨_, rfl, q _ _ _ (Grow.refl l) (.int _)⟩
  · cases h
@[simp] def opMax2 : D → D → Option D
  | .int i, .int j => some (.int (if j > i then j else i))
  | _, _ => none
theorem vo_max2 : VOC2 g (fun xs H Q => ∃ i j, xs = [.int i, .int j] ∧ Q (.int (if j > i then j else i)) H) opMax2 := by
  intro H F v u d e z l rd re h Q q
  unfold opMax2 at h
  split at h
  · cases h; cases rd.int; cases re.int; exact ⟨_, _, rfl, q _ _ _ (Grow.refl l) (.int _)⟩
  · cases h
@[simp] def opMin2 : D → D → Option D
  | .int i, .int j => some (.int (if j < i then j else i))
  | _, _ => none
theorem vo_min2 : VOC2 g (fun xs H Q => ∃ i j, xs = [.int i, .int j] ∧ Q (.int (if j < i then j else i)) H) opMin2 := by
  intro H F v u d e z l rd re h Q q
  unfold opMin2 at h
  split at h
  · cases h; cases rd.int; cases re.int; exact ⟨_, _, rfl, q _ _ _ (Grow.refl l) (.int _)⟩
  · cases h
@[simp] def opInt : D → Option D
  | .int i => some (.int i)
  | .bl b => some (.int (if b then 1 else 0))
  | _ => none
theorem vo_int : VOC g (fun xs H Q => (∃ i, xs = [.int i] ∧ Q (.int i) H) ∨ ∃ k, xs = [.bl k] ∧ Q (.int (if k then 1 else 0)) H) opInt := by
  intro H F v d z l rd h Q q
  unfold opInt at h
  split at h
  · cases h; cases rd.int; exact .inl ⟨_, rfl, q _ _ _ (Grow.refl l) (.int _)⟩
  · cases h; cases rd.bl; exact .inr ⟨_, rfl, q _ _ _ (Grow.refl l) (.int _)⟩
  · cases h
@[simp] def opStr : D → Option D
  | .int i => if i.natAbs.log2 < 1920 then some (.str (toString i : String)) else none
  | _ => none
theorem vo_str : VOC g (fun xs H Q => ∃ i, xs = [.int i] ∧ i.natAbs.log2 < 1920 ∧ Q (.str (toString i : String)) H) opStr := by
  intro H F v d z l rd h Q q
  unfold opStr at h
  split at h
  · split at h
    · rename_i hz
      cases h; cases rd.int; exact ⟨_, rfl, hz, q _ _ _ (Grow.refl l) (.str _)⟩
    · cases h
  · cases h
@[simp] def opTuple : D → Option D
  | .lst xs => some (.tup xs)
  | .tup xs => some (.tup xs)
  | _ => none
theorem vo_tuple : VOC g (rTupN g.K) opTuple := by
  intro H F v d z l rd h Q q
  unfold opTuple at h
  split at h
  · cases h
    obtain ⟨a, vs, rfl, h1, r1⟩ := rd.lst l
    exact ⟨a, vs, rfl, .inl ⟨sqL_of h1, newT l r1 q⟩⟩
  · cases h
    rcases rd with rd | ⟨_, _, _, _, e, _⟩
    · obtain ⟨a, vs, rfl, h1, r1⟩ := Br.tup l (.inl rd)
      exact ⟨a, vs, rfl, .inr ⟨h1, q _ _ _ (Grow.refl l) rd⟩⟩
    · cases e
  · cases h
@[simp] def nList : D → Option (List D)
  | .lst xs => some xs
  | .tup xs => some xs
  | _ => none
theorem vn_list : VN1 g (fun v => (fun xs H Q => ∃ p ys, xs = [V.ref p] ∧ (SqL g.K H p ys ∨ SqT g.K H p ys) ∧ ∀ l, H l = none → Q (.ref l) (upd H l (.lst ys))) [v]) nList := by
  intro H F v d z l rd h Q q
  unfold nList at h
  split at h
  · cases h
    obtain ⟨a, vs, rfl, h1, r1⟩ := rd.lst l
    exact ⟨a, vs, rfl, .inl (sqL_of h1), fun p hp => q _ _ hp r1⟩
  · cases h
    obtain ⟨a, vs, rfl, h1, r1⟩ := rd.tup l
    exact ⟨a, vs, rfl, .inr h1, fun p hp => q _ _ hp r1⟩
  · cases h
/-! lists of ints, of truth values -/
def intsOf : List D → Option (List Int)
  | [] => some []
  | .int i :: r => match intsOf r with | some is => some (i :: is) | none => none
  | _ :: _ => none
theorem intsOf_eq : ∀ {ds : List D} {is : List Int}, intsOf ds = some is → ds = is.map D.int
  | [], _, e => by cases e; rfl
  | .int i :: r, _, e => by
    unfold intsOf at e
    split at e
    · rename_i js hj; cases e; rw [intsOf_eq hj]; rfl
    · cases e
def blsOf : List D → Option (List Bool)
  | [] => some []
  | .bl i :: r => match blsOf r with | some is => some (i :: is) | none => none
  | _ :: _ => none
theorem blsOf_eq : ∀ {ds : List D} {is : List Bool}, blsOf ds = some is → ds = is.map D.bl
  | [], _, e => by cases e; rfl
  | .bl i :: r, _, e => by
    unfold blsOf at e
    split at e
    · rename_i js hj; cases e; rw [blsOf_eq hj]; rfl
    · cases e
@[simp] def onInts {α : Type} (f : List Int → Option α) : D → Option α
  | .lst ds => match intsOf ds with | some is => f is | none => none
  | _ => none
theorem onInts_some {α : Type} {H F : Hp} {v : V} {f : List Int → Option α} {d : D} {z : α} (l : Same F H) (rd : Br g F H v d) (h : onInts f d = some z) : ∃ a is, v = .ref a ∧ H a = some (.lst (is.map V.int)) ∧ f is = some z := by
  unfold onInts at h
  split at h
  · split at h
    · rename_i is hi
      have := intsOf_eq hi
      subst this
      obtain ⟨a, vs, rfl, h1, r1⟩ := rd.lst l
      rw [r1.ints] at h1
      exact ⟨a, is, rfl, h1, h⟩
    · cases h
  · cases h
@[simp] def opSum : D → Option D := onInts fun is => some (.int is.sum)
theorem vo_sum : VOC g (rSum g.K) opSum := by
  intro H F v d z l rd h Q q
  obtain ⟨a, is, rfl, h1, e⟩ := onInts_some l rd h
  cases e
  exact ⟨a, is, rfl, sqL_of h1, q _ _ _ (Grow.refl l) (.int _)⟩
def minL : List Int → Int
  | [] => 0
  | [x] => x
  | x :: r => if x ≤ minL r then x else minL r
def maxL : List Int → Int
  | [] => 0
  | [x] => x
  | x :: r => if maxL r ≤ x then x else maxL r
theorem minL_spec : ∀ {is : List Int}, is ≠ [] → minL is ∈ is ∧ ∀ y ∈ is, minL is ≤ y
  | [], h => absurd rfl h
  | [x], _ => by simp [minL]
  | x :: y :: r, _ => by
    obtain ⟨h1, h2⟩ := minL_spec (is := y :: r) (by simp)
    unfold minL
    split
    · rename_i hx
      refine ⟨List.mem_cons_self, fun z hz => ?_⟩
      rcases List.mem_cons.mp hz with rfl | hz
      · exact Int.le_refl _
      · exact Int.le_trans hx (h2 z hz)
    · rename_i hx
      refine ⟨List.mem_cons_of_mem _ h1, fun z hz => ?_⟩
      rcases List.mem_cons.mp hz with rfl | hz
      · omega
      · exact h2 z hz
theorem maxL_spec : ∀ {is : List Int}, is ≠ [] → maxL is ∈ is ∧ ∀ y ∈ is, y ≤ maxL is
  | [], h => absurd rfl h
  | [x], _ => by simp [maxL]
  | x :: y :: r, _ => by
    obtain ⟨h1, h2⟩ := maxL_spec (is := y :: r) (by simp)
    unfold maxL
    split
    · rename_i hx
      refine ⟨List.mem_cons_self, fun z hz => ?_⟩
      rcases List.mem_cons.mp hz with rfl | hz
      · exact Int.le_refl _
      · exact Int.le_trans (h2 z hz) hx
    · rename_i hx
      refine ⟨List.mem_cons_of_mem _ h1, fun z hz => ?_⟩
      rcases List.mem_cons.mp hz with rfl | hz
      · omega
      · exact h2 z hz
@[simp] def opMin : D → Option D := onInts fun is => if is.isEmpty then none else some (.int (minL is))
@[simp] def opMax : D → Option D := onInts fun is => if is.isEmpty then none else some (.int (maxL is))
theorem vo_min : VOC g (rMin g.K) opMin := by
  intro H F v d z l rd h Q q
  obtain ⟨a, is, rfl, h1, e⟩ := onInts_some l rd h
  split at e
  · cases e
  · rename_i hn
    cases e
    have hne : is ≠ [] := fun e => hn (by rw [e]; rfl)
    obtain ⟨m1, m2⟩ := minL_spec hne
    refine ⟨a, is, rfl, sqL_of h1, List.length_pos_iff.mpr hne, fun m hm hy => ?_⟩
    have : m = minL is := Int.le_antisymm (hy _ m1) (m2 m hm)
    rw [this]
    exact q _ _ _ (Grow.refl l) (.int _)
theorem vo_max : VOC g (rMax g.K) opMax := by
  intro H F v d z l rd h Q q
  obtain ⟨a, is, rfl, h1, e⟩ := onInts_some l rd h
  split at e
  · cases e
  · rename_i hn
    cases e
    have hne : is ≠ [] := fun e => hn (by rw [e]; rfl)
    obtain ⟨m1, m2⟩ := maxL_spec hne
    refine ⟨a, is, rfl, sqL_of h1, List.length_pos_iff.mpr hne, fun m hm hy => ?_⟩
    have : m = maxL is := Int.le_antisymm (m2 m hm) (hy _ m1)
    rw [this]
    exact q _ _ _ (Grow.refl l) (.int _)
@[simp] def onBls {α : Type} (f : List Bool → Option α) : D → Option α
  | .lst ds => match blsOf ds with | some is => f is | none => none
  | _ => none
theorem onBls_some {α : Type} {H F : Hp} {v : V} {f : List Bool → Option α} {d : D} {z : α} (l : Same F H) (rd : Br g F H v d) (h : onBls f d = some z) : ∃ a is, v = .ref a ∧ H a = some (.lst (is.map V.bl)) ∧ f is = some z := by
  unfold onBls at h
  split at h
  · split at h
    · rename_i is hi
      have := blsOf_eq hi
      subst this
      obtain ⟨a, vs, rfl, h1, r1⟩ := rd.lst l
      rw [r1.bls] at h1
      exact ⟨a, is, rfl, h1, h⟩
    · cases h
  · cases h
@[simp] def opAll : D → Option D := onBls fun is => some (.bl (is.all id))
@[simp] def opAny : D → Option D := onBls fun is => some (.bl (is.any id))
theorem vo_all : VOC g (rAll g.K) opAll := by
  intro H F v d z l rd h Q q
  obtain ⟨a, is, rfl, h1, e⟩ := onBls_some l rd h
  cases e
  exact ⟨a, is, rfl, sqL_of h1, q _ _ _ (Grow.refl l) (.bl _)⟩
theorem vo_any : VOC g (rAny g.K) opAny := by
  intro H F v d z l rd h Q q
  obtain ⟨a, is, rfl, h1, e⟩ := onBls_some l rd h
  cases e
  exact ⟨a, is, rfl, sqL_of h1, q _ _ _ (Grow.refl l) (.bl _)⟩
end
end DL

namespace DL
open PySem PySem.Spec PyProof.Rows L2

/-! ### combinators -/
@[simp] def dVar (i : Nat) : Den D := fun st => match st[i]? with
  | some (.sh d) => .ok d st
  | some (.ow ds) => .ok (.lst ds) (st.set i (.sh (.lst ds)))
  | some (.o2 dss) => .ok (.lst (dss.map .lst)) (st.set i (.sh (.lst (dss.map .lst))))
  | _ => .stuck
@[simp] def dRd (i : Nat) : Den D := fun st => match st[i]? with
  | some (.sh d) => .ok d st
  | some (.ow ds) => .ok (.lst ds) st
  | some (.rf _ ds) => .ok (.lst ds) st
  | _ => .stuck
@[simp] def dC (d : D) : Den D := retD d
@[simp] def dOp1 (op : D → Option D) (a : Den D) : Den D := bindD a fun x => liftO (op x)
@[simp] def dOp2 (op : D → D → Option D) (a b : Den D) : Den D := bindD a fun x => bindD b fun y => liftO (op x y)
/-- first b, then the name's content -/
@[simp] def dOp2n (op : D → D → Option D) (i : Nat) (b : Den D) : Den D := bindD (dRd i) fun _ => bindD b fun y => bindD (dRd i) fun x => liftO (op x y)
@[simp] def dOp2m (op : D → D → Option D) (a : Den D) (j : Nat) : Den D := bindD a fun x => bindD (dRd j) fun y => liftO (op x y)
@[simp] def dOp1n (op : D → Option D) (i : Nat) : Den D := bindD (dRd i) fun x => liftO (op x)
@[simp] def dN1n (op : D → Option (List D)) (i : Nat) : Den (List D) := bindD (dRd i) fun x => liftO (op x)
@[simp] def dN1 (op : D → Option (List D)) (a : Den D) : Den (List D) := bindD a fun x => liftO (op x)
@[simp] def dN2 (op : D → D → Option (List D)) (a b : Den D) : Den (List D) := bindD a fun x => bindD b fun y => liftO (op x y)
@[simp] def dFrz (a : Den (List D)) : Den D := bindD a fun ds => retD (.lst ds)
@[simp] def dNil : Den (List D) := retD []
@[simp] def dCons (a : Den D) (r : Den (List D)) : Den (List D) := bindD a fun x => bindD r fun xs => retD (x :: xs)
@[simp] def dTup (a : Den (List D)) : Den D := bindD a fun ds => liftO (if ds.length ≤ big then some (.tup ds) else none)
@[simp] def dLst (a : Den (List D)) : Den (List D) := bindD a fun ds => liftO (if ds.length ≤ big then some ds else none)
@[simp] def asB : D → Option Bool
  | .bl b => some b
  | _ => none
@[simp] def dTst (a : Den D) : Den Bool := bindD a fun x => liftO (asB x)
@[simp] def dVal (a : Den Bool) : Den D := bindD a fun b => retD (.bl b)
@[simp] def dAnd (a b : Den Bool) : Den Bool := bindD a fun x => if x then b else retD false
@[simp] def dOr (a b : Den Bool) : Den Bool := bindD a fun x => if x then retD true else b
@[simp] def dNot (a : Den Bool) : Den Bool := bindD a fun x => retD (!x)
@[simp] def dIf {α : Type} (t : Den Bool) (a b : Den α) : Den α := bindD t fun x => if x then a else b
@[simp] def dChain (op op' : D → D → Option D) (a b c : Den D) : Den D := bindD a fun x => bindD b fun y => bindD (liftO (op x y)) fun z => bindD (liftO (asB z)) fun k => if k then bindD c fun w => liftO (op' y w) else retD (.bl false)

section
variable {X : Cx} {g : G} {W : WX} {e a b c : Expr} {f h k : Den D} {t u : Den Bool} {P : Par} {σ : L2.St} {H F : Hp} {st : DSt}

theorem SRc.nth (s : SR g P σ H F st) {i : Nat} {sl : Slot} (h : st[i]? = some sl) : ∃ ov, σ[i]? = some ov := by
  have := s.len
  have hi : i < st.length := by
    rcases Nat.lt_or_ge i st.length with q | q
    · exact q
    · rw [List.getElem?_eq_none q] at h; cases h
  exact ⟨σ[i], by simp [this, hi]⟩

/-- an owned list becomes data -/
theorem SR.freeze {i : Nat} {ds : List D} (s : SR g P σ H F st) (h : st[i]? = some (.ow ds)) : ∃ a F', σ[i]? = some (some (.ref a)) ∧ Same F F' ∧ Rv g F' (.ref a) (.lst ds) ∧ SR g P σ H F' (st.set i (.sh (.lst ds))) := by
  obtain ⟨ov, hov⟩ := SRc.nth s h
  obtain ⟨O, c⟩ := s
  obtain ⟨a, vs, rfl, ho, hn, ha, r⟩ := c.sl i _ _ h hov
  have fa := (c.oo a i ho).1
  have sf : Same F (upd F a (.lst vs)) := fun b o e => by
    rw [upd_ne (fun z => by subst z; rw [fa] at e; cases e)]; exact e
  have rv : Rv g (upd F a (.lst vs)) (.ref a) (.lst ds) := .lst upd_same (r.mono sf)
  refine ⟨a, upd F a (.lst vs), hov, sf, rv, fun b => if b = a then none else O b, ?_⟩
  refine ⟨fun b o e => ?_, c.rr, fun b j e => ?_, fun b n => ?_, by rw [List.length_set]; exact c.len, fun j s ov e1 e2 => ?_⟩
  · by_cases hb : b = a
    · subst hb; rw [upd_same] at e; cases e; exact ha
    · rw [upd_ne hb] at e; exact c.le _ _ e
  · by_cases hb : b = a
    · subst hb; simp at e
    · simp only [if_neg hb] at e
      rw [upd_ne hb]; exact c.oo b j e
  · have hb : b ≠ a := fun z => hn (z ▸ n)
    rw [upd_ne hb]; exact c.no b n
  · by_cases hj : j = i
    · subst hj
      have hlt : j < st.length := by
        rcases Nat.lt_or_ge j st.length with q | q
        · exact q
        · rw [List.getElem?_eq_none q] at h; cases h
      rw [List.getElem?_set_self hlt] at e1
      cases e1
      rw [hov] at e2; cases e2
      exact ⟨_, rfl, rv⟩
    · rw [List.getElem?_set_ne (Ne.symm hj)] at e1
      exact (c.sl j s ov e1 e2).move rfl (fun b o => by
        have hb : b ≠ a := fun z => hj (by rw [z, ho] at o; exact (Option.some.inj o).symm)
        simp only [if_neg hb]; exact o) sf (fun _ _ _ h => h) fun _ _ h => h

theorem Rl.of_get {F : Hp} : ∀ {vs : List V} {ds : List D}, vs.length = ds.length → (∀ (j : Nat) (v : V) (d : D), vs[j]? = some v → ds[j]? = some d → Rv g F v d) → Rl g F vs ds
  | [], [], _, _ => .nil
  | [], _ :: _, h, _ => nomatch h
  | _ :: _, [], h, _ => nomatch h
  | v :: vs, d :: ds, h, k => .cons (k 0 v d rfl rfl) (Rl.of_get (by simpa using h) fun j v d e1 e2 => k (j + 1) v d (by simpa using e1) (by simpa using e2))
theorem lt_of_get {α : Type} {l : List α} {i : Nat} {x : α} (h : l[i]? = some x) : i < l.length := (List.getElem?_eq_some_iff.mp h).1
/-- a list of lists becomes data -/
theorem SR.freeze2 {i : Nat} {dss : List (List D)} (s : SR g P σ H F st) (h : st[i]? = some (.o2 dss)) : ∃ a F', σ[i]? = some (some (.ref a)) ∧ Same F F' ∧ Rv g F' (.ref a) (.lst (dss.map .lst)) ∧ SR g P σ H F' (st.set i (.sh (.lst (dss.map .lst)))) := by
  obtain ⟨ov, hov⟩ := SRc.nth s h
  obtain ⟨O, c⟩ := s
  obtain ⟨a, bs, rfl, ho, hn, ha, nd, na, hl, hr⟩ := c.sl i _ _ h hov
  have own : ∀ x, (x = a ∨ x ∈ bs) → O x = some i ∧ ¬ P.N x := fun x hx => by
    rcases hx with rfl | hx
    · exact ⟨ho, hn⟩
    · obtain ⟨j, hj, e⟩ := List.getElem_of_mem hx
      have e1 : bs[j]? = some x := by rw [List.getElem?_eq_getElem hj, e]
      obtain ⟨o, n, _⟩ := hr j x _ e1 (List.getElem?_eq_getElem (by rw [← hl]; exact hj))
      exact ⟨o, n⟩
  let F' : Hp := fun x => if x = a ∨ x ∈ bs then H x else F x
  have fin : ∀ x, (x = a ∨ x ∈ bs) → F' x = H x := fun x hx => if_pos hx
  have fout : ∀ x, ¬ (x = a ∨ x ∈ bs) → F' x = F x := fun x hx => if_neg hx
  have sf : Same F F' := fun x o e => by
    rw [fout x fun hx => by rw [(c.oo x i (own x hx).1).1] at e; cases e]; exact e
  have rv : Rv g F' (.ref a) (.lst (dss.map .lst)) := by
    refine .lst (vs := bs.map V.ref) (by rw [fin a (.inl rfl)]; exact ha) (Rl.of_get (by simp [hl]) fun j v d e1 e2 => ?_)
    rw [List.getElem?_map] at e1 e2
    cases hb : bs[j]? with
    | none => rw [hb] at e1; cases e1
    | some b =>
      cases hd : dss[j]? with
      | none => rw [hd] at e2; cases e2
      | some ds =>
        rw [hb] at e1; rw [hd] at e2
        cases e1; cases e2
        obtain ⟨_, _, vs, h1, r1⟩ := hr j b ds hb hd
        exact .lst (by rw [fin b (.inr (List.mem_of_getElem? hb))]; exact h1) (r1.mono sf)
  refine ⟨a, F', hov, sf, rv, fun x => if x = a ∨ x ∈ bs then none else O x, ?_⟩
  refine ⟨fun x o e => ?_, c.rr, fun x j e => ?_, fun x n => ?_, by rw [List.length_set]; exact c.len, fun j s ov e1 e2 => ?_⟩
  · by_cases hx : x = a ∨ x ∈ bs
    · rw [fin x hx] at e; exact e
    · rw [fout x hx] at e; exact c.le x o e
  · by_cases hx : x = a ∨ x ∈ bs
    · simp [hx] at e
    · simp only [if_neg hx] at e
      rw [fout x hx]; exact c.oo x j e
  · have hx : ¬ (x = a ∨ x ∈ bs) := fun hx => (own x hx).2 n
    rw [fout x hx]; exact c.no x n
  · by_cases hj : j = i
    · subst hj
      rw [List.getElem?_set_self (lt_of_get h)] at e1
      cases e1
      rw [hov] at e2; cases e2
      exact ⟨_, rfl, rv⟩
    · rw [List.getElem?_set_ne (Ne.symm hj)] at e1
      exact (c.sl j s ov e1 e2).move rfl (fun x o => by
        have hx : ¬ (x = a ∨ x ∈ bs) := fun hx => hj (by rw [(own x hx).1] at o; exact (Option.some.inj o).symm)
        simp only [if_neg hx]; exact o) sf (fun _ _ _ h => h) fun _ _ h => h
theorem ev_var {i : Nat} (he : PE X e (tVar i)) : PE X e (tE g W (dVar i)) := he.imp fun σ H Q ⟨P, F, st, s, o⟩ => by
  unfold dVar at o
  split at o
  · rename_i d hd
    obtain ⟨ov, hov⟩ := SRc.nth s hd
    obtain ⟨O, c⟩ := id s
    obtain ⟨v, rfl, r⟩ := c.sl i _ _ hd hov
    exact ⟨v, hov, o H F (Same.refl _) s v r⟩
  · rename_i ds hd
    obtain ⟨a, F', h1, sf, r, s'⟩ := s.freeze hd
    exact ⟨_, h1, o H F' sf s' _ r⟩
  · rename_i dss hd
    obtain ⟨a, F', h1, sf, r, s'⟩ := s.freeze2 hd
    exact ⟨_, h1, o H F' sf s' _ r⟩
  · exact o.elim
theorem rd_at {i : Nat} {d : D} {st' : DSt} (s : SR g P σ H F st) (h : dRd i st = .ok d st') : st' = st ∧ ∃ v, σ[i]? = some (some v) ∧ Br g F H v d := by
  unfold dRd at h
  split at h
  · rename_i d hd
    cases h
    obtain ⟨ov, hov⟩ := SRc.nth s hd
    obtain ⟨O, c⟩ := id s
    obtain ⟨v, rfl, r⟩ := c.sl i _ _ hd hov
    exact ⟨rfl, v, hov, .inl r⟩
  · rename_i ds hd
    cases h
    obtain ⟨ov, hov⟩ := SRc.nth s hd
    obtain ⟨O, c⟩ := id s
    obtain ⟨a, vs, rfl, ho, hn, ha, r⟩ := c.sl i _ _ hd hov
    exact ⟨rfl, _, hov, .inr ⟨a, vs, ds, rfl, rfl, ha, r⟩⟩
  · rename_i ds hd
    cases h
    obtain ⟨ov, hov⟩ := SRc.nth s hd
    obtain ⟨O, c⟩ := id s
    obtain ⟨a, vs, rfl, ho, hn, ha, r⟩ := c.sl i _ _ hd hov
    exact ⟨rfl, _, hov, .inr ⟨a, vs, ds, rfl, rfl, ha, r⟩⟩
  · cases h
theorem rd_no {i : Nat} {c : Str} {fs : List (Str × D)} {st st' : DSt} : dRd i st ≠ .exn c fs st' := by
  unfold dRd
  split <;> exact fun h => by cases h
theorem ev_c {v : V} {d : D} (he : PE X e (tC v)) (r : ∀ F, Rv g F v d) : PE X e (tE g W (dC d)) := he.imp fun σ H Q ⟨P, F, st, s, o⟩ => o H F (Same.refl _) s v (r F)
theorem ev_int {i : Int} (he : PE X e (tC (.int i))) : PE X e (tE g W (dC (.int i))) := ev_c he fun _ => .int i
theorem ev_bl {i : Bool} (he : PE X e (tC (.bl i))) : PE X e (tE g W (dC (.bl i))) := ev_c he fun _ => .bl i
theorem ev_non (he : PE X e (tC .non)) : PE X e (tE g W (dC .non)) := ev_c he fun _ => .non
theorem ev_str {i : Str} (he : PE X e (tC (.str i))) : PE X e (tE g W (dC (.str i))) := ev_c he fun _ => .str i

/-- the end of an operation on values -/
theorem fin1 {r : V → Hp → VK → Prop} {op : D → Option D} (vo : VO1 g r op) {v : V} {x : D} {Q : VK} (s : SR g P σ H F st) (rx : Br g F H v x) (o : Out g W P σ F (liftO (op x) st) fun d _ H' F' => ∀ v, Rv g F' v d → Q v H') : r v H Q := by
  obtain ⟨z, ez, q⟩ := o.lift
  exact vo H F v x z s.le rx ez Q fun v' H' F' gr rv => q H' F' gr.f (s.grow gr) v' rv
theorem fin2 {r : R2} {op : D → D → Option D} (vo : VO2 g r op) {v u : V} {x y : D} {Q : VK} (s : SR g P σ H F st) (rx : Br g F H v x) (ry : Br g F H u y) (o : Out g W P σ F (liftO (op x y) st) fun d _ H' F' => ∀ v, Rv g F' v d → Q v H') : r v u H Q := by
  obtain ⟨z, ez, q⟩ := o.lift
  exact vo H F v u x y z s.le rx ry ez Q fun v' H' F' gr rv => q H' F' gr.f (s.grow gr) v' rv
theorem ev2 {r : R2} {op : D → D → Option D} (vo : VO2 g r op) (he : PE X e (tOp r (tE g W f) (tE g W h))) : PE X e (tE g W (dOp2 op f h)) := he.imp fun σ H Q ⟨P, F, st, s, o⟩ =>
  ⟨P, F, st, s, o.bind.imp fun x st1 H1 F1 le1 s1 o1 v rx => ⟨P, F1, st1, s1, o1.bind.imp fun y st2 H2 F2 le2 s2 o2 u ry => fin2 vo s2 (.inl (rx.mono le2)) (.inl ry) o2⟩⟩

/-- a name's content, read -/
theorem Out.rd {i : Nat} {α : Type} {kk : D → Den α} {K : α → DSt → Hp → Hp → Prop} (s : SR g P σ H F st) (o : Out g W P σ F (bindD (dRd i) kk st) K) :
    ∃ v d, σ[i]? = some (some v) ∧ Br g F H v d ∧ Out g W P σ F (kk d st) K := by
  unfold bindD at o
  cases e : dRd i st with
  | ok d st' =>
    rw [e] at o
    obtain ⟨rfl, v, h1, h2⟩ := rd_at s e
    exact ⟨v, d, h1, h2, o⟩
  | exn c fs st' => exact (rd_no e).elim
  | stuck => rw [e] at o; exact o.elim
theorem ev2n {r : R2} {i : Nat} {op : D → D → Option D} (vo : VO2 g r op) (he : PE X e (tOp r (tVar i) (tE g W h))) : PE X e (tE g W (dOp2n op i h)) := he.imp fun σ H Q ⟨P, F, st, s, o⟩ => by
  obtain ⟨v, d, hv, _, o1⟩ := o.rd s
  refine ⟨v, hv, P, F, st, s, o1.bind.imp fun y st2 H2 F2 le2 s2 o2 u ry => ?_⟩
  obtain ⟨v', d', hv', rx, o3⟩ := o2.rd s2
  rw [hv] at hv'; cases hv'
  exact fin2 vo s2 rx (.inl ry) o3
theorem ev2m {r : R2} {j : Nat} {op : D → D → Option D} (vo : VO2 g r op) (he : PE X e (tOp r (tE g W f) (tVar j))) : PE X e (tE g W (dOp2m op f j)) := he.imp fun σ H Q ⟨P, F, st, s, o⟩ =>
  ⟨P, F, st, s, o.bind.imp fun x st1 H1 F1 le1 s1 o1 v rx => by
    obtain ⟨v', d', hv', ry, o3⟩ := o1.rd s1
    exact ⟨v', hv', fin2 vo s1 (.inl rx) ry o3⟩⟩
theorem ev1 {r : V → Hp → VK → Prop} {op : D → Option D} (vo : VO1 g r op) (he : PE X e (tUn r (tE g W f))) : PE X e (tE g W (dOp1 op f)) := he.imp fun σ H Q ⟨P, F, st, s, o⟩ =>
  ⟨P, F, st, s, o.bind.imp fun x st1 H1 F1 le1 s1 o1 v rx => fin1 vo s1 (.inl rx) o1⟩
theorem evc1 {r : List V → Hp → VK → Prop} {op : D → Option D} (vo : VOC g r op) (he : PE X e (tCB r (tCons (tE g W f) tNil))) : PE X e (tE g W (dOp1 op f)) := he.imp fun σ H Q ⟨P, F, st, s, o⟩ =>
  ⟨P, F, st, s, o.bind.imp fun x st1 H1 F1 le1 s1 o1 v rx => fin1 vo s1 (.inl rx) o1⟩
theorem evc1n {r : List V → Hp → VK → Prop} {i : Nat} {op : D → Option D} (vo : VOC g r op) (he : PE X e (tCB r (tCons (tVar i) tNil))) : PE X e (tE g W (dOp1n op i)) := he.imp fun σ H Q ⟨P, F, st, s, o⟩ => by
  obtain ⟨v, d, hv, rx, o1⟩ := o.rd s
  exact ⟨v, hv, fin1 vo s rx o1⟩
theorem evc2 {r : List V → Hp → VK → Prop} {op : D → D → Option D} (vo : VOC2 g r op) (he : PE X e (tCB r (tCons (tE g W f) (tCons (tE g W h) tNil)))) : PE X e (tE g W (dOp2 op f h)) := he.imp fun σ H Q ⟨P, F, st, s, o⟩ =>
  ⟨P, F, st, s, o.bind.imp fun x st1 H1 F1 le1 s1 o1 v rx => ⟨P, F1, st1, s1, o1.bind.imp fun y st2 H2 F2 le2 s2 o2 u ry => fin2 vo s2 (.inl (rx.mono le2)) (.inl ry) o2⟩⟩

/-! new lists -/
theorem SR.newx {p : Addr} {o : HO} (s : SR g P σ H F st) (h : H p = none) : SRx g P σ (upd H p o) F st p := by
  obtain ⟨O, c⟩ := s
  have f0 : F p = none := by
    cases e : F p with
    | none => rfl
    | some u => rw [c.le _ _ e] at h; cases h
  have r0 : P.R p = none := by
    cases e : P.R p with
    | none => rfl
    | some u => rw [c.rr _ _ e] at h; cases h
  refine ⟨O, c.grow (Grow.new0 c.le h), ?_, f0, r0, fun n => (c.no p n).2.1 h⟩
  cases e : O p with
  | none => rfl
  | some i => exact absurd h (c.oo p i e).2.2.1
theorem SRx.sr {p : Addr} (s : SRx g P σ H F st p) : SR g P σ H F st := let ⟨O, c, _⟩ := s; ⟨O, c⟩
theorem SRx.frz {p : Addr} {vs : List V} (s : SRx g P σ H F st p) (h : H p = some (.lst vs)) : Same F (upd F p (.lst vs)) ∧ SR g P σ H (upd F p (.lst vs)) st := by
  obtain ⟨O, c, o0, f0, r0, n0⟩ := s
  have sf : Same F (upd F p (.lst vs)) := fun b o e => by
    rw [upd_ne (fun z => by subst z; rw [f0] at e; cases e)]; exact e
  refine ⟨sf, O, fun b o e => ?_, c.rr, fun b j e => ?_, fun b n => ?_, c.len, fun j s ov e1 e2 => ?_⟩
  · by_cases hb : b = p
    · subst hb; rw [upd_same] at e; cases e; exact h
    · rw [upd_ne hb] at e; exact c.le _ _ e
  · have hb : b ≠ p := fun z => by rw [z, o0] at e; cases e
    rw [upd_ne hb]; exact c.oo b j e
  · have hb : b ≠ p := fun z => n0 (z ▸ n)
    rw [upd_ne hb]; exact c.no b n
  · exact (c.sl j s ov e1 e2).move rfl (fun _ h => h) sf (fun _ _ _ h => h) fun _ _ h => h
theorem finN {r : V → Hp → VK → Prop} {op : D → Option (List D)} (vo : VN1 g r op) {v : V} {x : D} {Q : VK} (s : SR g P σ H F st) (rx : Br g F H v x) (o : OutN g W P σ F (liftO (op x) st) Q) : r v H Q := by
  cases ez : op x with
  | none => rw [ez] at o; exact o.elim
  | some zs =>
    rw [ez] at o
    exact vo H F v x zs s.le rx ez Q fun p vs hp rv => o _ F p vs (Same.refl _) (s.newx hp) upd_same rv
theorem finN2 {r : R2} {op : D → D → Option (List D)} (vo : VN2 g r op) {v u : V} {x y : D} {Q : VK} (s : SR g P σ H F st) (rx : Br g F H v x) (ry : Br g F H u y) (o : OutN g W P σ F (liftO (op x y) st) Q) : r v u H Q := by
  cases ez : op x y with
  | none => rw [ez] at o; exact o.elim
  | some zs =>
    rw [ez] at o
    exact vo H F v u x y zs s.le rx ry ez Q fun p vs hp rv => o _ F p vs (Same.refl _) (s.newx hp) upd_same rv
theorem OutN.weak {r : Res (List D)} {Q : VK} {F' : Hp} (e : Same F F') (h : OutN g W P σ F r Q) : OutN g W P σ F' r Q := by
  cases r with
  | ok a st' => exact fun H' F2 p vs e2 s => h H' F2 p vs (e.trans e2) s
  | exn c fs st' => exact fun cls dd H' F2 e2 s => h cls dd H' F2 (e.trans e2) s
  | stuck => exact h
theorem OutN.bind {α : Type} {a : Den α} {ff : α → Den (List D)} {Q : VK} (h : OutN g W P σ F (bindD a ff st) Q) : Out g W P σ F (a st) (fun x st1 _ F1 => OutN g W P σ F1 (ff x st1) Q) := by
  unfold bindD at h
  revert h
  cases a st with
  | ok x st' => exact fun h H' F' e s => OutN.weak e h
  | exn c fs st' => exact fun h => h
  | stuck => exact fun h => h
theorem OutN.rd {i : Nat} {kk : D → Den (List D)} {Q : VK} (s : SR g P σ H F st) (o : OutN g W P σ F (bindD (dRd i) kk st) Q) :
    ∃ v d, σ[i]? = some (some v) ∧ Br g F H v d ∧ OutN g W P σ F (kk d st) Q := by
  unfold bindD at o
  cases e : dRd i st with
  | ok d st' =>
    rw [e] at o
    obtain ⟨rfl, v, h1, h2⟩ := rd_at s e
    exact ⟨v, d, h1, h2, o⟩
  | exn c fs st' => exact (rd_no e).elim
  | stuck => rw [e] at o; exact o.elim
theorem evN1 {r : List V → Hp → VK → Prop} {op : D → Option (List D)} (vo : VN1 g (fun v => r [v]) op) (he : PE X e (tCB r (tCons (tE g W f) tNil))) : PE X e (tN g W (dN1 op f)) := he.imp fun σ H Q ⟨P, F, st, s, o⟩ =>
  ⟨P, F, st, s, o.bind.imp fun x st1 H1 F1 le1 s1 o1 v rx => finN vo s1 (.inl rx) o1⟩
theorem evN1n {r : List V → Hp → VK → Prop} {i : Nat} {op : D → Option (List D)} (vo : VN1 g (fun v => r [v]) op) (he : PE X e (tCB r (tCons (tVar i) tNil))) : PE X e (tN g W (dN1n op i)) := he.imp fun σ H Q ⟨P, F, st, s, o⟩ => by
  obtain ⟨v, d, hv, rx, o1⟩ := o.rd s
  exact ⟨v, hv, finN vo s rx o1⟩
theorem evN2 {r : R2} {op : D → D → Option (List D)} (vo : VN2 g r op) (he : PE X e (tOp r (tE g W f) (tE g W h))) : PE X e (tN g W (dN2 op f h)) := he.imp fun σ H Q ⟨P, F, st, s, o⟩ =>
  ⟨P, F, st, s, o.bind.imp fun x st1 H1 F1 le1 s1 o1 v rx => ⟨P, F1, st1, s1, o1.bind.imp fun y st2 H2 F2 le2 s2 o2 u ry => finN2 vo s2 (.inl (rx.mono le2)) (.inl ry) o2⟩⟩
theorem ev_frz {fn : Den (List D)} (he : PE X e (tN g W fn)) : PE X e (tE g W (dFrz fn)) := he.imp fun σ H Q ⟨P, F, st, s, o⟩ => by
  refine ⟨P, F, st, s, ?_⟩
  unfold dFrz bindD at o
  revert o
  cases fn st with
  | ok ds st' => exact fun o H' F' p vs le sx hp r => o H' (upd F' p (.lst vs)) (le.trans (sx.frz hp).1) (sx.frz hp).2 _ (.lst upd_same (r.mono (sx.frz hp).1))
  | exn c fs st' => exact fun o => o
  | stuck => exact fun o => o
/-! arguments, displays -/
theorem ea_nil (ha : PA X [] tNil) : PA X [] (tA g W dNil) := ha.imp fun σ H Q ⟨P, F, st, s, o⟩ => o H F (Same.refl _) s [] .nil
theorem ea_nil' : PA X [] (tA g W dNil) := ea_nil pa_nil
theorem ea_cons {es : List Expr} {fr : Den (List D)} (he : PE X e (tE g W f)) (hr : PA X es (tA g W fr)) (hs : starEach (e :: es) X.env = (false, eval e X.env) :: starEach es X.env := by rfl) : PA X (e :: es) (tA g W (dCons f fr)) :=
  (pa_cons he hr hs).imp fun σ H Q ⟨P, F, st, s, o⟩ => ⟨P, F, st, s, o.bind.imp fun x st1 H1 F1 le1 s1 o1 v rx => ⟨P, F1, st1, s1, o1.bind.imp fun xs st2 H2 F2 le2 s2 o2 vs rxs => o2 H2 F2 (Same.refl _) s2 _ (.cons (rx.mono le2) rxs)⟩⟩
theorem ev_tup {fr : Den (List D)} (he : PE X e (tTupN (tA g W fr))) : PE X e (tE g W (dTup fr)) := he.imp fun σ H Q ⟨P, F, st, s, o⟩ =>
  ⟨P, F, st, s, o.bind.imp fun ds st1 H1 F1 le1 s1 o1 vs rx => by
    obtain ⟨z, ez, q⟩ := o1.lift
    split at ez
    · rename_i hl
      cases ez
      exact ⟨by rw [rx.length, ← big_eq]; exact hl, newT s1.le rx fun v' H' F' gr rv => q _ _ gr.f (s1.grow gr) _ rv⟩
    · cases ez⟩
theorem evN_lst {fr : Den (List D)} (he : PE X e (tLst (tA g W fr))) : PE X e (tN g W (dLst fr)) := he.imp fun σ H Q ⟨P, F, st, s, o⟩ =>
  ⟨P, F, st, s, o.bind.imp fun ds st1 H1 F1 le1 s1 o1 vs rx => by
    unfold liftO at o1
    split at o1
    · rename_i ds' ez
      split at ez
      · rename_i hl
        cases ez
        exact ⟨by rw [rx.length, ← big_eq]; exact hl, fun p hp => o1 _ F1 p vs (Same.refl _) (s1.newx hp) upd_same rx⟩
      · cases ez
    · exact o1.elim⟩
/-! tests -/
theorem asB_some {d : D} {b : Bool} (h : asB d = some b) : d = .bl b := by
  cases d <;> cases h; rfl
theorem et_tst (he : PT X e (tB (tE g W f))) : PT X e (tT g W (dTst f)) := he.imp fun σ H Q ⟨P, F, st, s, o⟩ =>
  ⟨P, F, st, s, o.bind.imp fun x st1 H1 F1 le1 s1 o1 v rx => by
    obtain ⟨z, ez, q⟩ := o1.lift
    cases asB_some ez
    cases rx
    exact ⟨_, rfl, q H1 F1 (Same.refl _) s1⟩⟩
theorem et_cmp (he : PT X e (tTest (tE g W f))) : PT X e (tT g W (dTst f)) := et_tst he
theorem _root_.L2.PT.test {t t' : TE} (he : PT X e (tTest t)) (i : ∀ σ H Q, t' σ H Q → t σ H Q) : PT X e (tTest t') := he.imp fun σ H Q q => i _ _ _ q
theorem et_not (he : PT X e (tNot (tT g W t))) : PT X e (tT g W (dNot t)) := he.imp fun σ H Q ⟨P, F, st, s, o⟩ =>
  ⟨P, F, st, s, o.bind.imp fun x st1 H1 F1 le1 s1 o1 => o1 H1 F1 (Same.refl _) s1⟩
theorem et_and (he : PW X e (tAnd (tT g W t) (tT g W u))) : PW X e (tT g W (dAnd t u)) := he.imp fun σ H Q ⟨P, F, st, s, o⟩ =>
  ⟨P, F, st, s, o.bind.imp fun x st1 H1 F1 le1 s1 o1 => by
    cases x with
    | true => exact ⟨P, F1, st1, s1, o1⟩
    | false => exact o1 H1 F1 (Same.refl _) s1⟩
theorem et_or (he : PW X e (tOr (tT g W t) (tT g W u))) : PW X e (tT g W (dOr t u)) := he.imp fun σ H Q ⟨P, F, st, s, o⟩ =>
  ⟨P, F, st, s, o.bind.imp fun x st1 H1 F1 le1 s1 o1 => by
    cases x with
    | true => exact o1 H1 F1 (Same.refl _) s1
    | false => exact ⟨P, F1, st1, s1, o1⟩⟩
/-- and, or, not as values: all parts truth values -/
theorem ev_andV (he : PE X e (tAndV (tE g W f) (tE g W h))) : PE X e (tE g W (dIf (dTst f) h (dC (.bl false)))) := he.imp fun σ H Q ⟨P, F, st, s, o⟩ =>
  ⟨P, F, st, s, o.bind.bind.imp fun x st1 H1 F1 le1 s1 o1 v rx => by
    obtain ⟨z, ez, q⟩ := o1.lift
    cases asB_some ez
    cases rx
    refine ⟨z, rfl, ?_⟩
    cases z with
    | true => exact ⟨P, F1, st1, s1, q H1 F1 (Same.refl _) s1⟩
    | false => exact q H1 F1 (Same.refl _) s1 H1 F1 (Same.refl _) s1 _ (.bl false)⟩
theorem ev_orV (he : PE X e (tOrV (tE g W f) (tE g W h))) : PE X e (tE g W (dIf (dTst f) (dC (.bl true)) h)) := he.imp fun σ H Q ⟨P, F, st, s, o⟩ =>
  ⟨P, F, st, s, o.bind.bind.imp fun x st1 H1 F1 le1 s1 o1 v rx => by
    obtain ⟨z, ez, q⟩ := o1.lift
    cases asB_some ez
    cases rx
    refine ⟨z, rfl, ?_⟩
    cases z with
    | true => exact q H1 F1 (Same.refl _) s1 H1 F1 (Same.refl _) s1 _ (.bl true)
    | false => exact ⟨P, F1, st1, s1, q H1 F1 (Same.refl _) s1⟩⟩
theorem ev_notV (he : PE X e (tNotV (tE g W f))) : PE X e (tE g W (dVal (dNot (dTst f)))) := he.imp fun σ H Q ⟨P, F, st, s, o⟩ =>
  ⟨P, F, st, s, o.bind.bind.bind.imp fun x st1 H1 F1 le1 s1 o1 v rx => by
    obtain ⟨z, ez, q⟩ := o1.lift
    cases asB_some ez
    cases rx
    exact ⟨z, rfl, q H1 F1 (Same.refl _) s1 H1 F1 (Same.refl _) s1 H1 F1 (Same.refl _) s1 _ (.bl _)⟩⟩
theorem ev_ifE {tt : Den Bool} (he : PE X e (tIf (tT g W tt) (tE g W f) (tE g W h))) : PE X e (tE g W (dIf tt f h)) := he.imp fun σ H Q ⟨P, F, st, s, o⟩ =>
  ⟨P, F, st, s, o.bind.imp fun x st1 H1 F1 le1 s1 o1 => by
    cases x with
    | true => exact ⟨P, F1, st1, s1, o1⟩
    | false => exact ⟨P, F1, st1, s1, o1⟩⟩
theorem chain_imp {r r' : R2} {op op' : D → D → Option D} (vo : VO2 g r op) (vo' : VO2 g r' op') {Q : VK} {σ : L2.St} {H : Hp} (q : tE g W (dChain op op' f h k) σ H Q) : tChain r r' (tE g W f) (tE g W h) (tE g W k) σ H Q := by
  obtain ⟨P, F, st, s, o⟩ := q
  refine ⟨P, F, st, s, o.bind.imp fun x st1 H1 F1 le1 s1 o1 v rx => ⟨P, F1, st1, s1, o1.bind.imp fun y st2 H2 F2 le2 s2 o2 u ry => ?_⟩⟩
  obtain ⟨z, ez, q2⟩ := Out.lift o2.bind
  refine vo H2 F2 v u x y z s2.le (.inl (rx.mono le2)) (.inl ry) ez _ fun v' H' F' gr rv => ?_
  have q3 := q2 H' F' gr.f (s2.grow gr)
  obtain ⟨kb, ek, q4⟩ := Out.lift q3.bind
  cases asB_some ek
  cases rv
  refine ⟨kb, rfl, ?_⟩
  have q5 := q4 H' F' (Same.refl _) (s2.grow gr)
  cases kb with
  | true => exact ⟨P, F', st2, s2.grow gr, q5.bind.imp fun w st3 H3 F3 le3 s3 o3 vw rw' => fin2 vo' s3 (.inl ((ry.mono gr.f).mono le3)) (.inl rw') o3⟩
  | false => exact q5 H' F' (Same.refl _) (s2.grow gr) _ (.bl false)
theorem ev_chain {r r' : R2} {op op' : D → D → Option D} (vo : VO2 g r op) (vo' : VO2 g r' op') (he : PE X e (tChain r r' (tE g W f) (tE g W h) (tE g W k))) : PE X e (tE g W (dChain op op' f h k)) := he.imp fun _ _ _ q => chain_imp vo vo' q
theorem et_chain {r r' : R2} {op op' : D → D → Option D} (vo : VO2 g r op) (vo' : VO2 g r' op') (he : PT X e (tTest (tChain r r' (tE g W f) (tE g W h) (tE g W k)))) : PT X e (tT g W (dTst (dChain op op' f h k))) := et_tst (he.imp fun _ _ _ q => chain_imp vo vo' q)
/-- a comparison as a test -/
theorem et2 {r : R2} {op : D → D → Option D} (vo : VO2 g r op) (he : PT X e (tTest (tOp r (tE g W f) (tE g W h)))) : PT X e (tT g W (dTst (dOp2 op f h))) := et_tst (he.imp fun σ H Q ⟨P, F, st, s, o⟩ =>
  ⟨P, F, st, s, o.bind.imp fun x st1 H1 F1 le1 s1 o1 v rx => ⟨P, F1, st1, s1, o1.bind.imp fun y st2 H2 F2 le2 s2 o2 u ry => fin2 vo s2 (.inl (rx.mono le2)) (.inl ry) o2⟩⟩)
theorem et2m {r : R2} {j : Nat} {op : D → D → Option D} (vo : VO2 g r op) (he : PT X e (tTest (tOp r (tE g W f) (tVar j)))) : PT X e (tT g W (dTst (dOp2m op f j))) := et_tst (he.imp fun σ H Q ⟨P, F, st, s, o⟩ =>
  ⟨P, F, st, s, o.bind.imp fun x st1 H1 F1 le1 s1 o1 v rx => by
    obtain ⟨v', d', hv', ry, o3⟩ := o1.rd s1
    exact ⟨v', hv', fin2 vo s1 (.inl rx) ry o3⟩⟩)
end
end DL

namespace DL
open PySem PySem.Spec PyProof.Rows L2

/-! ### statements -/
inductive Fl where
  | nx | ret (d : D) | brk | cnt
abbrev DS := Den Fl
def OutS (g : G) (W : WX) (P : Par) (F : Hp) (r : Res Fl) (E : Ends) : Prop := match r with
  | .ok fl st' => ∀ σ' H' F', Same F F' → SR g P σ' H' F' st' → match fl with
    | .nx => E.nx σ' H'
    | .brk => E.bk σ' H'
    | .cnt => E.ct σ' H'
    | .ret d => ∀ v, Rv g F' v d → E.rt v H'
  | .exn c fs st' => ∀ cls dd σ' H' F', Same F F' → SR g P σ' H' F' st' → RepX g F' H' c fs cls dd → W cls dd σ' H'
  | .stuck => False
def tS (g : G) (W : WX) (f : DS) : TS := fun D σ H => ∃ P F st, SR g P σ H F st ∧ OutS g W P F (f st) D

@[simp] def slotSet (i : Nat) (s : Slot) (st : DSt) : Option DSt := match st[i]? with
  | some _ => some (st.set i s)
  | none => none
@[simp] def sExpr (f : Den D) : DS := bindD f fun _ => retD .nx
@[simp] def sRet (f : Den D) : DS := bindD f fun d => retD (.ret d)
@[simp] def sRetN : DS := retD (.ret .non)
@[simp] def sPass : DS := retD .nx
@[simp] def sBrk : DS := retD .brk
@[simp] def sCnt : DS := retD .cnt
@[simp] def putD (i : Nat) (s : Slot) : DS := fun st => match slotSet i s st with
  | some st' => .ok .nx st'
  | none => .stuck
@[simp] def sSet (i : Nat) (f : Den D) : DS := bindD f fun d => putD i (.sh d)
@[simp] def sOwn (i : Nat) (f : Den (List D)) : DS := bindD f fun ds => putD i (.ow ds)
@[simp] def sIf (t : Den Bool) (a b : DS) : DS := bindD t fun x => if x then a else b
@[simp] def sSeq (a b : DS) : DS := fun st => match a st with
  | .ok .nx st' => b st'
  | r => r
def sRaise (c : Str) (fs : List (Str × Den D)) : DS := fun _ => .stuck

/-- targets: one name, some names -/
inductive Tg where
  | nm (i : Nat) | nms (is : List Nat)
def Tg.is : Tg → List Nat
  | .nm i => [i]
  | .nms is => is
@[simp] def setAll : List Nat → List D → DSt → Option DSt
  | [], [], st => some st
  | i :: is, d :: ds, st => match slotSet i (.sh d) st with
    | some st' => setAll is ds st'
    | none => none
  | _, _, _ => none
@[simp] def setT (t : Tg) (d : D) (st : DSt) : Option DSt := match t with
  | .nm i => slotSet i (.sh d) st
  | .nms is => match d with
    | .tup ds => setAll is ds st
    | _ => none
def setσ : List Nat → List V → L2.St → L2.St
  | i :: is, x :: xs, σ => setσ is xs (σ.set i (some x))
  | _, _, σ => σ
def tG (g : G) (t : Tg) : TG := fun v σ H Q => ∃ P F st d, SR g P σ H F st ∧ Rv g F v d ∧ ∃ st', setT t d st = some st' ∧ ∀ xs, SR g P (setσ t.is xs σ) H F st' → Q (setσ t.is xs σ) H

def loop (t : Tg) (body : DS) : List D → DS
  | [] => retD .nx
  | d :: ds => fun st => match setT t d st with
    | none => .stuck
    | some st1 => match body st1 with
      | .ok .nx st2 => loop t body ds st2
      | .ok .cnt st2 => loop t body ds st2
      | .ok .brk st2 => .ok .nx st2
      | r => r
@[simp] def sFor (t : Tg) (fi : Den (List D)) (body : DS) : DS := bindD fi fun ds => loop t body ds
def sWhile (t : Den Bool) (body : DS) : Nat → DS
  | 0 => fun _ => .stuck
  | n + 1 => fun st => match t st with
    | .ok true st1 => match body st1 with
      | .ok .nx st2 => sWhile t body n st2
      | .ok .cnt st2 => sWhile t body n st2
      | .ok .brk st2 => .ok .nx st2
      | r => r
    | .ok false st1 => .ok .nx st1
    | .exn c fs st' => .exn c fs st'
    | .stuck => .stuck

section
variable {X : Cx} {g : G} {W : WX} {P : Par} {σ : L2.St} {H F : Hp} {st : DSt} {e : Expr} {s : Stmt} {ss : List Stmt} {f : Den D} {t : Den Bool} {a b : DS}

theorem OutS.weak {r : Res Fl} {E : Ends} {F' : Hp} (e : Same F F') (h : OutS g W P F r E) : OutS g W P F' r E := by
  cases r with
  | ok a st' => exact fun σ' H' F2 e2 s => h σ' H' F2 (e.trans e2) s
  | exn c fs st' => exact fun cls dd σ' H' F2 e2 s => h cls dd σ' H' F2 (e.trans e2) s
  | stuck => exact h
theorem OutS.bind {α : Type} {a : Den α} {k : α → DS} {E : Ends} (h : OutS g W P F (bindD a k st) E) : Out g W P σ F (a st) (fun x st1 _ F1 => OutS g W P F1 (k x st1) E) := by
  unfold bindD at h
  revert h
  cases a st with
  | ok x st' => exact fun h H' F' e s => OutS.weak e h
  | exn c fs st' => exact fun h cls dd H' F' e s => h cls dd σ H' F' e s
  | stuck => exact fun h => h

/-- a slot is stored -/
theorem slotSet_some {i : Nat} {sl : Slot} {st' : DSt} (h : slotSet i sl st = some st') : i < st.length ∧ st' = st.set i sl := by
  unfold slotSet at h
  split at h
  · rename_i x hx
    cases h
    refine ⟨?_, rfl⟩
    rcases Nat.lt_or_ge i st.length with q | q
    · exact q
    · rw [List.getElem?_eq_none q] at hx; cases hx
  · cases h
theorem SR.put {i : Nat} {v : V} {d : D} (s : SR g P σ H F st) (r : Rv g F v d) (hi : i < st.length) : SR g P (σ.set i (some v)) H F (st.set i (.sh d)) := by
  obtain ⟨O, c⟩ := s
  refine ⟨fun b => if O b = some i then none else O b, c.le, c.rr, fun b j e => ?_, c.no, by rw [List.length_set, List.length_set]; exact c.len, fun j s ov e1 e2 => ?_⟩
  · by_cases hb : O b = some i
    · simp [hb] at e
    · simp only [if_neg hb] at e; exact c.oo b j e
  · by_cases hj : j = i
    · subst hj
      rw [List.getElem?_set_self hi] at e1
      rw [List.getElem?_set_self (by rw [c.len]; exact hi)] at e2
      cases e1; cases e2
      exact ⟨v, rfl, r⟩
    · rw [List.getElem?_set_ne (Ne.symm hj)] at e1 e2
      exact (c.sl j s ov e1 e2).move rfl (fun b o => by
        show (if O b = some i then none else O b) = some j
        rw [if_neg (by rw [o]; intro z; exact hj (Option.some.inj z))]; exact o) (Same.refl _) (fun _ _ _ h => h) fun _ _ h => h
theorem SRx.own {p : Addr} {i : Nat} {vs : List V} {ds : List D} (s : SRx g P σ H F st p) (h : H p = some (.lst vs)) (r : Rl g F vs ds) (hi : i < st.length) : SR g P (σ.set i (some (.ref p))) H F (st.set i (.ow ds)) := by
  obtain ⟨O, c, o0, f0, r0, n0⟩ := s
  refine ⟨fun b => if b = p then some i else if O b = some i then none else O b, c.le, c.rr, fun b j e => ?_, c.no, by rw [List.length_set, List.length_set]; exact c.len, fun j s ov e1 e2 => ?_⟩
  · by_cases hp : b = p
    · subst hp; exact ⟨f0, r0, NT.of h⟩
    · simp only [if_neg hp] at e
      by_cases hb : O b = some i
      · simp [hb] at e
      · simp only [if_neg hb] at e; exact c.oo b j e
  · by_cases hj : j = i
    · subst hj
      rw [List.getElem?_set_self hi] at e1
      rw [List.getElem?_set_self (by rw [c.len]; exact hi)] at e2
      cases e1; cases e2
      exact ⟨p, vs, rfl, by simp, n0, h, r⟩
    · rw [List.getElem?_set_ne (Ne.symm hj)] at e1 e2
      exact (c.sl j s ov e1 e2).move rfl (fun b o => by
        have hp : b ≠ p := fun z => by rw [z, o0] at o; cases o
        simp only [if_neg hp]
        rw [if_neg (by rw [o]; intro z; exact hj (Option.some.inj z))]; exact o) (Same.refl _) (fun _ _ _ h => h) fun _ _ h => h

theorem es_expr (he : PS X s (tDrop (tE g W f))) : PS X s (tS g W (sExpr f)) := he.imp fun D σ H ⟨P, F, st, s, o⟩ =>
  ⟨P, F, st, s, o.bind.imp fun x st1 H1 F1 le1 s1 o1 v rx => o1 σ H1 F1 (Same.refl _) s1⟩
theorem es_ret (he : PS X s (tRet (tE g W f))) : PS X s (tS g W (sRet f)) := he.imp fun D σ H ⟨P, F, st, s, o⟩ =>
  ⟨P, F, st, s, o.bind.imp fun x st1 H1 F1 le1 s1 o1 v rx => o1 σ H1 F1 (Same.refl _) s1 v rx⟩
theorem es_retN (he : PS X s tRetN) : PS X s (tS g W sRetN) := he.imp fun D σ H ⟨P, F, st, s, o⟩ => o σ H F (Same.refl _) s .non .non
theorem es_pass (he : PS X s tNext) : PS X s (tS g W sPass) := he.imp fun D σ H ⟨P, F, st, s, o⟩ => o σ H F (Same.refl _) s
theorem es_brk (he : PS X s tBreak) : PS X s (tS g W sBrk) := he.imp fun D σ H ⟨P, F, st, s, o⟩ => o σ H F (Same.refl _) s
theorem es_cnt (he : PS X s tCont) : PS X s (tS g W sCnt) := he.imp fun D σ H ⟨P, F, st, s, o⟩ => o σ H F (Same.refl _) s
theorem es_never : PS X s (tS g W fun _ => .stuck) := (ps_never (X := X) (st := s)).imp fun D σ H ⟨P, F, st, s, o⟩ => o
theorem es_set {i : Nat} (he : PS X s (tAsg (tE g W f) (gName i))) : PS X s (tS g W (sSet i f)) := he.imp fun D σ H ⟨P, F, st, s, o⟩ =>
  ⟨P, F, st, s, o.bind.imp fun x st1 H1 F1 le1 s1 o1 v rx => by
    unfold putD at o1
    split at o1
    · rename_i st' h
      obtain ⟨hi, rfl⟩ := slotSet_some h
      exact o1 _ H1 F1 (Same.refl _) (s1.put rx hi)
    · exact o1.elim⟩
theorem es_own {i : Nat} {fn : Den (List D)} (he : PS X s (tAsg (tN g W fn) (gName i))) : PS X s (tS g W (sOwn i fn)) := he.imp fun D σ H ⟨P, F, st, s, o⟩ => by
  refine ⟨P, F, st, s, ?_⟩
  unfold sOwn bindD at o
  revert o
  cases fn st with
  | ok ds st' =>
    intro o H' F' p vs le sx hp r
    have o : OutS g W P F (putD i (.ow ds) st') D := o
    unfold putD at o
    split at o
    · rename_i st2 h
      obtain ⟨hi, rfl⟩ := slotSet_some h
      exact o _ H' F' le (sx.own hp r hi)
    · exact o.elim
  | exn c fs st' => exact fun o cls dd H' F' e s => o cls dd σ H' F' e s
  | stuck => exact fun o => o
theorem es_if (he : PS X s (tIfS (tT g W t) (tS g W a) (tS g W b))) : PS X s (tS g W (sIf t a b)) := he.imp fun D σ H ⟨P, F, st, s, o⟩ =>
  ⟨P, F, st, s, o.bind.imp fun x st1 H1 F1 le1 s1 o1 => by
    cases x with
    | true => exact ⟨P, F1, st1, s1, o1⟩
    | false => exact ⟨P, F1, st1, s1, o1⟩⟩
theorem seq_imp {D : Ends} (q : tS g W (sSeq a b) D σ H) : tSeq (tS g W a) (tS g W b) D σ H := by
  obtain ⟨P, F, st, s, o⟩ := q
  refine ⟨P, F, st, s, ?_⟩
  unfold sSeq at o
  revert o
  cases a st with
  | ok fl st' =>
    cases fl with
    | nx => exact fun o σ' H' F' le s' => ⟨P, F', st', s', OutS.weak le o⟩
    | ret d => exact fun o => o
    | brk => exact fun o => o
    | cnt => exact fun o => o
  | exn c fs st' => exact fun o => o
  | stuck => exact fun o => o
theorem ess_cons (h1 : PS X s (tS g W a)) (h2 : PSs X ss (tS g W b)) : PSs X (s :: ss) (tS g W (sSeq a b)) := (pss_cons h1 h2).imp fun _ _ _ q => seq_imp q
theorem ess_one (h1 : PS X s (tS g W a)) : PSs X [s] (tS g W a) := pss_one h1
theorem ess_nil : PSs X [] (tS g W sPass) := (pss_nil (X := X)).imp fun D σ H ⟨P, F, st, s, o⟩ => o σ H F (Same.refl _) s

/-! targets -/
theorem _root_.L2.PG.imp {X : Cx} {e : Expr} {t t' : TG} (h : PG X e t) (i : ∀ v σ H Q, t' v σ H Q → t v σ H Q) : PG X e t' := ⟨fun pins s σ H v u Q I r q => h.run pins s σ H v u Q I r (i v σ H Q q)⟩
theorem eg_nm {i : Nat} (h : PG X e (gName i)) : PG X e (tG g (.nm i)) := h.imp fun v σ H Q ⟨P, F, st, d, s, r, st', e, q⟩ => by
  obtain ⟨hi, rfl⟩ := slotSet_some e
  exact q [v] (s.put r hi)
def gNames : List Nat → TGs
  | [] => gNil
  | i :: is => gCons (gName i) (gNames is)
theorem gNames_imp : ∀ (is : List Nat) (vs : List V) (ds : List D) (σ : L2.St) (H F : Hp) (st st' : DSt) (Q : L2.St → Hp → Prop), SR g P σ H F st → Rl g F vs ds → setAll is ds st = some st' → (∀ xs, SR g P (setσ is xs σ) H F st' → Q (setσ is xs σ) H) → gNames is vs σ H Q
  | [], vs, ds, σ, H, F, st, st', Q, s, r, e, q => by
    cases ds with
    | nil => cases r; cases e; exact ⟨rfl, q [] s⟩
    | cons d ds => cases e
  | i :: is, vs, ds, σ, H, F, st, st', Q, s, r, e, q => by
    cases ds with
    | nil => cases e
    | cons d ds =>
      cases r with
      | cons r1 rs =>
        unfold setAll at e
        split at e
        · rename_i st1 h1
          obtain ⟨hi, rfl⟩ := slotSet_some h1
          exact ⟨_, _, rfl, gNames_imp is _ ds _ H F _ st' Q (s.put r1 hi) rs e fun xs => q (_ :: xs)⟩
        · cases e
theorem setAll_length : ∀ {is : List Nat} {ds : List D} {st st' : DSt}, setAll is ds st = some st' → ds.length = is.length
  | [], [], _, _, _ => rfl
  | [], _ :: _, _, _, e => by cases e
  | _ :: _, [], _, _, e => by cases e
  | i :: is, d :: ds, st, st', e => by
    unfold setAll at e
    split at e
    · rw [List.length_cons, List.length_cons, setAll_length e]
    · cases e
theorem eg_nms {is : List Nat} {n : Nat} (h : PG X e (gTup g.K n (gNames is))) (hn : n = is.length) : PG X e (tG g (.nms is)) := h.imp fun v σ H Q ⟨P, F, st, d, s, r, st', e, q⟩ => by
  cases d with
  | tup ds =>
    obtain ⟨a, vs, rfl, h1, r1⟩ := Br.tup s.le (.inl r)
    exact ⟨a, vs, rfl, h1, by rw [r1.length, setAll_length e, hn], gNames_imp is vs ds σ H F st st' Q s r1 e q⟩
  | _ => cases e

/-! what a loop walks -/
/-- what a turn gives: a thing that is known; a tuple that stands there or is new -/
def Yl (g : G) (F H H' : Hp) (x : V) (d : D) : Prop := (H' = H ∧ Rv g F x d) ∨
  ∃ (q : Addr) (ws : List V) (es : List D), x = .ref q ∧ d = .tup es ∧ Rl g F ws es ∧ g.tk = false ∧ ((H' = H ∧ H q = some (.tup ws)) ∨ (H q = none ∧ H' = upd H q (.tup ws)))
theorem SR.frzT {q : Addr} {ws : List V} (s : SR g P σ H F st) (h : H q = some (.tup ws)) : Same F (upd F q (.tup ws)) ∧ SR g P σ H (upd F q (.tup ws)) st := by
  obtain ⟨O, c⟩ := s
  have sf : Same F (upd F q (.tup ws)) := fun b o e => by
    by_cases hb : b = q
    · subst hb; rw [upd_same]; rw [c.le _ _ e] at h; exact h.symm
    · rw [upd_ne hb]; exact e
  refine ⟨sf, O, fun b o e => ?_, c.rr, fun b j e => ?_, fun b n => ?_, c.len, fun j s ov e1 e2 => (c.sl j s ov e1 e2).move rfl (fun _ h => h) sf (fun _ _ _ h => h) fun _ _ h => h⟩
  · by_cases hb : b = q
    · subst hb; rw [upd_same] at e; rw [← e]; exact h
    · rw [upd_ne hb] at e; exact c.le _ _ e
  · have hb : b ≠ q := fun z => (c.oo b j e).2.2.2 ws (by rw [z]; exact h)
    rw [upd_ne hb]; exact c.oo b j e
  · have hb : b ≠ q := fun z => (c.no b n).2.2 ws (by rw [z]; exact h)
    rw [upd_ne hb]; exact c.no b n
theorem SR.yl {F0 H' : Hp} {x : V} {d : D} (s : SR g P σ H F st) (le : Same F0 F) (y : Yl g F0 H H' x d) : ∃ F', Same F F' ∧ SR g P σ H' F' st ∧ Rv g F' x d := by
  rcases y with ⟨rfl, r⟩ | ⟨q, ws, es, rfl, rfl, r, tk, ⟨rfl, h⟩ | ⟨h, rfl⟩⟩
  · exact ⟨F, Same.refl _, s, r.mono le⟩
  · obtain ⟨sf, s'⟩ := s.frzT h
    exact ⟨_, sf, s', .tup (.inl (.inl upd_same)) (by unfold TkP; rw [tk]; exact upd_same) (r.mono (le.trans sf))⟩
  · exact ⟨_, (Grow.new s.le h).f, s.grow (Grow.new s.le h), .tup (.inl (.inl upd_same)) (by unfold TkP; rw [tk]; exact upd_same) (r.mono (le.trans (Grow.new s.le h).f))⟩
structure Wk (g : G) (J : It) (F : Hp) (ds : List D) : Prop where
  stop : ∀ H', Same F H' → J.stop ds.length H'
  go : ∀ i H', Same F H' → i < ds.length → J.go i H'
  yld : ∀ i H' x H'', Same F H' → i < ds.length → J.yld i H' x H'' → ∃ d, ds[i]? = some d ∧ Yl g F H' H'' x d
def tI (g : G) (W : WX) (fi : Den (List D)) : TI := fun σ H R => ∃ P F st, SR g P σ H F st ∧ Out g W P σ F (fi st) fun ds _ H' F' => ∀ J, Wk g J F' ds → R J H'
theorem _root_.L2.PI.imp {X : Cx} {tg it : Expr} {w w' : TI} (h : PI X tg it w) (i : ∀ σ H R, w' σ H R → w σ H R) : PI X tg it w' := ⟨fun pins s σ H R I q => h.run pins s σ H R I (i σ H R q)⟩
@[simp] def itemsOf : D → Option (List D)
  | .lst xs => some xs
  | .tup xs => some xs
  | _ => none
@[simp] def dItems (f : Den D) : Den (List D) := bindD f fun d => liftO (itemsOf d)
@[simp] def rangeL (n : Int) : Option (List D) := if n.natAbs ≤ big then some ((List.range n.toNat).map fun k : Nat => D.int (k : Int)) else none
@[simp] def rangeL2 (m n : Int) : Option (List D) := if m.natAbs ≤ big ∧ n.natAbs ≤ big then some ((List.range (n - m).toNat).map fun k => D.int (m + (k : Nat))) else none
@[simp] def rngD : D → Option (List D)
  | .int n => rangeL n
  | _ => none
@[simp] def rngD2 : D → D → Option (List D)
  | .int m, .int n => rangeL2 m n
  | _, _ => none
@[simp] def dRng (f : Den D) : Den (List D) := bindD f fun d => liftO (rngD d)
@[simp] def dRng2 (f h : Den D) : Den (List D) := bindD f fun d => bindD h fun d2 => liftO (rngD2 d d2)
theorem wk_l {F : Hp} {a : Addr} {vs : List V} {ds : List D} (h : F a = some (.lst vs)) (r : Rl g F vs ds) : Wk g (Itl g.K a) F ds where
  stop := fun H' le => ⟨vs, sqL_of (le _ _ h), by rw [r.length]; exact Nat.le_refl _⟩
  go := fun i H' le hi => ⟨vs, vs[i]'(by rw [r.length]; exact hi), sqL_of (le _ _ h), by simp [r.length, hi]⟩
  yld := fun i H' x H'' le hi y => by
    obtain ⟨e, y⟩ := y
    obtain ⟨d, h1, h2⟩ := r.get' (y vs (sqL_of (le _ _ h)))
    exact ⟨d, h1, .inl ⟨e, h2⟩⟩
theorem wk_t {F : Hp} {a : Addr} {vs : List V} {ds : List D} (h : SqT g.K F a vs) (r : Rl g F vs ds) : Wk g (Itt g.K a) F ds where
  stop := fun H' le => ⟨vs, sqT_mono le h, by rw [r.length]; exact Nat.le_refl _⟩
  go := fun i H' le hi => ⟨vs, vs[i]'(by rw [r.length]; exact hi), sqT_mono le h, by simp [r.length, hi]⟩
  yld := fun i H' x H'' le hi y => by
    obtain ⟨e, y⟩ := y
    obtain ⟨d, h1, h2⟩ := r.get' (y vs (sqT_mono le h))
    exact ⟨d, h1, .inl ⟨e, h2⟩⟩
theorem wk_r (F : Hp) (lo : Int) (n : Nat) : Wk g (Itr lo n) F ((List.range n).map fun k => D.int (lo + (k : Nat))) where
  stop := fun H' le => by show n ≤ _; simp
  go := fun i H' le hi => by show i < n; simpa using hi
  yld := fun i H' x H'' le hi y => by
    obtain ⟨e, y⟩ := y
    refine ⟨.int (lo + i), ?_, .inl ⟨e, ?_⟩⟩
    · have : i < n := by simpa using hi
      simp [this]
    · rw [y]; exact .int _
def iAny (K : PySem.W.Frag) (tl : TE) : TI := fun σ H R => tl σ H fun x H1 => ∃ a, x = .ref a ∧ (((∃ xs, SqL K H1 a xs) ∧ R (Itl K a) H1) ∨ ((∃ xs, SqT K H1 a xs) ∧ R (Itt K a) H1))
theorem pi_any {tg l : Expr} {tl : TE} (hl : PE X l tl) : PI X tg l (iAny X.K tl) := by
  refine ⟨fun pins s σ H R I h => ?_⟩
  refine thn (hl.run pins s σ H _ I h) fun v s1 ⟨x, H1, I1, r1, q1⟩ => ?_
  obtain ⟨a, e, q1⟩ := q1
  subst e
  cases r1
  rcases q1 with ⟨⟨xs, hq⟩, q⟩ | ⟨⟨xs, hq⟩, q⟩
  · obtain ⟨its, rv, p, hz⟩ := I1.list hq
    refine wpAny_pyIter_list p.isList ?_
    refine ⟨s1.heap.objs.size, [s1.heap.objs.size], _, _, H1, rfl, I1.kept (t' := s1.toks) fun b o e => Heap.get?_push_of_some _ e, turn_list a _, ⟨_, Heap.get?_push_size _ rfl, rfl, rfl⟩, fun b hb => ?_, q⟩
    have e : b = s1.heap.objs.size := by simpa using hb
    subst e
    exact I1.fpOk (Nat.le_refl _) (I1.hok.fresh (Nat.le_refl _))
  · obtain ⟨its, rv, p, hz⟩ := I1.tuple hq
    refine wpAny_pyIter_tuple (show s1.heap.IsTuple a its.toArray from p) ?_
    refine ⟨s1.heap.objs.size, [s1.heap.objs.size], _, _, H1, rfl, I1.kept (t' := s1.toks) fun b o e => Heap.get?_push_of_some _ e, turn_tuple a _, ⟨_, Heap.get?_push_size _ rfl, rfl, rfl⟩, fun b hb => ?_, q⟩
    have e : b = s1.heap.objs.size := by simpa using hb
    subst e
    exact I1.fpOk (Nat.le_refl _) (I1.hok.fresh (Nat.le_refl _))
theorem ei_any {tg it : Expr} (h : PI X tg it (iAny g.K (tE g W f))) : PI X tg it (tI g W (dItems f)) := h.imp fun σ H R ⟨P, F, st, s, o⟩ =>
  ⟨P, F, st, s, o.bind.imp fun d st1 H1 F1 le1 s1 o1 v rx => by
    obtain ⟨ds, ez, q⟩ := o1.lift
    have q := q H1 F1 (Same.refl _) s1
    cases d with
    | lst xs =>
      cases ez
      obtain ⟨a, vs, rfl, h1, r1⟩ := Br.lst (H := F1) (Same.refl _) (.inl rx)
      exact ⟨a, rfl, .inl ⟨⟨vs, sqL_of (s1.le _ _ h1)⟩, q _ (wk_l h1 r1)⟩⟩
    | tup xs =>
      cases ez
      obtain ⟨a, vs, rfl, h1, r1⟩ := Br.tup (H := F1) (Same.refl _) (.inl rx)
      exact ⟨a, rfl, .inr ⟨⟨vs, sqT_mono s1.le h1⟩, q _ (wk_t h1 r1)⟩⟩
    | _ => cases ez⟩
theorem ei_rng {tg it : Expr} (h : PI X tg it (iRng1 (tCons (tE g W f) tNil))) : PI X tg it (tI g W (dRng f)) := h.imp fun σ H R ⟨P, F, st, s, o⟩ =>
  ⟨P, F, st, s, o.bind.imp fun d st1 H1 F1 le1 s1 o1 v rx => by
    obtain ⟨ds, ez, q⟩ := o1.lift
    have q := q H1 F1 (Same.refl _) s1
    cases d with
    | int n =>
      cases rx
      simp only [rngD, rangeL] at ez
      split at ez
      · rename_i hn
        cases ez
        have hb : big = 16777216 := rfl
        have := wk_r (g := g) F1 0 n.toNat
        simp only [Int.zero_add] at this
        exact ⟨n, rfl, by omega, by omega, q _ this⟩
      · cases ez
    | _ => cases ez⟩
theorem ei_rng2 {tg it : Expr} {h2 : Den D} (h : PI X tg it (iRng2 (tCons (tE g W f) (tCons (tE g W h2) tNil)))) : PI X tg it (tI g W (dRng2 f h2)) := h.imp fun σ H R ⟨P, F, st, s, o⟩ =>
  ⟨P, F, st, s, o.bind.imp fun d st1 H1 F1 le1 s1 o1 v rx => ⟨P, F1, st1, s1, o1.bind.imp fun d2 st2 H2 F2 le2 s2 o2 v2 rx2 => by
    obtain ⟨ds, ez, q⟩ := o2.lift
    have q := q H2 F2 (Same.refl _) s2
    cases d with
    | int m =>
      cases d2 with
      | int n =>
        cases rx; cases rx2
        simp only [rngD2, rangeL2] at ez
        split at ez
        · rename_i hn
          cases ez
          have hb : big = 16777216 := rfl
          obtain ⟨hn1, hn2⟩ := hn
          exact ⟨m, n, rfl, ⟨by omega, by omega, by omega, by omega⟩, q _ (wk_r (g := g) F2 m (n - m).toNat)⟩
        · cases ez
      | _ => cases ez
    | _ => cases ez⟩⟩

/-! for, while -/
theorem es_for {tgt : Tg} {fi : Den (List D)} (he : PS X s (tFor (tI g W fi) (tG g tgt) (tS g W a))) : PS X s (tS g W (sFor tgt fi a)) := he.imp fun E σ H ⟨P, F, st, s, o⟩ =>
  ⟨P, F, st, s, o.bind.imp fun ds st1 H1 F1 le1 s1 o1 J wk => by
    refine ⟨fun i m σ H => m = ds.length - i ∧ i ≤ ds.length ∧ ∃ F' st', Same F1 F' ∧ SR g P σ H F' st' ∧ OutS g W P F' (loop tgt a (ds.drop i) st') E, ⟨ds.length, by simp, Nat.zero_le _, F1, st1, Same.refl _, s1, by simpa using o1⟩, ?_⟩
    rintro i m σ H ⟨rfl, hi, F', st', le, s', o'⟩
    by_cases hlt : i < ds.length
    · refine .inr ⟨wk.go i H (le.trans s'.le) hlt, fun σ H => ∃ F' st', Same F1 F' ∧ SR g P σ H F' st' ∧ OutS g W P F' (loop tgt a (ds.drop (i + 1)) st') E, fun σ' H' p' => ⟨ds.length - (i + 1), by omega, rfl, hlt, p'⟩, fun x H' y => ?_⟩
      obtain ⟨d, hd, yy⟩ := wk.yld i H x H' (le.trans s'.le) hlt y
      obtain ⟨F', le2, s', rd⟩ := s'.yl le yy
      have le := le.trans le2
      have o' := OutS.weak le2 o'
      have hdr : ds.drop i = d :: ds.drop (i + 1) := by
        rw [List.drop_eq_getElem_cons hlt]
        have : ds[i] = d := by
          have := List.getElem?_eq_getElem hlt
          rw [hd] at this; exact (Option.some.inj this).symm
        rw [this]
      rw [hdr] at o'
      unfold loop at o'
      split at o'
      · exact o'.elim
      · rename_i st2 h2
        refine ⟨P, F', st', d, s', rd, st2, h2, fun xs s2 => ⟨P, F', st2, s2, ?_⟩⟩
        revert o'
        cases a st2 with
        | ok fl st3 =>
          cases fl with
          | nx => exact fun o' σ3 H3 F3 le3 s3 => ⟨F3, st3, le.trans le3, s3, OutS.weak le3 o'⟩
          | cnt => exact fun o' σ3 H3 F3 le3 s3 => ⟨F3, st3, le.trans le3, s3, OutS.weak le3 o'⟩
          | brk => exact fun o' => o'
          | ret d => exact fun o' => o'
        | exn c fs st3 => exact fun o' => o'
        | stuck => exact fun o' => o'
    · have e : i = ds.length := by omega
      subst e
      rw [List.drop_length] at o'
      exact .inl ⟨wk.stop H (le.trans s'.le), o' σ H F' (Same.refl _) s'⟩⟩
theorem es_while {n : Nat} (he : PS X s (tWhile (tT g W t) (tS g W a))) : PS X s (tS g W (sWhile t a n)) := he.imp fun E σ H ⟨P, F, st, s, o⟩ => by
  refine ⟨fun m σ H => ∃ F' st', SR g P σ H F' st' ∧ OutS g W P F' (sWhile t a m st') E, ⟨n, F, st, s, o⟩, ?_⟩
  rintro m σ H ⟨F', st', s', o'⟩
  cases m with
  | zero => exact o'.elim
  | succ m =>
    refine ⟨P, F', st', s', ?_⟩
    unfold sWhile at o'
    revert o'
    cases t st' with
    | ok b st1 =>
      cases b with
      | true =>
        intro o' H1 F1 le1 s1
        show ∃ N : L2.St → Hp → Prop, _ ∧ _
        refine ⟨fun σ H => ∃ F' st', SR g P σ H F' st' ∧ OutS g W P F' (sWhile t a m st') E, fun σ' H' p' => ⟨m, Nat.lt_succ_self _, p'⟩, P, F1, st1, s1, ?_⟩
        revert o'
        simp only
        cases a st1 with
        | ok fl st3 =>
          cases fl with
          | nx => exact fun o' σ3 H3 F3 le3 s3 => ⟨F3, st3, s3, OutS.weak (le1.trans le3) o'⟩
          | cnt => exact fun o' σ3 H3 F3 le3 s3 => ⟨F3, st3, s3, OutS.weak (le1.trans le3) o'⟩
          | brk => exact fun o' => OutS.weak le1 o'
          | ret d => exact fun o' => OutS.weak le1 o'
        | exn c fs st3 => exact fun o' => OutS.weak le1 o'
        | stuck => exact fun o' => o'
      | false => exact fun o' H1 F1 le1 s1 => o' σ H1 F1 le1 s1
    | exn c fs st1 => exact fun o' cls dd H1 F1 le1 s1 => o' cls dd σ H1 F1 le1 s1
    | stuck => exact fun o' => o'
end
end DL

namespace DL
open PySem PySem.Spec PyProof.Rows L2

/-! ### an owned list changed -/
@[simp] def dOw (i : Nat) : Den (List D) := fun st => match st[i]? with
  | some (.ow ds) => .ok ds st
  | some (.rf _ ds) => .ok ds st
  | _ => .stuck
@[simp] def setOw (i : Nat) (ds : List D) : Den Unit := fun st => match st[i]? with
  | some (.ow _) => .ok () (st.set i (.ow ds))
  | some (.rf k _) => .ok () (st.set i (.rf k ds))
  | _ => .stuck
@[simp] def mutD {α : Type} (i : Nat) (fn : List D → Option (α × List D)) : Den α := bindD (dOw i) fun ds => bindD (liftO (fn ds)) fun r => bindD (setOw i r.2) fun _ => retD r.1
@[simp] def dAppend (i : Nat) (f : Den D) : Den D := bindD (dOw i) fun _ => bindD f fun y => mutD i fun ds => if ds.length < big then some (.non, ds ++ [y]) else none
@[simp] def popAt (ds : List D) (i : Int) : Option (D × List D) := match seqIndex? i ds.length with
  | some k => match ds[k]? with | some y => if i.natAbs ≤ big then some (y, ds.eraseIdx k) else none | none => none
  | none => none
@[simp] def dPopAt (i : Nat) (f : Den D) : Den D := bindD (dOw i) fun _ => bindD f fun y => match y with
  | .int k => mutD i fun ds => popAt ds k
  | _ => fun _ => .stuck
@[simp] def dPop (i : Nat) : Den D := mutD i fun ds => match ds[ds.length - 1]? with | some y => some (y, ds.dropLast) | none => none
@[simp] def sStore (i : Nat) (ix e : Den D) : DS := bindD e fun v => bindD (dRd i) fun _ => bindD ix fun k => match k with
  | .int k => bindD (mutD i fun ds => match ixN ds.length k with | some j => some ((), ds.set j v) | none => none) fun _ => retD .nx
  | _ => fun _ => .stuck

section
variable {X : Cx} {g : G} {W : WX} {P : Par} {σ : L2.St} {H F : Hp} {st : DSt} {e : Expr} {s : Stmt} {ss : List Stmt} {f h : Den D} {t : Den Bool} {a b : DS}

/-- what an owned slot is; it may be changed -/
theorem SR.owned {i : Nat} {ds : List D} {st' : DSt} (s : SR g P σ H F st) (e : dOw i st = .ok ds st') : st' = st ∧ ∃ a vs, σ[i]? = some (some (.ref a)) ∧ H a = some (.lst vs) ∧ Rl g F vs ds ∧ F a = none ∧ P.R a = none ∧
    ∀ (H' F' : Hp) (vs' : List V) (ds' : List D), Same F F' → Same F' H' → (∀ b, NT H b → F b = none → F' b = none) → (∀ b o, b ≠ a → H b = some o → H' b = some o) → H' a = some (.lst vs') → F' a = none → Rl g F' vs' ds' →
      ∃ st2, setOw i ds' st = .ok () st2 ∧ SR g P σ H' F' st2 := by
  have key : ∀ (mk : List D → Slot) (ds0 : List D), st[i]? = some (mk ds0) → (mk = .ow ∨ ∃ k, mk = .rf k) → ∃ a vs, σ[i]? = some (some (.ref a)) ∧ H a = some (.lst vs) ∧ Rl g F vs ds0 ∧ F a = none ∧ P.R a = none ∧
      ∀ (H' F' : Hp) (vs' : List V) (ds' : List D), Same F F' → Same F' H' → (∀ b, NT H b → F b = none → F' b = none) → (∀ b o, b ≠ a → H b = some o → H' b = some o) → H' a = some (.lst vs') → F' a = none → Rl g F' vs' ds' →
        SR g P σ H' F' (st.set i (mk ds')) := by
    intro mk ds0 hd hk
    obtain ⟨ov, hov⟩ := SRc.nth s hd
    obtain ⟨O, c⟩ := s
    have q0 := c.sl i _ _ hd hov
    have hi : i < st.length := by
      rcases Nat.lt_or_ge i st.length with q | q
      · exact q
      · rw [List.getElem?_eq_none q] at hd; cases hd
    have ⟨a, vs, e1, ho, ha, r, mkok⟩ : ∃ a vs, ov = some (.ref a) ∧ O a = some i ∧ H a = some (.lst vs) ∧ Rl g F vs ds0 ∧ ∀ F' H' vs' ds', H' a = some (.lst vs') → Rl g F' vs' ds' → SlotOk g P O F' H' i (mk ds') ov := by
      rcases hk with rfl | ⟨k, rfl⟩
      · obtain ⟨a, vs, rfl, ho, hn, ha, r⟩ := q0
        exact ⟨a, vs, rfl, ho, ha, r, fun F' H' vs' ds' h1 h2 => ⟨a, vs', rfl, ho, hn, h1, h2⟩⟩
      · obtain ⟨a, vs, rfl, hb, ho, ha, r⟩ := q0
        exact ⟨a, vs, rfl, ho, ha, r, fun F' H' vs' ds' h1 h2 => ⟨a, vs', rfl, hb, ho, h1, h2⟩⟩
    subst e1
    refine ⟨a, vs, hov, ha, r, (c.oo a i ho).1, (c.oo a i ho).2.1, fun H' F' vs' ds' sf sfh nf sh hva fa rr => ⟨O, sfh, fun b o e => ?_, fun b j e => ?_, fun b n => ?_, by rw [List.length_set]; exact c.len, fun j s ov e1 e2 => ?_⟩⟩
    · have hb : b ≠ a := fun z => by rw [z, (c.oo a i ho).2.1] at e; cases e
      exact sh b o hb (c.rr _ _ e)
    · refine ⟨nf b (c.oo b j e).2.2 (c.oo b j e).1, (c.oo b j e).2.1, ?_⟩
      by_cases hb : b = a
      · subst hb; exact NT.of hva
      · exact NT.move (c.oo b j e).2.2 fun u hu => sh b u hb hu
    · refine ⟨nf b (c.no b n).2 (c.no b n).1, ?_⟩
      by_cases hb : b = a
      · subst hb; exact NT.of hva
      · exact NT.move (c.no b n).2 fun u hu => sh b u hb hu
    · by_cases hj : j = i
      · subst hj
        rw [List.getElem?_set_self hi] at e1
        cases e1
        rw [hov] at e2; cases e2
        exact mkok F' H' vs' ds' hva rr
      · rw [List.getElem?_set_ne (Ne.symm hj)] at e1
        exact (c.sl j s ov e1 e2).move rfl (fun _ h => h) sf (fun b o ho' h => sh b o (fun z => hj (by rw [z, ho] at ho'; exact (Option.some.inj ho').symm)) h) fun _ _ h => h
  unfold dOw at e
  split at e
  · rename_i ds0 hd
    cases e
    obtain ⟨a, vs, h1, h2, h3, h4, h5, h6⟩ := key .ow ds hd (.inl rfl)
    exact ⟨rfl, a, vs, h1, h2, h3, h4, h5, fun H' F' vs' ds' a1 a2 a3 a4 a5 a6 a7 => ⟨_, by unfold setOw; rw [hd], h6 H' F' vs' ds' a1 a2 a3 a4 a5 a6 a7⟩⟩
  · rename_i k ds0 hd
    cases e
    obtain ⟨a, vs, h1, h2, h3, h4, h5, h6⟩ := key (.rf k) ds hd (.inr ⟨k, rfl⟩)
    exact ⟨rfl, a, vs, h1, h2, h3, h4, h5, fun H' F' vs' ds' a1 a2 a3 a4 a5 a6 a7 => ⟨_, by unfold setOw; rw [hd], h6 H' F' vs' ds' a1 a2 a3 a4 a5 a6 a7⟩⟩
  · cases e
theorem dOw_no {i : Nat} {c : Str} {fs : List (Str × D)} {st st' : DSt} : dOw i st ≠ .exn c fs st' := by
  unfold dOw
  split <;> exact fun h => by cases h
theorem Out.ow {i : Nat} {α : Type} {kk : List D → Den α} {K : α → DSt → Hp → Hp → Prop} (o : Out g W P σ F (bindD (dOw i) kk st) K) : ∃ ds, dOw i st = .ok ds st ∧ Out g W P σ F (kk ds st) K := by
  unfold bindD at o
  cases e : dOw i st with
  | ok d st' =>
    rw [e] at o
    have : st' = st := by
      unfold dOw at e
      split at e <;> cases e <;> rfl
    subst this
    exact ⟨d, rfl, o⟩
  | exn c fs st' => exact (dOw_no e).elim
  | stuck => rw [e] at o; exact o.elim
/-- a list changed in place, nothing else -/
theorem Out.mut {α : Type} {i : Nat} {fn : List D → Option (α × List D)} {K : α → DSt → Hp → Hp → Prop} (s : SR g P σ H F st) (o : Out g W P σ F (mutD i fn st) K) :
    ∃ a vs ds r, σ[i]? = some (some (.ref a)) ∧ H a = some (.lst vs) ∧ Rl g F vs ds ∧ fn ds = some r ∧ ∀ vs', Rl g F vs' r.2 → ∃ st2, SR g P σ (upd H a (.lst vs')) F st2 ∧ K r.1 st2 (upd H a (.lst vs')) F := by
  obtain ⟨ds, e, o1⟩ := Out.ow o
  obtain ⟨_, a, vs, h1, h2, h3, h4, h5, h6⟩ := s.owned e
  have o1 : Out g W P σ F (bindD (liftO (fn ds)) (fun r => bindD (setOw i r.2) fun _ => retD r.1) st) K := o1
  cases er : fn ds with
  | none => rw [er] at o1; exact o1.elim
  | some r =>
    rw [er] at o1
    refine ⟨a, vs, ds, r, h1, h2, h3, er, fun vs' rr => ?_⟩
    have sfh : Same F (upd H a (.lst vs')) := fun b o e => by
      rw [upd_ne (fun z => by subst z; rw [h4] at e; cases e)]; exact s.le _ _ e
    obtain ⟨st2, e2, s2⟩ := h6 (upd H a (.lst vs')) F vs' r.2 (Same.refl _) sfh (fun b _ h => h) (fun b o hb e => by rw [upd_ne hb]; exact e) upd_same h4 rr
    refine ⟨st2, s2, ?_⟩
    have o2 : Out g W P σ F (bindD (setOw i r.2) (fun _ => retD r.1) st) K := o1
    unfold bindD at o2
    rw [e2] at o2
    exact o2 _ _ (Same.refl _) s2
theorem ev_append {i : Nat} (he : PE X e (tBM g.K "list" rAppend (tVar i) (tCons (tE g W f) tNil))) : PE X e (tE g W (dAppend i f)) := he.imp fun σ H Q ⟨P, F, st, s, o⟩ => by
  obtain ⟨ds, e, o1⟩ := Out.ow o
  obtain ⟨_, a, vs, h1, h2, h3, h4, h5, h6⟩ := s.owned e
  refine ⟨_, h1, .inl ⟨rfl, vs, sqL_of h2⟩, P, F, st, s, o1.bind.imp fun y st1 H1 F1 le1 s1 o2 v rv => ?_⟩
  obtain ⟨a', vs', ds', r, g1, g2, g3, g4, g5⟩ := Out.mut s1 o2
  rw [h1] at g1; cases g1
  split at g4
  · rename_i hl
    cases g4
    obtain ⟨st2, s2, k⟩ := g5 (vs' ++ [v]) (g3.append (.cons rv .nil))
    exact ⟨a, vs', v, rfl, rfl, g2, by rw [g3.length, ← big_eq]; exact hl, k _ .non⟩
  · cases g4
theorem ev_popAt {i : Nat} (he : PE X e (tBM g.K "list" rPopAt (tVar i) (tCons (tE g W f) tNil))) : PE X e (tE g W (dPopAt i f)) := he.imp fun σ H Q ⟨P, F, st, s, o⟩ => by
  obtain ⟨ds, e, o1⟩ := Out.ow o
  obtain ⟨_, a, vs, h1, h2, h3, h4, h5, h6⟩ := s.owned e
  refine ⟨_, h1, .inl ⟨rfl, vs, sqL_of h2⟩, P, F, st, s, o1.bind.imp fun y st1 H1 F1 le1 s1 o2 v rv => ?_⟩
  cases y with
  | int k =>
    cases rv
    obtain ⟨a', vs', ds', r, g1, g2, g3, g4, g5⟩ := Out.mut s1 o2
    rw [h1] at g1; cases g1
    unfold popAt at g4
    split at g4
    · rename_i j hj
      split at g4
      · rename_i y hy
        split at g4
        · rename_i hk
          cases g4
          have hb : big = 16777216 := rfl
          obtain ⟨w, hw, rw'⟩ := g3.get hy
          obtain ⟨st2, s2, kk⟩ := g5 (vs'.eraseIdx j) (g3.eraseIdx j)
          exact ⟨a, vs', k, j, w, rfl, rfl, g2, by omega, by omega, by rw [g3.length]; exact hj, hw, kk _ rw'⟩
        · cases g4
      · cases g4
    · cases g4
  | _ => exact o2.elim
theorem ev_pop {i : Nat} (he : PE X e (tBM0 g.K "list" rPop (tVar i))) : PE X e (tE g W (dPop i)) := he.imp fun σ H Q ⟨P, F, st, s, o⟩ => by
  obtain ⟨a', vs', ds', r, g1, g2, g3, g4, g5⟩ := Out.mut s o
  split at g4
  · rename_i y hy
    cases g4
    obtain ⟨w, hw, rw'⟩ := g3.get hy
    obtain ⟨st2, s2, kk⟩ := g5 vs'.dropLast (by rw [List.dropLast_eq_take, List.dropLast_eq_take, g3.length]; exact g3.take _)
    exact ⟨_, g1, .inl ⟨rfl, vs', sqL_of g2⟩, a', vs', w, rfl, rfl, g2, by rw [g3.length]; exact hw, kk _ rw'⟩
  · cases g4
theorem es_store {i : Nat} (he : PS X s (tAsg (tE g W f) (gSub (tVar i) (tE g W h) rSetL))) : PS X s (tS g W (sStore i h f)) := he.imp fun D σ H ⟨P, F, st, s, o⟩ =>
  ⟨P, F, st, s, o.bind.imp fun x st1 H1 F1 le1 s1 o1 v rx => by
    have o1 : OutS g W P F1 (bindD (dRd i) (fun _ => bindD h fun k => match k with
      | .int k => bindD (mutD i fun ds => match ixN ds.length k with | some j => some ((), ds.set j x) | none => none) fun _ => retD .nx
      | _ => fun _ => .stuck) st1) D := o1
    obtain ⟨v0, d0, hv0, _, o2⟩ := Out.rd s1 (OutS.bind o1 (σ := σ) |> fun (q : Out g W P σ F1 (dRd i st1) _) => (by
      revert q
      unfold bindD
      cases ed : dRd i st1 with
      | ok d st' => exact fun q => q
      | exn c fs st' => exact fun q => q
      | stuck => exact fun q => q : Out g W P σ F1 (bindD (dRd i) (fun d => retD d) st1) (fun d st' _ F1 => OutS g W P F1 ((bindD h fun k => match k with
      | .int k => bindD (mutD i fun ds => match ixN ds.length k with | some j => some ((), ds.set j x) | none => none) fun _ => retD .nx
      | _ => fun _ => .stuck) st') D)))
    have o3 := o2 H1 F1 (Same.refl _) s1
    refine ⟨v0, hv0, P, F1, st1, s1, o3.bind.imp fun k st2 H2 F2 le2 s2 o4 vk rk => ?_⟩
    cases k with
    | int k =>
      cases rk
      have o5 := OutS.bind o4 (σ := σ)
      obtain ⟨a', vs', ds', r, g1, g2, g3, g4, g5⟩ := Out.mut s2 o5
      rw [hv0] at g1; cases g1
      split at g4
      · rename_i j hj
        cases g4
        obtain ⟨st3, s3, kk⟩ := g5 (vs'.set j v) (g3.set (rx.mono le2) j)
        exact ⟨a', vs', k, j, rfl, rfl, g2, by rw [g3.length]; exact hj, kk σ _ F2 (Same.refl _) s3⟩
      · cases g4
    | _ => exact o4.elim⟩

/-! ### calls of own functions -/
def spD (g : G) (df : List D → M D) : Sp := fun vs H Q E => ∃ F ds, Same F H ∧ Rl g F vs ds ∧ match df ds with
  | .ok d => ∀ v H' F', Grow H F H' F' → Rv g F' v d → Q v H'
  | .exn c fs => ∀ cls dd H' F', Grow H F H' F' → RepX g F' H' c fs cls dd → E cls dd H'
  | .stuck => False
@[simp] def dCall (df : List D → M D) (fa : Den (List D)) : Den D := bindD fa fun ds => liftM' (df ds)
theorem call_fin {df : List D → M D} {vs : List V} {ds : List D} {Q : VK} {E : XK} (s : SR g P σ H F st) (r : Rl g F vs ds) (hE : ∀ cls dd H', W cls dd σ H' → E cls dd H') (o : Out g W P σ F (liftM' (df ds) st) fun d _ H' F' => ∀ v, Rv g F' v d → Q v H') : spD g df vs H Q E := by
  refine ⟨F, ds, s.le, r, ?_⟩
  revert o
  unfold liftM'
  cases df ds with
  | ok d => exact fun o v H' F' gr rv => o H' F' gr.f (s.grow gr) v rv
  | exn c fs => exact fun o cls dd H' F' gr rx => hE _ _ _ (o cls dd H' F' gr.f (s.grow gr) rx)
  | stuck => exact fun o => o
theorem ev_call {df : List D → M D} {fa : Den (List D)} (he : PE X e (tCallS (spD g df) (WE W) (tA g W fa))) : PE X e (tE g W (dCall df fa)) := he.imp fun σ H Q ⟨P, F, st, s, o⟩ =>
  ⟨P, F, st, s, o.bind.imp fun ds st1 H1 F1 le1 s1 o1 vs rs => call_fin s1 rs (fun _ _ _ h => h) o1⟩

/-- .. whose first argument is a list that the function changes -/
def spR (g : G) (df : List D → List D → M (D × List D)) : Sp := fun vs H Q _ => ∃ F a ws ss us ds, vs = .ref a :: us ∧ Same F H ∧ F a = none ∧ H a = some (.lst ws) ∧ Rl g F ws ss ∧ Rl g F us ds ∧ match df ss ds with
  | .ok r => ∀ v H' F' ws', Same F F' → Same F' H' → (∀ b, NT H b → F b = none → F' b = none) → (∀ b o, b ≠ a → H b = some o → H' b = some o) → H' a = some (.lst ws') → F' a = none → Rl g F' ws' r.2 → Rv g F' v r.1 → Q v H'
  | _ => False
@[simp] def dCallR (df : List D → List D → M (D × List D)) (i : Nat) (fa : Den (List D)) : Den D := bindD (dOw i) fun _ => bindD fa fun ds => bindD (dOw i) fun ss => bindD (liftM' (df ss ds)) fun r => bindD (setOw i r.2) fun _ => retD r.1
theorem ev_callR {df : List D → List D → M (D × List D)} (nox : ∀ ss ds c fs, df ss ds ≠ .exn c fs) {i : Nat} {fa : Den (List D)} (he : PE X e (tCallS (spR g df) (WE W) (tCons (tVar i) (tA g W fa)))) : PE X e (tE g W (dCallR df i fa)) := he.imp fun σ H Q ⟨P, F, st, s, o⟩ => by
  obtain ⟨ds0, e0, o1⟩ := Out.ow o
  obtain ⟨_, a, vs, h1, h2, h3, h4, h5, h6⟩ := s.owned e0
  refine ⟨_, h1, P, F, st, s, o1.bind.imp fun ds st1 H1 F1 le1 s1 o2 us ru => ?_⟩
  obtain ⟨ss, e1, o3⟩ := Out.ow o2
  obtain ⟨_, a', ws, g1, g2, g3, g4, g5, g6⟩ := s1.owned e1
  rw [h1] at g1; cases g1
  refine ⟨F1, a, ws, ss, us, ds, rfl, s1.le, g4, g2, g3, ru, ?_⟩
  have nx := nox ss ds
  revert o3 nx
  cases df ss ds with
  | ok r =>
    intro o3 nx v H' F' ws' a1 a2 a3 a4 a5 a6 a7 rv
    obtain ⟨st2, e2, s2⟩ := g6 H' F' ws' r.2 a1 a2 a3 a4 a5 a6 a7
    have o4 : Out g W P σ F1 (bindD (setOw i r.2) (fun _ => retD r.1) st1) fun d _ H' F' => ∀ v, Rv g F' v d → Q v H' := o3
    unfold bindD at o4
    rw [e2] at o4
    exact o4 H' F' a1 s2 v rv
  | exn c fs => exact fun _ nx => (nx c fs rfl).elim
  | stuck => exact fun o3 => o3.elim

/-! ### a def's body -/
/-- a body's meaning as a function of its arguments: n slots -/
def runF (m n : Nat) (f : DS) (ds : List D) : M D := if ds.length = m then match f (ds.map Slot.sh ++ List.replicate (n - ds.length) .no) with
  | .ok (.ret d) _ => .ok d
  | .ok .nx _ => .ok .non
  | .exn c fs _ => .exn c fs
  | _ => .stuck
  else .stuck
theorem getElem_start {N : List Str} {vs : List V} {i : Nat} {ov : Option V} (h : (L2.start N vs)[i]? = some ov) : ∀ v, vs[i]? = some v → ov = some v := by
  intro v hv
  unfold L2.start at h
  have hi : i < vs.length := by
    rcases Nat.lt_or_ge i vs.length with q | q
    · exact q
    · rw [List.getElem?_eq_none q] at hv; cases hv
  rw [List.getElem?_append_left (by simpa using hi), List.getElem?_map, hv] at h
  exact (Option.some.inj h).symm
theorem init_sl {O : Addr → Option Nat} {N : List Str} {vs : List V} {ds : List D} (r : Rl g F vs ds) (n : Nat) : ∀ i s ov, (ds.map Slot.sh ++ List.replicate n Slot.no)[i]? = some s → (L2.start N vs)[i]? = some ov → SlotOk g P O F H i s ov := by
  intro i s ov e1 e2
  rcases Nat.lt_or_ge i ds.length with hi | hi
  · rw [List.getElem?_append_left (by simpa using hi), List.getElem?_map, List.getElem?_eq_getElem hi] at e1
    cases e1
    obtain ⟨v, hv, rv⟩ := r.get (List.getElem?_eq_getElem hi)
    exact ⟨v, getElem_start e2 v hv, rv⟩
  · rw [List.getElem?_append_right (by simpa using hi)] at e1
    have : s = Slot.no := by
      have := List.mem_of_getElem? e1
      exact (List.mem_replicate.mp this).2
    subst this
    trivial
/-- THE RULE for a def of data -/
theorem body_ok {N ps : List Str} {f : DS} {n : Nat} {vs : List V} {Q : VK} {E : XK} (hn : n = N.length) (hp : ps.length ≤ N.length) (hl : vs.length = ps.length) (h : spD g (runF ps.length n f) vs H Q E) :
    tS g (fun cls dd _ H => E cls dd H) f { nx := fun _ H' => Q .non H', rt := Q } (L2.start N vs) H := by
  obtain ⟨F, ds, le, r, h⟩ := h
  refine ⟨⟨[], H, fun a => NT H a ∧ F a = none⟩, F, ds.map Slot.sh ++ List.replicate (n - ds.length) .no, ⟨fun _ => none, le, Same.refl _, (fun _ _ e => nomatch e), fun a h => ⟨h.2, h.1⟩, ?_, init_sl r _⟩, ?_⟩
  · have := r.length
    unfold L2.start
    simp only [List.length_append, List.length_map, List.length_replicate]
    omega
  · have gr : ∀ {σ' : L2.St} {H' F' : Hp} {st' : DSt}, Same F F' → SR g ⟨[], H, fun a => NT H a ∧ F a = none⟩ σ' H' F' st' → Grow H F H' F' := fun le ⟨O, c⟩ => ⟨c.rr, le, c.le, fun a h1 h2 => (c.no a ⟨h1, h2⟩).1⟩
    unfold runF at h
    rw [if_pos (by rw [← r.length]; exact hl)] at h
    revert h
    cases f (ds.map Slot.sh ++ List.replicate (n - ds.length) .no) with
    | ok fl st' =>
      cases fl with
      | nx => exact fun h σ' H' F' le s => h .non H' F' (gr le s) .non
      | ret d => exact fun h σ' H' F' le s v rv => h v H' F' (gr le s) rv
      | brk => exact fun h => h.elim
      | cnt => exact fun h => h.elim
    | exn c fs st' => exact fun h cls dd σ' H' F' le s rx => h cls dd H' F' (gr le s) rx
    | stuck => exact fun h => h.elim
/-- .. with a list that it changes, its first argument -/
def runR (m n : Nat) (f : DS) (ss : List D) (ds : List D) : M (D × List D) := if ds.length + 1 = m then match f (.rf 0 ss :: (ds.map Slot.sh ++ List.replicate (n - ds.length - 1) .no)) with
  | .ok (.ret d) (.rf 0 ss' :: _) => .ok (d, ss')
  | .ok .nx (.rf 0 ss' :: _) => .ok (.non, ss')
  | _ => .stuck
  else .stuck
theorem runR_nox (m n : Nat) (f : DS) : ∀ ss ds c fs, runR m n f ss ds ≠ .exn c fs := by
  intro ss ds c fs h
  unfold runR at h
  split at h
  · split at h <;> cases h
  · cases h
theorem start_cons {x : Str} {N : List Str} {v : V} {vs : List V} : L2.start (x :: N) (v :: vs) = some v :: L2.start N vs := by
  unfold L2.start
  simp
theorem body_okR {x : Str} {N ps : List Str} {f : DS} {n : Nat} {vs : List V} {Q : VK} {E : XK} (hn : n = (x :: N).length) (hp : ps.length ≤ (x :: N).length) (hl : vs.length = ps.length) (h : spR g (runR ps.length n f) vs H Q E) :
    tS g (fun cls dd _ H => E cls dd H) f { nx := fun _ H' => Q .non H', rt := Q } (L2.start (x :: N) vs) H := by
  obtain ⟨F, a, ws, ss, us, ds, rfl, le, fa, ha, rs, r, h⟩ := h
  have hln := r.length
  rw [start_cons]
  refine ⟨⟨[a], fun b => if b = a then none else H b, fun b => NT H b ∧ F b = none⟩, F, .rf 0 ss :: (ds.map Slot.sh ++ List.replicate (n - ds.length - 1) .no), ⟨fun b => if b = a then some 0 else none, le, fun b o e => ?_, fun b i e => ?_, fun a h => ⟨h.2, h.1⟩, ?_, fun i s ov e1 e2 => ?_⟩, ?_⟩
  · by_cases hb : b = a
    · subst hb; simp at e
    · simpa [hb] using e
  · by_cases hb : b = a
    · subst hb; exact ⟨fa, by simp, NT.of ha⟩
    · simp [hb] at e
  · unfold L2.start
    simp only [List.length_append, List.length_map, List.length_replicate, List.length_cons] at *
    omega
  · cases i with
    | zero =>
      simp at e1 e2
      subst e1; subst e2
      exact ⟨a, ws, rfl, rfl, by simp, ha, rs⟩
    | succ i =>
      have q := init_sl (P := ⟨[a], fun b => if b = a then none else H b, fun b => NT H b ∧ F b = none⟩) (H := H) (O := fun b => if b = a then some 0 else none) (N := N) r (n - ds.length - 1) i s ov (by simpa using e1) (by simpa using e2)
      have hs : s = .no ∨ ∃ d, s = .sh d := by
        have e1 : (ds.map Slot.sh ++ List.replicate (n - ds.length - 1) Slot.no)[i]? = some s := by simpa using e1
        rcases List.mem_append.mp (List.mem_of_getElem? e1) with h | h
        · obtain ⟨d, _, e⟩ := List.mem_map.mp h
          exact .inr ⟨d, e.symm⟩
        · exact .inl (List.mem_replicate.mp h).2
      rcases hs with rfl | ⟨d, rfl⟩
      · trivial
      · exact q
  · have gr : ∀ {σ' : L2.St} {H' F' : Hp} {ss' : List D} {st' : DSt} {d : D}, Same F F' → SR g ⟨[a], fun b => if b = a then none else H b, fun b => NT H b ∧ F b = none⟩ σ' H' F' (.rf 0 ss' :: st') →
        (∀ v H' F' ws', Same F F' → Same F' H' → (∀ b, NT H b → F b = none → F' b = none) → (∀ b o, b ≠ a → H b = some o → H' b = some o) → H' a = some (.lst ws') → F' a = none → Rl g F' ws' ss' → Rv g F' v d → Q v H') → ∀ v, Rv g F' v d → Q v H' := fun {σ' H' F' ss' st' d} le s k v rv => by
      obtain ⟨ov, hov⟩ := SRc.nth (i := 0) s rfl
      obtain ⟨O, c⟩ := s
      obtain ⟨a', ws', e1, e2, e3, e4, e5⟩ := c.sl 0 _ _ rfl hov
      have : a' = a := by simpa using e2.symm
      subst this
      refine k v H' F' ws' le c.le (fun b h1 h2 => (c.no b ⟨h1, h2⟩).1) (fun b o hb e => c.rr b o (by simp [hb, e])) e4 (c.oo _ _ e3).1 e5 rv
    unfold runR at h
    rw [if_pos (by simp only [List.length_cons] at hl; omega)] at h
    revert h
    cases f (.rf 0 ss :: (ds.map Slot.sh ++ List.replicate (n - ds.length - 1) .no)) with
    | ok fl st' =>
      cases fl with
      | nx =>
        cases st' with
        | nil => exact fun h => h.elim
        | cons s0 st' =>
          cases s0 with
          | rf k ss' =>
            cases k with
            | zero => exact fun h σ' H' F' le s => gr le s h .non .non
            | succ k => exact fun h => h.elim
          | _ => exact fun h => h.elim
      | ret d =>
        cases st' with
        | nil => exact fun h => h.elim
        | cons s0 st' =>
          cases s0 with
          | rf k ss' =>
            cases k with
            | zero => exact fun h σ' H' F' le s v rv => gr le s h v rv
            | succ k => exact fun h => h.elim
          | _ => exact fun h => h.elim
      | brk => exact fun h => h.elim
      | cnt => exact fun h => h.elim
    | exn c fs st' => exact fun h => h.elim
    | stuck => exact fun h => h.elim
theorem spD_len {m n : Nat} {f : DS} {vs : List V} {Q : VK} {E : XK} (h : spD g (runF m n f) vs H Q E) : vs.length = m := by
  obtain ⟨F, ds, le, r, h⟩ := h
  rw [r.length]
  by_cases hm : ds.length = m
  · exact hm
  · unfold runF at h
    rw [if_neg hm] at h
    exact h.elim
theorem spR_len {m n : Nat} {f : DS} {vs : List V} {Q : VK} {E : XK} (h : spR g (runR m n f) vs H Q E) : vs.length = m := by
  obtain ⟨F, a, ws, ss, us, ds, rfl, le, fa, ha, rs, r, h⟩ := h
  rw [List.length_cons, r.length]
  by_cases hm : ds.length + 1 = m
  · exact hm
  · unfold runR at h
    rw [if_neg hm] at h
    exact h.elim
end
end DL

namespace DL
open PySem PySem.Spec PyProof.Rows L2

/-! ### list comprehensions -/
def wipeD (st : DSt) : List Nat → DSt
  | [] => st
  | v :: vs => (wipeD st vs).set v .no
/-- the names of the block have their old content again -/
def backD (st0 st : DSt) : List Nat → DSt
  | [] => st
  | v :: vs => (backD st0 st vs).set v ((st0[v]?).getD .no)
def plainAt (st : DSt) (v : Nat) : Bool := match st[v]? with
  | some .no => true
  | some (.sh _) => true
  | _ => false
def compGo (vs : List Nat) (t : Tg) (test : Den Bool) (elt : Den D) : List D → Den (List D)
  | [] => retD []
  | d :: ds => fun st => match setT t d st with
    | none => .stuck
    | some st1 => match test st1 with
      | .ok true st2 => match elt st2 with
        | .ok y st3 => match compGo vs t test elt ds (wipeD st3 vs) with
          | .ok ys st4 => .ok (y :: ys) st4
          | _ => .stuck
        | _ => .stuck
      | .ok false st2 => compGo vs t test elt ds (wipeD st2 vs)
      | _ => .stuck
def dComp (vs : List Nat) (t : Tg) (fi : Den (List D)) (test : Den Bool) (elt : Den D) : Den (List D) := bindD fi fun ds => fun st =>
  if ds.length ≤ big ∧ vs.all (plainAt st) = true then
    match compGo vs t test elt ds (wipeD st vs) with
    | .ok ys st' => .ok ys (backD st st' vs)
    | _ => .stuck
  else .stuck
def WN : WX := fun _ _ _ _ => False
@[simp] def dYes : Den Bool := retD true

section
variable {X : Cx} {g : G} {W : WX} {P : Par} {σ : L2.St} {H F : Hp} {st : DSt} {e : Expr}

theorem wipeD_length (st : DSt) : ∀ vs : List Nat, (wipeD st vs).length = st.length
  | [] => rfl
  | v :: vs => by unfold wipeD; rw [List.length_set, wipeD_length st vs]
theorem backD_length (st0 st : DSt) : ∀ vs : List Nat, (backD st0 st vs).length = st.length
  | [] => rfl
  | v :: vs => by unfold backD; rw [List.length_set, backD_length st0 st vs]
theorem wipeD_in {st : DSt} {i : Nat} : ∀ {vs : List Nat}, i ∈ vs → ∀ s, (wipeD st vs)[i]? = some s → s = .no
  | v :: vs, h, s, e => by
    unfold wipeD at e
    by_cases hv : v = i
    · subst hv
      by_cases hl : v < (wipeD st vs).length
      · rw [List.getElem?_set_self hl] at e; cases e; rfl
      · rw [List.getElem?_eq_none (by simpa using hl)] at e; cases e
    · rw [List.getElem?_set_ne hv] at e
      rcases List.mem_cons.mp h with h | h
      · exact absurd h.symm hv
      · exact wipeD_in h s e
theorem wipeD_out {st : DSt} {i : Nat} : ∀ {vs : List Nat}, i ∉ vs → (wipeD st vs)[i]? = st[i]?
  | [], _ => rfl
  | v :: vs, h => by
    unfold wipeD
    rw [List.getElem?_set_ne (fun z => h (by rw [← z]; exact List.mem_cons_self))]
    exact wipeD_out fun z => h (List.mem_cons_of_mem _ z)
theorem wipe_out {σ : L2.St} {i : Nat} : ∀ {vs : List Nat}, i ∉ vs → (wipe σ vs)[i]? = σ[i]?
  | [], _ => rfl
  | v :: vs, h => by
    unfold wipe
    rw [List.getElem?_set_ne (fun z => h (by rw [← z]; exact List.mem_cons_self))]
    exact wipe_out fun z => h (List.mem_cons_of_mem _ z)
theorem backD_out {st0 st : DSt} {i : Nat} : ∀ {vs : List Nat}, i ∉ vs → (backD st0 st vs)[i]? = st[i]?
  | [], _ => rfl
  | v :: vs, h => by
    unfold backD
    rw [List.getElem?_set_ne (fun z => h (by rw [← z]; exact List.mem_cons_self))]
    exact backD_out fun z => h (List.mem_cons_of_mem _ z)
theorem backD_in {st0 st : DSt} {i : Nat} : ∀ {vs : List Nat}, i ∈ vs → ∀ s, (backD st0 st vs)[i]? = some s → s = (st0[i]?).getD .no
  | v :: vs, h, s, e => by
    unfold backD at e
    by_cases hv : v = i
    · subst hv
      by_cases hl : v < (backD st0 st vs).length
      · rw [List.getElem?_set_self hl] at e; cases e; rfl
      · rw [List.getElem?_eq_none (by simpa using hl)] at e; cases e
    · rw [List.getElem?_set_ne hv] at e
      rcases List.mem_cons.mp h with h | h
      · exact absurd h.symm hv
      · exact backD_in h s e
theorem SR.wipe (s : SR g P σ H F st) (vs : List Nat) : SR g P (wipe σ vs) H F (wipeD st vs) := by
  obtain ⟨O, c⟩ := s
  refine ⟨O, c.le, c.rr, c.oo, c.no, by rw [wipe_length, wipeD_length]; exact c.len, fun i s ov e1 e2 => ?_⟩
  by_cases hi : i ∈ vs
  · rw [wipeD_in hi s e1]; trivial
  · rw [wipeD_out hi] at e1
    rw [wipe_out hi] at e2
    exact c.sl i s ov e1 e2
theorem wipe_set {σ : L2.St} {i : Nat} {x : Option V} : ∀ {vs : List Nat}, i ∈ vs → wipe (σ.set i x) vs = wipe σ vs := by
  intro vs hi
  apply List.ext_getElem?
  intro j
  by_cases hj : j ∈ vs
  · have key : ∀ (τ : L2.St) (vs : List Nat), j ∈ vs → (L2.wipe τ vs)[j]? = if j < τ.length then some none else none := by
      intro τ vs
      induction vs with
      | nil => intro h; cases h
      | cons v vs ih =>
        intro h
        unfold L2.wipe
        by_cases hv : v = j
        · subst hv
          by_cases hl : v < τ.length
          · rw [List.getElem?_set_self (by rw [wipe_length]; exact hl), if_pos hl]
          · rw [List.getElem?_eq_none (by simp [wipe_length]; omega), if_neg hl]
        · rw [List.getElem?_set_ne hv]
          rcases List.mem_cons.mp h with h | h
          · exact absurd h.symm hv
          · exact ih h
    rw [key _ _ hj, key _ _ hj, List.length_set]
  · have hij : i ≠ j := fun z => hj (z ▸ hi)
    rw [wipe_out hj, wipe_out hj, List.getElem?_set_ne hij]
theorem wipe_setσ : ∀ {is : List Nat} {xs : List V} {σ : L2.St} {vs : List Nat}, (∀ i ∈ is, i ∈ vs) → wipe (setσ is xs σ) vs = wipe σ vs
  | [], xs, σ, vs, _ => by unfold setσ; rfl
  | i :: is, [], σ, vs, _ => by unfold setσ; rfl
  | i :: is, x :: xs, σ, vs, h => by
    unfold setσ
    rw [wipe_setσ fun j hj => h j (List.mem_cons_of_mem _ hj), wipe_set (h i List.mem_cons_self)]
theorem wipe_wipe (σ : L2.St) (vs : List Nat) : L2.wipe (L2.wipe σ vs) vs = L2.wipe σ vs := by
  have key : ∀ (τ : L2.St) (ws : List Nat), (∀ v ∈ ws, v ∈ vs) → L2.wipe (L2.wipe τ ws) vs = L2.wipe τ vs := by
    intro τ ws
    induction ws with
    | nil => intro _; rfl
    | cons w ws ih =>
      intro h
      show L2.wipe ((L2.wipe τ ws).set w none) vs = _
      rw [wipe_set (h w List.mem_cons_self)]
      exact ih fun v hv => h v (List.mem_cons_of_mem _ hv)
  exact key σ vs fun _ h => h

/-- the new list is guarded while the elements are worked out -/
def gd (P : Par) (D : Addr) (acc : List V) : Par := ⟨P.B, upd P.R D (.lst acc), fun a => P.N a ∨ a = D⟩
theorem SR.guard {D : Addr} {o : HO} {acc : List V} (s : SR g P σ H F st) (h : H D = none) : SR g (gd P D acc) σ (upd H D (.lst acc)) F st := by
  obtain ⟨O, c, o0, f0, r0, n0⟩ := s.newx (o := .lst acc) h
  refine ⟨O, c.le, fun b u e => ?_, fun b i e => ⟨(c.oo b i e).1, ?_, (c.oo b i e).2.2⟩, fun b n => ?_, c.len, fun i s ov e1 e2 => ?_⟩
  · have e : upd P.R D (.lst acc) b = some u := e
    by_cases hb : b = D
    · subst hb; rw [upd_same] at e; rw [← e]; exact upd_same
    · rw [upd_ne hb] at e; exact c.rr b u e
  · have hb : b ≠ D := fun z => by rw [z, o0] at e; cases e
    show upd P.R D (.lst acc) b = none
    rw [upd_ne hb]; exact (c.oo b i e).2.1
  · rcases n with n | rfl
    · exact c.no b n
    · exact ⟨f0, NT.of upd_same⟩
  · exact (c.sl i s ov e1 e2).move rfl (fun _ h => h) (Same.refl _) (fun _ _ _ h => h) fun b o n => fun z => Or.elim z n fun z => by rw [z, o0] at o; cases o
theorem SR.guard_at {D : Addr} {acc : List V} (s : SR g (gd P D acc) σ H F st) : H D = some (.lst acc) := by
  obtain ⟨O, c⟩ := s
  exact c.rr D _ upd_same
theorem SR.reguard {D : Addr} {acc acc' : List V} (s : SR g (gd P D acc) σ H F st) : SR g (gd P D acc') σ (upd H D (.lst acc')) F st := by
  obtain ⟨O, c⟩ := s
  have o0 : O D = none := by
    cases e : O D with
    | none => rfl
    | some i =>
      have := (c.oo D i e).2.1
      have z : upd P.R D (.lst acc) D = none := this
      rw [upd_same] at z; cases z
  have f0 := (c.no D (.inr rfl)).1
  refine ⟨O, fun b u e => ?_, fun b u e => ?_, fun b i e => ?_, fun b n => ?_, c.len, fun i s ov e1 e2 => ?_⟩
  · rw [upd_ne (fun z => by rw [z, f0] at e; cases e)]; exact c.le b u e
  · have e : upd P.R D (.lst acc') b = some u := e
    by_cases hb : b = D
    · subst hb; rw [upd_same] at e; rw [← e]; exact upd_same
    · rw [upd_ne hb] at e ⊢
      exact c.rr b u (by show upd P.R D (.lst acc) b = some u; rw [upd_ne hb]; exact e)
  · have hb : b ≠ D := fun z => by rw [z, o0] at e; cases e
    obtain ⟨h1, h2, h3⟩ := c.oo b i e
    have h2 : upd P.R D (.lst acc) b = none := h2
    rw [upd_ne hb] at h2
    exact ⟨h1, by show upd P.R D (.lst acc') b = none; rw [upd_ne hb]; exact h2, NT.upd hb h3⟩
  · refine ⟨(c.no b n).1, ?_⟩
    by_cases hb : b = D
    · subst hb; exact NT.of upd_same
    · exact NT.upd hb (c.no b n).2
  · exact (c.sl i s ov e1 e2).move rfl (fun _ h => h) (Same.refl _) (fun b o ho h => by rw [upd_ne (fun z => by rw [z, o0] at ho; cases ho)]; exact h) fun _ _ n => n
/-- behind the comprehension -/
theorem SR.unguard {D : Addr} {acc : List V} {H0 F0 : Hp} {st0 : DSt} {vs : List Nat} (s : SR g (gd P D acc) (L2.wipe σ vs) H F st) (s0 : SR g P σ H0 F0 st0) (h0 : H0 D = none) (le : Same F0 F) (hl : st.length = st0.length) (hp : vs.all (plainAt st0) = true) :
    SRx g P σ H F (backD st0 st vs) D := by
  obtain ⟨O, c⟩ := s
  have o0 : O D = none := by
    cases e : O D with
    | none => rfl
    | some i =>
      have z : upd P.R D (.lst acc) D = none := (c.oo D i e).2.1
      rw [upd_same] at z; cases z
  obtain ⟨_, _, _, _, r0, n0⟩ := s0.newx (o := .lst acc) h0
  refine ⟨O, ⟨c.le, fun b u e => ?_, fun b i e => ?_, fun b n => c.no b (.inl n), ?_, fun i sl ov e1 e2 => ?_⟩, o0, (c.no D (.inr rfl)).1, r0, n0⟩
  · have hb : b ≠ D := fun z => by rw [z, r0] at e; cases e
    exact c.rr b u (by show upd P.R D (.lst acc) b = some u; rw [upd_ne hb]; exact e)
  · have hb : b ≠ D := fun z => by rw [z, o0] at e; cases e
    obtain ⟨h1, h2, h3⟩ := c.oo b i e
    have h2 : upd P.R D (.lst acc) b = none := h2
    rw [upd_ne hb] at h2
    exact ⟨h1, h2, h3⟩
  · rw [backD_length]
    have := c.len
    rw [wipe_length] at this
    exact this
  · by_cases hi : i ∈ vs
    · have es := backD_in hi sl e1
      have hpl := List.all_eq_true.mp hp i hi
      unfold plainAt at hpl
      cases e0 : st0[i]? with
      | none => rw [e0] at es; subst es; trivial
      | some s0' =>
        rw [e0] at es hpl
        simp only [Option.getD_some] at es
        subst es
        cases sl with
        | no => trivial
        | sh d =>
          obtain ⟨O0, c0⟩ := s0
          obtain ⟨v, ev, r⟩ := c0.sl i _ ov e0 e2
          exact ⟨v, ev, r.mono le⟩
        | ow ds => cases hpl
        | rf k ds => cases hpl
        | oi k c ns ds => cases hpl
        | o2 dss => cases hpl
        | _ => cases hpl
    · rw [backD_out hi] at e1
      exact (c.sl i sl ov e1 (by rw [wipe_out hi]; exact e2)).move rfl (fun _ h => h) (Same.refl _) (fun _ _ _ h => h) fun _ _ n z => n (.inl z)
theorem compGo_length {vs : List Nat} {t : Tg} {test : Den Bool} {elt : Den D} (K : ∀ d st st', setT t d st = some st' → st'.length = st.length) : True := trivial

theorem comp_imp {vs : List Nat} {t : Tg} {fi : Den (List D)} {test : Den Bool} {elt : Den D} {Q : VK} (hv : ∀ i ∈ t.is, i ∈ vs) (q : tN g W (dComp vs t fi test elt) σ H Q) :
    tLc (tI g W fi) (tG g t) (tT g WN test) (tE g WN elt) vs σ H Q := by
  obtain ⟨P, F, st, s, o⟩ := q
  refine ⟨P, F, st, s, o.bind.imp fun ds st1 H1 F1 le1 s1 o1 J wk D hD => ?_⟩
  split at o1
  · rename_i hc
    obtain ⟨hbig, hpl⟩ := hc
    -- the rest of the walk, from the i-th turn on
    refine ⟨fun i m H => m = ds.length - i ∧ i ≤ ds.length ∧ ∃ F' st' accV acc, Same F1 F' ∧ SR g (gd P D accV) (L2.wipe σ vs) H F' st' ∧ Rl g F' accV acc ∧ acc.length ≤ i ∧ st'.length = st1.length ∧
      ∃ ys stE, compGo vs t test elt (ds.drop i) st' = .ok ys stE ∧ compGo vs t test elt ds (wipeD st1 vs) = .ok (acc ++ ys) stE, ?_, ?_⟩
    · split at o1
      · rename_i ys stE hgo
        exact ⟨ds.length, by simp, Nat.zero_le _, F1, wipeD st1 vs, [], [], Same.refl _, ((s1.wipe vs).guard (o := .lst []) hD), .nil, Nat.zero_le _, wipeD_length _ _, ys, stE, by simpa using hgo, by simpa using hgo⟩
      · exact o1.elim
    · rintro i m H2 ⟨rfl, hi, F', st', accV, acc, le, s', racc, hacc, hlen, ys, stE, hgo, hall⟩
      by_cases hlt : i < ds.length
      · obtain ⟨d0, hd0⟩ : ∃ d, ds[i]? = some d := ⟨ds[i], List.getElem?_eq_getElem hlt⟩
        have hdr : ds.drop i = d0 :: ds.drop (i + 1) := by
          rw [List.drop_eq_getElem_cons hlt]
          have := List.getElem?_eq_getElem hlt
          rw [hd0] at this; rw [← Option.some.inj this]
        rw [hdr] at hgo
        refine .inr ⟨wk.go i H2 (le.trans s'.le) hlt, fun H => ∃ F' st' accV acc, Same F1 F' ∧ SR g (gd P D accV) (L2.wipe σ vs) H F' st' ∧ Rl g F' accV acc ∧ acc.length ≤ i + 1 ∧ st'.length = st1.length ∧
          ∃ ys stE, compGo vs t test elt (ds.drop (i + 1)) st' = .ok ys stE ∧ compGo vs t test elt ds (wipeD st1 vs) = .ok (acc ++ ys) stE, fun H' nx => ⟨ds.length - (i + 1), by omega, rfl, hlt, nx⟩, fun x H' y => ?_⟩
        obtain ⟨d, hd, yy⟩ := wk.yld i H2 x H' (le.trans s'.le) hlt y
        obtain ⟨F', le2, s', rd⟩ := s'.yl le yy
        have le := le.trans le2
        have racc := racc.mono le2
        rw [hd0] at hd; cases hd
        unfold compGo at hgo
        cases hset : setT t d0 st' with
        | none => rw [hset] at hgo; cases hgo
        | some st2 =>
          rw [hset] at hgo
          refine ⟨gd P D accV, F', st', d0, s', rd, st2, hset, fun xs s2 => ⟨?_, ?_⟩⟩
          · rw [wipe_setσ hv, wipe_wipe]
          · refine ⟨gd P D accV, F', st2, s2, ?_⟩
            simp only at hgo
            have lenW : ∀ {σ' : L2.St} {H' F' : Hp} {st3 : DSt}, SR g (gd P D accV) (setσ t.is xs (L2.wipe σ vs)) H' F' st3 → (wipeD st3 vs).length = st1.length := fun {σ' H' F' st3} s3 => by
              rw [wipeD_length]
              have a1 := s3.len
              have a2 := s2.len
              have a3 := s'.len
              have a4 : st2.length = st'.length := by
                have : ∀ is ds (st st' : DSt), setAll is ds st = some st' → st'.length = st.length := by
                  intro is
                  induction is with
                  | nil => intro ds st st' e; cases ds with | nil => cases e; rfl | cons d ds => cases e
                  | cons i is ih =>
                    intro ds st st' e
                    cases ds with
                    | nil => cases e
                    | cons d ds =>
                      unfold setAll at e
                      split at e
                      · rename_i sti hsi
                        obtain ⟨_, rfl⟩ := slotSet_some hsi
                        rw [ih _ _ _ e, List.length_set]
                      · cases e
                unfold setT at hset
                cases t with
                | nm i => obtain ⟨_, rfl⟩ := slotSet_some hset; rw [List.length_set]
                | nms is =>
                  cases d0 with
                  | tup ds => exact this _ _ _ _ hset
                  | _ => cases hset
              omega
            have wp : ∀ {H' F' : Hp} {st3 : DSt}, SR g (gd P D accV) (setσ t.is xs (L2.wipe σ vs)) H' F' st3 → SR g (gd P D accV) (L2.wipe σ vs) H' F' (wipeD st3 vs) := fun {H' F' st3} s3 => by
              have := s3.wipe vs
              rw [wipe_setσ hv, wipe_wipe] at this
              exact this
            revert hgo
            cases test st2 with
            | ok b st3 =>
              intro hgo H3 F3 le3 s3
              cases b with
              | true =>
                rw [if_pos rfl]
                refine ⟨gd P D accV, F3, st3, s3, ?_⟩
                simp only at hgo
                revert hgo
                cases elt st3 with
                | ok y st4 =>
                  intro hgo H4 F4 le4 s4 v rv
                  simp only at hgo
                  have hD4 := s4.guard_at
                  have hb : big = sizeLine := big_eq
                  refine ⟨accV, hD4, by rw [racc.length, ← hb]; omega, F4, wipeD st4 vs, accV ++ [v], acc ++ [y], (le.trans le3).trans le4, (wp s4).reguard, (racc.mono (le3.trans le4)).append (.cons rv .nil), by simp; omega, lenW (σ' := σ) s4, ?_⟩
                  revert hgo
                  cases hr : compGo vs t test elt (ds.drop (i + 1)) (wipeD st4 vs) with
                  | ok ys' st5 =>
                    intro hgo
                    simp only at hgo
                    cases hgo
                    exact ⟨ys', _, rfl, by rw [List.append_assoc]; exact hall⟩
                  | exn c fs st5 => intro hgo; cases hgo
                  | stuck => intro hgo; cases hgo
                | exn c fs st4 => intro hgo; cases hgo
                | stuck => intro hgo; cases hgo
              | false =>
                rw [if_neg Bool.false_ne_true]
                exact ⟨F3, wipeD st3 vs, accV, acc, le.trans le3, wp s3, racc.mono le3, by omega, lenW (σ' := σ) s3, ys, stE, hgo, hall⟩
            | exn c fs st3 => intro hgo; cases hgo
            | stuck => intro hgo; cases hgo
      · have e : i = ds.length := by omega
        subst e
        rw [List.drop_length] at hgo
        cases hgo
        refine .inl ⟨wk.stop H2 (le.trans s'.le), ?_⟩
        rw [hall] at o1
        rw [List.append_nil] at o1
        exact o1 H2 F' D accV le (s'.unguard s1 hD le hlen hpl) s'.guard_at racc
  · exact o1.elim
theorem ev_comp {vs : List Nat} {t : Tg} {fi : Den (List D)} {test : Den Bool} {elt : Den D} (he : PE X e (tLc (tI g W fi) (tG g t) (tT g WN test) (tE g WN elt) vs)) (hv : ∀ i ∈ t.is, i ∈ vs := by decide) : PE X e (tN g W (dComp vs t fi test elt)) := he.imp fun _ _ _ q => comp_imp hv q
end
end DL

namespace DL
open PySem PySem.Spec PyProof.Rows L2

/-! ### isinstance -/
def tyName : D → Option String
  | .non => some "NoneType"
  | .bl _ => some "bool"
  | .int _ => some "int"
  | .str _ => some "str"
  | .lst _ => some "list"
  | .tup _ => some "tuple"
  | _ => none
/-- the built-in type T of a value; a truth value is an int -/
@[simp] def isTy (T : String) : D → Option Bool
  | .non => some (T == "NoneType")
  | .bl _ => some (T == "bool" || T == "int")
  | .int _ => some (T == "int")
  | .str _ => some (T == "str")
  | .lst _ => some (T == "list")
  | .tup _ => some (T == "tuple")
  | _ => none
def okTy (T : String) : Bool := T == "int" || T == "bool" || T == "str" || T == "list" || T == "tuple"
theorem kit_tys {T : String} (h : okTy T = true) {d : D} {b : Bool} (e : isTy T d = some b) : ∃ tn, tyName d = some tn ∧ ∀ K, PySem.W.kitOne K (.type tn) (.type T) = some b := by
  have hT : T = "int" ∨ T = "bool" ∨ T = "str" ∨ T = "list" ∨ T = "tuple" := by
    simpa [okTy, or_assoc] using h
  have key : ∀ tn b, kitB tn T = some b → ∀ K, PySem.W.kitOne K (.type tn) (.type T) = some b := fun tn b h K => kit_ty h
  rcases hT with rfl | rfl | rfl | rfl | rfl <;> cases d <;> cases e <;> first
    | exact ⟨_, rfl, key _ _ (by decide +kernel)⟩
theorem tyX_of {g : G} {H F : Hp} {v : V} {d : D} {tn : String} (l : Same F H) (r : Br g F H v d) (e : tyName d = some tn) : TyX g.K H v (.type tn) := by
  cases d with
  | non => cases e; cases r.non; exact .base .non
  | bl b => cases e; cases r.bl; exact .base (.bl b)
  | int b => cases e; cases r.int; exact .base (.int b)
  | str b => cases e; cases r.str; exact .base (.str b)
  | lst xs => cases e; obtain ⟨a, vs, rfl, h, _⟩ := r.lst l; exact .base (.lst h)
  | tup xs =>
    cases e
    obtain ⟨a, vs, rfl, h, _⟩ := r.tup l
    rcases h with (h | ⟨o, h⟩) | ⟨o, its, n, h1, h2, _⟩
    · exact .base (.tup h)
    · exact .fTuple h
    · exact .kTuple h1 h2
  | ins c ns ds => cases e
  | scr ns => cases e
@[simp] def opIsi (T : String) (d : D) : Option D := match isTy T d with | some b => some (.bl b) | none => none
theorem vo_isi {g : G} {T : String} (h : okTy T = true) : VO1 g (fun v => rIsi g.K [v, .ty T]) (opIsi T) := by
  intro H F v d z l rd hz Q q
  unfold opIsi at hz
  split at hz
  · rename_i b hb
    cases hz
    obtain ⟨tn, e1, e2⟩ := kit_tys h hb
    exact ⟨v, .ty T, .type tn, .type T, b, rfl, .ty T, tyX_of l rd e1, e2 _, q _ _ _ (Grow.refl l) (.bl _)⟩
  · cases hz
@[simp] def opIsi2 (T U : String) (d : D) : Option D := match isTy T d, isTy U d with | some b, some c => some (.bl (b || c)) | _, _ => none
theorem vo_isi2 {g : G} {T U : String} (h : okTy T = true) (h' : okTy U = true) : ∀ (H F : Hp) (v : V) (d z : D), Same F H → Br g F H v d → opIsi2 T U d = some z → ∀ Q : VK, (∀ H' F', Grow H F H' F' → ∀ v', Rv g F' v' z → Q v' H') → ∀ p, H p = none → rIsiT g.K [v, .ref p] (upd H p (.tup [.ty T, .ty U])) Q := by
  intro H F v d z l rd hz Q q p hp
  unfold opIsi2 at hz
  split at hz
  · rename_i b c hb hc
    cases hz
    obtain ⟨tn, e1, e2⟩ := kit_tys h hb
    obtain ⟨tn', e1', e2'⟩ := kit_tys h' hc
    rw [e1] at e1'; cases e1'
    have gr := Grow.new0 (o := .tup [.ty T, .ty U]) l hp
    have rd' : Br g F (upd H p (.tup [.ty T, .ty U])) v d := by
      rcases rd with rd | ⟨a, vs, ds, e1, e2, h1, r⟩
      · exact .inl rd
      · exact .inr ⟨a, vs, ds, e1, e2, gr.h _ _ h1, r⟩
    refine ⟨v, p, [.ty T, .ty U], .type tn, [.type T, .type U], b || c, rfl, upd_same, .cons (.ty T) (.cons (.ty U) .nil), tyX_of gr.i rd' e1, ?_, q _ _ gr _ (.bl _)⟩
    refine kitAny_cons (e2 _) (fun hb => kitAny_cons (e2' _) (fun hc => by rw [hb, hc]; exact kitAny_nil) fun hc => by rw [hc]; simp) fun hb => by rw [hb]; rfl
  · cases hz
/-- an own class c at C: what isinstance asks -/
structure IsF (g : G) (c : Str) (C : Addr) : Prop where
  gC : g.mg c = some (.ref C)
  cl : Cls g.K C
  ha : PySem.W.findIn g.K (.ref C) "__class__" = some (some (.builtin "object.__class__"))
  hn : PySem.W.specialIn g.K (.builtin "object.__class__") "__get__" = some (some (.builtin "getset_descriptor.__get__"))
  htk : PySem.W.takesIn g.K (.builtin "object.__class__") = some true
  hm : PySem.W.mroIn g.K C (.type "object") = some true
  tys : ∀ tn ∈ ["NoneType", "bool", "int", "str", "list", "tuple"], PySem.W.kitOne g.K (.type tn) (.ref C) = some false
@[simp] def opIsC (c : Str) : D → Option D
  | .ins c' _ _ => if c' = c then some (.bl true) else none
  | d => match tyName d with | some _ => some (.bl false) | none => none
theorem vo_isC {g : G} {c : Str} {C : Addr} (f : IsF g c C) : VO1 g (fun v => rIsi g.K [v, .ref C]) (opIsC c) := by
  intro H F v d z l rd hz Q q
  have other : ∀ tn, tyName d = some tn → tn ∈ ["NoneType", "bool", "int", "str", "list", "tuple"] → z = .bl false → rIsi g.K [v, .ref C] H Q := fun tn e hm hz => by
    subst hz
    exact ⟨v, .ref C, .type tn, .ref C, false, rfl, .own C, tyX_of l rd e, f.tys tn hm, q _ _ _ (Grow.refl l) (.bl _)⟩
  cases d with
  | ins c' ns ds =>
    simp only [opIsC] at hz
    split at hz
    · rename_i hc
      cases hz
      subst hc
      rcases rd with rd | ⟨_, _, _, _, e, _⟩
      · cases rd with
        | ins h1 h2 h3 h4 =>
          rw [f.gC] at h2
          cases h2
          refine ⟨_, .ref _, .ref C, .ref C, true, rfl, .own C, .base (.ins (l _ _ h1) f.cl f.ha f.hn f.htk f.hm), ?_, q _ _ _ (Grow.refl l) (.bl _)⟩
          unfold PySem.W.kitOne
          rw [if_pos (by simp)]
      · cases e
    · cases hz
  | scr ns => cases hz
  | _ => exact other _ rfl (by simp) (by cases hz; rfl)

/-! ### fields -/
@[simp] def getN : List Str → List D → Str → Option D
  | n :: ns, d :: ds, f => if f == n then some d else getN ns ds f
  | _, _, _ => none
theorem getN_rl {g : G} {F : Hp} {f : Str} {z : D} : ∀ {ns : List Str} {vs : List V} {ds : List D}, Rl g F vs ds → getN ns ds f = some z → ∃ v, (ns.zip vs).lookup f = some v ∧ Rv g F v z
  | [], _, _, _, e => by cases e
  | n :: ns, _, _, .nil, e => by cases e
  | n :: ns, v :: vs, d :: ds, .cons r t, e => by
    unfold getN at e
    rw [List.zip_cons_cons, List.lookup_cons]
    cases hf : f == n with
    | true => rw [hf] at e; cases e; exact ⟨v, rfl, r⟩
    | false => rw [hf] at e; exact getN_rl t e
@[simp] def opFld (c f : Str) : D → Option D
  | .ins c' ns ds => if c' = c then getN ns ds f else none
  | _ => none
structure ClsF (g : G) (c : Str) (C : Addr) : Prop where
  gC : g.mg c = some (.ref C)
  cl : Cls g.K C
theorem vo_fld {g : G} {c f : Str} {C : Addr} (k : ClsF g c C) (na : NoAttr g.K C f) {H F : Hp} {v : V} {d z : D} (l : Same F H) (rd : Rv g F v d) (hz : opFld c f d = some z) :
    ∃ a dx fs v', v = .ref a ∧ H a = some (.ins C dx fs) ∧ fs.lookup f = some v' ∧ Rv g F v' z := by
  cases d with
  | ins c' ns ds =>
    simp only [opFld] at hz
    split at hz
    · rename_i hc
      subst hc
      cases rd with
      | ins h1 h2 h3 h4 =>
        rw [k.gC] at h2
        cases h2
        obtain ⟨v', e1, e2⟩ := getN_rl h4 hz
        exact ⟨_, _, _, v', rfl, l _ _ h1, e1, e2⟩
    · cases hz
  | _ => cases hz
section
variable {X : Cx} {g : G} {W : WX} {P : Par} {σ : L2.St} {H F : Hp} {st : DSt} {e : Expr} {s : Stmt} {ss : List Stmt} {f h : Den D}
theorem ev_fld {c n : Str} {C : Addr} (k : ClsF g c C) (na : NoAttr g.K C n) (he : PE X e (tFld g.K (tE g W f) n)) : PE X e (tE g W (dOp1 (opFld c n) f)) := he.imp fun σ H Q ⟨P, F, st, s, o⟩ =>
  ⟨P, F, st, s, o.bind.imp fun x st1 H1 F1 le1 s1 o1 v rx => by
    obtain ⟨z, ez, q⟩ := o1.lift
    obtain ⟨a, dx, fs, v', rfl, h1, h2, h3⟩ := vo_fld k na s1.le rx ez
    exact ⟨a, C, dx, fs, v', rfl, h1, k.cl, na, h2, q H1 F1 (Same.refl _) s1 v' h3⟩⟩
/-- isinstance(x, T), isinstance(x, (T, U)), isinstance(x, C) -/
theorem ev_isi {T : String} (h : okTy T = true) (he : PE X e (tCB (rIsi g.K) (tCons (tE g W f) (tCons (tC (.ty T)) tNil)))) : PE X e (tE g W (dOp1 (opIsi T) f)) := he.imp fun σ H Q ⟨P, F, st, s, o⟩ =>
  ⟨P, F, st, s, o.bind.imp fun x st1 H1 F1 le1 s1 o1 v rx => fin1 (vo_isi h) s1 (.inl rx) o1⟩
theorem ev_isC {c : Str} {C : Addr} (k : IsF g c C) (he : PE X e (tCB (rIsi g.K) (tCons (tE g W f) (tCons (tC (.ref C)) tNil)))) : PE X e (tE g W (dOp1 (opIsC c) f)) := he.imp fun σ H Q ⟨P, F, st, s, o⟩ =>
  ⟨P, F, st, s, o.bind.imp fun x st1 H1 F1 le1 s1 o1 v rx => fin1 (vo_isC k) s1 (.inl rx) o1⟩
theorem ev_isi2 {T U : String} (h : okTy T = true) (h' : okTy U = true) (he : PE X e (tCB (rIsiT g.K) (tCons (tE g W f) (tCons (tTup (tCons (tC (.ty T)) (tCons (tC (.ty U)) tNil))) tNil)))) : PE X e (tE g W (dOp1 (opIsi2 T U) f)) := he.imp fun σ H Q ⟨P, F, st, s, o⟩ =>
  ⟨P, F, st, s, o.bind.imp fun x st1 H1 F1 le1 s1 o1 v rx => by
    obtain ⟨z, ez, q⟩ := o1.lift
    exact ⟨by show 2 ≤ sizeLine; decide, fun p hp => vo_isi2 h h' H1 F1 v x z s1.le (.inl rx) ez Q (fun H' F' gr v' rv => q H' F' gr.f (s1.grow gr) v' rv) p hp⟩⟩

/-! ### slices -/
def tO (g : G) (W : WX) (fo : Den (Option Int)) : TO := fun σ H Q => ∃ P F st, SR g P σ H F st ∧ Out g W P σ F (fo st) fun o _ H' _ => Q o H'
@[simp] def asI : D → Option Int
  | .int i => some i
  | _ => none
@[simp] def dNoP : Den (Option Int) := retD none
@[simp] def dPart (f : Den D) : Den (Option Int) := bindD f fun d => liftO (match asI d with | some i => some (some i) | none => none)
theorem _root_.L2.PO.imp {X : Cx} {e : Option Expr} {t t' : TO} (h : PO X e t) (i : ∀ σ H Q, t' σ H Q → t σ H Q) : PO X e t' := ⟨fun pins s σ H Q I q => h.run pins s σ H Q I (i σ H Q q)⟩
theorem eo_none : PO X none (tO g W dNoP) := (po_none (X := X)).imp fun σ H Q ⟨P, F, st, s, o⟩ => o H F (Same.refl _) s
theorem eo_some {e : Expr} (he : PE X e (tE g W f)) : PO X (some e) (tO g W (dPart f)) := (po_some he).imp fun σ H Q ⟨P, F, st, s, o⟩ =>
  ⟨P, F, st, s, o.bind.imp fun x st1 H1 F1 le1 s1 o1 v rx => by
    obtain ⟨z, ez, q⟩ := o1.lift
    cases x with
    | int i => cases ez; cases rx; exact ⟨i, rfl, q H1 F1 (Same.refl _) s1⟩
    | _ => cases ez⟩
def cutD {α : Type} (xs : List α) (lo hi : Option Int) : List α := (xs.drop (HT.sIx xs.length 0 lo)).take (HT.sIx xs.length xs.length hi - HT.sIx xs.length 0 lo)
theorem cut_rl {vs : List V} {ds : List D} (lo hi : Option Int) (r : Rl g F vs ds) : Rl g F (cutV vs lo hi) (cutD ds lo hi) := by
  unfold cutV cutD
  rw [r.length]
  exact (r.drop _).take _
@[simp] def opSl (d : D) (lo hi : Option Int) : Option D := match d with
  | .lst xs => some (.lst (cutD xs lo hi))
  | .tup xs => some (.tup (cutD xs lo hi))
  | .scr ns => some (.lst (cutD (ns.map D.int) lo hi))
  | _ => none
def rSlD (K : PySem.W.Frag) : V → Option Int → Option Int → Hp → VK → Prop := fun x lo hi H Q => rSlL K x lo hi H Q ∨ rSlN K x lo hi H Q
theorem sl_D : SlR X (rSlD X.K) := sl_list.or sl_tupN
theorem fin_sl {v : V} {x : D} {lo hi : Option Int} {Q : VK} (s : SR g P σ H F st) (rx : Br g F H v x) (o : Out g W P σ F (liftO (opSl x lo hi) st) fun d _ H' F' => ∀ v, Rv g F' v d → Q v H') : rSlD g.K v lo hi H Q := by
  obtain ⟨z, ez, q⟩ := o.lift
  cases x with
  | lst xs =>
    cases ez
    obtain ⟨a, vs, rfl, h1, r1⟩ := rx.lst s.le
    exact .inl ⟨a, vs, rfl, sqL_of h1, fun p hp => q _ _ (Grow.new s.le hp).f (s.grow (Grow.new s.le hp)) _ (.lst upd_same ((cut_rl lo hi r1).mono (Grow.new s.le hp).f))⟩
  | tup xs =>
    cases ez
    obtain ⟨a, vs, rfl, h1, r1⟩ := rx.tup s.le
    refine .inr ⟨a, vs, rfl, h1, fun hw => ?_, fun _ => newT s.le (cut_rl lo hi r1) fun v' H' F' gr rv => q _ _ gr.f (s.grow gr) _ rv⟩
    rw [r1.length] at hw
    have e : cutD xs lo hi = xs := by
      unfold cutD
      rw [hw.1, hw.2]
      simp
    rw [e] at q
    rcases rx with rx | ⟨_, _, _, _, z, _⟩
    · exact q H F (Same.refl _) s _ rx
    · cases z
  | scr ns =>
    cases ez
    rcases rx with rx | ⟨_, _, _, _, z, _⟩
    · cases rx with
      | scr h1 =>
        exact .inl ⟨_, _, rfl, sqL_mono s.le h1, fun p hp => q _ _ (Grow.new s.le hp).f (s.grow (Grow.new s.le hp)) _ (.lst upd_same (cut_rl lo hi (Rl.of_ints ns)))⟩
    · cases z
  | _ => cases ez
@[simp] def dSl (a : Den D) (lo hi : Den (Option Int)) : Den D := bindD a fun x => bindD lo fun l => bindD hi fun u => liftO (opSl x l u)
@[simp] def dSln (i : Nat) (lo hi : Den (Option Int)) : Den D := bindD (dRd i) fun _ => bindD lo fun l => bindD hi fun u => bindD (dRd i) fun x => liftO (opSl x l u)
theorem ev_sl {lo hi : Den (Option Int)} (he : PE X e (tSl (rSlD g.K) (tE g W f) (tO g W lo) (tO g W hi))) : PE X e (tE g W (dSl f lo hi)) := he.imp fun σ H Q ⟨P, F, st, s, o⟩ =>
  ⟨P, F, st, s, o.bind.imp fun x st1 H1 F1 le1 s1 o1 v rx => ⟨P, F1, st1, s1, o1.bind.imp fun l st2 H2 F2 le2 s2 o2 => ⟨P, F2, st2, s2, o2.bind.imp fun u st3 H3 F3 le3 s3 o3 => fin_sl s3 (.inl ((rx.mono le2).mono le3)) o3⟩⟩⟩
theorem ev_sln {i : Nat} {lo hi : Den (Option Int)} (he : PE X e (tSl (rSlD g.K) (tVar i) (tO g W lo) (tO g W hi))) : PE X e (tE g W (dSln i lo hi)) := he.imp fun σ H Q ⟨P, F, st, s, o⟩ => by
  obtain ⟨v, d, hv, _, o1⟩ := o.rd s
  refine ⟨v, hv, P, F, st, s, o1.bind.imp fun l st2 H2 F2 le2 s2 o2 => ⟨P, F2, st2, s2, o2.bind.imp fun u st3 H3 F3 le3 s3 o3 => ?_⟩⟩
  obtain ⟨v', d', hv', rx, o4⟩ := o3.rd s3
  rw [hv] at hv'; cases hv'
  exact fin_sl s3 rx o4

/-! ### list(range(..)), tuple(range(..)) -/
theorem rgV_rl (F : Hp) (a b : Int) : Rl g F (rgV a b) ((List.range (b - a).toNat).map fun k => D.int (a + (k : Nat))) := by
  unfold rgV
  generalize List.range (b - a).toNat = l
  induction l with
  | nil => exact .nil
  | cons x l ih => exact .cons (.int _) ih
def tRg (g : G) (W : WX) (f : Den (Int × Int)) : L2.St → Hp → (Int → Int → Hp → Prop) → Prop := fun σ H Q => ∃ P F st, SR g P σ H F st ∧ Out g W P σ F (f st) fun r _ H' _ => Q r.1 r.2 H'
@[simp] def dRg1 (f : Den D) : Den (Int × Int) := bindD f fun d => liftO (match asI d with | some n => if n.natAbs ≤ big then some (0, n) else none | none => none)
@[simp] def dRg2 (f h : Den D) : Den (Int × Int) := bindD f fun d => bindD h fun e => liftO (match asI d, asI e with | some m, some n => if 0 ≤ m ∧ m ≤ big ∧ 0 ≤ n ∧ n ≤ big then some (m, n) else none | _, _ => none)
def rgL (r : Int × Int) : List D := (List.range (r.2 - r.1).toNat).map fun k => D.int (r.1 + (k : Nat))
@[simp] def dLstRg (f : Den (Int × Int)) : Den (List D) := bindD f fun r => if r.2 ≤ big then retD (rgL r) else fun _ => .stuck
@[simp] def dTupRg (f : Den (Int × Int)) : Den D := bindD f fun r => if r.2 ≤ big then retD (.tup (rgL r)) else fun _ => .stuck
theorem rg_ok {r : Int × Int} (h0 : r.1 = 0 ∧ r.2.natAbs ≤ big ∨ 0 ≤ r.1 ∧ r.1 ≤ big ∧ 0 ≤ r.2 ∧ r.2 ≤ big) : RgOk r.1 r.2 := by
  have : big = 16777216 := rfl
  rcases h0 with ⟨h0, h1⟩ | ⟨h0, h1, h2, h3⟩
  · rw [h0]; exact ⟨by omega, by omega, by omega, by omega, by omega⟩
  · exact ⟨by omega, by omega, by omega, by omega, by omega⟩
def PRgImp (X : Cx) (e : Expr) (t t' : L2.St → Hp → (Int → Int → Hp → Prop) → Prop) (h : PRg X e t) (i : ∀ σ H Q, t' σ H Q → t σ H Q) : PRg X e t' := fun pins s σ H Q I q => h pins s σ H Q I (i σ H Q q)
/-- .. with what makes them good -/
def tRgK (g : G) (W : WX) (f : Den (Int × Int)) : L2.St → Hp → (Int → Int → Hp → Prop) → Prop := fun σ H Q => ∃ P F st, SR g P σ H F st ∧ Out g W P σ F (f st) fun r _ H' _ => RgOk r.1 r.2 → Q r.1 r.2 H'
theorem erg1 (he : PRg X e (tRg1 (tE g W f))) : PRg X e (tRgK g W (dRg1 f)) := PRgImp X e _ _ he fun σ H Q ⟨P, F, st, s, o⟩ =>
  ⟨P, F, st, s, o.bind.imp fun x st1 H1 F1 le1 s1 o1 v rx => by
    obtain ⟨z, ez, q⟩ := o1.lift
    cases x with
    | int n =>
      simp only [asI] at ez
      split at ez
      · rename_i hn
        cases ez; cases rx
        exact ⟨n, rfl, q H1 F1 (Same.refl _) s1 (rg_ok (.inl ⟨rfl, hn⟩))⟩
      · cases ez
    | _ => cases ez⟩
theorem erg2 (he : PRg X e (tRg2 (tE g W f) (tE g W h))) : PRg X e (tRgK g W (dRg2 f h)) := PRgImp X e _ _ he fun σ H Q ⟨P, F, st, s, o⟩ =>
  ⟨P, F, st, s, o.bind.imp fun x st1 H1 F1 le1 s1 o1 v rx => ⟨P, F1, st1, s1, o1.bind.imp fun y st2 H2 F2 le2 s2 o2 u ry => by
    obtain ⟨z, ez, q⟩ := o2.lift
    cases x with
    | int m =>
      cases y with
      | int n =>
        simp only [asI] at ez
        split at ez
        · rename_i hn
          cases ez; cases rx; cases ry
          exact ⟨m, n, rfl, rfl, q H2 F2 (Same.refl _) s2 (rg_ok (.inr hn))⟩
        · cases ez
      | _ => cases ez
    | _ => cases ez⟩⟩
theorem evN_rg {fr : Den (Int × Int)} (he : PE X e (tLstRg (tRgK g W fr))) : PE X e (tN g W (dLstRg fr)) := he.imp fun σ H Q ⟨P, F, st, s, o⟩ =>
  ⟨P, F, st, s, o.bind.imp fun r st1 H1 F1 le1 s1 o1 ok => ⟨ok, fun p hp => by
    split at o1
    · exact o1 _ F1 p _ (Same.refl _) (s1.newx hp) upd_same (rgV_rl F1 r.1 r.2)
    · exact o1.elim⟩⟩
theorem ev_tupRg {fr : Den (Int × Int)} (he : PE X e (tTupRgN (tRgK g W fr))) : PE X e (tE g W (dTupRg fr)) := he.imp fun σ H Q ⟨P, F, st, s, o⟩ =>
  ⟨P, F, st, s, o.bind.imp fun r st1 H1 F1 le1 s1 o1 ok => ⟨ok, by
    split at o1
    · exact newT s1.le (rgV_rl F1 r.1 r.2) fun v' H' F' gr rv => o1 _ _ gr.f (s1.grow gr) _ rv
    · exact o1.elim⟩⟩

/-! ### methods of data -/
@[simp] def dMeth (c : Str) (m : Str) (df : List D → M D) (a : Den D) (fa : Den (List D)) : Den D := bindD a fun x => match x with
  | .ins c' ns ds => if c' = c ∧ (getN ns ds m).isNone ∧ ns.length = ds.length then bindD fa fun ys => fun st => match df (x :: ys) with | .ok d => .ok d st | _ => .stuck else fun _ => .stuck
  | _ => fun _ => .stuck
theorem getN_none {ns : List Str} {f : Str} : ∀ {vs : List V} {ds : List D}, Rl g F vs ds → ns.length = ds.length → getN ns ds f = none → (ns.zip vs).lookup f = none := by
  induction ns with
  | nil => intro vs ds _ _ _; rfl
  | cons n ns ih =>
    intro vs ds r hl e
    cases r with
    | nil => cases hl
    | cons r t =>
      unfold getN at e
      rw [List.zip_cons_cons, List.lookup_cons]
      cases hf : f == n with
      | true => rw [hf] at e; cases e
      | false => rw [hf] at e; exact ih t (by simpa using hl) e
theorem ev_meth {c m : Str} {C : Addr} {df : List D → M D} {fa : Den (List D)} (k : ClsF g c C) (he : PE X e (tMeth C m (spD g df) [] E0 (tE g W f) (tA g W fa))) : PE X e (tE g W (dMeth c m df f fa)) := he.imp fun σ H Q ⟨P, F, st, s, o⟩ =>
  ⟨P, F, st, s, o.bind.imp fun x st1 H1 F1 le1 s1 o1 v rx => by
    cases x with
    | ins c' ns ds =>
      simp only at o1
      split at o1
      · rename_i hc
        obtain ⟨rfl, hno, hlen⟩ := hc
        cases rx with
        | ins h1 h2 h3 h4 =>
          rw [k.gC] at h2
          cases h2
          refine ⟨_, _, _, rfl, s1.le _ _ h1, getN_none h4 hlen (by simpa using hno), P, F1, st1, s1, o1.bind.imp fun ys st2 H2 F2 le2 s2 o2 us rus => ?_⟩
          refine ⟨F2, _, s2.le, .cons (.ins (le2 _ _ h1) k.gC h3 (h4.mono le2)) (by rw [List.append_nil]; exact rus), ?_⟩
          revert o2
          cases df (.ins c' ns ds :: ys) with
          | ok d => exact fun o2 v H' F' gr rv => o2 H' F' gr.f (s2.grow gr) v rv
          | exn c fs => exact fun o2 => o2.elim
          | stuck => exact fun o2 => o2.elim
      · exact o1.elim
    | _ => exact o1.elim⟩
end

/-! ### a def -/
section
variable {P : Program} {w : World} {K : PySem.W.Frag} {mg : Str → Option Value} {base : Heap} {x qual : Str} {params : Arguments} {body : List Stmt} {scope : Scope} {f : Addr} {fd : FuncData} {N ps : List Str} {k : Nat}
theorem fn_data {b : DS} (F : FunD K x qual params body scope [] [] f fd) (S : FnScope N ps scope) (hp : ps.length ≤ N.length)
    (hbody : ∀ (cdv : Value) (A : Around) (outer : List Env) (s : Shared) (H : Hp) (E : XK), Room k (A.deeper (envOfC qual scope s.heap.objs.size f cdv)) →
      Takes (cxOf (L2.CX P w) P w K mg base N qual scope f cdv A outer s H E) (fun cls dd _ H => E cls dd H) →
      PassesOwn (model P w) (cxOf (L2.CX P w) P w K mg base N qual scope f cdv A outer s H E).A (cxOf (L2.CX P w) P w K mg base N qual scope f cdv A outer s H E).env (cxOf (L2.CX P w) P w K mg base N qual scope f cdv A outer s H E).xe →
      PSs (cxOf (L2.CX P w) P w K mg base N qual scope f cdv A outer s H E) body (tS ⟨K, mg, none, tk⟩ (fun cls dd _ H => E cls dd H) b)) :
    FnOk P w K mg base (L2.CX P w) (k + 1) f fd ps (spD ⟨K, mg, none, tk⟩ (runF ps.length N.length b)) :=
  F.ok S (fun vs H Q E h => spD_len h) fun cdv A outer s H vs Q E hr h => ⟨_, hbody cdv A outer s H E hr (takes_of rfl rfl rfl rfl) (passes_of rfl), body_ok rfl hp (spD_len h) h⟩
theorem fn_dataR {y : Str} {b : DS} (F : FunD K x qual params body scope [] [] f fd) (S : FnScope (y :: N) ps scope) (hp : ps.length ≤ (y :: N).length)
    (hbody : ∀ (cdv : Value) (A : Around) (outer : List Env) (s : Shared) (H : Hp) (E : XK), Room k (A.deeper (envOfC qual scope s.heap.objs.size f cdv)) →
      Takes (cxOf (L2.CX P w) P w K mg base (y :: N) qual scope f cdv A outer s H E) (fun cls dd _ H => E cls dd H) →
      PassesOwn (model P w) (cxOf (L2.CX P w) P w K mg base (y :: N) qual scope f cdv A outer s H E).A (cxOf (L2.CX P w) P w K mg base (y :: N) qual scope f cdv A outer s H E).env (cxOf (L2.CX P w) P w K mg base (y :: N) qual scope f cdv A outer s H E).xe →
      PSs (cxOf (L2.CX P w) P w K mg base (y :: N) qual scope f cdv A outer s H E) body (tS ⟨K, mg, none, tk⟩ (fun cls dd _ H => E cls dd H) b)) :
    FnOk P w K mg base (L2.CX P w) (k + 1) f fd ps (spR ⟨K, mg, none, tk⟩ (runR ps.length (y :: N).length b)) :=
  F.ok S (fun vs H Q E h => spR_len h) fun cdv A outer s H vs Q E hr h => ⟨_, hbody cdv A outer s H E hr (takes_of rfl rfl rfl rfl) (passes_of rfl), body_okR rfl hp (spR_len h) h⟩
end
end DL

namespace DL
open PySem PySem.Spec PyProof.Rows L2

/-! ### instances: __init__ and the call of the class -/
@[simp] def sSelf (i : Nat) (cn n : Str) (f : Den D) : DS := bindD f fun v => fun st => match st[i]? with
  | some (.oi k c ns ds) => if c ≠ cn ∨ n ∈ ns ∨ ns.length ≠ ds.length ∨ 100 ≤ ns.length then .stuck else .ok .nx (st.set i (.oi k c (ns ++ [n]) (ds ++ [v])))
  | _ => .stuck
theorem putF_new {f : Str} {v : V} : ∀ {ns : List Str} {vs : List V}, f ∉ ns → ns.length = vs.length → putF f v (ns.zip vs) = (ns ++ [f]).zip (vs ++ [v])
  | [], [], _, _ => rfl
  | n :: ns, [], _, e => by cases e
  | [], v :: vs, _, e => by cases e
  | n :: ns, u :: vs, h, e => by
    have hn : n ≠ f := fun z => h (by rw [z]; exact List.mem_cons_self)
    show putF f v ((n, u) :: ns.zip vs) = (n, u) :: ((ns ++ [f]).zip (vs ++ [v]))
    unfold putF
    rw [if_neg hn, putF_new (fun z => h (List.mem_cons_of_mem _ z)) (by simpa using e)]
def spI (g : G) (c : Str) (df : List D → M (List Str × List D)) : Sp := fun vs H Q E => ∃ F a C dx us ds, vs = .ref a :: us ∧ Same F H ∧ F a = none ∧ g.mg c = some (.ref C) ∧ H a = some (.ins C dx []) ∧ Rl g F us ds ∧ match df ds with
  | .ok r => ∀ H' F' ws' dx', Same F F' → Same F' H' → (∀ b, NT H b → F b = none → F' b = none) → (∀ b o, b ≠ a → H b = some o → H' b = some o) → H' a = some (.ins C dx' (r.1.zip ws')) → F' a = none → r.1.length = ws'.length → Rl g F' ws' r.2 → Q .non H'
  | .exn c fs => ∀ cls dd H' F', Same F F' → Same F' H' → (∀ b, NT H b → F b = none → F' b = none) → (∀ b o, b ≠ a → H b = some o → H' b = some o) → RepX g F' H' c fs cls dd → E cls dd H'
  | .stuck => False
def runI (c : Str) (m n : Nat) (f : DS) (ds : List D) : M (List Str × List D) := if ds.length + 1 = m then match f (.oi 0 c [] [] :: (ds.map Slot.sh ++ List.replicate (n - ds.length - 1) .no)) with
  | .ok .nx (.oi 0 c' ns xs :: _) => if c' = c then .ok (ns, xs) else .stuck
  | .exn c fs _ => .exn c fs
  | _ => .stuck
  else .stuck
@[simp] def makeM (c : Str) (df : List D → M (List Str × List D)) (ds : List D) : M D := match df ds with
  | .ok r => .ok (.ins c r.1 r.2)
  | .exn c fs => .exn c fs
  | .stuck => .stuck
section
variable {X : Cx} {g : G} {W : WX} {P : Par} {σ : L2.St} {H F : Hp} {st : DSt} {e : Expr} {s : Stmt} {ss : List Stmt} {f h : Den D}
theorem spI_len {c : Str} {m n : Nat} {f : DS} {vs : List V} {Q : VK} {E : XK} (h : spI g c (runI c m n f) vs H Q E) : vs.length = m := by
  obtain ⟨F, a, C, dx, us, ds, rfl, le, fa, hc, ha, r, h⟩ := h
  rw [List.length_cons, r.length]
  by_cases hm : ds.length + 1 = m
  · exact hm
  · unfold runI at h
    rw [if_neg hm] at h
    exact h.elim
theorem es_self {i : Nat} {n c : Str} {C : Addr} (k : ClsF g c C) (na : NoAttr g.K C n) (he : PS X s (sFld g.K (tVar i) (tE g W f) n)) : PS X s (tS g W (sSelf i c n f)) := he.imp fun D σ H ⟨P, F, st, s, o⟩ => by
  refine ⟨P, F, st, s, OutS.bind o |>.imp fun v st1 H1 F1 le1 s1 o1 vv rv => ?_⟩
  split at o1
  · rename_i k1 c1 ns ds h1
    split at o1
    · exact o1.elim
    · rename_i hns
      have hcc : c1 = c := by
        rcases Classical.em (c1 = c) with z | z
        · exact z
        · exact absurd (.inl z) hns
      have hn1 : n ∉ ns := fun z => hns (.inr (.inl z))
      have hn2 : ns.length = ds.length := by
        rcases Nat.decEq ns.length ds.length with z | z
        · exact absurd (.inr (.inr (.inl z))) hns
        · exact z
      have hn3 : ns.length < 100 := by
        rcases Nat.lt_or_ge ns.length 100 with z | z
        · exact z
        · exact absurd (.inr (.inr (.inr z))) hns
      obtain ⟨ov, hov⟩ := SRc.nth s1 h1
      obtain ⟨O, c0⟩ := id s1
      obtain ⟨a, C1, dx, vs, rfl, hb, ho, hm, hl, ha, r⟩ := c0.sl i _ _ h1 hov
      subst hcc
      rw [k.gC] at hm
      cases hm
      refine ⟨_, hov, a, C, dx, ns.zip vs, rfl, ha, k.cl, na, ?_, ?_⟩
      · rw [List.length_zip]; omega
      · rw [putF_new hn1 hl]
        have gr : ∀ b o, b ≠ a → H1 b = some o → upd H1 a (.ins C dx ((ns ++ [n]).zip (vs ++ [vv]))) b = some o := fun b o hb e => by rw [upd_ne hb]; exact e
        refine o1 σ _ F1 (Same.refl _) ⟨O, fun b o e => ?_, fun b o e => ?_, fun b j e => ?_, fun b nb => ?_, by rw [List.length_set]; exact c0.len, fun j sl ov e1 e2 => ?_⟩
        · rw [upd_ne (fun z => by subst z; rw [(c0.oo b i ho).1] at e; cases e)]; exact c0.le b o e
        · rw [upd_ne (fun z => by subst z; rw [(c0.oo b i ho).2.1] at e; cases e)]; exact c0.rr b o e
        · refine ⟨(c0.oo b j e).1, (c0.oo b j e).2.1, ?_⟩
          by_cases hb : b = a
          · subst hb; exact NT.of upd_same
          · exact NT.upd hb (c0.oo b j e).2.2
        · refine ⟨(c0.no b nb).1, ?_⟩
          by_cases hb : b = a
          · subst hb; exact NT.of upd_same
          · exact NT.upd hb (c0.no b nb).2
        · have hi : i < st1.length := by
            rcases Nat.lt_or_ge i st1.length with q | q
            · exact q
            · rw [List.getElem?_eq_none q] at h1; cases h1
          by_cases hj : j = i
          · subst hj
            rw [List.getElem?_set_self hi] at e1
            cases e1
            rw [hov] at e2; cases e2
            exact ⟨a, C, dx, vs ++ [vv], rfl, hb, ho, k.gC, by simp [hl], upd_same, r.append (.cons rv .nil)⟩
          · rw [List.getElem?_set_ne (Ne.symm hj)] at e1
            exact (c0.sl j sl ov e1 e2).move rfl (fun _ h => h) (Same.refl _) (fun b o ho' h => gr b o (fun z => hj (by rw [z, ho] at ho'; exact (Option.some.inj ho').symm)) h) fun _ _ h => h
  · exact o1.elim
theorem body_okI {x c : Str} {N ps : List Str} {f : DS} {n : Nat} {vs : List V} {Q : VK} {E : XK} (hn : n = (x :: N).length) (hp : ps.length ≤ (x :: N).length) (hl : vs.length = ps.length) (h : spI g c (runI c ps.length n f) vs H Q E) :
    tS g (fun cls dd _ H => E cls dd H) f { nx := fun _ H' => Q .non H', rt := Q } (L2.start (x :: N) vs) H := by
  obtain ⟨F, a, C, dx, us, ds, rfl, le, fa, hc, ha, r, h⟩ := h
  have hln := r.length
  rw [start_cons]
  refine ⟨⟨[a], fun b => if b = a then none else H b, fun b => NT H b ∧ F b = none⟩, F, .oi 0 c [] [] :: (ds.map Slot.sh ++ List.replicate (n - ds.length - 1) .no), ⟨fun b => if b = a then some 0 else none, le, fun b o e => ?_, fun b i e => ?_, fun a h => ⟨h.2, h.1⟩, ?_, fun i s ov e1 e2 => ?_⟩, ?_⟩
  · by_cases hb : b = a
    · subst hb; simp at e
    · simpa [hb] using e
  · by_cases hb : b = a
    · subst hb; exact ⟨fa, by simp, NT.of ha⟩
    · simp [hb] at e
  · unfold L2.start
    simp only [List.length_append, List.length_map, List.length_replicate, List.length_cons] at *
    omega
  · cases i with
    | zero =>
      simp at e1 e2
      subst e1; subst e2
      exact ⟨a, C, dx, [], rfl, rfl, by simp, hc, rfl, ha, .nil⟩
    | succ i =>
      have q := init_sl (P := ⟨[a], fun b => if b = a then none else H b, fun b => NT H b ∧ F b = none⟩) (H := H) (O := fun b => if b = a then some 0 else none) (N := N) r (n - ds.length - 1) i s ov (by simpa using e1) (by simpa using e2)
      have hs : s = .no ∨ ∃ d, s = .sh d := by
        have e1 : (ds.map Slot.sh ++ List.replicate (n - ds.length - 1) Slot.no)[i]? = some s := by simpa using e1
        rcases List.mem_append.mp (List.mem_of_getElem? e1) with h | h
        · obtain ⟨d, _, e⟩ := List.mem_map.mp h
          exact .inr ⟨d, e.symm⟩
        · exact .inl (List.mem_replicate.mp h).2
      rcases hs with rfl | ⟨d, rfl⟩
      · trivial
      · exact q
  · unfold runI at h
    rw [if_pos (by simp only [List.length_cons] at hl; omega)] at h
    revert h
    cases f (.oi 0 c [] [] :: (ds.map Slot.sh ++ List.replicate (n - ds.length - 1) .no)) with
    | ok fl st' =>
      cases fl with
      | nx =>
        cases st' with
        | nil => exact fun h => h.elim
        | cons s0 st' =>
          cases s0 with
          | oi k c' ns xs =>
            cases k with
            | zero =>
              intro h σ' H' F' le s
              simp only at h
              split at h
              · rename_i r hr
                split at hr
                · rename_i hcc
                  cases hr
                  subst hcc
                  obtain ⟨ov, hov⟩ := SRc.nth (i := 0) s rfl
                  obtain ⟨O, c0⟩ := s
                  obtain ⟨a', C', dx', ws', e1, e2, e3, e4, e5, e6, e7⟩ := c0.sl 0 _ _ rfl hov
                  have : a' = a := by simpa using e2.symm
                  subst this
                  rw [hc] at e4
                  cases e4
                  exact h H' F' ws' dx' le c0.le (fun b h1 h2 => (c0.no b ⟨h1, h2⟩).1) (fun b o hb e => c0.rr b o (by simp [hb, e])) e6 (c0.oo _ _ e3).1 e5 e7
                · cases hr
              · rename_i hr
                split at hr <;> cases hr
              · exact h.elim
            | succ k => exact fun h => h.elim
          | _ => exact fun h => h.elim
      | ret d => exact fun h => h.elim
      | brk => exact fun h => h.elim
      | cnt => exact fun h => h.elim
    | exn c fs st' =>
      intro h cls dd σ' H' F' le s rx
      obtain ⟨O, c0⟩ := s
      exact h cls dd H' F' le c0.le (fun b h1 h2 => (c0.no b ⟨h1, h2⟩).1) (fun b o hb e => c0.rr b o (by simp [hb, e])) rx
    | stuck => exact fun h => h.elim

theorem run_makeS {k : Nat} {f C : Addr} {fd : FuncData} {ps : List Str} {sp : Sp} {E : L2.St → XK} {pins : List (Addr × Obj)} {σ : L2.St} {H : Hp} {s : Shared} {Q : VK} {us : List Value} {vs : List V} (M : Mk X.K C f) (F : FnOk X.prog X.w X.K X.mg X.base (L2.CX X.prog X.w) k f fd ps sp) (hr : Room (k + 1) X.A) (hb : Binds X.K fd ps [])
    (hx : PassesAt (L2.CX X.prog X.w) X σ (E σ)) (I : Inv X pins σ H s) (r : Vals vs us)
    (h : ∀ x dx, H x = none → H dx = none → dx ≠ x → sp (.ref x :: vs) (upd (upd H dx (.own x)) x (.ins C dx [])) (fun v H2 => v = .non ∧ Q (.ref x) H2) (E σ)) :
    wpAny (model X.prog X.w) X.A (call (.ref C) us) (EP X pins σ Q) X.xe s := by
  have hq := h (s.heap.objs.size + 1) s.heap.objs.size (I.hok.fresh (Nat.le_succ _)) (I.hok.fresh (Nat.le_refl _)) (Nat.ne_of_lt (Nat.lt_succ_self _))
  have I2 := Inv.made (C := C) I
  have r2 : Vals (V.ref (s.heap.objs.size + 1) :: vs) (Value.ref (s.heap.objs.size + 1) :: us) := .cons rfl r
  have hl : (Value.ref (s.heap.objs.size + 1) :: us).length = ps.length := by
    have e := r2.length
    rw [F.len _ _ _ _ hq] at e
    exact e.symm
  have b := hb _ (Value.ref (s.heap.objs.size + 1) :: us) I2.kIn (by rw [List.append_nil]; exact hl)
  rw [List.append_nil] at b
  refine wpAny_call (make_map (f := f) I.kIn M.makes M.init (beq_iff_eq.mp M.fn) (codeAny_mono (F.run _ X.stack _ _ ⟨Value.ref (s.heap.objs.size + 1) :: us, []⟩ (Value.ref (s.heap.objs.size + 1) :: us) _ _ (E σ) (hr.make C us [])
    (I2.env0.make C us []) b r2 hq) fun r s' hq' => ?_))
  cases r with
  | error e => exact hx pins _ _ e s' I2 hq'
  | ok fl =>
    cases fl with
    | ret u =>
      obtain ⟨v, H', I3, rv, ev, q3⟩ := I2.after hq'
      subst ev
      exact ⟨rv, ⟨V.ref (s.heap.objs.size + 1), H', I3, rfl, q3⟩⟩
    | next => exact False.elim hq'
    | brk => exact False.elim hq'
    | cont => exact False.elim hq'
def tMakeS (C : Addr) (sp : Sp) (E : L2.St → XK) (t : TA) : TE := fun σ H Q => t σ H fun vs H1 => ∀ x dx, H1 x = none → H1 dx = none → dx ≠ x →
  sp (.ref x :: vs) (upd (upd H1 dx (.own x)) x (.ins C dx [])) (fun v H2 => v = .non ∧ Q (.ref x) H2) (E σ)
theorem pe_makeS {k : Nat} {f C : Addr} {fd : FuncData} {ps : List Str} {sp : Sp} {E : L2.St → XK} {x : Str} {p pos : Pos} {e : Expr} {es : List Expr} {t : TA} (M : Mk X.K C f) (F : FnOk X.prog X.w X.K X.mg X.base (L2.CX X.prog X.w) k f fd ps sp) (hr : Room (k + 1) X.A) (hg : Gl X x) (hm : X.mg x = some (.ref C)) (hb : Binds X.K fd ps []) (hx : ∀ σ, PassesAt (L2.CX X.prog X.w) X σ (E σ))
    (ha : PA X (e :: es) t) (hdb : (x == ("__debug__" : Str)) = false := by decide) (he : starEach (e :: es) X.env = (false, eval e X.env) :: starEach es X.env := by rfl) (hpl : (backTo pos (starEach es X.env)).any (·.1) = false := by rfl) :
    PE X (.Call (.Name x p) (e :: es) [] pos) (tMakeS C sp E t) := by
  refine ⟨fun pins s σ H Q I h => ?_⟩
  refine wpAny_Call_Name_kw (ld_glob I hg hm ?_ hdb)
  refine PySem.W.callWith_K (h₀ := X.base) I.ok.mod.kin M.kp (thn (ha.run pos pins s σ H _ I h) fun us s1 ⟨vs, H1, I1, r, q⟩ => ⟨I1.kIn, ?_⟩) he hpl
  exact run_makeS M F hr hb (hx σ) I1 r q
theorem ev_make {c : Str} {C : Addr} {df : List D → M (List Str × List D)} {fa : Den (List D)} (k : g.mg c = some (.ref C)) (he : PE X e (tMakeS C (spI g c df) (WE W) (tA g W fa))) : PE X e (tE g W (dCall (makeM c df) fa)) := he.imp fun σ H Q ⟨P, F, st, s, o⟩ =>
  ⟨P, F, st, s, o.bind.imp fun ds st1 H1 F1 le1 s1 o1 vs rs x dx hx hdx hne => by
    have hn1 : ∀ {b : Addr} {o : HO}, H1 b = some o → b ≠ x ∧ b ≠ dx := fun e => ⟨(fun z => by subst z; rw [hx] at e; cases e), (fun z => by subst z; rw [hdx] at e; cases e)⟩
    have up : Same H1 (upd (upd H1 dx (.own x)) x (.ins C dx [])) := fun b o e => by rw [upd_ne (hn1 e).1, upd_ne (hn1 e).2]; exact e
    have f0 : F1 x = none := by
      cases e : F1 x with
      | none => rfl
      | some o => rw [s1.le _ _ e] at hx; cases hx
    have nf : ∀ {b : Addr}, NT H1 b → NT (upd (upd H1 dx (.own x)) x (.ins C dx [])) b := fun h => NT.same up h
    refine ⟨F1, x, C, dx, vs, ds, rfl, s1.le.trans up, f0, k, upd_same, rs, ?_⟩
    revert o1
    unfold makeM liftM'
    cases df ds with
    | ok r =>
      intro o1 H' F' ws' dx' a1 a2 a3 a4 a5 a6 a7 a8
      refine ⟨rfl, ?_⟩
      have sf : Same F' (upd F' x (.ins C dx' (r.1.zip ws'))) := fun b o e => by rw [upd_ne (fun z => by subst z; rw [a6] at e; cases e)]; exact e
      have gr : Grow H1 F1 H' (upd F' x (.ins C dx' (r.1.zip ws'))) := by
        refine ⟨fun b o e => a4 b o (hn1 e).1 (up b o e), a1.trans sf, fun b o e => ?_, fun b h1 h2 => ?_⟩
        · by_cases hb : b = x
          · subst hb; rw [upd_same] at e; cases e; exact a5
          · rw [upd_ne hb] at e; exact a2 b o e
        · obtain ⟨u, hu⟩ := h1.get
          rw [upd_ne (hn1 hu).1]
          exact a3 b (nf h1) h2
      exact o1 H' _ gr.f (s1.grow gr) _ (.ins upd_same k a7 (a8.mono sf))
    | exn c' fs =>
      intro o1 cls dd H' F' a1 a2 a3 a4 rx
      have gr : Grow H1 F1 H' F' := ⟨fun b o e => a4 b o (hn1 e).1 (up b o e), a1, a2, fun b h1 h2 => a3 b (nf h1) h2⟩
      exact o1 cls dd H' F' a1 (s1.grow gr) rx
    | stuck => exact fun o1 => o1.elim⟩

/-! ### targets of assignments -/
@[simp] def sAsg (t : Tg) (f : Den D) : DS := bindD f fun d => fun st => match setT t d st with
  | some st' => .ok .nx st'
  | none => .stuck
theorem es_asg {t : Tg} (he : PS X s (tAsg (tE g W f) (tG g t))) : PS X s (tS g W (sAsg t f)) := he.imp fun D σ H ⟨P, F, st, s, o⟩ =>
  ⟨P, F, st, s, OutS.bind o |>.imp fun d st1 H1 F1 le1 s1 o1 v rv => by
    cases hs : setT t d st1 with
    | none => rw [hs] at o1; exact o1.elim
    | some st2 =>
      rw [hs] at o1
      exact ⟨P, F1, st1, d, s1, rv, st2, hs, fun xs s2 => o1 _ _ F1 (Same.refl _) s2⟩⟩
@[simp] def sPar (i j : Nat) (f h : Den D) : DS := bindD f fun x => bindD h fun y => fun st => match slotSet i (.sh x) st with
  | some st1 => match slotSet j (.sh y) st1 with
    | some st2 => .ok .nx st2
    | none => .stuck
  | none => .stuck
theorem es_par {i j : Nat} (he : PS X s (tPar i j (tCons (tE g W f) (tCons (tE g W h) tNil)))) : PS X s (tS g W (sPar i j f h)) := he.imp fun D σ H ⟨P, F, st, s, o⟩ =>
  ⟨P, F, st, s, OutS.bind o |>.imp fun x st1 H1 F1 le1 s1 o1 v rv => ⟨P, F1, st1, s1, OutS.bind o1 |>.imp fun y st2 H2 F2 le2 s2 o2 u ru => ⟨v, u, rfl, by
    cases hs : slotSet i (.sh x) st2 with
    | none => rw [hs] at o2; exact o2.elim
    | some st3 =>
      rw [hs] at o2
      simp only at o2
      cases hs2 : slotSet j (.sh y) st3 with
      | none => rw [hs2] at o2; exact o2.elim
      | some st4 =>
        rw [hs2] at o2
        obtain ⟨hi, rfl⟩ := slotSet_some hs
        obtain ⟨hj, rfl⟩ := slotSet_some hs2
        exact o2 _ H2 F2 (Same.refl _) ((s2.put (rv.mono le2) hi).put ru hj)⟩⟩⟩
@[simp] def sPar3 (i j l : Nat) (f h k : Den D) : DS := bindD f fun x => bindD h fun y => bindD k fun z => fun st => match slotSet i (.sh x) st with
  | some st1 => match slotSet j (.sh y) st1 with
    | some st2 => match slotSet l (.sh z) st2 with
      | some st3 => .ok .nx st3
      | none => .stuck
    | none => .stuck
  | none => .stuck
theorem es_par3 {i j l : Nat} {k : Den D} (he : PS X s (tPar3 i j l (tCons (tE g W f) (tCons (tE g W h) (tCons (tE g W k) tNil))))) : PS X s (tS g W (sPar3 i j l f h k)) := he.imp fun D σ H ⟨P, F, st, s, o⟩ =>
  ⟨P, F, st, s, OutS.bind o |>.imp fun x st1 H1 F1 le1 s1 o1 v rv => ⟨P, F1, st1, s1, OutS.bind o1 |>.imp fun y st2 H2 F2 le2 s2 o2 u ru => ⟨P, F2, st2, s2, OutS.bind o2 |>.imp fun z st3 H3 F3 le3 s3 o3 w rw' => ⟨v, u, w, rfl, by
    cases hs : slotSet i (.sh x) st3 with
    | none => rw [hs] at o3; exact o3.elim
    | some st4 =>
      rw [hs] at o3
      simp only at o3
      cases hs2 : slotSet j (.sh y) st4 with
      | none => rw [hs2] at o3; exact o3.elim
      | some st5 =>
        rw [hs2] at o3
        simp only at o3
        cases hs3 : slotSet l (.sh z) st5 with
        | none => rw [hs3] at o3; exact o3.elim
        | some st6 =>
          rw [hs3] at o3
          obtain ⟨hi, rfl⟩ := slotSet_some hs
          obtain ⟨hj, rfl⟩ := slotSet_some hs2
          obtain ⟨hl, rfl⟩ := slotSet_some hs3
          exact o3 _ H3 F3 (Same.refl _) (((s3.put ((rv.mono le2).mono le3) hi).put (ru.mono le3) hj).put rw' hl)⟩⟩⟩⟩
end
section
variable {P : Program} {w : World} {K : PySem.W.Frag} {mg : Str → Option Value} {base : Heap} {x qual : Str} {params : Arguments} {body : List Stmt} {scope : Scope} {f : Addr} {fd : FuncData} {N ps : List Str} {k : Nat}
theorem fn_init {y c : Str} {b : DS} (F : FunD K x qual params body scope [] [] f fd) (S : FnScope (y :: N) ps scope) (hp : ps.length ≤ (y :: N).length)
    (hbody : ∀ (cdv : Value) (A : Around) (outer : List Env) (s : Shared) (H : Hp) (E : XK), Room k (A.deeper (envOfC qual scope s.heap.objs.size f cdv)) →
      Takes (cxOf (L2.CX P w) P w K mg base (y :: N) qual scope f cdv A outer s H E) (fun cls dd _ H => E cls dd H) →
      PassesOwn (model P w) (cxOf (L2.CX P w) P w K mg base (y :: N) qual scope f cdv A outer s H E).A (cxOf (L2.CX P w) P w K mg base (y :: N) qual scope f cdv A outer s H E).env (cxOf (L2.CX P w) P w K mg base (y :: N) qual scope f cdv A outer s H E).xe →
      PSs (cxOf (L2.CX P w) P w K mg base (y :: N) qual scope f cdv A outer s H E) body (tS ⟨K, mg, none, tk⟩ (fun cls dd _ H => E cls dd H) b)) :
    FnOk P w K mg base (L2.CX P w) (k + 1) f fd ps (spI ⟨K, mg, none, tk⟩ c (runI c ps.length (y :: N).length b)) :=
  F.ok S (fun vs H Q E h => spI_len h) fun cdv A outer s H vs Q E hr h => ⟨_, hbody cdv A outer s H E hr (takes_of rfl rfl rfl rfl) (passes_of rfl), body_okI rfl hp (spI_len h) h⟩
end
end DL

namespace DL
open PySem PySem.Spec PyProof.Rows L2

/-! ### a def that hands back a new list, owned by the caller -/
def tSO (g : G) (W : WX) (a : DS) (fn : Den (List D)) : TS := fun E σ H => ∃ P F st, SR g P σ H F st ∧ match a st with
  | .ok .nx st' => (match fn st' with
    | .ok ds st2 => ∀ σ' H' F' p vs, Same F F' → SRx g P σ' H' F' st2 p → H' p = some (.lst vs) → Rl g F' vs ds → E.rt (.ref p) H'
    | _ => False)
  | _ => False
def runO (m n : Nat) (a : DS) (fn : Den (List D)) (ds : List D) : Option (List D) := if ds.length = m then match a (ds.map Slot.sh ++ List.replicate (n - ds.length) .no) with
  | .ok .nx st' => (match fn st' with
    | .ok zs _ => some zs
    | _ => none)
  | _ => none
  else none
def spO (g : G) (df : List D → Option (List D)) : Sp := fun vs H Q _ => ∃ F ds zs, Same F H ∧ Rl g F vs ds ∧ df ds = some zs ∧ ∀ p vs' H' F', Grow H F H' F' → H p = none → H' p = some (.lst vs') → F' p = none → Rl g F' vs' zs → Q (.ref p) H'
@[simp] def dCallO (df : List D → Option (List D)) (fa : Den (List D)) : Den (List D) := bindD fa fun ds => liftO (df ds)
section
variable {X : Cx} {g : G} {W : WX} {P : Par} {σ : L2.St} {H F : Hp} {st : DSt} {e : Expr} {s : Stmt} {ss : List Stmt} {f h : Den D} {a b : DS} {fn : Den (List D)}
theorem essO_one (he : PS X s (tRet (tN g W fn))) : PSs X [s] (tSO g W sPass fn) := (pss_one he).imp fun E σ H ⟨P, F, st, s, o⟩ => by
  refine ⟨P, F, st, s, ?_⟩
  have o : (match fn st with
    | .ok ds st2 => ∀ σ' H' F' p vs, Same F F' → SRx g P σ' H' F' st2 p → H' p = some (.lst vs) → Rl g F' vs ds → E.rt (.ref p) H'
    | _ => False) := o
  revert o
  unfold OutN
  cases fn st with
  | ok ds st2 => exact fun o H' F' p vs => o σ H' F' p vs
  | exn c fs st2 => exact fun o => o.elim
  | stuck => exact fun o => o.elim
theorem essO_cons (h1 : PS X s (tS g W a)) (h2 : PSs X ss (tSO g W b fn)) : PSs X (s :: ss) (tSO g W (sSeq a b) fn) := (pss_cons h1 h2).imp fun E σ H ⟨P, F, st, s, o⟩ => by
  refine ⟨P, F, st, s, ?_⟩
  unfold sSeq at o
  revert o
  cases a st with
  | ok fl st1 =>
    cases fl with
    | nx =>
      intro o σ1 H1 F1 le1 s1
      refine ⟨P, F1, st1, s1, ?_⟩
      simp only at o
      revert o
      cases b st1 with
      | ok fl st2 =>
        cases fl with
        | nx =>
          simp only
          cases fn st2 with
          | ok ds st3 => exact fun o σ' H' F' p vs le => o σ' H' F' p vs (le1.trans le)
          | exn c fs st3 => exact fun o => o
          | stuck => exact fun o => o
        | _ => exact fun o => o
      | _ => exact fun o => o
    | _ => exact fun o => o.elim
  | _ => exact fun o => o.elim
theorem body_okO {N ps : List Str} {n : Nat} {vs : List V} {Q : VK} {E : XK} (hn : n = N.length) (hp : ps.length ≤ N.length) (hl : vs.length = ps.length) (h : spO g (runO ps.length n a fn) vs H Q E) :
    tSO g (fun cls dd _ H => E cls dd H) a fn { nx := fun _ H' => Q .non H', rt := Q } (L2.start N vs) H := by
  obtain ⟨F, ds, zs, le, r, h, k⟩ := h
  refine ⟨⟨[], H, fun a => NT H a ∧ F a = none⟩, F, ds.map Slot.sh ++ List.replicate (n - ds.length) .no, ⟨fun _ => none, le, Same.refl _, (fun _ _ e => nomatch e), fun a h => ⟨h.2, h.1⟩, ?_, init_sl r _⟩, ?_⟩
  · have := r.length
    unfold L2.start
    simp only [List.length_append, List.length_map, List.length_replicate]
    omega
  · unfold runO at h
    rw [if_pos (by rw [← r.length]; exact hl)] at h
    revert h
    cases a (ds.map Slot.sh ++ List.replicate (n - ds.length) .no) with
    | ok fl st' =>
      cases fl with
      | nx =>
        simp only
        cases fn st' with
        | ok zs' st2 =>
          intro h σ' H' F' p vs' le s hp rr
          cases h
          obtain ⟨O, c, o0, f0, r0, n0⟩ := s
          exact k p vs' H' F' ⟨c.rr, le, c.le, fun a h1 h2 => (c.no a ⟨h1, h2⟩).1⟩ r0 hp f0 rr
        | exn c fs st2 => exact fun h => nomatch h
        | stuck => exact fun h => nomatch h
      | _ => exact fun h => nomatch h
    | exn c fs st2 => exact fun h => nomatch h
    | stuck => exact fun h => nomatch h
theorem ev_callO {df : List D → Option (List D)} {E : L2.St → XK} {fa : Den (List D)} (he : PE X e (tCallS (spO g df) E (tA g W fa))) : PE X e (tN g W (dCallO df fa)) := he.imp fun σ H Q ⟨P, F, st, s, o⟩ =>
  ⟨P, F, st, s, o.bind.imp fun ds st1 H1 F1 le1 s1 o1 vs rs => by
    cases hz : df ds with
    | none => rw [hz] at o1; exact o1.elim
    | some zs =>
      rw [hz] at o1
      refine ⟨F1, ds, zs, s1.le, rs, hz, fun p vs' H' F' gr hp hp' fp rr => o1 H' F' p vs' gr.f ?_ hp' rr⟩
      obtain ⟨O, c⟩ := s1
      refine ⟨O, c.grow gr, ?_, fp, ?_, fun n => (c.no p n).2.1 hp⟩
      · cases e : O p with
        | none => rfl
        | some i => exact absurd hp (c.oo p i e).2.2.1
      · cases e : P.R p with
        | none => rfl
        | some u => rw [c.rr _ _ e] at hp; cases hp⟩
theorem spO_len {m n : Nat} {vs : List V} {Q : VK} {E : XK} (h : spO g (runO m n a fn) vs H Q E) : vs.length = m := by
  obtain ⟨F, ds, zs, le, r, h, k⟩ := h
  rw [r.length]
  by_cases hm : ds.length = m
  · exact hm
  · unfold runO at h
    rw [if_neg hm] at h
    cases h
end
section
variable {P : Program} {w : World} {K : PySem.W.Frag} {mg : Str → Option Value} {base : Heap} {x qual : Str} {params : Arguments} {body : List Stmt} {scope : Scope} {f : Addr} {fd : FuncData} {N ps : List Str} {k : Nat}
theorem fn_own {b : DS} {fn : Den (List D)} (F : FunD K x qual params body scope [] [] f fd) (S : FnScope N ps scope) (hp : ps.length ≤ N.length)
    (hbody : ∀ (cdv : Value) (A : Around) (outer : List Env) (s : Shared) (H : Hp) (E : XK), Room k (A.deeper (envOfC qual scope s.heap.objs.size f cdv)) →
      Takes (cxOf (L2.CX P w) P w K mg base N qual scope f cdv A outer s H E) (fun cls dd _ H => E cls dd H) →
      PassesOwn (model P w) (cxOf (L2.CX P w) P w K mg base N qual scope f cdv A outer s H E).A (cxOf (L2.CX P w) P w K mg base N qual scope f cdv A outer s H E).env (cxOf (L2.CX P w) P w K mg base N qual scope f cdv A outer s H E).xe →
      PSs (cxOf (L2.CX P w) P w K mg base N qual scope f cdv A outer s H E) body (tSO ⟨K, mg, none, tk⟩ (fun cls dd _ H => E cls dd H) b fn)) :
    FnOk P w K mg base (L2.CX P w) (k + 1) f fd ps (spO ⟨K, mg, none, tk⟩ (runO ps.length N.length b fn)) :=
  F.ok S (fun vs H Q E h => spO_len h) fun cdv A outer s H vs Q E hr h => ⟨_, hbody cdv A outer s H E hr (takes_of rfl rfl rfl rfl) (passes_of rfl), body_okO rfl hp (spO_len h) h⟩
/-- the law: called with the script -/
theorem law_sp {f : DS} {n : Nat} {H : Hp} {a : Addr} {ns : List Int} (hS : SqL K H a (ns.map V.int)) (h : runF 1 n f [.scr ns] = .ok (.bl true)) (E : XK) : spD ⟨K, mg, none, tk⟩ (runF 1 n f) [.ref a] H (fun v _ => v = .bl true) E := by
  refine ⟨H, [.scr ns], Same.refl _, .cons (.scr hS) .nil, ?_⟩
  rw [h]
  intro v H' F' gr rv
  cases rv
  rfl
theorem cx_no {w : World} {H : Hp} {s : Shared} {e : Value} {s' : Shared} (h : L2.CX P w [] H s (fun _ _ _ => False) e s') : False := by
  obtain ⟨_, _, _, _, _, _, _, _, _, _, _, _, z⟩ := h
  exact z
end
end DL

namespace DL
open PySem PySem.Spec PyProof.Rows L2

/-! ### the head: facts by names, one Bool more -/
abbrev AlB : Type := Bool × List He.FnW × List He.FnW
/-- a def without what it closes over -/
def clW (K : PySem.W.Frag) (p : Str × Option Str) : He.FnW := match K.lookup (He.fAd K p) with
  | some ⟨_, _, .func fd, _⟩ => some (fd.name, fd.qualname, fd.params, fd.body, fd.scope, fd.globals, [], fd.builtins)
  | _ => none
def obsB (fa : List He.Fa) (fn xn : List He.DefD) (ex : PySem.W.Frag → Bool) (K : PySem.W.Frag) : AlB := ((fa.all fun f => f.ok K) && ((fn.all fun d => d.ok K) && ex K), fn.map (fun d => He.fnW K d.at_), xn.map fun d => clW K d.at_)
def valB (fn xn : List He.DefD) : AlB := (true, fn.map He.DefD.val, xn.map He.DefD.val)
structure Says (fa : List He.Fa) (fn xn : List He.DefD) (ex : PySem.W.Frag → Bool) (K : PySem.W.Frag) : Prop where
  eq : obsB fa fn xn ex K = valB fn xn
def obsBG (n : Nat) (fa : List He.Fa) (fn xn : List He.DefD) (ex : PySem.W.Frag → Bool) (g : Addr → Option Obj) : AlB := obsB fa fn xn ex (He.frG g (cStatics :: He.asD g n))
def hookB (n : Nat) (fa : List He.Fa) (fn xn : List He.DefD) (ex : PySem.W.Frag → Bool) : PySem.W.Hook where
  α := AlB
  obs := fun s => obsBG n fa fn xn ex s.heap.get?
  val := fun _ => valB fn xn
  says := fun _ h => ∃ K : PySem.W.Frag, K.In h ∧ Says fa fn xn ex K
  of := fun _ _ e => ⟨_, He.frG_in, ⟨e⟩⟩
  keeps := fun _ _ _ ⟨K, hK, c⟩ k => ⟨K, PySem.W.Frag.In.keeps hK k, c⟩
theorem obsBG_eq {n : Nat} {fa : List He.Fa} {fn xn : List He.DefD} {ex : PySem.W.Frag → Bool} {g : Addr → Option Obj} {s : Shared} (h : ∀ a, g a = s.heap.get? a) : obsBG n fa fn xn ex g = (hookB n fa fn xn ex).obs s := by
  have e : g = s.heap.get? := funext h
  rw [e] <;> rfl
section
variable {fa : List He.Fa} {fn xn : List He.DefD} {ex : PySem.W.Frag → Bool} {K : PySem.W.Frag}
theorem Says.fact (c : Says fa fn xn ex K) (i : Nat) {f : He.Fa} (h : fa[i]? = some f := by rfl) : f.ok K = true := by
  have c1 := (He.ba (show ((fa.all fun f => f.ok K) && ((fn.all fun d => d.ok K) && ex K)) = true from congrArg (fun z : AlB => z.1) c.eq)).1
  exact List.all_eq_true.mp c1 f (List.mem_of_getElem? h)
theorem Says.xtra (c : Says fa fn xn ex K) : ex K = true :=
  (He.ba (He.ba (show ((fa.all fun f => f.ok K) && ((fn.all fun d => d.ok K) && ex K)) = true from congrArg (fun z : AlB => z.1) c.eq)).2).2
theorem Says.def_ (c : Says fa fn xn ex K) (i : Nat) {d : He.DefD} (h : fn[i]? = some d := by rfl) : ∃ fd, FunD K d.name d.qual d.params d.body d.scope (d.dvs K) (d.kws K) (He.fAd K d.at_) fd := by
  have c2 := (He.ba (He.ba (show ((fa.all fun f => f.ok K) && ((fn.all fun d => d.ok K) && ex K)) = true from congrArg (fun z : AlB => z.1) c.eq)).2).1
  have e : fn.map (fun d => He.fnW K d.at_) = fn.map He.DefD.val := congrArg (fun z : AlB => z.2.1) c.eq
  have e2 : (fn.map fun d => He.fnW K d.at_)[i]? = (fn.map He.DefD.val)[i]? := by rw [e]
  rw [List.getElem?_map, List.getElem?_map, h] at e2
  exact He.DefD.funD (Option.some.inj e2) (List.all_eq_true.mp c2 d (List.mem_of_getElem? h))
theorem Says.clo (c : Says fa fn xn ex K) (i : Nat) {d : He.DefD} (h : xn[i]? = some d := by rfl) : clW K d.at_ = d.val := by
  have e : xn.map (fun d => clW K d.at_) = xn.map He.DefD.val := congrArg (fun z : AlB => z.2.2) c.eq
  have e2 : (xn.map fun d => clW K d.at_)[i]? = (xn.map He.DefD.val)[i]? := by rw [e]
  rw [List.getElem?_map, List.getElem?_map, h] at e2
  exact Option.some.inj e2
end

/-! ### own defs by name -/
structure Fk (P : Program) (w : World) (K : PySem.W.Frag) (mg : Str → Option Value) (base : Heap) (x : Str) (lvl : Nat) (f : Addr) (ps : List Str) (sp : Sp) : Prop where
  ok : ∃ fd, FnOk P w K mg base (L2.CX P w) lvl f fd ps sp ∧ Binds K fd ps []
  gm : mg x = some (.ref f)
  kp : PySem.W.keepIn K (.ref f) = true
section
variable {X : Cx} {x : Str} {lvl : Nat} {f : Addr} {ps : List Str} {sp : Sp} {W : WX} {e : Expr} {es : List Expr} {t : TA} {p pos : Pos}
theorem Fk.pe (F : Fk X.prog X.w X.K X.mg X.base x lvl f ps sp) (hr : Room lvl X.A) (hg : Gl X x) (tk : Takes X W) (ha : PA X (e :: es) t)
    (hdb : (x == ("__debug__" : Str)) = false := by decide) (he : starEach (e :: es) X.env = (false, eval e X.env) :: starEach es X.env := by rfl) (hpl : (backTo pos (starEach es X.env)).any (·.1) = false := by rfl) :
    PE X (.Call (.Name x p) (e :: es) [] pos) (tCallS sp (WE W) t) := by
  obtain ⟨fd, G, b⟩ := F.ok
  exact pe_callS G hr hg F.gm F.kp b (fun σ => passAt tk σ) ha hdb he hpl
theorem run_fnS0 {k : Nat} {fd : FuncData} {E : L2.St → XK} (F : FnOk X.prog X.w X.K X.mg X.base (L2.CX X.prog X.w) k f fd ps sp) (hr : Room k X.A) (hg : Gl X x) (hm : X.mg x = some (.ref f)) (hk : PySem.W.keepIn X.K (.ref f) = true) (hb : Binds X.K fd ps []) (hx : ∀ σ, PassesAt (L2.CX X.prog X.w) X σ (E σ))
    (hdb : (x == ("__debug__" : Str)) = false := by decide) : PE X (.Call (.Name x p) [] [] pos) (tCallS sp E tNil) := by
  refine ⟨fun pins s σ H Q I h => ?_⟩
  refine wpAny_Call_Name_kw (ld_glob I hg hm ?_ hdb)
  exact PySem.W.callWith_K0 I.kIn hk (run_fnS (us := []) F hr hb (hx σ) I .nil h)
theorem Fk.pe0 (F : Fk X.prog X.w X.K X.mg X.base x lvl f ps sp) (hr : Room lvl X.A) (hg : Gl X x) (tk : Takes X W) (hdb : (x == ("__debug__" : Str)) = false := by decide) : PE X (.Call (.Name x p) [] [] pos) (tCallS sp (WE W) tNil) := by
  obtain ⟨fd, G, b⟩ := F.ok
  exact run_fnS0 G hr hg F.gm F.kp b (fun σ => passAt tk σ) hdb
theorem ev_call0 {g : G} {e : Expr} {df : List D → M D} (he : PE X e (tCallS (spD g df) (WE W) tNil)) : PE X e (tE g W (dCall df dNil)) := he.imp fun σ H Q ⟨P, F, st, s, o⟩ =>
  call_fin s .nil (fun _ _ _ h => h) (o.bind H F (Same.refl _) s)
/-- a method of data -/
structure Mf (P : Program) (w : World) (K : PySem.W.Frag) (mg : Str → Option Value) (base : Heap) (C : Addr) (m : Str) (lvl : Nat) (f : Addr) (ps : List Str) (sp : Sp) : Prop where
  ok : ∃ fd, FnOk P w K mg base (L2.CX P w) lvl f fd ps sp ∧ Binds K fd ps []
  me : Meth K C m f
variable {C : Addr} {m : Str} {o : Expr} {ta : TE} {apos : Pos}
theorem Mf.pe {pl : Sem Bool} (F : Mf X.prog X.w X.K X.mg X.base C m lvl f ps sp) (hr : Room lvl X.A) (c : Cls X.K C) (he : PE X o ta) (ha : PA X (e :: es) t)
    (hst : starEach (e :: es) X.env = (false, eval e X.env) :: starEach es X.env := by rfl) (hpl : (backTo pos (starEach es X.env)).any (·.1) = false := by rfl)
    (ht : eval (.Call (.Attribute o m apos) (e :: es) [] pos) X.env = (do
      let ov ← eval o X.env
      standAt apos.atName
      let (f, first) ← holding [ov] (getMethod ov m pl)
      callWith pos f first (backTo pos (starEach (e :: es) X.env)) (backToKw pos (keywordEach [] X.env))) := by rfl) :
    PE X (.Call (.Attribute o m apos) (e :: es) [] pos) (tMeth C m sp [] E0 ta t) := by
  obtain ⟨fd, G, b⟩ := F.ok
  exact pe_meth he c F.me G hr b .nil passL ha hst hpl ht
theorem Mf.pe0 {pl : Sem Bool} (F : Mf X.prog X.w X.K X.mg X.base C m lvl f ps sp) (hr : Room lvl X.A) (c : Cls X.K C) (he : PE X o ta)
    (ht : eval (.Call (.Attribute o m apos) [] [] pos) X.env = (do
      let ov ← eval o X.env
      standAt apos.atName
      let (f, first) ← holding [ov] (getMethod ov m pl)
      callWith pos f first (backTo pos (starEach [] X.env)) (backToKw pos (keywordEach [] X.env))) := by rfl) :
    PE X (.Call (.Attribute o m apos) [] [] pos) (tMeth C m sp [] E0 ta tNil) := by
  obtain ⟨fd, G, b⟩ := F.ok
  exact pe_meth0 he c F.me G hr b .nil passL ht
theorem ev_meth0 {g : G} {e : Expr} {c m : Str} {C : Addr} {df : List D → M D} {f : Den D} (k : ClsF g c C) (he : PE X e (tMeth C m (spD g df) [] E0 (tE g W f) tNil)) : PE X e (tE g W (dMeth c m df f dNil)) :=
  ev_meth k (he.imp fun σ H Q ⟨P, F, st, s, o⟩ => ⟨P, F, st, s, o.imp fun x st1 H1 F1 le1 s1 o1 v rx => by
    obtain ⟨a, dx, fs, e1, e2, e3, q⟩ := o1 v rx
    obtain ⟨P2, F2, st2, s2, o2⟩ := q
    exact ⟨a, dx, fs, e1, e2, e3, o2 H1 F2 (Same.refl _) s2 [] .nil⟩⟩)
theorem pe_no : PE X e (tE g W fun _ => .stuck) := ⟨fun _ _ _ _ _ _ ⟨_, _, _, _, o⟩ => o.elim⟩
theorem pn_no {g : G} : PE X e (tN g W fun _ => .stuck) := ⟨fun _ _ _ _ _ _ ⟨_, _, _, _, o⟩ => o.elim⟩
theorem pt_no {g : G} : PT X e (tT g W fun _ => .stuck) := ⟨fun _ _ _ _ _ _ ⟨_, _, _, _, o⟩ => o.elim⟩
/-- the calls of a class -/
structure Kf (P : Program) (w : World) (K : PySem.W.Frag) (mg : Str → Option Value) (base : Heap) (c : Str) (lvl : Nat) (C f : Addr) (ps : List Str) (sp : Sp) : Prop where
  ok : ∃ fd, FnOk P w K mg base (L2.CX P w) lvl f fd ps sp ∧ Binds K fd ps []
  mkr : Mk K C f
  gm : mg c = some (.ref C)
theorem Kf.pe {c : Str} (F : Kf X.prog X.w X.K X.mg X.base c lvl C f ps sp) (hr : Room (lvl + 1) X.A) (hg : Gl X c) (tk : Takes X W) (ha : PA X (e :: es) t)
    (hdb : (c == ("__debug__" : Str)) = false := by decide) (he : starEach (e :: es) X.env = (false, eval e X.env) :: starEach es X.env := by rfl) (hpl : (backTo pos (starEach es X.env)).any (·.1) = false := by rfl) :
    PE X (.Call (.Name c p) (e :: es) [] pos) (tMakeS C sp (WE W) t) := by
  obtain ⟨fd, G, b⟩ := F.ok
  exact pe_makeS F.mkr G hr hg F.gm b (fun σ => passAt tk σ) ha hdb he hpl
theorem room_u {k : Nat} {A : Around} (r : Room k A) : A.units + 65 < cLine := by have := r.un; omega
theorem room_u4 {k : Nat} {A : Around} (r : Room k A) : A.units + 64 < cLine := by have := r.un; omega
/-- a comprehension stored under a name -/
theorem es_ownLc {g : G} {s : Stmt} {i : Nat} {vs : List Nat} {t : Tg} {fi : Den (List D)} {test : Den Bool} {elt : Den D} (he : PS X s (tAsg (tLc (tI g W fi) (tG g t) (tT g WN test) (tE g WN elt) vs) (gName i))) (hv : ∀ i ∈ t.is, i ∈ vs := by decide) : PS X s (tS g W (sOwn i (dComp vs t fi test elt))) :=
  es_own (he.imp fun D σ H q => comp_imp hv q)
theorem ets_nil {g : G} : PTs X [] (tT g W dYes) := ⟨fun pins s σ H Q I ⟨P, F, st, s0, o⟩ => pts_nil.run pins s σ H Q I (o H F (Same.refl _) s0)⟩
end
end DL

namespace DL
open PySem PySem.Spec PyProof.Rows L2

/-- the end of a law: its def's promise, over the facts of the head -/
theorem law_end {l : PySem.W.OpenLaw} {k n : Nat} {q : Program} {loose : List Str} {XP : (Str → Option Value) → Heap → Prop} {d : PySem.DefRec} {fa : List He.Fa} {fn xn : List He.DefD} {ex : PySem.W.Frag → Bool} {f : DS} {H : Nat}
    (hn : l.most = some 63) (hdf : d.params.defaults = []) (hr : Room k callerA) (hname : d.name = ("law" : Str))
    (F : ∀ (w : World) (K : PySem.W.Frag) (mg : Str → Option Value) (h : Heap), K.In h → h.Ns mainGlobals mg → Says fa fn xn ex K → mg ("law" : Str) = some (.ref (He.fAd K (("law" : Str), none))) ∧
      ∃ fd : FuncData, (∀ (s : Shared) (u : Value), BindsTo s fd ⟨[u], []⟩ [(("_law_script" : Str), u)]) ∧ ∀ base : Heap, FnOk l.prog w K mg base (L2.CX l.prog w) k (He.fAd K (("law" : Str), none)) fd [("_law_script" : Str)] (spD ⟨K, mg, none, tk⟩ (runF 1 n f)))
    (math : ∀ ns : List Int, runF 1 n f [.scr ns] = .ok (.bl true)) :
    PySem.W.WalkO q loose XP (hookB H fa fn xn ex).says l.row.toRowW d [] (fun f vs => PySem.call f vs) := by
  refine Att.attach_call hn hdf fun w s₀ s₁ mg mb fa' o pm cd doc a vs ns G Y ho hd hcd hmg hobj hints hlen hg => ?_
  obtain ⟨K, KX, c⟩ := Y
  rw [hname] at hmg
  obtain ⟨g1, fd, hb, hF⟩ := F w K mg _ KX G.T.g c
  rw [hmg] at g1
  cases g1
  exact law_call KX G.T.g G.T.b G.T.builtins G.T.nolimit hg hobj hints (Nat.le_trans hlen (by decide)) hr (fun base _ _ => hF base) hb (fun H hO hS => law_sp hS (math ns) _) fun H e s' h => cx_no h
def isfB (K : PySem.W.Frag) (c : Str) : Bool := He.eqO (PySem.W.findIn K (.ref (He.ga K c)) "__class__") (some (some (.builtin "object.__class__"))) && (He.eqO (PySem.W.specialIn K (.builtin "object.__class__") "__get__") (some (some (.builtin "getset_descriptor.__get__"))) &&
  (decide (PySem.W.takesIn K (.builtin "object.__class__") = some true) && (decide (PySem.W.mroIn K (He.ga K c) (.type "object") = some true) && ["NoneType", "bool", "int", "str", "list", "tuple"].all fun tn => decide (PySem.W.kitOne K (.type tn) (.ref (He.ga K c)) = some false))))
theorem isfB_ok {K : PySem.W.Frag} {mg : Str → Option Value} {c : Str} (k : ClsF ⟨K, mg, none, tk⟩ c (He.ga K c)) (h : isfB K c = true) : IsF ⟨K, mg, none, tk⟩ c (He.ga K c) := by
  unfold isfB at h
  obtain ⟨h1, h⟩ := He.ba h
  obtain ⟨h2, h⟩ := He.ba h
  obtain ⟨h3, h⟩ := He.ba h
  obtain ⟨h4, h5⟩ := He.ba h
  exact ⟨k.gC, k.cl, He.eqO_ok h1, He.eqO_ok h2, of_decide_eq_true h3, of_decide_eq_true h4, fun tn ht => of_decide_eq_true (List.all_eq_true.mp h5 tn ht)⟩

theorem ev_gint {X : Cx} {g : G} {W : WX} {x : Str} {i : Int} {pos : Pos} (h : ∃ t, X.mg x = some (.int i t)) (hg : Gl X x) (hd : (x == ("__debug__" : Str)) = false := by decide) : PE X (.Name x pos) (tE g W (dC (.int i))) := by
  obtain ⟨t, h⟩ := h
  exact ev_c (pe_glob (v := .int i) hg h ⟨_, rfl⟩ hd) fun _ => .int _
theorem ev_gstr {X : Cx} {g : G} {W : WX} {x i : Str} {pos : Pos} (h : ∃ t, X.mg x = some (.str i t)) (hg : Gl X x) (hd : (x == ("__debug__" : Str)) = false := by decide) : PE X (.Name x pos) (tE g W (dC (.str i))) := by
  obtain ⟨t, h⟩ := h
  exact ev_c (pe_glob (v := .str i) hg h ⟨_, rfl⟩ hd) fun _ => .str _
/-! ### xs.index(x) -/
section
variable {X : Cx} {g : G} {W : WX} {P : Par} {σ : L2.St} {H F : Hp} {st : DSt} {e : Expr} {s : Stmt} {ss : List Stmt} {f h : Den D}
/-- sorted of ints -/
def insI (x : Int) : List Int → List Int
  | [] => [x]
  | y :: r => if x ≤ y then x :: y :: r else y :: insI x r
def sortI : List Int → List Int
  | [] => []
  | x :: r => insI x (sortI r)
theorem insI_perm (x : Int) : ∀ l, (insI x l).Perm (x :: l)
  | [] => .refl _
  | y :: r => by
    unfold insI
    split
    · exact .refl _
    · exact ((insI_perm x r).cons y).trans (.swap x y r)
theorem sortI_perm : ∀ l, (sortI l).Perm l
  | [] => .refl _
  | x :: r => (insI_perm x _).trans ((sortI_perm r).cons x)
theorem insI_sorted (x : Int) : ∀ l : List Int, l.Pairwise (· ≤ ·) → (insI x l).Pairwise (· ≤ ·)
  | [], _ => by simp [insI]
  | y :: r, h => by
    unfold insI
    split
    · rename_i hx
      refine List.pairwise_cons.mpr ⟨fun z hz => ?_, h⟩
      rcases List.mem_cons.mp hz with rfl | hz
      · exact hx
      · exact Int.le_trans hx ((List.pairwise_cons.mp h).1 z hz)
    · rename_i hx
      obtain ⟨h1, h2⟩ := List.pairwise_cons.mp h
      refine List.pairwise_cons.mpr ⟨fun z hz => ?_, insI_sorted x r h2⟩
      rcases List.mem_cons.mp ((insI_perm x r).mem_iff.mp hz) with rfl | hz
      · omega
      · exact h1 z hz
theorem sortI_sorted : ∀ l, (sortI l).Pairwise (· ≤ ·)
  | [] => .nil
  | x :: r => insI_sorted x _ (sortI_sorted r)
theorem sorted_unique : ∀ {l m : List Int}, l.Perm m → l.Pairwise (· ≤ ·) → m.Pairwise (· ≤ ·) → l = m
  | [], m, p, _, _ => (List.nil_perm.mp p).symm
  | x :: l, m, p, h1, h2 => by
    cases m with
    | nil => exact absurd p.symm (by simp)
    | cons y m =>
      obtain ⟨a1, a2⟩ := List.pairwise_cons.mp h1
      obtain ⟨b1, b2⟩ := List.pairwise_cons.mp h2
      have hxy : x = y := by
        have hx : x ∈ y :: m := p.mem_iff.mp List.mem_cons_self
        have hy : y ∈ x :: l := p.mem_iff.mpr List.mem_cons_self
        rcases List.mem_cons.mp hx with e | hx
        · exact e
        · rcases List.mem_cons.mp hy with e | hy
          · exact e.symm
          · exact Int.le_antisymm (a1 y hy) (b1 x hx)
      subst hxy
      rw [sorted_unique (List.Perm.cons_inv p) a2 b2]
def nSorted : D → Option (List D)
  | .lst ds => match intsOf ds with | some is => some ((sortI is).map D.int) | none => none
  | .tup _ => none
  | _ => none
end
end DL

namespace DL
open PySem PySem.Spec PyProof.Rows L2

/-! ### lists of lists, owned as a whole -/
def compGo2 (vs : List Nat) (t : Tg) (elt : Den (List D)) : List D → Den (List (List D))
  | [] => retD []
  | d :: ds => fun st => match setT t d st with
    | none => .stuck
    | some st1 => match elt st1 with
      | .ok y st3 => match compGo2 vs t elt ds (wipeD st3 vs) with
        | .ok ys st4 => .ok (y :: ys) st4
        | _ => .stuck
      | _ => .stuck
def dComp2 (vs : List Nat) (t : Tg) (fi : Den (List D)) (elt : Den (List D)) : Den (List (List D)) := bindD fi fun ds => fun st =>
  if ds.length ≤ big ∧ vs.all (plainAt st) = true then
    match compGo2 vs t elt ds (wipeD st vs) with
    | .ok ys st' => .ok ys (backD st st' vs)
    | _ => .stuck
  else .stuck
abbrev BL := List (Addr × List V)
def refs (bl : BL) : List V := bl.map fun q => V.ref q.1
/-- guarded: the new list D and the lists in it -/
def gd2 (P : Par) (D : Addr) (bl : BL) : Par := ⟨P.B, fun x => if x = D then some (.lst (refs bl)) else match bl.lookup x with
  | some vs => some (.lst vs)
  | none => P.R x, fun x => P.N x ∨ x = D ∨ x ∈ bl.map (·.1)⟩
structure RL2 (g : G) (F : Hp) (bl : BL) (dss : List (List D)) : Prop where
  len : bl.length = dss.length
  at_ : ∀ (j : Nat) (q : Addr × List V) (ds : List D), bl[j]? = some q → dss[j]? = some ds → Rl g F q.2 ds
theorem RL2.mono {g : G} {F F' : Hp} {bl : BL} {dss : List (List D)} (e : Same F F') (h : RL2 g F bl dss) : RL2 g F' bl dss := ⟨h.len, fun j q ds e1 e2 => (h.at_ j q ds e1 e2).mono e⟩
theorem RL2.snoc {g : G} {F : Hp} {bl : BL} {dss : List (List D)} {p : Addr} {vs : List V} {ds : List D} (h : RL2 g F bl dss) (r : Rl g F vs ds) : RL2 g F (bl ++ [(p, vs)]) (dss ++ [ds]) := by
  refine ⟨by simp [h.len], fun j q es e1 e2 => ?_⟩
  rcases Nat.lt_or_ge j bl.length with hj | hj
  · rw [List.getElem?_append_left hj] at e1
    rw [List.getElem?_append_left (by rw [← h.len]; exact hj)] at e2
    exact h.at_ j q es e1 e2
  · rw [List.getElem?_append_right hj] at e1
    rw [List.getElem?_append_right (by rw [← h.len]; exact hj)] at e2
    have : j - bl.length = 0 := by
      have := (List.getElem?_eq_some_iff.mp e1).1
      simp at this; omega
    rw [this] at e1
    rw [← h.len, this] at e2
    simp at e1 e2
    subst e1; subst e2
    exact r
theorem lookup_some {bl : BL} {x : Addr} {vs : List V} : bl.lookup x = some vs → (x, vs) ∈ bl := by
  induction bl with
  | nil => intro h; cases h
  | cons q bl ih =>
    obtain ⟨y, ws⟩ := q
    intro h
    rw [List.lookup_cons] at h
    cases hx : x == y with
    | true => rw [hx] at h; cases h; rw [beq_iff_eq.mp hx]; exact List.mem_cons_self
    | false => rw [hx] at h; exact List.mem_cons_of_mem _ (ih h)
theorem lookup_mem {bl : BL} {x : Addr} {vs : List V} (nd : (bl.map (·.1)).Nodup) : (x, vs) ∈ bl → bl.lookup x = some vs := by
  induction bl with
  | nil => intro h; cases h
  | cons q bl ih =>
    obtain ⟨y, ws⟩ := q
    intro h
    rw [List.map_cons, List.nodup_cons] at nd
    rw [List.lookup_cons]
    rcases List.mem_cons.mp h with e | h
    · cases e; simp
    · have hx : (x == y) = false := by
        rw [beq_eq_false_iff_ne]
        intro z
        exact nd.1 (z ▸ List.mem_map.mpr ⟨_, h, rfl⟩)
      rw [hx]; exact ih nd.2 h
theorem lookup_none {bl : BL} {x : Addr} (h : x ∉ bl.map (·.1)) : bl.lookup x = none := by
  cases e : bl.lookup x with
  | none => rfl
  | some vs => exact absurd (List.mem_map.mpr ⟨_, lookup_some e, rfl⟩) h
section
variable {X : Cx} {g : G} {W : WX} {P : Par} {σ : L2.St} {H F : Hp} {st : DSt} {e : Expr} {s : Stmt}
/-- p and the lists in it belong to nobody -/
structure SR2 (g : G) (P : Par) (σ : L2.St) (H F : Hp) (st : DSt) (p : Addr) (bl : BL) : Prop where
  ex : ∃ O, SRc g P O σ H F st ∧ (O p = none ∧ F p = none ∧ P.R p = none ∧ ¬ P.N p) ∧ ∀ b ∈ bl.map (·.1), O b = none ∧ F b = none ∧ P.R b = none ∧ ¬ P.N b
  at_ : H p = some (.lst (refs bl))
  nd : (bl.map (·.1)).Nodup
  np : p ∉ bl.map (·.1)
  it : ∀ q ∈ bl, H q.1 = some (.lst q.2)
def OutN2 (g : G) (W : WX) (P : Par) (σ : L2.St) (F : Hp) (r : Res (List (List D))) (Q : VK) : Prop := match r with
  | .ok dss st' => ∀ H' F' p bl, Same F F' → SR2 g P σ H' F' st' p bl → RL2 g F' bl dss → Q (.ref p) H'
  | .exn c fs st' => ∀ cls dd H' F', Same F F' → SR g P σ H' F' st' → RepX g F' H' c fs cls dd → W cls dd σ H'
  | .stuck => False
def tN2 (g : G) (W : WX) (f : Den (List (List D))) : TE := fun σ H Q => ∃ P F st, SR g P σ H F st ∧ OutN2 g W P σ F (f st) Q
theorem OutN2.weak {r : Res (List (List D))} {Q : VK} {F' : Hp} (e : Same F F') (h : OutN2 g W P σ F r Q) : OutN2 g W P σ F' r Q := by
  cases r with
  | ok a st' => exact fun H' F2 p bl e2 s => h H' F2 p bl (e.trans e2) s
  | exn c fs st' => exact fun cls dd H' F2 e2 s => h cls dd H' F2 (e.trans e2) s
  | stuck => exact h
theorem OutN2.bind {α : Type} {a : Den α} {ff : α → Den (List (List D))} {Q : VK} (h : OutN2 g W P σ F (bindD a ff st) Q) : Out g W P σ F (a st) (fun x st1 _ F1 => OutN2 g W P σ F1 (ff x st1) Q) := by
  unfold bindD at h
  revert h
  cases a st with
  | ok x st' => exact fun h H' F' e s => OutN2.weak e h
  | exn c fs st' => exact fun h => h
  | stuck => exact fun h => h
/-- the guard holds what it guards -/
theorem gd2_at {D : Addr} {bl : BL} (s : SR g (gd2 P D bl) σ H F st) (nd : (bl.map (·.1)).Nodup) (np : D ∉ bl.map (·.1)) : H D = some (.lst (refs bl)) ∧ ∀ q ∈ bl, H q.1 = some (.lst q.2) := by
  obtain ⟨O, c⟩ := s
  refine ⟨c.rr D _ (by show (if D = D then _ else _) = _; rw [if_pos rfl]), fun q hq => c.rr q.1 _ ?_⟩
  have hne : q.1 ≠ D := fun z => np (z ▸ List.mem_map.mpr ⟨_, hq, rfl⟩)
  show (if q.1 = D then _ else _) = _
  rw [if_neg hne, lookup_mem (x := q.1) (vs := q.2) nd hq]
theorem gd2_own {D : Addr} {bl : BL} {O : Addr → Option Nat} (c : SRc g (gd2 P D bl) O σ H F st) {b : Addr} {i : Nat} (h : O b = some i) : b ≠ D ∧ b ∉ bl.map (·.1) ∧ P.R b = none := by
  have q := (c.oo b i h).2.1
  have q : (if b = D then some (HO.lst (refs bl)) else match bl.lookup b with
    | some vs => some (.lst vs)
    | none => P.R b) = none := q
  by_cases hb : b = D
  · rw [if_pos hb] at q; cases q
  · rw [if_neg hb] at q
    refine ⟨hb, fun hm => ?_, ?_⟩
    · cases e : bl.lookup b with
      | some vs => rw [e] at q; cases q
      | none =>
        obtain ⟨⟨b', vs⟩, hq, rfl⟩ := List.mem_map.mp hm
        have : ∀ bl : BL, (b', vs) ∈ bl → bl.lookup b' ≠ none := by
          intro bl
          induction bl with
          | nil => intro h; cases h
          | cons q bl ih =>
            obtain ⟨y, ws⟩ := q
            intro h
            rw [List.lookup_cons]
            cases hx : b' == y with
            | true => simp
            | false =>
              rcases List.mem_cons.mp h with e | h
              · cases e; simp at hx
              · exact ih h
        exact this bl hq e
    · cases e : bl.lookup b with
      | some vs => rw [e] at q; cases q
      | none => rw [e] at q; exact q
theorem gd2_start {D : Addr} (s : SR g P σ H F st) (h : H D = none) : SR g (gd2 P D []) σ (upd H D (.lst [])) F st := by
  obtain ⟨O, c, o0, f0, r0, n0⟩ := s.newx (o := .lst []) h
  refine ⟨O, c.le, fun b u e => ?_, fun b i e => ⟨(c.oo b i e).1, ?_, (c.oo b i e).2.2⟩, fun b n => ?_, c.len, fun i s ov e1 e2 => ?_⟩
  · have e : (if b = D then some (HO.lst (refs [])) else P.R b) = some u := e
    by_cases hb : b = D
    · subst hb; rw [if_pos rfl] at e; rw [← e]; exact upd_same
    · rw [if_neg hb] at e; exact c.rr b u e
  · have hb : b ≠ D := fun z => by rw [z, o0] at e; cases e
    show (if b = D then some (HO.lst (refs [])) else P.R b) = none
    rw [if_neg hb]; exact (c.oo b i e).2.1
  · rcases n with n | rfl | n
    · exact c.no b n
    · exact ⟨f0, NT.of upd_same⟩
    · cases n
  · exact (c.sl i s ov e1 e2).move rfl (fun _ h => h) (Same.refl _) (fun _ _ _ h => h) fun b o n z => by
      rcases z with z | z | z
      · exact n z
      · rw [z, o0] at o; cases o
      · cases z
theorem gd2_step {D p : Addr} {bl : BL} {vs : List V} (s : SRx g (gd2 P D bl) σ H F st p) (hp : H p = some (.lst vs)) (nd : (bl.map (·.1)).Nodup) (np : D ∉ bl.map (·.1)) :
    SR g (gd2 P D (bl ++ [(p, vs)])) σ (upd H D (.lst (refs bl ++ [.ref p]))) F st ∧ ((bl ++ [(p, vs)]).map (·.1)).Nodup ∧ D ∉ (bl ++ [(p, vs)]).map (·.1) := by
  obtain ⟨O, c, o0, f0, r0, n0⟩ := s
  have hpD : p ≠ D := fun z => n0 (.inr (.inl z))
  have hpb : p ∉ bl.map (·.1) := fun z => n0 (.inr (.inr z))
  have fD := (c.no D (.inr (.inl rfl))).1
  have e1 : refs (bl ++ [(p, vs)]) = refs bl ++ [.ref p] := by simp [refs]
  refine ⟨⟨O, fun b u e => ?_, fun b u e => ?_, fun b i e => ?_, fun b n => ?_, c.len, fun i s ov e1 e2 => ?_⟩, ?_, ?_⟩
  · rw [upd_ne (fun z => by rw [z, fD] at e; cases e)]; exact c.le b u e
  · have e : (if b = D then some (HO.lst (refs (bl ++ [(p, vs)]))) else match (bl ++ [(p, vs)]).lookup b with
      | some vs => some (.lst vs)
      | none => P.R b) = some u := e
    by_cases hb : b = D
    · subst hb; rw [if_pos rfl, e1] at e; rw [← e]; exact upd_same
    · rw [if_neg hb] at e
      rw [upd_ne hb]
      by_cases hbp : b = p
      · subst hbp
        have : (bl ++ [(b, vs)]).lookup b = some vs := by
          rw [List.lookup_append, lookup_none hpb]
          simp
        rw [this] at e
        rw [hp]; exact e
      · have : (bl ++ [(p, vs)]).lookup b = bl.lookup b := by
          rw [List.lookup_append]
          have : List.lookup b [(p, vs)] = none := by
            rw [List.lookup_cons]
            have : (b == p) = false := by rw [beq_eq_false_iff_ne]; exact hbp
            rw [this]; rfl
          rw [this]
          cases bl.lookup b <;> rfl
        rw [this] at e
        exact c.rr b u (by show (if b = D then _ else _) = _; rw [if_neg hb]; exact e)
  · obtain ⟨h1, h2, h3⟩ := gd2_own c e
    have hbp : b ≠ p := fun z => by rw [z, o0] at e; cases e
    refine ⟨(c.oo b i e).1, ?_, NT.upd h1 (c.oo b i e).2.2⟩
    show (if b = D then _ else _) = _
    rw [if_neg h1, lookup_none (by simp [h2, hbp])]
    exact h3
  · refine ⟨?_, ?_⟩
    · rcases n with n | n | n
      · exact (c.no b (.inl n)).1
      · exact (c.no b (.inr (.inl n))).1
      · rw [List.map_append, List.mem_append] at n
        rcases n with n | n
        · exact (c.no b (.inr (.inr n))).1
        · have : b = p := by simpa using n
          rw [this]; exact f0
    · by_cases hb : b = D
      · subst hb; exact NT.of upd_same
      · refine NT.upd hb ?_
        rcases n with n | n | n
        · exact (c.no b (.inl n)).2
        · exact absurd n hb
        · rw [List.map_append, List.mem_append] at n
          rcases n with n | n
          · exact (c.no b (.inr (.inr n))).2
          · have : b = p := by simpa using n
            rw [this]; exact NT.of hp
  · exact (c.sl i s ov e1 e2).move rfl (fun _ h => h) (Same.refl _) (fun b o ho h => by rw [upd_ne (gd2_own c ho).1]; exact h) fun b o n z => by
      rcases z with z | z | z
      · exact n (.inl z)
      · exact n (.inr (.inl z))
      · rw [List.map_append, List.mem_append] at z
        rcases z with z | z
        · exact n (.inr (.inr z))
        · have : b = p := by simpa using z
          rw [this, o0] at o; cases o
  · rw [List.map_append, List.nodup_append]
    refine ⟨nd, by simp, fun a ha b hb => ?_⟩
    have : b = p := by simpa using hb
    rw [this]; intro z; exact hpb (z ▸ ha)
  · rw [List.map_append, List.mem_append]
    intro z
    rcases z with z | z
    · exact np z
    · have : D = p := by simpa using z
      exact hpD this.symm
theorem gd2_end {D : Addr} {bl : BL} {H0 F0 : Hp} {st0 : DSt} {vs : List Nat} (s : SR g (gd2 P D bl) (L2.wipe σ vs) H F st) (s0 : SR g P σ H0 F0 st0) (h0 : H0 D = none) (hb0 : ∀ b ∈ bl.map (·.1), P.R b = none ∧ ¬ P.N b) (le : Same F0 F) (hl : st.length = st0.length) (hp : vs.all (plainAt st0) = true)
    (nd : (bl.map (·.1)).Nodup) (np : D ∉ bl.map (·.1)) : SR2 g P σ H F (backD st0 st vs) D bl := by
  obtain ⟨a1, a2⟩ := gd2_at s nd np
  obtain ⟨O, c⟩ := s
  have fresh : ∀ b, H0 b = none → P.R b = none ∧ ¬ P.N b := fun b h => by
    obtain ⟨_, _, _, _, r0, n0⟩ := s0.newx (o := .lst []) h
    exact ⟨r0, n0⟩
  have on : ∀ b, (b = D ∨ b ∈ bl.map (·.1)) → O b = none := fun b hb => by
    cases e : O b with
    | none => rfl
    | some i =>
      obtain ⟨h1, h2, _⟩ := gd2_own c e
      rcases hb with hb | hb
      · exact absurd hb h1
      · exact absurd hb h2
  refine ⟨⟨O, ⟨c.le, fun b u e => ?_, fun b i e => ⟨(c.oo b i e).1, (gd2_own c e).2.2, (c.oo b i e).2.2⟩, fun b n => c.no b (.inl n), ?_, fun i sl ov e1 e2 => ?_⟩, ⟨on D (.inl rfl), (c.no D (.inr (.inl rfl))).1, (fresh D h0).1, (fresh D h0).2⟩,
    fun b hb => ⟨on b (.inr hb), (c.no b (.inr (.inr hb))).1, (hb0 b hb).1, (hb0 b hb).2⟩⟩, a1, nd, np, a2⟩
  · have hb : b ≠ D := fun z => by rw [z, (fresh D h0).1] at e; cases e
    have hbl : b ∉ bl.map (·.1) := fun z => by rw [(hb0 b z).1] at e; cases e
    refine c.rr b u ?_
    show (if b = D then _ else _) = _
    rw [if_neg hb, lookup_none hbl]
    exact e
  · rw [backD_length]
    have := c.len
    rw [wipe_length] at this
    exact this
  · by_cases hi : i ∈ vs
    · have es := backD_in hi sl e1
      have hpl := List.all_eq_true.mp hp i hi
      unfold plainAt at hpl
      cases e0 : st0[i]? with
      | none => rw [e0] at es; subst es; trivial
      | some s0' =>
        rw [e0] at es hpl
        simp only [Option.getD_some] at es
        subst es
        cases sl with
        | no => trivial
        | sh d =>
          obtain ⟨O0, c0⟩ := s0
          obtain ⟨v, ev, r⟩ := c0.sl i _ ov e0 e2
          exact ⟨v, ev, r.mono le⟩
        | _ => cases hpl
    · rw [backD_out hi] at e1
      exact (c.sl i sl ov e1 (by rw [wipe_out hi]; exact e2)).move rfl (fun _ h => h) (Same.refl _) (fun _ _ _ h => h) fun _ _ n z => n (.inl z)
theorem setT_length {t : Tg} {d : D} {st st' : DSt} (h : setT t d st = some st') : st'.length = st.length := by
  have key : ∀ is ds (st st' : DSt), setAll is ds st = some st' → st'.length = st.length := by
    intro is
    induction is with
    | nil => intro ds st st' e; cases ds with | nil => cases e; rfl | cons d ds => cases e
    | cons i is ih =>
      intro ds st st' e
      cases ds with
      | nil => cases e
      | cons d ds =>
        unfold setAll at e
        split at e
        · rename_i sti hsi
          obtain ⟨_, rfl⟩ := slotSet_some hsi
          rw [ih _ _ _ e, List.length_set]
        · cases e
  unfold setT at h
  cases t with
  | nm i => obtain ⟨_, rfl⟩ := slotSet_some h; rw [List.length_set]
  | nms is =>
    cases d with
    | tup ds => exact key _ _ _ _ h
    | _ => cases h
theorem comp2_imp {vs : List Nat} {t : Tg} {fi : Den (List D)} {elt : Den (List D)} {Q : VK} (hv : ∀ i ∈ t.is, i ∈ vs) (q : tN2 g W (dComp2 vs t fi elt) σ H Q) :
    tLc (tI g W fi) (tG g t) (tT g WN dYes) (tN g WN elt) vs σ H Q := by
  obtain ⟨P, F, st, s, o⟩ := q
  refine ⟨P, F, st, s, OutN2.bind o |>.imp fun ds st1 H1 F1 le1 s1 o1 J wk D hD => ?_⟩
  split at o1
  · rename_i hc
    obtain ⟨hbig, hpl⟩ := hc
    refine ⟨fun i m H => m = ds.length - i ∧ i ≤ ds.length ∧ ∃ F' st' bl acc, Same F1 F' ∧ SR g (gd2 P D bl) (L2.wipe σ vs) H F' st' ∧ RL2 g F' bl acc ∧ acc.length ≤ i ∧ st'.length = st1.length ∧ (bl.map (·.1)).Nodup ∧ D ∉ bl.map (·.1) ∧ (∀ b ∈ bl.map (·.1), P.R b = none ∧ ¬ P.N b) ∧
      ∃ ys stE, compGo2 vs t elt (ds.drop i) st' = .ok ys stE ∧ compGo2 vs t elt ds (wipeD st1 vs) = .ok (acc ++ ys) stE, ?_, ?_⟩
    · split at o1
      · rename_i ys stE hgo
        exact ⟨ds.length, by simp, Nat.zero_le _, F1, wipeD st1 vs, [], [], Same.refl _, gd2_start (s1.wipe vs) hD, ⟨rfl, fun j q es e1 _ => by simp at e1⟩, Nat.zero_le _, wipeD_length _ _, .nil, by simp, by simp, ys, stE, by simpa using hgo, by simpa using hgo⟩
      · exact o1.elim
    · rintro i m H2 ⟨rfl, hi, F', st', bl, acc, le, s', racc, hacc, hlen, nd, np, hR, ys, stE, hgo, hall⟩
      by_cases hlt : i < ds.length
      · obtain ⟨d0, hd0⟩ : ∃ d, ds[i]? = some d := ⟨ds[i], List.getElem?_eq_getElem hlt⟩
        have hdr : ds.drop i = d0 :: ds.drop (i + 1) := by
          rw [List.drop_eq_getElem_cons hlt]
          have := List.getElem?_eq_getElem hlt
          rw [hd0] at this; rw [← Option.some.inj this]
        rw [hdr] at hgo
        refine .inr ⟨wk.go i H2 (le.trans s'.le) hlt, fun H => ∃ F' st' bl acc, Same F1 F' ∧ SR g (gd2 P D bl) (L2.wipe σ vs) H F' st' ∧ RL2 g F' bl acc ∧ acc.length ≤ i + 1 ∧ st'.length = st1.length ∧ (bl.map (·.1)).Nodup ∧ D ∉ bl.map (·.1) ∧ (∀ b ∈ bl.map (·.1), P.R b = none ∧ ¬ P.N b) ∧
          ∃ ys stE, compGo2 vs t elt (ds.drop (i + 1)) st' = .ok ys stE ∧ compGo2 vs t elt ds (wipeD st1 vs) = .ok (acc ++ ys) stE, fun H' nx => ⟨ds.length - (i + 1), by omega, rfl, hlt, nx⟩, fun x H' y => ?_⟩
        obtain ⟨d, hd, yy⟩ := wk.yld i H2 x H' (le.trans s'.le) hlt y
        obtain ⟨F', le2, s', rd⟩ := s'.yl le yy
        have le := le.trans le2
        have racc := racc.mono le2
        rw [hd0] at hd; cases hd
        unfold compGo2 at hgo
        cases hset : setT t d0 st' with
        | none => rw [hset] at hgo; cases hgo
        | some st2 =>
          rw [hset] at hgo
          refine ⟨gd2 P D bl, F', st', d0, s', rd, st2, hset, fun xs s2 => ⟨?_, ?_⟩⟩
          · rw [wipe_setσ hv, wipe_wipe]
          · refine ⟨gd2 P D bl, F', st2, s2, fun H3 F3 le3 s3 => ?_⟩
            show (if true = true then _ else _)
            rw [if_pos rfl]
            refine ⟨gd2 P D bl, F3, st2, s3, ?_⟩
            simp only at hgo
            revert hgo
            cases elt st2 with
            | ok y st4 =>
              intro hgo H4 F4 p vs4 le4 s4 hp4 rv
              simp only at hgo
              have hD4 := (gd2_at s4.sr nd np).1
              have hb : big = sizeLine := big_eq
              have hlb : (refs bl).length = acc.length := by simp [refs, racc.len]
              have hfresh : P.R p = none ∧ ¬ P.N p := by
                obtain ⟨O, c, o0, f0, r0, n0⟩ := s4
                have hpD : p ≠ D := fun z => n0 (.inr (.inl z))
                have hpb : p ∉ bl.map (·.1) := fun z => n0 (.inr (.inr z))
                have r1 : (if p = D then some (HO.lst (refs bl)) else match bl.lookup p with
                  | some vs => some (.lst vs)
                  | none => P.R p) = none := r0
                rw [if_neg hpD, lookup_none hpb] at r1
                exact ⟨r1, fun z => n0 (.inl z)⟩
              have s5 : SRx g (gd2 P D bl) (L2.wipe σ vs) H4 F4 (wipeD st4 vs) p := by
                obtain ⟨O, c, rest⟩ := s4
                obtain ⟨O2, c2⟩ : ∃ O2, SRc g (gd2 P D bl) O2 (L2.wipe (setσ t.is xs (L2.wipe σ vs)) vs) H4 F4 (wipeD st4 vs) ∧ O2 = O := by
                  refine ⟨O, ⟨c.le, c.rr, c.oo, c.no, by rw [wipe_length, wipeD_length]; exact c.len, fun i s ov e1 e2 => ?_⟩, rfl⟩
                  by_cases hi : i ∈ vs
                  · rw [wipeD_in hi s e1]; trivial
                  · rw [wipeD_out hi] at e1
                    rw [wipe_out hi] at e2
                    exact c.sl i s ov e1 e2
                obtain ⟨c2, rfl⟩ := c2
                rw [wipe_setσ hv, wipe_wipe] at c2
                exact ⟨_, c2, rest⟩
              obtain ⟨g1, g2, g3⟩ := gd2_step s5 hp4 nd np
              refine ⟨refs bl, hD4, by rw [hlb, ← hb]; omega, F4, wipeD st4 vs, bl ++ [(p, vs4)], acc ++ [y], (le.trans le3).trans le4, g1, (racc.mono (le3.trans le4)).snoc rv, by simp; omega, ?_, g2, g3, fun b hb => ?_, ?_⟩
              · rw [wipeD_length]
                have a1 := s4.sr.len
                have a2 := s2.len
                have a4 := setT_length hset
                omega
              · rw [List.map_append, List.mem_append] at hb
                rcases hb with hb | hb
                · exact hR b hb
                · have : b = p := by simpa using hb
                  rw [this]; exact hfresh
              · revert hgo
                cases hr : compGo2 vs t elt (ds.drop (i + 1)) (wipeD st4 vs) with
                | ok ys' st5 =>
                  intro hgo
                  simp only at hgo
                  cases hgo
                  exact ⟨ys', _, rfl, by rw [List.append_assoc]; exact hall⟩
                | exn c fs st5 => intro hgo; cases hgo
                | stuck => intro hgo; cases hgo
            | exn c fs st4 => intro hgo; cases hgo
            | stuck => intro hgo; cases hgo
      · have e : i = ds.length := by omega
        subst e
        rw [List.drop_length] at hgo
        cases hgo
        refine .inl ⟨wk.stop H2 (le.trans s'.le), ?_⟩
        rw [hall] at o1
        rw [List.append_nil] at o1
        exact o1 H2 F' D bl le (gd2_end s' s1 hD hR le hlen hpl nd np) racc
  · exact o1.elim
/-! stored under a name -/
def putD2 (i : Nat) (dss : List (List D)) : DS := fun st => match slotSet i (.o2 dss) st with
  | some st' => .ok .nx st'
  | none => .stuck
@[simp] def sOwn2 (i : Nat) (f : Den (List (List D))) : DS := bindD f fun dss => putD2 i dss
theorem SR2.own {p : Addr} {i : Nat} {bl : BL} {dss : List (List D)} (s : SR2 g P σ H F st p bl) (r : RL2 g F bl dss) (hi : i < st.length) : SR g P (σ.set i (some (.ref p))) H F (st.set i (.o2 dss)) := by
  obtain ⟨⟨O, c, ⟨o0, f0, r0, n0⟩, hb⟩, hp, nd, np, it⟩ := s
  refine ⟨fun b => if b = p ∨ b ∈ bl.map (·.1) then some i else if O b = some i then none else O b, c.le, c.rr, fun b j e => ?_, c.no, by rw [List.length_set, List.length_set]; exact c.len, fun j s ov e1 e2 => ?_⟩
  · by_cases hq : b = p ∨ b ∈ bl.map (·.1)
    · rcases hq with rfl | hq
      · exact ⟨f0, r0, NT.of hp⟩
      · obtain ⟨q, hq1, rfl⟩ := List.mem_map.mp hq
        exact ⟨(hb _ hq).2.1, (hb _ hq).2.2.1, NT.of (it q hq1)⟩
    · simp only [if_neg hq] at e
      by_cases ho : O b = some i
      · simp [ho] at e
      · simp only [if_neg ho] at e; exact c.oo b j e
  · by_cases hj : j = i
    · subst hj
      rw [List.getElem?_set_self hi] at e1
      rw [List.getElem?_set_self (by rw [c.len]; exact hi)] at e2
      cases e1; cases e2
      refine ⟨p, bl.map (·.1), rfl, by simp, n0, by rw [hp]; simp [refs], nd, np, by simp [r.len], fun k b ds e1 e2 => ?_⟩
      rw [List.getElem?_map] at e1
      cases hk : bl[k]? with
      | none => rw [hk] at e1; cases e1
      | some q =>
        rw [hk] at e1
        have e1 : q.1 = b := Option.some.inj e1
        have hm : q ∈ bl := List.mem_of_getElem? hk
        have hm2 : b ∈ bl.map (·.1) := e1 ▸ List.mem_map.mpr ⟨q, hm, rfl⟩
        refine ⟨by simp only [if_pos (Or.inr hm2)], (hb b hm2).2.2.2, q.2, by rw [← e1]; exact it q hm, r.at_ k q ds hk e2⟩
    · rw [List.getElem?_set_ne (Ne.symm hj)] at e1 e2
      exact (c.sl j s ov e1 e2).move rfl (fun b o => by
        have h1 : ¬ (b = p ∨ b ∈ bl.map (·.1)) := fun z => by
          rcases z with rfl | z
          · rw [o0] at o; cases o
          · rw [(hb b z).1] at o; cases o
        simp only [if_neg h1]
        rw [if_neg (by rw [o]; intro z; exact hj (Option.some.inj z))]; exact o) (Same.refl _) (fun _ _ _ h => h) fun _ _ h => h
theorem es_own2 {i : Nat} {vs : List Nat} {t : Tg} {fi : Den (List D)} {elt : Den (List D)} (he : PS X s (tAsg (tLc (tI g W fi) (tG g t) (tT g WN dYes) (tN g WN elt) vs) (gName i))) (hv : ∀ i ∈ t.is, i ∈ vs := by decide) : PS X s (tS g W (sOwn2 i (dComp2 vs t fi elt))) :=
  (he.imp fun E σ H q => comp2_imp (Q := fun x H1 => gName i x σ H1 E.nx) hv q).imp fun E σ H ⟨P, F, st, s, o⟩ => by
    refine ⟨P, F, st, s, ?_⟩
    unfold sOwn2 at o
    have o : OutS g W P F (bindD (dComp2 vs t fi elt) (fun dss => putD2 i dss) st) E := o
    unfold bindD at o
    revert o
    cases dComp2 vs t fi elt st with
    | ok dss st' =>
      intro o H' F' p bl le s2 r
      have o : OutS g W P F (putD2 i dss st') E := o
      unfold putD2 at o
      split at o
      · rename_i st2 h
        obtain ⟨hi, rfl⟩ := slotSet_some h
        exact o _ H' F' le (s2.own r hi)
      · exact o.elim
    | exn c fs st' => exact fun o cls dd H' F' e s => o cls dd σ H' F' e s
    | stuck => exact fun o => o
end
end DL

namespace DL
open PySem PySem.Spec PyProof.Rows L2
theorem nodup_inj {α : Type} {l : List α} (nd : l.Nodup) {i j : Nat} (hi : i < l.length) (hj : j < l.length) (h : l[i] = l[j]) : i = j := by
  have p := List.pairwise_iff_getElem.mp nd
  rcases Nat.lt_trichotomy i j with q | q | q
  · exact absurd h (p i j hi hj q)
  · exact q
  · exact absurd h.symm (p j i hj hi q)
/-- no exception leaves -/
@[simp] def noX {α : Type} (a : Den α) : Den α := fun st => match a st with
  | .exn _ _ _ => .stuck
  | r => r
/-- the lists of a slot out of sight, guarded -/
def P2 (P : Par) (H : Hp) (a : Addr) (bs : List Addr) : Par := ⟨P.B, fun x => if x = a ∨ x ∈ bs then H x else P.R x, fun x => P.N x ∨ x = a ∨ x ∈ bs⟩
section
variable {X : Cx} {g : G} {W : WX} {P : Par} {σ : L2.St} {H F : Hp} {st : DSt} {e : Expr} {s : Stmt} {f h k : Den D}
theorem SR.hide {i : Nat} {dss : List (List D)} (s : SR g P σ H F st) (h : st[i]? = some (.o2 dss)) : ∃ a bs, σ[i]? = some (some (.ref a)) ∧ H a = some (.lst (bs.map V.ref)) ∧ bs.length = dss.length ∧
    (∀ (j : Nat) (b : Addr) (ds : List D), bs[j]? = some b → dss[j]? = some ds → ∃ vs, H b = some (.lst vs) ∧ Rl g F vs ds) ∧ SR g (P2 P H a bs) σ H F (st.set i .no) ∧
    ∀ (H' F' : Hp) (st' : DSt), Same F F' → SR g (P2 P H a bs) σ H' F' st' → st'[i]? = some .no → (∀ x, (x = a ∨ x ∈ bs) → H' x = H x) ∧ SR g P σ H' F' (st'.set i (.o2 dss)) ∧
      ∀ (j : Nat) (b : Addr) (ds' : List D) (vs' : List V), bs[j]? = some b → Rl g F' vs' ds' → SR g P σ (upd H' b (.lst vs')) F' (st'.set i (.o2 (dss.set j ds'))) := by
  obtain ⟨ov, hov⟩ := SRc.nth s h
  obtain ⟨O, c⟩ := s
  obtain ⟨a, bs, rfl, ho, hn, ha, nd, na, hl, hr⟩ := c.sl i _ _ h hov
  have own : ∀ x, (x = a ∨ x ∈ bs) → O x = some i ∧ ¬ P.N x := fun x hx => by
    rcases hx with rfl | hx
    · exact ⟨ho, hn⟩
    · obtain ⟨j, hj, e⟩ := List.getElem_of_mem hx
      have e1 : bs[j]? = some x := by rw [List.getElem?_eq_getElem hj, e]
      obtain ⟨o, n, _⟩ := hr j x _ e1 (List.getElem?_eq_getElem (by rw [← hl]; exact hj))
      exact ⟨o, n⟩
  refine ⟨a, bs, hov, ha, hl, fun j b ds e1 e2 => (hr j b ds e1 e2).2.2, ?_, ?_⟩
  · refine ⟨fun x => if x = a ∨ x ∈ bs then none else O x, c.le, fun x o e => ?_, fun x j e => ?_, fun x n => ?_, by rw [List.length_set]; exact c.len, fun j s ov e1 e2 => ?_⟩
    · have e : (if x = a ∨ x ∈ bs then H x else P.R x) = some o := e
      by_cases hx : x = a ∨ x ∈ bs
      · rw [if_pos hx] at e; exact e
      · rw [if_neg hx] at e; exact c.rr x o e
    · by_cases hx : x = a ∨ x ∈ bs
      · simp [hx] at e
      · simp only [if_neg hx] at e
        refine ⟨(c.oo x j e).1, ?_, (c.oo x j e).2.2⟩
        show (if x = a ∨ x ∈ bs then H x else P.R x) = none
        rw [if_neg hx]; exact (c.oo x j e).2.1
    · rcases n with n | n
      · exact c.no x n
      · exact ⟨(c.oo x i (own x n).1).1, (c.oo x i (own x n).1).2.2⟩
    · by_cases hj : j = i
      · subst hj
        rw [List.getElem?_set_self (lt_of_get h)] at e1
        cases e1; trivial
      · rw [List.getElem?_set_ne (Ne.symm hj)] at e1
        have hx : ∀ x, O x = some j → ¬ (x = a ∨ x ∈ bs) := fun x o hx => hj (by rw [(own x hx).1] at o; exact (Option.some.inj o).symm)
        exact (c.sl j s ov e1 e2).move rfl (fun x o => by simp only [if_neg (hx x o)]; exact o) (Same.refl _) (fun _ _ _ h => h) fun x o n z => by
          rcases z with z | z
          · exact n z
          · exact hx x o z
  · rintro H' F' st' le ⟨O', c'⟩ hno
    have hR : ∀ x, (x = a ∨ x ∈ bs) → (P2 P H a bs).R x = H x := fun x hx => if_pos hx
    have hH : ∀ x, (x = a ∨ x ∈ bs) → H' x = H x := fun x hx => by
      obtain ⟨o, ho⟩ := (c.oo x i (own x hx).1).2.2.get
      rw [ho]
      exact c'.rr x o (by rw [hR x hx]; exact ho)
    have o0 : ∀ x, (x = a ∨ x ∈ bs) → O' x = none := fun x hx => by
      cases e : O' x with
      | none => rfl
      | some j =>
        have := (c'.oo x j e).2.1
        rw [hR x hx] at this
        exact absurd this (c.oo x i (own x hx).1).2.2.1
    have f0 : ∀ x, (x = a ∨ x ∈ bs) → F' x = none := fun x hx => (c'.no x (.inr hx)).1
    have r0 : ∀ x, (x = a ∨ x ∈ bs) → P.R x = none := fun x hx => (c.oo x i (own x hx).1).2.1
    have rr' : ∀ x o, P.R x = some o → (¬ (x = a ∨ x ∈ bs)) ∧ H' x = some o := fun x o e => by
      have hx : ¬ (x = a ∨ x ∈ bs) := fun hx => by rw [r0 x hx] at e; cases e
      exact ⟨hx, c'.rr x o (by show (if x = a ∨ x ∈ bs then H x else P.R x) = some o; rw [if_neg hx]; exact e)⟩
    -- the new owner map
    have key : ∀ (H2 : Hp) (dss2 : List (List D)), (∀ x, ¬ (x ∈ bs) → H2 x = H' x) → (∀ x, NT H' x → NT H2 x) → bs.length = dss2.length → (∀ (j : Nat) (b : Addr) (ds : List D), bs[j]? = some b → dss2[j]? = some ds → ∃ vs, H2 b = some (.lst vs) ∧ Rl g F' vs ds) →
        SR g P σ H2 F' (st'.set i (.o2 dss2)) := by
      intro H2 dss2 hout hne hl2 hrow
      have hxF : ∀ x o, F' x = some o → ¬ (x = a ∨ x ∈ bs) := fun x o e hx => by rw [f0 x hx] at e; cases e
      refine ⟨fun x => if x = a ∨ x ∈ bs then some i else if O' x = some i then none else O' x, fun x o e => ?_, fun x o e => ?_, fun x j e => ?_, fun x n => ?_, by rw [List.length_set]; exact c'.len, fun j s ov e1 e2 => ?_⟩
      · rw [hout x fun z => hxF x o e (.inr z)]; exact c'.le x o e
      · rw [hout x fun z => (rr' x o e).1 (.inr z)]; exact (rr' x o e).2
      · by_cases hx : x = a ∨ x ∈ bs
        · exact ⟨f0 x hx, r0 x hx, hne x (NT.move (c.oo x i (own x hx).1).2.2 fun u hu => by rw [hH x hx]; exact hu)⟩
        · simp only [if_neg hx] at e
          by_cases ho : O' x = some i
          · simp [ho] at e
          · simp only [if_neg ho] at e
            refine ⟨(c'.oo x j e).1, ?_, hne x (c'.oo x j e).2.2⟩
            have := (c'.oo x j e).2.1
            have : (if x = a ∨ x ∈ bs then H x else P.R x) = none := this
            rw [if_neg hx] at this; exact this
      · have := c'.no x (.inl n)
        exact ⟨this.1, hne x this.2⟩
      · by_cases hj : j = i
        · subst hj
          rw [List.getElem?_set_self (lt_of_get hno)] at e1
          cases e1
          rw [hov] at e2; cases e2
          refine ⟨a, bs, rfl, by simp, hn, by rw [hout a na, hH a (.inl rfl)]; exact ha, nd, na, hl2, fun j b ds e1 e2 => ?_⟩
          have hb := List.mem_of_getElem? e1
          exact ⟨by simp only [if_pos (Or.inr hb)], (own b (.inr hb)).2, hrow j b ds e1 e2⟩
        · rw [List.getElem?_set_ne (Ne.symm hj)] at e1
          have hx : ∀ x, O' x = some j → ¬ (x = a ∨ x ∈ bs) := fun x o hx => by rw [o0 x hx] at o; cases o
          exact (c'.sl j s ov e1 e2).move rfl (fun x o => by
            simp only [if_neg (hx x o)]
            rw [if_neg (by rw [o]; intro z; exact hj (Option.some.inj z))]; exact o) (Same.refl _) (fun x u o h => by rw [hout x fun z => hx x o (.inr z)]; exact h) fun _ _ n z => n (.inl z)
    refine ⟨hH, key H' dss (fun _ _ => rfl) (fun _ h => h) hl fun j b ds e1 e2 => ?_, fun j b ds' vs' hb rr => ?_⟩
    · obtain ⟨_, _, vs, h1, r1⟩ := hr j b ds e1 e2
      exact ⟨vs, by rw [hH b (.inr (List.mem_of_getElem? e1))]; exact h1, r1.mono le⟩
    · have hbm := List.mem_of_getElem? hb
      refine key _ _ (fun x hx => upd_ne fun z => hx (z ▸ hbm)) (fun x hx => ?_) (by rw [List.length_set]; exact hl) fun j2 b2 ds2 e1 e2 => ?_
      · by_cases hz : x = b
        · subst hz; exact NT.of upd_same
        · exact NT.upd hz hx
      · by_cases hjj : j2 = j
        · subst hjj
          rw [hb] at e1
          cases e1
          rw [List.getElem?_set_self (by rw [← hl]; exact lt_of_get hb)] at e2
          cases e2
          exact ⟨vs', upd_same, rr⟩
        · rw [List.getElem?_set_ne (Ne.symm hjj)] at e2
          obtain ⟨_, _, vs, h1, r1⟩ := hr j2 b2 ds2 e1 e2
          have hbb : b2 ≠ b := fun z => by
            subst z
            have h1 := (List.getElem?_eq_some_iff.mp e1)
            have h2 := (List.getElem?_eq_some_iff.mp hb)
            obtain ⟨l1, q1⟩ := h1
            obtain ⟨l2, q2⟩ := h2
            exact hjj (nodup_inj nd l1 l2 (q1.trans q2.symm))
          exact ⟨vs, by rw [upd_ne hbb, hH b2 (.inr (List.mem_of_getElem? e1))]; exact h1, r1.mono le⟩
/-! reading and storing -/
@[simp] def dO2 (i : Nat) : Den (List (List D)) := fun st => match st[i]? with
  | some (.o2 dss) => .ok dss st
  | _ => .stuck
@[simp] def hideD (i : Nat) : Den Unit := fun st => .ok () (st.set i .no)
@[simp] def backO (i : Nat) (dss : List (List D)) : Den Unit := fun st => match st[i]? with
  | some .no => .ok () (st.set i (.o2 dss))
  | _ => .stuck
@[simp] def rowAt {α : Type} (dss : List α) (k : D) : Option (Nat × α) := match k with
  | .int k => match ixN dss.length k with
    | some j => match dss[j]? with
      | some ds => some (j, ds)
      | none => none
    | none => none
  | _ => none
@[simp] def dIx2 (i : Nat) (e1 e2 : Den D) : Den D := bindD (dO2 i) fun _ => bindD e1 fun k1 => bindD (dO2 i) fun dss => bindD (liftO (rowAt dss k1)) fun r => bindD (hideD i) fun _ => bindD (noX e2) fun k2 => bindD (backO i dss) fun _ => liftO (match rowAt r.2 k2 with | some q => some q.2 | none => none)
@[simp] def sStore2 (i : Nat) (e1 e2 e : Den D) : DS := bindD e fun v => bindD (dO2 i) fun _ => bindD e1 fun k1 => bindD (dO2 i) fun dss => bindD (liftO (rowAt dss k1)) fun r => bindD (hideD i) fun _ => bindD (noX e2) fun k2 =>
  bindD (liftO (rowAt r.2 k2)) fun q => bindD (backO i (dss.set r.1 (r.2.set q.1 v))) fun _ => retD .nx
theorem dO2_ok {i : Nat} {α : Type} {kk : List (List D) → Den α} {K : α → DSt → Hp → Hp → Prop} (o : Out g W P σ F (bindD (dO2 i) kk st) K) : ∃ dss, st[i]? = some (.o2 dss) ∧ Out g W P σ F (kk dss st) K := by
  unfold bindD dO2 at o
  cases e : st[i]? with
  | none => rw [e] at o; exact o.elim
  | some sl =>
    rw [e] at o
    cases sl with
    | o2 dss => exact ⟨dss, rfl, o⟩
    | _ => exact o.elim
theorem rowAt_some {α : Type} {dss : List α} {k : D} {r : Nat × α} (h : rowAt dss k = some r) : ∃ z, k = .int z ∧ ixN dss.length z = some r.1 ∧ dss[r.1]? = some r.2 := by
  unfold rowAt at h
  split at h
  · rename_i z
    split at h
    · rename_i j hj
      split at h
      · rename_i ds hd
        cases h
        exact ⟨z, rfl, hj, hd⟩
      · cases h
    · cases h
  · cases h
theorem atI_of {α : Type} {xs : List α} {z : Int} {j : Nat} {v : α} (h : ixN xs.length z = some j) (hv : xs[j]? = some v) : atI xs z = some v := by
  unfold atI
  rw [h]; exact hv
/-- the first index of two: the row -/
theorem row2 {i : Nat} {α : Type} {a0 : Addr} {k1 : D} {v1 : V} (s : SR g P σ H F st) (hv0 : σ[i]? = some (some (.ref a0))) (rv1 : Rv g F v1 k1) {kk : List (List D) → Nat × List D → Den α} {K : α → DSt → Hp → Hp → Prop}
    (o : Out g W P σ F (bindD (dO2 i) (fun dss => bindD (liftO (rowAt dss k1)) fun r => kk dss r) st) K) :
    ∃ (dss : List (List D)) (bs : List Addr) (b : Addr) (vs : List V) (r : Nat × List D) (z1 : Int), st[i]? = some (.o2 dss) ∧ v1 = .int z1 ∧ dss[r.1]? = some r.2 ∧ bs[r.1]? = some b ∧ H b = some (.lst vs) ∧ Rl g F vs r.2 ∧ SqL g.K H a0 (bs.map V.ref) ∧ atI (bs.map V.ref) z1 = some (.ref b) ∧
      SR g (P2 P H a0 bs) σ H F (st.set i .no) ∧ Out g W P σ F (kk dss r st) K ∧ ∀ (H' F' : Hp) (st' : DSt), Same F F' → SR g (P2 P H a0 bs) σ H' F' st' → st'[i]? = some .no → H' b = H b ∧ SR g P σ H' F' (st'.set i (.o2 dss)) ∧
        ∀ (ds' : List D) (vs' : List V), Rl g F' vs' ds' → SR g P σ (upd H' b (.lst vs')) F' (st'.set i (.o2 (dss.set r.1 ds'))) := by
  obtain ⟨dss, hst, o2⟩ := dO2_ok o
  obtain ⟨a, bs, hv, ha, hl, hrow, s2, back⟩ := s.hide hst
  rw [hv0] at hv; cases hv
  cases er : rowAt dss k1 with
  | none => simp only [er, bindD, liftO] at o2; exact o2.elim
  | some r =>
    simp only [er, bindD, liftO] at o2
    obtain ⟨z1, rfl, hj, hd⟩ := rowAt_some er
    cases rv1
    obtain ⟨b, hb⟩ : ∃ b, bs[r.1]? = some b := ⟨bs[r.1]'(by rw [hl]; exact lt_of_get hd), List.getElem?_eq_getElem _⟩
    obtain ⟨vs, hbv, rvs⟩ := hrow r.1 b r.2 hb hd
    refine ⟨dss, bs, b, vs, r, z1, hst, rfl, hd, hb, hbv, rvs, sqL_of ha, atI_of (by rw [List.length_map, hl]; exact hj) (by rw [List.getElem?_map, hb]; rfl), s2, o2, fun H' F' st' le s' hno => ?_⟩
    obtain ⟨h1, h2, h3⟩ := back H' F' st' le s' hno
    exact ⟨h1 b (.inr (List.mem_of_getElem? hb)), h2, fun ds' vs' rr => h3 r.1 b ds' vs' hb rr⟩
theorem ev_ix2 {i : Nat} (he : PE X e (tOp (rIx g.K) (tOp (rIx g.K) (tVar i) (tE g W f)) (tE g W h))) : PE X e (tE g W (dIx2 i f h)) := he.imp fun σ H Q ⟨P, F, st, s, o⟩ => by
  obtain ⟨dss0, hst0, o0⟩ := dO2_ok o
  obtain ⟨a0, bs0, hv0, _⟩ := s.hide hst0
  refine ⟨_, hv0, P, F, st, s, o0.bind.imp fun k1 st1 H1 F1 le1 s1 o1 v1 rv1 => ?_⟩
  obtain ⟨dss, bs, b, vs, r, z1, hst, rfl, hd, hb, hbv, rvs, hsq, hat, s2, o2, back⟩ := row2 s1 hv0 rv1 o1
  refine .inl ⟨a0, bs.map V.ref, z1, .ref b, rfl, rfl, hsq, hat, ?_⟩
  refine ⟨P2 P H1 a0 bs, F1, st1.set i .no, s2, ?_⟩
  revert o2
  simp only [bindD, hideD, noX]
  cases h (st1.set i .no) with
  | ok k2 st2 =>
    intro o5 H2 F2 le2 s3 v2 rv2
    simp only [backO] at o5
    cases hno : st2[i]? with
    | none => rw [hno] at o5; exact o5.elim
    | some sl =>
      rw [hno] at o5
      cases sl with
      | no =>
        obtain ⟨hH, s4, _⟩ := back H2 F2 st2 le2 s3 hno
        simp only at o5
        obtain ⟨z, ez, q⟩ := Out.lift o5
        split at ez
        · rename_i q2 hq2
          cases ez
          obtain ⟨z2, rfl, hj2, hd2⟩ := rowAt_some hq2
          cases rv2
          obtain ⟨w, hw, rw'⟩ := rvs.get hd2
          refine .inl ⟨b, vs, z2, w, rfl, rfl, sqL_of (by rw [hH]; exact hbv), atI_of (by rw [rvs.length]; exact hj2) hw, ?_⟩
          exact q H2 F2 le2 s4 w (rw'.mono le2)
        · cases ez
      | _ => exact o5.elim
  | exn c fs st2 => exact fun o5 => o5.elim
  | stuck => exact fun o5 => o5.elim
theorem es_store2 {i : Nat} (he : PS X s (tAsg (tE g W k) (gSub (tOp (rIx g.K) (tVar i) (tE g W f)) (tE g W h) rSetL))) : PS X s (tS g W (sStore2 i f h k)) := he.imp fun D σ H ⟨P, F, st, s, o⟩ =>
  ⟨P, F, st, s, o.bind.imp fun x st0 H0 F0 le0 s0 o0 v rx => by
    have o0 : Out g W P σ F0 (bindD (dO2 i) (fun _ => bindD f fun k1 => bindD (dO2 i) fun dss => bindD (liftO (rowAt dss k1)) fun r => bindD (hideD i) fun _ => bindD (noX h) fun k2 =>
      bindD (liftO (rowAt r.2 k2)) fun q => bindD (backO i (dss.set r.1 (r.2.set q.1 x))) fun _ => retD ()) st0) fun _ st' H' F' => D.nx σ H' := by
      revert o0
      simp only [bindD]
      cases dO2 i st0 with
      | ok a st1 =>
        simp only
        cases f st1 with
        | ok k1 st2 =>
          simp only
          cases dO2 i st2 with
          | ok dss st3 =>
            simp only
            cases (liftO (rowAt dss k1) : Den _) st3 with
            | ok r st4 =>
              simp only [hideD]
              cases noX h (st4.set i .no) with
              | ok k2 st5 =>
                simp only
                cases (liftO (rowAt r.2 k2) : Den _) st5 with
                | ok q st6 =>
                  simp only
                  cases backO i (dss.set r.1 (r.2.set q.1 x)) st6 with
                  | ok u st7 => exact fun o H' F' le s' => o σ H' F' le s'
                  | exn c fs st7 => exact fun o cls dd H' F' le s' rx => o cls dd σ H' F' le s' rx
                  | stuck => exact fun o => o
                | exn c fs st7 => exact fun o cls dd H' F' le s' rx => o cls dd σ H' F' le s' rx
                | stuck => exact fun o => o
              | exn c fs st7 => exact fun o cls dd H' F' le s' rx => o cls dd σ H' F' le s' rx
              | stuck => exact fun o => o
            | exn c fs st7 => exact fun o cls dd H' F' le s' rx => o cls dd σ H' F' le s' rx
            | stuck => exact fun o => o
          | exn c fs st7 => exact fun o cls dd H' F' le s' rx => o cls dd σ H' F' le s' rx
          | stuck => exact fun o => o
        | exn c fs st7 => exact fun o cls dd H' F' le s' rx => o cls dd σ H' F' le s' rx
        | stuck => exact fun o => o
      | exn c fs st7 => exact fun o cls dd H' F' le s' rx => o cls dd σ H' F' le s' rx
      | stuck => exact fun o => o
    obtain ⟨dss0, hst0, o1⟩ := dO2_ok o0
    obtain ⟨a0, bs0, hv0, _⟩ := s0.hide hst0
    refine ⟨_, hv0, P, F0, st0, s0, o1.bind.imp fun k1 st1 H1 F1 le1 s1 o1 v1 rv1 => ?_⟩
    obtain ⟨dss, bs, b, vs, r, z1, hst, rfl, hd, hb, hbv, rvs, hsq, hat, s2, o2, back⟩ := row2 s1 hv0 rv1 o1
    refine .inl ⟨a0, bs.map V.ref, z1, .ref b, rfl, rfl, hsq, hat, ?_⟩
    refine ⟨P2 P H1 a0 bs, F1, st1.set i .no, s2, ?_⟩
    revert o2
    simp only [bindD, hideD, noX]
    cases h (st1.set i .no) with
    | ok k2 st2 =>
      intro o5 H2 F2 le2 s3 v2 rv2
      simp only [liftO] at o5
      cases hq : rowAt r.2 k2 with
      | none => rw [hq] at o5; exact o5.elim
      | some q =>
        rw [hq] at o5
        simp only [backO] at o5
        cases hno : st2[i]? with
        | none => rw [hno] at o5; exact o5.elim
        | some sl =>
          rw [hno] at o5
          cases sl with
          | no =>
            obtain ⟨hH, _, put⟩ := back H2 F2 st2 le2 s3 hno
            obtain ⟨z2, rfl, hj2, hd2⟩ := rowAt_some hq
            cases rv2
            refine ⟨b, vs, z2, q.1, rfl, rfl, by rw [hH]; exact hbv, by rw [rvs.length]; exact hj2, ?_⟩
            exact o5 _ F2 le2 (put (r.2.set q.1 x) (vs.set q.1 v) ((rvs.mono le2).set ((rx.mono le1).mono le2) q.1))
          | _ => exact o5.elim
    | exn c fs st2 => exact fun o5 => o5.elim
    | stuck => exact fun o5 => o5.elim⟩
end
end DL

/-! An own error class whose __init__ says super().__init__(e) and keeps one field. -/
namespace PySem
namespace ErrX
open PySem.W PySem.Calls PyProof.Rows PySem.HandSPX
def eA (a : Str) (p1 p2 : Pos) : Arguments := { posonlyargs := [], args := [{ arg := "self", annotation := none, pos := p1 }, { arg := a, annotation := none, pos := p2 }], vararg := none, kwonlyargs := [], kw_defaults := [], kwarg := none, defaults := [] }
def eB (e : Expr) (a f : Str) (p0 p1 p2 p3 p4 p5 p6 p7 p8 : Pos) : List Stmt := [.Expr (.Call (.Attribute (.Call (.Name "super" p0) [] [] p1) "__init__" p2) [e] [] p3) p4, .Assign [.Attribute (.Name "self" p5) f p6] (.Name a p7) p8]
def eS (a : Str) : Scope := { kind := .function, names := [(PySem.Str.ofString "self", .local), (a, .local), (PySem.Str.ofString "__class__", .free), (PySem.Str.ofString "super", .globalImplicit)], isGenerator := false, isCoroutine := false, more := [] }
/-- how the call is read (the positions are known where the text is) -/
def CallsPlain (e : Expr) (q0 q1 q2 q3 : Pos) : Prop := ∀ env : Env, eval (.Call (.Attribute (.Call (.Name "super" q0) [] [] q1) "__init__" q2) [e] [] q3) env = (do
      let ov ← attributeBase (.Call (.Name "super" q0) [] [] q1) "__init__" env (eval (.Call (.Name "super" q0) [] [] q1) env)
      standAt q2.atName
      let (f, first) ← holding [ov] (getMethod ov "__init__" (do return (← importBound (.Call (.Name "super" q0) [] [] q1) env).getD true))
      callWith q3 f first (backTo q3 (starEach [e] env)) [])
/-- the text: parameter a, field f; e the argument handed on -/
structure ErrTxt (P : Program) (K : Frag) (x qual : Str) (C fI : Addr) (a f : Str) (e : Expr) : Prop where
  okE : (∃ p, e = .Name a p) ∨ ∃ m j p, e = .Constant (.str m) j p
  bnd : ∀ (q : Str) (body : List Stmt) (doc pm : Value) (an : Option Addr) (cdv ct : Value) (cc : Addr) (p1 p2 : Pos) (s : Shared) (u v : Value), BindsTo s (ksFn "__init__" q (eA a p1 p2) body (eS a) .none .none doc pm an cdv ct cc) ⟨[u, v], []⟩ [("self", u), (a, v)]
  na : a ≠ "self" ∧ a ≠ "__class__" ∧ a ≠ "super" ∧ (a == ("__debug__" : Str)) = false
  cls : ∃ nm q N bs bm sn sub ab col dd k0 k1 k2 k3 k5, K.lookup C = some (excClassObj nm q C N bs bm true sn sub ab col dd k0 k1 k2 k3 k5 "ValueError.__new__") ∧ refsVE bm = true ∧ alongIn K "__init__" bm = some (some (.builtin "ValueError.__init__"))
  sa : findIn K (.ref C) "__setattr__" = some (some (.builtin "object.__setattr__"))
  noN : findIn K (.ref C) f = some none
  iC : findIn K (.ref C) "__init__" = some (some (.ref fI))
  tC : typeIn K (.ref fI) = some (.type "function")
  kC : keepIn K (.ref C) = true
  exC : subIn K (.ref C) (.type "BaseException") = some true
  veC : subIn K (.ref C) (.type "ValueError") = some true
  meC : mroIn K C (.ref C) = some true
  tyC : typeIn K (.ref C) = some (.type "type")
  opq : nsIn K cStatics "thirdparty.any" = some none
  sup : nsIn K mainGlobals "super" = some none
  psup : (P.main.scope.names.lookup ("super" : Str)).isSome = false
  fn : ∃ (oc : Value) (od : Option Addr) (doc pm : Value) (an : Option Addr) (cda : Addr) (ct : Value) (osl : Array (Option Value)) (cc : Addr) (p1 p2 q0 q1 q2 q3 q4 q5 q6 q7 q8 : Pos) (ccl cl : Value) (cdd cld : Option Addr) (ccs csl : Array (Option Value)) (vs : Array Value) (file : Str) (tf : Tok),
    K.lookup fI = some ⟨oc, od, .func (ksFn "__init__" qual (eA a p1 p2) (eB e a f q0 q1 q2 q3 q4 q5 q6 q7 q8) (eS a) .none .none doc pm an (.ref cda) ct cc), osl⟩ ∧ codeIn K (.ref cda) qual = true ∧
      K.lookup cda = some ⟨ccl, cdd, .fields vs, ccs⟩ ∧ vs[2]? = some (.str file tf) ∧ ((P.main.file : Str) == file) = true ∧ K.lookup cc = some ⟨cl, cld, .cell (some (.ref C)), csl⟩ ∧ CallsPlain e q0 q1 q2 q3
theorem one_size (v : Value) : [v].length ≤ sizeLine := by
  rw [sizeLine_eq]
  exact (by decide : 1 ≤ 16777216)
/-- what __init__ leaves of a fresh exception at x -/
structure InitEnd (h h' : Heap) (x C dx : Addr) (f : Str) (v : Value) : Prop where
  keep : ∀ b o, b ≠ x → h.get? b = some o → h'.get? b = some o
  obj : ∃ t1, h'.get? x = some { cls := .ref C, dict := some dx, data := .fields #[.ref t1, .none, .none, .none, .bool false, .none] }
  dbig : h.objs.size ≤ dx
  dne : dx ≠ x
  ns : h'.Ns1 dx (fun y => if y = f then some v else none)
structure OwnMade (h h' : Heap) (e C d : Addr) (f : Str) (v : Value) : Prop where
  keep : ∀ b o, h.get? b = some o → h'.get? b = some o
  new : h.objs.size ≤ e
  obj : ∃ oe vs, h'.get? e = some oe ∧ oe.cls = .ref C ∧ oe.dict = some d ∧ oe.data = .fields vs ∧ vs[1]? = some .none
  dbig : h.objs.size ≤ d
  dne : d ≠ e
  ns : h'.Ns1 d (fun y => if y = f then some v else none)
theorem bcls {C : Addr} {l : List Value} : ((Value.ref C :: l).dropWhile (· != .ref C)).drop 1 = l := by simp [List.dropWhile_cons]
theorem find_self {K : Frag} {C : Addr} {bm : List Value} : True := trivial
theorem ldC {M : Model} {A : Around} {E : Value → Shared → Prop} {s : Shared} {name : Str} {scope : Scope} {L f cc : Addr} {cd : Value} {m : Str → Option Value} {x : Str} {pos : Pos} {v : Value} {Q : Value → Shared → Prop} (hn : s.heap.Ns L m) (hv : m x = some v) (h : Q v s)
    (hk : scope.kind = .function) (hl : (ksEnv name scope L f cd cc).kindOf x = some .local) (hd : (x == ("__debug__" : Str)) = false) :
    wpAny M A (eval (.Name x pos) (ksEnv name scope L f cd cc)) Q E s := wpAny_Name (wpAny_loadName_local hk hl hn hv h) hd
section
variable {prog : Program} {w : World} {A : Around} {E : Value → Shared → Prop} {R : Result → Shared → Prop} {s : Shared} {K : Frag} {mg mb : Str → Option Value} {C fI : Addr} {xn qual a f : Str} {e : Expr}
theorem err_init (T : ErrTxt prog K xn qual C fI a f e) {x t0 : Addr} {v : Value} (X : K.In s.heap) (Gg : s.heap.Ns mainGlobals mg) (Gb : s.heap.Ns builtinsNs mb) (hbs : mb "super" = some (.type "super")) (hlim : s.heap.NoLimit) (hx : s.heap.get? x = some (excO C t0)) (hnx : K.lookup x = none) (hroom : A.depth < recursionLimit)
    (hq : ∀ h' tk dx, InitEnd s.heap h' x C dx f v → R (.ok (.ret .none)) { s with heap := h', toks := tk }) :
    codeAny (model prog w) A (.call (.ref fI) ⟨[.ref x, v], []⟩) R s := by
  obtain ⟨oc, od, doc, pm, an, cda, ct, osl, cc, p1, p2, q0, q1, q2, q3, q4, q5, q6, q7, q8, ccl, cl, cdd, cld, ccs, csl, vs, file, tf, ho, hcd, hcda, hvs, hfile, hcell, hplain⟩ := T.fn
  obtain ⟨nm, q, N, bs, bm, sn, sub, ab, col, dd, k0, k1, k2, k3, k5, hC, hbm, hal⟩ := T.cls
  obtain ⟨na1, na2, na3, na4⟩ := T.na
  have hcl : clsIn K C = some { name := nm, bases := bs, mro := .ref C :: bm, ns := N, qualname := q, hasDict := true, slotNames := sn, subclasses := sub, abstract := ab, collection := col, hasDel := false } := by unfold clsIn; rw [hC] <;> rfl
  have nself : (("self" : Str) == a) = false := by simpa using fun z : ("self" : Str) = a => na1 z.symm
  have aself : (a == ("self" : Str)) = false := by simpa using na1
  have lka : (eS a).names.lookup a = some .local := by
    show List.lookup a [(PySem.Str.ofString "self", NameKind.local), (a, .local), (PySem.Str.ofString "__class__", .free), (PySem.Str.ofString "super", .globalImplicit)] = some .local
    rw [List.lookup_cons]
    split
    · rfl
    · rw [List.lookup_cons]; simp
  have lks : (eS a).names.lookup ("super" : Str) = some .globalImplicit := by
    have h1 : (("super" : Str) == PySem.Str.ofString "self") = false := by decide
    have h2 : (("super" : Str) == a) = false := by simpa using fun z : ("super" : Str) = a => na3 z.symm
    have h3 : (("super" : Str) == PySem.Str.ofString "__class__") = false := by decide
    have h4 : (("super" : Str) == PySem.Str.ofString "super") = true := by decide
    show List.lookup _ [(PySem.Str.ofString "self", NameKind.local), (a, .local), (PySem.Str.ofString "__class__", .free), (PySem.Str.ofString "super", .globalImplicit)] = _
    simp only [List.lookup_cons, h1, h2, h3, h4]
  have lkc : (eS a).names.lookup ("__class__" : Str) = some .free := by
    have h1 : (("__class__" : Str) == PySem.Str.ofString "self") = false := by decide
    have h2 : (("__class__" : Str) == a) = false := by simpa using fun z : ("__class__" : Str) = a => na2 z.symm
    have h3 : (("__class__" : Str) == PySem.Str.ofString "__class__") = true := by decide
    show List.lookup _ [(PySem.Str.ofString "self", NameKind.local), (a, .local), (PySem.Str.ofString "__class__", .free), (PySem.Str.ofString "super", .globalImplicit)] = _
    simp only [List.lookup_cons, h1, h2, h3]
  have hfd : ∀ L, (callEnv (ksFn "__init__" qual (eA a p1 p2) (eB e a f q0 q1 q2 q3 q4 q5 q6 q7 q8) (eS a) .none .none doc pm an (.ref cda) ct cc) L fI) = ksEnv qual (eS a) L fI (.ref cda) cc := fun _ => rfl
  refine ks_codeAny_call_defAt (fd := ksFn "__init__" qual (eA a p1 p2) (eB e a f q0 q1 q2 q3 q4 q5 q6 q7 q8) (eS a) .none .none doc pm an (.ref cda) ct cc) (body := eB e a f q0 q1 q2 q3 q4 q5 q6 q7 q8) (binds := [("self", .ref x), (a, v)]) hroom (X _ _ ho) rfl hlim (codeRec_of X hcd) rfl ?_ ?_ ?_ (fun h₁ hns k => ?_) rfl rfl rfl
  · exact T.bnd _ _ _ _ _ _ _ _ _ _ _ _ _
  · intro y hy
    have hy : y ∈ [(PySem.Str.ofString "self", NameKind.local), (a, .local), (PySem.Str.ofString "__class__", .free), (PySem.Str.ofString "super", .globalImplicit)] := hy
    simp only [List.mem_cons, List.not_mem_nil, or_false] at hy
    rcases hy with rfl | rfl | rfl | rfl <;> simp
  · intro y hy
    simp only [List.mem_cons, List.not_mem_nil, or_false] at hy
    rcases hy with rfl | rfl
    · rfl
    · exact lka
  have X₁ : K.In h₁ := X.keeps k
  have hx₁ := k _ _ hx
  have hC₁ := X₁ _ _ hC
  have lself : List.lookup ("self" : Str) ([(("self" : Str), Value.ref x), (a, v)].reverse) = some (.ref x) := by
    show List.lookup ("self" : Str) [(a, v), (("self" : Str), Value.ref x)] = _
    rw [List.lookup_cons, nself]; rfl
  have larg : List.lookup a ([(("self" : Str), Value.ref x), (a, v)].reverse) = some v := by
    show List.lookup a [(a, v), (("self" : Str), Value.ref x)] = _
    rw [List.lookup_cons]; simp
  have hxC : x ≠ C := fun z => by
    have := X₁ _ _ hC
    rw [← z, hx₁] at this
    cases this
  show wpAt (model prog w) _ _ (execs (eB e a f q0 q1 q2 q3 q4 q5 q6 q7 q8) (ksEnv qual (eS a) s.heap.objs.size fI (.ref cda) cc)) _ _ _
  refine ks_wpAt_execs_cons (ks_wpAt_Expr_any (ks_wpAt_MethodCall ?_ (hplain _)) rfl rfl)
  refine ks_wpAt_super_base (env := ksEnv qual (eS a) s.heap.objs.size fI (.ref cda) cc) lks lkc (by decide) rfl (X₁ _ _ ho) rfl rfl rfl (X₁ _ _ hcda) rfl hvs hfile T.psup ?_
  refine ks_loadName_global rfl lks (loadGlobal_builtin (env := ksEnv qual (eS a) s.heap.objs.size fI (.ref cda) cc) (mg := mg) (mb := mb) (Gg.keeps k) (PySem.W.mg_none_of X Gg T.sup) (Gb.keeps k) hbs ⟨rfl, ?_⟩)
  refine wpAny_loadName_free rfl lkc rfl ⟨_, X₁ _ _ hcell, rfl⟩ ?_
  refine wpAny_loadName_local rfl rfl hns lself ?_
  refine ks_wpAny_isType_cls hC₁ rfl ⟨rfl, ?_⟩
  refine ks_wpAny_call_super hC₁ rfl hx₁ rfl (fun c z => by cases z) (looks_mroIn X₁ T.meC) (fun h₂ hso k₂ => ?_)
  have X₂ : K.In h₂ := X₁.keeps k₂
  have hx₂ := k₂ _ _ hx₁
  have hns₂ := hns.keeps k₂
  have hTx : Looks (model prog w) h₂ (typeOf (.ref x)) (.ref C) := fun A Q E s k q => wpAny_typeOf_ref (k _ _ hx₂) q
  refine kxs_getMethod (K := K) (l := bm) kxs_ValueError hso (looks_opaque X₂ T.opq) (l₀ := .ref C :: bm) (fun A Q E s k q => wpAny_bind ((looks_clsIn X₂ hcl) A _ E s k (wpAny_pure q))) bcls X₂ hal (hTx.andThen (looks_subIn X₂ T.veC)) hxC (by decide) ?_
  have hst : starEach (e :: []) (ksEnv qual (eS a) s.heap.objs.size fI (.ref cda) cc) = (false, eval e (ksEnv qual (eS a) s.heap.objs.size fI (.ref cda) cc)) :: starEach [] (ksEnv qual (eS a) s.heap.objs.size fI (.ref cda) cc) := by
    rcases T.okE with ⟨_, h⟩ | ⟨_, _, _, h⟩ <;> rw [h] <;> rfl
  rw [hst]
  refine kxs_callWith (i := "ValueError.__init__") (x := x) rfl (evalArgs_plain ?_)
  have hev : ∀ {E : Value → Shared → Prop} {s' : Shared} {Q : Value → Shared → Prop}, s'.heap.Ns s.heap.objs.size (fun y => [(("self" : Str), Value.ref x), (a, v)].reverse.lookup y) → (∀ u tk, Q u { s' with toks := tk }) → wpAny (model prog w) (A.deeper (ksEnv qual (eS a) s.heap.objs.size fI (.ref cda) cc)) (eval e (ksEnv qual (eS a) s.heap.objs.size fI (.ref cda) cc)) Q E s' := by
    intro E s' Q hn h
    rcases T.okE with ⟨_, he⟩ | ⟨_, _, _, he⟩
    · rw [he]
      exact ldC hn larg (h _ s'.toks) rfl lka na4
    · rw [he]
      exact Calls.Constant_str (h _ _)
  refine Calls.spliced_cons (hev (hns₂.keeps fun b o z => Heap.get?_push_of_some _ z) fun u tk => ?_)
  refine Calls.spliced_nil ⟨Heap.get?_push_at rfl rfl, ?_⟩
  have hu : (h₂.push (kxs_mw "ValueError.__init__" x)).get? h₂.objs.size = some (kxs_mw "ValueError.__init__" x) := Heap.get?_push_at rfl rfl
  have up₃ : ∀ b o, h₂.get? b = some o → (h₂.push (kxs_mw "ValueError.__init__" x)).get? b = some o := fun b o z => Heap.get?_push_of_some _ z
  have hC₃ := up₃ _ _ (k₂ _ _ hC₁)
  have hx₃ := up₃ _ _ hx₂
  -- the call of the bound __init__
  refine wpAny_call (codeAny_of_tree ?_)
  show wpAny _ _ (callAny (.ref h₂.objs.size) ⟨[u], []⟩) _ _ _
  simp only [callAny]
  refine wpAny_bind (wpAny_load hu ?_)
  simp only [kxs_mw, show (Value.type "method-wrapper" == Value.type "method" || Value.type "method-wrapper" == Value.type "builtin_function_or_method" || Value.type "method-wrapper" == Value.type "method-wrapper") = true by decide, if_true]
  refine KFB.if_so (by decide) ?_
  refine wpAny_bind (check_bound_init F.excBase_ValueError.toExcCallFacts hC₃ hx₃ rfl ?_)
  refine wpAny_bind (wpAny_pure (wpAny_pure ?_))
  refine ⟨plainId_quiet F.excBase_ValueError.init.plain _, codeAny_builtin F.excBase_ValueError.initEntry ?_⟩
  refine exc_init_tree (cls := .ref C) (t0 := t0) (dv := none) (c2 := .none) (c3 := .none) (b4 := .bool false) hx₃ (one_size u) fun h₄ k₄ hx₄ _ => ?_
  have all : ∀ b o, b ≠ x → s.heap.get? b = some o → h₄.get? b = some o := fun b o hb z => k₄ b o hb (up₃ b o (k₂ b o (k b o z)))
  have X₄ : K.In h₄ := fun b o z => all b o (fun y => by rw [y, hnx] at z; cases z) (X b o z)
  have hxL : s.heap.objs.size ≠ x := Nat.ne_of_gt (Heap.lt_size hx)
  have hns₄ : h₄.Ns s.heap.objs.size (fun y => [(("self" : Str), Value.ref x), (a, v)].reverse.lookup y) := by
    obtain ⟨oL, es, ep, hL, r⟩ := hns
    exact ⟨oL, es, ep, k₄ _ _ hxL (up₃ _ _ (k₂ _ _ hL)), r⟩
  show wpAt _ _ _ (execs _ _) _ _ _
  refine wpAt_of_wpAny (wpAny_execs_cons (plainObj_wpAny_Assign_Attribute ?_))
  refine ldC (v := v) hns₄ larg (ldC (v := .ref x) hns₄ lself ?_ rfl rfl (by decide)) rfl lka na4
  refine set_plain X₄ (ox := excO C _) (od := none) ⟨hx₄, rfl, rfl, trivial⟩ T.sa ?_
  refine exc_osa X₄ hx₄ hcl (show refsVE (.ref C :: bm) = true from hbm) rfl T.noN (fun h₅ tk₅ dx k₅ dn dne hx₅ hn₅ => ?_)
  show wpAny _ _ (execs _ _) _ _ _
  refine wpAny_execs_nil (hq h₅ tk₅ dx ⟨fun b o hb z => k₅ b o hb (all b o hb z), ⟨_, hx₅⟩, ?_, dne, hn₅⟩)
  have z0 : h₂.objs.size ≠ x := Nat.ne_of_gt (Heap.lt_size hx₂)
  have z1 := Heap.lt_size (k₄ _ _ z0 hu)
  have z2 : s.heap.objs.size < h₂.objs.size := (hns.keeps k₂).lt
  have z3 : h₄.objs.size ≤ dx := dn
  show s.heap.objs.size ≤ dx
  exact Nat.le_trans (Nat.le_of_lt (Nat.lt_trans z2 z1)) z3
theorem err_made (T : ErrTxt prog K xn qual C fI a f e) {v : Value} (X : K.In s.heap) (Gg : s.heap.Ns mainGlobals mg) (Gb : s.heap.Ns builtinsNs mb) (hbs : mb "super" = some (.type "super")) (hlim : s.heap.NoLimit) (hroom : A.depth + 1 < recursionLimit)
    (hq : ∀ h' tk e' d, OwnMade s.heap h' e' C d f v → R (.ok (.ret (.ref e'))) { s with heap := h', toks := tk }) :
    codeAny (model prog w) A (.call (.ref C) ⟨[v], []⟩) R s := by
  obtain ⟨nm, q, N, bs, bm, sn, sub, ab, col, dd, k0, k1, k2, k3, k5, hC, hbm, _⟩ := T.cls
  obtain ⟨hp, g, dr, tk, os⟩ := s
  have k : ∀ b o, hp.get? b = some o → ((hp.push (kdv_tup [v])).push (excO C hp.objs.size)).get? b = some o := fun b o e => Heap.get?_push_of_some _ (Heap.get?_push_of_some _ e)
  have hget : ((hp.push (kdv_tup [v])).push (excO C hp.objs.size)).get? (hp.objs.size + 1) = some (excO C hp.objs.size) := by heap_get
  have hnx : K.lookup (hp.objs.size + 1) = none := by
    cases e : K.lookup (hp.objs.size + 1) with
    | none => rfl
    | some o =>
      have z : hp.get? (hp.objs.size + 1) = some o := X _ _ e
      exact absurd (Nat.lt_of_succ_lt (Heap.lt_size z)) (Nat.lt_irrefl _)
  refine call_own F.excBase_ValueError (fun X => refsVE_contains X bm hbm) (X _ _ hC) (looks_findIn X T.iC) (fun self => bind_fn X self T.tC) (one_size v) ?_
  refine err_init (s := ⟨(hp.push (kdv_tup [v])).push (excO C hp.objs.size), g, dr, tk, os⟩) T (X.keeps k) (Gg.keeps k) (Gb.keeps k) hbs (hlim.keeps k) hget hnx ?_ fun h' tk' dx ⟨k', ⟨t1, hx⟩, dn, dne, hns⟩ => ?_
  · show A.depth + 1 < recursionLimit
    exact hroom
  · have old : ∀ b o, hp.get? b = some o → h'.get? b = some o := fun b o e => k' b o (Nat.ne_of_lt (Nat.lt_succ_of_lt (Heap.lt_size e))) (k b o e)
    have z : hp.objs.size + 1 + 1 ≤ dx := by
      first
        | (simpa only [Heap.size_push] using dn)
        | exact dn
        | (have q := dn; rw [Heap.size_push, Heap.size_push] at q; exact q)
    exact ⟨rfl, hq h' tk' (hp.objs.size + 1) dx ⟨old, Nat.le_succ _, ⟨_, _, hx, rfl, rfl, rfl, rfl⟩, Nat.le_trans (Nat.le_trans (Nat.le_succ _) (Nat.le_succ _)) z, dne, hns⟩⟩
end
end ErrX
end PySem

namespace L2
open PySem PySem.Spec PyProof.Rows
/-! ### try with several clauses, named or not -/
def Ends.clr (D : Ends) (i : Nat) : Ends := { nx := fun σ' H' => D.nx (σ'.set i none) H', rt := D.rt, bk := fun σ' H' => D.bk (σ'.set i none) H', ct := fun σ' H' => D.ct (σ'.set i none) H' }
abbrev HdT : Type := Value × Option Nat × (Addr → Value → Option Addr → TS)
def inSuite (D : Ends) (h : HdT) (a : Addr) (cls : Value) (d : Option Addr) (σ : St) (H : Hp) : Prop := match h.2.1 with
  | none => h.2.2 a cls d D σ H
  | some i => h.2.2 a cls d (D.clr i) (σ.set i (some (.ref a))) H
def wMix (K : PySem.W.Frag) (Wout : WX) (D : Ends) : List HdT → WX
  | [] => Wout
  | h :: r => fun cls d σ H => ∃ b, PySem.W.exmOne K cls h.1 = some b ∧ (b = true → ∀ a, H a = none → inSuite D h a cls d σ H) ∧ (b = false → wMix K Wout D r cls d σ H)
inductive HdsM (X : Cx) : List ExceptHandler → List HdT → Prop
  | nil : HdsM X [] []
  | un {x : Str} {cv : Value} {tz : Addr → Value → Option Addr → TS} {b₀ : Stmt} {rest : List Stmt} {np pq : Pos} {hq : List ExceptHandler} {l : List HdT} (nmd : Names X x cv)
      (su : ∀ (a : Addr) (oe : Obj) (cls : Value) (d : Option Addr) (pn : List (Addr × Obj)), Zc cls d oe → (∃ vs, oe.data = .fields vs) → PSs (X.suite a ((a, oe) :: pn)) (b₀ :: rest) (tz a cls d)) (more : HdsM X hq l) :
      HdsM X (.ExceptHandler (some (.Name x np)) none (b₀ :: rest) pq :: hq) ((cv, none, tz) :: l)
  | nm {x n : Str} {i : Nat} {cv : Value} {tz : Addr → Value → Option Addr → TS} {b₀ : Stmt} {rest : List Stmt} {np pq : Pos} {hq : List ExceptHandler} {l : List HdT} (nmd : Names X x cv) (slotN : X.N[i]? = some n) (slotL : X.env.kindOf n = some .local)
      (su : ∀ (a : Addr) (oe : Obj) (cls : Value) (d : Option Addr) (pn : List (Addr × Obj)), Zc cls d oe → (∃ vs, oe.data = .fields vs) → PSs (X.suite a ((a, oe) :: pn)) (b₀ :: rest) (tz a cls d)) (more : HdsM X hq l) :
      HdsM X (.ExceptHandler (some (.Name x np)) (some n) (b₀ :: rest) pq :: hq) ((cv, some i, tz) :: l)
section
variable {X : Cx} {blk : List Stmt} {hd₀ : ExceptHandler} {hq : List ExceptHandler} {l : List HdT} {pos : Pos} {tb : WX → TS} {Wo : WX}
theorem ps_try_mix (hstk : X.stack = X.env :: X.outer) (hfrm : X.env.frame = some X.env.locals) (ndp : X.N.Nodup) (tk : Takes X Wo)
    (hbody : ∀ (W : WX) (pn : List (Addr × Obj)) (xe : Value → Shared → Prop), Takes (X.tr pn xe) W → PassesOwn (model X.prog X.w) X.A X.env xe → PSs (X.tr pn xe) blk (tb W))
    (hall : HdsM X (hd₀ :: hq) l) : PS X (.Try blk (hd₀ :: hq) [] [] pos) (fun D σ H => tb (wMix X.K Wo D l) D σ H) := by
  refine ⟨fun pins s σ H D I hw => ?_⟩
  have okX := I.ok
  have frm : X.A.frames = some (X.env :: X.outer) := by rw [okX.frames, hstk]
  refine wpAny_Try_except ?_
  refine wpAny_mono ((hbody (wMix X.K Wo D l) (X.pn ++ pins) (fun e s₁ => wpAny (model X.prog X.w) X.A (noteFrame e X.env) (fun _ s₂ => wpAny (model X.prog X.w) X.A (setFlight e none) (fun _ s₃ =>
    wpAny (model X.prog X.w) X.A (handleBy e X.env (hd₀ :: hq)) (SP X pins D) X.xe s₃) X.xe s₂) X.xe s₁) (fun u s' xx => ?_) PassesOwn.looking).run [] s σ H D (I.toTry _) hw) (fun f s1 fin1 => ?_) (fun e s1 he => he)
  · obtain ⟨a, B, sI, pins', σ', H', cls, d, rfl, J0, nb, upS, sky0, na, os, ag, w0⟩ := xx
    have J : Inv X pins σ' H' sI := J0.ofTry okX
    have sky1 : Sky B (X.env :: X.outer) a (Zc cls d) X.env.locals s'.heap := by rw [← hstk]; exact sky0
    show wpAny (model X.prog X.w) X.A (noteFrame (.ref a) X.env) _ _ _
    refine Sky.land Zc.steady frm hfrm sky1 fun h3 fl3 up3 => ?_
    have J3 : Inv X pins σ' H' { s' with heap := h3 } := J.landed nb fl3.1 (upS.trans up3) os ag
    obtain ⟨oe3, vs3, he3, hz3, hd3⟩ := fl3.there
    have nfr : a ∉ frs (X.env :: X.outer) := fun hm => by
      obtain ⟨_, o', e', hnf⟩ := fl3.2.2.1.mem hm
      rw [he3] at e'; cases e'
      exact hnf _ hd3
    have nL : a ≠ X.env.locals := fun z => nfr (List.mem_filterMap.mpr ⟨X.env, List.mem_cons_self, by rw [hfrm, z]⟩)
    have nF : a ∉ X.fs := fun hm => by
      obtain ⟨e, he, q⟩ := List.mem_filterMap.mp hm
      exact nfr (List.mem_filterMap.mpr ⟨e, List.mem_cons_of_mem _ he, q⟩)
    have S3 := J3.suite he3 hd3 na nL nF
    have LT : PySem.W.Looks (model X.prog X.w) h3 (typeOf (.ref a)) cls := fun A Q E s k q => wpAny_typeOf_ref (k _ _ he3) (by rw [hz3.1]; exact q)
    have look : ∀ {x : Str} {cv : Value} {np : Pos} {Q : Value → Shared → Prop} {E : Value → Shared → Prop}, Names X x cv → Q cv { s' with heap := h3 } → wpAny (model X.prog X.w) (X.A.mark (some (.ref a))) (eval (.Name x np) X.env) Q E { s' with heap := h3 } := fun {x cv np Q E} hc q => by
      obtain ⟨hg, hdbg, hm | ⟨hm, hv, hnn⟩⟩ := hc
      · exact ld_glob (X := X.suite a ((a, oe3) :: (X.pn ++ pins))) S3 hg hm q hdbg
      · exact ld_blt (X := X.suite a ((a, oe3) :: (X.pn ++ pins))) S3 hg hm hv q hnn hdbg
    have walk : ∀ {hk : List ExceptHandler} {lk : List HdT}, HdsM X hk lk → wMix X.K Wo D lk cls d σ' H' → wpAny (model X.prog X.w) X.A (handleBy (.ref a) X.env hk) (SP X pins D) X.xe { s' with heap := h3 } := by
      intro hk lk hm
      induction hm with
      | nil =>
        intro w
        refine wpAny_handleBy_nil ?_
        obtain ⟨_, _, _, oe, vs, T, oT, ts', he, hz, hdd, h1, hr⟩ := id fl3
        unfold PySem.passOn
        refine wpAny_bind (wpAny_field he hdd h1 ?_)
        rw [if_neg (show ¬ ((Value.ref T == Value.none) = true) from by simp)]
        have on : wpAny (model X.prog X.w) X.A (setFlight (.ref a) X.env.frame) (fun _ s4 => wpAny (model X.prog X.w) X.A (throw (.ref a) : Sem Flow) (SP X pins D) X.xe s4) X.xe { s' with heap := h3 } := by
          rw [hfrm]
          refine HandSPX.setFlight_upZ fl3 fun h4 hh4 up4 => wpAny_throw (tk _ _ ?_)
          exact ⟨a, B, sI, pins, σ', H', cls, d, rfl, J, nb, (upS.trans up3).trans up4, .inr (.inr (by rw [hstk]; exact hh4)), na, os, ag, w⟩
        first
          | exact wpAny_bind (wpAny_pure (wpAny_bind on))
          | exact wpAny_bind on
      | @un x cv tz b₀ rest np pq hq2 l2 nmd su more ih =>
        intro w
        obtain ⟨b, hb1, yes, no⟩ := w
        refine wpAny_handleBy_cons (codeAny_handlers_test ?_) (by intro q; cases q)
        have LM := PySem.W.exm_one (M := model X.prog X.w) (J3.kIn) LT hb1
        refine look nmd (LM.here ?_)
        cases b with
        | true =>
          refine codeAny_handlers_suite ?_
          refine HandSPX.lands_againZ fl3 fun h4 fl4 up4 => ?_
          have J4 : Inv X pins σ' H' { s' with heap := h4 } := J.landed nb fl4.1 ((upS.trans up3).trans up4) os ag
          obtain ⟨oe4, vs4, he4, hz4, hd4⟩ := fl4.there
          have S4 := J4.suite he4 hd4 na nL nF
          refine wpAny_mono ((su a oe4 cls d (X.pn ++ pins) hz4 ⟨_, hd4⟩).run [] _ _ H' _ S4 (yes rfl a na)) (fun f s6 q => ?_) (fun _ _ z => False.elim z)
          cases f with
          | next =>
            obtain ⟨σ6, H6, S6, q6⟩ := q
            exact ⟨_, _, S6.unsuite okX, q6⟩
          | brk =>
            obtain ⟨σ6, H6, S6, q6⟩ := q
            exact ⟨_, _, S6.unsuite okX, q6⟩
          | cont =>
            obtain ⟨σ6, H6, S6, q6⟩ := q
            exact ⟨_, _, S6.unsuite okX, q6⟩
          | ret u =>
            obtain ⟨v6, σ6, H6, S6, r6, q6⟩ := q
            exact ⟨_, _, _, S6.unsuite okX, r6, q6⟩
        | false =>
          show wpAny _ X.A (handleBy (.ref a) X.env hq2) _ _ _
          exact ih (no rfl)
      | @nm x n i cv tz b₀ rest np pq hq2 l2 nmd slotN slotL su more ih =>
        intro w
        obtain ⟨b, hb1, yes, no⟩ := w
        refine wpAny_handleBy_cons (codeAny_handlers_test ?_) (by intro q; cases q)
        have LM := PySem.W.exm_one (M := model X.prog X.w) (J3.kIn) LT hb1
        refine look nmd (LM.here ?_)
        cases b with
        | true =>
          refine codeAny_handlers_suite_as ?_
          refine HandSPX.lands_againZ fl3 fun h4 fl4 up4 => ?_
          have J4 : Inv X pins σ' H' { s' with heap := h4 } := J.landed nb fl4.1 ((upS.trans up3).trans up4) os ag
          obtain ⟨oe4, vs4, he4, hz4, hd4⟩ := fl4.there
          have S4 := J4.suite he4 hd4 na nL nF
          have lcl : Loc X.env.scope n := .inl slotL
          refine store_ok (X := X.suite a ((a, oe4) :: (X.pn ++ pins))) (v := .ref a) S4 ndp slotN lcl rfl (fun s5 S5 => ?_) (.inr slotL)
          refine wpAny_mono ((su a oe4 cls d (X.pn ++ pins) hz4 ⟨_, hd4⟩).run [] s5 _ H' _ S5 (yes rfl a na)) (fun f s6 q => ?_) (fun _ _ z => False.elim z)
          have close : ∀ {σ6 : St} {H6 : Hp} {Q : Shared → Prop}, Inv (X.suite a ((a, oe4) :: (X.pn ++ pins))) [] σ6 H6 s6 → (∀ s7, Inv X pins (σ6.set i none) H6 s7 → Q s7) →
              wpAny (model X.prog X.w) X.A (do bindName X.env n .none; unbindBehindTheSuite X.env n pq) (fun _ s7 => Q s7) X.xe s6 := fun {σ6 H6 Q} S6 hq => gone_ok (S6.unsuite okX) ndp slotN slotL hq
          cases f with
          | next =>
            obtain ⟨σ6, H6, S6, q6⟩ := q
            exact close S6 fun s7 J7 => ⟨_, _, J7, q6⟩
          | brk =>
            obtain ⟨σ6, H6, S6, q6⟩ := q
            exact close S6 fun s7 J7 => ⟨_, _, J7, q6⟩
          | cont =>
            obtain ⟨σ6, H6, S6, q6⟩ := q
            exact close S6 fun s7 J7 => ⟨_, _, J7, q6⟩
          | ret u =>
            obtain ⟨v6, σ6, H6, S6, r6, q6⟩ := q
            exact close S6 fun s7 J7 => ⟨_, _, _, J7, r6, q6⟩
        | false =>
          show wpAny _ X.A (handleBy (.ref a) X.env hq2) _ _ _
          exact ih (no rfl)
    exact walk hall w0
  · cases f with
    | next =>
      obtain ⟨σ', H', Jn, q⟩ := fin1
      exact wpAny_execs_nil ⟨σ', H', Jn.ofTry okX, q⟩
    | brk =>
      obtain ⟨σ', H', Jn, q⟩ := fin1
      exact ⟨σ', H', Jn.ofTry okX, q⟩
    | cont =>
      obtain ⟨σ', H', Jn, q⟩ := fin1
      exact ⟨σ', H', Jn.ofTry okX, q⟩
    | ret u =>
      obtain ⟨v, σ', H', Jn, r, q⟩ := fin1
      exact ⟨v, σ', H', Jn.ofTry okX, r, q⟩
end
/-! ### an own error made -/
def tMkErr (C : Addr) (f : Str) (ta : TA) : St → Hp → XK → Prop := fun σ H Q => ta σ H fun vs H1 => ∃ v, vs = [v] ∧ ∀ d, H1 d = none → Q (.ref C) (some d) (upd H1 d (.xd [(f, v)]))
theorem relO_one {f : Str} {v : V} {v' : Value} (r : RelV v v') (y : Str) : RelO (List.lookup y [(f, v)]) (if y = f then some v' else none) := by
  by_cases hw : y = f
  · subst hw
    rw [if_pos rfl]
    have q : List.lookup y [(y, v)] = some v := by simp [List.lookup]
    rw [q]
    exact r
  · rw [if_neg hw]
    have qw : (y == f) = false := by simpa using hw
    have q2 : List.lookup y [(f, v)] = none := by simp [List.lookup, qw]
    rw [q2]
    trivial
section
variable {X : Cx} {C fI : Addr} {x qual a f : Str} {e' : Expr}
theorem pmk_err {e : Expr} {ta : TA} {p pos : Pos} {k : Nat} (T : PySem.ErrX.ErrTxt X.prog X.K x qual C fI a f e') (gC : X.mg x = some (.ref C)) (gs : X.mg "super" = none) (hr : Room k X.A) (ha : PA X [e] ta) (hg : Gl X x) (hdb : (x == ("__debug__" : Str)) = false := by decide)
    (he : starEach (e :: []) X.env = (false, eval e X.env) :: starEach [] X.env := by rfl) (hpl : (backTo pos (starEach [] X.env)).any (·.1) = false := by rfl) :
    PMk X (.Call (.Name x p) [e] [] pos) (tMkErr C f ta) := by
  intro pins s σ H Q I h
  refine wpAny_Call_Name_kw (ld_glob I hg gC ?_ hdb)
  refine PySem.W.callWith_K (h₀ := X.base) I.ok.mod.kin T.kC (thn (ha.run pos pins s σ H _ I h) fun us s1 hh => ?_) he hpl
  obtain ⟨vs, H1, I1, r1, v, ev, q1⟩ := hh
  subst ev
  refine ⟨I1.kIn, ?_⟩
  cases r1 with
  | cons rv rn =>
    rename_i v' us'
    cases rn
    show wpAny _ _ (call (.ref C) [v']) _ _ _
    have hlim := I1.nolimit
    obtain ⟨mb, b1, b2⟩ := I1.mod.blt
    have hbs : mb "super" = some (.type "super") := (b2 "super" (by decide)).trans PyProof.Rows.Boot.«super»
    have gG : s1.heap.Ns mainGlobals X.mg := I1.mod.glob.keeps I1.bk
    have gB : s1.heap.Ns builtinsNs mb := b1.keeps I1.bk
    obtain ⟨hp, g, dr, tk, os⟩ := s1
    refine wpAny_call (PySem.ErrX.err_made T I1.kIn gG gB hbs hlim (by have := hr.dp; omega) fun h' tk' e d M => ?_)
    show MkP X pins σ Q (.ref e) ⟨h', g, dr, tk', os⟩
    obtain ⟨oe, fv, hoe, hc, hd, hdat, h1⟩ := M.obj
    have hns := M.ns
    obtain ⟨G', g1, g2⟩ := restrict h' fun b => decide (b ≠ e)
    have gk : ∀ b, b ≠ e → G'.get? b = h'.get? b := fun b hb => g1 b (decide_eq_true hb)
    have ge : G'.get? e = none := g2 e (by simp)
    have old : ∀ b o, hp.get? b = some o → G'.get? b = some o := fun b o q => (gk b (Nat.ne_of_lt (Nat.lt_of_lt_of_le (Heap.lt_size q) M.new))).trans (M.keep b o q)
    have ob : ObjOk X.prog X.w (upd H1 d (.xd [(f, v)])) G' d (.xd [(f, v)]) :=
      ⟨_, hns.at (fun o q => (gk d M.dne).trans q), fun y => relO_one rv y⟩
    have J : Inv X pins σ (upd H1 d (.xd [(f, v)])) ⟨G', g, dr, tk', os⟩ := I1.laid (t' := tk') old M.dbig ob
    refine ⟨e, oe, fv, ⟨G', g, dr, tk', os⟩, _, .ref C, some d, rfl, J, fun b o q => ?_, ge, hoe, ⟨hc, hd⟩, hdat, h1, ?_, rfl, I1.bare, raises_own T.exC T.tyC, q1 d (I1.hok.fresh M.dbig)⟩
    · by_cases hb : b = e
      · have q' : G'.get? b = some o := q
        rw [hb, ge] at q'; cases q'
      · exact (gk b hb).symm.trans q
    · rw [upd_ne (Ne.symm M.dne)]
      exact I1.hok.fresh M.new
end
end L2

namespace DL
open PySem PySem.Spec PyProof.Rows L2
/-! ### raise -/
@[simp] def sRaise0 (c : Str) : DS := fun st => .exn c [] st
@[simp] def sRaise1 (c f : Str) (h : Den D) : DS := bindD h fun d => fun st => .exn c [(f, d)] st
section
variable {X : Cx} {g : G} {W : WX} {P : Par} {σ : L2.St} {H F : Hp} {st : DSt} {e : Expr} {s : Stmt} {ss : List Stmt} {f h : Den D} {t : Den Bool} {a b : DS}
theorem es_raise0 {c : Str} {C : Addr} {pos : Pos} (gC : g.mg c = some (.ref C)) (tk : Takes X W) (he : PMk X e (fun _ H Q => Q (.ref C) none H)) (hc : X.calm = true := by rfl) : PS X (.Raise (some e) none pos) (tS g W (sRaise0 c)) :=
  (ps_raise hc tk he).imp fun D σ H ⟨P, F, st, s, o⟩ => o (.ref C) none σ H F (Same.refl _) s ⟨C, gC, rfl, .inl ⟨rfl, rfl⟩⟩
theorem es_raise1 {c nm : Str} {C : Addr} {pos : Pos} (gC : g.mg c = some (.ref C)) (tk : Takes X W) (he : PMk X e (tMkErr C nm (tCons (tE g W f) tNil))) (hc : X.calm = true := by rfl) : PS X (.Raise (some e) none pos) (tS g W (sRaise1 c nm f)) :=
  (ps_raise hc tk he).imp fun D σ H ⟨P, F, st, s, o⟩ => by
    refine ⟨P, F, st, s, o.bind.imp fun x st1 H1 F1 le1 s1 o1 v rx => ⟨v, rfl, fun d hd => ?_⟩⟩
    have gr : Grow H1 F1 (upd H1 d (.xd [(nm, v)])) (upd F1 d (.xd [(nm, v)])) := Grow.new s1.le hd
    exact o1 (.ref C) (some d) σ _ _ gr.f (s1.grow gr) ⟨C, gC, rfl, .inr ⟨d, nm, v, x, rfl, rfl, upd_same, rx.mono gr.f⟩⟩
end
/-! ### try -/
def G.at (g : G) (a : Addr) (cls : Value) (d : Option Addr) : G := ⟨g.K, g.mg, some (a, cls, d), g.tk⟩
section
variable {g g' : G} {F : Hp}
mutual
theorem Rv.chg (hK : g'.K = g.K) (hm : g'.mg = g.mg) (ht : g'.tk = g.tk) : ∀ {v : V} {d : D}, Rv g F v d → Rv g' F v d
  | _, _, .non => .non
  | _, _, .bl b => .bl b
  | _, _, .int i => .int i
  | _, _, .str x => .str x
  | _, _, .lst h r => .lst h (Rl.chg hK hm ht r)
  | _, _, .tup h k r => .tup (by rw [hK]; exact h) (by unfold TkP at k ⊢; rw [hK, ht]; exact k) (Rl.chg hK hm ht r)
  | _, _, .ins h m l r => .ins h (by rw [hm]; exact m) l (Rl.chg hK hm ht r)
  | _, _, .scr h => .scr (by rw [hK]; exact h)
theorem Rl.chg (hK : g'.K = g.K) (hm : g'.mg = g.mg) (ht : g'.tk = g.tk) : ∀ {vs : List V} {ds : List D}, Rl g F vs ds → Rl g' F vs ds
  | _, _, .nil => .nil
  | _, _, .cons r t => .cons (Rv.chg hK hm ht r) (Rl.chg hK hm ht t)
end
def isXc : Slot → Bool
  | .xc _ _ _ => true
  | _ => false
def noXc (st : DSt) : Bool := st.all fun s => !isXc s
theorem SlotOk.chg (hK : g'.K = g.K) (hm : g'.mg = g.mg) (ht : g'.tk = g.tk) {P : Par} {O : Addr → Option Nat} {H : Hp} {i : Nat} {s : Slot} {ov : Option V} (hx : isXc s = false) (h : SlotOk g P O F H i s ov) : SlotOk g' P O F H i s ov := by
  cases s with
  | no => trivial
  | sh d => obtain ⟨v, e, r⟩ := h; exact ⟨v, e, r.chg hK hm ht⟩
  | ow ds => obtain ⟨a, vs, e, o, n, h1, r⟩ := h; exact ⟨a, vs, e, o, n, h1, r.chg hK hm ht⟩
  | rf k ds => obtain ⟨a, vs, e, b, o, h1, r⟩ := h; exact ⟨a, vs, e, b, o, h1, r.chg hK hm ht⟩
  | dk kvs => obtain ⟨a, vs, e, o, n, h1, r⟩ := h; exact ⟨a, vs, e, o, n, h1, r.chg hK hm ht⟩
  | dt kvs => obtain ⟨a, vs, e, o, n, h1, r⟩ := h; exact ⟨a, vs, e, o, n, h1, r.chg hK hm ht⟩
  | lk kvs => obtain ⟨a, od, vs, e, h1, r⟩ := h; exact ⟨a, od, vs, e, h1, r.chg hK hm ht⟩
  | lt kvs => obtain ⟨a, od, vs, e, h1, r⟩ := h; exact ⟨a, od, vs, e, h1, r.chg hK hm ht⟩
  | oi k c ns ds => obtain ⟨a, C, dx, vs, e, b, o, m, l, h1, r⟩ := h; exact ⟨a, C, dx, vs, e, b, o, by rw [hm]; exact m, l, h1, r.chg hK hm ht⟩
  | o2 dss =>
    obtain ⟨a, bs, e, o, n, h1, nd, na, l, r⟩ := h
    refine ⟨a, bs, e, o, n, h1, nd, na, l, fun j b ds e1 e2 => ?_⟩
    obtain ⟨o', n', vs, h2, r2⟩ := r j b ds e1 e2
    exact ⟨o', n', vs, h2, r2.chg hK hm ht⟩
  | xc c nm x => cases hx
theorem SR.chg (hK : g'.K = g.K) (hm : g'.mg = g.mg) (ht : g'.tk = g.tk) {P : Par} {σ : L2.St} {H : Hp} {st : DSt} (hx : noXc st = true) (s : SR g P σ H F st) : SR g' P σ H F st := by
  obtain ⟨O, c⟩ := s
  refine ⟨O, c.le, c.rr, c.oo, c.no, c.len, fun i sl ov e1 e2 => (c.sl i sl ov e1 e2).chg hK hm ht ?_⟩
  have := List.all_eq_true.mp hx sl (List.mem_of_getElem? e1)
  simpa using this
end
structure HdD where
  x : Str
  i : Option Nat
  den : DS
def mtB : List (Str × Str × Bool) → Str → Str → Option Bool
  | [], _, _ => none
  | (c, x, b) :: r, c', x' => if c = c' ∧ x = x' then some b else mtB r c' x'
def MtOk (g : G) (mt : List (Str × Str × Bool)) : Prop := ∀ q ∈ mt, ∀ C V, g.mg q.1 = some (.ref C) → g.mg q.2.1 = some (.ref V) → PySem.W.exmOne g.K (.ref C) (.ref V) = some q.2.2
theorem mtB_mem : ∀ {mt : List (Str × Str × Bool)} {c x : Str} {b : Bool}, mtB mt c x = some b → (c, x, b) ∈ mt
  | (c', x', b') :: r, c, x, b, h => by
    unfold mtB at h
    split at h
    · rename_i e
      obtain ⟨rfl, rfl⟩ := e
      cases h
      exact List.mem_cons_self
    · exact List.mem_cons_of_mem _ (mtB_mem h)
  | [], _, _, _, h => by cases h
def xcSlot (c : Str) (fs : List (Str × D)) : Slot := match fs with
  | [(nm, x)] => .xc c nm x
  | _ => .no
/-- the suite of a named clause: the name is gone behind it -/
def clrS (i : Nat) (den : DS) : DS := fun st => match den st with
  | .ok .nx st' => if noXc (st'.set i .no) then .ok .nx (st'.set i .no) else .stuck
  | .ok .brk st' => if noXc (st'.set i .no) then .ok .brk (st'.set i .no) else .stuck
  | .ok .cnt st' => if noXc (st'.set i .no) then .ok .cnt (st'.set i .no) else .stuck
  | .ok (.ret d) st' => if noXc (st'.set i .no) then .ok (.ret d) (st'.set i .no) else .stuck
  | _ => .stuck
def runH (mt : List (Str × Str × Bool)) (c : Str) (fs : List (Str × D)) : List HdD → DS
  | [] => fun st => .exn c fs st
  | hd :: r => fun st => match mtB mt c hd.x with
    | some true => (match hd.i with
      | none => noX hd.den st
      | some i => if noXc st ∧ i < st.length then clrS i hd.den (st.set i (xcSlot c fs)) else .stuck)
    | some false => runH mt c fs r st
    | none => .stuck
def sTry (mt : List (Str × Str × Bool)) (body : DS) (hs : List HdD) : DS := fun st => match body st with
  | .exn c fs st' => runH mt c fs hs st'
  | r => r
inductive HdsD (X : Cx) (g : G) : List ExceptHandler → List HdD → Prop
  | nil : HdsD X g [] []
  | un {x : Str} {V : Addr} {b₀ : Stmt} {rest : List Stmt} {np pq : Pos} {hq : List ExceptHandler} {den : DS} {l : List HdD} (gV : g.mg x = some (.ref V)) (nmd : Names X x (.ref V))
      (su : ∀ (a : Addr) (oe : Obj) (cls : Value) (d : Option Addr) (pn : List (Addr × Obj)), Zc cls d oe → (∃ vs, oe.data = .fields vs) → PSs (X.suite a ((a, oe) :: pn)) (b₀ :: rest) (tS g WN den)) (more : HdsD X g hq l) :
      HdsD X g (.ExceptHandler (some (.Name x np)) none (b₀ :: rest) pq :: hq) (⟨x, none, den⟩ :: l)
  | nm {x n : Str} {i : Nat} {V : Addr} {b₀ : Stmt} {rest : List Stmt} {np pq : Pos} {hq : List ExceptHandler} {den : DS} {l : List HdD} (gV : g.mg x = some (.ref V)) (nmd : Names X x (.ref V)) (slotN : X.N[i]? = some n) (slotL : X.env.kindOf n = some .local)
      (su : ∀ (a : Addr) (oe : Obj) (cls : Value) (d : Option Addr) (pn : List (Addr × Obj)), Zc cls d oe → (∃ vs, oe.data = .fields vs) → PSs (X.suite a ((a, oe) :: pn)) (b₀ :: rest) (tS (g.at a cls d) WN den)) (more : HdsD X g hq l) :
      HdsD X g (.ExceptHandler (some (.Name x np)) (some n) (b₀ :: rest) pq :: hq) (⟨x, some i, den⟩ :: l)
section
variable {X : Cx} {g : G} {W : WX} {P : Par} {σ : L2.St} {H F : Hp} {st : DSt} {e : Expr} {s : Stmt} {ss : List Stmt} {f h : Den D} {t : Den Bool} {a b : DS}
/-- the clauses as the library has them -/
def hdT (g : G) (vs : List Addr) : List HdD → List HdT
  | [] => []
  | ⟨x, none, den⟩ :: r => match vs with
    | v :: vs => (.ref v, none, fun _ _ _ => tS g WN den) :: hdT g vs r
    | [] => []
  | ⟨x, some i, den⟩ :: r => match vs with
    | v :: vs => (.ref v, some i, fun a cls d => tS (g.at a cls d) WN den) :: hdT g vs r
    | [] => []
theorem HdsD.m {hq : List ExceptHandler} {l : List HdD} (h : HdsD X g hq l) : ∃ vs, HdsM X hq (hdT g vs l) ∧ vs.length = l.length ∧ ∀ (k : Nat) (hd : HdD) (v : Addr), l[k]? = some hd → vs[k]? = some v → g.mg hd.x = some (.ref v) := by
  induction h with
  | nil => exact ⟨[], .nil, rfl, fun k hd v e => by cases e⟩
  | @un x V b₀ rest np pq hq den l gV nmd su more ih =>
    obtain ⟨vs, i1, i2, i3⟩ := ih
    refine ⟨V :: vs, .un nmd su i1, by simp [i2], fun k hd v e1 e2 => ?_⟩
    cases k with
    | zero => simp at e1 e2; subst e1; subst e2; exact gV
    | succ k => exact i3 k hd v (by simpa using e1) (by simpa using e2)
  | @nm x n i V b₀ rest np pq hq den l gV nmd slotN slotL su more ih =>
    obtain ⟨vs, i1, i2, i3⟩ := ih
    refine ⟨V :: vs, .nm nmd slotN slotL su i1, by simp [i2], fun k hd v e1 e2 => ?_⟩
    cases k with
    | zero => simp at e1 e2; subst e1; subst e2; exact gV
    | succ k => exact i3 k hd v (by simpa using e1) (by simpa using e2)
theorem SR.wiped {i : Nat} (s : SR g P σ H F st) : SR g P (σ.set i none) H F (st.set i .no) := by
  obtain ⟨O, c⟩ := s
  refine ⟨fun b => if O b = some i then none else O b, c.le, c.rr, fun b j e => ?_, c.no, by rw [List.length_set, List.length_set]; exact c.len, fun j s ov e1 e2 => ?_⟩
  · by_cases hb : O b = some i
    · simp [hb] at e
    · simp only [if_neg hb] at e; exact c.oo b j e
  · by_cases hj : j = i
    · subst hj
      by_cases hl : j < st.length
      · rw [List.getElem?_set_self hl] at e1
        cases e1
        trivial
      · rw [List.getElem?_eq_none (by rw [List.length_set]; omega)] at e1; cases e1
    · rw [List.getElem?_set_ne (Ne.symm hj)] at e1 e2
      exact (c.sl j s ov e1 e2).move rfl (fun b o => by
        show (if O b = some i then none else O b) = some j
        rw [if_neg (by rw [o]; intro z; exact hj (Option.some.inj z))]; exact o) (Same.refl _) (fun _ _ _ h => h) fun _ _ h => h
/-- a slot takes the exception -/
theorem SR.putx {i : Nat} {c : Str} {fs : List (Str × D)} {cls : Value} {dd : Option Addr} {a : Addr} (s : SR g P σ H F st) (hx : noXc st = true) (hi : i < st.length) (rx : RepX g F H c fs cls dd) :
    SR (g.at a cls dd) P (σ.set i (some (.ref a))) H F (st.set i (xcSlot c fs)) := by
  have s := SR.chg (g := g) (g' := g.at a cls dd) rfl rfl rfl hx s
  obtain ⟨O, q⟩ := s
  obtain ⟨C, hm, hcls, hd⟩ := rx
  refine ⟨fun b => if O b = some i then none else O b, q.le, q.rr, fun b j e => ?_, q.no, by rw [List.length_set, List.length_set]; exact q.len, fun j s ov e1 e2 => ?_⟩
  · by_cases hb : O b = some i
    · simp [hb] at e
    · simp only [if_neg hb] at e; exact q.oo b j e
  · by_cases hj : j = i
    · subst hj
      rw [List.getElem?_set_self hi] at e1
      rw [List.getElem?_set_self (by rw [q.len]; exact hi)] at e2
      cases e1; cases e2
      rcases hd with ⟨rfl, rfl⟩ | ⟨d, nm, v, x, rfl, rfl, hF, r⟩
      · trivial
      · exact ⟨a, C, d, v, by rw [hcls]; rfl, hm, rfl, hF, Rv.chg (g := g) (g' := g.at a cls (some d)) rfl rfl rfl r⟩
    · rw [List.getElem?_set_ne (Ne.symm hj)] at e1 e2
      exact (q.sl j s ov e1 e2).move rfl (fun b o => by
        show (if O b = some i then none else O b) = some j
        rw [if_neg (by rw [o]; intro z; exact hj (Option.some.inj z))]; exact o) (Same.refl _) (fun _ _ _ h => h) fun _ _ h => h
theorem OutS.noX {den : DS} {D : Ends} (o : OutS g W P F (noX den st) D) : OutS g WN P F (den st) D := by
  revert o
  simp only [DL.noX]
  cases den st with
  | ok fl st' => exact fun o => o
  | exn c fs st' => exact fun o => o.elim
  | stuck => exact fun o => o
theorem OutS.clr {den : DS} {D : Ends} {i : Nat} {a : Addr} {cls : Value} {dd : Option Addr} (o : OutS g W P F (clrS i den st) D) : OutS (g.at a cls dd) WN P F (den st) (D.clr i) := by
  revert o
  unfold clrS
  have key : ∀ {σ' : L2.St} {H' F' : Hp} {st' : DSt}, noXc (st'.set i .no) = true → SR (g.at a cls dd) P σ' H' F' st' → SR g P (σ'.set i none) H' F' (st'.set i .no) := fun hx s => SR.chg (g := g.at a cls dd) (g' := g) rfl rfl rfl hx s.wiped
  cases den st with
  | ok fl st' =>
    cases fl with
    | nx =>
      simp only
      split
      · rename_i hx
        exact fun o σ' H' F' le s => o _ H' F' le (key hx s)
      · exact fun o => o.elim
    | brk =>
      simp only
      split
      · rename_i hx
        exact fun o σ' H' F' le s => o _ H' F' le (key hx s)
      · exact fun o => o.elim
    | cnt =>
      simp only
      split
      · rename_i hx
        exact fun o σ' H' F' le s => o _ H' F' le (key hx s)
      · exact fun o => o.elim
    | ret d =>
      simp only
      split
      · rename_i hx
        exact fun o σ' H' F' le s v r => o _ H' F' le (key hx s) v (Rv.chg (g := g.at a cls dd) (g' := g) rfl rfl rfl r)
      · exact fun o => o.elim
  | exn c fs st' => exact fun o => o.elim
  | stuck => exact fun o => o.elim
theorem runH_ok {mt : List (Str × Str × Bool)} (mo : MtOk g mt) {c : Str} {fs : List (Str × D)} {cls : Value} {dd : Option Addr} {D : Ends} (rx : RepX g F H c fs cls dd) (s : SR g P σ H F st) :
    ∀ {l : List HdD} {vs : List Addr}, vs.length = l.length → (∀ (k : Nat) (hd : HdD) (v : Addr), l[k]? = some hd → vs[k]? = some v → g.mg hd.x = some (.ref v)) → OutS g W P F (runH mt c fs l st) D → wMix g.K W D (hdT g vs l) cls dd σ H
  | [], vs, _, _, o => by
    have e : hdT g vs [] = [] := by unfold hdT; rfl
    rw [e]
    exact o cls dd σ H F (Same.refl _) s rx
  | hd :: l, [], hl, _, _ => by cases hl
  | ⟨x, oi, den⟩ :: l, v :: vs, hl, hg, o => by
    obtain ⟨C, hm, hcls, _⟩ := id rx
    have hx := hg 0 _ v rfl rfl
    have more : OutS g W P F (runH mt c fs l st) D → wMix g.K W D (hdT g vs l) cls dd σ H := runH_ok mo rx s (by simpa using hl) fun k hd v e1 e2 => hg (k + 1) hd v (by simpa using e1) (by simpa using e2)
    unfold runH at o
    cases hb : mtB mt c x with
    | none => simp only [hb] at o; exact o.elim
    | some b =>
      have hex : PySem.W.exmOne g.K cls (.ref v) = some b := by rw [hcls]; exact mo _ (mtB_mem hb) C v hm hx
      simp only [hb] at o
      cases b with
      | false =>
        cases oi with
        | none => exact ⟨false, hex, fun z => Bool.noConfusion z, fun _ => more o⟩
        | some i => exact ⟨false, hex, fun z => Bool.noConfusion z, fun _ => more o⟩
      | true =>
        cases oi with
        | none => exact ⟨true, hex, fun _ a _ => ⟨P, F, st, s, OutS.noX o⟩, fun z => Bool.noConfusion z⟩
        | some i =>
          simp only at o
          split at o
          · rename_i hc
            exact ⟨true, hex, fun _ a _ => ⟨P, F, _, s.putx hc.1 hc.2 rx, OutS.clr o⟩, fun z => Bool.noConfusion z⟩
          · exact o.elim
theorem es_try {mt : List (Str × Str × Bool)} (mo : MtOk g mt) {blk : List Stmt} {hd₀ : ExceptHandler} {hq : List ExceptHandler} {l : List HdD} {tb : DS} {pos : Pos} (tk : Takes X W) (hK : X.K = g.K)
    (hbody : ∀ (W' : WX) (pn : List (Addr × Obj)) (xe : Value → Shared → Prop), Takes (X.tr pn xe) W' → PSs (X.tr pn xe) blk (tS g W' tb)) (hall : HdsD X g (hd₀ :: hq) l)
    (hstk : X.stack = X.env :: X.outer := by rfl) (hfrm : X.env.frame = some X.env.locals := by rfl) (ndp : X.N.Nodup := by decide) :
    PS X (.Try blk (hd₀ :: hq) [] [] pos) (tS g W (sTry mt tb l)) := by
  obtain ⟨vs, h1, h2, h3⟩ := hall.m
  refine (ps_try_mix (tb := fun W' => tS g W' tb) hstk hfrm ndp tk (fun W' pn xe t _ => hbody W' pn xe t) h1).imp fun D σ H ⟨P, F, st, s, o⟩ => ⟨P, F, st, s, ?_⟩
  revert o
  unfold sTry
  cases tb st with
  | ok fl st' => exact fun o => o
  | exn c fs st' => exact fun o cls dd σ' H' F' le s' rx => by rw [hK]; exact runH_ok mo rx s' h2 h3 (OutS.weak le o)
  | stuck => exact fun o => o
/-- a field of the exception that the suite holds -/
@[simp] def dXf (i : Nat) (c f : Str) : Den D := fun st => match st[i]? with
  | some (.xc c' nm x) => if c' = c ∧ nm = f then .ok x st else .stuck
  | _ => .stuck
theorem ev_xf {i : Nat} {c n : Str} {C a : Addr} {cls : Value} {d : Option Addr} (gC : g.mg c = some (.ref C)) (he : PE X e (tXf a cls d C n (tVar i))) : PE X e (tE (g.at a cls d) W (dXf i c n)) := he.imp fun σ H Q ⟨P, F, st, s, o⟩ => by
  unfold dXf at o
  split at o
  · rename_i c' nm x hx
    split at o
    · rename_i hc
      obtain ⟨rfl, rfl⟩ := hc
      obtain ⟨ov, hov⟩ := SRc.nth s hx
      obtain ⟨O, q⟩ := id s
      obtain ⟨a', C', d', v, e1, e2, e3, hF, r⟩ := q.sl i _ _ hx hov
      simp only [G.at, Option.some.injEq, Prod.mk.injEq] at e1
      obtain ⟨rfl, rfl, rfl⟩ := e1
      have : C' = C := by
        have e2 : g.mg c' = some (.ref C') := e2
        rw [gC] at e2
        exact (by simpa using e2 : C = C').symm
      subst this
      rw [e3] at hov
      exact ⟨_, hov, rfl, rfl, d', _, v, rfl, q.le _ _ hF, by simp [List.lookup], o H F (Same.refl _) s v r⟩
    · exact o.elim
  · exact o.elim
end
end DL

namespace DL
open PySem PySem.Spec PyProof.Rows L2
/-! ### own error classes, from the head's facts -/
def ecB (K : PySem.W.Frag) (C : Addr) : Bool := match K.lookup C with
  | some ⟨.type "type", _, .cls cd, sl⟩ => (match cd.mro, sl.toList with
    | .ref C' :: bm, [_, _, _, _, some (.builtin n), _] => C' == C && (n == "ValueError.__new__" && (!cd.hasDel && (cd.hasDict && (HandSPX.refsVE bm && He.eqO (PySem.W.alongIn K "__init__" bm) (some (some (.builtin "ValueError.__init__")))))))
    | _, _ => false)
  | _ => false
def noneV : Value → Bool
  | .none => true
  | _ => false
def cellB (K : PySem.W.Frag) (cc C : Addr) : Bool := match K.lookup cc with
  | some ⟨_, _, .cell (some (.ref D)), _⟩ => D == C
  | _ => false
def fileB (K : PySem.W.Frag) (file : Str) : Value → Bool
  | .ref cda => (match K.lookup cda with
    | some ⟨_, _, .fields vs, _⟩ => (match (vs[2]? : Option Value) with
      | some (Value.str f _) => file == f
      | _ => false)
    | _ => false)
  | _ => false
def efB (K : PySem.W.Frag) (file : Str) (C fI : Addr) : Bool := match K.lookup fI with
  | some ⟨_, _, .func fd, _⟩ => (match fd.closure with
    | [(n, cc)] => n == ("__class__" : Str) && (noneV fd.defaults && (noneV fd.kwdefaults && (PySem.W.codeIn K fd.code fd.qualname && (cellB K cc C && fileB K file fd.code))))
    | _ => false)
  | _ => false
def errB (K : PySem.W.Frag) (file x f : Str) : Bool :=
  ecB K (He.ga K x) && (efB K file (He.ga K x) (He.fAd K (x, some ("__init__" : Str))) && (He.eqO (PySem.W.findIn K (.ref (He.ga K x)) "__setattr__") (some (some (.builtin "object.__setattr__"))) && (He.eqO (PySem.W.findIn K (.ref (He.ga K x)) f) (some none) &&
  (He.eqO (PySem.W.findIn K (.ref (He.ga K x)) "__init__") (some (some (.ref (He.fAd K (x, some ("__init__" : Str)))))) && (decide (PySem.W.typeIn K (.ref (He.fAd K (x, some ("__init__" : Str)))) = some (.type "function")) && (PySem.W.keepIn K (.ref (He.ga K x)) &&
  (decide (PySem.W.subIn K (.ref (He.ga K x)) (.type "BaseException") = some true) && (decide (PySem.W.subIn K (.ref (He.ga K x)) (.type "ValueError") = some true) && (decide (PySem.W.mroIn K (He.ga K x) (.ref (He.ga K x)) = some true) &&
  (decide (PySem.W.typeIn K (.ref (He.ga K x)) = some (.type "type")) && (He.eqO (PySem.W.nsIn K cStatics "thirdparty.any") (some none) && xfB K (He.ga K x))))))))))))
theorem err_txt {P : Program} {K : PySem.W.Frag} {file x f a qual : Str} {d : He.DefD} {e : Expr} {p1 p2 q0 q1 q2 q3 q4 q5 q6 q7 q8 : Pos} (hc : clW K d.at_ = d.val) (hb : errB K file x f = true) (hsup : PySem.W.nsIn K mainGlobals "super" = some none)
    (hat : d.at_ = (x, some ("__init__" : Str))) (hn : d.name = ("__init__" : Str)) (hq : d.qual = qual) (h1 : d.params = PySem.ErrX.eA a p1 p2) (h2 : d.body = PySem.ErrX.eB e a f q0 q1 q2 q3 q4 q5 q6 q7 q8) (h3 : d.scope = PySem.ErrX.eS a)
    (okE : (∃ p, e = .Name a p) ∨ ∃ m j p, e = .Constant (.str m) j p) (na : a ≠ "self" ∧ a ≠ "__class__" ∧ a ≠ "super" ∧ (a == ("__debug__" : Str)) = false)
    (bnd : ∀ (q : Str) (body : List Stmt) (doc pm : Value) (an : Option Addr) (cdv ct : Value) (cc : Addr) (p1 p2 : Pos) (s : Shared) (u v : Value), BindsTo s (PySem.W.ksFn "__init__" q (PySem.ErrX.eA a p1 p2) body (PySem.ErrX.eS a) .none .none doc pm an cdv ct cc) ⟨[u, v], []⟩ [("self", u), (a, v)])
    (hfile : P.main.file = file) (psup : (P.main.scope.names.lookup ("super" : Str)).isSome = false) (hpl : PySem.ErrX.CallsPlain e q0 q1 q2 q3) : PySem.ErrX.ErrTxt P K x qual (He.ga K x) (He.fAd K (x, some ("__init__" : Str))) a f e ∧ XfC K (He.ga K x) := by
  unfold errB at hb
  obtain ⟨b1, hb⟩ := He.ba hb
  obtain ⟨b2, hb⟩ := He.ba hb
  obtain ⟨b3, hb⟩ := He.ba hb
  obtain ⟨b4, hb⟩ := He.ba hb
  obtain ⟨b5, hb⟩ := He.ba hb
  obtain ⟨b6, hb⟩ := He.ba hb
  obtain ⟨b7, hb⟩ := He.ba hb
  obtain ⟨b8, hb⟩ := He.ba hb
  obtain ⟨b9, hb⟩ := He.ba hb
  obtain ⟨b10, hb⟩ := He.ba hb
  obtain ⟨b11, hb⟩ := He.ba hb
  obtain ⟨b12, b13⟩ := He.ba hb
  refine ⟨⟨okE, bnd, na, ?_, He.eqO_ok b3, He.eqO_ok b4, He.eqO_ok b5, of_decide_eq_true b6, b7, of_decide_eq_true b8, of_decide_eq_true b9, of_decide_eq_true b10, of_decide_eq_true b11, He.eqO_ok b12, hsup, psup, ?_⟩, xfB_ok b13⟩
  · unfold ecB at b1
    split at b1
    · rename_i dd cd sl ho
      split at b1
      · rename_i C' bm k0 k1 k2 k3 n k5 hm hs
        simp only [Bool.and_eq_true, beq_iff_eq, Bool.not_eq_true'] at b1
        obtain ⟨rfl, rfl, hdel, hdct, hve, hal⟩ := b1
        obtain ⟨nm, bs, mro, ns, qn, hd, sn, sub, ab, col, del⟩ := cd
        dsimp only at hm hdel hdct
        subst hm hdel hdct
        have hsl : sl = #[k0, k1, k2, k3, some (.builtin "ValueError.__new__"), k5] := by
          obtain ⟨l⟩ := sl
          simp only at hs
          rw [hs]
        subst hsl
        exact ⟨nm, qn, ns, bs, bm, sn, sub, ab, col, dd, k0, k1, k2, k3, k5, ho, hve, He.eqO_ok hal⟩
      · cases b1
    · cases b1
  · unfold efB at b2
    unfold clW at hc
    rw [hat] at hc
    cases q : K.lookup (He.fAd K (x, some ("__init__" : Str))) with
    | none => rw [q] at b2; cases b2
    | some o =>
      obtain ⟨oc, od, dt, osl⟩ := o
      rw [q] at b2 hc
      cases dt with
      | func fd =>
        obtain ⟨n1, n2, n3, n4, n5, n6, n7, n8, n9, n10, n11, n12, n13, n14, n15⟩ := fd
        have e2 : (some (n1, n2, n3, n4, n5, n6, [], n15) : He.FnW) = some (d.name, d.qual, d.params, .stmts d.body, d.scope, mainGlobals, [], builtinsNs) := hc
        simp only [Option.some.injEq, Prod.mk.injEq] at e2
        obtain ⟨g1, g2, g3, g4, g5, g6, _, g8⟩ := e2
        subst g1 g2 g3 g4 g5 g6 g8
        simp only at b2
        split at b2
        · rename_i n cc
          simp only [Bool.and_eq_true, beq_iff_eq] at b2
          obtain ⟨rfl, d1, d2, d3, d4, d5⟩ := b2
          cases n8 with
          | none =>
            cases n9 with
            | none =>
              unfold fileB at d5
              unfold cellB at d4
              split at d5
              · rename_i cda
                split at d5
                · rename_i u1 u2 vs u3 hl
                  split at d5
                  · rename_i f' tf hvs
                    split at d4
                    · rename_i w1 w2 D w3 hcc
                      have hD : D = He.ga K x := by simpa using d4
                      subst hD
                      subst hq
                      exact ⟨oc, od, n10, n11, n12, cda, n14, osl, cc, p1, p2, q0, q1, q2, q3, q4, q5, q6, q7, q8, u1, w1, u2, w2, u3, w3, vs, f', tf, by rw [hn, h1, h2, h3], d3, hl, hvs, by rw [hfile]; exact d5, hcc, hpl⟩
                    · cases d4
                  · cases d5
                · cases d5
              · cases d5
            | _ => cases d2
          | _ => cases d1
        · cases b2
      | _ => cases b2
end DL
namespace DL
open PySem PySem.Spec PyProof.Rows L2
theorem mt_nil {g : G} : MtOk g [] := fun q hq => by cases hq
theorem mt_cons {g : G} {c x : Str} {b : Bool} {C V : Addr} {r : List (Str × Str × Bool)} (gc : g.mg c = some (.ref C)) (gx : g.mg x = some (.ref V)) (e : PySem.W.exmOne g.K (.ref C) (.ref V) = some b) (h : MtOk g r) : MtOk g ((c, x, b) :: r) := fun q hq C' V' h1 h2 => by
  rcases List.mem_cons.mp hq with rfl | hq
  · have h1 : g.mg c = some (.ref C') := h1
    have h2 : g.mg x = some (.ref V') := h2
    rw [gc] at h1; rw [gx] at h2
    cases h1; cases h2
    exact e
  · exact h q hq C' V' h1 h2
def argOf : List Stmt → Expr
  | [.Expr (.Call _ [e] _ _) _, _] => e
  | _ => .Constant .none 0 ⟨0, 0, 0, 0⟩
end DL

namespace DL
open PySem PySem.Spec PyProof.Rows L2
/-! ### xs.index(x) -/
def ixF (p : D → Bool) : Nat → List D → Option Nat
  | _, [] => none
  | i, d :: ds => if p d then some i else ixF p (i + 1) ds
def ixP (p : PyData → Bool) : Nat → List PyData → Option Nat
  | _, [] => none
  | i, d :: ds => if p d then some i else ixP p (i + 1) ds
@[simp] def opIndex (x y : D) : Option D := match x with
  | .lst ds => if flatD y && ds.all flatD then (match ixF (fun z => eqF z y) 0 ds with | some j => some (.int (j : Nat)) | none => none) else
      match toPy y, toPys ds with
      | some p, some qs => if SeqAt.shaped p && SeqAt.shaped (.list qs) then (match ixP (fun z => PyData.eqv z p) 0 qs with | some j => some (.int (j : Nat)) | none => none) else none
      | _, _ => none
  | _ => none
theorem ixF_some {p : D → Bool} : ∀ {ds : List D} {i j : Nat}, ixF p i ds = some j → ∃ k z, j = i + k ∧ ds[k]? = some z ∧ p z = true ∧ ∀ m z', m < k → ds[m]? = some z' → p z' = false
  | d :: ds, i, j, h => by
    unfold ixF at h
    split at h
    · rename_i hp
      cases h
      exact ⟨0, d, rfl, rfl, hp, fun m z' hm => absurd hm (Nat.not_lt_zero _)⟩
    · rename_i hp
      obtain ⟨k, z, e, h1, h2, h3⟩ := ixF_some h
      refine ⟨k + 1, z, by omega, by simpa using h1, h2, fun m z' hm hz => ?_⟩
      cases m with
      | zero => simp at hz; subst hz; simpa using hp
      | succ m => exact h3 m z' (by omega) (by simpa using hz)
  | [], _, _, h => by cases h
theorem ixP_some {p : PyData → Bool} : ∀ {ds : List PyData} {i j : Nat}, ixP p i ds = some j → ∃ k z, j = i + k ∧ ds[k]? = some z ∧ p z = true ∧ ∀ m z', m < k → ds[m]? = some z' → p z' = false
  | d :: ds, i, j, h => by
    unfold ixP at h
    split at h
    · rename_i hp
      cases h
      exact ⟨0, d, rfl, rfl, hp, fun m z' hm => absurd hm (Nat.not_lt_zero _)⟩
    · rename_i hp
      obtain ⟨k, z, e, h1, h2, h3⟩ := ixP_some h
      refine ⟨k + 1, z, by omega, by simpa using h1, h2, fun m z' hm hz => ?_⟩
      cases m with
      | zero => simp at hz; subst hz; simpa using hp
      | succ m => exact h3 m z' (by omega) (by simpa using hz)
  | [], _, _, h => by cases h
def rIndexA (K : PySem.W.Frag) : V → List V → Hp → VK → Prop := fun x xs H Q => rIndex K x xs H Q ∨ rIndexD K x xs H Q
theorem mt_indexA {X : Cx} (hu : X.A.units + 65 < cLine) : MtR X "list.index" (rIndexA X.K) := by
  intro pins s σ H x xs v us Q I rx rxs h
  rcases h with h | h
  · exact mt_index pins s σ H x xs v us Q I rx rxs h
  · exact mt_indexD hu pins s σ H x xs v us Q I rx rxs h
section
variable {X : Cx} {g : G} {W : WX} {P : Par} {σ : L2.St} {H F : Hp} {st : DSt} {e : Expr} {f h : Den D}
theorem flat_hits {y : V} {e : D} (ry : Rv g F y e) (fe : flatD e = true) {vs : List V} {ds : List D} (r : Rl g F vs ds) (hf : ds.all flatD = true) {k : Nat} {z : D} (hz : ds[k]? = some z) (hp : eqF z e = true) (hno : ∀ m z', m < k → ds[m]? = some z' → eqF z' e = false) :
    ∃ w, vs[k]? = some w ∧ eqV w y = true ∧ ∀ (m : Nat) (w' : V), m < k → vs[m]? = some w' → eqV w' y = false := by
  obtain ⟨w, hw, rw'⟩ := r.get hz
  have fz : ∀ {m : Nat} {z' : D}, ds[m]? = some z' → flatD z' = true := fun hm => List.all_eq_true.mp hf _ (List.mem_of_getElem? hm)
  refine ⟨w, hw, by rw [eqF_rv rw' ry (fz hz) fe]; exact hp, fun m w' hm hw' => ?_⟩
  obtain ⟨z', hz', rz'⟩ := r.get' hw'
  rw [eqF_rv rz' ry (fz hz') fe]
  exact hno m z' hm hz'
theorem opIndex_ok {v u : V} {x y z : D} {Q : VK} (le : Same F H) (rx : Br g F H v x) (ry : Rv g F u y) (hz : opIndex x y = some z) (q : ∀ v, Rv g F v z → Q v H) : ∃ a vs, v = .ref a ∧ SqL g.K H a vs ∧ rIndexA g.K v [u] H Q := by
  unfold opIndex at hz
  split at hz
  · rename_i ds
    obtain ⟨a, vs, rfl, h1, r1⟩ := rx.lst le
    refine ⟨a, vs, rfl, sqL_of h1, ?_⟩
    split at hz
    · rename_i hf
      obtain ⟨f1, f2⟩ := Bool.and_eq_true_iff.mp hf
      split at hz
      · rename_i j hj
        cases hz
        obtain ⟨k, z, rfl, e1, e2, e3⟩ := ixF_some hj
        obtain ⟨w, hw, hh, hn⟩ := flat_hits ry f1 r1 f2 e1 e2 e3
        rw [Nat.zero_add] at q
        exact .inl ⟨a, vs, u, k, w, rfl, rfl, sqL_of h1, flat_rv ry f1, all_flat r1 f2, hw, hh, hn, q _ (.int _)⟩
      · cases hz
    · split at hz
      · rename_i p qs e1 e2
        split at hz
        · rename_i hs
          obtain ⟨s1, s2⟩ := Bool.and_eq_true_iff.mp hs
          split at hz
          · rename_i j hj
            cases hz
            obtain ⟨k, z, rfl, g1, g2, g3⟩ := ixP_some hj
            rw [Nat.zero_add] at q
            exact .inr ⟨a, u, p, qs, k, z, rfl, rfl, rx.dp le (by unfold toPy; rw [e2]), ry.dp le e1, s2, s1, g1, g2, g3, q _ (.int _)⟩
          · cases hz
        · cases hz
      · cases hz
  · cases hz
/-- what a receiver must be, before its argument is read -/
@[simp] def isL : D → Option Unit
  | .lst _ => some ()
  | _ => none
@[simp] def isT : D → Option Unit
  | .tup _ => some ()
  | _ => none
@[simp] def dIndex (f h : Den D) : Den D := bindD f fun x => bindD (liftO (isL x)) fun _ => bindD h fun y => liftO (opIndex x y)
@[simp] def dIndexN (i : Nat) (h : Den D) : Den D := bindD (dRd i) fun x => bindD (liftO (isL x)) fun _ => bindD h fun y => bindD (dRd i) fun x => liftO (opIndex x y)
theorem ev_index (he : PE X e (tBM g.K "list" (rIndexA g.K) (tE g W f) (tCons (tE g W h) tNil))) : PE X e (tE g W (dIndex f h)) := he.imp fun σ H Q ⟨P, F, st, s, o⟩ =>
  ⟨P, F, st, s, o.bind.imp fun x st1 H1 F1 le1 s1 o1 v rx => by
    obtain ⟨u0, hx, q⟩ := Out.lift o1.bind
    cases x with
    | lst ds =>
      obtain ⟨a, vs, rfl, h1, r1⟩ := (show Br g F1 H1 v (.lst ds) from .inl rx).lst s1.le
      refine ⟨.inl ⟨rfl, vs, sqL_of h1⟩, P, F1, st1, s1, Out.imp (Out.bind (q H1 F1 (Same.refl _) s1)) fun y st2 H2 F2 le2 s2 o2 u ry => ?_⟩
      obtain ⟨z, ez, q⟩ := o2.lift
      obtain ⟨_, _, _, _, fin⟩ := opIndex_ok s2.le (.inl (rx.mono le2)) ry ez (q H2 F2 (Same.refl _) s2)
      exact fin
    | _ => cases hx⟩
theorem ev_indexN {i : Nat} (he : PE X e (tBM g.K "list" (rIndexA g.K) (tVar i) (tCons (tE g W h) tNil))) : PE X e (tE g W (dIndexN i h)) := he.imp fun σ H Q ⟨P, F, st, s, o⟩ => by
  obtain ⟨v, x, hv, rx, o1⟩ := o.rd s
  obtain ⟨u0, hx, q⟩ := Out.lift o1.bind
  have o2 := q H F (Same.refl _) s
  cases x with
  | lst ds =>
    obtain ⟨a, vs, rfl, h1, r1⟩ := rx.lst s.le
    refine ⟨_, hv, .inl ⟨rfl, vs, sqL_of h1⟩, P, F, st, s, o2.bind.imp fun y st2 H2 F2 le2 s2 o3 u ry => ?_⟩
    obtain ⟨v', x', hv', rx', o4⟩ := o3.rd s2
    rw [hv] at hv'; cases hv'
    obtain ⟨z, ez, q⟩ := o4.lift
    obtain ⟨_, _, _, _, fin⟩ := opIndex_ok s2.le rx' ry ez (q H2 F2 (Same.refl _) s2)
    exact fin
  | _ => cases hx
/-! ### sorted -/
theorem vn_sorted : VN1 g (fun v => rSortedI g.K [v]) nSorted := by
  intro H F v d zs le rd hz Q q
  unfold nSorted at hz
  split at hz
  · rename_i ds
    split at hz
    · rename_i is hi
      cases hz
      have := intsOf_eq hi
      subst this
      obtain ⟨a, vs, rfl, h1, r1⟩ := rd.lst le
      have := r1.ints
      subst this
      refine ⟨a, is, rfl, sqL_of h1, fun ns' p hp hs hn => ?_⟩
      have e : ns' = sortI is := sorted_unique (hp.trans (sortI_perm is).symm) hs (sortI_sorted is)
      subst e
      exact q p _ hn (Rl.of_ints _)
    · cases hz
  · cases hz
  · cases hz
end
end DL

namespace DL
open PySem PySem.Spec PyProof.Rows L2
theorem room_s {k : Nat} {A : Around} (r : Room k A) {x : Option Value} : (A.mark x).units + 65 < cLine := by have := r.un; show A.units + 65 < _; omega
theorem room_s4 {k : Nat} {A : Around} (r : Room k A) {x : Option Value} : (A.mark x).units + 64 < cLine := by have := r.un; show A.units + 64 < _; omega
/-! ### equality of numbers, lists and tuples of them -/
mutual
def numD : Nat → D → Bool
  | _, .int _ => true
  | _, .non => true
  | k + 1, .lst xs => numDs k xs
  | k + 1, .tup xs => numDs k xs
  | _, _ => false
def numDs : Nat → List D → Bool
  | _, [] => true
  | k, x :: xs => numD k x && numDs k xs
end
theorem numDs_all {k : Nat} : ∀ {xs : List D}, numDs k xs = true ↔ ∀ x ∈ xs, numD k x = true
  | [] => by simp [numDs]
  | x :: xs => by simp [numDs, numDs_all (xs := xs)]
mutual
theorem num_py : ∀ {k : Nat} {x : D}, numD k x = true → ∃ p, toPy x = some p ∧ p.canLay0 = true ∧ p.depth ≤ k
  | k, .int i, _ => ⟨.int i, by simp [toPy], by simp [PyData.canLay0], by simp [PyData.depth]⟩
  | k, .non, _ => ⟨.none, by simp [toPy], by simp [PyData.canLay0], by simp [PyData.depth]⟩
  | k + 1, .lst xs, h => by
    obtain ⟨ps, e, h1, h2⟩ := nums_py (k := k) (xs := xs) (by simpa [numD] using h)
    exact ⟨.list ps, by simp [toPy, e], by simpa [PyData.canLay0] using h1, by simpa [PyData.depth] using h2⟩
  | k + 1, .tup xs, h => by
    obtain ⟨ps, e, h1, h2⟩ := nums_py (k := k) (xs := xs) (by simpa [numD] using h)
    exact ⟨.tuple ps, by simp [toPy, e], by simpa [PyData.canLay0] using h1, by simpa [PyData.depth] using h2⟩
  | 0, .lst xs, h => by simp [numD] at h
  | 0, .tup xs, h => by simp [numD] at h
  | k, .bl b, h => by cases k <;> simp [numD] at h
  | k, .str b, h => by cases k <;> simp [numD] at h
  | k, .ins _ _ _, h => by cases k <;> simp [numD] at h
  | k, .scr _, h => by cases k <;> simp [numD] at h
theorem nums_py : ∀ {k : Nat} {xs : List D}, numDs k xs = true → ∃ ps, toPys xs = some ps ∧ PyData.canLayAll0 ps = true ∧ PyData.depthAll ps ≤ k
  | k, [], _ => ⟨[], by simp [toPys], by simp [PyData.canLayAll0], by simp [PyData.depthAll]⟩
  | k, x :: xs, h => by
    simp only [numDs, Bool.and_eq_true] at h
    obtain ⟨p, e, h1, h2⟩ := num_py h.1
    obtain ⟨ps, es, h3, h4⟩ := nums_py h.2
    exact ⟨p :: ps, by simp [toPys, e, es], by simp [PyData.canLayAll0, h1, h3], by simp [PyData.depthAll]; omega⟩
end
mutual
theorem num_eqv : ∀ {k l : Nat} {x y : D} {p q : PyData}, numD k x = true → numD l y = true → toPy x = some p → toPy y = some q → (PyData.eqv p q = true ↔ x = y)
  | k, l, x, y, p, q, hx, hy, ex, ey => by
    cases x with
    | int i => cases y with
      | int j => simp [toPy] at ex ey; subst ex ey; simp [PyData.eqv]
      | non => simp [toPy] at ex ey; subst ex ey; simp [PyData.eqv]
      | lst ys => obtain ⟨q', e, _⟩ := num_py hy; simp only [toPy] at ex e ey; split at ey <;> cases ey; cases ex; simp [PyData.eqv]
      | tup ys => obtain ⟨q', e, _⟩ := num_py hy; simp only [toPy] at ex e ey; split at ey <;> cases ey; cases ex; simp [PyData.eqv]
      | _ => cases l <;> simp [numD] at hy
    | non => cases y with
      | int j => simp [toPy] at ex ey; subst ex ey; simp [PyData.eqv]
      | non => simp [toPy] at ex ey; subst ex ey; simp [PyData.eqv]
      | lst ys => simp only [toPy] at ex ey; split at ey <;> cases ey; cases ex; simp [PyData.eqv]
      | tup ys => simp only [toPy] at ex ey; split at ey <;> cases ey; cases ex; simp [PyData.eqv]
      | _ => cases l <;> simp [numD] at hy
    | lst xs =>
      cases k with
      | zero => simp [numD] at hx
      | succ k =>
        simp only [toPy] at ex
        split at ex
        · rename_i ps hps
          cases ex
          cases y with
          | lst ys =>
            cases l with
            | zero => simp [numD] at hy
            | succ l =>
              simp only [toPy] at ey
              split at ey
              · rename_i qs hqs
                cases ey
                have := nums_eqv (k := k) (l := l) (xs := xs) (ys := ys) (by simpa [numD] using hx) (by simpa [numD] using hy) hps hqs
                simp only [PyData.eqv, this, D.lst.injEq]
              · cases ey
          | int j => simp [toPy] at ey; subst ey; simp [PyData.eqv]
          | non => simp [toPy] at ey; subst ey; simp [PyData.eqv]
          | tup ys => simp only [toPy] at ey; split at ey <;> cases ey; simp [PyData.eqv]
          | _ => cases l <;> simp [numD] at hy
        · cases ex
    | tup xs =>
      cases k with
      | zero => simp [numD] at hx
      | succ k =>
        simp only [toPy] at ex
        split at ex
        · rename_i ps hps
          cases ex
          cases y with
          | tup ys =>
            cases l with
            | zero => simp [numD] at hy
            | succ l =>
              simp only [toPy] at ey
              split at ey
              · rename_i qs hqs
                cases ey
                have := nums_eqv (k := k) (l := l) (xs := xs) (ys := ys) (by simpa [numD] using hx) (by simpa [numD] using hy) hps hqs
                simp only [PyData.eqv, this, D.tup.injEq]
              · cases ey
          | int j => simp [toPy] at ey; subst ey; simp [PyData.eqv]
          | non => simp [toPy] at ey; subst ey; simp [PyData.eqv]
          | lst ys => simp only [toPy] at ey; split at ey <;> cases ey; simp [PyData.eqv]
          | _ => cases l <;> simp [numD] at hy
        · cases ex
    | _ => cases k <;> simp [numD] at hx
theorem nums_eqv : ∀ {k l : Nat} {xs ys : List D} {ps qs : List PyData}, numDs k xs = true → numDs l ys = true → toPys xs = some ps → toPys ys = some qs → (PyData.eqvAll ps qs = true ↔ xs = ys)
  | k, l, [], [], ps, qs, _, _, ex, ey => by simp [toPys] at ex ey; subst ex ey; simp [PyData.eqvAll]
  | k, l, [], y :: ys, ps, qs, _, _, ex, ey => by
    simp only [toPys] at ex ey
    split at ey
    · cases ex; cases ey; simp [PyData.eqvAll]
    · cases ey
  | k, l, x :: xs, [], ps, qs, _, _, ex, ey => by
    simp only [toPys] at ex ey
    split at ex
    · cases ex; cases ey; simp [PyData.eqvAll]
    · cases ex
  | k, l, x :: xs, y :: ys, ps, qs, hx, hy, ex, ey => by
    simp only [toPys] at ex ey
    simp only [numDs, Bool.and_eq_true] at hx hy
    split at ex
    · rename_i p ps' e1 e2
      split at ey
      · rename_i q qs' e3 e4
        cases ex; cases ey
        have h1 := num_eqv hx.1 hy.1 e1 e3
        have h2 := nums_eqv hx.2 hy.2 e2 e4
        simp [PyData.eqvAll, h1, h2]
      · cases ey
    · cases ex
end
open Classical in
theorem eqD_num {k : Nat} {x y : D} (hk : k ≤ 64) (hx : numD k x = true) (hy : numD k y = true) : eqD x y = some (decide (x = y)) := by
  obtain ⟨p, e1, c1, d1⟩ := num_py hx
  obtain ⟨q, e2, c2, d2⟩ := num_py hy
  have s1 : SeqAt.shaped p = true := by simp [SeqAt.shaped, c1]; omega
  have s2 : SeqAt.shaped q = true := by simp [SeqAt.shaped, c2]; omega
  have := num_eqv hx hy e1 e2
  simp only [eqD, e1, e2, s1, s2, Bool.and_self, if_true]
  congr 1
  by_cases h : x = y
  · simp [this.mpr h, h]
  · have : PyData.eqv p q = false := by simpa using fun z => h (this.mp z)
    simp [this, h]
@[simp] theorem ixN_nat (n j : Nat) : ixN n (j : Int) = if j < n then some j else none := by
  unfold ixN
  by_cases h : j < n
  · rw [if_pos (by omega), if_pos (by omega), if_pos h]; simp
  · rw [if_pos (by omega), if_neg (by omega), if_neg h]
@[simp] theorem atI_nat {α : Type} (xs : List α) (j : Nat) : atI xs (j : Int) = xs[j]? := by
  unfold atI
  rw [ixN_nat]
  by_cases h : j < xs.length
  · rw [if_pos h]; rfl
  · rw [if_neg h, List.getElem?_eq_none (by omega)]; rfl
@[simp] theorem big_val : big = 16777216 := rfl
/-! ### comprehensions of plain elements -/
theorem compGo_map {vs : List Nat} {t : Tg} {elt : Den D} {st0 : DSt} {φ : D → D} : ∀ {ds : List D}, (∀ d ∈ ds, ∃ st2 st3, setT t d st0 = some st2 ∧ elt st2 = .ok (φ d) st3 ∧ wipeD st3 vs = st0) → compGo vs t dYes elt ds st0 = .ok (ds.map φ) st0
  | [], _ => rfl
  | d :: ds, h => by
    obtain ⟨st2, st3, h1, h2, h3⟩ := h d List.mem_cons_self
    have ih := compGo_map (vs := vs) (t := t) (elt := elt) (st0 := st0) (φ := φ) (ds := ds) fun d hd => h d (List.mem_cons_of_mem _ hd)
    have hy : dYes st2 = .ok true st2 := rfl
    simp only [compGo, h1, hy, h2, h3, ih, List.map_cons]
theorem comp_map {vs : List Nat} {t : Tg} {fi : Den (List D)} {elt : Den D} {st st1 : DSt} {ds : List D} (φ : D → D) (h1 : fi st = .ok ds st1) (hl : ds.length ≤ big) (hp : vs.all (plainAt st1) = true)
    (he : ∀ d ∈ ds, ∃ st2 st3, setT t d (wipeD st1 vs) = some st2 ∧ elt st2 = .ok (φ d) st3 ∧ wipeD st3 vs = wipeD st1 vs) : dComp vs t fi dYes elt st = .ok (ds.map φ) (backD st1 (wipeD st1 vs) vs) := by
  simp only [dComp, bindD, h1, hl, hp, and_self, if_true, compGo_map he]
/-- a loop that goes on, over states of one kind -/
theorem loop_all {t : Tg} {body : DS} {I : DSt → Prop} : ∀ {ds : List D} {st : DSt}, I st → (∀ d ∈ ds, ∀ st, I st → ∃ st1 st2, setT t d st = some st1 ∧ body st1 = .ok .nx st2 ∧ I st2) → ∃ st', loop t body ds st = .ok .nx st' ∧ I st'
  | [], st, h, _ => ⟨st, rfl, h⟩
  | d :: ds, st, h, hb => by
    obtain ⟨st1, st2, h1, h2, h3⟩ := hb d List.mem_cons_self st h
    obtain ⟨st', h4, h5⟩ := loop_all h3 fun d hd => hb d (List.mem_cons_of_mem _ hd)
    exact ⟨st', by simp only [loop, h1, h2, h4], h5⟩
/-- a loop that may return v -/
theorem loop_ret {t : Tg} {body : DS} {I : DSt → Prop} {p : D → Bool} {v : D} : ∀ {ds : List D} {st : DSt}, I st → (∀ d ∈ ds, ∀ st, I st → ∃ st1 st2, setT t d st = some st1 ∧ I st2 ∧ body st1 = if p d = true then .ok .nx st2 else .ok (.ret v) st2) →
    ∃ st', I st' ∧ loop t body ds st = if ds.all p = true then .ok .nx st' else .ok (.ret v) st'
  | [], st, h, _ => ⟨st, h, rfl⟩
  | d :: ds, st, h, hb => by
    obtain ⟨st1, st2, h1, h2, h3⟩ := hb d List.mem_cons_self st h
    by_cases hp : p d = true
    · rw [if_pos hp] at h3
      obtain ⟨st', h4, h5⟩ := loop_ret h2 fun d hd => hb d (List.mem_cons_of_mem _ hd)
      refine ⟨st', h4, ?_⟩
      rw [← show ds.all p = (d :: ds).all p by simp [hp], ← h5]
      simp only [loop, h1, h3]
    · rw [if_neg hp] at h3
      refine ⟨st2, h2, ?_⟩
      rw [if_neg (by simp [hp])]
      simp only [loop, h1, h3]
/-- a loop with what it has made so far -/
theorem loop_acc {t : Tg} {body : DS} {α : Type} {I : α → DSt → Prop} {f : α → D → α} : ∀ {ds : List D} {a : α} {st : DSt}, I a st → (∀ a, ∀ d ∈ ds, ∀ st, I a st → ∃ st1 st2, setT t d st = some st1 ∧ body st1 = .ok .nx st2 ∧ I (f a d) st2) → ∃ st', loop t body ds st = .ok .nx st' ∧ I (ds.foldl f a) st'
  | [], a, st, h, _ => ⟨st, rfl, h⟩
  | d :: ds, a, st, h, hb => by
    obtain ⟨st1, st2, h1, h2, h3⟩ := hb a d List.mem_cons_self st h
    obtain ⟨st', h4, h5⟩ := loop_acc h3 fun a d hd => hb a d (List.mem_cons_of_mem _ hd)
    exact ⟨st', by simp only [loop, h1, h2, h4], h5⟩
end DL

/-! max, min, sorted of a tuple of ints -/
namespace PySem
namespace TupX
open PySem.Calls PyProof.Rows
section
variable {prog : Program} {w : World} {A : Around} {E : Value → Shared → Prop} {s : Shared} {l : Addr} {xs : Array (Int × Tok)}
theorem iter_tup {Q : Value → Shared → Prop} (hl : s.heap.IsTuple l (intItems xs))
    (h : ∀ s₂ : Shared, s₂ = { s with heap := s.heap.push { cls := .type "tuple_iterator", data := .fields #[.ref l, .int 0 0] } } →
      (s₂.heap.IsTupleIter s.heap.objs.size l 0 ∧ s₂.heap.IsTuple l (intItems xs)) → (∀ b ∈ [s.heap.objs.size, l], b < s₂.heap.objs.size) → l ≠ s.heap.objs.size → Q (.ref s.heap.objs.size) s₂) :
    wpAny (model prog w) A (pyIter (.ref l)) Q E s := by
  have old : l < s.heap.objs.size := by obtain ⟨_, e, _⟩ := hl; exact Heap.lt_size e
  refine wpAny_pyIter_tuple hl (h _ rfl ⟨⟨_, Heap.get?_push_size _ rfl, rfl, rfl⟩, hl.push _⟩ (fun b hb => ?_) (Nat.ne_of_lt old))
  show b < (s.heap.push _).objs.size
  rw [Heap.size_push]
  have hb : b = s.heap.objs.size ∨ b = l := by simpa using hb
  rcases hb with rfl | rfl
  · exact Nat.lt_succ_self _
  · exact Nat.lt_succ_of_lt old
theorem old_kept {h' : Heap} (hk : ∀ b o, b ∉ [s.heap.objs.size] → (s.heap.push { cls := .type "tuple_iterator", data := .fields #[.ref l, .int 0 0] }).get? b = some o → h'.get? b = some o) :
    ∀ b o, s.heap.get? b = some o → h'.get? b = some o := fun b o e => by
  refine hk b o (fun hm => ?_) (Heap.get?_push_of_some _ e)
  have hm : b = s.heap.objs.size := by simpa using hm
  exact absurd (hm ▸ Heap.lt_size e) (Nat.lt_irrefl _)
theorem max_tup {Q : Value → Shared → Prop} (hh : A.handled = none) (hl : s.heap.IsTuple l (intItems xs)) (hne : 0 < xs.size)
    (h : ∀ v h' tk, (intItems xs)[argBest (fun i j => decide (numAt xs i > numAt xs j)) (xs.size - 1)]? = some v → (∀ b o, s.heap.get? b = some o → h'.get? b = some o) → Q v { s with heap := h', toks := tk }) :
    wpAny (model prog w) A (call (.builtin "max") [.ref l]) Q E s := by
  refine call_max_walk (iter_tup hl fun s₂ e st hfp hlI => ?_)
  subst e
  refine ⟨_, _, _, _, _, _, _, rfl, Walks.tuple (A := A.in1) hh _ l hlI (intItems xs), st, hfp, by simpa [intItems] using hne, CmpOf.ints_gt (numAt xs) (fun _ _ => intItems_at), fun v h' tk hP hk => ?_⟩
  exact h v h' tk (by simpa [intItems] using hP) (old_kept hk)
theorem min_tup {Q : Value → Shared → Prop} (hh : A.handled = none) (hl : s.heap.IsTuple l (intItems xs)) (hne : 0 < xs.size)
    (h : ∀ v h' tk, (intItems xs)[argBest (fun i j => decide (numAt xs i < numAt xs j)) (xs.size - 1)]? = some v → (∀ b o, s.heap.get? b = some o → h'.get? b = some o) → Q v { s with heap := h', toks := tk }) :
    wpAny (model prog w) A (call (.builtin "min") [.ref l]) Q E s := by
  refine call_min_walk (iter_tup hl fun s₂ e st hfp hlI => ?_)
  subst e
  refine ⟨_, _, _, _, _, _, _, rfl, Walks.tuple (A := A.in1) hh _ l hlI (intItems xs), st, hfp, by simpa [intItems] using hne, CmpOf.ints_lt (numAt xs) (fun _ _ => intItems_at), fun v h' tk hP hk => ?_⟩
  exact h v h' tk (by simpa [intItems] using hP) (old_kept hk)
end
end TupX
end PySem
namespace L2
open PySem PySem.Spec PyProof.Rows
section
variable {X : Cx}
def rMaxT (K : PySem.W.Frag) : List V → Hp → VK → Prop := fun vs H Q => ∃ (a : Addr) (ns : List Int), vs = [V.ref a] ∧ SqT K H a (ns.map V.int) ∧ 0 < ns.length ∧ ∀ m, m ∈ ns → (∀ y, y ∈ ns → y ≤ m) → Q (.int m) H
def rMinT (K : PySem.W.Frag) : List V → Hp → VK → Prop := fun vs H Q => ∃ (a : Addr) (ns : List Int), vs = [V.ref a] ∧ SqT K H a (ns.map V.int) ∧ 0 < ns.length ∧ ∀ m, m ∈ ns → (∀ y, y ∈ ns → m ≤ y) → Q (.int m) H
theorem max_rawT {prog : Program} {w : World} {A : Around} {E : Value → Shared → Prop} {s : Shared} {l : Addr} {its : List Value} {ns : List Int} {Q : Value → Shared → Prop} (hh : A.handled = none) (hl : s.heap.IsTuple l its.toArray) (hi : IntsAre its ns) (hne : 0 < ns.length)
    (h : ∀ h' tk m t', (∀ b o, s.heap.get? b = some o → h'.get? b = some o) → m ∈ ns → (∀ a, a ∈ ns → a ≤ m) → Q (.int m t') { s with heap := h', toks := tk }) : wpAny (model prog w) A (call (.builtin "max") [.ref l]) Q E s := by
  obtain ⟨ys, e⟩ := hi.allInts.items
  have hn : numsOf (intItems ys).toList = ns := by rw [← e]; exact hi.numsOf
  rw [nums_intItems] at hn
  subst hn
  rw [e] at hl
  have pos : 0 < ys.size := by simpa using hne
  refine PySem.TupX.max_tup hh hl pos fun v h' tk hv hk => ?_
  obtain ⟨t, rfl⟩ := intItems_at hv
  obtain ⟨h1, h2⟩ := argBest_gt (numAt ys) (ys.size - 1)
  refine h h' tk _ t hk ?_ fun a ha => ?_
  · rw [numAt_eq]; exact PySem.getD_mem (by rw [List.length_map, Array.length_toList]; omega)
  · obtain ⟨j, hj, rfl⟩ := mem_getD ha
    rw [List.length_map, Array.length_toList] at hj
    rw [← numAt_eq]; exact h2 j (by omega)
theorem min_rawT {prog : Program} {w : World} {A : Around} {E : Value → Shared → Prop} {s : Shared} {l : Addr} {its : List Value} {ns : List Int} {Q : Value → Shared → Prop} (hh : A.handled = none) (hl : s.heap.IsTuple l its.toArray) (hi : IntsAre its ns) (hne : 0 < ns.length)
    (h : ∀ h' tk m t', (∀ b o, s.heap.get? b = some o → h'.get? b = some o) → m ∈ ns → (∀ a, a ∈ ns → m ≤ a) → Q (.int m t') { s with heap := h', toks := tk }) : wpAny (model prog w) A (call (.builtin "min") [.ref l]) Q E s := by
  obtain ⟨ys, e⟩ := hi.allInts.items
  have hn : numsOf (intItems ys).toList = ns := by rw [← e]; exact hi.numsOf
  rw [nums_intItems] at hn
  subst hn
  rw [e] at hl
  have pos : 0 < ys.size := by simpa using hne
  refine PySem.TupX.min_tup hh hl pos fun v h' tk hv hk => ?_
  obtain ⟨t, rfl⟩ := intItems_at hv
  obtain ⟨h1, h2⟩ := argBest_lt (numAt ys) (ys.size - 1)
  refine h h' tk _ t hk ?_ fun a ha => ?_
  · rw [numAt_eq]; exact PySem.getD_mem (by rw [List.length_map, Array.length_toList]; omega)
  · obtain ⟨j, hj, rfl⟩ := mem_getD ha
    rw [List.length_map, Array.length_toList] at hj
    rw [← numAt_eq]; exact h2 j (by omega)
def rMaxA (K : PySem.W.Frag) : List V → Hp → VK → Prop := fun vs H Q => rMax K vs H Q ∨ rMaxT K vs H Q
def rMinA (K : PySem.W.Frag) : List V → Hp → VK → Prop := fun vs H Q => rMin K vs H Q ∨ rMinT K vs H Q
theorem cr_maxA (hc : X.calm = true) : CallR X (.builtin "max") (rMaxA X.K) := by
  intro pins s σ H vs us Q I r h
  rcases h with h | ⟨a, ns, rfl, hs, hne, q⟩
  · exact cr_max hc pins s σ H vs us Q I r h
  · obtain ⟨its, rv, pl, _⟩ := I.tuple hs
    rw [Vals.ref1 r]
    exact max_rawT (I.ok.hd hc) (show s.heap.IsTuple a its.toArray from pl) rv.ints hne fun h' tk m t' hk h1 h2 => ⟨.int _, H, I.kept hk, ⟨_, rfl⟩, q m h1 h2⟩
theorem cr_minA (hc : X.calm = true) : CallR X (.builtin "min") (rMinA X.K) := by
  intro pins s σ H vs us Q I r h
  rcases h with h | ⟨a, ns, rfl, hs, hne, q⟩
  · exact cr_min hc pins s σ H vs us Q I r h
  · obtain ⟨its, rv, pl, _⟩ := I.tuple hs
    rw [Vals.ref1 r]
    exact min_rawT (I.ok.hd hc) (show s.heap.IsTuple a its.toArray from pl) rv.ints hne fun h' tk m t' hk h1 h2 => ⟨.int _, H, I.kept hk, ⟨_, rfl⟩, q m h1 h2⟩
end
end L2
namespace DL
open PySem PySem.Spec PyProof.Rows L2
section
variable {g : G}
@[simp] def onIntsT {α : Type} (f : List Int → Option α) : D → Option α
  | .lst ds => match intsOf ds with | some is => f is | none => none
  | .tup ds => match intsOf ds with | some is => f is | none => none
  | _ => none
@[simp] def opMinA : D → Option D := onIntsT fun is => if is.isEmpty then none else some (.int (minL is))
@[simp] def opMaxA : D → Option D := onIntsT fun is => if is.isEmpty then none else some (.int (maxL is))
theorem onIntsT_some {α : Type} {H F : Hp} {v : V} {f : List Int → Option α} {d : D} {z : α} (l : Same F H) (rd : Br g F H v d) (h : onIntsT f d = some z) : ∃ a is, v = .ref a ∧ (SqL g.K H a (is.map V.int) ∨ SqT g.K H a (is.map V.int)) ∧ f is = some z := by
  unfold onIntsT at h
  split at h
  · split at h
    · rename_i is hi
      have := intsOf_eq hi
      subst this
      obtain ⟨a, vs, rfl, h1, r1⟩ := rd.lst l
      have := r1.ints
      subst this
      exact ⟨a, is, rfl, .inl (sqL_of h1), h⟩
    · cases h
  · split at h
    · rename_i is hi
      have := intsOf_eq hi
      subst this
      obtain ⟨a, vs, rfl, h1, r1⟩ := rd.tup l
      have := r1.ints
      subst this
      exact ⟨a, is, rfl, .inr h1, h⟩
    · cases h
  · cases h
theorem vo_minA : VOC g (rMinA g.K) opMinA := by
  intro H F v d z l rd hz Q q
  obtain ⟨a, is, rfl, hs, e⟩ := onIntsT_some l rd hz
  split at e
  · cases e
  · rename_i hne
    cases e
    have hne : is ≠ [] := by simpa using hne
    obtain ⟨m1, m2⟩ := minL_spec hne
    have fin : ∀ m, m ∈ is → (∀ y, y ∈ is → m ≤ y) → Q (.int m) H := fun m h1 h2 => by
      have : m = minL is := Int.le_antisymm (h2 _ m1) (m2 _ h1)
      subst this
      exact q _ _ _ (Grow.refl l) (.int _)
    rcases hs with hs | hs
    · exact .inl ⟨a, is, rfl, hs, List.length_pos_iff.mpr hne, fin⟩
    · exact .inr ⟨a, is, rfl, hs, List.length_pos_iff.mpr hne, fin⟩
theorem vo_maxA : VOC g (rMaxA g.K) opMaxA := by
  intro H F v d z l rd hz Q q
  obtain ⟨a, is, rfl, hs, e⟩ := onIntsT_some l rd hz
  split at e
  · cases e
  · rename_i hne
    cases e
    have hne : is ≠ [] := by simpa using hne
    obtain ⟨m1, m2⟩ := maxL_spec hne
    have fin : ∀ m, m ∈ is → (∀ y, y ∈ is → y ≤ m) → Q (.int m) H := fun m h1 h2 => by
      have : m = maxL is := Int.le_antisymm (m2 _ h1) (h2 _ m1)
      subst this
      exact q _ _ _ (Grow.refl l) (.int _)
    rcases hs with hs | hs
    · exact .inl ⟨a, is, rfl, hs, List.length_pos_iff.mpr hne, fin⟩
    · exact .inr ⟨a, is, rfl, hs, List.length_pos_iff.mpr hne, fin⟩
end
end DL

namespace DL
open PySem PySem.Spec PyProof.Rows L2
/-! ### a look: all lists stand still meanwhile, the answer holds no list -/
mutual
def nol : D → Bool
  | .lst _ => false
  | .scr _ => false
  | .tup xs => nols xs
  | .ins _ _ xs => nols xs
  | _ => true
def nols : List D → Bool
  | [] => true
  | x :: xs => nol x && nols xs
end
def frzS : Slot → Slot
  | .ow ds => .sh (.lst ds)
  | .rf _ ds => .sh (.lst ds)
  | .o2 dss => .sh (.lst (dss.map .lst))
  | .oi _ _ _ _ => .no
  | .dk _ => .no
  | .dt _ => .no
  | s => s
@[simp] def dPeek (f : Den D) : Den D := fun st => match f (st.map frzS) with
  | .ok d _ => if nol d then .ok d st else .stuck
  | _ => .stuck
section
variable {X : Cx} {g : G} {W : WX} {P : Par} {σ : L2.St} {H F : Hp} {st : DSt} {e : Expr} {f h : Den D}
theorem sqT_at {K : PySem.W.Frag} {F F' : Hp} {a : Addr} {xs : List V} (e : ∀ x o, F x = some o → (∀ ys, o ≠ .lst ys) → F' x = some o) (h : SqT K F a xs) : SqT K F' a xs := by
  rcases h with (h | ⟨o, h⟩) | h
  · exact .inl (.inl (e _ _ h fun ys z => by cases z))
  · exact .inl (.inr ⟨o, e _ _ h fun ys z => by cases z⟩)
  · exact .inr h
theorem knT_at {K : PySem.W.Frag} {F F' : Hp} {a : Addr} (e : ∀ x o, F x = some o → (∀ ys, o ≠ .lst ys) → F' x = some o) (h : KnT K F a) : KnT K F' a := by
  rcases h with ⟨o, u, h, k⟩ | h
  · exact .inl ⟨o, u, e _ _ h (fun ys z => by cases z), k⟩
  · exact .inr h
theorem tkP_at {F F' : Hp} {a : Addr} {vs : List V} (e : ∀ x o, F x = some o → (∀ ys, o ≠ .lst ys) → F' x = some o) (h : TkP g F a vs) : TkP g F' a vs := by
  unfold TkP at h ⊢
  revert h
  cases g.tk with
  | true => exact fun h => knT_at e h
  | false => exact fun h => e _ _ h fun ys z => by cases z
mutual
theorem Rv.still {F F' : Hp} (e : ∀ x o, F x = some o → (∀ ys, o ≠ .lst ys) → F' x = some o) : ∀ {v : V} {d : D}, Rv g F v d → nol d = true → Rv g F' v d
  | _, _, .non, _ => .non
  | _, _, .bl b, _ => .bl b
  | _, _, .int b, _ => .int b
  | _, _, .str b, _ => .str b
  | _, _, .lst _ _, h => by simp [nol] at h
  | _, _, .tup q k r, h => .tup (sqT_at e q) (tkP_at e k) (Rl.still e r (by simpa [nol] using h))
  | _, _, .ins q m l r, h => .ins (e _ _ q fun ys z => by cases z) m l (Rl.still e r (by simpa [nol] using h))
  | _, _, .scr _, h => by simp [nol] at h
theorem Rl.still {F F' : Hp} (e : ∀ x o, F x = some o → (∀ ys, o ≠ .lst ys) → F' x = some o) : ∀ {vs : List V} {ds : List D}, Rl g F vs ds → nols ds = true → Rl g F' vs ds
  | _, _, .nil, _ => .nil
  | _, _, .cons r t, h => by
    simp only [nols, Bool.and_eq_true] at h
    exact .cons (Rv.still e r h.1) (Rl.still e t h.2)
end
def isLst : Option HO → Bool
  | some (.lst _) => true
  | _ => false
theorem SR.still (s : SR g P σ H F st) : ∃ F1, Same F F1 ∧ SR g ⟨P.B, H, fun a => NT H a ∧ F1 a = none⟩ σ H F1 (st.map frzS) ∧
    ∀ (H' F' : Hp), Same H H' → Same F1 F' → Same F' H' → (∀ a, NT H a → F1 a = none → F' a = none) → ∃ F2, SR g P σ H' F2 st ∧ Same F F2 ∧ ∀ x o, F' x = some o → (∀ ys, o ≠ .lst ys) → F2 x = some o := by
  obtain ⟨O, c⟩ := s
  let A : Addr → Bool := fun x => (O x).isSome && isLst (H x)
  let F1 : Hp := fun x => if A x = true then H x else F x
  have fin : ∀ x i vs, O x = some i → H x = some (.lst vs) → F1 x = H x := fun x i vs hx hl => by
    have : A x = true := by simp [A, hx, hl, isLst]
    show (if A x = true then H x else F x) = H x
    rw [if_pos this]
  have fA : ∀ x, A x = true → F x = none ∧ ∃ vs, H x = some (.lst vs) := fun x hx => by
    simp only [A, Bool.and_eq_true] at hx
    obtain ⟨h1, h2⟩ := hx
    cases e : O x with
    | none => rw [e] at h1; cases h1
    | some i =>
      refine ⟨(c.oo x i e).1, ?_⟩
      unfold isLst at h2
      split at h2
      · rename_i vs hv; exact ⟨vs, hv⟩
      · cases h2
  have fout : ∀ x, A x ≠ true → F1 x = F x := fun x hx => if_neg hx
  have sf : Same F F1 := fun x o e => by
    by_cases hx : A x = true
    · rw [(fA x hx).1] at e; cases e
    · rw [fout x hx]; exact e
  refine ⟨F1, sf, ⟨fun _ => none, fun x o e => ?_, Same.refl _, (fun _ _ e => nomatch e), fun a h => ⟨h.2, h.1⟩, by rw [List.length_map]; exact c.len, fun i sl ov e1 e2 => ?_⟩, fun H' F' hh hf hfh hn => ?_⟩
  · by_cases hx : A x = true
    · have e : F1 x = some o := e
      rw [show F1 x = H x from if_pos hx] at e; exact e
    · rw [fout x hx] at e; exact c.le x o e
  · rw [List.getElem?_map] at e1
    cases es : st[i]? with
    | none => rw [es] at e1; cases e1
    | some s0 =>
      rw [es] at e1
      cases e1
      have q := c.sl i s0 ov es e2
      cases s0 with
      | no => trivial
      | sh d => obtain ⟨v, e, r⟩ := q; exact ⟨v, e, r.mono sf⟩
      | ow ds => obtain ⟨a, vs, e, o, n, h1, r⟩ := q; exact ⟨_, e, .lst (by rw [fin a i _ o h1]; exact h1) (r.mono sf)⟩
      | rf k ds => obtain ⟨a, vs, e, b, o, h1, r⟩ := q; exact ⟨_, e, .lst (by rw [fin a i _ o h1]; exact h1) (r.mono sf)⟩
      | oi k c ns ds => trivial
      | dk kvs => trivial
      | dt kvs => trivial
      | lk kvs => obtain ⟨a, od, vs, e, h1, r⟩ := q; exact ⟨a, od, vs, e, sf _ _ h1, r.mono sf⟩
      | lt kvs => obtain ⟨a, od, vs, e, h1, r⟩ := q; exact ⟨a, od, vs, e, sf _ _ h1, r.mono sf⟩
      | o2 dss =>
        obtain ⟨a, bs, e, o, n, h1, nd, na, l, r⟩ := q
        refine ⟨_, e, .lst (vs := bs.map V.ref) (by rw [fin a i _ o h1]; exact h1) (Rl.of_get (by simp [l]) fun j v d q1 q2 => ?_)⟩
        rw [List.getElem?_map] at q1 q2
        cases hb : bs[j]? with
        | none => rw [hb] at q1; cases q1
        | some b =>
          cases hd : dss[j]? with
          | none => rw [hd] at q2; cases q2
          | some ds =>
            rw [hb] at q1; rw [hd] at q2
            cases q1; cases q2
            obtain ⟨o', _, vs, h2, r2⟩ := r j b ds hb hd
            exact .lst (by rw [fin b i _ o' h2]; exact h2) (r2.mono sf)
      | xc c nm x => obtain ⟨a, C, d, v, e1, e2, e3, h1, r⟩ := q; exact ⟨a, C, d, v, e1, e2, e3, sf _ _ h1, r.mono sf⟩
  · let F2 : Hp := fun x => if A x = true then none else F' x
    have f2in : ∀ x, A x = true → F2 x = none := fun x hx => if_pos hx
    have f2out : ∀ x, A x ≠ true → F2 x = F' x := fun x hx => if_neg hx
    have s2 : Same F F2 := fun x o e => by
      by_cases hx : A x = true
      · rw [(fA x hx).1] at e; cases e
      · rw [f2out x hx]; exact hf x o (sf x o e)
    refine ⟨F2, ⟨O, c.grow ⟨hh, s2, fun x o e => ?_, fun a h1 h2 => ?_⟩⟩, s2, fun x o e hl => ?_⟩
    · by_cases hx : A x = true
      · rw [f2in x hx] at e; cases e
      · rw [f2out x hx] at e; exact hfh x o e
    · by_cases hx : A a = true
      · exact f2in a hx
      · rw [f2out a hx]; exact hn a h1 (by rw [fout a hx]; exact h2)
    · by_cases hx : A x = true
      · obtain ⟨vs, hv⟩ := (fA x hx).2
        have : F1 x = some (.lst vs) := by rw [show F1 x = H x from if_pos hx]; exact hv
        rw [hf x _ this] at e
        exact absurd (Option.some.inj e).symm (hl vs)
      · rw [f2out x hx]; exact e
theorem ev_peek (he : PE X e (tE g W f)) : PE X e (tE g W (dPeek f)) := he.imp fun σ H Q ⟨P, F, st, s, o⟩ => by
  obtain ⟨F1, sf, s1, back⟩ := s.still
  refine ⟨_, F1, _, s1, ?_⟩
  revert o
  simp only [dPeek]
  cases f (st.map frzS) with
  | ok d st' =>
    simp only
    split
    · rename_i hd
      intro o H' F' le s' v rv
      obtain ⟨_, c'⟩ := s'
      obtain ⟨F2, s2, le2, keep⟩ := back H' F' c'.rr le c'.le fun a h1 h2 => (c'.no a ⟨h1, h2⟩).1
      exact o H' F2 le2 s2 v (rv.still keep hd)
    · exact fun o => o.elim
  | exn c fs st' => exact fun o => o.elim
  | stuck => exact fun o => o.elim
end
end DL

namespace DL
open PySem PySem.Spec PyProof.Rows L2
/-! ### comprehensions with two clauses -/
def goB (vs vs1 : List Nat) (t : Tg) (test : Den Bool) (t1 : Tg) (fi1 : Den (List D)) (test1 : Den Bool) (elt : Den D) : List D → Den (List D)
  | [] => retD []
  | d :: ds => fun st => match setT t d st with
    | none => .stuck
    | some st1 => match test st1 with
      | .ok true st2 => match fi1 st2 with
        | .ok ds1 st3 => match compGo vs1 t1 test1 elt ds1 (wipeD st3 vs1) with
          | .ok ys st4 => match goB vs vs1 t test t1 fi1 test1 elt ds (wipeD st4 vs) with
            | .ok zs st5 => .ok (ys ++ zs) st5
            | _ => .stuck
          | _ => .stuck
        | _ => .stuck
      | .ok false st2 => goB vs vs1 t test t1 fi1 test1 elt ds (wipeD st2 vs)
      | _ => .stuck
def dCompB (vs vs1 : List Nat) (t : Tg) (fi : Den (List D)) (test : Den Bool) (t1 : Tg) (fi1 : Den (List D)) (test1 : Den Bool) (elt : Den D) : Den (List D) := bindD fi fun ds => fun st =>
  if vs.all (plainAt st) = true then
    match goB vs vs1 t test t1 fi1 test1 elt ds (wipeD st vs) with
    | .ok ys st' => if ys.length ≤ big then .ok ys (backD st st' vs) else .stuck
    | _ => .stuck
  else .stuck
section
variable {X : Cx} {g : G} {W : WX} {P : Par} {σ : L2.St} {H F : Hp} {st : DSt} {e : Expr}
theorem wipe_len (σ : L2.St) (vs : List Nat) : (L2.wipe σ vs).length = σ.length := by rw [L2.wipe_length]
theorem wipe_in {σ : L2.St} {i : Nat} : ∀ {vs : List Nat}, i ∈ vs → (L2.wipe σ vs)[i]? = (σ[i]?).map fun _ => none
  | v :: vs, h => by
    by_cases hi : i ∈ vs
    · by_cases hv : i = v
      · subst hv
        rw [← wipe_set (x := none) (σ := σ) (vs := i :: vs) (i := i) List.mem_cons_self]
        have e : ∀ (σ' : L2.St), (L2.wipe σ' (i :: vs)) = (L2.wipe σ' vs).set i none := fun σ' => by simp [L2.wipe]
        rw [e]
        by_cases hl : i < σ.length
        · rw [List.getElem?_set_self (by rw [wipe_len, List.length_set]; exact hl), List.getElem?_eq_getElem hl]; rfl
        · rw [List.getElem?_eq_none (by rw [List.length_set, wipe_len, List.length_set]; omega), List.getElem?_eq_none (by omega)]; rfl
      · have e : (L2.wipe σ (v :: vs)) = (L2.wipe σ vs).set v none := by simp [L2.wipe]
        rw [e, List.getElem?_set_ne (Ne.symm hv), wipe_in hi]
    · have hv : i = v := by rcases List.mem_cons.mp h with e | e; exact e; exact absurd e hi
      subst hv
      have e : (L2.wipe σ (i :: vs)) = (L2.wipe σ vs).set i none := by simp [L2.wipe]
      rw [e]
      by_cases hl : i < σ.length
      · rw [List.getElem?_set_self (by rw [wipe_len]; exact hl), List.getElem?_eq_getElem hl]; rfl
      · rw [List.getElem?_eq_none (by rw [List.length_set, wipe_len]; omega), List.getElem?_eq_none (by omega)]; rfl
  | [], h => by cases h
theorem wipe_sub {σ : L2.St} {vs vs1 : List Nat} (h : ∀ i ∈ vs1, i ∈ vs) : L2.wipe (L2.wipe σ vs1) vs = L2.wipe σ vs := by
  refine List.ext_getElem? fun i => ?_
  by_cases hi : i ∈ vs
  · rw [wipe_in hi, wipe_in hi]
    by_cases hj : i ∈ vs1
    · rw [wipe_in hj]; cases σ[i]? <;> rfl
    · rw [wipe_out hj]
  · rw [wipe_out hi, wipe_out hi, wipe_out fun hj => hi (h i hj)]
theorem compB_imp {vs vs1 : List Nat} {t t1 : Tg} {fi fi1 : Den (List D)} {test test1 : Den Bool} {elt : Den D} {Q : VK} (hv : ∀ i ∈ t.is, i ∈ vs) (hv1 : ∀ i ∈ t1.is, i ∈ vs1) (hsub : ∀ i ∈ vs1, i ∈ vs)
    (q : tN g W (dCompB vs vs1 t fi test t1 fi1 test1 elt) σ H Q) : tLc2 (tI g W fi) (tG g t) (tT g WN test) (tI g WN fi1) (tG g t1) (tT g WN test1) (tE g WN elt) vs vs1 σ H Q := by
  obtain ⟨P, F, st, s, o⟩ := q
  refine ⟨P, F, st, s, o.bind.imp fun ds st1 H1 F1 le1 s1 o1 J wk D hD => ?_⟩
  split at o1
  · rename_i hpl
    revert o1
    cases hall : goB vs vs1 t test t1 fi1 test1 elt ds (wipeD st1 vs) with
    | exn c fs stE => exact fun o1 => o1.elim
    | stuck => exact fun o1 => o1.elim
    | ok tot stE =>
      simp only
      split
      · rename_i hbig
        intro o1
        have lenOf : ∀ {P' : Par} {H' F' : Hp} {st' : DSt}, SR g P' (L2.wipe σ vs) H' F' st' → st'.length = st1.length := fun {P' H' F' st'} s' => by
          have a := s'.len
          have b := s1.len
          rw [wipe_len] at a
          omega
        -- what is left behind i turns
        let Nxt : Nat → Hp → Prop := fun i H => ∃ F' st' accV acc, Same F1 F' ∧ SR g (gd P D accV) (L2.wipe σ vs) H F' st' ∧ Rl g F' accV acc ∧ ∃ zs, goB vs vs1 t test t1 fi1 test1 elt (ds.drop i) st' = .ok zs stE ∧ acc ++ zs = tot
        refine ⟨fun i m H => m = ds.length - i ∧ i ≤ ds.length ∧ Nxt i H, ⟨ds.length, by simp, Nat.zero_le _, F1, wipeD st1 vs, [], [], Same.refl _, ((s1.wipe vs).guard (o := .lst []) hD), .nil, tot, by simpa using hall, rfl⟩, ?_⟩
        rintro i m H2 ⟨rfl, hi, F', st', accV, acc, le, s', racc, zs, hgo, htot⟩
        by_cases hlt : i < ds.length
        · obtain ⟨d0, hd0⟩ : ∃ d, ds[i]? = some d := ⟨ds[i], List.getElem?_eq_getElem hlt⟩
          have hdr : ds.drop i = d0 :: ds.drop (i + 1) := by
            rw [List.drop_eq_getElem_cons hlt]
            have := List.getElem?_eq_getElem hlt
            rw [hd0] at this; rw [← Option.some.inj this]
          rw [hdr] at hgo
          refine .inr ⟨wk.go i H2 (le.trans s'.le) hlt, Nxt (i + 1), fun H' nx => ⟨ds.length - (i + 1), by omega, rfl, hlt, nx⟩, fun x H' y => ?_⟩
          obtain ⟨d, hd, yy⟩ := wk.yld i H2 x H' (le.trans s'.le) hlt y
          obtain ⟨F', le2, s', rd⟩ := s'.yl le yy
          have le := le.trans le2
          have racc := racc.mono le2
          rw [hd0] at hd; cases hd
          unfold goB at hgo
          cases hset : setT t d0 st' with
          | none => rw [hset] at hgo; cases hgo
          | some st2 =>
            rw [hset] at hgo
            refine ⟨gd P D accV, F', st', d0, s', rd, st2, hset, fun xs s2 => ⟨by rw [wipe_setσ hv, wipe_wipe], ?_⟩⟩
            refine ⟨gd P D accV, F', st2, s2, ?_⟩
            simp only at hgo
            have wp : ∀ {P' : Par} {H' F' : Hp} {st3 : DSt}, SR g P' (setσ t.is xs (L2.wipe σ vs)) H' F' st3 → SR g P' (L2.wipe σ vs) H' F' (wipeD st3 vs) := fun {P' H' F' st3} s3 => by
              have := s3.wipe vs
              rw [wipe_setσ hv, wipe_wipe] at this
              exact this
            revert hgo
            cases test st2 with
            | exn c fs st3 => intro hgo; cases hgo
            | stuck => intro hgo; cases hgo
            | ok b st3 =>
              intro hgo H3 F3 le3 s3
              cases b with
              | false =>
                rw [if_neg Bool.false_ne_true]
                exact ⟨F3, wipeD st3 vs, accV, acc, le.trans le3, wp s3, racc.mono le3, zs, hgo, htot⟩
              | true =>
                rw [if_pos rfl]
                refine ⟨gd P D accV, F3, st3, s3, ?_⟩
                simp only at hgo
                revert hgo
                cases fi1 st3 with
                | exn c fs st4 => intro hgo; cases hgo
                | stuck => intro hgo; cases hgo
                | ok ds1 st4 =>
                  intro hgo H4 F4 le4 s4 J1 wk1
                  simp only at hgo
                  revert hgo
                  cases hin : compGo vs1 t1 test1 elt ds1 (wipeD st4 vs1) with
                  | exn c fs st5 => intro hgo; cases hgo
                  | stuck => intro hgo; cases hgo
                  | ok ys st5 =>
                    intro hgo
                    simp only at hgo
                    revert hgo
                    cases hrest : goB vs vs1 t test t1 fi1 test1 elt (ds.drop (i + 1)) (wipeD st5 vs) with
                    | exn c fs st6 => intro hgo; cases hgo
                    | stuck => intro hgo; cases hgo
                    | ok zs' st6 =>
                      intro hgo
                      simp only [Res.ok.injEq] at hgo
                      obtain ⟨rfl, rfl⟩ := hgo
                      have leA : Same F1 F4 := (le.trans le3).trans le4
                      let σ2 : L2.St := setσ t.is xs (L2.wipe σ vs)
                      have w2 : L2.wipe σ2 vs = L2.wipe σ vs := by show L2.wipe (setσ t.is xs (L2.wipe σ vs)) vs = _; rw [wipe_setσ hv, wipe_wipe]
                      let In : Nat → Hp → Prop := fun j H => ∃ F' st' accV acc, Same F4 F' ∧ SR g (gd P D accV) (L2.wipe σ2 vs1) H F' st' ∧ Rl g F' accV acc ∧ ∃ ys', compGo vs1 t1 test1 elt (ds1.drop j) st' = .ok ys' st5 ∧ acc ++ (ys' ++ zs') = tot
                      refine ⟨fun j k H => k = ds1.length - j ∧ j ≤ ds1.length ∧ In j H, ⟨ds1.length, by simp, Nat.zero_le _, F4, wipeD st4 vs1, accV, acc, Same.refl _, s4.wipe vs1, (racc.mono le3).mono le4, ys, by simpa using hin, htot⟩, ?_⟩
                      rintro j k H5 ⟨rfl, hj, F5, st7, accV5, acc5, le5, s5, racc5, ys', hgo5, htot5⟩
                      by_cases hlt1 : j < ds1.length
                      · obtain ⟨d1, hd1⟩ : ∃ d, ds1[j]? = some d := ⟨ds1[j], List.getElem?_eq_getElem hlt1⟩
                        have hdr1 : ds1.drop j = d1 :: ds1.drop (j + 1) := by
                          rw [List.drop_eq_getElem_cons hlt1]
                          have := List.getElem?_eq_getElem hlt1
                          rw [hd1] at this; rw [← Option.some.inj this]
                        rw [hdr1] at hgo5
                        refine .inr ⟨wk1.go j H5 (le5.trans s5.le) hlt1, In (j + 1), fun H' nx => ⟨ds1.length - (j + 1), by omega, rfl, hlt1, nx⟩, fun x1 H' y1 => ?_⟩
                        obtain ⟨d, hd, yy1⟩ := wk1.yld j H5 x1 H' (le5.trans s5.le) hlt1 y1
                        obtain ⟨F5, le6, s5, rd1⟩ := s5.yl le5 yy1
                        have le5 := le5.trans le6
                        have racc5 := racc5.mono le6
                        rw [hd1] at hd; cases hd
                        unfold compGo at hgo5
                        cases hset1 : setT t1 d1 st7 with
                        | none => rw [hset1] at hgo5; cases hgo5
                        | some st8 =>
                          rw [hset1] at hgo5
                          refine ⟨gd P D accV5, F5, st7, d1, s5, rd1, st8, hset1, fun xs1 s8 => ⟨by rw [wipe_setσ hv1, wipe_wipe], ?_⟩⟩
                          refine ⟨gd P D accV5, F5, st8, s8, ?_⟩
                          simp only at hgo5
                          have wp1 : ∀ {P' : Par} {H' F' : Hp} {st3 : DSt}, SR g P' (setσ t1.is xs1 (L2.wipe σ2 vs1)) H' F' st3 → SR g P' (L2.wipe σ2 vs1) H' F' (wipeD st3 vs1) := fun {P' H' F' st3} s3 => by
                            have := s3.wipe vs1
                            rw [wipe_setσ hv1, wipe_wipe] at this
                            exact this
                          revert hgo5
                          cases test1 st8 with
                          | exn c fs st9 => intro hgo; cases hgo
                          | stuck => intro hgo; cases hgo
                          | ok b1 st9 =>
                            intro hgo5 H9 F9 le9 s9
                            cases b1 with
                            | false =>
                              rw [if_neg Bool.false_ne_true]
                              exact ⟨F9, wipeD st9 vs1, accV5, acc5, le5.trans le9, wp1 s9, racc5.mono le9, ys', hgo5, htot5⟩
                            | true =>
                              rw [if_pos rfl]
                              refine ⟨gd P D accV5, F9, st9, s9, ?_⟩
                              simp only at hgo5
                              revert hgo5
                              cases elt st9 with
                              | exn c fs st10 => intro hgo; cases hgo
                              | stuck => intro hgo; cases hgo
                              | ok y st10 =>
                                intro hgo5 H10 F10 le10 s10 v rv
                                simp only at hgo5
                                revert hgo5
                                cases hr : compGo vs1 t1 test1 elt (ds1.drop (j + 1)) (wipeD st10 vs1) with
                                | exn c fs st11 => intro hgo; cases hgo
                                | stuck => intro hgo; cases hgo
                                | ok ys2 st11 =>
                                  intro hgo5
                                  simp only [Res.ok.injEq] at hgo5
                                  obtain ⟨rfl, rfl⟩ := hgo5
                                  have hD10 := s10.guard_at
                                  have hb : big = sizeLine := big_eq
                                  have hacc : acc5.length < big := by
                                    rw [← htot5] at hbig
                                    simp only [List.length_append, List.length_cons] at hbig
                                    omega
                                  refine ⟨accV5, hD10, by rw [racc5.length, ← hb]; exact hacc, F10, wipeD st10 vs1, accV5 ++ [v], acc5 ++ [y], (le5.trans le9).trans le10, (wp1 s10).reguard, (racc5.mono (le9.trans le10)).append (.cons rv .nil), ys2, hr, ?_⟩
                                  rw [← htot5]; simp
                      · have ej : j = ds1.length := by omega
                        subst ej
                        rw [List.drop_length] at hgo5
                        cases hgo5
                        refine .inl ⟨wk1.stop H5 (le5.trans s5.le), F5, wipeD st5 vs, accV5, acc5, leA.trans le5, ?_, racc5, zs', hrest, by simpa using htot5⟩
                        have := s5.wipe vs
                        rw [wipe_sub hsub, w2] at this
                        exact this
        · have ei : i = ds.length := by omega
          subst ei
          rw [List.drop_length] at hgo
          cases hgo
          refine .inl ⟨wk.stop H2 (le.trans s'.le), ?_⟩
          rw [List.append_nil] at htot
          subst htot
          exact o1 H2 F' D accV le (s'.unguard s1 hD le (lenOf s') hpl) s'.guard_at racc
      · exact fun o1 => o1.elim
  · exact o1.elim
theorem ev_compB {vs vs1 : List Nat} {t t1 : Tg} {fi fi1 : Den (List D)} {test test1 : Den Bool} {elt : Den D} (he : PE X e (tLc2 (tI g W fi) (tG g t) (tT g WN test) (tI g WN fi1) (tG g t1) (tT g WN test1) (tE g WN elt) vs vs1))
    (hv : ∀ i ∈ t.is, i ∈ vs := by decide) (hv1 : ∀ i ∈ t1.is, i ∈ vs1 := by decide) (hs : ∀ i ∈ vs1, i ∈ vs := by decide) : PE X e (tN g W (dCompB vs vs1 t fi test t1 fi1 test1 elt)) := he.imp fun _ _ _ q => compB_imp hv hv1 hs q
theorem es_ownLc2 {s : Stmt} {i : Nat} {vs vs1 : List Nat} {t t1 : Tg} {fi fi1 : Den (List D)} {test test1 : Den Bool} {elt : Den D} (he : PS X s (tAsg (tLc2 (tI g W fi) (tG g t) (tT g WN test) (tI g WN fi1) (tG g t1) (tT g WN test1) (tE g WN elt) vs vs1) (gName i)))
    (hv : ∀ i ∈ t.is, i ∈ vs := by decide) (hv1 : ∀ i ∈ t1.is, i ∈ vs1 := by decide) (hs : ∀ i ∈ vs1, i ∈ vs := by decide) : PS X s (tS g W (sOwn i (dCompB vs vs1 t fi test t1 fi1 test1 elt))) :=
  es_own (he.imp fun D σ H q => compB_imp hv hv1 hs q)
end
end DL

namespace DL
open PySem PySem.Spec PyProof.Rows L2
/-! ### x[i][j], x a list of lists or data; the second index is a look -/
@[simp] def dIxx (i : Nat) (e1 e2 : Den D) : Den D := fun st => match st[i]? with
  | some (.o2 _) => bindD (dO2 i) (fun _ => bindD e1 fun k1 => bindD (dO2 i) fun dss => bindD (liftO (rowAt dss k1)) fun r => bindD (dPeek e2) fun k2 => liftO (match rowAt r.2 k2 with | some q => some q.2 | none => none)) st
  | _ => dOp2 opIx (dOp2n opIx i e1) e2 st
section
variable {X : Cx} {g : G} {W : WX} {P : Par} {σ : L2.St} {H F : Hp} {st : DSt} {e : Expr} {f h : Den D}
theorem dPeek_ok {f : Den D} {st st' : DSt} {d : D} (h : dPeek f st = .ok d st') : st' = st ∧ nol d = true ∧ ∃ st2, f (st.map frzS) = .ok d st2 := by
  simp only [dPeek] at h
  split at h
  · rename_i d' st2 e
    split at h
    · rename_i hd
      cases h
      exact ⟨rfl, hd, st2, e⟩
    · cases h
  · cases h
theorem dPeek_nox {f : Den D} {st st' : DSt} {c : Str} {fs : List (Str × D)} : dPeek f st ≠ .exn c fs st' := by
  intro h
  simp only [dPeek] at h
  split at h
  · split at h <;> cases h
  · cases h
theorem ev_ixx {i : Nat} (he : PE X e (tOp (rIx g.K) (tOp (rIx g.K) (tVar i) (tE g W f)) (tE g W h))) : PE X e (tE g W (dIxx i f h)) := he.imp fun σ H Q ⟨P, F, st, s, o⟩ => by
  by_cases ho : ∃ dss, st[i]? = some (.o2 dss)
  · obtain ⟨dss0, hst0⟩ := ho
    have o : Out g W P σ F (bindD (dO2 i) (fun _ => bindD f fun k1 => bindD (dO2 i) fun dss => bindD (liftO (rowAt dss k1)) fun r => bindD (dPeek h) fun k2 => liftO (match rowAt r.2 k2 with | some q => some q.2 | none => none)) st) fun d _ H' F' => ∀ v, Rv g F' v d → Q v H' := by
      unfold dIxx at o
      rw [hst0] at o
      exact o
    obtain ⟨_, hst, o0⟩ := dO2_ok o
    obtain ⟨a0, bs0, hv0, _⟩ := s.hide hst0
    refine ⟨_, hv0, P, F, st, s, o0.bind.imp fun k1 st1 H1 F1 le1 s1 o1 v1 rv1 => ?_⟩
    obtain ⟨dss, bs, b, vs, r, z1, hst1, rfl, hd, hb, hbv, rvs, hsq, hat, _, o2, _⟩ := row2 s1 hv0 rv1 o1
    refine .inl ⟨a0, bs.map V.ref, z1, .ref b, rfl, rfl, hsq, hat, ?_⟩
    -- the second index: nothing is changed meanwhile
    obtain ⟨F2, sf2, s2, back⟩ := s1.still
    refine ⟨_, F2, _, s2, ?_⟩
    cases hp : dPeek h st1 with
    | exn c fs st' => exact (dPeek_nox hp).elim
    | stuck => unfold bindD at o2; rw [hp] at o2; exact o2.elim
    | ok k2 st' =>
      obtain ⟨rfl, hk, st2, e2⟩ := dPeek_ok hp
      unfold bindD at o2
      rw [hp] at o2
      rw [e2]
      intro H' F' le s' v2 rv2
      obtain ⟨_, c'⟩ := s'
      obtain ⟨F3, s3, le3, keep⟩ := back H' F' c'.rr le c'.le fun a h1 h2 => (c'.no a ⟨h1, h2⟩).1
      obtain ⟨z, ez, q⟩ := Out.lift o2
      split at ez
      · rename_i q2 hq2
        cases ez
        obtain ⟨z2, rfl, hj2, hd2⟩ := rowAt_some hq2
        cases rv2
        obtain ⟨w, hw, rw'⟩ := rvs.get hd2
        refine .inl ⟨b, vs, z2, w, rfl, rfl, sqL_of (c'.rr _ _ hbv), atI_of (by rw [rvs.length]; exact hj2) hw, ?_⟩
        exact q H' F3 le3 s3 w (rw'.mono le3)
      · cases ez
  · have o : Out g W P σ F (dOp2 opIx (dOp2n opIx i f) h st) fun d _ H' F' => ∀ v, Rv g F' v d → Q v H' := by
      unfold dIxx at o
      split at o
      · rename_i dss hd
        exact absurd ⟨dss, hd⟩ ho
      · exact o
    unfold dOp2 dOp2n at o
    have o := o.bind
    obtain ⟨v, d, hv, _, o1⟩ := o.rd s
    refine ⟨v, hv, P, F, st, s, o1.bind.imp fun y st2 H2 F2 le2 s2 o2 u ry => ?_⟩
    obtain ⟨v', d', hv', rx, o3⟩ := o2.rd s2
    rw [hv] at hv'; cases hv'
    obtain ⟨z, ez, q⟩ := Out.lift o3
    refine vo_ix H2 F2 v u d' y z s2.le rx (.inl ry) ez _ fun w H3 F3 gr rw' => ?_
    have o4 := q H3 F3 gr.f (s2.grow gr)
    exact ⟨P, F3, st2, s2.grow gr, Out.imp (Out.bind o4) fun y2 st4 H4 F4 le4 s4 o5 u2 ry2 => fin2 vo_ix s4 (.inl (rw'.mono le4)) (.inl ry2) o5⟩
end
end DL

/-! The typed layer: a def's meaning over data is a plain function over numbers, truth values, lists and pairs. -/
namespace DL
open PySem L2
def M.bind {α β : Type} : M α → (α → M β) → M β
  | .ok a, k => k a
  | .exn c fs, _ => .exn c fs
  | .stuck, _ => .stuck
@[simp] theorem bind_ok {α β : Type} (a : α) (k : α → M β) : (M.ok a).bind k = k a := rfl
@[simp] theorem bind_exn {α β : Type} (c : Str) (fs : List (Str × D)) (k : α → M β) : (M.exn c fs : M α).bind k = .exn c fs := rfl
@[simp] theorem bind_stuck {α β : Type} (k : α → M β) : (M.stuck : M α).bind k = .stuck := rfl
theorem bind_bind {α β γ : Type} (a : M α) (f : α → M β) (g : β → M γ) : (a.bind f).bind g = a.bind fun x => (f x).bind g := by cases a <;> rfl
theorem bind_pure {α : Type} (a : M α) : (a.bind fun x => .ok x) = a := by cases a <;> rfl
def oM {α : Type} : Option α → M α
  | some a => .ok a
  | none => .stuck
@[simp] theorem oM_some {α : Type} (a : α) : oM (some a) = .ok a := rfl
@[simp] theorem oM_none {α : Type} : oM (none : Option α) = .stuck := rfl
/-! ### kinds of data -/
@[reducible] def eD (d : D) : D := d
@[reducible] def eI (i : Int) : D := .int i
@[reducible] def eB (b : Bool) : D := .bl b
@[reducible] def eS (s : Str) : D := .str s
@[reducible] def eU (_ : Unit) : D := .non
def eL {α : Type} (e : α → D) (xs : List α) : D := .lst (xs.map e)
def eT {α : Type} (e : α → D) (xs : List α) : D := .tup (xs.map e)
def eP2 {α β : Type} (a : α → D) (b : β → D) (x : α × β) : D := .tup [a x.1, b x.2]
def eP3 {α β γ : Type} (a : α → D) (b : β → D) (c : γ → D) (x : α × β × γ) : D := .tup [a x.1, b x.2.1, c x.2.2]
def eP4 {α β γ δ : Type} (a : α → D) (b : β → D) (c : γ → D) (d : δ → D) (x : α × β × γ × δ) : D := .tup [a x.1, b x.2.1, c x.2.2.1, d x.2.2.2]
def eP5 {α β γ δ ε : Type} (a : α → D) (b : β → D) (c : γ → D) (d : δ → D) (e : ε → D) (x : α × β × γ × δ × ε) : D := .tup [a x.1, b x.2.1, c x.2.2.1, d x.2.2.2.1, e x.2.2.2.2]
def eO {α : Type} (e : α → D) : Option α → D
  | none => .non
  | some a => e a
def eC2 {α β : Type} (c n1 n2 : Str) (a : α → D) (b : β → D) (x : α × β) : D := .ins c [n1, n2] [a x.1, b x.2]
def eC3 {α β γ : Type} (c n1 n2 n3 : Str) (a : α → D) (b : β → D) (d : γ → D) (x : α × β × γ) : D := .ins c [n1, n2, n3] [a x.1, b x.2.1, d x.2.2]
/-! ### expressions -/
/-- f's value at st is v of what o gives; then st' stands -/
def RE {α δ : Type} (f : Den δ) (st : DSt) (o : M α) (v : α → δ) (st' : DSt) : Prop := match o with
  | .ok c => f st = .ok (v c) st'
  | .exn c fs => ∃ s, f st = .exn c fs s
  | .stuck => True
def RV {δ : Type} (f : Den δ) (st : DSt) (x : δ) (st' : DSt) : Prop := f st = .ok x st'
def OP {α δ : Type} (x : Option δ) (o : M α) (v : α → δ) : Prop := match o with
  | .ok c => x = some (v c)
  | .exn _ _ => False
  | .stuck => True
def DM {α : Type} (m : M D) (o : M α) (v : α → D) : Prop := match o with
  | .ok c => m = .ok (v c)
  | .exn c fs => m = .exn c fs
  | .stuck => True
section
variable {α β δ ε : Type} {st st1 st2 st' : DSt} {v : α → δ} {w : β → ε}
theorem re_bindP {a : Den δ} {x : δ} {k : δ → Den ε} {o : M β} (h1 : RV a st x st1) (h2 : RE (k x) st1 o w st2) : RE (bindD a k) st o w st2 := by
  have e : bindD a k st = k x st1 := by unfold bindD; rw [h1]
  cases o with
  | ok c => rw [RE, e]; exact h2
  | exn c fs => obtain ⟨s, h⟩ := h2; exact ⟨s, by rw [e]; exact h⟩
  | stuck => trivial
theorem re_bindG {a : Den δ} {o : M α} {k : δ → Den ε} {o2 : α → M β} (h1 : RE a st o v st1) (h2 : ∀ c, RE (k (v c)) st1 (o2 c) w st2) : RE (bindD a k) st (o.bind o2) w st2 := by
  cases o with
  | ok c => exact re_bindP (show RV a st (v c) st1 from h1) (h2 c)
  | exn c fs => obtain ⟨s, h⟩ := h1; exact ⟨s, by unfold bindD; rw [h]⟩
  | stuck => trivial
theorem re_assoc {ζ : Type} {a : Den δ} {g : δ → Den ε} {k : ε → Den ζ} {o : M β} {w : β → ζ} (h : RE (bindD a fun x => bindD (g x) k) st o w st2) : RE (bindD (bindD a g) k) st o w st2 := by
  have e : bindD (bindD a g) k st = bindD a (fun x => bindD (g x) k) st := by unfold bindD; cases a st <;> rfl
  cases o with
  | ok c => rw [RE, e]; exact h
  | exn c fs => obtain ⟨s, h⟩ := h; exact ⟨s, by rw [e]; exact h⟩
  | stuck => trivial
theorem re_rv {f : Den ε} {c : β} (h : RV f st (w c) st2) : RE f st (.ok c) w st2 := h
theorem rv_bind {a : Den δ} {k : δ → Den ε} {x : δ} {y : ε} (h1 : RV a st x st1) (h2 : RV (k x) st1 y st2) : RV (bindD a k) st y st2 := by
  unfold RV bindD; rw [h1]; exact h2
theorem rv_assoc {ζ : Type} {a : Den δ} {g : δ → Den ε} {k : ε → Den ζ} {y : ζ} (h : RV (bindD a fun x => bindD (g x) k) st y st2) : RV (bindD (bindD a g) k) st y st2 := by
  have e : bindD (bindD a g) k st = bindD a (fun x => bindD (g x) k) st := by unfold bindD; cases a st <;> rfl
  rw [RV, e]; exact h
theorem rv_ret {x : δ} : RV (retD x) st x st := rfl
theorem rv_lift {x : Option δ} {y : δ} (h : x = some y) : RV (liftO x) st y st := by unfold RV liftO; rw [h]
theorem re_lift {x : Option δ} {o : M α} (h : OP x o v) : RE (liftO x) st o v st := by
  cases o with
  | ok c => exact rv_lift h
  | exn c fs => exact h.elim
  | stuck => trivial
theorem re_liftM {m : M D} {o : M α} {v : α → D} (h : DM m o v) : RE (liftM' m) st o v st := by
  cases o with
  | ok c => unfold RE liftM'; rw [show m = _ from h]
  | exn c fs => exact ⟨st, by unfold liftM'; rw [show m = _ from h]⟩
  | stuck => trivial
theorem rv_eq {f : Den δ} {x y : δ} (h : RV f st x st2) (e : x = y) : RV f st y st2 := e ▸ h
theorem re_map {γ : Type} {f : Den δ} {o : M α} {g : α → γ} {w : γ → δ} (h : RE f st o v st2) (e : ∀ c, v c = w (g c)) : RE f st (o.bind fun c => .ok (g c)) w st2 := by
  cases o with
  | ok c => show f st = _; rw [← e]; exact h
  | exn c fs => exact h
  | stuck => trivial
theorem re_co {f : Den δ} {o : M α} {w : α → δ} (h : RE f st o v st2) (e : ∀ c, v c = w c) : RE f st o w st2 := by
  cases o with
  | ok c => show f st = _; rw [← e]; exact h
  | exn c fs => exact h
  | stuck => trivial
/-- a value that is there, or not -/
theorem re_get {f : Den D} {x : Option α} {e : α → D} (h : RV f st (eO e x) st2) : RE f st (oM x) e st2 := by
  cases x with
  | some a => exact h
  | none => trivial
theorem re_getG {f : Den D} {o : M (Option α)} {e : α → D} (h : RE f st o (eO e) st2) : RE f st (o.bind oM) e st2 := by
  cases o with
  | ok x => cases x with
    | some a => exact h
    | none => trivial
  | exn c fs => exact h
  | stuck => trivial
theorem re_ite {a b : Den δ} {x : Bool} {o1 o2 : M α} (h1 : x = true → RE a st o1 v st2) (h2 : x = false → RE b st o2 v st2) : RE (if x = true then a else b) st (if x = true then o1 else o2) v st2 := by
  cases x with
  | true => exact h1 rfl
  | false => exact h2 rfl
theorem rv_ite {a b : Den δ} {x : Bool} {u z : δ} (h1 : x = true → RV a st u st2) (h2 : x = false → RV b st z st2) : RV (if x = true then a else b) st (if x = true then u else z) st2 := by
  cases x with
  | true => exact h1 rfl
  | false => exact h2 rfl
theorem rv_and {b : Den Bool} {x y : Bool} (h : x = true → RV b st y st) : RV (if x = true then b else retD false) st (x && y) st := by
  cases x with
  | true => exact h rfl
  | false => rfl
theorem rv_or {b : Den Bool} {x y : Bool} (h : x = false → RV b st y st) : RV (if x = true then retD true else b) st (x || y) st := by
  cases x with
  | true => rfl
  | false => exact h rfl
end
/-! ### a name's content -/
section
variable {α : Type} {st : DSt} {e : α → D} {i : Nat}
theorem rv_var {d : D} (h : st[i]? = some (.sh d)) : RV (dVar i) st d st := by unfold RV dVar; rw [h]
theorem rv_frz {ds : List D} (h : st[i]? = some (.ow ds)) : RV (dVar i) st (.lst ds) (st.set i (.sh (.lst ds))) := by unfold RV dVar; rw [h]
theorem rv_frz2 {dss : List (List D)} (h : st[i]? = some (.o2 dss)) : RV (dVar i) st (.lst (dss.map .lst)) (st.set i (.sh (.lst (dss.map .lst)))) := by unfold RV dVar; rw [h]
theorem rv_frzL {xss : List (List α)} (h : st[i]? = some (.o2 (xss.map (List.map e)))) : RV (dVar i) st (eL (eL e) xss) (st.set i (.sh (eL (eL e) xss))) := by
  have q : eL (eL e) xss = .lst ((xss.map (List.map e)).map .lst) := by simp [eL, List.map_map, Function.comp_def]
  rw [q]; exact rv_frz2 h
theorem rv_rd {d : D} (h : st[i]? = some (.sh d)) : RV (dRd i) st d st := by unfold RV dRd; rw [h]
theorem rv_rdO {ds : List D} (h : st[i]? = some (.ow ds)) : RV (dRd i) st (.lst ds) st := by unfold RV dRd; rw [h]
theorem rv_rdR {ds : List D} {k : Nat} (h : st[i]? = some (.rf k ds)) : RV (dRd i) st (.lst ds) st := by unfold RV dRd; rw [h]
theorem rv_ow {ds : List D} (h : st[i]? = some (.ow ds)) : RV (dOw i) st ds st := by unfold RV dOw; rw [h]
theorem rv_owR {ds : List D} {k : Nat} (h : st[i]? = some (.rf k ds)) : RV (dOw i) st ds st := by unfold RV dOw; rw [h]
theorem rv_setOw {ds ys : List D} (h : st[i]? = some (.ow ds)) : RV (setOw i ys) st () (st.set i (.ow ys)) := by unfold RV setOw; rw [h]
theorem rv_setR {ds ys : List D} {k : Nat} (h : st[i]? = some (.rf k ds)) : RV (setOw i ys) st () (st.set i (.rf k ys)) := by unfold RV setOw; rw [h]
end
/-! ### equality -/
structure Py {α : Type} (e : α → D) (k : Nat) where
  py : α → PyData
  to : ∀ a, toPy (e a) = some (py a)
  lay : ∀ a, (py a).canLay0 = true
  dep : ∀ a, (py a).depth ≤ k
  eqv : ∀ a b, PyData.eqv (py a) (py b) = true ↔ a = b
def pyI : Py eI 0 := ⟨.int, fun _ => by simp [eI, toPy], fun _ => by simp [PyData.canLay0], fun _ => by simp [PyData.depth], fun a b => by simp [PyData.eqv]⟩
def pyB : Py eB 0 := ⟨.bool, fun _ => by simp [eB, toPy], fun _ => by simp [PyData.canLay0], fun _ => by simp [PyData.depth], fun a b => by simp [PyData.eqv]⟩
def pyU : Py eU 0 := ⟨fun _ => .none, fun _ => by simp [eU, toPy], fun _ => by simp [PyData.canLay0], fun _ => by simp [PyData.depth], fun a b => by simp [PyData.eqv]⟩
section
variable {α β γ δ : Type} {a : α → D} {b : β → D} {c : γ → D} {d : δ → D} {k l m n : Nat}
theorem toPys_map (p : Py a k) : ∀ xs : List α, toPys (xs.map a) = some (xs.map p.py)
  | [] => by simp [toPys]
  | x :: xs => by simp [toPys, p.to, toPys_map p xs]
theorem layAll_map (p : Py a k) : ∀ xs : List α, PyData.canLayAll0 (xs.map p.py) = true
  | [] => by simp [PyData.canLayAll0]
  | x :: xs => by simp [PyData.canLayAll0, p.lay, layAll_map p xs]
theorem depAll_map (p : Py a k) : ∀ xs : List α, PyData.depthAll (xs.map p.py) ≤ k
  | [] => by simp [PyData.depthAll]
  | x :: xs => by have := p.dep x; have := depAll_map p xs; simp [PyData.depthAll]; omega
theorem eqvAll_map (p : Py a k) : ∀ xs ys : List α, PyData.eqvAll (xs.map p.py) (ys.map p.py) = true ↔ xs = ys
  | [], [] => by simp [PyData.eqvAll]
  | [], y :: ys => by simp [PyData.eqvAll]
  | x :: xs, [] => by simp [PyData.eqvAll]
  | x :: xs, y :: ys => by simp [PyData.eqvAll, p.eqv, eqvAll_map p xs ys]
def pyL (p : Py a k) : Py (eL a) (k + 1) := ⟨fun xs => .list (xs.map p.py), fun xs => by simp [eL, toPy, toPys_map p], fun xs => by simp [PyData.canLay0, layAll_map p], fun xs => by have := depAll_map p xs; simp [PyData.depth]; omega, fun xs ys => by simp [PyData.eqv, eqvAll_map p]⟩
def pyT (p : Py a k) : Py (eT a) (k + 1) := ⟨fun xs => .tuple (xs.map p.py), fun xs => by simp [eT, toPy, toPys_map p], fun xs => by simp [PyData.canLay0, layAll_map p], fun xs => by have := depAll_map p xs; simp [PyData.depth]; omega, fun xs ys => by simp [PyData.eqv, eqvAll_map p]⟩
def pyP2 (p : Py a k) (q : Py b l) : Py (eP2 a b) (k + l + 1) := ⟨fun x => .tuple [p.py x.1, q.py x.2], fun x => by simp [eP2, toPy, toPys, p.to, q.to], fun x => by simp [PyData.canLay0, PyData.canLayAll0, p.lay, q.lay],
  fun x => by have := p.dep x.1; have := q.dep x.2; simp [PyData.depth, PyData.depthAll]; omega, fun x y => by obtain ⟨x1, x2⟩ := x; obtain ⟨y1, y2⟩ := y; simp [PyData.eqv, PyData.eqvAll, p.eqv, q.eqv]⟩
def pyP3 (p : Py a k) (q : Py b l) (r : Py c m) : Py (eP3 a b c) (k + l + m + 1) := ⟨fun x => .tuple [p.py x.1, q.py x.2.1, r.py x.2.2], fun x => by simp [eP3, toPy, toPys, p.to, q.to, r.to], fun x => by simp [PyData.canLay0, PyData.canLayAll0, p.lay, q.lay, r.lay],
  fun x => by have := p.dep x.1; have := q.dep x.2.1; have := r.dep x.2.2; simp [PyData.depth, PyData.depthAll]; omega, fun x y => by obtain ⟨x1, x2, x3⟩ := x; obtain ⟨y1, y2, y3⟩ := y; simp [PyData.eqv, PyData.eqvAll, p.eqv, q.eqv, r.eqv]⟩
def pyP4 (p : Py a k) (q : Py b l) (r : Py c m) (s : Py d n) : Py (eP4 a b c d) (k + l + m + n + 1) := ⟨fun x => .tuple [p.py x.1, q.py x.2.1, r.py x.2.2.1, s.py x.2.2.2], fun x => by simp [eP4, toPy, toPys, p.to, q.to, r.to, s.to], fun x => by simp [PyData.canLay0, PyData.canLayAll0, p.lay, q.lay, r.lay, s.lay],
  fun x => by have := p.dep x.1; have := q.dep x.2.1; have := r.dep x.2.2.1; have := s.dep x.2.2.2; simp [PyData.depth, PyData.depthAll]; omega, fun x y => by obtain ⟨x1, x2, x3, x4⟩ := x; obtain ⟨y1, y2, y3, y4⟩ := y; simp [PyData.eqv, PyData.eqvAll, p.eqv, q.eqv, r.eqv, s.eqv]⟩
/-- .. or None -/
def pyO (p : Py a k) (hn : ∀ x, PyData.eqv .none (p.py x) = false ∧ PyData.eqv (p.py x) .none = false) : Py (eO a) k := ⟨fun x => match x with | none => .none | some x => p.py x, fun x => by cases x <;> simp [eO, toPy, p.to], fun x => by cases x <;> simp [PyData.canLay0, p.lay],
  fun x => by cases x with | none => simp [PyData.depth] | some x => exact p.dep x, fun x y => by
    cases x with
    | none => cases y with
      | none => simp [PyData.eqv]
      | some y => simp only [(hn y).1]; simp
    | some x => cases y with
      | none => simp only [(hn x).2]; simp
      | some y => simp only [p.eqv, Option.some.injEq]⟩
theorem shaped_of (p : Py a k) (hk : k ≤ 64 := by decide) (x : α) : SeqAt.shaped (p.py x) = true := by have := p.dep x; simp [SeqAt.shaped, p.lay x]; omega
theorem eq_py (p : Py a k) [DecidableEq α] {x y : α} (hk : k ≤ 64 := by decide) : opEq (a x) (a y) = some (eB (decide (x = y))) := by
  have h : PyData.eqv (p.py x) (p.py y) = decide (x = y) := by
    by_cases e : x = y
    · subst e; simp [(p.eqv x x).mpr rfl]
    · simp only [e, decide_false]; exact Bool.eq_false_iff.mpr fun z => e ((p.eqv x y).mp z)
  simp [eqD, p.to, shaped_of p hk, h, eB]
theorem ne_py (p : Py a k) [DecidableEq α] {x y : α} (hk : k ≤ 64 := by decide) : opNe (a x) (a y) = some (eB (!decide (x = y))) := by
  have := eq_py p (x := x) (y := y) hk
  simp only [opEq] at this
  simp only [opNe]
  cases h : eqD (a x) (a y) with
  | none => rw [h] at this; cases this
  | some z => rw [h] at this; simp only [Option.some.injEq, D.bl.injEq, eB] at this; simp [this, eB]
theorem any_py (p : Py a k) [DecidableEq α] (x : α) : ∀ xs : List α, ((xs.map p.py).any fun z => PyData.eqv z (p.py x)) = decide (x ∈ xs)
  | [] => by simp
  | y :: ys => by
    have ih := any_py p x ys
    have : PyData.eqv (p.py y) (p.py x) = decide (x = y) := by
      by_cases e : x = y
      · subst e; simp [(p.eqv x x).mpr rfl]
      · simp only [e, decide_false]; exact Bool.eq_false_iff.mpr fun z => e ((p.eqv y x).mp z).symm
    simp only [List.map_cons, List.any_cons, ih, this, List.mem_cons, Bool.decide_or]
theorem shapedL (p : Py a k) (hk : k ≤ 63) (xs : List α) : SeqAt.shaped (.list (xs.map p.py)) = true := shaped_of (pyL p) (by omega) xs
theorem shapedT (p : Py a k) (hk : k ≤ 63) (xs : List α) : SeqAt.shaped (.tuple (xs.map p.py)) = true := shaped_of (pyT p) (by omega) xs
/-- flat kinds: numbers, texts, truth values -/
structure Fl1 (e : α → D) : Prop where
  fl : ∀ x, flatD (e x) = true
  eq : ∀ x y, eqF (e x) (e y) = true ↔ x = y
theorem fl_I : Fl1 eI := ⟨fun _ => rfl, fun x y => by simp [eI, eqF]⟩
theorem fl_B : Fl1 eB := ⟨fun _ => rfl, fun x y => by simp [eB, eqF]⟩
theorem fl_S : Fl1 eS := ⟨fun _ => rfl, fun x y => by simp [eS, eqF]⟩
theorem anyF (p : Fl1 a) [DecidableEq α] (x : α) : ∀ xs : List α, ((xs.map a).any fun y => eqF y (a x)) = decide (x ∈ xs)
  | [] => by simp
  | y :: ys => by
    have ih := anyF p x ys
    have : eqF (a y) (a x) = decide (x = y) := by
      by_cases e : x = y
      · subst e; simp [(p.eq x x).mpr rfl]
      · simp only [e, decide_false]; exact Bool.eq_false_iff.mpr fun z => e ((p.eq y x).mp z).symm
    simp only [List.map_cons, List.any_cons, ih, this, List.mem_cons, Bool.decide_or]
theorem allF (p : Fl1 a) (xs : List α) : (xs.map a).all flatD = true := by simp [p.fl]
/-- is it there -/
def has [DecidableEq α] (x : α) (xs : List α) : Bool := decide (x ∈ xs)
@[simp] theorem has_iff [DecidableEq α] {x : α} {xs : List α} : has x xs = true ↔ x ∈ xs := by simp [has]
theorem has_eq [DecidableEq α] {x : α} {xs : List α} : has x xs = decide (x ∈ xs) := rfl
theorem in_fl (p : Fl1 a) [DecidableEq α] {x : α} {xs : List α} : inD (a x) (eL a xs) = some (has x xs) ∧ inD (a x) (eT a xs) = some (has x xs) := by
  constructor <;> simp only [inD, eL, eT, p.fl, allF p, Bool.and_self, if_true, anyF p, has]
theorem in_py (p : Py a k) [DecidableEq α] {x : α} {xs : List α} (hf : ∀ x, flatD (a x) = false := by intro _; rfl) (hk : k ≤ 63 := by decide) : inD (a x) (eL a xs) = some (has x xs) ∧ inD (a x) (eT a xs) = some (has x xs) := by
  constructor <;> simp only [inD, eL, eT, hf, Bool.false_and, if_false, p.to, toPys_map p, shaped_of p (by omega), shapedL p hk, shapedT p hk, Bool.and_self, if_true, any_py p, has] <;> rfl
theorem inL_ {x y : D} {z : Bool} (h : inD x y = some z) : opIn x y = some (eB z) := by simp [h]
theorem ninL_ {x y : D} {z : Bool} (h : inD x y = some z) : opNotIn x y = some (eB !z) := by simp [h]
/-- the first place -/
def pIndex [DecidableEq α] (xs : List α) (x : α) : M Int := if x ∈ xs then .ok (xs.idxOf x) else .stuck
theorem ixF_eq (p : Fl1 a) [DecidableEq α] (x : α) : ∀ (xs : List α) (i : Nat), ixF (fun z => eqF z (a x)) i (xs.map a) = if x ∈ xs then some (i + xs.idxOf x) else none
  | [], i => by simp [ixF]
  | y :: ys, i => by
    have ih := ixF_eq p x ys (i + 1)
    by_cases e : x = y
    · subst e; simp [ixF, (p.eq x x).mpr rfl]
    · have h1 : eqF (a y) (a x) = false := Bool.eq_false_iff.mpr fun z => e ((p.eq y x).mp z).symm
      have h2 : ¬ y = x := fun z => e z.symm
      simp only [List.map_cons, ixF, h1, ih, List.mem_cons, e, false_or, List.idxOf_cons]
      have h3 : (y == x) = false := by simp [h2]
      simp only [h3, cond_false]
      simp only [Bool.false_eq_true, if_false]
      by_cases hm : x ∈ ys
      · simp [hm, h2]; omega
      · simp [hm]
theorem ixP_eq (p : Py a k) [DecidableEq α] (x : α) : ∀ (xs : List α) (i : Nat), ixP (fun z => PyData.eqv z (p.py x)) i (xs.map p.py) = if x ∈ xs then some (i + xs.idxOf x) else none
  | [], i => by simp [ixP]
  | y :: ys, i => by
    have ih := ixP_eq p x ys (i + 1)
    by_cases e : x = y
    · subst e; simp [ixP, (p.eqv x x).mpr rfl]
    · have h1 : PyData.eqv (p.py y) (p.py x) = false := Bool.eq_false_iff.mpr fun z => e ((p.eqv y x).mp z).symm
      have h2 : ¬ y = x := fun z => e z.symm
      simp only [List.map_cons, ixP, h1, ih, List.mem_cons, e, false_or, List.idxOf_cons]
      have h3 : (y == x) = false := by simp [h2]
      simp only [h3, cond_false]
      simp only [Bool.false_eq_true, if_false]
      by_cases hm : x ∈ ys
      · simp [hm, h2]; omega
      · simp [hm]
theorem index_fl (p : Fl1 a) [DecidableEq α] {x : α} {xs : List α} : OP (opIndex (eL a xs) (a x)) (pIndex xs x) eI := by
  unfold pIndex
  by_cases h : x ∈ xs
  · simp [h, OP, opIndex, eL, p.fl, allF p, ixF_eq p, eI]
  · simp [h, OP]
theorem index_py (p : Py a k) [DecidableEq α] {x : α} {xs : List α} (hf : ∀ x, flatD (a x) = false := by intro _; rfl) (hk : k ≤ 63 := by decide) : OP (opIndex (eL a xs) (a x)) (pIndex xs x) eI := by
  unfold pIndex
  by_cases h : x ∈ xs
  · simp [h, OP, opIndex, eL, hf, p.to, toPys_map p, shaped_of p (show k ≤ 64 by omega), shapedL p hk, ixP_eq p, eI]
  · simp [h, OP]
end
end DL

namespace DL
open PySem L2
/-! ### operations -/
theorem ixN_lt {n : Nat} {i : Int} {j : Nat} (h : ixN n i = some j) : j < n := by
  unfold ixN at h
  split at h
  · split at h
    · cases h; omega
    · cases h
  · split at h
    · cases h; omega
    · cases h
theorem atI_map {α β : Type} (e : α → β) (xs : List α) (i : Int) : atI (xs.map e) i = (atI xs i).map e := by
  unfold atI
  rw [List.length_map]
  cases h : ixN xs.length i with
  | none => rfl
  | some j => simp
def pAt {α : Type} (xs : List α) (i : Int) : M α := oM (atI xs i)
section
variable {α β γ δ : Type} {e : α → D}
theorem op_oM {x : Option D} {o : Option α} (h : x = o.map e) : OP x (oM o) e := by
  cases o with
  | none => trivial
  | some a => exact h
theorem op_D {x : Option D} : OP x (oM x) eD := by
  cases x with
  | none => trivial
  | some a => rfl
theorem op_atL {xs : List α} {i : Int} : OP (opIx (eL e xs) (eI i)) (pAt xs i) e := op_oM (atI_map e xs i)
theorem op_atT {xs : List α} {i : Int} : OP (opIx (eT e xs) (eI i)) (pAt xs i) e := op_oM (atI_map e xs i)
theorem op_lenL {xs : List α} : opLen (eL e xs) = some (eI (xs.length : Int)) := by simp [opLen, eL]
theorem op_lenT {xs : List α} : opLen (eT e xs) = some (eI (xs.length : Int)) := by simp [opLen, eT]
def pLenS (z : Str) : M Int := if z.length ≤ big then .ok (z.length : Int) else .stuck
theorem op_lenS {z : Str} : OP (opLen (eS z)) (pLenS z) eI := by
  unfold pLenS
  by_cases h : z.length ≤ big
  · rw [if_pos h]; simp only [OP, opLen, eS, h, if_true]
  · rw [if_neg h]; trivial
def pMul (a b : Int) : M Int := if smallI a || smallI b then .ok (a * b) else .stuck
theorem op_mul {a b : Int} : OP (opMul (eI a) (eI b)) (pMul a b) eI := by
  unfold pMul
  by_cases h : (smallI a || smallI b) = true
  · rw [if_pos h]; simp only [OP, opMul, h, if_true]
  · rw [if_neg h]; trivial
def pDiv (a b : Int) : M Int := if b ≠ 0 ∧ b.natAbs < 1073741824 then .ok (a.fdiv b) else .stuck
theorem op_div {a b : Int} : OP (opDiv (eI a) (eI b)) (pDiv a b) eI := by
  unfold pDiv
  by_cases h : b ≠ 0 ∧ b.natAbs < 1073741824
  · rw [if_pos h]; simp only [OP, opDiv, h]; simp [h]
  · rw [if_neg h]; trivial
def pMod (a b : Int) : M Int := if b ≠ 0 then .ok (a.fmod b) else .stuck
theorem op_mod {a b : Int} : OP (opMod (eI a) (eI b)) (pMod a b) eI := by
  unfold pMod
  by_cases h : b ≠ 0
  · rw [if_pos h]; simp only [OP, opMod, h]; simp [h]
  · rw [if_neg h]; trivial
def pCat (xs ys : List α) : M (List α) := if xs.length + ys.length ≤ big then .ok (xs ++ ys) else .stuck
theorem op_catT {xs ys : List α} : OP (opAdd (eT e xs) (eT e ys)) (pCat xs ys) (eT e) := by
  unfold pCat
  by_cases h : xs.length + ys.length ≤ big
  · rw [if_pos h]; simp only [OP, opAdd, eT, List.length_map, h, if_true, List.map_append]
  · rw [if_neg h]; trivial
theorem op_catL {xs ys : List α} : OP (opAdd (eL e xs) (eL e ys)) (pCat xs ys) (eL e) := by
  unfold pCat
  by_cases h : xs.length + ys.length ≤ big
  · rw [if_pos h]; simp only [OP, opAdd, eL, List.length_map, h, if_true, List.map_append]
  · rw [if_neg h]; trivial
theorem op_nCat {xs ys : List α} : OP (nAdd (eL e xs) (eL e ys)) (pCat xs ys) (List.map e) := by
  unfold pCat
  by_cases h : xs.length + ys.length ≤ big
  · rw [if_pos h]; simp only [OP, nAdd, eL, List.length_map, h, if_true, List.map_append]
  · rw [if_neg h]; trivial
def pCatS (x y : Str) : M Str := if x.length + y.length ≤ big then .ok (x ++ y) else .stuck
theorem op_catS {x y : Str} : OP (opAdd (eS x) (eS y)) (pCatS x y) eS := by
  unfold pCatS
  by_cases h : x.length + y.length ≤ big
  · rw [if_pos h]; simp only [OP, opAdd, eS, h, if_true]
  · rw [if_neg h]; trivial
def pRep (xs : List α) (k : Int) : M (List α) := if xs.length * k.toNat ≤ big ∧ k.natAbs < 9223372036854775808 then .ok (List.replicate k.toNat xs).flatten else .stuck
theorem op_nRep {xs : List α} {k : Int} : OP (nMul (eL e xs) (eI k)) (pRep xs k) (List.map e) := by
  unfold pRep
  by_cases h : xs.length * k.toNat ≤ big ∧ k.natAbs < 9223372036854775808
  · rw [if_pos h]; simp only [OP, nMul, eL, eI, List.length_map]; rw [if_pos h]; simp [List.map_flatten, List.map_replicate]
  · rw [if_neg h]; trivial
def pMin (xs : List Int) : M Int := if xs.isEmpty then .stuck else .ok (minL xs)
def pMax (xs : List Int) : M Int := if xs.isEmpty then .stuck else .ok (maxL xs)
theorem intsOf_map : ∀ xs : List Int, intsOf (xs.map eI) = some xs
  | [] => rfl
  | x :: xs => by simp [intsOf, intsOf_map xs]
theorem blsOf_map : ∀ xs : List Bool, blsOf (xs.map eB) = some xs
  | [] => rfl
  | x :: xs => by simp [blsOf, blsOf_map xs]
theorem op_minL {xs : List Int} : OP (opMinA (eL eI xs)) (pMin xs) eI := by
  unfold pMin
  cases h : xs.isEmpty with
  | true => trivial
  | false => simp only [OP, opMinA, onIntsT, eL, intsOf_map, h]; simp
theorem op_minT {xs : List Int} : OP (opMinA (eT eI xs)) (pMin xs) eI := by
  unfold pMin
  cases h : xs.isEmpty with
  | true => trivial
  | false => simp only [OP, opMinA, onIntsT, eT, intsOf_map, h]; simp
theorem op_maxL {xs : List Int} : OP (opMaxA (eL eI xs)) (pMax xs) eI := by
  unfold pMax
  cases h : xs.isEmpty with
  | true => trivial
  | false => simp only [OP, opMaxA, onIntsT, eL, intsOf_map, h]; simp
theorem op_maxT {xs : List Int} : OP (opMaxA (eT eI xs)) (pMax xs) eI := by
  unfold pMax
  cases h : xs.isEmpty with
  | true => trivial
  | false => simp only [OP, opMaxA, onIntsT, eT, intsOf_map, h]; simp
theorem op_sum {xs : List Int} : opSum (eL eI xs) = some (eI xs.sum) := by simp only [opSum, onInts, eL, intsOf_map]
theorem op_all {xs : List Bool} : opAll (eL eB xs) = some (eB (xs.all id)) := by simp only [opAll, onBls, eL, blsOf_map]
theorem op_any {xs : List Bool} : opAny (eL eB xs) = some (eB (xs.any id)) := by simp only [opAny, onBls, eL, blsOf_map]
theorem op_sorted {xs : List Int} : nSorted (eL eI xs) = some ((sortI xs).map eI) := by simp only [nSorted, eL, intsOf_map]
theorem cutD_map {β : Type} (f : α → β) (xs : List α) (lo hi : Option Int) : cutD (xs.map f) lo hi = (cutD xs lo hi).map f := by
  unfold cutD; rw [List.length_map, List.map_take, List.map_drop]
theorem op_slL {xs : List α} {lo hi : Option Int} : opSl (eL e xs) lo hi = some (eL e (cutD xs lo hi)) := by simp only [opSl, eL, cutD_map]
theorem op_slT {xs : List α} {lo hi : Option Int} : opSl (eT e xs) lo hi = some (eT e (cutD xs lo hi)) := by simp only [opSl, eT, cutD_map]
def rng (n : Int) : List Int := (List.range n.toNat).map fun k : Nat => (k : Int)
def rng2 (m n : Int) : List Int := (List.range (n - m).toNat).map fun k : Nat => m + (k : Int)
def pRng (n : Int) : M (List Int) := if n.natAbs ≤ big then .ok (rng n) else .stuck
def pRng2 (m n : Int) : M (List Int) := if m.natAbs ≤ big ∧ n.natAbs ≤ big then .ok (rng2 m n) else .stuck
theorem op_rng {n : Int} : OP (rngD (eI n)) (pRng n) (List.map eI) := by
  unfold pRng
  by_cases h : n.natAbs ≤ big
  · rw [if_pos h]; simp only [OP, rngD, rangeL, h, if_true, rng, List.map_map, eI]; rfl
  · rw [if_neg h]; trivial
theorem op_rng2 {m n : Int} : OP (rngD2 (eI m) (eI n)) (pRng2 m n) (List.map eI) := by
  unfold pRng2
  by_cases h : m.natAbs ≤ big ∧ n.natAbs ≤ big
  · rw [if_pos h]; simp only [OP, rngD2, rangeL2, eI]; rw [if_pos h]; simp only [rng2, List.map_map]; rfl
  · rw [if_neg h]; trivial
theorem rgL_rng {n : Int} : rgL (0, n) = (rng n).map eI := by
  simp only [rgL, rng, List.map_map, Int.sub_zero]
  congr 1; funext k; simp
theorem big_eqI : (big : Int) = 16777216 := rfl
/-- list(range(n)), tuple(range(n)) -/
theorem re_lrg {n : Int} {st : DSt} : RE (fun st => dLstRg (dRg1 (dC (eI n))) st) st (pRng n) (List.map eI) st := by
  unfold pRng
  by_cases h : n.natAbs ≤ big
  · rw [if_pos h]
    have h2 : n ≤ (big : Int) := by have := big_eqI; have : big = 16777216 := rfl; omega
    show dLstRg (dRg1 (dC (eI n))) st = _
    simp only [dLstRg, dRg1, dC, bindD, retD, asI, h, if_true, liftO, h2, rgL_rng]
  · rw [if_neg h]; trivial
theorem re_lrgP {a : Den D} {n : Int} {st st1 : DSt} (h : RV a st (eI n) st1) : RE (dLstRg (dRg1 a)) st (pRng n) (List.map eI) st1 := by
  have e : dLstRg (dRg1 a) st = dLstRg (dRg1 (dC (eI n))) st1 := by simp only [dLstRg, dRg1, bindD, dC, retD]; rw [show a st = _ from h]
  have := re_lrg (n := n) (st := st1)
  revert this
  unfold RE
  cases pRng n with
  | ok c => intro q; rw [e]; exact q
  | exn c fs => intro ⟨s, q⟩; exact ⟨s, by rw [e]; exact q⟩
  | stuck => intro _; trivial
theorem re_lrgG {a : Den D} {o : M Int} {st st1 : DSt} (h : RE a st o eI st1) : RE (dLstRg (dRg1 a)) st (o.bind pRng) (List.map eI) st1 := by
  cases o with
  | ok c => exact re_lrgP h
  | exn c fs => obtain ⟨s, h⟩ := h; exact ⟨s, by simp only [dLstRg, dRg1, bindD]; rw [h]⟩
  | stuck => trivial
theorem re_trgP {a : Den D} {n : Int} {st st1 : DSt} (h : RV a st (eI n) st1) : RE (dTupRg (dRg1 a)) st (pRng n) (eT eI) st1 := by
  unfold pRng
  by_cases hb : n.natAbs ≤ big
  · rw [if_pos hb]
    have h2 : n ≤ (big : Int) := by have := big_eqI; have : big = 16777216 := rfl; omega
    show dTupRg (dRg1 a) st = _
    simp only [dTupRg, dRg1, bindD]; rw [show a st = _ from h]; simp only [asI, hb, if_true, liftO, h2, rgL_rng]; rfl
  · rw [if_neg hb]; trivial
theorem re_trgG {a : Den D} {o : M Int} {st st1 : DSt} (h : RE a st o eI st1) : RE (dTupRg (dRg1 a)) st (o.bind pRng) (eT eI) st1 := by
  cases o with
  | ok c => exact re_trgP h
  | exn c fs => obtain ⟨s, h⟩ := h; exact ⟨s, by simp only [dTupRg, dRg1, bindD]; rw [h]⟩
  | stuck => trivial
def rg2L (m n : Int) : M (List Int) := if 0 ≤ m ∧ m ≤ big ∧ 0 ≤ n ∧ n ≤ big then .ok (rng2 m n) else .stuck
theorem rg2_rng {m n : Int} : rgL (m, n) = (rng2 m n).map eI := by
  simp only [rgL, rng2, List.map_map]; rfl
theorem re_trg2P {a b : Den D} {m n : Int} {st st1 st2 : DSt} (h : RV a st (eI m) st1) (h2 : RV b st1 (eI n) st2) : RE (dTupRg (dRg2 a b)) st (rg2L m n) (eT eI) st2 := by
  unfold rg2L
  by_cases hb : 0 ≤ m ∧ m ≤ big ∧ 0 ≤ n ∧ n ≤ big
  · rw [if_pos hb]
    show dTupRg (dRg2 a b) st = _
    simp only [dTupRg, dRg2, bindD]; rw [show a st = _ from h]; simp only []; rw [show b st1 = _ from h2]; simp only [asI, liftO]; rw [if_pos hb]; simp only [hb.2.2.2, if_true, rg2_rng]; rfl
  · rw [if_neg hb]; trivial
theorem re_lrg2P {a b : Den D} {m n : Int} {st st1 st2 : DSt} (h : RV a st (eI m) st1) (h2 : RV b st1 (eI n) st2) : RE (dLstRg (dRg2 a b)) st (rg2L m n) (List.map eI) st2 := by
  unfold rg2L
  by_cases hb : 0 ≤ m ∧ m ≤ big ∧ 0 ≤ n ∧ n ≤ big
  · rw [if_pos hb]
    show dLstRg (dRg2 a b) st = _
    simp only [dLstRg, dRg2, bindD]; rw [show a st = _ from h]; simp only []; rw [show b st1 = _ from h2]; simp only [asI, liftO]; rw [if_pos hb]; simp only [hb.2.2.2, if_true, rg2_rng]; rfl
  · rw [if_neg hb]; trivial
def pSqr (z : Option D) : M D := oM z
/-- the length of a display -/
theorem op_tup {ds : List D} {d : D} (hl : ds.length ≤ 64) (h : .tup ds = d) : (if ds.length ≤ big then some (D.tup ds) else none) = some d := by
  rw [if_pos (by have : big = 16777216 := rfl; omega), h]
theorem op_lst {ds : List D} {zs : List D} (hl : ds.length ≤ 64) (h : ds = zs) : (if ds.length ≤ big then some ds else none) = some zs := by
  rw [if_pos (by have : big = 16777216 := rfl; omega), h]
end
/-! ### comprehensions -/
def mapGo {α β : Type} (f : α → M β) : List α → M (List β)
  | [] => .ok []
  | x :: xs => match f x with
    | .ok y => match mapGo f xs with
      | .ok ys => .ok (y :: ys)
      | _ => .stuck
    | _ => .stuck
def filGo {α β : Type} (p : α → M Bool) (f : α → M β) : List α → M (List β)
  | [] => .ok []
  | x :: xs => match p x with
    | .ok true => (match f x with
      | .ok y => (match filGo p f xs with
        | .ok ys => .ok (y :: ys)
        | _ => .stuck)
      | _ => .stuck)
    | .ok false => filGo p f xs
    | _ => .stuck
def pMap {α β : Type} (f : α → M β) (xs : List α) : M (List β) := if xs.length ≤ big then mapGo f xs else .stuck
def pFil {α β : Type} (p : α → M Bool) (f : α → M β) (xs : List α) : M (List β) := if xs.length ≤ big then filGo p f xs else .stuck
def goP {α β γ : Type} (p : α → M Bool) (g : α → M (List β)) (q : α → β → M Bool) (f : α → β → M γ) : List α → M (List γ)
  | [] => .ok []
  | x :: xs => match p x with
    | .ok true => (match g x with
      | .ok ys => (match filGo (q x) (f x) ys with
        | .ok zs => (match goP p g q f xs with
          | .ok ws => .ok (zs ++ ws)
          | _ => .stuck)
        | _ => .stuck)
      | _ => .stuck)
    | .ok false => goP p g q f xs
    | _ => .stuck
def pFilB {α β γ : Type} (p : α → M Bool) (g : α → M (List β)) (q : α → β → M Bool) (f : α → β → M γ) (xs : List α) : M (List γ) := match goP p g q f xs with
  | .ok zs => if zs.length ≤ big then .ok zs else .stuck
  | _ => .stuck
section
variable {α β γ : Type}
theorem mapGo_fil (f : α → M β) : ∀ xs : List α, mapGo f xs = filGo (fun _ => .ok true) f xs
  | [] => rfl
  | x :: xs => by simp only [mapGo, filGo, mapGo_fil f xs]
theorem mapGo_ok {f : α → M β} {g : α → β} : ∀ {xs : List α}, (∀ x ∈ xs, f x = .ok (g x)) → mapGo f xs = .ok (xs.map g)
  | [], _ => rfl
  | x :: xs, h => by
    have ih := mapGo_ok (f := f) (g := g) (xs := xs) fun x hx => h x (List.mem_cons_of_mem _ hx)
    simp only [mapGo, h x List.mem_cons_self, ih, List.map_cons]
theorem filGo_ok {p : α → M Bool} {f : α → M β} {q : α → Bool} {g : α → β} : ∀ {xs : List α}, (∀ x ∈ xs, p x = .ok (q x)) → (∀ x ∈ xs, q x = true → f x = .ok (g x)) → filGo p f xs = .ok ((xs.filter q).map g)
  | [], _, _ => rfl
  | x :: xs, h, h2 => by
    have ih := filGo_ok (p := p) (f := f) (q := q) (g := g) (xs := xs) (fun x hx => h x (List.mem_cons_of_mem _ hx)) fun x hx => h2 x (List.mem_cons_of_mem _ hx)
    by_cases hq : q x = true
    · simp only [filGo, h x List.mem_cons_self, hq, h2 x List.mem_cons_self hq, ih, List.filter_cons, if_true, List.map_cons]
    · simp only [Bool.not_eq_true] at hq
      simp only [filGo, h x List.mem_cons_self, hq, ih, List.filter_cons]; simp
theorem pMap_ok {f : α → M β} (g : α → β) {xs : List α} (hl : xs.length ≤ big) (h : ∀ x ∈ xs, f x = .ok (g x)) : pMap f xs = .ok (xs.map g) := by
  unfold pMap; rw [if_pos hl, mapGo_ok h]
theorem pFil_ok {p : α → M Bool} {f : α → M β} (q : α → Bool) (g : α → β) {xs : List α} (hl : xs.length ≤ big) (h : ∀ x ∈ xs, p x = .ok (q x)) (h2 : ∀ x ∈ xs, q x = true → f x = .ok (g x)) : pFil p f xs = .ok ((xs.filter q).map g) := by
  unfold pFil; rw [if_pos hl, filGo_ok h h2]
variable {vs : List Nat} {t : Tg} {elt : Den D} {test : Den Bool} {e : α → D} {e2 : β → D} {st st0 : DSt}
theorem compGo_typed {f : α → M β} {p : α → M Bool} (hb : ∀ x, ∃ st1 st2 st3, setT t (e x) st0 = some st1 ∧ RE test st1 (p x) (fun b : Bool => b) st2 ∧ RE elt st2 (f x) e2 st3 ∧ wipeD st2 vs = st0 ∧ wipeD st3 vs = st0) :
    ∀ xs : List α, match filGo p f xs with | .ok ys => compGo vs t test elt (xs.map e) st0 = .ok (ys.map e2) st0 | _ => True
  | [] => rfl
  | x :: xs => by
    obtain ⟨st1, st2, st3, h1, ht, h2, h2', h3⟩ := hb x
    have ih := compGo_typed hb xs
    simp only [filGo]
    cases hp : p x with
    | ok c =>
      rw [hp] at ht
      cases c with
      | true =>
        cases hf : f x with
        | ok y =>
          rw [hf] at h2
          cases hr : filGo p f xs with
          | ok ys =>
            rw [hr] at ih
            simp only [] at ih ⊢
            simp only [List.map_cons, compGo, h1]
            rw [show test st1 = .ok true st2 from ht]
            simp only []
            rw [show elt st2 = _ from h2]
            simp only [h3, ih]
          | exn c fs => trivial
          | stuck => trivial
        | exn c fs => trivial
        | stuck => trivial
      | false =>
        simp only []
        cases hr : filGo p f xs with
        | ok ys =>
          rw [hr] at ih
          simp only [] at ih ⊢
          simp only [List.map_cons, compGo, h1]
          rw [show test st1 = .ok false st2 from ht]
          simp only [h2', ih]
        | exn c fs => trivial
        | stuck => trivial
    | exn c fs => trivial
    | stuck => trivial
theorem filGo_exn {p : α → M Bool} {f : α → M β} {c : Str} {fs : List (Str × D)} : ∀ xs : List α, filGo p f xs ≠ .exn c fs
  | [] => fun z => by cases z
  | x :: xs => fun z => by
    have ih := filGo_exn (p := p) (f := f) (c := c) (fs := fs) xs
    simp only [filGo] at z
    split at z
    · split at z
      · split at z
        · cases z
        · cases z
      · cases z
    · exact ih z
    · cases z
/-- the comprehension behind its list -/
def compK (vs : List Nat) (t : Tg) (test : Den Bool) (elt : Den D) (ds : List D) : Den (List D) := fun st =>
  if ds.length ≤ big ∧ vs.all (plainAt st) = true then
    match compGo vs t test elt ds (wipeD st vs) with
    | .ok ys st' => .ok ys (backD st st' vs)
    | _ => .stuck
  else .stuck
theorem re_compF {xs : List α} {f : α → M β} {p : α → M Bool} (st0 : DSt) (hw : wipeD st vs = st0) (hp : vs.all (plainAt st) = true) (hbk : backD st st0 vs = st)
    (hb : ∀ x, ∃ st1 st2 st3, setT t (e x) st0 = some st1 ∧ RE test st1 (p x) (fun b : Bool => b) st2 ∧ RE elt st2 (f x) e2 st3 ∧ wipeD st2 vs = st0 ∧ wipeD st3 vs = st0) : RE (compK vs t test elt (xs.map e)) st (pFil p f xs) (List.map e2) st := by
  unfold pFil
  by_cases hl : xs.length ≤ big
  · rw [if_pos hl]
    have h := compGo_typed hb xs
    cases hr : filGo p f xs with
    | ok ys =>
      rw [hr] at h
      simp only [] at h
      show compK vs t test elt (xs.map e) st = _
      unfold compK
      rw [if_pos ⟨by rw [List.length_map]; exact hl, hp⟩, hw, h]
      simp only [hbk]
    | exn c fs => exact absurd hr (filGo_exn xs)
    | stuck => trivial
  · rw [if_neg hl]; trivial
theorem re_compM {xs : List α} {f : α → M β} (st0 : DSt) (hw : wipeD st vs = st0) (hp : vs.all (plainAt st) = true) (hbk : backD st st0 vs = st)
    (hb : ∀ x, ∃ st1 st3, setT t (e x) st0 = some st1 ∧ RE elt st1 (f x) e2 st3 ∧ wipeD st1 vs = st0 ∧ wipeD st3 vs = st0) : RE (compK vs t dYes elt (xs.map e)) st (pMap f xs) (List.map e2) st := by
  have h := re_compF (xs := xs) (f := f) (p := fun _ => .ok true) (vs := vs) (t := t) (test := dYes) (elt := elt) (e := e) (e2 := e2) st0 hw hp hbk fun x => by
    obtain ⟨st1, st3, h1, h2, h3, h4⟩ := hb x
    exact ⟨st1, st1, st3, h1, rfl, h2, h3, h4⟩
  unfold pFil at h
  unfold pMap
  rw [mapGo_fil]
  exact h
theorem re_comp {fi : Den (List D)} {st' : DSt} {o : M (List β)} {v : List β → List D} (h : RE (bindD fi (compK vs t test elt)) st o v st') : RE (dComp vs t fi test elt) st o v st' := h
end
end DL

namespace DL
open PySem L2
/-! ### statements -/
def RS {γ : Type} (X : Bool) (f : DS) (st : DSt) (o : M γ) (K : γ → Fl → DSt → Prop) : Prop := match o with
  | .ok c => ∃ fl st', f st = .ok fl st' ∧ K c fl st'
  | .exn c fs => X = true → ∃ s, f st = .exn c fs s
  | .stuck => True
/-- a statement that goes on -/
def RX {γ : Type} (f : DS) (st : DSt) (o : M γ) (S : γ → DSt) : Prop := match o with
  | .ok c => f st = .ok .nx (S c)
  | .exn c fs => ∃ s, f st = .exn c fs s
  | .stuck => True
inductive F (σ ρ : Type) where
  | nx (a : σ) | ret (r : ρ) | brk (a : σ) | cnt (a : σ)
def KN {σ : Type} (I : σ → DSt → Prop) (c : σ) (fl : Fl) (st : DSt) : Prop := fl = .nx ∧ I c st
def KF {σ ρ : Type} (I : σ → DSt → Prop) (R : ρ → Fl → DSt → Prop) (c : F σ ρ) (fl : Fl) (st : DSt) : Prop := match c with
  | .nx a => fl = .nx ∧ I a st
  | .ret r => R r fl st
  | .brk a => fl = .brk ∧ I a st
  | .cnt a => fl = .cnt ∧ I a st
def pfold {α σ : Type} (f : α → σ → M σ) : List α → σ → M σ
  | [], a => .ok a
  | x :: xs, a => (f x a).bind (pfold f xs)
def pfor {α σ ρ : Type} (f : α → σ → M (F σ ρ)) : List α → σ → M (σ ⊕ ρ)
  | [], a => .ok (.inl a)
  | x :: xs, a => (f x a).bind fun c => match c with
    | .nx a => pfor f xs a
    | .cnt a => pfor f xs a
    | .brk a => .ok (.inl a)
    | .ret r => .ok (.inr r)
def pwhile {σ : Type} (t : σ → M Bool) (f : σ → M σ) : Nat → σ → M σ
  | 0, _ => .stuck
  | n + 1, a => (t a).bind fun c => if c = true then (f a).bind (pwhile t f n) else .ok a
def pwhileF {σ ρ : Type} (t : σ → M Bool) (f : σ → M (F σ ρ)) : Nat → σ → M (σ ⊕ ρ)
  | 0, _ => .stuck
  | n + 1, a => (t a).bind fun c => if c = true then (f a).bind fun c => match c with
    | .nx a => pwhileF t f n a
    | .cnt a => pwhileF t f n a
    | .brk a => .ok (.inl a)
    | .ret r => .ok (.inr r) else .ok (.inl a)
def pK {σ ρ γ : Type} (r : σ ⊕ ρ) (k : σ → M γ) (h : ρ → γ) : M γ := match r with
  | .inl a => k a
  | .inr r => .ok (h r)
@[simp] theorem pK_inl {σ ρ γ : Type} (a : σ) (k : σ → M γ) (h : ρ → γ) : pK (.inl a) k h = k a := rfl
@[simp] theorem pK_inr {σ ρ γ : Type} (r : ρ) (k : σ → M γ) (h : ρ → γ) : pK (.inr r) k h = .ok (h r) := rfl
/-- a slot nobody looks at: empty, or with a value -/
def jk : Option D → Slot
  | none => .no
  | some d => .sh d
theorem plain_jk (j : Option D) : (match (some (jk j)) with | some .no => true | some (.sh _) => true | _ => false) = true := by cases j <;> rfl
section
variable {γ δ α β σ ρ τ : Type} {X : Bool} {st st1 st2 : DSt} {K : γ → Fl → DSt → Prop} {o : M γ} {b : DS} {v : α → δ}
theorem rs_last {f : DS} (h : RS X (sSeq f sPass) st o K) : RS X f st o K := by
  have e : sSeq f sPass st = f st := by
    unfold sSeq
    cases hf : f st with
    | ok fl st' => cases fl <;> rfl
    | exn c fs s => rfl
    | stuck => rfl
  cases o with
  | ok c => obtain ⟨fl, st', h1, h2⟩ := h; exact ⟨fl, st', by rw [← e]; exact h1, h2⟩
  | exn c fs => intro hx; obtain ⟨s, h⟩ := h hx; exact ⟨s, by rw [← e]; exact h⟩
  | stuck => trivial
theorem rs_of_eq {f g : DS} {st1 : DSt} (e : f st = g st1) (h : RS X g st1 o K) : RS X f st o K := by
  cases o with
  | ok c => obtain ⟨fl, st', h1, h2⟩ := h; exact ⟨fl, st', by rw [e]; exact h1, h2⟩
  | exn c fs => intro hx; obtain ⟨s, h⟩ := h hx; exact ⟨s, by rw [e]; exact h⟩
  | stuck => trivial
theorem rs_bindP {a : Den δ} {k : δ → DS} {x : δ} (h1 : RV a st x st1) (h2 : RS X (sSeq (k x) b) st1 o K) : RS X (sSeq (bindD a k) b) st o K :=
  rs_of_eq (by unfold sSeq bindD; rw [show a st = _ from h1]) h2
theorem rs_bindG {a : Den δ} {k : δ → DS} {o1 : M α} {o2 : α → M γ} (h1 : RE a st o1 v st1) (h2 : ∀ c, RS X (sSeq (k (v c)) b) st1 (o2 c) K) : RS X (sSeq (bindD a k) b) st (o1.bind o2) K := by
  cases o1 with
  | ok c => exact rs_bindP (show RV a st (v c) st1 from h1) (h2 c)
  | exn c fs => intro _; obtain ⟨s, h⟩ := h1; exact ⟨s, by unfold sSeq bindD; rw [h]⟩
  | stuck => trivial
theorem rs_x {f : DS} {o1 : M α} {o2 : α → M γ} {S : α → DSt} (h1 : RX f st o1 S) (h2 : ∀ c, RS X b (S c) (o2 c) K) : RS X (sSeq f b) st (o1.bind o2) K := by
  cases o1 with
  | ok c => exact rs_of_eq (by unfold sSeq; rw [show f st = _ from h1]) (h2 c)
  | exn c fs => intro _; obtain ⟨s, h⟩ := h1; exact ⟨s, by unfold sSeq; rw [h]⟩
  | stuck => trivial
theorem rs_exec {f : DS} (h1 : f st = .ok .nx st1) (h2 : RS X b st1 o K) : RS X (sSeq f b) st o K := rs_of_eq (by unfold sSeq; rw [h1]) h2
theorem rs_ret {c : γ} {d : D} (h : K c (.ret d) st) : RS X (sSeq (retD (.ret d)) b) st (.ok c) K := ⟨_, _, rfl, h⟩
theorem rs_brk {c : γ} (h : K c .brk st) : RS X (sSeq sBrk b) st (.ok c) K := ⟨_, _, rfl, h⟩
theorem rs_cnt {c : γ} (h : K c .cnt st) : RS X (sSeq sCnt b) st (.ok c) K := ⟨_, _, rfl, h⟩
theorem rs_nx (h : RS X b st o K) : RS X (sSeq (retD .nx) b) st o K := h
theorem rs_end {c : γ} (h : K c .nx st) : RS X sPass st (.ok c) K := ⟨_, _, rfl, h⟩
theorem rs_seq {f g : DS} (h : RS X (sSeq f (sSeq g b)) st o K) : RS X (sSeq (sSeq f g) b) st o K := by
  refine rs_of_eq (g := sSeq f (sSeq g b)) (st1 := st) ?_ h
  unfold sSeq
  cases f st with
  | ok fl s => cases fl <;> rfl
  | exn c fs s => rfl
  | stuck => rfl
theorem rs_put {i : Nat} {s : Slot} (h1 : slotSet i s st = some st1) (h2 : RS X b st1 o K) : RS X (sSeq (putD i s) b) st o K := rs_exec (by unfold putD; rw [h1]) h2
theorem rs_put2 {i : Nat} {s : List (List D)} (h1 : slotSet i (.o2 s) st = some st1) (h2 : RS X b st1 o K) : RS X (sSeq (putD2 i s) b) st o K := rs_exec (by unfold putD2; rw [h1]) h2
theorem rs_ite {x : Bool} {f g : DS} {o1 o2 : M γ} (h1 : x = true → RS X (sSeq f b) st o1 K) (h2 : x = false → RS X (sSeq g b) st o2 K) : RS X (sSeq (if x = true then f else g) b) st (if x = true then o1 else o2) K := by
  cases x with
  | true => exact h1 rfl
  | false => exact h2 rfl
theorem rs_raise0 {c : Str} : RS X (sSeq (sRaise0 c) b) st (.exn c []) K := fun _ => ⟨st, rfl⟩
theorem rs_raise1 {c f : Str} {d : D} : RS X (sSeq (fun st => .exn c [(f, d)] st) b) st (.exn c [(f, d)]) K := fun _ => ⟨st, rfl⟩
/-- goes on behind -/
theorem rs_join {f : DS} {o1 : M α} {o2 : α → M γ} {I : α → DSt → Prop} (h1 : RS X f st o1 (KN I)) (h2 : ∀ c st', I c st' → RS X b st' (o2 c) K) : RS X (sSeq f b) st (o1.bind o2) K := by
  cases o1 with
  | ok c =>
    obtain ⟨fl, st', e, rfl, hi⟩ := h1
    exact rs_of_eq (st1 := st') (by unfold sSeq; rw [e]) (h2 c st' hi)
  | exn c fs => intro hx; obtain ⟨s, h⟩ := h1 hx; exact ⟨s, by unfold sSeq; rw [h]⟩
  | stuck => trivial
def KS {σ ρ : Type} (I : σ → DSt → Prop) (R : ρ → Fl → DSt → Prop) (c : σ ⊕ ρ) (fl : Fl) (st : DSt) : Prop := match c with
  | .inl a => fl = .nx ∧ I a st
  | .inr r => R r fl st
def KR (K : γ → Fl → DSt → Prop) (h : ρ → γ) (r : ρ) (fl : Fl) (st : DSt) : Prop := (∃ d, fl = .ret d) ∧ K (h r) fl st
theorem rs_joinF {f : DS} {o1 : M (σ ⊕ ρ)} {o2 : σ → M γ} {h : ρ → γ} {I : σ → DSt → Prop} (h1 : RS X f st o1 (KS I (KR K h))) (h2 : ∀ c st', I c st' → RS X b st' (o2 c) K) : RS X (sSeq f b) st (o1.bind fun r => pK r o2 h) K := by
  cases o1 with
  | ok c =>
    obtain ⟨fl, st', e, hk⟩ := h1
    cases c with
    | inl a =>
      obtain ⟨rfl, hi⟩ := hk
      exact rs_of_eq (st1 := st') (by unfold sSeq; rw [e]) (h2 a st' hi)
    | inr r =>
      obtain ⟨⟨d, rfl⟩, hk⟩ := hk
      exact ⟨_, st', by unfold sSeq; rw [e], hk⟩
  | exn c fs => intro hx; obtain ⟨s, h⟩ := h1 hx; exact ⟨s, by unfold sSeq; rw [h]⟩
  | stuck => trivial
variable {t : Tg} {body : DS} {e : α → D} {I : σ → DSt → Prop} {R : ρ → Fl → DSt → Prop}
theorem rs_fold {f : α → σ → M σ} (hb : ∀ x a st, I a st → ∃ st1, setT t (e x) st = some st1 ∧ RS X body st1 (f x a) (KN I)) : ∀ (xs : List α) (a : σ) (st : DSt), I a st → RS X (loop t body (xs.map e)) st (pfold f xs a) (KN I)
  | [], a, st, h => ⟨_, _, rfl, rfl, h⟩
  | x :: xs, a, st, h => by
    obtain ⟨st1, h1, h2⟩ := hb x a st h
    have ih := rs_fold hb xs
    simp only [pfold]
    cases hf : f x a with
    | ok c =>
      rw [hf] at h2
      obtain ⟨fl, st', e1, rfl, hi⟩ := h2
      exact rs_of_eq (st1 := st') (by simp only [List.map_cons, loop, h1, e1]) (ih c st' hi)
    | exn c fs => rw [hf] at h2; intro hx; obtain ⟨s, h2⟩ := h2 hx; exact ⟨s, by simp only [List.map_cons, loop, h1, h2]⟩
    | stuck => trivial
theorem rs_for {f : α → σ → M (F σ ρ)} (hR : ∀ r fl st, R r fl st → ∃ d, fl = .ret d) (hb : ∀ x a st, I a st → ∃ st1, setT t (e x) st = some st1 ∧ RS X body st1 (f x a) (KF I R)) : ∀ (xs : List α) (a : σ) (st : DSt), I a st → RS X (loop t body (xs.map e)) st (pfor f xs a) (KS I R)
  | [], a, st, h => ⟨_, _, rfl, rfl, h⟩
  | x :: xs, a, st, h => by
    obtain ⟨st1, h1, h2⟩ := hb x a st h
    have ih := rs_for hR hb xs
    simp only [pfor]
    cases hf : f x a with
    | ok c =>
      rw [hf] at h2
      obtain ⟨fl, st', e1, hk⟩ := h2
      cases c with
      | nx a => obtain ⟨rfl, hi⟩ := hk; exact rs_of_eq (st1 := st') (by simp only [List.map_cons, loop, h1, e1]) (ih a st' hi)
      | cnt a => obtain ⟨rfl, hi⟩ := hk; exact rs_of_eq (st1 := st') (by simp only [List.map_cons, loop, h1, e1]) (ih a st' hi)
      | brk a => obtain ⟨rfl, hi⟩ := hk; exact ⟨_, st', by simp only [List.map_cons, loop, h1, e1], rfl, hi⟩
      | ret r => obtain ⟨d, rfl⟩ := hR _ _ _ hk; exact ⟨_, st', by simp only [List.map_cons, loop, h1, e1], hk⟩
    | exn c fs => rw [hf] at h2; intro hx; obtain ⟨s, h2⟩ := h2 hx; exact ⟨s, by simp only [List.map_cons, loop, h1, h2]⟩
    | stuck => trivial
theorem rs_while {test : Den Bool} {tp : σ → M Bool} {f : σ → M σ} (ht : ∀ a st, I a st → RE test st (tp a) (fun b : Bool => b) st) (hb : ∀ a st, I a st → RS X body st (f a) (KN I)) : ∀ (n : Nat) (a : σ) (st : DSt), I a st → RS X (sWhile test body n) st (pwhile tp f n a) (KN I)
  | 0, a, st, h => trivial
  | n + 1, a, st, h => by
    have h0 := ht a st h
    have ih := rs_while ht hb n
    simp only [pwhile]
    cases hp : tp a with
    | ok c =>
      rw [hp] at h0
      have h0 : test st = .ok c st := h0
      cases c with
      | false => exact ⟨_, st, by simp only [sWhile, h0], rfl, h⟩
      | true =>
        have h2 := hb a st h
        simp only [bind_ok, if_true]
        cases hf : f a with
        | ok c =>
          rw [hf] at h2
          obtain ⟨fl, st', e1, rfl, hi⟩ := h2
          exact rs_of_eq (st1 := st') (by simp only [sWhile, h0, e1]) (ih c st' hi)
        | exn c fs => rw [hf] at h2; intro hx; obtain ⟨s, h2⟩ := h2 hx; exact ⟨s, by simp only [sWhile, h0, h2]⟩
        | stuck => trivial
    | exn c fs => rw [hp] at h0; intro _; obtain ⟨s, h0⟩ := h0; exact ⟨s, by simp only [sWhile, h0]⟩
    | stuck => trivial
theorem rs_whileF {test : Den Bool} {tp : σ → M Bool} {f : σ → M (F σ ρ)} (hR : ∀ r fl st, R r fl st → ∃ d, fl = .ret d) (ht : ∀ a st, I a st → RE test st (tp a) (fun b : Bool => b) st) (hb : ∀ a st, I a st → RS X body st (f a) (KF I R)) : ∀ (n : Nat) (a : σ) (st : DSt), I a st → RS X (sWhile test body n) st (pwhileF tp f n a) (KS I R)
  | 0, a, st, h => trivial
  | n + 1, a, st, h => by
    have h0 := ht a st h
    have ih := rs_whileF hR ht hb n
    simp only [pwhileF]
    cases hp : tp a with
    | ok c =>
      rw [hp] at h0
      have h0 : test st = .ok c st := h0
      cases c with
      | false => exact ⟨_, st, by simp only [sWhile, h0], rfl, h⟩
      | true =>
        have h2 := hb a st h
        simp only [bind_ok, if_true]
        cases hf : f a with
        | ok c =>
          rw [hf] at h2
          obtain ⟨fl, st', e1, hk⟩ := h2
          cases c with
          | nx a => obtain ⟨rfl, hi⟩ := hk; exact rs_of_eq (st1 := st') (by simp only [sWhile, h0, e1]) (ih a st' hi)
          | cnt a => obtain ⟨rfl, hi⟩ := hk; exact rs_of_eq (st1 := st') (by simp only [sWhile, h0, e1]) (ih a st' hi)
          | brk a => obtain ⟨rfl, hi⟩ := hk; exact ⟨_, st', by simp only [sWhile, h0, e1], rfl, hi⟩
          | ret r => obtain ⟨d, rfl⟩ := hR _ _ _ hk; exact ⟨_, st', by simp only [sWhile, h0, e1], hk⟩
        | exn c fs => rw [hf] at h2; intro hx; obtain ⟨s, h2⟩ := h2 hx; exact ⟨s, by simp only [sWhile, h0, h2]⟩
        | stuck => trivial
    | exn c fs => rw [hp] at h0; intro _; obtain ⟨s, h0⟩ := h0; exact ⟨s, by simp only [sWhile, h0]⟩
    | stuck => trivial
theorem kr_ret {K : γ → Fl → DSt → Prop} {h : ρ → γ} (r : ρ) (fl : Fl) (st : DSt) (q : KR K h r fl st) : ∃ d, fl = .ret d := q.1
/-- a for statement and what stands behind it -/
theorem rs_for0 {xs : List α} {a : σ} {f : α → σ → M σ} {o2 : σ → M γ} (I : σ → DSt → Prop) (h0 : I a st) (hb : ∀ x a st, I a st → ∃ st1, setT t (e x) st = some st1 ∧ RS X body st1 (f x a) (KN I)) (hk : ∀ c st', I c st' → RS X b st' (o2 c) K) :
    RS X (sSeq (loop t body (xs.map e)) b) st ((pfold f xs a).bind o2) K := rs_join (rs_fold hb xs a st h0) hk
theorem rs_for1 {xs : List α} {a : σ} {f : α → σ → M (F σ ρ)} {o2 : σ → M γ} {h : ρ → γ} (I : σ → DSt → Prop) (h0 : I a st) (hb : ∀ x a st, I a st → ∃ st1, setT t (e x) st = some st1 ∧ RS X body st1 (f x a) (KF I (KR K h))) (hk : ∀ c st', I c st' → RS X b st' (o2 c) K) :
    RS X (sSeq (loop t body (xs.map e)) b) st ((pfor f xs a).bind fun r => pK r o2 h) K := rs_joinF (rs_for kr_ret hb xs a st h0) hk
theorem rs_while0 {n : Nat} {a : σ} {test : Den Bool} {tp : σ → M Bool} {f : σ → M σ} {o2 : σ → M γ} (I : σ → DSt → Prop) (h0 : I a st) (ht : ∀ a st, I a st → RE test st (tp a) (fun b : Bool => b) st) (hb : ∀ a st, I a st → RS X body st (f a) (KN I)) (hk : ∀ c st', I c st' → RS X b st' (o2 c) K) :
    RS X (sSeq (sWhile test body n) b) st ((pwhile tp f n a).bind o2) K := rs_join (rs_while ht hb n a st h0) hk
theorem rs_while1 {n : Nat} {a : σ} {test : Den Bool} {tp : σ → M Bool} {f : σ → M (F σ ρ)} {o2 : σ → M γ} {h : ρ → γ} (I : σ → DSt → Prop) (h0 : I a st) (ht : ∀ a st, I a st → RE test st (tp a) (fun b : Bool => b) st) (hb : ∀ a st, I a st → RS X body st (f a) (KF I (KR K h))) (hk : ∀ c st', I c st' → RS X b st' (o2 c) K) :
    RS X (sSeq (sWhile test body n) b) st ((pwhileF tp f n a).bind fun r => pK r o2 h) K := rs_joinF (rs_whileF kr_ret ht hb n a st h0) hk
/-- the end of a def -/
def Kfn {ρ : Type} (e : ρ → D) (r : ρ) (fl : Fl) (_ : DSt) : Prop := fl = .ret (e r) ∨ (fl = .nx ∧ e r = .non)
def Kby {ρ τ : Type} (e : ρ → D) (eτ : τ → D) (r : ρ × List τ) (fl : Fl) (st : DSt) : Prop := (fl = .ret (e r.1) ∨ (fl = .nx ∧ e r.1 = .non)) ∧ ∃ tl, st = .rf 0 (r.2.map eτ) :: tl
def Kini {ρ : Type} (nd : ρ → List Str × List D) (c : Str) (r : ρ) (fl : Fl) (st : DSt) : Prop := fl = .nx ∧ ∃ tl, st = .oi 0 c (nd r).1 (nd r).2 :: tl
theorem fn_F {m n : Nat} {f : DS} {ds : List D} {o : M ρ} {e : ρ → D} (hl : ds.length = m) (h : RS true f (ds.map Slot.sh ++ List.replicate (n - ds.length) .no) o (Kfn e)) : DM (runF m n f ds) o e := by
  unfold runF
  rw [if_pos hl]
  cases o with
  | ok c =>
    obtain ⟨fl, st', e1, hk⟩ := h
    rw [e1]
    rcases hk with rfl | ⟨rfl, hk⟩
    · rfl
    · show M.ok D.non = .ok (e c); rw [hk]
  | exn c fs => obtain ⟨s, h⟩ := h rfl; rw [h]; rfl
  | stuck => trivial
def DR {ρ τ : Type} (m : M (D × List D)) (o : M (ρ × List τ)) (e : ρ → D) (eτ : τ → D) : Prop := match o with
  | .ok c => m = .ok (e c.1, c.2.map eτ)
  | _ => True
theorem fn_R {m n : Nat} {f : DS} {ds : List D} {xs : List τ} {eτ : τ → D} {o : M (ρ × List τ)} {e : ρ → D} (hl : ds.length + 1 = m) (h : RS false f (.rf 0 (xs.map eτ) :: (ds.map Slot.sh ++ List.replicate (n - ds.length - 1) .no)) o (Kby e eτ)) : DR (runR m n f (xs.map eτ) ds) o e eτ := by
  unfold runR
  rw [if_pos hl]
  cases o with
  | ok c =>
    obtain ⟨fl, st', e1, hk, tl, rfl⟩ := h
    rw [e1]
    rcases hk with rfl | ⟨rfl, hk⟩
    · rfl
    · show M.ok (D.non, _) = .ok (e c.1, _); rw [hk]
  | exn c fs => trivial
  | stuck => trivial
theorem fn_I {m n : Nat} {c : Str} {f : DS} {ds : List D} {o : M ρ} {nd : ρ → List Str × List D} (hl : ds.length + 1 = m) (h : RS true f (.oi 0 c [] [] :: (ds.map Slot.sh ++ List.replicate (n - ds.length - 1) .no)) o (Kini nd c)) : DM (makeM c (runI c m n f) ds) o (fun r => .ins c (nd r).1 (nd r).2) := by
  unfold makeM runI
  rw [if_pos hl]
  cases o with
  | ok r =>
    obtain ⟨fl, st', e1, rfl, tl, rfl⟩ := h
    rw [e1]
    simp only [if_true]
    rfl
  | exn c fs => obtain ⟨s, h⟩ := h rfl; rw [h]; rfl
  | stuck => trivial
/-- .. of a def whose errors nobody asks for -/
def D0 {α : Type} (m : M D) (o : M α) (v : α → D) : Prop := match o with
  | .ok c => m = .ok (v c)
  | _ => True
theorem fn_F0 {m n : Nat} {f : DS} {ds : List D} {o : M ρ} {e : ρ → D} (hl : ds.length = m) (h : RS false f (ds.map Slot.sh ++ List.replicate (n - ds.length) .no) o (Kfn e)) : D0 (runF m n f ds) o e := by
  unfold runF
  rw [if_pos hl]
  cases o with
  | ok c =>
    obtain ⟨fl, st', e1, hk⟩ := h
    rw [e1]
    rcases hk with rfl | ⟨rfl, hk⟩
    · rfl
    · show M.ok D.non = .ok (e c); rw [hk]
  | exn c fs => trivial
  | stuck => trivial
end
end DL

namespace DL
open PySem L2
/-! ### lists that change -/
def pApp {α : Type} (xs : List α) (y : α) : M (List α) := if xs.length < big then .ok (xs ++ [y]) else .stuck
def pPop {α : Type} (xs : List α) : M (α × List α) := match xs[xs.length - 1]? with
  | some y => .ok (y, xs.dropLast)
  | none => .stuck
def pSet {α : Type} (xs : List α) (k : Int) (v : α) : M (List α) := match ixN xs.length k with
  | some j => .ok (xs.set j v)
  | none => .stuck
def pSet2 {α : Type} (xss : List (List α)) (k l : Int) (v : α) : M (List (List α)) := (pAt xss k).bind fun r => (pSet r l v).bind fun r => pSet xss k r
def pPopAt {α : Type} (xs : List α) (k : Int) : M (α × List α) := match seqIndex? k xs.length with
  | some j => match xs[j]? with
    | some y => if k.natAbs ≤ big then .ok (y, xs.eraseIdx j) else .stuck
    | none => .stuck
  | none => .stuck
section
variable {α β γ : Type} {e : α → D} {st st1 : DSt} {i : Nat} {xs : List α} {f : Den D}
theorem x_appP {y : α} (h : st[i]? = some (.ow (xs.map e))) (hf : RV f st (e y) st1) (h1 : st1[i]? = some (.ow (xs.map e))) : RX (sExpr (dAppend i f)) st (pApp xs y) (fun ys => st1.set i (.ow (ys.map e))) := by
  unfold pApp
  by_cases hl : xs.length < big
  · rw [if_pos hl]
    show sExpr (dAppend i f) st = _
    simp only [sExpr, dAppend, bindD, dOw, h, mutD, liftO, setOw, retD]
    rw [show f st = _ from hf]
    simp only [h1, List.length_map, hl, if_true, List.map_append, List.map_cons, List.map_nil]
  · rw [if_neg hl]; trivial
theorem x_appG {o : M α} (h : st[i]? = some (.ow (xs.map e))) (hf : RE f st o e st1) (h1 : st1[i]? = some (.ow (xs.map e))) : RX (sExpr (dAppend i f)) st (o.bind fun y => pApp xs y) (fun ys => st1.set i (.ow (ys.map e))) := by
  cases o with
  | ok y => exact x_appP h hf h1
  | exn c fs => obtain ⟨s, hf⟩ := hf; exact ⟨s, by simp only [sExpr, dAppend, bindD, dOw, h]; rw [hf]⟩
  | stuck => trivial
theorem x_appPr {y : α} {k : Nat} (h : st[i]? = some (.rf k (xs.map e))) (hf : RV f st (e y) st1) (h1 : st1[i]? = some (.rf k (xs.map e))) : RX (sExpr (dAppend i f)) st (pApp xs y) (fun ys => st1.set i (.rf k (ys.map e))) := by
  unfold pApp
  by_cases hl : xs.length < big
  · rw [if_pos hl]
    show sExpr (dAppend i f) st = _
    simp only [sExpr, dAppend, bindD, dOw, h, mutD, liftO, setOw, retD]
    rw [show f st = _ from hf]
    simp only [h1, List.length_map, hl, if_true, List.map_append, List.map_cons, List.map_nil]
  · rw [if_neg hl]; trivial
theorem x_appGr {o : M α} {k : Nat} (h : st[i]? = some (.rf k (xs.map e))) (hf : RE f st o e st1) (h1 : st1[i]? = some (.rf k (xs.map e))) : RX (sExpr (dAppend i f)) st (o.bind fun y => pApp xs y) (fun ys => st1.set i (.rf k (ys.map e))) := by
  cases o with
  | ok y => exact x_appPr h hf h1
  | exn c fs => obtain ⟨s, hf⟩ := hf; exact ⟨s, by simp only [sExpr, dAppend, bindD, dOw, h]; rw [hf]⟩
  | stuck => trivial
theorem dropLast_map {β : Type} (f : α → β) : ∀ xs : List α, (xs.map f).dropLast = xs.dropLast.map f
  | [] => rfl
  | [x] => rfl
  | x :: y :: xs => by simp only [List.map_cons, List.dropLast_cons_cons]; rw [← dropLast_map f (y :: xs)]; rfl
/-- x = xs.pop() -/
theorem x_pop {t : Tg} {S : α × List α → DSt} (h : st[i]? = some (.ow (xs.map e))) (hS : ∀ p : α × List α, setT t (e p.1) (st.set i (.ow (p.2.map e))) = some (S p)) : RX (sAsg t (dPop i)) st (pPop xs) S := by
  unfold pPop
  cases hx : xs[xs.length - 1]? with
  | none => trivial
  | some y =>
    have h2 : (xs.map e)[(xs.map e).length - 1]? = some (e y) := by rw [List.length_map, List.getElem?_map, hx]; rfl
    show sAsg t (dPop i) st = _
    have := hS (y, xs.dropLast)
    simp only [sAsg, dPop, bindD, mutD, dOw, h, liftO, h2, setOw, retD, dropLast_map]
    simp only [this]
theorem x_popN {j : Nat} {S : α × List α → DSt} (h : st[i]? = some (.ow (xs.map e))) (hS : ∀ p : α × List α, slotSet j (.sh (e p.1)) (st.set i (.ow (p.2.map e))) = some (S p)) : RX (sSet j (dPop i)) st (pPop xs) S := by
  unfold pPop
  cases hx : xs[xs.length - 1]? with
  | none => trivial
  | some y =>
    have h2 : (xs.map e)[(xs.map e).length - 1]? = some (e y) := by rw [List.length_map, List.getElem?_map, hx]; rfl
    show sSet j (dPop i) st = _
    have := hS (y, xs.dropLast)
    simp only [sSet, dPop, bindD, mutD, dOw, h, liftO, h2, setOw, retD, dropLast_map, putD]
    simp only [this]
/-- xs[k] = v, behind value and index -/
def storeK (i : Nat) (v : D) (k : D) : DS := match k with
  | .int k => bindD (mutD i fun ds => match ixN ds.length k with | some j => some ((), ds.set j v) | none => none) fun _ => retD .nx
  | _ => fun _ => .stuck
theorem x_setK {k : Int} {v : α} (h : st[i]? = some (.ow (xs.map e))) : RX (storeK i (e v) (eI k)) st (pSet xs k v) (fun ys => st.set i (.ow (ys.map e))) := by
  unfold pSet
  cases hx : ixN xs.length k with
  | none => trivial
  | some j =>
    show storeK i (e v) (eI k) st = _
    simp only [storeK, bindD, mutD, dOw, h, liftO, List.length_map, hx, setOw, retD, List.map_set]
theorem x_setKr {k : Int} {v : α} {n : Nat} (h : st[i]? = some (.rf n (xs.map e))) : RX (storeK i (e v) (eI k)) st (pSet xs k v) (fun ys => st.set i (.rf n (ys.map e))) := by
  unfold pSet
  cases hx : ixN xs.length k with
  | none => trivial
  | some j =>
    show storeK i (e v) (eI k) st = _
    simp only [storeK, bindD, mutD, dOw, h, liftO, List.length_map, hx, setOw, retD, List.map_set]
theorem sStore_K {ix f : Den D} {i : Nat} : sStore i ix f = bindD f fun v => bindD (dRd i) fun _ => bindD ix fun k => storeK i v k := rfl
/-- xs[k][l] = v -/
theorem pAt_j {xs : List α} {k : Int} {r : α} (h : pAt xs k = .ok r) : ∃ j, ixN xs.length k = some j ∧ xs[j]? = some r := by
  unfold pAt oM atI at h
  cases hx : ixN xs.length k with
  | none => rw [hx] at h; cases h
  | some j =>
    rw [hx, Option.bind_some] at h
    cases hy : xs[j]? with
    | none => rw [hy] at h; cases h
    | some y => rw [hy] at h; cases h; exact ⟨j, rfl, hy⟩
theorem x_set2 {xss : List (List α)} {e1 e2 f : Den D} {k l : Int} {v : α} (h : st[i]? = some (.o2 (xss.map (List.map e)))) (hf : RV f st (e v) st) (h1 : RV e1 st (eI k) st) (h2 : RV e2 (st.set i .no) (eI l) (st.set i .no)) :
    RX (sStore2 i e1 e2 f) st (pSet2 xss k l v) (fun ys => st.set i (.o2 (ys.map (List.map e)))) := by
  unfold pSet2
  cases hr : pAt xss k with
  | exn c fs => unfold pAt oM at hr; split at hr <;> cases hr
  | stuck => trivial
  | ok r =>
    obtain ⟨j, hj, hr⟩ := pAt_j hr
    simp only [bind_ok]
    unfold pSet
    cases hl : ixN r.length l with
    | none => trivial
    | some q =>
      simp only [bind_ok, hj]
      have hq := ixN_lt hl
      have hil : i < st.length := by
        rcases Nat.lt_or_ge i st.length with z | z
        · exact z
        · rw [List.getElem?_eq_none z] at h; cases h
      have a1 : rowAt (xss.map (List.map e)) (eI k) = some (j, r.map e) := by simp [rowAt, hj, hr]
      have a2 : rowAt (r.map e) (eI l) = some (q, e (r[q]'hq)) := by simp [rowAt, hl, hq]
      have a3 : (st.set i .no)[i]? = some .no := by rw [List.getElem?_set_self hil]
      show sStore2 i e1 e2 f st = _
      simp only [sStore2, bindD]
      rw [show f st = _ from hf]
      simp only [dO2, h]
      rw [show e1 st = _ from h1]
      simp only [h, liftO, a1, hideD, noX]
      rw [show e2 (st.set i .no) = _ from h2]
      simp only [a2, backO, a3, retD, List.set_set]
      congr 1
      simp [List.map_set]
end
/-! ### what hands a list on that changes -/
/-- f gives a value, and what the list is then -/
def RT {α τ δ : Type} (f : Den δ) (st : DSt) (o : M (α × τ)) (v : α → δ) (S : τ → DSt) : Prop := match o with
  | .ok p => f st = .ok (v p.1) (S p.2)
  | _ => True
section
variable {α β τ δ ε : Type} {st st1 : DSt} {S : τ → DSt} {v : α → δ} {w : β → ε}
theorem rt_bindP {a : Den δ} {x : δ} {k : δ → Den ε} {o : M (β × τ)} (h1 : RV a st x st1) (h2 : RT (k x) st1 o w S) : RT (bindD a k) st o w S := by
  have e : bindD a k st = k x st1 := by unfold bindD; rw [h1]
  cases o with
  | ok c => show bindD a k st = _; rw [e]; exact h2
  | exn c fs => trivial
  | stuck => trivial
theorem rt_bindG {a : Den δ} {o : M α} {k : δ → Den ε} {o2 : α → M (β × τ)} (h1 : RE a st o v st1) (h2 : ∀ c, RT (k (v c)) st1 (o2 c) w S) : RT (bindD a k) st (o.bind o2) w S := by
  cases o with
  | ok c => exact rt_bindP (show RV a st (v c) st1 from h1) (h2 c)
  | exn c fs => trivial
  | stuck => trivial
theorem rt_bindS {a : Den δ} {o : M (α × τ)} {k : δ → Den ε} {o2 : α × τ → M (β × τ)} (h1 : RT a st o v S) (h2 : ∀ p, RT (k (v p.1)) (S p.2) (o2 p) w S) : RT (bindD a k) st (o.bind o2) w S := by
  cases o with
  | ok p => exact rt_bindP (show RV a st (v p.1) (S p.2) from h1) (h2 p)
  | exn c fs => trivial
  | stuck => trivial
theorem rt_assoc {ζ : Type} {a : Den δ} {g : δ → Den ε} {k : ε → Den ζ} {o : M (β × τ)} {w : β → ζ} (h : RT (bindD a fun x => bindD (g x) k) st o w S) : RT (bindD (bindD a g) k) st o w S := by
  have e : bindD (bindD a g) k st = bindD a (fun x => bindD (g x) k) st := by unfold bindD; cases a st <;> rfl
  cases o with
  | ok c => show _ = _; rw [e]; exact h
  | exn c fs => trivial
  | stuck => trivial
theorem rt_rv {f : Den δ} {c : α} {r : τ} (h : RV f st (v c) (S r)) : RT f st (.ok (c, r)) v S := h
theorem rt_re {f : Den δ} {o : M α} {r : τ} (h : RE f st o v (S r)) : RT f st (o.bind fun c => .ok (c, r)) v S := by
  cases o with
  | ok c => exact h
  | exn c fs => trivial
  | stuck => trivial
theorem rt_map {γ : Type} {f : Den δ} {o : M (α × τ)} {g : α → γ} {w : γ → δ} (h : RT f st o v S) (e : ∀ c, v c = w (g c)) : RT f st (o.bind fun p => .ok (g p.1, p.2)) w S := by
  cases o with
  | ok p => show f st = _; rw [← e]; exact h
  | exn c fs => trivial
  | stuck => trivial
theorem rt_co {f : Den δ} {o : M (α × τ)} {w : α → δ} (h : RT f st o v S) (e : ∀ c, v c = w c) : RT f st o w S := by
  cases o with
  | ok p => show f st = _; rw [← e]; exact h
  | exn c fs => trivial
  | stuck => trivial
theorem rt_ite {a b : Den δ} {x : Bool} {o1 o2 : M (α × τ)} (h1 : x = true → RT a st o1 v S) (h2 : x = false → RT b st o2 v S) : RT (if x = true then a else b) st (if x = true then o1 else o2) v S := by
  cases x with
  | true => exact h1 rfl
  | false => exact h2 rfl
/-- a call, behind its arguments -/
def callK (df : List D → List D → M (D × List D)) (i : Nat) (ds : List D) : Den D := bindD (dOw i) fun ss => bindD (liftM' (df ss ds)) fun r => bindD (setOw i r.2) fun _ => retD r.1
theorem rt_callR {df : List D → List D → M (D × List D)} {i k : Nat} {ds : List D} {eτ : α → D} {xs : List α} {o : M (β × List α)} {w : β → D} {S : List α → DSt} (h : st[i]? = some (.rf k (xs.map eτ))) (hS : ∀ ys : List α, st.set i (.rf k (ys.map eτ)) = S ys) (hd : DR (df (xs.map eτ) ds) o w eτ) : RT (callK df i ds) st o w S := by
  cases o with
  | ok p =>
    have hd : df (xs.map eτ) ds = .ok (w p.1, p.2.map eτ) := hd
    show callK df i ds st = _
    simp only [callK, bindD, dOw, h, liftM', hd, setOw, retD, hS]
  | exn c fs => trivial
  | stuck => trivial
theorem rt_callO {df : List D → List D → M (D × List D)} {i : Nat} {ds : List D} {eτ : α → D} {xs : List α} {o : M (β × List α)} {w : β → D} {S : List α → DSt} (h : st[i]? = some (.ow (xs.map eτ))) (hS : ∀ ys : List α, st.set i (.ow (ys.map eτ)) = S ys) (hd : DR (df (xs.map eτ) ds) o w eτ) : RT (callK df i ds) st o w S := by
  cases o with
  | ok p =>
    have hd : df (xs.map eτ) ds = .ok (w p.1, p.2.map eτ) := hd
    show callK df i ds st = _
    simp only [callK, bindD, dOw, h, liftM', hd, setOw, retD, hS]
  | exn c fs => trivial
  | stuck => trivial
/-! comprehensions -/
def mapS {α β τ : Type} (f : α → τ → M (β × τ)) : List α → τ → M (List β × τ)
  | [], r => .ok ([], r)
  | x :: xs, r => (f x r).bind fun p => (mapS f xs p.2).bind fun q => .ok (p.1 :: q.1, q.2)
def pMapS {α β τ : Type} (f : α → τ → M (β × τ)) (xs : List α) (r : τ) : M (List β × τ) := if xs.length ≤ big then mapS f xs r else .stuck
theorem compGo_S1 {vs : List Nat} {t : Tg} {elt : Den D} {e : α → D} {e2 : β → D} {f : α → τ → M (β × τ)} {S0 : τ → DSt} (S1 : α → τ → DSt) (hb : ∀ x r, setT t (e x) (S0 r) = some (S1 x r) ∧ RT elt (S1 x r) (f x r) e2 (S1 x) ∧ wipeD (S1 x r) vs = S0 r) :
    ∀ (xs : List α) (r : τ), match mapS f xs r with | .ok q => compGo vs t dYes elt (xs.map e) (S0 r) = .ok (q.1.map e2) (S0 q.2) | _ => True
  | [], r => rfl
  | x :: xs, r => by
    obtain ⟨h1, h2, h3⟩ := hb x r
    simp only [mapS]
    cases hf : f x r with
    | ok p =>
      rw [hf] at h2
      have h2 : elt (S1 x r) = .ok (e2 p.1) (S1 x p.2) := h2
      have ih := compGo_S1 S1 hb xs p.2
      have hy : dYes (S1 x r) = .ok true (S1 x r) := rfl
      have h4 := (hb x p.2).2.2
      simp only [bind_ok]
      cases hr : mapS f xs p.2 with
      | ok q =>
        rw [hr] at ih
        simp only [] at ih
        simp only [bind_ok, List.map_cons, compGo, h1, hy, h2, h4, ih]
      | exn c fs => trivial
      | stuck => trivial
    | exn c fs => trivial
    | stuck => trivial
theorem rt_comp {vs : List Nat} {t : Tg} {elt : Den D} {e : α → D} {e2 : β → D} {f : α → τ → M (β × τ)} {xs : List α} {r : τ} (S0 : τ → DSt) (S1 : α → τ → DSt) (hw : ∀ r, wipeD (S r) vs = S0 r) (hp : vs.all (plainAt (S r)) = true) (hbk : ∀ r', backD (S r) (S0 r') vs = S r')
    (hb : ∀ x r, setT t (e x) (S0 r) = some (S1 x r) ∧ RT elt (S1 x r) (f x r) e2 (S1 x) ∧ wipeD (S1 x r) vs = S0 r) : RT (compK vs t dYes elt (xs.map e)) (S r) (pMapS f xs r) (List.map e2) S := by
  unfold pMapS
  by_cases hl : xs.length ≤ big
  · rw [if_pos hl]
    have h := compGo_S1 (vs := vs) (t := t) (elt := elt) (e := e) (e2 := e2) (f := f) S1 hb xs r
    cases hr : mapS f xs r with
    | ok q =>
      rw [hr] at h
      simp only [] at h
      show compK vs t dYes elt (xs.map e) (S r) = _
      unfold compK
      rw [if_pos ⟨by rw [List.length_map]; exact hl, hp⟩, hw, h]
      simp only [hbk]
    | exn c fs => trivial
    | stuck => trivial
  · rw [if_neg hl]; trivial
/-- a statement with such an expression -/
theorem rs_bindS {γ : Type} {a : Den δ} {k : δ → DS} {b : DS} {o1 : M (α × τ)} {o2 : α × τ → M γ} {K : γ → Fl → DSt → Prop} (S : τ → DSt) (h1 : RT a st o1 v S) (h2 : ∀ p, RS false (sSeq (k (v p.1)) b) (S p.2) (o2 p) K) : RS false (sSeq (bindD a k) b) st (o1.bind o2) K := by
  cases o1 with
  | ok p => exact rs_bindP (show RV a st (v p.1) (S p.2) from h1) (h2 p)
  | exn c fs => intro z; cases z
  | stuck => trivial
end
end DL

namespace DL
open PySem L2
/-! ### the rules that the printed proofs name -/
/-- a list still changed, or not any more -/
def fz (z : Bool) (ds : List D) : Slot := if z = true then .ow ds else .sh (.lst ds)
section
variable {α β γ δ ε σ ρ τ : Type} {st st1 st2 : DSt} {e : α → D}
theorem rv_fz {i : Nat} {z : Bool} {ds : List D} (h : st[i]? = some (fz z ds)) : RV (dVar i) st (.lst ds) (st.set i (.sh (.lst ds))) := by
  cases z with
  | true => exact rv_frz h
  | false =>
    have e : st.set i (.sh (.lst ds)) = st := by
      apply List.ext_getElem?
      intro j
      by_cases hj : i = j
      · subst hj
        have h : st[i]? = some (.sh (.lst ds)) := h
        rw [List.getElem?_set_self (by
          rcases Nat.lt_or_ge i st.length with q | q
          · exact q
          · rw [List.getElem?_eq_none q] at h; cases h), h]
      · rw [List.getElem?_set_ne hj]
    rw [e]; exact rv_var h
theorem rv_rdF {i : Nat} {z : Bool} {ds : List D} (h : st[i]? = some (fz z ds)) : RV (dRd i) st (.lst ds) st := by
  cases z with
  | true => exact rv_rdO h
  | false => exact rv_rd h
/-! arguments -/
theorem re_consP {a : Den D} {x : D} {r : Den (List D)} {K : List D → Den δ} {o : M α} {w : α → δ} (h1 : RV a st x st1) (h2 : RE (bindD r fun xs => K (x :: xs)) st1 o w st2) : RE (bindD (dCons a r) K) st o w st2 :=
  re_assoc (re_bindP h1 (re_assoc h2))
theorem re_consG {a : Den D} {r : Den (List D)} {K : List D → Den δ} {o : M α} {v : α → D} {o2 : α → M β} {w : β → δ} (h1 : RE a st o v st1) (h2 : ∀ c, RE (bindD r fun xs => K (v c :: xs)) st1 (o2 c) w st2) : RE (bindD (dCons a r) K) st (o.bind o2) w st2 :=
  re_assoc (re_bindG h1 fun c => re_assoc (h2 c))
theorem re_nil {K : List D → Den δ} {o : M α} {w : α → δ} (h : RE (K []) st o w st2) : RE (bindD dNil K) st o w st2 := re_bindP rv_ret h
theorem rv_cons {a : Den D} {x : D} {r : Den (List D)} {K : List D → Den δ} {y : δ} (h1 : RV a st x st1) (h2 : RV (bindD r fun xs => K (x :: xs)) st1 y st2) : RV (bindD (dCons a r) K) st y st2 :=
  rv_assoc (rv_bind h1 (rv_assoc h2))
theorem rv_nil {K : List D → Den δ} {y : δ} (h : RV (K []) st y st2) : RV (bindD dNil K) st y st2 := rv_bind rv_ret h
theorem rt_consP {S : τ → DSt} {a : Den D} {x : D} {r : Den (List D)} {K : List D → Den δ} {o : M (α × τ)} {w : α → δ} (h1 : RV a st x st1) (h2 : RT (bindD r fun xs => K (x :: xs)) st1 o w S) : RT (bindD (dCons a r) K) st o w S :=
  rt_assoc (rt_bindP h1 (rt_assoc h2))
theorem rt_consG {S : τ → DSt} {a : Den D} {r : Den (List D)} {K : List D → Den δ} {o : M α} {v : α → D} {o2 : α → M (β × τ)} {w : β → δ} (h1 : RE a st o v st1) (h2 : ∀ c, RT (bindD r fun xs => K (v c :: xs)) st1 (o2 c) w S) : RT (bindD (dCons a r) K) st (o.bind o2) w S :=
  rt_assoc (rt_bindG h1 fun c => rt_assoc (h2 c))
theorem rt_consS {S : τ → DSt} {a : Den D} {r : Den (List D)} {K : List D → Den δ} {o : M (α × τ)} {v : α → D} {o2 : α × τ → M (β × τ)} {w : β → δ} (h1 : RT a st o v S) (h2 : ∀ p, RT (bindD r fun xs => K (v p.1 :: xs)) (S p.2) (o2 p) w S) : RT (bindD (dCons a r) K) st (o.bind o2) w S :=
  rt_assoc (rt_bindS h1 fun c => rt_assoc (h2 c))
theorem rt_nil {S : τ → DSt} {K : List D → Den δ} {o : M (α × τ)} {w : α → δ} (h : RT (K []) st o w S) : RT (bindD dNil K) st o w S := rt_bindP rv_ret h
theorem re_tail {a : Den δ} {k : δ → Den ε} {o : M α} {v : α → δ} {w : α → ε} (h1 : RE a st o v st1) (h2 : ∀ c, RV (k (v c)) st1 (w c) st2) : RE (bindD a k) st o w st2 := by
  cases o with
  | ok c => exact rv_bind (show RV a st (v c) st1 from h1) (h2 c)
  | exn c fs => obtain ⟨s, h⟩ := h1; exact ⟨s, by unfold bindD; rw [h]⟩
  | stuck => trivial
theorem rt_tail {S : τ → DSt} {a : Den δ} {k : δ → Den ε} {o : M (α × τ)} {v : α → δ} {w : α → ε} (h1 : RT a st o v S) (h2 : ∀ p : α × τ, RV (k (v p.1)) (S p.2) (w p.1) (S p.2)) : RT (bindD a k) st o w S := by
  cases o with
  | ok p => exact rv_bind (show RV a st (v p.1) (S p.2) from h1) (h2 p)
  | exn c fs => trivial
  | stuck => trivial
/-! choices -/
theorem rv_iteE {a b : Den δ} {x : Bool} {u z : α} {e : α → δ} (h1 : x = true → RV a st (e u) st2) (h2 : x = false → RV b st (e z) st2) : RV (if x = true then a else b) st (e (if x = true then u else z)) st2 := by
  cases x with
  | true => exact h1 rfl
  | false => exact h2 rfl
theorem rv_andE {b : Den D} {x y : Bool} (h : x = true → RV b st (eB y) st) : RV (if x = true then b else dC (.bl false)) st (eB (x && y)) st := by
  cases x with
  | true => exact h rfl
  | false => rfl
theorem rv_orE {b : Den D} {x y : Bool} (h : x = false → RV b st (eB y) st) : RV (if x = true then dC (.bl true) else b) st (eB (x || y)) st := by
  cases x with
  | true => rfl
  | false => exact h rfl
theorem rv_chain {op' : D → D → Option D} {p q : Bool} {o : Option D} {c : Den D} {y w : D} (h1 : o = some (eB p)) (hc : RV c st w st) (h2 : op' y w = some (eB q)) :
    RV (bindD (liftO o) fun z => bindD (liftO (asB z)) fun k => if k = true then bindD c fun w => liftO (op' y w) else retD (.bl false)) st (eB (p && q)) st := by
  subst h1
  cases p with
  | false => rfl
  | true =>
    show (bindD c fun w => liftO (op' y w)) st = _
    unfold bindD
    rw [show c st = _ from hc]
    simp only [liftO, h2]; rfl
theorem re_chain {op' : D → D → Option D} {p : Bool} {q : α → Bool} {o : Option D} {c : Den D} {y : D} {oc : M α} {v : α → D} (h1 : o = some (eB p)) (hc : RE c st oc v st) (h2 : ∀ a, op' y (v a) = some (eB (q a))) :
    RE (bindD (liftO o) fun z => bindD (liftO (asB z)) fun k => if k = true then bindD c fun w => liftO (op' y w) else retD (.bl false)) st (if p = true then oc.bind (fun a => .ok (q a)) else .ok false) eB st := by
  subst h1
  cases p with
  | false => exact (rfl : _ = _)
  | true =>
    cases oc with
    | ok a =>
      show (bindD c fun w => liftO (op' y w)) st = _
      unfold bindD
      rw [show c st = _ from hc]
      simp only [liftO, h2]
    | exn c' fs =>
      obtain ⟨s, hc⟩ := hc
      refine ⟨s, ?_⟩
      show (bindD c fun w => liftO (op' y w)) st = _
      unfold bindD
      rw [hc]
    | stuck => trivial
theorem rs_iteN {X : Bool} {K : γ → Fl → DSt → Prop} {x : Bool} {f g : DS} {o1 o2 : M γ} (h1 : x = true → RS X f st o1 K) (h2 : x = false → RS X g st o2 K) : RS X (if x = true then f else g) st (if x = true then o1 else o2) K := by
  cases x with
  | true => exact h1 rfl
  | false => exact h2 rfl
theorem rs_st {X : Bool} {K : γ → Fl → DSt → Prop} {f : DS} {o : M γ} (st2 : DSt) (e : st = st2) (h : RS X f st2 o K) : RS X f st o K := by subst e; exact h
/-! operations on any data -/
def pEq (x y : D) : M Bool := oM (eqD x y)
def pNe (x y : D) : M Bool := match eqD x y with | some b => .ok (!b) | none => .stuck
def pIs (x y : D) : M Bool := oM (isD x y)
def pIsN (x y : D) : M Bool := match isD x y with | some b => .ok (!b) | none => .stuck
def pIn (x y : D) : M Bool := oM (inD x y)
def pNin (x y : D) : M Bool := match inD x y with | some b => .ok (!b) | none => .stuck
def pIsi (T : String) (x : D) : M Bool := oM (isTy T x)
def pIsi2 (T U : String) (x : D) : M Bool := match isTy T x, isTy U x with | some b, some c => .ok (b || c) | _, _ => .stuck
def pIsC (c : Str) (x : D) : M Bool := match opIsC c x with | some (.bl b) => .ok b | _ => .stuck
def pB (x : D) : M Bool := oM (asB x)
def pItems (x : D) : M (List D) := oM (itemsOf x)
def pLenD : D → M Int
  | .lst xs => .ok xs.length
  | .tup xs => .ok xs.length
  | .str z => if z.length ≤ big then .ok z.length else .stuck
  | _ => .stuck
def pStr (i : Int) : M Str := if i.natAbs.log2 < 1920 then .ok (toString i : String) else .stuck
def pAtS (z : Str) (i : Int) : M Str := match opIx (.str z) (.int i) with | some (.str c) => .ok c | _ => .stuck
def pNX {α : Type} : M α → M α
  | .ok a => .ok a
  | _ => .stuck
@[simp] theorem pNX_ok {α : Type} (a : α) : pNX (.ok a) = .ok a := rfl
theorem op_eqD {x y : D} : OP (opEq x y) (pEq x y) eB := by unfold pEq opEq; cases eqD x y <;> simp [OP, oM]
theorem op_neD {x y : D} : OP (opNe x y) (pNe x y) eB := by unfold pNe opNe; cases eqD x y <;> simp [OP]
theorem op_isDD {x y : D} : OP (opIs x y) (pIs x y) eB := by unfold pIs opIs; cases isD x y <;> simp [OP, oM]
theorem op_isNDD {x y : D} : OP (opIsNot x y) (pIsN x y) eB := by unfold pIsN opIsNot; cases isD x y <;> simp [OP]
theorem op_inD {x y : D} : OP (opIn x y) (pIn x y) eB := by unfold pIn opIn; cases inD x y <;> simp [OP, oM]
theorem op_ninD {x y : D} : OP (opNotIn x y) (pNin x y) eB := by unfold pNin opNotIn; cases inD x y <;> simp [OP]
theorem op_isiD {T : String} {x : D} : OP (opIsi T x) (pIsi T x) eB := by unfold pIsi opIsi; cases isTy T x <;> simp [OP, oM]
theorem op_isi2D {T U : String} {x : D} : OP (opIsi2 T U x) (pIsi2 T U x) eB := by unfold pIsi2 opIsi2; cases isTy T x <;> cases isTy U x <;> simp [OP]
theorem op_isCD {c : Str} {x : D} : OP (opIsC c x) (pIsC c x) eB := by
  unfold pIsC
  split
  · rename_i b h; exact h
  · trivial
theorem op_asB {x : D} : OP (asB x) (pB x) (fun b : Bool => b) := by unfold pB; cases asB x <;> simp [OP, oM]
theorem op_itemsD {x : D} : OP (itemsOf x) (pItems x) (List.map eD) := by
  unfold pItems
  cases itemsOf x with
  | none => trivial
  | some xs => show some xs = some (xs.map eD); rw [show xs.map eD = xs from List.map_id' xs]
theorem op_lD {x : Option (List D)} : OP x (oM x) (List.map eD) := by
  cases x with
  | none => trivial
  | some xs => show some xs = some (xs.map eD); rw [show xs.map eD = xs from List.map_id' xs]
theorem op_lenD {x : D} : OP (opLen x) (pLenD x) eI := by
  cases x with
  | str z => exact op_lenS (z := z)
  | lst xs => rfl
  | tup xs => rfl
  | _ => trivial
theorem op_str {i : Int} : OP (opStr (eI i)) (pStr i) eS := by
  unfold pStr
  by_cases h : i.natAbs.log2 < 1920
  · rw [if_pos h]; simp only [OP, opStr, h, if_true]
  · rw [if_neg h]; trivial
theorem op_atS {z : Str} {i : Int} : OP (opIx (eS z) (eI i)) (pAtS z i) eS := by
  unfold pAtS
  split
  · rename_i c h; exact h
  · trivial
theorem op_repT {xs : List α} {k : Int} : OP (opMul (eT e xs) (eI k)) (pRep xs k) (eT e) ∨ True := .inr trivial
theorem op_nCatD {x y : D} {xs ys : List D} (hx : x = .lst xs) (hy : y = .lst ys) : OP (nAdd x y) (pCat xs ys) (List.map eD) := by
  subst hx hy
  unfold pCat
  by_cases h : xs.length + ys.length ≤ big
  · rw [if_pos h]; simp only [OP, nAdd, h, if_true]; rw [show (xs ++ ys).map eD = xs ++ ys from List.map_id' _]
  · rw [if_neg h]; trivial
theorem op_slScr {ns : List Int} {lo hi : Option Int} : opSl (.scr ns) lo hi = some (eL eI (cutD ns lo hi)) := by simp only [opSl, eL, ← cutD_map]
theorem is_O {x : Option α} (h : ∀ a, isD (e a) .non = some false) : opIs (eO e x) .non = some (eB x.isNone) := by
  cases x with
  | none => rfl
  | some a => simp only [opIs, eO, h]; rfl
theorem isnot_O {x : Option α} (h : ∀ a, isD (e a) .non = some false) : opIsNot (eO e x) .non = some (eB x.isSome) := by
  cases x with
  | none => rfl
  | some a => simp only [opIsNot, eO, h]; rfl
/-! methods -/
def methK (df : List D → M D) (x : D) (ys : List D) : Den D := fun st => match df (x :: ys) with
  | .ok d => .ok d st
  | _ => .stuck
theorem meth_eq {c m : Str} {ns : List Str} {ds : List D} {df : List D → M D} {a : Den D} {fa : Den (List D)} (ha : RV a st (.ins c ns ds) st1) (hm : getN ns ds m = none) (hl : ns.length = ds.length) : dMeth c m df a fa st = bindD fa (methK df (.ins c ns ds)) st1 := by
  simp only [dMeth, bindD]
  rw [show a st = _ from ha]
  simp only [hm, hl, Option.isNone_none, and_self, if_true]
  rfl
theorem re_meth {c m : Str} {ns : List Str} {ds : List D} {df : List D → M D} {a : Den D} {fa : Den (List D)} {o : M α} {w : α → D} (ha : RV a st (.ins c ns ds) st1) (hm : getN ns ds m = none) (hl : ns.length = ds.length) (h : RE (bindD fa (methK df (.ins c ns ds))) st1 o w st2) : RE (dMeth c m df a fa) st o w st2 := by
  have e := meth_eq (fa := fa) (df := df) ha hm hl
  cases o with
  | ok c => show _ = _; rw [e]; exact h
  | exn c fs => obtain ⟨s, h⟩ := h; exact ⟨s, by rw [e]; exact h⟩
  | stuck => trivial
theorem rt_meth {S : τ → DSt} {c m : Str} {ns : List Str} {ds : List D} {df : List D → M D} {a : Den D} {fa : Den (List D)} {o : M (α × τ)} {w : α → D} (ha : RV a st (.ins c ns ds) st1) (hm : getN ns ds m = none) (hl : ns.length = ds.length) (h : RT (bindD fa (methK df (.ins c ns ds))) st1 o w S) : RT (dMeth c m df a fa) st o w S := by
  have e := meth_eq (fa := fa) (df := df) ha hm hl
  cases o with
  | ok c => show _ = _; rw [e]; exact h
  | exn c fs => trivial
  | stuck => trivial
theorem re_methK {df : List D → M D} {x : D} {ys : List D} {o : M α} {w : α → D} (h : DM (df (x :: ys)) o w) : RE (methK df x ys) st (pNX o) w st := by
  cases o with
  | ok c => show methK df x ys st = _; unfold methK; rw [show df _ = _ from h]
  | exn c fs => trivial
  | stuck => trivial
/-! two-level lists -/
theorem rv_ixxS {i : Nat} {e1 e2 : Den D} {d y : D} (h : st[i]? = some (.sh d)) (q : RV (dOp2 opIx (dOp2n opIx i e1) e2) st y st2) : RV (dIxx i e1 e2) st y st2 := by
  unfold RV dIxx; rw [h]; exact q
theorem re_ixxS {i : Nat} {e1 e2 : Den D} {d : D} {o : M α} {w : α → D} (h : st[i]? = some (.sh d)) (q : RE (dOp2 opIx (dOp2n opIx i e1) e2) st o w st2) : RE (dIxx i e1 e2) st o w st2 := by
  have e : dIxx i e1 e2 st = dOp2 opIx (dOp2n opIx i e1) e2 st := by unfold dIxx; rw [h]
  cases o with
  | ok c => show _ = _; rw [e]; exact q
  | exn c fs => obtain ⟨s, q⟩ := q; exact ⟨s, by rw [e]; exact q⟩
  | stuck => trivial
theorem rt_ixxS {S : τ → DSt} {i : Nat} {e1 e2 : Den D} {d : D} {o : M (α × τ)} {w : α → D} (h : st[i]? = some (.sh d)) (q : RT (dOp2 opIx (dOp2n opIx i e1) e2) st o w S) : RT (dIxx i e1 e2) st o w S := by
  have e : dIxx i e1 e2 st = dOp2 opIx (dOp2n opIx i e1) e2 st := by unfold dIxx; rw [h]
  cases o with
  | ok c => show _ = _; rw [e]; exact q
  | exn c fs => trivial
  | stuck => trivial
theorem re_ixx2 {i : Nat} {e1 e2 : Den D} {xss : List (List α)} {k l : Int} {st' : DSt} (h : st[i]? = some (.o2 (xss.map (List.map e)))) (h1 : RV e1 st (eI k) st) (h2 : RV e2 (st.map frzS) (eI l) st') : RE (dIxx i e1 e2) st ((pAt xss k).bind fun r => pAt r l) e st := by
  cases hr : pAt xss k with
  | exn c fs => unfold pAt oM at hr; split at hr <;> cases hr
  | stuck => trivial
  | ok r =>
    obtain ⟨j, hj, hr⟩ := pAt_j hr
    simp only [bind_ok]
    unfold pAt atI
    cases hl : ixN r.length l with
    | none => trivial
    | some q =>
      have hq := ixN_lt hl
      have a1 : rowAt (xss.map (List.map e)) (eI k) = some (j, r.map e) := by simp [rowAt, hj, hr]
      have a2 : rowAt (r.map e) (eI l) = some (q, e (r[q]'hq)) := by simp [rowAt, hl, hq]
      have a3 : oM (match (some q : Option Nat) with | some j => r[j]? | none => none) = .ok (r[q]'hq) := by simp [hq, oM]
      show RE _ st (oM ((some q).bind fun j => r[j]?)) e st
      rw [Option.bind_some, List.getElem?_eq_getElem hq]
      show dIxx i e1 e2 st = _
      unfold dIxx
      rw [h]
      simp only [bindD, dO2, h]
      rw [show e1 st = _ from h1]
      simp only [h, liftO, a1, dPeek]
      rw [show e2 (st.map frzS) = _ from h2]
      simp only [eI, nol, if_true]
      have a2' : rowAt (r.map e) (.int l) = some (q, e (r[q]'hq)) := a2
      rw [a2']
/-! looking only -/
theorem rv_peek {f : Den D} {y : D} {st' : DSt} (h : RV f (st.map frzS) y st') (hn : nol y = true) : RV (dPeek f) st y st := by
  unfold RV dPeek
  rw [show f _ = _ from h]
  simp only [hn, if_true]
theorem re_peek {f : Den D} {o : M α} {w : α → D} {st' : DSt} (h : RE f (st.map frzS) o w st') (hn : ∀ a, nol (w a) = true) : RE (dPeek f) st (pNX o) w st := by
  cases o with
  | ok c => exact rv_peek h (hn c)
  | exn c fs => trivial
  | stuck => trivial
theorem nols_map {f : α → D} (h : ∀ x, nol (f x) = true) : ∀ xs : List α, nols (xs.map f) = true
  | [] => by simp [nols]
  | x :: xs => by simp [nols, h, nols_map h xs]
theorem nol_T (h : ∀ x, nol (e x) = true) (xs : List α) : nol (eT e xs) = true := by unfold eT; rw [nol]; exact nols_map h xs
theorem nol_P2 {f : β → D} (h : ∀ x, nol (e x) = true) (h2 : ∀ x, nol (f x) = true) (x : α × β) : nol (eP2 e f x) = true := by simp [eP2, nol, nols, h, h2]
theorem nol_O (h : ∀ x, nol (e x) = true) (x : Option α) : nol (eO e x) = true := by cases x <;> simp [eO, nol, h]
/-! new lists out of a def -/
def DO {α : Type} (m : Option (List D)) (o : M (List α)) (e : α → D) : Prop := match o with
  | .ok xs => m = some (xs.map e)
  | _ => True
/-- statements, then a new list -/
def RO {α : Type} (a : DS) (r : Den (List D)) (st : DSt) (o : M α) (w : α → List D) : Prop := RS false a st o (fun c fl st' => fl = .nx ∧ ∃ s, r st' = .ok (w c) s)
theorem fn_O {m n : Nat} {a : DS} {r : Den (List D)} {ds : List D} {o : M (List α)} (hl : ds.length = m) (h : RO a r (ds.map Slot.sh ++ List.replicate (n - ds.length) .no) o (List.map e)) : DO (runO m n a r ds) o e := by
  unfold runO
  rw [if_pos hl]
  cases o with
  | ok c =>
    obtain ⟨fl, st', e1, rfl, s, e2⟩ := h
    rw [e1]
    simp only [e2]
    rfl
  | exn c fs => trivial
  | stuck => trivial
theorem rs_endO {r : Den (List D)} {o : M α} {w : α → List D} (h : RE r st o w st2) : RS false sPass st o (fun c fl st' => fl = .nx ∧ ∃ s, r st' = .ok (w c) s) := by
  cases o with
  | ok c => exact ⟨_, _, rfl, rfl, _, h⟩
  | exn c fs => intro z; cases z
  | stuck => trivial
theorem re_liftO {x : Option (List D)} {o : M (List α)} (h : DO x o e) : RE (liftO x) st (pNX o) (List.map e) st := by
  cases o with
  | ok c => show liftO x st = _; rw [show x = _ from h]; rfl
  | exn c fs => trivial
  | stuck => trivial
/-! lists that change, more -/
theorem x_set2G {i : Nat} {xss : List (List α)} {e1 e2 f : Den D} {ov : M α} {ok ol : M Int} (h : st[i]? = some (.o2 (xss.map (List.map e)))) (hf : RE f st ov e st) (h1 : RE e1 st ok eI st) (h2 : RE e2 (st.set i .no) ol eI (st.set i .no)) :
    RX (sStore2 i e1 e2 f) st (pNX (ov.bind fun v => ok.bind fun k => ol.bind fun l => pSet2 xss k l v)) (fun ys => st.set i (.o2 (ys.map (List.map e)))) := by
  cases ov with
  | ok v => cases ok with
    | ok k => cases ol with
      | ok l =>
        have := x_set2 (e := e) (k := k) (l := l) (v := v) h hf h1 h2
        simp only [bind_ok]
        cases hp : pSet2 xss k l v with
        | ok c => rw [hp] at this; exact this
        | exn c fs => trivial
        | stuck => trivial
      | exn c fs => trivial
      | stuck => trivial
    | exn c fs => trivial
    | stuck => trivial
  | exn c fs => trivial
  | stuck => trivial
/-- xs.append(f), f changes another list -/
theorem rs_appS {K : γ → Fl → DSt → Prop} {i : Nat} {xs : List α} {f : Den D} {o : M (α × τ)} {o2 : α × τ → List α → M γ} {b : DS} (S : τ → DSt) (h : st[i]? = some (.ow (xs.map e))) (hf : RT f st o e S) (h1 : ∀ r, (S r)[i]? = some (.ow (xs.map e)))
    (hk : ∀ p ys, RS false b ((S p.2).set i (.ow (ys.map e))) (o2 p ys) K) : RS false (sSeq (sExpr (dAppend i f)) b) st (o.bind fun p => (pApp xs p.1).bind fun ys => o2 p ys) K := by
  cases o with
  | ok p =>
    have hx := x_appP (e := e) (xs := xs) (y := p.1) (f := fun _ => f st) (st := S p.2) (st1 := S p.2) (i := i) (h1 p.2) (show f st = _ from hf) (h1 p.2)
    have e1 : sExpr (dAppend i f) st = sExpr (dAppend i fun _ => f st) (S p.2) := by
      simp only [sExpr, dAppend, bindD, dOw, h, h1]
    have := rs_x (X := false) (b := b) (K := K) hx (fun ys => hk p ys)
    exact rs_of_eq (by unfold sSeq; rw [e1]) this
  | exn c fs => intro z; cases z
  | stuck => trivial
theorem erase_map {β : Type} (f : α → β) : ∀ (xs : List α) (q : Nat), (xs.map f).eraseIdx q = (xs.eraseIdx q).map f
  | [], _ => rfl
  | x :: xs, 0 => rfl
  | x :: xs, q + 1 => by
    show f x :: (xs.map f).eraseIdx q = f x :: (xs.eraseIdx q).map f
    rw [erase_map f xs q]
/-- xs.append(ys.pop(f)), f changes another list -/
theorem rs_appPop {K : γ → Fl → DSt → Prop} {i j : Nat} {xs ys : List α} {f : Den D} {o : M (Int × τ)} {o2 : Int × τ → α × List α → List α → M γ} {b : DS} (S : τ → DSt) (h : st[i]? = some (.ow (ys.map e))) (hj : st[j]? = some (.ow (xs.map e))) (hf : RT f st o eI S) (h1 : ∀ r, (S r)[i]? = some (.ow (ys.map e))) (h2 : ∀ r, (S r)[j]? = some (.ow (xs.map e))) (hn : i ≠ j)
    (hk : ∀ p q zs, RS false b (((S p.2).set j (.ow (q.2.map e))).set i (.ow (zs.map e))) (o2 p q zs) K) : RS false (sSeq (sExpr (dAppend i (dPopAt j f))) b) st (o.bind fun p => (pPopAt xs p.1).bind fun q => (pApp ys q.1).bind fun zs => o2 p q zs) K := by
  cases o with
  | ok p =>
    have hf : f st = .ok (eI p.1) (S p.2) := hf
    simp only [bind_ok]
    unfold pPopAt
    cases hs : seqIndex? p.1 xs.length with
    | none => trivial
    | some q =>
      simp only []
      cases hq : xs[q]? with
      | none => trivial
      | some y =>
        simp only []
        by_cases hb : p.1.natAbs ≤ big
        · rw [if_pos hb]
          simp only [bind_ok]
          have h3 : ((S p.2).set j (.ow ((xs.eraseIdx q).map e)))[i]? = some (.ow (ys.map e)) := by rw [List.getElem?_set_ne (Ne.symm hn)]; exact h1 p.2
          have hx := x_appP (e := e) (xs := ys) (y := y) (f := fun st => .ok (e y) st) (st := (S p.2).set j (.ow ((xs.eraseIdx q).map e))) (i := i) h3 rfl h3
          have ee : (xs.map e).eraseIdx q = (xs.eraseIdx q).map e := by
            clear hs hq hj h2
            exact erase_map e xs q
          have e1 : sExpr (dAppend i (dPopAt j f)) st = sExpr (dAppend i fun st => .ok (e y) st) ((S p.2).set j (.ow ((xs.eraseIdx q).map e))) := by
            simp only [sExpr, dAppend, dPopAt, bindD, dOw, h, hj, hf, eI, mutD, h2, liftO, popAt, List.length_map, hs, List.getElem?_map, hq, Option.map_some, hb, if_true, setOw, retD, ee, h3]
          have := rs_x (X := false) (b := b) (K := K) hx (fun zs => hk p (y, xs.eraseIdx q) zs)
          exact rs_of_eq (by unfold sSeq; rw [e1]) this
        · rw [if_neg hb]; trivial
  | exn c fs => intro z; cases z
  | stuck => trivial
end
/-! comprehensions of new lists -/
section
variable {α β : Type} {vs : List Nat} {t : Tg} {elt : Den (List D)} {e : α → D} {e2 : β → D} {st st0 : DSt}
def compK2 (vs : List Nat) (t : Tg) (elt : Den (List D)) (ds : List D) : Den (List (List D)) := fun st =>
  if ds.length ≤ big ∧ vs.all (plainAt st) = true then
    match compGo2 vs t elt ds (wipeD st vs) with
    | .ok ys st' => .ok ys (backD st st' vs)
    | _ => .stuck
  else .stuck
theorem compGo2_typed {f : α → M (List β)} (hb : ∀ x, ∃ st1 st3, setT t (e x) st0 = some st1 ∧ RE elt st1 (f x) (List.map e2) st3 ∧ wipeD st3 vs = st0) :
    ∀ xs : List α, match mapGo f xs with | .ok ys => compGo2 vs t elt (xs.map e) st0 = .ok (ys.map (List.map e2)) st0 | _ => True
  | [] => rfl
  | x :: xs => by
    obtain ⟨st1, st3, h1, h2, h3⟩ := hb x
    have ih := compGo2_typed hb xs
    simp only [mapGo]
    cases hf : f x with
    | ok y =>
      rw [hf] at h2
      cases hr : mapGo f xs with
      | ok ys =>
        rw [hr] at ih
        simp only [] at ih ⊢
        simp only [List.map_cons, compGo2, h1]
        rw [show elt st1 = _ from h2]
        simp only [h3, ih]
      | exn c fs => trivial
      | stuck => trivial
    | exn c fs => trivial
    | stuck => trivial
theorem re_comp2 {xs : List α} {f : α → M (List β)} (st0 : DSt) (hw : wipeD st vs = st0) (hp : vs.all (plainAt st) = true) (hbk : backD st st0 vs = st)
    (hb : ∀ x, ∃ st1 st3, setT t (e x) st0 = some st1 ∧ RE elt st1 (f x) (List.map e2) st3 ∧ wipeD st1 vs = st0 ∧ wipeD st3 vs = st0) : RE (compK2 vs t elt (xs.map e)) st (pMap f xs) (List.map (List.map e2)) st := by
  unfold pMap
  by_cases hl : xs.length ≤ big
  · rw [if_pos hl]
    have h := compGo2_typed (vs := vs) (t := t) (elt := elt) (e := e) (e2 := e2) (f := f) (st0 := st0) (fun x => by
      obtain ⟨st1, st3, h1, h2, h3, h4⟩ := hb x
      exact ⟨st1, st3, h1, h2, h4⟩) xs
    cases hr : mapGo f xs with
    | ok ys =>
      rw [hr] at h
      simp only [] at h
      show compK2 vs t elt (xs.map e) st = _
      unfold compK2
      rw [if_pos ⟨by rw [List.length_map]; exact hl, hp⟩, hw, h]
      simp only [hbk]
    | exn c fs => rw [mapGo_fil] at hr; exact absurd hr (filGo_exn xs)
    | stuck => trivial
  · rw [if_neg hl]; trivial
end
end DL

namespace DL
open PySem L2
/-! ### plain laws about the typed functions -/
def ix {α : Type} [Inhabited α] (xs : List α) (i : Int) : α := xs.getD i.toNat default
section
variable {α β σ ρ : Type}
theorem pAt_ok [Inhabited α] {xs : List α} {i : Int} (h0 : 0 ≤ i) (h1 : i < xs.length) : pAt xs i = .ok (ix xs i) := by
  obtain ⟨k, rfl⟩ := Int.eq_ofNat_of_zero_le h0
  have hk : k < xs.length := by omega
  unfold pAt ix
  rw [atI_nat, List.getElem?_eq_getElem hk, List.getD_eq_getElem?_getD]
  simp [hk]
theorem ix_mem [Inhabited α] {xs : List α} {i : Int} (h0 : 0 ≤ i) (h1 : i < xs.length) : ix xs i ∈ xs := by
  unfold ix
  have hk : i.toNat < xs.length := by omega
  rw [List.getD_eq_getElem?_getD, List.getElem?_eq_getElem hk]
  simp
theorem mem_ix [Inhabited α] {xs : List α} {x : α} (h : x ∈ xs) : ∃ i : Int, 0 ≤ i ∧ i < xs.length ∧ ix xs i = x := by
  obtain ⟨k, hk, rfl⟩ := List.getElem_of_mem h
  refine ⟨(k : Int), by omega, by omega, ?_⟩
  simp [ix, hk]
theorem ix_ext [Inhabited α] {xs ys : List α} (hl : xs.length = ys.length) (h : ∀ i : Int, 0 ≤ i → i < xs.length → ix xs i = ix ys i) : xs = ys := by
  apply List.ext_getElem hl
  intro k h1 h2
  have := h k (by omega) (by omega)
  simpa [ix, h1, h2] using this
theorem ix_app1 [Inhabited α] {xs ys : List α} {i : Int} (h0 : 0 ≤ i) (h : i < xs.length) : ix (xs ++ ys) i = ix xs i := by
  unfold ix
  have hk : i.toNat < xs.length := by omega
  rw [List.getD_eq_getElem?_getD, List.getD_eq_getElem?_getD, List.getElem?_append_left hk]
theorem ix_app2 [Inhabited α] {xs ys : List α} {i : Int} (h : (xs.length : Int) ≤ i) : ix (xs ++ ys) i = ix ys (i - xs.length) := by
  unfold ix
  have hk : xs.length ≤ i.toNat := by omega
  rw [List.getD_eq_getElem?_getD, List.getD_eq_getElem?_getD, List.getElem?_append_right hk]
  congr 2; omega
@[simp] theorem ix_cons0 [Inhabited α] {x : α} {xs : List α} : ix (x :: xs) 0 = x := rfl
theorem ix_cons [Inhabited α] {x : α} {xs : List α} {i : Int} (h : 0 < i) : ix (x :: xs) i = ix xs (i - 1) := by
  unfold ix
  obtain ⟨k, hk⟩ : ∃ k : Nat, i = k + 1 := ⟨(i - 1).toNat, by omega⟩
  subst hk
  have : ((k : Int) + 1).toNat = k + 1 := by omega
  rw [this]
  simp
theorem ix_map [Inhabited α] [Inhabited β] {f : α → β} {xs : List α} {i : Int} (h0 : 0 ≤ i) (h : i < xs.length) : ix (xs.map f) i = f (ix xs i) := by
  unfold ix
  have hk : i.toNat < xs.length := by omega
  simp [hk]
/-! numbers below n -/
@[simp] theorem mem_rng {n x : Int} : x ∈ rng n ↔ 0 ≤ x ∧ x < n := by
  unfold rng
  rw [List.mem_map]
  constructor
  · rintro ⟨k, hk, rfl⟩
    rw [List.mem_range] at hk
    omega
  · intro ⟨h0, h1⟩
    exact ⟨x.toNat, by rw [List.mem_range]; omega, by omega⟩
theorem mem_rng2 {m n x : Int} : x ∈ rng2 m n ↔ m ≤ x ∧ x < n := by
  unfold rng2
  rw [List.mem_map]
  constructor
  · rintro ⟨k, hk, rfl⟩
    rw [List.mem_range] at hk
    omega
  · intro ⟨h0, h1⟩
    exact ⟨(x - m).toNat, by rw [List.mem_range]; omega, by omega⟩
@[simp] theorem len_rng {n : Int} : (rng n).length = n.toNat := by simp [rng]
@[simp] theorem len_rng2 {m n : Int} : (rng2 m n).length = (n - m).toNat := by simp [rng2]
theorem rng_nodup {n : Int} : (rng n).Nodup := by
  unfold rng
  exact List.nodup_range.map _ (fun a b h => by omega) |> id
theorem ix_rng {n i : Int} (h0 : 0 ≤ i) (h : i < n) : ix (rng n) i = i := by
  unfold ix rng
  have hk : i.toNat < n.toNat := by omega
  simp [hk]; omega
theorem ix_map_rng [Inhabited β] {f : Int → β} {n i : Int} (h0 : 0 ≤ i) (h : i < n) : ix ((rng n).map f) i = f i := by
  rw [ix_map h0 (by rw [len_rng]; omega), ix_rng h0 h]
theorem list_rng [Inhabited α] {xs : List α} {n : Int} (h : (xs.length : Int) = n) : xs = (rng n).map (ix xs) := by
  apply ix_ext
  · simp; omega
  · intro i h0 h1
    rw [ix_map_rng h0 (by omega)]
theorem rng_succ {n : Int} (h : 0 ≤ n) : rng (n + 1) = rng n ++ [n] := by
  unfold rng
  have : (n + 1).toNat = n.toNat + 1 := by omega
  rw [this, List.range_succ, List.map_append]
  simp; omega
@[simp] theorem rng_zero : rng 0 = [] := rfl
theorem pRng_ok {n : Int} (h0 : 0 ≤ n) (h : n ≤ 16777216) : pRng n = .ok (rng n) := by
  unfold pRng
  rw [if_pos (by have : big = 16777216 := rfl; omega)]
theorem pRng2_ok {m n : Int} (h0 : 0 ≤ m) (h1 : m ≤ 16777216) (h2 : 0 ≤ n) (h : n ≤ 16777216) : pRng2 m n = .ok (rng2 m n) := by
  unfold pRng2
  rw [if_pos (by have : big = 16777216 := rfl; omega)]
theorem pApp_ok {xs : List α} {y : α} (h : xs.length < 16777216) : pApp xs y = .ok (xs ++ [y]) := by
  unfold pApp
  rw [if_pos (by have : big = 16777216 := rfl; omega)]
theorem pCat_ok {xs ys : List α} (h : xs.length + ys.length ≤ 16777216) : pCat xs ys = .ok (xs ++ ys) := by
  unfold pCat
  rw [if_pos (by have : big = 16777216 := rfl; omega)]
theorem pMul_ok {a b : Int} (h : a.natAbs < 18446744073709551616) : pMul a b = .ok (a * b) := by
  unfold pMul smallI
  simp [h]
theorem pMul_ok2 {a b : Int} (h : b.natAbs < 18446744073709551616) : pMul a b = .ok (a * b) := by
  unfold pMul smallI
  simp [h]
theorem pDiv_ok {a b : Int} (h : 0 < b) (h2 : b < 1073741824) : pDiv a b = .ok (a / b) := by
  unfold pDiv
  rw [if_pos (by omega), Int.fdiv_eq_ediv_of_nonneg _ (by omega)]
theorem pMod_ok {a b : Int} (h : 0 < b) : pMod a b = .ok (a % b) := by
  unfold pMod
  rw [if_pos (by omega), Int.fmod_eq_emod_of_nonneg _ (by omega)]
theorem pSet_ok {xs : List α} {k : Int} {v : α} (h0 : 0 ≤ k) (h : k < xs.length) : pSet xs k v = .ok (xs.set k.toNat v) := by
  obtain ⟨j, rfl⟩ := Int.eq_ofNat_of_zero_le h0
  unfold pSet
  rw [ixN_nat, if_pos (by omega)]
  simp
/-- the first place -/
def idx [DecidableEq α] (xs : List α) (x : α) : Int := (xs.idxOf x : Int)
theorem pIndex_ok [DecidableEq α] {xs : List α} {x : α} (h : x ∈ xs) : pIndex xs x = .ok (idx xs x) := by unfold pIndex idx; rw [if_pos h]
theorem ix_set [Inhabited α] {xs : List α} {k i : Int} {v : α} (h0 : 0 ≤ k) (h : k < xs.length) (h2 : 0 ≤ i) : ix (xs.set k.toNat v) i = if i = k then v else ix xs i := by
  unfold ix
  have hk : k.toNat < xs.length := by omega
  by_cases e : i = k
  · subst e; simp [hk]
  · rw [if_neg e, List.getD_eq_getElem?_getD, List.getElem?_set_ne (by omega), ← List.getD_eq_getElem?_getD]
theorem ix_idx [DecidableEq α] [Inhabited α] {xs : List α} {x : α} (h : x ∈ xs) : ix xs (idx xs x) = x := by
  have := List.idxOf_lt_length_of_mem h
  unfold ix idx
  simp [this]
theorem idx_lt [DecidableEq α] {xs : List α} {x : α} (h : x ∈ xs) : 0 ≤ idx xs x ∧ idx xs x < xs.length := by
  have := List.idxOf_lt_length_of_mem h
  unfold idx
  omega
/-- nothing ahead of it is the same -/
theorem idx_first [DecidableEq α] [Inhabited α] {xs : List α} {x : α} {i : Int} (h0 : 0 ≤ i) (h : i < idx xs x) : ix xs i ≠ x := by
  unfold idx at h
  unfold ix
  have hl : i.toNat < xs.idxOf x := by omega
  have := List.not_of_lt_findIdx (p := (· == x)) (xs := xs) (i := i.toNat) hl
  intro e
  have hk : i.toNat < xs.length := Nat.lt_of_lt_of_le hl List.idxOf_le_length
  rw [List.getD_eq_getElem?_getD, List.getElem?_eq_getElem hk] at e
  simp only [Option.getD_some] at e
  rw [e] at this
  simp at this
theorem idx_eq [DecidableEq α] [Inhabited α] {xs : List α} {x : α} {i : Int} (h0 : 0 ≤ i) (h : i < xs.length) (e : ix xs i = x) (hf : ∀ j, 0 ≤ j → j < i → ix xs j ≠ x) : idx xs x = i := by
  have hm : x ∈ xs := by rw [← e]; exact ix_mem h0 h
  have h1 := idx_lt hm
  rcases Int.lt_trichotomy (idx xs x) i with q | q | q
  · exact absurd (ix_idx hm) (hf _ h1.1 q)
  · exact q
  · exact absurd e (idx_first h0 q)
theorem map_rng [Inhabited α] (f : α → β) (xs : List α) : xs.map f = (rng xs.length).map fun i => f (ix xs i) := by
  have h := list_rng (xs := xs) rfl
  conv => lhs; rw [h]
  rw [List.map_map]; rfl/-! parts of a list -/
theorem sIx_nn {n d : Nat} {k : Int} (h : 0 ≤ k) : HT.sIx n d (some k) = min k.toNat n := by
  unfold HT.sIx
  simp only
  split <;> omega
theorem cutD_to {xs : List α} {k : Int} (h : 0 ≤ k) : cutD xs none (some k) = xs.take k.toNat := by
  unfold cutD
  rw [sIx_nn h]
  show List.take _ (List.drop 0 xs) = _
  rw [List.drop_zero, show HT.sIx xs.length 0 none = 0 from rfl, Nat.sub_zero]
  rcases Nat.le_total k.toNat xs.length with q | q
  · rw [Nat.min_eq_left q]
  · rw [Nat.min_eq_right q, List.take_of_length_le q, List.take_of_length_le (Nat.le_refl _)]
theorem cutD_from {xs : List α} {k : Int} (h : 0 ≤ k) : cutD xs (some k) none = xs.drop k.toNat := by
  unfold cutD
  rw [sIx_nn h, show HT.sIx xs.length xs.length none = xs.length from rfl]
  rcases Nat.le_total k.toNat xs.length with q | q
  · rw [Nat.min_eq_left q, List.take_of_length_le (by simp)]
  · rw [Nat.min_eq_right q, List.drop_of_length_le q]; simp
theorem ix_take [Inhabited α] {xs : List α} {k i : Int} (h0 : 0 ≤ i) (h : i < k) : ix (xs.take k.toNat) i = ix xs i := by
  unfold ix
  rw [List.getD_eq_getElem?_getD, List.getElem?_take_of_lt (by omega), ← List.getD_eq_getElem?_getD]
theorem ix_drop [Inhabited α] {xs : List α} {k i : Int} (h0 : 0 ≤ i) (h : 0 ≤ k) : ix (xs.drop k.toNat) i = ix xs (k + i) := by
  unfold ix
  rw [List.getD_eq_getElem?_getD, List.getElem?_drop, ← List.getD_eq_getElem?_getD]
  congr 1; omega
/-! loops -/
theorem pfold_inv {F : α → σ → M σ} (I : List α → σ → Prop) : ∀ (xs pre : List α) (a : σ), I pre a → (∀ p x q a, pre ++ xs = p ++ x :: q → I p a → ∃ b, F x a = .ok b ∧ I (p ++ [x]) b) → ∃ b, pfold F xs a = .ok b ∧ I (pre ++ xs) b
  | [], pre, a, h, _ => ⟨a, rfl, by simpa using h⟩
  | x :: xs, pre, a, h, hs => by
    obtain ⟨b, h1, h2⟩ := hs pre x xs a rfl h
    obtain ⟨c, h3, h4⟩ := pfold_inv I xs (pre ++ [x]) b h2 (fun p y q a e => hs p y q a (by rw [← e]; simp))
    exact ⟨c, by simp only [pfold, h1, bind_ok, h3], by simpa using h4⟩
theorem pfold_ok {F : α → σ → M σ} {g : σ → α → σ} : ∀ {xs : List α} {a : σ}, (∀ x ∈ xs, ∀ a, F x a = .ok (g a x)) → pfold F xs a = .ok (xs.foldl g a)
  | [], a, _ => rfl
  | x :: xs, a, h => by
    simp only [pfold, h x List.mem_cons_self, bind_ok, List.foldl_cons]
    exact pfold_ok fun y hy => h y (List.mem_cons_of_mem _ hy)
theorem pfold_const {F : α → σ → M σ} {a : σ} : ∀ {xs : List α}, (∀ x ∈ xs, F x a = .ok a) → pfold F xs a = .ok a
  | [], _ => rfl
  | x :: xs, h => by
    simp only [pfold, h x List.mem_cons_self, bind_ok]
    exact pfold_const fun y hy => h y (List.mem_cons_of_mem _ hy)
/-- a loop that appends -/
theorem pfold_app {F : α → List β → M (List β)} (g : α → β) : ∀ (xs : List α) (a : List β), a.length + xs.length ≤ 16777216 → (∀ x ∈ xs, ∀ a : List β, a.length < 16777216 → F x a = .ok (a ++ [g x])) → pfold F xs a = .ok (a ++ xs.map g)
  | [], a, _, _ => by simp [pfold]
  | x :: xs, a, hl, h => by
    simp only [List.length_cons] at hl
    simp only [pfold, h x List.mem_cons_self a (by omega), bind_ok]
    rw [pfold_app g xs (a ++ [g x]) (by simp; omega) fun y hy => h y (List.mem_cons_of_mem _ hy)]
    simp
theorem rng_split {n x : Int} {p q : List Int} (e : rng n = p ++ x :: q) : p = rng x ∧ 0 ≤ x ∧ x < n := by
  have hx : x ∈ rng n := by rw [e]; simp
  have hx := mem_rng.mp hx
  have hlen : (p.length : Int) = x := by
    have h1 : ix (rng n) (p.length : Int) = x := by
      rw [e, ix_app2 (Int.le_refl _)]; simp
    have hl : p.length < (rng n).length := by rw [e]; simp
    rw [len_rng] at hl
    rwa [ix_rng (by omega) (by omega)] at h1
  refine ⟨?_, hx⟩
  have h2 : p = (rng n).take p.length := by rw [e]; simp
  rw [h2]
  apply ix_ext
  · simp; omega
  · intro i h0 h1
    simp at h1
    rw [ix_rng h0 (by omega)]
    unfold ix
    rw [List.getD_eq_getElem?_getD, List.getElem?_take_of_lt (by omega), ← List.getD_eq_getElem?_getD]
    exact ix_rng (n := n) h0 (by omega)
theorem pfold_rng {F : Int → σ → M σ} (I : Int → σ → Prop) {n : Int} {a : σ} (hn : 0 ≤ n) (h0 : I 0 a) (hs : ∀ k a, 0 ≤ k → k < n → I k a → ∃ b, F k a = .ok b ∧ I (k + 1) b) : ∃ b, pfold F (rng n) a = .ok b ∧ I n b := by
  obtain ⟨b, h1, h2⟩ := pfold_inv (F := F) (fun p a => I p.length a) (rng n) [] a (by simpa using h0) (fun p x q a e hi => by
    simp only [List.nil_append] at e
    obtain ⟨rfl, h1, h2⟩ := rng_split e
    obtain ⟨b, h3, h4⟩ := hs x a h1 h2 (by rw [len_rng] at hi; rwa [Int.toNat_of_nonneg h1] at hi)
    refine ⟨b, h3, ?_⟩
    rw [List.length_append, len_rng]
    simpa [Int.toNat_of_nonneg h1] using h4)
  refine ⟨b, h1, ?_⟩
  simpa [Int.toNat_of_nonneg hn] using h2
/-- loops that may leave -/
theorem pfor_all {F : α → σ → M (DL.F σ ρ)} {a : σ} : ∀ {xs : List α}, (∀ x ∈ xs, F x a = .ok (.nx a)) → pfor F xs a = .ok (.inl a)
  | [], _ => rfl
  | x :: xs, h => by
    simp only [pfor, h x List.mem_cons_self, bind_ok]
    exact pfor_all fun y hy => h y (List.mem_cons_of_mem _ hy)
theorem pfor_test {F : α → σ → M (DL.F σ ρ)} {a : σ} {p : α → Bool} {r : ρ} : ∀ {xs : List α}, (∀ x ∈ xs, F x a = .ok (if p x = true then .nx a else .ret r)) → pfor F xs a = .ok (if xs.all p = true then .inl a else .inr r)
  | [], _ => rfl
  | x :: xs, h => by
    have h1 := h x List.mem_cons_self
    by_cases hp : p x = true
    · rw [if_pos hp] at h1
      simp only [pfor, h1, bind_ok]
      rw [pfor_test (p := p) (r := r) fun y hy => h y (List.mem_cons_of_mem _ hy)]
      simp [hp]
    · rw [if_neg hp] at h1
      simp only [pfor, h1, bind_ok]
      simp [hp]
/-- .. with the first one that is told -/
theorem pfor_find {F : α → σ → M (DL.F σ ρ)} {a : σ} {p : α → Bool} {r : α → ρ} : ∀ {xs : List α}, (∀ x ∈ xs, F x a = .ok (if p x = true then .ret (r x) else .nx a)) → pfor F xs a = .ok (match xs.find? p with | some x => .inr (r x) | none => .inl a)
  | [], _ => rfl
  | x :: xs, h => by
    have h1 := h x List.mem_cons_self
    by_cases hp : p x = true
    · rw [if_pos hp] at h1
      simp only [pfor, h1, bind_ok]
      simp [hp]
    · rw [if_neg hp] at h1
      simp only [pfor, h1, bind_ok]
      rw [pfor_find (p := p) (r := r) fun y hy => h y (List.mem_cons_of_mem _ hy)]
      simp [hp]
theorem pfor_inv {F : α → σ → M (DL.F σ ρ)} (I : List α → σ → Prop) (R : ρ → Prop) : ∀ (xs pre : List α) (a : σ), I pre a → (∀ p x q a, pre ++ xs = p ++ x :: q → I p a → (∃ b, F x a = .ok (.nx b) ∧ I (p ++ [x]) b) ∨ ∃ r, F x a = .ok (.ret r) ∧ R r) → (∃ b, pfor F xs a = .ok (.inl b) ∧ I (pre ++ xs) b) ∨ ∃ r, pfor F xs a = .ok (.inr r) ∧ R r
  | [], pre, a, h, _ => .inl ⟨a, rfl, by simpa using h⟩
  | x :: xs, pre, a, h, hs => by
    rcases hs pre x xs a rfl h with ⟨b, h1, h2⟩ | ⟨r, h1, h2⟩
    · rcases pfor_inv I R xs (pre ++ [x]) b h2 (fun p y q a e => hs p y q a (by rw [← e]; simp)) with ⟨c, h3, h4⟩ | ⟨r, h3, h4⟩
      · exact .inl ⟨c, by simp only [pfor, h1, bind_ok, h3], by simpa using h4⟩
      · exact .inr ⟨r, by simp only [pfor, h1, bind_ok, h3], h4⟩
    · exact .inr ⟨r, by simp only [pfor, h1, bind_ok], h2⟩
end
/-! ### tables of numbers -/
def mul (T : List (List Int)) (x y : Int) : Int := ix (ix T x) y
def tab (n : Int) (f : Int → Int → Int) : List (List Int) := (rng n).map fun x => (rng n).map fun y => f x y
structure VT (n : Int) (T : List (List Int)) : Prop where
  len : (T.length : Int) = n
  row : ∀ r ∈ T, (r.length : Int) = n
  ent : ∀ r ∈ T, ∀ x ∈ r, 0 ≤ x ∧ x < n
def Asc (n : Int) (f : Int → Int → Int) : Prop := ∀ x y z, 0 ≤ x → x < n → 0 ≤ y → y < n → 0 ≤ z → z < n → f (f x y) z = f x (f y z)
section
variable {n : Int} {T : List (List Int)} {f : Int → Int → Int} {x y : Int}
theorem VT.n0 (V : VT n T) : 0 ≤ n := by have := V.len; omega
theorem VT.rowAt (V : VT n T) (h0 : 0 ≤ x) (h1 : x < n) : ix T x ∈ T := ix_mem h0 (by rw [V.len]; exact h1)
theorem VT.rlen (V : VT n T) (h0 : 0 ≤ x) (h1 : x < n) : ((ix T x).length : Int) = n := V.row _ (V.rowAt h0 h1)
theorem VT.lt (V : VT n T) (h0 : 0 ≤ x) (h1 : x < n) (h2 : 0 ≤ y) (h3 : y < n) : 0 ≤ mul T x y ∧ mul T x y < n := V.ent _ (V.rowAt h0 h1) _ (ix_mem h2 (by rw [V.rlen h0 h1]; exact h3))
theorem VT.at1 (V : VT n T) (h0 : 0 ≤ x) (h1 : x < n) : pAt T x = .ok (ix T x) := pAt_ok h0 (by rw [V.len]; exact h1)
theorem VT.at2 (V : VT n T) (h0 : 0 ≤ x) (h1 : x < n) (h2 : 0 ≤ y) (h3 : y < n) : pAt (ix T x) y = .ok (mul T x y) := pAt_ok h2 (by rw [V.rlen h0 h1]; exact h3)
theorem mul_tab (h0 : 0 ≤ x) (h1 : x < n) (h2 : 0 ≤ y) (h3 : y < n) : mul (tab n f) x y = f x y := by
  unfold mul tab
  rw [ix_map_rng h0 h1, ix_map_rng h2 h3]
theorem VT_tab (hn : 0 ≤ n) (h : ∀ x y, 0 ≤ x → x < n → 0 ≤ y → y < n → 0 ≤ f x y ∧ f x y < n) : VT n (tab n f) := by
  refine ⟨by simp [tab]; omega, fun r hr => ?_, fun r hr y hy => ?_⟩
  · obtain ⟨x, _, rfl⟩ := List.mem_map.mp hr
    simp; omega
  · obtain ⟨x, hx, rfl⟩ := List.mem_map.mp hr
    obtain ⟨y', hy2, rfl⟩ := List.mem_map.mp hy
    rw [mem_rng] at hx hy2
    exact h x y' hx.1 hx.2 hy2.1 hy2.2
theorem row_rng (V : VT n T) (h0 : 0 ≤ x) (h1 : x < n) : ix T x = (rng n).map (mul T x) := list_rng (V.rlen h0 h1)
theorem eq_tab (V : VT n T) : T = tab n (mul T) := by
  rw [show T = _ from list_rng V.len]
  unfold tab
  apply List.map_congr_left
  intro x hx
  rw [mem_rng] at hx
  rw [← list_rng V.len]
  exact row_rng V hx.1 hx.2
theorem VT_ext {S : List (List Int)} (V : VT n T) (W : VT n S) (h : ∀ x y, 0 ≤ x → x < n → 0 ≤ y → y < n → mul T x y = mul S x y) : T = S := by
  rw [eq_tab V, eq_tab W]
  unfold tab
  apply List.map_congr_left
  intro x hx
  apply List.map_congr_left
  intro y hy
  rw [mem_rng] at hx hy
  exact h x y hx.1 hx.2 hy.1 hy.2
theorem tab_congr {g : Int → Int → Int} (h : ∀ x y, 0 ≤ x → x < n → 0 ≤ y → y < n → f x y = g x y) : tab n f = tab n g := by
  unfold tab
  apply List.map_congr_left
  intro x hx
  apply List.map_congr_left
  intro y hy
  rw [mem_rng] at hx hy
  exact h x y hx.1 hx.2 hy.1 hy.2
theorem Asc_tab (h : Asc n f) (hc : ∀ x y, 0 ≤ x → x < n → 0 ≤ y → y < n → 0 ≤ f x y ∧ f x y < n) : Asc n (mul (tab n f)) := by
  intro x y z hx hx' hy hy' hz hz'
  have h1 := hc x y hx hx' hy hy'
  have h2 := hc y z hy hy' hz hz'
  rw [mul_tab hx hx' hy hy', mul_tab hy hy' hz hz', mul_tab h1.1 h1.2 hz hz', mul_tab hx hx' h2.1 h2.2]
  exact h x y z hx hx' hy hy' hz hz'
end
/-- a table made by two blocks, one in the other -/
theorem pMap_tab {n : Int} {F : Int → Int → M Int} {f : Int → Int → Int} (h0 : 0 ≤ n) (hn : n ≤ 16777216) (h : ∀ x y, 0 ≤ x → x < n → 0 ≤ y → y < n → F x y = .ok (f x y)) : pMap (fun x => pMap (F x) (rng n)) (rng n) = .ok (tab n f) := by
  refine pMap_ok (fun x => (rng n).map (f x)) (by rw [len_rng]; have : big = 16777216 := rfl; omega) fun x hx => ?_
  rw [mem_rng] at hx
  refine pMap_ok (f x) (by rw [len_rng]; have : big = 16777216 := rfl; omega) fun y hy => ?_
  rw [mem_rng] at hy
  exact h x y hx.1 hx.2 hy.1 hy.2
/-! ### it ends well -/
def Ok {α : Type} (o : M α) (Q : α → Prop) : Prop := ∃ a, o = .ok a ∧ Q a
section
variable {α β σ ρ : Type}
theorem Ok.of {o : M α} {a : α} {Q : α → Prop} (e : o = .ok a) (q : Q a) : Ok o Q := ⟨a, e, q⟩
theorem Ok.pure {a : α} {Q : α → Prop} (q : Q a) : Ok (.ok a) Q := ⟨a, rfl, q⟩
theorem Ok.bind {o : M α} {k : α → M β} {P : α → Prop} {Q : β → Prop} (h : Ok o P) (hk : ∀ a, P a → Ok (k a) Q) : Ok (o.bind k) Q := by
  obtain ⟨a, rfl, p⟩ := h
  exact hk a p
theorem Ok.bind_eq {o : M α} {k : α → M β} {a : α} {Q : β → Prop} (h : o = .ok a) (hk : Ok (k a) Q) : Ok (o.bind k) Q := by subst h; exact hk
theorem Ok.imp {o : M α} {P Q : α → Prop} (h : Ok o P) (i : ∀ a, P a → Q a) : Ok o Q := let ⟨a, e, p⟩ := h; ⟨a, e, i a p⟩
theorem Ok.ite {x : Bool} {o1 o2 : M α} {Q : α → Prop} (h1 : x = true → Ok o1 Q) (h2 : x = false → Ok o2 Q) : Ok (if x = true then o1 else o2) Q := by
  cases x with
  | true => exact h1 rfl
  | false => exact h2 rfl
theorem Ok.eq {o : M α} {a : α} (h : Ok o (fun b => b = a)) : o = .ok a := by obtain ⟨b, e, rfl⟩ := h; exact e
theorem Ok.mk {o : M α} {a : α} (h : o = .ok a) : Ok o (fun b => b = a) := ⟨a, h, rfl⟩
theorem Ok.nx {o : M α} {Q : α → Prop} (h : Ok o Q) : Ok (pNX o) Q := by obtain ⟨a, rfl, q⟩ := h; exact ⟨a, rfl, q⟩
theorem Ok.fold {F : α → σ → M σ} {xs : List α} {a : σ} {Q : σ → Prop} (I : List α → σ → Prop) (h0 : I [] a) (hs : ∀ p x q a, xs = p ++ x :: q → I p a → Ok (F x a) (I (p ++ [x]))) (hq : ∀ b, I xs b → Q b) : Ok (pfold F xs a) Q := by
  obtain ⟨b, e, h⟩ := pfold_inv I xs [] a h0 hs
  exact ⟨b, e, hq b h⟩
theorem Ok.fold_rng {F : Int → σ → M σ} {n : Int} {a : σ} {Q : σ → Prop} (I : Int → σ → Prop) (hn : 0 ≤ n) (h0 : I 0 a) (hs : ∀ k a, 0 ≤ k → k < n → I k a → Ok (F k a) (I (k + 1))) (hq : ∀ b, I n b → Q b) : Ok (pfold F (rng n) a) Q := by
  obtain ⟨b, e, h⟩ := pfold_rng I hn h0 hs
  exact ⟨b, e, hq b h⟩
/-- an invariant that holds at each turn -/
theorem Ok.fold_all {F : α → σ → M σ} {xs : List α} {a : σ} (I : σ → Prop) (h0 : I a) (hs : ∀ x ∈ xs, ∀ a, I a → Ok (F x a) I) : Ok (pfold F xs a) I :=
  Ok.fold (fun _ => I) h0 (fun p x q a e h => hs x (by rw [e]; simp) a h) fun _ h => h
theorem Ok.map {f : α → M β} {xs : List α} {Q : β → Prop} (hl : xs.length ≤ 16777216) (h : ∀ x ∈ xs, Ok (f x) Q) : Ok (pMap f xs) (fun ys => ys.length = xs.length ∧ ∀ y ∈ ys, Q y) := by
  unfold pMap
  rw [if_pos (by have : big = 16777216 := rfl; omega)]
  clear hl
  induction xs with
  | nil => exact ⟨[], rfl, rfl, fun _ h => by cases h⟩
  | cons x xs ih =>
    obtain ⟨y, e, q⟩ := h x List.mem_cons_self
    obtain ⟨ys, e2, hl, q2⟩ := ih fun z hz => h z (List.mem_cons_of_mem _ hz)
    refine ⟨y :: ys, by simp only [mapGo, e, e2], by simp [hl], fun z hz => ?_⟩
    rcases List.mem_cons.mp hz with rfl | hz
    · exact q
    · exact q2 z hz
end
/-! ### draws -/
structure Good (s t : Int) : Prop where
  s0 : 0 ≤ s
  t0 : 0 ≤ t
  t1 : t < 2147483647
def StOk (r : List Int) : Prop := ∃ s t, r = [s, t] ∧ Good s t
/-- from any state a value with Q comes, and a state -/
def Draw {α : Type} (f : List Int → M (α × List Int)) (Q : α → Prop) : Prop := ∀ r, StOk r → Ok (f r) (fun p => Q p.1 ∧ StOk p.2)
theorem Draw.imp {α : Type} {f : List Int → M (α × List Int)} {Q R : α → Prop} (h : Draw f Q) (i : ∀ a, Q a → R a) : Draw f R := fun r g => (h r g).imp fun _ q => ⟨i _ q.1, q.2⟩
theorem mapS_draw {α β : Type} {F : α → List Int → M (β × List Int)} {Q : β → Prop} : ∀ {xs : List α}, (∀ x ∈ xs, Draw (F x) Q) → Draw (mapS F xs) (fun ys => ys.length = xs.length ∧ ∀ y ∈ ys, Q y)
  | [], _ => fun r g => ⟨_, rfl, ⟨rfl, fun _ h => by cases h⟩, g⟩
  | x :: xs, h => fun r g =>
    (h x List.mem_cons_self r g).bind fun y hy => (mapS_draw (Q := Q) (F := F) (xs := xs) (fun y hy => h y (List.mem_cons_of_mem _ hy)) y.2 hy.2).bind fun ys hys => ⟨_, rfl, ⟨by simp [hys.1.1], fun z hz => by
      rcases List.mem_cons.mp hz with rfl | hz
      · exact hy.1
      · exact hys.1.2 z hz⟩, hys.2⟩
theorem pMapS_draw {α β : Type} {F : α → List Int → M (β × List Int)} {Q : β → Prop} {xs : List α} (hl : xs.length ≤ 16777216) (h : ∀ x ∈ xs, Draw (F x) Q) : Draw (pMapS F xs) (fun ys => ys.length = xs.length ∧ ∀ y ∈ ys, Q y) := by
  intro r g
  unfold pMapS
  rw [if_pos (by have : big = 16777216 := rfl; omega)]
  exact mapS_draw h r g
end DL

namespace DL
open PySem L2
/-! ### try -/
def tryM {α γ : Type} (o : M α) (k : α → M γ) (h : Str → List (Str × D) → M γ) : M γ := match o with
  | .ok a => k a
  | .exn c fs => h c fs
  | .stuck => .stuck
def pMt {γ : Type} (mt : List (Str × Str × Bool)) (c x : Str) (o1 o2 : M γ) : M γ := match mtB mt c x with
  | some true => o1
  | some false => o2
  | none => .stuck
def pXf (c : Str) (fs : List (Str × D)) (c0 f : Str) : M D := match fs with
  | [(nm, x)] => if c = c0 ∧ nm = f then .ok x else .stuck
  | _ => .stuck
section
variable {α γ δ : Type} {X : Bool} {st st1 st2 : DSt} {K : γ → Fl → DSt → Prop} {o : M α} {b : DS} {w : α → D} {mt : List (Str × Str × Bool)} {hs r : List HdD} {k : α → M γ} {h : Str → List (Str × D) → M γ}
theorem rv_consL {a : Den D} {r : Den (List D)} {x : D} {xs : List D} (h1 : RV a st x st1) (h2 : RV r st1 xs st2) : RV (dCons a r) st (x :: xs) st2 := rv_bind h1 (rv_bind h2 rv_ret)
theorem rs_tryE {df : List D → M D} {fa : Den (List D)} {ds : List D} (ha : RV fa st ds st1) (hd : DM (df ds) o w) (h1 : ∀ c, RS X b st1 (k c) K) (h2 : ∀ c fs, RS X (sSeq (runH mt c fs hs) b) st1 (h c fs) K) :
    RS X (sSeq (sTry mt (sExpr (dCall df fa)) hs) b) st (tryM o k h) K := by
  have ha : fa st = .ok ds st1 := ha
  cases o with
  | ok c => exact rs_of_eq (st1 := st1) (g := b) (by unfold sSeq sTry sExpr dCall; simp only [bindD, ha, liftM']; rw [show df ds = _ from hd]; rfl) (h1 c)
  | exn c fs => exact rs_of_eq (st1 := st1) (g := sSeq (runH mt c fs hs) b) (by unfold sSeq sTry sExpr dCall; simp only [bindD, ha, liftM']; rw [show df ds = _ from hd]) (h2 c fs)
  | stuck => trivial
theorem rs_tryR {df : List D → M D} {fa : Den (List D)} {ds : List D} {g : α → γ} (ha : RV fa st ds st1) (hd : DM (df ds) o w) (h1 : ∀ c, K (g c) (.ret (w c)) st1) (h2 : ∀ c fs, RS X (sSeq (runH mt c fs hs) b) st1 (h c fs) K) :
    RS X (sSeq (sTry mt (sRet (dCall df fa)) hs) b) st (tryM o (fun c => .ok (g c)) h) K := by
  have ha : fa st = .ok ds st1 := ha
  cases o with
  | ok c => exact ⟨.ret (w c), st1, by unfold sSeq sTry sRet dCall; simp only [bindD, ha, liftM']; rw [show df ds = _ from hd]; rfl, h1 c⟩
  | exn c fs => exact rs_of_eq (st1 := st1) (g := sSeq (runH mt c fs hs) b) (by unfold sSeq sTry sRet dCall; simp only [bindD, ha, liftM']; rw [show df ds = _ from hd]) (h2 c fs)
  | stuck => trivial
theorem rs_runN {c : Str} {fs : List (Str × D)} : RS X (sSeq (runH mt c fs []) b) st (.exn c fs : M γ) K := fun _ => ⟨st, rfl⟩
theorem rs_runU {c x : Str} {fs : List (Str × D)} {den : DS} {o1 o2 : M γ} (h1 : RS X (sSeq (noX den) b) st o1 K) (h2 : RS X (sSeq (runH mt c fs r) b) st o2 K) : RS X (sSeq (runH mt c fs (⟨x, none, den⟩ :: r)) b) st (pMt mt c x o1 o2) K := by
  unfold pMt
  cases hm : mtB mt c x with
  | none => trivial
  | some q => cases q with
    | true => exact rs_of_eq (st1 := st) (g := sSeq (noX den) b) (by unfold sSeq; simp only [runH, hm]) h1
    | false => exact rs_of_eq (st1 := st) (g := sSeq (runH mt c fs r) b) (by unfold sSeq; simp only [runH, hm]) h2
/-- a named clause that gives something back -/
theorem rs_runNR {c x : Str} {fs : List (Str × D)} {i : Nat} {f : Den D} {o1 : M α} {v : α → D} {g : α → γ} {o2 : M γ} (hn : noXc st = true) (hi : i < st.length) (hn2 : noXc (st.set i .no) = true) (hf : RE f (st.set i (xcSlot c fs)) o1 v (st.set i (xcSlot c fs))) (hK : ∀ a, K (g a) (.ret (v a)) (st.set i .no))
    (h2 : RS X (sSeq (runH mt c fs r) b) st o2 K) : RS X (sSeq (runH mt c fs (⟨x, some i, sRet f⟩ :: r)) b) st (pMt mt c x (pNX (o1.bind fun a => .ok (g a))) o2) K := by
  unfold pMt
  cases hm : mtB mt c x with
  | none => trivial
  | some q => cases q with
    | true =>
      cases o1 with
      | ok a =>
        refine ⟨.ret (v a), st.set i .no, ?_, hK a⟩
        have hf : f (st.set i (xcSlot c fs)) = .ok (v a) (st.set i (xcSlot c fs)) := hf
        unfold sSeq
        simp only [runH, hm]
        rw [if_pos ⟨hn, hi⟩]
        simp only [clrS, sRet, bindD, hf, retD, List.set_set, hn2, if_true]
      | exn c fs => trivial
      | stuck => trivial
    | false => exact rs_of_eq (st1 := st) (g := sSeq (runH mt c fs r) b) (by unfold sSeq; simp only [runH, hm]) h2
theorem rs_hretP {f : Den D} {d : D} {c : γ} (hf : RV f st d st1) (hK : K c (.ret d) st1) : RS X (sSeq (noX (sRet f)) b) st (.ok c) K :=
  ⟨.ret d, st1, by unfold sSeq noX sRet; simp only [bindD]; rw [show f st = _ from hf]; rfl, hK⟩
theorem rs_hsetP {f : Den D} {d : D} {i : Nat} {o : M γ} (st2 : DSt) (hf : RV f st d st1) (hs : slotSet i (.sh d) st1 = some st2) (h : RS X b st2 o K) : RS X (sSeq (noX (sSet i f)) b) st o K :=
  rs_of_eq (st1 := st2) (g := b) (by unfold sSeq noX sSet putD; simp only [bindD]; rw [show f st = _ from hf]; simp only [hs]) h
theorem rs_hpass {o : M γ} (h : RS X b st o K) : RS X (sSeq (noX sPass) b) st o K := h
theorem re_xf {i : Nat} {c c0 f : Str} {fs : List (Str × D)} (h : st[i]? = some (xcSlot c fs)) : RE (dXf i c0 f) st (pXf c fs c0 f) eD st := by
  unfold pXf
  split
  · rename_i nm x
    by_cases q : c = c0 ∧ nm = f
    · rw [if_pos q]
      show dXf i c0 f st = _
      unfold dXf
      rw [h]
      simp only [xcSlot, q, and_self, if_true]
    · rw [if_neg q]; trivial
  · trivial
/-- any body, where the clauses only tell a constant -/
theorem rs_tryB {body : DS} {σ ρ : Type} {ob : M (σ ⊕ ρ)} {I : σ → DSt → Prop} {hf : ρ → γ} {o2 : σ → M γ} {hh : Str → List (Str × D) → M ρ} (h1 : RS true body st ob (KS I (KR K hf))) (h3 : ∀ c st', I c st' → RS X b st' (o2 c) K)
    (h2 : ∀ c fs st', RS X (runH mt c fs hs) st' (hh c fs) (KR K hf)) (hx : X = false) : RS X (sSeq (sTry mt body hs) b) st (tryM ob (fun r => pK r o2 hf) (fun c fs => (hh c fs).bind fun r => .ok (hf r))) K := by
  subst hx
  cases ob with
  | ok r =>
    obtain ⟨fl, st', e, hk⟩ := h1
    cases r with
    | inl a =>
      obtain ⟨rfl, hi⟩ := hk
      exact rs_of_eq (st1 := st') (by unfold sSeq sTry; rw [e]) (h3 a st' hi)
    | inr r =>
      obtain ⟨⟨d, rfl⟩, hk⟩ := hk
      exact ⟨.ret d, st', by unfold sSeq sTry; rw [e], hk⟩
  | exn c fs =>
    obtain ⟨s, e⟩ := h1 rfl
    have h2 := h2 c fs s
    simp only [tryM]
    cases hq : hh c fs with
    | ok r =>
      rw [hq] at h2
      obtain ⟨fl, st', e2, ⟨d, rfl⟩, hk⟩ := h2
      exact ⟨.ret d, st', by unfold sSeq sTry; rw [e]; simp only [e2], hk⟩
    | exn c' fs' => intro z; cases z
    | stuck => trivial
  | stuck => trivial
theorem rs_runU' {σ : Type} {K : σ → Fl → DSt → Prop} {c x : Str} {fs : List (Str × D)} {den : DS} {o1 o2 : M σ} (h1 : RS X (noX den) st o1 K) (h2 : RS X (runH mt c fs r) st o2 K) : RS X (runH mt c fs (⟨x, none, den⟩ :: r)) st (pMt mt c x o1 o2) K := by
  unfold pMt
  cases hm : mtB mt c x with
  | none => trivial
  | some q => cases q with
    | true => exact rs_of_eq (st1 := st) (g := noX den) (by simp only [runH, hm]) h1
    | false => exact rs_of_eq (st1 := st) (g := runH mt c fs r) (by simp only [runH, hm]) h2
theorem rs_runN' {σ : Type} {K : σ → Fl → DSt → Prop} {c : Str} {fs : List (Str × D)} : RS false (runH mt c fs []) st (.stuck : M σ) K := trivial
theorem rs_hconst {σ : Type} {K : σ → Fl → DSt → Prop} {d : D} {c : σ} (hK : ∀ st, K c (.ret d) st) : RS X (noX (sRet (dC d))) st (.ok c) K := ⟨.ret d, st, rfl, hK st⟩
end
theorem noXc_jk (j : Option D) : (!isXc (jk j)) = true := by cases j <;> rfl
theorem noXc_fz (z : Bool) (ds : List D) : (!isXc (fz z ds)) = true := by cases z <;> rfl
/-! ### tests of a block that change a list -/
def filS {α β τ : Type} (p : α → τ → M (Bool × τ)) (f : α → τ → M (β × τ)) : List α → τ → M (List β × τ)
  | [], r => .ok ([], r)
  | x :: xs, r => (p x r).bind fun q => if q.1 = true then (f x q.2).bind fun y => (filS p f xs y.2).bind fun ys => .ok (y.1 :: ys.1, ys.2) else filS p f xs q.2
def pFilS {α β τ : Type} (p : α → τ → M (Bool × τ)) (f : α → τ → M (β × τ)) (xs : List α) (r : τ) : M (List β × τ) := if xs.length ≤ big then filS p f xs r else .stuck
section
variable {α β τ : Type} {vs : List Nat} {t : Tg} {test : Den Bool} {elt : Den D} {e : α → D} {e2 : β → D} {S : τ → DSt}
theorem compGo_FS {f : α → τ → M (β × τ)} {p : α → τ → M (Bool × τ)} {S0 : τ → DSt} (S1 : α → τ → DSt) (hb : ∀ x r, setT t (e x) (S0 r) = some (S1 x r) ∧ RT test (S1 x r) (p x r) (fun b : Bool => b) (S1 x) ∧ RT elt (S1 x r) (f x r) e2 (S1 x) ∧ wipeD (S1 x r) vs = S0 r) :
    ∀ (xs : List α) (r : τ), match filS p f xs r with | .ok q => compGo vs t test elt (xs.map e) (S0 r) = .ok (q.1.map e2) (S0 q.2) | _ => True
  | [], r => rfl
  | x :: xs, r => by
    obtain ⟨h1, ht, _, _⟩ := hb x r
    simp only [filS]
    cases hp : p x r with
    | ok q =>
      rw [hp] at ht
      have ht : test (S1 x r) = .ok q.1 (S1 x q.2) := ht
      simp only [bind_ok]
      obtain ⟨b, r1⟩ := q
      cases b with
      | true =>
        obtain ⟨_, _, h2, _⟩ := hb x r1
        simp only [if_true]
        cases hf : f x r1 with
        | ok y =>
          rw [hf] at h2
          have h2 : elt (S1 x r1) = .ok (e2 y.1) (S1 x y.2) := h2
          have ih := compGo_FS S1 hb xs y.2
          have h4 := (hb x y.2).2.2.2
          simp only [bind_ok]
          cases hr : filS p f xs y.2 with
          | ok ys =>
            rw [hr] at ih
            simp only [] at ih
            simp only [bind_ok, List.map_cons, compGo, h1, ht, h2, h4, ih]
          | exn c fs => trivial
          | stuck => trivial
        | exn c fs => trivial
        | stuck => trivial
      | false =>
        have ih := compGo_FS S1 hb xs r1
        have h4 := (hb x r1).2.2.2
        simp only [Bool.false_eq_true, if_false]
        cases hr : filS p f xs r1 with
        | ok ys =>
          rw [hr] at ih
          simp only [] at ih
          simp only [List.map_cons, compGo, h1, ht, h4, ih]
        | exn c fs => trivial
        | stuck => trivial
    | exn c fs => trivial
    | stuck => trivial
theorem rt_compF {f : α → τ → M (β × τ)} {p : α → τ → M (Bool × τ)} {xs : List α} {r : τ} (S0 : τ → DSt) (S1 : α → τ → DSt) (hw : ∀ r, wipeD (S r) vs = S0 r) (hp : vs.all (plainAt (S r)) = true) (hbk : ∀ r', backD (S r) (S0 r') vs = S r')
    (hb : ∀ x r, setT t (e x) (S0 r) = some (S1 x r) ∧ RT test (S1 x r) (p x r) (fun b : Bool => b) (S1 x) ∧ RT elt (S1 x r) (f x r) e2 (S1 x) ∧ wipeD (S1 x r) vs = S0 r) : RT (compK vs t test elt (xs.map e)) (S r) (pFilS p f xs r) (List.map e2) S := by
  unfold pFilS
  by_cases hl : xs.length ≤ big
  · rw [if_pos hl]
    have h := compGo_FS (vs := vs) (t := t) (test := test) (elt := elt) (e := e) (e2 := e2) (f := f) (p := p) S1 hb xs r
    cases hr : filS p f xs r with
    | ok q =>
      rw [hr] at h
      simp only [] at h
      show compK vs t test elt (xs.map e) (S r) = _
      unfold compK
      rw [if_pos ⟨by rw [List.length_map]; exact hl, hp⟩, hw, h]
      simp only [hbk]
    | exn c fs => trivial
    | stuck => trivial
  · rw [if_neg hl]; trivial
end
/-! ### two clauses -/
section
variable {α β γ : Type} {vs vs1 : List Nat} {t t1 : Tg} {fi1 : Den (List D)} {test test1 : Den Bool} {elt : Den D} {e : α → D} {e1 : β → D} {e2 : γ → D} {st : DSt}
def compKB (vs vs1 : List Nat) (t : Tg) (test : Den Bool) (t1 : Tg) (fi1 : Den (List D)) (test1 : Den Bool) (elt : Den D) (ds : List D) : Den (List D) := fun st =>
  if vs.all (plainAt st) = true then
    match goB vs vs1 t test t1 fi1 test1 elt ds (wipeD st vs) with
    | .ok ys st' => if ys.length ≤ big then .ok ys (backD st st' vs) else .stuck
    | _ => .stuck
  else .stuck
theorem goB_typed {p : α → M Bool} {g : α → M (List β)} {q : α → β → M Bool} {f : α → β → M γ} {st0 : DSt}
    (hb : ∀ x, ∃ sa sb sc sd, setT t (e x) st0 = some sa ∧ RE test sa (p x) (fun b : Bool => b) sb ∧ RE fi1 sb (g x) (List.map e1) sc ∧ wipeD sc vs1 = sd ∧ wipeD sd vs = st0 ∧ wipeD sb vs = st0 ∧
      ∀ y, ∃ s1 s2 s3, setT t1 (e1 y) sd = some s1 ∧ RE test1 s1 (q x y) (fun b : Bool => b) s2 ∧ RE elt s2 (f x y) e2 s3 ∧ wipeD s2 vs1 = sd ∧ wipeD s3 vs1 = sd) :
    ∀ xs : List α, match goP p g q f xs with | .ok ys => goB vs vs1 t test t1 fi1 test1 elt (xs.map e) st0 = .ok (ys.map e2) st0 | _ => True
  | [] => rfl
  | x :: xs => by
    obtain ⟨sa, sb, sc, sd, h1, h2, h3, h4, h5, h5', h6⟩ := hb x
    have ih := goB_typed hb xs
    simp only [goP]
    cases hp : p x with
    | ok c =>
      rw [hp] at h2
      have h2 : test sa = .ok c sb := h2
      cases c with
      | true =>
        simp only []
        cases hg : g x with
        | ok ys =>
          rw [hg] at h3
          have h3 : fi1 sb = .ok (ys.map e1) sc := h3
          simp only []
          have hin := compGo_typed (vs := vs1) (t := t1) (test := test1) (elt := elt) (e := e1) (e2 := e2) (p := q x) (f := f x) (st0 := sd) h6 ys
          cases hr : filGo (q x) (f x) ys with
          | ok zs =>
            rw [hr] at hin
            simp only [] at hin ⊢
            cases hq : goP p g q f xs with
            | ok ws =>
              rw [hq] at ih
              simp only [] at ih ⊢
              simp only [List.map_cons, goB, h1, h2, h3, h4, hin, h5, ih, List.map_append]
            | exn c fs => trivial
            | stuck => trivial
          | exn c fs => trivial
          | stuck => trivial
        | exn c fs => trivial
        | stuck => trivial
      | false =>
        simp only []
        cases hq : goP p g q f xs with
        | ok ws =>
          rw [hq] at ih
          simp only [] at ih ⊢
          simp only [List.map_cons, goB, h1, h2, h5', ih]
        | exn c fs => trivial
        | stuck => trivial
    | exn c fs => trivial
    | stuck => trivial
theorem re_compB {xs : List α} {p : α → M Bool} {g : α → M (List β)} {q : α → β → M Bool} {f : α → β → M γ} (st0 : DSt) (hw : wipeD st vs = st0) (hp : vs.all (plainAt st) = true) (hbk : backD st st0 vs = st)
    (hb : ∀ x, ∃ sa sb sc sd, setT t (e x) st0 = some sa ∧ RE test sa (p x) (fun b : Bool => b) sb ∧ RE fi1 sb (g x) (List.map e1) sc ∧ wipeD sc vs1 = sd ∧ wipeD sd vs = st0 ∧ wipeD sb vs = st0 ∧
      ∀ y, ∃ s1 s2 s3, setT t1 (e1 y) sd = some s1 ∧ RE test1 s1 (q x y) (fun b : Bool => b) s2 ∧ RE elt s2 (f x y) e2 s3 ∧ wipeD s2 vs1 = sd ∧ wipeD s3 vs1 = sd) :
    RE (compKB vs vs1 t test t1 fi1 test1 elt (xs.map e)) st (pFilB p g q f xs) (List.map e2) st := by
  unfold pFilB
  have h := goB_typed (vs := vs) (vs1 := vs1) (t := t) (t1 := t1) (fi1 := fi1) (test := test) (test1 := test1) (elt := elt) (e := e) (e1 := e1) (e2 := e2) hb xs
  cases hr : goP p g q f xs with
  | ok ys =>
    rw [hr] at h
    simp only [] at h ⊢
    by_cases hl : ys.length ≤ big
    · rw [if_pos hl]
      show compKB vs vs1 t test t1 fi1 test1 elt (xs.map e) st = _
      unfold compKB
      rw [if_pos hp, hw, h]
      simp only [List.length_map, hl, if_true, hbk]
    · rw [if_neg hl]; trivial
  | exn c fs => trivial
  | stuck => trivial
end
/-! ### stores of a changing expression -/
def store2K (i : Nat) (e1 e2 : Den D) (v : D) : DS := bindD (dO2 i) fun _ => bindD e1 fun k1 => bindD (dO2 i) fun dss => bindD (liftO (rowAt dss k1)) fun r => bindD (hideD i) fun _ => bindD (noX e2) fun k2 =>
  bindD (liftO (rowAt r.2 k2)) fun q => bindD (backO i (dss.set r.1 (r.2.set q.1 v))) fun _ => retD .nx
section
variable {α : Type} {e : α → D} {st : DSt} {i : Nat}
theorem x_set2K {xss : List (List α)} {e1 e2 : Den D} {k l : Int} {v : α} (h : st[i]? = some (.o2 (xss.map (List.map e)))) (h1 : RV e1 st (eI k) st) (h2 : RV e2 (st.set i .no) (eI l) (st.set i .no)) :
    RX (store2K i e1 e2 (e v)) st (pSet2 xss k l v) (fun ys => st.set i (.o2 (ys.map (List.map e)))) := by
  have := x_set2 (f := dC (e v)) (v := v) h rfl h1 h2
  cases hp : pSet2 xss k l v with
  | ok c => rw [hp] at this; exact this
  | exn c fs => rw [hp] at this; exact this
  | stuck => trivial
end
/-! peeks at objects -/
section
variable {α β γ δ : Type} {a : α → D} {b : β → D} {c : γ → D} {d : δ → D}
theorem nol_C2 {n n1 n2 : Str} (h : ∀ x, nol (a x) = true) (h2 : ∀ x, nol (b x) = true) (x : α × β) : nol (eC2 n n1 n2 a b x) = true := by simp [eC2, nol, nols, h, h2]
theorem nol_C3 {n n1 n2 n3 : Str} (h : ∀ x, nol (a x) = true) (h2 : ∀ x, nol (b x) = true) (h3 : ∀ x, nol (c x) = true) (x : α × β × γ) : nol (eC3 n n1 n2 n3 a b c x) = true := by simp [eC3, nol, nols, h, h2, h3]
theorem nol_P3 (h : ∀ x, nol (a x) = true) (h2 : ∀ x, nol (b x) = true) (h3 : ∀ x, nol (c x) = true) (x : α × β × γ) : nol (eP3 a b c x) = true := by simp [eP3, nol, nols, h, h2, h3]
end
end DL

namespace DL
open PySem L2
/-! ### a new list as a value, a value as a test -/
section
variable {α τ : Type} {st st1 : DSt} {e : α → D}
theorem o2_eL {xss : List (List α)} : D.lst ((xss.map (List.map e)).map D.lst) = eL (eL e) xss := by simp [eL, List.map_map, Function.comp_def]
theorem rv_frzN {a : Den (List D)} {ds : List D} {d : D} (h : RV a st ds st1) (hd : .lst ds = d) : RV (dFrz a) st d st1 := by subst hd; exact rv_bind h rv_ret
theorem re_frzN {a : Den (List D)} {o : M (List α)} (h : RE a st o (List.map e) st1) : RE (dFrz a) st o (eL e) st1 := re_tail h fun _ => rv_ret
theorem rt_frzN {a : Den (List D)} {o : M (List α × τ)} {S : τ → DSt} (h : RT a st o (List.map e) S) : RT (dFrz a) st o (eL e) S := rt_tail h fun _ => rv_ret
theorem rv_tst {a : Den D} {x : Bool} (h : RV a st (eB x) st1) : RV (dTst a) st x st1 := rv_bind h (rv_lift rfl)
theorem re_tst {a : Den D} {o : M Bool} (h : RE a st o eB st1) : RE (dTst a) st o (fun b : Bool => b) st1 := re_tail h fun _ => rv_lift rfl
theorem rt_tst {a : Den D} {o : M (Bool × τ)} {S : τ → DSt} (h : RT a st o eB S) : RT (dTst a) st o (fun b : Bool => b) S := rt_tail h fun _ => rv_lift rfl
end
/-! ### comparisons of any data, chains -/
def pCmp (p : Int → Int → Bool) : D → D → M Bool
  | .int i, .int j => .ok (p i j)
  | _, _ => .stuck
def pLtD : D → D → M Bool := pCmp fun i j => decide (i < j)
def pLeD : D → D → M Bool := pCmp fun i j => decide (i ≤ j)
def pGtD : D → D → M Bool := pCmp fun i j => decide (j < i)
def pGeD : D → D → M Bool := pCmp fun i j => decide (j ≤ i)
theorem op_cmpD {p : Int → Int → Bool} {x y : D} : OP (cmpI p x y) (pCmp p x y) eB := by
  cases x <;> try trivial
  cases y <;> trivial
theorem op_ltD {x y : D} : OP (opLt x y) (pLtD x y) eB := op_cmpD
theorem op_leD {x y : D} : OP (opLe x y) (pLeD x y) eB := op_cmpD
theorem op_gtD {x y : D} : OP (opGt x y) (pGtD x y) eB := op_cmpD
theorem op_geD {x y : D} : OP (opGe x y) (pGeD x y) eB := op_cmpD
section
variable {α γ δ : Type} {X : Bool} {st st1 st2 : DSt} {K : γ → Fl → DSt → Prop} {b b' : DS} {mt : List (Str × Str × Bool)} {hs : List HdD}
theorem re_chainG {op' : D → D → Option D} {o1 o2 : M Bool} {o : Option D} {c : Den D} {y w : D} (h1 : OP o o1 eB) (hc : RV c st w st) (h2 : OP (op' y w) o2 eB) :
    RE (bindD (liftO o) fun z => bindD (liftO (asB z)) fun k => if k = true then bindD c fun w => liftO (op' y w) else retD (.bl false)) st (o1.bind fun p => if p = true then o2 else .ok false) eB st := by
  cases o1 with
  | ok p =>
    have h1 : o = some (eB p) := h1
    subst h1
    cases p with
    | false => exact (rfl : _ = _)
    | true =>
      show RE (bindD c fun w => liftO (op' y w)) st o2 eB st
      exact re_bindP hc (re_lift h2)
  | exn c fs => exact h1.elim
  | stuck => trivial
/-! ### a body under try, piece by piece -/
theorem rs_tIte {t : Den Bool} {x : Bool} {A B : DS} {o1 o2 : M γ} (ht : RV t st x st1) (h1 : x = true → RS X (sSeq (sTry mt (sSeq A b') hs) b) st1 o1 K) (h2 : x = false → RS X (sSeq (sTry mt (sSeq B b') hs) b) st1 o2 K) :
    RS X (sSeq (sTry mt (sSeq (sIf t A B) b') hs) b) st (if x = true then o1 else o2) K := by
  have ht : t st = .ok x st1 := ht
  cases x with
  | true => exact rs_of_eq (st1 := st1) (g := sSeq (sTry mt (sSeq A b') hs) b) (by unfold sSeq sTry sIf; simp only [bindD, ht, if_true]) (h1 rfl)
  | false => exact rs_of_eq (st1 := st1) (g := sSeq (sTry mt (sSeq B b') hs) b) (by unfold sSeq sTry sIf; simp only [bindD, ht]; rfl) (h2 rfl)
theorem rs_tCall {df : List D → M D} {fa : Den (List D)} {ds : List D} {o : M α} {w : α → D} {k : α → M γ} {h : Str → List (Str × D) → M γ} (ha : RV fa st ds st1) (hd : DM (df ds) o w) (h1 : ∀ c, RS X (sSeq (sTry mt b' hs) b) st1 (k c) K) (h2 : ∀ c fs, RS X (sSeq (runH mt c fs hs) b) st1 (h c fs) K) :
    RS X (sSeq (sTry mt (sSeq (sExpr (dCall df fa)) b') hs) b) st (tryM o k h) K := by
  have ha : fa st = .ok ds st1 := ha
  cases o with
  | ok c =>
    have e : sExpr (dCall df fa) st = .ok .nx st1 := by unfold sExpr dCall; simp only [bindD, ha, liftM']; rw [show df ds = _ from hd]; rfl
    exact rs_of_eq (st1 := st1) (g := sSeq (sTry mt b' hs) b) (by unfold sTry sSeq; simp only [e]) (h1 c)
  | exn c fs =>
    have e : sExpr (dCall df fa) st = .exn c fs st1 := by unfold sExpr dCall; simp only [bindD, ha, liftM']; rw [show df ds = _ from hd]
    exact rs_of_eq (st1 := st1) (g := sSeq (runH mt c fs hs) b) (by unfold sTry sSeq; simp only [e]) (h2 c fs)
  | stuck => trivial
theorem rs_tRet {df : List D → M D} {fa : Den (List D)} {ds : List D} {o : M α} {w : α → D} {g : α → γ} {h : Str → List (Str × D) → M γ} (ha : RV fa st ds st1) (hd : DM (df ds) o w) (h1 : ∀ c, K (g c) (.ret (w c)) st1) (h2 : ∀ c fs, RS X (sSeq (runH mt c fs hs) b) st1 (h c fs) K) :
    RS X (sSeq (sTry mt (sSeq (sRet (dCall df fa)) b') hs) b) st (tryM o (fun c => .ok (g c)) h) K := by
  have ha : fa st = .ok ds st1 := ha
  cases o with
  | ok c =>
    have e : sRet (dCall df fa) st = .ok (.ret (w c)) st1 := by unfold sRet dCall; simp only [bindD, ha, liftM']; rw [show df ds = _ from hd]; rfl
    exact ⟨.ret (w c), st1, by unfold sTry sSeq; simp only [e], h1 c⟩
  | exn c fs =>
    have e : sRet (dCall df fa) st = .exn c fs st1 := by unfold sRet dCall; simp only [bindD, ha, liftM']; rw [show df ds = _ from hd]
    exact rs_of_eq (st1 := st1) (g := sSeq (runH mt c fs hs) b) (by unfold sTry sSeq; simp only [e]) (h2 c fs)
  | stuck => trivial
theorem rs_tRetP {f : Den D} {d : D} {c : γ} (hf : RV f st d st1) (h1 : K c (.ret d) st1) : RS X (sSeq (sTry mt (sSeq (sRet f) b') hs) b) st (.ok c) K :=
  ⟨.ret d, st1, by have hf : f st = .ok d st1 := hf; unfold sTry sSeq sRet; simp only [bindD, hf, retD], h1⟩
theorem rs_tSet {df : List D → M D} {fa : Den (List D)} {ds : List D} {o : M α} {w : α → D} {k : α → M γ} {h : Str → List (Str × D) → M γ} {i : Nat} (S : α → DSt) (ha : RV fa st ds st1) (hd : DM (df ds) o w) (hs1 : ∀ c, slotSet i (.sh (w c)) st1 = some (S c)) (h1 : ∀ c, RS X (sSeq (sTry mt b' hs) b) (S c) (k c) K) (h2 : ∀ c fs, RS X (sSeq (runH mt c fs hs) b) st1 (h c fs) K) :
    RS X (sSeq (sTry mt (sSeq (sSet i (dCall df fa)) b') hs) b) st (tryM o k h) K := by
  have ha : fa st = .ok ds st1 := ha
  cases o with
  | ok c =>
    have e : sSet i (dCall df fa) st = .ok .nx (S c) := by unfold sSet dCall putD; simp only [bindD, ha, liftM']; rw [show df ds = _ from hd]; simp only [hs1]
    exact rs_of_eq (st1 := S c) (g := sSeq (sTry mt b' hs) b) (by unfold sTry sSeq; simp only [e]) (h1 c)
  | exn c fs =>
    have e : sSet i (dCall df fa) st = .exn c fs st1 := by unfold sSet dCall; simp only [bindD, ha, liftM']; rw [show df ds = _ from hd]
    exact rs_of_eq (st1 := st1) (g := sSeq (runH mt c fs hs) b) (by unfold sTry sSeq; simp only [e]) (h2 c fs)
  | stuck => trivial
theorem rs_tPass {o : M γ} (h : RS X (sSeq (sTry mt b' hs) b) st o K) : RS X (sSeq (sTry mt (sSeq sPass b') hs) b) st o K := h
theorem rs_tAssoc {f g : DS} {o : M γ} (h : RS X (sSeq (sTry mt (sSeq f (sSeq g b')) hs) b) st o K) : RS X (sSeq (sTry mt (sSeq (sSeq f g) b') hs) b) st o K := by
  refine rs_of_eq (st1 := st) ?_ h
  have : sSeq (sSeq f g) b' st = sSeq f (sSeq g b') st := by
    unfold sSeq
    cases f st with
    | ok fl s => cases fl <;> rfl
    | exn c fs s => rfl
    | stuck => rfl
  show (match sTry mt (sSeq (sSeq f g) b') hs st with | .ok .nx st' => b st' | r => r) = (match sTry mt (sSeq f (sSeq g b')) hs st with | .ok .nx st' => b st' | r => r)
  unfold sTry
  rw [this]
theorem seq_pass (f : DS) : sSeq f sPass = f := by
  funext st
  unfold sSeq
  cases f st with
  | ok fl st' => cases fl <;> rfl
  | exn c fs s => rfl
  | stuck => rfl
theorem rs_tLast {f : DS} {o : M γ} (h : RS X (sSeq (sTry mt (sSeq f sPass) hs) b) st o K) : RS X (sSeq (sTry mt f hs) b) st o K := by rw [seq_pass] at h; exact h
theorem rs_tEnd {o : M γ} (h : RS X b st o K) : RS X (sSeq (sTry mt sPass hs) b) st o K := h
end
/-! ### draws in odd places -/
section
variable {α β γ τ : Type} {e : α → D} {st : DSt}
/-- y = xs.pop(f), f changes another list -/
theorem rs_popAt {K : γ → Fl → DSt → Prop} {i j : Nat} {xs : List α} {f : Den D} {o : M (Int × τ)} {o2 : Int × τ → α × List α → M γ} {b : DS} (S : τ → DSt) (T : Int × τ → α × List α → DSt) (hj : st[j]? = some (.ow (xs.map e))) (hf : RT f st o eI S) (h2 : ∀ r, (S r)[j]? = some (.ow (xs.map e)))
    (hT : ∀ p q, slotSet i (.sh (e q.1)) ((S p.2).set j (.ow (q.2.map e))) = some (T p q)) (hk : ∀ p q, RS false b (T p q) (o2 p q) K) : RS false (sSeq (sSet i (dPopAt j f)) b) st (o.bind fun p => (pPopAt xs p.1).bind fun q => o2 p q) K := by
  cases o with
  | ok p =>
    have hf : f st = .ok (eI p.1) (S p.2) := hf
    simp only [bind_ok]
    unfold pPopAt
    cases hs : seqIndex? p.1 xs.length with
    | none => trivial
    | some q =>
      simp only []
      cases hq : xs[q]? with
      | none => trivial
      | some y =>
        simp only []
        by_cases hb : p.1.natAbs ≤ big
        · rw [if_pos hb]
          simp only [bind_ok]
          have ee : (xs.map e).eraseIdx q = (xs.eraseIdx q).map e := erase_map e xs q
          have hT := hT p (y, xs.eraseIdx q)
          have e1 : sSet i (dPopAt j f) st = .ok .nx (T p (y, xs.eraseIdx q)) := by
            simp only [sSet, dPopAt, bindD, dOw, hj, hf, eI, mutD, h2, liftO, popAt, List.length_map, hs, List.getElem?_map, hq, Option.map_some, hb, if_true, setOw, retD, ee, putD]
            simp only [hT]
          exact rs_exec e1 (hk p (y, xs.eraseIdx q))
        · rw [if_neg hb]; trivial
  | exn c fs => intro z; cases z
  | stuck => trivial
/-- xss[f1][f2] = f, all of them change another list -/
theorem rs_set2S {K : γ → Fl → DSt → Prop} {i : Nat} {xss : List (List α)} {e1 e2 f : Den D} {ov : M (α × τ)} {o1 o2 : τ → M (Int × τ)} {k : List (List α) → τ → M γ} {b : DS} (S : τ → DSt) (hf : RT f st ov e S) (h : ∀ r, (S r)[i]? = some (.o2 (xss.map (List.map e)))) (h1 : ∀ r, RT e1 (S r) (o1 r) eI S) (h2 : ∀ r, RT e2 ((S r).set i .no) (o2 r) eI (fun r => (S r).set i .no))
    (hk : ∀ ys r, RS false b ((S r).set i (.o2 (ys.map (List.map e)))) (k ys r) K) : RS false (sSeq (sStore2 i e1 e2 f) b) st (ov.bind fun p => (o1 p.2).bind fun q => (o2 q.2).bind fun u => (pSet2 xss q.1 u.1 p.1).bind fun ys => k ys u.2) K := by
  cases ov with
  | exn c fs => intro z; cases z
  | stuck => trivial
  | ok p =>
    have hf : f st = .ok (e p.1) (S p.2) := hf
    have g1 := h1 p.2
    simp only [bind_ok]
    cases hq : o1 p.2 with
    | exn c fs => intro z; cases z
    | stuck => trivial
    | ok q =>
      rw [hq] at g1
      have g1 : e1 (S p.2) = .ok (eI q.1) (S q.2) := g1
      have g2 := h2 q.2
      simp only [bind_ok]
      cases hu : o2 q.2 with
      | exn c fs => intro z; cases z
      | stuck => trivial
      | ok u =>
        rw [hu] at g2
        have g2 : e2 ((S q.2).set i .no) = .ok (eI u.1) ((S u.2).set i .no) := g2
        simp only [bind_ok]
        unfold pSet2
        cases hr : pAt xss q.1 with
        | exn c fs => intro z; cases z
        | stuck => trivial
        | ok r =>
          obtain ⟨j, hj, hr⟩ := pAt_j hr
          simp only [bind_ok]
          unfold pSet
          cases hl : ixN r.length u.1 with
          | none => trivial
          | some m =>
            have hm := ixN_lt hl
            have hil : i < (S u.2).length := by
              have := h u.2
              rcases Nat.lt_or_ge i (S u.2).length with z | z
              · exact z
              · rw [List.getElem?_eq_none z] at this; cases this
            have a1 : rowAt (xss.map (List.map e)) (eI q.1) = some (j, r.map e) := by simp [rowAt, hj, hr]
            have a2 : rowAt (r.map e) (eI u.1) = some (m, e (r[m]'hm)) := by simp [rowAt, hl, hm]
            have a3 : ((S u.2).set i .no)[i]? = some .no := by rw [List.getElem?_set_self hil]
            simp only [bind_ok, hj]
            refine rs_exec (st1 := (S u.2).set i (.o2 ((xss.set j (r.set m p.1)).map (List.map e)))) ?_ (hk _ _)
            simp only [sStore2, bindD, hf, dO2, h, g1, liftO, a1, hideD, noX, g2, a2, backO, a3, retD, List.set_set]
            congr 1
            simp [List.map_set]
end
end DL

namespace DL
open PySem L2
/-! ### each piece by its head -/
section
variable {α β γ τ : Type} {st st' : DSt} {S : τ → DSt} {X : Bool} {K : γ → Fl → DSt → Prop} {c : DS} {o : M γ}
theorem rv_dOp1 {op : D → Option D} {a : Den D} {y : D} (hh : RV (bindD a fun x => liftO (op x)) st y st') : RV (dOp1 op a) st y st' := hh
theorem re_dOp1 {op : D → Option D} {a : Den D} {o : M α} {v : α → D} (hh : RE (bindD a fun x => liftO (op x)) st o v st') : RE (dOp1 op a) st o v st' := hh
theorem rt_dOp1 {op : D → Option D} {a : Den D} {o : M (α × τ)} {v : α → D} (hh : RT (bindD a fun x => liftO (op x)) st o v S) : RT (dOp1 op a) st o v S := hh
theorem rv_dOp2 {op : D → D → Option D} {a b : Den D} {y : D} (hh : RV (bindD a fun x => bindD b fun y => liftO (op x y)) st y st') : RV (dOp2 op a b) st y st' := hh
theorem re_dOp2 {op : D → D → Option D} {a b : Den D} {o : M α} {v : α → D} (hh : RE (bindD a fun x => bindD b fun y => liftO (op x y)) st o v st') : RE (dOp2 op a b) st o v st' := hh
theorem rt_dOp2 {op : D → D → Option D} {a b : Den D} {o : M (α × τ)} {v : α → D} (hh : RT (bindD a fun x => bindD b fun y => liftO (op x y)) st o v S) : RT (dOp2 op a b) st o v S := hh
theorem rv_dOp2n {op : D → D → Option D} {i : Nat} {b : Den D} {y : D} (hh : RV (bindD (dRd i) fun _ => bindD b fun y => bindD (dRd i) fun x => liftO (op x y)) st y st') : RV (dOp2n op i b) st y st' := hh
theorem re_dOp2n {op : D → D → Option D} {i : Nat} {b : Den D} {o : M α} {v : α → D} (hh : RE (bindD (dRd i) fun _ => bindD b fun y => bindD (dRd i) fun x => liftO (op x y)) st o v st') : RE (dOp2n op i b) st o v st' := hh
theorem rt_dOp2n {op : D → D → Option D} {i : Nat} {b : Den D} {o : M (α × τ)} {v : α → D} (hh : RT (bindD (dRd i) fun _ => bindD b fun y => bindD (dRd i) fun x => liftO (op x y)) st o v S) : RT (dOp2n op i b) st o v S := hh
theorem rv_dOp2m {op : D → D → Option D} {a : Den D} {j : Nat} {y : D} (hh : RV (bindD a fun x => bindD (dRd j) fun y => liftO (op x y)) st y st') : RV (dOp2m op a j) st y st' := hh
theorem re_dOp2m {op : D → D → Option D} {a : Den D} {j : Nat} {o : M α} {v : α → D} (hh : RE (bindD a fun x => bindD (dRd j) fun y => liftO (op x y)) st o v st') : RE (dOp2m op a j) st o v st' := hh
theorem rt_dOp2m {op : D → D → Option D} {a : Den D} {j : Nat} {o : M (α × τ)} {v : α → D} (hh : RT (bindD a fun x => bindD (dRd j) fun y => liftO (op x y)) st o v S) : RT (dOp2m op a j) st o v S := hh
theorem rv_dOp1n {op : D → Option D} {i : Nat} {y : D} (hh : RV (bindD (dRd i) fun x => liftO (op x)) st y st') : RV (dOp1n op i) st y st' := hh
theorem re_dOp1n {op : D → Option D} {i : Nat} {o : M α} {v : α → D} (hh : RE (bindD (dRd i) fun x => liftO (op x)) st o v st') : RE (dOp1n op i) st o v st' := hh
theorem rt_dOp1n {op : D → Option D} {i : Nat} {o : M (α × τ)} {v : α → D} (hh : RT (bindD (dRd i) fun x => liftO (op x)) st o v S) : RT (dOp1n op i) st o v S := hh
theorem rv_dN1n {op : D → Option (List D)} {i : Nat} {y : (List D)} (hh : RV (bindD (dRd i) fun x => liftO (op x)) st y st') : RV (dN1n op i) st y st' := hh
theorem re_dN1n {op : D → Option (List D)} {i : Nat} {o : M α} {v : α → (List D)} (hh : RE (bindD (dRd i) fun x => liftO (op x)) st o v st') : RE (dN1n op i) st o v st' := hh
theorem rt_dN1n {op : D → Option (List D)} {i : Nat} {o : M (α × τ)} {v : α → (List D)} (hh : RT (bindD (dRd i) fun x => liftO (op x)) st o v S) : RT (dN1n op i) st o v S := hh
theorem rv_dN1 {op : D → Option (List D)} {a : Den D} {y : (List D)} (hh : RV (bindD a fun x => liftO (op x)) st y st') : RV (dN1 op a) st y st' := hh
theorem re_dN1 {op : D → Option (List D)} {a : Den D} {o : M α} {v : α → (List D)} (hh : RE (bindD a fun x => liftO (op x)) st o v st') : RE (dN1 op a) st o v st' := hh
theorem rt_dN1 {op : D → Option (List D)} {a : Den D} {o : M (α × τ)} {v : α → (List D)} (hh : RT (bindD a fun x => liftO (op x)) st o v S) : RT (dN1 op a) st o v S := hh
theorem rv_dN2 {op : D → D → Option (List D)} {a b : Den D} {y : (List D)} (hh : RV (bindD a fun x => bindD b fun y => liftO (op x y)) st y st') : RV (dN2 op a b) st y st' := hh
theorem re_dN2 {op : D → D → Option (List D)} {a b : Den D} {o : M α} {v : α → (List D)} (hh : RE (bindD a fun x => bindD b fun y => liftO (op x y)) st o v st') : RE (dN2 op a b) st o v st' := hh
theorem rt_dN2 {op : D → D → Option (List D)} {a b : Den D} {o : M (α × τ)} {v : α → (List D)} (hh : RT (bindD a fun x => bindD b fun y => liftO (op x y)) st o v S) : RT (dN2 op a b) st o v S := hh
theorem rv_dTup {a : Den (List D)} {y : D} (hh : RV (bindD a fun ds => liftO (if ds.length ≤ big then some (.tup ds) else none)) st y st') : RV (dTup a) st y st' := hh
theorem re_dTup {a : Den (List D)} {o : M α} {v : α → D} (hh : RE (bindD a fun ds => liftO (if ds.length ≤ big then some (.tup ds) else none)) st o v st') : RE (dTup a) st o v st' := hh
theorem rt_dTup {a : Den (List D)} {o : M (α × τ)} {v : α → D} (hh : RT (bindD a fun ds => liftO (if ds.length ≤ big then some (.tup ds) else none)) st o v S) : RT (dTup a) st o v S := hh
theorem rv_dLst {a : Den (List D)} {y : (List D)} (hh : RV (bindD a fun ds => liftO (if ds.length ≤ big then some ds else none)) st y st') : RV (dLst a) st y st' := hh
theorem re_dLst {a : Den (List D)} {o : M α} {v : α → (List D)} (hh : RE (bindD a fun ds => liftO (if ds.length ≤ big then some ds else none)) st o v st') : RE (dLst a) st o v st' := hh
theorem rt_dLst {a : Den (List D)} {o : M (α × τ)} {v : α → (List D)} (hh : RT (bindD a fun ds => liftO (if ds.length ≤ big then some ds else none)) st o v S) : RT (dLst a) st o v S := hh
theorem rv_dTst {a : Den D} {y : Bool} (hh : RV (bindD a fun x => liftO (asB x)) st y st') : RV (dTst a) st y st' := hh
theorem re_dTst {a : Den D} {o : M α} {v : α → Bool} (hh : RE (bindD a fun x => liftO (asB x)) st o v st') : RE (dTst a) st o v st' := hh
theorem rt_dTst {a : Den D} {o : M (α × τ)} {v : α → Bool} (hh : RT (bindD a fun x => liftO (asB x)) st o v S) : RT (dTst a) st o v S := hh
theorem rv_dVal {a : Den Bool} {y : D} (hh : RV (bindD a fun b => retD (.bl b)) st y st') : RV (dVal a) st y st' := hh
theorem re_dVal {a : Den Bool} {o : M α} {v : α → D} (hh : RE (bindD a fun b => retD (.bl b)) st o v st') : RE (dVal a) st o v st' := hh
theorem rt_dVal {a : Den Bool} {o : M (α × τ)} {v : α → D} (hh : RT (bindD a fun b => retD (.bl b)) st o v S) : RT (dVal a) st o v S := hh
theorem rv_dAnd {a b : Den Bool} {y : Bool} (hh : RV (bindD a fun x => if x = true then b else retD false) st y st') : RV (dAnd a b) st y st' := hh
theorem re_dAnd {a b : Den Bool} {o : M α} {v : α → Bool} (hh : RE (bindD a fun x => if x = true then b else retD false) st o v st') : RE (dAnd a b) st o v st' := hh
theorem rt_dAnd {a b : Den Bool} {o : M (α × τ)} {v : α → Bool} (hh : RT (bindD a fun x => if x = true then b else retD false) st o v S) : RT (dAnd a b) st o v S := hh
theorem rv_dOr {a b : Den Bool} {y : Bool} (hh : RV (bindD a fun x => if x = true then retD true else b) st y st') : RV (dOr a b) st y st' := hh
theorem re_dOr {a b : Den Bool} {o : M α} {v : α → Bool} (hh : RE (bindD a fun x => if x = true then retD true else b) st o v st') : RE (dOr a b) st o v st' := hh
theorem rt_dOr {a b : Den Bool} {o : M (α × τ)} {v : α → Bool} (hh : RT (bindD a fun x => if x = true then retD true else b) st o v S) : RT (dOr a b) st o v S := hh
theorem rv_dNot {a : Den Bool} {y : Bool} (hh : RV (bindD a fun x => retD (!x)) st y st') : RV (dNot a) st y st' := hh
theorem re_dNot {a : Den Bool} {o : M α} {v : α → Bool} (hh : RE (bindD a fun x => retD (!x)) st o v st') : RE (dNot a) st o v st' := hh
theorem rt_dNot {a : Den Bool} {o : M (α × τ)} {v : α → Bool} (hh : RT (bindD a fun x => retD (!x)) st o v S) : RT (dNot a) st o v S := hh
theorem rv_dChain {op op' : D → D → Option D} {a b c : Den D} {y : D} (hh : RV (bindD a fun x => bindD b fun y => bindD (liftO (op x y)) fun z => bindD (liftO (asB z)) fun k => if k = true then bindD c fun w => liftO (op' y w) else retD (.bl false)) st y st') : RV (dChain op op' a b c) st y st' := hh
theorem re_dChain {op op' : D → D → Option D} {a b c : Den D} {o : M α} {v : α → D} (hh : RE (bindD a fun x => bindD b fun y => bindD (liftO (op x y)) fun z => bindD (liftO (asB z)) fun k => if k = true then bindD c fun w => liftO (op' y w) else retD (.bl false)) st o v st') : RE (dChain op op' a b c) st o v st' := hh
theorem rt_dChain {op op' : D → D → Option D} {a b c : Den D} {o : M (α × τ)} {v : α → D} (hh : RT (bindD a fun x => bindD b fun y => bindD (liftO (op x y)) fun z => bindD (liftO (asB z)) fun k => if k = true then bindD c fun w => liftO (op' y w) else retD (.bl false)) st o v S) : RT (dChain op op' a b c) st o v S := hh
theorem rv_dItems {f : Den D} {y : (List D)} (hh : RV (bindD f fun d => liftO (itemsOf d)) st y st') : RV (dItems f) st y st' := hh
theorem re_dItems {f : Den D} {o : M α} {v : α → (List D)} (hh : RE (bindD f fun d => liftO (itemsOf d)) st o v st') : RE (dItems f) st o v st' := hh
theorem rt_dItems {f : Den D} {o : M (α × τ)} {v : α → (List D)} (hh : RT (bindD f fun d => liftO (itemsOf d)) st o v S) : RT (dItems f) st o v S := hh
theorem rv_dRng {f : Den D} {y : (List D)} (hh : RV (bindD f fun d => liftO (rngD d)) st y st') : RV (dRng f) st y st' := hh
theorem re_dRng {f : Den D} {o : M α} {v : α → (List D)} (hh : RE (bindD f fun d => liftO (rngD d)) st o v st') : RE (dRng f) st o v st' := hh
theorem rt_dRng {f : Den D} {o : M (α × τ)} {v : α → (List D)} (hh : RT (bindD f fun d => liftO (rngD d)) st o v S) : RT (dRng f) st o v S := hh
theorem rv_dRng2 {f h : Den D} {y : (List D)} (hh : RV (bindD f fun d => bindD h fun d2 => liftO (rngD2 d d2)) st y st') : RV (dRng2 f h) st y st' := hh
theorem re_dRng2 {f h : Den D} {o : M α} {v : α → (List D)} (hh : RE (bindD f fun d => bindD h fun d2 => liftO (rngD2 d d2)) st o v st') : RE (dRng2 f h) st o v st' := hh
theorem rt_dRng2 {f h : Den D} {o : M (α × τ)} {v : α → (List D)} (hh : RT (bindD f fun d => bindD h fun d2 => liftO (rngD2 d d2)) st o v S) : RT (dRng2 f h) st o v S := hh
theorem rv_dPart {f : Den D} {y : (Option Int)} (hh : RV (bindD f fun d => liftO (match asI d with | some i => some (some i) | none => none)) st y st') : RV (dPart f) st y st' := hh
theorem re_dPart {f : Den D} {o : M α} {v : α → (Option Int)} (hh : RE (bindD f fun d => liftO (match asI d with | some i => some (some i) | none => none)) st o v st') : RE (dPart f) st o v st' := hh
theorem rt_dPart {f : Den D} {o : M (α × τ)} {v : α → (Option Int)} (hh : RT (bindD f fun d => liftO (match asI d with | some i => some (some i) | none => none)) st o v S) : RT (dPart f) st o v S := hh
theorem rv_dSl {a : Den D} {lo hi : Den (Option Int)} {y : D} (hh : RV (bindD a fun x => bindD lo fun l => bindD hi fun u => liftO (opSl x l u)) st y st') : RV (dSl a lo hi) st y st' := hh
theorem re_dSl {a : Den D} {lo hi : Den (Option Int)} {o : M α} {v : α → D} (hh : RE (bindD a fun x => bindD lo fun l => bindD hi fun u => liftO (opSl x l u)) st o v st') : RE (dSl a lo hi) st o v st' := hh
theorem rt_dSl {a : Den D} {lo hi : Den (Option Int)} {o : M (α × τ)} {v : α → D} (hh : RT (bindD a fun x => bindD lo fun l => bindD hi fun u => liftO (opSl x l u)) st o v S) : RT (dSl a lo hi) st o v S := hh
theorem rv_dSln {i : Nat} {lo hi : Den (Option Int)} {y : D} (hh : RV (bindD (dRd i) fun _ => bindD lo fun l => bindD hi fun u => bindD (dRd i) fun x => liftO (opSl x l u)) st y st') : RV (dSln i lo hi) st y st' := hh
theorem re_dSln {i : Nat} {lo hi : Den (Option Int)} {o : M α} {v : α → D} (hh : RE (bindD (dRd i) fun _ => bindD lo fun l => bindD hi fun u => bindD (dRd i) fun x => liftO (opSl x l u)) st o v st') : RE (dSln i lo hi) st o v st' := hh
theorem rt_dSln {i : Nat} {lo hi : Den (Option Int)} {o : M (α × τ)} {v : α → D} (hh : RT (bindD (dRd i) fun _ => bindD lo fun l => bindD hi fun u => bindD (dRd i) fun x => liftO (opSl x l u)) st o v S) : RT (dSln i lo hi) st o v S := hh
theorem rv_dIndex {f h : Den D} {y : D} (hh : RV (bindD f fun x => bindD (liftO (isL x)) fun _ => bindD h fun y => liftO (opIndex x y)) st y st') : RV (dIndex f h) st y st' := hh
theorem re_dIndex {f h : Den D} {o : M α} {v : α → D} (hh : RE (bindD f fun x => bindD (liftO (isL x)) fun _ => bindD h fun y => liftO (opIndex x y)) st o v st') : RE (dIndex f h) st o v st' := hh
theorem rt_dIndex {f h : Den D} {o : M (α × τ)} {v : α → D} (hh : RT (bindD f fun x => bindD (liftO (isL x)) fun _ => bindD h fun y => liftO (opIndex x y)) st o v S) : RT (dIndex f h) st o v S := hh
theorem rv_dIndexN {i : Nat} {h : Den D} {y : D} (hh : RV (bindD (dRd i) fun x => bindD (liftO (isL x)) fun _ => bindD h fun y => bindD (dRd i) fun x => liftO (opIndex x y)) st y st') : RV (dIndexN i h) st y st' := hh
theorem re_dIndexN {i : Nat} {h : Den D} {o : M α} {v : α → D} (hh : RE (bindD (dRd i) fun x => bindD (liftO (isL x)) fun _ => bindD h fun y => bindD (dRd i) fun x => liftO (opIndex x y)) st o v st') : RE (dIndexN i h) st o v st' := hh
theorem rt_dIndexN {i : Nat} {h : Den D} {o : M (α × τ)} {v : α → D} (hh : RT (bindD (dRd i) fun x => bindD (liftO (isL x)) fun _ => bindD h fun y => bindD (dRd i) fun x => liftO (opIndex x y)) st o v S) : RT (dIndexN i h) st o v S := hh
theorem rv_dCall {df : List D → M D} {fa : Den (List D)} {y : D} (hh : RV (bindD fa fun ds => liftM' (df ds)) st y st') : RV (dCall df fa) st y st' := hh
theorem re_dCall {df : List D → M D} {fa : Den (List D)} {o : M α} {v : α → D} (hh : RE (bindD fa fun ds => liftM' (df ds)) st o v st') : RE (dCall df fa) st o v st' := hh
theorem rt_dCall {df : List D → M D} {fa : Den (List D)} {o : M (α × τ)} {v : α → D} (hh : RT (bindD fa fun ds => liftM' (df ds)) st o v S) : RT (dCall df fa) st o v S := hh
theorem rv_dCallO {df : List D → Option (List D)} {fa : Den (List D)} {y : (List D)} (hh : RV (bindD fa fun ds => liftO (df ds)) st y st') : RV (dCallO df fa) st y st' := hh
theorem re_dCallO {df : List D → Option (List D)} {fa : Den (List D)} {o : M α} {v : α → (List D)} (hh : RE (bindD fa fun ds => liftO (df ds)) st o v st') : RE (dCallO df fa) st o v st' := hh
theorem rt_dCallO {df : List D → Option (List D)} {fa : Den (List D)} {o : M (α × τ)} {v : α → (List D)} (hh : RT (bindD fa fun ds => liftO (df ds)) st o v S) : RT (dCallO df fa) st o v S := hh
theorem rv_dCallR {df : List D → List D → M (D × List D)} {i : Nat} {fa : Den (List D)} {y : D} (hh : RV (bindD (dOw i) fun _ => bindD fa fun ds => callK df i ds) st y st') : RV (dCallR df i fa) st y st' := hh
theorem re_dCallR {df : List D → List D → M (D × List D)} {i : Nat} {fa : Den (List D)} {o : M α} {v : α → D} (hh : RE (bindD (dOw i) fun _ => bindD fa fun ds => callK df i ds) st o v st') : RE (dCallR df i fa) st o v st' := hh
theorem rt_dCallR {df : List D → List D → M (D × List D)} {i : Nat} {fa : Den (List D)} {o : M (α × τ)} {v : α → D} (hh : RT (bindD (dOw i) fun _ => bindD fa fun ds => callK df i ds) st o v S) : RT (dCallR df i fa) st o v S := hh
theorem rv_dIf {δ : Type} {t : Den Bool} {a b : Den δ} {y : δ} (hh : RV (bindD t fun x => if x = true then a else b) st y st') : RV (dIf t a b) st y st' := hh
theorem re_dIf {δ : Type} {t : Den Bool} {a b : Den δ} {o : M α} {v : α → δ} (hh : RE (bindD t fun x => if x = true then a else b) st o v st') : RE (dIf t a b) st o v st' := hh
theorem rt_dIf {δ : Type} {t : Den Bool} {a b : Den δ} {o : M (α × τ)} {v : α → δ} (hh : RT (bindD t fun x => if x = true then a else b) st o v S) : RT (dIf t a b) st o v S := hh
theorem rs_sExpr {f : Den D} (hh : RS X (sSeq (bindD f fun _ => retD .nx) c) st o K) : RS X (sSeq (sExpr f) c) st o K := hh
theorem rs_sRet {f : Den D} (hh : RS X (sSeq (bindD f fun d => retD (.ret d)) c) st o K) : RS X (sSeq (sRet f) c) st o K := hh
theorem rs_sSet {i : Nat} {f : Den D} (hh : RS X (sSeq (bindD f fun d => putD i (.sh d)) c) st o K) : RS X (sSeq (sSet i f) c) st o K := hh
theorem rs_sOwn {i : Nat} {f : Den (List D)} (hh : RS X (sSeq (bindD f fun ds => putD i (.ow ds)) c) st o K) : RS X (sSeq (sOwn i f) c) st o K := hh
theorem rs_sOwn2 {i : Nat} {f : Den (List (List D))} (hh : RS X (sSeq (bindD f fun dss => putD2 i dss) c) st o K) : RS X (sSeq (sOwn2 i f) c) st o K := hh
theorem rs_sIf {t : Den Bool} {a c : DS} (hh : RS X (sSeq (bindD t fun x => if x = true then a else c) c) st o K) : RS X (sSeq (sIf t a c) c) st o K := hh
theorem rs_sFor {t : Tg} {fi : Den (List D)} {body : DS} (hh : RS X (sSeq (bindD fi fun ds => loop t body ds) c) st o K) : RS X (sSeq (sFor t fi body) c) st o K := hh
theorem rs_sAsg {t : Tg} {f : Den D} (hh : RS X (sSeq (bindD f fun d => fun st => match setT t d st with | some st' => .ok .nx st' | none => .stuck) c) st o K) : RS X (sSeq (sAsg t f) c) st o K := hh
theorem rs_sRaise1 {cl f : Str} {h : Den D} (hh : RS X (sSeq (bindD h fun d => fun st => .exn cl [(f, d)] st) c) st o K) : RS X (sSeq (sRaise1 cl f h) c) st o K := hh
theorem rs_sStore {i : Nat} {ix f : Den D} (hh : RS X (sSeq (bindD f fun v => bindD (dRd i) fun _ => bindD ix fun k => storeK i v k) c) st o K) : RS X (sSeq (sStore i ix f) c) st o K := hh
end
end DL

namespace DL
open PySem L2
/-! ### any data where a kind is wanted -/
def pI : D → M Int
  | .int i => .ok i
  | _ => .stuck
def pTup2 : D → M (D × D)
  | .tup [a, b] => .ok (a, b)
  | _ => .stuck
def pPairs : List D → M (List (D × D))
  | [] => .ok []
  | .tup [a, b] :: r => match pPairs r with
    | .ok q => .ok ((a, b) :: q)
    | _ => .stuck
  | _ :: _ => .stuck
section
variable {α τ : Type} {st st1 st2 st' : DSt} {e : α → D}
theorem re_int {f : Den D} {d : D} (h : RV f st d st1) : RE f st (pI d) eI st1 := by
  cases d <;> first | exact h | trivial
theorem re_intG {f : Den D} {o : M D} (h : RE f st o eD st1) : RE f st (o.bind pI) eI st1 := by
  cases o with
  | ok d => exact re_int h
  | exn c fs => exact h
  | stuck => trivial
theorem re_tup2 {f : Den D} {d : D} (h : RV f st d st1) : RE f st (pTup2 d) (eP2 eD eD) st1 := by
  unfold pTup2
  split
  · exact h
  · trivial
theorem re_tup2G {f : Den D} {o : M D} (h : RE f st o eD st1) : RE f st (o.bind pTup2) (eP2 eD eD) st1 := by
  cases o with
  | ok d => exact re_tup2 h
  | exn c fs => exact h
  | stuck => trivial
theorem pPairs_eq : ∀ {ds : List D} {q : List (D × D)}, pPairs ds = .ok q → ds = q.map (eP2 eD eD)
  | [], q, h => by cases h; rfl
  | d :: r, q, h => by
    unfold pPairs at h
    split at h
    · rename_i h0; cases h0
    · rename_i a b r' h0
      cases h0
      split at h
      · rename_i q' hq
        cases h
        rw [pPairs_eq hq]; rfl
      · cases h
    · cases h
theorem re_pairs {f : Den (List D)} {o : M (List D)} (h : RE f st o (List.map eD) st1) : RE f st (o.bind fun ds => pNX (pPairs ds)) (List.map (eP2 eD eD)) st1 := by
  cases o with
  | ok d =>
    cases hp : pPairs d with
    | ok q =>
      have h : f st = .ok (d.map eD) st1 := h
      rw [show d.map eD = d from List.map_id' d] at h
      simp only [bind_ok, hp, pNX_ok]
      show f st = .ok (q.map (eP2 eD eD)) st1
      rw [← pPairs_eq hp]
      exact h
    | exn c fs => simp only [bind_ok, hp]; trivial
    | stuck => simp only [bind_ok, hp]; trivial
  | exn c fs => exact h
  | stuck => trivial
/-- x, y = xs.pop() -/
theorem x_popD {i j k : Nat} {xs : List D} {S : (D × D) × List D → DSt} (h : st[k]? = some (.ow (xs.map eD))) (hS : ∀ p : (D × D) × List D, setT (.nms [i, j]) (eP2 eD eD p.1) (st.set k (.ow (p.2.map eD))) = some (S p)) : RX (sAsg (.nms [i, j]) (dPop k)) st ((pPop xs).bind fun p => (pTup2 p.1).bind fun q => .ok (q, p.2)) S := by
  unfold pPop
  cases hx : xs[xs.length - 1]? with
  | none => trivial
  | some y =>
    simp only [bind_ok]
    cases hp : pTup2 y with
    | stuck => trivial
    | exn c fs => unfold pTup2 at hp; split at hp <;> cases hp
    | ok q =>
      have hy : y = eP2 eD eD q := by
        unfold pTup2 at hp
        split at hp
        · cases hp; rfl
        · cases hp
      simp only [bind_ok]
      have h2 : (xs.map eD)[(xs.map eD).length - 1]? = some y := by rw [List.length_map, List.getElem?_map, hx]; rfl
      show sAsg (.nms [i, j]) (dPop k) st = _
      have := hS (q, xs.dropLast)
      simp only [sAsg, dPop, bindD, mutD, dOw, h, liftO, h2, setOw, retD, dropLast_map, hy]
      simp only [this]
/-- x[i][j] of a list of lists that is changed -/
theorem re_ixx2G {i : Nat} {e1 e2 : Den D} {xss : List (List α)} {o1 o2 : M Int} {st' : DSt} (h : st[i]? = some (.o2 (xss.map (List.map e)))) (h1 : RE e1 st o1 eI st) (h2 : RE e2 (st.map frzS) o2 eI st') : RE (dIxx i e1 e2) st (o1.bind fun k => (pAt xss k).bind fun r => (pNX o2).bind fun l => pAt r l) e st := by
  cases o1 with
  | ok k =>
    cases o2 with
    | ok l => exact re_ixx2 h h1 h2
    | exn c fs =>
      have : ((pAt xss k).bind fun r => ((pNX (.exn c fs : M Int))).bind fun l => pAt r l) = .stuck := by
        unfold pAt oM
        cases atI xss k <;> rfl
      simp only [bind_ok, this]; trivial
    | stuck =>
      have : ((pAt xss k).bind fun r => ((pNX (.stuck : M Int))).bind fun l => pAt r l) = .stuck := by
        unfold pAt oM
        cases atI xss k <;> rfl
      simp only [bind_ok, this]; trivial
  | exn c fs =>
    obtain ⟨s, h1⟩ := h1
    refine ⟨s, ?_⟩
    unfold dIxx
    rw [h]
    simp only [bindD, dO2, h]
    rw [h1]
  | stuck => trivial
end
end DL

namespace DL
open PySem PySem.Spec PyProof.Rows L2
/-! ### sorted lists of tuples of numbers, of any length -/
section
variable {prog : Program} {w : World} {A : Around} {E : Value → Shared → Prop} {s : Shared}
def ltTup (h : Heap) (B : Int) (u v : Value) : Bool := decide (TS.code B (TS.intsOf h u) < TS.code B (TS.intsOf h v))
theorem swo_tup (h : Heap) (B : Int) : SrtO.Swo (ltTup h B) := by
  refine ⟨fun x y q => ?_, fun x y z q r => ?_⟩
  · unfold ltTup at *
    simp only [decide_eq_true_eq, decide_eq_false_iff_not] at *
    omega
  · unfold ltTup at *
    simp only [decide_eq_false_iff_not] at *
    omega
theorem tups_sortable {a : Addr} {h₁ : Heap} {vs : List Value} {d : Nat} {B : Int} (hd : 1 ≤ d) (h2 : 2 ≤ vs.length) (x : TS.TupsOk s.heap d B vs) (keep : ∀ b o, s.heap.get? b = some o → b ≠ a ∧ h₁.get? b = some o) : SrtO.SortableO prog w A { s with heap := h₁ } a vs (ltTup s.heap B) := by
  intro h' hk
  have x' : TS.TupsOk h' d B vs := x.keeps fun b o e _ => hk b o (keep b o e).1 (keep b o e).2
  obtain ⟨fs, k, hl, hi⟩ := TS.firsts_of hd vs x'
  refine ⟨_, fun Q E hq => PySem.W.kat_kind (s := { s with heap := h' }) (T := Value.type "int") k (by omega) (fun f hf => ?_) rfl hq, ?_⟩
  · obtain ⟨n, t, rfl⟩ := hi f hf
    exact PySem.W.Looks.of_pure rfl
  · intro p q hp hq
    have hp : p.1 ∈ vs := hp
    have hq : q.1 ∈ vs := hq
    obtain ⟨ns, tp, lp, bp⟩ := x' _ hp
    obtain ⟨ms, tq, lq, bq⟩ := x' _ hq
    obtain ⟨ns0, tp0, _, _⟩ := x _ hp
    obtain ⟨ms0, tq0, _, _⟩ := x _ hq
    have e1 : TS.intsOf s.heap p.1 = ns := by rw [tp0.ints, ← (tp0.keeps (h' := h') fun b o e _ => hk b o (keep b o e).1 (keep b o e).2).ints, tp.ints]
    have e2 : TS.intsOf s.heap q.1 = ms := by rw [tq0.ints, ← (tq0.keeps (h' := h') fun b o e _ => hk b o (keep b o e).1 (keep b o e).2).ints, tq.ints]
    have eq : SrtO.lt2 (ltTup s.heap B) p q = decide (TS.code B ns < TS.code B ms) := by
      show ltTup s.heap B p.1 q.1 = _
      unfold ltTup; rw [e1, e2]
    obtain ⟨a', xs, f1, ⟨o, ho, hc, n, hdt⟩, i⟩ := tp
    obtain ⟨a'', ys, f2, ⟨o', ho', hc', n', hdt'⟩, i'⟩ := tq
    rw [f1, f2, eq]
    refine PySem.W.kat_lt ho hdt ho' hdt' ?_
    have sz : decide (xs.size < ys.size) = false := by
      have l1 := i.length
      have l2 := i'.length
      rw [Array.length_toList] at l1 l2
      exact decide_eq_false (by omega)
    rw [sz]
    exact TS.lex_ints 0 i i' (by omega) bp bq ⟨rfl, rfl⟩
end
/-- sorted(xs), xs a list of tuples of d ints in [0, B) -/
def rSortX (K : PySem.W.Frag) : List V → Hp → VK → Prop := fun vs H Q => ∃ (d : Nat) (B : Int) (a : Addr) (xs : List V), 1 ≤ d ∧ vs = [V.ref a] ∧ SqL K H a xs ∧ (∀ x ∈ xs, ∃ ns, L2.TupI K H x ns ∧ ns.length = d ∧ TS.Bd B ns) ∧
  ∀ (ys : List V) (p : Addr), ys.Perm xs → ys.Pairwise (fun x y => ∀ n m, L2.TupI K H x n → L2.TupI K H y m → TS.code B n ≤ TS.code B m) → H p = none → Q (.ref p) (upd H p (.lst ys))
section
variable {X : Cx}
theorem cr_sortX : CallR X (.builtin "sorted") (rSortX X.K) := by
  intro pins s σ H vs us Q I r h
  obtain ⟨d, B, a, xs, hd, rfl, hs, hx, q⟩ := h
  obtain ⟨its, rv, hl, hz⟩ := I.list hs
  rw [Vals.ref1 r]
  obtain ⟨e1, e2⟩ := L2.bkV_refs rv fun x m => by
    obtain ⟨ns, ⟨t, e, _⟩, _⟩ := hx x m
    exact ⟨t, e⟩
  have tok : TS.TupsOk s.heap d B its := fun v hv => by
    obtain ⟨t, rfl⟩ := e2 v hv
    have hm : V.ref t ∈ xs := by
      rw [e1]
      exact List.mem_map.mpr ⟨_, hv, rfl⟩
    obtain ⟨ns, ⟨t', e, ht⟩, hn, hb⟩ := hx _ hm
    cases e
    exact ⟨ns, L2.tupI_raw I ht, hn, hb⟩
  refine SrtO.sorted_ord (swo_tup s.heap B) hl.isList (by rw [← rv.length]; exact hz) (fun h2 h₁ a' _ keep => tups_sortable hd h2 tok keep) fun out h1 h2 => ?_
  obtain ⟨ep, he'⟩ := PyProof.Rows.sortedAll_at s.heap its out.toArray
  have h3 : ∀ u ∈ out, ∃ a, u = Value.ref a := fun u hu => e2 u (h2.perm.mem_iff.mp hu)
  have hp : (out.map L2.bkV).Perm xs := by
    rw [e1]
    exact h2.perm.map L2.bkV
  have hlen : (out.map L2.bkV).length ≤ sizeLine := by
    rw [hp.length_eq]
    exact hz
  refine ⟨.ref _, upd H (s.heap.objs.size + 1) (.lst (out.map L2.bkV)), I.laid (t' := s.toks) (fun _ _ => PyProof.Rows.sortedAll_old) (Nat.le_succ _) ⟨hlen, out, ep, L2.bkV_vals h3, he'⟩, rfl, q _ _ hp ?_ (I.hok.fresh (Nat.le_succ _))⟩
  rw [List.pairwise_map]
  refine List.Pairwise.imp (fun {u v} huv n m hn hm => ?_) h1
  obtain ⟨t, et, ht⟩ := hn
  obtain ⟨t', et', ht'⟩ := hm
  have eu := L2.bkV_ref et
  have ev := L2.bkV_ref et'
  have i1 : TS.intsOf s.heap u = n := by
    rw [eu]
    exact (L2.tupI_raw I ht).ints
  have i2 : TS.intsOf s.heap v = m := by
    rw [ev]
    exact (L2.tupI_raw I ht').ints
  rw [← i1, ← i2]
  have huv : ltTup s.heap B v u = false := huv
  unfold ltTup at huv
  simp only [decide_eq_false_iff_not] at huv
  omega
end
end DL

namespace DL
open PySem PySem.Spec PyProof.Rows L2
/-! ### sorted(a tuple of numbers) -/
section
variable {prog : Program} {w : World} {A : Around} {E : Value → Shared → Prop} {s : Shared}
theorem collect_tup {l : Addr} {vs : List Value} {Q : List Value → Shared → Prop} (hl : s.heap.IsTuple l vs.toArray)
    (h : Q vs { s with heap := (s.heap.push (seqObj "list" #[] 0)).update s.heap.objs.size (Obj.mapSeq (· ++ vs.toArray)) }) (hsz : vs.length ≤ sizeLine) :
    wpAny (model prog w) A (collect (.ref l)) Q E s := by
  obtain ⟨o, ho, hc, n, hd⟩ := id hl
  unfold collect
  refine wpAny_bind (wpAny_runValue (codeAny_builtin entry_proto_collect' ?_))
  show wpAny _ _ (do again (.builtin "list.__iadd__" ⟨[← newList [], .ref l], []⟩)) _ _ s
  refine wpAny_bind (wpAny_newList (wpAny_pure ⟨Code.quiet_builtin _ (by decide +kernel), codeAny_builtin entry_list_iadd' ?_⟩))
  show wpAny _ _ (Builtin.List.listExtendWith (.ref s.heap.objs.size) (.ref l) (.ref s.heap.objs.size)) _ _ { s with heap := s.heap.push (seqObj "list" #[] 0) }
  unfold Builtin.List.listExtendWith
  have ho' : (s.heap.push (seqObj "list" #[] 0)).get? l = some o := Heap.get?_push_of_some _ ho
  refine wpAny_bind (wpAny_typeOf (T := "tuple") ⟨o, ho', hc⟩ ?_)
  have ht : (Value.type "tuple" == Value.type "tuple") = true := by rfl
  rw [if_pos (by rw [ht]; simp)]
  refine wpAny_bind (listItems_at ho' hd ?_)
  refine wpAny_bind (listItems_at (xs := #[]) (n := 0) (Heap.get?_push_size _ rfl) rfl ?_)
  rw [if_neg (by simp)]
  refine wpAny_bind (listUpdate_at (xs := #[]) (n := 0) (Heap.get?_push_size _ rfl) rfl ?_ (Nat.zero_le _) (by show (#[] ++ vs.toArray).size ≤ sizeLine + 1; simp only [Array.size_append, List.size_toArray, List.length_nil]; omega))
  refine wpAny_pure ?_
  show wpAny (model prog w) A (do
      let o ← load s.heap.objs.size
      match o.data with
      | .seq xs _ => pure xs.toList
      | _ => unsupported "internal:collect") Q E { s with heap := (s.heap.push (seqObj "list" #[] 0)).update s.heap.objs.size (Obj.mapSeq (· ++ vs.toArray)) }
  refine wpAny_bind (wpAny_load (get?_update_seq (Heap.get?_push_size _ rfl) _) ?_)
  show wpAny _ _ (pure ((#[] : Array Value) ++ vs.toArray).toList) Q E _
  rw [show ((#[] : Array Value) ++ vs.toArray).toList = vs by simp]
  exact wpAny_pure h
theorem sorted_tupO {l : Addr} {vs : List Value} {ltv : Value → Value → Bool} {Q : Value → Shared → Prop} (O : SrtO.Swo ltv) (hl : s.heap.IsTuple l vs.toArray) (hz : vs.length ≤ sizeLine)
    (hS : 2 ≤ vs.length → ∀ (h₁ : Heap) (a : Addr), h₁.get? a = some (seqObj "list" vs.toArray 0) → (∀ b o, s.heap.get? b = some o → b ≠ a ∧ h₁.get? b = some o) → SrtO.SortableO prog w A.in1.in1 { s with heap := h₁ } a vs ltv)
    (h : ∀ out : List Value, SrtO.Srtd ltv out → SrtO.Stb ltv out vs → Q (.ref (s.heap.objs.size + 1)) { s with heap := sortedAll s.heap vs out.toArray }) :
    wpAny (model prog w) A (call (.builtin "sorted") [.ref l]) Q E s := by
  refine Calls.call_function_entry kind_sorted plain_sorted entry_sorted (args_sorted1 _) ?_
  unfold Builtin.«sorted»
  refine wpAny_bind (m := checkCount "sorted" 1 1 _) (wpAny_pure ?_)
  refine wpAny_bind (collect_tup hl ?_ hz)
  refine wpAny_bind (wpAny_newList ?_ hz)
  have hsz : ((s.heap.push (seqObj "list" #[] 0)).update s.heap.objs.size (Obj.mapSeq (· ++ vs.toArray))).objs.size = s.heap.objs.size + 1 := by
    rw [Heap.size_update, size_push']
  have hoL : (((s.heap.push (seqObj "list" #[] 0)).update s.heap.objs.size (Obj.mapSeq (· ++ vs.toArray))).push (seqObj "list" vs.toArray 0)).get? (s.heap.objs.size + 1) = some (seqObj "list" vs.toArray 0) := by
    rw [← hsz]; exact Heap.get?_push_size _ rfl
  have keep : ∀ b o, s.heap.get? b = some o → b ≠ s.heap.objs.size + 1 ∧ (((s.heap.push (seqObj "list" #[] 0)).update s.heap.objs.size (Obj.mapSeq (· ++ vs.toArray))).push (seqObj "list" vs.toArray 0)).get? b = some o := fun b o q => by
    have hlt : b < s.heap.objs.size := Heap.lt_size q
    refine ⟨Nat.ne_of_lt (Nat.lt_succ_of_lt hlt), Heap.get?_push_of_some _ ?_⟩
    rw [Heap.get?_update_ne _ _ _ _ (Nat.ne_of_lt hlt)]
    exact Heap.get?_push_of_some _ q
  show wpAny _ _ _ _ _ { s with heap := ((s.heap.push (seqObj "list" #[] 0)).update s.heap.objs.size (Obj.mapSeq (· ++ vs.toArray))).push (seqObj "list" vs.toArray 0) }
  rw [hsz]
  refine wpAny_bind (wpAny_holding (wpAny_call_entry slot_list_sort ⟨_, hoL, rfl⟩ entry_list_sort (SrtO.list_sort_ord O hoL hz (fun h2 => hS h2 _ _ hoL keep) fun out hs hb => ⟨_, rfl, ?_⟩) (args_list_sort _)))
  exact wpAny_pure ⟨_, rfl, h out hs hb⟩
end
def rSortedTu (K : PySem.W.Frag) : List V → Hp → VK → Prop := fun vs H Q => ∃ (a : Addr) (ns : List Int), vs = [V.ref a] ∧ SqT K H a (ns.map V.int) ∧ ns.length ≤ sizeLine ∧
  ∀ (ns' : List Int) (p : Addr), ns'.Perm ns → ns'.Pairwise (· ≤ ·) → H p = none → Q (.ref p) (upd H p (.lst (ns'.map V.int)))
theorem cr_sortedTu {X : Cx} : CallR X (.builtin "sorted") (rSortedTu X.K) := by
  intro pins s σ H vs us Q I r h
  obtain ⟨a, ns, rfl, hs, hz, q⟩ := h
  obtain ⟨its, rv, hT, _⟩ := I.tuple hs
  rw [Vals.ref1 r]
  have hi := rv.ints
  have hlen0 : its.length = ns.length := by rw [← rv.length, List.length_map]
  refine sorted_tupO SrtO.swo_int hT (by rw [hlen0]; exact hz) (fun h2 h₁ a' _ _ => SrtO.ints_sortable hi h2) fun out h1 h2 => ?_
  obtain ⟨k1, k2, k3⟩ := SrtO.ints_out hi h1 h2
  obtain ⟨ep, he'⟩ := PyProof.Rows.sortedAll_at s.heap its out.toArray
  have hlen : ((out.map SrtO.iv).map V.int).length ≤ sizeLine := by
    rw [List.length_map, k2.length_eq]
    exact hz
  exact ⟨.ref _, upd H (s.heap.objs.size + 1) (.lst ((out.map SrtO.iv).map V.int)), I.laid (t' := s.toks) (fun _ _ => PyProof.Rows.sortedAll_old) (Nat.le_succ _) ⟨hlen, out, ep, vals_of_ints k1, he'⟩, rfl, q _ _ k2 k3 (I.hok.fresh (Nat.le_succ _))⟩
/-! ### over data -/
def tupsOf : List D → Option (List (List Int))
  | [] => some []
  | .tup ds :: r => match intsOf ds, tupsOf r with | some x, some xs => some (x :: xs) | _, _ => none
  | _ :: _ => none
def encT (r : List Int) : D := .tup (r.map D.int)
theorem tupsOf_eq : ∀ {ds : List D} {rows : List (List Int)}, tupsOf ds = some rows → ds = rows.map encT
  | [], _, h => by cases h; rfl
  | .tup d :: r, rows, h => by
    unfold tupsOf at h
    split at h
    · rename_i x xs h1 h2
      cases h
      rw [List.map_cons, ← tupsOf_eq h2, intsOf_eq h1]; rfl
    · cases h
  | .non :: _, _, h => by cases h
  | .bl _ :: _, _, h => by cases h
  | .int _ :: _, _, h => by cases h
  | .str _ :: _, _, h => by cases h
  | .lst _ :: _, _, h => by cases h
  | .ins _ _ _ :: _, _, h => by cases h
  | .scr _ :: _, _, h => by cases h
def lexLe : List Int → List Int → Bool
  | [], _ => true
  | _ :: _, [] => false
  | x :: xs, y :: ys => if x = y then lexLe xs ys else decide (x < y)
def insT (x : List Int) : List (List Int) → List (List Int)
  | [] => [x]
  | y :: r => if lexLe x y = true then x :: y :: r else y :: insT x r
def sortT : List (List Int) → List (List Int)
  | [] => []
  | x :: r => insT x (sortT r)
theorem lexLe_total : ∀ x y : List Int, lexLe x y = true ∨ lexLe y x = true
  | [], _ => .inl (by simp [lexLe])
  | _ :: _, [] => .inr (by simp [lexLe])
  | x :: xs, y :: ys => by
    by_cases e : x = y
    · subst e; simpa [lexLe] using lexLe_total xs ys
    · have : ¬ y = x := fun z => e z.symm
      simp [lexLe, e, this]; omega
theorem lexLe_trans : ∀ {x y z : List Int}, lexLe x y = true → lexLe y z = true → lexLe x z = true
  | [], _, _, _, _ => by simp [lexLe]
  | x :: xs, [], _, h, _ => by simp [lexLe] at h
  | x :: xs, y :: ys, [], _, h => by simp [lexLe] at h
  | x :: xs, y :: ys, z :: zs, h1, h2 => by
    unfold lexLe at *
    by_cases e1 : x = y
    · subst e1
      by_cases e2 : x = z
      · subst e2
        simp only [if_true] at *
        exact lexLe_trans h1 h2
      · simp only [e2, if_false] at *; exact h2
    · by_cases e2 : y = z
      · subst e2
        simp only [e1, if_false] at *; exact h1
      · simp only [e1, e2, if_false, decide_eq_true_eq] at *
        have : ¬ x = z := by omega
        simp only [this, if_false, decide_eq_true_eq]; omega
theorem lexLe_anti : ∀ {x y : List Int}, lexLe x y = true → lexLe y x = true → x = y
  | [], [], _, _ => rfl
  | [], _ :: _, _, h => by simp [lexLe] at h
  | _ :: _, [], h, _ => by simp [lexLe] at h
  | x :: xs, y :: ys, h1, h2 => by
    unfold lexLe at *
    by_cases e : x = y
    · subst e
      simp only [if_true] at *
      rw [lexLe_anti h1 h2]
    · have e' : ¬ y = x := fun z => e z.symm
      simp only [e, e', if_false, decide_eq_true_eq] at *
      omega
theorem insT_perm (x : List Int) : ∀ l, (insT x l).Perm (x :: l)
  | [] => .refl _
  | y :: r => by
    unfold insT
    split
    · exact .refl _
    · exact ((insT_perm x r).cons y).trans (.swap _ _ _)
theorem sortT_perm : ∀ l, (sortT l).Perm l
  | [] => .refl _
  | x :: r => (insT_perm x _).trans ((sortT_perm r).cons x)
theorem insT_sorted (x : List Int) : ∀ l : List (List Int), l.Pairwise (fun a b => lexLe a b = true) → (insT x l).Pairwise (fun a b => lexLe a b = true)
  | [], _ => List.pairwise_singleton _ _
  | y :: r, h => by
    obtain ⟨h1, h2⟩ := List.pairwise_cons.mp h
    unfold insT
    split
    · rename_i hx
      exact List.pairwise_cons.mpr ⟨fun z hz => by
        rcases List.mem_cons.mp hz with rfl | hz
        · exact hx
        · exact lexLe_trans hx (h1 z hz), h⟩
    · rename_i hx
      refine List.pairwise_cons.mpr ⟨fun z hz => ?_, insT_sorted x r h2⟩
      rcases List.mem_cons.mp ((insT_perm x r).mem_iff.mp hz) with rfl | hz
      · rcases lexLe_total z y with q | q
        · exact absurd q hx
        · exact q
      · exact h1 z hz
theorem sortT_sorted : ∀ l, (sortT l).Pairwise (fun a b => lexLe a b = true)
  | [] => .nil
  | x :: r => insT_sorted x _ (sortT_sorted r)
theorem sortT_unique : ∀ {l m : List (List Int)}, l.Perm m → l.Pairwise (fun a b => lexLe a b = true) → m.Pairwise (fun a b => lexLe a b = true) → l = m
  | [], m, p, _, _ => (List.nil_perm.mp p).symm
  | x :: l, m, p, h1, h2 => by
    cases m with
    | nil => exact absurd p.symm (by simp)
    | cons y m =>
      obtain ⟨a1, a2⟩ := List.pairwise_cons.mp h1
      obtain ⟨b1, b2⟩ := List.pairwise_cons.mp h2
      have hxy : x = y := by
        have hx : x ∈ y :: m := p.mem_iff.mp List.mem_cons_self
        have hy : y ∈ x :: l := p.mem_iff.mpr List.mem_cons_self
        rcases List.mem_cons.mp hx with e | hx
        · exact e
        · rcases List.mem_cons.mp hy with e | hy
          · exact e.symm
          · exact lexLe_anti (a1 y hy) (b1 x hx)
      subst hxy
      rw [sortT_unique (List.Perm.cons_inv p) a2 b2]
theorem code_lexLe {B : Int} : ∀ {n m : List Int}, n.length = m.length → TS.Bd B n → TS.Bd B m → TS.code B n ≤ TS.code B m → lexLe n m = true
  | [], _, _, _, _, _ => by simp [lexLe]
  | _ :: _, [], h, _, _, _ => by simp at h
  | x :: xs, y :: ys, hl, h1, h2, h => by
    have hl' : xs.length = ys.length := by simpa using hl
    unfold lexLe
    by_cases e : x = y
    · subst e
      simp only [if_true]
      refine code_lexLe hl' h1.tail h2.tail ?_
      apply Int.not_lt.mp
      intro q
      have := (TS.code_same (d := x) (r := ys) (q := xs) hl'.symm).mpr q
      omega
    · simp only [e, if_false, decide_eq_true_eq]
      rcases Int.lt_trichotomy x y with q | q | q
      · exact q
      · exact absurd q e
      · have := TS.code_lt hl'.symm h2.tail h1.tail q
        omega
/-- the greatest number, and one more -/
def topOf (rows : List (List Int)) : Int := rows.foldl (fun b r => r.foldl (fun b x => if x < b then b else x + 1) b) 1
def okRows (rows : List (List Int)) (d : Nat) (B : Int) : Bool := decide (1 ≤ d) && rows.all fun r => decide (r.length = d) && r.all fun x => decide (0 ≤ x) && decide (x < B)
def nSortedT : D → Option (List D)
  | .lst ds => match tupsOf ds with
    | some rows => if okRows rows (rows.headD [0]).length (topOf rows) = true then some ((sortT rows).map encT) else none
    | none => none
  | _ => none
/-- sorted(..) of what is covered -/
def nSortedA (x : D) : Option (List D) := match x with
  | .lst ds => match intsOf ds with
    | some is => some ((sortI is).map D.int)
    | none => nSortedT (.lst ds)
  | .tup ds => match intsOf ds with
    | some is => if is.length ≤ big then some ((sortI is).map D.int) else none
    | none => none
  | _ => none
def rSortedA (K : PySem.W.Frag) : List V → Hp → VK → Prop := fun vs H Q => rSortedI K vs H Q ∨ rSortX K vs H Q ∨ rSortedTu K vs H Q
theorem cr_sortedA {X : Cx} : CallR X (.builtin "sorted") (rSortedA X.K) := cr_sortedI.or (cr_sortX.or cr_sortedTu)
section
variable {g : G} {F H : Hp}
theorem Rl.perm {α : Type} {enc : α → D} : ∀ {vs ys : List V}, vs.Perm ys → ∀ {rows : List α}, Rl g F vs (rows.map enc) → ∃ rows' : List α, Rl g F ys (rows'.map enc) ∧ rows'.Perm rows := by
  intro vs ys p
  induction p with
  | nil => intro rows h; exact ⟨rows, h, .refl _⟩
  | cons x p ih =>
    intro rows h
    cases rows with
    | nil => cases h
    | cons r rows =>
      cases h with
      | cons h1 h2 =>
        obtain ⟨rows', a, b⟩ := ih h2
        exact ⟨r :: rows', .cons h1 a, b.cons r⟩
  | swap x y l =>
    intro rows h
    match rows, h with
    | r1 :: r2 :: rows, .cons h1 (.cons h2 h3) => exact ⟨r2 :: r1 :: rows, .cons h2 (.cons h1 h3), .swap _ _ _⟩
  | trans p q ih1 ih2 =>
    intro rows h
    obtain ⟨r1, a, b⟩ := ih1 h
    obtain ⟨r2, c, d⟩ := ih2 a
    exact ⟨r2, c, d.trans b⟩
theorem Rl.pw {α : Type} {enc : α → D} {P : V → V → Prop} {R : α → α → Prop} (hPR : ∀ v u x y, Rv g F v (enc x) → Rv g F u (enc y) → P v u → R x y) : ∀ {vs : List V} {rows : List α}, Rl g F vs (rows.map enc) → vs.Pairwise P → rows.Pairwise R
  | _, [], _, _ => .nil
  | v :: vs, r :: rows, .cons h1 h2, hp => by
    obtain ⟨a, b⟩ := List.pairwise_cons.mp hp
    refine List.pairwise_cons.mpr ⟨fun y hy => ?_, Rl.pw hPR h2 b⟩
    obtain ⟨j, hj, rfl⟩ := List.getElem_of_mem hy
    obtain ⟨u, e1, e2⟩ := h2.get (i := j) (d := enc rows[j]) (by simp [hj])
    exact hPR v u _ _ h1 e2 (a u (List.mem_of_getElem? e1))
theorem Rv.tupI (l : Same F H) {v : V} {r : List Int} (h : Rv g F v (encT r)) : L2.TupI g.K H v r := by
  unfold encT at h
  cases h with
  | tup h1 _ h2 =>
    have := h2.ints
    subst this
    exact ⟨_, rfl, sqT_mono l h1⟩
theorem vn_sortedA : VN1 g (fun v => rSortedA g.K [v]) nSortedA := by
  intro H F v d zs le rd hz Q q
  cases d with
  | lst ds =>
    cases hi : intsOf ds with
    | some is =>
      have hz : some ((sortI is).map D.int) = some zs := by
        simpa only [nSortedA, hi] using hz
      cases hz
      exact .inl (vn_sorted H F v (.lst ds) _ le rd (by simp only [nSorted, hi]) Q q)
    | none =>
      cases ht : tupsOf ds with
      | none => simp only [nSortedA, hi, nSortedT, ht] at hz; cases hz
      | some rows =>
        by_cases hok : okRows rows (rows.headD [0]).length (topOf rows) = true
        · have hz : some ((sortT rows).map encT) = some zs := by
            rw [← hz]; simp only [nSortedA, hi, nSortedT, ht]; rw [if_pos hok]
          cases hz
          refine .inr (.inl ?_)
          have e := tupsOf_eq ht
          subst e
          obtain ⟨a, vs, rfl, h1, r1⟩ := rd.lst le
          unfold okRows at hok
          simp only [Bool.and_eq_true, decide_eq_true_eq, List.all_eq_true] at hok
          obtain ⟨hd, hrows⟩ := hok
          refine ⟨(rows.headD [0]).length, topOf rows, a, vs, hd, rfl, sqL_of h1, fun x hx => ?_, fun ys p hp hpw hn => ?_⟩
          · obtain ⟨i, hi, rfl⟩ := List.getElem_of_mem hx
            obtain ⟨u, e1, e2⟩ := r1.get' (i := i) (v := vs[i]) (by simp [hi])
            rw [List.getElem?_map] at e1
            cases hr : rows[i]? with
            | none => rw [hr] at e1; cases e1
            | some r =>
              rw [hr] at e1
              cases e1
              have hm := hrows r (List.mem_of_getElem? hr)
              exact ⟨r, Rv.tupI le e2, hm.1, fun y hy => hm.2 y hy⟩
          · obtain ⟨rows', a1, a2⟩ := Rl.perm hp.symm r1
            have hs : rows'.Pairwise (fun a b => TS.code (topOf rows) a ≤ TS.code (topOf rows) b) := Rl.pw (P := fun x y => ∀ n m, L2.TupI g.K H x n → L2.TupI g.K H y m → TS.code (topOf rows) n ≤ TS.code (topOf rows) m) (fun v u x y hv hu hP => hP x y (Rv.tupI le hv) (Rv.tupI le hu)) a1 hpw
            have hs2 : rows'.Pairwise (fun a b => lexLe a b = true) := List.Pairwise.imp_of_mem (fun {a b} ha hb hab => by
              have ha := hrows a (a2.mem_iff.mp ha)
              have hb := hrows b (a2.mem_iff.mp hb)
              exact code_lexLe (by rw [ha.1, hb.1]) (fun y hy => ha.2 y hy) (fun y hy => hb.2 y hy) hab) hs
            have e : rows' = sortT rows := sortT_unique (a2.trans (sortT_perm rows).symm) hs2 (sortT_sorted rows)
            subst e
            exact q p _ hn a1
        · have hz : none = some zs := by
            rw [← hz]; simp only [nSortedA, hi, nSortedT, ht]; rw [if_neg hok]
          cases hz
  | tup ds =>
    cases hi : intsOf ds with
    | none => simp only [nSortedA, hi] at hz; cases hz
    | some is =>
      by_cases hb : is.length ≤ big
      · have hz : some ((sortI is).map D.int) = some zs := by
          rw [← hz]; simp only [nSortedA, hi]; rw [if_pos hb]
        cases hz
        have := intsOf_eq hi
        subst this
        obtain ⟨a, vs, rfl, h1, r1⟩ := rd.tup le
        have := r1.ints
        subst this
        refine .inr (.inr ⟨a, is, rfl, h1, by rw [← big_eq]; exact hb, fun ns' p hp hs hn => ?_⟩)
        have e : ns' = sortI is := sorted_unique (hp.trans (sortI_perm is).symm) hs (sortI_sorted is)
        subst e
        exact q p _ hn (Rl.of_ints _)
      · have hz : none = some zs := by
          rw [← hz]; simp only [nSortedA, hi]; rw [if_neg hb]
        cases hz
  | non => cases hz
  | bl _ => cases hz
  | int _ => cases hz
  | str _ => cases hz
  | ins _ _ _ => cases hz
  | scr _ => cases hz
end
end DL

namespace DL
open PySem PySem.Spec PyProof.Rows L2
theorem tupsOf_map : ∀ (rows : List (List Int)), tupsOf (rows.map (eT eI)) = some rows
  | [] => rfl
  | x :: r => by
    show (match intsOf (x.map eI), tupsOf (r.map (eT eI)) with | some x, some xs => some (x :: xs) | _, _ => none) = _
    rw [tupsOf_map r, show intsOf (x.map eI) = some x from intsOf_map _]
def pSortT (rows : List (List Int)) : M (List (List Int)) := if okRows rows (rows.headD [0]).length (topOf rows) = true then .ok (sortT rows) else .stuck
def pSortTu (xs : List Int) : M (List Int) := if xs.length ≤ big then .ok (sortI xs) else .stuck
theorem op_sortedA {xs : List Int} : nSortedA (eL eI xs) = some ((sortI xs).map eI) := by
  show (match intsOf (xs.map eI) with | some is => some ((sortI is).map D.int) | none => nSortedT (.lst (xs.map eI))) = _
  rw [show intsOf (xs.map eI) = some xs from intsOf_map _]
theorem op_sortT {rows : List (List Int)} : OP (nSortedA (eL (eT eI) rows)) (pSortT rows) (List.map (eT eI)) := by
  cases rows with
  | nil => exact rfl
  | cons x r =>
    have e : nSortedA (eL (eT eI) (x :: r)) = nSortedT (.lst ((x :: r).map (eT eI))) := rfl
    rw [e]
    unfold pSortT
    by_cases h : okRows (x :: r) ((x :: r).headD [0]).length (topOf (x :: r)) = true
    · rw [if_pos h]
      show nSortedT _ = some _
      unfold nSortedT
      simp only [tupsOf_map]
      rw [if_pos h]; rfl
    · rw [if_neg h]; trivial
theorem op_sortTu {xs : List Int} : OP (nSortedA (eT eI xs)) (pSortTu xs) (List.map eI) := by
  unfold pSortTu
  by_cases h : xs.length ≤ big
  · rw [if_pos h]
    show (match intsOf (xs.map eI) with | some is => if is.length ≤ big then some ((sortI is).map D.int) else none | none => none) = some _
    rw [show intsOf (xs.map eI) = some xs from intsOf_map _]
    simp only []
    rw [if_pos h]
  · rw [if_neg h]; trivial
end DL

namespace DL
open PySem PySem.Spec PyProof.Rows L2
/-! ### a tuple or a word times a number -/
theorem tuple_mul1 (l : Addr) (items : Array Value) (n : Nat) (dd : Option Addr) (sl : Array (Option Value)) (u : Tok) :
    Meets (Builtin.«tuple.__mul__» ⟨[.ref l, .int 1 u], []⟩) (fun _ R s => s.heap.get? l = some { cls := .type "tuple", dict := dd, data := .seq items n, slots := sl } ∧ R (.ok (.ret (Value.ref l))) s) :=
  .of_wp fun prog w A R s h => by
    obtain ⟨hp, g, d, tk, os⟩ := s
    obtain ⟨hl, h⟩ := h
    have f1 := AutoSeq1.idx_int
    have c1 : (items.isEmpty || (1 : Int) == 1) = true := by simp
    wp_walk using wpAny_loadPart' hl
    repeat (first
      | (refine wpAny_ite_true (decide_eq_true (by rw [c1])) ?_; wp_walk using wpAny_loadPart' hl)
      | (refine wpAny_ite_true c1 ?_; wp_walk using wpAny_loadPart' hl))
    exact ⟨_, rfl, h⟩
def rRepT1 (K : PySem.W.Frag) : R2 := fun x y H Q => ∃ l xs, x = .ref l ∧ y = .int 1 ∧ SqT K H l xs ∧ Q (.ref l) H
section
variable {X : Cx}
theorem op_repT1 : OpR X (binaryOp .Mult) (rRepT1 X.K) := by
  intro pins s σ H x y v u Q I rx ry h
  obtain ⟨l, xs, rfl, rfl, hT, q⟩ := h
  cases rx
  obtain ⟨t, rfl⟩ := ry
  obtain ⟨its, r, ⟨⟨cls, dd, data, sl⟩, ho, hc, n, hd⟩, hs⟩ := I.tuple hT
  simp only at hc hd
  subst hc hd
  exact wpAny_binaryOp_repeat_ref (T := "tuple") (U := "int") (by decide) ⟨_, ho, rfl⟩ (fun s' => typeIs_int s' 1 t) noFill_tuple_mul F.fills_int_mul F.slot_int_rmul repeat_tuple F.slot_int_index.lookup
    (call_meets F.slot_int_rmul (typeIs_int s 1 t) F.entry_int_rmul (F.args_int_rmul_2 _ _) (int_rmul_tuple 1 t l its.toArray n dd sl)
      ⟨ho, rfl, ⟨_, ho, rfl⟩, call_meets F.slot_tuple_mul ⟨_, ho, rfl⟩ F.entry_tuple_mul (F.args_tuple_mul_2 _ _) (tuple_mul1 l its.toArray n dd sl t) ⟨ho, ⟨.ref l, H, I, rfl, q⟩⟩⟩)
def strRep (x : Str) (k : Int) : Str := if (k == 1 || x.length == 0) = true then x else ⟨(List.replicate k.toNat x.cps).foldl (· ++ ·) #[]⟩
theorem foldl_size {α : Type} (x : Array α) : ∀ (m : Nat) (acc : Array α), ((List.replicate m x).foldl (· ++ ·) acc).size = acc.size + m * x.size
  | 0, acc => by simp
  | m + 1, acc => by
    rw [List.replicate_succ, List.foldl_cons, foldl_size x m, Array.size_append, Nat.succ_mul]; omega
theorem strRep_len {z : Str} {k : Int} (h2 : k ≤ 1000) (h3 : z.length ≤ 1000) : (⟨(List.replicate k.toNat z.cps).foldl (· ++ ·) #[]⟩ : Str).length ≤ sizeLine := by
  show ((List.replicate k.toNat z.cps).foldl (· ++ ·) #[]).size ≤ sizeLine
  rw [foldl_size, sizeLine_eq]
  have a1 : k.toNat * z.cps.size ≤ 1000 * 1000 := Nat.mul_le_mul (by omega) h3
  have : (#[] : Array Nat).size = 0 := rfl
  simp only [Array.size_empty]
  omega
def rRepS : R2 := fun x y H Q => ∃ z k, x = .str z ∧ y = .int k ∧ 1 ≤ k ∧ k ≤ 1000 ∧ z.length ≤ 1000 ∧ Q (.str (strRep z k)) H
theorem op_repS : OpR X (binaryOp .Mult) rRepS := by
  intro pins s σ H x y v u Q I rx ry h
  obtain ⟨z, k, rfl, rfl, h1, h2, h3, q⟩ := h
  obtain ⟨t, rfl⟩ := rx
  obtain ⟨t', rfl⟩ := ry
  have hm : (z.length : Int) * 1 ≤ 1000 := by omega
  refine PySem.P.mul_str (by rw [decide_eq_false (by omega), decide_eq_false (by omega)]; rfl) (fun _ _ => ?_) (fun _ _ => ?_) ?_
  · have a1 : (z.length : Int) * k ≤ 1000 * 1000 := Int.mul_le_mul (by omega) h2 (by omega) (by omega)
    have : (z.length : Int) ≤ (2 ^ 63 - 1) / k := Int.le_ediv_of_mul_le (by omega) (by omega)
    omega
  · have a1 : z.length * k.toNat ≤ 1000 * 1000 := Nat.mul_le_mul h3 (by omega)
    unfold Builtin.Str.tooLong
    rw [sizeLine_eq]
    exact decide_eq_false (by omega)
  · rw [if_neg (by omega)]
    unfold strRep at q
    split
    · rename_i hb
      rw [if_pos hb] at q
      exact ⟨.str z, H, I, ⟨_, rfl⟩, q⟩
    · rename_i hb
      rw [if_neg hb] at q
      exact ⟨strRep_len h2 h3, .str _, H, I.tok _, ⟨_, rfl⟩, q⟩
end
def opMulA (x y : D) : Option D := match x, y with
  | .tup xs, .int k => if xs ≠ [] ∧ xs.length ≤ 1000 ∧ 1 ≤ k ∧ k ≤ 1000 then some (.tup (List.replicate k.toNat xs).flatten) else none
  | .str z, .int k => if z.length ≤ 1000 ∧ 1 ≤ k ∧ k ≤ 1000 then some (.str (strRep z k)) else none
  | x, y => opMul x y
def rMulA (K : PySem.W.Frag) : R2 := fun x y H Q => rMulD x y H Q ∨ rRepT K x y H Q ∨ rRepT1 K x y H Q ∨ rRepS x y H Q
theorem op_mulA {X : Cx} : OpR X (binaryOp .Mult) (rMulA X.K) := op_mulD.or (L2.op_repT.or (op_repT1.or op_repS))
section
variable {g : G}
theorem vo_mulA (ht : g.tk = false) : VO2 g (rMulA g.K) opMulA := by
  intro H F v u d e z l rd re h Q q
  unfold opMulA at h
  split at h
  · split at h
    · rename_i xs k hl
      cases h
      obtain ⟨hne, hl1, hk1, hk2⟩ := hl
      by_cases hk : k = 1
      · subst hk
        have er : (List.replicate (1 : Int).toNat xs).flatten = xs := by simp
        rw [er] at q
        obtain ⟨a, vs, rfl, h1, r1⟩ := rd.tup l
        cases re.int
        refine .inr (.inr (.inl ⟨a, vs, rfl, rfl, h1, q _ _ _ (Grow.refl l) ?_⟩))
        rcases rd with rd | ⟨_, _, _, _, e, _⟩
        · exact rd
        · cases e
      · obtain ⟨a, vs, rfl, h1, r1⟩ := rd.tup l
        cases re.int
        exact .inr (.inl ⟨a, k, vs, rfl, rfl, h1, fun e => hne (by subst e; cases r1; rfl), by omega, hk2, by rw [r1.length]; exact hl1, fun p hp => q _ _ _ (Grow.new l hp) (.tup (.inl (.inl upd_same)) (by unfold TkP; rw [ht]; exact upd_same) ((r1.rep k.toNat).mono (Grow.new l hp).f))⟩)
    · cases h
  · split at h
    · rename_i x k hl
      cases h; cases rd.str; cases re.int
      exact .inr (.inr (.inr ⟨_, _, rfl, rfl, hl.2.1, hl.2.2, hl.1, q _ _ _ (Grow.refl l) (.str _)⟩))
    · cases h
  · exact .inl (vo_mul H F v u d e z l rd re h Q q)
end
/-! typed -/
section
variable {α : Type} {e : α → D}
theorem op_mulAi {a b : Int} : OP (opMulA (eI a) (eI b)) (pMul a b) eI := op_mul
def pRepT (xs : List α) (k : Int) : M (List α) := if xs ≠ [] ∧ xs.length ≤ 1000 ∧ 1 ≤ k ∧ k ≤ 1000 then .ok (List.replicate k.toNat xs).flatten else .stuck
theorem op_repTA {xs : List α} {k : Int} : OP (opMulA (eT e xs) (eI k)) (pRepT xs k) (eT e) := by
  unfold pRepT
  by_cases h : xs ≠ [] ∧ xs.length ≤ 1000 ∧ 1 ≤ k ∧ k ≤ 1000
  · rw [if_pos h]
    show (if xs.map e ≠ [] ∧ (xs.map e).length ≤ 1000 ∧ 1 ≤ k ∧ k ≤ 1000 then some (D.tup (List.replicate k.toNat (xs.map e)).flatten) else none) = some (.tup ((List.replicate k.toNat xs).flatten.map e))
    rw [if_pos ⟨by simpa using h.1, by simpa using h.2.1, h.2.2⟩]
    simp [List.map_flatten, List.map_replicate]
  · rw [if_neg h]; trivial
end
end DL

namespace DL
open PySem PySem.Spec PyProof.Rows L2
/-! ### set(a list of numbers) -/
/-- what set() makes first -/
abbrev setNu (w : World) : Obj := { cls := .type "set", dict := none, data := .set #[] 0 (.fresh 0 0 (!w.params.followText "set-order")) }
section
variable {P : Program} {w : World} {A : Around} {E : Value → Shared → Prop} {s : Shared}
set_option maxHeartbeats 3200000 in
theorem set_of_ints {l : Addr} {vs : Array Value} (ns : List Int) {Q : Value → Shared → Prop} (hA : A.handled = none) (hl : s.heap.IsList l vs) (hv : IntsAre vs.toList ns) (hb : ns.length + 1 < scanBound)
    (h : ∀ (h' : Heap) (tk c : Nat), SetR w h' s.heap.objs.size (fun j => decide (j ∈ ns)) c → (∀ b o, s.heap.get? b = some o → h'.get? b = some o) → Q (.ref s.heap.objs.size) { s with heap := h', toks := tk }) :
    wpAny (model P w) A (call (.type "set") [.ref l]) Q E s := by
  have hlen : vs.size = ns.length := by rw [← IntsAre.length hv, Array.length_toList]
  obtain ⟨c, tl, hmro⟩ := F.called_set.mro
  have e1 := F.called_set.made
  have e2 := F.called_set.sub
  refine wpAny_call (codeAny_of_tree (wpAny_pure ⟨Code.quiet_builtin _ (by decide +kernel), codeAny_builtin F.entry_type_call ?_⟩))
  rw [Around.under_plain (weight_type_call_type "set" [.ref l] []) rfl]
  have e3 := F.called_set.notType
  have e4 := F.called_set.canCreate
  have e5 := F.typeCall_set_1 (.ref l)
  repeat (any_goals (first | assumption | wp_step))
  refine codeAny_mono (code_set_led1 (.ref l) (E := E) (Q₁ := fun u s₁ => u = .ref s.heap.objs.size ∧ s₁ = { s with heap := s.heap.push (setNu w) }) ⟨rfl, rfl⟩) fun r s₁ hr => ?_
  match r, hr with
  | .error e, hr => exact hr
  | .ok (.ret u), hr =>
    obtain ⟨rfl, rfl⟩ := hr
    have gS : (s.heap.push (setNu w)).get? s.heap.objs.size = some (setNu w) := Heap.get?_push_size _ rfl
    have gT : Shared.TypeIs { s with heap := s.heap.push (setNu w) } (.ref s.heap.objs.size) "set" := ⟨_, gS, rfl⟩
    have e6 := F.called_set.init.lookup
    have e7 := F.called_set.init.bind (.ref s.heap.objs.size)
    repeat (any_goals (first | assumption | wp_step))
    refine codeAny_mono (codeAny_call_builtin (R := wants (fun r s₂ => r = .none ∧ ∃ h' tk c, s₂ = { s with heap := h', toks := tk } ∧ SetR w h' s.heap.objs.size (fun j => decide (j ∈ ns)) c ∧ ∀ b o, s.heap.get? b = some o → h'.get? b = some o) E)
      F.called_set.init.plain F.entry_set_init (check_set_init_1 gT ?_)) fun r₂ s₂ hr₂ => ?_
    · obtain ⟨⟨ocls, odict, odata, oslots⟩, hol, hc, nl, hd⟩ := hl
      simp only at hc hd
      subst hc; subst hd
      have hol' : (s.heap.push (setNu w)).get? l = some { cls := .type "list", dict := odict, data := .seq vs nl, slots := oslots } := Heap.get?_push_of_some _ hol
      have e8 := F.sub_list_set
      have e9 := F.sub_list_frozenset
      have e10 : (Value.type "list" == Value.type "dict") = false := by decide
      have hl1 : (s.heap.push (setNu w)).IsList l vs := ⟨_, hol', rfl, nl, rfl⟩
      unfold Builtin.«set.__init__» noKeywords Builtin.Frozenset.updateFrom
      generalize hPI : pyIter = PI
      wp_walk
      subst hPI
      refine wpAny_pyIter_list hl1 (wpAny_bind (wpAny_runValue ?_))
      have lt : l < s.heap.objs.size := Heap.lt_size hol
      have hA3 : A.in1.in1.in1.handled = none := by simp [hA]
      have z1 : (s.heap.push (setNu w)).objs.size = s.heap.objs.size + 1 := Heap.size_push ..
      have ne1 : l ≠ (s.heap.push (setNu w)).objs.size := by rw [z1]; exact Nat.ne_of_lt (Nat.lt_succ_of_lt lt)
      have nS : s.heap.objs.size ∉ [(s.heap.push (setNu w)).objs.size, l] := by
        rw [z1]; simp only [List.mem_cons, List.not_mem_nil, or_false, not_or]
        exact ⟨Nat.ne_of_lt (Nat.lt_succ_self _), Nat.ne_of_gt lt⟩
      refine set_update_ints ((Walks.list hA3 _ l ne1 vs).toS) s.heap.objs.size nS ns hlen hb (fun i v hi => ?_) (vs.size - 0) 0 _ (by omega) (Nat.zero_le _)
        ⟨⟨_, Heap.get?_push_size _ rfl, rfl, rfl⟩, (hl1.push _)⟩ ⟨0, Nat.le_refl 0, setR_new_at (Heap.get?_push_of_some _ gS)⟩ fun s' c' hm hc' hS' => ?_
      · have lt2 : i < ns.length := by rw [← hlen]; exact (Array.getElem?_eq_some_iff.mp hi).1
        obtain ⟨t, e⟩ := hv.int_at i v (by rw [Array.getElem?_toList]; exact hi)
        refine ⟨ns[i], t, List.getElem?_eq_getElem lt2, ?_⟩
        rw [e, List.getD_eq_getElem?_getD, List.getElem?_eq_getElem lt2]; rfl
      · obtain ⟨h', g2, d', tk', os'⟩ := s'
        have eg : g2 = s.gens := hm.gens
        have ed : d' = s.drawn := hm.drawn
        have eo : os' = s.os := hm.os
        subst eg; subst ed; subst eo
        show wpAny _ _ _ _ _ _
        refine wpAny_pure ?_
        show wpAny _ _ (ret Value.none) _ _ _
        refine wpAny_pure ⟨rfl, h', tk', c', rfl, hS', fun b o e => ?_⟩
        have lb : b < s.heap.objs.size := Heap.lt_size e
        refine hm.heap b o ?_ (Heap.get?_push_of_some _ (Heap.get?_push_of_some _ e))
        rw [z1]; simp only [List.mem_cons, List.not_mem_nil, or_false, not_or]
        exact ⟨Nat.ne_of_lt lb, Nat.ne_of_lt (Nat.lt_succ_of_lt lb)⟩
    · match r₂, hr₂ with
      | .error e, hr₂ => exact hr₂
      | .ok (.ret r), hr₂ =>
        obtain ⟨rfl, h', tk, c', rfl, hS', hk'⟩ := hr₂
        repeat (any_goals (first | assumption | wp_step))
        exact h _ _ _ hS' hk'
end
/-! ### the numbers of a list, each once, ascending -/
def insU (x : Int) : List Int → List Int
  | [] => [x]
  | y :: r => if x < y then x :: y :: r else if x = y then y :: r else y :: insU x r
def sortU : List Int → List Int
  | [] => []
  | x :: r => insU x (sortU r)
theorem mem_insU (x y : Int) : ∀ l, y ∈ insU x l ↔ y = x ∨ y ∈ l
  | [] => by simp [insU]
  | z :: r => by
    unfold insU
    split
    · simp
    · split
      · rename_i e; subst e; simp
      · simp only [List.mem_cons, mem_insU x y r]
        constructor
        · rintro (h | h | h)
          · exact .inr (.inl h)
          · exact .inl h
          · exact .inr (.inr h)
        · rintro (h | h | h)
          · exact .inr (.inl h)
          · exact .inl h
          · exact .inr (.inr h)
theorem mem_sortU {y : Int} : ∀ {l}, y ∈ sortU l ↔ y ∈ l
  | [] => by simp [sortU]
  | x :: r => by unfold sortU; rw [mem_insU, mem_sortU (l := r), List.mem_cons]
theorem insU_pw (x : Int) : ∀ l : List Int, l.Pairwise (· < ·) → (insU x l).Pairwise (· < ·)
  | [], _ => List.pairwise_singleton _ _
  | z :: r, h => by
    obtain ⟨h1, h2⟩ := List.pairwise_cons.mp h
    unfold insU
    split
    · rename_i c
      exact List.pairwise_cons.mpr ⟨fun y hy => by
        rcases List.mem_cons.mp hy with rfl | hy
        · exact c
        · exact Int.lt_trans c (h1 y hy), h⟩
    · split
      · exact h
      · rename_i c1 c2
        refine List.pairwise_cons.mpr ⟨fun y hy => ?_, insU_pw x r h2⟩
        rcases (mem_insU x y r).mp hy with rfl | hy
        · omega
        · exact h1 y hy
theorem sortU_pw : ∀ l, (sortU l).Pairwise (· < ·)
  | [] => .nil
  | x :: r => insU_pw x _ (sortU_pw r)
theorem lt_unique : ∀ {l m : List Int}, l.Pairwise (· < ·) → m.Pairwise (· < ·) → (∀ k, k ∈ l ↔ k ∈ m) → l = m
  | [], [], _, _, _ => rfl
  | [], y :: m, _, _, h => by simpa using (h y).mpr List.mem_cons_self
  | x :: l, [], _, _, h => by simpa using (h x).mp List.mem_cons_self
  | x :: l, y :: m, h1, h2, h => by
    obtain ⟨a1, a2⟩ := List.pairwise_cons.mp h1
    obtain ⟨b1, b2⟩ := List.pairwise_cons.mp h2
    have e : x = y := by
      rcases List.mem_cons.mp ((h x).mp List.mem_cons_self) with e | hx
      · exact e
      · rcases List.mem_cons.mp ((h y).mpr List.mem_cons_self) with e | hy
        · exact e.symm
        · have := b1 x hx
          have := a1 y hy
          omega
    subst e
    refine congrArg _ (lt_unique a2 b2 fun k => ?_)
    constructor
    · intro hk
      rcases List.mem_cons.mp ((h k).mp (List.mem_cons_of_mem _ hk)) with e | hx
      · exact absurd (a1 k hk) (by omega)
      · exact hx
    · intro hk
      rcases List.mem_cons.mp ((h k).mpr (List.mem_cons_of_mem _ hk)) with e | hx
      · exact absurd (b1 k hk) (by omega)
      · exact hx
theorem setR_size {w : World} {h : Heap} {a : Addr} {ns : List Int} {c : Nat} (R : SetR w h a (fun j => decide (j ∈ ns)) c) : c = (sortU ns).length := by
  obtain ⟨o, es, ep, t, _, _, _, _, hn, hm, _, _, hz, _⟩ := R
  have hp : (es.toList.map keyOf).Perm (sortU ns) := (List.perm_ext_iff_of_nodup hn ((sortU_pw ns).imp (fun h => by omega))).mpr fun k => by
    rw [← hm k, mem_sortU]; simp
  have := hp.length_eq
  rw [List.length_map, Array.length_toList] at this
  omega
/-- set(..) of a list or a tuple of numbers -/
def rSetOI (K : PySem.W.Frag) (w : World) : List V → Hp → VK → Prop := fun xs H Q => ∃ (l : Addr) (ns : List Int), xs = [V.ref l] ∧ (SqL K H l (ns.map V.int) ∨ SqT K H l (ns.map V.int)) ∧ ns.length ≤ 1000 ∧
  ∀ p, H p = none → Q (.ref p) (upd H p (SetO w p (fun j => decide (j ∈ ns)) (sortU ns).length))
section
variable {X : Cx}
theorem cr_setOI (hc : X.calm = true) : CallR X (.type "set") (rSetOI X.K X.w) := by
  intro pins s σ H xs us Q I r h
  obtain ⟨l, ns, rfl, hs, hz, q⟩ := h
  rw [Vals.ref1 r]
  have fin : ∀ (h' : Heap) (tk c : Nat), SetR X.w h' s.heap.objs.size (fun j => decide (j ∈ ns)) c → (∀ b o, s.heap.get? b = some o → h'.get? b = some o) →
      ∃ x H', Inv X pins σ H' { s with heap := h', toks := tk } ∧ RelV x (.ref s.heap.objs.size) ∧ Q x H' := fun h' tk c R k => by
    have e := setR_size R
    subst e
    exact ⟨.ref _, upd H s.heap.objs.size (SetO X.w s.heap.objs.size (fun j => decide (j ∈ ns)) (sortU ns).length), I.laid (t' := tk) k (Nat.le_refl _) (setO_new R), rfl, q _ (I.hok.fresh (Nat.le_refl _))⟩
  rcases hs with hs | hs
  · obtain ⟨its, rv, pl, _⟩ := I.list hs
    exact set_of_ints ns (I.ok.hd hc) pl.isList rv.ints (by unfold scanBound; omega) fin
  · obtain ⟨its, rv, pl, _⟩ := I.tuple hs
    exact call_set_tupI ns (I.ok.hd hc) (show s.heap.IsTuple l its.toArray from pl) rv.ints (by unfold scanBound; omega) fun h' tk c R _ k => fin h' tk c R k
/-! ### over data -/
def setI : D → Option (List Int)
  | .lst ds => match intsOf ds with | some is => if is.length ≤ 1000 then some (sortU is) else none | none => none
  | .tup ds => match intsOf ds with | some is => if is.length ≤ 1000 then some (sortU is) else none | none => none
  | _ => none
def nSortSet (x : D) : Option (List D) := match setI x with
  | some is => if is.length < 64 then some (is.map D.int) else none
  | none => none
def opLenSet (x : D) : Option D := match setI x with
  | some is => some (.int is.length)
  | none => none
/-- len of a set -/
def rLenSet (w : World) : List V → Hp → VK → Prop := fun vs H Q => ∃ (a : Addr) (S : Int → Bool) (n : Nat), vs = [V.ref a] ∧ H a = some (SetO w a S n) ∧ Q (.int n) H
theorem cr_lenSet : CallR X (.builtin "len") (rLenSet X.w) := by
  intro pins s σ H vs us Q I r h
  obtain ⟨a, S, n, rfl, ha, q⟩ := h
  obtain ⟨o, es, ep, t, ho, hex, hd, _, _, _, hb, hf, hn, _⟩ := setO_get I ha
  rw [Vals.ref1 r]
  subst hn
  refine call_len_set ho hex hd hf (by unfold scanBound at hb; omega) ?_
  exact ⟨.int _, H, (I.tok _).tok _, ⟨_, rfl⟩, q⟩
def rThen (r0 r1 : List V → Hp → VK → Prop) : List V → Hp → VK → Prop := fun xs H Q => r0 xs H fun y H1 => r1 [y] H1 Q
/-- a rule for a new list on a grown heap -/
def VN1G (g : G) (r : V → Hp → VK → Prop) (op : D → Option (List D)) : Prop := ∀ (H F : Hp) (v : V) (d : D) (zs : List D), Same F H → Br g F H v d → op d = some zs → ∀ Q : VK, (∀ p vs H', Grow H F H' F → H' p = none → Rl g F vs zs → Q (.ref p) (upd H' p (.lst vs))) → r v H Q
variable {g : G} {W : WX} {P : Par} {σ : L2.St} {H F : Hp} {st : DSt} {e : Expr} {f : Den D}
theorem finNG {r : V → Hp → VK → Prop} {op : D → Option (List D)} (vo : VN1G g r op) {v : V} {x : D} {Q : VK} (s : SR g P σ H F st) (rx : Br g F H v x) (o : OutN g W P σ F (liftO (op x) st) Q) : r v H Q := by
  cases ez : op x with
  | none => rw [ez] at o; exact o.elim
  | some zs =>
    rw [ez] at o
    exact vo H F v x zs s.le rx ez Q fun p vs H' gr hp rv => o _ F p vs (Same.refl _) ((s.grow gr).newx hp) upd_same rv
theorem evNG {r : List V → Hp → VK → Prop} {op : D → Option (List D)} (vo : VN1G g (fun v => r [v]) op) (he : PE X e (tCB r (tCons (tE g W f) tNil))) : PE X e (tN g W (dN1 op f)) := he.imp fun σ H Q ⟨P, F, st, s, o⟩ =>
  ⟨P, F, st, s, o.bind.imp fun x st1 H1 F1 le1 s1 o1 v rx => finNG vo s1 (.inl rx) o1⟩
theorem evNGn {r : List V → Hp → VK → Prop} {i : Nat} {op : D → Option (List D)} (vo : VN1G g (fun v => r [v]) op) (he : PE X e (tCB r (tCons (tVar i) tNil))) : PE X e (tN g W (dN1n op i)) := he.imp fun σ H Q ⟨P, F, st, s, o⟩ => by
  obtain ⟨v, d, hv, rx, o1⟩ := o.rd s
  exact ⟨v, hv, finNG vo s rx o1⟩
theorem setI_at {H F : Hp} {v : V} {d : D} {is : List Int} (le : Same F H) (rd : Br g F H v d) (hz : setI d = some is) : ∃ (l : Addr) (ns : List Int), v = .ref l ∧ (SqL g.K H l (ns.map V.int) ∨ SqT g.K H l (ns.map V.int)) ∧ ns.length ≤ 1000 ∧ is = sortU ns := by
  cases d with
  | lst ds =>
    unfold setI at hz
    cases hi : intsOf ds with
    | none => simp only [hi] at hz; cases hz
    | some ns =>
      simp only [hi] at hz
      split at hz
      · rename_i hl
        cases hz
        have := intsOf_eq hi
        subst this
        obtain ⟨a, vs, rfl, h1, r1⟩ := rd.lst le
        have := r1.ints
        subst this
        exact ⟨a, ns, rfl, .inl (sqL_of h1), hl, rfl⟩
      · cases hz
  | tup ds =>
    unfold setI at hz
    cases hi : intsOf ds with
    | none => simp only [hi] at hz; cases hz
    | some ns =>
      simp only [hi] at hz
      split at hz
      · rename_i hl
        cases hz
        have := intsOf_eq hi
        subst this
        obtain ⟨a, vs, rfl, h1, r1⟩ := rd.tup le
        have := r1.ints
        subst this
        exact ⟨a, ns, rfl, .inr h1, hl, rfl⟩
      · cases hz
  | non => cases hz
  | bl _ => cases hz
  | int _ => cases hz
  | str _ => cases hz
  | ins _ _ _ => cases hz
  | scr _ => cases hz
theorem vn_sortSet {w : World} : VN1G g (fun v => rThen (rSetOI g.K w) (rSortedSet w) [v]) nSortSet := by
  intro H F v d zs le rd hz Q q
  unfold nSortSet at hz
  cases hi : setI d with
  | none => rw [hi] at hz; cases hz
  | some is =>
    rw [hi] at hz
    by_cases hl : is.length < 64
    · have hz : some (is.map D.int) = some zs := by rw [← hz]; simp [hl]
      cases hz
      obtain ⟨l, ns, rfl, hs, hn, rfl⟩ := setI_at le rd hi
      refine ⟨l, ns, rfl, hs, hn, fun p hp => ⟨p, _, _, rfl, upd_same, hl, fun out u hpw hm _ hu => ?_⟩⟩
      have e : out = sortU ns := lt_unique hpw (sortU_pw ns) fun k => by rw [hm k, mem_sortU]; simp
      subst e
      exact q u _ _ (Grow.new0 le hp) hu (Rl.of_ints _)
    · have hz : none = some zs := by rw [← hz]; simp [hl]
      cases hz
theorem vo_lenSet {w : World} : VOC g (rThen (rSetOI g.K w) (rLenSet w)) opLenSet := by
  intro H F v d z le rd hz Q q
  unfold opLenSet at hz
  cases hi : setI d with
  | none => rw [hi] at hz; cases hz
  | some is =>
    rw [hi] at hz
    cases hz
    obtain ⟨l, ns, rfl, hs, hn, rfl⟩ := setI_at le rd hi
    exact ⟨l, ns, rfl, hs, hn, fun p hp => ⟨p, _, _, rfl, upd_same, q _ _ _ (Grow.new0 le hp) (.int _)⟩⟩
end
end DL

namespace DL
open PySem PySem.Spec PyProof.Rows L2
section
variable {X : Cx} {g : G} {W : WX} {e : Expr} {f : Den D} {r0 r1 : List V → Hp → VK → Prop} {i : Nat}
theorem evNG2 {op : D → Option (List D)} (vo : VN1G g (fun v => rThen r0 r1 [v]) op) (he : PE X e (tCB r1 (tCons (tCB r0 (tCons (tE g W f) tNil)) tNil))) : PE X e (tN g W (dN1 op f)) := evNG (r := rThen r0 r1) vo he
theorem evNG2n {op : D → Option (List D)} (vo : VN1G g (fun v => rThen r0 r1 [v]) op) (he : PE X e (tCB r1 (tCons (tCB r0 (tCons (tVar i) tNil)) tNil))) : PE X e (tN g W (dN1n op i)) := evNGn (r := rThen r0 r1) vo he
theorem evc12 {op : D → Option D} (vo : VOC g (rThen r0 r1) op) (he : PE X e (tCB r1 (tCons (tCB r0 (tCons (tE g W f) tNil)) tNil))) : PE X e (tE g W (dOp1 op f)) := evc1 (r := rThen r0 r1) vo he
theorem evc12n {op : D → Option D} (vo : VOC g (rThen r0 r1) op) (he : PE X e (tCB r1 (tCons (tCB r0 (tCons (tVar i) tNil)) tNil))) : PE X e (tE g W (dOp1n op i)) := evc1n (r := rThen r0 r1) vo he
end
/-! ### xs.extend(a tuple) -/
theorem ext_tup (l : Addr) (items : Array Value) (n : Nat) (b : Addr) (its2 : Array Value) (h1 : ¬(!items.isEmpty && Builtin.List.listTooLong (items.size + its2.size)) = true) (h2 : items.size ≤ sizeLine) (h3 : items.size + its2.size ≤ sizeLine + 1) :
    Meets (Builtin.«list.extend» ⟨[.ref l, .ref b], []⟩) (fun _ R s => s.heap.get? l = some (seqObj "list" items n) ∧ s.heap.IsTuple b its2 ∧ R (.ok (.ret Value.none)) { s with heap := s.heap.update l (Obj.mapSeq fun x => x ++ its2) }) :=
  .of_wp fun prog w A R s h => by
    obtain ⟨hl, ⟨o, ho, hc, m, hd⟩, h⟩ := h
    unfold Builtin.«list.extend»
    refine wpAny_bind (m := selfAndOne "list.extend" _) (wpAny_pure ?_)
    show wpAny _ _ (Builtin.List.listExtendWith (.ref l) (.ref b) .none) _ _ s
    unfold Builtin.List.listExtendWith
    refine wpAny_bind (wpAny_typeOf (T := "tuple") ⟨o, ho, hc⟩ ?_)
    have ht : (Value.type "tuple" == Value.type "tuple") = true := by rfl
    rw [if_pos (by rw [ht]; simp)]
    refine wpAny_bind (listItems_at ho hd ?_)
    refine wpAny_bind (listItems_at hl rfl ?_)
    rw [if_neg h1]
    refine wpAny_bind (listUpdate_at hl rfl ?_ h2 (by show (items ++ its2).size ≤ sizeLine + 1; rw [Array.size_append]; exact h3))
    exact wpAny_pure ⟨_, rfl, h⟩
section
variable {X : Cx}
def rExtendT (K : PySem.W.Frag) : V → List V → Hp → VK → Prop := fun x vs H Q => ∃ l b xs zs, x = .ref l ∧ vs = [.ref b] ∧ H l = some (.lst xs) ∧ SqT K H b zs ∧ xs.length + zs.length ≤ sizeLine ∧ Q .non (upd H l (.lst (xs ++ zs)))
theorem mt_extendT : MtM X "list.extend" (rExtendT X.K) := by
  intro pins s σ H x vs v us Q I rx rv h
  obtain ⟨l, b, xs, zs, rfl, rfl, hH, hB, hz, q⟩ := h
  cases rx
  obtain ⟨u, rfl, ru⟩ := rv.one
  cases ru
  obtain ⟨z, its, n, r, hl, e⟩ := I.lstM hH
  obtain ⟨its2, r2, pl, _⟩ := I.tuple hB
  have hl2 := r2.length
  have hsz : its.toArray.size + its2.toArray.size ≤ sizeLine := by rw [List.size_toArray, List.size_toArray]; omega
  have hlong : ¬ (!its.toArray.isEmpty && Builtin.List.listTooLong (its.toArray.size + its2.toArray.size)) = true := by
    rw [notLongL hsz, Bool.and_false]
    exact Bool.false_ne_true
  refine call_meets PySem.F.slot_list_extend ⟨_, e, rfl⟩ PySem.F.entry_list_extend (PySem.F.args_list_extend_2 _ _) (ext_tup l its.toArray n b its2.toArray hlong (by rw [List.size_toArray]; omega) (by omega)) ⟨e, pl, ?_⟩
  refine ⟨.non, _, I.lset (its' := its ++ its2) (t' := s.toks) hH e (by simp) (r.append r2) ?_, rfl, q⟩
  rw [List.length_append]
  omega
@[simp] def dExtend (i : Nat) (f : Den D) : Den D := bindD (dOw i) fun _ => bindD f fun y => mutD i fun ds => match y with
  | .tup es => if ds.length + es.length ≤ big then some (.non, ds ++ es) else none
  | _ => none
variable {g : G} {W : WX} {e : Expr} {f : Den D}
theorem ev_extend {i : Nat} (he : PE X e (tBM g.K "list" (rExtendT g.K) (tVar i) (tCons (tE g W f) tNil))) : PE X e (tE g W (dExtend i f)) := he.imp fun σ H Q ⟨P, F, st, s, o⟩ => by
  obtain ⟨ds, e, o1⟩ := Out.ow o
  obtain ⟨_, a, vs, h1, h2, h3, h4, h5, h6⟩ := s.owned e
  refine ⟨_, h1, .inl ⟨rfl, vs, sqL_of h2⟩, P, F, st, s, o1.bind.imp fun y st1 H1 F1 le1 s1 o2 v rv => ?_⟩
  obtain ⟨a', vs', ds', r, g1, g2, g3, g4, g5⟩ := Out.mut s1 o2
  rw [h1] at g1; cases g1
  cases y with
  | tup es =>
    simp only at g4
    split at g4
    · rename_i hl
      cases g4
      obtain ⟨b, ws, rfl, hb, rb⟩ := (show Br g F1 H1 v (.tup es) from .inl rv).tup s1.le
      obtain ⟨st2, s2, k⟩ := g5 (vs' ++ ws) (g3.append rb)
      exact ⟨a, b, vs', ws, rfl, rfl, g2, hb, by rw [g3.length, rb.length, ← big_eq]; exact hl, k _ .non⟩
    · cases g4
  | _ => cases g4
end
theorem sIf_or {a b : Den Bool} {t e : DS} : sIf (dOr a b) t e = sIf a t (sIf b t e) := by
  funext st
  simp only [sIf, dOr, bindD]
  cases a st with
  | ok x st1 => cases x <;> rfl
  | _ => rfl
theorem sIf_and {a b : Den Bool} {t e : DS} : sIf (dAnd a b) t e = sIf a (sIf b t e) e := by
  funext st
  simp only [sIf, dAnd, bindD]
  cases a st with
  | ok x st1 => cases x <;> rfl
  | _ => rfl
section
variable {γ : Type} {X : Bool} {K : γ → Fl → DSt → Prop} {st : DSt} {o : M γ} {a b : Den Bool} {t e r : DS}
theorem rs_or (h : RS X (sSeq (sIf a t (sIf b t e)) r) st o K) : RS X (sSeq (sIf (dOr a b) t e) r) st o K := by rw [sIf_or]; exact h
theorem rs_and (h : RS X (sSeq (sIf a (sIf b t e) e) r) st o K) : RS X (sSeq (sIf (dAnd a b) t e) r) st o K := by rw [sIf_and]; exact h
end
theorem re_iteF {α δ : Type} {w : α → δ} {st : DSt} {a b : Den δ} {x : Bool} {o1 o2 : M α} {S : Bool → DSt} (h1 : RE a st o1 w (S true)) (h2 : RE b st o2 w (S false)) : RE (if x = true then a else b) st (if x = true then o1 else o2) w (S x) := by
  cases x with
  | true => exact h1
  | false => exact h2
/-! ### typed -/
def pSortSet (xs : List Int) : M (List Int) := if xs.length ≤ 1000 ∧ (sortU xs).length < 64 then .ok (sortU xs) else .stuck
def pLenSet (xs : List Int) : M Int := if xs.length ≤ 1000 then .ok (sortU xs).length else .stuck
theorem op_sortSetL {xs : List Int} : OP (nSortSet (eL eI xs)) (pSortSet xs) (List.map eI) := by
  unfold pSortSet
  have e : setI (eL eI xs) = if xs.length ≤ 1000 then some (sortU xs) else none := by
    show (match intsOf (xs.map eI) with | some is => if is.length ≤ 1000 then some (sortU is) else none | none => none) = _
    rw [show intsOf (xs.map eI) = some xs from intsOf_map _]
  by_cases h : xs.length ≤ 1000 ∧ (sortU xs).length < 64
  · rw [if_pos h]
    show nSortSet _ = some _
    unfold nSortSet
    rw [e]; simp only [h.1, h.2, if_true]
  · rw [if_neg h]; trivial
theorem op_sortSetT {xs : List Int} : OP (nSortSet (eT eI xs)) (pSortSet xs) (List.map eI) := by
  unfold pSortSet
  have e : setI (eT eI xs) = if xs.length ≤ 1000 then some (sortU xs) else none := by
    show (match intsOf (xs.map eI) with | some is => if is.length ≤ 1000 then some (sortU is) else none | none => none) = _
    rw [show intsOf (xs.map eI) = some xs from intsOf_map _]
  by_cases h : xs.length ≤ 1000 ∧ (sortU xs).length < 64
  · rw [if_pos h]
    show nSortSet _ = some _
    unfold nSortSet
    rw [e]; simp only [h.1, h.2, if_true]
  · rw [if_neg h]; trivial
theorem op_lenSetL {xs : List Int} : OP (opLenSet (eL eI xs)) (pLenSet xs) eI := by
  unfold pLenSet
  have e : setI (eL eI xs) = if xs.length ≤ 1000 then some (sortU xs) else none := by
    show (match intsOf (xs.map eI) with | some is => if is.length ≤ 1000 then some (sortU is) else none | none => none) = _
    rw [show intsOf (xs.map eI) = some xs from intsOf_map _]
  by_cases h : xs.length ≤ 1000
  · rw [if_pos h]
    show opLenSet _ = some _
    unfold opLenSet
    rw [e, if_pos h]
  · rw [if_neg h]; trivial
theorem op_lenSetT {xs : List Int} : OP (opLenSet (eT eI xs)) (pLenSet xs) eI := by
  unfold pLenSet
  have e : setI (eT eI xs) = if xs.length ≤ 1000 then some (sortU xs) else none := by
    show (match intsOf (xs.map eI) with | some is => if is.length ≤ 1000 then some (sortU is) else none | none => none) = _
    rw [show intsOf (xs.map eI) = some xs from intsOf_map _]
  by_cases h : xs.length ≤ 1000
  · rw [if_pos h]
    show opLenSet _ = some _
    unfold opLenSet
    rw [e, if_pos h]
  · rw [if_neg h]; trivial
def pExt {α : Type} (xs zs : List α) : M (List α) := if xs.length + zs.length ≤ big then .ok (xs ++ zs) else .stuck
section
variable {α : Type} {e : α → D} {st st1 : DSt} {i : Nat} {xs : List α} {f : Den D}
theorem x_extP {ys : List α} (h : st[i]? = some (.ow (xs.map e))) (hf : RV f st (eT e ys) st1) (h1 : st1[i]? = some (.ow (xs.map e))) : RX (sExpr (dExtend i f)) st (pExt xs ys) (fun zs => st1.set i (.ow (zs.map e))) := by
  unfold pExt
  by_cases hl : xs.length + ys.length ≤ big
  · rw [if_pos hl]
    show sExpr (dExtend i f) st = _
    simp only [sExpr, dExtend, bindD, dOw, h, mutD, liftO, setOw, retD]
    rw [show f st = _ from hf]
    simp only [eT, h1, List.length_map, hl, if_true, List.map_append]
  · rw [if_neg hl]; trivial
theorem x_extG {o : M (List α)} (h : st[i]? = some (.ow (xs.map e))) (hf : RE f st o (eT e) st1) (h1 : st1[i]? = some (.ow (xs.map e))) : RX (sExpr (dExtend i f)) st (o.bind fun y => pExt xs y) (fun ys => st1.set i (.ow (ys.map e))) := by
  cases o with
  | ok y => exact x_extP h hf h1
  | exn c fs => obtain ⟨s, hf⟩ := hf; exact ⟨s, by simp only [sExpr, dExtend, bindD, dOw, h]; rw [hf]⟩
  | stuck => trivial
end
end DL

namespace DL
open PySem PySem.Spec PyProof.Rows L2
/-! ### a comprehension's name that held a list: the list is looked upon as data first -/
def preSt (i : Nat) (st : DSt) : DSt := match st[i]? with
  | some (.ow ds) => st.set i (.sh (.lst ds))
  | some (.o2 dss) => st.set i (.sh (.lst (dss.map .lst)))
  | _ => st
def dPre {α : Type} (i : Nat) (f : Den α) : Den α := fun st => f (preSt i st)
section
variable {X : Cx} {g : G} {W : WX} {P : Par} {σ : L2.St} {H F : Hp} {st : DSt} {e : Expr}
theorem SR.pre {i : Nat} (s : SR g P σ H F st) : ∃ F', Same F F' ∧ SR g P σ H F' (preSt i st) := by
  unfold preSt
  split
  · rename_i ds h
    obtain ⟨a, F', _, h2, _, h4⟩ := s.freeze h
    exact ⟨F', h2, h4⟩
  · rename_i dss h
    obtain ⟨a, F', _, h2, _, h4⟩ := s.freeze2 h
    exact ⟨F', h2, h4⟩
  · exact ⟨F, Same.refl _, s⟩
theorem ev_pre {i : Nat} {f : Den (List D)} (he : PE X e (tN g W f)) : PE X e (tN g W (dPre i f)) := he.imp fun σ H Q ⟨P, F, st, s, o⟩ => by
  obtain ⟨F', h1, h2⟩ := s.pre (i := i)
  exact ⟨P, F', preSt i st, h2, OutN.weak h1 o⟩
end
/-! typed -/
section
variable {α β δ : Type} {f : Den δ} {st st1 st2 : DSt} {i : Nat}
theorem rv_pre {y : δ} (e : preSt i st = st1) (h : RV f st1 y st2) : RV (dPre i f) st y st2 := by subst e; exact h
theorem re_pre {o : M α} {v : α → δ} (e : preSt i st = st1) (h : RE f st1 o v st2) : RE (dPre i f) st o v st2 := by subst e; exact h
theorem rt_pre {τ : Type} {o : M (α × τ)} {v : α → δ} {S : τ → DSt} (e : preSt i st = st1) (h : RT f st1 o v S) : RT (dPre i f) st o v S := by subst e; exact h
theorem pre_fz {z : Bool} {ds : List D} (h : st[i]? = some (fz z ds)) : preSt i st = st.set i (.sh (.lst ds)) := by
  cases z with
  | true => unfold preSt; rw [h]; rfl
  | false =>
    unfold preSt; rw [h]
    show st = st.set i (.sh (.lst ds))
    have hi : i < st.length := (List.getElem?_eq_some_iff.mp h).1
    have e : st[i] = .sh (.lst ds) := (List.getElem?_eq_some_iff.mp h).2
    rw [← e, List.set_getElem_self]
/-- nothing, a value or a list -/
def jw : Option (D ⊕ List D) → Slot
  | none => .no
  | some (.inl d) => .sh d
  | some (.inr ds) => .ow ds
def jwD : Option (D ⊕ List D) → Option D
  | none => none
  | some (.inl d) => some d
  | some (.inr ds) => some (.lst ds)
theorem pre_jw {x : Option (D ⊕ List D)} (h : st[i]? = some (jw x)) : preSt i st = st.set i (jk (jwD x)) := by
  have same : ∀ s, st[i]? = some s → st = st.set i s := fun s h => by
    have hi : i < st.length := (List.getElem?_eq_some_iff.mp h).1
    have e : st[i] = s := (List.getElem?_eq_some_iff.mp h).2
    rw [← e, List.set_getElem_self]
  match x, h with
  | none, h => unfold preSt; rw [h]; exact same _ h
  | some (.inl d), h => unfold preSt; rw [h]; exact same _ h
  | some (.inr ds), h => unfold preSt; rw [h]; rfl
theorem pre_jk {x : Option D} (h : st[i]? = some (jk x)) : preSt i st = st := by
  unfold preSt; rw [h]; cases x <;> rfl
end
/-! ### a value looked at from outside: any data without lists -/
def pNol (d : D) : M D := if nol d = true then .ok d else .stuck
theorem re_peekD {f : Den D} {st st' : DSt} {o : M D} (h : RE f (st.map frzS) o eD st') : RE (dPeek f) st ((pNX o).bind pNol) eD st := by
  cases o with
  | ok c =>
    show RE _ _ (pNol c) _ _
    unfold pNol
    split
    · rename_i hn
      exact rv_peek h hn
    · trivial
  | exn c fs => trivial
  | stuck => trivial
theorem rv_peekD {f : Den D} {st st' : DSt} {d : D} (h : RV f (st.map frzS) d st') : RE (dPeek f) st (pNol d) eD st := by
  unfold pNol
  split
  · rename_i hn; exact rv_peek h hn
  · trivial
end DL

namespace DL
open PySem PySem.Calls PySem.Spec PyProof.Rows L2
/-! ### == and != by an own __eq__, either answer -/
section
variable {prog : Program} {w : World} {A : Around} {E : Value → Shared → Prop} {s : Shared} {K : PySem.W.Frag} {h₀ : Heap} {L x C f : Addr} {m : Str → Option Value} {ox : Obj} {b tb : Value}
theorem ifBoundB_K {M : Model} {od} {id : String} {name : Str} {args : List Value} {Q : Option Value → Shared → Prop} (X : K.In s.heap) (I : PySem.W.InstAt s.heap x ox C od) (hs : PySem.W.findIn K (.ref C) name = some (some (.builtin id)))
    (hb : ∀ self, bindSpecial (.builtin id) self = pure (.builtin id, [self]))
    (h : wpAny M A (call (.builtin id) (.ref x :: args)) (fun v => Q (some v)) E s) : wpAny M A (callSpecialIfBound? (.ref x) name args) Q E s := by
  simp only [callSpecialIfBound?, bindSpecialIfBound?]
  refine wpAny_holding (wpAny_bind (wpAny_bind (wpAny_bind (I.type.here ((PySem.W.looks_findIn X hs).here ?_)))))
  simp only [hb]
  refine wpAny_bind (wpAny_askSetting (wpAny_ite ?_))
  have fin : wpAny M A (call (.builtin id) ([.ref x] ++ args) >>= fun v => pure (some v)) Q E s := wpAny_bind (wpAny_mono h (fun v s' h' => wpAny_pure h') fun _ _ h' => h')
  split
  · exact wpAny_bind (wpAny_pure (wpAny_pure fin))
  · exact wpAny_tryCatch (wpAny_bind (wpAny_pure (wpAny_pure fin)))
theorem objNe_K {od} {Q : Fin → Shared → Prop} (X : K.In s.heap) (I : PySem.W.InstAt s.heap x ox C od) (hs : PySem.W.findIn K (.ref C) "__eq__" = some (some (.ref f))) (hf : PySem.W.isFn K (.ref f) = true) (hu : A.units < cLine)
    (hcall : wpAny (model prog w) A (call (.ref f) [.ref x, b]) (fun v s' => ∃ b, v = .bool b ∧ Q (.done (.ret (.bool (!b)))) s') E s) :
    wpAny (model prog w) A (Builtin.«object.__ne__» ⟨[.ref x, b], []⟩) Q E s := by
  unfold Builtin.«object.__ne__»
  repeat (first
    | with_reducible refine wpAny_cRoomFor hu ?_
    | (refine wpAny_bind (m := callSpecialIfBound? (.ref x) (Str.ofString "__eq__") [b])
        (PySem.W.ifBound_K X I hs hf (wpAny_mono hcall (fun r s' hr => by
          obtain ⟨b, rfl, hq⟩ := hr
          repeat (first | exact hq | exact wpAny_pure hq | exact wpAny_truthy_bool hq | (refine wpAny_bind (m := truthy (.bool _)) (wpAny_truthy_bool ?_)) | wp_step)) fun _ _ e => e)))
    | wp_step)
theorem cmpNe_K {od} {Q : Value → Shared → Prop} (hu : A.units + 1 < cLine) (F : Fr h₀ L s.heap m) (X₀ : K.In h₀) (I : PySem.W.InstAt s.heap x ox C od) (hb : PySem.W.Looks (model prog w) s.heap (typeOf b) tb) (hn : PySem.W.notFirst K C tb = true)
    (hs : PySem.W.findIn K (.ref C) "__eq__" = some (some (.ref f))) (hf : PySem.W.isFn K (.ref f) = true)
    (hne : PySem.W.findIn K (.ref C) "__ne__" = some (some (.builtin "object.__ne__"))) (hob : PySem.W.subIn K (.ref C) (.type "object") = some true)
    (h : wpAny (model prog w) A.in1 (call (.ref f) [.ref x, b]) (fun v s' => ∃ b, v = .bool b ∧ Q (.bool (!b)) s') E s) : wpAny (model prog w) A (richCompare .NotEq (.ref x) b) Q E s := by
  have X := X₀.keeps F.keep
  have one : wpAny (model prog w) A (tryCompare (.ref x) "__ne__" b) (fun r s' => ∃ v, r = some v ∧ Q v s') E s := by
    unfold tryCompare
    refine wpAny_bind (ifBoundB_K X I hne PySem.F.cmp_object.ne.bind (wpAny_call (codeAny_call_builtin PySem.F.cmp_object.ne.plain PySem.F.cmpEntry_ne
      (PySem.W.check_slot PySem.F.cmpKind_ne PySem.F.cmpSplit_ne (I.type.andThen (PySem.W.looks_subIn X hob)) (PySem.F.cmpArgs_ne _ _)
        (objNe_K (A := A.in1) X I hs hf hu (wpAny_mono h (fun v s' hv => ?_) fun _ _ e => e))))))
    obtain ⟨b, rfl, hq⟩ := hv
    first | exact ⟨b, rfl, wpAny_pure ⟨_, rfl, hq⟩⟩ | exact ⟨b, rfl, wpAny_pure (wpAny_pure ⟨_, rfl, hq⟩)⟩ | exact ⟨b, rfl, ⟨_, rfl, hq⟩⟩
  unfold richCompare
  simp only [oneThing_ref]
  refine wpAny_holding (wpAny_bind (wpAny_cRoomFor (Nat.lt_of_succ_lt hu) ?_))
  rw [cmpInfo_NotEq]
  dsimp only
  refine wpAny_bind (I.type.here (wpAny_bind (hb.here ?_)))
  split
  · rename_i q
    have e : PySem.W.subIn K tb (.ref C) = some false := by
      rcases Bool.or_eq_true_iff.mp hn with e | e
      · rw [beq_iff_eq.mp e] at q; simp at q
      · exact beq_iff_eq.mp e
    refine wpAny_bind ((PySem.W.looks_subIn X e).here ?_)
    simp only [Bool.false_eq_true, if_false]
    refine wpAny_bind (wpAny_mono one (fun r s' z => ?_) fun _ _ e => e)
    obtain ⟨v, rfl, hq⟩ := z
    exact wpAny_pure hq
  · refine wpAny_bind (wpAny_pure ?_)
    simp only [Bool.false_eq_true, if_false]
    refine wpAny_bind (wpAny_mono one (fun r s' z => ?_) fun _ _ e => e)
    obtain ⟨v, rfl, hq⟩ := z
    exact wpAny_pure hq
end
structure NfO (K : PySem.W.Frag) (C : Addr) : Prop where
  n1 : PySem.W.notFirst K C (.type "NoneType") = true
  n2 : PySem.W.notFirst K C (.type "tuple") = true
  ne : PySem.W.findIn K (.ref C) "__ne__" = some (some (.builtin "object.__ne__"))
  ob : PySem.W.subIn K (.ref C) (.type "object") = some true
def tyO (K : PySem.W.Frag) (C : Addr) (y : V) (H : Hp) : Prop := y = .non ∨ ∃ b, y = .ref b ∧ ((∃ dy gs, H b = some (.ins C dy gs)) ∨ (∃ ys, SqT K H b ys))
def rOwn (K : PySem.W.Frag) (C : Addr) (sp : Sp) (ng : Bool → Bool) : R2 := fun x y H Q => ∃ a dx fs, x = .ref a ∧ H a = some (.ins C dx fs) ∧ tyO K C y H ∧ sp [x, y] H (fun v H' => ∃ b, v = .bl b ∧ Q (.bl (ng b)) H') E0
section
variable {X : Cx} {n lvl : Nat} {C f : Addr} {m : Str} {ps : List Str} {sp : Sp}
theorem run_own {fd : FuncData} {A : Around} {pins : List (Addr × Obj)} {s : Shared} {σ : L2.St} {H : Hp} {vs : List V} {us : List Value} {Q : VK} (F : FnOk X.prog X.w X.K X.mg X.base (L2.CX X.prog X.w) n f fd ps sp) (hb : Binds X.K fd ps []) (rm : Room n A) (fr : A.frames = X.A.frames)
    (I : Inv X pins σ H s) (r : Vals vs us) (hsp : sp vs H Q E0) : wpAny (model X.prog X.w) A (call (.ref f) us) (EP X pins σ Q) X.xe s := by
  have e0 : Env0 X.prog X.w X.K X.mg X.base A X.stack s H := by
    have e := I.env0
    exact ⟨by rw [fr]; exact e.frames, e.mod, e.bs, e.bsz, e.funs, e.frf, e.hok, e.bare⟩
  have hl := F.len _ _ _ _ hsp
  refine wpAny_call (codeAny_mono (F.run A X.stack s H ⟨us, []⟩ us vs _ E0 rm e0 (by
    have := hb s us I.kIn (by simpa [r.length] using hl)
    simpa using this) r hsp) fun r s' hq => ?_)
  cases r with
  | error e => exact passL pins σ H s e s' I hq
  | ok fl =>
    cases fl with
    | ret w => exact I.after hq
    | next => exact False.elim hq
    | brk => exact False.elim hq
    | cont => exact False.elim hq
theorem look_o {pins : List (Addr × Obj)} {s : Shared} {σ : L2.St} {H : Hp} {y : V} {u : Value} (no : NfO X.K C) (I : Inv X pins σ H s) (ry : RelV y u) (ty : tyO X.K C y H) :
    ∃ tb, PySem.W.Looks (model X.prog X.w) s.heap (typeOf u) tb ∧ PySem.W.notFirst X.K C tb = true := by
  rcases ty with rfl | ⟨b, rfl, ⟨dy, gs, hb⟩ | ⟨ys, hq⟩⟩
  · cases (show u = .none from ry)
    exact ⟨.type "NoneType", PySem.W.Looks.of_pure (by kernel_rfl), no.n1⟩
  · cases ry
    obtain ⟨mB, J', _⟩ := ins_get I.hok hb
    obtain ⟨od', J', _⟩ := J'.look
    exact ⟨_, J'.type, by simp [PySem.W.notFirst]⟩
  · cases ry
    obtain ⟨its, r, ⟨o, ho, hc, _⟩, hz⟩ := I.tuple hq
    exact ⟨.type "tuple", hc ▸ (PySem.W.Looks.ld ho).andThen .now, no.n2⟩
theorem op_ownEq (F : Mf X.prog X.w X.K X.mg X.base C "__eq__" lvl f ps sp) (hr : Room lvl X.A) (no : NfO X.K C) : OpR X (compareOp .Eq) (rOwn X.K C sp id) := by
  intro pins s σ H x y v u Q I rx ry ⟨a, dx, fs, ex, ha, ty, hq⟩
  subst ex
  cases rx
  obtain ⟨tb, lk, nf⟩ := look_o no I ry ty
  obtain ⟨fd, G, b⟩ := F.ok
  obtain ⟨mA, J, _⟩ := ins_get I.hok ha
  obtain ⟨od, J, _⟩ := J.look
  obtain ⟨m, hF⟩ := I.fr
  show wpAny (model X.prog X.w) X.A (richCompare .Eq (.ref a) u) (EP X pins σ Q) X.xe s
  refine PySem.W.cmp_K (op := .Eq) hr.units0 hF I.ok.mod.kin J lk nf F.me.at_ F.me.fn (wpAny_mono (run_own G b hr rfl I (.cons (show RelV (.ref a) (.ref a) from rfl) (.cons ry .nil)) hq) (fun r s' z => ?_) fun _ _ e => e)
  obtain ⟨z, H', I', rz, b, ez, q⟩ := z
  subst ez
  cases rz
  exact ⟨.bl b, H', I', rfl, q⟩
theorem op_ownNe (F : Mf X.prog X.w X.K X.mg X.base C "__eq__" lvl f ps sp) (hr : Room (lvl + 1) X.A) (no : NfO X.K C) : OpR X (compareOp .NotEq) (rOwn X.K C sp not) := by
  intro pins s σ H x y v u Q I rx ry ⟨a, dx, fs, ex, ha, ty, hq⟩
  subst ex
  cases rx
  obtain ⟨tb, lk, nf⟩ := look_o no I ry ty
  obtain ⟨fd, G, b⟩ := F.ok
  obtain ⟨mA, J, _⟩ := ins_get I.hok ha
  obtain ⟨od, J, _⟩ := J.look
  obtain ⟨m, hF⟩ := I.fr
  have hu : X.A.units + 1 < cLine := by have := hr.in1.units0; exact this
  show wpAny (model X.prog X.w) X.A (richCompare .NotEq (.ref a) u) (EP X pins σ Q) X.xe s
  refine cmpNe_K hu hF I.ok.mod.kin J lk nf F.me.at_ F.me.fn no.ne no.ob (wpAny_mono (run_own G b hr.in1 rfl I (.cons (show RelV (.ref a) (.ref a) from rfl) (.cons ry .nil)) hq) (fun r s' z => ?_) fun _ _ e => e)
  obtain ⟨z, H', I', rz, b, ez, q⟩ := z
  subst ez
  cases rz
  exact ⟨_, rfl, .bl (!b), H', I', rfl, q⟩
end
def okY (c : Str) : D → Bool
  | .non => true
  | .tup _ => true
  | .ins c' _ _ => c' == c
  | _ => false
def opOwn (c : Str) (df : List D → M D) (ng : Bool → Bool) (x y : D) : Option D := match x with
  | .ins c' _ _ => if c' = c ∧ okY c y = true then (match df [x, y] with | .ok (.bl b) => some (.bl (ng b)) | _ => none) else none
  | _ => none
theorem vo_own {g : G} {c : Str} {C : Addr} {df : List D → M D} {ng : Bool → Bool} (k : g.mg c = some (.ref C)) : VO2 g (rOwn g.K C (spD g df) ng) (opOwn c df ng) := by
  intro H F v u d e z l rd re hz Q q
  unfold opOwn at hz
  split at hz
  · rename_i c' ns ds
    split at hz
    · rename_i hc
      obtain ⟨rfl, hy⟩ := hc
      have rd : Rv g F v (.ins c' ns ds) := by
        rcases rd with rd | ⟨_, _, _, _, ed, _⟩
        · exact rd
        · cases ed
      have re : Rv g F u e := by
        rcases re with re | ⟨_, _, _, _, ed, _⟩
        · exact re
        · subst ed; cases hy
      split at hz
      · rename_i b hd
        cases hz
        have rl : Rl g F [v, u] [.ins c' ns ds, e] := .cons rd (.cons re .nil)
        cases rd with
        | ins h1 h2 h3 h4 =>
          rw [k] at h2
          cases h2
          refine ⟨_, _, _, rfl, l _ _ h1, ?_, F, _, l, rl, ?_⟩
          · cases re with
            | non => exact .inl rfl
            | tup hs _ _ => exact .inr ⟨_, rfl, .inr ⟨_, sqT_mono l hs⟩⟩
            | ins g1 g2 _ _ =>
              have hy' := eq_of_beq hy
              subst hy'
              rw [k] at g2
              cases g2
              exact .inr ⟨_, rfl, .inl ⟨_, _, l _ _ g1⟩⟩
            | _ => cases hy
          · rw [hd]
            intro v H' F' gr rv
            cases rv
            exact ⟨_, rfl, q _ _ _ gr (.bl _)⟩
      · cases hz
    · cases hz
  · cases hz
def ownB (K : PySem.W.Frag) (c : Str) : Bool := He.eqO (PySem.W.findIn K (.ref (He.ga K c)) "__ne__") (some (some (.builtin "object.__ne__"))) && (decide (PySem.W.subIn K (.ref (He.ga K c)) (.type "object") = some true) &&
  (PySem.W.notFirst K (He.ga K c) (.type "NoneType") && PySem.W.notFirst K (He.ga K c) (.type "tuple")))
theorem ownB_ok {K : PySem.W.Frag} {c : Str} (h : ownB K c = true) : NfO K (He.ga K c) := by
  unfold ownB at h
  obtain ⟨h1, h⟩ := He.ba h
  obtain ⟨h2, h⟩ := He.ba h
  obtain ⟨h3, h4⟩ := He.ba h
  exact ⟨h3, h4, He.eqO_ok h1, of_decide_eq_true h2⟩
theorem o2_opt {α : Type} {e : α → D} {xss : List (List α)} {st : DSt} {i : Nat} (h : st[i]? = some (.o2 (xss.map (List.map e)))) : st[i]? = some (.o2 ((xss.map (List.map some)).map (List.map (eO e)))) := by
  rw [h, List.map_map]
  congr 2
  refine List.map_congr_left fun x _ => ?_
  simp only [Function.comp, List.map_map]
  exact List.map_congr_left fun _ _ => rfl
theorem op_DL {x : Option (List D)} : OP x (oM x) (List.map eD) := by
  have e : ∀ xs : List D, List.map eD xs = xs := fun xs => by induction xs with | nil => rfl | cons a t ih => show eD a :: List.map eD t = a :: t; rw [ih]
  cases x with
  | none => trivial
  | some y => show some y = some (List.map eD y); rw [e]
end DL

namespace DL
open PySem PySem.Spec PyProof.Rows L2
/-! ### index of a list or a tuple (where tuples are known) -/
@[simp] def isLT : D → Option Unit
  | .lst _ => some ()
  | .tup _ => some ()
  | _ => none
@[simp] def opIndexT (x y : D) : Option D := match x with
  | .tup ds => if flatD y && ds.all flatD then (match ixF (fun z => eqF z y) 0 ds with | some j => some (.int (j : Nat)) | none => none) else none
  | _ => none
@[simp] def opIndexA (k x y : D) : Option D := match k with
  | .lst _ => opIndex x y
  | .tup _ => opIndexT x y
  | _ => none
@[simp] def dIndexA (f h : Den D) : Den D := bindD f fun x => bindD (liftO (isLT x)) fun _ => bindD h fun y => liftO (opIndexA x x y)
@[simp] def dIndexAN (i : Nat) (h : Den D) : Den D := bindD (dRd i) fun k => bindD (liftO (isLT k)) fun _ => bindD h fun y => bindD (dRd i) fun x => liftO (opIndexA k x y)
section
variable {X : Cx} {g : G} {W : WX} {P : Par} {σ : L2.St} {H F : Hp} {st : DSt} {e : Expr} {f h : Den D}
theorem indexT_ok {v u : V} {x y z : D} {Q : VK} (le : Same F H) (rx : Br g F H v x) (ry : Rv g F u y) (hz : opIndexT x y = some z) (q : ∀ v, Rv g F v z → Q v H) : rIndexT g.K v [u] H Q := by
  cases x with
  | tup ds =>
    obtain ⟨a, vs, rfl, h1, r1⟩ := rx.tup le
    simp only [opIndexT] at hz
    split at hz
    · rename_i hf
      obtain ⟨f1, f2⟩ := Bool.and_eq_true_iff.mp hf
      split at hz
      · rename_i j hj
        cases hz
        obtain ⟨k, z, rfl, g1, g2, g3⟩ := ixF_some hj
        rw [Nat.zero_add] at q
        obtain ⟨w, h2, h3, h4⟩ := flat_hits ry f1 r1 f2 g1 g2 g3
        exact ⟨a, vs, u, k, w, rfl, rfl, h1, flat_rv ry f1, all_flat r1 f2, h2, h3, h4, q _ (.int _)⟩
      · cases hz
    · cases hz
  | _ => cases hz
theorem knT_rv {ds : List D} {v : V} (ht : g.tk = true) (le : Same F H) (rx : Br g F H v (.tup ds)) : ∃ a, v = .ref a ∧ KnT g.K H a := by
  rcases rx with rx | ⟨_, _, _, _, z, _⟩
  · cases rx with
    | tup _ k _ =>
      unfold TkP at k
      rw [ht] at k
      have k : KnT g.K _ _ := k
      exact ⟨_, rfl, k.mono le⟩
  · cases z
theorem ev_indexA (ht : g.tk = true) (he : PE X e (tBMA g.K (rIndexA g.K) (rIndexT g.K) (tE g W f) (tCons (tE g W h) tNil))) : PE X e (tE g W (dIndexA f h)) := he.imp fun σ H Q ⟨P, F, st, s, o⟩ =>
  ⟨P, F, st, s, o.bind.imp fun x st1 H1 F1 le1 s1 o1 v rx => by
    obtain ⟨u0, hx, q⟩ := Out.lift o1.bind
    cases x with
    | lst ds =>
      obtain ⟨a, vs, rfl, h1, r1⟩ := (show Br g F1 H1 v (.lst ds) from .inl rx).lst s1.le
      refine .inl ⟨.inl ⟨rfl, vs, sqL_of h1⟩, P, F1, st1, s1, Out.imp (Out.bind (q H1 F1 (Same.refl _) s1)) fun y st2 H2 F2 le2 s2 o2 u ry => ?_⟩
      obtain ⟨z, ez, q⟩ := o2.lift
      obtain ⟨_, _, _, _, fin⟩ := opIndex_ok s2.le (.inl (rx.mono le2)) ry ez (q H2 F2 (Same.refl _) s2)
      exact fin
    | tup ds =>
      refine .inr ⟨knT_rv ht s1.le (.inl rx), P, F1, st1, s1, Out.imp (Out.bind (q H1 F1 (Same.refl _) s1)) fun y st2 H2 F2 le2 s2 o2 u ry => ?_⟩
      obtain ⟨z, ez, q⟩ := o2.lift
      exact indexT_ok s2.le (.inl (rx.mono le2)) ry ez (q H2 F2 (Same.refl _) s2)
    | _ => cases hx⟩
theorem ev_indexAN {i : Nat} (ht : g.tk = true) (he : PE X e (tBMA g.K (rIndexA g.K) (rIndexT g.K) (tVar i) (tCons (tE g W h) tNil))) : PE X e (tE g W (dIndexAN i h)) := he.imp fun σ H Q ⟨P, F, st, s, o⟩ => by
  obtain ⟨v, x, hv, rx, o1⟩ := o.rd s
  obtain ⟨u0, hx, q⟩ := Out.lift o1.bind
  have o2 := q H F (Same.refl _) s
  cases x with
  | lst ds =>
    obtain ⟨a, vs, rfl, h1, r1⟩ := rx.lst s.le
    refine ⟨_, hv, .inl ⟨.inl ⟨rfl, vs, sqL_of h1⟩, P, F, st, s, o2.bind.imp fun y st2 H2 F2 le2 s2 o3 u ry => ?_⟩⟩
    obtain ⟨v', x', hv', rx', o4⟩ := o3.rd s2
    rw [hv] at hv'; cases hv'
    obtain ⟨z, ez, q⟩ := o4.lift
    obtain ⟨_, _, _, _, fin⟩ := opIndex_ok s2.le rx' ry ez (q H2 F2 (Same.refl _) s2)
    exact fin
  | tup ds =>
    refine ⟨_, hv, .inr ⟨knT_rv ht s.le rx, P, F, st, s, o2.bind.imp fun y st2 H2 F2 le2 s2 o3 u ry => ?_⟩⟩
    obtain ⟨v', x', hv', rx', o4⟩ := o3.rd s2
    rw [hv] at hv'; cases hv'
    obtain ⟨z, ez, q⟩ := o4.lift
    exact indexT_ok s2.le rx' ry ez (q H2 F2 (Same.refl _) s2)
  | _ => cases hx
end
/-! typed -/
section
variable {α β δ τ : Type} {st st' : DSt} {S : τ → DSt}
theorem rv_dIndexA {f h : Den D} {y : D} (hh : RV (bindD f fun x => bindD (liftO (isLT x)) fun _ => bindD h fun y => liftO (opIndexA x x y)) st y st') : RV (dIndexA f h) st y st' := hh
theorem re_dIndexA {f h : Den D} {o : M α} {v : α → D} (hh : RE (bindD f fun x => bindD (liftO (isLT x)) fun _ => bindD h fun y => liftO (opIndexA x x y)) st o v st') : RE (dIndexA f h) st o v st' := hh
theorem rt_dIndexA {f h : Den D} {o : M (α × τ)} {v : α → D} (hh : RT (bindD f fun x => bindD (liftO (isLT x)) fun _ => bindD h fun y => liftO (opIndexA x x y)) st o v S) : RT (dIndexA f h) st o v S := hh
theorem rv_dIndexAN {i : Nat} {h : Den D} {y : D} (hh : RV (bindD (dRd i) fun k => bindD (liftO (isLT k)) fun _ => bindD h fun y => bindD (dRd i) fun x => liftO (opIndexA k x y)) st y st') : RV (dIndexAN i h) st y st' := hh
theorem re_dIndexAN {i : Nat} {h : Den D} {o : M α} {v : α → D} (hh : RE (bindD (dRd i) fun k => bindD (liftO (isLT k)) fun _ => bindD h fun y => bindD (dRd i) fun x => liftO (opIndexA k x y)) st o v st') : RE (dIndexAN i h) st o v st' := hh
theorem rt_dIndexAN {i : Nat} {h : Den D} {o : M (α × τ)} {v : α → D} (hh : RT (bindD (dRd i) fun k => bindD (liftO (isLT k)) fun _ => bindD h fun y => bindD (dRd i) fun x => liftO (opIndexA k x y)) st o v S) : RT (dIndexAN i h) st o v S := hh
theorem op_oMid {γ : Type} {x : Option γ} : OP x (oM x) (fun u : γ => u) := by cases x <;> simp [OP, oM]
theorem indexA_L {a : α → D} {ks xs : List α} {y : D} {o : M Int} (h : OP (opIndex (eL a xs) y) o eI) : OP (opIndexA (eL a ks) (eL a xs) y) o eI := h
theorem indexA_T {a : α → D} (p : Fl1 a) [DecidableEq α] {x : α} {ks xs : List α} : OP (opIndexA (eT a ks) (eT a xs) (a x)) (pIndex xs x) eI := by
  unfold pIndex
  by_cases h : x ∈ xs
  · simp [h, OP, opIndexA, eT, p.fl, allF p, ixF_eq p, eI]
  · simp [h, OP]
end
end DL

namespace DL
open PySem PySem.Spec PyProof.Rows L2
/-! ### dicts -/
section
variable {κ κ' : Type} [DecidableEq κ] [DecidableEq κ']
def getA {α : Type} (kvs : List (κ × α)) (k : κ) : Option α := (kvs.find? fun p => decide (p.1 = k)).map Prod.snd
def putA {α : Type} (kvs : List (κ × α)) (k : κ) (v : α) : List (κ × α) := if (kvs.any fun p => decide (p.1 = k)) = true then kvs.map (fun p => if p.1 = k then (p.1, v) else p) else kvs ++ [(k, v)]
variable {g : G} {F : Hp} {f : κ → κ'} (inj : ∀ a b, f a = f b → a = b)
theorem zip_nil (f : κ → κ') (vs : List V) : (([] : List (κ × D)).map fun p => f p.1).zip vs = [] := rfl
include inj in
theorem get_rel (k : κ) : ∀ (kvs : List (κ × D)) (vs : List V), Rl g F vs (kvs.map Prod.snd) →
    match getA kvs k with | some d => ∃ v, valV ((kvs.map fun p => f p.1).zip vs) (f k) = some v ∧ Rv g F v d | none => valV ((kvs.map fun p => f p.1).zip vs) (f k) = none
  | [], _, .nil => rfl
  | p :: kvs, _, .cons (v := v) (vs := vs) r t => by
    have ih := get_rel k kvs vs t
    simp only [List.map_cons, List.zip_cons_cons]
    by_cases e : p.1 = k
    · have : getA (p :: kvs) k = some p.2 := by simp [getA, e]
      rw [this]
      exact ⟨v, valV_pos (by rw [e]), r⟩
    · have : getA (p :: kvs) k = getA kvs k := by simp [getA, e]
      rw [this, valV_neg (fun z => e (inj _ _ z))]
      exact ih
include inj in
theorem any_rel (k : κ) : ∀ (kvs : List (κ × D)) (vs : List V), Rl g F vs (kvs.map Prod.snd) → (((kvs.map fun p => f p.1).zip vs).any fun kv => decide (kv.1 = f k)) = kvs.any fun p => decide (p.1 = k)
  | [], _, .nil => rfl
  | p :: kvs, _, .cons (v := v) (vs := vs) r t => by
    simp only [List.map_cons, List.zip_cons_cons, List.any_cons, any_rel k kvs vs t]
    congr 1
    rw [decide_eq_decide]
    exact ⟨inj _ _, fun e => by rw [e]⟩
include inj in
theorem map_rel {v0 : V} {d0 : D} (r0 : Rv g F v0 d0) (k : κ) : ∀ (kvs : List (κ × D)) (vs : List V), Rl g F vs (kvs.map Prod.snd) →
    ∃ vs', ((kvs.map fun p => f p.1).zip vs).map (fun kv => if kv.1 = f k then (kv.1, v0) else kv) = ((kvs.map fun p => if p.1 = k then (p.1, d0) else p).map fun p => f p.1).zip vs' ∧ Rl g F vs' ((kvs.map fun p => if p.1 = k then (p.1, d0) else p).map Prod.snd)
  | [], _, .nil => ⟨[], rfl, .nil⟩
  | p :: kvs, _, .cons (v := v) (vs := vs) r t => by
    obtain ⟨vs', e, rr⟩ := map_rel r0 k kvs vs t
    simp only [List.map_cons, List.zip_cons_cons]
    by_cases h : p.1 = k
    · refine ⟨v0 :: vs', ?_, ?_⟩
      · rw [if_pos (by rw [h]), if_pos h, List.zip_cons_cons, e]
      · rw [if_pos h]; exact .cons r0 rr
    · refine ⟨v :: vs', ?_, ?_⟩
      · rw [if_neg (fun z => h (inj _ _ z)), if_neg h, List.zip_cons_cons, e]
      · rw [if_neg h]; exact .cons r rr
include inj in
theorem put_rel {v0 : V} {d0 : D} (r0 : Rv g F v0 d0) (k : κ) {kvs : List (κ × D)} {vs : List V} (r : Rl g F vs (kvs.map Prod.snd)) :
    ∃ vs', putK ((kvs.map fun p => f p.1).zip vs) (f k) v0 = ((putA kvs k d0).map fun p => f p.1).zip vs' ∧ Rl g F vs' ((putA kvs k d0).map Prod.snd) := by
  unfold putK putA
  rw [any_rel inj k kvs vs r]
  by_cases h : (kvs.any fun p => decide (p.1 = k)) = true
  · rw [if_pos h, if_pos h]
    exact map_rel inj r0 k kvs vs r
  · rw [if_neg h, if_neg h]
    have hl := r.length
    rw [List.length_map] at hl
    refine ⟨vs ++ [v0], ?_, ?_⟩
    · rw [List.map_append, List.zip_append (by simp [hl])]; rfl
    · rw [List.map_append]; exact r.append (.cons r0 .nil)
end
theorem injK : ∀ a b : Int, (Sum.inl a : L2.Key) = Sum.inl b → a = b := fun _ _ e => Sum.inl.inj e
theorem injT : ∀ a b : List Int, a.map (Sum.inl : Int → L2.Key) = b.map Sum.inl → a = b := fun a b e => by
  have := congrArg (List.map (fun k : L2.Key => match k with | .inl i => i | .inr _ => 0)) e
  simpa [List.map_map, Function.comp_def] using this
section
variable {g : G} {W : WX} {P : Par} {σ : L2.St} {H F : Hp} {st : DSt}
/-- a slot's thing changes -/
theorem SR.wr {i : Nat} {sl sl' : Slot} {a : Addr} {u' : HO} {ov : Option V} (s : SR g P σ H F st) (hd : st[i]? = some sl) (hv : σ[i]? = some ov) (own : ∀ O, SlotOk g P O F H i sl ov → O a = some i) (nt : ∀ xs, u' ≠ .tup xs)
    (new : ∀ O, SlotOk g P O F H i sl ov → SlotOk g P O F (upd H a u') i sl' ov) : SR g P σ (upd H a u') F (st.set i sl') := by
  obtain ⟨O, c⟩ := s
  have q0 := c.sl i _ _ hd hv
  have ho := own O q0
  obtain ⟨f0, r0, n0⟩ := c.oo a i ho
  refine ⟨O, fun b o e => ?_, fun b o e => ?_, fun b j e => ?_, fun b n => ?_, by rw [List.length_set]; exact c.len, fun j s ov' e1 e2 => ?_⟩
  · rw [upd_ne (fun z => by rw [z, f0] at e; cases e)]; exact c.le b o e
  · rw [upd_ne (fun z => by rw [z, r0] at e; cases e)]; exact c.rr b o e
  · refine ⟨(c.oo b j e).1, (c.oo b j e).2.1, ?_⟩
    by_cases hb : b = a
    · subst hb; exact NT.of upd_same nt
    · exact NT.upd hb (c.oo b j e).2.2
  · refine ⟨(c.no b n).1, ?_⟩
    by_cases hb : b = a
    · subst hb; exact NT.of upd_same nt
    · exact NT.upd hb (c.no b n).2
  · by_cases hj : j = i
    · subst hj
      rw [List.getElem?_set_self (lt_of_get hd)] at e1
      cases e1
      rw [hv] at e2; cases e2
      exact new O q0
    · rw [List.getElem?_set_ne (Ne.symm hj)] at e1
      exact (c.sl j s ov' e1 e2).move rfl (fun _ h => h) (Same.refl _) (fun b o ho' h => by
        rw [upd_ne (fun z => hj (by rw [z, ho] at ho'; exact (Option.some.inj ho').symm))]; exact h) fun _ _ h => h
/-- a new thing in a slot -/
theorem SRx.ownG {p : Addr} {i : Nat} {sl : Slot} (s : SRx g P σ H F st p) (h : NT H p) (hs : ∀ O, O p = some i → ¬ P.N p → SlotOk g P O F H i sl (some (.ref p))) (hi : i < st.length) : SR g P (σ.set i (some (.ref p))) H F (st.set i sl) := by
  obtain ⟨O, c, o0, f0, r0, n0⟩ := s
  refine ⟨fun b => if b = p then some i else if O b = some i then none else O b, c.le, c.rr, fun b j e => ?_, c.no, by rw [List.length_set, List.length_set]; exact c.len, fun j s ov e1 e2 => ?_⟩
  · by_cases hp : b = p
    · subst hp; exact ⟨f0, r0, h⟩
    · simp only [if_neg hp] at e
      by_cases hb : O b = some i
      · simp [hb] at e
      · simp only [if_neg hb] at e; exact c.oo b j e
  · by_cases hj : j = i
    · subst hj
      rw [List.getElem?_set_self hi] at e1
      rw [List.getElem?_set_self (by rw [c.len]; exact hi)] at e2
      cases e1; cases e2
      exact hs _ (by simp) n0
    · rw [List.getElem?_set_ne (Ne.symm hj)] at e1 e2
      exact (c.sl j s ov e1 e2).move rfl (fun b o => by
        have hp : b ≠ p := fun z => by rw [z, o0] at o; cases o
        simp only [if_neg hp]
        rw [if_neg (by rw [o]; intro z; exact hj (Option.some.inj z))]; exact o) (Same.refl _) (fun _ _ _ h => h) fun _ _ h => h
end
theorem _root_.L2.PC.imp {X : Cx} {op : CmpOp} {a b : Expr} {t t' : TE} (h : PC X op a b t) (i : ∀ σ H Q, t' σ H Q → t σ H Q) : PC X op a b t' := ⟨fun pins s σ H Q I q => h.run pins s σ H Q I (i σ H Q q)⟩
@[simp] def keyK : D → Option Int
  | .int i => some i
  | _ => none
@[simp] def keyT : D → Option (List Int)
  | .tup ds => intsOf ds
  | _ => none
@[simp] def kdK (i : Int) : D := .int i
@[simp] def kdT (ks : List Int) : D := .tup (ks.map .int)
theorem room1 {u c : Nat} (h : u + 65 < c) : u + 1 < c := by omega
theorem nox {α : Type} {r : Res α} : True := trivial
def rLenK : List V → Hp → VK → Prop := fun xs H Q => ∃ a kvs, xs = [V.ref a] ∧ H a = some (.dK kvs) ∧ Q (.int ((kvs.length : Nat) : Int)) H
theorem call_lenK {X : Cx} : CallR X (.builtin "len") rLenK := L2.call_lenD
theorem tupAt {g : G} {F H : Hp} (ht : g.tk = false) (le : Same F H) {u : V} {y : D} {k : List Int} (ry : Rv g F u y) (hk : keyT y = some k) : ∃ b, u = .ref b ∧ H b = some (.tup ((k.map (Sum.inl : Int → L2.Key)).map kV)) := by
  cases y with
  | tup ds =>
    have e : ds = k.map D.int := intsOf_eq hk
    subst e
    cases ry with
    | tup h q r =>
      have hv := r.ints
      subst hv
      unfold TkP at q
      rw [ht] at q
      refine ⟨_, rfl, ?_⟩
      rw [List.map_map]
      exact le _ _ q
  | _ => cases hk
section
variable {X : Cx} {g : G} {W : WX} {P : Par} {σ : L2.St} {H F : Hp} {st : DSt} {e : Expr} {s : Stmt} {ss : List Stmt} {f h : Den D}
/-- the dict in slot i -/
@[simp] def dDK (i : Nat) : Den (List (Int × D)) := fun st => match st[i]? with
  | some (.dk kvs) => .ok kvs st
  | some (.lk kvs) => .ok kvs st
  | _ => .stuck
@[simp] def dOK (i : Nat) : Den (List (Int × D)) := fun st => match st[i]? with
  | some (.dk kvs) => .ok kvs st
  | _ => .stuck
theorem rdK {i : Nat} {kvs : List (Int × D)} {st' : DSt} (s : SR g P σ H F st) (h : dDK i st = .ok kvs st') : st' = st ∧ ∃ a vs, σ[i]? = some (some (.ref a)) ∧ Rd H a (hK kvs vs) ∧ Rl g F vs (kvs.map Prod.snd) := by
  unfold dDK at h
  split at h
  · rename_i kvs hd
    cases h
    obtain ⟨ov, hov⟩ := SRc.nth s hd
    obtain ⟨O, c⟩ := id s
    obtain ⟨a, vs, rfl, ho, hn, ha, r⟩ := c.sl i _ _ hd hov
    exact ⟨rfl, a, vs, hov, .inl ha, r⟩
  · rename_i kvs hd
    cases h
    obtain ⟨ov, hov⟩ := SRc.nth s hd
    obtain ⟨O, c⟩ := id s
    obtain ⟨a, od, vs, rfl, ha, r⟩ := c.sl i _ _ hd hov
    exact ⟨rfl, a, vs, hov, .inr ⟨od, c.le _ _ ha⟩, r⟩
  · cases h
theorem Out.dK {i : Nat} {α : Type} {kk : List (Int × D) → Den α} {K : α → DSt → Hp → Hp → Prop} (s : SR g P σ H F st) (o : Out g W P σ F (bindD (dDK i) kk st) K) :
    ∃ a kvs vs, σ[i]? = some (some (.ref a)) ∧ Rd H a (hK kvs vs) ∧ Rl g F vs (kvs.map Prod.snd) ∧ Out g W P σ F (kk kvs st) K := by
  unfold bindD at o
  cases e : dDK i st with
  | ok d st' =>
    rw [e] at o
    obtain ⟨rfl, a, vs, h1, h2, h3⟩ := rdK s e
    exact ⟨a, d, vs, h1, h2, h3, o⟩
  | exn c fs st' => unfold dDK at e; split at e <;> cases e
  | stuck => rw [e] at o; exact o.elim
theorem ownK {i : Nat} {kvs : List (Int × D)} {st' : DSt} (s : SR g P σ H F st) (h : dOK i st = .ok kvs st') : st' = st ∧ st[i]? = some (.dk kvs) ∧ ∃ a vs, σ[i]? = some (some (.ref a)) ∧ H a = some (hK kvs vs) ∧ Rl g F vs (kvs.map Prod.snd) ∧
    ∀ kvs' vs', Rl g F vs' (kvs'.map Prod.snd) → SR g P σ (upd H a (hK kvs' vs')) F (st.set i (.dk kvs')) := by
  unfold dOK at h
  split at h
  · rename_i kvs hd
    cases h
    obtain ⟨ov, hov⟩ := SRc.nth s hd
    obtain ⟨O, c⟩ := id s
    obtain ⟨a, vs, rfl, ho, hn, ha, r⟩ := c.sl i _ _ hd hov
    refine ⟨rfl, hd, a, vs, hov, ha, r, fun kvs' vs' rr => s.wr (u' := hK kvs' vs') (sl' := .dk kvs') hd hov (fun O q => ?_) (fun xs z => by cases z) fun O q => ?_⟩
    · obtain ⟨b, _, e1, o1, _⟩ := q
      cases e1; exact o1
    · obtain ⟨b, _, e1, o1, n1, _⟩ := q
      cases e1
      exact ⟨_, vs', rfl, o1, n1, upd_same, rr⟩
  · cases h
theorem Out.oK {i : Nat} {α : Type} {kk : List (Int × D) → Den α} {K : α → DSt → Hp → Hp → Prop} (s : SR g P σ H F st) (o : Out g W P σ F (bindD (dOK i) kk st) K) :
    ∃ a kvs vs, st[i]? = some (.dk kvs) ∧ σ[i]? = some (some (.ref a)) ∧ H a = some (hK kvs vs) ∧ Rl g F vs (kvs.map Prod.snd) ∧ Out g W P σ F (kk kvs st) K ∧
      ∀ kvs' vs', Rl g F vs' (kvs'.map Prod.snd) → SR g P σ (upd H a (hK kvs' vs')) F (st.set i (.dk kvs')) := by
  unfold bindD at o
  cases e : dOK i st with
  | ok d st' =>
    rw [e] at o
    obtain ⟨rfl, h0, a, vs, h1, h2, h3, h4⟩ := ownK s e
    exact ⟨a, d, vs, h0, h1, h2, h3, o, h4⟩
  | exn c fs st' => unfold dOK at e; split at e <;> cases e
  | stuck => rw [e] at o; exact o.elim
/-- what a look-up asks -/
theorem dgetK  {a : Addr} {kvs : List (Int × D)} {vs : List V} {u : V} {y : D} {k : Int} (le : Same F H) (hd : Rd H a (hK kvs vs)) (r : Rl g F vs (kvs.map Prod.snd)) (ry : Rv g F u y) (hk : keyK y = some k) :
    match getA kvs k with | some d => ∃ v, DGet H a u (some v) ∧ Rv g F v d | none => DGet H a u none := by
  have q := get_rel injK k kvs vs r
  have dg : DGet H a u (valV ((kvs.map fun p => (Sum.inl : Int → L2.Key) p.1).zip vs) ((Sum.inl : Int → L2.Key) k)) := by
    cases y with
    | int i =>
      cases hk
      cases ry
      exact .inl ⟨_, _, hd, rfl, rfl⟩
    | _ => cases hk
  cases hg : getA kvs k with
  | none => rw [hg] at q; simp only at q ⊢; rw [q] at dg; exact dg
  | some d =>
    rw [hg] at q
    obtain ⟨v, e1, e2⟩ := q
    simp only
    rw [e1] at dg
    exact ⟨v, dg, e2⟩
/-! found = {} -/
@[simp] def sDNewK (i : Nat) : DS := putD i (.dk [])
theorem es_dnewK {i : Nat} (he : PS X s (tAsg tDNewK (gName i))) : PS X s (tS g W (sDNewK i)) := he.imp fun D σ H ⟨P, F, st, s, o⟩ p hp => by
  unfold sDNewK putD at o
  split at o
  · rename_i st2 h
    obtain ⟨hi, rfl⟩ := slotSet_some h
    exact o _ _ F (Same.refl _) ((s.newx (o := hK [] []) hp).ownG (NT.of upd_same fun xs z => by cases z) (fun O o1 n1 => ⟨p, [], rfl, o1, n1, upd_same, .nil⟩) hi)
  · exact o.elim
/-! found[k] -/
@[simp] def dDgetK (i : Nat) (f : Den D) : Den D := bindD (dDK i) fun _ => bindD f fun y => bindD (dDK i) fun kvs => liftO (match keyK y with | some k => getA kvs k | none => none)
theorem ev_dgetK  {i : Nat} (he : PE X e (tDGet (tVar i) (tE g W f))) : PE X e (tE g W (dDgetK i f)) := he.imp fun σ H Q ⟨P, F, st, s, o⟩ => by
  obtain ⟨a, _, _, hv, _, _, o1⟩ := o.dK s
  refine ⟨_, hv, P, F, st, s, o1.bind.imp fun y st2 H2 F2 le2 s2 o2 u ry => ?_⟩
  obtain ⟨a', kvs, vs, hv', h2, h3, o3⟩ := o2.dK s2
  rw [hv] at hv'; cases hv'
  obtain ⟨z, ez, q⟩ := o3.lift
  split at ez
  · rename_i k hk
    have g1 := dgetK  s2.le h2 h3 ry hk
    rw [ez] at g1
    obtain ⟨v, g2, g3⟩ := g1
    exact ⟨a, v, rfl, g2, q H2 F2 (Same.refl _) s2 v g3⟩
  · cases ez
/-! k in found, k not in found -/
@[simp] def dDinK (n : Bool) (i : Nat) (f : Den D) : Den D := bindD f fun y => bindD (dDK i) fun kvs => liftO (match keyK y with | some k => some (.bl (if n then !(getA kvs k).isSome else (getA kvs k).isSome)) | none => none)
theorem din_impK  {n : Bool} {i : Nat} {Q : VK} (q : tE g W (dDinK n i f) σ H Q) : tE g W f σ H fun y H1 => tVar i σ H1 fun x H2 => ∃ a o, x = .ref a ∧ DGet H2 a y o ∧ Q (.bl (if n then !o.isSome else o.isSome)) H2 := by
  obtain ⟨P, F, st, s, o⟩ := q
  refine ⟨P, F, st, s, o.bind.imp fun y st2 H2 F2 le2 s2 o2 u ry => ?_⟩
  obtain ⟨a', kvs, vs, hv', h2, h3, o3⟩ := o2.dK s2
  refine ⟨_, hv', ?_⟩
  obtain ⟨z, ez, q⟩ := o3.lift
  split at ez
  · rename_i k hk
    cases ez
    have g1 := dgetK  s2.le h2 h3 ry hk
    cases hg : getA kvs k with
    | none => rw [hg] at g1 q; exact ⟨a', none, rfl, g1, q H2 F2 (Same.refl _) s2 _ (.bl _)⟩
    | some d =>
      rw [hg] at g1 q
      obtain ⟨v, g2, _⟩ := g1
      exact ⟨a', some v, rfl, g2, q H2 F2 (Same.refl _) s2 _ (.bl _)⟩
  · cases ez
theorem pc_inK  {i : Nat} {a b : Expr} (he : PC X .In a b (tDIn (tE g W f) (tVar i))) : PC X .In a b (tE g W (dDinK false i f)) := he.imp fun σ H Q q => din_impK  q
theorem pc_ninK  {i : Nat} {a b : Expr} (he : PC X .NotIn a b (tDNotIn (tE g W f) (tVar i))) : PC X .NotIn a b (tE g W (dDinK true i f)) := he.imp fun σ H Q q => din_impK  q
/-! found.get(k, d) -/
@[simp] def dDgdK (i : Nat) (f h : Den D) : Den D := bindD (dDK i) fun _ => bindD f fun y => bindD h fun z => bindD (dDK i) fun kvs => liftO (match keyK y with | some k => some ((getA kvs k).getD z) | none => none)
theorem ev_dgdK  {i : Nat} (he : PE X e (tDGet2 (tVar i) (tE g W f) (tE g W h))) : PE X e (tE g W (dDgdK i f h)) := he.imp fun σ H Q ⟨P, F, st, s, o⟩ => by
  obtain ⟨a, _, _, hv, hd, _, o1⟩ := o.dK s
  refine ⟨_, hv, a, rfl, .inl ⟨_, hd⟩, P, F, st, s, o1.bind.imp fun y st2 H2 F2 le2 s2 o2 u ry => ⟨P, F2, st2, s2, o2.bind.imp fun z st3 H3 F3 le3 s3 o3 w rw => ?_⟩⟩
  obtain ⟨a', kvs, vs, hv', h2, h3, o4⟩ := o3.dK s3
  rw [hv] at hv'; cases hv'
  obtain ⟨x, ez, q⟩ := o4.lift
  split at ez
  · rename_i k hk
    cases ez
    have g1 := dgetK  s3.le h2 h3 (ry.mono le3) hk
    cases hg : getA kvs k with
    | none => rw [hg] at g1 q; exact ⟨none, g1, q H3 F3 (Same.refl _) s3 _ rw⟩
    | some d =>
      rw [hg] at g1 q
      obtain ⟨v, g2, g3⟩ := g1
      exact ⟨some v, g2, q H3 F3 (Same.refl _) s3 _ g3⟩
  · cases ez
/-! len(found) -/
@[simp] def dDlenK (i : Nat) : Den D := bindD (dOK i) fun kvs => retD (.int kvs.length)
theorem ev_dlenK {i : Nat} (he : PE X e (tCB rLenK (tCons (tVar i) tNil))) : PE X e (tE g W (dDlenK i)) := he.imp fun σ H Q ⟨P, F, st, s, o⟩ => by
  obtain ⟨a, kvs, vs, _, hv, hd, r, o1, _⟩ := o.oK s
  have hl := r.length
  rw [List.length_map] at hl
  refine ⟨_, hv, a, _, rfl, hd, ?_⟩
  have : ((kvs.map fun p => (Sum.inl : Int → L2.Key) p.1).zip vs).length = kvs.length := by simp [hl]
  rw [this]
  exact o1 H F (Same.refl _) s _ (.int _)
/-! found[k] = v -/
@[simp] def sDPutK (i : Nat) (k v : Den D) : DS := bindD v fun x => bindD (dDK i) fun _ => bindD k fun y => bindD (dOK i) fun kvs => match keyK y with
  | some q => if kvs.length < big then putD i (.dk (putA kvs q x)) else fun _ => .stuck
  | none => fun _ => .stuck
theorem es_dputK  {i : Nat} (he : PS X s (tAsg (tE g W f) (gSub (tVar i) (tE g W h) rSetD))) : PS X s (tS g W (sDPutK i h f)) := he.imp fun D σ H ⟨P, F, st, s, o⟩ =>
  ⟨P, F, st, s, o.bind.imp fun x st1 H1 F1 le1 s1 o1 v rx => by
    have o1 : OutS g W P F1 (bindD (dDK i) (fun _ => bindD h fun y => bindD (dOK i) fun kvs => match keyK y with
      | some q => if kvs.length < big then putD i (.dk (putA kvs q x)) else fun _ => .stuck
      | none => fun _ => .stuck) st1) D := o1
    cases e0 : dDK i st1 with
    | exn c fs st' => unfold dDK at e0; split at e0 <;> cases e0
    | stuck => unfold bindD at o1; rw [e0] at o1; exact o1.elim
    | ok kv0 st1 =>
      obtain ⟨rfl, a, _, hv, _, _⟩ := rdK s1 e0
      have o2 : OutS g W P F1 (bindD h (fun y => bindD (dOK i) fun kvs => match keyK y with
        | some q => if kvs.length < big then putD i (.dk (putA kvs q x)) else fun _ => .stuck
        | none => fun _ => .stuck) st1) D := by
        unfold bindD at o1
        rw [e0] at o1
        exact o1
      refine ⟨_, hv, P, F1, st1, s1, (OutS.bind o2).imp fun y st2 H2 F2 le2 s2 o3 u ry => ?_⟩
      cases e1 : dOK i st2 with
      | exn c fs st' => unfold dOK at e1; split at e1 <;> cases e1
      | stuck => unfold bindD at o3; rw [e1] at o3; exact o3.elim
      | ok kvs st2 =>
        obtain ⟨rfl, hst, a', vs, hv', ha, r, back⟩ := ownK s2 e1
        rw [hv] at hv'; cases hv'
        have o4 : OutS g W P F2 ((match keyK y with
          | some q => if kvs.length < big then putD i (.dk (putA kvs q x)) else fun _ => .stuck
          | none => fun _ => .stuck) st2) D := by
          unfold bindD at o3
          rw [e1] at o3
          exact o3
        cases hk : keyK y with
        | none => rw [hk] at o4; exact o4.elim
        | some k =>
          rw [hk] at o4
          have o4 : OutS g W P F2 ((if kvs.length < big then putD i (.dk (putA kvs k x)) else fun _ => .stuck) st2) D := o4
          by_cases hb : kvs.length < big
          · rw [if_pos hb] at o4
            obtain ⟨vs', ep, rr⟩ := put_rel injK (rx.mono le2) k r
            have hl := r.length
            rw [List.length_map] at hl
            have hlen : ((kvs.map fun p => (Sum.inl : Int → L2.Key) p.1).zip vs).length < sizeLine := by
              have : ((kvs.map fun p => (Sum.inl : Int → L2.Key) p.1).zip vs).length = kvs.length := by simp [hl]
              rw [this, ← big_eq]; exact hb
            have dp : DPut H2 a u v (upd H2 a (hK (putA kvs k x) vs')) := by
              cases y with
              | int j =>
                cases hk
                cases ry
                exact .inl ⟨_, _, ha, rfl, hlen, by rw [ep]; rfl⟩
              | _ => cases hk
            refine ⟨a, _, rfl, dp, ?_⟩
            have s3 := back (putA kvs k x) vs' rr
            unfold putD slotSet at o4
            rw [hst] at o4
            exact o4 σ _ F2 (Same.refl _) s3
          · rw [if_neg hb] at o4; exact o4.elim⟩
end
section
variable {X : Cx} {g : G} {W : WX} {P : Par} {σ : L2.St} {H F : Hp} {st : DSt} {e : Expr} {s : Stmt} {ss : List Stmt} {f h : Den D}
/-- the dict in slot i -/
@[simp] def dDT (i : Nat) : Den (List (List Int × D)) := fun st => match st[i]? with
  | some (.dt kvs) => .ok kvs st
  | some (.lt kvs) => .ok kvs st
  | _ => .stuck
@[simp] def dOT (i : Nat) : Den (List (List Int × D)) := fun st => match st[i]? with
  | some (.dt kvs) => .ok kvs st
  | _ => .stuck
theorem rdT {i : Nat} {kvs : List (List Int × D)} {st' : DSt} (s : SR g P σ H F st) (h : dDT i st = .ok kvs st') : st' = st ∧ ∃ a vs, σ[i]? = some (some (.ref a)) ∧ Rd H a (hT kvs vs) ∧ Rl g F vs (kvs.map Prod.snd) := by
  unfold dDT at h
  split at h
  · rename_i kvs hd
    cases h
    obtain ⟨ov, hov⟩ := SRc.nth s hd
    obtain ⟨O, c⟩ := id s
    obtain ⟨a, vs, rfl, ho, hn, ha, r⟩ := c.sl i _ _ hd hov
    exact ⟨rfl, a, vs, hov, .inl ha, r⟩
  · rename_i kvs hd
    cases h
    obtain ⟨ov, hov⟩ := SRc.nth s hd
    obtain ⟨O, c⟩ := id s
    obtain ⟨a, od, vs, rfl, ha, r⟩ := c.sl i _ _ hd hov
    exact ⟨rfl, a, vs, hov, .inr ⟨od, c.le _ _ ha⟩, r⟩
  · cases h
theorem Out.dT {i : Nat} {α : Type} {kk : List (List Int × D) → Den α} {K : α → DSt → Hp → Hp → Prop} (s : SR g P σ H F st) (o : Out g W P σ F (bindD (dDT i) kk st) K) :
    ∃ a kvs vs, σ[i]? = some (some (.ref a)) ∧ Rd H a (hT kvs vs) ∧ Rl g F vs (kvs.map Prod.snd) ∧ Out g W P σ F (kk kvs st) K := by
  unfold bindD at o
  cases e : dDT i st with
  | ok d st' =>
    rw [e] at o
    obtain ⟨rfl, a, vs, h1, h2, h3⟩ := rdT s e
    exact ⟨a, d, vs, h1, h2, h3, o⟩
  | exn c fs st' => unfold dDT at e; split at e <;> cases e
  | stuck => rw [e] at o; exact o.elim
theorem ownT {i : Nat} {kvs : List (List Int × D)} {st' : DSt} (s : SR g P σ H F st) (h : dOT i st = .ok kvs st') : st' = st ∧ st[i]? = some (.dt kvs) ∧ ∃ a vs, σ[i]? = some (some (.ref a)) ∧ H a = some (hT kvs vs) ∧ Rl g F vs (kvs.map Prod.snd) ∧
    ∀ kvs' vs', Rl g F vs' (kvs'.map Prod.snd) → SR g P σ (upd H a (hT kvs' vs')) F (st.set i (.dt kvs')) := by
  unfold dOT at h
  split at h
  · rename_i kvs hd
    cases h
    obtain ⟨ov, hov⟩ := SRc.nth s hd
    obtain ⟨O, c⟩ := id s
    obtain ⟨a, vs, rfl, ho, hn, ha, r⟩ := c.sl i _ _ hd hov
    refine ⟨rfl, hd, a, vs, hov, ha, r, fun kvs' vs' rr => s.wr (u' := hT kvs' vs') (sl' := .dt kvs') hd hov (fun O q => ?_) (fun xs z => by cases z) fun O q => ?_⟩
    · obtain ⟨b, _, e1, o1, _⟩ := q
      cases e1; exact o1
    · obtain ⟨b, _, e1, o1, n1, _⟩ := q
      cases e1
      exact ⟨_, vs', rfl, o1, n1, upd_same, rr⟩
  · cases h
theorem Out.oT {i : Nat} {α : Type} {kk : List (List Int × D) → Den α} {K : α → DSt → Hp → Hp → Prop} (s : SR g P σ H F st) (o : Out g W P σ F (bindD (dOT i) kk st) K) :
    ∃ a kvs vs, st[i]? = some (.dt kvs) ∧ σ[i]? = some (some (.ref a)) ∧ H a = some (hT kvs vs) ∧ Rl g F vs (kvs.map Prod.snd) ∧ Out g W P σ F (kk kvs st) K ∧
      ∀ kvs' vs', Rl g F vs' (kvs'.map Prod.snd) → SR g P σ (upd H a (hT kvs' vs')) F (st.set i (.dt kvs')) := by
  unfold bindD at o
  cases e : dOT i st with
  | ok d st' =>
    rw [e] at o
    obtain ⟨rfl, h0, a, vs, h1, h2, h3, h4⟩ := ownT s e
    exact ⟨a, d, vs, h0, h1, h2, h3, o, h4⟩
  | exn c fs st' => unfold dOT at e; split at e <;> cases e
  | stuck => rw [e] at o; exact o.elim
/-- what a look-up asks -/
theorem dgetT (ht : g.tk = false) {a : Addr} {kvs : List (List Int × D)} {vs : List V} {u : V} {y : D} {k : List Int} (le : Same F H) (hd : Rd H a (hT kvs vs)) (r : Rl g F vs (kvs.map Prod.snd)) (ry : Rv g F u y) (hk : keyT y = some k) :
    match getA kvs k with | some d => ∃ v, DGet H a u (some v) ∧ Rv g F v d | none => DGet H a u none := by
  have q := get_rel injT k kvs vs r
  have dg : DGet H a u (valV ((kvs.map fun p => (fun k : List Int => k.map (Sum.inl : Int → L2.Key)) p.1).zip vs) ((fun k : List Int => k.map (Sum.inl : Int → L2.Key)) k)) := by
    obtain ⟨b, rfl, hb⟩ := tupAt ht le ry hk
    exact .inr ⟨_, _, b, hd, rfl, hb, rfl⟩
  cases hg : getA kvs k with
  | none => rw [hg] at q; simp only at q ⊢; rw [q] at dg; exact dg
  | some d =>
    rw [hg] at q
    obtain ⟨v, e1, e2⟩ := q
    simp only
    rw [e1] at dg
    exact ⟨v, dg, e2⟩
/-! found = {} -/
@[simp] def sDNewT (i : Nat) : DS := putD i (.dt [])
theorem es_dnewT {i : Nat} (he : PS X s (tAsg tDNewT (gName i))) : PS X s (tS g W (sDNewT i)) := he.imp fun D σ H ⟨P, F, st, s, o⟩ p hp => by
  unfold sDNewT putD at o
  split at o
  · rename_i st2 h
    obtain ⟨hi, rfl⟩ := slotSet_some h
    exact o _ _ F (Same.refl _) ((s.newx (o := hT [] []) hp).ownG (NT.of upd_same fun xs z => by cases z) (fun O o1 n1 => ⟨p, [], rfl, o1, n1, upd_same, .nil⟩) hi)
  · exact o.elim
/-! found[k] -/
@[simp] def dDgetT (i : Nat) (f : Den D) : Den D := bindD (dDT i) fun _ => bindD f fun y => bindD (dDT i) fun kvs => liftO (match keyT y with | some k => getA kvs k | none => none)
theorem ev_dgetT (ht : g.tk = false) {i : Nat} (he : PE X e (tDGet (tVar i) (tE g W f))) : PE X e (tE g W (dDgetT i f)) := he.imp fun σ H Q ⟨P, F, st, s, o⟩ => by
  obtain ⟨a, _, _, hv, _, _, o1⟩ := o.dT s
  refine ⟨_, hv, P, F, st, s, o1.bind.imp fun y st2 H2 F2 le2 s2 o2 u ry => ?_⟩
  obtain ⟨a', kvs, vs, hv', h2, h3, o3⟩ := o2.dT s2
  rw [hv] at hv'; cases hv'
  obtain ⟨z, ez, q⟩ := o3.lift
  split at ez
  · rename_i k hk
    have g1 := dgetT ht s2.le h2 h3 ry hk
    rw [ez] at g1
    obtain ⟨v, g2, g3⟩ := g1
    exact ⟨a, v, rfl, g2, q H2 F2 (Same.refl _) s2 v g3⟩
  · cases ez
/-! k in found, k not in found -/
@[simp] def dDinT (n : Bool) (i : Nat) (f : Den D) : Den D := bindD f fun y => bindD (dDT i) fun kvs => liftO (match keyT y with | some k => some (.bl (if n then !(getA kvs k).isSome else (getA kvs k).isSome)) | none => none)
theorem din_impT (ht : g.tk = false) {n : Bool} {i : Nat} {Q : VK} (q : tE g W (dDinT n i f) σ H Q) : tE g W f σ H fun y H1 => tVar i σ H1 fun x H2 => ∃ a o, x = .ref a ∧ DGet H2 a y o ∧ Q (.bl (if n then !o.isSome else o.isSome)) H2 := by
  obtain ⟨P, F, st, s, o⟩ := q
  refine ⟨P, F, st, s, o.bind.imp fun y st2 H2 F2 le2 s2 o2 u ry => ?_⟩
  obtain ⟨a', kvs, vs, hv', h2, h3, o3⟩ := o2.dT s2
  refine ⟨_, hv', ?_⟩
  obtain ⟨z, ez, q⟩ := o3.lift
  split at ez
  · rename_i k hk
    cases ez
    have g1 := dgetT ht s2.le h2 h3 ry hk
    cases hg : getA kvs k with
    | none => rw [hg] at g1 q; exact ⟨a', none, rfl, g1, q H2 F2 (Same.refl _) s2 _ (.bl _)⟩
    | some d =>
      rw [hg] at g1 q
      obtain ⟨v, g2, _⟩ := g1
      exact ⟨a', some v, rfl, g2, q H2 F2 (Same.refl _) s2 _ (.bl _)⟩
  · cases ez
theorem pc_inT (ht : g.tk = false) {i : Nat} {a b : Expr} (he : PC X .In a b (tDIn (tE g W f) (tVar i))) : PC X .In a b (tE g W (dDinT false i f)) := he.imp fun σ H Q q => din_impT ht q
theorem pc_ninT (ht : g.tk = false) {i : Nat} {a b : Expr} (he : PC X .NotIn a b (tDNotIn (tE g W f) (tVar i))) : PC X .NotIn a b (tE g W (dDinT true i f)) := he.imp fun σ H Q q => din_impT ht q
/-! found.get(k, d) -/
@[simp] def dDgdT (i : Nat) (f h : Den D) : Den D := bindD (dDT i) fun _ => bindD f fun y => bindD h fun z => bindD (dDT i) fun kvs => liftO (match keyT y with | some k => some ((getA kvs k).getD z) | none => none)
theorem ev_dgdT (ht : g.tk = false) {i : Nat} (he : PE X e (tDGet2 (tVar i) (tE g W f) (tE g W h))) : PE X e (tE g W (dDgdT i f h)) := he.imp fun σ H Q ⟨P, F, st, s, o⟩ => by
  obtain ⟨a, _, _, hv, hd, _, o1⟩ := o.dT s
  refine ⟨_, hv, a, rfl, .inr ⟨_, hd⟩, P, F, st, s, o1.bind.imp fun y st2 H2 F2 le2 s2 o2 u ry => ⟨P, F2, st2, s2, o2.bind.imp fun z st3 H3 F3 le3 s3 o3 w rw => ?_⟩⟩
  obtain ⟨a', kvs, vs, hv', h2, h3, o4⟩ := o3.dT s3
  rw [hv] at hv'; cases hv'
  obtain ⟨x, ez, q⟩ := o4.lift
  split at ez
  · rename_i k hk
    cases ez
    have g1 := dgetT ht s3.le h2 h3 (ry.mono le3) hk
    cases hg : getA kvs k with
    | none => rw [hg] at g1 q; exact ⟨none, g1, q H3 F3 (Same.refl _) s3 _ rw⟩
    | some d =>
      rw [hg] at g1 q
      obtain ⟨v, g2, g3⟩ := g1
      exact ⟨some v, g2, q H3 F3 (Same.refl _) s3 _ g3⟩
  · cases ez
/-! len(found) -/
@[simp] def dDlenT (i : Nat) : Den D := bindD (dOT i) fun kvs => retD (.int kvs.length)
theorem ev_dlenT {i : Nat} (he : PE X e (tCB rLenT (tCons (tVar i) tNil))) : PE X e (tE g W (dDlenT i)) := he.imp fun σ H Q ⟨P, F, st, s, o⟩ => by
  obtain ⟨a, kvs, vs, _, hv, hd, r, o1, _⟩ := o.oT s
  have hl := r.length
  rw [List.length_map] at hl
  refine ⟨_, hv, a, _, rfl, hd, ?_⟩
  have : ((kvs.map fun p => (fun k : List Int => k.map (Sum.inl : Int → L2.Key)) p.1).zip vs).length = kvs.length := by simp [hl]
  rw [this]
  exact o1 H F (Same.refl _) s _ (.int _)
/-! found[k] = v -/
@[simp] def sDPutT (i : Nat) (k v : Den D) : DS := bindD v fun x => bindD (dDT i) fun _ => bindD k fun y => bindD (dOT i) fun kvs => match keyT y with
  | some q => if kvs.length < big then putD i (.dt (putA kvs q x)) else fun _ => .stuck
  | none => fun _ => .stuck
theorem es_dputT (ht : g.tk = false) {i : Nat} (he : PS X s (tAsg (tE g W f) (gSub (tVar i) (tE g W h) rSetD))) : PS X s (tS g W (sDPutT i h f)) := he.imp fun D σ H ⟨P, F, st, s, o⟩ =>
  ⟨P, F, st, s, o.bind.imp fun x st1 H1 F1 le1 s1 o1 v rx => by
    have o1 : OutS g W P F1 (bindD (dDT i) (fun _ => bindD h fun y => bindD (dOT i) fun kvs => match keyT y with
      | some q => if kvs.length < big then putD i (.dt (putA kvs q x)) else fun _ => .stuck
      | none => fun _ => .stuck) st1) D := o1
    cases e0 : dDT i st1 with
    | exn c fs st' => unfold dDT at e0; split at e0 <;> cases e0
    | stuck => unfold bindD at o1; rw [e0] at o1; exact o1.elim
    | ok kv0 st1 =>
      obtain ⟨rfl, a, _, hv, _, _⟩ := rdT s1 e0
      have o2 : OutS g W P F1 (bindD h (fun y => bindD (dOT i) fun kvs => match keyT y with
        | some q => if kvs.length < big then putD i (.dt (putA kvs q x)) else fun _ => .stuck
        | none => fun _ => .stuck) st1) D := by
        unfold bindD at o1
        rw [e0] at o1
        exact o1
      refine ⟨_, hv, P, F1, st1, s1, (OutS.bind o2).imp fun y st2 H2 F2 le2 s2 o3 u ry => ?_⟩
      cases e1 : dOT i st2 with
      | exn c fs st' => unfold dOT at e1; split at e1 <;> cases e1
      | stuck => unfold bindD at o3; rw [e1] at o3; exact o3.elim
      | ok kvs st2 =>
        obtain ⟨rfl, hst, a', vs, hv', ha, r, back⟩ := ownT s2 e1
        rw [hv] at hv'; cases hv'
        have o4 : OutS g W P F2 ((match keyT y with
          | some q => if kvs.length < big then putD i (.dt (putA kvs q x)) else fun _ => .stuck
          | none => fun _ => .stuck) st2) D := by
          unfold bindD at o3
          rw [e1] at o3
          exact o3
        cases hk : keyT y with
        | none => rw [hk] at o4; exact o4.elim
        | some k =>
          rw [hk] at o4
          have o4 : OutS g W P F2 ((if kvs.length < big then putD i (.dt (putA kvs k x)) else fun _ => .stuck) st2) D := o4
          by_cases hb : kvs.length < big
          · rw [if_pos hb] at o4
            obtain ⟨vs', ep, rr⟩ := put_rel injT (rx.mono le2) k r
            have hl := r.length
            rw [List.length_map] at hl
            have hlen : ((kvs.map fun p => (fun k : List Int => k.map (Sum.inl : Int → L2.Key)) p.1).zip vs).length < sizeLine := by
              have : ((kvs.map fun p => (fun k : List Int => k.map (Sum.inl : Int → L2.Key)) p.1).zip vs).length = kvs.length := by simp [hl]
              rw [this, ← big_eq]; exact hb
            have dp : DPut H2 a u v (upd H2 a (hT (putA kvs k x) vs')) := by
              obtain ⟨b, rfl, hb⟩ := tupAt ht s2.le ry hk
              exact .inr ⟨_, _, b, ha, rfl, hb, hlen, by rw [ep]; rfl⟩
            refine ⟨a, _, rfl, dp, ?_⟩
            have s3 := back (putA kvs k x) vs' rr
            unfold putD slotSet at o4
            rw [hst] at o4
            exact o4 σ _ F2 (Same.refl _) s3
          · rw [if_neg hb] at o4; exact o4.elim⟩
end
end DL

namespace DL
open PySem PySem.Spec PyProof.Rows L2
section
variable {g : G} {P : Par} {σ : L2.St} {H F F' : Hp} {st : DSt}
/-! what is known without a locked dict -/
mutual
theorem Rv.dropA {a : Addr} (ht : g.tk = false) (n1 : ∀ vs, F a ≠ some (.lst vs)) (n2 : ∀ vs, F a ≠ some (.tup vs)) (n3 : ∀ C d fs, F a ≠ some (.ins C d fs)) (n4 : ∀ o vs, F a ≠ some (.frz o (.lst vs))) (e : ∀ x o, x ≠ a → F x = some o → F' x = some o) : ∀ {v : V} {d : D}, Rv g F v d → Rv g F' v d
  | _, _, .non => .non
  | _, _, .bl b => .bl b
  | _, _, .int b => .int b
  | _, _, .str b => .str b
  | _, _, .lst q r => .lst (e _ _ (fun z => n1 _ (by rw [← z]; exact q)) q) (Rl.dropA ht n1 n2 n3 n4 e r)
  | _, _, .tup q k r => by
    unfold TkP at k
    rw [ht] at k
    have k : F _ = some (.tup _) := k
    have k' := e _ _ (fun z => n2 _ (by rw [← z]; exact k)) k
    exact .tup (.inl (.inl k')) (by unfold TkP; rw [ht]; exact k') (Rl.dropA ht n1 n2 n3 n4 e r)
  | _, _, .ins q m l r => .ins (e _ _ (fun z => n3 _ _ _ (by rw [← z]; exact q)) q) m l (Rl.dropA ht n1 n2 n3 n4 e r)
  | _, _, .scr h => .scr (by
    rcases h with (h | ⟨o, h⟩) | h
    · exact .inl (.inl (e _ _ (fun z => n1 _ (by rw [← z]; exact h)) h))
    · exact .inl (.inr ⟨o, e _ _ (fun z => n4 _ _ (by rw [← z]; exact h)) h⟩)
    · exact .inr h)
theorem Rl.dropA {a : Addr} (ht : g.tk = false) (n1 : ∀ vs, F a ≠ some (.lst vs)) (n2 : ∀ vs, F a ≠ some (.tup vs)) (n3 : ∀ C d fs, F a ≠ some (.ins C d fs)) (n4 : ∀ o vs, F a ≠ some (.frz o (.lst vs))) (e : ∀ x o, x ≠ a → F x = some o → F' x = some o) : ∀ {vs : List V} {ds : List D}, Rl g F vs ds → Rl g F' vs ds
  | _, _, .nil => .nil
  | _, _, .cons r t => .cons (Rv.dropA ht n1 n2 n3 n4 e r) (Rl.dropA ht n1 n2 n3 n4 e t)
end
end
def noLk : Slot → Bool
  | .lk _ => false
  | .lt _ => false
  | .xc _ _ _ => false
  | _ => true
/-- no number, no text, no class: the thing that a lock lays there -/
structure Lkd (F : Hp) (a : Addr) : Prop where
  n1 : ∀ vs, F a ≠ some (.lst vs)
  n2 : ∀ vs, F a ≠ some (.tup vs)
  n3 : ∀ C d fs, F a ≠ some (.ins C d fs)
  n4 : ∀ o vs, F a ≠ some (.frz o (.lst vs))
theorem Lkd.of {F : Hp} {a : Addr} {o : Obj} {u : HO} (h : F a = some (.frz o u)) (n : ∀ vs, u ≠ .lst vs) : Lkd F a :=
  ⟨(fun vs e => by rw [h] at e; cases e), (fun vs e => by rw [h] at e; cases e), (fun _ _ _ e => by rw [h] at e; cases e), (fun o' vs e => by rw [h] at e; cases e; exact n vs rfl)⟩
section
variable {g : G} {P : Par} {O : Addr → Option Nat} {σ : L2.St} {H F F' H' : Hp} {st : DSt}
theorem SlotOk.drop {a : Addr} {O' : Addr → Option Nat} {i : Nat} {s : Slot} {ov : Option V} (ht : g.tk = false) (L : Lkd F a) (ha : O a = none) (e : ∀ x o, x ≠ a → F x = some o → F' x = some o) (eh : ∀ x o, x ≠ a → H x = some o → H' x = some o)
    (hO : ∀ b, O b = some i → O' b = some i) (hs : noLk s = true) (h : SlotOk g P O F H i s ov) : SlotOk g P O' F' H' i s ov := by
  have ne : ∀ {b}, O b = some i → b ≠ a := fun o z => by rw [z, ha] at o; cases o
  have rv : ∀ {v d}, Rv g F v d → Rv g F' v d := fun r => r.dropA ht L.n1 L.n2 L.n3 L.n4 e
  have rl : ∀ {vs ds}, Rl g F vs ds → Rl g F' vs ds := fun r => r.dropA ht L.n1 L.n2 L.n3 L.n4 e
  cases s with
  | no => trivial
  | sh d => obtain ⟨v, e1, r⟩ := h; exact ⟨v, e1, rv r⟩
  | ow ds => obtain ⟨b, vs, e1, o, n, h1, r⟩ := h; exact ⟨b, vs, e1, hO b o, n, eh _ _ (ne o) h1, rl r⟩
  | rf k ds => obtain ⟨b, vs, e1, b1, o, h1, r⟩ := h; exact ⟨b, vs, e1, b1, hO b o, eh _ _ (ne o) h1, rl r⟩
  | oi k c ns ds => obtain ⟨b, C, dx, vs, e1, b1, o, m, l, h1, r⟩ := h; exact ⟨b, C, dx, vs, e1, b1, hO b o, m, l, eh _ _ (ne o) h1, rl r⟩
  | xc c nm x => cases hs
  | dk kvs => obtain ⟨b, vs, e1, o, n, h1, r⟩ := h; exact ⟨b, vs, e1, hO b o, n, eh _ _ (ne o) h1, rl r⟩
  | dt kvs => obtain ⟨b, vs, e1, o, n, h1, r⟩ := h; exact ⟨b, vs, e1, hO b o, n, eh _ _ (ne o) h1, rl r⟩
  | lk kvs => cases hs
  | lt kvs => cases hs
  | o2 dss =>
    obtain ⟨b, bs, e1, o, n, h1, nd, na, l, r⟩ := h
    refine ⟨b, bs, e1, hO b o, n, eh _ _ (ne o) h1, nd, na, l, fun j b' ds e2 e3 => ?_⟩
    obtain ⟨o', n', vs, h2, r2⟩ := r j b' ds e2 e3
    exact ⟨hO b' o', n', vs, eh _ _ (ne o') h2, rl r2⟩
end
def rSortK : List V → Hp → VK → Prop := fun xs H Q => ∃ (a : Addr) (kvs : List (L2.Key × V)) (ks : List Int), xs = [.ref a] ∧ Rd H a (.dK kvs) ∧ kvs.map (·.1) = ks.map Sum.inl ∧ ks.length < 64 ∧
  ∀ (ys : List Int) (p : Addr), ys.Perm ks → ys.Pairwise (· ≤ ·) → H p = none → Q (.ref p) (upd H p (.lst (ys.map V.int)))
theorem call_sortK {X : Cx} (hcalm : X.calm = true) : CallR X (.builtin "sorted") rSortK := call_sortedDI hcalm
section
variable {X : Cx} {g : G} {W : WX} {P : Par} {σ : L2.St} {H F : Hp} {st : DSt} {e : Expr} {s : Stmt} {f h : Den D}
/-- the dict is locked while f runs -/
def dLockK (i : Nat) (f : Den (List D)) : Den (List D) := fun st => match st[i]? with
  | some (.dk kvs) => match f (st.set i (.lk kvs)) with
    | .ok ds st' => match st'[i]? with
      | some (.lk kvs') => if (st'.set i .no).all noLk = true then .ok ds (st'.set i (.dk kvs')) else .stuck
      | _ => .stuck
    | _ => .stuck
  | _ => .stuck
theorem ev_lockK (ht : g.tk = false) {i : Nat} {f : Den (List D)} (he : PE X e (tN g WN f)) : PE X e (tN g W (dLockK i f)) := (pe_lock he).imp fun σ H Q ⟨P, F, st, s, o⟩ => by
  unfold dLockK at o
  cases hd : st[i]? with
  | none => rw [hd] at o; exact o.elim
  | some sl =>
    rw [hd] at o
    cases sl with
    | dk kvs =>
      simp only at o
      obtain ⟨ov, hov⟩ := SRc.nth s hd
      obtain ⟨O, c⟩ := id s
      obtain ⟨a, vs, rfl, ho, hn, ha, r⟩ := c.sl i _ _ hd hov
      obtain ⟨f0, r0, nt0⟩ := c.oo a i ho
      refine ⟨a, hK kvs vs, ha, trivial, fun od => ?_⟩
      have sf : Same F (upd F a (.frz od (hK kvs vs))) := fun b u eb => by rw [upd_ne (fun z => by rw [z, f0] at eb; cases eb)]; exact eb
      have s1 : SR g P σ (upd H a (.frz od (hK kvs vs))) (upd F a (.frz od (hK kvs vs))) (st.set i (.lk kvs)) := by
        refine ⟨fun b => if b = a then none else O b, fun b u eb => ?_, fun b u eb => ?_, fun b j eb => ?_, fun b nb => ?_, by rw [List.length_set]; exact c.len, fun j s ov e1 e2 => ?_⟩
        · by_cases hb : b = a
          · subst hb; rw [upd_same] at eb ⊢; exact eb
          · rw [upd_ne hb] at eb ⊢; exact c.le b u eb
        · rw [upd_ne (fun z => by rw [z, r0] at eb; cases eb)]; exact c.rr b u eb
        · by_cases hb : b = a
          · subst hb; simp at eb
          · simp only [if_neg hb] at eb
            obtain ⟨q1, q2, q3⟩ := c.oo b j eb
            exact ⟨by rw [upd_ne hb]; exact q1, q2, NT.upd hb q3⟩
        · have hb : b ≠ a := fun z => hn (z ▸ nb)
          exact ⟨by rw [upd_ne hb]; exact (c.no b nb).1, NT.upd hb (c.no b nb).2⟩
        · by_cases hj : j = i
          · subst hj
            rw [List.getElem?_set_self (lt_of_get hd)] at e1
            cases e1
            rw [hov] at e2; cases e2
            exact ⟨a, od, vs, rfl, upd_same, r.mono sf⟩
          · rw [List.getElem?_set_ne (Ne.symm hj)] at e1
            exact (c.sl j s ov e1 e2).move rfl (fun b o1 => by
              have hb : b ≠ a := fun z => hj (by rw [z, ho] at o1; exact (Option.some.inj o1).symm)
              simp only [if_neg hb]; exact o1) sf (fun b u o1 h1 => by
              have hb : b ≠ a := fun z => hj (by rw [z, ho] at o1; exact (Option.some.inj o1).symm)
              rw [upd_ne hb]; exact h1) fun _ _ h => h
      refine ⟨P, _, _, s1, ?_⟩
      revert o
      cases hf : f (st.set i (.lk kvs)) with
      | exn c fs st' => exact fun o => o.elim
      | stuck => exact fun o => o.elim
      | ok ds st' =>
        intro o H' F' p ws le sx hp rws
        simp only at o
        cases hd' : st'[i]? with
        | none => rw [hd'] at o; exact o.elim
        | some sl' =>
          rw [hd'] at o
          cases sl' with
          | lk kvs' =>
            simp only at o
            by_cases hall : (st'.set i .no).all noLk = true
            · rw [if_pos hall] at o
              obtain ⟨O', c', op, fp, rp, np⟩ := sx
              obtain ⟨a', od', vs', ea, fa', r'⟩ := c'.sl i _ _ hd' hov
              cases ea
              have fa : F' a = some (.frz od (hK kvs vs)) := le _ _ upd_same
              have eu : hK kvs' vs' = hK kvs vs := by
                have := Option.some.inj (fa'.symm.trans fa)
                injection this
              have L : Lkd F' a := Lkd.of fa fun vs z => by cases z
              have oa : O' a = none := by
                cases q : O' a with
                | none => rfl
                | some j => rw [(c'.oo a j q).1] at fa; cases fa
              have pa : p ≠ a := fun z => by rw [z, fa] at fp; cases fp
              let F2 : Hp := fun b => if b = a then none else F' b
              have f2n : ∀ b, b ≠ a → F2 b = F' b := fun b hb => if_neg hb
              have e2 : ∀ x o, x ≠ a → F' x = some o → F2 x = some o := fun x o hx eo => by rw [f2n x hx]; exact eo
              refine ⟨c'.le _ _ fa, o (upd H' a (hK kvs vs)) F2 p ws (fun b u eb => ?_) ?_ (by rw [upd_ne pa]; exact hp) (rws.dropA ht L.n1 L.n2 L.n3 L.n4 e2)⟩
              · have hb : b ≠ a := fun z => by rw [z, f0] at eb; cases eb
                rw [f2n b hb]; exact le _ _ (sf _ _ eb)
              · refine ⟨fun b => if b = a then some i else if O' b = some i then none else O' b, ⟨fun b u eb => ?_, fun b u eb => ?_, fun b j eb => ?_, fun b nb => ?_, by rw [List.length_set]; exact c'.len, fun j s ov e1 e3 => ?_⟩, ?_, ?_, rp, np⟩
                · by_cases hb : b = a
                  · subst hb; simp [F2] at eb
                  · rw [f2n b hb] at eb; rw [upd_ne hb]; exact c'.le b u eb
                · rw [upd_ne (fun z => by rw [z, r0] at eb; cases eb)]; exact c'.rr b u eb
                · by_cases hb : b = a
                  · subst hb; exact ⟨if_pos rfl, r0, NT.of upd_same fun xs z => by cases z⟩
                  · simp only [if_neg hb] at eb
                    by_cases hq : O' b = some i
                    · simp [hq] at eb
                    · simp only [if_neg hq] at eb
                      obtain ⟨q1, q2, q3⟩ := c'.oo b j eb
                      exact ⟨by rw [f2n b hb]; exact q1, q2, NT.upd hb q3⟩
                · have hb : b ≠ a := fun z => hn (z ▸ nb)
                  exact ⟨by rw [f2n b hb]; exact (c'.no b nb).1, NT.upd hb (c'.no b nb).2⟩
                · by_cases hj : j = i
                  · subst hj
                    rw [List.getElem?_set_self (lt_of_get hd')] at e1
                    cases e1
                    rw [hov] at e3; cases e3
                    exact ⟨a, vs', rfl, by simp, hn, by rw [eu]; exact upd_same, r'.dropA ht L.n1 L.n2 L.n3 L.n4 e2⟩
                  · rw [List.getElem?_set_ne (Ne.symm hj)] at e1
                    have hk : noLk s = true := by
                      have := List.all_eq_true.mp hall s (List.mem_of_getElem? (i := j) (by rw [List.getElem?_set_ne (Ne.symm hj)]; exact e1))
                      exact this
                    exact (c'.sl j s ov e1 e3).drop ht L oa e2 (fun x u hx eo => by rw [upd_ne hx]; exact eo) (fun b o1 => by
                      have hb : b ≠ a := fun z => by rw [z, oa] at o1; cases o1
                      show (if b = a then some i else if O' b = some i then none else O' b) = some j
                      rw [if_neg hb, if_neg (by rw [o1]; intro z; exact hj (Option.some.inj z))]; exact o1) hk
                · show (if p = a then some i else if O' p = some i then none else O' p) = none
                  rw [if_neg pa, op]; simp
                · rw [f2n p pa]; exact fp
            · rw [if_neg hall] at o; exact o.elim
          | _ => exact o.elim
    | _ => exact o.elim
/-- its keys, in order -/
def dKeysK (i : Nat) : Den (List D) := fun st => match st[i]? with
  | some (.lk kvs) => .ok (kvs.map fun p => kdK p.1) st
  | _ => .stuck
theorem ei_keysK  {i : Nat} {tg it : Expr} (h : PI X tg it (iKeys (tVar i))) : PI X tg it (tI g W (dKeysK i)) := h.imp fun σ H R ⟨P, F, st, s, o⟩ => by
  unfold dKeysK at o
  split at o
  · rename_i kvs hd
    obtain ⟨ov, hov⟩ := SRc.nth s hd
    obtain ⟨O, c⟩ := id s
    obtain ⟨a, od, vs, rfl, ha, r⟩ := c.sl i _ _ hd hov
    have hl := r.length
    rw [List.length_map] at hl
    have hz : ((kvs.map fun p => (Sum.inl : Int → L2.Key) p.1).zip vs).length = kvs.length := by simp [hl]
    refine ⟨_, hov, a, od, rfl, .inl ⟨_, c.le _ _ ha, o H F (Same.refl _) s _ ⟨fun H' le => ⟨le _ _ ha, by rw [hz]; simp⟩, fun j H' le hj => ⟨le _ _ ha, by rw [hz]; simpa using hj⟩, fun j H' x H'' le hj y => ?_⟩⟩⟩
    obtain ⟨rfl, k, v, hk, rfl⟩ := y
    have hj : j < kvs.length := by simpa using hj
    have hk1 : k = Sum.inl kvs[j].1 := by
      have := congrArg (Option.map Prod.fst) hk
      rw [← List.getElem?_map, List.map_fst_zip (by simp [hl])] at this
      simpa [hj] using this.symm
    subst hk1
    exact ⟨.int kvs[j].1, by simp [hj], .inl ⟨rfl, .int _⟩⟩
  · exact o.elim
end
/-! typed -/
section
variable {α β γ δ τ : Type} {e : α → D} {X : Bool} {K : γ → Fl → DSt → Prop} {st st1 st' : DSt} {i : Nat} {xs : List (Int × α)}
def mK (e : α → D) (xs : List (Int × α)) : List (Int × D) := xs.map fun p => (p.1, e p.2)
theorem get_mK (k : Int) : ∀ xs : List (Int × α), getA (mK e xs) k = (getA xs k).map e
  | [] => rfl
  | p :: xs => by
    have ih := get_mK k xs
    unfold mK at ih ⊢
    by_cases h : p.1 = k
    · simp [getA, h]
    · simp only [getA, List.map_cons, List.find?_cons, h, decide_false] at ih ⊢
      exact ih
theorem put_mK (k : Int) (v : α) (xs : List (Int × α)) : putA (mK e xs) k (e v) = mK e (putA xs k v) := by
  have ha : ∀ xs : List (Int × α), ((mK e xs).any fun p => decide (p.1 = k)) = xs.any fun p => decide (p.1 = k) := fun xs => by simp [mK, List.any_map, Function.comp_def]
  unfold putA
  rw [ha]
  split
  · unfold mK
    rw [List.map_map, List.map_map]
    refine List.map_congr_left fun p _ => ?_
    simp only [Function.comp]
    split <;> rfl
  · unfold mK; rw [List.map_append]; rfl
theorem rv_dDK (h : st[i]? = some (.dk (mK e xs))) : RV (dDK i) st (mK e xs) st := by unfold RV dDK; rw [h]
theorem rv_dDlK (h : st[i]? = some (.lk (mK e xs))) : RV (dDK i) st (mK e xs) st := by unfold RV dDK; rw [h]
theorem rv_dOK (h : st[i]? = some (.dk (mK e xs))) : RV (dOK i) st (mK e xs) st := by unfold RV dOK; rw [h]
theorem key_K (k : Int) : keyK (eI k) = some k := rfl
theorem op_dgtK {k : Int} : OP (match keyK (eI k) with | some q => getA (mK e xs) q | none => none) (oM (getA xs k)) e := by
  rw [key_K]
  simp only
  rw [get_mK]
  exact op_oM rfl
theorem op_dhasK {k : Int} : (match keyK (eI k) with | some q => some (D.bl (if false = true then !(getA (mK e xs) q).isSome else (getA (mK e xs) q).isSome)) | none => none) = some (eB (getA xs k).isSome) := by
  rw [key_K]
  simp only [get_mK, Option.isSome_map]
  rfl
theorem op_dnhasK {k : Int} : (match keyK (eI k) with | some q => some (D.bl (if true = true then !(getA (mK e xs) q).isSome else (getA (mK e xs) q).isSome)) | none => none) = some (eB (!(getA xs k).isSome)) := by
  rw [key_K]
  simp only [get_mK, Option.isSome_map]
  rfl
theorem op_dgdK {k : Int} {d : α} : (match keyK (eI k) with | some q => some ((getA (mK e xs) q).getD (e d)) | none => none) = some (e ((getA xs k).getD d)) := by
  rw [key_K]
  simp only
  rw [get_mK]
  cases getA xs k <;> rfl
theorem op_dgdNK {k : Int} : (match keyK (eI k) with | some q => some ((getA (mK e xs) q).getD (eU ())) | none => none) = some (eO e (getA xs k)) := by
  rw [key_K]
  simp only
  rw [get_mK]
  cases getA xs k <;> rfl
theorem rv_lenK (h : st[i]? = some (.dk (mK e xs))) : RV (dDlenK i) st (eI (xs.length : Int)) st := by unfold RV dDlenK bindD dOK; rw [h]; simp [mK, eI]
def pPutK (xs : List (Int × α)) (k : Int) (v : α) : M (List (Int × α)) := if xs.length < big then .ok (putA xs k v) else .stuck
def storeDK (i : Nat) (x y : D) : DS := bindD (dOK i) fun kvs => match keyK y with
  | some q => if kvs.length < big then putD i (.dk (putA kvs q x)) else fun _ => .stuck
  | none => fun _ => .stuck
theorem x_putK {k : Int} {v : α} (h : st[i]? = some (.dk (mK e xs))) : RX (storeDK i (e v) (eI k)) st (pPutK xs k v) (fun ys => st.set i (.dk (mK e ys))) := by
  unfold pPutK
  by_cases hb : xs.length < big
  · rw [if_pos hb]
    show storeDK i (e v) (eI k) st = _
    have hl : (mK e xs).length < big := by simpa [mK] using hb
    unfold storeDK bindD dOK
    rw [h]
    simp only
    rw [key_K]
    simp only
    rw [if_pos hl, put_mK]
    unfold putD slotSet
    rw [h]
  · rw [if_neg hb]; trivial
theorem rv_dputK {f : DS} {k v : Den D} {K' : γ → Fl → DSt → Prop} : True := trivial
theorem re_lockK {kvs kvs' : List (Int × D)} {f : Den (List D)} {o : M β} {w : β → List D} (hd : st[i]? = some (.dk kvs)) (h : RE f (st.set i (.lk kvs)) o w st1) (hd' : st1[i]? = some (.lk kvs')) (hn : (st1.set i .no).all noLk = true) : RE (dLockK i f) st (pNX o) w (st1.set i (.dk kvs')) := by
  unfold RE at h ⊢
  unfold dLockK
  cases o with
  | ok c => simp only at h ⊢; rw [hd]; simp only; rw [h]; simp only; rw [hd']; simp only; rw [if_pos hn]; rfl
  | exn c fs => trivial
  | stuck => trivial
theorem rv_keysK (h : st[i]? = some (.lk (mK e xs))) : RV (dKeysK i) st (List.map eI (xs.map Prod.fst)) st := by
  unfold RV dKeysK
  rw [h]
  simp only [mK, List.map_map]
  rfl
end
section
variable {X : Cx} {g : G} {W : WX} {P : Par} {σ : L2.St} {H F : Hp} {st : DSt} {e : Expr} {s : Stmt} {f h : Den D}
/-- the dict is locked while f runs -/
def dLockT (i : Nat) (f : Den (List D)) : Den (List D) := fun st => match st[i]? with
  | some (.dt kvs) => match f (st.set i (.lt kvs)) with
    | .ok ds st' => match st'[i]? with
      | some (.lt kvs') => if (st'.set i .no).all noLk = true then .ok ds (st'.set i (.dt kvs')) else .stuck
      | _ => .stuck
    | _ => .stuck
  | _ => .stuck
theorem ev_lockT (ht : g.tk = false) {i : Nat} {f : Den (List D)} (he : PE X e (tN g WN f)) : PE X e (tN g W (dLockT i f)) := (pe_lock he).imp fun σ H Q ⟨P, F, st, s, o⟩ => by
  unfold dLockT at o
  cases hd : st[i]? with
  | none => rw [hd] at o; exact o.elim
  | some sl =>
    rw [hd] at o
    cases sl with
    | dt kvs =>
      simp only at o
      obtain ⟨ov, hov⟩ := SRc.nth s hd
      obtain ⟨O, c⟩ := id s
      obtain ⟨a, vs, rfl, ho, hn, ha, r⟩ := c.sl i _ _ hd hov
      obtain ⟨f0, r0, nt0⟩ := c.oo a i ho
      refine ⟨a, hT kvs vs, ha, trivial, fun od => ?_⟩
      have sf : Same F (upd F a (.frz od (hT kvs vs))) := fun b u eb => by rw [upd_ne (fun z => by rw [z, f0] at eb; cases eb)]; exact eb
      have s1 : SR g P σ (upd H a (.frz od (hT kvs vs))) (upd F a (.frz od (hT kvs vs))) (st.set i (.lt kvs)) := by
        refine ⟨fun b => if b = a then none else O b, fun b u eb => ?_, fun b u eb => ?_, fun b j eb => ?_, fun b nb => ?_, by rw [List.length_set]; exact c.len, fun j s ov e1 e2 => ?_⟩
        · by_cases hb : b = a
          · subst hb; rw [upd_same] at eb ⊢; exact eb
          · rw [upd_ne hb] at eb ⊢; exact c.le b u eb
        · rw [upd_ne (fun z => by rw [z, r0] at eb; cases eb)]; exact c.rr b u eb
        · by_cases hb : b = a
          · subst hb; simp at eb
          · simp only [if_neg hb] at eb
            obtain ⟨q1, q2, q3⟩ := c.oo b j eb
            exact ⟨by rw [upd_ne hb]; exact q1, q2, NT.upd hb q3⟩
        · have hb : b ≠ a := fun z => hn (z ▸ nb)
          exact ⟨by rw [upd_ne hb]; exact (c.no b nb).1, NT.upd hb (c.no b nb).2⟩
        · by_cases hj : j = i
          · subst hj
            rw [List.getElem?_set_self (lt_of_get hd)] at e1
            cases e1
            rw [hov] at e2; cases e2
            exact ⟨a, od, vs, rfl, upd_same, r.mono sf⟩
          · rw [List.getElem?_set_ne (Ne.symm hj)] at e1
            exact (c.sl j s ov e1 e2).move rfl (fun b o1 => by
              have hb : b ≠ a := fun z => hj (by rw [z, ho] at o1; exact (Option.some.inj o1).symm)
              simp only [if_neg hb]; exact o1) sf (fun b u o1 h1 => by
              have hb : b ≠ a := fun z => hj (by rw [z, ho] at o1; exact (Option.some.inj o1).symm)
              rw [upd_ne hb]; exact h1) fun _ _ h => h
      refine ⟨P, _, _, s1, ?_⟩
      revert o
      cases hf : f (st.set i (.lt kvs)) with
      | exn c fs st' => exact fun o => o.elim
      | stuck => exact fun o => o.elim
      | ok ds st' =>
        intro o H' F' p ws le sx hp rws
        simp only at o
        cases hd' : st'[i]? with
        | none => rw [hd'] at o; exact o.elim
        | some sl' =>
          rw [hd'] at o
          cases sl' with
          | lt kvs' =>
            simp only at o
            by_cases hall : (st'.set i .no).all noLk = true
            · rw [if_pos hall] at o
              obtain ⟨O', c', op, fp, rp, np⟩ := sx
              obtain ⟨a', od', vs', ea, fa', r'⟩ := c'.sl i _ _ hd' hov
              cases ea
              have fa : F' a = some (.frz od (hT kvs vs)) := le _ _ upd_same
              have eu : hT kvs' vs' = hT kvs vs := by
                have := Option.some.inj (fa'.symm.trans fa)
                injection this
              have L : Lkd F' a := Lkd.of fa fun vs z => by cases z
              have oa : O' a = none := by
                cases q : O' a with
                | none => rfl
                | some j => rw [(c'.oo a j q).1] at fa; cases fa
              have pa : p ≠ a := fun z => by rw [z, fa] at fp; cases fp
              let F2 : Hp := fun b => if b = a then none else F' b
              have f2n : ∀ b, b ≠ a → F2 b = F' b := fun b hb => if_neg hb
              have e2 : ∀ x o, x ≠ a → F' x = some o → F2 x = some o := fun x o hx eo => by rw [f2n x hx]; exact eo
              refine ⟨c'.le _ _ fa, o (upd H' a (hT kvs vs)) F2 p ws (fun b u eb => ?_) ?_ (by rw [upd_ne pa]; exact hp) (rws.dropA ht L.n1 L.n2 L.n3 L.n4 e2)⟩
              · have hb : b ≠ a := fun z => by rw [z, f0] at eb; cases eb
                rw [f2n b hb]; exact le _ _ (sf _ _ eb)
              · refine ⟨fun b => if b = a then some i else if O' b = some i then none else O' b, ⟨fun b u eb => ?_, fun b u eb => ?_, fun b j eb => ?_, fun b nb => ?_, by rw [List.length_set]; exact c'.len, fun j s ov e1 e3 => ?_⟩, ?_, ?_, rp, np⟩
                · by_cases hb : b = a
                  · subst hb; simp [F2] at eb
                  · rw [f2n b hb] at eb; rw [upd_ne hb]; exact c'.le b u eb
                · rw [upd_ne (fun z => by rw [z, r0] at eb; cases eb)]; exact c'.rr b u eb
                · by_cases hb : b = a
                  · subst hb; exact ⟨if_pos rfl, r0, NT.of upd_same fun xs z => by cases z⟩
                  · simp only [if_neg hb] at eb
                    by_cases hq : O' b = some i
                    · simp [hq] at eb
                    · simp only [if_neg hq] at eb
                      obtain ⟨q1, q2, q3⟩ := c'.oo b j eb
                      exact ⟨by rw [f2n b hb]; exact q1, q2, NT.upd hb q3⟩
                · have hb : b ≠ a := fun z => hn (z ▸ nb)
                  exact ⟨by rw [f2n b hb]; exact (c'.no b nb).1, NT.upd hb (c'.no b nb).2⟩
                · by_cases hj : j = i
                  · subst hj
                    rw [List.getElem?_set_self (lt_of_get hd')] at e1
                    cases e1
                    rw [hov] at e3; cases e3
                    exact ⟨a, vs', rfl, by simp, hn, by rw [eu]; exact upd_same, r'.dropA ht L.n1 L.n2 L.n3 L.n4 e2⟩
                  · rw [List.getElem?_set_ne (Ne.symm hj)] at e1
                    have hk : noLk s = true := by
                      have := List.all_eq_true.mp hall s (List.mem_of_getElem? (i := j) (by rw [List.getElem?_set_ne (Ne.symm hj)]; exact e1))
                      exact this
                    exact (c'.sl j s ov e1 e3).drop ht L oa e2 (fun x u hx eo => by rw [upd_ne hx]; exact eo) (fun b o1 => by
                      have hb : b ≠ a := fun z => by rw [z, oa] at o1; cases o1
                      show (if b = a then some i else if O' b = some i then none else O' b) = some j
                      rw [if_neg hb, if_neg (by rw [o1]; intro z; exact hj (Option.some.inj z))]; exact o1) hk
                · show (if p = a then some i else if O' p = some i then none else O' p) = none
                  rw [if_neg pa, op]; simp
                · rw [f2n p pa]; exact fp
            · rw [if_neg hall] at o; exact o.elim
          | _ => exact o.elim
    | _ => exact o.elim
/-- its keys, in order -/
def dKeysT (i : Nat) : Den (List D) := fun st => match st[i]? with
  | some (.lt kvs) => .ok (kvs.map fun p => kdT p.1) st
  | _ => .stuck
theorem ei_keysT (ht : g.tk = false) {i : Nat} {tg it : Expr} (h : PI X tg it (iKeys (tVar i))) : PI X tg it (tI g W (dKeysT i)) := h.imp fun σ H R ⟨P, F, st, s, o⟩ => by
  unfold dKeysT at o
  split at o
  · rename_i kvs hd
    obtain ⟨ov, hov⟩ := SRc.nth s hd
    obtain ⟨O, c⟩ := id s
    obtain ⟨a, od, vs, rfl, ha, r⟩ := c.sl i _ _ hd hov
    have hl := r.length
    rw [List.length_map] at hl
    have hz : ((kvs.map fun p => (fun k : List Int => k.map (Sum.inl : Int → L2.Key)) p.1).zip vs).length = kvs.length := by simp [hl]
    refine ⟨_, hov, a, od, rfl, .inr ⟨_, c.le _ _ ha, o H F (Same.refl _) s _ ⟨fun H' le => ⟨le _ _ ha, by rw [hz]; simp⟩, fun j H' le hj => ⟨le _ _ ha, by rw [hz]; simpa using hj⟩, fun j H' x H'' le hj y => ?_⟩⟩⟩
    obtain ⟨rfl, k, v, q, hk, rfl, hq⟩ := y
    have hj : j < kvs.length := by simpa using hj
    have hk1 : k = kvs[j].1.map (Sum.inl : Int → L2.Key) := by
      have := congrArg (Option.map Prod.fst) hk
      rw [← List.getElem?_map, List.map_fst_zip (by simp [hl])] at this
      simpa [hj] using this.symm
    subst hk1
    refine ⟨.tup (kvs[j].1.map .int), by simp [hj], .inr ⟨q, kvs[j].1.map V.int, kvs[j].1.map .int, rfl, rfl, Rl.of_ints _, ht, .inl ⟨rfl, ?_⟩⟩⟩
    rw [List.map_map] at hq
    exact hq
  · exact o.elim
end
/-! typed -/
section
variable {α β γ δ τ : Type} {e : α → D} {X : Bool} {K : γ → Fl → DSt → Prop} {st st1 st' : DSt} {i : Nat} {xs : List (List Int × α)}
def mT (e : α → D) (xs : List (List Int × α)) : List (List Int × D) := xs.map fun p => (p.1, e p.2)
theorem get_mT (k : List Int) : ∀ xs : List (List Int × α), getA (mT e xs) k = (getA xs k).map e
  | [] => rfl
  | p :: xs => by
    have ih := get_mT k xs
    unfold mT at ih ⊢
    by_cases h : p.1 = k
    · simp [getA, h]
    · simp only [getA, List.map_cons, List.find?_cons, h, decide_false] at ih ⊢
      exact ih
theorem put_mT (k : List Int) (v : α) (xs : List (List Int × α)) : putA (mT e xs) k (e v) = mT e (putA xs k v) := by
  have ha : ∀ xs : List (List Int × α), ((mT e xs).any fun p => decide (p.1 = k)) = xs.any fun p => decide (p.1 = k) := fun xs => by simp [mT, List.any_map, Function.comp_def]
  unfold putA
  rw [ha]
  split
  · unfold mT
    rw [List.map_map, List.map_map]
    refine List.map_congr_left fun p _ => ?_
    simp only [Function.comp]
    split <;> rfl
  · unfold mT; rw [List.map_append]; rfl
theorem rv_dDT (h : st[i]? = some (.dt (mT e xs))) : RV (dDT i) st (mT e xs) st := by unfold RV dDT; rw [h]
theorem rv_dDlT (h : st[i]? = some (.lt (mT e xs))) : RV (dDT i) st (mT e xs) st := by unfold RV dDT; rw [h]
theorem rv_dOT (h : st[i]? = some (.dt (mT e xs))) : RV (dOT i) st (mT e xs) st := by unfold RV dOT; rw [h]
theorem key_T (k : List Int) : keyT ((eT eI) k) = some k := intsOf_map k
theorem op_dgtT {k : List Int} : OP (match keyT ((eT eI) k) with | some q => getA (mT e xs) q | none => none) (oM (getA xs k)) e := by
  rw [key_T]
  simp only
  rw [get_mT]
  exact op_oM rfl
theorem op_dhasT {k : List Int} : (match keyT ((eT eI) k) with | some q => some (D.bl (if false = true then !(getA (mT e xs) q).isSome else (getA (mT e xs) q).isSome)) | none => none) = some (eB (getA xs k).isSome) := by
  rw [key_T]
  simp only [get_mT, Option.isSome_map]
  rfl
theorem op_dnhasT {k : List Int} : (match keyT ((eT eI) k) with | some q => some (D.bl (if true = true then !(getA (mT e xs) q).isSome else (getA (mT e xs) q).isSome)) | none => none) = some (eB (!(getA xs k).isSome)) := by
  rw [key_T]
  simp only [get_mT, Option.isSome_map]
  rfl
theorem op_dgdT {k : List Int} {d : α} : (match keyT ((eT eI) k) with | some q => some ((getA (mT e xs) q).getD (e d)) | none => none) = some (e ((getA xs k).getD d)) := by
  rw [key_T]
  simp only
  rw [get_mT]
  cases getA xs k <;> rfl
theorem op_dgdNT {k : List Int} : (match keyT ((eT eI) k) with | some q => some ((getA (mT e xs) q).getD (eU ())) | none => none) = some (eO e (getA xs k)) := by
  rw [key_T]
  simp only
  rw [get_mT]
  cases getA xs k <;> rfl
theorem rv_lenT (h : st[i]? = some (.dt (mT e xs))) : RV (dDlenT i) st (eI (xs.length : Int)) st := by unfold RV dDlenT bindD dOT; rw [h]; simp [mT, eI]
def pPutT (xs : List (List Int × α)) (k : List Int) (v : α) : M (List (List Int × α)) := if xs.length < big then .ok (putA xs k v) else .stuck
def storeDT (i : Nat) (x y : D) : DS := bindD (dOT i) fun kvs => match keyT y with
  | some q => if kvs.length < big then putD i (.dt (putA kvs q x)) else fun _ => .stuck
  | none => fun _ => .stuck
theorem x_putT {k : List Int} {v : α} (h : st[i]? = some (.dt (mT e xs))) : RX (storeDT i (e v) ((eT eI) k)) st (pPutT xs k v) (fun ys => st.set i (.dt (mT e ys))) := by
  unfold pPutT
  by_cases hb : xs.length < big
  · rw [if_pos hb]
    show storeDT i (e v) ((eT eI) k) st = _
    have hl : (mT e xs).length < big := by simpa [mT] using hb
    unfold storeDT bindD dOT
    rw [h]
    simp only
    rw [key_T]
    simp only
    rw [if_pos hl, put_mT]
    unfold putD slotSet
    rw [h]
  · rw [if_neg hb]; trivial
theorem rv_dputT {f : DS} {k v : Den D} {K' : γ → Fl → DSt → Prop} : True := trivial
theorem re_lockT {kvs kvs' : List (List Int × D)} {f : Den (List D)} {o : M β} {w : β → List D} (hd : st[i]? = some (.dt kvs)) (h : RE f (st.set i (.lt kvs)) o w st1) (hd' : st1[i]? = some (.lt kvs')) (hn : (st1.set i .no).all noLk = true) : RE (dLockT i f) st (pNX o) w (st1.set i (.dt kvs')) := by
  unfold RE at h ⊢
  unfold dLockT
  cases o with
  | ok c => simp only at h ⊢; rw [hd]; simp only; rw [h]; simp only; rw [hd']; simp only; rw [if_pos hn]; rfl
  | exn c fs => trivial
  | stuck => trivial
theorem rv_keysT (h : st[i]? = some (.lt (mT e xs))) : RV (dKeysT i) st (List.map (eT eI) (xs.map Prod.fst)) st := by
  unfold RV dKeysT
  rw [h]
  simp only [mT, List.map_map]
  rfl
end
section
variable {X : Cx} {g : G} {W : WX} {P : Par} {σ : L2.St} {H F : Hp} {st : DSt} {e : Expr}
/-- sorted(found) -/
def dSortK (i : Nat) : Den (List D) := bindD (dDK i) fun kvs => if kvs.length < 64 then retD ((sortI (kvs.map Prod.fst)).map .int) else fun _ => .stuck
theorem ev_sortK {i : Nat} (he : PE X e (tCB rSortK (tCons (tVar i) tNil))) : PE X e (tN g W (dSortK i)) := he.imp fun σ H Q ⟨P, F, st, s, o⟩ => by
  unfold dSortK bindD at o
  cases e0 : dDK i st with
  | exn c fs st' => unfold dDK at e0; split at e0 <;> cases e0
  | stuck => rw [e0] at o; exact o.elim
  | ok kvs st' =>
    rw [e0] at o
    obtain ⟨rfl, a, vs, hv, hd, r⟩ := rdK s e0
    simp only at o
    by_cases hb : kvs.length < 64
    · rw [if_pos hb] at o
      have hl := r.length
      rw [List.length_map] at hl
      refine ⟨_, hv, a, _, kvs.map Prod.fst, rfl, hd, ?_, by simpa using hb, fun ys p hp hs hn => ?_⟩
      · rw [List.map_fst_zip (by simp [hl])]; simp [List.map_map, Function.comp_def]
      · have ey : ys = sortI (kvs.map Prod.fst) := sorted_unique (hp.trans (sortI_perm _).symm) hs (sortI_sorted _)
        subst ey
        exact o _ F p _ (Same.refl _) (s.newx hn) upd_same (Rl.of_ints _)
    · rw [if_neg hb] at o; exact o.elim
end
section
variable {α : Type} {e : α → D} {st : DSt} {i : Nat} {xs : List (Int × α)}
def pSortK (xs : List (Int × α)) : M (List Int) := if xs.length < 64 then .ok (sortI (xs.map Prod.fst)) else .stuck
theorem re_sortK (h : st[i]? = some (.dk (mK e xs)) ∨ st[i]? = some (.lk (mK e xs))) : RE (dSortK i) st (pSortK xs) (List.map eI) st := by
  unfold pSortK
  have hd : dDK i st = .ok (mK e xs) st := by
    unfold dDK
    rcases h with h | h <;> rw [h]
  have hl : (mK e xs).length = xs.length := by simp [mK]
  by_cases hb : xs.length < 64
  · rw [if_pos hb]
    show dSortK i st = _
    unfold dSortK bindD
    rw [hd]
    simp only
    rw [if_pos (by rw [hl]; exact hb)]
    have : (mK e xs).map Prod.fst = xs.map Prod.fst := by simp [mK, List.map_map, Function.comp_def]
    rw [this]; rfl
  · rw [if_neg hb]; trivial
end
end DL

namespace DL
open PySem PySem.Spec PyProof.Rows L2
/-! ### {k: v} -/
def tDispT1 (tk tv : TE) : TE := fun σ H Q => ∀ p, H p = none → tk σ (upd H p (.dT [])) fun x H1 => tv σ H1 fun y H2 => H2 p = some (.dT []) ∧ ∃ (b : Addr) (ks : List L2.Key), x = .ref b ∧ H2 b = some (.tup (ks.map kV)) ∧ Q (.ref p) (upd H2 p (.dT [(ks, y)]))
theorem pe_dispT1 {X : Cx} {pos : Pos} {k v : Expr} {tk tv : TE} (hu : X.A.units + 1 < cLine) (hk : PE X k tk) (hv : PE X v tv) : PE X (.Dict [some k] [v] pos) (tDispT1 tk tv) := by
  refine ⟨fun pins s σ H Q I q => ?_⟩
  have hn := I.hok.fresh (Nat.le_refl s.heap.objs.size)
  have I1 := I.laid (a := s.heap.objs.size) (o := .dT []) (h' := s.heap.push { cls := .type "dict", data := .dict #[] }) (t' := s.toks) (fun _ _ q => Heap.get?_push_of_some _ q) (Nat.le_refl _) (dt_empty s.heap I.big)
  rw [arm_eval_Dict, zip_pairTrees [some k] [v] X.env pos (by rfl) rfl, dictDisplay_pairs (pairTrees [some k] [v] X.env pos) (by simp [pairTrees]) (by simp [pairTrees])]
  refine wpAny_bind (wpAny_standAt (wpAny_bind (wpAny_subDictH (knd := tupleKind (mixKind X.prog X.w)) (Q := fun d s' => wpAny (model X.prog X.w) X.A (pure (Value.ref d)) _ X.xe s') (show X.A.units < cLine by omega) (by simp [pairTrees]) ?_)))
  refine pairTrees_cons_walk (thn (hk.run pins _ σ _ _ I1 (q _ hn)) fun u s1 ⟨x, H1, I2, rx, q1⟩ => thn (hv.run pins s1 σ H1 _ I2 q1) fun w2 s2 ⟨y, H2, I3, ry, hd, b, ks, ex, hb, q2⟩ => pairTrees_nil_walk ?_)
  subst ex
  cases rx
  obtain ⟨z, hsd, xs, rel, dd⟩ := dt_of I3.hok hd
  cases rel
  refine ⟨[(ks, b, w2)], ⟨rfl, rfl, key_of I3.hok hb, trivial⟩, dd, fun h' tk dd' hs => wpAny_pure ⟨.ref s.heap.objs.size, _, ?_, rfl, q2⟩⟩
  have e : storedAllH ([] : List (List L2.Key × Addr × Value)) [(ks, b, w2)] = [(ks, b, w2)] := rfl
  rw [e] at dd'
  obtain ⟨o, es, ep, hq, h2, h3, h4, _, h5⟩ := dd'
  refine d_write I3 (by rw [hd]; exact True.intro) hs ⟨o, hq⟩ ⟨by rw [List.length_singleton, sizeLine_eq]; omega, hsd, [(ks, b, w2)], .cons ⟨rfl, ?_, ry⟩ .nil, o, es, ep, hq, h2, h3, h4, h5⟩
  rw [upd_ne (ne_of hb hd (fun z => nomatch z))]
  exact hb
section
variable {g : G} {P : Par} {σ : L2.St} {H F : Hp} {st : DSt}
/-- a new thing that stays as it is -/
def gdG (P : Par) (p : Addr) (u : HO) : Par := ⟨P.B, upd P.R p u, fun a => P.N a ∨ a = p⟩
theorem SR.guardG {p : Addr} {u : HO} (nt : ∀ xs, u ≠ .tup xs) (s : SR g P σ H F st) (h : H p = none) : SR g (gdG P p u) σ (upd H p u) F st ∧ P.R p = none ∧ ¬ P.N p := by
  obtain ⟨O, c, o0, f0, r0, n0⟩ := s.newx (o := u) h
  refine ⟨⟨O, c.le, fun b w e => ?_, fun b i e => ⟨(c.oo b i e).1, ?_, (c.oo b i e).2.2⟩, fun b n => ?_, c.len, fun i s ov e1 e2 => ?_⟩, r0, n0⟩
  · have e : upd P.R p u b = some w := e
    by_cases hb : b = p
    · subst hb; rw [upd_same] at e; rw [← e]; exact upd_same
    · rw [upd_ne hb] at e; exact c.rr b w e
  · have hb : b ≠ p := fun z => by rw [z, o0] at e; cases e
    show upd P.R p u b = none
    rw [upd_ne hb]; exact (c.oo b i e).2.1
  · rcases n with n | rfl
    · exact c.no b n
    · exact ⟨f0, NT.of upd_same nt⟩
  · exact (c.sl i s ov e1 e2).move rfl (fun _ h => h) (Same.refl _) (fun _ _ _ h => h) fun b o n => fun z => Or.elim z n fun z => by rw [z, o0] at o; cases o
theorem SR.unguardG {p : Addr} {u : HO} (r0 : P.R p = none) (n0 : ¬ P.N p) (s : SR g (gdG P p u) σ H F st) : H p = some u ∧ SRx g P σ H F st p := by
  obtain ⟨O, c⟩ := s
  have o0 : O p = none := by
    cases e : O p with
    | none => rfl
    | some i =>
      have z : upd P.R p u p = none := (c.oo p i e).2.1
      rw [upd_same] at z; cases z
  refine ⟨c.rr p _ upd_same, O, ⟨c.le, fun b w e => ?_, fun b i e => ?_, fun b n => c.no b (.inl n), c.len, fun i s ov e1 e2 => ?_⟩, o0, (c.no p (.inr rfl)).1, r0, n0⟩
  · have hb : b ≠ p := fun z => by rw [z, r0] at e; cases e
    exact c.rr b w (by show upd P.R p u b = some w; rw [upd_ne hb]; exact e)
  · have hb : b ≠ p := fun z => by rw [z, o0] at e; cases e
    obtain ⟨h1, h2, h3⟩ := c.oo b i e
    have h2 : upd P.R p u b = none := h2
    rw [upd_ne hb] at h2
    exact ⟨h1, h2, h3⟩
  · exact (c.sl i s ov e1 e2).move rfl (fun _ h => h) (Same.refl _) (fun _ _ _ h => h) fun _ _ n z => n (.inl z)
theorem SRx.chg {p : Addr} {u' : HO} (nt : ∀ xs, u' ≠ .tup xs) (s : SRx g P σ H F st p) : SRx g P σ (upd H p u') F st p := by
  obtain ⟨O, c, o0, f0, r0, n0⟩ := s
  refine ⟨O, ⟨fun b w e => ?_, fun b w e => ?_, fun b i e => ?_, fun b n => ?_, c.len, fun i s ov e1 e2 => ?_⟩, o0, f0, r0, n0⟩
  · rw [upd_ne (fun z => by rw [z, f0] at e; cases e)]; exact c.le b w e
  · rw [upd_ne (fun z => by rw [z, r0] at e; cases e)]; exact c.rr b w e
  · have hb : b ≠ p := fun z => by rw [z, o0] at e; cases e
    exact ⟨(c.oo b i e).1, (c.oo b i e).2.1, NT.upd hb (c.oo b i e).2.2⟩
  · have hb : b ≠ p := fun z => n0 (z ▸ n)
    exact ⟨(c.no b n).1, NT.upd hb (c.no b n).2⟩
  · exact (c.sl i s ov e1 e2).move rfl (fun _ h => h) (Same.refl _) (fun b w o h => by rw [upd_ne (fun z => by rw [z, o0] at o; cases o)]; exact h) fun _ _ h => h
end
section
variable {X : Cx} {k v : Expr} {pos : Pos} {tk tv : TE}
theorem pe_dispK1 (hk : PE X k tk) (hv : PE X v tv) : PE X (.Dict [some k] [v] pos) (tDisp [(tk, tv)]) := pe_disp (pps_cons hk hv pps_nil) rfl rfl (by simp) (by simp)
end
section
variable {X : Cx} {g : G} {W : WX} {P : Par} {σ : L2.St} {H F : Hp} {st : DSt} {s : Stmt} {k v : Den D}
def dispDK (i : Nat) (x y : D) : DS := match keyK x with
  | some q => putD i (.dk [(q, y)])
  | none => fun _ => .stuck
@[simp] def sDispK (i : Nat) (k v : Den D) : DS := bindD k fun x => bindD v fun y => dispDK i x y
theorem es_dispK  {i : Nat} (he : PS X s (tAsg (tDisp [(tE g W k, tE g W v)]) (gName i))) : PS X s (tS g W (sDispK i k v)) := he.imp fun E σ H ⟨P, F, st, s, o⟩ p hp => by
  obtain ⟨s1, r0, n0⟩ := s.guardG (u := hK [] []) (fun xs z => by cases z) hp
  refine ⟨_, F, st, s1, ?_⟩
  have o : OutS g W P F (bindD k (fun x => bindD v fun y => dispDK i x y) st) E := o
  cases ek : k st with
  | stuck => unfold bindD at o; rw [ek] at o; exact o.elim
  | exn c fs st' => unfold bindD at o; rw [ek] at o; exact fun cls dd H' F' le s' rx => o cls dd σ H' F' le (SR.unguardG r0 n0 s').2.sr rx
  | ok x st1 =>
    intro H1 F1 le1 s1 u rx
    refine ⟨_, F1, st1, s1, ?_⟩
    have o : OutS g W P F (bindD v (fun y => dispDK i x y) st1) E := by unfold bindD at o; rw [ek] at o; exact o
    cases ev : v st1 with
    | stuck => unfold bindD at o; rw [ev] at o; exact o.elim
    | exn c fs st' => unfold bindD at o; rw [ev] at o; exact fun cls dd H' F' le s' rx => o cls dd σ H' F' (le1.trans le) (SR.unguardG r0 n0 s').2.sr rx
    | ok y st2 =>
      intro H2 F2 le2 s2 w ry
      have o : OutS g W P F (dispDK i x y st2) E := by unfold bindD at o; rw [ev] at o; exact o
      obtain ⟨hd, sx⟩ := SR.unguardG r0 n0 s2
      unfold dispDK at o
      cases hk : keyK x with
      | none => rw [hk] at o; exact o.elim
      | some q =>
        rw [hk] at o
        unfold putD at o
        simp only at o
        split at o
        · rename_i st3 h
          obtain ⟨hi, rfl⟩ := slotSet_some h
          have rx := rx.mono le2
          have fin := o _ (upd H2 p (hK [(q, y)] [w])) F2 (le1.trans le2) ((sx.chg (u' := hK [(q, y)] [w]) (fun xs z => by cases z)).ownG (sl := .dk [(q, y)]) (NT.of upd_same fun xs z => by cases z) (fun O o1 n1 => ⟨p, [w], rfl, o1, n1, upd_same, .cons ry .nil⟩) hi)
          cases x with
          | int j =>
            cases hk
            cases rx
            exact ⟨hd, [(Sum.inl _, w)], rfl, by simp, fin⟩
          | _ => cases hk
        · exact o.elim
end
section
variable {α γ : Type} {e : α → D} {X : Bool} {K : γ → Fl → DSt → Prop} {st : DSt} {i : Nat}
theorem x_dispK {q : Int} {y : α} {st1 : DSt} (h : slotSet i (.dk (mK e [(q, y)])) st = some st1) : dispDK i (eI q) (e y) st = .ok .nx st1 := by
  unfold dispDK
  rw [key_K]
  simp only
  unfold putD
  have : slotSet i (.dk [(q, e y)]) st = some st1 := h
  rw [this]
end
section
variable {X : Cx} {g : G} {W : WX} {P : Par} {σ : L2.St} {H F : Hp} {st : DSt} {s : Stmt} {k v : Den D}
def dispDT (i : Nat) (x y : D) : DS := match keyT x with
  | some q => putD i (.dt [(q, y)])
  | none => fun _ => .stuck
@[simp] def sDispT (i : Nat) (k v : Den D) : DS := bindD k fun x => bindD v fun y => dispDT i x y
theorem es_dispT (ht : g.tk = false) {i : Nat} (he : PS X s (tAsg (tDispT1 (tE g W k) (tE g W v)) (gName i))) : PS X s (tS g W (sDispT i k v)) := he.imp fun E σ H ⟨P, F, st, s, o⟩ p hp => by
  obtain ⟨s1, r0, n0⟩ := s.guardG (u := hT [] []) (fun xs z => by cases z) hp
  refine ⟨_, F, st, s1, ?_⟩
  have o : OutS g W P F (bindD k (fun x => bindD v fun y => dispDT i x y) st) E := o
  cases ek : k st with
  | stuck => unfold bindD at o; rw [ek] at o; exact o.elim
  | exn c fs st' => unfold bindD at o; rw [ek] at o; exact fun cls dd H' F' le s' rx => o cls dd σ H' F' le (SR.unguardG r0 n0 s').2.sr rx
  | ok x st1 =>
    intro H1 F1 le1 s1 u rx
    refine ⟨_, F1, st1, s1, ?_⟩
    have o : OutS g W P F (bindD v (fun y => dispDT i x y) st1) E := by unfold bindD at o; rw [ek] at o; exact o
    cases ev : v st1 with
    | stuck => unfold bindD at o; rw [ev] at o; exact o.elim
    | exn c fs st' => unfold bindD at o; rw [ev] at o; exact fun cls dd H' F' le s' rx => o cls dd σ H' F' (le1.trans le) (SR.unguardG r0 n0 s').2.sr rx
    | ok y st2 =>
      intro H2 F2 le2 s2 w ry
      have o : OutS g W P F (dispDT i x y st2) E := by unfold bindD at o; rw [ev] at o; exact o
      obtain ⟨hd, sx⟩ := SR.unguardG r0 n0 s2
      unfold dispDT at o
      cases hk : keyT x with
      | none => rw [hk] at o; exact o.elim
      | some q =>
        rw [hk] at o
        unfold putD at o
        simp only at o
        split at o
        · rename_i st3 h
          obtain ⟨hi, rfl⟩ := slotSet_some h
          have rx := rx.mono le2
          have fin := o _ (upd H2 p (hT [(q, y)] [w])) F2 (le1.trans le2) ((sx.chg (u' := hT [(q, y)] [w]) (fun xs z => by cases z)).ownG (sl := .dt [(q, y)]) (NT.of upd_same fun xs z => by cases z) (fun O o1 n1 => ⟨p, [w], rfl, o1, n1, upd_same, .cons ry .nil⟩) hi)
          obtain ⟨b, rfl, hb⟩ := tupAt ht s2.le rx hk
          exact ⟨hd, b, _, rfl, hb, fin⟩
        · exact o.elim
end
section
variable {α γ : Type} {e : α → D} {X : Bool} {K : γ → Fl → DSt → Prop} {st : DSt} {i : Nat}
theorem x_dispT {q : List Int} {y : α} {st1 : DSt} (h : slotSet i (.dt (mT e [(q, y)])) st = some st1) : dispDT i ((eT eI) q) (e y) st = .ok .nx st1 := by
  unfold dispDT
  rw [key_T]
  simp only
  unfold putD
  have : slotSet i (.dt [(q, e y)]) st = some st1 := h
  rw [this]
end
end DL

namespace DL
open PySem PySem.Spec PyProof.Rows L2
/-! ### `<` of tuples of ints, or of ints -/
def opLtA (x y : D) : Option D := match x, y with
  | .tup xs, .tup ys => match intsOf xs, intsOf ys with
    | some ns, some ms => some (.bl (HT.lexLt ns ms))
    | _, _ => none
  | x, y => opLt x y
def rLtA (K : PySem.W.Frag) : R2 := fun x y H Q => rI0 (fun i j => .bl (decide (i < j))) x y H Q ∨ rLtT K x y H Q
theorem op_ltA {X : Cx} (hu : X.A.units + 64 < cLine) : OpR X (compareOp .Lt) (rLtA X.K) := op_lt.or (L2.op_ltT (by omega))
section
variable {g : G}
theorem vo_ltA : VO2 g (rLtA g.K) opLtA := by
  intro H F v u d e z l rd re h Q q
  unfold opLtA at h
  split at h
  · split at h
    · rename_i xs ys ns ms h1 h2
      cases h
      obtain ⟨a, vs, rfl, p1, r1⟩ := rd.tup l
      obtain ⟨b, us, rfl, p2, r2⟩ := re.tup l
      rw [intsOf_eq h1] at r1
      rw [intsOf_eq h2] at r2
      rw [Rl.ints r1] at p1
      rw [Rl.ints r2] at p2
      exact .inr ⟨a, b, ns, ms, rfl, rfl, p1, p2, q _ _ _ (Grow.refl l) (.bl _)⟩
    · cases h
  · exact .inl (vo_cmpI _ H F v u d e z l rd re h Q q)
end
theorem op_ltAI {x y : Int} : opLtA (eI x) (eI y) = some (eB (decide (x < y))) := rfl
theorem op_ltAT {xs ys : List Int} : opLtA (eT eI xs) (eT eI ys) = some (eB (HT.lexLt xs ys)) := by
  show (match intsOf (xs.map eI), intsOf (ys.map eI) with
    | some ns, some ms => some (D.bl (HT.lexLt ns ms))
    | _, _ => none) = _
  rw [intsOf_map, intsOf_map]
end DL

namespace DL
open PySem PySem.Spec PyProof.Rows L2
/-! ### a test that looks only -/
@[simp] def dPeekB (f : Den Bool) : Den Bool := fun st => match f (st.map frzS) with
  | .ok b _ => .ok b st
  | _ => .stuck
section
variable {X : Cx} {g : G} {W : WX} {P : Par} {σ : L2.St} {H F : Hp} {st : DSt} {e : Expr} {f : Den Bool}
theorem et_peek (he : PT X e (tT g W f)) : PT X e (tT g W (dPeekB f)) := he.imp fun σ H Q ⟨P, F, st, s, o⟩ => by
  obtain ⟨F1, sf, s1, back⟩ := s.still
  refine ⟨_, F1, _, s1, ?_⟩
  revert o
  simp only [dPeekB]
  cases f (st.map frzS) with
  | ok b st' =>
    simp only
    intro o H' F' le s'
    obtain ⟨_, c'⟩ := s'
    obtain ⟨F2, s2, le2, keep⟩ := back H' F' c'.rr le c'.le fun a h1 h2 => (c'.no a ⟨h1, h2⟩).1
    exact o H' F2 le2 s2
  | exn c fs st' => exact fun o => o.elim
  | stuck => exact fun o => o.elim
end
theorem rv_peekB {f : Den Bool} {b : Bool} {st st' : DSt} (h : RV f (st.map frzS) b st') : RV (dPeekB f) st b st := by
  unfold RV dPeekB
  rw [show f _ = _ from h]
theorem re_peekB {f : Den Bool} {o : M α} {w : α → Bool} {st st' : DSt} (h : RE f (st.map frzS) o w st') : RE (dPeekB f) st (pNX o) w st := by
  cases o with
  | ok c => exact rv_peekB h
  | exn c fs => trivial
  | stuck => trivial
/-! ### a tuple of ints out of data -/
def pRow : D → M (List Int)
  | .tup ds => match intsOf ds with | some t => .ok t | none => .stuck
  | _ => .stuck
theorem pRow_e (xs : List Int) : pRow (eT eI xs) = .ok xs := by
  show (match intsOf (xs.map eI) with | some t => M.ok t | none => .stuck) = _
  rw [intsOf_map]
theorem re_row {f : Den D} {d : D} {st st1 : DSt} (h : RV f st d st1) : RE f st (pRow d) (eT eI) st1 := by
  unfold pRow
  split
  · split
    · rename_i ht
      rw [intsOf_eq ht] at h
      exact h
    · trivial
  · trivial
theorem re_rowG {f : Den D} {o : M D} {st st1 : DSt} (h : RE f st o eD st1) : RE f st (o.bind pRow) (eT eI) st1 := by
  cases o with
  | ok d => exact re_row h
  | exn c fs => exact h
  | stuck => trivial
/-! ### a semigroup out of data -/
def pSG : D → M (Int × List (List Int))
  | .ins c [a, b] [.int n, .tup ds] => if c = "Semigroup" ∧ a = "n" ∧ b = "table" then (match tupsOf ds with | some t => .ok (n, t) | none => .stuck) else .stuck
  | _ => .stuck
theorem pSG_e (s : Int × List (List Int)) : pSG (eC2 "Semigroup" "n" "table" eI (eT (eT eI)) s) = .ok s := by
  obtain ⟨n, t⟩ := s
  show (if ("Semigroup" : Str) = "Semigroup" ∧ ("n" : Str) = "n" ∧ ("table" : Str) = "table" then (match tupsOf (t.map (eT eI)) with | some t => M.ok (n, t) | none => .stuck) else .stuck) = _
  rw [if_pos ⟨rfl, rfl, rfl⟩, tupsOf_map]
theorem re_sg {f : Den D} {d : D} {st st1 : DSt} (h : RV f st d st1) : RE f st (pSG d) (eC2 "Semigroup" "n" "table" eI (eT (eT eI))) st1 := by
  unfold pSG
  split
  · split
    · rename_i hc
      obtain ⟨rfl, rfl, rfl⟩ := hc
      split
      · rename_i ht
        rw [tupsOf_eq ht] at h
        exact h
      · trivial
    · trivial
  · trivial
theorem re_sgG {f : Den D} {o : M D} {st st1 : DSt} (h : RE f st o eD st1) : RE f st (o.bind pSG) (eC2 "Semigroup" "n" "table" eI (eT (eT eI))) st1 := by
  cases o with
  | ok d => exact re_sg h
  | exn c fs => exact h
  | stuck => trivial
theorem re_methG {α β : Type} {st st1 st2 : DSt} {c m : Str} {ns : List Str} {e : β → D} {dsf : β → List D} {df : List D → M D} {a : Den D} {fa : Den (List D)} {o1 : M β} {k : β → M α} {w : α → D} (he : ∀ b, e b = .ins c ns (dsf b)) (ha : RE a st o1 e st1) (hm : ∀ b, getN ns (dsf b) m = none) (hl : ∀ b, ns.length = (dsf b).length) (h : ∀ b, RE (bindD fa (methK df (.ins c ns (dsf b)))) st1 (k b) w st2) : RE (dMeth c m df a fa) st (o1.bind k) w st2 := by
  cases o1 with
  | ok b =>
    have ha' : RV a st (.ins c ns (dsf b)) st1 := by rw [← he b]; exact ha
    exact re_meth ha' (hm b) (hl b) (h b)
  | exn c fs =>
    obtain ⟨s, h⟩ := ha
    exact ⟨s, by simp only [dMeth, bindD, h]⟩
  | stuck => trivial
end DL

namespace DL
open PySem PySem.Spec PyProof.Rows L2
/-! ### words: their signs one by one, slices, str.index -/
def signs (z : Str) : List Str := z.cps.toList.map fun c => ⟨#[c]⟩
@[simp] def strItems : D → Option (List D)
  | .str z => some ((signs z).map D.str)
  | _ => none
@[simp] def dStrItems (f : Den D) : Den (List D) := bindD f fun d => liftO (strItems d)
@[simp] def opSlS (d : D) (lo hi : Option Int) : Option D := match d with
  | .str z => if z.length ≤ big then some (.str (cutS z lo hi)) else none
  | _ => none
@[simp] def dSlS (a : Den D) (lo hi : Den (Option Int)) : Den D := bindD a fun x => bindD lo fun l => bindD hi fun u => liftO (opSlS x l u)
@[simp] def isStrD : D → Option Unit
  | .str _ => some ()
  | _ => none
@[simp] def opIndexS : D → D → Option D
  | .str a, .str b => match Builtin.Str.occurrences a b 0 a.length 1 with
    | i :: _ => some (.int (i : Nat))
    | [] => none
  | _, _ => none
@[simp] def dIndexS (f h : Den D) : Den D := bindD f fun x => bindD (liftO (isStrD x)) fun _ => bindD h fun y => liftO (opIndexS x y)
def rSIdx : V → List V → Hp → VK → Prop := fun x xs H Q => ∃ a b i rest, x = .str a ∧ xs = [.str b] ∧ Builtin.Str.occurrences a b 0 a.length 1 = i :: rest ∧ Q (.int (i : Nat)) H
section
variable {X : Cx} {g : G} {W : WX} {P : Par} {σ : L2.St} {H F : Hp} {st : DSt} {e : Expr} {f h : Den D}
theorem wk_s {F : Hp} (z : Str) : Wk g (Its z) F ((signs z).map D.str) where
  stop := fun H' le => by
    show z.cps.size ≤ ((signs z).map D.str).length
    simp [signs]
  go := fun i H' le hi => by
    show i < z.cps.size
    simpa [signs] using hi
  yld := fun i H' x H'' le hi y => by
    obtain ⟨e, c, hc, rfl⟩ := y
    refine ⟨.str ⟨#[c]⟩, ?_, .inl ⟨e, .str _⟩⟩
    unfold signs
    rw [List.getElem?_map, List.getElem?_map, Array.getElem?_toList, hc]
    rfl
theorem ei_str {tg it : Expr} (h : PI X tg it (iStr (tE g W f))) : PI X tg it (tI g W (dStrItems f)) := h.imp fun σ H R ⟨P, F, st, s, o⟩ =>
  ⟨P, F, st, s, o.bind.imp fun d st1 H1 F1 le1 s1 o1 v rx => by
    obtain ⟨ds, ez, q⟩ := o1.lift
    have q := q H1 F1 (Same.refl _) s1
    cases d with
    | str z =>
      cases ez
      cases rx
      exact ⟨z, rfl, q _ (wk_s z)⟩
    | _ => cases ez⟩
theorem ev_slS {lo hi : Den (Option Int)} (he : PE X e (tSl rSlS (tE g W f) (tO g W lo) (tO g W hi))) : PE X e (tE g W (dSlS f lo hi)) := he.imp fun σ H Q ⟨P, F, st, s, o⟩ =>
  ⟨P, F, st, s, o.bind.imp fun x st1 H1 F1 le1 s1 o1 v rx => ⟨P, F1, st1, s1, o1.bind.imp fun l st2 H2 F2 le2 s2 o2 => ⟨P, F2, st2, s2, o2.bind.imp fun u st3 H3 F3 le3 s3 o3 => by
    obtain ⟨z, ez, q⟩ := o3.lift
    have q := q H3 F3 (Same.refl _) s3
    cases x with
    | str y =>
      cases rx
      unfold opSlS at ez
      simp only at ez
      split at ez
      · rename_i hl
        cases ez
        exact ⟨y, rfl, by rw [sizeLine_eq]; exact hl, q _ (.str _)⟩
      · cases ez
    | _ => cases ez⟩⟩⟩
theorem ev_indexS (he : PE X e (tM1 rSIdx (tE g W f) (tE g W h))) : PE X e (tE g W (dIndexS f h)) := he.imp fun σ H Q ⟨P, F, st, s, o⟩ =>
  ⟨P, F, st, s, o.bind.imp fun x st1 H1 F1 le1 s1 o1 v rx => by
    obtain ⟨u0, hx, q⟩ := Out.lift o1.bind
    cases x with
    | str a =>
      cases rx
      refine ⟨⟨a, rfl⟩, P, F1, st1, s1, Out.imp (Out.bind (q H1 F1 (Same.refl _) s1)) fun y st2 H2 F2 le2 s2 o2 u ry => ?_⟩
      obtain ⟨z, ez, q⟩ := o2.lift
      have q := q H2 F2 (Same.refl _) s2
      cases y with
      | str b =>
        cases ry
        unfold opIndexS at ez
        simp only at ez
        split at ez
        · rename_i i rest ho
          cases ez
          exact ⟨a, b, i, rest, rfl, rfl, ho, q _ (.int _)⟩
        · cases ez
      | _ => cases ez
    | _ => cases hx⟩
end
/-! typed -/
section
variable {st st1 : DSt}
theorem op_signs {z : Str} : strItems (eS z) = some ((signs z).map eS) := rfl
def pSlS (z : Str) (lo hi : Option Int) : M Str := if z.length ≤ big then .ok (cutS z lo hi) else .stuck
theorem op_slS {z : Str} {lo hi : Option Int} : OP (opSlS (eS z) lo hi) (pSlS z lo hi) eS := by
  unfold pSlS
  show OP (if z.length ≤ big then some (D.str (cutS z lo hi)) else none) _ _
  by_cases h : z.length ≤ big
  · rw [if_pos h, if_pos h]; rfl
  · rw [if_neg h, if_neg h]; trivial
def pIdxS (a b : Str) : M Int := match Builtin.Str.occurrences a b 0 a.length 1 with
  | i :: _ => .ok (i : Nat)
  | [] => .stuck
theorem op_idxS {a b : Str} : OP (opIndexS (eS a) (eS b)) (pIdxS a b) eI := by
  unfold pIdxS
  show OP (match Builtin.Str.occurrences a b 0 a.length 1 with | i :: _ => some (D.int (i : Nat)) | [] => none) _ _
  cases Builtin.Str.occurrences a b 0 a.length 1 with
  | nil => trivial
  | cons i r => rfl
def pInS (a b : Str) : Bool := !(Builtin.Str.occurrences b a 0 b.length 1).isEmpty
theorem op_inS {a b : Str} : opIn (eS a) (eS b) = some (eB (pInS a b)) := rfl
theorem op_notInS {a b : Str} : opNotIn (eS a) (eS b) = some (eB (!pInS a b)) := rfl
def pStrD : D → M Str
  | .str z => .ok z
  | _ => .stuck
theorem re_strD {f : Den D} {d : D} (h : RV f st d st1) : RE f st (pStrD d) eS st1 := by
  cases d <;> first | exact h | trivial
theorem re_strDG {f : Den D} {o : M D} (h : RE f st o eD st1) : RE f st (o.bind pStrD) eS st1 := by
  cases o with
  | ok d => exact re_strD h
  | exn c fs => exact h
  | stuck => trivial
def pRepS (z : Str) (k : Int) : M Str := if z.length ≤ 1000 ∧ 1 ≤ k ∧ k ≤ 1000 then .ok (strRep z k) else .stuck
theorem op_repSA {z : Str} {k : Int} : OP (opMulA (eS z) (eI k)) (pRepS z k) eS := by
  unfold pRepS
  show OP (if z.length ≤ 1000 ∧ 1 ≤ k ∧ k ≤ 1000 then some (D.str (strRep z k)) else none) _ _
  by_cases h : z.length ≤ 1000 ∧ 1 ≤ k ∧ k ≤ 1000
  · rw [if_pos h, if_pos h]; rfl
  · rw [if_neg h, if_neg h]; trivial
/-- rows of two -/
def pPairsI : List (List Int) → M (List (Int × Int))
  | [] => .ok []
  | [a, b] :: r => match pPairsI r with
    | .ok q => .ok ((a, b) :: q)
    | _ => .stuck
  | _ :: _ => .stuck
theorem pPairsI_eq : ∀ {ds : List (List Int)} {q : List (Int × Int)}, pPairsI ds = .ok q → ds = q.map fun p => [p.1, p.2]
  | [], q, h => by cases h; rfl
  | d :: r, q, h => by
    unfold pPairsI at h
    split at h
    · rename_i h0; cases h0
    · rename_i a b r' h0
      cases h0
      split at h
      · rename_i q' hq
        cases h
        rw [pPairsI_eq hq]; rfl
      · cases h
    · cases h
theorem re_pairsI {f : Den (List D)} {o : M (List (List Int))} (h : RE f st o (List.map (eT eI)) st1) : RE f st (o.bind fun ds => pNX (pPairsI ds)) (List.map (eP2 eI eI)) st1 := by
  cases o with
  | ok d =>
    cases hp : pPairsI d with
    | ok q =>
      have h : f st = .ok (d.map (eT eI)) st1 := h
      rw [pPairsI_eq hp, List.map_map] at h
      simp only [bind_ok, hp, pNX_ok]
      exact h
    | exn c fs => simp only [bind_ok, hp]; trivial
    | stuck => simp only [bind_ok, hp]; trivial
  | exn c fs => exact h
  | stuck => trivial
theorem re_pairsIL {f : Den D} {o : M (List (List Int))} (h : RE f st o (eL (eT eI)) st1) : RE f st (o.bind fun ds => pNX (pPairsI ds)) (eL (eP2 eI eI)) st1 := by
  cases o with
  | ok d =>
    cases hp : pPairsI d with
    | ok q =>
      have h : f st = .ok (.lst (d.map (eT eI))) st1 := h
      rw [pPairsI_eq hp, List.map_map] at h
      simp only [bind_ok, hp, pNX_ok]
      exact h
    | exn c fs => simp only [bind_ok, hp]; trivial
    | stuck => simp only [bind_ok, hp]; trivial
  | exn c fs => exact h
  | stuck => trivial
end
section
variable {α τ : Type} {st st' : DSt} {S : τ → DSt}
theorem rv_dStrItems {f : Den D} {y : (List D)} (hh : RV (bindD f fun d => liftO (strItems d)) st y st') : RV (dStrItems f) st y st' := hh
theorem re_dStrItems {f : Den D} {o : M α} {v : α → (List D)} (hh : RE (bindD f fun d => liftO (strItems d)) st o v st') : RE (dStrItems f) st o v st' := hh
theorem rt_dStrItems {f : Den D} {o : M (α × τ)} {v : α → (List D)} (hh : RT (bindD f fun d => liftO (strItems d)) st o v S) : RT (dStrItems f) st o v S := hh
theorem rv_dSlS {a : Den D} {lo hi : Den (Option Int)} {y : D} (hh : RV (bindD a fun x => bindD lo fun l => bindD hi fun u => liftO (opSlS x l u)) st y st') : RV (dSlS a lo hi) st y st' := hh
theorem re_dSlS {a : Den D} {lo hi : Den (Option Int)} {o : M α} {v : α → D} (hh : RE (bindD a fun x => bindD lo fun l => bindD hi fun u => liftO (opSlS x l u)) st o v st') : RE (dSlS a lo hi) st o v st' := hh
theorem rt_dSlS {a : Den D} {lo hi : Den (Option Int)} {o : M (α × τ)} {v : α → D} (hh : RT (bindD a fun x => bindD lo fun l => bindD hi fun u => liftO (opSlS x l u)) st o v S) : RT (dSlS a lo hi) st o v S := hh
theorem rv_dIndexS {f h : Den D} {y : D} (hh : RV (bindD f fun x => bindD (liftO (isStrD x)) fun _ => bindD h fun y => liftO (opIndexS x y)) st y st') : RV (dIndexS f h) st y st' := hh
theorem re_dIndexS {f h : Den D} {o : M α} {v : α → D} (hh : RE (bindD f fun x => bindD (liftO (isStrD x)) fun _ => bindD h fun y => liftO (opIndexS x y)) st o v st') : RE (dIndexS f h) st o v st' := hh
theorem rt_dIndexS {f h : Den D} {o : M (α × τ)} {v : α → D} (hh : RT (bindD f fun x => bindD (liftO (isStrD x)) fun _ => bindD h fun y => liftO (opIndexS x y)) st o v S) : RT (dIndexS f h) st o v S := hh
end
theorem noLk_jk (j : Option D) : noLk (jk j) = true := by cases j <;> rfl
theorem noLk_fz (z : Bool) (ds : List D) : noLk (fz z ds) = true := by cases z <;> rfl
theorem noLk_jw (j : Option (D ⊕ List D)) : noLk (jw j) = true := by
  cases j with
  | none => rfl
  | some d => cases d <;> rfl
theorem noLk_sh (d : D) : noLk (.sh d) = true := rfl
theorem noLk_ow (d : List D) : noLk (.ow d) = true := rfl
theorem noLk_no : noLk .no = true := rfl
theorem noLk_rf (k : Nat) (d : List D) : noLk (.rf k d) = true := rfl
theorem noLk_dk (d : List (Int × D)) : noLk (.dk d) = true := rfl
theorem noLk_dt (d : List (List Int × D)) : noLk (.dt d) = true := rfl
end DL

namespace DL
open PySem PySem.Spec PyProof.Rows L2
/-! ### append to a list inside a list -/
@[simp] def dApp2 (i : Nat) (e1 e : Den D) : Den D := bindD (dO2 i) fun _ => bindD e1 fun k1 => bindD (dO2 i) fun dss => bindD (liftO (rowAt dss k1)) fun r => bindD (hideD i) fun _ => bindD (noX e) fun v =>
  bindD (liftO (if r.2.length < big then some () else none)) fun _ => bindD (backO i (dss.set r.1 (r.2 ++ [v]))) fun _ => retD .non
section
variable {X : Cx} {g : G} {W : WX} {P : Par} {σ : L2.St} {H F : Hp} {st : DSt} {e : Expr} {f h : Den D}
theorem ev_app2 {i : Nat} (he : PE X e (tBM g.K "list" rAppend (tOp (rIx g.K) (tVar i) (tE g W f)) (tCons (tE g W h) tNil))) : PE X e (tE g W (dApp2 i f h)) := he.imp fun σ H Q ⟨P, F, st, s, o⟩ => by
  obtain ⟨dss0, hst0, o0⟩ := dO2_ok o
  obtain ⟨a0, bs0, hv0, _⟩ := s.hide hst0
  refine ⟨_, hv0, P, F, st, s, o0.bind.imp fun k1 st1 H1 F1 le1 s1 o1 v1 rv1 => ?_⟩
  obtain ⟨dss, bs, b, vs, r, z1, hst, rfl, hd, hb, hbv, rvs, hsq, hat, s2, o2, back⟩ := row2 s1 hv0 rv1 o1
  refine .inl ⟨a0, bs.map V.ref, z1, .ref b, rfl, rfl, hsq, hat, ?_⟩
  refine ⟨.inl ⟨rfl, vs, sqL_of hbv⟩, P2 P H1 a0 bs, F1, st1.set i .no, s2, ?_⟩
  revert o2
  simp only [bindD, hideD, noX]
  cases h (st1.set i .no) with
  | ok v st2 =>
    intro o5 H2 F2 le2 s3 v2 rv2
    simp only [liftO] at o5
    by_cases hz : r.2.length < big
    · rw [if_pos hz] at o5
      simp only [backO] at o5
      cases hno : st2[i]? with
      | none => rw [hno] at o5; exact o5.elim
      | some sl =>
        rw [hno] at o5
        cases sl with
        | no =>
          obtain ⟨hH, _, put⟩ := back H2 F2 st2 le2 s3 hno
          refine ⟨b, vs, v2, rfl, rfl, by rw [hH]; exact hbv, by rw [rvs.length, ← big_eq]; exact hz, ?_⟩
          exact o5 _ F2 le2 (put (r.2 ++ [v]) (vs ++ [v2]) ((rvs.mono le2).append (.cons rv2 .nil))) _ .non
        | _ => exact o5.elim
    · rw [if_neg hz] at o5; exact o5.elim
  | exn c fs st2 => exact fun o5 => o5.elim
  | stuck => exact fun o5 => o5.elim
end
/-! typed -/
section
variable {α : Type} {e : α → D} {st : DSt}
def pApp2 {α : Type} (xss : List (List α)) (k : Int) (v : α) : M (List (List α)) := (pAt xss k).bind fun r => (pApp r v).bind fun r => pSet xss k r
theorem x_app2 {i : Nat} {xss : List (List α)} {e1 f : Den D} {k : Int} {v : α} (h : st[i]? = some (.o2 (xss.map (List.map e)))) (h1 : RV e1 st (eI k) st) (h2 : RV f (st.set i .no) (e v) (st.set i .no)) :
    RX (sExpr (dApp2 i e1 f)) st (pApp2 xss k v) (fun ys => st.set i (.o2 (ys.map (List.map e)))) := by
  unfold pApp2
  cases hr : pAt xss k with
  | exn c fs => unfold pAt oM at hr; split at hr <;> cases hr
  | stuck => trivial
  | ok r =>
    obtain ⟨j, hj, hr⟩ := pAt_j hr
    simp only [bind_ok]
    unfold pApp pSet
    by_cases hz : r.length < big
    · rw [if_pos hz]
      simp only [bind_ok, hj]
      have hil : i < st.length := by
        rcases Nat.lt_or_ge i st.length with z | z
        · exact z
        · rw [List.getElem?_eq_none z] at h; cases h
      have a1 : rowAt (xss.map (List.map e)) (eI k) = some (j, r.map e) := by simp [rowAt, hj, hr]
      have a3 : (st.set i .no)[i]? = some .no := by rw [List.getElem?_set_self hil]
      have a4 : (r.map e).length < big := by rw [List.length_map]; exact hz
      show sExpr (dApp2 i e1 f) st = _
      simp only [sExpr, dApp2, bindD]
      simp only [dO2, h]
      rw [show e1 st = _ from h1]
      simp only [h, liftO, a1, hideD, noX]
      rw [show f (st.set i .no) = _ from h2]
      simp only [a4, if_true, backO, a3, retD, List.set_set]
      congr 1
      simp [List.map_set]
    · rw [if_neg hz]; trivial
end
end DL

namespace DL
open PySem PySem.Spec PyProof.Rows L2
/-! ### comprehensions of any number of clauses, the machine's side -/
abbrev TZ := Addr → L2.St → Hp → (Hp → Prop) → Prop
/-- behind the last clause: one more item -/
def zLast (te : TE) : TZ := fun D σ H Nx => te σ H fun y H1 =>
  ∃ xs, H1 D = some (.lst xs) ∧ xs.length < sizeLine ∧ Nx (upd H1 D (.lst (xs ++ [y])))
/-- the turns of a loop, from H0 on, till End -/
def zTurns (J : It) (gg : TG) (tt : TT) (vs : List Nat) (z : L2.St → Hp → (Hp → Prop) → Prop) (σ : L2.St) (H0 : Hp) (End : Hp → Prop) : Prop :=
  ∃ V : Nat → Nat → Hp → Prop, (∃ m, V 0 m H0) ∧ ∀ j k H, V j k H → (J.stop j H ∧ End H) ∨
    (J.go j H ∧ ∃ Ny : Hp → Prop, (∀ H', Ny H' → ∃ k', k' < k ∧ V (j + 1) k' H') ∧
      ∀ x H', J.yld j H x H' → gg x (L2.wipe σ vs) H' fun σ2 H2 => L2.wipe σ2 vs = L2.wipe σ vs ∧ tt σ2 H2 fun b H3 => if b = true then z σ2 H3 Ny else Ny H3)
/-- one clause more -/
def zNext (wi : TI) (gg : TG) (tt : TT) (vs : List Nat) (z : TZ) : TZ := fun D σ H Nx => wi σ H fun J H1 => zTurns J gg tt vs (z D) σ H1 Nx
def tLcZ (wi : TI) (gg : TG) (tt : TT) (vs : List Nat) (z : TZ) : TE := fun σ H Q => wi σ H fun J H1 =>
  ∀ D, H1 D = none → zTurns J gg tt vs (z D) σ (upd H1 D (.lst [])) fun H2 => Q (.ref D) H2
abbrev nof : Value → Shared → Prop := fun _ _ => False
section
variable {prog : Program} {w : World} {A : Around} {R : Result → Shared → Prop} {s : Shared} {elt : Expr} {gens : List Comprehension} {scope : Scope} {pos : Pos} {it acc : Value} {env : Env} {d : Nat}
/-- what is behind the tests of the clause ahead of d -/
def restW (prog : Program) (w : World) (A : Around) (elt : Expr) (gens : List Comprehension) (scope : Scope) (pos : Pos) (d : Nat) (acc : Value) (env : Env) (Z : Shared → Prop) (s : Shared) : Prop :=
  match gens[d]? with
  | some c => wpAny (model prog w) A (eval c.iter env) (fun x s1 => wpAny (model prog w) A (pyIter x) (fun i1 s2 =>
      codeAny (model prog w) A (.compStart (.ListComp elt gens scope pos) d i1 acc env) (fun r s3 => match r with
        | .ok _ => Z s3
        | .error _ => False) s2) nof s1) nof s
  | none => wpAny (model prog w) A (eval elt env) (fun x s1 => wpAny (model prog w) A (call (.builtin "list.append") [acc, x]) (fun _ s2 => Z s2) nof s1) nof s
theorem toE {α : Type} {t : Sem α} {Q Q' : α → Shared → Prop} {M : Model} {E : Value → Shared → Prop} (h : wpAny M A t Q nof s) (hQ : ∀ a s, Q a s → Q' a s) : wpAny M A t Q' E s := wpAny_mono h hQ fun _ _ z => False.elim z
/-- one turn -/
theorem turnZ {t i : Expr} {fs : List Expr} (hd : gens[d]? = some ⟨t, i, fs, 0⟩) (hn : ∀ c, gens[d + 1]? = some c → c.is_async = 0 ∧ ∀ x, foldedSetIterable c.iter env x = pure x) {Z End : Shared → Prop} {E : Value → Shared → Prop}
    (h : wpAny (model prog w) A (pyNext it) (fun r s1 => match r with
      | none => End s1
      | some v => wpAny (model prog w) A (letOwnedTupleGo t it v) (fun _ s2 => wpAny (model prog w) A (assign t env v) (fun _ s3 =>
          wpAny (model prog w) A (forIn fs true fun c r => if r = true then do let ok ← isTrue c env (eval c env); pure (ForInStep.yield ok) else pure (ForInStep.yield r))
            (fun b s4 => if b = true then restW prog w A elt gens scope pos (d + 1) acc env Z s4 else Z s4) nof s3) nof s2) nof s1) nof s) :
    wpAny (model prog w) A (compTurn (.ListComp elt gens scope pos) d it acc env) (fun f s1 => match f with
      | .done f => f = .next ∧ End s1
      | .again c => c = .compLoop (.ListComp elt gens scope pos) d it acc env ∧ Z s1) E s := by
  unfold compTurn
  simp only [hd]
  refine wpAny_bind (wpAny_standAt (wpAny_bind (toE h fun r s1 h1 => ?_)))
  cases r with
  | none => exact wpAny_pure ⟨rfl, h1⟩
  | some v =>
    refine wpAny_bind (toE h1 fun _ s2 h2 => wpAny_bind (toE h2 fun _ s3 h3 => wpAny_bind (toE h3 fun b s4 h4 => ?_)))
    cases b with
    | false => exact wpAny_pure ⟨rfl, h4⟩
    | true =>
      simp only [if_true] at h4 ⊢
      unfold restW at h4
      cases hg : gens[d + 1]? with
      | none =>
        rw [hg] at h4
        simp only at h4 ⊢
        exact wpAny_bind (wpAny_bind (toE h4 fun x s5 h5 => wpAny_bind (toE h5 fun _ s6 h6 => wpAny_pure (wpAny_pure ⟨rfl, h6⟩))))
      | some c =>
        rw [hg] at h4
        obtain ⟨ha, hf⟩ := hn c hg
        simp only [ha] at h4 ⊢
        refine wpAny_bind (toE h4 fun x s5 h5 => wpAny_bind (wpAny_standAt (wpAny_bind (wpAny_of_eq (hf x) (wpAny_bind (wpAny_holding (toE h5 fun i1 s6 h6 => ?_)))))))
        refine wpAny_bind (wpAny_runOwn ?_)
        rw [Around.mark_none]
        refine codeAny_mono h6 fun r s7 h7 => ?_
        cases r with
        | ok f => first
          | exact wpAny_pure ⟨rfl, h7⟩
          | exact wpAny_bind (wpAny_pure (wpAny_pure ⟨rfl, h7⟩))
        | error e => exact h7.elim
/-- the loop of a clause -/
theorem loopZ {t i : Expr} {fs : List Expr} (hd : gens[d]? = some ⟨t, i, fs, 0⟩) (hn : ∀ c, gens[d + 1]? = some c → c.is_async = 0 ∧ ∀ x, foldedSetIterable c.iter env x = pure x) (V : Nat → Shared → Prop)
    (turn : ∀ n s, V n s → wpAny (model prog w) A (pyNext it) (fun r s1 => match r with
      | none => R (.ok .next) s1
      | some v => wpAny (model prog w) A (letOwnedTupleGo t it v) (fun _ s2 => wpAny (model prog w) A (assign t env v) (fun _ s3 =>
          wpAny (model prog w) A (forIn fs true fun c r => if r = true then do let ok ← isTrue c env (eval c env); pure (ForInStep.yield ok) else pure (ForInStep.yield r))
            (fun b s4 => if b = true then restW prog w A elt gens scope pos (d + 1) acc env (fun s5 => ∃ m, m < n ∧ V m s5) s4 else ∃ m, m < n ∧ V m s4) nof s3) nof s2) nof s1) nof s) (n : Nat) (h : V n s) :
    codeAny (model prog w) A (.compLoop (.ListComp elt gens scope pos) d it acc env) R s := by
  refine codeAny_loop rfl V (fun n s hI => ?_) n h
  show wpAny _ A ((compTurn (.ListComp elt gens scope pos) d it acc env).onRaise (fun x => do noteFrame x env; theTreesLotGoes x)) _ _ s
  refine wpAny_noted (wpAny_mono (turnZ hd hn (turn n s hI)) (fun f s1 h1 => ?_) fun _ _ z => z)
  cases f with
  | done f => obtain ⟨rfl, h1⟩ := h1; exact h1
  | again c => exact h1
/-- a clause's start -/
theorem startZ {t i : Expr} {fs : List Expr} (hd : gens[d]? = some ⟨t, i, fs, 0⟩) (h0 : codeAny (model prog w) A (.compLoop (.ListComp elt gens scope pos) d it acc env) R s)
    (h : wpAny (model prog w) A (pyIter it) (fun it' s' => codeAny (model prog w) A (.compLoop (.ListComp elt gens scope pos) d it' acc env) R s') nof s) :
    codeAny (model prog w) A (.compStart (.ListComp elt gens scope pos) d it acc env) R s := by
  refine codeAny_of_tree ?_
  show wpAny _ _ ((compStart (.ListComp elt gens scope pos) d it acc env).onRaise (fun x => do noteFrame x env; standAt theWindowsPlace)) _ _ s
  refine wpAny_notedAt ?_
  unfold compStart
  have hc : (clausesOf (.ListComp elt gens scope pos))[d]? = some ⟨t, i, fs, 0⟩ := hd
  rw [hc]
  show wpAny _ _ (ask >>= _) _ _ s
  refine wpAny_bind (wpAny_askSetting (wpAny_ite ?_))
  split
  · first
      | exact wpAny_bind (wpAny_pure (wpAny_pure (And.intro rfl h0)))
      | exact wpAny_pure (And.intro rfl h0)
  · refine wpAny_bind (wpAny_rule ?_)
    show wpAny _ _ (standAt i.pos >>= _) _ _ s
    exact wpAny_bind (wpAny_standAt (wpAny_bind (toE h fun it' s' h' => wpAny_pure (And.intro rfl h'))))
end
/-- the rest of a turn reaches what z says -/
def RestZ (X : Cx) (elt : Expr) (gens : List Comprehension) (scope : Scope) (pos : Pos) (d : Nat) (vs : List Nat) (z : TZ) : Prop :=
  ∀ (pins : List (Addr × Obj)) (s : Shared) (σ : L2.St) (H : Hp) (D : Addr) (Nx : Hp → Prop), Inv X pins σ H s → z D σ H Nx →
    restW X.prog X.w X.A elt gens scope pos d (.ref D) X.env (fun s' => ∃ H', Inv X pins (L2.wipe σ vs) H' s' ∧ Nx H') s
section
variable {X : Cx} {elt t i : Expr} {fs : List Expr} {gens : List Comprehension} {scope : Scope} {pos : Pos} {d : Nat}
theorem rest_last {te : TE} (hx : X.xe = nof) (hd : gens[d]? = none) (he : PE X elt te) : RestZ X elt gens scope pos d [] (zLast te) := by
  intro pins s σ H D Nx I h
  unfold restW
  rw [hd]
  have e := he.run pins s σ H _ I h
  rw [hx] at e
  refine toE e fun v s1 h1 => ?_
  obtain ⟨y, H1, I1, r1, xs, hD, hl, nx⟩ := h1
  exact app_ok I1 hD hl r1 fun s2 I2 => ⟨_, I2, nx⟩
/-- the turns of a clause, whose iterator stands -/
theorem turnsZ {pins : List (Addr × Obj)} {s : Shared} {σ : L2.St} {H0 : Hp} {D it : Addr} {fp : List Addr} {tn : Nat → Heap → Prop} {J : It} {gg : TG} {tt : TT} {vs vs2 : List Nat} {z : TZ} {End : Hp → Prop} {R : Result → Shared → Prop} (hx : X.xe = nof) (hc : X.calm = true)
    (hd : gens[d]? = some ⟨t, i, fs, 0⟩) (hn : ∀ c, gens[d + 1]? = some c → c.is_async = 0 ∧ ∀ x, foldedSetIterable c.iter X.env x = pure x) (hg : PG X t gg) (ht : PTs X fs tt) (hr : RestZ X elt gens scope pos (d + 1) vs2 z) (hsub : ∀ i ∈ vs2, i ∈ vs)
    (T : Turn X.prog X.w X.K t J fp it tn) (st : tn 0 s.heap) (stat : ∀ {σ' : L2.St} {H' : Hp} {s' : Shared}, Inv X pins σ' H' s' → (∀ b ∈ fp, H' b = none) → ∀ b ∈ fp, FpOk X pins H' b) (nf : ∀ b ∈ fp, H0 b = none)
    (I : Inv X pins (L2.wipe σ vs) H0 s) (h : zTurns J gg tt vs (z D) σ H0 End) (hR : ∀ s' H', Inv X pins (L2.wipe σ vs) H' s' → End H' → R (.ok .next) s') :
    codeAny (model X.prog X.w) X.A (.compLoop (.ListComp elt gens scope pos) d (.ref it) (.ref D) X.env) R s := by
  obtain ⟨V, ⟨m0, v0⟩, step⟩ := h
  refine loopZ hd hn (fun n s' => ∃ j H', Inv X pins (L2.wipe σ vs) H' s' ∧ tn j s'.heap ∧ (∀ b ∈ fp, H' b = none) ∧ V j n H') ?_ m0 ⟨0, H0, I, st, nf, v0⟩
  rintro n s1 ⟨j, H1, I1, st1, n1, v1⟩
  rcases step j n H1 v1 with ⟨stop, en⟩ | ⟨go, Ny, hNy, tu⟩
  · refine toE (T.done X rfl rfl rfl hc j pins s1 _ H1 nof I1 (stat I1 n1) st1 stop) fun r s2 ⟨e, I2⟩ => ?_
    subst e
    exact hR _ _ I2 en
  · refine toE (T.item X rfl rfl rfl hc j pins s1 _ H1 nof I1 (stat I1 n1) st1 go) fun r s2 ⟨u, e, h2⟩ => ?_
    subst e
    refine toE h2 fun _ s3 ⟨x, H3, I3, r3, y3, st3, n3⟩ => ?_
    have P3 := I3.pinned (stat I3 n3) (T.obj _ _ st3)
    have g3 := hg.run _ s3 _ H3 x u _ P3 r3 (tu x H3 y3)
    rw [hx] at g3
    refine toE g3 fun _ s4 ⟨σ4, H4, I4, hw, q4⟩ => ?_
    have t4 := ht.run _ s4 σ4 H4 _ I4 q4
    rw [hx] at t4
    refine toE t4 fun b s5 ⟨H5, I5, q5⟩ => ?_
    have back : ∀ {σ' : L2.St} {s' : Shared} {H' : Hp}, Inv X (pins ++ pinsAt fp s3.heap) σ' H' s' → (L2.wipe σ vs).length = σ'.length → (∀ (k : Nat) v, (L2.wipe σ vs)[k]? = some (some v) → σ'[k]? = some (some v)) → Ny H' →
        ∃ m, m < n ∧ ∃ j H', Inv X pins (L2.wipe σ vs) H' s' ∧ tn j s'.heap ∧ (∀ b ∈ fp, H' b = none) ∧ V j m H' := by
      intro σ' s' H' I' hl hk ny
      obtain ⟨m', hm, w'⟩ := hNy H' ny
      have kp : ∀ b ∈ fp, ∀ o, s3.heap.get? b = some o → s'.heap.get? b = some o ∧ H' b = none := by
        intro b hb o e
        have := I'.pin (b, o) (List.mem_append_right _ (List.mem_append_right _ (mem_pinsAt hb e)))
        exact ⟨this.1, this.2.1⟩
      refine ⟨m', hm, j + 1, H', (I'.unpinned (pins := pins)).weak hl hk, T.keep _ _ _ st3 fun b hb o e => (kp b hb o e).1, fun b hb => ?_, w'⟩
      obtain ⟨o, e, _⟩ := T.obj _ _ st3 b hb
      exact (kp b hb o e).2
    have len4 : (L2.wipe σ vs).length = σ4.length := by rw [← hw, wipe_length]
    cases b with
    | false =>
      simp only [Bool.false_eq_true, if_false] at q5 ⊢
      exact back I5 len4 (fun k v e => by rw [← hw] at e; exact (wipe_some e).1) q5
    | true =>
      simp only [if_true] at q5 ⊢
      have r5 := hr _ s5 σ4 H5 D _ I5 q5
      revert r5
      unfold restW
      have fin : ∀ s6, (∃ H', Inv X (pins ++ pinsAt fp s3.heap) (L2.wipe σ4 vs2) H' s6 ∧ Ny H') → ∃ m, m < n ∧ ∃ j H', Inv X pins (L2.wipe σ vs) H' s6 ∧ tn j s6.heap ∧ (∀ b ∈ fp, H' b = none) ∧ V j m H' := by
        rintro s6 ⟨H6, I6, ny⟩
        refine back I6 (len4.trans (wipe_length _ _).symm) (fun k v e => ?_) ny
        rw [← hw] at e
        obtain ⟨e1, e2⟩ := wipe_some e
        rw [wipe_out fun hz => e2 (hsub k hz)]
        exact e1
      cases gens[d + 1]? with
      | none => exact fun r5 => toE r5 fun x s6 h6 => toE h6 fun _ s7 h7 => fin s7 h7
      | some c =>
        refine fun r5 => toE r5 fun x s6 h6 => toE h6 fun i1 s7 h7 => codeAny_mono h7 fun r s8 h8 => ?_
        cases r with
        | ok f => exact fin s8 h8
        | error e => exact h8
theorem rest_next {wi : TI} {gg : TG} {tt : TT} {vs vs2 : List Nat} {z : TZ} (hx : X.xe = nof) (hc : X.calm = true) (hd : gens[d]? = some ⟨t, i, fs, 0⟩) (hn : ∀ c, gens[d + 1]? = some c → c.is_async = 0 ∧ ∀ x, foldedSetIterable c.iter X.env x = pure x)
    (hi : PI X t i wi) (hg : PG X t gg) (ht : PTs X fs tt) (hr : RestZ X elt gens scope pos (d + 1) vs2 z) (hsub : ∀ i ∈ vs2, i ∈ vs) : RestZ X elt gens scope pos d vs (zNext wi gg tt vs z) := by
  intro pins s σ H D Nx I h
  unfold restW
  rw [hd]
  have e := hi.run pins s σ H _ I h
  rw [hx] at e
  refine toE e fun v s1 h1 => toE h1 fun it s2 h2 => ?_
  obtain ⟨a, fp, tn, J, H2, e2, I2, T, st2, f2, q2⟩ := h2
  subst e2
  have lp := turnsZ (R := fun r s' => match r with
    | .ok _ => ∃ H', Inv X pins (L2.wipe σ vs) H' s' ∧ Nx H'
    | .error _ => False) hx hc hd hn hg ht hr hsub T st2 (fun _ n b hb => ⟨n b hb, (f2 b hb).2⟩) (fun b hb => (f2 b hb).1) (I2.weak (wipe_length _ _) fun k v e => (wipe_some e).1) q2 fun s' H' I' en => ⟨H', I', en⟩
  exact startZ hd lp (T.self X.A 0 _ _ _ st2 lp)
end
section
variable {X : Cx} {elt t i : Expr} {fs : List Expr} {gs : List Comprehension} {scope : Scope} {own : List (Str × Nat)} {pos pos' : Pos} {wi : TI} {gg : TG} {tt : TT} {vs2 : List Nat} {z : TZ}
abbrev InB (X : Cx) (scope : Scope) (p : Cx → Prop) : Prop := ∀ (s : Shared) (H : Hp) (C : Addr) (cl : List (Str × Addr)) (fp : List Addr), p (X.blk s H scope (compEnvC scope cl C X.env) fp)
theorem lcZ_core {pins : List (Addr × Obj)} {s : Shared} {σ : L2.St} {H : Hp} {Q : VK} {use : Option (Value → Sem Unit)} {Qf : Value → Shared → Prop} (hc : X.calm = true) (hN : X.N.Nodup) (I : Inv X pins σ H s) (hi : PI X t i wi) (ok : BlkOk X.N X.env.scope scope own)
    (hg : InB X scope fun Y => PG Y t gg) (ht : InB X scope fun Y => PTs Y fs tt) (hr : InB X scope fun Y => RestZ Y elt (⟨t, i, fs, 0⟩ :: gs) scope pos 1 vs2 z) (hsub : ∀ i ∈ vs2, i ∈ own.map (·.2)) (hs : ∀ x, foldedSetIterable i X.env x = pure x)
    (hn : ∀ c env, gs[0]? = some c → c.is_async = 0 ∧ ∀ x, foldedSetIterable c.iter env x = pure x) (h : tLcZ wi gg tt (own.map (·.2)) z σ H Q)
    (hRR : ∀ D C s' m H', Inv X pins σ H' s' → Q (.ref D) H' → s'.heap.Ns C m → FpOk X pins H' C → compPost (model X.prog X.w) X.A X.xe use Qf (.ref D) C (.ok .next) s') :
    wpAny (model X.prog X.w) X.A (comprehension (.ListComp elt (⟨t, i, fs, 0⟩ :: gs) scope pos) scope X.env pos' (newList []) false (eval i X.env) use) Qf X.xe s := by
  have hfree : ∀ y ∈ scope.names, y.2 = .free → ∃ c, X.env.cells.lookup y.1 = some c := by
    intro y hy e
    rcases ok.free y hy e with k | k
    · exact I.ok.has y.1 (Or.inl k)
    · exact I.ok.has y.1 (Or.inr k)
  refine wpAny_comprehension_free (use := use) rfl hs (closure_ok hfree) ok.kind (fun y hy e => by rw [ok.uniq y hy, e]) (thn (hi.run pins s σ H _ I h) fun xv s1 hx => thn hx fun itv s2 h2 => ?_)
  obtain ⟨it, fp, tn, J, H2, e, I2, T, st2, f2, q⟩ := h2
  subst e
  refine wpAny_newObj_type (newEnv_comp ?_) (by show 0 ≤ sizeLine; decide)
  generalize hD : s2.heap.objs.size = D
  have q := q D (I2.hok.fresh (Nat.le_of_eq hD))
  -- the new list
  let hp3 : Heap := s2.heap.push { cls := .type "list", data := .seq ([] : List Value).toArray }
  have I3 : Inv X pins σ (upd H2 D (.lst [])) { s2 with heap := hp3 } :=
    I2.laid (t' := s2.toks) (fun b o e => Heap.get?_push_of_some _ e) (Nat.le_of_eq hD) ⟨Nat.zero_le _, [], 0, .nil, by rw [← hD]; exact Heap.get?_push_size _ rfl⟩
  have up3 : ∀ b o, s2.heap.get? b = some o → hp3.get? b = some o := fun b o e => Heap.get?_push_of_some _ e
  have f3 : ∀ b ∈ fp, FpOk X pins (upd H2 D (.lst [])) b ∧ b < hp3.objs.size := by
    intro b hb
    obtain ⟨o, e, _⟩ := T.obj _ _ st2 b hb
    have lt := Heap.lt_size e
    refine ⟨⟨?_, (f2 b hb).2⟩, Heap.lt_size (up3 b o e)⟩
    rw [upd_ne (by rw [← hD]; exact Nat.ne_of_lt lt)]
    exact (f2 b hb).1
  have I4 := block_start I3 ok hN f3
  have B : ∀ p : Cx → Prop, InB X scope p → p (X.blk { s2 with heap := hp3 } (upd H2 D (.lst [])) scope (compEnvC scope (cellsFrom (hp3.objs.size + 1) scope.names (cloFrom X.env.cells scope.names [])) hp3.objs.size X.env) fp) := fun p h => h _ _ _ _ _
  have pg := B _ hg
  have pt := B _ ht
  have pr := B _ hr
  show codeAny _ _ (.compStart _ 0 (.ref it) (.ref D) (compEnvC scope (cellsFrom (hp3.objs.size + 1) scope.names (cloFrom X.env.cells scope.names [])) hp3.objs.size X.env)) (compPost (model X.prog X.w) X.A X.xe use Qf (.ref D) hp3.objs.size) { s2 with heap := pushCells (hp3.push { cls := .type "dict", data := .dict #[] }) scope.names }
  clear B
  generalize hce : compEnvC scope (cellsFrom (hp3.objs.size + 1) scope.names (cloFrom X.env.cells scope.names [])) hp3.objs.size X.env = ce at I4 pg pt pr ⊢
  have cL : ce.locals = hp3.objs.size := by subst hce; rfl
  have st4 : tn 0 (pushCells (hp3.push { cls := .type "dict", data := .dict #[] }) scope.names) := T.keep _ _ _ st2 fun b _ o e => pushCells_keeps _ _ _ _ (Heap.get?_push_of_some _ (up3 b o e))
  have lp := turnsZ (X := X.blk { s2 with heap := hp3 } (upd H2 D (.lst [])) scope ce fp) (d := 0) (i := i) (R := compPost (model X.prog X.w) X.A X.xe use Qf (.ref D) hp3.objs.size) rfl hc rfl (fun c e => hn c _ (by simpa using e)) pg pt pr hsub T st4
    (fun I' n b hb => ⟨n b hb, (I'.ok.exf b hb).1, I'.ok.exfs b hb, .inl hb, fun x c e => (I'.ok.exf b hb).2 x c e, fun p hp => absurd (show p ∈ ([] : List (Addr × Obj)) ++ [] from hp) (by simp)⟩)
    (fun b hb => (f3 b hb).1.1) I4 q fun s6 H6 I6 en => by
      have I7 : Inv X pins σ H6 s6 := I3.call' (ch := fp) I6.os I6.base I6.hok I6.bare fun b hb => ⟨(f3 b hb).1.2.2.2.1, (f3 b hb).1.2.1, (f3 b hb).1.2.2.2.2.1, (f3 b hb).1.2.2.2.2.2⟩
      have nC : H6 hp3.objs.size = none := by rw [← cL]; exact I6.free
      obtain ⟨m, hns, _⟩ := I6.loc
      have hns : s6.heap.Ns ce.locals m := hns
      rw [cL] at hns
      exact hRR D hp3.objs.size s6 m H6 I7 en hns (I3.fpOk (Nat.le_refl _) nC)
  exact codeAny_compStart_list lp (T.self X.A 0 _ _ _ st4 lp)
/-- as a value -/
theorem pe_lcZ (hc : X.calm = true) (hN : X.N.Nodup) (hi : PI X t i wi) (ok : BlkOk X.N X.env.scope scope own) (hg : InB X scope fun Y => PG Y t gg) (ht : InB X scope fun Y => PTs Y fs tt)
    (hr : InB X scope fun Y => RestZ Y elt (⟨t, i, fs, 0⟩ :: gs) scope pos 1 vs2 z) (hsub : ∀ i ∈ vs2, i ∈ own.map (·.2)) (hs : ∀ x, foldedSetIterable i X.env x = pure x)
    (hn : ∀ c env, gs[0]? = some c → c.is_async = 0 ∧ ∀ x, foldedSetIterable c.iter env x = pure x) : PE X (.ListComp elt (⟨t, i, fs, 0⟩ :: gs) scope pos) (tLcZ wi gg tt (own.map (·.2)) z) := by
  refine ⟨fun pins s σ H Q I h => ?_⟩
  rw [eval_ListComp]
  refine lcZ_core hc hN I hi ok hg ht hr hsub hs hn h fun D C s' m H' I' q hn f => ⟨m, hn, fun h'' sb => ?_⟩
  obtain ⟨f0, f1, f2, f3, f4, f5⟩ := f
  exact ⟨.ref D, H', I'.turned (t' := s'.toks) (fun b o hb e => (sb.2 b hb).trans e) f0 f1 f3 f4 f5, rfl, q⟩
/-- `y = [..]` on one line -/
theorem ps_setLcZ {k : Nat} {y : Str} {py spos : Pos} (hc : X.calm = true) (hN : X.N.Nodup) (hy : X.N[k]? = some y) (hyl : X.env.scope.names.lookup y = some .local)
    (hsw : swapsWith (.ListComp elt (⟨t, i, fs, 0⟩ :: gs) scope pos) (some (.Name y py)) spos.line X.env = pure true) (hi : PI X t i wi) (ok : BlkOk X.N X.env.scope scope own) (hg : InB X scope fun Y => PG Y t gg) (ht : InB X scope fun Y => PTs Y fs tt)
    (hr : InB X scope fun Y => RestZ Y elt (⟨t, i, fs, 0⟩ :: gs) scope pos 1 vs2 z) (hsub : ∀ i ∈ vs2, i ∈ own.map (·.2)) (hs : ∀ x, foldedSetIterable i X.env x = pure x)
    (hn : ∀ c env, gs[0]? = some c → c.is_async = 0 ∧ ∀ x, foldedSetIterable c.iter env x = pure x) : PS X (.Assign [.Name y py] (.ListComp elt (⟨t, i, fs, 0⟩ :: gs) scope pos) spos) (tAsg (tLcZ wi gg tt (own.map (·.2)) z) (gName k)) := by
  refine ⟨fun pins s σ H D I h => ?_⟩
  rw [exec_Assign_Name_used _ _ _ _ hsw]
  refine wpAny_bind (wpAny_standAt (wpAny_bind ?_))
  show wpAny _ X.A (do let _ ← comprehension (.ListComp elt (⟨t, i, fs, 0⟩ :: gs) scope pos) scope X.env (firstIterPos (⟨t, i, fs, 0⟩ :: gs) pos) (newList []) false (eval i X.env) (some (assign (.Name y py) X.env))) _ _ s
  have h : tLcZ wi gg tt (own.map (·.2)) z σ H (fun x H1 => gName k x σ H1 D.nx) := h
  refine wpAny_bind (thn (lcZ_core (Qf := fun _ s' => SP X pins D .next s') hc hN I hi ok hg ht hr hsub hs hn h fun L C s' m H' I' q hn f => ?_) fun _ s' hq => wpAny_pure (wpAny_pure hq))
  show wpAny _ _ (assign (.Name y py) X.env (.ref L)) _ _ _
  obtain ⟨f0, f1, f2, f3, f4, f5⟩ := f
  refine wpAny_assign_Name (store_ok2 (v := V.ref L) I' hN hy (.inl hyl) rfl (fun s2 I2 ⟨a, sb, ha⟩ => ?_) (.inr hyl))
  have haC : C ≠ a := by
    rcases ha with z | z
    · rw [z]; exact f1
    · exact fun e => f4 y a z e.symm
  refine ⟨m, hn.sameBut sb haC, fun h3 sb3 => ?_⟩
  exact ⟨_, H', I2.turned (t' := s2.toks) (fun b o hb e => (sb3.2 b hb).trans e) f0 f1 f3 f4 f5, q⟩
end
end DL

namespace DL
open PySem PySem.Spec PyProof.Rows L2
/-! ### comprehensions of any number of clauses, over data -/
def goZ (vs : List Nat) (t : Tg) (test : Den Bool) (rest : Den (List D)) : List D → Den (List D)
  | [] => retD []
  | d :: ds => fun st => match setT t d st with
    | none => .stuck
    | some st1 => match test st1 with
      | .ok true st2 => match rest st2 with
        | .ok ys st3 => match goZ vs t test rest ds (wipeD st3 vs) with
          | .ok zs st4 => .ok (ys ++ zs) st4
          | _ => .stuck
        | _ => .stuck
      | .ok false st2 => goZ vs t test rest ds (wipeD st2 vs)
      | _ => .stuck
def dOne (elt : Den D) : Den (List D) := bindD elt fun y => retD [y]
/-- a clause behind the first one -/
def dInner (vs : List Nat) (t : Tg) (fi : Den (List D)) (test : Den Bool) (rest : Den (List D)) : Den (List D) := bindD fi fun ds => fun st => goZ vs t test rest ds (wipeD st vs)
def compKZ (vs : List Nat) (t : Tg) (test : Den Bool) (rest : Den (List D)) (ds : List D) : Den (List D) := fun st =>
  if vs.all (plainAt st) = true then
    match goZ vs t test rest ds (wipeD st vs) with
    | .ok ys st' => if ys.length ≤ big then .ok ys (backD st st' vs) else .stuck
    | _ => .stuck
  else .stuck
def dCompZ (vs : List Nat) (t : Tg) (fi : Den (List D)) (test : Den Bool) (rest : Den (List D)) : Den (List D) := bindD fi (compKZ vs t test rest)
/-- what den says is what z asks -/
def ZOk (g : G) (vs : List Nat) (r : Den (List D)) (z : TZ) : Prop :=
  ∀ (P : Par) (σ : L2.St) (H F : Hp) (st st' : DSt) (D : Addr) (accV : List V) (acc ys : List DL.D) (Nx : Hp → Prop), SR g (gd P D accV) σ H F st → Rl g F accV acc → r st = .ok ys st' → acc.length + ys.length ≤ big →
    (∀ H' F' accV', Same F F' → SR g (gd P D accV') (L2.wipe σ vs) H' F' st' → Rl g F' accV' (acc ++ ys) → Nx H') → z D σ H Nx
section
variable {X : Cx} {g : G} {W : WX} {P : Par} {σ : L2.St} {H F : Hp} {st : DSt} {e : Expr}
theorem zok_last {elt : Den D} : ZOk g [] (dOne elt) (zLast (tE g WN elt)) := by
  intro P σ H F st st' D accV acc ys Nx s racc hr hb k
  unfold dOne bindD at hr
  refine ⟨gd P D accV, F, st, s, ?_⟩
  revert hr
  cases elt st with
  | exn c fs q => intro z; cases z
  | stuck => intro z; cases z
  | ok y st1 =>
    intro hr
    cases hr
    intro H' F' le s' v rv
    have hB : big = sizeLine := big_eq
    refine ⟨accV, s'.guard_at, ?_, k _ F' (accV ++ [v]) le s'.reguard ((racc.mono le).append (.cons rv .nil))⟩
    rw [racc.length, ← hB]
    simp only [List.length_cons, List.length_nil] at hb
    omega
theorem turns_imp {D : Addr} {accV : List V} {acc ys ds : List DL.D} {J : It} {F1 H0 : Hp} {st1 stE : DSt} {vs vs2 : List Nat} {t : Tg} {test : Den Bool} {r : Den (List DL.D)} {z : TZ} {End : Hp → Prop} (hv : ∀ i ∈ t.is, i ∈ vs) (hsub : ∀ i ∈ vs2, i ∈ vs) (hz : ZOk g vs2 r z)
    (wk : Wk g J F1 ds) (s : SR g (gd P D accV) (L2.wipe σ vs) H0 F1 st1) (racc : Rl g F1 accV acc) (hgo : goZ vs t test r ds st1 = .ok ys stE) (hb : acc.length + ys.length ≤ big)
    (k : ∀ H' F' accV', Same F1 F' → SR g (gd P D accV') (L2.wipe σ vs) H' F' stE → Rl g F' accV' (acc ++ ys) → End H') : zTurns J (tG g t) (tT g WN test) vs (z D) σ H0 End := by
  let In : Nat → Hp → Prop := fun i H => ∃ F' st' accV' acc' ys', Same F1 F' ∧ SR g (gd P D accV') (L2.wipe σ vs) H F' st' ∧ Rl g F' accV' acc' ∧ goZ vs t test r (ds.drop i) st' = .ok ys' stE ∧ acc' ++ ys' = acc ++ ys
  refine ⟨fun i m H => m = ds.length - i ∧ i ≤ ds.length ∧ In i H, ⟨ds.length, by simp, Nat.zero_le _, F1, st1, accV, acc, ys, Same.refl _, s, racc, by simpa using hgo, rfl⟩, ?_⟩
  rintro i m H2 ⟨rfl, hi, F', st', accV', acc', ys', le, s', racc', hgo', htot⟩
  by_cases hlt : i < ds.length
  · have hdr : ds.drop i = ds[i] :: ds.drop (i + 1) := List.drop_eq_getElem_cons hlt
    rw [hdr] at hgo'
    refine .inr ⟨wk.go i H2 (le.trans s'.le) hlt, In (i + 1), fun H' nx => ⟨ds.length - (i + 1), by omega, rfl, hlt, nx⟩, fun x H' y => ?_⟩
    obtain ⟨d, hd, yy⟩ := wk.yld i H2 x H' (le.trans s'.le) hlt y
    rw [List.getElem?_eq_getElem hlt] at hd
    cases hd
    obtain ⟨F2, le2, s2, rd⟩ := s'.yl le yy
    have le := le.trans le2
    have racc' := racc'.mono le2
    unfold goZ at hgo'
    cases hset : setT t ds[i] st' with
    | none => rw [hset] at hgo'; cases hgo'
    | some st2 =>
      rw [hset] at hgo'
      simp only at hgo'
      refine ⟨gd P D accV', F2, st', ds[i], s2, rd, st2, hset, fun xs s3 => ⟨by rw [wipe_setσ hv, wipe_wipe], gd P D accV', F2, st2, s3, ?_⟩⟩
      have w2 : L2.wipe (setσ t.is xs (L2.wipe σ vs)) vs = L2.wipe σ vs := by rw [wipe_setσ hv, wipe_wipe]
      revert hgo'
      cases test st2 with
      | exn c fs q => intro hgo; cases hgo
      | stuck => intro hgo; cases hgo
      | ok b st3 =>
        intro hgo H3 F3 le3 s4
        cases b with
        | false =>
          rw [if_neg Bool.false_ne_true]
          have sw := s4.wipe vs
          rw [w2] at sw
          exact ⟨F3, _, accV', acc', ys', le.trans le3, sw, racc'.mono le3, hgo, htot⟩
        | true =>
          rw [if_pos rfl]
          simp only at hgo
          revert hgo
          cases hr : r st3 with
          | exn c fs q => intro hgo; cases hgo
          | stuck => intro hgo; cases hgo
          | ok y1 st4 =>
            intro hgo
            simp only at hgo
            revert hgo
            cases hq : goZ vs t test r (ds.drop (i + 1)) (wipeD st4 vs) with
            | exn c fs q => intro hgo; cases hgo
            | stuck => intro hgo; cases hgo
            | ok y2 st5 =>
              intro hgo
              simp only [Res.ok.injEq] at hgo
              obtain ⟨e1, rfl⟩ := hgo
              have hl : acc'.length + ys'.length ≤ big := by
                have := congrArg List.length htot
                simp only [List.length_append] at this
                omega
              refine hz P _ H3 F3 st3 st4 D accV' acc' y1 _ s4 (racc'.mono le3) hr (by rw [← e1, List.length_append] at hl; omega) fun H6 F6 accV6 le6 s6 racc6 => ?_
              have sw := s6.wipe vs
              rw [wipe_sub hsub, w2] at sw
              exact ⟨F6, _, accV6, acc' ++ y1, y2, (le.trans le3).trans le6, sw, racc6, hq, by rw [List.append_assoc, e1, htot]⟩
  · have ei : i = ds.length := by omega
    subst ei
    rw [List.drop_length] at hgo'
    cases hgo'
    refine .inl ⟨wk.stop H2 (le.trans s'.le), ?_⟩
    rw [List.append_nil] at htot
    subst htot
    exact k H2 F' accV' le s' racc'
theorem zok_next {vs vs2 : List Nat} {t : Tg} {fi : Den (List D)} {test : Den Bool} {r : Den (List D)} {z : TZ} (hz : ZOk g vs2 r z) (hv : ∀ i ∈ t.is, i ∈ vs := by decide) (hsub : ∀ i ∈ vs2, i ∈ vs := by decide) :
    ZOk g vs (dInner vs t fi test r) (zNext (tI g WN fi) (tG g t) (tT g WN test) vs z) := by
  intro P σ H F st st' D accV acc ys Nx s racc hr hb k
  unfold dInner bindD at hr
  refine ⟨gd P D accV, F, st, s, ?_⟩
  revert hr
  cases fi st with
  | exn c fs q => intro z; cases z
  | stuck => intro z; cases z
  | ok ds st1 =>
    intro hr H' F' le s' J wk
    exact turns_imp hv hsub hz wk (s'.wipe vs) (racc.mono le) hr hb fun H2 F2 aV le2 s2 r2 => k H2 F2 aV (le.trans le2) s2 r2
theorem compZ_imp {vs vs2 : List Nat} {t : Tg} {fi : Den (List D)} {test : Den Bool} {r : Den (List D)} {z : TZ} {Q : VK} (hz : ZOk g vs2 r z) (hv : ∀ i ∈ t.is, i ∈ vs) (hsub : ∀ i ∈ vs2, i ∈ vs)
    (q : tN g W (dCompZ vs t fi test r) σ H Q) : tLcZ (tI g W fi) (tG g t) (tT g WN test) vs z σ H Q := by
  obtain ⟨P, F, st, s, o⟩ := q
  refine ⟨P, F, st, s, o.bind.imp fun ds st1 H1 F1 le1 s1 o1 J wk D hD => ?_⟩
  unfold compKZ at o1
  split at o1
  · rename_i hpl
    revert o1
    cases hall : goZ vs t test r ds (wipeD st1 vs) with
    | exn c fs stE => exact fun o1 => o1.elim
    | stuck => exact fun o1 => o1.elim
    | ok tot stE =>
      simp only
      split
      · rename_i hbig
        intro o1
        refine turns_imp (acc := []) hv hsub hz wk ((s1.wipe vs).guard (o := .lst []) hD) .nil hall (by simpa using hbig) fun H2 F2 aV le2 s2 r2 => ?_
        have hl : stE.length = st1.length := by
          have a := s2.len
          have b := s1.len
          rw [wipe_len] at a
          omega
        exact o1 H2 F2 D aV le2 (s2.unguard s1 hD le2 hl hpl) s2.guard_at r2
      · exact fun o1 => o1.elim
  · exact o1.elim
theorem ev_compZ {vs vs2 : List Nat} {t : Tg} {fi : Den (List D)} {test : Den Bool} {r : Den (List D)} {z : TZ} (hz : ZOk g vs2 r z) (he : PE X e (tLcZ (tI g W fi) (tG g t) (tT g WN test) vs z))
    (hv : ∀ i ∈ t.is, i ∈ vs := by decide) (hs : ∀ i ∈ vs2, i ∈ vs := by decide) : PE X e (tN g W (dCompZ vs t fi test r)) := he.imp fun _ _ _ q => compZ_imp hz hv hs q
theorem es_ownLcZ {s : Stmt} {i : Nat} {vs vs2 : List Nat} {t : Tg} {fi : Den (List D)} {test : Den Bool} {r : Den (List D)} {z : TZ} (hz : ZOk g vs2 r z) (he : PS X s (tAsg (tLcZ (tI g W fi) (tG g t) (tT g WN test) vs z) (gName i)))
    (hv : ∀ i ∈ t.is, i ∈ vs := by decide) (hs : ∀ i ∈ vs2, i ∈ vs := by decide) : PS X s (tS g W (sOwn i (dCompZ vs t fi test r))) := es_own (he.imp fun D σ H q => compZ_imp hz hv hs q)
end
/-! ### typed -/
def goZP {α γ : Type} (p : α → M Bool) (f : α → M (List γ)) : List α → M (List γ)
  | [] => .ok []
  | x :: xs => match p x with
    | .ok true => match f x with
      | .ok ys => match goZP p f xs with
        | .ok zs => .ok (ys ++ zs)
        | _ => .stuck
      | _ => .stuck
    | .ok false => match goZP p f xs with
      | .ok zs => .ok zs
      | _ => .stuck
    | _ => .stuck
def pFilZ {α γ : Type} (p : α → M Bool) (f : α → M (List γ)) (xs : List α) : M (List γ) := match goZP p f xs with
  | .ok ys => if ys.length ≤ big then .ok ys else .stuck
  | _ => .stuck
section
variable {α γ : Type} {vs : List Nat} {t : Tg} {fi : Den (List D)} {test : Den Bool} {rest : Den (List D)} {elt : Den D} {e : α → D} {e2 : γ → D} {st st' : DSt}
theorem goZ_typed {p : α → M Bool} {f : α → M (List γ)} {st0 : DSt} (hb : ∀ x, ∃ s1 s2 s3, setT t (e x) st0 = some s1 ∧ RE test s1 (p x) (fun b : Bool => b) s2 ∧ RE rest s2 (f x) (List.map e2) s3 ∧ wipeD s2 vs = st0 ∧ wipeD s3 vs = st0) :
    ∀ xs : List α, match goZP p f xs with | .ok ys => goZ vs t test rest (xs.map e) st0 = .ok (ys.map e2) st0 | _ => True
  | [] => rfl
  | x :: xs => by
    obtain ⟨s1, s2, s3, h1, h2, h3, h4, h5⟩ := hb x
    have ih := goZ_typed hb xs
    simp only [goZP]
    cases hp : p x with
    | exn c fs => trivial
    | stuck => trivial
    | ok c =>
      rw [hp] at h2
      have h2 : test s1 = .ok c s2 := h2
      cases hq : goZP p f xs with
      | exn _ fs =>
        cases c
        · trivial
        · cases f x <;> trivial
      | stuck =>
        cases c
        · trivial
        · cases f x <;> trivial
      | ok zs =>
        rw [hq] at ih
        simp only [] at ih
        cases c with
        | false =>
          simp only [List.map_cons, goZ, h1, h2, h4, ih]
        | true =>
          simp only []
          cases hf : f x with
          | exn c fs => trivial
          | stuck => trivial
          | ok ys =>
            rw [hf] at h3
            have h3 : rest s2 = .ok (ys.map e2) s3 := h3
            simp only [List.map_cons, goZ, h1, h2, h3, h5, ih, List.map_append]
theorem re_one {o : M γ} (h : RE elt st o e2 st') : RE (dOne elt) st (o.bind fun y => .ok [y]) (List.map e2) st' := by
  cases o with
  | ok y => show dOne elt st = _; unfold dOne bindD; rw [show elt st = _ from h]; rfl
  | exn c fs => obtain ⟨s, h⟩ := h; exact ⟨s, by unfold dOne bindD; rw [h]⟩
  | stuck => trivial
theorem re_innerK {xs : List α} {p : α → M Bool} {f : α → M (List γ)} (st0 : DSt) (hw : wipeD st vs = st0)
    (hb : ∀ x, ∃ s1 s2 s3, setT t (e x) st0 = some s1 ∧ RE test s1 (p x) (fun b : Bool => b) s2 ∧ RE rest s2 (f x) (List.map e2) s3 ∧ wipeD s2 vs = st0 ∧ wipeD s3 vs = st0) :
    RE (fun st => goZ vs t test rest (xs.map e) (wipeD st vs)) st (pNX (goZP p f xs)) (List.map e2) st0 := by
  have h := goZ_typed (vs := vs) (t := t) (test := test) (rest := rest) (e := e) (e2 := e2) hb xs
  cases hr : goZP p f xs with
  | ok ys =>
    rw [hr] at h
    show (fun st => goZ vs t test rest (xs.map e) (wipeD st vs)) st = _
    simp only [] at h ⊢
    rw [hw]; exact h
  | exn c fs => trivial
  | stuck => trivial
theorem re_compZ {xs : List α} {p : α → M Bool} {f : α → M (List γ)} (st0 : DSt) (hw : wipeD st vs = st0) (hp : vs.all (plainAt st) = true) (hbk : backD st st0 vs = st)
    (hb : ∀ x, ∃ s1 s2 s3, setT t (e x) st0 = some s1 ∧ RE test s1 (p x) (fun b : Bool => b) s2 ∧ RE rest s2 (f x) (List.map e2) s3 ∧ wipeD s2 vs = st0 ∧ wipeD s3 vs = st0) :
    RE (compKZ vs t test rest (xs.map e)) st (pFilZ p f xs) (List.map e2) st := by
  unfold pFilZ
  have h := goZ_typed (vs := vs) (t := t) (test := test) (rest := rest) (e := e) (e2 := e2) hb xs
  cases hr : goZP p f xs with
  | exn c fs => trivial
  | stuck => trivial
  | ok ys =>
    rw [hr] at h
    simp only [] at h ⊢
    by_cases hl : ys.length ≤ big
    · rw [if_pos hl]
      show compKZ vs t test rest (xs.map e) st = _
      unfold compKZ
      rw [if_pos hp, hw, h]
      simp only [List.length_map, hl, if_true, hbk]
    · rw [if_neg hl]; trivial
end
end DL
namespace DL
open PySem PySem.Spec PyProof.Rows L2
theorem hn_of {gens : List Comprehension} {d : Nat} {env : Env} (h : match gens[d]? with
    | some c => c.is_async = 0 ∧ ∀ x, foldedSetIterable c.iter env x = pure x
    | none => True) : ∀ c, gens[d]? = some c → c.is_async = 0 ∧ ∀ x, foldedSetIterable c.iter env x = pure x := by
  intro c e
  rw [e] at h
  exact h
theorem hn_all {c0 : Comprehension} {gs : List Comprehension} (h1 : c0.is_async = 0) (h2 : ∀ env x, foldedSetIterable c0.iter env x = pure x) : ∀ c env, (c0 :: gs)[0]? = some c → c.is_async = 0 ∧ ∀ x, foldedSetIterable c.iter env x = pure x := by
  intro c env e
  cases e
  exact ⟨h1, h2 env⟩
theorem rv_one {elt : Den D} {st st' : DSt} {d : D} (h : RV elt st d st') : RV (dOne elt) st [d] st' := rv_bind h rv_ret
end DL

namespace DL
open PySem PySem.Spec PyProof.Rows L2
/-! ### sep.join(list of words) -/
@[simp] def strsOf : List D → Option (List Str)
  | [] => some []
  | .str z :: r => (strsOf r).map (z :: ·)
  | _ :: _ => none
def joinFit (a : Str) (ys : List Str) : Bool := decide ((ys.map (·.length)).sum + ys.length * a.length ≤ 16777216)
@[simp] def opJoin : D → D → Option D
  | .str a, .lst ds => match strsOf ds with
    | some ys => if joinFit a ys = true then some (.str (Txt.join a ys)) else none
    | none => none
  | _, _ => none
@[simp] def dJoin (f h : Den D) : Den D := bindD f fun x => bindD (liftO (isStrD x)) fun _ => bindD h fun y => liftO (opJoin x y)
def rJoin (K : PySem.W.Frag) : V → List V → Hp → VK → Prop := fun x xs H Q => ∃ a p, ∃ ys : List Str, x = .str a ∧ xs = [.ref p] ∧ (SqL K H p (ys.map V.str) ∨ SqT K H p (ys.map V.str)) ∧
  (ys.map (·.length)).sum + ys.length * a.length ≤ 16777216 ∧ Q (.str (Txt.join a ys)) H
section
variable {X : Cx} {g : G} {W : WX} {P : Par} {σ : L2.St} {H F : Hp} {st : DSt} {e : Expr} {f h : Den D}
theorem strsOf_rl : ∀ {ds : List D} {vs : List V} {ys : List Str}, Rl g F vs ds → strsOf ds = some ys → vs = ys.map V.str
  | [], _, _, .nil, h => by cases h; rfl
  | d :: ds, _, ys, .cons r rs, h => by
    cases d with
    | str z =>
      unfold strsOf at h
      cases hr : strsOf ds with
      | none => rw [hr] at h; cases h
      | some q =>
        rw [hr] at h
        cases h
        cases r
        rw [strsOf_rl rs hr]; rfl
    | _ => cases h
theorem ev_join (he : PE X e (tM1 (rJoin g.K) (tE g W f) (tE g W h))) : PE X e (tE g W (dJoin f h)) := he.imp fun σ H Q ⟨P, F, st, s, o⟩ =>
  ⟨P, F, st, s, o.bind.imp fun x st1 H1 F1 le1 s1 o1 v rx => by
    obtain ⟨u0, hx, q⟩ := Out.lift o1.bind
    cases x with
    | str a =>
      cases rx
      refine ⟨⟨a, rfl⟩, P, F1, st1, s1, Out.imp (Out.bind (q H1 F1 (Same.refl _) s1)) fun y st2 H2 F2 le2 s2 o2 u ry => ?_⟩
      obtain ⟨z, ez, q⟩ := o2.lift
      have q := q H2 F2 (Same.refl _) s2
      cases y with
      | lst ds =>
        cases ry with
        | lst ha hr =>
          rename_i p vs
          unfold opJoin at ez
          simp only at ez
          split at ez
          · rename_i ys hy
            split at ez
            · rename_i hf
              cases ez
              have e := strsOf_rl hr hy
              subst e
              exact ⟨a, p, ys, rfl, rfl, .inl (sqL_of (s2.le _ _ ha)), by simpa [joinFit] using hf, q _ (.str _)⟩
            · cases ez
          · cases ez
      | _ => cases ez
    | _ => cases hx⟩
end
section
variable {st st1 : DSt}
def pJoin (a : Str) (ys : List Str) : M Str := if joinFit a ys = true then .ok (Txt.join a ys) else .stuck
theorem strsOf_map : ∀ ys : List Str, strsOf (ys.map eS) = some ys
  | [] => rfl
  | y :: ys => by
    show (strsOf (ys.map eS)).map (y :: ·) = _
    rw [strsOf_map ys]; rfl
theorem op_join {a : Str} {ys : List Str} : OP (opJoin (eS a) (eL eS ys)) (pJoin a ys) eS := by
  unfold pJoin
  show OP (match strsOf (ys.map eS) with
    | some ys => if joinFit a ys = true then some (D.str (Txt.join a ys)) else none
    | none => none) _ _
  rw [strsOf_map]
  simp only
  by_cases h : joinFit a ys = true
  · rw [if_pos h, if_pos h]; rfl
  · rw [if_neg h, if_neg h]; trivial
end
end DL

namespace DL
open PySem PySem.Spec PyProof.Rows L2
/-! ### a tuple times 0 -/
theorem tuple_mul0 (l : Addr) (items : Array Value) (n : Nat) (dd : Option Addr) (sl : Array (Option Value)) (u : Tok) (he : items.isEmpty = false) :
    Meets (Builtin.«tuple.__mul__» ⟨[.ref l, .int 0 u], []⟩) (fun _ R s => s.heap.get? l = some { cls := .type "tuple", dict := dd, data := .seq items n, slots := sl } ∧
      R (.ok (.ret (Value.ref s.heap.objs.size))) { s with heap := s.heap.push { cls := Value.type "tuple", data := Data.seq #[] }, toks := s.toks }) :=
  .of_wp fun prog w A R s h => by
    obtain ⟨hp, g, d, tk, os⟩ := s
    obtain ⟨hl, h⟩ := h
    have f1 := AutoSeq1.idx_int
    have c1 : (items.isEmpty || (0 : Int) == 1) = false := by rw [he]; rfl
    have c2 : (decide ((0 : Int) ≤ 0) || items.isEmpty) = true := rfl
    wp_walk using wpAny_loadPart' hl
    repeat (first
      | (refine wpAny_ite_false (decide_eq_false (by rw [c1]; exact Bool.false_ne_true)) ?_; wp_walk using wpAny_loadPart' hl)
      | (refine wpAny_ite_true (decide_eq_true c2) ?_; wp_walk using wpAny_loadPart' hl)
      | (refine wpAny_ite_true (decide_eq_true (by rw [c2])) ?_; wp_walk using wpAny_loadPart' hl))
    exact ⟨_, rfl, h⟩
def rRepT0 (K : PySem.W.Frag) : R2 := fun x y H Q => ∃ l xs, x = .ref l ∧ y = .int 0 ∧ SqT K H l xs ∧ xs ≠ [] ∧ ∀ p, H p = none → Q (.ref p) (upd H p (.tup []))
section
variable {X : Cx}
theorem op_repT0 : OpR X (binaryOp .Mult) (rRepT0 X.K) := by
  intro pins s σ H x y v u Q I rx ry h
  obtain ⟨l, xs, rfl, rfl, hT, hne, q⟩ := h
  cases rx
  obtain ⟨t, rfl⟩ := ry
  obtain ⟨its, r, ⟨⟨cls, dd, data, sl⟩, ho, hc, n, hd⟩, hs⟩ := I.tuple hT
  simp only at hc hd
  subst hc hd
  have hi : its.toArray.isEmpty = false := by
    cases its with
    | nil => exact absurd (List.eq_nil_of_length_eq_zero r.length) hne
    | cons a b => rfl
  refine wpAny_binaryOp_repeat_ref (T := "tuple") (U := "int") (by decide) ⟨_, ho, rfl⟩ (fun s' => typeIs_int s' 0 t) noFill_tuple_mul F.fills_int_mul F.slot_int_rmul repeat_tuple F.slot_int_index.lookup
    (call_meets F.slot_int_rmul (typeIs_int s 0 t) F.entry_int_rmul (F.args_int_rmul_2 _ _) (int_rmul_tuple 0 t l its.toArray n dd sl)
      ⟨ho, rfl, ⟨_, ho, rfl⟩, call_meets F.slot_tuple_mul ⟨_, ho, rfl⟩ F.entry_tuple_mul (F.args_tuple_mul_2 _ _) (tuple_mul0 l its.toArray n dd sl t hi) ⟨ho, ?_⟩⟩)
  refine ⟨.ref s.heap.objs.size, _, I.laid (t' := s.toks) (o := .tup []) (fun b ob q => Heap.get?_push_of_some _ q) (Nat.le_refl _) ?_, rfl, q _ (I.hok.fresh (Nat.le_refl _))⟩
  exact ⟨Nat.zero_le _, [], .nil, IsTup.new _ _⟩
end
def opMulB (x y : D) : Option D := match x, y with
  | .tup xs, .int k => if k = 0 then (if xs ≠ [] then some (.tup []) else none) else opMulA (.tup xs) (.int k)
  | x, y => opMulA x y
def rMulB (K : PySem.W.Frag) : R2 := fun x y H Q => rMulA K x y H Q ∨ rRepT0 K x y H Q
theorem op_mulB {X : Cx} : OpR X (binaryOp .Mult) (rMulB X.K) := op_mulA.or op_repT0
section
variable {g : G}
theorem vo_mulB (ht : g.tk = false) : VO2 g (rMulB g.K) opMulB := by
  intro H F v u d e z l rd re h Q q
  unfold opMulB at h
  split at h
  · split at h
    · rename_i xs k hk
      subst hk
      split at h
      · rename_i hne
        cases h
        obtain ⟨a, vs, rfl, h1, r1⟩ := rd.tup l
        cases re.int
        exact .inr ⟨a, vs, rfl, rfl, h1, fun e => hne (by subst e; cases r1; rfl), fun p hp => q _ _ _ (Grow.new l hp) (.tup (.inl (.inl upd_same)) (by unfold TkP; rw [ht]; exact upd_same) .nil)⟩
      · cases h
    · exact .inl (vo_mulA ht H F v u _ _ z l rd re h Q q)
  · exact .inl (vo_mulA ht H F v u d e z l rd re h Q q)
end
section
variable {α : Type} {e : α → D}
def pRepT0 (xs : List α) (k : Int) : M (List α) := if k = 0 then (match xs with | [] => .stuck | _ :: _ => .ok []) else pRepT xs k
theorem op_repTB {xs : List α} {k : Int} : OP (opMulB (eT e xs) (eI k)) (pRepT0 xs k) (eT e) := by
  unfold pRepT0
  show OP (if k = 0 then (if xs.map e ≠ [] then some (D.tup []) else none) else opMulA (.tup (xs.map e)) (.int k)) _ _
  by_cases h : k = 0
  · rw [if_pos h, if_pos h]
    cases xs with
    | nil => trivial
    | cons x xs => rfl
  · rw [if_neg h, if_neg h]
    exact op_repTA
end
end DL

namespace DL
open PySem PySem.Spec PyProof.Rows L2
/-! ### list(enumerate(a tuple)): the machine's side -/
theorem TupI.at {h h' : Heap} {a t : Addr} {i : Nat} (x : IsTupIter h a t i) (e : ∀ o, h.get? a = some o → h'.get? a = some o) : IsTupIter h' a t i := let ⟨o, ho, r⟩ := x; ⟨o, e _ ho, r⟩
theorem TupA.at {h h' : Heap} {a : Addr} {items : Array Value} (x : IsTup h a items) (e : ∀ o, h.get? a = some o → h'.get? a = some o) : IsTup h' a items := let ⟨o, ho, r⟩ := x; ⟨o, e _ ho, r⟩
section
variable {prog : Program} {w : World} {A : Around} {E : Value → Shared → Prop} {s : Shared}
theorem le_next {it l : Addr} {i : Nat} {items : Array Value} {x : Value} {Q : Value → Shared → Prop} (hit : IsTupIter s.heap it l i) (hl : IsTup s.heap l items) (hx : items[i]? = some x)
    (hQ : ∀ h', IsTupIter h' it l (i + 1) → Heap.SameBut it s.heap h' → Q x { s with heap := h' }) : wpAny (model prog w) A (Builtin.SmallTypes.nextOf (.ref it)) Q E s := by
  obtain ⟨o, ho, hc, hd⟩ := id hit
  obtain ⟨ol, hol, _, nl, hdl⟩ := hl
  unfold Builtin.SmallTypes.nextOf
  refine wpAny_bind (wpAny_callSpecial?_slot (name := Str.ofString "__next__") hit.typeIs slot_tupleiter_next (wpAny_call_entry slot_tupleiter_next hit.typeIs entry_tupleiter_next ?_ (args_tupleiter_next _)))
  show wpAny _ _ (field (.ref it) 0 >>= _) _ _ s
  refine wpAny_bind (wpAny_field ho hd (x := .ref l) rfl ?_)
  show wpAny _ _ (if (Value.ref l == Value.none) = true then _ else _) _ _ s
  rw [if_neg (show ¬ ((Value.ref l == Value.none) = true) from Bool.false_ne_true)]
  show wpAny _ _ (field (.ref it) 1 >>= _) _ _ s
  refine wpAny_bind (wpAny_field ho hd (x := .int i 0) rfl ?_)
  show wpAny _ _ (seqItems? (.ref l) >>= _) _ _ s
  refine wpAny_bind (wpAny_seqItems hol hdl ?_)
  simp only [Int.toNat_natCast, hx]
  refine wpAny_bind (wpAny_setField ho hd (by simp) (wpAny_pure ⟨x, rfl, wpAny_pure (hQ _ ?_ (Heap.SameBut.update ..))⟩))
  refine ⟨_, Heap.get?_update_self _ ho (Obj.isFreed_of_fields (Obj.data_mapFields hd _)), (Obj.cls_mapFields ..).trans hc, ?_⟩
  rw [Obj.data_mapFields hd]
  simp [rawInt]
theorem le_nextEnd {it l : Addr} {i : Nat} {items : Array Value} {Q : Value → Shared → Prop} (hh : A.handled = none) (hit : IsTupIter s.heap it l i) (hl : IsTup s.heap l items) (hx : items[i]? = none)
    (hE : ∀ h' e, Heap.ExtBut it s.heap h' → (∃ o, h'.get? e = some o ∧ o.cls = .type "StopIteration") → E (.ref e) { s with heap := h' }) : wpAny (model prog w) A (Builtin.SmallTypes.nextOf (.ref it)) Q E s := by
  obtain ⟨o, ho, hc, hd⟩ := id hit
  obtain ⟨ol, hol, _, nl, hdl⟩ := hl
  unfold Builtin.SmallTypes.nextOf
  refine wpAny_bind (wpAny_callSpecial?_slot (name := Str.ofString "__next__") hit.typeIs slot_tupleiter_next (wpAny_call_entry slot_tupleiter_next hit.typeIs entry_tupleiter_next ?_ (args_tupleiter_next _)))
  show wpAny _ _ (field (.ref it) 0 >>= _) _ _ s
  refine wpAny_bind (wpAny_field ho hd (x := .ref l) rfl ?_)
  show wpAny _ _ (if (Value.ref l == Value.none) = true then _ else _) _ _ s
  rw [if_neg (show ¬ ((Value.ref l == Value.none) = true) from Bool.false_ne_true)]
  show wpAny _ _ (field (.ref it) 1 >>= _) _ _ s
  refine wpAny_bind (wpAny_field ho hd (x := .int i 0) rfl ?_)
  show wpAny _ _ (seqItems? (.ref l) >>= _) _ _ s
  refine wpAny_bind (wpAny_seqItems hol hdl ?_)
  simp only [Int.toNat_natCast, hx]
  refine wpAny_bind (wpAny_rule (wpAny_bind (wpAny_setField ho hd (by simp) ?_)))
  show wpAny _ _ (newExc (.type "StopIteration") [] >>= _) _ _ _
  refine wpAny_bind ?_
  simp only [newExc, newTuple]
  refine wpAny_bind (wpAny_newObj_type ?_ (by size_fits))
  refine wpAny_bind (m := firstArgMember _ _) (wpAny_of_eq (a := Value.none) (by first | rfl | (simp only [firstArgMember]; rfl)) ?_)
  refine wpAny_newObj_type ?_ (by size_fits)
  simp only [raiseNew]
  refine wpAny_bind (wpAny_handled ?_)
  first | rw [show A.in1.handled = none from hh] | rw [hh]
  refine wpAny_bind (wpAny_pure (wpAny_throw ?_))
  exact hE _ _ (((Heap.SameBut.update ..).extBut.push _).push _) ⟨_, Heap.get?_push_size _ rfl, rfl⟩
/-- the enumerate object; fr: what stands in the first two fields -/
abbrev EnumF (h : Heap) (e it : Addr) (i : Int) (f0 f1 old : Value) : Prop :=
  h.get? e = some { cls := .type "enumerate", dict := none, data := .fields #[f0, f1, .ref it, rawInt i, .none, old], slots := #[] }
/-- at turn i of a list that takes all: the first tuple handed out still stands -/
def EnumSt (h : Heap) (e it S : Addr) (i : Nat) : Prop :=
  (i = 0 ∧ ∃ old, EnumF h e it 0 .none (.bool false) old) ∨ ∃ (a : Addr) (b : Bool) (old : Value) (oa : Obj), EnumF h e it i (rawInt a) (.bool b) old ∧ h.get? a = some oa ∧ a ≠ e ∧ a ≠ it ∧ a ≠ S
theorem EnumSt.keep {h h' : Heap} {e it S : Addr} {i : Nat} (x : EnumSt h e it S i) (hk : ∀ b o, b ≠ S → h.get? b = some o → h'.get? b = some o) (hI : e ≠ S) : EnumSt h' e it S i := by
  rcases x with ⟨z, old, q⟩ | ⟨a, b, old, oa, q, ha, h1, h2, h3⟩
  · exact .inl ⟨z, old, hk _ _ hI q⟩
  · exact .inr ⟨a, b, old, oa, hk _ _ hI q, hk _ _ h3 ha, h1, h2, h3⟩
theorem le_item {e it l S : Addr} {i : Nat} {items : Array Value} {x : Value} {Q : Option Value → Shared → Prop} (hst : EnumSt s.heap e it S i) (hit : IsTupIter s.heap it l i) (hl : IsTup s.heap l items) (hx : items[i]? = some x) (hne : e ≠ it) (hS : S < s.heap.objs.size)
    (hQ : ∀ h', EnumSt h' e it S (i + 1) → IsTupIter h' it l (i + 1) → h'.get? s.heap.objs.size = some { cls := .type "tuple", data := .seq #[.int i s.toks, x] } → h'.objs.size = s.heap.objs.size + 1 →
      (∀ b o, b ≠ e → b ≠ it → s.heap.get? b = some o → h'.get? b = some o) → Q (some (.ref s.heap.objs.size)) { s with heap := h', toks := s.toks + 1 }) : wpAny (model prog w) A (pyNext (.ref e)) Q E s := by
  obtain ⟨hp, g, dr, tk, os⟩ := s
  obtain ⟨f0, f1, old, he, hf⟩ : ∃ f0 f1 old, EnumF hp e it i f0 f1 old ∧ ((f0 = .none ∧ f1 = .bool false) ∨ ∃ (a : Addr) (b : Bool) (oa : Obj), f0 = rawInt a ∧ f1 = .bool b ∧ hp.get? a = some oa ∧ a ≠ e ∧ a ≠ it ∧ a ≠ S) := by
    rcases hst with ⟨rfl, old, q⟩ | ⟨a, b, old, oa, q, r⟩
    · exact ⟨_, _, old, q, .inl ⟨rfl, rfl⟩⟩
    · exact ⟨_, _, old, q, .inr ⟨a, b, oa, rfl, rfl, r⟩⟩
  have hT : Shared.TypeIs ⟨hp, g, dr, tk, os⟩ (.ref e) "enumerate" := ⟨_, he, rfl⟩
  have hel : e < hp.objs.size := Heap.lt_size he
  have ei : ((i + 1 : Nat) : Int) = (i : Int) + 1 := by omega
  unfold pyNext
  refine wpAny_bind (wpAny_attempt (wpAny_callSpecial?_slot (name := Str.ofString "__next__") hT PySem.F.slot_enumerate_next (wpAny_call_entry PySem.F.slot_enumerate_next hT PySem.F.entry_enumerate_next ?_ (PySem.F.args_enumerate_next_1 _))))
  show wpAny _ _ (field (.ref e) 2 >>= _) _ _ _
  refine wpAny_bind (wpAny_field he rfl (x := .ref it) rfl ?_)
  refine wpAny_bind (le_next hit hl hx fun h1 it1 sb1 => ?_)
  replace sb1 : Heap.SameBut it hp h1 := sb1
  have he1 : EnumF h1 e it i f0 f1 old := (sb1.2 e hne).trans he
  show wpAny _ _ (field (.ref e) 3 >>= _) _ _ ⟨h1, g, dr, tk, os⟩
  refine wpAny_bind (wpAny_field he1 rfl (x := rawInt i) rfl ?_)
  show wpAny _ _ (field (.ref e) 4 >>= _) _ _ ⟨h1, g, dr, tk, os⟩
  refine wpAny_bind (wpAny_field he1 rfl (x := .none) rfl ?_)
  show wpAny _ _ (mkInt i >>= _) _ _ ⟨h1, g, dr, tk, os⟩
  refine wpAny_bind (wpAny_mkInt ?_)
  show wpAny _ _ (setField (.ref e) 3 (rawInt ((i : Int) + 1)) >>= _) _ _ ⟨h1, g, dr, tk + 1, os⟩
  refine wpAny_bind (wpAny_setField_rec he1 (by simp) fun h2 he2 sb2 => ?_)
  replace sb2 : Heap.SameBut e h1 h2 := sb2
  replace he2 : EnumF h2 e it ((i : Int) + 1) f0 f1 old := he2
  show wpAny _ _ (setField (.ref e) 4 .none >>= _) _ _ ⟨h2, g, dr, tk + 1, os⟩
  refine wpAny_bind (wpAny_setField_rec he2 (by simp) fun h3 he3 sb3 => ?_)
  replace sb3 : Heap.SameBut e h2 h3 := sb3
  replace he3 : EnumF h3 e it ((i : Int) + 1) f0 f1 old := he3
  show wpAny _ _ (newTuple [.int i tk, x] >>= _) _ _ ⟨h3, g, dr, tk + 1, os⟩
  refine wpAny_bind (wpAny_newTuple ?_)
  have he4 : EnumF (h3.push { cls := .type "tuple", data := .seq #[.int i tk, x] }) e it ((i : Int) + 1) f0 f1 old := Heap.get?_push_of_some _ he3
  generalize hh4 : h3.push { cls := .type "tuple", data := .seq #[.int i tk, x] } = h4 at he4
  have hsz : h3.objs.size = hp.objs.size := by rw [sb3.1, sb2.1, sb1.1]
  have t4 : h4.get? hp.objs.size = some { cls := .type "tuple", data := .seq #[.int i tk, x] } := by rw [← hh4, ← hsz]; exact Heap.get?_push_size _ rfl
  have z4 : h4.objs.size = hp.objs.size + 1 := by rw [← hh4, Heap.size_push, hsz]
  have k4 : ∀ b o, b ≠ e → b ≠ it → hp.get? b = some o → h4.get? b = some o := fun b o hbe hbi hb => by
    rw [← hh4]; exact Heap.get?_push_of_some _ (sb3.extBut b o hbe (sb2.extBut b o hbe (sb1.extBut b o hbi hb)))
  have i4 : IsTupIter h4 it l (i + 1) := by
    obtain ⟨o, ho, r⟩ := (it1.extBut sb2.extBut (Ne.symm hne)).extBut sb3.extBut (Ne.symm hne)
    rw [← hh4]; exact ⟨o, Heap.get?_push_of_some _ ho, r⟩
  show wpAny _ _ (Builtin.SmallTypes.ownedTupleIsFree (.ref e) >>= _) _ _ ⟨h4, g, dr, tk + 1, os⟩
  rw [hsz]
  clear hh4 he3 sb3 he2 sb2 he1 sb1 it1 hsz h3 h2 h1
  have fin : ∀ h5 : Heap, EnumSt h5 e it S (i + 1) → Heap.SameBut e h4 h5 → Q (some (.ref hp.objs.size)) ⟨h5, g, dr, tk + 1, os⟩ := fun h5 st5 sb5 =>
    hQ h5 st5 (i4.extBut sb5.extBut (Ne.symm hne)) (sb5.extBut _ _ (Nat.ne_of_gt hel) t4) (by show h5.objs.size = hp.objs.size + 1; rw [sb5.1, z4]) fun b o hbe hbi hb => sb5.extBut b o hbe (k4 b o hbe hbi hb)
  unfold Builtin.SmallTypes.ownedTupleIsFree
  rcases hf with ⟨rfl, rfl⟩ | ⟨a, b, oa, rfl, rfl, ha, hae, hai, haS⟩
  · refine wpAny_bind (wpAny_bind (wpAny_field he4 rfl (x := .none) rfl (wpAny_pure ?_)))
    simp only [if_true]
    refine wpAny_bind (wpAny_rule ?_)
    refine wpAny_bind (wpAny_field he4 rfl (x := old) rfl ?_)
    refine wpAny_bind (wpAny_setField_rec he4 (by simp) fun h5 he5 sb5 => ?_)
    replace sb5 : Heap.SameBut e h4 h5 := sb5
    replace he5 : EnumF h5 e it ((i : Int) + 1) .none (.bool false) x := he5
    show wpAny _ _ (Builtin.SmallTypes.ownedTupleHandOut (.ref e) (.ref hp.objs.size) >>= _) _ _ ⟨h5, g, dr, tk + 1, os⟩
    refine wpAny_bind ?_
    unfold Builtin.SmallTypes.ownedTupleHandOut
    refine wpAny_bind (wpAny_setField_rec he5 (by simp) fun h6 he6 sb6 => ?_)
    replace sb6 : Heap.SameBut e h5 h6 := sb6
    replace he6 : EnumF h6 e it ((i : Int) + 1) (rawInt hp.objs.size) (.bool false) x := he6
    refine wpAny_setField_rec he6 (by simp) fun h7 he7 sb7 => ?_
    replace sb7 : Heap.SameBut e h6 h7 := sb7
    replace he7 : EnumF h7 e it ((i : Int) + 1) (rawInt hp.objs.size) (.bool false) x := he7
    have sb47 : Heap.SameBut e h4 h7 := (sb5.trans sb6).trans sb7
    refine wpAny_bind (wpAny_letGo (wpAny_pure ⟨_, rfl, wpAny_pure (fin h7 (.inr ⟨hp.objs.size, false, x, _, by unfold EnumF; rw [ei]; exact he7, sb47.extBut _ _ (Nat.ne_of_gt hel) t4, Nat.ne_of_gt hel, ?_, Nat.ne_of_gt hS⟩) sb47)⟩))
    obtain ⟨oi, hoi, _⟩ := hit
    exact Nat.ne_of_gt (Heap.lt_size hoi)
  · refine wpAny_bind (wpAny_bind (wpAny_field he4 rfl (x := rawInt a) rfl ?_))
    show wpAny _ _ (loadIfAlive ((a : Int).toNat) >>= _) _ _ _
    rw [Int.toNat_natCast]
    have ha4 := k4 a oa hae hai ha
    refine wpAny_bind (PySem.W.kdx_alive ha4 ?_)
    simp only [Option.isNone_some, Bool.false_eq_true, if_false]
    refine wpAny_bind (wpAny_field he4 rfl (x := .bool b) rfl ?_)
    cases b with
    | true =>
      rw [if_neg (show ¬ ((Value.bool true != Value.bool true) = true) from Bool.false_ne_true)]
      refine wpAny_pure ?_
      simp only [Bool.false_eq_true, if_false]
      exact wpAny_pure ⟨_, rfl, wpAny_pure (fin h4 (.inr ⟨a, true, old, oa, by unfold EnumF; rw [ei]; exact he4, ha4, hae, hai, haS⟩) (Heap.SameBut.refl _ _))⟩
    | false =>
      rw [if_pos (show (Value.bool false != Value.bool true) = true from rfl)]
      refine wpAny_bind (wpAny_setField_rec he4 (by simp) fun h5 he5 sb5 => ?_)
      replace sb5 : Heap.SameBut e h4 h5 := sb5
      replace he5 : EnumF h5 e it ((i : Int) + 1) (rawInt a) (.bool true) old := he5
      refine wpAny_pure ?_
      simp only [Bool.false_eq_true, if_false]
      exact wpAny_pure ⟨_, rfl, wpAny_pure (fin h5 (.inr ⟨a, true, old, oa, by unfold EnumF; rw [ei]; exact he5, sb5.extBut a oa hae ha4, hae, hai, haS⟩) sb5)⟩
theorem le_done {e it l S : Addr} {i : Nat} {items : Array Value} {Q : Option Value → Shared → Prop} (hh : A.handled = none) (hst : EnumSt s.heap e it S i) (hit : IsTupIter s.heap it l i) (hl : IsTup s.heap l items) (hx : items[i]? = none)
    (hQ : ∀ h', Heap.ExtBut it s.heap h' → Q none { s with heap := h' }) : wpAny (model prog w) A (pyNext (.ref e)) Q E s := by
  obtain ⟨f0, f1, old, he⟩ : ∃ f0 f1 old, EnumF s.heap e it i f0 f1 old := by
    rcases hst with ⟨rfl, old, q⟩ | ⟨a, b, old, oa, q, r⟩
    · exact ⟨_, _, old, q⟩
    · exact ⟨_, _, old, q⟩
  have hT : s.TypeIs (.ref e) "enumerate" := ⟨_, he, rfl⟩
  unfold pyNext
  refine wpAny_bind (wpAny_attempt (wpAny_callSpecial?_slot (name := Str.ofString "__next__") hT PySem.F.slot_enumerate_next (wpAny_call_entry PySem.F.slot_enumerate_next hT PySem.F.entry_enumerate_next ?_ (PySem.F.args_enumerate_next_1 _))))
  show wpAny _ _ (field (.ref e) 2 >>= _) _ _ _
  refine wpAny_bind (wpAny_field he rfl (x := .ref it) rfl ?_)
  refine wpAny_bind (le_nextEnd hh hit hl hx fun h' x he' hx' => ?_)
  obtain ⟨o, ho, hc⟩ := hx'
  refine wpAny_bind (wpAny_isInstance (T := "StopIteration") (b := true) ⟨o, ho, hc⟩ isSubtype_stop ?_)
  exact wpAny_pure (hQ _ he')
end
end DL

namespace DL
open PySem PySem.Spec PyProof.Rows L2
/-- the pairs made so far -/
structure EnumG (items : Array Value) (lo : Addr) (h : Heap) (as : List Addr) : Prop where
  rise : as.Pairwise (· < ·)
  above : ∀ a ∈ as, lo < a
  pairs : ∀ (j : Nat) (a : Addr), as[j]? = some a → ∃ t x, items[j]? = some x ∧ h.get? a = some { cls := .type "tuple", data := .seq #[.int j t, x] }
section
variable {prog : Program} {w : World} {A : Around} {E : Value → Shared → Prop} {s : Shared} {R : Result → Shared → Prop} {items : Array Value} {e it l S : Addr}
theorem EnumG.lt {lo : Addr} {h : Heap} {as : List Addr} (g : EnumG items lo h as) {a : Addr} (ha : a ∈ as) : a < h.objs.size := by
  obtain ⟨j, hj⟩ := List.mem_iff_getElem?.mp ha
  obtain ⟨_, _, _, q⟩ := g.pairs j a hj
  exact Heap.lt_size q
theorem le_loop (hh : A.handled = none) (heS : e < S) (hiS : it < S) (hlS : l < S) (hne : e ≠ it) (hle : l ≠ e) (hli : l ≠ it) (hn : items.size ≤ sizeLine) (res : Value) {h0 : Heap}
    (hR : ∀ h' tk acc c as, (∀ b o, b ≠ S → b ≠ e → b ≠ it → h0.get? b = some o → h'.get? b = some o) → h'.get? S = some { cls := .type "list", dict := none, data := .seq acc c, slots := #[] } → as.length = items.size → EnumG items S h' as →
      acc.toList = as.map Value.ref → R (.ok (.ret res)) { s with heap := h', toks := tk }) :
    ∀ (k i : Nat) (h : Heap) (tk c : Nat) (acc : Array Value) (as : List Addr), items.size - i = k → i ≤ items.size → EnumSt h e it S i → IsTupIter h it l i → IsTup h l items → (∀ b o, b ≠ S → b ≠ e → b ≠ it → h0.get? b = some o → h.get? b = some o) →
      h.get? S = some { cls := .type "list", dict := none, data := .seq acc c, slots := #[] } → acc.toList = as.map Value.ref → as.length = i → EnumG items S h as →
      codeAny (model prog w) A (.builtin "list.extend.loop" ⟨[.ref S, .ref e, res], []⟩) R { s with heap := h, toks := tk } := by
  have hSe : S ≠ e := Nat.ne_of_gt heS
  have hSi : S ≠ it := Nat.ne_of_gt hiS
  intro k
  induction k with
  | zero =>
    intro i h tk c acc as hk hi hst hit hl hkeep hS hacc hal hG
    refine codeAny_builtin PySem.F.entry_extend_loop ?_
    rw [Around.under_plainId PySem.F.plain_extend_loop _]
    show wpAny _ A.in1 (pyNext (.ref e) >>= _) _ _ _
    refine wpAny_bind (le_done (s := { s with heap := h, toks := tk }) (A := A.in1) (S := S) hh hst hit hl (Array.getElem?_eq_none (by omega)) fun h' q => ?_)
    refine wpAny_pure (hR h' tk acc c as (fun b o h1 h2 h3 z => q b o h3 (hkeep b o h1 h2 h3 z)) (q S _ hSi hS) (by omega) ⟨hG.rise, hG.above, fun j a hj => ?_⟩ hacc)
    obtain ⟨t, x, e1, e2⟩ := hG.pairs j a hj
    have := hG.above a (List.mem_of_getElem? hj)
    exact ⟨t, x, e1, q a _ (Nat.ne_of_gt (Nat.lt_trans hiS this)) e2⟩
  | succ k ih =>
    intro i h tk c acc as hk hi hst hit hl hkeep hS hacc hal hG
    have hlt : i < items.size := by omega
    obtain ⟨x, hx⟩ : ∃ x, items[i]? = some x := ⟨items[i], Array.getElem?_eq_getElem hlt⟩
    have hsz : acc.size = i := by rw [← Array.length_toList, hacc, List.length_map, hal]
    refine codeAny_builtin PySem.F.entry_extend_loop ?_
    rw [Around.under_plainId PySem.F.plain_extend_loop _]
    show wpAny _ A.in1 (pyNext (.ref e) >>= _) _ _ _
    have hSl : S < h.objs.size := Heap.lt_size hS
    refine wpAny_bind (le_item (s := { s with heap := h, toks := tk }) (S := S) hst hit hl hx hne hSl fun h' hst' hit' ht hz hkp => ?_)
    dsimp only at ht hz hkp ⊢
    have hS' := hkp S _ hSe hSi hS
    have up : ∀ b o, b ≠ S → h'.get? b = some o → (h'.update S (Obj.mapSeq (·.push (Value.ref h.objs.size)))).get? b = some o := fun b o hb z => (Heap.get?_update_other _ _ (Ne.symm hb)).trans z
    show wpAny _ A.in1 (updateSeq S (·.push (Value.ref h.objs.size)) >>= _) _ _ _
    refine wpAny_bind (wpAny_updateSeq hS' rfl (wpAny_pure ⟨plainId_quiet PySem.F.plain_extend_loop _, ?_⟩) (by omega))
    refine ih (i + 1) _ (tk + 1) _ (acc.push (Value.ref h.objs.size)) (as ++ [h.objs.size]) (by omega) hlt (hst'.keep up (Ne.symm hSe)) (TupI.at hit' fun o z => up _ _ (Ne.symm hSi) z) (TupA.at hl fun o z => up _ _ (Nat.ne_of_lt hlS) (hkp _ _ hle hli z))
      (fun b o h1 h2 h3 z => up b o h1 (hkp b o h2 h3 (hkeep b o h1 h2 h3 z))) (Heap.get?_update_self _ hS' rfl) (by rw [Array.toList_push, hacc, List.map_append]; rfl) (by rw [List.length_append, hal]; rfl) ⟨?_, ?_, ?_⟩
    · refine List.pairwise_append.mpr ⟨hG.rise, List.pairwise_singleton _ _, fun a ha b hb => ?_⟩
      rw [List.mem_singleton.mp hb]
      exact hG.lt ha
    · intro a ha
      rcases List.mem_append.mp ha with ha | ha
      · exact hG.above a ha
      · rw [List.mem_singleton.mp ha]; exact hSl
    · intro j b hj
      rcases Nat.lt_trichotomy j as.length with h1 | h1 | h1
      · rw [List.getElem?_append_left h1] at hj
        obtain ⟨t, y, e1, e2⟩ := hG.pairs j b hj
        have hb := hG.above b (List.mem_of_getElem? hj)
        exact ⟨t, y, e1, up b _ (Nat.ne_of_gt hb) (hkp b _ (Nat.ne_of_gt (Nat.lt_trans heS hb)) (Nat.ne_of_gt (Nat.lt_trans hiS hb)) e2)⟩
      · subst h1
        have hb : h.objs.size = b := by simpa using hj
        subst hb
        rw [hal]
        exact ⟨tk, x, hx, up _ _ (Nat.ne_of_gt hSl) ht⟩
      · have hnone : (as ++ [h.objs.size])[j]? = none := List.getElem?_eq_none (by rw [List.length_append, List.length_singleton]; omega)
        rw [hnone] at hj; cases hj
theorem len_enum : typeLookup (.type "enumerate") "__len__" = pure none := by rw [typeLookup_type, builtinLookup_eq_fast]; kernel_rfl
theorem hint_enum : typeLookup (.type "enumerate") "__length_hint__" = pure none := by rw [typeLookup_type, builtinLookup_eq_fast]; kernel_rfl
theorem le_init (hh : A.handled = none) (heS : e < S) (hiS : it < S) (hlS : l < S) (hne : e ≠ it) (hle : l ≠ e) (hli : l ≠ it) (hn : items.size ≤ sizeLine) (hst : IsEnum s.heap e it 0 .none) (hit : IsTupIter s.heap it l 0) (hl : IsTup s.heap l items)
    (hS : s.heap.get? S = some { cls := .type "list", data := .seq #[] })
    (hR : ∀ h' tk acc c as, (∀ b o, b ≠ S → b ≠ e → b ≠ it → s.heap.get? b = some o → h'.get? b = some o) → h'.get? S = some { cls := .type "list", dict := none, data := .seq acc c, slots := #[] } → as.length = items.size → EnumG items S h' as →
      acc.toList = as.map Value.ref → R (.ok (.ret .none)) { s with heap := h', toks := tk }) :
    wpAny (model prog w) A.in1 (Builtin.«list.__init__» ⟨[.ref S, .ref e], []⟩)
      (fun fin s' => match fin with | .done f => R (.ok f) s' | .again c' => c'.quiet = true ∧ codeAny (model prog w) A c' R s') (fun x s' => R (.error x) s') s := by
  have hSe : S ≠ e := Nat.ne_of_gt heS
  have hSi : S ≠ it := Nat.ne_of_gt hiS
  show wpAny _ _ (do let old ← Builtin.List.listItems (.ref S); Builtin.List.listUpdate (.ref S) (fun _ => #[]); letGo old.toList.reverse; Builtin.List.listExtendWith (.ref S) (.ref e) .none) _ _ s
  refine wpAny_bind ?_
  unfold Builtin.List.listItems
  refine wpAny_bind (wpAny_seqItems hS rfl (wpAny_pure ?_))
  show wpAny _ _ (updateSeq S (fun _ => #[]) >>= fun _ => letGo (#[] : Array Value).toList.reverse >>= fun _ => Builtin.List.listExtendWith (.ref S) (.ref e) .none) _ _ s
  refine wpAny_bind (wpAny_updateSeq hS rfl ?_)
  have hS2 := Heap.get?_update_self (Obj.mapSeq (fun _ => (#[] : Array Value))) hS rfl
  have oth : ∀ b o, b ≠ S → s.heap.get? b = some o → (s.heap.update S (Obj.mapSeq (fun _ => (#[] : Array Value)))).get? b = some o := fun b o hb z => (Heap.get?_update_other _ _ (Ne.symm hb)).trans z
  refine wpAny_bind (wpAny_letGo ?_)
  generalize s.heap.update S (Obj.mapSeq (fun _ => (#[] : Array Value))) = h2 at hS2 oth
  have hT : Shared.TypeIs { s with heap := h2 } (.ref e) "enumerate" := ⟨_, oth _ _ (Ne.symm hSe) hst, rfl⟩
  have hst2 : IsEnum h2 e it 0 .none := oth _ _ (Ne.symm hSe) hst
  unfold Builtin.List.listExtendWith
  refine wpAny_bind (wpAny_typeOf hT ?_)
  have h1 : Builtin.List.listSameRef (.ref S) (.ref e) = false := by simp [Builtin.List.listSameRef, hSe]
  have h3 : (Value.type "enumerate" == Value.type "list") = false := by decide
  have h4 : (Value.type "enumerate" == Value.type "tuple") = false := by decide
  simp only [h1, h3, h4, Bool.or_false, Bool.false_eq_true, if_false]
  refine wpAny_bind (wpAny_pyIter_enum hst2 ?_)
  refine wpAny_bind (wpAny_holding ?_)
  unfold Builtin.List.listLengthHint
  refine wpAny_bind (wpAny_specialOf hT len_enum ?_)
  show wpAny _ A.in1 (specialOf (Value.ref e) (Str.ofString "__length_hint__") >>= _) _ _ _
  refine wpAny_bind (wpAny_specialOf hT hint_enum ?_)
  refine wpAny_pure ?_
  show wpAny _ A.in1 (rule "list.extend.makes-room" >>= fun _ => Builtin.List.listTouch (.ref S) >>= fun _ =>
    again (.builtin "list.extend.loop" ⟨[.ref S, .ref e, .none], []⟩)) _ _ _
  refine wpAny_bind (wpAny_rule ?_)
  refine wpAny_bind ?_
  show wpAny _ A.in1 (updateSeq S (·.push .none) >>= fun _ => updateSeq S (·.pop)) _ _ _
  refine wpAny_bind (wpAny_updateSeq hS2 rfl ?_)
  have hS3 := Heap.get?_update_self (Obj.mapSeq (·.push Value.none)) hS2 rfl
  refine wpAny_updateSeq (hz := by seq_fits) hS3 rfl ?_
  have hS4 := Heap.get?_update_self (Obj.mapSeq (·.pop)) hS3 rfl
  have oth2 : ∀ b o, b ≠ S → h2.get? b = some o → ((h2.update S (Obj.mapSeq (·.push Value.none))).update S (Obj.mapSeq (·.pop))).get? b = some o :=
    fun b o hb z => (Heap.get?_update_other _ _ (Ne.symm hb)).trans ((Heap.get?_update_other _ _ (Ne.symm hb)).trans z)
  refine wpAny_pure ⟨plainId_quiet PySem.F.plain_extend_loop _, ?_⟩
  exact le_loop (s := s) (h0 := s.heap) hh heS hiS hlS hne hle hli hn .none hR items.size 0 _ s.toks _ #[] [] (Nat.sub_zero _) (Nat.zero_le _) (.inl ⟨rfl, .none, oth2 _ _ (Ne.symm hSe) hst2⟩) (TupI.at hit fun o z => oth2 _ _ (Ne.symm hSi) (oth _ _ (Ne.symm hSi) z))
    (TupA.at hl fun o z => oth2 _ _ (Nat.ne_of_lt hlS) (oth _ _ (Nat.ne_of_lt hlS) z)) (fun b o hb _ _ z => oth2 b o hb (oth b o hb z)) hS4 rfl rfl ⟨List.Pairwise.nil, (fun _ ha => nomatch ha), fun j a hj => by simp at hj⟩
theorem le_call {Q : Value → Shared → Prop} (hh : A.handled = none) (hne : e ≠ it) (hle : l ≠ e) (hli : l ≠ it) (hn : items.size ≤ sizeLine) (hst : IsEnum s.heap e it 0 .none) (hit : IsTupIter s.heap it l 0) (hl : IsTup s.heap l items)
    (hQ : ∀ h' tk acc c as, (∀ b o, b ≠ e → b ≠ it → s.heap.get? b = some o → h'.get? b = some o) → h'.get? s.heap.objs.size = some { cls := .type "list", dict := none, data := .seq acc c, slots := #[] } → as.length = items.size → EnumG items s.heap.objs.size h' as →
      acc.toList = as.map Value.ref → Q (.ref s.heap.objs.size) { s with heap := h', toks := tk }) : wpAny (model prog w) A (call (.type "list") [.ref e]) Q E s := by
  refine callType_codes (Q₁ := fun obj s1 => obj = .ref s.heap.objs.size ∧ s1 = { s with heap := s.heap.push { cls := .type "list", data := .seq #[] } }) PySem.F.called_list (PySem.F.typeCall_list_1 _) PySem.F.entry_list_init (code_list_new _ ⟨rfl, rfl⟩) fun obj s1 h1 => ?_
  obtain ⟨rfl, rfl⟩ := h1
  have hS : (s.heap.push { cls := .type "list", data := .seq #[] }).get? s.heap.objs.size = some { cls := .type "list", data := .seq #[] } := Heap.get?_push_size _ rfl
  obtain ⟨oi, hoi, ri⟩ := hit
  obtain ⟨ol, hol, rl⟩ := hl
  refine ⟨⟨_, hS, rfl⟩, PySem.F.args_list_init_2 _ _, le_init (A := A.in1) hh (Heap.lt_size hst) (Heap.lt_size hoi) (Heap.lt_size hol) hne hle hli hn (Heap.get?_push_of_some _ hst) ⟨oi, Heap.get?_push_of_some _ hoi, ri⟩ ⟨ol, Heap.get?_push_of_some _ hol, rl⟩ hS fun h' tk acc c as hk hS' hl' hG hacc => ?_⟩
  exact ⟨rfl, hQ h' tk acc c as (fun b o h1 h2 z => hk b o (Nat.ne_of_lt (Heap.lt_size z)) h1 h2 (Heap.get?_push_of_some _ z)) hS' hl' hG hacc⟩
theorem meets_enum_tup (l : Addr) (items : Array Value) (n : Nat) (dct : Option Addr) (sl : Array (Option Value)) :
    Meets (Builtin.«enumerate.__new__» ⟨[.type "enumerate", .ref l], []⟩) (fun _ R s => s.heap.get? l = some { cls := .type "tuple", dict := dct, data := .seq items n, slots := sl } ∧
      R (.ok (.ret (.ref (s.heap.push { cls := .type "tuple_iterator", data := .fields #[.ref l, .int 0 0] }).objs.size)))
        { s with heap := (s.heap.push { cls := .type "tuple_iterator", data := .fields #[.ref l, .int 0 0] }).push { cls := .type "enumerate", data := .fields #[.none, .bool false, .ref s.heap.objs.size, rawInt 0, .none, .none] } }) :=
  .of_wp fun prog w A R s h => by
    obtain ⟨hp, g, d, tk, os⟩ := s; obtain ⟨hl, h⟩ := h
    have hsub := sub_enumerate
    have hL : IsTup (Shared.heap ⟨hp, g, d, tk, os⟩) l items := ⟨_, hl, rfl, n, rfl⟩
    wp_walk using AutoSeq1.wpAny_loadPart' hl
    refine wpAny_stack_any fun st => wpAny_pure ?_
    split
    · rename_i c _ _ _ _ _
      cases (c == Value.type "enumerate")
      · wp_walk using AutoSeq1.wpAny_loadPart' hl, iter_tuple hL
        exact ⟨_, rfl, h⟩
      · wp_walk using AutoSeq1.wpAny_loadPart' hl, iter_tuple hL
        exact ⟨_, rfl, h⟩
    · wp_walk using AutoSeq1.wpAny_loadPart' hl, iter_tuple hL
      exact ⟨_, rfl, h⟩
theorem call_enum_tup {Q : Value → Shared → Prop} (hL : IsTup s.heap l items)
    (h : ∀ h', IsEnum h' (s.heap.objs.size + 1) s.heap.objs.size 0 .none → IsTupIter h' s.heap.objs.size l 0 → h'.objs.size = s.heap.objs.size + 2 → (∀ b o, s.heap.get? b = some o → h'.get? b = some o) → Q (.ref (s.heap.objs.size + 1)) { s with heap := h' }) :
    wpAny (model prog w) A (call (.type "enumerate") [.ref l]) Q E s := by
  obtain ⟨⟨c, dct, dt, sl⟩, hl, hc, n, hd⟩ := hL
  replace hc : c = .type "tuple" := hc
  replace hd : dt = .seq items n := hd
  subst hc hd
  refine callType_new PySem.F.called_enumerate (by decide) (PySem.F.typeCall_enumerate_1 _) (PySem.F.newCall_enumerate_1 _) (fun obj => PySem.F.args_object_init_2 obj _) PySem.F.entry_enumerate_new (meets_enum_tup l items n dct sl) ⟨hl, ?_⟩
  have hz : (s.heap.push { cls := .type "tuple_iterator", data := .fields #[.ref l, .int 0 0] }).objs.size = s.heap.objs.size + 1 := Heap.size_push ..
  show _ ∧ _
  rw [hz]
  have he : IsEnum ((s.heap.push { cls := .type "tuple_iterator", data := .fields #[.ref l, .int 0 0] }).push { cls := .type "enumerate", data := .fields #[.none, .bool false, .ref s.heap.objs.size, rawInt 0, .none, .none] }) (s.heap.objs.size + 1) s.heap.objs.size 0 .none := by
    have := Heap.get?_push_size (s.heap.push { cls := .type "tuple_iterator", data := .fields #[.ref l, .int 0 0] }) (o := { cls := .type "enumerate", data := .fields #[.none, .bool false, .ref s.heap.objs.size, rawInt 0, .none, .none] }) rfl
    rw [hz] at this; exact this
  refine ⟨⟨_, he, rfl⟩, h _ he ⟨_, Heap.get?_push_of_some _ (Heap.get?_push_size _ rfl), rfl, rfl⟩ (by rw [Heap.size_push, hz]) fun b o x => Heap.get?_push_of_some _ (Heap.get?_push_of_some _ x)⟩
end
end DL

namespace DL
open PySem PySem.Spec PyProof.Rows L2
/-! ### many new objects at once -/
def updL (H : Hp) (l : List (Addr × HO)) : Hp := l.foldl (fun H p => upd H p.1 p.2) H
theorem updL_out {a : Addr} : ∀ {l : List (Addr × HO)} {H : Hp}, a ∉ l.map (·.1) → updL H l a = H a
  | [], _, _ => rfl
  | p :: l, H, h => by
    show updL (upd H p.1 p.2) l a = H a
    rw [updL_out (l := l) fun z => h (List.mem_cons_of_mem _ z), upd_ne fun z => h (by rw [z]; exact List.mem_cons_self)]
theorem updL_cases {a : Addr} {o : HO} : ∀ {l : List (Addr × HO)} {H : Hp}, updL H l a = some o → H a = some o ∨ (a, o) ∈ l
  | [], _, h => .inl h
  | p :: l, H, h => by
    rcases updL_cases (l := l) (H := upd H p.1 p.2) h with q | q
    · by_cases e : a = p.1
      · subst e; rw [upd_same] at q; cases q; exact .inr List.mem_cons_self
      · rw [upd_ne e] at q; exact .inl q
    · exact .inr (List.mem_cons_of_mem _ q)
theorem laidL {X : Cx} {pins : List (Addr × Obj)} {σ : L2.St} {H : Hp} {s : Shared} {h' : Heap} {t' : Nat} {l : List (Addr × HO)} (I : L2.Inv X pins σ H s) (k : ∀ b u, s.heap.get? b = some u → h'.get? b = some u) (hp : ∀ p ∈ l, s.heap.objs.size ≤ p.1)
    (new : ∀ p ∈ l, ∀ H', ObjOk X.prog X.w H' h' p.1 p.2) : L2.Inv X pins σ (updL H l) { s with heap := h', toks := t' } := by
  have low : ∀ b, b < s.heap.objs.size → updL H l b = H b := fun b hb => updL_out fun z => by
    obtain ⟨p, hpl, e⟩ := List.mem_map.mp z
    exact absurd (Nat.lt_of_lt_of_le hb (hp p hpl)) (by rw [e]; exact Nat.lt_irrefl _)
  have old : ∀ b o, H b = some o → updL H l b = some o := fun b o e => by rw [low b ((I.hok b o e).lt)]; exact e
  refine I.un ⟨fun b u q _ _ _ => k b u q, fun b u q _ _ _ => ⟨u.slots, k b u q⟩, fun b u q n _ => by rw [low b (Heap.lt_size q)]; exact n, fun b u q _ => ⟨u, k b u q⟩, fun b xs q => old b _ q, fun b u xs q => old b _ q, fun b ps q => ⟨#[], by rw [old b _ q]; simp⟩⟩ ?_
  intro b u e
  rcases updL_cases e with q | q
  · exact (I.hok b u q).stay (fun c v _ q => k c v q) (fun c q => old c _ q) fun c xs q => old c _ q
  · exact new _ q _
/-! ### list(enumerate(a tuple)) -/
def enumH : Hp → Nat → List Addr → List V → Hp
  | H, k, a :: as, x :: xs => enumH (upd H a (.tup [.int (k : Nat), x])) (k + 1) as xs
  | H, _, _, _ => H
/-- the pairs are new -/
inductive EnumNew : Hp → Nat → List Addr → List V → Hp → Prop
  | nil {H : Hp} {k : Nat} : EnumNew H k [] [] H
  | cons {H H2 : Hp} {k : Nat} {a : Addr} {as : List Addr} {x : V} {xs : List V} : H a = none → EnumNew (upd H a (.tup [.int (k : Nat), x])) (k + 1) as xs H2 → EnumNew H k (a :: as) (x :: xs) H2
def enumP : Nat → List Addr → List V → List (Addr × HO)
  | k, a :: as, x :: xs => (a, .tup [.int (k : Nat), x]) :: enumP (k + 1) as xs
  | _, _, _ => []
theorem enumP_fst : ∀ (k : Nat) (as : List Addr) (xs : List V), ∀ p ∈ enumP k as xs, p.1 ∈ as
  | k, a :: as, x :: xs, p, h => by
    rcases List.mem_cons.mp h with rfl | h
    · exact List.mem_cons_self
    · exact List.mem_cons_of_mem _ (enumP_fst _ _ _ p h)
  | _, [], _, p, h => by cases h
  | _, _ :: _, [], p, h => by cases h
theorem enumP_new : ∀ (k : Nat) (as : List Addr) (xs : List V) (H : Hp), as.length = xs.length → as.Pairwise (· < ·) → (∀ a ∈ as, H a = none) → EnumNew H k as xs (updL H (enumP k as xs))
  | k, [], [], H, _, _, _ => .nil
  | k, a :: as, x :: xs, H, hl, hr, hn => by
    have hr := List.pairwise_cons.mp hr
    refine .cons (hn a List.mem_cons_self) ?_
    refine enumP_new (k + 1) as xs (upd H a (.tup [.int (k : Nat), x])) (by simpa using hl) hr.2 fun b hb => ?_
    rw [upd_ne (Nat.ne_of_gt (hr.1 b hb))]
    exact hn b (List.mem_cons_of_mem _ hb)
  | _, [], _ :: _, _, h, _, _ => by cases h
  | _, _ :: _, [], _, h, _, _ => by cases h
theorem enumP_ok {prog : Program} {w : World} {h : Heap} {its : List Value} {xs : List V} (r : Vals xs its) : ∀ (k : Nat) (as : List Addr) (ys : List V), (∀ (j : Nat) (y : V), ys[j]? = some y → xs[k + j]? = some y) →
    (∀ (j : Nat) (a : Addr), as[j]? = some a → ∃ t x, its.toArray[k + j]? = some x ∧ h.get? a = some { cls := .type "tuple", data := .seq #[.int (k + j : Nat) t, x] }) →
    ∀ p ∈ enumP k as ys, ∀ H', ObjOk prog w H' h p.1 p.2
  | k, a :: as, y :: ys, h1, h2, p, hp, H' => by
    rcases List.mem_cons.mp hp with rfl | hp
    · obtain ⟨t, x, e1, e2⟩ := h2 0 a rfl
      have e3 := h1 0 y rfl
      rw [Nat.add_zero] at e1 e3
      obtain ⟨u, hu, ru⟩ := r.get e3
      have e1 : its[k]? = some x := by simpa using e1
      have : u = x := by rw [hu] at e1; exact Option.some.inj e1
      subst this
      exact ⟨by show 2 ≤ sizeLine; decide, [.int (k : Nat) t, u], .cons ⟨_, rfl⟩ (.cons ru .nil), ⟨_, by simpa using e2, rfl, _, rfl⟩⟩
    · exact enumP_ok r (k + 1) as ys (fun j z q => by have := h1 (j + 1) z (by simpa using q); rw [show k + 1 + j = k + (j + 1) by omega]; exact this)
        (fun j b q => by have := h2 (j + 1) b (by simpa using q); rw [show k + 1 + j = k + (j + 1) by omega]; exact this) p hp H'
  | _, [], _, _, _, p, hp, _ => by cases hp
  | _, _ :: _, [], _, _, p, hp, _ => by cases hp
theorem vals_ref : ∀ as : List Addr, Vals (as.map V.ref) (as.map Value.ref)
  | [] => .nil
  | _ :: as => .cons rfl (vals_ref as)
def tEnumL (K : PySem.W.Frag) (te : TE) : TE := fun σ H Q => te σ H fun x H1 => ∃ a xs, x = .ref a ∧ SqT K H1 a xs ∧ ∀ as H2 l, EnumNew H1 0 as xs H2 → H2 l = none → Q (.ref l) (upd H2 l (.lst (as.map V.ref)))
theorem pe_listEnum {X : Cx} {e : Expr} {te : TE} {p1 p2 pos pos2 : Pos} (hc : X.calm = true) (hg1 : Gl X "list") (hm1 : X.mg "list" = none) (hg2 : Gl X "enumerate") (hm2 : X.mg "enumerate" = none) (he : PE X e te)
    (hs : starEach [e] X.env = [(false, eval e X.env)] := by rfl) (hs2 : starEach [.Call (.Name "enumerate" p2) [e] [] pos2] X.env = [(false, eval (.Call (.Name "enumerate" p2) [e] [] pos2) X.env)] := by rfl) :
    PE X (.Call (.Name "list" p1) [.Call (.Name "enumerate" p2) [e] [] pos2] [] pos) (tEnumL X.K te) := by
  refine ⟨fun pins s σ H Q I h => ?_⟩
  refine wpAny_Call_Name_kw (ld_blt I hg1 hm1 (show bootBuiltins ("list" : Str) = some (.type "list") by decide +kernel) ?_ (by decide) (by decide))
  refine PyProof.Rows.callWith_type1 ?_ hs2 rfl
  rw [hs2]
  show wpAny _ _ (spliced ((false, eval (.Call (.Name "enumerate" p2) [e] [] pos2) X.env) :: [])) _ _ s
  refine Calls.spliced_cons ?_
  refine wpAny_Call_Name_kw (ld_blt I hg2 hm2 (show bootBuiltins ("enumerate" : Str) = some (.type "enumerate") by decide +kernel) ?_ (by decide) (by decide))
  refine PyProof.Rows.callWith_type1 ?_ hs rfl
  rw [hs]
  show wpAny _ _ (spliced ((false, eval e X.env) :: [])) _ _ s
  refine Calls.spliced_cons (thn (he.run pins s σ H _ I h) fun u s1 ⟨x, H1, I1, r1, a, xs, ex, hq, q1⟩ => ?_)
  subst ex
  cases r1
  refine Calls.spliced_nil ?_
  obtain ⟨its, rv, pt, hz⟩ := I1.tuple hq
  have hlen := rv.length
  refine call_enum_tup pt fun h2 en it hsz2 hk2 => Calls.spliced_nil ?_
  have hlt := pt.lt
  have hz2 : its.toArray.size ≤ sizeLine := by simp only [List.size_toArray]; omega
  refine le_call (s := { s1 with heap := h2 }) (I.ok.hd hc) (Nat.succ_ne_self _) (Nat.ne_of_lt (Nat.lt_succ_of_lt hlt)) (Nat.ne_of_lt hlt) hz2 en it (TupA.at pt fun o z => hk2 _ _ z) fun h3 tk acc c as hk3 hS has hG hacc => ?_
  dsimp only at hS hG hk3
  have kp : ∀ b o, s1.heap.get? b = some o → h3.get? b = some o := fun b o z => hk3 b o (Nat.ne_of_lt (Nat.lt_succ_of_lt (Heap.lt_size z))) (Nat.ne_of_lt (Heap.lt_size z)) (hk2 b o z)
  have hab : ∀ a ∈ as, s1.heap.objs.size ≤ a := fun a ha => by have q : h2.objs.size < a := hG.above a ha; omega
  have hal : as.length = xs.length := by rw [has, List.size_toArray]; omega
  have I3 : L2.Inv X pins σ (updL H1 (enumP 0 as xs ++ [(h2.objs.size, .lst (as.map V.ref))])) { s1 with heap := h3, toks := tk } := by
    refine laidL (t' := tk) I1 kp (fun p hp => ?_) fun p hp H' => ?_
    · rcases List.mem_append.mp hp with hp | hp
      · exact hab _ (enumP_fst _ _ _ p hp)
      · rw [List.mem_singleton.mp hp]
        show s1.heap.objs.size ≤ h2.objs.size
        omega
    · rcases List.mem_append.mp hp with hp | hp
      · exact enumP_ok rv 0 as xs (fun j y z => by rw [Nat.zero_add]; exact z) (fun j b z => by rw [Nat.zero_add]; exact hG.pairs j b z) p hp H'
      · rw [List.mem_singleton.mp hp]
        refine ⟨by rw [List.length_map, hal]; omega, as.map Value.ref, c, ?_, ?_⟩
        · exact vals_ref as
        · rw [← hacc]
          simpa using hS
  have e3 : updL H1 (enumP 0 as xs ++ [(h2.objs.size, .lst (as.map V.ref))]) = upd (updL H1 (enumP 0 as xs)) h2.objs.size (.lst (as.map V.ref)) := by
    unfold updL; rw [List.foldl_append]; rfl
  rw [e3] at I3
  refine ⟨.ref h2.objs.size, _, I3, rfl, q1 as _ _ (enumP_new 0 as xs H1 hal hG.rise fun b hb => I1.hok.fresh (hab b hb)) ?_⟩
  have hno : h2.objs.size ∉ (enumP 0 as xs).map (·.1) := fun z => by
    obtain ⟨p, hp, e⟩ := List.mem_map.mp z
    have := hG.above p.1 (enumP_fst _ _ _ p hp)
    rw [e] at this
    exact absurd this (Nat.lt_irrefl _)
  rw [updL_out hno]
  exact I1.hok.fresh (by omega)
/-! over data -/
def enumD : Nat → List D → List D
  | _, [] => []
  | k, d :: ds => .tup [.int (k : Nat), d] :: enumD (k + 1) ds
@[simp] def enumOp : D → Option (List D)
  | .tup ds => if ds.length ≤ big then some (enumD 0 ds) else none
  | _ => none
@[simp] def dEnumL (f : Den D) : Den (List D) := bindD f fun d => liftO (enumOp d)
section
variable {X : Cx} {g : G} {W : WX} {P : Par} {σ : L2.St} {H F : Hp} {st : DSt} {e : Expr} {f : Den D}
theorem enum_sr (tk : g.tk = false) {k : Nat} {as : List Addr} {xs : List V} {H H2 : Hp} (en : EnumNew H k as xs H2) : ∀ {ds : List D} {F : Hp}, SR g P σ H F st → Rl g F xs ds → ∃ F2, Same F F2 ∧ SR g P σ H2 F2 st ∧ Rl g F2 (as.map V.ref) (enumD k ds) := by
  induction en with
  | nil =>
    intro ds F s r
    cases r
    exact ⟨F, Same.refl _, s, .nil⟩
  | @cons H H2 k a as x xs hn hr ih =>
    intro ds F s r
    cases r with
    | cons rx rs =>
      have gr := Grow.new (o := .tup [.int (k : Nat), x]) s.le hn
      obtain ⟨F2, le, s2, r2⟩ := ih (s.grow gr) (rs.mono gr.f)
      exact ⟨F2, gr.f.trans le, s2, .cons (Rv.mono le (.tup (.inl (.inl upd_same)) (by unfold TkP; rw [tk]; exact upd_same) (.cons (.int _) (.cons (rx.mono gr.f) .nil)))) r2⟩
theorem ev_enumL (tk : g.tk = false) (he : PE X e (tEnumL g.K (tE g W f))) : PE X e (tN g W (dEnumL f)) := he.imp fun σ H Q ⟨P, F, st, s, o⟩ =>
  ⟨P, F, st, s, o.bind.imp fun d st1 H1 F1 le1 s1 o1 v rx => by
    cases d with
    | tup ds =>
      cases rx with
      | tup ha ht r =>
        rename_i a xs
        refine ⟨a, xs, rfl, sqT_mono s1.le ha, fun as H2 l en hl => ?_⟩
        obtain ⟨F2, le2, s2, r2⟩ := enum_sr tk en s1 r
        unfold liftO at o1
        split at o1
        · rename_i ds' ez
          unfold enumOp at ez
          simp only at ez
          split at ez
          · cases ez
            exact o1 _ F2 l _ le2 (s2.newx hl) upd_same r2
          · cases ez
        · exact o1.elim
    | _ => exact o1.elim⟩
end
section
variable {α : Type} {e : α → D}
def enumI : Nat → List α → List (Int × α)
  | _, [] => []
  | k, x :: xs => ((k : Int), x) :: enumI (k + 1) xs
def pEnum (xs : List α) : M (List (Int × α)) := if xs.length ≤ big then .ok (enumI 0 xs) else .stuck
theorem enumD_map : ∀ (k : Nat) (xs : List α), enumD k (xs.map e) = (enumI k xs).map (eP2 eI e)
  | _, [] => rfl
  | k, x :: xs => by
    show D.tup [.int (k : Nat), e x] :: enumD (k + 1) (xs.map e) = _
    rw [enumD_map (k + 1) xs]; rfl
theorem op_enum {xs : List α} : OP (enumOp (eT e xs)) (pEnum xs) (List.map (eP2 eI e)) := by
  unfold pEnum
  show OP (if (xs.map e).length ≤ big then some (enumD 0 (xs.map e)) else none) _ _
  rw [List.length_map, enumD_map]
  by_cases h : xs.length ≤ big
  · rw [if_pos h, if_pos h]; rfl
  · rw [if_neg h, if_neg h]; trivial
theorem enumI_eq : ∀ (k : Nat) (xs : List α), enumI k xs = (List.range xs.length).zipWith (fun i x => (((k + i : Nat) : Int), x)) xs
  | _, [] => rfl
  | k, x :: xs => by
    rw [List.length_cons, List.range_succ_eq_map, List.zipWith_cons_cons, List.zipWith_map_left]
    show ((k : Int), x) :: enumI (k + 1) xs = _
    rw [enumI_eq (k + 1) xs]
    congr 1
    congr 1
    funext i y
    rw [show k + 1 + i = k + (i + 1) by omega]
end
end DL

namespace LAW
open PySem PySem.Spec PyProof.Rows L2 DL
def topS (i : Nat) : Stmt := PySem.Challenge.pw_reesblocks_k00_equivalences.main.body.getD i (.Pass ⟨0, 0, 0, 0⟩)
def fuel : Nat := 1000000
def PP : Program := (PySem.Challenge.rw_reesblocks_k00_equivalences).prog
abbrev TK : Bool := false
theorem psup : (PP.main.scope.names.lookup ("super" : Str)).isSome = false := by kernel_rfl
def mt : List (Str × Str × Bool) := []
def l1__law_state : DS := (sSeq (sSet 1 (dOp2 opAdd (dOp2 opMul (dVar 1) (dC (.int 1000003))) (dOp1n opAbs 3))) (sSet 2 (dOp2 opMod (dOp1 opInt (dOp2 opAdd (dOp2 opMul (dVar 2) (dC (.int 48271))) (dVar 3))) (dC (.int 2147483647)))))
def b__law_state : DS := (sSeq (sSet 1 (dC (.int 0))) (sSeq (sSet 2 (dC (.int 1))) (sSeq (sFor (.nm 3) (dItems (dSln 0 dNoP (dPart (dC (.int 63))))) l1__law_state) sPass)))
def r__law_state : Den (List D) := (dLst (dCons (dVar 1) (dCons (dVar 2) dNil)))
def d__law_state : List D → Option (List D) := runO 1 4 b__law_state r__law_state
def k2__law_take : DS := (sRet (dOp2 opMod (dOp1 opInt (dOp2 opDiv (dOp2n opIx 0 (dC (.int 1))) (dC (.int 7)))) (dVar 1)))
def k1__law_take : DS := (sSeq (sStore 0 (dC (.int 1)) (dOp2 opMod (dOp1 opInt (dOp2 opAdd (dOp2 opMul (dOp2n opIx 0 (dC (.int 1))) (dC (.int 48271))) (dC (.int 11)))) (dC (.int 2147483647)))) k2__law_take)
def b__law_take : DS := (sSeq (sIf (dTst (dOp2 opGt (dOp2n opIx 0 (dC (.int 0))) (dC (.int 0)))) (sSeq (sSet 2 (dOp2 opMod (dOp1 opInt (dOp2n opIx 0 (dC (.int 0)))) (dVar 1))) (sSeq (sStore 0 (dC (.int 0)) (dOp2 opDiv (dOp2n opIx 0 (dC (.int 0))) (dVar 1))) (sRet (dVar 2)))) sPass) k1__law_take)
def d__law_take : List D → List D → M (D × List D) := runR 2 3 b__law_take
def e1__law_drawn : Den D := (dTup (dCons (dCallR d__law_take 0 (dCons (dVar 1) dNil)) (dCons (dCallR d__law_take 0 (dCons (dVar 1) dNil)) dNil)))
def t1__law_drawn : Den Bool := (dTst (dOp2 opGt (dVar 1) (dC (.int 0))))
def b__law_drawn : DS := (sRet (dFrz (dComp [2] (.nm 2) (dRng (dCallR d__law_take 0 (dCons (dC (.int 5)) dNil))) t1__law_drawn e1__law_drawn)))
def d__law_drawn : List D → List D → M (D × List D) := runR 2 3 b__law_drawn
def e1__law_near : Den D := (dIf (dTst (dOp2 opEq (dVar 4) (dVar 5))) (dC (.bl true)) (dIf (dTst (dOp2m opIn (dTup (dCons (dVar 4) (dCons (dVar 5) dNil))) 0)) (dC (.bl true)) (dOp2m opIn (dTup (dCons (dVar 5) (dCons (dVar 4) dNil))) 0)))
def e2__law_near : Den (List D) := (dComp [5] (.nm 5) (dRng (dVar 1)) dYes e1__law_near)
def l1__law_near : DS := (sStore2 2 (dVar 4) (dVar 5) (dIf (dTst (dIxx 2 (dVar 4) (dVar 5))) (dC (.bl true)) (dIf (dTst (dIxx 2 (dVar 4) (dVar 3))) (dIxx 2 (dVar 3) (dVar 5)) (dC (.bl false)))))
def l2__law_near : DS := (sFor (.nm 5) (dRng (dVar 1)) l1__law_near)
def l3__law_near : DS := (sFor (.nm 4) (dRng (dVar 1)) l2__law_near)
def e3__law_near : Den D := (dVar 5)
def t1__law_near : Den Bool := (dTst (dIxx 2 (dVar 4) (dVar 5)))
def e4__law_near : Den D := (dOp1 opMinA (dFrz (dComp [5] (.nm 5) (dRng (dVar 1)) t1__law_near e3__law_near)))
def k2__law_near : DS := (sRet (dOp1 opTuple (dFrz (dComp [4] (.nm 4) (dRng (dVar 1)) dYes e4__law_near))))
def k1__law_near : DS := (sSeq (sFor (.nm 3) (dRng (dVar 1)) l3__law_near) k2__law_near)
def b__law_near : DS := (sSeq (sOwn2 2 (dComp2 [4] (.nm 4) (dRng (dVar 1)) e2__law_near)) k1__law_near)
def d__law_near : List D → M D := runF 2 6 b__law_near
def e1_refines : Den D := (dOp2 opEq (dOp2n opIx 1 (dVar 2)) (dOp2n opIx 1 (dOp2n opIx 0 (dVar 2))))
def b_refines : DS := (sRet (dOp1 opAll (dFrz (dComp [2] (.nm 2) (dRng (dOp1n opLen 0)) dYes e1_refines))))
def d_refines : List D → M D := runF 2 3 b_refines
def b_is_integer : DS := (sRet (dIf (dTst (dOp1 (opIsi "int") (dVar 0))) (dVal (dNot (dTst (dOp1 (opIsi "bool") (dVar 0))))) (dC (.bl false))))
def d_is_integer : List D → M D := runF 1 1 b_is_integer
def l1_is_equivalence : DS := (sSeq (sIf (dOr (dNot (dTst (dCall d_is_integer (dCons (dOp2n opIx 0 (dVar 2)) dNil)))) (dOr (dTst (dOp2 opLt (dOp2n opIx 0 (dVar 2)) (dC (.int 0)))) (dTst (dOp2 opGt (dOp2n opIx 0 (dVar 2)) (dVar 2))))) (sRet (dC (.bl false))) sPass) (sIf (dTst (dOp2 opNe (dOp2n opIx 0 (dOp2n opIx 0 (dVar 2))) (dOp2n opIx 0 (dVar 2)))) (sRet (dC (.bl false))) sPass))
def k2_is_equivalence : DS := (sRet (dC (.bl true)))
def k1_is_equivalence : DS := (sSeq (sFor (.nm 2) (dRng (dVar 1)) l1_is_equivalence) k2_is_equivalence)
def b_is_equivalence : DS := (sSeq (sIf (dOr (dNot (dTst (dOp1 (opIsi "tuple") (dVar 0)))) (dTst (dOp2 opNe (dOp1n opLen 0) (dVar 1)))) (sRet (dC (.bl false))) sPass) k1_is_equivalence)
def d_is_equivalence : List D → M D := runF 2 3 b_is_equivalence
def e1_classes_of : Den D := (dIf (dTst (dOp2 opEq (dVar 7) (dVar 6))) (dVar 5) (dVar 7))
def l1_classes_of : DS := (sSeq (sSet 5 (dOp2 opMin2 (dOp2n opIx 2 (dVar 3)) (dOp2n opIx 2 (dVar 4)))) (sSeq (sSet 6 (dOp2 opMax2 (dOp2n opIx 2 (dVar 3)) (dOp2n opIx 2 (dVar 4)))) (sOwn 2 (dComp [7] (.nm 7) (dItems (dVar 2)) dYes e1_classes_of))))
def k2_classes_of : DS := (sRet (dOp1n opTuple 2))
def k1_classes_of : DS := (sSeq (sFor (.nms [3, 4]) (dItems (dVar 0)) l1_classes_of) k2_classes_of)
def b_classes_of : DS := (sSeq (sOwn 2 (dLstRg (dRg1 (dVar 1)))) k1_classes_of)
def d_classes_of : List D → M D := runF 2 8 b_classes_of
def b_joined : DS := (sSeq (sOwn 2 (dN2 nAdd (dFrz (dEnumL (dVar 0))) (dFrz (dEnumL (dVar 1))))) (sRet (dCall d_classes_of (dCons (dVar 2) (dCons (dOp1n opLen 0) dNil)))))
def d_joined : List D → M D := runF 2 3 b_joined
def e1_meet : Den D := (dVar 4)
def t1_meet : Den Bool := (dAnd (dTst (dOp2 opEq (dOp2n opIx 0 (dVar 4)) (dOp2n opIx 0 (dVar 3)))) (dTst (dOp2 opEq (dOp2n opIx 1 (dVar 4)) (dOp2n opIx 1 (dVar 3)))))
def l1_meet : DS := (sExpr (dAppend 2 (dOp1 opMinA (dFrz (dComp [4] (.nm 4) (dRng (dOp2 opAdd (dVar 3) (dC (.int 1)))) t1_meet e1_meet)))))
def k2_meet : DS := (sRet (dOp1n opTuple 2))
def k1_meet : DS := (sSeq (sFor (.nm 3) (dRng (dOp1n opLen 0)) l1_meet) k2_meet)
def b_meet : DS := (sSeq (sOwn 2 (dLst dNil)) k1_meet)
def d_meet : List D → M D := runF 2 5 b_meet
def e1_class_sets : Den D := (dVar 2)
def t1_class_sets : Den Bool := (dTst (dOp2 opEq (dOp2n opIx 0 (dVar 2)) (dVar 2)))
def e2_class_sets : Den D := (dVar 3)
def t2_class_sets : Den Bool := (dTst (dOp2 opEq (dOp2n opIx 0 (dVar 3)) (dVar 2)))
def e3_class_sets : Den D := (dOp1 opTuple (dFrz (dComp [3] (.nm 3) (dRng (dOp1n opLen 0)) t2_class_sets e2_class_sets)))
def b_class_sets : DS := (sSeq (sOwn 1 (dComp [2] (.nm 2) (dRng (dOp1n opLen 0)) t1_class_sets e1_class_sets)) (sRet (dOp1 opTuple (dFrz (dComp [2] (.nm 2) (dItems (dVar 1)) dYes e3_class_sets)))))
def d_class_sets : List D → M D := runF 1 4 b_class_sets
def e1_by_keys : Den D := (dIndexN 1 (dVar 2))
def b_by_keys : DS := (sSeq (sOwn 1 (dN1n nList 0)) (sRet (dOp1 opTuple (dFrz (dComp [2] (.nm 2) (dItems (dVar 1)) dYes e1_by_keys)))))
def d_by_keys : List D → M D := runF 1 3 b_by_keys
def e1_law : Den D := (dVar 16)
def t1_law : Den Bool := (dAnd (dTst (dOp2 opEq (dOp2n opIx 5 (dVar 15)) (dOp2n opIx 5 (dVar 16)))) (dTst (dOp2 opEq (dOp2n opIx 6 (dVar 15)) (dOp2n opIx 6 (dVar 16)))))
def e2_law : Den D := (dOp1 opMinA (dFrz (dComp [16] (.nm 16) (dRng (dVar 2)) t1_law e1_law)))
def e3_law : Den D := (dVar 15)
def t2_law : Den Bool := (dTst (dOp2 opNe (dOp2n opIx 6 (dOp2n opIx 5 (dVar 15))) (dOp2n opIx 6 (dVar 15))))
def e4_law : Den D := (dVar 16)
def t3_law : Den Bool := (dTst (dOp2 opEq (dOp2n opIx 5 (dVar 16)) (dVar 15)))
def e5_law : Den D := (dOp1 opTuple (dFrz (dComp [16] (.nm 16) (dRng (dVar 2)) t3_law e4_law)))
def t4_law : Den Bool := (dTst (dOp2 opEq (dOp2n opIx 5 (dVar 15)) (dVar 15)))
def e6_law : Den D := (dOp2 opIx (dFrz (dLst (dCons (dC (.str "x")) (dCons (dC (.int 5)) (dCons (dTup (dCons (dC (.int 1)) dNil)) (dCons (dC (.str "y")) dNil)))))) (dCallR d__law_take 1 (dCons (dC (.int 4)) dNil)))
def e7_law : Den D := (dVar 16)
def t5_law : Den Bool := (dTst (dOp2 opEq (dOp2n opIx 11 (dVar 16)) (dOp2n opIx 11 (dVar 15))))
def e8_law : Den D := (dOp1 opMinA (dFrz (dComp [16] (.nm 16) (dRng (dVar 2)) t5_law e7_law)))
def e9_law : Den D := (dCallR d__law_take 1 (dCons (dC (.int 4)) dNil))
def l1_law : DS := (sIf (dTst (dOp2 opIsNot (dCall d_is_equivalence (dCons (dVar 14) (dCons (dVar 2) dNil))) (dC (.bl false)))) (sRet (dC (.bl false))) sPass)
def l2_law : DS := (sIf (dTst (dOp2 opIsNot (dCall d_is_equivalence (dCons (dVar 14) (dCons (dC (.int 2)) dNil))) (dC (.bl false)))) (sRet (dC (.bl false))) sPass)
def l3_law : DS := (sIf (dTst (dOp2 opIsNot (dCall d_is_integer (dCons (dVar 14) dNil)) (dC (.bl false)))) (sRet (dC (.bl false))) sPass)
def k22_law : DS := (sRet (dOp2 opIs (dCall d_is_integer (dCons (dOp2 opSub (dVar 2) (dC (.int 3))) dNil)) (dC (.bl true))))
def k21_law : DS := (sSeq (sFor (.nm 14) (dItems (dFrz (dLst (dCons (dC (.bl true)) (dCons (dC (.bl false)) (dCons (dC .non) (dCons (dC (.str "1")) (dCons (dTup (dCons (dC (.int 1)) dNil)) (dCons (dFrz (dLst (dCons (dC (.int 1)) dNil))) dNil))))))))) l3_law) k22_law)
def k20_law : DS := (sSeq (sFor (.nm 14) (dItems (dFrz (dLst (dCons (dTup (dCons (dC (.int 0)) (dCons (dC (.bl true)) dNil))) (dCons (dTup (dCons (dC (.int 0)) (dCons (dC .non) dNil))) (dCons (dTup (dCons (dC (.int 0)) (dCons (dOp1 opNeg (dC (.int 1))) dNil))) (dCons (dTup (dCons (dC (.int 1)) (dCons (dC (.int 1)) dNil))) (dCons (dTup (dCons (dC (.int 0)) (dCons (dC (.int 2)) dNil))) (dCons (dTup (dCons (dC (.int 0)) dNil)) (dCons (dFrz (dLst (dCons (dC (.int 0)) (dCons (dC (.int 1)) dNil)))) dNil)))))))))) l2_law) k21_law)
def k19_law : DS := (sSeq (sFor (.nm 14) (dItems (dFrz (dLst (dCons (dFrz (dN1n nList 5)) (dCons (dOp2 opAdd (dVar 5) (dTup (dCons (dC (.int 0)) dNil))) (dCons (dOp2 opAdd (dVar 5) (dTup (dCons (dOp2 opAdd (dVar 2) (dC (.int 1))) dNil))) (dCons (dC .non) (dCons (dC (.int 0)) (dCons (dC (.str "0")) dNil))))))))) l1_law) k20_law)
def k18_law : DS := (sSeq (sIf (dOr (dNot (dTst (dOp1 (opIsi "bool") (dVar 9)))) (dOr (dTst (dOp2 opNe (dVar 9) (dVar 13))) (dTst (dOp2 opIsNot (dCall d_is_equivalence (dCons (dVar 5) (dCons (dVar 2) dNil))) (dC (.bl true)))))) (sRet (dC (.bl false))) sPass) k19_law)
def k17_law : DS := (sSeq (sSet 9 (dCall d_is_equivalence (dCons (dVar 12) (dCons (dC (.int 3)) dNil)))) k18_law)
def k16_law : DS := (sSeq (sSet 13 (dIf (dTst (dOp2 opEq (dOp2n opIx 12 (dC (.int 0))) (dC (.int 0)))) (dIf (dTst (dOp2 opLt (dOp2n opIx 12 (dC (.int 1))) (dC (.int 2)))) (dIf (dTst (dOp2 opLt (dOp2n opIx 12 (dC (.int 2))) (dC (.int 3)))) (dOp2 opEq (dOp2n opIx 12 (dOp2n opIx 12 (dC (.int 2)))) (dOp2n opIx 12 (dC (.int 2)))) (dC (.bl false))) (dC (.bl false))) (dC (.bl false)))) k17_law)
def k15_law : DS := (sSeq (sSet 12 (dOp1 opTuple (dFrz (dComp [15] (.nm 15) (dRng (dC (.int 3))) dYes e9_law)))) k16_law)
def k14_law : DS := (sSeq (sIf (dOr (dTst (dOp2 opNe (dCall d_class_sets (dCons (dVar 5) dNil)) (dOp1n opTuple 10))) (dTst (dOp2 opNe (dCall d_by_keys (dCons (dVar 11) dNil)) (dOp1 opTuple (dFrz (dComp [15] (.nm 15) (dRng (dVar 2)) dYes e8_law)))))) (sRet (dC (.bl false))) sPass) k15_law)
def k13_law : DS := (sSeq (sOwn 11 (dComp [15] (.nm 15) (dRng (dVar 2)) dYes e6_law)) k14_law)
def k12_law : DS := (sSeq (sOwn 10 (dComp [15] (.nm 15) (dRng (dVar 2)) t4_law e5_law)) k13_law)
def k11_law : DS := (sSeq (sIf (dOr (dNot (dTst (dOp1 (opIsi "bool") (dVar 9)))) (dTst (dOp2 opNe (dVar 9) (dVar 8)))) (sRet (dC (.bl false))) sPass) k12_law)
def k10_law : DS := (sSeq (sSet 9 (dCall d_refines (dCons (dVar 5) (dCons (dVar 6) dNil)))) k11_law)
def k9_law : DS := (sSeq (sSet 8 (dOp2 opEq (dOp1 opLen (dFrz (dComp [15] (.nm 15) (dRng (dVar 2)) t2_law e3_law))) (dC (.int 0)))) k10_law)
def k8_law : DS := (sSeq (sIf (dOr (dTst (dOp2 opNe (dCall d_meet (dCons (dVar 5) (dCons (dVar 6) dNil))) (dVar 7))) (dOr (dTst (dOp2 opIsNot (dCall d_refines (dCons (dVar 7) (dCons (dVar 5) dNil))) (dC (.bl true)))) (dTst (dOp2 opIsNot (dCall d_refines (dCons (dVar 5) (dCons (dCall d_joined (dCons (dVar 5) (dCons (dVar 6) dNil))) dNil))) (dC (.bl true)))))) (sRet (dC (.bl false))) sPass) k9_law)
def k7_law : DS := (sSeq (sSet 7 (dOp1 opTuple (dFrz (dComp [15] (.nm 15) (dRng (dVar 2)) dYes e2_law)))) k8_law)
def k6_law : DS := (sSeq (sIf (dOr (dTst (dOp2 opNe (dCall d_classes_of (dCons (dVar 3) (dCons (dVar 2) dNil))) (dVar 5))) (dOr (dTst (dOp2 opNe (dCall d_classes_of (dCons (dOp1n opTuple 4) (dCons (dVar 2) dNil))) (dVar 6))) (dTst (dOp2 opNe (dCall d_joined (dCons (dVar 5) (dCons (dVar 6) dNil))) (dCall d__law_near (dCons (dOp2 opAdd (dVar 3) (dVar 4)) (dCons (dVar 2) dNil))))))) (sRet (dC (.bl false))) sPass) k7_law)
def k5_law : DS := (sSeq (sSet 6 (dCall d__law_near (dCons (dVar 4) (dCons (dVar 2) dNil)))) k6_law)
def k4_law : DS := (sSeq (sSet 5 (dCall d__law_near (dCons (dVar 3) (dCons (dVar 2) dNil)))) k5_law)
def k3_law : DS := (sSeq (sSet 4 (dCallR d__law_drawn 1 (dCons (dVar 2) dNil))) k4_law)
def k2_law : DS := (sSeq (sSet 3 (dCallR d__law_drawn 1 (dCons (dVar 2) dNil))) k3_law)
def k1_law : DS := (sSeq (sSet 2 (dCallR d__law_take 1 (dCons (dC (.int 7)) dNil))) k2_law)
def b_law : DS := (sSeq (sOwn 1 (dCallO d__law_state (dCons (dVar 0) dNil))) k1_law)
def d_law : List D → M D := runF 1 17 b_law
/-! ### the head -/
def dd__law_state : He.DefD := ⟨("_law_state", none), "_law_state", "_law_state", defArgs (topS 10), defBody (topS 10), defScope (topS 10), [], []⟩
def dd__law_take : He.DefD := ⟨("_law_take", none), "_law_take", "_law_take", defArgs (topS 11), defBody (topS 11), defScope (topS 11), [], []⟩
def dd__law_drawn : He.DefD := ⟨("_law_drawn", none), "_law_drawn", "_law_drawn", defArgs (topS 13), defBody (topS 13), defScope (topS 13), [], []⟩
def dd__law_near : He.DefD := ⟨("_law_near", none), "_law_near", "_law_near", defArgs (topS 12), defBody (topS 12), defScope (topS 12), [], []⟩
def dd_refines : He.DefD := ⟨("refines", none), "refines", "refines", defArgs (topS 6), defBody (topS 6), defScope (topS 6), [], []⟩
def dd_is_integer : He.DefD := ⟨("is_integer", none), "is_integer", "is_integer", defArgs (topS 1), defBody (topS 1), defScope (topS 1), [], []⟩
def dd_is_equivalence : He.DefD := ⟨("is_equivalence", none), "is_equivalence", "is_equivalence", defArgs (topS 2), defBody (topS 2), defScope (topS 2), [], []⟩
def dd_classes_of : He.DefD := ⟨("classes_of", none), "classes_of", "classes_of", defArgs (topS 3), defBody (topS 3), defScope (topS 3), [], []⟩
def dd_joined : He.DefD := ⟨("joined", none), "joined", "joined", defArgs (topS 4), defBody (topS 4), defScope (topS 4), [], []⟩
def dd_meet : He.DefD := ⟨("meet", none), "meet", "meet", defArgs (topS 5), defBody (topS 5), defScope (topS 5), [], []⟩
def dd_class_sets : He.DefD := ⟨("class_sets", none), "class_sets", "class_sets", defArgs (topS 7), defBody (topS 7), defScope (topS 7), [], []⟩
def dd_by_keys : He.DefD := ⟨("by_keys", none), "by_keys", "by_keys", defArgs (topS 8), defBody (topS 8), defScope (topS 8), [], []⟩
def dd_law : He.DefD := ⟨("law", none), "law", "law", defArgs (topS 14), defBody (topS 14), defScope (topS 14), [], []⟩
def fn : List He.DefD := [dd__law_state, dd__law_take, dd__law_drawn, dd__law_near, dd_refines, dd_is_integer, dd_is_equivalence, dd_classes_of, dd_joined, dd_meet, dd_class_sets, dd_by_keys, dd_law]

def xn : List He.DefD := []
def fa : List He.Fa := [.free "abs", .free "all", .free "bool", .free "enumerate", .free "int", .free "isinstance", .free "len", .free "list", .free "max", .free "min", .free "range", .free "tuple", .glo "_law_state", .glo "_law_take", .glo "_law_drawn", .glo "_law_near", .glo "refines", .glo "is_integer", .glo "is_equivalence", .glo "classes_of", .glo "joined", .glo "meet", .glo "class_sets", .glo "by_keys", .glo "law"]
def ex (K : PySem.W.Frag) : Bool := true

section
variable {w : World} {K : PySem.W.Frag} {mg : Str → Option Value} {base h : Heap}
theorem T_free_abs (KX : K.In h) (G : h.Ns mainGlobals mg) (c : Says fa fn xn ex K) : mg "abs" = none := He.free_ok KX G (c.fact 0 (f := .free "abs") rfl)
theorem T_free_all (KX : K.In h) (G : h.Ns mainGlobals mg) (c : Says fa fn xn ex K) : mg "all" = none := He.free_ok KX G (c.fact 1 (f := .free "all") rfl)
theorem T_free_bool (KX : K.In h) (G : h.Ns mainGlobals mg) (c : Says fa fn xn ex K) : mg "bool" = none := He.free_ok KX G (c.fact 2 (f := .free "bool") rfl)
theorem T_free_enumerate (KX : K.In h) (G : h.Ns mainGlobals mg) (c : Says fa fn xn ex K) : mg "enumerate" = none := He.free_ok KX G (c.fact 3 (f := .free "enumerate") rfl)
theorem T_free_int (KX : K.In h) (G : h.Ns mainGlobals mg) (c : Says fa fn xn ex K) : mg "int" = none := He.free_ok KX G (c.fact 4 (f := .free "int") rfl)
theorem T_free_isinstance (KX : K.In h) (G : h.Ns mainGlobals mg) (c : Says fa fn xn ex K) : mg "isinstance" = none := He.free_ok KX G (c.fact 5 (f := .free "isinstance") rfl)
theorem T_free_len (KX : K.In h) (G : h.Ns mainGlobals mg) (c : Says fa fn xn ex K) : mg "len" = none := He.free_ok KX G (c.fact 6 (f := .free "len") rfl)
theorem T_free_list (KX : K.In h) (G : h.Ns mainGlobals mg) (c : Says fa fn xn ex K) : mg "list" = none := He.free_ok KX G (c.fact 7 (f := .free "list") rfl)
theorem T_free_max (KX : K.In h) (G : h.Ns mainGlobals mg) (c : Says fa fn xn ex K) : mg "max" = none := He.free_ok KX G (c.fact 8 (f := .free "max") rfl)
theorem T_free_min (KX : K.In h) (G : h.Ns mainGlobals mg) (c : Says fa fn xn ex K) : mg "min" = none := He.free_ok KX G (c.fact 9 (f := .free "min") rfl)
theorem T_free_range (KX : K.In h) (G : h.Ns mainGlobals mg) (c : Says fa fn xn ex K) : mg "range" = none := He.free_ok KX G (c.fact 10 (f := .free "range") rfl)
theorem T_free_tuple (KX : K.In h) (G : h.Ns mainGlobals mg) (c : Says fa fn xn ex K) : mg "tuple" = none := He.free_ok KX G (c.fact 11 (f := .free "tuple") rfl)
theorem sc__law_state : FnScope ["_law_script", "_law_seed", "_law_total", "_law_cell"] ["_law_script"] (defScope (topS 10)) := ⟨rfl, rfl, rfl, by decide +kernel, rfl, by decide +kernel, by decide +kernel⟩
theorem ok__law_state (KX : K.In h) (G : h.Ns mainGlobals mg) (c : Says fa fn xn ex K) : Fk PP w K mg base "_law_state" 1 (He.fAd K ("_law_state", none)) ["_law_script"] (spO ⟨K, mg, none, TK⟩ d__law_state) := by
  obtain ⟨fd, F⟩ := c.def_ 0 (d := dd__law_state) rfl
  have sc := sc__law_state
  refine ⟨⟨fd, fn_own F sc (by decide) fun cdv A outer s H E hr tk po => ?_, F.bindsN (ps := ["_law_script"]) fun _ _ _ _ _ _ us hl => match us, hl with | [_], _ => rfl⟩, He.glo_ok KX G (c.fact 12 (f := .glo "_law_state") rfl), F.kp⟩
  exact (essO_cons (es_set (ps_set (i := 1) sc.nd rfl (by first | exact Or.inl rfl | exact Or.inr rfl) (ev_int pe_int)))
    (essO_cons (es_set (ps_set (i := 2) sc.nd rfl (by first | exact Or.inl rfl | exact Or.inr rfl) (ev_int pe_int)))
    (essO_cons (es_for (ps_for po rfl (ei_any (pi_any (ev_sln (pe_slice sl_D (pv 0) eo_none (eo_some (ev_int pe_int)))))) (eg_nm (pg_name (i := 3) sc.nd rfl (by first | exact .inl rfl | exact .inr rfl))) (ess_cons (es_set (ps_set (i := 1) sc.nd rfl (by first | exact Or.inl rfl | exact Or.inr rfl) (ev2 vo_add (pe_op op_addD (ev2 vo_mul (pe_op op_mulD (ev_var (pv 1)) (ev_int pe_int))) (evc1n vo_abs (pe_callB call_abs (by rfl) (T_free_abs KX G c) (by decide +kernel) (pa_cons (pv 3) pa_nil)))))))
    (ess_one (es_set (ps_set (i := 2) sc.nd rfl (by first | exact Or.inl rfl | exact Or.inr rfl) (ev2 vo_mod (pe_op op_modN (evc1 vo_int (pe_callTy call_int1 (by rfl) (T_free_int KX G c) (by decide +kernel) (pa_cons (ev2 vo_add (pe_op op_addD (ev2 vo_mul (pe_op op_mulD (ev_var (pv 2)) (ev_int pe_int))) (ev_var (pv 3)))) pa_nil))) (ev_int pe_int)))))))))
    (essO_one (ps_ret (evN_lst (pe_lst (ea_cons (ev_var (pv 1)) (ea_cons (ev_var (pv 2)) ea_nil')))))))))
theorem sc__law_take : FnScope ["_law_state_here", "_law_m", "_law_value"] ["_law_state_here", "_law_m"] (defScope (topS 11)) := ⟨rfl, rfl, rfl, by decide +kernel, rfl, by decide +kernel, by decide +kernel⟩
theorem ok__law_take (KX : K.In h) (G : h.Ns mainGlobals mg) (c : Says fa fn xn ex K) : Fk PP w K mg base "_law_take" 1 (He.fAd K ("_law_take", none)) ["_law_state_here", "_law_m"] (spR ⟨K, mg, none, TK⟩ d__law_take) := by
  obtain ⟨fd, F⟩ := c.def_ 1 (d := dd__law_take) rfl
  have sc := sc__law_take
  refine ⟨⟨fd, fn_dataR F sc (by decide) fun cdv A outer s H E hr tk po => ?_, F.bindsN (ps := ["_law_state_here", "_law_m"]) fun _ _ _ _ _ _ us hl => match us, hl with | [_, _], _ => rfl⟩, He.glo_ok KX G (c.fact 13 (f := .glo "_law_take") rfl), F.kp⟩
  exact (ess_cons (es_if (ps_if (et2 (vo_cmpI _) (pt_cmpR op_gt (ev2n vo_ix (pe_ix ix_seq (pv 0) (ev_int pe_int) (fun _ _ => rfl))) (ev_int pe_int) (nomark _))) (ess_cons (es_set (ps_set (i := 2) sc.nd rfl (by first | exact Or.inl rfl | exact Or.inr rfl) (ev2 vo_mod (pe_op op_modN (evc1 vo_int (pe_callTy call_int1 (by rfl) (T_free_int KX G c) (by decide +kernel) (pa_cons (ev2n vo_ix (pe_ix ix_seq (pv 0) (ev_int pe_int) (fun _ _ => rfl))) pa_nil))) (ev_var (pv 1))))))
    (ess_cons (es_store (ps_asg (ev2 vo_div (pe_op op_fdivN (ev2n vo_ix (pe_ix ix_seq (pv 0) (ev_int pe_int) (fun _ _ => rfl))) (ev_var (pv 1)))) (pg_sub (pv 0) (ev_int pe_int) set_list)))
    (ess_one (es_ret (ps_ret (ev_var (pv 2))))))) ess_nil))
    (ess_cons (es_store (ps_asg (ev2 vo_mod (pe_op op_modN (evc1 vo_int (pe_callTy call_int1 (by rfl) (T_free_int KX G c) (by decide +kernel) (pa_cons (ev2 vo_add (pe_op op_addD (ev2 vo_mul (pe_op op_mulD (ev2n vo_ix (pe_ix ix_seq (pv 0) (ev_int pe_int) (fun _ _ => rfl))) (ev_int pe_int))) (ev_int pe_int))) pa_nil))) (ev_int pe_int))) (pg_sub (pv 0) (ev_int pe_int) set_list)))
    (ess_one (es_ret (ps_ret (ev2 vo_mod (pe_op op_modN (evc1 vo_int (pe_callTy call_int1 (by rfl) (T_free_int KX G c) (by decide +kernel) (pa_cons (ev2 vo_div (pe_op op_fdivN (ev2n vo_ix (pe_ix ix_seq (pv 0) (ev_int pe_int) (fun _ _ => rfl))) (ev_int pe_int))) pa_nil))) (ev_var (pv 1)))))))))
theorem sc__law_drawn : FnScope ["_law_state_here", "_law_n", "_law_k"] ["_law_state_here", "_law_n"] (defScope (topS 13)) := ⟨rfl, rfl, rfl, by decide +kernel, rfl, by decide +kernel, by decide +kernel⟩
theorem ok__law_drawn (KX : K.In h) (G : h.Ns mainGlobals mg) (c : Says fa fn xn ex K) : Fk PP w K mg base "_law_drawn" 2 (He.fAd K ("_law_drawn", none)) ["_law_state_here", "_law_n"] (spR ⟨K, mg, none, TK⟩ d__law_drawn) := by
  obtain ⟨fd, F⟩ := c.def_ 2 (d := dd__law_drawn) rfl
  have sc := sc__law_drawn
  refine ⟨⟨fd, fn_dataR F sc (by decide) fun cdv A outer s H E hr tk po => ?_, F.bindsN (ps := ["_law_state_here", "_law_n"]) fun _ _ _ _ _ _ us hl => match us, hl with | [_, _], _ => rfl⟩, He.glo_ok KX G (c.fact 14 (f := .glo "_law_drawn") rfl), F.kp⟩
  exact (ess_one (es_ret (ps_ret (ev_frz (ev_comp (pe_lc (own := [("_law_k", 2)]) rfl sc.nd (ei_rng (pi_range1 (by rfl) (T_free_range KX G c) (pa_cons (ev_callR (runR_nox _ _ _) ((ok__law_take KX G c).pe (hr.mono (by decide)) (by rfl) tk (pa_cons (pv 0) (ea_cons (ev_int pe_int) ea_nil')))) pa_nil))) (blkOk_by (own := [("_law_k", 2)]) (by first | decide +kernel | rfl)) (fun _ _ _ _ _ => (eg_nm (pg_name (i := 2) sc.nd rfl (by first | exact .inl rfl | exact .inr rfl)))) (fun _ _ _ _ _ => (pts_one (et2 (vo_cmpI _) (pt_cmpR op_gt (ev_var (pv 1)) (ev_int pe_int) (nomark _))))) (fun _ _ _ _ _ => (ev_tup (pe_tupN (ea_cons (ev_callR (runR_nox _ _ _) ((ok__law_take KX G c).pe (hr.mono (by decide)) (by rfl) takes0 (pa_cons (pv 0) (ea_cons (ev_var (pv 1)) ea_nil')))) (ea_cons (ev_callR (runR_nox _ _ _) ((ok__law_take KX G c).pe (hr.mono (by decide)) (by rfl) takes0 (pa_cons (pv 0) (ea_cons (ev_var (pv 1)) ea_nil')))) ea_nil')))))))))))
theorem sc__law_near : FnScope ["_law_pairs", "_law_n", "_law_near_here", "_law_z", "_law_x", "_law_y"] ["_law_pairs", "_law_n"] (defScope (topS 12)) := ⟨rfl, rfl, rfl, by decide +kernel, rfl, by decide +kernel, by decide +kernel⟩
theorem ok__law_near (KX : K.In h) (G : h.Ns mainGlobals mg) (c : Says fa fn xn ex K) : Fk PP w K mg base "_law_near" 1 (He.fAd K ("_law_near", none)) ["_law_pairs", "_law_n"] (spD ⟨K, mg, none, TK⟩ d__law_near) := by
  obtain ⟨fd, F⟩ := c.def_ 3 (d := dd__law_near) rfl
  have sc := sc__law_near
  refine ⟨⟨fd, fn_data F sc (by decide) fun cdv A outer s H E hr tk po => ?_, F.bindsN (ps := ["_law_pairs", "_law_n"]) fun _ _ _ _ _ _ us hl => match us, hl with | [_, _], _ => rfl⟩, He.glo_ok KX G (c.fact 15 (f := .glo "_law_near") rfl), F.kp⟩
  exact (ess_cons (es_own2 (ps_set (i := 2) sc.nd rfl (by first | exact Or.inl rfl | exact Or.inr rfl) (pe_lc (own := [("_law_x", 4)]) rfl sc.nd (ei_rng (pi_range1 (by rfl) (T_free_range KX G c) (pa_cons (ev_var (pv 1)) pa_nil))) (blkOk_by (own := [("_law_x", 4)]) (by first | decide +kernel | rfl)) (fun _ _ _ _ _ => (eg_nm (pg_name (i := 4) sc.nd rfl (by first | exact .inl rfl | exact .inr rfl)))) (fun _ _ _ _ _ => ets_nil) (fun _ _ _ _ _ => (ev_comp (pe_lc (own := [("_law_y", 5)]) rfl sc.nd (ei_rng (pi_range1 (by rfl) (T_free_range KX G c) (pa_cons (ev_var (pv 1)) pa_nil))) (blkOk_by (own := [("_law_y", 5)]) (by first | decide +kernel | rfl)) (fun _ _ _ _ _ => (eg_nm (pg_name (i := 5) sc.nd rfl (by first | exact .inl rfl | exact .inr rfl)))) (fun _ _ _ _ _ => ets_nil) (fun _ _ _ _ _ => (ev_orV (pe_or (ev2 vo_eq (pe_cmpR (op_eqD (room_u4 hr)) (ev_var (pv 4)) (ev_var (pv 5)) (nomark _))) (ev_orV (pe_or (ev2m vo_in (pe_cmpR (op_inA (room_u hr)) (ev_tup (pe_tupN (ea_cons (ev_var (pv 4)) (ea_cons (ev_var (pv 5)) ea_nil')))) (pv 0) (by with_unfolding_all rfl))) (pe_one (ev2m vo_in (pe_cmpR (op_inA (room_u hr)) (ev_tup (pe_tupN (ea_cons (ev_var (pv 5)) (ea_cons (ev_var (pv 4)) ea_nil')))) (pv 0) (by with_unfolding_all rfl)))))))))))))))
    (ess_cons (es_for (ps_for po rfl (ei_rng (pi_range1 (by rfl) (T_free_range KX G c) (pa_cons (ev_var (pv 1)) pa_nil))) (eg_nm (pg_name (i := 3) sc.nd rfl (by first | exact .inl rfl | exact .inr rfl))) (ess_one (es_for (ps_for po rfl (ei_rng (pi_range1 (by rfl) (T_free_range KX G c) (pa_cons (ev_var (pv 1)) pa_nil))) (eg_nm (pg_name (i := 4) sc.nd rfl (by first | exact .inl rfl | exact .inr rfl))) (ess_one (es_for (ps_for po rfl (ei_rng (pi_range1 (by rfl) (T_free_range KX G c) (pa_cons (ev_var (pv 1)) pa_nil))) (eg_nm (pg_name (i := 5) sc.nd rfl (by first | exact .inl rfl | exact .inr rfl))) (ess_one (es_store2 (ps_asg (ev_orV (pe_or (ev_ixx (pe_ix ix_seq (pe_ix ix_seq (pv 2) (ev_var (pv 4)) (fun _ _ => rfl)) (ev_var (pv 5)) (fun _ _ => rfl))) (pe_one (ev_andV (pe_and (ev_ixx (pe_ix ix_seq (pe_ix ix_seq (pv 2) (ev_var (pv 4)) (fun _ _ => rfl)) (ev_var (pv 3)) (fun _ _ => rfl))) (pe_one (ev_ixx (pe_ix ix_seq (pe_ix ix_seq (pv 2) (ev_var (pv 3)) (fun _ _ => rfl)) (ev_var (pv 5)) (fun _ _ => rfl))))))))) (pg_sub (pe_ix ix_seq (pv 2) (ev_var (pv 4)) (fun _ _ => rfl)) (ev_var (pv 5)) set_list))))))))))))
    (ess_one (es_ret (ps_ret (evc1 vo_tuple (pe_callTy call_tupleN (by rfl) (T_free_tuple KX G c) (by decide +kernel) (pa_cons (ev_frz (ev_comp (pe_lc (own := [("_law_x", 4)]) rfl sc.nd (ei_rng (pi_range1 (by rfl) (T_free_range KX G c) (pa_cons (ev_var (pv 1)) pa_nil))) (blkOk_by (own := [("_law_x", 4)]) (by first | decide +kernel | rfl)) (fun _ _ _ _ _ => (eg_nm (pg_name (i := 4) sc.nd rfl (by first | exact .inl rfl | exact .inr rfl)))) (fun _ _ _ _ _ => ets_nil) (fun _ _ _ _ _ => (evc1 vo_minA (pe_callB (cr_minA rfl) (by rfl) (T_free_min KX G c) (by decide +kernel) (pa_cons (ev_frz (ev_comp (pe_lc (own := [("_law_y", 5)]) rfl sc.nd (ei_rng (pi_range1 (by rfl) (T_free_range KX G c) (pa_cons (ev_var (pv 1)) pa_nil))) (blkOk_by (own := [("_law_y", 5)]) (by first | decide +kernel | rfl)) (fun _ _ _ _ _ => (eg_nm (pg_name (i := 5) sc.nd rfl (by first | exact .inl rfl | exact .inr rfl)))) (fun _ _ _ _ _ => (pts_one (et_tst (pt_val (ev_ixx (pe_ix ix_seq (pe_ix ix_seq (pv 2) (ev_var (pv 4)) (fun _ _ => rfl)) (ev_var (pv 5)) (fun _ _ => rfl))))))) (fun _ _ _ _ _ => (ev_var (pv 5)))))) pa_nil))))))) pa_nil))))))))
theorem sc_refines : FnScope ["a", "b", "x"] ["a", "b"] (defScope (topS 6)) := ⟨rfl, rfl, rfl, by decide +kernel, rfl, by decide +kernel, by decide +kernel⟩
theorem ok_refines (KX : K.In h) (G : h.Ns mainGlobals mg) (c : Says fa fn xn ex K) : Fk PP w K mg base "refines" 1 (He.fAd K ("refines", none)) ["a", "b"] (spD ⟨K, mg, none, TK⟩ d_refines) := by
  obtain ⟨fd, F⟩ := c.def_ 4 (d := dd_refines) rfl
  have sc := sc_refines
  refine ⟨⟨fd, fn_data F sc (by decide) fun cdv A outer s H E hr tk po => ?_, F.bindsN (ps := ["a", "b"]) fun _ _ _ _ _ _ us hl => match us, hl with | [_, _], _ => rfl⟩, He.glo_ok KX G (c.fact 16 (f := .glo "refines") rfl), F.kp⟩
  exact (ess_one (es_ret (ps_ret (evc1 vo_all (pe_callB (cr_all rfl) (by rfl) (T_free_all KX G c) (by decide +kernel) (pa_cons (ev_frz (ev_comp (pe_lc (own := [("x", 2)]) rfl sc.nd (ei_rng (pi_range1 (by rfl) (T_free_range KX G c) (pa_cons (evc1n vo_len (pe_callB call_lenD (by rfl) (T_free_len KX G c) (by decide +kernel) (pa_cons (pv 0) pa_nil))) pa_nil))) (blkOk_by (own := [("x", 2)]) (by first | decide +kernel | rfl)) (fun _ _ _ _ _ => (eg_nm (pg_name (i := 2) sc.nd rfl (by first | exact .inl rfl | exact .inr rfl)))) (fun _ _ _ _ _ => ets_nil) (fun _ _ _ _ _ => (ev2 vo_eq (pe_cmpR (op_eqD (room_u4 hr)) (ev2n vo_ix (pe_ix ix_seq (pv 1) (ev_var (pv 2)) (fun _ _ => rfl))) (ev2n vo_ix (pe_ix ix_seq (pv 1) (ev2n vo_ix (pe_ix ix_seq (pv 0) (ev_var (pv 2)) (fun _ _ => rfl))) (fun _ _ => rfl))) (nomark _))))))) pa_nil))))))
theorem sc_is_integer : FnScope ["value"] ["value"] (defScope (topS 1)) := ⟨rfl, rfl, rfl, by decide +kernel, rfl, by decide +kernel, by decide +kernel⟩
theorem ok_is_integer (KX : K.In h) (G : h.Ns mainGlobals mg) (c : Says fa fn xn ex K) : Fk PP w K mg base "is_integer" 1 (He.fAd K ("is_integer", none)) ["value"] (spD ⟨K, mg, none, TK⟩ d_is_integer) := by
  obtain ⟨fd, F⟩ := c.def_ 5 (d := dd_is_integer) rfl
  have sc := sc_is_integer
  refine ⟨⟨fd, fn_data F sc (by decide) fun cdv A outer s H E hr tk po => ?_, F.bindsN (ps := ["value"]) fun _ _ _ _ _ _ us hl => match us, hl with | [_], _ => rfl⟩, He.glo_ok KX G (c.fact 17 (f := .glo "is_integer") rfl), F.kp⟩
  exact (ess_one (es_ret (ps_ret (ev_andV (pe_and (ev_isi (by decide) (pe_callB call_isi (by rfl) (T_free_isinstance KX G c) (by decide +kernel) (pa_cons (ev_var (pv 0)) (pa_cons (pe_bltn (by rfl) (T_free_int KX G c) (by decide +kernel) rfl) pa_nil)))) (pe_one (ev_notV (pe_not (ev_isi (by decide) (pe_callB call_isi (by rfl) (T_free_isinstance KX G c) (by decide +kernel) (pa_cons (ev_var (pv 0)) (pa_cons (pe_bltn (by rfl) (T_free_bool KX G c) (by decide +kernel) rfl) pa_nil))))))))))))
theorem sc_is_equivalence : FnScope ["value", "n", "x"] ["value", "n"] (defScope (topS 2)) := ⟨rfl, rfl, rfl, by decide +kernel, rfl, by decide +kernel, by decide +kernel⟩
theorem ok_is_equivalence (KX : K.In h) (G : h.Ns mainGlobals mg) (c : Says fa fn xn ex K) : Fk PP w K mg base "is_equivalence" 2 (He.fAd K ("is_equivalence", none)) ["value", "n"] (spD ⟨K, mg, none, TK⟩ d_is_equivalence) := by
  obtain ⟨fd, F⟩ := c.def_ 6 (d := dd_is_equivalence) rfl
  have sc := sc_is_equivalence
  refine ⟨⟨fd, fn_data F sc (by decide) fun cdv A outer s H E hr tk po => ?_, F.bindsN (ps := ["value", "n"]) fun _ _ _ _ _ _ us hl => match us, hl with | [_, _], _ => rfl⟩, He.glo_ok KX G (c.fact 18 (f := .glo "is_equivalence") rfl), F.kp⟩
  exact (ess_cons (es_if (ps_if (PW.pt (et_or (pw_or (et_not (pt_not (et_tst (pt_val (ev_isi (by decide) (pe_callB call_isi (by rfl) (T_free_isinstance KX G c) (by decide +kernel) (pa_cons (ev_var (pv 0)) (pa_cons (pe_bltn (by rfl) (T_free_tuple KX G c) (by decide +kernel) rfl) pa_nil)))))))) (pw_or1 (et2 vo_ne (pt_cmpR (op_neD (room_u4 hr)) (evc1n vo_len (pe_callB call_lenD (by rfl) (T_free_len KX G c) (by decide +kernel) (pa_cons (pv 0) pa_nil))) (ev_var (pv 1)) (nomark _))))))) (ess_one (es_ret (ps_ret (ev_bl pe_bl)))) ess_nil))
    (ess_cons (es_for (ps_for po rfl (ei_rng (pi_range1 (by rfl) (T_free_range KX G c) (pa_cons (ev_var (pv 1)) pa_nil))) (eg_nm (pg_name (i := 2) sc.nd rfl (by first | exact .inl rfl | exact .inr rfl))) (ess_cons (es_if (ps_if (PW.pt (et_or (pw_or (et_not (pt_not (et_tst (pt_val (ev_call ((ok_is_integer KX G c).pe (hr.mono (by decide)) (by rfl) tk (ea_cons (ev2n vo_ix (pe_ix ix_seq (pv 0) (ev_var (pv 2)) (fun _ _ => rfl))) ea_nil'))))))) (et_or (pw_or (et2 (vo_cmpI _) (pt_cmpR op_lt (ev2n vo_ix (pe_ix ix_seq (pv 0) (ev_var (pv 2)) (fun _ _ => rfl))) (ev_int pe_int) (nomark _))) (pw_or1 (et2 (vo_cmpI _) (pt_cmpR op_gt (ev2n vo_ix (pe_ix ix_seq (pv 0) (ev_var (pv 2)) (fun _ _ => rfl))) (ev_var (pv 2)) (nomark _))))))))) (ess_one (es_ret (ps_ret (ev_bl pe_bl)))) ess_nil))
    (ess_one (es_if (ps_if (et2 vo_ne (pt_cmpR (op_neD (room_u4 hr)) (ev2n vo_ix (pe_ix ix_seq (pv 0) (ev2n vo_ix (pe_ix ix_seq (pv 0) (ev_var (pv 2)) (fun _ _ => rfl))) (fun _ _ => rfl))) (ev2n vo_ix (pe_ix ix_seq (pv 0) (ev_var (pv 2)) (fun _ _ => rfl))) (nomark _))) (ess_one (es_ret (ps_ret (ev_bl pe_bl)))) ess_nil))))))
    (ess_one (es_ret (ps_ret (ev_bl pe_bl))))))
theorem sc_classes_of : FnScope ["pairs", "n", "found", "x", "y", "low", "high", "item"] ["pairs", "n"] (defScope (topS 3)) := ⟨rfl, rfl, rfl, by decide +kernel, rfl, by decide +kernel, by decide +kernel⟩
theorem ok_classes_of (KX : K.In h) (G : h.Ns mainGlobals mg) (c : Says fa fn xn ex K) : Fk PP w K mg base "classes_of" 1 (He.fAd K ("classes_of", none)) ["pairs", "n"] (spD ⟨K, mg, none, TK⟩ d_classes_of) := by
  obtain ⟨fd, F⟩ := c.def_ 7 (d := dd_classes_of) rfl
  have sc := sc_classes_of
  refine ⟨⟨fd, fn_data F sc (by decide) fun cdv A outer s H E hr tk po => ?_, F.bindsN (ps := ["pairs", "n"]) fun _ _ _ _ _ _ us hl => match us, hl with | [_, _], _ => rfl⟩, He.glo_ok KX G (c.fact 19 (f := .glo "classes_of") rfl), F.kp⟩
  exact (ess_cons (es_own (ps_set (i := 2) sc.nd rfl (by first | exact Or.inl rfl | exact Or.inr rfl) (evN_rg (pe_listRg rfl (by rfl) (T_free_list KX G c) (erg1 (prg_1 (by rfl) (T_free_range KX G c) (ev_var (pv 1))))))))
    (ess_cons (es_for (ps_for po rfl (ei_any (pi_any (ev_var (pv 0)))) (eg_nms (pg_tup rfl (pgs_cons (pg_name (i := 3) sc.nd rfl (by first | exact .inl rfl | exact .inr rfl)) (pgs_cons (pg_name (i := 4) sc.nd rfl (by first | exact .inl rfl | exact .inr rfl)) pgs_nil))) rfl) (ess_cons (es_set (ps_set (i := 5) sc.nd rfl (by first | exact Or.inl rfl | exact Or.inr rfl) (evc2 vo_min2 (pe_callB (call_min2 rfl) (by rfl) (T_free_min KX G c) (by decide +kernel) (pa_cons (ev2n vo_ix (pe_ix ix_seq (pv 2) (ev_var (pv 3)) (fun _ _ => rfl))) (pa_cons (ev2n vo_ix (pe_ix ix_seq (pv 2) (ev_var (pv 4)) (fun _ _ => rfl))) pa_nil))))))
    (ess_cons (es_set (ps_set (i := 6) sc.nd rfl (by first | exact Or.inl rfl | exact Or.inr rfl) (evc2 vo_max2 (pe_callB (call_max2 rfl) (by rfl) (T_free_max KX G c) (by decide +kernel) (pa_cons (ev2n vo_ix (pe_ix ix_seq (pv 2) (ev_var (pv 3)) (fun _ _ => rfl))) (pa_cons (ev2n vo_ix (pe_ix ix_seq (pv 2) (ev_var (pv 4)) (fun _ _ => rfl))) pa_nil))))))
    (ess_one (es_ownLc (ps_setLc (i := 2) (own := [("item", 7)]) rfl sc.nd rfl rfl (sw_true rfl rfl rfl (by decide +kernel)) (ei_any (pi_any (ev_var (pv 2)))) (blkOk_by (own := [("item", 7)]) (by first | decide +kernel | rfl)) (fun _ _ _ _ _ => (eg_nm (pg_name (i := 7) sc.nd rfl (by first | exact .inl rfl | exact .inr rfl)))) (fun _ _ _ _ _ => ets_nil) (fun _ _ _ _ _ => (ev_ifE (pe_ifExp (et2 vo_eq (pt_cmpR (op_eqD (room_u4 hr)) (ev_var (pv 7)) (ev_var (pv 6)) (nomark _))) (ev_var (pv 5)) (ev_var (pv 7))))))))))))
    (ess_one (es_ret (ps_ret (evc1n vo_tuple (pe_callTy call_tupleN (by rfl) (T_free_tuple KX G c) (by decide +kernel) (pa_cons (pv 2) pa_nil))))))))
theorem sc_joined : FnScope ["a", "b", "pairs"] ["a", "b"] (defScope (topS 4)) := ⟨rfl, rfl, rfl, by decide +kernel, rfl, by decide +kernel, by decide +kernel⟩
theorem ok_joined (KX : K.In h) (G : h.Ns mainGlobals mg) (c : Says fa fn xn ex K) : Fk PP w K mg base "joined" 2 (He.fAd K ("joined", none)) ["a", "b"] (spD ⟨K, mg, none, TK⟩ d_joined) := by
  obtain ⟨fd, F⟩ := c.def_ 8 (d := dd_joined) rfl
  have sc := sc_joined
  refine ⟨⟨fd, fn_data F sc (by decide) fun cdv A outer s H E hr tk po => ?_, F.bindsN (ps := ["a", "b"]) fun _ _ _ _ _ _ us hl => match us, hl with | [_, _], _ => rfl⟩, He.glo_ok KX G (c.fact 20 (f := .glo "joined") rfl), F.kp⟩
  exact (ess_cons (es_own (ps_set (i := 2) sc.nd rfl (by first | exact Or.inl rfl | exact Or.inr rfl) (evN2 vn_add (pe_op op_addD (ev_frz (ev_enumL rfl (pe_listEnum rfl (by rfl) (T_free_list KX G c) (by rfl) (T_free_enumerate KX G c) (ev_var (pv 0))))) (ev_frz (ev_enumL rfl (pe_listEnum rfl (by rfl) (T_free_list KX G c) (by rfl) (T_free_enumerate KX G c) (ev_var (pv 1)))))))))
    (ess_one (es_ret (ps_ret (ev_call ((ok_classes_of KX G c).pe (hr.mono (by decide)) (by rfl) tk (ea_cons (ev_var (pv 2)) (ea_cons (evc1n vo_len (pe_callB call_lenD (by rfl) (T_free_len KX G c) (by decide +kernel) (pa_cons (pv 0) pa_nil))) ea_nil'))))))))
theorem sc_meet : FnScope ["a", "b", "found", "x", "y"] ["a", "b"] (defScope (topS 5)) := ⟨rfl, rfl, rfl, by decide +kernel, rfl, by decide +kernel, by decide +kernel⟩
theorem ok_meet (KX : K.In h) (G : h.Ns mainGlobals mg) (c : Says fa fn xn ex K) : Fk PP w K mg base "meet" 1 (He.fAd K ("meet", none)) ["a", "b"] (spD ⟨K, mg, none, TK⟩ d_meet) := by
  obtain ⟨fd, F⟩ := c.def_ 9 (d := dd_meet) rfl
  have sc := sc_meet
  refine ⟨⟨fd, fn_data F sc (by decide) fun cdv A outer s H E hr tk po => ?_, F.bindsN (ps := ["a", "b"]) fun _ _ _ _ _ _ us hl => match us, hl with | [_, _], _ => rfl⟩, He.glo_ok KX G (c.fact 21 (f := .glo "meet") rfl), F.kp⟩
  exact (ess_cons (es_own (ps_set (i := 2) sc.nd rfl (by first | exact Or.inl rfl | exact Or.inr rfl) (evN_lst (pe_lst ea_nil'))))
    (ess_cons (es_for (ps_for po rfl (ei_rng (pi_range1 (by rfl) (T_free_range KX G c) (pa_cons (evc1n vo_len (pe_callB call_lenD (by rfl) (T_free_len KX G c) (by decide +kernel) (pa_cons (pv 0) pa_nil))) pa_nil))) (eg_nm (pg_name (i := 3) sc.nd rfl (by first | exact .inl rfl | exact .inr rfl))) (ess_one (es_expr (ps_expr (ev_append (pe_bm PySem.F.plainAttrs_list PySem.F.slot_list_append PySem.F.type_list_append mt_append (pv 2) (pa_cons (evc1 vo_minA (pe_callB (cr_minA rfl) (by rfl) (T_free_min KX G c) (by decide +kernel) (pa_cons (ev_frz (ev_comp (pe_lc (own := [("y", 4)]) rfl sc.nd (ei_rng (pi_range1 (by rfl) (T_free_range KX G c) (pa_cons (ev2 vo_add (pe_op op_addD (ev_var (pv 3)) (ev_int pe_int))) pa_nil))) (blkOk_by (own := [("y", 4)]) (by first | decide +kernel | rfl)) (fun _ _ _ _ _ => (eg_nm (pg_name (i := 4) sc.nd rfl (by first | exact .inl rfl | exact .inr rfl)))) (fun _ _ _ _ _ => (pts_one (PW.pt (et_and (pw_and (et2 vo_eq (pt_cmpR (op_eqD (room_u4 hr)) (ev2n vo_ix (pe_ix ix_seq (pv 0) (ev_var (pv 4)) (fun _ _ => rfl))) (ev2n vo_ix (pe_ix ix_seq (pv 0) (ev_var (pv 3)) (fun _ _ => rfl))) (nomark _))) (pw_and1 (et2 vo_eq (pt_cmpR (op_eqD (room_u4 hr)) (ev2n vo_ix (pe_ix ix_seq (pv 1) (ev_var (pv 4)) (fun _ _ => rfl))) (ev2n vo_ix (pe_ix ix_seq (pv 1) (ev_var (pv 3)) (fun _ _ => rfl))) (nomark _))))))))) (fun _ _ _ _ _ => (ev_var (pv 4)))))) pa_nil))) pa_nil))))))))
    (ess_one (es_ret (ps_ret (evc1n vo_tuple (pe_callTy call_tupleN (by rfl) (T_free_tuple KX G c) (by decide +kernel) (pa_cons (pv 2) pa_nil))))))))
theorem sc_class_sets : FnScope ["classes", "heads", "x", "y"] ["classes"] (defScope (topS 7)) := ⟨rfl, rfl, rfl, by decide +kernel, rfl, by decide +kernel, by decide +kernel⟩
theorem ok_class_sets (KX : K.In h) (G : h.Ns mainGlobals mg) (c : Says fa fn xn ex K) : Fk PP w K mg base "class_sets" 1 (He.fAd K ("class_sets", none)) ["classes"] (spD ⟨K, mg, none, TK⟩ d_class_sets) := by
  obtain ⟨fd, F⟩ := c.def_ 10 (d := dd_class_sets) rfl
  have sc := sc_class_sets
  refine ⟨⟨fd, fn_data F sc (by decide) fun cdv A outer s H E hr tk po => ?_, F.bindsN (ps := ["classes"]) fun _ _ _ _ _ _ us hl => match us, hl with | [_], _ => rfl⟩, He.glo_ok KX G (c.fact 22 (f := .glo "class_sets") rfl), F.kp⟩
  exact (ess_cons (es_ownLc (ps_setLc (i := 1) (own := [("x", 2)]) rfl sc.nd rfl rfl (sw_true rfl rfl rfl (by decide +kernel)) (ei_rng (pi_range1 (by rfl) (T_free_range KX G c) (pa_cons (evc1n vo_len (pe_callB call_lenD (by rfl) (T_free_len KX G c) (by decide +kernel) (pa_cons (pv 0) pa_nil))) pa_nil))) (blkOk_by (own := [("x", 2)]) (by first | decide +kernel | rfl)) (fun _ _ _ _ _ => (eg_nm (pg_name (i := 2) sc.nd rfl (by first | exact .inl rfl | exact .inr rfl)))) (fun _ _ _ _ _ => (pts_one (et2 vo_eq (pt_cmpR (op_eqD (room_u4 hr)) (ev2n vo_ix (pe_ix ix_seq (pv 0) (ev_var (pv 2)) (fun _ _ => rfl))) (ev_var (pv 2)) (nomark _))))) (fun _ _ _ _ _ => (ev_var (pv 2)))))
    (ess_one (es_ret (ps_ret (evc1 vo_tuple (pe_callTy call_tupleN (by rfl) (T_free_tuple KX G c) (by decide +kernel) (pa_cons (ev_frz (ev_comp (pe_lc (own := [("x", 2)]) rfl sc.nd (ei_any (pi_any (ev_var (pv 1)))) (blkOk_by (own := [("x", 2)]) (by first | decide +kernel | rfl)) (fun _ _ _ _ _ => (eg_nm (pg_name (i := 2) sc.nd rfl (by first | exact .inl rfl | exact .inr rfl)))) (fun _ _ _ _ _ => ets_nil) (fun _ _ _ _ _ => (evc1 vo_tuple (pe_callTy call_tupleN (by rfl) (T_free_tuple KX G c) (by decide +kernel) (pa_cons (ev_frz (ev_comp (pe_lc (own := [("y", 3)]) rfl sc.nd (ei_rng (pi_range1 (by rfl) (T_free_range KX G c) (pa_cons (evc1n vo_len (pe_callB call_lenD (by rfl) (T_free_len KX G c) (by decide +kernel) (pa_cons (pv 0) pa_nil))) pa_nil))) (blkOk_by (own := [("y", 3)]) (by first | decide +kernel | rfl)) (fun _ _ _ _ _ => (eg_nm (pg_name (i := 3) sc.nd rfl (by first | exact .inl rfl | exact .inr rfl)))) (fun _ _ _ _ _ => (pts_one (et2 vo_eq (pt_cmpR (op_eqD (room_u4 hr)) (ev2n vo_ix (pe_ix ix_seq (pv 0) (ev_var (pv 3)) (fun _ _ => rfl))) (ev_var (pv 2)) (nomark _))))) (fun _ _ _ _ _ => (ev_var (pv 3)))))) pa_nil))))))) pa_nil)))))))
theorem sc_by_keys : FnScope ["keys", "own", "key"] ["keys"] (defScope (topS 8)) := ⟨rfl, rfl, rfl, by decide +kernel, rfl, by decide +kernel, by decide +kernel⟩
theorem ok_by_keys (KX : K.In h) (G : h.Ns mainGlobals mg) (c : Says fa fn xn ex K) : Fk PP w K mg base "by_keys" 1 (He.fAd K ("by_keys", none)) ["keys"] (spD ⟨K, mg, none, TK⟩ d_by_keys) := by
  obtain ⟨fd, F⟩ := c.def_ 11 (d := dd_by_keys) rfl
  have sc := sc_by_keys
  refine ⟨⟨fd, fn_data F sc (by decide) fun cdv A outer s H E hr tk po => ?_, F.bindsN (ps := ["keys"]) fun _ _ _ _ _ _ us hl => match us, hl with | [_], _ => rfl⟩, He.glo_ok KX G (c.fact 23 (f := .glo "by_keys") rfl), F.kp⟩
  exact (ess_cons (es_own (ps_set (i := 1) sc.nd rfl (by first | exact Or.inl rfl | exact Or.inr rfl) (evN1n vn_list (pe_callTy call_list_of (by rfl) (T_free_list KX G c) (by decide +kernel) (pa_cons (pv 0) pa_nil)))))
    (ess_one (es_ret (ps_ret (evc1 vo_tuple (pe_callTy call_tupleN (by rfl) (T_free_tuple KX G c) (by decide +kernel) (pa_cons (ev_frz (ev_comp (pe_lc (own := [("key", 2)]) rfl sc.nd (ei_any (pi_any (ev_var (pv 1)))) (blkOk_by (own := [("key", 2)]) (by first | decide +kernel | rfl)) (fun _ _ _ _ _ => (eg_nm (pg_name (i := 2) sc.nd rfl (by first | exact .inl rfl | exact .inr rfl)))) (fun _ _ _ _ _ => ets_nil) (fun _ _ _ _ _ => (ev_indexN (pe_bm PySem.F.plainAttrs_list PySem.F.slot_list_index PySem.F.type_list_index (mt_indexA (room_u hr)) (pv 1) (pa_cons (ev_var (pv 2)) pa_nil))))))) pa_nil)))))))
theorem sc_law : FnScope ["_law_script", "_law_state_here", "_law_n", "_law_first", "_law_second", "_law_a", "_law_b", "_law_both", "_law_fine", "_law_told", "_law_sets", "_law_keys", "_law_value", "_law_due", "_law_bad", "_law_x", "_law_y"] ["_law_script"] (defScope (topS 14)) := ⟨rfl, rfl, rfl, by decide +kernel, rfl, by decide +kernel, by decide +kernel⟩
theorem ok_law (KX : K.In h) (G : h.Ns mainGlobals mg) (c : Says fa fn xn ex K) : mg ("law" : Str) = some (.ref (He.fAd K ("law", none))) ∧ ∃ fd : FuncData, (∀ (s : Shared) (u : Value), BindsTo s fd ⟨[u], []⟩ [(("_law_script" : Str), u)]) ∧ ∀ base : Heap, FnOk PP w K mg base (L2.CX PP w) 3 (He.fAd K ("law", none)) fd ["_law_script"] (spD ⟨K, mg, none, TK⟩ d_law) := by
  obtain ⟨fd, F⟩ := c.def_ 12 (d := dd_law) rfl
  have sc := sc_law
  have b := FunD.bindsA (ps := ["_law_script"]) F fun _ _ _ _ _ _ us hl => match us, hl with | [_], _ => rfl
  refine ⟨He.glo_ok KX G (c.fact 24 (f := .glo "law") rfl), fd, fun s u => b s [u] rfl, fun base => fn_data F sc (by decide) fun cdv A outer s H E hr tk po => ?_⟩
  exact (ess_cons (es_own (ps_set (i := 1) sc.nd rfl (by first | exact Or.inl rfl | exact Or.inr rfl) (ev_callO ((ok__law_state KX G c).pe (hr.mono (by decide)) (by rfl) tk (ea_cons (ev_var (pv 0)) ea_nil')))))
    (ess_cons (es_set (ps_set (i := 2) sc.nd rfl (by first | exact Or.inl rfl | exact Or.inr rfl) (ev_callR (runR_nox _ _ _) ((ok__law_take KX G c).pe (hr.mono (by decide)) (by rfl) tk (pa_cons (pv 1) (ea_cons (ev_int pe_int) ea_nil'))))))
    (ess_cons (es_set (ps_set (i := 3) sc.nd rfl (by first | exact Or.inl rfl | exact Or.inr rfl) (ev_callR (runR_nox _ _ _) ((ok__law_drawn KX G c).pe (hr.mono (by decide)) (by rfl) tk (pa_cons (pv 1) (ea_cons (ev_var (pv 2)) ea_nil'))))))
    (ess_cons (es_set (ps_set (i := 4) sc.nd rfl (by first | exact Or.inl rfl | exact Or.inr rfl) (ev_callR (runR_nox _ _ _) ((ok__law_drawn KX G c).pe (hr.mono (by decide)) (by rfl) tk (pa_cons (pv 1) (ea_cons (ev_var (pv 2)) ea_nil'))))))
    (ess_cons (es_set (ps_set (i := 5) sc.nd rfl (by first | exact Or.inl rfl | exact Or.inr rfl) (ev_call ((ok__law_near KX G c).pe (hr.mono (by decide)) (by rfl) tk (ea_cons (ev_var (pv 3)) (ea_cons (ev_var (pv 2)) ea_nil'))))))
    (ess_cons (es_set (ps_set (i := 6) sc.nd rfl (by first | exact Or.inl rfl | exact Or.inr rfl) (ev_call ((ok__law_near KX G c).pe (hr.mono (by decide)) (by rfl) tk (ea_cons (ev_var (pv 4)) (ea_cons (ev_var (pv 2)) ea_nil'))))))
    (ess_cons (es_if (ps_if (PW.pt (et_or (pw_or (et2 vo_ne (pt_cmpR (op_neD (room_u4 hr)) (ev_call ((ok_classes_of KX G c).pe (hr.mono (by decide)) (by rfl) tk (ea_cons (ev_var (pv 3)) (ea_cons (ev_var (pv 2)) ea_nil')))) (ev_var (pv 5)) (nomark _))) (et_or (pw_or (et2 vo_ne (pt_cmpR (op_neD (room_u4 hr)) (ev_call ((ok_classes_of KX G c).pe (hr.mono (by decide)) (by rfl) tk (ea_cons (evc1n vo_tuple (pe_callTy call_tupleN (by rfl) (T_free_tuple KX G c) (by decide +kernel) (pa_cons (pv 4) pa_nil))) (ea_cons (ev_var (pv 2)) ea_nil')))) (ev_var (pv 6)) (nomark _))) (pw_or1 (et2 vo_ne (pt_cmpR (op_neD (room_u4 hr)) (ev_call ((ok_joined KX G c).pe (hr.mono (by decide)) (by rfl) tk (ea_cons (ev_var (pv 5)) (ea_cons (ev_var (pv 6)) ea_nil')))) (ev_call ((ok__law_near KX G c).pe (hr.mono (by decide)) (by rfl) tk (ea_cons (ev2 vo_add (pe_op op_addD (ev_var (pv 3)) (ev_var (pv 4)))) (ea_cons (ev_var (pv 2)) ea_nil')))) (nomark _))))))))) (ess_one (es_ret (ps_ret (ev_bl pe_bl)))) ess_nil))
    (ess_cons (es_set (ps_set (i := 7) sc.nd rfl (by first | exact Or.inl rfl | exact Or.inr rfl) (evc1 vo_tuple (pe_callTy call_tupleN (by rfl) (T_free_tuple KX G c) (by decide +kernel) (pa_cons (ev_frz (ev_comp (pe_lc (own := [("_law_x", 15)]) rfl sc.nd (ei_rng (pi_range1 (by rfl) (T_free_range KX G c) (pa_cons (ev_var (pv 2)) pa_nil))) (blkOk_by (own := [("_law_x", 15)]) (by first | decide +kernel | rfl)) (fun _ _ _ _ _ => (eg_nm (pg_name (i := 15) sc.nd rfl (by first | exact .inl rfl | exact .inr rfl)))) (fun _ _ _ _ _ => ets_nil) (fun _ _ _ _ _ => (evc1 vo_minA (pe_callB (cr_minA rfl) (by rfl) (T_free_min KX G c) (by decide +kernel) (pa_cons (ev_frz (ev_comp (pe_lc (own := [("_law_y", 16)]) rfl sc.nd (ei_rng (pi_range1 (by rfl) (T_free_range KX G c) (pa_cons (ev_var (pv 2)) pa_nil))) (blkOk_by (own := [("_law_y", 16)]) (by first | decide +kernel | rfl)) (fun _ _ _ _ _ => (eg_nm (pg_name (i := 16) sc.nd rfl (by first | exact .inl rfl | exact .inr rfl)))) (fun _ _ _ _ _ => (pts_one (PW.pt (et_and (pw_and (et2 vo_eq (pt_cmpR (op_eqD (room_u4 hr)) (ev2n vo_ix (pe_ix ix_seq (pv 5) (ev_var (pv 15)) (fun _ _ => rfl))) (ev2n vo_ix (pe_ix ix_seq (pv 5) (ev_var (pv 16)) (fun _ _ => rfl))) (nomark _))) (pw_and1 (et2 vo_eq (pt_cmpR (op_eqD (room_u4 hr)) (ev2n vo_ix (pe_ix ix_seq (pv 6) (ev_var (pv 15)) (fun _ _ => rfl))) (ev2n vo_ix (pe_ix ix_seq (pv 6) (ev_var (pv 16)) (fun _ _ => rfl))) (nomark _))))))))) (fun _ _ _ _ _ => (ev_var (pv 16)))))) pa_nil))))))) pa_nil)))))
    (ess_cons (es_if (ps_if (PW.pt (et_or (pw_or (et2 vo_ne (pt_cmpR (op_neD (room_u4 hr)) (ev_call ((ok_meet KX G c).pe (hr.mono (by decide)) (by rfl) tk (ea_cons (ev_var (pv 5)) (ea_cons (ev_var (pv 6)) ea_nil')))) (ev_var (pv 7)) (nomark _))) (et_or (pw_or (et2 vo_isnot (pt_cmpR op_isNotD (ev_call ((ok_refines KX G c).pe (hr.mono (by decide)) (by rfl) tk (ea_cons (ev_var (pv 7)) (ea_cons (ev_var (pv 5)) ea_nil')))) (ev_bl pe_bl) (nomark _))) (pw_or1 (et2 vo_isnot (pt_cmpR op_isNotD (ev_call ((ok_refines KX G c).pe (hr.mono (by decide)) (by rfl) tk (ea_cons (ev_var (pv 5)) (ea_cons (ev_call ((ok_joined KX G c).pe (hr.mono (by decide)) (by rfl) tk (ea_cons (ev_var (pv 5)) (ea_cons (ev_var (pv 6)) ea_nil')))) ea_nil')))) (ev_bl pe_bl) (nomark _))))))))) (ess_one (es_ret (ps_ret (ev_bl pe_bl)))) ess_nil))
    (ess_cons (es_set (ps_set (i := 8) sc.nd rfl (by first | exact Or.inl rfl | exact Or.inr rfl) (ev2 vo_eq (pe_cmpR (op_eqD (room_u4 hr)) (evc1 vo_len (pe_callB call_lenD (by rfl) (T_free_len KX G c) (by decide +kernel) (pa_cons (ev_frz (ev_comp (pe_lc (own := [("_law_x", 15)]) rfl sc.nd (ei_rng (pi_range1 (by rfl) (T_free_range KX G c) (pa_cons (ev_var (pv 2)) pa_nil))) (blkOk_by (own := [("_law_x", 15)]) (by first | decide +kernel | rfl)) (fun _ _ _ _ _ => (eg_nm (pg_name (i := 15) sc.nd rfl (by first | exact .inl rfl | exact .inr rfl)))) (fun _ _ _ _ _ => (pts_one (et2 vo_ne (pt_cmpR (op_neD (room_u4 hr)) (ev2n vo_ix (pe_ix ix_seq (pv 6) (ev2n vo_ix (pe_ix ix_seq (pv 5) (ev_var (pv 15)) (fun _ _ => rfl))) (fun _ _ => rfl))) (ev2n vo_ix (pe_ix ix_seq (pv 6) (ev_var (pv 15)) (fun _ _ => rfl))) (nomark _))))) (fun _ _ _ _ _ => (ev_var (pv 15)))))) pa_nil))) (ev_int pe_int) (nomark _)))))
    (ess_cons (es_set (ps_set (i := 9) sc.nd rfl (by first | exact Or.inl rfl | exact Or.inr rfl) (ev_call ((ok_refines KX G c).pe (hr.mono (by decide)) (by rfl) tk (ea_cons (ev_var (pv 5)) (ea_cons (ev_var (pv 6)) ea_nil'))))))
    (ess_cons (es_if (ps_if (PW.pt (et_or (pw_or (et_not (pt_not (et_tst (pt_val (ev_isi (by decide) (pe_callB call_isi (by rfl) (T_free_isinstance KX G c) (by decide +kernel) (pa_cons (ev_var (pv 9)) (pa_cons (pe_bltn (by rfl) (T_free_bool KX G c) (by decide +kernel) rfl) pa_nil)))))))) (pw_or1 (et2 vo_ne (pt_cmpR (op_neD (room_u4 hr)) (ev_var (pv 9)) (ev_var (pv 8)) (nomark _))))))) (ess_one (es_ret (ps_ret (ev_bl pe_bl)))) ess_nil))
    (ess_cons (es_ownLc (ps_setLc (i := 10) (own := [("_law_x", 15)]) rfl sc.nd rfl rfl (sw_true rfl rfl rfl (by decide +kernel)) (ei_rng (pi_range1 (by rfl) (T_free_range KX G c) (pa_cons (ev_var (pv 2)) pa_nil))) (blkOk_by (own := [("_law_x", 15)]) (by first | decide +kernel | rfl)) (fun _ _ _ _ _ => (eg_nm (pg_name (i := 15) sc.nd rfl (by first | exact .inl rfl | exact .inr rfl)))) (fun _ _ _ _ _ => (pts_one (et2 vo_eq (pt_cmpR (op_eqD (room_u4 hr)) (ev2n vo_ix (pe_ix ix_seq (pv 5) (ev_var (pv 15)) (fun _ _ => rfl))) (ev_var (pv 15)) (nomark _))))) (fun _ _ _ _ _ => (evc1 vo_tuple (pe_callTy call_tupleN (by rfl) (T_free_tuple KX G c) (by decide +kernel) (pa_cons (ev_frz (ev_comp (pe_lc (own := [("_law_y", 16)]) rfl sc.nd (ei_rng (pi_range1 (by rfl) (T_free_range KX G c) (pa_cons (ev_var (pv 2)) pa_nil))) (blkOk_by (own := [("_law_y", 16)]) (by first | decide +kernel | rfl)) (fun _ _ _ _ _ => (eg_nm (pg_name (i := 16) sc.nd rfl (by first | exact .inl rfl | exact .inr rfl)))) (fun _ _ _ _ _ => (pts_one (et2 vo_eq (pt_cmpR (op_eqD (room_u4 hr)) (ev2n vo_ix (pe_ix ix_seq (pv 5) (ev_var (pv 16)) (fun _ _ => rfl))) (ev_var (pv 15)) (nomark _))))) (fun _ _ _ _ _ => (ev_var (pv 16)))))) pa_nil))))))
    (ess_cons (es_own (ps_set (i := 11) sc.nd rfl (by first | exact Or.inl rfl | exact Or.inr rfl) (ev_comp (pe_lc (own := [("_law_x", 15)]) rfl sc.nd (ei_rng (pi_range1 (by rfl) (T_free_range KX G c) (pa_cons (ev_var (pv 2)) pa_nil))) (blkOk_by (own := [("_law_x", 15)]) (by first | decide +kernel | rfl)) (fun _ _ _ _ _ => (eg_nm (pg_name (i := 15) sc.nd rfl (by first | exact .inl rfl | exact .inr rfl)))) (fun _ _ _ _ _ => ets_nil) (fun _ _ _ _ _ => (ev2 vo_ix (pe_ix ix_seq (ev_frz (evN_lst (pe_lst (ea_cons (ev_str pe_str) (ea_cons (ev_int pe_int) (ea_cons (ev_tup (pe_tupN (ea_cons (ev_int pe_int) ea_nil'))) (ea_cons (ev_str pe_str) ea_nil'))))))) (ev_callR (runR_nox _ _ _) ((ok__law_take KX G c).pe (hr.mono (by decide)) (by rfl) takes0 (pa_cons (pv 1) (ea_cons (ev_int pe_int) ea_nil')))) (fun _ _ => rfl))))))))
    (ess_cons (es_if (ps_if (PW.pt (et_or (pw_or (et2 vo_ne (pt_cmpR (op_neD (room_u4 hr)) (ev_call ((ok_class_sets KX G c).pe (hr.mono (by decide)) (by rfl) tk (ea_cons (ev_var (pv 5)) ea_nil'))) (evc1n vo_tuple (pe_callTy call_tupleN (by rfl) (T_free_tuple KX G c) (by decide +kernel) (pa_cons (pv 10) pa_nil))) (nomark _))) (pw_or1 (et2 vo_ne (pt_cmpR (op_neD (room_u4 hr)) (ev_call ((ok_by_keys KX G c).pe (hr.mono (by decide)) (by rfl) tk (ea_cons (ev_var (pv 11)) ea_nil'))) (evc1 vo_tuple (pe_callTy call_tupleN (by rfl) (T_free_tuple KX G c) (by decide +kernel) (pa_cons (ev_frz (ev_comp (pe_lc (own := [("_law_x", 15)]) rfl sc.nd (ei_rng (pi_range1 (by rfl) (T_free_range KX G c) (pa_cons (ev_var (pv 2)) pa_nil))) (blkOk_by (own := [("_law_x", 15)]) (by first | decide +kernel | rfl)) (fun _ _ _ _ _ => (eg_nm (pg_name (i := 15) sc.nd rfl (by first | exact .inl rfl | exact .inr rfl)))) (fun _ _ _ _ _ => ets_nil) (fun _ _ _ _ _ => (evc1 vo_minA (pe_callB (cr_minA rfl) (by rfl) (T_free_min KX G c) (by decide +kernel) (pa_cons (ev_frz (ev_comp (pe_lc (own := [("_law_y", 16)]) rfl sc.nd (ei_rng (pi_range1 (by rfl) (T_free_range KX G c) (pa_cons (ev_var (pv 2)) pa_nil))) (blkOk_by (own := [("_law_y", 16)]) (by first | decide +kernel | rfl)) (fun _ _ _ _ _ => (eg_nm (pg_name (i := 16) sc.nd rfl (by first | exact .inl rfl | exact .inr rfl)))) (fun _ _ _ _ _ => (pts_one (et2 vo_eq (pt_cmpR (op_eqD (room_u4 hr)) (ev2n vo_ix (pe_ix ix_seq (pv 11) (ev_var (pv 16)) (fun _ _ => rfl))) (ev2n vo_ix (pe_ix ix_seq (pv 11) (ev_var (pv 15)) (fun _ _ => rfl))) (nomark _))))) (fun _ _ _ _ _ => (ev_var (pv 16)))))) pa_nil))))))) pa_nil))) (nomark _))))))) (ess_one (es_ret (ps_ret (ev_bl pe_bl)))) ess_nil))
    (ess_cons (es_set (ps_set (i := 12) sc.nd rfl (by first | exact Or.inl rfl | exact Or.inr rfl) (evc1 vo_tuple (pe_callTy call_tupleN (by rfl) (T_free_tuple KX G c) (by decide +kernel) (pa_cons (ev_frz (ev_comp (pe_lc (own := [("_law_x", 15)]) rfl sc.nd (ei_rng (pi_range1 (by rfl) (T_free_range KX G c) (pa_cons (ev_int pe_int) pa_nil))) (blkOk_by (own := [("_law_x", 15)]) (by first | decide +kernel | rfl)) (fun _ _ _ _ _ => (eg_nm (pg_name (i := 15) sc.nd rfl (by first | exact .inl rfl | exact .inr rfl)))) (fun _ _ _ _ _ => ets_nil) (fun _ _ _ _ _ => (ev_callR (runR_nox _ _ _) ((ok__law_take KX G c).pe (hr.mono (by decide)) (by rfl) takes0 (pa_cons (pv 1) (ea_cons (ev_int pe_int) ea_nil')))))))) pa_nil)))))
    (ess_cons (es_set (ps_set (i := 13) sc.nd rfl (by first | exact Or.inl rfl | exact Or.inr rfl) (ev_andV (pe_and (ev2 vo_eq (pe_cmpR (op_eqD (room_u4 hr)) (ev2n vo_ix (pe_ix ix_seq (pv 12) (ev_int pe_int) (fun _ _ => rfl))) (ev_int pe_int) (nomark _))) (ev_andV (pe_and (ev2 (vo_cmpI _) (pe_cmpR op_lt (ev2n vo_ix (pe_ix ix_seq (pv 12) (ev_int pe_int) (fun _ _ => rfl))) (ev_int pe_int) (nomark _))) (ev_andV (pe_and (ev2 (vo_cmpI _) (pe_cmpR op_lt (ev2n vo_ix (pe_ix ix_seq (pv 12) (ev_int pe_int) (fun _ _ => rfl))) (ev_int pe_int) (nomark _))) (pe_one (ev2 vo_eq (pe_cmpR (op_eqD (room_u4 hr)) (ev2n vo_ix (pe_ix ix_seq (pv 12) (ev2n vo_ix (pe_ix ix_seq (pv 12) (ev_int pe_int) (fun _ _ => rfl))) (fun _ _ => rfl))) (ev2n vo_ix (pe_ix ix_seq (pv 12) (ev_int pe_int) (fun _ _ => rfl))) (nomark _))))))))))))
    (ess_cons (es_set (ps_set (i := 9) sc.nd rfl (by first | exact Or.inl rfl | exact Or.inr rfl) (ev_call ((ok_is_equivalence KX G c).pe (hr.mono (by decide)) (by rfl) tk (ea_cons (ev_var (pv 12)) (ea_cons (ev_int pe_int) ea_nil'))))))
    (ess_cons (es_if (ps_if (PW.pt (et_or (pw_or (et_not (pt_not (et_tst (pt_val (ev_isi (by decide) (pe_callB call_isi (by rfl) (T_free_isinstance KX G c) (by decide +kernel) (pa_cons (ev_var (pv 9)) (pa_cons (pe_bltn (by rfl) (T_free_bool KX G c) (by decide +kernel) rfl) pa_nil)))))))) (et_or (pw_or (et2 vo_ne (pt_cmpR (op_neD (room_u4 hr)) (ev_var (pv 9)) (ev_var (pv 13)) (nomark _))) (pw_or1 (et2 vo_isnot (pt_cmpR op_isNotD (ev_call ((ok_is_equivalence KX G c).pe (hr.mono (by decide)) (by rfl) tk (ea_cons (ev_var (pv 5)) (ea_cons (ev_var (pv 2)) ea_nil')))) (ev_bl pe_bl) (nomark _))))))))) (ess_one (es_ret (ps_ret (ev_bl pe_bl)))) ess_nil))
    (ess_cons (es_for (ps_for po rfl (ei_any (pi_any (ev_frz (evN_lst (pe_lst (ea_cons (ev_frz (evN1n vn_list (pe_callTy call_list_of (by rfl) (T_free_list KX G c) (by decide +kernel) (pa_cons (pv 5) pa_nil)))) (ea_cons (ev2 vo_add (pe_op op_addD (ev_var (pv 5)) (ev_tup (pe_tupN (ea_cons (ev_int pe_int) ea_nil'))))) (ea_cons (ev2 vo_add (pe_op op_addD (ev_var (pv 5)) (ev_tup (pe_tupN (ea_cons (ev2 vo_add (pe_op op_addD (ev_var (pv 2)) (ev_int pe_int))) ea_nil'))))) (ea_cons (ev_non pe_non) (ea_cons (ev_int pe_int) (ea_cons (ev_str pe_str) ea_nil'))))))))))) (eg_nm (pg_name (i := 14) sc.nd rfl (by first | exact .inl rfl | exact .inr rfl))) (ess_one (es_if (ps_if (et2 vo_isnot (pt_cmpR op_isNotD (ev_call ((ok_is_equivalence KX G c).pe (hr.mono (by decide)) (by rfl) tk (ea_cons (ev_var (pv 14)) (ea_cons (ev_var (pv 2)) ea_nil')))) (ev_bl pe_bl) (nomark _))) (ess_one (es_ret (ps_ret (ev_bl pe_bl)))) ess_nil)))))
    (ess_cons (es_for (ps_for po rfl (ei_any (pi_any (ev_frz (evN_lst (pe_lst (ea_cons (ev_tup (pe_tupN (ea_cons (ev_int pe_int) (ea_cons (ev_bl pe_bl) ea_nil')))) (ea_cons (ev_tup (pe_tupN (ea_cons (ev_int pe_int) (ea_cons (ev_non pe_non) ea_nil')))) (ea_cons (ev_tup (pe_tupN (ea_cons (ev_int pe_int) (ea_cons (ev1 vo_neg (pe_un un_neg (ev_int pe_int))) ea_nil')))) (ea_cons (ev_tup (pe_tupN (ea_cons (ev_int pe_int) (ea_cons (ev_int pe_int) ea_nil')))) (ea_cons (ev_tup (pe_tupN (ea_cons (ev_int pe_int) (ea_cons (ev_int pe_int) ea_nil')))) (ea_cons (ev_tup (pe_tupN (ea_cons (ev_int pe_int) ea_nil'))) (ea_cons (ev_frz (evN_lst (pe_lst (ea_cons (ev_int pe_int) (ea_cons (ev_int pe_int) ea_nil'))))) ea_nil')))))))))))) (eg_nm (pg_name (i := 14) sc.nd rfl (by first | exact .inl rfl | exact .inr rfl))) (ess_one (es_if (ps_if (et2 vo_isnot (pt_cmpR op_isNotD (ev_call ((ok_is_equivalence KX G c).pe (hr.mono (by decide)) (by rfl) tk (ea_cons (ev_var (pv 14)) (ea_cons (ev_int pe_int) ea_nil')))) (ev_bl pe_bl) (nomark _))) (ess_one (es_ret (ps_ret (ev_bl pe_bl)))) ess_nil)))))
    (ess_cons (es_for (ps_for po rfl (ei_any (pi_any (ev_frz (evN_lst (pe_lst (ea_cons (ev_bl pe_bl) (ea_cons (ev_bl pe_bl) (ea_cons (ev_non pe_non) (ea_cons (ev_str pe_str) (ea_cons (ev_tup (pe_tupN (ea_cons (ev_int pe_int) ea_nil'))) (ea_cons (ev_frz (evN_lst (pe_lst (ea_cons (ev_int pe_int) ea_nil')))) ea_nil'))))))))))) (eg_nm (pg_name (i := 14) sc.nd rfl (by first | exact .inl rfl | exact .inr rfl))) (ess_one (es_if (ps_if (et2 vo_isnot (pt_cmpR op_isNotD (ev_call ((ok_is_integer KX G c).pe (hr.mono (by decide)) (by rfl) tk (ea_cons (ev_var (pv 14)) ea_nil'))) (ev_bl pe_bl) (nomark _))) (ess_one (es_ret (ps_ret (ev_bl pe_bl)))) ess_nil)))))
    (ess_one (es_ret (ps_ret (ev2 vo_is (pe_cmpR op_isD (ev_call ((ok_is_integer KX G c).pe (hr.mono (by decide)) (by rfl) tk (ea_cons (ev2 vo_sub (pe_op op_sub (ev_var (pv 2)) (ev_int pe_int))) ea_nil'))) (ev_bl pe_bl) (nomark _))))))))))))))))))))))))))))
end

abbrev R : PySem.W.OpenRow := PySem.W.OpenLaw.row PySem.Challenge.rw_reesblocks_k00_equivalences
abbrev hk : PySem.W.Hook := hookB 5 fa fn xn ex
def ob (s : PySem.W.SharedT) : AlB := obsBG 5 fa fn xn ex (HandSHeadRun.getT s)
theorem ob_eq (s : PySem.W.SharedT) : ob s = hk.obs s.abs := obsBG_eq (HandSHeadRun.getT_eq s)
theorem run (w : World) : HandSHeadRun.RunEq R (PySem.W.view R.prog [14]) hk ob 4000 ["is_integer", "is_equivalence", "classes_of", "joined", "meet", "refines", "class_sets", "by_keys", "_law_state", "_law_take", "_law_near", "_law_drawn"] w := by
  intro os
  kernel_rfl
end LAW

namespace LAW
open DL PySem L2
def P__law_state (script : (List Int)) : M (List Int) := M.bind (pfold (fun (x10 : Int) (a11 : (Int × Int)) => M.bind (M.bind (pMul a11.1 1000003) fun c13 => .ok (c13 + (if x10 < 0 then -x10 else x10))) fun c14 => M.bind (M.bind (M.bind (pMul a11.2 48271) fun c15 => .ok (c15 + x10)) fun c17 => pMod c17 2147483647) fun c18 => .ok (c14, c18)) (cutD script none (some 63)) (0, 1)) fun (a19 : (Int × Int)) => .ok [a19.1, a19.2]
theorem S__law_state (script : (List Int)) : DO (d__law_state [D.scr script]) (P__law_state script) eI := fn_O rfl (show RO (sSeq (sSet 1 (dC (.int 0))) (sSeq (sSet 2 (dC (.int 1))) (sSeq (sFor (.nm 3) (dItems (dSln 0 dNoP (dPart (dC (.int 63))))) (sSeq (sSet 1 (dOp2 opAdd (dOp2 opMul (dVar 1) (dC (.int 1000003))) (dOp1n opAbs 3))) (sSet 2 (dOp2 opMod (dOp1 opInt (dOp2 opAdd (dOp2 opMul (dVar 2) (dC (.int 48271))) (dVar 3))) (dC (.int 2147483647)))))) sPass))) (dLst (dCons (dVar 1) (dCons (dVar 2) dNil))) [.sh (D.scr script), .no, .no, .no] (P__law_state script) (List.map eI) from
  (rs_bindP rv_ret (rs_put (st1 := [.sh (D.scr script), .sh (eI 0), .no, .no]) rfl (rs_bindP rv_ret (rs_put (st1 := [.sh (D.scr script), .sh (eI 0), .sh (eI 1), .no]) rfl (rs_bindP (rv_dItems (rv_bind (rv_dSln (rv_bind (rv_rd rfl) (rv_bind rv_ret (rv_bind (rv_dPart (rv_bind rv_ret (rv_lift (y := (some 63)) rfl))) (rv_bind (rv_rd rfl) (rv_lift op_slScr)))))) (rv_lift (y := ((List.map eI) (cutD script none (some 63)))) rfl))) (rs_for0 (e := eI) (xs := (cutD script none (some 63))) (a := (0, 1)) (f := fun (x10 : Int) (a11 : (Int × Int)) => M.bind (M.bind (pMul a11.1 1000003) fun c13 => .ok (c13 + (if x10 < 0 then -x10 else x10))) fun c14 => M.bind (M.bind (M.bind (pMul a11.2 48271) fun c15 => .ok (c15 + x10)) fun c17 => pMod c17 2147483647) fun c18 => .ok (c14, c18)) (fun (a21 : (Int × Int)) (st : DSt) => ∃ (j22 : (Option D)), st = [.sh (D.scr script), .sh (eI a21.1), .sh (eI a21.2), jk j22]) ⟨none, rfl⟩ (fun | x10, a11, _, ⟨j12, rfl⟩ => ⟨[.sh (D.scr script), .sh (eI a11.1), .sh (eI a11.2), .sh (eI x10)], rfl, (rs_bindG (re_dOp2 (re_bindG (re_dOp2 (re_bindP (rv_var rfl) (re_bindP rv_ret (re_lift op_mul)))) fun c13 => (re_bindP (rv_dOp1n (rv_bind (rv_rd rfl) (rv_lift (y := (eI (if x10 < 0 then -x10 else x10))) rfl))) (re_rv (w := eI) (rv_lift (y := (eI (c13 + (if x10 < 0 then -x10 else x10)))) rfl))))) fun c14 => (rs_put (st1 := [.sh (D.scr script), .sh (eI c14), .sh (eI a11.2), .sh (eI x10)]) rfl (rs_last (rs_bindG (re_dOp2 (re_bindG (re_dOp1 (re_tail (w := eI) (re_dOp2 (re_bindG (re_dOp2 (re_bindP (rv_var rfl) (re_bindP rv_ret (re_lift op_mul)))) fun c15 => (re_bindP (rv_var rfl) (re_rv (w := eI) (rv_lift (y := (eI (c15 + x10))) rfl))))) fun c16 => (rv_lift (y := (eI c16)) rfl))) fun c17 => (re_bindP rv_ret (re_lift op_mod)))) fun c18 => (rs_put (st1 := [.sh (D.scr script), .sh (eI c14), .sh (eI c18), .sh (eI x10)]) rfl (rs_end ⟨rfl, (some (eI x10)), rfl⟩))))))⟩) (fun | a19, _, ⟨j20, rfl⟩ => (rs_endO (re_rv (rv_dLst (rv_cons (rv_var rfl) (rv_cons (rv_var rfl) (rv_nil (rv_lift (y := ((List.map eI) [a19.1, a19.2])) (op_lst (by exact Nat.le_of_ble_eq_true rfl) rfl))))))))))))))))

def P__law_take (state_here : (List Int)) (m : Int) : M (Int × (List Int)) := M.bind (M.bind (pAt state_here 0) fun c1 => .ok (decide (c1 > 0))) fun c2 => if c2 = true then M.bind (M.bind (pAt state_here 0) fun c4 => pMod c4 m) fun c5 => M.bind (M.bind (pAt state_here 0) fun c6 => pDiv c6 m) fun c7 => M.bind (pSet state_here 0 c7) fun c8 => .ok (c5, c8) else M.bind (M.bind (M.bind (M.bind (pAt state_here 1) fun c9 => pMul c9 48271) fun c10 => .ok (c10 + 11)) fun c12 => pMod c12 2147483647) fun c13 => M.bind (pSet state_here 1 c13) fun c14 => M.bind (M.bind (M.bind (pAt c14 1) fun c15 => pDiv c15 7) fun c17 => pMod c17 m) fun c18 => .ok (c18, c14)
theorem S__law_take (state_here : (List Int)) (m : Int) : DR (d__law_take (List.map eI state_here) [eI m]) (P__law_take state_here m) eI eI := fn_R rfl (show RS false (sSeq (sIf (dTst (dOp2 opGt (dOp2n opIx 0 (dC (.int 0))) (dC (.int 0)))) (sSeq (sSet 2 (dOp2 opMod (dOp1 opInt (dOp2n opIx 0 (dC (.int 0)))) (dVar 1))) (sSeq (sStore 0 (dC (.int 0)) (dOp2 opDiv (dOp2n opIx 0 (dC (.int 0))) (dVar 1))) (sRet (dVar 2)))) sPass) (sSeq (sStore 0 (dC (.int 1)) (dOp2 opMod (dOp1 opInt (dOp2 opAdd (dOp2 opMul (dOp2n opIx 0 (dC (.int 1))) (dC (.int 48271))) (dC (.int 11)))) (dC (.int 2147483647)))) (sRet (dOp2 opMod (dOp1 opInt (dOp2 opDiv (dOp2n opIx 0 (dC (.int 1))) (dC (.int 7)))) (dVar 1))))) [.rf 0 (List.map eI state_here), .sh (eI m), .no] (P__law_take state_here m) (Kby eI eI) from
  (rs_bindG (re_tst (re_dOp2 (re_bindG (re_dOp2n (re_bindP (rv_rdR rfl) (re_bindP rv_ret (re_bindP (rv_rdR rfl) (re_lift op_atL))))) fun c1 => (re_bindP rv_ret (re_rv (w := eB) (rv_lift (y := (eB (decide (c1 > 0)))) rfl)))))) fun c2 => (rs_ite (fun _ => (rs_seq (rs_bindG (re_dOp2 (re_bindG (re_dOp1 (re_tail (w := eI) (re_dOp2n (re_bindP (rv_rdR rfl) (re_bindP rv_ret (re_bindP (rv_rdR rfl) (re_lift op_atL))))) fun c3 => (rv_lift (y := (eI c3)) rfl))) fun c4 => (re_bindP (rv_var rfl) (re_lift op_mod)))) fun c5 => (rs_put (st1 := [.rf 0 (List.map eI state_here), .sh (eI m), .sh (eI c5)]) rfl (rs_seq (rs_bindG (re_dOp2 (re_bindG (re_dOp2n (re_bindP (rv_rdR rfl) (re_bindP rv_ret (re_bindP (rv_rdR rfl) (re_lift op_atL))))) fun c6 => (re_bindP (rv_var rfl) (re_lift op_div)))) fun c7 => (rs_bindP (rv_rdR rfl) (rs_bindP rv_ret (rs_x (x_setKr (e := eI) (xs := state_here) (k := 0) (v := c7) rfl) fun c8 => rs_st ([.rf 0 (List.map eI c8), .sh (eI m), .sh (eI c5)]) rfl (rs_bindP (rv_var rfl) (rs_ret ⟨.inl rfl, _, rfl⟩))))))))))) (fun _ => (rs_nx (rs_bindG (re_dOp2 (re_bindG (re_dOp1 (re_tail (w := eI) (re_dOp2 (re_bindG (re_dOp2 (re_bindG (re_dOp2n (re_bindP (rv_rdR rfl) (re_bindP rv_ret (re_bindP (rv_rdR rfl) (re_lift op_atL))))) fun c9 => (re_bindP rv_ret (re_lift op_mul)))) fun c10 => (re_bindP rv_ret (re_rv (w := eI) (rv_lift (y := (eI (c10 + 11))) rfl))))) fun c11 => (rv_lift (y := (eI c11)) rfl))) fun c12 => (re_bindP rv_ret (re_lift op_mod)))) fun c13 => (rs_bindP (rv_rdR rfl) (rs_bindP rv_ret (rs_x (x_setKr (e := eI) (xs := state_here) (k := 1) (v := c13) rfl) fun c14 => rs_st ([.rf 0 (List.map eI c14), .sh (eI m), .no]) rfl (rs_last (rs_bindG (re_dOp2 (re_bindG (re_dOp1 (re_tail (w := eI) (re_dOp2 (re_bindG (re_dOp2n (re_bindP (rv_rdR rfl) (re_bindP rv_ret (re_bindP (rv_rdR rfl) (re_lift op_atL))))) fun c15 => (re_bindP rv_ret (re_lift op_div)))) fun c16 => (rv_lift (y := (eI c16)) rfl))) fun c17 => (re_bindP (rv_var rfl) (re_lift op_mod)))) fun c18 => (rs_ret ⟨.inl rfl, _, rfl⟩))))))))))))

def P__law_drawn (state_here : (List Int)) (n : Int) : M ((List (Int × Int)) × (List Int)) := M.bind (M.bind (M.bind (P__law_take state_here 5) fun c2 => M.bind (pRng c2.1) fun c3 => .ok (c3, c2.2)) fun c4 => pFilS (fun (x5 : Int) (r6 : List Int) => .ok ((decide (n > 0)), r6)) (fun (x5 : Int) (r6 : List Int) => M.bind (P__law_take r6 n) fun c8 => M.bind (P__law_take c8.2 n) fun c10 => .ok ((c8.1, c10.1), c10.2)) c4.1 c4.2) fun c11 => .ok (c11.1, c11.2)
theorem S__law_drawn (state_here : (List Int)) (n : Int) : DR (d__law_drawn (List.map eI state_here) [eI n]) (P__law_drawn state_here n) (eL (eP2 eI eI)) eI := fn_R rfl (show RS false (sRet (dFrz (dComp [2] (.nm 2) (dRng (dCallR d__law_take 0 (dCons (dC (.int 5)) dNil))) (dTst (dOp2 opGt (dVar 1) (dC (.int 0)))) (dTup (dCons (dCallR d__law_take 0 (dCons (dVar 1) dNil)) (dCons (dCallR d__law_take 0 (dCons (dVar 1) dNil)) dNil)))))) [.rf 0 (List.map eI state_here), .sh (eI n), .no] (P__law_drawn state_here n) (Kby (eL (eP2 eI eI)) eI) from
  (rs_last (rs_bindS (fun (r12 : List Int) => [.rf 0 (List.map eI r12), .sh (eI n), .no]) (rt_frzN (rt_bindS (rt_dRng (rt_bindS (rt_dCallR (rt_bindP (rv_owR rfl) (rt_consP rv_ret (rt_nil (rt_callR (S := fun r1 => [.rf 0 (List.map eI r1), .sh (eI n), .no]) rfl (fun _ => rfl) (S__law_take state_here 5)))))) fun c2 => (rt_re (re_lift op_rng)))) fun c4 => (rt_compF (e := eI) (p := fun (x5 : Int) (r6 : List Int) => .ok ((decide (n > 0)), r6)) (f := fun (x5 : Int) (r6 : List Int) => M.bind (P__law_take r6 n) fun c8 => M.bind (P__law_take c8.2 n) fun c10 => .ok ((c8.1, c10.1), c10.2)) (S := fun (r6 : List Int) => [.rf 0 (List.map eI r6), .sh (eI n), .no]) (fun (r6 : List Int) => [.rf 0 (List.map eI r6), .sh (eI n), .no]) (fun (x5 : Int) (r6 : List Int) => [.rf 0 (List.map eI r6), .sh (eI n), .sh (eI x5)]) (fun _ => rfl) rfl (fun _ => rfl) (fun x5 r6 => ⟨rfl, (rt_rv (v := (fun b : Bool => b)) (rv_tst (rv_dOp2 (rv_bind (rv_var rfl) (rv_bind rv_ret (rv_lift (y := (eB (decide (n > 0)))) rfl)))))), (rt_dTup (rt_consS (rt_dCallR (rt_bindP (rv_owR rfl) (rt_consP (rv_var rfl) (rt_nil (rt_callR (S := fun r7 => [.rf 0 (List.map eI r7), .sh (eI n), .sh (eI x5)]) rfl (fun _ => rfl) (S__law_take r6 n)))))) fun c8 => (rt_consS (rt_dCallR (rt_bindP (rv_owR rfl) (rt_consP (rv_var rfl) (rt_nil (rt_callR (S := fun r9 => [.rf 0 (List.map eI r9), .sh (eI n), .sh (eI x5)]) rfl (fun _ => rfl) (S__law_take c8.2 n)))))) fun c10 => (rt_nil (rt_rv (v := (eP2 eI eI)) (rv_lift (y := ((eP2 eI eI) (c8.1, c10.1))) (op_tup (by exact Nat.le_of_ble_eq_true rfl) rfl))))))), rfl⟩)))) fun c11 => (rs_ret ⟨.inl rfl, _, rfl⟩))))

def P__law_near (pairs : (List (Int × Int))) (n : Int) : M (List Int) := M.bind (M.bind (pRng n) fun c1 => pMap (fun (x2 : Int) => M.bind (pRng n) fun c3 => pMap (fun (x4 : Int) => .ok ((decide (x2 = x4)) || ((has (x2, x4) pairs) || (has (x4, x2) pairs)))) c3) c1) fun c5 => M.bind (pRng n) fun c6 => M.bind (pfold (fun (x97 : Int) (a98 : (List (List Bool))) => M.bind (pRng n) fun c102 => M.bind (pfold (fun (x142 : Int) (a143 : (List (List Bool))) => M.bind (pRng n) fun c146 => M.bind (pfold (fun (x162 : Int) (a163 : (List (List Bool))) => M.bind (M.bind (M.bind (pAt a163 x142) fun c165 => pAt c165 x162) fun c166 => if c166 = true then .ok true else M.bind (M.bind (pAt a163 x142) fun c171 => pAt c171 x97) fun c172 => if c172 = true then M.bind (pAt a163 x97) fun c174 => pAt c174 x162 else .ok false) fun c175 => M.bind (pSet2 a163 x142 x162 c175) fun c176 => .ok c176) c146 a143) fun (a177 : (List (List Bool))) => .ok a177) c102 a98) fun (a181 : (List (List Bool))) => .ok a181) c6 c5) fun (a187 : (List (List Bool))) => M.bind (M.bind (pRng n) fun c191 => pMap (fun (x192 : Int) => M.bind (M.bind (pRng n) fun c193 => pFil (fun (x194 : Int) => M.bind (pAt a187 x192) fun c195 => pAt c195 x194) (fun (x194 : Int) => .ok x194) c193) fun c196 => pMin c196) c191) fun c198 => .ok c198
theorem S__law_near (pairs : (List (Int × Int))) (n : Int) : DM (d__law_near [(eL (eP2 eI eI)) pairs, eI n]) (P__law_near pairs n) (eT eI) := fn_F rfl (show RS true (sSeq (sOwn2 2 (dComp2 [4] (.nm 4) (dRng (dVar 1)) (dComp [5] (.nm 5) (dRng (dVar 1)) dYes (dIf (dTst (dOp2 opEq (dVar 4) (dVar 5))) (dC (.bl true)) (dIf (dTst (dOp2m opIn (dTup (dCons (dVar 4) (dCons (dVar 5) dNil))) 0)) (dC (.bl true)) (dOp2m opIn (dTup (dCons (dVar 5) (dCons (dVar 4) dNil))) 0)))))) (sSeq (sFor (.nm 3) (dRng (dVar 1)) (sFor (.nm 4) (dRng (dVar 1)) (sFor (.nm 5) (dRng (dVar 1)) (sStore2 2 (dVar 4) (dVar 5) (dIf (dTst (dIxx 2 (dVar 4) (dVar 5))) (dC (.bl true)) (dIf (dTst (dIxx 2 (dVar 4) (dVar 3))) (dIxx 2 (dVar 3) (dVar 5)) (dC (.bl false)))))))) (sRet (dOp1 opTuple (dFrz (dComp [4] (.nm 4) (dRng (dVar 1)) dYes (dOp1 opMinA (dFrz (dComp [5] (.nm 5) (dRng (dVar 1)) (dTst (dIxx 2 (dVar 4) (dVar 5))) (dVar 5)))))))))) [.sh ((eL (eP2 eI eI)) pairs), .sh (eI n), .no, .no, .no, .no] (P__law_near pairs n) (Kfn (eT eI)) from
  (rs_bindG (re_bindG (re_dRng (re_bindP (rv_var rfl) (re_lift op_rng))) fun c1 => (re_comp2 (e := eI) (f := fun (x2 : Int) => M.bind (pRng n) fun c3 => pMap (fun (x4 : Int) => .ok ((decide (x2 = x4)) || ((has (x2, x4) pairs) || (has (x4, x2) pairs)))) c3) ([.sh ((eL (eP2 eI eI)) pairs), .sh (eI n), .no, .no, .no, .no]) rfl rfl rfl (fun x2 => ⟨[.sh ((eL (eP2 eI eI)) pairs), .sh (eI n), .no, .no, .sh (eI x2), .no], [.sh ((eL (eP2 eI eI)) pairs), .sh (eI n), .no, .no, .sh (eI x2), .no], rfl, (re_bindG (re_dRng (re_bindP (rv_var rfl) (re_lift op_rng))) fun c3 => (re_compM (e := eI) (f := fun (x4 : Int) => .ok ((decide (x2 = x4)) || ((has (x2, x4) pairs) || (has (x4, x2) pairs)))) ([.sh ((eL (eP2 eI eI)) pairs), .sh (eI n), .no, .no, .sh (eI x2), .no]) rfl rfl rfl (fun x4 => ⟨[.sh ((eL (eP2 eI eI)) pairs), .sh (eI n), .no, .no, .sh (eI x2), .sh (eI x4)], [.sh ((eL (eP2 eI eI)) pairs), .sh (eI n), .no, .no, .sh (eI x2), .sh (eI x4)], rfl, (re_rv (w := eB) (rv_dIf (rv_bind (rv_tst (rv_dOp2 (rv_bind (rv_var rfl) (rv_bind (rv_var rfl) (rv_lift (eq_py pyI (x := x2) (y := x4))))))) (rv_orE fun _ => (rv_dIf (rv_bind (rv_tst (rv_dOp2m (rv_bind (rv_dTup (rv_cons (rv_var rfl) (rv_cons (rv_var rfl) (rv_nil (rv_lift (y := ((eP2 eI eI) (x2, x4))) (op_tup (by exact Nat.le_of_ble_eq_true rfl) rfl)))))) (rv_bind (rv_rd rfl) (rv_lift (inL_ (in_py (x := (x2, x4)) (xs := pairs) (pyP2 pyI pyI)).1)))))) (rv_orE fun _ => (rv_dOp2m (rv_bind (rv_dTup (rv_cons (rv_var rfl) (rv_cons (rv_var rfl) (rv_nil (rv_lift (y := ((eP2 eI eI) (x4, x2))) (op_tup (by exact Nat.le_of_ble_eq_true rfl) rfl)))))) (rv_bind (rv_rd rfl) (rv_lift (inL_ (in_py (x := (x4, x2)) (xs := pairs) (pyP2 pyI pyI)).1)))))))))))), rfl, rfl⟩))), rfl, rfl⟩))) fun c5 => (rs_put2 (st1 := [.sh ((eL (eP2 eI eI)) pairs), .sh (eI n), .o2 (List.map (List.map eB) c5), .no, .no, .no]) rfl (rs_bindG (re_dRng (re_bindP (rv_var rfl) (re_lift op_rng))) fun c6 => (rs_for0 (e := eI) (xs := c6) (a := c5) (f := fun (x97 : Int) (a98 : (List (List Bool))) => M.bind (pRng n) fun c102 => M.bind (pfold (fun (x142 : Int) (a143 : (List (List Bool))) => M.bind (pRng n) fun c146 => M.bind (pfold (fun (x162 : Int) (a163 : (List (List Bool))) => M.bind (M.bind (M.bind (pAt a163 x142) fun c165 => pAt c165 x162) fun c166 => if c166 = true then .ok true else M.bind (M.bind (pAt a163 x142) fun c171 => pAt c171 x97) fun c172 => if c172 = true then M.bind (pAt a163 x97) fun c174 => pAt c174 x162 else .ok false) fun c175 => M.bind (pSet2 a163 x142 x162 c175) fun c176 => .ok c176) c146 a143) fun (a177 : (List (List Bool))) => .ok a177) c102 a98) fun (a181 : (List (List Bool))) => .ok a181) (fun (a199 : (List (List Bool))) (st : DSt) => ∃ (j200 : (Option D)), ∃ (j201 : (Option D)), ∃ (j202 : (Option D)), st = [.sh ((eL (eP2 eI eI)) pairs), .sh (eI n), .o2 (List.map (List.map eB) a199), jk j200, jk j201, jk j202]) ⟨none, none, none, rfl⟩ (fun | x97, a98, _, ⟨j99, j100, j101, rfl⟩ => ⟨[.sh ((eL (eP2 eI eI)) pairs), .sh (eI n), .o2 (List.map (List.map eB) a98), .sh (eI x97), jk j100, jk j101], rfl, (rs_last (rs_bindG (re_dRng (re_bindP (rv_var rfl) (re_lift op_rng))) fun c102 => (rs_for0 (e := eI) (xs := c102) (a := a98) (f := fun (x142 : Int) (a143 : (List (List Bool))) => M.bind (pRng n) fun c146 => M.bind (pfold (fun (x162 : Int) (a163 : (List (List Bool))) => M.bind (M.bind (M.bind (pAt a163 x142) fun c165 => pAt c165 x162) fun c166 => if c166 = true then .ok true else M.bind (M.bind (pAt a163 x142) fun c171 => pAt c171 x97) fun c172 => if c172 = true then M.bind (pAt a163 x97) fun c174 => pAt c174 x162 else .ok false) fun c175 => M.bind (pSet2 a163 x142 x162 c175) fun c176 => .ok c176) c146 a143) fun (a177 : (List (List Bool))) => .ok a177) (fun (a184 : (List (List Bool))) (st : DSt) => ∃ (j185 : (Option D)), ∃ (j186 : (Option D)), st = [.sh ((eL (eP2 eI eI)) pairs), .sh (eI n), .o2 (List.map (List.map eB) a184), .sh (eI x97), jk j185, jk j186]) ⟨j100, j101, rfl⟩ (fun | x142, a143, _, ⟨j144, j145, rfl⟩ => ⟨[.sh ((eL (eP2 eI eI)) pairs), .sh (eI n), .o2 (List.map (List.map eB) a143), .sh (eI x97), .sh (eI x142), jk j145], rfl, (rs_last (rs_bindG (re_dRng (re_bindP (rv_var rfl) (re_lift op_rng))) fun c146 => (rs_for0 (e := eI) (xs := c146) (a := a143) (f := fun (x162 : Int) (a163 : (List (List Bool))) => M.bind (M.bind (M.bind (pAt a163 x142) fun c165 => pAt c165 x162) fun c166 => if c166 = true then .ok true else M.bind (M.bind (pAt a163 x142) fun c171 => pAt c171 x97) fun c172 => if c172 = true then M.bind (pAt a163 x97) fun c174 => pAt c174 x162 else .ok false) fun c175 => M.bind (pSet2 a163 x142 x162 c175) fun c176 => .ok c176) (fun (a179 : (List (List Bool))) (st : DSt) => ∃ (j180 : (Option D)), st = [.sh ((eL (eP2 eI eI)) pairs), .sh (eI n), .o2 (List.map (List.map eB) a179), .sh (eI x97), .sh (eI x142), jk j180]) ⟨j145, rfl⟩ (fun | x162, a163, _, ⟨j164, rfl⟩ => ⟨[.sh ((eL (eP2 eI eI)) pairs), .sh (eI n), .o2 (List.map (List.map eB) a163), .sh (eI x97), .sh (eI x142), .sh (eI x162)], rfl, (rs_last (rs_bindG (re_dIf (re_bindG (re_tst (re_ixx2 rfl (rv_var rfl) (rv_var rfl))) fun c166 => (re_ite (fun _ => (re_rv (w := eB) rv_ret)) (fun _ => (re_dIf (re_bindG (re_tst (re_ixx2 rfl (rv_var rfl) (rv_var rfl))) fun c172 => (re_ite (fun _ => (re_ixx2 rfl (rv_var rfl) (rv_var rfl))) (fun _ => (re_rv (w := eB) rv_ret))))))))) fun c175 => (rs_x (x_set2K (e := eB) rfl (rv_var rfl) (rv_var rfl)) fun c176 => rs_st ([.sh ((eL (eP2 eI eI)) pairs), .sh (eI n), .o2 (List.map (List.map eB) c176), .sh (eI x97), .sh (eI x142), .sh (eI x162)]) rfl (rs_end ⟨rfl, (some (eI x162)), rfl⟩))))⟩) (fun | a177, _, ⟨j178, rfl⟩ => (rs_end ⟨rfl, (some (eI x142)), j178, rfl⟩)))))⟩) (fun | a181, _, ⟨j182, j183, rfl⟩ => (rs_end ⟨rfl, (some (eI x97)), j182, j183, rfl⟩)))))⟩) (fun | a187, _, ⟨j188, j189, j190, rfl⟩ => (rs_last (rs_bindG (re_dOp1 (re_tail (w := (eT eI)) (re_frzN (re_bindG (re_dRng (re_bindP (rv_var rfl) (re_lift op_rng))) fun c191 => (re_compM (e := eI) (f := fun (x192 : Int) => M.bind (M.bind (pRng n) fun c193 => pFil (fun (x194 : Int) => M.bind (pAt a187 x192) fun c195 => pAt c195 x194) (fun (x194 : Int) => .ok x194) c193) fun c196 => pMin c196) ([.sh ((eL (eP2 eI eI)) pairs), .sh (eI n), .o2 (List.map (List.map eB) a187), jk j188, .no, jk j190]) rfl (by cases j189 <;> rfl) rfl (fun x192 => ⟨[.sh ((eL (eP2 eI eI)) pairs), .sh (eI n), .o2 (List.map (List.map eB) a187), jk j188, .sh (eI x192), jk j190], [.sh ((eL (eP2 eI eI)) pairs), .sh (eI n), .o2 (List.map (List.map eB) a187), jk j188, .sh (eI x192), jk j190], rfl, (re_dOp1 (re_bindG (re_frzN (re_bindG (re_dRng (re_bindP (rv_var rfl) (re_lift op_rng))) fun c193 => (re_compF (e := eI) (p := fun (x194 : Int) => M.bind (pAt a187 x192) fun c195 => pAt c195 x194) (f := fun (x194 : Int) => .ok x194) ([.sh ((eL (eP2 eI eI)) pairs), .sh (eI n), .o2 (List.map (List.map eB) a187), jk j188, .sh (eI x192), .no]) rfl (by cases j190 <;> rfl) rfl (fun x194 => ⟨[.sh ((eL (eP2 eI eI)) pairs), .sh (eI n), .o2 (List.map (List.map eB) a187), jk j188, .sh (eI x192), .sh (eI x194)], [.sh ((eL (eP2 eI eI)) pairs), .sh (eI n), .o2 (List.map (List.map eB) a187), jk j188, .sh (eI x192), .sh (eI x194)], [.sh ((eL (eP2 eI eI)) pairs), .sh (eI n), .o2 (List.map (List.map eB) a187), jk j188, .sh (eI x192), .sh (eI x194)], rfl, (re_tst (re_ixx2 rfl (rv_var rfl) (rv_var rfl))), (re_rv (w := eI) (rv_var rfl)), rfl, rfl⟩)))) fun c196 => (re_lift op_minL))), rfl, rfl⟩)))) fun c197 => (rv_lift (y := ((eT eI) c197)) rfl))) fun c198 => (rs_ret (.inl rfl))))))))))

def P_classes_of (pairs : (List (Int × Int))) (n : Int) : M (List Int) := M.bind (pRng n) fun c1 => M.bind (pfold (fun (x16 : (Int × Int)) (a17 : (List Int)) => M.bind (M.bind (pAt a17 x16.1) fun c22 => M.bind (pAt a17 x16.2) fun c23 => .ok (if c23 < c22 then c23 else c22)) fun c24 => M.bind (M.bind (pAt a17 x16.1) fun c25 => M.bind (pAt a17 x16.2) fun c26 => .ok (if c26 > c25 then c26 else c25)) fun c27 => M.bind (pMap (fun (x28 : Int) => .ok (if (decide (x28 = c27)) = true then c24 else x28)) a17) fun c29 => .ok c29) pairs c1) fun (a30 : (List Int)) => .ok a30
theorem S_classes_of (pairs : (List (Int × Int))) (n : Int) : DM (d_classes_of [(eL (eP2 eI eI)) pairs, eI n]) (P_classes_of pairs n) (eT eI) := fn_F rfl (show RS true (sSeq (sOwn 2 (dLstRg (dRg1 (dVar 1)))) (sSeq (sFor (.nms [3, 4]) (dItems (dVar 0)) (sSeq (sSet 5 (dOp2 opMin2 (dOp2n opIx 2 (dVar 3)) (dOp2n opIx 2 (dVar 4)))) (sSeq (sSet 6 (dOp2 opMax2 (dOp2n opIx 2 (dVar 3)) (dOp2n opIx 2 (dVar 4)))) (sOwn 2 (dComp [7] (.nm 7) (dItems (dVar 2)) dYes (dIf (dTst (dOp2 opEq (dVar 7) (dVar 6))) (dVar 5) (dVar 7))))))) (sRet (dOp1n opTuple 2)))) [.sh ((eL (eP2 eI eI)) pairs), .sh (eI n), .no, .no, .no, .no, .no, .no] (P_classes_of pairs n) (Kfn (eT eI)) from
  (rs_bindG (re_lrgP (rv_var rfl)) fun c1 => (rs_put (st1 := [.sh ((eL (eP2 eI eI)) pairs), .sh (eI n), .ow (List.map eI c1), .no, .no, .no, .no, .no]) rfl (rs_bindP (rv_dItems (rv_bind (rv_var rfl) (rv_lift (y := ((List.map (eP2 eI eI)) pairs)) rfl))) (rs_for0 (e := (eP2 eI eI)) (xs := pairs) (a := c1) (f := fun (x16 : (Int × Int)) (a17 : (List Int)) => M.bind (M.bind (pAt a17 x16.1) fun c22 => M.bind (pAt a17 x16.2) fun c23 => .ok (if c23 < c22 then c23 else c22)) fun c24 => M.bind (M.bind (pAt a17 x16.1) fun c25 => M.bind (pAt a17 x16.2) fun c26 => .ok (if c26 > c25 then c26 else c25)) fun c27 => M.bind (pMap (fun (x28 : Int) => .ok (if (decide (x28 = c27)) = true then c24 else x28)) a17) fun c29 => .ok c29) (fun (a35 : (List Int)) (st : DSt) => ∃ (j36 : (Option D)), ∃ (j37 : (Option D)), ∃ (j38 : (Option D)), ∃ (j39 : (Option D)), st = [.sh ((eL (eP2 eI eI)) pairs), .sh (eI n), .ow (List.map eI a35), jk j36, jk j37, jk j38, jk j39, .no]) ⟨none, none, none, none, rfl⟩ (fun | x16, a17, _, ⟨j18, j19, j20, j21, rfl⟩ => ⟨[.sh ((eL (eP2 eI eI)) pairs), .sh (eI n), .ow (List.map eI a17), .sh (eI x16.1), .sh (eI x16.2), jk j20, jk j21, .no], rfl, (rs_bindG (re_dOp2 (re_bindG (re_dOp2n (re_bindP (rv_rdO rfl) (re_bindP (rv_var rfl) (re_bindP (rv_rdO rfl) (re_lift op_atL))))) fun c22 => (re_bindG (re_dOp2n (re_bindP (rv_rdO rfl) (re_bindP (rv_var rfl) (re_bindP (rv_rdO rfl) (re_lift op_atL))))) fun c23 => (re_rv (w := eI) (rv_lift (y := (eI (if c23 < c22 then c23 else c22))) rfl))))) fun c24 => (rs_put (st1 := [.sh ((eL (eP2 eI eI)) pairs), .sh (eI n), .ow (List.map eI a17), .sh (eI x16.1), .sh (eI x16.2), .sh (eI c24), jk j21, .no]) rfl (rs_bindG (re_dOp2 (re_bindG (re_dOp2n (re_bindP (rv_rdO rfl) (re_bindP (rv_var rfl) (re_bindP (rv_rdO rfl) (re_lift op_atL))))) fun c25 => (re_bindG (re_dOp2n (re_bindP (rv_rdO rfl) (re_bindP (rv_var rfl) (re_bindP (rv_rdO rfl) (re_lift op_atL))))) fun c26 => (re_rv (w := eI) (rv_lift (y := (eI (if c26 > c25 then c26 else c25))) rfl))))) fun c27 => (rs_put (st1 := [.sh ((eL (eP2 eI eI)) pairs), .sh (eI n), .ow (List.map eI a17), .sh (eI x16.1), .sh (eI x16.2), .sh (eI c24), .sh (eI c27), .no]) rfl (rs_last (rs_bindG (re_bindP (rv_dItems (rv_bind (rv_frz rfl) (rv_lift (y := ((List.map eI) a17)) rfl))) (re_compM (e := eI) (f := fun (x28 : Int) => .ok (if (decide (x28 = c27)) = true then c24 else x28)) ([.sh ((eL (eP2 eI eI)) pairs), .sh (eI n), .sh ((eL eI) a17), .sh (eI x16.1), .sh (eI x16.2), .sh (eI c24), .sh (eI c27), .no]) rfl rfl rfl (fun x28 => ⟨[.sh ((eL (eP2 eI eI)) pairs), .sh (eI n), .sh ((eL eI) a17), .sh (eI x16.1), .sh (eI x16.2), .sh (eI c24), .sh (eI c27), .sh (eI x28)], [.sh ((eL (eP2 eI eI)) pairs), .sh (eI n), .sh ((eL eI) a17), .sh (eI x16.1), .sh (eI x16.2), .sh (eI c24), .sh (eI c27), .sh (eI x28)], rfl, (re_rv (w := eI) (rv_dIf (rv_bind (rv_tst (rv_dOp2 (rv_bind (rv_var rfl) (rv_bind (rv_var rfl) (rv_lift (eq_py pyI (x := x28) (y := c27))))))) (rv_iteE (fun _ => (rv_var rfl)) (fun _ => (rv_var rfl)))))), rfl, rfl⟩))) fun c29 => (rs_put (st1 := [.sh ((eL (eP2 eI eI)) pairs), .sh (eI n), .ow (List.map eI c29), .sh (eI x16.1), .sh (eI x16.2), .sh (eI c24), .sh (eI c27), .no]) rfl (rs_end ⟨rfl, (some (eI x16.1)), (some (eI x16.2)), (some (eI c24)), (some (eI c27)), rfl⟩))))))))⟩) (fun | a30, _, ⟨j31, j32, j33, j34, rfl⟩ => (rs_last (rs_bindP (rv_dOp1n (rv_bind (rv_rdO rfl) (rv_lift (y := ((eT eI) a30)) rfl))) (rs_ret (.inl rfl))))))))))

def P_classes_of_2 (pairs : (List (Int × Int))) (n : Int) : M (List Int) := M.bind (pRng n) fun c1 => M.bind (pfold (fun (x16 : (Int × Int)) (a17 : (List Int)) => M.bind (M.bind (pAt a17 x16.1) fun c22 => M.bind (pAt a17 x16.2) fun c23 => .ok (if c23 < c22 then c23 else c22)) fun c24 => M.bind (M.bind (pAt a17 x16.1) fun c25 => M.bind (pAt a17 x16.2) fun c26 => .ok (if c26 > c25 then c26 else c25)) fun c27 => M.bind (pMap (fun (x28 : Int) => .ok (if (decide (x28 = c27)) = true then c24 else x28)) a17) fun c29 => .ok c29) pairs c1) fun (a30 : (List Int)) => .ok a30
theorem S_classes_of_2 (pairs : (List (Int × Int))) (n : Int) : DM (d_classes_of [(eT (eP2 eI eI)) pairs, eI n]) (P_classes_of_2 pairs n) (eT eI) := fn_F rfl (show RS true (sSeq (sOwn 2 (dLstRg (dRg1 (dVar 1)))) (sSeq (sFor (.nms [3, 4]) (dItems (dVar 0)) (sSeq (sSet 5 (dOp2 opMin2 (dOp2n opIx 2 (dVar 3)) (dOp2n opIx 2 (dVar 4)))) (sSeq (sSet 6 (dOp2 opMax2 (dOp2n opIx 2 (dVar 3)) (dOp2n opIx 2 (dVar 4)))) (sOwn 2 (dComp [7] (.nm 7) (dItems (dVar 2)) dYes (dIf (dTst (dOp2 opEq (dVar 7) (dVar 6))) (dVar 5) (dVar 7))))))) (sRet (dOp1n opTuple 2)))) [.sh ((eT (eP2 eI eI)) pairs), .sh (eI n), .no, .no, .no, .no, .no, .no] (P_classes_of_2 pairs n) (Kfn (eT eI)) from
  (rs_bindG (re_lrgP (rv_var rfl)) fun c1 => (rs_put (st1 := [.sh ((eT (eP2 eI eI)) pairs), .sh (eI n), .ow (List.map eI c1), .no, .no, .no, .no, .no]) rfl (rs_bindP (rv_dItems (rv_bind (rv_var rfl) (rv_lift (y := ((List.map (eP2 eI eI)) pairs)) rfl))) (rs_for0 (e := (eP2 eI eI)) (xs := pairs) (a := c1) (f := fun (x16 : (Int × Int)) (a17 : (List Int)) => M.bind (M.bind (pAt a17 x16.1) fun c22 => M.bind (pAt a17 x16.2) fun c23 => .ok (if c23 < c22 then c23 else c22)) fun c24 => M.bind (M.bind (pAt a17 x16.1) fun c25 => M.bind (pAt a17 x16.2) fun c26 => .ok (if c26 > c25 then c26 else c25)) fun c27 => M.bind (pMap (fun (x28 : Int) => .ok (if (decide (x28 = c27)) = true then c24 else x28)) a17) fun c29 => .ok c29) (fun (a35 : (List Int)) (st : DSt) => ∃ (j36 : (Option D)), ∃ (j37 : (Option D)), ∃ (j38 : (Option D)), ∃ (j39 : (Option D)), st = [.sh ((eT (eP2 eI eI)) pairs), .sh (eI n), .ow (List.map eI a35), jk j36, jk j37, jk j38, jk j39, .no]) ⟨none, none, none, none, rfl⟩ (fun | x16, a17, _, ⟨j18, j19, j20, j21, rfl⟩ => ⟨[.sh ((eT (eP2 eI eI)) pairs), .sh (eI n), .ow (List.map eI a17), .sh (eI x16.1), .sh (eI x16.2), jk j20, jk j21, .no], rfl, (rs_bindG (re_dOp2 (re_bindG (re_dOp2n (re_bindP (rv_rdO rfl) (re_bindP (rv_var rfl) (re_bindP (rv_rdO rfl) (re_lift op_atL))))) fun c22 => (re_bindG (re_dOp2n (re_bindP (rv_rdO rfl) (re_bindP (rv_var rfl) (re_bindP (rv_rdO rfl) (re_lift op_atL))))) fun c23 => (re_rv (w := eI) (rv_lift (y := (eI (if c23 < c22 then c23 else c22))) rfl))))) fun c24 => (rs_put (st1 := [.sh ((eT (eP2 eI eI)) pairs), .sh (eI n), .ow (List.map eI a17), .sh (eI x16.1), .sh (eI x16.2), .sh (eI c24), jk j21, .no]) rfl (rs_bindG (re_dOp2 (re_bindG (re_dOp2n (re_bindP (rv_rdO rfl) (re_bindP (rv_var rfl) (re_bindP (rv_rdO rfl) (re_lift op_atL))))) fun c25 => (re_bindG (re_dOp2n (re_bindP (rv_rdO rfl) (re_bindP (rv_var rfl) (re_bindP (rv_rdO rfl) (re_lift op_atL))))) fun c26 => (re_rv (w := eI) (rv_lift (y := (eI (if c26 > c25 then c26 else c25))) rfl))))) fun c27 => (rs_put (st1 := [.sh ((eT (eP2 eI eI)) pairs), .sh (eI n), .ow (List.map eI a17), .sh (eI x16.1), .sh (eI x16.2), .sh (eI c24), .sh (eI c27), .no]) rfl (rs_last (rs_bindG (re_bindP (rv_dItems (rv_bind (rv_frz rfl) (rv_lift (y := ((List.map eI) a17)) rfl))) (re_compM (e := eI) (f := fun (x28 : Int) => .ok (if (decide (x28 = c27)) = true then c24 else x28)) ([.sh ((eT (eP2 eI eI)) pairs), .sh (eI n), .sh ((eL eI) a17), .sh (eI x16.1), .sh (eI x16.2), .sh (eI c24), .sh (eI c27), .no]) rfl rfl rfl (fun x28 => ⟨[.sh ((eT (eP2 eI eI)) pairs), .sh (eI n), .sh ((eL eI) a17), .sh (eI x16.1), .sh (eI x16.2), .sh (eI c24), .sh (eI c27), .sh (eI x28)], [.sh ((eT (eP2 eI eI)) pairs), .sh (eI n), .sh ((eL eI) a17), .sh (eI x16.1), .sh (eI x16.2), .sh (eI c24), .sh (eI c27), .sh (eI x28)], rfl, (re_rv (w := eI) (rv_dIf (rv_bind (rv_tst (rv_dOp2 (rv_bind (rv_var rfl) (rv_bind (rv_var rfl) (rv_lift (eq_py pyI (x := x28) (y := c27))))))) (rv_iteE (fun _ => (rv_var rfl)) (fun _ => (rv_var rfl)))))), rfl, rfl⟩))) fun c29 => (rs_put (st1 := [.sh ((eT (eP2 eI eI)) pairs), .sh (eI n), .ow (List.map eI c29), .sh (eI x16.1), .sh (eI x16.2), .sh (eI c24), .sh (eI c27), .no]) rfl (rs_end ⟨rfl, (some (eI x16.1)), (some (eI x16.2)), (some (eI c24)), (some (eI c27)), rfl⟩))))))))⟩) (fun | a30, _, ⟨j31, j32, j33, j34, rfl⟩ => (rs_last (rs_bindP (rv_dOp1n (rv_bind (rv_rdO rfl) (rv_lift (y := ((eT eI) a30)) rfl))) (rs_ret (.inl rfl))))))))))

def P_joined (a : (List Int)) (b : (List Int)) : M (List Int) := M.bind (M.bind (pEnum a) fun c1 => M.bind (pEnum b) fun c2 => pCat c1 c2) fun c3 => M.bind (P_classes_of c3 (a.length : Int)) fun c4 => .ok c4
theorem S_joined (a : (List Int)) (b : (List Int)) : DM (d_joined [(eT eI) a, (eT eI) b]) (P_joined a b) (eT eI) := fn_F rfl (show RS true (sSeq (sOwn 2 (dN2 nAdd (dFrz (dEnumL (dVar 0))) (dFrz (dEnumL (dVar 1))))) (sRet (dCall d_classes_of (dCons (dVar 2) (dCons (dOp1n opLen 0) dNil))))) [.sh ((eT eI) a), .sh ((eT eI) b), .no] (P_joined a b) (Kfn (eT eI)) from
  (rs_bindG (re_dN2 (re_bindG (re_frzN (re_bindP (rv_var rfl) (re_lift op_enum))) fun c1 => (re_bindG (re_frzN (re_bindP (rv_var rfl) (re_lift op_enum))) fun c2 => (re_lift (op_nCat (e := (eP2 eI eI)) (xs := c1) (ys := c2)))))) fun c3 => (rs_put (st1 := [.sh ((eT eI) a), .sh ((eT eI) b), .ow (List.map (eP2 eI eI) c3)]) rfl (rs_last (rs_bindG (re_dCall (re_consP (rv_frz rfl) (re_consP (rv_dOp1n (rv_bind (rv_rd rfl) (rv_lift op_lenT))) (re_nil (re_liftM (S_classes_of c3 (a.length : Int))))))) fun c4 => (rs_ret (.inl rfl)))))))

def P_meet (a : (List Int)) (b : (List Int)) : M (List Int) := M.bind (pRng (a.length : Int)) fun c1 => M.bind (pfold (fun (x28 : Int) (a29 : (List Int)) => M.bind (M.bind (M.bind (M.bind (pRng (x28 + 1)) fun c31 => pFil (fun (x32 : Int) => M.bind (M.bind (pAt a x32) fun c33 => M.bind (pAt a x28) fun c34 => .ok (decide (c33 = c34))) fun c35 => if c35 = true then M.bind (pAt b x32) fun c36 => M.bind (pAt b x28) fun c37 => .ok (decide (c36 = c37)) else .ok false) (fun (x32 : Int) => .ok x32) c31) fun c38 => pMin c38) fun c40 => pApp a29 c40) fun c39 => .ok c39) c1 []) fun (a41 : (List Int)) => .ok a41
theorem S_meet (a : (List Int)) (b : (List Int)) : DM (d_meet [(eT eI) a, (eT eI) b]) (P_meet a b) (eT eI) := fn_F rfl (show RS true (sSeq (sOwn 2 (dLst dNil)) (sSeq (sFor (.nm 3) (dRng (dOp1n opLen 0)) (sExpr (dAppend 2 (dOp1 opMinA (dFrz (dComp [4] (.nm 4) (dRng (dOp2 opAdd (dVar 3) (dC (.int 1)))) (dAnd (dTst (dOp2 opEq (dOp2n opIx 0 (dVar 4)) (dOp2n opIx 0 (dVar 3)))) (dTst (dOp2 opEq (dOp2n opIx 1 (dVar 4)) (dOp2n opIx 1 (dVar 3))))) (dVar 4))))))) (sRet (dOp1n opTuple 2)))) [.sh ((eT eI) a), .sh ((eT eI) b), .no, .no, .no] (P_meet a b) (Kfn (eT eI)) from
  (rs_bindP (rv_dLst (rv_nil (rv_lift (y := ((List.map eI) [])) (op_lst (by exact Nat.le_of_ble_eq_true rfl) rfl)))) (rs_put (st1 := [.sh ((eT eI) a), .sh ((eT eI) b), .ow (List.map eI []), .no, .no]) rfl (rs_bindG (re_dRng (re_bindP (rv_dOp1n (rv_bind (rv_rd rfl) (rv_lift op_lenT))) (re_lift op_rng))) fun c1 => (rs_for0 (e := eI) (xs := c1) (a := []) (f := fun (x28 : Int) (a29 : (List Int)) => M.bind (M.bind (M.bind (M.bind (pRng (x28 + 1)) fun c31 => pFil (fun (x32 : Int) => M.bind (M.bind (pAt a x32) fun c33 => M.bind (pAt a x28) fun c34 => .ok (decide (c33 = c34))) fun c35 => if c35 = true then M.bind (pAt b x32) fun c36 => M.bind (pAt b x28) fun c37 => .ok (decide (c36 = c37)) else .ok false) (fun (x32 : Int) => .ok x32) c31) fun c38 => pMin c38) fun c40 => pApp a29 c40) fun c39 => .ok c39) (fun (a43 : (List Int)) (st : DSt) => ∃ (j44 : (Option D)), st = [.sh ((eT eI) a), .sh ((eT eI) b), .ow (List.map eI a43), jk j44, .no]) ⟨none, rfl⟩ (fun | x28, a29, _, ⟨j30, rfl⟩ => ⟨[.sh ((eT eI) a), .sh ((eT eI) b), .ow (List.map eI a29), .sh (eI x28), .no], rfl, (rs_last (rs_x (x_appG (e := eI) (xs := a29) rfl (re_dOp1 (re_bindG (re_frzN (re_bindG (re_dRng (re_bindP (rv_dOp2 (rv_bind (rv_var rfl) (rv_bind rv_ret (rv_lift (y := (eI (x28 + 1))) rfl)))) (re_lift op_rng))) fun c31 => (re_compF (e := eI) (p := fun (x32 : Int) => M.bind (M.bind (pAt a x32) fun c33 => M.bind (pAt a x28) fun c34 => .ok (decide (c33 = c34))) fun c35 => if c35 = true then M.bind (pAt b x32) fun c36 => M.bind (pAt b x28) fun c37 => .ok (decide (c36 = c37)) else .ok false) (f := fun (x32 : Int) => .ok x32) ([.sh ((eT eI) a), .sh ((eT eI) b), .ow (List.map eI a29), .sh (eI x28), .no]) rfl rfl rfl (fun x32 => ⟨[.sh ((eT eI) a), .sh ((eT eI) b), .ow (List.map eI a29), .sh (eI x28), .sh (eI x32)], [.sh ((eT eI) a), .sh ((eT eI) b), .ow (List.map eI a29), .sh (eI x28), .sh (eI x32)], [.sh ((eT eI) a), .sh ((eT eI) b), .ow (List.map eI a29), .sh (eI x28), .sh (eI x32)], rfl, (re_dAnd (re_bindG (re_tst (re_dOp2 (re_bindG (re_dOp2n (re_bindP (rv_rd rfl) (re_bindP (rv_var rfl) (re_bindP (rv_rd rfl) (re_lift op_atT))))) fun c33 => (re_bindG (re_dOp2n (re_bindP (rv_rd rfl) (re_bindP (rv_var rfl) (re_bindP (rv_rd rfl) (re_lift op_atT))))) fun c34 => (re_rv (w := eB) (rv_lift (eq_py pyI (x := c33) (y := c34)))))))) fun c35 => (re_ite (fun _ => (re_tst (re_dOp2 (re_bindG (re_dOp2n (re_bindP (rv_rd rfl) (re_bindP (rv_var rfl) (re_bindP (rv_rd rfl) (re_lift op_atT))))) fun c36 => (re_bindG (re_dOp2n (re_bindP (rv_rd rfl) (re_bindP (rv_var rfl) (re_bindP (rv_rd rfl) (re_lift op_atT))))) fun c37 => (re_rv (w := eB) (rv_lift (eq_py pyI (x := c36) (y := c37))))))))) (fun _ => re_rv rv_ret)))), (re_rv (w := eI) (rv_var rfl)), rfl, rfl⟩)))) fun c38 => (re_lift op_minL))) rfl) fun c39 => rs_st ([.sh ((eT eI) a), .sh ((eT eI) b), .ow (List.map eI c39), .sh (eI x28), .no]) rfl (rs_end ⟨rfl, (some (eI x28)), rfl⟩)))⟩) (fun | a41, _, ⟨j42, rfl⟩ => (rs_last (rs_bindP (rv_dOp1n (rv_bind (rv_rdO rfl) (rv_lift (y := ((eT eI) a41)) rfl))) (rs_ret (.inl rfl))))))))))

def P_refines (a : (List Int)) (b : (List Int)) : M Bool := M.bind (M.bind (M.bind (pRng (a.length : Int)) fun c1 => pMap (fun (x2 : Int) => M.bind (pAt b x2) fun c4 => M.bind (M.bind (pAt a x2) fun c5 => pAt b c5) fun c6 => .ok (decide (c4 = c6))) c1) fun c7 => .ok (c7.all id)) fun c8 => .ok c8
theorem S_refines (a : (List Int)) (b : (List Int)) : DM (d_refines [(eT eI) a, (eT eI) b]) (P_refines a b) eB := fn_F rfl (show RS true (sRet (dOp1 opAll (dFrz (dComp [2] (.nm 2) (dRng (dOp1n opLen 0)) dYes (dOp2 opEq (dOp2n opIx 1 (dVar 2)) (dOp2n opIx 1 (dOp2n opIx 0 (dVar 2)))))))) [.sh ((eT eI) a), .sh ((eT eI) b), .no] (P_refines a b) (Kfn eB) from
  (rs_last (rs_bindG (re_dOp1 (re_bindG (re_frzN (re_bindG (re_dRng (re_bindP (rv_dOp1n (rv_bind (rv_rd rfl) (rv_lift op_lenT))) (re_lift op_rng))) fun c1 => (re_compM (e := eI) (f := fun (x2 : Int) => M.bind (pAt b x2) fun c4 => M.bind (M.bind (pAt a x2) fun c5 => pAt b c5) fun c6 => .ok (decide (c4 = c6))) ([.sh ((eT eI) a), .sh ((eT eI) b), .no]) rfl rfl rfl (fun x2 => ⟨[.sh ((eT eI) a), .sh ((eT eI) b), .sh (eI x2)], [.sh ((eT eI) a), .sh ((eT eI) b), .sh (eI x2)], rfl, (re_dOp2 (re_bindG (re_dOp2n (re_bindP (rv_rd rfl) (re_bindP (rv_var rfl) (re_bindP (rv_rd rfl) (re_lift op_atT))))) fun c4 => (re_bindG (re_dOp2n (re_bindP (rv_rd rfl) (re_bindG (re_dOp2n (re_bindP (rv_rd rfl) (re_bindP (rv_var rfl) (re_bindP (rv_rd rfl) (re_lift op_atT))))) fun c5 => (re_bindP (rv_rd rfl) (re_lift op_atT))))) fun c6 => (re_rv (w := eB) (rv_lift (eq_py pyI (x := c4) (y := c6))))))), rfl, rfl⟩)))) fun c7 => (re_rv (w := eB) (rv_lift op_all)))) fun c8 => (rs_ret (.inl rfl)))))

def P_class_sets (classes : (List Int)) : M (List (List Int)) := M.bind (M.bind (pRng (classes.length : Int)) fun c1 => pFil (fun (x2 : Int) => M.bind (pAt classes x2) fun c3 => .ok (decide (c3 = x2))) (fun (x2 : Int) => .ok x2) c1) fun c4 => M.bind (pMap (fun (x5 : Int) => M.bind (pRng (classes.length : Int)) fun c6 => pFil (fun (x7 : Int) => M.bind (pAt classes x7) fun c8 => .ok (decide (c8 = x5))) (fun (x7 : Int) => .ok x7) c6) c4) fun c11 => .ok c11
theorem S_class_sets (classes : (List Int)) : DM (d_class_sets [(eT eI) classes]) (P_class_sets classes) (eT (eT eI)) := fn_F rfl (show RS true (sSeq (sOwn 1 (dComp [2] (.nm 2) (dRng (dOp1n opLen 0)) (dTst (dOp2 opEq (dOp2n opIx 0 (dVar 2)) (dVar 2))) (dVar 2))) (sRet (dOp1 opTuple (dFrz (dComp [2] (.nm 2) (dItems (dVar 1)) dYes (dOp1 opTuple (dFrz (dComp [3] (.nm 3) (dRng (dOp1n opLen 0)) (dTst (dOp2 opEq (dOp2n opIx 0 (dVar 3)) (dVar 2))) (dVar 3))))))))) [.sh ((eT eI) classes), .no, .no, .no] (P_class_sets classes) (Kfn (eT (eT eI))) from
  (rs_bindG (re_bindG (re_dRng (re_bindP (rv_dOp1n (rv_bind (rv_rd rfl) (rv_lift op_lenT))) (re_lift op_rng))) fun c1 => (re_compF (e := eI) (p := fun (x2 : Int) => M.bind (pAt classes x2) fun c3 => .ok (decide (c3 = x2))) (f := fun (x2 : Int) => .ok x2) ([.sh ((eT eI) classes), .no, .no, .no]) rfl rfl rfl (fun x2 => ⟨[.sh ((eT eI) classes), .no, .sh (eI x2), .no], [.sh ((eT eI) classes), .no, .sh (eI x2), .no], [.sh ((eT eI) classes), .no, .sh (eI x2), .no], rfl, (re_tst (re_dOp2 (re_bindG (re_dOp2n (re_bindP (rv_rd rfl) (re_bindP (rv_var rfl) (re_bindP (rv_rd rfl) (re_lift op_atT))))) fun c3 => (re_bindP (rv_var rfl) (re_rv (w := eB) (rv_lift (eq_py pyI (x := c3) (y := x2)))))))), (re_rv (w := eI) (rv_var rfl)), rfl, rfl⟩))) fun c4 => (rs_put (st1 := [.sh ((eT eI) classes), .ow (List.map eI c4), .no, .no]) rfl (rs_last (rs_bindG (re_dOp1 (re_tail (w := (eT (eT eI))) (re_frzN (re_bindP (rv_dItems (rv_bind (rv_frz rfl) (rv_lift (y := ((List.map eI) c4)) rfl))) (re_compM (e := eI) (f := fun (x5 : Int) => M.bind (pRng (classes.length : Int)) fun c6 => pFil (fun (x7 : Int) => M.bind (pAt classes x7) fun c8 => .ok (decide (c8 = x5))) (fun (x7 : Int) => .ok x7) c6) ([.sh ((eT eI) classes), .sh ((eL eI) c4), .no, .no]) rfl rfl rfl (fun x5 => ⟨[.sh ((eT eI) classes), .sh ((eL eI) c4), .sh (eI x5), .no], [.sh ((eT eI) classes), .sh ((eL eI) c4), .sh (eI x5), .no], rfl, (re_dOp1 (re_tail (w := (eT eI)) (re_frzN (re_bindG (re_dRng (re_bindP (rv_dOp1n (rv_bind (rv_rd rfl) (rv_lift op_lenT))) (re_lift op_rng))) fun c6 => (re_compF (e := eI) (p := fun (x7 : Int) => M.bind (pAt classes x7) fun c8 => .ok (decide (c8 = x5))) (f := fun (x7 : Int) => .ok x7) ([.sh ((eT eI) classes), .sh ((eL eI) c4), .sh (eI x5), .no]) rfl rfl rfl (fun x7 => ⟨[.sh ((eT eI) classes), .sh ((eL eI) c4), .sh (eI x5), .sh (eI x7)], [.sh ((eT eI) classes), .sh ((eL eI) c4), .sh (eI x5), .sh (eI x7)], [.sh ((eT eI) classes), .sh ((eL eI) c4), .sh (eI x5), .sh (eI x7)], rfl, (re_tst (re_dOp2 (re_bindG (re_dOp2n (re_bindP (rv_rd rfl) (re_bindP (rv_var rfl) (re_bindP (rv_rd rfl) (re_lift op_atT))))) fun c8 => (re_bindP (rv_var rfl) (re_rv (w := eB) (rv_lift (eq_py pyI (x := c8) (y := x5)))))))), (re_rv (w := eI) (rv_var rfl)), rfl, rfl⟩)))) fun c9 => (rv_lift (y := ((eT eI) c9)) rfl))), rfl, rfl⟩)))) fun c10 => (rv_lift (y := ((eT (eT eI)) c10)) rfl))) fun c11 => (rs_ret (.inl rfl)))))))

def P_by_keys (keys : (List D)) : M (List D) := M.bind (pMap (fun (x1 : D) => oM (opIndex ((eL eD) keys) x1)) keys) fun c3 => .ok c3
theorem S_by_keys (keys : (List D)) : DM (d_by_keys [(eL eD) keys]) (P_by_keys keys) (eT eD) := fn_F rfl (show RS true (sSeq (sOwn 1 (dN1n nList 0)) (sRet (dOp1 opTuple (dFrz (dComp [2] (.nm 2) (dItems (dVar 1)) dYes (dIndexN 1 (dVar 2))))))) [.sh ((eL eD) keys), .no, .no] (P_by_keys keys) (Kfn (eT eD)) from
  (rs_bindP (rv_dN1n (rv_bind (rv_rd rfl) (rv_lift (y := ((List.map eD) keys)) rfl))) (rs_put (st1 := [.sh ((eL eD) keys), .ow (List.map eD keys), .no]) rfl (rs_last (rs_bindG (re_dOp1 (re_tail (w := (eT eD)) (re_frzN (re_bindP (rv_dItems (rv_bind (rv_frz rfl) (rv_lift (y := ((List.map eD) keys)) rfl))) (re_compM (e := eD) (f := fun (x1 : D) => oM (opIndex ((eL eD) keys) x1)) ([.sh ((eL eD) keys), .sh ((eL eD) keys), .no]) rfl rfl rfl (fun x1 => ⟨[.sh ((eL eD) keys), .sh ((eL eD) keys), .sh (eD x1)], [.sh ((eL eD) keys), .sh ((eL eD) keys), .sh (eD x1)], rfl, (re_dIndexN (re_bindP (rv_rd rfl) (re_bindP (rv_lift rfl) (re_bindP (rv_var rfl) (re_bindP (rv_rd rfl) (by first | exact re_lift op_D | exact re_lift op_DL)))))), rfl, rfl⟩)))) fun c2 => (rv_lift (y := ((eT eD) c2)) rfl))) fun c3 => (rs_ret (.inl rfl)))))))

def P_is_integer (value : Int) : M Bool := .ok (true && (!false))
theorem S_is_integer (value : Int) : DM (d_is_integer [eI value]) (P_is_integer value) eB := fn_F rfl (show RS true (sRet (dIf (dTst (dOp1 (opIsi "int") (dVar 0))) (dVal (dNot (dTst (dOp1 (opIsi "bool") (dVar 0))))) (dC (.bl false)))) [.sh (eI value)] (P_is_integer value) (Kfn eB) from
  (rs_last (rs_bindP (rv_dIf (rv_bind (rv_tst (rv_dOp1 (rv_bind (rv_var rfl) (rv_lift (y := (eB true)) rfl)))) (rv_andE fun _ => (rv_dVal (rv_bind (rv_dNot (rv_bind (rv_tst (rv_dOp1 (rv_bind (rv_var rfl) (rv_lift (y := (eB false)) rfl)))) rv_ret)) rv_ret))))) (rs_ret (.inl rfl)))))

def P_is_equivalence (value : (List Int)) (n : Int) : M Bool := if ((!true) || (!decide ((value.length : Int) = n))) = true then .ok false else M.bind (pRng n) fun c1 => M.bind (pfor (fun (x16 : Int) (a17 : Unit) => M.bind (M.bind (M.bind (M.bind (pAt value x16) fun c19 => P_is_integer c19) fun c20 => .ok (!c20)) fun c21 => if c21 = true then .ok true else M.bind (M.bind (pAt value x16) fun c22 => .ok (decide (c22 < 0))) fun c23 => if c23 = true then .ok true else M.bind (pAt value x16) fun c24 => .ok (decide (c24 > x16))) fun c25 => if c25 = true then .ok (.ret false) else M.bind (M.bind (M.bind (pAt value x16) fun c26 => pAt value c26) fun c27 => M.bind (pAt value x16) fun c28 => .ok (!decide (c27 = c28))) fun c29 => if c29 = true then .ok (.ret false) else .ok (.nx ())) c1 ()) fun r => pK r (fun (a30 : Unit) => .ok true) (fun q => q)
theorem S_is_equivalence (value : (List Int)) (n : Int) : DM (d_is_equivalence [(eT eI) value, eI n]) (P_is_equivalence value n) eB := fn_F rfl (show RS true (sSeq (sIf (dOr (dNot (dTst (dOp1 (opIsi "tuple") (dVar 0)))) (dTst (dOp2 opNe (dOp1n opLen 0) (dVar 1)))) (sRet (dC (.bl false))) sPass) (sSeq (sFor (.nm 2) (dRng (dVar 1)) (sSeq (sIf (dOr (dNot (dTst (dCall d_is_integer (dCons (dOp2n opIx 0 (dVar 2)) dNil)))) (dOr (dTst (dOp2 opLt (dOp2n opIx 0 (dVar 2)) (dC (.int 0)))) (dTst (dOp2 opGt (dOp2n opIx 0 (dVar 2)) (dVar 2))))) (sRet (dC (.bl false))) sPass) (sIf (dTst (dOp2 opNe (dOp2n opIx 0 (dOp2n opIx 0 (dVar 2))) (dOp2n opIx 0 (dVar 2)))) (sRet (dC (.bl false))) sPass))) (sRet (dC (.bl true))))) [.sh ((eT eI) value), .sh (eI n), .no] (P_is_equivalence value n) (Kfn eB) from
  (rs_bindP (rv_dOr (rv_bind (rv_dNot (rv_bind (rv_tst (rv_dOp1 (rv_bind (rv_var rfl) (rv_lift (y := (eB true)) rfl)))) rv_ret)) (rv_or fun _ => (rv_tst (rv_dOp2 (rv_bind (rv_dOp1n (rv_bind (rv_rd rfl) (rv_lift op_lenT))) (rv_bind (rv_var rfl) (rv_lift (ne_py pyI (x := (value.length : Int)) (y := n)))))))))) (rs_ite (fun _ => (rs_bindP rv_ret (rs_ret (.inl rfl)))) (fun _ => (rs_nx (rs_bindG (re_dRng (re_bindP (rv_var rfl) (re_lift op_rng))) fun c1 => (rs_for1 (e := eI) (xs := c1) (a := ()) (f := fun (x16 : Int) (a17 : Unit) => M.bind (M.bind (M.bind (M.bind (pAt value x16) fun c19 => P_is_integer c19) fun c20 => .ok (!c20)) fun c21 => if c21 = true then .ok true else M.bind (M.bind (pAt value x16) fun c22 => .ok (decide (c22 < 0))) fun c23 => if c23 = true then .ok true else M.bind (pAt value x16) fun c24 => .ok (decide (c24 > x16))) fun c25 => if c25 = true then .ok (.ret false) else M.bind (M.bind (M.bind (pAt value x16) fun c26 => pAt value c26) fun c27 => M.bind (pAt value x16) fun c28 => .ok (!decide (c27 = c28))) fun c29 => if c29 = true then .ok (.ret false) else .ok (.nx ())) (h := (fun q => q)) (fun (a32 : Unit) (st : DSt) => ∃ (j33 : (Option D)), st = [.sh ((eT eI) value), .sh (eI n), jk j33]) ⟨none, rfl⟩ (fun | x16, a17, _, ⟨j18, rfl⟩ => ⟨[.sh ((eT eI) value), .sh (eI n), .sh (eI x16)], rfl, (rs_bindG (re_dOr (re_bindG (re_dNot (re_bindG (re_tst (re_dCall (re_consG (re_dOp2n (re_bindP (rv_rd rfl) (re_bindP (rv_var rfl) (re_bindP (rv_rd rfl) (re_lift op_atT))))) fun c19 => (re_nil (re_liftM (S_is_integer c19)))))) fun c20 => (re_rv (w := (fun b : Bool => b)) rv_ret))) fun c21 => (re_ite (fun _ => re_rv rv_ret) (fun _ => (re_dOr (re_bindG (re_tst (re_dOp2 (re_bindG (re_dOp2n (re_bindP (rv_rd rfl) (re_bindP (rv_var rfl) (re_bindP (rv_rd rfl) (re_lift op_atT))))) fun c22 => (re_bindP rv_ret (re_rv (w := eB) (rv_lift (y := (eB (decide (c22 < 0)))) rfl)))))) fun c23 => (re_ite (fun _ => re_rv rv_ret) (fun _ => (re_tst (re_dOp2 (re_bindG (re_dOp2n (re_bindP (rv_rd rfl) (re_bindP (rv_var rfl) (re_bindP (rv_rd rfl) (re_lift op_atT))))) fun c24 => (re_bindP (rv_var rfl) (re_rv (w := eB) (rv_lift (y := (eB (decide (c24 > x16)))) rfl)))))))))))))) fun c25 => (rs_ite (fun _ => (rs_bindP rv_ret (rs_ret ⟨⟨_, rfl⟩, (.inl rfl)⟩))) (fun _ => (rs_nx (rs_last (rs_bindG (re_tst (re_dOp2 (re_bindG (re_dOp2n (re_bindP (rv_rd rfl) (re_bindG (re_dOp2n (re_bindP (rv_rd rfl) (re_bindP (rv_var rfl) (re_bindP (rv_rd rfl) (re_lift op_atT))))) fun c26 => (re_bindP (rv_rd rfl) (re_lift op_atT))))) fun c27 => (re_bindG (re_dOp2n (re_bindP (rv_rd rfl) (re_bindP (rv_var rfl) (re_bindP (rv_rd rfl) (re_lift op_atT))))) fun c28 => (re_rv (w := eB) (rv_lift (ne_py pyI (x := c27) (y := c28)))))))) fun c29 => (rs_ite (fun _ => (rs_bindP rv_ret (rs_ret ⟨⟨_, rfl⟩, (.inl rfl)⟩))) (fun _ => (rs_nx (rs_end ⟨rfl, (some (eI x16)), rfl⟩))))))))))⟩) (fun | a30, _, ⟨j31, rfl⟩ => (rs_last (rs_bindP rv_ret (rs_ret (.inl rfl))))))))))))

def P_is_integer_2 (value : D) : M Bool := M.bind (M.bind (pIsi "int" value) fun c1 => if c1 = true then M.bind (pIsi "bool" value) fun c4 => .ok (!c4) else .ok false) fun c6 => .ok c6
theorem S_is_integer_2 (value : D) : DM (d_is_integer [eD value]) (P_is_integer_2 value) eB := fn_F rfl (show RS true (sRet (dIf (dTst (dOp1 (opIsi "int") (dVar 0))) (dVal (dNot (dTst (dOp1 (opIsi "bool") (dVar 0))))) (dC (.bl false)))) [.sh (eD value)] (P_is_integer_2 value) (Kfn eB) from
  (rs_last (rs_bindG (re_dIf (re_bindG (re_tst (re_dOp1 (re_bindP (rv_var rfl) (re_lift op_isiD)))) fun c1 => (re_ite (fun _ => (re_dVal (re_tail (w := eB) (re_dNot (re_bindG (re_tst (re_dOp1 (re_bindP (rv_var rfl) (re_lift op_isiD)))) fun c4 => (re_rv (w := (fun b : Bool => b)) rv_ret))) fun c5 => rv_ret))) (fun _ => (re_rv (w := eB) rv_ret))))) fun c6 => (rs_ret (.inl rfl)))))

def P_is_equivalence_2 (value : D) (n : Int) : M Bool := M.bind (M.bind (M.bind (pIsi "tuple" value) fun c1 => .ok (!c1)) fun c2 => if c2 = true then .ok true else M.bind (pLenD value) fun c3 => .ok (!decide (c3 = n))) fun c4 => if c4 = true then .ok false else M.bind (pRng n) fun c5 => M.bind (pfor (fun (x20 : Int) (a21 : Unit) => M.bind (M.bind (M.bind (M.bind (oM (opIx value (eI x20))) fun c23 => P_is_integer_2 c23) fun c24 => .ok (!c24)) fun c25 => if c25 = true then .ok true else M.bind (M.bind (oM (opIx value (eI x20))) fun c26 => pLtD c26 (eI 0)) fun c27 => if c27 = true then .ok true else M.bind (oM (opIx value (eI x20))) fun c28 => pGtD c28 (eI x20)) fun c29 => if c29 = true then .ok (.ret false) else M.bind (M.bind (M.bind (oM (opIx value (eI x20))) fun c30 => oM (opIx value c30)) fun c31 => M.bind (oM (opIx value (eI x20))) fun c32 => pNe c31 c32) fun c33 => if c33 = true then .ok (.ret false) else .ok (.nx ())) c5 ()) fun r => pK r (fun (a34 : Unit) => .ok true) (fun q => q)
theorem S_is_equivalence_2 (value : D) (n : Int) : DM (d_is_equivalence [eD value, eI n]) (P_is_equivalence_2 value n) eB := fn_F rfl (show RS true (sSeq (sIf (dOr (dNot (dTst (dOp1 (opIsi "tuple") (dVar 0)))) (dTst (dOp2 opNe (dOp1n opLen 0) (dVar 1)))) (sRet (dC (.bl false))) sPass) (sSeq (sFor (.nm 2) (dRng (dVar 1)) (sSeq (sIf (dOr (dNot (dTst (dCall d_is_integer (dCons (dOp2n opIx 0 (dVar 2)) dNil)))) (dOr (dTst (dOp2 opLt (dOp2n opIx 0 (dVar 2)) (dC (.int 0)))) (dTst (dOp2 opGt (dOp2n opIx 0 (dVar 2)) (dVar 2))))) (sRet (dC (.bl false))) sPass) (sIf (dTst (dOp2 opNe (dOp2n opIx 0 (dOp2n opIx 0 (dVar 2))) (dOp2n opIx 0 (dVar 2)))) (sRet (dC (.bl false))) sPass))) (sRet (dC (.bl true))))) [.sh (eD value), .sh (eI n), .no] (P_is_equivalence_2 value n) (Kfn eB) from
  (rs_bindG (re_dOr (re_bindG (re_dNot (re_bindG (re_tst (re_dOp1 (re_bindP (rv_var rfl) (re_lift op_isiD)))) fun c1 => (re_rv (w := (fun b : Bool => b)) rv_ret))) fun c2 => (re_ite (fun _ => re_rv rv_ret) (fun _ => (re_tst (re_dOp2 (re_bindG (re_dOp1n (re_bindP (rv_rd rfl) (re_lift op_lenD))) fun c3 => (re_bindP (rv_var rfl) (re_rv (w := eB) (rv_lift (ne_py pyI (x := c3) (y := n)))))))))))) fun c4 => (rs_ite (fun _ => (rs_bindP rv_ret (rs_ret (.inl rfl)))) (fun _ => (rs_nx (rs_bindG (re_dRng (re_bindP (rv_var rfl) (re_lift op_rng))) fun c5 => (rs_for1 (e := eI) (xs := c5) (a := ()) (f := fun (x20 : Int) (a21 : Unit) => M.bind (M.bind (M.bind (M.bind (oM (opIx value (eI x20))) fun c23 => P_is_integer_2 c23) fun c24 => .ok (!c24)) fun c25 => if c25 = true then .ok true else M.bind (M.bind (oM (opIx value (eI x20))) fun c26 => pLtD c26 (eI 0)) fun c27 => if c27 = true then .ok true else M.bind (oM (opIx value (eI x20))) fun c28 => pGtD c28 (eI x20)) fun c29 => if c29 = true then .ok (.ret false) else M.bind (M.bind (M.bind (oM (opIx value (eI x20))) fun c30 => oM (opIx value c30)) fun c31 => M.bind (oM (opIx value (eI x20))) fun c32 => pNe c31 c32) fun c33 => if c33 = true then .ok (.ret false) else .ok (.nx ())) (h := (fun q => q)) (fun (a36 : Unit) (st : DSt) => ∃ (j37 : (Option D)), st = [.sh (eD value), .sh (eI n), jk j37]) ⟨none, rfl⟩ (fun | x20, a21, _, ⟨j22, rfl⟩ => ⟨[.sh (eD value), .sh (eI n), .sh (eI x20)], rfl, (rs_bindG (re_dOr (re_bindG (re_dNot (re_bindG (re_tst (re_dCall (re_consG (re_dOp2n (re_bindP (rv_rd rfl) (re_bindP (rv_var rfl) (re_bindP (rv_rd rfl) (by first | exact re_lift op_D | exact re_lift op_DL))))) fun c23 => (re_nil (re_liftM (S_is_integer_2 c23)))))) fun c24 => (re_rv (w := (fun b : Bool => b)) rv_ret))) fun c25 => (re_ite (fun _ => re_rv rv_ret) (fun _ => (re_dOr (re_bindG (re_tst (re_dOp2 (re_bindG (re_dOp2n (re_bindP (rv_rd rfl) (re_bindP (rv_var rfl) (re_bindP (rv_rd rfl) (by first | exact re_lift op_D | exact re_lift op_DL))))) fun c26 => (re_bindP rv_ret (re_lift op_ltD))))) fun c27 => (re_ite (fun _ => re_rv rv_ret) (fun _ => (re_tst (re_dOp2 (re_bindG (re_dOp2n (re_bindP (rv_rd rfl) (re_bindP (rv_var rfl) (re_bindP (rv_rd rfl) (by first | exact re_lift op_D | exact re_lift op_DL))))) fun c28 => (re_bindP (rv_var rfl) (re_lift op_gtD))))))))))))) fun c29 => (rs_ite (fun _ => (rs_bindP rv_ret (rs_ret ⟨⟨_, rfl⟩, (.inl rfl)⟩))) (fun _ => (rs_nx (rs_last (rs_bindG (re_tst (re_dOp2 (re_bindG (re_dOp2n (re_bindP (rv_rd rfl) (re_bindG (re_dOp2n (re_bindP (rv_rd rfl) (re_bindP (rv_var rfl) (re_bindP (rv_rd rfl) (by first | exact re_lift op_D | exact re_lift op_DL))))) fun c30 => (re_bindP (rv_rd rfl) (by first | exact re_lift op_D | exact re_lift op_DL))))) fun c31 => (re_bindG (re_dOp2n (re_bindP (rv_rd rfl) (re_bindP (rv_var rfl) (re_bindP (rv_rd rfl) (by first | exact re_lift op_D | exact re_lift op_DL))))) fun c32 => (re_lift op_neD))))) fun c33 => (rs_ite (fun _ => (rs_bindP rv_ret (rs_ret ⟨⟨_, rfl⟩, (.inl rfl)⟩))) (fun _ => (rs_nx (rs_end ⟨rfl, (some (eI x20)), rfl⟩))))))))))⟩) (fun | a34, _, ⟨j35, rfl⟩ => (rs_last (rs_bindP rv_ret (rs_ret (.inl rfl))))))))))))

def P_law (script : (List Int)) : M Bool := M.bind (pNX (P__law_state script)) fun c1 => M.bind (P__law_take c1 7) fun c3 => M.bind (P__law_drawn c3.2 c3.1) fun c6 => M.bind (P__law_drawn c6.2 c3.1) fun c9 => M.bind (P__law_near c6.1 c3.1) fun c11 => M.bind (P__law_near c9.1 c3.1) fun c12 => M.bind (M.bind (M.bind (P_classes_of c6.1 c3.1) fun c13 => .ok (!decide (c13 = c11))) fun c14 => if c14 = true then .ok true else M.bind (M.bind (P_classes_of_2 c9.1 c3.1) fun c15 => .ok (!decide (c15 = c12))) fun c16 => if c16 = true then .ok true else M.bind (P_joined c11 c12) fun c18 => M.bind (M.bind (pCat c6.1 c9.1) fun c19 => P__law_near c19 c3.1) fun c20 => .ok (!decide (c18 = c20))) fun c21 => if c21 = true then .ok false else M.bind (M.bind (pRng c3.1) fun c22 => pMap (fun (x23 : Int) => M.bind (M.bind (pRng c3.1) fun c24 => pFil (fun (x25 : Int) => M.bind (M.bind (pAt c11 x23) fun c26 => M.bind (pAt c11 x25) fun c27 => .ok (decide (c26 = c27))) fun c28 => if c28 = true then M.bind (pAt c12 x23) fun c29 => M.bind (pAt c12 x25) fun c30 => .ok (decide (c29 = c30)) else .ok false) (fun (x25 : Int) => .ok x25) c24) fun c31 => pMin c31) c22) fun c33 => M.bind (M.bind (M.bind (P_meet c11 c12) fun c34 => .ok (!decide (c34 = c33))) fun c35 => if c35 = true then .ok true else M.bind (M.bind (P_refines c33 c11) fun c36 => .ok (!decide (c36 = true))) fun c37 => if c37 = true then .ok true else M.bind (M.bind (P_joined c11 c12) fun c38 => P_refines c11 c38) fun c39 => .ok (!decide (c39 = true))) fun c40 => if c40 = true then .ok false else M.bind (M.bind (M.bind (M.bind (pRng c3.1) fun c41 => pFil (fun (x42 : Int) => M.bind (M.bind (pAt c11 x42) fun c43 => pAt c12 c43) fun c44 => M.bind (pAt c12 x42) fun c45 => .ok (!decide (c44 = c45))) (fun (x42 : Int) => .ok x42) c41) fun c46 => .ok (c46.length : Int)) fun c47 => .ok (decide (c47 = 0))) fun c48 => M.bind (P_refines c11 c12) fun c49 => if ((!true) || (!decide (c49 = c48))) = true then .ok false else M.bind (M.bind (pRng c3.1) fun c50 => pFil (fun (x51 : Int) => M.bind (pAt c11 x51) fun c52 => .ok (decide (c52 = x51))) (fun (x51 : Int) => M.bind (pRng c3.1) fun c53 => pFil (fun (x54 : Int) => M.bind (pAt c11 x54) fun c55 => .ok (decide (c55 = x51))) (fun (x54 : Int) => .ok x54) c53) c50) fun c57 => M.bind (M.bind (pRng c3.1) fun c58 => pMapS (fun (x59 : Int) (r60 : List Int) => M.bind (P__law_take r60 4) fun c63 => M.bind (pAt [(eS ("x" : Str)), (eI 5), ((eT eI) [1]), (eS ("y" : Str))] c63.1) fun c64 => .ok (c64, c63.2)) c58 c9.2) fun c65 => M.bind (M.bind (P_class_sets c11) fun c87 => .ok (!decide (c87 = c57))) fun c88 => if c88 = true then .ok false else M.bind (M.bind (P_by_keys c65.1) fun c97 => M.bind (M.bind (pRng c3.1) fun c98 => pMap (fun (x99 : Int) => M.bind (M.bind (pRng c3.1) fun c100 => pFil (fun (x101 : Int) => M.bind (pAt c65.1 x101) fun c102 => M.bind (pAt c65.1 x99) fun c103 => pEq c102 c103) (fun (x101 : Int) => .ok x101) c100) fun c104 => pMin c104) c98) fun c106 => pNe ((eT eD) c97) ((eT eI) c106)) fun c107 => if c107 = true then .ok false else M.bind (M.bind (pRng 3) fun c108 => pMapS (fun (x109 : Int) (r110 : List Int) => P__law_take r110 4) c108 c65.2) fun c113 => M.bind (M.bind (M.bind (pAt c113.1 0) fun c115 => .ok (decide (c115 = 0))) fun c116 => if c116 = true then M.bind (M.bind (pAt c113.1 1) fun c135 => .ok (decide (c135 < 2))) fun c136 => if c136 = true then M.bind (M.bind (pAt c113.1 2) fun c145 => .ok (decide (c145 < 3))) fun c146 => if c146 = true then M.bind (M.bind (pAt c113.1 2) fun c150 => pAt c113.1 c150) fun c151 => M.bind (pAt c113.1 2) fun c152 => .ok (decide (c151 = c152)) else .ok false else .ok false else .ok false) fun c153 => M.bind (P_is_equivalence c113.1 3) fun c154 => M.bind (if (!true) = true then .ok true else if (!decide (c154 = c153)) = true then .ok true else M.bind (P_is_equivalence c11 c3.1) fun c155 => .ok (!decide (c155 = true))) fun c156 => if c156 = true then .ok false else M.bind (M.bind (M.bind (pCat c11 [0]) fun c159 => .ok ((eT eI) c159)) fun c160 => M.bind (M.bind (pCat c11 [(c3.1 + 1)]) fun c161 => .ok ((eT eI) c161)) fun c162 => .ok [((eL eI) c11), c160, c162, (eU ()), (eI 0), (eS ("0" : Str))]) fun c164 => M.bind (pfor (fun (x170 : D) (a171 : Unit) => M.bind (M.bind (P_is_equivalence_2 x170 c3.1) fun c173 => .ok (!decide (c173 = false))) fun c174 => if c174 = true then .ok (.ret false) else .ok (.nx ())) c164 ()) fun r => pK r (fun (a175 : Unit) => M.bind (pfor (fun (x182 : D) (a183 : Unit) => M.bind (M.bind (P_is_equivalence_2 x182 2) fun c185 => .ok (!decide (c185 = false))) fun c186 => if c186 = true then .ok (.ret false) else .ok (.nx ())) [((eP2 eI eB) (0, true)), ((eP2 eI eU) (0, ())), ((eP2 eI eI) (0, -1)), ((eP2 eI eI) (1, 1)), ((eP2 eI eI) (0, 2)), ((eT eI) [0]), ((eL eI) [0, 1])] ()) fun r => pK r (fun (a187 : Unit) => M.bind (pfor (fun (x194 : D) (a195 : Unit) => M.bind (M.bind (P_is_integer_2 x194) fun c197 => .ok (!decide (c197 = false))) fun c198 => if c198 = true then .ok (.ret false) else .ok (.nx ())) [(eB true), (eB false), (eU ()), (eS ("1" : Str)), ((eT eI) [1]), ((eL eI) [1])] ()) fun r => pK r (fun (a199 : Unit) => M.bind (M.bind (P_is_integer (c3.1 - 3)) fun c201 => .ok (decide (c201 = true))) fun c202 => .ok c202) (fun q => q)) (fun q => q)) (fun q => q)
theorem S_law (script : (List Int)) : D0 (d_law [D.scr script]) (P_law script) eB := fn_F0 rfl (show RS false (sSeq (sOwn 1 (dCallO d__law_state (dCons (dVar 0) dNil))) (sSeq (sSet 2 (dCallR d__law_take 1 (dCons (dC (.int 7)) dNil))) (sSeq (sSet 3 (dCallR d__law_drawn 1 (dCons (dVar 2) dNil))) (sSeq (sSet 4 (dCallR d__law_drawn 1 (dCons (dVar 2) dNil))) (sSeq (sSet 5 (dCall d__law_near (dCons (dVar 3) (dCons (dVar 2) dNil)))) (sSeq (sSet 6 (dCall d__law_near (dCons (dVar 4) (dCons (dVar 2) dNil)))) (sSeq (sIf (dOr (dTst (dOp2 opNe (dCall d_classes_of (dCons (dVar 3) (dCons (dVar 2) dNil))) (dVar 5))) (dOr (dTst (dOp2 opNe (dCall d_classes_of (dCons (dOp1n opTuple 4) (dCons (dVar 2) dNil))) (dVar 6))) (dTst (dOp2 opNe (dCall d_joined (dCons (dVar 5) (dCons (dVar 6) dNil))) (dCall d__law_near (dCons (dOp2 opAdd (dVar 3) (dVar 4)) (dCons (dVar 2) dNil))))))) (sRet (dC (.bl false))) sPass) (sSeq (sSet 7 (dOp1 opTuple (dFrz (dComp [15] (.nm 15) (dRng (dVar 2)) dYes (dOp1 opMinA (dFrz (dComp [16] (.nm 16) (dRng (dVar 2)) (dAnd (dTst (dOp2 opEq (dOp2n opIx 5 (dVar 15)) (dOp2n opIx 5 (dVar 16)))) (dTst (dOp2 opEq (dOp2n opIx 6 (dVar 15)) (dOp2n opIx 6 (dVar 16))))) (dVar 16)))))))) (sSeq (sIf (dOr (dTst (dOp2 opNe (dCall d_meet (dCons (dVar 5) (dCons (dVar 6) dNil))) (dVar 7))) (dOr (dTst (dOp2 opIsNot (dCall d_refines (dCons (dVar 7) (dCons (dVar 5) dNil))) (dC (.bl true)))) (dTst (dOp2 opIsNot (dCall d_refines (dCons (dVar 5) (dCons (dCall d_joined (dCons (dVar 5) (dCons (dVar 6) dNil))) dNil))) (dC (.bl true)))))) (sRet (dC (.bl false))) sPass) (sSeq (sSet 8 (dOp2 opEq (dOp1 opLen (dFrz (dComp [15] (.nm 15) (dRng (dVar 2)) (dTst (dOp2 opNe (dOp2n opIx 6 (dOp2n opIx 5 (dVar 15))) (dOp2n opIx 6 (dVar 15)))) (dVar 15)))) (dC (.int 0)))) (sSeq (sSet 9 (dCall d_refines (dCons (dVar 5) (dCons (dVar 6) dNil)))) (sSeq (sIf (dOr (dNot (dTst (dOp1 (opIsi "bool") (dVar 9)))) (dTst (dOp2 opNe (dVar 9) (dVar 8)))) (sRet (dC (.bl false))) sPass) (sSeq (sOwn 10 (dComp [15] (.nm 15) (dRng (dVar 2)) (dTst (dOp2 opEq (dOp2n opIx 5 (dVar 15)) (dVar 15))) (dOp1 opTuple (dFrz (dComp [16] (.nm 16) (dRng (dVar 2)) (dTst (dOp2 opEq (dOp2n opIx 5 (dVar 16)) (dVar 15))) (dVar 16)))))) (sSeq (sOwn 11 (dComp [15] (.nm 15) (dRng (dVar 2)) dYes (dOp2 opIx (dFrz (dLst (dCons (dC (.str "x")) (dCons (dC (.int 5)) (dCons (dTup (dCons (dC (.int 1)) dNil)) (dCons (dC (.str "y")) dNil)))))) (dCallR d__law_take 1 (dCons (dC (.int 4)) dNil))))) (sSeq (sIf (dOr (dTst (dOp2 opNe (dCall d_class_sets (dCons (dVar 5) dNil)) (dOp1n opTuple 10))) (dTst (dOp2 opNe (dCall d_by_keys (dCons (dVar 11) dNil)) (dOp1 opTuple (dFrz (dComp [15] (.nm 15) (dRng (dVar 2)) dYes (dOp1 opMinA (dFrz (dComp [16] (.nm 16) (dRng (dVar 2)) (dTst (dOp2 opEq (dOp2n opIx 11 (dVar 16)) (dOp2n opIx 11 (dVar 15)))) (dVar 16)))))))))) (sRet (dC (.bl false))) sPass) (sSeq (sSet 12 (dOp1 opTuple (dFrz (dComp [15] (.nm 15) (dRng (dC (.int 3))) dYes (dCallR d__law_take 1 (dCons (dC (.int 4)) dNil)))))) (sSeq (sSet 13 (dIf (dTst (dOp2 opEq (dOp2n opIx 12 (dC (.int 0))) (dC (.int 0)))) (dIf (dTst (dOp2 opLt (dOp2n opIx 12 (dC (.int 1))) (dC (.int 2)))) (dIf (dTst (dOp2 opLt (dOp2n opIx 12 (dC (.int 2))) (dC (.int 3)))) (dOp2 opEq (dOp2n opIx 12 (dOp2n opIx 12 (dC (.int 2)))) (dOp2n opIx 12 (dC (.int 2)))) (dC (.bl false))) (dC (.bl false))) (dC (.bl false)))) (sSeq (sSet 9 (dCall d_is_equivalence (dCons (dVar 12) (dCons (dC (.int 3)) dNil)))) (sSeq (sIf (dOr (dNot (dTst (dOp1 (opIsi "bool") (dVar 9)))) (dOr (dTst (dOp2 opNe (dVar 9) (dVar 13))) (dTst (dOp2 opIsNot (dCall d_is_equivalence (dCons (dVar 5) (dCons (dVar 2) dNil))) (dC (.bl true)))))) (sRet (dC (.bl false))) sPass) (sSeq (sFor (.nm 14) (dItems (dFrz (dLst (dCons (dFrz (dN1n nList 5)) (dCons (dOp2 opAdd (dVar 5) (dTup (dCons (dC (.int 0)) dNil))) (dCons (dOp2 opAdd (dVar 5) (dTup (dCons (dOp2 opAdd (dVar 2) (dC (.int 1))) dNil))) (dCons (dC .non) (dCons (dC (.int 0)) (dCons (dC (.str "0")) dNil))))))))) (sIf (dTst (dOp2 opIsNot (dCall d_is_equivalence (dCons (dVar 14) (dCons (dVar 2) dNil))) (dC (.bl false)))) (sRet (dC (.bl false))) sPass)) (sSeq (sFor (.nm 14) (dItems (dFrz (dLst (dCons (dTup (dCons (dC (.int 0)) (dCons (dC (.bl true)) dNil))) (dCons (dTup (dCons (dC (.int 0)) (dCons (dC .non) dNil))) (dCons (dTup (dCons (dC (.int 0)) (dCons (dOp1 opNeg (dC (.int 1))) dNil))) (dCons (dTup (dCons (dC (.int 1)) (dCons (dC (.int 1)) dNil))) (dCons (dTup (dCons (dC (.int 0)) (dCons (dC (.int 2)) dNil))) (dCons (dTup (dCons (dC (.int 0)) dNil)) (dCons (dFrz (dLst (dCons (dC (.int 0)) (dCons (dC (.int 1)) dNil)))) dNil)))))))))) (sIf (dTst (dOp2 opIsNot (dCall d_is_equivalence (dCons (dVar 14) (dCons (dC (.int 2)) dNil))) (dC (.bl false)))) (sRet (dC (.bl false))) sPass)) (sSeq (sFor (.nm 14) (dItems (dFrz (dLst (dCons (dC (.bl true)) (dCons (dC (.bl false)) (dCons (dC .non) (dCons (dC (.str "1")) (dCons (dTup (dCons (dC (.int 1)) dNil)) (dCons (dFrz (dLst (dCons (dC (.int 1)) dNil))) dNil))))))))) (sIf (dTst (dOp2 opIsNot (dCall d_is_integer (dCons (dVar 14) dNil)) (dC (.bl false)))) (sRet (dC (.bl false))) sPass)) (sRet (dOp2 opIs (dCall d_is_integer (dCons (dOp2 opSub (dVar 2) (dC (.int 3))) dNil)) (dC (.bl true)))))))))))))))))))))))))) [.sh (D.scr script), .no, .no, .no, .no, .no, .no, .no, .no, .no, .no, .no, .no, .no, .no, .no, .no] (P_law script) (Kfn eB) from
  (rs_bindG (re_dCallO (re_consP (rv_var rfl) (re_nil (re_liftO (S__law_state script))))) fun c1 => (rs_put (st1 := [.sh (D.scr script), .ow (List.map eI c1), .no, .no, .no, .no, .no, .no, .no, .no, .no, .no, .no, .no, .no, .no, .no]) rfl (rs_bindS (fun (r4 : List Int) => [.sh (D.scr script), .ow (List.map eI r4), .no, .no, .no, .no, .no, .no, .no, .no, .no, .no, .no, .no, .no, .no, .no]) (rt_dCallR (rt_bindP (rv_ow rfl) (rt_consP rv_ret (rt_nil (rt_callO (S := fun r2 => [.sh (D.scr script), .ow (List.map eI r2), .no, .no, .no, .no, .no, .no, .no, .no, .no, .no, .no, .no, .no, .no, .no]) rfl (fun _ => rfl) (S__law_take c1 7)))))) fun c3 => (rs_put (st1 := [.sh (D.scr script), .ow (List.map eI c3.2), .sh (eI c3.1), .no, .no, .no, .no, .no, .no, .no, .no, .no, .no, .no, .no, .no, .no]) rfl (rs_bindS (fun (r7 : List Int) => [.sh (D.scr script), .ow (List.map eI r7), .sh (eI c3.1), .no, .no, .no, .no, .no, .no, .no, .no, .no, .no, .no, .no, .no, .no]) (rt_dCallR (rt_bindP (rv_ow rfl) (rt_consP (rv_var rfl) (rt_nil (rt_callO (S := fun r5 => [.sh (D.scr script), .ow (List.map eI r5), .sh (eI c3.1), .no, .no, .no, .no, .no, .no, .no, .no, .no, .no, .no, .no, .no, .no]) rfl (fun _ => rfl) (S__law_drawn c3.2 c3.1)))))) fun c6 => (rs_put (st1 := [.sh (D.scr script), .ow (List.map eI c6.2), .sh (eI c3.1), .sh ((eL (eP2 eI eI)) c6.1), .no, .no, .no, .no, .no, .no, .no, .no, .no, .no, .no, .no, .no]) rfl (rs_bindS (fun (r10 : List Int) => [.sh (D.scr script), .ow (List.map eI r10), .sh (eI c3.1), .sh ((eL (eP2 eI eI)) c6.1), .no, .no, .no, .no, .no, .no, .no, .no, .no, .no, .no, .no, .no]) (rt_dCallR (rt_bindP (rv_ow rfl) (rt_consP (rv_var rfl) (rt_nil (rt_callO (S := fun r8 => [.sh (D.scr script), .ow (List.map eI r8), .sh (eI c3.1), .sh ((eL (eP2 eI eI)) c6.1), .no, .no, .no, .no, .no, .no, .no, .no, .no, .no, .no, .no, .no]) rfl (fun _ => rfl) (S__law_drawn c6.2 c3.1)))))) fun c9 => (rs_put (st1 := [.sh (D.scr script), .ow (List.map eI c9.2), .sh (eI c3.1), .sh ((eL (eP2 eI eI)) c6.1), .sh ((eL (eP2 eI eI)) c9.1), .no, .no, .no, .no, .no, .no, .no, .no, .no, .no, .no, .no]) rfl (rs_bindG (re_dCall (re_consP (rv_var rfl) (re_consP (rv_var rfl) (re_nil (re_liftM (S__law_near c6.1 c3.1)))))) fun c11 => (rs_put (st1 := [.sh (D.scr script), .ow (List.map eI c9.2), .sh (eI c3.1), .sh ((eL (eP2 eI eI)) c6.1), .sh ((eL (eP2 eI eI)) c9.1), .sh ((eT eI) c11), .no, .no, .no, .no, .no, .no, .no, .no, .no, .no, .no]) rfl (rs_bindG (re_dCall (re_consP (rv_var rfl) (re_consP (rv_var rfl) (re_nil (re_liftM (S__law_near c9.1 c3.1)))))) fun c12 => (rs_put (st1 := [.sh (D.scr script), .ow (List.map eI c9.2), .sh (eI c3.1), .sh ((eL (eP2 eI eI)) c6.1), .sh ((eL (eP2 eI eI)) c9.1), .sh ((eT eI) c11), .sh ((eT eI) c12), .no, .no, .no, .no, .no, .no, .no, .no, .no, .no]) rfl (rs_bindG (re_dOr (re_bindG (re_tst (re_dOp2 (re_bindG (re_dCall (re_consP (rv_var rfl) (re_consP (rv_var rfl) (re_nil (re_liftM (S_classes_of c6.1 c3.1)))))) fun c13 => (re_bindP (rv_var rfl) (re_rv (w := eB) (rv_lift (ne_py (pyT pyI) (x := c13) (y := c11)))))))) fun c14 => (re_ite (fun _ => re_rv rv_ret) (fun _ => (re_dOr (re_bindG (re_tst (re_dOp2 (re_bindG (re_dCall (re_consP (rv_dOp1n (rv_bind (rv_rd rfl) (rv_lift (y := ((eT (eP2 eI eI)) c9.1)) rfl))) (re_consP (rv_var rfl) (re_nil (re_liftM (S_classes_of_2 c9.1 c3.1)))))) fun c15 => (re_bindP (rv_var rfl) (re_rv (w := eB) (rv_lift (ne_py (pyT pyI) (x := c15) (y := c12)))))))) fun c16 => (re_ite (fun _ => re_rv rv_ret) (fun _ => (re_tst (re_dOp2 (re_bindG (re_dCall (re_consP (rv_var rfl) (re_consP (rv_var rfl) (re_nil (re_liftM (S_joined c11 c12)))))) fun c18 => (re_bindG (re_dCall (re_consG (re_dOp2 (re_bindP (rv_var rfl) (re_bindP (rv_var rfl) (re_lift (op_catL (e := (eP2 eI eI)) (xs := c6.1) (ys := c9.1)))))) fun c19 => (re_consP (rv_var rfl) (re_nil (re_liftM (S__law_near c19 c3.1)))))) fun c20 => (re_rv (w := eB) (rv_lift (ne_py (pyT pyI) (x := c18) (y := c20)))))))))))))))) fun c21 => (rs_ite (fun _ => (rs_bindP rv_ret (rs_ret (.inl rfl)))) (fun _ => (rs_nx (rs_bindG (re_dOp1 (re_tail (w := (eT eI)) (re_frzN (re_bindG (re_dRng (re_bindP (rv_var rfl) (re_lift op_rng))) fun c22 => (re_compM (e := eI) (f := fun (x23 : Int) => M.bind (M.bind (pRng c3.1) fun c24 => pFil (fun (x25 : Int) => M.bind (M.bind (pAt c11 x23) fun c26 => M.bind (pAt c11 x25) fun c27 => .ok (decide (c26 = c27))) fun c28 => if c28 = true then M.bind (pAt c12 x23) fun c29 => M.bind (pAt c12 x25) fun c30 => .ok (decide (c29 = c30)) else .ok false) (fun (x25 : Int) => .ok x25) c24) fun c31 => pMin c31) ([.sh (D.scr script), .ow (List.map eI c9.2), .sh (eI c3.1), .sh ((eL (eP2 eI eI)) c6.1), .sh ((eL (eP2 eI eI)) c9.1), .sh ((eT eI) c11), .sh ((eT eI) c12), .no, .no, .no, .no, .no, .no, .no, .no, .no, .no]) rfl rfl rfl (fun x23 => ⟨[.sh (D.scr script), .ow (List.map eI c9.2), .sh (eI c3.1), .sh ((eL (eP2 eI eI)) c6.1), .sh ((eL (eP2 eI eI)) c9.1), .sh ((eT eI) c11), .sh ((eT eI) c12), .no, .no, .no, .no, .no, .no, .no, .no, .sh (eI x23), .no], [.sh (D.scr script), .ow (List.map eI c9.2), .sh (eI c3.1), .sh ((eL (eP2 eI eI)) c6.1), .sh ((eL (eP2 eI eI)) c9.1), .sh ((eT eI) c11), .sh ((eT eI) c12), .no, .no, .no, .no, .no, .no, .no, .no, .sh (eI x23), .no], rfl, (re_dOp1 (re_bindG (re_frzN (re_bindG (re_dRng (re_bindP (rv_var rfl) (re_lift op_rng))) fun c24 => (re_compF (e := eI) (p := fun (x25 : Int) => M.bind (M.bind (pAt c11 x23) fun c26 => M.bind (pAt c11 x25) fun c27 => .ok (decide (c26 = c27))) fun c28 => if c28 = true then M.bind (pAt c12 x23) fun c29 => M.bind (pAt c12 x25) fun c30 => .ok (decide (c29 = c30)) else .ok false) (f := fun (x25 : Int) => .ok x25) ([.sh (D.scr script), .ow (List.map eI c9.2), .sh (eI c3.1), .sh ((eL (eP2 eI eI)) c6.1), .sh ((eL (eP2 eI eI)) c9.1), .sh ((eT eI) c11), .sh ((eT eI) c12), .no, .no, .no, .no, .no, .no, .no, .no, .sh (eI x23), .no]) rfl rfl rfl (fun x25 => ⟨[.sh (D.scr script), .ow (List.map eI c9.2), .sh (eI c3.1), .sh ((eL (eP2 eI eI)) c6.1), .sh ((eL (eP2 eI eI)) c9.1), .sh ((eT eI) c11), .sh ((eT eI) c12), .no, .no, .no, .no, .no, .no, .no, .no, .sh (eI x23), .sh (eI x25)], [.sh (D.scr script), .ow (List.map eI c9.2), .sh (eI c3.1), .sh ((eL (eP2 eI eI)) c6.1), .sh ((eL (eP2 eI eI)) c9.1), .sh ((eT eI) c11), .sh ((eT eI) c12), .no, .no, .no, .no, .no, .no, .no, .no, .sh (eI x23), .sh (eI x25)], [.sh (D.scr script), .ow (List.map eI c9.2), .sh (eI c3.1), .sh ((eL (eP2 eI eI)) c6.1), .sh ((eL (eP2 eI eI)) c9.1), .sh ((eT eI) c11), .sh ((eT eI) c12), .no, .no, .no, .no, .no, .no, .no, .no, .sh (eI x23), .sh (eI x25)], rfl, (re_dAnd (re_bindG (re_tst (re_dOp2 (re_bindG (re_dOp2n (re_bindP (rv_rd rfl) (re_bindP (rv_var rfl) (re_bindP (rv_rd rfl) (re_lift op_atT))))) fun c26 => (re_bindG (re_dOp2n (re_bindP (rv_rd rfl) (re_bindP (rv_var rfl) (re_bindP (rv_rd rfl) (re_lift op_atT))))) fun c27 => (re_rv (w := eB) (rv_lift (eq_py pyI (x := c26) (y := c27)))))))) fun c28 => (re_ite (fun _ => (re_tst (re_dOp2 (re_bindG (re_dOp2n (re_bindP (rv_rd rfl) (re_bindP (rv_var rfl) (re_bindP (rv_rd rfl) (re_lift op_atT))))) fun c29 => (re_bindG (re_dOp2n (re_bindP (rv_rd rfl) (re_bindP (rv_var rfl) (re_bindP (rv_rd rfl) (re_lift op_atT))))) fun c30 => (re_rv (w := eB) (rv_lift (eq_py pyI (x := c29) (y := c30))))))))) (fun _ => re_rv rv_ret)))), (re_rv (w := eI) (rv_var rfl)), rfl, rfl⟩)))) fun c31 => (re_lift op_minL))), rfl, rfl⟩)))) fun c32 => (rv_lift (y := ((eT eI) c32)) rfl))) fun c33 => (rs_put (st1 := [.sh (D.scr script), .ow (List.map eI c9.2), .sh (eI c3.1), .sh ((eL (eP2 eI eI)) c6.1), .sh ((eL (eP2 eI eI)) c9.1), .sh ((eT eI) c11), .sh ((eT eI) c12), .sh ((eT eI) c33), .no, .no, .no, .no, .no, .no, .no, .no, .no]) rfl (rs_bindG (re_dOr (re_bindG (re_tst (re_dOp2 (re_bindG (re_dCall (re_consP (rv_var rfl) (re_consP (rv_var rfl) (re_nil (re_liftM (S_meet c11 c12)))))) fun c34 => (re_bindP (rv_var rfl) (re_rv (w := eB) (rv_lift (ne_py (pyT pyI) (x := c34) (y := c33)))))))) fun c35 => (re_ite (fun _ => re_rv rv_ret) (fun _ => (re_dOr (re_bindG (re_tst (re_dOp2 (re_bindG (re_dCall (re_consP (rv_var rfl) (re_consP (rv_var rfl) (re_nil (re_liftM (S_refines c33 c11)))))) fun c36 => (re_bindP rv_ret (re_rv (w := eB) (rv_lift (y := (eB (!decide (c36 = true)))) rfl)))))) fun c37 => (re_ite (fun _ => re_rv rv_ret) (fun _ => (re_tst (re_dOp2 (re_bindG (re_dCall (re_consP (rv_var rfl) (re_consG (re_dCall (re_consP (rv_var rfl) (re_consP (rv_var rfl) (re_nil (re_liftM (S_joined c11 c12)))))) fun c38 => (re_nil (re_liftM (S_refines c11 c38)))))) fun c39 => (re_bindP rv_ret (re_rv (w := eB) (rv_lift (y := (eB (!decide (c39 = true)))) rfl)))))))))))))) fun c40 => (rs_ite (fun _ => (rs_bindP rv_ret (rs_ret (.inl rfl)))) (fun _ => (rs_nx (rs_bindG (re_dOp2 (re_bindG (re_dOp1 (re_bindG (re_frzN (re_bindG (re_dRng (re_bindP (rv_var rfl) (re_lift op_rng))) fun c41 => (re_compF (e := eI) (p := fun (x42 : Int) => M.bind (M.bind (pAt c11 x42) fun c43 => pAt c12 c43) fun c44 => M.bind (pAt c12 x42) fun c45 => .ok (!decide (c44 = c45))) (f := fun (x42 : Int) => .ok x42) ([.sh (D.scr script), .ow (List.map eI c9.2), .sh (eI c3.1), .sh ((eL (eP2 eI eI)) c6.1), .sh ((eL (eP2 eI eI)) c9.1), .sh ((eT eI) c11), .sh ((eT eI) c12), .sh ((eT eI) c33), .no, .no, .no, .no, .no, .no, .no, .no, .no]) rfl rfl rfl (fun x42 => ⟨[.sh (D.scr script), .ow (List.map eI c9.2), .sh (eI c3.1), .sh ((eL (eP2 eI eI)) c6.1), .sh ((eL (eP2 eI eI)) c9.1), .sh ((eT eI) c11), .sh ((eT eI) c12), .sh ((eT eI) c33), .no, .no, .no, .no, .no, .no, .no, .sh (eI x42), .no], [.sh (D.scr script), .ow (List.map eI c9.2), .sh (eI c3.1), .sh ((eL (eP2 eI eI)) c6.1), .sh ((eL (eP2 eI eI)) c9.1), .sh ((eT eI) c11), .sh ((eT eI) c12), .sh ((eT eI) c33), .no, .no, .no, .no, .no, .no, .no, .sh (eI x42), .no], [.sh (D.scr script), .ow (List.map eI c9.2), .sh (eI c3.1), .sh ((eL (eP2 eI eI)) c6.1), .sh ((eL (eP2 eI eI)) c9.1), .sh ((eT eI) c11), .sh ((eT eI) c12), .sh ((eT eI) c33), .no, .no, .no, .no, .no, .no, .no, .sh (eI x42), .no], rfl, (re_tst (re_dOp2 (re_bindG (re_dOp2n (re_bindP (rv_rd rfl) (re_bindG (re_dOp2n (re_bindP (rv_rd rfl) (re_bindP (rv_var rfl) (re_bindP (rv_rd rfl) (re_lift op_atT))))) fun c43 => (re_bindP (rv_rd rfl) (re_lift op_atT))))) fun c44 => (re_bindG (re_dOp2n (re_bindP (rv_rd rfl) (re_bindP (rv_var rfl) (re_bindP (rv_rd rfl) (re_lift op_atT))))) fun c45 => (re_rv (w := eB) (rv_lift (ne_py pyI (x := c44) (y := c45)))))))), (re_rv (w := eI) (rv_var rfl)), rfl, rfl⟩)))) fun c46 => (re_rv (w := eI) (rv_lift op_lenL)))) fun c47 => (re_bindP rv_ret (re_rv (w := eB) (rv_lift (eq_py pyI (x := c47) (y := 0))))))) fun c48 => (rs_put (st1 := [.sh (D.scr script), .ow (List.map eI c9.2), .sh (eI c3.1), .sh ((eL (eP2 eI eI)) c6.1), .sh ((eL (eP2 eI eI)) c9.1), .sh ((eT eI) c11), .sh ((eT eI) c12), .sh ((eT eI) c33), .sh (eB c48), .no, .no, .no, .no, .no, .no, .no, .no]) rfl (rs_bindG (re_dCall (re_consP (rv_var rfl) (re_consP (rv_var rfl) (re_nil (re_liftM (S_refines c11 c12)))))) fun c49 => (rs_put (st1 := [.sh (D.scr script), .ow (List.map eI c9.2), .sh (eI c3.1), .sh ((eL (eP2 eI eI)) c6.1), .sh ((eL (eP2 eI eI)) c9.1), .sh ((eT eI) c11), .sh ((eT eI) c12), .sh ((eT eI) c33), .sh (eB c48), .sh (eB c49), .no, .no, .no, .no, .no, .no, .no]) rfl (rs_bindP (rv_dOr (rv_bind (rv_dNot (rv_bind (rv_tst (rv_dOp1 (rv_bind (rv_var rfl) (rv_lift (y := (eB true)) rfl)))) rv_ret)) (rv_or fun _ => (rv_tst (rv_dOp2 (rv_bind (rv_var rfl) (rv_bind (rv_var rfl) (rv_lift (ne_py pyB (x := c49) (y := c48)))))))))) (rs_ite (fun _ => (rs_bindP rv_ret (rs_ret (.inl rfl)))) (fun _ => (rs_nx (rs_bindG (re_bindG (re_dRng (re_bindP (rv_var rfl) (re_lift op_rng))) fun c50 => (re_compF (e := eI) (p := fun (x51 : Int) => M.bind (pAt c11 x51) fun c52 => .ok (decide (c52 = x51))) (f := fun (x51 : Int) => M.bind (pRng c3.1) fun c53 => pFil (fun (x54 : Int) => M.bind (pAt c11 x54) fun c55 => .ok (decide (c55 = x51))) (fun (x54 : Int) => .ok x54) c53) ([.sh (D.scr script), .ow (List.map eI c9.2), .sh (eI c3.1), .sh ((eL (eP2 eI eI)) c6.1), .sh ((eL (eP2 eI eI)) c9.1), .sh ((eT eI) c11), .sh ((eT eI) c12), .sh ((eT eI) c33), .sh (eB c48), .sh (eB c49), .no, .no, .no, .no, .no, .no, .no]) rfl rfl rfl (fun x51 => ⟨[.sh (D.scr script), .ow (List.map eI c9.2), .sh (eI c3.1), .sh ((eL (eP2 eI eI)) c6.1), .sh ((eL (eP2 eI eI)) c9.1), .sh ((eT eI) c11), .sh ((eT eI) c12), .sh ((eT eI) c33), .sh (eB c48), .sh (eB c49), .no, .no, .no, .no, .no, .sh (eI x51), .no], [.sh (D.scr script), .ow (List.map eI c9.2), .sh (eI c3.1), .sh ((eL (eP2 eI eI)) c6.1), .sh ((eL (eP2 eI eI)) c9.1), .sh ((eT eI) c11), .sh ((eT eI) c12), .sh ((eT eI) c33), .sh (eB c48), .sh (eB c49), .no, .no, .no, .no, .no, .sh (eI x51), .no], [.sh (D.scr script), .ow (List.map eI c9.2), .sh (eI c3.1), .sh ((eL (eP2 eI eI)) c6.1), .sh ((eL (eP2 eI eI)) c9.1), .sh ((eT eI) c11), .sh ((eT eI) c12), .sh ((eT eI) c33), .sh (eB c48), .sh (eB c49), .no, .no, .no, .no, .no, .sh (eI x51), .no], rfl, (re_tst (re_dOp2 (re_bindG (re_dOp2n (re_bindP (rv_rd rfl) (re_bindP (rv_var rfl) (re_bindP (rv_rd rfl) (re_lift op_atT))))) fun c52 => (re_bindP (rv_var rfl) (re_rv (w := eB) (rv_lift (eq_py pyI (x := c52) (y := x51)))))))), (re_dOp1 (re_tail (w := (eT eI)) (re_frzN (re_bindG (re_dRng (re_bindP (rv_var rfl) (re_lift op_rng))) fun c53 => (re_compF (e := eI) (p := fun (x54 : Int) => M.bind (pAt c11 x54) fun c55 => .ok (decide (c55 = x51))) (f := fun (x54 : Int) => .ok x54) ([.sh (D.scr script), .ow (List.map eI c9.2), .sh (eI c3.1), .sh ((eL (eP2 eI eI)) c6.1), .sh ((eL (eP2 eI eI)) c9.1), .sh ((eT eI) c11), .sh ((eT eI) c12), .sh ((eT eI) c33), .sh (eB c48), .sh (eB c49), .no, .no, .no, .no, .no, .sh (eI x51), .no]) rfl rfl rfl (fun x54 => ⟨[.sh (D.scr script), .ow (List.map eI c9.2), .sh (eI c3.1), .sh ((eL (eP2 eI eI)) c6.1), .sh ((eL (eP2 eI eI)) c9.1), .sh ((eT eI) c11), .sh ((eT eI) c12), .sh ((eT eI) c33), .sh (eB c48), .sh (eB c49), .no, .no, .no, .no, .no, .sh (eI x51), .sh (eI x54)], [.sh (D.scr script), .ow (List.map eI c9.2), .sh (eI c3.1), .sh ((eL (eP2 eI eI)) c6.1), .sh ((eL (eP2 eI eI)) c9.1), .sh ((eT eI) c11), .sh ((eT eI) c12), .sh ((eT eI) c33), .sh (eB c48), .sh (eB c49), .no, .no, .no, .no, .no, .sh (eI x51), .sh (eI x54)], [.sh (D.scr script), .ow (List.map eI c9.2), .sh (eI c3.1), .sh ((eL (eP2 eI eI)) c6.1), .sh ((eL (eP2 eI eI)) c9.1), .sh ((eT eI) c11), .sh ((eT eI) c12), .sh ((eT eI) c33), .sh (eB c48), .sh (eB c49), .no, .no, .no, .no, .no, .sh (eI x51), .sh (eI x54)], rfl, (re_tst (re_dOp2 (re_bindG (re_dOp2n (re_bindP (rv_rd rfl) (re_bindP (rv_var rfl) (re_bindP (rv_rd rfl) (re_lift op_atT))))) fun c55 => (re_bindP (rv_var rfl) (re_rv (w := eB) (rv_lift (eq_py pyI (x := c55) (y := x51)))))))), (re_rv (w := eI) (rv_var rfl)), rfl, rfl⟩)))) fun c56 => (rv_lift (y := ((eT eI) c56)) rfl))), rfl, rfl⟩))) fun c57 => (rs_put (st1 := [.sh (D.scr script), .ow (List.map eI c9.2), .sh (eI c3.1), .sh ((eL (eP2 eI eI)) c6.1), .sh ((eL (eP2 eI eI)) c9.1), .sh ((eT eI) c11), .sh ((eT eI) c12), .sh ((eT eI) c33), .sh (eB c48), .sh (eB c49), .ow (List.map (eT eI) c57), .no, .no, .no, .no, .no, .no]) rfl (rs_bindS (fun (r66 : List Int) => [.sh (D.scr script), .ow (List.map eI r66), .sh (eI c3.1), .sh ((eL (eP2 eI eI)) c6.1), .sh ((eL (eP2 eI eI)) c9.1), .sh ((eT eI) c11), .sh ((eT eI) c12), .sh ((eT eI) c33), .sh (eB c48), .sh (eB c49), .ow (List.map (eT eI) c57), .no, .no, .no, .no, .no, .no]) (rt_bindG (re_dRng (re_bindP (rv_var rfl) (re_lift op_rng))) fun c58 => (rt_comp (e := eI) (f := fun (x59 : Int) (r60 : List Int) => M.bind (P__law_take r60 4) fun c63 => M.bind (pAt [(eS ("x" : Str)), (eI 5), ((eT eI) [1]), (eS ("y" : Str))] c63.1) fun c64 => .ok (c64, c63.2)) (S := fun (r60 : List Int) => [.sh (D.scr script), .ow (List.map eI r60), .sh (eI c3.1), .sh ((eL (eP2 eI eI)) c6.1), .sh ((eL (eP2 eI eI)) c9.1), .sh ((eT eI) c11), .sh ((eT eI) c12), .sh ((eT eI) c33), .sh (eB c48), .sh (eB c49), .ow (List.map (eT eI) c57), .no, .no, .no, .no, .no, .no]) (fun (r60 : List Int) => [.sh (D.scr script), .ow (List.map eI r60), .sh (eI c3.1), .sh ((eL (eP2 eI eI)) c6.1), .sh ((eL (eP2 eI eI)) c9.1), .sh ((eT eI) c11), .sh ((eT eI) c12), .sh ((eT eI) c33), .sh (eB c48), .sh (eB c49), .ow (List.map (eT eI) c57), .no, .no, .no, .no, .no, .no]) (fun (x59 : Int) (r60 : List Int) => [.sh (D.scr script), .ow (List.map eI r60), .sh (eI c3.1), .sh ((eL (eP2 eI eI)) c6.1), .sh ((eL (eP2 eI eI)) c9.1), .sh ((eT eI) c11), .sh ((eT eI) c12), .sh ((eT eI) c33), .sh (eB c48), .sh (eB c49), .ow (List.map (eT eI) c57), .no, .no, .no, .no, .sh (eI x59), .no]) (fun _ => rfl) rfl (fun _ => rfl) (fun x59 r60 => ⟨rfl, (rt_dOp2 (rt_bindP (rv_frzN (d := ((eL eD) [(eS ("x" : Str)), (eI 5), ((eT eI) [1]), (eS ("y" : Str))])) (rv_dLst (rv_cons (rv_eq rv_ret rfl) (rv_cons (rv_eq rv_ret rfl) (rv_cons (rv_eq (rv_dTup (rv_cons rv_ret (rv_nil (rv_lift (y := ((eT eI) [1])) (op_tup (by exact Nat.le_of_ble_eq_true rfl) rfl))))) rfl) (rv_cons (rv_eq rv_ret rfl) (rv_nil (rv_lift (y := ((List.map eD) [(eS ("x" : Str)), (eI 5), ((eT eI) [1]), (eS ("y" : Str))])) (op_lst (by exact Nat.le_of_ble_eq_true rfl) rfl)))))))) rfl) (rt_bindS (rt_dCallR (rt_bindP (rv_ow rfl) (rt_consP rv_ret (rt_nil (rt_callO (S := fun r62 => [.sh (D.scr script), .ow (List.map eI r62), .sh (eI c3.1), .sh ((eL (eP2 eI eI)) c6.1), .sh ((eL (eP2 eI eI)) c9.1), .sh ((eT eI) c11), .sh ((eT eI) c12), .sh ((eT eI) c33), .sh (eB c48), .sh (eB c49), .ow (List.map (eT eI) c57), .no, .no, .no, .no, .sh (eI x59), .no]) rfl (fun _ => rfl) (S__law_take r60 4)))))) fun c63 => (rt_re (re_lift op_atL))))), rfl⟩))) fun c65 => (rs_put (st1 := [.sh (D.scr script), .ow (List.map eI c65.2), .sh (eI c3.1), .sh ((eL (eP2 eI eI)) c6.1), .sh ((eL (eP2 eI eI)) c9.1), .sh ((eT eI) c11), .sh ((eT eI) c12), .sh ((eT eI) c33), .sh (eB c48), .sh (eB c49), .ow (List.map (eT eI) c57), .ow (List.map eD c65.1), .no, .no, .no, .no, .no]) rfl (rs_or (rs_bindG (re_tst (re_dOp2 (re_bindG (re_dCall (re_consP (rv_var rfl) (re_nil (re_liftM (S_class_sets c11))))) fun c87 => (re_bindP (rv_dOp1n (rv_bind (rv_rdO rfl) (rv_lift (y := ((eT (eT eI)) c57)) rfl))) (re_rv (w := eB) (rv_lift (ne_py (pyT (pyT pyI)) (x := c87) (y := c57)))))))) fun c88 => (rs_ite (fun _ => (rs_bindP rv_ret (rs_ret (.inl rfl)))) (fun _ => (rs_bindG (re_tst (re_dOp2 (re_bindG (re_dCall (re_consP (rv_frz rfl) (re_nil (re_liftM (S_by_keys c65.1))))) fun c97 => (re_bindG (re_dOp1 (re_tail (w := (eT eI)) (re_frzN (re_bindG (re_dRng (re_bindP (rv_var rfl) (re_lift op_rng))) fun c98 => (re_compM (e := eI) (f := fun (x99 : Int) => M.bind (M.bind (pRng c3.1) fun c100 => pFil (fun (x101 : Int) => M.bind (pAt c65.1 x101) fun c102 => M.bind (pAt c65.1 x99) fun c103 => pEq c102 c103) (fun (x101 : Int) => .ok x101) c100) fun c104 => pMin c104) ([.sh (D.scr script), .ow (List.map eI c65.2), .sh (eI c3.1), .sh ((eL (eP2 eI eI)) c6.1), .sh ((eL (eP2 eI eI)) c9.1), .sh ((eT eI) c11), .sh ((eT eI) c12), .sh ((eT eI) c33), .sh (eB c48), .sh (eB c49), .ow (List.map (eT eI) c57), .sh ((eL eD) c65.1), .no, .no, .no, .no, .no]) rfl rfl rfl (fun x99 => ⟨[.sh (D.scr script), .ow (List.map eI c65.2), .sh (eI c3.1), .sh ((eL (eP2 eI eI)) c6.1), .sh ((eL (eP2 eI eI)) c9.1), .sh ((eT eI) c11), .sh ((eT eI) c12), .sh ((eT eI) c33), .sh (eB c48), .sh (eB c49), .ow (List.map (eT eI) c57), .sh ((eL eD) c65.1), .no, .no, .no, .sh (eI x99), .no], [.sh (D.scr script), .ow (List.map eI c65.2), .sh (eI c3.1), .sh ((eL (eP2 eI eI)) c6.1), .sh ((eL (eP2 eI eI)) c9.1), .sh ((eT eI) c11), .sh ((eT eI) c12), .sh ((eT eI) c33), .sh (eB c48), .sh (eB c49), .ow (List.map (eT eI) c57), .sh ((eL eD) c65.1), .no, .no, .no, .sh (eI x99), .no], rfl, (re_dOp1 (re_bindG (re_frzN (re_bindG (re_dRng (re_bindP (rv_var rfl) (re_lift op_rng))) fun c100 => (re_compF (e := eI) (p := fun (x101 : Int) => M.bind (pAt c65.1 x101) fun c102 => M.bind (pAt c65.1 x99) fun c103 => pEq c102 c103) (f := fun (x101 : Int) => .ok x101) ([.sh (D.scr script), .ow (List.map eI c65.2), .sh (eI c3.1), .sh ((eL (eP2 eI eI)) c6.1), .sh ((eL (eP2 eI eI)) c9.1), .sh ((eT eI) c11), .sh ((eT eI) c12), .sh ((eT eI) c33), .sh (eB c48), .sh (eB c49), .ow (List.map (eT eI) c57), .sh ((eL eD) c65.1), .no, .no, .no, .sh (eI x99), .no]) rfl rfl rfl (fun x101 => ⟨[.sh (D.scr script), .ow (List.map eI c65.2), .sh (eI c3.1), .sh ((eL (eP2 eI eI)) c6.1), .sh ((eL (eP2 eI eI)) c9.1), .sh ((eT eI) c11), .sh ((eT eI) c12), .sh ((eT eI) c33), .sh (eB c48), .sh (eB c49), .ow (List.map (eT eI) c57), .sh ((eL eD) c65.1), .no, .no, .no, .sh (eI x99), .sh (eI x101)], [.sh (D.scr script), .ow (List.map eI c65.2), .sh (eI c3.1), .sh ((eL (eP2 eI eI)) c6.1), .sh ((eL (eP2 eI eI)) c9.1), .sh ((eT eI) c11), .sh ((eT eI) c12), .sh ((eT eI) c33), .sh (eB c48), .sh (eB c49), .ow (List.map (eT eI) c57), .sh ((eL eD) c65.1), .no, .no, .no, .sh (eI x99), .sh (eI x101)], [.sh (D.scr script), .ow (List.map eI c65.2), .sh (eI c3.1), .sh ((eL (eP2 eI eI)) c6.1), .sh ((eL (eP2 eI eI)) c9.1), .sh ((eT eI) c11), .sh ((eT eI) c12), .sh ((eT eI) c33), .sh (eB c48), .sh (eB c49), .ow (List.map (eT eI) c57), .sh ((eL eD) c65.1), .no, .no, .no, .sh (eI x99), .sh (eI x101)], rfl, (re_tst (re_dOp2 (re_bindG (re_dOp2n (re_bindP (rv_rd rfl) (re_bindP (rv_var rfl) (re_bindP (rv_rd rfl) (re_lift op_atL))))) fun c102 => (re_bindG (re_dOp2n (re_bindP (rv_rd rfl) (re_bindP (rv_var rfl) (re_bindP (rv_rd rfl) (re_lift op_atL))))) fun c103 => (re_lift op_eqD))))), (re_rv (w := eI) (rv_var rfl)), rfl, rfl⟩)))) fun c104 => (re_lift op_minL))), rfl, rfl⟩)))) fun c105 => (rv_lift (y := ((eT eI) c105)) rfl))) fun c106 => (re_lift op_neD))))) fun c107 => (rs_ite (fun _ => (rs_bindP rv_ret (rs_ret (.inl rfl)))) (fun _ => (rs_nx (rs_bindS (fun (r114 : List Int) => [.sh (D.scr script), .ow (List.map eI r114), .sh (eI c3.1), .sh ((eL (eP2 eI eI)) c6.1), .sh ((eL (eP2 eI eI)) c9.1), .sh ((eT eI) c11), .sh ((eT eI) c12), .sh ((eT eI) c33), .sh (eB c48), .sh (eB c49), .ow (List.map (eT eI) c57), .sh ((eL eD) c65.1), .no, .no, .no, .no, .no]) (rt_dOp1 (rt_tail (w := (eT eI)) (rt_frzN (rt_bindG (re_dRng (re_bindP rv_ret (re_lift op_rng))) fun c108 => (rt_comp (e := eI) (f := fun (x109 : Int) (r110 : List Int) => P__law_take r110 4) (S := fun (r110 : List Int) => [.sh (D.scr script), .ow (List.map eI r110), .sh (eI c3.1), .sh ((eL (eP2 eI eI)) c6.1), .sh ((eL (eP2 eI eI)) c9.1), .sh ((eT eI) c11), .sh ((eT eI) c12), .sh ((eT eI) c33), .sh (eB c48), .sh (eB c49), .ow (List.map (eT eI) c57), .sh ((eL eD) c65.1), .no, .no, .no, .no, .no]) (fun (r110 : List Int) => [.sh (D.scr script), .ow (List.map eI r110), .sh (eI c3.1), .sh ((eL (eP2 eI eI)) c6.1), .sh ((eL (eP2 eI eI)) c9.1), .sh ((eT eI) c11), .sh ((eT eI) c12), .sh ((eT eI) c33), .sh (eB c48), .sh (eB c49), .ow (List.map (eT eI) c57), .sh ((eL eD) c65.1), .no, .no, .no, .no, .no]) (fun (x109 : Int) (r110 : List Int) => [.sh (D.scr script), .ow (List.map eI r110), .sh (eI c3.1), .sh ((eL (eP2 eI eI)) c6.1), .sh ((eL (eP2 eI eI)) c9.1), .sh ((eT eI) c11), .sh ((eT eI) c12), .sh ((eT eI) c33), .sh (eB c48), .sh (eB c49), .ow (List.map (eT eI) c57), .sh ((eL eD) c65.1), .no, .no, .no, .sh (eI x109), .no]) (fun _ => rfl) rfl (fun _ => rfl) (fun x109 r110 => ⟨rfl, (rt_dCallR (rt_bindP (rv_ow rfl) (rt_consP rv_ret (rt_nil (rt_callO (S := fun r111 => [.sh (D.scr script), .ow (List.map eI r111), .sh (eI c3.1), .sh ((eL (eP2 eI eI)) c6.1), .sh ((eL (eP2 eI eI)) c9.1), .sh ((eT eI) c11), .sh ((eT eI) c12), .sh ((eT eI) c33), .sh (eB c48), .sh (eB c49), .ow (List.map (eT eI) c57), .sh ((eL eD) c65.1), .no, .no, .no, .sh (eI x109), .no]) rfl (fun _ => rfl) (S__law_take r110 4)))))), rfl⟩)))) fun c112 => (rv_lift (y := ((eT eI) c112.1)) rfl))) fun c113 => (rs_put (st1 := [.sh (D.scr script), .ow (List.map eI c113.2), .sh (eI c3.1), .sh ((eL (eP2 eI eI)) c6.1), .sh ((eL (eP2 eI eI)) c9.1), .sh ((eT eI) c11), .sh ((eT eI) c12), .sh ((eT eI) c33), .sh (eB c48), .sh (eB c49), .ow (List.map (eT eI) c57), .sh ((eL eD) c65.1), .sh ((eT eI) c113.1), .no, .no, .no, .no]) rfl (rs_bindG (re_dIf (re_bindG (re_tst (re_dOp2 (re_bindG (re_dOp2n (re_bindP (rv_rd rfl) (re_bindP rv_ret (re_bindP (rv_rd rfl) (re_lift op_atT))))) fun c115 => (re_bindP rv_ret (re_rv (w := eB) (rv_lift (eq_py pyI (x := c115) (y := 0)))))))) fun c116 => (re_ite (fun _ => (re_dIf (re_bindG (re_tst (re_dOp2 (re_bindG (re_dOp2n (re_bindP (rv_rd rfl) (re_bindP rv_ret (re_bindP (rv_rd rfl) (re_lift op_atT))))) fun c135 => (re_bindP rv_ret (re_rv (w := eB) (rv_lift (y := (eB (decide (c135 < 2)))) rfl)))))) fun c136 => (re_ite (fun _ => (re_dIf (re_bindG (re_tst (re_dOp2 (re_bindG (re_dOp2n (re_bindP (rv_rd rfl) (re_bindP rv_ret (re_bindP (rv_rd rfl) (re_lift op_atT))))) fun c145 => (re_bindP rv_ret (re_rv (w := eB) (rv_lift (y := (eB (decide (c145 < 3)))) rfl)))))) fun c146 => (re_ite (fun _ => (re_dOp2 (re_bindG (re_dOp2n (re_bindP (rv_rd rfl) (re_bindG (re_dOp2n (re_bindP (rv_rd rfl) (re_bindP rv_ret (re_bindP (rv_rd rfl) (re_lift op_atT))))) fun c150 => (re_bindP (rv_rd rfl) (re_lift op_atT))))) fun c151 => (re_bindG (re_dOp2n (re_bindP (rv_rd rfl) (re_bindP rv_ret (re_bindP (rv_rd rfl) (re_lift op_atT))))) fun c152 => (re_rv (w := eB) (rv_lift (eq_py pyI (x := c151) (y := c152)))))))) (fun _ => (re_rv (w := eB) rv_ret)))))) (fun _ => (re_rv (w := eB) rv_ret)))))) (fun _ => (re_rv (w := eB) rv_ret))))) fun c153 => (rs_put (st1 := [.sh (D.scr script), .ow (List.map eI c113.2), .sh (eI c3.1), .sh ((eL (eP2 eI eI)) c6.1), .sh ((eL (eP2 eI eI)) c9.1), .sh ((eT eI) c11), .sh ((eT eI) c12), .sh ((eT eI) c33), .sh (eB c48), .sh (eB c49), .ow (List.map (eT eI) c57), .sh ((eL eD) c65.1), .sh ((eT eI) c113.1), .sh (eB c153), .no, .no, .no]) rfl (rs_bindG (re_dCall (re_consP (rv_var rfl) (re_consP rv_ret (re_nil (re_liftM (S_is_equivalence c113.1 3)))))) fun c154 => (rs_put (st1 := [.sh (D.scr script), .ow (List.map eI c113.2), .sh (eI c3.1), .sh ((eL (eP2 eI eI)) c6.1), .sh ((eL (eP2 eI eI)) c9.1), .sh ((eT eI) c11), .sh ((eT eI) c12), .sh ((eT eI) c33), .sh (eB c48), .sh (eB c154), .ow (List.map (eT eI) c57), .sh ((eL eD) c65.1), .sh ((eT eI) c113.1), .sh (eB c153), .no, .no, .no]) rfl (rs_bindG (re_dOr (re_bindP (rv_dNot (rv_bind (rv_tst (rv_dOp1 (rv_bind (rv_var rfl) (rv_lift (y := (eB true)) rfl)))) rv_ret)) (re_ite (fun _ => re_rv rv_ret) (fun _ => (re_dOr (re_bindP (rv_tst (rv_dOp2 (rv_bind (rv_var rfl) (rv_bind (rv_var rfl) (rv_lift (ne_py pyB (x := c154) (y := c153))))))) (re_ite (fun _ => re_rv rv_ret) (fun _ => (re_tst (re_dOp2 (re_bindG (re_dCall (re_consP (rv_var rfl) (re_consP (rv_var rfl) (re_nil (re_liftM (S_is_equivalence c11 c3.1)))))) fun c155 => (re_bindP rv_ret (re_rv (w := eB) (rv_lift (y := (eB (!decide (c155 = true)))) rfl)))))))))))))) fun c156 => (rs_ite (fun _ => (rs_bindP rv_ret (rs_ret (.inl rfl)))) (fun _ => (rs_nx (rs_bindG (re_dItems (re_tail (w := (List.map eD)) (re_frzN (re_dLst (re_consP (rv_eq (rv_frzN (d := ((eL eI) c11)) (rv_dN1n (rv_bind (rv_rd rfl) (rv_lift (y := ((List.map eI) c11)) rfl))) rfl) rfl) (re_consG (re_map (re_dOp2 (re_bindP (rv_var rfl) (re_bindP (rv_dTup (rv_cons rv_ret (rv_nil (rv_lift (y := ((eT eI) [0])) (op_tup (by exact Nat.le_of_ble_eq_true rfl) rfl))))) (re_lift (op_catT (e := eI) (xs := c11) (ys := [0])))))) (fun _ => rfl)) fun c160 => (re_consG (re_map (re_dOp2 (re_bindP (rv_var rfl) (re_bindP (rv_dTup (rv_cons (rv_dOp2 (rv_bind (rv_var rfl) (rv_bind rv_ret (rv_lift (y := (eI (c3.1 + 1))) rfl)))) (rv_nil (rv_lift (y := ((eT eI) [(c3.1 + 1)])) (op_tup (by exact Nat.le_of_ble_eq_true rfl) rfl))))) (re_lift (op_catT (e := eI) (xs := c11) (ys := [(c3.1 + 1)])))))) (fun _ => rfl)) fun c162 => (re_consP (rv_eq rv_ret rfl) (re_consP (rv_eq rv_ret rfl) (re_consP (rv_eq rv_ret rfl) (re_nil (re_rv (w := (List.map eD)) (rv_lift (y := ((List.map eD) [((eL eI) c11), c160, c162, (eU ()), (eI 0), (eS ("0" : Str))])) (op_lst (by exact Nat.le_of_ble_eq_true rfl) rfl)))))))))))) fun c163 => (rv_lift (y := ((List.map eD) c163)) rfl))) fun c164 => (rs_for1 (e := eD) (xs := c164) (a := ()) (f := fun (x170 : D) (a171 : Unit) => M.bind (M.bind (P_is_equivalence_2 x170 c3.1) fun c173 => .ok (!decide (c173 = false))) fun c174 => if c174 = true then .ok (.ret false) else .ok (.nx ())) (h := (fun q => q)) (fun (a207 : Unit) (st : DSt) => ∃ (j208 : (Option D)), st = [.sh (D.scr script), .ow (List.map eI c113.2), .sh (eI c3.1), .sh ((eL (eP2 eI eI)) c6.1), .sh ((eL (eP2 eI eI)) c9.1), .sh ((eT eI) c11), .sh ((eT eI) c12), .sh ((eT eI) c33), .sh (eB c48), .sh (eB c154), .ow (List.map (eT eI) c57), .sh ((eL eD) c65.1), .sh ((eT eI) c113.1), .sh (eB c153), jk j208, .no, .no]) ⟨none, rfl⟩ (fun | x170, a171, _, ⟨j172, rfl⟩ => ⟨[.sh (D.scr script), .ow (List.map eI c113.2), .sh (eI c3.1), .sh ((eL (eP2 eI eI)) c6.1), .sh ((eL (eP2 eI eI)) c9.1), .sh ((eT eI) c11), .sh ((eT eI) c12), .sh ((eT eI) c33), .sh (eB c48), .sh (eB c154), .ow (List.map (eT eI) c57), .sh ((eL eD) c65.1), .sh ((eT eI) c113.1), .sh (eB c153), .sh (eD x170), .no, .no], rfl, (rs_last (rs_bindG (re_tst (re_dOp2 (re_bindG (re_dCall (re_consP (rv_var rfl) (re_consP (rv_var rfl) (re_nil (re_liftM (S_is_equivalence_2 x170 c3.1)))))) fun c173 => (re_bindP rv_ret (re_rv (w := eB) (rv_lift (y := (eB (!decide (c173 = false)))) rfl)))))) fun c174 => (rs_ite (fun _ => (rs_bindP rv_ret (rs_ret ⟨⟨_, rfl⟩, (.inl rfl)⟩))) (fun _ => (rs_nx (rs_end ⟨rfl, (some (eD x170)), rfl⟩))))))⟩) (fun | a175, _, ⟨j176, rfl⟩ => (rs_bindP (rv_dItems (rv_bind (rv_frzN (d := ((eL eD) [((eP2 eI eB) (0, true)), ((eP2 eI eU) (0, ())), ((eP2 eI eI) (0, -1)), ((eP2 eI eI) (1, 1)), ((eP2 eI eI) (0, 2)), ((eT eI) [0]), ((eL eI) [0, 1])])) (rv_dLst (rv_cons (rv_eq (rv_dTup (rv_cons rv_ret (rv_cons rv_ret (rv_nil (rv_lift (y := ((eP2 eI eB) (0, true))) (op_tup (by exact Nat.le_of_ble_eq_true rfl) rfl)))))) rfl) (rv_cons (rv_eq (rv_dTup (rv_cons rv_ret (rv_cons rv_ret (rv_nil (rv_lift (y := ((eP2 eI eU) (0, ()))) (op_tup (by exact Nat.le_of_ble_eq_true rfl) rfl)))))) rfl) (rv_cons (rv_eq (rv_dTup (rv_cons rv_ret (rv_cons (rv_dOp1 (rv_bind rv_ret (rv_lift (y := (eI (-1))) rfl))) (rv_nil (rv_lift (y := ((eP2 eI eI) (0, -1))) (op_tup (by exact Nat.le_of_ble_eq_true rfl) rfl)))))) rfl) (rv_cons (rv_eq (rv_dTup (rv_cons rv_ret (rv_cons rv_ret (rv_nil (rv_lift (y := ((eP2 eI eI) (1, 1))) (op_tup (by exact Nat.le_of_ble_eq_true rfl) rfl)))))) rfl) (rv_cons (rv_eq (rv_dTup (rv_cons rv_ret (rv_cons rv_ret (rv_nil (rv_lift (y := ((eP2 eI eI) (0, 2))) (op_tup (by exact Nat.le_of_ble_eq_true rfl) rfl)))))) rfl) (rv_cons (rv_eq (rv_dTup (rv_cons rv_ret (rv_nil (rv_lift (y := ((eT eI) [0])) (op_tup (by exact Nat.le_of_ble_eq_true rfl) rfl))))) rfl) (rv_cons (rv_eq (rv_frzN (d := ((eL eI) [0, 1])) (rv_dLst (rv_cons rv_ret (rv_cons rv_ret (rv_nil (rv_lift (y := ((List.map eI) [0, 1])) (op_lst (by exact Nat.le_of_ble_eq_true rfl) rfl)))))) rfl) rfl) (rv_nil (rv_lift (y := ((List.map eD) [((eP2 eI eB) (0, true)), ((eP2 eI eU) (0, ())), ((eP2 eI eI) (0, -1)), ((eP2 eI eI) (1, 1)), ((eP2 eI eI) (0, 2)), ((eT eI) [0]), ((eL eI) [0, 1])])) (op_lst (by exact Nat.le_of_ble_eq_true rfl) rfl))))))))))) rfl) (rv_lift (y := ((List.map eD) [((eP2 eI eB) (0, true)), ((eP2 eI eU) (0, ())), ((eP2 eI eI) (0, -1)), ((eP2 eI eI) (1, 1)), ((eP2 eI eI) (0, 2)), ((eT eI) [0]), ((eL eI) [0, 1])])) rfl))) (rs_for1 (e := eD) (xs := [((eP2 eI eB) (0, true)), ((eP2 eI eU) (0, ())), ((eP2 eI eI) (0, -1)), ((eP2 eI eI) (1, 1)), ((eP2 eI eI) (0, 2)), ((eT eI) [0]), ((eL eI) [0, 1])]) (a := ()) (f := fun (x182 : D) (a183 : Unit) => M.bind (M.bind (P_is_equivalence_2 x182 2) fun c185 => .ok (!decide (c185 = false))) fun c186 => if c186 = true then .ok (.ret false) else .ok (.nx ())) (h := (fun q => q)) (fun (a205 : Unit) (st : DSt) => ∃ (j206 : (Option D)), st = [.sh (D.scr script), .ow (List.map eI c113.2), .sh (eI c3.1), .sh ((eL (eP2 eI eI)) c6.1), .sh ((eL (eP2 eI eI)) c9.1), .sh ((eT eI) c11), .sh ((eT eI) c12), .sh ((eT eI) c33), .sh (eB c48), .sh (eB c154), .ow (List.map (eT eI) c57), .sh ((eL eD) c65.1), .sh ((eT eI) c113.1), .sh (eB c153), jk j206, .no, .no]) ⟨j176, rfl⟩ (fun | x182, a183, _, ⟨j184, rfl⟩ => ⟨[.sh (D.scr script), .ow (List.map eI c113.2), .sh (eI c3.1), .sh ((eL (eP2 eI eI)) c6.1), .sh ((eL (eP2 eI eI)) c9.1), .sh ((eT eI) c11), .sh ((eT eI) c12), .sh ((eT eI) c33), .sh (eB c48), .sh (eB c154), .ow (List.map (eT eI) c57), .sh ((eL eD) c65.1), .sh ((eT eI) c113.1), .sh (eB c153), .sh (eD x182), .no, .no], rfl, (rs_last (rs_bindG (re_tst (re_dOp2 (re_bindG (re_dCall (re_consP (rv_var rfl) (re_consP rv_ret (re_nil (re_liftM (S_is_equivalence_2 x182 2)))))) fun c185 => (re_bindP rv_ret (re_rv (w := eB) (rv_lift (y := (eB (!decide (c185 = false)))) rfl)))))) fun c186 => (rs_ite (fun _ => (rs_bindP rv_ret (rs_ret ⟨⟨_, rfl⟩, (.inl rfl)⟩))) (fun _ => (rs_nx (rs_end ⟨rfl, (some (eD x182)), rfl⟩))))))⟩) (fun | a187, _, ⟨j188, rfl⟩ => (rs_bindP (rv_dItems (rv_bind (rv_frzN (d := ((eL eD) [(eB true), (eB false), (eU ()), (eS ("1" : Str)), ((eT eI) [1]), ((eL eI) [1])])) (rv_dLst (rv_cons (rv_eq rv_ret rfl) (rv_cons (rv_eq rv_ret rfl) (rv_cons (rv_eq rv_ret rfl) (rv_cons (rv_eq rv_ret rfl) (rv_cons (rv_eq (rv_dTup (rv_cons rv_ret (rv_nil (rv_lift (y := ((eT eI) [1])) (op_tup (by exact Nat.le_of_ble_eq_true rfl) rfl))))) rfl) (rv_cons (rv_eq (rv_frzN (d := ((eL eI) [1])) (rv_dLst (rv_cons rv_ret (rv_nil (rv_lift (y := ((List.map eI) [1])) (op_lst (by exact Nat.le_of_ble_eq_true rfl) rfl))))) rfl) rfl) (rv_nil (rv_lift (y := ((List.map eD) [(eB true), (eB false), (eU ()), (eS ("1" : Str)), ((eT eI) [1]), ((eL eI) [1])])) (op_lst (by exact Nat.le_of_ble_eq_true rfl) rfl)))))))))) rfl) (rv_lift (y := ((List.map eD) [(eB true), (eB false), (eU ()), (eS ("1" : Str)), ((eT eI) [1]), ((eL eI) [1])])) rfl))) (rs_for1 (e := eD) (xs := [(eB true), (eB false), (eU ()), (eS ("1" : Str)), ((eT eI) [1]), ((eL eI) [1])]) (a := ()) (f := fun (x194 : D) (a195 : Unit) => M.bind (M.bind (P_is_integer_2 x194) fun c197 => .ok (!decide (c197 = false))) fun c198 => if c198 = true then .ok (.ret false) else .ok (.nx ())) (h := (fun q => q)) (fun (a203 : Unit) (st : DSt) => ∃ (j204 : (Option D)), st = [.sh (D.scr script), .ow (List.map eI c113.2), .sh (eI c3.1), .sh ((eL (eP2 eI eI)) c6.1), .sh ((eL (eP2 eI eI)) c9.1), .sh ((eT eI) c11), .sh ((eT eI) c12), .sh ((eT eI) c33), .sh (eB c48), .sh (eB c154), .ow (List.map (eT eI) c57), .sh ((eL eD) c65.1), .sh ((eT eI) c113.1), .sh (eB c153), jk j204, .no, .no]) ⟨j188, rfl⟩ (fun | x194, a195, _, ⟨j196, rfl⟩ => ⟨[.sh (D.scr script), .ow (List.map eI c113.2), .sh (eI c3.1), .sh ((eL (eP2 eI eI)) c6.1), .sh ((eL (eP2 eI eI)) c9.1), .sh ((eT eI) c11), .sh ((eT eI) c12), .sh ((eT eI) c33), .sh (eB c48), .sh (eB c154), .ow (List.map (eT eI) c57), .sh ((eL eD) c65.1), .sh ((eT eI) c113.1), .sh (eB c153), .sh (eD x194), .no, .no], rfl, (rs_last (rs_bindG (re_tst (re_dOp2 (re_bindG (re_dCall (re_consP (rv_var rfl) (re_nil (re_liftM (S_is_integer_2 x194))))) fun c197 => (re_bindP rv_ret (re_rv (w := eB) (rv_lift (y := (eB (!decide (c197 = false)))) rfl)))))) fun c198 => (rs_ite (fun _ => (rs_bindP rv_ret (rs_ret ⟨⟨_, rfl⟩, (.inl rfl)⟩))) (fun _ => (rs_nx (rs_end ⟨rfl, (some (eD x194)), rfl⟩))))))⟩) (fun | a199, _, ⟨j200, rfl⟩ => (rs_last (rs_bindG (re_dOp2 (re_bindG (re_dCall (re_consP (rv_dOp2 (rv_bind (rv_var rfl) (rv_bind rv_ret (rv_lift (y := (eI (c3.1 - 3))) rfl)))) (re_nil (re_liftM (S_is_integer (c3.1 - 3)))))) fun c201 => (re_bindP rv_ret (re_rv (w := eB) (rv_lift (y := (eB (decide (c201 = true)))) rfl))))) fun c202 => (rs_ret (.inl rfl))))))))))))))))))))))))))))))))))))))))))))))))))))))))))))))))))

end LAW

namespace LAW
open DL PySem L2
/-! ### the draws -/
theorem take_d {m : Int} (h0 : 0 < m) (h1 : m < 1073741824) : Draw (fun r => P__law_take r m) (fun v => 0 ≤ v ∧ v < m) := by
  rintro _ ⟨s, t, rfl, g⟩
  have e0 : pAt [s, t] 0 = .ok s := rfl
  have e1 : pAt [s, t] 1 = .ok t := rfl
  have e2 : ∀ v, pSet [s, t] 0 v = .ok [v, t] := fun _ => rfl
  have e3 : ∀ v, pSet [s, t] 1 v = .ok [s, v] := fun _ => rfl
  have e4 : ∀ s v : Int, pAt [s, v] 1 = .ok v := fun _ _ => rfl
  by_cases hs : 0 < s
  · refine ⟨(s % m, [s / m, t]), ?_, ⟨Int.emod_nonneg _ (by omega), Int.emod_lt_of_pos _ h0⟩, s / m, t, rfl, ⟨Int.ediv_nonneg g.s0 (by omega), g.t0, g.t1⟩⟩
    simp [P__law_take, e0, e1, e2, hs, pMod_ok h0, pDiv_ok h0 h1]
  · refine ⟨((((t * 48271 + 11) % 2147483647) / 7) % m, [s, (t * 48271 + 11) % 2147483647]), ?_, ⟨Int.emod_nonneg _ (by omega), Int.emod_lt_of_pos _ h0⟩, s, _, rfl, ⟨g.s0, Int.emod_nonneg _ (by decide), Int.emod_lt_of_pos _ (by decide)⟩⟩
    have q1 : pMul t 48271 = .ok (t * 48271) := pMul_ok2 (by decide)
    have q2 : ∀ x, pMod x 2147483647 = .ok (x % 2147483647) := fun x => pMod_ok (by decide)
    have q3 : ∀ x, pDiv x 7 = .ok (x / 7) := fun x => pDiv_ok (by decide) (by decide)
    simp [P__law_take, e0, e1, e2, e3, e4, hs, q1, q2, q3, pMod_ok h0]
theorem state_d (ns : List Int) : Ok (P__law_state ns) StOk := by
  unfold P__law_state
  refine Ok.bind (P := fun a => Good a.1 a.2) (Ok.fold_all _ ⟨by decide, by decide, by decide⟩ fun x _ a g => ?_) fun a g => ⟨_, rfl, _, _, rfl, g⟩
  rw [pMul_ok2 (by decide), pMul_ok2 (by decide)]
  simp only [bind_ok]
  rw [pMod_ok (by decide)]
  refine Ok.pure ⟨?_, Int.emod_nonneg _ (by decide), Int.emod_lt_of_pos _ (by decide)⟩
  have := g.s0
  show 0 ≤ _ + _
  split <;> omega
end LAW

namespace LAW
open DL PySem L2
/-- an equivalence, as the law makes them -/
def eqv (n : Int) (r : List Int) : Bool := decide ((r.length : Int) = n) && (rng n).all fun x => decide (0 ≤ ix r x) && decide (ix r x ≤ x) && decide (ix r (ix r x) = ix r x)
def isF (o : M Bool) : Bool := match o with | .ok false => true | _ => false
theorem isF_eq {o : M Bool} (h : isF o = true) : o = .ok false := by
  unfold isF at h; split at h
  · rfl
  · cases h
structure Eqv (n : Int) (r : List Int) : Prop where
  len : (r.length : Int) = n
  ge : ∀ x, 0 ≤ x → x < n → 0 ≤ ix r x
  le : ∀ x, 0 ≤ x → x < n → ix r x ≤ x
  id : ∀ x, 0 ≤ x → x < n → ix r (ix r x) = ix r x
theorem eqv_iff {n : Int} {r : List Int} : eqv n r = true ↔ Eqv n r := by
  unfold eqv
  simp only [Bool.and_eq_true, decide_eq_true_eq, List.all_eq_true]
  constructor
  · intro ⟨h1, h2⟩
    exact ⟨h1, fun x a b => (h2 x (mem_rng.mpr ⟨a, b⟩)).1.1, fun x a b => (h2 x (mem_rng.mpr ⟨a, b⟩)).1.2, fun x a b => (h2 x (mem_rng.mpr ⟨a, b⟩)).2⟩
  · intro h
    exact ⟨h.len, fun x hx => by rw [mem_rng] at hx; exact ⟨⟨h.ge x hx.1 hx.2, h.le x hx.1 hx.2⟩, h.id x hx.1 hx.2⟩⟩
theorem Eqv.lt {n : Int} {r : List Int} (E : Eqv n r) {x : Int} (a : 0 ≤ x) (b : x < n) : 0 ≤ ix r x ∧ ix r x < n := ⟨E.ge x a b, by have := E.le x a b; omega⟩
theorem Eqv.at {n : Int} {r : List Int} (E : Eqv n r) {x : Int} (a : 0 ≤ x) (b : x < n) : pAt r x = .ok (ix r x) := pAt_ok a (by rw [E.len]; exact b)
def keepB (n : Int) (T : List (List Int)) (r : List Int) : Bool := (rng n).all fun x => (rng n).all fun z => decide (ix r (mul T x z) = ix r (mul T (ix r x) z)) && decide (ix r (mul T z x) = ix r (mul T z (ix r x)))
def tornB (n : Int) (T : List (List Int)) (r : List Int) (x y : Int) : Bool := (rng n).all fun z => decide (ix r (mul T x z) = ix r (mul T y z)) && decide (ix r (mul T z x) = ix r (mul T z y))
def lkeepB (n : Int) (T : List (List Int)) (r : List Int) : Bool := (rng n).all fun x => (rng x).all fun y => !decide (ix r x = ix r y) || tornB n T r x y
def Keep (n : Int) (T : List (List Int)) (r : List Int) : Prop := ∀ x y z, 0 ≤ x → x < n → 0 ≤ y → y < n → 0 ≤ z → z < n → ix r x = ix r y → ix r (mul T x z) = ix r (mul T y z) ∧ ix r (mul T z x) = ix r (mul T z y)
theorem keepB_iff {n : Int} {T : List (List Int)} {r : List Int} (E : Eqv n r) : keepB n T r = true ↔ Keep n T r := by
  unfold keepB
  simp only [Bool.and_eq_true, decide_eq_true_eq, List.all_eq_true]
  constructor
  · intro h x y z a b c d e f q
    have h1 := h x (mem_rng.mpr ⟨a, b⟩) z (mem_rng.mpr ⟨e, f⟩)
    have h2 := h y (mem_rng.mpr ⟨c, d⟩) z (mem_rng.mpr ⟨e, f⟩)
    rw [h1.1, h1.2, h2.1, h2.2, q]; exact ⟨rfl, rfl⟩
  · intro h x hx z hz
    rw [mem_rng] at hx hz
    have := E.lt hx.1 hx.2
    exact h x (ix r x) z hx.1 hx.2 this.1 this.2 hz.1 hz.2 (E.id x hx.1 hx.2).symm
theorem lkeepB_iff {n : Int} {T : List (List Int)} {r : List Int} : lkeepB n T r = true ↔ Keep n T r := by
  unfold lkeepB tornB
  simp only [Bool.and_eq_true, Bool.or_eq_true, Bool.not_eq_true', decide_eq_true_eq, decide_eq_false_iff_not, List.all_eq_true]
  constructor
  · intro h x y z a b c d e f q
    rcases Int.lt_trichotomy x y with l | l | l
    · rcases h y (mem_rng.mpr ⟨c, d⟩) x (mem_rng.mpr ⟨a, l⟩) with w | w
      · exact absurd q.symm w
      · have := w z (mem_rng.mpr ⟨e, f⟩); exact ⟨this.1.symm, this.2.symm⟩
    · subst l; exact ⟨rfl, rfl⟩
    · rcases h x (mem_rng.mpr ⟨a, b⟩) y (mem_rng.mpr ⟨c, l⟩) with w | w
      · exact absurd q w
      · exact w z (mem_rng.mpr ⟨e, f⟩)
  · intro h x hx y hy
    rw [mem_rng] at hx hy
    by_cases q : ix r x = ix r y
    · refine .inr fun z hz => ?_
      rw [mem_rng] at hz
      exact h x y z hx.1 hx.2 hy.1 (by omega) hz.1 hz.2 q
    · exact .inl q
theorem keep_same {n : Int} {T : List (List Int)} {r : List Int} (E : Eqv n r) : lkeepB n T r = keepB n T r := by
  rw [Bool.eq_iff_iff, lkeepB_iff, keepB_iff E]
theorem eqv_rng {n : Int} (n0 : 0 ≤ n) : Eqv n (rng n) := by
  refine ⟨by simp; omega, fun x a b => ?_, fun x a b => ?_, fun x a b => ?_⟩
  · rw [ix_rng a b]; exact a
  · rw [ix_rng a b]; omega
  · rw [ix_rng a b, ix_rng a b]
theorem ix_rep {n x : Int} (a : 0 ≤ x) (b : x < n) : ix (List.replicate n.toNat (0 : Int)) x = 0 := by
  unfold ix
  rw [List.getD_eq_getElem?_getD, List.getElem?_replicate]
  rw [if_pos (by omega)]; rfl
theorem eqv_zero {n : Int} (n1 : 1 ≤ n) : Eqv n (List.replicate n.toNat 0) := by
  refine ⟨by simp; omega, fun x a b => ?_, fun x a b => ?_, fun x a b => ?_⟩
  · rw [ix_rep a b]; omega
  · rw [ix_rep a b]; exact a
  · rw [ix_rep a b, ix_rep (by omega) (by omega)]
end LAW

namespace LAW
open DL PySem L2
theorem iseq_d {n : Int} {r : List Int} (hn : n ≤ 1000) (n0 : 0 ≤ n) (E : Eqv n r) : P_is_equivalence r n = .ok true := by
  unfold P_is_equivalence
  rw [E.len]
  simp only [decide_true, Bool.not_true, Bool.or_false, Bool.false_eq_true, if_false, pRng_ok n0 (show n ≤ 16777216 by omega), bind_ok]
  rw [pfor_all fun x hx => ?_]
  · rfl
  · rw [mem_rng] at hx
    have h1 := E.lt hx.1 hx.2
    have h2 := E.le x hx.1 hx.2
    have e1 : decide (ix r x < 0) = false := decide_eq_false (by omega)
    have e2 : decide (ix r x > x) = false := decide_eq_false (by omega)
    simp only [E.at hx.1 hx.2, bind_ok, P_is_integer, E.at h1.1 h1.2, E.id x hx.1 hx.2, e1, e2, decide_true, Bool.not_false, Bool.and_true, Bool.not_true, Bool.false_eq_true, if_false]
end LAW

namespace LAW
open DL PySem L2
/-! ### rows of least elements merged; what classes_of makes -/
def lo (a b : Int) : Int := if b < a then b else a
def hi (a b : Int) : Int := if b > a then b else a
def mg (r : List Int) (x y : Int) : List Int := r.map fun c => if c = hi (ix r x) (ix r y) then lo (ix r x) (ix r y) else c
theorem lohi (a b : Int) : (lo a b = a ∧ hi a b = b ∧ a ≤ b) ∨ (lo a b = b ∧ hi a b = a ∧ b ≤ a) := by
  unfold lo hi
  by_cases h : b < a
  · right; rw [if_pos h, if_neg (by omega)]; exact ⟨rfl, rfl, by omega⟩
  · left; rw [if_neg h]
    by_cases h2 : b > a
    · rw [if_pos h2]; exact ⟨rfl, rfl, by omega⟩
    · rw [if_neg h2]; exact ⟨rfl, by omega, by omega⟩
def heads (n : Int) (r : List Int) : List Int := (rng n).filter fun x => decide (ix r x = x)
section
variable {n : Int} {r : List Int} {u v : Int}
theorem mg_at (E : Eqv n r) {x : Int} (a : 0 ≤ x) (b : x < n) : ix (mg r u v) x = if ix r x = hi (ix r u) (ix r v) then lo (ix r u) (ix r v) else ix r x := by
  unfold mg
  rw [ix_map a (by rw [E.len]; exact b)]
theorem mg_eqv (E : Eqv n r) (hu : 0 ≤ u ∧ u < n) (hv : 0 ≤ v ∧ v < n) (hne : ix r u ≠ ix r v) : Eqv n (mg r u v) := by
  have lu := E.lt hu.1 hu.2
  have lv := E.lt hv.1 hv.2
  have iu := E.id u hu.1 hu.2
  have iv := E.id v hv.1 hv.2
  have hlo : 0 ≤ lo (ix r u) (ix r v) ∧ lo (ix r u) (ix r v) < n ∧ ix r (lo (ix r u) (ix r v)) = lo (ix r u) (ix r v) ∧ lo (ix r u) (ix r v) < hi (ix r u) (ix r v) := by
    rcases lohi (ix r u) (ix r v) with ⟨e1, e2, h⟩ | ⟨e1, e2, h⟩
    · rw [e1, e2]; exact ⟨lu.1, lu.2, iu, by omega⟩
    · rw [e1, e2]; exact ⟨lv.1, lv.2, iv, by omega⟩
  obtain ⟨l1, l2, l3, l4⟩ := hlo
  refine ⟨by unfold mg; rw [List.length_map]; exact E.len, fun x a b => ?_, fun x a b => ?_, fun x a b => ?_⟩
  · rw [mg_at E a b]; split
    · exact l1
    · exact E.ge x a b
  · have := E.le x a b
    rw [mg_at E a b]; split
    · rename_i h; omega
    · exact this
  · have h1 := E.lt a b
    rw [mg_at E a b]; split
    · rw [mg_at E l1 l2, l3, if_neg (by omega)]
    · rename_i h
      rw [mg_at E h1.1 h1.2, E.id x a b, if_neg h]
/-- what the merged one puts together -/
theorem mg_same (E : Eqv n r) {x y : Int} (hx : 0 ≤ x ∧ x < n) (hy : 0 ≤ y ∧ y < n) (h : ix (mg r u v) x = ix (mg r u v) y) : ix r x = ix r y ∨ (ix r x = ix r u ∧ ix r y = ix r v) ∨ (ix r x = ix r v ∧ ix r y = ix r u) := by
  rw [mg_at E hx.1 hx.2, mg_at E hy.1 hy.2] at h
  rcases lohi (ix r u) (ix r v) with ⟨e1, e2, _⟩ | ⟨e1, e2, _⟩
  all_goals
    rw [e1, e2] at h
    split at h <;> split at h <;> omega
theorem mg_coarse (E : Eqv n r) {x y : Int} (hx : 0 ≤ x ∧ x < n) (hy : 0 ≤ y ∧ y < n) (h : ix r x = ix r y) : ix (mg r u v) x = ix (mg r u v) y := by
  rw [mg_at E hx.1 hx.2, mg_at E hy.1 hy.2, h]
theorem mg_joins (E : Eqv n r) (hu : 0 ≤ u ∧ u < n) (hv : 0 ≤ v ∧ v < n) : ix (mg r u v) u = ix (mg r u v) v := by
  rw [mg_at E hu.1 hu.2, mg_at E hv.1 hv.2]
  rcases lohi (ix r u) (ix r v) with ⟨e1, e2, _⟩ | ⟨e1, e2, _⟩
  all_goals
    rw [e1, e2]
    split <;> split <;> omega
theorem heads_mem {x : Int} : x ∈ heads n r ↔ 0 ≤ x ∧ x < n ∧ ix r x = x := by
  unfold heads
  rw [List.mem_filter, mem_rng, decide_eq_true_eq]
  exact and_assoc
theorem mg_eq (h : ix r u = ix r v) : mg r u v = r := by
  unfold mg
  rcases lohi (ix r u) (ix r v) with ⟨e1, e2, _⟩ | ⟨e1, e2, _⟩
  all_goals
    rw [e1, e2, h]
    conv => rhs; rw [← List.map_id r]
    refine List.map_congr_left fun c _ => ?_
    split
    · rename_i q; rw [q]; rfl
    · rfl
theorem mg_eqv' (E : Eqv n r) (hu : 0 ≤ u ∧ u < n) (hv : 0 ≤ v ∧ v < n) : Eqv n (mg r u v) := by
  by_cases h : ix r u = ix r v
  · rw [mg_eq h]; exact E
  · exact mg_eqv E hu hv h
end
/-- put together by every function that takes the pairs together -/
def SimP (ps : List (Int × Int)) (x y : Int) : Prop := ∀ c : Int → Int, (∀ p ∈ ps, c p.1 = c p.2) → c x = c y
theorem SimP.rfl {ps : List (Int × Int)} {x : Int} : SimP ps x x := fun _ _ => Eq.refl _
theorem SimP.symm {ps : List (Int × Int)} {x y : Int} (h : SimP ps x y) : SimP ps y x := fun c q => (h c q).symm
theorem SimP.trans {ps : List (Int × Int)} {x y z : Int} (h : SimP ps x y) (h2 : SimP ps y z) : SimP ps x z := fun c q => (h c q).trans (h2 c q)
theorem SimP.of {ps : List (Int × Int)} {p : Int × Int} (h : p ∈ ps) : SimP ps p.1 p.2 := fun _ q => q p h
def InP (n : Int) (ps : List (Int × Int)) : Prop := ∀ p ∈ ps, (0 ≤ p.1 ∧ p.1 < n) ∧ 0 ≤ p.2 ∧ p.2 < n
/-- the row of the least equivalence with the pairs -/
structure ClsOf (n : Int) (ps : List (Int × Int)) (r : List Int) : Prop where
  e : Eqv n r
  on : ∀ p ∈ ps, ix r p.1 = ix r p.2
  of : ∀ x y, 0 ≤ x → x < n → 0 ≤ y → y < n → ix r x = ix r y → SimP ps x y
theorem ClsOf.iff {n : Int} {ps : List (Int × Int)} {r : List Int} (C : ClsOf n ps r) {x y : Int} (hx : 0 ≤ x ∧ x < n) (hy : 0 ≤ y ∧ y < n) : ix r x = ix r y ↔ SimP ps x y :=
  ⟨C.of x y hx.1 hx.2 hy.1 hy.2, fun h => h (fun z => ix r z) C.on⟩
theorem ClsOf.step {n : Int} {ps : List (Int × Int)} {r : List Int} {p : Int × Int} (C : ClsOf n ps r) (h : (0 ≤ p.1 ∧ p.1 < n) ∧ 0 ≤ p.2 ∧ p.2 < n) (hin : InP n ps) : ClsOf n (ps ++ [p]) (mg r p.1 p.2) := by
  refine ⟨mg_eqv' C.e h.1 h.2, fun q hq => ?_, fun x y x0 x1 y0 y1 e => ?_⟩
  · rcases List.mem_append.mp hq with hq | hq
    · exact mg_coarse C.e (hin q hq).1 (hin q hq).2 (C.on q hq)
    · rw [List.mem_singleton.mp hq]; exact mg_joins C.e h.1 h.2
  · intro c hc
    have hc1 : ∀ q ∈ ps, c q.1 = c q.2 := fun q hq => hc q (List.mem_append_left _ hq)
    have hp : c p.1 = c p.2 := hc p (List.mem_append_right _ (List.mem_singleton.mpr (Eq.refl _)))
    have s : ∀ {a b : Int}, 0 ≤ a ∧ a < n → 0 ≤ b ∧ b < n → ix r a = ix r b → c a = c b := fun ha hb q => C.of _ _ ha.1 ha.2 hb.1 hb.2 q c hc1
    rcases mg_same C.e ⟨x0, x1⟩ ⟨y0, y1⟩ e with q | ⟨q1, q2⟩ | ⟨q1, q2⟩
    · exact s ⟨x0, x1⟩ ⟨y0, y1⟩ q
    · rw [s ⟨x0, x1⟩ h.1 q1, s ⟨y0, y1⟩ h.2 q2, hp]
    · rw [s ⟨x0, x1⟩ h.2 q1, s ⟨y0, y1⟩ h.1 q2, hp]
theorem ClsOf.start {n : Int} (n0 : 0 ≤ n) : ClsOf n [] (rng n) := by
  refine ⟨eqv_rng n0, (fun p hp => absurd hp List.not_mem_nil), fun x y x0 x1 y0 y1 e => ?_⟩
  rw [ix_rng x0 x1, ix_rng y0 y1] at e
  rw [e]; exact SimP.rfl
theorem classes_of_d {n : Int} {ps : List (Int × Int)} (n0 : 0 ≤ n) (n1 : n ≤ 1000) (hin : InP n ps) : ∃ r, P_classes_of ps n = .ok r ∧ ClsOf n ps r := by
  have hb : big = 16777216 := rfl
  unfold P_classes_of
  rw [pRng_ok n0 (by omega), bind_ok]
  obtain ⟨b, h1, h2⟩ := pfold_inv (F := fun (x16 : (Int × Int)) (a17 : (List Int)) => M.bind (M.bind (pAt a17 x16.1) fun c22 => M.bind (pAt a17 x16.2) fun c23 => .ok (if c23 < c22 then c23 else c22)) fun c24 => M.bind (M.bind (pAt a17 x16.1) fun c25 => M.bind (pAt a17 x16.2) fun c26 => .ok (if c26 > c25 then c26 else c25)) fun c27 => M.bind (pMap (fun (x28 : Int) => .ok (if (decide (x28 = c27)) = true then c24 else x28)) a17) fun c29 => .ok c29)
    (fun p a => ClsOf n p a) ps [] (rng n) (ClsOf.start n0) fun p x q a e C => by
    rw [List.nil_append] at e
    have hx := hin x (by rw [e]; exact List.mem_append_right _ List.mem_cons_self)
    have hl := C.e.len
    refine ⟨mg a x.1 x.2, ?_, C.step hx fun y hy => hin y (by rw [e]; exact List.mem_append_left _ hy)⟩
    simp only [C.e.at hx.1.1 hx.1.2, C.e.at hx.2.1 hx.2.2, bind_ok]
    rw [pMap_ok (fun c => if c = hi (ix a x.1) (ix a x.2) then lo (ix a x.1) (ix a x.2) else c) (by omega) (fun c _ => by
      unfold hi lo
      simp only [decide_eq_true_eq]), bind_ok]
    rfl
  rw [List.nil_append] at h2
  exact ⟨b, by rw [h1, bind_ok], h2⟩
/-- a row is told by what it puts together -/
theorem eqv_ext {n : Int} {a b : List Int} (A : Eqv n a) (B : Eqv n b) (h : ∀ x y, 0 ≤ x → x < n → 0 ≤ y → y < n → (ix a x = ix a y ↔ ix b x = ix b y)) : a = b := by
  have hl : (a.length : Int) = n := A.len
  refine ix_ext (by have := B.len; omega) fun x x0 x1 => ?_
  have la := A.lt x0 (by omega)
  have lb := B.lt x0 (by omega)
  have e1 := (h (ix a x) x la.1 la.2 x0 (by omega)).mp (A.id x x0 (by omega))
  have e2 := (h (ix b x) x lb.1 lb.2 x0 (by omega)).mpr (B.id x x0 (by omega))
  have h1 := B.le (ix a x) la.1 la.2
  have h2 := A.le (ix b x) lb.1 lb.2
  rw [e1] at h1
  rw [e2] at h2
  omega
theorem enumI_mem {α : Type} [Inhabited α] : ∀ (k : Nat) (xs : List α) (p : Int × α), p ∈ enumI k xs ↔ ∃ i : Nat, i < xs.length ∧ p = (((k + i : Nat) : Int), ix xs (i : Int))
  | k, [], p => by simp [enumI]
  | k, x :: xs, p => by
    have ih := enumI_mem (k + 1) xs p
    show p ∈ ((k : Int), x) :: enumI (k + 1) xs ↔ _
    rw [List.mem_cons, ih]
    constructor
    · rintro (rfl | ⟨i, hi, rfl⟩)
      · exact ⟨0, by simp, by simp [ix]⟩
      · refine ⟨i + 1, by simp; omega, ?_⟩
        rw [show k + 1 + i = k + (i + 1) by omega]
        congr 1 <;> simp [ix]
    · rintro ⟨i, hi, rfl⟩
      cases i with
      | zero => left; simp [ix]
      | succ i =>
        right
        refine ⟨i, by simp at hi; omega, ?_⟩
        rw [show k + 1 + i = k + (i + 1) by omega]
        congr 1 <;> simp [ix]
theorem enumI_row {n : Int} {r : List Int} (E : Eqv n r) {p : Int × Int} : p ∈ enumI 0 r ↔ (0 ≤ p.1 ∧ p.1 < n) ∧ p.2 = ix r p.1 := by
  rw [enumI_mem]
  have hl := E.len
  constructor
  · rintro ⟨i, hi, rfl⟩
    exact ⟨⟨by simp, by simp; omega⟩, by simp⟩
  · rintro ⟨⟨h0, h1⟩, h2⟩
    refine ⟨p.1.toNat, by omega, ?_⟩
    obtain ⟨a, b⟩ := p
    simp only at h0 h1 h2 ⊢
    rw [Nat.zero_add, Int.toNat_of_nonneg h0, h2]
theorem enumI_len {α : Type} : ∀ (k : Nat) (xs : List α), (enumI k xs).length = xs.length
  | _, [] => rfl
  | k, _ :: xs => by show (enumI (k + 1) xs).length + 1 = _; rw [enumI_len (k + 1) xs]; rfl
theorem joined_d {n : Int} {a b : List Int} (n0 : 0 ≤ n) (n1 : n ≤ 1000) (A : Eqv n a) (B : Eqv n b) : ∃ r, P_joined a b = .ok r ∧ ClsOf n (enumI 0 a ++ enumI 0 b) r := by
  have hb : big = 16777216 := rfl
  have la := A.len
  have lb := B.len
  have hin : InP n (enumI 0 a ++ enumI 0 b) := fun p hp => by
    rcases List.mem_append.mp hp with hp | hp
    · obtain ⟨h, e⟩ := (enumI_row A).mp hp
      exact ⟨h, by rw [e]; exact A.lt h.1 h.2⟩
    · obtain ⟨h, e⟩ := (enumI_row B).mp hp
      exact ⟨h, by rw [e]; exact B.lt h.1 h.2⟩
  obtain ⟨r, h1, h2⟩ := classes_of_d n0 n1 hin
  refine ⟨r, ?_, h2⟩
  unfold P_joined pEnum
  rw [if_pos (by omega), if_pos (by omega), bind_ok, bind_ok, pCat_ok (by rw [enumI_len, enumI_len]; omega), bind_ok, la, h1, bind_ok]
/-- what two rows put together -/
theorem join_iff {n : Int} {a b : List Int} (A : Eqv n a) (B : Eqv n b) {x y : Int} : SimP (enumI 0 a ++ enumI 0 b) x y ↔ ∀ c : Int → Int, (∀ i, 0 ≤ i → i < n → c i = c (ix a i) ∧ c i = c (ix b i)) → c x = c y := by
  constructor
  · intro h c hc
    refine h c fun p hp => ?_
    rcases List.mem_append.mp hp with hp | hp
    · obtain ⟨q, e⟩ := (enumI_row A).mp hp
      rw [e]; exact (hc _ q.1 q.2).1
    · obtain ⟨q, e⟩ := (enumI_row B).mp hp
      rw [e]; exact (hc _ q.1 q.2).2
  · intro h c hc
    refine h c fun i i0 i1 => ⟨?_, ?_⟩
    · exact hc (i, ix a i) (List.mem_append_left _ ((enumI_row A).mpr ⟨⟨i0, i1⟩, Eq.refl _⟩))
    · exact hc (i, ix b i) (List.mem_append_right _ ((enumI_row B).mpr ⟨⟨i0, i1⟩, Eq.refl _⟩))
end LAW

namespace LAW
open DL PySem L2
/-! ### tables of truth values -/
def mB (M : List (List Bool)) (x y : Int) : Bool := ix (ix M x) y
structure SqB (n : Int) (M : List (List Bool)) : Prop where
  len : (M.length : Int) = n
  row : ∀ r ∈ M, (r.length : Int) = n
def setB (M : List (List Bool)) (k l : Int) (v : Bool) : List (List Bool) := M.set k.toNat ((ix M k).set l.toNat v)
section
variable {n : Int} {M : List (List Bool)} {k l i j : Int} {v : Bool}
theorem SqB.rlen (V : SqB n M) (h0 : 0 ≤ i) (h1 : i < n) : ((ix M i).length : Int) = n := V.row _ (ix_mem h0 (by rw [V.len]; exact h1))
theorem SqB.at1 (V : SqB n M) (h0 : 0 ≤ i) (h1 : i < n) : pAt M i = .ok (ix M i) := pAt_ok h0 (by rw [V.len]; exact h1)
theorem SqB.at2 (V : SqB n M) (h0 : 0 ≤ i) (h1 : i < n) (h2 : 0 ≤ j) (h3 : j < n) : pAt (ix M i) j = .ok (mB M i j) := pAt_ok h2 (by rw [V.rlen h0 h1]; exact h3)
theorem pSetB_ok (V : SqB n M) (h0 : 0 ≤ k) (h1 : k < n) (h2 : 0 ≤ l) (h3 : l < n) : pSet2 M k l v = .ok (setB M k l v) := by
  unfold pSet2 setB
  rw [pAt_ok h0 (by rw [V.len]; exact h1), bind_ok, pSet_ok h2 (by rw [V.rlen h0 h1]; exact h3), bind_ok, pSet_ok h0 (by rw [V.len]; exact h1)]
theorem SqB.set (V : SqB n M) (h0 : 0 ≤ k) (h1 : k < n) : SqB n (setB M k l v) := by
  refine ⟨by unfold setB; rw [List.length_set]; exact V.len, fun r hr => ?_⟩
  rcases List.mem_or_eq_of_mem_set hr with hr | rfl
  · exact V.row r hr
  · rw [List.length_set]; exact V.rlen h0 h1
theorem mB_set (V : SqB n M) (h0 : 0 ≤ k) (h1 : k < n) (h2 : 0 ≤ l) (h3 : l < n) (hi : 0 ≤ i) (hj : 0 ≤ j) : mB (setB M k l v) i j = if i = k ∧ j = l then v else mB M i j := by
  unfold mB setB
  rw [ix_set h0 (by rw [V.len]; exact h1) hi]
  by_cases e : i = k
  · subst e
    rw [if_pos rfl, ix_set h2 (by rw [V.rlen h0 h1]; exact h3) hj]
    simp
  · rw [if_neg e, if_neg (fun q => e q.1)]
end
theorem pMin_sp {xs : List Int} (h : xs ≠ []) : ∃ m, pMin xs = .ok m ∧ m ∈ xs ∧ ∀ y ∈ xs, m ≤ y := by
  obtain ⟨h1, h2⟩ := minL_spec h
  refine ⟨minL xs, ?_, h1, h2⟩
  unfold pMin
  rw [if_neg (by simpa using h)]
theorem pMin_is {xs : List Int} {m : Int} (h : m ∈ xs) (h2 : ∀ y ∈ xs, m ≤ y) : pMin xs = .ok m := by
  obtain ⟨m', e, i, j⟩ := pMin_sp (xs := xs) (fun z => by rw [z] at h; cases h)
  have := j m h
  have := h2 m' i
  rw [e]; congr 1; omega
/-! ### paths -/
def Bs (ps : List (Int × Int)) (x y : Int) : Prop := x = y ∨ (x, y) ∈ ps ∨ (y, x) ∈ ps
def Pth (ps : List (Int × Int)) : Nat → Int → Int → Prop
  | 0, x, y => Bs ps x y
  | z + 1, x, y => Pth ps z x y ∨ (Pth ps z x z ∧ Pth ps z z y)
theorem Pth.up {ps : List (Int × Int)} {x y : Int} : ∀ {z z' : Nat}, z ≤ z' → Pth ps z x y → Pth ps z' x y
  | z, 0, h, p => by rw [Nat.le_zero.mp h] at p; exact p
  | z, z' + 1, h, p => by
    rcases Nat.lt_or_ge z' z with q | q
    · have : z = z' + 1 := by omega
      rw [← this]; exact p
    · exact .inl (Pth.up q p)
theorem Pth.via {ps : List (Int × Int)} : ∀ (z : Nat) {w : Int} {x y : Int}, 0 ≤ w → w < z → Pth ps z x w → Pth ps z w y → Pth ps z x y
  | 0, w, x, y, h0, h1, _, _ => by omega
  | z + 1, w, x, y, h0, h1, a, b => by
    by_cases hw : w < z
    · have ih := fun {x y : Int} => Pth.via (ps := ps) z (w := w) (x := x) (y := y) h0 hw
      rcases a with a | ⟨a1, a2⟩ <;> rcases b with b | ⟨b1, b2⟩
      · exact .inl (ih a b)
      · exact .inr ⟨ih a b1, b2⟩
      · exact .inr ⟨a1, ih a2 b⟩
      · exact .inr ⟨a1, b2⟩
    · have : w = z := by omega
      subst this
      have a' : Pth ps z x z := by rcases a with a | ⟨a, _⟩ <;> exact a
      have b' : Pth ps z z y := by rcases b with b | ⟨_, b⟩ <;> exact b
      exact .inr ⟨a', b'⟩
theorem Pth.sim {ps : List (Int × Int)} : ∀ (z : Nat) {x y : Int}, Pth ps z x y → SimP ps x y
  | 0, x, y, h => by
    rcases h with h | h | h
    · rw [h]; exact SimP.rfl
    · exact SimP.of (p := (x, y)) h
    · exact (SimP.of (p := (y, x)) h).symm
  | z + 1, x, y, h => by
    rcases h with h | ⟨a, b⟩
    · exact Pth.sim z h
    · exact (Pth.sim z a).trans (Pth.sim z b)
theorem Pth.all {n : Int} {ps : List (Int × Int)} (hin : InP n ps) {x y : Int} (hx : 0 ≤ x ∧ x < n) (h : SimP ps x y) : Pth ps n.toNat x y := by
  have hb : ∀ a, Pth ps n.toNat a a := fun a => Pth.up (Nat.zero_le _) (.inl rfl)
  have key : ∀ p ∈ ps, (Pth ps n.toNat x p.1 ↔ Pth ps n.toNat x p.2) := fun p hp => by
    have e1 : Pth ps n.toNat p.1 p.2 := Pth.up (Nat.zero_le _) (.inr (.inl hp))
    have e2 : Pth ps n.toNat p.2 p.1 := Pth.up (Nat.zero_le _) (.inr (.inr hp))
    have := hin p hp
    exact ⟨fun q => Pth.via _ this.1.1 (by omega) q e1, fun q => Pth.via _ this.2.1 (by omega) q e2⟩
  open Classical in
  have := h (fun a => if Pth ps n.toNat x a then 1 else 0) fun p hp => by simp only [key p hp]
  simp only [hb x, if_true] at this
  by_cases q : Pth ps n.toNat x y
  · exact q
  · rw [if_neg q] at this; cases this
/-! ### the law's near -/
structure Wsh (n : Int) (ps : List (Int × Int)) (M : List (List Bool)) : Prop where
  sq : SqB n M
  so : ∀ x y, 0 ≤ x → x < n → 0 ≤ y → y < n → mB M x y = true → SimP ps x y
def WshM (n : Int) (M0 M : List (List Bool)) : Prop := ∀ x y, 0 ≤ x → x < n → 0 ≤ y → y < n → mB M0 x y = true → mB M x y = true
theorem near_d {n : Int} {ps : List (Int × Int)} (n0 : 0 ≤ n) (n1 : n ≤ 1000) (hin : InP n ps) {r : List Int} (C : ClsOf n ps r) : P__law_near ps n = .ok r := by
  have hb : big = 16777216 := rfl
  unfold P__law_near
  rw [pRng_ok n0 (by omega), bind_ok, pMap_ok (fun x => (rng n).map fun y => (decide (x = y) || (has (x, y) ps || has (y, x) ps))) (by simp; omega) (fun x _ => by
    rw [bind_ok, pMap_ok (fun y => (decide (x = y) || (has (x, y) ps || has (y, x) ps))) (by simp; omega) (fun y _ => rfl)]), bind_ok, bind_ok]
  generalize hM0 : (rng n).map (fun x => (rng n).map fun y => (decide (x = y) || (has (x, y) ps || has (y, x) ps))) = M0
  have m0 : ∀ x y, 0 ≤ x → x < n → 0 ≤ y → y < n → mB M0 x y = (decide (x = y) || (has (x, y) ps || has (y, x) ps)) := fun x y x0 x1 y0 y1 => by
    rw [← hM0]; unfold mB
    rw [ix_map_rng x0 x1, ix_map_rng y0 y1]
  have b0 : ∀ x y, 0 ≤ x → x < n → 0 ≤ y → y < n → (mB M0 x y = true ↔ Bs ps x y) := fun x y x0 x1 y0 y1 => by
    rw [m0 x y x0 x1 y0 y1]
    simp only [Bool.or_eq_true, decide_eq_true_eq, has_iff]
    rfl
  have w0 : Wsh n ps M0 := ⟨⟨by rw [← hM0]; simp; omega, fun r hr => by
    rw [← hM0] at hr
    obtain ⟨x, _, rfl⟩ := List.mem_map.mp hr
    simp; omega⟩, fun x y x0 x1 y0 y1 h => Pth.sim 0 ((b0 x y x0 x1 y0 y1).mp h)⟩
  obtain ⟨M, h1, w, hp⟩ := pfold_rng (F := fun (x97 : Int) (a98 : (List (List Bool))) => M.bind (M.ok (rng n)) fun c102 => M.bind (pfold (fun (x142 : Int) (a143 : (List (List Bool))) => M.bind (M.ok (rng n)) fun c146 => M.bind (pfold (fun (x162 : Int) (a163 : (List (List Bool))) => M.bind (M.bind (M.bind (pAt a163 x142) fun c165 => pAt c165 x162) fun c166 => if c166 = true then .ok true else M.bind (M.bind (pAt a163 x142) fun c171 => pAt c171 x97) fun c172 => if c172 = true then M.bind (pAt a163 x97) fun c174 => pAt c174 x162 else .ok false) fun c175 => M.bind (pSet2 a163 x142 x162 c175) fun c176 => .ok c176) c146 a143) fun (a177 : (List (List Bool))) => .ok a177) c102 a98) fun (a181 : (List (List Bool))) => .ok a181)
    (fun z a => Wsh n ps a ∧ ∀ x y, 0 ≤ x → x < n → 0 ≤ y → y < n → Pth ps z.toNat x y → mB a x y = true) n0 (a := M0) ⟨w0, fun x y x0 x1 y0 y1 h => (b0 x y x0 x1 y0 y1).mpr h⟩ fun z A z0 z1 hA => by
    obtain ⟨wA, pA⟩ := hA
    rw [bind_ok]
    obtain ⟨B, h2, wB, mAB, pB⟩ := pfold_rng (F := fun (x142 : Int) (a143 : (List (List Bool))) => M.bind (M.ok (rng n)) fun c146 => M.bind (pfold (fun (x162 : Int) (a163 : (List (List Bool))) => M.bind (M.bind (M.bind (pAt a163 x142) fun c165 => pAt c165 x162) fun c166 => if c166 = true then .ok true else M.bind (M.bind (pAt a163 x142) fun c171 => pAt c171 z) fun c172 => if c172 = true then M.bind (pAt a163 z) fun c174 => pAt c174 x162 else .ok false) fun c175 => M.bind (pSet2 a163 x142 x162 c175) fun c176 => .ok c176) c146 a143) fun (a177 : (List (List Bool))) => .ok a177)
      (fun x a => Wsh n ps a ∧ WshM n A a ∧ ∀ x' y, 0 ≤ x' → x' < x → 0 ≤ y → y < n → mB A x' z = true → mB A z y = true → mB a x' y = true) n0 (a := A) ⟨wA, fun _ _ _ _ _ _ h => h, fun x' y h0 h1 => by omega⟩ fun x B x0 x1 hB => by
      obtain ⟨wB, mAB, pB⟩ := hB
      rw [bind_ok]
      obtain ⟨E, h3, wE, mAE, pE, qE⟩ := pfold_rng (F := fun (x162 : Int) (a163 : (List (List Bool))) => M.bind (M.bind (M.bind (pAt a163 x) fun c165 => pAt c165 x162) fun c166 => if c166 = true then .ok true else M.bind (M.bind (pAt a163 x) fun c171 => pAt c171 z) fun c172 => if c172 = true then M.bind (pAt a163 z) fun c174 => pAt c174 x162 else .ok false) fun c175 => M.bind (pSet2 a163 x x162 c175) fun c176 => .ok c176)
        (fun y a => Wsh n ps a ∧ WshM n A a ∧ (∀ x' y, 0 ≤ x' → x' < x → 0 ≤ y → y < n → mB A x' z = true → mB A z y = true → mB a x' y = true) ∧ ∀ y', 0 ≤ y' → y' < y → mB A x z = true → mB A z y' = true → mB a x y' = true) n0 (a := B) ⟨wB, mAB, pB, fun y' h0 h1 => by omega⟩ fun y E y0 y1 hE => by
        obtain ⟨wE, mAE, pE, qE⟩ := hE
        have S := wE.sq
        have hv : (M.bind (M.bind (pAt E x) fun c165 => pAt c165 y) fun c166 => if c166 = true then .ok true else M.bind (M.bind (pAt E x) fun c171 => pAt c171 z) fun c172 => if c172 = true then M.bind (pAt E z) fun c174 => pAt c174 y else .ok false) = .ok (mB E x y || (mB E x z && mB E z y)) := by
          rw [S.at1 x0 x1, bind_ok, S.at2 x0 x1 y0 y1, bind_ok, bind_ok, S.at2 x0 x1 z0 z1, bind_ok, S.at1 z0 z1, bind_ok, S.at2 z0 z1 y0 y1]
          cases mB E x y <;> cases mB E x z <;> rfl
        rw [hv, bind_ok, pSetB_ok S x0 x1 y0 y1, bind_ok]
        have ms : ∀ i j, 0 ≤ i → i < n → 0 ≤ j → j < n → mB E i j = true → mB (setB E x y (mB E x y || (mB E x z && mB E z y))) i j = true := fun i j i0 i1 j0 j1 h => by
          rw [mB_set S x0 x1 y0 y1 i0 j0]
          split
          · rename_i q; rw [← q.1, ← q.2, h]; rfl
          · exact h
        refine ⟨_, rfl, ⟨S.set x0 x1, fun i j i0 i1 j0 j1 h => ?_⟩, fun i j i0 i1 j0 j1 h => ms i j i0 i1 j0 j1 (mAE i j i0 i1 j0 j1 h), fun i j i0 i1 j0 j1 h h' => ms i j i0 (by omega) j0 j1 (pE i j i0 i1 j0 j1 h h'), fun j j0 j1 h h' => ?_⟩
        · rw [mB_set S x0 x1 y0 y1 i0 j0] at h
          split at h
          · rename_i q
            rw [q.1, q.2]
            rcases Bool.or_eq_true_iff.mp h with h | h
            · exact wE.so x y x0 x1 y0 y1 h
            · have h := Bool.and_eq_true_iff.mp h
              exact (wE.so x z x0 x1 z0 z1 h.1).trans (wE.so z y z0 z1 y0 y1 h.2)
          · exact wE.so i j i0 i1 j0 j1 h
        · by_cases q : j = y
          · rw [q, mB_set S x0 x1 y0 y1 x0 y0, if_pos ⟨rfl, rfl⟩]
            have e1 := mAE x z x0 x1 z0 z1 h
            have e2 := mAE z y z0 z1 y0 y1 (by rw [← q]; exact h')
            rw [e1, e2]; simp
          · exact ms x j x0 x1 j0 (by omega) (qE j j0 (by omega) h h')
      rw [h3, bind_ok]
      refine ⟨E, rfl, wE, mAE, fun x' y h0 h1 y0 y1 a b => ?_⟩
      by_cases q : x' = x
      · rw [q] at a ⊢; exact qE y y0 y1 a b
      · exact pE x' y h0 (by omega) y0 y1 a b
    rw [h2, bind_ok]
    refine ⟨B, rfl, wB, fun x y x0 x1 y0 y1 h => ?_⟩
    rw [show (z + 1).toNat = z.toNat + 1 by omega] at h
    have ez : ((z.toNat : Nat) : Int) = z := Int.toNat_of_nonneg z0
    rcases h with h | ⟨a, b⟩
    · exact mAB x y x0 x1 y0 y1 (pA x y x0 x1 y0 y1 h)
    · rw [ez] at a b
      exact pB x y x0 x1 y0 y1 (pA x z x0 x1 z0 z1 a) (pA z y z0 z1 y0 y1 b)
  rw [h1, bind_ok, bind_ok]
  have hM : ∀ x y, 0 ≤ x → x < n → 0 ≤ y → y < n → (mB M x y = true ↔ ix r x = ix r y) := fun x y x0 x1 y0 y1 =>
    ⟨fun h => (C.iff ⟨x0, x1⟩ ⟨y0, y1⟩).mpr (w.so x y x0 x1 y0 y1 h), fun h => hp x y x0 x1 y0 y1 (Pth.all hin ⟨x0, x1⟩ ((C.iff ⟨x0, x1⟩ ⟨y0, y1⟩).mp h))⟩
  rw [pMap_ok (ix r) (by simp; omega) fun x hx => by
    have hx := mem_rng.mp hx
    rw [bind_ok, pFil_ok (fun y => mB M x y) (fun y => y) (by simp; omega) (fun y hy => by
      have hy := mem_rng.mp hy
      rw [w.sq.at1 hx.1 hx.2, bind_ok, w.sq.at2 hx.1 hx.2 hy.1 hy.2]) (fun _ _ _ => rfl), bind_ok, List.map_id']
    have lx := C.e.lt hx.1 hx.2
    refine pMin_is (List.mem_filter.mpr ⟨mem_rng.mpr lx, (hM x _ hx.1 hx.2 lx.1 lx.2).mpr (C.e.id x hx.1 hx.2).symm⟩) fun y hy => ?_
    obtain ⟨h1, h2⟩ := List.mem_filter.mp hy
    have h1 := mem_rng.mp h1
    rw [(hM x y hx.1 hx.2 h1.1 h1.2).mp h2]
    exact C.e.le y h1.1 h1.2, bind_ok]
  rw [← C.e.len]
  congr 1
  exact (list_rng rfl).symm
end LAW

namespace LAW
open DL PySem L2
theorem pNe_py {α : Type} [DecidableEq α] {e : α → D} {k : Nat} (p : Py e k) (hk : k ≤ 64) (x y : α) : pNe (e x) (e y) = .ok (!decide (x = y)) := by
  have h := eq_py p (x := x) (y := y) hk
  simp only [opEq] at h
  unfold pNe
  cases hq : eqD (e x) (e y) with
  | none => rw [hq] at h; cases h
  | some b => rw [hq] at h; simp only [Option.some.injEq, D.bl.injEq, eB] at h; rw [h]
theorem pEq_py {α : Type} [DecidableEq α] {e : α → D} {k : Nat} (p : Py e k) (hk : k ≤ 64) (x y : α) : pEq (e x) (e y) = .ok (decide (x = y)) := by
  have h := eq_py p (x := x) (y := y) hk
  simp only [opEq] at h
  unfold pEq
  cases hq : eqD (e x) (e y) with
  | none => rw [hq] at h; cases h
  | some b => rw [hq] at h; simp only [Option.some.injEq, D.bl.injEq, eB] at h; rw [h]; rfl
/-! drawn pairs -/
theorem filS_draw {n : Int} (n0 : 0 ≤ n) (n1 : n ≤ 6) (b : Bool) (hb : b = true → n > 0) : ∀ (xs : List Int) (r : List Int), StOk r → Ok (filS (fun (x5 : Int) (r6 : List Int) => .ok (b, r6)) (fun (x5 : Int) (r6 : List Int) => M.bind (P__law_take r6 n) fun c8 => M.bind (P__law_take c8.2 n) fun c10 => .ok ((c8.1, c10.1), c10.2)) xs r) (fun q => (InP n q.1 ∧ q.1.length ≤ xs.length) ∧ StOk q.2)
  | [], r, hr => Ok.pure ⟨⟨fun _ h => absurd h List.not_mem_nil, Nat.le_refl _⟩, hr⟩
  | x :: xs, r, hr => by
    have ih := filS_draw n0 n1 b hb xs
    simp only [filS, bind_ok]
    cases b with
    | true =>
      have h := hb rfl
      rw [if_pos rfl]
      simp only [bind_bind, bind_ok]
      refine (take_d (m := n) h (by omega) r hr).bind fun c hc => (take_d (m := n) h (by omega) c.2 hc.2).bind fun d hd => (ih d.2 hd.2).bind fun q hq => ?_
      refine Ok.pure ⟨⟨fun p hp => ?_, ?_⟩, hq.2⟩
      · rcases List.mem_cons.mp hp with rfl | hp
        · exact ⟨hc.1, hd.1⟩
        · exact hq.1.1 p hp
      · have := hq.1.2
        simp; omega
    | false =>
      rw [if_neg Bool.false_ne_true]
      exact (ih r hr).imp fun q hq => ⟨⟨hq.1.1, by have := hq.1.2; simp; omega⟩, hq.2⟩
theorem drawn_d {n : Int} (n0 : 0 ≤ n) (n1 : n ≤ 6) : Draw (fun r => P__law_drawn r n) (fun ps => InP n ps ∧ ps.length ≤ 4) := by
  intro r hr
  have hb : big = 16777216 := rfl
  show Ok (P__law_drawn r n) _
  unfold P__law_drawn
  refine Ok.bind (P := fun q : List (Int × Int) × List Int => (InP n q.1 ∧ q.1.length ≤ 4) ∧ StOk q.2) ?_ fun q hq => Ok.pure hq
  refine Ok.bind (P := fun c : List Int × List Int => c.1.length ≤ 4 ∧ StOk c.2) ((take_d (m := 5) (by decide) (by decide) r hr).bind fun c hc => ?_) fun c hc => ?_
  · rw [pRng_ok hc.1.1 (by omega), bind_ok]
    exact Ok.pure ⟨by rw [len_rng]; omega, hc.2⟩
  · unfold pFilS
    rw [if_pos (by omega)]
    exact (filS_draw n0 n1 _ (fun h => of_decide_eq_true h) c.1 c.2 hc.2).imp fun q hq => ⟨⟨hq.1.1, by have := hq.1.2; omega⟩, hq.2⟩
/-! meet, refines, classes -/
section
variable {n : Int} {a b : List Int}
def bothB (a b : List Int) (x y : Int) : Bool := decide (ix a x = ix a y) && decide (ix b x = ix b y)
def mt0 (n : Int) (a b : List Int) (x : Int) : Int := minL ((rng n).filter (bothB a b x))
theorem mt0_sp {x : Int} (hx : 0 ≤ x ∧ x < n) : (0 ≤ mt0 n a b x ∧ mt0 n a b x ≤ x) ∧ bothB a b x (mt0 n a b x) = true ∧ ∀ y, 0 ≤ y → y < n → bothB a b x y = true → mt0 n a b x ≤ y := by
  have hm : x ∈ (rng n).filter (bothB a b x) := List.mem_filter.mpr ⟨mem_rng.mpr hx, by simp [bothB]⟩
  obtain ⟨h1, h2⟩ := minL_spec (is := (rng n).filter (bothB a b x)) (fun z => by rw [z] at hm; cases hm)
  obtain ⟨h3, h4⟩ := List.mem_filter.mp h1
  exact ⟨⟨(mem_rng.mp h3).1, h2 x hm⟩, h4, fun y y0 y1 q => h2 y (List.mem_filter.mpr ⟨mem_rng.mpr ⟨y0, y1⟩, q⟩)⟩
def bth (n : Int) (a b : List Int) : List Int := (rng n).map (mt0 n a b)
theorem both_d (n0 : 0 ≤ n) (n1 : n ≤ 1000) (A : Eqv n a) (B : Eqv n b) : (M.bind (pRng n) fun c22 => pMap (fun (x23 : Int) => M.bind (M.bind (pRng n) fun c24 => pFil (fun (x25 : Int) => M.bind (M.bind (pAt a x23) fun c26 => M.bind (pAt a x25) fun c27 => .ok (decide (c26 = c27))) fun c28 => if c28 = true then M.bind (pAt b x23) fun c29 => M.bind (pAt b x25) fun c30 => .ok (decide (c29 = c30)) else .ok false) (fun (x25 : Int) => .ok x25) c24) fun c31 => pMin c31) c22) = .ok (bth n a b) := by
  have hb : big = 16777216 := rfl
  rw [pRng_ok n0 (by omega), bind_ok, pMap_ok (mt0 n a b) (by simp; omega) fun x hx => ?_]
  · rfl
  · have hx := mem_rng.mp hx
    rw [bind_ok, pFil_ok (bothB a b x) (fun y => y) (by simp; omega) (fun y hy => by
      have hy := mem_rng.mp hy
      rw [A.at hx.1 hx.2, bind_ok, A.at hy.1 hy.2, bind_ok, bind_ok, B.at hx.1 hx.2, bind_ok, B.at hy.1 hy.2, bind_ok]
      unfold bothB
      cases decide (ix a x = ix a y) <;> rfl) (fun _ _ _ => rfl), bind_ok, List.map_id']
    obtain ⟨⟨h0, h1⟩, h2, h3⟩ := mt0_sp (n := n) (a := a) (b := b) hx
    exact pMin_is (List.mem_filter.mpr ⟨mem_rng.mpr ⟨h0, by omega⟩, h2⟩) fun y hy => by
      obtain ⟨p, q⟩ := List.mem_filter.mp hy
      exact h3 y (mem_rng.mp p).1 (mem_rng.mp p).2 q
theorem meet_d (n0 : 0 ≤ n) (n1 : n ≤ 1000) (A : Eqv n a) (B : Eqv n b) : P_meet a b = .ok (bth n a b) := by
  have hb : big = 16777216 := rfl
  unfold P_meet
  rw [A.len, pRng_ok n0 (by omega), bind_ok, pfold_app (mt0 n a b) (rng n) [] (by simp; omega) fun x hx acc hacc => ?_]
  · rfl
  · have hx := mem_rng.mp hx
    obtain ⟨⟨h0, h1⟩, h2, h3⟩ := mt0_sp (n := n) (a := a) (b := b) hx
    have bs : ∀ y, (decide (ix a y = ix a x) && decide (ix b y = ix b x)) = bothB a b x y := fun y => by
      unfold bothB
      congr 1 <;> exact decide_eq_decide.mpr eq_comm
    rw [pRng_ok (by omega) (by omega), bind_ok, pFil_ok (bothB a b x) (fun y => y) (by simp; omega) (fun y hy => by
      have hy := mem_rng.mp hy
      rw [A.at hy.1 (by omega), bind_ok, A.at hx.1 hx.2, bind_ok, bind_ok, B.at hy.1 (by omega), bind_ok, B.at hx.1 hx.2, bind_ok, ← bs y]
      cases decide (ix a y = ix a x) <;> rfl) (fun _ _ _ => rfl), bind_ok, List.map_id',
      pMin_is (m := mt0 n a b x) (List.mem_filter.mpr ⟨mem_rng.mpr ⟨h0, by omega⟩, h2⟩) (fun y hy => by
        obtain ⟨p, q⟩ := List.mem_filter.mp hy
        have p := mem_rng.mp p
        exact h3 y p.1 (by omega) q), bind_ok, pApp_ok hacc, bind_ok]
theorem refines_d (n0 : 0 ≤ n) (n1 : n ≤ 1000) (la : (a.length : Int) = n) (ha : ∀ x, 0 ≤ x → x < n → 0 ≤ ix a x ∧ ix a x < n) (lb : (b.length : Int) = n) : P_refines a b = .ok ((rng n).all fun x => decide (ix b x = ix b (ix a x))) := by
  have hb : big = 16777216 := rfl
  unfold P_refines
  rw [la, pRng_ok n0 (by omega), bind_ok, pMap_ok (fun x => decide (ix b x = ix b (ix a x))) (by simp; omega) fun x hx => ?_]
  · rw [bind_ok, bind_ok, List.all_map]; rfl
  · have hx := mem_rng.mp hx
    have h := ha x hx.1 hx.2
    rw [pAt_ok hx.1 (by rw [lb]; exact hx.2), bind_ok, pAt_ok hx.1 (by rw [la]; exact hx.2), bind_ok, pAt_ok h.1 (by rw [lb]; exact h.2), bind_ok]
end
/-! keys -/
def kd (i : Fin 4) : D := if i = 0 then eS ("x" : Str) else if i = 1 then eI 5 else if i = 2 then (eT eI) [1] else eS ("y" : Str)
def kp (i : Fin 4) : PyData := if i = 0 then .str ("x" : Str) else if i = 1 then .int 5 else if i = 2 then .tuple [.int 1] else .str ("y" : Str)
theorem f4 {p : Fin 4 → Prop} (h0 : p 0) (h1 : p 1) (h2 : p 2) (h3 : p 3) : ∀ i, p i := fun i => by
  match i with
  | ⟨0, _⟩ => exact h0
  | ⟨1, _⟩ => exact h1
  | ⟨2, _⟩ => exact h2
  | ⟨3, _⟩ => exact h3
theorem kp_eqv : (List.finRange 4).all (fun a => (List.finRange 4).all fun b => PyData.eqv (kp a) (kp b) == decide (a = b)) = true := by decide +kernel
def pyK : Py kd 1 := ⟨kp, f4 (by simp [kd, kp, eS, toPy]) (by simp [kd, kp, eI, toPy]) (by simp [kd, kp, eT, eI, toPy, toPys]) (by simp [kd, kp, eS, toPy]), f4 (by decide +kernel) (by decide +kernel) (by decide +kernel) (by decide +kernel),
  f4 (by decide +kernel) (by decide +kernel) (by decide +kernel) (by decide +kernel), fun a b => by
    have := List.all_eq_true.mp (List.all_eq_true.mp kp_eqv a (List.mem_finRange a)) b (List.mem_finRange b)
    rw [beq_iff_eq] at this
    rw [this, decide_eq_true_iff]⟩
theorem kd_eqF : (List.finRange 4).all (fun a => (List.finRange 4).all fun b => !(flatD (kd a) && flatD (kd b)) || eqF (kd a) (kd b) == decide (a = b)) = true := by decide +kernel
theorem eqF_kd {a b : Fin 4} (ha : flatD (kd a) = true) (hb : flatD (kd b) = true) : eqF (kd a) (kd b) = decide (a = b) := by
  have := List.all_eq_true.mp (List.all_eq_true.mp kd_eqF a (List.mem_finRange a)) b (List.mem_finRange b)
  rw [ha, hb] at this
  simpa using this
theorem ixF_kd {x : Fin 4} (hx : flatD (kd x) = true) : ∀ (xs : List (Fin 4)) (i : Nat), (∀ y ∈ xs, flatD (kd y) = true) → ixF (fun z => eqF z (kd x)) i (xs.map kd) = if x ∈ xs then some (i + xs.idxOf x) else none
  | [], i, _ => by simp [ixF]
  | y :: ys, i, h => by
    have ih := ixF_kd hx ys (i + 1) fun z hz => h z (List.mem_cons_of_mem _ hz)
    have he := eqF_kd (h y List.mem_cons_self) hx
    by_cases e : y = x
    · rw [decide_eq_true e] at he
      subst e; simp [ixF, he]
    · rw [decide_eq_false e] at he
      have h2 : ¬ x = y := fun z => e z.symm
      simp only [List.map_cons, ixF, he, ih, List.mem_cons, h2, false_or, List.idxOf_cons]
      have h3 : (y == x) = false := by simp [e]
      simp only [h3]
      by_cases hm : x ∈ ys
      · rw [if_neg Bool.false_ne_true, if_pos hm, if_pos hm]
        simp; omega
      · rw [if_neg Bool.false_ne_true, if_neg hm, if_neg hm]
theorem index_kd {x : Fin 4} {xs : List (Fin 4)} (h : x ∈ xs) : opIndex ((eL eD) (xs.map kd)) (kd x) = some (eI (idx xs x)) := by
  have e : (eL eD) (xs.map kd) = .lst (xs.map kd) := by unfold eL; rw [List.map_map]; rfl
  rw [e]
  have hi : idx xs x = (xs.idxOf x : Int) := rfl
  unfold opIndex
  simp only
  by_cases hf : (flatD (kd x) && (xs.map kd).all flatD) = true
  · rw [if_pos hf]
    rw [Bool.and_eq_true, List.all_eq_true] at hf
    rw [ixF_kd hf.1 xs 0 fun y hy => hf.2 _ (List.mem_map.mpr ⟨y, hy, rfl⟩), if_pos h]
    simp [eI, hi]
  · rw [if_neg hf, toPys_map pyK]
    have e1 : toPy (kd x) = some (kp x) := pyK.to x
    rw [e1]
    simp only
    have s1 : SeqAt.shaped (kp x) = true := shaped_of pyK (by decide) x
    have s2 : SeqAt.shaped (.list (xs.map pyK.py)) = true := shapedL pyK (by decide) xs
    rw [s1, s2]
    have hx := ixP_eq pyK x xs 0
    rw [if_pos h] at hx
    have hx : ixP (fun z => PyData.eqv z (kp x)) 0 (xs.map pyK.py) = some (0 + xs.idxOf x) := hx
    rw [hx]
    simp [eI, hi]
theorem mapGo_map {α β γ : Type} {f : β → M γ} {g : α → β} : ∀ xs : List α, mapGo f (xs.map g) = mapGo (fun x => f (g x)) xs
  | [] => rfl
  | x :: xs => by simp only [List.map_cons, mapGo, mapGo_map xs]
theorem bykeys_d {is : List (Fin 4)} (hl : is.length ≤ 1000) : P_by_keys (is.map kd) = .ok (is.map fun i => eI (idx is i)) := by
  have hb : big = 16777216 := rfl
  unfold P_by_keys pMap
  rw [if_pos (by rw [List.length_map]; omega), mapGo_map, mapGo_ok (g := fun i => eI (idx is i)) fun i hi => by rw [index_kd hi]; rfl]
  rfl
end LAW

namespace LAW
open DL PySem L2
def due3 (l : List Int) : M Bool := M.bind (M.bind (pAt l 0) fun c115 => .ok (decide (c115 = 0))) fun c116 => if c116 = true then M.bind (M.bind (pAt l 1) fun c135 => .ok (decide (c135 < 2))) fun c136 => if c136 = true then M.bind (M.bind (pAt l 2) fun c145 => .ok (decide (c145 < 3))) fun c146 => if c146 = true then M.bind (M.bind (pAt l 2) fun c150 => pAt l c150) fun c151 => M.bind (pAt l 2) fun c152 => .ok (decide (c151 = c152)) else .ok false else .ok false else .ok false
def due3B (l : List Int) : Bool := match due3 l, P_is_equivalence l 3 with | .ok a, .ok b => a == b | _, _ => false
theorem due3_all : ([0, 1, 2, 3] : List Int).all (fun a => ([0, 1, 2, 3] : List Int).all fun b => ([0, 1, 2, 3] : List Int).all fun c => due3B [a, b, c]) = true := by decide +kernel
theorem due3_d {l : List Int} (hl : l.length = 3) (h : ∀ x ∈ l, 0 ≤ x ∧ x < 4) : ∃ d, due3 l = .ok d ∧ P_is_equivalence l 3 = .ok d := by
  match l, hl with
  | [a, b, c], _ =>
    have m4 : ∀ x ∈ [a, b, c], x ∈ ([0, 1, 2, 3] : List Int) := fun x hx => by
      have := h x hx
      have : x = 0 ∨ x = 1 ∨ x = 2 ∨ x = 3 := by omega
      rcases this with rfl | rfl | rfl | rfl <;> decide
    have := List.all_eq_true.mp (List.all_eq_true.mp (List.all_eq_true.mp due3_all a (m4 a (by simp))) b (m4 b (by simp))) c (m4 c (by simp))
    unfold due3B at this
    split at this
    · rename_i x y e1 e2
      rw [beq_iff_eq] at this
      subst this
      exact ⟨x, e1, e2⟩
    · cases this
theorem kmap : ∀ l : List D, (∀ d ∈ l, ∃ i : Fin 4, d = kd i) → ∃ is : List (Fin 4), l = is.map kd
  | [], _ => ⟨[], rfl⟩
  | d :: l, h => by
    obtain ⟨is, e⟩ := kmap l fun x hx => h x (List.mem_cons_of_mem _ hx)
    obtain ⟨i, e2⟩ := h d List.mem_cons_self
    exact ⟨i :: is, by rw [e, e2]; rfl⟩
def badB (n : Int) (v : D) : Prop := P_is_equivalence_2 v n = .ok false
theorem bad_l {n : Int} {l : List D} : badB n (.lst l) := rfl
theorem bad_t {n : Int} {l : List D} (h : (l.length : Int) ≠ n) : badB n (.tup l) := by
  unfold badB P_is_equivalence_2
  have e1 : pIsi "tuple" (.tup l) = .ok true := rfl
  have e2 : pLenD (.tup l) = .ok (l.length : Int) := rfl
  rw [e1, bind_ok, bind_ok, Bool.not_true, if_neg Bool.false_ne_true, e2, bind_ok, bind_ok, decide_eq_false h]
  rfl
theorem bad2 : ∀ v ∈ [((eP2 eI eB) (0, true)), ((eP2 eI eU) (0, ())), ((eP2 eI eI) (0, -1)), ((eP2 eI eI) (1, 1)), ((eP2 eI eI) (0, 2)), ((eT eI) [0]), ((eL eI) [0, 1])], badB 2 v := by
  intro v hv
  simp only [List.mem_cons, List.not_mem_nil, or_false] at hv
  rcases hv with rfl | rfl | rfl | rfl | rfl | rfl | rfl
  all_goals first | rfl | exact bad_t (by decide)
theorem bad3 : ∀ v ∈ [(eB true), (eB false), (eU ()), (eS ("1" : Str)), ((eT eI) [1]), ((eL eI) [1])], P_is_integer_2 v = .ok false := by
  intro v hv
  simp only [List.mem_cons, List.not_mem_nil, or_false] at hv
  rcases hv with rfl | rfl | rfl | rfl | rfl | rfl <;> rfl
theorem p_law (ns : List Int) : P_law ns = .ok true := by
  apply Ok.eq
  have hb : big = 16777216 := rfl
  unfold P_law
  refine Ok.bind (Ok.nx (state_d ns)) fun r hr => ?_
  refine (take_d (m := 7) (by decide) (by decide) r hr).bind fun c hc => ?_
  obtain ⟨n, r⟩ := c
  obtain ⟨⟨n0, n6⟩, hr⟩ := hc
  simp only at n0 n6 hr ⊢
  refine (drawn_d n0 (by omega) r hr).bind fun c hc => ?_
  obtain ⟨p1, r⟩ := c
  obtain ⟨⟨i1, l1⟩, hr⟩ := hc
  simp only at i1 l1 hr ⊢
  refine (drawn_d n0 (by omega) r hr).bind fun c hc => ?_
  obtain ⟨p2, r⟩ := c
  obtain ⟨⟨i2, l2⟩, hr⟩ := hc
  simp only at i2 l2 hr ⊢
  obtain ⟨a, ea, Ca⟩ := classes_of_d n0 (by omega) i1
  obtain ⟨b, eb, Cb⟩ := classes_of_d n0 (by omega) i2
  have i12 : InP n (p1 ++ p2) := fun p hp => by
    rcases List.mem_append.mp hp with hp | hp
    · exact i1 p hp
    · exact i2 p hp
  obtain ⟨j, ej, Cj⟩ := joined_d n0 (by omega) Ca.e Cb.e
  have A := Ca.e
  have B := Cb.e
  have J := Cj.e
  -- the joined one is that of all pairs
  have Cj2 : ClsOf n (p1 ++ p2) j := by
    refine ⟨J, fun p hp => ?_, fun x y x0 x1 y0 y1 e => ?_⟩
    · have hp2 := i12 p hp
      refine (Cj.iff hp2.1 hp2.2).mpr ((join_iff A B).mpr fun c hc => ?_)
      rcases List.mem_append.mp hp with hp | hp
      · have := Ca.on p hp
        rw [(hc p.1 hp2.1.1 hp2.1.2).1, (hc p.2 hp2.2.1 hp2.2.2).1, this]
      · have := Cb.on p hp
        rw [(hc p.1 hp2.1.1 hp2.1.2).2, (hc p.2 hp2.2.1 hp2.2.2).2, this]
    · have := (join_iff A B).mp (Cj.of x y x0 x1 y0 y1 e)
      intro c hc
      refine this c fun i h0 h1 => ⟨?_, ?_⟩
      · have la := A.lt h0 h1
        exact (Ca.of i (ix a i) h0 h1 la.1 la.2 (A.id i h0 h1).symm) c fun p hp => hc p (List.mem_append_left _ hp)
      · have la := B.lt h0 h1
        exact (Cb.of i (ix b i) h0 h1 la.1 la.2 (B.id i h0 h1).symm) c fun p hp => hc p (List.mem_append_right _ hp)
  rw [near_d n0 (by omega) i1 Ca, bind_ok, near_d n0 (by omega) i2 Cb, bind_ok, ea, bind_ok, decide_eq_true rfl, bind_ok, Bool.not_true, if_neg Bool.false_ne_true]
  have eb2 : P_classes_of_2 p2 n = .ok b := eb
  rw [eb2, bind_ok, decide_eq_true rfl, bind_ok, Bool.not_true, if_neg Bool.false_ne_true, ej, bind_ok, pCat_ok (by omega), bind_ok, near_d n0 (by omega) i12 Cj2, bind_ok, decide_eq_true rfl, bind_ok, Bool.not_true, if_neg Bool.false_ne_true,
    both_d n0 (by omega) A B, bind_ok, meet_d n0 (by omega) A B, bind_ok, decide_eq_true rfl, bind_ok, Bool.not_true, if_neg Bool.false_ne_true]
  have lbt : ((bth n a b).length : Int) = n := by unfold bth; simp; omega
  have btx : ∀ x, 0 ≤ x → x < n → ix (bth n a b) x = mt0 n a b x := fun x x0 x1 => by unfold bth; rw [ix_map_rng x0 x1]
  have hr1 : P_refines (bth n a b) a = .ok true := by
    rw [refines_d n0 (by omega) lbt (fun x x0 x1 => by rw [btx x x0 x1]; have := (mt0_sp (n := n) (a := a) (b := b) ⟨x0, x1⟩).1; omega) A.len]
    congr 1
    rw [List.all_eq_true]
    intro x hx
    have hx := mem_rng.mp hx
    have := (mt0_sp (n := n) (a := a) (b := b) hx).2.1
    unfold bothB at this
    rw [Bool.and_eq_true, decide_eq_true_eq] at this
    rw [btx x hx.1 hx.2]
    exact decide_eq_true this.1
  have hr2 : P_refines a j = .ok true := by
    rw [refines_d n0 (by omega) A.len (fun x x0 x1 => A.lt x0 x1) J.len]
    congr 1
    rw [List.all_eq_true]
    intro x hx
    have hx := mem_rng.mp hx
    have la := A.lt hx.1 hx.2
    exact decide_eq_true ((Cj.iff hx la).mpr ((join_iff A B).mpr fun c hc => (hc x hx.1 hx.2).1))
  have hr3 := refines_d n0 (by omega) A.len (fun x x0 x1 => A.lt x0 x1) B.len
  rw [hr1, bind_ok, decide_eq_true rfl, bind_ok, Bool.not_true, if_neg Bool.false_ne_true, bind_ok, hr2, bind_ok, decide_eq_true rfl, bind_ok, Bool.not_true, if_neg Bool.false_ne_true, pRng_ok n0 (by omega), bind_ok,
    pFil_ok (fun x => !decide (ix b (ix a x) = ix b x)) (fun x => x) (by simp; omega) (fun x hx => by
      have hx := mem_rng.mp hx
      have la := A.lt hx.1 hx.2
      rw [A.at hx.1 hx.2, bind_ok, B.at la.1 la.2, bind_ok, B.at hx.1 hx.2, bind_ok]) (fun _ _ _ => rfl), bind_ok, List.map_id', bind_ok, bind_ok, hr3, bind_ok]
  have hfine : (rng n).all (fun x => decide (ix b x = ix b (ix a x))) = decide ((((rng n).filter fun x => !decide (ix b (ix a x) = ix b x)).length : Int) = 0) := by
    by_cases h : ∀ x ∈ rng n, ix b x = ix b (ix a x)
    · have e1 : (rng n).filter (fun x => !decide (ix b (ix a x) = ix b x)) = [] := List.filter_eq_nil_iff.mpr fun x hx => by rw [decide_eq_true (h x hx).symm]; exact Bool.false_ne_true
      rw [e1]
      exact (List.all_eq_true.mpr fun x hx => decide_eq_true (h x hx)).trans rfl
    · have : ¬ (((rng n).filter fun x => !decide (ix b (ix a x) = ix b x)).length : Int) = 0 := fun z => h fun x hx => by
        have e1 : (rng n).filter (fun x => !decide (ix b (ix a x) = ix b x)) = [] := List.eq_nil_of_length_eq_zero (by omega)
        have := List.filter_eq_nil_iff.mp e1 x hx
        rw [Bool.not_eq_true', decide_eq_false_iff_not] at this
        exact Classical.byContradiction fun q => this fun z => q z.symm
      rw [decide_eq_false this]
      rw [List.all_eq_false]
      exact Classical.byContradiction fun z => h fun x hx => Classical.byContradiction fun q => z ⟨x, hx, by simpa using q⟩
  rw [hfine, decide_eq_true rfl, Bool.not_true, Bool.or_false, if_neg Bool.false_ne_true]
  -- the sets
  have hset : ∀ x : Int, pFil (fun (x54 : Int) => M.bind (pAt a x54) fun c55 => .ok (decide (c55 = x))) (fun (x54 : Int) => .ok x54) (rng n) = .ok ((rng n).filter fun y => decide (ix a y = x)) := fun x => by
    rw [pFil_ok (fun y => decide (ix a y = x)) (fun y => y) (by simp; omega) (fun y hy => by rw [A.at (mem_rng.mp hy).1 (mem_rng.mp hy).2, bind_ok]) (fun _ _ _ => rfl), List.map_id']
  rw [bind_ok, pFil_ok (fun x => decide (ix a x = x)) (fun x => (rng n).filter fun y => decide (ix a y = x)) (by simp; omega) (fun x hx => by rw [A.at (mem_rng.mp hx).1 (mem_rng.mp hx).2, bind_ok]) (fun x _ _ => by rw [bind_ok, hset x]), bind_ok]
  have hcs : P_class_sets a = .ok (((rng n).filter fun x => decide (ix a x = x)).map fun x => (rng n).filter fun y => decide (ix a y = x)) := by
    unfold P_class_sets
    have hf := List.length_filter_le (fun x => decide (ix a x = x)) (rng n)
    rw [len_rng] at hf
    rw [A.len, pRng_ok n0 (by omega), bind_ok, pFil_ok (fun x => decide (ix a x = x)) (fun x => x) (by simp; omega) (fun x hx => by rw [A.at (mem_rng.mp hx).1 (mem_rng.mp hx).2, bind_ok]) (fun _ _ _ => rfl), bind_ok, List.map_id',
      pMap_ok (fun x => (rng n).filter fun y => decide (ix a y = x)) (by omega) (fun x _ => by rw [bind_ok, hset x]), bind_ok]
  -- the keys
  refine Ok.bind (P := fun c : List D × List Int => (∃ is : List (Fin 4), c.1 = is.map kd ∧ (is.length : Int) = n) ∧ StOk c.2) ?_ fun c hc => ?_
  · rw [bind_ok]
    refine (pMapS_draw (Q := fun d : D => ∃ i : Fin 4, d = kd i) (by simp; omega) (fun x _ r hr => (take_d (m := 4) (by decide) (by decide) r hr).bind fun c hc => ?_) r hr).imp fun c hc => ?_
    · obtain ⟨v, r⟩ := c
      obtain ⟨⟨v0, v1⟩, hr⟩ := hc
      simp only at v0 v1 hr ⊢
      have : v = 0 ∨ v = 1 ∨ v = 2 ∨ v = 3 := by omega
      rcases this with rfl | rfl | rfl | rfl
      · exact Ok.pure ⟨⟨0, rfl⟩, hr⟩
      · exact Ok.pure ⟨⟨1, rfl⟩, hr⟩
      · exact Ok.pure ⟨⟨2, rfl⟩, hr⟩
      · exact Ok.pure ⟨⟨3, rfl⟩, hr⟩
    · obtain ⟨⟨h1, h2⟩, h3⟩ := hc
      obtain ⟨is, e⟩ := kmap c.1 h2
      refine ⟨⟨is, e, ?_⟩, h3⟩
      rw [e] at h1
      simp at h1
      omega
  obtain ⟨ds, r⟩ := c
  obtain ⟨⟨is, rfl, lis⟩, hr⟩ := hc
  simp only at hr ⊢
  rw [hcs, bind_ok, decide_eq_true rfl, bind_ok, Bool.not_true, if_neg Bool.false_ne_true, bykeys_d (by omega), bind_ok]
  have atk : ∀ x, 0 ≤ x → x < n → pAt (is.map kd) x = .ok (kd (ix is x)) := fun x x0 x1 => by
    obtain ⟨k, rfl⟩ := Int.eq_ofNat_of_zero_le x0
    have hk : k < is.length := by omega
    unfold pAt
    rw [DL.atI_nat, List.getElem?_map, List.getElem?_eq_getElem hk]
    simp [ix, hk]
  rw [bind_ok, pMap_ok (fun x => idx is (ix is x)) (by simp; omega) (fun x hx => by
    have hx := mem_rng.mp hx
    have hm : ix is x ∈ is := ix_mem hx.1 (by omega)
    have hi := idx_lt hm
    rw [bind_ok, pFil_ok (fun y => decide (ix is y = ix is x)) (fun y => y) (by simp; omega) (fun y hy => by
      have hy := mem_rng.mp hy
      rw [atk y hy.1 hy.2, bind_ok, atk x hx.1 hx.2, bind_ok, pEq_py pyK (by decide)]) (fun _ _ _ => rfl), bind_ok, List.map_id']
    refine pMin_is (List.mem_filter.mpr ⟨mem_rng.mpr ⟨hi.1, by omega⟩, decide_eq_true (ix_idx hm)⟩) fun y hy => ?_
    obtain ⟨h1, h2⟩ := List.mem_filter.mp hy
    have h1 := mem_rng.mp h1
    rcases Int.lt_or_le y (idx is (ix is x)) with q | q
    · exact absurd (of_decide_eq_true h2) (idx_first h1.1 q)
    · exact q), bind_ok]
  have ekeys : (is.map fun i => eI (idx is i)) = ((rng n).map fun x => idx is (ix is x)).map eI := by
    have e := list_rng (xs := is) lis
    conv => lhs; rw [e]
    rw [List.map_map, List.map_map]
    refine List.map_congr_left fun x hx => ?_
    show eI (idx ((rng n).map (ix is)) (ix is x)) = eI (idx is (ix is x))
    rw [← e]
  have eTD : ∀ l : List Int, (eT eD) (l.map eI) = (eT eI) l := fun l => by unfold eT; rw [List.map_map]; rfl
  rw [ekeys, eTD, pNe_py (pyT pyI) (by decide), decide_eq_true rfl, bind_ok, Bool.not_true, if_neg Bool.false_ne_true]
  -- a drawn row of three
  have e3 : pRng 3 = .ok (rng 3) := pRng_ok (by decide) (by decide)
  rw [e3, bind_ok]
  refine (pMapS_draw (Q := fun v : Int => 0 ≤ v ∧ v < 4) (by simp) (fun x _ r hr => take_d (m := 4) (by decide) (by decide) r hr) r hr).bind fun c hc => ?_
  obtain ⟨vs, r⟩ := c
  obtain ⟨⟨lv, hv⟩, hr⟩ := hc
  simp only at lv hv hr ⊢
  obtain ⟨d, d1, d2⟩ := due3_d (l := vs) (by rw [lv]; rfl) hv
  unfold due3 at d1
  rw [d1, bind_ok, d2, bind_ok, if_neg Bool.false_ne_true, decide_eq_true rfl, Bool.not_true, if_neg Bool.false_ne_true, iseq_d (by omega) n0 A, bind_ok, decide_eq_true rfl, bind_ok, Bool.not_true, if_neg Bool.false_ne_true]
  have la := A.len
  rw [pCat_ok (by simp; omega), bind_ok, bind_ok, pCat_ok (by simp; omega), bind_ok, bind_ok, bind_ok]
  rw [pfor_all fun v hv => ?_]
  · rw [bind_ok, pK_inl, pfor_all fun v hv => ?_]
    · rw [bind_ok, pK_inl, pfor_all fun v hv => ?_]
      · exact Ok.pure rfl
      · rw [bad3 v hv]; rfl
    · have := bad2 v hv
      unfold badB at this
      rw [this]; rfl
  · have : badB n v := by
      simp only [List.mem_cons, List.not_mem_nil, or_false] at hv
      rcases hv with rfl | rfl | rfl | rfl | rfl | rfl
      · exact bad_l
      · exact bad_t (by simp; omega)
      · exact bad_t (by simp; omega)
      · rfl
      · rfl
      · rfl
    unfold badB at this
    rw [this]; rfl
end LAW

namespace LAW
open DL PySem L2
theorem math (ns : List Int) : d_law [.scr ns] = .ok (.bl true) := by
  have h := S_law ns
  rw [p_law ns] at h
  exact h
end LAW

open PySem PySem.W PySem.Calls PyProof.Rows
set_option maxRecDepth 100000 in
set_option maxHeartbeats 8000000 in
theorem PySem.Challenge.cw_reesblocks_k00_equivalences_holds : PySem.Challenge.rw_reesblocks_k00_equivalences.Holds := by
  w_on; o_law
  refine HandSHeadRun.head_any (r := OpenLaw.row PySem.Challenge.rw_reesblocks_k00_equivalences) (q := view (OpenLaw.row PySem.Challenge.rw_reesblocks_k00_equivalences).prog [14]) (H := LAW.hk) (ob := LAW.ob) (M := 4000) (loose := ["is_integer", "is_equivalence", "classes_of", "joined", "meet", "refines", "class_sets", "by_keys", "_law_state", "_law_take", "_law_near", "_law_drawn"]) (d := HandSHeadRun.topDef (OpenLaw.row PySem.Challenge.rw_reesblocks_k00_equivalences).prog 14) (kwd := []) LAW.ob_eq
    (by kernel_rfl) (fun s => by kernel_rfl) LAW.run (by kernel_rfl) (by kernel_rfl) (by kernel_rfl) (by rfl) (by first | assumption | decide +kernel) (by decide +kernel) ⟨rfl, rfl, rfl, rfl, rfl, by decide +kernel⟩ ?hw ?hc
  case hw => w_witness2
  case hc => exact DL.law_end (l := PySem.Challenge.rw_reesblocks_k00_equivalences) (k := 3) (by rfl) (by kernel_rfl) ⟨rfl, by decide, by decide⟩ (by kernel_rfl) (fun w K mg h KX G c => LAW.ok_law KX G c) LAW.math

